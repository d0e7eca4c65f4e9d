import PyProof.Rows.All
import Wide.All
import OpenK.AllK
import Wide.FinOn
import HandS.ForMost
import HandS.ForExc
import KE.KeyNested
import KE.KDictCopyH
import HandS.Flow
import HandS.Wide
import HandS.TupAny
import HandS.TupMul
import HandS.Deep
import KE.DataEq
import HandS.Style
import HandS.Text
import HandS.More
import HandS.Walk
import KE.GoesZip
import KE.GoesMore
import HandS.NoneIn
import HandS.Zip
import HandS.IsInst
import KE.KEqDeep
import KE.LtData
import HandS.SortInts
import HandS.TupSets
import KE.DataMinMax
import KE.KDictKeyed
import KE.KDictDisplayH
import KE.SortData
import KE.KDictSum
import HandS.Strs
import KE.GoesEnum
import KE.KEqDict
import PySem.Challenge.RW_dialheaps_k12_whole_closed_sets_and_side
set_option Elab.async false
set_option linter.all false
set_option maxRecDepth 100000
set_option maxHeartbeats 4000000
/-! VV: values as data over the hand layer. V0: what a value stands for, who owns what, the state -/
namespace VV
open PySem PySem.Spec L2
open PyProof.Rows hiding St

/-- program, world, written part -/
structure Px where
  P : Program
  w : World
  K : PySem.W.Frag

/-- a dict whose keys are tuples, its entries pinned -/
def TDict (q : Px) (a : Addr) (o : Obj) (xs : List (NestedKey × Addr × Value)) : HO :=
  .ext fun h => h.get? a = some o ∧ xs.length ≤ sizeLine ∧ (a == sysModules) = false ∧ o.ExactDict ∧ (∃ es ep, o.data = .dict es ep ∧ es.toList = xs.map (entryOfKey (nestedKind q.P q.w))) ∧ (xs.map (·.1)).Nodup

mutual
/-- the value v stands for the data d in the heap H -/
inductive Rep (q : Px) (H : Hp) : V → PyData → Prop
  | non : Rep q H .non .none
  | bl (b : Bool) : Rep q H (.bl b) (.bool b)
  | int (i : Int) : Rep q H (.int i) (.int i)
  | str (x : Str) : Rep q H (.str x) (.str x)
  | lst {a : Addr} {xs : List V} {ds : List PyData} : SqL q.K H a xs → Reps q H xs ds → Rep q H (.ref a) (.list ds)
  | tup {a : Addr} {xs : List V} {ds : List PyData} : SqT q.K H a xs → Reps q H xs ds → Rep q H (.ref a) (.tuple ds)
  | dctT {a : Addr} {o : Obj} {xs : List (NestedKey × Addr × Value)} {ds : List (PyData × PyData)} : H a = some (TDict q a o xs) → RepT q H xs ds → Rep q H (.ref a) (.dict ds)
inductive Reps (q : Px) (H : Hp) : List V → List PyData → Prop
  | nil : Reps q H [] []
  | cons {v : V} {vs : List V} {d : PyData} {ds : List PyData} : Rep q H v d → Reps q H vs ds → Reps q H (v :: vs) (d :: ds)
inductive RepT (q : Px) (H : Hp) : List (NestedKey × Addr × Value) → List (PyData × PyData) → Prop
  | nil : RepT q H [] []
  | cons {k : NestedKey} {b : Addr} {u : Value} {v : V} {xs : List (NestedKey × Addr × Value)} {d : PyData} {ds : List (PyData × PyData)} : Rep q H (.ref b) k.data → k.depth ≤ 8 → RelV v u → Rep q H v d → RepT q H xs ds →
      RepT q H ((k, b, u) :: xs) ((k.data, d) :: ds)
end

variable {q : Px}
theorem Same.seqT {K : PySem.W.Frag} {H H' : Hp} {a : Addr} {xs : List V} (e : Same H H') (h : SqT K H a xs) : SqT K H' a xs := by
  rcases h with (h | ⟨o, h⟩) | h
  · exact .inl (.inl (e _ _ h))
  · exact .inl (.inr ⟨o, e _ _ h⟩)
  · exact .inr h
theorem Same.rd {H H' : Hp} {a : Addr} {o : HO} (e : Same H H') (h : Rd H a o) : Rd H' a o := h.elim (fun h => .inl (e _ _ h)) fun ⟨u, h⟩ => .inr ⟨u, e _ _ h⟩
theorem Same.sqL {K : PySem.W.Frag} {H H' : Hp} {a : Addr} {xs : List V} (e : Same H H') (h : SqL K H a xs) : SqL K H' a xs := h.elim (fun h => .inl (Same.rd e h)) .inr
mutual
theorem Rep.mono {H H' : Hp} (s : Same H H') : ∀ {v : V} {d : PyData}, Rep q H v d → Rep q H' v d
  | _, _, .non => .non
  | _, _, .bl b => .bl b
  | _, _, .int i => .int i
  | _, _, .str x => .str x
  | _, _, .lst h r => .lst (Same.sqL s h) (Reps.mono s r)
  | _, _, .tup h r => .tup (Same.seqT s h) (Reps.mono s r)
  | _, _, .dctT h r => .dctT (s _ _ h) (RepT.mono s r)
theorem Reps.mono {H H' : Hp} (s : Same H H') : ∀ {vs : List V} {ds : List PyData}, Reps q H vs ds → Reps q H' vs ds
  | _, _, .nil => .nil
  | _, _, .cons h r => .cons (Rep.mono s h) (Reps.mono s r)
theorem RepT.mono {H H' : Hp} (s : Same H H') : ∀ {xs : List (NestedKey × Addr × Value)} {ds : List (PyData × PyData)}, RepT q H xs ds → RepT q H' xs ds
  | _, _, .nil => .nil
  | _, _, .cons hk hd hr h r => .cons (Rep.mono s hk) hd hr (Rep.mono s h) (RepT.mono s r)
end
theorem Reps.length {H : Hp} : ∀ {vs : List V} {ds : List PyData}, Reps q H vs ds → vs.length = ds.length
  | _, _, .nil => rfl
  | _, _, .cons _ r => by simp [Reps.length r]
theorem Reps.append {H : Hp} : ∀ {vs ws : List V} {ds es : List PyData}, Reps q H vs ds → Reps q H ws es → Reps q H (vs ++ ws) (ds ++ es)
  | _, _, _, _, .nil, s => s
  | _, _, _, _, .cons h r, s => .cons h (Reps.append r s)
theorem Reps.get {H : Hp} : ∀ {vs : List V} {ds : List PyData} {i : Nat} {d : PyData}, Reps q H vs ds → ds[i]? = some d → ∃ v, vs[i]? = some v ∧ Rep q H v d
  | _, _, 0, _, .cons h r, e => by simp at e; subst e; exact ⟨_, rfl, h⟩
  | _, _, i + 1, _, .cons h r, e => by simp at e; simpa using Reps.get r e
theorem Reps.getV {H : Hp} : ∀ {vs : List V} {ds : List PyData} {i : Nat} {v : V}, Reps q H vs ds → vs[i]? = some v → ∃ d, ds[i]? = some d ∧ Rep q H v d
  | _, _, 0, _, .cons h r, e => by simp at e; subst e; exact ⟨_, rfl, h⟩
  | _, _, i + 1, _, .cons h r, e => by simp at e; simpa using Reps.getV r e
theorem Reps.set {H : Hp} {v : V} {d : PyData} (h : Rep q H v d) : ∀ {vs : List V} {ds : List PyData} (i : Nat), Reps q H vs ds → Reps q H (vs.set i v) (ds.set i d)
  | _, _, _, .nil => .nil
  | _, _, 0, .cons _ r => .cons h r
  | _, _, i + 1, .cons g r => .cons g (Reps.set h i r)
theorem Reps.take {H : Hp} : ∀ {vs : List V} {ds : List PyData} (n : Nat), Reps q H vs ds → Reps q H (vs.take n) (ds.take n)
  | _, _, 0, _ => by simp; exact .nil
  | _, _, _ + 1, .nil => .nil
  | _, _, n + 1, .cons h r => .cons h (Reps.take n r)
theorem Reps.drop {H : Hp} : ∀ {vs : List V} {ds : List PyData} (n : Nat), Reps q H vs ds → Reps q H (vs.drop n) (ds.drop n)
  | _, _, 0, r => r
  | _, _, _ + 1, .nil => .nil
  | _, _, n + 1, .cons _ r => Reps.drop n r
theorem Reps.reverse {H : Hp} {vs : List V} {ds : List PyData} (r : Reps q H vs ds) : Reps q H vs.reverse ds.reverse := by
  induction vs generalizing ds with
  | nil => cases r; exact .nil
  | cons v vs ih => cases r with | cons h r => simp only [List.reverse_cons]; exact (ih r).append (.cons h .nil)
theorem Reps.insertIdx {H : Hp} {v : V} {d : PyData} (h : Rep q H v d) : ∀ {vs : List V} {ds : List PyData} (i : Nat), Reps q H vs ds → Reps q H (vs.insertIdx i v) (ds.insertIdx i d)
  | _, _, 0, r => .cons h r
  | _, _, _ + 1, .nil => .nil
  | _, _, i + 1, .cons g r => .cons g (Reps.insertIdx h i r)
theorem Reps.eraseIdx {H : Hp} : ∀ {vs : List V} {ds : List PyData} (i : Nat), Reps q H vs ds → Reps q H (vs.eraseIdx i) (ds.eraseIdx i)
  | _, _, _, .nil => .nil
  | _, _, 0, .cons _ r => r
  | _, _, i + 1, .cons g r => .cons g (Reps.eraseIdx i r)

/-! ### data without lists and dicts: nothing in it can be changed -/
mutual
def Sol : PyData → Prop
  | .none => True
  | .bool _ => True
  | .int _ => True
  | .str _ => True
  | .list _ => False
  | .tuple ds => Sols ds
  | .dict _ => False
def Sols : List PyData → Prop
  | [] => True
  | d :: ds => Sol d ∧ Sols ds
end
theorem Sols.of : ∀ {ds : List PyData}, (∀ d ∈ ds, Sol d) → Sols ds
  | [], _ => True.intro
  | d :: ds, h => ⟨h d (by simp), Sols.of fun e he => h e (by simp [he])⟩
theorem Sols.mem : ∀ {ds : List PyData}, Sols ds → ∀ d ∈ ds, Sol d
  | [], _, _, hm => by simp at hm
  | e :: ds, h, d, hm => by
    rcases List.mem_cons.mp hm with rfl | hm
    · exact h.1
    · exact Sols.mem h.2 d hm
/-- the tuples of H stand in G -/
def TupIn (H G : Hp) : Prop := ∀ a xs, H a = some (.tup xs) → G a = some (.tup xs)
def FrzT (H G : Hp) : Prop := ∀ a o xs, H a = some (.frz o (.tup xs)) → G a = some (.frz o (.tup xs))
mutual
theorem Rep.solid {H G : Hp} (t : TupIn H G) (t' : FrzT H G) : ∀ {v : V} {d : PyData}, Sol d → Rep q H v d → Rep q G v d
  | _, _, _, .non => .non
  | _, _, _, .bl b => .bl b
  | _, _, _, .int i => .int i
  | _, _, _, .str x => .str x
  | _, _, h, .lst _ _ => h.elim
  | _, _, h, .tup e r => .tup (by
      rcases e with (e | ⟨o, e⟩) | e
      · exact .inl (.inl (t _ _ e))
      · exact .inl (.inr ⟨o, t' _ _ _ e⟩)
      · exact .inr e) (Reps.solid t t' h r)
  | _, _, h, .dctT _ _ => h.elim
theorem Reps.solid {H G : Hp} (t : TupIn H G) (t' : FrzT H G) : ∀ {vs : List V} {ds : List PyData}, Sols ds → Reps q H vs ds → Reps q G vs ds
  | _, _, _, .nil => .nil
  | _, _, h, .cons e r => .cons (Rep.solid t t' h.1 e) (Reps.solid t t' h.2 r)
end

/-! ### entries: what a name holds, and who may change it -/
inductive Ent where
  /-- shared: nobody changes it any more -/
  | shr (d : PyData)
  /-- the caller's: only read here -/
  | bor (d : PyData)
  /-- a list of one's own, its items shared -/
  | own (ds : List PyData)
  /-- a list of one's own, its items entries -/
  | lst (es : List Ent)
  /-- a tuple of entries -/
  | tup (es : List Ent)
  /-- a dict of one's own -/
  | dct (kvs : List (PyData × PyData))
  /-- a value as it is (a class, an exception) -/
  | raw (v : V)
abbrev Slots := List (Option Ent)
def DictAt (q : Px) (G H : Hp) (p : Addr) (ds : List (PyData × PyData)) : Prop :=
  ∃ o xs, H p = some (TDict q p o xs) ∧ RepT q G xs ds
mutual
inductive Own (q : Px) (U G H : Hp) : V → Ent → List Addr → Prop
  | shr {v d} : Rep q G v d → Own q U G H v (.shr d) []
  | bor {v d} : Rep q U v d → Own q U G H v (.bor d) []
  | own {p vs ds} : H p = some (.lst vs) → Reps q G vs ds → Own q U G H (.ref p) (.own ds) [p]
  | lst {p vs es F} : H p = some (.lst vs) → Owns q U G H vs es F → Own q U G H (.ref p) (.lst es) (p :: F)
  | tup {p vs es F} : H p = some (.tup vs) → Owns q U G H vs es F → Own q U G H (.ref p) (.tup es) F
  | dct {p ds} : DictAt q G H p ds → Own q U G H (.ref p) (.dct ds) [p]
  | raw {v} : Own q U G H v (.raw v) []
inductive Owns (q : Px) (U G H : Hp) : List V → List Ent → List Addr → Prop
  | nil : Owns q U G H [] [] []
  | cons {v e F vs es F'} : Own q U G H v e F → Owns q U G H vs es F' → Owns q U G H (v :: vs) (e :: es) (F ++ F')
end
/-- what a footprint's address holds -/
def Chg : Option HO → Prop
  | some (.lst _) => True
  | some (.dK _) => True
  | some (.ext _) => True
  | _ => False
mutual
theorem Own.chg {U G H : Hp} : ∀ {v : V} {e : Ent} {F : List Addr}, Own q U G H v e F → ∀ a ∈ F, Chg (H a)
  | _, _, _, .shr _, _, h => by simp at h
  | _, _, _, .bor _, _, h => by simp at h
  | _, _, _, .own hp _, a, h => by simp at h; subst h; rw [hp]; trivial
  | _, _, _, .lst hp r, a, h => by
    rcases List.mem_cons.mp h with rfl | h
    · rw [hp]; trivial
    · exact Owns.chg r a h
  | _, _, _, .tup hp r, a, h => Owns.chg r a h
  | _, _, _, .dct hd, a, h => by
    simp at h; subst h
    obtain ⟨_, _, e, _⟩ := hd
    rw [e]; trivial
  | _, _, _, .raw, _, h => by simp at h
theorem Owns.chg {U G H : Hp} : ∀ {vs : List V} {es : List Ent} {F : List Addr}, Owns q U G H vs es F → ∀ a ∈ F, Chg (H a)
  | _, _, _, .nil, _, h => by simp at h
  | _, _, _, .cons h r, a, hm => (List.mem_append.mp hm).elim (Own.chg h a) (Owns.chg r a)
end
theorem DictAt.mono {G G' H H' : Hp} {p : Addr} {ds} (h : DictAt q G H p ds) (s : Same G G') (e : H' p = H p) : DictAt q G' H' p ds := by
  obtain ⟨o, k, h, r⟩ := h
  exact ⟨o, k, e.trans h, r.mono s⟩
mutual
theorem Own.mono {U G G' H H' : Hp} (s : Same G G') (ht : TupIn H H') : ∀ {v : V} {e : Ent} {F : List Addr}, Own q U G H v e F → (∀ a ∈ F, H' a = H a) → Own q U G' H' v e F
  | _, _, _, .shr h, _ => .shr (h.mono s)
  | _, _, _, .bor h, _ => .bor h
  | _, _, _, .own hp r, k => .own ((k _ (by simp)).trans hp) (r.mono s)
  | _, _, _, .lst hp r, k => .lst ((k _ (by simp)).trans hp) (Owns.mono s ht r fun a h => k a (by simp [h]))
  | _, _, _, .tup hp r, k => .tup (ht _ _ hp) (Owns.mono s ht r k)
  | _, _, _, .dct hd, k => .dct (hd.mono s (k _ (by simp)))
  | _, _, _, .raw, _ => .raw
theorem Owns.mono {U G G' H H' : Hp} (s : Same G G') (ht : TupIn H H') : ∀ {vs : List V} {es : List Ent} {F : List Addr}, Owns q U G H vs es F → (∀ a ∈ F, H' a = H a) → Owns q U G' H' vs es F
  | _, _, _, .nil, _ => .nil
  | _, _, _, .cons h r, k => .cons (Own.mono s ht h fun a m => k a (by simp [m])) (Owns.mono s ht r fun a m => k a (by simp [m]))
end
end VV

/-! V1: the state: what is shared (G), what must stay (U), what is owned -/
namespace VV
open PySem PySem.Spec L2
open PyProof.Rows hiding St

mutual
/-- what an entry reads as -/
inductive Dat : Ent → PyData → Prop
  | shr {d} : Dat (.shr d) d
  | bor {d} : Dat (.bor d) d
  | own {ds} : Dat (.own ds) (.list ds)
  | lst {es ds} : Dats es ds → Dat (.lst es) (.list ds)
  | tup {es ds} : Dats es ds → Dat (.tup es) (.tuple ds)
  | dct {kvs} : Dat (.dct kvs) (.dict kvs)
inductive Dats : List Ent → List PyData → Prop
  | nil : Dats [] []
  | cons {e d es ds} : Dat e d → Dats es ds → Dats (e :: es) (d :: ds)
end
mutual
/-- .. and may be shared -/
inductive Frz : Ent → PyData → Prop
  | shr {d} : Frz (.shr d) d
  | bor {d} : Sol d → Frz (.bor d) d
  | own {ds} : Frz (.own ds) (.list ds)
  | lst {es ds} : Frzs es ds → Frz (.lst es) (.list ds)
  | tup {es ds} : Frzs es ds → Frz (.tup es) (.tuple ds)
  | dct {kvs} : Frz (.dct kvs) (.dict kvs)
inductive Frzs : List Ent → List PyData → Prop
  | nil : Frzs [] []
  | cons {e d es ds} : Frz e d → Frzs es ds → Frzs (e :: es) (d :: ds)
end
mutual
theorem Frz.dat : ∀ {e : Ent} {d : PyData}, Frz e d → Dat e d
  | _, _, .shr => .shr
  | _, _, .bor _ => .bor
  | _, _, .own => .own
  | _, _, .lst h => .lst (Frzs.dats h)
  | _, _, .tup h => .tup (Frzs.dats h)
  | _, _, .dct => .dct
theorem Frzs.dats : ∀ {es : List Ent} {ds : List PyData}, Frzs es ds → Dats es ds
  | _, _, .nil => .nil
  | _, _, .cons h r => .cons (Frz.dat h) (Frzs.dats r)
end

/-- what was shared at the entry; the slots whose values stay -/
structure Ct where
  old : Hp
  pin : List (Nat × V)
structure Fr where
  q : Px
  /-- what must stay as it is -/
  U : Hp
  G0 : Ct

inductive OwnL (q : Px) (U G H : Hp) : List (V × Ent) → List Addr → Prop
  | nil : OwnL q U G H [] []
  | cons {v e F L F'} : Own q U G H v e F → OwnL q U G H L F' → OwnL q U G H ((v, e) :: L) (F ++ F')
section
variable {q : Px} {U G G' H H' : Hp}
theorem OwnL.chg {L F} (h : OwnL q U G H L F) : ∀ a ∈ F, Chg (H a) := by
  induction h with
  | nil => intro a h; simp at h
  | cons h _ ih => intro a hm; exact (List.mem_append.mp hm).elim (h.chg a) (ih a)
theorem OwnL.mono {L F} (h : OwnL q U G H L F) (s : Same G G') (ht : TupIn H H') : (∀ a ∈ F, H' a = H a) → OwnL q U G' H' L F := by
  induction h with
  | nil => intro _; exact .nil
  | cons h _ ih => intro k; exact .cons (h.mono s ht fun a m => k a (by simp [m])) (ih fun a m => k a (by simp [m]))
theorem OwnL.perm {L L' : List (V × Ent)} (p : L.Perm L') : ∀ {F}, OwnL q U G H L F → ∃ F', OwnL q U G H L' F' ∧ F.Perm F' := by
  induction p with
  | nil => intro F h; exact ⟨F, h, .refl _⟩
  | cons x _ ih =>
    intro F h
    cases h with
    | cons h1 h2 =>
      obtain ⟨F', a, b⟩ := ih h2
      exact ⟨_, .cons h1 a, b.append_left _⟩
  | swap x y l =>
    intro F h
    cases h with
    | cons h1 h2 =>
      cases h2 with
      | cons h3 h4 =>
        refine ⟨_, .cons h3 (.cons h1 h4), ?_⟩
        rw [← List.append_assoc, ← List.append_assoc]
        exact (List.perm_append_comm).append_right _
  | trans _ _ ih1 ih2 =>
    intro F h
    obtain ⟨F1, a, b⟩ := ih1 h
    obtain ⟨F2, c, d⟩ := ih2 a
    exact ⟨F2, c, b.trans d⟩
theorem OwnL.append {L L' F F'} (h : OwnL q U G H L F) (h' : OwnL q U G H L' F') : OwnL q U G H (L ++ L') (F ++ F') := by
  induction h with
  | nil => exact h'
  | cons h _ ih => rw [List.append_assoc]; exact .cons h ih
theorem OwnL.split {L L' : List (V × Ent)} : ∀ {F}, OwnL q U G H (L ++ L') F → ∃ F1 F2, F = F1 ++ F2 ∧ OwnL q U G H L F1 ∧ OwnL q U G H L' F2 := by
  induction L with
  | nil => intro F h; exact ⟨[], F, rfl, .nil, h⟩
  | cons p L ih =>
    intro F h
    cases h with
    | cons h1 h2 =>
      obtain ⟨F1, F2, e, a, b⟩ := ih h2
      exact ⟨_, F2, by rw [e, List.append_assoc], .cons h1 a, b⟩
theorem OwnL.mem {L F} (h : OwnL q U G H L F) {v e} (hm : (v, e) ∈ L) : ∃ F', Own q U G H v e F' ∧ ∀ a ∈ F', a ∈ F := by
  induction h with
  | nil => simp at hm
  | cons h _ ih =>
    rcases List.mem_cons.mp hm with e | hm
    · cases e; exact ⟨_, h, fun a m => by simp [m]⟩
    · obtain ⟨F', a, b⟩ := ih hm
      exact ⟨F', a, fun a m => by simp [b a m]⟩
/-- one entry as several: a list of pairs -/
theorem OwnL.of_owns {vs es F} (h : Owns q U G H vs es F) : OwnL q U G H (vs.zip es) F := by
  induction vs generalizing es F with
  | nil => cases h; exact .nil
  | cons v vs ih => cases h with | cons h1 h2 => exact .cons h1 (ih h2)
theorem OwnL.to_owns {vs : List V} {es : List Ent} {F} (hl : vs.length = es.length) (h : OwnL q U G H (vs.zip es) F) : Owns q U G H vs es F := by
  induction vs generalizing es F with
  | nil => cases es with | nil => cases h; exact .nil | cons _ _ => simp at hl
  | cons v vs ih =>
    cases es with
    | nil => simp at hl
    | cons e es =>
      cases h with
      | cons h1 h2 => exact .cons h1 (ih (by simpa using hl) h2)
theorem Owns.length {vs es F} (h : Owns q U G H vs es F) : vs.length = es.length := by
  induction vs generalizing es F with
  | nil => cases h; rfl
  | cons v vs ih => cases h with | cons h1 h2 => simp [ih h2]
mutual
theorem Own.rep (sU : Same U H) (sG : Same G H) : ∀ {e : Ent} {d : PyData} {v : V} {F : List Addr}, Dat e d → Own q U G H v e F → Rep q H v d
  | _, _, _, _, .shr, .shr h => h.mono sG
  | _, _, _, _, .bor, .bor h => h.mono sU
  | _, _, _, _, .own, .own hp r => .lst (.inl (Rd.of hp)) (r.mono sG)
  | _, _, _, _, .lst hd, .lst hp r => .lst (.inl (Rd.of hp)) (Owns.reps sU sG hd r)
  | _, _, _, _, .tup hd, .tup hp r => .tup (SqT.of hp) (Owns.reps sU sG hd r)
  | _, _, _, _, .dct, .dct hd => by
    obtain ⟨_, k, e, r⟩ := hd
    exact .dctT e (r.mono sG)
theorem Owns.reps (sU : Same U H) (sG : Same G H) : ∀ {es : List Ent} {ds : List PyData} {vs : List V} {F : List Addr}, Dats es ds → Owns q U G H vs es F → Reps q H vs ds
  | _, _, _, _, .nil, .nil => .nil
  | _, _, _, _, .cons hd hds, .cons h r => .cons (Own.rep sU sG hd h) (Owns.reps sU sG hds r)
end
mutual
theorem Own.frz (s : Same G G') (tU : TupIn U G) (fU : FrzT U G) (tH : TupIn H G) : ∀ {e : Ent} {d : PyData} {v : V} {F : List Addr}, Frz e d → Own q U G H v e F → (∀ a ∈ F, G' a = H a) → Rep q G' v d
  | _, _, _, _, .shr, .shr h, _ => h.mono s
  | _, _, _, _, .bor hs, .bor h, _ => (Rep.solid tU fU hs h).mono s
  | _, _, _, _, .own, .own hp r, k => .lst (.inl (Rd.of ((k _ (by simp)).trans hp))) (r.mono s)
  | _, _, _, _, .lst hd, .lst hp r, k => .lst (.inl (Rd.of ((k _ (by simp)).trans hp))) (Owns.frz s tU fU tH hd r fun a m => k a (by simp [m]))
  | _, _, _, _, .tup hd, .tup hp r, k => .tup (SqT.of (s _ _ (tH _ _ hp))) (Owns.frz s tU fU tH hd r k)
  | _, _, _, _, .dct, .dct hd, k => by
    obtain ⟨_, x, e, r⟩ := hd
    exact .dctT ((k _ (by simp)).trans e) (r.mono s)
theorem Owns.frz (s : Same G G') (tU : TupIn U G) (fU : FrzT U G) (tH : TupIn H G) : ∀ {es : List Ent} {ds : List PyData} {vs : List V} {F : List Addr}, Frzs es ds → Owns q U G H vs es F → (∀ a ∈ F, G' a = H a) → Reps q G' vs ds
  | _, _, _, _, .nil, .nil, _ => .nil
  | _, _, _, _, .cons hd hds, .cons h r, k => .cons (Own.frz s tU fU tH hd h fun a m => k a (by simp [m])) (Owns.frz s tU fU tH hds r fun a m => k a (by simp [m]))
end
end

structure Core (f : Fr) (G : Hp) (L : List (V × Ent)) (H : Hp) : Prop where
  sU : Same f.U H
  sG : Same G H
  tups : TupIn H G
  frzs : FrzT H G
  new : ∀ a, G a ≠ none → f.G0.old a ≠ none ∨ f.U a = none
  res : ∃ F, OwnL f.q f.U G H L F ∧ F.Nodup ∧ ∀ a ∈ F, G a = none ∧ f.U a = none
section
variable {f : Fr} {G G' H H' : Hp} {L L' : List (V × Ent)} {v : V} {e : Ent} {d : PyData} {p : Addr}
theorem Core.perm (c : Core f G L H) (h : L.Perm L') : Core f G L' H := by
  obtain ⟨F, a, b, k⟩ := c.res
  obtain ⟨F', a', p'⟩ := a.perm h
  exact ⟨c.sU, c.sG, c.tups, c.frzs, c.new, F', a', p'.nodup_iff.mp b, fun x m => k x (p'.mem_iff.mpr m)⟩
theorem Core.sub (c : Core f G (L ++ L') H) : Core f G L' H := by
  obtain ⟨F, a, b, k⟩ := c.res
  obtain ⟨F1, F2, rfl, _, a2⟩ := a.split
  exact ⟨c.sU, c.sG, c.tups, c.frzs, c.new, F2, a2, (List.nodup_append.mp b).2.1, fun x m => k x (by simp [m])⟩
theorem Core.drop (c : Core f G ((v, e) :: L) H) : Core f G L H := Core.sub (L := [(v, e)]) c
theorem Core.tU (c : Core f G L H) : TupIn f.U G := fun a xs h => c.tups a xs (c.sU _ _ h)
theorem Core.fU (c : Core f G L H) : FrzT f.U G := fun a o xs h => c.frzs a o xs (c.sU _ _ h)
theorem Core.read (c : Core f G L H) (hm : (v, e) ∈ L) (hd : Dat e d) : Rep f.q H v d := by
  obtain ⟨F, a, _, _⟩ := c.res
  obtain ⟨F', o, _⟩ := a.mem hm
  exact o.rep c.sU c.sG hd
theorem Core.shrd (c : Core f G L H) (hm : (v, .shr d) ∈ L) : Rep f.q G v d := by
  obtain ⟨F, a, _, _⟩ := c.res
  obtain ⟨F', o, _⟩ := a.mem hm
  cases o with | shr h => exact h
theorem Core.addShr (c : Core f G L H) (h : Rep f.q G v d) : Core f G ((v, .shr d) :: L) H := by
  obtain ⟨F, a, b, k⟩ := c.res
  exact ⟨c.sU, c.sG, c.tups, c.frzs, c.new, F, .cons (F := []) (.shr h) a, b, k⟩
theorem Core.addBor (c : Core f G L H) (h : Rep f.q f.U v d) : Core f G ((v, .bor d) :: L) H := by
  obtain ⟨F, a, b, k⟩ := c.res
  exact ⟨c.sU, c.sG, c.tups, c.frzs, c.new, F, .cons (F := []) (.bor h) a, b, k⟩
theorem Core.addRaw (c : Core f G L H) : Core f G ((v, .raw v) :: L) H := by
  obtain ⟨F, a, b, k⟩ := c.res
  exact ⟨c.sU, c.sG, c.tups, c.frzs, c.new, F, .cons (F := []) .raw a, b, k⟩
theorem Core.freeU (c : Core f G L H) (h : H p = none) : f.U p = none := c.sU.free h
theorem Core.freeG (c : Core f G L H) (h : H p = none) : G p = none := c.sG.free h
theorem same_upd {o : HO} (h : H p = none) : Same H (upd H p o) := fun b u e => by rw [upd_ne (ne_of_none e h)]; exact e
/-- a new tuple of shared things -/
theorem Core.newTup {vs : List V} (c : Core f G L H) (h : H p = none) : Core f (upd G p (.tup vs)) L (upd H p (.tup vs)) ∧ Same G (upd G p (.tup vs)) := by
  have hg := c.freeG h
  have sg : Same G (upd G p (.tup vs)) := same_upd hg
  refine ⟨⟨c.sU.trans (same_upd h), fun b u e => ?_, fun b xs e => ?_, fun b o xs e => ?_, fun b hb => ?_, ?_⟩, sg⟩
  · by_cases z : b = p
    · subst z; rw [upd_same] at e ⊢; exact e
    · rw [upd_ne z] at e ⊢; exact c.sG _ _ e
  · by_cases z : b = p
    · subst z; rw [upd_same] at e ⊢; exact e
    · rw [upd_ne z] at e ⊢; exact c.tups _ _ e
  · by_cases z : b = p
    · subst z; rw [upd_same] at e; cases e
    · rw [upd_ne z] at e ⊢; exact c.frzs _ _ _ e
  · by_cases z : b = p
    · subst z; exact .inr (c.freeU h)
    · rw [upd_ne z] at hb; exact c.new b hb
  · obtain ⟨F, a, b, k⟩ := c.res
    have np : ∀ x ∈ F, x ≠ p := fun x m z => by
      subst z
      have := a.chg x m
      rw [h] at this; exact this
    refine ⟨F, a.mono sg (fun b xs e => by rw [upd_ne (ne_of_none e h)]; exact e) (fun x m => upd_ne (np x m)), b, fun x m => ?_⟩
    rw [upd_ne (np x m)]
    exact k x m
theorem Core.there {F : List Addr} (a : OwnL f.q f.U G H L F) (h : H p = none) : ∀ x ∈ F, x ≠ p := fun x m z => by
  subst z
  have := a.chg x m
  rw [h] at this; exact this
/-- a new object of one's own -/
theorem Core.newObj {o : HO} (c : Core f G L H) (h : H p = none) (ho : ∀ xs, o ≠ .tup xs) (hf : ∀ u xs, o ≠ .frz u xs) (own : Own f.q f.U G (upd H p o) v e [p]) : Core f G ((v, e) :: L) (upd H p o) := by
  obtain ⟨F, a, b, k⟩ := c.res
  have np := Core.there a h
  refine ⟨c.sU.trans (same_upd h), c.sG.trans (same_upd h), fun b xs e => ?_, fun b o xs e => ?_, c.new, [p] ++ F, .cons own (a.mono (Same.refl _) (fun b xs e => by rw [upd_ne (ne_of_none e h)]; exact e) fun x m => upd_ne (np x m)), ?_, fun x m => ?_⟩
  · by_cases z : b = p
    · subst z; rw [upd_same] at e; cases e; exact absurd rfl (ho xs)
    · rw [upd_ne z] at e; exact c.tups _ _ e
  · by_cases z : b = p
    · subst z; rw [upd_same] at e; cases e; exact absurd rfl (hf _ _)
    · rw [upd_ne z] at e; exact c.frzs _ _ _ e
  · exact List.nodup_cons.mpr ⟨fun m => np p m rfl, b⟩
  · rcases List.mem_cons.mp m with rfl | m
    · exact ⟨c.freeG h, c.freeU h⟩
    · exact k x m
theorem Core.newOwn {vs : List V} {ds : List PyData} (c : Core f G L H) (h : H p = none) (r : Reps f.q G vs ds) : Core f G ((.ref p, .own ds) :: L) (upd H p (.lst vs)) :=
  c.newObj h (fun _ => by intro z; cases z) (fun _ _ => by intro z; cases z) (.own upd_same r)
/-- an object of one's own changed -/
theorem Core.setObj {o u : HO} {e' : Ent} (c : Core f G ((v, e) :: L) H) (hp : H p = some u) (hu : Chg (some u)) (own : ∀ F, Own f.q f.U G H v e F → p ∈ F) (ho : ∀ xs, o ≠ .tup xs) (hf : ∀ u xs, o ≠ .frz u xs)
    (own' : ∀ F, Own f.q f.U G H v e F → Own f.q f.U G (upd H p o) v e' F) : Core f G ((v, e') :: L) (upd H p o) := by
  obtain ⟨F, a, b, k⟩ := c.res
  cases a with
  | @cons _ _ F1 _ F2 h1 h2 =>
    have m1 := own _ h1
    have hG := (k p (by simp [m1])).1
    have hU := (k p (by simp [m1])).2
    have n2 : ∀ x ∈ F2, x ≠ p := fun x m z => by
      subst z
      exact (List.nodup_append.mp b).2.2 x m1 x m rfl
    have nt : ∀ xs, u ≠ .tup xs := fun xs z => by subst z; exact hu
    refine ⟨fun x y e => ?_, fun x y e => ?_, fun x xs e => ?_, fun x u' xs e => ?_, c.new, F1 ++ F2, .cons (own' _ h1) (h2.mono (Same.refl _) (fun x xs e => ?_) fun x m => upd_ne (n2 x m)), b, k⟩
    · rw [upd_ne (ne_of_none e hU)]; exact c.sU _ _ e
    · rw [upd_ne (ne_of_none e hG)]; exact c.sG _ _ e
    · by_cases z : x = p
      · subst z; rw [upd_same] at e; cases e; exact absurd rfl (ho xs)
      · rw [upd_ne z] at e; exact c.tups _ _ e
    · by_cases z : x = p
      · subst z; rw [upd_same] at e; cases e; exact absurd rfl (hf _ _)
      · rw [upd_ne z] at e; exact c.frzs _ _ _ e
    · have : x ≠ p := fun z => by
        subst z
        rw [hp] at e; cases e
        exact nt xs rfl
      rw [upd_ne this]; exact e
theorem Core.ownAt {ds : List PyData} (c : Core f G ((.ref p, .own ds) :: L) H) : ∃ vs, H p = some (.lst vs) ∧ Reps f.q G vs ds := by
  obtain ⟨F, a, _, _⟩ := c.res
  cases a with | cons h1 _ => cases h1 with | own hp r => exact ⟨_, hp, r⟩
theorem Core.ownRef {ds : List PyData} (c : Core f G ((v, .own ds) :: L) H) : ∃ p, v = .ref p := by
  obtain ⟨F, a, _, _⟩ := c.res
  cases a with | cons h1 _ => cases h1 with | own hp r => exact ⟨_, rfl⟩
theorem Core.setOwn {ds ds' : List PyData} {vs' : List V} (c : Core f G ((.ref p, .own ds) :: L) H) (r' : Reps f.q G vs' ds') : Core f G ((.ref p, .own ds') :: L) (upd H p (.lst vs')) := by
  obtain ⟨vs, hp, r⟩ := c.ownAt
  refine c.setObj hp (by trivial) (fun F o => by cases o; simp) (fun _ => by intro z; cases z) (fun _ _ => by intro z; cases z) fun F o => ?_
  cases o with | own _ _ => exact .own upd_same r'
theorem Core.freeze (c : Core f G ((v, e) :: L) H) (h : Frz e d) : ∃ G', Same G G' ∧ Core f G' ((v, .shr d) :: L) H := by
  obtain ⟨F, a, b, k⟩ := c.res
  cases a with
  | @cons _ _ F1 _ F2 h1 h2 =>
    classical
    let G' : Hp := fun a => if a ∈ F1 then H a else G a
    have g1 : ∀ a ∈ F1, G' a = H a := fun a m => if_pos m
    have g2 : ∀ a, a ∉ F1 → G' a = G a := fun a m => if_neg m
    have sg : Same G G' := fun x o q => by
      have : x ∉ F1 := fun m => by rw [(k x (by simp [m])).1] at q; cases q
      rw [g2 x this]; exact q
    refine ⟨G', sg, c.sU, fun x o q => ?_, fun x xs q => sg _ _ (c.tups _ _ q), fun x o xs q => sg _ _ (c.frzs _ _ _ q), fun x hx => ?_, F2, .cons (F := []) (.shr (h1.frz sg c.tU c.fU c.tups h g1)) (h2.mono sg (fun _ _ q => q) fun _ _ => rfl), (List.nodup_append.mp b).2.1, fun x m => ?_⟩
    · by_cases m : x ∈ F1
      · rw [g1 x m] at q; exact q
      · rw [g2 x m] at q; exact c.sG _ _ q
    · by_cases m : x ∈ F1
      · exact .inr (k x (by simp [m])).2
      · rw [g2 x m] at hx; exact c.new x hx
    · have : x ∉ F1 := fun m' => (List.nodup_append.mp b).2.2 x m' x m rfl
      rw [g2 x this]
      exact k x (by simp [m])
end
end VV

/-! V2: slots, results, the lifts -/
namespace VV
open PySem PySem.Spec L2
open PyProof.Rows hiding St

/-- what the slots hold, as a list -/
def slotRes : St → Slots → List (V × Ent)
  | some v :: σ, some e :: sl => (v, e) :: slotRes σ sl
  | some _ :: σ, none :: sl => slotRes σ sl
  | none :: σ, _ :: sl => slotRes σ sl
  | [], _ => []
  | _ :: _, [] => []
theorem slotRes_take : ∀ {σ : St} {sl : Slots} {i : Nat} {v : V} {e : Ent}, sl[i]? = some (some e) → σ[i]? = some (some v) → (slotRes σ sl).Perm ((v, e) :: slotRes σ (sl.set i none))
  | [], _, _, _, _, _, h => by simp at h
  | _ :: _, [], _, _, _, h, _ => by simp at h
  | x :: σ, y :: sl, 0, v, e, h, h' => by
    simp at h h'
    subst h; subst h'
    exact .refl _
  | x :: σ, y :: sl, i + 1, v, e, h, h' => by
    have ih := slotRes_take (σ := σ) (sl := sl) (i := i) (v := v) (e := e) (by simpa using h) (by simpa using h')
    cases x with
    | none => simpa [slotRes] using ih
    | some x =>
      cases y with
      | none => simpa [slotRes] using ih
      | some y =>
        simp only [slotRes, List.set_cons_succ]
        exact (List.Perm.cons _ ih).trans (.swap _ _ _)
theorem slotRes_none : ∀ {σ : St} {sl : Slots} {i : Nat} (x : Option V), sl[i]? = some none → slotRes (σ.set i x) sl = slotRes σ sl
  | [], _, _, _, _ => by simp
  | _ :: _, [], _, _, h => by simp at h
  | a :: σ, y :: sl, 0, x, h => by
    simp at h
    subst h
    cases a <;> cases x <;> rfl
  | a :: σ, y :: sl, i + 1, x, h => by
    have ih := slotRes_none (σ := σ) (sl := sl) (i := i) x (by simpa using h)
    cases a with
    | none => simpa [slotRes] using ih
    | some a => cases y <;> simp [slotRes, ih]
theorem slotRes_put {σ : St} {sl : Slots} {i : Nat} {v : V} {e : Ent} (hi : i < σ.length) (hl : sl.length = σ.length) : (slotRes (σ.set i (some v)) (sl.set i (some e))).Perm ((v, e) :: slotRes σ (sl.set i none)) := by
  have h1 : (sl.set i (some e))[i]? = some (some e) := by rw [List.getElem?_set_self (by omega)]
  have h2 : (σ.set i (some v))[i]? = some (some v) := by rw [List.getElem?_set_self hi]
  refine (slotRes_take h1 h2).trans ?_
  rw [List.set_set, slotRes_none]
  rw [List.getElem?_set_self (by omega)]

structure Wf (pn : List (Nat × V)) (sl : Slots) (σ : St) : Prop where
  len : sl.length = σ.length
  val : ∀ (i : Nat) (e : Ent), sl[i]? = some (some e) → ∃ v, σ[i]? = some (some v)
  pin : ∀ p ∈ pn, σ[p.1]? = some (some p.2)
theorem Wf.set {pn : List (Nat × V)} {sl : Slots} {σ : St} (w : Wf pn sl σ) (i : Nat) (v : V) (e : Option Ent) (hp : ∀ p ∈ pn, p.1 ≠ i) : Wf pn (sl.set i e) (σ.set i (some v)) := by
  refine ⟨by simp [w.len], fun j x h => ?_, fun p hm => ?_⟩
  · by_cases hj : j = i
    · subst hj
      have : j < sl.length := by
        have := (List.getElem?_eq_some_iff.mp h).1
        simpa using this
      exact ⟨v, by rw [List.getElem?_set_self (by rw [← w.len]; exact this)]⟩
    · rw [List.getElem?_set_ne (Ne.symm hj)] at h ⊢
      exact w.val j x h
  · rw [List.getElem?_set_ne (Ne.symm (hp p hm))]
    exact w.pin p hm
theorem Wf.some {pn : List (Nat × V)} {sl : Slots} {σ : St} (w : Wf pn sl σ) {i : Nat} {v : V} (h : σ[i]? = some (some v)) (e : Option Ent) : Wf pn (sl.set i e) σ := by
  refine ⟨by simp [w.len], fun j x hx => ?_, w.pin⟩
  by_cases hj : j = i
  · subst hj; exact ⟨v, h⟩
  · rw [List.getElem?_set_ne (Ne.symm hj)] at hx
    exact w.val j x hx
theorem Wf.none {pn : List (Nat × V)} {sl : Slots} {σ : St} (w : Wf pn sl σ) (i : Nat) : Wf pn (sl.set i none) σ := by
  refine ⟨by simp [w.len], fun j x hx => ?_, w.pin⟩
  by_cases hj : j = i
  · subst hj
    by_cases hl : j < sl.length
    · rw [List.getElem?_set_self hl] at hx; cases hx
    · rw [List.getElem?_eq_none (by simpa using hl)] at hx; cases hx
  · rw [List.getElem?_set_ne (Ne.symm hj)] at hx
    exact w.val j x hx

structure Rel (f : Fr) (G : Hp) (T : List (V × Ent)) (sl : Slots) (σ : St) (H : Hp) : Prop where
  core : Core f G (T ++ slotRes σ sl) H
  wf : Wf f.G0.pin sl σ

/-- a result: an entry, or the name in slot i -/
inductive R where
  | e (x : Ent)
  | al (i : Nat)
abbrev WE := Slots → (R → Slots → Prop) → Prop
abbrev WT := Slots → (Bool → Slots → Prop) → Prop
abbrev WA := Slots → (List R → Slots → Prop) → Prop
/-- read as data -/
def Ent.dat (k : PyData → Prop) : Ent → Prop
  | .shr d => k d
  | .bor d => k d
  | .own ds => k (.list ds)
  | .dct kvs => k (.dict kvs)
  | .lst es => ∃ ds, Dats es ds ∧ k (.list ds)
  | .tup es => ∃ ds, Dats es ds ∧ k (.tuple ds)
  | .raw _ => False
def atS (sl : Slots) (i : Nat) (k : Ent → Prop) : Prop := match sl[i]? with
  | some (some x) => k x
  | _ => False
def datR (sl : Slots) (r : R) (k : PyData → Prop) : Prop := match r with
  | .e x => x.dat k
  | .al i => atS sl i (Ent.dat k)
/-- the items of a list or tuple, that may be handed on -/
def Ent.els (k : List PyData → Prop) : Ent → Prop
  | .shr (.list ds) => k ds
  | .shr (.tuple ds) => k ds
  | .bor (.list ds) => Sols ds ∧ k ds
  | .bor (.tuple ds) => Sols ds ∧ k ds
  | .own ds => k ds
  | _ => False
def elsR (sl : Slots) (r : R) (k : List PyData → Prop) : Prop := match r with
  | .e x => x.els k
  | .al i => atS sl i (Ent.els k)
theorem Ent.dat_iff {k : PyData → Prop} {x : Ent} (h : x.dat k) : ∃ d, Dat x d ∧ k d := by
  cases x with
  | shr d => exact ⟨_, .shr, h⟩
  | bor d => exact ⟨_, .bor, h⟩
  | own ds => exact ⟨_, .own, h⟩
  | dct kvs => exact ⟨_, .dct, h⟩
  | lst es => obtain ⟨ds, a, b⟩ := h; exact ⟨_, .lst a, b⟩
  | tup es => obtain ⟨ds, a, b⟩ := h; exact ⟨_, .tup a, b⟩
  | raw v => exact h.elim
theorem atS_iff {sl : Slots} {i : Nat} {k : Ent → Prop} (h : atS sl i k) : ∃ x, sl[i]? = some (some x) ∧ k x := by
  unfold atS at h
  split at h
  · rename_i x e; exact ⟨x, e, h⟩
  · exact h.elim

/-- the result r at v, behind the temporaries T -/
def RelR (f : Fr) (G : Hp) (T : List (V × Ent)) (v : V) (r : R) (sl : Slots) (σ : St) (H : Hp) : Prop := match r with
  | .e x => Rel f G ((v, x) :: T) sl σ H
  | .al i => Rel f G T sl σ H ∧ σ[i]? = some (some v)
/-- several results, the last one on top -/
def RelRs (f : Fr) (G : Hp) (T : List (V × Ent)) : List V → List R → Slots → St → Hp → Prop
  | [], [], sl, σ, H => Rel f G T sl σ H
  | v :: vs, .e x :: rs, sl, σ, H => RelRs f G ((v, x) :: T) vs rs sl σ H
  | v :: vs, .al i :: rs, sl, σ, H => σ[i]? = some (some v) ∧ RelRs f G T vs rs sl σ H
  | _, _, _, _, _ => False
section
variable {f : Fr} {G G' H H' : Hp} {T : List (V × Ent)} {sl : Slots} {σ : St} {v : V} {r : R} {d : PyData}
theorem Rel.slot (c : Rel f G T sl σ H) {i : Nat} {e : Ent} (hs : sl[i]? = some (some e)) (hv : σ[i]? = some (some v)) : (v, e) ∈ T ++ slotRes σ sl :=
  List.mem_append_right _ ((slotRes_take hs hv).mem_iff.mpr (by simp))
theorem Rel.read (c : Rel f G T sl σ H) {i : Nat} {e : Ent} (hs : sl[i]? = some (some e)) (hv : σ[i]? = some (some v)) (hd : Dat e d) : Rep f.q H v d := c.core.read (c.slot hs hv) hd
theorem RelR.dat (c : RelR f G T v r sl σ H) {k : PyData → Prop} (h : datR sl r k) : ∃ d, Rep f.q H v d ∧ k d := by
  cases r with
  | e x =>
    obtain ⟨d, hd, hk⟩ := Ent.dat_iff h
    exact ⟨d, c.core.read (by simp) hd, hk⟩
  | al i =>
    obtain ⟨x, hs, h⟩ := atS_iff h
    obtain ⟨d, hd, hk⟩ := Ent.dat_iff h
    exact ⟨d, c.1.read hs c.2 hd, hk⟩
theorem Core.els {f : Fr} {G H : Hp} {L : List (V × Ent)} {v : V} {x : Ent} (c : Core f G L H) (hm : (v, x) ∈ L) {k : List PyData → Prop} (h : x.els k) :
    ∃ a vs ds, v = .ref a ∧ ((∃ n, SqL f.q.K H a vs ∧ Dat x (.list n) ∧ n = ds) ∨ (∃ n, SqT f.q.K H a vs ∧ Dat x (.tuple n) ∧ n = ds)) ∧ Reps f.q G vs ds ∧ k ds := by
  cases x with
  | shr d =>
    have r := c.shrd hm
    cases d with
    | list ds => cases r with | lst h1 h2 => exact ⟨_, _, _, rfl, .inl ⟨_, Same.sqL c.sG h1, .shr, rfl⟩, h2, h⟩
    | tuple ds => cases r with | tup h1 h2 => exact ⟨_, _, _, rfl, .inr ⟨_, Same.seqT c.sG h1, .shr, rfl⟩, h2, h⟩
    | _ => exact (show False from h).elim
  | bor d =>
    obtain ⟨F, a, _, _⟩ := c.res
    obtain ⟨F', o, _⟩ := a.mem hm
    cases o with
    | bor r =>
      cases d with
      | list ds => cases r with | lst h1 h2 => exact ⟨_, _, _, rfl, .inl ⟨_, Same.sqL c.sU h1, .bor, rfl⟩, Reps.solid c.tU c.fU h.1 h2, h.2⟩
      | tuple ds => cases r with | tup h1 h2 => exact ⟨_, _, _, rfl, .inr ⟨_, Same.seqT c.sU h1, .bor, rfl⟩, Reps.solid c.tU c.fU h.1 h2, h.2⟩
      | _ => exact (show False from h).elim
  | own ds =>
    obtain ⟨F, a, _, _⟩ := c.res
    obtain ⟨F', o, _⟩ := a.mem hm
    cases o with | own hp r => exact ⟨_, _, _, rfl, .inl ⟨_, .inl (Rd.of hp), .own, rfl⟩, r, h⟩
  | _ => exact (show False from h).elim
theorem Rel.mono (c : Rel f G T sl σ H) {L' : List (V × Ent)} : True := trivial
end

/-! ### the lifts -/
def pxOf (X : Cx) : Px := ⟨X.prog, X.w, X.K⟩
def liftE (q : Px) (w : WE) : TE := fun σ H Q => ∃ U G0 G T sl Qv, Rel ⟨q, U, G0⟩ G T sl σ H ∧ w sl Qv ∧ ∀ r sl', Qv r sl' → ∀ G' v H', Same G G' → RelR ⟨q, U, G0⟩ G' T v r sl' σ H' → Q v H'
def liftT (q : Px) (w : WT) : TT := fun σ H Q => ∃ U G0 G T sl Qv, Rel ⟨q, U, G0⟩ G T sl σ H ∧ w sl Qv ∧ ∀ b sl', Qv b sl' → ∀ G' H', Same G G' → Rel ⟨q, U, G0⟩ G' T sl' σ H' → Q b H'
def liftA (q : Px) (w : WA) : TA := fun σ H Q => ∃ U G0 G T sl Qv, Rel ⟨q, U, G0⟩ G T sl σ H ∧ w sl Qv ∧ ∀ rs sl', Qv rs sl' → ∀ G' vs H', Same G G' → RelRs ⟨q, U, G0⟩ G' T vs rs sl' σ H' → Q vs H'
/-- several values, by the rule of values R2 -/
abbrev OV := R → R → Slots → (R → Slots → Prop) → Prop
def liftO (q : Px) (o : OV) : R2 := fun x y H Q => ∃ U G0 G T sl σ rx ry Qv, RelRs ⟨q, U, G0⟩ G T [x, y] [rx, ry] sl σ H ∧ o rx ry sl Qv ∧ ∀ r sl', Qv r sl' → ∀ G' v H', Same G G' → RelR ⟨q, U, G0⟩ G' T v r sl' σ H' → Q v H'
abbrev UV := R → Slots → (R → Slots → Prop) → Prop
def liftU (q : Px) (o : UV) : V → Hp → VK → Prop := fun x H Q => ∃ U G0 G T sl σ rx Qv, RelR ⟨q, U, G0⟩ G T x rx sl σ H ∧ o rx sl Qv ∧ ∀ r sl', Qv r sl' → ∀ G' v H', Same G G' → RelR ⟨q, U, G0⟩ G' T v r sl' σ H' → Q v H'
/-- a call's rule of values -/
abbrev CV := List R → Slots → (R → Slots → Prop) → Prop
def liftC (q : Px) (o : CV) : List V → Hp → VK → Prop := fun xs H Q => ∃ U G0 G T sl σ rs Qv, RelRs ⟨q, U, G0⟩ G T xs rs sl σ H ∧ o rs sl Qv ∧ ∀ r sl', Qv r sl' → ∀ G' v H', Same G G' → RelR ⟨q, U, G0⟩ G' T v r sl' σ H' → Q v H'
abbrev PV (X : Cx) (e : Expr) (w : WE) : Prop := PE X e (liftE (pxOf X) w)
abbrev PVT (X : Cx) (e : Expr) (w : WT) : Prop := PT X e (liftT (pxOf X) w)
abbrev PVA (X : Cx) (es : List Expr) (w : WA) : Prop := PA X es (liftA (pxOf X) w)
theorem PE.imp {X : Cx} {e : Expr} {t t' : TE} (h : PE X e t) (hh : ∀ σ H Q, t' σ H Q → t σ H Q) : PE X e t' := ⟨fun pins s σ H Q I q => h.run pins s σ H Q I (hh _ _ _ q)⟩
theorem PT.imp {X : Cx} {e : Expr} {t t' : TT} (h : PT X e t) (hh : ∀ σ H Q, t' σ H Q → t σ H Q) : PT X e t' := ⟨fun pins s σ H Q I q => h.run pins s σ H Q I (hh _ _ _ q)⟩
theorem PA.imp {X : Cx} {e : List Expr} {t t' : TA} (h : PA X e t) (hh : ∀ σ H Q, t' σ H Q → t σ H Q) : PA X e t' := ⟨fun pos pins s σ H Q I q => h.run pos pins s σ H Q I (hh _ _ _ q)⟩
theorem OpR.imp {X : Cx} {f} {r r' : R2} (h : OpR X f r) (hh : ∀ x y H Q, r' x y H Q → r x y H Q) : OpR X f r' := fun pins s σ H x y v u Q I rx ry q => h pins s σ H x y v u Q I rx ry (hh _ _ _ _ q)
theorem CallR.imp {X : Cx} {f} {r r' : List V → Hp → VK → Prop} (h : CallR X f r) (hh : ∀ x H Q, r' x H Q → r x H Q) : CallR X f r' := fun pins s σ H x us Q I rx q => h pins s σ H x us Q I rx (hh _ _ _ q)
theorem UnR.imp {X : Cx} {f} {r r' : V → Hp → VK → Prop} (h : UnR X f r) (hh : ∀ x H Q, r' x H Q → r x H Q) : UnR X f r' := fun pins s σ H x u Q I rx q => h pins s σ H x u Q I rx (hh _ _ _ q)

/-! ### names and constants -/
def eVar (i : Nat) : WE := fun sl Q => match sl[i]? with
  | some (some (.shr d)) => Q (.e (.shr d)) sl
  | some (some (.bor d)) => Q (.e (.bor d)) sl
  | some (some (.raw v)) => Q (.e (.raw v)) sl
  | some (some _) => Q (.al i) sl
  | _ => False
def eC (d : PyData) : WE := fun sl Q => Q (.e (.shr d)) sl
section
variable {X : Cx} {pos : Pos}
theorem v_var {i : Nat} {x : Str} (hN : X.N[i]? = some x) (hv : Vis X.env.scope x) (hd : (x == ("__debug__" : Str)) = false := by decide) (hcd : (x == ("__classdict__" : Str)) = false := by decide) : PV X (.Name x pos) (eVar i) := by
  refine PE.imp (pe_var hN hv hd hcd) fun σ H Q ⟨U, G0, G, T, sl, Qv, c, w, k⟩ => ?_
  unfold eVar at w
  have go : ∀ e, sl[i]? = some (some e) → ∃ v, σ[i]? = some (some v) := c.wf.val i
  split at w
  · rename_i d e
    obtain ⟨v, hv⟩ := go _ e
    have rp : Rep (pxOf X) G v d := c.core.shrd (c.slot e hv)
    exact ⟨v, hv, k _ _ w G v H (Same.refl _) ⟨c.core.addShr rp, c.wf⟩⟩
  · rename_i d e
    obtain ⟨v, hv⟩ := go _ e
    obtain ⟨F, a, _, _⟩ := c.core.res
    obtain ⟨F', o, _⟩ := a.mem (c.slot e hv)
    cases o with | bor rp => exact ⟨v, hv, k _ _ w G v H (Same.refl _) ⟨c.core.addBor rp, c.wf⟩⟩
  · rename_i u e
    obtain ⟨v, hv⟩ := go _ e
    obtain ⟨F, a, _, _⟩ := c.core.res
    obtain ⟨F', o, _⟩ := a.mem (c.slot e hv)
    cases o
    exact ⟨_, hv, k _ _ w G _ H (Same.refl _) ⟨c.core.addRaw, c.wf⟩⟩
  · rename_i x _ _ _ e
    obtain ⟨v, hv⟩ := go _ e
    exact ⟨v, hv, k _ _ w G v H (Same.refl _) ⟨c, hv⟩⟩
  · exact w.elim
theorem c_of {v : V} {d : PyData} {e : Expr} (h : PE X e (tC v)) (r : ∀ q H, Rep q H v d) : PV X e (eC d) :=
  PE.imp h fun σ H Q ⟨U, G0, G, T, sl, Qv, c, w, k⟩ => k _ _ w G v H (Same.refl _) ⟨c.core.addShr (r _ _), c.wf⟩
theorem v_int {i j} : PV X (.Constant (.int i) j pos) (eC (.int i)) := c_of pe_int fun _ _ => .int _
theorem v_bool {b j} : PV X (.Constant (.bool b) j pos) (eC (.bool b)) := c_of pe_bl fun _ _ => .bl _
theorem v_none {j} : PV X (.Constant .none j pos) (eC .none) := c_of pe_non fun _ _ => .non
theorem v_str {x j} : PV X (.Constant (.str x) j pos) (eC (.str x)) := c_of pe_str fun _ _ => .str _
/-- a module's number -/
theorem v_glob {x : Str} {i : Int} {t : Tok} (hg : Gl X x) (hm : X.mg x = some (.int i t)) (hd : (x == ("__debug__" : Str)) = false := by decide) : PV X (.Name x pos) (eC (.int i)) :=
  c_of (v := .int i) (pe_glob hg hm ⟨t, rfl⟩ hd) fun _ _ => .int _
theorem v_globS {x : Str} {y : Str} {t : Tok} (hg : Gl X x) (hm : X.mg x = some (.str y t)) (hd : (x == ("__debug__" : Str)) = false := by decide) : PV X (.Name x pos) (eC (.str y)) :=
  c_of (v := .str y) (pe_glob hg hm ⟨t, rfl⟩ hd) fun _ _ => .str _

/-! ### operators -/
def eOp (o : OV) (a b : WE) : WE := fun sl Q => a sl fun ra s1 => b s1 fun rb s2 => o ra rb s2 Q
def eUn (o : UV) (a : WE) : WE := fun sl Q => a sl fun ra s1 => o ra s1 Q
variable {a b : Expr} {wa wb : WE}
theorem lift2 {r : R2} {o : OV} {ta tb : TE} {wa wb : WE} (ha : ∀ σ H Q, liftE (pxOf X) wa σ H Q → ta σ H Q) (hb : ∀ σ H Q, liftE (pxOf X) wb σ H Q → tb σ H Q) (ho : ∀ x y H Q, liftO (pxOf X) o x y H Q → r x y H Q) :
    ∀ σ H Q, liftE (pxOf X) (eOp o wa wb) σ H Q → tOp r ta tb σ H Q := fun σ H Q ⟨U, G0, G, T, sl, Qv, c, w, k⟩ => by
  refine ha _ _ _ ⟨U, G0, G, T, sl, _, c, w, fun ra s1 wb' G1 x H1 e1 c1 => hb _ _ _ ?_⟩
  cases ra with
  | e xa =>
    refine ⟨U, G0, G1, (x, xa) :: T, s1, _, c1, wb', fun rb s2 wo G2 y H2 e2 c2 => ho _ _ _ _ ?_⟩
    refine ⟨U, G0, G2, T, s2, σ, .e xa, rb, _, ?_, wo, fun r sl' q G3 v H3 e3 c3 => k _ _ q _ _ _ (e1.trans (e2.trans e3)) c3⟩
    cases rb with
    | e xb => exact c2
    | al i => exact ⟨c2.2, c2.1⟩
  | al i =>
    refine ⟨U, G0, G1, T, s1, _, c1.1, wb', fun rb s2 wo G2 y H2 e2 c2 => ho _ _ _ _ ?_⟩
    refine ⟨U, G0, G2, T, s2, σ, .al i, rb, _, ?_, wo, fun r sl' q G3 v H3 e3 c3 => k _ _ q _ _ _ (e1.trans (e2.trans e3)) c3⟩
    cases rb with
    | e xb => exact ⟨c1.2, c2⟩
    | al j => exact ⟨c1.2, c2.2, c2.1⟩
theorem v_op {op : Operator} {o : OV} (ho : OpR X (binaryOp op) (liftO (pxOf X) o)) (ha : PV X a wa) (hb : PV X b wb) : PV X (.BinOp a op b pos) (eOp o wa wb) :=
  PE.imp (pe_op ho ha hb) (lift2 (fun _ _ _ h => h) (fun _ _ _ h => h) fun _ _ _ _ h => h)
theorem v_un {op : UnaryOp} {o : UV} (ho : UnR X (unaryOp op) (liftU (pxOf X) o)) (ha : PV X a wa) : PV X (.UnaryOp op a pos) (eUn o wa) :=
  PE.imp (pe_un ho ha) fun σ H Q ⟨U, G0, G, T, sl, Qv, c, w, k⟩ => ⟨U, G0, G, T, sl, _, c, w, fun ra s1 wo G1 x H1 e1 c1 => ⟨U, G0, G1, T, s1, σ, ra, _, c1, wo, fun r sl' q G3 v H3 e3 c3 => k _ _ q _ _ _ (e1.trans e3) c3⟩⟩
theorem v_cmp {op : CmpOp} {o : OV} (ho : OpR X (compareOp op) (liftO (pxOf X) o)) (ha : PV X a wa) (hb : PV X b wb) (hm : behindInMarks op b = false) : PV X (.Compare a [op] [b] pos) (eOp o wa wb) :=
  PE.imp (pe_cmpR ho ha hb hm) (lift2 (fun _ _ _ h => h) (fun _ _ _ h => h) fun _ _ _ _ h => h)
end
/-- reading two operands -/
theorem RelRs.two {f : Fr} {G H : Hp} {T : List (V × Ent)} {x y : V} {rx ry : R} {sl : Slots} {σ : St} (c : RelRs f G T [x, y] [rx, ry] sl σ H) : ∃ T', Rel f G T' sl σ H ∧ (∀ k, datR sl rx k → ∃ d, Rep f.q H x d ∧ k d) ∧ ∀ k, datR sl ry k → ∃ d, Rep f.q H y d ∧ k d := by
  have rd : ∀ {T' v r}, RelR f G T' v r sl σ H → ∀ k, datR sl r k → ∃ d, Rep f.q H v d ∧ k d := fun c k h => RelR.dat c h
  cases rx with
  | e xa =>
    cases ry with
    | e xb => exact ⟨_, c, fun k h => RelR.dat (r := .e xa) (T := (y, xb) :: T) ⟨Core.perm (show Core _ _ ((y, xb) :: (x, xa) :: (T ++ _)) _ from c.core) (.swap _ _ _), c.wf⟩ h, rd (r := .e xb) c⟩
    | al j => exact ⟨_, c.2, rd (r := .e xa) c.2, rd (r := .al j) ⟨c.2, c.1⟩⟩
  | al i =>
    cases ry with
    | e xb => exact ⟨_, c.2, rd (r := .al i) ⟨c.2, c.1⟩, rd (r := .e xb) c.2⟩
    | al j => exact ⟨_, c.2.2, rd (r := .al i) ⟨c.2.2, c.1⟩, rd (r := .al j) ⟨c.2.2, c.2.1⟩⟩
/-- forgetting the operands -/
theorem RelRs.base {f : Fr} {G H : Hp} {sl : Slots} {σ : St} : ∀ {vs : List V} {rs : List R} {T : List (V × Ent)}, RelRs f G T vs rs sl σ H → Rel f G T sl σ H
  | [], [], _, c => c
  | v :: vs, .e x :: rs, T, c => ⟨(RelRs.base (T := (v, x) :: T) c).core.drop, (RelRs.base (T := (v, x) :: T) c).wf⟩
  | v :: vs, .al i :: rs, T, c => RelRs.base c.2
  | [], _ :: _, _, c => (show False from c).elim
  | _ :: _, [], _, c => (show False from c).elim
/-- an operator that reads data and gives a solid thing -/
abbrev DOp := PyData → PyData → (PyData → Prop) → Prop
def oRd (g : DOp) : OV := fun rx ry sl Q => datR sl rx fun dx => datR sl ry fun dy => g dx dy fun d => Sol d ∧ Q (.e (.shr d)) sl
theorem op_rd {X : Cx} {f} {g : DOp} {r : R2} (h : OpR X f r) (hg : ∀ x y H dx dy (k : PyData → Prop) (Q : VK), Rep (pxOf X) H x dx → Rep (pxOf X) H y dy → g dx dy k → (∀ d v, k d → Rep (pxOf X) H v d → Q v H) → r x y H Q) :
    OpR X f (liftO (pxOf X) (oRd g)) := OpR.imp h fun x y H Q ⟨U, G0, G, T, sl, σ, rx, ry, Qv, c, w, k⟩ => by
  obtain ⟨T', c', a, b⟩ := c.two
  obtain ⟨dx, hx, w⟩ := a _ w
  obtain ⟨dy, hy, w⟩ := b _ w
  refine hg x y H dx dy _ Q hx hy w fun d v hk hv => ?_
  exact k _ _ hk.2 G v H (Same.refl _) ⟨c.base.core.addShr (Rep.solid c'.core.tups c'.core.frzs hk.1 hv), c.base.wf⟩
end VV

/-! V3: operators and comparisons -/
namespace VV
open PySem PySem.Spec L2
open PyProof.Rows hiding St

/-- the items of a list, of a tuple, that may be handed on -/
def Ent.lsts (k : List PyData → Prop) : Ent → Prop
  | .shr (.list ds) => k ds
  | .bor (.list ds) => Sols ds ∧ k ds
  | .own ds => k ds
  | _ => False
def Ent.tups (k : List PyData → Prop) : Ent → Prop
  | .shr (.tuple ds) => k ds
  | .bor (.tuple ds) => Sols ds ∧ k ds
  | _ => False
def lstR (sl : Slots) (r : R) (k : List PyData → Prop) : Prop := match r with
  | .e x => x.lsts k
  | .al i => atS sl i (Ent.lsts k)
def tupR (sl : Slots) (r : R) (k : List PyData → Prop) : Prop := match r with
  | .e x => x.tups k
  | .al i => atS sl i (Ent.tups k)
/-- .. and how an item comes -/
def Ent.itL (k : List PyData → (PyData → Ent) → Prop) : Ent → Prop
  | .shr (.list ds) => k ds .shr
  | .bor (.list ds) => (Sols ds ∧ k ds .shr) ∨ k ds .bor
  | .own ds => k ds .shr
  | _ => False
def Ent.itT (k : List PyData → (PyData → Ent) → Prop) : Ent → Prop
  | .shr (.tuple ds) => k ds .shr
  | .bor (.tuple ds) => (Sols ds ∧ k ds .shr) ∨ k ds .bor
  | _ => False
def itLR (sl : Slots) (r : R) (k : List PyData → (PyData → Ent) → Prop) : Prop := match r with
  | .e x => x.itL k
  | .al i => atS sl i (Ent.itL k)
def itTR (sl : Slots) (r : R) (k : List PyData → (PyData → Ent) → Prop) : Prop := match r with
  | .e x => x.itT k
  | .al i => atS sl i (Ent.itT k)
section
variable {f : Fr} {G H : Hp} {L T : List (V × Ent)} {v : V} {x : Ent} {sl : Slots} {σ : St} {r : R}
theorem Core.bord {d : PyData} (c : Core f G L H) (hm : (v, .bor d) ∈ L) : Rep f.q f.U v d := by
  obtain ⟨F, a, _, _⟩ := c.res
  obtain ⟨F', o, _⟩ := a.mem hm
  cases o with | bor h => exact h
theorem Core.ownd {ds : List PyData} (c : Core f G L H) (hm : (v, .own ds) ∈ L) : ∃ p vs, v = .ref p ∧ H p = some (.lst vs) ∧ Reps f.q G vs ds := by
  obtain ⟨F, a, _, _⟩ := c.res
  obtain ⟨F', o, _⟩ := a.mem hm
  cases o with | own h r => exact ⟨_, _, rfl, h, r⟩
/-- the items are there, as G has them or as U has them -/
theorem Core.itL (c : Core f G L H) (hm : (v, x) ∈ L) {k} (h : x.itL k) :
    ∃ a vs ds mk, v = .ref a ∧ SqL f.q.K H a vs ∧ ((mk = .shr ∧ Reps f.q G vs ds) ∨ (mk = .bor ∧ Reps f.q f.U vs ds)) ∧ k ds mk := by
  cases x with
  | shr d =>
    cases d with
    | list ds => cases c.shrd hm with | lst h1 h2 => exact ⟨_, _, _, _, rfl, Same.sqL c.sG h1, .inl ⟨rfl, h2⟩, h⟩
    | _ => exact (show False from h).elim
  | bor d =>
    cases d with
    | list ds =>
      cases c.bord hm with
      | lst h1 h2 =>
        rcases h with h | h
        · exact ⟨_, _, _, _, rfl, Same.sqL c.sU h1, .inl ⟨rfl, Reps.solid c.tU c.fU h.1 h2⟩, h.2⟩
        · exact ⟨_, _, _, _, rfl, Same.sqL c.sU h1, .inr ⟨rfl, h2⟩, h⟩
    | _ => exact (show False from h).elim
  | own ds =>
    obtain ⟨p, vs, rfl, hp, rr⟩ := c.ownd hm
    exact ⟨_, _, _, _, rfl, .inl (.inl hp), .inl ⟨rfl, rr⟩, h⟩
  | _ => exact (show False from h).elim
theorem Core.itT (c : Core f G L H) (hm : (v, x) ∈ L) {k} (h : x.itT k) :
    ∃ a vs ds mk, v = .ref a ∧ SqT f.q.K H a vs ∧ ((mk = .shr ∧ Reps f.q G vs ds) ∨ (mk = .bor ∧ Reps f.q f.U vs ds)) ∧ k ds mk := by
  cases x with
  | shr d =>
    cases d with
    | tuple ds => cases c.shrd hm with | tup h1 h2 => exact ⟨_, _, _, _, rfl, Same.seqT c.sG h1, .inl ⟨rfl, h2⟩, h⟩
    | _ => exact (show False from h).elim
  | bor d =>
    cases d with
    | tuple ds =>
      cases c.bord hm with
      | tup h1 h2 =>
        rcases h with h | h
        · exact ⟨_, _, _, _, rfl, Same.seqT c.sU h1, .inl ⟨rfl, Reps.solid c.tU c.fU h.1 h2⟩, h.2⟩
        · exact ⟨_, _, _, _, rfl, Same.seqT c.sU h1, .inr ⟨rfl, h2⟩, h⟩
    | _ => exact (show False from h).elim
  | _ => exact (show False from h).elim
/-- in which list of things a result stands -/
theorem RelR.in (c : RelR f G T v r sl σ H) {K : Ent → Prop} (h : match r with | .e x => K x | .al i => atS sl i K) : ∃ L x, Core f G L H ∧ (v, x) ∈ L ∧ K x := by
  cases r with
  | e x => exact ⟨_, x, c.core, by simp, h⟩
  | al i =>
    obtain ⟨x, hs, h⟩ := atS_iff h
    exact ⟨_, x, c.1.core, c.1.slot hs c.2, h⟩
theorem RelR.itL (c : RelR f G T v r sl σ H) {k} (h : itLR sl r k) : ∃ a vs ds mk, v = .ref a ∧ SqL f.q.K H a vs ∧ ((mk = .shr ∧ Reps f.q G vs ds) ∨ (mk = .bor ∧ Reps f.q f.U vs ds)) ∧ k ds mk := by
  obtain ⟨L, x, c', hm, h⟩ := RelR.in (K := Ent.itL k) c (by cases r <;> exact h)
  exact c'.itL hm h
theorem RelR.itT (c : RelR f G T v r sl σ H) {k} (h : itTR sl r k) : ∃ a vs ds mk, v = .ref a ∧ SqT f.q.K H a vs ∧ ((mk = .shr ∧ Reps f.q G vs ds) ∨ (mk = .bor ∧ Reps f.q f.U vs ds)) ∧ k ds mk := by
  obtain ⟨L, x, c', hm, h⟩ := RelR.in (K := Ent.itT k) c (by cases r <;> exact h)
  exact c'.itT hm h
theorem Ent.lsts_it {x : Ent} {k} (h : x.lsts k) : x.itL fun ds mk => mk = .shr ∧ k ds := by
  cases x with
  | shr d => cases d <;> first | exact ⟨rfl, h⟩ | exact h
  | bor d => cases d <;> first | exact .inl ⟨h.1, rfl, h.2⟩ | exact h
  | own ds => exact ⟨rfl, h⟩
  | _ => exact h
theorem Ent.tups_it {x : Ent} {k} (h : x.tups k) : x.itT fun ds mk => mk = .shr ∧ k ds := by
  cases x with
  | shr d => cases d <;> first | exact ⟨rfl, h⟩ | exact h
  | bor d => cases d <;> first | exact .inl ⟨h.1, rfl, h.2⟩ | exact h
  | _ => exact h
theorem RelR.lst (c : RelR f G T v r sl σ H) {k} (h : lstR sl r k) : ∃ a vs ds, v = .ref a ∧ SqL f.q.K H a vs ∧ Reps f.q G vs ds ∧ k ds := by
  obtain ⟨L, x, c', hm, h⟩ := RelR.in (K := Ent.lsts k) c (by cases r <;> exact h)
  obtain ⟨a, vs, ds, mk, e, hr, hh, e2, hk⟩ := c'.itL hm (Ent.lsts_it h)
  subst e2
  rcases hh with ⟨_, hh⟩ | ⟨z, _⟩
  · exact ⟨a, vs, ds, e, hr, hh, hk⟩
  · exact absurd (congrFun z .none) (by simp)
theorem RelR.tup (c : RelR f G T v r sl σ H) {k} (h : tupR sl r k) : ∃ a vs ds, v = .ref a ∧ SqT f.q.K H a vs ∧ Reps f.q G vs ds ∧ k ds := by
  obtain ⟨L, x, c', hm, h⟩ := RelR.in (K := Ent.tups k) c (by cases r <;> exact h)
  obtain ⟨a, vs, ds, mk, e, hr, hh, e2, hk⟩ := c'.itT hm (Ent.tups_it h)
  subst e2
  rcases hh with ⟨_, hh⟩ | ⟨z, _⟩
  · exact ⟨a, vs, ds, e, hr, hh, hk⟩
  · exact absurd (congrFun z .none) (by simp)
/-- two results, each with its own temporaries -/
theorem RelRs.both {x y : V} {rx ry : R} (c : RelRs f G T [x, y] [rx, ry] sl σ H) : (∃ T', RelR f G T' x rx sl σ H) ∧ ∃ T', RelR f G T' y ry sl σ H := by
  cases rx with
  | e xa =>
    cases ry with
    | e xb => exact ⟨⟨(y, xb) :: T, ⟨Core.perm (show Core _ _ ((y, xb) :: (x, xa) :: (T ++ _)) _ from c.core) (.swap _ _ _), c.wf⟩⟩, ⟨_, c⟩⟩
    | al j => exact ⟨⟨_, c.2⟩, ⟨_, c.2, c.1⟩⟩
  | al i =>
    cases ry with
    | e xb => exact ⟨⟨_, c.2, c.1⟩, ⟨_, c.2⟩⟩
    | al j => exact ⟨⟨_, c.2.2, c.1⟩, ⟨_, c.2.2, c.2.1⟩⟩
end

/-! ### the wide list operators: what is read may be frozen -/
section
variable {X : Cx} {pins : List (Addr × Obj)} {s : Shared} {σ : St} {H : Hp}
def rCatR (K : PySem.W.Frag) : R2 := fun x y H Q => ∃ l b xs zs, x = .ref l ∧ y = .ref b ∧ SqL K H l xs ∧ SqL K H b zs ∧ xs.length + zs.length ≤ sizeLine ∧ ∀ p, H p = none → Q (.ref p) (upd H p (.lst (xs ++ zs)))
theorem op_catR : OpR X (binaryOp .Add) (rCatR X.K) := by
  intro pins s σ H x y v u Q I rx ry h
  obtain ⟨l, b, xs, zs, rfl, rfl, hH, hB, hz, q⟩ := h
  cases rx
  cases ry
  obtain ⟨its, r, p, _⟩ := I.list hH
  obtain ⟨its2, r2, p2, _⟩ := I.list hB
  have hl := r.length
  have hl2 := r2.length
  obtain ⟨⟨cls, dd, data, sl⟩, ho, hc, n, hd⟩ := p.isList
  obtain ⟨⟨cls2, dd2, data2, sl2⟩, ho2, hc2, n2, hd2⟩ := p2.isList
  simp only at hc hd hc2 hd2
  subst hc hd hc2 hd2
  have ea : its.toArray ++ its2.toArray = (its ++ its2).toArray := by simp
  refine concat_meets ⟨_, ho, rfl⟩ ⟨_, ho2, rfl⟩ noFill_list_add seq_list_add PySem.F.slot_list_add PySem.F.entry_list_add (PySem.F.args_list_add_2 _ _) (list_addW l b its.toArray its2.toArray n n2 dd dd2 sl sl2 (by rw [List.size_toArray, List.size_toArray]; omega)) ⟨ho, ho2, ?_⟩
  rw [ea]
  exact ⟨.ref _, _, I.lnew (t' := s.toks) (r.append r2) (by rw [List.length_append]; omega), rfl, q _ I.fresh⟩
end
/-- the own list in slot i -/
def ownS (i : Nat) (k : List PyData → Prop) (sl : Slots) : Prop := match sl[i]? with
  | some (some (.own ds)) => k ds
  | _ => False
theorem ownS_iff {i : Nat} {k : List PyData → Prop} {sl : Slots} (h : ownS i k sl) : ∃ ds, sl[i]? = some (some (.own ds)) ∧ k ds := by
  unfold ownS at h
  split at h
  · rename_i ds e; exact ⟨ds, e, h⟩
  · exact h.elim
/-- the own list of a result -/
def ownR (sl : Slots) (r : R) (k : List PyData → Prop) : Prop := match r with
  | .e (.own ds) => k ds
  | .al i => ownS i k sl
  | _ => False
theorem ownR_of {f : Fr} {G H : Hp} {T : List (V × Ent)} {sl : Slots} {σ : St} {y : V} {r : R} {k : List PyData → Prop} (c : RelR f G T y r sl σ H) (h : ownR sl r k) : ∃ p vs ds, y = .ref p ∧ H p = some (.lst vs) ∧ Reps f.q G vs ds ∧ k ds := by
  cases r with
  | e x =>
    cases x <;> try exact (show False from h).elim
    rename_i ds
    obtain ⟨p, vs, e, hp, r⟩ := c.core.ownd (v := y) (ds := ds) (by simp)
    exact ⟨p, vs, _, e, hp, r, h⟩
  | al i =>
    obtain ⟨ds, hs, h⟩ := ownS_iff h
    obtain ⟨p, vs, e, hp, r⟩ := c.1.core.ownd (c.1.slot hs c.2)
    exact ⟨p, vs, ds, e, hp, r, h⟩
end VV

/-! V4: what the operators give -/
namespace VV
open PySem PySem.Spec L2
open PyProof.Rows hiding St

/-- data of depth at most n without dicts -/
def Dok : Nat → PyData → Prop
  | _, .none => True
  | _, .bool _ => True
  | _, .int _ => True
  | _, .str _ => True
  | 0, _ => False
  | n + 1, .list ds => ∀ d ∈ ds, Dok n d
  | n + 1, .tuple ds => ∀ d ∈ ds, Dok n d
  | _ + 1, .dict _ => False
theorem Dok.plain : ∀ (n : Nat) (d : PyData), Dok n d → d.plain = true ∧ d.depth ≤ n := by
  intro n
  induction n with
  | zero =>
    intro d h
    cases d with
    | none => exact ⟨rfl, Nat.le_refl _⟩
    | bool _ => exact ⟨rfl, Nat.le_refl _⟩
    | int _ => exact ⟨rfl, Nat.le_refl _⟩
    | str _ => exact ⟨rfl, Nat.le_refl _⟩
    | _ => exact (show False from h).elim
  | succ n ih =>
    have all : ∀ ds : List PyData, (∀ d ∈ ds, Dok n d) → PyData.plainAll ds = true ∧ PyData.depthAll ds ≤ n := by
      intro ds
      induction ds with
      | nil => intro _; exact ⟨rfl, Nat.zero_le _⟩
      | cons d ds ih2 =>
        intro h
        obtain ⟨a, b⟩ := ih d (h d (by simp))
        obtain ⟨c, e⟩ := ih2 fun x hx => h x (by simp [hx])
        exact ⟨by simp [PyData.plainAll, a, c], by simp only [PyData.depthAll]; omega⟩
    intro d h
    cases d with
    | none => exact ⟨rfl, Nat.zero_le _⟩
    | bool _ => exact ⟨rfl, Nat.zero_le _⟩
    | int _ => exact ⟨rfl, Nat.zero_le _⟩
    | str _ => exact ⟨rfl, Nat.zero_le _⟩
    | list ds => obtain ⟨a, b⟩ := all ds h; exact ⟨by simpa [PyData.plain] using a, by simp only [PyData.depth]; omega⟩
    | tuple ds => obtain ⟨a, b⟩ := all ds h; exact ⟨by simpa [PyData.plain] using a, by simp only [PyData.depth]; omega⟩
    | dict _ => exact (show False from h).elim
mutual
theorem Rep.dp {q : Px} {H : Hp} : ∀ {v : V} {d : PyData}, d.plain = true → Rep q H v d → Dp q.K H v d
  | _, _, _, .non => .non
  | _, _, _, .bl b => .bl b
  | _, _, _, .int i => .int i
  | _, _, _, .str x => .str x
  | _, _, h, .lst e r => .lst e (Reps.dp (by simpa [PyData.plain] using h) r)
  | _, _, h, .tup e r => .tup e (Reps.dp (by simpa [PyData.plain] using h) r)
  | _, _, h, .dctT _ _ => nomatch h
theorem Reps.dp {q : Px} {H : Hp} : ∀ {vs : List V} {ds : List PyData}, PyData.plainAll ds = true → Reps q H vs ds → DpAll q.K H vs ds
  | _, _, _, .nil => .nil
  | _, d :: ds, h, .cons e r => by
    have h' : d.plain = true ∧ PyData.plainAll ds = true := by simpa [PyData.plainAll] using h
    exact .cons (Rep.dp h'.1 e) (Reps.dp h'.2 r)
end

/-! ### arithmetic -/
def CMulA (i j : Int) : Prop := CMul i j ∨ (i.natAbs.log2 + j.natAbs.log2 < 1000000)
def oAdd : OV := fun rx ry sl Q => datR sl rx fun dx => datR sl ry fun dy => match dx, dy with
  | .int i, .int j => Q (.e (.shr (.int (i + j)))) sl
  | .str x, .str y => x.length + y.length ≤ sizeLine ∧ Q (.e (.shr (.str (x ++ y)))) sl
  | .list _, .list _ => lstR sl rx fun xs => lstR sl ry fun ys => xs.length + ys.length ≤ sizeLine ∧ Q (.e (.own (xs ++ ys))) sl
  | .tuple _, .tuple _ => tupR sl rx fun xs => tupR sl ry fun ys => xs.length + ys.length ≤ sizeLine ∧ Q (.e (.shr (.tuple (xs ++ ys)))) sl
  | _, _ => False
def dSub : DOp := fun dx dy k => match dx, dy with
  | .int i, .int j => k (.int (i - j))
  | _, _ => False
def oMul : OV := fun rx ry sl Q => datR sl rx fun dx => datR sl ry fun dy => match dx, dy with
  | .int i, .int j => CMulA i j ∧ Q (.e (.shr (.int (i * j)))) sl
  | .list _, .int k => ownR sl rx fun xs => -(2 ^ 63) ≤ k ∧ k < 2 ^ 63 ∧ xs.length * k.toNat ≤ sizeLine ∧ Q (.e (.own (List.replicate k.toNat xs).flatten)) sl
  | .tuple _, .int k => tupR sl rx fun xs => xs ≠ [] ∧ 1 ≤ k ∧ k ≤ 1000 ∧ xs.length ≤ 1000 ∧ Q (.e (.shr (.tuple (List.replicate k.toNat xs).flatten))) sl
  | _, _ => False
def dMod : DOp := fun dx dy k => match dx, dy with
  | .int i, .int j => 0 < j ∧ k (.int (i % j))
  | _, _ => False
def dDiv : DOp := fun dx dy k => match dx, dy with
  | .int i, .int j => (0 < j ∧ j.natAbs.log2 < 9000) ∧ k (.int (i / j))
  | _, _ => False
def dPow : DOp := fun dx dy k => match dx, dy with
  | .int i, .int j => (0 ≤ j ∧ j ≤ 1000000 ∧ i.natAbs < 2 ^ 64) ∧ k (.int (i ^ j.toNat))
  | _, _ => False
def dShl : DOp := fun dx dy k => match dx, dy with
  | .int i, .int j => (0 ≤ j ∧ j ≤ 1000000 ∧ i.natAbs < 2 ^ 64) ∧ k (.int (i * 2 ^ j.toNat))
  | _, _ => False
def dShr : DOp := fun dx dy k => match dx, dy with
  | .int i, .int j => 0 ≤ j ∧ k (.int (i / 2 ^ j.toNat))
  | _, _ => False
def dAnd : DOp := fun dx dy k => match dx, dy with
  | .int i, .int j => k (.int (Builtin.bitAnd i j))
  | _, _ => False
section
variable {X : Cx}
theorem ints_of {q : Px} {H : Hp} {x : V} {i : Int} (h : Rep q H x (.int i)) : x = .int i := by cases h; rfl
theorem strs_of {q : Px} {H : Hp} {x : V} {i : Str} (h : Rep q H x (.str i)) : x = .str i := by cases h; rfl
theorem bools_of {q : Px} {H : Hp} {x : V} {i : Bool} (h : Rep q H x (.bool i)) : x = .bl i := by cases h; rfl
theorem none_of {q : Px} {H : Hp} {x : V} (h : Rep q H x .none) : x = .non := by cases h; rfl
theorem op_intI {f} {C : Int → Int → Prop} {g : Int → Int → Int} {D : DOp} (h : OpR X f (rI C fun i j => .int (g i j)))
    (hD : ∀ dx dy k, D dx dy k → ∃ i j, dx = .int i ∧ dy = .int j ∧ C i j ∧ k (.int (g i j))) : OpR X f (liftO (pxOf X) (oRd D)) :=
  op_rd h fun x y H dx dy k Q hx hy hg hQ => by
    obtain ⟨i, j, rfl, rfl, hc, hk⟩ := hD _ _ _ hg
    exact ⟨i, j, ints_of hx, ints_of hy, hc, hQ _ _ hk (.int _)⟩
theorem o_sub : OpR X (binaryOp .Sub) (liftO (pxOf X) (oRd dSub)) := op_rd op_sub fun x y H dx dy k Q hx hy hg hQ => by
  cases dx <;> try exact hg.elim
  cases dy <;> try exact hg.elim
  exact ⟨_, _, ints_of hx, ints_of hy, hQ _ _ hg (.int _)⟩
theorem o_mod : OpR X (binaryOp .Mod) (liftO (pxOf X) (oRd dMod)) := op_intI op_mod fun dx dy k hg => by
  cases dx <;> try exact hg.elim
  cases dy <;> try exact hg.elim
  exact ⟨_, _, rfl, rfl, hg.1, hg.2⟩
theorem o_div : OpR X (binaryOp .FloorDiv) (liftO (pxOf X) (oRd dDiv)) := op_intI op_fdivW fun dx dy k hg => by
  cases dx <;> try exact hg.elim
  cases dy <;> try exact hg.elim
  exact ⟨_, _, rfl, rfl, hg.1, hg.2⟩
theorem o_pow : OpR X (binaryOp .Pow) (liftO (pxOf X) (oRd dPow)) := op_intI op_pow fun dx dy k hg => by
  cases dx <;> try exact hg.elim
  cases dy <;> try exact hg.elim
  exact ⟨_, _, rfl, rfl, hg.1, hg.2⟩
theorem o_shl : OpR X (binaryOp .LShift) (liftO (pxOf X) (oRd dShl)) := op_intI op_shl fun dx dy k hg => by
  cases dx <;> try exact hg.elim
  cases dy <;> try exact hg.elim
  exact ⟨_, _, rfl, rfl, hg.1, hg.2⟩
theorem o_shr : OpR X (binaryOp .RShift) (liftO (pxOf X) (oRd dShr)) := op_intI op_shr fun dx dy k hg => by
  cases dx <;> try exact hg.elim
  cases dy <;> try exact hg.elim
  exact ⟨_, _, rfl, rfl, hg.1, hg.2⟩
theorem o_and : OpR X (binaryOp .BitAnd) (liftO (pxOf X) (oRd dAnd)) := op_rd op_and fun x y H dx dy k Q hx hy hg hQ => by
  cases dx <;> try exact hg.elim
  cases dy <;> try exact hg.elim
  exact ⟨_, _, ints_of hx, ints_of hy, hQ _ _ hg (.int _)⟩
theorem o_add : OpR X (binaryOp .Add) (liftO (pxOf X) oAdd) :=
  OpR.imp (op_add.or (op_add_str.or (op_catR.or op_catA))) fun x y H Q ⟨U, G0, G, T, sl, σ, rx, ry, Qv, c, w, k⟩ => by
    obtain ⟨⟨T1, c1⟩, T2, c2⟩ := c.both
    obtain ⟨dx, hx, w⟩ := c1.dat w
    obtain ⟨dy, hy, w⟩ := c2.dat w
    have cb := c.base
    split at w
    · exact .inl ⟨_, _, ints_of hx, ints_of hy, k _ _ w G _ H (Same.refl _) ⟨cb.core.addShr (.int _), cb.wf⟩⟩
    · exact .inr (.inl ⟨_, _, strs_of hx, strs_of hy, w.1, k _ _ w.2 G _ H (Same.refl _) ⟨cb.core.addShr (.str _), cb.wf⟩⟩)
    · obtain ⟨a, vs, ds, rfl, ha, ra, w⟩ := c1.lst w
      obtain ⟨b, us, es, rfl, hb, rb, hz, w⟩ := c2.lst w
      refine .inr (.inr (.inl ⟨a, b, vs, us, rfl, rfl, ha, hb, by rw [ra.length, rb.length]; exact hz, fun p hp => k _ _ w G _ _ (Same.refl _) ⟨cb.core.newOwn hp (ra.append rb), cb.wf⟩⟩))
    · obtain ⟨a, vs, ds, rfl, ha, ra, w⟩ := c1.tup w
      obtain ⟨b, us, es, rfl, hb, rb, hz, w⟩ := c2.tup w
      have hA : Rep (pxOf X) H (.ref a) (.tuple ds) := .tup ha (ra.mono cb.core.sG)
      have hB : Rep (pxOf X) H (.ref b) (.tuple es) := .tup hb (rb.mono cb.core.sG)
      refine .inr (.inr (.inr ⟨a, b, vs, us, rfl, rfl, ha, hb, by rw [ra.length, rb.length]; exact hz, fun e => ?_, fun e e' => ?_, fun e e' p hp => ?_⟩))
      · subst e; cases ra
        refine k _ _ w G _ _ (Same.refl _) ⟨cb.core.addShr ?_, cb.wf⟩
        rcases hb with (hb | ⟨o, hb⟩) | hb
        · exact .tup (.inl (.inl (cb.core.tups _ _ hb))) rb
        · exact .tup (.inl (.inr ⟨o, cb.core.frzs _ _ _ hb⟩)) rb
        · exact .tup (.inr hb) rb
      · subst e'; cases rb
        rw [List.append_nil] at w
        refine k _ _ w G _ _ (Same.refl _) ⟨cb.core.addShr ?_, cb.wf⟩
        rcases ha with (ha | ⟨o, ha⟩) | ha
        · exact .tup (.inl (.inl (cb.core.tups _ _ ha))) ra
        · exact .tup (.inl (.inr ⟨o, cb.core.frzs _ _ _ ha⟩)) ra
        · exact .tup (.inr ha) ra
      · obtain ⟨c3, s3⟩ := cb.core.newTup (vs := vs ++ us) hp
        exact k _ _ w _ _ _ s3 ⟨c3.addShr (.tup (SqT.of upd_same) ((ra.append rb).mono s3)), cb.wf⟩
    · exact w.elim
theorem SqT.toG {f : Fr} {G H : Hp} {L} {a : Addr} {xs : List V} (c : Core f G L H) (h : SqT f.q.K H a xs) : SqT f.q.K G a xs := by
  rcases h with (h | ⟨o, h⟩) | h
  · exact .inl (.inl (c.tups _ _ h))
  · exact .inl (.inr ⟨o, c.frzs _ _ _ h⟩)
  · exact .inr h
theorem op_mulA : OpR X (binaryOp .Mult) (rI CMulA fun i j => .int (i * j)) := opI fun _ _ _ _ _ _ _ hc q => mul_int q (by
  rcases hc with hc | hc
  · exact hc.ok
  · exact CMulW.ok hc)
/-- a tuple once is itself -/
theorem tuple_mul1 (l : Addr) (items : Array Value) (n : Nat) (dd : Option Addr) (sl : Array (Option Value)) (u : Tok) :
    Meets (Builtin.«tuple.__mul__» ⟨[.ref l, .int 1 u], []⟩) (fun _ R s => s.heap.get? l = some { cls := .type "tuple", dict := dd, data := .seq items n, slots := sl } ∧ R (.ok (.ret (Value.ref l))) s) :=
  .of_wp fun prog w A R s h => by
    obtain ⟨hp, g, d, tk, os⟩ := s
    obtain ⟨hl, h⟩ := h
    have f1 := AutoSeq1.idx_int
    wp_walk using wpAny_loadPart' hl
    repeat (first
      | (refine wpAny_ite_false (by decide) ?_; wp_walk using wpAny_loadPart' hl)
      | (refine wpAny_ite_true (by simp) ?_; wp_walk using wpAny_loadPart' hl))
    exact ⟨_, rfl, h⟩
def rRep1 (K : PySem.W.Frag) : R2 := fun x y H Q => ∃ l xs, x = .ref l ∧ y = .int 1 ∧ SqT K H l xs ∧ Q (.ref l) H
theorem op_rep1 : OpR X (binaryOp .Mult) (rRep1 X.K) := by
  intro pins s σ H x y v u Q I rx ry h
  obtain ⟨l, xs, rfl, rfl, hT, q⟩ := h
  cases rx
  obtain ⟨t, rfl⟩ := ry
  obtain ⟨its, r, ⟨⟨cls, dd, data, sl⟩, ho, hc, n, hd⟩, hs⟩ := I.tuple hT
  simp only at hc hd
  subst hc hd
  refine wpAny_binaryOp_repeat_ref (T := "tuple") (U := "int") (by decide) ⟨_, ho, rfl⟩ (fun s' => typeIs_int s' 1 t) noFill_tuple_mul F.fills_int_mul F.slot_int_rmul repeat_tuple F.slot_int_index.lookup
    (call_meets F.slot_int_rmul (typeIs_int s 1 t) F.entry_int_rmul (F.args_int_rmul_2 _ _) (int_rmul_tuple 1 t l its.toArray n dd sl)
      ⟨ho, rfl, ⟨_, ho, rfl⟩, call_meets F.slot_tuple_mul ⟨_, ho, rfl⟩ F.entry_tuple_mul (F.args_tuple_mul_2 _ _) (tuple_mul1 l its.toArray n dd sl t) ⟨ho, ?_⟩⟩)
  exact ⟨.ref l, H, I, rfl, q⟩
theorem Reps.rep {q : Px} {H : Hp} {vs : List V} {ds : List PyData} (r : Reps q H vs ds) : ∀ k, Reps q H (List.replicate k vs).flatten (List.replicate k ds).flatten
  | 0 => .nil
  | k + 1 => by
    rw [List.replicate_succ, List.replicate_succ, List.flatten_cons, List.flatten_cons]
    exact r.append (Reps.rep r k)
theorem o_mul : OpR X (binaryOp .Mult) (liftO (pxOf X) oMul) :=
  OpR.imp (op_mulA.or (op_rep.or (op_repT.or op_rep1))) fun x y H Q ⟨U, G0, G, T, sl, σ, rx, ry, Qv, c, w, k⟩ => by
    obtain ⟨⟨T1, c1⟩, T2, c2⟩ := c.both
    obtain ⟨dx, hx, w⟩ := c1.dat w
    obtain ⟨dy, hy, w⟩ := c2.dat w
    have cb := c.base
    split at w
    · exact .inl ⟨_, _, ints_of hx, ints_of hy, w.1, k _ _ w.2 G _ H (Same.refl _) ⟨cb.core.addShr (.int _), cb.wf⟩⟩
    · obtain ⟨a, vs, ds, rfl, ha, ra, h1, h2, h3, w⟩ := ownR_of c1 w
      exact .inr (.inl ⟨a, _, vs, rfl, ints_of hy, ha, h1, h2, by rw [ra.length]; exact h3, fun p hp => k _ _ w G _ _ (Same.refl _) ⟨cb.core.newOwn hp (ra.rep _), cb.wf⟩⟩)
    · rename_i j _
      obtain ⟨a, vs, ds, rfl, ha, ra, hne, h1, h2, h3, w⟩ := c1.tup w
      have hv : vs ≠ [] := fun e => by subst e; cases ra; exact hne rfl
      by_cases e1 : j = 1
      · subst e1
        rw [show (List.replicate (1 : Int).toNat ds).flatten = ds by simp] at w
        exact .inr (.inr (.inr ⟨a, vs, rfl, ints_of hy, ha, k _ _ w G _ _ (Same.refl _) ⟨cb.core.addShr (.tup (SqT.toG cb.core ha) ra), cb.wf⟩⟩))
      · refine .inr (.inr (.inl ⟨a, j, vs, rfl, ints_of hy, ha, hv, by omega, h2, by rw [ra.length]; exact h3, fun p hp => ?_⟩))
        obtain ⟨c3, s3⟩ := cb.core.newTup (vs := (List.replicate j.toNat vs).flatten) hp
        exact k _ _ w _ _ _ s3 ⟨c3.addShr (.tup (SqT.of upd_same) ((ra.rep _).mono s3)), cb.wf⟩
    · exact w.elim
def uNeg : UV := fun rx sl Q => datR sl rx fun dx => match dx with
  | .int i => Q (.e (.shr (.int (-i)))) sl
  | _ => False
theorem RelR.base {f : Fr} {G H : Hp} {T : List (V × Ent)} {v : V} {r : R} {sl : Slots} {σ : St} (c : RelR f G T v r sl σ H) : Rel f G T sl σ H := by
  cases r with
  | e x => exact ⟨c.core.drop, c.wf⟩
  | al i => exact c.1
theorem u_neg : UnR X (unaryOp .USub) (liftU (pxOf X) uNeg) := UnR.imp un_neg fun x H Q ⟨U, G0, G, T, sl, σ, rx, Qv, c, w, k⟩ => by
  obtain ⟨dx, hx, w⟩ := c.dat w
  have cb := c.base
  split at w
  · exact ⟨_, ints_of hx, k _ _ w G _ H (Same.refl _) ⟨cb.core.addShr (.int _), cb.wf⟩⟩
  · exact w.elim

/-! ### comparisons -/
def dEq : DOp := fun dx dy k => Dok 8 dx ∧ Dok 8 dy ∧ k (.bool (PyData.eqv dx dy))
def dNe : DOp := fun dx dy k => Dok 8 dx ∧ Dok 8 dy ∧ k (.bool (!PyData.eqv dx dy))
def rEqP (K : PySem.W.Frag) : R2 := fun x y H Q => ∃ d e, Dp K H x d ∧ Dp K H y e ∧ Dok 8 d ∧ Dok 8 e ∧ Q (.bl (PyData.eqv d e)) H
def rNeP (K : PySem.W.Frag) : R2 := fun x y H Q => ∃ d e, Dp K H x d ∧ Dp K H y e ∧ Dok 8 d ∧ Dok 8 e ∧ Q (.bl (!PyData.eqv d e)) H
theorem op_eqP (hu : X.A.units + 64 < cLine) : OpR X (compareOp .Eq) (rEqP X.K) := by
  intro pins s σ H x y v u Q I rx ry h
  obtain ⟨d, e, hd, he, sd, se, q⟩ := h
  obtain ⟨as, r1⟩ := Dp.reads I d x v hd rx
  obtain ⟨bs, r2⟩ := Dp.reads I e y u he ry
  have := (Dok.plain _ _ sd).2
  exact SeqAt.eq_plain r1 r2 (Dok.plain _ _ sd).1 (Dok.plain _ _ se).1 (by omega) ⟨.bl _, H, I, rfl, q⟩
theorem op_neP (hu : X.A.units + 64 < cLine) : OpR X (compareOp .NotEq) (rNeP X.K) := by
  intro pins s σ H x y v u Q I rx ry h
  obtain ⟨d, e, hd, he, sd, se, q⟩ := h
  obtain ⟨as, r1⟩ := Dp.reads I d x v hd rx
  obtain ⟨bs, r2⟩ := Dp.reads I e y u he ry
  have := (Dok.plain _ _ sd).2
  exact SeqAt.ne_plain r1 r2 (Dok.plain _ _ sd).1 (Dok.plain _ _ se).1 (by omega) ⟨.bl _, H, I, rfl, q⟩
theorem o_eq (hu : X.A.units + 64 < cLine) : OpR X (compareOp .Eq) (liftO (pxOf X) (oRd dEq)) := op_rd (op_eqP hu) fun x y H dx dy k Q hx hy hg hQ =>
  ⟨dx, dy, hx.dp (Dok.plain _ _ hg.1).1, hy.dp (Dok.plain _ _ hg.2.1).1, hg.1, hg.2.1, hQ _ _ hg.2.2 (.bl _)⟩
theorem o_ne (hu : X.A.units + 64 < cLine) : OpR X (compareOp .NotEq) (liftO (pxOf X) (oRd dNe)) := op_rd (op_neP hu) fun x y H dx dy k Q hx hy hg hQ =>
  ⟨dx, dy, hx.dp (Dok.plain _ _ hg.1).1, hy.dp (Dok.plain _ _ hg.2.1).1, hg.1, hg.2.1, hQ _ _ hg.2.2 (.bl _)⟩
/-- the ints of a tuple -/
def intsD : List PyData → Option (List Int)
  | [] => some []
  | .int i :: ds => (intsD ds).map (i :: ·)
  | _ :: _ => none
theorem intsD_map (m : List Int) : intsD (m.map .int) = some m := by
  induction m with
  | nil => rfl
  | cons i m ih => simp [intsD, ih]
theorem intsD_eq : ∀ {ds : List PyData} {m : List Int}, intsD ds = some m → ds = m.map .int
  | [], m, h => by simp [intsD] at h; subst h; rfl
  | d :: ds, m, h => by
    cases d <;> simp [intsD] at h
    obtain ⟨a, ha, rfl⟩ := h
    rw [intsD_eq ha]; rfl
theorem Reps.ints {q : Px} {H : Hp} : ∀ {m : List Int} {vs : List V}, Reps q H vs (m.map .int) → vs = m.map V.int
  | [], _, r => by cases r; rfl
  | i :: m, _, r => by
    cases r with
    | cons h r => cases h; rw [Reps.ints r]; rfl
def dLt : DOp := fun dx dy k => match dx, dy with
  | .int i, .int j => k (.bool (decide (i < j)))
  | .str x, .str y => k (.bool (decide (x.cps.toList < y.cps.toList)))
  | .tuple xs, .tuple ys => ∃ ns ms, intsD xs = some ns ∧ intsD ys = some ms ∧ k (.bool (HT.lexLt ns ms))
  | _, _ => False
def dLe : DOp := fun dx dy k => match dx, dy with
  | .int i, .int j => k (.bool (decide (i ≤ j)))
  | .str x, .str y => k (.bool (!decide (y.cps.toList < x.cps.toList)))
  | _, _ => False
def dGt : DOp := fun dx dy k => match dx, dy with
  | .int i, .int j => k (.bool (decide (j < i)))
  | _, _ => False
def dGe : DOp := fun dx dy k => match dx, dy with
  | .int i, .int j => k (.bool (decide (j ≤ i)))
  | _, _ => False
theorem o_gt : OpR X (compareOp .Gt) (liftO (pxOf X) (oRd dGt)) := op_rd op_gt fun x y H dx dy k Q hx hy hg hQ => by
  cases dx <;> try exact hg.elim
  cases dy <;> try exact hg.elim
  exact ⟨_, _, ints_of hx, ints_of hy, hQ _ _ hg (.bl _)⟩
theorem o_ge : OpR X (compareOp .GtE) (liftO (pxOf X) (oRd dGe)) := op_rd op_ge fun x y H dx dy k Q hx hy hg hQ => by
  cases dx <;> try exact hg.elim
  cases dy <;> try exact hg.elim
  exact ⟨_, _, ints_of hx, ints_of hy, hQ _ _ hg (.bl _)⟩
theorem o_lt (hu : X.A.units + 64 < cLine) : OpR X (compareOp .Lt) (liftO (pxOf X) (oRd dLt)) := op_rd (op_lt.or (op_lt_str.or (op_ltT (by omega)))) fun x y H dx dy k Q hx hy hg hQ => by
  unfold dLt at hg
  split at hg
  · exact .inl ⟨_, _, ints_of hx, ints_of hy, hQ _ _ hg (.bl _)⟩
  · exact .inr (.inl ⟨_, _, strs_of hx, strs_of hy, hQ _ _ hg (.bl _)⟩)
  · obtain ⟨ns, ms, e1, e2, hk⟩ := hg
    rw [intsD_eq e1] at hx
    rw [intsD_eq e2] at hy
    cases hx with
    | tup h1 r1 =>
      cases hy with
      | tup h2 r2 =>
        rw [Reps.ints r1] at h1
        rw [Reps.ints r2] at h2
        exact .inr (.inr ⟨_, _, _, _, rfl, rfl, h1, h2, hQ _ _ hk (.bl _)⟩)
  · exact hg.elim
/-- None -/
def noneD : PyData → Bool
  | .none => true
  | _ => false
def dIs : DOp := fun dx dy k => match dy with
  | .none => k (.bool (noneD dx))
  | _ => False
def dIsN : DOp := fun dx dy k => match dy with
  | .none => k (.bool (!noneD dx))
  | _ => False
theorem non_dec {q : Px} {H : Hp} {x : V} {d : PyData} (h : Rep q H x d) : decide (x = V.non) = noneD d := by
  cases h <;> simp [noneD]
theorem o_is : OpR X (compareOp .Is) (liftO (pxOf X) (oRd dIs)) := op_rd op_isN fun x y H dx dy k Q hx hy hg hQ => by
  cases dy <;> try exact hg.elim
  exact ⟨none_of hy, by rw [non_dec hx]; exact hQ _ _ hg (.bl _)⟩
theorem o_isN : OpR X (compareOp .IsNot) (liftO (pxOf X) (oRd dIsN)) := op_rd op_notN fun x y H dx dy k Q hx hy hg hQ => by
  cases dy <;> try exact hg.elim
  exact ⟨none_of hy, by rw [non_dec hx]; exact hQ _ _ hg (.bl _)⟩
/-- in, not in: lists, tuples, texts (dicts elsewhere) -/
def dIn : DOp := fun dx dy k => match dy with
  | .list ds => Dok 8 dx ∧ Dok 8 (.list ds) ∧ k (.bool (ds.any fun z => PyData.eqv z dx))
  | .tuple ds => Dok 8 dx ∧ Dok 8 (.tuple ds) ∧ k (.bool (ds.any fun z => PyData.eqv z dx))
  | .str y => match dx with
    | .str x => k (.bool (!(Builtin.Str.occurrences y x 0 y.length 1).isEmpty))
    | _ => False
  | _ => False
def dNotIn : DOp := fun dx dy k => dIn dx dy fun d => match d with
  | .bool b => k (.bool (!b))
  | _ => False
def rInP (K : PySem.W.Frag) (neg : Bool) : R2 := fun x y H Q => ∃ d ds, Dp K H x d ∧ (Dp K H y (.list ds) ∧ Dok 8 (.list ds) ∨ Dp K H y (.tuple ds) ∧ Dok 8 (.tuple ds)) ∧ Dok 8 d ∧ Q (.bl (if neg then !ds.any fun z => PyData.eqv z d else ds.any fun z => PyData.eqv z d)) H
theorem op_inP (hu : X.A.units + 64 < cLine) : OpR X (compareOp .In) (rInP X.K false) := by
  intro pins s σ H x y v u Q I rx ry h
  obtain ⟨d, ds, hd, he, sd, q⟩ := h
  obtain ⟨as, r1⟩ := Dp.reads I d x v hd rx
  have h1 := Dok.plain _ _ sd
  rcases he with ⟨he, se⟩ | ⟨he, se⟩
  · obtain ⟨bs, r2⟩ := Dp.reads I (.list ds) y u he ry
    have h2 := Dok.plain _ _ se
    exact SeqAt.in_list_data r2 r1 (by simpa [PyData.plain] using h2.1) h1.1 (by omega) ⟨.bl _, H, I, rfl, q⟩
  · obtain ⟨bs, r2⟩ := Dp.reads I (.tuple ds) y u he ry
    have h2 := Dok.plain _ _ se
    exact SeqAt.in_tuple_data r2 r1 (by simpa [PyData.plain] using h2.1) h1.1 (by omega) ⟨.bl _, H, I, rfl, q⟩
theorem op_notInP (hu : X.A.units + 64 < cLine) : OpR X (compareOp .NotIn) (rInP X.K true) := by
  intro pins s σ H x y v u Q I rx ry h
  obtain ⟨d, ds, hd, he, sd, q⟩ := h
  obtain ⟨as, r1⟩ := Dp.reads I d x v hd rx
  have h1 := Dok.plain _ _ sd
  rcases he with ⟨he, se⟩ | ⟨he, se⟩
  · obtain ⟨bs, r2⟩ := Dp.reads I (.list ds) y u he ry
    have h2 := Dok.plain _ _ se
    exact SeqAt.notIn_list_data r2 r1 (by simpa [PyData.plain] using h2.1) h1.1 (by omega) ⟨.bl _, H, I, rfl, q⟩
  · obtain ⟨bs, r2⟩ := Dp.reads I (.tuple ds) y u he ry
    have h2 := Dok.plain _ _ se
    exact SeqAt.notIn_tuple_data r2 r1 (by simpa [PyData.plain] using h2.1) h1.1 (by omega) ⟨.bl _, H, I, rfl, q⟩
theorem o_in (hu : X.A.units + 64 < cLine) : OpR X (compareOp .In) (liftO (pxOf X) (oRd dIn)) := op_rd ((op_inP hu).or op_in_str) fun x y H dx dy k Q hx hy hg hQ => by
  cases dy with
  | list ds => exact .inl ⟨dx, ds, hx.dp (Dok.plain _ _ hg.1).1, .inl ⟨hy.dp (Dok.plain _ _ hg.2.1).1, hg.2.1⟩, hg.1, hQ _ _ hg.2.2 (.bl _)⟩
  | tuple ds => exact .inl ⟨dx, ds, hx.dp (Dok.plain _ _ hg.1).1, .inr ⟨hy.dp (Dok.plain _ _ hg.2.1).1, hg.2.1⟩, hg.1, hQ _ _ hg.2.2 (.bl _)⟩
  | str y => cases dx <;> first | exact (show False from hg).elim | exact .inr ⟨_, _, strs_of hx, strs_of hy, hQ _ _ hg (.bl _)⟩
  | _ => exact (show False from hg).elim
theorem o_notIn (hu : X.A.units + 64 < cLine) : OpR X (compareOp .NotIn) (liftO (pxOf X) (oRd dNotIn)) := op_rd ((op_notInP hu).or op_notin_str) fun x y H dx dy k Q hx hy hg hQ => by
  cases dy with
  | list ds => exact .inl ⟨dx, ds, hx.dp (Dok.plain _ _ hg.1).1, .inl ⟨hy.dp (Dok.plain _ _ hg.2.1).1, hg.2.1⟩, hg.1, hQ _ _ hg.2.2 (.bl _)⟩
  | tuple ds => exact .inl ⟨dx, ds, hx.dp (Dok.plain _ _ hg.1).1, .inr ⟨hy.dp (Dok.plain _ _ hg.2.1).1, hg.2.1⟩, hg.1, hQ _ _ hg.2.2 (.bl _)⟩
  | str y => cases dx <;> first | exact (show False from hg).elim | exact .inr ⟨_, _, strs_of hx, strs_of hy, hQ _ _ hg (.bl _)⟩
  | _ => exact (show False from hg).elim
end
end VV

/-! V5: tests, displays, subscripts, slices -/
namespace VV
open PySem PySem.Spec L2
open PyProof.Rows hiding St

/-- truth -/
def truD (k : Bool → Prop) : PyData → Prop
  | .none => k false
  | .bool b => k b
  | .int i => k (i != 0)
  | .str x => x.length ≤ sizeLine ∧ k ((x.length : Int) != 0)
  | .list ds => k (!ds.isEmpty)
  | .tuple ds => k (!ds.isEmpty)
  | .dict _ => False
def isBD (k : Bool → Prop) : PyData → Prop
  | .bool b => k b
  | _ => False
/-- an expression's value as a test: a truth already; by its truth -/
def tB (w : WE) : WT := fun sl Q => w sl fun r s1 => datR s1 r (isBD fun b => Q b s1)
def tTru (w : WE) : WT := fun sl Q => w sl fun r s1 => datR s1 r (truD fun b => Q b s1)
def tNot (w : WT) : WT := fun sl Q => w sl fun b s1 => Q (!b) s1
def tAnd (a b : WT) : WT := fun sl Q => a sl fun c s1 => if c = true then b s1 Q else Q false s1
def tOr (a b : WT) : WT := fun sl Q => a sl fun c s1 => if c = true then Q true s1 else b s1 Q
def eOr (a b : WE) : WE := fun sl Q => a sl fun r s1 => datR s1 r (truD fun k => if k = true then Q r s1 else b s1 Q)
def eAnd (a b : WE) : WE := fun sl Q => a sl fun r s1 => datR s1 r (truD fun k => if k = true then b s1 Q else Q r s1)
def eNot (a : WE) : WE := fun sl Q => a sl fun r s1 => datR s1 r (truD fun k => Q (.e (.shr (.bool (!k)))) s1)
def eIf (t : WT) (a b : WE) : WE := fun sl Q => t sl fun c s1 => if c = true then a s1 Q else b s1 Q
theorem truV_of {q : Px} {H : Hp} {v : V} {d : PyData} (h : Rep q H v d) {k : Bool → Prop} (hk : truD k d) : ∃ b, TruV q.K v H b ∧ k b := by
  have emp : ∀ {vs : List V} {ds : List PyData}, Reps q H vs ds → (!ds.isEmpty) = !vs.isEmpty := fun r => by cases r <;> rfl
  cases h with
  | non => exact ⟨_, rfl, hk⟩
  | bl b => exact ⟨_, rfl, hk⟩
  | int i => exact ⟨_, rfl, hk⟩
  | str x => exact ⟨_, ⟨hk.1, rfl⟩, hk.2⟩
  | lst h r => exact ⟨_, .inl ⟨_, h, emp r⟩, hk⟩
  | tup h r => exact ⟨_, .inr (.inl ⟨_, h, emp r⟩), hk⟩
  | dctT _ _ => exact (show False from hk).elim
section
variable {X : Cx} {a b c : Expr} {rest : List Expr} {wa wb wc : WE} {ta tb tc : WT} {pos : Pos}
theorem liftE_dat {w : WE} {k : R → Slots → PyData → Prop} {t : TE} {σ : St} {H : Hp} (Q : VK) (h : ∀ σ H Q, liftE (pxOf X) w σ H Q → t σ H Q)
    (hw : ∃ U G0 G T sl, Rel ⟨pxOf X, U, G0⟩ G T sl σ H ∧ w sl (fun r s1 => datR s1 r (k r s1)) ∧ ∀ r s1 d, k r s1 d → ∀ G' v H', Same G G' → RelR ⟨pxOf X, U, G0⟩ G' T v r s1 σ H' → Rep (pxOf X) H' v d → Q v H') : t σ H Q := by
  obtain ⟨U, G0, G, T, sl, c, w, hk⟩ := hw
  refine h _ _ _ ⟨U, G0, G, T, sl, _, c, w, fun r s1 hq G' v H' e c' => ?_⟩
  obtain ⟨d, hd, hkd⟩ := c'.dat hq
  exact hk r s1 d hkd G' v H' e c' hd
theorem vt_truth (ha : PV X a wa) (he : ∀ whole, isTrue a X.env whole = (do let v ← whole; standAt a.pos; holding [v] (truthy v)) := by intro _; rfl) : PVT X a (tTru wa) :=
  PT.imp (pt_truth ha he) fun σ H Q ⟨U, G0, G, T, sl, Qv, c, w, k⟩ => liftE_dat (k := fun r s1 d => truD (fun b => Qv b s1) d) _ (fun _ _ _ h => h) ⟨U, G0, G, T, sl, c, w, fun r s1 d hd G' v H' e c' hv => by
    obtain ⟨b, h1, h2⟩ := truV_of hv hd
    exact ⟨b, h1, k _ _ h2 _ _ e c'.base⟩⟩
theorem tTest_of {w : WE} {t : TE} (h : ∀ σ H Q, liftE (pxOf X) w σ H Q → t σ H Q) : ∀ σ H Q, liftT (pxOf X) (tB w) σ H Q → tTest t σ H Q := fun σ H Q ⟨U, G0, G, T, sl, Qv, c, w, k⟩ =>
  liftE_dat (k := fun r s1 d => isBD (fun b => Qv b s1) d) (fun x H' => ∃ k, x = .bl k ∧ Q k H') h ⟨U, G0, G, T, sl, c, w, fun r s1 d hd G' v H' e c' hv => by
    cases d <;> first | exact (show False from hd).elim | exact ⟨_, bools_of hv, k _ _ hd _ _ e c'.base⟩⟩
theorem vt_cmp {op : CmpOp} {o : OV} (ho : OpR X (compareOp op) (liftO (pxOf X) o)) (ha : PV X a wa) (hb : PV X b wb) (hm : behindInMarks op b = false) : PVT X (.Compare a [op] [b] pos) (tB (eOp o wa wb)) :=
  PT.imp (pt_cmpR ho ha hb hm) (tTest_of (lift2 (fun _ _ _ h => h) (fun _ _ _ h => h) fun _ _ _ _ h => h))
/-- a op b op' c: the middle one kept -/
def eChain (o o' : OV) (wa wb wc : WE) : WE := fun sl Q => wa sl fun ra s1 => wb s1 fun rb s2 => o ra rb s2 fun r s3 => match r with
  | .e (.shr (.bool k)) => if k = true then wc s3 fun rc s4 => o' rb rc s4 Q else Q (.e (.shr (.bool false))) s3
  | _ => False
end
/-! ### tests put together -/
section
variable {X : Cx} {a b c : Expr} {rest : List Expr} {wa wb wc : WE} {ta tb tc : WT} {pos : Pos}
theorem vt_not (ha : PVT X a ta) : PVT X (.UnaryOp .Not a pos) (tNot ta) :=
  PT.imp (pt_not ha) fun σ H Q ⟨U, G0, G, T, sl, Qv, c, w, k⟩ => ⟨U, G0, G, T, sl, _, c, w, fun b s1 hq G' H' e c' => k _ _ hq _ _ e c'⟩
theorem liftAnd {t u : TT} (h1 : ∀ σ H Q, liftT (pxOf X) ta σ H Q → t σ H Q) (h2 : ∀ σ H Q, liftT (pxOf X) tb σ H Q → u σ H Q) : ∀ σ H Q, liftT (pxOf X) (tAnd ta tb) σ H Q → L2.tAnd t u σ H Q :=
  fun σ H Q ⟨U, G0, G, T, sl, Qv, c, w, k⟩ => h1 _ _ _ ⟨U, G0, G, T, sl, _, c, w, fun b s1 hq G' H' e c' => by
    cases b with
    | true => exact h2 _ _ _ ⟨U, G0, G', T, s1, _, c', hq, fun b s2 hq2 G2 H2 e2 c2 => k _ _ hq2 _ _ (e.trans e2) c2⟩
    | false => exact k _ _ hq _ _ e c'⟩
theorem liftOr {t u : TT} (h1 : ∀ σ H Q, liftT (pxOf X) ta σ H Q → t σ H Q) (h2 : ∀ σ H Q, liftT (pxOf X) tb σ H Q → u σ H Q) : ∀ σ H Q, liftT (pxOf X) (tOr ta tb) σ H Q → L2.tOr t u σ H Q :=
  fun σ H Q ⟨U, G0, G, T, sl, Qv, c, w, k⟩ => h1 _ _ _ ⟨U, G0, G, T, sl, _, c, w, fun b s1 hq G' H' e c' => by
    cases b with
    | false => exact h2 _ _ _ ⟨U, G0, G', T, s1, _, c', hq, fun b s2 hq2 G2 H2 e2 c2 => k _ _ hq2 _ _ (e.trans e2) c2⟩
    | true => exact k _ _ hq _ _ e c'⟩
/-- for and, or: whatever the whole is -/
abbrev PVW (X : Cx) (e : Expr) (w : WT) : Prop := PW X e (liftT (pxOf X) w)
theorem PW.imp {X : Cx} {e : Expr} {t t' : TT} (h : PW X e t) (hh : ∀ σ H Q, t' σ H Q → t σ H Q) : PW X e t' := ⟨fun wh pins s σ H Q I q => h.run wh pins s σ H Q I (hh _ _ _ q)⟩
theorem vw_and1 (ha : PVT X a ta) : PVW X (.BoolOp .And [a] pos) ta := pw_and1 ha
theorem vw_or1 (ha : PVT X a ta) : PVW X (.BoolOp .Or [a] pos) ta := pw_or1 ha
theorem vw_and (ha : PVT X a ta) (hb : PVW X (.BoolOp .And (b :: rest) pos) tb) : PVW X (.BoolOp .And (a :: b :: rest) pos) (tAnd ta tb) :=
  PW.imp (pw_and ha hb) (liftAnd (fun _ _ _ h => h) fun _ _ _ h => h)
theorem vw_or (ha : PVT X a ta) (hb : PVW X (.BoolOp .Or (b :: rest) pos) tb) : PVW X (.BoolOp .Or (a :: b :: rest) pos) (tOr ta tb) :=
  PW.imp (pw_or ha hb) (liftOr (fun _ _ _ h => h) fun _ _ _ h => h)
theorem vt_w (h : PVW X a ta) : PVT X a ta := h.pt
theorem v_one {op} (h : PV X a wa) : PV X (.BoolOp op [a] pos) wa := pe_one h
theorem v_or (ha : PV X a wa) (hb : PV X (.BoolOp .Or (b :: rest) pos) wb) : PV X (.BoolOp .Or (a :: b :: rest) pos) (eOr wa wb) :=
  PE.imp (pe_orT ha hb) fun σ H Q ⟨U, G0, G, T, sl, Qv, c, w, k⟩ =>
    liftE_dat (t := liftE (pxOf X) wa) (k := fun r s1 d => truD (fun k => if k = true then Qv r s1 else wb s1 Qv) d) _ (fun _ _ _ h => h) ⟨U, G0, G, T, sl, c, w, fun r s1 d hd G' v H' e c' hv => by
      obtain ⟨b, h1, h2⟩ := truV_of hv hd
      refine ⟨b, h1, ?_⟩
      cases b with
      | true => exact k _ _ h2 _ _ _ e c'
      | false => exact ⟨U, G0, G', T, s1, _, c'.base, h2, fun r s2 hq G2 v2 H2 e2 c2 => k _ _ hq _ _ _ (e.trans e2) c2⟩⟩
theorem v_and (ha : PV X a wa) (hb : PV X (.BoolOp .And (b :: rest) pos) wb) : PV X (.BoolOp .And (a :: b :: rest) pos) (eAnd wa wb) :=
  PE.imp (pe_andT ha hb) fun σ H Q ⟨U, G0, G, T, sl, Qv, c, w, k⟩ =>
    liftE_dat (t := liftE (pxOf X) wa) (k := fun r s1 d => truD (fun k => if k = true then wb s1 Qv else Qv r s1) d) _ (fun _ _ _ h => h) ⟨U, G0, G, T, sl, c, w, fun r s1 d hd G' v H' e c' hv => by
      obtain ⟨b, h1, h2⟩ := truV_of hv hd
      refine ⟨b, h1, ?_⟩
      cases b with
      | false => exact k _ _ h2 _ _ _ e c'
      | true => exact ⟨U, G0, G', T, s1, _, c'.base, h2, fun r s2 hq G2 v2 H2 e2 c2 => k _ _ hq _ _ _ (e.trans e2) c2⟩⟩
theorem v_not (ha : PV X a wa) : PV X (.UnaryOp .Not a pos) (eNot wa) :=
  PE.imp (pe_notT ha) fun σ H Q ⟨U, G0, G, T, sl, Qv, c, w, k⟩ =>
    liftE_dat (t := liftE (pxOf X) wa) (k := fun r s1 d => truD (fun k => Qv (.e (.shr (.bool (!k)))) s1) d) _ (fun _ _ _ h => h) ⟨U, G0, G, T, sl, c, w, fun r s1 d hd G' v H' e c' hv => by
      obtain ⟨b, h1, h2⟩ := truV_of hv hd
      exact ⟨b, h1, k _ _ h2 _ _ _ e ⟨c'.base.core.addShr (.bl _), c'.base.wf⟩⟩⟩
theorem v_if (hc : PVT X c tc) (ha : PV X a wa) (hb : PV X b wb) : PV X (.IfExp c a b pos) (eIf tc wa wb) :=
  PE.imp (pe_ifExp hc ha hb) fun σ H Q ⟨U, G0, G, T, sl, Qv, c, w, k⟩ => ⟨U, G0, G, T, sl, _, c, w, fun b s1 hq G' H' e c' => by
    cases b with
    | true => exact ⟨U, G0, G', T, s1, _, c', hq, fun r s2 hq G2 v2 H2 e2 c2 => k _ _ hq _ _ _ (e.trans e2) c2⟩
    | false => exact ⟨U, G0, G', T, s1, _, c', hq, fun r s2 hq G2 v2 H2 e2 c2 => k _ _ hq _ _ _ (e.trans e2) c2⟩⟩
end

/-! ### argument lists -/
def aNil : WA := fun sl Q => Q [] sl
def aCons (w : WE) (a : WA) : WA := fun sl Q => w sl fun r s1 => a s1 fun rs s2 => Q (r :: rs) s2
section
variable {X : Cx} {e : Expr} {es : List Expr} {w : WE} {wa : WA} {pos : Pos}
theorem va_nil : PVA X [] aNil := PA.imp pa_nil fun σ H Q ⟨U, G0, G, T, sl, Qv, c, w, k⟩ => k _ _ w G [] H (Same.refl _) c
theorem liftCons {te : TE} {tr : TA} (h1 : ∀ σ H Q, liftE (pxOf X) w σ H Q → te σ H Q) (h2 : ∀ σ H Q, liftA (pxOf X) wa σ H Q → tr σ H Q) : ∀ σ H Q, liftA (pxOf X) (aCons w wa) σ H Q → tCons te tr σ H Q :=
  fun σ H Q ⟨U, G0, G, T, sl, Qv, c, w, k⟩ => h1 _ _ _ ⟨U, G0, G, T, sl, _, c, w, fun r s1 hq G' v H' e c' => by
    cases r with
    | e x => exact h2 _ _ _ ⟨U, G0, G', (v, x) :: T, s1, _, c', hq, fun rs s2 hq2 G2 vs H2 e2 c2 => k _ _ hq2 _ (v :: vs) _ (e.trans e2) c2⟩
    | al i => exact h2 _ _ _ ⟨U, G0, G', T, s1, _, c'.1, hq, fun rs s2 hq2 G2 vs H2 e2 c2 => k _ _ hq2 _ (v :: vs) _ (e.trans e2) ⟨c'.2, c2⟩⟩⟩
theorem va_cons (ha : PV X e w) (hr : PVA X es wa) (hs : starEach (e :: es) X.env = (false, eval e X.env) :: starEach es X.env := by rfl) : PVA X (e :: es) (aCons w wa) :=
  PA.imp (pa_cons ha hr hs) (liftCons (fun _ _ _ h => h) fun _ _ _ h => h)
end

/-! ### handing on: results frozen, or moved -/
/-- what may be shared, as data -/
def Ent.frz (k : PyData → Prop) : Ent → Prop
  | .shr d => k d
  | .bor d => Sol d ∧ k d
  | .own ds => k (.list ds)
  | .dct kvs => k (.dict kvs)
  | .lst es => ∃ ds, Frzs es ds ∧ k (.list ds)
  | .tup es => ∃ ds, Frzs es ds ∧ k (.tuple ds)
  | .raw _ => False
theorem Ent.frz_iff {k : PyData → Prop} {x : Ent} (h : x.frz k) : ∃ d, Frz x d ∧ k d := by
  cases x with
  | shr d => exact ⟨_, .shr, h⟩
  | bor d => exact ⟨_, .bor h.1, h.2⟩
  | own ds => exact ⟨_, .own, h⟩
  | dct kvs => exact ⟨_, .dct, h⟩
  | lst es => obtain ⟨ds, a, b⟩ := h; exact ⟨_, .lst a, b⟩
  | tup es => obtain ⟨ds, a, b⟩ := h; exact ⟨_, .tup a, b⟩
  | raw v => exact h.elim
def frzR (sl : Slots) (r : R) (k : PyData → Slots → Prop) : Prop := match r with
  | .e x => x.frz fun d => k d sl
  | .al i => atS sl i (Ent.frz fun d => k d (sl.set i (some (.shr d))))
def frzRs : List R → Slots → (List PyData → Slots → Prop) → Prop
  | [], sl, k => k [] sl
  | r :: rs, sl, k => frzR sl r fun d s1 => frzRs rs s1 fun ds s2 => k (d :: ds) s2
/-- moved: the name that had it has it no more -/
def mvR (sl : Slots) (r : R) (k : Ent → Slots → Prop) : Prop := match r with
  | .e x => k x sl
  | .al i => atS sl i fun x => k x (sl.set i none)
def mvRs : List R → Slots → (List Ent → Slots → Prop) → Prop
  | [], sl, k => k [] sl
  | r :: rs, sl, k => mvR sl r fun x s1 => mvRs rs s1 fun xs s2 => k (x :: xs) s2
section
variable {f : Fr} {G G' H H' : Hp} {T : List (V × Ent)} {sl : Slots} {σ : St} {v : V} {x : Ent} {d : PyData} {i : Nat}
/-- slot i taken out -/
theorem Rel.out (c : Rel f G T sl σ H) (hs : sl[i]? = some (some x)) (hv : σ[i]? = some (some v)) : Rel f G ((v, x) :: T) (sl.set i none) σ H :=
  ⟨c.core.perm (((slotRes_take hs hv).append_left T).trans List.perm_middle), c.wf.none i⟩
/-- .. and put back, perhaps changed -/
theorem Rel.put (c : Rel f G ((v, x) :: T) sl σ H) (hi : i < sl.length) (hs : sl[i]? = some none) (hv : σ[i]? = some (some v)) : Rel f G T (sl.set i (some x)) σ H := by
  have hl : i < σ.length := (List.getElem?_eq_some_iff.mp hv).1
  have e : σ.set i (some v) = σ := by
    apply List.ext_getElem?
    intro j
    by_cases h : j = i
    · subst h; rw [List.getElem?_set_self hl, hv]
    · rw [List.getElem?_set_ne (Ne.symm h)]
  have e2 : sl.set i none = sl := by
    apply List.ext_getElem?
    intro j
    by_cases h : j = i
    · subst h; rw [List.getElem?_set_self hi, hs]
    · rw [List.getElem?_set_ne (Ne.symm h)]
  have w := c.wf.some hv (some x)
  refine ⟨c.core.perm ?_, w⟩
  have p := slotRes_put (σ := σ) (sl := sl) (i := i) (v := v) (e := x) hl c.wf.len
  rw [e, e2] at p
  exact (List.perm_middle.symm.trans (p.symm.append_left T))
theorem Rel.put' (c : Rel f G ((v, x) :: T) (sl.set i none) σ H) (hi : i < sl.length) (hv : σ[i]? = some (some v)) : Rel f G T (sl.set i (some x)) σ H := by
  have := c.put (i := i) (by simpa using hi) (by rw [List.getElem?_set_self hi]) hv
  rwa [List.set_set] at this
theorem Rel.lt (hs : sl[i]? = some (some x)) : i < sl.length := (List.getElem?_eq_some_iff.mp hs).1
theorem RelR.frz {r : R} (c : RelR f G T v r sl σ H) {k : PyData → Slots → Prop} (h : frzR sl r k) : ∃ G' d sl', Same G G' ∧ Rel f G' T sl' σ H ∧ Rep f.q G' v d ∧ k d sl' := by
  cases r with
  | e x =>
    obtain ⟨d, hd, hk⟩ := Ent.frz_iff h
    obtain ⟨G', s, c'⟩ := Core.freeze (show Core f G ((v, x) :: (T ++ slotRes σ sl)) H from c.core) hd
    exact ⟨G', d, sl, s, ⟨c'.drop, c.wf⟩, c'.shrd (by simp), hk⟩
  | al i =>
    obtain ⟨x, hs, h⟩ := atS_iff h
    obtain ⟨d, hd, hk⟩ := Ent.frz_iff h
    have o := c.1.out hs c.2
    obtain ⟨G', s, c'⟩ := Core.freeze (show Core f G ((v, x) :: (T ++ slotRes σ (sl.set i none))) H from o.core) hd
    exact ⟨G', d, _, s, Rel.put' ⟨c', o.wf⟩ (Rel.lt hs) c.2, c'.shrd (by simp), hk⟩
theorem RelR.mv {r : R} (c : RelR f G T v r sl σ H) {k : Ent → Slots → Prop} (h : mvR sl r k) : ∃ x sl', Rel f G ((v, x) :: T) sl' σ H ∧ k x sl' := by
  cases r with
  | e x => exact ⟨x, sl, c, h⟩
  | al i =>
    obtain ⟨x, hs, h⟩ := atS_iff h
    exact ⟨x, _, c.1.out hs c.2, h⟩
/-- the temporaries of several results, in their order -/
def psh : List V → List R → List (V × Ent)
  | v :: vs, .e x :: rs => (v, x) :: psh vs rs
  | _ :: vs, .al _ :: rs => psh vs rs
  | _, _ => []
def alOk (σ : St) : List V → List R → Prop
  | v :: vs, .al i :: rs => σ[i]? = some (some v) ∧ alOk σ vs rs
  | _ :: vs, .e _ :: rs => alOk σ vs rs
  | [], [] => True
  | _, _ => False
theorem RelRs.flat : ∀ {vs : List V} {rs : List R} {T : List (V × Ent)}, RelRs f G T vs rs sl σ H → Rel f G (psh vs rs ++ T) sl σ H ∧ alOk σ vs rs
  | [], [], _, c => ⟨c, trivial⟩
  | v :: vs, .e x :: rs, T, c => by
    obtain ⟨a, b⟩ := RelRs.flat (T := (v, x) :: T) c
    refine ⟨⟨a.core.perm ?_, a.wf⟩, b⟩
    exact (List.perm_middle (l₁ := psh vs rs) (a := (v, x)) (l₂ := T)).append_right _
  | v :: vs, .al i :: rs, T, c => by
    obtain ⟨a, b⟩ := RelRs.flat c.2
    exact ⟨a, c.1, b⟩
  | [], _ :: _, _, c => (show False from c).elim
  | _ :: _, [], _, c => (show False from c).elim
theorem flat_frz : ∀ {vs : List V} {rs : List R} {G : Hp} {sl : Slots} {k : List PyData → Slots → Prop}, Rel f G (psh vs rs ++ T) sl σ H → alOk σ vs rs → frzRs rs sl k → ∃ G' ds sl', Same G G' ∧ Rel f G' T sl' σ H ∧ Reps f.q G' vs ds ∧ k ds sl'
  | [], [], G, sl, k, c, _, h => ⟨G, [], sl, Same.refl _, c, .nil, h⟩
  | v :: vs, .e x :: rs, G, sl, k, c, o, h => by
    obtain ⟨G1, d, s1, e1, c1, r1, h1⟩ := RelR.frz (r := .e x) (v := v) (T := psh vs rs ++ T) c h
    obtain ⟨G2, ds, s2, e2, c2, r2, h2⟩ := flat_frz (vs := vs) (rs := rs) c1 o h1
    exact ⟨G2, d :: ds, s2, e1.trans e2, c2, .cons (r1.mono e2) r2, h2⟩
  | v :: vs, .al i :: rs, G, sl, k, c, o, h => by
    obtain ⟨G1, d, s1, e1, c1, r1, h1⟩ := RelR.frz (r := .al i) (v := v) (T := psh vs rs ++ T) ⟨c, o.1⟩ h
    obtain ⟨G2, ds, s2, e2, c2, r2, h2⟩ := flat_frz (vs := vs) (rs := rs) c1 o.2 h1
    exact ⟨G2, d :: ds, s2, e1.trans e2, c2, .cons (r1.mono e2) r2, h2⟩
  | [], _ :: _, _, _, _, _, o, _ => (show False from o).elim
  | _ :: _, [], _, _, _, _, o, _ => (show False from o).elim
theorem RelRs.frz {vs : List V} {rs : List R} {k : List PyData → Slots → Prop} (c : RelRs f G T vs rs sl σ H) (h : frzRs rs sl k) : ∃ G' ds sl', Same G G' ∧ Rel f G' T sl' σ H ∧ Reps f.q G' vs ds ∧ k ds sl' := by
  obtain ⟨a, b⟩ := c.flat
  exact flat_frz a b h
theorem flat_mv : ∀ {vs : List V} {rs : List R} {T : List (V × Ent)} {sl : Slots} {k : List Ent → Slots → Prop}, Rel f G (psh vs rs ++ T) sl σ H → alOk σ vs rs → mvRs rs sl k → ∃ es sl', vs.length = es.length ∧ Rel f G (vs.zip es ++ T) sl' σ H ∧ k es sl'
  | [], [], T, sl, k, c, _, h => ⟨[], sl, rfl, c, h⟩
  | v :: vs, .e x :: rs, T, sl, k, c, o, h => by
    have c' : Rel f G (psh vs rs ++ ((v, x) :: T)) sl σ H := ⟨c.core.perm ((List.perm_middle (l₁ := psh vs rs) (a := (v, x)) (l₂ := T)).symm.append_right _), c.wf⟩
    obtain ⟨es, s2, hl, c2, h2⟩ := flat_mv (vs := vs) (rs := rs) c' o h
    exact ⟨x :: es, s2, by simp [hl], ⟨c2.core.perm ((List.perm_middle (l₁ := vs.zip es) (a := (v, x)) (l₂ := T)).append_right _), c2.wf⟩, h2⟩
  | v :: vs, .al i :: rs, T, sl, k, c, o, h => by
    obtain ⟨x, hs, h⟩ := atS_iff h
    have c1 := c.out hs o.1
    have c' : Rel f G (psh vs rs ++ ((v, x) :: T)) (sl.set i none) σ H := ⟨c1.core.perm ((List.perm_middle (l₁ := psh vs rs) (a := (v, x)) (l₂ := T)).symm.append_right _), c1.wf⟩
    obtain ⟨es, s2, hl, c2, h2⟩ := flat_mv (vs := vs) (rs := rs) c' o.2 h
    exact ⟨x :: es, s2, by simp [hl], ⟨c2.core.perm ((List.perm_middle (l₁ := vs.zip es) (a := (v, x)) (l₂ := T)).append_right _), c2.wf⟩, h2⟩
  | [], _ :: _, _, _, _, _, o, _ => (show False from o).elim
  | _ :: _, [], _, _, _, _, o, _ => (show False from o).elim
theorem RelRs.mv {vs : List V} {rs : List R} {k : List Ent → Slots → Prop} (c : RelRs f G T vs rs sl σ H) (h : mvRs rs sl k) : ∃ es sl', vs.length = es.length ∧ Rel f G (vs.zip es ++ T) sl' σ H ∧ k es sl' := by
  obtain ⟨a, b⟩ := c.flat
  exact flat_mv a b h
end

/-! ### displays -/
def eTup (wa : WA) : WE := fun sl Q => wa sl fun rs s1 => rs.length ≤ 1000 ∧ frzRs rs s1 fun ds s2 => Q (.e (.shr (.tuple ds))) s2
def eLst (wa : WA) : WE := fun sl Q => wa sl fun rs s1 => rs.length ≤ 1000 ∧ frzRs rs s1 fun ds s2 => Q (.e (.own ds)) s2
/-- .. the items moved into it -/
def eTupO (wa : WA) : WE := fun sl Q => wa sl fun rs s1 => rs.length ≤ 1000 ∧ mvRs rs s1 fun es s2 => Q (.e (.tup es)) s2
def eLstO (wa : WA) : WE := fun sl Q => wa sl fun rs s1 => rs.length ≤ 1000 ∧ mvRs rs s1 fun es s2 => Q (.e (.lst es)) s2
theorem RelRs.len {f : Fr} {G H : Hp} {sl : Slots} {σ : St} : ∀ {vs : List V} {rs : List R} {T : List (V × Ent)}, RelRs f G T vs rs sl σ H → vs.length = rs.length
  | [], [], _, _ => rfl
  | _ :: vs, .e _ :: rs, _, c => by simp [RelRs.len (vs := vs) (rs := rs) c]
  | _ :: vs, .al _ :: rs, _, c => by simp [RelRs.len (vs := vs) (rs := rs) c.2]
  | [], _ :: _, _, c => (show False from c).elim
  | _ :: _, [], _, c => (show False from c).elim
theorem len1000 {n : Nat} (h : n ≤ 1000) : n ≤ sizeLine := by rw [sizeLine_eq]; omega
section
variable {f : Fr} {G H : Hp} {L : List (V × Ent)} {p : Addr} {vs : List V} {es : List Ent}
theorem owns_at {q : Px} {U G H H' : Hp} {F : List Addr} (h : Owns q U G H vs es F) (ht : TupIn H H') (k : ∀ a ∈ F, H' a = H a) : Owns q U G H' vs es F := h.mono (Same.refl _) ht k
theorem Core.newTupO (hl : vs.length = es.length) (c : Core f G (vs.zip es ++ L) H) (h : H p = none) : Core f (upd G p (.tup vs)) ((.ref p, .tup es) :: L) (upd H p (.tup vs)) ∧ Same G (upd G p (.tup vs)) := by
  obtain ⟨c1, s1⟩ := c.newTup (vs := vs) h
  refine ⟨?_, s1⟩
  obtain ⟨F, a, b, k⟩ := c1.res
  obtain ⟨F1, F2, rfl, a1, a2⟩ := a.split
  exact ⟨c1.sU, c1.sG, c1.tups, c1.frzs, c1.new, F1 ++ F2, .cons (.tup upd_same (OwnL.to_owns hl a1)) a2, b, k⟩
theorem Core.newLstO (hl : vs.length = es.length) (c : Core f G (vs.zip es ++ L) H) (h : H p = none) : Core f G ((.ref p, .lst es) :: L) (upd H p (.lst vs)) := by
  obtain ⟨F, a, b, k⟩ := c.res
  obtain ⟨F1, F2, rfl, a1, a2⟩ := a.split
  have np := Core.there a h
  have ht : TupIn H (upd H p (.lst vs)) := fun b xs e => by rw [upd_ne (ne_of_none e h)]; exact e
  have o1 : OwnL f.q f.U G (upd H p (.lst vs)) (vs.zip es) F1 := a1.mono (Same.refl _) ht fun x m => upd_ne (np x (by simp [m]))
  have o2 : OwnL f.q f.U G (upd H p (.lst vs)) L F2 := a2.mono (Same.refl _) ht fun x m => upd_ne (np x (by simp [m]))
  refine ⟨c.sU.trans (same_upd h), c.sG.trans (same_upd h), fun b xs e => ?_, fun b o xs e => ?_, c.new, (p :: F1) ++ F2, .cons (.lst upd_same (OwnL.to_owns hl o1)) o2, ?_, fun x m => ?_⟩
  · by_cases z : b = p
    · subst z; rw [upd_same] at e; cases e
    · rw [upd_ne z] at e; exact c.tups _ _ e
  · by_cases z : b = p
    · subst z; rw [upd_same] at e; cases e
    · rw [upd_ne z] at e; exact c.frzs _ _ _ e
  · exact List.nodup_cons.mpr ⟨fun m => np p m rfl, b⟩
  · rcases List.mem_cons.mp m with rfl | m
    · exact ⟨c.freeG h, c.freeU h⟩
    · exact k x m
end
section
variable {X : Cx} {es : List Expr} {wa : WA} {pos : Pos} {x1 : Nat}
theorem v_tup {x1} (h : PVA X es wa) : PV X (.Tuple es x1 pos) (eTup wa) :=
  PE.imp (pe_tup h) fun σ H Q ⟨U, G0, G, T, sl, Qv, c, w, k⟩ => ⟨U, G0, G, T, sl, _, c, w, fun rs s1 hq G' vs H' e c' => by
    refine ⟨by rw [c'.len]; exact len1000 hq.1, fun p hp => ?_⟩
    obtain ⟨G2, ds, s2, e2, c2, r2, h2⟩ := c'.frz hq.2
    obtain ⟨c3, e3⟩ := c2.core.newTup (vs := vs) hp
    exact k _ _ h2 _ _ _ (e.trans (e2.trans e3)) ⟨c3.addShr (.tup (SqT.of upd_same) (r2.mono e3)), c2.wf⟩⟩
theorem v_lst (h : PVA X es wa) : PV X (.List es pos) (eLst wa) :=
  PE.imp (pe_lst h) fun σ H Q ⟨U, G0, G, T, sl, Qv, c, w, k⟩ => ⟨U, G0, G, T, sl, _, c, w, fun rs s1 hq G' vs H' e c' => by
    refine ⟨by rw [c'.len]; exact len1000 hq.1, fun p hp => ?_⟩
    obtain ⟨G2, ds, s2, e2, c2, r2, h2⟩ := c'.frz hq.2
    exact k _ _ h2 _ _ _ (e.trans e2) ⟨c2.core.newOwn hp r2, c2.wf⟩⟩
theorem v_tupO {x1} (h : PVA X es wa) : PV X (.Tuple es x1 pos) (eTupO wa) :=
  PE.imp (pe_tup h) fun σ H Q ⟨U, G0, G, T, sl, Qv, c, w, k⟩ => ⟨U, G0, G, T, sl, _, c, w, fun rs s1 hq G' vs H' e c' => by
    refine ⟨by rw [c'.len]; exact len1000 hq.1, fun p hp => ?_⟩
    obtain ⟨es, s2, hl, c2, h2⟩ := c'.mv hq.2
    obtain ⟨c3, e3⟩ := Core.newTupO hl (by have := c2.core; rwa [List.append_assoc] at this) hp
    exact k _ _ h2 _ _ _ (e.trans e3) ⟨c3, c2.wf⟩⟩
theorem v_lstO (h : PVA X es wa) : PV X (.List es pos) (eLstO wa) :=
  PE.imp (pe_lst h) fun σ H Q ⟨U, G0, G, T, sl, Qv, c, w, k⟩ => ⟨U, G0, G, T, sl, _, c, w, fun rs s1 hq G' vs H' e c' => by
    refine ⟨by rw [c'.len]; exact len1000 hq.1, fun p hp => ?_⟩
    obtain ⟨es, s2, hl, c2, h2⟩ := c'.mv hq.2
    exact k _ _ h2 _ _ _ e ⟨Core.newLstO hl (by have := c2.core; rwa [List.append_assoc] at this) hp, c2.wf⟩⟩
end
end VV

/-! V6: chains, subscripts, slices -/
namespace VV
open PySem PySem.Spec L2
open PyProof.Rows hiding St

def intD (k : Int → Prop) : PyData → Prop
  | .int i => k i
  | _ => False
def strD (k : Str → Prop) : PyData → Prop
  | .str i => k i
  | _ => False
def eChainI (p p' : Int → Int → Bool) (wa wb wc : WE) : WE := fun sl Q => wa sl fun ra s1 => datR s1 ra (intD fun i => wb s1 fun rb s2 => datR s2 rb (intD fun j =>
  if p i j = true then wc s2 fun rc s3 => datR s3 rc (intD fun k => Q (.e (.shr (.bool (p' j k)))) s3) else Q (.e (.shr (.bool false))) s2))
def eChainS (p p' : Str → Str → Bool) (wa wb wc : WE) : WE := fun sl Q => wa sl fun ra s1 => datR s1 ra (strD fun i => wb s1 fun rb s2 => datR s2 rb (strD fun j =>
  if p i j = true then wc s2 fun rc s3 => datR s3 rc (strD fun k => Q (.e (.shr (.bool (p' j k)))) s3) else Q (.e (.shr (.bool false))) s2))
section
variable {X : Cx} {a b c : Expr} {wa wb wc : WE} {pos : Pos} {op op' : CmpOp}
theorem chainI_of {p p' : Int → Int → Bool} : ∀ σ H Q, liftE (pxOf X) (eChainI p p' wa wb wc) σ H Q → tChain (rI0 fun i j => .bl (p i j)) (rI0 fun i j => .bl (p' i j)) (liftE (pxOf X) wa) (liftE (pxOf X) wb) (liftE (pxOf X) wc) σ H Q :=
  fun σ H Q ⟨U, G0, G, T, sl, Qv, c, w, k⟩ => by
    refine ⟨U, G0, G, T, sl, _, c, w, fun ra s1 hq G1 x H1 e1 c1 => ?_⟩
    obtain ⟨dx, hx, hq⟩ := c1.dat hq
    cases dx <;> try exact (show False from hq).elim
    rename_i i
    refine ⟨U, G0, G1, T, s1, _, c1.base, hq, fun rb s2 hq G2 y H2 e2 c2 => ?_⟩
    obtain ⟨dy, hy, hq⟩ := c2.dat hq
    cases dy <;> try exact (show False from hq).elim
    rename_i j
    have hq : if p i j = true then _ else _ := hq
    refine ⟨i, j, ints_of hx, ints_of hy, _, rfl, ?_⟩
    by_cases hp : p i j = true
    · rw [if_pos hp] at hq ⊢
      refine ⟨U, G0, G2, T, s2, _, c2.base, hq, fun rc s3 hq G3 z H3 e3 c3 => ?_⟩
      obtain ⟨dz, hz, hq⟩ := c3.dat hq
      cases dz <;> try exact (show False from hq).elim
      exact ⟨_, _, ints_of hy, ints_of hz, k _ _ hq _ _ _ (e1.trans (e2.trans e3)) ⟨c3.base.core.addShr (.bl _), c3.base.wf⟩⟩
    · rw [if_neg hp] at hq ⊢
      exact k _ _ hq _ _ _ (e1.trans e2) ⟨c2.base.core.addShr (.bl _), c2.base.wf⟩
theorem v_chainI {p p' : Int → Int → Bool} (ho : OpR X (compareOp op) (rI0 fun i j => .bl (p i j))) (ho' : OpR X (compareOp op') (rI0 fun i j => .bl (p' i j))) (ha : PV X a wa) (hb : PV X b wb) (hc : PV X c wc)
    (hm : lastMarks [op, op'] [b, c] = false := by with_unfolding_all rfl) : PV X (.Compare a [op, op'] [b, c] pos) (eChainI p p' wa wb wc) :=
  PE.imp (pe_chain ho ho' ha hb hc hm) chainI_of
theorem vt_chainI {p p' : Int → Int → Bool} (ho : OpR X (compareOp op) (rI0 fun i j => .bl (p i j))) (ho' : OpR X (compareOp op') (rI0 fun i j => .bl (p' i j))) (ha : PV X a wa) (hb : PV X b wb) (hc : PV X c wc)
    (hm : lastMarks [op, op'] [b, c] = false := by with_unfolding_all rfl) : PVT X (.Compare a [op, op'] [b, c] pos) (tB (eChainI p p' wa wb wc)) :=
  PT.imp (pt_chain ho ho' ha hb hc hm) (tTest_of chainI_of)

/-! ### subscripts -/
def oIx : OV := fun rx ri sl Q => datR sl ri (intD fun i => datR sl rx fun dx => match dx with
  | .list _ => itLR sl rx fun ds mk => ∃ d, atI ds i = some d ∧ Q (.e (mk d)) sl
  | .tuple _ => itTR sl rx fun ds mk => ∃ d, atI ds i = some d ∧ Q (.e (mk d)) sl
  | .str z => z.length ≤ sizeLine ∧ ∃ c, atI z.cps.toList i = some c ∧ Q (.e (.shr (.str ⟨#[c]⟩))) sl
  | _ => False)
theorem Reps.atI {q : Px} {H : Hp} {vs : List V} {ds : List PyData} {i : Int} {d : PyData} (r : Reps q H vs ds) (h : atI ds i = some d) : ∃ v, L2.atI vs i = some v ∧ Rep q H v d := by
  unfold L2.atI at h ⊢
  rw [r.length]
  cases e : ixN ds.length i with
  | none => rw [e] at h; cases h
  | some j =>
    rw [e] at h
    obtain ⟨v, h1, h2⟩ := r.get (i := j) (d := d) h
    exact ⟨v, h1, h2⟩
theorem Rel.addMk {f : Fr} {G H : Hp} {T : List (V × Ent)} {sl : Slots} {σ : St} {v : V} {d : PyData} {mk : PyData → Ent} (c : Rel f G T sl σ H) (h : (mk = .shr ∧ Rep f.q G v d) ∨ (mk = .bor ∧ Rep f.q f.U v d)) : RelR f G T v (.e (mk d)) sl σ H := by
  rcases h with ⟨rfl, h⟩ | ⟨rfl, h⟩
  · exact ⟨c.core.addShr h, c.wf⟩
  · exact ⟨c.core.addBor h, c.wf⟩
theorem atMk {f : Fr} {G : Hp} {vs : List V} {ds : List PyData} {mk : PyData → Ent} {i : Int} {d : PyData} (h : (mk = .shr ∧ Reps f.q G vs ds) ∨ (mk = .bor ∧ Reps f.q f.U vs ds)) (hd : atI ds i = some d) :
    ∃ v, L2.atI vs i = some v ∧ ((mk = .shr ∧ Rep f.q G v d) ∨ (mk = .bor ∧ Rep f.q f.U v d)) := by
  rcases h with ⟨e, h⟩ | ⟨e, h⟩
  · obtain ⟨v, h1, h2⟩ := Reps.atI h hd
    exact ⟨v, h1, .inl ⟨e, h2⟩⟩
  · obtain ⟨v, h1, h2⟩ := Reps.atI h hd
    exact ⟨v, h1, .inr ⟨e, h2⟩⟩
theorem v_ix (ha : PV X a wa) (hb : PV X b wb) (hs : PlainIx b) : PV X (.Subscript a b pos) (eOp oIx wa wb) :=
  PE.imp (pe_ix ix_seq ha hb hs) (lift2 (fun _ _ _ h => h) (fun _ _ _ h => h) fun x y H Q ⟨U, G0, G, T, sl, σ, rx, ry, Qv, c, w, k⟩ => by
    obtain ⟨⟨T1, c1⟩, T2, c2⟩ := c.both
    obtain ⟨dy, hy, w⟩ := c2.dat w
    cases dy <;> try exact (show False from w).elim
    rename_i i
    obtain ⟨dx, hx, w⟩ := c1.dat w
    cases dx <;> try exact (show False from w).elim
    · exact .inr (.inr ⟨_, i, w.2.choose, strs_of hx, ints_of hy, w.1, w.2.choose_spec.1, k _ _ w.2.choose_spec.2 _ _ _ (Same.refl _) ⟨c.base.core.addShr (.str _), c.base.wf⟩⟩)
    · obtain ⟨p, vs, ds, mk, rfl, hr, hh, d, hd, w⟩ := c1.itL w
      obtain ⟨v, hv, hm⟩ := atMk hh hd
      exact .inl ⟨p, vs, i, v, rfl, ints_of hy, hr, hv, k _ _ w _ _ _ (Same.refl _) (c.base.addMk hm)⟩
    · obtain ⟨p, vs, ds, mk, rfl, hr, hh, d, hd, w⟩ := c1.itT w
      obtain ⟨v, hv, hm⟩ := atMk hh hd
      exact .inr (.inl ⟨p, vs, i, v, rfl, ints_of hy, hr, hv, k _ _ w _ _ _ (Same.refl _) (c.base.addMk hm)⟩))

/-! ### slices -/
abbrev WO := Slots → (Option Int → Slots → Prop) → Prop
def liftO? (q : Px) (w : WO) : TO := fun σ H Q => ∃ U G0 G T sl Qv, Rel ⟨q, U, G0⟩ G T sl σ H ∧ w sl Qv ∧ ∀ o sl', Qv o sl' → ∀ G' H', Same G G' → Rel ⟨q, U, G0⟩ G' T sl' σ H' → Q o H'
abbrev PVO (X : Cx) (e : Option Expr) (w : WO) : Prop := PO X e (liftO? (pxOf X) w)
def oNo : WO := fun sl Q => Q none sl
def oPart (w : WE) : WO := fun sl Q => w sl fun r s1 => datR s1 r (intD fun i => Q (some i) s1)
theorem PO.imp {e : Option Expr} {t t' : TO} (h : PO X e t) (hh : ∀ σ H Q, t' σ H Q → t σ H Q) : PO X e t' := ⟨fun pins s σ H Q I q => h.run pins s σ H Q I (hh _ _ _ q)⟩
theorem vo_none : PVO X none oNo := PO.imp po_none fun σ H Q ⟨U, G0, G, T, sl, Qv, c, w, k⟩ => k _ _ w G H (Same.refl _) c
theorem vo_some (h : PV X a wa) : PVO X (some a) (oPart wa) := PO.imp (po_some h) fun σ H Q ⟨U, G0, G, T, sl, Qv, c, w, k⟩ => ⟨U, G0, G, T, sl, _, c, w, fun r s1 hq G1 x H1 e1 c1 => by
  obtain ⟨d, hd, hq⟩ := c1.dat hq
  cases d <;> first | exact (show False from hq).elim | exact ⟨_, ints_of hd, k _ _ hq _ _ e1 c1.base⟩⟩
def cutD (xs : List PyData) (lo hi : Option Int) : List PyData := (xs.drop (HT.sIx xs.length 0 lo)).take (HT.sIx xs.length xs.length hi - HT.sIx xs.length 0 lo)
def oSl (rx : R) (lo hi : Option Int) (sl : Slots) (Q : R → Slots → Prop) : Prop := datR sl rx fun dx => match dx with
  | .list _ => lstR sl rx fun ds => Q (.e (.own (cutD ds lo hi))) sl
  | .tuple _ => tupR sl rx fun ds => Q (.e (.shr (.tuple (cutD ds lo hi)))) sl
  | .str z => z.length ≤ sizeLine ∧ Q (.e (.shr (.str (cutS z lo hi)))) sl
  | _ => False
def eSl (w : WE) (lo hi : WO) : WE := fun sl Q => w sl fun rx s1 => lo s1 fun l s2 => hi s2 fun h s3 => oSl rx l h s3 Q
theorem sl_strS : SlR X rSlS := sl_str
theorem cut_whole {xs : List V} {lo hi : Option Int} (h : HT.sIx xs.length 0 lo = 0 ∧ HT.sIx xs.length xs.length hi = xs.length) : cutV xs lo hi = xs := by
  unfold cutV; rw [h.1, h.2]; simp
theorem Reps.cut {q : Px} {H : Hp} {vs : List V} {ds : List PyData} (r : Reps q H vs ds) (lo hi : Option Int) : Reps q H (cutV vs lo hi) (cutD ds lo hi) := by
  unfold cutV cutD
  rw [r.length]
  exact (r.drop _).take _
theorem v_sl {lo hi : Option Expr} {wl wh : WO} {p2 : Pos} (ha : PV X a wa) (hl : PVO X lo wl) (hh : PVO X hi wh) : PV X (.Subscript a (.Slice lo hi none p2) pos) (eSl wa wl wh) :=
  PE.imp (pe_slice (sl_list.or (sl_tupA.or sl_strS)) ha hl hh) fun σ H Q ⟨U, G0, G, T, sl, Qv, c, w, k⟩ => by
    refine ⟨U, G0, G, T, sl, _, c, w, fun rx s1 hq G1 x H1 e1 c1 => ?_⟩
    -- the operand kept while the parts are reckoned
    cases rx with
    | e xa =>
      refine ⟨U, G0, G1, (x, xa) :: T, s1, _, c1, hq, fun l s2 hq G2 H2 e2 c2 => ⟨U, G0, G2, (x, xa) :: T, s2, _, c2, hq, fun h s3 hq G3 H3 e3 c3 => ?_⟩⟩
      have c3' : RelR ⟨pxOf X, U, G0⟩ G3 T x (.e xa) s3 σ H3 := c3
      obtain ⟨dx, hx, w⟩ := c3'.dat hq
      have cb := c3'.base
      cases dx <;> try exact (show False from w).elim
      · exact .inr (.inr ⟨_, strs_of hx, w.1, k _ _ w.2 _ _ _ (e1.trans (e2.trans e3)) ⟨cb.core.addShr (.str _), cb.wf⟩⟩)
      · obtain ⟨p, vs, ds, rfl, hr, rr, w⟩ := c3'.lst w
        exact .inl ⟨p, vs, rfl, hr, fun p' hp => k _ _ w _ _ _ (e1.trans (e2.trans e3)) ⟨cb.core.newOwn hp (rr.cut l h), cb.wf⟩⟩
      · obtain ⟨p, vs, ds, rfl, hr, rr, w⟩ := c3'.tup w
        refine .inr (.inl ⟨p, vs, rfl, hr, fun hw => ?_, fun hw p' hp => ?_⟩)
        · have := rr.cut l h
          rw [cut_whole hw] at this
          exact k _ _ w _ _ _ (e1.trans (e2.trans e3)) ⟨cb.core.addShr (.tup (SqT.toG cb.core hr) this), cb.wf⟩
        · obtain ⟨c4, e4⟩ := cb.core.newTup (vs := cutV vs l h) hp
          exact k _ _ w _ _ _ (e1.trans (e2.trans (e3.trans e4))) ⟨c4.addShr (.tup (SqT.of upd_same) ((rr.cut l h).mono e4)), cb.wf⟩
    | al i =>
      refine ⟨U, G0, G1, T, s1, _, c1.1, hq, fun l s2 hq G2 H2 e2 c2 => ⟨U, G0, G2, T, s2, _, c2, hq, fun h s3 hq G3 H3 e3 c3 => ?_⟩⟩
      have c3' : RelR ⟨pxOf X, U, G0⟩ G3 T x (.al i) s3 σ H3 := ⟨c3, c1.2⟩
      obtain ⟨dx, hx, w⟩ := c3'.dat hq
      have cb := c3'.base
      cases dx <;> try exact (show False from w).elim
      · exact .inr (.inr ⟨_, strs_of hx, w.1, k _ _ w.2 _ _ _ (e1.trans (e2.trans e3)) ⟨cb.core.addShr (.str _), cb.wf⟩⟩)
      · obtain ⟨p, vs, ds, rfl, hr, rr, w⟩ := c3'.lst w
        exact .inl ⟨p, vs, rfl, hr, fun p' hp => k _ _ w _ _ _ (e1.trans (e2.trans e3)) ⟨cb.core.newOwn hp (rr.cut l h), cb.wf⟩⟩
      · obtain ⟨p, vs, ds, rfl, hr, rr, w⟩ := c3'.tup w
        refine .inr (.inl ⟨p, vs, rfl, hr, fun hw => ?_, fun hw p' hp => ?_⟩)
        · have := rr.cut l h
          rw [cut_whole hw] at this
          exact k _ _ w _ _ _ (e1.trans (e2.trans e3)) ⟨cb.core.addShr (.tup (SqT.toG cb.core hr) this), cb.wf⟩
        · obtain ⟨c4, e4⟩ := cb.core.newTup (vs := cutV vs l h) hp
          exact k _ _ w _ _ _ (e1.trans (e2.trans (e3.trans e4))) ⟨c4.addShr (.tup (SqT.of upd_same) ((rr.cut l h).mono e4)), cb.wf⟩
/-- xs[::-1] of a list -/
def eRevL (w : WE) : WE := fun sl Q => w sl fun r s1 => lstR s1 r fun ds => Q (.e (.own ds.reverse)) s1
theorem v_revL {k : Nat} {p1 p2 p3 : Pos} (ha : PV X a wa) : PV X (.Subscript a (.Slice none none (some (.UnaryOp .USub (.Constant (.int 1) k p1) p2)) p3) pos) (eRevL wa) :=
  PE.imp (pe_revL ha) fun σ H Q ⟨U, G0, G, T, sl, Qv, c, w, kk⟩ => ⟨U, G0, G, T, sl, _, c, w, fun r s1 hq G1 x H1 e1 c1 => by
    obtain ⟨p, vs, ds, rfl, hr, rr, w⟩ := c1.lst hq
    exact ⟨p, vs, rfl, hr, fun p' hp => kk _ _ w _ _ _ e1 ⟨c1.base.core.newOwn hp rr.reverse, c1.base.wf⟩⟩⟩
end
end VV

/-! V7: calls of defs -/
namespace VV
open PySem PySem.Spec L2
open PyProof.Rows hiding St

mutual
/-- nothing borrowed in it -/
def Ent.nb : Ent → Prop
  | .shr _ => True
  | .bor _ => False
  | .own _ => True
  | .lst es => Ent.nbs es
  | .tup es => Ent.nbs es
  | .dct _ => True
  | .raw _ => True
def Ent.nbs : List Ent → Prop
  | [] => True
  | e :: es => e.nb ∧ Ent.nbs es
end
mutual
theorem Own.toU {q : Px} {U U' G H : Hp} : ∀ {v : V} {e : Ent} {F : List Addr}, Own q U' G H v e F → e.nb → Own q U G H v e F
  | _, _, _, .shr h, _ => .shr h
  | _, _, _, .bor h, n => n.elim
  | _, _, _, .own hp r, _ => .own hp r
  | _, _, _, .lst hp r, n => .lst hp (Owns.toU r n)
  | _, _, _, .tup hp r, n => .tup hp (Owns.toU r n)
  | _, _, _, .dct hd, _ => .dct hd
  | _, _, _, .raw, _ => .raw
theorem Owns.toU {q : Px} {U U' G H : Hp} : ∀ {vs : List V} {es : List Ent} {F : List Addr}, Owns q U' G H vs es F → Ent.nbs es → Owns q U G H vs es F
  | _, _, _, .nil, _ => .nil
  | _, _, _, .cons h r, n => .cons (Own.toU h n.1) (Owns.toU r n.2)
end
theorem OwnL.toU {q : Px} {U U' G H : Hp} {L : List (V × Ent)} {F : List Addr} (h : OwnL q U' G H L F) : (∀ p ∈ L, p.2.nb) → OwnL q U G H L F := by
  induction h with
  | nil => intro _; exact .nil
  | cons h _ ih => intro k; exact .cons (h.toU (k (_, _) List.mem_cons_self)) (ih fun p hp => k p (by simp [hp]))
mutual
/-- an entry reads as its data in any heap that has what it needs -/
theorem Own.repW {q : Px} {U G H W : Hp} (sU : Same U W) (sG : Same G W) (ht : TupIn H W) : ∀ {e : Ent} {d : PyData} {v : V} {F : List Addr}, Dat e d → Own q U G H v e F → (∀ a ∈ F, W a = H a) → Rep q W v d
  | _, _, _, _, .shr, .shr h, _ => h.mono sG
  | _, _, _, _, .bor, .bor h, _ => h.mono sU
  | _, _, _, _, .own, .own hp r, k => .lst (.inl (Rd.of ((k _ (by simp)).trans hp))) (r.mono sG)
  | _, _, _, _, .lst hd, .lst hp r, k => .lst (.inl (Rd.of ((k _ (by simp)).trans hp))) (Owns.repsW sU sG ht hd r fun a m => k a (by simp [m]))
  | _, _, _, _, .tup hd, .tup hp r, k => .tup (SqT.of (ht _ _ hp)) (Owns.repsW sU sG ht hd r k)
  | _, _, _, _, .dct, .dct hd, k => by
    obtain ⟨_, x, e, r⟩ := hd
    exact .dctT ((k _ (by simp)).trans e) (r.mono sG)
theorem Owns.repsW {q : Px} {U G H W : Hp} (sU : Same U W) (sG : Same G W) (ht : TupIn H W) : ∀ {es : List Ent} {ds : List PyData} {vs : List V} {F : List Addr}, Dats es ds → Owns q U G H vs es F → (∀ a ∈ F, W a = H a) → Reps q W vs ds
  | _, _, _, _, .nil, .nil, _ => .nil
  | _, _, _, _, .cons hd hds, .cons h r, k => .cons (Own.repW sU sG ht hd h fun a m => k a (by simp [m])) (Owns.repsW sU sG ht hds r fun a m => k a (by simp [m]))
end
theorem chg_not_tup {o : HO} {xs : List V} (h : Chg (some o)) (e : o = .tup xs) : False := by subst e; exact h
/-- a call: M is handed to be changed, L is lent -/
theorem Core.lend {f : Fr} {G H : Hp} {M L : List (V × Ent)} (c : Core f G (M ++ L) H) : ∃ U' : Hp,
    Same U' H ∧ TupIn H U' ∧ FrzT H U' ∧ Core ⟨f.q, U', ⟨G, []⟩⟩ G (M.map fun p => p) H = Core ⟨f.q, U', ⟨G, []⟩⟩ G M H ∧
    ((∀ p ∈ M, p.2.nb) → Core ⟨f.q, U', ⟨G, []⟩⟩ G M H) ∧ (∀ v e d, (v, e) ∈ L → Dat e d → Rep f.q U' v d) ∧ Same G U' ∧
    (∀ G1 M1 H1, Same G G1 → (∀ p ∈ M1, p.2.nb) → Core ⟨f.q, U', ⟨G, []⟩⟩ G1 M1 H1 → Core f G1 (M1 ++ L) H1) := by
  classical
  obtain ⟨F, a, nd, k⟩ := c.res
  obtain ⟨FM, FL, rfl, aM, aL⟩ := a.split
  have kM : ∀ a ∈ FM, G a = none ∧ f.U a = none := fun a m => k a (by simp [m])
  have kL : ∀ a ∈ FL, G a = none ∧ f.U a = none := fun a m => k a (by simp [m])
  have dj : ∀ a ∈ FM, a ∉ FL := fun a m m' => (List.nodup_append.mp nd).2.2 a m a m' rfl
  refine ⟨fun a => if a ∈ FM then none else H a, ?_⟩
  generalize hU' : (fun a => if a ∈ FM then none else H a : Hp) = U'
  have u1 : ∀ a ∈ FM, U' a = none := fun a m => by rw [← hU']; exact if_pos m
  have u2 : ∀ a, a ∉ FM → U' a = H a := fun a m => by rw [← hU']; exact if_neg m
  have sUH : Same U' H := fun b o e => by
    by_cases m : b ∈ FM
    · rw [u1 b m] at e; cases e
    · rw [u2 b m] at e; exact e
  have tupN : ∀ a xs, H a = some (.tup xs) → a ∉ FM := fun a xs e m => by
    have := aM.chg a m
    rw [e] at this; exact this
  have frzN : ∀ a o xs, H a = some (.frz o (.tup xs)) → a ∉ FM := fun a o xs e m => by
    have := aM.chg a m
    rw [e] at this; exact this
  have tin : TupIn H U' := fun a xs e => by rw [u2 a (tupN a xs e)]; exact e
  have fin : FrzT H U' := fun a o xs e => by rw [u2 a (frzN a o xs e)]; exact e
  have sGU : Same G U' := fun b o e => by
    have : b ∉ FM := fun m => by rw [(kM b m).1] at e; cases e
    rw [u2 b this]; exact c.sG _ _ e
  have sfU : Same f.U U' := fun b o e => by
    have : b ∉ FM := fun m => by rw [(kM b m).2] at e; cases e
    rw [u2 b this]; exact c.sU _ _ e
  refine ⟨sUH, tin, fin, by simp, fun hnb => ?_, fun v e d hm hd => ?_, sGU, fun G1 M1 H1 sG1 hnb c1 => ?_⟩
  · exact ⟨sUH, c.sG, c.tups, c.frzs, fun a h => .inl h, FM, aM.toU hnb, (List.nodup_append.mp nd).1, fun a m => ⟨(kM a m).1, u1 a m⟩⟩
  · obtain ⟨F', o, hF⟩ := aL.mem hm
    exact o.repW sfU sGU tin hd fun a m => u2 a fun m' => dj a m' (hF a m)
  · obtain ⟨F1, a1, nd1, k1⟩ := c1.res
    have chL := aL.chg
    have uL : ∀ a ∈ FL, U' a = H a := fun a m => u2 a fun m' => dj a m' m
    have nL : ∀ a ∈ FL, U' a ≠ none := fun a m e => by
      have := chL a m
      rw [← uL a m, e] at this
      exact this
    have hL : ∀ a ∈ FL, H1 a = H a := fun a m => by
      cases e : H a with
      | none => exact absurd ((uL a m).trans e) (nL a m)
      | some o => exact c1.sU _ _ ((uL a m).trans e)
    have nw : ∀ a, G1 a ≠ none → G a ≠ none ∨ U' a = none := c1.new
    refine ⟨fun b o e => c1.sU _ _ (sfU _ _ e), c1.sG, c1.tups, c1.frzs, fun b hb => ?_, F1 ++ FL, (a1.toU hnb).append (aL.mono sG1 (fun b xs e => c1.sU _ _ (tin b xs e)) hL), ?_, fun a m => ?_⟩
    · rcases nw b hb with h | h
      · exact c.new b h
      · right
        cases e : f.U b with
        | none => rfl
        | some o => exact absurd (sfU _ _ e) (by rw [h]; simp)
    · refine List.nodup_append.mpr ⟨nd1, (List.nodup_append.mp nd).2.1, fun x m y m' e => ?_⟩
      subst e
      exact nL x m' (k1 x m).2
    · rcases List.mem_append.mp m with m | m
      · refine ⟨(k1 a m).1, ?_⟩
        cases e : f.U a with
        | none => rfl
        | some o => exact absurd (sfU _ _ e) (by have := (k1 a m).2; rw [show U' a = none from this]; simp)
      · refine ⟨?_, (kL a m).2⟩
        cases e : G1 a with
        | none => rfl
        | some o =>
          rcases nw a (by rw [e]; simp) with h | h
          · exact absurd (kL a m).1 h
          · exact absurd h (nL a m)

/-! ### what a def promises, by entries -/
inductive Mode where
  /-- only read; shared; changed -/
  | rd | sh | mu
  /-- handed over for good -/
  | gv
  deriving DecidableEq
/-- arguments, what follows (the result, what the changed ones are), what is raised -/
abbrev FS := List Ent → (Ent → List Ent → Prop) → (Value → List Ent → Prop) → Prop
def muts (ms : List Mode) (vs : List V) : List V := match ms, vs with
  | .mu :: ms, v :: vs => v :: muts ms vs
  | _ :: ms, _ :: vs => muts ms vs
  | _, _ => []
def spOf (q : Px) (ms : List Mode) (φ : FS) : Sp := fun vs H Q E => ∃ U G es Qv Ev, vs.length = ms.length ∧ es.length = ms.length ∧ Core ⟨q, U, ⟨G, []⟩⟩ G (vs.zip es) H ∧ φ es Qv Ev ∧
  (∀ r rs, Qv r rs → ∀ G' v H', Same G G' → (muts ms vs).length = rs.length → r.nb → Ent.nbs rs → Core ⟨q, U, ⟨G, []⟩⟩ G' ((v, r) :: (muts ms vs).zip rs) H' → Q v H') ∧
  (∀ c rs, Ev c rs → ∀ G' d H', Same G G' → (muts ms vs).length = rs.length → Ent.nbs rs → Core ⟨q, U, ⟨G, []⟩⟩ G' ((muts ms vs).zip rs) H' → E c d H')
theorem nbs_mem : ∀ {es : List Ent}, Ent.nbs es → ∀ e ∈ es, e.nb
  | _ :: _, h, _, hm => (List.mem_cons.mp hm).elim (fun e => e ▸ h.1) (nbs_mem h.2 _)
theorem nbs_of : ∀ {es : List Ent}, (∀ e ∈ es, e.nb) → Ent.nbs es
  | [], _ => trivial
  | e :: es, h => ⟨h e (by simp), nbs_of fun x hx => h x (by simp [hx])⟩
theorem nbs_zip {vs : List V} {es : List Ent} (h : Ent.nbs es) : ∀ p ∈ vs.zip es, p.2.nb := fun p hp => nbs_mem h _ (List.of_mem_zip hp).2

/-- first what is frozen, what is handed over -/
def pass1 : List Mode → List R → Slots → (List (Option Ent) → Slots → Prop) → Prop
  | [], [], sl, k => k [] sl
  | .rd :: ms, _ :: rs, sl, k => pass1 ms rs sl fun es s => k (none :: es) s
  | .sh :: ms, r :: rs, sl, k => frzR sl r fun d s1 => pass1 ms rs s1 fun es s => k (some (.shr d) :: es) s
  | .mu :: ms, .al i :: rs, sl, k => atS sl i fun x => x.nb ∧ pass1 ms rs (sl.set i none) fun es s => k (some x :: es) s
  | .gv :: ms, .e x :: rs, sl, k => x.nb ∧ pass1 ms rs sl fun es s => k (some x :: es) s
  | .gv :: ms, .al i :: rs, sl, k => atS sl i fun x => x.nb ∧ pass1 ms rs (sl.set i none) fun es s => k (some x :: es) s
  | _, _, _, _ => False
/-- .. then what is read -/
def pass2 : List (Option Ent) → List R → Slots → (List Ent → Prop) → Prop
  | [], [], _, k => k []
  | none :: os, r :: rs, sl, k => datR sl r fun d => pass2 os rs sl fun es => k (.bor d :: es)
  | some e :: os, _ :: rs, sl, k => pass2 os rs sl fun es => k (e :: es)
  | _, _, _, _ => False
def backS : List Mode → List R → Slots → List Ent → (Slots → Prop) → Prop
  | [], [], sl, [], k => k sl
  | .mu :: ms, .al i :: rs, sl, e :: es, k => backS ms rs (sl.set i (some e)) es k
  | .rd :: ms, _ :: rs, sl, es, k => backS ms rs sl es k
  | .sh :: ms, _ :: rs, sl, es, k => backS ms rs sl es k
  | .gv :: ms, _ :: rs, sl, es, k => backS ms rs sl es k
  | _, _, _, _, _ => False
def callW (φ : FS) (ms : List Mode) (rs : List R) (s1 : Slots) (Q : R → Slots → Prop) (E : Value → Slots → Prop) : Prop :=
  pass1 ms rs s1 fun os s2 => pass2 os rs s2 fun es => φ es (fun r xs => backS ms rs s2 xs fun s3 => Q (.e r) s3) (fun c xs => backS ms rs s2 xs fun s3 => E c s3)
def eCall (φ : FS) (ms : List Mode) (wa : WA) : WE := fun sl Q => wa sl fun rs s1 => callW φ ms rs s1 Q fun _ _ => False


section
variable {f : Fr} {G H : Hp} {T : List (V × Ent)} {σ : St} {sl : Slots}
theorem Rel.putAny {v : V} {x : Ent} {i : Nat} (c : Rel f G ((v, x) :: T) sl σ H) (hi : i < sl.length) (hv : σ[i]? = some (some v)) : Rel f G T (sl.set i (some x)) σ H := by
  cases e : sl[i]? with
  | none => rw [List.getElem?_eq_none_iff] at e; omega
  | some o =>
    cases o with
    | none => exact c.put hi e hv
    | some y =>
      have c1 := c.out e hv
      have c2 : Rel f G ((v, x) :: T) (sl.set i none) σ H := ⟨Core.drop (v := v) (e := y) c1.core, c1.wf⟩
      exact Rel.put' c2 hi hv
/-- the temporaries that are read -/
def pshR : List Mode → List V → List R → List (V × Ent)
  | .rd :: ms, v :: vs, .e x :: rs => (v, x) :: pshR ms vs rs
  | _ :: ms, _ :: vs, _ :: rs => pshR ms vs rs
  | _, _, _ => []
/-- pass1's end -/
inductive Arg1 (q : Px) (G : Hp) (σ : St) : List Mode → List V → List R → List (Option Ent) → List (V × Ent) → Prop
  | nil : Arg1 q G σ [] [] [] [] []
  | rd {ms v vs r rs os M} : Arg1 q G σ ms vs rs os M → Arg1 q G σ (.rd :: ms) (v :: vs) (r :: rs) (none :: os) M
  | sh {ms v vs r rs os M d} : Rep q G v d → Arg1 q G σ ms vs rs os M → Arg1 q G σ (.sh :: ms) (v :: vs) (r :: rs) (some (.shr d) :: os) M
  | gv {ms v vs r rs os M x} : x.nb → Arg1 q G σ ms vs rs os M → Arg1 q G σ (.gv :: ms) (v :: vs) (r :: rs) (some x :: os) ((v, x) :: M)
  | mu {ms v vs i rs os M x} : σ[i]? = some (some v) → x.nb → Arg1 q G σ ms vs rs os M → Arg1 q G σ (.mu :: ms) (v :: vs) (.al i :: rs) (some x :: os) ((v, x) :: M)
theorem Arg1.mono {q : Px} {G G' : Hp} (s : Same G G') {ms vs rs os M} (h : Arg1 q G σ ms vs rs os M) : Arg1 q G' σ ms vs rs os M := by
  induction h with
  | nil => exact .nil
  | rd _ ih => exact .rd ih
  | sh r _ ih => exact .sh (r.mono s) ih
  | gv n _ ih => exact .gv n ih
  | mu e n _ ih => exact .mu e n ih
theorem pass1_ok : ∀ {ms : List Mode} {vs : List V} {rs : List R} {G : Hp} {T : List (V × Ent)} {sl : Slots} {k : List (Option Ent) → Slots → Prop}, Rel f G (psh vs rs ++ T) sl σ H → alOk σ vs rs → pass1 ms rs sl k →
    ∃ G' os sl' M, Same G G' ∧ Rel f G' (M ++ (pshR ms vs rs ++ T)) sl' σ H ∧ Arg1 f.q G' σ ms vs rs os M ∧ k os sl'
  | [], [], [], G, T, sl, k, c, _, h => ⟨G, [], sl, [], Same.refl _, c, .nil, h⟩
  | [], _ :: _, [], _, _, _, _, _, o, _ => (show False from o).elim
  | _, [], _ :: _, _, _, _, _, _, o, _ => (show False from o).elim
  | [], _, _ :: _, _, _, _, _, _, _, h => (show False from h).elim
  | .rd :: _, _, [], _, _, _, _, _, _, h => (show False from h).elim
  | .sh :: _, _, [], _, _, _, _, _, _, h => (show False from h).elim
  | .mu :: _, _, [], _, _, _, _, _, _, h => (show False from h).elim
  | .gv :: _, _, [], _, _, _, _, _, _, h => (show False from h).elim
  | .rd :: ms, v :: vs, .e x :: rs, G, T, sl, k, c, o, h => by
    obtain ⟨G1, os, s1, M, e1, c1, a1, h1⟩ := pass1_ok (ms := ms) (vs := vs) (rs := rs) (T := (v, x) :: T) ⟨c.core.perm ((List.perm_middle (l₁ := psh vs rs) (a := (v, x)) (l₂ := T)).symm.append_right _), c.wf⟩ o h
    exact ⟨G1, none :: os, s1, M, e1, ⟨c1.core.perm (((List.perm_middle (l₁ := pshR ms vs rs) (a := (v, x)) (l₂ := T)).append_left M).append_right _), c1.wf⟩, .rd a1, h1⟩
  | .rd :: ms, v :: vs, .al i :: rs, G, T, sl, k, c, o, h => by
    obtain ⟨G1, os, s1, M, e1, c1, a1, h1⟩ := pass1_ok (ms := ms) (vs := vs) (rs := rs) (T := T) c o.2 h
    exact ⟨G1, none :: os, s1, M, e1, c1, .rd a1, h1⟩
  | .sh :: ms, v :: vs, .e x :: rs, G, T, sl, k, c, o, h => by
    -- the temporary is kept beside its frozen self: freeze, then lend the shared one
    obtain ⟨d, hd, hk⟩ := Ent.frz_iff (show x.frz _ from h)
    obtain ⟨G0, s0, c0⟩ := Core.freeze (show Core f G ((v, x) :: (psh vs rs ++ T ++ slotRes σ sl)) H from c.core) hd
    obtain ⟨G1, os, s1, M, e1, c1, a1, h1⟩ := pass1_ok (ms := ms) (vs := vs) (rs := rs) (T := T) ⟨c0.drop, c.wf⟩ o hk
    exact ⟨G1, some (.shr d) :: os, s1, M, s0.trans e1, c1, .sh ((c0.shrd (by simp)).mono e1) a1, h1⟩
  | .sh :: ms, v :: vs, .al i :: rs, G, T, sl, k, c, o, h => by
    obtain ⟨G0, d, s0, e0, c0, r0, h0⟩ := RelR.frz (r := .al i) (v := v) (T := psh vs rs ++ T) ⟨c, o.1⟩ h
    obtain ⟨G1, os, s1, M, e1, c1, a1, h1⟩ := pass1_ok (ms := ms) (vs := vs) (rs := rs) (T := T) c0 o.2 h0
    exact ⟨G1, some (.shr d) :: os, s1, M, e0.trans e1, c1, .sh (r0.mono e1) a1, h1⟩
  | .mu :: ms, v :: vs, .e x :: rs, _, _, _, _, _, _, h => (show False from h).elim
  | .mu :: ms, v :: vs, .al i :: rs, G, T, sl, k, c, o, h => by
    obtain ⟨x, hs, hn, h⟩ := atS_iff h
    have c0 := c.out hs o.1
    obtain ⟨G1, os, s1, M, e1, c1, a1, h1⟩ := pass1_ok (ms := ms) (vs := vs) (rs := rs) (T := (v, x) :: T) ⟨c0.core.perm ((List.perm_middle (l₁ := psh vs rs) (a := (v, x)) (l₂ := T)).symm.append_right _), c0.wf⟩ o.2 h
    refine ⟨G1, some x :: os, s1, (v, x) :: M, e1, ⟨c1.core.perm ?_, c1.wf⟩, .mu o.1 hn a1, h1⟩
    have p1 := (List.perm_middle (l₁ := pshR ms vs rs) (a := (v, x)) (l₂ := T)).append_left M
    have p2 := p1.trans (List.perm_middle (l₁ := M) (a := (v, x)) (l₂ := pshR ms vs rs ++ T))
    exact p2.append_right _
  | .gv :: ms, v :: vs, .e x :: rs, G, T, sl, k, c, o, h => by
    obtain ⟨G1, os, s1, M, e1, c1, a1, h1⟩ := pass1_ok (ms := ms) (vs := vs) (rs := rs) (T := (v, x) :: T) ⟨c.core.perm ((List.perm_middle (l₁ := psh vs rs) (a := (v, x)) (l₂ := T)).symm.append_right _), c.wf⟩ o h.2
    refine ⟨G1, some x :: os, s1, (v, x) :: M, e1, ⟨c1.core.perm ?_, c1.wf⟩, .gv h.1 a1, h1⟩
    have p1 := (List.perm_middle (l₁ := pshR ms vs rs) (a := (v, x)) (l₂ := T)).append_left M
    have p2 := p1.trans (List.perm_middle (l₁ := M) (a := (v, x)) (l₂ := pshR ms vs rs ++ T))
    exact p2.append_right _
  | .gv :: ms, v :: vs, .al i :: rs, G, T, sl, k, c, o, h => by
    obtain ⟨x, hs, hn, h⟩ := atS_iff h
    have c0 := c.out hs o.1
    obtain ⟨G1, os, s1, M, e1, c1, a1, h1⟩ := pass1_ok (ms := ms) (vs := vs) (rs := rs) (T := (v, x) :: T) ⟨c0.core.perm ((List.perm_middle (l₁ := psh vs rs) (a := (v, x)) (l₂ := T)).symm.append_right _), c0.wf⟩ o.2 h
    refine ⟨G1, some x :: os, s1, (v, x) :: M, e1, ⟨c1.core.perm ?_, c1.wf⟩, .gv hn a1, h1⟩
    have p1 := (List.perm_middle (l₁ := pshR ms vs rs) (a := (v, x)) (l₂ := T)).append_left M
    have p2 := p1.trans (List.perm_middle (l₁ := M) (a := (v, x)) (l₂ := pshR ms vs rs ++ T))
    exact p2.append_right _
theorem Arg1.len {q : Px} {ms vs rs os M} (h : Arg1 q G σ ms vs rs os M) : vs.length = ms.length ∧ os.length = ms.length := by
  induction h with
  | nil => exact ⟨rfl, rfl⟩
  | rd _ ih => simp [ih.1, ih.2]
  | sh _ _ ih => simp [ih.1, ih.2]
  | gv _ _ ih => simp [ih.1, ih.2]
  | mu _ _ _ ih => simp [ih.1, ih.2]
theorem Arg1.nb {q : Px} {ms vs rs os M} (h : Arg1 q G σ ms vs rs os M) : ∀ p ∈ M, p.2.nb := by
  induction h with
  | nil => intro p hp; simp at hp
  | rd _ ih => exact ih
  | sh _ _ ih => exact ih
  | gv n _ ih =>
    intro p hp
    rcases List.mem_cons.mp hp with rfl | hp
    · exact n
    · exact ih p hp
  | mu _ n _ ih =>
    intro p hp
    rcases List.mem_cons.mp hp with rfl | hp
    · exact n
    · exact ih p hp
/-- pass2: the entries of the callee -/
theorem pass2_ok {U' : Hp} {sl : Slots} {L : List (V × Ent)} (hL : ∀ v e d, (v, e) ∈ L → Dat e d → Rep f.q U' v d) (hS : ∀ (i : Nat) (v : V) (x : Ent), σ[i]? = some (some v) → sl[i]? = some (some x) → (v, x) ∈ L) {ms vs rs os M} (h : Arg1 f.q G σ ms vs rs os M) :
    ∀ {k : List Ent → Prop} {L0 : List (V × Ent)}, (∀ p ∈ pshR ms vs rs, p ∈ L) → alOk σ vs rs → pass2 os rs sl k → Core ⟨f.q, U', ⟨G, []⟩⟩ G (M ++ L0) H → ∃ es, es.length = ms.length ∧ Core ⟨f.q, U', ⟨G, []⟩⟩ G (vs.zip es ++ L0) H ∧ k es := by
  induction h with
  | nil => intro k L0 _ _ w c; exact ⟨[], rfl, c, w⟩
  | @rd ms v vs r rs os M a ih =>
    intro k L0 hp o w c
    have rv : ∀ {K : PyData → Prop}, datR sl r K → ∃ d, Rep f.q U' v d ∧ K d := by
      intro K hK
      cases r with
      | e x =>
        obtain ⟨d, hd, hk⟩ := Ent.dat_iff hK
        exact ⟨d, hL v x d (hp _ (by simp [pshR])) hd, hk⟩
      | al i =>
        obtain ⟨x, hs, hK⟩ := atS_iff hK
        obtain ⟨d, hd, hk⟩ := Ent.dat_iff hK
        exact ⟨d, hL v x d (hS i v x o.1 hs) hd, hk⟩
    obtain ⟨d, hd, w⟩ := rv (show datR sl r fun d => pass2 os rs sl fun es => k (.bor d :: es) from w)
    have hp' : ∀ p ∈ pshR ms vs rs, p ∈ L := fun p m => hp p (by cases r <;> simp [pshR, m])
    have o' : alOk σ vs rs := by cases r with | e x => exact o | al i => exact o.2
    obtain ⟨es, hl, c2, hk⟩ := ih hp' o' w (L0 := (v, .bor d) :: L0) (Core.perm (c.addBor hd) List.perm_middle.symm)
    exact ⟨.bor d :: es, by simp [hl], c2.perm List.perm_middle, hk⟩
  | @sh ms v vs r rs os M d hr a ih =>
    intro k L0 hp o w c
    have hp' : ∀ p ∈ pshR ms vs rs, p ∈ L := fun p m => hp p (by cases r <;> simp [pshR, m])
    have o' : alOk σ vs rs := by cases r with | e x => exact o | al i => exact o.2
    obtain ⟨es, hl, c2, hk⟩ := ih hp' o' w (L0 := (v, .shr d) :: L0) (Core.perm (c.addShr hr) List.perm_middle.symm)
    exact ⟨.shr d :: es, by simp [hl], c2.perm List.perm_middle, hk⟩
  | @gv ms v vs r rs os M x n a ih =>
    intro k L0 hp o w c
    have hp' : ∀ p ∈ pshR ms vs rs, p ∈ L := fun p m => hp p (by cases r <;> simp [pshR, m])
    have o' : alOk σ vs rs := by cases r with | e x => exact o | al i => exact o.2
    obtain ⟨es, hl, c2, hk⟩ := ih hp' o' w (L0 := (v, x) :: L0) (Core.perm c List.perm_middle.symm)
    exact ⟨x :: es, by simp [hl], c2.perm List.perm_middle, hk⟩
  | @mu ms v vs i rs os M x e n a ih =>
    intro k L0 hp o w c
    obtain ⟨es, hl, c2, hk⟩ := ih (fun p m => hp p (by simp [pshR, m])) o.2 w (L0 := (v, x) :: L0) (Core.perm c List.perm_middle.symm)
    exact ⟨x :: es, by simp [hl], c2.perm List.perm_middle, hk⟩
/-- the changed ones put back -/
theorem back_ok : ∀ {ms : List Mode} {vs : List V} {rs : List R} {xs : List Ent} {sl : Slots} {k : Slots → Prop} {T : List (V × Ent)}, alOk σ vs rs → vs.length = ms.length → backS ms rs sl xs k → sl.length = σ.length → Rel f G ((muts ms vs).zip xs ++ T) sl σ H → ∃ s3, Rel f G T s3 σ H ∧ k s3
  | [], [], [], [], sl, k, T, _, _, h, hl, c => ⟨sl, c, h⟩
  | [], _ :: _, _, _, _, _, _, _, hv, _, _, _ => by simp at hv
  | _ :: _, [], _, _, _, _, _, _, hv, _, _, _ => by simp at hv
  | [], [], [], _ :: _, _, _, _, _, _, h, _, _ => (show False from h).elim
  | [], [], _ :: _, _, _, _, _, _, _, h, _, _ => (show False from h).elim
  | .rd :: _, _ :: _, [], _, _, _, _, o, _, _, _, _ => (show False from o).elim
  | .sh :: _, _ :: _, [], _, _, _, _, o, _, _, _, _ => (show False from o).elim
  | .gv :: _, _ :: _, [], _, _, _, _, o, _, _, _, _ => (show False from o).elim
  | .mu :: _, _ :: _, [], _, _, _, _, o, _, _, _, _ => (show False from o).elim
  | .rd :: ms, v :: vs, r :: rs, xs, sl, k, T, o, hv, h, hl, c => by
    have o' : alOk σ vs rs := by cases r with | e x => exact o | al i => exact o.2
    exact back_ok (ms := ms) o' (by simpa using hv) h hl c
  | .sh :: ms, v :: vs, r :: rs, xs, sl, k, T, o, hv, h, hl, c => by
    have o' : alOk σ vs rs := by cases r with | e x => exact o | al i => exact o.2
    exact back_ok (ms := ms) o' (by simpa using hv) h hl c
  | .gv :: ms, v :: vs, r :: rs, xs, sl, k, T, o, hv, h, hl, c => by
    have o' : alOk σ vs rs := by cases r with | e x => exact o | al i => exact o.2
    exact back_ok (ms := ms) o' (by simpa using hv) h hl c
  | .mu :: ms, v :: vs, .e x :: rs, _, _, _, _, _, _, h, _, _ => (show False from h).elim
  | .mu :: ms, v :: vs, .al i :: rs, [], _, _, _, _, _, h, _, _ => (show False from h).elim
  | .mu :: ms, v :: vs, .al i :: rs, e :: xs, sl, k, T, o, hv, h, hl, c => by
    have hi : i < sl.length := by rw [hl]; exact (List.getElem?_eq_some_iff.mp o.1).1
    have c1 : Rel f G ((muts ms vs).zip xs ++ T) (sl.set i (some e)) σ H := Rel.putAny (v := v) (x := e) (T := (muts ms vs).zip xs ++ T) c hi o.1
    exact back_ok (ms := ms) o.2 (by simpa using hv) h (by simpa using hl) c1
theorem slot_mem {i : Nat} {v : V} {x : Ent} (h : σ[i]? = some (some v)) (h' : sl[i]? = some (some x)) : (v, x) ∈ slotRes σ sl := (slotRes_take h' h).mem_iff.mpr (by simp)
/-- A CALL: what the callee's promise asks -/
theorem call_ok {ms : List Mode} {vs : List V} {rs : List R} {φ : FS} {Q : R → Slots → Prop} {E : Value → Slots → Prop} {Qh : VK} {Eh : XK} (c : RelRs f G T vs rs sl σ H) (w : callW φ ms rs sl Q E)
    (hQ : ∀ r s3, Q r s3 → ∀ G' v H', Same G G' → RelR f G' T v r s3 σ H' → Qh v H') (hE : ∀ e s3, E e s3 → ∀ G' d H', Same G G' → Rel f G' T s3 σ H' → Eh e d H') : spOf f.q ms φ vs H Qh Eh := by
  obtain ⟨cf, al⟩ := c.flat
  obtain ⟨G1, os, s2, M, e1, c1, a1, w⟩ := pass1_ok cf al w
  obtain ⟨U', sUH, tin, fin, _, lendM, lendL, sGU, fin⟩ := Core.lend (M := M) (L := pshR ms vs rs ++ T ++ slotRes σ s2) (by have := c1.core; rwa [List.append_assoc] at this)
  have cM := lendM a1.nb
  obtain ⟨es, hl, c2, w⟩ := pass2_ok (U' := U') (sl := s2) (L := pshR ms vs rs ++ T ++ slotRes σ s2) lendL (fun i v x h h' => List.mem_append_right _ (slot_mem h h')) a1 (fun p m => by simp [m]) al w (L0 := []) (by rwa [List.append_nil])
  rw [List.append_nil] at c2
  refine ⟨U', G1, es, _, _, a1.len.1, hl, c2, w, fun r xs hq G2 v H2 e2 hlen nr nx c3 => ?_, fun e xs hq G2 d H2 e2 hlen nx c3 => ?_⟩
  · have c4 := fin G2 _ H2 e2 (fun p hp => by
      rcases List.mem_cons.mp hp with rfl | hp
      · exact nr
      · exact nbs_zip nx p hp) c3
    have c5 : Rel f G2 ((muts ms vs).zip xs ++ ((v, r) :: (pshR ms vs rs ++ T))) s2 σ H2 := ⟨c4.perm (by
      rw [List.append_assoc]
      have : ((v, r) :: (muts ms vs).zip xs ++ (pshR ms vs rs ++ T ++ slotRes σ s2)).Perm ((muts ms vs).zip xs ++ (v, r) :: (pshR ms vs rs ++ T ++ slotRes σ s2)) := List.perm_middle.symm
      simpa using this), c1.wf⟩
    obtain ⟨s3, c6, hk⟩ := back_ok al a1.len.1 hq c5.wf.len c5
    refine hQ _ _ hk G2 v H2 (e1.trans e2) ?_
    refine ⟨Core.sub (L := pshR ms vs rs) (c6.core.perm ?_), c6.wf⟩
    have : ((v, r) :: (pshR ms vs rs ++ T) ++ slotRes σ s3).Perm (pshR ms vs rs ++ ((v, r) :: T ++ slotRes σ s3)) := by
      have := (List.perm_middle (l₁ := pshR ms vs rs) (a := (v, r)) (l₂ := T ++ slotRes σ s3)).symm
      simpa using this
    exact this
  · have c4 := fin G2 _ H2 e2 (fun p hp => nbs_zip nx p hp) c3
    have c5 : Rel f G2 ((muts ms vs).zip xs ++ (pshR ms vs rs ++ T)) s2 σ H2 := ⟨c4.perm (by simp), c1.wf⟩
    obtain ⟨s3, c6, hk⟩ := back_ok al a1.len.1 hq c5.wf.len c5
    exact hE _ _ hk G2 d H2 (e1.trans e2) ⟨Core.sub (L := pshR ms vs rs) (by have := c6.core; rwa [List.append_assoc] at this), c6.wf⟩
end
/-! ### the call as an expression -/
section
variable {X : Cx} {k : Nat} {g : Addr} {fd : FuncData} {ps : List Str} {φ : FS} {ms : List Mode} {x : Str} {p pos : Pos} {e : Expr} {es : List Expr} {wa : WA}
theorem v_call (F : FnOk X.prog X.w X.K X.mg X.base CX0 k g fd ps (spOf (pxOf X) ms φ)) (hr : Room k X.A) (hg : Gl X x) (hm : X.mg x = some (.ref g)) (hk : PySem.W.keepIn X.K (.ref g) = true) (hb : Binds X.K fd ps [])
    (ha : PVA X (e :: es) wa) (hdb : (x == ("__debug__" : Str)) = false := by decide) (he : starEach (e :: es) X.env = (false, eval e X.env) :: starEach es X.env := by rfl) (hpl : (backTo pos (starEach es X.env)).any (·.1) = false := by rfl) :
    PV X (.Call (.Name x p) (e :: es) [] pos) (eCall φ ms wa) :=
  PE.imp (pe_call F hr hg hm hk hb .nil pass0 ha hdb he hpl) fun σ H Q ⟨U, G0, G, T, sl, Qv, c, w, kk⟩ => ⟨U, G0, G, T, sl, _, c, w, fun rs s1 hq G1 vs H1 e1 c1 => by
    show spOf (pxOf X) ms φ (vs ++ []) H1 Q E0
    rw [List.append_nil]
    exact call_ok (f := ⟨pxOf X, U, G0⟩) c1 hq (fun r s3 h G' v H' e' c' => kk _ _ h _ _ _ (e1.trans e') c') fun _ _ h => h.elim⟩
theorem v_call0 (F : FnOk X.prog X.w X.K X.mg X.base CX0 k g fd ps (spOf (pxOf X) ms φ)) (hr : Room k X.A) (hg : Gl X x) (hm : X.mg x = some (.ref g)) (hk : PySem.W.keepIn X.K (.ref g) = true) (hb : Binds X.K fd ps [])
    (hdb : (x == ("__debug__" : Str)) = false := by decide) : PV X (.Call (.Name x p) [] [] pos) (eCall φ ms aNil) :=
  PE.imp (pe_call0 F hr hg hm hk hb .nil pass0 hdb) fun σ H Q ⟨U, G0, G, T, sl, Qv, c, w, kk⟩ =>
    (call_ok (f := ⟨pxOf X, U, G0⟩) (vs := []) (rs := []) c w (fun r s3 h G' v H' e' c' => kk _ _ h _ _ _ e' c') fun _ _ h => h.elim : spOf (pxOf X) ms φ [] H Q E0)
end
end VV

/-! V8: statements; methods of lists; the rule for a def -/
namespace VV
open PySem PySem.Spec L2
open PyProof.Rows hiding St

/-- what is wanted behind a statement -/
structure Post where
  nx : Slots → Prop
  rt : R → Slots → Prop
  bk : Slots → Prop := fun _ => False
  ct : Slots → Prop := fun _ => False
  ex : Value → Slots → Prop := fun _ _ => False
abbrev WS := Slots → Post → Prop
structure PostOk (f : Fr) (G : Hp) (T : List (V × Ent)) (W : WX) (P : Post) (D : Ends) : Prop where
  nx : ∀ sl, P.nx sl → ∀ G' σ H, Same G G' → Rel f G' T sl σ H → D.nx σ H
  rt : ∀ r sl, P.rt r sl → ∀ G' σ H v, Same G G' → RelR f G' T v r sl σ H → D.rt v H
  bk : ∀ sl, P.bk sl → ∀ G' σ H, Same G G' → Rel f G' T sl σ H → D.bk σ H
  ct : ∀ sl, P.ct sl → ∀ G' σ H, Same G G' → Rel f G' T sl σ H → D.ct σ H
  ex : ∀ c sl, P.ex c sl → ∀ G' σ H d, Same G G' → Rel f G' T sl σ H → W c d σ H
theorem PostOk.mono {f : Fr} {G G' : Hp} {T : List (V × Ent)} {W : WX} {P : Post} {D : Ends} (h : PostOk f G T W P D) (s : Same G G') : PostOk f G' T W P D :=
  ⟨fun sl p G2 σ H e c => h.nx sl p G2 σ H (s.trans e) c, fun r sl p G2 σ H v e c => h.rt r sl p G2 σ H v (s.trans e) c, fun sl p G2 σ H e c => h.bk sl p G2 σ H (s.trans e) c,
   fun sl p G2 σ H e c => h.ct sl p G2 σ H (s.trans e) c, fun c' sl p G2 σ H d e c => h.ex c' sl p G2 σ H d (s.trans e) c⟩
def liftS (q : Px) (W : WX) (pn : List Nat) (w : WS) : TS := fun D σ H => ∃ U G0 G T sl P, G0.pin.map (·.1) = pn ∧ Rel ⟨q, U, G0⟩ G T sl σ H ∧ w sl P ∧ PostOk ⟨q, U, G0⟩ G T W P D
abbrev PVS (X : Cx) (W : WX) (pn : List Nat) (st : Stmt) (w : WS) : Prop := PS X st (liftS (pxOf X) W pn w)
abbrev PVSs (X : Cx) (W : WX) (pn : List Nat) (st : List Stmt) (w : WS) : Prop := PSs X st (liftS (pxOf X) W pn w)
theorem PS.imp {X : Cx} {st : Stmt} {t t' : TS} (h : PS X st t) (hh : ∀ D σ H, t' D σ H → t D σ H) : PS X st t' := ⟨fun pins s σ H D I q => h.run pins s σ H D I (hh _ _ _ q)⟩
theorem PSs.imp {X : Cx} {st : List Stmt} {t t' : TS} (h : PSs X st t) (hh : ∀ D σ H, t' D σ H → t D σ H) : PSs X st t' := ⟨fun pins s σ H D I q => h.run pins s σ H D I (hh _ _ _ q)⟩

def sNil : WS := fun sl P => P.nx sl
def sSeq (a b : WS) : WS := fun sl P => a sl { P with nx := fun s => b s P }
def sBrk : WS := fun sl P => P.bk sl
def sCnt : WS := fun sl P => P.ct sl
def sExp (w : WE) : WS := fun sl P => w sl fun _ s1 => P.nx s1
def sRet (w : WE) : WS := fun sl P => w sl fun r s1 => P.rt r s1
def sRetN : WS := fun sl P => P.rt (.e (.shr .none)) sl
def sIf (t : WT) (a b : WS) : WS := fun sl P => t sl fun c s1 => if c = true then a s1 P else b s1 P
/-- a result stored in slot i -/
def asg (i : Nat) (r : R) (sl : Slots) (k : Slots → Prop) : Prop := match r with
  | .e x => k (sl.set i (some x))
  | .al j => atS sl j (Ent.frz fun d => k ((sl.set j (some (.shr d))).set i (some (.shr d))))
def sSet (i : Nat) (w : WE) : WS := fun sl P => w sl fun r s1 => asg i r s1 P.nx
def sWhile (t : WT) (body : WS) : WS := fun sl P => ∃ I : Nat → Slots → Prop, (∃ m, I m sl) ∧ ∀ m s, I m s → t s fun b s1 =>
  if b = true then body s1 { P with nx := fun s' => ∃ m', m' < m ∧ I m' s', ct := fun s' => ∃ m', m' < m ∧ I m' s', bk := P.nx } else P.nx s1
section
variable {f : Fr} {G H : Hp} {T : List (V × Ent)} {sl : Slots} {σ : St} {v : V} {x : Ent} {i : Nat}
/-- a temporary goes to a name -/
theorem Rel.store (c : Rel f G ((v, x) :: T) sl σ H) (i : Nat) (hp : ∀ p ∈ f.G0.pin, p.1 ≠ i) : Rel f G T (sl.set i (some x)) (σ.set i (some v)) H := by
  refine ⟨?_, c.wf.set i v (some x) hp⟩
  by_cases hi : i < σ.length
  · have p := slotRes_put (σ := σ) (sl := sl) (i := i) (v := v) (e := x) hi c.wf.len
    refine Core.perm (L := T ++ ((v, x) :: slotRes σ (sl.set i none))) ?_ (p.symm.append_left T)
    -- the old one, if there is one, is dropped
    have c0 : Core f G ((v, x) :: T ++ slotRes σ (sl.set i none)) H := by
      cases e : sl[i]? with
      | none => rw [List.getElem?_eq_none_iff, c.wf.len] at e; omega
      | some o =>
        cases o with
        | none =>
          have : sl.set i none = sl := by
            apply List.ext_getElem?
            intro j
            by_cases h : j = i
            · subst h; rw [List.getElem?_set_self (by rw [c.wf.len]; exact hi), e]
            · rw [List.getElem?_set_ne (Ne.symm h)]
          rw [this]; exact c.core
        | some y =>
          obtain ⟨w, hw⟩ := c.wf.val i y e
          have := (c.out e hw).core
          exact Core.drop (v := w) (e := y) this
    exact c0.perm List.perm_middle.symm
  · have e1 : σ.set i (some v) = σ := List.set_eq_of_length_le (by omega)
    have e2 : sl.set i (some x) = sl := List.set_eq_of_length_le (by rw [c.wf.len]; omega)
    rw [e1, e2]
    exact c.core.drop
theorem RelR.store {r : R} (c : RelR f G T v r sl σ H) {k : Slots → Prop} (h : asg i r sl k) (hp : ∀ p ∈ f.G0.pin, p.1 ≠ i) : ∃ G' sl', Same G G' ∧ Rel f G' T sl' (σ.set i (some v)) H ∧ k sl' := by
  cases r with
  | e x => exact ⟨G, _, Same.refl _, Rel.store c i hp, h⟩
  | al j =>
    obtain ⟨x, hs, h⟩ := atS_iff h
    obtain ⟨d, hd, hk⟩ := Ent.frz_iff h
    have o := c.1.out hs c.2
    obtain ⟨G', s, c'⟩ := Core.freeze (show Core f G ((v, x) :: (T ++ slotRes σ (sl.set j none))) H from o.core) hd
    have c2 : Rel f G' T (sl.set j (some (.shr d))) σ H := Rel.put' ⟨c', o.wf⟩ (Rel.lt hs) c.2
    exact ⟨G', _, s, Rel.store (x := .shr d) ⟨c2.core.addShr (c'.shrd (by simp)), c2.wf⟩ i hp, hk⟩
/-- slot i holds a list of one's own: it may be changed -/
theorem Rel.ownSlot {ds : List PyData} (c : Rel f G T sl σ H) (hs : sl[i]? = some (some (.own ds))) (hv : σ[i]? = some (some v)) :
    ∃ p vs, v = .ref p ∧ H p = some (.lst vs) ∧ Reps f.q G vs ds ∧ ∀ vs' ds', Reps f.q G vs' ds' → Rel f G T (sl.set i (some (.own ds'))) σ (upd H p (.lst vs')) := by
  have o := c.out hs hv
  obtain ⟨p, rfl⟩ := Core.ownRef (show Core f G ((v, .own ds) :: (T ++ _)) H from o.core)
  obtain ⟨vs, hp, r⟩ := Core.ownAt (show Core f G ((.ref p, .own ds) :: (T ++ _)) H from o.core)
  refine ⟨p, vs, rfl, hp, r, fun vs' ds' r' => ?_⟩
  exact Rel.put' ⟨Core.setOwn (show Core f G ((.ref p, .own ds) :: (T ++ _)) H from o.core) r', o.wf⟩ (Rel.lt hs) hv
end
section
variable {X : Cx} {W : WX} {pn : List Nat} {st : Stmt} {rest : List Stmt} {a b : WS} {e : Expr} {w : WE} {t : WT} {pos pos' : Pos}
theorem ss_nil : PVSs X W pn [] sNil := PSs.imp pss_nil fun D σ H ⟨U, G0, G, T, sl, P, hpn, c, h, k⟩ => k.nx _ h G σ H (Same.refl _) c
theorem liftSeq {u1 u2 : TS} (h1 : ∀ D σ H, liftS (pxOf X) W pn a D σ H → u1 D σ H) (h2 : ∀ D σ H, liftS (pxOf X) W pn b D σ H → u2 D σ H) : ∀ D σ H, liftS (pxOf X) W pn (sSeq a b) D σ H → tSeq u1 u2 D σ H :=
  fun D σ H ⟨U, G0, G, T, sl, P, hpn, c, h, k⟩ => h1 _ _ _ ⟨U, G0, G, T, sl, _, hpn, c, h, ⟨fun s hq G' σ' H' e' c' => h2 _ _ _ ⟨U, G0, G', T, s, P, hpn, c', hq, k.mono e'⟩, k.rt, k.bk, k.ct, k.ex⟩⟩
theorem ss_cons (h1 : PVS X W pn st a) (h2 : PVSs X W pn rest b) : PVSs X W pn (st :: rest) (sSeq a b) := PSs.imp (pss_cons h1 h2) (liftSeq (fun _ _ _ h => h) fun _ _ _ h => h)
theorem ss_one (h1 : PVS X W pn st a) : PVSs X W pn [st] a := pss_one h1
theorem s_pass : PVS X W pn (.Pass pos) sNil := PS.imp ps_pass fun D σ H ⟨U, G0, G, T, sl, P, hpn, c, h, k⟩ => k.nx _ h G σ H (Same.refl _) c
theorem s_break : PVS X W pn (.Break pos) sBrk := PS.imp ps_break fun D σ H ⟨U, G0, G, T, sl, P, hpn, c, h, k⟩ => k.bk _ h G σ H (Same.refl _) c
theorem s_continue : PVS X W pn (.Continue pos) sCnt := PS.imp ps_continue fun D σ H ⟨U, G0, G, T, sl, P, hpn, c, h, k⟩ => k.ct _ h G σ H (Same.refl _) c
theorem s_exp (he : PV X e w) (hs : swapsWith e none pos.line X.env = pure false := by rfl) : PVS X W pn (.Expr e pos) (sExp w) :=
  PS.imp (ps_expr he hs) fun D σ H ⟨U, G0, G, T, sl, P, hpn, c, h, k⟩ => ⟨U, G0, G, T, sl, _, c, h, fun r s1 hq G' v H' e' c' => k.nx _ hq G' σ H' e' c'.base⟩
theorem s_ret (he : PV X e w) : PVS X W pn (.Return (some e) pos) (sRet w) :=
  PS.imp (ps_ret he) fun D σ H ⟨U, G0, G, T, sl, P, hpn, c, h, k⟩ => ⟨U, G0, G, T, sl, _, c, h, fun r s1 hq G' v H' e' c' => k.rt _ _ hq G' σ H' v e' c'⟩
theorem s_retN : PVS X W pn (.Return none pos) sRetN :=
  PS.imp ps_retN fun D σ H ⟨U, G0, G, T, sl, P, hpn, c, h, k⟩ => k.rt _ _ h G σ H .non (Same.refl _) ⟨c.core.addShr .non, c.wf⟩
theorem s_if {x : Expr} {xs ys : List Stmt} (hc : PVT X x t) (ha : PVSs X W pn xs a) (hb : PVSs X W pn ys b) : PVS X W pn (.If x xs ys pos) (sIf t a b) :=
  PS.imp (ps_if hc ha hb) fun D σ H ⟨U, G0, G, T, sl, P, hpn, c, h, k⟩ => ⟨U, G0, G, T, sl, _, c, h, fun b s1 hq G' H' e' c' => by
    cases b with
    | true => exact ⟨U, G0, G', T, s1, P, hpn, c', hq, k.mono e'⟩
    | false => exact ⟨U, G0, G', T, s1, P, hpn, c', hq, k.mono e'⟩⟩
theorem pin_ne {pin : List (Nat × V)} {i : Nat} (h : pin.map (·.1) = pn) (hn : i ∉ pn) : ∀ p ∈ pin, p.1 ≠ i := fun p hp e => hn (by rw [← h, ← e]; exact List.mem_map_of_mem hp)
theorem s_set {i : Nat} {x : Str} (hnp : i ∉ pn) (hN : X.N.Nodup) (hi : X.N[i]? = some x) (hx : Loc X.env.scope x) (he : PV X e w) (hs : swapsWith e (some (.Name x pos')) pos.line X.env = pure false := by rfl) (hf : X.fn x = true ∨ X.env.scope.names.lookup x = some .local := by first | exact .inl rfl | exact .inr rfl | assumption) :
    PVS X W pn (.Assign [.Name x pos'] e pos) (sSet i w) :=
  PS.imp (ps_set hN hi hx he hs hf) fun D σ H ⟨U, G0, G, T, sl, P, hpn, c, h, k⟩ => ⟨U, G0, G, T, sl, _, c, h, fun r s1 hq G' v H' e' c' => by
    obtain ⟨G2, s2, e2, c2, hk⟩ := c'.store hq (pin_ne hpn hnp)
    exact k.nx _ hk _ _ _ (e'.trans e2) c2⟩
theorem s_while {x : Expr} {body : List Stmt} (hp : PassesOwn (model X.prog X.w) X.A X.env X.xe) (hc : PVT X x t) (hb : PVSs X W pn body a) : PVS X W pn (.While x body [] pos) (sWhile t a) :=
  PS.imp (ps_while hp hc hb) fun D σ H ⟨U, G0, G, T, sl, P, hpn, c, ⟨I, ⟨m0, h0⟩, hI⟩, k⟩ => by
    refine ⟨fun m σ' H' => ∃ G' s', Same G G' ∧ Rel ⟨pxOf X, U, G0⟩ G' T s' σ' H' ∧ I m s', ⟨m0, G, sl, Same.refl _, c, h0⟩, ?_⟩
    rintro m σ' H' ⟨G', s', e', c', hi⟩
    refine ⟨U, G0, G', T, s', _, c', hI m s' hi, fun b s1 hq G2 H2 e2 c2 => ?_⟩
    cases b with
    | true =>
      have hq : a s1 _ := hq
      refine ⟨fun σ3 H3 => ∃ m', m' < m ∧ ∃ G3 s3, Same G G3 ∧ Rel ⟨pxOf X, U, G0⟩ G3 T s3 σ3 H3 ∧ I m' s3, fun σ3 H3 h => h, U, G0, G2, T, s1, _, hpn, c2, hq, ?_⟩
      have kk := k.mono (e'.trans e2)
      exact ⟨fun s ⟨m', hm, hi⟩ G3 σ3 H3 e3 c3 => ⟨m', hm, G3, s, (e'.trans e2).trans e3, c3, hi⟩, kk.rt, fun s h G3 σ3 H3 e3 c3 => kk.nx _ h _ _ _ e3 c3, fun s ⟨m', hm, hi⟩ G3 σ3 H3 e3 c3 => ⟨m', hm, G3, s, (e'.trans e2).trans e3, c3, hi⟩, kk.ex⟩
    | false => exact k.nx _ hq _ _ _ (e'.trans e2) c2
/-- name op= e (ints) -/
def sAugI (i : Nat) (g : Int → Int → Int) (w : WE) : WS := fun sl P => atS sl i (Ent.dat (intD fun x => w sl fun r s1 => datR s1 r (intD fun y => P.nx (s1.set i (some (.shr (.int (g x y))))))))
theorem s_augI {i : Nat} {x : Str} {op : Operator} {g : Int → Int → Int} (hnp : i ∉ pn) (hN : X.N.Nodup) (hi : X.N[i]? = some x) (hx : Loc X.env.scope x) (he : PV X e w) (ho : PIp X op (ipI g)) (hf : X.fn x = true ∨ X.env.scope.names.lookup x = some .local := by first | exact .inl rfl | exact .inr rfl | assumption) :
    PVS X W pn (.AugAssign (.Name x pos') op e pos) (sAugI i g w) :=
  PS.imp (ps_aug hN hi hx he ho hf) fun D σ H ⟨U, G0, G, T, sl, P, hpn, c, h, k⟩ => by
    obtain ⟨y, hs, h⟩ := atS_iff h
    obtain ⟨v, hv⟩ := c.wf.val i y hs
    obtain ⟨d, hd, h⟩ := Ent.dat_iff h
    have rv := c.read hs hv hd
    cases d <;> try exact (show False from h).elim
    rename_i n
    cases ints_of rv
    refine ⟨_, hv, U, G0, G, T, sl, _, c, h, fun r s1 hq G' v' H' e' c' => ?_⟩
    obtain ⟨d2, hd2, hq⟩ := c'.dat hq
    cases d2 <;> try exact (show False from hq).elim
    exact ⟨_, _, rfl, ints_of hd2, k.nx _ hq _ _ _ e' (Rel.store (v := .int _) (x := .shr (.int _)) ⟨c'.base.core.addShr (.int _), c'.base.wf⟩ i (pin_ne hpn hnp))⟩
end

/-! ### methods of lists -/
abbrev MV := R → List R → Slots → (R → Slots → Prop) → Prop
def liftM (q : Px) (o : MV) : V → List V → Hp → VK → Prop := fun x xs H Q => ∃ U G0 G T sl σ rx rs Qv, RelRs ⟨q, U, G0⟩ G T (x :: xs) (rx :: rs) sl σ H ∧ o rx rs sl Qv ∧ ∀ r sl', Qv r sl' → ∀ G' v H', Same G G' → RelR ⟨q, U, G0⟩ G' T v r sl' σ H' → Q v H'
def isTy (T : String) (d : PyData) : Prop := match d with
  | .str _ => T = "str"
  | .int _ => T = "int"
  | .list _ => T = "list"
  | _ => False
def eMt (T : String) (o : MV) (w : WE) (wa : WA) : WE := fun sl Q => w sl fun r s1 => datR s1 r fun d => isTy T d ∧ wa s1 fun rs s2 => o r rs s2 Q
section
variable {X : Cx} {o e : Expr} {es : List Expr} {w : WE} {wa : WA} {name : Str} {apos cpos : Pos} {T id : String} {m : MV}
theorem tyV_of {q : Px} {H : Hp} {x : V} {d : PyData} (h : Rep q H x d) (ht : isTy T d) : tyV q.K T x H := by
  cases h with
  | int _ => exact ht
  | str _ => exact ht
  | lst h _ => exact .inl ⟨ht, _, h⟩
  | _ => exact (show False from ht).elim
theorem v_mt (pa : PlainAttrs T) (slot : Slot T name id) (hty : typeOf (.builtin id) = pure (.type "method_descriptor")) (hm : MtR X id (liftM (pxOf X) m)) (ho : PV X o w) (ha : PVA X (e :: es) wa)
    (hbase : attributeBase o name X.env (eval o X.env) = eval o X.env := by rfl)
    (hfew : ((backTo cpos (starEach (e :: es) X.env)).all (fun x => !x.1) && (backToKw cpos (keywordEach [] X.env)).all (fun x => x.1.isSome)
      && decide ((e :: es).length + ([] : List Keyword).length + (if ([] : List Keyword).isEmpty then 0 else 1) < 30)) = true := by rfl)
    (hline : (apos.endLine == cpos.line) = true := by rfl) (hs : starEach (e :: es) X.env = (false, eval e X.env) :: starEach es X.env := by rfl) (hplain : (backTo cpos (starEach es X.env)).any (·.1) = false := by rfl) :
    PV X (.Call (.Attribute o name apos) (e :: es) [] cpos) (eMt T m w wa) :=
  PE.imp (pe_bm pa slot hty hm ho ha hbase hfew hline hs hplain) fun σ H Q ⟨U, G0, G, T', sl, Qv, c, h, k⟩ => ⟨U, G0, G, T', sl, _, c, h, fun r s1 hq G' x H' e' c' => by
    obtain ⟨d, hd, ht, hq⟩ := c'.dat hq
    refine ⟨tyV_of hd ht, ?_⟩
    cases r with
    | e y => exact ⟨U, G0, G', (x, y) :: T', s1, _, c', hq, fun rs s2 hq2 G2 vs H2 e2 c2 => ⟨U, G0, G2, T', s2, σ, .e y, rs, _, c2, hq2, fun r s3 h3 G3 v H3 e3 c3 => k _ _ h3 _ _ _ (e'.trans (e2.trans e3)) c3⟩⟩
    | al i => exact ⟨U, G0, G', T', s1, _, c'.1, hq, fun rs s2 hq2 G2 vs H2 e2 c2 => ⟨U, G0, G2, T', s2, σ, .al i, rs, _, ⟨c'.2, c2⟩, hq2, fun r s3 h3 G3 v H3 e3 c3 => k _ _ h3 _ _ _ (e'.trans (e2.trans e3)) c3⟩⟩⟩
theorem v_mt0 (pa : PlainAttrs T) (slot : Slot T name id) (hty : typeOf (.builtin id) = pure (.type "method_descriptor")) (hm : MtR X id (liftM (pxOf X) m)) (ho : PV X o w)
    (hbase : attributeBase o name X.env (eval o X.env) = eval o X.env := by rfl) (hline : (apos.endLine == cpos.line) = true := by rfl) : PV X (.Call (.Attribute o name apos) [] [] cpos) (eMt T m w aNil) :=
  PE.imp (pe_bm0 pa slot hty hm ho hbase hline) fun σ H Q ⟨U, G0, G, T', sl, Qv, c, h, k⟩ => ⟨U, G0, G, T', sl, _, c, h, fun r s1 hq G' x H' e' c' => by
    obtain ⟨d, hd, ht, hq⟩ := c'.dat hq
    refine ⟨tyV_of hd ht, ?_⟩
    cases r with
    | e y => exact ⟨U, G0, G', T', s1, σ, .e y, [], _, c', hq, fun r s3 h3 G3 v H3 e3 c3 => k _ _ h3 _ _ _ (e'.trans e3) c3⟩
    | al i => exact ⟨U, G0, G', T', s1, σ, .al i, [], _, ⟨c'.2, c'.1⟩, hq, fun r s3 h3 G3 v H3 e3 c3 => k _ _ h3 _ _ _ (e'.trans e3) c3⟩⟩
def mAppend : MV := fun r rs sl Q => match r, rs with
  | .al i, [ra] => frzR sl ra fun d s2 => ownS i (fun ds => ds.length < sizeLine ∧ Q (.e (.shr .none)) (s2.set i (some (.own (ds ++ [d]))))) s2
  | _, _ => False
def mExtend : MV := fun r rs sl Q => match r, rs with
  | .al i, [ra] => ownR sl ra fun es => ownS i (fun ds => ds.length + es.length ≤ sizeLine ∧ Q (.e (.shr .none)) (sl.set i (some (.own (ds ++ es))))) sl
  | _, _ => False
def mInsert : MV := fun r rs sl Q => match r, rs with
  | .al i, [.e (.shr (.int j)), ra] => frzR sl ra fun d s2 => ownS i (fun ds => ds.length < sizeLine ∧ 0 ≤ j ∧ j < 2 ^ 63 ∧ Q (.e (.shr .none)) (s2.set i (some (.own (ds.take j.toNat ++ [d] ++ ds.drop j.toNat))))) s2
  | _, _ => False
def mPop : MV := fun r rs sl Q => match r, rs with
  | .al i, [] => ownS i (fun ds => ∃ d, ds[ds.length - 1]? = some d ∧ Q (.e (.shr d)) (sl.set i (some (.own ds.dropLast)))) sl
  | _, _ => False
def mPopAt : MV := fun r rs sl Q => match r, rs with
  | .al i, [.e (.shr (.int j))] => ownS i (fun ds => -(2 ^ 63) ≤ j ∧ j < 2 ^ 63 ∧ ∃ k d, seqIndex? j ds.length = some k ∧ ds[k]? = some d ∧ Q (.e (.shr d)) (sl.set i (some (.own (ds.eraseIdx k))))) sl
  | _, _ => False
theorem MtR.imp {r r' : V → List V → Hp → VK → Prop} (h : MtR X id r) (hh : ∀ x xs H Q, r' x xs H Q → r x xs H Q) : MtR X id r' := fun pins s σ H x xs v us Q I rx rxs q => h pins s σ H x xs v us Q I rx rxs (hh _ _ _ _ q)
theorem Reps.snoc {q : Px} {H : Hp} {vs : List V} {ds : List PyData} {v : V} {d : PyData} (r : Reps q H vs ds) (h : Rep q H v d) : Reps q H (vs ++ [v]) (ds ++ [d]) := r.append (.cons h .nil)
theorem Reps.dropLast {q : Px} {H : Hp} {vs : List V} {ds : List PyData} (r : Reps q H vs ds) : Reps q H vs.dropLast ds.dropLast := by
  rw [List.dropLast_eq_take, List.dropLast_eq_take, r.length]; exact r.take _
theorem m_append : MtR X "list.append" (liftM (pxOf X) mAppend) := MtR.imp mt_append fun x xs H Q ⟨U, G0, G, T, sl, σ, rx, rs, Qv, c, w, k⟩ => by
  cases rx with
  | e _ => exact (show False from w).elim
  | al i =>
    match rs, xs, w, c with
    | [ra], [y], w, c =>
      have cy : RelR ⟨pxOf X, U, G0⟩ G T y ra sl σ H := by cases ra with | e _ => exact c.2 | al _ => exact ⟨c.2.2, c.2.1⟩
      have w : frzR sl ra (fun d s2 => ownS i (fun ds => ds.length < sizeLine ∧ Qv (.e (.shr .none)) (s2.set i (some (.own (ds ++ [d]))))) s2) := w
      obtain ⟨G', d, s2, e1, c1, rd, w⟩ := cy.frz w
      obtain ⟨ds, hs, hz, w⟩ := ownS_iff w
      obtain ⟨p, vs, rfl, hp, r, put⟩ := c1.ownSlot hs c.1
      exact ⟨p, vs, y, rfl, rfl, hp, by rw [r.length]; exact hz, k _ _ w _ _ _ e1 ⟨(put _ _ (r.snoc rd)).core.addShr .non, (put _ _ (r.snoc rd)).wf⟩⟩
    | [ra], y :: z :: zs, w, c => cases ra with | e _ => exact (show False from c.2).elim | al _ => exact (show False from c.2.2).elim
theorem m_extend : MtR X "list.extend" (liftM (pxOf X) mExtend) := MtR.imp mt_extend fun x xs H Q ⟨U, G0, G, T, sl, σ, rx, rs, Qv, c, w, k⟩ => by
  cases rx with
  | e _ => exact (show False from w).elim
  | al i =>
    match rs, xs, w, c with
    | [ra], [y], w, c =>
      have cy : RelR ⟨pxOf X, U, G0⟩ G T y ra sl σ H := by cases ra with | e _ => exact c.2 | al _ => exact ⟨c.2.2, c.2.1⟩
      obtain ⟨b, us, es, rfl, hb, rb, w⟩ := ownR_of cy w
      obtain ⟨ds, hs, hz, w⟩ := ownS_iff w
      obtain ⟨p, vs, rfl, hp, r, put⟩ := cy.base.ownSlot hs c.1
      exact ⟨p, b, vs, us, rfl, rfl, hp, hb, by rw [r.length, rb.length]; exact hz, k _ _ w _ _ _ (Same.refl _) ⟨(put _ _ (r.append rb)).core.addShr .non, (put _ _ (r.append rb)).wf⟩⟩
    | [ra], y :: z :: zs, w, c => cases ra with | e _ => exact (show False from c.2).elim | al _ => exact (show False from c.2.2).elim
end
end VV

/-! V9: the rule for a def -/
namespace VV
open PySem PySem.Spec L2
open PyProof.Rows hiding St

/-- the slots of the parameters that are changed -/
def pnOf : Nat → List Mode → List Nat
  | _, [] => []
  | j, .mu :: ms => j :: pnOf (j + 1) ms
  | j, _ :: ms => pnOf (j + 1) ms
def pinsOf : Nat → List Mode → List V → List (Nat × V)
  | j, .mu :: ms, v :: vs => (j, v) :: pinsOf (j + 1) ms vs
  | j, _ :: ms, _ :: vs => pinsOf (j + 1) ms vs
  | _, _, _ => []
theorem pins_fst : ∀ (ms : List Mode) (vs : List V) (j : Nat), vs.length = ms.length → (pinsOf j ms vs).map (·.1) = pnOf j ms
  | [], [], _, _ => rfl
  | [], _ :: _, _, h => by simp at h
  | _ :: _, [], _, h => by simp at h
  | .mu :: ms, v :: vs, j, h => by simp only [pinsOf, pnOf, List.map_cons]; rw [pins_fst ms vs (j + 1) (by simpa using h)]
  | .rd :: ms, v :: vs, j, h => pins_fst ms vs (j + 1) (by simpa using h)
  | .sh :: ms, v :: vs, j, h => pins_fst ms vs (j + 1) (by simpa using h)
  | .gv :: ms, v :: vs, j, h => pins_fst ms vs (j + 1) (by simpa using h)
theorem pins_at : ∀ (ms : List Mode) (vs : List V) (j : Nat) (pre : List V) (rest : St), pre.length = j → ∀ p ∈ pinsOf j ms vs, ((pre ++ vs).map some ++ rest)[p.1]? = some (some p.2)
  | [], _, _, _, _, _, p, hp => by simp [pinsOf] at hp
  | _ :: _, [], _, _, _, _, p, hp => by simp [pinsOf] at hp
  | m :: ms, v :: vs, j, pre, rest, hj, p, hp => by
    have step : ∀ p ∈ pinsOf (j + 1) ms vs, ((pre ++ v :: vs).map some ++ rest)[p.1]? = some (some p.2) := fun p hp => by
      have := pins_at ms vs (j + 1) (pre ++ [v]) rest (by simp [hj]) p hp
      simpa using this
    cases m with
    | mu =>
      rcases List.mem_cons.mp hp with rfl | hp
      · subst hj; simp
      · exact step p hp
    | rd => exact step p hp
    | sh => exact step p hp
    | gv => exact step p hp
def startS (n : Nat) (es : List Ent) : Slots := es.map some ++ List.replicate (n - es.length) none
theorem slotRes_start : ∀ (vs : List V) (es : List Ent) (k : Nat), vs.length = es.length → slotRes (vs.map some ++ List.replicate k none) (es.map some ++ List.replicate k none) = vs.zip es
  | [], [], k, _ => by
    simp only [List.map_nil, List.nil_append, List.zip_nil_left]
    induction k with
    | zero => rfl
    | succ k ih => simp [List.replicate_succ, slotRes, ih]
  | v :: vs, e :: es, k, h => by
    simp only [List.map_cons, List.cons_append, slotRes, List.zip_cons_cons]
    rw [slotRes_start vs es k (by simpa using h)]
  | [], _ :: _, _, h => by simp at h
  | _ :: _, [], _, h => by simp at h
/-- a result that leaves: a borrowed one only if it is solid -/
def retR (sl : Slots) (r : R) (k : Ent → Slots → Prop) : Prop := match r with
  | .e (.bor d) => Sol d ∧ k (.shr d) sl
  | .e x => x.nb ∧ k x sl
  | .al i => atS sl i fun x => x.nb ∧ k x (sl.set i none)
def mutsOf : Nat → List Mode → Slots → (List Ent → Prop) → Prop
  | _, [], _, k => k []
  | j, .mu :: ms, sl, k => atS sl j fun x => x.nb ∧ mutsOf (j + 1) ms (sl.set j none) fun rs => k (x :: rs)
  | j, _ :: ms, sl, k => mutsOf (j + 1) ms sl k
def endR (ms : List Mode) (Q : Ent → List Ent → Prop) (r : R) (sl : Slots) : Prop := retR sl r fun x s1 => mutsOf 0 ms s1 fun rs => Q x rs
def endP (ms : List Mode) (Q : Ent → List Ent → Prop) (E : Value → List Ent → Prop) : Post := { nx := fun sl => endR ms Q (.e (.shr .none)) sl, rt := fun r sl => endR ms Q r sl, ex := fun c sl => mutsOf 0 ms sl fun rs => E c rs }
section
variable {f : Fr} {G H : Hp} {T : List (V × Ent)} {sl : Slots} {σ : St} {v : V}
theorem RelR.ret {r : R} (c : RelR f G T v r sl σ H) {k : Ent → Slots → Prop} (h : retR sl r k) : ∃ x sl', Rel f G ((v, x) :: T) sl' σ H ∧ x.nb ∧ k x sl' := by
  cases r with
  | e x =>
    cases x with
    | bor d =>
      have rp := c.core.bord (v := v) (d := d) (by simp)
      exact ⟨.shr d, sl, ⟨c.base.core.addShr (Rep.solid c.core.tU c.core.fU h.1 rp), c.wf⟩, trivial, h.2⟩
    | _ => exact ⟨_, sl, c, h.1, h.2⟩
  | al i =>
    obtain ⟨x, hs, hn, h⟩ := atS_iff h
    exact ⟨x, _, c.1.out hs c.2, hn, h⟩
theorem muts_ok : ∀ {ms : List Mode} {vs : List V} {j : Nat} {sl : Slots} {k : List Ent → Prop} {T : List (V × Ent)}, vs.length = ms.length → (∀ p ∈ pinsOf j ms vs, σ[p.1]? = some (some p.2)) → mutsOf j ms sl k → Rel f G T sl σ H →
    ∃ rs sl', (muts ms vs).length = rs.length ∧ Ent.nbs rs ∧ Rel f G ((muts ms vs).zip rs ++ T) sl' σ H ∧ k rs
  | [], [], j, sl, k, T, _, _, h, c => ⟨[], sl, rfl, trivial, c, h⟩
  | [], _ :: _, _, _, _, _, h, _, _, _ => by simp at h
  | _ :: _, [], _, _, _, _, h, _, _, _ => by simp at h
  | .rd :: ms, v :: vs, j, sl, k, T, hl, hp, h, c => muts_ok (ms := ms) (vs := vs) (by simpa using hl) hp h c
  | .sh :: ms, v :: vs, j, sl, k, T, hl, hp, h, c => muts_ok (ms := ms) (vs := vs) (by simpa using hl) hp h c
  | .gv :: ms, v :: vs, j, sl, k, T, hl, hp, h, c => muts_ok (ms := ms) (vs := vs) (by simpa using hl) hp h c
  | .mu :: ms, v :: vs, j, sl, k, T, hl, hp, h, c => by
    obtain ⟨x, hs, hn, h⟩ := atS_iff h
    have hv := hp (j, v) (by simp [pinsOf])
    have c1 := c.out hs hv
    obtain ⟨rs, s2, e1, n1, c2, hk⟩ := muts_ok (ms := ms) (vs := vs) (T := (v, x) :: T) (by simpa using hl) (fun p hm => hp p (by simp [pinsOf, hm])) h c1
    exact ⟨x :: rs, s2, by simp [muts, e1], ⟨hn, n1⟩, ⟨c2.core.perm ((List.perm_middle (l₁ := (muts ms vs).zip rs) (a := (v, x)) (l₂ := T)).append_right _), c2.wf⟩, hk⟩
theorem Core.recx {q : Px} {U G H : Hp} {L} {o : Hp} {a b : List (Nat × V)} (c : Core ⟨q, U, ⟨o, a⟩⟩ G L H) : Core ⟨q, U, ⟨o, b⟩⟩ G L H := ⟨c.sU, c.sG, c.tups, c.frzs, c.new, c.res⟩
end
section
variable {P : Program} {w : World} {K : PySem.W.Frag} {mg : Str → Option Value} {base : Heap}
theorem body_ok {N : List Str} {ms : List Mode} {φ : FS} {wb : WS} {W : WX} (F : (Value → List Ent → Prop) → Value → List Ent → Prop) (hN : ms.length ≤ N.length) (hw : ∀ es Q E, φ es Q E → es.length = ms.length → wb (startS N.length es) (endP ms Q (F E))) {vs : List V} {H : Hp} {Q : VK} {E : XK} (h : spOf ⟨P, w, K⟩ ms φ vs H Q E)
    (hW : ∀ Ev c rs, F Ev c rs → Ev c rs ∧ ∀ d σ H', E c d H' → W c d σ H') : liftS ⟨P, w, K⟩ W (pnOf 0 ms) wb { nx := fun _ H' => Q .non H', rt := Q } (L2.start N vs) H := by
  obtain ⟨U, G, es, Qv, Ev, hl, hl2, c, hφ, hQ, hE⟩ := h
  have e1 : N.length - vs.length = N.length - es.length := by rw [hl, hl2]
  have wf : Wf (pinsOf 0 ms vs) (startS N.length es) (L2.start N vs) := by
    refine ⟨?_, fun i e h => ?_, fun p hp => ?_⟩
    · unfold startS L2.start; simp [hl, hl2]
    · have hi : i < es.length := by
        unfold startS at h
        by_cases hi : i < es.length
        · exact hi
        · rw [List.getElem?_append_right (by simpa using hi), List.getElem?_replicate] at h
          split at h <;> cases h
      refine ⟨vs[i]'(by omega), ?_⟩
      unfold L2.start
      rw [List.getElem?_append_left (by simp; omega)]
      simp
    · exact pins_at ms vs 0 [] _ rfl p hp
  have cr : Rel ⟨⟨P, w, K⟩, U, ⟨G, pinsOf 0 ms vs⟩⟩ G [] (startS N.length es) (L2.start N vs) H := by
    refine ⟨?_, wf⟩
    unfold startS L2.start
    rw [e1, List.nil_append, slotRes_start vs es _ (by omega)]
    exact c.recx
  refine ⟨U, ⟨G, pinsOf 0 ms vs⟩, G, [], _, _, pins_fst ms vs 0 hl, cr, hw es Qv Ev hφ hl2, ?_⟩
  have fin : ∀ r sl, endR ms Qv r sl → ∀ G' σ H' v, Same G G' → RelR ⟨⟨P, w, K⟩, U, ⟨G, pinsOf 0 ms vs⟩⟩ G' [] v r sl σ H' → Q v H' := fun r sl h G' σ H' v e' c' => by
    obtain ⟨x, s1, c1, hn, h⟩ := c'.ret h
    obtain ⟨rs, s2, e2, n2, c2, h⟩ := muts_ok (vs := vs) hl (fun p hp => c1.wf.pin p hp) h c1
    refine hQ x rs h G' v H' e' e2 hn n2 ?_
    have c3 := c2.core
    have p : ((muts ms vs).zip rs ++ [(v, x)] ++ slotRes σ s2).Perm (slotRes σ s2 ++ ((v, x) :: (muts ms vs).zip rs)) := by
      refine List.perm_append_comm.trans (List.Perm.append_left _ ?_)
      exact List.perm_append_comm
    exact (Core.sub (c3.perm p)).recx
  refine ⟨fun sl h G' σ H' e' c' => ?_, fun r sl h G' σ H' v e' c' => fin r sl h G' σ H' v e' c', fun sl h => h.elim, fun sl h => h.elim, fun c sl h G' σ H' d e' c' => ?_⟩
  · exact fin (.e (.shr .none)) sl h G' σ H' .non e' ⟨c'.core.addShr .non, c'.wf⟩
  · obtain ⟨rs, s2, e2, n2, c2, h⟩ := muts_ok (vs := vs) hl (fun p hp => c'.wf.pin p hp) h c'
    obtain ⟨h, hW⟩ := hW _ _ _ h
    refine hW _ _ _ (hE c rs h G' d H' e' e2 n2 ?_)
    have c3 := c2.core
    exact (Core.sub (L := slotRes σ s2) (c3.perm (by rw [List.append_nil]; exact List.perm_append_comm))).recx
/-- a def that raises nothing -/
theorem fn_v {x qual : Str} {st : Stmt} {f : Addr} {fd : FuncData} {N ps : List Str} {k : Nat} {ms : List Mode} {φ : FS} {wb : WS} (F : Fun K x qual st f fd) (S : FnScope N ps (defScope st)) (hms : ms.length = ps.length)
    (hw : ∀ es Q E, φ es Q E → es.length = ms.length → wb (startS N.length es) (endP ms Q fun _ _ => False))
    (hb : ∀ (cdv : Value) (A : Around) (outer : List Env) (s : Shared) (H : Hp) (E : XK), Room k (A.deeper (envOfC qual (defScope st) s.heap.objs.size f cdv)) →
      PVSs (cxOf CX0 P w K mg base N qual (defScope st) f cdv A outer s H E).nox (fun _ _ _ _ => False) (pnOf 0 ms) (defBody st) wb) : FnOk P w K mg base CX0 (k + 1) f fd ps (spOf ⟨P, w, K⟩ ms φ) := by
  have hN : ms.length ≤ N.length := by have := congrArg List.length S.pre; rw [List.length_take] at this; omega
  refine F.ok S (fun vs H Q E h => ?_) fun cdv A outer s H vs Q E hr h => ?_
  · obtain ⟨_, _, _, _, _, hl, _⟩ := h
    rw [hl, hms]
  · refine ⟨_, hb cdv A outer s H E hr, ?_⟩
    exact body_ok (fun _ _ _ => False) hN hw h fun _ _ _ h => h.elim
/-- a def that may raise -/
theorem fn_x {x qual : Str} {st : Stmt} {f : Addr} {fd : FuncData} {N ps : List Str} {k : Nat} {ms : List Mode} {φ : FS} {wb : WS} (F : Fun K x qual st f fd) (S : FnScope N ps (defScope st)) (hms : ms.length = ps.length)
    (hw : ∀ es Q E, φ es Q E → es.length = ms.length → wb (startS N.length es) (endP ms Q E))
    (hb : ∀ (cdv : Value) (A : Around) (outer : List Env) (s : Shared) (H : Hp) (E : XK), Room k (A.deeper (envOfC qual (defScope st) s.heap.objs.size f cdv)) →
      PVSs (cxOf (L2.CX P w) P w K mg base N qual (defScope st) f cdv A outer s H E) (fun c d _ H' => E c d H') (pnOf 0 ms) (defBody st) wb) : FnOk P w K mg base (L2.CX P w) (k + 1) f fd ps (spOf ⟨P, w, K⟩ ms φ) := by
  have hN : ms.length ≤ N.length := by have := congrArg List.length S.pre; rw [List.length_take] at this; omega
  refine F.okX S (fun vs H Q E h => ?_) fun cdv A outer s H vs Q E hr h => ?_
  · obtain ⟨_, _, _, _, _, hl, _⟩ := h
    rw [hl, hms]
  · refine ⟨_, hb cdv A outer s H E hr, ?_⟩
    exact body_ok (fun E => E) hN hw h fun _ _ _ h => ⟨h, fun _ _ _ h => h⟩
end
end VV

/-! V10: what is walked; targets; for; comprehensions -/
namespace VV
open PySem PySem.Spec L2
open PyProof.Rows hiding St

/-! ### targets -/
abbrev TGv := Ent → Slots → (Slots → Prop) → Prop
/-- the slots ss alone change -/
def liftG (q : Px) (pn ss : List Nat) (g : TGv) : TG := fun v σ H Q => ∃ U G0 G T e sl Qv, G0.pin.map (·.1) = pn ∧ Rel ⟨q, U, G0⟩ G ((v, e) :: T) sl σ H ∧ g e sl Qv ∧
  ∀ sl', Qv sl' → ∀ G' σ' H', Same G G' → σ'.length = σ.length → (∀ j, j ∉ ss → σ'[j]? = σ[j]?) → Rel ⟨q, U, G0⟩ G' T sl' σ' H' → Q σ' H'
abbrev PVG (X : Cx) (pn ss : List Nat) (tg : Expr) (g : TGv) : Prop := PG X tg (liftG (pxOf X) pn ss g)
abbrev TGvs := List Ent → Slots → (Slots → Prop) → Prop
def liftGs (q : Px) (pn ss : List Nat) (g : TGvs) : TGs := fun vs σ H Q => ∃ U G0 G T es sl Qv, G0.pin.map (·.1) = pn ∧ vs.length = es.length ∧ Rel ⟨q, U, G0⟩ G (vs.zip es ++ T) sl σ H ∧ g es sl Qv ∧
  ∀ sl', Qv sl' → ∀ G' σ' H', Same G G' → σ'.length = σ.length → (∀ j, j ∉ ss → σ'[j]? = σ[j]?) → Rel ⟨q, U, G0⟩ G' T sl' σ' H' → Q σ' H'
abbrev PVGs (X : Cx) (pn ss : List Nat) (tg : List Expr) (g : TGvs) : Prop := PGs X tg (liftGs (pxOf X) pn ss g)
theorem PG.imp {X : Cx} {tg : Expr} {t t' : TG} (h : PG X tg t) (hh : ∀ v σ H Q, t' v σ H Q → t v σ H Q) : PG X tg t' := ⟨fun pins s σ H v u Q I r q => h.run pins s σ H v u Q I r (hh _ _ _ _ q)⟩
theorem PGs.imp {X : Cx} {tg : List Expr} {t t' : TGs} (h : PGs X tg t) (hh : ∀ v σ H Q, t' v σ H Q → t v σ H Q) : PGs X tg t' := ⟨fun pins s σ H v u Q I r q => h.run pins s σ H v u Q I r (hh _ _ _ _ q)⟩
def gNm (i : Nat) : TGv := fun e sl Q => Q (sl.set i (some e))
def gsNil : TGvs := fun es sl Q => es = [] ∧ Q sl
def gsCons (g : TGv) (gs : TGvs) : TGvs := fun es sl Q => match es with
  | e :: es => g e sl fun s1 => gs es s1 Q
  | [] => False
/-- the items of a tuple entry -/
def tupE (e : Ent) (k : List Ent → Prop) : Prop := match e with
  | .shr (.tuple ds) => k (ds.map .shr)
  | .bor (.tuple ds) => k (ds.map .bor)
  | .tup es => k es
  | _ => False
def gTp (n : Nat) (gs : TGvs) : TGv := fun e sl Q => tupE e fun es => es.length = n ∧ gs es sl Q
theorem Core.zipShr {f : Fr} {G H : Hp} : ∀ {vs : List V} {ds : List PyData} {L : List (V × Ent)}, Reps f.q G vs ds → Core f G L H → Core f G (vs.zip (ds.map .shr) ++ L) H
  | _, _, L, .nil, c => c
  | _, _, L, .cons h r, c => (Core.zipShr r c).addShr h
theorem Core.zipBor {f : Fr} {G H : Hp} : ∀ {vs : List V} {ds : List PyData} {L : List (V × Ent)}, Reps f.q f.U vs ds → Core f G L H → Core f G (vs.zip (ds.map .bor) ++ L) H
  | _, _, L, .nil, c => c
  | _, _, L, .cons h r, c => (Core.zipBor r c).addBor h
theorem Core.unTup {f : Fr} {G H : Hp} {v : V} {e : Ent} {L : List (V × Ent)} {k : List Ent → Prop} (c : Core f G ((v, e) :: L) H) (h : tupE e k) : ∃ a vs es, v = .ref a ∧ SqT f.q.K H a vs ∧ vs.length = es.length ∧ Core f G (vs.zip es ++ L) H ∧ k es := by
  cases e with
  | shr d =>
    cases d with
    | tuple ds =>
      cases c.shrd (v := v) (d := .tuple ds) (by simp) with
      | tup h1 h2 => exact ⟨_, _, ds.map .shr, rfl, Same.seqT c.sG h1, by simp [h2.length], Core.zipShr h2 c.drop, h⟩
    | _ => exact (show False from h).elim
  | bor d =>
    cases d with
    | tuple ds =>
      cases c.bord (v := v) (d := .tuple ds) (by simp) with
      | tup h1 h2 => exact ⟨_, _, ds.map .bor, rfl, Same.seqT c.sU h1, by simp [h2.length], Core.zipBor h2 c.drop, h⟩
    | _ => exact (show False from h).elim
  | tup es =>
    obtain ⟨F, a, nd, kk⟩ := c.res
    cases a with
    | cons h1 h2 =>
      cases h1 with
      | tup hp ow => exact ⟨_, _, es, rfl, SqT.of hp, ow.length, ⟨c.sU, c.sG, c.tups, c.frzs, c.new, _, (OwnL.of_owns ow).append h2, nd, kk⟩, h⟩
  | _ => exact (show False from h).elim
section
variable {X : Cx} {pn ss : List Nat} {pos : Pos}
theorem g_name {i : Nat} {x : Str} (hnp : i ∉ pn) (hss : i ∈ ss) (hN : X.N.Nodup) (hi : X.N[i]? = some x) (hx : Loc X.env.scope x) (hf : X.fn x = true ∨ X.env.scope.names.lookup x = some .local := by first | exact .inl rfl | exact .inr rfl | assumption) :
    PVG X pn ss (.Name x pos) (gNm i) :=
  PG.imp (pg_name hN hi hx hf) fun v σ H Q ⟨U, G0, G, T, e, sl, Qv, hpn, c, h, k⟩ =>
    k _ h G _ H (Same.refl _) (by simp) (fun j hj => List.getElem?_set_ne (fun z => hj (by rw [← z]; exact hss))) (Rel.store c i (pin_ne hpn hnp))
theorem gs_nil : PVGs X pn ss [] gsNil := PGs.imp pgs_nil fun vs σ H Q ⟨U, G0, G, T, es, sl, Qv, hpn, hl, c, ⟨he, h⟩, k⟩ => by
  subst he
  have : vs = [] := List.eq_nil_of_length_eq_zero hl
  subst this
  exact ⟨rfl, k _ h G σ H (Same.refl _) rfl (fun _ _ => rfl) c⟩
theorem gs_cons {e : Expr} {es : List Expr} {g : TGv} {gs : TGvs} (h1 : PVG X pn ss e g) (h2 : PVGs X pn ss es gs) (hs : (assignEach (e :: es) X.env).map (·.2) = assign e X.env :: (assignEach es X.env).map (·.2) := by rfl) : PVGs X pn ss (e :: es) (gsCons g gs) :=
  PGs.imp (pgs_cons h1 h2 hs) fun vs σ H Q ⟨U, G0, G, T, es, sl, Qv, hpn, hl, c, h, k⟩ => by
    cases es with
    | nil => exact (show False from h).elim
    | cons e es =>
      cases vs with
      | nil => simp at hl
      | cons v vs =>
        refine ⟨v, vs, rfl, U, G0, G, vs.zip es ++ T, e, sl, _, hpn, c, h, fun s1 hq G1 σ1 H1 e1 l1 a1 c1 => ?_⟩
        exact ⟨U, G0, G1, T, es, s1, _, hpn, by simpa using hl, c1, hq, fun s2 hq2 G2 σ2 H2 e2 l2 a2 c2 => k _ hq2 _ _ _ (e1.trans e2) (l2.trans l1) (fun j hj => (a2 j hj).trans (a1 j hj)) c2⟩
theorem g_tup {es : List Expr} {k0 : Nat} {gs : TGvs} {n : Nat} (hc : X.calm = true) (h : PVGs X pn ss es gs) (hn : (assignEach es X.env).length = n := by rfl) (hst : (assignEach es X.env).findIdx? (·.1) = none := by rfl) :
    PVG X pn ss (.Tuple es k0 pos) (gTp n gs) :=
  PG.imp (pg_tup hc h hn hst) fun v σ H Q ⟨U, G0, G, T, e, sl, Qv, hpn, c, h, k⟩ => by
    obtain ⟨a, vs, es, rfl, hq, hl, c1, hlen, h⟩ := Core.unTup (show Core _ G ((v, e) :: (T ++ slotRes σ sl)) H from c.core) h
    exact ⟨a, vs, rfl, hq, by omega, U, G0, G, T, es, sl, Qv, hpn, hl, ⟨by rw [List.append_assoc]; exact c1, c.wf⟩, h, k⟩
/-- target = value -/
def sAsg (w : WE) (g : TGv) : WS := fun sl P => w sl fun r s1 => mvR s1 r fun e s2 => g e s2 P.nx
theorem s_asg {W : WX} {tg e : Expr} {w : WE} {g : TGv} (he : PV X e w) (hg : PVG X pn ss tg g) (hs : swapsWithSole [tg] e pos.line X.env = pure false := by rfl) (hw : swappedStores [tg] e X.env = pure none := by rfl)
    (h1 : (assignEach [tg] X.env).map (·.2) = [assign tg X.env] := by rfl) : PVS X W pn (.Assign [tg] e pos) (sAsg w g) :=
  PS.imp (ps_asg he hg hs hw h1) fun D σ H ⟨U, G0, G, T, sl, P, hpn, c, h, k⟩ => ⟨U, G0, G, T, sl, _, c, h, fun r s1 hq G1 v H1 e1 c1 => by
    obtain ⟨x, s2, c2, h⟩ := c1.mv hq
    exact ⟨U, G0, G1, T, x, s2, _, hpn, c2, h, fun s3 hq G2 σ2 H2 e2 _ _ c3 => k.nx _ hq _ _ _ (e1.trans e2) c3⟩⟩
end

/-! ### what is walked -/
/-- the iterator J gives the items -/
def Src (f : Fr) (G0 : Hp) (J : It) (items : List Ent) : Prop := ∃ (Gw : Hp → Prop) (Y : Nat → Hp → V → Hp → Prop), Walk J items.length Gw Y ∧
  (∀ G T sl σ H, Same G0 G → Rel f G T sl σ H → Gw H) ∧
  ∀ i e x H H' G T sl σ, items[i]? = some e → Same G0 G → Rel f G T sl σ H → Y i H x H' → ∃ G', Same G G' ∧ Rel f G' ((x, e) :: T) sl σ H'
abbrev WI := Slots → (List Ent → Slots → Prop) → Prop
def liftI (q : Px) (w : WI) : TI := fun σ H R => ∃ U G0 G T sl Qv, Rel ⟨q, U, G0⟩ G T sl σ H ∧ w sl Qv ∧ ∀ items sl', Qv items sl' → ∀ G' J H', Same G G' → Rel ⟨q, U, G0⟩ G' T sl' σ H' → Src ⟨q, U, G0⟩ G' J items → R J H'
abbrev PVI (X : Cx) (tg iter : Expr) (w : WI) : Prop := PI X tg iter (liftI (pxOf X) w)
theorem PI.imp {X : Cx} {tg iter : Expr} {w w' : TI} (h : PI X tg iter w) (hh : ∀ σ H R, w' σ H R → w σ H R) : PI X tg iter w' := ⟨fun pins s σ H R I q => h.run pins s σ H R I (hh _ _ _ q)⟩

/-! ### for -/
def wFor (g : TGv) (body : WS) : List Ent → WS
  | [], sl, P => P.nx sl
  | e :: es, sl, P => g e sl fun s1 => body s1 { P with nx := fun s => wFor g body es s P, ct := fun s => wFor g body es s P, bk := P.nx }
def sFor (w : WI) (g : TGv) (body : WS) : WS := fun sl P => w sl fun items s1 => wFor g body items s1 P
section
variable {X : Cx} {W : WX} {pn ss : List Nat} {pos : Pos}
theorem s_for {tg iter : Expr} {body : List Stmt} {w : WI} {g : TGv} {b : WS} (hp : PassesOwn (model X.prog X.w) X.A X.env X.xe) (hc : X.calm = true) (hi : PVI X tg iter w) (hg : PVG X pn ss tg g) (hb : PVSs X W pn body b)
    (hs : ∀ x, foldedSetIterable iter X.env x = pure x := by intro _; rfl) : PVS X W pn (.For tg iter body [] pos) (sFor w g b) :=
  PS.imp (ps_for hp hc hi hg hb hs) fun D σ H ⟨U, G0, G, T, sl, P, hpn, c, h, k⟩ => ⟨U, G0, G, T, sl, _, c, h, fun items s1 hq G1 J H1 e1 c1 ⟨Gw, Y, hw, hgw, hy⟩ => by
    refine for_it hw (fun i σ H => ∃ G2 s2, Same G1 G2 ∧ Rel ⟨pxOf X, U, G0⟩ G2 T s2 σ H ∧ wFor g b (items.drop i) s2 P) ⟨G1, s1, Same.refl _, c1, hq⟩ (fun i σ H _ ⟨G2, s2, e2, c2, _⟩ => hgw G2 T s2 σ H e2 c2) ?_ ?_
    · rintro i x σ2 H2 H3 hi ⟨G2, s2, e2, c2, hw2⟩ hyy
      have he : items[i]? = some items[i] := by simp [hi]
      obtain ⟨G3, e3, c3⟩ := hy i _ x H2 H3 G2 T s2 σ2 he e2 c2 hyy
      rw [List.drop_eq_getElem_cons hi] at hw2
      refine ⟨U, G0, G3, T, items[i], s2, _, hpn, c3, hw2, fun s3 hq3 G4 σ4 H4 e4 _ _ c4 => ?_⟩
      have kk := k.mono ((e1.trans e2).trans (e3.trans e4))
      refine ⟨U, G0, G4, T, s3, _, hpn, c4, hq3, ⟨fun s hq G5 σ5 H5 e5 c5 => ⟨G5, s, (e2.trans e3).trans (e4.trans e5), c5, hq⟩, kk.rt, fun s hq G5 σ5 H5 e5 c5 => kk.nx _ hq _ _ _ e5 c5, fun s hq G5 σ5 H5 e5 c5 => ⟨G5, s, (e2.trans e3).trans (e4.trans e5), c5, hq⟩, kk.ex⟩⟩
    · rintro σ2 H2 ⟨G2, s2, e2, c2, hw2⟩
      rw [List.drop_length] at hw2
      exact k.nx _ hw2 _ _ _ (e1.trans e2) c2⟩
end

/-! ### comprehensions -/
def wipeS (sl : Slots) : List Nat → Slots
  | [] => sl
  | v :: vs => (wipeS sl vs).set v none
def tYesV : WT := fun sl Q => Q true sl
def wLc (g : TGv) (tt : WT) (te : WE) (vs : List Nat) : List Ent → List PyData → Slots → (R → Slots → Prop) → Prop
  | [], acc, sl, Q => Q (.e (.own acc)) sl
  | e :: es, acc, sl, Q => g e sl fun s1 => tt s1 fun b s2 => if b = true then te s2 fun r s3 => frzR s3 r fun d s4 => acc.length < sizeLine ∧ wLc g tt te vs es (acc ++ [d]) (wipeS s4 vs) Q else wLc g tt te vs es acc (wipeS s2 vs) Q
def eLc (w : WI) (g : TGv) (tt : WT) (te : WE) (vs : List Nat) : WE := fun sl Q => w sl fun items s1 => wLc g tt te vs items [] (wipeS s1 vs) Q
/-- .. the items kept as entries -/
def wLcO (g : TGv) (tt : WT) (te : WE) (vs : List Nat) : List Ent → List Ent → Slots → (R → Slots → Prop) → Prop
  | [], acc, sl, Q => Q (.e (.lst acc)) sl
  | e :: es, acc, sl, Q => g e sl fun s1 => tt s1 fun b s2 => if b = true then te s2 fun r s3 => mvR s3 r fun x s4 => acc.length < sizeLine ∧ wLcO g tt te vs es (acc ++ [x]) (wipeS s4 vs) Q else wLcO g tt te vs es acc (wipeS s2 vs) Q
def eLcO (w : WI) (g : TGv) (tt : WT) (te : WE) (vs : List Nat) : WE := fun sl Q => w sl fun items s1 => wLcO g tt te vs items [] (wipeS s1 vs) Q
theorem wipeS_len (sl : Slots) : ∀ vs, (wipeS sl vs).length = sl.length
  | [] => rfl
  | v :: vs => by simp [wipeS, wipeS_len sl vs]
theorem wipeS_at (sl : Slots) : ∀ vs (j : Nat), j ∈ vs → ∀ e, (wipeS sl vs)[j]? ≠ some (some e)
  | [], j, h => by simp at h
  | v :: vs, j, h => fun e he => by
    by_cases hj : j = v
    · subst hj
      by_cases hl : j < (wipeS sl vs).length
      · simp only [wipeS] at he; rw [List.getElem?_set_self hl] at he; cases he
      · rw [List.getElem?_eq_none (by simp [wipeS]; omega)] at he; cases he
    · simp only [wipeS] at he
      rw [List.getElem?_set_ne (Ne.symm hj)] at he
      exact wipeS_at sl vs j ((List.mem_cons.mp h).resolve_left hj) e he
section
variable {f : Fr} {G H : Hp} {T : List (V × Ent)} {sl : Slots} {σ σ' : St}
theorem Rel.setNone (c : Rel f G T sl σ H) (i : Nat) : Rel f G T (sl.set i none) σ H := by
  cases e : sl[i]? with
  | none => rw [List.set_eq_of_length_le (List.getElem?_eq_none_iff.mp e)]; exact c
  | some o =>
    cases o with
    | none =>
      have : sl.set i none = sl := by
        apply List.ext_getElem?
        intro j
        by_cases h : j = i
        · subst h; rw [List.getElem?_set_self (List.getElem?_eq_some_iff.mp e).1, e]
        · rw [List.getElem?_set_ne (Ne.symm h)]
      rw [this]; exact c
    | some x =>
      obtain ⟨v, hv⟩ := c.wf.val i x e
      have c1 := c.out e hv
      exact ⟨Core.drop (v := v) (e := x) c1.core, c1.wf⟩
theorem Rel.wipe (c : Rel f G T sl σ H) : ∀ vs, Rel f G T (wipeS sl vs) σ H
  | [] => c
  | v :: vs => Rel.setNone (Rel.wipe c vs) v
theorem slotRes_congr : ∀ {σ σ' : St} {sl : Slots}, σ.length = σ'.length → (∀ (j : Nat) (e : Ent), sl[j]? = some (some e) → σ'[j]? = σ[j]?) → slotRes σ sl = slotRes σ' sl
  | [], [], _, _, _ => rfl
  | [], _ :: _, _, h, _ => by simp at h
  | _ :: _, [], _, h, _ => by simp at h
  | a :: σ, b :: σ', [], _, _ => by cases a <;> cases b <;> rfl
  | a :: σ, b :: σ', y :: sl, h, k => by
    have ih := slotRes_congr (σ := σ) (σ' := σ') (sl := sl) (by simpa using h) (fun j e he => by simpa using k (j + 1) e (by simpa using he))
    cases y with
    | none => cases a <;> cases b <;> simpa [slotRes] using ih
    | some e =>
      have := k 0 e (by simp)
      simp at this
      subst this
      cases b <;> simp [slotRes, ih]
/-- the state under other slots that agree where something is known -/
theorem Rel.slots (c : Rel f G T sl σ H) (hl : σ.length = σ'.length) (k : ∀ (j : Nat) (e : Ent), sl[j]? = some (some e) → σ'[j]? = σ[j]?) (kp : ∀ p ∈ f.G0.pin, σ'[p.1]? = σ[p.1]?) : Rel f G T sl σ' H :=
  ⟨by rw [← slotRes_congr hl k]; exact c.core, ⟨c.wf.len.trans hl, fun i e h => by rw [k i e h]; exact c.wf.val i e h, fun p hp => by rw [kp p hp]; exact c.wf.pin p hp⟩⟩
theorem wipe_len (σ : St) : ∀ vs, (L2.wipe σ vs).length = σ.length := L2.wipe_length σ
theorem wipe_out (σ : St) : ∀ (vs : List Nat) (j : Nat), j ∉ vs → (L2.wipe σ vs)[j]? = σ[j]?
  | [], _, _ => rfl
  | v :: vs, j, h => by
    unfold L2.wipe
    rw [List.getElem?_set_ne (fun z => h (by simp [z]))]
    exact wipe_out σ vs j (fun m => h (by simp [m]))
theorem wipe_in (σ : St) : ∀ (vs : List Nat) (j : Nat), j ∈ vs → j < σ.length → (L2.wipe σ vs)[j]? = some none
  | [], _, h, _ => by simp at h
  | v :: vs, j, h, hl => by
    unfold L2.wipe
    by_cases hj : j = v
    · subst hj; rw [List.getElem?_set_self (by rw [wipe_len]; exact hl)]
    · rw [List.getElem?_set_ne (Ne.symm hj)]
      exact wipe_in σ vs j ((List.mem_cons.mp h).resolve_left hj) hl
theorem wipe_same {vs : List Nat} (hl : σ'.length = σ.length) (k : ∀ j, j ∉ vs → σ'[j]? = (L2.wipe σ vs)[j]?) : L2.wipe σ' vs = L2.wipe σ vs := by
  apply List.ext_getElem?
  intro j
  by_cases hj : j ∈ vs
  · by_cases hlt : j < σ.length
    · rw [wipe_in σ' vs j hj (by omega), wipe_in σ vs j hj hlt]
    · rw [List.getElem?_eq_none (by rw [wipe_len]; omega), List.getElem?_eq_none (by rw [wipe_len]; omega)]
  · rw [wipe_out σ' vs j hj, k j hj]
end
abbrev PVTs (X : Cx) (ifs : List Expr) (w : WT) : Prop := PTs X ifs (liftT (pxOf X) w)
theorem PTs.imp {X : Cx} {ifs : List Expr} {t t' : TT} (h : PTs X ifs t) (hh : ∀ σ H Q, t' σ H Q → t σ H Q) : PTs X ifs t' := ⟨fun pins s σ H Q I q => h.run pins s σ H Q I (hh _ _ _ q)⟩
/-- the same frame without pins -/
abbrev Fr.unpin (f : Fr) : Fr := ⟨f.q, f.U, ⟨f.G0.old, []⟩⟩
theorem Rel.unpin {f : Fr} {G H : Hp} {T : List (V × Ent)} {sl : Slots} {σ : St} (c : Rel f G T sl σ H) : Rel f.unpin G T sl σ H := ⟨c.core.recx, ⟨c.wf.len, c.wf.val, fun p hp => by simp at hp⟩⟩
theorem Rel.repin {f : Fr} {G H : Hp} {T : List (V × Ent)} {sl : Slots} {σ : St} (c : Rel f.unpin G T sl σ H) (hp : ∀ p ∈ f.G0.pin, σ[p.1]? = some (some p.2)) : Rel f G T sl σ H := ⟨c.core.recx, ⟨c.wf.len, c.wf.val, hp⟩⟩
section
variable {X : Cx}
theorem vts_nil : PVTs X [] tYesV := PTs.imp pts_nil fun σ H Q ⟨U, G0, G, T, sl, Qv, c, w, k⟩ => k _ _ w G H (Same.refl _) c
theorem vts_one {c : Expr} {t : WT} (h : PVT X c t) : PVTs X [c] t := pts_one h
/-- the turns of a comprehension -/
theorem lc_turns {f : Fr} {G1 H1 : Hp} {T : List (V × Ent)} {σ : St} {J : It} {items : List Ent} {vs : List Nat} {g : TGv} {tt : WT} {te : WE} {s1 : Slots} {Qv : R → Slots → Prop} {Q : VK} {D : Addr}
    (src : Src f G1 J items) (c1 : Rel f G1 T (wipeS s1 vs) σ H1) (hq : wLc g tt te vs items [] (wipeS s1 vs) Qv) (hD : H1 D = none)
    (k : ∀ r s', Qv r s' → ∀ G' v H', Same G1 G' → RelR f G' T v r s' σ H' → Q v H') :
    ∃ W : Nat → Nat → Hp → Prop, (∃ m, W 0 m (upd H1 D (.lst []))) ∧ ∀ i m H, W i m H →
      (J.stop i H ∧ Q (.ref D) H) ∨ (J.go i H ∧ ∃ Nx : Hp → Prop, (∀ H', Nx H' → ∃ m', m' < m ∧ W (i + 1) m' H') ∧ ∀ x H', J.yld i H x H' → liftG f.q [] vs g x (L2.wipe σ vs) H' fun σ2 H2 => L2.wipe σ2 vs = L2.wipe σ vs ∧ liftT f.q tt σ2 H2 fun b H3 =>
        if b = true then liftE f.q te σ2 H3 fun y H4 => ∃ acc, H4 D = some (.lst acc) ∧ acc.length < sizeLine ∧ Nx (upd H4 D (.lst (acc ++ [y]))) else Nx H3) := by
  obtain ⟨Gw, Y, hw, hgw, hy⟩ := src
  have cD : Rel f G1 ((.ref D, .own []) :: T) (wipeS s1 vs) σ (upd H1 D (.lst [])) := ⟨c1.core.newOwn hD .nil, c1.wf⟩
  have pin := c1.wf.pin
  refine lc_it hw (fun i H => ∃ G2 s2 acc, Same G1 G2 ∧ Rel f G2 ((.ref D, .own acc) :: T) (wipeS s2 vs) σ H ∧ wLc g tt te vs (items.drop i) acc (wipeS s2 vs) Qv) ⟨G1, s1, [], Same.refl _, cD, hq⟩ (fun i H _ ⟨G2, s2, acc, e2, c2, _⟩ => hgw _ _ _ _ _ e2 c2) ?_ ?_
  · rintro i x H2 H3 hi ⟨G2, s2, acc, e2, c2, hw2⟩ hyy
    have he : items[i]? = some items[i] := by simp [hi]
    obtain ⟨G3, e3, c3⟩ := hy i _ x H2 H3 G2 _ _ σ he e2 c2 hyy
    rw [List.drop_eq_getElem_cons hi] at hw2
    have c4 : Rel f.unpin G3 ((x, items[i]) :: (.ref D, .own acc) :: T) (wipeS s2 vs) (L2.wipe σ vs) H3 := c3.unpin.slots (by rw [wipe_len]) (fun j e h => wipe_out σ vs j fun m => wipeS_at s2 vs j m e h) fun p hp => by simp at hp
    refine ⟨f.U, f.unpin.G0, G3, (.ref D, .own acc) :: T, items[i], _, _, rfl, c4, hw2, fun s3 hq3 G4 σ4 H4 e4 l4 a4 c5 => ⟨wipe_same (by rw [l4, wipe_len]) (fun j hj => a4 j hj), ?_⟩⟩
    have back : ∀ {G5 H5 T' s5}, Rel f.unpin G5 T' s5 σ4 H5 → Rel f G5 T' (wipeS s5 vs) σ H5 := fun {G5 H5 T' s5} c => ((Rel.wipe c vs).slots (by rw [l4, wipe_len]) (fun j e h => by
      have hj : j ∉ vs := fun m => wipeS_at s5 vs j m e h
      rw [a4 j hj, wipe_out σ vs j hj]) fun p hp => by simp at hp).repin pin
    refine ⟨f.U, f.unpin.G0, G4, (.ref D, .own acc) :: T, s3, _, c5, hq3, fun b s4 hq4 G5 H5 e5 c6 => ?_⟩
    have ee := (e2.trans e3).trans (e4.trans e5)
    cases b with
    | false => exact ⟨G5, s4, acc, ee, back c6, hq4⟩
    | true =>
      refine ⟨f.U, f.unpin.G0, G5, (.ref D, .own acc) :: T, s4, _, c6, hq4, fun r s5 hq5 G6 y H6 e6 c7 => ?_⟩
      obtain ⟨G7, d, s6, e7, c8, rd, hz, hq7⟩ := c7.frz hq5
      obtain ⟨vs', hp, rr⟩ := Core.ownAt (show Core f.unpin G7 ((.ref D, .own acc) :: (T ++ _)) H6 from c8.core)
      refine ⟨vs', hp, by rw [rr.length]; exact hz, G7, s6, acc ++ [d], ee.trans (e6.trans e7), ?_, hq7⟩
      exact back ⟨Core.setOwn (show Core f.unpin G7 ((.ref D, .own acc) :: (T ++ _)) H6 from c8.core) (rr.snoc rd), c8.wf⟩
  · rintro H2 ⟨G2, s2, acc, e2, c2, hw2⟩
    rw [List.drop_length] at hw2
    exact k _ _ hw2 _ _ _ e2 c2
section
variable {elt tg iter : Expr} {ifs : List Expr} {scope : Scope} {own : List (Str × Nat)} {pos : Pos} {w : WI} {g : TGv} {tt : WT} {te : WE}
theorem lc_lift : ∀ σ H Q, liftE (pxOf X) (eLc w g tt te (own.map (·.2))) σ H Q → tLc (liftI (pxOf X) w) (liftG (pxOf X) [] (own.map (·.2)) g) (liftT (pxOf X) tt) (liftE (pxOf X) te) (own.map (·.2)) σ H Q :=
  fun σ H Q ⟨U, G0, G, T, sl, Qv, c, h, k⟩ => ⟨U, G0, G, T, sl, _, c, h, fun items s1 hq G1 J H1 e1 c1 src => fun D hD =>
    lc_turns (f := ⟨pxOf X, U, G0⟩) src (Rel.wipe c1 _) hq hD fun r s' hr G' v H' e' c' => k _ _ hr _ _ _ (e1.trans e') c'⟩
theorem v_lc (hc : X.calm = true) (hN : X.N.Nodup) (hi : PVI X tg iter w) (ok : BlkOk X.N X.env.scope scope own)
    (hg : ∀ (s : Shared) (H : Hp) (C : Addr) (cl : List (Str × Addr)) (fp : List Addr), PVG (X.blk s H scope (compEnvC scope cl C X.env) fp) [] (own.map (·.2)) tg g)
    (ht : ∀ (s : Shared) (H : Hp) (C : Addr) (cl : List (Str × Addr)) (fp : List Addr), PVTs (X.blk s H scope (compEnvC scope cl C X.env) fp) ifs tt)
    (he : ∀ (s : Shared) (H : Hp) (C : Addr) (cl : List (Str × Addr)) (fp : List Addr), PV (X.blk s H scope (compEnvC scope cl C X.env) fp) elt te) (hs : ∀ x, foldedSetIterable iter X.env x = pure x := by intro _; rfl) :
    PV X (.ListComp elt [⟨tg, iter, ifs, 0⟩] scope pos) (eLc w g tt te (own.map (·.2))) :=
  PE.imp (pe_lc hc hN hi ok hg ht he hs) lc_lift
/-- name = [..] on one line -/
theorem s_setLc {W : WX} {pn : List Nat} {i : Nat} {y : Str} {py spos : Pos} (hnp : i ∉ pn) (hc : X.calm = true) (hN : X.N.Nodup) (hy : X.N[i]? = some y) (hyl : X.env.scope.names.lookup y = some .local)
    (hsw : swapsWith (.ListComp elt [⟨tg, iter, ifs, 0⟩] scope pos) (some (.Name y py)) spos.line X.env = pure true) (hi : PVI X tg iter w) (ok : BlkOk X.N X.env.scope scope own)
    (hg : ∀ (s : Shared) (H : Hp) (C : Addr) (cl : List (Str × Addr)) (fp : List Addr), PVG (X.blk s H scope (compEnvC scope cl C X.env) fp) [] (own.map (·.2)) tg g)
    (ht : ∀ (s : Shared) (H : Hp) (C : Addr) (cl : List (Str × Addr)) (fp : List Addr), PVTs (X.blk s H scope (compEnvC scope cl C X.env) fp) ifs tt)
    (he : ∀ (s : Shared) (H : Hp) (C : Addr) (cl : List (Str × Addr)) (fp : List Addr), PV (X.blk s H scope (compEnvC scope cl C X.env) fp) elt te) (hs : ∀ x, foldedSetIterable iter X.env x = pure x := by intro _; rfl) :
    PVS X W pn (.Assign [.Name y py] (.ListComp elt [⟨tg, iter, ifs, 0⟩] scope pos) spos) (sSet i (eLc w g tt te (own.map (·.2)))) :=
  PS.imp (ps_setLc hc hN hy hyl hsw hi ok hg ht he hs) fun D σ H ⟨U, G0, G, T, sl, P, hpn, c, h, k⟩ => by
    have := lc_lift (X := X) (w := w) (g := g) (tt := tt) (te := te) (own := own) σ H (fun x H1 => gName i x σ H1 D.nx) ⟨U, G0, G, T, sl, _, c, h, fun r s1 hq G' v H' e' c' => by
      obtain ⟨G2, s2, e2, c2, hk⟩ := c'.store hq (pin_ne hpn hnp)
      exact k.nx _ hk _ _ _ (e'.trans e2) c2⟩
    exact this
end
end
end VV

/-! V11: what is walked: sequences, ranges, enumerate, zip -/
namespace VV
open PySem PySem.Spec L2
open PyProof.Rows hiding St

def iSeq (K : PySem.W.Frag) (tl : TE) : TI := fun σ H R => tl σ H fun x H1 => (∃ a xs, x = .ref a ∧ SqL K H1 a xs ∧ R (Itl K a) H1) ∨ (∃ a xs, x = .ref a ∧ SqT K H1 a xs ∧ R (Itt K a) H1) ∨ ∃ z, x = .str z ∧ R (Its z) H1
section
variable {X : Cx} {tg : Expr}
theorem pi_seq {l : Expr} {tl : TE} (hl : PE X l tl) : PI X tg l (iSeq X.K tl) := by
  refine ⟨fun pins s σ H R I h => ?_⟩
  refine thn (hl.run pins s σ H _ I h) fun v s1 ⟨x, H1, I1, r1, q1⟩ => ?_
  rcases q1 with ⟨a, xs, e, hq, q⟩ | ⟨a, xs, e, hq, q⟩ | ⟨z, e, q⟩
  · subst e
    cases r1
    obtain ⟨its, rv, p, hz⟩ := I1.list hq
    refine wpAny_pyIter_list p.isList ?_
    refine ⟨s1.heap.objs.size, [s1.heap.objs.size], _, _, H1, rfl, I1.kept (t' := s1.toks) fun b o e => Heap.get?_push_of_some _ e, turn_list a _, ⟨_, Heap.get?_push_size _ rfl, rfl, rfl⟩, fun b hb => ?_, q⟩
    have e : b = s1.heap.objs.size := by simpa using hb
    subst e
    exact I1.fpOk (Nat.le_refl _) (I1.hok.fresh (Nat.le_refl _))
  · subst e
    cases r1
    obtain ⟨its, rv, p, hz⟩ := I1.tuple hq
    refine wpAny_pyIter_tuple (show s1.heap.IsTuple a its.toArray from p) ?_
    refine ⟨s1.heap.objs.size, [s1.heap.objs.size], _, _, H1, rfl, I1.kept (t' := s1.toks) fun b o e => Heap.get?_push_of_some _ e, turn_tuple a _, ⟨_, Heap.get?_push_size _ rfl, rfl, rfl⟩, fun b hb => ?_, q⟩
    have e : b = s1.heap.objs.size := by simpa using hb
    subst e
    exact I1.fpOk (Nat.le_refl _) (I1.hok.fresh (Nat.le_refl _))
  · subst e
    obtain ⟨t, rfl⟩ := r1
    cases ha : z.cps.all (· < 128)
    · exact wpAny_pyIter_wide ha (pi_one (tk := s1.toks) I1 _ (turn_str _ z t "str_iterator" (.inr rfl)) ⟨_, Heap.get?_push_size _ rfl, rfl, rfl⟩ q)
    · exact wpAny_pyIter_ascii ha (pi_one (tk := s1.toks) I1 _ (turn_str _ z t "str_ascii_iterator" (.inl rfl)) ⟨_, Heap.get?_push_size _ rfl, rfl, rfl⟩ q)
end
def strItems (z : Str) : List Ent := z.cps.toList.map fun c => .shr (.str ⟨#[c]⟩)
def Ent.seqE (k : List Ent → Prop) : Ent → Prop
  | .shr (.list ds) => k (ds.map .shr)
  | .shr (.tuple ds) => k (ds.map .shr)
  | .shr (.str z) => k (strItems z)
  | .bor (.list ds) => (Sols ds ∧ k (ds.map .shr)) ∨ k (ds.map .bor)
  | .bor (.tuple ds) => (Sols ds ∧ k (ds.map .shr)) ∨ k (ds.map .bor)
  | .bor (.str z) => k (strItems z)
  | .own ds => k (ds.map .shr)
  | _ => False
def seqR (sl : Slots) (r : R) (k : List Ent → Slots → Prop) : Prop := match r with
  | .e x => x.seqE fun items => k items sl
  | .al i => atS sl i fun x => x.frz fun d => (Ent.shr d).seqE fun items => k items (sl.set i (some (.shr d)))
def iSq (w : WE) : WI := fun sl Q => w sl fun r s1 => seqR s1 r Q
section
variable {f : Fr} {G H : Hp} {T : List (V × Ent)} {sl : Slots} {σ : St} {v : V}
theorem src_shr {q : Px} {U : Hp} {G0 : Ct} {J : It} {vs : List V} {ds : List PyData} {Gw : Hp → Prop} (hw : Walk J vs.length Gw (YAt vs)) (hg : ∀ H, Same G H → Gw H) (r : Reps q G vs ds) : Src ⟨q, U, G0⟩ G J (ds.map .shr) := by
  refine ⟨Gw, YAt vs, by rw [List.length_map, ← r.length]; exact hw, fun G1 T sl σ H e c => hg H (e.trans c.core.sG), fun i e x H H' G1 T sl σ hi e1 c y => ?_⟩
  obtain ⟨rfl, hx⟩ := y
  rw [List.getElem?_map] at hi
  cases hd : ds[i]? with
  | none => rw [hd] at hi; cases hi
  | some d =>
    rw [hd] at hi
    cases hi
    obtain ⟨w, hw, rw'⟩ := r.get hd
    rw [hx] at hw; cases hw
    exact ⟨G1, Same.refl _, c.core.addShr (rw'.mono e1), c.wf⟩
theorem src_bor {q : Px} {U : Hp} {G0 : Ct} {J : It} {vs : List V} {ds : List PyData} {Gw : Hp → Prop} (hw : Walk J vs.length Gw (YAt vs)) (hg : ∀ H, Same U H → Gw H) (r : Reps q U vs ds) : Src ⟨q, U, G0⟩ G J (ds.map .bor) := by
  refine ⟨Gw, YAt vs, by rw [List.length_map, ← r.length]; exact hw, fun G1 T sl σ H e c => hg H c.core.sU, fun i e x H H' G1 T sl σ hi e1 c y => ?_⟩
  obtain ⟨rfl, hx⟩ := y
  rw [List.getElem?_map] at hi
  cases hd : ds[i]? with
  | none => rw [hd] at hi; cases hi
  | some d =>
    rw [hd] at hi
    cases hi
    obtain ⟨w, hw, rw'⟩ := r.get hd
    rw [hx] at hw; cases hw
    exact ⟨G1, Same.refl _, c.core.addBor rw', c.wf⟩
theorem src_str {q : Px} {U : Hp} {G0 : Ct} {z : Str} : Src ⟨q, U, G0⟩ G (Its z) (strItems z) := by
  refine ⟨fun _ => True, _, by unfold strItems; rw [List.length_map, Array.length_toList]; exact walk_str, fun _ _ _ _ _ _ _ => trivial, fun i e x H H' G1 T sl σ hi e1 c y => ?_⟩
  obtain ⟨rfl, ch, hc, rfl⟩ := y
  unfold strItems at hi
  rw [List.getElem?_map, Array.getElem?_toList, hc] at hi
  cases hi
  exact ⟨G1, Same.refl _, c.core.addShr (.str _), c.wf⟩
/-- a sequence's entry: its object is shared (G) or the caller's (U) -/
theorem RelR.seq {U : Hp} {G0 : Ct} {q : Px} {r : R} {k : List Ent → Slots → Prop} (c : RelR ⟨q, U, G0⟩ G T v r sl σ H) (h : seqR sl r k) : ∃ G' items sl', Same G G' ∧ Rel ⟨q, U, G0⟩ G' T sl' σ H ∧ k items sl' ∧
    ∀ Rr : It → Hp → Prop, (∀ J, Src ⟨q, U, G0⟩ G' J items → Rr J H) → (∃ a xs, v = .ref a ∧ SqL q.K H a xs ∧ Rr (Itl q.K a) H) ∨ (∃ a xs, v = .ref a ∧ SqT q.K H a xs ∧ Rr (Itt q.K a) H) ∨ ∃ z, v = .str z ∧ Rr (Its z) H := by
  have shr : ∀ {G : Hp} {sl : Slots} {d : PyData} {K : List Ent → Prop}, Rel ⟨q, U, G0⟩ G T sl σ H → Rep q G v d → (Ent.shr d).seqE K → ∃ items, K items ∧
      ∀ Rr : It → Hp → Prop, (∀ J, Src ⟨q, U, G0⟩ G J items → Rr J H) → (∃ a xs, v = .ref a ∧ SqL q.K H a xs ∧ Rr (Itl q.K a) H) ∨ (∃ a xs, v = .ref a ∧ SqT q.K H a xs ∧ Rr (Itt q.K a) H) ∨ ∃ z, v = .str z ∧ Rr (Its z) H := by
    intro G sl d K cc r hK
    cases d with
    | list ds =>
      cases r with
      | lst h1 h2 => exact ⟨_, hK, fun Rr hR => .inl ⟨_, _, rfl, Same.sqL cc.core.sG h1, hR _ (src_shr (walk_list (K := q.K)) (fun H e => Same.sqL e h1) h2)⟩⟩
    | tuple ds =>
      cases r with
      | tup h1 h2 => exact ⟨_, hK, fun Rr hR => .inr (.inl ⟨_, _, rfl, Same.seqT cc.core.sG h1, hR _ (src_shr (walk_tup (K := q.K)) (fun H e => Same.seqT e h1) h2)⟩)⟩
    | str z => cases strs_of r; exact ⟨_, hK, fun Rr hR => .inr (.inr ⟨_, rfl, hR _ src_str⟩)⟩
    | _ => exact (show False from hK).elim
  cases r with
  | e x =>
    cases x with
    | shr d =>
      obtain ⟨items, hk, hR⟩ := shr c.base (c.core.shrd (v := v) (d := d) (by simp)) (K := fun items => k items sl) h
      exact ⟨G, items, sl, Same.refl _, c.base, hk, hR⟩
    | own ds =>
      obtain ⟨G', s, c'⟩ := Core.freeze (show Core _ G ((v, .own ds) :: (T ++ slotRes σ sl)) H from c.core) .own
      have c2 : Rel ⟨q, U, G0⟩ G' T sl σ H := ⟨c'.drop, c.wf⟩
      obtain ⟨items, hk, hR⟩ := shr (d := .list ds) c2 (c'.shrd (by simp)) (K := fun items => k items sl) h
      exact ⟨G', items, sl, s, c2, hk, hR⟩
    | bor d =>
      have rb := c.core.bord (v := v) (d := d) (by simp)
      cases d with
      | list ds =>
        cases rb with
        | lst h1 h2 =>
          rcases h with ⟨hs, h⟩ | h
          · exact ⟨G, _, sl, Same.refl _, c.base, h, fun Rr hR => .inl ⟨_, _, rfl, Same.sqL c.core.sU h1, hR _ (by
              refine ⟨fun H => SqL q.K H _ _, YAt _, by rw [List.length_map, ← h2.length]; exact walk_list, fun G1 T sl σ H e c => Same.sqL c.core.sU h1, fun i e x H H' G1 T sl σ hi e1 c y => ?_⟩
              obtain ⟨rfl, hx⟩ := y
              rw [List.getElem?_map] at hi
              cases hd : ds[i]? with
              | none => rw [hd] at hi; cases hi
              | some d =>
                rw [hd] at hi
                cases hi
                obtain ⟨w, hw, rw'⟩ := (Reps.solid c.core.tU c.core.fU hs h2).get hd
                rw [hx] at hw; cases hw
                exact ⟨G1, Same.refl _, c.core.addShr rw', c.wf⟩)⟩⟩
          · exact ⟨G, _, sl, Same.refl _, c.base, h, fun Rr hR => .inl ⟨_, _, rfl, Same.sqL c.core.sU h1, hR _ (src_bor (walk_list (K := q.K)) (fun H e => Same.sqL e h1) h2)⟩⟩
      | tuple ds =>
        cases rb with
        | tup h1 h2 =>
          rcases h with ⟨hs, h⟩ | h
          · exact ⟨G, _, sl, Same.refl _, c.base, h, fun Rr hR => .inr (.inl ⟨_, _, rfl, Same.seqT c.core.sU h1, hR _ (by
              refine ⟨fun H => SqT q.K H _ _, YAt _, by rw [List.length_map, ← h2.length]; exact walk_tup, fun G1 T sl σ H e c => Same.seqT c.core.sU h1, fun i e x H H' G1 T sl σ hi e1 c y => ?_⟩
              obtain ⟨rfl, hx⟩ := y
              rw [List.getElem?_map] at hi
              cases hd : ds[i]? with
              | none => rw [hd] at hi; cases hi
              | some d =>
                rw [hd] at hi
                cases hi
                obtain ⟨w, hw, rw'⟩ := (Reps.solid c.core.tU c.core.fU hs h2).get hd
                rw [hx] at hw; cases hw
                exact ⟨G1, Same.refl _, c.core.addShr rw', c.wf⟩)⟩)⟩
          · exact ⟨G, _, sl, Same.refl _, c.base, h, fun Rr hR => .inr (.inl ⟨_, _, rfl, Same.seqT c.core.sU h1, hR _ (src_bor (walk_tup (K := q.K)) (fun H e => Same.seqT e h1) h2)⟩)⟩
      | str z => cases strs_of rb; exact ⟨G, _, sl, Same.refl _, c.base, h, fun Rr hR => .inr (.inr ⟨_, rfl, hR _ src_str⟩)⟩
      | _ => exact (show False from h).elim
    | _ => exact (show False from h).elim
  | al i =>
    obtain ⟨x, hs, h⟩ := atS_iff h
    obtain ⟨d, hd, h⟩ := Ent.frz_iff h
    have o := c.1.out hs c.2
    obtain ⟨G', s, c'⟩ := Core.freeze (show Core _ G ((v, x) :: (T ++ slotRes σ (sl.set i none))) H from o.core) hd
    have c2 : Rel ⟨q, U, G0⟩ G' T (sl.set i (some (.shr d))) σ H := Rel.put' ⟨c', o.wf⟩ (Rel.lt hs) c.2
    obtain ⟨items, hk, hR⟩ := shr (d := d) c2 (c'.shrd (by simp)) (K := fun items => k items (sl.set i (some (.shr d)))) h
    exact ⟨G', items, _, s, c2, hk, hR⟩
end
section
variable {X : Cx} {tg e : Expr} {w : WE}
theorem i_seq (he : PV X e w) : PVI X tg e (iSq w) := PI.imp (pi_seq he) fun σ H Rr ⟨U, G0, G, T, sl, Qv, c, h, k⟩ => ⟨U, G0, G, T, sl, _, c, h, fun r s1 hq G1 v H1 e1 c1 => by
  obtain ⟨G2, items, s2, e2, c2, hk, hR⟩ := c1.seq hq
  exact hR Rr fun J src => k _ _ hk _ _ _ (e1.trans e2) c2 src⟩

/-! ### ranges -/
def rngItems (lo : Int) (n : Nat) : List Ent := (List.range n).map fun i => .shr (.int (lo + (i : Nat)))
def okR (i : Int) : Prop := -(2 ^ 62) ≤ i ∧ i < 2 ^ 62
def iRg1 (wa : WA) : WI := fun sl Q => wa sl fun rs s1 => match rs with
  | [.e (.shr (.int j))] => okR j ∧ Q (rngItems 0 j.toNat) s1
  | _ => False
def iRg2 (wa : WA) : WI := fun sl Q => wa sl fun rs s1 => match rs with
  | [.e (.shr (.int i)), .e (.shr (.int j))] => okR i ∧ okR j ∧ Q (rngItems i (j - i).toNat) s1
  | _ => False
theorem src_rng {f : Fr} {G : Hp} {lo : Int} {n : Nat} : Src f G (Itr lo n) (rngItems lo n) := by
  refine ⟨fun _ => True, _, by unfold rngItems; rw [List.length_map, List.length_range]; exact walk_range, fun _ _ _ _ _ _ _ => trivial, fun i e x H H' G1 T sl σ hi e1 c y => ?_⟩
  obtain ⟨rfl, rfl⟩ := y
  unfold rngItems at hi
  rw [List.getElem?_map] at hi
  cases hr : (List.range n)[i]? with
  | none => rw [hr] at hi; cases hi
  | some j =>
    rw [hr] at hi
    cases hi
    have : j = i := by
      have := List.getElem?_eq_some_iff.mp hr
      obtain ⟨h1, h2⟩ := this
      rw [List.getElem_range] at h2
      exact h2.symm
    subst this
    exact ⟨G1, Same.refl _, c.core.addShr (.int _), c.wf⟩
theorem rs_int {f : Fr} {G H : Hp} {T : List (V × Ent)} {sl : Slots} {σ : St} {v : V} {i : Int} {vs : List V} {rs : List R} (c : RelRs f G T (v :: vs) (.e (.shr (.int i)) :: rs) sl σ H) : v = .int i := by
  have c2 := c.flat.1.core.shrd (v := v) (d := .int i) (by simp [psh])
  exact ints_of c2
theorem i_rng1 {a : Expr} {wa : WA} {p pos : Pos} (hg : Gl X "range") (hm : X.mg "range" = none) (ha : PVA X [a] wa) (hs : starEach [a] X.env = [(false, eval a X.env)] := by rfl) : PVI X tg (.Call (.Name "range" p) [a] [] pos) (iRg1 wa) :=
  PI.imp (pi_range1 hg hm ha hs) fun σ H Rr ⟨U, G0, G, T, sl, Qv, c, h, k⟩ => ⟨U, G0, G, T, sl, _, c, h, fun rs s1 hq G1 vs H1 e1 c1 => by
    split at hq
    · rename_i j
      match vs, c1 with
      | [v], c1 =>
        cases rs_int c1
        exact ⟨j, rfl, hq.1.1, hq.1.2, k _ _ hq.2 _ _ _ e1 c1.base src_rng⟩
      | _ :: _ :: _, c1 => exact (show False from c1).elim
    · exact hq.elim⟩
theorem i_rng2 {a b : Expr} {wa : WA} {p pos : Pos} (hg : Gl X "range") (hm : X.mg "range" = none) (ha : PVA X [a, b] wa) (hs : starEach [a, b] X.env = [(false, eval a X.env), (false, eval b X.env)] := by rfl) (hs2 : starEach [b] X.env = [(false, eval b X.env)] := by rfl) :
    PVI X tg (.Call (.Name "range" p) [a, b] [] pos) (iRg2 wa) :=
  PI.imp (pi_range2 hg hm ha hs hs2) fun σ H Rr ⟨U, G0, G, T, sl, Qv, c, h, k⟩ => ⟨U, G0, G, T, sl, _, c, h, fun rs s1 hq G1 vs H1 e1 c1 => by
    split at hq
    · rename_i i j
      match vs, c1 with
      | [v, u], c1 =>
        cases rs_int c1
        have c2 := c1.flat.1.core.shrd (v := u) (d := .int j) (by simp [psh])
        cases ints_of c2
        exact ⟨i, j, rfl, ⟨hq.1.1, hq.1.2, hq.2.1.1, hq.2.1.2⟩, k _ _ hq.2.2 _ _ _ e1 c1.base src_rng⟩
      | [_], c1 => exact (show False from c1).elim
      | _ :: _ :: _ :: _, c1 => exact (show False from c1).elim
    · exact hq.elim⟩
end
end VV

/-! V12: zip of two, three lists or tuples; enumerate; a list unpacked -/
namespace VV
open PySem PySem.Spec L2
open PyProof.Rows hiding St

def SqK (K : PySem.W.Frag) (k : Bool) (H : Hp) (a : Addr) (xs : List V) : Prop := if k = true then SqT K H a xs else SqL K H a xs
def SeqH (k : Bool) (h : Heap) (a : Addr) (xs : Array Value) : Prop := if k = true then h.IsTuple a xs else h.IsList a xs
def ItrH (k : Bool) (h : Heap) (it a : Addr) (i : Nat) : Prop := if k = true then h.IsTupleIter it a i else h.IsListIter it a i
def itrO (k : Bool) (a : Addr) : Obj := if k = true then { cls := .type "tuple_iterator", data := .fields #[.ref a, .int 0 0] } else { cls := .type "list_iterator", data := .fields #[.ref a, .int 0 0] }
section
variable {k : Bool} {h h' : Heap} {it a : Addr} {i : Nat} {xs : Array Value}
theorem ItrH.obj (s : ItrH k h it a i) : ∃ o, h.get? it = some o ∧ ∀ v, o.data ≠ .cell v := by
  cases k <;> obtain ⟨o, e, _, d⟩ := s <;> exact ⟨o, e, fun v q => by rw [d] at q; cases q⟩
theorem ItrH.at (s : ItrH k h it a i) (kk : ∀ o, h.get? it = some o → h'.get? it = some o) : ItrH k h' it a i := by
  cases k
  · exact Heap.IsListIter.at (show h.IsListIter it a i from s) kk
  · exact Heap.IsTupleIter.at (show h.IsTupleIter it a i from s) kk
theorem ItrH.lt (s : ItrH k h it a i) : it < h.objs.size := by obtain ⟨o, e, _⟩ := s.obj; exact Heap.lt_size e
theorem SeqH.lt (s : SeqH k h a xs) : a < h.objs.size := by
  cases k <;> obtain ⟨o, e, _⟩ := s <;> exact Heap.lt_size e
theorem ItrH.new (e : h.get? it = some (itrO k a)) : ItrH k h it a 0 := by
  cases k <;> exact ⟨_, e, rfl, rfl⟩
theorem draws_k {prog : Program} {w : World} {A : Around} (hh : A.handled = none) (it a : Addr) (hne : a ≠ it) (items : Array Value) :
    Draws prog w A it [it, a] items.size (fun i v => items[i]? = some v) (fun i h => ItrH k h it a i ∧ SeqH k h a items) := by
  cases k
  · exact Draws.list hh it a hne items
  · exact Draws.tuple hh it a hne items
theorem begins_k (a : Addr) (items : Array Value) : Begins (.ref a) (itrO k a) fun h => SeqH k h a items := by
  cases k
  · exact begins_list a items
  · exact begins_tuple a items
end
theorem Inv.sqK {X : Cx} {pins : List (Addr × Obj)} {σ : St} {H : Hp} {s : Shared} {k : Bool} {a : Addr} {xs : List V} (I : Inv X pins σ H s) (q : SqK X.K k H a xs) : ∃ its : List Value, Vals xs its ∧ SeqH k s.heap a its.toArray := by
  cases k
  · obtain ⟨its, rv, p, hz⟩ := I.list (show SqL X.K H a xs from q); exact ⟨its, rv, p.isList⟩
  · obtain ⟨its, rv, p, hz⟩ := I.tuple (show SqT X.K H a xs from q); exact ⟨its, rv, p⟩
theorem Inv.sqK_inj {X : Cx} {pins : List (Addr × Obj)} {σ : St} {H : Hp} {s : Shared} {k : Bool} {a : Addr} {xs ys : List V} (I : Inv X pins σ H s) (q : SqK X.K k H a xs) (q' : SqK X.K k H a ys) : xs = ys := by
  cases k
  · exact I.list_inj (show SqL X.K H a xs from q) (show SqL X.K H a ys from q')
  · exact I.tuple_inj (show SqT X.K H a xs from q) (show SqT X.K H a ys from q')

/-! ### three -/
def It3 (K : PySem.W.Frag) (k1 k2 k3 : Bool) (a b c : Addr) : It :=
  ⟨fun i H => ∃ (xs ys zs : List V) (x y z : V), SqK K k1 H a xs ∧ SqK K k2 H b ys ∧ SqK K k3 H c zs ∧ xs[i]? = some x ∧ ys[i]? = some y ∧ zs[i]? = some z,
    fun i H v H' => ∃ T x y z, v = .ref T ∧ H T = none ∧ H' = upd H T (.tup [x, y, z]) ∧ (∀ xs, SqK K k1 H a xs → xs[i]? = some x) ∧ (∀ ys, SqK K k2 H b ys → ys[i]? = some y) ∧ ∀ zs, SqK K k3 H c zs → zs[i]? = some z,
    fun i H => ∃ xs ys zs : List V, SqK K k1 H a xs ∧ SqK K k2 H b ys ∧ SqK K k3 H c zs ∧ i ≤ xs.length ∧ i ≤ ys.length ∧ i ≤ zs.length ∧ (i = xs.length ∨ i = ys.length ∨ i = zs.length)⟩
theorem turn_3 {P : Program} {w : World} {K : PySem.W.Frag} {elts : List Expr} {kk : Nat} {tpos : Pos} {k1 k2 k3 : Bool} {a b c z TI TO i1 i2 i3 : Addr} (D : ZipSep3 z TI TO i1 i2 i3 [i1, a] [i2, b] [i3, c]) (n1 : a ≠ i1) (n2 : b ≠ i2) (n3 : c ≠ i3) :
    Turn P w K (.Tuple elts kk tpos) (It3 K k1 k2 k3 a b c) [z, TI, TO, i1, i2, i3] z (fun i h => IsZip h z TI TO .none ∧ IsTupOf3 h TI (.ref i1) (.ref i2) (.ref i3) ∧ (∃ x y w, IsTupOf3 h TO x y w) ∧ ItrH k1 h i1 a i ∧ ItrH k2 h i2 b i ∧ ItrH k3 h i3 c i) where
  mem := by simp
  obj := fun i h st c hc => by
    obtain ⟨hz, hTI, ⟨x, y, w, hTO⟩, h1, h2, h3⟩ := st
    have e' : c = z ∨ c = TI ∨ c = TO ∨ c = i1 ∨ c = i2 ∨ c = i3 := by simpa using hc
    rcases e' with q | q | q | q | q | q
    · rw [q]; exact ⟨_, hz, fun v q => nomatch q⟩
    · rw [q]; exact ⟨_, hTI, fun v q => nomatch q⟩
    · rw [q]; exact ⟨_, hTO, fun v q => nomatch q⟩
    · rw [q]; exact h1.obj
    · rw [q]; exact h2.obj
    · rw [q]; exact h3.obj
  keep := fun i h h' st k => by
    obtain ⟨hz, hTI, ⟨x, y, w, hTO⟩, h1, h2, h3⟩ := st
    exact ⟨k z (by simp) _ hz, k TI (by simp) _ hTI, ⟨x, y, w, k TO (by simp) _ hTO⟩, h1.at fun o q => k i1 (by simp) o q, h2.at fun o q => k i2 (by simp) o q, h3.at fun o q => k i3 (by simp) o q⟩
  item := by
    intro X hP hw hK hc i pins s σ H E I hf st hg
    subst hP hw hK
    obtain ⟨hz, hTI, ⟨x0, y0, w0, hTO⟩, h1, h2, h3⟩ := st
    obtain ⟨xs, ys, zs, x, y, v, hqx, hqy, hqz, hx, hy, hv⟩ := hg
    obtain ⟨its1, rv1, p1⟩ := Inv.sqK I hqx
    obtain ⟨its2, rv2, p2⟩ := Inv.sqK I hqy
    obtain ⟨its3, rv3, p3⟩ := Inv.sqK I hqz
    obtain ⟨u1, hu1, ru1⟩ := rv1.get hx
    obtain ⟨u2, hu2, ru2⟩ := rv2.get hy
    obtain ⟨u3, hu3, ru3⟩ := rv3.get hv
    have g1 : its1.toArray[i]? = some u1 := by simpa using hu1
    have g2 : its2.toArray[i]? = some u2 := by simpa using hu2
    have g3 : its3.toArray[i]? = some u3 := by simpa using hu3
    have hh : X.A.in1.handled = none := I.ok.hd hc
    have hzl : z < s.heap.objs.size := Heap.lt_size hz
    refine wpAny_pyNext_zipD3_item D (draws_k (k := k1) hh i1 a n1 its1.toArray) (draws_k (k := k2) hh i2 b n2 its2.toArray) (draws_k (k := k3) hh i3 c n3 its3.toArray) hz hTI hTO ⟨h1, p1⟩ ⟨h2, p2⟩ ⟨h3, p3⟩
      (Array.getElem?_eq_some_iff.mp g1).1 (Array.getElem?_eq_some_iff.mp g2).1 (Array.getElem?_eq_some_iff.mp g3).1 fun x1 x2 x3 h' tk e1 e2 e3 z' TO' s1' s2' s3' hT hsz hkk => ?_
    rw [g1] at e1; rw [g2] at e2; rw [g3] at e3
    cases e1; cases e2; cases e3
    refine ⟨_, rfl, wpAny_letOwnedTupleGo_zip (s := { s with heap := h', toks := tk }) z' fun h'' z'' sb => ?_⟩
    have hT2 : h''.get? s.heap.objs.size = some { cls := .type "tuple", data := .seq #[u1, u2, u3] } := (sb.2 _ (Nat.ne_of_gt hzl)).trans hT
    have new : ObjOk X.prog X.w (upd H s.heap.objs.size (.tup [x, y, v])) h'' s.heap.objs.size (.tup [x, y, v]) :=
      ⟨by show 3 ≤ sizeLine; decide, [u1, u2, u3], .cons ru1 (.cons ru2 (.cons ru3 .nil)), ⟨_, hT2, rfl, _, rfl⟩⟩
    have I1 : Inv X pins σ (upd H s.heap.objs.size (.tup [x, y, v])) { s with heap := h'', toks := tk } :=
      I.turnedNew (t' := tk) (ch := [z, TI, TO, i1, i2, i3]) (fun c o hb q => (sb.2 c (fun q' => hb (by simp [q']))).trans (hkk c o (fun q' => hb (by simp [q'])) (fun q' => hb (by simp [q'])) (fun q' => hb (by simp [q'])) (fun q' => hb (by simp [q'])) (fun q' => hb (by simp [q'])) q)) hf (Nat.le_refl _) new
    refine ⟨.ref s.heap.objs.size, _, I1, rfl, ⟨_, x, y, v, rfl, I.hok.fresh (Nat.le_refl _), rfl, fun l hl => by rw [Inv.sqK_inj I hl hqx]; exact hx, fun l hl => by rw [Inv.sqK_inj I hl hqy]; exact hy, fun l hl => by rw [Inv.sqK_inj I hl hqz]; exact hv⟩, ⟨z'', ?_, ⟨u1, u2, u3, ?_⟩, ?_, ?_, ?_⟩, fun c hcm => ?_⟩
    · exact (sb.2 _ D.TIz).trans (hkk _ _ D.TIz D.TITO D.TIi1 D.TIi2 D.TIi3 hTI)
    · exact (sb.2 _ D.TOz).trans TO'
    · exact s1'.1.at fun o q => (sb.2 _ (Ne.symm D.zi1)).trans q
    · exact s2'.1.at fun o q => (sb.2 _ (Ne.symm D.zi2)).trans q
    · exact s3'.1.at fun o q => (sb.2 _ (Ne.symm D.zi3)).trans q
    · have hlt : c < s.heap.objs.size := by
        have e' : c = z ∨ c = TI ∨ c = TO ∨ c = i1 ∨ c = i2 ∨ c = i3 := by simpa using hcm
        rcases e' with q | q | q | q | q | q
        · rw [q]; exact hzl
        · rw [q]; exact Heap.lt_size hTI
        · rw [q]; exact Heap.lt_size hTO
        · rw [q]; exact h1.lt
        · rw [q]; exact h2.lt
        · rw [q]; exact h3.lt
      rw [upd_ne (Nat.ne_of_lt hlt)]
      exact (hf c hcm).1
  done := by
    intro X hP hw hK hc i pins s σ H E I hf st hg
    subst hP hw hK
    obtain ⟨hz, hTI, ⟨x0, y0, w0, hTO⟩, h1, h2, h3⟩ := st
    obtain ⟨xs, ys, zs, hqx, hqy, hqz, l1, l2, l3, hend⟩ := hg
    obtain ⟨its1, rv1, p1⟩ := Inv.sqK I hqx
    obtain ⟨its2, rv2, p2⟩ := Inv.sqK I hqy
    obtain ⟨its3, rv3, p3⟩ := Inv.sqK I hqz
    have m1 := rv1.length
    have m2 := rv2.length
    have m3 := rv3.length
    have hh : X.A.in1.handled = none := I.ok.hd hc
    exact wpAny_pyNext_zipD3_end D (draws_k (k := k1) hh i1 a n1 its1.toArray) (draws_k (k := k2) hh i2 b n2 its2.toArray) (draws_k (k := k3) hh i3 c n3 its3.toArray) hz hTI hTO ⟨h1, p1⟩ ⟨h2, p2⟩ ⟨h3, p3⟩ (by simp; omega) (by simp; omega) (by simp; omega) (by simp; omega)
      fun h' tk hkk => ⟨rfl, I.turnedL (t' := tk) (ch := [z, TI, TO, i1, i2, i3]) (fun c o hb q => hkk c o (fun q' => hb (by simp [q'])) (fun q' => hb (by simp [q'])) (fun q' => hb (by simp [q'])) (fun q' => hb (by simp [q'])) (fun q' => hb (by simp [q'])) q) hf⟩
  self := fun A i s Q E st h => wpAny_pyIter_zip st.1 h
theorem sep3 {n a b c : Nat} (ha : a < n) (hb : b < n) (hc : c < n) : ZipSep3 (n + 5) (n + 3) (n + 4) n (n + 1) (n + 2) [n, a] [n + 1, b] [n + 2, c] := by
  have key : ∀ x y : Nat, x < y → x ≠ y := fun x y h => Nat.ne_of_lt h
  constructor <;> (try simp only [List.mem_cons, List.not_mem_nil, or_false, not_or, true_or]) <;> (try trivial) <;> (try refine ⟨?_, ?_⟩) <;> (show @Ne Nat _ _) <;> omega
def iZp3 (K : PySem.W.Frag) (ta : TA) : TI := fun σ H R => ta σ H fun vs H1 => ∃ k1 k2 k3 a b c xs ys zs, vs = [.ref a, .ref b, .ref c] ∧ SqK K k1 H1 a xs ∧ SqK K k2 H1 b ys ∧ SqK K k3 H1 c zs ∧ R (It3 K k1 k2 k3 a b c) H1
theorem pi_zp3 {X : Cx} {e1 e2 e3 : Expr} {ta : TA} {p pos tpos : Pos} {elts : List Expr} {kk : Nat} (hg : Gl X "zip") (hm : X.mg "zip" = none) (ha : PA X [e1, e2, e3] ta)
    (hs : starEach [e1, e2, e3] X.env = (false, eval e1 X.env) :: starEach [e2, e3] X.env := by rfl) (hpl : (backTo pos (starEach [e2, e3] X.env)).any (·.1) = false := by rfl) :
    PI X (.Tuple elts kk tpos) (.Call (.Name "zip" p) [e1, e2, e3] [] pos) (iZp3 X.K ta) := by
  refine ⟨fun pins s σ H R I h => ?_⟩
  refine Call_ (ld_blt I hg hm PyProof.Rows.boot_zip (PyProof.Rows.callWith_type1 (thn (ha.run pos pins s σ H _ I h) fun us s1 ⟨vs, H1, I1, r1, q1⟩ => ?_) hs hpl))
  obtain ⟨k1, k2, k3, a, b, c, xs, ys, zs, ex, hqx, hqy, hqz, q⟩ := q1
  subst ex
  cases r1 with
  | cons ra rr =>
    cases rr with
    | cons rb rr =>
      cases rr with
      | cons rc rr =>
        cases rr
        cases ra; cases rb; cases rc
        obtain ⟨its1, rv1, p1⟩ := Inv.sqK I1 hqx
        obtain ⟨its2, rv2, p2⟩ := Inv.sqK I1 hqy
        obtain ⟨its3, rv3, p3⟩ := Inv.sqK I1 hqz
        refine zip_begins3 (begins_k (k := k1) a its1.toArray) (begins_k (k := k2) b its2.toArray) (begins_k (k := k3) c its3.toArray) p1 p2 p3 fun h' hz hTI hTO h1 h2 h3 hsz hk => wpAny_pyIter_zip hz ?_
        have I2 : Inv X pins σ H1 { s1 with heap := h' } := I1.kept (t' := s1.toks) hk
        have l1 := p1.lt; have l2 := p2.lt; have l3 := p3.lt
        refine ⟨s1.heap.objs.size + 5, [s1.heap.objs.size + 5, s1.heap.objs.size + 3, s1.heap.objs.size + 4, s1.heap.objs.size, s1.heap.objs.size + 1, s1.heap.objs.size + 2], _, _, H1, rfl, I2, turn_3 (k1 := k1) (k2 := k2) (k3 := k3) (sep3 l1 l2 l3) (Nat.ne_of_lt l1) (Nat.ne_of_lt (Nat.lt_succ_of_lt l2)) (Nat.ne_of_lt (Nat.lt_succ_of_lt (Nat.lt_succ_of_lt l3))), ⟨hz, hTI, ⟨_, _, _, hTO⟩, .new h1, .new h2, .new h3⟩, fun c hcm => ?_, q⟩
        have hle : s1.heap.objs.size ≤ c := by
          have e' : c = s1.heap.objs.size + 5 ∨ c = s1.heap.objs.size + 3 ∨ c = s1.heap.objs.size + 4 ∨ c = s1.heap.objs.size ∨ c = s1.heap.objs.size + 1 ∨ c = s1.heap.objs.size + 2 := by simpa using hcm
          rcases e' with q | q | q | q | q | q <;> rw [q] <;> first | exact Nat.le_add_right _ _ | exact Nat.le_refl _
        exact I1.fpOk hle (I1.hok.fresh hle)
/-! ### sequences by their items -/
/-- a sequence whose items may be handed on -/
def Ent.sq (k : Bool → List PyData → Prop) : Ent → Prop
  | .shr (.list ds) => k false ds
  | .shr (.tuple ds) => k true ds
  | .bor (.list ds) => Sols ds ∧ k false ds
  | .bor (.tuple ds) => Sols ds ∧ k true ds
  | .own ds => k false ds
  | _ => False
def sqR (sl : Slots) (r : R) (k : Bool → List PyData → Slots → Prop) : Prop := match r with
  | .e x => x.sq fun b ds => k b ds sl
  | .al i => atS sl i fun x => match x with
    | .own ds => k false ds (sl.set i (some (.shr (.list ds))))
    | x => x.sq fun b ds => k b ds sl
def sqRs : List R → Slots → (List (Bool × List PyData) → Slots → Prop) → Prop
  | [], sl, k => k [] sl
  | r :: rs, sl, k => sqR sl r fun b ds s1 => sqRs rs s1 fun xs s2 => k ((b, ds) :: xs) s2
/-- v is such a sequence, and stays it -/
def SqAt (f : Fr) (G : Hp) (v : V) (b : Bool) (ds : List PyData) : Prop := ∃ a xs, v = .ref a ∧ Reps f.q G xs ds ∧ ∀ G1 T sl σ H, Same G G1 → Rel f G1 T sl σ H → SqK f.q.K b H a xs
inductive SqAts (f : Fr) (G : Hp) : List V → List (Bool × List PyData) → Prop
  | nil : SqAts f G [] []
  | cons {v b ds vs xs} : SqAt f G v b ds → SqAts f G vs xs → SqAts f G (v :: vs) ((b, ds) :: xs)
section
variable {f : Fr} {G H : Hp} {T L : List (V × Ent)} {sl : Slots} {σ : St} {v : V}
theorem SqAt.mono {G' : Hp} {b ds} (h : SqAt f G v b ds) (e : Same G G') : SqAt f G' v b ds := by
  obtain ⟨a, xs, e1, r, k⟩ := h
  exact ⟨a, xs, e1, r.mono e, fun G1 T sl σ H e2 c => k _ _ _ _ _ (e.trans e2) c⟩
theorem SqAts.mono {G' : Hp} (e : Same G G') : ∀ {vs xs}, SqAts f G vs xs → SqAts f G' vs xs
  | _, _, .nil => .nil
  | _, _, .cons h t => .cons (h.mono e) (SqAts.mono e t)
theorem sq_shr {d : PyData} {k : Bool → List PyData → Prop} (r : Rep f.q G v d) (h : (Ent.shr d).sq k) : ∃ b ds, SqAt f G v b ds ∧ k b ds := by
  cases d with
  | list ds => cases r with | lst h1 h2 => exact ⟨false, ds, ⟨_, _, rfl, h2, fun G1 T sl σ H e c => show SqL _ _ _ _ from Same.sqL (e.trans c.core.sG) h1⟩, h⟩
  | tuple ds => cases r with | tup h1 h2 => exact ⟨true, ds, ⟨_, _, rfl, h2, fun G1 T sl σ H e c => show SqT _ _ _ _ from Same.seqT (e.trans c.core.sG) h1⟩, h⟩
  | _ => exact (show False from h).elim
theorem sq_bor {d : PyData} {k : Bool → List PyData → Prop} (c : Core f G L H) (r : Rep f.q f.U v d) (h : (Ent.bor d).sq k) : ∃ b ds, SqAt f G v b ds ∧ k b ds := by
  cases d with
  | list ds => cases r with | lst h1 h2 => exact ⟨false, ds, ⟨_, _, rfl, Reps.solid c.tU c.fU h.1 h2, fun G1 T sl σ H e c => show SqL _ _ _ _ from Same.sqL c.core.sU h1⟩, h.2⟩
  | tuple ds => cases r with | tup h1 h2 => exact ⟨true, ds, ⟨_, _, rfl, Reps.solid c.tU c.fU h.1 h2, fun G1 T sl σ H e c => show SqT _ _ _ _ from Same.seqT c.core.sU h1⟩, h.2⟩
  | _ => exact (show False from h).elim
theorem RelR.sq {r : R} {k : Bool → List PyData → Slots → Prop} (c : RelR f G T v r sl σ H) (h : sqR sl r k) : ∃ G' b ds sl', Same G G' ∧ Rel f G' T sl' σ H ∧ SqAt f G' v b ds ∧ k b ds sl' := by
  cases r with
  | e x =>
    cases x with
    | shr d => obtain ⟨b, ds, s, hk⟩ := sq_shr (k := fun b ds => k b ds sl) (c.core.shrd (v := v) (d := d) (by simp)) h; exact ⟨G, b, ds, sl, Same.refl _, c.base, s, hk⟩
    | bor d => obtain ⟨b, ds, s, hk⟩ := sq_bor (k := fun b ds => k b ds sl) c.core (c.core.bord (v := v) (d := d) (by simp)) h; exact ⟨G, b, ds, sl, Same.refl _, c.base, s, hk⟩
    | own ds =>
      obtain ⟨G', s, c'⟩ := Core.freeze (show Core _ G ((v, .own ds) :: (T ++ slotRes σ sl)) H from c.core) .own
      obtain ⟨b, ds', s', hk⟩ := sq_shr (f := f) (k := fun b ds => k b ds sl) (c'.shrd (v := v) (d := .list ds) (by simp)) h
      exact ⟨G', b, ds', sl, s, ⟨c'.drop, c.wf⟩, s', hk⟩
    | _ => exact (show False from h).elim
  | al i =>
    obtain ⟨x, hs, h⟩ := atS_iff h
    cases x with
    | shr d => obtain ⟨b, ds, s, hk⟩ := sq_shr (k := fun b ds => k b ds sl) (c.1.core.shrd (c.1.slot hs c.2)) h; exact ⟨G, b, ds, sl, Same.refl _, c.1, s, hk⟩
    | bor d => obtain ⟨b, ds, s, hk⟩ := sq_bor (k := fun b ds => k b ds sl) c.1.core (c.1.core.bord (c.1.slot hs c.2)) h; exact ⟨G, b, ds, sl, Same.refl _, c.1, s, hk⟩
    | own ds =>
      have o := c.1.out hs c.2
      obtain ⟨G', s, c'⟩ := Core.freeze (show Core f G ((v, .own ds) :: (T ++ slotRes σ (sl.set i none))) H from o.core) .own
      obtain ⟨b, ds', s', hk⟩ := sq_shr (f := f) (k := fun b ds => k b ds (sl.set i (some (.shr (.list ds))))) (d := .list ds) (c'.shrd (v := v) (by simp)) (show k false ds _ from h)
      exact ⟨G', false, ds, _, s, Rel.put' ⟨c', o.wf⟩ (Rel.lt hs) c.2, by
        obtain ⟨b2, ds2, s2, hk2⟩ := sq_shr (f := f) (k := fun b ds' => b = false ∧ ds' = ds) (d := .list ds) (c'.shrd (v := v) (by simp)) (show false = false ∧ ds = ds from ⟨rfl, rfl⟩)
        obtain ⟨rfl, rfl⟩ := hk2
        exact s2, h⟩
    | _ => exact (show False from h).elim
theorem flat_sq : ∀ {vs : List V} {rs : List R} {G : Hp} {sl : Slots} {k : List (Bool × List PyData) → Slots → Prop}, Rel f G (psh vs rs ++ T) sl σ H → alOk σ vs rs → sqRs rs sl k → ∃ G' xs sl', Same G G' ∧ Rel f G' T sl' σ H ∧ SqAts f G' vs xs ∧ k xs sl'
  | [], [], G, sl, k, c, _, h => ⟨G, [], sl, Same.refl _, c, .nil, h⟩
  | v :: vs, .e x :: rs, G, sl, k, c, o, h => by
    obtain ⟨G1, b, ds, s1, e1, c1, r1, h1⟩ := RelR.sq (r := .e x) (v := v) (T := psh vs rs ++ T) c h
    obtain ⟨G2, xs, s2, e2, c2, r2, h2⟩ := flat_sq (vs := vs) (rs := rs) c1 o h1
    exact ⟨G2, _, s2, e1.trans e2, c2, .cons (r1.mono e2) r2, h2⟩
  | v :: vs, .al i :: rs, G, sl, k, c, o, h => by
    obtain ⟨G1, b, ds, s1, e1, c1, r1, h1⟩ := RelR.sq (r := .al i) (v := v) (T := psh vs rs ++ T) ⟨c, o.1⟩ h
    obtain ⟨G2, xs, s2, e2, c2, r2, h2⟩ := flat_sq (vs := vs) (rs := rs) c1 o.2 h1
    exact ⟨G2, _, s2, e1.trans e2, c2, .cons (r1.mono e2) r2, h2⟩
  | [], _ :: _, _, _, _, _, o, _ => (show False from o).elim
  | _ :: _, [], _, _, _, _, o, _ => (show False from o).elim
theorem RelRs.sq {vs : List V} {rs : List R} {k : List (Bool × List PyData) → Slots → Prop} (c : RelRs f G T vs rs sl σ H) (h : sqRs rs sl k) : ∃ G' xs sl', Same G G' ∧ Rel f G' T sl' σ H ∧ SqAts f G' vs xs ∧ k xs sl' := by
  obtain ⟨a, b⟩ := c.flat
  exact flat_sq a b h
end
def zip2 : List PyData → List PyData → List Ent
  | x :: xs, y :: ys => .shr (.tuple [x, y]) :: zip2 xs ys
  | _, _ => []
def zip3 : List PyData → List PyData → List PyData → List Ent
  | x :: xs, y :: ys, z :: zs => .shr (.tuple [x, y, z]) :: zip3 xs ys zs
  | _, _, _ => []
theorem zip2_len : ∀ xs ys, (zip2 xs ys).length = min xs.length ys.length
  | [], _ => by simp [zip2]
  | _ :: _, [] => by simp [zip2]
  | x :: xs, y :: ys => by simp [zip2, zip2_len xs ys]
theorem zip3_len : ∀ xs ys zs, (zip3 xs ys zs).length = min xs.length (min ys.length zs.length)
  | [], _, _ => by simp [zip3]
  | _ :: _, [], _ => by simp [zip3]
  | _ :: _, _ :: _, [] => by simp [zip3]
  | x :: xs, y :: ys, z :: zs => by simp [zip3, zip3_len xs ys zs]
theorem zip2_get : ∀ {xs ys : List PyData} {i : Nat} {e : Ent}, (zip2 xs ys)[i]? = some e → ∃ x y, xs[i]? = some x ∧ ys[i]? = some y ∧ e = .shr (.tuple [x, y])
  | x :: xs, y :: ys, 0, e, h => by simp [zip2] at h; exact ⟨x, y, rfl, rfl, h.symm⟩
  | x :: xs, y :: ys, i + 1, e, h => by simp [zip2] at h; simpa using zip2_get h
  | [], _, _, _, h => by simp [zip2] at h
  | _ :: _, [], _, _, h => by simp [zip2] at h
theorem zip3_get : ∀ {xs ys zs : List PyData} {i : Nat} {e : Ent}, (zip3 xs ys zs)[i]? = some e → ∃ x y z, xs[i]? = some x ∧ ys[i]? = some y ∧ zs[i]? = some z ∧ e = .shr (.tuple [x, y, z])
  | x :: xs, y :: ys, z :: zs, 0, e, h => by simp [zip3] at h; exact ⟨x, y, z, rfl, rfl, rfl, h.symm⟩
  | x :: xs, y :: ys, z :: zs, i + 1, e, h => by simp [zip3] at h; simpa using zip3_get h
  | [], _, _, _, _, h => by simp [zip3] at h
  | _ :: _, [], _, _, _, h => by simp [zip3] at h
  | _ :: _, _ :: _, [], _, _, h => by simp [zip3] at h
/-- what the library's zip of two gives, by kind -/
def It2 (K : PySem.W.Frag) (k : Bool) (a b : Addr) : It := if k = true then RZ.ItzT K a b else Itz K a b
theorem walk_2 {K : PySem.W.Frag} {k : Bool} {a b : Addr} {xs ys : List V} : Walk (It2 K k a b) (min xs.length ys.length) (fun H => SqK K k H a xs ∧ SqK K k H b ys)
    (YPair (fun i => xs[i]?) (fun i => ys[i]?)) := by
  cases k with
  | false => exact walk_zip rfl
  | true =>
    constructor
    · intro i H hi q
      exact ⟨xs, ys, xs[i]'(by omega), ys[i]'(by omega), q.1, q.2, by simp, by simp⟩
    · intro H q
      exact ⟨xs, ys, q.1, q.2, by omega⟩
    · rintro i H v H' _ q ⟨t, x, y, h1, h2, h3, h4, h5⟩
      exact ⟨t, x, y, h1, h2, h3, h4 xs q.1, h5 ys q.2⟩
theorem walk_3 {K : PySem.W.Frag} {k1 k2 k3 : Bool} {a b c : Addr} {xs ys zs : List V} : Walk (It3 K k1 k2 k3 a b c) (min xs.length (min ys.length zs.length)) (fun H => SqK K k1 H a xs ∧ SqK K k2 H b ys ∧ SqK K k3 H c zs)
    (fun i H v H' => ∃ T x y z, v = .ref T ∧ H T = none ∧ H' = upd H T (.tup [x, y, z]) ∧ xs[i]? = some x ∧ ys[i]? = some y ∧ zs[i]? = some z) where
  goes := fun i H hi q => ⟨xs, ys, zs, _, _, _, q.1, q.2.1, q.2.2, List.getElem?_eq_getElem (by omega), List.getElem?_eq_getElem (by omega), List.getElem?_eq_getElem (by omega)⟩
  yields := fun i H v H' hi q y => by
    obtain ⟨T, x, y, z, e1, e2, e3, e4, e5, e6⟩ := y
    exact ⟨T, x, y, z, e1, e2, e3, e4 _ q.1, e5 _ q.2.1, e6 _ q.2.2⟩
  stops := fun H q => ⟨xs, ys, zs, q.1, q.2.1, q.2.2, by omega, by omega, by omega, by omega⟩
/-- a new tuple of items -/
theorem Rel.newTupE {f : Fr} {G H : Hp} {T : List (V × Ent)} {sl : Slots} {σ : St} {t : Addr} {vs : List V} {ds : List PyData} (c : Rel f G T sl σ H) (ht : H t = none) (r : Reps f.q G vs ds) :
    ∃ G', Same G G' ∧ Rel f G' ((.ref t, .shr (.tuple ds)) :: T) sl σ (upd H t (.tup vs)) := by
  obtain ⟨c1, s1⟩ := c.core.newTup (vs := vs) ht
  exact ⟨_, s1, c1.addShr (.tup (SqT.of upd_same) (r.mono s1)), c.wf⟩
theorem src_2 {f : Fr} {G : Hp} {k : Bool} {a b : Addr} {xs ys : List V} {ds es : List PyData} (r1 : Reps f.q G xs ds) (r2 : Reps f.q G ys es)
    (q1 : ∀ G1 T sl σ H, Same G G1 → Rel f G1 T sl σ H → SqK f.q.K k H a xs) (q2 : ∀ G1 T sl σ H, Same G G1 → Rel f G1 T sl σ H → SqK f.q.K k H b ys) : Src f G (It2 f.q.K k a b) (zip2 ds es) := by
  have w := walk_2 (K := f.q.K) (k := k) (a := a) (b := b) (xs := xs) (ys := ys)
  rw [r1.length, r2.length, ← zip2_len] at w
  refine ⟨_, _, w, fun G1 T sl σ H e c => ⟨q1 _ _ _ _ _ e c, q2 _ _ _ _ _ e c⟩, fun i e x H H' G1 T sl σ hi e1 c y => ?_⟩
  obtain ⟨t, x, y, rfl, ht, rfl, hx, hy⟩ := y
  obtain ⟨d, d2, hd, hd2, rfl⟩ := zip2_get hi
  obtain ⟨u, hu, ru⟩ := r1.get hd
  obtain ⟨u2, hu2, ru2⟩ := r2.get hd2
  have hx : xs[i]? = some x := hx
  have hy : ys[i]? = some y := hy
  rw [hx] at hu; rw [hy] at hu2
  cases hu; cases hu2
  exact Rel.newTupE c ht (.cons (ru.mono e1) (.cons (ru2.mono e1) .nil))
theorem src_3 {f : Fr} {G : Hp} {k1 k2 k3 : Bool} {a b c : Addr} {xs ys zs : List V} {ds es gs : List PyData} (r1 : Reps f.q G xs ds) (r2 : Reps f.q G ys es) (r3 : Reps f.q G zs gs)
    (q1 : ∀ G1 T sl σ H, Same G G1 → Rel f G1 T sl σ H → SqK f.q.K k1 H a xs) (q2 : ∀ G1 T sl σ H, Same G G1 → Rel f G1 T sl σ H → SqK f.q.K k2 H b ys) (q3 : ∀ G1 T sl σ H, Same G G1 → Rel f G1 T sl σ H → SqK f.q.K k3 H c zs) : Src f G (It3 f.q.K k1 k2 k3 a b c) (zip3 ds es gs) := by
  have w := walk_3 (K := f.q.K) (k1 := k1) (k2 := k2) (k3 := k3) (a := a) (b := b) (c := c) (xs := xs) (ys := ys) (zs := zs)
  rw [r1.length, r2.length, r3.length, ← zip3_len] at w
  refine ⟨_, _, w, fun G1 T sl σ H e c => ⟨q1 _ _ _ _ _ e c, q2 _ _ _ _ _ e c, q3 _ _ _ _ _ e c⟩, fun i e x H H' G1 T sl σ hi e1 c y => ?_⟩
  obtain ⟨t, x, y, z, rfl, ht, rfl, hx, hy, hz⟩ := y
  obtain ⟨d, d2, d3, hd, hd2, hd3, rfl⟩ := zip3_get hi
  obtain ⟨u, hu, ru⟩ := r1.get hd
  obtain ⟨u2, hu2, ru2⟩ := r2.get hd2
  obtain ⟨u3, hu3, ru3⟩ := r3.get hd3
  rw [hx] at hu; rw [hy] at hu2; rw [hz] at hu3
  cases hu; cases hu2; cases hu3
  exact Rel.newTupE c ht (.cons (ru.mono e1) (.cons (ru2.mono e1) (.cons (ru3.mono e1) .nil)))
def iZ2 (wa : WA) : WI := fun sl Q => wa sl fun rs s1 => sqRs rs s1 fun xs s2 => match xs with
  | [(b, ds), (b', es)] => b = b' ∧ Q (zip2 ds es) s2
  | _ => False
def iZ3 (wa : WA) : WI := fun sl Q => wa sl fun rs s1 => sqRs rs s1 fun xs s2 => match xs with
  | [(_, ds), (_, es), (_, gs)] => Q (zip3 ds es gs) s2
  | _ => False
section
variable {X : Cx} {wa : WA} {p pos tpos : Pos} {elts : List Expr} {kk : Nat}
theorem i_z2 {e1 e2 : Expr} (hg : Gl X "zip") (hm : X.mg "zip" = none) (ha : PVA X [e1, e2] wa)
    (hs : starEach [e1, e2] X.env = (false, eval e1 X.env) :: starEach [e2] X.env := by rfl) (hpl : (backTo pos (starEach [e2] X.env)).any (·.1) = false := by rfl) :
    PVI X (.Tuple elts kk tpos) (.Call (.Name "zip" p) [e1, e2] [] pos) (iZ2 wa) :=
  PI.imp (RZ.pi_zipA hg hm ha hs hpl) fun σ H Rr ⟨U, G0, G, T, sl, Qv, c, h, k⟩ => ⟨U, G0, G, T, sl, _, c, h, fun rs s1 hq G1 vs H1 e1 c1 => by
    obtain ⟨G2, xs, s2, e2, c2, hA, hk⟩ := c1.sq hq
    match xs, hk with
    | [(b1, ds), (b2, es)], hk =>
      cases hA with
      | cons h1 hA =>
        cases hA with
        | cons h2 hA =>
          cases hA
          obtain ⟨a, xs, rfl, r1, q1⟩ := h1
          obtain ⟨b, ys, rfl, r2, q2⟩ := h2
          obtain ⟨rfl, hk⟩ := hk
          have w1 := q1 _ _ _ _ _ (Same.refl _) c2
          have w2 := q2 _ _ _ _ _ (Same.refl _) c2
          have fin := k _ _ hk _ _ _ (e1.trans e2) c2 (src_2 r1 r2 q1 q2)
          refine ⟨a, b, xs, ys, rfl, ?_⟩
          cases b1 with
          | false => exact .inl ⟨w1, w2, fin⟩
          | true => exact .inr ⟨w1, w2, fin⟩⟩
theorem i_z3 {e1 e2 e3 : Expr} (hg : Gl X "zip") (hm : X.mg "zip" = none) (ha : PVA X [e1, e2, e3] wa)
    (hs : starEach [e1, e2, e3] X.env = (false, eval e1 X.env) :: starEach [e2, e3] X.env := by rfl) (hpl : (backTo pos (starEach [e2, e3] X.env)).any (·.1) = false := by rfl) :
    PVI X (.Tuple elts kk tpos) (.Call (.Name "zip" p) [e1, e2, e3] [] pos) (iZ3 wa) :=
  PI.imp (pi_zp3 hg hm ha hs hpl) fun σ H Rr ⟨U, G0, G, T, sl, Qv, c, h, k⟩ => ⟨U, G0, G, T, sl, _, c, h, fun rs s1 hq G1 vs H1 e1 c1 => by
    obtain ⟨G2, xs, s2, e2, c2, hA, hk⟩ := c1.sq hq
    match xs, hk with
    | [(b1, ds), (b2, es), (b3, gs)], hk =>
      cases hA with
      | cons h1 hA =>
        cases hA with
        | cons h2 hA =>
          cases hA with
          | cons h3 hA =>
            cases hA
            obtain ⟨a, xs, rfl, r1, q1⟩ := h1
            obtain ⟨b, ys, rfl, r2, q2⟩ := h2
            obtain ⟨c, zs, rfl, r3, q3⟩ := h3
            exact ⟨b1, b2, b3, a, b, c, xs, ys, zs, rfl, q1 _ _ _ _ _ (Same.refl _) c2, q2 _ _ _ _ _ (Same.refl _) c2, q3 _ _ _ _ _ (Same.refl _) c2, k _ _ hk _ _ _ (e1.trans e2) c2 (src_3 r1 r2 r3 q1 q2 q3)⟩⟩
end
end VV

/-! V13: calls of built-ins; isinstance; list items stored; a list unpacked -/
namespace VV
open PySem PySem.Spec L2
open PyProof.Rows hiding St

/-! ### all of several results read -/
def datsR : List R → Slots → (List PyData → Prop) → Prop
  | [], _, k => k []
  | r :: rs, sl, k => datR sl r fun d => datsR rs sl fun ds => k (d :: ds)
section
variable {f : Fr} {G H : Hp} {T L : List (V × Ent)} {sl : Slots} {σ : St} {v : V}
theorem flat_dats : ∀ {vs : List V} {rs : List R} {T : List (V × Ent)} {k : List PyData → Prop}, Rel f G (psh vs rs ++ T) sl σ H → alOk σ vs rs → datsR rs sl k → ∃ ds, Reps f.q H vs ds ∧ k ds
  | [], [], _, k, c, _, h => ⟨[], .nil, h⟩
  | v :: vs, .e x :: rs, T, k, c, o, h => by
    obtain ⟨d, hd, h⟩ := RelR.dat (r := .e x) (v := v) (T := psh vs rs ++ T) c h
    obtain ⟨ds, hds, h⟩ := flat_dats (vs := vs) (rs := rs) (T := T) ⟨Core.drop (v := v) (e := x) c.core, c.wf⟩ o h
    exact ⟨d :: ds, .cons hd hds, h⟩
  | v :: vs, .al i :: rs, T, k, c, o, h => by
    obtain ⟨d, hd, h⟩ := RelR.dat (r := .al i) (v := v) (T := psh vs rs ++ T) ⟨c, o.1⟩ h
    obtain ⟨ds, hds, h⟩ := flat_dats (vs := vs) (rs := rs) (T := T) c o.2 h
    exact ⟨d :: ds, .cons hd hds, h⟩
  | [], _ :: _, _, _, _, o, _ => (show False from o).elim
  | _ :: _, [], _, _, _, o, _ => (show False from o).elim
theorem RelRs.dats {vs : List V} {rs : List R} {k : List PyData → Prop} (c : RelRs f G T vs rs sl σ H) (h : datsR rs sl k) : ∃ ds, Reps f.q H vs ds ∧ k ds := by
  obtain ⟨a, b⟩ := c.flat
  exact flat_dats a b h
end
/-- a call that reads its arguments and gives plain data -/
def cRd (F : List PyData → (PyData → Prop) → Prop) : CV := fun rs sl Q => datsR rs sl fun ds => F ds fun d => Sol d ∧ Q (.e (.shr d)) sl
def eCB (o : CV) (wa : WA) : WE := fun sl Q => wa sl fun rs s1 => o rs s1 Q
theorem tCB_lift {q : Px} {o : CV} {wa : WA} : ∀ σ H Q, liftE q (eCB o wa) σ H Q → tCB (liftC q o) (liftA q wa) σ H Q := fun σ H Q ⟨U, G0, G, T, sl, Qv, c, h, k⟩ =>
  ⟨U, G0, G, T, sl, _, c, h, fun rs s1 hq G1 vs H1 e1 c1 => ⟨U, G0, G1, T, s1, σ, rs, _, c1, hq, fun r s2 hq2 G2 v H2 e2 c2 => k _ _ hq2 _ _ _ (e1.trans e2) c2⟩⟩
section
variable {X : Cx} {x : Str} {p pos : Pos} {e : Expr} {es : List Expr} {wa : WA} {id T : String} {o : CV}
theorem v_callB (hc : CallR X (.builtin id) (liftC (pxOf X) o)) (hg : Gl X x) (hm : X.mg x = none) (hv : bootBuiltins x = some (.builtin id)) (ha : PVA X (e :: es) wa) (hn : x ≠ "__name__" := by decide) (hdb : (x == ("__debug__" : Str)) = false := by decide)
    (he : starEach (e :: es) X.env = (false, eval e X.env) :: starEach es X.env := by rfl) (hpl : (backTo pos (starEach es X.env)).any (·.1) = false := by rfl) : PV X (.Call (.Name x p) (e :: es) [] pos) (eCB o wa) :=
  PE.imp (pe_callB hc hg hm hv ha hn hdb he hpl) tCB_lift
theorem v_callTy (hc : CallR X (.type T) (liftC (pxOf X) o)) (hg : Gl X x) (hm : X.mg x = none) (hv : bootBuiltins x = some (.type T)) (ha : PVA X (e :: es) wa) (hn : x ≠ "__name__" := by decide) (hdb : (x == ("__debug__" : Str)) = false := by decide)
    (he : starEach (e :: es) X.env = (false, eval e X.env) :: starEach es X.env := by rfl) (hpl : (backTo pos (starEach es X.env)).any (·.1) = false := by rfl) : PV X (.Call (.Name x p) (e :: es) [] pos) (eCB o wa) :=
  PE.imp (pe_callTy hc hg hm hv ha hn hdb he hpl) tCB_lift
/-- a built-in's name -/
def eRaw (v : V) : WE := fun sl Q => Q (.e (.raw v)) sl
theorem v_bltn {v : V} {u : Value} (hg : Gl X x) (hm : X.mg x = none) (hv : bootBuiltins x = some u) (r : RelV v u) (hn : x ≠ "__name__" := by decide) (hd : (x == ("__debug__" : Str)) = false := by decide) : PV X (.Name x pos) (eRaw v) :=
  PE.imp (pe_bltn hg hm hv r hn hd) fun σ H Q ⟨U, G0, G, T, sl, Qv, c, w, k⟩ => k _ _ w G v H (Same.refl _) ⟨c.core.addRaw, c.wf⟩

/-! ### reading ones -/
theorem rd_of {f : Value} {r : List V → Hp → VK → Prop} {F : List PyData → (PyData → Prop) → Prop} (h : CallR X f r)
    (k : ∀ (q : Px) (H : Hp) (vs : List V) (ds : List PyData) (kd : PyData → Prop) (Q : VK), q = pxOf X → Reps q H vs ds → F ds kd → (∀ v d, kd d → Rep q H v d → Q v H) → r vs H Q) : CallR X f (liftC (pxOf X) (cRd F)) :=
  CallR.imp h fun vs H Q ⟨U, G0, G, T, sl, σ, rs, Qv, c, w, kk⟩ => by
    obtain ⟨ds, rd, w⟩ := c.dats w
    refine k (pxOf X) H vs ds _ Q rfl rd w fun v d hd rv => ?_
    exact kk _ _ hd.2 G v H (Same.refl _) ⟨Core.addShr c.base.core (Rep.solid c.base.core.tups c.base.core.frzs hd.1 rv), c.base.wf⟩
end

def fLen (ds : List PyData) (k : PyData → Prop) : Prop := match ds with
  | [.list xs] => xs.length ≤ sizeLine ∧ k (.int xs.length)
  | [.tuple xs] => k (.int xs.length)
  | _ => False
def fLenL : CV := fun rs sl Q => match rs with
  | [r] => datR sl r fun d => match d with
    | .list xs => Q (.e (.shr (.int xs.length))) sl
    | .tuple xs => Q (.e (.shr (.int xs.length))) sl
    | .str x => x.length ≤ sizeLine ∧ Q (.e (.shr (.int x.length))) sl
    | _ => False
  | _ => False
def fSum (ds : List PyData) (k : PyData → Prop) : Prop := match ds with
  | [.list xs] => ∃ ns : List Int, xs = ns.map .int ∧ k (.int ns.sum)
  | _ => False
def fMin2 (ds : List PyData) (k : PyData → Prop) : Prop := match ds with
  | [.int i, .int j] => k (.int (if j < i then j else i))
  | _ => False
def fMax2 (ds : List PyData) (k : PyData → Prop) : Prop := match ds with
  | [.int i, .int j] => k (.int (if j > i then j else i))
  | _ => False
def fMaxL (ds : List PyData) (k : PyData → Prop) : Prop := match ds with
  | [.list xs] => ∃ ns : List Int, xs = ns.map .int ∧ 0 < ns.length ∧ ∀ m, m ∈ ns → (∀ y, y ∈ ns → y ≤ m) → k (.int m)
  | _ => False
def fMinL (ds : List PyData) (k : PyData → Prop) : Prop := match ds with
  | [.list xs] => ∃ ns : List Int, xs = ns.map .int ∧ 0 < ns.length ∧ ∀ m, m ∈ ns → (∀ y, y ∈ ns → m ≤ y) → k (.int m)
  | _ => False
def fAny (ds : List PyData) (k : PyData → Prop) : Prop := match ds with
  | [.list xs] => ∃ bs : List Bool, xs = bs.map .bool ∧ k (.bool (bs.any id))
  | _ => False
def fAll (ds : List PyData) (k : PyData → Prop) : Prop := match ds with
  | [.list xs] => ∃ bs : List Bool, xs = bs.map .bool ∧ k (.bool (bs.all id))
  | _ => False
def fInt (ds : List PyData) (k : PyData → Prop) : Prop := match ds with
  | [.int i] => k (.int i)
  | [.bool b] => k (.int (if b = true then 1 else 0))
  | _ => False
theorem Reps.bls {q : Px} {H : Hp} : ∀ {bs : List Bool} {vs : List V}, Reps q H vs (bs.map .bool) → vs = bs.map .bl
  | [], _, .nil => rfl
  | n :: ns, _, .cons h r => by cases h; rw [Reps.bls r]; rfl
theorem reps1 {q : Px} {H : Hp} {vs : List V} {d : PyData} (h : Reps q H vs [d]) : ∃ v, vs = [v] ∧ Rep q H v d := by
  cases h with | cons a t => cases t; exact ⟨_, rfl, a⟩
theorem reps2 {q : Px} {H : Hp} {vs : List V} {d e : PyData} (h : Reps q H vs [d, e]) : ∃ v w, vs = [v, w] ∧ Rep q H v d ∧ Rep q H w e := by
  cases h with | cons a t => cases t with | cons b t => cases t; exact ⟨_, _, rfl, a, b⟩
section
variable {X : Cx}
theorem c_len : CallR X (.builtin "len") (liftC (pxOf X) fLenL) := CallR.imp call_len fun vs H Q ⟨U, G0, G, T, sl, σ, rs, Qv, c, w, kk⟩ => by
  match rs, vs, c, w with
  | [r], [v], c, w =>
    have cv : RelR ⟨pxOf X, U, G0⟩ G T v r sl σ H := by cases r with | e _ => exact c | al _ => exact ⟨c.2, c.1⟩
    obtain ⟨d, hd, w⟩ := cv.dat w
    cases hd with
    | lst h r => exact ⟨_, _, rfl, .inl ⟨_, h, rfl⟩, kk _ _ w G _ H (Same.refl _) (by rw [← r.length]; exact ⟨c.base.core.addShr (.int _), c.base.wf⟩)⟩
    | tup h r => exact ⟨_, _, rfl, .inr ⟨_, h, rfl⟩, kk _ _ w G _ H (Same.refl _) (by rw [← r.length]; exact ⟨c.base.core.addShr (.int _), c.base.wf⟩)⟩
    | str x => exact ⟨_, _, rfl, ⟨w.1, rfl⟩, kk _ _ w.2 G _ H (Same.refl _) ⟨c.base.core.addShr (.int _), c.base.wf⟩⟩
    | _ => exact w.elim
  | [r], v :: u :: us, c, w => cases r with | e _ => exact (show False from c).elim | al _ => exact (show False from c.2).elim
  | [r], [], c, w => exact (show False from c).elim
theorem c_sum (hc : X.calm = true) : CallR X (.builtin "sum") (liftC (pxOf X) (cRd fSum)) := rd_of (cr_sum hc) fun q H vs ds kd Q hq r h k => by
  subst hq
  unfold fSum at h
  split at h
  · obtain ⟨ns, rfl, h⟩ := h
    obtain ⟨v, rfl, rv⟩ := reps1 r
    cases rv with | lst h1 h2 => exact ⟨_, ns, rfl, (by rw [← h2.ints]; exact h1), k _ _ h (.int _)⟩
  · exact h.elim
theorem c_min2 (hc : X.calm = true) : CallR X (.builtin "min") (liftC (pxOf X) (cRd fMin2)) := rd_of (call_min2 hc) fun q H vs ds kd Q hq r h k => by
  subst hq
  unfold fMin2 at h
  split at h
  · obtain ⟨v, u, rfl, rv, ru⟩ := reps2 r
    exact ⟨_, _, by rw [ints_of rv, ints_of ru], k _ _ h (.int _)⟩
  · exact h.elim
theorem c_max2 (hc : X.calm = true) : CallR X (.builtin "max") (liftC (pxOf X) (cRd fMax2)) := rd_of (call_max2 hc) fun q H vs ds kd Q hq r h k => by
  subst hq
  unfold fMax2 at h
  split at h
  · obtain ⟨v, u, rfl, rv, ru⟩ := reps2 r
    exact ⟨_, _, by rw [ints_of rv, ints_of ru], k _ _ h (.int _)⟩
  · exact h.elim
theorem c_maxL (hc : X.calm = true) : CallR X (.builtin "max") (liftC (pxOf X) (cRd fMaxL)) := rd_of (cr_max hc) fun q H vs ds kd Q hq r h k => by
  subst hq
  unfold fMaxL at h
  split at h
  · obtain ⟨ns, rfl, hn, h⟩ := h
    obtain ⟨v, rfl, rv⟩ := reps1 r
    cases rv with | lst h1 h2 => exact ⟨_, ns, rfl, (by rw [← h2.ints]; exact h1), hn, fun m hm hy => k _ _ (h m hm hy) (.int _)⟩
  · exact h.elim
theorem c_minL (hc : X.calm = true) : CallR X (.builtin "min") (liftC (pxOf X) (cRd fMinL)) := rd_of (cr_min hc) fun q H vs ds kd Q hq r h k => by
  subst hq
  unfold fMinL at h
  split at h
  · obtain ⟨ns, rfl, hn, h⟩ := h
    obtain ⟨v, rfl, rv⟩ := reps1 r
    cases rv with | lst h1 h2 => exact ⟨_, ns, rfl, (by rw [← h2.ints]; exact h1), hn, fun m hm hy => k _ _ (h m hm hy) (.int _)⟩
  · exact h.elim
theorem c_any (hc : X.calm = true) : CallR X (.builtin "any") (liftC (pxOf X) (cRd fAny)) := rd_of (cr_any hc) fun q H vs ds kd Q hq r h k => by
  subst hq
  unfold fAny at h
  split at h
  · obtain ⟨ns, rfl, h⟩ := h
    obtain ⟨v, rfl, rv⟩ := reps1 r
    cases rv with | lst h1 h2 => exact ⟨_, ns, rfl, (by rw [← h2.bls]; exact h1), k _ _ h (.bl _)⟩
  · exact h.elim
theorem c_all (hc : X.calm = true) : CallR X (.builtin "all") (liftC (pxOf X) (cRd fAll)) := rd_of (cr_all hc) fun q H vs ds kd Q hq r h k => by
  subst hq
  unfold fAll at h
  split at h
  · obtain ⟨ns, rfl, h⟩ := h
    obtain ⟨v, rfl, rv⟩ := reps1 r
    cases rv with | lst h1 h2 => exact ⟨_, ns, rfl, (by rw [← h2.bls]; exact h1), k _ _ h (.bl _)⟩
  · exact h.elim
theorem c_int : CallR X (.type "int") (liftC (pxOf X) (cRd fInt)) := rd_of call_int1 fun q H vs ds kd Q hq r h k => by
  subst hq
  unfold fInt at h
  split at h
  · obtain ⟨v, rfl, rv⟩ := reps1 r
    exact .inl ⟨_, by rw [ints_of rv], k _ _ h (.int _)⟩
  · obtain ⟨v, rfl, rv⟩ := reps1 r
    cases rv
    exact .inr ⟨_, rfl, k _ _ h (.int _)⟩
  · exact h.elim

/-! ### tuple(..), list(..) -/
def Ent.sq1 (k : Bool → List PyData → Prop) : Ent → Prop := Ent.sq k
def ltR (sl : Slots) (r : R) (k : Bool → List PyData → Prop) : Prop := match r with
  | .e x => x.sq k
  | .al i => atS sl i (Ent.sq k)
theorem RelR.lt {f : Fr} {G H : Hp} {T : List (V × Ent)} {sl : Slots} {σ : St} {v : V} {r : R} (c : RelR f G T v r sl σ H) {k} (h : ltR sl r k) :
    ∃ a vs b ds, v = .ref a ∧ SqK f.q.K b H a vs ∧ Reps f.q G vs ds ∧ (b = true → SqT f.q.K G a vs) ∧ k b ds := by
  obtain ⟨L, x, c', hm, h⟩ := RelR.in (K := Ent.sq k) c (by cases r <;> exact h)
  cases x with
  | shr d =>
    have := c'.shrd hm
    cases d with
    | list ds => cases this with | lst h1 h2 => exact ⟨_, _, false, _, rfl, Same.sqL c'.sG h1, h2, nofun, h⟩
    | tuple ds => cases this with | tup h1 h2 => exact ⟨_, _, true, _, rfl, Same.seqT c'.sG h1, h2, fun _ => h1, h⟩
    | _ => exact (show False from h).elim
  | bor d =>
    have := c'.bord hm
    cases d with
    | list ds => cases this with | lst h1 h2 => exact ⟨_, _, false, _, rfl, Same.sqL c'.sU h1, Reps.solid c'.tU c'.fU h.1 h2, nofun, h.2⟩
    | tuple ds =>
      cases this with
      | tup h1 h2 =>
        refine ⟨_, _, true, _, rfl, Same.seqT c'.sU h1, Reps.solid c'.tU c'.fU h.1 h2, fun _ => ?_, h.2⟩
        cases Rep.solid (d := .tuple ds) c'.tU c'.fU h.1 (.tup h1 h2) with | tup h3 h4 => ?_
        rcases h1 with h1 | h1
        · rcases h1 with h1 | ⟨o, h1⟩
          · exact .inl (.inl (c'.tU _ _ h1))
          · exact .inl (.inr ⟨o, c'.fU _ _ _ h1⟩)
        · exact .inr h1
    | _ => exact (show False from h).elim
  | own ds =>
    obtain ⟨p, vs, rfl, hp, rr⟩ := c'.ownd hm
    exact ⟨_, _, false, _, rfl, .inl (.inl hp), rr, nofun, h⟩
  | _ => exact (show False from h).elim
def cTup : CV := fun rs sl Q => match rs with
  | [r] => ltR sl r fun _ ds => Q (.e (.shr (.tuple ds))) sl
  | _ => False
def cLst : CV := fun rs sl Q => match rs with
  | [r] => ltR sl r fun _ ds => Q (.e (.own ds)) sl
  | _ => False
theorem one_of {f : Fr} {G H : Hp} {T : List (V × Ent)} {sl : Slots} {σ : St} {vs : List V} {r : R} (c : RelRs f G T vs [r] sl σ H) : ∃ v, vs = [v] ∧ RelR f G T v r sl σ H := by
  match vs, c with
  | [v], c => exact ⟨v, rfl, by cases r with | e _ => exact c | al _ => exact ⟨c.2, c.1⟩⟩
  | v :: u :: us, c => cases r with | e _ => exact (show False from c).elim | al _ => exact (show False from c.2).elim
  | [], c => exact (show False from c).elim
theorem c_tuple : CallR X (.type "tuple") (liftC (pxOf X) cTup) := CallR.imp call_tuple_of fun vs H Q ⟨U, G0, G, T, sl, σ, rs, Qv, c, w, kk⟩ => by
  match rs, c, w with
  | [r], c, w =>
    obtain ⟨v, rfl, cv⟩ := one_of c
    obtain ⟨a, us, b, ds, rfl, hs, hr, ht, hk⟩ := cv.lt w
    cases b with
    | false =>
      refine ⟨a, us, rfl, .inl ⟨hs, fun p hp => ?_⟩⟩
      obtain ⟨G', s, c2⟩ := Rel.newTupE c.base hp hr
      exact kk _ _ hk G' _ _ s c2
    | true => exact ⟨a, us, rfl, .inr ⟨hs, kk _ _ hk G _ _ (Same.refl _) ⟨c.base.core.addShr (.tup (ht rfl) hr), c.base.wf⟩⟩⟩
theorem c_list : CallR X (.type "list") (liftC (pxOf X) cLst) := CallR.imp call_list_of fun vs H Q ⟨U, G0, G, T, sl, σ, rs, Qv, c, w, kk⟩ => by
  match rs, c, w with
  | [r], c, w =>
    obtain ⟨v, rfl, cv⟩ := one_of c
    obtain ⟨a, us, b, ds, rfl, hs, hr, ht, hk⟩ := cv.lt w
    refine ⟨a, us, rfl, by cases b <;> first | exact .inl hs | exact .inr hs, fun p hp => ?_⟩
    exact kk _ _ hk G _ _ (Same.refl _) ⟨c.base.core.newOwn hp hr, c.base.wf⟩

/-! ### isinstance -/
def tyD : PyData → Option String
  | .none => some "NoneType"
  | .bool _ => some "bool"
  | .int _ => some "int"
  | .str _ => some "str"
  | .list _ => some "list"
  | .tuple _ => some "tuple"
  | _ => none
def isT (T : String) : PyData → Bool
  | .none => T == "NoneType"
  | .bool _ => T == "bool" || T == "int"
  | .int _ => T == "int"
  | .str _ => T == "str"
  | .list _ => T == "list"
  | .tuple _ => T == "tuple"
  | _ => false
def tyL : List String := ["NoneType", "bool", "int", "str", "list", "tuple", "dict"]
def cIsi : CV := fun rs sl Q => match rs with
  | [r, .e (.raw (.ty T))] => datR sl r fun d => (tyD d).isSome = true ∧ T ∈ tyL ∧ Q (.e (.shr (.bool (isT T d)))) sl
  | _ => False
theorem kitB_all : ∀ a ∈ ["NoneType", "bool", "int", "str", "list", "tuple"], ∀ b ∈ tyL, kitB a b = some (a == b || (a == "bool" && b == "int")) := by decide +kernel
theorem tyX_of {q : Px} {H : Hp} {v : V} {d : PyData} {a : String} (r : Rep q H v d) (h : tyD d = some a) : TyX q.K H v (.type a) ∧ a ∈ ["NoneType", "bool", "int", "str", "list", "tuple"] := by
  cases r with
  | non => cases h; exact ⟨.base .non, by simp⟩
  | bl b => cases h; exact ⟨.base (.bl _), by simp⟩
  | int i => cases h; exact ⟨.base (.int _), by simp⟩
  | str x => cases h; exact ⟨.base (.str _), by simp⟩
  | lst h1 h2 =>
    cases h
    rcases h1 with (h1 | ⟨o, h1⟩) | ⟨o, its, n, h1, h2, _⟩
    · exact ⟨.base (.lst h1), by simp⟩
    · exact ⟨.base (.frz h1), by simp⟩
    · exact ⟨.kList h1 h2, by simp⟩
  | tup h1 h2 =>
    cases h
    rcases h1 with (h1 | ⟨o, h1⟩) | ⟨o, its, n, h1, h2, _⟩
    · exact ⟨.base (.tup h1), by simp⟩
    · exact ⟨.fTuple h1, by simp⟩
    · exact ⟨.kTuple h1 h2, by simp⟩
  | _ => cases h
theorem isT_eq {d : PyData} {a T : String} (h : tyD d = some a) : (a == T || (a == "bool" && T == "int")) = isT T d := by
  have sy : ∀ x y : String, (x == y) = (y == x) := fun x y => by
    cases h : (x == y) <;> cases h2 : (y == x) <;> simp_all
  cases d <;> simp only [tyD, Option.some.injEq, reduceCtorEq] at h <;> subst h <;> simp only [isT] <;> (try rw [sy _ T]) <;> simp
theorem c_isi : CallR X (.builtin "isinstance") (liftC (pxOf X) cIsi) := CallR.imp call_isi fun vs H Q ⟨U, G0, G, T, sl, σ, rs, Qv, c, w, kk⟩ => by
  unfold cIsi at w
  split at w
  · rename_i r Ty
    match vs, c with
    | [v, u], c =>
      have hu : u = .ty Ty := by
        obtain ⟨c1, _⟩ := c.flat
        obtain ⟨F, a, _, _⟩ := c1.core.res
        obtain ⟨F', o, _⟩ := a.mem (v := u) (e := .raw (.ty Ty)) (by cases r <;> simp [psh])
        cases o; rfl
      have cv : ∃ T', RelR ⟨pxOf X, U, G0⟩ G T' v r sl σ H := by cases r with | e _ => exact ⟨_, ⟨(c.flat.1.core.perm (by simp only [psh]; exact List.Perm.swap _ _ _)).drop, c.base.wf⟩⟩ | al _ => exact ⟨_, c.base, c.1⟩
      obtain ⟨T', cv⟩ := cv
      obtain ⟨d, hd, h1, h2, w⟩ := cv.dat w
      cases ht : tyD d with
      | none => rw [ht] at h1; cases h1
      | some a =>
        obtain ⟨tx, hm⟩ := tyX_of hd ht
        subst hu
        refine ⟨v, _, _, _, _, rfl, .ty Ty, tx, kit_ty (kitB_all a hm Ty h2), ?_⟩
        rw [isT_eq ht]
        exact kk _ _ w G _ H (Same.refl _) ⟨c.base.core.addShr (.bl _), c.base.wf⟩
    | [_], c => cases r with | e _ => exact (show False from c).elim | al _ => exact (show False from c.2).elim
    | _ :: _ :: _ :: _, c => cases r with | e _ => exact (show False from c).elim | al _ => exact (show False from c.2).elim
    | [], c => exact (show False from c).elim
  · exact w.elim
end
end VV

/-! V14: a list unpacked; list items stored; enumerate -/
namespace VV
open PySem PySem.Spec L2
open PyProof.Rows hiding St

/-! ### a, b, .. = a list -/
def gUn (n : Nat) (gs : TGvs) : TGv := fun e sl Q => e.sq fun b ds => b = false ∧ ds.length = n ∧ gs (ds.map .shr) sl Q
section
variable {X : Cx} {pn ss : List Nat} {pos : Pos}
theorem g_un {es : List Expr} {k0 : Nat} {gs : TGvs} {n : Nat} (hc : X.calm = true) (h : PVGs X pn ss es gs) (hn : (assignEach es X.env).length = n := by rfl) (hst : (assignEach es X.env).findIdx? (·.1) = none := by rfl) :
    PVG X pn ss (.Tuple es k0 pos) (gUn n gs) :=
  PG.imp (pg_unl hc h hn hst) fun v σ H Q ⟨U, G0, G, T, e, sl, Qv, hpn, c, h, k⟩ => by
    obtain ⟨a, vs, b, ds, rfl, hs, hr, _, rfl, hl, h⟩ := RelR.lt (r := .e e) c h
    exact ⟨a, vs, rfl, hs, by rw [hr.length]; exact hl, U, G0, G, T, ds.map .shr, sl, Qv, hpn, by simp [hr.length], ⟨by rw [List.append_assoc]; exact Core.zipShr hr (Core.drop (v := .ref a) (e := e) c.core), c.wf⟩, h, k⟩

/-! ### xs[i] = v -/
def gIx (wo wi : WE) : TGv := fun e sl Q => wo sl fun ro s1 => wi s1 fun ri s2 => datR s2 ri fun di => match di, ro with
  | .int k, .al i => e.frz fun d => ownS i (fun ds => ∃ j, ixN ds.length k = some j ∧ Q (s2.set i (some (.own (ds.set j d))))) s2
  | _, _ => False
theorem Reps.setAt {q : Px} {H : Hp} {v : V} {d : PyData} : ∀ {vs : List V} {ds : List PyData} (j : Nat), Reps q H vs ds → Rep q H v d → Reps q H (vs.set j v) (ds.set j d)
  | _, _, _, .nil, _ => .nil
  | _, _, 0, .cons h r, h' => .cons h' r
  | _, _, j + 1, .cons h r, h' => .cons h (Reps.setAt j r h')
theorem g_ix {o i : Expr} {wo wi : WE} (ho : PV X o wo) (hi : PV X i wi)
    (ha : ∀ v, assign (.Subscript o i pos) X.env v = (do
      let ov ← holding [v] (eval o X.env)
      let iv ← holding [v, ov] (eval i X.env)
      standAt pos
      holding [v, ov, iv] (setItem ov iv v)
      release [v, ov, iv] []) := by intro _; rfl) : PVG X pn ss (.Subscript o i pos) (gIx wo wi) :=
  PG.imp (pg_sub ho hi set_list ha) fun v σ H Q ⟨U, G0, G, T, e, sl, Qv, hpn, c, h, k⟩ =>
    ⟨U, G0, G, (v, e) :: T, sl, _, c, h, fun ro s1 hq G1 xo H1 e1 c1 => by
      cases ro with
      | e x => exact ⟨U, G0, G1, (xo, x) :: (v, e) :: T, s1, _, c1, hq, fun ri s2 hq2 G2 xi H2 e2 c2 => by
          obtain ⟨d, hd, hk⟩ := RelR.dat (r := ri) c2 hq2
          cases d <;> exact (show False from hk).elim⟩
      | al a =>
        refine ⟨U, G0, G1, (v, e) :: T, s1, _, c1.1, hq, fun ri s2 hq2 G2 xi H2 e2 c2 => ?_⟩
        obtain ⟨di, hdi, hk⟩ := RelR.dat (r := ri) c2 hq2
        cases di with
        | int kk =>
          obtain ⟨d, hd, hk⟩ := Ent.frz_iff (show e.frz _ from hk)
          have cb : Rel ⟨pxOf X, U, G0⟩ G2 ((v, e) :: T) s2 σ H2 := c2.base
          obtain ⟨G3, s3, c3⟩ := Core.freeze (show Core _ G2 ((v, e) :: (T ++ slotRes σ s2)) H2 from cb.core) hd
          have rd : Rep (pxOf X) G3 v d := c3.shrd (by simp)
          have c4 : Rel ⟨pxOf X, U, G0⟩ G3 T s2 σ H2 := ⟨c3.drop, cb.wf⟩
          obtain ⟨ds, hs, j, hj, hk⟩ := ownS_iff hk
          obtain ⟨p, vs, rfl, hp, r, put⟩ := c4.ownSlot hs c1.2
          exact ⟨p, vs, kk, j, rfl, ints_of hdi, hp, by rw [r.length]; exact hj, k _ hk G3 _ _ ((e1.trans e2).trans s3) rfl (fun _ _ => rfl) (put _ _ (Reps.setAt j r rd))⟩
        | _ => exact (show False from hk).elim⟩
end
end VV

/-! V15: short forms for printed derivations -/
namespace VV
open PySem PySem.Spec L2
open PyProof.Rows hiding St
structure FD (K : PySem.W.Frag) (mg : Str → Option Value) (x qual : Str) (st : Stmt) (ps : List Str) (f : Addr) (fd : FuncData) : Prop where
  F : Fun K x qual st f fd
  b : Binds K fd ps []
  k : PySem.W.keepIn K (.ref f) = true
  m : mg x = some (.ref f)
theorem hu64 {k : Nat} {A : Around} (r : Room k A) : A.units + 64 < cLine := by have := r.un; omega
section
variable {X : Cx}
theorem vv (i : Nat) {x : Str} {pos : Pos} (hN : X.N[i]? = some x := by rfl) (hv : Vis X.env.scope x := by first | exact Or.inl rfl | exact Or.inr (Or.inl rfl) | exact Or.inr (Or.inr rfl)) (hd : (x == ("__debug__" : Str)) = false := by decide)
    (hcd : (x == ("__classdict__" : Str)) = false := by decide) : PV X (.Name x pos) (eVar i) := v_var hN hv hd hcd
end
end VV

/-! V16: loops and comprehensions over known items; data of ints -/
namespace VV
open PySem PySem.Spec L2
open PyProof.Rows hiding St

theorem wLc_fm {α : Type} {g : TGv} {tt : WT} {te : WE} {vs : List Nat} {ι : α → Ent} (F : α → Option PyData) (Inv : Slots → Prop) {Q : R → Slots → Prop} : ∀ (xs : List α) (acc : List PyData) (sl : Slots),
    (∀ x ∈ xs, ∀ sl acc (K : List PyData → Slots → Prop), acc.length < sizeLine → Inv sl → (∀ s, Inv s → K (acc ++ (F x).toList) s) →
      g (ι x) sl fun s1 => tt s1 fun b s2 => if b = true then te s2 fun r s3 => frzR s3 r fun d s4 => acc.length < sizeLine ∧ K (acc ++ [d]) (wipeS s4 vs) else K acc (wipeS s2 vs)) →
    acc.length + xs.length ≤ sizeLine → Inv sl → (∀ s, Inv s → Q (.e (.own (acc ++ xs.filterMap F))) s) → wLc g tt te vs (xs.map ι) acc sl Q
  | [], acc, sl, hs, hl, hi, hq => by simpa [wLc] using hq sl hi
  | x :: xs, acc, sl, hs, hl, hi, hq => by
    simp only [List.length_cons] at hl
    refine hs x (by simp) sl acc (fun acc s => wLc g tt te vs (xs.map ι) acc s Q) (by omega) hi fun s h2 => ?_
    refine wLc_fm F Inv xs _ s (fun y hy => hs y (by simp [hy])) ?_ h2 fun s h3 => ?_
    · cases F x <;> simp <;> omega
    · have := hq s h3
      cases e : F x <;> simp [List.filterMap_cons, e] at this ⊢ <;> exact this
theorem wLc_map {α : Type} {g : TGv} {tt : WT} {te : WE} {vs : List Nat} {ι : α → Ent} (F : α → PyData) (Inv : Slots → Prop) {Q : R → Slots → Prop} (xs : List α) (sl : Slots)
    (hs : ∀ x ∈ xs, ∀ sl acc (K : List PyData → Slots → Prop), acc.length < sizeLine → Inv sl → (∀ s, Inv s → K (acc ++ [F x]) s) →
      g (ι x) sl fun s1 => tt s1 fun b s2 => if b = true then te s2 fun r s3 => frzR s3 r fun d s4 => acc.length < sizeLine ∧ K (acc ++ [d]) (wipeS s4 vs) else K acc (wipeS s2 vs))
    (hl : xs.length ≤ sizeLine) (hi : Inv sl) (hq : ∀ s, Inv s → Q (.e (.own (xs.map F))) s) : wLc g tt te vs (xs.map ι) [] sl Q := by
  refine wLc_fm (fun x => some (F x)) Inv xs [] sl (fun x hx s acc K ha hi hk => hs x hx s acc K ha hi hk) (by simpa using hl) hi fun s h => ?_
  have e : xs.filterMap (fun x => some (F x)) = xs.map F := by induction xs <;> simp_all
  rw [List.nil_append, e]; exact hq s h
/-- the result is not one function of the items: a relation between the items so far and their results -/
theorem wLc_rel {α : Type} {g : TGv} {tt : WT} {te : WE} {vs : List Nat} {ι : α → Ent} (I : List α → List PyData → Slots → Prop) {Q : R → Slots → Prop} : ∀ (xs pre : List α) (acc : List PyData) (sl : Slots),
    (∀ pre' x post sl acc (K : List PyData → Slots → Prop), pre ++ xs = pre' ++ x :: post → acc.length < sizeLine → I pre' acc sl → (∀ d s, I (pre' ++ [x]) (acc ++ [d]) s → K (acc ++ [d]) s) →
      g (ι x) sl fun s1 => tt s1 fun b s2 => if b = true then te s2 fun r s3 => frzR s3 r fun d s4 => acc.length < sizeLine ∧ K (acc ++ [d]) (wipeS s4 vs) else K acc (wipeS s2 vs)) →
    acc.length + xs.length ≤ sizeLine → I pre acc sl → (∀ acc s, I (pre ++ xs) acc s → Q (.e (.own acc)) s) → wLc g tt te vs (xs.map ι) acc sl Q
  | [], pre, acc, sl, hs, hl, hi, hq => hq acc sl (by simpa using hi)
  | x :: xs, pre, acc, sl, hs, hl, hi, hq => by
    simp only [List.length_cons] at hl
    refine hs pre x xs sl acc (fun acc s => wLc g tt te vs (xs.map ι) acc s Q) rfl (by omega) hi fun d s h2 => ?_
    exact wLc_rel I xs (pre ++ [x]) _ s (fun p y post sl acc K e => hs p y post sl acc K (by simpa using e)) (by simp; omega) h2 fun a s h => hq a s (by simpa using h)
theorem wFor_ix {α : Type} {g : TGv} {body : WS} {ι : α → Ent} {P : Post} (I : List α → Slots → Prop) : ∀ (xs pre : List α) (sl : Slots),
    (∀ pre' x post s (K : Slots → Prop), pre ++ xs = pre' ++ x :: post → I pre' s → (∀ s', I (pre' ++ [x]) s' → K s') → g (ι x) s fun s1 => body s1 { P with nx := K, ct := K, bk := P.nx }) →
    I pre sl → (∀ s, I (pre ++ xs) s → P.nx s) → wFor g body (xs.map ι) sl P
  | [], pre, sl, hs, hi, hq => hq sl (by simpa using hi)
  | x :: xs, pre, sl, hs, hi, hq => by
    refine hs pre x xs sl (fun s => wFor g body (xs.map ι) s P) rfl hi fun s' h => ?_
    exact wFor_ix I xs (pre ++ [x]) s' (fun p y post s K e => hs p y post s K (by simpa using e)) h fun s h => hq s (by simpa using h)
/-- over all items, from the first on -/
theorem wFor_all {α : Type} {g : TGv} {body : WS} {ι : α → Ent} {P : Post} (I : List α → Slots → Prop) (xs : List α) (sl : Slots)
    (hs : ∀ pre x post s (K : Slots → Prop), xs = pre ++ x :: post → I pre s → (∀ s', I (pre ++ [x]) s' → K s') → g (ι x) s fun s1 => body s1 { P with nx := K, ct := K, bk := P.nx })
    (hi : I [] sl) (hq : ∀ s, I xs s → P.nx s) : wFor g body (xs.map ι) sl P :=
  wFor_ix I xs [] sl (fun p x post s K e => hs p x post s K (by simpa using e)) hi fun s h => hq s (by simpa using h)

/-- the same over items that are told otherwise -/
theorem wLc_mapE {α : Type} {g : TGv} {tt : WT} {te : WE} {vs : List Nat} {ι : α → Ent} (F : α → PyData) (Inv : Slots → Prop) {Q : R → Slots → Prop} {xs : List α} {items : List Ent} (he : items = xs.map ι) {sl : Slots}
    (hs : ∀ x ∈ xs, ∀ sl acc (K : List PyData → Slots → Prop), acc.length < sizeLine → Inv sl → (∀ s, Inv s → K (acc ++ [F x]) s) →
      g (ι x) sl fun s1 => tt s1 fun b s2 => if b = true then te s2 fun r s3 => frzR s3 r fun d s4 => acc.length < sizeLine ∧ K (acc ++ [d]) (wipeS s4 vs) else K acc (wipeS s2 vs))
    (hl : xs.length ≤ sizeLine) (hi : Inv sl) (hq : ∀ s, Inv s → Q (.e (.own (xs.map F))) s) : wLc g tt te vs items [] sl Q := by
  subst he; exact wLc_map F Inv xs sl hs hl hi hq
theorem wLc_fmE {α : Type} {g : TGv} {tt : WT} {te : WE} {vs : List Nat} {ι : α → Ent} (F : α → Option PyData) (Inv : Slots → Prop) {Q : R → Slots → Prop} {xs : List α} {items : List Ent} (he : items = xs.map ι) {sl : Slots}
    (hs : ∀ x ∈ xs, ∀ sl acc (K : List PyData → Slots → Prop), acc.length < sizeLine → Inv sl → (∀ s, Inv s → K (acc ++ (F x).toList) s) →
      g (ι x) sl fun s1 => tt s1 fun b s2 => if b = true then te s2 fun r s3 => frzR s3 r fun d s4 => acc.length < sizeLine ∧ K (acc ++ [d]) (wipeS s4 vs) else K acc (wipeS s2 vs))
    (hl : xs.length ≤ sizeLine) (hi : Inv sl) (hq : ∀ s, Inv s → Q (.e (.own (xs.filterMap F))) s) : wLc g tt te vs items [] sl Q := by
  subst he; exact wLc_fm F Inv xs [] sl hs (by simpa using hl) hi (by simpa using hq)
theorem wLc_relE {α : Type} {g : TGv} {tt : WT} {te : WE} {vs : List Nat} {ι : α → Ent} (I : List α → List PyData → Slots → Prop) {Q : R → Slots → Prop} {xs : List α} {items : List Ent} (he : items = xs.map ι) {sl : Slots}
    (hs : ∀ pre x post sl acc (K : List PyData → Slots → Prop), xs = pre ++ x :: post → acc.length < sizeLine → I pre acc sl → (∀ d s, I (pre ++ [x]) (acc ++ [d]) s → K (acc ++ [d]) s) →
      g (ι x) sl fun s1 => tt s1 fun b s2 => if b = true then te s2 fun r s3 => frzR s3 r fun d s4 => acc.length < sizeLine ∧ K (acc ++ [d]) (wipeS s4 vs) else K acc (wipeS s2 vs))
    (hl : xs.length ≤ sizeLine) (hi : I [] [] sl) (hq : ∀ acc s, I xs acc s → Q (.e (.own acc)) s) : wLc g tt te vs items [] sl Q := by
  subst he; exact wLc_rel I xs [] [] sl (fun p x post s a K e => hs p x post s a K (by simpa using e)) (by simpa using hl) hi (by simpa using hq)
theorem wFor_allE {α : Type} {g : TGv} {body : WS} {ι : α → Ent} {P : Post} (I : List α → Slots → Prop) {xs : List α} {items : List Ent} (he : items = xs.map ι) {sl : Slots}
    (hs : ∀ pre x post s (K : Slots → Prop), xs = pre ++ x :: post → I pre s → (∀ s', I (pre ++ [x]) s' → K s') → g (ι x) s fun s1 => body s1 { P with nx := K, ct := K, bk := P.nx })
    (hi : I [] sl) (hq : ∀ s, I xs s → P.nx s) : wFor g body items sl P := by
  subst he; exact wFor_all I xs sl hs hi hq

/-! ### data of ints -/
abbrev tupI (xs : List Int) : PyData := .tuple (xs.map .int)
abbrev lstI (xs : List Int) : PyData := .list (xs.map .int)
abbrev lstT (xs : List (List Int)) : PyData := .list (xs.map tupI)
abbrev shI (i : Int) : Ent := .shr (.int i)
theorem sols_ints : ∀ xs : List Int, Sols (xs.map .int)
  | [] => trivial
  | x :: xs => ⟨trivial, sols_ints xs⟩
theorem sol_tupI (xs : List Int) : Sol (tupI xs) := sols_ints xs
theorem sols_tups : ∀ xs : List (List Int), Sols (xs.map tupI)
  | [] => trivial
  | x :: xs => ⟨sol_tupI x, sols_tups xs⟩
theorem dok_int (n : Nat) (i : Int) : Dok n (.int i) := by cases n <;> exact trivial
theorem dok_tupI (n : Nat) (xs : List Int) : Dok (n + 1) (tupI xs) := fun d h => by
  obtain ⟨x, _, rfl⟩ := List.mem_map.mp h
  exact dok_int n x
theorem dok_lstI (n : Nat) (xs : List Int) : Dok (n + 1) (lstI xs) := fun d h => by
  obtain ⟨x, _, rfl⟩ := List.mem_map.mp h
  exact dok_int n x
theorem dok_lstT (n : Nat) (xs : List (List Int)) : Dok (n + 2) (lstT xs) := fun d h => by
  obtain ⟨x, _, rfl⟩ := List.mem_map.mp h
  exact dok_tupI n x

theorem eqvAll_ints : ∀ ns ms : List Int, PyData.eqvAll (ns.map PyData.int) (ms.map PyData.int) = decide (ns = ms) := PySem.W.ked_eqvAll
theorem eqv_tupI (xs ys : List Int) : PyData.eqv (tupI xs) (tupI ys) = decide (xs = ys) := by
  show PyData.eqv (.tuple _) (.tuple _) = _
  rw [PyData.eqv, eqvAll_ints]
theorem eqv_lstI (xs ys : List Int) : PyData.eqv (lstI xs) (lstI ys) = decide (xs = ys) := by
  show PyData.eqv (.list _) (.list _) = _
  rw [PyData.eqv, eqvAll_ints]
theorem eqvAll_tups : ∀ xs ys : List (List Int), PyData.eqvAll (xs.map tupI) (ys.map tupI) = decide (xs = ys)
  | [], [] => by simp [PyData.eqvAll]
  | [], _ :: _ => by simp [PyData.eqvAll]
  | _ :: _, [] => by simp [PyData.eqvAll]
  | x :: xs, y :: ys => by
    rw [List.map_cons, List.map_cons, PySem.W.eqv_all_cons, eqv_tupI, eqvAll_tups xs ys]
    by_cases h1 : x = y <;> by_cases h2 : xs = ys <;> simp [h1, h2]
theorem eqv_lstT (xs ys : List (List Int)) : PyData.eqv (lstT xs) (lstT ys) = decide (xs = ys) := by
  show PyData.eqv (.list _) (.list _) = _
  rw [PyData.eqv, eqvAll_tups]
theorem shr_ints (xs : List Int) : (xs.map PyData.int).map Ent.shr = xs.map shI := by rw [List.map_map]; rfl
theorem bor_ints (xs : List Int) : (xs.map PyData.int).map Ent.bor = xs.map fun i => .bor (.int i) := by rw [List.map_map]; rfl
theorem shr_tups (xs : List (List Int)) : (xs.map tupI).map Ent.shr = xs.map fun m => .shr (tupI m) := by rw [List.map_map]; rfl
def z2 : List Int → List Int → List (Int × Int)
  | x :: xs, y :: ys => (x, y) :: z2 xs ys
  | _, _ => []
def z3 : List Int → List Int → List Int → List (Int × Int × Int)
  | x :: xs, y :: ys, z :: zs => (x, y, z) :: z3 xs ys zs
  | _, _, _ => []
theorem zip2_ints : ∀ xs ys : List Int, zip2 (xs.map .int) (ys.map .int) = (z2 xs ys).map fun p => .shr (tupI [p.1, p.2])
  | [], _ => rfl
  | _ :: _, [] => rfl
  | x :: xs, y :: ys => by simp only [List.map_cons, zip2, z2, zip2_ints xs ys]; rfl
theorem zip3_ints : ∀ xs ys zs : List Int, zip3 (xs.map .int) (ys.map .int) (zs.map .int) = (z3 xs ys zs).map fun p => .shr (tupI [p.1, p.2.1, p.2.2])
  | [], _, _ => rfl
  | _ :: _, [], _ => rfl
  | _ :: _, _ :: _, [] => rfl
  | x :: xs, y :: ys, z :: zs => by simp only [List.map_cons, zip3, z3, zip3_ints xs ys zs]; rfl
theorem z2_len : ∀ xs ys : List Int, (z2 xs ys).length ≤ xs.length
  | [], _ => by simp [z2]
  | _ :: _, [] => by simp [z2]
  | x :: xs, y :: ys => by simp [z2, z2_len xs ys]
theorem z3_len : ∀ xs ys zs : List Int, (z3 xs ys zs).length ≤ xs.length
  | [], _, _ => by simp [z3]
  | _ :: _, [], _ => by simp [z3]
  | _ :: _, _ :: _, [] => by simp [z3]
  | x :: xs, y :: ys, z :: zs => by simp [z3, z3_len xs ys zs]
theorem z2_mem : ∀ {xs ys : List Int} {p : Int × Int}, p ∈ z2 xs ys → p.1 ∈ xs ∧ p.2 ∈ ys
  | [], _, _, h => by simp [z2] at h
  | _ :: _, [], _, h => by simp [z2] at h
  | x :: xs, y :: ys, p, h => by
    simp only [z2, List.mem_cons] at h
    rcases h with rfl | h
    · simp
    · have := z2_mem h; simp [this.1, this.2]
theorem z3_mem : ∀ {xs ys zs : List Int} {p : Int × Int × Int}, p ∈ z3 xs ys zs → p.1 ∈ xs ∧ p.2.1 ∈ ys ∧ p.2.2 ∈ zs
  | [], _, _, _, h => by simp [z3] at h
  | _ :: _, [], _, _, h => by simp [z3] at h
  | _ :: _, _ :: _, [], _, h => by simp [z3] at h
  | x :: xs, y :: ys, z :: zs, p, h => by
    simp only [z3, List.mem_cons] at h
    rcases h with rfl | h
    · simp
    · have := z3_mem h; simp [this.1, this.2]
theorem small_sz {n : Nat} (h : n ≤ 100000) : n ≤ sizeLine := by rw [sizeLine_eq]; omega
theorem of_small {n : Nat} (h : n ≤ 100000) : n < sizeLine := by rw [sizeLine_eq]; omega
theorem log_small {a : Int} {k : Nat} (h : a.natAbs < 2 ^ k) : a.natAbs.log2 ≤ k := by
  by_cases h0 : a.natAbs = 0
  · rw [h0]; exact Nat.zero_le _
  · have := (Nat.log2_lt h0).mpr h; omega
theorem mulA_small {a b : Int} (ha : a.natAbs < 2 ^ 200) (hb : b.natAbs < 2 ^ 200) : CMulA a b := .inr (by have := log_small ha; have := log_small hb; omega)
theorem eqv_int (i j : Int) : PyData.eqv (.int i) (.int j) = decide (i = j) := by
  rw [PyData.eqv]
  by_cases h : i = j <;> simp [h]
end VV

/-! V17: an expression that only reads what is there: all of it lent -/
namespace VV
open PySem PySem.Spec L2
open PyProof.Rows hiding St
def lendS : Slots → (Slots → Prop) → Prop
  | [], k => k []
  | none :: sl, k => lendS sl fun s => k (none :: s)
  | some (.raw _) :: sl, k => lendS sl fun s => k (none :: s)
  | some (.shr d) :: sl, k => lendS sl fun s => k (some (.shr d) :: s)
  | some e :: sl, k => e.dat fun d => lendS sl fun s => k (some (.bor d) :: s)
def eLend (w : WE) : WE := fun sl Q => lendS sl fun s0 => w s0 fun r s1 => retR s1 r fun x _ => Q (.e x) sl
theorem lend_none {G U' H : Hp} {q : Px} {k : Slots → Prop} {σ : St} {a : Option V} (ih : ∃ s0, Core ⟨q, U', ⟨G, []⟩⟩ G (slotRes σ s0) H ∧ Wf [] s0 σ ∧ k (none :: s0)) : ∃ s0, Core ⟨q, U', ⟨G, []⟩⟩ G (slotRes (a :: σ) s0) H ∧ Wf [] s0 (a :: σ) ∧ k s0 := by
  obtain ⟨s0, c, wf, hk⟩ := ih
  refine ⟨none :: s0, ?_, ⟨by simp [wf.len], fun i e h => ?_, fun p hp => by simp at hp⟩, hk⟩
  · cases a <;> simpa [slotRes] using c
  · cases i with
    | zero => simp at h
    | succ i => simpa using wf.val i e (by simpa using h)
theorem lend_some {G U' H : Hp} {q : Px} {k : Slots → Prop} {σ : St} {v : V} {x : Ent} (hx : ∀ L, Core ⟨q, U', ⟨G, []⟩⟩ G L H → Core ⟨q, U', ⟨G, []⟩⟩ G ((v, x) :: L) H) (ih : ∃ s0, Core ⟨q, U', ⟨G, []⟩⟩ G (slotRes σ s0) H ∧ Wf [] s0 σ ∧ k (some x :: s0)) :
    ∃ s0, Core ⟨q, U', ⟨G, []⟩⟩ G (slotRes (some v :: σ) s0) H ∧ Wf [] s0 (some v :: σ) ∧ k s0 := by
  obtain ⟨s0, c, wf, hk⟩ := ih
  refine ⟨some x :: s0, ?_, ⟨by simp [wf.len], fun i e h => ?_, fun p hp => by simp at hp⟩, hk⟩
  · simpa [slotRes] using hx _ c
  · cases i with
    | zero => exact ⟨v, by simp⟩
    | succ i => simpa using wf.val i e (by simpa using h)
theorem lend_ok {G U' H : Hp} {q : Px} (c0 : Core ⟨q, U', ⟨G, []⟩⟩ G [] H) : ∀ {sl : Slots} {σ : St} {k : Slots → Prop}, sl.length = σ.length → (∀ (i : Nat) (e : Ent), sl[i]? = some (some e) → ∃ v : V, σ[i]? = some (some v)) →
    (∀ v e d, (v, e) ∈ slotRes σ sl → Dat e d → Rep q U' v d) → (∀ v d, (v, .shr d) ∈ slotRes σ sl → Rep q G v d) → lendS sl k → ∃ s0, Core ⟨q, U', ⟨G, []⟩⟩ G (slotRes σ s0) H ∧ Wf [] s0 σ ∧ k s0
  | [], [], k, _, _, _, _, h => ⟨[], by simpa [slotRes] using c0, ⟨rfl, fun i e h => by simp at h, fun p hp => by simp at hp⟩, h⟩
  | [], _ :: _, _, hl, _, _, _, _ => by simp at hl
  | _ :: _, [], _, hl, _, _, _, _ => by simp at hl
  | none :: sl, a :: σ, k, hl, hv, hd, hs, h => by
    refine lend_none (lend_ok c0 (sl := sl) (σ := σ) (by simpa using hl) (fun i e h => by simpa using hv (i + 1) e (by simpa using h)) (fun v e d m => hd v e d ?_) (fun v d m => hs v d ?_) h)
    · cases a <;> simpa [slotRes] using m
    · cases a <;> simpa [slotRes] using m
  | some x :: sl, a :: σ, k, hl, hv, hd, hs, h => by
    obtain ⟨v, e⟩ := hv 0 x (by simp)
    simp at e
    subst e
    have rcc : ∀ {k}, lendS sl k → ∃ s0, Core ⟨q, U', ⟨G, []⟩⟩ G (slotRes σ s0) H ∧ Wf [] s0 σ ∧ k s0 := fun {k} h =>
      lend_ok c0 (sl := sl) (σ := σ) (by simpa using hl) (fun i e h => by simpa using hv (i + 1) e (by simpa using h)) (fun v e d m => hd v e d (by simp [slotRes, m])) (fun v d m => hs v d (by simp [slotRes, m])) h
    have bor : ∀ {d}, Dat x d → lendS sl (fun s => k (some (.bor d) :: s)) → ∃ s0, Core ⟨q, U', ⟨G, []⟩⟩ G (slotRes (some v :: σ) s0) H ∧ Wf [] s0 (some v :: σ) ∧ k s0 := fun {d} hx h =>
      lend_some (fun L c => c.addBor (hd v x d (by simp [slotRes]) hx)) (rcc h)
    cases x with
    | raw u => exact lend_none (rcc h)
    | shr d => exact lend_some (fun L c => c.addShr (hs v d (by simp [slotRes]))) (rcc h)
    | bor d => exact bor .bor h
    | own ds => exact bor .own h
    | dct kvs => exact bor .dct h
    | lst es => obtain ⟨ds, h1, h2⟩ := h; exact bor (.lst h1) h2
    | tup es => obtain ⟨ds, h1, h2⟩ := h; exact bor (.tup h1) h2
theorem eLend_of {q : Px} {w : WE} : ∀ σ H Q, liftE q (eLend w) σ H Q → liftE q w σ H Q := fun σ H Q ⟨U, G0, G, T, sl, Qv, c, h, k⟩ => by
  obtain ⟨U', sUH, tin, fz, _, lendM, lendL, sGU, fin⟩ := Core.lend (M := []) (L := T ++ slotRes σ sl) (f := ⟨q, U, G0⟩) (G := G) (H := H) c.core
  have c0 := lendM (by simp)
  obtain ⟨s0, c1, wf, h⟩ := lend_ok c0 c.wf.len c.wf.val (fun v e d m => lendL v e d (by simp [m])) (fun v d m => c.core.shrd (by simp [m])) h
  refine ⟨U', ⟨G, []⟩, G, [], s0, _, ⟨c1, wf⟩, h, fun r s1 hq G1 v H1 e1 c2 => ?_⟩
  obtain ⟨x, s2, c3, hn, hk⟩ := c2.ret hq
  have c4 : Core ⟨q, U', ⟨G, []⟩⟩ G1 [(v, x)] H1 := Core.sub (L := slotRes σ s2) (c3.core.perm (by simpa using List.perm_append_comm (l₁ := [(v, x)]) (l₂ := slotRes σ s2)))
  have c5 := fin G1 [(v, x)] H1 e1 (by simpa using hn) c4
  exact k _ _ hk G1 v H1 e1 ⟨c5, c.wf⟩
theorem v_lend {X : Cx} {e : Expr} {w : WE} (h : PV X e w) : PV X e (eLend w) := PE.imp h eLend_of
end VV

/-! V18: for, some names forgotten behind each turn; places of lists -/
namespace VV
open PySem PySem.Spec L2
open PyProof.Rows hiding St
def wForF (g : TGv) (body : WS) (vs : List Nat) : List Ent → WS
  | [], sl, P => P.nx sl
  | e :: es, sl, P => g e sl fun s1 => body s1 { P with nx := fun s => wForF g body vs es (wipeS s vs) P, ct := fun s => wForF g body vs es (wipeS s vs) P, bk := P.nx }
def sForF (w : WI) (g : TGv) (body : WS) (vs : List Nat) : WS := fun sl P => w sl fun items s1 => wForF g body vs items (wipeS s1 vs) P
section
variable {X : Cx} {W : WX} {pn ss : List Nat} {pos : Pos}
theorem s_forF {tg iter : Expr} {body : List Stmt} {w : WI} {g : TGv} {b : WS} {vs : List Nat} (hp : PassesOwn (model X.prog X.w) X.A X.env X.xe) (hc : X.calm = true) (hi : PVI X tg iter w) (hg : PVG X pn ss tg g) (hb : PVSs X W pn body b)
    (hs : ∀ x, foldedSetIterable iter X.env x = pure x := by intro _; rfl) : PVS X W pn (.For tg iter body [] pos) (sForF w g b vs) :=
  PS.imp (ps_for hp hc hi hg hb hs) fun D σ H ⟨U, G0, G, T, sl, P, hpn, c, h, k⟩ => ⟨U, G0, G, T, sl, _, c, h, fun items s1 hq G1 J H1 e1 c1 ⟨Gw, Y, hw, hgw, hy⟩ => by
    refine for_it hw (fun i σ H => ∃ G2 s2, Same G1 G2 ∧ Rel ⟨pxOf X, U, G0⟩ G2 T s2 σ H ∧ wForF g b vs (items.drop i) s2 P) ⟨G1, wipeS s1 vs, Same.refl _, Rel.wipe c1 vs, hq⟩ (fun i σ H _ ⟨G2, s2, e2, c2, _⟩ => hgw G2 T s2 σ H e2 c2) ?_ ?_
    · rintro i x σ2 H2 H3 hi ⟨G2, s2, e2, c2, hw2⟩ hyy
      have he : items[i]? = some items[i] := by simp [hi]
      obtain ⟨G3, e3, c3⟩ := hy i _ x H2 H3 G2 T s2 σ2 he e2 c2 hyy
      rw [List.drop_eq_getElem_cons hi] at hw2
      refine ⟨U, G0, G3, T, items[i], s2, _, hpn, c3, hw2, fun s3 hq3 G4 σ4 H4 e4 _ _ c4 => ?_⟩
      have kk := k.mono ((e1.trans e2).trans (e3.trans e4))
      refine ⟨U, G0, G4, T, s3, _, hpn, c4, hq3, ⟨fun s hq G5 σ5 H5 e5 c5 => ⟨G5, wipeS s vs, (e2.trans e3).trans (e4.trans e5), Rel.wipe c5 vs, hq⟩, kk.rt, fun s hq G5 σ5 H5 e5 c5 => kk.nx _ hq _ _ _ e5 c5, fun s hq G5 σ5 H5 e5 c5 => ⟨G5, wipeS s vs, (e2.trans e3).trans (e4.trans e5), Rel.wipe c5 vs, hq⟩, kk.ex⟩⟩
    · rintro σ2 H2 ⟨G2, s2, e2, c2, hw2⟩
      rw [List.drop_length] at hw2
      exact k.nx _ hw2 _ _ _ (e1.trans e2) c2⟩
end
theorem wForF_ix {α : Type} {g : TGv} {body : WS} {vs : List Nat} {ι : α → Ent} {P : Post} (I : List α → Slots → Prop) : ∀ (xs pre : List α) (sl : Slots),
    (∀ pre' x post s (K : Slots → Prop), pre ++ xs = pre' ++ x :: post → I pre' s → (∀ s', I (pre' ++ [x]) (wipeS s' vs) → K s') → g (ι x) s fun s1 => body s1 { P with nx := K, ct := K, bk := P.nx }) →
    I pre sl → (∀ s, I (pre ++ xs) s → P.nx s) → wForF g body vs (xs.map ι) sl P
  | [], pre, sl, hs, hi, hq => hq sl (by simpa using hi)
  | x :: xs, pre, sl, hs, hi, hq => by
    refine hs pre x xs sl (fun s => wForF g body vs (xs.map ι) (wipeS s vs) P) rfl hi fun s' h => ?_
    exact wForF_ix I xs (pre ++ [x]) (wipeS s' vs) (fun p y post s K e => hs p y post s K (by simpa using e)) h fun s h => hq s (by simpa using h)
theorem wForF_all {α : Type} {g : TGv} {body : WS} {vs : List Nat} {ι : α → Ent} {P : Post} (I : List α → Slots → Prop) {xs : List α} {items : List Ent} (he : items = xs.map ι) {sl : Slots}
    (hs : ∀ pre x post s (K : Slots → Prop), xs = pre ++ x :: post → I pre s → (∀ s', I (pre ++ [x]) (wipeS s' vs) → K s') → g (ι x) s fun s1 => body s1 { P with nx := K, ct := K, bk := P.nx })
    (hi : I [] sl) (hq : ∀ s, I xs s → P.nx s) : wForF g body vs items sl P := by
  subst he
  exact wForF_ix I xs [] sl (fun p x post s K e => hs p x post s K (by simpa using e)) hi fun s h => hq s (by simpa using h)
theorem ixN_nat {n i : Nat} (h : i < n) : ixN n (i : Int) = some i := by
  unfold ixN
  rw [if_pos (by omega), if_pos (by omega)]
  simp
theorem atI_nat {α : Type} {xs : List α} {i : Nat} (h : i < xs.length) : atI xs (i : Int) = some xs[i] := by
  unfold atI
  rw [ixN_nat h]
  simp [h]
theorem atI_in {α : Type} {xs : List α} {r : Int} (h0 : 0 ≤ r) (h1 : r < xs.length) : ∃ d, d ∈ xs ∧ atI xs r = some d := by
  obtain ⟨i, rfl⟩ := Int.eq_ofNat_of_zero_le h0
  have hi : i < xs.length := by omega
  exact ⟨xs[i], List.getElem_mem hi, atI_nat hi⟩
theorem atI_ints {xs : List Int} {i : Nat} (h : i < xs.length) : atI (xs.map PyData.int) (0 + (i : Int)) = some (.int (xs.getD i 0)) := by
  rw [Int.zero_add, atI_nat (by simpa using h)]
  simp [List.getD_eq_getElem?_getD, h]
theorem nl {a b : Nat} (h : Nat.ble a b = true := by rfl) : a ≤ b := Nat.le_of_ble_eq_true h
/-! ### the law's own promise -/
def spLaw (K : PySem.W.Frag) : Sp := fun vs H Q _ => ∃ (a : Addr) (ns : List Int), vs = [.ref a] ∧ SqL K H a (ns.map V.int) ∧ ns.length ≤ 63 ∧ ∀ H', Q (.bl true) H'
theorem reps_ints {q : Px} {H : Hp} : ∀ ns : List Int, Reps q H (ns.map V.int) (ns.map .int)
  | [] => .nil
  | n :: ns => .cons (.int n) (reps_ints ns)
theorem law_spec {q : Px} {φ : FS} (hφ : ∀ ns : List Int, ns.length ≤ 63 → ∀ Q E, Q (.shr (.bool true)) [] → φ [.bor (lstI ns)] Q E) : ∀ vs H Q E, spLaw q.K vs H Q E → spOf q [.rd] φ vs H Q E := by
  rintro vs H Q E ⟨a, ns, rfl, hS, hl, hQ⟩
  refine ⟨H, H, [.bor (lstI ns)], fun r rs => r = .shr (.bool true) ∧ rs = [], fun _ _ => False, rfl, rfl, ?_, hφ ns hl _ _ ⟨rfl, rfl⟩, ?_, fun _ _ h => h.elim⟩
  · refine ⟨Same.refl _, Same.refl _, fun _ _ h => h, fun _ _ _ h => h, fun a h => .inl h, [], .cons (F := []) (.bor (.lst hS (reps_ints ns))) .nil, List.nodup_nil, fun a h => by simp at h⟩
  · rintro r rs ⟨rfl, rfl⟩ G' v H' _ _ _ _ c
    have := c.shrd (v := v) (d := .bool true) (by simp)
    cases this
    exact hQ H'
end VV

/-! V19: dead statements; defs that call themselves; enumerate; sorted ints; list(range(n)); len(set(..)) -/
namespace VV
open PySem PySem.Spec L2
open PyProof.Rows hiding St

/-- a statement that is never reached -/
def sDead : WS := fun _ _ => False
theorem s_dead {X : Cx} {W : WX} {pn : List Nat} {st : Stmt} : PVS X W pn st sDead := ⟨fun pins s σ H D I ⟨_, _, _, _, _, _, _, _, h, _⟩ => h.elim⟩
/-- a promise of nothing -/
def φF : FS := fun _ _ _ => False
theorem fn_false {P : Program} {w : World} {K : PySem.W.Frag} {mg : Str → Option Value} {base : Heap} {f : Addr} {fd : FuncData} {ps : List Str} {ms : List Mode} : FnOk P w K mg base CX0 0 f fd ps (spOf ⟨P, w, K⟩ ms φF) :=
  ⟨fun vs H Q E ⟨_, _, _, _, _, _, _, _, h, _⟩ => h.elim, fun A outer s H args us vs Q E _ _ _ _ ⟨_, _, _, _, _, _, _, _, h, _⟩ => h.elim⟩

/-! ### enumerate -/
def enumD : Nat → List PyData → List Ent
  | _, [] => []
  | i, d :: ds => .shr (.tuple [.int (i : Nat), d]) :: enumD (i + 1) ds
theorem enumD_len : ∀ (ds : List PyData) (i : Nat), (enumD i ds).length = ds.length
  | [], _ => rfl
  | d :: ds, i => by simp [enumD, enumD_len ds (i + 1)]
theorem enumD_get : ∀ {ds : List PyData} {i j : Nat} {e : Ent}, (enumD i ds)[j]? = some e → ∃ d, ds[j]? = some d ∧ e = .shr (.tuple [.int ((i + j : Nat) : Int), d])
  | d :: ds, i, 0, e, h => by simp [enumD] at h; exact ⟨d, rfl, by rw [← h]; rfl⟩
  | d :: ds, i, j + 1, e, h => by
    simp [enumD] at h
    obtain ⟨d', h1, h2⟩ := enumD_get h
    exact ⟨d', by simpa using h1, by rw [h2, show i + 1 + j = i + (j + 1) by omega]⟩
  | [], _, _, _, h => by simp [enumD] at h
theorem src_en {f : Fr} {G : Hp} {a : Addr} {xs : List V} {ds : List PyData} (r1 : Reps f.q G xs ds) (q1 : ∀ G1 T sl σ H, Same G G1 → Rel f G1 T sl σ H → SqK f.q.K false H a xs) : Src f G (Ite f.q.K a) (enumD 0 ds) := by
  have w := walk_enum (K := f.q.K) (a := a) (xs := xs)
  rw [r1.length, ← enumD_len ds 0] at w
  refine ⟨_, _, w, fun G1 T sl σ H e c => q1 _ _ _ _ _ e c, fun i e x H H' G1 T sl σ hi e1 c y => ?_⟩
  obtain ⟨t, x, y, rfl, ht, rfl, hx, hy⟩ := y
  obtain ⟨d, hd, rfl⟩ := enumD_get hi
  obtain ⟨u, hu, ru⟩ := r1.get hd
  have hy : xs[i]? = some y := hy
  have hx : some (V.int ((i : Nat) : Int)) = some x := hx
  cases hx
  rw [hy] at hu
  cases hu
  rw [Nat.zero_add]
  exact Rel.newTupE c ht (.cons (.int _) (.cons (ru.mono e1) .nil))
def iEn (wa : WA) : WI := fun sl Q => wa sl fun rs s1 => sqRs rs s1 fun xs s2 => match xs with
  | [(b, ds)] => b = false ∧ Q (enumD 0 ds) s2
  | _ => False
theorem i_en {X : Cx} {e : Expr} {wa : WA} {p pos tpos : Pos} {elts : List Expr} {kk : Nat} (hg : Gl X "enumerate") (hm : X.mg "enumerate" = none) (ha : PVA X [e] wa) (hs : starEach [e] X.env = [(false, eval e X.env)] := by rfl) :
    PVI X (.Tuple elts kk tpos) (.Call (.Name "enumerate" p) [e] [] pos) (iEn wa) :=
  PI.imp (pi_enum hg hm ha hs) fun σ H Rr ⟨U, G0, G, T, sl, Qv, c, h, k⟩ => ⟨U, G0, G, T, sl, _, c, h, fun rs s1 hq G1 vs H1 e1 c1 => by
    obtain ⟨G2, xs, s2, e2, c2, hA, hk⟩ := c1.sq hq
    match xs, hk with
    | [(b, ds)], hk =>
      obtain ⟨rfl, hk⟩ := hk
      cases hA with
      | cons h1 hA =>
        cases hA
        obtain ⟨a, xs, rfl, r1, q1⟩ := h1
        exact ⟨a, xs, rfl, q1 _ _ _ _ _ (Same.refl _) c2, k _ _ hk _ _ _ (e1.trans e2) c2 (src_en r1 q1)⟩⟩

/-! ### sorted(ints) -/
def cSortI : CV := fun rs sl Q => match rs with
  | [r] => datR sl r fun d => ∃ ns : List Int, d = lstI ns ∧ ∀ ns' : List Int, ns'.Perm ns → ns'.Pairwise (· ≤ ·) → Q (.e (.own (ns'.map .int))) sl
  | _ => False
theorem repsI {q : Px} {H : Hp} : ∀ ns : List Int, Reps q H (ns.map V.int) (ns.map .int)
  | [] => .nil
  | n :: ns => .cons (.int n) (repsI ns)
theorem c_sortI {X : Cx} : CallR X (.builtin "sorted") (liftC (pxOf X) cSortI) := CallR.imp cr_sortedI fun vs H Q ⟨U, G0, G, T, sl, σ, rs, Qv, c, w, kk⟩ => by
  match rs, c, w with
  | [r], c, w =>
    obtain ⟨v, rfl, cv⟩ := one_of c
    obtain ⟨d, hd, ns, rfl, w⟩ := cv.dat w
    cases hd with
    | lst h1 h2 => exact ⟨_, ns, rfl, by rw [← h2.ints]; exact h1, fun ns' p hp hs hn => kk _ _ (w ns' hp hs) G _ _ (Same.refl _) ⟨c.base.core.newOwn hn (repsI ns'), c.base.wf⟩⟩

/-! ### list(range(n)) -/
def eLstRng (w : WE) : WE := fun sl Q => w sl fun r s1 => datR s1 r (intD fun n => 0 ≤ n ∧ n ≤ 1000 ∧ Q (.e (.own ((List.range n.toNat).map fun i => .int ((i : Nat) : Int)))) s1)
theorem itemsOf_vals {n : Nat} {acc : Array Value} (h : ItemsOf (fun i v => ∃ t, v = .int ((0 : Int) + (i : Nat) * 1) t) acc n) : Vals ((List.range n).map fun i => V.int ((i : Nat) : Int)) acc.toList := by
  have : acc.toList = (List.range n).map fun i => acc.getD i .none := by
    apply List.ext_getElem?
    intro j
    by_cases hj : j < n
    · rw [Array.getElem?_toList, Array.getElem?_eq_getElem (by rw [h.1]; exact hj), List.getElem?_map, List.getElem?_range hj]
      simp [Array.getD, h.1, hj]
    · rw [Array.getElem?_toList, Array.getElem?_eq_none (by rw [h.1]; omega), List.getElem?_eq_none (by simp; omega)]
  rw [this]
  have all : ∀ l : List Nat, (∀ i ∈ l, i < n) → Vals (l.map fun i => V.int ((i : Nat) : Int)) (l.map fun i => acc.getD i .none) := by
    intro l
    induction l with
    | nil => intro _; exact .nil
    | cons i l ih =>
      intro hl
      refine .cons ?_ (ih fun j hj => hl j (by simp [hj]))
      have hi : i < acc.size := by rw [h.1]; exact hl i (by simp)
      obtain ⟨t, e⟩ := h.2 i acc[i] (Array.getElem?_eq_getElem hi)
      refine ⟨t, ?_⟩
      simp only [Array.getD, hi, dite_true]
      show acc[i] = _
      rw [e]
      congr 1
      omega
  exact all _ fun i hi => List.mem_range.mp hi
def tLstRng (te : TE) : TE := fun σ H Q => te σ H fun x H1 => ∃ n : Int, x = .int n ∧ 0 ≤ n ∧ n ≤ 1000 ∧ ∀ p, H1 p = none → Q (.ref p) (upd H1 p (.lst ((List.range n.toNat).map fun i => V.int ((i : Nat) : Int))))
section
variable {X : Cx}
theorem pe_lstRng {e : Expr} {te : TE} {p p2 q pos : Pos} (hc : X.calm = true) (hg : Gl X "list") (hm : X.mg "list" = none) (hg2 : Gl X "range") (hm2 : X.mg "range" = none) (ha : PE X e te)
    (na : starEach [e] X.env = (false, eval e X.env) :: starEach [] X.env := by rfl) : PE X (.Call (.Name "list" p) [.Call (.Name "range" p2) [e] [] q] [] pos) (tLstRng te) := by
  refine ⟨fun pins s σ H Q I h => ?_⟩
  refine Call_ (ld_blt I hg hm PyProof.Rows.boot_list ?_)
  refine PyProof.Rows.callWith_type1 (PyProof.Rows.args_cons ?_ rfl) rfl rfl
  refine Call_ (ld_blt I hg2 hm2 PyProof.Rows.boot_range ?_)
  refine PyProof.Rows.callWith_type1 (PyProof.Rows.args_cons (thn (ha.run pins s σ H _ I h) fun v s1 ⟨x, H1, I1, r1, q1⟩ => PyProof.Rows.args_nil ?_) na) na rfl
  obtain ⟨n, rfl, h0, h1, q1⟩ := q1
  obtain ⟨t, rfl⟩ := r1
  refine call_range_1 ?_
  refine PyProof.Rows.args_nil ?_
  have I2 : Inv X pins σ H1 { s1 with heap := s1.heap.push { cls := .type "range", data := .fields #[.int 0 s1.toks, .int n t, .int 1 (s1.toks + 1)] }, toks := s1.toks + 1 + 1 } := I1.kept fun b o e => Heap.get?_push_of_some _ e
  have e1 : Builtin.Range.rangeSize 0 n 1 = (n.toNat : Nat) := by rw [rangeSize_nat, Int.sub_zero]
  refine call_list_range (I1.ok.hd hc) (Heap.get?_push_size _ rfl) (small_one (by decide) (by decide) (by omega) (by omega)) e1 (by omega) fun h' tk acc c k hn ha => ?_
  have hv := itemsOf_vals ha
  refine ⟨.ref _, _, I2.laid (t' := tk) (o := .lst ((List.range n.toNat).map fun i => V.int ((i : Nat) : Int))) k (Nat.le_refl _) ⟨?_, acc.toList, c, hv, ?_⟩, rfl, q1 _ (I2.hok.fresh (Nat.le_refl _))⟩
  · rw [List.length_map, List.length_range, sizeLine_eq]; omega
  · simpa using hn
theorem v_lstRng {e : Expr} {w : WE} {p p2 q pos : Pos} (hc : X.calm = true) (hg : Gl X "list") (hm : X.mg "list" = none) (hg2 : Gl X "range") (hm2 : X.mg "range" = none) (ha : PV X e w)
    (na : starEach [e] X.env = (false, eval e X.env) :: starEach [] X.env := by rfl) : PV X (.Call (.Name "list" p) [.Call (.Name "range" p2) [e] [] q] [] pos) (eLstRng w) :=
  PE.imp (pe_lstRng hc hg hm hg2 hm2 ha na) fun σ H Q ⟨U, G0, G, T, sl, Qv, c, h, k⟩ => ⟨U, G0, G, T, sl, _, c, h, fun r s1 hq G1 v H1 e1 c1 => by
    obtain ⟨d, hd, hq⟩ := c1.dat hq
    cases d <;> try exact (show False from hq).elim
    obtain ⟨h0, h1, hq⟩ := hq
    refine ⟨_, ints_of hd, h0, h1, fun p hp => k _ _ hq G1 _ _ e1 ⟨c1.base.core.newOwn hp ?_, c1.base.wf⟩⟩
    have : ∀ l : List Nat, Reps (pxOf X) G1 (l.map fun i => V.int ((i : Nat) : Int)) (l.map fun i => PyData.int ((i : Nat) : Int)) := fun l => by
      induction l with
      | nil => exact .nil
      | cons i l ih => exact .cons (.int _) ih
    exact this _⟩

/-! ### len(set(..)) of tuples of ints -/
def tLenSetT (K : PySem.W.Frag) (ta : TE) : TE := fun σ H Q => ta σ H fun x H1 => ∃ (l : Addr) (ks : List (Addr × List Int)), x = V.ref l ∧ SqL K H1 l (ks.map fun p => V.ref p.1) ∧ (∀ p ∈ ks, SqT K H1 p.1 (p.2.map V.int)) ∧ ks.length < 64 ∧
  ∀ L : List (Addr × List Int), (∀ p ∈ L, p ∈ ks) → (∀ p ∈ ks, p.2 ∈ L.map (·.2)) → (L.map (·.2)).Nodup → Q (.int L.length) H1
theorem pe_lenSetT {a : Expr} {ta : TE} {p p2 q pos : Pos} (hc : X.calm = true) (hu : X.A.units + 64 < cLine) (hg : Gl X "len") (hm : X.mg "len" = none) (hg2 : Gl X "set") (hm2 : X.mg "set" = none) (ha : PE X a ta)
    (na : starEach [a] X.env = (false, eval a X.env) :: starEach [] X.env := by rfl) : PE X (.Call (.Name "len" p) [.Call (.Name "set" p2) [a] [] q] [] pos) (tLenSetT X.K ta) := by
  refine ⟨fun pins s σ H Q I h => ?_⟩
  refine Call_ (ld_blt I hg hm PySem.boot_len ?_)
  refine PyProof.Rows.callWith_builtin1 (PyProof.Rows.args_cons ?_ rfl) rfl rfl
  refine Call_ (ld_blt I hg2 hm2 PyProof.Rows.boot_set ?_)
  refine PyProof.Rows.callWith_type1 (PyProof.Rows.args_cons (thn (ha.run pins s σ H _ I h) fun v s1 ⟨x, H1, I1, r1, q1⟩ => PyProof.Rows.args_nil ?_) na) na rfl
  obtain ⟨l, ks, rfl, hl, hk, hf, q1⟩ := q1
  cases r1
  obtain ⟨its, rv, pl, hz⟩ := I1.list hl
  refine call_set_tups (P := X.prog) (w := X.w) ks (I1.ok.hd hc) pl.isList (by simpa using refs_of_vals rv) (fun p hp => Inv.isT I1 (hk p hp)) hf (by omega) fun h' tk L es ep t R g k => ?_
  refine PyProof.Rows.args_nil ?_
  have I2 : Inv X pins σ H1 { s1 with heap := h', toks := tk } := I1.kept fun b o e => k b o e
  obtain ⟨o, ho, hex, hd⟩ := R.ob
  have hsz : es.size = L.length := SetTR.size (s := { s1 with heap := h' }) R
  refine call_len_set ho hex hd (SetTR.fits (s := { s1 with heap := h' }) R) (by rw [hsz]; have := R.few; omega) ⟨.int L.length, H1, I2.tok _, ⟨_, by rw [hsz]⟩, ?_⟩
  exact q1 L (fun p hp => List.mem_of_mem_take (g.sub p hp)) (fun p hp => g.all p (by rw [List.take_length]; exact hp)) R.nd
theorem reps_tups {q : Px} {H : Hp} : ∀ {kk : List (List Int)} {vs : List V}, Reps q H vs (kk.map tupI) → ∃ ks : List (Addr × List Int), vs = ks.map (fun p => V.ref p.1) ∧ ks.map (·.2) = kk ∧ ∀ p ∈ ks, SqT q.K H p.1 (p.2.map V.int)
  | [], _, .nil => ⟨[], rfl, rfl, by simp⟩
  | k :: kk, _, .cons h r => by
    obtain ⟨ks, e1, e2, e3⟩ := reps_tups r
    cases h with
    | tup h1 h2 => exact ⟨(_, k) :: ks, by rw [e1]; rfl, by simp [e2], fun p hp => by
        rcases List.mem_cons.mp hp with rfl | hp
        · rw [← h2.ints]; exact h1
        · exact e3 p hp⟩
def eLenSetT (w : WE) : WE := fun sl Q => w sl fun r s1 => datR s1 r fun d => ∃ kk : List (List Int), d = lstT kk ∧ kk.length < 64 ∧ ∀ L : List (List Int), L.Nodup → (∀ x, x ∈ L ↔ x ∈ kk) → Q (.e (.shr (.int L.length))) s1
theorem v_lenSetT {a : Expr} {w : WE} {p p2 q pos : Pos} (hc : X.calm = true) (hu : X.A.units + 64 < cLine) (hg : Gl X "len") (hm : X.mg "len" = none) (hg2 : Gl X "set") (hm2 : X.mg "set" = none) (ha : PV X a w)
    (na : starEach [a] X.env = (false, eval a X.env) :: starEach [] X.env := by rfl) : PV X (.Call (.Name "len" p) [.Call (.Name "set" p2) [a] [] q] [] pos) (eLenSetT w) :=
  PE.imp (pe_lenSetT hc hu hg hm hg2 hm2 ha na) fun σ H Q ⟨U, G0, G, T, sl, Qv, c, h, k⟩ => ⟨U, G0, G, T, sl, _, c, h, fun r s1 hq G1 v H1 e1 c1 => by
    obtain ⟨d, hd, kk, rfl, hl, hq⟩ := c1.dat hq
    cases hd with
    | lst h1 h2 =>
      obtain ⟨ks, rfl, rfl, hk⟩ := reps_tups h2
      refine ⟨_, ks, rfl, h1, hk, by simpa using hl, fun L hL hA hn => ?_⟩
      have := hq (L.map (·.2)) hn fun x => ⟨fun hx => by
        obtain ⟨p, hp, rfl⟩ := List.mem_map.mp hx
        exact List.mem_map.mpr ⟨p, hL p hp, rfl⟩, fun hx => by
        obtain ⟨p, hp, rfl⟩ := List.mem_map.mp hx
        exact hA p hp⟩
      rw [List.length_map] at this
      exact k _ _ this G1 _ _ e1 ⟨c1.base.core.addShr (.int _), c1.base.wf⟩⟩
end
theorem v_globE {X : Cx} {pos : Pos} {x : Str} {i : Int} (hg : Gl X x) (hm : ∃ t, X.mg x = some (.int i t)) (hd : (x == ("__debug__" : Str)) = false := by decide) : PV X (.Name x pos) (eC (.int i)) := by
  obtain ⟨t, hm⟩ := hm
  exact v_glob hg hm hd
end VV

/-! V20: marks -/
namespace VV
open PySem PySem.Spec L2
open PyProof.Rows hiding St

/-! ### marks -/
def Pos (dial : List Int) : Prop := ∀ s ∈ dial, 0 < s
def zeroM (dial : List Int) : List Int := dial.map fun _ => 0
def addM (dial a b : List Int) : List Int := (z3 a b dial).map fun p => (p.1 + p.2.1) % p.2.2
def timesM (dial : List Int) (n : Int) (m : List Int) : List Int := (z2 m dial).map fun p => n * p.1 % p.2
theorem mapint {α : Type} (f : α → Int) (xs : List α) : xs.map (fun x => PyData.int (f x)) = (xs.map f).map .int := by rw [List.map_map]; rfl
def rangeI (n : Int) : List Int := (List.range n.toNat).map fun i => ((i : Nat) : Int)
def ext (s : Int) (m : List Int) : List (List Int) := (rangeI s).map fun p => m ++ [p]
def allF (f : List (List Int)) (s : Int) : List (List Int) := f.flatMap (ext s)
def allM (dial : List Int) : List (List Int) := dial.foldl allF [[]]
theorem allM_snoc (d : List Int) (s : Int) : allM (d ++ [s]) = allF (allM d) s := by simp [allM]
theorem rangeI_len (n : Int) : (rangeI n).length = n.toNat := by simp [rangeI]
theorem ext_len (s : Int) (m : List Int) : (ext s m).length = s.toNat := by simp [ext, rangeI_len]
theorem flat_len (s : Int) : ∀ f : List (List Int), (f.flatMap (ext s)).length = f.length * s.toNat
  | [] => by simp
  | m :: f => by rw [List.flatMap_cons, List.length_append, ext_len, flat_len s f, List.length_cons, Nat.add_mul]; omega
theorem emod_bound (x : Int) {s : Int} (h : 0 < s) : 0 ≤ x % s ∧ x % s < s := ⟨Int.emod_nonneg x (by omega), Int.emod_lt_of_pos x h⟩
theorem foldF_len : ∀ (d : List Int) (f : List (List Int)), (∀ s ∈ d, s ≤ 40) → (d.foldl allF f).length ≤ f.length * 40 ^ d.length
  | [], f, _ => by simp
  | s :: d, f, h => by
    have h1 := foldF_len d (allF f s) fun x hx => h x (by simp [hx])
    have h2 : (allF f s).length ≤ f.length * 40 := by
      unfold allF; rw [flat_len]; exact Nat.mul_le_mul_left _ (by have := h s (by simp); omega)
    simp only [List.foldl_cons, List.length_cons, Nat.pow_succ]
    refine Nat.le_trans h1 (Nat.le_trans (Nat.mul_le_mul_right _ h2) ?_)
    rw [Nat.mul_assoc, Nat.mul_comm (40 ^ d.length) 40]
    exact Nat.le_refl _
theorem allM_mem : ∀ (d : List Int) (f : List (List Int)) (n : Nat), (∀ m ∈ f, m.length = n) → ∀ m ∈ d.foldl allF f, m.length = n + d.length
  | [], f, n, h, m, hm => by simpa using h m hm
  | s :: d, f, n, h, m, hm => by
    have := allM_mem d (allF f s) (n + 1) (fun x hx => by
      simp only [allF, List.mem_flatMap, ext, List.mem_map] at hx
      obtain ⟨a, ha, p, _, rfl⟩ := hx
      simp [h a ha]) m hm
    simp only [List.length_cons]; omega
theorem allM_len {d : List Int} (h : ∀ s ∈ d, s ≤ 40) (hl : d.length ≤ 2) : (allM d).length ≤ 1600 := by
  have h1 := foldF_len d [[]] h
  have h2 : 40 ^ d.length ≤ 40 ^ 2 := Nat.pow_le_pow_right (by decide) hl
  unfold allM
  simp only [List.length_cons, List.length_nil] at h1
  omega
theorem map_ext (s : Int) (m : List Int) : ([m].flatMap (ext s)).map tupI = (List.range s.toNat).map fun i => PyData.tuple (m.map .int ++ [.int (0 + (i : Nat))]) := by
  simp [ext, rangeI, Function.comp_def]
theorem snd_map_tup (m : List Int) (i : Int) : (PyData.tuple (m.map .int ++ [.int i])) = tupI (m ++ [i]) := by simp [tupI]

abbrev deckE (a b c : Int) : Ent := .own [.int a, .int b, .int c]

def Good (dial : List Int) : Prop := dial ≠ [] ∧ dial.length ≤ 2 ∧ ∀ s ∈ dial, 2 ≤ s ∧ s ≤ 40

inductive MarkOf : List Int → List Int → Prop
  | nil : MarkOf [] []
  | cons {s p : Int} {ss ps : List Int} : 0 ≤ p → p < s → MarkOf ss ps → MarkOf (s :: ss) (p :: ps)
theorem MarkOf.snoc {s p : Int} {ss ps : List Int} (h : MarkOf ss ps) (h0 : 0 ≤ p) (h1 : p < s) : MarkOf (ss ++ [s]) (ps ++ [p]) := by
  induction h with
  | nil => exact .cons h0 h1 .nil
  | cons a b _ ih => exact .cons a b ih
theorem MarkOf.len {ss ps : List Int} (h : MarkOf ss ps) : ps.length = ss.length := by
  induction h with
  | nil => rfl
  | cons _ _ _ ih => simp [ih]

def sumM (dial : List Int) (marks : List (List Int)) : List Int := (List.range dial.length).map fun i => (marks.map fun m => m.getD i 0).sum % dial.getD i 0
theorem getD_mem {xs : List Int} {i : Nat} (h : i < xs.length) : xs.getD i 0 ∈ xs := by
  rw [List.getD_eq_getElem?_getD, List.getElem?_eq_getElem h]; simp

/-! ### the laws of marks -/
theorem MarkOf.pos {ss ps : List Int} (h : MarkOf ss ps) : ∀ s ∈ ss, 0 < s := by
  induction h with
  | nil => simp
  | cons a b _ ih =>
    intro x hx
    rcases List.mem_cons.mp hx with rfl | hx
    · omega
    · exact ih x hx
theorem MarkOf.small {ss ps : List Int} (h : MarkOf ss ps) (hs : ∀ s ∈ ss, s ≤ 40) : ∀ p ∈ ps, p.natAbs < 2 ^ 200 := by
  induction h with
  | nil => simp
  | @cons s p ss ps a b _ ih =>
    intro x hx
    rcases List.mem_cons.mp hx with rfl | hx
    · have := hs s (by simp); omega
    · exact ih (fun s h => hs s (by simp [h])) x hx
theorem addM_cons (s p q : Int) (ss ps qs : List Int) : addM (s :: ss) (p :: ps) (q :: qs) = (p + q) % s :: addM ss ps qs := rfl
theorem timesM_cons (n s p : Int) (ss ps : List Int) : timesM (s :: ss) n (p :: ps) = n * p % s :: timesM ss n ps := rfl
theorem zeroM_cons (s : Int) (ss : List Int) : zeroM (s :: ss) = 0 :: zeroM ss := rfl
theorem sumM_cons (s p q : Int) (ss ps qs : List Int) : sumM (s :: ss) [p :: ps, q :: qs] = (p + q) % s :: sumM ss [ps, qs] := by
  simp only [sumM, List.length_cons, List.range_succ_eq_map, List.map_cons, List.map_map]
  congr 1
  simp
theorem sum_add {d a : List Int} (ha : MarkOf d a) : ∀ {b : List Int}, MarkOf d b → sumM d [a, b] = addM d a b := by
  induction ha with
  | nil => intro b hb; cases hb; rfl
  | cons h1 h2 _ ih => intro b hb; cases hb with | cons h3 h4 hb => rw [sumM_cons, addM_cons, ih hb]
theorem addM_mark {d a : List Int} (ha : MarkOf d a) : ∀ {b : List Int}, MarkOf d b → MarkOf d (addM d a b) := by
  induction ha with
  | nil => intro b hb; cases hb; exact .nil
  | cons h1 h2 _ ih => intro b hb; cases hb with | cons h3 h4 hb => rw [addM_cons]; exact .cons (emod_bound _ (by omega)).1 (emod_bound _ (by omega)).2 (ih hb)
theorem timesM_mark {d a : List Int} (n : Int) (ha : MarkOf d a) : MarkOf d (timesM d n a) := by
  induction ha with
  | nil => exact .nil
  | cons h1 h2 _ ih => rw [timesM_cons]; exact .cons (emod_bound _ (by omega)).1 (emod_bound _ (by omega)).2 ih
theorem addM_comm {d a : List Int} (ha : MarkOf d a) : ∀ {b : List Int}, MarkOf d b → addM d a b = addM d b a := by
  induction ha with
  | nil => intro b hb; cases hb; rfl
  | cons h1 h2 _ ih => intro b hb; cases hb with | cons h3 h4 hb => rw [addM_cons, addM_cons, ih hb, Int.add_comm]
theorem addM_assoc {d a : List Int} (ha : MarkOf d a) : ∀ {b c : List Int}, MarkOf d b → MarkOf d c → addM d (addM d a b) c = addM d a (addM d b c) := by
  induction ha with
  | nil => intro b c hb hc; cases hb; cases hc; rfl
  | cons h1 h2 _ ih =>
    intro b c hb hc
    cases hb with
    | cons h3 h4 hb =>
      cases hc with
      | cons h5 h6 hc => rw [addM_cons, addM_cons, addM_cons, addM_cons, ih hb hc, Int.emod_add_emod, Int.add_emod_emod, Int.add_assoc]
theorem times_one {d a : List Int} (ha : MarkOf d a) : timesM d 1 a = a := by
  induction ha with
  | nil => rfl
  | cons h1 h2 _ ih => rw [timesM_cons, ih, Int.one_mul, Int.emod_eq_of_lt h1 h2]
theorem times_add {d a : List Int} (ha : MarkOf d a) (n k : Int) : addM d (timesM d n a) (timesM d k a) = timesM d (n + k) a := by
  induction ha with
  | nil => rfl
  | cons h1 h2 _ ih => rw [timesM_cons, timesM_cons, timesM_cons, addM_cons, ih, ← Int.add_emod, Int.add_mul]
theorem times_zero {d a : List Int} (ha : MarkOf d a) : timesM d 0 a = zeroM d := by
  induction ha with
  | nil => rfl
  | cons h1 h2 _ ih => rw [timesM_cons, zeroM_cons, ih, Int.zero_mul, Int.zero_emod]
theorem add_back {d a : List Int} (ha : MarkOf d a) : addM d a (timesM d (-1) a) = zeroM d := by
  have := times_add ha 1 (-1)
  rw [times_one ha] at this
  rw [this]; exact times_zero ha
def prodM (d : List Int) : Int := d.foldr (· * ·) 1
theorem times_per {d a : List Int} (ha : MarkOf d a) : ∀ k : Int, timesM d (k * prodM d) a = zeroM d := by
  induction ha with
  | nil => intro k; rfl
  | @cons s p ss ps h1 h2 _ ih =>
    intro k
    have e : k * prodM (s :: ss) = (k * s) * prodM ss := by show k * (s * prodM ss) = _; rw [Int.mul_assoc]
    rw [timesM_cons, zeroM_cons, e, ih]
    congr 1
    have : k * s * prodM ss * p = (k * prodM ss * p) * s := by rw [Int.mul_assoc k s, Int.mul_comm s (prodM ss), ← Int.mul_assoc k, Int.mul_assoc (k * prodM ss), Int.mul_comm s p, ← Int.mul_assoc]
    rw [this]
    exact Int.mul_emod_left _ _
theorem prod_bound {d : List Int} (hg : Good d) : 1 ≤ prodM d ∧ prodM d ≤ 1600 := by
  obtain ⟨h0, h1, h2⟩ := hg
  match d, h0, h1, h2 with
  | [], h0, _, _ => exact absurd rfl h0
  | [s], _, _, h2 => have := h2 s (by simp); simp [prodM]; omega
  | [s, t], _, _, h2 =>
    have a := h2 s (by simp)
    have b := h2 t (by simp)
    simp only [prodM, List.foldr_cons, List.foldr_nil, Int.mul_one]
    constructor
    · have := Int.mul_le_mul (show (1:Int) ≤ s by omega) (show (1:Int) ≤ t by omega) (by decide) (by omega); omega
    · have := Int.mul_le_mul (show s ≤ 40 by omega) (show t ≤ 40 by omega) (by omega) (by decide); omega
  | _ :: _ :: _ :: _, _, h1, _ => simp at h1
theorem Good.pos {d : List Int} (hg : Good d) : Pos d := fun s h => by have := hg.2.2 s h; omega
theorem Good.len {d : List Int} (hg : Good d) : 1 ≤ d.length ∧ d.length ≤ 2 := ⟨by have := hg.1; cases d with | nil => exact absurd rfl this | cons _ _ => simp, hg.2.1⟩
theorem zeros_eq (d : List Int) : PyData.tuple (List.replicate (((d.map PyData.int).length : Nat) : Int).toNat [PyData.int 0]).flatten = tupI (zeroM d) := by
  have : ∀ n, (List.replicate n [PyData.int 0]).flatten = List.replicate n (PyData.int 0) := fun n => by
    induction n with
    | zero => rfl
    | succ n ih => rw [List.replicate_succ, List.flatten_cons, ih]; rfl
  rw [Int.toNat_natCast, this, List.length_map]
  show PyData.tuple _ = PyData.tuple _
  congr 1
  induction d with
  | nil => rfl
  | cons s d ih => simpa [List.replicate_succ, zeroM] using ih

theorem good_marks {dial m : List Int} (hg : Good dial) (hm : m ∈ allM dial) : 0 < m.length := by
  have := allM_mem dial [[]] 0 (by simp) m hm
  have := hg.len
  omega

end VV

/-! V21: orders with unlike beginnings -/
namespace VV
open PySem
section
variable {α : Type} [DecidableEq α]
theorem findSome_map {β γ δ : Type} (g : γ → δ) (f : β → Option γ) : ∀ l : List β, (l.findSome? f).map g = l.findSome? fun x => (f x).map g
  | [] => rfl
  | x :: l => by
    simp only [List.findSome?_cons]
    cases f x with
    | none => simpa using findSome_map g f l
    | some y => rfl
theorem findSome_congr {β γ : Type} {f g : β → Option γ} : ∀ {l : List β}, (∀ x ∈ l, f x = g x) → l.findSome? f = l.findSome? g
  | [], _ => rfl
  | x :: l, h => by
    simp only [List.findSome?_cons, h x (by simp)]
    rw [findSome_congr (l := l) fun y hy => h y (by simp [hy])]
theorem findSome_mapL {β γ δ : Type} (f : γ → Option δ) (g : β → γ) : ∀ l : List β, (l.map g).findSome? f = l.findSome? fun x => f (g x)
  | [] => rfl
  | x :: l => by simp only [List.map_cons, List.findSome?_cons]; rw [findSome_mapL f g l]
/-- the orders gone through: what is there so far, where it has come to, what it has come to -/
def goF (A : α → α → α) (z : α) (h : List α) : Nat → List Nat → α → List α → Option (List Nat)
  | 0, order, _, _ => some order
  | n + 1, order, here, seen => (List.range h.length).findSome? fun k => if k ∈ order ∨ A here (h.getD k z) ∈ seen then none else goF A z h n (order ++ [k]) (A here (h.getD k z)) (seen ++ [A here (h.getD k z)])
variable {A : α → α → α} {z : α}
theorem go_front (y : α) (h : List α) : ∀ (n : Nat) (order : List Nat) (here : α) (seen : List α), goF A z (y :: h) n (0 :: order.map (· + 1)) here seen = (goF A z h n order here seen).map fun r => 0 :: r.map (· + 1)
  | 0, order, here, seen => rfl
  | n + 1, order, here, seen => by
    rw [goF, goF, findSome_map, List.length_cons, List.range_succ_eq_map, List.findSome?_cons, findSome_mapL]
    simp only [List.mem_cons, true_or, if_true]
    refine findSome_congr fun k _ => ?_
    have e1 : (y :: h).getD (k + 1) z = h.getD k z := by simp [List.getD_eq_getElem?_getD]
    have e2 : (Nat.succ k = 0 ∨ Nat.succ k ∈ order.map (· + 1)) ↔ k ∈ order := by simp
    rw [show Nat.succ k = k + 1 from rfl] at *
    rw [e1]
    by_cases hc : k ∈ order ∨ A here (h.getD k z) ∈ seen
    · rw [if_pos hc, if_pos (hc.imp e2.mpr id)]; rfl
    · rw [if_neg hc, if_neg fun q => hc (q.imp e2.mp id), ← go_front y h n (order ++ [k])]
      simp
theorem go_back (y : α) (h : List α) : ∀ (n : Nat) (order : List Nat) (here : α) (seen : List α), goF A z (h ++ [y]) n (h.length :: order) here seen = (goF A z h n order here seen).map fun r => h.length :: r
  | 0, order, here, seen => rfl
  | n + 1, order, here, seen => by
    rw [goF, goF, findSome_map, List.length_append, List.length_singleton, List.range_succ, List.findSome?_append]
    have e0 : [h.length].findSome? (fun k => if k ∈ h.length :: order ∨ A here ((h ++ [y]).getD k z) ∈ seen then none else goF A z (h ++ [y]) n (h.length :: order ++ [k]) (A here ((h ++ [y]).getD k z)) (seen ++ [A here ((h ++ [y]).getD k z)])) = none := by simp
    rw [e0, Option.or_none]
    refine findSome_congr fun k hk => ?_
    have hk := List.mem_range.mp hk
    have e1 : (h ++ [y]).getD k z = h.getD k z := by simp [List.getD_eq_getElem?_getD, List.getElem?_append_left hk]
    have e2 : k ∈ h.length :: order ↔ k ∈ order := by
      rw [List.mem_cons]
      exact ⟨fun q => q.resolve_left (by omega), .inr⟩
    rw [e1]
    by_cases hc : k ∈ order ∨ A here (h.getD k z) ∈ seen
    · rw [if_pos hc, if_pos (hc.imp e2.mpr id)]; rfl
    · rw [if_neg hc, if_neg fun q => hc (q.imp e2.mp id), ← go_back y h n (order ++ [k])]
      rfl
theorem nodup_le : ∀ (m : Nat) (l : List Nat), l.Nodup → (∀ x ∈ l, x < m) → l.length ≤ m
  | 0, l, _, h => by
    cases l with
    | nil => simp
    | cons x l => exact absurd (h x (by simp)) (by omega)
  | m + 1, l, hn, h => by
    have h1 := nodup_le m (l.erase m) (hn.erase m) fun x hx => by
      have := (hn.mem_erase_iff).mp hx
      have := h x this.2
      omega
    have h2 : l.length ≤ (l.erase m).length + 1 := by
      by_cases hm : m ∈ l
      · rw [List.length_erase_of_mem hm]; omega
      · rw [List.erase_of_not_mem hm]; omega
    omega
/-- a thing that changes nothing, not among the first: no order -/
theorem go_none {C : α → Prop} (hA : ∀ x y, C x → C y → C (A x y)) {h : List α} (hh : ∀ x ∈ h, C x) {i : Nat} (hi : i < h.length) (hz : ∀ x, C x → A x (h.getD i z) = x) :
    ∀ (n : Nat) (order : List Nat) (here : α) (seen : List α), i ∉ order → here ∈ seen → C here → order.Nodup → (∀ k ∈ order, k < h.length) → order.length + n = h.length → goF A z h n order here seen = none
  | 0, order, here, seen, h1, _, _, h4, h5, h6 => by
    have := nodup_le h.length (i :: order) (List.nodup_cons.mpr ⟨h1, h4⟩) (by simpa using ⟨hi, h5⟩)
    simp at this
    omega
  | n + 1, order, here, seen, h1, h2, h3, h4, h5, h6 => by
    rw [goF, List.findSome?_eq_none_iff]
    intro k hk
    have hk := List.mem_range.mp hk
    by_cases hc : k ∈ order ∨ A here (h.getD k z) ∈ seen
    · rw [if_pos hc]
    · rw [if_neg hc]
      have hki : k ≠ i := fun e => hc (.inr (by rw [e, hz _ h3]; exact h2))
      have hko : k ∉ order := fun q => hc (.inl q)
      have hC : C (h.getD k z) := hh _ (by rw [List.getD_eq_getElem?_getD, List.getElem?_eq_getElem hk]; simp)
      refine go_none hA hh hi hz n _ _ _ ?_ (by simp) (hA _ _ h3 hC) ?_ ?_ (by simp; omega)
      · simp [h1, Ne.symm hki]
      · rw [List.nodup_append]
        exact ⟨h4, by simp, fun a ha b hb e => by simp at hb; subst hb; subst e; exact hko ha⟩
      · intro j hj
        rcases List.mem_append.mp hj with hj | hj
        · exact h5 j hj
        · simp at hj; omega
/-- things changed by a map that is one-to-one -/
theorem go_map {C : α → Prop} (hA : ∀ x y, C x → C y → C (A x y)) {f : α → α} (hf : ∀ x y, C x → C y → f (A x y) = A (f x) (f y)) (hinj : ∀ x y, C x → C y → f x = f y → x = y) {h : List α} (hh : ∀ x ∈ h, C x) :
    ∀ (n : Nat) (order : List Nat) (here : α) (seen : List α), C here → (∀ x ∈ seen, C x) → goF A z (h.map f) n order (f here) (seen.map f) = goF A z h n order here seen
  | 0, _, _, _, _, _ => rfl
  | n + 1, order, here, seen, hc, hs => by
    rw [goF, goF, List.length_map]
    refine findSome_congr fun k hk => ?_
    have hk := List.mem_range.mp hk
    have e1 : (h.map f).getD k z = f (h.getD k z) := by simp [List.getD_eq_getElem?_getD, List.getElem?_eq_getElem hk]
    have hC : C (h.getD k z) := hh _ (by rw [List.getD_eq_getElem?_getD, List.getElem?_eq_getElem hk]; simp)
    have hT := hA _ _ hc hC
    rw [e1, ← hf _ _ hc hC]
    have e2 : f (A here (h.getD k z)) ∈ seen.map f ↔ A here (h.getD k z) ∈ seen := by
      rw [List.mem_map]
      exact ⟨fun ⟨x, hx, e⟩ => by rw [← hinj x _ (hs x hx) hT e]; exact hx, fun hx => ⟨_, hx, rfl⟩⟩
    by_cases hq : k ∈ order ∨ A here (h.getD k z) ∈ seen
    · rw [if_pos hq, if_pos (hq.imp id e2.mpr)]
    · rw [if_neg hq, if_neg fun q => hq (q.imp id e2.mp)]
      have := go_map hA hf hinj hh n (order ++ [k]) (A here (h.getD k z)) (seen ++ [A here (h.getD k z)]) hT (fun x hx => by
        rcases List.mem_append.mp hx with hx | hx
        · exact hs x hx
        · simp at hx; subst hx; exact hT)
      rw [List.map_append] at this
      exact this
/-- an order that may be gone on by -/
def Vd (A : α → α → α) (z : α) (h : List α) : List Nat → List Nat → α → List α → Prop
  | [], _, _, _ => True
  | k :: ks, order, here, seen => k < h.length ∧ k ∉ order ∧ A here (h.getD k z) ∉ seen ∧ Vd A z h ks (order ++ [k]) (A here (h.getD k z)) (seen ++ [A here (h.getD k z)])
theorem go_some {h : List α} : ∀ (ks order : List Nat) (here : α) (seen : List α), Vd A z h ks order here seen → goF A z h ks.length order here seen ≠ none
  | [], _, _, _, _ => nofun
  | k :: ks, order, here, seen, ⟨h1, h2, h3, h4⟩ => fun e => by
    rw [List.length_cons, goF, List.findSome?_eq_none_iff] at e
    have := e k (List.mem_range.mpr h1)
    rw [if_neg (not_or.mpr ⟨h2, h3⟩)] at this
    exact go_some ks _ _ _ h4 this
theorem go_valid {h : List α} : ∀ (n : Nat) (order : List Nat) (here : α) (seen : List α) (r : List Nat), goF A z h n order here seen = some r → ∃ ks, r = order ++ ks ∧ ks.length = n ∧ Vd A z h ks order here seen
  | 0, order, here, seen, r, e => by
    cases e
    exact ⟨[], by simp, rfl, trivial⟩
  | n + 1, order, here, seen, r, e => by
    rw [goF] at e
    obtain ⟨k, hk, e⟩ := List.exists_of_findSome?_eq_some e
    by_cases hc : k ∈ order ∨ A here (h.getD k z) ∈ seen
    · rw [if_pos hc] at e; cases e
    · rw [if_neg hc] at e
      obtain ⟨ks, e1, e2, e3⟩ := go_valid n _ _ _ r e
      exact ⟨k :: ks, by rw [e1]; simp, by simp [e2], List.mem_range.mp hk, fun q => hc (.inl q), fun q => hc (.inr q), e3⟩

def sumsL (A : α → α → α) (z : α) (h : List α) : List Nat → α → List α
  | [], _ => []
  | k :: ks, here => A here (h.getD k z) :: sumsL A z h ks (A here (h.getD k z))
theorem vd_nodup {h : List α} : ∀ (ks order : List Nat) (here : α) (seen : List α), Vd A z h ks order here seen → order.Nodup → seen.Nodup → (order ++ ks).Nodup ∧ (seen ++ sumsL A z h ks here).Nodup ∧ ∀ k ∈ ks, k < h.length
  | [], order, here, seen, _, h1, h2 => ⟨by simpa using h1, by simpa [sumsL] using h2, by simp⟩
  | k :: ks, order, here, seen, ⟨q1, q2, q3, q4⟩, h1, h2 => by
    obtain ⟨a, b, c⟩ := vd_nodup ks _ _ _ q4 (by
      rw [List.nodup_append]
      exact ⟨h1, by simp, fun a ha b hb e => by simp at hb; subst hb; subst e; exact q2 ha⟩) (by
      rw [List.nodup_append]
      exact ⟨h2, by simp, fun a ha b hb e => by simp at hb; subst hb; subst e; exact q3 ha⟩)
    refine ⟨by simpa using a, by simpa [sumsL] using b, fun j hj => ?_⟩
    rcases List.mem_cons.mp hj with rfl | hj
    · exact q1
    · exact c j hj
theorem vd_pre {h : List α} : ∀ (ks ks2 order : List Nat) (here : α) (seen : List α), Vd A z h (ks ++ ks2) order here seen → Vd A z h ks order here seen
  | [], _, _, _, _, _ => trivial
  | k :: ks, ks2, order, here, seen, ⟨q1, q2, q3, q4⟩ => ⟨q1, q2, q3, vd_pre ks ks2 _ _ _ q4⟩
/-- the things in that order: one after the other -/
theorem vd_row {h : List α} : ∀ (ks : List Nat) (xs : List α) (order : List Nat) (here : α) (seen : List α), Vd A z h ks order here seen →
    Vd A z (xs ++ ks.map fun k => h.getD k z) (List.range' xs.length ks.length) (List.range xs.length) here seen
  | [], _, _, _, _, _ => trivial
  | k :: ks, xs, order, here, seen, ⟨q1, q2, q3, q4⟩ => by
    have e1 : (xs ++ (k :: ks).map fun k => h.getD k z).getD xs.length z = h.getD k z := by simp [List.getD_eq_getElem?_getD]
    have ih := vd_row ks (xs ++ [h.getD k z]) _ _ _ q4
    rw [List.length_append, List.length_singleton, List.range_succ, List.append_assoc] at ih
    refine ⟨by simp, by simp, by rw [e1]; exact q3, ?_⟩
    rw [e1]
    exact ih
theorem sumsL_take {h : List α} : ∀ (ks : List Nat) (here : α), sumsL A z h ks here = (List.range ks.length).map fun j => ((ks.take (j + 1)).map fun k => h.getD k z).foldl A here
  | [], _ => rfl
  | k :: ks, here => by
    rw [sumsL, sumsL_take ks, List.length_cons, List.range_succ_eq_map, List.map_cons, List.map_map]
    rfl
/-- nought ahead of all -/
theorem ahead_eq {C : α → Prop} (hA : ∀ x y, C x → C y → C (A x y)) {y : α} (hy : C y) (hyr : ∀ x, C x → A x y = x) {h : List α} (hh : ∀ x ∈ h, C x) :
    goF A z (y :: h) (h.length + 1) [] y [] = (goF A z h h.length [] y [y]).map fun r => 0 :: r.map (· + 1) := by
  rw [goF, List.length_cons, List.range_succ_eq_map, List.findSome?_cons]
  have e0 : A y ((y :: h).getD 0 z) = y := by simpa [List.getD_eq_getElem?_getD] using hyr y hy
  rw [if_neg (by simp), e0]
  have f := go_front (A := A) (z := z) y h h.length [] y [y]
  simp only [List.map_nil] at f
  simp only [List.nil_append]
  rw [f]
  cases goF A z h h.length [] y [y] with
  | some r => rfl
  | none =>
    simp only [Option.map_none]
    rw [List.findSome?_eq_none_iff]
    intro k hk
    obtain ⟨j, hj, rfl⟩ := List.mem_map.mp hk
    have hj := List.mem_range.mp hj
    have hC : C ((y :: h).getD (j + 1) z) := by
      have : (y :: h).getD (j + 1) z = h[j] := by simp [List.getD_eq_getElem?_getD, hj]
      rw [this]; exact hh _ (List.getElem_mem hj)
    rw [if_neg (by simp)]
    have hyh : ∀ x ∈ y :: h, C x := fun x hx => by
      rcases List.mem_cons.mp hx with rfl | hx
      · exact hy
      · exact hh x hx
    exact go_none hA hyh (i := 0) (by simp) (fun x hx => by simpa [List.getD_eq_getElem?_getD] using hyr x hx) _ _ _ _ (by simp) (by simp) (hA _ _ hy hC) (by simp) (by simp; omega) (by simp; omega)
/-- .. behind all -/
theorem behind_eq {C : α → Prop} (hA : ∀ x y, C x → C y → C (A x y)) {y : α} (hy : C y) (hyr : ∀ x, C x → A x y = x) {h : List α} (hh : ∀ x ∈ h, C x) :
    goF A z (h ++ [y]) (h.length + 1) [] y [] = (goF A z h h.length [] y [y]).map fun r => h.length :: r := by
  rw [goF, List.length_append, List.length_singleton, List.range_succ, List.findSome?_append]
  have hyh : ∀ x ∈ h ++ [y], C x := fun x hx => by
    rcases List.mem_append.mp hx with hx | hx
    · exact hh x hx
    · simp at hx; subst hx; exact hy
  have e0 : (h ++ [y]).getD h.length z = y := by simp [List.getD_eq_getElem?_getD]
  have none1 : (List.range h.length).findSome? (fun k => if k ∈ [] ∨ A y ((h ++ [y]).getD k z) ∈ [] then none else goF A z (h ++ [y]) h.length ([] ++ [k]) (A y ((h ++ [y]).getD k z)) ([] ++ [A y ((h ++ [y]).getD k z)])) = none := by
    rw [List.findSome?_eq_none_iff]
    intro j hj
    have hj := List.mem_range.mp hj
    have hC : C ((h ++ [y]).getD j z) := by
      have : (h ++ [y]).getD j z = h[j] := by simp [List.getD_eq_getElem?_getD, List.getElem?_append_left hj, hj]
      rw [this]; exact hh _ (List.getElem_mem hj)
    rw [if_neg (by simp)]
    exact go_none hA hyh (i := h.length) (by simp) (fun x hx => by rw [e0]; exact hyr x hx) _ _ _ _ (by simp; omega) (by simp) (hA _ _ hy hC) (by simp) (by simp; omega) (by simp; omega)
  rw [none1, Option.none_or, List.findSome?_cons, if_neg (by simp), e0, hyr y hy]
  have f := go_back (A := A) (z := z) y h h.length [] y [y]
  simp only [List.nil_append]
  rw [f]
  cases goF A z h h.length [] y [y] <;> rfl
theorem nodup_sub : ∀ (l l' : List α), l.Nodup → (∀ x ∈ l, x ∈ l') → l.length ≤ l'.length
  | [], _, _, _ => by simp
  | x :: l, l', hn, hs => by
    have hn := List.nodup_cons.mp hn
    have hx := hs x (by simp)
    have := nodup_sub l (l'.erase x) hn.2 fun y hy => by
      have : y ≠ x := fun e => hn.1 (e ▸ hy)
      exact (List.mem_erase_of_ne this).mpr (hs y (by simp [hy]))
    rw [List.length_erase_of_mem hx] at this
    have : 0 < l'.length := List.length_pos_of_mem hx
    simp only [List.length_cons]; omega
end
theorem pw_gap : ∀ (l : List Int), l.Pairwise (· < ·) → ∀ (b : Int), (∀ x ∈ l, b ≤ x) → (∀ x ∈ l, x < b + l.length) → l = (List.range l.length).map fun i => b + ((i : Nat) : Int)
  | [], _, _, _, _ => rfl
  | x :: l, hp, b, h1, h2 => by
    have hp' := List.pairwise_cons.mp hp
    have hb := h1 x (by simp)
    -- the tail lies above x, below b + 1 + length
    have key : ∀ (l : List Int), l.Pairwise (· < ·) → ∀ c : Int, (∀ y ∈ l, c ≤ y) → ∀ d : Int, (∀ y ∈ l, y < d) → (l.length : Int) ≤ d - c ∨ l = [] := by
      intro l
      induction l with
      | nil => intro _ c _ d _; exact .inr rfl
      | cons y l ih =>
        intro hp c hc d hd
        have hp' := List.pairwise_cons.mp hp
        have a := hc y (by simp)
        have e := hd y (by simp)
        rcases ih hp'.2 (y + 1) (fun w hw => by have := hp'.1 w hw; omega) d (fun w hw => hd w (by simp [hw])) with h | h
        · left; simp only [List.length_cons]; omega
        · left; subst h; simp; omega
    have hx : x = b := by
      rcases key l hp'.2 (x + 1) (fun y hy => by have := hp'.1 y hy; omega) (b + (l.length + 1 : Nat)) (fun y hy => by have := h2 y (by simp [hy]); simpa using this) with h | h
      · omega
      · subst h; have := h2 x (by simp); simp at this; omega
    subst hx
    have ih := pw_gap l hp'.2 (x + 1) (fun y hy => by have := hp'.1 y hy; omega) (fun y hy => by have := h2 y (by simp [hy]); simp at this; omega)
    rw [List.length_cons, List.range_succ_eq_map, List.map_cons, List.map_map]
    congr 1
    · simp
    · rw [ih]
      simp only [List.length_map, List.length_range]
      apply List.map_congr_left
      intro i _
      simp; omega
/-- sorted, an order of all numbers is all numbers -/
theorem sorted_all {r : List Nat} {n : Nat} {ns : List Int} (hn : r.Nodup) (hl : ∀ k ∈ r, k < n) (hlen : r.length = n) (hp : ns.Perm (r.map fun k => ((k : Nat) : Int))) (hs : ns.Pairwise (· ≤ ·)) : ns = (List.range n).map fun i => ((i : Nat) : Int) := by
  have hd : ns.Nodup := hp.nodup_iff.mpr (List.pairwise_map.mpr (hn.imp fun h e => h (by omega)))
  have hlt : ns.Pairwise (· < ·) := (hs.and hd).imp fun ⟨a, b⟩ => by omega
  have hle : ns.length = n := by rw [hp.length_eq, List.length_map, hlen]
  have hm : ∀ x ∈ ns, 0 ≤ x ∧ x < n := fun x hx => by
    obtain ⟨k, hk, rfl⟩ := List.mem_map.mp (hp.mem_iff.mp hx)
    have := hl k hk
    omega
  have := pw_gap ns hlt 0 (fun x hx => (hm x hx).1) (fun x hx => by rw [hle]; have := hm x hx; omega)
  rw [hle] at this
  simpa using this

/-! ### sums of marks -/
theorem perm_sum {l l' : List Int} (h : l.Perm l') : l.sum = l'.sum := by
  induction h with
  | nil => rfl
  | cons x _ ih => simp [ih]
  | swap x y l => simp; omega
  | trans _ _ a b => exact a.trans b
theorem sumM_perm {d : List Int} {ms ms' : List (List Int)} (h : ms.Perm ms') : sumM d ms = sumM d ms' := by
  unfold sumM
  exact List.map_congr_left fun i _ => by rw [perm_sum (h.map fun m => m.getD i 0)]
theorem addM_getD : ∀ {d a b : List Int}, a.length = d.length → b.length = d.length → addM d a b = (List.range d.length).map fun i => (a.getD i 0 + b.getD i 0) % d.getD i 0
  | [], [], [], _, _ => rfl
  | s :: d, p :: a, q :: b, h1, h2 => by
    rw [addM_cons, addM_getD (d := d) (a := a) (b := b) (by simpa using h1) (by simpa using h2), List.length_cons, List.range_succ_eq_map, List.map_cons, List.map_map]
    congr 1
  | _ :: _, [], _, h, _ => by simp at h
  | _ :: _, _ :: _, [], _, h => by simp at h
  | [], _ :: _, _, h, _ => by simp at h
  | [], [], _ :: _, _, h => by simp at h
theorem sumM_len (d : List Int) (ms : List (List Int)) : (sumM d ms).length = d.length := by simp [sumM]
theorem sumM_snoc {d : List Int} {ms : List (List Int)} {m : List Int} (hm : m.length = d.length) : sumM d (ms ++ [m]) = addM d (sumM d ms) m := by
  rw [addM_getD (sumM_len d ms) hm]
  unfold sumM
  refine List.map_congr_left fun i hi => ?_
  have hi := List.mem_range.mp hi
  have e : ((List.range d.length).map fun i => (ms.map fun m => m.getD i 0).sum % d.getD i 0).getD i 0 = (ms.map fun m => m.getD i 0).sum % d.getD i 0 := by
    simp [List.getD_eq_getElem?_getD, hi]
  rw [e, Int.emod_add_emod]
  simp
theorem sumM_nil (d : List Int) : sumM d [] = zeroM d := by
  unfold sumM zeroM
  apply List.ext_getElem
  · simp
  · intro i h1 h2; simp
theorem sum_fold {d : List Int} : ∀ (n : Nat) (ms : List (List Int)), ms.length = n → (∀ m ∈ ms, m.length = d.length) → sumM d ms = ms.foldl (addM d) (zeroM d)
  | 0, ms, h, _ => by
    have := List.eq_nil_of_length_eq_zero h
    subst this
    exact sumM_nil d
  | n + 1, ms, h, hm => by
    have hne : ms ≠ [] := fun e => by subst e; simp at h
    have e := List.dropLast_concat_getLast hne
    rw [← e, sumM_snoc (hm _ (List.getLast_mem hne)), List.foldl_append, sum_fold n ms.dropLast (by simp [h]) fun m hx => hm m (List.dropLast_subset _ hx)]
    rfl
theorem zero_mark {d : List Int} (h : Pos d) : MarkOf d (zeroM d) := by
  induction d with
  | nil => exact .nil
  | cons s d ih => exact .cons (Int.le_refl 0) (h s (by simp)) (ih fun x hx => h x (by simp [hx]))
theorem add_zero {d a : List Int} (ha : MarkOf d a) : addM d a (zeroM d) = a := by
  induction ha with
  | nil => rfl
  | cons h1 h2 _ ih => rw [zeroM_cons, addM_cons, ih, Int.add_zero, Int.emod_eq_of_lt h1 h2]
theorem fold_mark {d : List Int} : ∀ (ms : List (List Int)) {a : List Int}, MarkOf d a → (∀ m ∈ ms, MarkOf d m) → MarkOf d (ms.foldl (addM d) a)
  | [], _, ha, _ => ha
  | m :: ms, _, ha, h => fold_mark ms (addM_mark ha (h m (by simp))) fun x hx => h x (by simp [hx])

/-! ### multiplied by a number without a common divisor -/
theorem times_addM {d a : List Int} (u : Int) (ha : MarkOf d a) : ∀ {b : List Int}, MarkOf d b → timesM d u (addM d a b) = addM d (timesM d u a) (timesM d u b) := by
  induction ha with
  | nil => intro b hb; cases hb; rfl
  | cons h1 h2 _ ih =>
    intro b hb
    cases hb with
    | cons h3 h4 hb => rw [addM_cons, timesM_cons, timesM_cons, timesM_cons, addM_cons, ih hb, ← Int.add_emod, ← Int.mul_add, Int.mul_emod, Int.emod_emod, ← Int.mul_emod]
theorem cancel {u s p q : Int} (hs : 0 < s) (hg : Int.gcd u s = 1) (hp : 0 ≤ p ∧ p < s) (hq : 0 ≤ q ∧ q < s) (h : u * p % s = u * q % s) : p = q := by
  have h1 : s ∣ u * (p - q) := by
    have : (u * p - u * q) % s = 0 := by rw [Int.sub_emod, h]; simp
    rw [Int.mul_sub]
    exact Int.dvd_of_emod_eq_zero this
  have h2 : s.natAbs ∣ u.natAbs * (p - q).natAbs := by rw [← Int.natAbs_mul]; exact Int.natAbs_dvd_natAbs.mpr h1
  have h3 : s.natAbs ∣ (p - q).natAbs := Nat.Coprime.dvd_of_dvd_mul_left (Nat.Coprime.symm (show Nat.Coprime u.natAbs s.natAbs from hg)) h2
  have h4 : (p - q).natAbs < s.natAbs := by omega
  have h5 := Nat.eq_zero_of_dvd_of_lt h3 h4
  omega
theorem times_inj {d : List Int} {u : Int} (hg : ∀ s ∈ d, Int.gcd u s = 1) {a : List Int} (ha : MarkOf d a) : ∀ {b : List Int}, MarkOf d b → timesM d u a = timesM d u b → a = b := by
  induction ha with
  | nil => intro b hb _; cases hb; rfl
  | cons h1 h2 _ ih =>
    intro b hb h
    cases hb with
    | cons h3 h4 hb =>
      rw [timesM_cons, timesM_cons] at h
      injection h with e1 e2
      rw [cancel (by omega) (hg _ (by simp)) ⟨h1, h2⟩ ⟨h3, h4⟩ e1, ih (fun s hs => hg s (by simp [hs])) hb e2]
theorem unit_gcd {u s l : Int} (hs : 0 < s) (hsl : s ∣ l) (hl : 0 < l) (h : ∀ one : Int, 2 ≤ one → one ≤ l → ¬(u % one = 0 ∧ l % one = 0)) : Int.gcd u s = 1 := by
  have h0 : 0 < Int.gcd u s := Int.gcd_pos_of_ne_zero_right _ (by omega)
  rcases Nat.lt_or_ge 1 (Int.gcd u s) with h1 | h1
  · exfalso
    have d1 : ((Int.gcd u s : Nat) : Int) ∣ u := Int.gcd_dvd_left ..
    have d2 : ((Int.gcd u s : Nat) : Int) ∣ l := Int.dvd_trans (Int.gcd_dvd_right ..) hsl
    have le := Int.le_of_dvd hl d2
    exact h _ (by omega) le ⟨Int.emod_eq_zero_of_dvd d1, Int.emod_eq_zero_of_dvd d2⟩
  · omega
end VV

/-! V22: sorted(set(..)) of tuples of ints -/
namespace VV
open PySem PySem.Spec L2
open PyProof.Rows hiding St
/-- a thing that nobody looks at any more -/
theorem Core.junk {f : Fr} {G H : Hp} {L : List (V × Ent)} {p : Addr} {o : HO} (c : Core f G L H) (h : H p = none) (ho : ∀ xs, o ≠ .tup xs) (hf : ∀ u xs, o ≠ .frz u xs) : Core f G L (upd H p o) := by
  obtain ⟨F, a, b, k⟩ := c.res
  have np := Core.there a h
  have ht : TupIn H (upd H p o) := fun b xs e => by rw [upd_ne (ne_of_none e h)]; exact e
  refine ⟨c.sU.trans (same_upd h), c.sG.trans (same_upd h), fun b xs e => ?_, fun b u xs e => ?_, c.new, F, a.mono (Same.refl _) ht fun x m => upd_ne (np x m), b, k⟩
  · by_cases z : b = p
    · subst z; rw [upd_same] at e; exact absurd (Option.some.inj e) (ho xs)
    · rw [upd_ne z] at e; exact c.tups _ _ e
  · by_cases z : b = p
    · subst z; rw [upd_same] at e; exact absurd (Option.some.inj e) (hf u _)
    · rw [upd_ne z] at e; exact c.frzs _ _ _ e
theorem Rel.junk {f : Fr} {G H : Hp} {T : List (V × Ent)} {sl : Slots} {σ : St} {p : Addr} {o : HO} (c : Rel f G T sl σ H) (h : H p = none) (ho : ∀ xs, o ≠ .tup xs) (hf : ∀ u xs, o ≠ .frz u xs) : Rel f G T sl σ (upd H p o) := ⟨c.core.junk h ho hf, c.wf⟩
/-- the tuples by their code, B above all their places -/
def eSortSet (w : WE) : WE := fun sl Q => w sl fun r s1 => ltR s1 r fun b ds => b = false ∧ ∃ (kk : List (List Int)) (d : Nat) (B : Int), ds = kk.map tupI ∧ kk.length < 64 ∧ 1 ≤ d ∧ (∀ k ∈ kk, k.length = d ∧ TS.Bd B k) ∧
  ∀ L : List (List Int), L.Nodup → (∀ x, x ∈ L ↔ x ∈ kk) → L.Pairwise (fun q r => TS.code B q ≤ TS.code B r) → Q (.e (.own (L.map tupI))) s1
theorem reps_tups2 {q : Px} {H G : Hp} : ∀ {kk : List (List Int)} {vs : List V}, (∀ a xs, SqT q.K G a xs → SqT q.K H a xs) → Reps q G vs (kk.map tupI) →
    ∃ ks : List (Addr × List Int), vs = ks.map (fun p => V.ref p.1) ∧ ks.map (·.2) = kk ∧ (∀ p ∈ ks, SqT q.K H p.1 (p.2.map V.int)) ∧ ∀ p ∈ ks, Rep q G (.ref p.1) (tupI p.2)
  | [], _, _, .nil => ⟨[], rfl, rfl, by simp, by simp⟩
  | k :: kk, _, hq, .cons h r => by
    obtain ⟨ks, e1, e2, e3, e4⟩ := reps_tups2 hq r
    cases h with
    | tup h1 h2 => exact ⟨(_, k) :: ks, by rw [e1]; rfl, by simp [e2], fun p hp => by
        rcases List.mem_cons.mp hp with rfl | hp
        · rw [← h2.ints]; exact hq _ _ h1
        · exact e3 p hp, fun p hp => by
        rcases List.mem_cons.mp hp with rfl | hp
        · exact .tup h1 h2
        · exact e4 p hp⟩
section
variable {X : Cx}
theorem v_sortSet {a : Expr} {w : WE} {p p2 q pos : PySem.Pos} (hc : X.calm = true) (hu : X.A.units + 64 < cLine) (hg : Gl X "sorted") (hm : X.mg "sorted" = none) (hg2 : Gl X "set") (hm2 : X.mg "set" = none) (ha : PV X a w)
    (na : starEach [a] X.env = (false, eval a X.env) :: starEach [] X.env := by rfl) : PV X (.Call (.Name "sorted" p) [.Call (.Name "set" p2) [a] [] q] [] pos) (eSortSet w) :=
  PE.imp (pe_callB (cr_sortedT hc) hg hm PyProof.Rows.boot_sorted (pa_cons (pe_callTy (cr_setOfT hc hu) hg2 hm2 PyProof.Rows.boot_set (pa_cons ha pa_nil na) (by decide) (by decide) na rfl) pa_nil rfl) (by decide) (by decide) rfl rfl) fun σ H Q ⟨U, G0, G, T, sl, Qv, c, h, k⟩ => by
    refine ⟨U, G0, G, T, sl, _, c, h, fun r s1 hq G1 v H1 e1 c1 => ?_⟩
    obtain ⟨l, vs, b, ds, rfl, hs, hr, _, rfl, kk, d, B, rfl, hl, hd, hB, hq⟩ := c1.lt hq
    have cb := c1.base
    obtain ⟨ks, rfl, rfl, hk, hk2⟩ := reps_tups2 (H := H1) (fun a xs h => Same.seqT cb.core.sG h) hr
    refine ⟨l, ks, rfl, hs, hk, by simpa using hl, fun a L hn hL hA => ?_⟩
    refine ⟨a, L, d, B, rfl, upd_same, fun p hp => ?_, hd, fun p hp => hB _ (List.mem_map.mpr ⟨p, hL p hp, rfl⟩), fun L' p' hpm hnd hlt hpw hn' => ?_⟩
    · have s : Same H1 (upd H1 a (SetTO X.prog X.w a L)) := same_upd hn
      exact Same.seqT s (hk p (hL p hp))
    · have c2 : Rel ⟨pxOf X, U, G0⟩ G1 T s1 σ (upd H1 a (SetTO X.prog X.w a L)) := cb.junk hn (fun xs e => by cases e) (fun u xs e => by cases e)
      have r' : Reps (pxOf X) G1 (L'.map fun q => V.ref q.1) ((L'.map (·.2)).map tupI) := by
        have : ∀ l : List (Addr × List Int), (∀ p ∈ l, p ∈ ks) → Reps (pxOf X) G1 (l.map fun q => V.ref q.1) ((l.map (·.2)).map tupI) := fun l => by
          induction l with
          | nil => intro _; exact .nil
          | cons p l ih => intro h; exact .cons (hk2 p (h p (by simp))) (ih fun x hx => h x (by simp [hx]))
        exact this L' fun p hp => hL p (hpm.mem_iff.mp hp)
      refine k _ _ (hq (L'.map (·.2)) hnd (fun x => ?_) ?_) G1 _ _ e1 ⟨c2.core.newOwn hn' r', c2.wf⟩
      · constructor
        · intro hx
          obtain ⟨p, hp, rfl⟩ := List.mem_map.mp hx
          exact List.mem_map.mpr ⟨p, hL p (hpm.mem_iff.mp hp), rfl⟩
        · intro hx
          obtain ⟨p, hp, rfl⟩ := List.mem_map.mp hx
          obtain ⟨p', hp', e⟩ := List.mem_map.mp (hA p hp)
          exact List.mem_map.mpr ⟨p', hpm.mem_iff.mpr hp', e⟩
      · exact List.pairwise_map.mpr hpw
end
end VV

/-! V23: <=; min of a tuple of ints -/
namespace VV
open PySem PySem.Spec L2
open PyProof.Rows hiding St
def dLeI : DOp := fun dx dy k => match dx, dy with
  | .int i, .int j => k (.bool (decide (i ≤ j)))
  | _, _ => False
section
variable {X : Cx}
theorem o_le : OpR X (compareOp .LtE) (liftO (pxOf X) (oRd dLeI)) := op_rd op_le fun x y H dx dy k Q hx hy hg hQ => by
  cases dx <;> try exact hg.elim
  cases dy <;> try exact hg.elim
  exact ⟨_, _, ints_of hx, ints_of hy, hQ _ _ hg (.bl _)⟩
def rMinT (K : PySem.W.Frag) : List V → Hp → VK → Prop := fun vs H Q => ∃ (a : Addr) (n : Int) (ns : List Int), vs = [V.ref a] ∧ SqT K H a ((n :: ns).map V.int) ∧ Q (.int (ns.foldl min n)) H
theorem dpI {K : PySem.W.Frag} {H : Hp} : ∀ ns : List Int, DpAll K H (ns.map V.int) (ns.map .int)
  | [] => .nil
  | n :: ns => .cons (.int n) (dpI ns)
theorem depthI : ∀ ns : List Int, PyData.depthAll (ns.map .int) = 0
  | [] => rfl
  | n :: ns => by simp only [List.map_cons, PyData.depthAll, depthI ns]; rfl
theorem cr_minT (hc : X.calm = true) (hu : X.A.units + 64 < cLine) : CallR X (.builtin "min") (rMinT X.K) := by
  intro pins s σ H vs us Q I r h
  obtain ⟨a, n, ns, rfl, hs, q⟩ := h
  obtain ⟨its, rv, hl, _⟩ := I.tuple hs
  rw [Vals.ref1 r]
  obtain ⟨as, hr⟩ := Dp.readsAll I ((n :: ns).map .int) ((n :: ns).map V.int) its (dpI _) rv
  refine PySem.W.min_tuple_data (I.ok.hd hc) (show s.heap.IsTuple a its.toArray from hl) (x := .int n) (xs := ns.map .int) (as := as) (by simpa using hr) ⟨fun x hx y hy => ?_, fun x hx => ?_⟩ ?_ fun i v h' tk bs hv hr' hk => ?_
  · have hx : x ∈ (n :: ns).map PyData.int := hx
    have hy : y ∈ (n :: ns).map PyData.int := hy
    obtain ⟨i, _, rfl⟩ := List.mem_map.mp hx
    obtain ⟨j, _, rfl⟩ := List.mem_map.mp hy
    rfl
  · have hx : x ∈ (n :: ns).map PyData.int := hx
    obtain ⟨i, _, rfl⟩ := List.mem_map.mp hx
    nofun
  · have : PyData.depthAll (PyData.int n :: ns.map .int) = 0 := depthI (n :: ns)
    rw [this]
    omega
  · rw [PySem.W.minD_ints] at hr'
    refine ⟨.int (ns.foldl min n), H, I.kept hk, ?_, q⟩
    cases hr'
    exact ⟨_, rfl⟩
def fMinT (ds : List PyData) (k : PyData → Prop) : Prop := match ds with
  | [.tuple xs] => ∃ (n : Int) (ns : List Int), xs = (n :: ns).map .int ∧ k (.int (ns.foldl min n))
  | _ => False
theorem c_minT (hc : X.calm = true) (hu : X.A.units + 64 < cLine) : CallR X (.builtin "min") (liftC (pxOf X) (cRd fMinT)) := rd_of (cr_minT hc hu) fun q H vs ds kd Q hq r h k => by
  subst hq
  unfold fMinT at h
  split at h
  · obtain ⟨n, ns, rfl, h⟩ := h
    obtain ⟨v, rfl, rv⟩ := reps1 r
    cases rv with | tup h1 h2 => exact ⟨_, n, ns, rfl, by rw [← h2.ints]; exact h1, k _ _ h (.int _)⟩
  · exact h.elim
end
end VV

/-! V24: dicts whose keys are tuples: what they are, asked, stored -/
namespace VV
open PySem PySem.Spec L2
open PyProof.Rows hiding St

mutual
theorem nk_inj : ∀ a b : NestedKey, a.data = b.data → a = b
  | .none, b, h => by cases b <;> simp [NestedKey.data] at h ⊢
  | .num i, b, h => by cases b <;> simp [NestedKey.data] at h ⊢; exact h
  | .text x, b, h => by cases b <;> simp [NestedKey.data] at h ⊢; exact h
  | .tup ks, b, h => by
    cases b with
    | tup ls => simp only [NestedKey.data, PyData.tuple.injEq] at h; rw [nks_inj ks ls h]
    | none => simp [NestedKey.data] at h
    | num i => simp [NestedKey.data] at h
    | text x => simp [NestedKey.data] at h
theorem nks_inj : ∀ a b : List NestedKey, NestedKey.datas a = NestedKey.datas b → a = b
  | [], b, h => by cases b <;> simp [NestedKey.datas] at h ⊢
  | k :: ks, b, h => by
    cases b with
    | nil => simp [NestedKey.datas] at h
    | cons l ls =>
      simp only [NestedKey.datas, List.cons.injEq] at h
      rw [nk_inj k l h.1, nks_inj ks ls h.2]
end
/-- a tuple that may be a key -/
def KeyD (d : PyData) : Prop := ∃ k : NestedKey, d = k.data ∧ k.depth ≤ 8 ∧ ∃ ks, k = .tup ks
section
open Classical
/-- what stands at a key -/
noncomputable def Look (ds : List (PyData × PyData)) (k : PyData) : Option PyData := (ds.find? fun p => decide (p.1 = k)).map (·.2)
noncomputable def Put (ds : List (PyData × PyData)) (k v : PyData) : List (PyData × PyData) :=
  if (Look ds k).isSome = true then ds.map fun p => if p.1 = k then (p.1, v) else p else ds ++ [(k, v)]
theorem look_nil (k : PyData) : Look [] k = none := rfl
theorem look_cons (p : PyData × PyData) (ds : List (PyData × PyData)) (k : PyData) : Look (p :: ds) k = if p.1 = k then some p.2 else Look ds k := by
  unfold Look
  rw [List.find?_cons]
  by_cases h : p.1 = k <;> simp [h]
end
theorem at_cons {K : Type} [DecidableEq K] (x : K × Addr × Value) (xs : List (K × Addr × Value)) (k : K) : atKey (x :: xs) k = if x.1 = k then some x.2 else atKey xs k := by
  unfold atKey
  rw [List.find?_cons]
  by_cases h : x.1 = k <;> simp [h]
/-- what stands there and here -/
inductive Both (q : Px) (H : Hp) : Option (Addr × Value) → Option PyData → Prop
  | none : Both q H none none
  | some {b u v d} : RelV v u → Rep q H v d → Both q H (some (b, u)) (some d)
section
variable {q : Px} {H : Hp} {xs : List (NestedKey × Addr × Value)} {ds : List (PyData × PyData)}
theorem RepT.length : ∀ {xs : List (NestedKey × Addr × Value)} {ds : List (PyData × PyData)}, RepT q H xs ds → xs.length = ds.length
  | _, _, .nil => rfl
  | _, _, .cons _ _ _ _ r => by simp [RepT.length r]
theorem RepT.keys : ∀ {xs : List (NestedKey × Addr × Value)} {ds : List (PyData × PyData)}, RepT q H xs ds → ds.map (·.1) = xs.map fun x => x.1.data
  | _, _, .nil => rfl
  | _, _, .cons _ _ _ _ r => by simp [RepT.keys r]
theorem RepT.look (k : NestedKey) : ∀ {xs : List (NestedKey × Addr × Value)} {ds : List (PyData × PyData)}, RepT q H xs ds → Both q H (atKey xs k) (Look ds k.data)
  | _, _, .nil => by rw [look_nil]; exact .none
  | _, _, .cons (k := k1) (xs := xs) (ds := ds) h1 h2 h3 h4 r => by
    rw [at_cons, look_cons]
    by_cases e : k1 = k
    · rw [if_pos e, if_pos (show k1.data = k.data by rw [e])]
      exact .some h3 h4
    · rw [if_neg e, if_neg (show ¬ k1.data = k.data from fun z => e (nk_inj _ _ z))]
      exact RepT.look k r
theorem RepT.snoc {k : NestedKey} {b : Addr} {u : Value} {v : V} {d : PyData} (h1 : Rep q H (.ref b) k.data) (h2 : k.depth ≤ 8) (h3 : RelV v u) (h4 : Rep q H v d) :
    ∀ {xs : List (NestedKey × Addr × Value)} {ds : List (PyData × PyData)}, RepT q H xs ds → RepT q H (xs ++ [(k, b, u)]) (ds ++ [(k.data, d)])
  | _, _, .nil => .cons h1 h2 h3 h4 .nil
  | _, _, .cons g1 g2 g3 g4 r => .cons g1 g2 g3 g4 (RepT.snoc h1 h2 h3 h4 r)
open Classical in
theorem RepT.over {k : NestedKey} {u : Value} {v : V} {d : PyData} (h3 : RelV v u) (h4 : Rep q H v d) :
    ∀ {xs : List (NestedKey × Addr × Value)} {ds : List (PyData × PyData)}, RepT q H xs ds → RepT q H (xs.map (putAt k u)) (ds.map fun p => if p.1 = k.data then (p.1, d) else p)
  | _, _, .nil => .nil
  | _, _, .cons (k := k1) g1 g2 g3 g4 r => by
    rw [List.map_cons, List.map_cons]
    by_cases e : k1 = k
    · subst e
      simp only [putAt, if_true]
      exact .cons g1 g2 h3 h4 (RepT.over h3 h4 r)
    · have e' : ¬ k1.data = k.data := fun z => e (nk_inj _ _ z)
      simp only [putAt, if_neg e, if_neg e']
      exact .cons g1 g2 g3 g4 (RepT.over h3 h4 r)
theorem Both.some_iff {o : Option (Addr × Value)} {e : Option PyData} (h : Both q H o e) : o.isSome = e.isSome := by cases h <;> rfl
theorem RepT.put {k : NestedKey} {b : Addr} {u : Value} {v : V} {d : PyData} (h1 : Rep q H (.ref b) k.data) (h2 : k.depth ≤ 8) (h3 : RelV v u) (h4 : Rep q H v d) (r : RepT q H xs ds) :
    RepT q H (storedH xs k b u) (Put ds k.data d) := by
  unfold storedH Put
  rw [(r.look k).some_iff]
  split
  · exact r.over h3 h4
  · exact r.snoc h1 h2 h3 h4
end

/-! ### in a state -/
section
variable {X : Cx} {pins : List (Addr × Obj)} {s : Shared} {σ : St} {H : Hp} {a b : Addr} {o : Obj} {xs : List (NestedKey × Addr × Value)} {ds : List (PyData × PyData)}
mutual
theorem Rep.key (I : Inv X pins σ H s) : ∀ (k : NestedKey) (v : V) (u : Value), Rep (pxOf X) H v k.data → RelV v u → NestedIs s.heap k u
  | .none, v, u, r, ru => by
    have r' : Rep (pxOf X) H v .none := by simpa [NestedKey.data] using r
    cases r'; cases ru; exact .none
  | .num i, v, u, r, ru => by
    have r' : Rep (pxOf X) H v (.int i) := by simpa [NestedKey.data] using r
    cases r'
    obtain ⟨t, rfl⟩ := ru
    exact .int _ _
  | .text x, v, u, r, ru => by
    have r' : Rep (pxOf X) H v (.str x) := by simpa [NestedKey.data] using r
    cases r'
    obtain ⟨t, rfl⟩ := ru
    exact .text _ _
  | .tup ks, v, u, r, ru => by
    have r' : Rep (pxOf X) H v (.tuple (NestedKey.datas ks)) := by simpa [NestedKey.data] using r
    cases r' with
    | tup h hr =>
      cases ru
      obtain ⟨its, rv, ⟨ob, ho, hc, n, hd⟩, _⟩ := I.tuple h
      exact .tup ho hc hd (by simpa using Reps.keys I ks _ _ hr rv)
theorem Reps.keys (I : Inv X pins σ H s) : ∀ (ks : List NestedKey) (vs : List V) (us : List Value), Reps (pxOf X) H vs (NestedKey.datas ks) → Vals vs us → NestedAll s.heap ks us
  | [], vs, us, r, ru => by
    have r' : Reps (pxOf X) H vs [] := by simpa [NestedKey.datas] using r
    cases r'; cases ru; exact .nil
  | k :: ks, vs, us, r, ru => by
    have r' : Reps (pxOf X) H vs (k.data :: NestedKey.datas ks) := by simpa [NestedKey.datas] using r
    cases r' with
    | cons h hr => cases ru with | cons g gr => exact .cons (Rep.key I k _ _ h g) (Reps.keys I ks _ _ hr gr)
end
theorem RepT.are (I : Inv X pins σ H s) : ∀ {xs : List (NestedKey × Addr × Value)} {ds : List (PyData × PyData)}, RepT (pxOf X) H xs ds → ∀ x ∈ xs, (nestedKind X.prog X.w).is s.heap x.1 x.2.1
  | _, _, .nil, x, hx => by simp at hx
  | _, _, .cons h1 h2 _ _ r, x, hx => by
    rcases List.mem_cons.mp hx with rfl | hx
    · exact ⟨Rep.key I _ _ _ h1 rfl, h2⟩
    · exact RepT.are I r x hx
theorem td_at (I : Inv X pins σ H s) (e : H a = some (TDict (pxOf X) a o xs)) :
    s.heap.get? a = some o ∧ xs.length ≤ sizeLine ∧ (a == sysModules) = false ∧ o.ExactDict ∧ (∃ es ep, o.data = .dict es ep ∧ es.toList = xs.map (entryOfKey (nestedKind X.prog X.w))) ∧ (xs.map (·.1)).Nodup := (I.hok a _ e).1
theorem td_is (I : Inv X pins σ H s) (e : H a = some (TDict (pxOf X) a o xs)) (r : RepT (pxOf X) H xs ds) : s.heap.DictOfH (nestedKind X.prog X.w) a xs := by
  obtain ⟨h1, _, _, h3, ⟨es, ep, h4, h5⟩, h6⟩ := td_at I e
  exact ⟨o, es, ep, h1, h3, h4, h5, r.are I, h6⟩
/-- a heap in which such a dict stands -/
theorem td_ok {P : Program} {w : World} {K : PySem.W.Frag} {H' : Hp} {h : Heap} (hd : h.DictOfH (nestedKind P w) a xs) (hz : xs.length ≤ sizeLine) (hs : (a == sysModules) = false) : ∃ o, ObjOk P w H' h a (TDict ⟨P, w, K⟩ a o xs) := by
  obtain ⟨o, es, ep, h1, h2, h3, h4, _, h6⟩ := hd
  refine ⟨o, ⟨h1, hz, hs, h2, ⟨es, ep, h3, h4⟩, h6⟩, ⟨o, h1⟩, fun g1 g2 ⟨k1, k2⟩ hk => ⟨hk _ k1, k2⟩⟩
/-! ### by values -/
/-- what is asked of a dict at x by the key y: o is what stands there -/
def TAsk (q : Px) (H : Hp) (x y : V) (o : Option (Addr × Value)) : Prop :=
  ∃ a ob es ds k b, x = .ref a ∧ y = .ref b ∧ H a = some (TDict q a ob es) ∧ RepT q H es ds ∧ Rep q H (.ref b) k.data ∧ k.depth ≤ 8 ∧ o = atKey es k
theorem room_nk {P : Program} {w : World} {A : Around} (hu : A.units + 64 < cLine) : (nestedKind P w).room A.in1 := by
  show A.in1.units + 8 < cLine
  rw [Around.in1_units]
  omega
def rTIx (q : Px) : R2 := fun x y H Q => ∃ p u v, TAsk q H x y (some (p, u)) ∧ RelV v u ∧ Q v H
theorem ix_td (hu : X.A.units + 64 < cLine) : IxR X (rTIx (pxOf X)) := by
  intro value slice pins s σ H x y v u Q I rx ry h hs
  obtain ⟨p, u', v', ⟨a, ob, es, ds, k, b, rfl, rfl, ha, r, rk, hk, ho⟩, rv, q⟩ := h
  obtain rfl : v = Value.ref a := rx
  obtain rfl : u = Value.ref b := ry
  have dd := td_is I ha r
  exact tail_any dd.typeIs slot_dict_getitem.lookup (wpAny_getItem_heap (room_nk hu) ⟨Rep.key I _ _ _ rk rfl, hk⟩ dd ho.symm ⟨v', H, I.tok _, rv, q⟩) hs
def rTIn (q : Px) : R2 := fun x y H Q => ∃ o, TAsk q H y x o ∧ Q (.bl o.isSome) H
def rTNotIn (q : Px) : R2 := fun x y H Q => ∃ o, TAsk q H y x o ∧ Q (.bl (!o.isSome)) H
theorem op_inT (hu : X.A.units + 64 < cLine) : OpR X (compareOp .In) (rTIn (pxOf X)) := by
  intro pins s σ H x y v u Q I rx ry h
  obtain ⟨o, ⟨a, ob, es, ds, k, b, rfl, rfl, ha, r, rk, hk, rfl⟩, q⟩ := h
  obtain rfl : v = Value.ref b := rx
  obtain rfl : u = Value.ref a := ry
  exact wpAny_in_heap (room_nk hu) ⟨Rep.key I _ _ _ rk rfl, hk⟩ (td_at I ha).2.2.1 (td_is I ha r) ⟨.bl _, H, I.tok _, rfl, q⟩
theorem op_notInT (hu : X.A.units + 64 < cLine) : OpR X (compareOp .NotIn) (rTNotIn (pxOf X)) := by
  intro pins s σ H x y v u Q I rx ry h
  obtain ⟨o, ⟨a, ob, es, ds, k, b, rfl, rfl, ha, r, rk, hk, rfl⟩, q⟩ := h
  obtain rfl : v = Value.ref b := rx
  obtain rfl : u = Value.ref a := ry
  exact wpAny_notIn_heap (room_nk hu) ⟨Rep.key I _ _ _ rk rfl, hk⟩ (td_at I ha).2.2.1 (td_is I ha r) ⟨.bl _, H, I.tok _, rfl, q⟩
/-- a dict's object changed -/
theorem td_upd {xs' : List (NestedKey × Addr × Value)} {h' : Heap} {tk : Nat} (I : Inv X pins σ H s) (e : H a = some (TDict (pxOf X) a o xs)) (hd : h'.DictOfH (nestedKind X.prog X.w) a xs') (hs : Heap.SameBut a s.heap h') (hz : xs'.length ≤ sizeLine) :
    ∃ o', Inv X pins σ (upd H a (TDict (pxOf X) a o' xs')) { s with heap := h', toks := tk } := by
  obtain ⟨o', ho⟩ := td_ok (K := X.K) (H' := upd H a (TDict (pxOf X) a o xs)) hd hz (td_at I e).2.2.1
  refine ⟨o', d_write I (by rw [e]; exact trivial) hs ho.2.1 ?_⟩
  exact ⟨ho.1, ho.2⟩
/-- .. a new one -/
theorem td_new {h' : Heap} {tk : Nat} (I : Inv X pins σ H s) (hd : h'.DictOfH (nestedKind X.prog X.w) s.heap.objs.size xs) (hk : ∀ b o, s.heap.get? b = some o → h'.get? b = some o) (hz : xs.length ≤ sizeLine) :
    ∃ o', Inv X pins σ (upd H s.heap.objs.size (TDict (pxOf X) s.heap.objs.size o' xs)) { s with heap := h', toks := tk } := by
  obtain ⟨o', ho⟩ := td_ok (K := X.K) (H' := H) hd hz (beq_eq_false_iff_ne.mpr (Nat.ne_of_gt I.big))
  exact ⟨o', I.laid hk (Nat.le_refl _) ⟨ho.1, ho.2⟩⟩
def rTSet (q : Px) : V → V → V → Hp → (Hp → Prop) → Prop := fun x y v H Q => ∃ a ob es ds k b, x = .ref a ∧ y = .ref b ∧ H a = some (TDict q a ob es) ∧ RepT q H es ds ∧ Rep q H (.ref b) k.data ∧ k.depth ≤ 8 ∧ es.length < sizeLine ∧
  ∀ u ob', RelV v u → Q (upd H a (TDict q a ob' (storedH es k b u)))
theorem set_td (hu : X.A.units + 64 < cLine) : PSet X (rTSet (pxOf X)) := by
  intro pins s σ H x y v ov iv u Q I ro ri rv h
  obtain ⟨a, ob, es, ds, k, b, rfl, rfl, ha, r, rk, hk, hz, q⟩ := h
  obtain rfl : ov = Value.ref a := ro
  obtain rfl : iv = Value.ref b := ri
  refine wpAny_setItem_heap (room_nk hu) ⟨Rep.key I _ _ _ rk rfl, hk⟩ (td_is I ha r) (fun h' hd hs => ?_) (Nat.le_of_lt hz)
  obtain ⟨o', I'⟩ := td_upd (tk := s.toks + (nestedKind X.prog X.w).draws k) I ha hd hs (by have := storedH_length es k b u; omega)
  exact ⟨_, I', q _ _ rv⟩
def tTGet2 (q : Px) (to te tf : TE) : TE := fun σ H Q => to σ H fun x H1 => ∃ a ob es, x = .ref a ∧ H1 a = some (TDict q a ob es) ∧ te σ H1 fun y H2 => tf σ H2 fun z H3 =>
  ∃ o, TAsk q H3 (.ref a) y o ∧ (o = none → Q z H3) ∧ ∀ p u, o = some (p, u) → ∃ v, RelV v u ∧ Q v H3
theorem pe_tget2 {o e f : Expr} {to te tf : TE} {apos cpos : PySem.Pos} (hu : X.A.units + 64 < cLine) (ho : PE X o to) (he : PE X e te) (hf : PE X f tf) (m : M2 X o "get" apos e f cpos) : PE X (.Call (.Attribute o "get" apos) [e, f] [] cpos) (tTGet2 (pxOf X) to te tf) := ⟨fun pins s σ H Q I h => by
  refine wpAny_Call_method m.base m.few m.line PySem.F.plainAttrs_dict PySem.F.slot_dict_get PySem.F.type_dict_get (thn (ho.run pins s σ H _ I h) ?_)
  rintro u s1 ⟨x, H1, I1, rx, a, ob, es, rfl, ha, q1⟩
  obtain rfl : u = Value.ref a := rx
  obtain ⟨g1, _, g2, g3, _⟩ := td_at I1 ha
  refine ⟨⟨_, g1, g3.1⟩, fun b hb => by cases hb; exact ⟨_, g1, g3.2.1⟩, ?_⟩
  rw [m.trees]
  refine wpAny_dict_get2_heap (knd := nestedKind X.prog X.w) (room_nk hu) g2 (thn (he.run pins s1 σ H1 _ I1 q1) fun iv s2 ⟨y, H2, I2, ry, q2⟩ => thn (hf.run pins s2 σ H2 _ I2 q2) fun fv s3 ⟨z, H3, I3, rz, q3⟩ => ?_)
  obtain ⟨o, ⟨a', ob', es', ds, k, b, e1, rfl, ha', r, rk, hk, rfl⟩, qn, qs⟩ := q3
  cases e1
  obtain rfl : iv = Value.ref b := ry
  refine ⟨b, k, es', rfl, ⟨Rep.key I3 _ _ _ rk rfl, hk⟩, td_is I3 ha' r, ?_⟩
  cases e : atKey es' k with
  | none => exact ⟨z, H3, I3.tok _, rz, qn e⟩
  | some p =>
    obtain ⟨v, rv, qv⟩ := qs p.1 p.2 e
    exact ⟨v, H3, I3.tok _, rv, qv⟩⟩
/-! ### {}, {k: v}, dict(d), list(d) -/
def tTNew (q : Px) : TE := fun σ H Q => ∀ p ob, H p = none → Q (.ref p) (upd H p (TDict q p ob []))
theorem pe_tnew {pos : PySem.Pos} : PE X (.Dict [] [] pos) (tTNew (pxOf X)) := ⟨fun pins s σ H Q I h => by
  obtain ⟨o', I'⟩ := td_new (tk := s.toks) I (Heap.DictOfH.new (knd := nestedKind X.prog X.w) s.heap) (fun _ _ q => Heap.get?_push_of_some _ q) (Nat.zero_le _)
  exact wpAny_Dict_empty ⟨.ref _, _, I', rfl, h _ _ (I.hok.fresh (Nat.le_refl _))⟩⟩
def tTOne (q : Px) (tk tv : TE) : TE := fun σ H Q => ∀ p ob, H p = none → tk σ (upd H p (TDict q p ob [])) fun x H1 => tv σ H1 fun y H2 => ∃ ob1 k b, H2 p = some (TDict q p ob1 []) ∧ x = .ref b ∧ Rep q H2 (.ref b) k.data ∧ k.depth ≤ 8 ∧
  ∀ u ob', RelV y u → Q (.ref p) (upd H2 p (TDict q p ob' [(k, b, u)]))
theorem pe_tone {k v : Expr} {tk tv : TE} {pos : PySem.Pos} (hu : X.A.units + 64 < cLine) (hk : PE X k tk) (hv : PE X v tv) : PE X (.Dict [some k] [v] pos) (tTOne (pxOf X) tk tv) := ⟨fun pins s σ H Q I h => by
  obtain ⟨o', I'⟩ := td_new (tk := s.toks) I (Heap.DictOfH.new (knd := nestedKind X.prog X.w) s.heap) (fun _ _ q => Heap.get?_push_of_some _ q) (Nat.zero_le _)
  have h0 := h _ o' (I.hok.fresh (Nat.le_refl _))
  rw [arm_eval_Dict, zip_pairTrees [some k] [v] X.env pos rfl rfl, dictDisplay_pairs (pairTrees [some k] [v] X.env pos) (by simp [pairTrees]) (by simp [pairTrees])]
  refine wpAny_bind (wpAny_standAt (wpAny_bind (wpAny_subDictH (knd := nestedKind X.prog X.w) (show X.A.units + 8 < cLine by omega) (by simp [pairTrees]) ?_)))
  refine pairTrees_cons_walk (thn (hk.run pins _ σ _ _ I' h0) fun kv s1 ⟨x, H1, I1, rx, q1⟩ => thn (hv.run pins s1 σ H1 _ I1 q1) fun vv s2 ⟨y, H2, I2, ry, ob1, kk, b, hp, ex, rk, hd, q2⟩ => pairTrees_nil_walk ?_)
  subst ex
  obtain rfl : kv = Value.ref b := rx
  have d2 := td_is I2 hp .nil
  refine ⟨[(kk, b, vv)], ⟨rfl, rfl, ⟨Rep.key I2 _ _ _ rk rfl, hd⟩, trivial⟩, d2, fun h' tk hd' hs => ?_⟩
  have e1 : storedAllH ([] : List (NestedKey × Addr × Value)) [(kk, b, vv)] = [(kk, b, vv)] := rfl
  rw [e1] at hd'
  obtain ⟨o2, I3⟩ := td_upd (tk := tk) I2 hp hd' hs (by rw [sizeLine_eq]; exact Nat.le_of_ble_eq_true rfl)
  exact wpAny_pure ⟨.ref _, _, I3, rfl, q2 vv o2 ry⟩⟩
end
end VV

/-! V25: dict(d), dict(pairs), list(d), sorted(d), sorted(a list of tuples), for k in d: by values -/
namespace VV
open PySem PySem.Spec L2
open PyProof.Rows hiding St

section
variable {X : Cx} {pins : List (Addr × Obj)} {s : Shared} {σ : St} {H : Hp} {a b : Addr} {o : Obj} {xs : List (NestedKey × Addr × Value)} {ds : List (PyData × PyData)}
theorem key_tuple {h : Heap} {k : NestedKey} (x : NestedIs h k (.ref a)) : ∃ o, h.get? a = some o ∧ o.cls = .type "tuple" := by
  cases x with | tup h1 h2 _ _ => exact ⟨_, h1, h2⟩
/-- the keys' hashes differ -/
def HashOk (ds : List (PyData × PyData)) : Prop := ∀ (w : World) (ks : List NestedKey), ds.map (·.1) = ks.map NestedKey.data → (ks.map (NestedKey.hash w)).Nodup
theorem dict_copy {P : Program} {w : World} {A : Around} {E : Value → Shared → Prop} {s : Shared} {Q : Value → Shared → Prop} (hu : A.units + 64 < cLine) (lo : (a == sysModules) = false) (hm : s.heap.DictOfH (nestedKind P w) a xs) (hz : xs.length ≤ sizeLine)
    (hn : (xs.map fun x => x.1.hash w).Nodup) (h : ∀ h', h'.DictOfH (nestedKind P w) s.heap.objs.size xs → (∀ b o, s.heap.get? b = some o → h'.get? b = some o) → Q (.ref s.heap.objs.size) { s with heap := h' }) :
    wpAny (model P w) A (call (.type "dict") [.ref a]) Q E s := by
  have nd := hm.nodup
  have new := Heap.DictOfH.new (knd := nestedKind P w) s.heap
  have old : ∀ b ob, s.heap.get? b = some ob → (s.heap.push { cls := .type "dict", data := .dict #[] }).get? b = some ob := fun _ _ e => Heap.get?_push_of_some _ e
  obtain ⟨oa, es, ep, ha, hc, hd, he, his, _⟩ := hm
  have there : (s.heap.push { cls := .type "dict", data := .dict #[] }).DictOfH (nestedKind P w) a xs := ⟨oa, es, ep, old _ _ ha, hc, hd, he, fun x hx => ⟨NestedIs.at (fun b ob _ _ e _ => old b ob e) _ _ (his x hx).1, (his x hx).2⟩, nd⟩
  have ne : s.heap.objs.size ≠ a := Nat.ne_of_gt (Heap.lt_size ha)
  have room : (nestedKind P w).room A.in1.in1 := by
    show A.in1.in1.units + 8 < cLine
    rw [Around.in1_units, Around.in1_units]
    omega
  refine callType_codes (Q₁ := fun obj s₁ => obj = .ref s.heap.objs.size ∧ s₁ = { s with heap := s.heap.push { cls := .type "dict", data := .dict #[] } }) F.kt_called_dict (F.kt_typeCall_dict_1 _) F.entry_dict_init (kt_code_dict_new _ ⟨rfl, rfl⟩) fun obj s₁ hs => ?_
  obtain ⟨rfl, rfl⟩ := hs
  refine ⟨new.typeIs, F.args_dict_init_2 _ _, ?_⟩
  unfold Builtin.«dict.__init__» Builtin.Dict.selfAndRest
  refine wpAny_bind (wpAny_bind (wpAny_notOrdered_dict new.typeIs (wpAny_pure ?_)))
  refine updateFrom_dictH (A := A.in1) (knd := nestedKind P w) (kvs := []) (more := xs) .none room ne lo new there (.inr ⟨fun x hx => ?_, hn⟩) (by simpa using hz) fun h' hd' _ hs => ?_
  · obtain ⟨ob, h1, h2⟩ := key_tuple (his x hx).1
    exact ⟨ob, old _ _ h1, h2⟩
  · rw [storedAllH_nil_of_nodup xs nd] at hd'
    exact ⟨rfl, h h' hd' fun b ob e => (hs.2 b (Nat.ne_of_lt (Heap.lt_size e))).trans (old b ob e)⟩
def rTCopy (q : Px) : List V → Hp → VK → Prop := fun vs H Q => ∃ a ob es ds, vs = [.ref a] ∧ H a = some (TDict q a ob es) ∧ RepT q H es ds ∧ HashOk ds ∧ ∀ p ob', H p = none → Q (.ref p) (upd H p (TDict q p ob' es))
theorem cr_dictT (hu : X.A.units + 64 < cLine) : CallR X (.type "dict") (rTCopy (pxOf X)) := by
  intro pins s σ H vs us Q I r h
  obtain ⟨a, ob, es, ds, rfl, ha, rt, hh, q⟩ := h
  rw [Vals.ref1 r]
  have nh : (es.map fun x => x.1.hash X.w).Nodup := by
    have := hh X.w (es.map (·.1)) (by rw [rt.keys, List.map_map]; rfl)
    rwa [List.map_map] at this
  refine dict_copy hu (td_at I ha).2.2.1 (td_is I ha rt) (td_at I ha).2.1 nh fun h' hd hk => ?_
  obtain ⟨o', I'⟩ := td_new (tk := s.toks) I hd hk (td_at I ha).2.1
  exact ⟨.ref _, _, I', rfl, q _ _ (I.hok.fresh (Nat.le_refl _))⟩
/-- list(d) -/
theorem td_raw (I : Inv X pins σ H s) (e : H a = some (TDict (pxOf X) a o xs)) : ∃ es ep, s.heap.DictRaw a es ep ∧ es.toList = xs.map (entryOfKey (nestedKind X.prog X.w)) ∧ es.size = xs.length := by
  obtain ⟨h1, _, _, h3, ⟨es, ep, h4, h5⟩, _⟩ := td_at I e
  exact ⟨es, ep, ⟨o, h1, h3, h4⟩, h5, size_of_entries h5⟩
theorem raw_key {P : Program} {w : World} {es : Array DictEntry} (he : es.toList = xs.map (entryOfKey (nestedKind P w))) {i : Nat} (hi : i < es.size) : ∃ k c u, xs[i]? = some (k, c, u) ∧ es[i].key = .ref c := by
  have e := entry_at he i
  rw [Array.getElem?_eq_getElem hi] at e
  cases hx : xs[i]? with
  | none => rw [hx] at e; cases e
  | some y =>
    rw [hx] at e
    exact ⟨y.1, y.2.1, y.2.2, rfl, by rw [Option.some.inj e]; rfl⟩
theorem keys_of {P : Program} {w : World} {es : Array DictEntry} (he : es.toList = xs.map (entryOfKey (nestedKind P w))) {acc : Array Value} (h : ItemsOf (fun i v => ∃ hi : i < es.size, v = es[i].key) acc es.size) : acc.toList = xs.map fun x => Value.ref x.2.1 := by
  have hs := size_of_entries he
  apply List.ext_getElem?
  intro i
  rw [Array.getElem?_toList, List.getElem?_map]
  by_cases hi : i < es.size
  · obtain ⟨k, c, u, h1, h2⟩ := raw_key he hi
    rw [h1]
    have hi' : i < acc.size := by rw [h.1]; exact hi
    obtain ⟨_, h3⟩ := h.2 i acc[i] (by simp [hi'])
    rw [Array.getElem?_eq_getElem hi', h3, h2]
    rfl
  · rw [Array.getElem?_eq_none (by rw [h.1]; omega), List.getElem?_eq_none (by omega)]
    rfl
theorem vals_refs (f : NestedKey × Addr × Value → Addr) : ∀ xs : List (NestedKey × Addr × Value), Vals (xs.map fun x => V.ref (f x)) (xs.map fun x => Value.ref (f x))
  | [] => .nil
  | x :: xs => .cons rfl (vals_refs f xs)
def rTList (q : Px) : List V → Hp → VK → Prop := fun vs H Q => ∃ a ob es, vs = [.ref a] ∧ H a = some (TDict q a ob es) ∧ ∀ p, H p = none → Q (.ref p) (upd H p (.lst (es.map fun x => V.ref x.2.1)))
theorem cr_listT (hc : X.calm = true) : CallR X (.type "list") (rTList (pxOf X)) := by
  intro pins s σ H vs us Q I r h
  obtain ⟨a, ob, es, rfl, ha, q⟩ := h
  rw [Vals.ref1 r]
  obtain ⟨en, ep, raw, he, hs⟩ := td_raw I ha
  have hz := (td_at I ha).2.1
  refine PySem.W.kdl_call (PySem.KdlSrc.rawDict (td_at I ha).2.2.1) (I.ok.hd hc) raw (by omega) fun h' tk acc c hk hD hacc => ?_
  have hl := keys_of he hacc
  refine ⟨.ref _, _, I.laid (t' := tk) (o := .lst (es.map fun x => V.ref x.2.1)) hk (Nat.le_refl _) ⟨by simpa using hz, acc.toList, c, ?_, by rw [Array.toArray_toList]; exact hD⟩, rfl, q _ (I.hok.fresh (Nat.le_refl _))⟩
  rw [hl]
  exact vals_refs _ es

/-! ### sorted -/
theorem le_tupI : PySem.W.dataLe false (fun b : List Int => tupI b) = fun p q => decide (p ≤ q) := by
  funext p q
  show (!PySem.W.dataLt (.tuple (q.map .int)) (.tuple (p.map .int))) = _
  rw [PySem.W.dataLt_tuple]
  show (!PySem.W.rowLt (q.map .int) (p.map .int)) = _
  rw [PySem.W.dataLt_ints]
  by_cases h : q < p
  · rw [decide_eq_true h, decide_eq_false (fun z => List.not_lt.mpr z h)]; rfl
  · rw [decide_eq_false h, decide_eq_true (List.not_lt.mp h)]; rfl
def sortM (ks : List (List Int)) : List (List Int) := ks.mergeSort fun p q => decide (p ≤ q)
theorem reads_ints {h : Heap} : ∀ {ns : List Int} {vs : List V} {us : List Value}, Reps (pxOf X) H vs (ns.map .int) → Vals vs us → ReadsAll h us (ns.map .int) []
  | [], _, _, r, v => by cases r; cases v; exact .nil
  | n :: ns, _, _, r, v => by
    cases r with
    | cons h1 h2 =>
      cases v with
      | cons g1 g2 =>
        cases h1
        obtain ⟨t, rfl⟩ := g1
        exact ReadsAll.cons (as := []) (bs := []) (.int n t) (reads_ints h2 g2)
theorem reads_tupI {v : V} {u : Value} {ns : List Int} (I : Inv X pins σ H s) (r : Rep (pxOf X) H v (tupI ns)) (rv : RelV v u) : Reads s.heap u (tupI ns) [] := by
  cases r with
  | tup h hr =>
    cases rv
    obtain ⟨its, vv, ⟨ob, ho, hc, n, hd⟩, _⟩ := I.tuple h
    exact .tuple ho hc hd (by simpa using reads_ints hr vv)
/-- v is the tuple b -/
def RT (q : Px) (H : Hp) (u : Value) (b : List Int) : Prop := ∃ c, u = .ref c ∧ Rep q H (.ref c) (tupI b)
theorem each_rt {q : Px} : ∀ {us : List Value} {bs : List (List Int)}, PySem.W.EachIs (RT q H) us bs → ∃ vs, Vals vs us ∧ Reps q H vs (bs.map tupI) ∧ vs.length = bs.length
  | _, _, .nil => ⟨[], .nil, .nil, rfl⟩
  | _, _, .cons ⟨c, e, r⟩ t => by
    obtain ⟨vs, h1, h2, h3⟩ := each_rt t
    subst e
    exact ⟨.ref c :: vs, .cons rfl h1, .cons r h2, by simp [h3]⟩
theorem rt_of : ∀ {bs : List (List Int)} {vs : List V} {us : List Value} {q : Px}, Reps q H vs (bs.map tupI) → Vals vs us → PySem.W.EachIs (RT q H) us bs
  | [], _, _, _, r, v => by cases r; cases v; exact .nil
  | b :: bs, _, _, _, r, v => by
    cases r with
    | cons h1 h2 =>
      cases v with
      | cons g1 g2 =>
        refine .cons ?_ (rt_of h2 g2)
        cases h1 with
        | tup a b => cases g1; exact ⟨_, rfl, .tup a b⟩
theorem sortable {bs : List (List Int)} (hne : ∀ b ∈ bs, b ≠ []) : PySem.W.Sortable (bs.map tupI) := .inl fun d hd => by
  obtain ⟨b, hb, rfl⟩ := List.mem_map.mp hd
  cases b with
  | nil => exact absurd rfl (hne _ hb)
  | cons x b => exact ⟨.int x, b.map .int, rfl⟩
theorem alike_tups (bs : List (List Int)) : PySem.W.AllAlike (bs.map tupI) := PySem.W.AllAlike.of fun p q => by
  show PySem.W.alike (.tuple _) (.tuple _) = true
  rw [PySem.W.alike]
  exact PySem.W.alike_ints p q
theorem depth_tupI (b : List Int) : (tupI b).depth ≤ 1 := by
  show (PyData.tuple _).depth ≤ 1
  rw [PyData.depth, PySem.W.depth_ints]
  exact Nat.le_refl _
theorem rt_reads (I : Inv X pins σ H s) : ∀ {us : List Value} {bs : List (List Int)}, PySem.W.EachIs (RT (pxOf X) H) us bs → PySem.W.EachIs (fun v b => ∃ as, Reads s.heap v (tupI b) as) us bs
  | _, _, .nil => .nil
  | _, _, .cons ⟨c, e, r⟩ t => by
    subst e
    exact .cons ⟨[], reads_tupI I r rfl⟩ (rt_reads I t)
theorem rt_reads' (I : Inv X pins σ H s) (l : Addr) {h' : Heap} (hk : ∀ b o, s.heap.get? b = some o → h'.get? b = some o) : ∀ {us : List Value} {bs : List (List Int)}, PySem.W.EachIs (RT (pxOf X) H) us bs → PySem.W.EachIs (fun v b => ∃ as, Reads h' v (tupI b) as ∧ l ∉ as) us bs
  | _, _, .nil => .nil
  | _, _, .cons ⟨c, e, r⟩ t => by
    subst e
    exact .cons ⟨[], PyProof.Rows.Reads.keeps hk (reads_tupI I r rfl), by simp⟩ (rt_reads' I l hk t)
/-- sorted(a list of tuples of ints) -/
def rSortL (q : Px) : List V → Hp → VK → Prop := fun vs H Q => ∃ a us bs, vs = [.ref a] ∧ SqL q.K H a us ∧ Reps q H us (bs.map tupI) ∧ (∀ b ∈ bs, b ≠ []) ∧
  ∀ p vs', H p = none → Reps q H vs' ((sortM bs).map tupI) → Q (.ref p) (upd H p (.lst vs'))
theorem cr_sortL (hu : X.A.units + 64 < cLine) : CallR X (.builtin "sorted") (rSortL (pxOf X)) := by
  intro pins s σ H vs us Q I r h
  obtain ⟨a, ws, bs, rfl, hs, rr, hne, q⟩ := h
  rw [Vals.ref1 r]
  obtain ⟨its, vv, pl, hz⟩ := I.list hs
  have er := rt_of rr vv
  have hl : its.length = bs.length := by rw [← vv.length, rr.length, List.length_map]
  refine PySem.W.sorted_data (vs := its) (enc := tupI) pl.isList er (rt_reads I er) (alike_tups bs) (sortable hne) (by rw [← hl, ← vv.length]; exact hz) (fun b _ => by have := depth_tupI b; omega) fun out ho hout => ?_
  rw [le_tupI] at hout
  obtain ⟨vs', h1, h2, h3⟩ := each_rt hout
  obtain ⟨e, he⟩ := PyProof.Rows.sortedAll_at s.heap its out.toArray
  have hn := I.hok.fresh (Nat.le_succ s.heap.objs.size)
  refine ⟨.ref _, _, I.laid (t' := s.toks) (o := .lst vs') (fun b o e => PyProof.Rows.sortedAll_old e) (Nat.le_succ _) ⟨?_, out, e, h1, he⟩, rfl, q _ _ hn h2⟩
  rw [h3, List.length_mergeSort, ← hl, ← vv.length]
  exact hz
/-- sorted(d) -/
theorem keys_rt {bs : List (List Int)} : ∀ {xs : List (NestedKey × Addr × Value)} {ds : List (PyData × PyData)} {bs : List (List Int)} {q : Px}, RepT q H xs ds → ds.map (·.1) = bs.map tupI → PySem.W.EachIs (RT q H) (xs.map fun x => Value.ref x.2.1) bs
  | _, _, [], _, .nil, _ => .nil
  | _, _, _ :: _, _, .nil, e => by simp at e
  | _, _, [], _, .cons _ _ _ _ _, e => by simp at e
  | _, _, b :: bs, _, .cons h1 _ _ _ r, e => by
    simp only [List.map_cons, List.cons.injEq] at e
    refine .cons ⟨_, rfl, ?_⟩ (keys_rt (bs := bs) r e.2)
    rw [← e.1]; exact h1
def rSortD (q : Px) : List V → Hp → VK → Prop := fun vs H Q => ∃ a ob es ds bs, vs = [.ref a] ∧ H a = some (TDict q a ob es) ∧ RepT q H es ds ∧ ds.map (·.1) = bs.map tupI ∧ (∀ b ∈ bs, b ≠ []) ∧
  ∀ p vs', H p = none → Reps q H vs' ((sortM bs).map tupI) → Q (.ref p) (upd H p (.lst vs'))
theorem cr_sortDT (hc : X.calm = true) (hu : X.A.units + 64 < cLine) : CallR X (.builtin "sorted") (rSortD (pxOf X)) := by
  intro pins s σ H vs us Q I r h
  obtain ⟨a, ob, es, ds, bs, rfl, ha, rt, hks, hne, q⟩ := h
  rw [Vals.ref1 r]
  obtain ⟨en, ep, raw, he, hs⟩ := td_raw I ha
  have hz := (td_at I ha).2.1
  have er := keys_rt (bs := bs) rt hks
  have hl : es.length = bs.length := by have := congrArg List.length hks; simpa [rt.length] using this
  refine Calls.call_function_entry PyProof.Rows.kind_sorted PyProof.Rows.plain_sorted PyProof.Rows.entry_sorted (PyProof.Rows.args_sorted1 _) ?_
  unfold Builtin.«sorted»
  refine wpAny_bind (m := checkCount "sorted" 1 1 _) (wpAny_pure (wpAny_bind ?_))
  refine PySem.W.kdu_collect (A := X.A.in1) (PySem.KdlSrc.rawDict (td_at I ha).2.2.1) (I.ok.hd hc) raw (by omega) fun h' tk acc hk hacc => ?_
  have hkeys := keys_of he hacc
  have ho : (h'.push (seqObj "list" acc.toList.toArray 0)).get? h'.objs.size = some (seqObj "list" acc.toList.toArray 0) := Heap.get?_push_size _ rfl
  have er2 : PySem.W.EachIs (RT (pxOf X) H) acc.toList bs := by rw [hkeys]; exact er
  have I1 : Inv X pins σ H { s with heap := h', toks := tk } := I.kept hk
  refine wpAny_bind (wpAny_newList ?_ (by rw [hkeys, List.length_map]; exact hz))
  refine wpAny_bind (wpAny_holding (PySem.W.list_sort_data (s := { s with heap := h'.push (seqObj "list" acc.toList.toArray 0), toks := tk }) (vs := acc.toList) (enc := tupI) ho er2 (rt_reads' I _ (fun b o e => Heap.get?_push_of_some _ (hk b o e)) er2) (alike_tups bs) (sortable hne) (by omega) (fun b _ => ?_) fun out hlen hout => ?_))
  · have := depth_tupI b
    rw [Around.in1_units]
    omega
  rw [le_tupI] at hout
  obtain ⟨vs', h1, h2, h3⟩ := each_rt hout
  obtain ⟨e, he'⟩ := PyProof.Rows.sortedHeap_at (vs := acc.toList) (out := out.toArray) ho
  refine wpAny_pure ⟨_, rfl, .ref _, _, I1.laid (t' := tk) (o := .lst vs') (fun b o e => ?_) (Nat.le_refl _) ⟨?_, out, e, h1, he'⟩, rfl, q _ _ (I1.hok.fresh (Nat.le_refl _)) h2⟩
  · have hb := Heap.lt_size e
    rw [PyProof.Rows.sortedHeap_old (Nat.ne_of_lt hb) (by rw [size_push']; exact Nat.lt_succ_of_lt hb)]
    exact Heap.get?_push_of_some _ e
  · rw [h3, List.length_mergeSort]; omega

/-! ### for k in d -/
def ItD (q : Px) (a : Addr) (o : Obj) (xs : List (NestedKey × Addr × Value)) : It :=
  ⟨fun i H => H a = some (TDict q a o xs) ∧ i < xs.length, fun i H x H' => H' = H ∧ ∃ k c u, xs[i]? = some (k, c, u) ∧ x = .ref c, fun i H => H a = some (TDict q a o xs) ∧ xs.length ≤ i⟩
theorem turnD {P : Program} {w : World} {K : PySem.W.Frag} {tg : Expr} (it : Addr) {es : Array DictEntry} {ep : Nat} (hod : o.data = .dict es ep) : Turn P w K tg (ItD ⟨P, w, K⟩ a o xs) [it] it (fun i h => h.IsKeyIter it a i xs.length ep) where
  mem := List.mem_singleton.mpr rfl
  obj := fun i h st b hb => by
    rw [List.mem_singleton.mp hb]
    obtain ⟨oi, e, _, dd⟩ := st
    refine ⟨oi, e, fun v z => ?_⟩
    rw [dd] at z; cases z
  keep := fun i h h' st k => st.at fun oi e => k it (List.mem_singleton.mpr rfl) oi e
  item := fun X hP hw hK hc i pins s σ H E I hf st hg => by
    subst hP hw hK
    obtain ⟨hd, hi⟩ := hg
    obtain ⟨f0, f1, f2, f3, f4, f5⟩ := hf it (List.mem_singleton.mpr rfl)
    obtain ⟨es2, ep2, raw, he, hs⟩ := td_raw I hd
    have e1 : es2 = es ∧ ep2 = ep := by
      obtain ⟨o2, g1, _, g3⟩ := raw
      rw [(td_at I hd).1] at g1
      cases g1
      rw [hod] at g3
      cases g3
      exact ⟨rfl, rfl⟩
    obtain ⟨rfl, rfl⟩ := e1
    obtain ⟨k, c, u, hx, hkey⟩ := raw_key he (i := i) (by omega)
    rw [← hs] at st
    refine wpAny_pyNext_keys_item_raw st raw (by omega) fun h' st' sb => ?_
    have I1 : Inv X pins σ H { s with heap := h' } := I.turned (t' := s.toks) (fun b ob hb e => (sb.2 b hb).trans e) f0 f1 f3 f4 f5
    obtain ⟨oi, e, c2, dd⟩ := id st'
    rw [hs] at st'
    exact ⟨_, rfl, go_of (s := { s with heap := h' }) e c2 dd (by decide) ⟨.ref c, H, I1, hkey, ⟨rfl, k, c, u, hx, rfl⟩, st', fun b hb => (hf b hb).1⟩⟩
  done := fun X hP hw hK hc i pins s σ H E I hf st hg => by
    subst hP hw hK
    obtain ⟨hd, hi⟩ := hg
    obtain ⟨f0, f1, f2, f3, f4, f5⟩ := hf it (List.mem_singleton.mpr rfl)
    obtain ⟨es2, ep2, raw, he, hs⟩ := td_raw I hd
    have e1 : es2 = es ∧ ep2 = ep := by
      obtain ⟨o2, g1, _, g3⟩ := raw
      rw [(td_at I hd).1] at g1
      cases g1
      rw [hod] at g3
      cases g3
      exact ⟨rfl, rfl⟩
    obtain ⟨rfl, rfl⟩ := e1
    rw [← hs] at st
    exact wpAny_pyNext_keys_end_raw (I.ok.hd hc) st raw (by omega) fun h' eb => ⟨rfl, I.turned (t' := s.toks) (fun b ob hb e => eb b ob hb e) f0 f1 f3 f4 f5⟩
  self := fun A i s Q E st h => wpAny_pyIter_keyiter st h
def iKeysT (q : Px) (td : TE) : TI := fun σ H R => td σ H fun x H1 => ∃ a o xs, x = .ref a ∧ H1 a = some (TDict q a o xs) ∧ R (ItD q a o xs) H1
theorem pi_keysT {tg e : Expr} {td : TE} (he : PE X e td) : PI X tg e (iKeysT (pxOf X) td) := ⟨fun pins s σ H R I h => by
  refine thn (he.run pins s σ H _ I h) fun u s1 ⟨x, H1, I1, rx, a, o, xs, ex, ha, q⟩ => ?_
  subst ex
  obtain rfl : u = Value.ref a := rx
  obtain ⟨es, ep, raw, hk, hs⟩ := td_raw I1 ha
  obtain ⟨o2, g1, _, g3⟩ := id raw
  have e2 : o2 = o := by have := (td_at I1 ha).1; rw [g1] at this; exact Option.some.inj this
  subst e2
  refine wpAny_pyIter_dict_raw (td_at I1 ha).2.2.1 raw (pi_one (tk := s1.toks) I1 _ (turnD _ g3) ⟨_, Heap.get?_push_size _ rfl, rfl, ?_⟩ q)
  rw [hs] <;> rfl⟩
theorem walkD {q : Px} : Walk (ItD q a o xs) xs.length (fun H => H a = some (TDict q a o xs)) (fun i H x H' => H' = H ∧ ∃ k c u, xs[i]? = some (k, c, u) ∧ x = .ref c) :=
  ⟨fun _ _ hi h => ⟨h, hi⟩, fun _ h => ⟨h, Nat.le_refl _⟩, fun _ _ _ _ _ _ y => y⟩
end
end VV

/-! V26: dict(a list of pairs), by values -/
namespace VV
open PySem PySem.Spec L2
open PyProof.Rows hiding St
abbrev prD (p : PyData × PyData) : PyData := .tuple [p.1, p.2]
noncomputable def Puts (d ps : List (PyData × PyData)) : List (PyData × PyData) := ps.foldl (fun d p => Put d p.1 p.2) d
section
variable {X : Cx} {pins : List (Addr × Obj)} {s : Shared} {σ : St} {H : Hp} {a b : Addr}
theorem RepT.puts {q : Px} : ∀ {xs acc : List (NestedKey × Addr × Value)} {ps d : List (PyData × PyData)}, RepT q H acc d → RepT q H xs ps → RepT q H (storedAllH acc xs) (Puts d ps)
  | _, _, _, _, h, .nil => h
  | _, acc, _, d, h, .cons (k := k) (b := b) (u := u) (d := e) (xs := xs) (ds := ps) h1 h2 h3 h4 r => by
    have := RepT.puts (h.put h1 h2 h3 h4) r
    exact this
theorem pairs_of (I : Inv X pins σ H s) : ∀ {ps : List (PyData × PyData)} {us : List V} {its : List Value}, Reps (pxOf X) H us (ps.map prD) → Vals us its → (∀ p ∈ ps, KeyD p.1) →
    ∃ (ts : List Addr) (xs : List (NestedKey × Addr × Value)), its = ts.map .ref ∧ ts.length = xs.length ∧ RepT (pxOf X) H xs ps ∧ ∀ (j : Nat) (t : Addr) (x : NestedKey × Addr × Value), ts[j]? = some t → xs[j]? = some x → PairAt s.heap t (.ref x.2.1) x.2.2
  | [], _, _, r, v, _ => by
    cases r; cases v
    exact ⟨[], [], rfl, rfl, .nil, fun j t x h => by simp at h⟩
  | p :: ps, _, _, r, v, hk => by
    cases r with
    | cons h1 h2 =>
      cases v with
      | cons g1 g2 =>
        obtain ⟨ts, xs, e1, e2, e3, e4⟩ := pairs_of I h2 g2 fun p hp => hk p (by simp [hp])
        obtain ⟨k, ek, hd, ks, ekk⟩ := hk p (by simp)
        cases h1 with
        | @tup t _ _ hs hr =>
          cases hr with
          | cons r1 r2 =>
            cases r2 with
            | cons r2 r3 =>
              cases r3
              obtain ⟨its2, vv, tp, _⟩ := I.tuple hs
              cases vv with
              | cons v1 v2 =>
                cases v2 with
                | cons v2 v3 =>
                  cases v3
                  have r1' := r1
                  rw [ek, ekk] at r1'
                  simp only [NestedKey.data] at r1'
                  cases r1' with
                  | tup _ _ =>
                    cases v1
                    cases g1
                    have key : ∃ c w, RepT (pxOf X) H ((k, c, w) :: xs) ((k.data, p.2) :: ps) ∧ PairAt s.heap t (.ref c) w := ⟨_, _, .cons (by rw [← ek]; exact r1) hd v2 r2 e3, .inl tp⟩
                    obtain ⟨c, w, k1, k2⟩ := key
                    rw [← ek] at k1
                    refine ⟨t :: ts, (k, c, w) :: xs, by rw [e1]; rfl, by simp [e2], k1, fun j t' x h h' => ?_⟩
                    cases j with
                    | zero =>
                      simp only [List.getElem?_cons_zero, Option.some.injEq] at h h'
                      subst h; subst h'
                      exact k2
                    | succ j => exact e4 j t' x (by simpa using h) (by simpa using h')
def rTPairs (q : Px) : List V → Hp → VK → Prop := fun vs H Q => ∃ a us ps, vs = [.ref a] ∧ SqL q.K H a us ∧ Reps q H us (ps.map prD) ∧ (∀ p ∈ ps, KeyD p.1) ∧
  ∀ p ob' xs' , H p = none → RepT q H xs' (Puts [] ps) → Q (.ref p) (upd H p (TDict q p ob' xs'))
theorem cr_dictL (hc : X.calm = true) (hu : X.A.units + 64 < cLine) : CallR X (.type "dict") (rTPairs (pxOf X)) := by
  intro pins s σ H vs us Q I r h
  obtain ⟨a, ws, ps, rfl, hs, rr, hk, q⟩ := h
  rw [Vals.ref1 r]
  obtain ⟨its, vv, pl, hz⟩ := I.list hs
  obtain ⟨ts, xs, rfl, e2, e3, e4⟩ := pairs_of I rr vv hk
  have hl : xs.length = ws.length := by rw [← e2, vv.length, List.length_map]
  have room : (nestedKind X.prog X.w).room X.A.in1.in1 := by
    show X.A.in1.in1.units + 8 < cLine
    rw [Around.in1_units, Around.in1_units]
    omega
  obtain ⟨ob, ho, hcl, n, hd⟩ := pl.isList
  have hdict := pl
  refine call_dict_pairsH (knd := nestedKind X.prog X.w) (ps := xs) (PairArg.list a (ts.map Value.ref).toArray (fun j => ts.getD j 0) (xs.map fun x => (Value.ref x.2.1, x.2.2))) (I.ok.hd hc) room ⟨?_, ?_, ?_⟩ ⟨by simp, ?_⟩ ?_ (by simp; omega) fun h' tk hd' hkeep => ?_
  · exact pl
  · simpa using e2
  · intro j k v hj
    rw [List.getElem?_map] at hj
    cases hx : xs[j]? with
    | none => rw [hx] at hj; cases hj
    | some x =>
      rw [hx] at hj
      cases hj
      have hlt : j < ts.length := by rw [e2]; exact (List.getElem?_eq_some_iff.mp hx).1
      refine ⟨by simp [hlt, List.getD_eq_getElem?_getD], e4 j _ x ?_ hx⟩
      simp [List.getD_eq_getElem?_getD, hlt]
  · intro i key v hi
    have hi : (xs.map fun x => (Value.ref x.2.1, x.2.2))[i]? = some (key, v) := hi
    rw [List.getElem?_map] at hi
    cases hx : xs[i]? with
    | none => rw [hx] at hi; cases hi
    | some x =>
      rw [hx] at hi
      cases hi
      exact ⟨x.1, x.2.1, rfl, rfl⟩
  · intro h' hkp x hx
    have := RepT.are I e3 x hx
    exact ⟨NestedIs.at (fun b ob _ _ e _ => hkp b ob (Nat.ne_of_lt (Heap.lt_size e)) (by simp) e) _ _ this.1, this.2⟩
  · have hz2 : (storedAllH ([] : List (NestedKey × Addr × Value)) xs).length ≤ sizeLine := by
      have := storedAllH_length xs ([] : List (NestedKey × Addr × Value))
      simp at this
      omega
    obtain ⟨o', I'⟩ := td_new (tk := tk) I hd' (fun b o e => hkeep b o (by simp) e) hz2
    exact ⟨.ref _, _, I', rfl, q _ _ _ (I.hok.fresh (Nat.le_refl _)) (RepT.puts .nil e3)⟩
end
end VV

/-! V27: dicts as entries -/
namespace VV
open PySem PySem.Spec L2
open PyProof.Rows hiding St

mutual
theorem sol_nk : ∀ k : NestedKey, Sol k.data
  | .none => by simp [NestedKey.data, Sol]
  | .num _ => by simp [NestedKey.data, Sol]
  | .text _ => by simp [NestedKey.data, Sol]
  | .tup ks => by simp only [NestedKey.data, Sol]; exact sols_nk ks
theorem sols_nk : ∀ ks : List NestedKey, Sols (NestedKey.datas ks)
  | [] => by simp [NestedKey.datas, Sols]
  | k :: ks => by simp only [NestedKey.datas, Sols]; exact ⟨sol_nk k, sols_nk ks⟩
end
theorem KeyD.sol {d : PyData} (h : KeyD d) : Sol d := by obtain ⟨k, rfl, _⟩ := h; exact sol_nk k
def SolD (ds : List (PyData × PyData)) : Prop := ∀ p ∈ ds, Sol p.2
theorem RepT.solid {q : Px} {H G : Hp} (t : TupIn H G) (t' : FrzT H G) : ∀ {xs : List (NestedKey × Addr × Value)} {ds : List (PyData × PyData)}, RepT q H xs ds → SolD ds → RepT q G xs ds
  | _, _, .nil, _ => .nil
  | _, _, .cons h1 h2 h3 h4 r, h => .cons (Rep.solid t t' (sol_nk _) h1) h2 h3 (Rep.solid t t' (h (_, _) List.mem_cons_self) h4) (RepT.solid t t' r fun p hp => h p (by simp [hp]))
def Ent.dcs (k : List (PyData × PyData) → (PyData → Ent) → Prop) : Ent → Prop
  | .shr (.dict ds) => k ds .shr
  | .bor (.dict ds) => (SolD ds ∧ k ds .shr) ∨ k ds .bor
  | .dct ds => k ds .shr
  | _ => False
def dcR (sl : Slots) (r : R) (k : List (PyData × PyData) → (PyData → Ent) → Prop) : Prop := match r with
  | .e x => x.dcs k
  | .al i => atS sl i (Ent.dcs k)
/-- .. whose values may be handed on -/
def Ent.dcg (k : List (PyData × PyData) → Prop) : Ent → Prop
  | .shr (.dict ds) => k ds
  | .bor (.dict ds) => SolD ds ∧ k ds
  | .dct ds => k ds
  | _ => False
def dgR (sl : Slots) (r : R) (k : List (PyData × PyData) → Prop) : Prop := match r with
  | .e x => x.dcg k
  | .al i => atS sl i (Ent.dcg k)
section
variable {f : Fr} {G H : Hp} {L T : List (V × Ent)} {v : V} {x : Ent} {sl : Slots} {σ : St} {r : R}
theorem Core.dctd {ds : List (PyData × PyData)} (c : Core f G L H) (hm : (v, .dct ds) ∈ L) : ∃ p o xs, v = .ref p ∧ H p = some (TDict f.q p o xs) ∧ RepT f.q G xs ds := by
  obtain ⟨F, a, _, _⟩ := c.res
  obtain ⟨F', o, _⟩ := a.mem hm
  cases o with
  | dct h =>
    obtain ⟨o, xs, h1, h2⟩ := h
    exact ⟨_, o, xs, rfl, h1, h2⟩
theorem Core.dcs (c : Core f G L H) (hm : (v, x) ∈ L) {k} (h : x.dcs k) :
    ∃ a o xs ds mk, v = .ref a ∧ H a = some (TDict f.q a o xs) ∧ ((mk = .shr ∧ RepT f.q G xs ds) ∨ (mk = .bor ∧ RepT f.q f.U xs ds)) ∧ k ds mk := by
  cases x with
  | shr d =>
    cases d with
    | dict ds => cases c.shrd hm with | dctT h1 h2 => exact ⟨_, _, _, _, _, rfl, c.sG _ _ h1, .inl ⟨rfl, h2⟩, h⟩
    | _ => exact (show False from h).elim
  | bor d =>
    cases d with
    | dict ds =>
      cases c.bord hm with
      | dctT h1 h2 =>
        rcases h with h | h
        · exact ⟨_, _, _, _, _, rfl, c.sU _ _ h1, .inl ⟨rfl, RepT.solid c.tU c.fU h2 h.1⟩, h.2⟩
        · exact ⟨_, _, _, _, _, rfl, c.sU _ _ h1, .inr ⟨rfl, h2⟩, h⟩
    | _ => exact (show False from h).elim
  | dct ds =>
    obtain ⟨p, o, xs, rfl, h1, h2⟩ := c.dctd hm
    exact ⟨_, _, _, _, _, rfl, h1, .inl ⟨rfl, h2⟩, h⟩
  | _ => exact (show False from h).elim
theorem RelR.dc (c : RelR f G T v r sl σ H) {k} (h : dcR sl r k) : ∃ a o xs ds mk, v = .ref a ∧ H a = some (TDict f.q a o xs) ∧ ((mk = .shr ∧ RepT f.q G xs ds) ∨ (mk = .bor ∧ RepT f.q f.U xs ds)) ∧ k ds mk := by
  obtain ⟨L, x, c', hm, h⟩ := RelR.in (K := Ent.dcs k) c (by cases r <;> exact h)
  exact c'.dcs hm h
theorem Ent.dcg_dcs {x : Ent} {k} (h : x.dcg k) : x.dcs fun ds mk => mk = .shr ∧ k ds := by
  cases x with
  | shr d => cases d <;> first | exact ⟨rfl, h⟩ | exact h
  | bor d => cases d <;> first | exact .inl ⟨h.1, rfl, h.2⟩ | exact h
  | dct ds => exact ⟨rfl, h⟩
  | _ => exact h
theorem RelR.dg (c : RelR f G T v r sl σ H) {k} (h : dgR sl r k) : ∃ a o xs ds, v = .ref a ∧ H a = some (TDict f.q a o xs) ∧ RepT f.q G xs ds ∧ k ds := by
  obtain ⟨L, x, c', hm, h⟩ := RelR.in (K := Ent.dcg k) c (by cases r <;> exact h)
  obtain ⟨a, o, xs, ds, mk, e1, e2, e3, e4, e5⟩ := c'.dcs hm (Ent.dcg_dcs h)
  subst e4
  rcases e3 with ⟨_, e3⟩ | ⟨z, _⟩
  · exact ⟨a, o, xs, ds, e1, e2, e3, e5⟩
  · exact absurd (congrFun z .none) (by simp)
/-- the dict in H -/
theorem mkH (c : Core f G L H) {mk : PyData → Ent} {xs : List (NestedKey × Addr × Value)} {ds : List (PyData × PyData)} (h : (mk = .shr ∧ RepT f.q G xs ds) ∨ (mk = .bor ∧ RepT f.q f.U xs ds)) : RepT f.q H xs ds := by
  rcases h with ⟨_, h⟩ | ⟨_, h⟩
  · exact h.mono c.sG
  · exact h.mono c.sU
/-- a key asked -/
theorem key_ref {q : Px} {v : V} {d : PyData} (h : KeyD d) (r : Rep q H v d) : ∃ (k : NestedKey) (b : Addr), v = .ref b ∧ d = k.data ∧ k.depth ≤ 8 ∧ Rep q H (.ref b) k.data := by
  obtain ⟨k, rfl, hd, ks, ek⟩ := h
  have r' := r
  rw [ek] at r'
  simp only [NestedKey.data] at r'
  cases r' with
  | tup h1 h2 => exact ⟨k, _, rfl, rfl, hd, r⟩
theorem look_mk {mk : PyData → Ent} {xs : List (NestedKey × Addr × Value)} {ds : List (PyData × PyData)} (h : (mk = .shr ∧ RepT f.q G xs ds) ∨ (mk = .bor ∧ RepT f.q f.U xs ds)) (k : NestedKey) :
    (atKey xs k = none ∧ Look ds k.data = none) ∨ ∃ p u v d, atKey xs k = some (p, u) ∧ Look ds k.data = some d ∧ RelV v u ∧ ((mk = .shr ∧ Rep f.q G v d) ∨ (mk = .bor ∧ Rep f.q f.U v d)) := by
  rcases h with ⟨e, h⟩ | ⟨e, h⟩
  · have := h.look k
    generalize atKey xs k = A at this
    generalize Look ds k.data = B at this
    cases this with
    | none => exact .inl ⟨rfl, rfl⟩
    | some h1 h2 => exact .inr ⟨_, _, _, _, rfl, rfl, h1, .inl ⟨e, h2⟩⟩
  · have := h.look k
    generalize atKey xs k = A at this
    generalize Look ds k.data = B at this
    cases this with
    | none => exact .inl ⟨rfl, rfl⟩
    | some h1 h2 => exact .inr ⟨_, _, _, _, rfl, rfl, h1, .inr ⟨e, h2⟩⟩
/-- slot i holds a dict of one's own: it may be changed -/
theorem Rel.dctSlot {ds : List (PyData × PyData)} {i : Nat} (c : Rel f G T sl σ H) (hs : sl[i]? = some (some (.dct ds))) (hv : σ[i]? = some (some v)) :
    ∃ p o xs, v = .ref p ∧ H p = some (TDict f.q p o xs) ∧ RepT f.q G xs ds ∧ ∀ o' xs' ds', RepT f.q G xs' ds' → Rel f G T (sl.set i (some (.dct ds'))) σ (upd H p (TDict f.q p o' xs')) := by
  have o := c.out hs hv
  obtain ⟨p, ob, xs, rfl, hp, r⟩ := Core.dctd (v := v) (ds := ds) o.core (by simp)
  refine ⟨p, ob, xs, rfl, hp, r, fun o' xs' ds' r' => ?_⟩
  have c2 : Core f G ((.ref p, .dct ds') :: (T ++ slotRes σ (sl.set i none))) (upd H p (TDict f.q p o' xs')) := by
    refine Core.setObj (v := .ref p) (e := .dct ds) (show Core f G ((.ref p, .dct ds) :: (T ++ slotRes σ (sl.set i none))) H from o.core) hp trivial (fun F ow => by cases ow; simp) (fun _ => by intro z; cases z) (fun _ _ => by intro z; cases z) fun F ow => ?_
    cases ow with | dct _ => exact .dct ⟨o', xs', upd_same, r'⟩
  exact Rel.put' ⟨c2, o.wf⟩ (Rel.lt hs) hv
end
def dctS (i : Nat) (k : List (PyData × PyData) → Prop) (sl : Slots) : Prop := match sl[i]? with
  | some (some (.dct ds)) => k ds
  | _ => False
theorem dctS_iff {i : Nat} {k : List (PyData × PyData) → Prop} {sl : Slots} (h : dctS i k sl) : ∃ ds, sl[i]? = some (some (.dct ds)) ∧ k ds := by
  unfold dctS at h
  split at h
  · rename_i ds e; exact ⟨ds, e, h⟩
  · exact h.elim
theorem Core.newDct {f : Fr} {G H : Hp} {L : List (V × Ent)} {p : Addr} {o : Obj} {xs : List (NestedKey × Addr × Value)} {ds : List (PyData × PyData)} (c : Core f G L H) (h : H p = none) (r : RepT f.q G xs ds) : Core f G ((.ref p, .dct ds) :: L) (upd H p (TDict f.q p o xs)) :=
  c.newObj h (fun _ => by intro z; cases z) (fun _ _ => by intro z; cases z) (.dct ⟨o, xs, upd_same, r⟩)

/-! ### asked -/
def oDIx : OV := fun rx ry sl Q => dcR sl rx fun ds mk => datR sl ry fun dk => KeyD dk ∧ ∃ d, Look ds dk = some d ∧ Q (.e (mk d)) sl
def oDIn : OV := fun rk rd sl Q => dcR sl rd fun ds _ => datR sl rk fun dk => KeyD dk ∧ Q (.e (.shr (.bool (Look ds dk).isSome))) sl
def oDNotIn : OV := fun rk rd sl Q => dcR sl rd fun ds _ => datR sl rk fun dk => KeyD dk ∧ Q (.e (.shr (.bool (!(Look ds dk).isSome)))) sl
section
variable {X : Cx} {a b : Expr} {wa wb wc : WE} {pos : PySem.Pos} {pn ss : List Nat}
theorem v_dix (hu : X.A.units + 64 < cLine) (ha : PV X a wa) (hb : PV X b wb) (hs : PlainIx b) : PV X (.Subscript a b pos) (eOp oDIx wa wb) :=
  PE.imp (pe_ix (ix_td hu) ha hb hs) (lift2 (fun _ _ _ h => h) (fun _ _ _ h => h) fun x y H Q ⟨U, G0, G, T, sl, σ, rx, ry, Qv, c, w, k⟩ => by
    obtain ⟨⟨T1, c1⟩, T2, c2⟩ := c.both
    obtain ⟨p, o, xs, ds, mk, rfl, hp, hm, w⟩ := c1.dc w
    obtain ⟨dk, hk, kd, d, hl, w⟩ := c2.dat w
    obtain ⟨kk, b, rfl, rfl, hd, rk⟩ := key_ref kd hk
    rcases look_mk (f := ⟨pxOf X, U, G0⟩) hm kk with ⟨_, e2⟩ | ⟨p', u, v, d', e1, e2, rv, hv⟩
    · rw [hl] at e2; cases e2
    · rw [hl] at e2; cases e2
      exact ⟨p', u, v, ⟨p, o, xs, ds, kk, b, rfl, rfl, hp, mkH c1.base.core hm, rk, hd, e1.symm⟩, rv, k _ _ w _ _ _ (Same.refl _) (c.base.addMk hv)⟩)
theorem look_some {f : Fr} {G : Hp} {mk : PyData → Ent} {xs : List (NestedKey × Addr × Value)} {ds : List (PyData × PyData)} (h : (mk = .shr ∧ RepT f.q G xs ds) ∨ (mk = .bor ∧ RepT f.q f.U xs ds)) (k : NestedKey) : (atKey xs k).isSome = (Look ds k.data).isSome := by
  rcases look_mk h k with ⟨e1, e2⟩ | ⟨_, _, _, _, e1, e2, _⟩ <;> rw [e1, e2] <;> rfl
theorem o_dIn (hu : X.A.units + 64 < cLine) : OpR X (compareOp .In) (liftO (pxOf X) oDIn) := OpR.imp (op_inT hu) fun x y H Q ⟨U, G0, G, T, sl, σ, rx, ry, Qv, c, w, k⟩ => by
  obtain ⟨⟨T1, c1⟩, T2, c2⟩ := c.both
  obtain ⟨p, o, xs, ds, mk, rfl, hp, hm, w⟩ := c2.dc w
  obtain ⟨dk, hk, kd, w⟩ := c1.dat w
  obtain ⟨kk, b, rfl, rfl, hd, rk⟩ := key_ref kd hk
  refine ⟨atKey xs kk, ⟨p, o, xs, ds, kk, b, rfl, rfl, hp, mkH c1.base.core hm, rk, hd, rfl⟩, ?_⟩
  rw [look_some (f := ⟨pxOf X, U, G0⟩) hm kk]
  exact k _ _ w _ _ _ (Same.refl _) ⟨c.base.core.addShr (.bl _), c.base.wf⟩
theorem o_dNotIn (hu : X.A.units + 64 < cLine) : OpR X (compareOp .NotIn) (liftO (pxOf X) oDNotIn) := OpR.imp (op_notInT hu) fun x y H Q ⟨U, G0, G, T, sl, σ, rx, ry, Qv, c, w, k⟩ => by
  obtain ⟨⟨T1, c1⟩, T2, c2⟩ := c.both
  obtain ⟨p, o, xs, ds, mk, rfl, hp, hm, w⟩ := c2.dc w
  obtain ⟨dk, hk, kd, w⟩ := c1.dat w
  obtain ⟨kk, b, rfl, rfl, hd, rk⟩ := key_ref kd hk
  refine ⟨atKey xs kk, ⟨p, o, xs, ds, kk, b, rfl, rfl, hp, mkH c1.base.core hm, rk, hd, rfl⟩, ?_⟩
  rw [look_some (f := ⟨pxOf X, U, G0⟩) hm kk]
  exact k _ _ w _ _ _ (Same.refl _) ⟨c.base.core.addShr (.bl _), c.base.wf⟩
/-- d.get(k, z) -/
def eDGet2 (w wk wz : WE) : WE := fun sl Q => w sl fun r s1 => dcR s1 r (fun _ _ => True) ∧ wk s1 fun rk s2 => wz s2 fun rz s3 => dcR s3 r fun ds mk => datR s3 rk fun dk => KeyD dk ∧ match rz with
  | .e (.shr dz) => (∀ d, Look ds dk = some d → Q (.e (mk d)) s3) ∧ (Look ds dk = none → Q (.e (.shr dz)) s3)
  | _ => False
/-- three results, each readable -/
theorem RelRs.three {f : Fr} {G H : Hp} {T : List (V × Ent)} {x y z : V} {rx ry rz : R} {sl : Slots} {σ : St} (c : RelRs f G T [x, y, z] [rx, ry, rz] sl σ H) :
    (∃ T', RelR f G T' x rx sl σ H) ∧ (∃ T', RelR f G T' y ry sl σ H) ∧ ∃ T', RelR f G T' z rz sl σ H := by
  have h2 : ∃ T', RelRs f G T' [y, z] [ry, rz] sl σ H := by cases rx with | e xa => exact ⟨_, c⟩ | al i => exact ⟨_, c.2⟩
  obtain ⟨T', h2⟩ := h2
  refine ⟨?_, h2.both⟩
  cases rx with
  | al i => exact ⟨_, (RelRs.base c.2), c.1⟩
  | e xa =>
    obtain ⟨a, _⟩ := c.flat
    refine ⟨psh [y, z] [ry, rz] ++ T, ⟨a.core.perm ?_, a.wf⟩⟩
    exact List.Perm.refl _
theorem v_dget2 {o e g : Expr} {w wk wz : WE} {apos cpos : PySem.Pos} (hu : X.A.units + 64 < cLine) (ho : PV X o w) (he : PV X e wk) (hf : PV X g wz) (m : M2 X o "get" apos e g cpos) : PV X (.Call (.Attribute o "get" apos) [e, g] [] cpos) (eDGet2 w wk wz) :=
  PE.imp (pe_tget2 hu ho he hf m) fun σ H Q ⟨U, G0, G, T, sl, Qv, c, h, k⟩ => ⟨U, G0, G, T, sl, _, c, h, fun r s1 ⟨h0, hq⟩ G1 x H1 e1 c1 => by
    obtain ⟨p, ob, es, _, _, rfl, hp, _, _⟩ := c1.dc h0
    refine ⟨p, ob, es, rfl, hp, ?_⟩
    have fin : ∀ {G3 H3 rk rz s3 y z}, Same G G3 → RelRs ⟨pxOf X, U, G0⟩ G3 T [.ref p, y, z] [r, rk, rz] s3 σ H3 → (dcR s3 r fun ds mk => datR s3 rk fun dk => KeyD dk ∧ match rz with
        | .e (.shr dz) => (∀ d, Look ds dk = some d → Qv (.e (mk d)) s3) ∧ (Look ds dk = none → Qv (.e (.shr dz)) s3)
        | _ => False) → ∃ o, TAsk (pxOf X) H3 (.ref p) y o ∧ (o = none → Q z H3) ∧ ∀ p u, o = some (p, u) → ∃ v, RelV v u ∧ Q v H3 := by
      intro G3 H3 rk rz s3 y z e3 c3 w
      obtain ⟨⟨T1, d1⟩, ⟨T2, d2⟩, T3, d3⟩ := c3.three
      obtain ⟨p', o, xs, ds, mk, ep, hp, hm, w⟩ := d1.dc w
      cases ep
      obtain ⟨dk, hk, kd, w⟩ := d2.dat w
      obtain ⟨kk, b, rfl, rfl, hd, rk⟩ := key_ref kd hk
      cases rz with
      | al i => exact w.elim
      | e ez =>
        cases ez with
        | shr dz =>
          have rz : Rep (pxOf X) G3 z dz := d3.core.shrd (v := z) (d := dz) (by simp)
          refine ⟨atKey xs kk, ⟨p, o, xs, ds, kk, b, rfl, rfl, hp, mkH d1.base.core hm, rk, hd, rfl⟩, fun e => ?_, fun p' u e => ?_⟩
          · rcases look_mk (f := ⟨pxOf X, U, G0⟩) hm kk with ⟨_, e2⟩ | ⟨_, _, _, _, e1, _⟩
            · exact k _ _ (w.2 e2) _ _ _ e3 ⟨c3.base.core.addShr rz, c3.base.wf⟩
            · rw [e] at e1; cases e1
          · rcases look_mk (f := ⟨pxOf X, U, G0⟩) hm kk with ⟨e1, _⟩ | ⟨p2, u2, v, d, e1, e2, rv, hv⟩
            · rw [e] at e1; cases e1
            · rw [e] at e1; cases e1
              exact ⟨v, rv, k _ _ (w.1 d e2) _ _ _ e3 (c3.base.addMk hv)⟩
        | _ => exact w.elim
    cases r with
    | e ex =>
      refine ⟨U, G0, G1, (.ref p, ex) :: T, s1, _, c1, hq, fun rk s2 hq G2 y H2 e2 c2 => ?_⟩
      cases rk with
      | e ek => exact ⟨U, G0, G2, (y, ek) :: (.ref p, ex) :: T, s2, _, c2, hq, fun rz s3 hq G3 z H3 e3 c3 => fin (rk := .e ek) (rz := rz) ((e1.trans e2).trans e3) (by cases rz with | e _ => exact c3 | al _ => exact ⟨c3.2, c3.1⟩) hq⟩
      | al j => exact ⟨U, G0, G2, (.ref p, ex) :: T, s2, _, c2.1, hq, fun rz s3 hq G3 z H3 e3 c3 => fin (rk := .al j) (rz := rz) ((e1.trans e2).trans e3) ⟨c2.2, by cases rz with | e _ => exact c3 | al _ => exact ⟨c3.2, c3.1⟩⟩ hq⟩
    | al i =>
      refine ⟨U, G0, G1, T, s1, _, c1.1, hq, fun rk s2 hq G2 y H2 e2 c2 => ?_⟩
      cases rk with
      | e ek => exact ⟨U, G0, G2, (y, ek) :: T, s2, _, c2, hq, fun rz s3 hq G3 z H3 e3 c3 => fin (rk := .e ek) (rz := rz) ((e1.trans e2).trans e3) ⟨c1.2, by cases rz with | e _ => exact c3 | al _ => exact ⟨c3.2, c3.1⟩⟩ hq⟩
      | al j => exact ⟨U, G0, G2, T, s2, _, c2.1, hq, fun rz s3 hq G3 z H3 e3 c3 => fin (rk := .al j) (rz := rz) ((e1.trans e2).trans e3) ⟨c1.2, c2.2, by cases rz with | e _ => exact c3 | al _ => exact ⟨c3.2, c3.1⟩⟩ hq⟩⟩
end
end VV

/-! V28: dicts: stored, made, copied, sorted, walked; sorted lists of tuples; insert -/
namespace VV
open PySem PySem.Spec L2
open PyProof.Rows hiding St

/-! ### d[k] = v -/
def gIxD (wo wi : WE) : TGv := fun e sl Q => wo sl fun ro s1 => wi s1 fun ri s2 => datR s2 ri fun dk => KeyD dk ∧ match ro with
  | .al i => e.frz fun d => dctS i (fun ds => ds.length < sizeLine ∧ Q (s2.set i (some (.dct (Put ds dk d))))) s2
  | _ => False
section
variable {X : Cx} {pn ss : List Nat} {pos : PySem.Pos} {a b : Expr} {wa wb : WE}
theorem g_ixD {o i : Expr} {wo wi : WE} (hu : X.A.units + 64 < cLine) (ho : PV X o wo) (hi : PV X i wi)
    (ha : ∀ v, assign (.Subscript o i pos) X.env v = (do
      let ov ← holding [v] (eval o X.env)
      let iv ← holding [v, ov] (eval i X.env)
      standAt pos
      holding [v, ov, iv] (setItem ov iv v)
      release [v, ov, iv] []) := by intro _; rfl) : PVG X pn ss (.Subscript o i pos) (gIxD wo wi) :=
  PG.imp (pg_sub ho hi (set_td hu) ha) fun v σ H Q ⟨U, G0, G, T, e, sl, Qv, hpn, c, h, k⟩ =>
    ⟨U, G0, G, (v, e) :: T, sl, _, c, h, fun ro s1 hq G1 xo H1 e1 c1 => by
      cases ro with
      | e x => exact ⟨U, G0, G1, (xo, x) :: (v, e) :: T, s1, _, c1, hq, fun ri s2 hq2 G2 xi H2 e2 c2 => by
          obtain ⟨d, hd, _, hk⟩ := RelR.dat (r := ri) c2 hq2
          exact hk.elim⟩
      | al a =>
        refine ⟨U, G0, G1, (v, e) :: T, s1, _, c1.1, hq, fun ri s2 hq2 G2 xi H2 e2 c2 => ?_⟩
        obtain ⟨dk, hdk, kd, hk⟩ := RelR.dat (r := ri) c2 hq2
        obtain ⟨d, hd, hk⟩ := Ent.frz_iff (show e.frz _ from hk)
        have cb : Rel ⟨pxOf X, U, G0⟩ G2 ((v, e) :: T) s2 σ H2 := c2.base
        have rkG : Rep (pxOf X) G2 xi dk := Rep.solid cb.core.tups cb.core.frzs kd.sol hdk
        obtain ⟨G3, s3, c3⟩ := Core.freeze (show Core _ G2 ((v, e) :: (T ++ slotRes σ s2)) H2 from cb.core) hd
        have rd : Rep (pxOf X) G3 v d := c3.shrd (by simp)
        have c4 : Rel ⟨pxOf X, U, G0⟩ G3 T s2 σ H2 := ⟨c3.drop, cb.wf⟩
        obtain ⟨ds, hs, hz, hk⟩ := dctS_iff hk
        obtain ⟨p, ob, xs, rfl, hp, r, put⟩ := c4.dctSlot hs c1.2
        obtain ⟨kk, b, rfl, rfl, hdep, rk⟩ := key_ref kd hdk
        refine ⟨p, ob, xs, ds, kk, b, rfl, rfl, hp, r.mono c4.core.sG, rk, hdep, by rw [r.length]; exact hz, fun u ob' ru => ?_⟩
        exact k _ hk G3 _ _ ((e1.trans e2).trans s3) rfl (fun _ _ => rfl) (put _ _ _ (r.put (rkG.mono s3) hdep ru rd))⟩

/-! ### {}, {k: v} -/
def eDNew : WE := fun sl Q => Q (.e (.dct [])) sl
theorem v_dnew : PV X (.Dict [] [] pos) eDNew := PE.imp pe_tnew fun σ H Q ⟨U, G0, G, T, sl, Qv, c, h, k⟩ => fun p ob hp => k _ _ h G _ _ (Same.refl _) ⟨c.core.newDct hp .nil, c.wf⟩
def eDOne (wk wv : WE) : WE := fun sl Q => wk sl fun rk s1 => wv s1 fun rv s2 => datR s2 rk fun dk => KeyD dk ∧ frzR s2 rv fun d s3 => Q (.e (.dct [(dk, d)])) s3
theorem v_done (hu : X.A.units + 64 < cLine) (ha : PV X a wa) (hb : PV X b wb) : PV X (.Dict [some a] [b] pos) (eDOne wa wb) := PE.imp (pe_tone hu ha hb) fun σ H Q ⟨U, G0, G, T, sl, Qv, c, h, k⟩ => fun p ob hp => by
  have c0 : Rel ⟨pxOf X, U, G0⟩ G ((.ref p, .dct []) :: T) sl σ (upd H p (TDict (pxOf X) p ob [])) := ⟨c.core.newDct hp .nil, c.wf⟩
  refine ⟨U, G0, G, _, sl, _, c0, h, fun rk s1 hq G1 x H1 e1 c1 => ?_⟩
  have fin : ∀ {G2 H2 s2 rv y}, Same G G2 → RelRs ⟨pxOf X, U, G0⟩ G2 ((.ref p, .dct []) :: T) [x, y] [rk, rv] s2 σ H2 → (datR s2 rk fun dk => KeyD dk ∧ frzR s2 rv fun d s3 => Qv (.e (.dct [(dk, d)])) s3) →
      ∃ ob1 k b, H2 p = some (TDict (pxOf X) p ob1 []) ∧ x = .ref b ∧ Rep (pxOf X) H2 (.ref b) k.data ∧ k.depth ≤ 8 ∧ ∀ u ob', RelV y u → Q (.ref p) (upd H2 p (TDict (pxOf X) p ob' [(k, b, u)])) := by
    intro G2 H2 s2 rv y e2 c2 w
    obtain ⟨⟨T1, d1⟩, T2, d2⟩ := c2.both
    obtain ⟨dk, hk, kd, w⟩ := d1.dat w
    obtain ⟨kk, b, rfl, rfl, hd, rk'⟩ := key_ref kd hk
    -- the value frozen, the key dropped, the new dict kept
    have c3 : ∃ T3, RelR ⟨pxOf X, U, G0⟩ G2 ((.ref p, .dct []) :: T3) y rv s2 σ H2 ∧ (∀ {G' sl' H'}, Rel ⟨pxOf X, U, G0⟩ G' ((.ref p, .dct []) :: T3) sl' σ H' → Rel ⟨pxOf X, U, G0⟩ G' ((.ref p, .dct []) :: T) sl' σ H') := by
      cases rk with
      | al i => exact ⟨T, by cases rv with | e _ => exact c2.2 | al _ => exact ⟨c2.2.2, c2.2.1⟩, fun c => c⟩
      | e ek =>
        refine ⟨(.ref b, ek) :: T, ?_, fun c => ⟨Core.drop (v := .ref b) (e := ek) (c.core.perm (.swap _ _ _)), c.wf⟩⟩
        cases rv with
        | e ev => exact ⟨Core.perm (show Core _ _ ((y, ev) :: (.ref b, ek) :: (.ref p, .dct []) :: (T ++ slotRes σ s2)) _ from c2.core) (.cons _ (.swap _ _ _)), c2.wf⟩
        | al j => exact ⟨⟨Core.perm (show Core _ _ ((.ref b, ek) :: (.ref p, .dct []) :: (T ++ slotRes σ s2)) _ from c2.2.core) (.swap _ _ _), c2.2.wf⟩, c2.1⟩
    obtain ⟨T3, c3, back⟩ := c3
    have rkG : Rep (pxOf X) G2 (.ref b) kk.data := Rep.solid c3.base.core.tups c3.base.core.frzs (sol_nk _) rk'
    obtain ⟨G3, d, s3, e3, c4, rd, w⟩ := c3.frz w
    have c5 := back c4
    obtain ⟨p', ob1, xs, ep, hp1, hr⟩ := Core.dctd (v := .ref p) (ds := []) c5.core (by simp)
    cases ep
    cases hr
    refine ⟨ob1, kk, b, hp1, rfl, rk', hd, fun u ob' ru => ?_⟩
    have c6 : Core ⟨pxOf X, U, G0⟩ G3 ((.ref p, .dct [(kk.data, d)]) :: (T ++ slotRes σ s3)) (upd H2 p (TDict (pxOf X) p ob' [(kk, b, u)])) := by
      refine Core.setObj (v := .ref p) (e := .dct []) (show Core _ G3 ((.ref p, .dct []) :: (T ++ slotRes σ s3)) H2 from c5.core) hp1 trivial (fun F ow => by cases ow; simp) (fun _ => by intro z; cases z) (fun _ _ => by intro z; cases z) fun F ow => ?_
      cases ow with | dct _ => exact .dct ⟨ob', _, upd_same, .cons (rkG.mono e3) hd ru rd .nil⟩
    exact k _ _ w G3 _ _ (e2.trans e3) ⟨c6, c5.wf⟩
  cases rk with
  | e ek => exact ⟨U, G0, G1, _, s1, _, c1, hq, fun rv s2 hq G2 y H2 e2 c2 => fin (e1.trans e2) (by cases rv with | e _ => exact c2 | al _ => exact ⟨c2.2, c2.1⟩) hq⟩
  | al i => exact ⟨U, G0, G1, _, s1, _, c1.1, hq, fun rv s2 hq G2 y H2 e2 c2 => fin (e1.trans e2) ⟨c1.2, by cases rv with | e _ => exact c2 | al _ => exact ⟨c2.2, c2.1⟩⟩ hq⟩

/-! ### calls -/
def cDCopy : CV := fun rs sl Q => match rs with
  | [r] => dgR sl r fun ds => HashOk ds ∧ Q (.e (.dct ds)) sl
  | _ => False
theorem c_dcopy (hu : X.A.units + 64 < cLine) : CallR X (.type "dict") (liftC (pxOf X) cDCopy) := CallR.imp (cr_dictT hu) fun vs H Q ⟨U, G0, G, T, sl, σ, rs, Qv, c, w, kk⟩ => by
  match rs, c, w with
  | [r], c, w =>
    obtain ⟨v, rfl, cv⟩ := one_of c
    obtain ⟨a, o, xs, ds, rfl, ha, rt, hh, w⟩ := cv.dg w
    exact ⟨a, o, xs, ds, rfl, ha, rt.mono c.base.core.sG, hh, fun p ob' hp => kk _ _ w G _ _ (Same.refl _) ⟨c.base.core.newDct hp rt, c.base.wf⟩⟩
theorem put_solD {ds : List (PyData × PyData)} {k v : PyData} (h : SolD ds) (hv : Sol v) : SolD (Put ds k v) := by
  classical
  intro p hp
  unfold Put at hp
  split at hp
  · obtain ⟨y, hy, rfl⟩ := List.mem_map.mp hp
    split
    · exact hv
    · exact h y hy
  · rcases List.mem_append.mp hp with hp | hp
    · exact h p hp
    · simp at hp; subst hp; exact hv
theorem puts_solD : ∀ {ps ds : List (PyData × PyData)}, SolD ds → SolD ps → SolD (Puts ds ps)
  | [], _, h, _ => h
  | p :: ps, ds, h, hp => puts_solD (ps := ps) (put_solD h (hp p (by simp))) fun q hq => hp q (by simp [hq])
def cDPairs : CV := fun rs sl Q => match rs with
  | [r] => datR sl r fun d => match d with
    | .list ls => ∃ ps, ls = ps.map prD ∧ (∀ p ∈ ps, KeyD p.1 ∧ Sol p.2) ∧ Q (.e (.dct (Puts [] ps))) sl
    | _ => False
  | _ => False
theorem c_dpairs (hc : X.calm = true) (hu : X.A.units + 64 < cLine) : CallR X (.type "dict") (liftC (pxOf X) cDPairs) := CallR.imp (cr_dictL hc hu) fun vs H Q ⟨U, G0, G, T, sl, σ, rs, Qv, c, w, kk⟩ => by
  match rs, c, w with
  | [r], c, w =>
    obtain ⟨v, rfl, cv⟩ := one_of c
    obtain ⟨d, hd, w⟩ := cv.dat w
    cases d with
    | list ls =>
      obtain ⟨ps, rfl, hp, w⟩ := w
      cases hd with
      | lst h1 h2 =>
        refine ⟨_, _, ps, rfl, h1, h2, fun p hm => (hp p hm).1, fun p ob' xs' hn rt => ?_⟩
        have rg : RepT (pxOf X) G xs' (Puts [] ps) := RepT.solid c.base.core.tups c.base.core.frzs rt (puts_solD (fun p hp => by simp at hp) fun p hm => (hp p hm).2)
        exact kk _ _ w G _ _ (Same.refl _) ⟨c.base.core.newDct hn rg, c.base.wf⟩
    | _ => exact w.elim
def cDList : CV := fun rs sl Q => match rs with
  | [r] => dcR sl r fun ds _ => Q (.e (.own (ds.map (·.1)))) sl
  | _ => False
theorem keys_reps {q : Px} {H : Hp} : ∀ {xs : List (NestedKey × Addr × Value)} {ds : List (PyData × PyData)}, RepT q H xs ds → Reps q H (xs.map fun x => V.ref x.2.1) (ds.map (·.1))
  | _, _, .nil => .nil
  | _, _, .cons h1 _ _ _ r => .cons h1 (keys_reps r)
theorem keys_sols {q : Px} {H : Hp} : ∀ {xs : List (NestedKey × Addr × Value)} {ds : List (PyData × PyData)}, RepT q H xs ds → Sols (ds.map (·.1))
  | _, _, .nil => trivial
  | _, _, .cons (k := k) _ _ _ _ r => ⟨sol_nk k, keys_sols r⟩
theorem mk_keys {f : Fr} {G H : Hp} {L : List (V × Ent)} (c : Core f G L H) {mk : PyData → Ent} {xs : List (NestedKey × Addr × Value)} {ds : List (PyData × PyData)} (h : (mk = .shr ∧ RepT f.q G xs ds) ∨ (mk = .bor ∧ RepT f.q f.U xs ds)) : Reps f.q G (xs.map fun x => V.ref x.2.1) (ds.map (·.1)) := by
  rcases h with ⟨_, h⟩ | ⟨_, h⟩
  · exact keys_reps h
  · exact Reps.solid c.tU c.fU (keys_sols h) (keys_reps h)
theorem c_dlist (hc : X.calm = true) : CallR X (.type "list") (liftC (pxOf X) cDList) := CallR.imp (cr_listT hc) fun vs H Q ⟨U, G0, G, T, sl, σ, rs, Qv, c, w, kk⟩ => by
  match rs, c, w with
  | [r], c, w =>
    obtain ⟨v, rfl, cv⟩ := one_of c
    obtain ⟨a, o, xs, ds, mk, rfl, ha, hm, w⟩ := cv.dc w
    exact ⟨a, o, xs, rfl, ha, fun p hp => kk _ _ w G _ _ (Same.refl _) ⟨c.base.core.newOwn hp (mk_keys c.base.core hm), c.base.wf⟩⟩
def cDSort : CV := fun rs sl Q => match rs with
  | [r] => dcR sl r fun ds _ => ∃ bs : List (List Int), ds.map (·.1) = bs.map tupI ∧ (∀ b ∈ bs, b ≠ []) ∧ Q (.e (.own ((sortM bs).map tupI))) sl
  | _ => False
theorem c_dsort (hc : X.calm = true) (hu : X.A.units + 64 < cLine) : CallR X (.builtin "sorted") (liftC (pxOf X) cDSort) := CallR.imp (cr_sortDT hc hu) fun vs H Q ⟨U, G0, G, T, sl, σ, rs, Qv, c, w, kk⟩ => by
  match rs, c, w with
  | [r], c, w =>
    obtain ⟨v, rfl, cv⟩ := one_of c
    obtain ⟨a, o, xs, ds, mk, rfl, ha, hm, bs, hb, hne, w⟩ := cv.dc w
    exact ⟨a, o, xs, ds, bs, rfl, ha, mkH c.base.core hm, hb, hne, fun p vs' hp r => kk _ _ w G _ _ (Same.refl _) ⟨c.base.core.newOwn hp (Reps.solid c.base.core.tups c.base.core.frzs (sols_tups _) r), c.base.wf⟩⟩
def cSortT : CV := fun rs sl Q => match rs with
  | [r] => datR sl r fun d => match d with
    | .list ls => ∃ bs : List (List Int), ls = bs.map tupI ∧ (∀ b ∈ bs, b ≠ []) ∧ Q (.e (.own ((sortM bs).map tupI))) sl
    | _ => False
  | _ => False
theorem c_sortT (hu : X.A.units + 64 < cLine) : CallR X (.builtin "sorted") (liftC (pxOf X) cSortT) := CallR.imp (cr_sortL hu) fun vs H Q ⟨U, G0, G, T, sl, σ, rs, Qv, c, w, kk⟩ => by
  match rs, c, w with
  | [r], c, w =>
    obtain ⟨v, rfl, cv⟩ := one_of c
    obtain ⟨d, hd, w⟩ := cv.dat w
    cases d with
    | list ls =>
      obtain ⟨bs, rfl, hne, w⟩ := w
      cases hd with
      | lst h1 h2 => exact ⟨_, _, bs, rfl, h1, h2, hne, fun p vs' hp r => kk _ _ w G _ _ (Same.refl _) ⟨c.base.core.newOwn hp (Reps.solid c.base.core.tups c.base.core.frzs (sols_tups _) r), c.base.wf⟩⟩
    | _ => exact w.elim

/-! ### for k in d -/
def iDk (w : WE) : WI := fun sl Q => w sl fun r s1 => match r with
  | .e (.bor (.dict ds)) => Q ((ds.map (·.1)).map .shr) s1
  | r => frzR s1 r fun d s2 => match d with
    | .dict ds => Q ((ds.map (·.1)).map .shr) s2
    | _ => False
theorem src_dk {q : Px} {U : Hp} {G0 : Ct} {G : Hp} {a : Addr} {o : Obj} {xs : List (NestedKey × Addr × Value)} {ks : List PyData} (hg : ∀ G1 T sl σ H, Same G G1 → Rel ⟨q, U, G0⟩ G1 T sl σ H → H a = some (TDict q a o xs)) (r : Reps q G (xs.map fun x => V.ref x.2.1) ks) : Src ⟨q, U, G0⟩ G (ItD q a o xs) (ks.map .shr) := by
  refine ⟨_, _, by rw [List.length_map, ← r.length, List.length_map]; exact walkD, fun G1 T sl σ H e c => hg G1 T sl σ H e c, fun i e x H H' G1 T sl σ hi e1 c y => ?_⟩
  obtain ⟨rfl, k, cc, u, hx, rfl⟩ := y
  rw [List.getElem?_map] at hi
  cases hd : ks[i]? with
  | none => rw [hd] at hi; cases hi
  | some d =>
    rw [hd] at hi
    cases hi
    obtain ⟨w, hw, rw'⟩ := r.get hd
    rw [List.getElem?_map, hx] at hw
    cases hw
    exact ⟨G1, Same.refl _, c.core.addShr (rw'.mono e1), c.wf⟩
theorem i_dk {tg iter : Expr} {w : WE} (h : PV X iter w) : PVI X tg iter (iDk w) := PI.imp (pi_keysT h) fun σ H R ⟨U, G0, G, T, sl, Qv, c, w, k⟩ => ⟨U, G0, G, T, sl, _, c, w, fun r s1 hq G1 v H1 e1 c1 => by
  have shr : (frzR s1 r fun d s2 => match d with
    | .dict ds => Qv ((ds.map (·.1)).map .shr) s2
    | _ => False) → ∃ a o xs, v = .ref a ∧ H1 a = some (TDict (pxOf X) a o xs) ∧ R (ItD (pxOf X) a o xs) H1 := fun hq => by
    obtain ⟨G2, d, s2, e2, c2, rd, hq⟩ := c1.frz hq
    cases d with
    | dict ds =>
      cases rd with
      | @dctT a o xs _ h1 h2 => exact ⟨a, o, xs, rfl, c2.core.sG _ _ h1, k _ _ hq G2 _ _ (e1.trans e2) c2 (src_dk (fun G3 T sl σ H e c => c.core.sG _ _ (e _ _ h1)) (keys_reps h2))⟩
    | _ => exact (show False from hq).elim
  cases r with
  | al i => exact shr hq
  | e x =>
    cases x with
    | bor d =>
      cases d with
      | dict ds =>
        have hq : Qv ((ds.map (·.1)).map .shr) s1 := hq
        cases c1.core.bord (v := v) (d := .dict ds) (by simp) with
        | @dctT a o xs _ h1 h2 => exact ⟨a, o, xs, rfl, c1.core.sU _ _ h1, k _ _ hq G1 _ _ e1 c1.base (src_dk (fun G3 T sl σ H e c => c.core.sU _ _ h1) (Reps.solid c1.core.tU c1.core.fU (keys_sols h2) (keys_reps h2)))⟩
      | _ => exact shr hq
    | _ => exact shr hq⟩

/-! ### xs.insert(i, x) -/
theorem m_insert : MtR X "list.insert" (liftM (pxOf X) mInsert) := MtR.imp mt_insert fun x xs H Q ⟨U, G0, G, T, sl, σ, rx, rs, Qv, c, w, k⟩ => by
  unfold mInsert at w
  split at w
  · rename_i i j ra
    match xs, c with
    | [y, z], c =>
      have cz : ∃ T', RelR ⟨pxOf X, U, G0⟩ G T' z ra sl σ H ∧ (∀ {G' sl' H'}, Rel ⟨pxOf X, U, G0⟩ G' T' sl' σ H' → Rel ⟨pxOf X, U, G0⟩ G' T sl' σ H') ∧ y = .int j := by
        refine ⟨(y, .shr (.int j)) :: T, ?_, fun c => ⟨c.core.drop, c.wf⟩, ?_⟩
        · cases ra with | e _ => exact c.2 | al _ => exact ⟨c.2.2, c.2.1⟩
        · have := (RelRs.base (vs := [z]) (rs := [ra]) (T := (y, .shr (.int j)) :: T) c.2).core.shrd (v := y) (d := .int j) (by simp)
          exact ints_of this
      obtain ⟨T', cz, back, ey⟩ := cz
      obtain ⟨G', d, s2, e1, c1, rd, w⟩ := cz.frz w
      obtain ⟨ds, hs, hz, h0, h1, w⟩ := ownS_iff w
      obtain ⟨p, vs, rfl, hp, r, put⟩ := (back c1).ownSlot hs c.1
      refine ⟨p, vs, j, z, rfl, by rw [ey], hp, by rw [r.length]; exact hz, h0, h1, k _ _ w _ _ _ e1 ?_⟩
      have c2 := put _ _ (((r.take j.toNat).append (.cons rd .nil)).append (r.drop j.toNat))
      exact ⟨c2.core.addShr .non, c2.wf⟩
    | [], c => exact (show False from c.2).elim
    | [_], c => cases ra <;> exact (show False from c.2).elim
    | _ :: _ :: _ :: _, c => cases ra with | e _ => exact (show False from c.2).elim | al _ => exact (show False from c.2.2).elim
  · exact w.elim
end
end VV

/-! V29: the keys of the laws: marks, and numbers with marks; their hashes differ; tables -/
namespace VV
open PySem PySem.Spec L2
open PyProof.Rows hiding St

/-! ### whole numbers put into a tree; none twice -/
inductive Tr where
  | lf
  | nd (l : Tr) (x : Nat) (r : Tr)
def Tr.has : Tr → Nat → Bool
  | .lf, _ => false
  | .nd l y r, x => if Nat.ble (x + 1) y then l.has x else if Nat.ble (y + 1) x then r.has x else true
def Tr.ins : Tr → Nat → Tr
  | .lf, x => .nd .lf x .lf
  | .nd l y r, x => if Nat.ble (x + 1) y then .nd (l.ins x) y r else .nd l y (r.ins x)
def Tr.all : Tr → List Nat → Bool
  | _, [] => true
  | t, x :: xs => !t.has x && Tr.all (t.ins x) xs
theorem Tr.has_ins : ∀ (t : Tr) (x y : Nat), t.has y = true → (t.ins x).has y = true
  | .lf, x, y, h => by simp [Tr.has] at h
  | .nd l z r, x, y, h => by
    unfold Tr.ins
    unfold Tr.has at h
    by_cases h1 : Nat.ble (x + 1) z = true
    · rw [if_pos h1]
      unfold Tr.has
      by_cases h2 : Nat.ble (y + 1) z = true
      · rw [if_pos h2] at h ⊢; exact Tr.has_ins l x y h
      · rw [if_neg h2] at h ⊢; exact h
    · rw [if_neg h1]
      unfold Tr.has
      by_cases h2 : Nat.ble (y + 1) z = true
      · rw [if_pos h2] at h ⊢; exact h
      · rw [if_neg h2] at h ⊢
        by_cases h3 : Nat.ble (z + 1) y = true
        · rw [if_pos h3] at h ⊢; exact Tr.has_ins r x y h
        · rw [if_neg h3] at h ⊢
theorem Tr.has_self : ∀ (t : Tr) (x : Nat), (t.ins x).has x = true
  | .lf, x => by
    have h : Nat.ble (x + 1) x = false := by
      cases e : Nat.ble (x + 1) x with
      | false => rfl
      | true => have := Nat.le_of_ble_eq_true e; omega
    simp [Tr.ins, Tr.has, h]
  | .nd l z r, x => by
    unfold Tr.ins
    by_cases h1 : Nat.ble (x + 1) z = true
    · rw [if_pos h1]; unfold Tr.has; rw [if_pos h1]; exact Tr.has_self l x
    · rw [if_neg h1]; unfold Tr.has; rw [if_neg h1]
      by_cases h3 : Nat.ble (z + 1) x = true
      · rw [if_pos h3]; exact Tr.has_self r x
      · rw [if_neg h3]
theorem Tr.all_ok : ∀ (xs : List Nat) (t : Tr), Tr.all t xs = true → xs.Nodup ∧ ∀ x ∈ xs, t.has x = false
  | [], _, _ => ⟨List.nodup_nil, by simp⟩
  | x :: xs, t, h => by
    simp only [Tr.all, Bool.and_eq_true, Bool.not_eq_true'] at h
    obtain ⟨a, b⟩ := Tr.all_ok xs _ h.2
    have nx : x ∉ xs := fun m => by have := b x m; rw [Tr.has_self] at this; cases this
    refine ⟨List.nodup_cons.mpr ⟨nx, a⟩, fun y hy => ?_⟩
    rcases List.mem_cons.mp hy with rfl | hy
    · exact h.1
    · have := b y hy
      cases e : t.has y with
      | false => rfl
      | true => rw [Tr.has_ins t x y e] at this; cases this
/-- marks as lists of numbers -/
def bT : List (Nat × Nat) := [(0, 20), (1, 20), (2, 12), (3, 8), (4, 6), (5, 6)]
def marksN : List (List Nat) := (List.range 40).map (fun a => [a]) ++ bT.flatMap fun p => (List.range p.2).map fun b => [p.1, b]
def hI (i : Nat) : Int := hashInt i
def hT (hs : List Int) : Int := reduceHash (Builtin.Tuple.tupleHashOf hs)
def hM (m : List Nat) : Int := hT (m.map hI)
def hNat (i : Int) : Nat := (i + 9223372036854775808).toNat
theorem marks_hash : Tr.all .lf (marksN.map fun m => hNat (hM m)) = true := by decide +kernel
def pairsN : List (Nat × List Nat) := (List.range 42).flatMap fun n => marksN.map fun m => (n, m)
def hQ (p : Nat × List Nat) : Int := hT [hI p.1, hM p.2]
theorem pairs_hash : Tr.all .lf (pairsN.map fun p => hNat (hQ p)) = true := by decide +kernel
theorem pairs_mem {n : Nat} {m : List Nat} (h : n < 42) (hm : m ∈ marksN) : (n, m) ∈ pairsN := List.mem_flatMap.mpr ⟨n, List.mem_range.mpr h, List.mem_map.mpr ⟨m, hm, rfl⟩⟩
end VV

/-! V30: keys, tables -/
namespace VV
open PySem PySem.Spec L2
open PyProof.Rows hiding St
def nkM (m : List Nat) : NestedKey := .tup (m.map fun a => .num ((a : Nat) : Int))
def nkP (n : Nat) (m : List Nat) : NestedKey := .tup [.num ((n : Nat) : Int), nkM m]
theorem hash_list (w : World) : ∀ m : List Nat, NestedKey.hashes w (m.map fun a => .num ((a : Nat) : Int)) = m.map hI
  | [] => by simp [NestedKey.hashes]
  | a :: m => by simp only [List.map_cons, NestedKey.hashes, NestedKey.hash, hash_list w m]; rfl
theorem hash_nkM (w : World) (m : List Nat) : NestedKey.hash w (nkM m) = hM m := by
  unfold nkM
  rw [NestedKey.hash, hash_list]
  rfl
theorem hash_nkP (w : World) (n : Nat) (m : List Nat) : NestedKey.hash w (nkP n m) = hT [hI n, hM m] := by
  unfold nkP
  rw [NestedKey.hash]
  simp only [NestedKey.hashes, hash_nkM, NestedKey.hash]
  rfl
theorem inj_of_nodup {α β : Type} {f : α → β} : ∀ {L : List α}, (L.map f).Nodup → ∀ x ∈ L, ∀ y ∈ L, f x = f y → x = y
  | [], _, x, hx, _, _, _ => by simp at hx
  | a :: L, h, x, hx, y, hy, e => by
    rw [List.map_cons, List.nodup_cons] at h
    rcases List.mem_cons.mp hx with hx1 | hx1
    · rcases List.mem_cons.mp hy with hy1 | hy1
      · rw [hx1, hy1]
      · exact (h.1 (List.mem_map.mpr ⟨y, hy1, by rw [← e, hx1]⟩)).elim
    · rcases List.mem_cons.mp hy with hy1 | hy1
      · exact (h.1 (List.mem_map.mpr ⟨x, hx1, by rw [e, hy1]⟩)).elim
      · exact inj_of_nodup h.2 x hx1 y hy1 e
theorem nd_map_on {α β : Type} {f : α → β} : ∀ {L : List α}, L.Nodup → (∀ x ∈ L, ∀ y ∈ L, f x = f y → x = y) → (L.map f).Nodup
  | [], _, _ => by simp
  | a :: L, h, hi => by
    rw [List.nodup_cons] at h
    rw [List.map_cons, List.nodup_cons]
    refine ⟨fun m => ?_, nd_map_on h.2 fun x hx y hy => hi x (by simp [hx]) y (by simp [hy])⟩
    obtain ⟨y, hy, e⟩ := List.mem_map.mp m
    have := hi y (by simp [hy]) a (by simp) e
    subst this
    exact h.1 hy
theorem nd_of_map {α β : Type} {f : α → β} : ∀ {L : List α}, (L.map f).Nodup → L.Nodup
  | [], _ => by simp
  | a :: L, h => by
    rw [List.map_cons, List.nodup_cons] at h
    rw [List.nodup_cons]
    exact ⟨fun m => h.1 (List.mem_map.mpr ⟨a, m, rfl⟩), nd_of_map h.2⟩
/-- a list of keys, none twice, out of keys whose hashes differ -/
theorem hash_ok {ds : List (PyData × PyData)} (K : List NestedKey) (f : NestedKey → Int) (hf : ∀ (w : World) k, k ∈ K → k.hash w = f k) (hK : (K.map f).Nodup) (hn : (ds.map (·.1)).Nodup) (hm : ∀ p ∈ ds, ∃ k ∈ K, p.1 = k.data) : HashOk ds := by
  intro w ks e
  have hk : ∀ k ∈ ks, k ∈ K := fun k hk => by
    have : k.data ∈ ds.map (·.1) := by rw [e]; exact List.mem_map.mpr ⟨k, hk, rfl⟩
    obtain ⟨p, hp, ep⟩ := List.mem_map.mp this
    obtain ⟨k', h1, h2⟩ := hm p hp
    rw [← nk_inj k' k (h2.symm.trans ep)]
    exact h1
  have nk : ks.Nodup := by
    rw [e] at hn
    exact nd_of_map hn
  refine nd_map_on nk fun x hx y hy exy => ?_
  rw [hf w x (hk x hx), hf w y (hk y hy)] at exy
  exact inj_of_nodup hK x (hk x hx) y (hk y hy) exy
/-- a small mark -/
def SmallM (m : List Int) : Prop := ∃ m' ∈ marksN, m = m'.map fun a => ((a : Nat) : Int)
theorem datas_nums : ∀ m : List Nat, NestedKey.datas (m.map fun a => .num ((a : Nat) : Int)) = (m.map fun a => ((a : Nat) : Int)).map .int
  | [] => by simp [NestedKey.datas]
  | a :: m => by simp only [List.map_cons, NestedKey.datas, NestedKey.data, datas_nums m]
theorem data_nkM (m : List Nat) : (nkM m).data = tupI (m.map fun a => ((a : Nat) : Int)) := by
  unfold nkM
  rw [NestedKey.data, datas_nums]
theorem data_nkP (n : Nat) (m : List Nat) : (nkP n m).data = .tuple [.int ((n : Nat) : Int), tupI (m.map fun a => ((a : Nat) : Int))] := by
  unfold nkP
  simp only [NestedKey.data, NestedKey.datas, data_nkM]
def fM : NestedKey → Int
  | .tup ks => hT (ks.map fun k => match k with | .num i => hashInt i | _ => 0)
  | _ => 0
def fP : NestedKey → Int
  | .tup [.num n, k] => hT [hashInt n, fM k]
  | _ => 0
theorem fM_nk (m : List Nat) : fM (nkM m) = hM m := by
  show hT (List.map _ (List.map _ m)) = _
  rw [List.map_map]
  rfl
theorem fP_nk (n : Nat) (m : List Nat) : fP (nkP n m) = hT [hI n, hM m] := by
  show hT [hashInt _, fM (nkM m)] = _
  rw [fM_nk]
  rfl
theorem map_three {α β γ δ : Type} {f : α → β} {g : β → γ} {h : γ → δ} {k : α → δ} (e : ∀ p, k p = h (g (f p))) : ∀ L : List α, L.map k = ((L.map f).map g).map h
  | [] => rfl
  | p :: L => by simp only [List.map_cons, e p, map_three e L]
theorem hash_marksL {ds : List (PyData × PyData)} (L : List (List Nat)) (hL : Tr.all .lf (L.map fun m => hNat (hM m)) = true) (hn : (ds.map (·.1)).Nodup) (hm : ∀ p ∈ ds, ∃ m ∈ L, p.1 = (nkM m).data) : HashOk ds := by
  have nd := (Tr.all_ok _ _ hL).1
  refine hash_ok (L.map nkM) fM (fun w k hk => ?_) ?_ hn fun p hp => ?_
  · obtain ⟨m, _, rfl⟩ := List.mem_map.mp hk
    rw [hash_nkM, fM_nk]
  · have e : (L.map fun m => hNat (hM m)) = ((L.map nkM).map fM).map hNat := by
      exact map_three (fun m => congrArg hNat (fM_nk m).symm) L
    rw [e] at nd
    exact nd_of_map nd
  · obtain ⟨m, h1, h2⟩ := hm p hp
    exact ⟨nkM m, List.mem_map.mpr ⟨m, h1, rfl⟩, h2⟩
theorem hash_marks {ds : List (PyData × PyData)} (hn : (ds.map (·.1)).Nodup) (hm : ∀ p ∈ ds, ∃ m, SmallM m ∧ p.1 = tupI m) : HashOk ds :=
  hash_marksL marksN marks_hash hn fun p hp => by
    obtain ⟨m, ⟨m', h1, rfl⟩, h2⟩ := hm p hp
    exact ⟨m', h1, by rw [h2, data_nkM]⟩
/-- a number and a mark -/
abbrev pK (p : Int × List Int) : PyData := .tuple [.int p.1, tupI p.2]
def nkQ (p : Nat × List Nat) : NestedKey := nkP p.1 p.2
theorem hash_nkQ (w : World) (p : Nat × List Nat) : NestedKey.hash w (nkQ p) = hQ p := hash_nkP w p.1 p.2
theorem fP_nkQ (p : Nat × List Nat) : fP (nkQ p) = hQ p := fP_nk p.1 p.2
theorem hash_pairsL {ds : List (PyData × PyData)} (L : List (Nat × List Nat)) (hL : Tr.all .lf (L.map fun p => hNat (hQ p)) = true) (hn : (ds.map (·.1)).Nodup) (hm : ∀ p ∈ ds, ∃ x ∈ L, p.1 = (nkQ x).data) : HashOk ds := by
  have nd := (Tr.all_ok _ _ hL).1
  refine hash_ok (L.map nkQ) fP (fun w k hk => ?_) ?_ hn fun p hp => ?_
  · obtain ⟨p, _, rfl⟩ := List.mem_map.mp hk
    exact (hash_nkQ w p).trans (fP_nkQ p).symm
  · have e : (L.map fun p => hNat (hQ p)) = ((L.map nkQ).map fP).map hNat := by
      exact map_three (fun p => congrArg hNat (fP_nkQ p).symm) L
    rw [e] at nd
    exact nd_of_map nd
  · obtain ⟨x, h1, h2⟩ := hm p hp
    exact ⟨_, List.mem_map.mpr ⟨x, h1, rfl⟩, h2⟩
theorem hash_pairs {ds : List (PyData × PyData)} (hn : (ds.map (·.1)).Nodup) (hm : ∀ p ∈ ds, ∃ (n : Int) (m : List Int), 0 ≤ n ∧ n ≤ 41 ∧ SmallM m ∧ p.1 = pK (n, m)) : HashOk ds :=
  hash_pairsL pairsN pairs_hash hn fun p hp => by
    obtain ⟨n, m, h0, h1, ⟨m', h2, rfl⟩, h3⟩ := hm p hp
    refine ⟨(n.toNat, m'), pairs_mem (by omega) h2, ?_⟩
    exact h3.trans (by unfold nkQ; rw [data_nkP, Int.toNat_of_nonneg h0])
/-! ### keys -/
def nkL (m : List Int) : NestedKey := .tup (m.map .num)
theorem datas_ints : ∀ m : List Int, NestedKey.datas (m.map .num) = m.map .int
  | [] => by simp [NestedKey.datas]
  | a :: m => by simp only [List.map_cons, NestedKey.datas, NestedKey.data, datas_ints m]
theorem depth_nums : ∀ m : List Int, NestedKey.depthAll (m.map .num) = 0
  | [] => by simp [NestedKey.depthAll]
  | a :: m => by simp only [List.map_cons, NestedKey.depthAll, NestedKey.depth, depth_nums m]; rfl
theorem keyD_M (m : List Int) : KeyD (tupI m) := ⟨nkL m, by unfold nkL; rw [NestedKey.data, datas_ints], by unfold nkL; rw [NestedKey.depth, depth_nums]; decide, _, rfl⟩
theorem keyD_P (p : Int × List Int) : KeyD (pK p) := ⟨.tup [.num p.1, nkL p.2], by
  simp only [NestedKey.data, NestedKey.datas, nkL, datas_ints], by
  simp only [nkL, NestedKey.depth, NestedKey.depthAll, depth_nums]; decide, _, rfl⟩
theorem tupI_inj {a b : List Int} (h : tupI a = tupI b) : a = b := by
  have h : a.map PyData.int = b.map PyData.int := by injection h
  exact List.map_inj_right (fun x y e => by injection e) |>.mp h
theorem pK_inj {a b : Int × List Int} (h : pK a = pK b) : a = b := by
  have h : [PyData.int a.1, tupI a.2] = [PyData.int b.1, tupI b.2] := by injection h
  simp only [List.cons.injEq, PyData.int.injEq, and_true] at h
  have h2 := tupI_inj h.2
  exact Prod.ext h.1 h2

/-! ### tables -/
section
variable {κ ν : Type} [DecidableEq κ]
/-- what stands at k; k set to v -/
def lk (t : List (κ × ν)) (k : κ) : Option ν := (t.find? fun p => decide (p.1 = k)).map (·.2)
def pt (t : List (κ × ν)) (k : κ) (v : ν) : List (κ × ν) := if (lk t k).isSome = true then t.map fun p => if p.1 = k then (p.1, v) else p else t ++ [(k, v)]
abbrev tb (enc : κ → PyData) (val : ν → PyData) (t : List (κ × ν)) : List (PyData × PyData) := t.map fun p => (enc p.1, val p.2)
theorem lk_nil (k : κ) : lk ([] : List (κ × ν)) k = none := rfl
theorem lk_cons (p : κ × ν) (t : List (κ × ν)) (k : κ) : lk (p :: t) k = if p.1 = k then some p.2 else lk t k := by
  unfold lk
  rw [List.find?_cons]
  by_cases h : p.1 = k <;> simp [h]
theorem look_tb {enc : κ → PyData} {val : ν → PyData} (hi : ∀ a b, enc a = enc b → a = b) (k : κ) : ∀ t : List (κ × ν), Look (tb enc val t) (enc k) = (lk t k).map val
  | [] => rfl
  | p :: t => by
    show Look ((enc p.1, val p.2) :: tb enc val t) _ = _
    rw [look_cons, lk_cons, look_tb hi k t]
    by_cases h : p.1 = k
    · rw [if_pos h, if_pos (by rw [h])]; rfl
    · rw [if_neg h, if_neg fun e => h (hi _ _ e)]
theorem put_tb {enc : κ → PyData} {val : ν → PyData} (hi : ∀ a b, enc a = enc b → a = b) (k : κ) (v : ν) (t : List (κ × ν)) : Put (tb enc val t) (enc k) (val v) = tb enc val (pt t k v) := by
  unfold Put pt
  rw [look_tb hi, Option.isSome_map]
  by_cases h : (lk t k).isSome = true
  · rw [if_pos h, if_pos h]
    show List.map _ (List.map _ t) = List.map _ (List.map _ t)
    rw [List.map_map, List.map_map]
    refine List.map_congr_left fun p _ => ?_
    by_cases e : p.1 = k
    · simp [e]
    · have e' : ¬ enc p.1 = enc k := fun z => e (hi _ _ z)
      simp [e, e']
  · rw [if_neg h, if_neg h]
    show _ = List.map _ (t ++ _)
    rw [List.map_append]
    rfl
theorem lk_map (k j : κ) (v : ν) : ∀ t : List (κ × ν), lk (t.map fun p => if p.1 = k then (p.1, v) else p) j = if k = j ∧ (lk t k).isSome = true then some v else lk t j
  | [] => by simp [lk_nil]
  | p :: t => by
    rw [List.map_cons, lk_cons, lk_map k j v t, lk_cons, lk_cons]
    by_cases h1 : p.1 = k <;> by_cases h2 : p.1 = j
    · have : k = j := h1.symm.trans h2
      subst this
      simp [h1]
    · have : ¬ k = j := fun e => h2 (h1.trans e)
      simp [h1, this]
    · have : ¬ k = j := fun e => h1 (h2.trans e.symm)
      rw [if_neg h1, if_pos h2, if_pos h2]
      simp [this]
    · simp [h1, h2]
theorem lk_snoc (k j : κ) (v : ν) : ∀ t : List (κ × ν), lk t k = none → lk (t ++ [(k, v)]) j = if k = j then some v else lk t j
  | [], _ => by rw [List.nil_append, lk_cons]
  | p :: t, h => by
    rw [lk_cons] at h
    by_cases h1 : p.1 = k
    · rw [if_pos h1] at h; cases h
    · rw [if_neg h1] at h
      rw [List.cons_append, lk_cons, lk_snoc k j v t h, lk_cons]
      by_cases h2 : p.1 = j
      · have : ¬ k = j := fun e => h1 (h2.trans e.symm)
        simp [h2, this]
      · simp [h2]
theorem lk_pt (t : List (κ × ν)) (k j : κ) (v : ν) : lk (pt t k v) j = if k = j then some v else lk t j := by
  unfold pt
  by_cases h : (lk t k).isSome = true
  · rw [if_pos h, lk_map]
    by_cases e : k = j
    · subst e; simp [h]
    · simp [e]
  · rw [if_neg h]
    exact lk_snoc k j v t (by simpa using h)
theorem lk_mem (k : κ) : ∀ t : List (κ × ν), (lk t k).isSome = true ↔ k ∈ t.map (·.1)
  | [] => by simp [lk_nil]
  | p :: t => by
    rw [lk_cons, List.map_cons, List.mem_cons, ← lk_mem k t]
    by_cases h : p.1 = k
    · simp [h]
    · have : ¬ k = p.1 := fun e => h e.symm
      simp [h, this]
theorem lk_none (k : κ) (t : List (κ × ν)) : lk t k = none ↔ k ∉ t.map (·.1) := by
  rw [← lk_mem k t]
  cases lk t k <;> simp
theorem pt_keys (t : List (κ × ν)) (k : κ) (v : ν) : (pt t k v).map (·.1) = if k ∈ t.map (·.1) then t.map (·.1) else t.map (·.1) ++ [k] := by
  unfold pt
  by_cases h : (lk t k).isSome = true
  · rw [if_pos h, if_pos ((lk_mem k t).mp h), List.map_map]
    refine List.map_congr_left fun p _ => ?_
    by_cases e : p.1 = k <;> simp [e]
  · rw [if_neg h, if_neg fun z => h ((lk_mem k t).mpr z)]
    simp
theorem pt_nodup {t : List (κ × ν)} {k : κ} {v : ν} (h : (t.map (·.1)).Nodup) : ((pt t k v).map (·.1)).Nodup := by
  rw [pt_keys]
  split
  · exact h
  · rename_i hk
    rw [List.nodup_append]
    exact ⟨h, by simp, fun a ha b hb e => by simp at hb; subst hb; subst e; exact hk ha⟩
theorem pt_mem {t : List (κ × ν)} {k j : κ} {v : ν} : j ∈ (pt t k v).map (·.1) ↔ j = k ∨ j ∈ t.map (·.1) := by
  rw [pt_keys]
  split
  · rename_i hk
    exact ⟨fun h => .inr h, fun h => h.elim (fun e => e ▸ hk) id⟩
  · simp [or_comm]
theorem pt_len (t : List (κ × ν)) (k : κ) (v : ν) : (pt t k v).length ≤ t.length + 1 := by
  unfold pt
  split <;> simp
theorem lk_of_mem {t : List (κ × ν)} (h : (t.map (·.1)).Nodup) {k : κ} {v : ν} (hm : (k, v) ∈ t) : lk t k = some v := by
  induction t with
  | nil => simp at hm
  | cons p t ih =>
    rw [List.map_cons, List.nodup_cons] at h
    rw [lk_cons]
    rcases List.mem_cons.mp hm with rfl | hm
    · simp
    · rw [if_neg fun e => h.1 (List.mem_map.mpr ⟨_, hm, e.symm⟩)]
      exact ih h.2 hm
theorem mem_of_lk {t : List (κ × ν)} {k : κ} {v : ν} (h : lk t k = some v) : (k, v) ∈ t := by
  induction t with
  | nil => rw [lk_nil] at h; cases h
  | cons p t ih =>
    rw [lk_cons] at h
    by_cases e : p.1 = k
    · rw [if_pos e] at h
      cases h
      simp [← e]
    · rw [if_neg e] at h
      exact List.mem_cons_of_mem _ (ih h)
theorem tb_keys (enc : κ → PyData) (val : ν → PyData) (t : List (κ × ν)) : (tb enc val t).map (·.1) = (t.map (·.1)).map enc := by rw [List.map_map, List.map_map]; rfl
theorem tb_nodup {enc : κ → PyData} {val : ν → PyData} (hi : ∀ a b, enc a = enc b → a = b) {t : List (κ × ν)} (h : (t.map (·.1)).Nodup) : ((tb enc val t).map (·.1)).Nodup := by
  rw [tb_keys]
  exact nd_map_on h fun a _ b _ e => hi a b e
end
end VV

/-! V31: dials, marks as a group -/
namespace VV
open PySem PySem.Spec L2
open PyProof.Rows hiding St

/-- an abelian group -/
class Gr (α : Type) extends Add α, Zero α, Neg α where
  comm : ∀ a b : α, a + b = b + a
  assoc : ∀ a b c : α, a + b + c = a + (b + c)
  zadd : ∀ a : α, 0 + a = a
  nadd : ∀ a : α, -a + a = 0
namespace Gr
variable {α : Type} [Gr α]
theorem addz (a : α) : a + 0 = a := by rw [comm, zadd]
theorem addn (a : α) : a + -a = 0 := by rw [comm, nadd]
theorem cancel {a b c : α} (h : a + c = b + c) : a = b := by
  have := congrArg (· + -c) h
  simp only [assoc, addn, addz] at this
  exact this
theorem canceln (a b : α) : a + -b + b = a := by rw [assoc, nadd, addz]
theorem cancelp (a b : α) : a + b + -b = a := by rw [assoc, addn, addz]
theorem sub_iff {a b c : α} : a + -b = c ↔ a = c + b := ⟨fun h => by rw [← h, canceln], fun h => by rw [h, cancelp]⟩
theorem neg_of {a b : α} (h : a + b = 0) : a = -b := by
  have : a + b = -b + b := by rw [h, nadd]
  exact cancel this
theorem nneg (a : α) : -(-a) = a := (neg_of (addn a)).symm
theorem nzero : -(0 : α) = 0 := (neg_of (zadd 0)).symm
theorem neg_addd (a b : α) : -(a + b) = -a + -b := (neg_of (by
  rw [assoc, comm (-b), ← assoc (-a), ← assoc, comm (-a + a + b)]
  rw [nadd, zadd, nadd]
  )).symm
theorem swap (a b c : α) : a + b + c = a + c + b := by rw [assoc, comm b, ← assoc]
end Gr

/-- each size divides the last one -/
def DivD (d : List Int) : Prop := ∀ s ∈ d, s ∣ d.getLastD 1
structure Dial (d : List Int) : Prop where
  good : Good d
  div : DivD d
  small : prodM d ≤ 40
abbrev DialT := { d : List Int // Dial d }
def Mk (d : DialT) := { m : List Int // MarkOf d.1 m }
instance (d : DialT) : DecidableEq (Mk d) := inferInstanceAs (DecidableEq { m : List Int // MarkOf d.1 m })
theorem zero_addM {d a : List Int} (ha : MarkOf d a) : addM d (zeroM d) a = a := by
  induction ha with
  | nil => rfl
  | cons h1 h2 _ ih => rw [zeroM_cons, addM_cons, ih, Int.zero_add, Int.emod_eq_of_lt h1 h2]
instance (d : DialT) : Gr (Mk d) where
  add a b := ⟨addM d.1 a.1 b.1, addM_mark a.2 b.2⟩
  zero := ⟨zeroM d.1, zero_mark d.2.good.pos⟩
  neg a := ⟨timesM d.1 (-1) a.1, timesM_mark _ a.2⟩
  comm a b := Subtype.ext (addM_comm a.2 b.2)
  assoc a b c := Subtype.ext (addM_assoc a.2 b.2 c.2)
  zadd a := Subtype.ext (zero_addM a.2)
  nadd a := Subtype.ext ((addM_comm (timesM_mark _ a.2) a.2).trans (add_back a.2))
def encM {d : DialT} (m : Mk d) : PyData := tupI m.1
theorem encM_inj {d : DialT} {a b : Mk d} (h : encM a = encM b) : a = b := Subtype.ext (tupI_inj h)
def encP {d : DialT} (p : Nat × Mk d) : PyData := pK (((p.1 : Nat) : Int), p.2.1)
theorem encP_inj {d : DialT} {a b : Nat × Mk d} (h : encP a = encP b) : a = b := by
  have := pK_inj h
  simp only [Prod.mk.injEq, Int.ofNat_inj] at this
  exact Prod.ext (by omega) (Subtype.ext this.2)
theorem keyM {d : DialT} (m : Mk d) : KeyD (encM m) := keyD_M m.1
theorem keyP {d : DialT} (p : Nat × Mk d) : KeyD (encP p) := keyD_P _
theorem sol_encM {d : DialT} (m : Mk d) : Sol (encM m) := sol_tupI _
theorem sols_encM {d : DialT} : ∀ h : List (Mk d), Sols (h.map encM)
  | [] => trivial
  | m :: h => ⟨sol_encM m, sols_encM h⟩
theorem dok_encM {d : DialT} (n : Nat) (m : Mk d) : Dok (n + 1) (encM m) := dok_tupI n _
theorem dok_heap {d : DialT} (n : Nat) (h : List (Mk d)) : Dok (n + 2) (.list (h.map encM)) := fun x hx => by
  obtain ⟨m, _, rfl⟩ := List.mem_map.mp hx
  exact dok_encM n m
theorem eqv_encM {d : DialT} (a b : Mk d) : PyData.eqv (encM a) (encM b) = decide (a = b) := by
  show PyData.eqv (tupI a.1) (tupI b.1) = _
  rw [eqv_tupI]
  by_cases h : a = b
  · subst h; simp
  · have : ¬ a.1 = b.1 := fun e => h (Subtype.ext e)
    simp [h, this]
theorem map_encM {d : DialT} (h : List (Mk d)) : (h.map (·.1)).map tupI = h.map encM := by rw [List.map_map]; rfl
theorem eqv_heap {d : DialT} (a b : List (Mk d)) : PyData.eqv (.list (a.map encM)) (.list (b.map encM)) = decide (a = b) := by
  rw [← map_encM, ← map_encM]
  refine (eqv_lstT _ _).trans ?_
  by_cases h : a = b
  · subst h; simp
  · have : ¬ a.map (·.1) = b.map (·.1) := fun e => h ((List.map_inj_right fun x y => Subtype.ext).mp e)
    simp [h, this]
theorem shr_encM {d : DialT} (h : List (Mk d)) : (h.map encM).map Ent.shr = h.map fun m => .shr (encM m) := by rw [List.map_map]; rfl
theorem markOf1 {s : Int} {m : List Int} (h : MarkOf [s] m) : ∃ p, m = [p] ∧ 0 ≤ p ∧ p < s := by
  cases h with
  | cons a b h => cases h; exact ⟨_, rfl, a, b⟩
theorem markOf2 {s t : Int} {m : List Int} (h : MarkOf [s, t] m) : ∃ p q, m = [p, q] ∧ 0 ≤ p ∧ p < s ∧ 0 ≤ q ∧ q < t := by
  cases h with
  | cons a b h => cases h with | cons a' b' h => cases h; exact ⟨_, _, rfl, a, b, a', b'⟩
/-- marks are small -/
theorem small_mark {d : DialT} (m : Mk d) : SmallM m.1 := by
  obtain ⟨d, hd⟩ := d
  obtain ⟨m, hm⟩ := m
  obtain ⟨⟨h0, h1, h2⟩, h3, h4⟩ := hd
  match d, h0, h1, h2, h3, h4, hm with
  | [], h0, _, _, _, _, _ => exact absurd rfl h0
  | [s], _, _, h2, _, _, hm =>
    obtain ⟨p, rfl, a, b⟩ := markOf1 hm
    have := h2 s (by simp)
    refine ⟨[p.toNat], List.mem_append_left _ (List.mem_map.mpr ⟨p.toNat, List.mem_range.mpr (by omega), rfl⟩), by simp; omega⟩
  | [s, t], _, _, h2, h3, h4, hm =>
        obtain ⟨p, q, rfl, a, b, a', b'⟩ := markOf2 hm
        have hs := h2 s (by simp)
        have ht := h2 t (by simp)
        obtain ⟨k, hk⟩ : s ∣ t := h3 s (by simp)
        have hp : s * t ≤ 40 := by simpa [prodM] using h4
        have hk1 : 1 ≤ k := by
          rcases Int.lt_trichotomy k 0 with h | h | h
          · have : s * k < 0 := Int.mul_neg_of_pos_of_neg (by omega) h
            omega
          · subst h; simp at hk; omega
          · omega
        have hst : s ≤ t := by
          have := Int.mul_le_mul_of_nonneg_left hk1 (show 0 ≤ s by omega)
          omega
        have hs6 : s ≤ 6 := by
          rcases Int.lt_or_le 6 s with h | h
          · have : 7 * 7 ≤ s * t := Int.mul_le_mul (by omega) (by omega) (by decide) (by omega)
            omega
          · exact h
        refine ⟨[p.toNat, q.toNat], ?_, by simp; omega⟩
        refine List.mem_append_right _ ?_
        have key : ∀ x : Nat × Nat, x ∈ bT → p.toNat = x.1 → q.toNat < x.2 → [p.toNat, q.toNat] ∈ bT.flatMap fun p => (List.range p.2).map fun b => [p.1, b] := fun x hx e1 e2 =>
          List.mem_flatMap.mpr ⟨x, hx, List.mem_map.mpr ⟨q.toNat, List.mem_range.mpr e2, by rw [e1]⟩⟩
        have cs : s = 2 ∨ s = 3 ∨ s = 4 ∨ s = 5 ∨ s = 6 := by omega
        have cp : p = 0 ∨ p = 1 ∨ p = 2 ∨ p = 3 ∨ p = 4 ∨ p = 5 := by omega
        have tb : (s = 2 → t ≤ 20) ∧ (s = 3 → t ≤ 12) ∧ (s = 4 → t ≤ 8) ∧ (s = 5 → t ≤ 5) ∧ (s = 6 → t ≤ 6) := by
          refine ⟨?_, ?_, ?_, ?_, ?_⟩ <;> (intro e; subst e; omega)
        rcases cp with e | e | e | e | e | e
        · exact key (0, 20) (by simp [bT]) (by omega) (by show q.toNat < 20; omega)
        · exact key (1, 20) (by simp [bT]) (by omega) (by show q.toNat < 20; omega)
        · exact key (2, 12) (by simp [bT]) (by omega) (by show q.toNat < 12; omega)
        · exact key (3, 8) (by simp [bT]) (by omega) (by show q.toNat < 8; omega)
        · exact key (4, 6) (by simp [bT]) (by omega) (by show q.toNat < 6; omega)
        · exact key (5, 6) (by simp [bT]) (by omega) (by show q.toNat < 6; omega)
  | _ :: _ :: _ :: _, _, h1, _, _, _, _ => simp at h1
theorem hash_tbM {d : DialT} {ν : Type} {val : ν → PyData} {t : List (Mk d × ν)} (h : (t.map (·.1)).Nodup) : HashOk (tb encM val t) :=
  hash_marks (tb_nodup (fun _ _ => encM_inj) h) fun p hp => by
    obtain ⟨x, _, rfl⟩ := List.mem_map.mp hp
    exact ⟨x.1.1, small_mark x.1, rfl⟩
theorem hash_tbP {d : DialT} {ν : Type} {val : ν → PyData} {t : List ((Nat × Mk d) × ν)} (h : (t.map (·.1)).Nodup) (hb : ∀ p ∈ t, p.1.1 ≤ 41) : HashOk (tb encP val t) :=
  hash_pairs (tb_nodup (fun _ _ => encP_inj) h) fun p hp => by
    obtain ⟨x, hx, rfl⟩ := List.mem_map.mp hp
    exact ⟨_, x.1.2.1, by omega, by have := hb x hx; omega, small_mark x.1.2, rfl⟩
theorem nz_mark {d : DialT} (m : Mk d) : m.1 ≠ [] := fun e => by
  have := m.2.len
  rw [e] at this
  have := d.2.good.len
  simp at *
  omega
theorem len_mark {d : DialT} (m : Mk d) : m.1.length ≤ 2 := by have := m.2.len; have := d.2.good.len; omega
theorem small_ints {d : DialT} (m : Mk d) : ∀ x ∈ m.1, x.natAbs < 2 ^ 200 := m.2.small fun s h => (d.2.good.2.2 s h).2
end VV

/-! V32: how many parts of a heap come to a mark; tables filled key by key -/
namespace VV
open PySem PySem.Spec L2
open PyProof.Rows hiding St

/-! ### tables filled -/
section
variable {κ ν : Type} [DecidableEq κ]
def foldG (g : κ → κ) (F : Option ν → κ → ν) (t : List (κ × ν)) (ks : List κ) : List (κ × ν) := ks.foldl (fun here k => pt here (g k) (F (lk here (g k)) k)) t
theorem foldG_snoc (g : κ → κ) (F : Option ν → κ → ν) (t : List (κ × ν)) (ks : List κ) (k : κ) : foldG g F t (ks ++ [k]) = pt (foldG g F t ks) (g k) (F (lk (foldG g F t ks) (g k)) k) := by simp [foldG]
theorem foldG_other (g : κ → κ) (F : Option ν → κ → ν) (j : κ) : ∀ (ks : List κ) (t : List (κ × ν)), (∀ k ∈ ks, g k ≠ j) → lk (foldG g F t ks) j = lk t j
  | [], _, _ => rfl
  | k :: ks, t, h => by
    show lk (foldG g F (pt t (g k) _) ks) j = _
    rw [foldG_other g F j ks _ fun x hx => h x (by simp [hx]), lk_pt, if_neg (h k (by simp))]
theorem foldG_at (g : κ → κ) (F : Option ν → κ → ν) : ∀ (ks : List κ) (t : List (κ × ν)), ks.Nodup → (∀ a ∈ ks, ∀ b ∈ ks, g a = g b → a = b) → ∀ k ∈ ks, lk (foldG g F t ks) (g k) = some (F (lk t (g k)) k)
  | [], _, _, _, k, hk => by simp at hk
  | x :: ks, t, hn, hi, k, hk => by
    rw [List.nodup_cons] at hn
    show lk (foldG g F (pt t (g x) _) ks) (g k) = _
    rcases List.mem_cons.mp hk with rfl | hk
    · rw [foldG_other g F (g k) ks _ fun y hy e => hn.1 (hi y (by simp [hy]) k (by simp) e ▸ hy), lk_pt, if_pos rfl]
    · rw [foldG_at g F ks _ hn.2 (fun a ha b hb => hi a (by simp [ha]) b (by simp [hb])) k hk, lk_pt, if_neg fun e => hn.1 (hi x (by simp) k (by simp [hk]) e ▸ hk)]
theorem foldG_keys (g : κ → κ) (F : Option ν → κ → ν) (j : κ) : ∀ (ks : List κ) (t : List (κ × ν)), j ∈ (foldG g F t ks).map (·.1) ↔ j ∈ t.map (·.1) ∨ ∃ k ∈ ks, g k = j
  | [], t => by simp [foldG]
  | k :: ks, t => by
    show j ∈ (foldG g F (pt t (g k) _) ks).map (·.1) ↔ _
    rw [foldG_keys g F j ks, pt_mem]
    constructor
    · rintro ((rfl | h) | ⟨x, hx, e⟩)
      · exact .inr ⟨k, by simp, rfl⟩
      · exact .inl h
      · exact .inr ⟨x, by simp [hx], e⟩
    · rintro (h | ⟨x, hx, e⟩)
      · exact .inl (.inr h)
      · rcases List.mem_cons.mp hx with rfl | hx
        · exact .inl (.inl e.symm)
        · exact .inr ⟨x, hx, e⟩
theorem foldG_nodup (g : κ → κ) (F : Option ν → κ → ν) : ∀ (ks : List κ) (t : List (κ × ν)), (t.map (·.1)).Nodup → ((foldG g F t ks).map (·.1)).Nodup
  | [], _, h => h
  | k :: ks, t, h => foldG_nodup g F ks _ (pt_nodup h)
end
/-- none twice, all out of L: no more than L -/
theorem nodup_len {α : Type} [DecidableEq α] : ∀ {l L : List α}, l.Nodup → (∀ x ∈ l, x ∈ L) → l.length ≤ L.length
  | [], _, _, _ => Nat.zero_le _
  | x :: l, L, h, hm => by
    rw [List.nodup_cons] at h
    have hx := hm x (by simp)
    have := nodup_len (l := l) (L := L.erase x) h.2 fun y hy => (List.mem_erase_of_ne fun e => h.1 (by rw [← e]; exact hy)).mpr (hm y (by simp [hy]))
    rw [List.length_erase_of_mem hx] at this
    have hp : 0 < L.length := List.length_pos_of_mem hx
    simp only [List.length_cons]
    omega
theorem len_tbM {d : DialT} {ν : Type} {t : List (Mk d × ν)} (h : (t.map (·.1)).Nodup) : t.length ≤ 200 := by
  have h1 : (t.map (·.1)).map (·.1) |>.Nodup := nd_map_on h fun a _ b _ e => Subtype.ext e
  have := nodup_len (L := marksN.map fun m => m.map fun a => ((a : Nat) : Int)) h1 fun x hx => by
    obtain ⟨m, _, rfl⟩ := List.mem_map.mp hx
    obtain ⟨m', h2, e⟩ := small_mark m
    exact List.mem_map.mpr ⟨m', h2, e.symm⟩
  have e : marksN.length ≤ 200 := by decide +kernel
  simp only [List.length_map] at this
  omega
theorem len_tbP {d : DialT} {ν : Type} {t : List ((Nat × Mk d) × ν)} (h : (t.map (·.1)).Nodup) (hb : ∀ p ∈ t, p.1.1 ≤ 41) : t.length ≤ 10000 := by
  have h1 : ((t.map (·.1)).map fun p => (p.1, p.2.1)).Nodup := nd_map_on h fun a _ b _ e => by
    simp only [Prod.mk.injEq] at e
    exact Prod.ext e.1 (Subtype.ext e.2)
  have := nodup_len (L := pairsN.map fun p => (p.1, p.2.map fun a => ((a : Nat) : Int))) h1 fun x hx => by
    obtain ⟨m, hm, rfl⟩ := List.mem_map.mp hx
    obtain ⟨p, hp, rfl⟩ := List.mem_map.mp hm
    obtain ⟨m', h2, e⟩ := small_mark p.1.2
    exact List.mem_map.mpr ⟨(p.1.1, m'), pairs_mem (by have := hb p hp; omega) h2, by simp [e]⟩
  have e : pairsN.length ≤ 10000 := by decide +kernel
  simp only [List.length_map] at this
  omega

theorem rev_ind {α : Type} {P : List α → Prop} (h0 : P []) (hs : ∀ l x, P l → P (l ++ [x])) (l : List α) : P l := by
  have : ∀ r : List α, P r.reverse := fun r => by
    induction r with
    | nil => exact h0
    | cons x r ih => rw [List.reverse_cons]; exact hs _ _ ih
  have h := this l.reverse
  rwa [List.reverse_reverse] at h

/-! ### parts counted -/
section
variable {α : Type} [Gr α] [DecidableEq α]
/-- how many parts of k things of h come to m -/
def W : List α → Nat → α → Nat
  | [], k, m => if k = 0 ∧ m = 0 then 1 else 0
  | _ :: h, 0, m => W h 0 m
  | x :: h, k + 1, m => W h (k + 1) m + W h k (m + -x)
theorem W_zero : ∀ (h : List α) (m : α), W h 0 m = if m = 0 then 1 else 0
  | [], m => by simp [W]
  | x :: h, m => by rw [W, W_zero h m]
theorem W_big : ∀ (h : List α) (k : Nat) (m : α), h.length < k → W h k m = 0
  | [], k, m, hk => by simp at hk; unfold W; rw [if_neg (by omega)]
  | x :: h, 0, m, hk => by simp at hk
  | x :: h, k + 1, m, hk => by
    simp only [List.length_cons] at hk
    rw [W, W_big h (k + 1) m (by omega), W_big h k _ (by omega)]
theorem W_snoc (x : α) : ∀ (h : List α) (k : Nat) (m : α), W (h ++ [x]) (k + 1) m = W h (k + 1) m + W h k (m + -x)
  | [], k, m => by simp [W]
  | y :: h, 0, m => by
    have e := W_snoc x h 0 m
    rw [Nat.zero_add] at e
    show W (h ++ [x]) 1 m + W (h ++ [x]) 0 (m + -y) = (W h 1 m + W h 0 (m + -y)) + W (y :: h) 0 (m + -x)
    rw [e, W_zero, W_zero, W_zero, W_zero]
    omega
  | y :: h, k + 1, m => by
    rw [List.cons_append, W, W_snoc x h (k + 1) m, W_snoc x h k, W, W, Gr.swap m (-y)]
    omega
def totG (h : List α) : α := h.foldr (· + ·) 0
theorem W_compl : ∀ (h : List α) (k : Nat) (m : α), k ≤ h.length → W h k m = W h (h.length - k) (totG h + -m)
  | [], k, m, hk => by
    simp only [List.length_nil, Nat.le_zero_eq] at hk
    subst hk
    simp only [W, List.length_nil, totG, List.foldr_nil]
    have : (m = 0) ↔ ((0 : α) + -m = 0) := by
      rw [Gr.zadd]
      exact ⟨fun e => by rw [e, Gr.nzero], fun e => by rw [← Gr.nneg m, e, Gr.nzero]⟩
    simp [this]
  | x :: h, 0, m, _ => by
    have ih := W_compl h 0 m (Nat.zero_le _)
    show W h 0 m = W (x :: h) (h.length + 1) (x + totG h + -m)
    rw [W, W_big h (h.length + 1) _ (by omega), ih, Nat.zero_add, Nat.sub_zero]
    congr 1
    rw [Gr.comm x, Gr.swap, Gr.cancelp]
  | x :: h, k + 1, m, hk => by
    simp only [List.length_cons] at hk
    have e0 : totG (x :: h) = x + totG h := rfl
    have e1 : totG h + -(m + -x) = x + totG h + -m := by rw [Gr.neg_addd, Gr.nneg, ← Gr.assoc, Gr.comm x, Gr.swap]
    have e2 : x + totG h + -m + -x = totG h + -m := by rw [Gr.comm x, Gr.swap, Gr.cancelp]
    rw [W, W_compl h k _ (by omega), e0, e1, List.length_cons, Nat.add_sub_add_right]
    by_cases hk2 : k = h.length
    · subst hk2
      rw [Nat.sub_self, W_big h (h.length + 1) m (by omega), Nat.zero_add, W]
    · obtain ⟨j, hj⟩ : ∃ j, h.length - k = j + 1 := ⟨h.length - k - 1, by omega⟩
      rw [hj, W_compl h (k + 1) m (by omega), W, e2, show h.length - (k + 1) = j by omega]
      omega
theorem W_cons_pos {x : α} {h : List α} {k : Nat} {m : α} : 0 < W (x :: h) k m ↔ 0 < W h k m ∨ ∃ j, k = j + 1 ∧ 0 < W h j (m + -x) := by
  cases k with
  | zero => rw [W]; simp
  | succ j =>
    rw [W]
    constructor
    · intro hp
      by_cases h1 : 0 < W h (j + 1) m
      · exact .inl h1
      · exact .inr ⟨j, rfl, by omega⟩
    · rintro (hp | ⟨i, e, hp⟩)
      · omega
      · have : i = j := by omega
        subst this
        omega

/-! ### the first part of so many things -/
def pick : List α → Nat → Nat → α → List Nat
  | [], _, _, _ => []
  | x :: h, i, n, m => if 0 < n ∧ 0 < W h (n - 1) (m + -x) then i :: pick h (i + 1) (n - 1) (m + -x) else pick h (i + 1) n m
/-- a part of the heap whose things have the numbers from i on -/
inductive Part : List α → Nat → List Nat → Nat → α → Prop
  | nil {i} : Part [] i [] 0 0
  | skip {x h i ks n m} : Part h (i + 1) ks n m → Part (x :: h) i ks n m
  | take {x h i ks n m} : Part h (i + 1) ks n (m + -x) → Part (x :: h) i (i :: ks) (n + 1) m
theorem pick_part : ∀ (h : List α) (i n : Nat) (m : α), 0 < W h n m → Part h i (pick h i n m) n m
  | [], i, n, m, hp => by
    unfold W at hp
    split at hp
    · rename_i e
      obtain ⟨rfl, rfl⟩ := e
      exact .nil
    · omega
  | x :: h, i, n, m, hp => by
    unfold pick
    split
    · rename_i hc
      obtain ⟨j, rfl⟩ : ∃ j, n = j + 1 := ⟨n - 1, by omega⟩
      exact .take (pick_part h (i + 1) j _ hc.2)
    · rename_i hc
      refine .skip (pick_part h (i + 1) n m ?_)
      rcases W_cons_pos.mp hp with h1 | ⟨j, rfl, h1⟩
      · exact h1
      · exact absurd ⟨by omega, h1⟩ hc
theorem Part.pos {h : List α} {i : Nat} {ks : List Nat} {n : Nat} {m : α} (p : Part h i ks n m) : 0 < W h n m := by
  induction p with
  | nil => simp [W]
  | skip _ ih => exact W_cons_pos.mpr (.inl ih)
  | take _ ih => exact W_cons_pos.mpr (.inr ⟨_, rfl, ih⟩)
theorem Part.len {h : List α} {i : Nat} {ks : List Nat} {n : Nat} {m : α} (p : Part h i ks n m) : ks.length = n := by
  induction p with
  | nil => rfl
  | skip _ ih => exact ih
  | take _ ih => simp [ih]
theorem Part.ge {h : List α} {i : Nat} {ks : List Nat} {n : Nat} {m : α} (p : Part h i ks n m) : ∀ k ∈ ks, i ≤ k ∧ k < i + h.length := by
  induction p with
  | nil => simp
  | skip _ ih => intro k hk; have := ih k hk; simp only [List.length_cons]; omega
  | take _ ih =>
    intro k hk
    simp only [List.length_cons]
    rcases List.mem_cons.mp hk with rfl | hk
    · omega
    · have := ih k hk; omega
theorem Part.rise {h : List α} {i : Nat} {ks : List Nat} {n : Nat} {m : α} (p : Part h i ks n m) : ks.Pairwise (· < ·) := by
  induction p with
  | nil => exact .nil
  | skip _ ih => exact ih
  | take q ih => exact .cons (fun k hk => by have := q.ge k hk; omega) ih
theorem Part.nle {h : List α} {i : Nat} {ks : List Nat} {n : Nat} {m : α} (p : Part h i ks n m) : n ≤ h.length := by
  induction p with
  | nil => exact Nat.le_refl _
  | skip _ ih => simp; omega
  | take _ ih => simp; omega
/-- what a part comes to -/
theorem Part.sum {h : List α} {i : Nat} {ks : List Nat} {n : Nat} {m : α} (p : Part h i ks n m) : totG (ks.map fun k => h.getD (k - i) 0) = m := by
  induction p with
  | nil => rfl
  | @skip x h i ks n m q ih =>
    rw [← ih]
    congr 1
    refine List.map_congr_left fun k hk => ?_
    have := q.ge k hk
    rw [show k - i = (k - (i + 1)) + 1 by omega, List.getD_cons_succ]
  | @take x h i ks n m q ih =>
    rw [List.map_cons, Nat.sub_self, List.getD_cons_zero]
    show x + totG _ = m
    have e : (ks.map fun k => (x :: h).getD (k - i) 0) = ks.map fun k => h.getD (k - (i + 1)) 0 := List.map_congr_left fun k hk => by
      have := q.ge k hk
      rw [show k - i = (k - (i + 1)) + 1 by omega, List.getD_cons_succ]
    rw [e, ih, Gr.comm, Gr.canceln]

/-! ### the tables of the program -/
abbrev gP (x : α) (p : Nat × α) : Nat × α := (p.1 + 1, p.2 + x)
theorem gP_inj (x : α) {a b : Nat × α} (h : gP x a = gP x b) : a = b := by
  simp only [gP, Prod.mk.injEq] at h
  exact Prod.ext (by omega) (Gr.cancel h.2)
/-- by how many things which marks are come to -/
def metT : List α → List ((Nat × α) × Bool)
  | [] => [((0, 0), true)]
  | x :: h => foldG (gP x) (fun _ _ => true) (metT h) ((metT h).map (·.1))
theorem metT_nodup : ∀ h : List α, ((metT h).map (·.1)).Nodup
  | [] => by simp [metT]
  | x :: h => foldG_nodup _ _ _ _ (metT_nodup h)
theorem metT_mem : ∀ (h : List α) (n : Nat) (m : α), (n, m) ∈ (metT h).map (·.1) ↔ 0 < W h n m
  | [], n, m => by
    simp only [metT, List.map_cons, List.map_nil, List.mem_singleton, Prod.mk.injEq, W]
    split
    · rename_i h; exact ⟨fun _ => by omega, fun _ => h⟩
    · rename_i h; exact ⟨fun e => absurd e h, fun e => by omega⟩
  | x :: h, n, m => by
    rw [metT, foldG_keys, metT_mem h, W_cons_pos]
    constructor
    · rintro (h1 | ⟨⟨j, m'⟩, hk, e⟩)
      · exact .inl h1
      · simp only [gP, Prod.mk.injEq] at e
        obtain ⟨rfl, rfl⟩ := e
        exact .inr ⟨j, rfl, by rw [Gr.cancelp]; exact (metT_mem h j m').mp hk⟩
    · rintro (h1 | ⟨j, rfl, h1⟩)
      · exact .inl h1
      · exact .inr ⟨(j, m + -x), (metT_mem h j _).mpr h1, by simp only [gP, Gr.canceln]⟩
theorem metT_le (h : List α) : ∀ p ∈ metT h, p.1.1 ≤ h.length := fun p hp => by
  have := (metT_mem h p.1.1 p.1.2).mp (List.mem_map.mpr ⟨p, hp, rfl⟩)
  rcases Nat.lt_or_ge h.length p.1.1 with hl | hl
  · rw [W_big h _ _ hl] at this; omega
  · exact hl
/-- how many parts come to a mark, by their things: things put behind -/
def cntT (h : List α) : List ((Nat × α) × Nat) := h.foldl (fun t x => foldG (gP x) (fun o k => o.getD 0 + (lk t k).getD 0) t (t.map (·.1))) [((0, 0), 1)]
theorem cntT_snoc (h : List α) (x : α) : cntT (h ++ [x]) = foldG (gP x) (fun o k => o.getD 0 + (lk (cntT h) k).getD 0) (cntT h) ((cntT h).map (·.1)) := by simp [cntT]
theorem cntT_nodup (h : List α) : ((cntT h).map (·.1)).Nodup := by
  induction h using rev_ind with
  | h0 => simp [cntT]
  | hs h x ih => rw [cntT_snoc]; exact foldG_nodup _ _ _ _ ih
theorem cntT_lk (h : List α) : ∀ (n : Nat) (m : α), lk (cntT h) (n, m) = if 0 < W h n m then some (W h n m) else none := by
  induction h using rev_ind with
  | h0 =>
    intro n m
    show lk [((0, 0), 1)] (n, m) = _
    rw [lk_cons, lk_nil]
    unfold W
    by_cases hc : n = 0 ∧ m = 0
    · obtain ⟨rfl, rfl⟩ := hc; simp
    · have hc' : ¬ ((0, (0 : α)) = (n, m)) := fun e => hc (by cases e; exact ⟨rfl, rfl⟩)
      rw [if_neg hc', if_neg hc]
      simp
  | hs h x ih =>
    intro n m
    rw [cntT_snoc]
    have key : ∀ n m, (n, m) ∈ (cntT h).map (·.1) ↔ 0 < W h n m := fun n m => by
      rw [← lk_mem, ih]
      split <;> simp [*]
    have val : ∀ n m, (lk (cntT h) (n, m)).getD 0 = W h n m := fun n m => by
      rw [ih]
      split
      · rfl
      · simp; omega
    cases n with
    | zero =>
      rw [foldG_other _ _ _ _ _ fun k _ e => by simp [gP] at e, ih, W_zero, W_zero]
    | succ n =>
      rw [W_snoc]
      by_cases hc : 0 < W h n (m + -x)
      · have e : (n + 1, m) = gP x (n, m + -x) := by simp only [gP, Gr.canceln]
        rw [e, foldG_at _ _ _ _ (cntT_nodup h) (fun a _ b _ => gP_inj x) _ ((key _ _).mpr hc), ← e, val, val, if_pos (by omega)]
      · rw [foldG_other _ _ _ _ _ fun k hk e => hc ?_, ih]
        · have : W h n (m + -x) = 0 := by omega
          simp only [this, Nat.add_zero]
        · obtain ⟨j, m'⟩ := k
          simp only [gP, Prod.mk.injEq] at e
          obtain ⟨e1, rfl⟩ := e
          have : j = n := by omega
          subst this
          rw [Gr.cancelp]
          exact (key _ _).mp hk
/-- how few things come to a mark -/
def fewT (L : Nat) : List α → List (α × Nat)
  | [] => [(0, 0)]
  | x :: h => foldG (· + x) (fun o k => min (o.getD L) ((lk (fewT L h) k).getD 0 + 1)) (fewT L h) ((fewT L h).map (·.1))
theorem fewT_nodup (L : Nat) : ∀ h : List α, ((fewT L h).map (·.1)).Nodup
  | [] => by simp [fewT]
  | x :: h => foldG_nodup _ _ _ _ (fewT_nodup L h)
/-- n is the least number of things of h that come to m -/
def Least (h : List α) (m : α) (n : Nat) : Prop := 0 < W h n m ∧ ∀ k, k < n → W h k m = 0
theorem W_le {h : List α} {n : Nat} {m : α} (hp : 0 < W h n m) : n ≤ h.length := by
  rcases Nat.lt_or_ge h.length n with hl | hl
  · rw [W_big h _ _ hl] at hp; omega
  · exact hl
theorem fewT_lk (L : Nat) : ∀ (h : List α), h.length ≤ L → ∀ m, (∀ n, lk (fewT L h) m = some n → Least h m n) ∧ (lk (fewT L h) m = none → ∀ k, W h k m = 0)
  | [], _, m => by
    show (∀ n, lk [((0 : α), 0)] m = some n → _) ∧ (lk [((0 : α), 0)] m = none → _)
    rw [lk_cons, lk_nil]
    by_cases e : (0 : α) = m
    · subst e
      refine ⟨fun n hn => ?_, fun hn => by simp at hn⟩
      simp at hn; subst hn
      exact ⟨by simp [W], fun k hk => by omega⟩
    · refine ⟨fun n hn => by simp [e] at hn, fun _ k => ?_⟩
      unfold W
      rw [if_neg fun z => e z.2.symm]
  | x :: h, hL, m => by
    simp only [List.length_cons] at hL
    have ih := fewT_lk L h (by omega)
    have i1 := ih m
    have i2 := ih (m + -x)
    have wx : ∀ k, W (x :: h) (k + 1) m = W h (k + 1) m + W h k (m + -x) := fun k => rfl
    have w0 : W (x :: h) 0 m = W h 0 m := rfl
    show (∀ n, lk (foldG _ _ _ _) m = some n → _) ∧ (lk (foldG _ _ _ _) m = none → _)
    by_cases hc : (m + -x) ∈ (fewT L h).map (·.1)
    · have e : m = (m + -x) + x := by rw [Gr.canceln]
      have := foldG_at (· + x) (fun o k => min (o.getD L) ((lk (fewT L h) k).getD 0 + 1)) _ (fewT L h) (fewT_nodup L h) (fun a _ b _ => Gr.cancel) _ hc
      simp only [← e] at this
      rw [this]
      obtain ⟨b, hb⟩ := Option.isSome_iff_exists.mp ((lk_mem _ _).mpr hc)
      have lb := i2.1 b hb
      have bl := W_le lb.1
      rw [hb]
      refine ⟨fun n hn => ?_, fun hn => by cases hn⟩
      simp only [Option.getD_some, Option.some.injEq] at hn
      cases ha : lk (fewT L h) m with
      | none =>
        rw [ha] at hn
        have z := i1.2 ha
        simp only [Option.getD_none] at hn
        have : n = b + 1 := by omega
        subst this
        refine ⟨by rw [wx]; have := lb.1; omega, fun k hk => ?_⟩
        cases k with
        | zero => rw [w0]; exact z 0
        | succ k => rw [wx, z, lb.2 k (by omega)]
      | some a =>
        rw [ha] at hn
        have la := i1.1 a ha
        simp only [Option.getD_some] at hn
        rcases Nat.lt_or_ge b a with hlt | hge
        · have : n = b + 1 := by omega
          subst this
          refine ⟨by rw [wx]; have := lb.1; omega, fun k hk => ?_⟩
          cases k with
          | zero => rw [w0]; exact la.2 0 (by omega)
          | succ k => rw [wx, la.2 (k + 1) (by omega), lb.2 k (by omega)]
        · have : n = a := by omega
          subst this
          refine ⟨W_cons_pos.mpr (.inl la.1), fun k hk => ?_⟩
          cases k with
          | zero => rw [w0]; exact la.2 0 hk
          | succ k => rw [wx, la.2 (k + 1) hk, lb.2 k (by omega)]
    · rw [foldG_other (· + x) _ m _ _ fun k hk e => hc (by rw [← e]; simp only [Gr.cancelp]; exact hk)]
      have z := i2.2 (by rw [lk_none]; exact hc)
      refine ⟨fun n hn => ?_, fun hn k => ?_⟩
      · have la := i1.1 n hn
        refine ⟨W_cons_pos.mpr (.inl la.1), fun k hk => ?_⟩
        cases k with
        | zero => rw [w0]; exact la.2 0 hk
        | succ k => rw [wx, la.2 (k + 1) hk, z]
      · have z1 := i1.2 hn
        cases k with
        | zero => rw [w0]; exact z1 0
        | succ k => rw [wx, z1, z]
end
end VV

/-! V33: range downwards; marks multiplied; short words -/
namespace VV
open PySem PySem.Spec L2
open PyProof.Rows hiding St
def dwnItems (i j : Int) : List Ent := (List.range (i - j).toNat).map fun n => .shr (.int (i + ((n : Nat) : Int) * (-1)))
def iRg3 (wa : WA) : WI := fun sl Q => wa sl fun rs s1 => match rs with
  | [.e (.shr (.int i)), .e (.shr (.int j)), .e (.shr (.int k))] => k = -1 ∧ okR i ∧ okR j ∧ Q (dwnItems i j) s1
  | _ => False
theorem src_dwn {f : Fr} {G : Hp} {i j : Int} : Src f G (Itc i (-1) (i - j).toNat) (dwnItems i j) := by
  refine ⟨fun _ => True, _, by unfold dwnItems; rw [List.length_map, List.length_range]; exact walk_rangeC, fun _ _ _ _ _ _ _ => trivial, fun n e x H H' G1 T sl σ hi e1 c y => ?_⟩
  obtain ⟨rfl, rfl⟩ := y
  unfold dwnItems at hi
  rw [List.getElem?_map] at hi
  cases hr : (List.range (i - j).toNat)[n]? with
  | none => rw [hr] at hi; cases hi
  | some m =>
    rw [hr] at hi
    cases hi
    obtain ⟨h1, h2⟩ := List.getElem?_eq_some_iff.mp hr
    rw [List.getElem_range] at h2
    subst h2
    exact ⟨G1, Same.refl _, c.core.addShr (.int _), c.wf⟩
section
variable {X : Cx} {tg : Expr}
theorem i_rng3 {a b c : Expr} {wa : WA} {p pos : PySem.Pos} (hg : Gl X "range") (hm : X.mg "range" = none) (ha : PVA X [a, b, c] wa) (hs : starEach [a, b, c] X.env = (false, eval a X.env) :: starEach [b, c] X.env := by rfl) (hpl : (backTo pos (starEach [b, c] X.env)).any (·.1) = false := by rfl) :
    PVI X tg (.Call (.Name "range" p) [a, b, c] [] pos) (iRg3 wa) :=
  PI.imp (pi_range3 hg hm ha hs hpl) fun σ H Rr ⟨U, G0, G, T, sl, Qv, cc, h, k⟩ => ⟨U, G0, G, T, sl, _, cc, h, fun rs s1 hq G1 vs H1 e1 c1 => by
    split at hq
    · rename_i i j m
      obtain ⟨rfl, h1, h2, hq⟩ := hq
      match vs, c1 with
      | [v, u, w], c1 =>
        cases rs_int c1
        have c2 := c1.flat.1.core.shrd (v := u) (d := .int j) (by simp [psh])
        have c3 := c1.flat.1.core.shrd (v := w) (d := .int (-1)) (by simp [psh])
        cases ints_of c2
        cases ints_of c3
        exact ⟨i, j, -1, _, rfl, RgC.neg h1.1 h1.2 h2.1 h2.2, k _ _ hq _ _ _ e1 c1.base src_dwn⟩
      | [_], c1 => exact (show False from c1).elim
      | [_, _], c1 => exact (show False from c1).elim
      | _ :: _ :: _ :: _ :: _, c1 => exact (show False from c1).elim
    · exact hq.elim⟩
end
/-- a number of times a mark -/
def tmul {d : DialT} (n : Int) (m : Mk d) : Mk d := ⟨timesM d.1 n m.1, timesM_mark n m.2⟩
theorem tmul_neg {d : DialT} (m : Mk d) : tmul (-1) m = -m := rfl
theorem tmul_one {d : DialT} (m : Mk d) : tmul 1 m = m := Subtype.ext (times_one m.2)
theorem tmul_zero {d : DialT} (m : Mk d) : tmul 0 m = 0 := Subtype.ext (times_zero m.2)
theorem tmul_add {d : DialT} (n k : Int) (m : Mk d) : tmul n m + tmul k m = tmul (n + k) m := Subtype.ext (times_add m.2 n k)
/-- two marks, the one less the other -/
def subM (dial a b : List Int) : List Int := (z3 a b dial).map fun p => (p.1 - p.2.1) % p.2.2
theorem subM_eq {d a : List Int} (ha : MarkOf d a) : ∀ {b : List Int}, MarkOf d b → subM d a b = addM d a (timesM d (-1) b) := by
  induction ha with
  | nil => intro b hb; cases hb; rfl
  | @cons s p ss ps h1 h2 _ ih =>
    intro b hb
    cases hb with
    | @cons _ q _ qs h3 h4 hb =>
      rw [timesM_cons, addM_cons]
      show (p - q) % s :: subM ss ps qs = _
      rw [ih hb, Int.add_emod_emod]
      congr 2
      omega
theorem sub_val {d : DialT} (a b : Mk d) : tupI (subM d.1 a.1 b.1) = encM (a + -b) := by
  rw [subM_eq a.2 b.2]
  rfl
theorem dial_len (d : DialT) : 1 ≤ d.1.length ∧ d.1.length ≤ 2 := d.2.good.len
theorem dlen {d : DialT} : d.1.length ≤ 1000 := by have := dial_len d; omega
theorem atI_map {α : Type} {f : α → PyData} {xs : List α} {i : Nat} (h : i < xs.length) : atI (xs.map f) ((i : Nat) : Int) = some (f xs[i]) := by
  rw [atI_nat (by simpa using h)]
  simp
end VV

/-! V34: all marks, rising; ways of a mark, all together -/
namespace VV
open PySem PySem.Spec L2
open PyProof.Rows hiding St

/-! ### all marks -/
theorem rangeI_mem (n p : Int) : p ∈ rangeI n ↔ 0 ≤ p ∧ p < n := by
  unfold rangeI
  rw [List.mem_map]
  constructor
  · rintro ⟨i, hi, rfl⟩
    have := List.mem_range.mp hi
    omega
  · rintro ⟨h1, h2⟩
    exact ⟨p.toNat, List.mem_range.mpr (by omega), by omega⟩
theorem allF_mem (f : List (List Int)) (s : Int) (m : List Int) : m ∈ allF f s ↔ ∃ a ∈ f, ∃ p, 0 ≤ p ∧ p < s ∧ m = a ++ [p] := by
  unfold allF ext
  rw [List.mem_flatMap]
  constructor
  · rintro ⟨a, ha, hm⟩
    obtain ⟨p, hp, rfl⟩ := List.mem_map.mp hm
    have := (rangeI_mem s p).mp hp
    exact ⟨a, ha, p, this.1, this.2, rfl⟩
  · rintro ⟨a, ha, p, h1, h2, rfl⟩
    exact ⟨a, ha, List.mem_map.mpr ⟨p, (rangeI_mem s p).mpr ⟨h1, h2⟩, rfl⟩⟩
theorem foldF_mem : ∀ (d : List Int) (f : List (List Int)) (m : List Int), m ∈ d.foldl allF f ↔ ∃ a ∈ f, ∃ b, MarkOf d b ∧ m = a ++ b
  | [], f, m => by
    constructor
    · intro h; exact ⟨m, h, [], .nil, by simp⟩
    · rintro ⟨a, ha, b, hb, rfl⟩; cases hb; simpa using ha
  | s :: d, f, m => by
    rw [List.foldl_cons, foldF_mem d]
    constructor
    · rintro ⟨a, ha, b, hb, rfl⟩
      obtain ⟨a, ha', p, h1, h2, rfl⟩ := (allF_mem f s a).mp ha
      exact ⟨a, ha', p :: b, .cons h1 h2 hb, by simp⟩
    · rintro ⟨a, ha, b, hb, rfl⟩
      cases hb with
      | @cons _ p _ b h1 h2 hb => exact ⟨a ++ [p], (allF_mem f s _).mpr ⟨a, ha, p, h1, h2, rfl⟩, b, hb, by simp⟩
theorem allM_iff (d m : List Int) : m ∈ allM d ↔ MarkOf d m := by
  unfold allM
  rw [foldF_mem]
  constructor
  · rintro ⟨a, ha, b, hb, rfl⟩
    simp at ha; subst ha; simpa using hb
  · intro h; exact ⟨[], by simp, m, h, rfl⟩
theorem lt_snoc : ∀ {a b : List Int} (p q : Int), a.length = b.length → a < b → a ++ [p] < b ++ [q]
  | [], [], _, _, _, h => absurd h (by simp)
  | [], _ :: _, _, _, h, _ => by simp at h
  | _ :: _, [], _, _, h, _ => by simp at h
  | x :: a, y :: b, p, q, hl, h => by
    rw [List.cons_lt_cons_iff] at h
    rw [List.cons_append, List.cons_append, List.cons_lt_cons_iff]
    rcases h with h | ⟨e, h⟩
    · exact .inl h
    · exact .inr ⟨e, lt_snoc p q (by simpa using hl) h⟩
theorem lt_last : ∀ (a : List Int) {p q : Int}, p < q → a ++ [p] < a ++ [q]
  | [], p, q, h => by simp [List.cons_lt_cons_iff, h]
  | x :: a, p, q, h => by
    rw [List.cons_append, List.cons_append, List.cons_lt_cons_iff]
    exact .inr ⟨rfl, lt_last a h⟩
theorem allF_rise (s : Int) : ∀ (f : List (List Int)) (n : Nat), (∀ m ∈ f, m.length = n) → f.Pairwise (· < ·) → (allF f s).Pairwise (· < ·)
  | [], _, _, _ => .nil
  | a :: f, n, hl, h => by
    rw [List.pairwise_cons] at h
    unfold allF
    rw [List.flatMap_cons, List.pairwise_append]
    refine ⟨?_, allF_rise s f n (fun m hm => hl m (by simp [hm])) h.2, fun x hx y hy => ?_⟩
    · unfold ext rangeI
      rw [List.map_map]
      refine List.pairwise_map.mpr (List.pairwise_lt_range.imp fun {i j} hij => ?_)
      exact lt_last a (Int.ofNat_lt.mpr hij)
    · obtain ⟨p, hp, rfl⟩ := List.mem_map.mp hx
      obtain ⟨b, hb, q, _, _, rfl⟩ := (allF_mem f s y).mp hy
      exact lt_snoc p q (by rw [hl a (by simp), hl b (by simp [hb])]) (h.1 b hb)
theorem foldF_rise : ∀ (d : List Int) (f : List (List Int)) (n : Nat), (∀ m ∈ f, m.length = n) → f.Pairwise (· < ·) → (d.foldl allF f).Pairwise (· < ·)
  | [], _, _, _, h => h
  | s :: d, f, n, hl, h => foldF_rise d (allF f s) (n + 1) (fun m hm => by
      obtain ⟨a, ha, p, _, _, rfl⟩ := (allF_mem f s m).mp hm
      simp [hl a ha]) (allF_rise s f n hl h)
theorem allM_rise (d : List Int) : (allM d).Pairwise (· < ·) := foldF_rise d [[]] 0 (by simp) (by simp)
/-- all marks of a dial -/
def allK (d : DialT) : List (Mk d) := (allM d.1).attachWith (MarkOf d.1) fun m h => (allM_iff d.1 m).mp h
theorem allK_val (d : DialT) : (allK d).map (·.1) = allM d.1 := by unfold allK; exact List.attachWith_map_subtype_val _
theorem allK_enc (d : DialT) : (allM d.1).map tupI = (allK d).map encM := by rw [← allK_val, map_encM]
theorem allK_mem {d : DialT} (m : Mk d) : m ∈ allK d := by
  have h : (⟨m.1, m.2⟩ : { x // MarkOf d.1 x }) ∈ (allM d.1).attachWith (MarkOf d.1) fun m h => (allM_iff d.1 m).mp h := by
    rw [List.mem_attachWith]
    exact (allM_iff d.1 m.1).mpr m.2
  exact h
theorem allK_rise (d : DialT) : (allK d).Pairwise fun a b => a.1 < b.1 := by
  have := allM_rise d.1
  rw [← allK_val] at this
  exact List.pairwise_map.mp this
theorem allK_nodup (d : DialT) : (allK d).Nodup := (allK_rise d).imp fun {a b} h e => by
  subst e
  exact absurd h (by simp)
theorem allK_len (d : DialT) : (allK d).length ≤ 1600 := by
  have h := allM_len (d := d.1) (fun s h => (d.2.good.2.2 s h).2) d.2.good.2.1
  rw [← allK_val] at h
  simpa using h

/-! ### sums over tables -/
section
variable {α : Type} [Gr α] [DecidableEq α]
def totT {κ : Type} (v : κ × α → Nat) (t : List (α × Nat)) (ks : List (κ × α)) : List (α × Nat) := ks.foldl (fun tot k => pt tot k.2 ((lk tot k.2).getD 0 + v k)) t
theorem totT_snoc {κ : Type} (v : κ × α → Nat) (t : List (α × Nat)) (ks : List (κ × α)) (k : κ × α) : totT v t (ks ++ [k]) = pt (totT v t ks) k.2 ((lk (totT v t ks) k.2).getD 0 + v k) := by simp [totT]
theorem totT_nodup {κ : Type} (v : κ × α → Nat) : ∀ (ks : List (κ × α)) (t : List (α × Nat)), (t.map (·.1)).Nodup → ((totT v t ks).map (·.1)).Nodup
  | [], _, h => h
  | k :: ks, t, h => totT_nodup v ks _ (pt_nodup h)
theorem totT_lk {κ : Type} (v : κ × α → Nat) (m : α) : ∀ (ks : List (κ × α)) (t : List (α × Nat)), (lk (totT v t ks) m).getD 0 = (lk t m).getD 0 + ((ks.filter fun k => decide (k.2 = m)).map v).sum
  | [], t => by simp [totT]
  | k :: ks, t => by
    show (lk (totT v (pt t k.2 _) ks) m).getD 0 = _
    rw [totT_lk v m ks, lk_pt, List.filter_cons]
    by_cases e : k.2 = m
    · rw [if_pos e, if_pos (by simpa using e), e]
      simp only [Option.getD_some, List.map_cons, List.sum_cons]
      omega
    · rw [if_neg e, if_neg (by simpa using e)]
theorem sum_add_map {β : Type} (f g : β → Nat) : ∀ l : List β, (l.map fun x => f x + g x).sum = (l.map f).sum + (l.map g).sum
  | [] => rfl
  | x :: l => by simp only [List.map_cons, List.sum_cons, sum_add_map f g l]; omega
theorem sum_one (a c : Nat) : ∀ N : Nat, ((List.range N).map fun n => if n = a then c else 0).sum = if a < N then c else 0
  | 0 => by simp
  | N + 1 => by
    rw [List.range_succ, List.map_append, List.sum_append, sum_one a c N]
    simp only [List.map_cons, List.map_nil, List.sum_cons, List.sum_nil, Nat.add_zero]
    by_cases h1 : a < N
    · rw [if_pos h1, if_neg (by omega), if_pos (by omega)]
      omega
    · rw [if_neg h1]
      by_cases h2 : N = a
      · rw [if_pos h2, if_pos (by omega)]; omega
      · rw [if_neg h2, if_neg (by omega)]
theorem sum_zero {β : Type} (f : β → Nat) : ∀ l : List β, (∀ x ∈ l, f x = 0) → (l.map f).sum = 0
  | [], _ => rfl
  | x :: l, h => by rw [List.map_cons, List.sum_cons, h x (by simp), sum_zero f l fun y hy => h y (by simp [hy])]
/-- the keys with one mark, by their numbers -/
theorem sum_keys (v : Nat × α → Nat) (m : α) (N : Nat) : ∀ ks : List (Nat × α), ks.Nodup → (∀ k ∈ ks, k.1 < N) → ((ks.filter fun k => decide (k.2 = m)).map v).sum = ((List.range N).map fun n => if (n, m) ∈ ks then v (n, m) else 0).sum
  | [], _, _ => by simp [sum_zero]
  | k :: ks, hn, hb => by
    rw [List.nodup_cons] at hn
    have ih := sum_keys v m N ks hn.2 fun x hx => hb x (by simp [hx])
    have hk := hb k (by simp)
    rw [List.filter_cons]
    by_cases e : k.2 = m
    · rw [if_pos (by simpa using e), List.map_cons, List.sum_cons, ih]
      have ek : k = (k.1, m) := by rw [← e]
      have hs : (List.range N).map (fun n => if (n, m) ∈ k :: ks then v (n, m) else 0) = (List.range N).map (fun n => (if n = k.1 then v k else 0) + (if (n, m) ∈ ks then v (n, m) else 0)) := List.map_congr_left fun n _ => by
        by_cases h1 : n = k.1
        · subst h1
          rw [← ek, if_pos (by simp), if_pos rfl, if_neg hn.1, Nat.add_zero]
        · have : ¬ (n, m) = k := fun z => h1 (by rw [← z])
          rw [if_neg h1, Nat.zero_add]
          simp [this]
      rw [hs, sum_add_map, sum_one, if_pos hk]
    · rw [if_neg (by simpa using e), ih]
      congr 1
      refine List.map_congr_left fun n _ => ?_
      have : ¬ (n, m) = k := fun z => e (by rw [← z])
      simp [this]
/-- how many parts come to a mark, whatever their number -/
def Wall (h : List α) (m : α) : Nat := ((List.range (h.length + 1)).map fun n => W h n m).sum
theorem tot_cnt (h : List α) (m : α) : (lk (totT (fun k => (lk (cntT h) k).getD 0) [] ((cntT h).map (·.1))) m).getD 0 = Wall h m := by
  have kb : ∀ k ∈ (cntT h).map (·.1), 0 < W h k.1 k.2 := fun k hk => by
    have := (lk_mem k _).mpr hk
    rw [show k = (k.1, k.2) from rfl, cntT_lk] at this
    split at this
    · assumption
    · simp at this
  rw [totT_lk, lk_nil, Option.getD_none, Nat.zero_add, sum_keys _ m (h.length + 1) _ (cntT_nodup h) fun k hk => by have := W_le (kb k hk); omega]
  unfold Wall
  congr 1
  refine List.map_congr_left fun n _ => ?_
  by_cases hm : (n, m) ∈ (cntT h).map (·.1)
  · have := kb _ hm
    rw [if_pos hm, cntT_lk, if_pos this]; rfl
  · rw [if_neg hm]
    have := (not_congr (lk_mem (n, m) (cntT h))).mpr hm
    rw [cntT_lk] at this
    split at this
    · simp at this
    · omega
end
end VV

/-! V35: tables of all marks; what a part leaves over -/
namespace VV
open PySem PySem.Spec L2
open PyProof.Rows hiding St

section
variable {κ ν : Type} [DecidableEq κ]
theorem pt_new {t : List (κ × ν)} {k : κ} {v : ν} (h : k ∉ t.map (·.1)) : pt t k v = t ++ [(k, v)] := by
  unfold pt
  rw [if_neg fun z => h ((lk_mem k t).mp z)]
theorem pts_nodup : ∀ (s t : List (κ × ν)), ((t ++ s).map (·.1)).Nodup → s.foldl (fun t p => pt t p.1 p.2) t = t ++ s
  | [], t, _ => by simp
  | p :: s, t, h => by
    have hn : p.1 ∉ t.map (·.1) := by
      rw [List.map_append, List.nodup_append] at h
      exact fun m => h.2.2 _ m p.1 (by simp) rfl
    rw [List.foldl_cons, pt_new hn, pts_nodup s (t ++ [(p.1, p.2)]) (by simpa using h)]
    simp
theorem puts_tb {enc : κ → PyData} {val : ν → PyData} (hi : ∀ a b, enc a = enc b → a = b) : ∀ (s t : List (κ × ν)), Puts (tb enc val t) (tb enc val s) = tb enc val (s.foldl (fun t p => pt t p.1 p.2) t)
  | [], _ => rfl
  | p :: s, t => by
    show Puts (Put (tb enc val t) (enc p.1) (val p.2)) (tb enc val s) = _
    rw [put_tb hi, puts_tb hi s, List.foldl_cons]
theorem puts_self {enc : κ → PyData} {val : ν → PyData} (hi : ∀ a b, enc a = enc b → a = b) {s : List (κ × ν)} (h : (s.map (·.1)).Nodup) : Puts [] (tb enc val s) = tb enc val s := by
  have := puts_tb (val := val) hi s []
  rw [pts_nodup s [] (by simpa using h)] at this
  exact this
end
/-- all marks, with f of each -/
def tabF {d : DialT} {ν : Type} (f : Mk d → ν) : List (Mk d × ν) := (allK d).map fun m => (m, f m)
section
variable {d : DialT} {ν : Type}
theorem tabF_keys (f : Mk d → ν) : (tabF f).map (·.1) = allK d := by
  unfold tabF
  rw [List.map_map]
  exact (List.map_congr_left fun x _ => rfl).trans (List.map_id _)
theorem tabF_nodup (f : Mk d → ν) : ((tabF f).map (·.1)).Nodup := by rw [tabF_keys]; exact allK_nodup d
theorem tabF_lk (f : Mk d → ν) (m : Mk d) : lk (tabF f) m = some (f m) := lk_of_mem (tabF_nodup f) (List.mem_map.mpr ⟨m, allK_mem m, rfl⟩)
theorem tabF_look {val : ν → PyData} (f : Mk d → ν) (m : Mk d) : Look (tb encM val (tabF f)) (encM m) = some (val (f m)) := by
  rw [look_tb (fun _ _ => encM_inj), tabF_lk]
  rfl
theorem tabF_pt (f : Mk d → ν) (m : Mk d) (v : ν) : pt (tabF f) m v = tabF fun x => if x = m then v else f x := by
  unfold pt
  rw [tabF_lk, if_pos (show (some (f m)).isSome = true from rfl)]
  unfold tabF
  rw [List.map_map]
  refine List.map_congr_left fun x _ => ?_
  by_cases h : x = m <;> simp [h]
theorem tabF_pairs {val : ν → PyData} (f : Mk d → ν) : (allK d).map (fun m => .tuple [encM m, val (f m)]) = (tb encM val (tabF f)).map prD := by
  unfold tabF tb
  rw [List.map_map, List.map_map]
  rfl
theorem tabF_key {val : ν → PyData} (f : Mk d → ν) (hv : ∀ x, Sol (val x)) : ∀ p ∈ tb encM val (tabF f), KeyD p.1 ∧ Sol p.2 := fun p hp => by
  obtain ⟨x, _, rfl⟩ := List.mem_map.mp hp
  exact ⟨keyM _, hv _⟩
theorem tabF_items {val : ν → PyData} (f : Mk d → ν) : (((tb encM val (tabF f)).map (·.1)).map Ent.shr) = (allK d).map fun m => .shr (encM m) := by
  rw [tb_keys, tabF_keys, List.map_map]
  rfl
end

/-! ### all things, what is left -/
section
variable {α : Type} [Gr α] [DecidableEq α]
theorem tot_all : ∀ (h : List α) (i : Nat), totG ((List.range' i h.length).map fun k => h.getD (k - i) 0) = totG h
  | [], _ => rfl
  | x :: h, i => by
    rw [List.length_cons, List.range'_succ, List.map_cons, Nat.sub_self, List.getD_cons_zero]
    show x + totG _ = x + totG h
    have e : ((List.range' (i + 1) h.length).map fun k => (x :: h).getD (k - i) 0) = (List.range' (i + 1) h.length).map fun k => h.getD (k - (i + 1)) 0 := List.map_congr_left fun k hk => by
      have := (List.mem_range'_1.mp hk).1
      rw [show k - i = (k - (i + 1)) + 1 by omega, List.getD_cons_succ]
    rw [e, tot_all h (i + 1)]
theorem Part.left {h : List α} {i : Nat} {ks : List Nat} {n : Nat} {m : α} (p : Part h i ks n m) : totG (((List.range' i h.length).filter fun k => !decide (k ∈ ks)).map fun k => h.getD (k - i) 0) = totG h + -m := by
  induction p with
  | nil => show (0 : α) = 0 + -0; rw [Gr.zadd, Gr.nzero]
  | @skip x h i ks n m q ih =>
    have ni : i ∉ ks := fun hm => by have := q.ge i hm; omega
    rw [List.length_cons, List.range'_succ, List.filter_cons, if_pos (by simp [ni]), List.map_cons, Nat.sub_self, List.getD_cons_zero]
    show x + totG _ = x + totG h + -m
    have e : (((List.range' (i + 1) h.length).filter fun k => !decide (k ∈ ks)).map fun k => (x :: h).getD (k - i) 0) = ((List.range' (i + 1) h.length).filter fun k => !decide (k ∈ ks)).map fun k => h.getD (k - (i + 1)) 0 := List.map_congr_left fun k hk => by
      have := (List.mem_range'_1.mp (List.mem_filter.mp hk).1).1
      rw [show k - i = (k - (i + 1)) + 1 by omega, List.getD_cons_succ]
    rw [e, ih, Gr.assoc]
  | @take x h i ks n m q ih =>
    rw [List.length_cons, List.range'_succ, List.filter_cons, if_neg (by simp)]
    have e : (((List.range' (i + 1) h.length).filter fun k => !decide (k ∈ i :: ks)).map fun k => (x :: h).getD (k - i) 0) = ((List.range' (i + 1) h.length).filter fun k => !decide (k ∈ ks)).map fun k => h.getD (k - (i + 1)) 0 := by
      have ef : ((List.range' (i + 1) h.length).filter fun k => !decide (k ∈ i :: ks)) = (List.range' (i + 1) h.length).filter fun k => !decide (k ∈ ks) := List.filter_congr fun k hk => by
        have := (List.mem_range'_1.mp hk).1
        have : ¬ k = i := by omega
        simp [this]
      rw [ef]
      exact List.map_congr_left fun k hk => by
        have := (List.mem_range'_1.mp (List.mem_filter.mp hk).1).1
        rw [show k - i = (k - (i + 1)) + 1 by omega, List.getD_cons_succ]
    rw [e, ih]
    show totG h + -(m + -x) = x + totG h + -m
    rw [Gr.neg_addd, Gr.nneg, ← Gr.assoc, Gr.comm x, Gr.swap]
theorem rise_range : ∀ (ks : List Nat) (i n : Nat), ks.Pairwise (· < ·) → (∀ k ∈ ks, i ≤ k ∧ k < i + n) → ks.length = n → ks = List.range' i n
  | [], i, n, _, _, h => by simp at h; subst h; rfl
  | k :: ks, i, n, hp, hb, hl => by
    rw [List.pairwise_cons] at hp
    obtain ⟨n, rfl⟩ : ∃ j, n = j + 1 := ⟨n - 1, by simp at hl; omega⟩
    simp only [List.length_cons, Nat.add_right_cancel_iff] at hl
    have hk := hb k (by simp)
    have hki : k = i := by
      rcases Nat.lt_or_ge i k with hlt | hge
      · have : ks.length ≤ (List.range' (k + 1) (i + n - k)).length := nodup_len (hp.2.imp fun {a b} h e => by omega) fun x hx => by
          have h1 := hp.1 x hx
          have h2 := hb x (by simp [hx])
          exact List.mem_range'_1.mpr ⟨by omega, by omega⟩
        simp at this
        omega
      · omega
    subst hki
    rw [List.range'_succ, ← rise_range ks (k + 1) n hp.2 (fun x hx => by have h1 := hp.1 x hx; have h2 := hb x (by simp [hx]); omega) hl]
theorem pick_all (h : List α) : pick h 0 h.length (totG h) = List.range h.length := by
  have hw : 0 < W h h.length (totG h) := by
    rw [W_compl h h.length _ (Nat.le_refl _), Nat.sub_self, W_zero, Gr.addn, if_pos rfl]
    omega
  have p := pick_part h 0 h.length (totG h) hw
  rw [List.range_eq_range']
  exact rise_range _ 0 _ p.rise (fun k hk => p.ge k hk) p.len
theorem W_all (h : List α) : 0 < W h h.length (totG h) := by
  rw [W_compl h h.length _ (Nat.le_refl _), Nat.sub_self, W_zero, Gr.addn, if_pos rfl]
  omega
theorem compl2 (a m : α) : a + -(a + -m) = m := by rw [Gr.neg_addd, Gr.nneg, ← Gr.assoc, Gr.addn, Gr.zadd]
end
def onesM (d : List Int) : List Int := d.map fun _ => 1
theorem ones_mark : ∀ {d : List Int}, (∀ s ∈ d, 2 ≤ s) → MarkOf d (onesM d)
  | [], _ => .nil
  | s :: d, h => .cons (show (0 : Int) ≤ 1 by decide) (show (1 : Int) < s by have := h s (by simp); omega) (ones_mark fun t ht => h t (by simp [ht]))
def oneK (d : DialT) : Mk d := ⟨onesM d.1, ones_mark fun s h => (d.2.good.2.2 s h).1⟩
theorem rep_tuple (x : Int) (d : List Int) : PyData.tuple (List.replicate (((d.map PyData.int).length : Nat) : Int).toNat [PyData.int x]).flatten = tupI (d.map fun _ => x) := by
  have : ∀ n, (List.replicate n [PyData.int x]).flatten = List.replicate n (PyData.int x) := fun n => by
    induction n with
    | zero => rfl
    | succ n ih => rw [List.replicate_succ, List.flatten_cons, ih]; rfl
  rw [Int.toNat_natCast, this, List.length_map]
  show PyData.tuple _ = PyData.tuple _
  congr 1
  induction d with
  | nil => rfl
  | cons s d ih => simpa [List.replicate_succ] using ih
theorem zeroK_eq (d : DialT) : PyData.tuple (List.replicate (((d.1.map PyData.int).length : Nat) : Int).toNat [PyData.int 0]).flatten = encM (0 : Mk d) := rep_tuple 0 d.1
theorem oneK_eq (d : DialT) : PyData.tuple (List.replicate (((d.1.map PyData.int).length : Nat) : Int).toNat [PyData.int 1]).flatten = encM (oneK d) := rep_tuple 1 d.1
end VV

/-! V36: sorted(set(xs)), xs a list of ints -/
namespace VV
open PySem PySem.Spec L2
open PyProof.Rows hiding St

/-- a set just made -/
abbrev newS (w : World) : Obj := { cls := .type "set", dict := none, data := .set #[] 0 (.fresh 0 0 (!w.params.followText "set-order")) }
section
variable {P : Program} {w : World} {A : Around} {E : Value → Shared → Prop} {s : Shared}
abbrev FinS (P : Program) (w : World) (A : Around) (R : Result → Shared → Prop) : PySem.Fin → Shared → Prop := fun fin s' => match fin with
  | .done f => R (.ok f) s'
  | .again c' => c'.quiet = true ∧ codeAny (model P w) A c' R s'
set_option maxHeartbeats 3200000 in
theorem set_make {v : Value} {Q : Value → Shared → Prop}
    (body : ∀ R : Result → Shared → Prop, R = wants (fun r s₂ => r = .none ∧ Q (.ref s.heap.objs.size) s₂) E →
      wpAny (model P w) A.in1.in1 (Builtin.«set.__init__» ⟨[.ref s.heap.objs.size, v], []⟩) (FinS P w A.in1 R) (fun e => R (.error e)) { s with heap := s.heap.push (newS w) }) :
    wpAny (model P w) A (call (.type "set") [v]) Q E s := by
  have ft := PySem.F.called_set
  obtain ⟨m1, m2, m3⟩ := ft.mro
  have k1 := ft.made; have k2 := ft.sub; have k3 := ft.notType; have k4 := ft.canCreate
  have k5 := PySem.F.typeCall_set_1 v
  refine wpAny_call (codeAny_of_tree (show wpAny _ _ (callAny (.type "set") _) _ _ _ from wpAny_pure ⟨Code.quiet_builtin _ (by decide +kernel), codeAny_builtin PySem.F.entry_type_call ?_⟩))
  rw [Around.under_plain (weight_type_call_type "set" [v] []) rfl]
  repeat (any_goals (first | wp_step | assumption))
  refine codeAny_mono (L2.code_set_led1 v (E := E) (Q₁ := fun obj s₁ => obj = .ref s.heap.objs.size ∧ s₁ = { s with heap := s.heap.push (newS w) }) ⟨rfl, rfl⟩) fun r s₁ hr => ?_
  rcases r with e | f
  · exact hr
  cases f <;> first | exact hr.elim | skip
  obtain ⟨rfl, rfl⟩ := hr
  have tyS : Shared.TypeIs { s with heap := s.heap.push (newS w) } (.ref s.heap.objs.size) "set" := ⟨_, Heap.get?_push_size _ rfl, rfl⟩
  have k6 := ft.init.lookup; have k7 := ft.init.bind (.ref s.heap.objs.size)
  repeat (any_goals (first | wp_step | assumption))
  refine codeAny_mono (codeAny_call_builtin ft.init.plain PySem.F.entry_set_init (check_set_init_1 tyS (body _ rfl))) fun r s₂ hr => ?_
  rcases r with e | f
  · exact hr
  cases f <;> first | exact hr.elim | skip
  obtain ⟨rfl, hq⟩ := hr
  repeat (any_goals (first | wp_step | assumption))
set_option maxHeartbeats 3200000 in
theorem set_ints {l : Addr} {items : Array Value} (ns : List Int) {Q : Value → Shared → Prop} (hh : A.handled = none) (hl : s.heap.IsList l items) (hi : IntsAre items.toList ns) (hb : ns.length + 1 < scanBound)
    (h : ∀ (h' : Heap) (tk c : Nat), SetR w h' s.heap.objs.size (fun j => decide (j ∈ ns)) c → c ≤ ns.length → (∀ b o, s.heap.get? b = some o → h'.get? b = some o) → Q (.ref s.heap.objs.size) { s with heap := h', toks := tk }) :
    wpAny (model P w) A (call (.type "set") [.ref l]) Q E s := by
  refine set_make fun R hR => ?_
  obtain ⟨⟨oc, od, oda, osl⟩, lo, lc, ln, ld⟩ := hl
  obtain rfl : oc = .type "list" := lc
  obtain rfl : oda = .seq items ln := ld
  have at2 : (s.heap.push (newS w)).get? l = some { cls := .type "list", dict := od, data := .seq items ln, slots := osl } := Heap.get?_push_of_some _ lo
  have il : (s.heap.push (newS w)).IsList l items := ⟨_, at2, rfl, ln, rfl⟩
  have n1 := PySem.F.sub_list_set; have n2 := PySem.F.sub_list_frozenset
  have n3 : (Value.type "list" == Value.type "dict") = false := by decide
  have hz : items.size = ns.length := by rw [← IntsAre.length hi, Array.length_toList]
  have lt : l < s.heap.objs.size := Heap.lt_size lo
  have sz : (s.heap.push (newS w)).objs.size = s.heap.objs.size + 1 := Heap.size_push ..
  unfold Builtin.«set.__init__» noKeywords Builtin.Frozenset.updateFrom
  generalize ePI : pyIter = PI
  wp_walk
  subst ePI
  refine wpAny_pyIter_list il (wpAny_bind (wpAny_runValue ?_))
  have ha : A.in1.in1.in1.handled = none := by simp [hh]
  have ne1 : s.heap.objs.size ∉ [(s.heap.push (newS w)).objs.size, l] := by
    rw [sz]
    simp only [List.mem_cons, List.not_mem_nil, or_false, not_or]
    exact ⟨Nat.ne_of_lt (Nat.lt_succ_self _), Nat.ne_of_gt lt⟩
  have each : ∀ (i : Nat) (v : Value), items[i]? = some v → ∃ k t, ns[i]? = some k ∧ v = .int k t := fun i v e => by
    obtain ⟨hlt, _⟩ := Array.getElem?_eq_some_iff.mp e
    have hlt : i < ns.length := by omega
    obtain ⟨t, ht⟩ := hi.get i _ (List.getElem?_eq_getElem hlt)
    rw [Array.getElem?_toList, e] at ht
    exact ⟨_, t, List.getElem?_eq_getElem hlt, Option.some.inj ht⟩
  have keep : ∀ b ob, s.heap.get? b = some ob → ((s.heap.push (newS w)).push { cls := .type "list_iterator", data := .fields #[.ref l, .int 0 0] }).get? b = some ob := fun b ob e => Heap.get?_push_of_some _ (Heap.get?_push_of_some _ e)
  have start := setR_new_at (ns := ns) (Heap.get?_push_of_some { cls := .type "list_iterator", data := .fields #[.ref l, .int 0 0] } (Heap.get?_push_size s.heap (o := newS w) rfl))
  refine set_update_ints ((Walks.list ha _ l (by rw [sz]; exact Nat.ne_of_lt (Nat.lt_succ_of_lt lt)) items).toS) s.heap.objs.size ne1 ns hz hb each items.size 0 _ rfl (Nat.zero_le _) ⟨⟨_, Heap.get?_push_size _ rfl, rfl, rfl⟩, il.push _⟩ ⟨0, Nat.le_refl 0, start⟩ ?_
  rintro ⟨h', g', d', tk', os'⟩ c hm hc hS
  obtain rfl : g' = s.gens := hm.gens
  obtain rfl : d' = s.drawn := hm.drawn
  obtain rfl : os' = s.os := hm.os
  refine wpAny_pure (wpAny_pure ?_)
  subst hR
  refine ⟨rfl, h h' tk' c hS (by omega) fun b ob e => ?_⟩
  have hb0 := Heap.lt_size e
  refine hm.heap b ob ?_ (keep b ob e)
  rw [sz]
  simp only [List.mem_cons, List.not_mem_nil, or_false, not_or]
  exact ⟨Nat.ne_of_lt hb0, Nat.ne_of_lt (Nat.lt_succ_of_lt hb0)⟩
end
section
variable {X : Cx}
/-- set(xs), xs a list of ints -/
def rSetI (K : PySem.W.Frag) (w : World) : List V → Hp → VK → Prop := fun vs H Q => ∃ (l : Addr) (ns : List Int), vs = [V.ref l] ∧ SqL K H l (ns.map V.int) ∧ ns.length < 64 ∧
  ∀ a S n, H a = none → (∀ k : Int, k ∈ ns ↔ S k = true) → n < 64 → Q (.ref a) (upd H a (SetO w a S n))
theorem cr_setI (hc : X.calm = true) : CallR X (.type "set") (rSetI X.K X.w) := by
  intro pins s σ H vs us Q I r h
  obtain ⟨l, ns, rfl, hl, hn, q⟩ := h
  rw [Vals.ref1 r]
  obtain ⟨its, rv, pl, _⟩ := I.list hl
  refine set_ints ns (I.ok.hd hc) pl.isList (by simpa using ints_of_vals rv) (by unfold scanBound; omega) fun h' tk c hS hc' hk => ?_
  exact ⟨.ref _, _, I.laid (t' := tk) hk (Nat.le_refl _) (setO_new hS), rfl, q _ _ c (I.hok.fresh (Nat.le_refl _)) (fun k => by simp) (by omega)⟩
/-- sorted(set(xs)), the ints of a list -/
def eSortSetI (w : WE) : WE := fun sl Q => w sl fun r s1 => ltR s1 r fun b ds => b = false ∧ ∃ ns : List Int, ds = ns.map .int ∧ ns.length < 64 ∧
  ∀ L : List Int, L.Pairwise (· < ·) → (∀ x, x ∈ L ↔ x ∈ ns) → Q (.e (.own (L.map .int))) s1
theorem v_sortSetI {a : Expr} {w : WE} {p p2 q pos : PySem.Pos} (hc : X.calm = true) (hg : Gl X "sorted") (hm : X.mg "sorted" = none) (hg2 : Gl X "set") (hm2 : X.mg "set" = none) (ha : PV X a w)
    (na : starEach [a] X.env = (false, eval a X.env) :: starEach [] X.env := by rfl) : PV X (.Call (.Name "sorted" p) [.Call (.Name "set" p2) [a] [] q] [] pos) (eSortSetI w) :=
  PE.imp (pe_callB (cr_sortedSet hc) hg hm PyProof.Rows.boot_sorted (pa_cons (pe_callTy (cr_setI hc) hg2 hm2 PyProof.Rows.boot_set (pa_cons ha pa_nil na) (by decide) (by decide) na rfl) pa_nil rfl) (by decide) (by decide) rfl rfl) fun σ H Q ⟨U, G0, G, T, sl, Qv, c, h, k⟩ => by
    refine ⟨U, G0, G, T, sl, _, c, h, fun r s1 hq G1 v H1 e1 c1 => ?_⟩
    obtain ⟨l, vs, b, ds, rfl, hs, hr, _, rfl, ns, rfl, hl, hq⟩ := c1.lt hq
    have cb := c1.base
    refine ⟨l, ns, rfl, hr.ints ▸ hs, hl, fun a S n ha hS hn => ?_⟩
    refine ⟨a, S, n, rfl, upd_same, hn, fun L p hL hm _ hp => ?_⟩
    have c2 : Rel ⟨pxOf X, U, G0⟩ G1 T s1 σ (upd H1 a (SetO X.w a S n)) := cb.junk ha (fun xs e => by cases e) (fun u xs e => by cases e)
    exact k _ _ (hq L hL fun x => (hm x).trans (hS x).symm) G1 _ _ e1 ⟨c2.core.newOwn hp (reps_ints L), c2.wf⟩
end
end VV

/-! V37: sums of marks; counts behind; the first part, step by step -/
namespace VV
open PySem PySem.Spec L2
open PyProof.Rows hiding St

section
variable {α : Type} [Gr α] [DecidableEq α]
theorem totG_app : ∀ a b : List α, totG (a ++ b) = totG a + totG b
  | [], b => (Gr.zadd _).symm
  | x :: a, b => by
    show x + totG (a ++ b) = x + totG a + totG b
    rw [totG_app a b, Gr.assoc]
theorem totG_one (x : α) : totG [x] = x := Gr.addz x
theorem totG_snoc (h : List α) (x : α) : totG (h ++ [x]) = totG h + x := by rw [totG_app, totG_one]
theorem W_rev : ∀ (h : List α) (k : Nat) (m : α), W h.reverse k m = W h k m
  | [], _, _ => rfl
  | x :: h, 0, m => by rw [W_zero, W_zero]
  | x :: h, k + 1, m => by rw [List.reverse_cons, W_snoc, W_rev h, W_rev h, W]
/-- the first number of the first part -/
theorem pick_step : ∀ (h : List α) (i n : Nat) (m : α) (p : Nat) (ks : List Nat), pick h i n m = p :: ks → ∃ j, p = i + j ∧ j < h.length ∧ ks = pick (h.drop (j + 1)) (p + 1) (n - 1) (m + -(h.getD j 0)) ∧ 0 < n ∧ 0 < W (h.drop (j + 1)) (n - 1) (m + -(h.getD j 0)) ∧ ∀ e, e < j → W (h.drop (e + 1)) (n - 1) (m + -(h.getD e 0)) = 0
  | [], i, n, m, p, ks, h => by simp [pick] at h
  | x :: h, i, n, m, p, ks, e => by
    unfold pick at e
    by_cases hc : 0 < n ∧ 0 < W h (n - 1) (m + -x)
    · rw [if_pos hc] at e
      obtain ⟨rfl, rfl⟩ := List.cons.inj e
      exact ⟨0, rfl, by simp, rfl, hc.1, hc.2, fun _ z => by omega⟩
    · rw [if_neg hc] at e
      obtain ⟨j, h1, h2, h3, h4, h5, h6⟩ := pick_step h (i + 1) n m p ks e
      refine ⟨j + 1, by omega, by simp; omega, ?_, h4, ?_, fun e he => ?_⟩
      · simpa using h3
      · simpa using h5
      · cases e with
        | zero =>
          have : ¬ 0 < W h (n - 1) (m + -x) := fun z => hc ⟨h4, z⟩
          simp only [Nat.zero_add, List.drop_succ_cons, List.drop_zero, List.getD_cons_zero]
          omega
        | succ e =>
          have := h6 e (by omega)
          simpa using this
/-- counts of the parts, things put ahead -/
def cntB : List α → List ((Nat × α) × Nat)
  | [] => [((0, 0), 1)]
  | x :: h => foldG (gP x) (fun o k => o.getD 0 + (lk (cntB h) k).getD 0) (cntB h) ((cntB h).map (·.1))
theorem cntB_eq : ∀ h : List α, cntB h = cntT h.reverse
  | [] => rfl
  | x :: h => by rw [List.reverse_cons, cntT_snoc, ← cntB_eq h, cntB]
theorem cntB_nodup (h : List α) : ((cntB h).map (·.1)).Nodup := by rw [cntB_eq]; exact cntT_nodup _
theorem cntB_lk (h : List α) (n : Nat) (m : α) : lk (cntB h) (n, m) = if 0 < W h n m then some (W h n m) else none := by rw [cntB_eq, cntT_lk, W_rev]
theorem cntB_mem (h : List α) (n : Nat) (m : α) : (n, m) ∈ (cntB h).map (·.1) ↔ 0 < W h n m := by
  rw [← lk_mem, cntB_lk]
  by_cases hw : 0 < W h n m
  · rw [if_pos hw]; simp [hw]
  · rw [if_neg hw]; simp [hw]
theorem cntB_le (h : List α) : ∀ p ∈ cntB h, p.1.1 ≤ h.length := fun p hp => W_le ((cntB_mem h p.1.1 p.1.2).mp (List.mem_map.mpr ⟨p, hp, rfl⟩))
end
section
variable {d : DialT}
theorem fold_val : ∀ (h : List (Mk d)) (a : Mk d), (h.map (·.1)).foldl (addM d.1) a.1 = (a + totG h).1
  | [], a => by show a.1 = (a + 0).1; rw [Gr.addz]
  | x :: h, a => by
    rw [List.map_cons, List.foldl_cons]
    show (h.map (·.1)).foldl (addM d.1) (a + x).1 = (a + (x + totG h)).1
    rw [fold_val h (a + x), Gr.assoc]
theorem mk_len (m : Mk d) : m.1.length = d.1.length := m.2.len
theorem tot_sumM (h : List (Mk d)) : sumM d.1 (h.map (·.1)) = (totG h).1 := by
  rw [sum_fold _ _ rfl fun m hm => by obtain ⟨x, _, rfl⟩ := List.mem_map.mp hm; exact mk_len x]
  have := fold_val h (0 : Mk d)
  rw [Gr.zadd] at this
  exact this
end
end VV

/-! V38: what the specs lean on -/
namespace VV
open PySem PySem.Spec L2
open PyProof.Rows hiding St
abbrev hpD {d : DialT} (h : List (Mk d)) : PyData := .list (h.map encM)
abbrev mtD {d : DialT} (h : List (Mk d)) : PyData := .dict (tb encP PyData.bool (metT h))
/-- a heap and what is behind each thing, all, none -/
def tls {α : Type} : List α → List (List α)
  | [] => [[]]
  | x :: h => (x :: h) :: tls h
theorem tls_len {α : Type} : ∀ h : List α, (tls h).length = h.length + 1
  | [] => rfl
  | x :: h => by simp [tls, tls_len h]
theorem tls_at {α : Type} : ∀ (h : List α) (i : Nat), i ≤ h.length → (tls h)[i]? = some (h.drop i)
  | [], 0, _ => rfl
  | [], i + 1, h => by simp at h
  | x :: h, 0, _ => rfl
  | x :: h, i + 1, hi => by
    simp only [List.length_cons] at hi
    rw [tls, List.getElem?_cons_succ, tls_at h i (by omega), List.drop_succ_cons]
theorem atI_tls {α : Type} {f : List α → PyData} {h : List α} {i : Nat} (hi : i ≤ h.length) : atI ((tls h).map f) ((i : Nat) : Int) = some (f (h.drop i)) := by
  have hl : i < ((tls h).map f).length := by rw [List.length_map, tls_len]; omega
  rw [atI_nat hl, List.getElem_map]
  have := tls_at h i hi
  rw [List.getElem?_eq_getElem (by rw [tls_len]; omega)] at this
  rw [Option.some.inj this]
abbrev natD (k : Nat) : PyData := .int ((k : Nat) : Int)
theorem enum_map {α : Type} (f : α → PyData) : ∀ (h : List α) (i : Nat), enumD i (h.map f) = ((List.range' i h.length).zip h).map fun p => .shr (.tuple [.int ((p.1 : Nat) : Int), f p.2])
  | [], _ => rfl
  | m :: h, i => by
    rw [List.map_cons, enumD, enum_map f h (i + 1), List.length_cons, List.range'_succ, List.zip_cons_cons, List.map_cons]
theorem enum_split {α : Type} {h : List α} {pre post : List (Nat × α)} {k : Nat} {x : α} (e : (List.range' 0 h.length).zip h = pre ++ (k, x) :: post) : k = pre.length ∧ pre.length < h.length ∧ h.drop pre.length = x :: h.drop (pre.length + 1) := by
  have hl : ((List.range' 0 h.length).zip h).length = h.length := by simp
  have h1 : ((List.range' 0 h.length).zip h)[pre.length]? = some (k, x) := by rw [e]; simp
  obtain ⟨hi, h2⟩ := List.getElem?_eq_some_iff.mp h1
  have hi' : pre.length < h.length := by rw [hl] at hi; exact hi
  rw [List.getElem_zip] at h2
  simp only [List.getElem_range', Nat.zero_add, Nat.one_mul, Prod.mk.injEq] at h2
  exact ⟨h2.1.symm, hi', by rw [List.drop_eq_getElem_cons hi', h2.2]⟩
theorem zip_len {α : Type} (h : List α) : ((List.range' 0 h.length).zip h).length = h.length := by simp
theorem look_met {d : DialT} (h : List (Mk d)) (n : Nat) (m : Mk d) : (Look (tb encP PyData.bool (metT h)) (encP (n, m))).isSome = decide (0 < W h n m) := by
  rw [look_tb (fun _ _ => encP_inj), Option.isSome_map]
  have := (lk_mem (n, m) (metT h)).trans (metT_mem h n m)
  by_cases hw : 0 < W h n m
  · rw [decide_eq_true hw]; exact this.mpr hw
  · rw [decide_eq_false hw]
    cases e : (lk (metT h) (n, m)).isSome with
    | false => rfl
    | true => exact absurd (this.mp e) hw
theorem look_metI {d : DialT} (h : List (Mk d)) {n : Int} (hn : 0 ≤ n) (m : Mk d) : (Look (tb encP PyData.bool (metT h)) (.tuple [.int n, encM m])).isSome = decide (0 < W h n.toNat m) := by
  have := look_met h n.toNat m
  unfold encP at this
  simp only [Int.toNat_of_nonneg hn] at this
  exact this
theorem get_tb {κ ν : Type} [DecidableEq κ] {enc : κ → PyData} {val : ν → PyData} (hi : ∀ a b, enc a = enc b → a = b) {t : List (κ × ν)} {k : κ} {z0 : ν} {Q : PyData → Prop} (h : Q (val ((lk t k).getD z0))) :
    (∀ d, Look (tb enc val t) (enc k) = some d → Q d) ∧ (Look (tb enc val t) (enc k) = none → Q (val z0)) := by
  rw [look_tb hi]
  cases e : lk t k with
  | none => rw [e] at h; exact ⟨fun d hd => (by cases hd), fun _ => h⟩
  | some v => rw [e] at h; exact ⟨fun d hd => (by cases hd; exact h), fun hd => (by cases hd)⟩
theorem min_nat (a b : Nat) : (if ((b : Nat) : Int) + 1 < ((a : Nat) : Int) then ((b : Nat) : Int) + 1 else ((a : Nat) : Int)) = ((min a (b + 1) : Nat) : Int) := by
  split <;> omega
abbrev ftD {d : DialT} (L : Nat) (h : List (Mk d)) : PyData := .dict (tb encM natD (fewT L h))
theorem W_drop {α : Type} [Gr α] [DecidableEq α] {k : Nat} {m : α} : ∀ (h : List α) (i : Nat), 0 < W (h.drop i) k m → 0 < W h k m
  | h, 0, w => w
  | [], i + 1, w => w
  | x :: h, i + 1, w => W_cons_pos.mpr (.inl (W_drop h i (by simpa using w)))
theorem W_first {α : Type} [Gr α] [DecidableEq α] : ∀ (h : List α) (k : Nat) (m : α), 1 ≤ k → 0 < W h k m → ∃ i x, i < h.length ∧ h.drop i = x :: h.drop (i + 1) ∧ 0 < W (h.drop (i + 1)) (k - 1) (m + -x)
  | [], k, m, hk, w => by unfold W at w; rw [if_neg (by omega)] at w; omega
  | x :: h, k, m, hk, w => by
    rcases W_cons_pos.mp w with w1 | ⟨j, rfl, w2⟩
    · obtain ⟨i, y, h1, h2, h3⟩ := W_first h k m hk w1
      exact ⟨i + 1, y, by simp; omega, h2, h3⟩
    · exact ⟨0, x, by simp, rfl, w2⟩
theorem zip_mem {α : Type} {h : List α} {p : Nat × α} (hp : p ∈ (List.range' 0 h.length).zip h) : p.1 < h.length ∧ h.drop p.1 = p.2 :: h.drop (p.1 + 1) := by
  obtain ⟨a, b, e⟩ := List.append_of_mem hp
  obtain ⟨e1, e2, e3⟩ := enum_split (k := p.1) (x := p.2) e
  rw [← e1] at e2 e3
  exact ⟨e2, e3⟩
theorem mem_zip {α : Type} {h : List α} {i : Nat} {x : α} (hi : i < h.length) (e : h.drop i = x :: h.drop (i + 1)) : (i, x) ∈ (List.range' 0 h.length).zip h := by
  have hl : i < ((List.range' 0 h.length).zip h).length := by simpa using hi
  have : ((List.range' 0 h.length).zip h)[i] = (i, x) := by
    rw [List.getElem_zip]
    rw [List.drop_eq_getElem_cons hi] at e
    simp only [List.cons.injEq] at e
    simp [e.1]
  rw [← this]
  exact List.getElem_mem hl
/-- by how many things parts that begin with each thing come to a mark, at the fewest -/
def cnts {α : Type} [Gr α] [DecidableEq α] (L : Nat) (h : List α) (m : α) : List Nat := ((List.range' 0 h.length).zip h).filterMap fun p => (lk (fewT L (h.drop (p.1 + 1))) (m + -p.2)).map (· + 1)
theorem cnts_pos {α : Type} [Gr α] [DecidableEq α] {L : Nat} {h : List α} {m : α} (hL : h.length ≤ L) {c : Nat} (hc : c ∈ cnts L h m) : 1 ≤ c ∧ 0 < W h c m := by
  obtain ⟨p, hp, e⟩ := List.mem_filterMap.mp hc
  obtain ⟨b, hb, rfl⟩ := Option.map_eq_some_iff.mp e
  obtain ⟨hi, hd⟩ := zip_mem hp
  have := ((fewT_lk L (h.drop (p.1 + 1)) (by rw [List.length_drop]; omega) (m + -p.2)).1 b hb).1
  refine ⟨by omega, W_drop h p.1 ?_⟩
  rw [hd]
  exact W_cons_pos.mpr (.inr ⟨b, rfl, this⟩)
theorem cnts_le {α : Type} [Gr α] [DecidableEq α] {L : Nat} {h : List α} {m : α} (hL : h.length ≤ L) {k : Nat} (hk : 1 ≤ k) (hw : 0 < W h k m) : ∃ c ∈ cnts L h m, c ≤ k := by
  obtain ⟨i, x, hi, hd, w⟩ := W_first h k m hk hw
  have key := fewT_lk L (h.drop (i + 1)) (by rw [List.length_drop]; omega) (m + -x)
  cases e : lk (fewT L (h.drop (i + 1))) (m + -x) with
  | none => have := key.2 e (k - 1); omega
  | some b =>
    refine ⟨b + 1, List.mem_filterMap.mpr ⟨(i, x), mem_zip hi hd, by rw [e]; rfl⟩, ?_⟩
    rcases Nat.lt_or_ge (k - 1) b with hlt | hge
    · have := (key.1 b e).2 (k - 1) hlt; omega
    · omega
theorem map_natD (cs : List Nat) : cs.map natD = (cs.map fun k => ((k : Nat) : Int)).map .int := by rw [List.map_map]; rfl
abbrev ctD {d : DialT} (h : List (Mk d)) : List (PyData × PyData) := tb encP natD (cntT h)
theorem cnt_mem {d : DialT} {h : List (Mk d)} {k : Nat × Mk d} (hk : k ∈ (cntT h).map (·.1)) : 0 < W h k.1 k.2 := by
  have := (lk_mem k _).mpr hk
  rw [show k = (k.1, k.2) from rfl, cntT_lk] at this
  split at this
  · assumption
  · simp at this
def wI {d : DialT} (h : List (Mk d)) (n : Int) (m : Mk d) : Nat := if n < 0 then 0 else W h n.toNat m
theorem cnt_getD {d : DialT} (h : List (Mk d)) (n : Nat) (m : Mk d) : (lk (cntT h) (n, m)).getD 0 = W h n m := by
  rw [cntT_lk]
  split
  · rfl
  · simp; omega
theorem get_cnt {d : DialT} {h : List (Mk d)} {n : Int} {m : Mk d} {Q : PyData → Prop} (hq : Q (natD (wI h n m))) :
    (∀ x, Look (ctD h) (.tuple [.int n, encM m]) = some x → Q x) ∧ (Look (ctD h) (.tuple [.int n, encM m]) = none → Q (natD 0)) := by
  by_cases hn : n < 0
  · unfold wI at hq
    rw [if_pos hn] at hq
    refine ⟨fun x hx => ?_, fun _ => hq⟩
    exfalso
    unfold Look at hx
    obtain ⟨p, hp, _⟩ := Option.map_eq_some_iff.mp hx
    have h1 := List.find?_some hp
    have h2 := List.mem_of_find?_eq_some hp
    simp only [decide_eq_true_eq] at h1
    obtain ⟨q, _, rfl⟩ := List.mem_map.mp h2
    have h1 : PyData.tuple [.int ((q.1.1 : Nat) : Int), tupI q.1.2.1] = .tuple [.int n, encM m] := h1
    simp only [PyData.tuple.injEq, List.cons.injEq, PyData.int.injEq] at h1
    omega
  · unfold wI at hq
    rw [if_neg hn] at hq
    have := get_tb (enc := encP) (val := natD) (t := cntT h) (k := (n.toNat, m)) (z0 := 0) (Q := Q) (fun _ _ => encP_inj) (by rw [cnt_getD]; exact hq)
    have e : encP (n.toNat, m) = .tuple [.int n, encM m] := by
      show PyData.tuple [.int ((n.toNat : Nat) : Int), encM m] = _
      rw [Int.toNat_of_nonneg (by omega)]
    rw [e] at this
    exact this
/-- a deck, n draws at most so far -/
structure Dk (b c n : Int) : Prop where
  b0 : 0 ≤ b
  b1 : b < 2147483579
  c0 : 0 ≤ c
  c1 : c ≤ n
theorem Dk.up {b c n k : Int} (h : Dk b c n) (hk : n ≤ k) : Dk b c k := ⟨h.b0, h.b1, h.c0, by have := h.c1; omega⟩
theorem divD1 (a : Int) : DivD [a] := fun s hs => by simp at hs; subst hs; exact Int.dvd_refl _
theorem divD2 {a b : Int} (h : a ∣ b) : DivD [a, b] := fun s hs => by
  simp at hs
  rcases hs with rfl | rfl
  · exact h
  · exact Int.dvd_refl _
abbrev wyT {d : DialT} (h : List (Mk d)) (n : Int) : List (PyData × PyData) := tb encM natD (tabF (wI h n))
theorem wyT_puts {d : DialT} (h : List (Mk d)) (n : Int) : Puts [] (wyT h n) = wyT h n := puts_self (fun _ _ => encM_inj) (tabF_nodup _)
theorem fm_filter {p : Nat → Bool} : ∀ l : List Nat, l.filterMap (fun k => if p k = true then some (natD k) else none) = (l.filter p).map natD
  | [] => rfl
  | x :: l => by
    rw [List.filterMap_cons, List.filter_cons, fm_filter l]
    cases p x <;> simp
theorem any_nat (ks : List Nat) (k : Nat) : (ks.map natD).any (fun z => PyData.eqv z (natD k)) = decide (k ∈ ks) := by
  induction ks with
  | nil => simp
  | cons x ks ih =>
    rw [List.map_cons, List.any_cons, ih, eqv_int]
    by_cases e : x = k
    · subst e; simp
    · have e' : ¬ ((x : Nat) : Int) = ((k : Nat) : Int) := fun z => e (Int.ofNat.inj z)
      have e2 : ¬ k = x := fun z => e z.symm
      rw [decide_eq_false e', Bool.false_or]
      simp [e2]
theorem eqv_bool (a b : Bool) : PyData.eqv (.bool a) (.bool b) = decide (a = b) := by
  rw [PyData.eqv]
  cases a <;> cases b <;> rfl
theorem dok_nats (n : Nat) (ks : List Nat) : Dok (n + 1) (.list (ks.map natD)) := fun x hx => by
  obtain ⟨k, _, rfl⟩ := List.mem_map.mp hx
  exact dok_int n _
theorem eqv_nats (a b : List Nat) : PyData.eqv (.list (a.map natD)) (.list (b.map natD)) = decide (a = b) := by
  rw [map_natD, map_natD]
  refine (eqv_lstI _ _).trans ?_
  by_cases h : a = b
  · subst h; simp
  · have : ¬ a.map (fun k => ((k : Nat) : Int)) = b.map (fun k => ((k : Nat) : Int)) := fun e => h ((List.map_inj_right fun x y e => Int.ofNat.inj e).mp e)
    simp [h, this]
theorem range_split {n : Nat} {pre post : List Nat} {x : Nat} (h : List.range n = pre ++ x :: post) : pre = List.range x ∧ x < n := by
  have hx : x = pre.length := by
    have h1 : (List.range n)[pre.length]? = some x := by rw [h]; simp
    rw [List.getElem?_eq_some_iff] at h1
    obtain ⟨h2, h3⟩ := h1
    rw [List.getElem_range] at h3
    exact h3.symm
  have hl := congrArg List.length h
  simp at hl
  refine ⟨?_, by omega⟩
  have : pre = (List.range n).take pre.length := by rw [h]; simp
  rw [this, List.take_range, hx]
  congr 1
  omega
theorem most_W {α : Type} [Gr α] [DecidableEq α] {h : List α} {m : α} {n : Nat} (hw : 0 < W h n m) (hz : ∀ k, 1 ≤ k → k < n → W h k m = 0) (h1 : ¬ m = totG h) (h2 : ¬ m = 0) :
    1 ≤ h.length - n ∧ 0 < W h (h.length - n) (totG h + -m) ∧ ∀ k, h.length - n < k → W h k (totG h + -m) = 0 := by
  have hn := W_le hw
  have e1 : 0 < W h (h.length - n) (totG h + -m) := by rwa [← W_compl h n m hn]
  refine ⟨?_, e1, fun k hk => ?_⟩
  · rcases Nat.eq_zero_or_pos (h.length - n) with z | z
    · rw [z, W_zero] at e1
      split at e1
      · rename_i e
        refine absurd ?_ h1
        have := compl2 (totG h) m
        rw [e, Gr.nzero, Gr.addz] at this
        exact this.symm
      · omega
    · exact z
  · rcases Nat.lt_or_ge h.length k with z | z
    · exact W_big h k _ z
    · rw [W_compl h k _ z, compl2]
      rcases Nat.eq_zero_or_pos (h.length - k) with y | y
      · rw [y, W_zero, if_neg h2]
      · exact hz _ y (by omega)
theorem tbI {d : DialT} (f : Mk d → Nat) : tb encM natD (tabF f) = tb encM PyData.int (tabF fun m => ((f m : Nat) : Int)) := by
  unfold tb tabF
  rw [List.map_map, List.map_map]
  rfl
def restI {d : DialT} (h : List (Mk d)) (k : Nat) (m : Mk d) : Int := ((Wall h m : Nat) : Int) - ((((List.range k).map fun n => W h n m).sum : Nat) : Int)
theorem restI_zero {d : DialT} (h : List (Mk d)) : restI h (h.length + 1) = fun _ => 0 := by
  funext m
  unfold restI Wall
  omega
theorem restI_succ {d : DialT} (h : List (Mk d)) (k : Nat) (m : Mk d) : restI h (k + 1) m = restI h k m - ((wI h ((k : Nat) : Int) m : Nat) : Int) := by
  unfold restI wI
  rw [List.range_succ, List.map_append, List.sum_append, if_neg (by omega)]
  simp
  omega
theorem rng_nat (k : Nat) : ((List.range ((((k : Nat) : Int)).toNat)).map fun i => PyData.int ((i : Nat) : Int)) = (List.range k).map natD := by rw [Int.toNat_natCast]
theorem cutD_take (xs : List PyData) (k : Nat) : cutD xs none (some (k : Int)) = xs.take k := by
  unfold cutD
  rw [HT.sIx_none, HT.sIx_nat, List.drop_zero, Nat.sub_zero]
  by_cases h : k ≤ xs.length
  · rw [Nat.min_eq_left h]
  · rw [Nat.min_eq_right (by omega), List.take_of_length_le (Nat.le_refl _), List.take_of_length_le (by omega)]
abbrev cbD {d : DialT} (h : List (Mk d)) : PyData := .dict (tb encP natD (cntB h))
theorem rise_uniq : ∀ {a b : List Int}, a.Pairwise (· < ·) → b.Pairwise (· < ·) → (∀ x, x ∈ a ↔ x ∈ b) → a = b
  | [], [], _, _, _ => rfl
  | [], y :: b, _, _, h => by have := (h y).mpr (by simp); simp at this
  | x :: a, [], _, _, h => by have := (h x).mp (by simp); simp at this
  | x :: a, y :: b, ha, hb, h => by
    rw [List.pairwise_cons] at ha hb
    have e : x = y := by
      rcases List.mem_cons.mp ((h x).mp (by simp)) with e | e
      · exact e
      · rcases List.mem_cons.mp ((h y).mpr (by simp)) with e2 | e2
        · exact e2.symm
        · have h1 := hb.1 x e
          have h2 := ha.1 y e2
          omega
    subst e
    congr 1
    refine rise_uniq ha.2 hb.2 fun z => ⟨fun hz => ?_, fun hz => ?_⟩
    · rcases List.mem_cons.mp ((h z).mp (by simp [hz])) with e | e
      · have := ha.1 z hz; omega
      · exact e
    · rcases List.mem_cons.mp ((h z).mpr (by simp [hz])) with e | e
      · have := hb.1 z hz; omega
      · exact e
theorem sols_nats : ∀ ks : List Nat, Sols (ks.map natD)
  | [] => trivial
  | k :: ks => ⟨trivial, sols_nats ks⟩
theorem atI_end {α : Type} (xs : List α) (x : α) : atI (xs ++ [x]) (-1) = some x := by
  unfold atI ixN
  rw [if_neg (by decide), if_pos (by simp; omega)]
  simp
  rw [show (-1 + ((xs.length : Int) + 1)).toNat = xs.length by omega]
  simp
theorem look_cb {d : DialT} (h : List (Mk d)) (n : Nat) (m : Mk d) : (Look (tb encP natD (cntB h)) (encP (n, m))).isSome = decide (0 < W h n m) := by
  rw [look_tb (fun _ _ => encP_inj), cntB_lk]
  by_cases hw : 0 < W h n m
  · rw [if_pos hw, decide_eq_true hw]; rfl
  · rw [if_neg hw, decide_eq_false hw]; rfl
theorem getD_dropN {α : Type} (h : List α) (i e : Nat) (z : α) : (h.drop i).getD e z = h.getD (i + e) z := by
  simp [List.getD_eq_getElem?_getD]
theorem atI_getD {d : DialT} {h : List (Mk d)} {i : Nat} (hi : i < h.length) : atI (h.map encM) ((i : Nat) : Int) = some (encM (h.getD i 0)) := by
  rw [atI_map hi]
  simp [List.getD_eq_getElem?_getD, hi]
theorem fm_map {α β : Type} (p : α → Bool) (f : α → β) : ∀ l : List α, l.filterMap (fun k => if p k = true then some (f k) else none) = (l.filter p).map f
  | [] => rfl
  | x :: l => by
    rw [List.filterMap_cons, List.filter_cons, fm_map p f l]
    cases p x <;> simp
theorem cut_end (xs : List PyData) (x : PyData) : cutD (xs ++ [x]) none (some (-1)) = xs := by
  unfold cutD
  rw [HT.sIx_none, List.drop_zero, Nat.sub_zero]
  have : HT.sIx (xs ++ [x]).length (xs ++ [x]).length (some (-1)) = xs.length := by
    simp only [HT.sIx]
    rw [if_pos (by decide)]
    simp
    omega
  rw [this]
  simp
theorem rise_len : ∀ (ks : List Nat) (i n : Nat), ks.Pairwise (· < ·) → (∀ k ∈ ks, i ≤ k ∧ k < n) → ks.length ≤ n - i
  | [], _, _, _, _ => by simp
  | k :: ks, i, n, hp, hb => by
    rw [List.pairwise_cons] at hp
    have hk := hb k (by simp)
    have := rise_len ks (k + 1) n hp.2 fun x hx => ⟨hp.1 x hx, (hb x (by simp [hx])).2⟩
    simp only [List.length_cons]
    omega
end VV

/-! V39: sets of marks: rising lists, sums, what comes of parts -/
namespace VV
open PySem PySem.Spec L2
open PyProof.Rows hiding St

theorem perm_sorted {α : Type} {R : α → α → Prop} (ha : ∀ a b, R a b → R b a → a = b) : ∀ {l k : List α}, l.Perm k → l.Pairwise R → k.Pairwise R → l = k
  | [], k, hp, _, _ => (List.nil_perm.mp hp).symm
  | x :: l, [], hp, _, _ => absurd (List.perm_nil.mp hp) (by simp)
  | x :: l, y :: k, hp, hl, hk => by
    rw [List.pairwise_cons] at hl hk
    have e : x = y := by
      rcases List.mem_cons.mp (hp.mem_iff.mp (List.mem_cons_self (a := x) (l := l))) with e | hx
      · exact e
      · rcases List.mem_cons.mp (hp.mem_iff.mpr (List.mem_cons_self (a := y) (l := k))) with e | hy
        · exact e.symm
        · exact ha _ _ (hl.1 y hy) (hk.1 x hx)
    subst e
    rw [perm_sorted ha ((List.perm_cons x).mp hp) hl.2 hk.2]
theorem perm_of_nodup {α : Type} [DecidableEq α] {l k : List α} (hl : l.Nodup) (hk : k.Nodup) (h : ∀ x, x ∈ l ↔ x ∈ k) : l.Perm k := by
  rw [List.perm_iff_count]
  intro x
  rw [hl.count, hk.count]
  by_cases hx : x ∈ l
  · rw [if_pos hx, if_pos ((h x).mp hx)]
  · rw [if_neg hx, if_neg fun z => hx ((h x).mpr z)]
section
variable {d : DialT}
/-- the marks of which S is true, rising -/
def setL (S : Mk d → Bool) : List (Mk d) := (allK d).filter S
theorem mem_setL {S : Mk d → Bool} {m : Mk d} : m ∈ setL S ↔ S m = true := by
  unfold setL
  rw [List.mem_filter]
  exact ⟨fun h => h.2, fun h => ⟨allK_mem m, h⟩⟩
theorem setL_nodup (S : Mk d → Bool) : (setL S).Nodup := (allK_nodup d).filter _
theorem setL_rise (S : Mk d → Bool) : (setL S).Pairwise fun a b => a.1 < b.1 := (allK_rise d).filter _
theorem setL_len (S : Mk d → Bool) : (setL S).length ≤ 1600 := Nat.le_trans (List.length_filter_le _ _) (allK_len d)
theorem setL_ext {S T : Mk d → Bool} : setL S = setL T ↔ ∀ m, S m = T m := by
  constructor
  · intro h m
    have : m ∈ setL S ↔ m ∈ setL T := by rw [h]
    rw [mem_setL, mem_setL] at this
    exact Bool.eq_iff_iff.mpr this
  · intro h
    unfold setL
    exact List.filter_congr fun m _ => h m
theorem sort_set {ks : List (Mk d)} (hn : ks.Nodup) : sortM (ks.map (·.1)) = (setL fun m => decide (m ∈ ks)).map (·.1) := by
  have p1 : (sortM (ks.map (·.1))).Perm (ks.map (·.1)) := List.mergeSort_perm _ _
  have p2 : ks.Perm (setL fun m => decide (m ∈ ks)) := perm_of_nodup hn (setL_nodup _) fun m => by rw [mem_setL]; simp
  refine perm_sorted (R := fun a b : List Int => a ≤ b) (fun a b h1 h2 => List.le_antisymm h1 h2) (p1.trans (p2.map _)) ?_ ?_
  · have := List.pairwise_mergeSort (le := fun p q : List Int => decide (p ≤ q)) (fun a b c h1 h2 => by
      simp only [decide_eq_true_eq] at h1 h2 ⊢
      exact List.le_trans h1 h2) (fun a b => by
      simp only [Bool.or_eq_true, decide_eq_true_eq]
      exact List.le_total a b) (ks.map (·.1))
    exact this.imp fun h => by simpa using h
  · exact List.pairwise_map.mpr ((setL_rise _).imp fun h => List.le_of_lt h)
theorem pt_memK {κ ν : Type} [DecidableEq κ] (t : List (κ × ν)) (a : κ) (v : ν) (k : κ) : k ∈ (pt t a v).map (·.1) ↔ k = a ∨ k ∈ t.map (·.1) := by
  rw [← lk_mem, ← lk_mem, lk_pt]
  by_cases e : a = k
  · subst e; simp
  · have e2 : ¬ k = a := fun z => e z.symm
    rw [if_neg e]
    simp [e2]
def addS (A B : List (Mk d)) (m : Mk d) : Bool := A.any fun a => B.any fun b => decide (a + b = m)
theorem addS_iff {A B : List (Mk d)} {m : Mk d} : addS A B m = true ↔ ∃ a ∈ A, ∃ b ∈ B, a + b = m := by
  unfold addS
  simp [List.any_eq_true]
def comeB (h : List (Mk d)) (m : Mk d) : Bool := (List.range h.length).any fun n => decide (0 < W h (n + 1) m)
theorem comeB_iff {h : List (Mk d)} {m : Mk d} : comeB h m = true ↔ ∃ n, 1 ≤ n ∧ 0 < W h n m := by
  unfold comeB
  rw [List.any_eq_true]
  constructor
  · rintro ⟨n, _, hn⟩
    exact ⟨n + 1, by omega, of_decide_eq_true hn⟩
  · rintro ⟨n, h1, hn⟩
    have := W_le hn
    exact ⟨n - 1, List.mem_range.mpr (by omega), by rw [show n - 1 + 1 = n by omega]; exact decide_eq_true hn⟩
theorem come_snoc {h : List (Mk d)} {x m : Mk d} : (∃ n, 1 ≤ n ∧ 0 < W (h ++ [x]) n m) ↔ (∃ n, 1 ≤ n ∧ 0 < W h n m) ∨ m = x ∨ ∃ k, (∃ n, 1 ≤ n ∧ 0 < W h n k) ∧ k + x = m := by
  constructor
  · rintro ⟨n, h1, hn⟩
    obtain ⟨j, rfl⟩ : ∃ j, n = j + 1 := ⟨n - 1, by omega⟩
    rw [W_snoc] at hn
    by_cases h2 : 0 < W h (j + 1) m
    · exact .inl ⟨j + 1, by omega, h2⟩
    · have h3 : 0 < W h j (m + -x) := by omega
      cases j with
      | zero =>
        rw [W_zero] at h3
        split at h3
        · rename_i e
          exact .inr (.inl (by rw [Gr.sub_iff, Gr.zadd] at e; exact e))
        · omega
      | succ j => exact .inr (.inr ⟨m + -x, ⟨j + 1, by omega, h3⟩, Gr.canceln m x⟩)
  · rintro (⟨n, h1, hn⟩ | rfl | ⟨k, ⟨n, h1, hn⟩, rfl⟩)
    · obtain ⟨j, rfl⟩ : ∃ j, n = j + 1 := ⟨n - 1, by omega⟩
      exact ⟨j + 1, h1, by rw [W_snoc]; omega⟩
    · exact ⟨1, by omega, by rw [W_snoc, W_zero, if_pos (Gr.addn m)]; omega⟩
    · exact ⟨n + 1, by omega, by rw [W_snoc, Gr.cancelp]; omega⟩
theorem any_encM (A : List (Mk d)) (m : Mk d) : (A.map encM).any (fun z => PyData.eqv z (encM m)) = decide (m ∈ A) := by
  induction A with
  | nil => simp
  | cons a A ih =>
    rw [List.map_cons, List.any_cons, ih, eqv_encM]
    by_cases e : a = m
    · subst e; simp
    · have e2 : ¬ m = a := fun z => e z.symm
      simp [e, e2]
theorem mark_ne (m : Mk d) : m.1 ≠ [] := fun e => by
  have h1 := mk_len m
  have h2 := dial_len d
  rw [e] at h1
  simp at h1
  omega
end
end VV

/-! V40: multiples, rounds, closed sets -/
namespace VV
open PySem PySem.Spec L2
open PyProof.Rows hiding St

section
variable {α : Type} [Gr α]
/-- so many times a mark -/
def nm : Nat → α → α
  | 0, _ => 0
  | n + 1, m => nm n m + m
theorem nm_one (m : α) : nm 1 m = m := Gr.zadd m
theorem nm_add (m : α) (i : Nat) : ∀ j, nm (i + j) m = nm i m + nm j m
  | 0 => (Gr.addz _).symm
  | j + 1 => by
    show nm (i + j) m + m = nm i m + (nm j m + m)
    rw [nm_add m i j, Gr.assoc]
theorem nm_zero : ∀ n, nm n (0 : α) = 0
  | 0 => rfl
  | n + 1 => by rw [nm, nm_zero n, Gr.zadd]
theorem nm_plus (a b : α) : ∀ n, nm n (a + b) = nm n a + nm n b
  | 0 => (Gr.zadd _).symm
  | n + 1 => by
    show nm n (a + b) + (a + b) = nm n a + a + (nm n b + b)
    rw [nm_plus a b n, Gr.assoc, ← Gr.assoc (nm n b), Gr.comm (nm n b) a, Gr.assoc a, ← Gr.assoc]
theorem nm_mul (m : α) (i : Nat) : ∀ j, nm (i * j) m = nm j (nm i m)
  | 0 => rfl
  | j + 1 => by rw [Nat.mul_succ, nm_add, nm_mul m i j, nm]
/-- r is the mark's round -/
structure Rnd (m : α) (r : Nat) : Prop where
  pos : 1 ≤ r
  zero : nm r m = 0
  least : ∀ j, 1 ≤ j → j < r → nm j m ≠ 0
theorem Rnd.mod {m : α} {r : Nat} (h : Rnd m r) (n : Nat) : nm n m = nm (n % r) m := by
  conv => lhs; rw [← Nat.div_add_mod n r]
  rw [nm_add, nm_mul, h.zero, nm_zero, Gr.zadd]
theorem Rnd.dvd {m : α} {r : Nat} (h : Rnd m r) {n : Nat} (hn : nm n m = 0) : n % r = 0 := by
  rw [h.mod] at hn
  rcases Nat.eq_zero_or_pos (n % r) with z | z
  · exact z
  · exact absurd hn (h.least _ z (Nat.mod_lt _ h.pos))
theorem Rnd.inj {m : α} {r : Nat} (h : Rnd m r) {i j : Nat} (hi : i < r) (hj : j < r) (e : nm i m = nm j m) : i = j := by
  have key : ∀ i j, i < j → j < r → nm i m = nm j m → False := fun i j hij hj e => by
    have e2 : nm (j - i) m = 0 := by
      have h1 := nm_add m (j - i) i
      rw [show j - i + i = j by omega, ← e] at h1
      exact Gr.cancel (c := nm i m) (by rw [← h1, Gr.zadd])
    exact h.least (j - i) (by omega) (by omega) e2
  rcases Nat.lt_trichotomy i j with z | z | z
  · exact (key i j z hj e).elim
  · exact z
  · exact (key j i z hi e.symm).elim
/-- what comes of adding up marks of a list, again and again -/
inductive Gen (ms : List α) : α → Prop
  | zero : Gen ms 0
  | add {a x : α} : Gen ms a → x ∈ ms → Gen ms (a + x)
theorem Gen.one {ms : List α} {x : α} (h : x ∈ ms) : Gen ms x := by
  have := Gen.add .zero h
  rwa [Gr.zadd] at this
theorem Gen.plus {ms : List α} {a b : α} (ha : Gen ms a) (hb : Gen ms b) : Gen ms (a + b) := by
  induction hb with
  | zero => rwa [Gr.addz]
  | add _ hx ih => rw [← Gr.assoc]; exact .add ih hx
theorem Gen.nm {ms : List α} {a : α} (ha : Gen ms a) : ∀ n, Gen ms (nm n a)
  | 0 => .zero
  | n + 1 => (ha.nm n).plus ha
theorem Gen.mono {ms ks : List α} (h : ∀ x ∈ ms, Gen ks x) {a : α} (ha : Gen ms a) : Gen ks a := by
  induction ha with
  | zero => exact .zero
  | add _ hx ih => exact ih.plus (h _ hx)
theorem Gen.into {ms : List α} {P : α → Prop} (h0 : P 0) (h1 : ∀ a b, P a → P b → P (a + b)) (hm : ∀ x ∈ ms, P x) {a : α} (ha : Gen ms a) : P a := by
  induction ha with
  | zero => exact h0
  | add _ hx ih => exact h1 _ _ ih (hm _ hx)
/-- every mark has a round -/
def Turn (α : Type) [Gr α] : Prop := ∀ m : α, ∃ r, 1 ≤ r ∧ VV.nm r m = 0
theorem Gen.neg (ht : Turn α) {ms : List α} {a : α} (ha : Gen ms a) : Gen ms (-a) := by
  obtain ⟨r, r1, hr⟩ := ht a
  have : -a = VV.nm (r - 1) a := by
    refine (Gr.neg_of ?_).symm
    have h := nm_add a (r - 1) 1
    rw [show r - 1 + 1 = r by omega, hr, nm_one] at h
    exact h.symm
  rw [this]
  exact ha.nm _
theorem Gen.snoc {ms : List α} {m x : α} : Gen (ms ++ [m]) x ↔ ∃ a, Gen ms a ∧ ∃ k, a + VV.nm k m = x := by
  constructor
  · intro h
    induction h with
    | zero => exact ⟨0, .zero, 0, Gr.addz 0⟩
    | @add b y _ hy ih =>
      obtain ⟨a, ha, k, rfl⟩ := ih
      rcases List.mem_append.mp hy with hy | hy
      · exact ⟨a + y, .add ha hy, k, by rw [Gr.swap]⟩
      · rw [List.mem_singleton] at hy
        subst hy
        exact ⟨a, ha, k + 1, by rw [VV.nm, Gr.assoc]⟩
  · rintro ⟨a, ha, k, rfl⟩
    exact (ha.mono fun x hx => .one (by simp [hx])).plus ((Gen.one (by simp)).nm k)
/-- marks of the first kind and at most k times m -/
def Upto (ms : List α) (m : α) (k : Nat) (x : α) : Prop := ∃ a, Gen ms a ∧ ∃ i, i ≤ k ∧ a + VV.nm i m = x
theorem Upto.zero {ms : List α} {m x : α} : Upto ms m 0 x ↔ Gen ms x := by
  constructor
  · rintro ⟨a, ha, i, hi, rfl⟩
    have : i = 0 := by omega
    subst this
    show Gen ms (a + 0)
    rwa [Gr.addz]
  · intro h
    exact ⟨x, h, 0, Nat.le_refl _, Gr.addz x⟩
theorem Upto.succ {ms : List α} {m x : α} {k : Nat} : Upto ms m (k + 1) x ↔ Upto ms m k x ∨ ∃ y, Upto ms m k y ∧ y + m = x := by
  constructor
  · rintro ⟨a, ha, i, hi, rfl⟩
    by_cases e : i ≤ k
    · exact .inl ⟨a, ha, i, e, rfl⟩
    · have : i = k + 1 := by omega
      subst this
      exact .inr ⟨a + VV.nm k m, ⟨a, ha, k, Nat.le_refl _, rfl⟩, by rw [VV.nm, Gr.assoc]⟩
  · rintro (⟨a, ha, i, hi, rfl⟩ | ⟨y, ⟨a, ha, i, hi, rfl⟩, rfl⟩)
    · exact ⟨a, ha, i, by omega, rfl⟩
    · exact ⟨a, ha, i + 1, by omega, by rw [VV.nm, Gr.assoc]⟩
theorem Upto.gen {ms : List α} {m x : α} {k : Nat} (h : Upto ms m k x) : Gen (ms ++ [m]) x := by
  obtain ⟨a, ha, i, _, e⟩ := h
  exact Gen.snoc.mpr ⟨a, ha, i, e⟩
theorem Upto.add {ms : List α} {m x a : α} {k : Nat} (h : Upto ms m k x) (ha : Gen ms a) : Upto ms m k (a + x) := by
  obtain ⟨b, hb, i, hi, rfl⟩ := h
  exact ⟨a + b, ha.plus hb, i, hi, Gr.assoc _ _ _⟩
/-- as soon as nothing new comes, all has come -/
theorem Upto.full {ms : List α} {m : α} {k : Nat} (h : ∀ x, Upto ms m (k + 1) x → Upto ms m k x) {x : α} (hx : Gen (ms ++ [m]) x) : Upto ms m k x := by
  obtain ⟨a, ha, i, rfl⟩ := Gen.snoc.mp hx
  have : ∀ i, Upto ms m k (VV.nm i m) := fun i => by
    induction i with
    | zero => exact ⟨0, .zero, 0, Nat.zero_le _, Gr.addz 0⟩
    | succ i ih => exact h _ (Upto.succ.mpr (.inr ⟨_, ih, rfl⟩))
  exact (this i).add ha
end
section
variable {d : DialT}
theorem tmul_nm (m : Mk d) : ∀ n : Nat, tmul ((n : Nat) : Int) m = nm n m
  | 0 => tmul_zero m
  | n + 1 => by
    rw [nm, ← tmul_nm m n]
    have := tmul_add ((n : Nat) : Int) 1 m
    rw [tmul_one] at this
    rw [this]
    rfl
theorem turn_mk : Turn (Mk d) := fun m => by
  have hb := prod_bound d.2.good
  refine ⟨(prodM d.1).toNat, by omega, ?_⟩
  rw [← tmul_nm, Int.toNat_of_nonneg (by omega)]
  have := times_per m.2 1
  rw [Int.one_mul] at this
  exact Subtype.ext this
noncomputable def gB (ms : List (Mk d)) (m : Mk d) : Bool := @decide (Gen ms m) (Classical.propDecidable _)
theorem gB_iff {ms : List (Mk d)} {m : Mk d} : gB ms m = true ↔ Gen ms m := @decide_eq_true_iff _ (Classical.propDecidable _)
/-- the rising list of all that the marks give -/
noncomputable def genL (ms : List (Mk d)) : List (Mk d) := setL (gB ms)
theorem mem_genL {ms : List (Mk d)} {m : Mk d} : m ∈ genL ms ↔ Gen ms m := by
  unfold genL
  rw [mem_setL, gB_iff]
theorem setL_eq {S T : Mk d → Bool} (h : ∀ m, S m = true ↔ T m = true) : setL S = setL T := setL_ext.mpr fun m => Bool.eq_iff_iff.mpr (h m)
/-- a rising list is told by its members -/
theorem setL_mem {S : Mk d → Bool} {A : List (Mk d)} (h : ∀ m, m ∈ A ↔ S m = true) : setL (fun m => decide (m ∈ A)) = setL S := setL_eq fun m => by rw [decide_eq_true_eq, h]
theorem genL_eq {ms : List (Mk d)} {S : Mk d → Bool} (h : ∀ m, S m = true ↔ Gen ms m) : setL S = genL ms := setL_eq fun m => by rw [h, gB_iff]
theorem len_lt {S T : Mk d → Bool} (h : ∀ m, S m = true → T m = true) {x : Mk d} (h1 : T x = true) (h2 : S x = false) : (setL S).length < (setL T).length := by
  have hn : (x :: setL S).Nodup := List.nodup_cons.mpr ⟨fun z => (by rw [mem_setL, h2] at z; cases z), setL_nodup S⟩
  have := nodup_len (L := setL T) hn fun y hy => by
    rcases List.mem_cons.mp hy with e | hy
    · rw [e]; exact mem_setL.mpr h1
    · exact mem_setL.mpr (h y (mem_setL.mp hy))
  rw [List.length_cons] at this
  omega
end
end VV

/-! V41: sides of a set -/
namespace VV
open PySem PySem.Spec L2
open PyProof.Rows hiding St
section
variable {d : DialT}
def sideF (A : List (Mk d)) (f : List (List (Mk d))) (m : Mk d) : List (List (Mk d)) := if (f.any fun s => decide (m ∈ s)) = true then f else f ++ [setL (addS A [m])]
def sideL (A : List (Mk d)) : List (List (Mk d)) := (allK d).foldl (sideF A) []
theorem sideF_len (A : List (Mk d)) : ∀ (l : List (Mk d)) (f : List (List (Mk d))), (l.foldl (sideF A) f).length ≤ f.length + l.length
  | [], f => by simp
  | m :: l, f => by
    have := sideF_len A l (sideF A f m)
    have h : (sideF A f m).length ≤ f.length + 1 := by
      unfold sideF
      split
      · omega
      · simp
    rw [List.foldl_cons, List.length_cons]
    omega
theorem mem_side {ms : List (Mk d)} {m x : Mk d} : x ∈ setL (addS (genL ms) [m]) ↔ ∃ a, Gen ms a ∧ a + m = x := by
  rw [mem_setL, addS_iff]
  constructor
  · rintro ⟨a, ha, b, hb, rfl⟩
    rw [List.mem_singleton] at hb
    rw [hb]
    exact ⟨a, mem_genL.mp ha, rfl⟩
  · rintro ⟨a, ha, rfl⟩
    exact ⟨a, mem_genL.mpr ha, m, by simp, rfl⟩
theorem side_same {ms : List (Mk d)} {m k x : Mk d} (h1 : x ∈ setL (addS (genL ms) [m])) (h2 : x ∈ setL (addS (genL ms) [k])) : setL (addS (genL ms) [m]) = setL (addS (genL ms) [k]) := by
  obtain ⟨a, ha, ea⟩ := mem_side.mp h1
  obtain ⟨b, hb, eb⟩ := mem_side.mp h2
  have go : ∀ (m k a b : Mk d), Gen ms a → Gen ms b → a + m = x → b + k = x → ∀ y, (∃ c, Gen ms c ∧ c + m = y) → ∃ c, Gen ms c ∧ c + k = y := fun m k a b ha hb ea eb y ⟨c, hc, e⟩ => by
    refine ⟨c + -a + b, (hc.plus (ha.neg turn_mk)).plus hb, ?_⟩
    rw [Gr.assoc, eb, ← ea, ← e, Gr.assoc, ← Gr.assoc (-a), Gr.nadd, Gr.zadd]
  refine setL_eq fun y => ?_
  rw [← mem_setL, ← mem_setL, mem_side, mem_side]
  exact ⟨go m k a b ha hb ea eb y, go k m b a hb ha eb ea y⟩
theorem side_len {ms : List (Mk d)} (m : Mk d) : (setL (addS (genL ms) [m])).length = (genL ms).length := by
  have p : (setL (addS (genL ms) [m])).Perm ((genL ms).map (· + m)) := perm_of_nodup (setL_nodup _) (nd_map_on (setL_nodup _) fun x _ y _ e => Gr.cancel e) fun x => by
    rw [mem_side, List.mem_map]
    exact ⟨fun ⟨a, ha, e⟩ => ⟨a, mem_genL.mpr ha, e⟩, fun ⟨a, ha, e⟩ => ⟨a, mem_genL.mp ha, e⟩⟩
  rw [p.length_eq, List.length_map]
/-- the sides found so far -/
structure SideI (ms : List (Mk d)) (pre : List (Mk d)) (f : List (List (Mk d))) : Prop where
  is : ∀ s ∈ f, ∃ m, s = setL (addS (genL ms) [m])
  nd : f.flatten.Nodup
  all : ∀ m ∈ pre, m ∈ f.flatten
theorem SideI.step {ms pre : List (Mk d)} {f : List (List (Mk d))} {m : Mk d} (h : SideI ms pre f) : SideI ms (pre ++ [m]) (sideF (genL ms) f m) := by
  unfold sideF
  by_cases hb : (f.any fun s => decide (m ∈ s)) = true
  · rw [if_pos hb]
    refine ⟨h.is, h.nd, fun x hx => ?_⟩
    rcases List.mem_append.mp hx with hx | hx
    · exact h.all x hx
    · rw [List.mem_singleton] at hx
      obtain ⟨s, hs, hm⟩ := List.any_eq_true.mp hb
      rw [hx]
      exact List.mem_flatten.mpr ⟨s, hs, of_decide_eq_true hm⟩
  · rw [if_neg hb]
    have hm : m ∈ setL (addS (genL ms) [m]) := mem_side.mpr ⟨0, .zero, Gr.zadd m⟩
    refine ⟨fun s hs => ?_, ?_, fun x hx => ?_⟩
    · rcases List.mem_append.mp hs with hs | hs
      · exact h.is s hs
      · rw [List.mem_singleton] at hs
        exact ⟨m, hs⟩
    · rw [List.flatten_append, List.nodup_append]
      refine ⟨h.nd, by simpa using setL_nodup _, fun x hx y hy e => ?_⟩
      subst e
      obtain ⟨s, hs, hxs⟩ := List.mem_flatten.mp hx
      have hy : x ∈ setL (addS (genL ms) [m]) := by simpa using hy
      obtain ⟨k, hk⟩ := h.is s hs
      have e := side_same (hk ▸ hxs) hy
      refine hb (List.any_eq_true.mpr ⟨s, hs, decide_eq_true ?_⟩)
      rw [hk, e]
      exact hm
    · rw [List.flatten_append]
      rcases List.mem_append.mp hx with hx | hx
      · exact List.mem_append_left _ (h.all x hx)
      · rw [List.mem_singleton] at hx
        rw [hx]
        exact List.mem_append_right _ (by simpa using hm)
theorem sides_fold {ms : List (Mk d)} : ∀ (l pre : List (Mk d)) (f : List (List (Mk d))), SideI ms pre f → SideI ms (pre ++ l) (l.foldl (sideF (genL ms)) f)
  | [], pre, f, h => by simpa using h
  | m :: l, pre, f, h => by
    have := sides_fold l (pre ++ [m]) _ h.step
    simpa using this
theorem sides_is (ms : List (Mk d)) : SideI ms (allK d) (sideL (genL ms)) := by
  have := sides_fold (ms := ms) (allK d) [] [] ⟨by simp, by simp, by simp⟩
  unfold sideL
  simpa using this
theorem flat_same {α : Type} {n : Nat} : ∀ {f : List (List α)}, (∀ s ∈ f, s.length = n) → f.flatten.length = f.length * n
  | [], _ => by simp
  | s :: f, h => by
    rw [List.flatten_cons, List.length_append, h s (by simp), flat_same fun t ht => h t (by simp [ht]), List.length_cons, Nat.succ_mul, Nat.add_comm]
theorem sides_count (ms : List (Mk d)) : (sideL (genL ms)).length * (genL ms).length = (allK d).length := by
  have h := sides_is ms
  have p : (sideL (genL ms)).flatten.Perm (allK d) := perm_of_nodup h.nd (allK_nodup d) fun x => ⟨fun _ => allK_mem x, fun hx => h.all x hx⟩
  rw [← p.length_eq]
  refine (flat_same fun s hs => ?_).symm
  obtain ⟨m, rfl⟩ := h.is s hs
  exact side_len m
/-- what keeps a side: the set itself -/
theorem keep_side (ms : List (Mk d)) (m : Mk d) : (setL fun g => decide (setL (addS (setL (addS (genL ms) [m])) [g]) = setL (addS (genL ms) [m]))) = genL ms := by
  refine genL_eq fun g => ?_
  rw [decide_eq_true_eq]
  have ms2 : ∀ x, x ∈ setL (addS (setL (addS (genL ms) [m])) [g]) ↔ ∃ a, Gen ms a ∧ a + m + g = x := fun x => by
    rw [mem_setL, addS_iff]
    constructor
    · rintro ⟨y, hy, b, hb, rfl⟩
      rw [List.mem_singleton] at hb
      obtain ⟨a, ha, rfl⟩ := mem_side.mp hy
      rw [hb]
      exact ⟨a, ha, rfl⟩
    · rintro ⟨a, ha, rfl⟩
      exact ⟨a + m, mem_side.mpr ⟨a, ha, rfl⟩, g, by simp, rfl⟩
  constructor
  · intro e
    have hx : m + g ∈ setL (addS (setL (addS (genL ms) [m])) [g]) := (ms2 _).mpr ⟨0, .zero, by rw [Gr.zadd]⟩
    rw [e] at hx
    obtain ⟨a, ha, ea⟩ := mem_side.mp hx
    rw [Gr.comm m g] at ea
    exact Gr.cancel ea ▸ ha
  · intro hg
    refine setL_eq fun x => ?_
    rw [← mem_setL, ← mem_setL, ms2, mem_side]
    constructor
    · rintro ⟨a, ha, rfl⟩
      exact ⟨a + g, ha.plus hg, by rw [Gr.swap]⟩
    · rintro ⟨a, ha, rfl⟩
      exact ⟨a + -g, ha.plus (hg.neg turn_mk), by rw [Gr.swap, Gr.canceln]⟩
theorem zero_le {s m : List Int} (h : MarkOf s m) : ¬ m < zeroM s := by
  induction h with
  | nil => simp [zeroM]
  | @cons s p ss ps h1 h2 _ ih =>
    rw [zeroM_cons, List.cons_lt_cons_iff]
    rintro (h | ⟨_, h⟩)
    · omega
    · exact ih h
theorem allK_head (d : DialT) : ∃ t, allK d = 0 :: t := by
  have h0 := allK_mem (0 : Mk d)
  have hr := allK_rise d
  cases hd : allK d with
  | nil => rw [hd] at h0; simp at h0
  | cons x t =>
    rw [hd] at h0 hr
    rw [List.pairwise_cons] at hr
    rcases List.mem_cons.mp h0 with e | h
    · exact ⟨t, by rw [e]⟩
    · exact absurd (hr.1 0 h) (zero_le x.2)
theorem side_zero (ms : List (Mk d)) : setL (addS (genL ms) [0]) = genL ms := genL_eq fun x => by
  rw [← mem_setL, mem_side]
  constructor
  · rintro ⟨a, ha, rfl⟩; rwa [Gr.addz]
  · intro h; exact ⟨x, h, Gr.addz x⟩
theorem sideF_grow (A : List (Mk d)) : ∀ (l : List (Mk d)) (s : List (Mk d)) (f : List (List (Mk d))), ∃ g, l.foldl (sideF A) (s :: f) = s :: g
  | [], s, f => ⟨f, rfl⟩
  | m :: l, s, f => by
    rw [List.foldl_cons]
    unfold sideF
    split
    · exact sideF_grow A l s f
    · exact sideF_grow A l s (f ++ [setL (addS A [m])])
theorem sides_head (ms : List (Mk d)) : ∃ g, sideL (genL ms) = genL ms :: g := by
  obtain ⟨t, ht⟩ := allK_head d
  unfold sideL
  rw [ht, List.foldl_cons]
  have e : sideF (genL ms) [] 0 = [genL ms] := by
    unfold sideF
    rw [if_neg (by simp), side_zero]
    rfl
  rw [e]
  exact sideF_grow _ t _ []
/-- what one mark gives -/
theorem gen_one {m : Mk d} {r : Nat} (h : Rnd m r) {x : Mk d} : Gen [m] x ↔ x ∈ (List.range r).map fun n => nm n m := by
  rw [List.mem_map]
  constructor
  · intro hx
    obtain ⟨a, ha, k, rfl⟩ := (Gen.snoc (ms := []) (m := m)).mp hx
    have e : a = 0 := by
      cases ha with
      | zero => rfl
      | add _ hy => simp at hy
    exact ⟨k % r, List.mem_range.mpr (Nat.mod_lt _ h.pos), by rw [← h.mod, e, Gr.zadd]⟩
  · rintro ⟨n, _, rfl⟩
    exact (Gen.one (by simp)).nm n
theorem round_nodup {m : Mk d} {r : Nat} (h : Rnd m r) : ((List.range r).map fun n => nm n m).Nodup := nd_map_on List.nodup_range fun i hi j hj e => h.inj (List.mem_range.mp hi) (List.mem_range.mp hj) e
theorem gen_len {m : Mk d} {r : Nat} (h : Rnd m r) : (genL [m]).length = r := by
  have p : (genL [m]).Perm ((List.range r).map fun n => nm n m) := perm_of_nodup (setL_nodup _) (round_nodup h) fun x => by rw [mem_genL, gen_one h]
  rw [p.length_eq, List.length_map, List.length_range]
theorem gen_again (ms : List (Mk d)) : genL (genL ms) = genL ms := genL_eq fun x => by
  rw [gB_iff]
  exact ⟨fun h => h.mono fun y hy => mem_genL.mp hy, fun h => .one (mem_genL.mpr h)⟩
theorem gen_closed (ms : List (Mk d)) : ((setL (addS (genL ms) (genL ms))).all fun m => decide (m ∈ genL ms)) = true := List.all_eq_true.mpr fun x hx => decide_eq_true (by
  rw [mem_setL, addS_iff] at hx
  obtain ⟨a, ha, b, hb, rfl⟩ := hx
  exact mem_genL.mpr ((mem_genL.mp ha).plus (mem_genL.mp hb)))
theorem gen_both (ms ks : List (Mk d)) : setL (addS (genL ms) (genL ks)) = genL (ms ++ ks) := genL_eq fun x => by
  rw [addS_iff]
  constructor
  · rintro ⟨a, ha, b, hb, rfl⟩
    exact ((mem_genL.mp ha).mono fun y hy => .one (by simp [hy])).plus ((mem_genL.mp hb).mono fun y hy => .one (by simp [hy]))
  · intro h
    refine h.into (P := fun x => ∃ a ∈ genL ms, ∃ b ∈ genL ks, a + b = x) ⟨0, mem_genL.mpr .zero, 0, mem_genL.mpr .zero, Gr.addz 0⟩ (fun u v => ?_) fun y hy => ?_
    · rintro ⟨a, ha, b, hb, rfl⟩ ⟨a', ha', b', hb', rfl⟩
      refine ⟨a + a', mem_genL.mpr ((mem_genL.mp ha).plus (mem_genL.mp ha')), b + b', mem_genL.mpr ((mem_genL.mp hb).plus (mem_genL.mp hb')), ?_⟩
      rw [Gr.assoc, ← Gr.assoc a', Gr.comm a' b, Gr.assoc b, ← Gr.assoc]
    · rcases List.mem_append.mp hy with hy | hy
      · exact ⟨y, mem_genL.mpr (.one hy), 0, mem_genL.mpr .zero, Gr.addz y⟩
      · exact ⟨0, mem_genL.mpr .zero, y, mem_genL.mpr (.one hy), Gr.zadd y⟩
theorem gen_perm {ms ks : List (Mk d)} (h : ∀ x, x ∈ ms ↔ x ∈ ks) : genL ms = genL ks := genL_eq fun x => by
  rw [gB_iff]
  exact ⟨fun hx => hx.mono fun y hy => .one ((h y).mp hy), fun hx => hx.mono fun y hy => .one ((h y).mpr hy)⟩
theorem gen_none : genL ([] : List (Mk d)) = [0] := by
  refine perm_sorted (R := fun a b : Mk d => a.1 < b.1) (fun a b h1 h2 => absurd (List.lt_trans h1 h2) (List.lt_irrefl _)) (perm_of_nodup (setL_nodup _) (by simp) fun m => ?_) (setL_rise _) (List.pairwise_singleton _ _)
  show m ∈ genL [] ↔ _
  rw [mem_genL, List.mem_singleton]
  constructor
  · intro h
    cases h with
    | zero => rfl
    | add _ hx => simp at hx
  · rintro rfl; exact .zero
theorem rnd_prod {a b : Mk d} {r s t : Nat} (ha : Rnd a r) (hb : Rnd b s) (hc : Rnd (a + b) t) : r * s % t = 0 := by
  refine hc.dvd ?_
  rw [nm_plus, nm_mul, ha.zero, nm_zero, Nat.mul_comm, nm_mul, hb.zero, nm_zero, Gr.zadd]
theorem times_div {s m : List Int} (h : MarkOf s m) : ∀ n : Int, (∀ x ∈ s, x ∣ n) → timesM s n m = zeroM s := by
  induction h with
  | nil => intro n _; rfl
  | @cons s p ss ps h1 h2 _ ih =>
    intro n hn
    rw [timesM_cons, zeroM_cons, ih n fun x hx => hn x (by simp [hx])]
    obtain ⟨k, hk⟩ := hn s (by simp)
    rw [hk, Int.mul_assoc, Int.mul_emod_right]
theorem last_is (d : DialT) : ∃ (l : List Int) (x : Int), d.1 = l ++ [x] ∧ d.1.getLastD 1 = x ∧ 1 ≤ x := by
  have hne := d.2.good.1
  have e := List.dropLast_concat_getLast hne
  refine ⟨d.1.dropLast, d.1.getLast hne, e.symm, ?_, ?_⟩
  · rw [List.getLastD_eq_getLast?, List.getLast?_eq_some_getLast hne]
    rfl
  · have := (d.2.good.2.2 _ (List.getLast_mem hne)).1
    omega
theorem last_round {m : Mk d} {r : Nat} (h : Rnd m r) : d.1.getLastD 1 % ((r : Nat) : Int) = 0 := by
  obtain ⟨l, x, _, hx, h1⟩ := last_is d
  have e : nm (d.1.getLastD 1).toNat m = 0 := by
    rw [← tmul_nm, Int.toNat_of_nonneg (by omega)]
    exact Subtype.ext (times_div m.2 _ d.2.div)
  have := h.dvd e
  have e2 : d.1.getLastD 1 = (((d.1.getLastD 1).toNat : Nat) : Int) := by omega
  rw [e2]
  exact_mod_cast this
theorem W_rep {m : Mk d} : ∀ (n k : Nat) (x : Mk d), 0 < W (List.replicate n m) k x → x = nm k m ∧ k ≤ n
  | 0, k, x, h => by
    show _ ∧ _
    unfold W at h
    simp only [List.replicate_zero] at h
    split at h
    · rename_i e
      rw [e.1, e.2]
      exact ⟨rfl, Nat.le_refl _⟩
    · omega
  | n + 1, k, x, h => by
    rw [List.replicate_succ] at h
    rcases W_cons_pos.mp h with h2 | ⟨j, rfl, h2⟩
    · have := W_rep n k x h2
      exact ⟨this.1, by omega⟩
    · have := W_rep n j _ h2
      exact ⟨by rw [nm, ← this.1, Gr.canceln], by omega⟩
theorem W_all_rep {m : Mk d} : ∀ n : Nat, 0 < W (List.replicate n m) n (nm n m)
  | 0 => by show 0 < W [] 0 0; simp [W]
  | n + 1 => by
    rw [List.replicate_succ]
    exact W_cons_pos.mpr (.inr ⟨n, rfl, by rw [nm, Gr.cancelp]; exact W_all_rep n⟩)
theorem come_round {m : Mk d} {r : Nat} (h : Rnd m r) : comeB (List.replicate r m) 0 = true := comeB_iff.mpr ⟨r, h.pos, by have := W_all_rep (m := m) r; rwa [h.zero] at this⟩
theorem come_less {m : Mk d} {r : Nat} (h : Rnd m r) : comeB (List.replicate (r - 1) m) 0 = false := by
  rw [Bool.eq_false_iff]
  intro z
  obtain ⟨n, h1, h2⟩ := comeB_iff.mp z
  obtain ⟨e, hn⟩ := W_rep _ _ _ h2
  exact h.least n h1 (by have := h.pos; omega) e.symm
theorem rep_encM (m : Mk d) : ∀ k : Nat, (List.replicate k [encM m]).flatten = (List.replicate k m).map encM
  | 0 => rfl
  | k + 1 => by rw [List.replicate_succ, List.flatten_cons, rep_encM m k]; rfl
theorem setL_full {S : Mk d → Bool} (h : ∀ m, S m = true) : setL S = allK d := List.filter_eq_self.mpr fun m _ => h m
theorem gen_full {ms : List (Mk d)} (h : ∀ m, Gen ms m) : genL ms = allK d := setL_full fun m => gB_iff.mpr (h m)
theorem keep_full : (setL fun m => decide (setL (addS (allK d) [m]) = allK d)) = allK d := setL_full fun m => decide_eq_true (setL_full fun x => addS_iff.mpr ⟨x + -m, allK_mem _, m, by simp, Gr.canceln x m⟩)
theorem cut_head : cutD ((allK d).map encM) none (some 1) = ([0] : List (Mk d)).map encM := by
  obtain ⟨t, ht⟩ := allK_head d
  have := cutD_take ((allK d).map encM) 1
  rw [show ((1 : Nat) : Int) = 1 from rfl] at this
  rw [this, ht]
  rfl
end
end VV

/-! V42: enumerate of a list or a tuple -/
namespace VV
open PySem PySem.Spec L2
open PyProof.Rows hiding St
abbrev enO (a : Addr) : Obj := { cls := .type "enumerate", data := .fields #[.none, .bool false, .ref a, rawInt 0, .none, .none] }
set_option maxHeartbeats 1000000 in
theorem en_meets {v : Value} {o : Obj} {Hh : Heap → Prop} (B : Begins v o Hh) :
    Meets (Builtin.«enumerate.__new__» ⟨[.type "enumerate", v], []⟩) (fun _ R s => Hh s.heap ∧ R (.ok (.ret (.ref (s.heap.push o).objs.size))) { s with heap := (s.heap.push o).push (enO s.heap.objs.size) }) := by
  refine .of_wp fun P w A R s hs => ?_
  rcases s with ⟨hp, g, dr, tk, os⟩
  have sb := sub_enumerate
  have it : ∀ {A' : Around} {E : Value → Shared → Prop} {Q : Value → Shared → Prop}, Q (.ref hp.objs.size) ⟨hp.push o, g, dr, tk, os⟩ → wpAny (model P w) A' (pyIter v) Q E ⟨hp, g, dr, tk, os⟩ := fun q => B.iter P w _ _ ⟨hp, g, dr, tk, os⟩ _ hs.1 q
  wp_walk using it
  refine wpAny_stack_any fun _ => wpAny_pure ?_
  split
  · rename_i c _ _ _ _ _
    cases (c == Value.type "enumerate") <;> (wp_walk using it; exact ⟨_, rfl, hs.2⟩)
  · wp_walk using it
    exact ⟨_, rfl, hs.2⟩
section
variable {P : Program} {w : World} {A : Around} {E : Value → Shared → Prop} {s : Shared}
theorem en_call {k : Bool} {a : Addr} {items : Array Value} {Q : Value → Shared → Prop} (ha : SeqH k s.heap a items)
    (h : ∀ h', IsEnum h' (s.heap.objs.size + 1) s.heap.objs.size 0 .none → ItrH k h' s.heap.objs.size a 0 → (∀ b o, s.heap.get? b = some o → h'.get? b = some o) → Q (.ref (s.heap.objs.size + 1)) { s with heap := h' }) :
    wpAny (model P w) A (call (.type "enumerate") [.ref a]) Q E s := by
  have B := begins_k (k := k) a items
  refine callType_new PySem.F.called_enumerate (by decide) (PySem.F.typeCall_enumerate_1 _) (PySem.F.newCall_enumerate_1 _) (fun obj => PySem.F.args_object_init_2 obj _) PySem.F.entry_enumerate_new (en_meets B) ⟨ha, ?_⟩
  have sz : (s.heap.push (itrO k a)).objs.size = s.heap.objs.size + 1 := Heap.size_push ..
  have en : ((s.heap.push (itrO k a)).push (enO s.heap.objs.size)).get? (s.heap.objs.size + 1) = some (enO s.heap.objs.size) := by
    rw [← sz]
    exact Heap.get?_push_size _ rfl
  have itr := ItrH.new (k := k) (a := a) (Heap.get?_push_of_some (enO s.heap.objs.size) (Heap.get?_push_size s.heap B.free))
  show _ ∧ _
  rw [sz]
  exact ⟨⟨_, en, rfl⟩, h _ en itr fun b ob e => Heap.get?_push_of_some _ (Heap.get?_push_of_some _ e)⟩
end
/-- the things at a, each in a new pair behind its number -/
def ItK (K : PySem.W.Frag) (k : Bool) (a : Addr) : It :=
  ⟨fun i H => ∃ (xs : List V) (x : V), SqK K k H a xs ∧ xs[i]? = some x, fun i H v H' => ∃ T x, v = .ref T ∧ H T = none ∧ H' = upd H T (.tup [.int ((i : Nat) : Int), x]) ∧ ∀ xs, SqK K k H a xs → xs[i]? = some x, fun i H => ∃ xs : List V, SqK K k H a xs ∧ i = xs.length⟩
theorem turn_enK {P : Program} {w : World} {K : PySem.W.Frag} {elts : List Expr} {kk : Nat} {tpos : PySem.Pos} {k : Bool} {a e it : Addr} (na : a ≠ it) (nd : a ≠ e) (ne : e ≠ it) :
    L2.Turn P w K (.Tuple elts kk tpos) (ItK K k a) [e, it] e (fun i h => (∃ old, IsEnum h e it ((i : Nat) : Int) old) ∧ ItrH k h it a i) where
  mem := by simp
  obj := fun i h st c hc => by
    obtain ⟨⟨old, he⟩, hi⟩ := st
    rcases List.mem_cons.mp hc with q | hc
    · rw [q]; exact ⟨_, he, fun v q => nomatch q⟩
    · rw [List.mem_singleton] at hc
      rw [hc]; exact hi.obj
  keep := fun i h h' st kp => by
    obtain ⟨⟨old, he⟩, hi⟩ := st
    exact ⟨⟨old, kp e (by simp) _ he⟩, hi.at fun o q => kp it (by simp) o q⟩
  item := by
    intro X hP hw hK hc i pins s σ H E I hf st hg
    subst hP; subst hw; subst hK
    obtain ⟨⟨old, he⟩, hi⟩ := st
    obtain ⟨xs, x, hq, hx⟩ := hg
    obtain ⟨its, rv, p⟩ := Inv.sqK I hq
    obtain ⟨u, hu, ru⟩ := rv.get hx
    have g1 : its.toArray[i]? = some u := by simpa using hu
    have hel : e < s.heap.objs.size := Heap.lt_size he
    have nf : e ∉ [it, a] := by
      simp only [List.mem_cons, List.not_mem_nil, or_false, not_or]
      exact ⟨ne, fun z => nd z.symm⟩
    have hh : X.A.in1.handled = none := I.ok.hd hc
    refine wpAny_pyNext_enum_itemC (draws_k (k := k) hh it a na its.toArray) he ⟨hi, p⟩ (Array.getElem?_eq_some_iff.mp g1).1 ne nf fun y h' tk e1 ho s1 hT hsz hkk => ?_
    rw [g1] at e1
    cases e1
    refine ⟨_, rfl, wpAny_letOwnedTupleGo_enum (s := { s with heap := h', toks := tk + 1 }) ho fun h'' he' sb => ?_⟩
    have hT2 := (sb.2 _ (Nat.ne_of_gt hel)).trans hT
    have new : ObjOk X.prog X.w (upd H s.heap.objs.size (.tup [.int ((i : Nat) : Int), x])) h'' s.heap.objs.size (.tup [.int ((i : Nat) : Int), x]) :=
      ⟨by show 2 ≤ sizeLine; decide, [_, u], .cons ⟨_, rfl⟩ (.cons ru .nil), ⟨_, hT2, rfl, _, rfl⟩⟩
    have I1 : Inv X pins σ (upd H s.heap.objs.size (.tup [.int ((i : Nat) : Int), x])) { s with heap := h'', toks := tk + 1 } :=
      I.turnedNew (t' := tk + 1) (ch := [e, it]) (fun c o hb q => (sb.2 c fun z => hb (by simp [z])).trans (hkk c o (fun z => hb (by simp [z])) (fun z => hb (by simp [z])) q)) hf (Nat.le_refl _) new
    refine ⟨.ref s.heap.objs.size, _, I1, rfl, ⟨_, x, rfl, I.hok.fresh (Nat.le_refl _), rfl, fun l hl => by rw [Inv.sqK_inj I hl hq]; exact hx⟩, ⟨⟨u, ?_⟩, s1.1.at fun o q => (sb.2 it fun z => ne z.symm).trans q⟩, fun c hcm => ?_⟩
    · have e2 : ((i + 1 : Nat) : Int) = ((i : Nat) : Int) + 1 := by omega
      rw [e2]
      exact he'
    · have hlt : c < s.heap.objs.size := by
        rcases List.mem_cons.mp hcm with q | q
        · rw [q]; exact hel
        · rw [List.mem_singleton] at q
          rw [q]; exact hi.lt
      rw [upd_ne (Nat.ne_of_lt hlt)]
      exact (hf c hcm).1
  done := by
    intro X hP hw hK hc i pins s σ H E I hf st hg
    subst hP; subst hw; subst hK
    obtain ⟨⟨old, he⟩, hi⟩ := st
    obtain ⟨xs, hq, rfl⟩ := hg
    obtain ⟨its, rv, p⟩ := Inv.sqK I hq
    have hl := rv.length
    obtain ⟨f0, f1, f2, f3, f4, f5⟩ := hf it (by simp)
    have hh : X.A.in1.handled = none := I.ok.hd hc
    have hsz : its.toArray.size = xs.length := by rw [List.size_toArray]; omega
    have st : ItrH k s.heap it a its.toArray.size ∧ SeqH k s.heap a its.toArray := by rw [hsz]; exact ⟨hi, p⟩
    exact wpAny_pyNext_enum_endD (draws_k (k := k) hh it a na its.toArray) he st fun h' eb => ⟨rfl, I.turned (t' := s.toks) (fun b o hb q => eb b o hb q) f0 f1 f3 f4 f5⟩
  self := fun A i s Q E st h => let ⟨⟨_, he⟩, _⟩ := st; wpAny_pyIter_enum he h
def iEnK (K : PySem.W.Frag) (ta : TA) : TI := fun σ H R => ta σ H fun vs H1 => ∃ k a xs, vs = [.ref a] ∧ SqK K k H1 a xs ∧ R (ItK K k a) H1
theorem pi_enK {X : Cx} {e : Expr} {ta : TA} {p pos tpos : PySem.Pos} {elts : List Expr} {kk : Nat} (hg : Gl X "enumerate") (hm : X.mg "enumerate" = none) (ha : PA X [e] ta) (hs : starEach [e] X.env = [(false, eval e X.env)] := by rfl) :
    PI X (.Tuple elts kk tpos) (.Call (.Name "enumerate" p) [e] [] pos) (iEnK X.K ta) := ⟨fun pins s σ H R I h => by
  refine Call_ (ld_blt I hg hm PyProof.Rows.boot_enumerate (PyProof.Rows.callWith_type1 (thn (ha.run pos pins s σ H _ I h) fun us s1 hh => ?_) hs rfl))
  obtain ⟨vs, H1, I1, r1, k, a, xs, rfl, hq, q⟩ := hh
  obtain rfl := Vals.ref1 r1
  obtain ⟨its, rv, p'⟩ := Inv.sqK I1 hq
  have la := p'.lt
  refine en_call p' fun h' he hit hk => wpAny_pyIter_enum he ?_
  have I2 : Inv X pins σ H1 { s1 with heap := h' } := I1.kept (t' := s1.toks) hk
  refine ⟨s1.heap.objs.size + 1, [s1.heap.objs.size + 1, s1.heap.objs.size], _, _, H1, rfl, I2, turn_enK (Nat.ne_of_lt la) (Nat.ne_of_lt (Nat.lt_succ_of_lt la)) (Nat.succ_ne_self _), ⟨⟨.none, he⟩, hit⟩, fun c hc => ?_, q⟩
  have hle : s1.heap.objs.size ≤ c := by
    rcases List.mem_cons.mp hc with z | z
    · rw [z]; exact Nat.le_add_right _ _
    · rw [List.mem_singleton] at z
      rw [z]; exact Nat.le_refl _
  exact I1.fpOk hle (I1.hok.fresh hle)⟩
theorem walk_enK {K : PySem.W.Frag} {k : Bool} {a : Addr} {xs : List V} : Walk (ItK K k a) xs.length (fun H => SqK K k H a xs) (YPair (fun i => some (.int ((i : Nat) : Int))) (fun i => xs[i]?)) := by
  refine ⟨fun i _ hi q => ⟨xs, xs[i], q, by simp [hi]⟩, fun _ q => ⟨xs, q, rfl⟩, fun i H v H' _ q y => ?_⟩
  obtain ⟨T, x, h1, h2, h3, h4⟩ := y
  exact ⟨T, _, x, h1, h2, h3, rfl, h4 xs q⟩
theorem src_enK {f : Fr} {G : Hp} {k : Bool} {a : Addr} {xs : List V} {ds : List PyData} (r1 : Reps f.q G xs ds) (q1 : ∀ G1 T sl σ H, Same G G1 → Rel f G1 T sl σ H → SqK f.q.K k H a xs) : Src f G (ItK f.q.K k a) (enumD 0 ds) := by
  have w := walk_enK (K := f.q.K) (k := k) (a := a) (xs := xs)
  rw [r1.length, ← enumD_len ds 0] at w
  refine ⟨_, _, w, fun G1 T sl σ H e c => q1 _ _ _ _ _ e c, fun i e x H H' G1 T sl σ hi e1 c y => ?_⟩
  obtain ⟨t, x, y, rfl, ht, rfl, hx, hy⟩ := y
  obtain ⟨d, hd, rfl⟩ := enumD_get hi
  obtain ⟨u, hu, ru⟩ := r1.get hd
  have hy : xs[i]? = some y := hy
  have hx : some (V.int ((i : Nat) : Int)) = some x := hx
  cases hx
  rw [hy] at hu
  cases hu
  rw [Nat.zero_add]
  exact Rel.newTupE c ht (.cons (.int _) (.cons (ru.mono e1) .nil))
/-- enumerate of any sequence -/
def iEnS (wa : WA) : WI := fun sl Q => wa sl fun rs s1 => sqRs rs s1 fun xs s2 => match xs with
  | [(_, ds)] => Q (enumD 0 ds) s2
  | _ => False
theorem i_enS {X : Cx} {e : Expr} {wa : WA} {p pos tpos : PySem.Pos} {elts : List Expr} {kk : Nat} (hg : Gl X "enumerate") (hm : X.mg "enumerate" = none) (ha : PVA X [e] wa) (hs : starEach [e] X.env = [(false, eval e X.env)] := by rfl) :
    PVI X (.Tuple elts kk tpos) (.Call (.Name "enumerate" p) [e] [] pos) (iEnS wa) :=
  PI.imp (pi_enK hg hm ha hs) fun σ H Rr ⟨U, G0, G, T, sl, Qv, c, h, k⟩ => ⟨U, G0, G, T, sl, _, c, h, fun rs s1 hq G1 vs H1 e1 c1 => by
    obtain ⟨G2, xs, s2, e2, c2, hA, hk⟩ := c1.sq hq
    match xs, hk with
    | [(b, ds)], hk =>
      cases hA with
      | cons h1 hA =>
        cases hA
        obtain ⟨a, xs, rfl, r1, q1⟩ := h1
        exact ⟨b, a, xs, rfl, q1 _ _ _ _ _ (Same.refl _) c2, k _ _ hk _ _ _ (e1.trans e2) c2 (src_enK r1 q1)⟩⟩
end VV

/-! V43: bars -/
namespace VV
open PySem PySem.Spec L2
open PyProof.Rows hiding St
theorem lexLt_of : ∀ {a b : List Int}, a < b → HT.lexLt a b = true
  | [], [], h => absurd h (List.lt_irrefl _)
  | [], _ :: _, _ => rfl
  | _ :: _, [], h => absurd h (by simp)
  | x :: xs, y :: ys, h => by
    rw [HT.lexLt_cons]
    rcases List.cons_lt_cons_iff.mp h with h | ⟨e, h⟩
    · rw [if_neg (by omega)]; exact decide_eq_true h
    · rw [if_pos e]; exact lexLt_of h
theorem of_lexLt : ∀ {a b : List Int}, HT.lexLt a b = true → a < b
  | [], [], h => by cases h
  | [], _ :: _, _ => List.nil_lt_cons _ _
  | _ :: _, [], h => by cases h
  | x :: xs, y :: ys, h => by
    rw [HT.lexLt_cons] at h
    by_cases e : x = y
    · rw [if_pos e] at h; exact List.cons_lt_cons_iff.mpr (.inr ⟨e, of_lexLt h⟩)
    · rw [if_neg e] at h; exact List.cons_lt_cons_iff.mpr (.inl (of_decide_eq_true h))
theorem zip2_map {α β : Type} (f : α → PyData) (g : β → PyData) : ∀ (xs : List α) (ys : List β), zip2 (xs.map f) (ys.map g) = (xs.zip ys).map fun p => .shr (.tuple [f p.1, g p.2])
  | [], _ => rfl
  | _ :: _, [] => rfl
  | x :: xs, y :: ys => by rw [List.map_cons, List.map_cons, zip2, zip2_map f g xs ys]; rfl
theorem fm_none {α β : Type} (l : List α) : l.filterMap (fun _ => (none : Option β)) = [] := by simp
section
variable {d : DialT}
/-- each mark is ahead of the next one -/
def riseB (s : List (Mk d)) : Bool := (s.zip (s.drop 1)).all fun p => HT.lexLt p.1.1 p.2.1
theorem riseB_of : ∀ {s : List (Mk d)}, s.Pairwise (fun a b => a.1 < b.1) → riseB s = true
  | [], _ => rfl
  | [_], _ => rfl
  | a :: b :: s, h => by
    have h2 := riseB_of (s := b :: s) (List.pairwise_cons.mp h).2
    unfold riseB at h2 ⊢
    rw [show (a :: b :: s).drop 1 = b :: s from rfl, List.zip_cons_cons, List.all_cons]
    rw [show (b :: s).drop 1 = s from rfl] at h2
    rw [h2, lexLt_of ((List.pairwise_cons.mp h).1 b (by simp))]
    rfl
theorem rise_of : ∀ {s : List (Mk d)}, riseB s = true → s.Pairwise (fun a b => a.1 < b.1)
  | [], _ => .nil
  | [_], _ => List.pairwise_singleton _ _
  | a :: b :: s, h => by
    unfold riseB at h
    rw [show (a :: b :: s).drop 1 = b :: s from rfl, List.zip_cons_cons, List.all_cons, Bool.and_eq_true] at h
    have h2 := rise_of (s := b :: s) (by unfold riseB; exact h.2)
    have h3 := of_lexLt h.1
    refine List.pairwise_cons.mpr ⟨fun c hc => ?_, h2⟩
    rcases List.mem_cons.mp hc with e | hc
    · rw [e]; exact h3
    · exact List.lt_trans h3 ((List.pairwise_cons.mp h2).1 c hc)
/-- behind a thing all is there that must be -/
def goesB (A : List (Mk d)) (t : Mk d) (B : List (Mk d)) : Bool := (A ++ [t] ++ A.map fun m => m + t).all fun m => decide (m ∈ B)
theorem goesB_iff {A B : List (Mk d)} {t : Mk d} : goesB A t B = true ↔ (∀ m ∈ A, m ∈ B) ∧ t ∈ B ∧ ∀ m ∈ A, m + t ∈ B := by
  unfold goesB
  rw [List.all_eq_true]
  constructor
  · intro h
    exact ⟨fun m hm => of_decide_eq_true (h m (by simp [hm])), of_decide_eq_true (h t (by simp)), fun m hm => of_decide_eq_true (h (m + t) (List.mem_append_right _ (List.mem_map.mpr ⟨m, hm, rfl⟩)))⟩
  · rintro ⟨h1, h2, h3⟩ x hx
    rcases List.mem_append.mp hx with hx | hx
    · rcases List.mem_append.mp hx with hx | hx
      · exact decide_eq_true (h1 x hx)
      · rw [List.mem_singleton] at hx
        rw [hx]; exact decide_eq_true h2
    · obtain ⟨m, hm, rfl⟩ := List.mem_map.mp hx
      exact decide_eq_true (h3 m hm)
/-- a bar holds -/
def holdsB (h : List (Mk d)) (m : Mk d) (bar : List (List (Mk d))) : Bool :=
  decide (bar.length = h.length + 1) && (decide (bar.getD 0 [] = []) && (bar.all riseB && (((List.range h.length).all fun i => goesB (bar.getD i []) (h.getD i 0) (bar.getD (i + 1) [])) && !decide (m ∈ bar.getD h.length []))))
theorem holdsB_iff {h : List (Mk d)} {m : Mk d} {bar : List (List (Mk d))} : holdsB h m bar = true ↔
    bar.length = h.length + 1 ∧ bar.getD 0 [] = [] ∧ (∀ s ∈ bar, riseB s = true) ∧ (∀ i, i < h.length → goesB (bar.getD i []) (h.getD i 0) (bar.getD (i + 1) []) = true) ∧ m ∉ bar.getD h.length [] := by
  unfold holdsB
  simp [List.all_eq_true]
/-- the told bar -/
def barL (h : List (Mk d)) : List (List (Mk d)) := (List.range (h.length + 1)).map fun i => setL (comeB (h.take i))
theorem barL_len (h : List (Mk d)) : (barL h).length = h.length + 1 := by simp [barL]
theorem barL_get {h : List (Mk d)} {i : Nat} (hi : i ≤ h.length) : (barL h).getD i [] = setL (comeB (h.take i)) := by
  unfold barL
  rw [List.getD_eq_getElem?_getD, List.getElem?_map, List.getElem?_range (by omega)]
  rfl
theorem come_nil : setL (comeB ([] : List (Mk d))) = [] := by
  rw [List.eq_nil_iff_forall_not_mem]
  intro x hx
  rw [mem_setL] at hx
  simp [comeB] at hx
theorem take_succ_getD {h : List (Mk d)} {i : Nat} (hi : i < h.length) : h.take (i + 1) = h.take i ++ [h.getD i 0] := by
  rw [List.take_succ, List.getD_eq_getElem?_getD, List.getElem?_eq_getElem hi]
  rfl
theorem come_goes {h : List (Mk d)} {i : Nat} (hi : i < h.length) : goesB (setL (comeB (h.take i))) (h.getD i 0) (setL (comeB (h.take (i + 1)))) = true := by
  rw [goesB_iff, take_succ_getD hi]
  refine ⟨fun m hm => ?_, ?_, fun m hm => ?_⟩
  · rw [mem_setL, comeB_iff] at hm ⊢
    exact come_snoc.mpr (.inl hm)
  · rw [mem_setL, comeB_iff]
    exact come_snoc.mpr (.inr (.inl rfl))
  · rw [mem_setL, comeB_iff] at hm ⊢
    exact come_snoc.mpr (.inr (.inr ⟨m, hm, rfl⟩))
theorem barL_holds {h : List (Mk d)} {m : Mk d} (hm : comeB h m = false) : holdsB h m (barL h) = true := by
  rw [holdsB_iff]
  refine ⟨barL_len h, ?_, fun s hs => ?_, fun i hi => ?_, ?_⟩
  · rw [barL_get (Nat.zero_le _)]; exact come_nil
  · obtain ⟨i, _, rfl⟩ := List.mem_map.mp hs
    exact riseB_of (setL_rise _)
  · rw [barL_get (by omega), barL_get (by omega)]
    exact come_goes hi
  · rw [barL_get (Nat.le_refl _), List.take_length, mem_setL, hm]
    simp
/-- none, and then the same set each time -/
def wideL (n : Nat) (A : List (Mk d)) : List (List (Mk d)) := [] :: List.replicate n A
theorem wideL_get {n i : Nat} {A : List (Mk d)} (hi : i < n) : (wideL n A).getD (i + 1) [] = A := by
  unfold wideL
  rw [List.getD_eq_getElem?_getD, List.getElem?_cons_succ, List.getElem?_replicate, if_pos hi]
  rfl
theorem wide_holds {ms h : List (Mk d)} {m : Mk d} (hh : ∀ x ∈ h, Gen ms x) (hm : ¬ Gen ms m) : holdsB h m (wideL h.length (genL ms)) = true := by
  rw [holdsB_iff]
  refine ⟨by simp [wideL], rfl, fun s hs => ?_, fun i hi => ?_, ?_⟩
  · rcases List.mem_cons.mp hs with e | hs
    · rw [e]; rfl
    · rw [List.eq_of_mem_replicate hs]; exact riseB_of (setL_rise _)
  · have hx : Gen ms (h.getD i 0) := hh _ (by rw [List.getD_eq_getElem?_getD, List.getElem?_eq_getElem hi]; exact List.getElem_mem hi)
    rw [wideL_get hi, goesB_iff]
    cases i with
    | zero => exact ⟨by simp [wideL], mem_genL.mpr hx, by simp [wideL]⟩
    | succ i =>
      rw [wideL_get (by omega)]
      exact ⟨fun x h => h, mem_genL.mpr hx, fun x h => mem_genL.mpr ((mem_genL.mp h).plus hx)⟩
  · cases hl : h.length with
    | zero => simp [wideL]
    | succ n => rw [wideL_get (by omega), mem_genL]; exact hm
/-- a bar that is told on holds no more where the new thing is not in it -/
theorem more_not {h : List (Mk d)} {m : Mk d} {bar : List (List (Mk d))} {s : List (Mk d)} (hl : bar.length = h.length + 1) (hs : m ∉ s) : holdsB (h ++ [m]) m (bar ++ [s]) = false := by
  rw [Bool.eq_false_iff]
  intro hh
  have := (holdsB_iff.mp hh).2.2.2.1 h.length (by simp)
  have := (goesB_iff.mp this).2.1
  rw [List.getD_eq_getElem?_getD, List.getD_eq_getElem?_getD, List.getElem?_append_right (Nat.le_refl _), ← hl, List.getElem?_append_right (Nat.le_refl _)] at this
  simp at this
  exact hs this
/-- what comes of things of a closed set stays in it -/
theorem come_gen {ms : List (Mk d)} : ∀ {h : List (Mk d)}, (∀ x ∈ h, Gen ms x) → ∀ {k : Nat} {m : Mk d}, 0 < W h k m → Gen ms m
  | [], _, k, m, hp => by
    unfold W at hp
    split at hp
    · rename_i e; rw [e.2]; exact .zero
    · omega
  | x :: h, hh, k, m, hp => by
    rcases W_cons_pos.mp hp with h1 | ⟨j, rfl, h1⟩
    · exact come_gen (fun y hy => hh y (by simp [hy])) h1
    · have := (come_gen (fun y hy => hh y (by simp [hy])) h1).plus (hh x (by simp))
      rwa [Gr.canceln] at this
theorem come_take {h : List (Mk d)} {i : Nat} {m : Mk d} (hm : m ∈ setL (comeB (h.take i))) : m ∈ setL (comeB (h.take (i + 1))) := by
  by_cases hi : i < h.length
  · exact (goesB_iff.mp (come_goes hi)).1 m hm
  · rw [List.take_of_length_le (by omega)] at hm ⊢; exact hm
theorem pick_off : ∀ (h : List (Mk d)) (i : Nat) (m : Mk d), (∀ x ∈ h, x ≠ m) → pick (h ++ [m]) i 1 m = [i + h.length]
  | [], i, m, _ => by
    show pick [m] i 1 m = [i]
    rw [pick, if_pos (by constructor; · omega
                         · show 0 < W [] 0 (m + -m)
                           rw [Gr.addn]; simp [W]), pick]
  | x :: h, i, m, hx => by
    rw [List.cons_append, pick, if_neg]
    · rw [pick_off h (i + 1) m fun y hy => hx y (by simp [hy]), List.length_cons]
      congr 1; omega
    · rintro ⟨_, h2⟩
      rw [W_zero] at h2
      split at h2
      · rename_i e
        exact hx x (by simp) (Gr.sub_iff.mp e ▸ by rw [Gr.zadd])
      · omega
theorem both_come (ms : List (Mk d)) : setL (comeB (genL ms ++ (genL ms).map fun m => -m)) = genL ms := genL_eq fun x => by
  rw [comeB_iff]
  constructor
  · rintro ⟨n, _, h⟩
    refine come_gen (ms := ms) (fun y hy => ?_) h
    rcases List.mem_append.mp hy with hy | hy
    · exact mem_genL.mp hy
    · obtain ⟨z, hz, rfl⟩ := List.mem_map.mp hy
      exact (mem_genL.mp hz).neg turn_mk
  · intro h
    have : ∀ (l : List (Mk d)), x ∈ l → 0 < W l 1 x := fun l => by
      induction l with
      | nil => intro h; simp at h
      | cons y l ih =>
        intro h
        rw [W_cons_pos]
        rcases List.mem_cons.mp h with e | h
        · exact .inr ⟨0, rfl, by rw [e, Gr.addn, W_zero, if_pos rfl]; omega⟩
        · exact .inl (ih h)
    exact ⟨1, Nat.le_refl _, this _ (List.mem_append_left _ (mem_genL.mpr h))⟩
end
end VV

/-! V44: how long heaps without a part of nought can be -/
namespace VV
open PySem PySem.Spec L2
open PyProof.Rows hiding St
/-- p divides the values of the k-th differences -/
def Deg {α : Type} [Add α] (p : Int) : Nat → (α → Int) → Prop
  | 0, f => ∀ x, p ∣ f x
  | k + 1, f => ∀ g, Deg p k fun x => f x - f (x + g)
section
variable {α : Type} [Add α] {p : Int}
theorem Deg.congr : ∀ {k : Nat} {f h : α → Int}, (∀ x, p ∣ f x - h x) → Deg p k h → Deg p k f
  | 0, f, h, e, a => fun x => by have := Int.dvd_add (e x) (a x); rwa [Int.sub_add_cancel] at this
  | k + 1, f, h, e, a => fun g => Deg.congr (h := fun x => h x - h (x + g)) (fun x => by
      have := Int.dvd_sub (e x) (e (x + g))
      rwa [show f x - h x - (f (x + g) - h (x + g)) = f x - f (x + g) - (h x - h (x + g)) by omega] at this) (a g)
theorem Deg.zero : ∀ {k : Nat} {f : α → Int}, (∀ x, p ∣ f x) → Deg p k f
  | 0, _, h => h
  | k + 1, f, h => fun g => Deg.zero fun x => Int.dvd_sub (h x) (h (x + g))
theorem Deg.up : ∀ {k : Nat} {f : α → Int}, Deg p k f → Deg p (k + 1) f
  | 0, f, h => fun g x => Int.dvd_sub (h x) (h (x + g))
  | k + 1, f, h => fun g => (h g).up
theorem Deg.le {j k : Nat} {f : α → Int} (h : Deg p j f) (hk : j ≤ k) : Deg p k f := by
  induction hk with
  | refl => exact h
  | step _ ih => exact ih.up
theorem Deg.add : ∀ {k : Nat} {f h : α → Int}, Deg p k f → Deg p k h → Deg p k fun x => f x + h x
  | 0, _, _, a, b => fun x => Int.dvd_add (a x) (b x)
  | k + 1, f, h, a, b => fun g => (Deg.add (a g) (b g)).congr fun x => by
      rw [show f x + h x - (f (x + g) + h (x + g)) - (f x - f (x + g) + (h x - h (x + g))) = 0 by omega]; exact Int.dvd_zero _
theorem Deg.shift (hc : ∀ x g i : α, x + g + i = x + i + g) (g : α) : ∀ {k : Nat} {f : α → Int}, Deg p k f → Deg p k fun x => f (x + g)
  | 0, _, a => fun x => a (x + g)
  | k + 1, f, a => fun i => (Deg.shift hc g (a i)).congr fun x => by
      show p ∣ f (x + g) - f (x + i + g) - (f (x + g) - f (x + g + i))
      rw [hc x g i, Int.sub_self]; exact Int.dvd_zero _
theorem Deg.mul (hc : ∀ x g i : α, x + g + i = x + i + g) : ∀ (n a b : Nat) {f h : α → Int}, a + b = n → Deg p a f → Deg p b h → Deg p (a + b - 1) fun x => f x * h x
  | _, 0, b, f, h, _, ha, _ => Deg.zero fun x => Int.dvd_trans (ha x) (Int.dvd_mul_right _ _)
  | _, a + 1, 0, f, h, _, _, hb => Deg.zero fun x => Int.dvd_trans (hb x) (Int.dvd_mul_left _ _)
  | 0, a + 1, b + 1, _, _, e, _, _ => absurd e (by omega)
  | n + 1, a + 1, b + 1, f, h, e, ha, hb => by
    rw [show a + 1 + (b + 1) - 1 = (a + b) + 1 by omega]
    intro g
    have h1 := Deg.mul hc n a (b + 1) (f := fun x => f x - f (x + g)) (h := h) (by omega) (ha g) hb
    have h2 := Deg.mul hc n (a + 1) b (f := fun x => f (x + g)) (h := fun x => h x - h (x + g)) (by omega) (Deg.shift hc g ha) (hb g)
    rw [show a + (b + 1) - 1 = a + b by omega] at h1
    rw [show a + 1 + b - 1 = a + b by omega] at h2
    refine (h1.add h2).congr fun x => ?_
    rw [show f x * h x - f (x + g) * h (x + g) - ((f x - f (x + g)) * h x + f (x + g) * (h x - h (x + g))) = 0 by
      rw [Int.sub_mul, Int.mul_sub]; omega]
    exact Int.dvd_zero _
theorem Deg.one (c : Int) : Deg p 1 fun _ : α => c := fun g x => by show p ∣ c - c; rw [Int.sub_self]; exact Int.dvd_zero _
theorem Deg.pow (hc : ∀ x g i : α, x + g + i = x + i + g) {f : α → Int} (h : Deg p 2 f) : ∀ n : Nat, Deg p (n + 1) fun x => f x ^ n
  | 0 => by simp only [Int.pow_zero]; exact Deg.one 1
  | n + 1 => by
    have := Deg.mul hc _ (n + 1) 2 (f := fun x => f x ^ n) (h := f) rfl (Deg.pow hc h n) h
    rw [show n + 1 + 2 - 1 = n + 1 + 1 by omega] at this
    simpa only [Int.pow_succ] using this
theorem Deg.neg {k : Nat} {f : α → Int} (h : Deg p k f) : Deg p k fun x => -f x := by
  induction k generalizing f with
  | zero => exact fun x => (Int.dvd_neg).mpr (h x)
  | succ k ih =>
    intro g
    have := ih (h g)
    refine this.congr fun x => ?_
    rw [show -f x - -f (x + g) - -(f x - f (x + g)) = 0 by omega]; exact Int.dvd_zero _
/-- all differences, one behind the other -/
def diffs (f : α → Int) : List α → α → Int
  | [], x => f x
  | g :: gs, x => diffs f gs x - diffs f gs (x + g)
theorem diffs_deg (hc : ∀ x g i : α, x + g + i = x + i + g) : ∀ {gs : List α} {f : α → Int}, Deg p gs.length f → ∀ x, p ∣ diffs f gs x
  | [], f, h, x => h x
  | g :: gs, f, h, x => by
    have h2 := diffs_deg hc (gs := gs) (h g) x
    have e : ∀ (gs : List α) (x : α), diffs (fun x => f x - f (x + g)) gs x = diffs f gs x - diffs f gs (x + g) := fun gs => by
      induction gs with
      | nil => intro x; rfl
      | cons i gs ih =>
        intro x
        show diffs _ gs x - diffs _ gs (x + i) = diffs f gs x - diffs f gs (x + i) - (diffs f gs (x + g) - diffs f gs (x + g + i))
        rw [ih, ih, hc x i g]; omega
    rw [e] at h2
    exact h2

/-- 1 where all forms are divisible, else divisible -/
def dlt (n : Nat) : List (α → Int) → α → Int
  | [], _ => 1
  | l :: ls, x => (1 - l x ^ n) * dlt n ls x
def Lin (l : α → Int) : Prop := ∀ x g, l (x + g) = l x + l g
theorem Lin.deg {l : α → Int} (h : Lin l) : Deg p 2 l := fun g i x => by
  show p ∣ l x - l (x + g) - (l (x + i) - l (x + i + g))
  rw [h, h, h, h, show l x - (l x + l g) - (l x + l i - (l x + l i + l g)) = 0 by omega]; exact Int.dvd_zero _
theorem dlt_deg (hc : ∀ x g i : α, x + g + i = x + i + g) (n : Nat) : ∀ {ls : List (α → Int)}, (∀ l ∈ ls, Lin l) → Deg p (ls.length * n + 1) (dlt n ls)
  | [], _ => by rw [List.length_nil, Nat.zero_mul]; exact Deg.one 1
  | l :: ls, h => by
    have h1 : Deg p (n + 1) fun x => 1 + -(l x ^ n) := ((Deg.one 1).le (by omega)).add (Deg.neg (Deg.pow hc (h l (by simp)).deg n))
    have := Deg.mul hc _ _ _ rfl h1 (dlt_deg hc n (ls := ls) fun k hk => h k (by simp [hk]))
    rw [show n + 1 + (ls.length * n + 1) - 1 = (l :: ls).length * n + 1 by rw [List.length_cons, Nat.succ_mul]; omega] at this
    exact this.congr fun x => by
      show p ∣ (1 - l x ^ n) * dlt n ls x - (1 + -(l x ^ n)) * dlt n ls x
      rw [Int.sub_eq_add_neg (a := 1), Int.sub_self]; exact Int.dvd_zero _
/-- n is one less than the prime p -/
def Fm (p : Int) (n : Nat) : Prop := 1 ≤ n ∧ ∀ x : Int, ¬ p ∣ x → p ∣ 1 - x ^ n
theorem dlt_off {n : Nat} (hp : Fm p n) : ∀ {ls : List (α → Int)} {x : α}, ¬ (∀ l ∈ ls, p ∣ l x) → p ∣ dlt n ls x
  | [], x, h => absurd (by simp) h
  | l :: ls, x, h => by
    by_cases hl : p ∣ l x
    · refine Int.dvd_trans (dlt_off hp fun h2 => h fun k hk => ?_) (Int.dvd_mul_left _ _)
      rcases List.mem_cons.mp hk with e | hk
      · rw [e]; exact hl
      · exact h2 k hk
    · exact Int.dvd_trans (hp.2 _ hl) (Int.dvd_mul_right _ _)
theorem dlt_on {n : Nat} (hn : 1 ≤ n) : ∀ {ls : List (α → Int)} {x : α}, (∀ l ∈ ls, l x = 0) → dlt n ls x = 1
  | [], x, h => rfl
  | l :: ls, x, h => by
    show (1 - l x ^ n) * dlt n ls x = 1
    rw [dlt_on hn fun k hk => h k (by simp [hk]), h l (by simp), Int.zero_pow (by omega)]; rfl
def totL (l : α → Int) : List α → Int
  | [] => 0
  | g :: gs => l g + totL l gs
theorem diffs_off {n : Nat} (hp : Fm p n) {ls : List (α → Int)} (hl : ∀ l ∈ ls, Lin l) : ∀ {gs : List α} {x : α}, (∀ S, S.Sublist gs → ¬ ∀ l ∈ ls, p ∣ l x + totL l S) → p ∣ diffs (dlt n ls) gs x
  | [], x, h => dlt_off hp fun h2 => h [] (.refl _) fun l hm => by
      show p ∣ l x + 0
      rw [Int.add_zero]; exact h2 l hm
  | g :: gs, x, h => Int.dvd_sub (diffs_off hp hl fun S hS => h S (hS.cons _)) (diffs_off hp hl fun S hS h2 => h (g :: S) (hS.cons_cons _) fun l hm => by
      have := h2 l hm
      rw [hl l hm] at this
      show p ∣ l x + (l g + totL l S)
      rw [← Int.add_assoc]; exact this)
theorem diffs_one {n : Nat} (hp : Fm p n) {ls : List (α → Int)} (hl : ∀ l ∈ ls, Lin l) {x : α} (hx : ∀ l ∈ ls, l x = 0) : ∀ {gs : List α}, (∀ S, S.Sublist gs → S ≠ [] → ¬ ∀ l ∈ ls, p ∣ totL l S) → p ∣ diffs (dlt n ls) gs x - 1
  | [], h => by
    show p ∣ dlt n ls x - 1
    rw [dlt_on hp.1 hx]; exact Int.dvd_zero _
  | g :: gs, h => by
    have h1 := diffs_one hp hl hx (gs := gs) fun S hS hn => h S (hS.cons _) hn
    have h2 : p ∣ diffs (dlt n ls) gs (x + g) := diffs_off hp hl fun S hS h2 => h (g :: S) (hS.cons_cons _) (by simp) fun l hm => by
      have := h2 l hm
      rw [hl l hm, hx l hm, Int.zero_add] at this
      exact this
    have := Int.dvd_sub h1 h2
    rwa [show diffs (dlt n ls) gs x - 1 - diffs (dlt n ls) gs (x + g) = diffs (dlt n ls) (g :: gs) x - 1 by show _ = diffs _ gs x - diffs _ gs (x + g) - 1; omega] at this
/-- so many things have a part all of whose forms are divisible -/
theorem part_div {n : Nat} (hp : Fm p n) (h1 : ¬ p ∣ 1) (hc : ∀ x g i : α, x + g + i = x + i + g) {ls : List (α → Int)} (hl : ∀ l ∈ ls, Lin l) {x : α} (hx : ∀ l ∈ ls, l x = 0) {gs : List α} (hg : ls.length * n + 1 ≤ gs.length) :
    ∃ S, S.Sublist gs ∧ S ≠ [] ∧ ∀ l ∈ ls, p ∣ totL l S := by
  refine Classical.byContradiction fun hn => ?_
  have a := diffs_one hp hl hx (gs := gs) fun S hS h0 h2 => hn ⟨S, hS, h0, h2⟩
  have b := diffs_deg hc (gs := gs) ((dlt_deg (p := p) hc n hl).le hg) x
  have := Int.dvd_sub b a
  rw [show diffs (dlt n ls) gs x - (diffs (dlt n ls) gs x - 1) = 1 by omega] at this
  exact h1 this
end

theorem perm_map {α β : Type} {f : α → β} : ∀ {l : List α} {k : List β}, (l.map f).Perm k → ∃ z : List α, l.Perm z ∧ z.map f = k := by
  intro l k h
  generalize e : l.map f = m at h
  induction h generalizing l with
  | nil => exact ⟨[], by rw [List.map_eq_nil_iff.mp e], rfl⟩
  | cons x _ ih =>
    obtain ⟨a, l', rfl, e1, e2⟩ := List.map_eq_cons_iff.mp e
    obtain ⟨z, h1, h2⟩ := ih e2
    exact ⟨a :: z, h1.cons a, by rw [List.map_cons, e1, h2]⟩
  | swap x y m =>
    obtain ⟨a, l', rfl, e1, e2⟩ := List.map_eq_cons_iff.mp e
    obtain ⟨b, l'', rfl, e3, e4⟩ := List.map_eq_cons_iff.mp e2
    exact ⟨b :: a :: l'', .swap _ _ _, by rw [List.map_cons, List.map_cons, e1, e3, e4]⟩
  | trans _ _ ih1 ih2 =>
    obtain ⟨z, h1, h2⟩ := ih1 e
    obtain ⟨y, h3, h4⟩ := ih2 h2
    exact ⟨y, h1.trans h3, h4⟩

/-! ### pairs of numbers -/
structure P3 where
  c : Int
  a : Int
  b : Int
instance : Add P3 := ⟨fun x y => ⟨x.c + y.c, x.a + y.a, x.b + y.b⟩⟩
theorem P3.swap (x g i : P3) : x + g + i = x + i + g := by
  show (⟨x.c + g.c + i.c, x.a + g.a + i.a, x.b + g.b + i.b⟩ : P3) = ⟨x.c + i.c + g.c, x.a + i.a + g.a, x.b + i.b + g.b⟩
  congr 1 <;> omega
def up3 (q : Int × Int) : P3 := ⟨1, q.1, q.2⟩
def sA (L : List (Int × Int)) : Int := (L.map (·.1)).sum
def sB (L : List (Int × Int)) : Int := (L.map (·.2)).sum
theorem totL_c : ∀ S : List (Int × Int), totL P3.c (S.map up3) = S.length
  | [] => rfl
  | q :: S => by
    show 1 + totL P3.c (S.map up3) = _
    rw [totL_c S, List.length_cons]; omega
theorem totL_a : ∀ S : List (Int × Int), totL P3.a (S.map up3) = sA S
  | [] => rfl
  | q :: S => by
    show q.1 + totL P3.a (S.map up3) = _
    rw [totL_a S]; rfl
theorem totL_b : ∀ S : List (Int × Int), totL P3.b (S.map up3) = sB S
  | [] => rfl
  | q :: S => by
    show q.2 + totL P3.b (S.map up3) = _
    rw [totL_b S]; rfl
theorem sA_app (S R : List (Int × Int)) : sA (S ++ R) = sA S + sA R := by unfold sA; rw [List.map_append, List.sum_append]
theorem sB_app (S R : List (Int × Int)) : sB (S ++ R) = sB S + sB R := by unfold sB; rw [List.map_append, List.sum_append]
theorem sum_perm {S R : List Int} (h : S.Perm R) : S.sum = R.sum := by
  induction h with
  | nil => rfl
  | cons x _ ih => rw [List.sum_cons, List.sum_cons, ih]
  | swap x y l => simp only [List.sum_cons]; omega
  | trans _ _ h1 h2 => exact h1.trans h2
theorem sA_perm {S R : List (Int × Int)} (h : S.Perm R) : sA S = sA R := sum_perm (h.map _)
theorem sB_perm {S R : List (Int × Int)} (h : S.Perm R) : sB S = sB R := sum_perm (h.map _)
theorem sub_rest {α : Type} {S L : List α} (h : S.Sublist L) : ∃ R, R.Sublist L ∧ L.Perm (S ++ R) := by
  induction h with
  | slnil => exact ⟨[], .refl _, .refl _⟩
  | @cons S L x _ ih =>
    obtain ⟨R, h1, h2⟩ := ih
    exact ⟨x :: R, h1.cons_cons _, (h2.cons x).trans (List.perm_middle.symm)⟩
  | @cons_cons S L x _ ih =>
    obtain ⟨R, h1, h2⟩ := ih
    exact ⟨R, h1.cons _, h2.cons x⟩
section
variable {p : Nat} (hp : Fm (p : Int) (p - 1)) (p2 : 2 ≤ p)
include hp p2
theorem not_one : ¬ (p : Int) ∣ 1 := fun h => by
  have := Int.le_of_dvd (by omega) h
  omega
theorem lin_of : Lin P3.c ∧ Lin P3.a ∧ Lin P3.b := ⟨fun _ _ => rfl, fun _ _ => rfl, fun _ _ => rfl⟩
theorem two_div {L : List (Int × Int)} (hL : 2 * p - 1 ≤ L.length) : ∃ S, S.Sublist L ∧ S ≠ [] ∧ (p : Int) ∣ sA S ∧ (p : Int) ∣ sB S := by
  obtain ⟨S', h1, h2, h3⟩ := part_div (ls := [P3.a, P3.b]) (x := ⟨0, 0, 0⟩) (gs := L.map up3) hp (not_one hp p2) P3.swap (by
    intro l hl
    rcases List.mem_cons.mp hl with e | hl
    · rw [e]; exact fun _ _ => rfl
    · rw [List.mem_singleton] at hl; rw [hl]; exact fun _ _ => rfl) (by
    intro l hl
    rcases List.mem_cons.mp hl with e | hl
    · rw [e]
    · rw [List.mem_singleton] at hl; rw [hl]) (by rw [List.length_map]; simp only [List.length_cons, List.length_nil]; omega)
  obtain ⟨S, hS, rfl⟩ := List.sublist_map_iff.mp h1
  refine ⟨S, hS, fun e => h2 (by rw [e]; rfl), ?_, ?_⟩
  · rw [← totL_a]; exact h3 _ (by simp)
  · rw [← totL_b]; exact h3 _ (by simp)
theorem few_div {L : List (Int × Int)} (hL : 3 * p - 2 ≤ L.length) : ∃ S, S.Sublist L ∧ S ≠ [] ∧ S.length ≤ p ∧ (p : Int) ∣ sA S ∧ (p : Int) ∣ sB S := by
  obtain ⟨S', h1, h2, h3⟩ := part_div (ls := [P3.c, P3.a, P3.b]) (x := ⟨0, 0, 0⟩) (gs := (L.take (3 * p - 2)).map up3) hp (not_one hp p2) P3.swap (by
    intro l hl
    rcases List.mem_cons.mp hl with e | hl
    · rw [e]; exact fun _ _ => rfl
    rcases List.mem_cons.mp hl with e | hl
    · rw [e]; exact fun _ _ => rfl
    · rw [List.mem_singleton] at hl; rw [hl]; exact fun _ _ => rfl) (by
    intro l hl
    rcases List.mem_cons.mp hl with e | hl
    · rw [e]
    rcases List.mem_cons.mp hl with e | hl
    · rw [e]
    · rw [List.mem_singleton] at hl; rw [hl]) (by rw [List.length_map, List.length_take]; simp only [List.length_cons, List.length_nil]; omega)
  obtain ⟨S, hS, rfl⟩ := List.sublist_map_iff.mp h1
  have ha : (p : Int) ∣ sA S := by rw [← totL_a]; exact h3 _ (by simp)
  have hb : (p : Int) ∣ sB S := by rw [← totL_b]; exact h3 _ (by simp)
  have hc : (p : Int) ∣ S.length := by rw [← totL_c]; exact h3 _ (by simp)
  have sn : S ≠ [] := fun e => h2 (by rw [e]; rfl)
  have sl := hS.length_le
  rw [List.length_take] at sl
  have SL := hS.trans (List.take_sublist _ _)
  have s0 : 0 < S.length := List.length_pos_iff.mpr sn
  by_cases hs : S.length ≤ p
  · exact ⟨S, SL, sn, hs, ha, hb⟩
  obtain ⟨k, hk⟩ := Int.ofNat_dvd.mp hc
  have k2 : S.length = 2 * p := by
    have : k = 2 := by
      have h3 : k < 3 := Nat.lt_of_not_le fun h => by
        have := Nat.mul_le_mul_left p h
        omega
      have h1 : 1 < k := Nat.lt_of_not_le fun h => by
        have := Nat.mul_le_mul_left p h
        omega
      omega
    rw [hk, this, Nat.mul_comm]
  obtain ⟨T, hT, tn, ta, tb⟩ := two_div hp p2 (L := S.take (2 * p - 1)) (by rw [List.length_take]; omega)
  have tl := hT.length_le
  rw [List.length_take] at tl
  have TS := hT.trans (List.take_sublist _ _)
  obtain ⟨R, hR, hperm⟩ := sub_rest TS
  by_cases ht : T.length ≤ p
  · exact ⟨T, TS.trans SL, tn, ht, ta, tb⟩
  have rl := hperm.length_eq
  rw [List.length_append] at rl
  refine ⟨R, hR.trans SL, fun e => ?_, by omega, ?_, ?_⟩
  · rw [e] at rl; simp at rl; omega
  · have := sA_perm hperm
    rw [sA_app] at this
    rw [this] at ha
    exact (Int.dvd_iff_dvd_of_dvd_add (Int.add_comm _ _ ▸ ha)).mpr ta
  · have := sB_perm hperm
    rw [sB_app] at this
    rw [this] at hb
    exact (Int.dvd_iff_dvd_of_dvd_add (Int.add_comm _ _ ▸ hb)).mpr tb
end
/-- every so long list of pairs has a part that comes to nought -/
def D2 (s t : Nat) : Prop := ∀ L : List (Int × Int), s + t - 1 ≤ L.length → ∃ S R, L.Perm (S ++ R) ∧ S ≠ [] ∧ (s : Int) ∣ sA S ∧ (t : Int) ∣ sB S
theorem D2.step {p s t : Nat} (hp : Fm (p : Int) (p - 1)) (p2 : 2 ≤ p) (s1 : 1 ≤ s) (t1 : 1 ≤ t) (h : D2 s t) : D2 (p * s) (p * t) := by
  intro L hL
  have key : ∀ k, k ≤ s + t - 2 → ∃ (Ms : List (List (Int × Int))) (R : List (Int × Int)), L.Perm (Ms.flatten ++ R) ∧ Ms.length = k ∧ ∀ M ∈ Ms, M ≠ [] ∧ M.length ≤ p ∧ (p : Int) ∣ sA M ∧ (p : Int) ∣ sB M := by
    intro k
    induction k with
    | zero => exact fun _ => ⟨[], L, .refl _, rfl, by simp⟩
    | succ k ih =>
      intro hk
      obtain ⟨Ms, R, h1, h2, h3⟩ := ih (by omega)
      have fl : Ms.flatten.length ≤ k * p := by
        rw [← h2]
        clear h1 h2
        induction Ms with
        | nil => simp
        | cons M Ms ih2 =>
          have a := (h3 M (by simp)).2.1
          have b := ih2 fun M hM => h3 M (by simp [hM])
          rw [List.flatten_cons, List.length_append, List.length_cons, Nat.succ_mul]; omega
      have rl := h1.length_eq
      rw [List.length_append] at rl
      have big : (k + 3) * p ≤ (s + t) * p := Nat.mul_le_mul_right p (by omega)
      rw [Nat.add_mul, Nat.add_mul] at big
      obtain ⟨M, hM, m1, m2, m3, m4⟩ := few_div hp p2 (L := R) (by rw [Nat.mul_comm p s, Nat.mul_comm p t] at hL; omega)
      obtain ⟨R', _, hr⟩ := sub_rest hM
      refine ⟨M :: Ms, R', ?_, by simp [h2], fun N hN => ?_⟩
      · rw [List.flatten_cons]
        refine h1.trans ((hr.append_left _).trans ?_)
        rw [← List.append_assoc]
        exact (List.perm_append_comm).append_right _
      · rcases List.mem_cons.mp hN with e | hN
        · rw [e]; exact ⟨m1, m2, m3, m4⟩
        · exact h3 N hN
  obtain ⟨Ms, R, h1, h2, h3⟩ := key (s + t - 2) (Nat.le_refl _)
  have fl : Ms.flatten.length ≤ (s + t - 2) * p := by
    rw [← h2]
    clear h1 h2
    induction Ms with
    | nil => simp
    | cons M Ms ih2 =>
      have a := (h3 M (by simp)).2.1
      have b := ih2 fun M hM => h3 M (by simp [hM])
      rw [List.flatten_cons, List.length_append, List.length_cons, Nat.succ_mul]; omega
  have rl := h1.length_eq
  rw [List.length_append] at rl
  obtain ⟨M, hM, m1, m3, m4⟩ := two_div hp p2 (L := R) (by
    have e : (s + t - 2 + 2) * p = (s + t) * p := by rw [show s + t - 2 + 2 = s + t by omega]
    rw [Nat.add_mul, Nat.add_mul s t p] at e
    rw [Nat.mul_comm p s, Nat.mul_comm p t] at hL
    omega)
  obtain ⟨R', _, hr⟩ := sub_rest hM
  obtain ⟨Ns, eN⟩ : ∃ Ns, Ns = M :: Ms := ⟨_, rfl⟩
  have h4 : ∀ N ∈ Ns, N ≠ [] ∧ (p : Int) ∣ sA N ∧ (p : Int) ∣ sB N := fun N hN => by
    rw [eN] at hN
    rcases List.mem_cons.mp hN with e | hN
    · rw [e]; exact ⟨m1, m3, m4⟩
    · exact ⟨(h3 N hN).1, (h3 N hN).2.2⟩
  have h5 : L.Perm (Ns.flatten ++ R') := by
    rw [eN, List.flatten_cons]
    refine h1.trans ((hr.append_left _).trans ?_)
    rw [← List.append_assoc]
    exact (List.perm_append_comm).append_right _
  obtain ⟨S', R2, q1, q2, q3, q4⟩ := h (Ns.map fun N => (sA N / p, sB N / p)) (by rw [List.length_map, eN, List.length_cons]; omega)
  -- the parts chosen
  have pick : ∀ (Ns : List (List (Int × Int))) (S' R2 : List (Int × Int)), (Ns.map fun N => (sA N / (p : Int), sB N / (p : Int))).Perm (S' ++ R2) → ∃ Xs Ys : List (List (Int × Int)), Ns.Perm (Xs ++ Ys) ∧ (Xs.map fun N => (sA N / (p : Int), sB N / (p : Int))) = S' := by
    intro Ns S' R2 hq
    obtain ⟨Zs, z1, z2⟩ := perm_map hq
    obtain ⟨Xs, Ys, e1, e2, e3⟩ := List.map_eq_append_iff.mp z2
    exact ⟨Xs, Ys, by rw [← e1]; exact z1, e2⟩
  obtain ⟨Xs, Ys, x1, x2⟩ := pick Ns S' R2 q1
  refine ⟨Xs.flatten, Ys.flatten ++ R', ?_, fun e => ?_, ?_, ?_⟩
  · refine h5.trans ?_
    rw [← List.append_assoc, ← List.flatten_append]
    exact x1.flatten.append_right _
  · refine q2 ?_
    rw [← x2]
    cases Xs with
    | nil => rfl
    | cons X Xs =>
      rw [List.flatten_cons] at e
      exact absurd (List.append_eq_nil_iff.mp e).1 (h4 X (x1.symm.mem_iff.mp (by simp))).1
  · have e : ∀ Xs : List (List (Int × Int)), (∀ X ∈ Xs, (p : Int) ∣ sA X) → sA Xs.flatten = p * sA (Xs.map fun N => (sA N / (p : Int), sB N / (p : Int))) := fun Xs => by
      induction Xs with
      | nil => intro _; simp [sA]
      | cons X Xs ih =>
        intro hX
        rw [List.flatten_cons, sA_app, ih fun Y hY => hX Y (by simp [hY])]
        show _ = p * (sA X / p + sA _)
        rw [Int.mul_add, Int.mul_ediv_cancel' (hX X (by simp))]
    rw [e Xs fun X hX => (h4 X (x1.symm.mem_iff.mp (by simp [hX]))).2.1, x2]
    rw [show ((p * s : Nat) : Int) = (p : Int) * (s : Int) by simp]
    exact Int.mul_dvd_mul_left _ q3
  · have e : ∀ Xs : List (List (Int × Int)), (∀ X ∈ Xs, (p : Int) ∣ sB X) → sB Xs.flatten = p * sB (Xs.map fun N => (sA N / (p : Int), sB N / (p : Int))) := fun Xs => by
      induction Xs with
      | nil => intro _; simp [sB]
      | cons X Xs ih =>
        intro hX
        rw [List.flatten_cons, sB_app, ih fun Y hY => hX Y (by simp [hY])]
        show _ = p * (sB X / p + sB _)
        rw [Int.mul_add, Int.mul_ediv_cancel' (hX X (by simp))]
    rw [e Xs fun X hX => (h4 X (x1.symm.mem_iff.mp (by simp [hX]))).2.2, x2]
    rw [show ((p * t : Nat) : Int) = (p : Int) * (t : Int) by simp]
    exact Int.mul_dvd_mul_left _ q4
end VV

/-! V45: the longest free heaps of each dial; parts of permuted heaps -/
namespace VV
open PySem PySem.Spec L2
open PyProof.Rows hiding St
theorem D1 {t : Nat} (t1 : 1 ≤ t) {L : List Int} (hL : t ≤ L.length) : ∃ S, S.Sublist L ∧ S ≠ [] ∧ (t : Int) ∣ S.sum := by
  refine Classical.byContradiction fun hn => ?_
  have nd : ((List.range (t + 1)).map fun i => (L.take i).sum % (t : Int)).Nodup := by
    refine List.pairwise_map.mpr (List.pairwise_iff_getElem.mpr fun i j hi hj hij e => hn ?_)
    simp only [List.length_range] at hi hj
    simp only [List.getElem_range] at e
    refine ⟨(L.take j).drop i, (List.drop_sublist _ _).trans (List.take_sublist _ _), fun z => ?_, ?_⟩
    · have := congrArg List.length z
      simp only [List.length_drop, List.length_take, List.length_nil] at this
      omega
    · have e2 : L.take j = L.take i ++ (L.take j).drop i := by
        have := (List.take_append_drop i (L.take j)).symm
        rwa [List.take_take, Nat.min_eq_left (by omega)] at this
      have e3 := congrArg List.sum e2
      rw [List.sum_append] at e3
      have := Int.emod_emod_of_dvd (L.take j).sum (Int.dvd_refl (t : Int))
      exact Int.dvd_of_emod_eq_zero (by
        have h1 : ((L.take j).sum - (L.take i).sum) % (t : Int) = 0 := Int.emod_eq_emod_iff_emod_sub_eq_zero.mp e.symm
        rwa [e3, Int.add_comm, Int.add_sub_cancel] at h1)
  have := nodup_len (L := (List.range t).map fun i => ((i : Nat) : Int)) nd fun x hx => by
    obtain ⟨i, _, rfl⟩ := List.mem_map.mp hx
    have h1 := Int.emod_nonneg (L.take i).sum (show (t : Int) ≠ 0 by omega)
    have h2 := Int.emod_lt_of_pos (L.take i).sum (show (0 : Int) < t by omega)
    exact List.mem_map.mpr ⟨((L.take i).sum % (t : Int)).toNat, List.mem_range.mpr (by omega), by omega⟩
  simp only [List.length_map, List.length_range] at this
  omega
theorem D2_one {t : Nat} (t1 : 1 ≤ t) : D2 1 t := fun L hL => by
  obtain ⟨S', h1, h2, h3⟩ := D1 t1 (L := L.map (·.2)) (by rw [List.length_map]; omega)
  obtain ⟨S, hS, rfl⟩ := List.sublist_map_iff.mp h1
  obtain ⟨R, _, hR⟩ := sub_rest hS
  exact ⟨S, R, hR, fun e => h2 (by rw [e]; rfl), by show (1 : Int) ∣ _; exact Int.one_dvd _, h3⟩
theorem fm2 : Fm ((2 : Nat) : Int) (2 - 1) := ⟨Nat.le_refl _, fun x hx => by
  show (2 : Int) ∣ 1 - x ^ 1
  rw [Int.pow_succ, Int.pow_zero, Int.one_mul]
  have : ¬ (2 : Int) ∣ x := hx
  omega⟩
theorem fm3 : Fm ((3 : Nat) : Int) (3 - 1) := ⟨by decide, fun x hx => by
  show (3 : Int) ∣ 1 - x ^ 2
  have : ¬ (3 : Int) ∣ x := hx
  have h : x % 3 = 1 ∨ x % 3 = 2 := by omega
  refine Int.dvd_of_emod_eq_zero ?_
  rw [Int.sub_emod, Int.pow_succ, Int.pow_succ, Int.pow_zero, Int.one_mul, Int.mul_emod]
  rcases h with h | h <;> rw [h] <;> rfl⟩
theorem fm5 : Fm ((5 : Nat) : Int) (5 - 1) := ⟨by decide, fun x hx => by
  show (5 : Int) ∣ 1 - x ^ 4
  have : ¬ (5 : Int) ∣ x := hx
  have h : x % 5 = 1 ∨ x % 5 = 2 ∨ x % 5 = 3 ∨ x % 5 = 4 := by omega
  have e : x ^ 4 % 5 = (x % 5) * (x % 5) * ((x % 5) * (x % 5)) % 5 := by
    rw [show x ^ 4 = x * x * (x * x) by rw [Int.pow_succ, Int.pow_succ, Int.pow_succ, Int.pow_succ, Int.pow_zero, Int.one_mul, Int.mul_assoc]]
    rw [Int.mul_emod (x * x), Int.mul_emod x x]
    simp [Int.mul_emod]
  refine Int.dvd_of_emod_eq_zero ?_
  rw [Int.sub_emod, e]
  rcases h with h | h | h | h <;> rw [h] <;> rfl⟩
theorem D2_all {s t : Nat} (s2 : 2 ≤ s) (t1 : 1 ≤ t) (hd : s ∣ t) (h40 : s * t ≤ 40) : D2 s t := by
  obtain ⟨k, rfl⟩ := hd
  have k1 : 1 ≤ k := by
    rcases Nat.eq_zero_or_pos k with z | z
    · subst z; simp at t1
    · exact z
  have hs : s ≤ 6 := Nat.le_of_not_lt fun h => by
    have h1 : 7 * 7 ≤ s * s := Nat.mul_le_mul h h
    have h2 : s * s * 1 ≤ s * s * k := Nat.mul_le_mul_left _ k1
    rw [← Nat.mul_assoc] at h40
    omega
  have b2 := (D2_one k1).step fm2 (by decide) (Nat.le_refl _) k1
  have b3 := (D2_one k1).step fm3 (by decide) (Nat.le_refl _) k1
  have b5 := (D2_one k1).step fm5 (by decide) (Nat.le_refl _) k1
  have b4 := b2.step fm2 (by decide) (by decide) (by omega)
  have b6 := b2.step fm3 (by decide) (by decide) (by omega)
  have h : s = 2 ∨ s = 3 ∨ s = 4 ∨ s = 5 ∨ s = 6 := by omega
  rcases h with rfl | rfl | rfl | rfl | rfl
  · exact b2
  · exact b3
  · have := b4; rw [show 2 * (2 * k) = 4 * k by omega] at this; exact this
  · exact b5
  · have := b6; rw [show 3 * (2 * k) = 6 * k by omega] at this; exact this
section
variable {α : Type} [Gr α] [DecidableEq α]
theorem W_perm {h h' : List α} (p : h.Perm h') : ∀ k m, W h k m = W h' k m := by
  induction p with
  | nil => intro k m; rfl
  | @cons x l l' _ ih =>
    intro k m
    cases k with
    | zero => exact ih 0 m
    | succ k => rw [W, W, ih, ih]
  | @swap x y l =>
    intro k m
    match k with
    | 0 => rfl
    | 1 =>
      show W l 1 m + W l 0 (m + -x) + W l 0 (m + -y) = W l 1 m + W l 0 (m + -y) + W l 0 (m + -x)
      omega
    | k + 2 =>
      show W l (k + 2) m + W l (k + 1) (m + -x) + (W l (k + 1) (m + -y) + W l k (m + -y + -x)) = W l (k + 2) m + W l (k + 1) (m + -y) + (W l (k + 1) (m + -x) + W l k (m + -x + -y))
      rw [Gr.swap m (-y) (-x)]
      omega
  | trans _ _ h1 h2 => intro k m; rw [h1, h2]
theorem W_part {h S R : List α} (p : h.Perm (S ++ R)) : 0 < W h S.length (totG S) := by
  rw [W_perm (p.trans List.perm_append_comm)]
  refine W_drop (R ++ S) R.length ?_
  rw [List.drop_left]
  exact W_all S
end
section
variable {d : DialT}
theorem come_perm {h h' : List (Mk d)} (p : h.Perm h') (m : Mk d) : comeB h m = comeB h' m := by
  rw [Bool.eq_iff_iff, comeB_iff, comeB_iff]
  exact ⟨fun ⟨n, a, b⟩ => ⟨n, a, by rwa [← W_perm p]⟩, fun ⟨n, a, b⟩ => ⟨n, a, by rwa [W_perm p]⟩⟩
theorem tot_two {s t : Int} {hd : Dial [s, t]} : ∀ X : List (Mk ⟨[s, t], hd⟩), (totG X).1 = [sA (X.map fun m => (m.1.getD 0 0, m.1.getD 1 0)) % s, sB (X.map fun m => (m.1.getD 0 0, m.1.getD 1 0)) % t]
  | [] => by
    show zeroM [s, t] = [0 % s, 0 % t]
    rw [Int.zero_emod, Int.zero_emod]; rfl
  | x :: X => by
    obtain ⟨p, q, hp, _, _, _, _⟩ := markOf2 x.2
    show addM [s, t] x.1 (totG X).1 = [(x.1.getD 0 0 + sA (X.map _)) % s, (x.1.getD 1 0 + sB (X.map _)) % t]
    rw [tot_two X, hp]
    show [(p + _ % s) % s, (q + _ % t) % t] = _
    rw [Int.add_emod_emod, Int.add_emod_emod]; rfl
theorem tot_one {s : Int} {hd : Dial [s]} : ∀ X : List (Mk ⟨[s], hd⟩), (totG X).1 = [(X.map fun m => m.1.getD 0 0).sum % s]
  | [] => by
    show zeroM [s] = [0 % s]
    rw [Int.zero_emod]; rfl
  | x :: X => by
    obtain ⟨p, hp, _, _⟩ := markOf1 x.2
    show addM [s] x.1 (totG X).1 = [(x.1.getD 0 0 + (X.map _).sum) % s]
    rw [tot_one X, hp]
    show [(p + _ % s) % s] = _
    rw [Int.add_emod_emod]; rfl
end
/-- what a longest free heap has -/
def longN (d : List Int) : Int := d.sum - d.length
/-- one thing more than a longest free heap has, and a part comes to nought -/
theorem long_come {d : DialT} {h : List (Mk d)} (hl : longN d.1 < h.length) : comeB h 0 = true := by
  have key : ∀ S R : List (Mk d), h.Perm (S ++ R) → S ≠ [] → totG S = 0 → comeB h 0 = true := fun S R p n e => by
    refine comeB_iff.mpr ⟨S.length, List.length_pos_iff.mpr n, ?_⟩
    have := W_part p
    rwa [e] at this
  obtain ⟨dl, hd⟩ := d
  have hg := hd.good
  unfold longN at hl
  match dl, hd, hg, h, hl, key with
  | [], _, hg, _, _, _ => exact absurd rfl hg.1
  | _ :: _ :: _ :: _, _, hg, _, _, _ => exact absurd hg.2.1 (by simp)
  | [s], hd, hg, h, hl, key =>
    have hs := hg.2.2 s (by simp)
    obtain ⟨n, rfl⟩ : ∃ n : Nat, s = n := ⟨s.toNat, by omega⟩
    simp only [List.sum_cons, List.sum_nil, List.length_cons, List.length_nil] at hl
    obtain ⟨S', h1, h2, h3⟩ := D1 (t := n) (by omega) (L := h.map fun m => m.1.getD 0 0) (by rw [List.length_map]; omega)
    obtain ⟨S, hS, rfl⟩ := List.sublist_map_iff.mp h1
    obtain ⟨R, _, hR⟩ := sub_rest hS
    refine key S R hR (fun e => h2 (by rw [e]; rfl)) (Subtype.ext ?_)
    rw [tot_one, Int.emod_eq_zero_of_dvd h3]
    rfl
  | [s, t], hd, hg, h, hl, key =>
    have hs := hg.2.2 s (by simp)
    have ht := hg.2.2 t (by simp)
    obtain ⟨n, rfl⟩ : ∃ n : Nat, s = n := ⟨s.toNat, by omega⟩
    obtain ⟨k, rfl⟩ : ∃ n : Nat, t = n := ⟨t.toNat, by omega⟩
    have hdv : ((n : Nat) : Int) ∣ ((k : Nat) : Int) := hd.div _ (by simp)
    have h40 : ((n : Nat) : Int) * (((k : Nat) : Int) * 1) ≤ 40 := hd.small
    simp only [List.sum_cons, List.sum_nil, List.length_cons, List.length_nil] at hl
    obtain ⟨S', R', h1, h2, h3, h4⟩ := D2_all (s := n) (t := k) (by omega) (by omega) (Int.ofNat_dvd.mp hdv) (by rw [Int.mul_one] at h40; exact_mod_cast h40) (h.map fun m => (m.1.getD 0 0, m.1.getD 1 0)) (by rw [List.length_map]; omega)
    obtain ⟨z, hz, e⟩ := perm_map h1
    obtain ⟨S, R, rfl, e2, _⟩ := List.map_eq_append_iff.mp e
    refine key S R hz (fun z => h2 (by rw [← e2, z]; rfl)) (Subtype.ext ?_)
    rw [tot_two, e2, Int.emod_eq_zero_of_dvd h3, Int.emod_eq_zero_of_dvd h4]
    rfl
end VV

/-! V46: heaps that grow -/
namespace VV
open PySem PySem.Spec L2
open PyProof.Rows hiding St
theorem Part.cut {α : Type} [Gr α] [DecidableEq α] {x : α} : ∀ {h : List α} {i : Nat} {ks : List Nat} {n : Nat} {m : α}, Part (h ++ [x]) i ks n m → i + h.length ∉ ks → Part h i ks n m
  | [], i, _, _, _, p, hn => by
    cases p with
    | skip q => exact match q with | .nil => .nil
    | take q => exact absurd (List.mem_cons_self) hn
  | y :: h, i, _, _, _, p, hn => by
    cases p with
    | skip q => exact .skip (Part.cut q (by rw [List.length_cons] at hn; rwa [show i + 1 + h.length = i + (h.length + 1) by omega]))
    | take q => exact .take (Part.cut q fun z => hn (List.mem_cons_of_mem _ (by rw [List.length_cons]; rwa [show i + (h.length + 1) = i + 1 + h.length by omega])))
section
variable {d : DialT}
/-- the marks that leave a free heap free -/
def growB (h : List (Mk d)) (m : Mk d) : Bool := decide (m ≠ 0) && !comeB h (-m)
def growL (h : List (Mk d)) : List (Mk d) := setL (growB h)
theorem mem_growL {h : List (Mk d)} {m : Mk d} : m ∈ growL h ↔ m ≠ 0 ∧ comeB h (-m) = false := by
  unfold growL growB
  rw [mem_setL]
  simp
theorem come_snocB {h : List (Mk d)} {x m : Mk d} : comeB (h ++ [x]) m = true ↔ comeB h m = true ∨ m = x ∨ comeB h (m + -x) = true := by
  rw [comeB_iff, come_snoc, comeB_iff, comeB_iff]
  constructor
  · rintro (a | a | ⟨k, a, rfl⟩)
    · exact .inl a
    · exact .inr (.inl a)
    · exact .inr (.inr (by rwa [Gr.cancelp]))
  · rintro (a | a | a)
    · exact .inl a
    · exact .inr (.inl a)
    · exact .inr (.inr ⟨_, a, Gr.canceln m x⟩)
theorem come_up {h : List (Mk d)} {x m : Mk d} (e : comeB h m = true) : comeB (h ++ [x]) m = true := come_snocB.mpr (.inl e)
theorem come_nilB (m : Mk d) : comeB [] m = false := rfl
/-- a mark that leaves the heap free -/
theorem grow_free {h : List (Mk d)} {m : Mk d} (hf : comeB h 0 = false) : comeB (h ++ [m]) 0 = false ↔ m ∈ growL h := by
  rw [Bool.eq_false_iff, Ne, come_snocB, mem_growL, Gr.zadd]
  constructor
  · intro z
    exact ⟨fun e => z (.inr (.inl e.symm)), Bool.eq_false_iff.mpr fun e => z (.inr (.inr e))⟩
  · rintro ⟨h1, h2⟩ (e | e | e)
    · rw [hf] at e; cases e
    · exact h1 e.symm
    · rw [h2] at e; cases e
theorem grow_down {h : List (Mk d)} {x m : Mk d} (e : m ∈ growL (h ++ [x])) : m ∈ growL h := by
  rw [mem_growL] at e ⊢
  refine ⟨e.1, Bool.eq_false_iff.mpr fun z => ?_⟩
  have := come_up (x := x) z
  rw [e.2] at this; cases this
theorem grow_perm {h h' : List (Mk d)} (p : h.Perm h') : growL h = growL h' := setL_ext.mpr fun m => by unfold growB; rw [come_perm p]
/-- a free heap has as many sums as things, at least -/
theorem free_many (h : List (Mk d)) : comeB h 0 = false → h.length ≤ (setL (comeB h)).length := by
  refine rev_ind (P := fun h => comeB h 0 = false → h.length ≤ (setL (comeB h)).length) (fun _ => Nat.zero_le _) (fun l x ih hf => ?_) h
  have hl : comeB l 0 = false := Bool.eq_false_iff.mpr fun z => by rw [come_up z] at hf; cases hf
  have i1 := ih hl
  have new : ∃ m, comeB (l ++ [x]) m = true ∧ comeB l m = false := by
    refine Classical.byContradiction fun hn => ?_
    have same : ∀ m, comeB (l ++ [x]) m = true → comeB l m = true := fun m hm => by
      cases e : comeB l m with
      | true => rfl
      | false => exact absurd ⟨m, hm, e⟩ hn
    have all : ∀ k, comeB l (nm (k + 1) x) = true := fun k => by
      induction k with
      | zero => rw [nm_one]; exact same _ (come_snocB.mpr (.inr (.inl rfl)))
      | succ k ih => exact same _ (come_snocB.mpr (.inr (.inr (by rw [nm, Gr.cancelp]; exact ih))))
    obtain ⟨r, r1, hr⟩ := turn_mk x
    have := all (r - 1)
    rw [show r - 1 + 1 = r by omega, hr, hl] at this
    cases this
  obtain ⟨m, m1, m2⟩ := new
  have := len_lt (S := comeB l) (T := comeB (l ++ [x])) (fun m h => come_up h) m1 m2
  rw [List.length_append, List.length_singleton]
  omega
theorem allK_tail : (allK d).drop 1 = setL fun m => decide (m ≠ 0) := by
  obtain ⟨t, ht⟩ := allK_head d
  have nd := allK_nodup d
  rw [ht, List.nodup_cons] at nd
  unfold setL
  have all : ∀ m ∈ t, decide (m ≠ 0) = true := fun m hm => decide_eq_true fun (e : m = 0) => nd.1 (e ▸ hm)
  rw [ht, List.drop_one, List.tail_cons, List.filter_cons, if_neg (by simp), List.filter_eq_self.mpr all]
theorem cut_one {f : Mk d → PyData} (xs : List (Mk d)) : cutD (xs.map f) (some 1) none = (xs.drop 1).map f := by
  have e1 : HT.sIx (xs.map f).length 0 (some 1) = min 1 xs.length := by
    have := HT.sIx_nat (xs.map f).length 0 1
    rw [show ((1 : Nat) : Int) = 1 from rfl] at this
    rw [this, List.length_map]
  unfold cutD
  rw [e1, HT.sIx_none, List.take_of_length_le (by simp), ← List.map_drop]
  cases xs with
  | nil => rfl
  | cons _ _ => rw [show min 1 (_ :: _).length = 1 by simp]
/-- what grows, taken out of all marks -/
theorem grow_filter (h : List (Mk d)) : (setL fun m => decide (m ≠ 0)).filter (fun m => !comeB h (-m)) = growL h := by
  unfold setL growL growB setL
  rw [List.filter_filter]
  exact List.filter_congr fun m _ => Bool.and_comm _ _
theorem cutD_drop (xs : List PyData) (k : Nat) : cutD xs (some (k : Int)) none = xs.drop k := by
  unfold cutD
  rw [HT.sIx_none, HT.sIx_nat, List.take_of_length_le (by simp)]
  by_cases h : k ≤ xs.length
  · rw [Nat.min_eq_left h]
  · rw [Nat.min_eq_right (by omega), List.drop_length, List.drop_eq_nil_of_le (by omega)]
theorem turn_perm {α : Type} (h : List α) (k : Nat) : (h.drop k ++ (h.take k).reverse).Perm h :=
  (List.perm_append_comm.trans ((List.reverse_perm _).append_right _)).trans (by rw [List.take_append_drop])
/-- a mark that is no more among those that grow -/
theorem gone_come {h : List (Mk d)} {m : Mk d} (hf : comeB h 0 = false) (hm : m ∉ growL h) : comeB (h ++ [m]) 0 = true := by
  cases e : comeB (h ++ [m]) 0 with
  | true => rfl
  | false => exact absurd ((grow_free hf).mp e) hm
theorem least_of {P : Nat → Prop} [DecidablePred P] : ∀ {n : Nat}, P n → ∃ k, P k ∧ ∀ j, j < k → ¬ P j
  | n, h => by
    induction n using Nat.strongRecOn with
    | _ n ih =>
      by_cases hn : ∃ j, j < n ∧ P j
      · obtain ⟨j, a, b⟩ := hn
        exact ih j a b
      · exact ⟨n, h, fun j hj hp => hn ⟨j, hj, hp⟩⟩
theorem come_least {h : List (Mk d)} {m : Mk d} (hc : comeB h m = true) : ∃ n, 1 ≤ n ∧ 0 < W h n m ∧ ∀ k, 1 ≤ k → k < n → W h k m = 0 := by
  obtain ⟨n, n1, hn⟩ := comeB_iff.mp hc
  obtain ⟨k, ⟨k1, hk⟩, hl⟩ := least_of (P := fun k => 1 ≤ k ∧ 0 < W h k m) ⟨n1, hn⟩
  exact ⟨k, k1, hk, fun j j1 jk => by have := hl j jk; omega⟩
theorem come_not {h : List (Mk d)} {m : Mk d} (hc : comeB h m = false) {k : Nat} (hk : 1 ≤ k) : W h k m = 0 := by
  rcases Nat.eq_zero_or_pos (W h k m) with z | z
  · exact z
  · rw [comeB_iff.mpr ⟨k, hk, z⟩] at hc; cases hc
theorem mark_some (d : DialT) : ∃ m : Mk d, m ≠ 0 := by
  obtain ⟨dl, hd⟩ := d
  have hg := hd.good
  match dl, hd, hg with
  | [], _, hg => exact absurd rfl hg.1
  | _ :: _ :: _ :: _, _, hg => exact absurd hg.2.1 (by simp)
  | [s], hd, hg =>
    have hs := hg.2.2 s (by simp)
    refine ⟨⟨[1], .cons (by decide) (by omega) .nil⟩, fun e => ?_⟩
    have := congrArg Subtype.val e
    exact absurd this (by show ([1] : List Int) ≠ [0]; simp)
  | [s, t], hd, hg =>
    have hs := hg.2.2 s (by simp)
    have ht := hg.2.2 t (by simp)
    refine ⟨⟨[1, 0], .cons (by decide) (by omega) (.cons (by decide) (by omega) .nil)⟩, fun e => ?_⟩
    have := congrArg Subtype.val e
    exact absurd this (by show ([1, 0] : List Int) ≠ [0, 0]; simp)
theorem long_small (d : DialT) : longN d.1 ≤ 80 := by
  obtain ⟨dl, hd⟩ := d
  have hg := hd.good
  unfold longN
  match dl, hd, hg with
  | [], _, hg => exact absurd rfl hg.1
  | _ :: _ :: _ :: _, _, hg => exact absurd hg.2.1 (by simp)
  | [s], hd, hg =>
    have hs := hg.2.2 s (by simp)
    have h40 : s * 1 ≤ 40 := hd.small
    simp only [List.sum_cons, List.sum_nil, List.length_cons, List.length_nil]
    omega
  | [s, t], hd, hg =>
    have hs := hg.2.2 s (by simp)
    have ht := hg.2.2 t (by simp)
    have h40 : s * (t * 1) ≤ 40 := hd.small
    rw [Int.mul_one] at h40
    have h1 : 1 * t ≤ s * t := Int.mul_le_mul_of_nonneg_right (by omega) (by omega)
    have h2 : s * 1 ≤ s * t := Int.mul_le_mul_of_nonneg_left (by omega) (by omega)
    simp only [List.sum_cons, List.sum_nil, List.length_cons, List.length_nil]
    omega
end
end VV

/-! V47: the sum of a tuple of small ints -/
namespace VV
open PySem PySem.Spec L2
open PyProof.Rows hiding St
theorem preSum_take (ns : List Int) : ∀ j, j ≤ ns.length → preSum (fun i => ns.getD i 0) j = (ns.take j).sum
  | 0, _ => rfl
  | j + 1, h => by
    rw [preSum, preSum_take ns j (by omega), List.take_succ, List.sum_append, List.getD_eq_getElem?_getD, List.getElem?_eq_getElem (by omega)]
    simp
theorem sum_bound {B : Int} : ∀ {ns : List Int}, (∀ n ∈ ns, -B ≤ n ∧ n ≤ B) → -(B * ns.length) ≤ ns.sum ∧ ns.sum ≤ B * ns.length
  | [], _ => by simp
  | n :: ns, h => by
    have h1 := h n (by simp)
    have h2 := sum_bound (ns := ns) fun m hm => h m (by simp [hm])
    rw [List.sum_cons, List.length_cons]
    have e : B * ((ns.length + 1 : Nat) : Int) = B * (ns.length : Int) + B := by rw [Int.natCast_add, Int.mul_add]; simp
    omega
/-- small enough to be added up -/
def Smalls (ns : List Int) : Prop := ns.length ≤ 1000 ∧ ∀ n ∈ ns, -1000000 ≤ n ∧ n ≤ 1000000
theorem Smalls.fit {ns : List Int} (h : Smalls ns) {j : Nat} (hj : j < ns.length) : InLong (ns.getD j 0) ∧ InLong (preSum (fun i => ns.getD i 0) (j + 1)) := by
  have h1 := h.2 (ns.getD j 0) (by rw [List.getD_eq_getElem?_getD, List.getElem?_eq_getElem hj]; exact List.getElem_mem hj)
  have h2 := sum_bound (B := 1000000) (ns := ns.take (j + 1)) fun n hn => h.2 n (List.mem_of_mem_take hn)
  rw [preSum_take ns _ hj]
  have h3 : (ns.take (j + 1)).length ≤ 1000 := by rw [List.length_take]; have := h.1; omega
  have h4 : (List.take j.succ ns).sum = (List.take (j + 1) ns).sum := rfl
  unfold InLong
  omega
section
variable {X : Cx}
def rSumT (K : PySem.W.Frag) : List V → Hp → VK → Prop := fun vs H Q => ∃ (a : Addr) (ns : List Int), vs = [V.ref a] ∧ SqT K H a (ns.map V.int) ∧ Smalls ns ∧ Q (.int ns.sum) H
theorem cr_sumT (hc : X.calm = true) : CallR X (.builtin "sum") (rSumT X.K) := fun pins s σ H vs us Q I r h => by
  obtain ⟨a, ns, rfl, hs, hm, q⟩ := h
  obtain ⟨its, rv, p, _⟩ := I.tuple hs
  have hp : s.heap.IsTuple a its.toArray := p
  have la : a < s.heap.objs.size := by obtain ⟨o, e, _⟩ := hp; exact Heap.lt_size e
  have len : its.length = ns.length := by have := rv.length; rw [List.length_map] at this; exact this.symm
  have hh : X.A.in1.handled = none := I.ok.hd hc
  rw [Vals.ref1 r]
  refine call_sum_walk (wpAny_pyIter_tuple hp ?_)
  refine ⟨s.heap.objs.size, _, _, _, _, _, fun i => ns.getD i 0, rfl, Walks.tuple hh s.heap.objs.size a (Nat.ne_of_lt la) its.toArray, ⟨⟨_, Heap.get?_push_size _ rfl, rfl, rfl⟩, hp.push _⟩, fun b hb => ?_, fun i v hv => ?_, fun j hj => hm.fit (by rw [List.size_toArray, len] at hj; exact hj), fun h' tk t' hk => ?_⟩
  · show b < (s.heap.push _).objs.size
    rw [Heap.size_push]
    have e : b = s.heap.objs.size ∨ b = a := by simpa using hb
    rcases e with e | e
    · rw [e]; exact Nat.lt_succ_self _
    · rw [e]; exact Nat.lt_succ_of_lt la
  · have hi : i < ns.length := by
      have := (Array.getElem?_eq_some_iff.mp hv).1
      rw [List.size_toArray, len] at this
      exact this
    have hx : (ns.map V.int)[i]? = some (V.int (ns.getD i 0)) := by
      rw [List.getElem?_map, List.getD_eq_getElem?_getD, List.getElem?_eq_getElem hi]
      rfl
    obtain ⟨u, hu, ru⟩ := rv.get hx
    have e : u = v := by
      have hv2 : its[i]? = some v := by simpa using hv
      rw [hv2] at hu
      exact (Option.some.inj hu).symm
    subst e
    exact ru
  · rw [List.size_toArray, len, preSum_take ns _ (Nat.le_refl _), List.take_length]
    refine ⟨.int _, H, I.kept fun b o e => ?_, ⟨_, rfl⟩, q⟩
    refine hk b o (fun z => ?_) (Heap.get?_push_of_some _ e)
    have z2 : b = s.heap.objs.size := by simpa using z
    have := Heap.lt_size e
    rw [z2] at this
    exact Nat.lt_irrefl _ this
def fSumT (ds : List PyData) (k : PyData → Prop) : Prop := match ds with
  | [.tuple xs] => ∃ ns : List Int, xs = ns.map .int ∧ Smalls ns ∧ k (.int ns.sum)
  | _ => False
theorem c_sumT (hc : X.calm = true) : CallR X (.builtin "sum") (liftC (pxOf X) (cRd fSumT)) := rd_of (cr_sumT hc) fun q H vs ds kd Q hq r h k => by
  subst hq
  unfold fSumT at h
  split at h
  · obtain ⟨ns, rfl, hm, h⟩ := h
    obtain ⟨v, rfl, rv⟩ := reps1 r
    cases rv with | tup h1 h2 => exact ⟨_, ns, rfl, (by rw [← h2.ints]; exact h1), hm, k _ _ h (.int _)⟩
  · exact h.elim
end
theorem smalls_dial (d : DialT) : Smalls d.1 := ⟨by have := dial_len d; omega, fun n hn => by
  have h1 := d.2.good.2.2 n hn
  omega⟩
end VV

/-! V48: parts with signs -/
namespace VV
open PySem PySem.Spec L2
open PyProof.Rows hiding St
section
variable {κ : Type} [DecidableEq κ]
/-- a table taken on by numbers told for keys: the lesser one stays -/
def foldU (L : Nat) (t : List (κ × Nat)) (us : List (κ × Nat)) : List (κ × Nat) := us.foldl (fun here u => pt here u.1 (min ((lk here u.1).getD L) u.2)) t
theorem foldU_snoc (L : Nat) (t us : List (κ × Nat)) (u : κ × Nat) : foldU L t (us ++ [u]) = pt (foldU L t us) u.1 (min ((lk (foldU L t us) u.1).getD L) u.2) := by simp [foldU]
theorem foldU_nodup (L : Nat) : ∀ (us t : List (κ × Nat)), (t.map (·.1)).Nodup → ((foldU L t us).map (·.1)).Nodup
  | [], _, h => h
  | u :: us, t, h => foldU_nodup L us _ (pt_nodup h)
theorem foldU_from {L : Nat} : ∀ {us t : List (κ × Nat)} {j : κ} {n : Nat}, (∀ u ∈ us, u.2 ≤ L) → lk (foldU L t us) j = some n → lk t j = some n ∨ ∃ u ∈ us, u.1 = j ∧ u.2 = n
  | [], t, j, n, _, e => .inl e
  | u :: us, t, j, n, hL, e => by
    have ih := foldU_from (us := us) (t := pt t u.1 (min ((lk t u.1).getD L) u.2)) (fun w hw => hL w (by simp [hw])) e
    rcases ih with h | ⟨w, hw, h1, h2⟩
    · rw [lk_pt] at h
      by_cases hj : u.1 = j
      · rw [if_pos hj] at h
        have h := Option.some.inj h
        have hu := hL u (by simp)
        cases hl : lk t u.1 with
        | none =>
          rw [hl] at h
          simp only [Option.getD_none] at h
          exact .inr ⟨u, by simp, hj, by omega⟩
        | some a =>
          rw [hl] at h
          simp only [Option.getD_some] at h
          by_cases ha : a ≤ u.2
          · exact .inl (by rw [← hj, hl]; congr 1; omega)
          · exact .inr ⟨u, by simp, hj, by omega⟩
      · rw [if_neg hj] at h
        exact .inl h
    · exact .inr ⟨w, by simp [hw], h1, h2⟩
theorem foldU_old {L : Nat} : ∀ {us t : List (κ × Nat)} {j : κ} {n : Nat}, lk t j = some n → ∃ k, k ≤ n ∧ lk (foldU L t us) j = some k
  | [], t, j, n, e => ⟨n, Nat.le_refl _, e⟩
  | u :: us, t, j, n, e => by
    by_cases hj : u.1 = j
    · obtain ⟨k, h1, h2⟩ := foldU_old (L := L) (us := us) (t := pt t u.1 (min ((lk t u.1).getD L) u.2)) (j := j) (n := min n u.2) (by rw [lk_pt, if_pos hj, hj, e]; rfl)
      exact ⟨k, by omega, h2⟩
    · exact foldU_old (L := L) (us := us) (t := pt t u.1 (min ((lk t u.1).getD L) u.2)) (by rw [lk_pt, if_neg hj]; exact e)
theorem foldU_new {L : Nat} : ∀ {us t : List (κ × Nat)} {u : κ × Nat}, u ∈ us → ∃ k, k ≤ u.2 ∧ lk (foldU L t us) u.1 = some k
  | w :: us, t, u, hu => by
    rcases List.mem_cons.mp hu with e | hu
    · subst e
      obtain ⟨k, h1, h2⟩ := foldU_old (L := L) (us := us) (t := pt t u.1 (min ((lk t u.1).getD L) u.2)) (j := u.1) (n := min ((lk t u.1).getD L) u.2) (by rw [lk_pt, if_pos rfl])
      exact ⟨k, by omega, h2⟩
    · exact foldU_new (L := L) (us := us) (t := pt t w.1 (min ((lk t w.1).getD L) w.2)) hu
end
section
variable {α : Type} [Gr α] [DecidableEq α]
/-- k things of h come to m with some signs -/
def SW : List α → Nat → α → Bool
  | [], k, m => decide (k = 0 ∧ m = 0)
  | _ :: h, 0, m => SW h 0 m
  | x :: h, k + 1, m => SW h (k + 1) m || (SW h k (m + -x) || SW h k (m + x))
theorem SW_zero : ∀ (h : List α) (m : α), SW h 0 m = decide (m = 0)
  | [], m => by simp [SW]
  | x :: h, m => by rw [SW, SW_zero h m]
theorem SW_cons {x : α} {h : List α} {k : Nat} {m : α} : SW (x :: h) k m = true ↔ SW h k m = true ∨ ∃ j, k = j + 1 ∧ (SW h j (m + -x) = true ∨ SW h j (m + x) = true) := by
  cases k with
  | zero =>
    rw [SW]
    exact ⟨.inl, fun h => h.elim id fun ⟨j, e, _⟩ => by omega⟩
  | succ k =>
    rw [SW, Bool.or_eq_true, Bool.or_eq_true]
    constructor
    · rintro (h | h)
      · exact .inl h
      · exact .inr ⟨k, rfl, h⟩
    · rintro (h | ⟨j, e, h⟩)
      · exact .inl h
      · have : j = k := by omega
        subst this
        exact .inr h
theorem SW_le : ∀ {h : List α} {k : Nat} {m : α}, SW h k m = true → k ≤ h.length
  | [], k, m, e => by
    have := (of_decide_eq_true e).1
    omega
  | x :: h, k, m, e => by
    rw [List.length_cons]
    rcases SW_cons.mp e with e | ⟨j, rfl, e | e⟩
    · have := SW_le e; omega
    · have := SW_le e; omega
    · have := SW_le e; omega
theorem SW_back : ∀ {h : List α} {k : Nat} {m : α}, SW h k m = true → SW h k (-m) = true
  | [], k, m, e => by
    obtain ⟨rfl, rfl⟩ := of_decide_eq_true e
    rw [Gr.nzero]; exact e
  | x :: h, k, m, e => by
    rcases SW_cons.mp e with e | ⟨j, rfl, e | e⟩
    · exact SW_cons.mpr (.inl (SW_back e))
    · refine SW_cons.mpr (.inr ⟨j, rfl, .inr ?_⟩)
      have := SW_back e
      rwa [Gr.neg_addd, Gr.nneg] at this
    · refine SW_cons.mpr (.inr ⟨j, rfl, .inl ?_⟩)
      have := SW_back e
      rwa [Gr.neg_addd] at this
theorem SW_back_iff (h : List α) (k : Nat) (m : α) : SW h k (-m) = SW h k m := Bool.eq_iff_iff.mpr ⟨fun e => by have := SW_back e; rwa [Gr.nneg] at this, SW_back⟩
theorem SW_of_W : ∀ {h : List α} {k : Nat} {m : α}, 0 < W h k m → SW h k m = true
  | [], k, m, e => by
    unfold W at e
    split at e
    · rename_i z; exact decide_eq_true z
    · omega
  | x :: h, k, m, e => by
    rcases W_cons_pos.mp e with e1 | ⟨j, rfl, e1⟩
    · exact SW_cons.mpr (.inl (SW_of_W e1))
    · exact SW_cons.mpr (.inr ⟨j, rfl, .inl (SW_of_W e1)⟩)
/-- n is the least number of things that come to m with signs -/
def SLeast (h : List α) (m : α) (n : Nat) : Prop := SW h n m = true ∧ ∀ k, k < n → SW h k m = false
/-- the numbers told for marks by one thing more -/
def upsS (x : α) (T : List (α × Nat)) (ks : List α) : List (α × Nat) := ks.flatMap fun k => [(k + -x, (lk T k).getD 0 + 1), (k + x, (lk T k).getD 0 + 1)]
theorem upsS_snoc (x : α) (T : List (α × Nat)) (ks : List α) (k : α) : upsS x T (ks ++ [k]) = upsS x T ks ++ [(k + -x, (lk T k).getD 0 + 1)] ++ [(k + x, (lk T k).getD 0 + 1)] := by simp [upsS]
/-- how few things come to a mark with signs -/
def sgT (L : Nat) : List α → List (α × Nat)
  | [] => [(0, 0)]
  | x :: h => foldU L (sgT L h) (upsS x (sgT L h) ((sgT L h).map (·.1)))
theorem sgT_nodup (L : Nat) : ∀ h : List α, ((sgT L h).map (·.1)).Nodup
  | [] => by simp [sgT]
  | x :: h => foldU_nodup L _ _ (sgT_nodup L h)
theorem sgT_lk (L : Nat) : ∀ (h : List α), h.length ≤ L → ∀ m, (∀ n, lk (sgT L h) m = some n → SLeast h m n) ∧ (lk (sgT L h) m = none → ∀ k, SW h k m = false)
  | [], _, m => by
    show (∀ n, lk [((0 : α), 0)] m = some n → _) ∧ (lk [((0 : α), 0)] m = none → _)
    rw [lk_cons, lk_nil]
    by_cases e : (0 : α) = m
    · subst e
      refine ⟨fun n hn => ?_, fun hn => by simp at hn⟩
      simp at hn; subst hn
      exact ⟨by simp [SW], fun k hk => by omega⟩
    · exact ⟨fun n hn => by simp [e] at hn, fun _ k => decide_eq_false fun z => e z.2.symm⟩
  | x :: h, hL, m => by
    simp only [List.length_cons] at hL
    have ih := sgT_lk L h (by omega)
    have ups : ∀ u, u ∈ upsS x (sgT L h) ((sgT L h).map (·.1)) ↔ ∃ k a, lk (sgT L h) k = some a ∧ u.2 = a + 1 ∧ (u.1 = k + -x ∨ u.1 = k + x) := fun u => by
      unfold upsS
      rw [List.mem_flatMap]
      constructor
      · rintro ⟨k, hk, hu⟩
        obtain ⟨a, ha⟩ := Option.isSome_iff_exists.mp ((lk_mem _ _).mpr hk)
        rw [ha] at hu
        simp only [List.mem_cons, List.not_mem_nil, or_false, Option.getD_some] at hu
        rcases hu with rfl | rfl
        · exact ⟨k, a, ha, rfl, .inl rfl⟩
        · exact ⟨k, a, ha, rfl, .inr rfl⟩
      · rintro ⟨k, a, ha, h2, h1⟩
        refine ⟨k, (lk_mem _ _).mp (by rw [ha]; rfl), ?_⟩
        rw [ha]
        obtain ⟨u1, u2⟩ := u
        simp only at h1 h2
        rcases h1 with rfl | rfl <;> simp [h2]
    have upL : ∀ u ∈ upsS x (sgT L h) ((sgT L h).map (·.1)), u.2 ≤ L := fun u hu => by
      obtain ⟨k, a, ha, h2, _⟩ := (ups u).mp hu
      have := SW_le ((ih k).1 a ha).1
      omega
    -- what comes is told
    have told : ∀ j, SW (x :: h) j m = true → ∃ k, k ≤ j ∧ lk (sgT L (x :: h)) m = some k := fun j hj => by
      rcases SW_cons.mp hj with e | ⟨i, rfl, e⟩
      · cases hl : lk (sgT L h) m with
        | none => rw [(ih m).2 hl j] at e; cases e
        | some a =>
          obtain ⟨k, h1, h2⟩ := foldU_old (L := L) (us := upsS x (sgT L h) ((sgT L h).map (·.1))) hl
          refine ⟨k, ?_, h2⟩
          have := ((ih m).1 a hl).2
          rcases Nat.lt_or_ge j a with z | z
          · rw [this j z] at e; cases e
          · omega
      · have go : ∀ y, SW h i y = true → (m = y + -x ∨ m = y + x) → ∃ k, k ≤ i + 1 ∧ lk (sgT L (x :: h)) m = some k := fun y hy em => by
          cases hl : lk (sgT L h) y with
          | none => rw [(ih y).2 hl i] at hy; cases hy
          | some a =>
            have ai : a ≤ i := by
              rcases Nat.lt_or_ge i a with z | z
              · rw [((ih y).1 a hl).2 i z] at hy; cases hy
              · exact z
            obtain ⟨k, h1, h2⟩ := foldU_new (L := L) (t := sgT L h) ((ups (m, a + 1)).mpr ⟨y, a, hl, rfl, em⟩)
            exact ⟨k, by simp only at h1; omega, h2⟩
        rcases e with e | e
        · exact go _ e (.inr (Gr.canceln m x).symm)
        · exact go _ e (.inl (Gr.cancelp m x).symm)
    refine ⟨fun n hn => ?_, fun hn k => ?_⟩
    · have from_ := foldU_from upL hn
      have sw : SW (x :: h) n m = true := by
        rcases from_ with e | ⟨u, hu, rfl, rfl⟩
        · exact SW_cons.mpr (.inl ((ih m).1 n e).1)
        · obtain ⟨k, a, ha, h2, h1⟩ := (ups u).mp hu
          rw [h2]
          refine SW_cons.mpr (.inr ⟨a, rfl, ?_⟩)
          have := ((ih k).1 a ha).1
          rcases h1 with e | e
          · right; rw [e, Gr.canceln]; exact this
          · left; rw [e, Gr.cancelp]; exact this
      refine ⟨sw, fun k hk => Bool.eq_false_iff.mpr fun e => ?_⟩
      obtain ⟨j, h1, h2⟩ := told k e
      rw [hn] at h2
      cases h2
      omega
    · refine Bool.eq_false_iff.mpr fun e => ?_
      obtain ⟨j, h1, h2⟩ := told k e
      rw [hn] at h2
      cases h2
/-- all things of a list, with some signs, come to m -/
def SA : List α → α → Bool
  | [], m => decide (m = 0)
  | x :: t, m => SA t (m + -x) || SA t (m + x)
/-- the first signs -/
def signs1 : List α → α → List Int
  | [], _ => []
  | x :: t, m => if SA t (m + x) = true then -1 :: signs1 t (m + x) else 1 :: signs1 t (m + -x)
def sgn (s : Int) (x : α) : α := if s < 0 then -x else x
theorem signs1_len : ∀ (t : List α) (m : α), (signs1 t m).length = t.length
  | [], _ => rfl
  | x :: t, m => by
    unfold signs1
    split <;> simp [signs1_len t]
theorem signs1_sum : ∀ {t : List α} {m : α}, SA t m = true → totG ((signs1 t m).zipWith sgn t) = m
  | [], m, e => (of_decide_eq_true e).symm
  | x :: t, m, e => by
    unfold signs1
    split
    · rename_i h
      show -x + totG ((signs1 t (m + x)).zipWith sgn t) = m
      rw [signs1_sum h, Gr.comm, Gr.cancelp]
    · rename_i h
      have h2 : SA t (m + -x) = true := by
        rw [SA, Bool.or_eq_true] at e
        exact e.resolve_right h
      show x + totG ((signs1 t (m + -x)).zipWith sgn t) = m
      rw [signs1_sum h2, Gr.comm, Gr.canceln]
theorem signs1_one : ∀ (t : List α) (m : α), ∀ s ∈ signs1 t m, s = 1 ∨ s = -1
  | [], _, s, hs => by simp [signs1] at hs
  | x :: t, m, s, hs => by
    unfold signs1 at hs
    split at hs
    · rcases List.mem_cons.mp hs with e | hs
      · exact .inr e
      · exact signs1_one t _ s hs
    · rcases List.mem_cons.mp hs with e | hs
      · exact .inl e
      · exact signs1_one t _ s hs
end
section
variable {d : DialT}
/-- what can be left behind a thing -/
def stepS (h : List (Mk d)) (n : Nat) (x : Mk d) (R : Mk d → Bool) (m : Mk d) : Bool := SW h n m && (R (m + x) || R (m + -x))
theorem stepS_iff {h : List (Mk d)} {n : Nat} {x : Mk d} {R : Mk d → Bool} {m : Mk d} : stepS h n x R m = true ↔ SW h n m = true ∧ ∃ r, R r = true ∧ (m = r + x ∨ m = r + -x) := by
  unfold stepS
  rw [Bool.and_eq_true, Bool.or_eq_true]
  constructor
  · rintro ⟨h1, h2 | h2⟩
    · exact ⟨h1, _, h2, .inr (Gr.cancelp m x).symm⟩
    · exact ⟨h1, _, h2, .inl (Gr.canceln m x).symm⟩
  · rintro ⟨h1, r, h2, rfl | rfl⟩
    · exact ⟨h1, .inr (by rw [Gr.cancelp]; exact h2)⟩
    · exact ⟨h1, .inl (by rw [Gr.canceln]; exact h2)⟩
/-- the first part of n things that comes with signs to one of R -/
def pickS : List (Mk d) → Nat → Nat → (Mk d → Bool) → List Nat
  | [], _, _, _ => []
  | x :: h, i, n, R => if 0 < n ∧ setL (stepS h (n - 1) x R) ≠ [] then i :: pickS h (i + 1) (n - 1) (stepS h (n - 1) x R) else pickS h (i + 1) n R
theorem setL_ne {S : Mk d → Bool} : setL S ≠ [] ↔ ∃ m, S m = true := by
  constructor
  · intro h
    obtain ⟨m, hm⟩ := List.exists_mem_of_ne_nil _ h
    exact ⟨m, mem_setL.mp hm⟩
  · rintro ⟨m, hm⟩ e
    have := mem_setL.mpr hm
    rw [e] at this
    simp at this
theorem pickS_ok : ∀ {h : List (Mk d)} {i n : Nat} {R : Mk d → Bool}, (∃ r, R r = true ∧ SW h n r = true) →
    (pickS h i n R).length = n ∧ (∀ k ∈ pickS h i n R, i ≤ k ∧ k < i + h.length) ∧ (pickS h i n R).Pairwise (· < ·) ∧ ∃ r, R r = true ∧ SA ((pickS h i n R).map fun k => h.getD (k - i) 0) r = true
  | [], i, n, R, ⟨r, h1, h2⟩ => by
    obtain ⟨rfl, rfl⟩ := of_decide_eq_true h2
    exact ⟨rfl, by simp [pickS], .nil, 0, h1, by simp [pickS, SA]⟩
  | x :: h, i, n, R, ⟨r, h1, h2⟩ => by
    have shift : ∀ {ks : List Nat}, (∀ k ∈ ks, i + 1 ≤ k ∧ k < i + 1 + h.length) → (ks.map fun k => (x :: h).getD (k - i) 0) = ks.map fun k => h.getD (k - (i + 1)) 0 := fun hk => List.map_congr_left fun k hm => by
      have := hk k hm
      rw [show k - i = (k - (i + 1)) + 1 by omega, List.getD_cons_succ]
    unfold pickS
    split
    · rename_i hc
      obtain ⟨hn, hs⟩ := hc
      obtain ⟨m, hm⟩ := setL_ne.mp hs
      obtain ⟨a1, a2, a3, r', a4, a5⟩ := pickS_ok (h := h) (i := i + 1) (n := n - 1) (R := stepS h (n - 1) x R) ⟨m, hm, (stepS_iff.mp hm).1⟩
      refine ⟨by rw [List.length_cons, a1]; omega, fun k hk => ?_, .cons (fun k hk => by have := a2 k hk; omega) a3, ?_⟩
      · rw [List.length_cons]
        rcases List.mem_cons.mp hk with e | hk
        · omega
        · have := a2 k hk; omega
      · rw [List.map_cons, Nat.sub_self, List.getD_cons_zero, shift a2]
        obtain ⟨_, r2, b1, b2⟩ := stepS_iff.mp a4
        refine ⟨r2, b1, ?_⟩
        rw [SA, Bool.or_eq_true]
        rcases b2 with e | e
        · exact .inr (by rw [← e]; exact a5)
        · exact .inl (by rw [← e]; exact a5)
    · rename_i hc
      have h3 : SW h n r = true := by
        rcases SW_cons.mp h2 with e | ⟨j, rfl, e⟩
        · exact e
        · refine absurd ⟨by omega, setL_ne.mpr ?_⟩ hc
          rcases e with e | e
          · exact ⟨_, stepS_iff.mpr ⟨e, r, h1, .inr rfl⟩⟩
          · exact ⟨_, stepS_iff.mpr ⟨e, r, h1, .inl rfl⟩⟩
      obtain ⟨a1, a2, a3, r', a4, a5⟩ := pickS_ok (h := h) (i := i + 1) (n := n) (R := R) ⟨r, h1, h3⟩
      refine ⟨a1, fun k hk => by rw [List.length_cons]; have := a2 k hk; omega, a3, r', a4, ?_⟩
      rw [shift a2]
      exact a5
/-- the part that is told -/
def sgK (h : List (Mk d)) (n : Nat) (m : Mk d) : List Nat := pickS h 0 n fun r => decide (r = m)
def sgTh (h : List (Mk d)) (n : Nat) (m : Mk d) : List (Mk d) := (sgK h n m).map fun k => h.getD k 0
theorem sgK_ok {h : List (Mk d)} {n : Nat} {m : Mk d} (hs : SW h n m = true) : (sgK h n m).length = n ∧ (∀ k ∈ sgK h n m, k < h.length) ∧ (sgK h n m).Pairwise (· < ·) ∧ SA (sgTh h n m) m = true := by
  obtain ⟨a1, a2, a3, r, a4, a5⟩ := pickS_ok (h := h) (i := 0) (n := n) (R := fun r => decide (r = m)) ⟨m, decide_eq_true rfl, hs⟩
  have := of_decide_eq_true a4
  subst this
  exact ⟨a1, fun k hk => by have := a2 k hk; omega, a3, a5⟩
end
end VV

/-! V49: tables of parts with signs -/
namespace VV
open PySem PySem.Spec L2
open PyProof.Rows hiding St
section
variable {α : Type} [Gr α] [DecidableEq α]
/-- both ways a thing goes, of some marks -/
def bothT (x : α) (t : List (α × Bool)) (ks : List α) : List (α × Bool) := ks.foldl (fun here k => pt (pt here (k + x) true) (k + -x) true) t
theorem bothT_snoc (x : α) (t : List (α × Bool)) (ks : List α) (k : α) : bothT x t (ks ++ [k]) = pt (pt (bothT x t ks) (k + x) true) (k + -x) true := by simp [bothT]
theorem bothT_nodup (x : α) : ∀ (ks : List α) (t : List (α × Bool)), (t.map (·.1)).Nodup → ((bothT x t ks).map (·.1)).Nodup
  | [], _, h => h
  | k :: ks, t, h => bothT_nodup x ks _ (pt_nodup (pt_nodup h))
theorem bothT_mem (x j : α) : ∀ (ks : List α) (t : List (α × Bool)), j ∈ (bothT x t ks).map (·.1) ↔ j ∈ t.map (·.1) ∨ ∃ k ∈ ks, j = k + x ∨ j = k + -x
  | [], t => by simp [bothT]
  | k :: ks, t => by
    show j ∈ (bothT x (pt (pt t (k + x) true) (k + -x) true) ks).map (·.1) ↔ _
    rw [bothT_mem x j ks, pt_memK, pt_memK]
    constructor
    · rintro ((e | e | h) | ⟨y, hy, e⟩)
      · exact .inr ⟨k, by simp, .inr e⟩
      · exact .inr ⟨k, by simp, .inl e⟩
      · exact .inl h
      · exact .inr ⟨y, by simp [hy], e⟩
    · rintro (h | ⟨y, hy, e⟩)
      · exact .inl (.inr (.inr h))
      · rcases List.mem_cons.mp hy with rfl | hy
        · rcases e with e | e
          · exact .inl (.inr (.inl e))
          · exact .inl (.inl e)
        · exact .inr ⟨y, hy, e⟩
/-- the marks to which all things come with signs -/
def saT : List α → List (α × Bool)
  | [] => [(0, true)]
  | x :: t => bothT x [] ((saT t).map (·.1))
theorem saT_nodup : ∀ t : List α, ((saT t).map (·.1)).Nodup
  | [] => by simp [saT]
  | x :: t => bothT_nodup x _ _ (by simp)
theorem saT_mem : ∀ (t : List α) (m : α), m ∈ (saT t).map (·.1) ↔ SA t m = true
  | [], m => by simp [saT, SA]
  | x :: t, m => by
    rw [saT, bothT_mem, SA, Bool.or_eq_true]
    constructor
    · rintro (h | ⟨k, hk, e | e⟩)
      · simp at h
      · rw [e]; exact .inl (by rw [Gr.cancelp]; exact (saT_mem t k).mp hk)
      · rw [e]; exact .inr (by rw [Gr.canceln]; exact (saT_mem t k).mp hk)
    · rintro (h | h)
      · exact .inr ⟨_, (saT_mem t _).mpr h, .inl (Gr.canceln m x).symm⟩
      · exact .inr ⟨_, (saT_mem t _).mpr h, .inr (Gr.cancelp m x).symm⟩
end
abbrev sgD {d : DialT} (L : Nat) (h : List (Mk d)) : PyData := .dict (tb encM natD (sgT L h))
abbrev saD {d : DialT} (t : List (Mk d)) : PyData := .dict (tb encM PyData.bool (saT t))
theorem look_sa {d : DialT} (t : List (Mk d)) (m : Mk d) : (Look (tb encM PyData.bool (saT t)) (encM m)).isSome = SA t m := by
  rw [look_tb (fun _ _ => encM_inj), Option.isSome_map, Bool.eq_iff_iff, lk_mem, saT_mem]
theorem tmul_neg1 {d : DialT} (m : Mk d) : tmul (-1) m = -m := rfl
/-- the counts told of all things, each sign -/
def sgCnts {d : DialT} (L : Nat) (h : List (Mk d)) (m : Mk d) : List Nat := ((List.range' 0 h.length).zip h).flatMap fun p => (lk (sgT L (h.drop (p.1 + 1))) (m + p.2)).toList.map (· + 1) ++ (lk (sgT L (h.drop (p.1 + 1))) (m + -p.2)).toList.map (· + 1)
theorem SW_drop {α : Type} [Gr α] [DecidableEq α] {k : Nat} {m : α} : ∀ (h : List α) (i : Nat), SW (h.drop i) k m = true → SW h k m = true
  | h, 0, w => w
  | [], i + 1, w => w
  | x :: h, i + 1, w => SW_cons.mpr (.inl (SW_drop h i (by simpa using w)))
theorem SW_first {α : Type} [Gr α] [DecidableEq α] : ∀ (h : List α) (k : Nat) (m : α), 1 ≤ k → SW h k m = true → ∃ i x, i < h.length ∧ h.drop i = x :: h.drop (i + 1) ∧ (SW (h.drop (i + 1)) (k - 1) (m + -x) = true ∨ SW (h.drop (i + 1)) (k - 1) (m + x) = true)
  | [], k, m, h1, w => by
    have := (of_decide_eq_true w).1
    omega
  | x :: h, k, m, h1, w => by
    rcases SW_cons.mp w with w2 | ⟨j, rfl, w2⟩
    · obtain ⟨i, y, a, b, c⟩ := SW_first h k m h1 w2
      exact ⟨i + 1, y, by simp; omega, by simpa using b, by simpa using c⟩
    · exact ⟨0, x, by simp, by simp, by simpa using w2⟩
theorem zip_get {α : Type} {h : List α} {i : Nat} {x : α} (hi : i < h.length) (hd : h.drop i = x :: h.drop (i + 1)) : (i, x) ∈ (List.range' 0 h.length).zip h := by
  have hx : h[i]? = some x := by
    have := congrArg (fun l => l[0]?) hd
    simpa [List.getElem?_drop] using this
  refine List.mem_iff_getElem?.mpr ⟨i, ?_⟩
  rw [List.getElem?_zip_eq_some]
  exact ⟨by rw [List.getElem?_range' hi]; simp, hx⟩
theorem sgCnts_mem {d : DialT} {L : Nat} {h : List (Mk d)} {m : Mk d} {c : Nat} : c ∈ sgCnts L h m ↔ ∃ i x, i < h.length ∧ h.drop i = x :: h.drop (i + 1) ∧ ∃ y, (y = m + x ∨ y = m + -x) ∧ ∃ b, lk (sgT L (h.drop (i + 1))) y = some b ∧ c = b + 1 := by
  unfold sgCnts
  rw [List.mem_flatMap]
  constructor
  · rintro ⟨⟨i, x⟩, hp, hc⟩
    obtain ⟨hi, hd⟩ := zip_mem hp
    rcases List.mem_append.mp hc with hc | hc
    · obtain ⟨b, hb, rfl⟩ := List.mem_map.mp hc
      exact ⟨i, x, hi, hd, _, .inl rfl, b, by simpa using hb, rfl⟩
    · obtain ⟨b, hb, rfl⟩ := List.mem_map.mp hc
      exact ⟨i, x, hi, hd, _, .inr rfl, b, by simpa using hb, rfl⟩
  · rintro ⟨i, x, hi, hd, y, hy, b, hb, rfl⟩
    refine ⟨(i, x), zip_get hi hd, List.mem_append.mpr ?_⟩
    rcases hy with rfl | rfl
    · exact .inl (List.mem_map.mpr ⟨b, by simpa using hb, rfl⟩)
    · exact .inr (List.mem_map.mpr ⟨b, by simpa using hb, rfl⟩)
theorem sgCnts_le {d : DialT} {L : Nat} {h : List (Mk d)} {m : Mk d} (hL : h.length ≤ L) {k : Nat} (h1 : 1 ≤ k) (hk : SW h k m = true) : ∃ c ∈ sgCnts L h m, c ≤ k := by
  obtain ⟨i, x, hi, hd, hw⟩ := SW_first h k m h1 hk
  have go : ∀ y, SW (h.drop (i + 1)) (k - 1) y = true → (y = m + x ∨ y = m + -x) → ∃ c ∈ sgCnts L h m, c ≤ k := fun y hy ey => by
    have ih := sgT_lk L (h.drop (i + 1)) (by rw [List.length_drop]; omega) y
    cases hl : lk (sgT L (h.drop (i + 1))) y with
    | none => rw [ih.2 hl] at hy; cases hy
    | some b =>
      refine ⟨b + 1, sgCnts_mem.mpr ⟨i, x, hi, hd, y, ey, b, hl, rfl⟩, ?_⟩
      rcases Nat.lt_or_ge (k - 1) b with z | z
      · rw [(ih.1 b hl).2 _ z] at hy; cases hy
      · omega
  rcases hw with hw | hw
  · exact go _ hw (.inr rfl)
  · exact go _ hw (.inl rfl)
theorem sgCnts_pos {d : DialT} {L : Nat} {h : List (Mk d)} {m : Mk d} (hL : h.length ≤ L) {c : Nat} (hc : c ∈ sgCnts L h m) : 1 ≤ c ∧ SW h c m = true := by
  obtain ⟨i, x, hi, hd, y, hy, b, hb, rfl⟩ := sgCnts_mem.mp hc
  have ih := (sgT_lk L (h.drop (i + 1)) (by rw [List.length_drop]; omega) y).1 b hb
  refine ⟨by omega, SW_drop h i ?_⟩
  rw [hd]
  refine SW_cons.mpr (.inr ⟨b, rfl, ?_⟩)
  rcases hy with rfl | rfl
  · exact .inr ih.1
  · exact .inl ih.1
theorem sgC_len {d : DialT} (L : Nat) (h : List (Mk d)) (m : Mk d) : ∀ l : List (Nat × Mk d), (l.flatMap fun p => (lk (sgT L (h.drop (p.1 + 1))) (m + p.2)).toList.map (· + 1) ++ (lk (sgT L (h.drop (p.1 + 1))) (m + -p.2)).toList.map (· + 1)).length ≤ 2 * l.length
  | [] => by simp
  | p :: l => by
    have ih := sgC_len L h m l
    rw [List.flatMap_cons, List.length_append, List.length_append, List.length_map, List.length_map, List.length_cons]
    have : ∀ o : Option Nat, o.toList.length ≤ 1 := fun o => by cases o <;> simp
    have a := this (lk (sgT L (h.drop (p.1 + 1))) (m + p.2))
    have b := this (lk (sgT L (h.drop (p.1 + 1))) (m + -p.2))
    omega
/-- the least count, told of a thing's rest -/
theorem step_key {d : DialT} {L : Nat} {l : List (Mk d)} {x r m : Mk d} {n : Nat} (hL : l.length ≤ L) (hn : 0 < n) (mn : ∀ k, 1 ≤ k → k < n → SW (x :: l) k r = false) (hm : m = r + x ∨ m = r + -x) :
    (((lk (sgT L l) m).getD n : Nat) : Int) = n - 1 ↔ SW l (n - 1) m = true := by
  have fk := sgT_lk L l hL m
  have up : ∀ b, SW l b m = true → SW (x :: l) (b + 1) r = true := fun b hb => SW_cons.mpr (.inr ⟨b, rfl, by
    rcases hm with e | e
    · right; rw [← e]; exact hb
    · left; rw [← e]; exact hb⟩)
  cases e : lk (sgT L l) m with
  | none =>
    have h2 := fk.2 e (n - 1)
    rw [h2, Option.getD_none]
    constructor
    · intro z; omega
    · intro z; cases z
  | some b =>
    have lb := fk.1 b e
    rw [Option.getD_some]
    constructor
    · intro z
      have : b = n - 1 := by omega
      rw [← this]; exact lb.1
    · intro z
      rcases Nat.lt_trichotomy b (n - 1) with h2 | h2 | h2
      · have := up b lb.1
        rw [mn (b + 1) (by omega) (by omega)] at this
        cases this
      · omega
      · rw [lb.2 (n - 1) h2] at z; cases z
end VV

/-! V50: lent, some names left out -/
namespace VV
open PySem PySem.Spec L2
open PyProof.Rows hiding St
theorem slotRes_less : ∀ {σ : St} {sl : Slots} {i : Nat} {p : V × Ent}, p ∈ slotRes σ (sl.set i none) → p ∈ slotRes σ sl
  | [], sl, i, p, h => by simp [slotRes] at h
  | a :: σ, [], i, p, h => h
  | a :: σ, y :: sl, 0, p, h => by
    cases a with
    | none => exact h
    | some v =>
      cases y with
      | none => exact h
      | some e => exact List.mem_cons_of_mem _ h
  | a :: σ, y :: sl, i + 1, p, h => by
    cases a with
    | none => exact slotRes_less (σ := σ) (sl := sl) h
    | some v =>
      cases y with
      | none => exact slotRes_less (σ := σ) (sl := sl) h
      | some e =>
        rcases List.mem_cons.mp (show p ∈ (v, e) :: slotRes σ (sl.set i none) from h) with z | z
        · exact z ▸ List.mem_cons_self
        · exact List.mem_cons_of_mem _ (slotRes_less (σ := σ) (sl := sl) z)
theorem slotRes_wipe {σ : St} {sl : Slots} {p : V × Ent} : ∀ {vs : List Nat}, p ∈ slotRes σ (wipeS sl vs) → p ∈ slotRes σ sl
  | [], h => h
  | v :: vs, h => slotRes_wipe (vs := vs) (slotRes_less h)
def eLendF (vs : List Nat) (w : WE) : WE := fun sl Q => lendS (wipeS sl vs) fun s0 => w s0 fun r s1 => retR s1 r fun x _ => Q (.e x) sl
theorem eLendF_of {q : Px} {vs : List Nat} {w : WE} : ∀ σ H Q, liftE q (eLendF vs w) σ H Q → liftE q w σ H Q := fun σ H Q ⟨U, G0, G, T, sl, Qv, c, h, k⟩ => by
  obtain ⟨U', sUH, tin, fz, _, lendM, lendL, sGU, fin⟩ := Core.lend (M := []) (L := T ++ slotRes σ sl) (f := ⟨q, U, G0⟩) (G := G) (H := H) c.core
  have cw := Rel.wipe c vs
  obtain ⟨s0, c1, wf, h⟩ := lend_ok (lendM (by simp)) cw.wf.len cw.wf.val (fun v e d m => lendL v e d (List.mem_append_right _ (slotRes_wipe m))) (fun v d m => c.core.shrd (List.mem_append_right _ (slotRes_wipe m))) h
  refine ⟨U', ⟨G, []⟩, G, [], s0, _, ⟨c1, wf⟩, h, fun r s1 hq G1 v H1 e1 c2 => ?_⟩
  obtain ⟨x, s2, c3, hn, hk⟩ := c2.ret hq
  have c4 : Core ⟨q, U', ⟨G, []⟩⟩ G1 [(v, x)] H1 := Core.sub (L := slotRes σ s2) (c3.core.perm (by simpa using List.perm_append_comm (l₁ := [(v, x)]) (l₂ := slotRes σ s2)))
  exact k _ _ hk G1 v H1 e1 ⟨fin G1 [(v, x)] H1 e1 (by simpa using hn) c4, c.wf⟩
theorem v_lendF {X : Cx} {e : Expr} {w : WE} {vs : List Nat} (h : PV X e w) : PV X e (eLendF vs w) := PE.imp h eLendF_of
end VV

/-! V51: signs and backs -/
namespace VV
open PySem PySem.Spec L2
open PyProof.Rows hiding St
section
variable {α : Type} [Gr α] [DecidableEq α]
/-- each thing's back put behind it -/
def wideW (h : List α) : List α := h.flatMap fun x => [x, -x]
theorem wideW_cons (x : α) (h : List α) : wideW (x :: h) = x :: -x :: wideW h := rfl
theorem wideW_len : ∀ h : List α, (wideW h).length = 2 * h.length
  | [] => rfl
  | x :: h => by rw [wideW_cons, List.length_cons, List.length_cons, wideW_len h, List.length_cons]; omega
theorem wide_of_SW : ∀ {h : List α} {k : Nat} {m : α}, SW h k m = true → 0 < W (wideW h) k m
  | [], k, m, e => by
    show 0 < W [] k m
    unfold W
    rw [if_pos (of_decide_eq_true e)]; omega
  | x :: h, k, m, e => by
    rw [wideW_cons]
    rcases SW_cons.mp e with e1 | ⟨j, rfl, e1 | e1⟩
    · exact W_cons_pos.mpr (.inl (W_cons_pos.mpr (.inl (wide_of_SW e1))))
    · exact W_cons_pos.mpr (.inr ⟨j, rfl, W_cons_pos.mpr (.inl (wide_of_SW e1))⟩)
    · exact W_cons_pos.mpr (.inl (W_cons_pos.mpr (.inr ⟨j, rfl, by rw [Gr.nneg]; exact wide_of_SW e1⟩)))
theorem SW_of_wide : ∀ {h : List α} {k : Nat} {m : α}, 0 < W (wideW h) k m → ∃ j, j ≤ k ∧ SW h j m = true
  | [], k, m, e => by
    have e : 0 < W ([] : List α) k m := e
    unfold W at e
    split at e
    · rename_i z; exact ⟨k, Nat.le_refl _, decide_eq_true z⟩
    · omega
  | x :: h, k, m, e => by
    rw [wideW_cons] at e
    rcases W_cons_pos.mp e with e1 | ⟨j, rfl, e1⟩
    · rcases W_cons_pos.mp e1 with e2 | ⟨j, rfl, e2⟩
      · obtain ⟨i, a, b⟩ := SW_of_wide e2
        exact ⟨i, a, SW_cons.mpr (.inl b)⟩
      · rw [Gr.nneg] at e2
        obtain ⟨i, a, b⟩ := SW_of_wide e2
        exact ⟨i + 1, by omega, SW_cons.mpr (.inr ⟨i, rfl, .inr b⟩)⟩
    · rcases W_cons_pos.mp e1 with e2 | ⟨i, rfl, e2⟩
      · obtain ⟨i, a, b⟩ := SW_of_wide e2
        exact ⟨i + 1, by omega, SW_cons.mpr (.inr ⟨i, rfl, .inl b⟩)⟩
      · rw [Gr.nneg, Gr.canceln] at e2
        obtain ⟨i, a, b⟩ := SW_of_wide e2
        exact ⟨i, by omega, SW_cons.mpr (.inl b)⟩
theorem W_own : ∀ {h : List α} {k : Nat} {m : α}, (∀ x ∈ h, -x = x) → SW h k m = true → 0 < W h k m
  | [], k, m, _, e => by
    unfold W
    rw [if_pos (of_decide_eq_true e)]; omega
  | x :: h, k, m, ho, e => by
    have ih := fun {k m} => W_own (h := h) (k := k) (m := m) fun y hy => ho y (by simp [hy])
    rcases SW_cons.mp e with e1 | ⟨j, rfl, e1 | e1⟩
    · exact W_cons_pos.mpr (.inl (ih e1))
    · exact W_cons_pos.mpr (.inr ⟨j, rfl, ih e1⟩)
    · exact W_cons_pos.mpr (.inr ⟨j, rfl, by rw [ho x (by simp)]; exact ih e1⟩)
theorem SW_mem : ∀ {h : List α} {x : α}, x ∈ h → SW h 1 x = true
  | y :: h, x, hx => by
    rcases List.mem_cons.mp hx with e | hx
    · exact SW_cons.mpr (.inr ⟨0, rfl, .inl (by rw [e, Gr.addn, SW_zero]; exact decide_eq_true rfl)⟩)
    · exact SW_cons.mpr (.inl (SW_mem hx))
theorem SW_twice : ∀ {h : List α}, ¬ h.Nodup → SW h 2 0 = true
  | [], hn => absurd (by simp) hn
  | x :: h, hn => by
    by_cases hx : x ∈ h
    · exact SW_cons.mpr (.inr ⟨1, rfl, .inr (by rw [Gr.zadd]; exact SW_mem hx)⟩)
    · exact SW_cons.mpr (.inl (SW_twice fun z => hn (List.nodup_cons.mpr ⟨hx, z⟩)))
end
theorem dok_bool (n : Nat) (b : Bool) : Dok n (.bool b) := by cases n <;> exact trivial
section
variable {d : DialT}
theorem zero_rep (d : DialT) : (List.replicate d.1.length [PyData.int 0]).flatten = (zeroM d.1).map .int := by
  have : ∀ l : List Int, (List.replicate l.length [PyData.int 0]).flatten = (zeroM l).map .int := fun l => by
    induction l with
    | nil => rfl
    | cons x l ih => rw [List.length_cons, List.replicate_succ, List.flatten_cons, ih, zeroM_cons]; rfl
  exact this d.1
/-- what the thing of each number is with its sign -/
def bothM (h : List (Mk d)) (ks : List Nat) (ss : List Int) : List (Mk d) := (ks.zip ss).map fun p => if p.2 < 0 then -(h.getD p.1 0) else h.getD p.1 0
theorem bothM_tot (h : List (Mk d)) : ∀ (ks : List Nat) (ss : List Int), bothM h ks ss = ss.zipWith sgn (ks.map fun k => h.getD k 0)
  | [], [] => rfl
  | [], _ :: _ => rfl
  | _ :: _, [] => rfl
  | k :: ks, s :: ss => by
    show _ :: bothM h ks ss = _ :: _
    rw [bothM_tot h ks ss]
    rfl
/-- the least number of things with signs, or none -/
theorem SW_cases (h : List (Mk d)) (m : Mk d) : (∀ k, 1 ≤ k → SW h k m = false) ∨ ∃ n, 1 ≤ n ∧ SW h n m = true ∧ ∀ k, 1 ≤ k → k < n → SW h k m = false := by
  by_cases hn : ∃ k, 1 ≤ k ∧ SW h k m = true
  · obtain ⟨k, h1⟩ := hn
    obtain ⟨n, ⟨n1, h2⟩, h3⟩ := least_of (P := fun k => 1 ≤ k ∧ SW h k m = true) h1
    exact .inr ⟨n, n1, h2, fun j j1 jn => Bool.eq_false_iff.mpr fun z => h3 j jn ⟨j1, z⟩⟩
  · exact .inl fun k k1 => Bool.eq_false_iff.mpr fun z => hn ⟨k, k1, z⟩
theorem pick_len {h : List (Mk d)} {n : Nat} {m : Mk d} (hp : 0 < W h n m) : (pick h 0 n m).length = n := (pick_part h 0 n m hp).len
end
end VV

/-! V52: a dict held against the empty one -/
namespace VV
open PySem PySem.Spec L2
open PyProof.Rows hiding St
section
variable {prog : Program} {w : World} {A : Around} {E : Value → Shared → Prop} {s : Shared}
/-- whether two dicts have the same pairs, the second one empty -/
theorem same_none {nm : String} {a b : Addr} {oa ob : Obj} {es : Array DictEntry} {ep : Nat} {ep' : Nat} {Q : Bool → Shared → Prop} (ha : (a == sysModules) = false) (hb : (b == sysModules) = false)
    (ga : s.heap.get? a = some oa) (da : oa.data = .dict es ep) (gb : s.heap.get? b = some ob) (db : ob.data = .dict #[] ep') (h : Q es.isEmpty s) :
    wpAny (model prog w) A (Builtin.Dict.samePairs nm a b) Q E s := by
  unfold Builtin.Dict.samePairs Builtin.Dict.showsAll
  simp only [ha, hb, Bool.false_eq_true, if_false]
  refine wpAny_bind (wpAny_pure (wpAny_bind (wpAny_pure (wpAny_bind (wpAny_dictEntries ga da ?_)))))
  refine wpAny_bind (wpAny_dictEntries gb db ?_)
  by_cases z : es.size = 0
  · have e : es = #[] := Array.eq_empty_of_size_eq_zero z
    subst e
    simp only [Array.size_empty, bne_self_eq_false, Bool.false_eq_true, if_false]
    refine wpAny_bind (wpAny_dictEpoch ga da ?_)
    refine wpAny_bind ?_
    rw [Std.Legacy.Range.forIn_eq_forIn_range']
    exact wpAny_pure (wpAny_pure h)
  · rw [if_pos (by simpa using z)]
    have : es.isEmpty = false := by simpa [Array.isEmpty] using z
    rw [this] at h
    exact wpAny_bind (wpAny_rule (wpAny_pure h))
end
section
variable {X : Cx} {pins : List (Addr × Obj)} {s : Shared} {σ : St} {H : Hp}
def rNeE (q : Px) : R2 := fun x y H Q => ∃ a b oa ob xs ds, x = .ref a ∧ y = .ref b ∧ H a = some (TDict q a oa xs) ∧ RepT q H xs ds ∧ H b = some (TDict q b ob []) ∧ Q (.bl (!xs.isEmpty)) H
theorem op_neE (hu : X.A.units + 64 < cLine) : OpR X (compareOp .NotEq) (rNeE (pxOf X)) := fun pins s σ H x y v u Q I rx ry h => by
  obtain ⟨a, b, oa, ob, xs, ds, rfl, rfl, ha, r, hb, q⟩ := h
  obtain rfl : v = Value.ref a := rx
  obtain rfl : u = Value.ref b := ry
  obtain ⟨g1, _, s1, x1, ⟨es, ep, d1, l1⟩, _⟩ := td_at I ha
  obtain ⟨g2, _, s2, x2, ⟨es2, ep2, d2, l2⟩, _⟩ := td_at I hb
  have e2 : es2 = #[] := by
    obtain ⟨l⟩ := es2
    simp only [List.map_nil] at l2
    rw [l2]
  subst e2
  have ta := (td_is I ha r).typeIs
  have tb := (td_is I hb .nil).typeIs
  have ee : es.isEmpty = xs.isEmpty := by
    obtain ⟨l⟩ := es
    simp only at l1
    rw [l1]
    cases xs <;> rfl
  refine wpAny_richCompare_same_room (op := .NotEq) ta tb PySem.F.slot_dict_ne (wpAny_call_entry PySem.F.slot_dict_ne ta PySem.F.entry_dict_ne ?_ (PySem.F.args_dict_ne_2 _ _)) (by omega)
  show wpAny _ _ (Builtin.Dict.dictSlotArgs "__ne__" ⟨[.ref a, .ref b], []⟩ >>= _) _ _ s
  unfold Builtin.Dict.dictSlotArgs
  refine wpAny_bind (wpAny_bind (wpAny_notOrdered_dict ta (wpAny_pure ?_)))
  refine wpAny_bind (wpAny_isInstance (T := "dict") tb PySem.F.sub_dict_dict ?_)
  simp only [Bool.not_true, Bool.false_eq_true, if_false]
  refine wpAny_bind (wpAny_pure (wpAny_bind (wpAny_pure (wpAny_bind (same_none s1 s2 g1 d1 g2 d2 (wpAny_pure ⟨_, rfl, (fun z => nomatch z), ⟨.bl _, H, I.tok _, rfl, ?_⟩⟩))))))
  have e3 : (es.isEmpty == false) = !xs.isEmpty := by rw [ee]; cases xs.isEmpty <;> rfl
  rw [← e3] at q
  exact q
end
def dNeE : DOp := fun dx dy k => match dx, dy with
  | .dict xs, .dict [] => k (.bool (!xs.isEmpty))
  | _, _ => False
theorem o_neE {X : Cx} (hu : X.A.units + 64 < cLine) : OpR X (compareOp .NotEq) (liftO (pxOf X) (oRd dNeE)) := op_rd (op_neE hu) fun x y H dx dy k Q hx hy hg hQ => by
  unfold dNeE at hg
  split at hg
  · cases hx with
    | dctT h1 r1 =>
      cases hy with
      | dctT h2 r2 =>
        cases r2
        refine ⟨_, _, _, _, _, _, rfl, rfl, h1, r1, h2, hQ _ _ hg ?_⟩
        cases r1 <;> exact .bl _
  · exact hg.elim
end VV

/-! V53: signs, reckoned the law's way -/
namespace VV
open PySem PySem.Spec L2
open PyProof.Rows hiding St
section
variable {α : Type} [Gr α] [DecidableEq α]
/-- a table tells the least numbers -/
def Tells (T : List (α × Nat)) (h : List α) : Prop := ∀ m, (∀ n, lk T m = some n → SLeast h m n) ∧ (lk T m = none → ∀ k, SW h k m = false)
theorem Tells.step {L : Nat} {T us : List (α × Nat)} {x : α} {h : List α} (ih : Tells T h) (hL : h.length < L) (ups : ∀ u, u ∈ us ↔ ∃ k a, lk T k = some a ∧ u.2 = a + 1 ∧ (u.1 = k + -x ∨ u.1 = k + x)) : Tells (foldU L T us) (x :: h) := fun m => by
  have upL : ∀ u ∈ us, u.2 ≤ L := fun u hu => by
    obtain ⟨k, a, ha, h2, _⟩ := (ups u).mp hu
    have := SW_le ((ih k).1 a ha).1
    omega
  have least : ∀ {y : α} {i : Nat}, SW h i y = true → ∃ a, a ≤ i ∧ lk T y = some a := fun {y i} hy => by
    cases hl : lk T y with
    | none => rw [(ih y).2 hl i] at hy; cases hy
    | some a =>
      refine ⟨a, Nat.le_of_not_lt fun z => ?_, rfl⟩
      rw [((ih y).1 a hl).2 i z] at hy; cases hy
  have told : ∀ j, SW (x :: h) j m = true → ∃ k, k ≤ j ∧ lk (foldU L T us) m = some k := fun j hj => by
    rcases SW_cons.mp hj with e | ⟨i, rfl, e⟩
    · obtain ⟨a, aj, hl⟩ := least e
      obtain ⟨k, h1, h2⟩ := foldU_old (L := L) (us := us) hl
      exact ⟨k, by omega, h2⟩
    · have go : ∀ y, SW h i y = true → (m = y + -x ∨ m = y + x) → ∃ k, k ≤ i + 1 ∧ lk (foldU L T us) m = some k := fun y hy em => by
        obtain ⟨a, ai, hl⟩ := least hy
        obtain ⟨k, h1, h2⟩ := foldU_new (L := L) (t := T) ((ups (m, a + 1)).mpr ⟨y, a, hl, rfl, em⟩)
        exact ⟨k, by simp only at h1; omega, h2⟩
      rcases e with e | e
      · exact go _ e (.inr (Gr.canceln m x).symm)
      · exact go _ e (.inl (Gr.cancelp m x).symm)
  refine ⟨fun n hn => ?_, fun hn k => Bool.eq_false_iff.mpr fun e => ?_⟩
  · have sw : SW (x :: h) n m = true := by
      rcases foldU_from upL hn with e | ⟨u, hu, rfl, rfl⟩
      · exact SW_cons.mpr (.inl ((ih m).1 n e).1)
      · obtain ⟨k, a, ha, h2, h1⟩ := (ups u).mp hu
        rw [h2]
        have := ((ih k).1 a ha).1
        refine SW_cons.mpr (.inr ⟨a, rfl, ?_⟩)
        rcases h1 with e | e
        · right; rw [e, Gr.canceln]; exact this
        · left; rw [e, Gr.cancelp]; exact this
    refine ⟨sw, fun k hk => Bool.eq_false_iff.mpr fun e => ?_⟩
    obtain ⟨j, h1, h2⟩ := told k e
    rw [hn] at h2
    cases h2
    omega
  · obtain ⟨j, h1, h2⟩ := told k e
    rw [hn] at h2
    cases h2
def upsL (x : α) (T : List (α × Nat)) (ks : List α) : List (α × Nat) := ks.flatMap fun k => [(k + x, (lk T k).getD 0 + 1), (k + -x, (lk T k).getD 0 + 1)]
theorem upsL_snoc (x : α) (T : List (α × Nat)) (ks : List α) (k : α) : upsL x T (ks ++ [k]) = upsL x T ks ++ [(k + x, (lk T k).getD 0 + 1)] ++ [(k + -x, (lk T k).getD 0 + 1)] := by simp [upsL]
theorem upsL_mem {x : α} {T : List (α × Nat)} (u : α × Nat) : u ∈ upsL x T (T.map (·.1)) ↔ ∃ k a, lk T k = some a ∧ u.2 = a + 1 ∧ (u.1 = k + -x ∨ u.1 = k + x) := by
  unfold upsL
  rw [List.mem_flatMap]
  constructor
  · rintro ⟨k, hk, hu⟩
    obtain ⟨a, ha⟩ := Option.isSome_iff_exists.mp ((lk_mem _ _).mpr hk)
    rw [ha] at hu
    simp only [List.mem_cons, List.not_mem_nil, or_false, Option.getD_some] at hu
    rcases hu with rfl | rfl
    · exact ⟨k, a, ha, rfl, .inr rfl⟩
    · exact ⟨k, a, ha, rfl, .inl rfl⟩
  · rintro ⟨k, a, ha, h2, h1⟩
    refine ⟨k, (lk_mem _ _).mp (by rw [ha]; rfl), ?_⟩
    rw [ha]
    obtain ⟨u1, u2⟩ := u
    simp only at h1 h2
    rcases h1 with rfl | rfl <;> simp [h2]
/-- the law's table -/
def lwT : List α → List (α × Nat)
  | [] => [(0, 0)]
  | x :: h => foldU 99 (lwT h) (upsL x (lwT h) ((lwT h).map (·.1)))
theorem lwT_nodup : ∀ h : List α, ((lwT h).map (·.1)).Nodup
  | [] => by simp [lwT]
  | x :: h => foldU_nodup _ _ _ (lwT_nodup h)
theorem lwT_tells : ∀ h : List α, h.length ≤ 99 → Tells (lwT h) h
  | [], _ => fun m => by
    show (∀ n, lk [((0 : α), 0)] m = some n → _) ∧ (lk [((0 : α), 0)] m = none → _)
    rw [lk_cons, lk_nil]
    by_cases e : (0 : α) = m
    · subst e
      refine ⟨fun n hn => ?_, fun hn => by simp at hn⟩
      simp at hn; subst hn
      exact ⟨by simp [SW], fun k hk => by omega⟩
    · exact ⟨fun n hn => by simp [e] at hn, fun _ k => decide_eq_false fun z => e z.2.symm⟩
  | x :: h, hl => (lwT_tells h (by rw [List.length_cons] at hl; omega)).step (by rw [List.length_cons] at hl; omega) upsL_mem
/-- the sums of all parts, none too -/
def subs : List α → List α
  | [] => [0]
  | x :: h => subs h ++ (subs h).map (· + x)
theorem subs_len : ∀ h : List α, (subs h).length = 2 ^ h.length
  | [] => rfl
  | x :: h => by rw [subs, List.length_append, List.length_map, subs_len h, List.length_cons, Nat.pow_succ]; omega
theorem subs_less : ∀ {h : List α} {p q : α}, p ∈ subs h → q ∈ subs h → ∃ j, SW h j (p + -q) = true
  | [], p, q, hp, hq => by
    have hp : p = 0 := by simpa [subs] using hp
    have hq : q = 0 := by simpa [subs] using hq
    exact ⟨0, by rw [hp, hq, SW_zero, Gr.addn]; exact decide_eq_true rfl⟩
  | x :: h, p, q, hp, hq => by
    rcases List.mem_append.mp hp with hp | hp
    · rcases List.mem_append.mp hq with hq | hq
      · obtain ⟨j, hj⟩ := subs_less hp hq
        exact ⟨j, SW_cons.mpr (.inl hj)⟩
      · obtain ⟨q', hq', rfl⟩ := List.mem_map.mp hq
        obtain ⟨j, hj⟩ := subs_less hp hq'
        exact ⟨j + 1, SW_cons.mpr (.inr ⟨j, rfl, .inr (by rw [Gr.neg_addd, ← Gr.assoc, Gr.canceln]; exact hj)⟩)⟩
    · obtain ⟨p', hp', rfl⟩ := List.mem_map.mp hp
      rcases List.mem_append.mp hq with hq | hq
      · obtain ⟨j, hj⟩ := subs_less hp' hq
        exact ⟨j + 1, SW_cons.mpr (.inr ⟨j, rfl, .inl (by rw [Gr.swap, Gr.cancelp]; exact hj)⟩)⟩
      · obtain ⟨q', hq', rfl⟩ := List.mem_map.mp hq
        obtain ⟨j, hj⟩ := subs_less hp' hq'
        exact ⟨j, SW_cons.mpr (.inl (by
          have e : p' + x + -(q' + x) = p' + -q' := by rw [Gr.neg_addd, ← Gr.assoc, Gr.swap p' x, Gr.cancelp]
          rw [e]; exact hj))⟩
theorem subs_nodup : ∀ {h : List α}, (∀ k, 1 ≤ k → SW h k 0 = false) → (subs h).Nodup
  | [], _ => by simp [subs]
  | x :: h, hn => by
    have ih := subs_nodup (h := h) fun k k1 => Bool.eq_false_iff.mpr fun z => by
      have := hn k k1
      rw [SW_cons.mpr (.inl z)] at this
      cases this
    rw [subs, List.nodup_append]
    refine ⟨ih, nd_map_on ih fun a _ b _ e => Gr.cancel e, fun p hp q hq e => ?_⟩
    obtain ⟨q', hq', rfl⟩ := List.mem_map.mp hq
    obtain ⟨j, hj⟩ := subs_less hp hq'
    have := hn (j + 1) (by omega)
    rw [SW_cons.mpr (.inr ⟨j, rfl, .inr (by
      rw [Gr.zadd]
      have e2 : p + -q' = x := by rw [e, Gr.comm q', Gr.cancelp]
      rw [e2] at hj; exact hj)⟩)] at this
    cases this
/-- both ways a thing goes, the other way about -/
def bothL (x : α) (t : List (α × Bool)) (ks : List α) : List (α × Bool) := ks.foldl (fun here k => pt (pt here (k + -x) true) (k + x) true) t
theorem bothL_snoc (x : α) (t : List (α × Bool)) (ks : List α) (k : α) : bothL x t (ks ++ [k]) = pt (pt (bothL x t ks) (k + -x) true) (k + x) true := by simp [bothL]
theorem bothL_nodup (x : α) : ∀ (ks : List α) (t : List (α × Bool)), (t.map (·.1)).Nodup → ((bothL x t ks).map (·.1)).Nodup
  | [], _, h => h
  | k :: ks, t, h => bothL_nodup x ks _ (pt_nodup (pt_nodup h))
theorem bothL_mem (x j : α) : ∀ (ks : List α) (t : List (α × Bool)), j ∈ (bothL x t ks).map (·.1) ↔ j ∈ t.map (·.1) ∨ ∃ k ∈ ks, j = k + x ∨ j = k + -x
  | [], t => by simp [bothL]
  | k :: ks, t => by
    show j ∈ (bothL x (pt (pt t (k + -x) true) (k + x) true) ks).map (·.1) ↔ _
    rw [bothL_mem x j ks, pt_memK, pt_memK]
    constructor
    · rintro ((e | e | h) | ⟨y, hy, e⟩)
      · exact .inr ⟨k, by simp, .inl e⟩
      · exact .inr ⟨k, by simp, .inr e⟩
      · exact .inl h
      · exact .inr ⟨y, by simp [hy], e⟩
    · rintro (h | ⟨y, hy, e⟩)
      · exact .inl (.inr (.inr h))
      · rcases List.mem_cons.mp hy with rfl | hy
        · rcases e with e | e
          · exact .inl (.inl e)
          · exact .inl (.inr (.inl e))
        · exact .inr ⟨y, hy, e⟩
def slT : List α → List (α × Bool)
  | [] => [(0, true)]
  | x :: t => bothL x [] ((slT t).map (·.1))
theorem slT_nodup : ∀ t : List α, ((slT t).map (·.1)).Nodup
  | [] => by simp [slT]
  | x :: t => bothL_nodup x _ _ (by simp)
theorem slT_mem : ∀ (t : List α) (m : α), m ∈ (slT t).map (·.1) ↔ SA t m = true
  | [], m => by simp [slT, SA]
  | x :: t, m => by
    rw [slT, bothL_mem, SA, Bool.or_eq_true]
    constructor
    · rintro (h | ⟨k, hk, e | e⟩)
      · simp at h
      · rw [e]; exact .inl (by rw [Gr.cancelp]; exact (slT_mem t k).mp hk)
      · rw [e]; exact .inr (by rw [Gr.canceln]; exact (slT_mem t k).mp hk)
    · rintro (h | h)
      · exact .inr ⟨_, (slT_mem t _).mpr h, .inl (Gr.canceln m x).symm⟩
      · exact .inr ⟨_, (slT_mem t _).mpr h, .inr (Gr.cancelp m x).symm⟩
end
abbrev lwD {d : DialT} (h : List (Mk d)) : PyData := .dict (tb encM natD (lwT h))
abbrev slD {d : DialT} (t : List (Mk d)) : PyData := .dict (tb encM PyData.bool (slT t))
theorem look_sl {d : DialT} (t : List (Mk d)) (m : Mk d) : (Look (tb encM PyData.bool (slT t)) (encM m)).isSome = SA t m := by
  rw [look_tb (fun _ _ => encM_inj), Option.isSome_map, Bool.eq_iff_iff, lk_mem, slT_mem]
/-- as many parts as are more than the marks: one comes with signs to nought -/
theorem many_signed {d : DialT} {h : List (Mk d)} (hm : (allK d).length < 2 ^ h.length) : ∃ k, 1 ≤ k ∧ SW h k 0 = true := by
  refine Classical.byContradiction fun hn => ?_
  have := nodup_len (L := allK d) (subs_nodup (h := h) fun k k1 => Bool.eq_false_iff.mpr fun z => hn ⟨k, k1, z⟩) fun x _ => allK_mem x
  rw [subs_len] at this
  omega
theorem step_key2 {d : DialT} {T : List (Mk d × Nat)} {D : Nat} {l : List (Mk d)} {x r m : Mk d} {n : Nat} (ht : Tells T l) (hD : ((D : Nat) : Int) ≠ n - 1) (hn : 0 < n) (mn : ∀ k, 1 ≤ k → k < n → SW (x :: l) k r = false) (hm : m = r + x ∨ m = r + -x) :
    (((lk T m).getD D : Nat) : Int) = n - 1 ↔ SW l (n - 1) m = true := by
  have fk := ht m
  have up : ∀ b, SW l b m = true → SW (x :: l) (b + 1) r = true := fun b hb => SW_cons.mpr (.inr ⟨b, rfl, by
    rcases hm with e | e
    · right; rw [← e]; exact hb
    · left; rw [← e]; exact hb⟩)
  cases e : lk T m with
  | none =>
    rw [fk.2 e (n - 1), Option.getD_none]
    constructor
    · intro z; exact absurd z hD
    · intro z; cases z
  | some b =>
    have lb := fk.1 b e
    rw [Option.getD_some]
    constructor
    · intro z
      have : b = n - 1 := by omega
      rw [← this]; exact lb.1
    · intro z
      rcases Nat.lt_trichotomy b (n - 1) with h2 | h2 | h2
      · have := up b lb.1
        rw [mn (b + 1) (by omega) (by omega)] at this
        cases this
      · omega
      · rw [lb.2 (n - 1) h2] at z; cases z
end VV

/-! V54: for over a list of one's own lists: each item is one's own within its turn -/
namespace VV
open PySem PySem.Spec L2
open PyProof.Rows hiding St
section
variable {f : Fr} {G H : Hp} {L : List (V × Ent)} {p : Addr} {v : V}
theorem owns_raw {q : Px} {U : Hp} : ∀ vs : List V, Owns q U G H vs (vs.map .raw) []
  | [] => .nil
  | v :: vs => .cons (F := []) .raw (owns_raw vs)
theorem of_raw {q : Px} {U : Hp} : ∀ {vs ws : List V} {F : List Addr}, Owns q U G H ws (vs.map .raw) F → ws = vs ∧ F = []
  | [], _, _, h => by cases h; exact ⟨rfl, rfl⟩
  | v :: vs, _, _, h => by
    cases h with
    | cons h1 h2 =>
      cases h1
      obtain ⟨rfl, rfl⟩ := of_raw h2
      exact ⟨rfl, rfl⟩
/-- a list of entries told apart -/
theorem Core.split {es : List Ent} (c : Core f G ((v, .lst es) :: L) H) : ∃ p vs, v = .ref p ∧ vs.length = es.length ∧ H p = some (.lst vs) ∧ Core f G ((.ref p, .lst (vs.map .raw)) :: (vs.zip es ++ L)) H := by
  obtain ⟨F, a, b, k⟩ := c.res
  cases a with
  | cons h1 h2 =>
    cases h1 with
    | @lst p vs _ F1 hp r =>
      refine ⟨p, vs, rfl, r.length, hp, c.sU, c.sG, c.tups, c.frzs, c.new, _, .cons (.lst hp (owns_raw vs)) ((OwnL.of_owns r).append h2), ?_, fun x m => k x ?_⟩
      · simpa using b
      · simpa using m
theorem Core.rawAt {vs : List V} (c : Core f G L H) (hm : (.ref p, .lst (vs.map .raw)) ∈ L) : H p = some (.lst vs) := by
  obtain ⟨F, a, _, _⟩ := c.res
  obtain ⟨F', o, _⟩ := a.mem hm
  cases o with
  | lst hp r =>
    obtain ⟨rfl, _⟩ := of_raw r
    exact hp
/-- .. and put together again -/
theorem Core.join {vs : List V} {es : List Ent} (c : Core f G ((.ref p, .lst (vs.map .raw)) :: (vs.zip es ++ L)) H) (hl : vs.length = es.length) : Core f G ((.ref p, .lst es) :: L) H := by
  obtain ⟨F, a, b, k⟩ := c.res
  cases a with
  | cons h1 h2 =>
    cases h1 with
    | lst hp r =>
      obtain ⟨rfl, rfl⟩ := of_raw r
      obtain ⟨F1, F2, rfl, a1, a2⟩ := h2.split
      refine ⟨c.sU, c.sG, c.tups, c.frzs, c.new, _, .cons (.lst hp (OwnL.to_owns hl a1)) a2, ?_, fun x m => k x ?_⟩
      · simpa using b
      · simpa using m
theorem Rel.pins {q : Px} {U : Hp} {o : Hp} {pn pn' : List (Nat × V)} {T : List (V × Ent)} {sl : Slots} {σ : St} (c : Rel ⟨q, U, ⟨o, pn⟩⟩ G T sl σ H) (hp : ∀ x ∈ pn', σ[x.1]? = some (some x.2)) : Rel ⟨q, U, ⟨o, pn'⟩⟩ G T sl σ H :=
  ⟨⟨c.core.sU, c.core.sG, c.core.tups, c.core.frzs, c.core.new, c.core.res⟩, c.wf.len, c.wf.val, hp⟩
theorem Rel.less {E T : List (V × Ent)} {sl : Slots} {σ : St} (c : Rel f G (E ++ T) sl σ H) : Rel f G T sl σ H := ⟨Core.sub (L := E) (by rw [← List.append_assoc]; exact c.core), c.wf⟩
theorem Rel.permT {T T' : List (V × Ent)} {sl : Slots} {σ : St} (c : Rel f G T sl σ H) (h : T.Perm T') : Rel f G T' sl σ H := ⟨c.core.perm (h.append_right _), c.wf⟩
theorem RelR.less {E T : List (V × Ent)} {sl : Slots} {σ : St} {r : R} (c : RelR f G (E ++ T) v r sl σ H) : RelR f G T v r sl σ H := by
  cases r with
  | e x => exact Rel.less (E := E) (Rel.permT (show Rel f G ((v, x) :: (E ++ T)) sl σ H from c) List.perm_middle.symm)
  | al i => exact ⟨Rel.less c.1, c.2⟩
end
/-- the turns: what is done, what is left -/
def wForO (i j : Nat) (body : WS) : List Ent → List Ent → WS
  | done, [], sl, P => P.nx ((sl.set j none).set i (some (.lst done)))
  | done, e :: es, sl, P => body (sl.set j (some e)) { P with
      nx := fun s => ∃ x, s[j]? = some (some x) ∧ wForO i j body (done ++ [x]) es ((s.set j none).set i none) P,
      ct := fun s => ∃ x, s[j]? = some (some x) ∧ wForO i j body (done ++ [x]) es ((s.set j none).set i none) P,
      bk := fun s => ∃ x, s[j]? = some (some x) ∧ P.nx ((s.set j none).set i (some (.lst (done ++ x :: es)))) }
def sForO (i j : Nat) (body : WS) : WS := fun sl P => j < sl.length ∧ match sl[i]? with
  | some (some (.lst es)) => wForO i j body [] es ((sl.set j none).set i none) P
  | _ => False
section
variable {X : Cx} {W : WX} {pn : List Nat} {pos p1 p2 : PySem.Pos} {x y : Str} {i j : Nat} {body : List Stmt} {b : WS}
theorem s_forO (hp : PassesOwn (model X.prog X.w) X.A X.env X.xe) (hc : X.calm = true) (hy : PV X (.Name y p2) (eVar i)) (hij : i ≠ j) (hj : j ∉ pn) (hN : X.N.Nodup) (hx : X.N[j]? = some x) (lx : Loc X.env.scope x)
    (hf : X.fn x = true ∨ X.env.scope.names.lookup x = some .local) (hb : PVSs X W (j :: i :: pn) body b)
    (hs : ∀ x, foldedSetIterable (.Name y p2) X.env x = pure x := by intro _; rfl) : PVS X W pn (.For (.Name x p1) (.Name y p2) body [] pos) (sForO i j b) :=
  PS.imp (ps_for hp hc (pi_seq hy) (pg_name (i := j) hN hx lx hf) hb hs) fun D σ H ⟨U, G0, G, T, sl, P, hpn, c, h, k⟩ => by
    obtain ⟨jl, h⟩ := h
    split at h
    case h_2 => exact h.elim
    rename_i es hi
    obtain ⟨vi, hvi⟩ := c.wf.val i _ hi
    have hil : i < sl.length := (List.getElem?_eq_some_iff.mp hi).1
    obtain ⟨o0, pins0⟩ := G0
    refine ⟨U, ⟨o0, pins0⟩, G, T, sl, fun r s => r = .al i ∧ s = sl, c, by
      unfold eVar
      rw [hi]
      exact ⟨rfl, rfl⟩, fun r s1 ⟨hr, hs1⟩ G1 v H1 e1 c1 => ?_⟩
    rw [hr, hs1] at c1
    obtain ⟨c1, hv⟩ := c1
    have o1 := c1.out hi hv
    obtain ⟨p, vs, rfl, hl, hH, c2⟩ := Core.split (show Core _ G1 ((v, .lst es) :: (T ++ slotRes σ (sl.set i none))) H1 from o1.core)
    have jne : ∀ q ∈ (i, V.ref p) :: pins0, q.1 ≠ j := fun q hq => by
      rcases List.mem_cons.mp hq with e | hq
      · rw [e]; exact hij
      · exact fun e => hj (by rw [← hpn, ← e]; exact List.mem_map_of_mem hq)
    refine .inl ⟨p, vs, rfl, .inl (Rd.of hH), ?_⟩
    have nl2 := c.wf.len
    let f1 : Fr := ⟨pxOf X, U, ⟨o0, (i, .ref p) :: pins0⟩⟩
    let f2 : V → Fr := fun v => ⟨pxOf X, U, ⟨o0, (j, v) :: (i, .ref p) :: pins0⟩⟩
    let raws : V × Ent := (V.ref p, Ent.lst (vs.map Ent.raw))
    refine for_it (walk_list (K := X.K) (a := p) (xs := vs)) (fun k σ H => ∃ (G2 : Hp) (s : Slots) (done rest : List Ent), Same G1 G2 ∧ done.length = k ∧ (done ++ rest).length = vs.length ∧ j < σ.length ∧ i < s.length ∧ Rel f1 G2 (raws :: (vs.zip (done ++ rest) ++ T)) s σ H ∧ wForO i j b done rest s P)
      ⟨G1, _, [], es, Same.refl _, rfl, hl.symm, by rw [← c1.wf.len]; exact jl, by simpa using hil, ?_, h⟩ ?_ ?_ ?_
    · have c3 : Rel ⟨pxOf X, U, ⟨o0, pins0⟩⟩ G1 (raws :: (vs.zip es ++ T)) (sl.set i none) σ H1 := ⟨by
        have := c2
        rw [← List.append_assoc] at this
        exact this, o1.wf⟩
      have c4 := (c3.setNone j).setNone i
      have e0 : ((sl.set i none).set j none).set i none = (sl.set j none).set i none := by rw [List.set_comm none none hij, List.set_set]
      rw [e0] at c4
      exact Rel.pins c4 fun q hq => by
        rcases List.mem_cons.mp hq with e | hq
        · rw [e]; exact hv
        · exact c1.wf.pin q hq
    · rintro n σ H _ ⟨G2, s, done, rest, e2, hn, hlen, hjl, his, c5, _⟩
      exact .inl (Rd.of (Core.rawAt (vs := vs) c5.core (by simp [raws])))
    · rintro n x0 σ2 H2 H3 hlt ⟨G2, s, done, rest, e2, hn, hlen, hjl, his, c5, hw⟩ ⟨rfl, hvx⟩
      cases rest with
      | nil => simp only [List.append_nil] at hlen; omega
      | cons e rest =>
        have hz : ∀ e : Ent, vs.zip (done ++ e :: rest) = (vs.take n).zip done ++ (x0, e) :: (vs.drop (n + 1)).zip rest := fun e => by
          have h1 : vs = vs.take n ++ x0 :: vs.drop (n + 1) := by
            have h2 : vs[n] = x0 := (List.getElem?_eq_some_iff.mp hvx).2
            rw [← h2, ← List.drop_eq_getElem_cons hlt, List.take_append_drop]
          conv => lhs; rw [h1]
          rw [List.zip_append (by rw [List.length_take]; omega)]
          rfl
        obtain ⟨E, eE⟩ : ∃ E : List (V × Ent), E = raws :: ((vs.take n).zip done ++ (vs.drop (n + 1)).zip rest) := ⟨_, rfl⟩
        have pm : ∀ e : Ent, (raws :: (vs.zip (done ++ e :: rest) ++ T)).Perm ((x0, e) :: (E ++ T)) := fun e => by
          rw [hz, eE]
          refine (List.Perm.cons raws ?_).trans (List.Perm.swap _ _ _)
          simp only [List.cons_append, List.append_assoc, List.append_eq]
          exact List.perm_middle
        have c6 := Rel.store (c5.permT (pm e)) j (fun q hq => jne q hq)
        have c7 : Rel (f2 x0) G2 (E ++ T) (s.set j (some e)) (σ2.set j (some x0)) H3 := Rel.pins c6 fun q hq => by
          rcases List.mem_cons.mp hq with z | hq
          · rw [z]; exact List.getElem?_set_self hjl
          · exact c6.wf.pin q hq
        have back : ∀ (s' : Slots) (x' : Ent) (G5 : Hp) (σ5 : St) (H5 : Hp), s'[j]? = some (some x') → Rel (f2 x0) G5 (E ++ T) s' σ5 H5 → j < σ5.length ∧ i < s'.length ∧ Rel f1 G5 (raws :: (vs.zip (done ++ x' :: rest) ++ T)) ((s'.set j none).set i none) σ5 H5 := fun s' x' G5 σ5 H5 hx' c9 => by
          have pj := c9.wf.pin (j, x0) (by simp [f2])
          have pi := c9.wf.pin (i, V.ref p) (by simp [f2])
          refine ⟨(List.getElem?_eq_some_iff.mp pj).1, by rw [c9.wf.len]; exact (List.getElem?_eq_some_iff.mp pi).1, ?_⟩
          have c10 := ((c9.out hx' pj).permT (pm x').symm).setNone i
          exact Rel.pins c10 fun q hq => c10.wf.pin q (List.mem_cons_of_mem _ hq)
        have kk := k.mono (e1.trans e2)
        have less : ∀ {s' : Slots} {G5 : Hp} {σ5 : St} {H5 : Hp}, Rel (f2 x0) G5 (E ++ T) s' σ5 H5 → Rel ⟨pxOf X, U, ⟨o0, pins0⟩⟩ G5 T s' σ5 H5 := fun c9 => Rel.pins (Rel.less c9) fun q hq => c9.wf.pin q (List.mem_cons_of_mem _ (List.mem_cons_of_mem _ hq))
        refine ⟨U, ⟨o0, (j, x0) :: (i, .ref p) :: pins0⟩, G2, E ++ T, s.set j (some e), _, by simp only [List.map_cons]; rw [show pins0.map (·.1) = pn from hpn], c7, hw, ⟨fun s' h' G5 σ5 H5 e5 c9 => ?_, fun r s' h' G5 σ5 H5 v e5 c9 => ?_, fun s' h' G5 σ5 H5 e5 c9 => ?_, fun s' h' G5 σ5 H5 e5 c9 => ?_, fun cc s' h' G5 σ5 H5 dd e5 c9 => kk.ex cc s' h' G5 σ5 H5 dd e5 (less c9)⟩⟩
        · obtain ⟨x', hx', hw'⟩ := h'
          obtain ⟨b1, b2, b3⟩ := back s' x' G5 σ5 H5 hx' c9
          exact ⟨G5, _, done ++ [x'], rest, e2.trans e5, by simp [hn], by simpa using hlen, b1, by simpa using b2, by simpa using b3, hw'⟩
        · refine kk.rt r s' h' G5 σ5 H5 v e5 ?_
          cases r with
          | e xx =>
            have c9 : Rel (f2 x0) G5 ((v, xx) :: (E ++ T)) s' σ5 H5 := c9
            have c10 := Rel.less (E := E) (c9.permT (T' := E ++ (v, xx) :: T) List.perm_middle.symm)
            exact Rel.pins c10 fun q hq => c10.wf.pin q (List.mem_cons_of_mem _ (List.mem_cons_of_mem _ hq))
          | al ii => exact ⟨less c9.1, c9.2⟩
        · obtain ⟨x', hx', hw'⟩ := h'
          obtain ⟨b1, b2, b3⟩ := back s' x' G5 σ5 H5 hx' c9
          have pi := b3.wf.pin (i, V.ref p) (by simp [f1])
          have c10 : Rel f1 G5 ((.ref p, .lst (done ++ x' :: rest)) :: T) ((s'.set j none).set i none) σ5 H5 := ⟨Core.join (by have := b3.core; simp only [raws, List.cons_append, List.append_assoc] at this; simpa using this) (by simpa using hlen.symm), b3.wf⟩
          have c11 := Rel.put' c10 (by simpa using b2) pi
          exact kk.nx _ hw' G5 σ5 H5 e5 (Rel.pins c11 fun q hq => c11.wf.pin q (List.mem_cons_of_mem _ hq))
        · obtain ⟨x', hx', hw'⟩ := h'
          obtain ⟨b1, b2, b3⟩ := back s' x' G5 σ5 H5 hx' c9
          exact ⟨G5, _, done ++ [x'], rest, e2.trans e5, by simp [hn], by simpa using hlen, b1, by simpa using b2, by simpa using b3, hw'⟩
    · rintro σ2 H2 ⟨G2, s, done, rest, e2, hn, hlen, hjl, his, c5, hw⟩
      have hr : rest = [] := by
        cases rest with
        | nil => rfl
        | cons e rest => simp at hlen; omega
      subst hr
      rw [List.append_nil] at c5 hlen
      have hpi : σ2[i]? = some (some (V.ref p)) := c5.wf.pin (i, V.ref p) (by simp [f1])
      have c6 : Rel f1 G2 ((.ref p, .lst done) :: T) s σ2 H2 := ⟨Core.join (by have := c5.core; simp only [raws, List.cons_append, List.append_assoc] at this; exact this) hlen.symm, c5.wf⟩
      have c7 := (c6.setNone j).setNone i
      have c8 := Rel.put' c7 (by simpa using his) hpi
      refine k.nx _ hw G2 σ2 H2 (e1.trans e2) (Rel.pins c8 fun q hq => c8.wf.pin q (by simp [f1, hq]))
end
end VV

/-! V55: lists of one's own lists: an item taken out, one put behind -/
namespace VV
open PySem PySem.Spec L2
open PyProof.Rows hiding St
theorem zip_at {α β : Type} {n : Nat} {x : α} {y z : β} : ∀ {xs : List α} {ys : List β}, xs[n]? = some x → ys[n]? = some y → ∃ R, (xs.zip ys).Perm ((x, y) :: R) ∧ (xs.zip (ys.set n z)).Perm ((x, z) :: R) := by
  induction n with
  | zero =>
    intro xs ys h1 h2
    cases xs with
    | nil => simp at h1
    | cons a xs =>
      cases ys with
      | nil => simp at h2
      | cons b ys =>
        simp at h1 h2
        subst h1; subst h2
        exact ⟨xs.zip ys, .refl _, .refl _⟩
  | succ n ih =>
    intro xs ys h1 h2
    cases xs with
    | nil => simp at h1
    | cons a xs =>
      cases ys with
      | nil => simp at h2
      | cons b ys =>
        obtain ⟨R, p1, p2⟩ := ih (xs := xs) (ys := ys) (by simpa using h1) (by simpa using h2)
        exact ⟨(a, b) :: R, (p1.cons _).trans (.swap _ _ _), (p2.cons _).trans (.swap _ _ _)⟩
section
variable {f : Fr} {G H : Hp} {L : List (V × Ent)} {p : Addr} {v x : V} {es : List Ent} {e : Ent} {n : Nat}
theorem Core.takeAt (c : Core f G ((x, .lst es) :: L) H) (he : es[n]? = some e) : ∃ p vs v, x = .ref p ∧ H p = some (.lst vs) ∧ vs.length = es.length ∧ vs[n]? = some v ∧ Core f G ((v, e) :: (.ref p, .lst (es.set n (.raw v))) :: L) H := by
  obtain ⟨p, vs, rfl, hl, hH, c2⟩ := c.split
  have hn : n < vs.length := by rw [hl]; exact (List.getElem?_eq_some_iff.mp he).1
  have hv : vs[n]? = some vs[n] := List.getElem?_eq_getElem hn
  obtain ⟨R, p1, p2⟩ := zip_at (z := Ent.raw vs[n]) hv he
  refine ⟨p, vs, vs[n], rfl, hH, hl, hv, ?_⟩
  have c3 : Core f G ((vs[n], e) :: (.ref p, .lst (vs.map .raw)) :: (R ++ L)) H := c2.perm (((p1.append_right L).cons _).trans (.swap _ _ _))
  have c4 : Core f G ((vs[n], .raw vs[n]) :: (vs[n], e) :: (.ref p, .lst (vs.map .raw)) :: (R ++ L)) H := c3.addRaw
  have pm : ((vs[n], Ent.raw vs[n]) :: (vs[n], e) :: (V.ref p, Ent.lst (vs.map .raw)) :: (R ++ L)).Perm ((V.ref p, Ent.lst (vs.map .raw)) :: (vs.zip (es.set n (.raw vs[n])) ++ (vs[n], e) :: L)) := by
    have h1 : ((vs[n], Ent.raw vs[n]) :: (vs[n], e) :: (V.ref p, Ent.lst (vs.map .raw)) :: (R ++ L)).Perm ((V.ref p, Ent.lst (vs.map .raw)) :: (vs[n], Ent.raw vs[n]) :: (vs[n], e) :: (R ++ L)) := ((List.Perm.swap _ _ _).cons _).trans (.swap _ _ _)
    have h2 : ((vs[n], Ent.raw vs[n]) :: (vs[n], e) :: (R ++ L)).Perm (((vs[n], Ent.raw vs[n]) :: R) ++ (vs[n], e) :: L) := (List.perm_middle.symm).cons _
    exact h1.trans ((h2.trans (p2.symm.append_right _)).cons _)
  have c5 := Core.join (c4.perm pm) (by simpa using hl)
  exact c5.perm (.swap _ _ _)
theorem Core.pushLst {y : V} (c : Core f G ((v, .lst es) :: (y, x') :: L) H) : ∃ p vs, v = .ref p ∧ H p = some (.lst vs) ∧ vs.length = es.length ∧ Core f G ((.ref p, .lst (es ++ [x'])) :: L) (upd H p (.lst (vs ++ [y]))) := by
  obtain ⟨p, vs, rfl, hl, hH, c2⟩ := c.split
  refine ⟨p, vs, rfl, hH, hl, ?_⟩
  have c3 := Core.setObj (o := .lst (vs ++ [y])) (e' := .lst ((vs ++ [y]).map .raw)) c2 hH (by trivial) (fun F o => by cases o; simp) (fun _ => by intro z; cases z) (fun _ _ => by intro z; cases z) fun F o => by
    cases o with
    | lst hp r =>
      obtain ⟨_, rfl⟩ := of_raw r
      exact .lst upd_same (owns_raw _)
  refine Core.join (vs := vs ++ [y]) (c3.perm (List.Perm.cons _ ?_)) (by simp [hl])
  rw [List.zip_append (by omega)]
  simp
end
/-- xs[k] of a list of one's own lists: taken out of it -/
def oIxT : OV := fun rx ri sl Q => match rx with
  | .al j => datR sl ri (intD fun i => atS sl j fun x => match x with
    | .lst es => ∃ n e, ixN es.length i = some n ∧ es[n]? = some e ∧ ∀ v, Q (.e e) (sl.set j (some (.lst (es.set n (.raw v)))))
    | _ => False)
  | _ => False
def mAppendE : MV := fun r rs sl Q => match r, rs with
  | .al i, [ra] => mvR sl ra fun x s2 => atS s2 i fun y => match y with
    | .lst es => es.length < sizeLine ∧ Q (.e (.shr .none)) (s2.set i (some (.lst (es ++ [x]))))
    | _ => False
  | .e (.own ds), [ra] => frzR sl ra fun _ s2 => ds.length < sizeLine ∧ Q (.e (.shr .none)) s2
  | _, _ => False
section
variable {X : Cx} {a b : Expr} {wa wb : WE} {pos : PySem.Pos}
theorem v_ixT (ha : PV X a wa) (hb : PV X b wb) (hs : PlainIx b) : PV X (.Subscript a b pos) (eOp oIxT wa wb) :=
  PE.imp (pe_ix ix_seq ha hb hs) (lift2 (fun _ _ _ h => h) (fun _ _ _ h => h) fun x y H Q ⟨U, G0, G, T, sl, σ, rx, ry, Qv, c, w, k⟩ => by
    obtain ⟨⟨T1, c1⟩, T2, c2⟩ := c.both
    cases rx with
    | e _ => exact (show False from w).elim
    | al j =>
      have w : datR sl ry _ := w
      obtain ⟨dy, hy, w⟩ := c2.dat w
      cases dy <;> try exact (show False from w).elim
      rename_i i
      obtain ⟨z, hz, w⟩ := atS_iff w
      cases z <;> try exact (show False from w).elim
      rename_i es
      obtain ⟨n, e, hn, he, w⟩ := w
      have o := c.base.out hz c1.2
      obtain ⟨p, vs, v, rfl, hH, hl, hv, cc⟩ := Core.takeAt (show Core _ G ((x, .lst es) :: (T ++ slotRes σ (sl.set j none))) H from o.core) he
      have c3 : Rel ⟨pxOf X, U, G0⟩ G ((.ref p, .lst (es.set n (.raw v))) :: (v, e) :: T) (sl.set j none) σ H := ⟨cc.perm (.swap _ _ _), o.wf⟩
      have c4 := Rel.put' c3 (Rel.lt hz) c1.2
      refine .inl ⟨p, vs, i, v, rfl, ints_of hy, .inl (Rd.of hH), ?_, k _ _ (w v) _ _ _ (Same.refl _) c4⟩
      unfold L2.atI
      rw [hl, hn]
      exact hv)
theorem m_appendE : MtR X "list.append" (liftM (pxOf X) mAppendE) := MtR.imp mt_append fun x xs H Q ⟨U, G0, G, T, sl, σ, rx, rs, Qv, c, w, k⟩ => by
  cases rx with
  | e z =>
    cases z with
    | own ds =>
      match rs, xs, w, c with
      | [ra], [y], w, c =>
        have cy : RelR ⟨pxOf X, U, G0⟩ G ((x, .own ds) :: T) y ra sl σ H := by cases ra with | e _ => exact c | al _ => exact ⟨c.2, c.1⟩
        have w : frzR sl ra (fun _ s2 => ds.length < sizeLine ∧ Qv (.e (.shr .none)) s2) := w
        obtain ⟨G', d, s2, e1, c1, rd, hz, w⟩ := cy.frz w
        have cc : Core ⟨pxOf X, U, G0⟩ G' ((x, .own ds) :: (T ++ slotRes σ s2)) H := c1.core
        obtain ⟨p, rfl⟩ := cc.ownRef
        obtain ⟨vs, hp, r⟩ := cc.ownAt
        have c2 := (cc.setOwn (r.snoc rd)).drop
        exact ⟨p, vs, y, rfl, rfl, hp, by rw [r.length]; exact hz, k _ _ w _ _ _ e1 ⟨c2.addShr .non, c1.wf⟩⟩
      | [ra], y :: z :: zs, w, c => cases ra with | e _ => exact (show False from c).elim | al _ => exact (show False from c.2).elim
    | _ => exact (show False from w).elim
  | al i =>
    match rs, xs, w, c with
    | [ra], [y], w, c =>
      have cy : RelR ⟨pxOf X, U, G0⟩ G T y ra sl σ H := by cases ra with | e _ => exact c.2 | al _ => exact ⟨c.2.2, c.2.1⟩
      have w : mvR sl ra (fun x s2 => atS s2 i fun y => match y with
        | .lst es => es.length < sizeLine ∧ Qv (.e (.shr .none)) (s2.set i (some (.lst (es ++ [x]))))
        | _ => False) := w
      obtain ⟨x', s2, c1, w⟩ := cy.mv w
      obtain ⟨z, hz, w⟩ := atS_iff w
      cases z <;> try exact (show False from w).elim
      rename_i es
      have o := c1.out hz c.1
      obtain ⟨p, vs, rfl, hH, hl, cc⟩ := Core.pushLst (show Core _ G ((x, .lst es) :: (y, x') :: (T ++ slotRes σ (s2.set i none))) H from o.core)
      have c3 : Rel ⟨pxOf X, U, G0⟩ G ((.ref p, .lst (es ++ [x'])) :: T) (s2.set i none) σ (upd H p (.lst (vs ++ [y]))) := ⟨cc, o.wf⟩
      have c4 := Rel.put' c3 (Rel.lt hz) c.1
      exact ⟨p, vs, y, rfl, rfl, hH, by rw [hl]; exact w.1, k _ _ w.2 _ _ _ (Same.refl _) ⟨c4.core.addShr .non, c4.wf⟩⟩
    | [ra], y :: z :: zs, w, c => cases ra with | e _ => exact (show False from c.2).elim | al _ => exact (show False from c.2.2).elim
end
end VV

/-! V56: a comprehension whose items stay entries -/
namespace VV
open PySem PySem.Spec L2
open PyProof.Rows hiding St
theorem Core.newLst {f : Fr} {G H : Hp} {L : List (V × Ent)} {p : Addr} (c : Core f G L H) (h : H p = none) : Core f G ((.ref p, .lst []) :: L) (upd H p (.lst [])) :=
  c.newObj h (fun _ => by intro z; cases z) (fun _ _ => by intro z; cases z) (.lst upd_same .nil)
theorem lcO_turns {f : Fr} {G1 H1 : Hp} {T : List (V × Ent)} {σ : St} {J : It} {items : List Ent} {vs : List Nat} {g : TGv} {tt : WT} {te : WE} {s1 : Slots} {Qv : R → Slots → Prop} {Q : VK} {D : Addr}
    (src : Src f G1 J items) (c1 : Rel f G1 T (wipeS s1 vs) σ H1) (hq : wLcO g tt te vs items [] (wipeS s1 vs) Qv) (hD : H1 D = none)
    (k : ∀ r s', Qv r s' → ∀ G' v H', Same G1 G' → RelR f G' T v r s' σ H' → Q v H') :
    ∃ W : Nat → Nat → Hp → Prop, (∃ m, W 0 m (upd H1 D (.lst []))) ∧ ∀ i m H, W i m H →
      (J.stop i H ∧ Q (.ref D) H) ∨ (J.go i H ∧ ∃ Nx : Hp → Prop, (∀ H', Nx H' → ∃ m', m' < m ∧ W (i + 1) m' H') ∧ ∀ x H', J.yld i H x H' → liftG f.q [] vs g x (L2.wipe σ vs) H' fun σ2 H2 => L2.wipe σ2 vs = L2.wipe σ vs ∧ liftT f.q tt σ2 H2 fun b H3 =>
        if b = true then liftE f.q te σ2 H3 fun y H4 => ∃ acc, H4 D = some (.lst acc) ∧ acc.length < sizeLine ∧ Nx (upd H4 D (.lst (acc ++ [y]))) else Nx H3) := by
  obtain ⟨Gw, Y, hw, hgw, hy⟩ := src
  have cD : Rel f G1 ((.ref D, .lst []) :: T) (wipeS s1 vs) σ (upd H1 D (.lst [])) := ⟨c1.core.newLst hD, c1.wf⟩
  have pin := c1.wf.pin
  refine lc_it hw (fun i H => ∃ G2 s2 acc, Same G1 G2 ∧ Rel f G2 ((.ref D, .lst acc) :: T) (wipeS s2 vs) σ H ∧ wLcO g tt te vs (items.drop i) acc (wipeS s2 vs) Qv) ⟨G1, s1, [], Same.refl _, cD, hq⟩ (fun i H _ ⟨G2, s2, acc, e2, c2, _⟩ => hgw _ _ _ _ _ e2 c2) ?_ ?_
  · rintro i x H2 H3 hi ⟨G2, s2, acc, e2, c2, hw2⟩ hyy
    obtain ⟨G3, e3, c3⟩ := hy i items[i] x H2 H3 G2 _ _ σ (by simp [hi]) e2 c2 hyy
    rw [List.drop_eq_getElem_cons hi] at hw2
    have c4 : Rel f.unpin G3 ((x, items[i]) :: (.ref D, .lst acc) :: T) (wipeS s2 vs) (L2.wipe σ vs) H3 := c3.unpin.slots (by rw [wipe_len]) (fun j e h => wipe_out σ vs j fun m => wipeS_at s2 vs j m e h) fun p hp => by simp at hp
    refine ⟨f.U, f.unpin.G0, G3, (.ref D, .lst acc) :: T, items[i], _, _, rfl, c4, hw2, fun s3 hq3 G4 σ4 H4 e4 l4 a4 c5 => ⟨wipe_same (by rw [l4, wipe_len]) (fun j hj => a4 j hj), ?_⟩⟩
    have agree : ∀ j, j ∉ vs → σ[j]? = σ4[j]? := fun j hj => by rw [a4 j hj, wipe_out σ vs j hj]
    have back : ∀ {G5 H5 T' s5}, Rel f.unpin G5 T' s5 σ4 H5 → Rel f G5 T' (wipeS s5 vs) σ H5 := fun {G5 H5 T' s5} c => ((Rel.wipe c vs).slots (by rw [l4, wipe_len]) (fun j e h => agree j fun m => wipeS_at s5 vs j m e h) fun p hp => by simp at hp).repin pin
    refine ⟨f.U, f.unpin.G0, G4, (.ref D, .lst acc) :: T, s3, _, c5, hq3, fun b s4 hq4 G5 H5 e5 c6 => ?_⟩
    have ee := (e2.trans e3).trans (e4.trans e5)
    cases b with
    | false => exact ⟨G5, s4, acc, ee, back c6, hq4⟩
    | true =>
      refine ⟨f.U, f.unpin.G0, G5, (.ref D, .lst acc) :: T, s4, _, c6, hq4, fun r s5 hq5 G6 y H6 e6 c7 => ?_⟩
      obtain ⟨x', s6, c8, hz, hq7⟩ := c7.mv hq5
      obtain ⟨p, vs', ep, hp, hl, cc⟩ := Core.pushLst (Core.perm (show Core f.unpin G6 ((y, x') :: (.ref D, .lst acc) :: (T ++ _)) H6 from c8.core) (.swap _ _ _))
      cases ep
      exact ⟨vs', hp, by rw [hl]; exact hz, G6, s6, acc ++ [x'], ee.trans e6, back ⟨cc, c8.wf⟩, hq7⟩
  · rintro H2 ⟨G2, s2, acc, e2, c2, hw2⟩
    rw [List.drop_length] at hw2
    exact k _ _ hw2 _ _ _ e2 c2
section
variable {X : Cx} {elt tg iter : Expr} {ifs : List Expr} {scope : Scope} {own : List (Str × Nat)} {pos : PySem.Pos} {w : WI} {g : TGv} {tt : WT} {te : WE}
theorem lcO_lift : ∀ σ H Q, liftE (pxOf X) (eLcO w g tt te (own.map (·.2))) σ H Q → tLc (liftI (pxOf X) w) (liftG (pxOf X) [] (own.map (·.2)) g) (liftT (pxOf X) tt) (liftE (pxOf X) te) (own.map (·.2)) σ H Q :=
  fun σ H Q ⟨U, G0, G, T, sl, Qv, c, h, k⟩ => ⟨U, G0, G, T, sl, _, c, h, fun items s1 hq G1 J H1 e1 c1 src => fun D hD =>
    lcO_turns (f := ⟨pxOf X, U, G0⟩) src (Rel.wipe c1 _) hq hD fun r s' hr G' v H' e' c' => k _ _ hr _ _ _ (e1.trans e') c'⟩
theorem v_lcO (hc : X.calm = true) (hN : X.N.Nodup) (hi : PVI X tg iter w) (ok : BlkOk X.N X.env.scope scope own)
    (hg : ∀ (s : Shared) (H : Hp) (C : Addr) (cl : List (Str × Addr)) (fp : List Addr), PVG (X.blk s H scope (compEnvC scope cl C X.env) fp) [] (own.map (·.2)) tg g)
    (ht : ∀ (s : Shared) (H : Hp) (C : Addr) (cl : List (Str × Addr)) (fp : List Addr), PVTs (X.blk s H scope (compEnvC scope cl C X.env) fp) ifs tt)
    (he : ∀ (s : Shared) (H : Hp) (C : Addr) (cl : List (Str × Addr)) (fp : List Addr), PV (X.blk s H scope (compEnvC scope cl C X.env) fp) elt te) (hs : ∀ x, foldedSetIterable iter X.env x = pure x := by intro _; rfl) :
    PV X (.ListComp elt [⟨tg, iter, ifs, 0⟩] scope pos) (eLcO w g tt te (own.map (·.2))) :=
  PE.imp (pe_lc hc hN hi ok hg ht he hs) lcO_lift
end
/-- over known items, those kept for which F is true -/
theorem wLcO_keep {α : Type} {g : TGv} {tt : WT} {te : WE} {vs : List Nat} {ι : α → Ent} (F : α → Bool) (Inv : Slots → Prop) {Q : R → Slots → Prop} : ∀ (xs : List α) (acc : List Ent) (sl : Slots),
    (∀ x ∈ xs, ∀ sl acc (K : List Ent → Slots → Prop), acc.length < sizeLine → Inv sl → (∀ s, Inv s → K (if F x = true then acc ++ [ι x] else acc) s) →
      g (ι x) sl fun s1 => tt s1 fun b s2 => if b = true then te s2 fun r s3 => mvR s3 r fun x s4 => acc.length < sizeLine ∧ K (acc ++ [x]) (wipeS s4 vs) else K acc (wipeS s2 vs)) →
    acc.length + xs.length ≤ sizeLine → Inv sl → (∀ s, Inv s → Q (.e (.lst (acc ++ (xs.filter F).map ι))) s) → wLcO g tt te vs (xs.map ι) acc sl Q
  | [], acc, sl, hs, hl, hi, hq => by simpa [wLcO] using hq sl hi
  | x :: xs, acc, sl, hs, hl, hi, hq => by
    simp only [List.length_cons] at hl
    refine hs x (by simp) sl acc (fun acc s => wLcO g tt te vs (xs.map ι) acc s Q) (by omega) hi fun s h2 => ?_
    refine wLcO_keep F Inv xs _ s (fun y hy => hs y (by simp [hy])) ?_ h2 fun s h3 => ?_
    · cases F x <;> simp <;> omega
    · have := hq s h3
      rw [List.filter_cons] at this
      cases e : F x with
      | true => rw [e] at this; simpa using this
      | false => rw [e] at this; simpa using this
theorem wLcO_keepE {α : Type} {g : TGv} {tt : WT} {te : WE} {vs : List Nat} {ι : α → Ent} (F : α → Bool) (Inv : Slots → Prop) {Q : R → Slots → Prop} {xs : List α} {items : List Ent} (he : items = xs.map ι) {sl : Slots}
    (hs : ∀ x ∈ xs, ∀ sl acc (K : List Ent → Slots → Prop), acc.length < sizeLine → Inv sl → (∀ s, Inv s → K (if F x = true then acc ++ [ι x] else acc) s) →
      g (ι x) sl fun s1 => tt s1 fun b s2 => if b = true then te s2 fun r s3 => mvR s3 r fun x s4 => acc.length < sizeLine ∧ K (acc ++ [x]) (wipeS s4 vs) else K acc (wipeS s2 vs))
    (hl : xs.length ≤ sizeLine) (hi : Inv sl) (hq : ∀ s, Inv s → Q (.e (.lst ((xs.filter F).map ι))) s) : wLcO g tt te vs items [] sl Q := by
  subst he
  exact wLcO_keep F Inv xs [] sl hs (by simpa using hl) hi (by simpa using hq)
end VV

/-! V57: a set of many tuples, few of them unlike -/
namespace VV
open PySem PySem.Spec L2
open PyProof.Rows hiding St
/-- fewer than 63 unlike ones -/
def FewKinds (ks : List (Addr × List Int)) : Prop := ∀ L : List (List Int), L.Nodup → (∀ x ∈ L, x ∈ ks.map (·.2)) → L.length < 63
section
variable {P : Program} {w : World} {A : Around} {E : Value → Shared → Prop} {s : Shared}
/-- what holds between two turns: the set has what came so far, the old heap is kept -/
structure MidS (P : Program) (w : World) (S : Addr) (ks : List (Addr × List Int)) (h0 : Heap) (i : Nat) (h : Heap) : Prop where
  set : ∃ L es ep t, L2.SetTR P w h S L es ep t ∧ L2.Got ks i L
  old : ∀ b o, h0.get? b = some o → h.get? b = some o
theorem tups_loop {I : Addr} {fp wr : List Addr} {G : Array GenState → Array GenState → Prop} {n : Nat} {Pv : Nat → Value → Prop} {Sv : Nat → Shared → Prop} {R : Result → Shared → Prop}
    (wk : WalksS P w A.in1 I fp wr G n Pv Sv) {S : Addr} (off : S ∉ fp) {ks : List (Addr × List Int)} (len : n = ks.length) (few : FewKinds ks) (each : ∀ i v, Pv i v → ∃ p, ks[i]? = some p ∧ v = .ref p.1)
    {h0 : Heap} (tups : ∀ p ∈ ks, L2.IsT P w h0 p.2 p.1) (freshS : h0.get? S = none) (freshW : ∀ b ∈ wr, h0.get? b = none) (room : A.in1.units < cLine) :
    ∀ (left i : Nat) (s : Shared), n = i + left → Sv i s → MidS P w S ks h0 i s.heap → (∀ s', Moved (S :: wr) G s s' → MidS P w S ks h0 n s'.heap → R (.ok (.ret .none)) s') →
      codeAny (model P w) A (.builtin "set.update.loop" ⟨[.ref S, .ref I], []⟩) R s := by
  have offW : S ∉ wr := fun z => off (wk.sub _ z)
  have up : ∀ b ∈ wr, b ∈ S :: wr := fun b => List.mem_cons_of_mem _
  -- the walk itself changes neither the set nor the tuples
  have glide : ∀ {i : Nat} {s s' : Shared}, Moved wr G s s' → MidS P w S ks h0 i s.heap → MidS P w S ks h0 i s'.heap := fun {i s s'} mv m => by
    have old' : ∀ b o, h0.get? b = some o → s'.heap.get? b = some o := fun b o e => mv.heap b o (fun z => by rw [freshW b z] at e; cases e) (m.old b o e)
    obtain ⟨L, es, ep, t, tr, got⟩ := m.set
    exact ⟨⟨L, es, ep, t, L2.SetTR.keep tr (fun o e => mv.heap S o offW e) fun p hp => L2.isT_keep (tups p (List.mem_of_mem_take (got.sub p hp))) old', got⟩, old'⟩
  intro left
  induction left with
  | zero =>
    intro i s e st m k
    obtain rfl : n = i := e
    refine codeAny_builtin PyProof.Rows.F.entry_set_update_loop ?_
    rw [Around.under_plainId PyProof.Rows.F.plain_set_update_loop _]
    refine wpAny_bind (wk.done s _ _ st fun s' mv => ?_)
    exact wpAny_pure (k s' (mv.mono up) (glide mv m))
  | succ left ih =>
    intro i s e st m k
    refine codeAny_builtin PyProof.Rows.F.entry_set_update_loop ?_
    rw [Around.under_plainId PyProof.Rows.F.plain_set_update_loop _]
    refine wpAny_bind (wk.item i s _ _ (by omega) st fun v s1 hv st1 mv => ?_)
    obtain ⟨p, hp, rfl⟩ := each i v hv
    have m1 := glide mv m
    obtain ⟨L, es, ep, t, tr, got⟩ := m1.set
    have inks : p ∈ ks := List.mem_of_getElem? hp
    have tp := L2.isT_keep (tups p inks) m1.old
    have cnt : L.length + 1 < 64 := by
      have := few (L.map (·.2)) tr.nd fun x hx => by
        obtain ⟨q, hq, rfl⟩ := List.mem_map.mp hx
        exact List.mem_map_of_mem (List.mem_of_mem_take (got.sub q hq))
      rw [List.length_map] at this
      omega
    refine wpAny_bind (wpAny_holding ?_)
    unfold setAdd
    refine wpAny_holding (wpAny_bind (PySem.wpAny_pyHash_tuple room tp ?_))
    refine L2.add_at (s := { s1 with toks := s1.toks + (p.2.length + 1) }) tr tp room cnt fun bb h2 M2 es2 ep2 t2 but tr2 c1 c2 => ?_
    have got2 : L2.Got ks (i + 1) M2 := by
      by_cases z : p.2 ∈ L.map (·.2)
      · rw [c1 z]; exact got.same hp z
      · exact got.more hp (c2 z)
    have old2 : ∀ b o, h0.get? b = some o → h2.get? b = some o := fun b o e => by
      rw [but.2 b fun z => by rw [z, freshS] at e; cases e]
      exact m1.old b o e
    have st2 := wk.frame (i + 1) s1 h2 (s1.toks + (p.2.length + 1)) st1 (Nat.le_add_right _ _) fun b hb o e => by
      rw [but.2 b fun z => off (z ▸ hb)]; exact e
    refine wpAny_pure ⟨plainId_quiet PyProof.Rows.F.plain_set_update_loop _, ih (i + 1) _ (by omega) st2 ⟨⟨M2, es2, ep2, t2, tr2, got2⟩, old2⟩ fun s' mv2 m2 => k s' (Moved.trans wk.gtrans ((mv.mono up).then_heap (Nat.le_add_right _ _) fun b o hb e => ?_) mv2) m2⟩
    rw [but.2 b fun z => hb (z ▸ List.mem_cons_self)]; exact e
set_option maxHeartbeats 3200000 in
theorem set_tups {l : Addr} {items : Array Value} (ks : List (Addr × List Int)) {Q : Value → Shared → Prop} (hh : A.handled = none) (hl : s.heap.IsList l items) (hi : items.toList = ks.map fun p => Value.ref p.1)
    (tups : ∀ p ∈ ks, L2.IsT P w s.heap p.2 p.1) (few : FewKinds ks) (room : A.units + 3 < cLine)
    (h : ∀ (h' : Heap) (tk : Nat) L es ep t, L2.SetTR P w h' s.heap.objs.size L es ep t → L2.Got ks ks.length L → (∀ b o, s.heap.get? b = some o → h'.get? b = some o) → Q (.ref s.heap.objs.size) { s with heap := h', toks := tk }) :
    wpAny (model P w) A (call (.type "set") [.ref l]) Q E s := by
  refine set_make fun R hR => ?_
  obtain ⟨⟨oc, od, oda, osl⟩, lo, lc, ln, ld⟩ := hl
  obtain rfl : oc = .type "list" := lc
  obtain rfl : oda = .seq items ln := ld
  have at2 : (s.heap.push (newS w)).get? l = some { cls := .type "list", dict := od, data := .seq items ln, slots := osl } := Heap.get?_push_of_some _ lo
  have il : (s.heap.push (newS w)).IsList l items := ⟨_, at2, rfl, ln, rfl⟩
  have n1 := PySem.F.sub_list_set; have n2 := PySem.F.sub_list_frozenset
  have n3 : (Value.type "list" == Value.type "dict") = false := by decide
  have hz : items.size = ks.length := by
    have q := congrArg List.length hi
    rw [Array.length_toList, List.length_map] at q
    exact q
  have lt : l < s.heap.objs.size := Heap.lt_size lo
  have sz : (s.heap.push (newS w)).objs.size = s.heap.objs.size + 1 := Heap.size_push ..
  unfold Builtin.«set.__init__» noKeywords Builtin.Frozenset.updateFrom
  generalize ePI : pyIter = PI
  wp_walk
  subst ePI
  refine wpAny_pyIter_list il (wpAny_bind (wpAny_runValue ?_))
  have ha : A.in1.in1.in1.handled = none := by simp [hh]
  have ne1 : s.heap.objs.size ∉ [(s.heap.push (newS w)).objs.size, l] := by
    rw [sz]
    simp only [List.mem_cons, List.not_mem_nil, or_false, not_or]
    exact ⟨Nat.ne_of_lt (Nat.lt_succ_self _), Nat.ne_of_gt lt⟩
  have each : ∀ (i : Nat) (v : Value), items[i]? = some v → ∃ p, ks[i]? = some p ∧ v = .ref p.1 := fun i v e => by
    rw [← Array.getElem?_toList, hi, List.getElem?_map] at e
    obtain ⟨p, hp, e⟩ := Option.map_eq_some_iff.mp e
    exact ⟨p, hp, e.symm⟩
  have gone : ∀ b, s.heap.objs.size ≤ b → s.heap.get? b = none := fun b hb => by
    cases q : s.heap.get? b with
    | none => rfl
    | some o => exact absurd (Nat.lt_of_lt_of_le (Heap.lt_size q) hb) (Nat.lt_irrefl _)
  have keep : ∀ b ob, s.heap.get? b = some ob → ((s.heap.push (newS w)).push { cls := .type "list_iterator", data := .fields #[.ref l, .int 0 0] }).get? b = some ob := fun b ob e => Heap.get?_push_of_some _ (Heap.get?_push_of_some _ e)
  have start : MidS P w s.heap.objs.size ks s.heap 0 ((s.heap.push (newS w)).push { cls := .type "list_iterator", data := .fields #[.ref l, .int 0 0] }) :=
    ⟨⟨[], #[], 0, _, L2.setTR_fresh (Heap.get?_push_of_some _ (Heap.get?_push_size s.heap (o := newS w) rfl)), L2.Got.zero ks⟩, keep⟩
  refine tups_loop ((Walks.list ha _ l (by rw [sz]; exact Nat.ne_of_lt (Nat.lt_succ_of_lt lt)) items).toS) ne1 hz few each tups (gone _ (Nat.le_refl _)) (fun b hb => gone b (by
    rw [List.mem_singleton.mp hb, sz]
    exact Nat.le_succ _)) room items.size 0 _ (by omega) ⟨⟨_, Heap.get?_push_size _ rfl, rfl, rfl⟩, il.push _⟩ start ?_
  rintro ⟨h', g', d', tk', os'⟩ hm m
  obtain rfl : g' = s.gens := hm.gens
  obtain rfl : d' = s.drawn := hm.drawn
  obtain rfl : os' = s.os := hm.os
  refine wpAny_pure (wpAny_pure ?_)
  subst hR
  obtain ⟨⟨L, es, ep, t, tr, got⟩, old⟩ := m
  exact ⟨rfl, h h' tk' L es ep t tr (hz ▸ got) old⟩
end
section
variable {X : Cx}
/-- set(xs), xs a list of tuples of ints, few of them unlike -/
def rSetF (K : PySem.W.Frag) (P : Program) (w : World) : List V → Hp → VK → Prop := fun xs H Q => ∃ (l : Addr) (ks : List (Addr × List Int)), xs = [V.ref l] ∧ SqL K H l (ks.map fun p => V.ref p.1) ∧ (∀ p ∈ ks, SqT K H p.1 (p.2.map V.int)) ∧ FewKinds ks ∧
  ∀ a L, H a = none → (∀ p ∈ L, p ∈ ks) → (∀ p ∈ ks, p.2 ∈ L.map (·.2)) → Q (.ref a) (upd H a (SetTO P w a L))
theorem cr_setF (hc : X.calm = true) (hu : X.A.units + 64 < cLine) : CallR X (.type "set") (rSetF X.K X.prog X.w) := by
  intro pins s σ H xs us Q I r ⟨l, ks, ex, hl, hk, few, q⟩
  subst ex
  rw [Vals.ref1 r]
  obtain ⟨its, rv, pl, _⟩ := I.list hl
  refine set_tups ks (I.ok.hd hc) pl.isList (by simpa using refs_of_vals rv) (fun p hp => I.isT (hk p hp)) few (by omega) fun h' tk L es ep t tr got old => ?_
  exact ⟨.ref _, _, I.laid (t' := tk) old (Nat.le_refl _) (setTO_new tr.t0), rfl, q _ L (I.hok.fresh (Nat.le_refl _)) (fun p hp => List.mem_of_mem_take (got.sub p hp)) fun p hp => got.all p (by rw [List.take_length]; exact hp)⟩
/-- sorted(set(xs)), fewer than 63 unlike ones -/
def eSortSetF (w : WE) : WE := fun sl Q => w sl fun r s1 => ltR s1 r fun b ds => b = false ∧ ∃ (kk : List (List Int)) (d : Nat) (B : Int), ds = kk.map tupI ∧ (∀ L : List (List Int), L.Nodup → (∀ x ∈ L, x ∈ kk) → L.length < 63) ∧ 1 ≤ d ∧ (∀ k ∈ kk, k.length = d ∧ TS.Bd B k) ∧
  ∀ L : List (List Int), L.Nodup → (∀ x, x ∈ L ↔ x ∈ kk) → L.Pairwise (fun q r => TS.code B q ≤ TS.code B r) → Q (.e (.own (L.map tupI))) s1
theorem v_sortSetF {a : Expr} {w : WE} {p p2 q pos : PySem.Pos} (hc : X.calm = true) (hu : X.A.units + 64 < cLine) (hg : Gl X "sorted") (hm : X.mg "sorted" = none) (hg2 : Gl X "set") (hm2 : X.mg "set" = none) (ha : PV X a w)
    (na : starEach [a] X.env = (false, eval a X.env) :: starEach [] X.env := by rfl) : PV X (.Call (.Name "sorted" p) [.Call (.Name "set" p2) [a] [] q] [] pos) (eSortSetF w) :=
  PE.imp (pe_callB (cr_sortedT hc) hg hm PyProof.Rows.boot_sorted (pa_cons (pe_callTy (cr_setF hc hu) hg2 hm2 PyProof.Rows.boot_set (pa_cons ha pa_nil na) (by decide) (by decide) na rfl) pa_nil rfl) (by decide) (by decide) rfl rfl) fun σ H Q ⟨U, G0, G, T, sl, Qv, c, h, k⟩ => by
    refine ⟨U, G0, G, T, sl, _, c, h, fun r s1 hq G1 v H1 e1 c1 => ?_⟩
    obtain ⟨l, vs, b, ds, rfl, hs, hr, _, rfl, kk, d, B, rfl, hl, hd, hB, hq⟩ := c1.lt hq
    have cb := c1.base
    obtain ⟨ks, rfl, rfl, hk, hk2⟩ := reps_tups2 (H := H1) (fun a xs h => Same.seqT cb.core.sG h) hr
    refine ⟨l, ks, rfl, hs, hk, hl, fun a L hn hL hA => ?_⟩
    refine ⟨a, L, d, B, rfl, upd_same, fun p hp => ?_, hd, fun p hp => hB _ (List.mem_map.mpr ⟨p, hL p hp, rfl⟩), fun L' p' hpm hnd hlt hpw hn' => ?_⟩
    · have s : Same H1 (upd H1 a (SetTO X.prog X.w a L)) := same_upd hn
      exact Same.seqT s (hk p (hL p hp))
    · have c2 : Rel ⟨pxOf X, U, G0⟩ G1 T s1 σ (upd H1 a (SetTO X.prog X.w a L)) := cb.junk hn (fun xs e => by cases e) (fun u xs e => by cases e)
      have r' : Reps (pxOf X) G1 (L'.map fun q => V.ref q.1) ((L'.map (·.2)).map tupI) := by
        have : ∀ l : List (Addr × List Int), (∀ p ∈ l, p ∈ ks) → Reps (pxOf X) G1 (l.map fun q => V.ref q.1) ((l.map (·.2)).map tupI) := fun l => by
          induction l with
          | nil => intro _; exact .nil
          | cons p l ih => intro h; exact .cons (hk2 p (h p (by simp))) (ih fun x hx => h x (by simp [hx]))
        exact this L' fun p hp => hL p (hpm.mem_iff.mp hp)
      refine k _ _ (hq (L'.map (·.2)) hnd (fun x => ?_) ?_) G1 _ _ e1 ⟨c2.core.newOwn hn' r', c2.wf⟩
      · constructor
        · intro hx
          obtain ⟨p, hp, rfl⟩ := List.mem_map.mp hx
          exact List.mem_map.mpr ⟨p, hL p (hpm.mem_iff.mp hp), rfl⟩
        · intro hx
          obtain ⟨p, hp, rfl⟩ := List.mem_map.mp hx
          obtain ⟨p', hp', e⟩ := List.mem_map.mp (hA p hp)
          exact List.mem_map.mpr ⟨p', hpm.mem_iff.mpr hp', e⟩
      · exact List.pairwise_map.mpr hpw
end
end VV

/-! V58: sets of marks, sorted: their size, and the order of tuples by their code -/
namespace VV
open PySem PySem.Spec L2
open PyProof.Rows hiding St
theorem code_of_lt {B : Int} : ∀ {a b : List Int}, a.length = b.length → TS.Bd B a → TS.Bd B b → a < b → TS.code B a < TS.code B b
  | [], [], _, _, _, h => absurd h (List.lt_irrefl _)
  | [], y :: b, e, _, _, _ => by cases e
  | x :: a, [], e, _, _, _ => by cases e
  | x :: a, y :: b, e, ha, hb, h => by
    have e2 : a.length = b.length := by simpa using e
    rcases List.cons_lt_cons_iff.mp h with h3 | ⟨rfl, h3⟩
    · exact TS.code_lt e2 ha.tail hb.tail h3
    · have z : TS.code B a < TS.code B b := code_of_lt (a := a) (b := b) e2 ha.tail hb.tail h3
      exact (TS.code_same e2).mpr z
theorem le_of_code {B : Int} {a b : List Int} (e : a.length = b.length) (ha : TS.Bd B a) (hb : TS.Bd B b) (h : TS.code B a ≤ TS.code B b) : a ≤ b := by
  rcases List.le_total a b with z | z
  · exact z
  · by_cases q : a ≤ b
    · exact q
    · exact absurd (code_of_lt e.symm hb ha (List.not_le.mp q)) (by omega)
variable {d : DialT}
theorem mk_bd (m : Mk d) : TS.Bd 64 m.1 := by
  have h : ∀ {ss ps : List Int}, MarkOf ss ps → (∀ s ∈ ss, s ≤ 40) → TS.Bd 64 ps := by
    intro ss ps h
    induction h with
    | nil => intro _ x hx; cases hx
    | cons h0 h1 _ ih =>
      intro hs x hx
      have hs1 := hs _ List.mem_cons_self
      rcases List.mem_cons.mp hx with rfl | hx
      · omega
      · exact ih (fun s h => hs s (List.mem_cons_of_mem _ h)) x hx
  exact h m.2 fun s hs => (d.2.good.2.2 s hs).2
theorem foldF_prod : ∀ (ds : List Int) (f : List (List Int)), (∀ s ∈ ds, 0 ≤ s) → (((ds.foldl allF f).length : Nat) : Int) = f.length * prodM ds
  | [], f, _ => by simp [prodM]
  | s :: ds, f, h => by
    have hs := h s (by simp)
    rw [List.foldl_cons, foldF_prod ds (allF f s) fun x hx => h x (by simp [hx])]
    have e : (((allF f s).length : Nat) : Int) = f.length * s := by
      unfold allF
      rw [flat_len, Int.natCast_mul, Int.toNat_of_nonneg hs]
    rw [e, Int.mul_assoc]
    rfl
theorem allK_small (d : DialT) : (allK d).length ≤ 40 := by
  have h := foldF_prod d.1 [[]] fun s hs => by have := d.2.good.2.2 s hs; omega
  have e : (allM d.1).length = (allK d).length := by rw [← allK_val, List.length_map]
  have p := d.2.small
  unfold allM at e
  simp only [List.length_cons, List.length_nil] at h
  omega
theorem setL_small (S : Mk d → Bool) : (setL S).length ≤ 40 := Nat.le_trans (List.length_filter_le _ _) (allK_small d)
theorem nd_small {l : List (Mk d)} (h : l.Nodup) : l.length ≤ 40 := by
  have p : l.Perm (setL fun m => decide (m ∈ l)) := perm_of_nodup h (setL_nodup _) fun m => by rw [mem_setL]; simp
  rw [p.length_eq]
  exact setL_small _
/-- sorted(set(..)) of marks -/
theorem sorted_marks {A : List (Mk d)} {L : List (List Int)} (nd : L.Nodup) (mem : ∀ x, x ∈ L ↔ x ∈ A.map (·.1)) (pw : L.Pairwise fun q r => TS.code 64 q ≤ TS.code 64 r) : L = (setL fun m => decide (m ∈ A)).map (·.1) := by
  have nd2 : ((setL fun m => decide (m ∈ A)).map (·.1)).Nodup := nd_map_on (setL_nodup _) fun a _ b _ e => Subtype.ext e
  refine perm_sorted (R := fun a b : List Int => a ≤ b) (fun a b h1 h2 => List.le_antisymm h1 h2) (perm_of_nodup nd nd2 fun x => ?_) ?_ (List.pairwise_map.mpr ((setL_rise _).imp fun h => List.le_of_lt h))
  · rw [mem, List.mem_map, List.mem_map]
    constructor
    · rintro ⟨m, hm, rfl⟩
      exact ⟨m, mem_setL.mpr (by simpa using hm), rfl⟩
    · rintro ⟨m, hm, rfl⟩
      exact ⟨m, by simpa [mem_setL] using hm, rfl⟩
  · refine List.Pairwise.imp_of_mem (fun {a b} ha hb h => ?_) pw
    obtain ⟨m, _, rfl⟩ := List.mem_map.mp ((mem a).mp ha)
    obtain ⟨k, _, rfl⟩ := List.mem_map.mp ((mem b).mp hb)
    exact le_of_code (by rw [mk_len, mk_len]) (mk_bd m) (mk_bd k) h
theorem few_marks {A : List (Mk d)} {L : List (List Int)} (nd : L.Nodup) (h : ∀ x ∈ L, x ∈ A.map (·.1)) : L.length ≤ 40 := by
  obtain ⟨l, e⟩ : ∃ l : List (Mk d), L = l.map (·.1) := by
    clear nd
    induction L with
    | nil => exact ⟨[], rfl⟩
    | cons x L ih =>
      obtain ⟨m, _, e⟩ := List.mem_map.mp (h x (by simp))
      obtain ⟨l, rfl⟩ := ih fun y hy => h y (by simp [hy])
      exact ⟨m :: l, by rw [List.map_cons, e]⟩
  rw [e, List.length_map]
  rw [e] at nd
  exact nd_small (List.Pairwise.of_map _ (fun a b hne e => hne (by rw [e])) nd)
end VV

/-! V59: a method of a list of one's own things, some taken out; a for over one's own lists, by what holds between two turns -/
namespace VV
open PySem PySem.Spec L2
open PyProof.Rows hiding St
def lsR (sl : Slots) (r : R) : Prop := match r with
  | .al i => atS sl i fun x => match x with
    | .lst _ => True
    | _ => False
  | _ => False
def eMtL (o : MV) (w : WE) (wa : WA) : WE := fun sl Q => w sl fun r s1 => lsR s1 r ∧ wa s1 fun rs s2 => o r rs s2 Q
section
variable {X : Cx} {o e : Expr} {es : List Expr} {w : WE} {wa : WA} {name : Str} {apos cpos : PySem.Pos} {id : String} {m : MV}
theorem v_mtL (pa : PlainAttrs "list") (slot : Slot "list" name id) (hty : typeOf (.builtin id) = pure (.type "method_descriptor")) (hm : MtR X id (liftM (pxOf X) m)) (ho : PV X o w) (ha : PVA X (e :: es) wa)
    (hbase : attributeBase o name X.env (eval o X.env) = eval o X.env := by rfl)
    (hfew : ((backTo cpos (starEach (e :: es) X.env)).all (fun x => !x.1) && (backToKw cpos (keywordEach [] X.env)).all (fun x => x.1.isSome)
      && decide ((e :: es).length + ([] : List Keyword).length + (if ([] : List Keyword).isEmpty then 0 else 1) < 30)) = true := by rfl)
    (hline : (apos.endLine == cpos.line) = true := by rfl) (hs : starEach (e :: es) X.env = (false, eval e X.env) :: starEach es X.env := by rfl) (hplain : (backTo cpos (starEach es X.env)).any (·.1) = false := by rfl) :
    PV X (.Call (.Attribute o name apos) (e :: es) [] cpos) (eMtL m w wa) :=
  PE.imp (pe_bm pa slot hty hm ho ha hbase hfew hline hs hplain) fun σ H Q ⟨U, G0, G, T', sl, Qv, c, h, k⟩ => ⟨U, G0, G, T', sl, _, c, h, fun r s1 hq G' x H' e' c' => by
    obtain ⟨hl, hq⟩ := hq
    cases r with
    | e y => exact hl.elim
    | al i =>
      obtain ⟨z, hz, hl⟩ := atS_iff hl
      cases z <;> try exact hl.elim
      have o := c'.base.out hz c'.2
      obtain ⟨p, vs, rfl, _, hH, _⟩ := Core.split o.core
      refine ⟨.inl ⟨rfl, vs, .inl (Rd.of hH)⟩, ?_⟩
      exact ⟨U, G0, G', T', s1, _, c'.1, hq, fun rs s2 hq2 G2 vs H2 e2 c2 => ⟨U, G0, G2, T', s2, σ, .al i, rs, _, ⟨c'.2, c2⟩, hq2, fun r s3 h3 G3 v H3 e3 c3 => k _ _ h3 _ _ _ (e'.trans (e2.trans e3)) c3⟩⟩⟩
end
/-- a name that a comprehension captures -/
theorem sw_cell {elt : Expr} {gs : List Comprehension} {scope : Scope} {pos py : PySem.Pos} {y : Str} {l : Nat} {env : Env} (hk : env.scope.kind = .function) (hy : env.scope.names.lookup y = some .cell) : swapsWith (.ListComp elt gs scope pos) (some (.Name y py)) l env = pure false := by
  have ky : env.kindOf y = some .cell := hy
  have hb : env.blockKind = .function := by unfold Env.blockKind; rw [hk]; rfl
  unfold swapsWith
  simp only [hb, ky]
  rfl
/-- a comparison, all names lent in it -/
theorem vt_cmpLend {X : Cx} {a b : Expr} {wa wb : WE} {pos : PySem.Pos} {op : CmpOp} {o : OV} (ho : OpR X (compareOp op) (liftO (pxOf X) o)) (ha : PV X a wa) (hb : PV X b wb) (hm : behindInMarks op b = false) : PVT X (.Compare a [op] [b] pos) (tB (eLend (eOp o wa wb))) :=
  PT.imp (pt_cmpR ho ha hb hm) (tTest_of fun σ H Q h => lift2 (fun _ _ _ h => h) (fun _ _ _ h => h) (fun _ _ _ _ h => h) σ H Q (eLend_of σ H Q h))
theorem wForO_rest {α : Type} {ι : α → Ent} {i j : Nat} {body : WS} {P : Post} (I : List α → Slots → Prop) {xs : List α}
    (hs : ∀ pre x post sl (K B : Slots → Prop), xs = pre ++ x :: post → I pre sl → (∀ s, s[j]? = some (some (ι x)) → I (pre ++ [x]) ((s.set j none).set i none) → K s) → body (sl.set j (some (ι x))) { P with nx := K, ct := K, bk := B })
    (he : ∀ s, I xs s → P.nx ((s.set j none).set i (some (.lst (xs.map ι))))) : ∀ (post pre : List α) (sl : Slots), xs = pre ++ post → I pre sl → wForO i j body (pre.map ι) (post.map ι) sl P
  | [], pre, sl, hx, hi => by
    rw [List.append_nil] at hx
    subst hx
    exact he sl hi
  | x :: post, pre, sl, hx, hi => by
    refine hs pre x post sl _ _ hx hi fun s h1 h2 => ⟨ι x, h1, ?_⟩
    have := wForO_rest I hs he post (pre ++ [x]) ((s.set j none).set i none) (by rw [hx]; simp) h2
    rw [List.map_append] at this
    exact this
theorem wForO_all {α : Type} {ι : α → Ent} {i j : Nat} {body : WS} {P : Post} (I : List α → Slots → Prop) {xs : List α} {items : List Ent} (e : items = xs.map ι) {sl : Slots}
    (hs : ∀ pre x post sl (K B : Slots → Prop), xs = pre ++ x :: post → I pre sl → (∀ s, s[j]? = some (some (ι x)) → I (pre ++ [x]) ((s.set j none).set i none) → K s) → body (sl.set j (some (ι x))) { P with nx := K, ct := K, bk := B })
    (hi : I [] sl) (he : ∀ s, I xs s → P.nx ((s.set j none).set i (some (.lst (xs.map ι))))) : wForO i j body [] items sl P := by
  subst e
  exact wForO_rest I hs he xs [] sl rfl hi
variable {d : DialT}
theorem dats_own : ∀ L : List (List (Mk d)), Dats (L.map fun s => Ent.own (s.map encM)) (L.map hpD)
  | [] => .nil
  | s :: L => .cons .own (dats_own L)
theorem dats_bor : ∀ L : List (List (Mk d)), Dats (L.map fun s => Ent.bor (hpD s)) (L.map hpD)
  | [] => .nil
  | s :: L => .cons .bor (dats_bor L)
theorem nbs_own : ∀ L : List (List (Mk d)), Ent.nbs (L.map fun s => Ent.own (s.map encM))
  | [] => trivial
  | s :: L => ⟨trivial, nbs_own L⟩
theorem dok_sides (n : Nat) (L : List (List (Mk d))) : Dok (n + 3) (.list (L.map hpD)) := fun x hx => by
  obtain ⟨m, _, rfl⟩ := List.mem_map.mp hx
  exact dok_heap n m
theorem eqv_lists : ∀ (a b : List (List (Mk d))), PyData.eqvAll (a.map hpD) (b.map hpD) = decide (a = b)
  | [], [] => by simp [PyData.eqvAll]
  | [], _ :: _ => by simp [PyData.eqvAll]
  | _ :: _, [] => by simp [PyData.eqvAll]
  | x :: a, y :: b => by
    have h : PyData.eqv (hpD x) (hpD y) = decide (x = y) := eqv_heap x y
    rw [List.map_cons, List.map_cons, PySem.W.eqv_all_cons, h, eqv_lists a b]
    by_cases h1 : x = y <;> by_cases h2 : a = b <;> simp [h1, h2]
theorem eqv_sides (a b : List (List (Mk d))) : PyData.eqv (.list (a.map hpD)) (.list (b.map hpD)) = decide (a = b) := by
  rw [PyData.eqv, eqv_lists]
end VV

namespace VV
open PySem PySem.Spec L2
open PyProof.Rows hiding St

theorem bt_all : bootBuiltins "all" = some (.builtin "all") := by decide +kernel
theorem bt_any : bootBuiltins "any" = some (.builtin "any") := by decide +kernel
theorem bt_bool : bootBuiltins "bool" = some (.type "bool") := by decide +kernel
theorem bt_int : bootBuiltins "int" = some (.type "int") := by decide +kernel
theorem bt_isinstance : bootBuiltins "isinstance" = some (.builtin "isinstance") := by decide +kernel
theorem bt_len : bootBuiltins "len" = some (.builtin "len") := by decide +kernel
theorem bt_list : bootBuiltins "list" = some (.type "list") := by decide +kernel
theorem bt_max : bootBuiltins "max" = some (.builtin "max") := by decide +kernel
theorem bt_min : bootBuiltins "min" = some (.builtin "min") := by decide +kernel
theorem bt_range : bootBuiltins "range" = some (.type "range") := by decide +kernel
theorem bt_set : bootBuiltins "set" = some (.type "set") := by decide +kernel
theorem bt_sorted : bootBuiltins "sorted" = some (.builtin "sorted") := by decide +kernel
theorem bt_sum : bootBuiltins "sum" = some (.builtin "sum") := by decide +kernel
theorem bt_tuple : bootBuiltins "tuple" = some (.type "tuple") := by decide +kernel
theorem bt_zip : bootBuiltins "zip" = some (.type "zip") := by decide +kernel
structure Txt (mg : Str → Option Value) : Prop where
  n_all : mg "all" = none
  n_any : mg "any" = none
  n_bool : mg "bool" = none
  n_int : mg "int" = none
  n_isinstance : mg "isinstance" = none
  n_len : mg "len" = none
  n_list : mg "list" = none
  n_max : mg "max" = none
  n_min : mg "min" = none
  n_range : mg "range" = none
  n_set : mg "set" = none
  n_sorted : mg "sorted" = none
  n_sum : mg "sum" = none
  n_tuple : mg "tuple" = none
  n_zip : mg "zip" = none



abbrev st_nought : Stmt := PySem.Challenge.pw_dialheaps_k12_whole_closed_sets_and_side.main.body.getD 1 (.Pass ⟨0, 0, 0, 0⟩)
abbrev N_nought : List Str := ["dial", "size"]
theorem sc_nought : FnScope N_nought ["dial"] (defScope st_nought) := ⟨rfl, rfl, rfl, by decide +kernel, rfl, by decide +kernel, by decide +kernel⟩
def w_nought : WS := (sRet (eCB cTup (aCons (eLc (iSq (eVar 0)) (gNm 1) tYesV (eC (.int 0)) [1]) aNil)))


def φ_nought : FS := fun es Q _ => ∃ d : DialT, es = [.bor (tupI d.1)] ∧ Q (.shr (encM (0 : Mk d))) []
theorem h_nought : ∀ es Q E, φ_nought es Q E → es.length = ([.rd] : List Mode).length → w_nought (startS N_nought.length es) (endP [.rd] Q fun _ _ => False) := by
  rintro es Q E ⟨d, rfl, hQ⟩ -
  refine Or.inl ⟨sols_ints _, ?_⟩
  refine wLc_mapE (fun _ => .int 0) (fun s => s = [some (.bor (tupI d.1)), none]) (shr_ints d.1) ?_ (small_sz (by have := dial_len d; omega)) rfl ?_
  · rintro x hx _ acc K ha rfl hk; exact ⟨ha, hk _ rfl⟩
  · rintro _ rfl
    rw [mapint (fun _ => 0)]
    exact ⟨trivial, hQ⟩


theorem ok_nought {P : Program} {w : World} {K : PySem.W.Frag} {mg : Str → Option Value} {base : Heap} (T : Txt mg) {f : Addr} {fd : FuncData} (D : FD K mg "nought" "nought" st_nought ["dial"] f fd) : FnOk P w K mg base CX0 1 f fd ["dial"] (spOf ⟨P, w, K⟩ [.rd] φ_nought) := by
  refine fn_v (k := 0) (wb := w_nought) D.F sc_nought rfl h_nought fun cdv A outer s H E hr => ?_
  have sc := sc_nought
  have hu := hu64 hr
  exact (ss_one (s_ret (v_callTy c_tuple (by rfl) T.n_tuple bt_tuple (va_cons (v_lc rfl sc.nd (own := [("size", 1)]) (i_seq (vv 0)) (show BlkOk N_nought (defScope st_nought) _ [("size", 1)] from ⟨rfl, by decide +kernel, by decide +kernel, by decide +kernel, by decide +kernel⟩) (fun _ _ _ _ _ => (g_name (i := 1) (by decide) (by decide) sc.nd rfl (by first | exact Or.inl rfl | exact Or.inr rfl))) (fun _ _ _ _ _ => vts_nil) (fun _ _ _ _ _ => v_int)) va_nil))))


abbrev st_marks_of : Stmt := PySem.Challenge.pw_dialheaps_k12_whole_closed_sets_and_side.main.body.getD 2 (.Pass ⟨0, 0, 0, 0⟩)
abbrev N_marks_of : List Str := ["dial", "found", "size", "longer", "mark", "place"]
theorem sc_marks_of : FnScope N_marks_of ["dial"] (defScope st_marks_of) := ⟨rfl, rfl, rfl, by decide +kernel, rfl, by decide +kernel, by decide +kernel⟩
def w_marks_of : WS := (sSeq (sSet 1 (eLst (aCons (eTup aNil) aNil)))
    (sSeq (sFor (iSq (eVar 0)) (gNm 2) (sSeq (sSet 3 (eLst aNil))
    (sSeq (sFor (iSq (eVar 1)) (gNm 4) (sExp (eMt "list" mExtend (eVar 3) (aCons (eLc (iRg1 (aCons (eVar 2) aNil)) (gNm 5) tYesV (eOp oAdd (eVar 4) (eTup (aCons (eVar 5) aNil))) [5]) aNil))))
    (sAsg (eVar 3) (gNm 1)))))
    (sRet (eVar 1))))


def φ_marks_of : FS := fun es Q _ => ∃ d : DialT, es = [.bor (tupI d.1)] ∧ Q (.own ((allK d).map encM)) []
theorem h_marks_of : ∀ es Q E, φ_marks_of es Q E → es.length = ([.rd] : List Mode).length → w_marks_of (startS N_marks_of.length es) (endP [.rd] Q fun _ _ => False) := by
  rintro es Q E ⟨d, rfl, hQ⟩ -
  rw [← allK_enc] at hQ
  obtain ⟨dial, hd⟩ := d
  simp only at hQ ⊢
  have hl : dial.length ≤ 2 := hd.good.2.1
  have hs : ∀ s ∈ dial, 0 < s ∧ s ≤ 40 := fun s h => by have := hd.good.2.2 s h; omega
  refine ⟨by decide, by decide, Or.inl ⟨sols_ints _, ?_⟩⟩
  refine wFor_allE (fun pre s => ∃ x2 x4, s = [some (.bor (tupI dial)), some (.own ((allM pre).map tupI)), x2, none, x4, none]) (shr_ints dial) ?_ ⟨_, _, rfl⟩ ?_
  · rintro pre size post _ K hx ⟨x2, x4, rfl⟩ hK
    have hsz := hs size (by rw [hx]; simp)
    have ll := congrArg List.length hx
    simp only [List.length_append, List.length_cons] at ll
    have lm : ∀ m ∈ allM pre, m.length ≤ 2 := fun m hm => by
      have := allM_mem pre [[]] 0 (by simp) m hm; omega
    have lp : (allM pre).length ≤ 1600 := allM_len (fun s h => (hs s (by rw [hx]; simp [h])).2) (by have := congrArg List.length hx; simp at this; omega)
    refine ⟨by decide, ?_⟩
    refine wFor_allE (fun pre2 s => ∃ x4, s = [some (.bor (tupI dial)), some (.shr (lstT (allM pre))), some (shI size), some (.own ((pre2.flatMap (ext size)).map tupI)), x4, none]) (shr_tups (allM pre)) ?_ ⟨_, rfl⟩ ?_
    · rintro pre2 m post2 _ K2 hx2 ⟨x4, rfl⟩ hK2
      have lm := lm m (by rw [hx2]; simp)
      refine ⟨rfl, ⟨by omega, by omega⟩, ?_⟩
      refine wLc_mapE (fun i => .tuple (m.map .int ++ [.int (0 + (i : Nat))])) (fun s => s = [some (.bor (tupI dial)), some (.shr (lstT (allM pre))), some (shI size), some (.own ((pre2.flatMap (ext size)).map tupI)), some (.shr (tupI m)), none]) (rfl : rngItems 0 size.toNat = _) ?_ ?_ rfl ?_
      · rintro i hi _ acc K3 ha rfl hK3
        exact ⟨nl, small_sz (by simp only [List.length_map, List.length_cons, List.length_nil]; omega), ha, hK3 _ rfl⟩
      · rw [List.length_range]; exact small_sz (by omega)
      · rintro _ rfl
        have l2 : (pre2.flatMap (ext size)).length ≤ 1600 * 40 := by
          rw [flat_len]; exact Nat.mul_le_mul (by have := congrArg List.length hx2; simp at this; omega) (by omega)
        refine ⟨by rw [List.length_map, List.length_map, List.length_range]; exact small_sz (by omega), hK2 _ ⟨some (.shr (tupI m)), ?_⟩⟩
        rw [List.flatMap_append, List.map_append, map_ext]
        rfl
    · rintro _ ⟨x4, rfl⟩
      refine hK _ ⟨some (shI size), x4, ?_⟩
      rw [allM_snoc]; rfl
  · rintro _ ⟨x2, x4, rfl⟩
    exact ⟨trivial, hQ⟩


theorem ok_marks_of {P : Program} {w : World} {K : PySem.W.Frag} {mg : Str → Option Value} {base : Heap} (T : Txt mg) {f : Addr} {fd : FuncData} (D : FD K mg "marks_of" "marks_of" st_marks_of ["dial"] f fd) : FnOk P w K mg base CX0 1 f fd ["dial"] (spOf ⟨P, w, K⟩ [.rd] φ_marks_of) := by
  refine fn_v (k := 0) (wb := w_marks_of) D.F sc_marks_of rfl h_marks_of fun cdv A outer s H E hr => ?_
  have sc := sc_marks_of
  have hu := hu64 hr
  exact (ss_cons (s_set (i := 1) (by decide) sc.nd rfl (by first | exact Or.inl rfl | exact Or.inr rfl) (v_lst (va_cons (v_tup va_nil) va_nil)))
    (ss_cons (s_for (ss := [2]) PassesOwn.never rfl (i_seq (vv 0)) (g_name (i := 2) (by decide) (by decide) sc.nd rfl (by first | exact Or.inl rfl | exact Or.inr rfl)) (ss_cons (s_set (i := 3) (by decide) sc.nd rfl (by first | exact Or.inl rfl | exact Or.inr rfl) (v_lst va_nil))
    (ss_cons (s_for (ss := [4]) PassesOwn.never rfl (i_seq (vv 1)) (g_name (i := 4) (by decide) (by decide) sc.nd rfl (by first | exact Or.inl rfl | exact Or.inr rfl)) (ss_one (s_exp (v_mt PySem.F.plainAttrs_list PySem.F.slot_list_extend PySem.F.type_list_extend m_extend (vv 3) (va_cons (v_lc rfl sc.nd (own := [("place", 5)]) (i_rng1 (by rfl) T.n_range (va_cons (vv 2) va_nil)) (show BlkOk N_marks_of (defScope st_marks_of) _ [("place", 5)] from ⟨rfl, by decide +kernel, by decide +kernel, by decide +kernel, by decide +kernel⟩) (fun _ _ _ _ _ => (g_name (i := 5) (by decide) (by decide) sc.nd rfl (by first | exact Or.inl rfl | exact Or.inr rfl))) (fun _ _ _ _ _ => vts_nil) (fun _ _ _ _ _ => (v_op o_add (vv 4) (v_tup (va_cons (vv 5) va_nil))))) va_nil)))))
    (ss_one (s_asg (ss := [1]) (vv 3) (g_name (i := 1) (by decide) (by decide) sc.nd rfl (by first | exact Or.inl rfl | exact Or.inr rfl)))))))
    (ss_one (s_ret (vv 1)))))


abbrev st_added : Stmt := PySem.Challenge.pw_dialheaps_k12_whole_closed_sets_and_side.main.body.getD 3 (.Pass ⟨0, 0, 0, 0⟩)
abbrev N_added : List Str := ["dial", "one", "other", "a", "b", "size"]
theorem sc_added : FnScope N_added ["dial", "one", "other"] (defScope st_added) := ⟨rfl, rfl, rfl, by decide +kernel, rfl, by decide +kernel, by decide +kernel⟩
def w_added : WS := (sRet (eCB cTup (aCons (eLc (iZ3 (aCons (eVar 1) (aCons (eVar 2) (aCons (eVar 0) aNil)))) (gTp 3 (gsCons (gNm 3) (gsCons (gNm 4) (gsCons (gNm 5) gsNil)))) tYesV (eOp (oRd dMod) (eOp oAdd (eVar 3) (eVar 4)) (eVar 5)) [3, 4, 5]) aNil)))


def φ_added : FS := fun es Q _ => ∃ (d : DialT) (a b : Mk d), es = [.bor (tupI d.1), .bor (encM a), .bor (encM b)] ∧ Q (.shr (encM (a + b))) []
theorem h_added : ∀ es Q E, φ_added es Q E → es.length = ([.rd, .rd, .rd] : List Mode).length → w_added (startS N_added.length es) (endP [.rd, .rd, .rd] Q fun _ _ => False) := by
  rintro es Q E ⟨d, a, b, rfl, hQ⟩ -
  have hp := d.2.good.pos
  refine ⟨sols_ints _, sols_ints _, sols_ints _, ?_⟩
  refine wLc_mapE (fun p => .int ((p.1 + p.2.1) % p.2.2)) (fun s => s = [some (.bor (tupI d.1)), some (.bor (tupI a.1)), some (.bor (tupI b.1)), none, none, none]) (zip3_ints a.1 b.1 d.1) ?_ (small_sz (by have := z3_len a.1 b.1 d.1; have := len_mark a; omega)) rfl ?_
  · rintro p hx _ acc K ha rfl hk
    exact ⟨rfl, rfl, hp _ (z3_mem hx).2.2, trivial, ha, hk _ rfl⟩
  · rintro _ rfl
    rw [mapint]
    exact ⟨trivial, hQ⟩


theorem ok_added {P : Program} {w : World} {K : PySem.W.Frag} {mg : Str → Option Value} {base : Heap} (T : Txt mg) {f : Addr} {fd : FuncData} (D : FD K mg "added" "added" st_added ["dial", "one", "other"] f fd) : FnOk P w K mg base CX0 1 f fd ["dial", "one", "other"] (spOf ⟨P, w, K⟩ [.rd, .rd, .rd] φ_added) := by
  refine fn_v (k := 0) (wb := w_added) D.F sc_added rfl h_added fun cdv A outer s H E hr => ?_
  have sc := sc_added
  have hu := hu64 hr
  exact (ss_one (s_ret (v_callTy c_tuple (by rfl) T.n_tuple bt_tuple (va_cons (v_lc rfl sc.nd (own := [("a", 3), ("b", 4), ("size", 5)]) (i_z3 (by rfl) T.n_zip (va_cons (vv 1) (va_cons (vv 2) (va_cons (vv 0) va_nil)))) (show BlkOk N_added (defScope st_added) _ [("a", 3), ("b", 4), ("size", 5)] from ⟨rfl, by decide +kernel, by decide +kernel, by decide +kernel, by decide +kernel⟩) (fun _ _ _ _ _ => (g_tup rfl (gs_cons (g_name (i := 3) (by decide) (by decide) sc.nd rfl (by first | exact Or.inl rfl | exact Or.inr rfl)) (gs_cons (g_name (i := 4) (by decide) (by decide) sc.nd rfl (by first | exact Or.inl rfl | exact Or.inr rfl)) (gs_cons (g_name (i := 5) (by decide) (by decide) sc.nd rfl (by first | exact Or.inl rfl | exact Or.inr rfl)) gs_nil))))) (fun _ _ _ _ _ => vts_nil) (fun _ _ _ _ _ => (v_op o_mod (v_op o_add (vv 3) (vv 4)) (vv 5)))) va_nil))))


abbrev st_sums : Stmt := PySem.Challenge.pw_dialheaps_k12_whole_closed_sets_and_side.main.body.getD 5 (.Pass ⟨0, 0, 0, 0⟩)
abbrev N_sums : List Str := ["dial", "one", "other", "found", "mark", "more"]
theorem sc_sums : FnScope N_sums ["dial", "one", "other"] (defScope st_sums) := ⟨rfl, rfl, rfl, by decide +kernel, rfl, by decide +kernel, by decide +kernel⟩
def w_sums : WS := (sSeq (sSet 3 eDNew)
    (sSeq (sFor (iSq (eVar 1)) (gNm 4) (sFor (iSq (eVar 2)) (gNm 5) (sAsg (eC (.bool true)) (gIxD (eVar 3) (eCall φ_added [.rd, .rd, .rd] (aCons (eVar 0) (aCons (eVar 4) (aCons (eVar 5) aNil))))))))
    (sRet (eCB cDSort (aCons (eVar 3) aNil)))))


def φ_sums : FS := fun es Q _ => ∃ (d : DialT) (A B : List (Mk d)), es = [.bor (tupI d.1), .bor (hpD A), .bor (hpD B)] ∧ Q (.own ((setL (addS A B)).map encM)) []
theorem h_sums : ∀ es Q E, φ_sums es Q E → es.length = ([.rd, .rd, .rd] : List Mode).length → w_sums (startS N_sums.length es) (endP [.rd, .rd, .rd] Q fun _ _ => False) := by
  rintro es Q E ⟨d, A, B, rfl, hQ⟩ -
  refine Or.inl ⟨sols_encM _, ?_⟩
  refine wFor_allE (xs := A) (ι := fun m => .shr (encM m)) (fun pre s => ∃ (T : List (Mk d × Bool)) (x4 x5 : Option Ent), s = [some (.bor (tupI d.1)), some (.bor (hpD A)), some (.bor (hpD B)), some (.dct (tb encM PyData.bool T)), x4, x5] ∧ (T.map (·.1)).Nodup ∧ ∀ m, m ∈ T.map (·.1) ↔ ∃ a ∈ pre, ∃ b ∈ B, a + b = m) (shr_encM A) ?_ ⟨[], _, _, rfl, by simp, by simp⟩ ?_
  · rintro pre a post _ K hx ⟨T, x4, x5, rfl, hn, hm⟩ hK
    refine Or.inl ⟨sols_encM _, ?_⟩
    refine wFor_allE (xs := B) (ι := fun m => .shr (encM m)) (fun pre2 s => ∃ (T : List (Mk d × Bool)) (x5 : Option Ent), s = [some (.bor (tupI d.1)), some (.bor (hpD A)), some (.bor (hpD B)), some (.dct (tb encM PyData.bool T)), some (.shr (encM a)), x5] ∧ (T.map (·.1)).Nodup ∧ ∀ m, m ∈ T.map (·.1) ↔ (∃ a ∈ pre, ∃ b ∈ B, a + b = m) ∨ ∃ b ∈ pre2, a + b = m) (shr_encM B) ?_ ⟨T, _, rfl, hn, by simpa using hm⟩ ?_
    · rintro pre2 b post2 _ K2 hx2 ⟨T, x5, rfl, hn, hm⟩ hK2
      have hK2 := fun y5 => hK2 [some (.bor (tupI d.1)), some (.bor (hpD A)), some (.bor (hpD B)), some (.dct (tb encM PyData.bool (pt T (a + b) true))), some (.shr (encM a)), y5] ⟨pt T (a + b) true, y5, rfl, pt_nodup hn, fun m => by
        rw [pt_memK, hm]
        constructor
        · rintro (rfl | h | ⟨b', hb', e⟩)
          · exact .inr ⟨b, by simp, rfl⟩
          · exact .inl h
          · exact .inr ⟨b', by simp [hb'], e⟩
        · rintro (h | ⟨b', hb', e⟩)
          · exact .inr (.inl h)
          · rcases List.mem_append.mp hb' with h | h
            · exact .inr (.inr ⟨b', h, e⟩)
            · rw [List.mem_singleton] at h
              subst h
              exact .inl e.symm⟩
      rw [← put_tb (fun _ _ => encM_inj)] at hK2
      exact ⟨d, a, b, rfl, keyM (a + b), of_small (by have := len_tbM hn; rw [List.length_map]; omega), hK2 _⟩
    · rintro _ ⟨T, x5, rfl, hn, hm⟩
      refine hK _ ⟨T, _, _, rfl, hn, fun m => ?_⟩
      rw [hm]
      constructor
      · rintro (⟨a', h1, h2⟩ | h)
        · exact ⟨a', by simp [h1], h2⟩
        · exact ⟨a, by simp, h⟩
      · rintro ⟨a', h1, h2⟩
        rcases List.mem_append.mp h1 with h | h
        · exact .inl ⟨a', h, h2⟩
        · rw [List.mem_singleton] at h
          subst h
          exact .inr h2
  · rintro _ ⟨T, x4, x5, rfl, hn, hm⟩
    refine ⟨(T.map (·.1)).map (·.1), by rw [tb_keys, ← map_encM], fun b hb => ?_, ?_⟩
    · obtain ⟨m, _, rfl⟩ := List.mem_map.mp hb
      exact mark_ne m
    · rw [sort_set hn, map_encM]
      rw [show setL (addS A B) = setL (fun m => decide (m ∈ T.map (·.1))) from setL_ext.mpr fun m => Bool.eq_iff_iff.mpr (by rw [addS_iff, decide_eq_true_eq, hm])] at hQ
      exact ⟨trivial, hQ⟩


theorem ok_sums {P : Program} {w : World} {K : PySem.W.Frag} {mg : Str → Option Value} {base : Heap} (T : Txt mg) {f : Addr} {fd : FuncData} (D : FD K mg "sums" "sums" st_sums ["dial", "one", "other"] f fd) {f_added : Addr} {fd_added : FuncData} (D_added : FD K mg "added" "added" st_added ["dial", "one", "other"] f_added fd_added) (G_added : FnOk P w K mg base CX0 1 f_added fd_added ["dial", "one", "other"] (spOf ⟨P, w, K⟩ [.rd, .rd, .rd] φ_added)) : FnOk P w K mg base CX0 2 f fd ["dial", "one", "other"] (spOf ⟨P, w, K⟩ [.rd, .rd, .rd] φ_sums) := by
  refine fn_v (k := 1) (wb := w_sums) D.F sc_sums rfl h_sums fun cdv A outer s H E hr => ?_
  have sc := sc_sums
  have hu := hu64 hr
  exact (ss_cons (s_set (i := 3) (by decide) sc.nd rfl (by first | exact Or.inl rfl | exact Or.inr rfl) v_dnew)
    (ss_cons (s_for (ss := [4]) PassesOwn.never rfl (i_seq (vv 1)) (g_name (i := 4) (by decide) (by decide) sc.nd rfl (by first | exact Or.inl rfl | exact Or.inr rfl)) (ss_one (s_for (ss := [5]) PassesOwn.never rfl (i_seq (vv 2)) (g_name (i := 5) (by decide) (by decide) sc.nd rfl (by first | exact Or.inl rfl | exact Or.inr rfl)) (ss_one (s_asg (ss := []) v_bool (g_ixD hu (vv 3) (v_call G_added (hr.mono (by decide)) (by rfl) D_added.m D_added.k D_added.b (va_cons (vv 0) (va_cons (vv 4) (va_cons (vv 5) va_nil))))))))))
    (ss_one (s_ret (v_callB (c_dsort rfl hu) (by rfl) T.n_sorted bt_sorted (va_cons (vv 3) va_nil))))))


abbrev st_keepers : Stmt := PySem.Challenge.pw_dialheaps_k12_whole_closed_sets_and_side.main.body.getD 6 (.Pass ⟨0, 0, 0, 0⟩)
abbrev N_keepers : List Str := ["dial", "some", "mark"]
theorem sc_keepers : FnScope N_keepers ["dial", "some"] (defScope st_keepers) := ⟨rfl, rfl, rfl, by decide +kernel, rfl, by decide +kernel, by decide +kernel⟩
def w_keepers : WS := (sRet (eLc (iSq (eCall φ_marks_of [.rd] (aCons (eVar 0) aNil))) (gNm 2) (tB (eOp (oRd dEq) (eCall φ_sums [.rd, .rd, .rd] (aCons (eVar 0) (aCons (eVar 1) (aCons (eLst (aCons (eVar 2) aNil)) aNil)))) (eVar 1))) (eVar 2) [2]))


def φ_keepers : FS := fun es Q _ => ∃ (d : DialT) (A : List (Mk d)), es = [.bor (tupI d.1), .bor (hpD A)] ∧ Q (.own ((setL fun m => decide (setL (addS A [m]) = A)).map encM)) []
theorem h_keepers : ∀ es Q E, φ_keepers es Q E → es.length = ([.rd, .rd] : List Mode).length → w_keepers (startS N_keepers.length es) (endP [.rd, .rd] Q fun _ _ => False) := by
  rintro es Q E ⟨d, A, rfl, hQ⟩ -
  refine ⟨d, rfl, ?_⟩
  refine wLc_fmE (xs := allK d) (ι := fun m => .shr (encM m)) (fun m => if decide (setL (addS A [m]) = A) = true then some (encM m) else none) (fun s => s = [some (.bor (tupI d.1)), some (.bor (hpD A)), none]) (shr_encM _) ?_ (small_sz (by have := allK_len d; omega)) rfl ?_
  · rintro m hm _ acc K ha rfl hK
    have hK := hK _ rfl
    refine ⟨nl, d, A, [m], rfl, dok_heap 6 _, dok_heap 6 _, ?_⟩
    rw [eqv_heap]
    by_cases e : setL (addS A [m]) = A
    · rw [decide_eq_true e] at hK ⊢
      simp only [if_true, Option.toList] at hK
      exact ⟨trivial, ha, hK⟩
    · rw [decide_eq_false e] at hK ⊢
      simp only [Bool.false_eq_true, if_false, Option.toList, List.append_nil] at hK
      exact ⟨trivial, hK⟩
  · rintro _ rfl
    rw [fm_map]
    exact ⟨trivial, hQ⟩


theorem ok_keepers {P : Program} {w : World} {K : PySem.W.Frag} {mg : Str → Option Value} {base : Heap} (T : Txt mg) {f : Addr} {fd : FuncData} (D : FD K mg "keepers" "keepers" st_keepers ["dial", "some"] f fd) {f_marks_of : Addr} {fd_marks_of : FuncData} (D_marks_of : FD K mg "marks_of" "marks_of" st_marks_of ["dial"] f_marks_of fd_marks_of) (G_marks_of : FnOk P w K mg base CX0 1 f_marks_of fd_marks_of ["dial"] (spOf ⟨P, w, K⟩ [.rd] φ_marks_of)) {f_sums : Addr} {fd_sums : FuncData} (D_sums : FD K mg "sums" "sums" st_sums ["dial", "one", "other"] f_sums fd_sums) (G_sums : FnOk P w K mg base CX0 2 f_sums fd_sums ["dial", "one", "other"] (spOf ⟨P, w, K⟩ [.rd, .rd, .rd] φ_sums)) : FnOk P w K mg base CX0 3 f fd ["dial", "some"] (spOf ⟨P, w, K⟩ [.rd, .rd] φ_keepers) := by
  refine fn_v (k := 2) (wb := w_keepers) D.F sc_keepers rfl h_keepers fun cdv A outer s H E hr => ?_
  have sc := sc_keepers
  have hu := hu64 hr
  exact (ss_one (s_ret (v_lc rfl sc.nd (own := [("mark", 2)]) (i_seq (v_call G_marks_of (hr.mono (by decide)) (by rfl) D_marks_of.m D_marks_of.k D_marks_of.b (va_cons (vv 0) va_nil))) (show BlkOk N_keepers (defScope st_keepers) _ [("mark", 2)] from ⟨rfl, by decide +kernel, by decide +kernel, by decide +kernel, by decide +kernel⟩) (fun _ _ _ _ _ => (g_name (i := 2) (by decide) (by decide) sc.nd rfl (by first | exact Or.inl rfl | exact Or.inr rfl))) (fun _ _ _ _ _ => (vts_one (vt_cmp (o_eq hu) (v_call G_sums (hr.mono (by decide)) (by rfl) D_sums.m D_sums.k D_sums.b (va_cons (vv 0) (va_cons (vv 1) (va_cons (v_lst (va_cons (vv 2) va_nil)) va_nil)))) (vv 1) (nomark _)))) (fun _ _ _ _ _ => (vv 2)))))


abbrev st_is_closed : Stmt := PySem.Challenge.pw_dialheaps_k12_whole_closed_sets_and_side.main.body.getD 7 (.Pass ⟨0, 0, 0, 0⟩)
abbrev N_is_closed : List Str := ["dial", "some", "mark"]
theorem sc_is_closed : FnScope N_is_closed ["dial", "some"] (defScope st_is_closed) := ⟨rfl, rfl, rfl, by decide +kernel, rfl, by decide +kernel, by decide +kernel⟩
def w_is_closed : WS := (sRet (eCB (cRd fAll) (aCons (eLc (iSq (eCall φ_sums [.rd, .rd, .rd] (aCons (eVar 0) (aCons (eVar 1) (aCons (eVar 1) aNil))))) (gNm 2) tYesV (eOp (oRd dIn) (eVar 2) (eVar 1)) [2]) aNil)))


def φ_is_closed : FS := fun es Q _ => ∃ (d : DialT) (A : List (Mk d)), es = [.bor (tupI d.1), .bor (hpD A)] ∧ Q (.shr (.bool ((setL (addS A A)).all fun m => decide (m ∈ A)))) []
theorem h_is_closed : ∀ es Q E, φ_is_closed es Q E → es.length = ([.rd, .rd] : List Mode).length → w_is_closed (startS N_is_closed.length es) (endP [.rd, .rd] Q fun _ _ => False) := by
  rintro es Q E ⟨d, A, rfl, hQ⟩ -
  refine ⟨d, A, A, rfl, ?_⟩
  refine wLc_mapE (xs := setL (addS A A)) (ι := fun m => .shr (encM m)) (fun m => .bool (decide (m ∈ A))) (fun s => s = [some (.bor (tupI d.1)), some (.bor (hpD A)), none]) (shr_encM _) ?_ (small_sz (by have := setL_len (addS A A); omega)) rfl ?_
  · rintro m hm _ acc K ha rfl hK
    refine ⟨dok_encM 7 _, dok_heap 6 _, ?_⟩
    rw [any_encM]
    exact ⟨trivial, ha, hK _ rfl⟩
  · rintro _ rfl
    refine ⟨(setL (addS A A)).map fun m => decide (m ∈ A), by rw [List.map_map]; rfl, ?_⟩
    rw [List.all_map]
    exact ⟨trivial, trivial, hQ⟩


theorem ok_is_closed {P : Program} {w : World} {K : PySem.W.Frag} {mg : Str → Option Value} {base : Heap} (T : Txt mg) {f : Addr} {fd : FuncData} (D : FD K mg "is_closed" "is_closed" st_is_closed ["dial", "some"] f fd) {f_sums : Addr} {fd_sums : FuncData} (D_sums : FD K mg "sums" "sums" st_sums ["dial", "one", "other"] f_sums fd_sums) (G_sums : FnOk P w K mg base CX0 2 f_sums fd_sums ["dial", "one", "other"] (spOf ⟨P, w, K⟩ [.rd, .rd, .rd] φ_sums)) : FnOk P w K mg base CX0 3 f fd ["dial", "some"] (spOf ⟨P, w, K⟩ [.rd, .rd] φ_is_closed) := by
  refine fn_v (k := 2) (wb := w_is_closed) D.F sc_is_closed rfl h_is_closed fun cdv A outer s H E hr => ?_
  have sc := sc_is_closed
  have hu := hu64 hr
  exact (ss_one (s_ret (v_callB (c_all rfl) (by rfl) T.n_all bt_all (va_cons (v_lc rfl sc.nd (own := [("mark", 2)]) (i_seq (v_call G_sums (hr.mono (by decide)) (by rfl) D_sums.m D_sums.k D_sums.b (va_cons (vv 0) (va_cons (vv 1) (va_cons (vv 1) va_nil))))) (show BlkOk N_is_closed (defScope st_is_closed) _ [("mark", 2)] from ⟨rfl, by decide +kernel, by decide +kernel, by decide +kernel, by decide +kernel⟩) (fun _ _ _ _ _ => (g_name (i := 2) (by decide) (by decide) sc.nd rfl (by first | exact Or.inl rfl | exact Or.inr rfl))) (fun _ _ _ _ _ => vts_nil) (fun _ _ _ _ _ => (v_cmp (o_in hu) (vv 2) (vv 1) (by rfl)))) va_nil))))


abbrev st_closed_by : Stmt := PySem.Challenge.pw_dialheaps_k12_whole_closed_sets_and_side.main.body.getD 8 (.Pass ⟨0, 0, 0, 0⟩)
abbrev N_closed_by : List Str := ["dial", "marks", "found", "mark"]
theorem sc_closed_by : FnScope N_closed_by ["dial", "marks"] (defScope st_closed_by) := ⟨rfl, rfl, rfl, by decide +kernel, rfl, by decide +kernel, by decide +kernel⟩
def w_closed_by : WS := (sSeq (sSet 2 (eLst (aCons (eCall φ_nought [.rd] (aCons (eVar 0) aNil)) aNil)))
    (sSeq (sFor (iSq (eVar 1)) (gNm 3) (sWhile (tOr (tB (eOp (oRd dNotIn) (eVar 3) (eVar 2))) (tNot (tTru (eCall φ_is_closed [.rd, .rd] (aCons (eVar 0) (aCons (eVar 2) aNil)))))) (sSet 2 (eCall φ_sums [.rd, .rd, .rd] (aCons (eVar 0) (aCons (eVar 2) (aCons (eCB cSortT (aCons (eOp oAdd (eOp oMul (eLst (aCons (eCall φ_nought [.rd] (aCons (eVar 0) aNil)) aNil)) (eCB (cRd fInt) (aCons (eOp (oRd dNe) (eVar 3) (eCall φ_nought [.rd] (aCons (eVar 0) aNil))) aNil))) (eLst (aCons (eVar 3) aNil))) aNil)) aNil)))))))
    (sRet (eVar 2))))


def φ_closed_by : FS := fun es Q _ => ∃ (d : DialT) (ms : List (Mk d)), es = [.bor (tupI d.1), .bor (hpD ms)] ∧ Q (.own ((genL ms).map encM)) []
theorem h_closed_by : ∀ es Q E, φ_closed_by es Q E → es.length = ([.rd, .rd] : List Mode).length → w_closed_by (startS N_closed_by.length es) (endP [.rd, .rd] Q fun _ _ => False) := by
  rintro es Q E ⟨d, ms, rfl, hQ⟩ -
  have g0 : genL ([] : List (Mk d)) = [0] := by
    refine perm_sorted (R := fun a b : Mk d => a.1 < b.1) (fun a b h1 h2 => absurd (List.lt_trans h1 h2) (List.lt_irrefl _)) (perm_of_nodup (setL_nodup _) (by simp) fun m => ?_) (setL_rise _) (List.pairwise_singleton _ _)
    show m ∈ genL [] ↔ _
    rw [mem_genL, List.mem_singleton]
    constructor
    · intro h
      cases h with
      | zero => rfl
      | add _ hx => simp at hx
    · rintro rfl; exact .zero
  refine ⟨d, rfl, nl, Or.inl ⟨sols_encM _, ?_⟩⟩
  refine wFor_allE (xs := ms) (ι := fun m => .shr (encM m)) (fun pre s => ∃ (x3 : Option Ent), s = [some (.bor (tupI d.1)), some (.bor (hpD ms)), some (.own ((genL pre).map encM)), x3]) (shr_encM ms) ?_ ⟨_, by rw [g0]; rfl⟩ ?_
  · rintro pre m post _ K hx ⟨x3, rfl⟩ hK
    refine ⟨fun k s => ∃ (S : Mk d → Bool) (j : Nat), s = [some (.bor (tupI d.1)), some (.bor (hpD ms)), some (.own ((setL S).map encM)), some (.shr (encM m))] ∧ (∀ x, S x = true ↔ Upto pre m j x) ∧ k = 2000 - (setL S).length, ⟨_, gB pre, 0, rfl, fun x => by rw [gB_iff, Upto.zero], rfl⟩, ?_⟩
    rintro k s ⟨S, j, rfl, hS, rfl⟩
    have sl := setL_len S
    have grow : ¬ (S m = true ∧ ∀ x, x ∈ setL (addS (setL S) (setL S)) → x ∈ setL S) → m ≠ 0 ∧ ∃ x, Upto pre m (j + 1) x ∧ S x = false := fun hc => by
      have hne : ¬ ∀ x, Upto pre m (j + 1) x → Upto pre m j x := fun h => hc ⟨(hS m).mpr (Upto.full h (Gen.one (by simp))), fun x hx => by
        rw [mem_setL, addS_iff] at hx
        obtain ⟨a, ha, b, hb, rfl⟩ := hx
        rw [mem_setL, hS] at ha hb ⊢
        exact Upto.full h (ha.gen.plus hb.gen)⟩
      refine ⟨fun e => ?_, ?_⟩
      · subst e
        refine hne fun x hx => ?_
        rcases Upto.succ.mp hx with h | ⟨y, hy, e⟩
        · exact h
        · rw [← e, Gr.addz]; exact hy
      · refine Classical.byContradiction fun hn => hne fun x hx => ?_
        cases h : S x with
        | true => exact (hS x).mp h
        | false => exact absurd ⟨x, hx, h⟩ hn
    have S1 : ∀ x, addS (setL S) (setL fun y => decide (y ∈ [0, m])) x = true ↔ Upto pre m (j + 1) x := fun x => by
      rw [addS_iff, Upto.succ]
      constructor
      · rintro ⟨a, ha, b, hb, rfl⟩
        rw [mem_setL, hS] at ha
        rw [mem_setL, decide_eq_true_eq] at hb
        rcases List.mem_cons.mp hb with e | hb
        · rw [e, Gr.addz]; exact .inl ha
        · rw [List.mem_singleton] at hb
          rw [hb]; exact .inr ⟨a, ha, rfl⟩
      · rintro (h | ⟨y, hy, rfl⟩)
        · exact ⟨x, mem_setL.mpr ((hS x).mpr h), 0, mem_setL.mpr (by simp), Gr.addz x⟩
        · exact ⟨y, mem_setL.mpr ((hS y).mpr hy), m, mem_setL.mpr (by simp), rfl⟩
    have more : (∃ x, Upto pre m (j + 1) x ∧ S x = false) → 2000 - (setL (addS (setL S) (setL fun y => decide (y ∈ [0, m])))).length < 2000 - (setL S).length := fun ⟨x, hx1, hx2⟩ => by
      have := len_lt (S := S) (T := addS (setL S) (setL fun y => decide (y ∈ [0, m]))) (fun y hy => (S1 y).mpr (Upto.succ.mpr (.inl ((hS y).mp hy)))) ((S1 x).mpr hx1) hx2
      omega
    have srt : m ≠ 0 → sortM [(0 : Mk d).1, m.1] = (setL fun y => decide (y ∈ [0, m])).map (·.1) := fun h0 => by
      have ks : ([0, m] : List (Mk d)).Nodup := by simp; exact fun e => h0 e.symm
      exact sort_set ks
    refine ⟨dok_encM 7 _, dok_heap 6 _, ?_⟩
    rw [any_encM]
    by_cases hm : m ∈ setL S
    · rw [decide_eq_true hm]
      refine ⟨trivial, d, setL S, rfl, ?_⟩
      by_cases hc : ((setL (addS (setL S) (setL S))).all fun m => decide (m ∈ setL S)) = true
      · rw [hc]
        have hc : ∀ x, x ∈ setL (addS (setL S) (setL S)) → x ∈ setL S := fun x hx => by
          have := List.all_eq_true.mp hc x hx
          simpa using this
        have zS : S 0 = true := (hS 0).mpr ⟨0, .zero, 0, Nat.zero_le _, Gr.addz 0⟩
        have e : setL S = genL (pre ++ [m]) := genL_eq fun x => by
          constructor
          · intro h
            exact ((hS x).mp h).gen
          · intro h
            refine h.into (P := fun x => S x = true) zS (fun a b ha hb => ?_) fun y hy => ?_
            · exact mem_setL.mp (hc _ (mem_setL.mpr (addS_iff.mpr ⟨a, mem_setL.mpr ha, b, mem_setL.mpr hb, rfl⟩)))
            · rcases List.mem_append.mp hy with hy | hy
              · exact (hS y).mpr ⟨y, .one hy, 0, Nat.zero_le _, Gr.addz y⟩
              · rw [List.mem_singleton] at hy
                rw [hy]; exact mem_setL.mp hm
        rw [e]
        exact hK _ ⟨_, rfl⟩
      · rw [Bool.eq_false_iff.mpr hc]
        obtain ⟨h0, hx⟩ := grow fun h => hc (List.all_eq_true.mpr fun x hx => decide_eq_true (h.2 x hx))
        refine ⟨d, rfl, nl, d, rfl, dok_encM 7 _, dok_encM 7 _, ?_⟩
        rw [eqv_encM, decide_eq_false h0]
        refine ⟨trivial, trivial, by decide, by decide, small_sz nl, nl, small_sz nl, [(0 : Mk d).1, m.1], rfl, fun b hb => ?_, ?_⟩
        · rcases List.mem_cons.mp hb with e | hb
          · rw [e]; exact mark_ne 0
          · rw [List.mem_singleton] at hb
            rw [hb]; exact mark_ne m
        rw [srt h0, map_encM]
        exact ⟨d, setL S, _, rfl, _, more hx, _, j + 1, rfl, S1, rfl⟩
    · rw [decide_eq_false hm]
      · obtain ⟨h0, hx⟩ := grow fun h => hm (mem_setL.mpr h.1)
        refine ⟨trivial, d, rfl, nl, d, rfl, dok_encM 7 _, dok_encM 7 _, ?_⟩
        rw [eqv_encM, decide_eq_false h0]
        refine ⟨trivial, trivial, by decide, by decide, small_sz nl, nl, small_sz nl, [(0 : Mk d).1, m.1], rfl, fun b hb => ?_, ?_⟩
        · rcases List.mem_cons.mp hb with e | hb
          · rw [e]; exact mark_ne 0
          · rw [List.mem_singleton] at hb
            rw [hb]; exact mark_ne m
        rw [srt h0, map_encM]
        exact ⟨d, setL S, _, rfl, _, more hx, _, j + 1, rfl, S1, rfl⟩
  · rintro _ ⟨x3, rfl⟩
    exact ⟨trivial, hQ⟩


theorem ok_closed_by {P : Program} {w : World} {K : PySem.W.Frag} {mg : Str → Option Value} {base : Heap} (T : Txt mg) {f : Addr} {fd : FuncData} (D : FD K mg "closed_by" "closed_by" st_closed_by ["dial", "marks"] f fd) {f_nought : Addr} {fd_nought : FuncData} (D_nought : FD K mg "nought" "nought" st_nought ["dial"] f_nought fd_nought) (G_nought : FnOk P w K mg base CX0 1 f_nought fd_nought ["dial"] (spOf ⟨P, w, K⟩ [.rd] φ_nought)) {f_sums : Addr} {fd_sums : FuncData} (D_sums : FD K mg "sums" "sums" st_sums ["dial", "one", "other"] f_sums fd_sums) (G_sums : FnOk P w K mg base CX0 2 f_sums fd_sums ["dial", "one", "other"] (spOf ⟨P, w, K⟩ [.rd, .rd, .rd] φ_sums)) {f_is_closed : Addr} {fd_is_closed : FuncData} (D_is_closed : FD K mg "is_closed" "is_closed" st_is_closed ["dial", "some"] f_is_closed fd_is_closed) (G_is_closed : FnOk P w K mg base CX0 3 f_is_closed fd_is_closed ["dial", "some"] (spOf ⟨P, w, K⟩ [.rd, .rd] φ_is_closed)) : FnOk P w K mg base CX0 4 f fd ["dial", "marks"] (spOf ⟨P, w, K⟩ [.rd, .rd] φ_closed_by) := by
  refine fn_v (k := 3) (wb := w_closed_by) D.F sc_closed_by rfl h_closed_by fun cdv A outer s H E hr => ?_
  have sc := sc_closed_by
  have hu := hu64 hr
  exact (ss_cons (s_set (i := 2) (by decide) sc.nd rfl (by first | exact Or.inl rfl | exact Or.inr rfl) (v_lst (va_cons (v_call G_nought (hr.mono (by decide)) (by rfl) D_nought.m D_nought.k D_nought.b (va_cons (vv 0) va_nil)) va_nil)))
    (ss_cons (s_for (ss := [3]) PassesOwn.never rfl (i_seq (vv 1)) (g_name (i := 3) (by decide) (by decide) sc.nd rfl (by first | exact Or.inl rfl | exact Or.inr rfl)) (ss_one (s_while PassesOwn.never (vt_w (vw_or (vt_cmp (o_notIn hu) (vv 3) (vv 2) (by rfl)) (vw_or1 (vt_not (vt_truth (v_call G_is_closed (hr.mono (by decide)) (by rfl) D_is_closed.m D_is_closed.k D_is_closed.b (va_cons (vv 0) (va_cons (vv 2) va_nil)))))))) (ss_one (s_set (i := 2) (by decide) sc.nd rfl (by first | exact Or.inl rfl | exact Or.inr rfl) (v_call G_sums (hr.mono (by decide)) (by rfl) D_sums.m D_sums.k D_sums.b (va_cons (vv 0) (va_cons (vv 2) (va_cons (v_callB (c_sortT hu) (by rfl) T.n_sorted bt_sorted (va_cons (v_op o_add (v_op o_mul (v_lst (va_cons (v_call G_nought (hr.mono (by decide)) (by rfl) D_nought.m D_nought.k D_nought.b (va_cons (vv 0) va_nil)) va_nil)) (v_callTy c_int (by rfl) T.n_int bt_int (va_cons (v_cmp (o_ne hu) (vv 3) (v_call G_nought (hr.mono (by decide)) (by rfl) D_nought.m D_nought.k D_nought.b (va_cons (vv 0) va_nil)) (nomark _)) va_nil))) (v_lst (va_cons (vv 3) va_nil))) va_nil)) va_nil)))))))))
    (ss_one (s_ret (vv 2)))))


abbrev st_sides : Stmt := PySem.Challenge.pw_dialheaps_k12_whole_closed_sets_and_side.main.body.getD 9 (.Pass ⟨0, 0, 0, 0⟩)
abbrev N_sides : List Str := ["dial", "some", "found", "mark", "side"]
theorem sc_sides : FnScope N_sides ["dial", "some"] (defScope st_sides) := ⟨rfl, rfl, rfl, by decide +kernel, rfl, by decide +kernel, by decide +kernel⟩
def w_sides : WS := (sSeq (sSet 2 (eLstO aNil))
    (sSeq (sFor (iSq (eCall φ_marks_of [.rd] (aCons (eVar 0) aNil))) (gNm 3) (sIf (tNot (tTru (eLend (eCB (cRd fAny) (aCons (eLc (iSq (eVar 2)) (gNm 4) tYesV (eOp (oRd dIn) (eVar 3) (eVar 4)) [4]) aNil))))) (sExp (eMt "list" mAppendE (eVar 2) (aCons (eCall φ_sums [.rd, .rd, .rd] (aCons (eVar 0) (aCons (eVar 1) (aCons (eLst (aCons (eVar 3) aNil)) aNil)))) aNil))) sNil))
    (sRet (eVar 2))))


def φ_sides : FS := fun es Q _ => ∃ (d : DialT) (A : List (Mk d)), es = [.bor (tupI d.1), .bor (hpD A)] ∧ Q (.lst ((sideL A).map fun s => Ent.own (s.map encM))) []
theorem h_sides : ∀ es Q E, φ_sides es Q E → es.length = ([.rd, .rd] : List Mode).length → w_sides (startS N_sides.length es) (endP [.rd, .rd] Q fun _ _ => False) := by
  rintro es Q E ⟨d, A, rfl, hQ⟩ -
  refine ⟨nl, d, rfl, ?_⟩
  refine wFor_allE (xs := allK d) (ι := fun m => .shr (encM m)) (fun pre s => ∃ (x3 : Option Ent), s = [some (.bor (tupI d.1)), some (.bor (hpD A)), some (.lst ((pre.foldl (sideF A) []).map fun s => Ent.own (s.map encM))), x3, none]) (shr_encM _) ?_ ⟨_, rfl⟩ ?_
  · rintro pre m post _ K hx ⟨x3, rfl⟩ hK
    obtain ⟨f, ef⟩ : ∃ f, f = pre.foldl (sideF A) [] := ⟨_, rfl⟩
    rw [List.foldl_append, List.foldl_cons, List.foldl_nil, ← ef] at hK
    rw [← ef]
    have h1 := sideF_len A pre []
    have h2 := congrArg List.length hx
    have h3 := allK_len d
    rw [← ef] at h1
    simp only [List.length_append, List.length_cons, List.length_nil] at h1 h2
    refine ⟨_, dats_own f, Or.inr ?_⟩
    refine wLc_mapE (xs := f) (ι := fun s => .bor (hpD s)) (fun s => .bool (decide (m ∈ s))) (fun s => s = [some (.bor (tupI d.1)), some (.bor (hpD A)), some (.bor (.list (f.map hpD))), some (.shr (encM m)), none]) (by rw [List.map_map]; rfl) ?_ (small_sz (by omega)) rfl ?_
    · rintro t ht _ acc K2 ha rfl hK2
      refine ⟨dok_encM 7 _, dok_heap 6 _, ?_⟩
      rw [any_encM]
      exact ⟨trivial, ha, hK2 _ rfl⟩
    · rintro _ rfl
      refine ⟨f.map fun s => decide (m ∈ s), by rw [List.map_map]; rfl, ?_⟩
      rw [List.any_map, show (f.any (id ∘ fun s => decide (m ∈ s))) = f.any (fun s => decide (m ∈ s)) from rfl]
      unfold sideF at hK
      cases hb : f.any fun s => decide (m ∈ s) with
      | true =>
        rw [hb, if_pos rfl] at hK
        exact ⟨trivial, trivial, hK _ ⟨_, rfl⟩⟩
      | false =>
        rw [hb, if_neg (by simp), List.map_append] at hK
        refine ⟨trivial, trivial, _, dats_own f, rfl, nl, d, A, [m], rfl, ?_⟩
        exact ⟨of_small (by rw [List.length_map]; omega), hK _ ⟨_, rfl⟩⟩
  · rintro _ ⟨x3, rfl⟩
    exact ⟨nbs_own _, hQ⟩


theorem ok_sides {P : Program} {w : World} {K : PySem.W.Frag} {mg : Str → Option Value} {base : Heap} (T : Txt mg) {f : Addr} {fd : FuncData} (D : FD K mg "sides" "sides" st_sides ["dial", "some"] f fd) {f_marks_of : Addr} {fd_marks_of : FuncData} (D_marks_of : FD K mg "marks_of" "marks_of" st_marks_of ["dial"] f_marks_of fd_marks_of) (G_marks_of : FnOk P w K mg base CX0 1 f_marks_of fd_marks_of ["dial"] (spOf ⟨P, w, K⟩ [.rd] φ_marks_of)) {f_sums : Addr} {fd_sums : FuncData} (D_sums : FD K mg "sums" "sums" st_sums ["dial", "one", "other"] f_sums fd_sums) (G_sums : FnOk P w K mg base CX0 2 f_sums fd_sums ["dial", "one", "other"] (spOf ⟨P, w, K⟩ [.rd, .rd, .rd] φ_sums)) : FnOk P w K mg base CX0 3 f fd ["dial", "some"] (spOf ⟨P, w, K⟩ [.rd, .rd] φ_sides) := by
  refine fn_v (k := 2) (wb := w_sides) D.F sc_sides rfl h_sides fun cdv A outer s H E hr => ?_
  have sc := sc_sides
  have hu := hu64 hr
  exact (ss_cons (s_set (i := 2) (by decide) sc.nd rfl (by first | exact Or.inl rfl | exact Or.inr rfl) (v_lstO va_nil))
    (ss_cons (s_for (ss := [3]) PassesOwn.never rfl (i_seq (v_call G_marks_of (hr.mono (by decide)) (by rfl) D_marks_of.m D_marks_of.k D_marks_of.b (va_cons (vv 0) va_nil))) (g_name (i := 3) (by decide) (by decide) sc.nd rfl (by first | exact Or.inl rfl | exact Or.inr rfl)) (ss_one (s_if (vt_not (vt_truth (v_lend (v_callB (c_any rfl) (by rfl) T.n_any bt_any (va_cons (v_lc rfl sc.nd (own := [("side", 4)]) (i_seq (vv 2)) (show BlkOk N_sides (defScope st_sides) _ [("side", 4)] from ⟨rfl, by decide +kernel, by decide +kernel, by decide +kernel, by decide +kernel⟩) (fun _ _ _ _ _ => (g_name (i := 4) (by decide) (by decide) sc.nd rfl (by first | exact Or.inl rfl | exact Or.inr rfl))) (fun _ _ _ _ _ => vts_nil) (fun _ _ _ _ _ => (v_cmp (o_in hu) (vv 3) (vv 4) (by rfl)))) va_nil))))) (ss_one (s_exp (v_mt PySem.F.plainAttrs_list PySem.F.slot_list_append PySem.F.type_list_append m_appendE (vv 2) (va_cons (v_call G_sums (hr.mono (by decide)) (by rfl) D_sums.m D_sums.k D_sums.b (va_cons (vv 0) (va_cons (vv 1) (va_cons (v_lst (va_cons (vv 3) va_nil)) va_nil)))) va_nil)))) ss_nil)))
    (ss_one (s_ret (vv 2)))))


abbrev st__law_deck : Stmt := PySem.Challenge.pw_dialheaps_k12_whole_closed_sets_and_side.main.body.getD 11 (.Pass ⟨0, 0, 0, 0⟩)
abbrev N__law_deck : List Str := ["cell", "turn"]
theorem sc__law_deck : FnScope N__law_deck ["cell", "turn"] (defScope st__law_deck) := ⟨rfl, rfl, rfl, by decide +kernel, rfl, by decide +kernel, by decide +kernel⟩
def w__law_deck : WS := (sSeq (sIf (tB (eOp (oRd dGe) (eVar 0) (eOp (oRd dPow) (eC (.int 10)) (eC (.int 18))))) (sRet (eLst (aCons (eOp (oRd dSub) (eVar 0) (eOp (oRd dPow) (eC (.int 10)) (eC (.int 18)))) (aCons (eOp (oRd dMod) (eVar 0) (eC (.int 2147483579))) (aCons (eVar 1) aNil))))) sNil)
    (sRet (eLst (aCons (eC (.int 0)) (aCons (eOp (oRd dMod) (eVar 0) (eC (.int 2147483579))) (aCons (eVar 1) aNil))))))


def φ__law_deck : FS := fun es Q _ => ∃ cell turn : Int, es = [.bor (.int cell), .bor (.int turn)] ∧ 0 ≤ turn ∧ ∀ a b c : Int, Dk b c turn → Q (deckE a b c) []
theorem h__law_deck : ∀ es Q E, φ__law_deck es Q E → es.length = ([.rd, .rd] : List Mode).length → w__law_deck (startS N__law_deck.length es) (endP [.rd, .rd] Q fun _ _ => False) := by
  rintro es Q E ⟨cell, turn, rfl, ht, hQ⟩ -
  have h1 := Int.emod_nonneg cell (show (2147483579 : Int) ≠ 0 by decide)
  have h2 := Int.emod_lt_of_pos cell (show (0 : Int) < 2147483579 by decide)
  refine ⟨⟨by decide, by decide, by decide⟩, trivial, trivial, ite2 (fun _ => ?_) fun _ => ?_⟩
  · exact ⟨⟨by decide, by decide, by decide⟩, trivial, trivial, by decide, trivial, nl, trivial, trivial, hQ _ _ _ ⟨h1, h2, ht, Int.le_refl _⟩⟩
  · exact ⟨by decide, trivial, nl, trivial, trivial, hQ _ _ _ ⟨h1, h2, ht, Int.le_refl _⟩⟩


theorem ok__law_deck {P : Program} {w : World} {K : PySem.W.Frag} {mg : Str → Option Value} {base : Heap} (T : Txt mg) {f : Addr} {fd : FuncData} (D : FD K mg "_law_deck" "_law_deck" st__law_deck ["cell", "turn"] f fd) : FnOk P w K mg base CX0 1 f fd ["cell", "turn"] (spOf ⟨P, w, K⟩ [.rd, .rd] φ__law_deck) := by
  refine fn_v (k := 0) (wb := w__law_deck) D.F sc__law_deck rfl h__law_deck fun cdv A outer s H E hr => ?_
  have sc := sc__law_deck
  have hu := hu64 hr
  exact (ss_cons (s_if (vt_cmp o_ge (vv 0) (v_op o_pow v_int v_int) (nomark _)) (ss_one (s_ret (v_lst (va_cons (v_op o_sub (vv 0) (v_op o_pow v_int v_int)) (va_cons (v_op o_mod (vv 0) v_int) (va_cons (vv 1) va_nil)))))) ss_nil)
    (ss_one (s_ret (v_lst (va_cons v_int (va_cons (v_op o_mod (vv 0) v_int) (va_cons (vv 1) va_nil)))))))


abbrev st__law_pick : Stmt := PySem.Challenge.pw_dialheaps_k12_whole_closed_sets_and_side.main.body.getD 12 (.Pass ⟨0, 0, 0, 0⟩)
abbrev N__law_pick : List Str := ["deck", "many", "number", "found"]
theorem sc__law_pick : FnScope N__law_pick ["deck", "many"] (defScope st__law_pick) := ⟨rfl, rfl, rfl, by decide +kernel, rfl, by decide +kernel, by decide +kernel⟩
def w__law_pick : WS := (sSeq (sIf (tB (eOp (oRd dGt) (eOp oIx (eVar 0) (eC (.int 0))) (eC (.int 1)))) (sSeq (sSet 3 (eOp (oRd dMod) (eOp oIx (eVar 0) (eC (.int 0))) (eVar 1)))
    (sSeq (sAsg (eOp (oRd dDiv) (eOp oIx (eVar 0) (eC (.int 0))) (eVar 1)) (gIx (eVar 0) (eC (.int 0))))
    (sRet (eVar 3)))) sNil)
    (sSeq (sAsg (eOp oAdd (eOp oIx (eVar 0) (eC (.int 2))) (eC (.int 1))) (gIx (eVar 0) (eC (.int 2))))
    (sSeq (sSet 2 (eOp (oRd dMod) (eOp (oRd dPow) (eOp oAdd (eOp oIx (eVar 0) (eC (.int 1))) (eOp oMul (eC (.int 15485867)) (eOp oIx (eVar 0) (eC (.int 2))))) (eC (.int 5))) (eC (.int 2147483647))))
    (sSeq (sSet 3 (eOp (oRd dDiv) (eOp (oRd dMod) (eOp (oRd dPow) (eOp oAdd (eVar 2) (eOp oMul (eC (.int 7919)) (eOp oIx (eVar 0) (eC (.int 2))))) (eC (.int 3))) (eC (.int 2147483629))) (eC (.int 32))))
    (sSeq (sIf (tB (eOp (oRd dGt) (eVar 1) (eC (.int 1000000)))) (sRet (eOp (oRd dMod) (eOp oAdd (eOp oMul (eVar 3) (eC (.int 2147483563))) (eVar 2)) (eVar 1))) sNil)
    (sRet (eOp (oRd dMod) (eVar 3) (eVar 1))))))))


def φ__law_pick : FS := fun es Q _ => ∃ a b c n many : Int, es = [deckE a b c, .bor (.int many)] ∧ Dk b c n ∧ n < 1000000 ∧ 0 < many ∧ many < 2 ^ 100 ∧
  ∀ a' c' r : Int, Dk b c' (n + 1) → 0 ≤ r → r < many → Q (.shr (.int r)) [deckE a' b c']
theorem h__law_pick : ∀ es Q E, φ__law_pick es Q E → es.length = ([.mu, .rd] : List Mode).length → w__law_pick (startS N__law_pick.length es) (endP [.mu, .rd] Q fun _ _ => False) := by
  rintro es Q E ⟨a, b, c, nn, many, rfl, ⟨hb, hb2, hc, hcn⟩, hn, hm, hm2, hQ⟩ -
  have hml : many.natAbs.log2 < 9000 := by have := log_small (a := many) (k := 100) (by omega); omega
  have md : ∀ x : Int, 0 ≤ x % many ∧ x % many < many := fun x => ⟨Int.emod_nonneg x (by omega), Int.emod_lt_of_pos x hm⟩
  refine ⟨_, rfl, trivial, ite2 (fun _ => ?_) fun _ => ?_⟩
  · refine ⟨_, rfl, hm, trivial, _, rfl, ⟨hm, hml⟩, trivial, 0, rfl, trivial, trivial, ?_⟩
    exact hQ _ c _ ⟨hb, hb2, hc, by omega⟩ (md a).1 (md a).2
  · refine ⟨_, rfl, 2, rfl, _, rfl, _, rfl, mulA_small (by decide) (by omega), ⟨by decide, by decide, by omega⟩, trivial, by decide, trivial, ?_⟩
    have n1 := Int.emod_nonneg ((b + 15485867 * (c + 1)) ^ (5 : Int).toNat) (show (2147483647 : Int) ≠ 0 by decide)
    have n2 := Int.emod_lt_of_pos ((b + 15485867 * (c + 1)) ^ (5 : Int).toNat) (show (0 : Int) < 2147483647 by decide)
    revert n1 n2
    generalize (b + 15485867 * (c + 1)) ^ (5 : Int).toNat % 2147483647 = n
    intro n1 n2
    refine ⟨_, rfl, mulA_small (by decide) (by omega), ⟨by decide, by decide, by omega⟩, trivial, by decide, trivial, ⟨by decide, by decide⟩, trivial, ?_⟩
    have f1 := Int.emod_nonneg ((n + 7919 * (c + 1)) ^ (3 : Int).toNat) (show (2147483629 : Int) ≠ 0 by decide)
    have f2 := Int.emod_lt_of_pos ((n + 7919 * (c + 1)) ^ (3 : Int).toNat) (show (0 : Int) < 2147483629 by decide)
    revert f1 f2
    generalize (n + 7919 * (c + 1)) ^ (3 : Int).toNat % 2147483629 = f
    intro f1 f2
    refine ⟨trivial, ite2 (fun _ => ?_) fun _ => ?_⟩
    · refine ⟨mulA_small (by omega) (by decide), hm, trivial, trivial, trivial, ?_⟩
      exact hQ _ _ _ ⟨hb, hb2, by omega, by omega⟩ (md _).1 (md _).2
    · refine ⟨hm, trivial, trivial, trivial, ?_⟩
      exact hQ _ _ _ ⟨hb, hb2, by omega, by omega⟩ (md _).1 (md _).2


theorem ok__law_pick {P : Program} {w : World} {K : PySem.W.Frag} {mg : Str → Option Value} {base : Heap} (T : Txt mg) {f : Addr} {fd : FuncData} (D : FD K mg "_law_pick" "_law_pick" st__law_pick ["deck", "many"] f fd) : FnOk P w K mg base CX0 1 f fd ["deck", "many"] (spOf ⟨P, w, K⟩ [.mu, .rd] φ__law_pick) := by
  refine fn_v (k := 0) (wb := w__law_pick) D.F sc__law_pick rfl h__law_pick fun cdv A outer s H E hr => ?_
  have sc := sc__law_pick
  have hu := hu64 hr
  exact (ss_cons (s_if (vt_cmp o_gt (v_ix (vv 0) v_int (fun _ _ => rfl)) v_int (nomark _)) (ss_cons (s_set (i := 3) (by decide) sc.nd rfl (by first | exact Or.inl rfl | exact Or.inr rfl) (v_op o_mod (v_ix (vv 0) v_int (fun _ _ => rfl)) (vv 1)))
    (ss_cons (s_asg (ss := []) (v_op o_div (v_ix (vv 0) v_int (fun _ _ => rfl)) (vv 1)) (g_ix (vv 0) v_int))
    (ss_one (s_ret (vv 3))))) ss_nil)
    (ss_cons (s_asg (ss := []) (v_op o_add (v_ix (vv 0) v_int (fun _ _ => rfl)) v_int) (g_ix (vv 0) v_int))
    (ss_cons (s_set (i := 2) (by decide) sc.nd rfl (by first | exact Or.inl rfl | exact Or.inr rfl) (v_op o_mod (v_op o_pow (v_op o_add (v_ix (vv 0) v_int (fun _ _ => rfl)) (v_op o_mul v_int (v_ix (vv 0) v_int (fun _ _ => rfl)))) v_int) v_int))
    (ss_cons (s_set (i := 3) (by decide) sc.nd rfl (by first | exact Or.inl rfl | exact Or.inr rfl) (v_op o_div (v_op o_mod (v_op o_pow (v_op o_add (vv 2) (v_op o_mul v_int (v_ix (vv 0) v_int (fun _ _ => rfl)))) v_int) v_int) v_int))
    (ss_cons (s_if (vt_cmp o_gt (vv 1) v_int (nomark _)) (ss_one (s_ret (v_op o_mod (v_op o_add (v_op o_mul (vv 3) v_int) (vv 2)) (vv 1)))) ss_nil)
    (ss_one (s_ret (v_op o_mod (vv 3) (vv 1)))))))))


abbrev st__law_dial : Stmt := PySem.Challenge.pw_dialheaps_k12_whole_closed_sets_and_side.main.body.getD 13 (.Pass ⟨0, 0, 0, 0⟩)
abbrev N__law_dial : List Str := ["deck", "some"]
theorem sc__law_dial : FnScope N__law_dial ["deck"] (defScope st__law_dial) := ⟨rfl, rfl, rfl, by decide +kernel, rfl, by decide +kernel, by decide +kernel⟩
def w__law_dial : WS := (sSeq (sSet 1 (eLst (aCons (eTup (aCons (eC (.int 2)) aNil)) (aCons (eTup (aCons (eC (.int 3)) aNil)) (aCons (eTup (aCons (eC (.int 6)) aNil)) (aCons (eTup (aCons (eC (.int 7)) aNil)) (aCons (eTup (aCons (eC (.int 12)) aNil)) (aCons (eTup (aCons (eOp oAdd (eC (.int 2)) (eCall φ__law_pick [.mu, .rd] (aCons (eVar 0) (aCons (eC (.int 39)) aNil)))) aNil)) (aCons (eTup (aCons (eC (.int 2)) (aCons (eC (.int 2)) aNil))) (aCons (eTup (aCons (eC (.int 2)) (aCons (eC (.int 4)) aNil))) (aCons (eTup (aCons (eC (.int 3)) (aCons (eC (.int 3)) aNil))) (aCons (eTup (aCons (eC (.int 2)) (aCons (eC (.int 6)) aNil))) (aCons (eTup (aCons (eC (.int 3)) (aCons (eC (.int 6)) aNil))) (aCons (eTup (aCons (eC (.int 4)) (aCons (eC (.int 4)) aNil))) aNil))))))))))))))
    (sSeq (sSet 1 (eOp oAdd (eVar 1) (eLst (aCons (eTup (aCons (eC (.int 4)) (aCons (eC (.int 8)) aNil))) (aCons (eTup (aCons (eC (.int 2)) (aCons (eC (.int 20)) aNil))) (aCons (eTup (aCons (eC (.int 5)) (aCons (eC (.int 5)) aNil))) (aCons (eTup (aCons (eC (.int 6)) (aCons (eC (.int 6)) aNil))) (aCons (eTup (aCons (eC (.int 2)) (aCons (eOp oAdd (eC (.int 2)) (eOp oMul (eC (.int 2)) (eCall φ__law_pick [.mu, .rd] (aCons (eVar 0) (aCons (eC (.int 10)) aNil))))) aNil))) (aCons (eTup (aCons (eC (.int 3)) (aCons (eOp oAdd (eC (.int 3)) (eOp oMul (eC (.int 3)) (eCall φ__law_pick [.mu, .rd] (aCons (eVar 0) (aCons (eC (.int 4)) aNil))))) aNil))) aNil)))))))))
    (sRet (eOp oIx (eVar 1) (eCall φ__law_pick [.mu, .rd] (aCons (eVar 0) (aCons (eC (.int 18)) aNil)))))))


def φ__law_dial : FS := fun es Q _ => ∃ a b c n : Int, es = [deckE a b c] ∧ Dk b c n ∧ n < 100000 ∧ ∀ (a' c' : Int) (d : DialT), Dk b c' (n + 4) → Q (.shr (tupI d.1)) [deckE a' b c']
theorem h__law_dial : ∀ es Q E, φ__law_dial es Q E → es.length = ([.mu] : List Mode).length → w__law_dial (startS N__law_dial.length es) (endP [.mu] Q fun _ _ => False) := by
  rintro es Q E ⟨a, b, c, n, rfl, hk, hn, hQ⟩ -
  refine ⟨nl, nl, nl, nl, nl, trivial, a, b, c, n, 39, rfl, hk, by omega, by decide, by decide, fun a1 c1 r1 k1 p3 p4 => ?_⟩
  refine ⟨nl, nl, nl, nl, nl, nl, nl, nl, nl, nl, nl, nl, trivial, a1, b, c1, n + 1, 10, rfl, k1, by omega, by decide, by decide, fun a2 c2 r2 k2 q3 q4 => ?_⟩
  refine ⟨mulA_small (by decide) (by omega), nl, trivial, a2, b, c2, n + 1 + 1, 4, rfl, k2, by omega, by decide, by decide, fun a3 c3 r3 k3 t3 t4 => ?_⟩
  refine ⟨mulA_small (by decide) (by omega), nl, nl, small_sz nl, trivial, a3, b, c3, n + 1 + 1 + 1, 18, rfl, k3, by omega, by decide, by decide, fun a4 c4 r4 k4 u3 u4 => ?_⟩
  obtain ⟨d, hd, hat⟩ := atI_in (xs := ([[2], [3], [6], [7], [12], [2 + r1], [2, 2], [2, 4], [3, 3], [2, 6], [3, 6], [4, 4], [4, 8], [2, 20], [5, 5], [6, 6], [2, 2 + 2 * r2], [3, 3 + 3 * r3]] : List (List Int)).map tupI) u3 u4
  obtain ⟨dial, hm, rfl⟩ := List.mem_map.mp hd
  refine ⟨_, hat, trivial, trivial, ?_⟩
  simp only [List.mem_cons, List.not_mem_nil, or_false] at hm
  have hgd : Dial dial := by
    refine ⟨?_, ?_, ?_⟩
    · unfold Good
      rcases hm with rfl | rfl | rfl | rfl | rfl | rfl | rfl | rfl | rfl | rfl | rfl | rfl | rfl | rfl | rfl | rfl | rfl | rfl <;>
        (refine ⟨nofun, nl, fun s hs => ?_⟩; simp only [List.mem_cons, List.not_mem_nil, or_false] at hs; omega)
    · rcases hm with rfl | rfl | rfl | rfl | rfl | rfl | rfl | rfl | rfl | rfl | rfl | rfl | rfl | rfl | rfl | rfl | rfl | rfl <;>
        first | exact divD1 _ | exact divD2 (by omega)
    · rcases hm with rfl | rfl | rfl | rfl | rfl | rfl | rfl | rfl | rfl | rfl | rfl | rfl | rfl | rfl | rfl | rfl | rfl | rfl <;>
        (simp only [prodM, List.foldr_cons, List.foldr_nil, Int.mul_one]; omega)
  exact hQ a4 c4 ⟨dial, hgd⟩ (k4.up (by omega))


theorem ok__law_dial {P : Program} {w : World} {K : PySem.W.Frag} {mg : Str → Option Value} {base : Heap} (T : Txt mg) {f : Addr} {fd : FuncData} (D : FD K mg "_law_dial" "_law_dial" st__law_dial ["deck"] f fd) {f__law_pick : Addr} {fd__law_pick : FuncData} (D__law_pick : FD K mg "_law_pick" "_law_pick" st__law_pick ["deck", "many"] f__law_pick fd__law_pick) (G__law_pick : FnOk P w K mg base CX0 1 f__law_pick fd__law_pick ["deck", "many"] (spOf ⟨P, w, K⟩ [.mu, .rd] φ__law_pick)) : FnOk P w K mg base CX0 2 f fd ["deck"] (spOf ⟨P, w, K⟩ [.mu] φ__law_dial) := by
  refine fn_v (k := 1) (wb := w__law_dial) D.F sc__law_dial rfl h__law_dial fun cdv A outer s H E hr => ?_
  have sc := sc__law_dial
  have hu := hu64 hr
  exact (ss_cons (s_set (i := 1) (by decide) sc.nd rfl (by first | exact Or.inl rfl | exact Or.inr rfl) (v_lst (va_cons (v_tup (va_cons v_int va_nil)) (va_cons (v_tup (va_cons v_int va_nil)) (va_cons (v_tup (va_cons v_int va_nil)) (va_cons (v_tup (va_cons v_int va_nil)) (va_cons (v_tup (va_cons v_int va_nil)) (va_cons (v_tup (va_cons (v_op o_add v_int (v_call G__law_pick (hr.mono (by decide)) (by rfl) D__law_pick.m D__law_pick.k D__law_pick.b (va_cons (vv 0) (va_cons v_int va_nil)))) va_nil)) (va_cons (v_tup (va_cons v_int (va_cons v_int va_nil))) (va_cons (v_tup (va_cons v_int (va_cons v_int va_nil))) (va_cons (v_tup (va_cons v_int (va_cons v_int va_nil))) (va_cons (v_tup (va_cons v_int (va_cons v_int va_nil))) (va_cons (v_tup (va_cons v_int (va_cons v_int va_nil))) (va_cons (v_tup (va_cons v_int (va_cons v_int va_nil))) va_nil))))))))))))))
    (ss_cons (s_set (i := 1) (by decide) sc.nd rfl (by first | exact Or.inl rfl | exact Or.inr rfl) (v_op o_add (vv 1) (v_lst (va_cons (v_tup (va_cons v_int (va_cons v_int va_nil))) (va_cons (v_tup (va_cons v_int (va_cons v_int va_nil))) (va_cons (v_tup (va_cons v_int (va_cons v_int va_nil))) (va_cons (v_tup (va_cons v_int (va_cons v_int va_nil))) (va_cons (v_tup (va_cons v_int (va_cons (v_op o_add v_int (v_op o_mul v_int (v_call G__law_pick (hr.mono (by decide)) (by rfl) D__law_pick.m D__law_pick.k D__law_pick.b (va_cons (vv 0) (va_cons v_int va_nil))))) va_nil))) (va_cons (v_tup (va_cons v_int (va_cons (v_op o_add v_int (v_op o_mul v_int (v_call G__law_pick (hr.mono (by decide)) (by rfl) D__law_pick.m D__law_pick.k D__law_pick.b (va_cons (vv 0) (va_cons v_int va_nil))))) va_nil))) va_nil)))))))))
    (ss_one (s_ret (v_ix (vv 1) (v_call G__law_pick (hr.mono (by decide)) (by rfl) D__law_pick.m D__law_pick.k D__law_pick.b (va_cons (vv 0) (va_cons v_int va_nil))) (fun _ _ => rfl))))))


abbrev st__law_mark : Stmt := PySem.Challenge.pw_dialheaps_k12_whole_closed_sets_and_side.main.body.getD 14 (.Pass ⟨0, 0, 0, 0⟩)
abbrev N__law_mark : List Str := ["deck", "dial", "far", "size"]
theorem sc__law_mark : FnScope N__law_mark ["deck", "dial"] (defScope st__law_mark) := ⟨rfl, rfl, rfl, by decide +kernel, rfl, by decide +kernel, by decide +kernel⟩
def w__law_mark : WS := (sSeq (sSet 2 (eOp oIx (eLst (aCons (eC (.int 1)) (aCons (eC (.int 2)) (aCons (eC (.int 40)) aNil)))) (eCall φ__law_pick [.mu, .rd] (aCons (eVar 0) (aCons (eC (.int 3)) aNil)))))
    (sRet (eCB cTup (aCons (eLc (iSq (eVar 1)) (gNm 3) tYesV (eCall φ__law_pick [.mu, .rd] (aCons (eVar 0) (aCons (eOp oAdd (eCB (cRd fMin2) (aCons (eVar 2) (aCons (eOp (oRd dSub) (eVar 3) (eC (.int 1))) aNil))) (eC (.int 1))) aNil))) [3]) aNil))))


def φ__law_mark : FS := fun es Q _ => ∃ (a b c n : Int) (d : DialT), es = [deckE a b c, .bor (tupI d.1)] ∧ Dk b c n ∧ n < 100000 ∧ ∀ (a' c' : Int) (m : Mk d), Dk b c' (n + 3) → Q (.shr (encM m)) [deckE a' b c']
theorem h__law_mark : ∀ es Q E, φ__law_mark es Q E → es.length = ([.mu, .rd] : List Mode).length → w__law_mark (startS N__law_mark.length es) (endP [.mu, .rd] Q fun _ _ => False) := by
  rintro es Q E ⟨a, b, c, n, dl, rfl, hk, hn, hQ⟩ -
  obtain ⟨dial, hdl⟩ := dl
  simp only at hQ ⊢
  have hg := hdl.good
  refine ⟨nl, trivial, a, b, c, n, 3, rfl, hk, by omega, by decide, by decide, fun a1 c1 r1 k1 p3 p4 => ?_⟩
  obtain ⟨d, hd, hat⟩ := atI_in (xs := ([1, 2, 40] : List Int).map PyData.int) p3 p4
  obtain ⟨far, hf, rfl⟩ := List.mem_map.mp hd
  have hf : 1 ≤ far ∧ far ≤ 40 := by
    simp only [List.mem_cons, List.not_mem_nil, or_false] at hf
    omega
  refine ⟨_, hat, Or.inl ⟨sols_ints _, ?_⟩⟩
  refine wLc_relE (fun pre acc s => ∃ (a' c' : Int) (ms : List Int), s = [some (deckE a' b c'), some (.bor (tupI dial)), some (shI far), none] ∧ acc = ms.map .int ∧ MarkOf pre ms ∧ Dk b c' (n + 1 + pre.length)) (shr_ints dial) ?_ (small_sz (by have := hg.2.1; omega)) ⟨a1, c1, [], rfl, rfl, .nil, by simpa using k1⟩ ?_
  · rintro pre x post _ acc K hx ha ⟨a', c', ms, rfl, rfl, hm, l1⟩ hK
    have h2 := hg.2.2 x (by rw [hx]; simp)
    have l3 := congrArg List.length hx
    simp only [List.length_append, List.length_cons] at l3
    have l4 := hg.2.1
    refine ⟨trivial, trivial, trivial, a', b, c', _, _, rfl, l1, by omega, ?_, ?_, fun a2 c2 r k2 q3 q4 => ⟨ha, hK _ _ ⟨a2, c2, ms ++ [r], rfl, by simp, hm.snoc q3 (by split at q4 <;> omega), by
      have e : n + 1 + (((pre ++ [x]).length : Nat) : Int) = n + 1 + ((pre.length : Nat) : Int) + 1 := by simp; omega
      rw [e]; exact k2⟩⟩⟩
    · split <;> omega
    · split <;> omega
  · rintro acc s ⟨a', c', ms, rfl, rfl, hm, l1⟩
    exact ⟨trivial, trivial, hQ a' c' ⟨ms, hm⟩ (l1.up (by have := hg.2.1; omega))⟩


theorem ok__law_mark {P : Program} {w : World} {K : PySem.W.Frag} {mg : Str → Option Value} {base : Heap} (T : Txt mg) {f : Addr} {fd : FuncData} (D : FD K mg "_law_mark" "_law_mark" st__law_mark ["deck", "dial"] f fd) {f__law_pick : Addr} {fd__law_pick : FuncData} (D__law_pick : FD K mg "_law_pick" "_law_pick" st__law_pick ["deck", "many"] f__law_pick fd__law_pick) (G__law_pick : FnOk P w K mg base CX0 1 f__law_pick fd__law_pick ["deck", "many"] (spOf ⟨P, w, K⟩ [.mu, .rd] φ__law_pick)) : FnOk P w K mg base CX0 2 f fd ["deck", "dial"] (spOf ⟨P, w, K⟩ [.mu, .rd] φ__law_mark) := by
  refine fn_v (k := 1) (wb := w__law_mark) D.F sc__law_mark rfl h__law_mark fun cdv A outer s H E hr => ?_
  have sc := sc__law_mark
  have hu := hu64 hr
  exact (ss_cons (s_set (i := 2) (by decide) sc.nd rfl (by first | exact Or.inl rfl | exact Or.inr rfl) (v_ix (v_lst (va_cons v_int (va_cons v_int (va_cons v_int va_nil)))) (v_call G__law_pick (hr.mono (by decide)) (by rfl) D__law_pick.m D__law_pick.k D__law_pick.b (va_cons (vv 0) (va_cons v_int va_nil))) (fun _ _ => rfl)))
    (ss_one (s_ret (v_callTy c_tuple (by rfl) T.n_tuple bt_tuple (va_cons (v_lc rfl sc.nd (own := [("size", 3)]) (i_seq (vv 1)) (show BlkOk N__law_mark (defScope st__law_mark) _ [("size", 3)] from ⟨rfl, by decide +kernel, by decide +kernel, by decide +kernel, by decide +kernel⟩) (fun _ _ _ _ _ => (g_name (i := 3) (by decide) (by decide) sc.nd rfl (by first | exact Or.inl rfl | exact Or.inr rfl))) (fun _ _ _ _ _ => vts_nil) (fun _ _ _ _ _ => (v_call G__law_pick (hr.mono (by decide)) (by rfl) D__law_pick.m D__law_pick.k D__law_pick.b (va_cons (vv 0) (va_cons (v_op o_add (v_callB (c_min2 rfl) (by rfl) T.n_min bt_min (va_cons (vv 2) (va_cons (v_op o_sub (vv 3) v_int) va_nil))) v_int) va_nil))))) va_nil)))))


abbrev st__law_heap : Stmt := PySem.Challenge.pw_dialheaps_k12_whole_closed_sets_and_side.main.body.getD 15 (.Pass ⟨0, 0, 0, 0⟩)
abbrev N__law_heap : List Str := ["deck", "dial", "most", "many", "found", "turn", "one", "k"]
theorem sc__law_heap : FnScope N__law_heap ["deck", "dial", "most"] (defScope st__law_heap) := ⟨rfl, rfl, rfl, by decide +kernel, rfl, by decide +kernel, by decide +kernel⟩
def w__law_heap : WS := (sSeq (sSet 3 (eOp oIx (eLst (aCons (eCall φ__law_pick [.mu, .rd] (aCons (eVar 0) (aCons (eOp oAdd (eVar 2) (eC (.int 1))) aNil))) (aCons (eCB (cRd fMin2) (aCons (eVar 2) (aCons (eCall φ__law_pick [.mu, .rd] (aCons (eVar 0) (aCons (eC (.int 7)) aNil))) aNil))) (aCons (eVar 2) aNil)))) (eCB (cRd fMax2) (aCons (eC (.int 0)) (aCons (eOp (oRd dSub) (eCall φ__law_pick [.mu, .rd] (aCons (eVar 0) (aCons (eC (.int 6)) aNil))) (eC (.int 3))) aNil)))))
    (sSeq (sSet 4 (eLc (iRg1 (aCons (eVar 3) aNil)) (gNm 7) tYesV (eCall φ__law_mark [.mu, .rd] (aCons (eVar 0) (aCons (eVar 1) aNil))) [7]))
    (sSeq (sFor (iRg1 (aCons (eOp oMul (eCall φ__law_pick [.mu, .rd] (aCons (eVar 0) (aCons (eC (.int 3)) aNil))) (eCB (cRd fInt) (aCons (eOp (oRd dGt) (eVar 3) (eC (.int 0))) aNil))) aNil)) (gNm 5) (sSeq (sSet 6 (eOp oIx (eVar 4) (eCall φ__law_pick [.mu, .rd] (aCons (eVar 0) (aCons (eVar 3) aNil)))))
    (sFor (iRg1 (aCons (eVar 3) aNil)) (gNm 7) (sIf (tB (eOp (oRd dEq) (eCall φ__law_pick [.mu, .rd] (aCons (eVar 0) (aCons (eC (.int 3)) aNil))) (eC (.int 0)))) (sAsg (eVar 6) (gIx (eVar 4) (eVar 7))) sNil))))
    (sRet (eVar 4)))))


def φ__law_heap : FS := fun es Q _ => ∃ (a b c n most : Int) (d : DialT), es = [deckE a b c, .bor (tupI d.1), .bor (.int most)] ∧ Dk b c n ∧ n < 50000 ∧ 1 ≤ most ∧ most ≤ 60 ∧ ∀ (a' c' : Int) (h : List (Mk d)), (h.length : Int) ≤ most → Dk b c' (n + 1000) → Q (.own (h.map encM)) [deckE a' b c']
theorem h__law_heap : ∀ es Q E, φ__law_heap es Q E → es.length = ([.mu, .rd, .rd] : List Mode).length → w__law_heap (startS N__law_heap.length es) (endP [.mu, .rd, .rd] Q fun _ _ => False) := by
  rintro es Q E ⟨a, b, c, n, most, d, rfl, hk, hn, hm1, hm2, hQ⟩ -
  refine ⟨trivial, a, b, c, n, _, rfl, hk, by omega, by omega, by omega, fun a1 c1 r1 k1 p3 p4 => ?_⟩
  refine ⟨trivial, a1, b, c1, n + 1, 7, rfl, k1, by omega, by decide, by decide, fun a2 c2 r2 k2 q3 q4 => ?_⟩
  refine ⟨trivial, nl, trivial, trivial, a2, b, c2, n + 1 + 1, 6, rfl, k2, by omega, by decide, by decide, fun a3 c3 r3 k3 t3 t4 => ?_⟩
  refine ⟨trivial, trivial, ?_⟩
  obtain ⟨x, hx, hat⟩ := atI_in (xs := ([r1, if r2 < most then r2 else most, most] : List Int).map PyData.int) (r := if r3 - 3 > 0 then r3 - 3 else 0) (by split <;> omega) (by simp only [List.length_map, List.length_cons, List.length_nil]; split <;> omega)
  obtain ⟨many, hm, rfl⟩ := List.mem_map.mp hx
  have hmany : 0 ≤ many ∧ many ≤ most := by
    simp only [List.mem_cons, List.not_mem_nil, or_false] at hm
    rcases hm with rfl | rfl | rfl
    · omega
    · split <;> omega
    · omega
  refine ⟨_, hat, ⟨by omega, by omega⟩, ?_⟩
  obtain ⟨M, rfl⟩ : ∃ M : Nat, many = ((M : Nat) : Int) := ⟨many.toNat, by omega⟩
  refine wLc_relE (xs := List.range M) (ι := fun i => shI (0 + ((i : Nat) : Int))) (fun pre acc s => ∃ (a' c' : Int) (ms : List (Mk d)), s = [some (deckE a' b c'), some (.bor (tupI d.1)), some (.bor (.int most)), some (shI ((M : Nat) : Int)), none, none, none, none] ∧ acc = ms.map encM ∧ ms.length = pre.length ∧ Dk b c' (n + 3 + 3 * pre.length)) rfl ?_ (by rw [List.length_range]; exact small_sz (by omega)) ⟨a3, c3, [], rfl, rfl, rfl, k3.up (by simp; omega)⟩ ?_
  · rintro pre k post _ acc K hx ha ⟨a', c', ms, rfl, rfl, hl, kk⟩ hK
    have l3 := congrArg List.length hx
    simp only [List.length_append, List.length_cons, List.length_range] at l3
    refine ⟨trivial, a', b, c', _, d, rfl, kk, by omega, fun a2 c2 m k2 => ⟨ha, hK _ _ ⟨a2, c2, ms ++ [m], rfl, by simp, by simp [hl], k2.up (by simp; omega)⟩⟩⟩
  rintro acc s ⟨a4, c4, ms, rfl, rfl, hl, k4⟩
  rw [List.length_range] at hl k4
  refine ⟨trivial, a4, b, c4, _, 3, rfl, k4, by omega, by decide, by decide, fun a5 c5 r5 k5 u3 u4 => ?_⟩
  refine ⟨trivial, trivial, mulA_small (by omega) (by split <;> decide), ?_⟩
  obtain ⟨t, ht⟩ : ∃ t : Int, t = r5 * (if decide (((M : Nat) : Int) > 0) = true then 1 else 0) := ⟨_, rfl⟩
  have ht2 : 0 ≤ t ∧ t ≤ 2 ∧ (0 < t → 0 < M) := by
    by_cases hM : 0 < M
    · rw [ht, if_pos (by simpa using hM)]; omega
    · rw [ht, if_neg (by simp; omega)]; omega
  rw [← ht]
  refine ⟨⟨by omega, by omega⟩, ?_⟩
  refine wFor_allE (xs := List.range t.toNat) (ι := fun i => shI (0 + ((i : Nat) : Int))) (fun pre s => ∃ (a' c' : Int) (ms : List (Mk d)) (x5 x6 x7 : Option Ent), s = [some (deckE a' b c'), some (.bor (tupI d.1)), some (.bor (.int most)), some (shI ((M : Nat) : Int)), some (.own (ms.map encM)), x5, x6, x7] ∧ ms.length = M ∧ Dk b c' (n + 3 + 3 * M + 1 + 70 * pre.length)) rfl ?_ ⟨a5, c5, ms, _, _, _, rfl, hl, k5.up (by simp)⟩ ?_
  · rintro pre k post _ K hx ⟨a', c', ms, x5, x6, x7, rfl, hl, kk⟩ hK
    have l3 := congrArg List.length hx
    simp only [List.length_append, List.length_cons, List.length_range] at l3
    have hM := ht2.2.2 (by omega)
    refine ⟨trivial, a', b, c', _, ((M : Nat) : Int), rfl, kk, by omega, by omega, by omega, fun a6 c6 r6 k6 v3 v4 => ?_⟩
    obtain ⟨y, hy, hat2⟩ := atI_in (xs := ms.map encM) v3 (by rw [List.length_map, hl]; exact v4)
    obtain ⟨one, _, rfl⟩ := List.mem_map.mp hy
    refine ⟨_, hat2, ⟨by omega, by omega⟩, ?_⟩
    refine wFor_allE (xs := List.range M) (ι := fun i => shI (0 + ((i : Nat) : Int))) (fun pre2 s => ∃ (a' c' : Int) (ms : List (Mk d)) (x7 : Option Ent), s = [some (deckE a' b c'), some (.bor (tupI d.1)), some (.bor (.int most)), some (shI ((M : Nat) : Int)), some (.own (ms.map encM)), some (shI (0 + ((k : Nat) : Int))), some (.shr (encM one)), x7] ∧ ms.length = M ∧ Dk b c' (n + 3 + 3 * M + 1 + 70 * pre.length + 1 + pre2.length)) rfl ?_ ⟨a6, c6, ms, _, rfl, hl, k6.up (by simp)⟩ ?_
    · rintro pre2 k2 post2 _ K2 hx2 ⟨a', c', ms, x7, rfl, hl, kk⟩ hK2
      have l4 := congrArg List.length hx2
      simp only [List.length_append, List.length_cons, List.length_range] at l4
      have hk2 : k2 < M := List.mem_range.mp (by rw [hx2]; simp)
      refine ⟨trivial, a', b, c', _, 3, rfl, kk, by omega, by decide, by decide, fun a7 c7 r7 k7 w3 w4 => ?_⟩
      have k7 : Dk b c7 (n + 3 + 3 * M + 1 + 70 * pre.length + 1 + ((pre2 ++ [k2]).length : Nat)) := k7.up (by simp; omega)
      refine ⟨dok_int 8 _, dok_int 8 _, ?_⟩
      rw [eqv_int]
      by_cases e : r7 = 0
      · rw [decide_eq_true e]
        refine ⟨trivial, k2, ?_, ?_⟩
        · rw [List.length_map, hl, Int.zero_add]; exact ixN_nat hk2
        · have := hK2 _ ⟨a7, c7, ms.set k2 one, some (shI (0 + ((k2 : Nat) : Int))), rfl, by simpa using hl, k7⟩
          rw [List.map_set] at this
          exact this
      · rw [decide_eq_false e]
        exact ⟨trivial, hK2 _ ⟨a7, c7, ms, _, rfl, hl, k7⟩⟩
    · rintro _ ⟨a', c', ms, x7, rfl, hl, kk⟩
      rw [List.length_range] at kk
      exact hK _ ⟨a', c', ms, _, _, _, rfl, hl, kk.up (by simp; omega)⟩
  · rintro _ ⟨a', c', ms, x5, x6, x7, rfl, hl, kk⟩
    rw [List.length_range] at kk
    exact ⟨trivial, trivial, hQ a' c' ms (by omega) (kk.up (by omega))⟩


theorem ok__law_heap {P : Program} {w : World} {K : PySem.W.Frag} {mg : Str → Option Value} {base : Heap} (T : Txt mg) {f : Addr} {fd : FuncData} (D : FD K mg "_law_heap" "_law_heap" st__law_heap ["deck", "dial", "most"] f fd) {f__law_pick : Addr} {fd__law_pick : FuncData} (D__law_pick : FD K mg "_law_pick" "_law_pick" st__law_pick ["deck", "many"] f__law_pick fd__law_pick) (G__law_pick : FnOk P w K mg base CX0 1 f__law_pick fd__law_pick ["deck", "many"] (spOf ⟨P, w, K⟩ [.mu, .rd] φ__law_pick)) {f__law_mark : Addr} {fd__law_mark : FuncData} (D__law_mark : FD K mg "_law_mark" "_law_mark" st__law_mark ["deck", "dial"] f__law_mark fd__law_mark) (G__law_mark : FnOk P w K mg base CX0 2 f__law_mark fd__law_mark ["deck", "dial"] (spOf ⟨P, w, K⟩ [.mu, .rd] φ__law_mark)) : FnOk P w K mg base CX0 3 f fd ["deck", "dial", "most"] (spOf ⟨P, w, K⟩ [.mu, .rd, .rd] φ__law_heap) := by
  refine fn_v (k := 2) (wb := w__law_heap) D.F sc__law_heap rfl h__law_heap fun cdv A outer s H E hr => ?_
  have sc := sc__law_heap
  have hu := hu64 hr
  exact (ss_cons (s_set (i := 3) (by decide) sc.nd rfl (by first | exact Or.inl rfl | exact Or.inr rfl) (v_ix (v_lst (va_cons (v_call G__law_pick (hr.mono (by decide)) (by rfl) D__law_pick.m D__law_pick.k D__law_pick.b (va_cons (vv 0) (va_cons (v_op o_add (vv 2) v_int) va_nil))) (va_cons (v_callB (c_min2 rfl) (by rfl) T.n_min bt_min (va_cons (vv 2) (va_cons (v_call G__law_pick (hr.mono (by decide)) (by rfl) D__law_pick.m D__law_pick.k D__law_pick.b (va_cons (vv 0) (va_cons v_int va_nil))) va_nil))) (va_cons (vv 2) va_nil)))) (v_callB (c_max2 rfl) (by rfl) T.n_max bt_max (va_cons v_int (va_cons (v_op o_sub (v_call G__law_pick (hr.mono (by decide)) (by rfl) D__law_pick.m D__law_pick.k D__law_pick.b (va_cons (vv 0) (va_cons v_int va_nil))) v_int) va_nil))) (fun _ _ => rfl)))
    (ss_cons (s_setLc (i := 4) (by decide) rfl sc.nd rfl (by rfl) (sw_true rfl (by rfl) (by rfl) (by rfl)) (own := [("k", 7)]) (i_rng1 (by rfl) T.n_range (va_cons (vv 3) va_nil)) (show BlkOk N__law_heap (defScope st__law_heap) _ [("k", 7)] from ⟨rfl, by decide +kernel, by decide +kernel, by decide +kernel, by decide +kernel⟩) (fun _ _ _ _ _ => (g_name (i := 7) (by decide) (by decide) sc.nd rfl (by first | exact Or.inl rfl | exact Or.inr rfl))) (fun _ _ _ _ _ => vts_nil) (fun _ _ _ _ _ => (v_call G__law_mark (hr.mono (by decide)) (by rfl) D__law_mark.m D__law_mark.k D__law_mark.b (va_cons (vv 0) (va_cons (vv 1) va_nil)))))
    (ss_cons (s_for (ss := [5]) PassesOwn.never rfl (i_rng1 (by rfl) T.n_range (va_cons (v_op o_mul (v_call G__law_pick (hr.mono (by decide)) (by rfl) D__law_pick.m D__law_pick.k D__law_pick.b (va_cons (vv 0) (va_cons v_int va_nil))) (v_callTy c_int (by rfl) T.n_int bt_int (va_cons (v_cmp o_gt (vv 3) v_int (nomark _)) va_nil))) va_nil)) (g_name (i := 5) (by decide) (by decide) sc.nd rfl (by first | exact Or.inl rfl | exact Or.inr rfl)) (ss_cons (s_set (i := 6) (by decide) sc.nd rfl (by first | exact Or.inl rfl | exact Or.inr rfl) (v_ix (vv 4) (v_call G__law_pick (hr.mono (by decide)) (by rfl) D__law_pick.m D__law_pick.k D__law_pick.b (va_cons (vv 0) (va_cons (vv 3) va_nil))) (fun _ _ => rfl)))
    (ss_one (s_for (ss := [7]) PassesOwn.never rfl (i_rng1 (by rfl) T.n_range (va_cons (vv 3) va_nil)) (g_name (i := 7) (by decide) (by decide) sc.nd rfl (by first | exact Or.inl rfl | exact Or.inr rfl)) (ss_one (s_if (vt_cmp (o_eq hu) (v_call G__law_pick (hr.mono (by decide)) (by rfl) D__law_pick.m D__law_pick.k D__law_pick.b (va_cons (vv 0) (va_cons v_int va_nil))) v_int (nomark _)) (ss_one (s_asg (ss := []) (vv 6) (g_ix (vv 4) (vv 7)))) ss_nil))))))
    (ss_one (s_ret (vv 4))))))


abbrev st__law_all : Stmt := PySem.Challenge.pw_dialheaps_k12_whole_closed_sets_and_side.main.body.getD 16 (.Pass ⟨0, 0, 0, 0⟩)
abbrev N__law_all : List Str := ["dial", "found", "size", "longer", "mark", "place"]
theorem sc__law_all : FnScope N__law_all ["dial"] (defScope st__law_all) := ⟨rfl, rfl, rfl, by decide +kernel, rfl, by decide +kernel, by decide +kernel⟩
def w__law_all : WS := (sSeq (sSet 1 (eLst (aCons (eTup aNil) aNil)))
    (sSeq (sFor (iSq (eVar 0)) (gNm 2) (sSeq (sSet 3 (eLst aNil))
    (sSeq (sFor (iSq (eVar 1)) (gNm 4) (sExp (eMt "list" mExtend (eVar 3) (aCons (eLc (iRg1 (aCons (eVar 2) aNil)) (gNm 5) tYesV (eOp oAdd (eVar 4) (eTup (aCons (eVar 5) aNil))) [5]) aNil))))
    (sAsg (eVar 3) (gNm 1)))))
    (sRet (eVar 1))))


def φ__law_all : FS := fun es Q _ => ∃ d : DialT, es = [.bor (tupI d.1)] ∧ Q (.own ((allK d).map encM)) []
theorem h__law_all : ∀ es Q E, φ__law_all es Q E → es.length = ([.rd] : List Mode).length → w__law_all (startS N__law_all.length es) (endP [.rd] Q fun _ _ => False) := by
  rintro es Q E ⟨d, rfl, hQ⟩ -
  rw [← allK_enc] at hQ
  obtain ⟨dial, hd⟩ := d
  simp only at hQ ⊢
  have hl : dial.length ≤ 2 := hd.good.2.1
  have hs : ∀ s ∈ dial, 0 < s ∧ s ≤ 40 := fun s h => by have := hd.good.2.2 s h; omega
  refine ⟨by decide, by decide, Or.inl ⟨sols_ints _, ?_⟩⟩
  refine wFor_allE (fun pre s => ∃ x2 x4, s = [some (.bor (tupI dial)), some (.own ((allM pre).map tupI)), x2, none, x4, none]) (shr_ints dial) ?_ ⟨_, _, rfl⟩ ?_
  · rintro pre size post _ K hx ⟨x2, x4, rfl⟩ hK
    have hsz := hs size (by rw [hx]; simp)
    have ll := congrArg List.length hx
    simp only [List.length_append, List.length_cons] at ll
    have lm : ∀ m ∈ allM pre, m.length ≤ 2 := fun m hm => by
      have := allM_mem pre [[]] 0 (by simp) m hm; omega
    have lp : (allM pre).length ≤ 1600 := allM_len (fun s h => (hs s (by rw [hx]; simp [h])).2) (by have := congrArg List.length hx; simp at this; omega)
    refine ⟨by decide, ?_⟩
    refine wFor_allE (fun pre2 s => ∃ x4, s = [some (.bor (tupI dial)), some (.shr (lstT (allM pre))), some (shI size), some (.own ((pre2.flatMap (ext size)).map tupI)), x4, none]) (shr_tups (allM pre)) ?_ ⟨_, rfl⟩ ?_
    · rintro pre2 m post2 _ K2 hx2 ⟨x4, rfl⟩ hK2
      have lm := lm m (by rw [hx2]; simp)
      refine ⟨rfl, ⟨by omega, by omega⟩, ?_⟩
      refine wLc_mapE (fun i => .tuple (m.map .int ++ [.int (0 + (i : Nat))])) (fun s => s = [some (.bor (tupI dial)), some (.shr (lstT (allM pre))), some (shI size), some (.own ((pre2.flatMap (ext size)).map tupI)), some (.shr (tupI m)), none]) (rfl : rngItems 0 size.toNat = _) ?_ ?_ rfl ?_
      · rintro i hi _ acc K3 ha rfl hK3
        exact ⟨nl, small_sz (by simp only [List.length_map, List.length_cons, List.length_nil]; omega), ha, hK3 _ rfl⟩
      · rw [List.length_range]; exact small_sz (by omega)
      · rintro _ rfl
        have l2 : (pre2.flatMap (ext size)).length ≤ 1600 * 40 := by
          rw [flat_len]; exact Nat.mul_le_mul (by have := congrArg List.length hx2; simp at this; omega) (by omega)
        refine ⟨by rw [List.length_map, List.length_map, List.length_range]; exact small_sz (by omega), hK2 _ ⟨some (.shr (tupI m)), ?_⟩⟩
        rw [List.flatMap_append, List.map_append, map_ext]
        rfl
    · rintro _ ⟨x4, rfl⟩
      refine hK _ ⟨some (shI size), x4, ?_⟩
      rw [allM_snoc]; rfl
  · rintro _ ⟨x2, x4, rfl⟩
    exact ⟨trivial, hQ⟩


theorem ok__law_all {P : Program} {w : World} {K : PySem.W.Frag} {mg : Str → Option Value} {base : Heap} (T : Txt mg) {f : Addr} {fd : FuncData} (D : FD K mg "_law_all" "_law_all" st__law_all ["dial"] f fd) : FnOk P w K mg base CX0 1 f fd ["dial"] (spOf ⟨P, w, K⟩ [.rd] φ__law_all) := by
  refine fn_v (k := 0) (wb := w__law_all) D.F sc__law_all rfl h__law_all fun cdv A outer s H E hr => ?_
  have sc := sc__law_all
  have hu := hu64 hr
  exact (ss_cons (s_set (i := 1) (by decide) sc.nd rfl (by first | exact Or.inl rfl | exact Or.inr rfl) (v_lst (va_cons (v_tup va_nil) va_nil)))
    (ss_cons (s_for (ss := [2]) PassesOwn.never rfl (i_seq (vv 0)) (g_name (i := 2) (by decide) (by decide) sc.nd rfl (by first | exact Or.inl rfl | exact Or.inr rfl)) (ss_cons (s_set (i := 3) (by decide) sc.nd rfl (by first | exact Or.inl rfl | exact Or.inr rfl) (v_lst va_nil))
    (ss_cons (s_for (ss := [4]) PassesOwn.never rfl (i_seq (vv 1)) (g_name (i := 4) (by decide) (by decide) sc.nd rfl (by first | exact Or.inl rfl | exact Or.inr rfl)) (ss_one (s_exp (v_mt PySem.F.plainAttrs_list PySem.F.slot_list_extend PySem.F.type_list_extend m_extend (vv 3) (va_cons (v_lc rfl sc.nd (own := [("place", 5)]) (i_rng1 (by rfl) T.n_range (va_cons (vv 2) va_nil)) (show BlkOk N__law_all (defScope st__law_all) _ [("place", 5)] from ⟨rfl, by decide +kernel, by decide +kernel, by decide +kernel, by decide +kernel⟩) (fun _ _ _ _ _ => (g_name (i := 5) (by decide) (by decide) sc.nd rfl (by first | exact Or.inl rfl | exact Or.inr rfl))) (fun _ _ _ _ _ => vts_nil) (fun _ _ _ _ _ => (v_op o_add (vv 4) (v_tup (va_cons (vv 5) va_nil))))) va_nil)))))
    (ss_one (s_asg (ss := [1]) (vv 3) (g_name (i := 1) (by decide) (by decide) sc.nd rfl (by first | exact Or.inl rfl | exact Or.inr rfl)))))))
    (ss_one (s_ret (vv 1)))))


abbrev st__law_sum : Stmt := PySem.Challenge.pw_dialheaps_k12_whole_closed_sets_and_side.main.body.getD 17 (.Pass ⟨0, 0, 0, 0⟩)
abbrev N__law_sum : List Str := ["dial", "marks", "k", "mark"]
theorem sc__law_sum : FnScope N__law_sum ["dial", "marks"] (defScope st__law_sum) := ⟨rfl, rfl, rfl, by decide +kernel, rfl, by decide +kernel, by decide +kernel⟩
def w__law_sum : WS := (sRet (eCB cTup (aCons (eLc (iRg1 (aCons (eCB fLenL (aCons (eVar 0) aNil)) aNil)) (gNm 2) tYesV (eOp (oRd dMod) (eCB (cRd fSum) (aCons (eLc (iSq (eVar 1)) (gNm 3) tYesV (eOp oIx (eVar 3) (eVar 2)) [3]) aNil)) (eOp oIx (eVar 0) (eVar 2))) [2]) aNil)))


def φ__law_sum : FS := fun es Q _ => ∃ (d : DialT) (h : List (Mk d)), es = [.bor (tupI d.1), .bor (hpD h)] ∧ h.length ≤ 1000 ∧ Q (.shr (encM (totG h))) []
theorem h__law_sum : ∀ es Q E, φ__law_sum es Q E → es.length = ([.rd, .rd] : List Mode).length → w__law_sum (startS N__law_sum.length es) (endP [.rd, .rd] Q fun _ _ => False) := by
  rintro es Q E ⟨d, h, rfl, hm, hQ⟩ -
  have dl := dial_len d
  have hp := d.2.good.pos
  obtain ⟨marks, em⟩ : ∃ marks, marks = h.map (·.1) := ⟨_, rfl⟩
  have eh : h.map encM = marks.map tupI := by rw [em, map_encM]
  have hl : ∀ m ∈ marks, m.length = d.1.length := fun m hm => by
    rw [em] at hm
    obtain ⟨x, _, rfl⟩ := List.mem_map.mp hm
    exact mk_len x
  have ml : marks.length ≤ 1000 := by rw [em, List.length_map]; exact hm
  have hQ : Q (.shr (tupI (sumM d.1 marks))) [] := by rw [em, tot_sumM]; exact hQ
  unfold hpD
  rw [eh]
  refine ⟨⟨by simp, by simp; omega⟩, ?_⟩
  refine wLc_mapE (xs := List.range d.1.length) (ι := fun i => shI (0 + (i : Nat))) (fun i => .int ((marks.map fun m => m.getD i 0).sum % d.1.getD i 0)) (fun s => s = [some (.bor (tupI d.1)), some (.bor (lstT marks)), none, none]) (by simp [rngItems, shI]) ?_ (by rw [List.length_range]; exact small_sz (by omega)) rfl ?_
  · rintro i hi _ acc K ha rfl hK
    have hi := List.mem_range.mp hi
    refine Or.inl ⟨sols_tups _, ?_⟩
    refine wLc_mapE (fun m => .int (m.getD i 0)) (fun s => s = [some (.bor (tupI d.1)), some (.bor (lstT marks)), some (shI (0 + (i : Nat))), none]) (shr_tups marks) ?_ (small_sz (by omega)) rfl ?_
    · rintro m hm' _ acc2 K2 ha2 rfl hK2
      exact ⟨_, atI_ints (by rw [hl m hm']; exact hi), ha2, hK2 _ rfl⟩
    · rintro _ rfl
      refine ⟨marks.map fun m => m.getD i 0, mapint _ _, trivial, Or.inl ⟨sols_ints _, _, atI_ints hi, hp _ (getD_mem hi), trivial, ha, hK _ rfl⟩⟩
  · rintro _ rfl
    rw [mapint]
    exact ⟨trivial, hQ⟩


theorem ok__law_sum {P : Program} {w : World} {K : PySem.W.Frag} {mg : Str → Option Value} {base : Heap} (T : Txt mg) {f : Addr} {fd : FuncData} (D : FD K mg "_law_sum" "_law_sum" st__law_sum ["dial", "marks"] f fd) : FnOk P w K mg base CX0 1 f fd ["dial", "marks"] (spOf ⟨P, w, K⟩ [.rd, .rd] φ__law_sum) := by
  refine fn_v (k := 0) (wb := w__law_sum) D.F sc__law_sum rfl h__law_sum fun cdv A outer s H E hr => ?_
  have sc := sc__law_sum
  have hu := hu64 hr
  exact (ss_one (s_ret (v_callTy c_tuple (by rfl) T.n_tuple bt_tuple (va_cons (v_lc rfl sc.nd (own := [("k", 2)]) (i_rng1 (by rfl) T.n_range (va_cons (v_callB c_len (by rfl) T.n_len bt_len (va_cons (vv 0) va_nil)) va_nil)) (show BlkOk N__law_sum (defScope st__law_sum) _ [("k", 2)] from ⟨rfl, by decide +kernel, by decide +kernel, by decide +kernel, by decide +kernel⟩) (fun _ _ _ _ _ => (g_name (i := 2) (by decide) (by decide) sc.nd rfl (by first | exact Or.inl rfl | exact Or.inr rfl))) (fun _ _ _ _ _ => vts_nil) (fun _ _ _ _ _ => (v_op o_mod (v_callB (c_sum rfl) (by rfl) T.n_sum bt_sum (va_cons (v_lc rfl sc.nd (own := [("mark", 3)]) (i_seq (vv 1)) ⟨rfl, of_decide_eq_true rfl, of_decide_eq_true rfl, of_decide_eq_true rfl, of_decide_eq_true rfl⟩ (fun _ _ _ _ _ => (g_name (i := 3) (by decide) (by decide) sc.nd rfl (by first | exact Or.inl rfl | exact Or.inr rfl))) (fun _ _ _ _ _ => vts_nil) (fun _ _ _ _ _ => (v_ix (vv 3) (vv 2) (fun _ _ => rfl)))) va_nil)) (v_ix (vv 0) (vv 2) (fun _ _ => rfl))))) va_nil))))


abbrev st__law_set : Stmt := PySem.Challenge.pw_dialheaps_k12_whole_closed_sets_and_side.main.body.getD 18 (.Pass ⟨0, 0, 0, 0⟩)
abbrev N__law_set : List Str := ["deck", "dial", "marks", "many", "found", "one", "here", "turn", "k", "mark"]
theorem sc__law_set : FnScope N__law_set ["deck", "dial"] (defScope st__law_set) := ⟨rfl, rfl, rfl, by decide +kernel, rfl, by decide +kernel, by decide +kernel⟩
def w__law_set : WS := (sSeq (sSet 2 (eCall φ__law_all [.rd] (aCons (eVar 1) aNil)))
    (sSeq (sSet 3 (eOp oAdd (eC (.int 1)) (eCall φ__law_pick [.mu, .rd] (aCons (eVar 0) (aCons (eOp oIx (eLst (aCons (eC (.int 3)) (aCons (eCB fLenL (aCons (eVar 2) aNil)) (aCons (eCB fLenL (aCons (eVar 2) aNil)) aNil)))) (eCall φ__law_pick [.mu, .rd] (aCons (eVar 0) (aCons (eC (.int 3)) aNil)))) aNil)))))
    (sSeq (sSet 4 (eLc (iRg1 (aCons (eVar 3) aNil)) (gNm 8) tYesV (eOp oIx (eVar 2) (eCall φ__law_pick [.mu, .rd] (aCons (eVar 0) (aCons (eCB fLenL (aCons (eVar 2) aNil)) aNil)))) [8]))
    (sSeq (sIf (tB (eOp (oRd dEq) (eCall φ__law_pick [.mu, .rd] (aCons (eVar 0) (aCons (eC (.int 2)) aNil))) (eC (.int 0)))) (sSeq (sSet 5 (eCall φ__law_mark [.mu, .rd] (aCons (eVar 0) (aCons (eVar 1) aNil))))
    (sSeq (sSet 6 (eVar 5))
    (sFor (iRg1 (aCons (eC (.int 40)) aNil)) (gNm 7) (sSeq (sSet 4 (eOp oAdd (eOp oAdd (eSl (eVar 4) oNo (oPart (eOp oAdd (eC (.int 1)) (eOp (oRd dDiv) (eVar 3) (eC (.int 3)))))) (eLst (aCons (eVar 6) aNil))) (eSl (eVar 4) (oPart (eOp oAdd (eC (.int 1)) (eOp (oRd dDiv) (eVar 3) (eC (.int 3))))) oNo)))
    (sSet 6 (eCall φ__law_sum [.rd, .rd] (aCons (eVar 1) (aCons (eLst (aCons (eVar 6) (aCons (eVar 5) aNil))) aNil)))))))) sNil)
    (sSeq (sIf (tB (eOp (oRd dEq) (eCall φ__law_pick [.mu, .rd] (aCons (eVar 0) (aCons (eC (.int 4)) aNil))) (eC (.int 0)))) (sSet 4 (eOr (eLc (iSq (eVar 2)) (gNm 9) (tB (eOp (oRd dNotIn) (eVar 9) (eSl (eVar 4) oNo (oPart (eC (.int 3)))))) (eVar 9) [9]) (eVar 2))) sNil)
    (sRet (eSortSetF (eVar 4))))))))


def φ__law_set : FS := fun es Q _ => ∃ (a b c n : Int) (d : DialT), es = [deckE a b c, .bor (tupI d.1)] ∧ Dk b c n ∧ n < 50000 ∧ ∀ (a' c' : Int) (A : List (Mk d)), Dk b c' (n + 1000) → Q (.own (A.map encM)) [deckE a' b c']
theorem h__law_set : ∀ es Q E, φ__law_set es Q E → es.length = ([.mu, .rd] : List Mode).length → w__law_set (startS N__law_set.length es) (endP [.mu, .rd] Q fun _ _ => False) := by
  rintro es Q E ⟨a, b, c, n, d, rfl, hk, hn, hQ⟩ -
  obtain ⟨t0, ht0⟩ := allK_head d
  have al := allK_small d
  have a1 : 1 ≤ (allK d).length := by rw [ht0]; simp
  obtain ⟨ak, eak⟩ : ∃ ak, ak = allK d := ⟨_, rfl⟩
  refine ⟨d, rfl, ?_⟩
  rw [← eak] at al a1 ⊢
  refine ⟨nl, trivial, a, b, c, n, 3, rfl, hk, by omega, by decide, by decide, fun a1 c1 r1 k1 p3 p4 => ?_⟩
  obtain ⟨x, hx, hat⟩ := atI_in (xs := ([3, ((ak.map encM).length : Int), ((ak.map encM).length : Int)] : List Int).map PyData.int) p3 p4
  obtain ⟨many, hm, rfl⟩ := List.mem_map.mp hx
  have hmany : 1 ≤ many ∧ many ≤ 40 := by
    simp only [List.mem_cons, List.not_mem_nil, or_false, List.length_map] at hm
    omega
  refine ⟨_, hat, trivial, a1, b, c1, n + 1, many, rfl, k1, by omega, by omega, by omega, fun a2 c2 r2 k2 q3 q4 => ?_⟩
  obtain ⟨M, eM⟩ : ∃ M : Nat, 1 + r2 = ((M : Nat) : Int) := ⟨(1 + r2).toNat, by omega⟩
  refine ⟨⟨by omega, by omega⟩, ?_⟩
  rw [eM]
  refine wLc_relE (xs := List.range M) (ι := fun i => shI (0 + ((i : Nat) : Int))) (fun pre acc s => ∃ (a' c' : Int) (ms : List (Mk d)), s = [some (deckE a' b c'), some (.bor (tupI d.1)), some (.own (ak.map encM)), some (shI ((M : Nat) : Int)), none, none, none, none, none, none] ∧ acc = ms.map encM ∧ ms.length = pre.length ∧ Dk b c' (n + 2 + pre.length)) rfl ?_ (by rw [List.length_range]; exact small_sz (by omega)) ⟨a2, c2, [], rfl, rfl, rfl, k2.up (by simp; omega)⟩ ?_
  · rintro pre k post _ acc K hx ha ⟨a', c', ms, rfl, rfl, hl, kk⟩ hK
    have l3 := congrArg List.length hx
    simp only [List.length_append, List.length_cons, List.length_range] at l3
    refine ⟨trivial, a', b, c', _, _, rfl, kk, by omega, by rw [List.length_map]; omega, by rw [List.length_map]; omega, fun a3 c3 r k3 v3 v4 => ?_⟩
    obtain ⟨y, hy, hat2⟩ := atI_in (xs := ak.map encM) v3 v4
    obtain ⟨m, _, rfl⟩ := List.mem_map.mp hy
    exact ⟨_, hat2, ha, hK _ _ ⟨a3, c3, ms ++ [m], rfl, by simp, by simp [hl], k3.up (by simp; omega)⟩⟩
  rintro acc s ⟨a4, c4, ms, rfl, rfl, hl, k4⟩
  rw [List.length_range] at hl k4
  refine ⟨trivial, a4, b, c4, _, 2, rfl, k4, by omega, by decide, by decide, fun a5 c5 r5 k5 u3 u4 => ?_⟩
  have fin : ∀ (a' c' : Int) (ms : List (Mk d)) (x5 x6 x7 : Option Ent), ms.length ≤ 100 → Dk b c' (n + 100) →
      (sSeq (sIf (tB (eOp (oRd dEq) (eCall φ__law_pick [.mu, .rd] (aCons (eVar 0) (aCons (eC (.int 4)) aNil))) (eC (.int 0)))) (sSet 4 (eOr (eLc (iSq (eVar 2)) (gNm 9) (tB (eOp (oRd dNotIn) (eVar 9) (eSl (eVar 4) oNo (oPart (eC (.int 3)))))) (eVar 9) [9]) (eVar 2))) sNil)
        (sRet (eSortSetF (eVar 4)))) [some (deckE a' b c'), some (.bor (tupI d.1)), some (.own (ak.map encM)), some (shI ((M : Nat) : Int)), some (.own (ms.map encM)), x5, x6, x7, none, none] (endP [.mu, .rd] Q fun _ _ => False) := by
    intro a' c' ms x5 x6 x7 hml kk
    have out : ∀ (a' c' : Int) (ms : List (Mk d)) (x2 : Option Ent) (e4 : Ent), (e4 = .own (ms.map encM) ∨ e4 = .shr (.list (ms.map encM))) → Dk b c' (n + 1000) → (sRet (eSortSetF (eVar 4))) [some (deckE a' b c'), some (.bor (tupI d.1)), x2, some (shI ((M : Nat) : Int)), some e4, x5, x6, x7, none, none] (endP [.mu, .rd] Q fun _ _ => False) := by
      intro a' c' ms x2 e4 h4 kk
      rcases h4 with rfl | rfl
      all_goals refine ⟨rfl, ms.map (·.1), d.1.length, 64, (map_encM ms).symm, fun L hL hx => ?_, ?_, fun k hk => ?_, fun L h1 h2 h3 => ?_⟩
      · have := few_marks hL hx
        omega
      · have := d.2.good.len
        omega
      · obtain ⟨m, _, rfl⟩ := List.mem_map.mp hk
        exact ⟨mk_len m, mk_bd m⟩
      · rw [sorted_marks h1 h2 h3, map_encM]
        exact ⟨trivial, trivial, hQ _ _ _ kk⟩
      · have := few_marks hL hx
        omega
      · have := d.2.good.len
        omega
      · obtain ⟨m, _, rfl⟩ := List.mem_map.mp hk
        exact ⟨mk_len m, mk_bd m⟩
      · rw [sorted_marks h1 h2 h3, map_encM]
        exact ⟨trivial, trivial, hQ _ _ _ kk⟩
    refine ⟨trivial, a', b, c', _, 4, rfl, kk, by omega, by decide, by decide, fun a6 c6 r6 k6 w3 w4 => ?_⟩
    refine ⟨dok_int 8 _, dok_int 8 _, ?_⟩
    rw [eqv_int]
    by_cases e : r6 = 0
    · rw [decide_eq_true e]
      refine ⟨trivial, ?_⟩
      refine wLc_fmE (xs := ak) (ι := fun m => .shr (encM m)) (fun m => if (!decide (m ∈ ms.take 3)) = true then some (encM m) else none) (fun s => s = [some (deckE a6 b c6), some (.bor (tupI d.1)), some (.shr (.list (ak.map encM))), some (shI ((M : Nat) : Int)), some (.own (ms.map encM)), x5, x6, x7, none, none]) (shr_encM _) ?_ (small_sz (by omega)) rfl ?_
      · rintro m hm _ acc K ha rfl hK
        have hK := hK _ rfl
        have cu : cutD (ms.map encM) none (some 3) = (ms.take 3).map encM := by
          have := cutD_take (ms.map encM) 3
          rw [show ((3 : Nat) : Int) = 3 from rfl] at this
          rw [this, List.map_take]
        refine ⟨dok_encM 7 _, cu ▸ dok_heap 6 _, ?_⟩
        rw [cu, any_encM]
        by_cases z : m ∈ ms.take 3
        · rw [decide_eq_true z] at hK ⊢
          simp only [Bool.not_true, Bool.false_eq_true, if_false, Option.toList, List.append_nil] at hK
          exact ⟨trivial, hK⟩
        · rw [decide_eq_false z] at hK ⊢
          simp only [Bool.not_false, if_true, Option.toList] at hK
          exact ⟨trivial, ha, hK⟩
      · rintro _ rfl
        rw [fm_map]
        obtain ⟨f, ef⟩ : ∃ f, f = ak.filter fun m => !decide (m ∈ ms.take 3) := ⟨_, rfl⟩
        rw [← ef]
        cases f with
        | nil => exact out a6 c6 ak _ _ (.inr rfl) (k6.up (by omega))
        | cons f0 ft => exact out a6 c6 (f0 :: ft) _ _ (.inl rfl) (k6.up (by omega))
    · rw [decide_eq_false e]
      exact ⟨trivial, out _ _ _ _ _ (.inl rfl) (k6.up (by omega))⟩
  refine ⟨dok_int 8 _, dok_int 8 _, ?_⟩
  rw [eqv_int]
  by_cases e : r5 = 0
  · rw [decide_eq_true e]
    refine ⟨trivial, trivial, a5, b, c5, _, d, rfl, k5, by omega, fun a6 c6 m k6 => ?_⟩
    refine ⟨⟨by decide, by decide⟩, ?_⟩
    refine wFor_allE (xs := List.range 40) (ι := fun i => shI (0 + ((i : Nat) : Int))) (fun pre s => ∃ (g : List (Mk d)) (h : Mk d) (x7 : Option Ent), s = [some (deckE a6 b c6), some (.bor (tupI d.1)), some (.own (ak.map encM)), some (shI ((M : Nat) : Int)), some (.own (g.map encM)), some (.shr (encM m)), some (.shr (encM h)), x7, none, none] ∧ g.length = M + pre.length) rfl ?_ ⟨ms, m, none, rfl, by simpa using hl⟩ ?_
    · rintro pre k post _ K hx ⟨g, h, x7, rfl, hg⟩ hK
      have l3 := congrArg List.length hx
      simp only [List.length_append, List.length_cons, List.length_range] at l3
      obtain ⟨J, eJ⟩ : ∃ J : Nat, 1 + ((M : Nat) : Int) / 3 = ((J : Nat) : Int) := ⟨(1 + ((M : Nat) : Int) / 3).toNat, by omega⟩
      have cu1 : cutD (g.map encM) none (some (1 + ((M : Nat) : Int) / 3)) = (g.take J).map encM := by rw [eJ, cutD_take, List.map_take]
      have cu2 : cutD (g.map encM) (some (1 + ((M : Nat) : Int) / 3)) none = (g.drop J).map encM := by rw [eJ, cutD_drop, List.map_drop]
      refine ⟨by decide, trivial, nl, small_sz (by rw [cu1]; simp; omega), by decide, trivial, small_sz (by rw [cu1, cu2]; simp; omega), nl, d, [h, m], rfl, by simp, ?_⟩
      have hK := hK [some (deckE a6 b c6), some (.bor (tupI d.1)), some (.own (ak.map encM)), some (shI ((M : Nat) : Int)), some (.own ((g.take J ++ [h] ++ g.drop J).map encM)), some (.shr (encM m)), some (.shr (encM (totG [h, m]))), some (shI (0 + ((k : Nat) : Int))), none, none] ⟨_, _, _, rfl, by simp; omega⟩
      rw [List.map_append, List.map_append, ← cu1, ← cu2] at hK
      exact hK
    · rintro _ ⟨g, h, x7, rfl, hg⟩
      rw [List.length_range] at hg
      exact fin _ _ _ _ _ _ (by omega) (k6.up (by omega))
  · rw [decide_eq_false e]
    exact ⟨trivial, fin _ _ _ _ _ _ (by omega) (k5.up (by omega))⟩


theorem ok__law_set {P : Program} {w : World} {K : PySem.W.Frag} {mg : Str → Option Value} {base : Heap} (T : Txt mg) {f : Addr} {fd : FuncData} (D : FD K mg "_law_set" "_law_set" st__law_set ["deck", "dial"] f fd) {f__law_pick : Addr} {fd__law_pick : FuncData} (D__law_pick : FD K mg "_law_pick" "_law_pick" st__law_pick ["deck", "many"] f__law_pick fd__law_pick) (G__law_pick : FnOk P w K mg base CX0 1 f__law_pick fd__law_pick ["deck", "many"] (spOf ⟨P, w, K⟩ [.mu, .rd] φ__law_pick)) {f__law_mark : Addr} {fd__law_mark : FuncData} (D__law_mark : FD K mg "_law_mark" "_law_mark" st__law_mark ["deck", "dial"] f__law_mark fd__law_mark) (G__law_mark : FnOk P w K mg base CX0 2 f__law_mark fd__law_mark ["deck", "dial"] (spOf ⟨P, w, K⟩ [.mu, .rd] φ__law_mark)) {f__law_all : Addr} {fd__law_all : FuncData} (D__law_all : FD K mg "_law_all" "_law_all" st__law_all ["dial"] f__law_all fd__law_all) (G__law_all : FnOk P w K mg base CX0 1 f__law_all fd__law_all ["dial"] (spOf ⟨P, w, K⟩ [.rd] φ__law_all)) {f__law_sum : Addr} {fd__law_sum : FuncData} (D__law_sum : FD K mg "_law_sum" "_law_sum" st__law_sum ["dial", "marks"] f__law_sum fd__law_sum) (G__law_sum : FnOk P w K mg base CX0 1 f__law_sum fd__law_sum ["dial", "marks"] (spOf ⟨P, w, K⟩ [.rd, .rd] φ__law_sum)) : FnOk P w K mg base CX0 3 f fd ["deck", "dial"] (spOf ⟨P, w, K⟩ [.mu, .rd] φ__law_set) := by
  refine fn_v (k := 2) (wb := w__law_set) D.F sc__law_set rfl h__law_set fun cdv A outer s H E hr => ?_
  have sc := sc__law_set
  have hu := hu64 hr
  exact (ss_cons (s_set (i := 2) (by decide) sc.nd rfl (by first | exact Or.inl rfl | exact Or.inr rfl) (v_call G__law_all (hr.mono (by decide)) (by rfl) D__law_all.m D__law_all.k D__law_all.b (va_cons (vv 1) va_nil)))
    (ss_cons (s_set (i := 3) (by decide) sc.nd rfl (by first | exact Or.inl rfl | exact Or.inr rfl) (v_op o_add v_int (v_call G__law_pick (hr.mono (by decide)) (by rfl) D__law_pick.m D__law_pick.k D__law_pick.b (va_cons (vv 0) (va_cons (v_ix (v_lst (va_cons v_int (va_cons (v_callB c_len (by rfl) T.n_len bt_len (va_cons (vv 2) va_nil)) (va_cons (v_callB c_len (by rfl) T.n_len bt_len (va_cons (vv 2) va_nil)) va_nil)))) (v_call G__law_pick (hr.mono (by decide)) (by rfl) D__law_pick.m D__law_pick.k D__law_pick.b (va_cons (vv 0) (va_cons v_int va_nil))) (fun _ _ => rfl)) va_nil)))))
    (ss_cons (s_set (i := 4) (by decide) sc.nd rfl (by first | exact Or.inl rfl | exact Or.inr rfl) (v_lc rfl sc.nd (own := [("k", 8)]) (i_rng1 (by rfl) T.n_range (va_cons (vv 3) va_nil)) (show BlkOk N__law_set (defScope st__law_set) _ [("k", 8)] from ⟨rfl, by decide +kernel, by decide +kernel, by decide +kernel, by decide +kernel⟩) (fun _ _ _ _ _ => (g_name (i := 8) (by decide) (by decide) sc.nd rfl (by first | exact Or.inl rfl | exact Or.inr rfl))) (fun _ _ _ _ _ => vts_nil) (fun _ _ _ _ _ => (v_ix (vv 2) (v_call G__law_pick (hr.mono (by decide)) (by rfl) D__law_pick.m D__law_pick.k D__law_pick.b (va_cons (vv 0) (va_cons (v_callB c_len (by rfl) T.n_len bt_len (va_cons (vv 2) va_nil)) va_nil))) (fun _ _ => rfl)))) (sw_cell rfl (by rfl)))
    (ss_cons (s_if (vt_cmp (o_eq hu) (v_call G__law_pick (hr.mono (by decide)) (by rfl) D__law_pick.m D__law_pick.k D__law_pick.b (va_cons (vv 0) (va_cons v_int va_nil))) v_int (nomark _)) (ss_cons (s_set (i := 5) (by decide) sc.nd rfl (by first | exact Or.inl rfl | exact Or.inr rfl) (v_call G__law_mark (hr.mono (by decide)) (by rfl) D__law_mark.m D__law_mark.k D__law_mark.b (va_cons (vv 0) (va_cons (vv 1) va_nil))))
    (ss_cons (s_set (i := 6) (by decide) sc.nd rfl (by first | exact Or.inl rfl | exact Or.inr rfl) (vv 5))
    (ss_one (s_for (ss := [7]) PassesOwn.never rfl (i_rng1 (by rfl) T.n_range (va_cons v_int va_nil)) (g_name (i := 7) (by decide) (by decide) sc.nd rfl (by first | exact Or.inl rfl | exact Or.inr rfl)) (ss_cons (s_set (i := 4) (by decide) sc.nd rfl (by first | exact Or.inl rfl | exact Or.inr rfl) (v_op o_add (v_op o_add (v_sl (vv 4) vo_none (vo_some (v_op o_add v_int (v_op o_div (vv 3) v_int)))) (v_lst (va_cons (vv 6) va_nil))) (v_sl (vv 4) (vo_some (v_op o_add v_int (v_op o_div (vv 3) v_int))) vo_none)))
    (ss_one (s_set (i := 6) (by decide) sc.nd rfl (by first | exact Or.inl rfl | exact Or.inr rfl) (v_call G__law_sum (hr.mono (by decide)) (by rfl) D__law_sum.m D__law_sum.k D__law_sum.b (va_cons (vv 1) (va_cons (v_lst (va_cons (vv 6) (va_cons (vv 5) va_nil))) va_nil)))))))))) ss_nil)
    (ss_cons (s_if (vt_cmp (o_eq hu) (v_call G__law_pick (hr.mono (by decide)) (by rfl) D__law_pick.m D__law_pick.k D__law_pick.b (va_cons (vv 0) (va_cons v_int va_nil))) v_int (nomark _)) (ss_one (s_set (i := 4) (by decide) sc.nd rfl (by first | exact Or.inl rfl | exact Or.inr rfl) (v_or (v_lc rfl sc.nd (own := [("mark", 9)]) (i_seq (vv 2)) (show BlkOk N__law_set (defScope st__law_set) _ [("mark", 9)] from ⟨rfl, by decide +kernel, by decide +kernel, by decide +kernel, by decide +kernel⟩) (fun _ _ _ _ _ => (g_name (i := 9) (by decide) (by decide) sc.nd rfl (by first | exact Or.inl rfl | exact Or.inr rfl))) (fun _ _ _ _ _ => (vts_one (vt_cmp (o_notIn hu) (vv 9) (v_sl (vv 4) vo_none (vo_some v_int)) (by rfl)))) (fun _ _ _ _ _ => (vv 9))) (v_one (vv 2))))) ss_nil)
    (ss_one (s_ret (v_sortSetF rfl hu (by rfl) T.n_sorted (by rfl) T.n_set (vv 4)))))))))


abbrev st__law_sums : Stmt := PySem.Challenge.pw_dialheaps_k12_whole_closed_sets_and_side.main.body.getD 19 (.Pass ⟨0, 0, 0, 0⟩)
abbrev N__law_sums : List Str := ["dial", "one", "other", "found", "mark", "more"]
theorem sc__law_sums : FnScope N__law_sums ["dial", "one", "other"] (defScope st__law_sums) := ⟨rfl, rfl, rfl, by decide +kernel, rfl, by decide +kernel, by decide +kernel⟩
def w__law_sums : WS := (sSeq (sSet 3 eDNew)
    (sSeq (sFor (iSq (eVar 1)) (gNm 4) (sFor (iSq (eVar 2)) (gNm 5) (sAsg (eC (.bool true)) (gIxD (eVar 3) (eCall φ__law_sum [.rd, .rd] (aCons (eVar 0) (aCons (eLst (aCons (eVar 4) (aCons (eVar 5) aNil))) aNil)))))))
    (sRet (eCB cDSort (aCons (eVar 3) aNil)))))


def φ__law_sums : FS := fun es Q _ => ∃ (d : DialT) (A B : List (Mk d)), es = [.bor (tupI d.1), .bor (hpD A), .bor (hpD B)] ∧ Q (.own ((setL (addS A B)).map encM)) []
theorem h__law_sums : ∀ es Q E, φ__law_sums es Q E → es.length = ([.rd, .rd, .rd] : List Mode).length → w__law_sums (startS N__law_sums.length es) (endP [.rd, .rd, .rd] Q fun _ _ => False) := by
  rintro es Q E ⟨d, A, B, rfl, hQ⟩ -
  refine Or.inl ⟨sols_encM _, ?_⟩
  refine wFor_allE (xs := A) (ι := fun m => .shr (encM m)) (fun pre s => ∃ (T : List (Mk d × Bool)) (x4 x5 : Option Ent), s = [some (.bor (tupI d.1)), some (.bor (hpD A)), some (.bor (hpD B)), some (.dct (tb encM PyData.bool T)), x4, x5] ∧ (T.map (·.1)).Nodup ∧ ∀ m, m ∈ T.map (·.1) ↔ ∃ a ∈ pre, ∃ b ∈ B, a + b = m) (shr_encM A) ?_ ⟨[], _, _, rfl, by simp, by simp⟩ ?_
  · rintro pre a post _ K hx ⟨T, x4, x5, rfl, hn, hm⟩ hK
    refine Or.inl ⟨sols_encM _, ?_⟩
    refine wFor_allE (xs := B) (ι := fun m => .shr (encM m)) (fun pre2 s => ∃ (T : List (Mk d × Bool)) (x5 : Option Ent), s = [some (.bor (tupI d.1)), some (.bor (hpD A)), some (.bor (hpD B)), some (.dct (tb encM PyData.bool T)), some (.shr (encM a)), x5] ∧ (T.map (·.1)).Nodup ∧ ∀ m, m ∈ T.map (·.1) ↔ (∃ a ∈ pre, ∃ b ∈ B, a + b = m) ∨ ∃ b ∈ pre2, a + b = m) (shr_encM B) ?_ ⟨T, _, rfl, hn, by simpa using hm⟩ ?_
    · rintro pre2 b post2 _ K2 hx2 ⟨T, x5, rfl, hn, hm⟩ hK2
      have hK2 := fun y5 => hK2 [some (.bor (tupI d.1)), some (.bor (hpD A)), some (.bor (hpD B)), some (.dct (tb encM PyData.bool (pt T (a + b) true))), some (.shr (encM a)), y5] ⟨pt T (a + b) true, y5, rfl, pt_nodup hn, fun m => by
        rw [pt_memK, hm]
        constructor
        · rintro (rfl | h | ⟨b', hb', e⟩)
          · exact .inr ⟨b, by simp, rfl⟩
          · exact .inl h
          · exact .inr ⟨b', by simp [hb'], e⟩
        · rintro (h | ⟨b', hb', e⟩)
          · exact .inr (.inl h)
          · rcases List.mem_append.mp hb' with h | h
            · exact .inr (.inr ⟨b', h, e⟩)
            · rw [List.mem_singleton] at h
              subst h
              exact .inl e.symm⟩
      rw [← put_tb (fun _ _ => encM_inj)] at hK2
      refine ⟨nl, d, [a, b], rfl, by simp, ?_⟩
      rw [show totG [a, b] = a + b from by show a + (b + 0) = a + b; rw [Gr.addz]]
      exact ⟨keyM (a + b), of_small (by have := len_tbM hn; rw [List.length_map]; omega), hK2 _⟩
    · rintro _ ⟨T, x5, rfl, hn, hm⟩
      refine hK _ ⟨T, _, _, rfl, hn, fun m => ?_⟩
      rw [hm]
      constructor
      · rintro (⟨a', h1, h2⟩ | h)
        · exact ⟨a', by simp [h1], h2⟩
        · exact ⟨a, by simp, h⟩
      · rintro ⟨a', h1, h2⟩
        rcases List.mem_append.mp h1 with h | h
        · exact .inl ⟨a', h, h2⟩
        · rw [List.mem_singleton] at h
          subst h
          exact .inr h2
  · rintro _ ⟨T, x4, x5, rfl, hn, hm⟩
    refine ⟨(T.map (·.1)).map (·.1), by rw [tb_keys, ← map_encM], fun b hb => ?_, ?_⟩
    · obtain ⟨m, _, rfl⟩ := List.mem_map.mp hb
      exact mark_ne m
    · rw [sort_set hn, map_encM]
      rw [show setL (addS A B) = setL (fun m => decide (m ∈ T.map (·.1))) from setL_ext.mpr fun m => Bool.eq_iff_iff.mpr (by rw [addS_iff, decide_eq_true_eq, hm])] at hQ
      exact ⟨trivial, hQ⟩


theorem ok__law_sums {P : Program} {w : World} {K : PySem.W.Frag} {mg : Str → Option Value} {base : Heap} (T : Txt mg) {f : Addr} {fd : FuncData} (D : FD K mg "_law_sums" "_law_sums" st__law_sums ["dial", "one", "other"] f fd) {f__law_sum : Addr} {fd__law_sum : FuncData} (D__law_sum : FD K mg "_law_sum" "_law_sum" st__law_sum ["dial", "marks"] f__law_sum fd__law_sum) (G__law_sum : FnOk P w K mg base CX0 1 f__law_sum fd__law_sum ["dial", "marks"] (spOf ⟨P, w, K⟩ [.rd, .rd] φ__law_sum)) : FnOk P w K mg base CX0 2 f fd ["dial", "one", "other"] (spOf ⟨P, w, K⟩ [.rd, .rd, .rd] φ__law_sums) := by
  refine fn_v (k := 1) (wb := w__law_sums) D.F sc__law_sums rfl h__law_sums fun cdv A outer s H E hr => ?_
  have sc := sc__law_sums
  have hu := hu64 hr
  exact (ss_cons (s_set (i := 3) (by decide) sc.nd rfl (by first | exact Or.inl rfl | exact Or.inr rfl) v_dnew)
    (ss_cons (s_for (ss := [4]) PassesOwn.never rfl (i_seq (vv 1)) (g_name (i := 4) (by decide) (by decide) sc.nd rfl (by first | exact Or.inl rfl | exact Or.inr rfl)) (ss_one (s_for (ss := [5]) PassesOwn.never rfl (i_seq (vv 2)) (g_name (i := 5) (by decide) (by decide) sc.nd rfl (by first | exact Or.inl rfl | exact Or.inr rfl)) (ss_one (s_asg (ss := []) v_bool (g_ixD hu (vv 3) (v_call G__law_sum (hr.mono (by decide)) (by rfl) D__law_sum.m D__law_sum.k D__law_sum.b (va_cons (vv 0) (va_cons (v_lst (va_cons (vv 4) (va_cons (vv 5) va_nil))) va_nil)))))))))
    (ss_one (s_ret (v_callB (c_dsort rfl hu) (by rfl) T.n_sorted bt_sorted (va_cons (vv 3) va_nil))))))


abbrev st__law_keepers : Stmt := PySem.Challenge.pw_dialheaps_k12_whole_closed_sets_and_side.main.body.getD 20 (.Pass ⟨0, 0, 0, 0⟩)
abbrev N__law_keepers : List Str := ["dial", "some", "mark"]
theorem sc__law_keepers : FnScope N__law_keepers ["dial", "some"] (defScope st__law_keepers) := ⟨rfl, rfl, rfl, by decide +kernel, rfl, by decide +kernel, by decide +kernel⟩
def w__law_keepers : WS := (sRet (eLc (iSq (eCall φ__law_all [.rd] (aCons (eVar 0) aNil))) (gNm 2) (tB (eOp (oRd dEq) (eCall φ__law_sums [.rd, .rd, .rd] (aCons (eVar 0) (aCons (eVar 1) (aCons (eLst (aCons (eVar 2) aNil)) aNil)))) (eVar 1))) (eVar 2) [2]))


def φ__law_keepers : FS := fun _ _ _ => False
theorem h__law_keepers : ∀ es Q E, φ__law_keepers es Q E → es.length = ([.rd, .rd] : List Mode).length → w__law_keepers (startS N__law_keepers.length es) (endP [.rd, .rd] Q fun _ _ => False) := fun es Q E h _ => h.elim


theorem ok__law_keepers {P : Program} {w : World} {K : PySem.W.Frag} {mg : Str → Option Value} {base : Heap} (T : Txt mg) {f : Addr} {fd : FuncData} (D : FD K mg "_law_keepers" "_law_keepers" st__law_keepers ["dial", "some"] f fd) {f__law_all : Addr} {fd__law_all : FuncData} (D__law_all : FD K mg "_law_all" "_law_all" st__law_all ["dial"] f__law_all fd__law_all) (G__law_all : FnOk P w K mg base CX0 1 f__law_all fd__law_all ["dial"] (spOf ⟨P, w, K⟩ [.rd] φ__law_all)) {f__law_sums : Addr} {fd__law_sums : FuncData} (D__law_sums : FD K mg "_law_sums" "_law_sums" st__law_sums ["dial", "one", "other"] f__law_sums fd__law_sums) (G__law_sums : FnOk P w K mg base CX0 2 f__law_sums fd__law_sums ["dial", "one", "other"] (spOf ⟨P, w, K⟩ [.rd, .rd, .rd] φ__law_sums)) : FnOk P w K mg base CX0 3 f fd ["dial", "some"] (spOf ⟨P, w, K⟩ [.rd, .rd] φ__law_keepers) := by
  refine fn_v (k := 2) (wb := w__law_keepers) D.F sc__law_keepers rfl h__law_keepers fun cdv A outer s H E hr => ?_
  have sc := sc__law_keepers
  have hu := hu64 hr
  exact (ss_one (s_ret (v_lc rfl sc.nd (own := [("mark", 2)]) (i_seq (v_call G__law_all (hr.mono (by decide)) (by rfl) D__law_all.m D__law_all.k D__law_all.b (va_cons (vv 0) va_nil))) (show BlkOk N__law_keepers (defScope st__law_keepers) _ [("mark", 2)] from ⟨rfl, by decide +kernel, by decide +kernel, by decide +kernel, by decide +kernel⟩) (fun _ _ _ _ _ => (g_name (i := 2) (by decide) (by decide) sc.nd rfl (by first | exact Or.inl rfl | exact Or.inr rfl))) (fun _ _ _ _ _ => (vts_one (vt_cmp (o_eq hu) (v_call G__law_sums (hr.mono (by decide)) (by rfl) D__law_sums.m D__law_sums.k D__law_sums.b (va_cons (vv 0) (va_cons (vv 1) (va_cons (v_lst (va_cons (vv 2) va_nil)) va_nil)))) (vv 1) (nomark _)))) (fun _ _ _ _ _ => (vv 2)))))


abbrev st__law_closed : Stmt := PySem.Challenge.pw_dialheaps_k12_whole_closed_sets_and_side.main.body.getD 21 (.Pass ⟨0, 0, 0, 0⟩)
abbrev N__law_closed : List Str := ["dial", "marks", "found", "at", "mark", "new"]
theorem sc__law_closed : FnScope N__law_closed ["dial", "marks"] (defScope st__law_closed) := ⟨rfl, rfl, rfl, by decide +kernel, rfl, by decide +kernel, by decide +kernel⟩
def w__law_closed : WS := (sSeq (sSet 2 (eLst (aCons (eOp oMul (eTup (aCons (eC (.int 0)) aNil)) (eCB fLenL (aCons (eVar 0) aNil))) aNil)))
    (sSeq (sSet 3 (eC (.int 0)))
    (sSeq (sWhile (tB (eOp (oRd dLt) (eVar 3) (eCB fLenL (aCons (eVar 2) aNil)))) (sSeq (sFor (iSq (eVar 1)) (gNm 4) (sSeq (sSet 5 (eCall φ__law_sum [.rd, .rd] (aCons (eVar 0) (aCons (eLst (aCons (eOp oIx (eVar 2) (eVar 3)) (aCons (eVar 4) aNil))) aNil))))
    (sIf (tB (eOp (oRd dNotIn) (eVar 5) (eVar 2))) (sExp (eMt "list" mAppend (eVar 2) (aCons (eVar 5) aNil))) sNil)))
    (sSet 3 (eOp oAdd (eVar 3) (eC (.int 1))))))
    (sRet (eCB cSortT (aCons (eVar 2) aNil))))))


def φ__law_closed : FS := fun es Q _ => ∃ (d : DialT) (ms : List (Mk d)), es = [.bor (tupI d.1), .bor (hpD ms)] ∧ Q (.own ((genL ms).map encM)) []
theorem h__law_closed : ∀ es Q E, φ__law_closed es Q E → es.length = ([.rd, .rd] : List Mode).length → w__law_closed (startS N__law_closed.length es) (endP [.rd, .rd] Q fun _ _ => False) := by
  rintro es Q E ⟨d, ms, rfl, hQ⟩ -
  have dl := dial_len d
  have zf : ∀ l : List Int, PyData.tuple (List.replicate l.length [PyData.int 0]).flatten = tupI (zeroM l) := by
    intro l
    unfold tupI
    congr 1
    induction l with
    | nil => rfl
    | cons s l ih => rw [zeroM_cons, List.length_cons, List.replicate_succ, List.flatten_cons, ih]; rfl
  refine ⟨nl, by simp, by simp; omega, by simp; omega, nl, nl, ?_⟩
  rw [show PyData.tuple (List.replicate ((((d.1.map PyData.int).length : Nat) : Int)).toNat [PyData.int 0]).flatten = encM (0 : Mk d) from by
    rw [List.length_map, Int.toNat_natCast, zf]; rfl]
  refine ⟨fun k s => ∃ (F : List (Mk d)) (i : Nat) (x4 x5 : Option Ent), s = [some (.bor (tupI d.1)), some (.bor (hpD ms)), some (.own (F.map encM)), some (shI ((i : Nat) : Int)), x4, x5] ∧ F.Nodup ∧ 0 ∈ F ∧ (∀ x ∈ F, Gen ms x) ∧ (∀ j, j < i → ∀ m ∈ ms, F.getD j 0 + m ∈ F) ∧ i ≤ F.length ∧ k = 100 - i, ⟨_, [0], 0, none, none, rfl, by simp, by simp, fun x hx => by rw [List.mem_singleton.mp hx]; exact .zero, fun j h => absurd h (Nat.not_lt_zero j), Nat.zero_le _, rfl⟩, ?_⟩
  rintro k s ⟨F, i, x4, x5, rfl, nd, z0, gn, dn, il, rfl⟩
  have fl := nd_small nd
  refine ⟨trivial, ?_⟩
  by_cases hi : i < F.length
  · rw [show decide (((i : Nat) : Int) < (((F.map encM).length : Nat) : Int)) = true from decide_eq_true (by rw [List.length_map]; omega)]
    refine Or.inl ⟨sols_encM _, ?_⟩
    refine wFor_allE (xs := ms) (ι := fun m => .shr (encM m)) (fun pre s => ∃ (F' : List (Mk d)) (x4 x5 : Option Ent), s = [some (.bor (tupI d.1)), some (.bor (hpD ms)), some (.own (F'.map encM)), some (shI ((i : Nat) : Int)), x4, x5] ∧ F'.Nodup ∧ 0 ∈ F' ∧ (∀ x ∈ F', Gen ms x) ∧ (∀ j, j < i → ∀ m ∈ ms, F'.getD j 0 + m ∈ F') ∧ i < F'.length ∧ ∀ m ∈ pre, F'.getD i 0 + m ∈ F') (shr_encM ms) ?_ ⟨F, x4, x5, rfl, nd, z0, gn, dn, hi, by simp⟩ ?_
    · rintro pre m post _ K hx ⟨F', x4, x5, rfl, nd, z0, gn, dn, hi, hp⟩ hK
      have fl := nd_small nd
      have hm : m ∈ ms := by rw [hx]; simp
      refine ⟨_, atI_getD hi, nl, d, [F'.getD i 0, m], rfl, by simp, ?_⟩
      rw [show totG [F'.getD i 0, m] = F'.getD i 0 + m from by show _ + (m + 0) = _; rw [Gr.addz]]
      refine ⟨dok_encM 7 _, dok_heap 6 _, ?_⟩
      rw [any_encM]
      by_cases hn : F'.getD i 0 + m ∈ F'
      · rw [decide_eq_true hn]
        refine ⟨trivial, hK _ ⟨F', _, _, rfl, nd, z0, gn, dn, hi, fun x h => ?_⟩⟩
        rcases List.mem_append.mp h with h | h
        · exact hp x h
        · rw [List.mem_singleton.mp h]; exact hn
      · rw [decide_eq_false hn]
        have gm : F'.getD i 0 ∈ F' := by
          rw [List.getD_eq_getElem?_getD, List.getElem?_eq_getElem hi]; exact List.getElem_mem hi
        have keep : ∀ j, j < F'.length → (F' ++ [F'.getD i 0 + m]).getD j 0 = F'.getD j 0 := fun j hj => by simp only [List.getD_eq_getElem?_getD, List.getElem?_append_left hj]
        refine ⟨trivial, rfl, of_small (by rw [List.length_map]; omega), ?_⟩
        have hK := hK [some (.bor (tupI d.1)), some (.bor (hpD ms)), some (.own ((F' ++ [F'.getD i 0 + m]).map encM)), some (shI ((i : Nat) : Int)), some (.shr (encM m)), some (.shr (encM (F'.getD i 0 + m)))] ⟨_, _, _, rfl, ?_, by simp [z0], fun x h => ?_, fun j hj k hk => ?_, by simp; omega, fun x h => ?_⟩
        · rw [List.map_append] at hK
          exact hK
        · rw [List.nodup_append]
          refine ⟨nd, by simp, fun a ha b hb e => ?_⟩
          rw [List.mem_singleton] at hb
          rw [e, hb] at ha
          exact hn ha
        · rcases List.mem_append.mp h with h | h
          · exact gn x h
          · rw [List.mem_singleton.mp h]; exact (gn _ gm).add hm
        · rw [keep j (by omega)]
          exact List.mem_append_left _ (dn j hj k hk)
        · rw [keep i hi]
          rcases List.mem_append.mp h with h | h
          · exact List.mem_append_left _ (hp x h)
          · rw [List.mem_singleton.mp h]; simp
    · rintro _ ⟨F', x4, x5, rfl, nd, z0, gn, dn, hi', hp⟩
      have fl := nd_small nd
      refine ⟨_, ?_, F', i + 1, x4, x5, rfl, nd, z0, gn, fun j hj m hm => ?_, hi', rfl⟩
      · omega
      · by_cases e : j = i
        · rw [e]; exact hp m hm
        · exact dn j (by omega) m hm
  · rw [show decide (((i : Nat) : Int) < (((F.map encM).length : Nat) : Int)) = false from decide_eq_false (by rw [List.length_map]; omega)]
    refine ⟨F.map (·.1), (map_encM F).symm, fun b hb => ?_, ?_⟩
    · obtain ⟨m, _, rfl⟩ := List.mem_map.mp hb
      exact mark_ne m
    · rw [sort_set nd, map_encM, genL_eq (ms := ms) fun m => ?_]
      · exact ⟨trivial, hQ⟩
      · rw [decide_eq_true_eq]
        constructor
        · exact gn m
        · intro h
          induction h with
          | zero => exact z0
          | @add a x _ hx ih =>
            obtain ⟨j, hj, rfl⟩ := List.getElem_of_mem ih
            have := dn j (by omega) x hx
            rwa [List.getD_eq_getElem?_getD, List.getElem?_eq_getElem hj] at this


theorem ok__law_closed {P : Program} {w : World} {K : PySem.W.Frag} {mg : Str → Option Value} {base : Heap} (T : Txt mg) {f : Addr} {fd : FuncData} (D : FD K mg "_law_closed" "_law_closed" st__law_closed ["dial", "marks"] f fd) {f__law_sum : Addr} {fd__law_sum : FuncData} (D__law_sum : FD K mg "_law_sum" "_law_sum" st__law_sum ["dial", "marks"] f__law_sum fd__law_sum) (G__law_sum : FnOk P w K mg base CX0 1 f__law_sum fd__law_sum ["dial", "marks"] (spOf ⟨P, w, K⟩ [.rd, .rd] φ__law_sum)) : FnOk P w K mg base CX0 2 f fd ["dial", "marks"] (spOf ⟨P, w, K⟩ [.rd, .rd] φ__law_closed) := by
  refine fn_v (k := 1) (wb := w__law_closed) D.F sc__law_closed rfl h__law_closed fun cdv A outer s H E hr => ?_
  have sc := sc__law_closed
  have hu := hu64 hr
  exact (ss_cons (s_set (i := 2) (by decide) sc.nd rfl (by first | exact Or.inl rfl | exact Or.inr rfl) (v_lst (va_cons (v_op o_mul (v_tup (va_cons v_int va_nil)) (v_callB c_len (by rfl) T.n_len bt_len (va_cons (vv 0) va_nil))) va_nil)))
    (ss_cons (s_set (i := 3) (by decide) sc.nd rfl (by first | exact Or.inl rfl | exact Or.inr rfl) v_int)
    (ss_cons (s_while PassesOwn.never (vt_cmp (o_lt hu) (vv 3) (v_callB c_len (by rfl) T.n_len bt_len (va_cons (vv 2) va_nil)) (nomark _)) (ss_cons (s_for (ss := [4]) PassesOwn.never rfl (i_seq (vv 1)) (g_name (i := 4) (by decide) (by decide) sc.nd rfl (by first | exact Or.inl rfl | exact Or.inr rfl)) (ss_cons (s_set (i := 5) (by decide) sc.nd rfl (by first | exact Or.inl rfl | exact Or.inr rfl) (v_call G__law_sum (hr.mono (by decide)) (by rfl) D__law_sum.m D__law_sum.k D__law_sum.b (va_cons (vv 0) (va_cons (v_lst (va_cons (v_ix (vv 2) (vv 3) (fun _ _ => rfl)) (va_cons (vv 4) va_nil))) va_nil))))
    (ss_one (s_if (vt_cmp (o_notIn hu) (vv 5) (vv 2) (by rfl)) (ss_one (s_exp (v_mt PySem.F.plainAttrs_list PySem.F.slot_list_append PySem.F.type_list_append m_append (vv 2) (va_cons (vv 5) va_nil)))) ss_nil))))
    (ss_one (s_set (i := 3) (by decide) sc.nd rfl (by first | exact Or.inl rfl | exact Or.inr rfl) (v_op o_add (vv 3) v_int)))))
    (ss_one (s_ret (v_callB (c_sortT hu) (by rfl) T.n_sorted bt_sorted (va_cons (vv 2) va_nil)))))))


abbrev st__law_is_closed : Stmt := PySem.Challenge.pw_dialheaps_k12_whole_closed_sets_and_side.main.body.getD 22 (.Pass ⟨0, 0, 0, 0⟩)
abbrev N__law_is_closed : List Str := ["dial", "some", "mark"]
theorem sc__law_is_closed : FnScope N__law_is_closed ["dial", "some"] (defScope st__law_is_closed) := ⟨rfl, rfl, rfl, by decide +kernel, rfl, by decide +kernel, by decide +kernel⟩
def w__law_is_closed : WS := (sRet (eOp (oRd dEq) (eLc (iSq (eCall φ__law_sums [.rd, .rd, .rd] (aCons (eVar 0) (aCons (eVar 1) (aCons (eVar 1) aNil))))) (gNm 2) (tB (eOp (oRd dNotIn) (eVar 2) (eVar 1))) (eVar 2) [2]) (eLst aNil)))


def φ__law_is_closed : FS := fun es Q _ => ∃ (d : DialT) (A : List (Mk d)), es = [.bor (tupI d.1), .bor (hpD A)] ∧ Q (.shr (.bool ((setL (addS A A)).all fun m => decide (m ∈ A)))) []
theorem h__law_is_closed : ∀ es Q E, φ__law_is_closed es Q E → es.length = ([.rd, .rd] : List Mode).length → w__law_is_closed (startS N__law_is_closed.length es) (endP [.rd, .rd] Q fun _ _ => False) := by
  rintro es Q E ⟨d, A, rfl, hQ⟩ -
  refine ⟨d, A, A, rfl, ?_⟩
  refine wLc_fmE (xs := setL (addS A A)) (ι := fun m => .shr (encM m)) (fun m => if (!decide (m ∈ A)) = true then some (encM m) else none) (fun s => s = [some (.bor (tupI d.1)), some (.bor (hpD A)), none]) (shr_encM _) ?_ (small_sz (by have := setL_len (addS A A); omega)) rfl ?_
  · rintro m hm _ acc K ha rfl hK
    have hK := hK _ rfl
    refine ⟨dok_encM 7 _, dok_heap 6 _, ?_⟩
    rw [any_encM]
    by_cases e : m ∈ A
    · rw [decide_eq_true e] at hK ⊢
      simp only [Bool.not_true, Bool.false_eq_true, if_false, Option.toList, List.append_nil] at hK
      exact ⟨trivial, hK⟩
    · rw [decide_eq_false e] at hK ⊢
      simp only [Bool.not_false, if_true, Option.toList] at hK
      exact ⟨trivial, ha, hK⟩
  · rintro _ rfl
    rw [fm_map]
    refine ⟨nl, dok_heap 6 _, dok_heap (d := d) 6 [], ?_⟩
    rw [show PyData.eqv (.list (((setL (addS A A)).filter fun m => !decide (m ∈ A)).map encM)) (.list []) = ((setL (addS A A)).all fun m => decide (m ∈ A)) from by
      rw [show PyData.list [] = PyData.list (([] : List (Mk d)).map encM) from rfl, eqv_heap]
      refine Bool.eq_iff_iff.mpr ?_
      rw [decide_eq_true_eq, List.filter_eq_nil_iff, List.all_eq_true]
      exact ⟨fun h m hm => by have := h m hm; simpa using this, fun h m hm => by have := h m hm; simpa using this⟩]
    exact ⟨trivial, trivial, hQ⟩


theorem ok__law_is_closed {P : Program} {w : World} {K : PySem.W.Frag} {mg : Str → Option Value} {base : Heap} (T : Txt mg) {f : Addr} {fd : FuncData} (D : FD K mg "_law_is_closed" "_law_is_closed" st__law_is_closed ["dial", "some"] f fd) {f__law_sums : Addr} {fd__law_sums : FuncData} (D__law_sums : FD K mg "_law_sums" "_law_sums" st__law_sums ["dial", "one", "other"] f__law_sums fd__law_sums) (G__law_sums : FnOk P w K mg base CX0 2 f__law_sums fd__law_sums ["dial", "one", "other"] (spOf ⟨P, w, K⟩ [.rd, .rd, .rd] φ__law_sums)) : FnOk P w K mg base CX0 3 f fd ["dial", "some"] (spOf ⟨P, w, K⟩ [.rd, .rd] φ__law_is_closed) := by
  refine fn_v (k := 2) (wb := w__law_is_closed) D.F sc__law_is_closed rfl h__law_is_closed fun cdv A outer s H E hr => ?_
  have sc := sc__law_is_closed
  have hu := hu64 hr
  exact (ss_one (s_ret (v_cmp (o_eq hu) (v_lc rfl sc.nd (own := [("mark", 2)]) (i_seq (v_call G__law_sums (hr.mono (by decide)) (by rfl) D__law_sums.m D__law_sums.k D__law_sums.b (va_cons (vv 0) (va_cons (vv 1) (va_cons (vv 1) va_nil))))) (show BlkOk N__law_is_closed (defScope st__law_is_closed) _ [("mark", 2)] from ⟨rfl, by decide +kernel, by decide +kernel, by decide +kernel, by decide +kernel⟩) (fun _ _ _ _ _ => (g_name (i := 2) (by decide) (by decide) sc.nd rfl (by first | exact Or.inl rfl | exact Or.inr rfl))) (fun _ _ _ _ _ => (vts_one (vt_cmp (o_notIn hu) (vv 2) (vv 1) (by rfl)))) (fun _ _ _ _ _ => (vv 2))) (v_lst va_nil) (nomark _))))


abbrev st__law_sides_right : Stmt := PySem.Challenge.pw_dialheaps_k12_whole_closed_sets_and_side.main.body.getD 23 (.Pass ⟨0, 0, 0, 0⟩)
abbrev N__law_sides_right : List Str := ["deck", "dial", "closed", "found", "due", "mark", "some", "both", "side", "kept"]
theorem sc__law_sides_right : FnScope N__law_sides_right ["deck", "dial", "closed"] (defScope st__law_sides_right) := ⟨rfl, rfl, rfl, by decide +kernel, rfl, by decide +kernel, by decide +kernel⟩
def w__law_sides_right : WS := (sSeq (sSet 3 (eCall φ_sides [.rd, .rd] (aCons (eVar 1) (aCons (eCB cLst (aCons (eVar 2) aNil)) aNil))))
    (sSeq (sSet 4 (eLst aNil))
    (sSeq (sFor (iSq (eCall φ__law_all [.rd] (aCons (eVar 1) aNil))) (gNm 5) (sIf (tB (eLend (eOp (oRd dEq) (eLcO (iSq (eVar 4)) (gNm 8) (tB (eOp (oRd dIn) (eVar 5) (eVar 8))) (eVar 8) [8]) (eLst aNil)))) (sExp (eMt "list" mAppend (eVar 4) (aCons (eCall φ__law_sums [.rd, .rd, .rd] (aCons (eVar 1) (aCons (eVar 2) (aCons (eLst (aCons (eVar 5) aNil)) aNil)))) aNil))) sNil))
    (sSeq (sIf (tOr (tNot (tTru (eCB cIsi (aCons (eVar 3) (aCons (eRaw (.ty "list")) aNil))))) (tB (eOp (oRd dNe) (eVar 3) (eVar 4)))) (sRet (eC (.bool false))) sNil)
    (sSeq (sSet 6 (eLst aNil))
    (sSeq (sSet 7 (eLst aNil))
    (sSeq (sForO 3 8 (sSeq (sSet 7 (eOp oAdd (eVar 7) (eVar 8)))
    (sIf (tB (eOp (oRd dEq) (eCall φ__law_pick [.mu, .rd] (aCons (eVar 0) (aCons (eC (.int 2)) aNil))) (eC (.int 0)))) (sSet 6 (eOp oAdd (eVar 6) (eVar 8))) sNil)))
    (sSeq (sIf (tB (eOp (oRd dNe) (eCB cSortT (aCons (eVar 7) aNil)) (eCall φ__law_all [.rd] (aCons (eVar 1) aNil)))) (sRet (eC (.bool false))) sNil)
    (sSeq (sIf (tB (eOp (oRd dNe) (eVar 6) (eLst aNil))) (sSeq (sSet 9 (eCall φ_keepers [.rd, .rd] (aCons (eVar 1) (aCons (eCB cSortT (aCons (eVar 6) aNil)) aNil))))
    (sIf (tB (eOp (oRd dNe) (eLc (iSq (eVar 2)) (gNm 5) (tB (eOp (oRd dNotIn) (eVar 5) (eVar 9))) (eVar 5) [5]) (eLst aNil))) (sRet (eC (.bool false))) sNil)) sNil)
    (sSeq (sExp (eMt "list" mAppendE (eOp oIxT (eVar 3) (eC (.int 0))) (aCons (eC .none) aNil)))
    (sSeq (sExp (eMtL mAppendE (eVar 3) (aCons (eC .none) aNil)))
    (sRet (eOp (oRd dEq) (eCall φ_sides [.rd, .rd] (aCons (eVar 1) (aCons (eCB cLst (aCons (eVar 2) aNil)) aNil))) (eVar 4))))))))))))))


theorem sub_flat {α : Type} {T L : List (List α)} (h : T.Sublist L) : T.flatten.Sublist L.flatten := by
  induction h with
  | slnil => exact List.Sublist.refl _
  | cons a _ ih => exact ih.trans (List.sublist_append_right _ _)
  | cons_cons a _ ih => exact List.Sublist.append (List.Sublist.refl _) ih
def φ__law_sides_right : FS := fun es Q _ => ∃ (a b c n : Int) (d : DialT) (ms : List (Mk d)), es = [deckE a b c, .bor (tupI d.1), .bor (hpD (genL ms))] ∧ Dk b c n ∧ n < 50000 ∧ ∀ (a' c' : Int), Dk b c' (n + 1000) → Q (.shr (.bool true)) [deckE a' b c']
theorem h__law_sides_right : ∀ es Q E, φ__law_sides_right es Q E → es.length = ([.mu, .rd, .rd] : List Mode).length → w__law_sides_right (startS N__law_sides_right.length es) (endP [.mu, .rd, .rd] Q fun _ _ => False) := by
  rintro es Q E ⟨a, b, c, n, d, ms, rfl, hk, hn, hQ⟩ -
  obtain ⟨A, eA⟩ : ∃ A, A = genL ms := ⟨_, rfl⟩
  obtain ⟨L, eL⟩ : ∃ L, L = sideL A := ⟨_, rfl⟩
  have si : SideI ms (allK d) L := by rw [eL, eA]; exact sides_is ms
  obtain ⟨g0, hg0⟩ : ∃ g, L = A :: g := by rw [eL, eA]; exact sides_head ms
  have as : A.length ≤ 40 := by rw [eA]; exact setL_small _
  have fs : L.flatten.length ≤ 40 := nd_small si.nd
  have lL : L.length ≤ 40 := by
    have := sideF_len A (allK d) []
    have h2 := allK_small d
    rw [eL]
    unfold sideL
    simp only [List.length_nil] at this
    omega
  have hkeep : ∀ T : List (List (Mk d)), T.Sublist L → ∀ m ∈ A, setL (addS (setL fun x => decide (x ∈ T.flatten)) [m]) = setL (fun x => decide (x ∈ T.flatten)) := by
    intro T hT m hm
    have hm : Gen ms m := mem_genL.mp (eA ▸ hm)
    have two : ∀ x g, Gen ms g → x ∈ T.flatten → x + g ∈ T.flatten := by
      intro x g hg hx
      obtain ⟨s, hs, hx⟩ := List.mem_flatten.mp hx
      refine List.mem_flatten.mpr ⟨s, hs, ?_⟩
      obtain ⟨k, rfl⟩ := si.is s (hT.subset hs)
      rw [mem_side] at hx ⊢
      obtain ⟨y, hy, rfl⟩ := hx
      exact ⟨y + g, hy.plus hg, by rw [Gr.assoc, Gr.comm g k, ← Gr.assoc]⟩
    refine setL_eq fun x => ?_
    rw [addS_iff, decide_eq_true_eq]
    constructor
    · rintro ⟨a, ha, b, hb, rfl⟩
      rw [List.mem_singleton.mp hb]
      rw [mem_setL, decide_eq_true_eq] at ha
      exact two a m hm ha
    · intro hx
      exact ⟨x + -m, mem_setL.mpr (decide_eq_true (two x _ (hm.neg turn_mk) hx)), m, by simp, Gr.canceln x m⟩
  have fin2 : ∀ (a1 c1 : Int) (x5 x6 x7 x9 : Option Ent), Dk b c1 (n + 1000) →
      (sSeq (sExp (eMt "list" mAppendE (eOp oIxT (eVar 3) (eC (.int 0))) (aCons (eC .none) aNil)))
        (sSeq (sExp (eMtL mAppendE (eVar 3) (aCons (eC .none) aNil)))
        (sRet (eOp (oRd dEq) (eCall φ_sides [.rd, .rd] (aCons (eVar 1) (aCons (eCB cLst (aCons (eVar 2) aNil)) aNil))) (eVar 4))))) [some (deckE a1 b c1), some (.bor (tupI d.1)), some (.bor (hpD A)), some (.lst (L.map fun s => Ent.own (s.map encM))), some (.own (L.map hpD)), x5, x6, x7, none, x9] (endP [.mu, .rd, .rd] Q fun _ _ => False) := by
    intro a1 c1 x5 x6 x7 x9 kk
    have hi : ixN (L.map fun s => Ent.own (s.map encM)).length 0 = some 0 := ixN_nat (i := 0) (by rw [List.length_map, hg0]; simp)
    have hat : (L.map fun s => Ent.own (s.map encM))[0]? = some (.own (A.map encM)) := by rw [hg0]; rfl
    refine ⟨0, _, hi, hat, fun v => ?_⟩
    refine ⟨rfl, of_small (by rw [List.length_map]; omega), ?_⟩
    refine ⟨trivial, of_small (by rw [List.length_set, List.length_map]; omega), ?_⟩
    refine ⟨sols_encM _, d, A, rfl, _, dats_own _, dok_sides 5 _, dok_sides 5 _, ?_⟩
    rw [← eL, eqv_sides, decide_eq_true rfl]
    exact ⟨trivial, trivial, trivial, hQ _ _ kk⟩
  rw [← eA]
  refine ⟨sols_encM _, d, A, rfl, nl, d, rfl, ?_⟩
  rw [← eL]
  refine wFor_allE (xs := allK d) (ι := fun m => .shr (encM m)) (fun pre s => ∃ x5, s = [some (deckE a b c), some (.bor (tupI d.1)), some (.bor (hpD A)), some (.lst (L.map fun s => Ent.own (s.map encM))), some (.own ((pre.foldl (sideF A) []).map hpD)), x5, none, none, none, none]) (shr_encM _) ?_ ⟨_, rfl⟩ ?_
  · rintro pre m post _ K hx ⟨x5, rfl⟩ hK
    obtain ⟨f, ef⟩ : ∃ f, f = pre.foldl (sideF A) [] := ⟨_, rfl⟩
    rw [List.foldl_append, List.foldl_cons, List.foldl_nil, ← ef] at hK
    rw [← ef]
    have h1 := sideF_len A pre []
    have h2 := congrArg List.length hx
    have h3 := allK_len d
    rw [← ef] at h1
    simp only [List.length_append, List.length_cons, List.length_nil] at h1 h2
    refine ⟨_, dats_own L, Or.inr ?_⟩
    refine wLcO_keepE (xs := f) (ι := fun s => .bor (hpD s)) (fun s => decide (m ∈ s)) (fun s => s = [some (.bor (.list [.int a, .int b, .int c])), some (.bor (tupI d.1)), some (.bor (hpD A)), some (.bor (.list (L.map hpD))), some (.bor (.list (f.map hpD))), some (.shr (encM m)), none, none, none, none]) (by rw [List.map_map]; rfl) ?_ (small_sz (by omega)) rfl ?_
    · rintro t ht _ acc K2 ha rfl hK2
      refine ⟨dok_encM 7 _, dok_heap 6 _, ?_⟩
      rw [any_encM]
      have hK2 := hK2 _ rfl
      by_cases e : m ∈ t
      · rw [decide_eq_true e] at hK2 ⊢
        exact ⟨trivial, ha, hK2⟩
      · rw [decide_eq_false e] at hK2 ⊢
        exact ⟨trivial, hK2⟩
    · rintro _ rfl
      refine ⟨nl, _, dats_bor _, dok_sides 5 _, dok_sides (d := d) 5 [], ?_⟩
      rw [show PyData.list [] = PyData.list (([] : List (List (Mk d))).map hpD) from rfl, eqv_sides]
      unfold sideF at hK
      cases hb : f.any fun s => decide (m ∈ s) with
      | true =>
        rw [hb, if_pos rfl] at hK
        rw [decide_eq_false (fun z => by
          rw [List.filter_eq_nil_iff] at z
          obtain ⟨s, hs, hms⟩ := List.any_eq_true.mp hb
          exact z s hs hms)]
        exact ⟨trivial, trivial, hK _ ⟨_, rfl⟩⟩
      | false =>
        rw [hb, if_neg (by simp), List.map_append] at hK
        rw [decide_eq_true (show f.filter (fun s => decide (m ∈ s)) = [] from by
          rw [List.filter_eq_nil_iff]
          intro s hs z
          rw [List.any_eq_true.mpr ⟨s, hs, z⟩] at hb
          cases hb)]
        refine ⟨trivial, trivial, rfl, nl, d, A, [m], rfl, ?_⟩
        exact ⟨of_small (by rw [List.length_map]; omega), hK _ ⟨_, rfl⟩⟩
  · rintro _ ⟨x5, rfl⟩
    rw [show (allK d).foldl (sideF A) [] = L from by rw [eL]; rfl]
    refine ⟨_, dats_own L, rfl, by decide, ?_⟩
    refine ⟨_, dats_own L, dok_sides 5 _, dok_sides 5 _, ?_⟩
    rw [eqv_sides, decide_eq_true rfl]
    refine ⟨trivial, nl, nl, by simp, ?_⟩
    refine wForO_all (xs := L) (ι := fun s => Ent.own (s.map encM)) (I := fun pre s => ∃ (a' c' : Int) (T : List (List (Mk d))), s = [some (deckE a' b c'), some (.bor (tupI d.1)), some (.bor (hpD A)), none, some (.own (L.map hpD)), x5, some (.own (T.flatten.map encM)), some (.own (pre.flatten.map encM)), none, none] ∧ T.Sublist pre ∧ Dk b c' (n + pre.length)) rfl ?_ ⟨a, c, [], rfl, List.Sublist.refl _, hk.up (by simp)⟩ ?_
    · rintro pre x post s K B hx ⟨a', c', T, rfl, hT, kk⟩ hK
      have l1 := congrArg List.length hx
      have l2 := congrArg (fun l => (List.flatten l).length) hx
      simp only [List.length_append, List.length_cons] at l1
      simp only [List.flatten_append, List.flatten_cons, List.length_append] at l2
      have l3 := (sub_flat hT).length_le
      have e1 : pre.flatten.map encM ++ x.map encM = (pre ++ [x]).flatten.map encM := by simp
      have e2 : T.flatten.map encM ++ x.map encM = (T ++ [x]).flatten.map encM := by simp
      refine ⟨small_sz (by rw [List.length_map, List.length_map]; omega), trivial, a', b, c', _, 2, rfl, kk, by omega, by decide, by decide, fun a2 c2 r k2 v3 v4 => ?_⟩
      refine ⟨dok_int 8 _, dok_int 8 _, ?_⟩
      rw [eqv_int]
      by_cases e : r = 0
      · rw [decide_eq_true e]
        refine ⟨trivial, small_sz (by rw [List.length_map, List.length_map]; omega), ?_⟩
        exact hK _ rfl ⟨a2, c2, T ++ [x], by rw [← e1, ← e2]; rfl, List.Sublist.append hT (List.Sublist.refl _), k2.up (by simp; omega)⟩
      · rw [decide_eq_false e]
        exact ⟨trivial, hK _ rfl ⟨a2, c2, T, by rw [← e1]; rfl, hT.trans (List.sublist_append_left _ _), k2.up (by simp; omega)⟩⟩
    · rintro _ ⟨a1, c1, T, rfl, hT, k1⟩
      have ndT : T.flatten.Nodup := List.Sublist.nodup (sub_flat hT) si.nd
      have lT := nd_small ndT
      refine ⟨L.flatten.map (·.1), (map_encM _).symm, fun y hy => ?_, ?_⟩
      · obtain ⟨m, _, rfl⟩ := List.mem_map.mp hy
        exact mark_ne m
      rw [sort_set si.nd, map_encM]
      refine ⟨d, rfl, dok_heap 6 _, dok_heap 6 _, ?_⟩
      rw [setL_full fun m => decide_eq_true (si.all m (allK_mem m)), eqv_heap, decide_eq_true rfl]
      refine ⟨trivial, nl, dok_heap 6 _, dok_heap (d := d) 6 [], ?_⟩
      rw [show PyData.eqv (.list (T.flatten.map encM)) (.list []) = decide (T.flatten = []) from eqv_heap T.flatten []]
      by_cases e : T.flatten = []
      · rw [decide_eq_true e]
        exact ⟨trivial, fin2 _ _ _ _ _ _ (k1.up (by omega))⟩
      · rw [decide_eq_false e]
        refine ⟨trivial, T.flatten.map (·.1), (map_encM _).symm, fun y hy => ?_, ?_⟩
        · obtain ⟨m, _, rfl⟩ := List.mem_map.mp hy
          exact mark_ne m
        rw [sort_set ndT, map_encM]
        refine ⟨d, _, rfl, Or.inl ⟨sols_encM _, ?_⟩⟩
        have hkp := hkeep T hT
        obtain ⟨S, eS⟩ : ∃ S, S = setL fun m => decide (m ∈ T.flatten) := ⟨_, rfl⟩
        rw [← eS] at hkp ⊢
        obtain ⟨kp, ekp⟩ : ∃ kp, kp = setL fun m => decide (setL (addS S [m]) = S) := ⟨_, rfl⟩
        rw [← ekp]
        have hin : ∀ m ∈ A, m ∈ kp := fun m hm => by rw [ekp, mem_setL]; exact decide_eq_true (hkp m hm)
        refine wLc_fmE (xs := A) (ι := fun m => .shr (encM m)) (fun m => if (!decide (m ∈ kp)) = true then some (encM m) else none) (fun s => s = [some (deckE a1 b c1), some (.bor (tupI d.1)), some (.bor (hpD A)), some (.lst (L.map fun s => Ent.own (s.map encM))), some (.own (L.map hpD)), none, some (.own (T.flatten.map encM)), some (.own (L.flatten.map encM)), none, some (.own (kp.map encM))]) (shr_encM _) ?_ (small_sz (by omega)) rfl ?_
        · rintro m hm _ acc K2 ha rfl hK2
          have hK2 := hK2 _ rfl
          refine ⟨dok_encM 7 _, dok_heap 6 _, ?_⟩
          rw [any_encM]
          rw [decide_eq_true (hin m hm)] at hK2 ⊢
          simp only [Bool.not_true, Bool.false_eq_true, if_false, Option.toList, List.append_nil] at hK2
          exact ⟨trivial, hK2⟩
        · rintro _ rfl
          rw [fm_map]
          refine ⟨nl, dok_heap 6 _, dok_heap (d := d) 6 [], ?_⟩
          rw [show PyData.eqv (.list ((A.filter fun m => !decide (m ∈ kp)).map encM)) (.list []) = decide (A.filter (fun m => !decide (m ∈ kp)) = []) from eqv_heap _ [], decide_eq_true (by
            rw [List.filter_eq_nil_iff]
            intro m hm
            simp [hin m hm])]
          exact ⟨trivial, fin2 _ _ _ _ _ _ (k1.up (by omega))⟩


theorem ok__law_sides_right {P : Program} {w : World} {K : PySem.W.Frag} {mg : Str → Option Value} {base : Heap} (T : Txt mg) {f : Addr} {fd : FuncData} (D : FD K mg "_law_sides_right" "_law_sides_right" st__law_sides_right ["deck", "dial", "closed"] f fd) {f_keepers : Addr} {fd_keepers : FuncData} (D_keepers : FD K mg "keepers" "keepers" st_keepers ["dial", "some"] f_keepers fd_keepers) (G_keepers : FnOk P w K mg base CX0 3 f_keepers fd_keepers ["dial", "some"] (spOf ⟨P, w, K⟩ [.rd, .rd] φ_keepers)) {f_sides : Addr} {fd_sides : FuncData} (D_sides : FD K mg "sides" "sides" st_sides ["dial", "some"] f_sides fd_sides) (G_sides : FnOk P w K mg base CX0 3 f_sides fd_sides ["dial", "some"] (spOf ⟨P, w, K⟩ [.rd, .rd] φ_sides)) {f__law_pick : Addr} {fd__law_pick : FuncData} (D__law_pick : FD K mg "_law_pick" "_law_pick" st__law_pick ["deck", "many"] f__law_pick fd__law_pick) (G__law_pick : FnOk P w K mg base CX0 1 f__law_pick fd__law_pick ["deck", "many"] (spOf ⟨P, w, K⟩ [.mu, .rd] φ__law_pick)) {f__law_all : Addr} {fd__law_all : FuncData} (D__law_all : FD K mg "_law_all" "_law_all" st__law_all ["dial"] f__law_all fd__law_all) (G__law_all : FnOk P w K mg base CX0 1 f__law_all fd__law_all ["dial"] (spOf ⟨P, w, K⟩ [.rd] φ__law_all)) {f__law_sums : Addr} {fd__law_sums : FuncData} (D__law_sums : FD K mg "_law_sums" "_law_sums" st__law_sums ["dial", "one", "other"] f__law_sums fd__law_sums) (G__law_sums : FnOk P w K mg base CX0 2 f__law_sums fd__law_sums ["dial", "one", "other"] (spOf ⟨P, w, K⟩ [.rd, .rd, .rd] φ__law_sums)) : FnOk P w K mg base CX0 4 f fd ["deck", "dial", "closed"] (spOf ⟨P, w, K⟩ [.mu, .rd, .rd] φ__law_sides_right) := by
  refine fn_v (k := 3) (wb := w__law_sides_right) D.F sc__law_sides_right rfl h__law_sides_right fun cdv A outer s H E hr => ?_
  have sc := sc__law_sides_right
  have hu := hu64 hr
  exact (ss_cons (s_set (i := 3) (by decide) sc.nd rfl (by first | exact Or.inl rfl | exact Or.inr rfl) (v_call G_sides (hr.mono (by decide)) (by rfl) D_sides.m D_sides.k D_sides.b (va_cons (vv 1) (va_cons (v_callTy c_list (by rfl) T.n_list bt_list (va_cons (vv 2) va_nil)) va_nil))))
    (ss_cons (s_set (i := 4) (by decide) sc.nd rfl (by first | exact Or.inl rfl | exact Or.inr rfl) (v_lst va_nil))
    (ss_cons (s_for (ss := [5]) PassesOwn.never rfl (i_seq (v_call G__law_all (hr.mono (by decide)) (by rfl) D__law_all.m D__law_all.k D__law_all.b (va_cons (vv 1) va_nil))) (g_name (i := 5) (by decide) (by decide) sc.nd rfl (by first | exact Or.inl rfl | exact Or.inr rfl)) (ss_one (s_if (vt_cmpLend (o_eq hu) (v_lcO rfl sc.nd (own := [("side", 8)]) (i_seq (vv 4)) (show BlkOk N__law_sides_right (defScope st__law_sides_right) _ [("side", 8)] from ⟨rfl, by decide +kernel, by decide +kernel, by decide +kernel, by decide +kernel⟩) (fun _ _ _ _ _ => (g_name (i := 8) (by decide) (by decide) sc.nd rfl (by first | exact Or.inl rfl | exact Or.inr rfl))) (fun _ _ _ _ _ => (vts_one (vt_cmp (o_in hu) (vv 5) (vv 8) (by rfl)))) (fun _ _ _ _ _ => (vv 8))) (v_lst va_nil) (nomark _)) (ss_one (s_exp (v_mt PySem.F.plainAttrs_list PySem.F.slot_list_append PySem.F.type_list_append m_append (vv 4) (va_cons (v_call G__law_sums (hr.mono (by decide)) (by rfl) D__law_sums.m D__law_sums.k D__law_sums.b (va_cons (vv 1) (va_cons (vv 2) (va_cons (v_lst (va_cons (vv 5) va_nil)) va_nil)))) va_nil)))) ss_nil)))
    (ss_cons (s_if (vt_w (vw_or (vt_not (vt_truth (v_callB c_isi (by rfl) T.n_isinstance bt_isinstance (va_cons (vv 3) (va_cons (v_bltn (v := (.ty "list")) (by rfl) T.n_list bt_list rfl) va_nil))))) (vw_or1 (vt_cmp (o_ne hu) (vv 3) (vv 4) (nomark _))))) (ss_one (s_ret v_bool)) ss_nil)
    (ss_cons (s_set (i := 6) (by decide) sc.nd rfl (by first | exact Or.inl rfl | exact Or.inr rfl) (v_lst va_nil))
    (ss_cons (s_set (i := 7) (by decide) sc.nd rfl (by first | exact Or.inl rfl | exact Or.inr rfl) (v_lst va_nil))
    (ss_cons (s_forO (i := 3) (j := 8) PassesOwn.never rfl (vv 3) (by decide) (by decide) sc.nd rfl (by first | exact Or.inl rfl | exact Or.inr rfl) (by first | exact Or.inl rfl | exact Or.inr rfl) (ss_cons (s_set (i := 7) (by decide) sc.nd rfl (by first | exact Or.inl rfl | exact Or.inr rfl) (v_op o_add (vv 7) (vv 8)))
    (ss_one (s_if (vt_cmp (o_eq hu) (v_call G__law_pick (hr.mono (by decide)) (by rfl) D__law_pick.m D__law_pick.k D__law_pick.b (va_cons (vv 0) (va_cons v_int va_nil))) v_int (nomark _)) (ss_one (s_set (i := 6) (by decide) sc.nd rfl (by first | exact Or.inl rfl | exact Or.inr rfl) (v_op o_add (vv 6) (vv 8)))) ss_nil))))
    (ss_cons (s_if (vt_cmp (o_ne hu) (v_callB (c_sortT hu) (by rfl) T.n_sorted bt_sorted (va_cons (vv 7) va_nil)) (v_call G__law_all (hr.mono (by decide)) (by rfl) D__law_all.m D__law_all.k D__law_all.b (va_cons (vv 1) va_nil)) (nomark _)) (ss_one (s_ret v_bool)) ss_nil)
    (ss_cons (s_if (vt_cmp (o_ne hu) (vv 6) (v_lst va_nil) (nomark _)) (ss_cons (s_set (i := 9) (by decide) sc.nd rfl (by first | exact Or.inl rfl | exact Or.inr rfl) (v_call G_keepers (hr.mono (by decide)) (by rfl) D_keepers.m D_keepers.k D_keepers.b (va_cons (vv 1) (va_cons (v_callB (c_sortT hu) (by rfl) T.n_sorted bt_sorted (va_cons (vv 6) va_nil)) va_nil))))
    (ss_one (s_if (vt_cmp (o_ne hu) (v_lc rfl sc.nd (own := [("mark", 5)]) (i_seq (vv 2)) (show BlkOk N__law_sides_right (defScope st__law_sides_right) _ [("mark", 5)] from ⟨rfl, by decide +kernel, by decide +kernel, by decide +kernel, by decide +kernel⟩) (fun _ _ _ _ _ => (g_name (i := 5) (by decide) (by decide) sc.nd rfl (by first | exact Or.inl rfl | exact Or.inr rfl))) (fun _ _ _ _ _ => (vts_one (vt_cmp (o_notIn hu) (vv 5) (vv 9) (by rfl)))) (fun _ _ _ _ _ => (vv 5))) (v_lst va_nil) (nomark _)) (ss_one (s_ret v_bool)) ss_nil))) ss_nil)
    (ss_cons (s_exp (v_mt PySem.F.plainAttrs_list PySem.F.slot_list_append PySem.F.type_list_append m_appendE (v_ixT (vv 3) v_int (fun _ _ => rfl)) (va_cons v_none va_nil)))
    (ss_cons (s_exp (v_mtL PySem.F.plainAttrs_list PySem.F.slot_list_append PySem.F.type_list_append m_appendE (vv 3) (va_cons v_none va_nil)))
    (ss_one (s_ret (v_cmp (o_eq hu) (v_call G_sides (hr.mono (by decide)) (by rfl) D_sides.m D_sides.k D_sides.b (va_cons (vv 1) (va_cons (v_callTy c_list (by rfl) T.n_list bt_list (va_cons (vv 2) va_nil)) va_nil))) (vv 4) (nomark _)))))))))))))))


abbrev st_law : Stmt := PySem.Challenge.pw_dialheaps_k12_whole_closed_sets_and_side.main.body.getD 24 (.Pass ⟨0, 0, 0, 0⟩)
abbrev N_law : List Str := ["script", "cell", "deck", "dial", "marks", "handed", "closed", "turn", "more", "others", "some", "found", "kept", "said", "k"]
theorem sc_law : FnScope N_law ["script"] (defScope st_law) := ⟨rfl, rfl, rfl, by decide +kernel, rfl, by decide +kernel, by decide +kernel⟩
def w_law : WS := (sSeq (sFor (iSq (eOp oAdd (eLst (aCons (eC (.int 0)) aNil)) (eSl (eVar 0) oNo (oPart (eC (.int 4)))))) (gNm 1) (sSeq (sSet 2 (eCall φ__law_deck [.rd, .rd] (aCons (eVar 1) (aCons (eC (.int 0)) aNil))))
    (sSeq (sSet 3 (eCall φ__law_dial [.mu] (aCons (eVar 2) aNil)))
    (sSeq (sSet 4 (eLc (iRg1 (aCons (eCall φ__law_pick [.mu, .rd] (aCons (eVar 2) (aCons (eC (.int 6)) aNil))) aNil)) (gNm 14) tYesV (eCall φ__law_mark [.mu, .rd] (aCons (eVar 2) (aCons (eVar 3) aNil))) [14]))
    (sSeq (sSet 5 (eCB cLst (aCons (eVar 4) aNil)))
    (sSeq (sSet 6 (eCall φ__law_closed [.rd, .rd] (aCons (eVar 3) (aCons (eVar 4) aNil))))
    (sSeq (sFor (iRg1 (aCons (eC (.int 2)) aNil)) (gNm 7) (sSeq (sSet 11 (eCall φ_closed_by [.rd, .rd] (aCons (eVar 3) (aCons (eVar 5) aNil))))
    (sSeq (sIf (tOr (tNot (tTru (eCB cIsi (aCons (eVar 11) (aCons (eRaw (.ty "list")) aNil))))) (tOr (tB (eOp (oRd dNe) (eVar 11) (eVar 6))) (tB (eOp (oRd dNe) (eVar 5) (eVar 4))))) (sRet (eC (.bool false))) sNil)
    (sExp (eMt "list" mAppend (eVar 11) (aCons (eC .none) aNil))))))
    (sSeq (sIf (tOr (tB (eOp (oRd dNe) (eOp (oRd dMod) (eCB fLenL (aCons (eCall φ__law_all [.rd] (aCons (eVar 3) aNil)) aNil)) (eCB fLenL (aCons (eVar 6) aNil))) (eC (.int 0)))) (tNot (tTru (eCall φ__law_sides_right [.mu, .rd, .rd] (aCons (eVar 2) (aCons (eVar 3) (aCons (eVar 6) aNil))))))) (sRet (eC (.bool false))) sNil)
    (sSeq (sSet 8 (eSortSet (eOp oAdd (eVar 6) (eLst (aCons (eCall φ__law_mark [.mu, .rd] (aCons (eVar 2) (aCons (eVar 3) aNil))) aNil)))))
    (sSeq (sSet 9 (eLst (aCons (eVar 6) (aCons (eVar 8) (aCons (eOr (eSl (eVar 6) (oPart (eC (.int 1))) oNo) (eVar 6)) (aCons (eCall φ__law_set [.mu, .rd] (aCons (eVar 2) (aCons (eVar 3) aNil))) aNil))))))
    (sFor (iSq (eVar 9)) (gNm 10) (sSeq (sSet 12 (eCB cLst (aCons (eVar 10) aNil)))
    (sSeq (sSet 13 (eCall φ_is_closed [.rd, .rd] (aCons (eVar 3) (aCons (eVar 10) aNil))))
    (sIf (tOr (tNot (tTru (eCB cIsi (aCons (eVar 13) (aCons (eRaw (.ty "bool")) aNil))))) (tOr (tB (eOp (oRd dNe) (eVar 13) (eCall φ__law_is_closed [.rd, .rd] (aCons (eVar 3) (aCons (eVar 10) aNil))))) (tB (eOp (oRd dNe) (eVar 10) (eVar 12))))) (sRet (eC (.bool false))) sNil))))))))))))))
    (sRet (eC (.bool true))))


def tl12 : WS := (sFor (iSq (eVar 9)) (gNm 10) (sSeq (sSet 12 (eCB cLst (aCons (eVar 10) aNil)))
    (sSeq (sSet 13 (eCall φ_is_closed [.rd, .rd] (aCons (eVar 3) (aCons (eVar 10) aNil))))
    (sIf (tOr (tNot (tTru (eCB cIsi (aCons (eVar 13) (aCons (eRaw (.ty "bool")) aNil))))) (tOr (tB (eOp (oRd dNe) (eVar 13) (eCall φ__law_is_closed [.rd, .rd] (aCons (eVar 3) (aCons (eVar 10) aNil))))) (tB (eOp (oRd dNe) (eVar 10) (eVar 12))))) (sRet (eC (.bool false))) sNil))))
theorem tl12_ok {d : DialT} (P : Post) (L : List (List (Mk d))) (e0 e1 e2 x4 x5 x6 x7 x8 x10 x11 x12 x13 : Option Ent) (hP : ∀ x9 x10 x12 x13, P.nx [e0, e1, e2, some (.shr (tupI d.1)), x4, x5, x6, x7, x8, x9, x10, x11, x12, x13, none]) :
    tl12 [e0, e1, e2, some (.shr (tupI d.1)), x4, x5, x6, x7, x8, some (.own (L.map hpD)), x10, x11, x12, x13, none] P := by
  refine wFor_allE (xs := L) (ι := fun s => .shr (hpD s)) (fun pre s => ∃ x10 x12 x13, s = [e0, e1, e2, some (.shr (tupI d.1)), x4, x5, x6, x7, x8, some (.shr (.list (L.map hpD))), x10, x11, x12, x13, none]) (by rw [List.map_map]; rfl) ?_ ⟨_, _, _, rfl⟩ ?_
  · rintro pre S post _ K hx ⟨x10, x12, x13, rfl⟩ hK
    refine ⟨d, S, rfl, rfl, by decide, d, S, rfl, dok_bool 8 _, dok_bool 8 _, ?_⟩
    rw [eqv_bool, decide_eq_true rfl]
    refine ⟨trivial, dok_heap 6 _, dok_heap 6 _, ?_⟩
    rw [eqv_heap, decide_eq_true rfl]
    exact ⟨trivial, hK _ ⟨_, _, _, rfl⟩⟩
  · rintro _ ⟨x10, x12, x13, rfl⟩
    exact hP _ _ _ _
theorem or_tail {d : DialT} {A : List (Mk d)} {i : Nat} {sl : Slots} {Q : R → Slots → Prop} (h : sl[i]? = some (some (.own (A.map encM)))) (h1 : ∀ x B, A.drop 1 = x :: B → Q (.e (.own ((x :: B).map encM))) sl) (h2 : A.drop 1 = [] → Q (.al i) sl) :
    eOr (eSl (eVar i) (oPart (eC (.int 1))) oNo) (eVar i) sl Q := by
  simp only [eOr, eSl, eVar, oPart, eC, oNo, oSl, datR, atS, h, Ent.dat, lstR, Ent.lsts, intD, cut_one, truD]
  cases e : A.drop 1 with
  | nil => exact h2 e
  | cons x B => exact h1 x B e
def tl9 : WS := (sSet 9 (eLst (aCons (eVar 6) (aCons (eVar 8) (aCons (eOr (eSl (eVar 6) (oPart (eC (.int 1))) oNo) (eVar 6)) (aCons (eCall φ__law_set [.mu, .rd] (aCons (eVar 2) (aCons (eVar 3) aNil))) aNil))))))
theorem tl9_ok {d : DialT} (P : Post) (A M1 : List (Mk d)) (a b c n : Int) (e0 e1 x4 x5 x7 x9 x10 x11 x12 x13 : Option Ent) (kk : Dk b c n) (hn : n < 10000) (hP : ∀ a' c' (L : List (List (Mk d))) x6 x8, P.nx [e0, e1, some (deckE a' b c'), some (.shr (tupI d.1)), x4, x5, x6, x7, x8, some (.own (L.map hpD)), x10, x11, x12, x13, none]) :
    tl9 [e0, e1, some (deckE a b c), some (.shr (tupI d.1)), x4, x5, some (.own (A.map encM)), x7, some (.own (M1.map encM)), x9, x10, x11, x12, x13, none] P := by
  have ev : ∀ (i : Nat) (sl : Slots) (Q : R → Slots → Prop) x, sl[i]? = some (some (.own x)) → Q (.al i) sl → eVar i sl Q := fun i sl Q x h q => by
    unfold eVar; rw [h]; exact q
  unfold tl9 sSet eLst
  refine ev 6 _ _ _ rfl ?_
  refine ev 8 _ _ _ rfl ?_
  refine or_tail (A := A) (i := 6) rfl (fun x B e => ?_) (fun e => ?_)
  · refine ⟨trivial, a, b, c, _, d, rfl, kk, by omega, fun a6 c6 S k6 => ⟨nl, ?_⟩⟩
    exact hP a6 c6 [A, M1, x :: B, S] _ _
  · refine ⟨trivial, a, b, c, _, d, rfl, kk, by omega, fun a6 c6 S k6 => ⟨nl, ?_⟩⟩
    exact hP a6 c6 [A, M1, A, S] _ _
def φ_law : FS := fun es Q _ => ∃ ns : List Int, es = [.bor (lstI ns)] ∧ ns.length ≤ 63 ∧ Q (.shr (.bool true)) []
theorem h_law : ∀ es Q E, φ_law es Q E → es.length = ([.rd] : List Mode).length → w_law (startS N_law.length es) (endP [.rd] Q fun _ _ => False) := by
  rintro es Q E ⟨ns, rfl, hl, hQ⟩ -
  have hcut : cutD (ns.map PyData.int) none (some 4) = (ns.take 4).map .int := by
    have := cutD_take (ns.map PyData.int) 4
    rw [show ((4 : Nat) : Int) = 4 from rfl] at this
    rw [this, List.map_take]
  obtain ⟨cells, ec⟩ : ∃ cells : List Int, cells = 0 :: ns.take 4 := ⟨_, rfl⟩
  have hcells : [PyData.int 0] ++ cutD (ns.map PyData.int) none (some 4) = cells.map .int := by rw [hcut, ec]; rfl
  refine ⟨nl, sols_ints _, small_sz (by rw [hcut]; simp; omega), ?_⟩
  refine wFor_allE (xs := cells) (ι := shI) (fun _ s => ∃ x1 x2 x3 x4 x5 x6 x7 x8 x9 x10 x11 x12 x13, s = [some (.bor (lstI ns)), x1, x2, x3, x4, x5, x6, x7, x8, x9, x10, x11, x12, x13, none]) (by rw [hcells]; exact shr_ints _) ?_ ⟨_, _, _, _, _, _, _, _, _, _, _, _, _, rfl⟩ ?_
  · rintro pre cell post _ K hx ⟨x1, x2, x3, x4, x5, x6, x7, x8, x9, x10, x11, x12, x13, rfl⟩ hK
    refine ⟨cell, 0, rfl, by decide, fun a b c k0 => ?_⟩
    refine ⟨trivial, a, b, c, _, rfl, k0, by decide, fun a1 c1 d k1 => ?_⟩
    refine ⟨trivial, a1, b, c1, _, 6, rfl, k1, by decide, by decide, by decide, fun a2 c2 r k2 r0 r1 => ?_⟩
    refine ⟨⟨by omega, by omega⟩, ?_⟩
    refine wLc_relE (xs := List.range r.toNat) (ι := fun i => shI (0 + (i : Nat))) (fun pre acc s => ∃ (a' c' : Int) (ms : List (Mk d)), s = [some (.bor (lstI ns)), some (shI cell), some (deckE a' b c'), some (.shr (tupI d.1)), x4, x5, x6, x7, x8, x9, x10, x11, x12, x13, none] ∧ acc = ms.map encM ∧ ms.length = pre.length ∧ Dk b c' (50 + 3 * pre.length)) rfl ?_ (small_sz (by simp; omega)) ⟨a2, c2, [], rfl, rfl, rfl, k2.up (by simp)⟩ ?_
    · rintro pre2 x post2 _ acc K2 hx2 ha ⟨a', c', ms, rfl, rfl, hml, kk⟩ hK2
      have l3 := congrArg List.length hx2
      simp only [List.length_append, List.length_cons, List.length_range] at l3
      refine ⟨trivial, a', b, c', _, d, rfl, kk, by omega, fun a4 c4 m k4 => ?_⟩
      exact ⟨ha, hK2 _ _ ⟨a4, c4, ms ++ [m], rfl, by simp, by simp [hml], k4.up (by simp; omega)⟩⟩
    · rintro acc s ⟨a3, c3, ms, rfl, rfl, hml, k3⟩
      rw [List.length_range] at hml k3
      obtain ⟨A, eA⟩ : ∃ A, A = genL ms := ⟨_, rfl⟩
      have as : A.length ≤ 40 := by rw [eA]; exact setL_small _
      have a0 : A ≠ [] := by
        obtain ⟨g, hg⟩ := allK_head d
        intro z
        have : (0 : Mk d) ∈ A := by rw [eA]; exact mem_genL.mpr .zero
        rw [z] at this
        cases this
      have cnt : (allK d).length % A.length = 0 := by rw [eA, ← sides_count ms, Nat.mul_mod_left]
      refine ⟨d, ms, rfl, ?_⟩
      rw [← eA]
      refine ⟨⟨by decide, by decide⟩, ?_⟩
      refine wFor_allE (xs := List.range 2) (ι := fun i => shI (0 + (i : Nat))) (fun pre s => ∃ x7 x11, s = [some (.bor (lstI ns)), some (shI cell), some (deckE a3 b c3), some (.shr (tupI d.1)), some (.own (ms.map encM)), some (.own (ms.map encM)), some (.own (A.map encM)), x7, x8, x9, x10, x11, x12, x13, none]) rfl ?_ ⟨_, _, rfl⟩ ?_
      · rintro pre2 x post2 _ K2 hx2 ⟨x7, x11, rfl⟩ hK2
        refine ⟨d, ms, rfl, ?_⟩
        rw [← eA]
        refine ⟨rfl, by decide, dok_heap 6 _, dok_heap 6 _, ?_⟩
        rw [eqv_heap, decide_eq_true rfl]
        refine ⟨trivial, dok_heap 6 _, dok_heap 6 _, ?_⟩
        rw [eqv_heap, decide_eq_true rfl]
        exact ⟨trivial, rfl, of_small (by rw [List.length_map]; omega), hK2 _ ⟨_, _, rfl⟩⟩
      · rintro _ ⟨x7, x11, rfl⟩
        refine ⟨d, rfl, (by have := List.length_pos_iff.mpr a0; rw [List.length_map]; omega), trivial, dok_int 8 _, dok_int 8 _, ?_⟩
        rw [eqv_int, decide_eq_true (show ((((allK d).map encM).length : Nat) : Int) % (((A.map encM).length : Nat) : Int) = 0 from by
          rw [List.length_map, List.length_map]
          exact (Int.natCast_emod _ _).symm.trans (by rw [cnt]; rfl))]
        refine ⟨trivial, trivial, a3, b, c3, _, d, ms, (by rw [← eA] <;> rfl), k3, by omega, fun a4 c4 k4 => ?_⟩
        refine ⟨trivial, a4, b, c4, _, d, rfl, k4, by omega, fun a5 c5 m k5 => ?_⟩
        refine ⟨nl, small_sz (by rw [List.length_map]; simp; omega), rfl, (A ++ [m]).map (·.1), d.1.length, 64, by rw [map_encM, List.map_append]; rfl, by simp; omega, d.2.good.len.1, fun k hk => ?_, fun L h1 h2 h3 => ?_⟩
        · obtain ⟨y, _, rfl⟩ := List.mem_map.mp hk
          exact ⟨mk_len y, mk_bd y⟩
        rw [sorted_marks h1 h2 h3, map_encM]
        obtain ⟨M1, eM⟩ : ∃ M1, M1 = setL fun y => decide (y ∈ A ++ [m]) := ⟨_, rfl⟩
        rw [← eM]
        exact tl9_ok _ A M1 a5 b c5 _ _ _ _ _ _ _ _ _ _ _ k5 (by omega) fun a6 c6 L x6 x8 => tl12_ok (d := d) _ L _ _ _ _ _ _ _ _ _ _ _ _ fun _ _ _ _ => hK _ ⟨_, _, _, _, _, _, _, _, _, _, _, _, _, rfl⟩
  · rintro _ ⟨x1, x2, x3, x4, x5, x6, x7, x8, x9, x10, x11, x12, x13, rfl⟩
    exact ⟨trivial, hQ⟩


theorem ok_law {P : Program} {w : World} {K : PySem.W.Frag} {mg : Str → Option Value} {base : Heap} (T : Txt mg) {f : Addr} {fd : FuncData} (D : FD K mg "law" "law" st_law ["script"] f fd) {f_is_closed : Addr} {fd_is_closed : FuncData} (D_is_closed : FD K mg "is_closed" "is_closed" st_is_closed ["dial", "some"] f_is_closed fd_is_closed) (G_is_closed : FnOk P w K mg base CX0 3 f_is_closed fd_is_closed ["dial", "some"] (spOf ⟨P, w, K⟩ [.rd, .rd] φ_is_closed)) {f_closed_by : Addr} {fd_closed_by : FuncData} (D_closed_by : FD K mg "closed_by" "closed_by" st_closed_by ["dial", "marks"] f_closed_by fd_closed_by) (G_closed_by : FnOk P w K mg base CX0 4 f_closed_by fd_closed_by ["dial", "marks"] (spOf ⟨P, w, K⟩ [.rd, .rd] φ_closed_by)) {f__law_deck : Addr} {fd__law_deck : FuncData} (D__law_deck : FD K mg "_law_deck" "_law_deck" st__law_deck ["cell", "turn"] f__law_deck fd__law_deck) (G__law_deck : FnOk P w K mg base CX0 1 f__law_deck fd__law_deck ["cell", "turn"] (spOf ⟨P, w, K⟩ [.rd, .rd] φ__law_deck)) {f__law_pick : Addr} {fd__law_pick : FuncData} (D__law_pick : FD K mg "_law_pick" "_law_pick" st__law_pick ["deck", "many"] f__law_pick fd__law_pick) (G__law_pick : FnOk P w K mg base CX0 1 f__law_pick fd__law_pick ["deck", "many"] (spOf ⟨P, w, K⟩ [.mu, .rd] φ__law_pick)) {f__law_dial : Addr} {fd__law_dial : FuncData} (D__law_dial : FD K mg "_law_dial" "_law_dial" st__law_dial ["deck"] f__law_dial fd__law_dial) (G__law_dial : FnOk P w K mg base CX0 2 f__law_dial fd__law_dial ["deck"] (spOf ⟨P, w, K⟩ [.mu] φ__law_dial)) {f__law_mark : Addr} {fd__law_mark : FuncData} (D__law_mark : FD K mg "_law_mark" "_law_mark" st__law_mark ["deck", "dial"] f__law_mark fd__law_mark) (G__law_mark : FnOk P w K mg base CX0 2 f__law_mark fd__law_mark ["deck", "dial"] (spOf ⟨P, w, K⟩ [.mu, .rd] φ__law_mark)) {f__law_all : Addr} {fd__law_all : FuncData} (D__law_all : FD K mg "_law_all" "_law_all" st__law_all ["dial"] f__law_all fd__law_all) (G__law_all : FnOk P w K mg base CX0 1 f__law_all fd__law_all ["dial"] (spOf ⟨P, w, K⟩ [.rd] φ__law_all)) {f__law_set : Addr} {fd__law_set : FuncData} (D__law_set : FD K mg "_law_set" "_law_set" st__law_set ["deck", "dial"] f__law_set fd__law_set) (G__law_set : FnOk P w K mg base CX0 3 f__law_set fd__law_set ["deck", "dial"] (spOf ⟨P, w, K⟩ [.mu, .rd] φ__law_set)) {f__law_closed : Addr} {fd__law_closed : FuncData} (D__law_closed : FD K mg "_law_closed" "_law_closed" st__law_closed ["dial", "marks"] f__law_closed fd__law_closed) (G__law_closed : FnOk P w K mg base CX0 2 f__law_closed fd__law_closed ["dial", "marks"] (spOf ⟨P, w, K⟩ [.rd, .rd] φ__law_closed)) {f__law_is_closed : Addr} {fd__law_is_closed : FuncData} (D__law_is_closed : FD K mg "_law_is_closed" "_law_is_closed" st__law_is_closed ["dial", "some"] f__law_is_closed fd__law_is_closed) (G__law_is_closed : FnOk P w K mg base CX0 3 f__law_is_closed fd__law_is_closed ["dial", "some"] (spOf ⟨P, w, K⟩ [.rd, .rd] φ__law_is_closed)) {f__law_sides_right : Addr} {fd__law_sides_right : FuncData} (D__law_sides_right : FD K mg "_law_sides_right" "_law_sides_right" st__law_sides_right ["deck", "dial", "closed"] f__law_sides_right fd__law_sides_right) (G__law_sides_right : FnOk P w K mg base CX0 4 f__law_sides_right fd__law_sides_right ["deck", "dial", "closed"] (spOf ⟨P, w, K⟩ [.mu, .rd, .rd] φ__law_sides_right)) : FnOk P w K mg base CX0 5 f fd ["script"] (spOf ⟨P, w, K⟩ [.rd] φ_law) := by
  refine fn_v (k := 4) (wb := w_law) D.F sc_law rfl h_law fun cdv A outer s H E hr => ?_
  have sc := sc_law
  have hu := hu64 hr
  exact (ss_cons (s_for (ss := [1]) PassesOwn.never rfl (i_seq (v_op o_add (v_lst (va_cons v_int va_nil)) (v_sl (vv 0) vo_none (vo_some v_int)))) (g_name (i := 1) (by decide) (by decide) sc.nd rfl (by first | exact Or.inl rfl | exact Or.inr rfl)) (ss_cons (s_set (i := 2) (by decide) sc.nd rfl (by first | exact Or.inl rfl | exact Or.inr rfl) (v_call G__law_deck (hr.mono (by decide)) (by rfl) D__law_deck.m D__law_deck.k D__law_deck.b (va_cons (vv 1) (va_cons v_int va_nil))))
    (ss_cons (s_set (i := 3) (by decide) sc.nd rfl (by first | exact Or.inl rfl | exact Or.inr rfl) (v_call G__law_dial (hr.mono (by decide)) (by rfl) D__law_dial.m D__law_dial.k D__law_dial.b (va_cons (vv 2) va_nil)))
    (ss_cons (s_setLc (i := 4) (by decide) rfl sc.nd rfl (by rfl) (sw_true rfl (by rfl) (by rfl) (by rfl)) (own := [("k", 14)]) (i_rng1 (by rfl) T.n_range (va_cons (v_call G__law_pick (hr.mono (by decide)) (by rfl) D__law_pick.m D__law_pick.k D__law_pick.b (va_cons (vv 2) (va_cons v_int va_nil))) va_nil)) (show BlkOk N_law (defScope st_law) _ [("k", 14)] from ⟨rfl, by decide +kernel, by decide +kernel, by decide +kernel, by decide +kernel⟩) (fun _ _ _ _ _ => (g_name (i := 14) (by decide) (by decide) sc.nd rfl (by first | exact Or.inl rfl | exact Or.inr rfl))) (fun _ _ _ _ _ => vts_nil) (fun _ _ _ _ _ => (v_call G__law_mark (hr.mono (by decide)) (by rfl) D__law_mark.m D__law_mark.k D__law_mark.b (va_cons (vv 2) (va_cons (vv 3) va_nil)))))
    (ss_cons (s_set (i := 5) (by decide) sc.nd rfl (by first | exact Or.inl rfl | exact Or.inr rfl) (v_callTy c_list (by rfl) T.n_list bt_list (va_cons (vv 4) va_nil)))
    (ss_cons (s_set (i := 6) (by decide) sc.nd rfl (by first | exact Or.inl rfl | exact Or.inr rfl) (v_call G__law_closed (hr.mono (by decide)) (by rfl) D__law_closed.m D__law_closed.k D__law_closed.b (va_cons (vv 3) (va_cons (vv 4) va_nil))))
    (ss_cons (s_for (ss := [7]) PassesOwn.never rfl (i_rng1 (by rfl) T.n_range (va_cons v_int va_nil)) (g_name (i := 7) (by decide) (by decide) sc.nd rfl (by first | exact Or.inl rfl | exact Or.inr rfl)) (ss_cons (s_set (i := 11) (by decide) sc.nd rfl (by first | exact Or.inl rfl | exact Or.inr rfl) (v_call G_closed_by (hr.mono (by decide)) (by rfl) D_closed_by.m D_closed_by.k D_closed_by.b (va_cons (vv 3) (va_cons (vv 5) va_nil))))
    (ss_cons (s_if (vt_w (vw_or (vt_not (vt_truth (v_callB c_isi (by rfl) T.n_isinstance bt_isinstance (va_cons (vv 11) (va_cons (v_bltn (v := (.ty "list")) (by rfl) T.n_list bt_list rfl) va_nil))))) (vw_or (vt_cmp (o_ne hu) (vv 11) (vv 6) (nomark _)) (vw_or1 (vt_cmp (o_ne hu) (vv 5) (vv 4) (nomark _)))))) (ss_one (s_ret v_bool)) ss_nil)
    (ss_one (s_exp (v_mt PySem.F.plainAttrs_list PySem.F.slot_list_append PySem.F.type_list_append m_append (vv 11) (va_cons v_none va_nil)))))))
    (ss_cons (s_if (vt_w (vw_or (vt_cmp (o_ne hu) (v_op o_mod (v_callB c_len (by rfl) T.n_len bt_len (va_cons (v_call G__law_all (hr.mono (by decide)) (by rfl) D__law_all.m D__law_all.k D__law_all.b (va_cons (vv 3) va_nil)) va_nil)) (v_callB c_len (by rfl) T.n_len bt_len (va_cons (vv 6) va_nil))) v_int (nomark _)) (vw_or1 (vt_not (vt_truth (v_call G__law_sides_right (hr.mono (by decide)) (by rfl) D__law_sides_right.m D__law_sides_right.k D__law_sides_right.b (va_cons (vv 2) (va_cons (vv 3) (va_cons (vv 6) va_nil))))))))) (ss_one (s_ret v_bool)) ss_nil)
    (ss_cons (s_set (i := 8) (by decide) sc.nd rfl (by first | exact Or.inl rfl | exact Or.inr rfl) (v_sortSet rfl hu (by rfl) T.n_sorted (by rfl) T.n_set (v_op o_add (vv 6) (v_lst (va_cons (v_call G__law_mark (hr.mono (by decide)) (by rfl) D__law_mark.m D__law_mark.k D__law_mark.b (va_cons (vv 2) (va_cons (vv 3) va_nil))) va_nil)))))
    (ss_cons (s_set (i := 9) (by decide) sc.nd rfl (by first | exact Or.inl rfl | exact Or.inr rfl) (v_lst (va_cons (vv 6) (va_cons (vv 8) (va_cons (v_or (v_sl (vv 6) (vo_some v_int) vo_none) (v_one (vv 6))) (va_cons (v_call G__law_set (hr.mono (by decide)) (by rfl) D__law_set.m D__law_set.k D__law_set.b (va_cons (vv 2) (va_cons (vv 3) va_nil))) va_nil))))))
    (ss_one (s_for (ss := [10]) PassesOwn.never rfl (i_seq (vv 9)) (g_name (i := 10) (by decide) (by decide) sc.nd rfl (by first | exact Or.inl rfl | exact Or.inr rfl)) (ss_cons (s_set (i := 12) (by decide) sc.nd rfl (by first | exact Or.inl rfl | exact Or.inr rfl) (v_callTy c_list (by rfl) T.n_list bt_list (va_cons (vv 10) va_nil)))
    (ss_cons (s_set (i := 13) (by decide) sc.nd rfl (by first | exact Or.inl rfl | exact Or.inr rfl) (v_call G_is_closed (hr.mono (by decide)) (by rfl) D_is_closed.m D_is_closed.k D_is_closed.b (va_cons (vv 3) (va_cons (vv 10) va_nil))))
    (ss_one (s_if (vt_w (vw_or (vt_not (vt_truth (v_callB c_isi (by rfl) T.n_isinstance bt_isinstance (va_cons (vv 13) (va_cons (v_bltn (v := (.ty "bool")) (by rfl) T.n_bool bt_bool rfl) va_nil))))) (vw_or (vt_cmp (o_ne hu) (vv 13) (v_call G__law_is_closed (hr.mono (by decide)) (by rfl) D__law_is_closed.m D__law_is_closed.k D__law_is_closed.b (va_cons (vv 3) (va_cons (vv 10) va_nil))) (nomark _)) (vw_or1 (vt_cmp (o_ne hu) (vv 10) (vv 12) (nomark _)))))) (ss_one (s_ret v_bool)) ss_nil))))))))))))))))
    (ss_one (s_ret v_bool)))



theorem all_mk {l : PySem.W.OpenLaw} {w : World} {K : PySem.W.Frag} {h : Heap} {mg : Str → Option Value} {fa f0 f1 f2 f3 f4 f5 f6 f7 f8 f9 f10 f11 f12 f13 f14 f15 f16 f17 f18 f19 : Addr} (X : K.In h) (G : h.Ns mainGlobals mg) (hfa : mg "law" = some (.ref fa))
    {od0 an0 od1 an1 od2 an2 od3 an3 od4 an4 od5 an5 od6 an6 od7 an7 od8 an8 od9 an9 od10 an10 od11 an11 od12 an12 od13 an13 od14 an14 od15 an15 od16 an16 od17 an17 od18 an18 od19 an19 : Option Addr} {sl0 sl1 sl2 sl3 sl4 sl5 sl6 sl7 sl8 sl9 sl10 sl11 sl12 sl13 sl14 sl15 sl16 sl17 sl18 sl19 : Array (Option Value)} {oc0 kV0 dc0 pm0 cd0 ct0 oc1 kV1 dc1 pm1 cd1 ct1 oc2 kV2 dc2 pm2 cd2 ct2 oc3 kV3 dc3 pm3 cd3 ct3 oc4 kV4 dc4 pm4 cd4 ct4 oc5 kV5 dc5 pm5 cd5 ct5 oc6 kV6 dc6 pm6 cd6 ct6 oc7 kV7 dc7 pm7 cd7 ct7 oc8 kV8 dc8 pm8 cd8 ct8 oc9 kV9 dc9 pm9 cd9 ct9 oc10 kV10 dc10 pm10 cd10 ct10 oc11 kV11 dc11 pm11 cd11 ct11 oc12 kV12 dc12 pm12 cd12 ct12 oc13 kV13 dc13 pm13 cd13 ct13 oc14 kV14 dc14 pm14 cd14 ct14 oc15 kV15 dc15 pm15 cd15 ct15 oc16 kV16 dc16 pm16 cd16 ct16 oc17 kV17 dc17 pm17 cd17 ct17 oc18 kV18 dc18 pm18 cd18 ct18 oc19 kV19 dc19 pm19 cd19 ct19 : Value}
    (a0 : PySem.W.nsIn K mainGlobals "nought" = some (some (.ref f0))) (l0 : K.lookup f0 = some ⟨oc0, od0, .func (PySem.W.fnOf "nought" "nought" (defArgs st_nought) (defBody st_nought) (defScope st_nought) .none kV0 dc0 pm0 an0 cd0 ct0), sl0⟩) (c0 : PySem.W.codeIn K cd0 "nought" = true) (k0 : PySem.W.keepIn K (.ref f0) = true)
    (a1 : PySem.W.nsIn K mainGlobals "marks_of" = some (some (.ref f1))) (l1 : K.lookup f1 = some ⟨oc1, od1, .func (PySem.W.fnOf "marks_of" "marks_of" (defArgs st_marks_of) (defBody st_marks_of) (defScope st_marks_of) .none kV1 dc1 pm1 an1 cd1 ct1), sl1⟩) (c1 : PySem.W.codeIn K cd1 "marks_of" = true) (k1 : PySem.W.keepIn K (.ref f1) = true)
    (a2 : PySem.W.nsIn K mainGlobals "added" = some (some (.ref f2))) (l2 : K.lookup f2 = some ⟨oc2, od2, .func (PySem.W.fnOf "added" "added" (defArgs st_added) (defBody st_added) (defScope st_added) .none kV2 dc2 pm2 an2 cd2 ct2), sl2⟩) (c2 : PySem.W.codeIn K cd2 "added" = true) (k2 : PySem.W.keepIn K (.ref f2) = true)
    (a3 : PySem.W.nsIn K mainGlobals "sums" = some (some (.ref f3))) (l3 : K.lookup f3 = some ⟨oc3, od3, .func (PySem.W.fnOf "sums" "sums" (defArgs st_sums) (defBody st_sums) (defScope st_sums) .none kV3 dc3 pm3 an3 cd3 ct3), sl3⟩) (c3 : PySem.W.codeIn K cd3 "sums" = true) (k3 : PySem.W.keepIn K (.ref f3) = true)
    (a4 : PySem.W.nsIn K mainGlobals "keepers" = some (some (.ref f4))) (l4 : K.lookup f4 = some ⟨oc4, od4, .func (PySem.W.fnOf "keepers" "keepers" (defArgs st_keepers) (defBody st_keepers) (defScope st_keepers) .none kV4 dc4 pm4 an4 cd4 ct4), sl4⟩) (c4 : PySem.W.codeIn K cd4 "keepers" = true) (k4 : PySem.W.keepIn K (.ref f4) = true)
    (a5 : PySem.W.nsIn K mainGlobals "is_closed" = some (some (.ref f5))) (l5 : K.lookup f5 = some ⟨oc5, od5, .func (PySem.W.fnOf "is_closed" "is_closed" (defArgs st_is_closed) (defBody st_is_closed) (defScope st_is_closed) .none kV5 dc5 pm5 an5 cd5 ct5), sl5⟩) (c5 : PySem.W.codeIn K cd5 "is_closed" = true) (k5 : PySem.W.keepIn K (.ref f5) = true)
    (a6 : PySem.W.nsIn K mainGlobals "closed_by" = some (some (.ref f6))) (l6 : K.lookup f6 = some ⟨oc6, od6, .func (PySem.W.fnOf "closed_by" "closed_by" (defArgs st_closed_by) (defBody st_closed_by) (defScope st_closed_by) .none kV6 dc6 pm6 an6 cd6 ct6), sl6⟩) (c6 : PySem.W.codeIn K cd6 "closed_by" = true) (k6 : PySem.W.keepIn K (.ref f6) = true)
    (a7 : PySem.W.nsIn K mainGlobals "sides" = some (some (.ref f7))) (l7 : K.lookup f7 = some ⟨oc7, od7, .func (PySem.W.fnOf "sides" "sides" (defArgs st_sides) (defBody st_sides) (defScope st_sides) .none kV7 dc7 pm7 an7 cd7 ct7), sl7⟩) (c7 : PySem.W.codeIn K cd7 "sides" = true) (k7 : PySem.W.keepIn K (.ref f7) = true)
    (a8 : PySem.W.nsIn K mainGlobals "_law_deck" = some (some (.ref f8))) (l8 : K.lookup f8 = some ⟨oc8, od8, .func (PySem.W.fnOf "_law_deck" "_law_deck" (defArgs st__law_deck) (defBody st__law_deck) (defScope st__law_deck) .none kV8 dc8 pm8 an8 cd8 ct8), sl8⟩) (c8 : PySem.W.codeIn K cd8 "_law_deck" = true) (k8 : PySem.W.keepIn K (.ref f8) = true)
    (a9 : PySem.W.nsIn K mainGlobals "_law_pick" = some (some (.ref f9))) (l9 : K.lookup f9 = some ⟨oc9, od9, .func (PySem.W.fnOf "_law_pick" "_law_pick" (defArgs st__law_pick) (defBody st__law_pick) (defScope st__law_pick) .none kV9 dc9 pm9 an9 cd9 ct9), sl9⟩) (c9 : PySem.W.codeIn K cd9 "_law_pick" = true) (k9 : PySem.W.keepIn K (.ref f9) = true)
    (a10 : PySem.W.nsIn K mainGlobals "_law_dial" = some (some (.ref f10))) (l10 : K.lookup f10 = some ⟨oc10, od10, .func (PySem.W.fnOf "_law_dial" "_law_dial" (defArgs st__law_dial) (defBody st__law_dial) (defScope st__law_dial) .none kV10 dc10 pm10 an10 cd10 ct10), sl10⟩) (c10 : PySem.W.codeIn K cd10 "_law_dial" = true) (k10 : PySem.W.keepIn K (.ref f10) = true)
    (a11 : PySem.W.nsIn K mainGlobals "_law_mark" = some (some (.ref f11))) (l11 : K.lookup f11 = some ⟨oc11, od11, .func (PySem.W.fnOf "_law_mark" "_law_mark" (defArgs st__law_mark) (defBody st__law_mark) (defScope st__law_mark) .none kV11 dc11 pm11 an11 cd11 ct11), sl11⟩) (c11 : PySem.W.codeIn K cd11 "_law_mark" = true) (k11 : PySem.W.keepIn K (.ref f11) = true)
    (a12 : PySem.W.nsIn K mainGlobals "_law_all" = some (some (.ref f12))) (l12 : K.lookup f12 = some ⟨oc12, od12, .func (PySem.W.fnOf "_law_all" "_law_all" (defArgs st__law_all) (defBody st__law_all) (defScope st__law_all) .none kV12 dc12 pm12 an12 cd12 ct12), sl12⟩) (c12 : PySem.W.codeIn K cd12 "_law_all" = true) (k12 : PySem.W.keepIn K (.ref f12) = true)
    (a13 : PySem.W.nsIn K mainGlobals "_law_sum" = some (some (.ref f13))) (l13 : K.lookup f13 = some ⟨oc13, od13, .func (PySem.W.fnOf "_law_sum" "_law_sum" (defArgs st__law_sum) (defBody st__law_sum) (defScope st__law_sum) .none kV13 dc13 pm13 an13 cd13 ct13), sl13⟩) (c13 : PySem.W.codeIn K cd13 "_law_sum" = true) (k13 : PySem.W.keepIn K (.ref f13) = true)
    (a14 : PySem.W.nsIn K mainGlobals "_law_set" = some (some (.ref f14))) (l14 : K.lookup f14 = some ⟨oc14, od14, .func (PySem.W.fnOf "_law_set" "_law_set" (defArgs st__law_set) (defBody st__law_set) (defScope st__law_set) .none kV14 dc14 pm14 an14 cd14 ct14), sl14⟩) (c14 : PySem.W.codeIn K cd14 "_law_set" = true) (k14 : PySem.W.keepIn K (.ref f14) = true)
    (a15 : PySem.W.nsIn K mainGlobals "_law_sums" = some (some (.ref f15))) (l15 : K.lookup f15 = some ⟨oc15, od15, .func (PySem.W.fnOf "_law_sums" "_law_sums" (defArgs st__law_sums) (defBody st__law_sums) (defScope st__law_sums) .none kV15 dc15 pm15 an15 cd15 ct15), sl15⟩) (c15 : PySem.W.codeIn K cd15 "_law_sums" = true) (k15 : PySem.W.keepIn K (.ref f15) = true)
    (a16 : PySem.W.nsIn K mainGlobals "_law_closed" = some (some (.ref f16))) (l16 : K.lookup f16 = some ⟨oc16, od16, .func (PySem.W.fnOf "_law_closed" "_law_closed" (defArgs st__law_closed) (defBody st__law_closed) (defScope st__law_closed) .none kV16 dc16 pm16 an16 cd16 ct16), sl16⟩) (c16 : PySem.W.codeIn K cd16 "_law_closed" = true) (k16 : PySem.W.keepIn K (.ref f16) = true)
    (a17 : PySem.W.nsIn K mainGlobals "_law_is_closed" = some (some (.ref f17))) (l17 : K.lookup f17 = some ⟨oc17, od17, .func (PySem.W.fnOf "_law_is_closed" "_law_is_closed" (defArgs st__law_is_closed) (defBody st__law_is_closed) (defScope st__law_is_closed) .none kV17 dc17 pm17 an17 cd17 ct17), sl17⟩) (c17 : PySem.W.codeIn K cd17 "_law_is_closed" = true) (k17 : PySem.W.keepIn K (.ref f17) = true)
    (a18 : PySem.W.nsIn K mainGlobals "_law_sides_right" = some (some (.ref f18))) (l18 : K.lookup f18 = some ⟨oc18, od18, .func (PySem.W.fnOf "_law_sides_right" "_law_sides_right" (defArgs st__law_sides_right) (defBody st__law_sides_right) (defScope st__law_sides_right) .none kV18 dc18 pm18 an18 cd18 ct18), sl18⟩) (c18 : PySem.W.codeIn K cd18 "_law_sides_right" = true) (k18 : PySem.W.keepIn K (.ref f18) = true)
    (a19 : PySem.W.nsIn K mainGlobals "law" = some (some (.ref f19))) (l19 : K.lookup f19 = some ⟨oc19, od19, .func (PySem.W.fnOf "law" "law" (defArgs st_law) (defBody st_law) (defScope st_law) .none kV19 dc19 pm19 an19 cd19 ct19), sl19⟩) (c19 : PySem.W.codeIn K cd19 "law" = true) (k19 : PySem.W.keepIn K (.ref f19) = true)
    (z_all : PySem.W.nsIn K mainGlobals "all" = some none)
    (z_any : PySem.W.nsIn K mainGlobals "any" = some none)
    (z_bool : PySem.W.nsIn K mainGlobals "bool" = some none)
    (z_int : PySem.W.nsIn K mainGlobals "int" = some none)
    (z_isinstance : PySem.W.nsIn K mainGlobals "isinstance" = some none)
    (z_len : PySem.W.nsIn K mainGlobals "len" = some none)
    (z_list : PySem.W.nsIn K mainGlobals "list" = some none)
    (z_max : PySem.W.nsIn K mainGlobals "max" = some none)
    (z_min : PySem.W.nsIn K mainGlobals "min" = some none)
    (z_range : PySem.W.nsIn K mainGlobals "range" = some none)
    (z_set : PySem.W.nsIn K mainGlobals "set" = some none)
    (z_sorted : PySem.W.nsIn K mainGlobals "sorted" = some none)
    (z_sum : PySem.W.nsIn K mainGlobals "sum" = some none)
    (z_tuple : PySem.W.nsIn K mainGlobals "tuple" = some none)
    (z_zip : PySem.W.nsIn K mainGlobals "zip" = some none) :
    ∃ fd : FuncData, (∀ (s : Shared) (v : Value), BindsTo s fd ⟨[v], []⟩ [("script", v)]) ∧ ∀ base : Heap, K.In base → base.Ns mainGlobals mg → FnOk l.prog w K mg base CX0 5 fa fd ["script"] (spLaw K) := by
  have e := hfa.symm.trans (PySem.W.mg_of X G a19)
  obtain rfl : f19 = fa := by cases e; rfl
  have T : Txt mg := ⟨PySem.W.mg_none_of X G z_all, PySem.W.mg_none_of X G z_any, PySem.W.mg_none_of X G z_bool, PySem.W.mg_none_of X G z_int, PySem.W.mg_none_of X G z_isinstance, PySem.W.mg_none_of X G z_len, PySem.W.mg_none_of X G z_list, PySem.W.mg_none_of X G z_max, PySem.W.mg_none_of X G z_min, PySem.W.mg_none_of X G z_range, PySem.W.mg_none_of X G z_set, PySem.W.mg_none_of X G z_sorted, PySem.W.mg_none_of X G z_sum, PySem.W.mg_none_of X G z_tuple, PySem.W.mg_none_of X G z_zip⟩
  have F0 := fun_mk (st := st_nought) l0 c0 k0
  have D0 : FD K mg "nought" "nought" st_nought ["dial"] f0 _ := ⟨F0, F0.binds (ps := ["dial"]) fun _ _ _ _ _ _ us hl => match us, hl with | [_], _ => rfl, k0, PySem.W.mg_of X G a0⟩
  have F1 := fun_mk (st := st_marks_of) l1 c1 k1
  have D1 : FD K mg "marks_of" "marks_of" st_marks_of ["dial"] f1 _ := ⟨F1, F1.binds (ps := ["dial"]) fun _ _ _ _ _ _ us hl => match us, hl with | [_], _ => rfl, k1, PySem.W.mg_of X G a1⟩
  have F2 := fun_mk (st := st_added) l2 c2 k2
  have D2 : FD K mg "added" "added" st_added ["dial", "one", "other"] f2 _ := ⟨F2, F2.binds (ps := ["dial", "one", "other"]) fun _ _ _ _ _ _ us hl => match us, hl with | [_, _, _], _ => rfl, k2, PySem.W.mg_of X G a2⟩
  have F3 := fun_mk (st := st_sums) l3 c3 k3
  have D3 : FD K mg "sums" "sums" st_sums ["dial", "one", "other"] f3 _ := ⟨F3, F3.binds (ps := ["dial", "one", "other"]) fun _ _ _ _ _ _ us hl => match us, hl with | [_, _, _], _ => rfl, k3, PySem.W.mg_of X G a3⟩
  have F4 := fun_mk (st := st_keepers) l4 c4 k4
  have D4 : FD K mg "keepers" "keepers" st_keepers ["dial", "some"] f4 _ := ⟨F4, F4.binds (ps := ["dial", "some"]) fun _ _ _ _ _ _ us hl => match us, hl with | [_, _], _ => rfl, k4, PySem.W.mg_of X G a4⟩
  have F5 := fun_mk (st := st_is_closed) l5 c5 k5
  have D5 : FD K mg "is_closed" "is_closed" st_is_closed ["dial", "some"] f5 _ := ⟨F5, F5.binds (ps := ["dial", "some"]) fun _ _ _ _ _ _ us hl => match us, hl with | [_, _], _ => rfl, k5, PySem.W.mg_of X G a5⟩
  have F6 := fun_mk (st := st_closed_by) l6 c6 k6
  have D6 : FD K mg "closed_by" "closed_by" st_closed_by ["dial", "marks"] f6 _ := ⟨F6, F6.binds (ps := ["dial", "marks"]) fun _ _ _ _ _ _ us hl => match us, hl with | [_, _], _ => rfl, k6, PySem.W.mg_of X G a6⟩
  have F7 := fun_mk (st := st_sides) l7 c7 k7
  have D7 : FD K mg "sides" "sides" st_sides ["dial", "some"] f7 _ := ⟨F7, F7.binds (ps := ["dial", "some"]) fun _ _ _ _ _ _ us hl => match us, hl with | [_, _], _ => rfl, k7, PySem.W.mg_of X G a7⟩
  have F8 := fun_mk (st := st__law_deck) l8 c8 k8
  have D8 : FD K mg "_law_deck" "_law_deck" st__law_deck ["cell", "turn"] f8 _ := ⟨F8, F8.binds (ps := ["cell", "turn"]) fun _ _ _ _ _ _ us hl => match us, hl with | [_, _], _ => rfl, k8, PySem.W.mg_of X G a8⟩
  have F9 := fun_mk (st := st__law_pick) l9 c9 k9
  have D9 : FD K mg "_law_pick" "_law_pick" st__law_pick ["deck", "many"] f9 _ := ⟨F9, F9.binds (ps := ["deck", "many"]) fun _ _ _ _ _ _ us hl => match us, hl with | [_, _], _ => rfl, k9, PySem.W.mg_of X G a9⟩
  have F10 := fun_mk (st := st__law_dial) l10 c10 k10
  have D10 : FD K mg "_law_dial" "_law_dial" st__law_dial ["deck"] f10 _ := ⟨F10, F10.binds (ps := ["deck"]) fun _ _ _ _ _ _ us hl => match us, hl with | [_], _ => rfl, k10, PySem.W.mg_of X G a10⟩
  have F11 := fun_mk (st := st__law_mark) l11 c11 k11
  have D11 : FD K mg "_law_mark" "_law_mark" st__law_mark ["deck", "dial"] f11 _ := ⟨F11, F11.binds (ps := ["deck", "dial"]) fun _ _ _ _ _ _ us hl => match us, hl with | [_, _], _ => rfl, k11, PySem.W.mg_of X G a11⟩
  have F12 := fun_mk (st := st__law_all) l12 c12 k12
  have D12 : FD K mg "_law_all" "_law_all" st__law_all ["dial"] f12 _ := ⟨F12, F12.binds (ps := ["dial"]) fun _ _ _ _ _ _ us hl => match us, hl with | [_], _ => rfl, k12, PySem.W.mg_of X G a12⟩
  have F13 := fun_mk (st := st__law_sum) l13 c13 k13
  have D13 : FD K mg "_law_sum" "_law_sum" st__law_sum ["dial", "marks"] f13 _ := ⟨F13, F13.binds (ps := ["dial", "marks"]) fun _ _ _ _ _ _ us hl => match us, hl with | [_, _], _ => rfl, k13, PySem.W.mg_of X G a13⟩
  have F14 := fun_mk (st := st__law_set) l14 c14 k14
  have D14 : FD K mg "_law_set" "_law_set" st__law_set ["deck", "dial"] f14 _ := ⟨F14, F14.binds (ps := ["deck", "dial"]) fun _ _ _ _ _ _ us hl => match us, hl with | [_, _], _ => rfl, k14, PySem.W.mg_of X G a14⟩
  have F15 := fun_mk (st := st__law_sums) l15 c15 k15
  have D15 : FD K mg "_law_sums" "_law_sums" st__law_sums ["dial", "one", "other"] f15 _ := ⟨F15, F15.binds (ps := ["dial", "one", "other"]) fun _ _ _ _ _ _ us hl => match us, hl with | [_, _, _], _ => rfl, k15, PySem.W.mg_of X G a15⟩
  have F16 := fun_mk (st := st__law_closed) l16 c16 k16
  have D16 : FD K mg "_law_closed" "_law_closed" st__law_closed ["dial", "marks"] f16 _ := ⟨F16, F16.binds (ps := ["dial", "marks"]) fun _ _ _ _ _ _ us hl => match us, hl with | [_, _], _ => rfl, k16, PySem.W.mg_of X G a16⟩
  have F17 := fun_mk (st := st__law_is_closed) l17 c17 k17
  have D17 : FD K mg "_law_is_closed" "_law_is_closed" st__law_is_closed ["dial", "some"] f17 _ := ⟨F17, F17.binds (ps := ["dial", "some"]) fun _ _ _ _ _ _ us hl => match us, hl with | [_, _], _ => rfl, k17, PySem.W.mg_of X G a17⟩
  have F18 := fun_mk (st := st__law_sides_right) l18 c18 k18
  have D18 : FD K mg "_law_sides_right" "_law_sides_right" st__law_sides_right ["deck", "dial", "closed"] f18 _ := ⟨F18, F18.binds (ps := ["deck", "dial", "closed"]) fun _ _ _ _ _ _ us hl => match us, hl with | [_, _, _], _ => rfl, k18, PySem.W.mg_of X G a18⟩
  have F19 := fun_mk (st := st_law) l19 c19 k19
  have D19 : FD K mg "law" "law" st_law ["script"] f19 _ := ⟨F19, F19.binds (ps := ["script"]) fun _ _ _ _ _ _ us hl => match us, hl with | [_], _ => rfl, k19, PySem.W.mg_of X G a19⟩
  refine ⟨PySem.W.fnOf "law" "law" (defArgs st_law) (defBody st_law) (defScope st_law) .none kV19 dc19 pm19 an19 cd19 ct19, fun s v => .of_eq rfl, fun base _ _ => ?_⟩
  have G0 := ok_nought (P := l.prog) (w := w) (base := base) T D0 
  have G1 := ok_marks_of (P := l.prog) (w := w) (base := base) T D1 
  have G2 := ok_added (P := l.prog) (w := w) (base := base) T D2 
  have G3 := ok_sums (P := l.prog) (w := w) (base := base) T D3 D2 G2
  have G4 := ok_keepers (P := l.prog) (w := w) (base := base) T D4 D1 G1 D3 G3
  have G5 := ok_is_closed (P := l.prog) (w := w) (base := base) T D5 D3 G3
  have G6 := ok_closed_by (P := l.prog) (w := w) (base := base) T D6 D0 G0 D3 G3 D5 G5
  have G7 := ok_sides (P := l.prog) (w := w) (base := base) T D7 D1 G1 D3 G3
  have G8 := ok__law_deck (P := l.prog) (w := w) (base := base) T D8 
  have G9 := ok__law_pick (P := l.prog) (w := w) (base := base) T D9 
  have G10 := ok__law_dial (P := l.prog) (w := w) (base := base) T D10 D9 G9
  have G11 := ok__law_mark (P := l.prog) (w := w) (base := base) T D11 D9 G9
  have G12 := ok__law_all (P := l.prog) (w := w) (base := base) T D12 
  have G13 := ok__law_sum (P := l.prog) (w := w) (base := base) T D13 
  have G14 := ok__law_set (P := l.prog) (w := w) (base := base) T D14 D9 G9 D11 G11 D12 G12 D13 G13
  have G15 := ok__law_sums (P := l.prog) (w := w) (base := base) T D15 D13 G13
  have G16 := ok__law_closed (P := l.prog) (w := w) (base := base) T D16 D13 G13
  have G17 := ok__law_is_closed (P := l.prog) (w := w) (base := base) T D17 D15 G15
  have G18 := ok__law_sides_right (P := l.prog) (w := w) (base := base) T D18 D4 G4 D7 G7 D9 G9 D12 G12 D15 G15
  have G19 := ok_law (P := l.prog) (w := w) (base := base) T D19 D5 G5 D6 G6 D8 G8 D9 G9 D10 G10 D11 G11 D12 G12 D14 G14 D16 G16 D17 G17 D18 G18
  exact G19.imp (law_spec (q := ⟨l.prog, w, K⟩) fun ns hl Q E hq => ⟨ns, rfl, hl, hq⟩)
theorem walk {l : PySem.W.OpenLaw} {q : Program} {loose : List Str} {XP : (Str → Option Value) → Heap → Prop} {YP : World → Heap → Prop} {d : DefRec} {K : Params → PySem.W.Frag} (hn : l.most = some 63) (hdf : d.params.defaults = [])
    (hY : ∀ (w : World) (h : Heap), YP w h → (K w.params).In h)
    (F : ∀ (w : World) (mg : Str → Option Value) (fa : Addr) (h : Heap), (K w.params).In h → h.Ns mainGlobals mg → mg d.name = some (.ref fa) →
      ∃ fd : FuncData, (∀ (s : Shared) (u : Value), BindsTo s fd ⟨[u], []⟩ [("script", u)]) ∧ ∀ base : Heap, (K w.params).In base → base.Ns mainGlobals mg → FnOk l.prog w (K w.params) mg base CX0 5 fa fd ["script"] (spLaw (K w.params))) :
    PySem.W.WalkO q loose XP YP l.row.toRowW d [] (fun f vs => PySem.call f vs) :=
  L2.walk_of (n := 63) (k := 5) (x := "script") (CX := fun _ => CX0) (sp := fun w => spLaw (K w.params)) hn (by decide) hdf ⟨rfl, by decide, by decide⟩ hY F (fun _ _ a ns hl _ hS => ⟨a, ns, rfl, hS, hl, fun _ => rfl⟩) fun _ _ _ _ _ z => z
end VV

open PySem PySem.W PyProof.Rows in
set_option maxRecDepth 100000 in
set_option maxHeartbeats 0 in
theorem PySem.Challenge.cw_dialheaps_k12_whole_closed_sets_and_side_holds : PySem.Challenge.rw_dialheaps_k12_whole_closed_sets_and_side.Holds := by
  w_on; o_law; k_head; (case hw => w_witness2)
  k_fill
  refine VV.walk (l := PySem.Challenge.rw_dialheaps_k12_whole_closed_sets_and_side) rfl rfl (fun w h Y => PySem.W.kIn_of Y) ?F
  case F =>
    intro w mg fa h KX G hmg
    refine' VV.all_mk KX G hmg ?a0 ?l0 ?c0 ?k0 ?a1 ?l1 ?c1 ?k1 ?a2 ?l2 ?c2 ?k2 ?a3 ?l3 ?c3 ?k3 ?a4 ?l4 ?c4 ?k4 ?a5 ?l5 ?c5 ?k5 ?a6 ?l6 ?c6 ?k6 ?a7 ?l7 ?c7 ?k7 ?a8 ?l8 ?c8 ?k8 ?a9 ?l9 ?c9 ?k9 ?a10 ?l10 ?c10 ?k10 ?a11 ?l11 ?c11 ?k11 ?a12 ?l12 ?c12 ?k12 ?a13 ?l13 ?c13 ?k13 ?a14 ?l14 ?c14 ?k14 ?a15 ?l15 ?c15 ?k15 ?a16 ?l16 ?c16 ?k16 ?a17 ?l17 ?c17 ?k17 ?a18 ?l18 ?c18 ?k18 ?a19 ?l19 ?c19 ?k19 ?z_all ?z_any ?z_bool ?z_int ?z_isinstance ?z_len ?z_list ?z_max ?z_min ?z_range ?z_set ?z_sorted ?z_sum ?z_tuple ?z_zip
    (case a0 => k_is)
    (case l0 => k_is)
    (case c0 => k_is)
    (case k0 => k_is)
    (case a1 => k_is)
    (case l1 => k_is)
    (case c1 => k_is)
    (case k1 => k_is)
    (case a2 => k_is)
    (case l2 => k_is)
    (case c2 => k_is)
    (case k2 => k_is)
    (case a3 => k_is)
    (case l3 => k_is)
    (case c3 => k_is)
    (case k3 => k_is)
    (case a4 => k_is)
    (case l4 => k_is)
    (case c4 => k_is)
    (case k4 => k_is)
    (case a5 => k_is)
    (case l5 => k_is)
    (case c5 => k_is)
    (case k5 => k_is)
    (case a6 => k_is)
    (case l6 => k_is)
    (case c6 => k_is)
    (case k6 => k_is)
    (case a7 => k_is)
    (case l7 => k_is)
    (case c7 => k_is)
    (case k7 => k_is)
    (case a8 => k_is)
    (case l8 => k_is)
    (case c8 => k_is)
    (case k8 => k_is)
    (case a9 => k_is)
    (case l9 => k_is)
    (case c9 => k_is)
    (case k9 => k_is)
    (case a10 => k_is)
    (case l10 => k_is)
    (case c10 => k_is)
    (case k10 => k_is)
    (case a11 => k_is)
    (case l11 => k_is)
    (case c11 => k_is)
    (case k11 => k_is)
    (case a12 => k_is)
    (case l12 => k_is)
    (case c12 => k_is)
    (case k12 => k_is)
    (case a13 => k_is)
    (case l13 => k_is)
    (case c13 => k_is)
    (case k13 => k_is)
    (case a14 => k_is)
    (case l14 => k_is)
    (case c14 => k_is)
    (case k14 => k_is)
    (case a15 => k_is)
    (case l15 => k_is)
    (case c15 => k_is)
    (case k15 => k_is)
    (case a16 => k_is)
    (case l16 => k_is)
    (case c16 => k_is)
    (case k16 => k_is)
    (case a17 => k_is)
    (case l17 => k_is)
    (case c17 => k_is)
    (case k17 => k_is)
    (case a18 => k_is)
    (case l18 => k_is)
    (case c18 => k_is)
    (case k18 => k_is)
    (case a19 => k_is)
    (case l19 => k_is)
    (case c19 => k_is)
    (case k19 => k_is)
    (case z_all => k_is)
    (case z_any => k_is)
    (case z_bool => k_is)
    (case z_int => k_is)
    (case z_isinstance => k_is)
    (case z_len => k_is)
    (case z_list => k_is)
    (case z_max => k_is)
    (case z_min => k_is)
    (case z_range => k_is)
    (case z_set => k_is)
    (case z_sorted => k_is)
    (case z_sum => k_is)
    (case z_tuple => k_is)
    (case z_zip => k_is)

