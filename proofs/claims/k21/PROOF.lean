import PyProof.Rows.All
import HandS.ForMost
import HandS.ForExc
import HandS.TupLe
import HandS.TupAny
import HandS.Zip
import HandS.IsInst
import HandS.Deep
import HandS.Flow
import HandS.TupSets
import KE.DataCmp
import KE.DataMinMax
import KE.SortData
import KE.GoesEnum
import KE.GoesMore
import PySem.Challenge.RW_newestfit_k21_whole_terms_as_sets_of_sta
import KE.KDictZip
import KE.KDictItemsList
import HandS.ListItems
import KE.KDictDisplayH
import HandS.Conv
import HandS.ExcOwn
import HandS.Small
import HandS.ExcIs
import HandS.WordsExc
import HandS.Lambda
import HandS.NoneIn
import Wide.All
import OpenK.AllK
import Wide.FinOn
set_option Elab.async false
set_option linter.all false
set_option maxRecDepth 100000
set_option maxHeartbeats 4000000
/-! data over the hand layer: values as PyData, expressions and statements as functions of data -/
namespace Nf
open PySem PySem.Spec L2
abbrev D := PyData
/-! ### heaps -/
/-- all that was tracked, but for T, is as it was -/
def Ex (T : List Addr) (H H' : Hp) : Prop := ∀ b o, b ∉ T → H b = some o → H' b = some o
/-- T is tracked -/
def TOk (T : List Addr) (H : Hp) : Prop := ∀ t ∈ T, H t ≠ none
/-- from (T, H) to (T', H'): T grows by new ones, all else stays -/
structure Step (T : List Addr) (H : Hp) (T' : List Addr) (H' : Hp) : Prop where
  sub : ∀ t ∈ T, t ∈ T'
  fr : ∀ t ∈ T', t ∈ T ∨ H t = none
  dom : TOk T' H'
  ex : Ex T' H H'
theorem Same.dom {T : List Addr} {H H' : Hp} (e : Same H H') (h : TOk T H) : TOk T H' := fun t ht z => by
  cases q : H t with
  | none => exact h t ht q
  | some o => rw [e t o q] at z; cases z
theorem Step.same {T : List Addr} {H H' : Hp} (e : Same H H') (h : TOk T H) : Step T H T H' :=
  ⟨fun _ h => h, fun _ h => .inl h, Same.dom e h, fun b o _ q => e b o q⟩
theorem Step.refl {T : List Addr} {H : Hp} (h : TOk T H) : Step T H T H := Step.same (Same.refl H) h
theorem Step.trans {T T1 T2 : List Addr} {H H1 H2 : Hp} (a : Step T H T1 H1) (b : Step T1 H1 T2 H2) : Step T H T2 H2 where
  sub := fun t h => b.sub t (a.sub t h)
  fr := fun t h => by
    rcases b.fr t h with q | q
    · exact a.fr t q
    · cases e : H t with
      | none => exact .inr rfl
      | some o =>
        by_cases ht : t ∈ T1
        · exact absurd q (a.dom t ht)
        · rw [a.ex t o ht e] at q; cases q
  dom := b.dom
  ex := fun t o h e => b.ex t o h (a.ex t o (fun z => h (b.sub t z)) e)
theorem Same.new {H : Hp} {p : Addr} {o : HO} (h : H p = none) : Same H (upd H p o) := fun b u e => by
  rw [upd_ne (ne_of_none e h)]; exact e
theorem Ex.same {T : List Addr} {H H' : Hp} (e : Same H H') : Ex T H H' := fun b o _ q => e b o q
/-! ### what represents a datum -/
def LsT (T : List Addr) (H : Hp) (a : Addr) (xs : List V) : Prop := a ∉ T ∧ H a = some (.lst xs)
def TpT (K : PySem.W.Frag) (T : List Addr) (H : Hp) (a : Addr) (xs : List V) : Prop :=
  (a ∉ T ∧ H a = some (.tup xs)) ∨
    ∃ (o : Obj) (its : Array Value) (n : Nat), K.lookup a = some o ∧ o.cls = .type "tuple" ∧ o.data = .seq its n ∧ its.size ≤ sizeLine ∧ Vals xs its.toList
theorem LsT.sq {K : PySem.W.Frag} {T : List Addr} {H : Hp} {a : Addr} {xs : List V} (h : LsT T H a xs) : SqL K H a xs := SqL.of h.2
theorem TpT.sq {K : PySem.W.Frag} {T : List Addr} {H : Hp} {a : Addr} {xs : List V} (h : TpT K T H a xs) : SqT K H a xs := h.imp (fun q => .inl q.2) id
mutual
inductive Rp (K : PySem.W.Frag) (T : List Addr) (H : Hp) : V → D → Prop
  | non : Rp K T H .non .none
  | bl (b : Bool) : Rp K T H (.bl b) (.bool b)
  | int (i : Int) : Rp K T H (.int i) (.int i)
  | str (x : Str) : Rp K T H (.str x) (.str x)
  | lst {a : Addr} {xs : List V} {ds : List D} : LsT T H a xs → RpA K T H xs ds → Rp K T H (.ref a) (.list ds)
  | tup {a : Addr} {xs : List V} {ds : List D} : TpT K T H a xs → RpA K T H xs ds → Rp K T H (.ref a) (.tuple ds)
inductive RpA (K : PySem.W.Frag) (T : List Addr) (H : Hp) : List V → List D → Prop
  | nil : RpA K T H [] []
  | cons {v : V} {vs : List V} {d : D} {ds : List D} : Rp K T H v d → RpA K T H vs ds → RpA K T H (v :: vs) (d :: ds)
end
section
variable {K : PySem.W.Frag} {T T' : List Addr} {H H' : Hp} {a : Addr} {xs : List V}
theorem Step.nin {u : HO} (s : Step T H T' H') (n : a ∉ T) (h : H a = some u) : a ∉ T' := fun z => (s.fr a z).elim n fun q => by rw [h] at q; cases q
theorem LsT.step (s : Step T H T' H') (h : LsT T H a xs) : LsT T' H' a xs := ⟨s.nin h.1 h.2, s.ex _ _ (s.nin h.1 h.2) h.2⟩
theorem TpT.step (s : Step T H T' H') (h : TpT K T H a xs) : TpT K T' H' a xs := h.imp (fun q => ⟨s.nin q.1 q.2, s.ex _ _ (s.nin q.1 q.2) q.2⟩) id
mutual
theorem Rp.step (s : Step T H T' H') : ∀ (d : D) (v : V), Rp K T H v d → Rp K T' H' v d
  | .none, _, h => by cases h; exact .non
  | .bool b, _, h => by cases h; exact .bl b
  | .int i, _, h => by cases h; exact .int i
  | .str x, _, h => by cases h; exact .str x
  | .list ds, _, h => by
    cases h with
    | lst h1 h2 => exact .lst (h1.step s) (RpA.step s ds _ h2)
  | .tuple ds, _, h => by
    cases h with
    | tup h1 h2 => exact .tup (h1.step s) (RpA.step s ds _ h2)
  | .dict _, _, h => by cases h
theorem RpA.step (s : Step T H T' H') : ∀ (ds : List D) (vs : List V), RpA K T H vs ds → RpA K T' H' vs ds
  | [], _, h => by cases h; exact .nil
  | d :: ds, _, h => by
    cases h with
    | cons h1 h2 => exact .cons (Rp.step s d _ h1) (RpA.step s ds _ h2)
end
theorem LsT.weak (w : ∀ t ∈ T', t ∈ T) (h : LsT T H a xs) : LsT T' H a xs := ⟨fun z => h.1 (w _ z), h.2⟩
theorem TpT.weak (w : ∀ t ∈ T', t ∈ T) (h : TpT K T H a xs) : TpT K T' H a xs := h.imp (fun q => ⟨fun z => q.1 (w _ z), q.2⟩) id
mutual
theorem Rp.weak (w : ∀ t ∈ T', t ∈ T) : ∀ (d : D) (v : V), Rp K T H v d → Rp K T' H v d
  | .none, _, h => by cases h; exact .non
  | .bool b, _, h => by cases h; exact .bl b
  | .int i, _, h => by cases h; exact .int i
  | .str x, _, h => by cases h; exact .str x
  | .list ds, _, h => by
    cases h with
    | lst h1 h2 => exact .lst (h1.weak w) (RpA.weak w ds _ h2)
  | .tuple ds, _, h => by
    cases h with
    | tup h1 h2 => exact .tup (h1.weak w) (RpA.weak w ds _ h2)
  | .dict _, _, h => by cases h
theorem RpA.weak (w : ∀ t ∈ T', t ∈ T) : ∀ (ds : List D) (vs : List V), RpA K T H vs ds → RpA K T' H vs ds
  | [], _, h => by cases h; exact .nil
  | d :: ds, _, h => by
    cases h with
    | cons h1 h2 => exact .cons (Rp.weak w d _ h1) (RpA.weak w ds _ h2)
end
mutual
theorem Rp.dp : ∀ (d : D) (v : V), Rp K T H v d → Dp K H v d
  | .none, _, h => by cases h; exact .non
  | .bool b, _, h => by cases h; exact .bl b
  | .int i, _, h => by cases h; exact .int i
  | .str x, _, h => by cases h; exact .str x
  | .list ds, _, h => by
    cases h with
    | lst h1 h2 => exact .lst h1.sq (RpA.dp ds _ h2)
  | .tuple ds, _, h => by
    cases h with
    | tup h1 h2 => exact .tup h1.sq (RpA.dp ds _ h2)
  | .dict _, _, h => by cases h
theorem RpA.dp : ∀ (ds : List D) (vs : List V), RpA K T H vs ds → DpAll K H vs ds
  | [], _, h => by cases h; exact .nil
  | d :: ds, _, h => by
    cases h with
    | cons h1 h2 => exact .cons (Rp.dp d _ h1) (RpA.dp ds _ h2)
end
theorem Rp.same {v : V} {d : D} (h : Rp K T H v d) (e : Same H H') (t : TOk T H) : Rp K T H' v d := h.step (Step.same e t)
theorem RpA.same {vs : List V} {ds : List D} (h : RpA K T H vs ds) (e : Same H H') (t : TOk T H) : RpA K T H' vs ds := h.step (Step.same e t)
theorem RpA.length : ∀ {vs : List V} {ds : List D}, RpA K T H vs ds → vs.length = ds.length
  | [], _, h => by cases h; rfl
  | v :: vs, _, h => by cases h with | cons _ h2 => exact congrArg Nat.succ (RpA.length h2)
theorem RpA.append : ∀ {vs ws : List V} {ds es : List D}, RpA K T H vs ds → RpA K T H ws es → RpA K T H (vs ++ ws) (ds ++ es)
  | [], _, _, _, h, k => by cases h; exact k
  | v :: vs, _, _, _, h, k => by cases h with | cons h1 h2 => exact .cons h1 (RpA.append h2 k)
theorem RpA.get : ∀ {vs : List V} {ds : List D} {i : Nat} {d : D}, RpA K T H vs ds → ds[i]? = some d → ∃ v, vs[i]? = some v ∧ Rp K T H v d
  | _, _, _, _, .nil, e => by simp at e
  | _, _, 0, _, .cons h _, e => by simp at e; subst e; exact ⟨_, rfl, h⟩
  | _, _, i + 1, d, .cons _ h, e => by
    obtain ⟨v, h1, h2⟩ := RpA.get (i := i) (d := d) h (by simpa using e)
    exact ⟨v, by simpa using h1, h2⟩
theorem RpA.getV : ∀ {vs : List V} {ds : List D} {i : Nat} {v : V}, RpA K T H vs ds → vs[i]? = some v → ∃ d, ds[i]? = some d ∧ Rp K T H v d
  | _, _, _, _, .nil, e => by simp at e
  | _, _, 0, _, .cons h _, e => by simp at e; subst e; exact ⟨_, rfl, h⟩
  | _, _, i + 1, d, .cons _ h, e => by
    obtain ⟨v, h1, h2⟩ := RpA.getV (i := i) (v := d) h (by simpa using e)
    exact ⟨v, by simpa using h1, h2⟩
theorem RpA.take : ∀ {vs : List V} {ds : List D} (n : Nat), RpA K T H vs ds → RpA K T H (vs.take n) (ds.take n)
  | _, _, 0, _ => .nil
  | _, _, _ + 1, .nil => .nil
  | _, _, n + 1, .cons h t => .cons h (RpA.take n t)
theorem RpA.drop : ∀ {vs : List V} {ds : List D} (n : Nat), RpA K T H vs ds → RpA K T H (vs.drop n) (ds.drop n)
  | _, _, 0, h => h
  | _, _, _ + 1, .nil => .nil
  | _, _, n + 1, .cons _ t => RpA.drop n t
theorem RpA.set {x : V} {d : D} (h : Rp K T H x d) : ∀ {vs : List V} {ds : List D} (i : Nat), RpA K T H vs ds → RpA K T H (vs.set i x) (ds.set i d)
  | _, _, _, .nil => .nil
  | _, _, 0, .cons _ t => .cons h t
  | _, _, i + 1, .cons q t => .cons q (RpA.set h i t)
theorem RpA.one {v : V} {d : D} (h : Rp K T H v d) : RpA K T H [v] [d] := .cons h .nil
theorem RpA.rev {vs : List V} {ds : List D} (h : RpA K T H vs ds) : RpA K T H vs.reverse ds.reverse := by
  induction vs generalizing ds with
  | nil => cases h; exact .nil
  | cons v vs ih =>
    cases h with
    | cons h1 h2 =>
      rw [List.reverse_cons, List.reverse_cons]
      exact (ih h2).append (.one h1)
/-- a new list, a new tuple -/
theorem Rp.newL {p : Addr} {vs : List V} {ds : List D} (h : RpA K T H vs ds) (t : TOk T H) (n : H p = none) : Rp K T (upd H p (.lst vs)) (.ref p) (.list ds) :=
  .lst ⟨fun z => t p z n, upd_same⟩ (h.same (Same.new n) t)
theorem Rp.newT {p : Addr} {vs : List V} {ds : List D} (h : RpA K T H vs ds) (t : TOk T H) (n : H p = none) : Rp K T (upd H p (.tup vs)) (.ref p) (.tuple ds) :=
  .tup (.inl ⟨fun z => t p z n, upd_same⟩) (h.same (Same.new n) t)
end
/-! ### a dict whose keys are rows of ints, each value True -/
abbrev AR := Addr × List Int
def MapAt (a : Addr) (L : List AR) (h : Heap) : Prop := (a == sysModules) = false ∧ L.length ≤ sizeLine ∧ (L.map (·.2)).Nodup ∧
  ∃ o es ep, h.get? a = some o ∧ o.ExactDict ∧ o.data = .dict es ep ∧ ∀ (P : Program) (w : World), es.toList = L.map fun q => entryOfKey (tupleKind (intKind P w)) (q.2, q.1, Value.bool true)
def DictO (a : Addr) (L : List AR) : HO := .ext (MapAt a L)
/-! ### slots -/
inductive Slot where
  /-- not spoken of -/
  | no
  /-- a datum -/
  | d (x : D)
  /-- a list of one's own, which is still written -/
  | l (xs : List D)
  /-- a value as it is -/
  | v (w : V)
  /-- a dict of one's own, its keys these rows, each value True -/
  | m (ks : List (List Int))
def SlotOk (K : PySem.W.Frag) (T : List Addr) (H : Hp) : Slot → Option (Option V) → Prop
  | .no, _ => True
  | .d x, o => ∃ v, o = some (some v) ∧ Rp K T H v x
  | .l xs, o => ∃ a vs, o = some (some (.ref a)) ∧ a ∈ T ∧ H a = some (.lst vs) ∧ RpA K T H vs xs
  | .v w, o => o = some (some w)
  | .m ks, o => ∃ a L, o = some (some (.ref a)) ∧ a ∈ T ∧ H a = some (DictO a L) ∧ L.map (·.2) = ks ∧ ∀ p ∈ L, TpT K T H p.1 (p.2.map V.int)
/-- what an expression finds -/
structure Se (K : PySem.W.Frag) (T : List Addr) (σ : St) (H : Hp) (ds : List Slot) : Prop where
  dom : TOk T H
  len : ds.length = σ.length
  at_ : ∀ (i : Nat) (s : Slot), ds[i]? = some s → SlotOk K T H s σ[i]?
section
variable {K : PySem.W.Frag} {T T' : List Addr} {H H' : Hp} {σ : St} {ds : List Slot}
theorem SlotOk.same {s : Slot} {o : Option (Option V)} (h : SlotOk K T H s o) (e : Same H H') (t : TOk T H) : SlotOk K T H' s o := by
  cases s with
  | no => trivial
  | d x => obtain ⟨v, h1, h2⟩ := h; exact ⟨v, h1, h2.same e t⟩
  | l xs => obtain ⟨a, vs, h1, h2, h3, h4⟩ := h; exact ⟨a, vs, h1, h2, e _ _ h3, h4.same e t⟩
  | v w => exact h
  | m ks => obtain ⟨a, L, h1, h2, h3, h4, h5⟩ := h; exact ⟨a, L, h1, h2, e _ _ h3, h4, fun p hp => (h5 p hp).step (Step.same e t)⟩
theorem SlotOk.stepS {s : Slot} {o : Option (Option V)} (h : SlotOk K T H s o) (e : Same H H') (t : Step T H T' H') : SlotOk K T' H' s o := by
  cases s with
  | no => trivial
  | d x => obtain ⟨v, h1, h2⟩ := h; exact ⟨v, h1, h2.step t⟩
  | l xs => obtain ⟨a, vs, h1, h2, h3, h4⟩ := h; exact ⟨a, vs, h1, t.sub a h2, e _ _ h3, h4.step t⟩
  | v w => exact h
  | m ks => obtain ⟨a, L, h1, h2, h3, h4, h5⟩ := h; exact ⟨a, L, h1, t.sub a h2, e _ _ h3, h4, fun p hp => (h5 p hp).step t⟩
theorem Se.stepS (h : Se K T σ H ds) (e : Same H H') (t : Step T H T' H') : Se K T' σ H' ds := ⟨t.dom, h.len, fun i s q => (h.at_ i s q).stepS e t⟩
theorem Se.same (h : Se K T σ H ds) (e : Same H H') : Se K T σ H' ds := ⟨Same.dom e h.dom, h.len, fun i s q => (h.at_ i s q).same e h.dom⟩
theorem Se.set {i : Nat} {x : D} {v : V} (h : Se K T σ H ds) (r : Rp K T H v x) : Se K T (σ.set i (some v)) H (ds.set i (.d x)) := by
  refine ⟨h.dom, by rw [List.length_set, List.length_set]; exact h.len, fun j s e => ?_⟩
  by_cases hj : j = i
  · subst hj
    have hl : j < ds.length := by
      obtain ⟨q, _⟩ := List.getElem?_eq_some_iff.mp e
      rwa [List.length_set] at q
    rw [List.getElem?_set_self hl] at e
    cases e
    rw [List.getElem?_set_self (by rw [← h.len]; exact hl)]
    exact ⟨v, rfl, r⟩
  · rw [List.getElem?_set_ne (Ne.symm hj)] at e ⊢
    exact h.at_ j s e
theorem Se.none {i : Nat} {o : Option V} (h : Se K T σ H ds) : Se K T (σ.set i o) H (ds.set i .no) := by
  refine ⟨h.dom, by rw [List.length_set, List.length_set]; exact h.len, fun j s e => ?_⟩
  by_cases hj : j = i
  · subst hj
    have hl : j < ds.length := by
      obtain ⟨q, _⟩ := List.getElem?_eq_some_iff.mp e
      rwa [List.length_set] at q
    rw [List.getElem?_set_self hl] at e
    cases e
    exact trivial
  · rw [List.getElem?_set_ne (Ne.symm hj)] at e ⊢
    exact h.at_ j s e
theorem Se.d {i : Nat} {x : D} (h : Se K T σ H ds) (e : ds[i]? = some (.d x)) : ∃ v, σ[i]? = some (some v) ∧ Rp K T H v x := h.at_ i _ e
theorem Se.v {i : Nat} {w : V} (h : Se K T σ H ds) (e : ds[i]? = some (.v w)) : σ[i]? = some (some w) := h.at_ i _ e
end
/-! ### expressions -/
abbrev Fe := List Slot → Option D
abbrev Fb := List Slot → Option Bool
def tD (K : PySem.W.Frag) (f : Fe) : TE := fun σ H Q => ∃ T ds d, Se K T σ H ds ∧ f ds = some d ∧ ∀ v H', Same H H' → Rp K T H' v d → Q v H'
def tDT (K : PySem.W.Frag) (f : Fb) : TT := fun σ H Q => ∃ T ds b, Se K T σ H ds ∧ f ds = some b ∧ ∀ H', Same H H' → Q b H'
/-- arguments -/
abbrev Fa := List Slot → Option (List D)
def tDA (K : PySem.W.Frag) (f : Fa) : TA := fun σ H Q => ∃ T ds xs, Se K T σ H ds ∧ f ds = some xs ∧ ∀ vs H', Same H H' → RpA K T H' vs xs → Q vs H'
theorem _root_.L2.PE.imp {X : Cx} {e : Expr} {t t' : TE} (h : PE X e t) (i : ∀ σ H Q, t' σ H Q → t σ H Q) : PE X e t' := ⟨fun pins s σ H Q I q => h.run pins s σ H Q I (i σ H Q q)⟩
theorem _root_.L2.PT.imp {X : Cx} {e : Expr} {t t' : TT} (h : PT X e t) (i : ∀ σ H Q, t' σ H Q → t σ H Q) : PT X e t' := ⟨fun pins s σ H Q I q => h.run pins s σ H Q I (i σ H Q q)⟩
theorem _root_.L2.PW.imp {X : Cx} {e : Expr} {t t' : TT} (h : PW X e t) (i : ∀ σ H Q, t' σ H Q → t σ H Q) : PW X e t' := ⟨fun wh pins s σ H Q I q => h.run wh pins s σ H Q I (i σ H Q q)⟩
theorem _root_.L2.PA.imp {X : Cx} {es : List Expr} {t t' : TA} (h : PA X es t) (i : ∀ σ H Q, t' σ H Q → t σ H Q) : PA X es t' := ⟨fun pos pins s σ H Q I q => h.run pos pins s σ H Q I (i σ H Q q)⟩
theorem _root_.L2.PS.imp {X : Cx} {st : Stmt} {t t' : TS} (h : PS X st t) (i : ∀ D σ H, t' D σ H → t D σ H) : PS X st t' := ⟨fun pins s σ H D I q => h.run pins s σ H D I (i D σ H q)⟩
theorem _root_.L2.PSs.imp {X : Cx} {st : List Stmt} {t t' : TS} (h : PSs X st t) (i : ∀ D σ H, t' D σ H → t D σ H) : PSs X st t' := ⟨fun pins s σ H D I q => h.run pins s σ H D I (i D σ H q)⟩
theorem _root_.L2.PI.imp {X : Cx} {tg it : Expr} {t t' : TI} (h : PI X tg it t) (i : ∀ σ H Q, t' σ H Q → t σ H Q) : PI X tg it t' := ⟨fun pins s σ H Q I q => h.run pins s σ H Q I (i σ H Q q)⟩
/-- the mirror's expressions -/
def fV (i : Nat) : Fe := fun ds => match ds[i]? with | some (.d x) => some x | _ => none
def fC (x : D) : Fe := fun _ => some x
def f2 (g : D → D → Option D) (a b : Fe) : Fe := fun ds => (a ds).bind fun x => (b ds).bind fun y => g x y
def f1 (g : D → Option D) (a : Fe) : Fe := fun ds => (a ds).bind g
theorem f2_some {g : D → D → Option D} {a b : Fe} {ds : List Slot} {d : D} (h : f2 g a b ds = some d) : ∃ x y, a ds = some x ∧ b ds = some y ∧ g x y = some d := by
  unfold f2 at h
  cases ea : a ds with
  | none => rw [ea] at h; cases h
  | some x =>
    cases eb : b ds with
    | none => rw [ea, eb] at h; cases h
    | some y => rw [ea, eb] at h; exact ⟨x, y, rfl, rfl, h⟩
theorem f1_some {g : D → Option D} {a : Fe} {ds : List Slot} {d : D} (h : f1 g a ds = some d) : ∃ x, a ds = some x ∧ g x = some d := by
  unfold f1 at h
  cases ea : a ds with
  | none => rw [ea] at h; cases h
  | some x => rw [ea] at h; exact ⟨x, rfl, h⟩
section
variable {X : Cx} {a b : Expr} {fa fb : Fe} {pos : Pos}
theorem dv (i : Nat) {x : Str} {pos : Pos} (hN : X.N[i]? = some x := by rfl) (hv : Vis X.env.scope x := by first | exact Or.inl rfl | exact Or.inr (Or.inl rfl) | exact Or.inr (Or.inr rfl)) (hd : (x == ("__debug__" : Str)) = false := by decide)
    (hcd : (x == ("__classdict__" : Str)) = false := by decide) : PE X (.Name x pos) (tD X.K (fV i)) := (pe_var hN hv hd hcd).imp fun σ H Q ⟨T, ds, d, S, e, q⟩ => by
  unfold fV at e
  split at e
  · rename_i x' e'
    cases e
    obtain ⟨v, h1, h2⟩ := S.d e'
    exact ⟨v, h1, q v H (Same.refl H) h2⟩
  · cases e
theorem d_int {i j pos} : PE X (.Constant (.int i) j pos) (tD X.K (fC (.int i))) := pe_int.imp fun σ H Q ⟨T, ds, d, S, e, q⟩ => by cases e; exact q _ H (Same.refl H) (.int i)
theorem d_bl {b j pos} : PE X (.Constant (.bool b) j pos) (tD X.K (fC (.bool b))) := pe_bl.imp fun σ H Q ⟨T, ds, d, S, e, q⟩ => by cases e; exact q _ H (Same.refl H) (.bl b)
theorem d_non {j pos} : PE X (.Constant .none j pos) (tD X.K (fC .none)) := pe_non.imp fun σ H Q ⟨T, ds, d, S, e, q⟩ => by cases e; exact q _ H (Same.refl H) .non
theorem d_str {x j pos} : PE X (.Constant (.str x) j pos) (tD X.K (fC (.str x))) := pe_str.imp fun σ H Q ⟨T, ds, d, S, e, q⟩ => by cases e; exact q _ H (Same.refl H) (.str x)
/-- an operator by values keeps to data -/
def R2D (K : PySem.W.Frag) (r : R2) (g : D → D → Option D) : Prop :=
  ∀ T H x y dx dy d (Q : VK), TOk T H → Rp K T H x dx → Rp K T H y dy → g dx dy = some d → (∀ v H', Same H H' → Rp K T H' v d → Q v H') → r x y H Q
theorem tOpD {r : R2} {g : D → D → Option D} {K : PySem.W.Frag} (hr : R2D K r g) {σ : St} {H : Hp} {Q : VK} (h : tD K (f2 g fa fb) σ H Q) : tOp r (tD K fa) (tD K fb) σ H Q := by
  obtain ⟨T, ds, d, S, e, q⟩ := h
  obtain ⟨x, y, e1, e2, e3⟩ := f2_some e
  refine ⟨T, ds, x, S, e1, fun v1 H1 s1 r1 => ⟨T, ds, y, S.same s1, e2, fun v2 H2 s2 r2 => ?_⟩⟩
  have S2 := (S.same s1).same s2
  exact hr T H2 v1 v2 x y d Q S2.dom (r1.same s2 (S.same s1).dom) r2 e3 fun v H' s3 r3 => q v H' ((s1.trans s2).trans s3) r3
theorem d_op {op : Operator} {r : R2} {g : D → D → Option D} (ho : OpR X (binaryOp op) r) (hr : R2D X.K r g) (ha : PE X a (tD X.K fa)) (hb : PE X b (tD X.K fb)) : PE X (.BinOp a op b pos) (tD X.K (f2 g fa fb)) :=
  (pe_op ho ha hb).imp fun _ _ _ h => tOpD hr h
theorem d_cmp {op : CmpOp} {r : R2} {g : D → D → Option D} (ho : OpR X (compareOp op) r) (hr : R2D X.K r g) (ha : PE X a (tD X.K fa)) (hb : PE X b (tD X.K fb)) (hm : behindInMarks op b = false) : PE X (.Compare a [op] [b] pos) (tD X.K (f2 g fa fb)) :=
  (pe_cmpR ho ha hb hm).imp fun _ _ _ h => tOpD hr h
theorem d_ix {r : R2} {g : D → D → Option D} (ho : IxR X r) (hr : R2D X.K r g) (ha : PE X a (tD X.K fa)) (hb : PE X b (tD X.K fb)) (hs : PlainIx b) : PE X (.Subscript a b pos) (tD X.K (f2 g fa fb)) :=
  (pe_ix ho ha hb hs).imp fun _ _ _ h => tOpD hr h
/-! ### tests -/
def asB (f : Fe) : Fb := fun ds => match f ds with | some (.bool b) => some b | _ => none
theorem asB_some {f : Fe} {ds : List Slot} {b : Bool} (h : asB f ds = some b) : f ds = some (.bool b) := by
  unfold asB at h
  split at h
  · rename_i c e
    cases h; exact e
  · cases h
theorem tB_of {K : PySem.W.Frag} {f : Fe} {σ : St} {H : Hp} {Q : Bool → Hp → Prop} (h : tDT K (asB f) σ H Q) : tD K f σ H fun x H1 => ∃ c, x = .bl c ∧ Q c H1 := by
  obtain ⟨T, ds, b, S, e, q⟩ := h
  exact ⟨T, ds, _, S, asB_some e, fun v H' s r => by cases r; exact ⟨b, rfl, q H' s⟩⟩
/-- an expression whose value is a bool, as a test -/
theorem dt_val {e : Expr} {f : Fe} (h : PE X e (tD X.K f)) (he : ∀ whole, isTrue e X.env whole = (do let v ← whole; standAt e.pos; holding [v] (truthy v)) := by intro _; rfl) : PT X e (tDT X.K (asB f)) :=
  (pt_val h he).imp fun _ _ _ q => tB_of q
theorem dt_cmp {op : CmpOp} {r : R2} {g : D → D → Option D} (ho : OpR X (compareOp op) r) (hr : R2D X.K r g) (ha : PE X a (tD X.K fa)) (hb : PE X b (tD X.K fb)) (hm : behindInMarks op b = false) : PT X (.Compare a [op] [b] pos) (tDT X.K (asB (f2 g fa fb))) :=
  (pt_cmpR ho ha hb hm).imp fun σ H Q q => by
    have z := tOpD hr (tB_of q)
    exact z
def fAnd (a b : Fb) : Fb := fun ds => match a ds with | some true => b ds | some false => some false | none => none
def fOr (a b : Fb) : Fb := fun ds => match a ds with | some false => b ds | some true => some true | none => none
def fNot (a : Fb) : Fb := fun ds => (a ds).map (!·)
variable {ga gb : Fb} {rest : List Expr}
theorem dw_and1 (ha : PT X a (tDT X.K ga)) : PW X (.BoolOp .And [a] pos) (tDT X.K ga) := pw_and1 ha
theorem dw_or1 (ha : PT X a (tDT X.K ga)) : PW X (.BoolOp .Or [a] pos) (tDT X.K ga) := pw_or1 ha
theorem dw_and (ha : PT X a (tDT X.K ga)) (hb : PW X (.BoolOp .And (b :: rest) pos) (tDT X.K gb)) : PW X (.BoolOp .And (a :: b :: rest) pos) (tDT X.K (fAnd ga gb)) :=
  (pw_and ha hb).imp fun σ H Q ⟨T, ds, c, S, e, q⟩ => by
    unfold fAnd at e
    cases ea : ga ds with
    | none => rw [ea] at e; cases e
    | some k =>
      rw [ea] at e
      refine ⟨T, ds, k, S, ea, fun H1 s1 => ?_⟩
      cases k with
      | true => exact iteT ⟨T, ds, c, S.same s1, e, fun H2 s2 => q H2 (s1.trans s2)⟩
      | false => cases e; exact iteF (q H1 s1)
theorem dw_or (ha : PT X a (tDT X.K ga)) (hb : PW X (.BoolOp .Or (b :: rest) pos) (tDT X.K gb)) : PW X (.BoolOp .Or (a :: b :: rest) pos) (tDT X.K (fOr ga gb)) :=
  (pw_or ha hb).imp fun σ H Q ⟨T, ds, c, S, e, q⟩ => by
    unfold fOr at e
    cases ea : ga ds with
    | none => rw [ea] at e; cases e
    | some k =>
      rw [ea] at e
      refine ⟨T, ds, k, S, ea, fun H1 s1 => ?_⟩
      cases k with
      | false => exact iteF ⟨T, ds, c, S.same s1, e, fun H2 s2 => q H2 (s1.trans s2)⟩
      | true => cases e; exact iteT (q H1 s1)
theorem dt_not (ha : PT X a (tDT X.K ga)) : PT X (.UnaryOp .Not a pos) (tDT X.K (fNot ga)) :=
  (pt_not ha).imp fun σ H Q ⟨T, ds, c, S, e, q⟩ => by
    unfold fNot at e
    cases ea : ga ds with
    | none => rw [ea] at e; cases e
    | some k =>
      rw [ea] at e; cases e
      exact ⟨T, ds, k, S, ea, fun H1 s1 => q H1 s1⟩
/-! .. as values -/
def fAndV (a b : Fe) : Fe := fun ds => match a ds with | some (.bool true) => b ds | some (.bool false) => some (.bool false) | _ => none
def fOrV (a b : Fe) : Fe := fun ds => match a ds with | some (.bool false) => b ds | some (.bool true) => some (.bool true) | _ => none
def fNotV (a : Fe) : Fe := fun ds => match a ds with | some (.bool k) => some (.bool (!k)) | _ => none
theorem d_one {op} {f : Fe} (h : PE X a (tD X.K f)) : PE X (.BoolOp op [a] pos) (tD X.K f) := pe_one h
theorem d_and (ha : PE X a (tD X.K fa)) (hb : PE X (.BoolOp .And (b :: rest) pos) (tD X.K fb)) : PE X (.BoolOp .And (a :: b :: rest) pos) (tD X.K (fAndV fa fb)) :=
  (pe_and ha hb).imp fun σ H Q ⟨T, ds, c, S, e, q⟩ => by
    unfold fAndV at e
    split at e
    · rename_i ea
      exact ⟨T, ds, _, S, ea, fun v H1 s1 r => by cases r; exact ⟨true, rfl, iteT ⟨T, ds, c, S.same s1, e, fun v2 H2 s2 r2 => q v2 H2 (s1.trans s2) r2⟩⟩⟩
    · rename_i ea
      cases e
      exact ⟨T, ds, _, S, ea, fun v H1 s1 r => by cases r; exact ⟨false, rfl, iteF (q _ H1 s1 (.bl false))⟩⟩
    · cases e
theorem d_or (ha : PE X a (tD X.K fa)) (hb : PE X (.BoolOp .Or (b :: rest) pos) (tD X.K fb)) : PE X (.BoolOp .Or (a :: b :: rest) pos) (tD X.K (fOrV fa fb)) :=
  (pe_or ha hb).imp fun σ H Q ⟨T, ds, c, S, e, q⟩ => by
    unfold fOrV at e
    split at e
    · rename_i ea
      exact ⟨T, ds, _, S, ea, fun v H1 s1 r => by cases r; exact ⟨false, rfl, iteF ⟨T, ds, c, S.same s1, e, fun v2 H2 s2 r2 => q v2 H2 (s1.trans s2) r2⟩⟩⟩
    · rename_i ea
      cases e
      exact ⟨T, ds, _, S, ea, fun v H1 s1 r => by cases r; exact ⟨true, rfl, iteT (q _ H1 s1 (.bl true))⟩⟩
    · cases e
theorem d_not (ha : PE X a (tD X.K fa)) : PE X (.UnaryOp .Not a pos) (tD X.K (fNotV fa)) :=
  (pe_not ha).imp fun σ H Q ⟨T, ds, c, S, e, q⟩ => by
    unfold fNotV at e
    split at e
    · rename_i k ea
      cases e
      exact ⟨T, ds, _, S, ea, fun v H1 s1 r => by cases r; exact ⟨k, rfl, q _ H1 s1 (.bl _)⟩⟩
    · cases e
def fIf (c : Fb) (a b : Fe) : Fe := fun ds => match c ds with | some true => a ds | some false => b ds | none => none
theorem d_if {c : Expr} {gc : Fb} (hc : PT X c (tDT X.K gc)) (ha : PE X a (tD X.K fa)) (hb : PE X b (tD X.K fb)) : PE X (.IfExp c a b pos) (tD X.K (fIf gc fa fb)) :=
  (pe_ifExp hc ha hb).imp fun σ H Q ⟨T, ds, d, S, e, q⟩ => by
    unfold fIf at e
    cases ec : gc ds with
    | none => rw [ec] at e; cases e
    | some k =>
      rw [ec] at e
      refine ⟨T, ds, k, S, ec, fun H1 s1 => ?_⟩
      cases k with
      | true => exact iteT ⟨T, ds, d, S.same s1, e, fun v2 H2 s2 r2 => q v2 H2 (s1.trans s2) r2⟩
      | false => exact iteF ⟨T, ds, d, S.same s1, e, fun v2 H2 s2 r2 => q v2 H2 (s1.trans s2) r2⟩
/-! ### arguments, displays -/
def faN : Fa := fun _ => some []
def faC (f : Fe) (g : Fa) : Fa := fun ds => (f ds).bind fun x => (g ds).bind fun xs => some (x :: xs)
theorem faC_some {f : Fe} {g : Fa} {ds : List Slot} {l : List D} (h : faC f g ds = some l) : ∃ x xs, f ds = some x ∧ g ds = some xs ∧ l = x :: xs := by
  unfold faC at h
  cases ea : f ds with
  | none => rw [ea] at h; cases h
  | some x =>
    cases eb : g ds with
    | none => rw [ea, eb] at h; cases h
    | some y => rw [ea, eb] at h; cases h; exact ⟨x, y, rfl, rfl, rfl⟩
variable {es : List Expr} {gs : Fa}
theorem da_nil : PA X [] (tDA X.K faN) := pa_nil.imp fun σ H Q ⟨T, ds, xs, S, e, q⟩ => by cases e; exact q [] H (Same.refl H) .nil
theorem da_cons (ha : PE X a (tD X.K fa)) (hr : PA X es (tDA X.K gs)) (hs : starEach (a :: es) X.env = (false, eval a X.env) :: starEach es X.env := by rfl) : PA X (a :: es) (tDA X.K (faC fa gs)) :=
  (pa_cons ha hr hs).imp fun σ H Q ⟨T, ds, l, S, e, q⟩ => by
    obtain ⟨x, xs, e1, e2, rfl⟩ := faC_some e
    exact ⟨T, ds, x, S, e1, fun v1 H1 s1 r1 => ⟨T, ds, xs, S.same s1, e2, fun vs H2 s2 r2 => q _ H2 (s1.trans s2) (.cons (r1.same s2 (S.same s1).dom) r2)⟩⟩
def small (xs : List D) : Bool := decide (xs.length ≤ 100000)
theorem small_ok {K : PySem.W.Frag} {T : List Addr} {H : Hp} {vs : List V} {xs : List D} (h : small xs = true) (r : RpA K T H vs xs) : vs.length ≤ sizeLine := by
  have := of_decide_eq_true h
  rw [r.length, sizeLine_eq]; omega
theorem small_lt {K : PySem.W.Frag} {T : List Addr} {H : Hp} {vs : List V} {xs : List D} (h : small xs = true) (r : RpA K T H vs xs) : vs.length < sizeLine := by
  have := of_decide_eq_true h
  rw [r.length, sizeLine_eq]; omega
def fTup (g : Fa) : Fe := fun ds => (g ds).bind fun xs => if small xs then some (.tuple xs) else none
def fLst (g : Fa) : Fe := fun ds => (g ds).bind fun xs => if small xs then some (.list xs) else none
theorem d_tup {x1} (h : PA X es (tDA X.K gs)) : PE X (.Tuple es x1 pos) (tD X.K (fTup gs)) :=
  (pe_tup h).imp fun σ H Q ⟨T, ds, d, S, e, q⟩ => by
    unfold fTup at e
    cases eg : gs ds with
    | none => rw [eg] at e; cases e
    | some xs =>
      rw [eg] at e
      replace e : (if small xs then some (.tuple xs) else none) = some d := e
      split at e
      · rename_i hs
        cases e
        refine ⟨T, ds, xs, S, eg, fun vs H1 s1 r1 => ⟨small_ok hs r1, fun p hp => q _ _ (s1.trans (Same.new hp)) (Rp.newT r1 (S.same s1).dom hp)⟩⟩
      · cases e
theorem d_lst (h : PA X es (tDA X.K gs)) : PE X (.List es pos) (tD X.K (fLst gs)) :=
  (pe_lst h).imp fun σ H Q ⟨T, ds, d, S, e, q⟩ => by
    unfold fLst at e
    cases eg : gs ds with
    | none => rw [eg] at e; cases e
    | some xs =>
      rw [eg] at e
      replace e : (if small xs then some (.list xs) else none) = some d := e
      split at e
      · rename_i hs
        cases e
        refine ⟨T, ds, xs, S, eg, fun vs H1 s1 r1 => ⟨small_ok hs r1, fun p hp => q _ _ (s1.trans (Same.new hp)) (Rp.newL r1 (S.same s1).dom hp)⟩⟩
      · cases e
end
/-! ### calls -/
/-- the promise: data in, a datum out; nothing else is touched -/
def spD (K : PySem.W.Frag) (n : Nat) (m : List D → Option D) : Sp := fun vs H Q _ => vs.length = n ∧ ∃ T xs d, TOk T H ∧ RpA K T H vs xs ∧ m xs = some d ∧ ∀ v H', Same H H' → Rp K T H' v d → Q v H'
def fCall (m : List D → Option D) (g : Fa) : Fe := fun ds => (g ds).bind m
section
variable {X : Cx} {CX : CXT} {k : Nat} {f : Addr} {fd : FuncData} {ps : List Str} {m : List D → Option D} {E : XK} {x : Str} {p pos : Pos} {e : Expr} {es : List Expr} {g : Fa}
theorem tCallD {K : PySem.W.Frag} {σ : St} {H : Hp} {Q : VK} {n : Nat} (hn : ∀ ds xs, g ds = some xs → xs.length = n) (h : tD K (fCall m g) σ H Q) : tCall (spD K n m) [] E (tDA K g) σ H Q := by
  obtain ⟨T, ds, d, S, e, q⟩ := h
  unfold fCall at e
  cases eg : g ds with
  | none => rw [eg] at e; cases e
  | some xs =>
    rw [eg] at e
    refine ⟨T, ds, xs, S, eg, fun vs H1 s1 r1 => ?_⟩
    refine ⟨by rw [List.append_nil, r1.length]; exact hn ds xs eg, T, xs, d, (S.same s1).dom, by rw [List.append_nil]; exact r1, e, fun v H' s2 r2 => q v H' (s1.trans s2) r2⟩
/-- how many arguments -/
theorem ln0 : ∀ ds xs, faN ds = some xs → xs.length = 0 := fun ds xs h => by cases h; rfl
theorem lnS {f : Fe} {g : Fa} {n : Nat} (h : ∀ ds xs, g ds = some xs → xs.length = n) : ∀ ds xs, faC f g ds = some xs → xs.length = n + 1 := fun ds xs e => by
  obtain ⟨x, ys, _, e2, rfl⟩ := faC_some e
  exact congrArg Nat.succ (h ds ys e2)
theorem d_call {n : Nat} (F : FnOk X.prog X.w X.K X.mg X.base CX k f fd ps (spD X.K n m)) (hr : Room k X.A) (hg : Gl X x) (hm : X.mg x = some (.ref f)) (hk : PySem.W.keepIn X.K (.ref f) = true) (hb : Binds X.K fd ps []) (hx : Passes CX X E)
    (ha : PA X (e :: es) (tDA X.K g)) (hn : ∀ ds xs, g ds = some xs → xs.length = n) (hdb : (x == ("__debug__" : Str)) = false := by decide) (he : starEach (e :: es) X.env = (false, eval e X.env) :: starEach es X.env := by rfl) (hpl : (backTo pos (starEach es X.env)).any (·.1) = false := by rfl) :
    PE X (.Call (.Name x p) (e :: es) [] pos) (tD X.K (fCall m g)) := (pe_call F hr hg hm hk hb .nil hx ha hdb he hpl).imp fun _ _ _ h => tCallD hn h
theorem d_call0 (F : FnOk X.prog X.w X.K X.mg X.base CX k f fd ps (spD X.K 0 m)) (hr : Room k X.A) (hg : Gl X x) (hm : X.mg x = some (.ref f)) (hk : PySem.W.keepIn X.K (.ref f) = true) (hb : Binds X.K fd ps []) (hx : Passes CX X E)
    (hdb : (x == ("__debug__" : Str)) = false := by decide) : PE X (.Call (.Name x p) [] [] pos) (tD X.K (fCall m faN)) := (pe_call0 F hr hg hm hk hb .nil hx hdb).imp fun σ H Q h => by
  obtain ⟨T, ds, d, S, e, q⟩ := h
  exact ⟨rfl, T, [], d, S.dom, .nil, e, q⟩
/-- a built-in's call by values keeps to data -/
def RAD (K : PySem.W.Frag) (r : List V → Hp → VK → Prop) (m : List D → Option D) : Prop :=
  ∀ T H vs xs d (Q : VK), TOk T H → RpA K T H vs xs → m xs = some d → (∀ v H', Same H H' → Rp K T H' v d → Q v H') → r vs H Q
theorem tCBD {K : PySem.W.Frag} {r : List V → Hp → VK → Prop} (hr : RAD K r m) {σ : St} {H : Hp} {Q : VK} (h : tD K (fCall m g) σ H Q) : tCB r (tDA K g) σ H Q := by
  obtain ⟨T, ds, d, S, e, q⟩ := h
  unfold fCall at e
  cases eg : g ds with
  | none => rw [eg] at e; cases e
  | some xs =>
    rw [eg] at e
    exact ⟨T, ds, xs, S, eg, fun vs H1 s1 r1 => hr T H1 vs xs d Q (S.same s1).dom r1 e fun v H' s2 r2 => q v H' (s1.trans s2) r2⟩
theorem d_callB {id : String} {r : List V → Hp → VK → Prop} (hc : CallR X (.builtin id) r) (hr : RAD X.K r m) (hg : Gl X x) (hm : X.mg x = none) (hv : bootBuiltins x = some (.builtin id)) (ha : PA X (e :: es) (tDA X.K g)) (hn : x ≠ "__name__" := by decide) (hdb : (x == ("__debug__" : Str)) = false := by decide)
    (he : starEach (e :: es) X.env = (false, eval e X.env) :: starEach es X.env := by rfl) (hpl : (backTo pos (starEach es X.env)).any (·.1) = false := by rfl) : PE X (.Call (.Name x p) (e :: es) [] pos) (tD X.K (fCall m g)) :=
  (pe_callB hc hg hm hv ha hn hdb he hpl).imp fun _ _ _ h => tCBD hr h
theorem d_callTy {id : String} {r : List V → Hp → VK → Prop} (hc : CallR X (.type id) r) (hr : RAD X.K r m) (hg : Gl X x) (hm : X.mg x = none) (hv : bootBuiltins x = some (.type id)) (ha : PA X (e :: es) (tDA X.K g)) (hn : x ≠ "__name__" := by decide) (hdb : (x == ("__debug__" : Str)) = false := by decide)
    (he : starEach (e :: es) X.env = (false, eval e X.env) :: starEach es X.env := by rfl) (hpl : (backTo pos (starEach es X.env)).any (·.1) = false := by rfl) : PE X (.Call (.Name x p) (e :: es) [] pos) (tD X.K (fCall m g)) :=
  (pe_callTy hc hg hm hv ha hn hdb he hpl).imp fun _ _ _ h => tCBD hr h
end
end Nf
set_option Elab.async false
set_option linter.all false
set_option maxRecDepth 100000
set_option maxHeartbeats 4000000
/-! operators over data -/
namespace Nf
open PySem PySem.Spec L2
/-! ### index -/
def ixD : D → D → Option D
  | .list xs, .int i => atI xs i
  | .tuple xs, .int i => atI xs i
  | _, _ => none
theorem atI_len {α β : Type} {xs : List α} {ys : List β} (h : xs.length = ys.length) {i : Int} {y : β} (e : atI ys i = some y) : ∃ j : Nat, ys[j]? = some y ∧ ∀ x, xs[j]? = some x → atI xs i = some x := by
  unfold atI at e ⊢
  rw [h]
  cases q : ixN ys.length i with
  | none => rw [q] at e; cases e
  | some j =>
    rw [q] at e
    exact ⟨j, e, fun x hx => hx⟩
section
variable {X : Cx}
theorem r_ix : R2D X.K (rIx X.K) ixD := by
  intro T H x y dx dy d Q t rx ry e q
  unfold ixD at e
  split at e
  · cases rx with
    | lst h1 h2 =>
      cases ry
      obtain ⟨j, e1, e2⟩ := atI_len h2.length e
      obtain ⟨v, hv, r⟩ := h2.get e1
      exact .inl ⟨_, _, _, v, rfl, rfl, h1.sq, e2 v hv, q v H (Same.refl H) r⟩
  · cases rx with
    | tup h1 h2 =>
      cases ry
      obtain ⟨j, e1, e2⟩ := atI_len h2.length e
      obtain ⟨v, hv, r⟩ := h2.get e1
      exact .inr (.inl ⟨_, _, _, v, rfl, rfl, h1.sq, e2 v hv, q v H (Same.refl H) r⟩)
  · cases e
theorem d_item {a b : Expr} {fa fb : Fe} {pos : Pos} (ha : PE X a (tD X.K fa)) (hb : PE X b (tD X.K fb)) (hs : PlainIx b := by exact fun _ _ => rfl) : PE X (.Subscript a b pos) (tD X.K (f2 ixD fa fb)) := d_ix ix_seq r_ix ha hb hs
/-! ### order -/
def cmpOk (x y : D) : Bool := PySem.W.alike x y && (match x with | .none => false | _ => true) && decide (x.depth ≤ 64)
theorem cmpOk_of {x y : D} (h : cmpOk x y = true) : PySem.W.alike x y = true ∧ x ≠ .none ∧ x.depth ≤ 64 := by
  unfold cmpOk at h
  simp only [Bool.and_eq_true, decide_eq_true_eq] at h
  obtain ⟨⟨h1, h2⟩, h3⟩ := h
  refine ⟨h1, fun z => ?_, h3⟩
  subst z
  cases h2
def ltD (x y : D) : Option D := if cmpOk x y then some (.bool (PySem.W.dataLt x y)) else none
def leD (x y : D) : Option D := if cmpOk x y then some (.bool (!PySem.W.dataLt y x)) else none
def gtD (x y : D) : Option D := if cmpOk x y then some (.bool (PySem.W.dataLt y x)) else none
def geD (x y : D) : Option D := if cmpOk x y then some (.bool (!PySem.W.dataLt x y)) else none
/-- two data, a bool out -/
def rDB (K : PySem.W.Frag) (g : D → D → Option D) : R2 := fun x y H Q => ∃ d e b, Dp K H x d ∧ Dp K H y e ∧ g d e = some (.bool b) ∧ Q (.bl b) H
theorem r_DB {K : PySem.W.Frag} {g : D → D → Option D} (hg : ∀ x y d, g x y = some d → ∃ b, d = .bool b) : R2D K (rDB K g) g := by
  intro T H x y dx dy d Q t rx ry e q
  obtain ⟨b, rfl⟩ := hg _ _ _ e
  exact ⟨dx, dy, b, rx.dp, ry.dp, e, q _ H (Same.refl H) (.bl b)⟩
theorem ltD_b : ∀ x y d, ltD x y = some d → ∃ b, d = .bool b := fun x y d h => by unfold ltD at h; split at h <;> cases h; exact ⟨_, rfl⟩
theorem leD_b : ∀ x y d, leD x y = some d → ∃ b, d = .bool b := fun x y d h => by unfold leD at h; split at h <;> cases h; exact ⟨_, rfl⟩
theorem gtD_b : ∀ x y d, gtD x y = some d → ∃ b, d = .bool b := fun x y d h => by unfold gtD at h; split at h <;> cases h; exact ⟨_, rfl⟩
theorem geD_b : ∀ x y d, geD x y = some d → ∃ b, d = .bool b := fun x y d h => by unfold geD at h; split at h <;> cases h; exact ⟨_, rfl⟩
theorem room_min {A : Around} {x y : D} (hu : A.units + 64 < cLine) (h : x.depth ≤ 64) : A.units + min x.depth y.depth < cLine := by
  have := Nat.min_le_left x.depth y.depth
  omega
theorem op_ltD (hu : X.A.units + 64 < cLine) : OpR X (compareOp .Lt) (rDB X.K ltD) := by
  intro pins s σ H x y v u Q I rx ry ⟨d, e, b, hd, he, g, q⟩
  obtain ⟨as, r1⟩ := Dp.reads I d x v hd rx
  obtain ⟨bs, r2⟩ := Dp.reads I e y u he ry
  unfold ltD at g
  split at g
  · rename_i c
    cases g
    obtain ⟨c1, c2, c3⟩ := cmpOk_of c
    exact PySem.W.lt_data r1 r2 c1 c2 (room_min hu c3) ⟨.bl _, H, I, rfl, q⟩
  · cases g
theorem op_leD (hu : X.A.units + 64 < cLine) : OpR X (compareOp .LtE) (rDB X.K leD) := by
  intro pins s σ H x y v u Q I rx ry ⟨d, e, b, hd, he, g, q⟩
  obtain ⟨as, r1⟩ := Dp.reads I d x v hd rx
  obtain ⟨bs, r2⟩ := Dp.reads I e y u he ry
  unfold leD at g
  split at g
  · rename_i c
    cases g
    obtain ⟨c1, c2, c3⟩ := cmpOk_of c
    exact PySem.W.le_data r1 r2 c1 c2 (room_min hu c3) ⟨.bl _, H, I, rfl, q⟩
  · cases g
theorem op_gtD (hu : X.A.units + 64 < cLine) : OpR X (compareOp .Gt) (rDB X.K gtD) := by
  intro pins s σ H x y v u Q I rx ry ⟨d, e, b, hd, he, g, q⟩
  obtain ⟨as, r1⟩ := Dp.reads I d x v hd rx
  obtain ⟨bs, r2⟩ := Dp.reads I e y u he ry
  unfold gtD at g
  split at g
  · rename_i c
    cases g
    obtain ⟨c1, c2, c3⟩ := cmpOk_of c
    exact PySem.W.gt_data r1 r2 c1 c2 (room_min hu c3) ⟨.bl _, H, I, rfl, q⟩
  · cases g
theorem op_geD (hu : X.A.units + 64 < cLine) : OpR X (compareOp .GtE) (rDB X.K geD) := by
  intro pins s σ H x y v u Q I rx ry ⟨d, e, b, hd, he, g, q⟩
  obtain ⟨as, r1⟩ := Dp.reads I d x v hd rx
  obtain ⟨bs, r2⟩ := Dp.reads I e y u he ry
  unfold geD at g
  split at g
  · rename_i c
    cases g
    obtain ⟨c1, c2, c3⟩ := cmpOk_of c
    exact PySem.W.ge_data r1 r2 c1 c2 (room_min hu c3) ⟨.bl _, H, I, rfl, q⟩
  · cases g
/-! ### ==, !=, is None, in -/
def eqD (x y : D) : Option D := if SeqAt.shaped x && SeqAt.shaped y then some (.bool (PyData.eqv x y)) else none
def neD (x y : D) : Option D := if SeqAt.shaped x && SeqAt.shaped y then some (.bool (!PyData.eqv x y)) else none
theorem eqD_b : ∀ x y d, eqD x y = some d → ∃ b, d = .bool b := fun x y d h => by unfold eqD at h; split at h <;> cases h; exact ⟨_, rfl⟩
theorem neD_b : ∀ x y d, neD x y = some d → ∃ b, d = .bool b := fun x y d h => by unfold neD at h; split at h <;> cases h; exact ⟨_, rfl⟩
theorem op_eqDB (hu : X.A.units + 64 < cLine) : OpR X (compareOp .Eq) (rDB X.K eqD) := by
  intro pins s σ H x y v u Q I rx ry ⟨d, e, b, hd, he, g, q⟩
  unfold eqD at g
  split at g
  · rename_i c
    cases g
    rw [Bool.and_eq_true] at c
    exact L2.op_eqD hu pins s σ H x y v u Q I rx ry ⟨d, e, hd, he, c.1, c.2, q⟩
  · cases g
theorem op_neDB (hu : X.A.units + 64 < cLine) : OpR X (compareOp .NotEq) (rDB X.K neD) := by
  intro pins s σ H x y v u Q I rx ry ⟨d, e, b, hd, he, g, q⟩
  unfold neD at g
  split at g
  · rename_i c
    cases g
    rw [Bool.and_eq_true] at c
    exact L2.op_neD hu pins s σ H x y v u Q I rx ry ⟨d, e, hd, he, c.1, c.2, q⟩
  · cases g
def isNone : D → Bool
  | .none => true
  | _ => false
def isND (x y : D) : Option D := match y with | .none => some (.bool (isNone x)) | _ => none
def notND (x y : D) : Option D := match y with | .none => some (.bool (!isNone x)) | _ => none
theorem isNone_v {K : PySem.W.Frag} {T : List Addr} {H : Hp} {x : V} {d : D} (r : Rp K T H x d) : decide (x = V.non) = isNone d := by cases r <;> rfl
theorem r_isN {K : PySem.W.Frag} : R2D K (fun x y H Q => y = .non ∧ Q (.bl (decide (x = .non))) H) isND := by
  intro T H x y dx dy d Q t rx ry e q
  unfold isND at e
  split at e
  · cases e
    cases ry
    rw [isNone_v rx]
    exact ⟨rfl, q _ H (Same.refl H) (.bl _)⟩
  · cases e
theorem r_notN {K : PySem.W.Frag} : R2D K (fun x y H Q => y = .non ∧ Q (.bl (!decide (x = .non))) H) notND := by
  intro T H x y dx dy d Q t rx ry e q
  unfold notND at e
  split at e
  · cases e
    cases ry
    rw [isNone_v rx]
    exact ⟨rfl, q _ H (Same.refl H) (.bl _)⟩
  · cases e
/-- a sign in a text; a datum in a tuple of data -/
def inD : D → D → Option D
  | .str x, .str y => match x.cps.toList with
    | [c] => some (.bool (decide (c ∈ y.cps.toList)))
    | _ => none
  | x, .tuple ys => if SeqAt.shaped x && SeqAt.shaped (.tuple ys) then some (.bool (ys.any fun z => PyData.eqv z x)) else none
  | _, _ => none
theorem inD_b : ∀ x y d, inD x y = some d → ∃ b, d = .bool b := fun x y d h => by
  unfold inD at h
  split at h
  · split at h <;> cases h
    exact ⟨_, rfl⟩
  · split at h <;> cases h
    exact ⟨_, rfl⟩
  · cases h
theorem room_in {A : Around} {k : Nat} {x : D} (hu : A.units + 65 < cLine) (h : SeqAt.shaped x = true) : A.units + 1 + min k x.depth < cLine := by
  have h1 := SeqAt.depth_of_shaped h
  have h2 := Nat.min_le_right k x.depth
  omega
theorem op_inDB (hu : X.A.units + 65 < cLine) : OpR X (compareOp .In) (rDB X.K inD) := by
  intro pins s σ H x y v u Q I rx ry ⟨d, e, b, hd, he, g, q⟩
  unfold inD at g
  split at g
  · split at g
    · rename_i x' y' z c hc
      cases g
      cases hd
      cases he
      have e1 : x' = ⟨#[c]⟩ := PySem.W.str_of_cps (by rw [hc])
      subst e1
      exact op_in_sign pins s σ H _ _ v u Q I rx ry ⟨c, y', rfl, rfl, q⟩
    · cases g
  · split at g
    · rename_i c
      cases g
      rw [Bool.and_eq_true] at c
      obtain ⟨as, r1⟩ := L2.Dp.reads I _ x v hd rx
      obtain ⟨bs, r2⟩ := L2.Dp.reads I _ y u he ry
      exact SeqAt.in_tuple_reads r2 r1 (SeqAt.canLay_of_shaped c.2) (SeqAt.canLay_of_shaped c.1) (room_in hu c.1) ⟨.bl _, H, I, rfl, q⟩
    · cases g
  · cases g
variable {a b : Expr} {fa fb : Fe} {pos : Pos}
theorem d_lt (hu : X.A.units + 64 < cLine) (ha : PE X a (tD X.K fa)) (hb : PE X b (tD X.K fb)) : PE X (.Compare a [.Lt] [b] pos) (tD X.K (f2 ltD fa fb)) := d_cmp (op_ltD hu) (r_DB ltD_b) ha hb (nomark _)
theorem d_le (hu : X.A.units + 64 < cLine) (ha : PE X a (tD X.K fa)) (hb : PE X b (tD X.K fb)) : PE X (.Compare a [.LtE] [b] pos) (tD X.K (f2 leD fa fb)) := d_cmp (op_leD hu) (r_DB leD_b) ha hb (nomark _)
theorem d_gt (hu : X.A.units + 64 < cLine) (ha : PE X a (tD X.K fa)) (hb : PE X b (tD X.K fb)) : PE X (.Compare a [.Gt] [b] pos) (tD X.K (f2 gtD fa fb)) := d_cmp (op_gtD hu) (r_DB gtD_b) ha hb (nomark _)
theorem d_ge (hu : X.A.units + 64 < cLine) (ha : PE X a (tD X.K fa)) (hb : PE X b (tD X.K fb)) : PE X (.Compare a [.GtE] [b] pos) (tD X.K (f2 geD fa fb)) := d_cmp (op_geD hu) (r_DB geD_b) ha hb (nomark _)
theorem d_eq (hu : X.A.units + 64 < cLine) (ha : PE X a (tD X.K fa)) (hb : PE X b (tD X.K fb)) : PE X (.Compare a [.Eq] [b] pos) (tD X.K (f2 eqD fa fb)) := d_cmp (op_eqDB hu) (r_DB eqD_b) ha hb (nomark _)
theorem d_ne (hu : X.A.units + 64 < cLine) (ha : PE X a (tD X.K fa)) (hb : PE X b (tD X.K fb)) : PE X (.Compare a [.NotEq] [b] pos) (tD X.K (f2 neD fa fb)) := d_cmp (op_neDB hu) (r_DB neD_b) ha hb (nomark _)
theorem d_isN (ha : PE X a (tD X.K fa)) (hb : PE X b (tD X.K fb)) : PE X (.Compare a [.Is] [b] pos) (tD X.K (f2 isND fa fb)) := d_cmp op_isN r_isN ha hb (nomark _)
theorem d_notN (ha : PE X a (tD X.K fa)) (hb : PE X b (tD X.K fb)) : PE X (.Compare a [.IsNot] [b] pos) (tD X.K (f2 notND fa fb)) := d_cmp op_notN r_notN ha hb (nomark _)
theorem d_in (hu : X.A.units + 65 < cLine) (ha : PE X a (tD X.K fa)) (hb : PE X b (tD X.K fb)) (hm : behindInMarks .In b = false := by rfl) : PE X (.Compare a [.In] [b] pos) (tD X.K (f2 inD fa fb)) := d_cmp (op_inDB hu) (r_DB inD_b) ha hb hm
/-- as tests -/
theorem dt_lt (hu : X.A.units + 64 < cLine) (ha : PE X a (tD X.K fa)) (hb : PE X b (tD X.K fb)) : PT X (.Compare a [.Lt] [b] pos) (tDT X.K (asB (f2 ltD fa fb))) := dt_cmp (op_ltD hu) (r_DB ltD_b) ha hb (nomark _)
theorem dt_le (hu : X.A.units + 64 < cLine) (ha : PE X a (tD X.K fa)) (hb : PE X b (tD X.K fb)) : PT X (.Compare a [.LtE] [b] pos) (tDT X.K (asB (f2 leD fa fb))) := dt_cmp (op_leD hu) (r_DB leD_b) ha hb (nomark _)
theorem dt_eq (hu : X.A.units + 64 < cLine) (ha : PE X a (tD X.K fa)) (hb : PE X b (tD X.K fb)) : PT X (.Compare a [.Eq] [b] pos) (tDT X.K (asB (f2 eqD fa fb))) := dt_cmp (op_eqDB hu) (r_DB eqD_b) ha hb (nomark _)
theorem dt_ne (hu : X.A.units + 64 < cLine) (ha : PE X a (tD X.K fa)) (hb : PE X b (tD X.K fb)) : PT X (.Compare a [.NotEq] [b] pos) (tDT X.K (asB (f2 neD fa fb))) := dt_cmp (op_neDB hu) (r_DB neD_b) ha hb (nomark _)
theorem dt_isN (ha : PE X a (tD X.K fa)) (hb : PE X b (tD X.K fb)) : PT X (.Compare a [.Is] [b] pos) (tDT X.K (asB (f2 isND fa fb))) := dt_cmp op_isN r_isN ha hb (nomark _)
theorem dt_notN (ha : PE X a (tD X.K fa)) (hb : PE X b (tD X.K fb)) : PT X (.Compare a [.IsNot] [b] pos) (tDT X.K (asB (f2 notND fa fb))) := dt_cmp op_notN r_notN ha hb (nomark _)
theorem dt_in (hu : X.A.units + 65 < cLine) (ha : PE X a (tD X.K fa)) (hb : PE X b (tD X.K fb)) (hm : behindInMarks .In b = false := by rfl) : PT X (.Compare a [.In] [b] pos) (tDT X.K (asB (f2 inD fa fb))) := dt_cmp (op_inDB hu) (r_DB inD_b) ha hb hm
/-! ### a op b op c -/
def fChain (g g' : D → D → Option D) (a b c : Fe) : Fe := fun ds => (a ds).bind fun x => (b ds).bind fun y => match g x y with
  | some (.bool true) => (c ds).bind fun z => g' y z
  | some (.bool false) => some (.bool false)
  | _ => none
variable {c : Expr} {fc : Fe}
theorem tChainD {r r' : R2} {g g' : D → D → Option D} {K : PySem.W.Frag} (hr : R2D K r g) (hr' : R2D K r' g') {σ : St} {H : Hp} {Q : VK} (h : tD K (fChain g g' fa fb fc) σ H Q) : tChain r r' (tD K fa) (tD K fb) (tD K fc) σ H Q := by
  obtain ⟨T, ds, d, S, e, q⟩ := h
  unfold fChain at e
  cases ea : fa ds with
  | none => rw [ea] at e; cases e
  | some x =>
    cases eb : fb ds with
    | none => rw [ea, eb] at e; cases e
    | some y =>
      rw [ea, eb] at e
      replace e : (match g x y with | some (.bool true) => (fc ds).bind fun z => g' y z | some (.bool false) => some (.bool false) | _ => none) = some d := e
      refine ⟨T, ds, x, S, ea, fun v1 H1 s1 r1 => ⟨T, ds, y, S.same s1, eb, fun v2 H2 s2 r2 => ?_⟩⟩
      have S2 := (S.same s1).same s2
      split at e
      · rename_i eg
        refine hr T H2 v1 v2 x y _ _ S2.dom (r1.same s2 (S.same s1).dom) r2 eg fun v H3 s3 r3 => ?_
        cases r3
        refine ⟨true, rfl, iteT ?_⟩
        cases ec : fc ds with
        | none => rw [ec] at e; cases e
        | some z =>
          rw [ec] at e
          refine ⟨T, ds, z, S2.same s3, ec, fun v4 H4 s4 r4 => ?_⟩
          exact hr' T H4 v2 v4 y z d Q ((S2.same s3).same s4).dom ((r2.same s3 S2.dom).same s4 (S2.same s3).dom) r4 e fun v H' s5 r5 => q v H' ((((s1.trans s2).trans s3).trans s4).trans s5) r5
      · rename_i eg
        cases e
        refine hr T H2 v1 v2 x y _ _ S2.dom (r1.same s2 (S.same s1).dom) r2 eg fun v H3 s3 r3 => ?_
        cases r3
        exact ⟨false, rfl, iteF (q _ H3 ((s1.trans s2).trans s3) (.bl false))⟩
      · cases e
theorem d_chain {op op' : CmpOp} {r r' : R2} {g g' : D → D → Option D} (ho : OpR X (compareOp op) r) (ho' : OpR X (compareOp op') r') (hr : R2D X.K r g) (hr' : R2D X.K r' g') (ha : PE X a (tD X.K fa)) (hb : PE X b (tD X.K fb)) (hc : PE X c (tD X.K fc))
    (hm : lastMarks [op, op'] [b, c] = false := by with_unfolding_all rfl) : PE X (.Compare a [op, op'] [b, c] pos) (tD X.K (fChain g g' fa fb fc)) :=
  (pe_chain ho ho' ha hb hc hm).imp fun _ _ _ h => tChainD hr hr' h
theorem dt_chain {op op' : CmpOp} {r r' : R2} {g g' : D → D → Option D} (ho : OpR X (compareOp op) r) (ho' : OpR X (compareOp op') r') (hr : R2D X.K r g) (hr' : R2D X.K r' g') (ha : PE X a (tD X.K fa)) (hb : PE X b (tD X.K fb)) (hc : PE X c (tD X.K fc))
    (hm : lastMarks [op, op'] [b, c] = false := by with_unfolding_all rfl) : PT X (.Compare a [op, op'] [b, c] pos) (tDT X.K (asB (fChain g g' fa fb fc))) :=
  (pt_chain ho ho' ha hb hc hm).imp fun σ H Q q => by
    have z := tChainD hr hr' (tB_of q)
    exact z
theorem d_lele (hu : X.A.units + 64 < cLine) (ha : PE X a (tD X.K fa)) (hb : PE X b (tD X.K fb)) (hc : PE X c (tD X.K fc)) (hm : lastMarks [.LtE, .LtE] [b, c] = false := by with_unfolding_all rfl) : PE X (.Compare a [.LtE, .LtE] [b, c] pos) (tD X.K (fChain leD leD fa fb fc)) :=
  d_chain (op_leD hu) (op_leD hu) (r_DB leD_b) (r_DB leD_b) ha hb hc hm
theorem d_ltlt (hu : X.A.units + 64 < cLine) (ha : PE X a (tD X.K fa)) (hb : PE X b (tD X.K fb)) (hc : PE X c (tD X.K fc)) (hm : lastMarks [.Lt, .Lt] [b, c] = false := by with_unfolding_all rfl) : PE X (.Compare a [.Lt, .Lt] [b, c] pos) (tD X.K (fChain ltD ltD fa fb fc)) :=
  d_chain (op_ltD hu) (op_ltD hu) (r_DB ltD_b) (r_DB ltD_b) ha hb hc hm
theorem dt_lele (hu : X.A.units + 64 < cLine) (ha : PE X a (tD X.K fa)) (hb : PE X b (tD X.K fb)) (hc : PE X c (tD X.K fc)) (hm : lastMarks [.LtE, .LtE] [b, c] = false := by with_unfolding_all rfl) : PT X (.Compare a [.LtE, .LtE] [b, c] pos) (tDT X.K (asB (fChain leD leD fa fb fc))) :=
  dt_chain (op_leD hu) (op_leD hu) (r_DB leD_b) (r_DB leD_b) ha hb hc hm
/-! ### +, * -/
def addD : D → D → Option D
  | .int i, .int j => some (.int (i + j))
  | .list xs, .list ys => if small xs && small ys then some (.list (xs ++ ys)) else none
  | .tuple xs, .tuple ys => if small xs && small ys then some (.tuple (xs ++ ys)) else none
  | _, _ => none
theorem smalls {K : PySem.W.Frag} {T : List Addr} {H : Hp} {vs ws : List V} {xs ys : List D} (h : (small xs && small ys) = true) (r : RpA K T H vs xs) (r' : RpA K T H ws ys) : vs.length + ws.length ≤ sizeLine := by
  rw [Bool.and_eq_true] at h
  have h1 := of_decide_eq_true h.1
  have h2 := of_decide_eq_true h.2
  rw [r.length, r'.length, sizeLine_eq]; omega
theorem d_add (ha : PE X a (tD X.K fa)) (hb : PE X b (tD X.K fb)) : PE X (.BinOp a .Add b pos) (tD X.K (f2 addD fa fb)) := by
  refine d_op (op_add.or (op_cat.or op_catA)) ?_ ha hb
  intro T H x y dx dy d Q t rx ry e q
  unfold addD at e
  split at e
  · cases e
    cases rx
    cases ry
    exact .inl ⟨_, _, rfl, rfl, q _ H (Same.refl H) (.int _)⟩
  · split at e
    · rename_i hs
      cases e
      cases rx with
      | lst h1 h2 =>
        cases ry with
        | lst h3 h4 => exact .inr (.inl ⟨_, _, _, _, rfl, rfl, h1.2, h3.2, smalls hs h2 h4, fun p hp => q _ _ (Same.new hp) (Rp.newL (h2.append h4) t hp)⟩)
    · cases e
  · split at e
    · rename_i hs
      cases e
      cases rx with
      | tup h1 h2 =>
        cases ry with
        | tup h3 h4 =>
          refine .inr (.inr ⟨_, _, _, _, rfl, rfl, h1.sq, h3.sq, smalls hs h2 h4, fun z => ?_, fun z z' => ?_, fun z z' p hp => q _ _ (Same.new hp) (Rp.newT (h2.append h4) t hp)⟩)
          · subst z
            cases h2
            exact q _ H (Same.refl H) (.tup h3 h4)
          · subst z'
            cases h4
            rw [List.append_nil] at q
            exact q _ H (Same.refl H) (.tup h1 h2)
    · cases e
  · cases e
def mulD : D → D → Option D
  | .list xs, .int k => if decide (0 ≤ k ∧ k ≤ 100) && decide (xs.length ≤ 100) then some (.list (List.replicate k.toNat xs).flatten) else none
  | _, _ => none
theorem RpA.flat {K : PySem.W.Frag} {T : List Addr} {H : Hp} {vs : List V} {xs : List D} (h : RpA K T H vs xs) : ∀ n, RpA K T H (List.replicate n vs).flatten (List.replicate n xs).flatten
  | 0 => .nil
  | n + 1 => by
    rw [List.replicate_succ, List.replicate_succ, List.flatten_cons, List.flatten_cons]
    exact h.append (RpA.flat h n)
theorem d_mul (ha : PE X a (tD X.K fa)) (hb : PE X b (tD X.K fb)) : PE X (.BinOp a .Mult b pos) (tD X.K (f2 mulD fa fb)) := by
  refine d_op op_rep ?_ ha hb
  intro T H x y dx dy d Q t rx ry e q
  unfold mulD at e
  split at e
  · rename_i xs k
    split at e
    · rename_i hs
      cases e
      rw [Bool.and_eq_true] at hs
      have h1 := of_decide_eq_true hs.1
      have h2 := of_decide_eq_true hs.2
      cases rx with
      | lst h3 h4 =>
        cases ry
        refine ⟨_, _, _, rfl, rfl, h3.2, by omega, by omega, ?_, fun p hp => q _ _ (Same.new hp) (Rp.newL (h4.flat _) t hp)⟩
        rw [h4.length, sizeLine_eq]
        have h5 : (k : Int).toNat ≤ 100 := by omega
        have h6 := Nat.mul_le_mul h2 h5
        omega
    · cases e
  · cases e
/-! ### slices with written ends -/
def cutL {α : Type} (xs : List α) (lo hi : Option Int) : List α := (xs.drop (HT.sIx xs.length 0 lo)).take (HT.sIx xs.length xs.length hi - HT.sIx xs.length 0 lo)
def slD (lo hi : Option Int) : D → Option D
  | .list xs => some (.list (cutL xs lo hi))
  | .tuple xs => some (.tuple (cutL xs lo hi))
  | _ => none
def tPt (o : Option Int) : TO := fun _ H Q => Q o H
theorem po_n : PO X none (tPt none) := po_none
theorem po_i {i : Int} {j : Nat} {p : Pos} : PO X (some (.Constant (.int i) j p)) (tPt (some i)) := by
  have h := po_some (pe_int (X := X) (i := i) (j := j) (pos := p))
  exact ⟨fun pins s σ H Q I q => h.run pins s σ H Q I ⟨i, rfl, q⟩⟩
theorem RpA.cut {K : PySem.W.Frag} {T : List Addr} {H : Hp} {vs : List V} {xs : List D} (h : RpA K T H vs xs) (lo hi : Option Int) : RpA K T H (cutV vs lo hi) (cutL xs lo hi) := by
  unfold cutV cutL
  rw [h.length]
  exact (h.drop _).take _
theorem d_slice {e : Expr} {el eh : Option Expr} {f : Fe} {lo hi : Option Int} {p2 : Pos} (he : PE X e (tD X.K f)) (hl : PO X el (tPt lo)) (hh : PO X eh (tPt hi)) : PE X (.Subscript e (.Slice el eh none p2) pos) (tD X.K (f1 (slD lo hi) f)) :=
  (pe_slice (sl_list.or sl_tupA) he hl hh).imp fun σ H Q h => by
    obtain ⟨T, ds, d, S, e, q⟩ := h
    obtain ⟨x, e1, e2⟩ := f1_some e
    refine ⟨T, ds, x, S, e1, fun v H1 s1 r1 => ?_⟩
    have t := (S.same s1).dom
    show (rSlL X.K v lo hi H1 Q) ∨ (rSlA X.K v lo hi H1 Q)
    unfold slD at e2
    split at e2
    · cases e2
      cases r1 with
      | lst h1 h2 => exact .inl ⟨_, _, rfl, h1.sq, fun p hp => q _ _ (s1.trans (Same.new hp)) (Rp.newL (h2.cut lo hi) t hp)⟩
    · cases e2
      cases r1 with
      | tup h1 h2 =>
        refine .inr ⟨_, _, rfl, h1.sq, fun z => ?_, fun z p hp => q _ _ (s1.trans (Same.new hp)) (Rp.newT (h2.cut lo hi) t hp)⟩
        have z' := z
        rw [h2.length] at z'
        have e3 : ∀ {α : Type} (l : List α), HT.sIx l.length 0 lo = 0 ∧ HT.sIx l.length l.length hi = l.length → cutL l lo hi = l := fun l w => by
          unfold cutL
          rw [w.1, w.2, List.drop_zero, Nat.sub_zero, List.take_length]
        rw [e3 _ z'] at q
        exact q _ H1 s1 (.tup h1 h2)
    · cases e2
end
/-! ### built-ins -/
section
variable {X : Cx} {x : Str} {p pos : Pos} {e : Expr} {es : List Expr} {g : Fa}
def lenM : List D → Option D
  | [.list xs] => some (.int xs.length)
  | [.tuple xs] => some (.int xs.length)
  | [.str y] => if decide (y.length ≤ 100000) then some (.int y.length) else none
  | _ => none
theorem r_len : RAD X.K (fun xs H Q => ∃ x n, xs = [x] ∧ LenV X.K x H n ∧ Q (.int n) H) lenM := by
  intro T H vs xs d Q t r e q
  unfold lenM at e
  split at e
  · cases e
    cases r with
    | cons r1 r2 =>
      cases r2
      cases r1 with
      | lst h1 h2 =>
        refine ⟨_, _, rfl, .inl ⟨_, h1.sq, rfl⟩, ?_⟩
        rw [h2.length]
        exact q _ H (Same.refl H) (.int _)
  · cases e
    cases r with
    | cons r1 r2 =>
      cases r2
      cases r1 with
      | tup h1 h2 =>
        refine ⟨_, _, rfl, .inr ⟨_, h1.sq, rfl⟩, ?_⟩
        rw [h2.length]
        exact q _ H (Same.refl H) (.int _)
  · split at e
    · rename_i h
      cases e
      have h' := of_decide_eq_true h
      cases r with
      | cons r1 r2 =>
        cases r2
        cases r1
        exact ⟨_, _, rfl, ⟨by rw [sizeLine_eq]; omega, rfl⟩, q _ H (Same.refl H) (.int _)⟩
    · cases e
  · cases e
theorem d_len (hg : Gl X "len") (hm : X.mg "len" = none) (ha : PA X [e] (tDA X.K g)) (hs : starEach [e] X.env = (false, eval e X.env) :: starEach [] X.env := by rfl) : PE X (.Call (.Name "len" p) [e] [] pos) (tD X.K (fCall lenM g)) := d_callB call_len r_len hg hm PySem.boot_len ha (by decide) (by decide) hs
def bools : List D → Option (List Bool)
  | [] => some []
  | .bool b :: r => (bools r).map (b :: ·)
  | _ :: _ => none
theorem bools_ok {K : PySem.W.Frag} {T : List Addr} {H : Hp} : ∀ {vs : List V} {xs : List D} {bs : List Bool}, RpA K T H vs xs → bools xs = some bs → vs = bs.map V.bl
  | _, [], _, r, e => by cases r; cases e; rfl
  | _, x :: xs, bs, r, e => by
    cases r with
    | cons r1 r2 =>
      cases x with
      | bool b =>
        have e' : (bools xs).map (b :: ·) = some bs := e
        cases h : bools xs with
        | none => rw [h] at e'; cases e'
        | some cs =>
          rw [h] at e'
          cases e'
          cases r1
          rw [bools_ok r2 h]
          rfl
      | _ => cases e
def allM : List D → Option D
  | [.list xs] => (bools xs).map fun bs => .bool (bs.all id)
  | _ => none
def anyM : List D → Option D
  | [.list xs] => (bools xs).map fun bs => .bool (bs.any id)
  | _ => none
theorem r_all {K : PySem.W.Frag} : RAD K (rAll K) allM := by
  intro T H vs xs d Q t r e q
  unfold allM at e
  split at e
  · rename_i xs
    cases h : bools xs with
    | none => rw [h] at e; cases e
    | some bs =>
      rw [h] at e
      cases e
      cases r with
      | cons r1 r2 =>
        cases r2
        cases r1 with
        | lst h1 h2 =>
          have := bools_ok h2 h
          subst this
          exact ⟨_, bs, rfl, h1.sq, q _ H (Same.refl H) (.bl _)⟩
  · cases e
theorem r_any {K : PySem.W.Frag} : RAD K (rAny K) anyM := by
  intro T H vs xs d Q t r e q
  unfold anyM at e
  split at e
  · rename_i xs
    cases h : bools xs with
    | none => rw [h] at e; cases e
    | some bs =>
      rw [h] at e
      cases e
      cases r with
      | cons r1 r2 =>
        cases r2
        cases r1 with
        | lst h1 h2 =>
          have := bools_ok h2 h
          subst this
          exact ⟨_, bs, rfl, h1.sq, q _ H (Same.refl H) (.bl _)⟩
  · cases e
theorem d_all (hc : X.calm = true) (hg : Gl X "all") (hm : X.mg "all" = none) (ha : PA X [e] (tDA X.K g)) (hs : starEach [e] X.env = (false, eval e X.env) :: starEach [] X.env := by rfl) : PE X (.Call (.Name "all" p) [e] [] pos) (tD X.K (fCall allM g)) := d_callB (cr_all hc) r_all hg hm (by decide +kernel) ha (by decide) (by decide) hs
theorem d_any (hc : X.calm = true) (hg : Gl X "any") (hm : X.mg "any" = none) (ha : PA X [e] (tDA X.K g)) (hs : starEach [e] X.env = (false, eval e X.env) :: starEach [] X.env := by rfl) : PE X (.Call (.Name "any" p) [e] [] pos) (tD X.K (fCall anyM g)) := d_callB (cr_any hc) r_any hg hm (by decide +kernel) ha (by decide) (by decide) hs
/-- tuple(a list, a tuple); list(..) -/
def tupM : List D → Option D
  | [.list xs] => some (.tuple xs)
  | [.tuple xs] => some (.tuple xs)
  | _ => none
def lstM : List D → Option D
  | [.list xs] => some (.list xs)
  | [.tuple xs] => some (.list xs)
  | _ => none
theorem r_tup : RAD X.K (fun xs H Q => ∃ p ys, xs = [.ref p] ∧ ((SqL X.K H p ys ∧ ∀ l, H l = none → Q (.ref l) (upd H l (.tup ys))) ∨ (SqT X.K H p ys ∧ Q (.ref p) H))) tupM := by
  intro T H vs xs d Q t r e q
  unfold tupM at e
  split at e
  · cases e
    cases r with
    | cons r1 r2 =>
      cases r2
      cases r1 with
      | lst h1 h2 => exact ⟨_, _, rfl, .inl ⟨h1.sq, fun p hp => q _ _ (Same.new hp) (Rp.newT h2 t hp)⟩⟩
  · cases e
    cases r with
    | cons r1 r2 =>
      cases r2
      cases r1 with
      | tup h1 h2 => exact ⟨_, _, rfl, .inr ⟨h1.sq, q _ H (Same.refl H) (.tup h1 h2)⟩⟩
  · cases e
theorem r_lst : RAD X.K (fun xs H Q => ∃ p ys, xs = [.ref p] ∧ (SqL X.K H p ys ∨ SqT X.K H p ys) ∧ ∀ l, H l = none → Q (.ref l) (upd H l (.lst ys))) lstM := by
  intro T H vs xs d Q t r e q
  unfold lstM at e
  split at e
  · cases e
    cases r with
    | cons r1 r2 =>
      cases r2
      cases r1 with
      | lst h1 h2 => exact ⟨_, _, rfl, .inl h1.sq, fun p hp => q _ _ (Same.new hp) (Rp.newL h2 t hp)⟩
  · cases e
    cases r with
    | cons r1 r2 =>
      cases r2
      cases r1 with
      | tup h1 h2 => exact ⟨_, _, rfl, .inr h1.sq, fun p hp => q _ _ (Same.new hp) (Rp.newL h2 t hp)⟩
  · cases e
theorem d_tupOf (hg : Gl X "tuple") (hm : X.mg "tuple" = none) (ha : PA X [e] (tDA X.K g)) (hs : starEach [e] X.env = (false, eval e X.env) :: starEach [] X.env := by rfl) : PE X (.Call (.Name "tuple" p) [e] [] pos) (tD X.K (fCall tupM g)) := d_callTy call_tuple_of r_tup hg hm (by decide +kernel) ha (by decide) (by decide) hs
theorem d_lstOf (hg : Gl X "list") (hm : X.mg "list" = none) (ha : PA X [e] (tDA X.K g)) (hs : starEach [e] X.env = (false, eval e X.env) :: starEach [] X.env := by rfl) : PE X (.Call (.Name "list" p) [e] [] pos) (tD X.K (fCall lstM g)) := d_callTy call_list_of r_lst hg hm (by decide +kernel) ha (by decide) (by decide) hs
/-- min of a tuple of ints -/
def intsD : List D → Option (List Int)
  | [] => some []
  | .int i :: r => (intsD r).map (i :: ·)
  | _ :: _ => none
def leastI : List Int → Option Int
  | [] => none
  | x :: xs => some (xs.foldl min x)
def minM : List D → Option D
  | [.tuple xs] => ((intsD xs).bind leastI).map .int
  | _ => none
theorem ints_map : ∀ {xs : List D} {ns : List Int}, intsD xs = some ns → xs = ns.map .int
  | [], _, e => by cases e; rfl
  | x :: xs, ns, e => by
    cases x with
    | int b =>
      have e' : (intsD xs).map (b :: ·) = some ns := e
      cases h : intsD xs with
      | none => rw [h] at e'; cases e'
      | some cs =>
        rw [h] at e'
        cases e'
        rw [ints_map h]
        rfl
    | _ => cases e
def rMinT (K : PySem.W.Frag) : List V → Hp → VK → Prop := fun vs H Q => ∃ (a : Addr) (n : Int) (ns : List Int), vs = [.ref a] ∧ SqT K H a ((n :: ns).map V.int) ∧ Q (.int (ns.foldl min n)) H
theorem dpAll_ints {K : PySem.W.Frag} {H : Hp} : ∀ ns : List Int, DpAll K H (ns.map V.int) (ns.map PyData.int)
  | [] => .nil
  | n :: ns => .cons (.int n) (dpAll_ints ns)
theorem cr_minT (hc : X.calm = true) (hu : X.A.units + 64 < cLine) : CallR X (.builtin "min") (rMinT X.K) := by
  intro pins s σ H vs us Q I r ⟨a, n, ns, ev, h, q⟩
  subst ev
  obtain ⟨u, rfl, ru⟩ := vals1 r
  cases ru
  obtain ⟨its, rv, ht, hz⟩ := I.tuple h
  obtain ⟨as, hr⟩ := Dp.readsAll I ((n :: ns).map PyData.int) ((n :: ns).map V.int) its (dpAll_ints _) rv
  have hd : PyData.depthAll ((n :: ns).map PyData.int) = 0 := PySem.W.depth_ints _
  refine PySem.W.min_tuple_data (x := .int n) (xs := ns.map .int) (I.ok.hd hc) ht (by simpa using hr) ⟨fun x hx y hy => ?_, fun x hx => ?_⟩ ?_ fun i v h' tk bs hi hR k => ?_
  · have hx' : x ∈ (n :: ns).map PyData.int := hx
    have hy' : y ∈ (n :: ns).map PyData.int := hy
    obtain ⟨i, _, rfl⟩ := List.mem_map.mp hx'
    obtain ⟨j, _, rfl⟩ := List.mem_map.mp hy'
    simp [PySem.W.alike]
  · have hx' : x ∈ (n :: ns).map PyData.int := hx
    obtain ⟨i, _, rfl⟩ := List.mem_map.mp hx'
    exact fun z => nomatch z
  · have hd' : PyData.depthAll (.int n :: ns.map PyData.int) = 0 := hd
    rw [hd']; omega
  · rw [PySem.W.minD_ints] at hR
    cases hR
    exact ⟨.int _, H, I.kept k, ⟨_, rfl⟩, q⟩
theorem rpA_ints {K : PySem.W.Frag} {T : List Addr} {H : Hp} : ∀ {ns : List Int} {vs : List V}, RpA K T H vs (ns.map PyData.int) → vs = ns.map V.int
  | [], _, r => by cases r; rfl
  | n :: ns, _, r => by
    cases r with
    | cons r1 r2 =>
      cases r1
      rw [rpA_ints r2]
      rfl
theorem r_min {K : PySem.W.Frag} : RAD K (rMinT K) minM := by
  intro T H vs xs d Q t r e q
  unfold minM at e
  split at e
  · rename_i xs
    cases h : intsD xs with
    | none => rw [h] at e; cases e
    | some ns =>
      rw [h] at e
      cases ns with
      | nil => cases e
      | cons n ns =>
        cases e
        have := ints_map h
        subst this
        cases r with
        | cons r1 r2 =>
          cases r2
          cases r1 with
          | tup h1 h2 =>
            have := rpA_ints h2
            subst this
            exact ⟨_, n, ns, rfl, h1.sq, q _ H (Same.refl H) (.int _)⟩
  · cases e
theorem d_min (hc : X.calm = true) (hu : X.A.units + 64 < cLine) (hg : Gl X "min") (hm : X.mg "min" = none) (ha : PA X [e] (tDA X.K g)) (hs : starEach [e] X.env = (false, eval e X.env) :: starEach [] X.env := by rfl) : PE X (.Call (.Name "min" p) [e] [] pos) (tD X.K (fCall minM g)) := d_callB (cr_minT hc hu) r_min hg hm (by decide +kernel) ha (by decide) (by decide) hs
/-- int(a bool, an int) -/
def intM : List D → Option D
  | [.int i] => some (.int i)
  | [.bool k] => some (.int (if k then 1 else 0))
  | _ => none
theorem r_int {K : PySem.W.Frag} : RAD K (fun xs H Q => (∃ i, xs = [.int i] ∧ Q (.int i) H) ∨ ∃ k, xs = [.bl k] ∧ Q (.int (if k then 1 else 0)) H) intM := by
  intro T H vs xs d Q t r e q
  unfold intM at e
  split at e
  · cases e
    cases r with
    | cons r1 r2 =>
      cases r2
      cases r1
      exact .inl ⟨_, rfl, q _ H (Same.refl H) (.int _)⟩
  · cases e
    cases r with
    | cons r1 r2 =>
      cases r2
      cases r1
      exact .inr ⟨_, rfl, q _ H (Same.refl H) (.int _)⟩
  · cases e
theorem d_intOf (hg : Gl X "int") (hm : X.mg "int" = none) (ha : PA X [e] (tDA X.K g)) (hs : starEach [e] X.env = (false, eval e X.env) :: starEach [] X.env := by rfl) : PE X (.Call (.Name "int" p) [e] [] pos) (tD X.K (fCall intM g)) := d_callTy call_int1 r_int hg hm (by decide +kernel) ha (by decide) (by decide) hs
/-! ### isinstance -/
def isT (n : String) : D → Bool
  | .none => false
  | .bool _ => n == "bool" || n == "int"
  | .int _ => n == "int"
  | .str _ => n == "str"
  | .list _ => n == "list"
  | .tuple _ => n == "tuple"
  | .dict _ => false
def tyN : D → String
  | .none => "NoneType"
  | .bool _ => "bool"
  | .int _ => "int"
  | .str _ => "str"
  | .list _ => "list"
  | .tuple _ => "tuple"
  | .dict _ => "dict"
def kinds : List String := ["int", "bool", "str", "list", "tuple"]
theorem kit_is {n : String} (h : n ∈ kinds) (x : D) (hx : ∀ kvs, x ≠ .dict kvs) : kitB (tyN x) n = some (isT n x) := by
  unfold kinds at h
  simp only [List.mem_cons, List.not_mem_nil, or_false] at h
  rcases h with rfl | rfl | rfl | rfl | rfl <;> cases x <;> first | (exact absurd rfl (hx _)) | (show kitB _ _ = some _; decide +kernel) | (simp only [tyN, isT]; decide +kernel)
theorem ty_of {K : PySem.W.Frag} {T : List Addr} {H : Hp} {v : V} {x : D} (r : Rp K T H v x) : TyX K H v (.type (tyN x)) := by
  cases r with
  | non => exact .base .non
  | bl b => exact .base (.bl b)
  | int i => exact .base (.int i)
  | str y => exact .base (.str y)
  | lst h1 h2 => exact .base (.lst h1.2)
  | tup h1 h2 =>
    rcases h1 with h1 | ⟨o, its, n, h, c, _⟩
    · exact .base (.tup h1.2)
    · exact .kTuple h c
theorem not_dict {K : PySem.W.Frag} {T : List Addr} {H : Hp} {v : V} {x : D} (r : Rp K T H v x) : ∀ kvs, x ≠ .dict kvs := fun kvs z => by subst z; cases r
def isiD (n : String) (x : D) : Option D := some (.bool (isT n x))
theorem d_isi {n : Str} {nn : String} {f : Fe} {p2 : Pos} (hg : Gl X "isinstance") (hm : X.mg "isinstance" = none) (hg2 : Gl X n) (hm2 : X.mg n = none) (hv : bootBuiltins n = some (.type nn)) (hk : nn ∈ kinds) (he : PE X e (tD X.K f)) (hn : n ≠ "__name__" := by decide) (hd : (n == ("__debug__" : Str)) = false := by decide)
    (hs1 : starEach (e :: [.Name n p2]) X.env = (false, eval e X.env) :: starEach [.Name n p2] X.env := by rfl) (hs2 : starEach [.Name n p2] X.env = (false, eval (.Name n p2) X.env) :: starEach [] X.env := by rfl) (hpl : (backTo pos (starEach [.Name n p2] X.env)).any (·.1) = false := by rfl) :
    PE X (.Call (.Name "isinstance" p) [e, .Name n p2] [] pos) (tD X.K (f1 (isiD nn) f)) :=
  (pe_callB call_isi hg hm (by decide +kernel) (pa_cons he (pa_cons (pe_bltn (v := .ty nn) hg2 hm2 hv rfl hn hd) pa_nil hs2) hs1) (by decide) (by decide) hs1 hpl).imp fun σ H Q h => by
    obtain ⟨T, ds, d, S, e, q⟩ := h
    obtain ⟨x, e1, e2⟩ := f1_some e
    cases e2
    refine ⟨T, ds, x, S, e1, fun v H1 s1 r1 => ?_⟩
    exact ⟨v, .ty nn, _, _, isT nn x, rfl, .ty nn, ty_of r1, kit_ty (kit_is hk x (not_dict r1)), q _ H1 s1 (.bl _)⟩
def isiLT (x : D) : Option D := some (.bool (isT "list" x || isT "tuple" x))
theorem d_isiLT {f : Fe} {k : Nat} {p2 p3 p4 : Pos} (hg : Gl X "isinstance") (hm : X.mg "isinstance" = none) (hg2 : Gl X "list") (hm2 : X.mg "list" = none) (hg3 : Gl X "tuple") (hm3 : X.mg "tuple" = none) (he : PE X e (tD X.K f))
    (hs1 : starEach (e :: [.Tuple [.Name "list" p2, .Name "tuple" p3] k p4]) X.env = (false, eval e X.env) :: starEach [.Tuple [.Name "list" p2, .Name "tuple" p3] k p4] X.env := by rfl)
    (hs2 : starEach [.Tuple [.Name "list" p2, .Name "tuple" p3] k p4] X.env = (false, eval (.Tuple [.Name "list" p2, .Name "tuple" p3] k p4) X.env) :: starEach [] X.env := by rfl)
    (hs3 : starEach [.Name "list" p2, .Name "tuple" p3] X.env = (false, eval (.Name "list" p2) X.env) :: starEach [.Name "tuple" p3] X.env := by rfl)
    (hs4 : starEach [.Name "tuple" p3] X.env = (false, eval (.Name "tuple" p3) X.env) :: starEach [] X.env := by rfl)
    (hpl : (backTo pos (starEach [.Tuple [.Name "list" p2, .Name "tuple" p3] k p4] X.env)).any (·.1) = false := by rfl) :
    PE X (.Call (.Name "isinstance" p) [e, .Tuple [.Name "list" p2, .Name "tuple" p3] k p4] [] pos) (tD X.K (f1 isiLT f)) :=
  (pe_callB call_isiT hg hm (by decide +kernel) (pa_cons he (pa_cons (pe_tup (pa_cons (pe_bltn (v := .ty "list") hg2 hm2 (by decide +kernel) rfl) (pa_cons (pe_bltn (v := .ty "tuple") hg3 hm3 (by decide +kernel) rfl) pa_nil hs4) hs3)) pa_nil hs2) hs1) (by decide) (by decide) hs1 hpl).imp fun σ H Q h => by
    obtain ⟨T, ds, d, S, e, q⟩ := h
    obtain ⟨x, e1, e2⟩ := f1_some e
    cases e2
    refine ⟨T, ds, x, S, e1, fun v H1 s1 r1 => ⟨by show 2 ≤ sizeLine; decide, fun t ht => ?_⟩⟩
    have r2 := r1.same (Same.new (o := .tup [.ty "list", .ty "tuple"]) ht) (S.same s1).dom
    refine ⟨v, t, _, _, _, (isT "list" x || isT "tuple" x), rfl, upd_same, .cons (.ty "list") (.cons (.ty "tuple") .nil), ty_of r2, ?_, q _ _ (s1.trans (Same.new ht)) (.bl _)⟩
    refine kitAny_cons (kit_ty (kit_is (n := "list") (by decide) x (not_dict r1))) (fun h => ?_) (fun h => by rw [h]; rfl)
    rw [h, Bool.false_or]
    refine kitAny_cons (kit_ty (kit_is (n := "tuple") (by decide) x (not_dict r1))) (fun h => ?_) id
    rw [h]
    exact kitAny_nil
end
end Nf
set_option Elab.async false
set_option linter.all false
set_option maxRecDepth 100000
set_option maxHeartbeats 4000000
/-! walks and list comprehensions over data -/
namespace Nf
open PySem PySem.Spec L2
/-! ### forgetting -/
def wipeD (ds : List Slot) : List Nat → List Slot
  | [] => ds
  | v :: vs => (wipeD ds vs).set v .no
theorem Se.wipe {K : PySem.W.Frag} {T : List Addr} {σ : St} {H : Hp} {ds : List Slot} (h : Se K T σ H ds) : ∀ vs : List Nat, Se K T (wipe σ vs) H (wipeD ds vs)
  | [] => h
  | _ :: vs => (Se.wipe h vs).none
theorem wipe_at {σ : St} : ∀ {vs : List Nat} {j : Nat}, (wipe σ vs)[j]? = if j ∈ vs ∧ j < σ.length then some none else σ[j]?
  | [], j => by simp [wipe]
  | v :: vs, j => by
    unfold wipe
    by_cases hj : j = v
    · subst hj
      by_cases hl : j < σ.length
      · rw [List.getElem?_set_self (by rw [wipe_length]; exact hl), if_pos ⟨List.mem_cons_self, hl⟩]
      · rw [if_neg (fun z => hl z.2), List.getElem?_eq_none (by rw [List.length_set, wipe_length]; omega), List.getElem?_eq_none (by omega)]
    · rw [List.getElem?_set_ne (Ne.symm hj), wipe_at]
      have e : (j ∈ v :: vs) ↔ j ∈ vs := by simp [hj]
      simp only [e]
theorem wipe_ext {σ σ' : St} {vs : List Nat} (hl : σ'.length = σ.length) (h : ∀ j, j ∉ vs → σ'[j]? = σ[j]?) : wipe σ' vs = wipe σ vs := by
  refine List.ext_getElem? fun j => ?_
  rw [wipe_at, wipe_at, hl]
  by_cases hj : j ∈ vs
  · by_cases hb : j < σ.length
    · rw [if_pos ⟨hj, hb⟩, if_pos ⟨hj, hb⟩]
    · rw [if_neg (fun z => hb z.2), if_neg (fun z => hb z.2), List.getElem?_eq_none (by omega), List.getElem?_eq_none (by omega)]
  · rw [if_neg (fun z => hj z.1), if_neg (fun z => hj z.1)]
    exact h j hj
theorem wipe_wipe (σ : St) (vs : List Nat) : wipe (wipe σ vs) vs = wipe σ vs :=
  wipe_ext (wipe_length _ _) fun j hj => by rw [wipe_at, if_neg (fun z => hj z.1)]
theorem wipe_set {σ : St} {vs : List Nat} {i : Nat} {o : Option V} (hi : i ∈ vs) : wipe (σ.set i o) vs = wipe σ vs :=
  wipe_ext (by rw [List.length_set]) fun j hj => List.getElem?_set_ne fun z => hj (by rw [← z]; exact hi)
/-! ### targets -/
inductive Tgt where
  | name (i : Nat)
  | tup (is : List Nat)
def setAll : List Nat → List V → St → St
  | i :: is, v :: vs, σ => setAll is vs (σ.set i (some v))
  | _, _, σ => σ
def setAllD : List Nat → List D → List Slot → List Slot
  | i :: is, x :: xs, ds => setAllD is xs (ds.set i (.d x))
  | _, _, ds => ds
def bindD : Tgt → D → List Slot → Option (List Slot)
  | .name i, x, ds => some (ds.set i (.d x))
  | .tup is, .tuple xs, ds => if xs.length = is.length then some (setAllD is xs ds) else none
  | .tup _, _, _ => none
def Tgt.slots : Tgt → List Nat
  | .name i => [i]
  | .tup is => is
/-- a target's reading -/
def tgV (K : PySem.W.Frag) : Tgt → TG
  | .name i => gName i
  | .tup is => fun v σ H Q => ∃ a xs, v = .ref a ∧ SqT K H a xs ∧ xs.length = is.length ∧ Q (setAll is xs σ) H
theorem setAll_len : ∀ (is : List Nat) (vs : List V) (σ : St), (setAll is vs σ).length = σ.length
  | [], _, _ => by unfold setAll; rfl
  | _ :: _, [], _ => rfl
  | i :: is, v :: vs, σ => by
    unfold setAll
    rw [setAll_len is vs]; exact List.length_set
theorem setAll_out : ∀ (is : List Nat) (vs : List V) (σ : St) (j : Nat), j ∉ is → (setAll is vs σ)[j]? = σ[j]?
  | [], _, _, _, _ => by unfold setAll; rfl
  | _ :: _, [], _, _, _ => rfl
  | i :: is, v :: vs, σ, j, h => by
    unfold setAll
    rw [setAll_out is vs _ j (fun z => h (List.mem_cons_of_mem _ z))]
    exact List.getElem?_set_ne fun z => h (by rw [← z]; exact List.mem_cons_self)
theorem Se.setAll {K : PySem.W.Frag} {T : List Addr} {H : Hp} : ∀ {is : List Nat} {vs : List V} {xs : List D} {σ : St} {ds : List Slot}, Se K T σ H ds → RpA K T H vs xs → Se K T (setAll is vs σ) H (setAllD is xs ds)
  | [], _, _, _, _, h, _ => by unfold Nf.setAll setAllD; exact h
  | _ :: _, _, _, _, _, h, .nil => h
  | i :: is, _, _, _, _, h, .cons r t => by
    unfold Nf.setAll setAllD
    exact Se.setAll (h.set r) t
/-- where a target binds, the data are bound -/
theorem bind_ok {K : PySem.W.Frag} {T : List Addr} {H : Hp} {g : Tgt} {x : D} {v : V} {σ : St} {ds ds' : List Slot} {Q : St → Hp → Prop} (S : Se K T σ H ds) (r : Rp K T H v x) (e : bindD g x ds = some ds')
    (h : ∀ σ', Se K T σ' H ds' → σ'.length = σ.length → (∀ j, j ∉ g.slots → σ'[j]? = σ[j]?) → Q σ' H) : tgV K g v σ H Q := by
  cases g with
  | name i =>
    cases e
    exact h _ (S.set r) List.length_set fun j hj => List.getElem?_set_ne fun z => hj (by rw [z]; exact List.mem_cons_self)
  | tup is =>
    cases x with
    | tuple xs =>
      have e' : (if xs.length = is.length then some (setAllD is xs ds) else none) = some ds' := e
      split at e'
      · rename_i hl
        cases e'
        cases r with
        | tup h1 h2 => exact ⟨_, _, rfl, h1.sq, by rw [h2.length]; exact hl, h _ (S.setAll h2) (setAll_len _ _ _) (setAll_out _ _ _)⟩
      · cases e'
    | _ => cases e
section
variable {X : Cx} {pos : Pos}
/-- several names -/
inductive Names (X : Cx) : List Expr → List Nat → Prop
  | nil : Names X [] []
  | cons {i : Nat} {x : Str} {p : Pos} {es : List Expr} {is : List Nat} : X.N[i]? = some x → Loc X.env.scope x → (X.fn x = true ∨ X.env.scope.names.lookup x = some .local) → Names X es is → Names X (.Name x p :: es) (i :: is)
def gAll : List Nat → TGs
  | [] => gNil
  | i :: is => gCons (gName i) (gAll is)
theorem pgs_names (hN : X.N.Nodup) : ∀ {es : List Expr} {is : List Nat}, Names X es is → PGs X es (gAll is)
  | _, _, .nil => pgs_nil
  | _, _, .cons h1 h2 h3 t => pgs_cons (pg_name hN h1 h2 h3) (pgs_names hN t)
theorem gAll_ok : ∀ {is : List Nat} {vs : List V} {σ : St} {H : Hp} {Q : St → Hp → Prop}, vs.length = is.length → Q (setAll is vs σ) H → gAll is vs σ H Q
  | [], [], _, _, _, _, h => ⟨rfl, h⟩
  | [], _ :: _, _, _, _, l, _ => by simp at l
  | _ :: _, [], _, _, _, l, _ => by simp at l
  | i :: is, v :: vs, _, _, _, l, h => ⟨v, vs, rfl, gAll_ok (by simpa using l) h⟩
theorem _root_.L2.PG.imp {X : Cx} {tg : Expr} {t t' : TG} (h : PG X tg t) (i : ∀ v σ H Q, t' v σ H Q → t v σ H Q) : PG X tg t' := ⟨fun pins s σ H v u Q I r q => h.run pins s σ H v u Q I r (i v σ H Q q)⟩
theorem g_name (i : Nat) {x : Str} {p : Pos} (hN : X.N.Nodup) (hi : X.N[i]? = some x) (hx : Loc X.env.scope x) (hf : X.fn x = true ∨ X.env.scope.names.lookup x = some .local := by first | exact .inl rfl | exact .inr rfl | assumption) : PG X (.Name x p) (tgV X.K (.name i)) := pg_name hN hi hx hf
theorem g_tup {es : List Expr} {is : List Nat} {k : Nat} {p : Pos} (hc : X.calm = true) (hN : X.N.Nodup) (h : Names X es is) (hn : (assignEach es X.env).length = is.length := by rfl) (hst : (assignEach es X.env).findIdx? (·.1) = none := by rfl) : PG X (.Tuple es k p) (tgV X.K (.tup is)) :=
  (pg_tup hc (pgs_names hN h) hn hst).imp fun v σ H Q ⟨a, xs, e, hs, hl, q⟩ => ⟨a, xs, e, hs, hl, gAll_ok hl q⟩
end
/-! ### what is walked -/
def ItD (K : PySem.W.Frag) (T : List Addr) (J : It) (xs : List D) (H : Hp) : Prop :=
  ∀ T' H', Step T H T' H' → ∀ i, (∀ x, xs[i]? = some x → J.go i H' ∧ ∀ v H'', J.yld i H' v H'' → Same H' H'' ∧ Rp K T' H'' v x) ∧ (i = xs.length → J.stop i H')
abbrev Fi := List Slot → Option (List D)
def tI (K : PySem.W.Frag) (f : Fi) : TI := fun σ H R => ∃ T ds xs, Se K T σ H ds ∧ f ds = some xs ∧ ∀ J H', Same H H' → ItD K T J xs H' → R J H'
theorem it_list {K : PySem.W.Frag} {T : List Addr} {H : Hp} {a : Addr} {vs : List V} {xs : List D} (h : LsT T H a vs) (r : RpA K T H vs xs) : ItD K T (Itl K a) xs H := by
  intro T' H' s i
  have h' := h.step s
  have r' := r.step s
  refine ⟨fun x hx => ?_, fun e => ?_⟩
  · obtain ⟨v, hv, rv⟩ := r'.get hx
    refine ⟨⟨vs, v, h'.sq, hv⟩, fun w H'' y => ?_⟩
    obtain ⟨e, y⟩ := y
    subst e
    have := y vs h'.sq
    rw [hv] at this
    cases this
    exact ⟨Same.refl _, rv⟩
  · exact ⟨vs, h'.sq, by rw [r'.length, e]; exact Nat.le_refl _⟩
theorem it_tup {K : PySem.W.Frag} {T : List Addr} {H : Hp} {a : Addr} {vs : List V} {xs : List D} (h : TpT K T H a vs) (r : RpA K T H vs xs) : ItD K T (Itt K a) xs H := by
  intro T' H' s i
  have h' := h.step s
  have r' := r.step s
  refine ⟨fun x hx => ?_, fun e => ?_⟩
  · obtain ⟨v, hv, rv⟩ := r'.get hx
    refine ⟨⟨vs, v, h'.sq, hv⟩, fun w H'' y => ?_⟩
    obtain ⟨e, y⟩ := y
    subst e
    have := y vs h'.sq
    rw [hv] at this
    cases this
    exact ⟨Same.refl _, rv⟩
  · exact ⟨vs, h'.sq, by rw [r'.length, e]; exact Nat.le_refl _⟩
/-- the members of a list or a tuple; the signs of a text -/
def seqOf : D → Option (List D)
  | .list xs => some xs
  | .tuple xs => some xs
  | _ => none
def fSeq (f : Fe) : Fi := fun ds => (f ds).bind seqOf
def signs (x : Str) : List D := x.cps.toList.map fun c => .str ⟨#[c]⟩
def strOf : D → Option (List D)
  | .str y => some (signs y)
  | _ => none
def fStr (f : Fe) : Fi := fun ds => (f ds).bind strOf
section
variable {X : Cx} {tg e : Expr} {f : Fe} {p pos : Pos}
/-- a list or a tuple, whichever it is -/
def iSeq (K : PySem.W.Frag) (tl : TE) : TI := fun σ H R => tl σ H fun x H1 => ∃ a, x = .ref a ∧ (((∃ xs, SqL K H1 a xs) ∧ R (Itl K a) H1) ∨ ((∃ xs, SqT K H1 a xs) ∧ R (Itt K a) H1))
theorem pi_seq {tl : TE} (hl : PE X e tl) : PI X tg e (iSeq X.K tl) := by
  refine ⟨fun pins s σ H R I h => ?_⟩
  refine thn (hl.run pins s σ H _ I h) fun v s1 ⟨x, H1, I1, r1, q1⟩ => ?_
  obtain ⟨a, e, q⟩ := q1
  subst e
  cases r1
  rcases q with ⟨⟨xs, hq⟩, q⟩ | ⟨⟨xs, hq⟩, q⟩
  · obtain ⟨its, rv, p, hz⟩ := I1.list hq
    refine wpAny_pyIter_list p.isList ?_
    refine ⟨s1.heap.objs.size, [s1.heap.objs.size], _, _, H1, rfl, I1.kept (t' := s1.toks) fun b o e => Heap.get?_push_of_some _ e, turn_list a _, ⟨_, Heap.get?_push_size _ rfl, rfl, rfl⟩, fun b hb => ?_, q⟩
    have e : b = s1.heap.objs.size := by simpa using hb
    subst e
    exact I1.fpOk (Nat.le_refl _) (I1.hok.fresh (Nat.le_refl _))
  · obtain ⟨its, rv, p, hz⟩ := I1.tuple hq
    refine wpAny_pyIter_tuple (show s1.heap.IsTuple a its.toArray from p) ?_
    refine ⟨s1.heap.objs.size, [s1.heap.objs.size], _, _, H1, rfl, I1.kept (t' := s1.toks) fun b o e => Heap.get?_push_of_some _ e, turn_tuple a _, ⟨_, Heap.get?_push_size _ rfl, rfl, rfl⟩, fun b hb => ?_, q⟩
    have e : b = s1.heap.objs.size := by simpa using hb
    subst e
    exact I1.fpOk (Nat.le_refl _) (I1.hok.fresh (Nat.le_refl _))
theorem i_seq (h : PE X e (tD X.K f)) : PI X tg e (tI X.K (fSeq f)) := (pi_seq h).imp fun σ H R ⟨T, ds, xs, S, e, q⟩ => by
  unfold fSeq at e
  cases ef : f ds with
  | none => rw [ef] at e; cases e
  | some x =>
    rw [ef] at e
    replace e : seqOf x = some xs := e
    refine ⟨T, ds, x, S, ef, fun v H1 s1 r1 => ?_⟩
    unfold seqOf at e
    split at e
    · cases e
      cases r1 with
      | lst h1 h2 => exact ⟨_, rfl, .inl ⟨⟨_, h1.sq⟩, q _ H1 s1 (it_list h1 h2)⟩⟩
    · cases e
      cases r1 with
      | tup h1 h2 => exact ⟨_, rfl, .inr ⟨⟨_, h1.sq⟩, q _ H1 s1 (it_tup h1 h2)⟩⟩
    · cases e
theorem it_str {K : PySem.W.Frag} {T : List Addr} {H : Hp} {x : Str} : ItD K T (Its x) (signs x) H := by
  intro T' H' s i
  have hl : (signs x).length = x.cps.size := by unfold signs; simp
  refine ⟨fun d hd => ?_, fun e => ?_⟩
  · have hi : i < x.cps.size := by
      rw [← hl]
      exact (List.getElem?_eq_some_iff.mp hd).1
    refine ⟨hi, fun w H'' y => ?_⟩
    obtain ⟨e, c, hc, ew⟩ := y
    subst e ew
    unfold signs at hd
    rw [List.getElem?_map] at hd
    have e2 : x.cps.toList[i]? = some c := by simpa using hc
    rw [e2] at hd
    cases hd
    exact ⟨Same.refl _, .str _⟩
  · show x.cps.size ≤ i
    omega
theorem i_str (h : PE X e (tD X.K f)) : PI X tg e (tI X.K (fStr f)) := (pi_str h).imp fun σ H R ⟨T, ds, xs, S, e, q⟩ => by
  unfold fStr at e
  cases ef : f ds with
  | none => rw [ef] at e; cases e
  | some x =>
    rw [ef] at e
    replace e : strOf x = some xs := e
    refine ⟨T, ds, x, S, ef, fun v H1 s1 r1 => ?_⟩
    unfold strOf at e
    split at e
    · cases e
      cases r1
      exact ⟨_, rfl, q _ H1 s1 it_str⟩
    · cases e
/-! range -/
def upTo (n : Nat) : List D := (List.range n).map fun (i : Nat) => .int i
def rngOf : List D → Option (List D)
  | [.int j] => if decide (0 ≤ j ∧ j ≤ 100000) then some (upTo j.toNat) else none
  | _ => none
def fRng (g : Fa) : Fi := fun ds => (g ds).bind rngOf
theorem it_rng {K : PySem.W.Frag} {T : List Addr} {H : Hp} {n : Nat} : ItD K T (Itr 0 n) (upTo n) H := by
  intro T' H' s i
  have hl : (upTo n).length = n := by unfold upTo; simp
  refine ⟨fun d hd => ?_, fun e => ?_⟩
  · have hi : i < n := by
      rw [← hl]
      exact (List.getElem?_eq_some_iff.mp hd).1
    refine ⟨hi, fun w H'' y => ?_⟩
    obtain ⟨e, ew⟩ := y
    subst e ew
    unfold upTo at hd
    rw [List.getElem?_map, List.getElem?_range hi] at hd
    cases hd
    rw [Int.zero_add]
    exact ⟨Same.refl _, .int _⟩
  · show n ≤ i
    omega
theorem i_rng {a : Expr} {g : Fa} (hg : Gl X "range") (hm : X.mg "range" = none) (ha : PA X [a] (tDA X.K g)) (hs : starEach [a] X.env = [(false, eval a X.env)] := by rfl) : PI X tg (.Call (.Name "range" p) [a] [] pos) (tI X.K (fRng g)) :=
  (pi_range1 hg hm ha hs).imp fun σ H R ⟨T, ds, xs, S, e, q⟩ => by
    unfold fRng at e
    cases ef : g ds with
    | none => rw [ef] at e; cases e
    | some l =>
      rw [ef] at e
      replace e : rngOf l = some xs := e
      refine ⟨T, ds, l, S, ef, fun vs H1 s1 r1 => ?_⟩
      unfold rngOf at e
      split at e
      · split at e
        · rename_i h
          have h' := of_decide_eq_true h
          cases e
          cases r1 with
          | cons r2 r3 =>
            cases r3
            cases r2
            exact ⟨_, rfl, by omega, by omega, q _ H1 s1 it_rng⟩
        · cases e
      · cases e
/-! zip -/
def pairs : List D → List D → List D
  | x :: xs, y :: ys => .tuple [x, y] :: pairs xs ys
  | _, _ => []
theorem pairs_at : ∀ {xs ys : List D} {i : Nat} {d : D}, (pairs xs ys)[i]? = some d → ∃ x y, xs[i]? = some x ∧ ys[i]? = some y ∧ d = .tuple [x, y]
  | x :: xs, y :: ys, 0, d, h => by
    simp only [pairs, List.getElem?_cons_zero, Option.some.injEq] at h
    exact ⟨x, y, rfl, rfl, h.symm⟩
  | x :: xs, y :: ys, i + 1, d, h => by
    simp only [pairs, List.getElem?_cons_succ] at h
    obtain ⟨a, b, h1, h2, h3⟩ := pairs_at h
    exact ⟨a, b, by simpa using h1, by simpa using h2, h3⟩
  | [], _, _, _, h => by simp [pairs] at h
  | _ :: _, [], _, _, h => by simp [pairs] at h
theorem pairs_len : ∀ (xs ys : List D), (pairs xs ys).length = min xs.length ys.length
  | x :: xs, y :: ys => by
    simp only [pairs, List.length_cons, pairs_len xs ys]
    omega
  | [], _ => by simp [pairs]
  | _ :: _, [] => by simp [pairs]
def zipOf : D → D → Option (List D)
  | .list xs, .list ys => some (pairs xs ys)
  | .tuple xs, .tuple ys => some (pairs xs ys)
  | _, _ => none
def zipA : List D → Option (List D)
  | [x, y] => zipOf x y
  | _ => none
def fZip (g : Fa) : Fi := fun ds => (g ds).bind zipA
theorem it_zipL {K : PySem.W.Frag} {T : List Addr} {H : Hp} {a b : Addr} {vs ws : List V} {xs ys : List D} (h : LsT T H a vs) (r : RpA K T H vs xs) (h2 : LsT T H b ws) (r2 : RpA K T H ws ys) : ItD K T (Itz K a b) (pairs xs ys) H := by
  intro T' H' s i
  have h' := h.step s
  have r' := r.step s
  have h2' := h2.step s
  have r2' := r2.step s
  refine ⟨fun d hd => ?_, fun e => ?_⟩
  · obtain ⟨x, y, hx, hy, rfl⟩ := pairs_at hd
    obtain ⟨v, hv, rv⟩ := r'.get hx
    obtain ⟨w, hw, rw_⟩ := r2'.get hy
    refine ⟨⟨vs, ws, v, w, h'.sq, h2'.sq, hv, hw⟩, fun u H'' z => ?_⟩
    obtain ⟨t, v', w', rfl, ht, rfl, z1, z2⟩ := z
    have e1 := z1 vs h'.sq
    have e2 := z2 ws h2'.sq
    rw [hv] at e1
    rw [hw] at e2
    cases e1
    cases e2
    exact ⟨Same.new ht, Rp.newT (.cons rv (.cons rw_ .nil)) s.dom ht⟩
  · refine ⟨vs, ws, h'.sq, h2'.sq, ?_⟩
    rw [r'.length, r2'.length, e, pairs_len]
    omega
theorem it_zipT {K : PySem.W.Frag} {T : List Addr} {H : Hp} {a b : Addr} {vs ws : List V} {xs ys : List D} (h : TpT K T H a vs) (r : RpA K T H vs xs) (h2 : TpT K T H b ws) (r2 : RpA K T H ws ys) : ItD K T (RZ.ItzT K a b) (pairs xs ys) H := by
  intro T' H' s i
  have h' := h.step s
  have r' := r.step s
  have h2' := h2.step s
  have r2' := r2.step s
  refine ⟨fun d hd => ?_, fun e => ?_⟩
  · obtain ⟨x, y, hx, hy, rfl⟩ := pairs_at hd
    obtain ⟨v, hv, rv⟩ := r'.get hx
    obtain ⟨w, hw, rw_⟩ := r2'.get hy
    refine ⟨⟨vs, ws, v, w, h'.sq, h2'.sq, hv, hw⟩, fun u H'' z => ?_⟩
    obtain ⟨t, v', w', rfl, ht, rfl, z1, z2⟩ := z
    have e1 := z1 vs h'.sq
    have e2 := z2 ws h2'.sq
    rw [hv] at e1
    rw [hw] at e2
    cases e1
    cases e2
    exact ⟨Same.new ht, Rp.newT (.cons rv (.cons rw_ .nil)) s.dom ht⟩
  · refine ⟨vs, ws, h'.sq, h2'.sq, ?_⟩
    rw [r'.length, r2'.length, e, pairs_len]
    omega
theorem i_zip {a b : Expr} {g : Fa} {elts : List Expr} {kk : Nat} {tpos : Pos} (hg : Gl X "zip") (hm : X.mg "zip" = none) (ha : PA X [a, b] (tDA X.K g))
    (hs : starEach [a, b] X.env = (false, eval a X.env) :: starEach [b] X.env := by rfl) (hpl : (backTo pos (starEach [b] X.env)).any (·.1) = false := by rfl) : PI X (.Tuple elts kk tpos) (.Call (.Name "zip" p) [a, b] [] pos) (tI X.K (fZip g)) :=
  (RZ.pi_zipA hg hm ha hs hpl).imp fun σ H R ⟨T, ds, xs, S, e, q⟩ => by
    unfold fZip at e
    cases ef : g ds with
    | none => rw [ef] at e; cases e
    | some l =>
      rw [ef] at e
      replace e : zipA l = some xs := e
      refine ⟨T, ds, l, S, ef, fun vs H1 s1 r1 => ?_⟩
      unfold zipA at e
      split at e
      · unfold zipOf at e
        split at e
        · cases e
          cases r1 with
          | cons r2 r3 =>
            cases r3 with
            | cons r4 r5 =>
              cases r5
              cases r2 with
              | lst h1 h2 =>
                cases r4 with
                | lst h3 h4 => exact ⟨_, _, _, _, rfl, .inl ⟨h1.sq, h3.sq, q _ H1 s1 (it_zipL h1 h2 h3 h4)⟩⟩
        · cases e
          cases r1 with
          | cons r2 r3 =>
            cases r3 with
            | cons r4 r5 =>
              cases r5
              cases r2 with
              | tup h1 h2 =>
                cases r4 with
                | tup h3 h4 => exact ⟨_, _, _, _, rfl, .inr ⟨h1.sq, h3.sq, q _ H1 s1 (it_zipT h1 h2 h3 h4)⟩⟩
        · cases e
      · cases e
end
/-! ### list comprehensions -/
def evs (b : D → List Slot → Option (List Slot)) (fc : Fb) (fe : Fe) (ds : List Slot) : List D → Option (List D)
  | [] => some []
  | x :: xs => (b x ds).bind fun ds' => (fc ds').bind fun c => if c then (fe ds').bind fun y => (evs b fc fe ds xs).map (y :: ·) else evs b fc fe ds xs
def fLc (fi : Fi) (tg : Tgt) (fc : Fb) (fe : Fe) (own : List Nat) : Fe := fun ds => (fi ds).bind fun xs => if small xs then (evs (bindD tg) fc fe (wipeD ds own) xs).map .list else none
def fYes : Fb := fun _ => some true
/-- tests -/
theorem _root_.L2.PTs.imp {X : Cx} {cs : List Expr} {t t' : TT} (h : PTs X cs t) (i : ∀ σ H Q, t' σ H Q → t σ H Q) : PTs X cs t' := ⟨fun pins s σ H Q I q => h.run pins s σ H Q I (i σ H Q q)⟩
theorem dts_nil {X : Cx} : PTs X [] (tDT X.K fYes) := pts_nil.imp fun σ H Q ⟨T, ds, b, S, e, q⟩ => by cases e; exact q H (Same.refl H)
theorem dts_one {X : Cx} {c : Expr} {fc : Fb} (h : PT X c (tDT X.K fc)) : PTs X [c] (tDT X.K fc) := pts_one h
/-- the items gone through -/
theorem evs_drop {b : D → List Slot → Option (List Slot)} {fc : Fb} {fe : Fe} {ds : List Slot} {xs : List D} {i : Nat} {x : D} {ys : List D} (hx : xs[i]? = some x) (h : evs b fc fe ds (xs.drop i) = some ys) :
    ∃ ds' c, b x ds = some ds' ∧ fc ds' = some c ∧ ((c = true ∧ ∃ y zs, fe ds' = some y ∧ evs b fc fe ds (xs.drop (i + 1)) = some zs ∧ ys = y :: zs) ∨ (c = false ∧ evs b fc fe ds (xs.drop (i + 1)) = some ys)) := by
  obtain ⟨hl, e⟩ := List.getElem?_eq_some_iff.mp hx
  rw [List.drop_eq_getElem_cons hl, e] at h
  unfold evs at h
  cases h1 : b x ds with
  | none => rw [h1] at h; cases h
  | some ds' =>
    rw [h1] at h
    replace h : ((fc ds').bind fun c => if c then (fe ds').bind fun y => (evs b fc fe ds (xs.drop (i + 1))).map (y :: ·) else evs b fc fe ds (xs.drop (i + 1))) = some ys := h
    cases h2 : fc ds' with
    | none => rw [h2] at h; cases h
    | some c =>
      rw [h2] at h
      replace h : (if c then (fe ds').bind fun y => (evs b fc fe ds (xs.drop (i + 1))).map (y :: ·) else evs b fc fe ds (xs.drop (i + 1))) = some ys := h
      refine ⟨ds', c, rfl, h2, ?_⟩
      cases c with
      | false => exact .inr ⟨rfl, h⟩
      | true =>
        rw [if_pos rfl] at h
        cases h3 : fe ds' with
        | none => rw [h3] at h; cases h
        | some y =>
          rw [h3] at h
          replace h : (evs b fc fe ds (xs.drop (i + 1))).map (y :: ·) = some ys := h
          cases h4 : evs b fc fe ds (xs.drop (i + 1)) with
          | none => rw [h4] at h; cases h
          | some zs =>
            rw [h4] at h
            cases h
            exact .inl ⟨rfl, y, zs, rfl, rfl, rfl⟩
theorem lcD {K : PySem.W.Frag} {fi : Fi} {tg : Tgt} {fc : Fb} {fe : Fe} {own : List Nat} (hsl : ∀ i ∈ tg.slots, i ∈ own) {σ : St} {H : Hp} {Q : VK} (h : tD K (fLc fi tg fc fe own) σ H Q) : tLc (tI K fi) (tgV K tg) (tDT K fc) (tD K fe) own σ H Q := by
  obtain ⟨T, ds, d, S, e, q⟩ := h
  unfold fLc at e
  cases ef : fi ds with
  | none => rw [ef] at e; cases e
  | some xs =>
    rw [ef] at e
    replace e : (if small xs then (evs (bindD tg) fc fe (wipeD ds own) xs).map .list else none) = some d := e
    split at e
    · rename_i hs
      cases he : evs (bindD tg) fc fe (wipeD ds own) xs with
      | none => rw [he] at e; cases e
      | some out =>
        rw [he] at e
        cases e
        refine ⟨T, ds, xs, S, ef, fun J H1 s1 it => fun d0 hd0 => ?_⟩
        have S1 := S.same s1
        have nT : d0 ∉ T := fun z => S1.dom d0 z hd0
        -- behind i items
        let Inv := fun (i : Nat) (H' : Hp) => Same H1 H' ∧ ∃ av ad zs, H' d0 = some (.lst av) ∧ RpA K (d0 :: T) H' av ad ∧ ad.length ≤ i ∧ evs (bindD tg) fc fe (wipeD ds own) (xs.drop i) = some zs ∧ ad ++ zs = out
        have st : ∀ {H'}, Same H1 H' → H' d0 ≠ none → Step T H1 (d0 :: T) H' := fun s n => ⟨fun t h => List.mem_cons_of_mem _ h, fun t h => (List.mem_cons.mp h).elim (fun z => .inr (by rw [z]; exact hd0)) .inl, fun t h => by
          rcases List.mem_cons.mp h with z | z
          · rw [z]; exact n
          · exact Same.dom s S1.dom t z, Ex.same s⟩
        refine ⟨fun i m H' => m = xs.length - i ∧ i ≤ xs.length ∧ Inv i H', ⟨xs.length, by simp, Nat.zero_le _, Same.new hd0, [], [], out, upd_same, .nil, Nat.le_refl _, by rw [List.drop_zero]; exact he, rfl⟩, ?_⟩
        rintro i m H' ⟨rfl, hi, s2, av, ad, zs, hav, rad, hlen, hev, hout⟩
        have n0 : H' d0 ≠ none := by rw [hav]; exact fun z => by cases z
        have S2 : Se K (d0 :: T) σ H' ds := S1.stepS s2 (st s2 n0)
        by_cases hlt : i < xs.length
        · have hx : xs[i]? = some xs[i] := List.getElem?_eq_getElem hlt
          obtain ⟨ds', c, b1, b2, b3⟩ := evs_drop hx hev
          obtain ⟨go, yl⟩ := (it (d0 :: T) H' (st s2 n0) i).1 _ hx
          refine .inr ⟨go, fun H2 => Inv (i + 1) H2, fun H2 p => ⟨xs.length - (i + 1), by omega, rfl, hlt, p⟩, fun v H2 y => ?_⟩
          obtain ⟨s3, rv⟩ := yl v H2 y
          have S3 := (S2.same s3).wipe own
          refine bind_ok S3 rv b1 fun σ' S4 l4 o4 => ?_
          refine ⟨?_, d0 :: T, ds', c, S4, b2, fun H3 s4 => ?_⟩
          · rw [wipe_ext l4 fun j hj => o4 j fun z => hj (hsl j z)]
            exact wipe_wipe σ own
          · have s23 : Same H1 H3 := (s2.trans s3).trans s4
            have rad3 : RpA K (d0 :: T) H3 av ad := (rad.same s3 S2.dom).same s4 S3.dom
            have hav3 : H3 d0 = some (.lst av) := s4 _ _ (s3 _ _ hav)
            rcases b3 with ⟨hc, y, zs', e1, e2, e3⟩ | ⟨hc, e2⟩
            · subst hc
              refine iteT ⟨d0 :: T, ds', y, S4.same s4, e1, fun w H4 s5 rw_ => ?_⟩
              have hav4 : H4 d0 = some (.lst av) := s5 _ _ hav3
              have rad4 := rad3.same s5 (S4.same s4).dom
              have hsm := of_decide_eq_true hs
              refine ⟨av, hav4, by rw [rad4.length, sizeLine_eq]; omega, ?_⟩
              have stp : Step (d0 :: T) H4 (d0 :: T) (upd H4 d0 (.lst (av ++ [w]))) := ⟨fun t h => h, fun t h => .inl h, fun t h => by
                by_cases z : t = d0
                · rw [z, upd_same]; exact fun z => by cases z
                · rw [upd_ne z]; exact Same.dom s5 (S4.same s4).dom t h, fun b o hb q => by rw [upd_ne (fun z => hb (by rw [z]; exact List.mem_cons_self))]; exact q⟩
              refine ⟨fun b o hb => ?_, av ++ [w], ad ++ [y], zs', upd_same, (rad4.step stp).append (.one (rw_.step stp)), by rw [List.length_append, List.length_singleton]; omega, e2, by rw [List.append_assoc, ← hout, e3]; rfl⟩
              have hb' : b ≠ d0 := fun z => by rw [z, hd0] at hb; cases hb
              rw [upd_ne hb']
              exact s5 _ _ (s23 b o hb)
            · subst hc
              exact iteF ⟨s23, av, ad, zs, hav3, rad3, by omega, e2, hout⟩
        · have hi' : i = xs.length := by omega
          rw [hi', List.drop_length] at hev
          cases hev
          rw [List.append_nil] at hout
          refine .inl ⟨(it (d0 :: T) H' (st s2 n0) i).2 hi', q _ H' (s1.trans s2) ?_⟩
          subst hout
          exact .lst ⟨nT, hav⟩ (rad.weak fun t h => List.mem_cons_of_mem _ h)
    · cases e
section
variable {X : Cx} {elt tg iter : Expr} {ifs : List Expr} {scope : Scope} {pos : Pos} {fi : Fi} {g : Tgt} {fc : Fb} {fe : Fe}
theorem d_lc (own : List (Str × Nat)) (hc : X.calm = true) (hN : X.N.Nodup) (hi : PI X tg iter (tI X.K fi)) (ok : BlkOk X.N X.env.scope scope own)
    (hg : ∀ (s : Shared) (H : Hp) (C : Addr) (cl : List (Str × Addr)) (fp : List Addr), PG (X.blk s H scope (compEnvC scope cl C X.env) fp) tg (tgV X.K g)) (ht : ∀ (s : Shared) (H : Hp) (C : Addr) (cl : List (Str × Addr)) (fp : List Addr), PTs (X.blk s H scope (compEnvC scope cl C X.env) fp) ifs (tDT X.K fc))
    (he : ∀ (s : Shared) (H : Hp) (C : Addr) (cl : List (Str × Addr)) (fp : List Addr), PE (X.blk s H scope (compEnvC scope cl C X.env) fp) elt (tD X.K fe)) (hsl : ∀ i ∈ g.slots, i ∈ own.map (·.2)) (hs : ∀ x, foldedSetIterable iter X.env x = pure x := by intro _; rfl) :
    PE X (.ListComp elt [⟨tg, iter, ifs, 0⟩] scope pos) (tD X.K (fLc fi g fc fe (own.map (·.2)))) :=
  (pe_lc hc hN hi ok hg ht he hs).imp fun _ _ _ h => lcD hsl h
end
end Nf
set_option Elab.async false
set_option linter.all false
set_option maxRecDepth 100000
set_option maxHeartbeats 4000000
/-! statements over data -/
namespace Nf
open PySem PySem.Spec L2
inductive Res where
  | nx (ds : List Slot)
  | rt (d : D)
/-- a thing of one's own -/
def isL : Slot → Bool
  | .l _ => true
  | .m _ => true
  | _ => false
/-- the state of a body that began (its loop began) at H0 with T0: lists at M may be written, and new ones -/
structure Sd (K : PySem.W.Frag) (H0 : Hp) (T0 M : List Addr) (T : List Addr) (σ : St) (H : Hp) (ds : List Slot) : Prop where
  se : Se K T σ H ds
  base : Ex M H0 H
  sub : ∀ t ∈ T0, t ∈ T
  fr : ∀ t ∈ T, t ∈ T0 ∨ H0 t = none
  mt : ∀ t ∈ M, t ∈ T0
  dom0 : TOk T0 H0
  loc : ∀ (i : Nat) (s : Slot) (a : Addr), ds[i]? = some s → isL s = true → σ[i]? = some (some (.ref a)) → a ∈ M ∨ H0 a = none
  uni : ∀ (i j : Nat) (s s' : Slot), ds[i]? = some s → isL s = true → ds[j]? = some s' → isL s' = true → i = j
abbrev Fs := List Slot → Option Res
def tS (K : PySem.W.Frag) (g : Fs) : TS := fun D σ H => ∃ H0 T0 M T ds r, Sd K H0 T0 M T σ H ds ∧ g ds = some r ∧
  (∀ ds', r = .nx ds' → ∀ T' σ' H', Sd K H0 T0 M T' σ' H' ds' → D.nx σ' H') ∧ (∀ d, r = .rt d → ∀ v H' T1, Ex M H0 H' → (∀ t ∈ T0, t ∈ M ∨ t ∈ T1) → Rp K T1 H' v d → D.rt v H')
theorem set_at {α : Type} {l : List α} {i j : Nat} {x y : α} (h : (l.set i x)[j]? = some y) : (j = i ∧ y = x ∧ j < l.length) ∨ (j ≠ i ∧ l[j]? = some y) := by
  by_cases hj : j = i
  · subst hj
    have hl : j < l.length := by
      obtain ⟨q, _⟩ := List.getElem?_eq_some_iff.mp h
      rwa [List.length_set] at q
    rw [List.getElem?_set_self hl] at h
    cases h
    exact .inl ⟨rfl, rfl, hl⟩
  · rw [List.getElem?_set_ne (Ne.symm hj)] at h
    exact .inr ⟨hj, h⟩
section
variable {K : PySem.W.Frag} {H0 : Hp} {T0 M T : List Addr} {σ : St} {H H' : Hp} {ds : List Slot}
theorem Sd.same (h : Sd K H0 T0 M T σ H ds) (e : Same H H') : Sd K H0 T0 M T σ H' ds := ⟨h.se.same e, fun b o hb q => e _ _ (h.base b o hb q), h.sub, h.fr, h.mt, h.dom0, h.loc, h.uni⟩
theorem Sd.set {i : Nat} {x : D} {v : V} (h : Sd K H0 T0 M T σ H ds) (r : Rp K T H v x) : Sd K H0 T0 M T (σ.set i (some v)) H (ds.set i (.d x)) := by
  refine ⟨h.se.set r, h.base, h.sub, h.fr, h.mt, h.dom0, fun j s a e l e2 => ?_, fun j k s s' e l e2 l' => ?_⟩
  · rcases set_at e with ⟨_, z, _⟩ | ⟨hj, z⟩
    · rw [z] at l; cases l
    · rw [List.getElem?_set_ne (Ne.symm hj)] at e2
      exact h.loc j s a z l e2
  · rcases set_at e with ⟨_, z, _⟩ | ⟨hj, z⟩
    · rw [z] at l; cases l
    · rcases set_at e2 with ⟨_, z2, _⟩ | ⟨hj2, z2⟩
      · rw [z2] at l'; cases l'
      · exact h.uni j k s s' z l z2 l'
theorem Sd.setAll : ∀ {is : List Nat} {vs : List V} {xs : List D} {σ : St} {ds : List Slot}, Sd K H0 T0 M T σ H ds → RpA K T H vs xs → Sd K H0 T0 M T (setAll is vs σ) H (setAllD is xs ds)
  | [], _, _, _, _, h, _ => by unfold Nf.setAll setAllD; exact h
  | _ :: _, _, _, _, _, h, .nil => h
  | i :: is, _, _, _, _, h, .cons r t => by
    unfold Nf.setAll setAllD
    exact Sd.setAll (h.set r) t
theorem bind_okS {g : Tgt} {x : D} {v : V} {ds' : List Slot} {Q : St → Hp → Prop} (S : Sd K H0 T0 M T σ H ds) (r : Rp K T H v x) (e : bindD g x ds = some ds')
    (h : ∀ σ', Sd K H0 T0 M T σ' H ds' → Q σ' H) : tgV K g v σ H Q := by
  cases g with
  | name i =>
    cases e
    exact h _ (S.set r)
  | tup is =>
    cases x with
    | tuple xs =>
      have e' : (if xs.length = is.length then some (setAllD is xs ds) else none) = some ds' := e
      split at e'
      · rename_i hl
        cases e'
        cases r with
        | tup h1 h2 => exact ⟨_, _, rfl, h1.sq, by rw [h2.length]; exact hl, h _ (S.setAll h2)⟩
      · cases e'
    | _ => cases e
/-- a datum of the body's own goes out -/
theorem Sd.out {v : V} {d : D} (h : Sd K H0 T0 M T σ H ds) (r : Rp K T H v d) : Rp K T0 H v d := r.weak h.sub
end
/-! ### small statements -/
def gNx : Fs := fun ds => some (.nx ds)
def gSeq (a b : Fs) : Fs := fun ds => match a ds with
  | some (.nx ds') => b ds'
  | r => r
def gRet (f : Fe) : Fs := fun ds => (f ds).map .rt
def gAsg (t : Tgt) (f : Fe) : Fs := fun ds => (f ds).bind fun x => (bindD t x ds).map .nx
def gIf (c : Fb) (a b : Fs) : Fs := fun ds => match c ds with | some true => a ds | some false => b ds | none => none
def gPar (i j : Nat) (a b : Fe) : Fs := fun ds => (a ds).bind fun x => (b ds).bind fun y => some (.nx ((ds.set i (.d x)).set j (.d y)))
section
variable {X : Cx} {st : Stmt} {rest : List Stmt} {e : Expr} {f : Fe} {g g' : Fs} {pos : Pos}
theorem s_nil : PSs X [] (tS X.K gNx) := pss_nil.imp fun D σ H ⟨H0, T0, M, T, ds, r, S, e, n, _⟩ => by cases e; exact n _ rfl T σ H S
theorem s_cons (h1 : PS X st (tS X.K g)) (h2 : PSs X rest (tS X.K g')) : PSs X (st :: rest) (tS X.K (gSeq g g')) := (pss_cons h1 h2).imp fun D σ H ⟨H0, T0, M, T, ds, r, S, e, n, q⟩ => by
  unfold gSeq at e
  cases eg : g ds with
  | none => rw [eg] at e; cases e
  | some r' =>
    rw [eg] at e
    cases r' with
    | nx ds' =>
      refine ⟨H0, T0, M, T, ds, _, S, eg, fun ds2 e2 T' σ' H' S' => ?_, fun d e2 => by cases e2⟩
      cases e2
      exact ⟨H0, T0, M, T', ds', r, S', e, n, q⟩
    | rt d =>
      cases e
      exact ⟨H0, T0, M, T, ds, _, S, eg, (fun _ e2 => nomatch e2), q⟩
theorem s_one (h1 : PS X st (tS X.K g)) : PSs X [st] (tS X.K g) := pss_one h1
theorem s_ret (he : PE X e (tD X.K f)) : PS X (.Return (some e) pos) (tS X.K (gRet f)) := (ps_ret he).imp fun D σ H ⟨H0, T0, M, T, ds, r, S, e, n, q⟩ => by
  unfold gRet at e
  cases ef : f ds with
  | none => rw [ef] at e; cases e
  | some d =>
    rw [ef] at e
    cases e
    exact ⟨T, ds, d, S.se, ef, fun v H' s r => q d rfl v H' T (S.same s).base (fun t h => .inr (S.sub t h)) r⟩
theorem s_asg {tg : Expr} {t : Tgt} (he : PE X e (tD X.K f)) (hg : PG X tg (tgV X.K t)) (hs : swapsWithSole [tg] e pos.line X.env = pure false := by rfl) (hw : swappedStores [tg] e X.env = pure none := by rfl)
    (h1 : (assignEach [tg] X.env).map (·.2) = [assign tg X.env] := by rfl) : PS X (.Assign [tg] e pos) (tS X.K (gAsg t f)) := (ps_asg he hg hs hw h1).imp fun D σ H ⟨H0, T0, M, T, ds, r, S, e, n, q⟩ => by
  unfold gAsg at e
  cases ef : f ds with
  | none => rw [ef] at e; cases e
  | some x =>
    rw [ef] at e
    replace e : (bindD t x ds).map Res.nx = some r := e
    cases eb : bindD t x ds with
    | none => rw [eb] at e; cases e
    | some ds' =>
      rw [eb] at e
      cases e
      exact ⟨T, ds, x, S.se, ef, fun v H' s r => bind_okS (S.same s) r eb fun σ' S' => n ds' rfl T σ' H' S'⟩
theorem s_set (i : Nat) {x : Str} {pos' : Pos} (hN : X.N.Nodup) (hi : X.N[i]? = some x) (hx : Loc X.env.scope x) (he : PE X e (tD X.K f)) (hs : swapsWith e (some (.Name x pos')) pos.line X.env = pure false := by rfl) (hf : X.fn x = true ∨ X.env.scope.names.lookup x = some .local := by first | exact .inl rfl | exact .inr rfl | assumption) :
    PS X (.Assign [.Name x pos'] e pos) (tS X.K (gAsg (.name i) f)) := (ps_set hN hi hx he hs hf).imp fun D σ H ⟨H0, T0, M, T, ds, r, S, e, n, q⟩ => by
  unfold gAsg at e
  cases ef : f ds with
  | none => rw [ef] at e; cases e
  | some x =>
    rw [ef] at e
    cases e
    exact ⟨T, ds, x, S.se, ef, fun v H' s r => n _ rfl T _ H' ((S.same s).set r)⟩
/-- name = [..], a comprehension on the row of the name -/
theorem s_setLc (i : Nat) {y : Str} {py : Pos} {elt tg iter : Expr} {ifs : List Expr} {scope : Scope} {own : List (Str × Nat)} {pos spos : Pos} {fi : Fi} {t : Tgt} {fc : Fb} {fe : Fe} (hc : X.calm = true) (hN : X.N.Nodup) (hy : X.N[i]? = some y) (hyl : X.env.scope.names.lookup y = some .local)
    (hsw : swapsWith (.ListComp elt [⟨tg, iter, ifs, 0⟩] scope pos) (some (.Name y py)) spos.line X.env = pure true) (hi : PI X tg iter (tI X.K fi)) (ok : BlkOk X.N X.env.scope scope own)
    (hg : ∀ (s : Shared) (H : Hp) (C : Addr) (cl : List (Str × Addr)) (fp : List Addr), PG (X.blk s H scope (compEnvC scope cl C X.env) fp) tg (tgV X.K t)) (ht : ∀ (s : Shared) (H : Hp) (C : Addr) (cl : List (Str × Addr)) (fp : List Addr), PTs (X.blk s H scope (compEnvC scope cl C X.env) fp) ifs (tDT X.K fc))
    (he : ∀ (s : Shared) (H : Hp) (C : Addr) (cl : List (Str × Addr)) (fp : List Addr), PE (X.blk s H scope (compEnvC scope cl C X.env) fp) elt (tD X.K fe)) (hsl : ∀ i ∈ t.slots, i ∈ own.map (·.2)) (hs : ∀ x, foldedSetIterable iter X.env x = pure x := by intro _; rfl) :
    PS X (.Assign [.Name y py] (.ListComp elt [⟨tg, iter, ifs, 0⟩] scope pos) spos) (tS X.K (gAsg (.name i) (fLc fi t fc fe (own.map (·.2))))) := (ps_setLc hc hN hy hyl hsw hi ok hg ht he hs).imp fun D σ H ⟨H0, T0, M, T, ds, r, S, e, n, q⟩ => by
  unfold gAsg at e
  cases ef : fLc fi t fc fe (own.map (·.2)) ds with
  | none => rw [ef] at e; cases e
  | some x =>
    rw [ef] at e
    cases e
    exact lcD hsl ⟨T, ds, x, S.se, ef, fun v H' s r => n _ rfl T _ H' ((S.same s).set r)⟩
theorem s_par (i j : Nat) {x y : Str} {a b : Expr} {fa fb : Fe} {px py pt : Pos} {kt k2 pt2} (hc : X.calm = true) (hN : X.N.Nodup) (hi : X.N[i]? = some x) (hj : X.N[j]? = some y) (hij : i ≠ j)
    (hx : X.env.scope.names.lookup x = some .local) (hy : X.env.scope.names.lookup y = some .local) (ha : PE X a (tD X.K fa)) (hb : PE X b (tD X.K fb))
    (hw : swappedStores [.Tuple [.Name x px, .Name y py] kt pt] (.Tuple [a, b] k2 pt2) X.env = pure (some [x, y]))
    (hs : swapsWithSole [.Tuple [.Name x px, .Name y py] kt pt] (.Tuple [a, b] k2 pt2) pos.line X.env = pure false := by rfl)
    (hs1 : starEach (a :: [b]) X.env = (false, eval a X.env) :: starEach [b] X.env := by rfl) (hs2 : starEach (b :: []) X.env = (false, eval b X.env) :: starEach [] X.env := by rfl) :
    PS X (.Assign [.Tuple [.Name x px, .Name y py] kt pt] (.Tuple [a, b] k2 pt2) pos) (tS X.K (gPar i j fa fb)) :=
  (ps_par hc hN hi hj hij hx hy (da_cons ha (da_cons hb da_nil hs2) hs1) hw hs).imp fun D σ H ⟨H0, T0, M, T, ds, r, S, e, n, q⟩ => by
    unfold gPar at e
    cases ea : fa ds with
    | none => rw [ea] at e; cases e
    | some x =>
      cases eb : fb ds with
      | none => rw [ea, eb] at e; cases e
      | some y =>
        rw [ea, eb] at e
        cases e
        refine ⟨T, ds, [x, y], S.se, by unfold faC faN; rw [ea, eb]; rfl, fun vs H' s r => ?_⟩
        cases r with
        | cons r1 r2 =>
          cases r2 with
          | cons r3 r4 =>
            cases r4
            exact ⟨_, _, rfl, n _ rfl T _ H' (((S.same s).set r1).set r3)⟩
theorem s_if {c : Expr} {fc : Fb} {a b : List Stmt} (hc : PT X c (tDT X.K fc)) (ha : PSs X a (tS X.K g)) (hb : PSs X b (tS X.K g')) : PS X (.If c a b pos) (tS X.K (gIf fc g g')) := (ps_if hc ha hb).imp fun D σ H ⟨H0, T0, M, T, ds, r, S, e, n, q⟩ => by
  unfold gIf at e
  cases ec : fc ds with
  | none => rw [ec] at e; cases e
  | some k =>
    rw [ec] at e
    refine ⟨T, ds, k, S.se, ec, fun H1 s1 => ?_⟩
    cases k with
    | true => exact iteT ⟨H0, T0, M, T, ds, r, S.same s1, e, n, q⟩
    | false => exact iteF ⟨H0, T0, M, T, ds, r, S.same s1, e, n, q⟩
end
/-! ### a list of one's own -/
def fL (i : Nat) : Fe := fun ds => match ds[i]? with | some (.l xs) => some (.list xs) | _ => none
theorem fL_some {i : Nat} {ds : List Slot} {d : D} (h : fL i ds = some d) : ∃ xs, ds[i]? = some (.l xs) ∧ d = .list xs := by
  unfold fL at h
  split at h
  · rename_i xs e
    cases h
    exact ⟨xs, e, rfl⟩
  · cases h
theorem Se.l {K : PySem.W.Frag} {T : List Addr} {σ : St} {H : Hp} {ds : List Slot} {i : Nat} {xs : List D} (h : Se K T σ H ds) (e : ds[i]? = some (.l xs)) : ∃ a vs, σ[i]? = some (some (.ref a)) ∧ a ∈ T ∧ H a = some (.lst vs) ∧ RpA K T H vs xs := h.at_ i _ e
def noL (ds : List Slot) : Bool := ds.all fun s => !isL s
theorem noL_of {ds : List Slot} (h : noL ds = true) (i : Nat) (s : Slot) (l : isL s = true) : ds[i]? ≠ some s := fun e => by
  have := List.all_eq_true.mp h _ (List.mem_of_getElem? e)
  rw [l] at this
  cases this
/-- a new thing of one's own comes to slot i -/
theorem Sd.newO {K : PySem.W.Frag} {H0 : Hp} {T0 M T : List Addr} {σ : St} {H : Hp} {ds : List Slot} {i : Nat} {p : Addr} {o : HO} {s' : Slot} (S : Sd K H0 T0 M T σ H ds) (hn : noL ds = true) (hp : H p = none)
    (hs : isL s' = true) (hk : TOk (p :: T) (upd H p o) → SlotOk K (p :: T) (upd H p o) s' (some (some (.ref p)))) :
    Sd K H0 T0 M (p :: T) (σ.set i (some (.ref p))) (upd H p o) (ds.set i s') := by
  have st : Step T H (p :: T) (upd H p o) := ⟨fun t h => List.mem_cons_of_mem _ h, fun t h => (List.mem_cons.mp h).elim (fun z => .inr (by rw [z]; exact hp)) .inl, fun t h => by
    by_cases z : t = p
    · rw [z, upd_same]; exact fun z => by cases z
    · rw [upd_ne z]; exact S.se.dom t ((List.mem_cons.mp h).resolve_left z), Ex.same (Same.new hp)⟩
  have S' := S.se.stepS (Same.new hp) st
  have h0 : p ∉ M → H0 p = none := fun hm => by
    cases e : H0 p with
    | none => rfl
    | some o => rw [S.base p o hm e] at hp; cases hp
  refine ⟨⟨st.dom, by rw [List.length_set, List.length_set]; exact S'.len, fun j s e => ?_⟩, fun b o hb q => Same.new hp _ _ (S.base b o hb q), fun t h => List.mem_cons_of_mem _ (S.sub t h), fun t h => ?_, S.mt, S.dom0, fun j s a e l e2 => ?_, fun j k s s' e l e2 l' => ?_⟩
  · rcases set_at e with ⟨z, z2, z3⟩ | ⟨hj, z⟩
    · subst z z2
      rw [List.getElem?_set_self (by rw [← S'.len]; exact z3)]
      exact hk st.dom
    · rw [List.getElem?_set_ne (Ne.symm hj)]
      exact S'.at_ j s z
  · rcases List.mem_cons.mp h with z | z
    · subst z
      by_cases hm : t ∈ M
      · exact .inl (S.mt t hm)
      · exact .inr (h0 hm)
    · exact S.fr t z
  · rcases set_at e with ⟨z, z2, z3⟩ | ⟨hj, z⟩
    · subst z
      rw [List.getElem?_set_self (by rw [← S.se.len]; exact z3)] at e2
      cases e2
      by_cases hm : p ∈ M
      · exact .inl hm
      · exact .inr (h0 hm)
    · exact absurd z (noL_of hn j s l)
  · rcases set_at e with ⟨z, z2, z3⟩ | ⟨hj, z⟩
    · rcases set_at e2 with ⟨w, _, _⟩ | ⟨hj2, w⟩
      · rw [z, w]
      · exact absurd w (noL_of hn k _ l')
    · exact absurd z (noL_of hn j _ l)
theorem Sd.newL {K : PySem.W.Frag} {H0 : Hp} {T0 M T : List Addr} {σ : St} {H : Hp} {ds : List Slot} {i : Nat} {p : Addr} (S : Sd K H0 T0 M T σ H ds) (hn : noL ds = true) (hp : H p = none) :
    Sd K H0 T0 M (p :: T) (σ.set i (some (.ref p))) (upd H p (.lst [])) (ds.set i (.l [])) := S.newO hn hp rfl fun _ => ⟨p, [], rfl, List.mem_cons_self, upd_same, .nil⟩
/-- the thing of one's own is written -/
theorem Sd.putO {K : PySem.W.Frag} {H0 : Hp} {T0 M T : List Addr} {σ : St} {H : Hp} {ds : List Slot} {i : Nat} {a : Addr} {s0 s' : Slot} {o : HO} (S : Sd K H0 T0 M T σ H ds) (e : ds[i]? = some s0) (l0 : isL s0 = true) (e1 : σ[i]? = some (some (.ref a))) (ha : a ∈ T) (l1 : isL s' = true)
    (hk : Step T H T (upd H a o) → SlotOk K T (upd H a o) s' (some (some (.ref a)))) : Sd K H0 T0 M T σ (upd H a o) (ds.set i s') := by
  have st : Step T H T (upd H a o) := ⟨fun t h => h, fun t h => .inl h, fun t h => by
    by_cases z : t = a
    · rw [z, upd_same]; exact fun z => by cases z
    · rw [upd_ne z]; exact S.se.dom t h, fun b o hb q => by rw [upd_ne (fun z => hb (by rw [z]; exact ha))]; exact q⟩
  refine ⟨⟨st.dom, by rw [List.length_set]; exact S.se.len, fun j s q => ?_⟩, fun b o hb q => ?_, S.sub, S.fr, S.mt, S.dom0, fun j s b q l q2 => ?_, fun j k s u q l q2 l' => ?_⟩
  · rcases set_at q with ⟨z, z2, _⟩ | ⟨hj, z⟩
    · subst z z2
      rw [e1]
      exact hk st
    · have w := S.se.at_ j s z
      cases s with
      | no => trivial
      | d x => obtain ⟨v, h1, h2⟩ := w; exact ⟨v, h1, h2.step st⟩
      | l zs => exact absurd (S.uni j i _ _ z rfl e l0) hj
      | v u => exact w
      | m zs => exact absurd (S.uni j i _ _ z rfl e l0) hj
  · have hb' : b ≠ a := fun z => by
      subst z
      rcases S.loc i s0 b e l0 e1 with w | w
      · exact hb w
      · rw [w] at q; cases q
    rw [upd_ne hb']
    exact S.base b o hb q
  · rcases set_at q with ⟨z, z2, _⟩ | ⟨hj, z⟩
    · subst z
      exact S.loc j s0 b e l0 q2
    · exact S.loc j s b z l q2
  · rcases set_at q with ⟨z, _, _⟩ | ⟨hj, z⟩
    · rcases set_at q2 with ⟨w, _, _⟩ | ⟨hj2, w⟩
      · rw [z, w]
      · exact absurd (S.uni k i _ _ w l' e l0) hj2
    · exact absurd (S.uni j i _ _ z l e l0) hj
theorem Sd.putL {K : PySem.W.Frag} {H0 : Hp} {T0 M T : List Addr} {σ : St} {H : Hp} {ds : List Slot} {i : Nat} {a : Addr} {xs ys : List D} {ws : List V} (S : Sd K H0 T0 M T σ H ds) (e : ds[i]? = some (.l xs)) (e1 : σ[i]? = some (some (.ref a))) (ha : a ∈ T) (r : RpA K T H ws ys) :
    Sd K H0 T0 M T σ (upd H a (.lst ws)) (ds.set i (.l ys)) := S.putO e rfl e1 ha rfl fun st => ⟨a, ws, rfl, ha, upd_same, r.step st⟩
/-- x = [] -/
def gNewL (i : Nat) : Fs := fun ds => if noL ds then some (.nx (ds.set i (.l []))) else none
/-- x, y = [], e -/
def gParL (i j : Nat) (b : Fe) : Fs := fun ds => if noL ds then (asB b ds).bind fun y => some (.nx ((ds.set i (.l [])).set j (.d (.bool y)))) else none
/-- x.append(e); x[-1] = e -/
def gApp (i : Nat) (f : Fe) : Fs := fun ds => match ds[i]? with
  | some (.l xs) => if small xs then (f ds).bind fun y => some (.nx (ds.set i (.l (xs ++ [y])))) else none
  | _ => none
def gLast (i : Nat) (f : Fe) : Fs := fun ds => match ds[i]? with
  | some (.l xs) => if xs.length = 0 then none else (f ds).bind fun y => some (.nx (ds.set i (.l (xs.set (xs.length - 1) y))))
  | _ => none
def gRetL (i : Nat) : Fs := fun ds => (fL i ds).map .rt
section
variable {X : Cx} {e : Expr} {f : Fe} {pos : Pos} {x : Str}
theorem s_newL (i : Nat) {pos' pos'' : Pos} (hN : X.N.Nodup) (hi : X.N[i]? = some x) (hx : Loc X.env.scope x) (hs : swapsWith (.List [] pos'') (some (.Name x pos')) pos.line X.env = pure false := by rfl) (hf : X.fn x = true ∨ X.env.scope.names.lookup x = some .local := by first | exact .inl rfl | exact .inr rfl | assumption) :
    PS X (.Assign [.Name x pos'] (.List [] pos'') pos) (tS X.K (gNewL i)) := (ps_set hN hi hx (pe_lst pa_nil) hs hf).imp fun D σ H ⟨H0, T0, M, T, ds, r, S, e, n, q⟩ => by
  unfold gNewL at e
  split at e
  · rename_i hn
    cases e
    exact ⟨by show 0 ≤ sizeLine; exact Nat.zero_le _, fun p hp => n _ rfl _ _ _ (S.newL hn hp)⟩
  · cases e
theorem s_parL (i j : Nat) {y : Str} {b : Expr} {fb : Fe} {px py pt pl : Pos} {kt k2 pt2} (hc : X.calm = true) (hN : X.N.Nodup) (hi : X.N[i]? = some x) (hj : X.N[j]? = some y) (hij : i ≠ j)
    (hx : X.env.scope.names.lookup x = some .local) (hy : X.env.scope.names.lookup y = some .local) (hb : PE X b (tD X.K fb))
    (hw : swappedStores [.Tuple [.Name x px, .Name y py] kt pt] (.Tuple [.List [] pl, b] k2 pt2) X.env = pure (some [x, y]))
    (hs : swapsWithSole [.Tuple [.Name x px, .Name y py] kt pt] (.Tuple [.List [] pl, b] k2 pt2) pos.line X.env = pure false := by rfl)
    (hs1 : starEach (.List [] pl :: [b]) X.env = (false, eval (.List [] pl) X.env) :: starEach [b] X.env := by rfl) (hs2 : starEach (b :: []) X.env = (false, eval b X.env) :: starEach [] X.env := by rfl) :
    PS X (.Assign [.Tuple [.Name x px, .Name y py] kt pt] (.Tuple [.List [] pl, b] k2 pt2) pos) (tS X.K (gParL i j fb)) :=
  (ps_par hc hN hi hj hij hx hy (pa_cons (pe_lst pa_nil) (pa_cons hb pa_nil hs2) hs1) hw hs).imp fun D σ H ⟨H0, T0, M, T, ds, r, S, e, n, q⟩ => by
    unfold gParL at e
    split at e
    · rename_i hn
      cases eb : asB fb ds with
      | none => rw [eb] at e; cases e
      | some y =>
        rw [eb] at e
        cases e
        refine ⟨by show 0 ≤ sizeLine; exact Nat.zero_le _, fun p hp => ?_⟩
        refine ⟨T, ds, _, S.se.same (Same.new hp), asB_some eb, fun v H2 s r => ⟨_, _, rfl, ?_⟩⟩
        cases r
        exact n _ rfl (p :: T) _ H2 (((S.newL (i := i) hn hp).same s).set (.bl y))
    · cases e
theorem s_append (i : Nat) {pn pa pc : Pos} (he : PE X e (tD X.K f)) (hN : X.N[i]? = some x) (hv : Vis X.env.scope x := by first | exact Or.inl rfl | exact Or.inr (Or.inl rfl) | exact Or.inr (Or.inr rfl)) (hd : (x == ("__debug__" : Str)) = false := by decide)
    (hcd : (x == ("__classdict__" : Str)) = false := by decide) (hs : starEach (e :: []) X.env = (false, eval e X.env) :: starEach [] X.env := by rfl)
    (hsw : swapsWith (.Call (.Attribute (.Name x pn) "append" pa) [e] [] pc) none pos.line X.env = pure false := by rfl)
    (hbm : PE X (.Call (.Attribute (.Name x pn) "append" pa) [e] [] pc) (tBM X.K "list" rAppend (tVar i) (tCons (tD X.K f) tNil))) :
    PS X (.Expr (.Call (.Attribute (.Name x pn) "append" pa) [e] [] pc) pos) (tS X.K (gApp i f)) := (ps_expr hbm hsw).imp fun D σ H ⟨H0, T0, M, T, ds, r, S, e, n, q⟩ => by
  unfold gApp at e
  split at e
  · rename_i xs ei
    split at e
    · rename_i hsm
      cases ef : f ds with
      | none => rw [ef] at e; cases e
      | some y =>
        rw [ef] at e
        cases e
        obtain ⟨a, vs, e1, ha, hl, rv⟩ := S.se.l ei
        refine ⟨_, e1, Or.inl ⟨rfl, _, SqL.of hl⟩, T, ds, y, S.se, ef, fun v H1 s r => ?_⟩
        have S1 := S.same s
        have rv1 := rv.same s S.se.dom
        exact ⟨a, vs, v, rfl, rfl, s _ _ hl, small_lt hsm rv1, n _ rfl T σ _ (S1.putL ei e1 ha (rv1.append (.one r)))⟩
    · cases e
  · cases e
theorem s_last (i : Nat) {pn ps_ : Pos} {ie : Expr} (he : PE X e (tD X.K f)) (hN : X.N[i]? = some x) (hix : PE X ie (tD X.K (fC (.int (-1))))) (hv : Vis X.env.scope x := by first | exact Or.inl rfl | exact Or.inr (Or.inl rfl) | exact Or.inr (Or.inr rfl)) (hd : (x == ("__debug__" : Str)) = false := by decide)
    (hcd : (x == ("__classdict__" : Str)) = false := by decide) (hs : swapsWithSole [.Subscript (.Name x pn) ie ps_] e pos.line X.env = pure false := by rfl) (hw : swappedStores [.Subscript (.Name x pn) ie ps_] e X.env = pure none := by rfl)
    (h1 : (assignEach [.Subscript (.Name x pn) ie ps_] X.env).map (·.2) = [assign (.Subscript (.Name x pn) ie ps_) X.env] := by rfl)
    (ha : ∀ v, assign (.Subscript (.Name x pn) ie ps_) X.env v = (do
      let ov ← holding [v] (eval (.Name x pn) X.env)
      let iv ← holding [v, ov] (eval ie X.env)
      standAt ps_
      holding [v, ov, iv] (setItem ov iv v)
      release [v, ov, iv] []) := by intro _; rfl) :
    PS X (.Assign [.Subscript (.Name x pn) ie ps_] e pos) (tS X.K (gLast i f)) := (ps_asg he (pg_sub (pe_var hN hv hd hcd) hix set_list ha) hs hw h1).imp fun D σ H ⟨H0, T0, M, T, ds, r, S, e, n, q⟩ => by
  unfold gLast at e
  split at e
  · rename_i xs ei
    split at e
    · cases e
    · rename_i hne
      cases ef : f ds with
      | none => rw [ef] at e; cases e
      | some y =>
        rw [ef] at e
        cases e
        obtain ⟨a, vs, e1, ha', hl, rv⟩ := S.se.l ei
        refine ⟨T, ds, y, S.se, ef, fun v H1 s r => ⟨_, e1, ?_⟩⟩
        have S1 := S.same s
        refine ⟨T, ds, _, S1.se, rfl, fun w H2 s2 r2 => ?_⟩
        cases r2
        have S2 := S1.same s2
        have rv2 := (rv.same s S.se.dom).same s2 S1.se.dom
        have hlen := rv2.length
        refine ⟨a, vs, -1, vs.length - 1, rfl, rfl, s2 _ _ (s _ _ hl), ?_, n _ rfl T σ _ ?_⟩
        · unfold ixN
          rw [if_neg (by decide), if_pos (by omega)]
          congr 1
          omega
        · rw [hlen]
          exact S2.putL ei e1 ha' (RpA.set (r.same s2 S1.se.dom) _ rv2)
  · cases e
theorem s_retL (i : Nat) {pn : Pos} (hN : X.N[i]? = some x) (hv : Vis X.env.scope x := by first | exact Or.inl rfl | exact Or.inr (Or.inl rfl) | exact Or.inr (Or.inr rfl)) (hd : (x == ("__debug__" : Str)) = false := by decide)
    (hcd : (x == ("__classdict__" : Str)) = false := by decide) : PS X (.Return (some (.Name x pn)) pos) (tS X.K (gRetL i)) := (ps_ret (pe_var hN hv hd hcd)).imp fun D σ H ⟨H0, T0, M, T, ds, r, S, e, n, q⟩ => by
  unfold gRetL at e
  cases ef : fL i ds with
  | none => rw [ef] at e; cases e
  | some d =>
    rw [ef] at e
    cases e
    obtain ⟨xs, ei, rfl⟩ := fL_some ef
    obtain ⟨a, vs, e1, ha, hl, rv⟩ := S.se.l ei
    have w : ∀ t ∈ T0.filter (fun t => decide (t ≠ a)), t ∈ T := fun t h => S.sub t (List.mem_filter.mp h).1
    refine ⟨_, e1, q _ rfl _ H (T0.filter fun t => decide (t ≠ a)) S.base (fun t h => ?_) (.lst ⟨fun z => ?_, hl⟩ (rv.weak w))⟩
    · by_cases z : t = a
      · subst z
        rcases S.loc i _ t ei rfl e1 with k | k
        · exact .inl k
        · exact absurd k (S.dom0 t h)
      · exact .inr (List.mem_filter.mpr ⟨h, decide_eq_true z⟩)
    · exact absurd rfl (of_decide_eq_true (List.mem_filter.mp z).2)
/-! reading the list of one's own -/
variable {fb : Fe} {b : Expr}
theorem tL_dp {K : PySem.W.Frag} {i : Nat} {g : D → D → Option D} {σ : St} {H : Hp} {Q : VK} (h : tD K (f2 g (fL i) fb) σ H Q) (hg : ∀ x y d, g x y = some d → ∃ b, d = .bool b) : tOp (rDB K g) (tVar i) (tD K fb) σ H Q := by
  obtain ⟨T, ds, d, S, e, q⟩ := h
  obtain ⟨x, y, e1, e2, e3⟩ := f2_some e
  obtain ⟨xs, ei, rfl⟩ := fL_some e1
  obtain ⟨a, vs, eσ, ha, hl, rv⟩ := S.l ei
  obtain ⟨k, rfl⟩ := hg _ _ _ e3
  refine ⟨_, eσ, T, ds, y, S, e2, fun v2 H2 s2 r2 => ?_⟩
  exact ⟨_, _, k, .lst (SqL.of (s2 _ _ hl)) (RpA.dp _ _ (rv.same s2 S.dom)), r2.dp, e3, q _ H2 s2 (.bl k)⟩
theorem dtL_ne (i : Nat) {pn : Pos} (hu : X.A.units + 64 < cLine) (hb : PE X b (tD X.K fb)) (hN : X.N[i]? = some x) (hv : Vis X.env.scope x := by first | exact Or.inl rfl | exact Or.inr (Or.inl rfl) | exact Or.inr (Or.inr rfl)) (hd : (x == ("__debug__" : Str)) = false := by decide)
    (hcd : (x == ("__classdict__" : Str)) = false := by decide) : PT X (.Compare (.Name x pn) [.NotEq] [b] pos) (tDT X.K (asB (f2 neD (fL i) fb))) :=
  (pt_cmpR (op_neDB hu) (pe_var hN hv hd hcd) hb (nomark _)).imp fun σ H Q q => by
    obtain ⟨T, ds, k, S, e, q⟩ := q
    exact tL_dp ⟨T, ds, _, S, asB_some e, fun v H' s r => by cases r; exact ⟨k, rfl, q H' s⟩⟩ neD_b
/-- x[k], x the list of one's own -/
theorem dL_item (i : Nat) {pn : Pos} (hb : PE X b (tD X.K fb)) (hN : X.N[i]? = some x) (hs : PlainIx b := by exact fun _ _ => rfl) (hv : Vis X.env.scope x := by first | exact Or.inl rfl | exact Or.inr (Or.inl rfl) | exact Or.inr (Or.inr rfl)) (hd : (x == ("__debug__" : Str)) = false := by decide)
    (hcd : (x == ("__classdict__" : Str)) = false := by decide) : PE X (.Subscript (.Name x pn) b pos) (tD X.K (f2 ixD (fL i) fb)) :=
  (pe_ix ix_list (pe_var hN hv hd hcd) hb hs).imp fun σ H Q q => by
    obtain ⟨T, ds, d, S, e, q⟩ := q
    obtain ⟨x, y, e1, e2, e3⟩ := f2_some e
    obtain ⟨xs, ei, rfl⟩ := fL_some e1
    obtain ⟨a, vs, eσ, ha, hl, rv⟩ := S.l ei
    refine ⟨_, eσ, T, ds, y, S, e2, fun v2 H2 s2 r2 => ?_⟩
    cases y with
    | int k =>
      cases r2
      obtain ⟨j, e4, e5⟩ := atI_len rv.length e3
      obtain ⟨v, hv', r⟩ := rv.get e4
      exact ⟨_, _, _, v, rfl, rfl, SqL.of (s2 _ _ hl), e5 v hv', q v H2 s2 (r.same s2 S.dom)⟩
    | _ => cases e3
/-- tuple(x) -/
theorem dL_tup (i : Nat) {p pn : Pos} (hg : Gl X "tuple") (hm : X.mg "tuple" = none) (hN : X.N[i]? = some x) (hv : Vis X.env.scope x := by first | exact Or.inl rfl | exact Or.inr (Or.inl rfl) | exact Or.inr (Or.inr rfl)) (hd : (x == ("__debug__" : Str)) = false := by decide)
    (hcd : (x == ("__classdict__" : Str)) = false := by decide) (hs : starEach [.Name x pn] X.env = (false, eval (.Name x pn) X.env) :: starEach [] X.env := by rfl) : PE X (.Call (.Name "tuple" p) [.Name x pn] [] pos) (tD X.K (fCall tupM (faC (fL i) faN))) :=
  (pe_callTy call_tuple_of hg hm (by decide +kernel) (pa_cons (pe_var hN hv hd hcd) pa_nil hs) (by decide) (by decide) hs).imp fun σ H Q q => by
    obtain ⟨T, ds, d, S, e, q⟩ := q
    unfold fCall faC faN at e
    cases ef : fL i ds with
    | none => rw [ef] at e; cases e
    | some y =>
      rw [ef] at e
      obtain ⟨xs, ei, rfl⟩ := fL_some ef
      cases e
      obtain ⟨a, vs, eσ, ha, hl, rv⟩ := S.l ei
      exact ⟨_, eσ, _, _, rfl, .inl ⟨SqL.of hl, fun p hp => q _ _ (Same.new hp) (Rp.newT rv S.dom hp)⟩⟩
theorem d_neg1 {j : Nat} {p1 p2 : Pos} {i : Int} : PE X (.UnaryOp .USub (.Constant (.int i) j p1) p2) (tD X.K (fC (.int (-i)))) := (pe_un un_neg pe_int).imp fun σ H Q ⟨T, ds, d, S, e, q⟩ => by
  cases e
  exact ⟨i, rfl, q _ H (Same.refl H) (.int _)⟩
end
/-! ### for -/
def loopD (t : Tgt) (body : Fs) : List D → List Slot → Option Res
  | [], ds => some (.nx ds)
  | x :: xs, ds => (bindD t x ds).bind fun ds1 => match body ds1 with
    | some (.nx ds2) => loopD t body xs ds2
    | r => r
def gFor (fi : Fi) (t : Tgt) (body : Fs) : Fs := fun ds => (fi ds).bind fun xs => loopD t body xs ds
/-- within a loop that begins here -/
def mutS (H0 : Hp) (M T : List Addr) : List Addr := M ++ T.filter fun t => (H0 t).isNone
section
variable {K : PySem.W.Frag} {H0 H1 : Hp} {T0 M T : List Addr} {σ σ' : St} {H : Hp} {ds : List Slot}
theorem mem_mut {t : Addr} : t ∈ mutS H0 M T ↔ t ∈ M ∨ (t ∈ T ∧ H0 t = none) := by
  unfold mutS
  rw [List.mem_append, List.mem_filter]
  cases e : H0 t <;> simp
theorem Sd.enter (S : Sd K H0 T0 M T σ H1 ds) : Sd K H1 T (mutS H0 M T) T σ H1 ds :=
  ⟨S.se, fun _ _ _ q => q, fun _ h => h, fun _ h => .inl h, fun t h => (mem_mut.mp h).elim (fun z => S.sub t (S.mt t z)) fun z => z.1, S.se.dom, fun i s a e l e1 => by
    have ha : a ∈ T := by
      have w := S.se.at_ i s e
      rw [e1] at w
      cases s with
      | l xs => obtain ⟨b, vs, e2, ha, _⟩ := w; cases e2; exact ha
      | m xs => obtain ⟨b, vs, e2, ha, _⟩ := w; cases e2; exact ha
      | no => cases l
      | d _ => cases l
      | v _ => cases l
    exact .inl (mem_mut.mpr ((S.loc i s a e l e1).imp id fun z => ⟨ha, z⟩)), S.uni⟩
theorem Sd.leave {T' : List Addr} (S : Sd K H0 T0 M T σ' H1 ds) {ds' : List Slot} (S' : Sd K H1 T (mutS H0 M T) T' σ H ds') : Sd K H0 T0 M T' σ H ds' := by
  have old : ∀ t, H1 t = none → t ∈ T0 ∨ H0 t = none := fun t h => by
    cases e : H0 t with
    | none => exact .inr rfl
    | some o =>
      by_cases hm : t ∈ M
      · exact .inl (S.mt t hm)
      · rw [S.base t o hm e] at h; cases h
  refine ⟨S'.se, fun b o hb q => S'.base b o (fun z => ?_) (S.base b o hb q), fun t h => S'.sub t (S.sub t h), fun t h => ?_, S.mt, S.dom0, fun i s a e l e1 => ?_, S'.uni⟩
  · rcases mem_mut.mp z with z | z
    · exact hb z
    · rw [z.2] at q; cases q
  · rcases S'.fr t h with z | z
    · exact S.fr t z
    · exact old t z
  · rcases S'.loc i s a e l e1 with z | z
    · exact (mem_mut.mp z).imp id fun z => z.2
    · rcases old a z with w | w
      · exact absurd z (fun z => by
          have := S.sub a w
          exact S.se.dom a this z)
      · exact .inr w
theorem Sd.step (S' : Sd K H1 T M T0 σ H ds) : Step T H1 T0 H := ⟨S'.sub, S'.fr, S'.se.dom, fun b o hb q => S'.base b o (fun z => hb (S'.sub b (S'.mt b z))) q⟩
theorem loop_drop {t : Tgt} {body : Fs} {xs : List D} {i : Nat} {x : D} {r : Res} (hx : xs[i]? = some x) (h : loopD t body (xs.drop i) ds = some r) :
    ∃ ds1 r1, bindD t x ds = some ds1 ∧ body ds1 = some r1 ∧ ((∃ ds2, r1 = .nx ds2 ∧ loopD t body (xs.drop (i + 1)) ds2 = some r) ∨ (∃ d, r1 = .rt d ∧ r = .rt d)) := by
  obtain ⟨hl, e⟩ := List.getElem?_eq_some_iff.mp hx
  rw [List.drop_eq_getElem_cons hl, e] at h
  unfold loopD at h
  cases h1 : bindD t x ds with
  | none => rw [h1] at h; cases h
  | some ds1 =>
    rw [h1] at h
    replace h : (match body ds1 with | some (.nx ds2) => loopD t body (xs.drop (i + 1)) ds2 | r => r) = some r := h
    cases h2 : body ds1 with
    | none => rw [h2] at h; cases h
    | some r1 =>
      rw [h2] at h
      refine ⟨ds1, r1, rfl, h2, ?_⟩
      cases r1 with
      | nx ds2 => exact .inl ⟨ds2, rfl, h⟩
      | rt d => cases h; exact .inr ⟨d, rfl, rfl⟩
end
theorem s_for {X : Cx} {tg iter : Expr} {body : List Stmt} {fi : Fi} {t : Tgt} {g : Fs} {pos : Pos} (hp : PassesOwn (model X.prog X.w) X.A X.env X.xe) (hc : X.calm = true) (hi : PI X tg iter (tI X.K fi)) (hg : PG X tg (tgV X.K t)) (hb : PSs X body (tS X.K g))
    (hs : ∀ x, foldedSetIterable iter X.env x = pure x := by intro _; rfl) : PS X (.For tg iter body [] pos) (tS X.K (gFor fi t g)) := (ps_for hp hc hi hg hb hs).imp fun D σ H ⟨H0, T0, M, T, ds, r, S, e, n, q⟩ => by
  unfold gFor at e
  cases ef : fi ds with
  | none => rw [ef] at e; cases e
  | some xs =>
    rw [ef] at e
    replace e : loopD t g xs ds = some r := e
    refine ⟨T, ds, xs, S.se, ef, fun J H1 s1 it => ?_⟩
    have S1 := S.same s1
    refine ⟨fun i m σ' H' => m = xs.length - i ∧ i ≤ xs.length ∧ ∃ T' ds', Sd X.K H1 T (mutS H0 M T) T' σ' H' ds' ∧ loopD t g (xs.drop i) ds' = some r, ⟨xs.length, by simp, Nat.zero_le _, T, ds, S1.enter, by rw [List.drop_zero]; exact e⟩, ?_⟩
    rintro i m σ' H' ⟨rfl, hi, T', ds', S', e'⟩
    by_cases hlt : i < xs.length
    · have hx : xs[i]? = some xs[i] := List.getElem?_eq_getElem hlt
      obtain ⟨ds1, r1, b1, b2, b3⟩ := loop_drop hx e'
      obtain ⟨go, yl⟩ := (it T' H' S'.step i).1 _ hx
      refine .inr ⟨go, _, fun σ2 H2 p => ⟨xs.length - (i + 1), by omega, p⟩, fun v H2 y => ?_⟩
      obtain ⟨s3, rv⟩ := yl v H2 y
      refine bind_okS (S'.same s3) rv b1 fun σ2 S2 => ?_
      refine ⟨H1, T, mutS H0 M T, T', ds1, r1, S2, b2, fun ds2 z T2 σ3 H3 S3 => ?_, fun d z v3 H3 T1 x3 w3 r3 => ?_⟩
      · rcases b3 with ⟨ds2', z2, e2⟩ | ⟨d, z2, _⟩
        · rw [z] at z2
          cases z2
          exact ⟨rfl, hlt, T2, ds2, S3, e2⟩
        · rw [z] at z2; cases z2
      · rcases b3 with ⟨ds2', z2, e2⟩ | ⟨d', z2, z3⟩
        · rw [z] at z2; cases z2
        · rw [z] at z2
          cases z2
          refine q d z3 v3 H3 T1 (fun b o hb qq => x3 b o (fun z => ?_) (S1.base b o hb qq)) (fun t ht => ?_) r3
          · rcases mem_mut.mp z with z | z
            · exact hb z
            · rw [z.2] at qq; cases qq
          · rcases w3 t (S.sub t ht) with z | z
            · rcases mem_mut.mp z with z | z
              · exact .inl z
              · exact absurd z.2 (S.dom0 t ht)
            · exact .inr z
    · have hi' : i = xs.length := by omega
      rw [hi', List.drop_length] at e'
      cases e'
      exact .inl ⟨(it T' H' S'.step i).2 hi', n ds' rfl T' σ' H' (S1.leave S')⟩
/-! ### defs -/
/-- the slots at the entry -/
def startD (xs : List D) (k : Nat) : List Slot := xs.map Slot.d ++ List.replicate k .no
def outOf : Option Res → Option D
  | some (.nx _) => some .none
  | some (.rt d) => some d
  | none => none
/-- the mirror of a def whose body is g, with k more names than parameters -/
def runD (g : Fs) (k : Nat) (xs : List D) : Option D := outOf (g (startD xs k))
theorem start_ok {K : PySem.W.Frag} {T : List Addr} {H : Hp} {N : List Str} {vs : List V} {xs : List D} {k : Nat} (t : TOk T H) (r : RpA K T H vs xs) (hk : N.length = vs.length + k) : Sd K H T [] T (L2.start N vs) H (startD xs k) := by
  have e : N.length - vs.length = k := by omega
  have hl := r.length
  refine ⟨⟨t, ?_, fun i s h => ?_⟩, fun _ _ _ q => q, fun _ h => h, fun _ h => .inl h, (fun _ h => nomatch h), t, fun i s' a h l _ => ?_, fun i j s' s'' h l _ _ => ?_⟩
  · unfold L2.start startD
    rw [e, List.length_append, List.length_append, List.length_map, List.length_map, List.length_replicate, List.length_replicate, hl]
  · unfold L2.start
    unfold startD at h
    rw [e]
    by_cases hi : i < xs.length
    · rw [List.getElem?_append_left (by simpa using hi), List.getElem?_map] at h
      rw [List.getElem?_append_left (by rw [List.length_map, hl]; exact hi), List.getElem?_map]
      cases q : xs[i]? with
      | none => rw [q] at h; cases h
      | some x =>
        rw [q] at h
        cases h
        obtain ⟨v, hv, rv⟩ := r.get q
        rw [hv]
        exact ⟨v, rfl, rv⟩
    · rw [List.getElem?_append_right (by simpa using hi), List.getElem?_replicate] at h
      split at h
      · cases h; trivial
      · cases h
  all_goals
    unfold startD at h
    by_cases hi : i < xs.length
    · rw [List.getElem?_append_left (by simpa using hi), List.getElem?_map] at h
      cases q : xs[i]? with
      | none => rw [q] at h; cases h
      | some x => rw [q] at h; cases h; cases l
    · rw [List.getElem?_append_right (by simpa using hi), List.getElem?_replicate] at h
      split at h <;> cases h
      cases l
section
variable {P : Program} {w : World} {K : PySem.W.Frag} {mg : Str → Option Value} {base : Heap}
/-- the end of a body that is a function of data -/
theorem body_ok {g : Fs} {k n : Nat} {N : List Str} {vs : List V} {H : Hp} {Q : VK} {E : XK} (hk : N.length = n + k) (h : spD K n (runD g k) vs H Q E) : tS K g { nx := fun _ H' => Q .non H', rt := Q } (L2.start N vs) H := by
  obtain ⟨hn, T, xs, d, t, r, e, q⟩ := h
  unfold runD at e
  cases eg : g (startD xs k) with
  | none => rw [eg] at e; cases e
  | some res =>
    rw [eg] at e
    refine ⟨H, T, [], T, _, res, start_ok t r (by rw [hn]; exact hk), eg, fun ds' z T' σ' H' S' => ?_, fun d' z v H' T1 x w r' => ?_⟩
    · subst z
      cases e
      exact q _ H' (fun b o z => S'.base b o (fun z => nomatch z) z) .non
    · subst z
      cases e
      exact q v H' (fun b o z => x b o (fun z => nomatch z) z) (r'.weak fun t h => (w t h).resolve_left fun z => nomatch z)
theorem F_ok {x qual : Str} {st : Stmt} {f : Addr} {fd : FuncData} {N ps : List Str} {k j : Nat} {g : Fs} (F : Fun K x qual st f fd) (S : FnScope N ps (defScope st)) (hN : N.length = ps.length + k)
    (hb : ∀ (cdv : Value) (A : Around) (outer : List Env) (s : Shared) (H : Hp) (E : XK), Room j (A.deeper (PyProof.Rows.envOfC qual (defScope st) s.heap.objs.size f cdv)) → PSs (cxOf CX0 P w K mg base N qual (defScope st) f cdv A outer s H E).nox (defBody st) (tS K g)) :
    FnOk P w K mg base CX0 (j + 1) f fd ps (spD K ps.length (runD g k)) :=
  F.ok S (fun _ _ _ _ h => h.1) fun cdv A outer s H vs Q E hr h => ⟨_, hb cdv A outer s H E hr, body_ok hN h⟩
end
end Nf
set_option Elab.async false
set_option linter.all false
set_option maxRecDepth 100000
set_option maxHeartbeats 4000000
/-! defs as functions of data -/
namespace Nf
open PySem PySem.Spec L2
/-- a def of the text -/
def Tx (K : PySem.W.Frag) (mg : Str → Option Value) (x : Str) (st : Stmt) : Prop := ∃ f fd, Fun K x x st f fd ∧ mg x = some (.ref f)
/-- a def that holds its mirror's promise -/
def Fn (P : Program) (w : World) (K : PySem.W.Frag) (mg : Str → Option Value) (base : Heap) (k : Nat) (x : Str) (ps : List Str) (m : List D → Option D) : Prop :=
  ∃ f fd, FnOk P w K mg base CX0 k f fd ps (spD K ps.length m) ∧ mg x = some (.ref f) ∧ PySem.W.keepIn K (.ref f) = true ∧ Binds K fd ps []
section
variable {P : Program} {w : World} {K : PySem.W.Frag} {mg : Str → Option Value} {base : Heap}
/-- how many parameters a plain def has -/
theorem fn_ok {x : Str} {st : Stmt} {N ps : List Str} {k j : Nat} {g : Fs} (t : Tx K mg x st) (S : FnScope N ps (defScope st)) (hN : N.length = ps.length + k)
    (hbd : ∀ (kV doc pm : Value) (an : Option Addr) (cdv ct : Value) (us : List Value), us.length = ps.length → bindArgs (PySem.W.fnOf x x (defArgs st) (defBody st) (defScope st) .none kV doc pm an cdv ct) ⟨us, []⟩ = pure (ps.zip us))
    (hb : ∀ (f : Addr) (cdv : Value) (A : Around) (outer : List Env) (s : Shared) (H : Hp) (E : XK), Room j (A.deeper (PyProof.Rows.envOfC x (defScope st) s.heap.objs.size f cdv)) → PSs (cxOf CX0 P w K mg base N x (defScope st) f cdv A outer s H E).nox (defBody st) (tS K g)) : Fn P w K mg base (j + 1) x ps (runD g k) := by
  obtain ⟨f, fd, F, hm⟩ := t
  exact ⟨f, fd, F_ok F S hN (hb f), hm, F.kp, F.binds hbd⟩
theorem fn_zero {x : Str} {st : Stmt} {ps : List Str} (t : Tx K mg x st)
    (hbd : ∀ (kV doc pm : Value) (an : Option Addr) (cdv ct : Value) (us : List Value), us.length = ps.length → bindArgs (PySem.W.fnOf x x (defArgs st) (defBody st) (defScope st) .none kV doc pm an cdv ct) ⟨us, []⟩ = pure (ps.zip us)) :
    Fn P w K mg base 0 x ps fun _ => none := by
  obtain ⟨f, fd, F, hm⟩ := t
  refine ⟨f, fd, ⟨fun _ _ _ _ h => h.1, fun A outer s H args us vs Q E _ _ _ _ h => ?_⟩, hm, F.kp, F.binds hbd⟩
  obtain ⟨_, _, _, _, _, _, z, _⟩ := h
  cases z
end
section
variable {X : Cx} {k j : Nat} {x : Str} {ps : List Str} {m : List D → Option D} {p pos : Pos} {e : Expr} {es : List Expr} {g : Fa}
theorem d_fn (c : Fn X.prog X.w X.K X.mg X.base k x ps m) (hr : Room j X.A) (hk : k ≤ j) (hg : Gl X x) (ha : PA X (e :: es) (tDA X.K g)) (hn : ∀ ds xs, g ds = some xs → xs.length = ps.length) (hdb : (x == ("__debug__" : Str)) = false := by decide)
    (he : starEach (e :: es) X.env = (false, eval e X.env) :: starEach es X.env := by rfl) (hpl : (backTo pos (starEach es X.env)).any (·.1) = false := by rfl) : PE X (.Call (.Name x p) (e :: es) [] pos) (tD X.K (fCall m g)) := by
  obtain ⟨f, fd, F, hm, kp, b⟩ := c
  exact d_call (E := E0) F (hr.mono hk) hg hm kp b pass0 ha hn hdb he hpl
theorem d_fn0 (c : Fn X.prog X.w X.K X.mg X.base k x [] m) (hr : Room j X.A) (hk : k ≤ j) (hg : Gl X x) (hdb : (x == ("__debug__" : Str)) = false := by decide) : PE X (.Call (.Name x p) [] [] pos) (tD X.K (fCall m faN)) := by
  obtain ⟨f, fd, F, hm, kp, b⟩ := c
  exact d_call0 (E := E0) F (hr.mono hk) hg hm kp b pass0 hdb
/-- the module's constants -/
theorem d_gint {i : Int} (hg : Gl X x) (hm : ∃ t, X.mg x = some (.int i t)) (hd : (x == ("__debug__" : Str)) = false := by decide) : PE X (.Name x p) (tD X.K (fC (.int i))) := by
  obtain ⟨t, hm⟩ := hm
  exact (pe_glob (v := .int i) hg hm ⟨t, rfl⟩ hd).imp fun σ H Q ⟨T, ds, d, S, e, q⟩ => by cases e; exact q _ H (Same.refl H) (.int i)
theorem d_gstr {z : Str} (hg : Gl X x) (hm : ∃ t, X.mg x = some (.str z t)) (hd : (x == ("__debug__" : Str)) = false := by decide) : PE X (.Name x p) (tD X.K (fC (.str z))) := by
  obtain ⟨t, hm⟩ := hm
  exact (pe_glob (v := .str z) hg hm ⟨t, rfl⟩ hd).imp fun σ H Q ⟨T, ds, d, S, e, q⟩ => by cases e; exact q _ H (Same.refl H) (.str z)
end
theorem hu64 {j : Nat} {A : Around} (hr : Room j A) : A.units + 64 < cLine := hr.units
theorem hu65 {j : Nat} {A : Around} (hr : Room j A) : A.units + 65 < cLine := by have := hr.un; omega
end Nf
set_option Elab.async false
set_option linter.all false
set_option maxRecDepth 100000
set_option maxHeartbeats 4000000
namespace Nf
open PySem PySem.Spec L2
def topS (i : Nat) : Stmt := PySem.Challenge.pw_newestfit_k21_whole_terms_as_sets_of_sta.main.body.getD i (.Pass ⟨0, 0, 0, 0⟩)
abbrev s_tupled : Stmt := topS 3
abbrev s_is_number : Stmt := topS 4
abbrev s_is_tuple_of : Stmt := topS 5
abbrev s_is_name : Stmt := topS 10
abbrev s_is_version : Stmt := topS 11
abbrev s_is_span_pair : Stmt := topS 14
abbrev s_is_range : Stmt := topS 15
abbrev s_pair_holds : Stmt := topS 16
abbrev s_span_holds : Stmt := topS 17
abbrev s_in_range : Stmt := topS 18
abbrev s_cuts_in : Stmt := topS 19
abbrev s_stretches : Stmt := topS 20
abbrev s_spans_holding : Stmt := topS 21
abbrev s_grains_in : Stmt := topS 22
abbrev s_range_grains : Stmt := topS 23
abbrev s_pairs_joined : Stmt := topS 24
abbrev s_by_rows : Stmt := topS 25
abbrev s_both_of : Stmt := topS 26
abbrev s_either_of : Stmt := topS 27
abbrev s_all_but : Stmt := topS 28
abbrev s_taken_out : Stmt := topS 29
abbrev s_is_inside : Stmt := topS 30
abbrev s_is_item : Stmt := topS 32
abbrev s_is_term : Stmt := topS 34
abbrev s_term_holds : Stmt := topS 35
abbrev s_of_one_item : Stmt := topS 36
abbrev s_term_both : Stmt := topS 37
abbrev s_term_either : Stmt := topS 38
abbrev s_term_not : Stmt := topS 39
abbrev s_term_inside : Stmt := topS 40
abbrev s_Lbox : Stmt := topS 42
abbrev s_Ltake : Stmt := topS 43
abbrev s_Lcells : Stmt := topS 44
abbrev s_Lof : Stmt := topS 45
abbrev s_Lpick : Stmt := topS 46
abbrev s_Llists : Stmt := topS 47
abbrev s_Lsame : Stmt := topS 48
abbrev s_Lis_number : Stmt := topS 49
abbrev s_Lsettled : Stmt := topS 50
abbrev s_Lnext : Stmt := topS 51
abbrev s_Levery : Stmt := topS 52
abbrev s_Ljust : Stmt := topS 53
abbrev s_Lheld : Stmt := topS 54
abbrev s_Lspan_of : Stmt := topS 55
abbrev s_Lpoints : Stmt := topS 56
abbrev s_Lspan_both : Stmt := topS 57
abbrev s_Lspan_either : Stmt := topS 58
abbrev s_Lspan_but : Stmt := topS 59
abbrev s_Lfew_versions : Stmt := topS 60
abbrev s_Lspan : Stmt := topS 61
abbrev s_Lis_name : Stmt := topS 62
abbrev s_Lis_version : Stmt := topS 63
abbrev s_Lis_item : Stmt := topS 64
abbrev s_Lis_span : Stmt := topS 65
abbrev s_Lis_term : Stmt := topS 66
abbrev s_Lstands : Stmt := topS 67
abbrev s_Ltries : Stmt := topS 68
abbrev s_Lheard : Stmt := topS 69
abbrev s_Lbent : Stmt := topS 70
abbrev s_Lfront_right : Stmt := topS 71
abbrev s_Lright : Stmt := topS 72
abbrev s_law : Stmt := topS 73
/-- what the top has written -/
structure Wt (K : PySem.W.Frag) (mg : Str → Option Value) : Prop where
  t_tupled : Tx K mg "tupled" s_tupled
  t_is_number : Tx K mg "is_number" s_is_number
  t_is_tuple_of : Tx K mg "is_tuple_of" s_is_tuple_of
  t_is_name : Tx K mg "is_name" s_is_name
  t_is_version : Tx K mg "is_version" s_is_version
  t_is_span_pair : Tx K mg "is_span_pair" s_is_span_pair
  t_is_range : Tx K mg "is_range" s_is_range
  t_pair_holds : Tx K mg "pair_holds" s_pair_holds
  t_span_holds : Tx K mg "span_holds" s_span_holds
  t_in_range : Tx K mg "in_range" s_in_range
  t_cuts_in : Tx K mg "cuts_in" s_cuts_in
  t_stretches : Tx K mg "stretches" s_stretches
  t_spans_holding : Tx K mg "spans_holding" s_spans_holding
  t_grains_in : Tx K mg "grains_in" s_grains_in
  t_range_grains : Tx K mg "range_grains" s_range_grains
  t_pairs_joined : Tx K mg "pairs_joined" s_pairs_joined
  t_by_rows : Tx K mg "by_rows" s_by_rows
  t_both_of : Tx K mg "both_of" s_both_of
  t_either_of : Tx K mg "either_of" s_either_of
  t_all_but : Tx K mg "all_but" s_all_but
  t_taken_out : Tx K mg "taken_out" s_taken_out
  t_is_inside : Tx K mg "is_inside" s_is_inside
  t_is_item : Tx K mg "is_item" s_is_item
  t_is_term : Tx K mg "is_term" s_is_term
  t_term_holds : Tx K mg "term_holds" s_term_holds
  t_of_one_item : Tx K mg "of_one_item" s_of_one_item
  t_term_both : Tx K mg "term_both" s_term_both
  t_term_either : Tx K mg "term_either" s_term_either
  t_term_not : Tx K mg "term_not" s_term_not
  t_term_inside : Tx K mg "term_inside" s_term_inside
  t_Lbox : Tx K mg "_law_box" s_Lbox
  t_Ltake : Tx K mg "_law_take" s_Ltake
  t_Lcells : Tx K mg "_law_cells" s_Lcells
  t_Lof : Tx K mg "_law_of" s_Lof
  t_Lpick : Tx K mg "_law_pick" s_Lpick
  t_Llists : Tx K mg "_law_lists" s_Llists
  t_Lsame : Tx K mg "_law_same" s_Lsame
  t_Lis_number : Tx K mg "_law_is_number" s_Lis_number
  t_Lsettled : Tx K mg "_law_settled" s_Lsettled
  t_Lnext : Tx K mg "_law_next" s_Lnext
  t_Levery : Tx K mg "_law_every" s_Levery
  t_Ljust : Tx K mg "_law_just" s_Ljust
  t_Lheld : Tx K mg "_law_held" s_Lheld
  t_Lspan_of : Tx K mg "_law_span_of" s_Lspan_of
  t_Lpoints : Tx K mg "_law_points" s_Lpoints
  t_Lspan_both : Tx K mg "_law_span_both" s_Lspan_both
  t_Lspan_either : Tx K mg "_law_span_either" s_Lspan_either
  t_Lspan_but : Tx K mg "_law_span_but" s_Lspan_but
  t_Lfew_versions : Tx K mg "_law_few_versions" s_Lfew_versions
  t_Lspan : Tx K mg "_law_span" s_Lspan
  t_Lis_name : Tx K mg "_law_is_name" s_Lis_name
  t_Lis_version : Tx K mg "_law_is_version" s_Lis_version
  t_Lis_item : Tx K mg "_law_is_item" s_Lis_item
  t_Lis_span : Tx K mg "_law_is_span" s_Lis_span
  t_Lis_term : Tx K mg "_law_is_term" s_Lis_term
  t_Lstands : Tx K mg "_law_stands" s_Lstands
  t_Ltries : Tx K mg "_law_tries" s_Ltries
  t_Lheard : Tx K mg "_law_heard" s_Lheard
  t_Lbent : Tx K mg "_law_bent" s_Lbent
  t_Lfront_right : Tx K mg "_law_front_right" s_Lfront_right
  t_Lright : Tx K mg "_law_right" s_Lright
  t_law : Tx K mg "law" s_law
  b_ValueError : mg "ValueError" = none
  b_abs : mg "abs" = none
  b_all : mg "all" = none
  b_any : mg "any" = none
  b_bool : mg "bool" = none
  b_enumerate : mg "enumerate" = none
  b_int : mg "int" = none
  b_isinstance : mg "isinstance" = none
  b_len : mg "len" = none
  b_list : mg "list" = none
  b_min : mg "min" = none
  b_range : mg "range" = none
  b_set : mg "set" = none
  b_sorted : mg "sorted" = none
  b_str : mg "str" = none
  b_tuple : mg "tuple" = none
  b_zip : mg "zip" = none
  c_LETTERS : ∃ t, mg "LETTERS" = some (.str (PySem.Str.ofString "abcdefghijklmnopqrstuvwxyz") t)
  c_LONGEST : ∃ t, mg "LONGEST" = some (.int 12 t)
  c_EARLIEST : ∃ t, mg "EARLIEST" = some (.int (-9) t)
  c_FIRST : ∃ a, mg "FIRST" = some (.ref a) ∧ ∃ (o : Obj) (its : Array Value) (n : Nat), K.lookup a = some o ∧ o.cls = .type "tuple" ∧ o.data = .seq its n ∧ its.size ≤ sizeLine ∧ Vals [.int 0, .int 0, .int 0, .int (-9)] its.toList
theorem d_gtup {X : Cx} {x : Str} {p : Pos} (hg : Gl X x) (hm : ∃ a, X.mg x = some (.ref a) ∧ ∃ (o : Obj) (its : Array Value) (n : Nat), X.K.lookup a = some o ∧ o.cls = .type "tuple" ∧ o.data = .seq its n ∧ its.size ≤ sizeLine ∧ Vals [.int 0, .int 0, .int 0, .int (-9)] its.toList)
    (hd : (x == ("__debug__" : Str)) = false := by decide) : PE X (.Name x p) (tD X.K (fC (.tuple [.int 0, .int 0, .int 0, .int (-9)]))) := by
  obtain ⟨a, hm, o, its, n, h1, h2, h3, h4, h5⟩ := hm
  exact (pe_glob (v := .ref a) hg hm rfl hd).imp fun σ H Q ⟨T, ds, d, S, e, q⟩ => by
    cases e
    exact q _ H (Same.refl H) (.tup (.inr ⟨o, its, n, h1, h2, h3, h4, h5⟩) (.cons (.int _) (.cons (.int _) (.cons (.int _) (.cons (.int _) .nil)))))
end Nf
set_option Elab.async false
set_option linter.all false
set_option maxRecDepth 100000
set_option maxHeartbeats 4000000
namespace Nf
open PySem PySem.Spec L2
section
variable {P : Program} {w : World} {K : PySem.W.Frag} {mg : Str → Option Value} {base : Heap}
def g_is_number : Fs := (gRet (fAndV (f1 (isiD "int") (fV 0)) (fNotV (f1 (isiD "bool") (fV 0)))))
def m_is_number : List D → Option D := runD g_is_number 0
theorem sc_is_number : FnScope [("thing" : Str)] [("thing" : Str)] (defScope s_is_number) := ⟨rfl, rfl, rfl, by decide +kernel, rfl, by decide +kernel, by decide +kernel⟩
theorem ok_is_number (W : Wt K mg) : Fn P w K mg base 1 "is_number" [("thing" : Str)] m_is_number := by
  have sc := sc_is_number
  refine fn_ok W.t_is_number sc rfl (fun _ _ _ _ _ _ us hl => match us, hl with | [_], _ => rfl) fun f cdv A outer s H E hr => ?_
  exact (s_one (s_ret (d_and (d_isi (nn := "int") rfl W.b_isinstance rfl W.b_int (by decide +kernel) (by decide) (dv 0)) (d_one (d_not (d_isi (nn := "bool") rfl W.b_isinstance rfl W.b_bool (by decide +kernel) (by decide) (dv 0)))))))
def g_is_tuple_of : Fs := (gRet (fAndV (f1 (isiD "tuple") (fV 0)) (f2 eqD (fCall lenM (faC (fV 0) faN)) (fV 1))))
def m_is_tuple_of : List D → Option D := runD g_is_tuple_of 0
theorem sc_is_tuple_of : FnScope [("thing" : Str), ("size" : Str)] [("thing" : Str), ("size" : Str)] (defScope s_is_tuple_of) := ⟨rfl, rfl, rfl, by decide +kernel, rfl, by decide +kernel, by decide +kernel⟩
theorem ok_is_tuple_of (W : Wt K mg) : Fn P w K mg base 1 "is_tuple_of" [("thing" : Str), ("size" : Str)] m_is_tuple_of := by
  have sc := sc_is_tuple_of
  refine fn_ok W.t_is_tuple_of sc rfl (fun _ _ _ _ _ _ us hl => match us, hl with | [_, _], _ => rfl) fun f cdv A outer s H E hr => ?_
  exact (s_one (s_ret (d_and (d_isi (nn := "tuple") rfl W.b_isinstance rfl W.b_tuple (by decide +kernel) (by decide) (dv 0)) (d_one (d_eq (hu64 hr) (d_len rfl W.b_len (da_cons (dv 0) da_nil)) (dv 1))))))
def g_is_name : Fs := (gRet (fAndV (f1 (isiD "str") (fV 0)) (fAndV (fChain leD leD (fC (.int 1)) (fCall lenM (faC (fV 0) faN)) (fC (.int 12))) (fCall allM (faC (fLc (fStr (fV 0)) (.name 1) fYes (f2 inD (fV 1) (fC (.str (PySem.Str.ofString "abcdefghijklmnopqrstuvwxyz")))) [1]) faN)))))
def m_is_name : List D → Option D := runD g_is_name 1
theorem sc_is_name : FnScope [("thing" : Str), ("sign" : Str)] [("thing" : Str)] (defScope s_is_name) := ⟨rfl, rfl, rfl, by decide +kernel, rfl, by decide +kernel, by decide +kernel⟩
theorem ok_is_name (W : Wt K mg) : Fn P w K mg base 1 "is_name" [("thing" : Str)] m_is_name := by
  have sc := sc_is_name
  refine fn_ok W.t_is_name sc rfl (fun _ _ _ _ _ _ us hl => match us, hl with | [_], _ => rfl) fun f cdv A outer s H E hr => ?_
  exact (s_one (s_ret (d_and (d_isi (nn := "str") rfl W.b_isinstance rfl W.b_str (by decide +kernel) (by decide) (dv 0)) (d_and (d_lele (hu64 hr) d_int (d_len rfl W.b_len (da_cons (dv 0) da_nil)) (d_gint rfl W.c_LONGEST)) (d_one (d_all rfl rfl W.b_all (da_cons (d_lc (own := [(("sign" : Str), 1)]) rfl sc.nd (i_str (dv 0)) (blkOk_by (N := [("thing" : Str), ("sign" : Str)]) (sc := defScope s_is_name) (by decide +kernel)) (fun _ _ _ _ _ => g_name 1 sc.nd rfl (Or.inl rfl)) (fun _ _ _ _ _ => dts_nil) (fun _ _ _ _ _ => (d_in (hu65 hr) (dv 1) (d_gstr rfl W.c_LETTERS))) (by decide)) da_nil)))))))
def g_is_version : Fs := (gSeq (gIf (fOr (fNot (asB (fCall m_is_tuple_of (faC (fV 0) (faC (fC (.int 4)) faN))))) (fNot (asB (fCall allM (faC (fLc (fSeq (fV 0)) (.name 1) fYes (fCall m_is_number (faC (fV 1) faN)) [1]) faN))))) (gRet (fC (.bool false))) gNx) (gRet (fAndV (f2 geD (fCall minM (faC (f1 (slD none (some 3)) (fV 0)) faN)) (fC (.int 0))) (fChain leD leD (fC (.int (-9))) (f2 ixD (fV 0) (fC (.int 3))) (fC (.int 0))))))
def m_is_version : List D → Option D := runD g_is_version 1
theorem sc_is_version : FnScope [("thing" : Str), ("part" : Str)] [("thing" : Str)] (defScope s_is_version) := ⟨rfl, rfl, rfl, by decide +kernel, rfl, by decide +kernel, by decide +kernel⟩
theorem ok_is_version (W : Wt K mg) : Fn P w K mg base 2 "is_version" [("thing" : Str)] m_is_version := by
  have sc := sc_is_version
  refine fn_ok W.t_is_version sc rfl (fun _ _ _ _ _ _ us hl => match us, hl with | [_], _ => rfl) fun f cdv A outer s H E hr => ?_
  exact (s_cons (s_if (PW.pt (dw_or (dt_not (dt_val (d_fn (ok_is_tuple_of W) hr (by decide) rfl (da_cons (dv 0) (da_cons d_int da_nil)) (lnS (lnS ln0))))) (dw_or1 (dt_not (dt_val (d_all rfl rfl W.b_all (da_cons (d_lc (own := [(("part" : Str), 1)]) rfl sc.nd (i_seq (dv 0)) (blkOk_by (N := [("thing" : Str), ("part" : Str)]) (sc := defScope s_is_version) (by decide +kernel)) (fun _ _ _ _ _ => g_name 1 sc.nd rfl (Or.inl rfl)) (fun _ _ _ _ _ => dts_nil) (fun _ _ _ _ _ => (d_fn (ok_is_number W) hr (by decide) rfl (da_cons (dv 1) da_nil) (lnS ln0))) (by decide)) da_nil))))))) (s_one (s_ret d_bl)) s_nil) (s_one (s_ret (d_and (d_ge (hu64 hr) (d_min rfl (hu64 hr) rfl W.b_min (da_cons (d_slice (dv 0) po_n po_i) da_nil)) d_int) (d_one (d_lele (hu64 hr) (d_gint rfl W.c_EARLIEST) (d_item (dv 0) d_int) d_int))))))
def g_is_span_pair : Fs := (gSeq (gIf (fOr (fNot (asB (fCall m_is_tuple_of (faC (fV 0) (faC (fC (.int 2)) faN))))) (fNot (asB (fCall m_is_version (faC (f2 ixD (fV 0) (fC (.int 0))) faN))))) (gRet (fC (.bool false))) gNx) (gRet (fOrV (f2 isND (f2 ixD (fV 0) (fC (.int 1))) (fC .none)) (fAndV (fCall m_is_version (faC (f2 ixD (fV 0) (fC (.int 1))) faN)) (f2 ltD (f2 ixD (fV 0) (fC (.int 0))) (f2 ixD (fV 0) (fC (.int 1))))))))
def m_is_span_pair : List D → Option D := runD g_is_span_pair 0
theorem sc_is_span_pair : FnScope [("thing" : Str)] [("thing" : Str)] (defScope s_is_span_pair) := ⟨rfl, rfl, rfl, by decide +kernel, rfl, by decide +kernel, by decide +kernel⟩
theorem ok_is_span_pair (W : Wt K mg) : Fn P w K mg base 3 "is_span_pair" [("thing" : Str)] m_is_span_pair := by
  have sc := sc_is_span_pair
  refine fn_ok W.t_is_span_pair sc rfl (fun _ _ _ _ _ _ us hl => match us, hl with | [_], _ => rfl) fun f cdv A outer s H E hr => ?_
  exact (s_cons (s_if (PW.pt (dw_or (dt_not (dt_val (d_fn (ok_is_tuple_of W) hr (by decide) rfl (da_cons (dv 0) (da_cons d_int da_nil)) (lnS (lnS ln0))))) (dw_or1 (dt_not (dt_val (d_fn (ok_is_version W) hr (by decide) rfl (da_cons (d_item (dv 0) d_int) da_nil) (lnS ln0))))))) (s_one (s_ret d_bl)) s_nil) (s_one (s_ret (d_or (d_isN (d_item (dv 0) d_int) d_non) (d_one (d_and (d_fn (ok_is_version W) hr (by decide) rfl (da_cons (d_item (dv 0) d_int) da_nil) (lnS ln0)) (d_one (d_lt (hu64 hr) (d_item (dv 0) d_int) (d_item (dv 0) d_int)))))))))
def g_is_range : Fs := (gSeq (gIf (fOr (fNot (asB (f1 (isiD "tuple") (fV 0)))) (fNot (asB (fCall allM (faC (fLc (fSeq (fV 0)) (.name 3) fYes (fCall m_is_span_pair (faC (fV 3) faN)) [3]) faN))))) (gRet (fC (.bool false))) gNx) (gRet (fCall allM (faC (fLc (fZip (faC (fV 0) (faC (f1 (slD (some 1) none) (fV 0)) faN))) (.tup [1, 2]) fYes (fAndV (f2 notND (f2 ixD (fV 1) (fC (.int 1))) (fC .none)) (f2 ltD (f2 ixD (fV 1) (fC (.int 1))) (f2 ixD (fV 2) (fC (.int 0))))) [1, 2]) faN))))
def m_is_range : List D → Option D := runD g_is_range 3
theorem sc_is_range : FnScope [("thing" : Str), ("near" : Str), ("far" : Str), ("pair" : Str)] [("thing" : Str)] (defScope s_is_range) := ⟨rfl, rfl, rfl, by decide +kernel, rfl, by decide +kernel, by decide +kernel⟩
theorem ok_is_range (W : Wt K mg) : Fn P w K mg base 4 "is_range" [("thing" : Str)] m_is_range := by
  have sc := sc_is_range
  refine fn_ok W.t_is_range sc rfl (fun _ _ _ _ _ _ us hl => match us, hl with | [_], _ => rfl) fun f cdv A outer s H E hr => ?_
  exact (s_cons (s_if (PW.pt (dw_or (dt_not (dt_val (d_isi (nn := "tuple") rfl W.b_isinstance rfl W.b_tuple (by decide +kernel) (by decide) (dv 0)))) (dw_or1 (dt_not (dt_val (d_all rfl rfl W.b_all (da_cons (d_lc (own := [(("pair" : Str), 3)]) rfl sc.nd (i_seq (dv 0)) (blkOk_by (N := [("thing" : Str), ("near" : Str), ("far" : Str), ("pair" : Str)]) (sc := defScope s_is_range) (by decide +kernel)) (fun _ _ _ _ _ => g_name 3 sc.nd rfl (Or.inl rfl)) (fun _ _ _ _ _ => dts_nil) (fun _ _ _ _ _ => (d_fn (ok_is_span_pair W) hr (by decide) rfl (da_cons (dv 3) da_nil) (lnS ln0))) (by decide)) da_nil))))))) (s_one (s_ret d_bl)) s_nil) (s_one (s_ret (d_all rfl rfl W.b_all (da_cons (d_lc (own := [(("near" : Str), 1), (("far" : Str), 2)]) rfl sc.nd (i_zip rfl W.b_zip (da_cons (dv 0) (da_cons (d_slice (dv 0) po_i po_n) da_nil))) (blkOk_by (N := [("thing" : Str), ("near" : Str), ("far" : Str), ("pair" : Str)]) (sc := defScope s_is_range) (by decide +kernel)) (fun _ _ _ _ _ => g_tup rfl sc.nd (.cons rfl (Or.inl rfl) (Or.inr rfl) (.cons rfl (Or.inl rfl) (Or.inr rfl) Names.nil))) (fun _ _ _ _ _ => dts_nil) (fun _ _ _ _ _ => (d_and (d_notN (d_item (dv 1) d_int) d_non) (d_one (d_lt (hu64 hr) (d_item (dv 1) d_int) (d_item (dv 2) d_int))))) (by decide)) da_nil)))))
def g_pair_holds : Fs := (gRet (fAndV (f2 leD (f2 ixD (fV 0) (fC (.int 0))) (fV 1)) (fOrV (f2 isND (f2 ixD (fV 0) (fC (.int 1))) (fC .none)) (f2 ltD (fV 1) (f2 ixD (fV 0) (fC (.int 1)))))))
def m_pair_holds : List D → Option D := runD g_pair_holds 0
theorem sc_pair_holds : FnScope [("pair" : Str), ("version" : Str)] [("pair" : Str), ("version" : Str)] (defScope s_pair_holds) := ⟨rfl, rfl, rfl, by decide +kernel, rfl, by decide +kernel, by decide +kernel⟩
theorem ok_pair_holds (W : Wt K mg) : Fn P w K mg base 1 "pair_holds" [("pair" : Str), ("version" : Str)] m_pair_holds := by
  have sc := sc_pair_holds
  refine fn_ok W.t_pair_holds sc rfl (fun _ _ _ _ _ _ us hl => match us, hl with | [_, _], _ => rfl) fun f cdv A outer s H E hr => ?_
  exact (s_one (s_ret (d_and (d_le (hu64 hr) (d_item (dv 0) d_int) (dv 1)) (d_one (d_or (d_isN (d_item (dv 0) d_int) d_non) (d_one (d_lt (hu64 hr) (dv 1) (d_item (dv 0) d_int))))))))
def g_span_holds : Fs := (gRet (fCall anyM (faC (fLc (fSeq (fV 0)) (.name 2) fYes (fCall m_pair_holds (faC (fV 2) (faC (fV 1) faN))) [2]) faN)))
def m_span_holds : List D → Option D := runD g_span_holds 1
theorem sc_span_holds : FnScope [("span" : Str), ("version" : Str), ("pair" : Str)] [("span" : Str), ("version" : Str)] (defScope s_span_holds) := ⟨rfl, rfl, rfl, by decide +kernel, rfl, by decide +kernel, by decide +kernel⟩
theorem ok_span_holds (W : Wt K mg) : Fn P w K mg base 2 "span_holds" [("span" : Str), ("version" : Str)] m_span_holds := by
  have sc := sc_span_holds
  refine fn_ok W.t_span_holds sc rfl (fun _ _ _ _ _ _ us hl => match us, hl with | [_, _], _ => rfl) fun f cdv A outer s H E hr => ?_
  exact (s_one (s_ret (d_any rfl rfl W.b_any (da_cons (d_lc (own := [(("pair" : Str), 2)]) rfl sc.nd (i_seq (dv 0)) (blkOk_by (N := [("span" : Str), ("version" : Str), ("pair" : Str)]) (sc := defScope s_span_holds) (by decide +kernel)) (fun _ _ _ _ _ => g_name 2 sc.nd rfl (Or.inl rfl)) (fun _ _ _ _ _ => dts_nil) (fun _ _ _ _ _ => (d_fn (ok_pair_holds W) hr (by decide) rfl (da_cons (dv 2) (da_cons (dv 1) da_nil)) (lnS (lnS ln0)))) (by decide)) da_nil))))
def g_is_item : Fs := (gSeq (gIf (fOr (fNot (asB (fCall m_is_tuple_of (faC (fV 0) (faC (fC (.int 2)) faN))))) (fNot (asB (fCall m_is_name (faC (f2 ixD (fV 0) (fC (.int 0))) faN))))) (gRet (fC (.bool false))) gNx) (gRet (fOrV (f2 eqD (f2 ixD (fV 0) (fC (.int 1))) (fC (.str (PySem.Str.ofString "")))) (fCall m_is_name (faC (f2 ixD (fV 0) (fC (.int 1))) faN)))))
def m_is_item : List D → Option D := runD g_is_item 0
theorem sc_is_item : FnScope [("thing" : Str)] [("thing" : Str)] (defScope s_is_item) := ⟨rfl, rfl, rfl, by decide +kernel, rfl, by decide +kernel, by decide +kernel⟩
theorem ok_is_item (W : Wt K mg) : Fn P w K mg base 2 "is_item" [("thing" : Str)] m_is_item := by
  have sc := sc_is_item
  refine fn_ok W.t_is_item sc rfl (fun _ _ _ _ _ _ us hl => match us, hl with | [_], _ => rfl) fun f cdv A outer s H E hr => ?_
  exact (s_cons (s_if (PW.pt (dw_or (dt_not (dt_val (d_fn (ok_is_tuple_of W) hr (by decide) rfl (da_cons (dv 0) (da_cons d_int da_nil)) (lnS (lnS ln0))))) (dw_or1 (dt_not (dt_val (d_fn (ok_is_name W) hr (by decide) rfl (da_cons (d_item (dv 0) d_int) da_nil) (lnS ln0))))))) (s_one (s_ret d_bl)) s_nil) (s_one (s_ret (d_or (d_eq (hu64 hr) (d_item (dv 0) d_int) d_str) (d_one (d_fn (ok_is_name W) hr (by decide) rfl (da_cons (d_item (dv 0) d_int) da_nil) (lnS ln0)))))))
def g_is_term : Fs := (gRet (fAndV (fCall m_is_tuple_of (faC (fV 0) (faC (fC (.int 3)) faN))) (fAndV (fCall m_is_item (faC (f2 ixD (fV 0) (fC (.int 0))) faN)) (fAndV (f1 (isiD "bool") (f2 ixD (fV 0) (fC (.int 1)))) (fCall m_is_range (faC (f2 ixD (fV 0) (fC (.int 2))) faN))))))
def m_is_term : List D → Option D := runD g_is_term 0
theorem sc_is_term : FnScope [("thing" : Str)] [("thing" : Str)] (defScope s_is_term) := ⟨rfl, rfl, rfl, by decide +kernel, rfl, by decide +kernel, by decide +kernel⟩
theorem ok_is_term (W : Wt K mg) : Fn P w K mg base 5 "is_term" [("thing" : Str)] m_is_term := by
  have sc := sc_is_term
  refine fn_ok W.t_is_term sc rfl (fun _ _ _ _ _ _ us hl => match us, hl with | [_], _ => rfl) fun f cdv A outer s H E hr => ?_
  exact (s_one (s_ret (d_and (d_fn (ok_is_tuple_of W) hr (by decide) rfl (da_cons (dv 0) (da_cons d_int da_nil)) (lnS (lnS ln0))) (d_and (d_fn (ok_is_item W) hr (by decide) rfl (da_cons (d_item (dv 0) d_int) da_nil) (lnS ln0)) (d_and (d_isi (nn := "bool") rfl W.b_isinstance rfl W.b_bool (by decide +kernel) (by decide) (d_item (dv 0) d_int)) (d_one (d_fn (ok_is_range W) hr (by decide) rfl (da_cons (d_item (dv 0) d_int) da_nil) (lnS ln0))))))))
end
end Nf
set_option Elab.async false
set_option linter.all false
set_option maxRecDepth 100000
set_option maxHeartbeats 4000000
/-! enumerate of a tuple -/
namespace NfE
open PySem
open Sem (wp)
open AutoSeq1 (wpAny_loadPart')
theorem meets_enumerate_newT (l : Addr) (items : Array Value) (n : Nat) (dct : Option Addr) (sl : Array (Option Value)) :
    Meets (Builtin.«enumerate.__new__» ⟨[.type "enumerate", .ref l], []⟩) (fun _ R s => s.heap.get? l = some { cls := .type "tuple", dict := dct, data := .seq items n, slots := sl } ∧
      R (.ok (.ret (.ref (s.heap.push { cls := .type "tuple_iterator", data := .fields #[.ref l, .int 0 0] }).objs.size)))
        { s with heap := (s.heap.push { cls := .type "tuple_iterator", data := .fields #[.ref l, .int 0 0] }).push { cls := .type "enumerate", data := .fields #[.none, .bool false, .ref s.heap.objs.size, rawInt 0, .none, .none] } }) :=
  .of_wp fun prog w A R s h => by
    obtain ⟨hp, g, d, tk, os⟩ := s; obtain ⟨hl, h⟩ := h
    have hsub := sub_enumerate
    have hL : Heap.IsTuple (Shared.heap ⟨hp, g, d, tk, os⟩) l items := ⟨_, hl, rfl, n, rfl⟩
    wp_walk using wpAny_loadPart' hl
    refine wpAny_stack_any fun st => wpAny_pure ?_
    split
    · rename_i c _ _ _ _ _
      cases (c == Value.type "enumerate")
      · wp_walk using wpAny_loadPart' hl, wpAny_pyIter_tuple hL
        exact ⟨_, rfl, h⟩
      · wp_walk using wpAny_loadPart' hl, wpAny_pyIter_tuple hL
        exact ⟨_, rfl, h⟩
    · wp_walk using wpAny_loadPart' hl, wpAny_pyIter_tuple hL
      exact ⟨_, rfl, h⟩
section
variable {prog : Program} {w : World} {A : Around} {E : Value → Shared → Prop} {s : Shared}
theorem call_enumerate_tuple {l : Addr} {items : Array Value} {Q : Value → Shared → Prop} (hL : s.heap.IsTuple l items)
    (h : ∀ h', IsEnum h' (s.heap.objs.size + 1) s.heap.objs.size 0 .none → h'.IsTupleIter s.heap.objs.size l 0 → h'.objs.size = s.heap.objs.size + 2 →
      (∀ b o, s.heap.get? b = some o → h'.get? b = some o) → Q (.ref (s.heap.objs.size + 1)) { s with heap := h' }) :
    wpAny (model prog w) A (call (.type "enumerate") [.ref l]) Q E s := by
  obtain ⟨⟨c, dct, dt, sl⟩, hl, hc, n, hd⟩ := hL
  replace hc : c = .type "tuple" := hc
  replace hd : dt = .seq items n := hd
  subst hc hd
  refine callType_new F.called_enumerate (by decide) (F.typeCall_enumerate_1 _) (F.newCall_enumerate_1 _) (fun obj => F.args_object_init_2 obj _) F.entry_enumerate_new
    (meets_enumerate_newT l items n dct sl) ⟨hl, ?_⟩
  have hz : (s.heap.push { cls := .type "tuple_iterator", data := .fields #[.ref l, .int 0 0] }).objs.size = s.heap.objs.size + 1 := Heap.size_push ..
  show _ ∧ _
  rw [hz]
  have he : IsEnum ((s.heap.push { cls := .type "tuple_iterator", data := .fields #[.ref l, .int 0 0] }).push
      { cls := .type "enumerate", data := .fields #[.none, .bool false, .ref s.heap.objs.size, rawInt 0, .none, .none] }) (s.heap.objs.size + 1) s.heap.objs.size 0 .none := by
    have := Heap.get?_push_size (s.heap.push { cls := .type "tuple_iterator", data := .fields #[.ref l, .int 0 0] })
      (o := { cls := .type "enumerate", data := .fields #[.none, .bool false, .ref s.heap.objs.size, rawInt 0, .none, .none] }) rfl
    rw [hz] at this; exact this
  refine ⟨⟨_, he, rfl⟩, h _ he ⟨_, Heap.get?_push_of_some _ (Heap.get?_push_size _ rfl), rfl, rfl⟩ (by rw [Heap.size_push, hz]) fun b o x => Heap.get?_push_of_some _ (Heap.get?_push_of_some _ x)⟩
theorem pyNext_enum_endT {e it t : Addr} {i : Nat} {items : Array Value} {c : Int} {old : Value} {Q : Option Value → Shared → Prop} (hh : A.handled = none)
    (he : IsEnum s.heap e it c old) (hit : s.heap.IsTupleIter it t i) (ht : s.heap.IsTuple t items) (hx : items.size ≤ i)
    (hQ : ∀ h', Heap.ExtBut it s.heap h' → Q none { s with heap := h' }) : wpAny (model prog w) A (pyNext (.ref e)) Q E s := by
  have hT : s.TypeIs (.ref e) "enumerate" := ⟨_, he, rfl⟩
  unfold pyNext
  refine wpAny_bind (wpAny_attempt (wpAny_callSpecial?_slot (name := Str.ofString "__next__") hT F.slot_enumerate_next
    (wpAny_call_entry F.slot_enumerate_next hT F.entry_enumerate_next ?_ (F.args_enumerate_next_1 _))))
  show wpAny _ _ (field (.ref e) 2 >>= _) _ _ _
  refine wpAny_bind (wpAny_field he rfl (x := .ref it) rfl ?_)
  refine wpAny_bind (wpAny_nextOf_tuple_end (A := A.in1) hh hit ht (by simp [hx]) fun h' x he' hx' => ?_)
  obtain ⟨o, ho, hc⟩ := hx'
  refine wpAny_bind (wpAny_isInstance (T := "StopIteration") (b := true) ⟨o, ho, hc⟩ isSubtype_stop ?_)
  exact wpAny_pure (hQ _ he')
end
end NfE
namespace Nf
open PySem PySem.Spec L2
/-- the tuple at a, each item in a new pair with its place -/
def IteT (K : PySem.W.Frag) (a : Addr) : It :=
  ⟨fun i H => ∃ (xs : List V) (x : V), SqT K H a xs ∧ xs[i]? = some x, fun i H v H' => ∃ T x, v = .ref T ∧ H T = none ∧ H' = upd H T (.tup [.int (i : Nat), x]) ∧ ∀ xs, SqT K H a xs → xs[i]? = some x, fun i H => ∃ xs : List V, SqT K H a xs ∧ xs.length ≤ i⟩
theorem turn_enumT {P : Program} {w : World} {K : PySem.W.Frag} {elts : List Expr} {kk : Nat} {tpos : Pos} (a e it : Addr) :
    Turn P w K (.Tuple elts kk tpos) (IteT K a) [e, it] e (fun i h => (∃ old, IsEnum h e it ((i : Nat) : Int) old) ∧ h.IsTupleIter it a i ∧ e ≠ it ∧ e ≠ a ∧ a ≠ it) where
  mem := by simp
  obj := fun i h st b hb => by
    obtain ⟨⟨old, he⟩, ⟨o, ho, hc, hd⟩, _⟩ := st
    have e' : b = e ∨ b = it := by simpa using hb
    rcases e' with z | z
    · rw [z]; exact ⟨_, he, fun v q => nomatch q⟩
    · rw [z]; exact ⟨o, ho, fun v q => by rw [hd] at q; cases q⟩
  keep := fun i h h' st k => let ⟨⟨old, he⟩, hi, hne⟩ := st; ⟨⟨old, k e (by simp) _ he⟩, hi.at fun o q => k it (by simp) o q, hne⟩
  item := by
    intro X hP hw hK hc i pins s σ H E I hf st hg
    subst hP hw hK
    obtain ⟨⟨old, he⟩, hit, hne, hea, hai⟩ := st
    obtain ⟨xs, x, hq, hx⟩ := hg
    obtain ⟨its, rv, p, hz⟩ := I.tuple hq
    obtain ⟨u, hu, ru⟩ := rv.get hx
    have hel : e < s.heap.objs.size := Heap.lt_size he
    have hil : it < s.heap.objs.size := by obtain ⟨_, q, _⟩ := hit; exact Heap.lt_size q
    have hlt : i < its.toArray.size := by
      obtain ⟨q, _⟩ := List.getElem?_eq_some_iff.mp hu
      simpa using q
    refine wpAny_pyNext_enum_itemC (Draws.tuple (A := X.A.in1) (I.ok.hd hc) it a hai its.toArray) he ⟨hit, p⟩ hlt hne (by simp [hne, hea]) fun x' h' tk hx' ho st' hT hsz hk => ?_
    obtain ⟨hit', _⟩ := st'
    have ex : x' = u := by
      have e1 : its.toArray[i]? = some x' := hx'
      have e2 : its.toArray[i]? = some u := by simpa using hu
      rw [e2] at e1
      exact (Option.some.inj e1).symm
    subst ex
    refine ⟨_, rfl, wpAny_letOwnedTupleGo_enum (s := { s with heap := h', toks := tk + 1 }) ho fun h'' he' sb => ?_⟩
    have hT2 : h''.get? s.heap.objs.size = some { cls := .type "tuple", data := .seq #[.int i tk, x'] } := (sb.2 _ (Nat.ne_of_gt hel)).trans hT
    have new : ObjOk X.prog X.w (upd H s.heap.objs.size (.tup [.int (i : Nat), x])) h'' s.heap.objs.size (.tup [.int (i : Nat), x]) :=
      ⟨by show 2 ≤ sizeLine; decide, [.int i tk, x'], .cons ⟨_, rfl⟩ (.cons ru .nil), ⟨_, hT2, rfl, _, rfl⟩⟩
    have I1 : Inv X pins σ (upd H s.heap.objs.size (.tup [.int (i : Nat), x])) { s with heap := h'', toks := tk + 1 } :=
      I.turnedNew (ch := [e, it]) (fun b ob hb q => (sb.2 b (fun z => hb (by simp [z]))).trans (hk b ob (fun z => hb (by simp [z])) (fun z => hb (by simp [z])) q)) hf (Nat.le_refl _) new
    refine ⟨.ref s.heap.objs.size, _, I1, rfl, ⟨_, x, rfl, I.hok.fresh (Nat.le_refl _), rfl, fun ys hy => by rw [I.tuple_inj hy hq]; exact hx⟩, ⟨⟨x', ?_⟩, hit'.at fun o q => (sb.2 it (Ne.symm hne)).trans q, hne, hea, hai⟩, fun b hb => ?_⟩
    · have e1 : ((i + 1 : Nat) : Int) = (i : Int) + 1 := by omega
      rw [e1]; exact he'
    · have hb' : b < s.heap.objs.size := by
        have e' : b = e ∨ b = it := by simpa using hb
        rcases e' with z | z
        · rw [z]; exact hel
        · rw [z]; exact hil
      rw [upd_ne (Nat.ne_of_lt hb')]
      exact (hf b hb).1
  done := by
    intro X hP hw hK hc i pins s σ H E I hf st hg
    subst hP hw hK
    obtain ⟨⟨old, he⟩, hit, hne, hea, hai⟩ := st
    obtain ⟨xs, hq, hx⟩ := hg
    obtain ⟨its, rv, p, hz⟩ := I.tuple hq
    obtain ⟨f0, f1, f2, f3, f4, f5⟩ := hf it (by simp)
    have hl := rv.length
    have hsz : its.toArray.size ≤ i := by simp; omega
    -- the items are gone: the iterator stands at i, at or behind their number
    exact NfE.pyNext_enum_endT (I.ok.hd hc) he hit p hsz fun h' eb => ⟨rfl, I.turned (t' := s.toks) (fun b o hb q => eb b o hb q) f0 f1 f3 f4 f5⟩
  self := fun A i s Q E st h => let ⟨⟨_, he⟩, _⟩ := st; wpAny_pyIter_enum he h
def iEnumA (K : PySem.W.Frag) (ta : TA) : TI := fun σ H R => ta σ H fun vs H1 => ∃ a xs, vs = [.ref a] ∧ ((SqL K H1 a xs ∧ R (Ite K a) H1) ∨ (SqT K H1 a xs ∧ R (IteT K a) H1))
theorem pi_enumA {X : Cx} {e : Expr} {ta : TA} {p pos tpos : Pos} {elts : List Expr} {kk : Nat} (hg : Gl X "enumerate") (hm : X.mg "enumerate" = none) (ha : PA X [e] ta) (hs : starEach [e] X.env = [(false, eval e X.env)] := by rfl) :
    PI X (.Tuple elts kk tpos) (.Call (.Name "enumerate" p) [e] [] pos) (iEnumA X.K ta) := by
  refine ⟨fun pins s σ H R I h => ?_⟩
  refine PyProof.Rows.Call_ (ld_blt I hg hm PyProof.Rows.boot_enumerate (PyProof.Rows.callWith_type1 (thn (ha.run pos pins s σ H _ I h) fun us s1 ⟨vs, H1, I1, r1, q1⟩ => ?_) hs rfl))
  obtain ⟨a, xs, ex, q1⟩ := q1
  subst ex
  cases r1 with
  | cons r rr =>
    cases rr
    cases r
    have hfp : ∀ b ∈ [s1.heap.objs.size + 1, s1.heap.objs.size], FpOk X pins H1 b := fun b hb => by
      have e' : b = s1.heap.objs.size + 1 ∨ b = s1.heap.objs.size := by simpa using hb
      have hle : s1.heap.objs.size ≤ b := by
        rcases e' with z | z
        · rw [z]; exact Nat.le_add_right _ _
        · rw [z]; exact Nat.le_refl _
      exact I1.fpOk hle (I1.hok.fresh hle)
    rcases q1 with ⟨hq, q⟩ | ⟨hq, q⟩
    · obtain ⟨its, rv, p', hz⟩ := I1.list hq
      refine call_enumerate_list p'.isList fun h' he hit hsz hk => wpAny_pyIter_enum he ?_
      have I2 : Inv X pins σ H1 { s1 with heap := h' } := I1.kept (t' := s1.toks) hk
      exact ⟨s1.heap.objs.size + 1, [s1.heap.objs.size + 1, s1.heap.objs.size], _, _, H1, rfl, I2, turn_enum a (s1.heap.objs.size + 1) s1.heap.objs.size, ⟨⟨.none, he⟩, hit, Nat.succ_ne_self _⟩, hfp, q⟩
    · obtain ⟨its, rv, p', hz⟩ := I1.tuple hq
      have hal : a < s1.heap.objs.size := by obtain ⟨o, z, _⟩ := id p'; exact Heap.lt_size z
      refine NfE.call_enumerate_tuple p' fun h' he hit hsz hk => wpAny_pyIter_enum he ?_
      have I2 : Inv X pins σ H1 { s1 with heap := h' } := I1.kept (t' := s1.toks) hk
      exact ⟨s1.heap.objs.size + 1, [s1.heap.objs.size + 1, s1.heap.objs.size], _, _, H1, rfl, I2, turn_enumT a (s1.heap.objs.size + 1) s1.heap.objs.size, ⟨⟨.none, he⟩, hit, Nat.succ_ne_self _, Nat.ne_of_gt (Nat.lt_succ_of_lt hal), Nat.ne_of_lt hal⟩, hfp, q⟩
def numbered : Nat → List D → List D
  | _, [] => []
  | i, x :: xs => .tuple [.int i, x] :: numbered (i + 1) xs
theorem numbered_at : ∀ {xs : List D} {n i : Nat} {d : D}, (numbered n xs)[i]? = some d → ∃ x, xs[i]? = some x ∧ d = .tuple [.int ((n + i : Nat) : Int), x]
  | x :: xs, n, 0, d, h => by
    simp only [numbered, List.getElem?_cons_zero, Option.some.injEq] at h
    exact ⟨x, rfl, h.symm⟩
  | x :: xs, n, i + 1, d, h => by
    simp only [numbered, List.getElem?_cons_succ] at h
    obtain ⟨y, h1, h2⟩ := numbered_at h
    refine ⟨y, by simpa using h1, ?_⟩
    rw [h2, show n + 1 + i = n + (i + 1) by omega]
  | [], _, _, _, h => by simp [numbered] at h
theorem numbered_len : ∀ (n : Nat) (xs : List D), (numbered n xs).length = xs.length
  | _, [] => rfl
  | n, x :: xs => by simp only [numbered, List.length_cons, numbered_len (n + 1) xs]
def enumA : List D → Option (List D)
  | [.list xs] => some (numbered 0 xs)
  | [.tuple xs] => some (numbered 0 xs)
  | _ => none
def fEnum (g : Fa) : Fi := fun ds => (g ds).bind enumA
theorem it_enumL {K : PySem.W.Frag} {T : List Addr} {H : Hp} {a : Addr} {vs : List V} {xs : List D} (h : LsT T H a vs) (r : RpA K T H vs xs) : ItD K T (Ite K a) (numbered 0 xs) H := by
  intro T' H' s i
  have h' := h.step s
  have r' := r.step s
  refine ⟨fun d hd => ?_, fun e => ?_⟩
  · obtain ⟨x, hx, rfl⟩ := numbered_at hd
    obtain ⟨v, hv, rv⟩ := r'.get hx
    refine ⟨⟨vs, v, h'.sq, hv⟩, fun u H'' z => ?_⟩
    obtain ⟨t, v', rfl, ht, rfl, z1⟩ := z
    have e1 := z1 vs h'.sq
    rw [hv] at e1
    cases e1
    rw [Nat.zero_add]
    exact ⟨Same.new ht, Rp.newT (.cons (.int _) (.cons rv .nil)) s.dom ht⟩
  · refine ⟨vs, h'.sq, ?_⟩
    rw [r'.length, e, numbered_len]
    exact Nat.le_refl _
theorem it_enumT {K : PySem.W.Frag} {T : List Addr} {H : Hp} {a : Addr} {vs : List V} {xs : List D} (h : TpT K T H a vs) (r : RpA K T H vs xs) : ItD K T (IteT K a) (numbered 0 xs) H := by
  intro T' H' s i
  have h' := h.step s
  have r' := r.step s
  refine ⟨fun d hd => ?_, fun e => ?_⟩
  · obtain ⟨x, hx, rfl⟩ := numbered_at hd
    obtain ⟨v, hv, rv⟩ := r'.get hx
    refine ⟨⟨vs, v, h'.sq, hv⟩, fun u H'' z => ?_⟩
    obtain ⟨t, v', rfl, ht, rfl, z1⟩ := z
    have e1 := z1 vs h'.sq
    rw [hv] at e1
    cases e1
    rw [Nat.zero_add]
    exact ⟨Same.new ht, Rp.newT (.cons (.int _) (.cons rv .nil)) s.dom ht⟩
  · refine ⟨vs, h'.sq, ?_⟩
    rw [r'.length, e, numbered_len]
    exact Nat.le_refl _
theorem i_enum {X : Cx} {a : Expr} {g : Fa} {elts : List Expr} {kk : Nat} {p pos tpos : Pos} (hg : Gl X "enumerate") (hm : X.mg "enumerate" = none) (ha : PA X [a] (tDA X.K g)) (hs : starEach [a] X.env = [(false, eval a X.env)] := by rfl) : PI X (.Tuple elts kk tpos) (.Call (.Name "enumerate" p) [a] [] pos) (tI X.K (fEnum g)) :=
  (pi_enumA hg hm ha hs).imp fun σ H R ⟨T, ds, xs, S, e, q⟩ => by
    unfold fEnum at e
    cases ef : g ds with
    | none => rw [ef] at e; cases e
    | some l =>
      rw [ef] at e
      replace e : enumA l = some xs := e
      refine ⟨T, ds, l, S, ef, fun vs H1 s1 r1 => ?_⟩
      unfold enumA at e
      split at e
      · cases e
        cases r1 with
        | cons r2 r3 =>
          cases r3
          cases r2 with
          | lst h1 h2 => exact ⟨_, _, rfl, .inl ⟨h1.sq, q _ H1 s1 (it_enumL h1 h2)⟩⟩
      · cases e
        cases r1 with
        | cons r2 r3 =>
          cases r3
          cases r2 with
          | tup h1 h2 => exact ⟨_, _, rfl, .inr ⟨h1.sq, q _ H1 s1 (it_enumT h1 h2)⟩⟩
      · cases e
end Nf
set_option Elab.async false
set_option linter.all false
set_option maxRecDepth 100000
set_option maxHeartbeats 4000000
/-! rows of whole numbers: sets, sorted -/
namespace Nf
open PySem PySem.Spec L2
/-! ### plain -/
/-- strictly ascending, each once -/
def insU (x : List Int) : List (List Int) → List (List Int)
  | [] => [x]
  | y :: ys => if x < y then x :: y :: ys else if x = y then y :: ys else y :: insU x ys
def sortU (xs : List (List Int)) : List (List Int) := xs.foldr insU []
theorem mem_insU {x z : List Int} : ∀ {ys : List (List Int)}, z ∈ insU x ys ↔ z = x ∨ z ∈ ys
  | [] => by simp [insU]
  | y :: ys => by
    unfold insU
    split
    · simp
    · split
      · rename_i h
        subst h
        simp
      · rw [List.mem_cons, mem_insU, List.mem_cons]
        constructor
        · rintro (h | h | h) <;> simp [h]
        · rintro (h | h | h) <;> simp [h]
theorem mem_sortU {z : List Int} : ∀ {xs : List (List Int)}, z ∈ sortU xs ↔ z ∈ xs
  | [] => by simp [sortU]
  | x :: xs => by
    show z ∈ insU x (sortU xs) ↔ _
    rw [mem_insU, mem_sortU, List.mem_cons]
theorem lt_tri (x y : List Int) (h : ¬ x < y) (n : x ≠ y) : y < x := by
  rcases Decidable.em (y < x) with c | c
  · exact c
  · exact absurd (List.le_antisymm (List.not_lt.mp c) (List.not_lt.mp h)) n
theorem insU_sorted {x : List Int} : ∀ {ys : List (List Int)}, ys.Pairwise (· < ·) → (insU x ys).Pairwise (· < ·)
  | [], _ => by simp [insU]
  | y :: ys, h => by
    obtain ⟨h1, h2⟩ := List.pairwise_cons.mp h
    unfold insU
    split
    · rename_i hl
      refine List.pairwise_cons.mpr ⟨fun z hz => ?_, h⟩
      rcases List.mem_cons.mp hz with e | e
      · rw [e]; exact hl
      · exact List.lt_trans hl (h1 z e)
    · split
      · exact h
      · rename_i n1 n2
        refine List.pairwise_cons.mpr ⟨fun z hz => ?_, insU_sorted h2⟩
        rcases mem_insU.mp hz with e | e
        · rw [e]; exact lt_tri x y n1 n2
        · exact h1 z e
theorem sortU_sorted : ∀ xs : List (List Int), (sortU xs).Pairwise (· < ·)
  | [] => List.Pairwise.nil
  | x :: xs => insU_sorted (sortU_sorted xs)
theorem li_irr (x : List Int) : ¬ x < x := List.lt_irrefl x
/-- one strictly ascending list has these members -/
theorem asc_one : ∀ {xs ys : List (List Int)}, xs.Pairwise (· < ·) → ys.Pairwise (· < ·) → (∀ z, z ∈ xs ↔ z ∈ ys) → xs = ys
  | [], [], _, _, _ => rfl
  | [], y :: ys, _, _, h => absurd ((h y).mpr List.mem_cons_self) (by simp)
  | x :: xs, [], _, _, h => absurd ((h x).mp List.mem_cons_self) (by simp)
  | x :: xs, y :: ys, h1, h2, h => by
    obtain ⟨a1, a2⟩ := List.pairwise_cons.mp h1
    obtain ⟨b1, b2⟩ := List.pairwise_cons.mp h2
    have e : x = y := by
      rcases List.mem_cons.mp ((h x).mp List.mem_cons_self) with c | c
      · exact c
      · rcases List.mem_cons.mp ((h y).mpr List.mem_cons_self) with d | d
        · exact d.symm
        · exact absurd (List.lt_trans (b1 x c) (a1 y d)) (li_irr y)
    subst e
    congr 1
    refine asc_one a2 b2 fun z => ⟨fun hz => ?_, fun hz => ?_⟩
    · rcases List.mem_cons.mp ((h z).mp (List.mem_cons_of_mem _ hz)) with c | c
      · rw [c] at hz; exact absurd (a1 _ hz) (li_irr _)
      · exact c
    · rcases List.mem_cons.mp ((h z).mpr (List.mem_cons_of_mem _ hz)) with c | c
      · rw [c] at hz; exact absurd (b1 _ hz) (li_irr _)
      · exact c
/-- ascending and each once: strictly -/
theorem asc_strict {xs : List (List Int)} (h : xs.Pairwise (fun a b => ¬ b < a)) (n : xs.Nodup) : xs.Pairwise (· < ·) := by
  induction xs with
  | nil => exact .nil
  | cons x xs ih =>
    obtain ⟨a1, a2⟩ := List.pairwise_cons.mp h
    obtain ⟨b1, b2⟩ := List.nodup_cons.mp n
    refine List.pairwise_cons.mpr ⟨fun z hz => ?_, ih a2 b2⟩
    exact lt_tri z x (a1 z hz) (fun e => b1 (by rw [← e]; exact hz))
/-! ### data of rows -/
def encR (r : List Int) : D := .tuple (r.map .int)
theorem dataLt_encR (x y : List Int) : PySem.W.dataLt (encR x) (encR y) = decide (x < y) := by
  unfold encR
  rw [PySem.W.dataLt_tuple]
  exact PySem.W.dataLt_ints x y
theorem alike_encR (x y : List Int) : PySem.W.alike (encR x) (encR y) = true := by
  unfold encR
  simp [PySem.W.alike, PySem.W.alike_ints]
theorem depth_encR (x : List Int) : (encR x).depth = 1 := by
  unfold encR
  simp [PyData.depth, PySem.W.depth_ints]
/-- a row out of a datum -/
def rowD : D → Option (List Int)
  | .tuple xs => intsD xs
  | _ => none
theorem rowD_eq {d : D} {r : List Int} (h : rowD d = some r) : d = encR r := by
  unfold rowD at h
  split at h
  · unfold encR
    rw [ints_map h]
  · cases h
theorem intsD_map : ∀ r : List Int, intsD (r.map .int) = some r
  | [] => rfl
  | x :: r => by
    show (intsD (r.map .int)).map (x :: ·) = _
    rw [intsD_map r]; rfl
theorem rowD_enc (r : List Int) : rowD (encR r) = some r := intsD_map r
def rowsD : List D → Option (List (List Int))
  | [] => some []
  | d :: ds => (rowD d).bind fun r => (rowsD ds).bind fun rs => some (r :: rs)
theorem rowsD_eq : ∀ {ds : List D} {rs : List (List Int)}, rowsD ds = some rs → ds = rs.map encR
  | [], _, h => by cases h; rfl
  | d :: ds, rs, h => by
    have h' : ((rowD d).bind fun r => (rowsD ds).bind fun rs => some (r :: rs)) = some rs := h
    cases e1 : rowD d with
    | none => rw [e1] at h'; cases h'
    | some r =>
      cases e2 : rowsD ds with
      | none => rw [e1, e2] at h'; cases h'
      | some rs' =>
        rw [e1, e2] at h'
        cases h'
        rw [rowD_eq e1, rowsD_eq e2]
        rfl
theorem rowsD_enc : ∀ rs : List (List Int), rowsD (rs.map encR) = some rs
  | [] => rfl
  | r :: rs => by
    show ((rowD (encR r)).bind fun r => (rowsD (rs.map encR)).bind fun rs => some (r :: rs)) = _
    rw [rowD_enc, rowsD_enc rs]; rfl
def goodRows (rs : List (List Int)) : Bool := decide (rs.length < 64) && rs.all fun r => !r.isEmpty
theorem goodRows_of {rs : List (List Int)} (h : goodRows rs = true) : rs.length < 64 ∧ ∀ r ∈ rs, r ≠ [] := by
  unfold goodRows at h
  rw [Bool.and_eq_true] at h
  refine ⟨of_decide_eq_true h.1, fun r hr e => ?_⟩
  have := List.all_eq_true.mp h.2 r hr
  rw [e] at this
  cases this
/-! ### the rules -/
theorem reads_ints {h : Heap} : ∀ {k : List Int} {us : List Value}, PyProof.Rows.IntsAre us k → ReadsAll h us (k.map PyData.int) []
  | _, _, .nil => .nil
  | _, _, .cons n t r => ReadsAll.cons (as := []) (bs := []) (.int n t) (reads_ints r)
theorem reads_row {h : Heap} {v : Value} {k : List Int} (x : TS.TupInts h v k) : Reads h v (encR k) [] := by
  obtain ⟨a, xs, rfl, ⟨o, ho, hc, n, hd⟩, hi⟩ := x
  exact .tuple ho hc hd (reads_ints hi)
theorem each_refs {R : Value → AR → Prop} : ∀ {ks : List AR}, (∀ p ∈ ks, R (.ref p.1) p) → PySem.W.EachIs R (ks.map fun p => Value.ref p.1) ks
  | [], _ => .nil
  | p :: ks, h => .cons (h p List.mem_cons_self) (each_refs fun q hq => h q (List.mem_cons_of_mem _ hq))
theorem refs_each : ∀ {vs : List Value} {ks : List AR}, PySem.W.EachIs (fun v (p : AR) => v = Value.ref p.1) vs ks → vs = ks.map fun p => Value.ref p.1
  | _, _, .nil => rfl
  | _, _, .cons h t => by rw [h, refs_each t]; rfl
def encA (p : AR) : D := encR p.2
theorem alike_A (ks : List AR) : PySem.W.AllAlike (ks.map encA) := .of fun b b' => alike_encR b.2 b'.2
theorem sortable_A {ks : List AR} (h : ∀ p ∈ ks, p.2 ≠ []) : PySem.W.Sortable (ks.map encA) := .inl fun d hd => by
  obtain ⟨p, hp, rfl⟩ := List.mem_map.mp hd
  obtain ⟨a, r⟩ := p
  cases r with
  | nil => exact absurd rfl (h _ hp)
  | cons x r => exact ⟨.int x, r.map .int, rfl⟩
theorem merge_A (ks : List AR) : (ks.mergeSort (PySem.W.dataLe false encA)).Perm ks ∧ (ks.mergeSort (PySem.W.dataLe false encA)).Pairwise fun p q => ¬ q.2 < p.2 := by
  refine ⟨List.mergeSort_perm _ _, (PySem.W.sort_pairwise (PySem.W.sortLe_total _ _ _) ks).imp fun {a b} h => ?_⟩
  have h' : (!PySem.W.dataLt (encA b) (encA a)) = true := h
  unfold encA at h'
  rw [dataLt_encR] at h'
  simpa using h'
section
variable {P : Program} {w : World} {A : Around} {E : Value → Shared → Prop} {s : Shared}
theorem each_refs2 {R : Value → AR → Prop} {ks : List AR} {us : List Value} (e : ks.map (fun p => Value.ref p.1) = us) (h : ∀ p ∈ ks, R (.ref p.1) p) : PySem.W.EachIs R us ks := e ▸ each_refs h
/-- sorted(a set of rows) -/
theorem sorted_setA {a : Addr} {L : List AR} {es : Array (Int × Value)} {ep : Nat} {t : SetTable} {Q : Value → Shared → Prop} (R : SetTR P w s.heap a L es ep t) (hh : A.handled = none) (hu : A.units + 8 < cLine)
    (hB : ∀ p ∈ L, p.2 ≠ [])
    (hQ : ∀ s' p (out : Array Value) (c : Nat) (L' : List AR), (∀ b o, s.heap.get? b = some o → s'.heap.get? b = some o) → s'.gens = s.gens → s'.os = s.os → s.heap.objs.size ≤ p →
      s'.heap.get? p = some (PyProof.Rows.seqObj "list" out c) → out.toList = L'.map (fun q => Value.ref q.1) → L'.Perm L → (L'.Pairwise fun q r => ¬ r.2 < q.2) → Q (.ref p) s') :
    wpAny (model P w) A (call (.builtin "sorted") [.ref a]) Q E s := by
  obtain ⟨so, hso, hsex, hsd⟩ := R.ob
  have hfw := R.few
  have hszL := R.size
  refine Calls.call_function_entry PyProof.Rows.kind_sorted PyProof.Rows.plain_sorted PyProof.Rows.entry_sorted (PyProof.Rows.args_sorted1 _) ?_
  unfold Builtin.«sorted»
  refine wpAny_bind (m := checkCount "sorted" 1 1 _) (wpAny_pure ?_)
  refine wpAny_bind (collect_set (A := A.in1) hh ⟨so, hso, hsex.1, hsd⟩ R.fits (by unfold scanBound; omega) R.tab.ris R.led fun s1 us kp hz eg eo pm => ?_)
  have hvals : es.toList.map (·.2) = L.map fun q => Value.ref q.1 := by
    rw [R.rows]
    unfold rowsOf
    rw [List.map_map]; rfl
  rw [hvals] at pm
  obtain ⟨L1, pL1, eL1⟩ := L2.perm_lift (fun q : AR => Value.ref q.1) pm L rfl
  have hlen : us.length < 64 := by rw [pm.length_eq, List.length_map]; exact hfw
  refine wpAny_bind (wpAny_newList ?_ (by rw [sizeLine_eq]; omega))
  have hobj : (s1.heap.push (PyProof.Rows.seqObj "list" us.toArray 0)).get? s1.heap.objs.size = some (PyProof.Rows.seqObj "list" us.toArray 0) := Heap.get?_push_size _ rfl
  have hin : ∀ q ∈ L1, q ∈ L := fun q hq => pL1.mem_iff.mp hq
  have tups : ∀ q ∈ L1, TS.TupInts (s1.heap.push (PyProof.Rows.seqObj "list" us.toArray 0)) (.ref q.1) q.2 := fun q hq => tupInts_of (P := P) (w := w) (isT_keep (R.tup q (hin q hq)) fun b u e => Heap.get?_push_of_some _ (kp b u e))
  have er : PySem.W.EachIs (fun v p => ∃ as, Reads (s1.heap.push (PyProof.Rows.seqObj "list" us.toArray 0)) v (encA p) as ∧ s1.heap.objs.size ∉ as) us L1 := each_refs2 eL1 fun p hp => ⟨[], reads_row (tups p hp), by simp⟩
  have e0 : PySem.W.EachIs (fun v (p : AR) => v = Value.ref p.1) us L1 := each_refs2 eL1 fun p _ => rfl
  refine wpAny_bind (wpAny_holding (PySem.W.list_sort_data (s := { s1 with heap := s1.heap.push (PyProof.Rows.seqObj "list" us.toArray 0) }) (enc := encA) hobj e0 er (alike_A L1) (sortable_A fun p hp => hB p (hin p hp)) (by rw [← e0.length, sizeLine_eq]; omega)
    (fun p hp => by
      have hd1 : (encA p).depth = 1 := depth_encR p.2
      have hin1 : A.in1.units = A.units + 1 := rfl
      rw [hd1, hin1]
      omega) fun out hlo eo2 => ?_))
  obtain ⟨mp, mo⟩ := merge_A L1
  obtain ⟨c, hc⟩ := PyProof.Rows.sortedHeap_at (vs := us) (out := out.toArray) hobj
  refine wpAny_pure ⟨_, rfl, hQ _ s1.heap.objs.size out.toArray c _ (fun b u e => ?_) eg eo hz hc (by simpa using refs_each eo2) (mp.trans pL1) mo⟩
  have q := kp b u e
  have hlt := Heap.lt_size q
  show (PyProof.Rows.sortedHeap (s1.heap.push (PyProof.Rows.seqObj "list" us.toArray 0)) s1.heap.objs.size us out.toArray).get? b = some u
  rw [PyProof.Rows.sortedHeap_old (Nat.ne_of_lt hlt) (by rw [PyProof.Rows.size_push']; exact Nat.lt_succ_of_lt hlt)]
  exact Heap.get?_push_of_some _ q
end
section
variable {X : Cx}
def rSortSA (K : PySem.W.Frag) (P : Program) (w : World) : List V → Hp → VK → Prop := fun vs H Q => ∃ (a : Addr) (L : List AR), vs = [V.ref a] ∧ H a = some (SetTO P w a L) ∧ (∀ p ∈ L, SqT K H p.1 (p.2.map V.int)) ∧ (∀ p ∈ L, p.2 ≠ []) ∧
  ∀ (L' : List AR) (p : Addr), L'.Perm L → (L'.map (·.2)).Nodup → L'.length < 64 → (L'.Pairwise fun q r => ¬ r.2 < q.2) → H p = none → Q (.ref p) (upd H p (.lst (L'.map fun q => V.ref q.1)))
theorem cr_sortSA (hc : X.calm = true) (hu : X.A.units + 64 < cLine) : CallR X (.builtin "sorted") (rSortSA X.K X.prog X.w) := by
  intro pins s σ H vs us Q I r h
  obtain ⟨a, L, rfl, ha, hk, hB, q⟩ := h
  obtain ⟨es, ep, t, R⟩ := (show SetT0 X.prog X.w s.heap a L from (I.hok a _ ha).1).full fun p hp => I.isT (hk p hp)
  rw [Vals.ref1 r]
  refine sorted_setA R (I.ok.hd hc) (by omega) hB fun s' p out c L' k g o hp hg hout pm pw => ?_
  have hfew : L'.length < 64 := by rw [pm.length_eq]; exact R.few
  have hn : H p = none := I.hok.fresh hp
  have hv : Vals (L'.map fun q => V.ref q.1) out.toList := by rw [hout]; exact vals_of_refs L'
  have J : Inv X pins σ (upd H p (.lst (L'.map fun q => V.ref q.1))) { s with heap := s'.heap, gens := s'.gens, drawn := s'.drawn, toks := s'.toks } :=
    I.call (ch := []) (Un.laid k hp hn) (I.hok.laid k hp ⟨by rw [List.length_map, sizeLine_eq]; omega, out.toList, c, hv, hg⟩) (by rw [g]; exact I.bare) (fun _ z => nomatch z)
  have e : s' = { s with heap := s'.heap, gens := s'.gens, drawn := s'.drawn, toks := s'.toks } := by
    cases s'
    cases s
    cases o
    rfl
  rw [e]
  exact ⟨.ref p, _, J, rfl, q L' p pm ((pm.map (·.2)).nodup_iff.mpr R.nd) hfew pw hn⟩
/-- sorted(a list of rows) -/
def rSortLA (K : PySem.W.Frag) : List V → Hp → VK → Prop := fun vs H Q => ∃ (a : Addr) (L : List AR), vs = [V.ref a] ∧ SqL K H a (L.map fun p => V.ref p.1) ∧ (∀ p ∈ L, SqT K H p.1 (p.2.map V.int)) ∧ (∀ p ∈ L, p.2 ≠ []) ∧ L.length < 64 ∧
  ∀ (L' : List AR) (p : Addr), L'.Perm L → (L'.Pairwise fun q r => ¬ r.2 < q.2) → H p = none → Q (.ref p) (upd H p (.lst (L'.map fun q => V.ref q.1)))
theorem cr_sortLA (hu : X.A.units + 64 < cLine) : CallR X (.builtin "sorted") (rSortLA X.K) := by
  intro pins s σ H vs us Q I r h
  obtain ⟨a, L, rfl, hs, hk, hB, hL, q⟩ := h
  obtain ⟨its, rv, hl, hz⟩ := I.list hs
  rw [Vals.ref1 r]
  have ei : its = L.map fun p => Value.ref p.1 := refs_of_vals rv
  have e0 : PySem.W.EachIs (fun v (p : AR) => v = Value.ref p.1) its L := by
    rw [ei]
    exact each_refs fun p _ => rfl
  have er : PySem.W.EachIs (fun v p => ∃ as, Reads s.heap v (encA p) as) its L := by
    rw [ei]
    exact each_refs fun p hp => ⟨[], reads_row (tupI_raw I (hk p hp))⟩
  refine PySem.W.sorted_data (enc := encA) hl.isList e0 er (alike_A L) (sortable_A hB) (by rw [sizeLine_eq]; omega) (fun p hp => by
    have hd1 : (encA p).depth = 1 := depth_encR p.2
    rw [hd1]; omega) fun out hlo eo => ?_
  obtain ⟨mp, mo⟩ := merge_A L
  obtain ⟨ep, he'⟩ := PyProof.Rows.sortedAll_at s.heap its out.toArray
  have eout := refs_each eo
  have hlen : (L.mergeSort (PySem.W.dataLe false encA)).length < 64 := by rw [mp.length_eq]; exact hL
  refine ⟨.ref _, upd H (s.heap.objs.size + 1) (.lst ((L.mergeSort (PySem.W.dataLe false encA)).map fun p => V.ref p.1)), I.laid (t' := s.toks) (fun _ _ => PyProof.Rows.sortedAll_old) (Nat.le_succ _) ⟨by rw [List.length_map, sizeLine_eq]; omega, out, ep, by rw [eout]; exact vals_of_refs _, he'⟩, rfl,
    q _ _ mp mo (I.hok.fresh (Nat.le_succ _))⟩
/-! over data -/
/-- rows at their addresses -/
theorem rows_at {K : PySem.W.Frag} {T : List Addr} {H : Hp} : ∀ {rs : List (List Int)} {vs : List V}, RpA K T H vs (rs.map encR) → ∃ L : List AR, vs = L.map (fun p => V.ref p.1) ∧ L.map (·.2) = rs ∧ ∀ p ∈ L, TpT K T H p.1 (p.2.map V.int)
  | [], _, h => by cases h; exact ⟨[], rfl, rfl, fun _ z => nomatch z⟩
  | r :: rs, _, h => by
    have h' : RpA K T H _ (encR r :: rs.map encR) := h
    cases h' with
    | cons h1 h2 =>
      obtain ⟨L, e1, e2, e3⟩ := rows_at h2
      unfold encR at h1
      cases h1 with
      | @tup a xs _ t1 t2 =>
        have := rpA_ints t2
        subst this
        exact ⟨(a, r) :: L, by rw [e1]; rfl, by rw [List.map_cons, e2], fun p hp => (List.mem_cons.mp hp).elim (fun e => by rw [e]; exact t1) (e3 p)⟩
theorem ints_rp {K : PySem.W.Frag} {T : List Addr} {H : Hp} : ∀ r : List Int, RpA K T H (r.map V.int) (r.map PyData.int)
  | [] => .nil
  | x :: r => .cons (.int x) (ints_rp r)
theorem rows_rp {K : PySem.W.Frag} {T : List Addr} {H : Hp} : ∀ {L : List AR}, (∀ p ∈ L, TpT K T H p.1 (p.2.map V.int)) → RpA K T H (L.map fun p => V.ref p.1) ((L.map (·.2)).map encR)
  | [], _ => .nil
  | p :: L, h => .cons (.tup (h p List.mem_cons_self) (ints_rp p.2)) (rows_rp fun q hq => h q (List.mem_cons_of_mem _ hq))
/-- tuple(sorted(set(xs))) -/
def settleD : D → Option D
  | .list ds => (rowsD ds).bind fun rs => if goodRows rs then some (.tuple ((sortU rs).map encR)) else none
  | _ => none
theorem d_settle {e : Expr} {f : Fe} {j : Nat} {p1 p2 p3 q1 q2 q3 : Pos} (hc : X.calm = true) (hr : Room j X.A) (hg1 : Gl X "tuple") (hm1 : X.mg "tuple" = none) (hg2 : Gl X "sorted") (hm2 : X.mg "sorted" = none) (hg3 : Gl X "set") (hm3 : X.mg "set" = none) (he : PE X e (tD X.K f))
    (hs1 : starEach [e] X.env = (false, eval e X.env) :: starEach [] X.env := by rfl)
    (hs2 : starEach [.Call (.Name "set" p3) [e] [] q3] X.env = (false, eval (.Call (.Name "set" p3) [e] [] q3) X.env) :: starEach [] X.env := by rfl)
    (hs3 : starEach [.Call (.Name "sorted" p2) [.Call (.Name "set" p3) [e] [] q3] [] q2] X.env = (false, eval (.Call (.Name "sorted" p2) [.Call (.Name "set" p3) [e] [] q3] [] q2) X.env) :: starEach [] X.env := by rfl) :
    PE X (.Call (.Name "tuple" p1) [.Call (.Name "sorted" p2) [.Call (.Name "set" p3) [e] [] q3] [] q2] [] q1) (tD X.K (f1 settleD f)) :=
  (pe_callTy call_tuple_of hg1 hm1 (by decide +kernel) (pa_cons (pe_callB (cr_sortSA hc hr.units) hg2 hm2 (by decide +kernel) (pa_cons (pe_callTy (cr_setOfT hc hr.units) hg3 hm3 (by decide +kernel) (pa_cons he pa_nil hs1) (by decide) (by decide) hs1) pa_nil hs2) (by decide) (by decide) hs2) pa_nil hs3) (by decide) (by decide) hs3).imp fun σ H Q ⟨T, ds, d, S, e, q⟩ => by
    obtain ⟨x, e1, e2⟩ := f1_some e
    unfold settleD at e2
    split at e2
    · rename_i xs
      cases er : rowsD xs with
      | none => rw [er] at e2; cases e2
      | some rs =>
        rw [er] at e2
        replace e2 : (if goodRows rs then some (PyData.tuple ((sortU rs).map encR)) else none) = some d := e2
        split at e2
        · rename_i hg
          cases e2
          obtain ⟨g1, g2⟩ := goodRows_of hg
          have := rowsD_eq er
          subst this
          refine ⟨T, ds, _, S, e1, fun v H1 s1 r1 => ?_⟩
          have S1 := S.same s1
          cases r1 with
          | lst h1 h2 =>
            obtain ⟨L, rfl, rfl, e3⟩ := rows_at h2
            refine ⟨_, L, rfl, h1.sq, fun p hp => (e3 p hp).sq, by rw [List.length_map] at g1; exact g1, fun a L1 ha hL1 hL2 => ?_⟩
            have t1 := S1.dom
            have s2 : Same H1 (upd H1 a (SetTO X.prog X.w a L1)) := Same.new ha
            have r2 : ∀ p ∈ L1, TpT X.K T (upd H1 a (SetTO X.prog X.w a L1)) p.1 (p.2.map V.int) := fun p hp => (e3 p (hL1 p hp)).step (Step.same s2 t1)
            refine ⟨a, L1, rfl, upd_same, fun p hp => (r2 p hp).sq, fun p hp => g2 _ (List.mem_map.mpr ⟨p, hL1 p hp, rfl⟩), fun L' b pm nd h64 pw hb => ?_⟩
            have t2 := Same.dom s2 t1
            have s3 : Same _ (upd (upd H1 a (SetTO X.prog X.w a L1)) b (.lst (L'.map fun q => V.ref q.1))) := Same.new hb
            have r3 : ∀ p ∈ L', TpT X.K T (upd (upd H1 a (SetTO X.prog X.w a L1)) b (.lst (L'.map fun q => V.ref q.1))) p.1 (p.2.map V.int) := fun p hp => (r2 p (pm.mem_iff.mp hp)).step (Step.same s3 t2)
            have t3 := Same.dom s3 t2
            refine ⟨b, _, rfl, .inl ⟨SqL.of upd_same, fun l hl => ?_⟩⟩
            refine q _ _ (((s1.trans s2).trans s3).trans (Same.new hl)) ?_
            have e5 : L'.map (·.2) = sortU (L.map (·.2)) := by
              refine asc_one (asc_strict ?_ nd) (sortU_sorted _) fun z => ?_
              · exact List.pairwise_map.mpr pw
              · rw [mem_sortU]
                constructor
                · intro hz
                  obtain ⟨p, hp, rfl⟩ := List.mem_map.mp hz
                  exact List.mem_map.mpr ⟨p, hL1 p (pm.mem_iff.mp hp), rfl⟩
                · intro hz
                  obtain ⟨p, hp, rfl⟩ := List.mem_map.mp hz
                  exact (pm.map (·.2)).mem_iff.mpr (hL2 p hp)
            rw [← e5]
            exact Rp.newT (rows_rp r3) t3 hl
        · cases e2
    · cases e2
/-- sorted(a list of rows), strictly distinct -/
def sortD : List D → Option D
  | [.list ds] => (rowsD ds).bind fun rs => if goodRows rs && decide rs.Nodup then some (.list ((sortU rs).map encR)) else none
  | _ => none
theorem r_sort {K : PySem.W.Frag} : RAD K (rSortLA K) sortD := by
  intro T H vs xs d Q t r e q
  unfold sortD at e
  split at e
  · rename_i xs
    cases er : rowsD xs with
    | none => rw [er] at e; cases e
    | some rs =>
      rw [er] at e
      replace e : (if goodRows rs && decide rs.Nodup then some (PyData.list ((sortU rs).map encR)) else none) = some d := e
      split at e
      · rename_i hg
        cases e
        rw [Bool.and_eq_true] at hg
        obtain ⟨g1, g2⟩ := goodRows_of hg.1
        have nd := of_decide_eq_true hg.2
        have := rowsD_eq er
        subst this
        cases r with
        | cons r1 r2 =>
          cases r2
          cases r1 with
          | lst h1 h2 =>
            obtain ⟨L, rfl, rfl, e3⟩ := rows_at h2
            refine ⟨_, L, rfl, h1.sq, fun p hp => (e3 p hp).sq, fun p hp => g2 _ (List.mem_map.mpr ⟨p, hp, rfl⟩), by rw [List.length_map] at g1; exact g1, fun L' p pm pw hp => ?_⟩
            refine q _ _ (Same.new hp) ?_
            have e5 : L'.map (·.2) = sortU (L.map (·.2)) := by
              refine asc_one (asc_strict ?_ ((pm.map (·.2)).nodup_iff.mpr nd)) (sortU_sorted _) fun z => ?_
              · exact List.pairwise_map.mpr pw
              · rw [mem_sortU]
                exact (pm.map (·.2)).mem_iff
            rw [← e5]
            exact Rp.newL (rows_rp fun p hp => e3 p (pm.mem_iff.mp hp)) t hp
      · cases e
  · cases e
variable {e : Expr} {g : Fa} {p pos : Pos}
theorem d_sorted (hu : X.A.units + 64 < cLine) (hg : Gl X "sorted") (hm : X.mg "sorted" = none) (ha : PA X [e] (tDA X.K g)) (hs : starEach [e] X.env = (false, eval e X.env) :: starEach [] X.env := by rfl) : PE X (.Call (.Name "sorted" p) [e] [] pos) (tD X.K (fCall sortD g)) := d_callB (cr_sortLA hu) r_sort hg hm (by decide +kernel) ha (by decide) (by decide) hs
end
end Nf
set_option Elab.async false
set_option linter.all false
set_option maxRecDepth 100000
set_option maxHeartbeats 4000000
/-! t[::-1], t a tuple -/
namespace NfR
open PySem PyProof.Rows HT
section
variable {prog : Program} {w : World} {A : Around} {E : Value → Shared → Prop} {s : Shared}
theorem back_bounds (n : Nat) : Builtin.Slice.sliceAdjust none none (-1) (n : Int) = ((n : Int) - 1, (-1 : Int)) := rfl
theorem back_places (n : Nat) : Builtin.Slice.slicePlaces ((n : Int) - 1) (-1) (-1) = n := by
  unfold Builtin.Slice.slicePlaces
  have h1 : ¬ ((-1 : Int) > 0) := by omega
  have h2 : (-(-1 : Int)) = 1 := by omega
  simp only [h1, if_false, h2, Int.ediv_one]
  split <;> omega
theorem fm_congr {α β : Type} {f g : α → Option β} : ∀ {l : List α}, (∀ x ∈ l, f x = g x) → l.filterMap f = l.filterMap g
  | [], _ => rfl
  | x :: l, h => by
    rw [List.filterMap_cons, List.filterMap_cons, h x List.mem_cons_self, fm_congr fun y hy => h y (List.mem_cons_of_mem _ hy)]
theorem back_pick (items : Array Value) : ((List.range items.size).filterMap fun (k : Nat) => items[(((items.size : Int) - 1) + (k : Int) * (-1)).toNat]?).toArray = items.toList.reverse.toArray := by
  congr 1
  have e1 : (List.range items.size).filterMap (fun (k : Nat) => items[(((items.size : Int) - 1) + (k : Int) * (-1)).toNat]?) = (List.range items.size).filterMap (fun (k : Nat) => items.toList.reverse[k]?) := by
    refine fm_congr fun k hk => ?_
    have hlt : k < items.size := List.mem_range.mp hk
    have e2 : (((items.size : Int) - 1) + (k : Int) * (-1)).toNat = items.size - 1 - k := by omega
    rw [e2, List.getElem?_reverse (by rw [Array.length_toList]; exact hlt), Array.length_toList, Array.getElem?_toList]
  rw [e1]
  have e3 : ∀ (l : List Value), (List.range l.length).filterMap (fun k => l[k]?) = l := fun l => by
    induction l with
    | nil => rfl
    | cons x l ih =>
      rw [List.length_cons, List.range_succ_eq_map, List.filterMap_cons, List.filterMap_map]
      show x :: (List.range l.length).filterMap (fun k => l[k]?) = x :: l
      rw [ih]
  have := e3 items.toList.reverse
  rw [List.length_reverse, Array.length_toList] at this
  exact this
theorem back_applied {sl : Addr} {vs : Value} {n : Nat} {Q : Int × Int × Nat → Shared → Prop} (hs : s.heap.IsSliceOf sl .none .none vs) (ps : IsPart vs (some (-1)))
    (h : Q ((n : Int) - 1, -1, n) s) : wpAny (model prog w) A (Builtin.Slice.sliceApplied (.ref sl) (pure (n : Int))) Q E s := by
  obtain ⟨so, hso, hsc, hsd⟩ := id hs
  unfold Builtin.Slice.sliceApplied Builtin.Slice.sliceFields
  refine wpAny_bind (wpAny_bind (wpAny_field hso hsd (x := .none) rfl (wpAny_bind (wpAny_field hso hsd (x := .none) rfl (wpAny_bind (wpAny_field hso hsd (x := vs) rfl (wpAny_pure ?_)))))))
  refine wpAny_bind (slicePart_ ps ?_)
  show wpAny _ _ (if ((-1 : Int) == 0) = true then _ else _) _ _ s
  rw [if_neg (by decide)]
  refine wpAny_bind (slicePart_none (wpAny_bind (slicePart_none (wpAny_bind (wpAny_pure ?_)))))
  show wpAny _ _ (match Builtin.Slice.sliceAdjust none none (-1) (n : Int) with | (lo, hi) => pure (lo, (-1 : Int), Builtin.Slice.slicePlaces lo hi (-1))) _ _ s
  rw [back_bounds]
  show wpAny _ _ (pure ((n : Int) - 1, (-1 : Int), Builtin.Slice.slicePlaces ((n : Int) - 1) (-1) (-1))) _ _ s
  rw [back_places]
  exact wpAny_pure h
theorem getItem_tuple_back {t sl : Addr} {items : Array Value} {vs : Value} {Q : Value → Shared → Prop} (ht : IsTup s.heap t items) (hs : s.heap.IsSliceOf sl .none .none vs) (ps : IsPart vs (some (-1)))
    (h : Q (.ref s.heap.objs.size) { s with heap := s.heap.push { cls := .type "tuple", data := .seq items.toList.reverse.toArray } })
    (hsz : items.size ≤ sizeLine) : wpAny (model prog w) A (getItem (.ref t) (.ref sl)) Q E s := by
  have hfits : sizeOk (.seq items.toList.reverse.toArray) := by
    show items.toList.reverse.toArray.size ≤ sizeLine
    rw [List.size_toArray, List.length_reverse, Array.length_toList]
    exact hsz
  obtain ⟨so, hso, hsc, hsd⟩ := id hs
  have hts : s.TypeIs (.ref sl) "slice" := ⟨so, hso, hsc⟩
  unfold getItem
  try with_reducible refine wpAny_holding ?_
  first | refine wpAny_bind (wpAny_pure ?_) | skip
  refine wpAny_bind (wpAny_sequenceKey ht.typeIs (by decide) ?_)
  refine wpAny_bind (wpAny_callSpecial?_slot (name := Str.ofString "__getitem__") ht.typeIs PyProof.Rows.slot_tuple_getitem
    (wpAny_call_entry PyProof.Rows.slot_tuple_getitem ht.typeIs entry_tuple_getitem ?_ (args_tuple_getitem _ _)))
  show wpAny _ _ (Builtin.Tuple.tupleItemsOf (.ref t) >>= _) _ _ s
  refine wpAny_bind (tupleItemsOf_ ht ?_)
  refine wpAny_bind (wpAny_typeOf hts ?_)
  rw [if_pos (by decide)]
  refine wpAny_bind (back_applied hs ps ?_)
  have hno : ¬ ((((items.size : Int) - 1) == 0 && (-1 : Int) == 1 && items.size == items.size) = true) := by
    intro q
    rw [Bool.and_eq_true, Bool.and_eq_true] at q
    exact absurd (eq_of_beq q.1.2) (by decide)
  show wpAny _ _ (if (((items.size : Int) - 1) == 0 && (-1 : Int) == 1 && items.size == items.size) = true then _ else _) _ _ s
  rw [if_neg hno, back_pick]
  first
    | exact wpAny_bind (m := Builtin.Tuple.tupleExact _) (wpAny_newObj_type (wpAny_pure ⟨_, rfl, wpAny_pure h⟩) hfits)
    | exact wpAny_bind (m := Builtin.Tuple.tupleExact _) (wpAny_newObj_type (wpAny_bind (wpAny_pure (wpAny_pure ⟨_, rfl, wpAny_pure h⟩))) hfits)
    | exact wpAny_bind (wpAny_bind (m := Builtin.Tuple.tupleExact _) (wpAny_newObj_type (wpAny_pure (wpAny_pure ⟨_, rfl, wpAny_pure h⟩)) hfits))
    | exact wpAny_bind (wpAny_bind (m := Builtin.Tuple.tupleExact _) (wpAny_newObj_type (wpAny_pure ⟨_, rfl, wpAny_pure h⟩) hfits))
end
end NfR
namespace Nf
open PySem PySem.Spec L2
variable {X : Cx}
def tRevT (K : PySem.W.Frag) (te : TE) : TE := fun σ H Q => te σ H fun x H1 => ∃ a xs, x = .ref a ∧ SqT K H1 a xs ∧ ∀ p, H1 p = none → Q (.ref p) (upd H1 p (.tup xs.reverse))
theorem pe_revT {e : Expr} {te : TE} {k : Nat} {p1 p2 p3 pos : Pos} (he : PE X e te) : PE X (.Subscript e (.Slice none none (some (.UnaryOp .USub (.Constant (.int 1) k p1) p2)) p3) pos) (tRevT X.K te) := by
  refine ⟨fun pins s σ H Q I h => ?_⟩
  refine PyProof.Rows.Subscript_ (thn (he.run pins s σ H _ I h) fun u s1 ⟨x, H1, I1, r1, q1⟩ => ?_)
  obtain ⟨t, xs, rfl, hxs, q⟩ := q1
  cases r1
  have step : PO X (some (.UnaryOp .USub (.Constant (.int 1) k p1) p2)) (tPart (tUn (rU fun i => .int (-i)) (tC (.int 1)))) := po_some (pe_un un_neg pe_int)
  refine wpAny_Slice (thn (po_none.run pins s1 σ H1 (fun o G => o = none ∧ G = H1) I1 ⟨rfl, rfl⟩) fun v1 s2 ⟨o1, G1, J1, w1, y1, z1⟩ => ?_)
  subst y1 z1
  refine thn (po_none.run pins s2 σ G1 (fun o G => o = none ∧ G = G1) J1 ⟨rfl, rfl⟩) fun v2 s3 ⟨o2, G2, J2, w2, y2, z2⟩ => ?_
  subst y2 z2
  refine thn (step.run pins s3 σ G2 (fun o G => o = some (-1) ∧ G = G2) J2 ⟨1, rfl, -1, rfl, rfl, rfl⟩) fun v3 s4 ⟨o3, G3, J3, w3, y3, z3⟩ => ?_
  subst y3 z3
  have J5 : Inv X pins σ G3 { s4 with heap := s4.heap.push { cls := .type "slice", data := .fields #[v1, v2, v3] } } := J3.kept (t' := s4.toks) fun b ob z => Heap.get?_push_of_some _ z
  obtain ⟨its, rv, htup, hz⟩ := J5.tuple hxs
  have hlen := rv.length
  have e1 : v1 = .none := by cases w1; rfl
  have e2 : v2 = .none := by cases w2; rfl
  subst e1 e2
  show wpAny (model X.prog X.w) X.A (PyProof.Rows.subscriptTail e (.Slice none none (some (.UnaryOp .USub (.Constant (.int 1) k p1) p2)) p3) (.ref t) (.ref s4.heap.objs.size)) (EP X pins σ Q) X.xe { s4 with heap := s4.heap.push { cls := .type "slice", data := .fields #[.none, .none, v3] } }
  refine PyProof.Rows.tail_any (ops := [.ref t, .ref s4.heap.objs.size]) htup.typeIs PyProof.Rows.slot_tuple_getitem.lookup ?_ (by with_unfolding_all rfl)
  refine NfR.getItem_tuple_back htup (Heap.IsSliceOf.new _ .none .none v3) w3 ?_ (by rw [List.size_toArray]; omega)
  refine ⟨.ref _, _, J5.laid (t' := s4.toks) (o := .tup xs.reverse) (fun b ob z => Heap.get?_push_of_some _ z) (Nat.le_refl _) ?_, rfl, q _ (J5.hok.fresh (Nat.le_refl _))⟩
  exact ⟨by rw [List.length_reverse]; exact hz, its.reverse, rv.reverse, ⟨_, Heap.get?_push_size _ rfl, rfl, 0, rfl⟩⟩
def revD : D → Option D
  | .tuple xs => some (.tuple xs.reverse)
  | _ => none
theorem d_rev {e : Expr} {f : Fe} {k : Nat} {p1 p2 p3 pos : Pos} (he : PE X e (tD X.K f)) : PE X (.Subscript e (.Slice none none (some (.UnaryOp .USub (.Constant (.int 1) k p1) p2)) p3) pos) (tD X.K (f1 revD f)) :=
  (pe_revT he).imp fun σ H Q ⟨T, ds, d, S, e, q⟩ => by
    obtain ⟨x, e1, e2⟩ := f1_some e
    refine ⟨T, ds, x, S, e1, fun v H1 s1 r1 => ?_⟩
    unfold revD at e2
    split at e2
    · cases e2
      cases r1 with
      | tup h1 h2 => exact ⟨_, _, rfl, h1.sq, fun p hp => q _ _ (s1.trans (Same.new hp)) (Rp.newT h2.rev (S.same s1).dom hp)⟩
    · cases e2
end Nf
set_option Elab.async false
set_option linter.all false
set_option maxRecDepth 100000
set_option maxHeartbeats 4000000
/-! list(zip(xs, ys)), two lists -/
namespace NfZ
open PySem PySem.Spec PyProof.Rows
theorem zip_no_len : typeLookup (.type "zip") "__len__" = pure none := by rw [typeLookup_type, builtinLookup_eq_fast]; kernel_rfl
theorem zip_no_hint : typeLookup (.type "zip") "__length_hint__" = pure none := by rw [typeLookup_type, builtinLookup_eq_fast]; kernel_rfl
/-- the zip at z, i items gone, S the list that is filled -/
def ZSt (xs ys : Array Value) (z TI TO i1 i2 l1 l2 S : Addr) (i : Nat) (h : Heap) : Prop :=
  IsPair h TI (.ref i1) (.ref i2) ∧ h.IsListIter i1 l1 i ∧ h.IsListIter i2 l2 i ∧ h.IsList l1 xs ∧ h.IsList l2 ys ∧
    ((IsZip h z TI TO .none ∧ ∃ a b, IsPair h TO a b) ∨ ∃ T f oT, PySem.IsZipHeld h z TI TO T f ∧ h.get? T = some oT ∧ T ≠ z ∧ T ≠ i1 ∧ T ≠ i2 ∧ T ≠ S)
def Low (S z TI TO i1 i2 l1 l2 : Addr) : Prop := z < S ∧ TI < S ∧ TO < S ∧ i1 < S ∧ i2 < S ∧ l1 < S ∧ l2 < S
theorem ZSt.keep {xs ys : Array Value} {z TI TO i1 i2 l1 l2 S : Addr} {i : Nat} {h h' : Heap} (L : Low S z TI TO i1 i2 l1 l2) (x : ZSt xs ys z TI TO i1 i2 l1 l2 S i h) (k : ∀ b o, b ≠ S → h.get? b = some o → h'.get? b = some o) : ZSt xs ys z TI TO i1 i2 l1 l2 S i h' := by
  obtain ⟨a1, a2, a3, a4, a5, a6, a7⟩ := L
  obtain ⟨p, q1, q2, m1, m2, y⟩ := x
  refine ⟨k _ _ (Nat.ne_of_lt a2) p, q1.at fun o e => k _ o (Nat.ne_of_lt a4) e, q2.at fun o e => k _ o (Nat.ne_of_lt a5) e, m1.at fun o e => k _ o (Nat.ne_of_lt a6) e, m2.at fun o e => k _ o (Nat.ne_of_lt a7) e, ?_⟩
  rcases y with ⟨y, a, b, t⟩ | ⟨T, f, oT, y, t, r1, r2, r3, r4⟩
  · exact .inl ⟨k _ _ (Nat.ne_of_lt a1) y, a, b, k _ _ (Nat.ne_of_lt a3) t⟩
  · exact .inr ⟨T, f, oT, k _ _ (Nat.ne_of_lt a1) y, k _ _ r4 t, r1, r2, r3, r4⟩
/-- the pairs at as -/
structure ZG (xs ys : Array Value) (lo : Addr) (h : Heap) (as : List Addr) : Prop where
  up : as.Pairwise (· < ·)
  hi : ∀ a ∈ as, lo < a
  at_ : ∀ (j : Nat) (a : Addr), as[j]? = some a → ∃ x y, xs[j]? = some x ∧ ys[j]? = some y ∧ h.get? a = some { cls := .type "tuple", data := .seq #[x, y] }
theorem ZG.lt {xs ys : Array Value} {lo : Addr} {h : Heap} {as : List Addr} (g : ZG xs ys lo h as) {a : Addr} (ha : a ∈ as) : a < h.objs.size := by
  obtain ⟨j, hj⟩ := List.mem_iff_getElem?.mp ha
  obtain ⟨_, _, _, _, e⟩ := g.at_ j a hj
  exact Heap.lt_size e
def Fp (z TO i1 i2 : Addr) (b : Addr) : Prop := b = z ∨ b = TO ∨ b = i1 ∨ b = i2
section
variable {prog : Program} {w : World} {A : Around} {E : Value → Shared → Prop} {s : Shared} {xs ys : Array Value} {z TI TO i1 i2 l1 l2 S : Addr}
theorem z_item {i : Nat} {Q : Option Value → Shared → Prop} (D : ZipApart z TI TO i1 i2 l1 l2) (hS : S < s.heap.objs.size) (st : ZSt xs ys z TI TO i1 i2 l1 l2 S i s.heap) {x y : Value} (hx : xs[i]? = some x) (hy : ys[i]? = some y)
    (hQ : ∀ h', ZSt xs ys z TI TO i1 i2 l1 l2 S (i + 1) h' → h'.get? s.heap.objs.size = some { cls := .type "tuple", data := .seq #[x, y] } → (∀ b o, ¬ Fp z TO i1 i2 b → s.heap.get? b = some o → h'.get? b = some o) → Q (some (.ref s.heap.objs.size)) { s with heap := h' }) :
    wpAny (model prog w) A (pyNext (.ref z)) Q E s := by
  obtain ⟨p, q1, q2, m1, m2, u⟩ := st
  have far : ∀ {c o}, s.heap.get? c = some o → s.heap.objs.size ≠ c := fun e => Nat.ne_of_gt (Heap.lt_size e)
  have f1 : s.heap.objs.size ≠ i1 := let ⟨_, e, _⟩ := q1; far e
  have f2 : s.heap.objs.size ≠ i2 := let ⟨_, e, _⟩ := q2; far e
  rcases u with ⟨hz, a, b, hTO⟩ | ⟨T, f, oT, hz, hT, r1, r2, r3, r4⟩
  · refine wpAny_pyNext_zip_item D hz p hTO q1 q2 m1 m2 hx hy fun h' b1 b2 b3 b4 b5 b6 hk => ?_
    refine hQ h' ⟨hk _ _ D.TIz D.TITO D.TIi1 D.TIi2 p, b3, b4, m1.at fun o e => hk _ o D.l1z D.l1TO D.l1i1 D.l1i2 e, m2.at fun o e => hk _ o D.l2z D.l2TO D.l2i1 D.l2i2 e, .inr ⟨s.heap.objs.size, false, _, b1, b5, far hz, f1, f2, Nat.ne_of_gt hS⟩⟩ b5 fun c o hc e => hk c o (fun v => hc (.inl v)) (fun v => hc (.inr (.inl v))) (fun v => hc (.inr (.inr (.inl v)))) (fun v => hc (.inr (.inr (.inr v)))) e
  · refine PySem.wpAny_pyNext_zip_item_held D hz hT p q1 q2 m1 m2 hx hy fun h' b1 b3 b4 b5 b6 hk => ?_
    refine hQ h' ⟨hk _ _ D.TIz D.TIi1 D.TIi2 p, b3, b4, m1.at fun o e => hk _ o D.l1z D.l1i1 D.l1i2 e, m2.at fun o e => hk _ o D.l2z D.l2i1 D.l2i2 e, .inr ⟨T, true, oT, b1, hk _ _ r1 r2 r3 hT, r1, r2, r3, r4⟩⟩ b5 fun c o hc e => hk c o (fun v => hc (.inl v)) (fun v => hc (.inr (.inr (.inl v)))) (fun v => hc (.inr (.inr (.inr v)))) e
theorem z_done {i : Nat} {Q : Option Value → Shared → Prop} (hh : A.handled = none) (D : ZipApart z TI TO i1 i2 l1 l2) (st : ZSt xs ys z TI TO i1 i2 l1 l2 S i s.heap) (hend : xs[i]? = none ∨ ys[i]? = none)
    (hQ : ∀ h', (∀ b o, ¬ Fp z TO i1 i2 b → s.heap.get? b = some o → h'.get? b = some o) → Q none { s with heap := h' }) : wpAny (model prog w) A (pyNext (.ref z)) Q E s := by
  obtain ⟨p, q1, q2, m1, m2, u⟩ := st
  rcases u with ⟨hz, a, b, hTO⟩ | ⟨T, f, oT, hz, hT, r1, r2, r3, r4⟩
  · exact wpAny_pyNext_zip_end hh D hz p hTO q1 q2 m1 m2 hend fun h' hk => hQ h' fun c o hc e => hk c o (fun v => hc (.inl v)) (fun v => hc (.inr (.inl v))) (fun v => hc (.inr (.inr (.inl v)))) (fun v => hc (.inr (.inr (.inr v)))) e
  · exact PySem.wpAny_pyNext_zip_end_held hh D hz hT p q1 q2 m1 m2 hend fun h' hk => hQ h' fun c o hc e => hk c o (fun v => hc (.inl v)) (fun v => hc (.inr (.inr (.inl v)))) (fun v => hc (.inr (.inr (.inr v)))) e
end
section
variable {prog : Program} {w : World} {A : Around} {s : Shared} {R : Result → Shared → Prop} {xs ys : Array Value} {z TI TO i1 i2 l1 l2 S : Addr} {n : Nat}
theorem z_loop (hh : A.handled = none) (D : ZipApart z TI TO i1 i2 l1 l2) (L : Low S z TI TO i1 i2 l1 l2) (hn : n ≤ sizeLine) (hnx : n = min xs.size ys.size) (res : Value) {h₁ : Heap}
    (hR : ∀ h' acc c as, (∀ b o, b ≠ S → ¬ Fp z TO i1 i2 b → h₁.get? b = some o → h'.get? b = some o) → h'.get? S = some { cls := .type "list", dict := none, data := .seq acc c, slots := #[] } → as.length = n → ZG xs ys S h' as →
      acc.toList = as.map Value.ref → R (.ok (.ret res)) { s with heap := h' }) :
    ∀ (k i : Nat) (h : Heap) (c : Nat) (acc : Array Value) (as : List Addr), n - i = k → i ≤ n → ZSt xs ys z TI TO i1 i2 l1 l2 S i h → (∀ b o, b ≠ S → ¬ Fp z TO i1 i2 b → h₁.get? b = some o → h.get? b = some o) →
      h.get? S = some { cls := .type "list", dict := none, data := .seq acc c, slots := #[] } → acc.toList = as.map Value.ref → as.length = i → ZG xs ys S h as →
      codeAny (model prog w) A (.builtin "list.extend.loop" ⟨[.ref S, .ref z, res], []⟩) R { s with heap := h } := by
  obtain ⟨a1, a2, a3, a4, a5, a6, a7⟩ := id L
  have notF : ∀ {b : Addr}, S ≤ b → ¬ Fp z TO i1 i2 b := fun {b} hb v => by
    rcases v with v | v | v | v
    · exact absurd a1 (Nat.not_lt.mpr (by rw [← v]; exact hb))
    · exact absurd a3 (Nat.not_lt.mpr (by rw [← v]; exact hb))
    · exact absurd a4 (Nat.not_lt.mpr (by rw [← v]; exact hb))
    · exact absurd a5 (Nat.not_lt.mpr (by rw [← v]; exact hb))
  intro k
  induction k with
  | zero =>
    intro i h c acc as hk hi st hkeep hS hacc hal hG
    have hin : i = n := by omega
    refine codeAny_builtin PySem.F.entry_extend_loop ?_
    rw [Around.under_plainId PySem.F.plain_extend_loop _]
    show wpAny _ A.in1 (pyNext (.ref z) >>= _) _ _ _
    have hend : xs[i]? = none ∨ ys[i]? = none := by
      rcases Nat.le_total xs.size ys.size with g | g
      · exact .inl (Array.getElem?_eq_none (by rw [hin, hnx, Nat.min_eq_left g]; exact Nat.le_refl _))
      · exact .inr (Array.getElem?_eq_none (by rw [hin, hnx, Nat.min_eq_right g]; exact Nat.le_refl _))
    refine wpAny_bind (z_done (s := { s with heap := h }) (A := A.in1) hh D st hend fun h' he => ?_)
    refine wpAny_pure (hR h' acc c as (fun b o g1 g2 e => he b o g2 (hkeep b o g1 g2 e)) (he S _ (notF (Nat.le_refl _)) hS) (by omega) ⟨hG.up, hG.hi, fun j a hj => ?_⟩ hacc)
    obtain ⟨x, y, e1, e2, e3⟩ := hG.at_ j a hj
    exact ⟨x, y, e1, e2, he a _ (notF (Nat.le_of_lt (hG.hi a (List.mem_of_getElem? hj)))) e3⟩
  | succ k ih =>
    intro i h c acc as hk hi st hkeep hS hacc hal hG
    have hlt : i < n := by omega
    have hix : i < xs.size := by omega
    have hiy : i < ys.size := by omega
    have ex := Array.getElem?_eq_getElem hix
    have ey := Array.getElem?_eq_getElem hiy
    have hsz : acc.size = i := by rw [← Array.length_toList, hacc, List.length_map, hal]
    have hSl : S < h.objs.size := Heap.lt_size hS
    refine codeAny_builtin PySem.F.entry_extend_loop ?_
    rw [Around.under_plainId PySem.F.plain_extend_loop _]
    show wpAny _ A.in1 (pyNext (.ref z) >>= _) _ _ _
    refine wpAny_bind (z_item (s := { s with heap := h }) (S := S) D hSl st ex ey fun h' st' ht hkp => ?_)
    dsimp only at ht hkp ⊢
    have hS' := hkp S _ (notF (Nat.le_refl _)) hS
    have grow : ∀ b o, b ≠ S → h'.get? b = some o → (h'.update S (Obj.mapSeq (·.push (Value.ref h.objs.size)))).get? b = some o := fun b o hb e => (Heap.get?_update_other _ _ (Ne.symm hb)).trans e
    show wpAny _ A.in1 (updateSeq S (·.push (Value.ref h.objs.size)) >>= _) _ _ _
    refine wpAny_bind ?_
    refine wpAny_updateSeq hS' rfl (wpAny_pure ⟨plainId_quiet PySem.F.plain_extend_loop _, ih (i + 1) _ _ (acc.push (Value.ref h.objs.size)) (as ++ [h.objs.size]) (by omega) hlt (st'.keep L grow)
      (fun b o g1 g2 e => grow b o g1 (hkp b o g2 (hkeep b o g1 g2 e))) (Heap.get?_update_self _ hS' rfl) (by rw [Array.toList_push, hacc, List.map_append]; rfl) (by rw [List.length_append, hal]; rfl) ⟨?_, ?_, ?_⟩⟩) (by rw [hsz]; omega) (by show (acc.push (Value.ref h.objs.size)).size ≤ sizeLine + 1; rw [Array.size_push, hsz]; omega)
    · refine List.pairwise_append.mpr ⟨hG.up, List.pairwise_singleton _ _, fun a ha b hb => ?_⟩
      rw [List.mem_singleton.mp hb]
      exact hG.lt ha
    · intro a ha
      rcases List.mem_append.mp ha with ha | ha
      · exact hG.hi a ha
      · rw [List.mem_singleton.mp ha]; exact hSl
    · intro j b hj
      rcases Nat.lt_trichotomy j as.length with g1 | g1 | g1
      · rw [List.getElem?_append_left g1] at hj
        obtain ⟨x, y, e1, e2, e3⟩ := hG.at_ j b hj
        have hb := hG.hi b (List.mem_of_getElem? hj)
        exact ⟨x, y, e1, e2, grow b _ (Nat.ne_of_gt hb) (hkp b _ (notF (Nat.le_of_lt hb)) e3)⟩
      · subst g1
        have hb : h.objs.size = b := by simpa using hj
        subst hb
        exact ⟨_, _, by rw [hal]; exact ex, by rw [hal]; exact ey, grow _ _ (Nat.ne_of_gt hSl) ht⟩
      · have hnone : (as ++ [h.objs.size])[j]? = none := List.getElem?_eq_none (by rw [List.length_append, List.length_singleton]; omega)
        rw [hnone] at hj; cases hj
end
section
variable {prog : Program} {w : World} {A : Around} {E : Value → Shared → Prop} {s : Shared} {xs ys : Array Value} {z TI TO i1 i2 l1 l2 : Addr}
theorem z_hint (hT : s.TypeIs (.ref z) "zip") {Q : Bool → Shared → Prop} (h : Q true s) : wpAny (model prog w) A (Builtin.List.listLengthHint (.ref z)) Q E s := by
  unfold Builtin.List.listLengthHint
  refine wpAny_bind (wpAny_specialOf hT zip_no_len ?_)
  show wpAny _ A (specialOf (Value.ref z) (Str.ofString "__length_hint__") >>= _) _ _ _
  refine wpAny_bind (wpAny_specialOf hT zip_no_hint ?_)
  exact wpAny_pure h
theorem z_extend {S : Addr} {R : Result → Shared → Prop} (hh : A.handled = none) (D : ZipApart z TI TO i1 i2 l1 l2) (L : Low S z TI TO i1 i2 l1 l2) (st : ZSt xs ys z TI TO i1 i2 l1 l2 S 0 s.heap) (hiz : IsZip s.heap z TI TO .none) (res : Value) (c₀ : Nat)
    (hS : s.heap.get? S = some { cls := .type "list", data := .seq #[] c₀ })
    (hR : ∀ h' acc c as, (∀ b o, b ≠ S → ¬ Fp z TO i1 i2 b → s.heap.get? b = some o → h'.get? b = some o) → h'.get? S = some { cls := .type "list", dict := none, data := .seq acc c, slots := #[] } → as.length = min xs.size ys.size → ZG xs ys S h' as →
      acc.toList = as.map Value.ref → R (.ok (.ret res)) { s with heap := h' }) (hn : min xs.size ys.size ≤ sizeLine) :
    wpAny (model prog w) A.in1 (Builtin.List.listExtendWith (.ref S) (.ref z) res)
      (fun fin s' => match fin with | .done f => R (.ok f) s' | .again c' => c'.quiet = true ∧ codeAny (model prog w) A c' R s') (fun e s' => R (.error e) s') s := by
  have hT : s.TypeIs (.ref z) "zip" := ⟨_, hiz, rfl⟩
  unfold Builtin.List.listExtendWith
  refine wpAny_bind (wpAny_typeOf (T := "zip") hT ?_)
  have g1 : Builtin.List.listSameRef (.ref S) (.ref z) = false := by
    have : S ≠ z := Nat.ne_of_gt L.1
    simp [Builtin.List.listSameRef, this]
  have g2 : (Value.type "zip" == Value.type "list") = false := by decide
  have g3 : (Value.type "zip" == Value.type "tuple") = false := by decide
  simp only [g1, g2, g3, Bool.or_false, Bool.false_eq_true, if_false]
  refine wpAny_bind (wpAny_pyIter_zip hiz ?_)
  refine wpAny_bind (wpAny_holding (z_hint hT ?_))
  show wpAny _ A.in1 (rule "list.extend.makes-room" >>= fun _ => Builtin.List.listTouch (.ref S) >>= fun _ =>
    again (.builtin "list.extend.loop" ⟨[.ref S, .ref z, res], []⟩)) _ _ _
  refine wpAny_bind (wpAny_rule ?_)
  refine wpAny_bind ?_
  show wpAny _ A.in1 (updateSeq S (·.push .none) >>= fun _ => updateSeq S (·.pop)) _ _ _
  refine wpAny_bind (wpAny_updateSeq hS rfl ?_)
  have hS₂ := Heap.get?_update_self (Obj.mapSeq (·.push Value.none)) hS rfl
  refine wpAny_updateSeq (hz := by seq_fits) hS₂ rfl ?_
  have hS₃ := Heap.get?_update_self (Obj.mapSeq (·.pop)) hS₂ rfl
  have kp : ∀ b o, b ≠ S → s.heap.get? b = some o → ((s.heap.update S (Obj.mapSeq (·.push Value.none))).update S (Obj.mapSeq (·.pop))).get? b = some o := fun b o hb e =>
    (Heap.get?_update_other _ _ (Ne.symm hb)).trans ((Heap.get?_update_other _ _ (Ne.symm hb)).trans e)
  exact wpAny_pure ⟨plainId_quiet PySem.F.plain_extend_loop _, z_loop (h₁ := s.heap) hh D L hn rfl res hR _ 0 _ _ #[] [] rfl (Nat.zero_le _) (st.keep L kp) (fun b o hb _ e => kp b o hb e) hS₃ rfl rfl ⟨List.Pairwise.nil, (fun _ ha => nomatch ha), (fun j a hj => by simp at hj)⟩⟩
theorem z_init {S : Addr} {R : Result → Shared → Prop} (hh : A.handled = none) (D : ZipApart z TI TO i1 i2 l1 l2) (L : Low S z TI TO i1 i2 l1 l2) (st : ZSt xs ys z TI TO i1 i2 l1 l2 S 0 s.heap) (hiz : IsZip s.heap z TI TO .none)
    (hS : s.heap.get? S = some { cls := .type "list", data := .seq #[] })
    (hR : ∀ h' acc c as, (∀ b o, b ≠ S → ¬ Fp z TO i1 i2 b → s.heap.get? b = some o → h'.get? b = some o) → h'.get? S = some { cls := .type "list", dict := none, data := .seq acc c, slots := #[] } → as.length = min xs.size ys.size → ZG xs ys S h' as →
      acc.toList = as.map Value.ref → R (.ok (.ret .none)) { s with heap := h' }) (hn : min xs.size ys.size ≤ sizeLine) :
    wpAny (model prog w) A.in1 (Builtin.«list.__init__» ⟨[.ref S, .ref z], []⟩)
      (fun fin s' => match fin with | .done f => R (.ok f) s' | .again c' => c'.quiet = true ∧ codeAny (model prog w) A c' R s') (fun e s' => R (.error e) s') s := by
  show wpAny _ _ (do let old ← Builtin.List.listItems (.ref S); Builtin.List.listUpdate (.ref S) (fun _ => #[]); letGo old.toList.reverse; Builtin.List.listExtendWith (.ref S) (.ref z) .none) _ _ s
  refine wpAny_bind ?_
  unfold Builtin.List.listItems
  refine wpAny_bind (wpAny_seqItems hS rfl (wpAny_pure ?_))
  show wpAny _ _ (updateSeq S (fun _ => #[]) >>= fun _ => letGo (#[] : Array Value).toList.reverse >>= fun _ => Builtin.List.listExtendWith (.ref S) (.ref z) .none) _ _ s
  refine wpAny_bind (wpAny_updateSeq hS rfl ?_)
  have hS₂ := Heap.get?_update_self (Obj.mapSeq (fun _ => (#[] : Array Value))) hS rfl
  have oth : ∀ b o, b ≠ S → s.heap.get? b = some o → (s.heap.update S (Obj.mapSeq (fun _ => (#[] : Array Value)))).get? b = some o :=
    fun b o hb e => (Heap.get?_update_other _ _ (Ne.symm hb)).trans e
  refine wpAny_bind (wpAny_letGo ?_)
  refine z_extend hh D L (st.keep L oth) (oth _ _ (Nat.ne_of_lt L.1) hiz) .none _ hS₂ (fun h' acc c as hk hS' hl hG hacc => ?_) hn
  exact hR h' acc c as (fun b o hb hf e => hk b o hb hf (oth b o hb e)) hS' hl hG hacc
theorem z_call {Q : Value → Shared → Prop} (hh : A.handled = none) (D : ZipApart z TI TO i1 i2 l1 l2) (st : ∀ S, s.heap.objs.size ≤ S → ZSt xs ys z TI TO i1 i2 l1 l2 S 0 s.heap) (hiz : IsZip s.heap z TI TO .none)
    (L : Low s.heap.objs.size z TI TO i1 i2 l1 l2) (hn : min xs.size ys.size ≤ sizeLine)
    (hQ : ∀ h' acc c as, (∀ b o, ¬ Fp z TO i1 i2 b → s.heap.get? b = some o → h'.get? b = some o) → h'.get? s.heap.objs.size = some { cls := .type "list", dict := none, data := .seq acc c, slots := #[] } → as.length = min xs.size ys.size → ZG xs ys s.heap.objs.size h' as →
      acc.toList = as.map Value.ref → Q (.ref s.heap.objs.size) { s with heap := h' }) :
    wpAny (model prog w) A (call (.type "list") [.ref z]) Q E s := by
  refine callType_codes (Q₁ := fun obj s₁ => obj = .ref s.heap.objs.size ∧ s₁ = { s with heap := s.heap.push { cls := .type "list", data := .seq #[] } }) PySem.F.called_list (PySem.F.typeCall_list_1 _) PySem.F.entry_list_init
    (code_list_new _ ⟨rfl, rfl⟩) fun obj s₁ hob => ?_
  obtain ⟨rfl, rfl⟩ := hob
  have hS : (s.heap.push { cls := .type "list", data := .seq #[] }).get? s.heap.objs.size = some { cls := .type "list", data := .seq #[] } := Heap.get?_push_size _ rfl
  have kp : ∀ b o, s.heap.get? b = some o → (s.heap.push { cls := .type "list", data := .seq #[] }).get? b = some o := fun b o e => Heap.get?_push_of_some _ e
  refine ⟨⟨_, hS, rfl⟩, PySem.F.args_list_init_2 _ _, z_init (A := A.in1) hh D L ((st _ (Nat.le_refl _)).keep L fun b o _ e => kp b o e) (kp _ _ hiz) hS (fun h' acc c as hk hS' hl hG hacc => ?_) hn⟩
  exact ⟨rfl, hQ h' acc c as (fun b o hf e => hk b o (Nat.ne_of_lt (Heap.lt_size e)) hf (kp b o e)) hS' hl hG hacc⟩
end
end NfZ
namespace Nf
open PySem PySem.Spec L2
open LiI (paired_ix vals_refs)
def putP : Hp → List Addr → List (V × V) → Hp
  | H, a :: as, p :: ps => putP (upd H a (.tup [p.1, p.2])) as ps
  | H, _, _ => H
theorem putP_off {b : Addr} : ∀ (as : List Addr) (ps : List (V × V)) (H : Hp), b ∉ as → putP H as ps b = H b
  | [], _, _, _ => rfl
  | _ :: _, [], _, _ => rfl
  | a :: as, p :: ps, H, h => by
    show putP (upd H a (.tup [p.1, p.2])) as ps b = H b
    rw [putP_off as ps _ (fun z => h (List.mem_cons_of_mem _ z)), upd_ne (fun z => h (by rw [z]; exact List.mem_cons_self))]
theorem putP_at : ∀ (as : List Addr) (ps : List (V × V)) (H : Hp), as.length = ps.length → as.Nodup → Paired (fun (t : Addr) (p : V × V) => putP H as ps t = some (.tup [p.1, p.2])) as ps
  | [], [], _, _, _ => .nil
  | [], _ :: _, _, h, _ => by cases h
  | _ :: _, [], _, h, _ => by cases h
  | a :: as, p :: ps, H, h, hn => by
    obtain ⟨n1, n2⟩ := List.nodup_cons.mp hn
    refine .cons ?_ (putP_at as ps (upd H a (.tup [p.1, p.2])) (Nat.succ.inj h) n2)
    show putP (upd H a (.tup [p.1, p.2])) as ps a = some (.tup [p.1, p.2])
    rw [putP_off as ps _ n1, upd_same]
theorem vals_zip : ∀ {xs ys : List V} {us vs : List Value}, Vals xs us → Vals ys vs → ∀ {i : Nat} {p : V × V}, (xs.zip ys)[i]? = some p → ∃ u v, us[i]? = some u ∧ vs[i]? = some v ∧ RelV p.1 u ∧ RelV p.2 v := by
  intro xs ys us vs r1 r2 i p h
  rw [List.getElem?_zip_eq_some] at h
  obtain ⟨u, hu, ru⟩ := r1.get h.1
  obtain ⟨v, hv, rv⟩ := r2.get h.2
  exact ⟨u, v, hu, hv, ru, rv⟩
section
variable {X : Cx}
theorem pairs_laid {pins : List (Addr × Obj)} {σ : L2.St} {H : Hp} {s : Shared} {h' : Heap} {xs ys : List V} {us vs : List Value} {acc : Array Value} {c : Nat} {as : List Addr} {S : Addr} (I : Inv X pins σ H s) (hz : xs.length ≤ sizeLine) (rx : Vals xs us) (ry : Vals ys vs)
    (hk : ∀ b o, s.heap.get? b = some o → h'.get? b = some o) (hlo : s.heap.objs.size ≤ S) (hS : h'.get? S = some { cls := .type "list", dict := none, data := .seq acc c, slots := #[] }) (hl : as.length = min us.toArray.size vs.toArray.size) (hG : NfZ.ZG us.toArray vs.toArray S h' as) (hacc : acc.toList = as.map Value.ref) :
    ∃ H' : Hp, Same H H' ∧ H S = none ∧ (∀ t ∈ as, H t = none) ∧ H' S = some (.lst (as.map V.ref)) ∧ Paired (fun (t : Addr) (q : V × V) => H' t = some (.tup [q.1, q.2])) as (xs.zip ys) ∧ Inv X pins σ H' { s with heap := h' } := by
  have lz : as.length = (xs.zip ys).length := by
    rw [hl, List.length_zip, rx.length, ry.length, List.size_toArray, List.size_toArray]
  have notin : S ∉ as := fun v => Nat.lt_irrefl _ (hG.hi _ v)
  have nd : as.Nodup := List.Pairwise.imp (fun {a b} (h : a < b) => Nat.ne_of_lt h) hG.up
  have new : ∀ t ∈ as, H t = none := fun t ht => I.hok.fresh (Nat.le_trans hlo (Nat.le_of_lt (hG.hi t ht)))
  have newS : H S = none := I.hok.fresh hlo
  have atP := putP_at as (xs.zip ys) (upd H S (.lst (as.map V.ref))) lz nd
  have off : ∀ b, b ∉ as → b ≠ S → putP (upd H S (.lst (as.map V.ref))) as (xs.zip ys) b = H b := fun b g1 g2 => by rw [putP_off as _ _ g1, upd_ne g2]
  have low : ∀ b o, s.heap.get? b = some o → b ∉ as ∧ b ≠ S := fun b o e => ⟨fun v => absurd (Nat.lt_of_lt_of_le (Heap.lt_size e) hlo) (Nat.not_lt.mpr (Nat.le_of_lt (hG.hi b v))), Nat.ne_of_lt (Nat.lt_of_lt_of_le (Heap.lt_size e) hlo)⟩
  have kp : ∀ b u, H b = some u → (putP (upd H S (.lst (as.map V.ref))) as (xs.zip ys)) b = some u := fun b u e => by
    rw [off b (fun v => by rw [new b v] at e; cases e) (fun v => by rw [v, newS] at e; cases e)]
    exact e
  have eS : putP (upd H S (.lst (as.map V.ref))) as (xs.zip ys) S = some (.lst (as.map V.ref)) := by rw [putP_off as _ _ notin, upd_same]
  refine ⟨putP (upd H S (.lst (as.map V.ref))) as (xs.zip ys), kp, newS, new, eS, atP, ?_⟩
  refine I.call' (ch := []) rfl ⟨fun b o q _ _ _ => hk b o q, fun b o q _ _ _ => ⟨o.slots, hk b o q⟩, fun b o q n _ => ?_, fun b o q _ => ⟨o, hk b o q⟩, fun b xs q => kp b _ q, fun b o u q => kp b _ q, fun b ps q => ⟨#[], by rw [kp b _ q]; simp⟩⟩ (fun b u q => ?_) I.bare fun b v => by simp at v
  · obtain ⟨g1, g2⟩ := low b o q
    rw [off b g1 g2]
    exact n
  · by_cases hb : b ∈ as
    · obtain ⟨j, pk, e1, e2, e3⟩ := paired_ix atP hb
      rw [e3] at q
      cases q
      obtain ⟨x, y, f1, f2, f3⟩ := hG.at_ j b e1
      obtain ⟨u', v', g1, g2, g3, g4⟩ := vals_zip rx ry e2
      have f1' : us[j]? = some x := by simpa using f1
      have f2' : vs[j]? = some y := by simpa using f2
      rw [g1] at f1'
      rw [g2] at f2'
      cases f1'
      cases f2'
      exact ⟨by show 2 ≤ sizeLine; decide, [_, _], .cons g3 (.cons g4 .nil), ⟨_, f3, rfl, _, rfl⟩⟩
    · by_cases hb2 : b = S
      · rw [hb2] at q ⊢
        rw [eS] at q
        cases q
        refine ⟨by rw [List.length_map, lz, List.length_zip]; exact Nat.le_trans (Nat.min_le_left _ _) hz, acc.toList, c, by rw [hacc]; exact LiI.vals_refs as, ?_⟩
        rw [Array.toArray_toList]
        exact hS
      · rw [off b hb hb2] at q
        exact (I.hok b u q).stay (fun d v _ y => hk d v y) (fun d y => kp d _ y) fun d xs y => kp d _ y
theorem low5 (n a b : Nat) (ha : a < n) (hb : b < n) : NfZ.Low (n + 5) (n + 4) (n + 2) (n + 3) n (n + 1) a b := by
  have h : ∀ n a b : Nat, a < n → b < n → n + 4 < n + 5 ∧ n + 2 < n + 5 ∧ n + 3 < n + 5 ∧ n < n + 5 ∧ n + 1 < n + 5 ∧ a < n + 5 ∧ b < n + 5 := fun n a b h1 h2 => by omega
  exact h n a b ha hb
theorem fp_no (n b : Nat) (h : b < n) : ¬ NfZ.Fp (n + 4) (n + 3) n (n + 1) b := by
  have g : ∀ n b : Nat, b < n → ¬ (b = n + 4 ∨ b = n + 3 ∨ b = n ∨ b = n + 1) := fun n b h => by omega
  exact g n b h
def tLz (K : PySem.W.Frag) (ta : TA) : TE := fun σ H Q => ta σ H fun vs H1 => ∃ a b xs ys, vs = [.ref a, .ref b] ∧ SqL K H1 a xs ∧ SqL K H1 b ys ∧ xs.length ≤ sizeLine ∧
  ∀ (H' : Hp) (S : Addr) (ts : List Addr), Same H1 H' → H1 S = none → (∀ t ∈ ts, H1 t = none) → H' S = some (.lst (ts.map V.ref)) → Paired (fun (t : Addr) (q : V × V) => H' t = some (.tup [q.1, q.2])) ts (xs.zip ys) → Q (.ref S) H'
theorem pe_listZip {e e2 : Expr} {ta : TA} {p1 p2 q1 q2 : Pos} (hc : X.calm = true) (hg1 : Gl X "list") (hm1 : X.mg "list" = none) (hg2 : Gl X "zip") (hm2 : X.mg "zip" = none) (ha : PA X [e, e2] ta)
    (hs : starEach [e, e2] X.env = (false, eval e X.env) :: starEach [e2] X.env := by rfl) (hpl : (backTo q2 (starEach [e2] X.env)).any (·.1) = false := by rfl)
    (hs2 : starEach [.Call (.Name "zip" p2) [e, e2] [] q2] X.env = (false, eval (.Call (.Name "zip" p2) [e, e2] [] q2) X.env) :: starEach [] X.env := by rfl) :
    PE X (.Call (.Name "list" p1) [.Call (.Name "zip" p2) [e, e2] [] q2] [] q1) (tLz X.K ta) := by
  refine ⟨fun pins s σ H Q I h => ?_⟩
  refine PyProof.Rows.Call_ (ld_blt I hg1 hm1 PyProof.Rows.boot_list ?_)
  refine PyProof.Rows.callWith_type1 (PyProof.Rows.args_cons ?_ hs2) hs2 rfl
  refine PyProof.Rows.Call_ (ld_blt I hg2 hm2 PyProof.Rows.boot_zip (PyProof.Rows.callWith_type1 (thn (ha.run q2 pins s σ H _ I h) fun us s1 ⟨vs, H1, I1, r1, q1⟩ => ?_) hs hpl))
  obtain ⟨a, b, xs, ys, ex, hxs, hys, hz, q⟩ := q1
  subst ex
  cases r1 with
  | cons r rr =>
    cases rr with
    | cons r' rr =>
      cases rr
      cases r
      cases r'
      obtain ⟨its, rv, m1, _⟩ := I1.list hxs
      obtain ⟨its2, rv2, m2, _⟩ := I1.list hys
      refine call_zip_2 m1.isList m2.isList fun h' y1 y2 y3 y4 y5 hsz hk => PyProof.Rows.args_nil ?_
      have m1' : h'.IsList a its.toArray := m1.isList.at fun o e => hk _ o e
      have m2' : h'.IsList b its2.toArray := m2.isList.at fun o e => hk _ o e
      have la : a < s1.heap.objs.size := m1.lt
      have lb : b < s1.heap.objs.size := m2.lt
      have hlen : min its.toArray.size its2.toArray.size ≤ sizeLine := by
        rw [List.size_toArray, List.size_toArray, ← rv.length]
        exact Nat.le_trans (Nat.min_le_left _ _) hz
      refine NfZ.z_call (s := { s1 with heap := h' }) (I1.ok.hd hc) (PySem.W.ktu_apart s1.heap.objs.size a b la lb) (fun S _ => ⟨y2, y4, y5, m1', m2', .inl ⟨y1, _, _, y3⟩⟩) y1 ?_ hlen fun h'' acc c as k2 kS hl hG hacc => ?_
      · show NfZ.Low h'.objs.size _ _ _ _ _ _ _
        rw [hsz]
        exact low5 _ a b la lb
      · obtain ⟨H', s1', n1, n2, e1, e2, J⟩ := pairs_laid (h' := h'') (S := h'.objs.size) I1 hz rv rv2 (fun b o e => k2 b o (fp_no _ b (Heap.lt_size e)) (hk b o e)) (by rw [hsz]; exact Nat.le_add_right _ _) kS hl hG hacc
        exact ⟨.ref _, H', J, rfl, q H' _ as s1' n1 n2 e1 e2⟩
/-! over data -/
theorem pairs_rp {K : PySem.W.Frag} {T : List Addr} {H : Hp} : ∀ {ts : List Addr} {vs ws : List V} {xs ys : List D}, (∀ t ∈ ts, t ∉ T) → Paired (fun (t : Addr) (q : V × V) => H t = some (.tup [q.1, q.2])) ts (vs.zip ws) → RpA K T H vs xs → RpA K T H ws ys →
    RpA K T H (ts.map V.ref) (pairs xs ys)
  | _, _, _, _, _, hn, h, .nil, r2 => by
    rw [List.zip_nil_left] at h
    cases h
    unfold pairs
    exact .nil
  | _, _, _, _, _, hn, h, .cons r1 r3, .nil => by
    rw [List.zip_nil_right] at h
    cases h
    unfold pairs
    exact .nil
  | _, _, _, _, _, hn, h, .cons r1 r3, .cons r4 r5 => by
    rw [List.zip_cons_cons] at h
    cases h with
    | @cons t _ ts' _ h1 h2 =>
      unfold pairs
      exact .cons (.tup (.inl ⟨hn t List.mem_cons_self, h1⟩) (.cons r1 (.cons r4 .nil))) (pairs_rp (fun t ht => hn t (List.mem_cons_of_mem _ ht)) h2 r3 r5)
def zipL : List D → Option D
  | [.list xs, .list ys] => if small xs then some (.list (pairs xs ys)) else none
  | _ => none
def fLzip (g : Fa) : Fe := fun ds => (g ds).bind zipL
theorem d_lzip {e e2 : Expr} {g : Fa} {p1 p2 q1 q2 : Pos} (hc : X.calm = true) (hg1 : Gl X "list") (hm1 : X.mg "list" = none) (hg2 : Gl X "zip") (hm2 : X.mg "zip" = none) (ha : PA X [e, e2] (tDA X.K g))
    (hs : starEach [e, e2] X.env = (false, eval e X.env) :: starEach [e2] X.env := by rfl) (hpl : (backTo q2 (starEach [e2] X.env)).any (·.1) = false := by rfl)
    (hs2 : starEach [.Call (.Name "zip" p2) [e, e2] [] q2] X.env = (false, eval (.Call (.Name "zip" p2) [e, e2] [] q2) X.env) :: starEach [] X.env := by rfl) :
    PE X (.Call (.Name "list" p1) [.Call (.Name "zip" p2) [e, e2] [] q2] [] q1) (tD X.K (fLzip g)) := (pe_listZip hc hg1 hm1 hg2 hm2 ha hs hpl hs2).imp fun σ H Q ⟨T, ds, d, S, e, q⟩ => by
  unfold fLzip at e
  cases eg : g ds with
  | none => rw [eg] at e; cases e
  | some l =>
    rw [eg] at e
    replace e : zipL l = some d := e
    refine ⟨T, ds, l, S, eg, fun vs H1 s1 r1 => ?_⟩
    have S1 := S.same s1
    unfold zipL at e
    split at e
    · split at e
      · rename_i hsm
        cases e
        cases r1 with
        | cons r2 r3 =>
          cases r3 with
          | cons r4 r5 =>
            cases r5
            cases r2 with
            | lst m1 m2 =>
              cases r4 with
              | lst m3 m4 =>
                refine ⟨_, _, _, _, rfl, m1.sq, m3.sq, small_ok hsm m2, fun H' S' ts s2 n1 n2 e1 e2 => q _ H' (s1.trans s2) ?_⟩
                have old : ∀ t, H1 t = none → t ∉ T := fun t ht w => S1.dom t w ht
                exact .lst ⟨old S' n1, e1⟩ (pairs_rp (fun t ht => old t (n2 t ht)) e2 (m2.same s2 S1.dom) (m4.same s2 S1.dom))
      · cases e
    · cases e
end
end Nf
set_option Elab.async false
set_option linter.all false
set_option maxRecDepth 100000
set_option maxHeartbeats 4000000
/-! a dict whose keys are rows: display, store, sorted -/
namespace Nf
open PySem PySem.Spec L2
def entA (q : AR) : List Int × Addr × Value := (q.2, q.1, Value.bool true)
def putA (L : List AR) (b : Addr) (k : List Int) : List AR := if k ∈ L.map (·.2) then L else L ++ [(b, k)]
theorem atA (k : List Int) : ∀ L : List AR, (atKey (L.map entA) k).isSome = decide (k ∈ L.map (·.2))
  | [] => rfl
  | q :: L => by
    have ih := atA k L
    unfold atKey at ih ⊢
    rw [List.map_cons, List.find?_cons]
    by_cases h : q.2 = k
    · have e : decide ((entA q).1 = k) = true := decide_eq_true h
      rw [e]
      simp [h]
    · have e : decide ((entA q).1 = k) = false := decide_eq_false h
      rw [e]
      rw [ih]
      have h' : ¬ k = q.2 := fun z => h z.symm
      simp [h']
theorem putA_same (k : List Int) (L : List AR) : (L.map entA).map (putAt k (Value.bool true)) = L.map entA := by
  rw [List.map_map]
  refine List.map_congr_left fun q _ => ?_
  show putAt k (Value.bool true) (entA q) = entA q
  unfold putAt entA
  split <;> rfl
theorem stored_A (L : List AR) (b : Addr) (k : List Int) : storedH (L.map entA) k b (Value.bool true) = (putA L b k).map entA := by
  unfold storedH putA
  rw [atA]
  by_cases h : k ∈ L.map (·.2)
  · rw [if_pos (decide_eq_true h), if_pos h]
    exact putA_same k L
  · rw [if_neg (by rw [decide_eq_false h]; exact Bool.false_ne_true), if_neg h, List.map_append]
    rfl
theorem map_entry (P : Program) (w : World) (L : List AR) : (L.map entA).map (entryOfKey (tupleKind (intKind P w))) = L.map fun q => entryOfKey (tupleKind (intKind P w)) (q.2, q.1, Value.bool true) := by
  rw [List.map_map]; rfl
theorem keys_A (L : List AR) : (L.map entA).map (·.1) = L.map (·.2) := by rw [List.map_map]; rfl
theorem MapAt.dictOf {P : Program} {w : World} {h : Heap} {a : Addr} {L : List AR} (x : MapAt a L h) (ht : ∀ p ∈ L, IsT P w h p.2 p.1) : h.DictOfH (tupleKind (intKind P w)) a (L.map entA) := by
  obtain ⟨_, _, nd, o, es, ep, ho, he, hd, hes⟩ := x
  refine ⟨o, es, ep, ho, he, hd, by rw [hes P w, map_entry], fun q hq => ?_, by rw [keys_A]; exact nd⟩
  obtain ⟨p, hp, rfl⟩ := List.mem_map.mp hq
  exact ht p hp
theorem MapAt.of {P : Program} {w : World} {h : Heap} {a : Addr} {L : List AR} (hs : (a == sysModules) = false) (hl : L.length ≤ sizeLine) (x : h.DictOfH (tupleKind (intKind P w)) a (L.map entA)) : MapAt a L h := by
  obtain ⟨o, es, ep, ho, he, hd, hes, _, nd⟩ := x
  refine ⟨hs, hl, by rw [keys_A] at nd; exact nd, o, es, ep, ho, he, hd, fun P' w' => ?_⟩
  rw [hes, map_entry]; rfl
theorem dictO_new {P : Program} {w : World} {H : Hp} {h : Heap} {a : Addr} {L : List AR} (R : MapAt a L h) : ObjOk P w H h a (DictO a L) := by
  obtain ⟨z1, z2, z3, o, es, ep, ho, r⟩ := id R
  refine ⟨R, ⟨o, ho⟩, fun h1 h2 p k => ?_⟩
  obtain ⟨y1, y2, y3, o', es', ep', ho', r'⟩ : MapAt a L h1 := p
  exact ⟨y1, y2, y3, o', es', ep', k o' ho', r'⟩
section
variable {X : Cx}
/-! the store -/
theorem d_setA {pins : List (Addr × Obj)} {σ : St} {H : Hp} {s : Shared} {a b : Addr} {L : List AR} {k : List Int} {A : Around} {E : Value → Shared → Prop} {Q : Unit → Shared → Prop} (hu : A.units + 1 < cLine) (I : Inv X pins σ H s) (e : H a = some (DictO a L)) (ht : ∀ p ∈ L, SqT X.K H p.1 (p.2.map V.int)) (hb : SqT X.K H b (k.map V.int)) (hl : L.length < sizeLine)
    (h : ∀ s', Inv X pins σ (upd H a (DictO a (putA L b k))) s' → Q () s') : wpAny (model X.prog X.w) A (setItem (.ref a) (.ref b) (.bool true)) Q E s := by
  have R : MapAt a L s.heap := (I.hok a _ e).1
  obtain ⟨z1, z2, _⟩ := id R
  have dd := R.dictOf (P := X.prog) (w := X.w) fun p hp => I.isT (ht p hp)
  refine wpAny_setItem_heap (hsz := by rw [List.length_map]; exact z2) (tupleKind_room_in1 hu) (I.isT hb) dd fun h' dd' hs => h _ ?_
  rw [stored_A] at dd'
  have hl' : (putA L b k).length ≤ sizeLine := by
    unfold putA
    split
    · omega
    · rw [List.length_append, List.length_singleton]; omega
  have he : ∃ q, h'.get? a = some q := let ⟨q, _, _, hq, _⟩ := dd'; ⟨q, hq⟩
  exact d_write I (by rw [e]; exact True.intro) hs he (dictO_new (.of z1 hl' dd'))
/-- x[f] = True, x the dict of one's own -/
def gPutM (i : Nat) (f : Fe) : Fs := fun ds => match ds[i]? with
  | some (.m ks) => if decide (ks.length < 100000) then (f ds).bind fun y => (rowD y).bind fun k => some (.nx (ds.set i (.m (if k ∈ ks then ks else ks ++ [k])))) else none
  | _ => none
theorem Se.m {K : PySem.W.Frag} {T : List Addr} {σ : St} {H : Hp} {ds : List Slot} {i : Nat} {ks : List (List Int)} (h : Se K T σ H ds) (e : ds[i]? = some (.m ks)) : ∃ a L, σ[i]? = some (some (.ref a)) ∧ a ∈ T ∧ H a = some (DictO a L) ∧ L.map (·.2) = ks ∧ ∀ p ∈ L, TpT K T H p.1 (p.2.map V.int) := h.at_ i _ e
theorem row_of {K : PySem.W.Frag} {T : List Addr} {H : Hp} {v : V} {y : D} {k : List Int} (h : rowD y = some k) (r : Rp K T H v y) : ∃ b, v = .ref b ∧ TpT K T H b (k.map V.int) := by
  have := rowD_eq h
  subst this
  unfold encR at r
  cases r with
  | tup t1 t2 =>
    have := rpA_ints t2
    subst this
    exact ⟨_, rfl, t1⟩
theorem s_putM (i : Nat) {x : Str} {e : Expr} {f : Fe} {pn ps_ pos : Pos} {kc : Nat} {pc : Pos} (hu : X.A.units + 64 < cLine) (hN : X.N[i]? = some x) (he : PE X e (tD X.K f)) (hv : Vis X.env.scope x := by first | exact Or.inl rfl | exact Or.inr (Or.inl rfl) | exact Or.inr (Or.inr rfl)) (hd : (x == ("__debug__" : Str)) = false := by decide)
    (hcd : (x == ("__classdict__" : Str)) = false := by decide) (hs : swapsWith (.Constant (.bool true) kc pc) (some (.Subscript (.Name x pn) e ps_)) pos.line X.env = pure false := by rfl) :
    PS X (.Assign [.Subscript (.Name x pn) e ps_] (.Constant (.bool true) kc pc) pos) (tS X.K (gPutM i f)) := by
  refine ⟨fun pins s σ H D I ⟨H0, T0, M, T, ds, r, S, eg, n, q⟩ => ?_⟩
  unfold gPutM at eg
  split at eg
  · rename_i ks ei
    split at eg
    · rename_i hlen
      have hlen' := of_decide_eq_true hlen
      cases ef : f ds with
      | none => rw [ef] at eg; cases eg
      | some y =>
        rw [ef] at eg
        replace eg : ((rowD y).bind fun k => some (Res.nx (ds.set i (.m (if k ∈ ks then ks else ks ++ [k]))))) = some r := eg
        cases ey : rowD y with
        | none => rw [ey] at eg; cases eg
        | some k =>
          rw [ey] at eg
          cases eg
          obtain ⟨a, L, e1, ha, hm, rfl, ht⟩ := S.se.m ei
          refine wpAny_Assign_Subscript (thn ((pe_bl (X := X)).run pins s σ H (fun v H' => v = .bl true ∧ H' = H) I ⟨rfl, rfl⟩) fun u s1 ⟨v, H1, I1, rv, ev, eH⟩ => ?_) hs
          subst ev eH
          cases rv
          refine thn ((pe_var hN hv hd hcd).run pins s1 σ H1 (fun v H' => v = .ref a ∧ H' = H1) I1 ⟨_, e1, rfl, rfl⟩) fun u s2 ⟨v, H2, I2, rv, ev, eH⟩ => ?_
          subst ev eH
          cases rv
          refine thn (he.run pins s2 σ H2 _ I2 ⟨T, ds, y, S.se, ef, fun v H' sm r => (⟨sm, r⟩ : Same H2 H' ∧ Rp X.K T H' v y)⟩) fun u s3 ⟨v, H3, I3, rv, sm, ry⟩ => ?_
          obtain ⟨b, eb, tb⟩ := row_of ey ry
          subst eb
          cases rv
          have S3 := S.same sm
          have ht3 : ∀ p ∈ L, TpT X.K T H3 p.1 (p.2.map V.int) := fun p hp => (ht p hp).step (Step.same sm S.se.dom)
          refine d_setA (by omega) I3 (sm _ _ hm) (fun p hp => (ht3 p hp).sq) tb.sq (by rw [List.length_map] at hlen'; rw [sizeLine_eq]; omega) fun s4 I4 => ⟨σ, _, I4, n _ rfl T σ _ ?_⟩
          refine S3.putO ei rfl e1 ha rfl fun st => ⟨a, putA L b k, rfl, ha, upd_same, ?_, fun p hp => ?_⟩
          · unfold putA
            split
            · rfl
            · rw [List.map_append]; rfl
          · have hp' : p ∈ L ∨ p = (b, k) := by
              unfold putA at hp
              split at hp
              · exact .inl hp
              · rcases List.mem_append.mp hp with z | z
                · exact .inl z
                · exact .inr (List.mem_singleton.mp z)
            rcases hp' with z | z
            · exact (ht3 p z).step st
            · rw [z]; exact tb.step st
    · cases eg
  · cases eg
/-! the display {e: True} -/
def tDisp1 (K : PySem.W.Frag) (te : TE) : TE := fun σ H Q => ∀ p, H p = none → te σ (upd H p (DictO p [])) fun x H1 => ∃ b k, x = .ref b ∧ SqT K H1 b (k.map V.int) ∧ H1 p = some (DictO p []) ∧ Q (.ref p) (upd H1 p (DictO p [(b, k)]))
theorem dictO_empty {P : Program} {w : World} {H : Hp} (h : Heap) (hb : sysModules < h.objs.size) : ObjOk P w H (h.push { cls := .type "dict", data := .dict #[] }) h.objs.size (DictO h.objs.size []) :=
  dictO_new ⟨beq_eq_false_iff_ne.mpr (Ne.symm (Nat.ne_of_lt hb)), Nat.zero_le _, List.nodup_nil, _, #[], 0, Heap.get?_push_size _ rfl, ⟨rfl, rfl, rfl⟩, rfl, fun _ _ => rfl⟩
theorem pe_disp1 {e : Expr} {te : TE} {kc : Nat} {pc pos : Pos} (hu : X.A.units + 64 < cLine) (he : PE X e te) : PE X (.Dict [some e] [.Constant (.bool true) kc pc] pos) (tDisp1 X.K te) := by
  refine ⟨fun pins s σ H Q I q => ?_⟩
  have hn := I.hok.fresh (Nat.le_refl s.heap.objs.size)
  have I1 := I.laid (a := s.heap.objs.size) (o := DictO s.heap.objs.size []) (h' := s.heap.push { cls := .type "dict", data := .dict #[] }) (t' := s.toks) (fun _ _ z => Heap.get?_push_of_some _ z) (Nat.le_refl _) (dictO_empty s.heap I.big)
  rw [arm_eval_Dict, zip_pairTrees [some e] [.Constant (.bool true) kc pc] X.env pos rfl rfl, dictDisplay_pairs (pairTrees [some e] [.Constant (.bool true) kc pc] X.env pos) (by exact List.cons_ne_nil _ _) (by show 1 < 17; decide)]
  refine wpAny_bind (wpAny_standAt (wpAny_bind (wpAny_subDictH (knd := tupleKind (intKind X.prog X.w)) (Q := fun d s' => wpAny (model X.prog X.w) X.A (pure (Value.ref d)) (EP X pins σ Q) X.xe s') (by show X.A.units < cLine; omega) (by show 1 ≤ 15; decide) ?_)))
  refine pairTrees_cons_walk (thn (he.run pins _ σ _ _ I1 (q _ hn)) fun u s1 ⟨x, H1, I2, rx, b, k, ex, hb, hp, q1⟩ => ?_)
  subst ex
  cases rx
  refine thn ((pe_bl (X := X)).run pins s1 σ H1 (fun v H' => v = .bl true ∧ H' = H1) I2 ⟨rfl, rfl⟩) fun u s2 ⟨v, H2, I3, rv, ev, eH⟩ => ?_
  subst ev eH
  cases rv
  refine pairTrees_nil_walk ⟨[(k, b, .bool true)], ⟨rfl, rfl, I3.isT hb, trivial⟩, ?_, fun h' tk dd hs => ?_⟩
  · have R : MapAt s.heap.objs.size [] s2.heap := (I3.hok _ _ hp).1
    exact R.dictOf (P := X.prog) (w := X.w) fun _ z => nomatch z
  · have R : MapAt s.heap.objs.size [] s2.heap := (I3.hok _ _ hp).1
    have dd' : h'.DictOfH (tupleKind (intKind X.prog X.w)) s.heap.objs.size (([(b, k)] : List AR).map entA) := dd
    have he' : ∃ q, h'.get? s.heap.objs.size = some q := let ⟨q, _, _, hq, _⟩ := dd'; ⟨q, hq⟩
    exact wpAny_pure ⟨.ref _, _, d_write (t' := tk) I3 (by rw [hp]; exact True.intro) hs he' (dictO_new (.of R.1 (by show 1 ≤ sizeLine; decide) dd')), rfl, q1⟩
/-- x = {e: True} -/
def gNewM (i : Nat) (f : Fe) : Fs := fun ds => if noL ds && decide (i < ds.length) then (f ds).bind fun y => (rowD y).bind fun k => some (.nx (ds.set i (.m [k]))) else none
theorem s_newM (i : Nat) {x : Str} {e : Expr} {f : Fe} {kc : Nat} {pc pd pos pos' : Pos} (hu : X.A.units + 64 < cLine) (hN : X.N.Nodup) (hi : X.N[i]? = some x) (hx : Loc X.env.scope x) (he : PE X e (tD X.K f)) (hs : swapsWith (.Dict [some e] [.Constant (.bool true) kc pc] pd) (some (.Name x pos')) pos.line X.env = pure false := by rfl)
    (hf : X.fn x = true ∨ X.env.scope.names.lookup x = some .local := by first | exact .inl rfl | exact .inr rfl | assumption) :
    PS X (.Assign [.Name x pos'] (.Dict [some e] [.Constant (.bool true) kc pc] pd) pos) (tS X.K (gNewM i f)) := (ps_set hN hi hx (pe_disp1 hu he) hs hf).imp fun D σ H ⟨H0, T0, M, T, ds, r, S, eg, n, _⟩ => by
  unfold gNewM at eg
  split at eg
  · rename_i hnl
    rw [Bool.and_eq_true] at hnl
    have hn := hnl.1
    have hl := of_decide_eq_true hnl.2
    cases ef : f ds with
    | none => rw [ef] at eg; cases eg
    | some y =>
      rw [ef] at eg
      replace eg : ((rowD y).bind fun k => some (Res.nx (ds.set i (.m [k])))) = some r := eg
      cases ey : rowD y with
      | none => rw [ey] at eg; cases eg
      | some k =>
        rw [ey] at eg
        cases eg
        intro p hp
        have s1 : Same H (upd H p (DictO p [])) := Same.new hp
        refine ⟨T, ds, y, S.se.same s1, ef, fun v H1 s2 ry => ?_⟩
        obtain ⟨b, rfl, tb⟩ := row_of ey ry
        have s12 : Same H H1 := s1.trans s2
        refine ⟨b, k, rfl, tb.sq, s2 _ _ upd_same, n _ rfl (p :: T) _ _ ?_⟩
        have e1 : ∀ c o, H c = some o → upd H1 p (DictO p [(b, k)]) c = some o := fun c o z => by
          rw [upd_ne (fun w => by rw [w, hp] at z; cases z)]
          exact s12 c o z
        -- as if it were laid at once
        have S1 := S.newO (p := p) (o := DictO p []) (s' := .m []) (i := i) hn hp rfl fun _ => ⟨p, [], rfl, List.mem_cons_self, upd_same, rfl, fun _ z => nomatch z⟩
        have S2 := S1.same s2
        have S3 := S2.putO (i := i) (a := p) (s0 := .m []) (o := DictO p [(b, k)]) (s' := .m [k]) (List.getElem?_set_self hl) rfl (List.getElem?_set_self (by rw [← S.se.len]; exact hl)) List.mem_cons_self rfl fun st => ⟨p, [(b, k)], rfl, List.mem_cons_self, upd_same, rfl, fun q hq => by
          rw [List.mem_singleton.mp hq]
          have tb' : TpT X.K (p :: T) H1 b (k.map V.int) := by
            rcases tb with ⟨g1, g2⟩ | g
            · refine .inl ⟨fun z => ?_, g2⟩
              rcases List.mem_cons.mp z with z | z
              · rw [z, s2 _ _ upd_same] at g2; cases g2
              · exact g1 z
            · exact .inr g
          exact tb'.step st⟩
        rw [List.set_set] at S3
        exact S3
  · cases eg
/-! sorted(x), x the dict -/
theorem items_keys {P : Program} {w : World} {L : List AR} {es : Array DictEntry} {acc : Array Value} (he : es.toList = L.map fun q => entryOfKey (tupleKind (intKind P w)) (q.2, q.1, Value.bool true)) (it : ItemsOf (fun i v => ∃ en : DictEntry, es[i]? = some en ∧ v = en.key) acc es.size) :
    acc.toList = L.map fun q => Value.ref q.1 := by
  have hl1 : es.size = L.length := by
    have z := congrArg List.length he
    rwa [Array.length_toList, List.length_map] at z
  have hl : acc.toList.length = L.length := by rw [Array.length_toList, it.1]; exact hl1
  refine List.ext_getElem? fun j => ?_
  rw [List.getElem?_map]
  cases hj : acc.toList[j]? with
  | none =>
    have g1 := List.getElem?_eq_none_iff.mp hj
    rw [List.getElem?_eq_none (by omega)]; rfl
  | some v =>
    obtain ⟨en, hen, hv⟩ := it.2 j v (by rw [← Array.getElem?_toList]; exact hj)
    rw [← Array.getElem?_toList, he, List.getElem?_map] at hen
    cases hb : L[j]? with
    | none => rw [hb] at hen; cases hen
    | some q =>
      rw [hb] at hen
      have e2 := Option.some.inj hen
      rw [hv, ← e2]; rfl
def rSortMA (K : PySem.W.Frag) : List V → Hp → VK → Prop := fun vs H Q => ∃ (a : Addr) (L : List AR), vs = [V.ref a] ∧ H a = some (DictO a L) ∧ (∀ p ∈ L, SqT K H p.1 (p.2.map V.int)) ∧ (∀ p ∈ L, p.2 ≠ []) ∧ L.length < 64 ∧
  ∀ (L' : List AR) (p : Addr), L'.Perm L → (L.map (·.2)).Nodup → (L'.Pairwise fun q r => ¬ r.2 < q.2) → H p = none → Q (.ref p) (upd H p (.lst (L'.map fun q => V.ref q.1)))
theorem cr_sortMA (hc : X.calm = true) (hu : X.A.units + 64 < cLine) : CallR X (.builtin "sorted") (rSortMA X.K) := by
  intro pins s σ H vs us Q I r h
  obtain ⟨a, L, rfl, ha, hk, hB, h64, q⟩ := h
  obtain ⟨z1, z2, nd, o, es, ep, ho, hx, hdt, hes⟩ : MapAt a L s.heap := (I.hok a _ ha).1
  rw [Vals.ref1 r]
  have hsz : es.size = L.length := by
    have z := congrArg List.length (hes X.prog X.w)
    rwa [Array.length_toList, List.length_map] at z
  refine Calls.call_function_entry PyProof.Rows.kind_sorted PyProof.Rows.plain_sorted PyProof.Rows.entry_sorted (PyProof.Rows.args_sorted1 _) ?_
  unfold Builtin.«sorted»
  refine wpAny_bind (m := checkCount "sorted" 1 1 _) (wpAny_pure ?_)
  refine wpAny_bind (PySem.W.kdu_collect (A := X.A.in1) (kdl_raw z1 hx hdt) (I.ok.hd hc) ho (by omega) fun h' tk acc kp it => ?_)
  have ea := items_keys (hes X.prog X.w) it
  have hlen : acc.toList.length < 64 := by rw [ea, List.length_map]; exact h64
  have I1 : Inv X pins σ H { s with heap := h', toks := tk } := I.kept kp
  refine wpAny_bind (wpAny_newList ?_ (by rw [sizeLine_eq]; omega))
  generalize eus : acc.toList = us' at ea hlen ⊢
  have hobj : (h'.push (PyProof.Rows.seqObj "list" us'.toArray 0)).get? h'.objs.size = some (PyProof.Rows.seqObj "list" us'.toArray 0) := Heap.get?_push_size _ rfl
  have tups : ∀ p ∈ L, TS.TupInts (h'.push (PyProof.Rows.seqObj "list" us'.toArray 0)) (.ref p.1) p.2 := fun p hp => (tupI_raw I1 (hk p hp)).keeps fun b u e _ => Heap.get?_push_of_some _ e
  have er : PySem.W.EachIs (fun v p => ∃ as, Reads (h'.push (PyProof.Rows.seqObj "list" us'.toArray 0)) v (encA p) as ∧ h'.objs.size ∉ as) us' L := each_refs2 ea.symm fun p hp => ⟨[], reads_row (tups p hp), by simp⟩
  have e0 : PySem.W.EachIs (fun v (p : AR) => v = Value.ref p.1) us' L := each_refs2 ea.symm fun p _ => rfl
  refine wpAny_bind (wpAny_holding (PySem.W.list_sort_data (s := { s with heap := h'.push (PyProof.Rows.seqObj "list" us'.toArray 0), toks := tk }) (enc := encA) hobj e0 er (alike_A L) (sortable_A hB) (by rw [sizeLine_eq]; omega)
    (fun p hp => by
      have hd1 : (encA p).depth = 1 := depth_encR p.2
      have hin1 : X.A.in1.units = X.A.units + 1 := rfl
      rw [hd1, hin1]
      omega) fun out hlo eo2 => ?_))
  obtain ⟨mp, mo⟩ := merge_A L
  obtain ⟨c, hcc⟩ := PyProof.Rows.sortedHeap_at (vs := us') (out := out.toArray) hobj
  have hn : H h'.objs.size = none := I1.hok.fresh (Nat.le_refl _)
  have hv : Vals ((L.mergeSort (PySem.W.dataLe false encA)).map fun q => V.ref q.1) out := by rw [refs_each eo2]; exact vals_of_refs _
  refine wpAny_pure ⟨_, rfl, .ref _, _, I1.laid (t' := tk) (o := .lst ((L.mergeSort (PySem.W.dataLe false encA)).map fun q => V.ref q.1)) (fun b u e => ?_) (Nat.le_refl _) ⟨?_, out, c, hv, hcc⟩, rfl, q _ _ mp nd mo hn⟩
  · have hlt := Heap.lt_size e
    show (PyProof.Rows.sortedHeap (h'.push (PyProof.Rows.seqObj "list" us'.toArray 0)) h'.objs.size us' out.toArray).get? b = some u
    rw [PyProof.Rows.sortedHeap_old (Nat.ne_of_lt hlt) (by rw [PyProof.Rows.size_push']; exact Nat.lt_succ_of_lt hlt)]
    exact Heap.get?_push_of_some _ e
  · rw [List.length_map, mp.length_eq, sizeLine_eq]; omega
def fMSort (i : Nat) : Fe := fun ds => match ds[i]? with
  | some (.m ks) => if goodRows ks then some (.list ((sortU ks).map encR)) else none
  | _ => none
theorem d_sortM (i : Nat) {x : Str} {p pn pos : Pos} (hc : X.calm = true) (hu : X.A.units + 64 < cLine) (hg : Gl X "sorted") (hm : X.mg "sorted" = none) (hN : X.N[i]? = some x) (hv : Vis X.env.scope x := by first | exact Or.inl rfl | exact Or.inr (Or.inl rfl) | exact Or.inr (Or.inr rfl)) (hd : (x == ("__debug__" : Str)) = false := by decide)
    (hcd : (x == ("__classdict__" : Str)) = false := by decide) (hs : starEach [.Name x pn] X.env = (false, eval (.Name x pn) X.env) :: starEach [] X.env := by rfl) : PE X (.Call (.Name "sorted" p) [.Name x pn] [] pos) (tD X.K (fMSort i)) :=
  (pe_callB (cr_sortMA hc hu) hg hm (by decide +kernel) (pa_cons (pe_var hN hv hd hcd) pa_nil hs) (by decide) (by decide) hs).imp fun σ H Q ⟨T, ds, d, S, e, q⟩ => by
    unfold fMSort at e
    split at e
    · rename_i ks ei
      split at e
      · rename_i hg'
        cases e
        obtain ⟨a, L, e1, ha, hm', rfl, ht⟩ := S.m ei
        obtain ⟨g1, g2⟩ := goodRows_of hg'
        refine ⟨_, e1, a, L, rfl, hm', fun p hp => (ht p hp).sq, fun p hp => g2 _ (List.mem_map.mpr ⟨p, hp, rfl⟩), by rw [List.length_map] at g1; exact g1, fun L' p pm nd pw hp => ?_⟩
        refine q _ _ (Same.new hp) ?_
        have e5 : L'.map (·.2) = sortU (L.map (·.2)) := by
          refine asc_one (asc_strict ?_ ((pm.map (·.2)).nodup_iff.mpr nd)) (sortU_sorted _) fun z => ?_
          · exact List.pairwise_map.mpr pw
          · rw [mem_sortU]
            exact (pm.map (·.2)).mem_iff
        rw [← e5]
        exact Rp.newL (rows_rp fun p hp => ht p (pm.mem_iff.mp hp)) S.dom hp
      · cases e
    · cases e
end
end Nf
set_option Elab.async false
set_option linter.all false
set_option maxRecDepth 100000
set_option maxHeartbeats 4000000
/-! zip of a list and a tuple -/
namespace NfM
open PySem
open PySem.Sem (wp)
section
variable {prog : Program} {w : World} {A : Around} {E : Value → Shared → Prop} {s : Shared}
theorem mz_next_item {q J O u v a1 a2 : Addr} {n1 n2 : Nat} {xs ys : Array Value} {x y a b : Value} {Q : Value → Shared → Prop} (Ap : ZipApart q J O u v a1 a2)
    (zz : IsZip s.heap q J O .none) (pI : IsPair s.heap J (.ref u) (.ref v)) (pO : IsPair s.heap O a b)
    (t1 : s.heap.IsListIter u a1 n1) (t2 : s.heap.IsTupleIter v a2 n2) (m1 : s.heap.IsList a1 xs) (m2 : s.heap.IsTuple a2 ys) (ex : xs[n1]? = some x) (ey : ys[n2]? = some y)
    (fin : ∀ h', IsZip h' q J O (rawInt s.heap.objs.size) → IsPair h' O x y → h'.IsListIter u a1 (n1 + 1) → h'.IsTupleIter v a2 (n2 + 1) → IsPair h' s.heap.objs.size x y → h'.objs.size = s.heap.objs.size + 1 →
      (∀ c o, c ≠ q → c ≠ O → c ≠ u → c ≠ v → s.heap.get? c = some o → h'.get? c = some o) → Q (.ref s.heap.objs.size) { s with heap := h' }) :
    wpAny (model prog w) A (Builtin.«zip.__next__» ⟨[.ref q], []⟩) (fun fin s' => ∃ v, fin = .done (.ret v) ∧ Q v s') E s := by
  show wpAny _ _ (field (.ref q) 2 >>= _) _ _ _
  refine wpAny_bind (wpAny_field zz rfl (x := .bool false) rfl ?_)
  show wpAny _ _ (field (.ref q) 3 >>= _) _ _ _
  refine wpAny_bind (wpAny_field zz rfl (x := .ref J) rfl ?_)
  refine wpAny_bind (wpAny_seqItems pI rfl ?_)
  show wpAny _ _ (Builtin.SmallTypes.ownedTupleIsFree (.ref q) >>= _) _ _ _
  refine wpAny_bind ?_
  unfold Builtin.SmallTypes.ownedTupleIsFree
  refine wpAny_bind (wpAny_field zz rfl (x := .none) rfl (wpAny_pure ?_))
  simp only [if_true]
  refine wpAny_bind (wpAny_rule ?_)
  refine wpAny_bind (wpAny_field zz rfl (x := .ref O) rfl ?_)
  refine wpAny_bind (wpAny_setField_rec zz (by simp) fun g₁ zz₁ sb₁ => ?_)
  replace zz₁ : IsZip g₁ q J O .ellipsis := zz₁
  refine wpAny_bind ?_
  simp only [List.zipIdx_cons, List.zipIdx_nil, List.forIn_cons, List.forIn_nil]
  refine wpAny_bind (wpAny_bind (wpAny_onRaise ?_))
  show wpAny _ _ (Builtin.SmallTypes.nextOf (.ref u) >>= _) _ _ _
  refine wpAny_bind (wpAny_nextOf_list_item (t1.extBut sb₁.extBut Ap.i1z) (m1.extBut sb₁.extBut Ap.l1z) ex fun g₂ t1₂ sb₂ => wpAny_pure ?_)
  have pO₂ : IsPair g₂ O a b := sb₂.extBut _ _ Ap.TOi1 (sb₁.extBut _ _ Ap.TOz pO)
  refine wpAny_bind (wpAny_seqItems pO₂ rfl ?_)
  refine wpAny_bind (wpAny_updateSeq_pair pO₂ fun g₃ pO₃ sb₃ => ?_)
  replace pO₃ : IsPair g₃ O x b := pO₃
  refine wpAny_bind (wpAny_letGo (wpAny_pure ?_))
  refine wpAny_bind (wpAny_bind (wpAny_onRaise ?_))
  show wpAny _ _ (Builtin.SmallTypes.nextOf (.ref v) >>= _) _ _ _
  refine wpAny_bind (RZ.nextOf_tuple_item (((t2.extBut sb₁.extBut Ap.i2z).extBut sb₂.extBut Ap.i12.symm).extBut sb₃.extBut Ap.TOi2.symm)
    (((m2.extBut sb₁.extBut Ap.l2z).extBut sb₂.extBut Ap.l2i1).extBut sb₃.extBut Ap.l2TO) ey fun g₄ t2₄ sb₄ => wpAny_pure ?_)
  have pO₄ : IsPair g₄ O x b := sb₄.extBut _ _ Ap.TOi2 pO₃
  refine wpAny_bind (wpAny_seqItems pO₄ rfl ?_)
  refine wpAny_bind (wpAny_updateSeq_pair pO₄ fun g₅ pO₅ sb₅ => ?_)
  replace pO₅ : IsPair g₅ O x y := pO₅
  refine wpAny_bind (wpAny_letGo (wpAny_pure (wpAny_pure ?_)))
  refine wpAny_bind (wpAny_seqItems pO₅ rfl ?_)
  refine wpAny_bind (wpAny_newTuple ?_)
  have sz : g₅.objs.size = s.heap.objs.size := by rw [sb₅.1, sb₄.1, sb₃.1, sb₂.1, sb₁.1]
  have zz₅ : IsZip g₅ q J O .ellipsis := sb₅.extBut _ _ Ap.TOz.symm (sb₄.extBut _ _ Ap.i2z.symm (sb₃.extBut _ _ Ap.TOz.symm (sb₂.extBut _ _ Ap.i1z.symm zz₁)))
  have kp₅ : ∀ c o, c ≠ q → c ≠ O → c ≠ u → c ≠ v → s.heap.get? c = some o → g₅.get? c = some o := fun c o d1 d2 d3 d4 e =>
    sb₅.extBut _ _ d2 (sb₄.extBut _ _ d4 (sb₃.extBut _ _ d2 (sb₂.extBut _ _ d3 (sb₁.extBut _ _ d1 e))))
  have t1₅ : g₅.IsListIter u a1 (n1 + 1) := ((t1₂.extBut sb₃.extBut Ap.TOi1.symm).extBut sb₄.extBut Ap.i12).extBut sb₅.extBut Ap.TOi1.symm
  have t2₅ : g₅.IsTupleIter v a2 (n2 + 1) := t2₄.extBut sb₅.extBut Ap.TOi2.symm
  have zlt : q < g₅.objs.size := Heap.lt_size zz₅
  have Olt : O < g₅.objs.size := Heap.lt_size pO₅
  have lt1 : u < g₅.objs.size := by obtain ⟨_, e, _⟩ := t1₅; exact Heap.lt_size e
  have lt2 : v < g₅.objs.size := by obtain ⟨_, e, _⟩ := t2₅; exact Heap.lt_size e
  show wpAny _ _ (Builtin.SmallTypes.ownedTupleHandOut (.ref q) (.ref g₅.objs.size) >>= _) _ _ _
  refine wpAny_bind ?_
  unfold Builtin.SmallTypes.ownedTupleHandOut
  have zz₆ : IsZip (g₅.push { cls := .type "tuple", data := .seq #[x, y] }) q J O .ellipsis := Heap.get?_push_of_some _ zz₅
  refine wpAny_bind (wpAny_setField_rec zz₆ (by simp) fun g₇ zz₇ sb₇ => ?_)
  replace zz₇ : IsZip g₇ q J O (rawInt g₅.objs.size) := zz₇
  refine wpAny_setField_rec zz₇ (by simp) fun g₈ zz₈ sb₈ => ?_
  replace zz₈ : IsZip g₈ q J O (rawInt g₅.objs.size) := zz₈
  have mv : ∀ c o, c ≠ q → g₅.get? c = some o → g₈.get? c = some o := fun c o d1 e => sb₈.extBut _ _ d1 (sb₇.extBut _ _ d1 (Heap.get?_push_of_some _ e))
  have pT₈ : IsPair g₈ g₅.objs.size x y := sb₈.extBut _ _ (Nat.ne_of_gt zlt) (sb₇.extBut _ _ (Nat.ne_of_gt zlt) (Heap.get?_push_size _ rfl))
  have z8 : g₈.objs.size = g₅.objs.size + 1 := by rw [sb₈.1, sb₇.1, Heap.size_push]
  rw [sz] at zz₈ pT₈ z8
  refine wpAny_pure ⟨_, rfl, ?_⟩
  show Q (.ref g₅.objs.size) _
  rw [sz]
  exact fin g₈ zz₈ (mv _ _ Ap.TOz pO₅) (t1₅.at fun o e => mv _ o Ap.i1z e) (t2₅.at fun o e => mv _ o Ap.i2z e) pT₈ z8 fun c o d1 d2 d3 d4 e => mv c o d1 (kp₅ c o d1 d2 d3 d4 e)
theorem mz_next_end {q J O u v a1 a2 : Addr} {n1 n2 : Nat} {xs ys : Array Value} {a b : Value} {Q : Fin → Shared → Prop} (hh : A.handled = none) (Ap : ZipApart q J O u v a1 a2)
    (zz : IsZip s.heap q J O .none) (pI : IsPair s.heap J (.ref u) (.ref v)) (pO : IsPair s.heap O a b)
    (t1 : s.heap.IsListIter u a1 n1) (t2 : s.heap.IsTupleIter v a2 n2) (m1 : s.heap.IsList a1 xs) (m2 : s.heap.IsTuple a2 ys) (stop : xs[n1]? = none ∨ ys[n2]? = none)
    (err : ∀ h' e, (∀ c o, c ≠ q → c ≠ O → c ≠ u → c ≠ v → s.heap.get? c = some o → h'.get? c = some o) → (∃ o, h'.get? e = some o ∧ o.cls = .type "StopIteration") → E (.ref e) { s with heap := h' }) :
    wpAny (model prog w) A (Builtin.«zip.__next__» ⟨[.ref q], []⟩) Q E s := by
  show wpAny _ _ (field (.ref q) 2 >>= _) _ _ _
  refine wpAny_bind (wpAny_field zz rfl (x := .bool false) rfl ?_)
  show wpAny _ _ (field (.ref q) 3 >>= _) _ _ _
  refine wpAny_bind (wpAny_field zz rfl (x := .ref J) rfl ?_)
  refine wpAny_bind (wpAny_seqItems pI rfl ?_)
  show wpAny _ _ (Builtin.SmallTypes.ownedTupleIsFree (.ref q) >>= _) _ _ _
  refine wpAny_bind ?_
  unfold Builtin.SmallTypes.ownedTupleIsFree
  refine wpAny_bind (wpAny_field zz rfl (x := .none) rfl (wpAny_pure ?_))
  simp only [if_true]
  refine wpAny_bind (wpAny_rule ?_)
  refine wpAny_bind (wpAny_field zz rfl (x := .ref O) rfl ?_)
  refine wpAny_bind (wpAny_setField_rec zz (by simp) fun g₁ zz₁ sb₁ => ?_)
  replace zz₁ : IsZip g₁ q J O .ellipsis := zz₁
  refine wpAny_bind ?_
  simp only [List.zipIdx_cons, List.zipIdx_nil, List.forIn_cons, List.forIn_nil]
  refine wpAny_bind (wpAny_bind (wpAny_onRaise ?_))
  show wpAny _ _ (Builtin.SmallTypes.nextOf (.ref u) >>= _) _ _ _
  cases ex : xs[n1]? with
  | none =>
    refine wpAny_bind (wpAny_nextOf_list_end hh (t1.extBut sb₁.extBut Ap.i1z) (m1.extBut sb₁.extBut Ap.l1z) ex fun g₂ e sb₂ he => ?_)
    obtain ⟨ob, hob, hcb⟩ := he
    have zz₂ : IsZip g₂ q J O .ellipsis := sb₂ _ _ Ap.i1z.symm zz₁
    have nez : e ≠ q := fun x => by subst x; rw [zz₂] at hob; cases hob; simp at hcb
    refine wpAny_setField_rec zz₂ (by simp) fun g₃ _ sb₃ => err g₃ e (fun c o d1 _ d3 _ x => sb₃.extBut _ _ d1 (sb₂ _ _ d3 (sb₁.extBut _ _ d1 x))) ⟨ob, sb₃.extBut _ _ nez hob, hcb⟩
  | some x =>
    have ey : ys[n2]? = none := by rcases stop with h | h; rw [ex] at h; cases h; exact h
    refine wpAny_bind (wpAny_nextOf_list_item (t1.extBut sb₁.extBut Ap.i1z) (m1.extBut sb₁.extBut Ap.l1z) ex fun g₂ t1₂ sb₂ => wpAny_pure ?_)
    have pO₂ : IsPair g₂ O a b := sb₂.extBut _ _ Ap.TOi1 (sb₁.extBut _ _ Ap.TOz pO)
    refine wpAny_bind (wpAny_seqItems pO₂ rfl ?_)
    refine wpAny_bind (wpAny_updateSeq_pair pO₂ fun g₃ pO₃ sb₃ => ?_)
    refine wpAny_bind (wpAny_letGo (wpAny_pure ?_))
    refine wpAny_bind (wpAny_bind (wpAny_onRaise ?_))
    show wpAny _ _ (Builtin.SmallTypes.nextOf (.ref v) >>= _) _ _ _
    refine wpAny_bind (RZ.nextOf_tuple_end hh (((t2.extBut sb₁.extBut Ap.i2z).extBut sb₂.extBut Ap.i12.symm).extBut sb₃.extBut Ap.TOi2.symm)
      (((m2.extBut sb₁.extBut Ap.l2z).extBut sb₂.extBut Ap.l2i1).extBut sb₃.extBut Ap.l2TO) ey fun g₄ e sb₄ he => ?_)
    obtain ⟨ob, hob, hcb⟩ := he
    have zz₄ : IsZip g₄ q J O .ellipsis := sb₄ _ _ Ap.i2z.symm (sb₃.extBut _ _ Ap.TOz.symm (sb₂.extBut _ _ Ap.i1z.symm zz₁))
    have nez : e ≠ q := fun x => by subst x; rw [zz₄] at hob; cases hob; simp at hcb
    refine wpAny_setField_rec zz₄ (by simp) fun g₅ _ sb₅ => err g₅ e (fun c o d1 d2 d3 d4 x => sb₅.extBut _ _ d1 (sb₄ _ _ d4 (sb₃.extBut _ _ d2 (sb₂.extBut _ _ d3 (sb₁.extBut _ _ d1 x))))) ⟨ob, sb₅.extBut _ _ nez hob, hcb⟩
theorem mz_pyNext_item {q J O u v a1 a2 : Addr} {n1 n2 : Nat} {xs ys : Array Value} {x y a b : Value} {Q : Option Value → Shared → Prop} (Ap : ZipApart q J O u v a1 a2)
    (zz : IsZip s.heap q J O .none) (pI : IsPair s.heap J (.ref u) (.ref v)) (pO : IsPair s.heap O a b)
    (t1 : s.heap.IsListIter u a1 n1) (t2 : s.heap.IsTupleIter v a2 n2) (m1 : s.heap.IsList a1 xs) (m2 : s.heap.IsTuple a2 ys) (ex : xs[n1]? = some x) (ey : ys[n2]? = some y)
    (fin : ∀ h', IsZip h' q J O (rawInt s.heap.objs.size) → IsPair h' O x y → h'.IsListIter u a1 (n1 + 1) → h'.IsTupleIter v a2 (n2 + 1) → IsPair h' s.heap.objs.size x y → h'.objs.size = s.heap.objs.size + 1 →
      (∀ c o, c ≠ q → c ≠ O → c ≠ u → c ≠ v → s.heap.get? c = some o → h'.get? c = some o) → Q (some (.ref s.heap.objs.size)) { s with heap := h' }) :
    wpAny (model prog w) A (pyNext (.ref q)) Q E s := by
  have hT : s.TypeIs (.ref q) "zip" := ⟨_, zz, rfl⟩
  unfold pyNext
  exact wpAny_bind (wpAny_attempt (wpAny_callSpecial?_slot (name := Str.ofString "__next__") hT F.slot_zip_next
    (wpAny_call_entry F.slot_zip_next hT F.entry_zip_next
      (mz_next_item Ap zz pI pO t1 t2 m1 m2 ex ey fun h' b1 b2 b3 b4 b5 b6 b7 => wpAny_pure (fin h' b1 b2 b3 b4 b5 b6 b7)) (F.args_zip_next_1 _))))
theorem mz_pyNext_end {q J O u v a1 a2 : Addr} {n1 n2 : Nat} {xs ys : Array Value} {a b : Value} {Q : Option Value → Shared → Prop} (hh : A.handled = none) (Ap : ZipApart q J O u v a1 a2)
    (zz : IsZip s.heap q J O .none) (pI : IsPair s.heap J (.ref u) (.ref v)) (pO : IsPair s.heap O a b)
    (t1 : s.heap.IsListIter u a1 n1) (t2 : s.heap.IsTupleIter v a2 n2) (m1 : s.heap.IsList a1 xs) (m2 : s.heap.IsTuple a2 ys) (stop : xs[n1]? = none ∨ ys[n2]? = none)
    (fin : ∀ h', (∀ c o, c ≠ q → c ≠ O → c ≠ u → c ≠ v → s.heap.get? c = some o → h'.get? c = some o) → Q none { s with heap := h' }) : wpAny (model prog w) A (pyNext (.ref q)) Q E s := by
  have hT : s.TypeIs (.ref q) "zip" := ⟨_, zz, rfl⟩
  unfold pyNext
  refine wpAny_bind (wpAny_attempt (wpAny_callSpecial?_slot (name := Str.ofString "__next__") hT F.slot_zip_next
    (wpAny_call_entry F.slot_zip_next hT F.entry_zip_next (mz_next_end hh Ap zz pI pO t1 t2 m1 m2 stop fun h' e kp he => ?_) (F.args_zip_next_1 _))))
  obtain ⟨o, ho, hc⟩ := he
  refine wpAny_bind (wpAny_isInstance (T := "StopIteration") (b := true) ⟨o, ho, hc⟩ isSubtype_stop ?_)
  exact wpAny_pure (fin _ kp)
end
abbrev mzH1 (h : Heap) (a1 : Addr) : Heap := h.push { cls := .type "list_iterator", data := .fields #[.ref a1, .int 0 0] }
abbrev mzH2 (h : Heap) (a1 a2 : Addr) : Heap := (mzH1 h a1).push { cls := .type "tuple_iterator", data := .fields #[.ref a2, .int 0 0] }
abbrev mzH3 (h : Heap) (a1 a2 : Addr) : Heap := (mzH2 h a1 a2).push { cls := .type "tuple", data := .seq #[.ref h.objs.size, .ref (mzH1 h a1).objs.size] }
abbrev mzH4 (h : Heap) (a1 a2 : Addr) : Heap := (mzH3 h a1 a2).push { cls := .type "tuple", data := .seq #[.none, .none] }
abbrev mzH5 (h : Heap) (a1 a2 : Addr) : Heap := (mzH4 h a1 a2).push { cls := .type "zip", data := .fields #[.none, .bool false, .bool false, .ref (mzH2 h a1 a2).objs.size, .ref (mzH3 h a1 a2).objs.size] }
theorem mz_new (a1 a2 : Addr) (xs ys : Array Value) :
    Meets (Builtin.«zip.__new__» ⟨[.type "zip", .ref a1, .ref a2], []⟩) (fun _ R s => s.heap.IsList a1 xs ∧ s.heap.IsTuple a2 ys ∧
      R (.ok (.ret (.ref (mzH4 s.heap a1 a2).objs.size))) { s with heap := mzH5 s.heap a1 a2 }) :=
  .of_wp fun prog w A R s h => by
    obtain ⟨hp, g, d, tk, os⟩ := s; obtain ⟨m1, m2, h⟩ := h
    have sub := sub_zip
    have L1 : Heap.IsList (Shared.heap ⟨hp, g, d, tk, os⟩) a1 xs := m1
    have L2 : Heap.IsTuple (Shared.heap ⟨hp.push { cls := .type "list_iterator", data := .fields #[.ref a1, .int 0 0] }, g, d, tk, os⟩) a2 ys := Heap.IsTuple.push m2 _
    wp_walk using wpAny_pyIter_list L1, wpAny_pyIter_tuple L2
    exact ⟨_, rfl, h⟩
section
variable {prog : Program} {w : World} {A : Around} {E : Value → Shared → Prop} {s : Shared}
theorem mz_call {a1 a2 : Addr} {xs ys : Array Value} {Q : Value → Shared → Prop} (m1 : s.heap.IsList a1 xs) (m2 : s.heap.IsTuple a2 ys)
    (h : ∀ h', IsZip h' (s.heap.objs.size + 4) (s.heap.objs.size + 2) (s.heap.objs.size + 3) .none → IsPair h' (s.heap.objs.size + 2) (.ref s.heap.objs.size) (.ref (s.heap.objs.size + 1)) →
      IsPair h' (s.heap.objs.size + 3) .none .none → h'.IsListIter s.heap.objs.size a1 0 → h'.IsTupleIter (s.heap.objs.size + 1) a2 0 → h'.objs.size = s.heap.objs.size + 5 →
      (∀ c o, s.heap.get? c = some o → h'.get? c = some o) → Q (.ref (s.heap.objs.size + 4)) { s with heap := h' }) :
    wpAny (model prog w) A (call (.type "zip") [.ref a1, .ref a2]) Q E s := by
  refine callType_new F.called_zip (by decide) (F.typeCall_zip_2 _ _) (F.newCall_zip_2 _ _) (fun obj => F.args_object_init_3 obj _ _) F.entry_zip_new
    (mz_new a1 a2 xs ys) ⟨m1, m2, ?_⟩
  have y1 : (mzH1 s.heap a1).objs.size = s.heap.objs.size + 1 := Heap.size_push ..
  have y2 : (mzH2 s.heap a1 a2).objs.size = s.heap.objs.size + 2 := by rw [Heap.size_push, y1]
  have y3 : (mzH3 s.heap a1 a2).objs.size = s.heap.objs.size + 3 := by rw [Heap.size_push, y2]
  have y4 : (mzH4 s.heap a1 a2).objs.size = s.heap.objs.size + 4 := by rw [Heap.size_push, y3]
  have y5 : (mzH5 s.heap a1 a2).objs.size = s.heap.objs.size + 5 := by rw [Heap.size_push, y4]
  have f5 : (mzH5 s.heap a1 a2).get? (mzH4 s.heap a1 a2).objs.size = some _ := Heap.get?_push_size _ rfl
  have f4 : (mzH5 s.heap a1 a2).get? (mzH3 s.heap a1 a2).objs.size = some _ := Heap.get?_push_of_some _ (Heap.get?_push_size _ rfl)
  have f3 : (mzH5 s.heap a1 a2).get? (mzH2 s.heap a1 a2).objs.size = some _ := Heap.get?_push_of_some _ (Heap.get?_push_of_some _ (Heap.get?_push_size _ rfl))
  have f2 : (mzH5 s.heap a1 a2).get? (mzH1 s.heap a1).objs.size = some _ := Heap.get?_push_of_some _ (Heap.get?_push_of_some _ (Heap.get?_push_of_some _ (Heap.get?_push_size _ rfl)))
  have f1 : (mzH5 s.heap a1 a2).get? s.heap.objs.size = some _ := Heap.get?_push_of_some _ (Heap.get?_push_of_some _ (Heap.get?_push_of_some _ (Heap.get?_push_of_some _ (Heap.get?_push_size _ rfl))))
  show _ ∧ _
  rw [y2, y3, y4] at f5
  rw [y1, y2] at f3
  rw [y3] at f4
  rw [y1] at f2
  rw [y4]
  exact ⟨⟨_, f5, rfl⟩, h _ f5 f3 f4 ⟨_, f1, rfl, rfl⟩ ⟨_, f2, rfl, rfl⟩ y5 fun c o x =>
    Heap.get?_push_of_some _ (Heap.get?_push_of_some _ (Heap.get?_push_of_some _ (Heap.get?_push_of_some _ (Heap.get?_push_of_some _ x))))⟩
end
end NfM
namespace Nf
open PySem PySem.Spec L2
/-- a list at a and a tuple at b, the items in new pairs -/
def ItzM (K : PySem.W.Frag) (a b : Addr) : It :=
  ⟨fun i H => ∃ (xs ys : List V) (x y : V), SqL K H a xs ∧ SqT K H b ys ∧ xs[i]? = some x ∧ ys[i]? = some y,
    fun i H v G => ∃ p x y, v = .ref p ∧ H p = none ∧ G = upd H p (.tup [x, y]) ∧ (∀ xs, SqL K H a xs → xs[i]? = some x) ∧ ∀ ys, SqT K H b ys → ys[i]? = some y,
    fun i H => ∃ xs ys : List V, SqL K H a xs ∧ SqT K H b ys ∧ (xs.length ≤ i ∨ ys.length ≤ i)⟩
theorem turn_zipM {P : Program} {w : World} {K : PySem.W.Frag} {elts : List Expr} {kk : Nat} {tpos : Pos} {a b q J O u v : Addr} (Ap : ZipApart q J O u v a b) :
    Turn P w K (.Tuple elts kk tpos) (ItzM K a b) [q, J, O, u, v] q (fun i h => IsZip h q J O .none ∧ IsPair h J (.ref u) (.ref v) ∧ (∃ x y, IsPair h O x y) ∧ h.IsListIter u a i ∧ h.IsTupleIter v b i) where
  mem := by simp
  obj := fun i h st c hc => by
    obtain ⟨zz, pJ, ⟨x, y, pO⟩, ⟨o1, e1, _, d1⟩, ⟨o2, e2, _, d2⟩⟩ := st
    have which : c = q ∨ c = J ∨ c = O ∨ c = u ∨ c = v := by simpa using hc
    rcases which with e | e | e | e | e
    · rw [e]; exact ⟨_, zz, fun _ r => nomatch r⟩
    · rw [e]; exact ⟨_, pJ, fun _ r => nomatch r⟩
    · rw [e]; exact ⟨_, pO, fun _ r => nomatch r⟩
    · rw [e]; exact ⟨o1, e1, fun _ r => by rw [d1] at r; cases r⟩
    · rw [e]; exact ⟨o2, e2, fun _ r => by rw [d2] at r; cases r⟩
  keep := fun i h h' st k => by
    obtain ⟨zz, pJ, ⟨x, y, pO⟩, t1, t2⟩ := st
    exact ⟨k q (by simp) _ zz, k J (by simp) _ pJ, ⟨x, y, k O (by simp) _ pO⟩, t1.at fun o e => k u (by simp) o e, t2.at fun o e => k v (by simp) o e⟩
  item := by
    intro X eP ew eK hc i pins s σ H E I hf st hg
    subst eP ew eK
    obtain ⟨zz, pJ, ⟨x0, y0, pO⟩, t1, t2⟩ := st
    obtain ⟨xs, ys, x, y, hxs, hys, hx, hy⟩ := hg
    obtain ⟨its, rv, m1, _⟩ := I.list hxs
    obtain ⟨its2, rv2, m2, _⟩ := I.tuple hys
    obtain ⟨w1, hw1, rw1⟩ := rv.get hx
    obtain ⟨w2, hw2, rw2⟩ := rv2.get hy
    have qlt : q < s.heap.objs.size := Heap.lt_size zz
    refine NfM.mz_pyNext_item Ap zz pJ pO t1 t2 m1.isList m2 (x := w1) (y := w2) (by simpa using hw1) (by simpa using hw2) fun h' z' O' t1' t2' pT hsz hk => ?_
    refine ⟨_, rfl, wpAny_letOwnedTupleGo_zip (s := { s with heap := h' }) z' fun h'' z'' sb => ?_⟩
    have pT2 : h''.get? s.heap.objs.size = some { cls := .type "tuple", data := .seq #[w1, w2] } := (sb.2 _ (Nat.ne_of_gt qlt)).trans pT
    have new : ObjOk X.prog X.w (upd H s.heap.objs.size (.tup [x, y])) h'' s.heap.objs.size (.tup [x, y]) :=
      ⟨by show 2 ≤ sizeLine; decide, [w1, w2], .cons rw1 (.cons rw2 .nil), ⟨_, pT2, rfl, _, rfl⟩⟩
    have J1 : Inv X pins σ (upd H s.heap.objs.size (.tup [x, y])) { s with heap := h'' } :=
      I.turnedNew (t' := s.toks) (ch := [q, J, O, u, v]) (fun c o hb r => (sb.2 c (fun r' => hb (by simp [r']))).trans (hk c o (fun r' => hb (by simp [r'])) (fun r' => hb (by simp [r'])) (fun r' => hb (by simp [r'])) (fun r' => hb (by simp [r'])) r)) hf (Nat.le_refl _) new
    refine ⟨.ref s.heap.objs.size, _, J1, rfl, ⟨_, x, y, rfl, I.hok.fresh (Nat.le_refl _), rfl, fun l hl => by rw [I.list_inj hl hxs]; exact hx, fun l hl => by rw [I.tuple_inj hl hys]; exact hy⟩, ⟨z'', ?_, ⟨w1, w2, ?_⟩, ?_, ?_⟩, fun c hcm => ?_⟩
    · exact (sb.2 _ Ap.TIz).trans (hk _ _ Ap.TIz Ap.TITO Ap.TIi1 Ap.TIi2 pJ)
    · exact (sb.2 _ Ap.TOz).trans O'
    · exact t1'.at fun o r => (sb.2 _ Ap.i1z).trans r
    · exact t2'.at fun o r => (sb.2 _ Ap.i2z).trans r
    · have hlt : c < s.heap.objs.size := by
        have which : c = q ∨ c = J ∨ c = O ∨ c = u ∨ c = v := by simpa using hcm
        rcases which with e | e | e | e | e
        · rw [e]; exact qlt
        · rw [e]; exact Heap.lt_size pJ
        · rw [e]; exact Heap.lt_size pO
        · rw [e]; obtain ⟨_, e1, _⟩ := t1; exact Heap.lt_size e1
        · rw [e]; obtain ⟨_, e2, _⟩ := t2; exact Heap.lt_size e2
      rw [upd_ne (Nat.ne_of_lt hlt)]
      exact (hf c hcm).1
  done := by
    intro X eP ew eK hc i pins s σ H E I hf st hg
    subst eP ew eK
    obtain ⟨zz, pJ, ⟨x0, y0, pO⟩, t1, t2⟩ := st
    obtain ⟨xs, ys, hxs, hys, hend⟩ := hg
    obtain ⟨its, rv, m1, _⟩ := I.list hxs
    obtain ⟨its2, rv2, m2, _⟩ := I.tuple hys
    have n1 := rv.length
    have n2 := rv2.length
    have stop : its.toArray[i]? = none ∨ its2.toArray[i]? = none := by
      rcases hend with r | r
      · exact .inl (by simp; omega)
      · exact .inr (by simp; omega)
    exact NfM.mz_pyNext_end (I.ok.hd hc) Ap zz pJ pO t1 t2 m1.isList m2 stop fun h' hk => ⟨rfl, I.turnedL (t' := s.toks) (ch := [q, J, O, u, v]) (fun c o hb r =>
      hk c o (fun r' => hb (by simp [r'])) (fun r' => hb (by simp [r'])) (fun r' => hb (by simp [r'])) (fun r' => hb (by simp [r'])) r) hf⟩
  self := fun A i s Q E st h => wpAny_pyIter_zip st.1 h
section
variable {X : Cx}
def iZipM (K : PySem.W.Frag) (ta : TA) : TI := fun σ H R => ta σ H fun vs H1 => ∃ a b xs ys, vs = [.ref a, .ref b] ∧ SqL K H1 a xs ∧ SqT K H1 b ys ∧ R (ItzM K a b) H1
theorem pi_zipM {e e2 : Expr} {ta : TA} {p pos tpos : Pos} {elts : List Expr} {kk : Nat} (hg : Gl X "zip") (hm : X.mg "zip" = none) (ha : PA X [e, e2] ta)
    (hs : starEach [e, e2] X.env = (false, eval e X.env) :: starEach [e2] X.env := by rfl) (hpl : (backTo pos (starEach [e2] X.env)).any (·.1) = false := by rfl) :
    PI X (.Tuple elts kk tpos) (.Call (.Name "zip" p) [e, e2] [] pos) (iZipM X.K ta) := by
  refine ⟨fun pins s σ H R I h => ?_⟩
  refine PyProof.Rows.Call_ (ld_blt I hg hm PyProof.Rows.boot_zip (PyProof.Rows.callWith_type1 (thn (ha.run pos pins s σ H _ I h) fun us s1 ⟨vs, H1, I1, r1, q1⟩ => ?_) hs hpl))
  obtain ⟨a, b, xs, ys, ex, hxs, hys, q⟩ := q1
  subst ex
  cases r1 with
  | cons r rr =>
    cases rr with
    | cons r' rr =>
      cases rr
      cases r
      cases r'
      have fresh5 : ∀ c, c ∈ [s1.heap.objs.size + 4, s1.heap.objs.size + 2, s1.heap.objs.size + 3, s1.heap.objs.size, s1.heap.objs.size + 1] → FpOk X pins H1 c := fun c hcm => by
        have which : c = s1.heap.objs.size + 4 ∨ c = s1.heap.objs.size + 2 ∨ c = s1.heap.objs.size + 3 ∨ c = s1.heap.objs.size ∨ c = s1.heap.objs.size + 1 := by simpa using hcm
        have hle : s1.heap.objs.size ≤ c := by
          rcases which with e | e | e | e | e
          · rw [e]; exact Nat.le_add_right _ _
          · rw [e]; exact Nat.le_add_right _ _
          · rw [e]; exact Nat.le_add_right _ _
          · rw [e]; exact Nat.le_refl _
          · rw [e]; exact Nat.le_add_right _ _
        exact I1.fpOk hle (I1.hok.fresh hle)
      obtain ⟨its, rv, m1, _⟩ := I1.list hxs
      obtain ⟨its2, rv2, m2, _⟩ := I1.tuple hys
      obtain ⟨o2, ho2, _⟩ := id m2
      refine NfM.mz_call m1.isList (show s1.heap.IsTuple b its2.toArray from m2) fun h' zz pJ pO t1 t2 hsz hk => wpAny_pyIter_zip zz ?_
      exact ⟨s1.heap.objs.size + 4, [s1.heap.objs.size + 4, s1.heap.objs.size + 2, s1.heap.objs.size + 3, s1.heap.objs.size, s1.heap.objs.size + 1], _, _, H1, rfl, I1.kept (t' := s1.toks) hk, turn_zipM (PySem.W.ktu_apart s1.heap.objs.size a b m1.lt (Heap.lt_size ho2)), ⟨zz, pJ, ⟨_, _, pO⟩, t1, t2⟩, fresh5, q⟩
theorem it_zipM {K : PySem.W.Frag} {T : List Addr} {H : Hp} {a b : Addr} {vs ws : List V} {xs ys : List D} (h : LsT T H a vs) (r : RpA K T H vs xs) (h2 : TpT K T H b ws) (r2 : RpA K T H ws ys) : ItD K T (ItzM K a b) (pairs xs ys) H := by
  intro T' H' s i
  have h' := h.step s
  have r' := r.step s
  have h2' := h2.step s
  have r2' := r2.step s
  refine ⟨fun d hd => ?_, fun e => ?_⟩
  · obtain ⟨x, y, hx, hy, rfl⟩ := pairs_at hd
    obtain ⟨v, hv, rv⟩ := r'.get hx
    obtain ⟨w, hw, rw_⟩ := r2'.get hy
    refine ⟨⟨vs, ws, v, w, h'.sq, h2'.sq, hv, hw⟩, fun u H'' z => ?_⟩
    obtain ⟨t, v', w', rfl, ht, rfl, z1, z2⟩ := z
    have e1 := z1 vs h'.sq
    have e2 := z2 ws h2'.sq
    rw [hv] at e1
    rw [hw] at e2
    cases e1
    cases e2
    exact ⟨Same.new ht, Rp.newT (.cons rv (.cons rw_ .nil)) s.dom ht⟩
  · refine ⟨vs, ws, h'.sq, h2'.sq, ?_⟩
    rw [r'.length, r2'.length, e, pairs_len]
    omega
def zipB : List D → Option (List D)
  | [.list xs, .tuple ys] => some (pairs xs ys)
  | _ => none
def fZipM (g : Fa) : Fi := fun ds => (g ds).bind zipB
theorem i_zipM {a b : Expr} {g : Fa} {elts : List Expr} {kk : Nat} {p pos tpos : Pos} (hg : Gl X "zip") (hm : X.mg "zip" = none) (ha : PA X [a, b] (tDA X.K g))
    (hs : starEach [a, b] X.env = (false, eval a X.env) :: starEach [b] X.env := by rfl) (hpl : (backTo pos (starEach [b] X.env)).any (·.1) = false := by rfl) : PI X (.Tuple elts kk tpos) (.Call (.Name "zip" p) [a, b] [] pos) (tI X.K (fZipM g)) :=
  (pi_zipM hg hm ha hs hpl).imp fun σ H R ⟨T, ds, xs, S, e, q⟩ => by
    unfold fZipM at e
    cases ef : g ds with
    | none => rw [ef] at e; cases e
    | some l =>
      rw [ef] at e
      replace e : zipB l = some xs := e
      refine ⟨T, ds, l, S, ef, fun vs H1 s1 r1 => ?_⟩
      unfold zipB at e
      split at e
      · cases e
        cases r1 with
        | cons r2 r3 =>
          cases r3 with
          | cons r4 r5 =>
            cases r5
            cases r2 with
            | lst g1 g2 =>
              cases r4 with
              | tup g3 g4 => exact ⟨_, _, _, _, rfl, g1.sq, g3.sq, q _ H1 s1 (it_zipM g1 g2 g3 g4)⟩
      · cases e
end
end Nf
set_option Elab.async false
set_option linter.all false
set_option maxRecDepth 100000
set_option maxHeartbeats 4000000
/-! isinstance of two written types -/
namespace Nf
open PySem PySem.Spec L2
section
variable {X : Cx} {p pos : Pos} {e : Expr}
def isi2D (n m : String) (x : D) : Option D := some (.bool (isT n x || isT m x))
theorem d_isi2 {x y : Str} {n m : String} {f : Fe} {k : Nat} {p2 p3 p4 : Pos} (hg : Gl X "isinstance") (hm : X.mg "isinstance" = none) (hg2 : Gl X x) (hm2 : X.mg x = none) (hv2 : bootBuiltins x = some (.type n)) (hk2 : n ∈ kinds) (hg3 : Gl X y) (hm3 : X.mg y = none) (hv3 : bootBuiltins y = some (.type m)) (hk3 : m ∈ kinds) (he : PE X e (tD X.K f))
    (hn2 : x ≠ "__name__" := by decide) (hd2 : (x == ("__debug__" : Str)) = false := by decide) (hn3 : y ≠ "__name__" := by decide) (hd3 : (y == ("__debug__" : Str)) = false := by decide)
    (hs1 : starEach (e :: [.Tuple [.Name x p2, .Name y p3] k p4]) X.env = (false, eval e X.env) :: starEach [.Tuple [.Name x p2, .Name y p3] k p4] X.env := by rfl)
    (hs2 : starEach [.Tuple [.Name x p2, .Name y p3] k p4] X.env = (false, eval (.Tuple [.Name x p2, .Name y p3] k p4) X.env) :: starEach [] X.env := by rfl)
    (hs3 : starEach [.Name x p2, .Name y p3] X.env = (false, eval (.Name x p2) X.env) :: starEach [.Name y p3] X.env := by rfl)
    (hs4 : starEach [.Name y p3] X.env = (false, eval (.Name y p3) X.env) :: starEach [] X.env := by rfl)
    (hpl : (backTo pos (starEach [.Tuple [.Name x p2, .Name y p3] k p4] X.env)).any (·.1) = false := by rfl) :
    PE X (.Call (.Name "isinstance" p) [e, .Tuple [.Name x p2, .Name y p3] k p4] [] pos) (tD X.K (f1 (isi2D n m) f)) :=
  (pe_callB call_isiT hg hm (by decide +kernel) (pa_cons he (pa_cons (pe_tup (pa_cons (pe_bltn (v := .ty n) hg2 hm2 hv2 rfl hn2 hd2) (pa_cons (pe_bltn (v := .ty m) hg3 hm3 hv3 rfl hn3 hd3) pa_nil hs4) hs3)) pa_nil hs2) hs1) (by decide) (by decide) hs1 hpl).imp fun σ H Q h => by
    obtain ⟨T, ds, d, S, e, q⟩ := h
    obtain ⟨x, e1, e2⟩ := f1_some e
    cases e2
    refine ⟨T, ds, x, S, e1, fun v H1 s1 r1 => ⟨by show 2 ≤ sizeLine; decide, fun t ht => ?_⟩⟩
    have r2 := r1.same (Same.new (o := .tup [.ty n, .ty m]) ht) (S.same s1).dom
    refine ⟨v, t, _, _, _, (isT n x || isT m x), rfl, upd_same, .cons (.ty n) (.cons (.ty m) .nil), ty_of r2, ?_, q _ _ (s1.trans (Same.new ht)) (.bl _)⟩
    refine kitAny_cons (kit_ty (kit_is hk2 x (not_dict r1))) (fun h => ?_) (fun h => by rw [h]; rfl)
    rw [h, Bool.false_or]
    refine kitAny_cons (kit_ty (kit_is hk3 x (not_dict r1))) (fun h => ?_) id
    rw [h]
    exact kitAny_nil
end
end Nf
set_option Elab.async false
set_option linter.all false
set_option maxRecDepth 100000
set_option maxHeartbeats 4000000
namespace Nf
open PySem PySem.Spec L2
section
variable {P : Program} {w : World} {K : PySem.W.Frag} {mg : Str → Option Value} {base : Heap}
def g_tupled (m : List D → Option D) : Fs := (gRet (fIf (asB (f1 isiLT (fV 0))) (fCall tupM (faC (fLc (fSeq (fV 0)) (.name 1) fYes (fCall m (faC (fV 1) faN)) [1]) faN)) (fV 0)))
def m_tupled : Nat → List D → Option D
  | 0 => fun _ => none
  | n + 1 => runD (g_tupled (m_tupled n)) 1
theorem sc_tupled : FnScope [("thing" : Str), ("part" : Str)] [("thing" : Str)] (defScope s_tupled) := ⟨rfl, rfl, rfl, by decide +kernel, rfl, by decide +kernel, by decide +kernel⟩
theorem ok_tupled (W : Wt K mg) : ∀ n : Nat, Fn P w K mg base n "tupled" [("thing" : Str)] (m_tupled n)
  | 0 => fn_zero W.t_tupled (fun _ _ _ _ _ _ us hl => match us, hl with | [_], _ => rfl)
  | n + 1 => by
    have sc := sc_tupled
    have ih := ok_tupled W n
    refine fn_ok W.t_tupled sc rfl (fun _ _ _ _ _ _ us hl => match us, hl with | [_], _ => rfl) fun f cdv A outer s H E hr => ?_
    exact (s_one (s_ret (d_if (dt_val (d_isiLT rfl W.b_isinstance rfl W.b_list rfl W.b_tuple (dv 0))) (d_tupOf rfl W.b_tuple (da_cons (d_lc (own := [(("part" : Str), 1)]) rfl sc.nd (i_seq (dv 0)) (blkOk_by (N := [("thing" : Str), ("part" : Str)]) (sc := defScope s_tupled) (by decide +kernel)) (fun _ _ _ _ _ => g_name 1 sc.nd rfl (Or.inl rfl)) (fun _ _ _ _ _ => dts_nil) (fun _ _ _ _ _ => (d_fn ih hr (Nat.le_refl _) rfl (da_cons (dv 1) da_nil) (lnS ln0))) (by decide)) da_nil)) (dv 0))))
def g_Llists (m : List D → Option D) : Fs := (gRet (fIf (asB (f1 isiLT (fV 0))) (fLc (fSeq (fV 0)) (.name 1) fYes (fCall m (faC (fV 1) faN)) [1]) (fV 0)))
def m_Llists : Nat → List D → Option D
  | 0 => fun _ => none
  | n + 1 => runD (g_Llists (m_Llists n)) 1
theorem sc_Llists : FnScope [("_law_matter" : Str), ("_law_bit" : Str)] [("_law_matter" : Str)] (defScope s_Llists) := ⟨rfl, rfl, rfl, by decide +kernel, rfl, by decide +kernel, by decide +kernel⟩
theorem ok_Llists (W : Wt K mg) : ∀ n : Nat, Fn P w K mg base n "_law_lists" [("_law_matter" : Str)] (m_Llists n)
  | 0 => fn_zero W.t_Llists (fun _ _ _ _ _ _ us hl => match us, hl with | [_], _ => rfl)
  | n + 1 => by
    have sc := sc_Llists
    have ih := ok_Llists W n
    refine fn_ok W.t_Llists sc rfl (fun _ _ _ _ _ _ us hl => match us, hl with | [_], _ => rfl) fun f cdv A outer s H E hr => ?_
    exact (s_one (s_ret (d_if (dt_val (d_isiLT rfl W.b_isinstance rfl W.b_list rfl W.b_tuple (dv 0))) (d_lc (own := [(("_law_bit" : Str), 1)]) rfl sc.nd (i_seq (dv 0)) (blkOk_by (N := [("_law_matter" : Str), ("_law_bit" : Str)]) (sc := defScope s_Llists) (by decide +kernel)) (fun _ _ _ _ _ => g_name 1 sc.nd rfl (Or.inl rfl)) (fun _ _ _ _ _ => dts_nil) (fun _ _ _ _ _ => (d_fn ih hr (Nat.le_refl _) rfl (da_cons (dv 1) da_nil) (lnS ln0))) (by decide)) (dv 0))))
def g_Lsame (m : List D → Option D) : Fs := (gSeq (gIf (asB (f1 isiLT (fV 1))) (gSeq (gIf (fOr (asB (f2 neD (f1 (isiD "list") (fV 0)) (f1 (isiD "list") (fV 1)))) (asB (f2 neD (f1 (isiD "tuple") (fV 0)) (f1 (isiD "tuple") (fV 1))))) (gRet (fC (.bool false))) gNx) (gRet (fAndV (f2 eqD (fCall lenM (faC (fV 0) faN)) (fCall lenM (faC (fV 1) faN))) (fCall allM (faC (fLc (fZip (faC (fV 0) (faC (fV 1) faN))) (.tup [2, 3]) fYes (fCall m (faC (fV 2) (faC (fV 3) faN))) [2, 3]) faN))))) gNx) (gSeq (gIf (fOr (asB (f2 isND (fV 1) (fC .none))) (asB (f1 (isi2D "bool" "str") (fV 1)))) (gRet (fAndV (f2 eqD (fV 0) (fV 1)) (fAndV (f2 eqD (f1 (isiD "bool") (fV 0)) (f1 (isiD "bool") (fV 1))) (f2 eqD (f2 isND (fV 0) (fC .none)) (f2 isND (fV 1) (fC .none)))))) gNx) (gRet (fAndV (f1 (isiD "int") (fV 0)) (fAndV (fNotV (f1 (isiD "bool") (fV 0))) (f2 eqD (fV 0) (fV 1)))))))
def m_Lsame : Nat → List D → Option D
  | 0 => fun _ => none
  | n + 1 => runD (g_Lsame (m_Lsame n)) 2
theorem sc_Lsame : FnScope [("_law_got" : Str), ("_law_due" : Str), ("_law_mine" : Str), ("_law_its" : Str)] [("_law_got" : Str), ("_law_due" : Str)] (defScope s_Lsame) := ⟨rfl, rfl, rfl, by decide +kernel, rfl, by decide +kernel, by decide +kernel⟩
theorem ok_Lsame (W : Wt K mg) : ∀ n : Nat, Fn P w K mg base n "_law_same" [("_law_got" : Str), ("_law_due" : Str)] (m_Lsame n)
  | 0 => fn_zero W.t_Lsame (fun _ _ _ _ _ _ us hl => match us, hl with | [_, _], _ => rfl)
  | n + 1 => by
    have sc := sc_Lsame
    have ih := ok_Lsame W n
    refine fn_ok W.t_Lsame sc rfl (fun _ _ _ _ _ _ us hl => match us, hl with | [_, _], _ => rfl) fun f cdv A outer s H E hr => ?_
    exact (s_cons (s_if (dt_val (d_isiLT rfl W.b_isinstance rfl W.b_list rfl W.b_tuple (dv 1))) (s_cons (s_if (PW.pt (dw_or (dt_ne (hu64 hr) (d_isi (nn := "list") rfl W.b_isinstance rfl W.b_list (by decide +kernel) (by decide) (dv 0)) (d_isi (nn := "list") rfl W.b_isinstance rfl W.b_list (by decide +kernel) (by decide) (dv 1))) (dw_or1 (dt_ne (hu64 hr) (d_isi (nn := "tuple") rfl W.b_isinstance rfl W.b_tuple (by decide +kernel) (by decide) (dv 0)) (d_isi (nn := "tuple") rfl W.b_isinstance rfl W.b_tuple (by decide +kernel) (by decide) (dv 1)))))) (s_one (s_ret d_bl)) s_nil) (s_one (s_ret (d_and (d_eq (hu64 hr) (d_len rfl W.b_len (da_cons (dv 0) da_nil)) (d_len rfl W.b_len (da_cons (dv 1) da_nil))) (d_one (d_all rfl rfl W.b_all (da_cons (d_lc (own := [(("_law_mine" : Str), 2), (("_law_its" : Str), 3)]) rfl sc.nd (i_zip rfl W.b_zip (da_cons (dv 0) (da_cons (dv 1) da_nil))) (blkOk_by (N := [("_law_got" : Str), ("_law_due" : Str), ("_law_mine" : Str), ("_law_its" : Str)]) (sc := defScope s_Lsame) (by decide +kernel)) (fun _ _ _ _ _ => g_tup rfl sc.nd (.cons rfl (Or.inl rfl) (Or.inr rfl) (.cons rfl (Or.inl rfl) (Or.inr rfl) Names.nil))) (fun _ _ _ _ _ => dts_nil) (fun _ _ _ _ _ => (d_fn ih hr (Nat.le_refl _) rfl (da_cons (dv 2) (da_cons (dv 3) da_nil)) (lnS (lnS ln0)))) (by decide)) da_nil))))))) s_nil) (s_cons (s_if (PW.pt (dw_or (dt_isN (dv 1) d_non) (dw_or1 (dt_val (d_isi2 (n := "bool") (m := "str") rfl W.b_isinstance rfl W.b_bool (by decide +kernel) (by decide) rfl W.b_str (by decide +kernel) (by decide) (dv 1)))))) (s_one (s_ret (d_and (d_eq (hu64 hr) (dv 0) (dv 1)) (d_and (d_eq (hu64 hr) (d_isi (nn := "bool") rfl W.b_isinstance rfl W.b_bool (by decide +kernel) (by decide) (dv 0)) (d_isi (nn := "bool") rfl W.b_isinstance rfl W.b_bool (by decide +kernel) (by decide) (dv 1))) (d_one (d_eq (hu64 hr) (d_isN (dv 0) d_non) (d_isN (dv 1) d_non))))))) s_nil) (s_one (s_ret (d_and (d_isi (nn := "int") rfl W.b_isinstance rfl W.b_int (by decide +kernel) (by decide) (dv 0)) (d_and (d_not (d_isi (nn := "bool") rfl W.b_isinstance rfl W.b_bool (by decide +kernel) (by decide) (dv 0))) (d_one (d_eq (hu64 hr) (dv 0) (dv 1)))))))))
end
end Nf
set_option Elab.async false
set_option linter.all false
set_option maxRecDepth 100000
set_option maxHeartbeats 4000000
namespace Nf
open PySem PySem.Spec L2
section
variable {P : Program} {w : World} {K : PySem.W.Frag} {mg : Str → Option Value} {base : Heap}
def g_in_range : Fs := (gRet (fCall m_span_holds (faC (fCall (m_tupled 12) (faC (fV 0) faN)) (faC (fCall (m_tupled 12) (faC (fV 1) faN)) faN))))
def m_in_range : List D → Option D := runD g_in_range 0
theorem sc_in_range : FnScope [("span" : Str), ("version" : Str)] [("span" : Str), ("version" : Str)] (defScope s_in_range) := ⟨rfl, rfl, rfl, by decide +kernel, rfl, by decide +kernel, by decide +kernel⟩
theorem ok_in_range (W : Wt K mg) : Fn P w K mg base 13 "in_range" [("span" : Str), ("version" : Str)] m_in_range := by
  have sc := sc_in_range
  refine fn_ok W.t_in_range sc rfl (fun _ _ _ _ _ _ us hl => match us, hl with | [_, _], _ => rfl) fun f cdv A outer s H E hr => ?_
  exact (s_one (s_ret (d_fn (ok_span_holds W) hr (by decide) rfl (da_cons (d_fn (ok_tupled W 12) hr (by decide) rfl (da_cons (dv 0) da_nil) (lnS ln0)) (da_cons (d_fn (ok_tupled W 12) hr (by decide) rfl (da_cons (dv 1) da_nil) (lnS ln0)) da_nil)) (lnS (lnS ln0)))))
def g_cuts_in : Fs := (gSeq (gNewM 1 (fC (.tuple [.int 0, .int 0, .int 0, .int (-9)]))) (gSeq (gFor (fSeq (fV 0)) (.name 2) (gFor (fSeq (fV 2)) (.tup [3, 4]) (gSeq (gPutM 1 (fV 3)) (gIf (asB (f2 notND (fV 4) (fC .none))) (gPutM 1 (fV 4)) gNx)))) (gRet (fMSort 1))))
def m_cuts_in : List D → Option D := runD g_cuts_in 4
theorem sc_cuts_in : FnScope [("spans" : Str), ("found" : Str), ("span" : Str), ("low" : Str), ("high" : Str)] [("spans" : Str)] (defScope s_cuts_in) := ⟨rfl, rfl, rfl, by decide +kernel, rfl, by decide +kernel, by decide +kernel⟩
theorem ok_cuts_in (W : Wt K mg) : Fn P w K mg base 1 "cuts_in" [("spans" : Str)] m_cuts_in := by
  have sc := sc_cuts_in
  refine fn_ok W.t_cuts_in sc rfl (fun _ _ _ _ _ _ us hl => match us, hl with | [_], _ => rfl) fun f cdv A outer s H E hr => ?_
  exact (s_cons (s_newM 1 (hu64 hr) sc.nd rfl (Or.inl rfl) (d_gtup rfl W.c_FIRST)) (s_cons (s_for PassesOwn.never rfl (i_seq (dv 0)) (g_name 2 sc.nd rfl (Or.inl rfl)) (s_one (s_for PassesOwn.never rfl (i_seq (dv 2)) (g_tup rfl sc.nd (.cons rfl (Or.inl rfl) (Or.inl rfl) (.cons rfl (Or.inl rfl) (Or.inl rfl) Names.nil))) (s_cons (s_putM 1 (hu64 hr) rfl (dv 3)) (s_one (s_if (dt_notN (dv 4) d_non) (s_one (s_putM 1 (hu64 hr) rfl (dv 4))) s_nil)))))) (s_one (s_ret (d_sortM 1 rfl (hu64 hr) rfl W.b_sorted rfl)))))
def g_stretches : Fs := (gRet (fLzip (faC (fV 0) (faC (f2 addD (f1 (slD (some 1) none) (fV 0)) (fLst (faC (fC .none) faN))) faN))))
def m_stretches : List D → Option D := runD g_stretches 0
theorem sc_stretches : FnScope [("cuts" : Str)] [("cuts" : Str)] (defScope s_stretches) := ⟨rfl, rfl, rfl, by decide +kernel, rfl, by decide +kernel, by decide +kernel⟩
theorem ok_stretches (W : Wt K mg) : Fn P w K mg base 1 "stretches" [("cuts" : Str)] m_stretches := by
  have sc := sc_stretches
  refine fn_ok W.t_stretches sc rfl (fun _ _ _ _ _ _ us hl => match us, hl with | [_], _ => rfl) fun f cdv A outer s H E hr => ?_
  exact (s_one (s_ret (d_lzip rfl rfl W.b_list rfl W.b_zip (da_cons (dv 0) (da_cons (d_add (d_slice (dv 0) po_i po_n) (d_lst (da_cons d_non da_nil))) da_nil)))))
def g_spans_holding : Fs := (gRet (fCall tupM (faC (fLc (fEnum (faC (fV 0) faN)) (.tup [2, 3]) (asB (fCall m_span_holds (faC (fV 3) (faC (fV 1) faN)))) (fV 2) [2, 3]) faN)))
def m_spans_holding : List D → Option D := runD g_spans_holding 2
theorem sc_spans_holding : FnScope [("spans" : Str), ("version" : Str), ("number" : Str), ("span" : Str)] [("spans" : Str), ("version" : Str)] (defScope s_spans_holding) := ⟨rfl, rfl, rfl, by decide +kernel, rfl, by decide +kernel, by decide +kernel⟩
theorem ok_spans_holding (W : Wt K mg) : Fn P w K mg base 3 "spans_holding" [("spans" : Str), ("version" : Str)] m_spans_holding := by
  have sc := sc_spans_holding
  refine fn_ok W.t_spans_holding sc rfl (fun _ _ _ _ _ _ us hl => match us, hl with | [_, _], _ => rfl) fun f cdv A outer s H E hr => ?_
  exact (s_one (s_ret (d_tupOf rfl W.b_tuple (da_cons (d_lc (own := [(("number" : Str), 2), (("span" : Str), 3)]) rfl sc.nd (i_enum rfl W.b_enumerate (da_cons (dv 0) da_nil)) (blkOk_by (N := [("spans" : Str), ("version" : Str), ("number" : Str), ("span" : Str)]) (sc := defScope s_spans_holding) (by decide +kernel)) (fun _ _ _ _ _ => g_tup rfl sc.nd (.cons rfl (Or.inl rfl) (Or.inr rfl) (.cons rfl (Or.inl rfl) (Or.inr rfl) Names.nil))) (fun _ _ _ _ _ => (dts_one (dt_val (d_fn (ok_span_holds W) hr (by decide) rfl (da_cons (dv 3) (da_cons (dv 1) da_nil)) (lnS (lnS ln0)))))) (fun _ _ _ _ _ => (dv 2)) (by decide)) da_nil))))
def g_grains_in : Fs := (gSeq (gNewL 1) (gSeq (gFor (fSeq (fCall m_stretches (faC (fCall m_cuts_in (faC (fV 0) faN)) faN))) (.tup [2, 3]) (gSeq (gAsg (.name 4) (fCall m_spans_holding (faC (fV 0) (faC (fV 2) faN)))) (gIf (fAnd (asB (f2 neD (fL 1) (fLst faN))) (asB (f2 eqD (f2 ixD (f2 ixD (fL 1) (fC (.int (-1)))) (fC (.int 2))) (fV 4)))) (gLast 1 (fTup (faC (f2 ixD (f2 ixD (fL 1) (fC (.int (-1)))) (fC (.int 0))) (faC (fV 3) (faC (fV 4) faN))))) (gApp 1 (fTup (faC (fV 2) (faC (fV 3) (faC (fV 4) faN)))))))) (gRetL 1)))
def m_grains_in : List D → Option D := runD g_grains_in 4
theorem sc_grains_in : FnScope [("spans" : Str), ("found" : Str), ("low" : Str), ("high" : Str), ("numbers" : Str)] [("spans" : Str)] (defScope s_grains_in) := ⟨rfl, rfl, rfl, by decide +kernel, rfl, by decide +kernel, by decide +kernel⟩
theorem ok_grains_in (W : Wt K mg) : Fn P w K mg base 4 "grains_in" [("spans" : Str)] m_grains_in := by
  have sc := sc_grains_in
  refine fn_ok W.t_grains_in sc rfl (fun _ _ _ _ _ _ us hl => match us, hl with | [_], _ => rfl) fun f cdv A outer s H E hr => ?_
  exact (s_cons (s_newL 1 sc.nd rfl (Or.inl rfl)) (s_cons (s_for PassesOwn.never rfl (i_seq (d_fn (ok_stretches W) hr (by decide) rfl (da_cons (d_fn (ok_cuts_in W) hr (by decide) rfl (da_cons (dv 0) da_nil) (lnS ln0)) da_nil) (lnS ln0))) (g_tup rfl sc.nd (.cons rfl (Or.inl rfl) (Or.inl rfl) (.cons rfl (Or.inl rfl) (Or.inl rfl) Names.nil))) (s_cons (s_set 4 sc.nd rfl (Or.inl rfl) (d_fn (ok_spans_holding W) hr (by decide) rfl (da_cons (dv 0) (da_cons (dv 2) da_nil)) (lnS (lnS ln0)))) (s_one (s_if (PW.pt (dw_and (dtL_ne 1 (hu64 hr) (d_lst da_nil) rfl) (dw_and1 (dt_eq (hu64 hr) (d_item (dL_item 1 d_neg1 rfl) d_int) (dv 4))))) (s_one (s_last 1 (d_tup (da_cons (d_item (dL_item 1 d_neg1 rfl) d_int) (da_cons (dv 3) (da_cons (dv 4) da_nil)))) rfl d_neg1)) (s_one (s_append 1 (d_tup (da_cons (dv 2) (da_cons (dv 3) (da_cons (dv 4) da_nil)))) rfl (hbm := pe_bm PySem.F.plainAttrs_list PySem.F.slot_list_append PySem.F.type_list_append mt_append (pv 1) (pa_cons (d_tup (da_cons (dv 2) (da_cons (dv 3) (da_cons (dv 4) da_nil)))) pa_nil)))))))) (s_one (s_retL 1 rfl))))
def g_range_grains : Fs := (gRet (fCall m_grains_in (faC (fCall (m_tupled 12) (faC (fV 0) faN)) faN)))
def m_range_grains : List D → Option D := runD g_range_grains 0
theorem sc_range_grains : FnScope [("spans" : Str)] [("spans" : Str)] (defScope s_range_grains) := ⟨rfl, rfl, rfl, by decide +kernel, rfl, by decide +kernel, by decide +kernel⟩
theorem ok_range_grains (W : Wt K mg) : Fn P w K mg base 13 "range_grains" [("spans" : Str)] m_range_grains := by
  have sc := sc_range_grains
  refine fn_ok W.t_range_grains sc rfl (fun _ _ _ _ _ _ us hl => match us, hl with | [_], _ => rfl) fun f cdv A outer s H E hr => ?_
  exact (s_one (s_ret (d_fn (ok_grains_in W) hr (by decide) rfl (da_cons (d_fn (ok_tupled W 12) hr (by decide) rfl (da_cons (dv 0) da_nil) (lnS ln0)) da_nil) (lnS ln0))))
def g_pairs_joined : Fs := (gSeq (gNewL 1) (gSeq (gFor (fSeq (fV 0)) (.tup [2, 3]) (gIf (fAnd (asB (f2 neD (fL 1) (fLst faN))) (asB (f2 eqD (f2 ixD (f2 ixD (fL 1) (fC (.int (-1)))) (fC (.int 1))) (fV 2)))) (gLast 1 (fTup (faC (f2 ixD (f2 ixD (fL 1) (fC (.int (-1)))) (fC (.int 0))) (faC (fV 3) faN)))) (gApp 1 (fTup (faC (fV 2) (faC (fV 3) faN)))))) (gRet (fCall tupM (faC (fL 1) faN)))))
def m_pairs_joined : List D → Option D := runD g_pairs_joined 3
theorem sc_pairs_joined : FnScope [("pairs" : Str), ("found" : Str), ("low" : Str), ("high" : Str)] [("pairs" : Str)] (defScope s_pairs_joined) := ⟨rfl, rfl, rfl, by decide +kernel, rfl, by decide +kernel, by decide +kernel⟩
theorem ok_pairs_joined (W : Wt K mg) : Fn P w K mg base 1 "pairs_joined" [("pairs" : Str)] m_pairs_joined := by
  have sc := sc_pairs_joined
  refine fn_ok W.t_pairs_joined sc rfl (fun _ _ _ _ _ _ us hl => match us, hl with | [_], _ => rfl) fun f cdv A outer s H E hr => ?_
  exact (s_cons (s_newL 1 sc.nd rfl (Or.inl rfl)) (s_cons (s_for PassesOwn.never rfl (i_seq (dv 0)) (g_tup rfl sc.nd (.cons rfl (Or.inl rfl) (Or.inl rfl) (.cons rfl (Or.inl rfl) (Or.inl rfl) Names.nil))) (s_one (s_if (PW.pt (dw_and (dtL_ne 1 (hu64 hr) (d_lst da_nil) rfl) (dw_and1 (dt_eq (hu64 hr) (d_item (dL_item 1 d_neg1 rfl) d_int) (dv 2))))) (s_one (s_last 1 (d_tup (da_cons (d_item (dL_item 1 d_neg1 rfl) d_int) (da_cons (dv 3) da_nil))) rfl d_neg1)) (s_one (s_append 1 (d_tup (da_cons (dv 2) (da_cons (dv 3) da_nil))) rfl (hbm := pe_bm PySem.F.plainAttrs_list PySem.F.slot_list_append PySem.F.type_list_append mt_append (pv 1) (pa_cons (d_tup (da_cons (dv 2) (da_cons (dv 3) da_nil))) pa_nil))))))) (s_one (s_ret (dL_tup 1 rfl W.b_tuple rfl)))))
def g_by_rows : Fs := (gSeq (gAsg (.name 2) (fCall (m_tupled 12) (faC (fV 1) faN))) (gRet (fCall m_pairs_joined (faC (fLc (fSeq (fCall m_range_grains (faC (fV 0) faN))) (.tup [3, 4, 5]) (asB (f2 inD (fV 5) (fV 2))) (fTup (faC (fV 3) (faC (fV 4) faN))) [3, 4, 5]) faN))))
def m_by_rows : List D → Option D := runD g_by_rows 4
theorem sc_by_rows : FnScope [("spans" : Str), ("rows" : Str), ("wanted" : Str), ("low" : Str), ("high" : Str), ("numbers" : Str)] [("spans" : Str), ("rows" : Str)] (defScope s_by_rows) := ⟨rfl, rfl, rfl, by decide +kernel, rfl, by decide +kernel, by decide +kernel⟩
theorem ok_by_rows (W : Wt K mg) : Fn P w K mg base 14 "by_rows" [("spans" : Str), ("rows" : Str)] m_by_rows := by
  have sc := sc_by_rows
  refine fn_ok W.t_by_rows sc rfl (fun _ _ _ _ _ _ us hl => match us, hl with | [_, _], _ => rfl) fun f cdv A outer s H E hr => ?_
  exact (s_cons (s_set 2 sc.nd rfl (Or.inr rfl) (d_fn (ok_tupled W 12) hr (by decide) rfl (da_cons (dv 1) da_nil) (lnS ln0))) (s_one (s_ret (d_fn (ok_pairs_joined W) hr (by decide) rfl (da_cons (d_lc (own := [(("low" : Str), 3), (("high" : Str), 4), (("numbers" : Str), 5)]) rfl sc.nd (i_seq (d_fn (ok_range_grains W) hr (by decide) rfl (da_cons (dv 0) da_nil) (lnS ln0))) (blkOk_by (N := [("spans" : Str), ("rows" : Str), ("wanted" : Str), ("low" : Str), ("high" : Str), ("numbers" : Str)]) (sc := defScope s_by_rows) (by decide +kernel)) (fun _ _ _ _ _ => g_tup rfl sc.nd (.cons rfl (Or.inl rfl) (Or.inr rfl) (.cons rfl (Or.inl rfl) (Or.inr rfl) (.cons rfl (Or.inl rfl) (Or.inr rfl) Names.nil)))) (fun _ _ _ _ _ => (dts_one (dt_in (hu65 hr) (dv 5) (dv 2)))) (fun _ _ _ _ _ => (d_tup (da_cons (dv 3) (da_cons (dv 4) da_nil)))) (by decide)) da_nil) (lnS ln0)))))
def g_both_of : Fs := (gRet (fCall m_by_rows (faC (fTup (faC (fV 0) (faC (fV 1) faN))) (faC (fTup (faC (fTup (faC (fC (.int 0)) (faC (fC (.int 1)) faN))) faN)) faN))))
def m_both_of : List D → Option D := runD g_both_of 0
theorem sc_both_of : FnScope [("one" : Str), ("other" : Str)] [("one" : Str), ("other" : Str)] (defScope s_both_of) := ⟨rfl, rfl, rfl, by decide +kernel, rfl, by decide +kernel, by decide +kernel⟩
theorem ok_both_of (W : Wt K mg) : Fn P w K mg base 15 "both_of" [("one" : Str), ("other" : Str)] m_both_of := by
  have sc := sc_both_of
  refine fn_ok W.t_both_of sc rfl (fun _ _ _ _ _ _ us hl => match us, hl with | [_, _], _ => rfl) fun f cdv A outer s H E hr => ?_
  exact (s_one (s_ret (d_fn (ok_by_rows W) hr (by decide) rfl (da_cons (d_tup (da_cons (dv 0) (da_cons (dv 1) da_nil))) (da_cons (d_tup (da_cons (d_tup (da_cons d_int (da_cons d_int da_nil))) da_nil)) da_nil)) (lnS (lnS ln0)))))
def g_either_of : Fs := (gRet (fCall m_by_rows (faC (fTup (faC (fV 0) (faC (fV 1) faN))) (faC (fTup (faC (fTup (faC (fC (.int 0)) faN)) (faC (fTup (faC (fC (.int 1)) faN)) (faC (fTup (faC (fC (.int 0)) (faC (fC (.int 1)) faN))) faN)))) faN))))
def m_either_of : List D → Option D := runD g_either_of 0
theorem sc_either_of : FnScope [("one" : Str), ("other" : Str)] [("one" : Str), ("other" : Str)] (defScope s_either_of) := ⟨rfl, rfl, rfl, by decide +kernel, rfl, by decide +kernel, by decide +kernel⟩
theorem ok_either_of (W : Wt K mg) : Fn P w K mg base 15 "either_of" [("one" : Str), ("other" : Str)] m_either_of := by
  have sc := sc_either_of
  refine fn_ok W.t_either_of sc rfl (fun _ _ _ _ _ _ us hl => match us, hl with | [_, _], _ => rfl) fun f cdv A outer s H E hr => ?_
  exact (s_one (s_ret (d_fn (ok_by_rows W) hr (by decide) rfl (da_cons (d_tup (da_cons (dv 0) (da_cons (dv 1) da_nil))) (da_cons (d_tup (da_cons (d_tup (da_cons d_int da_nil)) (da_cons (d_tup (da_cons d_int da_nil)) (da_cons (d_tup (da_cons d_int (da_cons d_int da_nil))) da_nil)))) da_nil)) (lnS (lnS ln0)))))
def g_all_but : Fs := (gRet (fCall m_by_rows (faC (fTup (faC (fV 0) faN)) (faC (fTup (faC (fTup faN) faN)) faN))))
def m_all_but : List D → Option D := runD g_all_but 0
theorem sc_all_but : FnScope [("span" : Str)] [("span" : Str)] (defScope s_all_but) := ⟨rfl, rfl, rfl, by decide +kernel, rfl, by decide +kernel, by decide +kernel⟩
theorem ok_all_but (W : Wt K mg) : Fn P w K mg base 15 "all_but" [("span" : Str)] m_all_but := by
  have sc := sc_all_but
  refine fn_ok W.t_all_but sc rfl (fun _ _ _ _ _ _ us hl => match us, hl with | [_], _ => rfl) fun f cdv A outer s H E hr => ?_
  exact (s_one (s_ret (d_fn (ok_by_rows W) hr (by decide) rfl (da_cons (d_tup (da_cons (dv 0) da_nil)) (da_cons (d_tup (da_cons (d_tup da_nil) da_nil)) da_nil)) (lnS (lnS ln0)))))
def g_taken_out : Fs := (gRet (fCall m_by_rows (faC (fTup (faC (fV 0) (faC (fV 1) faN))) (faC (fTup (faC (fTup (faC (fC (.int 0)) faN)) faN)) faN))))
def m_taken_out : List D → Option D := runD g_taken_out 0
theorem sc_taken_out : FnScope [("one" : Str), ("other" : Str)] [("one" : Str), ("other" : Str)] (defScope s_taken_out) := ⟨rfl, rfl, rfl, by decide +kernel, rfl, by decide +kernel, by decide +kernel⟩
theorem ok_taken_out (W : Wt K mg) : Fn P w K mg base 15 "taken_out" [("one" : Str), ("other" : Str)] m_taken_out := by
  have sc := sc_taken_out
  refine fn_ok W.t_taken_out sc rfl (fun _ _ _ _ _ _ us hl => match us, hl with | [_, _], _ => rfl) fun f cdv A outer s H E hr => ?_
  exact (s_one (s_ret (d_fn (ok_by_rows W) hr (by decide) rfl (da_cons (d_tup (da_cons (dv 0) (da_cons (dv 1) da_nil))) (da_cons (d_tup (da_cons (d_tup (da_cons d_int da_nil)) da_nil)) da_nil)) (lnS (lnS ln0)))))
def g_is_inside : Fs := (gRet (f2 eqD (fCall m_taken_out (faC (fV 0) (faC (fV 1) faN))) (fTup faN)))
def m_is_inside : List D → Option D := runD g_is_inside 0
theorem sc_is_inside : FnScope [("one" : Str), ("other" : Str)] [("one" : Str), ("other" : Str)] (defScope s_is_inside) := ⟨rfl, rfl, rfl, by decide +kernel, rfl, by decide +kernel, by decide +kernel⟩
theorem ok_is_inside (W : Wt K mg) : Fn P w K mg base 16 "is_inside" [("one" : Str), ("other" : Str)] m_is_inside := by
  have sc := sc_is_inside
  refine fn_ok W.t_is_inside sc rfl (fun _ _ _ _ _ _ us hl => match us, hl with | [_, _], _ => rfl) fun f cdv A outer s H E hr => ?_
  exact (s_one (s_ret (d_eq (hu64 hr) (d_fn (ok_taken_out W) hr (by decide) rfl (da_cons (dv 0) (da_cons (dv 1) da_nil)) (lnS (lnS ln0))) (d_tup da_nil))))
def g_term_holds : Fs := (gSeq (gPar 2 3 (fCall (m_tupled 12) (faC (fV 0) faN)) (fCall (m_tupled 12) (faC (fV 1) faN))) (gRet (fIf (asB (f2 isND (fV 3) (fC .none))) (f2 ixD (fV 2) (fC (.int 1))) (fCall m_in_range (faC (f2 ixD (fV 2) (fC (.int 2))) (faC (fV 3) faN))))))
def m_term_holds : List D → Option D := runD g_term_holds 2
theorem sc_term_holds : FnScope [("term" : Str), ("state" : Str), ("own" : Str), ("now" : Str)] [("term" : Str), ("state" : Str)] (defScope s_term_holds) := ⟨rfl, rfl, rfl, by decide +kernel, rfl, by decide +kernel, by decide +kernel⟩
theorem ok_term_holds (W : Wt K mg) : Fn P w K mg base 14 "term_holds" [("term" : Str), ("state" : Str)] m_term_holds := by
  have sc := sc_term_holds
  refine fn_ok W.t_term_holds sc rfl (fun _ _ _ _ _ _ us hl => match us, hl with | [_, _], _ => rfl) fun f cdv A outer s H E hr => ?_
  exact (s_cons (s_par 2 3 rfl sc.nd rfl rfl (by decide) rfl rfl (d_fn (ok_tupled W 12) hr (by decide) rfl (da_cons (dv 0) da_nil) (lnS ln0)) (d_fn (ok_tupled W 12) hr (by decide) rfl (da_cons (dv 1) da_nil) (lnS ln0)) (by rfl)) (s_one (s_ret (d_if (dt_isN (dv 3) d_non) (d_item (dv 2) d_int) (d_fn (ok_in_range W) hr (by decide) rfl (da_cons (d_item (dv 2) d_int) (da_cons (dv 3) da_nil)) (lnS (lnS ln0)))))))
def g_term_not : Fs := (gSeq (gAsg (.name 1) (fCall (m_tupled 12) (faC (fV 0) faN))) (gRet (fTup (faC (f2 ixD (fV 1) (fC (.int 0))) (faC (fNotV (f2 ixD (fV 1) (fC (.int 1)))) (faC (fCall m_all_but (faC (f2 ixD (fV 1) (fC (.int 2))) faN)) faN))))))
def m_term_not : List D → Option D := runD g_term_not 1
theorem sc_term_not : FnScope [("term" : Str), ("own" : Str)] [("term" : Str)] (defScope s_term_not) := ⟨rfl, rfl, rfl, by decide +kernel, rfl, by decide +kernel, by decide +kernel⟩
theorem ok_term_not (W : Wt K mg) : Fn P w K mg base 16 "term_not" [("term" : Str)] m_term_not := by
  have sc := sc_term_not
  refine fn_ok W.t_term_not sc rfl (fun _ _ _ _ _ _ us hl => match us, hl with | [_], _ => rfl) fun f cdv A outer s H E hr => ?_
  exact (s_cons (s_set 1 sc.nd rfl (Or.inl rfl) (d_fn (ok_tupled W 12) hr (by decide) rfl (da_cons (dv 0) da_nil) (lnS ln0))) (s_one (s_ret (d_tup (da_cons (d_item (dv 1) d_int) (da_cons (d_not (d_item (dv 1) d_int)) (da_cons (d_fn (ok_all_but W) hr (by decide) rfl (da_cons (d_item (dv 1) d_int) da_nil) (lnS ln0)) da_nil)))))))
end
end Nf
set_option Elab.async false
set_option linter.all false
set_option maxRecDepth 100000
set_option maxHeartbeats 4000000
namespace Nf
open PySem PySem.Spec L2
section
variable {P : Program} {w : World} {K : PySem.W.Frag} {mg : Str → Option Value} {base : Heap}
def g_Lis_number : Fs := (gRet (fAndV (f1 (isiD "int") (fV 0)) (fNotV (f1 (isiD "bool") (fV 0)))))
def m_Lis_number : List D → Option D := runD g_Lis_number 0
theorem sc_Lis_number : FnScope [("_law_own" : Str)] [("_law_own" : Str)] (defScope s_Lis_number) := ⟨rfl, rfl, rfl, by decide +kernel, rfl, by decide +kernel, by decide +kernel⟩
theorem ok_Lis_number (W : Wt K mg) : Fn P w K mg base 1 "_law_is_number" [("_law_own" : Str)] m_Lis_number := by
  have sc := sc_Lis_number
  refine fn_ok W.t_Lis_number sc rfl (fun _ _ _ _ _ _ us hl => match us, hl with | [_], _ => rfl) fun f cdv A outer s H E hr => ?_
  exact (s_one (s_ret (d_and (d_isi (nn := "int") rfl W.b_isinstance rfl W.b_int (by decide +kernel) (by decide) (dv 0)) (d_one (d_not (d_isi (nn := "bool") rfl W.b_isinstance rfl W.b_bool (by decide +kernel) (by decide) (dv 0)))))))
def g_Lsettled : Fs := (gRet (f1 settleD (fV 0)))
def m_Lsettled : List D → Option D := runD g_Lsettled 0
theorem sc_Lsettled : FnScope [("_law_rows_so" : Str)] [("_law_rows_so" : Str)] (defScope s_Lsettled) := ⟨rfl, rfl, rfl, by decide +kernel, rfl, by decide +kernel, by decide +kernel⟩
theorem ok_Lsettled (W : Wt K mg) : Fn P w K mg base 1 "_law_settled" [("_law_rows_so" : Str)] m_Lsettled := by
  have sc := sc_Lsettled
  refine fn_ok W.t_Lsettled sc rfl (fun _ _ _ _ _ _ us hl => match us, hl with | [_], _ => rfl) fun f cdv A outer s H E hr => ?_
  exact (s_one (s_ret (d_settle rfl hr rfl W.b_tuple rfl W.b_sorted rfl W.b_set (dv 0))))
def g_Lnext : Fs := (gSeq (gAsg (.tup [1, 2, 3, 4]) (fV 0)) (gRet (fIf (asB (f2 ltD (fV 4) (fC (.int 0)))) (fTup (faC (fV 1) (faC (fV 2) (faC (fV 3) (faC (f2 addD (fV 4) (fC (.int 1))) faN))))) (fTup (faC (fV 1) (faC (fV 2) (faC (f2 addD (fV 3) (fC (.int 1))) (faC (fC (.int (-9))) faN))))))))
def m_Lnext : List D → Option D := runD g_Lnext 4
theorem sc_Lnext : FnScope [("_law_version_so" : Str), ("_law_first_so" : Str), ("_law_middle_so" : Str), ("_law_last_so" : Str), ("_law_early_so" : Str)] [("_law_version_so" : Str)] (defScope s_Lnext) := ⟨rfl, rfl, rfl, by decide +kernel, rfl, by decide +kernel, by decide +kernel⟩
theorem ok_Lnext (W : Wt K mg) : Fn P w K mg base 1 "_law_next" [("_law_version_so" : Str)] m_Lnext := by
  have sc := sc_Lnext
  refine fn_ok W.t_Lnext sc rfl (fun _ _ _ _ _ _ us hl => match us, hl with | [_], _ => rfl) fun f cdv A outer s H E hr => ?_
  exact (s_cons (s_asg (dv 0) (g_tup rfl sc.nd (.cons rfl (Or.inl rfl) (Or.inl rfl) (.cons rfl (Or.inl rfl) (Or.inl rfl) (.cons rfl (Or.inl rfl) (Or.inl rfl) (.cons rfl (Or.inl rfl) (Or.inl rfl) Names.nil)))))) (s_one (s_ret (d_if (dt_lt (hu64 hr) (dv 4) d_int) (d_tup (da_cons (dv 1) (da_cons (dv 2) (da_cons (dv 3) (da_cons (d_add (dv 4) d_int) da_nil))))) (d_tup (da_cons (dv 1) (da_cons (dv 2) (da_cons (d_add (dv 3) d_int) (da_cons d_neg1 da_nil)))))))))
def g_Levery : Fs := (gRet (fTup (faC (fTup (faC (fTup (faC (fC (.int 0)) (faC (fC (.int 0)) (faC (fC (.int 0)) (faC (fC (.int (-9))) faN))))) (faC (fC .none) faN))) faN)))
def m_Levery : List D → Option D := runD g_Levery 0
theorem sc_Levery : FnScope [] [] (defScope s_Levery) := ⟨rfl, rfl, rfl, by decide +kernel, rfl, by decide +kernel, by decide +kernel⟩
theorem ok_Levery (W : Wt K mg) : Fn P w K mg base 1 "_law_every" [] m_Levery := by
  have sc := sc_Levery
  refine fn_ok W.t_Levery sc rfl (fun _ _ _ _ _ _ us hl => match us, hl with | [], _ => rfl) fun f cdv A outer s H E hr => ?_
  exact (s_one (s_ret (d_tup (da_cons (d_tup (da_cons (d_tup (da_cons d_int (da_cons d_int (da_cons d_int (da_cons d_neg1 da_nil))))) (da_cons d_non da_nil))) da_nil))))
def g_Ljust : Fs := (gRet (fTup (faC (fTup (faC (fV 0) (faC (fCall m_Lnext (faC (fV 0) faN)) faN))) faN)))
def m_Ljust : List D → Option D := runD g_Ljust 0
theorem sc_Ljust : FnScope [("_law_version_so" : Str)] [("_law_version_so" : Str)] (defScope s_Ljust) := ⟨rfl, rfl, rfl, by decide +kernel, rfl, by decide +kernel, by decide +kernel⟩
theorem ok_Ljust (W : Wt K mg) : Fn P w K mg base 2 "_law_just" [("_law_version_so" : Str)] m_Ljust := by
  have sc := sc_Ljust
  refine fn_ok W.t_Ljust sc rfl (fun _ _ _ _ _ _ us hl => match us, hl with | [_], _ => rfl) fun f cdv A outer s H E hr => ?_
  exact (s_one (s_ret (d_tup (da_cons (d_tup (da_cons (dv 0) (da_cons (d_fn (ok_Lnext W) hr (by decide) rfl (da_cons (dv 0) da_nil) (lnS ln0)) da_nil))) da_nil))))
def g_Lheld : Fs := (gRet (f2 neD (fLc (fSeq (fV 0)) (.tup [2, 3]) (fAnd (asB (f2 leD (fV 2) (fV 1))) (fOr (asB (f2 isND (fV 3) (fC .none))) (asB (f2 ltD (fV 1) (fV 3))))) (fC (.int 1)) [2, 3]) (fLst faN)))
def m_Lheld : List D → Option D := runD g_Lheld 2
theorem sc_Lheld : FnScope [("_law_span_so" : Str), ("_law_version_so" : Str), ("_law_low_so" : Str), ("_law_high_so" : Str)] [("_law_span_so" : Str), ("_law_version_so" : Str)] (defScope s_Lheld) := ⟨rfl, rfl, rfl, by decide +kernel, rfl, by decide +kernel, by decide +kernel⟩
theorem ok_Lheld (W : Wt K mg) : Fn P w K mg base 1 "_law_held" [("_law_span_so" : Str), ("_law_version_so" : Str)] m_Lheld := by
  have sc := sc_Lheld
  refine fn_ok W.t_Lheld sc rfl (fun _ _ _ _ _ _ us hl => match us, hl with | [_, _], _ => rfl) fun f cdv A outer s H E hr => ?_
  exact (s_one (s_ret (d_ne (hu64 hr) (d_lc (own := [(("_law_low_so" : Str), 2), (("_law_high_so" : Str), 3)]) rfl sc.nd (i_seq (dv 0)) (blkOk_by (N := [("_law_span_so" : Str), ("_law_version_so" : Str), ("_law_low_so" : Str), ("_law_high_so" : Str)]) (sc := defScope s_Lheld) (by decide +kernel)) (fun _ _ _ _ _ => g_tup rfl sc.nd (.cons rfl (Or.inl rfl) (Or.inr rfl) (.cons rfl (Or.inl rfl) (Or.inr rfl) Names.nil))) (fun _ _ _ _ _ => (dts_one (PW.pt (dw_and (dt_le (hu64 hr) (dv 2) (dv 1)) (dw_and1 (PW.pt (dw_or (dt_isN (dv 3) d_non) (dw_or1 (dt_lt (hu64 hr) (dv 1) (dv 3)))))))))) (fun _ _ _ _ _ => d_int) (by decide)) (d_lst da_nil))))
def g_Lspan_of : Fs := (gSeq (gParL 2 3 (fC (.bool false))) (gSeq (gFor (fZipM (faC (fV 0) (faC (fV 1) faN))) (.tup [4, 5]) (gSeq (gIf (fAnd (asB (fV 4)) (fNot (asB (fV 3)))) (gApp 2 (fTup (faC (fV 5) (faC (fC .none) faN)))) gNx) (gSeq (gIf (fAnd (asB (fV 3)) (fNot (asB (fV 4)))) (gLast 2 (fTup (faC (f2 ixD (f2 ixD (fL 2) (fC (.int (-1)))) (fC (.int 0))) (faC (fV 5) faN)))) gNx) (gAsg (.name 3) (fV 4))))) (gRet (fCall tupM (faC (fL 2) faN)))))
def m_Lspan_of : List D → Option D := runD g_Lspan_of 4
theorem sc_Lspan_of : FnScope [("_law_flags_so" : Str), ("_law_points_so" : Str), ("_law_found" : Str), ("_law_last_so" : Str), ("_law_flag_so" : Str), ("_law_point_so" : Str)] [("_law_flags_so" : Str), ("_law_points_so" : Str)] (defScope s_Lspan_of) := ⟨rfl, rfl, rfl, by decide +kernel, rfl, by decide +kernel, by decide +kernel⟩
theorem ok_Lspan_of (W : Wt K mg) : Fn P w K mg base 1 "_law_span_of" [("_law_flags_so" : Str), ("_law_points_so" : Str)] m_Lspan_of := by
  have sc := sc_Lspan_of
  refine fn_ok W.t_Lspan_of sc rfl (fun _ _ _ _ _ _ us hl => match us, hl with | [_, _], _ => rfl) fun f cdv A outer s H E hr => ?_
  exact (s_cons (s_parL 2 3 rfl sc.nd rfl rfl (by decide) rfl rfl d_bl (by rfl)) (s_cons (s_for PassesOwn.never rfl (i_zipM rfl W.b_zip (da_cons (dv 0) (da_cons (dv 1) da_nil))) (g_tup rfl sc.nd (.cons rfl (Or.inl rfl) (Or.inl rfl) (.cons rfl (Or.inl rfl) (Or.inl rfl) Names.nil))) (s_cons (s_if (PW.pt (dw_and (dt_val (dv 4)) (dw_and1 (dt_not (dt_val (dv 3)))))) (s_one (s_append 2 (d_tup (da_cons (dv 5) (da_cons d_non da_nil))) rfl (hbm := pe_bm PySem.F.plainAttrs_list PySem.F.slot_list_append PySem.F.type_list_append mt_append (pv 2) (pa_cons (d_tup (da_cons (dv 5) (da_cons d_non da_nil))) pa_nil)))) s_nil) (s_cons (s_if (PW.pt (dw_and (dt_val (dv 3)) (dw_and1 (dt_not (dt_val (dv 4)))))) (s_one (s_last 2 (d_tup (da_cons (d_item (dL_item 2 d_neg1 rfl) d_int) (da_cons (dv 5) da_nil))) rfl d_neg1)) s_nil) (s_one (s_set 3 sc.nd rfl (Or.inl rfl) (dv 4)))))) (s_one (s_ret (dL_tup 2 rfl W.b_tuple rfl)))))
def g_Lpoints : Fs := (gSeq (gAsg (.name 1) (fLst (faC (fTup (faC (fC (.int 0)) (faC (fC (.int 0)) (faC (fC (.int 0)) (faC (fC (.int (-9))) faN))))) faN))) (gSeq (gFor (fSeq (fV 0)) (.name 2) (gFor (fSeq (fV 2)) (.tup [3, 4]) (gAsg (.name 1) (f2 addD (f2 addD (fV 1) (fLst (faC (fV 3) faN))) (fIf (asB (f2 isND (fV 4) (fC .none))) (fLst faN) (fLst (faC (fV 4) faN))))))) (gRet (fCall m_Lsettled (faC (fV 1) faN)))))
def m_Lpoints : List D → Option D := runD g_Lpoints 4
theorem sc_Lpoints : FnScope [("_law_spans_so" : Str), ("_law_found" : Str), ("_law_span_so" : Str), ("_law_low_so" : Str), ("_law_high_so" : Str)] [("_law_spans_so" : Str)] (defScope s_Lpoints) := ⟨rfl, rfl, rfl, by decide +kernel, rfl, by decide +kernel, by decide +kernel⟩
theorem ok_Lpoints (W : Wt K mg) : Fn P w K mg base 2 "_law_points" [("_law_spans_so" : Str)] m_Lpoints := by
  have sc := sc_Lpoints
  refine fn_ok W.t_Lpoints sc rfl (fun _ _ _ _ _ _ us hl => match us, hl with | [_], _ => rfl) fun f cdv A outer s H E hr => ?_
  exact (s_cons (s_set 1 sc.nd rfl (Or.inl rfl) (d_lst (da_cons (d_tup (da_cons d_int (da_cons d_int (da_cons d_int (da_cons d_neg1 da_nil))))) da_nil))) (s_cons (s_for PassesOwn.never rfl (i_seq (dv 0)) (g_name 2 sc.nd rfl (Or.inl rfl)) (s_one (s_for PassesOwn.never rfl (i_seq (dv 2)) (g_tup rfl sc.nd (.cons rfl (Or.inl rfl) (Or.inl rfl) (.cons rfl (Or.inl rfl) (Or.inl rfl) Names.nil))) (s_one (s_set 1 sc.nd rfl (Or.inl rfl) (d_add (d_add (dv 1) (d_lst (da_cons (dv 3) da_nil))) (d_if (dt_isN (dv 4) d_non) (d_lst da_nil) (d_lst (da_cons (dv 4) da_nil))))))))) (s_one (s_ret (d_fn (ok_Lsettled W) hr (by decide) rfl (da_cons (dv 1) da_nil) (lnS ln0))))))
def g_Lspan_both : Fs := (gSeq (gAsg (.name 2) (fCall m_Lpoints (faC (fLst (faC (fV 0) (faC (fV 1) faN))) faN))) (gRet (fCall m_Lspan_of (faC (fLc (fSeq (fV 2)) (.name 3) fYes (fAndV (fCall m_Lheld (faC (fV 0) (faC (fV 3) faN))) (fCall m_Lheld (faC (fV 1) (faC (fV 3) faN)))) [3]) (faC (fV 2) faN)))))
def m_Lspan_both : List D → Option D := runD g_Lspan_both 2
theorem sc_Lspan_both : FnScope [("_law_one_so" : Str), ("_law_two_so" : Str), ("_law_points_so" : Str), ("_law_own" : Str)] [("_law_one_so" : Str), ("_law_two_so" : Str)] (defScope s_Lspan_both) := ⟨rfl, rfl, rfl, by decide +kernel, rfl, by decide +kernel, by decide +kernel⟩
theorem ok_Lspan_both (W : Wt K mg) : Fn P w K mg base 3 "_law_span_both" [("_law_one_so" : Str), ("_law_two_so" : Str)] m_Lspan_both := by
  have sc := sc_Lspan_both
  refine fn_ok W.t_Lspan_both sc rfl (fun _ _ _ _ _ _ us hl => match us, hl with | [_, _], _ => rfl) fun f cdv A outer s H E hr => ?_
  exact (s_cons (s_set 2 sc.nd rfl (Or.inl rfl) (d_fn (ok_Lpoints W) hr (by decide) rfl (da_cons (d_lst (da_cons (dv 0) (da_cons (dv 1) da_nil))) da_nil) (lnS ln0))) (s_one (s_ret (d_fn (ok_Lspan_of W) hr (by decide) rfl (da_cons (d_lc (own := [(("_law_own" : Str), 3)]) rfl sc.nd (i_seq (dv 2)) (blkOk_by (N := [("_law_one_so" : Str), ("_law_two_so" : Str), ("_law_points_so" : Str), ("_law_own" : Str)]) (sc := defScope s_Lspan_both) (by decide +kernel)) (fun _ _ _ _ _ => g_name 3 sc.nd rfl (Or.inl rfl)) (fun _ _ _ _ _ => dts_nil) (fun _ _ _ _ _ => (d_and (d_fn (ok_Lheld W) hr (by decide) rfl (da_cons (dv 0) (da_cons (dv 3) da_nil)) (lnS (lnS ln0))) (d_one (d_fn (ok_Lheld W) hr (by decide) rfl (da_cons (dv 1) (da_cons (dv 3) da_nil)) (lnS (lnS ln0)))))) (by decide)) (da_cons (dv 2) da_nil)) (lnS (lnS ln0))))))
def g_Lspan_either : Fs := (gSeq (gAsg (.name 2) (fCall m_Lpoints (faC (fLst (faC (fV 0) (faC (fV 1) faN))) faN))) (gRet (fCall m_Lspan_of (faC (fLc (fSeq (fV 2)) (.name 3) fYes (fOrV (fCall m_Lheld (faC (fV 0) (faC (fV 3) faN))) (fCall m_Lheld (faC (fV 1) (faC (fV 3) faN)))) [3]) (faC (fV 2) faN)))))
def m_Lspan_either : List D → Option D := runD g_Lspan_either 2
theorem sc_Lspan_either : FnScope [("_law_one_so" : Str), ("_law_two_so" : Str), ("_law_points_so" : Str), ("_law_own" : Str)] [("_law_one_so" : Str), ("_law_two_so" : Str)] (defScope s_Lspan_either) := ⟨rfl, rfl, rfl, by decide +kernel, rfl, by decide +kernel, by decide +kernel⟩
theorem ok_Lspan_either (W : Wt K mg) : Fn P w K mg base 3 "_law_span_either" [("_law_one_so" : Str), ("_law_two_so" : Str)] m_Lspan_either := by
  have sc := sc_Lspan_either
  refine fn_ok W.t_Lspan_either sc rfl (fun _ _ _ _ _ _ us hl => match us, hl with | [_, _], _ => rfl) fun f cdv A outer s H E hr => ?_
  exact (s_cons (s_set 2 sc.nd rfl (Or.inl rfl) (d_fn (ok_Lpoints W) hr (by decide) rfl (da_cons (d_lst (da_cons (dv 0) (da_cons (dv 1) da_nil))) da_nil) (lnS ln0))) (s_one (s_ret (d_fn (ok_Lspan_of W) hr (by decide) rfl (da_cons (d_lc (own := [(("_law_own" : Str), 3)]) rfl sc.nd (i_seq (dv 2)) (blkOk_by (N := [("_law_one_so" : Str), ("_law_two_so" : Str), ("_law_points_so" : Str), ("_law_own" : Str)]) (sc := defScope s_Lspan_either) (by decide +kernel)) (fun _ _ _ _ _ => g_name 3 sc.nd rfl (Or.inl rfl)) (fun _ _ _ _ _ => dts_nil) (fun _ _ _ _ _ => (d_or (d_fn (ok_Lheld W) hr (by decide) rfl (da_cons (dv 0) (da_cons (dv 3) da_nil)) (lnS (lnS ln0))) (d_one (d_fn (ok_Lheld W) hr (by decide) rfl (da_cons (dv 1) (da_cons (dv 3) da_nil)) (lnS (lnS ln0)))))) (by decide)) (da_cons (dv 2) da_nil)) (lnS (lnS ln0))))))
def g_Lspan_but : Fs := (gSeq (gAsg (.name 1) (fCall m_Lpoints (faC (fLst (faC (fV 0) faN)) faN))) (gRet (fCall m_Lspan_of (faC (fLc (fSeq (fV 1)) (.name 2) fYes (fNotV (fCall m_Lheld (faC (fV 0) (faC (fV 2) faN)))) [2]) (faC (fV 1) faN)))))
def m_Lspan_but : List D → Option D := runD g_Lspan_but 2
theorem sc_Lspan_but : FnScope [("_law_span_so" : Str), ("_law_points_so" : Str), ("_law_own" : Str)] [("_law_span_so" : Str)] (defScope s_Lspan_but) := ⟨rfl, rfl, rfl, by decide +kernel, rfl, by decide +kernel, by decide +kernel⟩
theorem ok_Lspan_but (W : Wt K mg) : Fn P w K mg base 3 "_law_span_but" [("_law_span_so" : Str)] m_Lspan_but := by
  have sc := sc_Lspan_but
  refine fn_ok W.t_Lspan_but sc rfl (fun _ _ _ _ _ _ us hl => match us, hl with | [_], _ => rfl) fun f cdv A outer s H E hr => ?_
  exact (s_cons (s_set 1 sc.nd rfl (Or.inl rfl) (d_fn (ok_Lpoints W) hr (by decide) rfl (da_cons (d_lst (da_cons (dv 0) da_nil)) da_nil) (lnS ln0))) (s_one (s_ret (d_fn (ok_Lspan_of W) hr (by decide) rfl (da_cons (d_lc (own := [(("_law_own" : Str), 2)]) rfl sc.nd (i_seq (dv 1)) (blkOk_by (N := [("_law_span_so" : Str), ("_law_points_so" : Str), ("_law_own" : Str)]) (sc := defScope s_Lspan_but) (by decide +kernel)) (fun _ _ _ _ _ => g_name 2 sc.nd rfl (Or.inl rfl)) (fun _ _ _ _ _ => dts_nil) (fun _ _ _ _ _ => (d_not (d_fn (ok_Lheld W) hr (by decide) rfl (da_cons (dv 0) (da_cons (dv 2) da_nil)) (lnS (lnS ln0))))) (by decide)) (da_cons (dv 1) da_nil)) (lnS (lnS ln0))))))
def g_Lfew_versions : Fs := (gRet (fLst (faC (fTup (faC (fC (.int 0)) (faC (fC (.int 9)) (faC (fC (.int 0)) (faC (fC (.int 0)) faN))))) (faC (fTup (faC (fC (.int 1)) (faC (fC (.int 0)) (faC (fC (.int 0)) (faC (fC (.int (-2))) faN))))) (faC (fTup (faC (fC (.int 1)) (faC (fC (.int 0)) (faC (fC (.int 0)) (faC (fC (.int 0)) faN))))) (faC (fTup (faC (fC (.int 1)) (faC (fC (.int 0)) (faC (fC (.int 2)) (faC (fC (.int 0)) faN))))) (faC (fTup (faC (fC (.int 1)) (faC (fC (.int 1)) (faC (fC (.int 0)) (faC (fC (.int 0)) faN))))) (faC (fTup (faC (fC (.int 2)) (faC (fC (.int 0)) (faC (fC (.int 0)) (faC (fC (.int (-1))) faN))))) (faC (fTup (faC (fC (.int 2)) (faC (fC (.int 0)) (faC (fC (.int 0)) (faC (fC (.int 0)) faN))))) (faC (fTup (faC (fC (.int 2)) (faC (fC (.int 1)) (faC (fC (.int 0)) (faC (fC (.int 0)) faN))))) faN))))))))))
def m_Lfew_versions : List D → Option D := runD g_Lfew_versions 0
theorem sc_Lfew_versions : FnScope [] [] (defScope s_Lfew_versions) := ⟨rfl, rfl, rfl, by decide +kernel, rfl, by decide +kernel, by decide +kernel⟩
theorem ok_Lfew_versions (W : Wt K mg) : Fn P w K mg base 1 "_law_few_versions" [] m_Lfew_versions := by
  have sc := sc_Lfew_versions
  refine fn_ok W.t_Lfew_versions sc rfl (fun _ _ _ _ _ _ us hl => match us, hl with | [], _ => rfl) fun f cdv A outer s H E hr => ?_
  exact (s_one (s_ret (d_lst (da_cons (d_tup (da_cons d_int (da_cons d_int (da_cons d_int (da_cons d_int da_nil))))) (da_cons (d_tup (da_cons d_int (da_cons d_int (da_cons d_int (da_cons d_neg1 da_nil))))) (da_cons (d_tup (da_cons d_int (da_cons d_int (da_cons d_int (da_cons d_int da_nil))))) (da_cons (d_tup (da_cons d_int (da_cons d_int (da_cons d_int (da_cons d_int da_nil))))) (da_cons (d_tup (da_cons d_int (da_cons d_int (da_cons d_int (da_cons d_int da_nil))))) (da_cons (d_tup (da_cons d_int (da_cons d_int (da_cons d_int (da_cons d_neg1 da_nil))))) (da_cons (d_tup (da_cons d_int (da_cons d_int (da_cons d_int (da_cons d_int da_nil))))) (da_cons (d_tup (da_cons d_int (da_cons d_int (da_cons d_int (da_cons d_int da_nil))))) da_nil)))))))))))
def g_Lis_name : Fs := (gRet (fAndV (f1 (isiD "str") (fV 0)) (fAndV (fChain ltD ltD (fC (.int 0)) (fCall lenM (faC (fV 0) faN)) (fC (.int 13))) (f2 eqD (fLc (fStr (fV 0)) (.name 1) (fNot (asB (fChain leD leD (fC (.str (PySem.Str.ofString "a"))) (fV 1) (fC (.str (PySem.Str.ofString "z")))))) (fC (.int 1)) [1]) (fLst faN)))))
def m_Lis_name : List D → Option D := runD g_Lis_name 1
theorem sc_Lis_name : FnScope [("_law_own" : Str), ("_law_sign_so" : Str)] [("_law_own" : Str)] (defScope s_Lis_name) := ⟨rfl, rfl, rfl, by decide +kernel, rfl, by decide +kernel, by decide +kernel⟩
theorem ok_Lis_name (W : Wt K mg) : Fn P w K mg base 1 "_law_is_name" [("_law_own" : Str)] m_Lis_name := by
  have sc := sc_Lis_name
  refine fn_ok W.t_Lis_name sc rfl (fun _ _ _ _ _ _ us hl => match us, hl with | [_], _ => rfl) fun f cdv A outer s H E hr => ?_
  exact (s_one (s_ret (d_and (d_isi (nn := "str") rfl W.b_isinstance rfl W.b_str (by decide +kernel) (by decide) (dv 0)) (d_and (d_ltlt (hu64 hr) d_int (d_len rfl W.b_len (da_cons (dv 0) da_nil)) d_int) (d_one (d_eq (hu64 hr) (d_lc (own := [(("_law_sign_so" : Str), 1)]) rfl sc.nd (i_str (dv 0)) (blkOk_by (N := [("_law_own" : Str), ("_law_sign_so" : Str)]) (sc := defScope s_Lis_name) (by decide +kernel)) (fun _ _ _ _ _ => g_name 1 sc.nd rfl (Or.inl rfl)) (fun _ _ _ _ _ => (dts_one (dt_not (dt_lele (hu64 hr) d_str (dv 1) d_str)))) (fun _ _ _ _ _ => d_int) (by decide)) (d_lst da_nil)))))))
def g_Lis_version : Fs := (gSeq (gIf (fOr (fNot (asB (f1 (isiD "tuple") (fV 0)))) (fOr (asB (f2 neD (fCall lenM (faC (fV 0) faN)) (fC (.int 4)))) (fNot (asB (fCall allM (faC (fLc (fSeq (fV 0)) (.name 1) fYes (fCall m_Lis_number (faC (fV 1) faN)) [1]) faN)))))) (gRet (fC (.bool false))) gNx) (gRet (fAndV (f2 geD (fCall minM (faC (f1 (slD none (some 3)) (fV 0)) faN)) (fC (.int 0))) (fChain leD leD (fC (.int (-9))) (f2 ixD (fV 0) (fC (.int 3))) (fC (.int 0))))))
def m_Lis_version : List D → Option D := runD g_Lis_version 1
theorem sc_Lis_version : FnScope [("_law_own" : Str), ("_law_bit" : Str)] [("_law_own" : Str)] (defScope s_Lis_version) := ⟨rfl, rfl, rfl, by decide +kernel, rfl, by decide +kernel, by decide +kernel⟩
theorem ok_Lis_version (W : Wt K mg) : Fn P w K mg base 2 "_law_is_version" [("_law_own" : Str)] m_Lis_version := by
  have sc := sc_Lis_version
  refine fn_ok W.t_Lis_version sc rfl (fun _ _ _ _ _ _ us hl => match us, hl with | [_], _ => rfl) fun f cdv A outer s H E hr => ?_
  exact (s_cons (s_if (PW.pt (dw_or (dt_not (dt_val (d_isi (nn := "tuple") rfl W.b_isinstance rfl W.b_tuple (by decide +kernel) (by decide) (dv 0)))) (dw_or (dt_ne (hu64 hr) (d_len rfl W.b_len (da_cons (dv 0) da_nil)) d_int) (dw_or1 (dt_not (dt_val (d_all rfl rfl W.b_all (da_cons (d_lc (own := [(("_law_bit" : Str), 1)]) rfl sc.nd (i_seq (dv 0)) (blkOk_by (N := [("_law_own" : Str), ("_law_bit" : Str)]) (sc := defScope s_Lis_version) (by decide +kernel)) (fun _ _ _ _ _ => g_name 1 sc.nd rfl (Or.inl rfl)) (fun _ _ _ _ _ => dts_nil) (fun _ _ _ _ _ => (d_fn (ok_Lis_number W) hr (by decide) rfl (da_cons (dv 1) da_nil) (lnS ln0))) (by decide)) da_nil)))))))) (s_one (s_ret d_bl)) s_nil) (s_one (s_ret (d_and (d_ge (hu64 hr) (d_min rfl (hu64 hr) rfl W.b_min (da_cons (d_slice (dv 0) po_n po_i) da_nil)) d_int) (d_one (d_lele (hu64 hr) d_neg1 (d_item (dv 0) d_int) d_int))))))
def g_Lis_item : Fs := (gRet (fAndV (f1 (isiD "tuple") (fV 0)) (fAndV (f2 eqD (fCall lenM (faC (fV 0) faN)) (fC (.int 2))) (fAndV (fCall m_Lis_name (faC (f2 ixD (fV 0) (fC (.int 0))) faN)) (fOrV (f2 eqD (f2 ixD (fV 0) (fC (.int 1))) (fC (.str (PySem.Str.ofString "")))) (fCall m_Lis_name (faC (f2 ixD (fV 0) (fC (.int 1))) faN)))))))
def m_Lis_item : List D → Option D := runD g_Lis_item 0
theorem sc_Lis_item : FnScope [("_law_own" : Str)] [("_law_own" : Str)] (defScope s_Lis_item) := ⟨rfl, rfl, rfl, by decide +kernel, rfl, by decide +kernel, by decide +kernel⟩
theorem ok_Lis_item (W : Wt K mg) : Fn P w K mg base 2 "_law_is_item" [("_law_own" : Str)] m_Lis_item := by
  have sc := sc_Lis_item
  refine fn_ok W.t_Lis_item sc rfl (fun _ _ _ _ _ _ us hl => match us, hl with | [_], _ => rfl) fun f cdv A outer s H E hr => ?_
  exact (s_one (s_ret (d_and (d_isi (nn := "tuple") rfl W.b_isinstance rfl W.b_tuple (by decide +kernel) (by decide) (dv 0)) (d_and (d_eq (hu64 hr) (d_len rfl W.b_len (da_cons (dv 0) da_nil)) d_int) (d_and (d_fn (ok_Lis_name W) hr (by decide) rfl (da_cons (d_item (dv 0) d_int) da_nil) (lnS ln0)) (d_one (d_or (d_eq (hu64 hr) (d_item (dv 0) d_int) d_str) (d_one (d_fn (ok_Lis_name W) hr (by decide) rfl (da_cons (d_item (dv 0) d_int) da_nil) (lnS ln0))))))))))
def g_Lis_span : Fs := (gSeq (gIf (fOr (fNot (asB (f1 (isiD "tuple") (fV 0)))) (fNot (asB (fCall allM (faC (fLc (fSeq (fV 0)) (.name 1) fYes (fAndV (f1 (isiD "tuple") (fV 1)) (f2 eqD (fCall lenM (faC (fV 1) faN)) (fC (.int 2)))) [1]) faN))))) (gRet (fC (.bool false))) gNx) (gSeq (gIf (fNot (asB (fCall allM (faC (fLc (fSeq (fV 0)) (.name 1) fYes (fAndV (fCall m_Lis_version (faC (f2 ixD (fV 1) (fC (.int 0))) faN)) (fOrV (f2 isND (f2 ixD (fV 1) (fC (.int 1))) (fC .none)) (fCall m_Lis_version (faC (f2 ixD (fV 1) (fC (.int 1))) faN)))) [1]) faN)))) (gRet (fC (.bool false))) gNx) (gSeq (gIf (fNot (asB (fCall allM (faC (fLc (fSeq (fV 0)) (.name 1) fYes (fOrV (f2 isND (f2 ixD (fV 1) (fC (.int 1))) (fC .none)) (f2 ltD (f2 ixD (fV 1) (fC (.int 0))) (f2 ixD (fV 1) (fC (.int 1))))) [1]) faN)))) (gRet (fC (.bool false))) gNx) (gRet (fCall allM (faC (fLc (fZip (faC (fV 0) (faC (f1 (slD (some 1) none) (fV 0)) faN))) (.tup [2, 3]) fYes (fAndV (f2 notND (f2 ixD (fV 2) (fC (.int 1))) (fC .none)) (f2 ltD (f2 ixD (fV 2) (fC (.int 1))) (f2 ixD (fV 3) (fC (.int 0))))) [2, 3]) faN))))))
def m_Lis_span : List D → Option D := runD g_Lis_span 3
theorem sc_Lis_span : FnScope [("_law_own" : Str), ("_law_bit" : Str), ("_law_near_so" : Str), ("_law_far_so" : Str)] [("_law_own" : Str)] (defScope s_Lis_span) := ⟨rfl, rfl, rfl, by decide +kernel, rfl, by decide +kernel, by decide +kernel⟩
theorem ok_Lis_span (W : Wt K mg) : Fn P w K mg base 3 "_law_is_span" [("_law_own" : Str)] m_Lis_span := by
  have sc := sc_Lis_span
  refine fn_ok W.t_Lis_span sc rfl (fun _ _ _ _ _ _ us hl => match us, hl with | [_], _ => rfl) fun f cdv A outer s H E hr => ?_
  exact (s_cons (s_if (PW.pt (dw_or (dt_not (dt_val (d_isi (nn := "tuple") rfl W.b_isinstance rfl W.b_tuple (by decide +kernel) (by decide) (dv 0)))) (dw_or1 (dt_not (dt_val (d_all rfl rfl W.b_all (da_cons (d_lc (own := [(("_law_bit" : Str), 1)]) rfl sc.nd (i_seq (dv 0)) (blkOk_by (N := [("_law_own" : Str), ("_law_bit" : Str), ("_law_near_so" : Str), ("_law_far_so" : Str)]) (sc := defScope s_Lis_span) (by decide +kernel)) (fun _ _ _ _ _ => g_name 1 sc.nd rfl (Or.inl rfl)) (fun _ _ _ _ _ => dts_nil) (fun _ _ _ _ _ => (d_and (d_isi (nn := "tuple") rfl W.b_isinstance rfl W.b_tuple (by decide +kernel) (by decide) (dv 1)) (d_one (d_eq (hu64 hr) (d_len rfl W.b_len (da_cons (dv 1) da_nil)) d_int)))) (by decide)) da_nil))))))) (s_one (s_ret d_bl)) s_nil) (s_cons (s_if (dt_not (dt_val (d_all rfl rfl W.b_all (da_cons (d_lc (own := [(("_law_bit" : Str), 1)]) rfl sc.nd (i_seq (dv 0)) (blkOk_by (N := [("_law_own" : Str), ("_law_bit" : Str), ("_law_near_so" : Str), ("_law_far_so" : Str)]) (sc := defScope s_Lis_span) (by decide +kernel)) (fun _ _ _ _ _ => g_name 1 sc.nd rfl (Or.inl rfl)) (fun _ _ _ _ _ => dts_nil) (fun _ _ _ _ _ => (d_and (d_fn (ok_Lis_version W) hr (by decide) rfl (da_cons (d_item (dv 1) d_int) da_nil) (lnS ln0)) (d_one (d_or (d_isN (d_item (dv 1) d_int) d_non) (d_one (d_fn (ok_Lis_version W) hr (by decide) rfl (da_cons (d_item (dv 1) d_int) da_nil) (lnS ln0))))))) (by decide)) da_nil)))) (s_one (s_ret d_bl)) s_nil) (s_cons (s_if (dt_not (dt_val (d_all rfl rfl W.b_all (da_cons (d_lc (own := [(("_law_bit" : Str), 1)]) rfl sc.nd (i_seq (dv 0)) (blkOk_by (N := [("_law_own" : Str), ("_law_bit" : Str), ("_law_near_so" : Str), ("_law_far_so" : Str)]) (sc := defScope s_Lis_span) (by decide +kernel)) (fun _ _ _ _ _ => g_name 1 sc.nd rfl (Or.inl rfl)) (fun _ _ _ _ _ => dts_nil) (fun _ _ _ _ _ => (d_or (d_isN (d_item (dv 1) d_int) d_non) (d_one (d_lt (hu64 hr) (d_item (dv 1) d_int) (d_item (dv 1) d_int))))) (by decide)) da_nil)))) (s_one (s_ret d_bl)) s_nil) (s_one (s_ret (d_all rfl rfl W.b_all (da_cons (d_lc (own := [(("_law_near_so" : Str), 2), (("_law_far_so" : Str), 3)]) rfl sc.nd (i_zip rfl W.b_zip (da_cons (dv 0) (da_cons (d_slice (dv 0) po_i po_n) da_nil))) (blkOk_by (N := [("_law_own" : Str), ("_law_bit" : Str), ("_law_near_so" : Str), ("_law_far_so" : Str)]) (sc := defScope s_Lis_span) (by decide +kernel)) (fun _ _ _ _ _ => g_tup rfl sc.nd (.cons rfl (Or.inl rfl) (Or.inr rfl) (.cons rfl (Or.inl rfl) (Or.inr rfl) Names.nil))) (fun _ _ _ _ _ => dts_nil) (fun _ _ _ _ _ => (d_and (d_notN (d_item (dv 2) d_int) d_non) (d_one (d_lt (hu64 hr) (d_item (dv 2) d_int) (d_item (dv 3) d_int))))) (by decide)) da_nil)))))))
def g_Lis_term : Fs := (gSeq (gIf (fOr (fNot (asB (f1 (isiD "tuple") (fV 0)))) (fOr (asB (f2 neD (fCall lenM (faC (fV 0) faN)) (fC (.int 3)))) (fNot (asB (fCall m_Lis_item (faC (f2 ixD (fV 0) (fC (.int 0))) faN)))))) (gRet (fC (.bool false))) gNx) (gRet (fAndV (f1 (isiD "bool") (f2 ixD (fV 0) (fC (.int 1)))) (fCall m_Lis_span (faC (f2 ixD (fV 0) (fC (.int 2))) faN)))))
def m_Lis_term : List D → Option D := runD g_Lis_term 0
theorem sc_Lis_term : FnScope [("_law_own" : Str)] [("_law_own" : Str)] (defScope s_Lis_term) := ⟨rfl, rfl, rfl, by decide +kernel, rfl, by decide +kernel, by decide +kernel⟩
theorem ok_Lis_term (W : Wt K mg) : Fn P w K mg base 4 "_law_is_term" [("_law_own" : Str)] m_Lis_term := by
  have sc := sc_Lis_term
  refine fn_ok W.t_Lis_term sc rfl (fun _ _ _ _ _ _ us hl => match us, hl with | [_], _ => rfl) fun f cdv A outer s H E hr => ?_
  exact (s_cons (s_if (PW.pt (dw_or (dt_not (dt_val (d_isi (nn := "tuple") rfl W.b_isinstance rfl W.b_tuple (by decide +kernel) (by decide) (dv 0)))) (dw_or (dt_ne (hu64 hr) (d_len rfl W.b_len (da_cons (dv 0) da_nil)) d_int) (dw_or1 (dt_not (dt_val (d_fn (ok_Lis_item W) hr (by decide) rfl (da_cons (d_item (dv 0) d_int) da_nil) (lnS ln0)))))))) (s_one (s_ret d_bl)) s_nil) (s_one (s_ret (d_and (d_isi (nn := "bool") rfl W.b_isinstance rfl W.b_bool (by decide +kernel) (by decide) (d_item (dv 0) d_int)) (d_one (d_fn (ok_Lis_span W) hr (by decide) rfl (da_cons (d_item (dv 0) d_int) da_nil) (lnS ln0)))))))
def g_Lstands : Fs := (gRet (fIf (asB (f2 isND (fV 1) (fC .none))) (f2 ixD (fV 0) (fC (.int 1))) (fCall m_Lheld (faC (f2 ixD (fV 0) (fC (.int 2))) (faC (fV 1) faN)))))
def m_Lstands : List D → Option D := runD g_Lstands 0
theorem sc_Lstands : FnScope [("_law_term_so" : Str), ("_law_state_so" : Str)] [("_law_term_so" : Str), ("_law_state_so" : Str)] (defScope s_Lstands) := ⟨rfl, rfl, rfl, by decide +kernel, rfl, by decide +kernel, by decide +kernel⟩
theorem ok_Lstands (W : Wt K mg) : Fn P w K mg base 2 "_law_stands" [("_law_term_so" : Str), ("_law_state_so" : Str)] m_Lstands := by
  have sc := sc_Lstands
  refine fn_ok W.t_Lstands sc rfl (fun _ _ _ _ _ _ us hl => match us, hl with | [_, _], _ => rfl) fun f cdv A outer s H E hr => ?_
  exact (s_one (s_ret (d_if (dt_isN (dv 1) d_non) (d_item (dv 0) d_int) (d_fn (ok_Lheld W) hr (by decide) rfl (da_cons (d_item (dv 0) d_int) (da_cons (dv 1) da_nil)) (lnS (lnS ln0))))))
def g_Ltries : Fs := (gRet (f2 addD (f2 addD (fLst (faC (fC .none) faN)) (fCall lstM (faC (fCall m_Lpoints (faC (fLst (faC (f2 ixD (fV 0) (fC (.int 2))) (faC (f2 ixD (fV 1) (fC (.int 2))) faN))) faN)) faN))) (fCall m_Lfew_versions faN)))
def m_Ltries : List D → Option D := runD g_Ltries 0
theorem sc_Ltries : FnScope [("_law_one_so" : Str), ("_law_two_so" : Str)] [("_law_one_so" : Str), ("_law_two_so" : Str)] (defScope s_Ltries) := ⟨rfl, rfl, rfl, by decide +kernel, rfl, by decide +kernel, by decide +kernel⟩
theorem ok_Ltries (W : Wt K mg) : Fn P w K mg base 3 "_law_tries" [("_law_one_so" : Str), ("_law_two_so" : Str)] m_Ltries := by
  have sc := sc_Ltries
  refine fn_ok W.t_Ltries sc rfl (fun _ _ _ _ _ _ us hl => match us, hl with | [_, _], _ => rfl) fun f cdv A outer s H E hr => ?_
  exact (s_one (s_ret (d_add (d_add (d_lst (da_cons d_non da_nil)) (d_lstOf rfl W.b_list (da_cons (d_fn (ok_Lpoints W) hr (by decide) rfl (da_cons (d_lst (da_cons (d_item (dv 0) d_int) (da_cons (d_item (dv 1) d_int) da_nil))) da_nil) (lnS ln0)) da_nil))) (d_fn0 (ok_Lfew_versions W) hr (by decide) rfl))))
end
end Nf
set_option Elab.async false
set_option linter.all false
set_option maxRecDepth 100000
set_option maxHeartbeats 4000000
/-! an own error over data -/
namespace Nf
open PySem PySem.Spec L2
section
variable {X : Cx} {C : Addr} {bmB : List Value} {B newId initId : String}
/-- X(), X an own exception class without own __init__ -/
theorem pmk_own0 {x : Str} {p pos : Pos} (F : ExcBaseFacts B newId initId bmB) (q : PySem.W.excIn X.K C bmB newId = true) (gC : X.mg x = some (.ref C)) (kC : PySem.W.keepIn X.K (.ref C) = true) (r : Raises X (.ref C)) (hg : Gl X x)
    (hdb : (x == ("__debug__" : Str)) = false := by decide) : PMk X (.Call (.Name x p) [] [] pos) (fun _ H Q => Q (.ref C) none H) := by
  intro pins s σ H Q I h
  refine wpAny_Call_Name_kw (ld_glob I hg gC ?_ hdb)
  refine PySem.W.callWith_K0 I.kIn kC ?_
  show wpAny _ _ (call (.ref C) []) _ _ _
  obtain ⟨bm, N, nm, qn, bs, hdct, sn, sub, ab, col, dd, k0, k1, k2, k3, k5, mN, hC, hN, hni, T⟩ := exc_obj I.kIn q
  obtain ⟨hp, g, dr, tk, os⟩ := s
  refine wpAny_call_exc_subT F T hC hN hni (fun h' e hm => ?_) (Nat.zero_le _)
  exact mk_of I hm r h (I.hok.gone hm.new)
end
/-! ### statements that may raise -/
inductive ResX where
  | nx (ds : List Slot)
  | rt (d : D)
  | er
def Res.x : Res → ResX
  | .nx ds => .nx ds
  | .rt d => .rt d
abbrev Fx := List Slot → Option ResX
def tSX (K : PySem.W.Frag) (C : Addr) (W : WX) (g : Fx) : TS := fun D σ H => ∃ H0 T0 M T ds r, Sd K H0 T0 M T σ H ds ∧ g ds = some r ∧
  (∀ ds', r = .nx ds' → ∀ T' σ' H', Sd K H0 T0 M T' σ' H' ds' → D.nx σ' H') ∧ (∀ d, r = .rt d → ∀ v H' T1, Ex M H0 H' → (∀ t ∈ T0, t ∈ M ∨ t ∈ T1) → Rp K T1 H' v d → D.rt v H') ∧
  (r = .er → ∀ σ' H', Ex M H0 H' → W (.ref C) none σ' H')
def gX (g : Fs) : Fx := fun ds => (g ds).map Res.x
def gXSeq (a b : Fx) : Fx := fun ds => match a ds with
  | some (.nx ds') => b ds'
  | r => r
def gXIf (c : Fb) (a b : Fx) : Fx := fun ds => match c ds with | some true => a ds | some false => b ds | none => none
def gXEr : Fx := fun _ => some .er
def bindX (t : Tgt) (ds : List Slot) : Option D → Option ResX
  | some d => (bindD t d ds).map .nx
  | none => some .er
def gXAsg (t : Tgt) (m : List D → Option (Option D)) (g : Fa) : Fx := fun ds => (g ds).bind fun xs => (m xs).bind fun r => bindX t ds r
/-- the promise of a def that may raise the error of class C -/
def spX (K : PySem.W.Frag) (C : Addr) (n : Nat) (m : List D → Option (Option D)) : Sp := fun vs H Q E => vs.length = n ∧ ∃ T xs r, TOk T H ∧ RpA K T H vs xs ∧ m xs = some r ∧
  (∀ d, r = some d → ∀ v H', Same H H' → Rp K T H' v d → Q v H') ∧ (r = none → ∀ H', Same H H' → E (.ref C) none H')
section
variable {X : Cx} {C : Addr} {W : WX} {st : Stmt} {rest a b : List Stmt} {g g' : Fx} {pos : Pos}
theorem sx_of {gs : Fs} (h : PS X st (tS X.K gs)) : PS X st (tSX X.K C W (gX gs)) := h.imp fun D σ H ⟨H0, T0, M, T, ds, r, S, e, n, q, _⟩ => by
  unfold gX at e
  cases eg : gs ds with
  | none => rw [eg] at e; cases e
  | some r' =>
    rw [eg] at e
    cases e
    refine ⟨H0, T0, M, T, ds, r', S, eg, fun ds' z => n ds' (by rw [z]; rfl), fun d z => q d (by rw [z]; rfl)⟩
theorem sx_nil : PSs X [] (tSX X.K C W fun ds => some (.nx ds)) := pss_nil.imp fun D σ H ⟨H0, T0, M, T, ds, r, S, e, n, _⟩ => by cases e; exact n _ rfl T σ H S
theorem sx_one (h : PS X st (tSX X.K C W g)) : PSs X [st] (tSX X.K C W g) := pss_one h
theorem sx_cons (h1 : PS X st (tSX X.K C W g)) (h2 : PSs X rest (tSX X.K C W g')) : PSs X (st :: rest) (tSX X.K C W (gXSeq g g')) := (pss_cons h1 h2).imp fun D σ H ⟨H0, T0, M, T, ds, r, S, e, n, q, w⟩ => by
  unfold gXSeq at e
  cases eg : g ds with
  | none => rw [eg] at e; cases e
  | some r' =>
    rw [eg] at e
    cases r' with
    | nx ds' =>
      refine ⟨H0, T0, M, T, ds, _, S, eg, fun ds2 e2 T' σ' H' S' => ?_, fun d e2 => (by cases e2), fun e2 => (by cases e2)⟩
      cases e2
      exact ⟨H0, T0, M, T', ds', r, S', e, n, q, w⟩
    | rt d => cases e; exact ⟨H0, T0, M, T, ds, _, S, eg, (fun _ e2 => nomatch e2), q, w⟩
    | er => cases e; exact ⟨H0, T0, M, T, ds, _, S, eg, (fun _ e2 => nomatch e2), q, w⟩
theorem sx_if {c : Expr} {fc : Fb} (hc : PT X c (tDT X.K fc)) (ha : PSs X a (tSX X.K C W g)) (hb : PSs X b (tSX X.K C W g')) : PS X (.If c a b pos) (tSX X.K C W (gXIf fc g g')) := (ps_if hc ha hb).imp fun D σ H ⟨H0, T0, M, T, ds, r, S, e, n, q, w⟩ => by
  unfold gXIf at e
  cases ec : fc ds with
  | none => rw [ec] at e; cases e
  | some k =>
    rw [ec] at e
    refine ⟨T, ds, k, S.se, ec, fun H1 s1 => ?_⟩
    cases k with
    | true => exact iteT ⟨H0, T0, M, T, ds, r, S.same s1, e, n, q, w⟩
    | false => exact iteF ⟨H0, T0, M, T, ds, r, S.same s1, e, n, q, w⟩
theorem sx_raise {e : Expr} (hc : X.calm = true) (tk : Takes X W) (he : PMk X e (fun _ H Q => Q (.ref C) none H)) : PS X (.Raise (some e) none pos) (tSX X.K C W gXEr) := (ps_raise hc tk he).imp fun D σ H ⟨H0, T0, M, T, ds, r, S, e, n, q, w⟩ => by
  cases e
  exact w rfl σ H S.base
end
/-- a def that holds its mirror's promise, or raises -/
def FnX (P : Program) (w : World) (K : PySem.W.Frag) (mg : Str → Option Value) (base : Heap) (C : Addr) (k : Nat) (x : Str) (ps : List Str) (m : List D → Option (Option D)) : Prop :=
  ∃ f fd, FnOk P w K mg base (L2.CX P w) k f fd ps (spX K C ps.length m) ∧ mg x = some (.ref f) ∧ PySem.W.keepIn K (.ref f) = true ∧ Binds K fd ps []
section
variable {X : Cx} {C : Addr} {W : WX} {pos cpos p : Pos} {x : Str} {ps : List Str} {k j : Nat} {m : List D → Option (Option D)} {e : Expr} {es : List Expr} {g : Fa}
theorem sx_asg {tg : Expr} {t : Tgt} (tk : Takes X W) (c : FnX X.prog X.w X.K X.mg X.base C k x ps m) (hr : Room j X.A) (hk : k ≤ j) (hg : Gl X x) (ha : PA X (e :: es) (tDA X.K g)) (hn : ∀ ds xs, g ds = some xs → xs.length = ps.length) (hgt : PG X tg (tgV X.K t))
    (hdb : (x == ("__debug__" : Str)) = false := by decide) (he : starEach (e :: es) X.env = (false, eval e X.env) :: starEach es X.env := by rfl) (hpl : (backTo cpos (starEach es X.env)).any (·.1) = false := by rfl)
    (hs : swapsWithSole [tg] (.Call (.Name x p) (e :: es) [] cpos) pos.line X.env = pure false := by rfl) (hw : swappedStores [tg] (.Call (.Name x p) (e :: es) [] cpos) X.env = pure none := by rfl) (h1 : (assignEach [tg] X.env).map (·.2) = [assign tg X.env] := by rfl) :
    PS X (.Assign [tg] (.Call (.Name x p) (e :: es) [] cpos) pos) (tSX X.K C W (gXAsg t m g)) := by
  obtain ⟨f, fd, F, hm, kp, b⟩ := c
  refine (ps_asg (pe_callS F (hr.mono hk) hg hm kp b (fun σ => passAt tk σ) ha hdb he hpl) hgt hs hw h1).imp fun D σ H ⟨H0, T0, M, T, ds, r, S, e, n, q, w⟩ => ?_
  unfold gXAsg at e
  cases eg : g ds with
  | none => rw [eg] at e; cases e
  | some xs =>
    rw [eg] at e
    replace e : ((m xs).bind fun r => bindX t ds r) = some r := e
    cases em : m xs with
    | none => rw [em] at e; cases e
    | some o =>
      rw [em] at e
      replace e : bindX t ds o = some r := e
      refine ⟨T, ds, xs, S.se, eg, fun vs H1 s1 r1 => ?_⟩
      have S1 := S.same s1
      refine ⟨by rw [r1.length]; exact hn ds xs eg, T, xs, o, S1.se.dom, r1, em, fun d z v H' s2 rd => ?_, fun z H' s2 => ?_⟩
      · subst z
        replace e : (bindD t d ds).map ResX.nx = some r := e
        cases eb : bindD t d ds with
        | none => rw [eb] at e; cases e
        | some ds' =>
          rw [eb] at e
          cases e
          exact bind_okS (S1.same s2) rd eb fun σ' S' => n ds' rfl T σ' H' S'
      · subst z
        cases e
        exact w rfl σ H' (S1.same s2).base
end
def outX : Option ResX → Option (Option D)
  | some (.nx _) => some (some .none)
  | some (.rt d) => some (some d)
  | some .er => some none
  | none => none
def runX (g : Fx) (k : Nat) (xs : List D) : Option (Option D) := outX (g (startD xs k))
section
variable {P : Program} {w : World} {K : PySem.W.Frag} {mg : Str → Option Value} {base : Heap} {C : Addr}
theorem bodyX_ok {g : Fx} {k n : Nat} {N : List Str} {vs : List V} {H : Hp} {Q : VK} {E : XK} (hk : N.length = n + k) (h : spX K C n (runX g k) vs H Q E) : tSX K C (fun cls d _ H => E cls d H) g { nx := fun _ H' => Q .non H', rt := Q } (L2.start N vs) H := by
  obtain ⟨hn, T, xs, r, t, ra, e, q, z⟩ := h
  unfold runX at e
  cases eg : g (startD xs k) with
  | none => rw [eg] at e; cases e
  | some res =>
    rw [eg] at e
    refine ⟨H, T, [], T, _, res, start_ok t ra (by rw [hn]; exact hk), eg, fun ds' y T' σ' H' S' => ?_, fun d' y v H' T1 x w r' => ?_, fun y σ' H' x => ?_⟩
    · subst y
      cases e
      exact q _ rfl _ H' (fun b o z => S'.base b o (fun z => nomatch z) z) .non
    · subst y
      cases e
      exact q _ rfl v H' (fun b o z => x b o (fun z => nomatch z) z) (r'.weak fun t h => (w t h).resolve_left fun z => nomatch z)
    · subst y
      cases e
      exact z rfl H' (fun b o z => x b o (fun z => nomatch z) z)
theorem fnx_ok {x : Str} {st : Stmt} {N ps : List Str} {k j : Nat} {g : Fx} (t : Tx K mg x st) (S : FnScope N ps (defScope st)) (hN : N.length = ps.length + k)
    (hbd : ∀ (kV doc pm : Value) (an : Option Addr) (cdv ct : Value) (us : List Value), us.length = ps.length → bindArgs (PySem.W.fnOf x x (defArgs st) (defBody st) (defScope st) .none kV doc pm an cdv ct) ⟨us, []⟩ = pure (ps.zip us))
    (hb : ∀ (f : Addr) (cdv : Value) (A : Around) (outer : List Env) (s : Shared) (H : Hp) (E : XK), Room j (A.deeper (PyProof.Rows.envOfC x (defScope st) s.heap.objs.size f cdv)) →
      PSs (cxOf (L2.CX P w) P w K mg base N x (defScope st) f cdv A outer s H E) (defBody st) (tSX K C (fun cls d _ H => E cls d H) g)) : FnX P w K mg base C (j + 1) x ps (runX g k) := by
  obtain ⟨f, fd, F, hm⟩ := t
  exact ⟨f, fd, F.okX S (fun _ _ _ _ h => h.1) fun cdv A outer s H vs Q E hr h => ⟨_, hb f cdv A outer s H E hr, bodyX_ok hN h⟩, hm, F.kp, F.binds hbd⟩
end
/-! ### the error's class -/
structure ErrC (K : PySem.W.Frag) (mg : Str → Option Value) (x : Str) (C : Addr) : Prop where
  gC : mg x = some (.ref C)
  kC : PySem.W.keepIn K (.ref C) = true
  ex : PySem.W.excIn K C [.type "ValueError", .type "Exception", .type "BaseException", .type "object"] "ValueError.__new__" = true
  sb : PySem.W.subIn K (.ref C) (.type "BaseException") = some true
  ty : PySem.W.typeIn K (.ref C) = some (.type "type")
  self : PySem.W.exmOne K (.ref C) (.ref C) = some true
  is : ExcC K C
  kit : PySem.W.kitOne K (.ref C) (.type "ValueError") = some true
theorem ErrC.make {X : Cx} {x : Str} {C : Addr} (T : ErrC X.K X.mg x C) {p pos : Pos} (hg : Gl X x) (hdb : (x == ("__debug__" : Str)) = false := by decide) : PMk X (.Call (.Name x p) [] [] pos) (fun _ H Q => Q (.ref C) none H) :=
  pmk_own0 PySem.F.excBase_ValueError T.ex T.gC T.kC (raises_own T.sb T.ty) hg hdb
/-! ### f(..), f an expression -/
def HasSp (X : Cx) (k : Nat) (f : Addr) (sp : Sp) : Prop := ∃ fd ps, FnOk X.prog X.w X.K X.mg X.base (L2.CX X.prog X.w) k f fd ps sp ∧ PySem.W.keepIn X.K (.ref f) = true ∧ Binds X.K fd ps []
def tCallF (X : Cx) (k : Nat) (E : L2.St → XK) (tf : TE) (t : TA) : TE := fun σ H Q => tf σ H fun y H1 => ∃ f sp, y = .ref f ∧ HasSp X k f sp ∧ t σ H1 fun vs H2 => sp vs H2 Q (E σ)
theorem pe_callF {X : Cx} {k : Nat} {E : L2.St → XK} {fe e : Expr} {es : List Expr} {tf : TE} {t : TA} {pos : Pos} (hf : PE X fe tf) (hr : Room k X.A) (hx : ∀ σ, PassesAt (L2.CX X.prog X.w) X σ (E σ)) (ha : PA X (e :: es) t)
    (ht : eval (.Call fe (e :: es) [] pos) X.env = (do callWith pos (← eval fe X.env) [] (backTo pos (starEach (e :: es) X.env)) (backToKw pos (keywordEach [] X.env))) := by rfl)
    (he : starEach (e :: es) X.env = (false, eval e X.env) :: starEach es X.env := by rfl) (hpl : (backTo pos (starEach es X.env)).any (·.1) = false := by rfl) : PE X (.Call fe (e :: es) [] pos) (tCallF X k E tf t) := by
  refine ⟨fun pins s σ H Q I h => ?_⟩
  refine PyProof.Rows.Call_ (thn (hf.run pins s σ H _ I h) fun u s1 ⟨y, H1, I1, ry, f, sp, ey, ⟨fd, ps, F, kp, hb⟩, q⟩ => ?_) ht
  subst ey
  obtain rfl : u = Value.ref f := ry
  refine PySem.W.callWith_K (h₀ := X.base) I1.ok.mod.kin kp (thn (ha.run pos pins s1 σ H1 _ I1 q) fun us s2 ⟨vs, H2, I2, r, q2⟩ => ⟨I2.kIn, ?_⟩) he hpl
  exact run_fnS F hr hb (hx σ) I2 r q2
end Nf
namespace Nf
open PySem PySem.Spec L2
/-- a def that may raise, where it does not -/
def okX (m : List D → Option (Option D)) : List D → Option D := fun xs => (m xs).bind id
section
variable {X : Cx} {C : Addr} {pos p : Pos} {x : Str} {ps : List Str} {k j : Nat} {m : List D → Option (Option D)} {e : Expr} {es : List Expr} {g : Fa}
theorem d_fnX (c : FnX X.prog X.w X.K X.mg X.base C k x ps m) (hr : Room j X.A) (hk : k ≤ j) (hg : Gl X x) (ha : PA X (e :: es) (tDA X.K g)) (hn : ∀ ds xs, g ds = some xs → xs.length = ps.length) (hdb : (x == ("__debug__" : Str)) = false := by decide)
    (he : starEach (e :: es) X.env = (false, eval e X.env) :: starEach es X.env := by rfl) (hpl : (backTo pos (starEach es X.env)).any (·.1) = false := by rfl) : PE X (.Call (.Name x p) (e :: es) [] pos) (tD X.K (fCall (okX m) g)) := by
  obtain ⟨f, fd, F, hm, kp, b⟩ := c
  refine (pe_callS F (hr.mono hk) hg hm kp b (fun σ => passAt (W := fun _ _ _ _ => False) takes0 σ) ha hdb he hpl).imp fun σ H Q ⟨T, ds, d, S, e, q⟩ => ?_
  unfold fCall at e
  cases eg : g ds with
  | none => rw [eg] at e; cases e
  | some xs =>
    rw [eg] at e
    replace e : (m xs).bind id = some d := e
    cases em : m xs with
    | none => rw [em] at e; cases e
    | some o =>
      rw [em] at e
      cases o with
      | none => cases e
      | some d' =>
        cases e
        refine ⟨T, ds, xs, S, eg, fun vs H1 s1 r1 => ⟨by rw [r1.length]; exact hn ds xs eg, T, xs, _, (S.same s1).dom, r1, em, fun d z v H' s2 rd => ?_, fun z => nomatch z⟩⟩
        cases z
        exact q v H' (s1.trans s2) rd
end
end Nf
set_option Elab.async false
set_option linter.all false
set_option maxRecDepth 100000
set_option maxHeartbeats 4000000
namespace Nf
open PySem PySem.Spec L2
section
variable {P : Program} {w : World} {K : PySem.W.Frag} {mg : Str → Option Value} {base : Heap} {C : Addr}
def g_of_one_item : Fx := (gXSeq (gX (gPar 2 3 (fCall (m_tupled 12) (faC (fV 0) faN)) (fCall (m_tupled 12) (faC (fV 1) faN)))) (gXSeq (gXIf (asB (f2 neD (f2 ixD (fV 2) (fC (.int 0))) (f2 ixD (fV 3) (fC (.int 0))))) gXEr (fun ds => some (.nx ds))) (gX (gRet (fTup (faC (fV 2) (faC (fV 3) faN)))))))
def m_of_one_item : List D → Option (Option D) := runX g_of_one_item 2
theorem sc_of_one_item : FnScope [("one" : Str), ("other" : Str), ("near" : Str), ("far" : Str)] [("one" : Str), ("other" : Str)] (defScope s_of_one_item) := ⟨rfl, rfl, rfl, by decide +kernel, rfl, by decide +kernel, by decide +kernel⟩
theorem ok_of_one_item (W : Wt K mg) (U : ErrC K mg "Unfit" C) : FnX P w K mg base C 13 "of_one_item" [("one" : Str), ("other" : Str)] m_of_one_item := by
  have sc := sc_of_one_item
  refine fnx_ok W.t_of_one_item sc rfl (fun _ _ _ _ _ _ us hl => match us, hl with | [_, _], _ => rfl) fun f cdv A outer s H E hr => ?_
  exact (sx_cons (sx_of (s_par 2 3 rfl sc.nd rfl rfl (by decide) rfl rfl (d_fn (ok_tupled W 12) hr (by decide) rfl (da_cons (dv 0) da_nil) (lnS ln0)) (d_fn (ok_tupled W 12) hr (by decide) rfl (da_cons (dv 1) da_nil) (lnS ln0)) (by rfl))) (sx_cons (sx_if (dt_ne (hu64 hr) (d_item (dv 2) d_int) (d_item (dv 3) d_int)) (sx_one (sx_raise rfl (takes_of rfl rfl rfl rfl) (ErrC.make U rfl))) sx_nil) (sx_one (sx_of (s_ret (d_tup (da_cons (dv 2) (da_cons (dv 3) da_nil))))))))
def g_term_both : Fx := (gXSeq (gXAsg (.tup [2, 3]) m_of_one_item (faC (fV 0) (faC (fV 1) faN))) (gX (gRet (fTup (faC (f2 ixD (fV 2) (fC (.int 0))) (faC (fAndV (f2 ixD (fV 2) (fC (.int 1))) (f2 ixD (fV 3) (fC (.int 1)))) (faC (fCall m_both_of (faC (f2 ixD (fV 2) (fC (.int 2))) (faC (f2 ixD (fV 3) (fC (.int 2))) faN))) faN)))))))
def m_term_both : List D → Option (Option D) := runX g_term_both 2
theorem sc_term_both : FnScope [("one" : Str), ("other" : Str), ("near" : Str), ("far" : Str)] [("one" : Str), ("other" : Str)] (defScope s_term_both) := ⟨rfl, rfl, rfl, by decide +kernel, rfl, by decide +kernel, by decide +kernel⟩
theorem ok_term_both (W : Wt K mg) (U : ErrC K mg "Unfit" C) : FnX P w K mg base C 16 "term_both" [("one" : Str), ("other" : Str)] m_term_both := by
  have sc := sc_term_both
  refine fnx_ok W.t_term_both sc rfl (fun _ _ _ _ _ _ us hl => match us, hl with | [_, _], _ => rfl) fun f cdv A outer s H E hr => ?_
  exact (sx_cons (sx_asg (takes_of rfl rfl rfl rfl) (ok_of_one_item W U) hr (by decide) rfl (da_cons (dv 0) (da_cons (dv 1) da_nil)) (lnS (lnS ln0)) (g_tup rfl sc.nd (.cons rfl (Or.inl rfl) (Or.inl rfl) (.cons rfl (Or.inl rfl) (Or.inl rfl) Names.nil)))) (sx_one (sx_of (s_ret (d_tup (da_cons (d_item (dv 2) d_int) (da_cons (d_and (d_item (dv 2) d_int) (d_one (d_item (dv 3) d_int))) (da_cons (d_fn (ok_both_of W) hr (by decide) rfl (da_cons (d_item (dv 2) d_int) (da_cons (d_item (dv 3) d_int) da_nil)) (lnS (lnS ln0))) da_nil))))))))
def g_term_either : Fx := (gXSeq (gXAsg (.tup [2, 3]) m_of_one_item (faC (fV 0) (faC (fV 1) faN))) (gX (gRet (fTup (faC (f2 ixD (fV 2) (fC (.int 0))) (faC (fOrV (f2 ixD (fV 2) (fC (.int 1))) (f2 ixD (fV 3) (fC (.int 1)))) (faC (fCall m_either_of (faC (f2 ixD (fV 2) (fC (.int 2))) (faC (f2 ixD (fV 3) (fC (.int 2))) faN))) faN)))))))
def m_term_either : List D → Option (Option D) := runX g_term_either 2
theorem sc_term_either : FnScope [("one" : Str), ("other" : Str), ("near" : Str), ("far" : Str)] [("one" : Str), ("other" : Str)] (defScope s_term_either) := ⟨rfl, rfl, rfl, by decide +kernel, rfl, by decide +kernel, by decide +kernel⟩
theorem ok_term_either (W : Wt K mg) (U : ErrC K mg "Unfit" C) : FnX P w K mg base C 16 "term_either" [("one" : Str), ("other" : Str)] m_term_either := by
  have sc := sc_term_either
  refine fnx_ok W.t_term_either sc rfl (fun _ _ _ _ _ _ us hl => match us, hl with | [_, _], _ => rfl) fun f cdv A outer s H E hr => ?_
  exact (sx_cons (sx_asg (takes_of rfl rfl rfl rfl) (ok_of_one_item W U) hr (by decide) rfl (da_cons (dv 0) (da_cons (dv 1) da_nil)) (lnS (lnS ln0)) (g_tup rfl sc.nd (.cons rfl (Or.inl rfl) (Or.inl rfl) (.cons rfl (Or.inl rfl) (Or.inl rfl) Names.nil)))) (sx_one (sx_of (s_ret (d_tup (da_cons (d_item (dv 2) d_int) (da_cons (d_or (d_item (dv 2) d_int) (d_one (d_item (dv 3) d_int))) (da_cons (d_fn (ok_either_of W) hr (by decide) rfl (da_cons (d_item (dv 2) d_int) (da_cons (d_item (dv 3) d_int) da_nil)) (lnS (lnS ln0))) da_nil))))))))
def g_term_inside : Fx := (gXSeq (gXAsg (.tup [2, 3]) m_of_one_item (faC (fV 0) (faC (fV 1) faN))) (gX (gRet (fAndV (fOrV (f2 ixD (fV 3) (fC (.int 1))) (fNotV (f2 ixD (fV 2) (fC (.int 1))))) (fCall m_is_inside (faC (f2 ixD (fV 2) (fC (.int 2))) (faC (f2 ixD (fV 3) (fC (.int 2))) faN)))))))
def m_term_inside : List D → Option (Option D) := runX g_term_inside 2
theorem sc_term_inside : FnScope [("one" : Str), ("other" : Str), ("near" : Str), ("far" : Str)] [("one" : Str), ("other" : Str)] (defScope s_term_inside) := ⟨rfl, rfl, rfl, by decide +kernel, rfl, by decide +kernel, by decide +kernel⟩
theorem ok_term_inside (W : Wt K mg) (U : ErrC K mg "Unfit" C) : FnX P w K mg base C 17 "term_inside" [("one" : Str), ("other" : Str)] m_term_inside := by
  have sc := sc_term_inside
  refine fnx_ok W.t_term_inside sc rfl (fun _ _ _ _ _ _ us hl => match us, hl with | [_, _], _ => rfl) fun f cdv A outer s H E hr => ?_
  exact (sx_cons (sx_asg (takes_of rfl rfl rfl rfl) (ok_of_one_item W U) hr (by decide) rfl (da_cons (dv 0) (da_cons (dv 1) da_nil)) (lnS (lnS ln0)) (g_tup rfl sc.nd (.cons rfl (Or.inl rfl) (Or.inl rfl) (.cons rfl (Or.inl rfl) (Or.inl rfl) Names.nil)))) (sx_one (sx_of (s_ret (d_and (d_or (d_item (dv 3) d_int) (d_one (d_not (d_item (dv 2) d_int)))) (d_one (d_fn (ok_is_inside W) hr (by decide) rfl (da_cons (d_item (dv 2) d_int) (da_cons (d_item (dv 3) d_int) da_nil)) (lnS (lnS ln0)))))))))
end
end Nf
set_option Elab.async false
set_option linter.all false
set_option maxRecDepth 100000
set_option maxHeartbeats 4000000
/-! _law_heard -/
namespace Nf
open PySem PySem.Spec L2
def unfitD : D := .list [.str (PySem.Str.ofString "unfit"), .bool true]
def heardOut : Option D → D
  | some d => d
  | none => unfitD
def m_Lheard : List D → Option D
  | [.int i, a, b] => if i = 0 then (m_term_both [a, b]).map heardOut else if i = 1 then (m_term_either [a, b]).map heardOut else if i = 2 then (m_term_inside [a, b]).map heardOut else none
  | _ => none
def callHd (X : Cx) (f1 f2 f3 : Addr) (W : WX) : TS := tRet (tCallF X 17 (WE W) (tOp (rIxL X.K) (tLst (tCons (tC (.ref f1)) (tCons (tC (.ref f2)) (tCons (tC (.ref f3)) tNil)))) (tVar 0)) (tCons (tVar 1) (tCons (tVar 2) tNil)))
def suiteHd (C : Addr) : Addr → Value → Option Addr → TS := fun a cls d D σ H => cls = .ref C ∧ d = none ∧ σ[3]? = some (some (.ref a)) ∧ ∀ p, H p = none → D.rt (.ref p) (upd H p (.lst [.str (PySem.Str.ofString "unfit"), .bl true]))
section
variable {P : Program} {w : World} {K : PySem.W.Frag} {mg : Str → Option Value} {base : Heap} {C : Addr}
theorem sc_Lheard : FnScope [("_law_door" : Str), ("_law_one_so" : Str), ("_law_two_so" : Str), ("caught_so" : Str)] [("_law_door" : Str), ("_law_one_so" : Str), ("_law_two_so" : Str)] (defScope s_Lheard) := ⟨rfl, rfl, rfl, by decide +kernel, rfl, by decide +kernel, by decide +kernel⟩
/-- one door -/
theorem door_ok {f : Addr} {m : List D → Option (Option D)} {a b d : D} {v1 v2 : V} {σ : L2.St} {T : List Addr} {H H1 : Hp} {Q : VK} {ps : List Str} (hl : ps.length = 2) (hσ : 3 < σ.length) (U : ErrC K mg "Unfit" C)
    (hs : Same H H1) (t : TOk T H) (r1 : Rp K T H v1 a) (r2 : Rp K T H v2 b) (e : (m [a, b]).map heardOut = some d) (q : ∀ v H', Same H H' → Rp K T H' v d → Q v H') :
    spX K C ps.length m [v1, v2] H1 Q (WE (wAs K (.ref C) 3 (suiteHd C) (fun _ _ _ _ => False) { nx := fun _ H' => Q .non H', rt := Q }) σ) := by
  cases em : m [a, b] with
  | none => rw [em] at e; cases e
  | some o =>
    rw [em] at e
    cases e
    refine ⟨hl.symm, T, [a, b], o, Same.dom hs t, .cons (r1.same hs t) (.cons (r2.same hs t) .nil), em, fun d z v H' s r => ?_, fun z H' s => ?_⟩
    · subst z
      exact q v H' (hs.trans s) r
    · subst z
      refine ⟨true, U.self, fun _ x hx => ⟨rfl, rfl, List.getElem?_set_self hσ, fun p hp => ?_⟩, fun z => nomatch z⟩
      have s2 := hs.trans s
      exact q _ _ (s2.trans (Same.new hp)) (Rp.newL (.cons (.str _) (.cons (.bl true) .nil)) (Same.dom s2 t) hp)
theorem suite_ok {X : Cx} {C : Addr} {x : Str} {k1 : Nat} {p1 p2 p3 p4 p5 p6 p7 : Pos} {a : Addr} {oe : Obj} {cls : Value} {d : Option Addr} {pn : List (Addr × Obj)} (U : ErrC X.K X.mg "Unfit" C) (g1 : Gl X "isinstance") (h1 : X.mg "isinstance" = none) (g2 : Gl X "ValueError") (h2 : X.mg "ValueError" = none) (hN : X.N[3]? = some x) (hv : Vis X.env.scope x)
    (hd : (x == ("__debug__" : Str)) = false) (hcd : (x == ("__classdict__" : Str)) = false) (hz : Zc cls d oe) (hf : ∃ vs, oe.data = .fields vs) :
    PSs (X.suite a ((a, oe) :: pn)) [.Return (some (.List [.Constant (.str (PySem.Str.ofString "unfit")) k1 p1, .Call (.Name "isinstance" p2) [.Name x p3, .Name "ValueError" p4] [] p5] p6)) p7] (suiteHd C a cls d) := by
  refine ⟨fun pins s' σ H' D' I hh => ?_⟩
  obtain ⟨e1, e2, e3, hq⟩ := hh
  subst e1 e2
  refine (pss_one (ps_ret (pe_lst (pa_cons pe_str (pa_cons (pe_callB (X := X.suite a ((a, oe) :: pn)) (call_isE U.is hz hf) g1 h1 (by decide +kernel) (pa_cons (pe_var (i := 3) hN hv hd hcd) (pa_cons (pe_bltn (X := X.suite a ((a, oe) :: pn)) (v := .ty "ValueError") g2 h2 (by decide +kernel) rfl) pa_nil))) pa_nil))))).run pins s' σ H' D' I ?_
  exact ⟨_, e3, .ty "ValueError", .type "ValueError", true, rfl, fun u r => r, U.kit, by show 2 ≤ sizeLine; decide, hq⟩
theorem ok_Lheard (W : Wt K mg) (U : ErrC K mg "Unfit" C) : Fn P w K mg base 18 "_law_heard" [("_law_door" : Str), ("_law_one_so" : Str), ("_law_two_so" : Str)] m_Lheard := by
  obtain ⟨f1, d1, F1, m1, k1, b1⟩ := ok_term_both (P := P) (w := w) (base := base) W U
  obtain ⟨f2, d2, F2, m2, k2, b2⟩ := ok_term_either (P := P) (w := w) (base := base) W U
  obtain ⟨f3, d3, F3, m3, k3, b3⟩ := ok_term_inside (P := P) (w := w) (base := base) W U
  obtain ⟨f, fd, F, hm⟩ := W.t_Lheard
  have sc := sc_Lheard
  refine ⟨f, fd, F.ok sc (fun _ _ _ _ h => h.1) fun cdv A outer s H vs Q E hr h => ⟨_, pss_one (ps_try_as (i := 3) (tb := callHd (cxOf CX0 P w K mg base [("_law_door" : Str), ("_law_one_so" : Str), ("_law_two_so" : Str), ("caught_so" : Str)] "_law_heard" (defScope s_Lheard) f cdv A outer s H E).nox f1 f2 f3) (ts := suiteHd C) (Wout := fun _ _ _ _ => False) rfl rfl sc.nd rfl rfl ⟨rfl, by decide, Or.inl U.gC⟩ takes0
    (fun W' pn xe tk _ => pss_one (ps_ret (pe_callF (pe_ix ix_list (pe_lst (pa_cons (pe_glob (v := .ref f1) rfl m1 rfl) (pa_cons (pe_glob (v := .ref f2) rfl m2 rfl) (pa_cons (pe_glob (v := .ref f3) rfl m3 rfl) pa_nil)))) (pv 0) (fun _ _ => rfl)) hr (fun σ => passAt tk σ) (pa_cons (pv 1) (pa_cons (pv 2) pa_nil)))))
    (fun a oe cls d pn hz hf => suite_ok (X := (cxOf CX0 P w K mg base [("_law_door" : Str), ("_law_one_so" : Str), ("_law_two_so" : Str), ("caught_so" : Str)] "_law_heard" (defScope s_Lheard) f cdv A outer s H E).nox) U rfl W.b_isinstance rfl W.b_ValueError rfl (Or.inl rfl) (by decide) (by decide) hz hf)), ?_⟩, hm, F.kp, F.binds fun _ _ _ _ _ _ us hl => match us, hl with | [_, _, _], _ => rfl⟩
  · obtain ⟨hn, T, xs, d, t, r, e, q⟩ := h
    unfold m_Lheard at e
    split at e
    · rename_i i a b
      cases r with
      | cons r0 r' =>
        cases r0
        cases r' with
        | cons r1 r' =>
          cases r' with
          | cons r2 r' =>
            cases r'
            refine ⟨by show 3 ≤ sizeLine; decide, fun p hp => ⟨_, rfl, ?_⟩⟩
            have hs : Same H (upd H p (.lst [.ref f1, .ref f2, .ref f3])) := Same.new hp
            split at e
            · rename_i hi
              subst hi
              exact ⟨p, [.ref f1, .ref f2, .ref f3], 0, .ref f1, rfl, rfl, SqL.of upd_same, rfl, f1, _, rfl, ⟨d1, _, F1.mono (by decide), k1, b1⟩, _, rfl, _, rfl, door_ok (ps := [("one" : Str), ("other" : Str)]) (f := p) rfl (show 3 < 4 by decide) U hs t r1 r2 e q⟩
            · split at e
              · rename_i hi
                subst hi
                exact ⟨p, [.ref f1, .ref f2, .ref f3], 1, .ref f2, rfl, rfl, SqL.of upd_same, rfl, f2, _, rfl, ⟨d2, _, F2.mono (by decide), k2, b2⟩, _, rfl, _, rfl, door_ok (ps := [("one" : Str), ("other" : Str)]) (f := p) rfl (show 3 < 4 by decide) U hs t r1 r2 e q⟩
              · split at e
                · rename_i hi
                  subst hi
                  exact ⟨p, [.ref f1, .ref f2, .ref f3], 2, .ref f3, rfl, rfl, SqL.of upd_same, rfl, f3, _, rfl, ⟨d3, _, F3.mono (by decide), k3, b3⟩, _, rfl, _, rfl, door_ok (ps := [("one" : Str), ("other" : Str)]) (f := p) rfl (show 3 < 4 by decide) U hs t r1 r2 e q⟩
                · cases e
    · cases e
end
end Nf
set_option Elab.async false
set_option linter.all false
set_option maxRecDepth 100000
set_option maxHeartbeats 4000000
namespace Nf
open PySem PySem.Spec L2
section
variable {P : Program} {w : World} {K : PySem.W.Frag} {mg : Str → Option Value} {base : Heap} {C : Addr}
def g_Lfront_right : Fs := (gSeq (gAsg (.tup [2, 3]) (fTup (faC (fTup (faC (fTup (faC (fTup (faC (fC (.int 0)) (faC (fC (.int 0)) (faC (fC (.int 0)) (faC (fC (.int (-9))) faN))))) (faC (fTup (faC (fC (.int 2)) (faC (fC (.int 0)) (faC (fC (.int 0)) (faC (fC (.int 0)) faN))))) faN))) faN)) (faC (fTup (faC (fTup (faC (fTup (faC (fC (.int 2)) (faC (fC (.int 0)) (faC (fC (.int 0)) (faC (fC (.int 0)) faN))))) (faC (fC .none) faN))) faN)) faN)))) (gSeq (gPar 4 5 (fTup (faC (fTup (faC (fC (.str (PySem.Str.ofString "a"))) (faC (fC (.str (PySem.Str.ofString ""))) faN))) (faC (fC (.bool true)) (faC (fV 2) faN)))) (fTup (faC (fTup (faC (fC (.str (PySem.Str.ofString "a"))) (faC (fC (.str (PySem.Str.ofString ""))) faN))) (faC (fC (.bool false)) (faC (fV 3) faN))))) (gSeq (gAsg (.name 0) (fLst (faC (fCall (okX m_term_both) (faC (fV 4) (faC (fV 5) faN))) (faC (fCall (okX m_term_either) (faC (fV 4) (faC (fV 5) faN))) (faC (fCall m_term_not (faC (fV 4) faN)) (faC (fCall (okX m_term_inside) (faC (fV 5) (faC (fV 4) faN))) faN)))))) (gSeq (gAsg (.name 0) (f2 addD (fV 0) (fLst (faC (fCall (okX m_term_inside) (faC (fCall (okX m_term_both) (faC (fV 4) (faC (fV 5) faN))) (faC (fV 5) faN))) (faC (fCall m_term_holds (faC (fV 4) (faC (fC .none) faN))) (faC (fCall m_term_holds (faC (fV 5) (faC (fTup (faC (fC (.int 2)) (faC (fC (.int 0)) (faC (fC (.int 0)) (faC (fC (.int 0)) faN))))) faN))) faN)))))) (gSeq (gAsg (.name 1) (fLst (faC (fTup (faC (fTup (faC (fC (.str (PySem.Str.ofString "a"))) (faC (fC (.str (PySem.Str.ofString ""))) faN))) (faC (fC (.bool false)) (faC (fTup faN) faN)))) (faC (fTup (faC (fTup (faC (fC (.str (PySem.Str.ofString "a"))) (faC (fC (.str (PySem.Str.ofString ""))) faN))) (faC (fC (.bool true)) (faC (fCall m_Levery faN) faN)))) (faC (fV 5) (faC (fC (.bool false)) (faC (fC (.bool true)) (faC (fC (.bool true)) (faC (fC (.bool true)) faN))))))))) (gRet (fCall (m_Lsame 12) (faC (f2 addD (fV 0) (fLst (faC (fCall m_term_holds (faC (fV 5) (faC (fTup (faC (fC (.int 2)) (faC (fC (.int 0)) (faC (fC (.int 0)) (faC (fC (.int (-1))) faN))))) faN))) faN))) (faC (f2 addD (fV 1) (fLst (faC (fC (.bool false)) faN))) faN)))))))))
def m_Lfront_right : List D → Option D := runD g_Lfront_right 6
theorem sc_Lfront_right : FnScope [("_law_got" : Str), ("_law_due" : Str), ("_law_low_so" : Str), ("_law_high_so" : Str), ("_law_one_so" : Str), ("_law_two_so" : Str)] [] (defScope s_Lfront_right) := ⟨rfl, rfl, rfl, by decide +kernel, rfl, by decide +kernel, by decide +kernel⟩
theorem ok_Lfront_right (W : Wt K mg) (U : ErrC K mg "Unfit" C) : Fn P w K mg base 18 "_law_front_right" [] m_Lfront_right := by
  have sc := sc_Lfront_right
  refine fn_ok W.t_Lfront_right sc rfl (fun _ _ _ _ _ _ us hl => match us, hl with | [], _ => rfl) fun f cdv A outer s H E hr => ?_
  exact (s_cons (s_asg (d_tup (da_cons (d_tup (da_cons (d_tup (da_cons (d_tup (da_cons d_int (da_cons d_int (da_cons d_int (da_cons d_neg1 da_nil))))) (da_cons (d_tup (da_cons d_int (da_cons d_int (da_cons d_int (da_cons d_int da_nil))))) da_nil))) da_nil)) (da_cons (d_tup (da_cons (d_tup (da_cons (d_tup (da_cons d_int (da_cons d_int (da_cons d_int (da_cons d_int da_nil))))) (da_cons d_non da_nil))) da_nil)) da_nil))) (g_tup rfl sc.nd (.cons rfl (Or.inl rfl) (Or.inl rfl) (.cons rfl (Or.inl rfl) (Or.inl rfl) Names.nil)))) (s_cons (s_par 4 5 rfl sc.nd rfl rfl (by decide) rfl rfl (d_tup (da_cons (d_tup (da_cons d_str (da_cons d_str da_nil))) (da_cons d_bl (da_cons (dv 2) da_nil)))) (d_tup (da_cons (d_tup (da_cons d_str (da_cons d_str da_nil))) (da_cons d_bl (da_cons (dv 3) da_nil)))) (by rfl)) (s_cons (s_set 0 sc.nd rfl (Or.inl rfl) (d_lst (da_cons (d_fnX (ok_term_both W U) hr (by decide) rfl (da_cons (dv 4) (da_cons (dv 5) da_nil)) (lnS (lnS ln0))) (da_cons (d_fnX (ok_term_either W U) hr (by decide) rfl (da_cons (dv 4) (da_cons (dv 5) da_nil)) (lnS (lnS ln0))) (da_cons (d_fn (ok_term_not W) hr (by decide) rfl (da_cons (dv 4) da_nil) (lnS ln0)) (da_cons (d_fnX (ok_term_inside W U) hr (by decide) rfl (da_cons (dv 5) (da_cons (dv 4) da_nil)) (lnS (lnS ln0))) da_nil)))))) (s_cons (s_set 0 sc.nd rfl (Or.inl rfl) (d_add (dv 0) (d_lst (da_cons (d_fnX (ok_term_inside W U) hr (by decide) rfl (da_cons (d_fnX (ok_term_both W U) hr (by decide) rfl (da_cons (dv 4) (da_cons (dv 5) da_nil)) (lnS (lnS ln0))) (da_cons (dv 5) da_nil)) (lnS (lnS ln0))) (da_cons (d_fn (ok_term_holds W) hr (by decide) rfl (da_cons (dv 4) (da_cons d_non da_nil)) (lnS (lnS ln0))) (da_cons (d_fn (ok_term_holds W) hr (by decide) rfl (da_cons (dv 5) (da_cons (d_tup (da_cons d_int (da_cons d_int (da_cons d_int (da_cons d_int da_nil))))) da_nil)) (lnS (lnS ln0))) da_nil)))))) (s_cons (s_set 1 sc.nd rfl (Or.inl rfl) (d_lst (da_cons (d_tup (da_cons (d_tup (da_cons d_str (da_cons d_str da_nil))) (da_cons d_bl (da_cons (d_tup da_nil) da_nil)))) (da_cons (d_tup (da_cons (d_tup (da_cons d_str (da_cons d_str da_nil))) (da_cons d_bl (da_cons (d_fn0 (ok_Levery W) hr (by decide) rfl) da_nil)))) (da_cons (dv 5) (da_cons d_bl (da_cons d_bl (da_cons d_bl (da_cons d_bl da_nil))))))))) (s_one (s_ret (d_fn (ok_Lsame W 12) hr (by decide) rfl (da_cons (d_add (dv 0) (d_lst (da_cons (d_fn (ok_term_holds W) hr (by decide) rfl (da_cons (dv 5) (da_cons (d_tup (da_cons d_int (da_cons d_int (da_cons d_int (da_cons d_neg1 da_nil))))) da_nil)) (lnS (lnS ln0))) da_nil))) (da_cons (d_add (dv 1) (d_lst (da_cons d_bl da_nil))) da_nil)) (lnS (lnS ln0))))))))))
end
end Nf
set_option Elab.async false
set_option linter.all false
set_option maxRecDepth 100000
set_option maxHeartbeats 4000000
/-! the draws -/
namespace Nf
open PySem PySem.Spec L2
/-- the box at b: its three ints; the third is at most n -/
def Tin (H : Hp) (b : Addr) (n : Nat) : Prop := ∃ x y z : Int, H b = some (.lst [.int x, .int y, .int z]) ∧ 0 ≤ x ∧ 0 ≤ y ∧ y < 4611686018427387904 ∧ 0 ≤ z ∧ z ≤ n
/-- all but b stands -/
def But (b : Addr) (H H' : Hp) : Prop := ∀ a o, a ≠ b → H a = some o → H' a = some o
theorem But.refl (b : Addr) (H : Hp) : But b H H := fun _ _ _ e => e
theorem But.trans {b : Addr} {H H1 H2 : Hp} (x : But b H H1) (y : But b H1 H2) : But b H H2 := fun a o h e => y a o h (x a o h e)
theorem But.upd {b : Addr} {H : Hp} {o : HO} : But b H (upd H b o) := fun a u h e => by rw [upd_ne h]; exact e
theorem But.same {b : Addr} {H H' : Hp} (s : Same H H') : But b H H' := fun a o _ e => s a o e
theorem But.new {b p : Addr} {H : Hp} {o : HO} (h : H p = none) : But b H (L2.upd H p o) := But.same (Same.new h)
theorem Tin.same {H H' : Hp} {b : Addr} {n : Nat} (t : Tin H b n) (s : Same H H') : Tin H' b n := by
  obtain ⟨x, y, z, h, r⟩ := t
  exact ⟨x, y, z, s _ _ h, r⟩
theorem Tin.mono {H : Hp} {b : Addr} {n m : Nat} (t : Tin H b n) (h : n ≤ m) : Tin H b m := by
  obtain ⟨x, y, z, e, a, c, d, f, g⟩ := t
  exact ⟨x, y, z, e, a, c, d, f, by omega⟩
theorem Tin.step {T : List Addr} {H H' : Hp} {b : Addr} {n : Nat} (hb : b ∈ T) (t : TOk T H) (s : But b H H') (w : Tin H' b n) : Step T H T H' where
  sub := fun _ h => h
  fr := fun _ h => .inl h
  dom := fun a ha e => by
    by_cases hab : a = b
    · obtain ⟨x, y, z, q, _⟩ := w
      rw [hab, q] at e; cases e
    · cases q : H a with
      | none => exact t a ha q
      | some o => rw [s a o hab q] at e; cases e
  ex := fun a o h e => s a o (fun z => h (by rw [z]; exact hb)) e
theorem Step.own {T : List Addr} {H : Hp} {p : Addr} {o : HO} (t : TOk T H) (hp : H p = none) : Step T H (p :: T) (upd H p o) :=
  ⟨fun _ h => List.mem_cons_of_mem _ h, fun a h => (List.mem_cons.mp h).elim (fun z => .inr (by rw [z]; exact hp)) .inl, fun a h => by
    by_cases z : a = p
    · rw [z, upd_same]; exact fun z => nomatch z
    · rw [upd_ne z]; exact t a ((List.mem_cons.mp h).resolve_left z), Ex.same (Same.new hp)⟩
theorem Step.put {T : List Addr} {H : Hp} {p : Addr} {o : HO} (t : TOk T H) (hp : p ∈ T) : Step T H T (upd H p o) :=
  ⟨fun _ h => h, fun _ h => .inl h, fun a h => by
    by_cases z : a = p
    · rw [z, upd_same]; exact fun z => nomatch z
    · rw [upd_ne z]; exact t a h, fun b u hb q => by rw [upd_ne (fun z => hb (by rw [z]; exact hp))]; exact q⟩
theorem ite_yes {c : Bool} {A B : Prop} (hc : c = true) (h : A) : if c = true then A else B := by rw [if_pos hc]; exact h
theorem ite_no {c : Bool} {A B : Prop} (hc : c = false) (h : B) : if c = true then A else B := by rw [hc, if_neg Bool.false_ne_true]; exact h
def spTake : Sp := fun vs H Q _ => ∃ (b : Addr) (k : Int) (n : Nat), vs = [.ref b, .int k] ∧ 0 < k ∧ k < 1000 ∧ Tin H b n ∧ n ≤ 1000 ∧
  ∀ (r : Int) (H' : Hp), 0 ≤ r → r < k → But b H H' → Tin H' b (n + 1) → Q (.int r) H'
section
variable {P : Program} {w : World} {K : PySem.W.Frag} {mg : Str → Option Value} {base : Heap}
/-- a def with its promise -/
def FnS (P : Program) (w : World) (K : PySem.W.Frag) (mg : Str → Option Value) (base : Heap) (k : Nat) (x : Str) (ps : List Str) (sp : Sp) : Prop :=
  ∃ f fd, FnOk P w K mg base CX0 k f fd ps sp ∧ mg x = some (.ref f) ∧ PySem.W.keepIn K (.ref f) = true ∧ Binds K fd ps []
theorem sc_Ltake : FnScope [("_law_tin" : Str), ("_law_below_so" : Str), ("_law_drawn" : Str), ("_law_once_so" : Str), ("_law_wide_so" : Str), ("_law_twice_so" : Str)] [("_law_tin" : Str), ("_law_below_so" : Str)] (defScope s_Ltake) := ⟨rfl, rfl, rfl, by decide +kernel, rfl, by decide +kernel, by decide +kernel⟩
theorem emod_bd (a : Int) {k : Int} (h : 0 < k) : 0 ≤ a % k ∧ a % k < k := ⟨Int.emod_nonneg a (by omega), Int.emod_lt_of_pos a h⟩
theorem ok_Ltake (W : Wt K mg) : FnS P w K mg base 1 "_law_take" [("_law_tin" : Str), ("_law_below_so" : Str)] spTake := by
  obtain ⟨f, fd, F, hm⟩ := W.t_Ltake
  have sc := sc_Ltake
  refine ⟨f, fd, F.ok sc (fun vs H Q E h => by obtain ⟨b, k, n, rfl, _⟩ := h; rfl) fun cdv A outer s H vs Q E hr h => ⟨_,
    pss_cons (ps_if (pt_cmpR op_gt (pe_ix ix_list (pv 0) pe_int (fun _ _ => rfl)) pe_int (nomark _))
      (pss_cons (ps_set (i := 2) sc.nd rfl (Or.inl rfl) (pe_op op_mod (pe_callTy call_int1 rfl W.b_int (by decide +kernel) (pa_cons (pe_ix ix_list (pv 0) pe_int (fun _ _ => rfl)) pa_nil)) (pv 1)))
      (pss_cons (ps_asg (pe_op op_fdiv (pe_ix ix_list (pv 0) pe_int (fun _ _ => rfl)) (pv 1)) (pg_sub (pv 0) pe_int set_list))
      (pss_one (ps_ret (pv 2))))) pss_nil)
    (pss_cons (ps_asg (pe_op op_add (pe_ix ix_list (pv 0) pe_int (fun _ _ => rfl)) pe_int) (pg_sub (pv 0) pe_int set_list))
    (pss_cons (ps_set (i := 3) sc.nd rfl (Or.inl rfl) (pe_op op_mod (pe_callTy call_int1 rfl W.b_int (by decide +kernel) (pa_cons (pe_op op_mul (pe_op op_add (pe_ix ix_list (pv 0) pe_int (fun _ _ => rfl)) (pe_op op_mul pe_int (pe_ix ix_list (pv 0) pe_int (fun _ _ => rfl)))) (pe_op op_add pe_int (pe_ix ix_list (pv 0) pe_int (fun _ _ => rfl)))) pa_nil)) pe_int))
    (pss_cons (ps_set (i := 4) sc.nd rfl (Or.inl rfl) (pe_op op_add (pe_op op_mod (pe_callTy call_int1 rfl W.b_int (by decide +kernel) (pa_cons (pv 3) pa_nil)) pe_int) pe_int))
    (pss_cons (ps_set (i := 5) sc.nd rfl (Or.inl rfl) (pe_op op_mod (pe_callTy call_int1 rfl W.b_int (by decide +kernel) (pa_cons (pe_op op_mul (pe_op op_add (pe_op op_add (pv 3) (pe_ix ix_list (pv 0) pe_int (fun _ _ => rfl))) (pe_op op_fdiv (pe_ix ix_list (pv 0) pe_int (fun _ _ => rfl)) pe_int)) (pv 4)) pa_nil)) pe_int))
    (pss_one (ps_ret (pe_op op_mod (pe_callTy call_int1 rfl W.b_int (by decide +kernel) (pa_cons (pe_op op_fdiv (pe_op op_mod (pe_callTy call_int1 rfl W.b_int (by decide +kernel) (pa_cons (pe_op op_add (pe_op op_mul (pv 5) pe_int) (pv 3)) pa_nil)) pe_int) pe_int) pa_nil)) (pv 1)))))))), ?_⟩, hm, F.kp, F.binds fun _ _ _ _ _ _ us hl => match us, hl with | [_, _], _ => rfl⟩
  obtain ⟨b, k, n, rfl, hk, hk2, ⟨x, y, z, hb, hx, hy, hy2, hz, hzn⟩, hn, q⟩ := h
  have sq : SqL K H b [.int x, .int y, .int z] := SqL.of hb
  refine ⟨_, rfl, b, _, 0, _, rfl, rfl, sq, rfl, _, _, rfl, rfl, _, rfl, ?_⟩
  by_cases c : 0 < x
  · refine ite_yes (decide_eq_true c) ?_
    refine ⟨_, rfl, b, _, 0, _, rfl, rfl, sq, rfl, .inl ⟨x, rfl, _, rfl, x, k, rfl, rfl, hk, ?_⟩⟩
    refine ⟨_, rfl, b, _, 0, _, rfl, rfl, sq, rfl, _, rfl, x, k, rfl, rfl, ⟨hk, by omega⟩, _, rfl, b, _, 0, 0, rfl, rfl, hb, rfl, _, rfl, ?_⟩
    obtain ⟨e1, e2⟩ := emod_bd x hk
    exact q _ _ e1 e2 But.upd ⟨x / k, y, z, upd_same, Int.ediv_nonneg hx (by omega), hy, hy2, hz, by omega⟩
  · refine ite_no (decide_eq_false c) ?_
    refine ⟨_, rfl, b, _, 2, _, rfl, rfl, sq, rfl, z, 1, rfl, rfl, _, rfl, b, _, 2, 2, rfl, rfl, hb, rfl, ?_⟩
    have hb1 : (L2.upd H b (.lst [.int x, .int y, .int (z + 1)])) b = some (.lst [.int x, .int y, .int (z + 1)]) := upd_same
    have sq1 : SqL K (L2.upd H b (.lst [.int x, .int y, .int (z + 1)])) b [.int x, .int y, .int (z + 1)] := SqL.of hb1
    have p1 : (0 : Int) < 2147483647 := by decide
    have p2 : (0 : Int) < 40009 := by decide
    have p3 : (0 : Int) < 2147483629 := by decide
    have p4 : (0 : Int) < 2147483587 := by decide
    have w := emod_bd (((y + 48271 * (z + 1)) * (39373 + (z + 1))) % 2147483647) p2
    refine ⟨_, rfl, b, _, 1, _, rfl, rfl, sq1, rfl, _, rfl, b, _, 2, _, rfl, rfl, sq1, rfl, 48271, z + 1, rfl, rfl, .inl ⟨by decide, by decide⟩, y, 48271 * (z + 1), rfl, rfl, _, rfl, b, _, 2, _, rfl, rfl, sq1, rfl, 39373, z + 1, rfl, rfl, _, _, rfl, rfl, .inr ⟨by omega, by omega⟩, .inl ⟨_, rfl, _, _, rfl, rfl, p1, ?_⟩⟩
    refine ⟨_, rfl, .inl ⟨((y + 48271 * (z + 1)) * (39373 + (z + 1))) % 2147483647, rfl, _, 40009, rfl, rfl, p2, _, _, rfl, rfl, ?_⟩⟩
    refine ⟨_, rfl, _, rfl, b, _, 2, _, rfl, rfl, sq1, rfl, ((y + 48271 * (z + 1)) * (39373 + (z + 1))) % 2147483647, z + 1, rfl, rfl, _, rfl, b, _, 1, _, rfl, rfl, sq1, rfl, y, 1000003, rfl, rfl, ⟨by decide, by decide⟩, _, _, rfl, rfl, _, rfl, _, ((y + 48271 * (z + 1)) * (39373 + (z + 1))) % 2147483647 % 40009 + 7, rfl, rfl, .inr ⟨by omega, by omega⟩, .inl ⟨_, rfl, _, _, rfl, rfl, p3, ?_⟩⟩
    refine ⟨_, rfl, _, 48271, rfl, rfl, .inr ⟨by decide, by decide⟩, _, rfl, _, _, rfl, rfl, .inl ⟨_, rfl, _, 2147483587, rfl, rfl, p4, _, 64, rfl, rfl, ⟨by decide, by decide⟩, .inl ⟨_, rfl, _, rfl, _, k, rfl, rfl, hk, ?_⟩⟩⟩
    obtain ⟨e1, e2⟩ := emod_bd _ hk
    exact q _ _ e1 e2 But.upd ⟨x, y, z + 1, hb1, hx, hy, hy2, by omega, by omega⟩
end
def tFnS (sp : Sp) (t : TA) : TE := fun σ H Q => t σ H fun vs H1 => sp vs H1 Q E0
section
variable {X : Cx} {k j : Nat} {x : Str} {ps : List Str} {sp : Sp} {p pos : Pos} {e : Expr} {es : List Expr} {t : TA}
theorem pe_fnS (c : FnS X.prog X.w X.K X.mg X.base k x ps sp) (hr : Room j X.A) (hk : k ≤ j) (hg : Gl X x) (ha : PA X (e :: es) t) (hdb : (x == ("__debug__" : Str)) = false := by decide)
    (he : starEach (e :: es) X.env = (false, eval e X.env) :: starEach es X.env := by rfl) (hpl : (backTo pos (starEach es X.env)).any (·.1) = false := by rfl) : PE X (.Call (.Name x p) (e :: es) [] pos) (tFnS sp t) := by
  obtain ⟨f, fd, F, hm, kp, b⟩ := c
  refine ⟨fun pins s σ H Q I h => ?_⟩
  refine (pe_call (E := E0) F (hr.mono hk) hg hm kp b .nil pass0 ha hdb he hpl).run pins s σ H Q I ?_
  have e1 : (fun vs H1 => sp (vs ++ []) H1 Q E0) = fun vs H1 => sp vs H1 Q E0 := by
    funext vs H1
    rw [List.append_nil]
  show t σ H (fun vs H1 => sp (vs ++ []) H1 Q E0)
  rw [e1]
  exact h
end
section
variable {P : Program} {w : World} {K : PySem.W.Frag} {mg : Str → Option Value} {base : Heap}
/-- one of the goods -/
def spOf (K : PySem.W.Frag) : Sp := fun vs H Q _ => ∃ (b : Addr) (g : V) (n : Nat) (T : List Addr) (ds : List D), vs = [.ref b, g] ∧ TOk T H ∧ b ∈ T ∧ Tin H b n ∧ n ≤ 1000 ∧ Rp K T H g (.list ds) ∧ ds ≠ [] ∧ ds.length < 1000 ∧
  ∀ d ∈ ds, ∀ v H', But b H H' → Tin H' b (n + 1) → Rp K T H' v d → Q v H'
theorem sc_Lof : FnScope [("_law_tin" : Str), ("_law_goods_so" : Str)] [("_law_tin" : Str), ("_law_goods_so" : Str)] (defScope s_Lof) := ⟨rfl, rfl, rfl, by decide +kernel, rfl, by decide +kernel, by decide +kernel⟩
theorem atI_nat {α : Type} {xs : List α} {r : Int} (h0 : 0 ≤ r) {x : α} (h : xs[r.toNat]? = some x) : atI xs r = some x := by
  have hlt : r.toNat < xs.length := (List.getElem?_eq_some_iff.mp h).1
  have e : ixN xs.length r = some r.toNat := by
    unfold ixN
    rw [if_pos h0, if_pos (by omega)]
  unfold atI
  rw [e]
  exact h
theorem ok_Lof (W : Wt K mg) : FnS P w K mg base 2 "_law_of" [("_law_tin" : Str), ("_law_goods_so" : Str)] (spOf K) := by
  obtain ⟨f, fd, F, hm⟩ := W.t_Lof
  have sc := sc_Lof
  refine ⟨f, fd, F.ok sc (fun vs H Q E h => by obtain ⟨b, g, n, T, ds, rfl, _⟩ := h; rfl) fun cdv A outer s H vs Q E hr h => ⟨_,
    pss_one (ps_ret (pe_ix ix_list (pv 1) (pe_fnS (ok_Ltake W) hr (by decide) rfl (pa_cons (pv 0) (pa_cons (pe_callB call_len rfl W.b_len PySem.boot_len (pa_cons (pv 1) pa_nil)) pa_nil))) (fun _ _ => rfl))), ?_⟩, hm, F.kp, F.binds fun _ _ _ _ _ _ us hl => match us, hl with | [_, _], _ => rfl⟩
  obtain ⟨b, g, n, T, ds, rfl, t, hbT, tin, hn, rg, hne, hlen, q⟩ := h
  cases rg with
  | @lst a vs _ h1 h2 =>
    have hl := h2.length
    have hpos : 0 < vs.length := by rw [hl]; exact List.length_pos_iff.mpr hne
    have hlt : vs.length < 1000 := by rw [hl]; exact hlen
    refine ⟨_, rfl, _, rfl, _, rfl, _, vs.length, rfl, .inl ⟨vs, h1.sq, rfl⟩, b, _, n, rfl, by omega, by omega, tin, hn, fun r H' r0 r1 bu tin' => ?_⟩
    have st := Tin.step hbT t bu tin'
    have h1' := h1.step st
    have h2' := h2.step st
    have hr1 : r.toNat < vs.length := by omega
    obtain ⟨d, hd, rd⟩ := h2'.getV (List.getElem?_eq_getElem hr1)
    exact ⟨a, vs, r, _, rfl, rfl, h1'.sq, atI_nat r0 (List.getElem?_eq_getElem hr1), q d (List.mem_of_getElem? hd) _ H' bu tin' rd⟩
/-- two of the goods, at two places -/
def spPick (K : PySem.W.Frag) : Sp := fun vs H Q _ => ∃ (b : Addr) (g : V) (n : Nat) (T : List Addr) (ds : List D), vs = [.ref b, g, .int 2] ∧ TOk T H ∧ b ∈ T ∧ Tin H b n ∧ n + 1 ≤ 1000 ∧ Rp K T H g (.list ds) ∧ 2 ≤ ds.length ∧ ds.length < 1000 ∧
  ∀ (i j : Nat) (x y : D), i ≠ j → ds[i]? = some x → ds[j]? = some y → ∀ v H', But b H H' → Tin H' b (n + 2) → Rp K T H' v (.list [x, y]) → Q v H'
theorem sc_Lpick : FnScope [("_law_tin" : Str), ("_law_goods_so" : Str), ("_law_count_so" : Str), ("_law_pool_so" : Str), ("_law_found" : Str), ("_law_lap" : Str)] [("_law_tin" : Str), ("_law_goods_so" : Str), ("_law_count_so" : Str)] (defScope s_Lpick) := ⟨rfl, rfl, rfl, by decide +kernel, rfl, by decide +kernel, by decide +kernel⟩
/-- behind m laps -/
def Picked (ds : List D) : Nat → List D → List D → Prop
  | 0, pool, found => pool = ds ∧ found = []
  | 1, pool, found => ∃ (i : Nat) (x : D), ds[i]? = some x ∧ pool = ds.eraseIdx i ∧ found = [x]
  | 2, _, found => ∃ (i j : Nat) (x y : D), i ≠ j ∧ ds[i]? = some x ∧ ds[j]? = some y ∧ found = [x, y]
  | _, _, _ => False
theorem Picked.next {ds : List D} {m : Nat} (hm : m < 2) {pool found : List D} (p : Picked ds m pool found) {r : Nat} {y : D} (h : pool[r]? = some y) : Picked ds (m + 1) (pool.eraseIdx r) (found ++ [y]) := by
  match m, hm with
  | 0, _ =>
    obtain ⟨rfl, rfl⟩ := p
    exact ⟨r, y, h, rfl, rfl⟩
  | 1, _ =>
    obtain ⟨i, x, hx, rfl, rfl⟩ := p
    rw [List.getElem?_eraseIdx] at h
    by_cases hi : r < i
    · rw [if_pos hi] at h
      exact ⟨i, r, x, y, by omega, hx, h, rfl⟩
    · rw [if_neg hi] at h
      exact ⟨i, r + 1, x, y, by omega, hx, h, rfl⟩
theorem Picked.len {ds : List D} {m : Nat} {pool found : List D} (hm : m < 2) (h2 : 2 ≤ ds.length) (p : Picked ds m pool found) : 0 < pool.length ∧ pool.length ≤ ds.length ∧ found.length = m := by
  match m, hm with
  | 0, _ =>
    obtain ⟨rfl, rfl⟩ := p
    exact ⟨by omega, Nat.le_refl _, rfl⟩
  | 1, _ =>
    obtain ⟨i, x, hx, rfl, rfl⟩ := p
    have hi := (List.getElem?_eq_some_iff.mp hx).1
    rw [List.length_eraseIdx, if_pos hi]
    exact ⟨by omega, by omega, rfl⟩
theorem RpA.erase {K : PySem.W.Frag} {T : List Addr} {H : Hp} : ∀ {vs : List V} {ds : List D} (i : Nat), RpA K T H vs ds → RpA K T H (vs.eraseIdx i) (ds.eraseIdx i)
  | _, _, _, .nil => .nil
  | _, _, 0, .cons _ t => t
  | _, _, i + 1, .cons h t => .cons h (RpA.erase i t)
theorem seqIx_nat {r : Int} {n : Nat} (h0 : 0 ≤ r) (h1 : r < n) : seqIndex? r n = some r.toNat := by
  have e : ¬ r < 0 := by omega
  unfold seqIndex?
  simp [e, h0, h1]
theorem ok_Lpick (W : Wt K mg) : FnS P w K mg base 2 "_law_pick" [("_law_tin" : Str), ("_law_goods_so" : Str), ("_law_count_so" : Str)] (spPick K) := by
  obtain ⟨f, fd, F, hm⟩ := W.t_Lpick
  have sc := sc_Lpick
  refine ⟨f, fd, F.ok sc (fun vs H Q E h => by obtain ⟨b, g, n, T, ds, rfl, _⟩ := h; rfl) fun cdv A outer s H vs Q E hr h => ⟨_,
    pss_cons (ps_par (i := 3) (j := 4) rfl sc.nd rfl rfl (by decide) rfl rfl (pa_cons (pe_callTy call_list_of rfl W.b_list (by decide +kernel) (pa_cons (pv 1) pa_nil)) (pa_cons (pe_lst pa_nil) pa_nil)) (by rfl))
    (pss_cons (ps_for PassesOwn.never rfl (pi_range1 rfl W.b_range (pa_cons (pe_callB (call_min2 rfl) rfl W.b_min (by decide +kernel) (pa_cons (pe_callTy call_int1 rfl W.b_int (by decide +kernel) (pa_cons (pv 2) pa_nil)) (pa_cons (pe_callB call_len rfl W.b_len PySem.boot_len (pa_cons (pv 3) pa_nil)) pa_nil))) pa_nil)) (pg_name (i := 5) sc.nd rfl (Or.inl rfl))
      (pss_one (ps_expr (pe_bm PySem.F.plainAttrs_list PySem.F.slot_list_append PySem.F.type_list_append mt_append (pv 4) (pa_cons (pe_bm PySem.F.plainAttrs_list PySem.F.slot_list_pop PySem.F.type_list_pop mt_popAt (pv 3)
        (pa_cons (pe_fnS (ok_Ltake W) hr (by decide) rfl (pa_cons (pv 0) (pa_cons (pe_callB call_len rfl W.b_len PySem.boot_len (pa_cons (pv 3) pa_nil)) pa_nil))) pa_nil)) pa_nil)) (by rfl))))
    (pss_one (ps_ret (pv 4)))), ?_⟩, hm, F.kp, F.binds fun _ _ _ _ _ _ us hl => match us, hl with | [_, _, _], _ => rfl⟩
  obtain ⟨b, g, n, T, ds, rfl, t, hbT, tin, hn, rg, hd2, hlen, q⟩ := h
  cases rg with
  | @lst a vs _ h1 h2 =>
    have hl := h2.length
    refine ⟨_, rfl, _, _, rfl, .inl h1.sq, fun p hp => ⟨Nat.zero_le _, fun p2 hp2 => ⟨_, _, rfl, ?_⟩⟩⟩
    have s1 : Same H (L2.upd H p (.lst vs)) := Same.new hp
    have s2 : Same (L2.upd H p (.lst vs)) (L2.upd (L2.upd H p (.lst vs)) p2 (.lst [])) := Same.new hp2
    have np : p ∉ T := fun z => t p z hp
    have t1 := Same.dom s1 t
    have np2 : p2 ∉ T := fun z => t1 p2 z hp2
    have pp : p2 ≠ p := fun z => by rw [z, upd_same] at hp2; cases hp2
    have pb : p ≠ b := fun z => np (by rw [z]; exact hbT)
    have p2b : p2 ≠ b := fun z => np2 (by rw [z]; exact hbT)
    have e0 : (L2.upd (L2.upd H p (.lst vs)) p2 (.lst [])) p = some (.lst vs) := s2 _ _ upd_same
    refine ⟨_, rfl, .inl ⟨2, rfl, _, rfl, _, vs.length, rfl, .inl ⟨vs, SqL.of e0, rfl⟩, 2, vs.length, rfl, ?_⟩⟩
    have em : (if ((vs.length : Nat) : Int) < 2 then ((vs.length : Nat) : Int) else 2) = 2 := if_neg (by omega)
    refine ⟨2, by rw [em], by decide, by decide, ?_⟩
    have w1 : Step T H (p :: T) (L2.upd H p (.lst vs)) := Step.own t hp
    have w2 : Step (p :: T) (L2.upd H p (.lst vs)) (p2 :: p :: T) (L2.upd (L2.upd H p (.lst vs)) p2 (.lst [])) := Step.own w1.dom hp2
    have mp : p ∈ p2 :: p :: T := List.mem_cons_of_mem _ List.mem_cons_self
    have mp2 : p2 ∈ p2 :: p :: T := List.mem_cons_self
    have mb : b ∈ p2 :: p :: T := List.mem_cons_of_mem _ (List.mem_cons_of_mem _ hbT)
    refine ⟨fun i m σ H' => m = 2 - i ∧ i ≤ 2 ∧ ∃ pvs fvs pds fds lap, σ = [some (.ref b), some (.ref a), some (.int 2), some (.ref p), some (.ref p2), lap] ∧ H' p = some (.lst pvs) ∧ H' p2 = some (.lst fvs) ∧ RpA K (p2 :: p :: T) H' pvs pds ∧ RpA K (p2 :: p :: T) H' fvs fds ∧
      Picked ds i pds fds ∧ (∀ c o, c ≠ b → H c = some o → H' c = some o) ∧ Tin H' b (n + i) ∧ TOk (p2 :: p :: T) H', ⟨2, rfl, Nat.zero_le _, vs, [], ds, [], none, rfl, e0, upd_same, (h2.step w1).step w2, .nil, ⟨rfl, rfl⟩, But.same (s1.trans s2), (tin.same s1).same s2, w2.dom⟩, ?_⟩
    rintro i m σ H' ⟨rfl, hi, pvs, fvs, pds, fds, lap, rfl, hpo, hfo, rpo, rfo, pk, bu, tin', t'⟩
    by_cases hlt : i < 2
    · obtain ⟨l1, l2, l3⟩ := pk.len hlt hd2
      have pl := rpo.length
      have fl := rfo.length
      refine .inr ⟨hlt, fun σ' H'' => _, fun σ' H'' z => ⟨2 - (i + 1), by omega, z⟩, fun x H'' y => ?_⟩
      obtain ⟨rfl, rfl⟩ := y
      refine ⟨_, rfl, .inl ⟨rfl, _, SqL.of hfo⟩, _, rfl, .inl ⟨rfl, _, SqL.of hpo⟩, _, rfl, _, rfl, _, pvs.length, rfl, .inl ⟨pvs, SqL.of hpo, rfl⟩, b, pvs.length, n + i, rfl, by omega, by omega, tin', by omega, fun r H3 r0 r1 bu3 tin3 => ?_⟩
      have st := Tin.step mb t' bu3 tin3
      have hpo3 := bu3 _ _ pb hpo
      have hfo3 := bu3 _ _ p2b hfo
      have rpo3 := rpo.step st
      have rfo3 := rfo.step st
      have hrl : r.toNat < pvs.length := by omega
      have hget : pvs[r.toNat]? = some pvs[r.toNat] := List.getElem?_eq_getElem hrl
      obtain ⟨y, hy, ry⟩ := rpo3.getV hget
      refine ⟨p, pvs, r, r.toNat, pvs[r.toNat], rfl, rfl, hpo3, by omega, by omega, seqIx_nat r0 r1, hget, p2, fvs, pvs[r.toNat], rfl, rfl, by rw [upd_ne pp]; exact hfo3, by rw [sizeLine_eq]; omega, ?_⟩
      have st4 : Step (p2 :: p :: T) H3 (p2 :: p :: T) (L2.upd H3 p (.lst (pvs.eraseIdx r.toNat))) := Step.put st.dom mp
      have st5 : Step (p2 :: p :: T) (L2.upd H3 p (.lst (pvs.eraseIdx r.toNat))) (p2 :: p :: T) (L2.upd (L2.upd H3 p (.lst (pvs.eraseIdx r.toNat))) p2 (.lst (fvs ++ [pvs[r.toNat]]))) := Step.put st4.dom mp2
      refine ⟨rfl, by omega, pvs.eraseIdx r.toNat, fvs ++ [pvs[r.toNat]], pds.eraseIdx r.toNat, fds ++ [y], _, rfl, by rw [upd_ne (Ne.symm pp)]; exact upd_same, upd_same, ((rpo3.erase _).step st4).step st5, (((rfo3.append (.one ry)).step st4).step st5), pk.next hlt hy, fun c o hc e => ?_, ?_, st5.dom⟩
      · have e3 := bu3 _ _ hc (bu c o hc e)
        have c1 : c ≠ p := fun z => by rw [z, hp] at e; cases e
        have c2 : c ≠ p2 := fun z => by
          have := s1 c o e
          rw [z, hp2] at this; cases this
        rw [upd_ne c2, upd_ne c1]
        exact e3
      · obtain ⟨x, y', z, e, r5⟩ := tin3
        exact ⟨x, y', z, by rw [upd_ne (Ne.symm p2b), upd_ne (Ne.symm pb)]; exact e, r5⟩
    · have hi2 : i = 2 := by omega
      subst hi2
      obtain ⟨i, j, x, y, hij, hx, hy, rfl⟩ := pk
      refine .inl ⟨by show 2 ≤ 2; omega, _, rfl, q i j x y hij hx hy _ H' bu tin' (.lst ⟨np2, hfo⟩ (rfo.weak fun c hc => List.mem_cons_of_mem _ (List.mem_cons_of_mem _ hc)))⟩
end
end Nf
set_option Elab.async false
set_option linter.all false
set_option maxRecDepth 100000
set_option maxHeartbeats 4000000
/-! _law_span -/
namespace Nf
open PySem PySem.Spec L2
/-! ### the spans that are drawn -/
abbrev Row := List Int
abbrev Span := List (Row × Option Row)
def encO : Option Row → D
  | none => .none
  | some r => encR r
def encP (p : Row × Option Row) : D := .tuple [encR p.1, encO p.2]
def encS (s : Span) : D := .tuple (s.map encP)
def few : List Row := [[0, 9, 0, 0], [1, 0, 0, -2], [1, 0, 0, 0], [1, 0, 2, 0], [1, 1, 0, 0], [2, 0, 0, -1], [2, 0, 0, 0], [2, 1, 0, 0]]
def bot : Row := [0, 0, 0, -9]
def nextR : Row → Row
  | [a, b, c, e] => if e < 0 then [a, b, c, e + 1] else [a, b, c + 1, -9]
  | r => r
def few2 : List (Row × Row) := few.flatMap fun a => (few.filter fun b => decide (a < b)).map fun b => (a, b)
def spans2 (p : Row × Row) : List Span := [[(bot, none)], [(p.1, none)], [(bot, some p.2)], [(p.1, some p.2)], [(bot, some p.1), (nextR p.1, none)], [(p.2, some (nextR p.2))], [(p.1, some p.2), ([3, 0, 0, 0], none)], []]
def allSpans : List Span := few2.flatMap spans2
theorem few_is : m_Lfew_versions [] = some (.list (few.map encR)) := by rfl
def isTwo : List Row → Bool
  | [a, b] => decide ((a, b) ∈ few2)
  | _ => false
theorem isTwo_of : ∀ {l : List Row}, isTwo l = true → ∃ a b, l = [a, b] ∧ (a, b) ∈ few2
  | [a, b], h => ⟨a, b, rfl, of_decide_eq_true h⟩
  | [], h => by cases h
  | [_], h => by cases h
  | _ :: _ :: _ :: _, h => by cases h
def chkTwo : Option Row → Option Row → Bool
  | some x, some y => isTwo (sortU [x, y]) && (goodRows [x, y] && decide ([x, y] : List Row).Nodup)
  | _, _ => false
theorem two_few : ((List.range 8).all fun i => (List.range 8).all fun j => decide (i = j) || chkTwo few[i]? few[j]?) = true := by decide +kernel
theorem sort_two {i j : Nat} {x y : Row} (hij : i ≠ j) (hx : few[i]? = some x) (hy : few[j]? = some y) : ∃ a b, (a, b) ∈ few2 ∧ sortD [.list [encR x, encR y]] = some (.list [encR a, encR b]) := by
  have hi : i < 8 := (List.getElem?_eq_some_iff.mp hx).1
  have hj : j < 8 := (List.getElem?_eq_some_iff.mp hy).1
  have h1 := List.all_eq_true.mp (List.all_eq_true.mp two_few i (List.mem_range.mpr hi)) j (List.mem_range.mpr hj)
  rw [hx, hy, decide_eq_false hij, Bool.false_or] at h1
  have h2 : (isTwo (sortU [x, y]) && (goodRows [x, y] && decide ([x, y] : List Row).Nodup)) = true := h1
  rw [Bool.and_eq_true] at h2
  obtain ⟨a, b, e, m⟩ := isTwo_of h2.1
  refine ⟨a, b, m, ?_⟩
  show ((rowsD [encR x, encR y]).bind fun rs => if goodRows rs && decide rs.Nodup then some (PyData.list ((sortU rs).map encR)) else none) = _
  rw [show rowsD [encR x, encR y] = some [x, y] from rowsD_enc [x, y]]
  show (if goodRows [x, y] && decide ([x, y] : List Row).Nodup then some (PyData.list ((sortU [x, y]).map encR)) else none) = _
  rw [h2.2, e]
  rfl
/-! ### the walk -/
theorem Se.blank {K : PySem.W.Frag} {T : List Addr} {H : Hp} (σ : L2.St) (t : TOk T H) : Se K T σ H (List.replicate σ.length .no) := ⟨t, List.length_replicate, fun i s h => by
  rw [List.getElem?_replicate] at h
  split at h
  · cases h; trivial
  · cases h⟩
theorem Sd.begin {K : PySem.W.Frag} {T : List Addr} {σ : L2.St} {H : Hp} {ds : List Slot} (S : Se K T σ H ds) (hn : noL ds = true) : Sd K H T [] T σ H ds :=
  ⟨S, fun _ _ _ q => q, fun _ h => h, fun _ h => .inl h, (fun _ h => nomatch h), S.dom, fun i s a e l _ => absurd e (noL_of hn i s l), fun i j s s' e l _ _ => absurd e (noL_of hn i s l)⟩
section
variable {X : Cx} {st : Stmt} {rest : List Stmt} {g g' : Fs} {u : TS}
theorem s_then (h1 : PS X st (tS X.K g)) (h2 : PSs X rest u) : PSs X (st :: rest) (tSeq (tS X.K g) u) := pss_cons h1 h2
theorem s_more (h1 : PS X st (tS X.K g)) (h2 : PSs X rest (tSeq (tS X.K g') u)) : PSs X (st :: rest) (tSeq (tS X.K (gSeq g g')) u) := (pss_cons h1 h2).imp fun D σ H ⟨H0, T0, M, T, ds, r, S, e, n, q⟩ => by
  unfold gSeq at e
  cases eg : g ds with
  | none => rw [eg] at e; cases e
  | some r' =>
    rw [eg] at e
    cases r' with
    | nx ds' =>
      refine ⟨H0, T0, M, T, ds, _, S, eg, fun ds2 e2 T' σ' H' S' => ?_, fun d e2 => by cases e2⟩
      cases e2
      exact ⟨H0, T0, M, T', ds', r, S', e, n, q⟩
    | rt d =>
      cases e
      exact ⟨H0, T0, M, T, ds, _, S, eg, (fun _ e2 => nomatch e2), q⟩
end
section
variable {P : Program} {w : World} {K : PySem.W.Frag} {mg : Str → Option Value} {base : Heap}
def spSpan (K : PySem.W.Frag) : Sp := fun vs H Q _ => ∃ (b : Addr) (n : Nat) (T : List Addr), vs = [.ref b] ∧ TOk T H ∧ b ∈ T ∧ Tin H b n ∧ n + 4 ≤ 1000 ∧
  ∀ s ∈ allSpans, ∀ v H' m, m ≤ n + 4 → But b H H' → Tin H' b m → Rp K T H' v (encS s) → Q v H'
theorem sc_Lspan : FnScope [("_law_tin" : Str), ("_law_line_so" : Str), ("_law_kind_so" : Str), ("_law_near_so" : Str), ("_law_far_so" : Str), ("_law_two_so" : Str)] [("_law_tin" : Str)] (defScope s_Lspan) := ⟨rfl, rfl, rfl, by decide +kernel, rfl, by decide +kernel, by decide +kernel⟩
def rows2 (s0 : Slot) (a b : Row) (k : Int) : List Slot := [s0, .no, .d (.int k), .d (encR a), .d (encR b), .no]
def gSpan : Fs := gSeq (gIf (asB (f2 ltD (fV 2) (fC (.int 3)))) (gRet (fCall m_Levery faN)) gNx)
  (gSeq (gIf (asB (f2 eqD (fV 2) (fC (.int 3)))) (gRet (fTup (faC (fTup (faC (fV 3) (faC (fC .none) faN))) faN))) gNx)
  (gSeq (gIf (asB (f2 eqD (fV 2) (fC (.int 4)))) (gRet (fTup (faC (fTup (faC (fTup (faC (fC (.int 0)) (faC (fC (.int 0)) (faC (fC (.int 0)) (faC (fC (.int (-9))) faN))))) (faC (fV 4) faN))) faN))) gNx)
  (gSeq (gIf (asB (f2 eqD (fV 2) (fC (.int 5)))) (gRet (fTup (faC (fTup (faC (fV 3) (faC (fV 4) faN))) faN))) gNx)
  (gSeq (gIf (asB (f2 eqD (fV 2) (fC (.int 6)))) (gRet (fCall m_Lspan_but (faC (fCall m_Ljust (faC (fV 3) faN)) faN))) gNx)
  (gAsg (.name 5) (fTup (faC (fTup (faC (fV 3) (faC (fV 4) faN))) (faC (fTup (faC (fTup (faC (fC (.int 3)) (faC (fC (.int 0)) (faC (fC (.int 0)) (faC (fC (.int 0)) faN))))) (faC (fC .none) faN))) faN))))))))
def twoD (a b : Row) : D := encS [(a, some b), ([3, 0, 0, 0], none)]
theorem in_all {a b : Row} (h : (a, b) ∈ few2) {s : Span} (hs : s ∈ spans2 (a, b)) : s ∈ allSpans := List.mem_flatMap.mpr ⟨(a, b), h, hs⟩
theorem few2_mem {a b : Row} (h : (a, b) ∈ few2) : a ∈ few ∧ b ∈ few := by
  obtain ⟨x, hx, h2⟩ := List.mem_flatMap.mp h
  obtain ⟨y, hy, e⟩ := List.mem_map.mp h2
  cases e
  exact ⟨hx, (List.mem_filter.mp hy).1⟩
theorem few_cases {a : Row} {p : Row → Prop} (h : a ∈ few) (h0 : p [0, 9, 0, 0]) (h1 : p [1, 0, 0, -2]) (h2 : p [1, 0, 0, 0]) (h3 : p [1, 0, 2, 0]) (h4 : p [1, 1, 0, 0]) (h5 : p [2, 0, 0, -1]) (h6 : p [2, 0, 0, 0]) (h7 : p [2, 1, 0, 0]) : p a := by
  unfold few at h
  simp only [List.mem_cons, List.not_mem_nil, or_false] at h
  rcases h with rfl | rfl | rfl | rfl | rfl | rfl | rfl | rfl <;> assumption
theorem just_few {a : Row} (h : a ∈ few) : m_Ljust [encR a] = some (encS [(a, some (nextR a))]) := few_cases (p := fun a => m_Ljust [encR a] = some (encS [(a, some (nextR a))])) h (by kernel_rfl) (by kernel_rfl) (by kernel_rfl) (by kernel_rfl) (by kernel_rfl) (by kernel_rfl) (by kernel_rfl) (by kernel_rfl)
theorem g_low (s0 : Slot) (a b : Row) {k : Int} (h0 : 0 ≤ k) (h : k < 3) : gSpan (rows2 s0 a b k) = some (.rt (encS [(bot, none)])) := by
  have : k = 0 ∨ k = 1 ∨ k = 2 := by omega
  rcases this with rfl | rfl | rfl <;> rfl
theorem g_3 (s0 : Slot) (a b : Row) : gSpan (rows2 s0 a b 3) = some (.rt (encS [(a, none)])) := by rfl
theorem g_4 (s0 : Slot) (a b : Row) : gSpan (rows2 s0 a b 4) = some (.rt (encS [(bot, some b)])) := by rfl
theorem g_5 (s0 : Slot) (a b : Row) : gSpan (rows2 s0 a b 5) = some (.rt (encS [(a, some b)])) := by rfl
theorem g_6 (s0 : Slot) {a : Row} (h : a ∈ few) : ∀ b : Row, gSpan (rows2 s0 a b 6) = some (.rt (encS [(bot, some a), (nextR a, none)])) :=
  few_cases (p := fun a => ∀ b : Row, gSpan (rows2 s0 a b 6) = some (.rt (encS [(bot, some a), (nextR a, none)]))) h (fun b => by rfl) (fun b => by rfl) (fun b => by rfl) (fun b => by rfl) (fun b => by rfl) (fun b => by rfl) (fun b => by rfl) (fun b => by rfl)
theorem g_7 (s0 : Slot) (a b : Row) : gSpan (rows2 s0 a b 7) = some (.nx ((rows2 s0 a b 7).set 5 (.d (twoD a b)))) := by rfl
theorem g_8 (s0 : Slot) (a b : Row) : gSpan (rows2 s0 a b 8) = some (.nx ((rows2 s0 a b 8).set 5 (.d (twoD a b)))) := by rfl
theorem g_cases (s0 : Slot) {a b : Row} (h : (a, b) ∈ few2) {k : Int} (h0 : 0 ≤ k) (h9 : k < 9) : (∃ s ∈ allSpans, gSpan (rows2 s0 a b k) = some (.rt (encS s))) ∨ ((k = 7 ∨ k = 8) ∧ gSpan (rows2 s0 a b k) = some (.nx ((rows2 s0 a b k).set 5 (.d (twoD a b))))) := by
  obtain ⟨ha, hb⟩ := few2_mem h
  have : k < 3 ∨ k = 3 ∨ k = 4 ∨ k = 5 ∨ k = 6 ∨ k = 7 ∨ k = 8 := by omega
  rcases this with c | rfl | rfl | rfl | rfl | rfl | rfl
  · exact .inl ⟨_, in_all h (by simp [spans2]), g_low s0 a b h0 c⟩
  · exact .inl ⟨_, in_all h (by simp [spans2]), g_3 s0 a b⟩
  · exact .inl ⟨_, in_all h (by simp [spans2]), g_4 s0 a b⟩
  · exact .inl ⟨_, in_all h (by simp [spans2]), g_5 s0 a b⟩
  · refine .inl ⟨[(bot, some a), (nextR a, none)], in_all h (by simp [spans2]), ?_⟩
    exact g_6 s0 ha b
  · exact .inr ⟨.inl rfl, g_7 s0 a b⟩
  · exact .inr ⟨.inr rfl, g_8 s0 a b⟩
theorem map_get {α β : Type} {f : α → β} {l : List α} {i : Nat} {y : β} (h : (l.map f)[i]? = some y) : ∃ x, l[i]? = some x ∧ y = f x := by
  rw [List.getElem?_map] at h
  cases e : l[i]? with
  | none => rw [e] at h; cases h
  | some x => rw [e] at h; cases h; exact ⟨x, rfl, rfl⟩
theorem se_rows2 {T : List Addr} {H : Hp} {b : Addr} {v1 v3 v4 : V} {k : Int} {a c : Row} {o : Option V} (t : TOk T H) (r3 : Rp K T H v3 (encR a)) (r4 : Rp K T H v4 (encR c)) :
    Se K T [some (.ref b), some v1, some (.int k), some v3, some v4, o] H (rows2 (.v (.ref b)) a c k) := by
  refine ⟨t, rfl, fun i s h => ?_⟩
  match i, h with
  | 0, h => cases h; rfl
  | 1, h => cases h; trivial
  | 2, h => cases h; exact ⟨_, rfl, .int k⟩
  | 3, h => cases h; exact ⟨_, rfl, r3⟩
  | 4, h => cases h; exact ⟨_, rfl, r4⟩
  | 5, h => cases h; trivial
  | i + 6, h => simp [rows2] at h
theorem ok_Lspan (W : Wt K mg) : FnS P w K mg base 6 "_law_span" [("_law_tin" : Str)] (spSpan K) := by
  obtain ⟨f, fd, F, hm⟩ := W.t_Lspan
  have sc := sc_Lspan
  refine ⟨f, fd, F.ok sc (fun vs H Q E h => by obtain ⟨b, n, T, rfl, _⟩ := h; rfl) fun cdv A outer s H vs Q E hr h => ⟨_,
    pss_cons (ps_par (i := 1) (j := 2) rfl sc.nd rfl rfl (by decide) rfl rfl (pa_cons (d_fn0 (ok_Lfew_versions W) hr (by decide) rfl) (pa_cons (pe_fnS (ok_Ltake W) hr (by decide) rfl (pa_cons (pv 0) (pa_cons pe_int pa_nil))) pa_nil)) (by rfl))
    (pss_cons (ps_asg (pe_callB (cr_sortLA hr.units) rfl W.b_sorted (by decide +kernel) (pa_cons (pe_fnS (ok_Lpick W) hr (by decide) rfl (pa_cons (pv 0) (pa_cons (pv 1) (pa_cons pe_int pa_nil)))) pa_nil)) (pg_unl rfl (pgs_cons (pg_name (i := 3) sc.nd rfl (Or.inl rfl)) (pgs_cons (pg_name (i := 4) sc.nd rfl (Or.inl rfl)) pgs_nil))))
    (s_more (s_if (dt_lt (hu64 hr) (dv 2) d_int) (s_one (s_ret (d_fn0 (ok_Levery W) hr (by decide) rfl))) s_nil)
    (s_more (s_if (dt_eq (hu64 hr) (dv 2) d_int) (s_one (s_ret (d_tup (da_cons (d_tup (da_cons (dv 3) (da_cons d_non da_nil))) da_nil)))) s_nil)
    (s_more (s_if (dt_eq (hu64 hr) (dv 2) d_int) (s_one (s_ret (d_tup (da_cons (d_tup (da_cons (d_tup (da_cons d_int (da_cons d_int (da_cons d_int (da_cons d_neg1 da_nil))))) (da_cons (dv 4) da_nil))) da_nil)))) s_nil)
    (s_more (s_if (dt_eq (hu64 hr) (dv 2) d_int) (s_one (s_ret (d_tup (da_cons (d_tup (da_cons (dv 3) (da_cons (dv 4) da_nil))) da_nil)))) s_nil)
    (s_more (s_if (dt_eq (hu64 hr) (dv 2) d_int) (s_one (s_ret (d_fn (ok_Lspan_but W) hr (by decide) rfl (da_cons (d_fn (ok_Ljust W) hr (by decide) rfl (da_cons (dv 3) da_nil) (lnS ln0)) da_nil) (lnS ln0)))) s_nil)
    (s_then (s_set 5 sc.nd rfl (Or.inl rfl) (d_tup (da_cons (d_tup (da_cons (dv 3) (da_cons (dv 4) da_nil))) (da_cons (d_tup (da_cons (d_tup (da_cons d_int (da_cons d_int (da_cons d_int (da_cons d_int da_nil))))) (da_cons d_non da_nil))) da_nil))))
    (pss_one (ps_ret (pe_ifExp (dt_eq (hu64 hr) (dv 2) d_int) (d_fn (ok_Ljust W) hr (by decide) rfl (da_cons (dv 4) da_nil) (lnS ln0))
      (pe_fnS (ok_Lof W) hr (by decide) rfl (pa_cons (pv 0) (pa_cons (d_lst (da_cons (dv 5) (da_cons (d_tup da_nil) da_nil))) pa_nil))))))))))))), ?_⟩, hm, F.kp, F.binds fun _ _ _ _ _ _ us hl => match us, hl with | [_], _ => rfl⟩
  obtain ⟨b, n, T, rfl, t, hbT, tin, hn, q⟩ := h
  refine ⟨T, _, _, Se.blank _ t, few_is, fun v1 H1 s1 r1 => ⟨_, rfl, b, 9, n, rfl, by decide, by decide, tin.same s1, by omega, fun k H2 k0 k9 bu2 tin2 => ⟨_, _, rfl, ?_⟩⟩⟩
  have t1 := Same.dom s1 t
  have st2 := Tin.step hbT t1 bu2 tin2
  refine ⟨_, rfl, _, rfl, b, v1, n + 1, T, few.map encR, rfl, st2.dom, hbT, tin2, by omega, r1.step st2, by decide, by decide, fun i j x y hij hx hy v H3 bu3 tin3 r3 => ?_⟩
  obtain ⟨x', hx', rfl⟩ := map_get hx
  obtain ⟨y', hy', rfl⟩ := map_get hy
  obtain ⟨a, c, hac, esort⟩ := sort_two hij hx' hy'
  have st3 := Tin.step hbT st2.dom bu3 tin3
  unfold tNil
  refine r_sort T H3 [v] _ _ _ st3.dom (.one r3) esort fun v' H4 s4 r4 => ?_
  have t4 := Same.dom s4 st3.dom
  have tin4 := tin3.same s4
  have bu4 : But b H H4 := (((But.same s1).trans bu2).trans bu3).trans (But.same s4)
  cases r4 with
  | lst h1 h2 =>
    cases h2 with
    | @cons v3 _ _ _ g3 h3 =>
      cases h3 with
      | @cons v4 _ _ _ g4 h4 =>
        cases h4
        refine ⟨_, _, rfl, h1.sq, rfl, v3, [v4], rfl, v4, [], rfl, rfl, ?_⟩
        have S := se_rows2 (b := b) (v1 := v1) (k := k) (o := none) t4 g3 g4
        have main := g_cases (.v (.ref b)) hac k0 k9
        have fin : ∀ sp ∈ allSpans, ∀ v H' T1 m, m ≤ n + 4 → But b H4 H' → Tin H' b m → (∀ x ∈ T, x ∈ T1) → Rp K T1 H' v (encS sp) → Q v H' := fun sp hsp v H' T1 m hm5 bu5 tin5 wk r5 => q sp hsp v H' m hm5 (bu4.trans bu5) tin5 (r5.weak wk)
        have none_M : ∀ {T1 : List Addr}, (∀ x ∈ T, x ∈ ([] : List Addr) ∨ x ∈ T1) → ∀ x ∈ T, x ∈ T1 := fun w x hx => (w x hx).resolve_left fun z => nomatch z
        rcases main with ⟨sp, hsp, e⟩ | ⟨hk, e⟩
        · refine ⟨H4, T, [], T, _, _, Sd.begin S rfl, e, (fun _ z => nomatch z), fun d z v H' T1 ex wk r5 => ?_⟩
          cases z
          have sm : Same H4 H' := fun x o z => ex x o (fun z => nomatch z) z
          exact fin sp hsp v H' T1 (n + 1 + 2) (by omega) (But.same sm) (tin4.same sm) (none_M wk) r5
        · refine ⟨H4, T, [], T, _, _, Sd.begin S rfl, e, fun ds' z T' σ' H' S' => ?_, fun _ z => nomatch z⟩
          cases z
          have sm : Same H4 H' := fun x o z => S'.base x o (fun z => nomatch z) z
          rcases hk with rfl | rfl
          · refine ⟨T', _, true, S'.se, rfl, fun H5 s5 => ite_yes rfl ⟨T', _, _, S'.se.same s5, just_few (few2_mem hac).2, fun v H6 s6 r6 => ?_⟩⟩
            have sm6 := (sm.trans s5).trans s6
            exact fin _ (in_all hac (by simp [spans2])) v H6 T' (n + 1 + 2) (by omega) (But.same sm6) (tin4.same sm6) S'.sub r6
          · refine ⟨T', _, false, S'.se, rfl, fun H5 s5 => ite_no rfl ⟨_, (S'.se.v rfl), T', _, _, S'.se.same s5, rfl, fun v H6 s6 r6 => ?_⟩⟩
            have sm6 := (sm.trans s5).trans s6
            have S6 := (S'.se.same s5).same s6
            refine ⟨b, v, n + 1 + 2, T', _, rfl, S6.dom, S'.sub b hbT, tin4.same sm6, by omega, r6, List.cons_ne_nil _ _, (show 2 < 1000 by decide), fun d hd v' H7 bu7 tin7 r7 => ?_⟩
            simp only [List.mem_cons, List.not_mem_nil, or_false] at hd
            rcases hd with rfl | rfl
            · exact fin [(a, some c), ([3, 0, 0, 0], none)] (in_all hac (by simp [spans2])) v' H7 T' (n + 1 + 2 + 1) (by omega) ((But.same sm6).trans bu7) tin7 S'.sub r7
            · exact fin [] (in_all hac (by simp [spans2])) v' H7 T' (n + 1 + 2 + 1) (by omega) ((But.same sm6).trans bu7) tin7 S'.sub r7
end
end Nf
set_option Elab.async false
set_option linter.all false
set_option maxRecDepth 100000
set_option maxHeartbeats 4000000
/-! _law_bent -/
namespace Nf
open PySem PySem.Spec L2
def gBent : Fs := (gSeq (gAsg (.tup [3, 4, 5]) (fV 1)) (gSeq (gAsg (.name 2) (fLst (faC (fV 1) (faC (fCall lstM (faC (fV 1) faN)) (faC (f1 (slD none (some 2)) (fV 1)) (faC (f2 addD (fV 1) (fTup (faC (fC (.bool true)) faN))) (faC (fTup (faC (fCall lstM (faC (fV 3) faN)) (faC (fV 4) (faC (fV 5) faN)))) (faC (fC .none) faN)))))))) (gSeq (gAsg (.name 2) (f2 addD (fV 2) (fLst (faC (fTup (faC (fV 3) (faC (fCall intM (faC (fV 4) faN)) (faC (fV 5) faN)))) (faC (fTup (faC (fV 3) (faC (fC .none) (faC (fV 5) faN)))) (faC (fTup (faC (fV 3) (faC (fV 4) (faC (fCall lstM (faC (fV 5) faN)) faN)))) faN)))))) (gSeq (gAsg (.name 2) (f2 addD (fV 2) (fLst (faC (fTup (faC (fV 3) (faC (fV 4) (faC (f1 revD (fV 5)) faN)))) (faC (fTup (faC (fTup (faC (fC (.str (PySem.Str.ofString "A"))) (faC (fC (.str (PySem.Str.ofString ""))) faN))) (faC (fV 4) (faC (fV 5) faN)))) (faC (fTup (faC (f1 (slD none (some 1)) (fV 3)) (faC (fV 4) (faC (fV 5) faN)))) faN)))))) (gSeq (gAsg (.name 2) (f2 addD (fV 2) (fLst (faC (fTup (faC (fV 3) (faC (fV 4) (faC (f2 addD (fV 5) (fV 5)) faN)))) (faC (fTup (faC (fTup (faC (f2 ixD (fV 3) (fC (.int 0))) (faC (fC .none) faN))) (faC (fV 4) (faC (fV 5) faN)))) (faC (fTup (faC (fTup (faC (fC (.str (PySem.Str.ofString ""))) (faC (fC (.str (PySem.Str.ofString "a"))) faN))) (faC (fV 4) (faC (fTup faN) faN)))) faN)))))) (gSeq (gAsg (.name 2) (f2 addD (fV 2) (fLst (faC (fTup (faC (fV 4) (faC (fV 3) (faC (fV 5) faN)))) (faC (fTup (faC (fV 3) (faC (fV 4) (faC (fTup (faC (fTup (faC (fTup (faC (fC (.int 1)) (faC (fC (.int 0)) (faC (fC (.int 0)) (faC (fC (.int 0)) faN))))) (faC (fTup (faC (fC (.int 1)) (faC (fC (.int 0)) (faC (fC (.int 0)) (faC (fC (.int 0)) faN))))) faN))) faN)) faN)))) (faC (fTup (faC (fV 3) (faC (fV 4) (faC (fTup faN) faN)))) faN)))))) (gSeq (gAsg (.name 2) (f2 addD (fV 2) (fLst (faC (fTup (faC (fV 3) (faC (fV 4) (faC (fTup (faC (fTup (faC (fTup (faC (fC (.int 0)) (faC (fC (.int 0)) (faC (fC (.int 0)) (faC (fC (.int (-10))) faN))))) (faC (fC .none) faN))) faN)) faN)))) (faC (fTup (faC (fV 3) (faC (fV 4) (faC (fTup (faC (fTup (faC (fTup (faC (fC (.int 0)) (faC (fC (.int 0)) (faC (fC (.int 0)) (faC (fC (.int 1)) faN))))) (faC (fC .none) faN))) faN)) faN)))) (faC (fTup faN) faN)))))) (gAsg (.name 2) (f2 addD (fV 2) (fLst (faC (fTup (faC (fV 3) (faC (fV 4) (faC (fTup (faC (fTup (faC (fTup (faC (fC (.int 1)) (faC (fC (.int 0)) (faC (fC (.int 0)) (faC (fC (.int 0)) faN))))) (faC (fTup (faC (fC (.int 2)) (faC (fC (.int 0)) (faC (fC (.int 0)) (faC (fC (.int 0)) faN))))) faN))) (faC (fTup (faC (fTup (faC (fC (.int 2)) (faC (fC (.int 0)) (faC (fC (.int 0)) (faC (fC (.int 0)) faN))))) (faC (fC .none) faN))) faN))) faN)))) faN)))))))))))
def fBent : Fe := (f2 addD (fV 2) (fLst (faC (fTup (faC (fV 3) (faC (fV 4) (faC (fTup (faC (fTup (faC (fTup (faC (fC (.int 1)) (faC (fC (.int 0)) (faC (fC (.int 0)) (faC (fC (.bool false)) faN))))) (faC (fC .none) faN))) faN)) faN)))) (faC (fTup (faC (fTup (faC (fC (.str (PySem.Str.ofString "abcdefghijklm"))) (faC (fC (.str (PySem.Str.ofString ""))) faN))) (faC (fV 4) (faC (fV 5) faN)))) faN))))
def encI (n1 n2 : D) : D := .tuple [n1, n2]
def encT (n1 n2 : D) (k : Bool) (ss : List D) : D := .tuple [encI n1 n2, .bool k, .tuple ss]
def sD (s : String) : D := .str (PySem.Str.ofString s)
/-- a term bent in many ways -/
def goods (n1 n2 : D) (k : Bool) (ss : List D) : List D :=
  let it := encI n1 n2; let ab : D := .bool k; let sp : D := .tuple ss
  let t3 := fun a b c : D => PyData.tuple [a, b, c]
  [t3 it ab sp, .list [it, ab, sp], .tuple [it, ab], .tuple [it, ab, sp, .bool true], t3 (.list [n1, n2]) ab sp, .none,
   t3 it (.int (if k then 1 else 0)) sp, t3 it .none sp, t3 it ab (.list ss),
   t3 it ab (.tuple ss.reverse), t3 (.tuple [sD "A", sD ""]) ab sp, t3 (.tuple [n1]) ab sp,
   t3 it ab (.tuple (ss ++ ss)), t3 (.tuple [n1, .none]) ab sp, t3 (.tuple [sD "", sD "a"]) ab (.tuple []),
   t3 ab it sp, t3 it ab (.tuple [.tuple [encR [1, 0, 0, 0], encR [1, 0, 0, 0]]]), t3 it ab (.tuple []),
   t3 it ab (.tuple [.tuple [encR [0, 0, 0, -10], .none]]), t3 it ab (.tuple [.tuple [encR [0, 0, 0, 1], .none]]), .tuple [],
   t3 it ab (.tuple [.tuple [encR [1, 0, 0, 0], encR [2, 0, 0, 0]], .tuple [encR [2, 0, 0, 0], .none]]),
   t3 it ab (.tuple [.tuple [.tuple [.int 1, .int 0, .int 0, .bool false], .none]]), t3 (.tuple [sD "abcdefghijklm", sD ""]) ab sp]
/-- what the first part leaves -/
def bentTo (s0 : Slot) (x : D) : Option (List Slot) := match gBent [s0, .d x, .no, .no, .no, .no] with
  | some (.nx ds) => some ds
  | _ => none
def bentIs (s0 : Slot) (n1 n2 : D) (k : Bool) (ss : List D) : Prop := ∃ ds, gBent [s0, .d (encT n1 n2 k ss), .no, .no, .no, .no] = some (.nx ds) ∧ ds[0]? = some s0 ∧ fBent ds = some (.list (goods n1 n2 k ss))
theorem bent0 (s0 : Slot) (n1 n2 : D) (k : Bool) : bentIs s0 n1 n2 k [] := ⟨_, rfl, rfl, rfl⟩
theorem bent1 (s0 : Slot) (n1 n2 : D) (k : Bool) (p : D) : bentIs s0 n1 n2 k [p] := ⟨_, rfl, rfl, rfl⟩
theorem bent2 (s0 : Slot) (n1 n2 : D) (k : Bool) (p q : D) : bentIs s0 n1 n2 k [p, q] := ⟨_, rfl, rfl, rfl⟩
theorem bent_le (s0 : Slot) (n1 n2 : D) (k : Bool) : ∀ {ss : List D}, ss.length ≤ 2 → bentIs s0 n1 n2 k ss
  | [], _ => bent0 ..
  | [_], _ => bent1 ..
  | [_, _], _ => bent2 ..
  | _ :: _ :: _ :: _, h => by simp at h
theorem goods_len (n1 n2 : D) (k : Bool) (ss : List D) : (goods n1 n2 k ss).length = 24 := rfl
section
variable {P : Program} {w : World} {K : PySem.W.Frag} {mg : Str → Option Value} {base : Heap}
def spBent (K : PySem.W.Frag) : Sp := fun vs H Q _ => ∃ (b : Addr) (v : V) (n : Nat) (T : List Addr) (n1 n2 : D) (k : Bool) (ss : List D), vs = [.ref b, v] ∧ TOk T H ∧ b ∈ T ∧ Tin H b n ∧ n + 1 ≤ 1000 ∧ Rp K T H v (encT n1 n2 k ss) ∧ ss.length ≤ 2 ∧
  ∀ d ∈ goods n1 n2 k ss, ∀ v H', But b H H' → Tin H' b (n + 1) → Rp K T H' v d → Q v H'
theorem sc_Lbent : FnScope [("_law_tin" : Str), ("_law_term_so" : Str), ("_law_near_so" : Str), ("_law_item_so" : Str), ("_law_absent_so" : Str), ("_law_span_so" : Str)] [("_law_tin" : Str), ("_law_term_so" : Str)] (defScope s_Lbent) := ⟨rfl, rfl, rfl, by decide +kernel, rfl, by decide +kernel, by decide +kernel⟩
theorem ok_Lbent (W : Wt K mg) : FnS P w K mg base 3 "_law_bent" [("_law_tin" : Str), ("_law_term_so" : Str)] (spBent K) := by
  obtain ⟨f, fd, F, hm⟩ := W.t_Lbent
  have sc := sc_Lbent
  refine ⟨f, fd, F.ok sc (fun vs H Q E h => by obtain ⟨b, v, n, T, n1, n2, k, ss, rfl, _⟩ := h; rfl) fun cdv A outer s H vs Q E hr h => ⟨tSeq (tS K gBent) (tRet (tFnS (spOf K) (tCons (tVar 0) (tCons (tD K fBent) tNil)))),
    (s_more (s_asg (dv 1) (g_tup rfl sc.nd (.cons rfl (Or.inl rfl) (Or.inl rfl) (.cons rfl (Or.inl rfl) (Or.inl rfl) (.cons rfl (Or.inl rfl) (Or.inl rfl) Names.nil))))) (s_more (s_set 2 sc.nd rfl (Or.inl rfl) (d_lst (da_cons (dv 1) (da_cons (d_lstOf rfl W.b_list (da_cons (dv 1) da_nil)) (da_cons (d_slice (dv 1) po_n po_i) (da_cons (d_add (dv 1) (d_tup (da_cons d_bl da_nil))) (da_cons (d_tup (da_cons (d_lstOf rfl W.b_list (da_cons (dv 3) da_nil)) (da_cons (dv 4) (da_cons (dv 5) da_nil)))) (da_cons d_non da_nil)))))))) (s_more (s_set 2 sc.nd rfl (Or.inl rfl) (d_add (dv 2) (d_lst (da_cons (d_tup (da_cons (dv 3) (da_cons (d_intOf rfl W.b_int (da_cons (dv 4) da_nil)) (da_cons (dv 5) da_nil)))) (da_cons (d_tup (da_cons (dv 3) (da_cons d_non (da_cons (dv 5) da_nil)))) (da_cons (d_tup (da_cons (dv 3) (da_cons (dv 4) (da_cons (d_lstOf rfl W.b_list (da_cons (dv 5) da_nil)) da_nil)))) da_nil)))))) (s_more (s_set 2 sc.nd rfl (Or.inl rfl) (d_add (dv 2) (d_lst (da_cons (d_tup (da_cons (dv 3) (da_cons (dv 4) (da_cons (d_rev (dv 5)) da_nil)))) (da_cons (d_tup (da_cons (d_tup (da_cons d_str (da_cons d_str da_nil))) (da_cons (dv 4) (da_cons (dv 5) da_nil)))) (da_cons (d_tup (da_cons (d_slice (dv 3) po_n po_i) (da_cons (dv 4) (da_cons (dv 5) da_nil)))) da_nil)))))) (s_more (s_set 2 sc.nd rfl (Or.inl rfl) (d_add (dv 2) (d_lst (da_cons (d_tup (da_cons (dv 3) (da_cons (dv 4) (da_cons (d_add (dv 5) (dv 5)) da_nil)))) (da_cons (d_tup (da_cons (d_tup (da_cons (d_item (dv 3) d_int) (da_cons d_non da_nil))) (da_cons (dv 4) (da_cons (dv 5) da_nil)))) (da_cons (d_tup (da_cons (d_tup (da_cons d_str (da_cons d_str da_nil))) (da_cons (dv 4) (da_cons (d_tup da_nil) da_nil)))) da_nil)))))) (s_more (s_set 2 sc.nd rfl (Or.inl rfl) (d_add (dv 2) (d_lst (da_cons (d_tup (da_cons (dv 4) (da_cons (dv 3) (da_cons (dv 5) da_nil)))) (da_cons (d_tup (da_cons (dv 3) (da_cons (dv 4) (da_cons (d_tup (da_cons (d_tup (da_cons (d_tup (da_cons d_int (da_cons d_int (da_cons d_int (da_cons d_int da_nil))))) (da_cons (d_tup (da_cons d_int (da_cons d_int (da_cons d_int (da_cons d_int da_nil))))) da_nil))) da_nil)) da_nil)))) (da_cons (d_tup (da_cons (dv 3) (da_cons (dv 4) (da_cons (d_tup da_nil) da_nil)))) da_nil)))))) (s_more (s_set 2 sc.nd rfl (Or.inl rfl) (d_add (dv 2) (d_lst (da_cons (d_tup (da_cons (dv 3) (da_cons (dv 4) (da_cons (d_tup (da_cons (d_tup (da_cons (d_tup (da_cons d_int (da_cons d_int (da_cons d_int (da_cons d_neg1 da_nil))))) (da_cons d_non da_nil))) da_nil)) da_nil)))) (da_cons (d_tup (da_cons (dv 3) (da_cons (dv 4) (da_cons (d_tup (da_cons (d_tup (da_cons (d_tup (da_cons d_int (da_cons d_int (da_cons d_int (da_cons d_int da_nil))))) (da_cons d_non da_nil))) da_nil)) da_nil)))) (da_cons (d_tup da_nil) da_nil)))))) (s_then (s_set 2 sc.nd rfl (Or.inl rfl) (d_add (dv 2) (d_lst (da_cons (d_tup (da_cons (dv 3) (da_cons (dv 4) (da_cons (d_tup (da_cons (d_tup (da_cons (d_tup (da_cons d_int (da_cons d_int (da_cons d_int (da_cons d_int da_nil))))) (da_cons (d_tup (da_cons d_int (da_cons d_int (da_cons d_int (da_cons d_int da_nil))))) da_nil))) (da_cons (d_tup (da_cons (d_tup (da_cons d_int (da_cons d_int (da_cons d_int (da_cons d_int da_nil))))) (da_cons d_non da_nil))) da_nil))) da_nil)))) da_nil)))) (pss_one (ps_ret (pe_fnS (ok_Lof W) hr (by decide) rfl (pa_cons (pv 0) (pa_cons (d_add (dv 2) (d_lst (da_cons (d_tup (da_cons (dv 3) (da_cons (dv 4) (da_cons (d_tup (da_cons (d_tup (da_cons (d_tup (da_cons d_int (da_cons d_int (da_cons d_int (da_cons d_bl da_nil))))) (da_cons d_non da_nil))) da_nil)) da_nil)))) (da_cons (d_tup (da_cons (d_tup (da_cons d_str (da_cons d_str da_nil))) (da_cons (dv 4) (da_cons (dv 5) da_nil)))) da_nil)))) pa_nil))))))))))))), ?_⟩, hm, F.kp, F.binds fun _ _ _ _ _ _ us hl => match us, hl with | [_, _], _ => rfl⟩
  obtain ⟨b, v, n, T, n1, n2, k, ss, rfl, t, hbT, tin, hn, r, hss, q⟩ := h
  obtain ⟨ds, e1, e2, e3⟩ := bent_le (.v (.ref b)) n1 n2 k hss
  have S : Se K T [some (.ref b), some v, none, none, none, none] H [.v (.ref b), .d (encT n1 n2 k ss), .no, .no, .no, .no] := by
    refine ⟨t, rfl, fun i s h => ?_⟩
    match i, h with
    | 0, h => cases h; rfl
    | 1, h => cases h; exact ⟨_, rfl, r⟩
    | 2, h => cases h; trivial
    | 3, h => cases h; trivial
    | 4, h => cases h; trivial
    | 5, h => cases h; trivial
    | i + 6, h => simp at h
  refine ⟨H, T, [], T, _, _, Sd.begin S rfl, e1, fun ds' z T' σ' H' S' => ?_, fun _ z => nomatch z⟩
  cases z
  have sm : Same H H' := fun x o z => S'.base x o (fun z => nomatch z) z
  refine ⟨_, S'.se.v e2, T', ds, _, S'.se, e3, fun g H6 s6 r6 => ?_⟩
  have sm6 := sm.trans s6
  refine ⟨b, g, n, T', _, rfl, (S'.se.same s6).dom, S'.sub b hbT, tin.same sm6, by omega, r6, List.cons_ne_nil _ _, (show 24 < 1000 by decide), fun d hd v' H7 bu7 tin7 r7 => ?_⟩
  exact q d hd v' H7 ((But.same sm6).trans bu7) tin7 (r7.weak S'.sub)
end
end Nf
set_option Elab.async false
set_option linter.all false
set_option maxRecDepth 100000
set_option maxHeartbeats 4000000
/-! _law_cells, _law_box -/
namespace Nf
open PySem PySem.Spec L2
section
variable {P : Program} {w : World} {K : PySem.W.Frag} {mg : Str → Option Value} {base : Heap}
def spCells (K : PySem.W.Frag) : Sp := fun vs H Q _ => ∃ (a : Addr) (ns : List Int), vs = [.ref a, .int 1] ∧ SqL K H a (ns.map V.int) ∧ ns.length ≤ 1000 ∧
  ∀ (x : Int) (p : Addr) (H' : Hp), Same H H' → H p = none → H' p = some (.lst [.int x]) → Q (.ref p) H'
theorem sc_Lcells : FnScope [("_law_script" : Str), ("_law_most_so" : Str), ("_law_cells_so" : Str), ("_law_k" : Str), ("_law_cell_so" : Str), ("_law_at_so" : Str)] [("_law_script" : Str), ("_law_most_so" : Str)] (defScope s_Lcells) := ⟨rfl, rfl, rfl, by decide +kernel, rfl, by decide +kernel, by decide +kernel⟩
theorem cut_ints (ns : List Int) (lo hi : Option Int) : ∃ ms : List Int, cutV (ns.map V.int) lo hi = ms.map V.int ∧ ms.length ≤ ns.length := by
  unfold cutV
  refine ⟨_, by rw [← List.map_drop, ← List.map_take], ?_⟩
  rw [List.length_take, List.length_drop]
  omega
theorem bit_bd (c : Bool) : -(2 ^ 64) < (if c = true then (1 : Int) else 0) ∧ (if c = true then (1 : Int) else 0) < 2 ^ 64 ∧ 0 ≤ (if c = true then (1 : Int) else 0) := by cases c <;> decide
theorem cut_one (x : V) (xs : List V) : cutV (x :: xs) none (some 1) = [x] := by
  unfold cutV
  have e : HT.sIx (x :: xs).length (x :: xs).length (some 1) = 1 := by
    have := HT.sIx_nat (x :: xs).length (x :: xs).length 1
    rw [List.length_cons] at this ⊢
    rw [show (some ((1 : Nat) : Int)) = some (1 : Int) from rfl] at this
    rw [this]; omega
  rw [e]
  rfl
def tCellsRest (K : PySem.W.Frag) : TS := tSeq (tFor (iEnum K (tCons (tSl (rSlL K) (tVar 0) (tPart (tVar 1)) (tPart (tC (.int 63)))) tNil)) (tgV K (.tup [3, 4]))
  (tSeq (tAsg (tOp (rI (fun _ j => 0 < j) fun i j => .int (i % j)) (tCB (fun xs H Q => (∃ i, xs = [V.int i] ∧ Q (.int i) H) ∨ ∃ k, xs = [V.bl k] ∧ Q (.int (if k then 1 else 0)) H) (tCons (tVar 3) tNil)) (tVar 1)) (gName 5))
    (tAsg (tOp (rI0 fun i j => .int (i + j)) (tOp (rIxL K) (tVar 2) (tVar 5)) (tOp (rI CMul fun i j => .int (i * j)) (tVar 4) (tOp (rI0 fun i j => .int (i + j)) (tVar 3) (tC (.int 2))))) (gSub (tVar 2) (tVar 5) rSetL))))
  (tRet (tVar 2))
theorem cells_rest {a c : Addr} {ns : List Int} {x0 : Int} {H H3 : Hp} {Q : VK} {D : Ends} (hn : ns.length ≤ 1000) (hs : SqL K H a (ns.map V.int)) (s3 : Same H H3) (hc : H c = none) (e3 : H3 c = some (.lst [.int x0]))
    (q : ∀ (x : Int) (p : Addr) (H' : Hp), Same H H' → H p = none → H' p = some (.lst [.int x]) → Q (.ref p) H') (hD : D.rt = Q) : tCellsRest K D [some (.ref a), some (.int 1), some (.ref c), none, none, none] H3 := by
  obtain ⟨ms, em, hml⟩ := cut_ints ns (some 1) (some 63)
  refine ⟨_, rfl, _, rfl, 1, rfl, 63, rfl, a, _, rfl, s3.seq hs, fun el hel => ⟨el, _, rfl, SqL.of upd_same, ?_⟩⟩
  have ce : c ≠ el := fun z => by rw [z, hel] at e3; cases e3
  rw [em]
  refine ⟨fun i m σ H' => m = ms.length - i ∧ i ≤ ms.length ∧ ∃ (x : Int) (l1 l2 l3 : Option V), σ = [some (.ref a), some (.int 1), some (.ref c), l1, l2, l3] ∧ H' c = some (.lst [.int x]) ∧ H' el = some (.lst (ms.map V.int)) ∧ Same H H',
    ⟨ms.length, rfl, Nat.zero_le _, x0, none, none, none, rfl, by rw [upd_ne ce]; exact e3, upd_same, s3.trans (Same.new hel)⟩, ?_⟩
  rintro i m σ H' ⟨rfl, hi, x, l1, l2, l3, rfl, hx, hel', s'⟩
  by_cases hlt : i < ms.length
  · have hget : (ms.map V.int)[i]? = some (.int ms[i]) := by rw [List.getElem?_map, List.getElem?_eq_getElem hlt]; rfl
    refine .inr ⟨⟨_, _, SqL.of hel', hget⟩, _, fun σ' H'' z => ⟨ms.length - (i + 1), by omega, z⟩, fun v H'' y => ?_⟩
    obtain ⟨t, u, rfl, ht, rfl, hu⟩ := y
    have e4 := hu _ (SqL.of hel')
    rw [hget] at e4
    cases e4
    have ct : c ≠ t := fun z => by rw [z, ht] at hx; cases hx
    have et : el ≠ t := fun z => by rw [z, ht] at hel'; cases hel'
    have hx2 : (L2.upd H' t (.tup [.int (i : Nat), .int ms[i]])) c = some (.lst [.int x]) := by rw [upd_ne ct]; exact hx
    have sq2 : SqL K (L2.upd H' t (.tup [.int (i : Nat), .int ms[i]])) c [.int x] := SqL.of hx2
    have z0 : ((i : Nat) : Int) % 1 = 0 := Int.emod_one _
    refine ⟨t, _, rfl, SqT.of upd_same, rfl, ?_⟩
    refine ⟨_, rfl, .inl ⟨((i : Nat) : Int), rfl, _, rfl, ((i : Nat) : Int), 1, rfl, rfl, (by decide : (0 : Int) < 1), ?_⟩⟩
    refine ⟨_, rfl, _, rfl, c, _, ((i : Nat) : Int) % 1, .int x, rfl, rfl, sq2, by rw [z0]; rfl, _, rfl, _, rfl, ((i : Nat) : Int), 2, rfl, rfl, ms[i], ((i : Nat) : Int) + 2, rfl, rfl, .inr ⟨by omega, ?_⟩, x, _, rfl, rfl, _, rfl, _, rfl, c, _, ((i : Nat) : Int) % 1, 0, rfl, rfl, hx2, by rw [z0]; rfl, ?_⟩
    · have : (i : Int) < 1000 := by omega
      omega
    · refine ⟨rfl, by omega, _, _, _, _, rfl, upd_same, by rw [upd_ne (Ne.symm ce), upd_ne et]; exact hel', fun b o hb => ?_⟩
      have bc : b ≠ c := fun z => by rw [z, hc] at hb; cases hb
      rw [upd_ne bc]
      exact (s'.trans (Same.new ht)) b o hb
  · have hi2 : i = ms.length := by omega
    refine .inl ⟨⟨_, SqL.of hel', by rw [List.length_map, hi2]; exact Nat.le_refl _⟩, _, rfl, ?_⟩
    rw [hD]
    exact q x c H' s' hc hx
theorem ok_Lcells (W : Wt K mg) : FnS P w K mg base 1 "_law_cells" [("_law_script" : Str), ("_law_most_so" : Str)] (spCells K) := by
  obtain ⟨f, fd, F, hm⟩ := W.t_Lcells
  have sc := sc_Lcells
  refine ⟨f, fd, F.ok sc (fun vs H Q E h => by obtain ⟨a, ns, rfl, _⟩ := h; rfl) fun cdv A outer s H vs Q E hr h => ⟨tSeq _ (tCellsRest K),
    pss_cons (ps_set (i := 2) sc.nd rfl (Or.inl rfl) (pe_orT (pe_callTy call_list_of rfl W.b_list (by decide +kernel) (pa_cons (pe_slice sl_list (pv 0) po_none (po_some (pv 1))) pa_nil)) (pe_one (pe_lst (pa_cons pe_int pa_nil)))))
    (pss_cons (ps_for PassesOwn.never rfl (pi_enum rfl W.b_enumerate (pa_cons (pe_slice sl_list (pv 0) (po_some (pv 1)) (po_some pe_int)) pa_nil)) (g_tup rfl sc.nd (.cons rfl (Or.inl rfl) (Or.inl rfl) (.cons rfl (Or.inl rfl) (Or.inl rfl) Names.nil)))
      (pss_cons (ps_set (i := 5) sc.nd rfl (Or.inl rfl) (pe_op op_mod (pe_callTy call_int1 rfl W.b_int (by decide +kernel) (pa_cons (pv 3) pa_nil)) (pv 1)))
      (pss_one (ps_asg (pe_op op_add (pe_ix ix_list (pv 2) (pv 5) (fun _ _ => rfl)) (pe_op op_mul (pv 4) (pe_op op_add (pv 3) pe_int))) (pg_sub (pv 2) (pv 5) set_list)))))
    (pss_one (ps_ret (pv 2)))), ?_⟩, hm, F.kp, F.binds fun _ _ _ _ _ _ us hl => match us, hl with | [_, _], _ => rfl⟩
  obtain ⟨a, ns, rfl, hs, hn, q⟩ := h
  refine ⟨_, rfl, _, rfl, 1, rfl, a, _, rfl, hs, fun p hp => ⟨p, _, rfl, .inl (SqL.of upd_same), fun l hl => ?_⟩⟩
  have s1 := (Same.new (o := .lst (cutV (ns.map V.int) none (some 1))) hp).trans (Same.new (o := .lst (cutV (ns.map V.int) none (some 1))) hl)
  have hl0 : H l = none := by
    cases e : H l with
    | none => rfl
    | some o => rw [Same.new (o := .lst (cutV (ns.map V.int) none (some 1))) hp l o e] at hl; cases hl
  refine ⟨_, .inl ⟨_, SqL.of upd_same, rfl⟩, ?_⟩
  cases ns with
  | nil =>
    refine ite_no rfl ⟨by show 1 ≤ sizeLine; decide, fun c hc => ?_⟩
    have hc0 : H c = none := by
      cases e : H c with
      | none => rfl
      | some o => rw [s1 c o e] at hc; cases hc
    exact cells_rest hn hs (s1.trans (Same.new hc)) hc0 upd_same q rfl
  | cons n ns =>
    have ec : cutV ((n :: ns).map V.int) none (some 1) = [.int n] := cut_one _ _
    refine ite_yes (by rw [ec]; rfl) ?_
    refine cells_rest hn hs s1 hl0 (x0 := n) ?_ q rfl
    rw [upd_same, ec]
def spBox (K : PySem.W.Frag) : Sp := fun vs H Q _ => ∃ (a : Addr) (x : Int), vs = [.ref a, .int 0] ∧ SqL K H a [.int x] ∧
  ∀ (p : Addr) (H' : Hp), Same H H' → H p = none → Tin H' p 0 → Q (.ref p) H'
theorem sc_Lbox : FnScope [("_law_script" : Str), ("_law_k" : Str), ("_law_cell_so" : Str)] [("_law_script" : Str), ("_law_k" : Str)] (defScope s_Lbox) := ⟨rfl, rfl, rfl, by decide +kernel, rfl, by decide +kernel, by decide +kernel⟩
theorem ok_Lbox (W : Wt K mg) : FnS P w K mg base 1 "_law_box" [("_law_script" : Str), ("_law_k" : Str)] (spBox K) := by
  obtain ⟨f, fd, F, hm⟩ := W.t_Lbox
  have sc := sc_Lbox
  refine ⟨f, fd, F.ok sc (fun vs H Q E h => by obtain ⟨a, x, rfl, _⟩ := h; rfl) fun cdv A outer s H vs Q E hr h => ⟨_,
    pss_cons (ps_set (i := 2) sc.nd rfl (Or.inl rfl) (pe_ifExp (pt_cmpR op_lt (pv 1) (pe_callB call_len rfl W.b_len PySem.boot_len (pa_cons (pv 0) pa_nil)) (nomark _)) (pe_ix ix_list (pv 0) (pv 1) (fun _ _ => rfl)) pe_int))
    (pss_one (ps_ret (pe_lst (pa_cons (pe_op op_mul (pe_callB call_abs rfl W.b_abs (by decide +kernel) (pa_cons (pv 2) pa_nil)) (pe_callTy call_int1 rfl W.b_int (by decide +kernel) (pa_cons (pe_cmpR op_ge (pe_callB call_abs rfl W.b_abs (by decide +kernel) (pa_cons (pv 2) pa_nil)) (pe_op op_pow pe_int pe_int) (nomark _)) pa_nil)))
      (pa_cons (pe_op op_add (pe_op op_add (pe_op op_mod (pe_callTy call_int1 rfl W.b_int (by decide +kernel) (pa_cons (pv 2) pa_nil)) pe_int) (pe_op op_mul pe_int (pv 1))) pe_int) (pa_cons pe_int pa_nil)))))), ?_⟩, hm, F.kp, F.binds fun _ _ _ _ _ _ us hl => match us, hl with | [_, _], _ => rfl⟩
  obtain ⟨a, x, rfl, hs, q⟩ := h
  refine ⟨_, rfl, _, rfl, _, 1, rfl, .inl ⟨_, hs, rfl⟩, 0, 1, rfl, rfl, _, rfl, ite_yes (decide_eq_true (by decide)) ⟨_, rfl, _, rfl, a, _, 0, .int x, rfl, rfl, hs, rfl, ?_⟩⟩
  have ab : 0 ≤ (if x < 0 then -x else x) := by split <;> omega
  obtain ⟨m0, m1⟩ := emod_bd x (k := 2305843009213693951) (by decide)
  refine ⟨_, rfl, x, rfl, _, rfl, x, rfl, 10, 18, rfl, rfl, ⟨by decide, by decide, by decide⟩, _, _, rfl, rfl, .inr ⟨_, rfl, _, _, rfl, rfl, .inr ⟨?_, ?_⟩, ?_⟩⟩
  · exact (bit_bd _).1
  · exact (bit_bd _).2.1
  refine ⟨_, rfl, .inl ⟨x, rfl, x, 2305843009213693951, rfl, rfl, (by decide : (0 : Int) < 2305843009213693951), _, rfl, 39373, 0, rfl, rfl, .inl ⟨by decide, by decide⟩, _, _, rfl, rfl, _, 10057, rfl, rfl, by show 3 ≤ sizeLine; decide, fun p hp => ?_⟩⟩
  refine q p _ (Same.new hp) hp ⟨_, _, 0, upd_same, ?_, ?_, ?_, Int.le_refl _, by simp⟩
  · exact Int.mul_nonneg ab (bit_bd _).2.2
  · omega
  · omega
end
end Nf
set_option Elab.async false
set_option linter.all false
set_option maxRecDepth 100000
set_option maxHeartbeats 4000000
/-! _law_right -/
namespace Nf
open PySem PySem.Spec L2
def lrN : List Str := [("_law_tin" : Str), ("_law_both_so" : Str), ("_law_either_so" : Str), ("_law_within_so" : Str), ("_law_got" : Str), ("_law_not_so" : Str), ("_law_own" : Str), ("_law_things_so" : Str), ("_law_item_so" : Str), ("_law_other_so" : Str), ("_law_one_so" : Str), ("_law_two_so" : Str), ("_law_far_so" : Str), ("_law_tries_so" : Str), ("_law_lap" : Str), ("_law_door" : Str), ("_law_bit" : Str)]
def gMid : Fs := (gSeq (gAsg (.tup [12, 13]) (fTup (faC (fTup (faC (fV 9) (faC (f2 ixD (fV 11) (fC (.int 1))) (faC (f2 ixD (fV 11) (fC (.int 2))) faN)))) (faC (fCall m_Ltries (faC (fV 10) (faC (fV 11) faN))) faN)))) (gSeq (gAsg (.name 1) (fTup (faC (fV 8) (faC (fAndV (f2 ixD (fV 10) (fC (.int 1))) (f2 ixD (fV 11) (fC (.int 1)))) (faC (fCall m_Lspan_both (faC (f2 ixD (fV 10) (fC (.int 2))) (faC (f2 ixD (fV 11) (fC (.int 2))) faN))) faN))))) (gSeq (gAsg (.name 2) (fTup (faC (fV 8) (faC (fOrV (f2 ixD (fV 10) (fC (.int 1))) (f2 ixD (fV 11) (fC (.int 1)))) (faC (fCall m_Lspan_either (faC (f2 ixD (fV 10) (fC (.int 2))) (faC (f2 ixD (fV 11) (fC (.int 2))) faN))) faN))))) (gSeq (gAsg (.name 3) (f2 eqD (fLc (fSeq (fV 13)) (.name 6) (fAnd (asB (fCall m_Lstands (faC (fV 10) (faC (fV 6) faN)))) (fNot (asB (fCall m_Lstands (faC (fV 11) (faC (fV 6) faN)))))) (fC (.int 1)) [6]) (fLst faN))) (gSeq (gAsg (.name 4) (f2 addD (fLc (fRng (faC (fC (.int 3)) faN)) (.name 15) fYes (fCall m_Lheard (faC (fV 15) (faC (fV 10) (faC (fCall (m_Llists 12) (faC (fV 11) faN)) faN)))) [15]) (fLc (fRng (faC (fC (.int 2)) faN)) (.name 15) fYes (fCall m_Lheard (faC (fV 15) (faC (fV 11) (faC (fV 10) faN)))) [15]))) (gSeq (gIf (fNot (asB (fCall (m_Lsame 12) (faC (fV 4) (faC (fLst (faC (fV 1) (faC (fV 2) (faC (fV 3) (faC (fV 1) (faC (fV 2) faN)))))) faN))))) (gRet (fC (.bool false))) gNx) (gSeq (gAsg (.name 5) (fTup (faC (fV 8) (faC (fNotV (f2 ixD (fV 10) (fC (.int 1)))) (faC (fCall m_Lspan_but (faC (f2 ixD (fV 10) (fC (.int 2))) faN)) faN))))) (gSeq (gAsg (.name 4) (fLst (faC (fCall m_term_not (faC (fCall (m_Llists 12) (faC (fV 10) faN)) faN)) (faC (fCall m_term_not (faC (fV 5) faN)) (faC (fCall m_Lheard (faC (fC (.int 2)) (faC (fV 1) (faC (fV 11) faN)))) (faC (fCall m_Lheard (faC (fC (.int 2)) (faC (fV 10) (faC (fV 2) faN)))) faN)))))) (gSeq (gIf (fNot (asB (fCall (m_Lsame 12) (faC (f2 addD (fV 4) (fLc (fRng (faC (fC (.int 3)) faN)) (.name 15) fYes (fCall m_Lheard (faC (fV 15) (faC (fV 10) (faC (fV 12) faN)))) [15])) (faC (f2 addD (fLst (faC (fV 5) (faC (fV 10) (faC (fC (.bool true)) (faC (fC (.bool true)) faN))))) (f2 mulD (fLst (faC (fLst (faC (fC (.str (PySem.Str.ofString "unfit"))) (faC (fC (.bool true)) faN))) faN)) (fC (.int 3)))) faN))))) (gRet (fC (.bool false))) gNx) (gFor (fSeq (fTup (faC (fV 10) (faC (fV 1) (faC (fV 2) (faC (fV 5) faN)))))) (.name 6) (gSeq (gAsg (.name 4) (fLc (fSeq (fV 13)) (.name 16) fYes (fCall m_term_holds (faC (fV 6) (faC (fV 16) faN))) [16])) (gIf (fNot (asB (fCall (m_Lsame 12) (faC (fV 4) (faC (fLc (fSeq (fV 13)) (.name 16) fYes (fCall m_Lstands (faC (fV 6) (faC (fV 16) faN))) [16]) faN))))) (gRet (fC (.bool false))) gNx))))))))))))
def gEnd : Fs := gRet (fCall (m_Lsame 12) (faC (fLc (fSeq (fV 7)) (.name 6) fYes (fCall m_is_term (faC (fV 6) faN)) [6]) (faC (fLc (fSeq (fV 7)) (.name 6) fYes (fCall m_Lis_term (faC (fV 6) faN)) [6]) faN)))
section
variable {P : Program} {w : World} {K : PySem.W.Frag} {mg : Str → Option Value} {base : Heap} {C : Addr}
theorem sc_Lright : FnScope lrN [("_law_tin" : Str)] (defScope s_Lright) := ⟨rfl, rfl, rfl, by decide +kernel, rfl, by decide +kernel, by decide +kernel⟩
def tPair (K : PySem.W.Frag) : TE := tTup (tCons (tVar 8) (tCons (tOp (rDB K eqD) (tFnS spTake (tCons (tVar 0) (tCons (tC (.int 2)) tNil))) (tC (.int 0))) (tCons (tFnS (spSpan K) (tCons (tVar 0) tNil)) tNil)))
def tItems (K : PySem.W.Frag) : Fe := (fLst (faC (fTup (faC (fC (.str (PySem.Str.ofString "a"))) (faC (fC (.str (PySem.Str.ofString ""))) faN))) (faC (fTup (faC (fC (.str (PySem.Str.ofString "a"))) (faC (fC (.str (PySem.Str.ofString "fast"))) faN))) (faC (fTup (faC (fC (.str (PySem.Str.ofString "b"))) (faC (fC (.str (PySem.Str.ofString ""))) faN))) faN))))
def tRight1 (K : PySem.W.Frag) : TS := tAsg (tFnS (spPick K) (tCons (tVar 0) (tCons (tD K (tItems K)) (tCons (tC (.int 2)) tNil)))) (gUnl K 2 (gCons (gName 8) (gCons (gName 9) gNil)))
def tRight2 (K : PySem.W.Frag) : TS := tAsg (tLc (iRng1 (tCons (tC (.int 2)) tNil)) (gName 14) tYes (tPair K) [14]) (gUnl K 2 (gCons (gName 10) (gCons (gName 11) gNil)))
def tRight3 (K : PySem.W.Frag) : TS := tAsg (tLc (iRng1 (tCons (tC (.int 5)) tNil)) (gName 14) tYes (tFnS (spBent K) (tCons (tVar 0) (tCons (tVar 10) tNil))) [14]) (gName 7)
def tRight (K : PySem.W.Frag) : TS := tSeq (tRight1 K) (tSeq (tRight2 K) (tSeq (tS K gMid) (tSeq (tRight3 K) (tS K gEnd))))
theorem der_Lright (W : Wt K mg) (U : ErrC K mg "Unfit" C) {f : Addr} {cdv : Value} {A : Around} {outer : List Env} {s : Shared} {H : Hp} {E : XK} (hr : Room 19 (A.deeper (PyProof.Rows.envOfC "_law_right" (defScope s_Lright) s.heap.objs.size f cdv))) :
    PSs (cxOf CX0 P w K mg base lrN "_law_right" (defScope s_Lright) f cdv A outer s H E).nox (defBody s_Lright) (tRight K) := by
  have sc := sc_Lright
  exact (pss_cons (ps_asg (pe_fnS (ok_Lpick W) hr (by decide) rfl (pa_cons (pv 0) (pa_cons (d_lst (da_cons (d_tup (da_cons d_str (da_cons d_str da_nil))) (da_cons (d_tup (da_cons d_str (da_cons d_str da_nil))) (da_cons (d_tup (da_cons d_str (da_cons d_str da_nil))) da_nil)))) (pa_cons pe_int pa_nil)))) (pg_unl rfl (pgs_cons (pg_name (i := 8) sc.nd rfl (Or.inr rfl)) (pgs_cons (pg_name (i := 9) sc.nd rfl (Or.inl rfl)) pgs_nil))))
    (pss_cons (ps_asg (pe_lc (own := [(("_law_lap" : Str), 14)]) rfl sc.nd (pi_range1 rfl W.b_range (pa_cons pe_int pa_nil)) (blkOk_by (N := lrN) (sc := defScope s_Lright) (by decide +kernel)) (fun _ _ _ _ _ => pg_name (i := 14) sc.nd rfl (Or.inl rfl)) (fun _ _ _ _ _ => pts_nil) (fun _ _ _ _ _ => pe_tup (pa_cons (pv 8) (pa_cons (pe_cmpR (op_eqDB (hu64 hr)) (pe_fnS (ok_Ltake W) hr (by decide) rfl (pa_cons (pv 0) (pa_cons pe_int pa_nil))) pe_int (nomark _)) (pa_cons (pe_fnS (ok_Lspan W) hr (by decide) rfl (pa_cons (pv 0) pa_nil)) pa_nil))))) (pg_unl rfl (pgs_cons (pg_name (i := 10) sc.nd rfl (Or.inr rfl)) (pgs_cons (pg_name (i := 11) sc.nd rfl (Or.inr rfl)) pgs_nil))))
    (s_more (s_asg (d_tup (da_cons (d_tup (da_cons (dv 9) (da_cons (d_item (dv 11) d_int) (da_cons (d_item (dv 11) d_int) da_nil)))) (da_cons (d_fn (ok_Ltries W) hr (by decide) rfl (da_cons (dv 10) (da_cons (dv 11) da_nil)) (lnS (lnS ln0))) da_nil))) (g_tup rfl sc.nd (.cons rfl (Or.inr rfl) (Or.inl rfl) (.cons rfl (Or.inl rfl) (Or.inl rfl) Names.nil)))) (s_more (s_set 1 sc.nd rfl (Or.inl rfl) (d_tup (da_cons (dv 8) (da_cons (d_and (d_item (dv 10) d_int) (d_one (d_item (dv 11) d_int))) (da_cons (d_fn (ok_Lspan_both W) hr (by decide) rfl (da_cons (d_item (dv 10) d_int) (da_cons (d_item (dv 11) d_int) da_nil)) (lnS (lnS ln0))) da_nil))))) (s_more (s_set 2 sc.nd rfl (Or.inl rfl) (d_tup (da_cons (dv 8) (da_cons (d_or (d_item (dv 10) d_int) (d_one (d_item (dv 11) d_int))) (da_cons (d_fn (ok_Lspan_either W) hr (by decide) rfl (da_cons (d_item (dv 10) d_int) (da_cons (d_item (dv 11) d_int) da_nil)) (lnS (lnS ln0))) da_nil))))) (s_more (s_set 3 sc.nd rfl (Or.inl rfl) (d_eq (hu64 hr) (d_lc (own := [(("_law_own" : Str), 6)]) rfl sc.nd (i_seq (dv 13)) (blkOk_by (N := lrN) (sc := defScope s_Lright) (by decide +kernel)) (fun _ _ _ _ _ => g_name 6 sc.nd rfl (Or.inl rfl)) (fun _ _ _ _ _ => (dts_one (PW.pt (dw_and (dt_val (d_fn (ok_Lstands W) hr (by decide) rfl (da_cons (dv 10) (da_cons (dv 6) da_nil)) (lnS (lnS ln0)))) (dw_and1 (dt_not (dt_val (d_fn (ok_Lstands W) hr (by decide) rfl (da_cons (dv 11) (da_cons (dv 6) da_nil)) (lnS (lnS ln0)))))))))) (fun _ _ _ _ _ => d_int) (by decide)) (d_lst da_nil))) (s_more (s_set 4 sc.nd rfl (Or.inl rfl) (d_add (d_lc (own := [(("_law_door" : Str), 15)]) rfl sc.nd (i_rng rfl W.b_range (da_cons d_int da_nil)) (blkOk_by (N := lrN) (sc := defScope s_Lright) (by decide +kernel)) (fun _ _ _ _ _ => g_name 15 sc.nd rfl (Or.inl rfl)) (fun _ _ _ _ _ => dts_nil) (fun _ _ _ _ _ => (d_fn (ok_Lheard W U) hr (by decide) rfl (da_cons (dv 15) (da_cons (dv 10) (da_cons (d_fn (ok_Llists W 12) hr (by decide) rfl (da_cons (dv 11) da_nil) (lnS ln0)) da_nil))) (lnS (lnS (lnS ln0))))) (by decide)) (d_lc (own := [(("_law_door" : Str), 15)]) rfl sc.nd (i_rng rfl W.b_range (da_cons d_int da_nil)) (blkOk_by (N := lrN) (sc := defScope s_Lright) (by decide +kernel)) (fun _ _ _ _ _ => g_name 15 sc.nd rfl (Or.inl rfl)) (fun _ _ _ _ _ => dts_nil) (fun _ _ _ _ _ => (d_fn (ok_Lheard W U) hr (by decide) rfl (da_cons (dv 15) (da_cons (dv 11) (da_cons (dv 10) da_nil))) (lnS (lnS (lnS ln0))))) (by decide)))) (s_more (s_if (dt_not (dt_val (d_fn (ok_Lsame W 12) hr (by decide) rfl (da_cons (dv 4) (da_cons (d_lst (da_cons (dv 1) (da_cons (dv 2) (da_cons (dv 3) (da_cons (dv 1) (da_cons (dv 2) da_nil)))))) da_nil)) (lnS (lnS ln0))))) (s_one (s_ret d_bl)) s_nil) (s_more (s_set 5 sc.nd rfl (Or.inl rfl) (d_tup (da_cons (dv 8) (da_cons (d_not (d_item (dv 10) d_int)) (da_cons (d_fn (ok_Lspan_but W) hr (by decide) rfl (da_cons (d_item (dv 10) d_int) da_nil) (lnS ln0)) da_nil))))) (s_more (s_set 4 sc.nd rfl (Or.inl rfl) (d_lst (da_cons (d_fn (ok_term_not W) hr (by decide) rfl (da_cons (d_fn (ok_Llists W 12) hr (by decide) rfl (da_cons (dv 10) da_nil) (lnS ln0)) da_nil) (lnS ln0)) (da_cons (d_fn (ok_term_not W) hr (by decide) rfl (da_cons (dv 5) da_nil) (lnS ln0)) (da_cons (d_fn (ok_Lheard W U) hr (by decide) rfl (da_cons d_int (da_cons (dv 1) (da_cons (dv 11) da_nil))) (lnS (lnS (lnS ln0)))) (da_cons (d_fn (ok_Lheard W U) hr (by decide) rfl (da_cons d_int (da_cons (dv 10) (da_cons (dv 2) da_nil))) (lnS (lnS (lnS ln0)))) da_nil)))))) (s_more (s_if (dt_not (dt_val (d_fn (ok_Lsame W 12) hr (by decide) rfl (da_cons (d_add (dv 4) (d_lc (own := [(("_law_door" : Str), 15)]) rfl sc.nd (i_rng rfl W.b_range (da_cons d_int da_nil)) (blkOk_by (N := lrN) (sc := defScope s_Lright) (by decide +kernel)) (fun _ _ _ _ _ => g_name 15 sc.nd rfl (Or.inl rfl)) (fun _ _ _ _ _ => dts_nil) (fun _ _ _ _ _ => (d_fn (ok_Lheard W U) hr (by decide) rfl (da_cons (dv 15) (da_cons (dv 10) (da_cons (dv 12) da_nil))) (lnS (lnS (lnS ln0))))) (by decide))) (da_cons (d_add (d_lst (da_cons (dv 5) (da_cons (dv 10) (da_cons d_bl (da_cons d_bl da_nil))))) (d_mul (d_lst (da_cons (d_lst (da_cons d_str (da_cons d_bl da_nil))) da_nil)) d_int)) da_nil)) (lnS (lnS ln0))))) (s_one (s_ret d_bl)) s_nil) (s_then (s_for PassesOwn.never rfl (i_seq (d_tup (da_cons (dv 10) (da_cons (dv 1) (da_cons (dv 2) (da_cons (dv 5) da_nil)))))) (g_name 6 sc.nd rfl (Or.inr rfl)) (s_cons (s_setLc 4 (own := [(("_law_bit" : Str), 16)]) rfl sc.nd rfl rfl (sw_true rfl rfl rfl (by decide +kernel)) (i_seq (dv 13)) (blkOk_by (N := lrN) (sc := defScope s_Lright) (by decide +kernel)) (fun _ _ _ _ _ => g_name 16 sc.nd rfl (Or.inl rfl)) (fun _ _ _ _ _ => dts_nil) (fun _ _ _ _ _ => (d_fn (ok_term_holds W) hr (by decide) rfl (da_cons (dv 6) (da_cons (dv 16) da_nil)) (lnS (lnS ln0)))) (by decide)) (s_one (s_if (dt_not (dt_val (d_fn (ok_Lsame W 12) hr (by decide) rfl (da_cons (dv 4) (da_cons (d_lc (own := [(("_law_bit" : Str), 16)]) rfl sc.nd (i_seq (dv 13)) (blkOk_by (N := lrN) (sc := defScope s_Lright) (by decide +kernel)) (fun _ _ _ _ _ => g_name 16 sc.nd rfl (Or.inl rfl)) (fun _ _ _ _ _ => dts_nil) (fun _ _ _ _ _ => (d_fn (ok_Lstands W) hr (by decide) rfl (da_cons (dv 6) (da_cons (dv 16) da_nil)) (lnS (lnS ln0)))) (by decide)) da_nil)) (lnS (lnS ln0))))) (s_one (s_ret d_bl)) s_nil)))) (pss_cons (ps_setLc (own := [(("_law_lap" : Str), 14)]) (i := 7) rfl sc.nd rfl rfl (sw_true rfl rfl rfl (by decide +kernel)) (pi_range1 rfl W.b_range (pa_cons pe_int pa_nil)) (blkOk_by (N := lrN) (sc := defScope s_Lright) (by decide +kernel)) (fun _ _ _ _ _ => pg_name (i := 14) sc.nd rfl (Or.inl rfl)) (fun _ _ _ _ _ => pts_nil) (fun _ _ _ _ _ => pe_fnS (ok_Lbent W) hr (by decide) rfl (pa_cons (pv 0) (pa_cons (pv 10) pa_nil))))
    (s_one (s_ret (d_fn (ok_Lsame W 12) hr (by decide) rfl (da_cons (d_lc (own := [(("_law_own" : Str), 6)]) rfl sc.nd (i_seq (dv 7)) (blkOk_by (N := lrN) (sc := defScope s_Lright) (by decide +kernel)) (fun _ _ _ _ _ => g_name 6 sc.nd rfl (Or.inl rfl)) (fun _ _ _ _ _ => dts_nil) (fun _ _ _ _ _ => (d_fn (ok_is_term W) hr (by decide) rfl (da_cons (dv 6) da_nil) (lnS ln0))) (by decide)) (da_cons (d_lc (own := [(("_law_own" : Str), 6)]) rfl sc.nd (i_seq (dv 7)) (blkOk_by (N := lrN) (sc := defScope s_Lright) (by decide +kernel)) (fun _ _ _ _ _ => g_name 6 sc.nd rfl (Or.inl rfl)) (fun _ _ _ _ _ => dts_nil) (fun _ _ _ _ _ => (d_fn (ok_Lis_term W) hr (by decide) rfl (da_cons (dv 6) da_nil) (lnS ln0))) (by decide)) da_nil)) (lnS (lnS ln0))))))))))))))))))
end
end Nf
set_option Elab.async false
set_option linter.all false
set_option maxRecDepth 100000
set_option maxHeartbeats 4000000
/-! _law_right: what its body does, the plain laws given -/
namespace Nf
open PySem PySem.Spec L2
section
variable {P : Program} {w : World} {K : PySem.W.Frag} {mg : Str → Option Value} {base : Heap} {C : Addr}
theorem lc_draw {te : TE} {Pd : D → Prop} {b : Addr} {T : List Addr} {σ : L2.St} {H : Hp} {Q : VK} {n c k : Nat} {kI : Int} (hkI : kI = k) (hk : k ≤ 100) (t : TOk T H) (hb : b ∈ T) (tin : Tin H b n) (hn : n + k * c ≤ 1000)
    (hte : ∀ (i : Nat) (T' : List Addr) (H' : Hp) (n' : Nat) (Q' : VK), Step T H T' H' → b ∈ T' → Tin H' b n' → n' + c ≤ 1000 →
      (∀ d, Pd d → ∀ v H'' m, m ≤ n' + c → But b H' H'' → Tin H'' b m → Rp K T' H'' v d → Q' v H'') → te ((wipe σ [14]).set 14 (some (.int (0 + (i : Nat))))) H' Q')
    (q : ∀ xs : List D, xs.length = k → (∀ x ∈ xs, Pd x) → ∀ v H' m, m ≤ n + k * c → But b H H' → Tin H' b m → Rp K T H' v (.list xs) → Q v H') :
    tLc (iRng1 (tCons (tC (.int kI)) tNil)) (gName 14) tYes te [14] σ H Q := by
  subst hkI
  refine ⟨k, rfl, by omega, by omega, fun d0 hd0 => ?_⟩
  have w1 : Step T H (d0 :: T) (L2.upd H d0 (.lst [])) := Step.own t hd0
  have nd : d0 ∉ T := fun z => t d0 z hd0
  have db : d0 ≠ b := fun z => nd (by rw [z]; exact hb)
  have ek : ((k : Int)).toNat = k := by omega
  rw [ek]
  refine ⟨fun i m H' => m = k - i ∧ i ≤ k ∧ ∃ av xs n', H' d0 = some (.lst av) ∧ RpA K (d0 :: T) H' av xs ∧ xs.length = i ∧ (∀ x ∈ xs, Pd x) ∧ Tin H' b n' ∧ n' ≤ n + i * c ∧ (∀ a o, a ≠ b → H a = some o → H' a = some o) ∧ TOk (d0 :: T) H',
    ⟨k, rfl, Nat.zero_le _, [], [], n, upd_same, .nil, rfl, (fun _ z => nomatch z), tin.same (Same.new hd0), by omega, But.new hd0, w1.dom⟩, ?_⟩
  rintro i m H' ⟨rfl, hi, av, xs, n', hav, rx, lx, px, tin', hn', bu, t'⟩
  by_cases hlt : i < k
  · refine .inr ⟨hlt, _, fun H2 z => ⟨k - (i + 1), by omega, z⟩, fun x H2 y => ?_⟩
    obtain ⟨rfl, rfl⟩ := y
    have st : Step T H (d0 :: T) H2 := ⟨fun _ h => List.mem_cons_of_mem _ h, fun a h => (List.mem_cons.mp h).elim (fun z => .inr (by rw [z]; exact hd0)) .inl, t', fun a o h e => bu a o (fun z => h (by rw [z]; exact List.mem_cons_of_mem _ hb)) e⟩
    have hic : i * c + c ≤ k * c := by
      have : (i + 1) * c ≤ k * c := Nat.mul_le_mul_right c hlt
      rw [Nat.succ_mul] at this
      exact this
    refine ⟨?_, (hte i (d0 :: T) H2 n' _ st (List.mem_cons_of_mem _ hb) tin' (by omega) fun d hd v H3 m hm bu3 tin3 r3 => ?_)⟩
    · rw [wipe_set (by simp), wipe_wipe]
    · have hav3 := bu3 _ _ db hav
      have st3 := Tin.step (List.mem_cons_of_mem d0 hb) t' bu3 tin3
      have rx3 := rx.step st3
      have st4 : Step (d0 :: T) H3 (d0 :: T) (L2.upd H3 d0 (.lst (av ++ [v]))) := Step.put st3.dom List.mem_cons_self
      have la := rx.length
      refine ⟨av, hav3, by rw [la, lx, sizeLine_eq]; omega, rfl, by omega, av ++ [v], xs ++ [d], m, upd_same, (rx3.append (.one r3)).step st4, by rw [List.length_append, lx]; rfl, fun y hy => ?_, ?_, by rw [Nat.succ_mul]; omega, fun a o ha e => ?_, st4.dom⟩
      · rcases List.mem_append.mp hy with z | z
        · exact px y z
        · rw [List.mem_singleton.mp z]; exact hd
      · obtain ⟨x, y, z, e, r5⟩ := tin3
        exact ⟨x, y, z, by rw [upd_ne (Ne.symm db)]; exact e, r5⟩
      · have a0 : a ≠ d0 := fun z => by rw [z, hd0] at e; cases e
        rw [upd_ne a0]
        exact bu3 a o ha (bu a o ha e)
  · have hk2 : i = k := by omega
    subst hk2
    exact .inl ⟨Nat.le_refl _, q xs lx px _ H' n' hn' bu tin' (.lst ⟨nd, hav⟩ (rx.weak fun a h => List.mem_cons_of_mem _ h))⟩
/-! ### what the plain laws must say -/
def itemD : Nat → D
  | 0 => encI (sD "a") (sD "")
  | 1 => encI (sD "a") (sD "fast")
  | _ => encI (sD "b") (sD "")
def n1D : Nat → D
  | 0 => sD "a"
  | 1 => sD "a"
  | _ => sD "b"
def n2D : Nat → D
  | 0 => sD ""
  | 1 => sD "fast"
  | _ => sD ""
theorem itemD_eq (i : Nat) : itemD i = encI (n1D i) (n2D i) := by
  match i with
  | 0 => rfl
  | 1 => rfl
  | _ + 2 => rfl
def termD (i : Nat) (k : Bool) (s : Span) : D := .tuple [itemD i, .bool k, encS s]
def midSlots (s0 : Slot) (it ot one two : D) : List Slot := [s0, .no, .no, .no, .no, .no, .no, .no, .d it, .d ot, .d one, .d two, .no, .no, .no, .no, .no]
def MidOk : Prop := ∀ (s0 : Slot), isL s0 = false → ∀ (i j : Nat) (k1 k2 : Bool) (s1 s2 : Span), i < 3 → j < 3 → i ≠ j → s1 ∈ allSpans → s2 ∈ allSpans →
  ∃ ds, gMid (midSlots s0 (itemD i) (itemD j) (termD i k1 s1) (termD i k2 s2)) = some (.nx ds) ∧ ds.length = 17 ∧ ds[0]? = some s0 ∧ ds[10]? = some (.d (termD i k1 s1)) ∧ noL ds = true
def EndOk : Prop := ∀ (ds : List Slot) (i : Nat) (k : Bool) (s : Span) (xs : List D), i < 3 → s ∈ allSpans → xs.length = 5 → (∀ x ∈ xs, x ∈ goods (n1D i) (n2D i) k (s.map encP)) → ds.length = 17 → ds[7]? = some (.d (.list xs)) → gEnd ds = some (.rt (.bool true))
def spRight : Sp := fun vs H Q _ => ∃ (b : Addr) (n : Nat) (T : List Addr), vs = [.ref b] ∧ TOk T H ∧ b ∈ T ∧ Tin H b n ∧ n + 100 ≤ 1000 ∧ ∀ H', Same H H' ∨ True → Q (.bl true) H'
theorem pickItems : ∀ {i : Nat} {x : D}, [itemD 0, itemD 1, itemD 2][i]? = some x → i < 3 ∧ x = itemD i := by
  intro i x h
  match i, h with
  | 0, h => cases h; exact ⟨by decide, rfl⟩
  | 1, h => cases h; exact ⟨by decide, rfl⟩
  | 2, h => cases h; exact ⟨by decide, rfl⟩
  | i + 3, h => simp at h
theorem spans_le {s : Span} (h : s ∈ allSpans) : (s.map encP).length ≤ 2 := by
  obtain ⟨p, _, hs⟩ := List.mem_flatMap.mp h
  rw [List.length_map]
  simp only [spans2, List.mem_cons, List.not_mem_nil, or_false] at hs
  rcases hs with rfl | rfl | rfl | rfl | rfl | rfl | rfl | rfl <;> simp
theorem termD_eq (i : Nat) (k : Bool) (s : Span) : termD i k s = encT (n1D i) (n2D i) k (s.map encP) := by
  unfold termD encT
  rw [itemD_eq]
  rfl
theorem se_mid {T : List Addr} {H : Hp} {b : Addr} {v8 v9 v10 v11 : V} {it ot one two : D} {o1 o2 o3 o4 o5 o6 o7 p1 p2 p3 p4 p5 : Option V} (t : TOk T H) (r8 : Rp K T H v8 it) (r9 : Rp K T H v9 ot) (r10 : Rp K T H v10 one) (r11 : Rp K T H v11 two) :
    Se K T [some (.ref b), o1, o2, o3, o4, o5, o6, o7, some v8, some v9, some v10, some v11, p1, p2, p3, p4, p5] H (midSlots (.v (.ref b)) it ot one two) := by
  refine ⟨t, rfl, fun i s h => ?_⟩
  match i, h with
  | 0, h => cases h; rfl
  | 1, h => cases h; trivial
  | 2, h => cases h; trivial
  | 3, h => cases h; trivial
  | 4, h => cases h; trivial
  | 5, h => cases h; trivial
  | 6, h => cases h; trivial
  | 7, h => cases h; trivial
  | 8, h => cases h; exact ⟨_, rfl, r8⟩
  | 9, h => cases h; exact ⟨_, rfl, r9⟩
  | 10, h => cases h; exact ⟨_, rfl, r10⟩
  | 11, h => cases h; exact ⟨_, rfl, r11⟩
  | 12, h => cases h; trivial
  | 13, h => cases h; trivial
  | 14, h => cases h; trivial
  | 15, h => cases h; trivial
  | 16, h => cases h; trivial
  | i + 17, h => simp [midSlots] at h
theorem ok_Lright (W : Wt K mg) (U : ErrC K mg "Unfit" C) (M1 : MidOk) (M2 : EndOk) : FnS P w K mg base 20 "_law_right" [("_law_tin" : Str)] spRight := by
  obtain ⟨f, fd, F, hm⟩ := W.t_Lright
  refine ⟨f, fd, F.ok sc_Lright (fun vs H Q E h => by obtain ⟨b, n, T, rfl, _⟩ := h; rfl) fun cdv A outer s H vs Q E hr h => ⟨tRight K, der_Lright W U hr, ?_⟩, hm, F.kp, F.binds fun _ _ _ _ _ _ us hl => match us, hl with | [_], _ => rfl⟩
  obtain ⟨b, n, T, rfl, t, hbT, tin, hn, q⟩ := h
  -- the items
  refine ⟨_, rfl, T, _, _, Se.blank _ t, (show tItems K _ = some (.list [itemD 0, itemD 1, itemD 2]) from rfl), fun v0 H1 s1 r1 => ?_⟩
  have t1 := Same.dom s1 t
  refine ⟨b, v0, n, T, _, rfl, t1, hbT, tin.same s1, by omega, r1, (show 2 ≤ 3 by decide), (show 3 < 1000 by decide), fun i j x y hij hx hy v H2 bu2 tin2 r2 => ?_⟩
  obtain ⟨hi, rfl⟩ := pickItems hx
  obtain ⟨hj, rfl⟩ := pickItems hy
  have st2 := Tin.step hbT t1 bu2 tin2
  cases r2 with
  | lst g1 g2 =>
    cases g2 with
    | @cons v8 _ _ _ r8 g3 =>
      cases g3 with
      | @cons v9 _ _ _ r9 g4 =>
        cases g4
        refine ⟨_, _, rfl, g1.sq, rfl, v8, [v9], rfl, v9, [], rfl, rfl, ?_⟩
        -- the two terms
        show tSeq (tRight2 K) (tSeq (tS K gMid) (tSeq (tRight3 K) (tS K gEnd))) _ _ _
        unfold tSeq tRight2 tAsg
        refine lc_draw (K := K) (k := 2) (c := 5) (b := b) (T := T) (n := n + 2) (Pd := fun d => ∃ k sp, sp ∈ allSpans ∧ d = termD i k sp) rfl (by decide) st2.dom hbT tin2 (by omega) (fun l T' H' n' Q' st' hb' tin' hn' q' => ?_) fun xs lx px v H3 m3 hm3 bu3 tin3 r3 => ?_
        · -- one term
          refine ⟨v8, rfl, _, rfl, b, 2, n', rfl, by decide, by decide, tin', by omega, fun r H4 r0 r1' bu4 tin4 => ?_⟩
          refine ⟨.int r, .int 0, _, .int r, .int 0, rfl, _, rfl, b, n' + 1, T', rfl, ?_, hb', tin4, by omega, fun sp hsp v5 H5 m5 hm5 bu5 tin5 r5 => ?_⟩
          · exact (Tin.step hb' st'.dom bu4 tin4).dom
          · have st4 := Tin.step hb' st'.dom bu4 tin4
            have st5 := Tin.step hb' st4.dom bu5 tin5
            refine ⟨by show 3 ≤ sizeLine; decide, fun p hp => ?_⟩
            exact q' (termD i (PyData.eqv (.int r) (.int 0)) sp) ⟨_, sp, hsp, rfl⟩ _ _ m5 (by omega) ((bu4.trans bu5).trans (But.new hp)) (tin5.same (Same.new hp)) (Rp.newT (.cons (((r8.step st').step st4).step st5) (.cons (.bl _) (.cons r5 .nil))) st5.dom hp)
        · -- behind the terms
          match xs, lx with
          | [d1, d2], _ =>
            obtain ⟨k1, sp1, h1, rfl⟩ := px d1 List.mem_cons_self
            obtain ⟨k2, sp2, h2, rfl⟩ := px d2 (List.mem_cons_of_mem _ List.mem_cons_self)
            have st3 := Tin.step hbT st2.dom bu3 tin3
            cases r3 with
            | lst g1 g2 =>
              cases g2 with
              | @cons v10 _ _ _ r10 g3 =>
                cases g3 with
                | @cons v11 _ _ _ r11 g4 =>
                  cases g4
                  refine ⟨_, _, rfl, g1.sq, rfl, v10, [v11], rfl, v11, [], rfl, rfl, ?_⟩
                  obtain ⟨ds, e1, el, e2, e3, e4⟩ := M1 (.v (.ref b)) rfl i j k1 k2 sp1 sp2 hi hj hij h1 h2
                  refine ⟨H3, T, [], T, _, _, Sd.begin (se_mid (b := b) st3.dom (r8.step st3) (r9.step st3) r10 r11) rfl, e1, fun ds' z T' σ' H' S' => ?_, fun _ z => nomatch z⟩
                  cases z
                  have sm : Same H3 H' := fun x o z => S'.base x o (fun z => nomatch z) z
                  have hσ0 : σ'[0]? = some (some (.ref b)) := S'.se.v e2
                  obtain ⟨v10', hσ10, r10'⟩ := S'.se.d e3
                  have hbT' := S'.sub b hbT
                  have tin4 := tin3.same sm
                  -- the bent ones
                  show tSeq (tRight3 K) (tS K gEnd) _ _ _
                  unfold tSeq tRight3 tAsg
                  refine lc_draw (K := K) (k := 5) (c := 1) (b := b) (T := T') (n := m3) (Pd := fun d => d ∈ goods (n1D i) (n2D i) k1 (sp1.map encP)) rfl (by decide) S'.se.dom hbT' tin4 (by omega) (fun l T5 H5 n5 Q5 st5 hb5 tin5 hn5 q5 => ?_) fun xs lx px v H6 m6 hm6 bu6 tin6 r6 => ?_
                  · have z0 : ((wipe σ' [14]).set 14 (some (.int (0 + (l : Nat)))))[0]? = some (some (.ref b)) := by
                      rw [List.getElem?_set_ne (by decide), wipe_at, if_neg (by simp)]
                      exact hσ0
                    have z10 : ((wipe σ' [14]).set 14 (some (.int (0 + (l : Nat)))))[10]? = some (some v10') := by
                      rw [List.getElem?_set_ne (by decide), wipe_at, if_neg (by simp)]
                      exact hσ10
                    refine ⟨_, z0, _, z10, b, v10', n5, T5, n1D i, n2D i, k1, sp1.map encP, rfl, st5.dom, hb5, tin5, by omega, ?_, spans_le h1, fun d hd v' H7 bu7 tin7 r7 => q5 d hd v' H7 (n5 + 1) (by omega) bu7 tin7 r7⟩
                    have := r10'.step st5
                    rw [termD_eq] at this
                    exact this
                  · have st6 := Tin.step hbT' S'.se.dom bu6 tin6
                    have S6 : Se K T' (σ'.set 7 (some v)) H6 (ds.set 7 (.d (.list xs))) := ((⟨st6.dom, S'.se.len, fun a s h => ?_⟩ : Se K T' σ' H6 ds)).set r6
                    · have e6 := M2 (ds.set 7 (.d (.list xs))) i k1 sp1 xs hi h1 lx px (by rw [List.length_set]; exact el) (by rw [List.getElem?_set_self (by omega)])
                      refine ⟨H6, T', [], T', _, _, Sd.begin S6 ?_, e6, (fun _ z => nomatch z), fun d z v' H7 T1 x wk r7 => ?_⟩
                      · unfold noL at e4 ⊢
                        rw [List.all_eq_true] at e4 ⊢
                        intro x hx
                        rcases List.mem_or_eq_of_mem_set hx with z | z
                        · exact e4 x z
                        · rw [z]; rfl
                      · cases z
                        cases r7
                        exact q H7 (.inr trivial)
                    · have w := S'.se.at_ a s h
                      have nl := noL_of e4 a s
                      cases s with
                      | no => trivial
                      | d x => obtain ⟨v', h1, h2⟩ := w; exact ⟨v', h1, h2.step st6⟩
                      | l zs => exact absurd h (nl rfl)
                      | v u => exact w
                      | m zs => exact absurd h (nl rfl)
end
end Nf
set_option Elab.async false
set_option linter.all false
set_option maxRecDepth 100000
set_option maxHeartbeats 4000000
/-! law -/
namespace Nf
open PySem PySem.Spec L2
theorem fr_ok : m_Lfront_right [] = some (.bool true) := by kernel_rfl
section
variable {P : Program} {w : World} {K : PySem.W.Frag} {mg : Str → Option Value} {base : Heap} {C : Addr}
def spLaw (K : PySem.W.Frag) : Sp := fun vs H Q _ => ∃ (a : Addr) (ns : List Int), vs = [.ref a] ∧ SqL K H a (ns.map V.int) ∧ ns.length ≤ 1000 ∧ ∀ H', Q (.bl true) H'
theorem sc_law : FnScope [("_law_script" : Str)] [("_law_script" : Str)] (defScope s_law) := ⟨rfl, rfl, rfl, by decide +kernel, rfl, by decide +kernel, by decide +kernel⟩
theorem ok_law {f : Addr} {fd : FuncData} (F : Fun K "law" "law" s_law f fd) (W : Wt K mg) (U : ErrC K mg "Unfit" C) (M1 : MidOk) (M2 : EndOk) : FnOk P w K mg base CX0 21 f fd [("_law_script" : Str)] (spLaw K) := by
  have sc := sc_law
  refine F.ok sc (fun vs H Q E h => by obtain ⟨a, ns, rfl, _⟩ := h; rfl) fun cdv A outer s H vs Q E hr h => ⟨_,
    pss_one (ps_ret (pe_and (d_fn0 (ok_Lfront_right W U) hr (by decide) rfl) (pe_one (pe_fnS (ok_Lright W U M1 M2) hr (by decide) rfl (pa_cons (pe_fnS (ok_Lbox W) hr (by decide) rfl (pa_cons (pe_fnS (ok_Lcells W) hr (by decide) rfl (pa_cons (pv 0) (pa_cons pe_int pa_nil))) (pa_cons pe_int pa_nil))) pa_nil))))), ?_⟩
  obtain ⟨a, ns, rfl, hs, hn, q⟩ := h
  have t0 : TOk ([] : List Addr) H := fun _ z => nomatch z
  refine ⟨[], _, _, Se.blank _ t0, fr_ok, fun v H1 s1 r1 => ?_⟩
  cases r1
  refine ⟨true, rfl, iteT ⟨_, rfl, a, ns, rfl, s1.seq hs, hn, fun x p H2 s2 hp e2 => ⟨p, x, rfl, SqL.of e2, fun b H3 s3 hb tin => ?_⟩⟩⟩
  refine ⟨b, 0, [b], rfl, fun c hc => ?_, List.mem_cons_self, tin, by decide, fun H' _ => q H'⟩
  rw [List.mem_singleton.mp hc]
  obtain ⟨x, y, z, e, _⟩ := tin
  rw [e]
  exact fun z => nomatch z
/-! ### what the top has written -/
theorem tx_mk {h : Heap} {x : Str} {st : Stmt} {f : Addr} {oc : Value} {od an : Option Addr} {kV dc pm cd ct : Value} {sl : Array (Option Value)} (X : K.In h) (G : h.Ns mainGlobals mg) (a : PySem.W.nsIn K mainGlobals x = some (some (.ref f)))
    (l : K.lookup f = some ⟨oc, od, .func (PySem.W.fnOf x x (defArgs st) (defBody st) (defScope st) .none kV dc pm an cd ct), sl⟩) (c : PySem.W.codeIn K cd x = true) (k : PySem.W.keepIn K (.ref f) = true) : Tx K mg x st :=
  ⟨f, _, fun_mk (st := st) l c k, PySem.W.mg_of X G a⟩
theorem glob_mk {h : Heap} {x : Str} {v : Value} (X : K.In h) (G : h.Ns mainGlobals mg) (a : PySem.W.nsIn K mainGlobals x = some (some v)) : mg x = some v := PySem.W.mg_of X G a
theorem first_mk {h : Heap} {a : Addr} {o : Obj} {its : Array Value} {n : Nat} (X : K.In h) (G : h.Ns mainGlobals mg) (e : PySem.W.nsIn K mainGlobals "FIRST" = some (some (.ref a))) (l : K.lookup a = some o) (hc : o.cls = .type "tuple") (hd : o.data = .seq its n) (hs : its.size ≤ sizeLine)
    (hv : Vals [.int 0, .int 0, .int 0, .int (-9)] its.toList) : ∃ a, mg "FIRST" = some (.ref a) ∧ ∃ (o : Obj) (its : Array Value) (n : Nat), K.lookup a = some o ∧ o.cls = .type "tuple" ∧ o.data = .seq its n ∧ its.size ≤ sizeLine ∧ Vals [.int 0, .int 0, .int 0, .int (-9)] its.toList :=
  ⟨a, PySem.W.mg_of X G e, o, its, n, l, hc, hd, hs, hv⟩
theorem exm_me {S : Addr} (h1 : PySem.W.subIn K (.ref S) (.type "BaseException") = some true) (h2 : PySem.W.isClsIn K S = true) (h3 : PySem.W.typeIn K (.ref S) = some (.type "type")) (h4 : PySem.W.subIn K (.ref S) (.ref S) = some true) :
    PySem.W.exmOne K (.ref S) (.ref S) = some true := by
  have g1 : (PySem.W.subIn K (.ref S) (.type "BaseException") == some true) = true := by rw [h1]; rfl
  have g2 : ((PySem.W.clsIn K S).isSome && PySem.W.typeIn K (.ref S) == some (.type "type")) = true := by
    have h5 : (PySem.W.clsIn K S).isSome = true := h2
    rw [h5, h3]; rfl
  show (if (PySem.W.subIn K (.ref S) (.type "BaseException") == some true) = true then (if ((PySem.W.clsIn K S).isSome && PySem.W.typeIn K (.ref S) == some (.type "type")) = true then PySem.W.subIn K (.ref S) (.ref S) else none) else none) = some true
  rw [if_pos g1, if_pos g2]
  exact h4
theorem law_of {l : PySem.W.OpenLaw} {fa : Addr} (hfa : mg "law" = some (.ref fa)) (W : Wt K mg) (U : ErrC K mg "Unfit" C) (M1 : MidOk) (M2 : EndOk) :
    ∃ fd : FuncData, (∀ (s : Shared) (v : Value), BindsTo s fd ⟨[v], []⟩ [(("_law_script" : Str), v)]) ∧ ∀ base : Heap, K.In base → base.Ns mainGlobals mg → FnOk l.prog w K mg base CX0 21 fa fd [("_law_script" : Str)] (spLaw K) := by
  obtain ⟨f, fd, F, hm⟩ := W.t_law
  rw [hfa] at hm
  cases hm
  refine ⟨fd, fun s v => ?_, fun base _ _ => ok_law F W U M1 M2⟩
  obtain ⟨oc, od, kV, doc, pm, an, cdv, ct, osl, rfl, lk, hcd⟩ := F.ex
  exact .of_eq rfl
theorem walk {l : PySem.W.OpenLaw} {q : Program} {loose : List Str} {XP : (Str → Option Value) → Heap → Prop} {YP : World → Heap → Prop} {d : DefRec} {K : Params → PySem.W.Frag} (hn : l.most = some 63) (hdf : d.params.defaults = [])
    (hY : ∀ (w : World) (h : Heap), YP w h → (K w.params).In h)
    (F : ∀ (w : World) (mg : Str → Option Value) (fa : Addr) (h : Heap), (K w.params).In h → h.Ns mainGlobals mg → mg d.name = some (.ref fa) →
      ∃ fd : FuncData, (∀ (s : Shared) (u : Value), BindsTo s fd ⟨[u], []⟩ [(("_law_script" : Str), u)]) ∧ ∀ base : Heap, (K w.params).In base → base.Ns mainGlobals mg → FnOk l.prog w (K w.params) mg base CX0 21 fa fd [("_law_script" : Str)] (spLaw (K w.params))) :
    PySem.W.WalkO q loose XP YP l.row.toRowW d [] (fun f vs => PySem.call f vs) :=
  L2.walk_of (n := 63) (k := 21) (x := "_law_script") (CX := fun _ => CX0) (sp := fun w => spLaw (K w.params)) hn (by decide) hdf ⟨rfl, by decide, by decide⟩ hY F (fun _ _ a ns hl _ hS => ⟨a, ns, rfl, hS, by omega, fun _ => rfl⟩) fun _ _ _ _ _ z => z
end
end Nf
set_option Elab.async false
set_option linter.all false
set_option maxRecDepth 100000
set_option maxHeartbeats 4000000
/-! the plain law, 1: rows as numbers; what a span holds -/
namespace Nf
open PySem PySem.Spec L2
def rowK (n : Nat) : Row := [((n / 4096 : Nat) : Int), ((n / 256 % 16 : Nat) : Int), ((n / 16 % 16 : Nat) : Int), ((n % 16 : Nat) : Int) - 9]
def eK (n : Nat) : D := encR (rowK n)
def eKO : Option Nat → D
  | none => .none
  | some n => eK n
def eKP (p : Nat × Option Nat) : D := .tuple [eK p.1, eKO p.2]
abbrev KSpan := List (Nat × Option Nat)
def eKS (s : KSpan) : D := .tuple (s.map eKP)
theorem rowK_lt (a b : Nat) : decide (rowK a < rowK b) = Nat.blt a b := by
  rw [Bool.eq_iff_iff]
  simp only [decide_eq_true_eq, Nat.blt_eq]
  unfold rowK
  simp only [List.cons_lt_cons_iff, List.not_lt_nil, and_false, or_false, List.lt_irrefl]
  omega
theorem rowK_inj (a b : Nat) : rowK a = rowK b ↔ a = b := by
  constructor
  · intro h
    simp only [rowK, List.cons.injEq, and_true] at h
    omega
  · rintro rfl; rfl
theorem lt_K (a b : Nat) : ltD (eK a) (eK b) = some (.bool (Nat.blt a b)) := by
  have h : cmpOk (eK a) (eK b) = true := by
    unfold cmpOk
    rw [show PySem.W.alike (eK a) (eK b) = true from alike_encR _ _, show (eK a).depth = 1 from depth_encR _]; rfl
  unfold ltD
  rw [if_pos h, show PySem.W.dataLt (eK a) (eK b) = _ from dataLt_encR _ _, rowK_lt]
theorem le_K (a b : Nat) : leD (eK a) (eK b) = some (.bool (!Nat.blt b a)) := by
  have h : cmpOk (eK a) (eK b) = true := by
    unfold cmpOk
    rw [show PySem.W.alike (eK a) (eK b) = true from alike_encR _ _, show (eK a).depth = 1 from depth_encR _]; rfl
  unfold leD
  rw [if_pos h, show PySem.W.dataLt (eK b) (eK a) = _ from dataLt_encR _ _, rowK_lt]
theorem eqv_K (a b : Nat) : PyData.eqv (eK a) (eK b) = Nat.beq a b := by
  rw [Bool.eq_iff_iff, Nat.beq_eq]
  rw [← rowK_inj]
  simp [eK, encR, rowK, PyData.eqv, PyData.eqvAll]
theorem shaped_K (a : Nat) : SeqAt.shaped (eK a) = true := by rfl
def beqO : Option Nat → Nat → Bool
  | none, _ => false
  | some a, b => Nat.beq a b
theorem eq_KO (a : Option Nat) (b : Nat) : eqD (eKO a) (eK b) = some (.bool (beqO a b)) := by
  cases a with
  | none => rfl
  | some a =>
    show (if SeqAt.shaped (eK a) && SeqAt.shaped (eK b) then some (PyData.bool (PyData.eqv (eK a) (eK b))) else none) = _
    rw [shaped_K, shaped_K, eqv_K]; rfl
/-! ### rules -/
section
variable {a b : Fe} {ds : List Slot} {x y : Bool}
theorem ev_and (h1 : a ds = some (.bool x)) (h2 : x = true → b ds = some (.bool y)) : fAndV a b ds = some (.bool (x && y)) := by
  unfold fAndV; rw [h1]
  cases x with
  | false => rfl
  | true => exact h2 rfl
theorem ev_or (h1 : a ds = some (.bool x)) (h2 : x = false → b ds = some (.bool y)) : fOrV a b ds = some (.bool (x || y)) := by
  unfold fOrV; rw [h1]
  cases x with
  | false => exact h2 rfl
  | true => rfl
theorem ev_not (h1 : a ds = some (.bool x)) : fNotV a ds = some (.bool (!x)) := by unfold fNotV; rw [h1]
theorem ev_asB (h1 : a ds = some (.bool x)) : asB a ds = some x := by unfold asB; rw [h1]
theorem ev_andT {a b : Fb} (h1 : a ds = some x) (h2 : x = true → b ds = some y) : fAnd a b ds = some (x && y) := by
  unfold fAnd; rw [h1]
  cases x with
  | false => rfl
  | true => exact h2 rfl
theorem ev_orT {a b : Fb} (h1 : a ds = some x) (h2 : x = false → b ds = some y) : fOr a b ds = some (x || y) := by
  unfold fOr; rw [h1]
  cases x with
  | false => exact h2 rfl
  | true => rfl
theorem ev_notT {a : Fb} (h1 : a ds = some x) : fNot a ds = some (!x) := by unfold fNot; rw [h1]; rfl
theorem ev_f1 {g : D → Option D} {a : Fe} {d : D} {r : Option D} (h1 : a ds = some d) (h2 : g d = r) : f1 g a ds = r := by unfold f1; rw [h1]; exact h2
theorem ev_f2 {g : D → D → Option D} {a b : Fe} {d e : D} {r : Option D} (h1 : a ds = some d) (h2 : b ds = some e) (h3 : g d e = r) : f2 g a b ds = r := by unfold f2; rw [h1, Option.bind_some, h2]; exact h3
theorem ev_call {m : List D → Option D} {g : Fa} {xs : List D} {r : Option D} (h1 : g ds = some xs) (h2 : m xs = r) : fCall m g ds = r := by unfold fCall; rw [h1]; exact h2
theorem ev_cons {f : Fe} {g : Fa} {d : D} {xs : List D} (h1 : f ds = some d) (h2 : g ds = some xs) : faC f g ds = some (d :: xs) := by unfold faC; rw [h1, Option.bind_some, h2]; rfl
theorem ev_nil : faN ds = some [] := rfl
theorem ev_tup {g : Fa} {xs : List D} (h1 : g ds = some xs) (h2 : small xs = true) : fTup g ds = some (.tuple xs) := by unfold fTup; rw [h1, Option.bind_some, if_pos h2]
theorem ev_lst {g : Fa} {xs : List D} (h1 : g ds = some xs) (h2 : small xs = true) : fLst g ds = some (.list xs) := by unfold fLst; rw [h1, Option.bind_some, if_pos h2]
theorem ev_ifE {c : Fb} {a b : Fe} {r : Option D} {x : Bool} (h1 : c ds = some x) (h2 : x = true → a ds = r) (h3 : x = false → b ds = r) : fIf c a b ds = r := by
  unfold fIf; rw [h1]
  cases x with
  | false => exact h3 rfl
  | true => exact h2 rfl
theorem ev_ret {f : Fe} {d : D} (h : f ds = some d) : gRet f ds = some (.rt d) := by unfold gRet; rw [h]; rfl
theorem ev_run {g : Fs} {k : Nat} {xs : List D} {d : D} (h : g (startD xs k) = some (.rt d)) : runD g k xs = some d := by unfold runD; rw [h]; rfl
theorem ev_asg {t : Tgt} {f : Fe} {d : D} {ds' : List Slot} (h : f ds = some d) (h2 : bindD t d ds = some ds') : gAsg t f ds = some (.nx ds') := by unfold gAsg; rw [h, Option.bind_some, h2]; rfl
theorem ev_seq {g g' : Fs} {ds' : List Slot} {r : Option Res} (h : g ds = some (.nx ds')) (h2 : g' ds' = r) : gSeq g g' ds = r := by unfold gSeq; rw [h]; exact h2
theorem ev_if {c : Fb} {a b : Fs} {r : Option Res} {x : Bool} (h1 : c ds = some x) (h2 : x = true → a ds = r) (h3 : x = false → b ds = r) : gIf c a b ds = r := by
  unfold gIf; rw [h1]
  cases x with
  | false => exact h3 rfl
  | true => exact h2 rfl
theorem ev_seqF {f : Fe} {xs : List D} (h : f ds = some (.list xs)) : fSeq f ds = some xs := by unfold fSeq; rw [h]; rfl
theorem ev_seqT {f : Fe} {xs : List D} (h : f ds = some (.tuple xs)) : fSeq f ds = some xs := by unfold fSeq; rw [h]; rfl
theorem evs_map {α : Type} {b : D → List Slot → Option (List Slot)} {fc : Fb} {fe : Fe} {enc : α → D} {c : α → Bool} {e : α → D} : ∀ (l : List α), (∀ x ∈ l, ∃ ds', b (enc x) ds = some ds' ∧ fc ds' = some (c x) ∧ (c x = true → fe ds' = some (e x))) →
    evs b fc fe ds (l.map enc) = some ((l.filter c).map e)
  | [], _ => rfl
  | x :: l, h => by
    obtain ⟨ds', h1, h2, h3⟩ := h x (List.mem_cons_self ..)
    have ih := evs_map l fun y hy => h y (List.mem_cons_of_mem _ hy)
    show ((b (enc x) ds).bind fun ds' => (fc ds').bind fun c => if c then (fe ds').bind fun y => (evs b fc fe ds (l.map enc)).map (y :: ·) else evs b fc fe ds (l.map enc)) = _
    rw [h1, Option.bind_some, h2, Option.bind_some, ih]
    cases hc : c x with
    | false => rw [List.filter_cons_of_neg (by rw [hc]; exact Bool.false_ne_true)]; rfl
    | true => rw [List.filter_cons_of_pos hc, if_pos rfl, h3 hc]; rfl
theorem ev_lc {α : Type} {fi : Fi} {tg : Tgt} {fc : Fb} {fe : Fe} {own : List Nat} {enc : α → D} {c : α → Bool} {e : α → D} {l : List α} (h1 : fi ds = some (l.map enc)) (hs : l.length ≤ 100000)
    (h : ∀ x ∈ l, ∃ ds', bindD tg (enc x) (wipeD ds own) = some ds' ∧ fc ds' = some (c x) ∧ (c x = true → fe ds' = some (e x))) : fLc fi tg fc fe own ds = some (.list ((l.filter c).map e)) := by
  unfold fLc
  rw [h1, Option.bind_some, if_pos (show small (l.map enc) = true from decide_eq_true (by rw [List.length_map]; exact hs)), evs_map l h]; rfl
/-- no condition -/
theorem ev_lcA {α : Type} {fi : Fi} {tg : Tgt} {fe : Fe} {own : List Nat} {enc : α → D} {e : α → D} {l : List α} (h1 : fi ds = some (l.map enc)) (hs : l.length ≤ 100000)
    (h : ∀ x ∈ l, ∃ ds', bindD tg (enc x) (wipeD ds own) = some ds' ∧ fe ds' = some (e x)) : fLc fi tg fYes fe own ds = some (.list (l.map e)) := by
  have := ev_lc (tg := tg) (fc := fYes) (fe := fe) (own := own) (enc := enc) (c := fun _ => true) (e := e) h1 hs fun x hx => by
    obtain ⟨ds', a, b⟩ := h x hx
    exact ⟨ds', a, rfl, fun _ => b⟩
  rw [this, List.filter_eq_self.mpr (fun _ _ => rfl)]
theorem loop_ok {α β : Type} {t : Tgt} {body : Fs} {R : Nat → β → List Slot → Prop} {enc : α → D} {step : β → α → β} {n : Nat} : ∀ (l : List α) (k : Nat) (b : β) (ds : List Slot), k + l.length = n →
    (∀ k b x ds, k < n → x ∈ l → R k b ds → ∃ ds1 ds2, bindD t (enc x) ds = some ds1 ∧ body ds1 = some (.nx ds2) ∧ R (k + 1) (step b x) ds2) → R k b ds → ∃ ds', loopD t body (l.map enc) ds = some (.nx ds') ∧ R n (l.foldl step b) ds'
  | [], k, b, ds, hn, _, r => ⟨ds, rfl, by rw [← hn]; exact r⟩
  | x :: l, k, b, ds, hn, h, r => by
    rw [List.length_cons] at hn
    obtain ⟨ds1, ds2, h1, h2, h3⟩ := h k b x ds (by omega) (List.mem_cons_self ..) r
    obtain ⟨ds', h4, h5⟩ := loop_ok l (k + 1) (step b x) ds2 (by omega) (fun k b y ds hk hy => h k b y ds hk (List.mem_cons_of_mem _ hy)) h3
    refine ⟨ds', ?_, h5⟩
    show ((bindD t (enc x) ds).bind fun ds1 => match body ds1 with
      | some (.nx ds2) => loopD t body (l.map enc) ds2
      | r => r) = _
    rw [h1, Option.bind_some, h2]
    exact h4
theorem ev_for {α β : Type} {fi : Fi} {t : Tgt} {body : Fs} (R : Nat → β → List Slot → Prop) {enc : α → D} (step : β → α → β) {l : List α} {b : β} (h1 : fi ds = some (l.map enc)) (h0 : R 0 b ds)
    (h : ∀ k b x ds, k < l.length → x ∈ l → R k b ds → ∃ ds1 ds2, bindD t (enc x) ds = some ds1 ∧ body ds1 = some (.nx ds2) ∧ R (k + 1) (step b x) ds2) : ∃ ds', gFor fi t body ds = some (.nx ds') ∧ R l.length (l.foldl step b) ds' := by
  obtain ⟨ds', h2, h3⟩ := loop_ok l 0 b ds (Nat.zero_add _) h h0
  exact ⟨ds', by unfold gFor; rw [h1, Option.bind_some]; exact h2, h3⟩
end
theorem bools_map : ∀ bs : List Bool, bools (bs.map .bool) = some bs
  | [] => rfl
  | b :: bs => by show (bools (bs.map .bool)).map (b :: ·) = _; rw [bools_map bs]; rfl
/-! ### what a span holds -/
def hiP : Option Nat → Nat → Bool
  | none, _ => true
  | some h, v => Nat.blt v h
def pairP (p : Nat × Option Nat) (v : Nat) : Bool := !Nat.blt v p.1 && hiP p.2 v
def heldP (s : KSpan) (v : Nat) : Bool := s.any fun p => pairP p v
theorem isN_KO (o : Option Nat) : isNone (eKO o) = o.isNone := by cases o <;> rfl
theorem hi_K (hi : Option Nat) (v : Nat) : (isNone (eKO hi) = false → ltD (eK v) (eKO hi) = some (.bool (hiP hi v))) ∧ (isNone (eKO hi) || hiP hi v) = hiP hi v := by
  cases hi with
  | none => exact ⟨(fun h => nomatch h), rfl⟩
  | some h => exact ⟨fun _ => lt_K v h, rfl⟩
theorem pair_holds_K (p : Nat × Option Nat) (v : Nat) : m_pair_holds [eKP p, eK v] = some (.bool (pairP p v)) := by
  obtain ⟨lo, hi⟩ := p
  refine ev_run (ev_ret ?_)
  refine (ev_and (x := !Nat.blt v lo) (y := isNone (eKO hi) || hiP hi v) (le_K lo v) fun _ => ev_or rfl fun h => (hi_K hi v).1 h).trans ?_
  rw [(hi_K hi v).2]; rfl
theorem span_holds_K (s : KSpan) (v : Nat) (hs : s.length ≤ 100000) : m_span_holds [eKS s, eK v] = some (.bool (heldP s v)) := by
  refine ev_run (ev_ret (ev_call (ev_cons (ev_lcA (enc := eKP) (e := fun p => .bool (pairP p v)) (l := s) rfl hs fun p _ => ⟨_, rfl, pair_holds_K p v⟩) ev_nil) ?_))
  show (bools (s.map fun p => PyData.bool (pairP p v))).map _ = _
  rw [show s.map (fun p => PyData.bool (pairP p v)) = (s.map fun p => pairP p v).map .bool by rw [List.map_map]; rfl, bools_map]
  show some (PyData.bool ((s.map fun p => pairP p v).any id)) = _
  rw [List.any_map]; rfl
def okD (n : Nat) (x : D) : Prop := x.canLay0 = true ∧ x.depth ≤ n
theorem ok_all {n : Nat} : ∀ {xs : List D}, (∀ x ∈ xs, okD n x) → PyData.canLayAll0 xs = true ∧ PyData.depthAll xs ≤ n
  | [], _ => ⟨rfl, Nat.zero_le _⟩
  | x :: xs, h => by
    obtain ⟨h1, h2⟩ := h x (List.mem_cons_self ..)
    obtain ⟨h3, h4⟩ := ok_all fun y hy => h y (List.mem_cons_of_mem _ hy)
    refine ⟨?_, ?_⟩
    · show (PyData.canLay0 x && PyData.canLayAll0 xs) = true
      rw [h1, h3]; rfl
    · show max (PyData.depth x) (PyData.depthAll xs) ≤ n
      omega
theorem ok_list {n : Nat} {xs : List D} (h : ∀ x ∈ xs, okD n x) : okD (n + 1) (.list xs) := ⟨(ok_all h).1, Nat.succ_le_succ (ok_all h).2⟩
theorem ok_tup {n : Nat} {xs : List D} (h : ∀ x ∈ xs, okD n x) : okD (n + 1) (.tuple xs) := ⟨(ok_all h).1, Nat.succ_le_succ (ok_all h).2⟩
theorem ok_sh {n : Nat} {x : D} (h : okD n x) (hn : n ≤ 64) : SeqAt.shaped x = true := by
  unfold SeqAt.shaped
  rw [h.1, decide_eq_true (Nat.le_trans h.2 hn)]; rfl
theorem ok_K (a : Nat) : okD 1 (eK a) := ⟨rfl, Nat.le_of_eq (depth_encR _)⟩
theorem ok_KO (a : Option Nat) : okD 1 (eKO a) := by
  cases a with
  | none => exact ⟨rfl, Nat.zero_le _⟩
  | some a => exact ok_K a
theorem ne_nil {xs : List D} {n : Nat} (h : ∀ x ∈ xs, okD n x) (hn : n ≤ 63) : neD (.list xs) (.list []) = some (.bool (!xs.isEmpty)) := by
  unfold neD
  rw [ok_sh (ok_list h) (Nat.succ_le_succ hn)]
  cases xs <;> rfl
theorem Lheld_K (s : KSpan) (v : Nat) (hs : s.length ≤ 100000) : m_Lheld [eKS s, eK v] = some (.bool (heldP s v)) := by
  refine ev_run (ev_ret (ev_f2 (ev_lc (enc := eKP) (c := fun p => pairP p v) (e := fun _ => .int 1) (l := s) rfl hs fun p _ => ⟨_, rfl, ?_, fun _ => rfl⟩) rfl ((ne_nil (n := 0) (fun x hx => ?_) (by decide)).trans ?_)))
  · obtain ⟨lo, hi⟩ := p
    refine (ev_andT (x := !Nat.blt v lo) (y := isNone (eKO hi) || hiP hi v) (ev_asB (le_K lo v)) fun _ => ev_orT (ev_asB rfl) fun h => ev_asB ((hi_K hi v).1 h)).trans ?_
    rw [(hi_K hi v).2]; rfl
  · obtain ⟨_, _, rfl⟩ := List.mem_map.mp hx
    exact ⟨rfl, Nat.zero_le _⟩
  · congr 2
    induction s with
    | nil => rfl
    | cons p s ih =>
      show _ = (pairP p v || heldP s v)
      cases h : pairP p v with
      | true => rw [List.filter_cons_of_pos (p := fun p => pairP p v) h]; rfl
      | false =>
        rw [List.filter_cons_of_neg (p := fun p => pairP p v) (by rw [h]; exact Bool.false_ne_true)]
        exact ih (by rw [List.length_cons] at hs; omega)
end Nf
set_option Elab.async false
set_option linter.all false
set_option maxRecDepth 100000
set_option maxHeartbeats 4000000
/-! the plain law, 2: the cuts -/
namespace Nf
open PySem PySem.Spec L2
def insN (x : Nat) : List Nat → List Nat
  | [] => [x]
  | y :: ys => bif Nat.blt x y then x :: y :: ys else bif Nat.beq x y then y :: ys else y :: insN x ys
def sortN (xs : List Nat) : List Nat := xs.foldr insN []
theorem insU_K (x : Nat) : ∀ ys : List Nat, insU (rowK x) (ys.map rowK) = (insN x ys).map rowK
  | [] => rfl
  | y :: ys => by
    show (if rowK x < rowK y then rowK x :: rowK y :: ys.map rowK else if rowK x = rowK y then rowK y :: ys.map rowK else rowK y :: insU (rowK x) (ys.map rowK)) = _
    show _ = (bif Nat.blt x y then x :: y :: ys else bif Nat.beq x y then y :: ys else y :: insN x ys).map rowK
    have h1 := rowK_lt x y
    cases hb : Nat.blt x y with
    | true =>
      rw [hb] at h1
      rw [if_pos (of_decide_eq_true h1)]; rfl
    | false =>
      rw [hb] at h1
      rw [if_neg (of_decide_eq_false h1)]
      cases he : Nat.beq x y with
      | true =>
        have := Nat.eq_of_beq_eq_true he
        subst this
        rw [if_pos rfl]; rfl
      | false =>
        rw [if_neg (fun e => Nat.ne_of_beq_eq_false he ((rowK_inj x y).mp e)), insU_K x ys]; rfl
theorem sortU_K : ∀ xs : List Nat, sortU (xs.map rowK) = (sortN xs).map rowK
  | [] => rfl
  | x :: xs => by
    show insU (rowK x) (sortU (xs.map rowK)) = (insN x (sortN xs)).map rowK
    rw [sortU_K xs, insU_K]
def cutsOf (s : KSpan) : List Nat := s.flatMap fun p => p.1 :: p.2.toList
def rawP (ss : List KSpan) : List Nat := 0 :: ss.flatMap cutsOf
def pointsP (ss : List KSpan) : List Nat := sortN (rawP ss)
theorem rows_K (xs : List Nat) : rowsD (xs.map eK) = some (xs.map rowK) := by
  have := rowsD_enc (xs.map rowK)
  rw [List.map_map] at this
  exact this
theorem good_K {xs : List Nat} (h : xs.length < 64) : goodRows (xs.map rowK) = true := by
  unfold goodRows
  rw [List.length_map, decide_eq_true h, Bool.true_and, List.all_eq_true]
  intro r hr
  obtain ⟨n, _, rfl⟩ := List.mem_map.mp hr
  rfl
theorem sorted_K (xs : List Nat) : (sortU (xs.map rowK)).map encR = (sortN xs).map eK := by
  rw [sortU_K, List.map_map]; rfl
theorem settle_K {xs : List Nat} (h : xs.length < 64) : settleD (.list (xs.map eK)) = some (.tuple ((sortN xs).map eK)) := by
  show ((rowsD (xs.map eK)).bind fun rs => if goodRows rs then some (PyData.tuple ((sortU rs).map encR)) else none) = _
  rw [rows_K, Option.bind_some, if_pos (good_K h), sorted_K]
theorem small_of {xs : List D} (h : xs.length ≤ 100000) : small xs = true := decide_eq_true h
/-! ### _law_points -/
theorem add_list {xs ys : List D} (h1 : xs.length ≤ 100000) (h2 : ys.length ≤ 100000) : addD (.list xs) (.list ys) = some (.list (xs ++ ys)) := by
  show (if small xs && small ys then some (PyData.list (xs ++ ys)) else none) = _
  rw [small_of h1, small_of h2]; rfl
/-- few pairs -/
def FewP (s : KSpan) : Prop := s.length ≤ 8
theorem foldl_app {α β : Type} (f : α → List β) : ∀ (l : List α) (b : List β), l.foldl (fun b x => b ++ f x) b = b ++ l.flatMap f
  | [], b => by simp
  | x :: l, b => by rw [List.foldl_cons, foldl_app f l, List.flatMap_cons, List.append_assoc]
def cut1 (p : Nat × Option Nat) : List Nat := p.1 :: p.2.toList
theorem cut1_len (p : Nat × Option Nat) : (cut1 p).length ≤ 2 := by
  obtain ⟨a, o⟩ := p
  cases o <;> simp [cut1]
theorem cuts_len (s : KSpan) : (cutsOf s).length ≤ 2 * s.length := by
  induction s with
  | nil => exact Nat.le_refl _
  | cons p s ih =>
    show (cut1 p ++ cutsOf s).length ≤ _
    have := cut1_len p
    rw [List.length_append, List.length_cons]
    omega
theorem raw_len {ss : List KSpan} (h : ∀ s ∈ ss, FewP s) : (ss.flatMap cutsOf).length ≤ 16 * ss.length := by
  induction ss with
  | nil => exact Nat.le_refl _
  | cons s ss ih =>
    have h1 := cuts_len s
    have h2 : s.length ≤ 8 := h s (List.mem_cons_self ..)
    have h3 := ih fun x hx => h x (List.mem_cons_of_mem _ hx)
    rw [List.flatMap_cons, List.length_append, List.length_cons]
    omega
theorem Lpoints_K (ss : List KSpan) (h : ∀ s ∈ ss, FewP s) (h2 : ss.length ≤ 3) : m_Lpoints [.list (ss.map eKS)] = some (.tuple ((pointsP ss).map eK)) := by
  have hl := raw_len h
  refine ev_run ?_
  refine ev_seq (ds' := [.d (.list (ss.map eKS)), .d (.list ([0].map eK)), .no, .no, .no]) rfl ?_
  obtain ⟨ds', h1, h2⟩ := ev_for (ds := [.d (.list (ss.map eKS)), .d (.list ([0].map eK)), .no, .no, .no]) (fi := fSeq (fV 0)) (t := .name 2) (enc := eKS) (l := ss) (b := [0])
    (fun k b ds => b.length ≤ 1 + 16 * k ∧ ∃ a2 a3 a4, ds = [.d (.list (ss.map eKS)), .d (.list (b.map eK)), a2, a3, a4]) (fun b s => b ++ cutsOf s)
    (body := (gFor (fSeq (fV 2)) (.tup [3, 4]) (gAsg (.name 1) (f2 addD (f2 addD (fV 1) (fLst (faC (fV 3) faN))) (fIf (asB (f2 isND (fV 4) (fC .none))) (fLst faN) (fLst (faC (fV 4) faN)))))))
    rfl ⟨Nat.le_refl _, _, _, _, rfl⟩ (fun k b s ds hk hs ⟨hb, a2, a3, a4, e⟩ => by
      subst e
      have h8 : s.length ≤ 8 := h s hs
      obtain ⟨ds', h3, h4, a5, a6, h5⟩ := ev_for (ds := [.d (.list (ss.map eKS)), .d (.list (b.map eK)), .d (eKS s), a3, a4]) (fi := fSeq (fV 2)) (t := .tup [3, 4]) (enc := eKP) (l := s) (b := b)
        (fun j b ds => b.length ≤ 1 + 16 * k + 2 * j ∧ ∃ a3 a4, ds = [.d (.list (ss.map eKS)), .d (.list (b.map eK)), .d (eKS s), a3, a4]) (fun b p => b ++ cut1 p)
        (body := (gAsg (.name 1) (f2 addD (f2 addD (fV 1) (fLst (faC (fV 3) faN))) (fIf (asB (f2 isND (fV 4) (fC .none))) (fLst faN) (fLst (faC (fV 4) faN))))))
        rfl ⟨hb, _, _, rfl⟩ (fun j b p ds hj hp ⟨hb, a3, a4, e⟩ => by
          subst e
          obtain ⟨lo, hi⟩ := p
          refine ⟨_, [.d (.list (ss.map eKS)), .d (.list ((b ++ cut1 (lo, hi)).map eK)), .d (eKS s), .d (eK lo), .d (eKO hi)], rfl, ?_, ?_, _, _, rfl⟩
          · refine ev_asg (d := .list ((b ++ cut1 (lo, hi)).map eK)) (ev_f2 (ev_f2 (e := .list [eK lo]) rfl rfl (add_list (by rw [List.length_map]; omega) (show (1 : Nat) ≤ 100000 by decide))) (e := .list (hi.toList.map eK)) (by cases hi <;> rfl) ((add_list ?_ ?_).trans ?_)) rfl
            · rw [List.length_append, List.length_map]; show b.length + 1 ≤ 100000; omega
            · rw [List.length_map]; cases hi <;> simp
            · rw [List.append_assoc, List.map_append]; rfl
          · have := cut1_len (lo, hi)
            rw [List.length_append]; omega)
      refine ⟨_, ds', rfl, h3, ?_, ?_⟩
      · rw [List.length_append]
        have := cuts_len s
        omega
      · rw [foldl_app cut1] at h5
        exact ⟨_, _, _, h5⟩)
  obtain ⟨h3, a2, a3, a4, h4⟩ := h2
  rw [foldl_app cutsOf] at h4
  refine ev_seq h1 ?_
  subst h4
  refine ev_ret (ev_call (xs := [.list ((rawP ss).map eK)]) rfl (ev_run (ev_ret (ev_f1 (d := .list ((rawP ss).map eK)) rfl (settle_K ?_)))))
  show (0 :: ss.flatMap cutsOf).length < 64
  rw [List.length_cons]; omega
/-! ### cuts_in -/
def addU (b : List Nat) (k : Nat) : List Nat := if k ∈ b then b else b ++ [k]
theorem addU_K (b : List Nat) (k : Nat) : (if rowK k ∈ b.map rowK then b.map rowK else b.map rowK ++ [rowK k]) = (addU b k).map rowK := by
  have h : rowK k ∈ b.map rowK ↔ k ∈ b := by
    constructor
    · intro h
      obtain ⟨j, h1, h2⟩ := List.mem_map.mp h
      rw [← (rowK_inj j k).mp h2]; exact h1
    · exact fun h => List.mem_map.mpr ⟨k, h, rfl⟩
  unfold addU
  by_cases c : k ∈ b
  · rw [if_pos (h.mpr c), if_pos c]
  · rw [if_neg (fun z => c (h.mp z)), if_neg c, List.map_append]; rfl
theorem mem_addU {b : List Nat} {k x : Nat} : x ∈ addU b k ↔ x ∈ b ∨ x = k := by
  unfold addU
  split
  · rename_i h
    constructor
    · exact .inl
    · rintro (h1 | rfl)
      · exact h1
      · exact h
  · simp
theorem addU_len (b : List Nat) (k : Nat) : (addU b k).length ≤ b.length + 1 := by
  unfold addU
  split
  · omega
  · rw [List.length_append]; exact Nat.le_refl _
theorem put_K {i : Nat} {f : Fe} {ds : List Slot} {b : List Nat} {k : Nat} (h : ds[i]? = some (.m (b.map rowK))) (hl : b.length < 100000) (hf : f ds = some (eK k)) : gPutM i f ds = some (.nx (ds.set i (.m ((addU b k).map rowK)))) := by
  unfold gPutM
  rw [h]
  show (if decide ((b.map rowK).length < 100000) = true then (f ds).bind fun y => (rowD y).bind fun k => some (Res.nx (ds.set i (.m (if k ∈ b.map rowK then b.map rowK else b.map rowK ++ [k])))) else none) = _
  rw [if_pos (decide_eq_true (by rw [List.length_map]; exact hl)), hf, Option.bind_some, show rowD (eK k) = some (rowK k) from rowD_enc _, Option.bind_some, addU_K]
def addP (b : List Nat) (p : Nat × Option Nat) : List Nat := (cut1 p).foldl addU b
theorem addP_len (b : List Nat) (p : Nat × Option Nat) : (addP b p).length ≤ b.length + 2 := by
  obtain ⟨lo, hi⟩ := p
  have h1 := addU_len b lo
  cases hi with
  | none => show (addU b lo).length ≤ _; omega
  | some h =>
    have h2 := addU_len (addU b lo) h
    show (addU (addU b lo) h).length ≤ _; omega
def addS (b : List Nat) (s : KSpan) : List Nat := s.foldl addP b
theorem mem_addP {b : List Nat} {p : Nat × Option Nat} {x : Nat} : x ∈ addP b p ↔ x ∈ b ∨ x ∈ cut1 p := by
  obtain ⟨lo, hi⟩ := p
  cases hi with
  | none =>
    show x ∈ addU b lo ↔ x ∈ b ∨ x ∈ [lo]
    rw [mem_addU, List.mem_singleton]
  | some h =>
    show x ∈ addU (addU b lo) h ↔ x ∈ b ∨ x ∈ [lo, h]
    rw [mem_addU, mem_addU, or_assoc]; simp
theorem mem_addS {x : Nat} : ∀ {s : KSpan} {b : List Nat}, x ∈ addS b s ↔ x ∈ b ∨ x ∈ cutsOf s
  | [], b => by simp [addS, cutsOf]
  | p :: s, b => by
    show x ∈ addS (addP b p) s ↔ x ∈ b ∨ x ∈ cut1 p ++ cutsOf s
    rw [mem_addS, mem_addP, List.mem_append, or_assoc]
theorem mem_addSS {x : Nat} : ∀ {ss : List KSpan} {b : List Nat}, x ∈ ss.foldl addS b ↔ x ∈ b ∨ x ∈ ss.flatMap cutsOf
  | [], b => by simp
  | s :: ss, b => by
    rw [List.foldl_cons, mem_addSS, mem_addS, List.flatMap_cons, List.mem_append, or_assoc]
/-- strictly ascending lists of one set are one list -/
theorem sortU_same {xs ys : List Row} (h : ∀ x, x ∈ xs ↔ x ∈ ys) : sortU xs = sortU ys :=
  asc_one (sortU_sorted xs) (sortU_sorted ys) fun x => by rw [mem_sortU, mem_sortU]; exact h x
theorem cuts_in_K (ss : List KSpan) (h : ∀ s ∈ ss, FewP s) (h2 : ss.length ≤ 3) : m_cuts_in [.tuple (ss.map eKS)] = some (.list ((pointsP ss).map eK)) := by
  refine ev_run ?_
  refine ev_seq (ds' := [.d (.tuple (ss.map eKS)), .m ([0].map rowK), .no, .no, .no]) rfl ?_
  obtain ⟨ds', h1, h3, a2, a3, a4, h4⟩ := ev_for (ds := [.d (.tuple (ss.map eKS)), .m ([0].map rowK), .no, .no, .no]) (fi := fSeq (fV 0)) (t := .name 2) (enc := eKS) (l := ss) (b := [0])
    (fun k b ds => b.length ≤ 1 + 16 * k ∧ ∃ a2 a3 a4, ds = [.d (.tuple (ss.map eKS)), .m (b.map rowK), a2, a3, a4]) addS
    (body := (gFor (fSeq (fV 2)) (.tup [3, 4]) (gSeq (gPutM 1 (fV 3)) (gIf (asB (f2 notND (fV 4) (fC .none))) (gPutM 1 (fV 4)) gNx))))
    rfl ⟨Nat.le_refl _, _, _, _, rfl⟩ (fun k b s ds hk hs ⟨hb, a2, a3, a4, e⟩ => by
      subst e
      have h8 : s.length ≤ 8 := h s hs
      obtain ⟨ds', h3, h4, a5, a6, h5⟩ := ev_for (ds := [.d (.tuple (ss.map eKS)), .m (b.map rowK), .d (eKS s), a3, a4]) (fi := fSeq (fV 2)) (t := .tup [3, 4]) (enc := eKP) (l := s) (b := b)
        (fun j b ds => b.length ≤ 1 + 16 * k + 2 * j ∧ ∃ a3 a4, ds = [.d (.tuple (ss.map eKS)), .m (b.map rowK), .d (eKS s), a3, a4]) addP
        (body := (gSeq (gPutM 1 (fV 3)) (gIf (asB (f2 notND (fV 4) (fC .none))) (gPutM 1 (fV 4)) gNx)))
        rfl ⟨hb, _, _, rfl⟩ (fun j b p ds hj hp ⟨hb, a3, a4, e⟩ => by
          subst e
          obtain ⟨lo, hi⟩ := p
          have l1 := addU_len b lo
          have l2 := addP_len b (lo, hi)
          refine ⟨_, [.d (.tuple (ss.map eKS)), .m ((addP b (lo, hi)).map rowK), .d (eKS s), .d (eK lo), .d (eKO hi)], rfl, ?_, by omega, _, _, rfl⟩
          refine ev_seq (put_K (b := b) (k := lo) rfl (by omega) rfl) ?_
          cases hi with
          | none => rfl
          | some hi => exact ev_if (x := true) rfl (fun _ => put_K (b := addU b lo) (k := hi) rfl (by omega) rfl) (fun z => nomatch z))
      exact ⟨_, ds', rfl, h3, (by show (s.foldl addP b).length ≤ _; omega), _, _, _, h5⟩)
  refine ev_seq h1 ?_
  subst h4
  refine ev_ret ?_
  show (if goodRows ((ss.foldl addS [0]).map rowK) then some (PyData.list ((sortU ((ss.foldl addS [0]).map rowK)).map encR)) else none) = _
  rw [if_pos (good_K (by omega))]
  rw [show sortU ((ss.foldl addS [0]).map rowK) = sortU ((rawP ss).map rowK) from sortU_same fun x => by
    simp only [List.mem_map, mem_addSS, rawP, List.mem_cons, List.not_mem_nil, or_false]]
  rw [sorted_K]; rfl
end Nf
set_option Elab.async false
set_option linter.all false
set_option maxRecDepth 100000
set_option maxHeartbeats 4000000
/-! the plain law, 3: grains, joins, flags -/
namespace Nf
open PySem PySem.Spec L2
/-! ### stretches -/
def stretchP : List Nat → KSpan
  | [] => []
  | [a] => [(a, none)]
  | a :: b :: r => (a, some b) :: stretchP (b :: r)
theorem cutL_one {α : Type} (xs : List α) : cutL xs (some 1) none = xs.drop 1 := by
  unfold cutL
  rw [HT.sIx_none, show HT.sIx xs.length 0 (some 1) = min 1 xs.length from HT.sIx_nat _ _ 1]
  cases xs with
  | nil => rfl
  | cons x xs =>
    rw [show min 1 (x :: xs).length = 1 by rw [List.length_cons]; omega]
    show (xs.take (xs.length + 1 - 1)) = xs
    exact List.take_of_length_le (by omega)
theorem pairs_st : ∀ cs : List Nat, pairs (cs.map eK) ((cs.drop 1).map eK ++ [PyData.none]) = (stretchP cs).map eKP
  | [] => rfl
  | [a] => rfl
  | a :: b :: r => by
    show PyData.tuple [eK a, eK b] :: pairs ((b :: r).map eK) (((b :: r).drop 1).map eK ++ [PyData.none]) = _
    rw [pairs_st (b :: r)]; rfl
theorem stretch_len : ∀ cs : List Nat, (stretchP cs).length = cs.length
  | [] => rfl
  | [a] => rfl
  | a :: b :: r => by
    show (stretchP (b :: r)).length + 1 = _
    rw [stretch_len (b :: r)]; rfl
theorem stretches_K (cs : List Nat) (h : cs.length ≤ 1000) : m_stretches [.list (cs.map eK)] = some (.list ((stretchP cs).map eKP)) := by
  refine ev_run (ev_ret ?_)
  show ((faC (fV 0) (faC (f2 addD (f1 (slD (some 1) none) (fV 0)) (fLst (faC (fC .none) faN))) faN)) [.d (.list (cs.map eK))]).bind zipL = _
  have hh : (faC (fV 0) (faC (f2 addD (f1 (slD (some 1) none) (fV 0)) (fLst (faC (fC .none) faN))) faN)) [.d (.list (cs.map eK))] = some [.list (cs.map eK), .list ((cs.drop 1).map eK ++ [PyData.none])] := by
    refine ev_cons rfl (ev_cons (ev_f2 (e := .list [PyData.none]) (ev_f1 (d := .list (cs.map eK)) rfl rfl) rfl ?_) ev_nil)
    show addD (.list (cutL (cs.map eK) (some 1) none)) (.list [PyData.none]) = _
    rw [cutL_one, ← List.map_drop, add_list (by rw [List.length_map, List.length_drop]; omega) (by decide)]
  rw [hh]
  · show (if small (cs.map eK) then some (PyData.list (pairs (cs.map eK) ((cs.drop 1).map eK ++ [PyData.none]))) else none) = _
    rw [if_pos (small_of (by rw [List.length_map]; omega)), pairs_st]
/-! ### the last of a list of one's own -/
theorem ix_last {α : Type} (enc : α → D) (x : α) (r : List α) : ixD (.list ((x :: r).reverse.map enc)) (.int (-1)) = some (enc x) := by
  show atI ((x :: r).reverse.map enc) (-1) = _
  unfold atI ixN
  rw [if_neg (by decide), List.length_map, List.length_reverse, List.length_cons, if_pos (by omega)]
  show ((x :: r).reverse.map enc)[(-1 + ((r.length + 1 : Nat) : Int)).toNat]? = _
  rw [show (-1 + ((r.length + 1 : Nat) : Int)).toNat = r.length by omega, List.reverse_cons, List.map_append, List.getElem?_append_right (by rw [List.length_map, List.length_reverse]; exact Nat.le_refl _)]
  rw [List.length_map, List.length_reverse, Nat.sub_self]; rfl
theorem last_K {α : Type} (enc : α → D) {i : Nat} {f : Fe} {ds : List Slot} {x y : α} {r : List α} (h : ds[i]? = some (.l ((x :: r).reverse.map enc))) (hf : f ds = some (enc y)) : gLast i f ds = some (.nx (ds.set i (.l ((y :: r).reverse.map enc)))) := by
  unfold gLast
  rw [h]
  have hl : ((x :: r).reverse.map enc).length = r.length + 1 := by rw [List.length_map, List.length_reverse, List.length_cons]
  show (if ((x :: r).reverse.map enc).length = 0 then none else (f ds).bind fun y => some (Res.nx (ds.set i (.l (((x :: r).reverse.map enc).set (((x :: r).reverse.map enc).length - 1) y))))) = _
  rw [if_neg (by omega), hf, Option.bind_some, hl, Nat.add_sub_cancel]
  congr 5
  rw [List.reverse_cons, List.map_append, List.set_append_right _ _ (by rw [List.length_map, List.length_reverse]; exact Nat.le_refl _), List.length_map, List.length_reverse, Nat.sub_self, List.reverse_cons, List.map_append]; rfl
theorem app_K {α : Type} (enc : α → D) {i : Nat} {f : Fe} {ds : List Slot} {y : α} {r : List α} (h : ds[i]? = some (.l (r.reverse.map enc))) (hl : r.length ≤ 100000) (hf : f ds = some (enc y)) : gApp i f ds = some (.nx (ds.set i (.l ((y :: r).reverse.map enc)))) := by
  unfold gApp
  rw [h]
  show (if small (r.reverse.map enc) then (f ds).bind fun y => some (Res.nx (ds.set i (.l (r.reverse.map enc ++ [y])))) else none) = _
  rw [if_pos (small_of (by rw [List.length_map, List.length_reverse]; exact hl)), hf, Option.bind_some, List.reverse_cons, List.map_append]; rfl
/-! ### grains -/
abbrev Nums := Bool × Bool
def encN (n : Nums) : D := .tuple ((if n.1 then [.int 0] else []) ++ (if n.2 then [.int 1] else []))
abbrev Grain := Nat × Option Nat × Nums
def encG (g : Grain) : D := .tuple [eK g.1, eKO g.2.1, encN g.2.2]
def beqN (a b : Nums) : Bool := (a.1 == b.1) && (a.2 == b.2)
theorem eq_N (a b : Nums) : eqD (encN a) (encN b) = some (.bool (beqN a b)) := by
  obtain ⟨a1, a2⟩ := a; obtain ⟨b1, b2⟩ := b
  cases a1 <;> cases a2 <;> cases b1 <;> cases b2 <;> rfl
theorem ok_N (n : Nums) : okD 1 (encN n) := by
  obtain ⟨a, b⟩ := n
  cases a <;> cases b <;> exact ⟨rfl, by decide⟩
theorem ok_G (g : Grain) : okD 2 (encG g) := ok_tup fun x hx => by
  simp only [List.mem_cons, List.not_mem_nil, or_false] at hx
  rcases hx with rfl | rfl | rfl
  · exact ok_K _
  · exact ok_KO _
  · exact ok_N _
theorem ok_P (p : Nat × Option Nat) : okD 2 (eKP p) := ok_tup fun x hx => by
  simp only [List.mem_cons, List.not_mem_nil, or_false] at hx
  rcases hx with rfl | rfl
  · exact ok_K _
  · exact ok_KO _
def gstep (N : Nat → Nums) (r : List Grain) (p : Nat × Option Nat) : List Grain := match r with
  | [] => [(p.1, p.2, N p.1)]
  | g :: r => bif beqN g.2.2 (N p.1) then (g.1, p.2, N p.1) :: r else (p.1, p.2, N p.1) :: g :: r
theorem gstep_len (N : Nat → Nums) (r : List Grain) (p : Nat × Option Nat) : (gstep N r p).length ≤ r.length + 1 := by
  cases r with
  | nil => exact Nat.le_refl _
  | cons g r =>
    show (bif beqN g.2.2 (N p.1) then (g.1, p.2, N p.1) :: r else (p.1, p.2, N p.1) :: g :: r).length ≤ _
    cases beqN g.2.2 (N p.1) <;> simp
theorem isEmpty_rev {α : Type} (enc : α → D) (r : List α) : (r.reverse.map enc).isEmpty = r.isEmpty := by
  cases r with
  | nil => rfl
  | cons x r => simp
def grainsP (N : Nat → Nums) (cs : List Nat) : List Grain := ((stretchP cs).foldl (gstep N) []).reverse
theorem sort_len (xs : List Nat) : (sortN xs).length ≤ xs.length := by
  induction xs with
  | nil => exact Nat.le_refl _
  | cons x xs ih =>
    show (insN x (sortN xs)).length ≤ _
    have : ∀ ys, (insN x ys).length ≤ ys.length + 1 := by
      intro ys
      induction ys with
      | nil => exact Nat.le_refl _
      | cons y ys ih =>
        unfold insN
        cases Nat.blt x y
        · cases Nat.beq x y
          · simpa using ih
          · simp
        · simp
    have := this (sortN xs)
    rw [List.length_cons]; omega
theorem points_len {ss : List KSpan} (h : ∀ s ∈ ss, FewP s) (h2 : ss.length ≤ 3) : (pointsP ss).length ≤ 49 := by
  have h1 := sort_len (rawP ss)
  have h3 := raw_len h
  unfold pointsP
  rw [show (rawP ss).length = (ss.flatMap cutsOf).length + 1 from rfl] at h1
  omega
theorem grains_in_K (ss : List KSpan) (h : ∀ s ∈ ss, FewP s) (h2 : ss.length ≤ 3) (N : Nat → Nums) (hN : ∀ v, m_spans_holding [.tuple (ss.map eKS), eK v] = some (encN (N v))) :
    m_grains_in [.tuple (ss.map eKS)] = some (.list ((grainsP N (pointsP ss)).map encG)) := by
  have hp := points_len h h2
  refine ev_run ?_
  refine ev_seq (ds' := [.d (.tuple (ss.map eKS)), .l (([] : List Grain).reverse.map encG), .no, .no, .no]) rfl ?_
  obtain ⟨ds', h1, h3, a2, a3, a4, h4⟩ := ev_for (ds := [.d (.tuple (ss.map eKS)), .l (([] : List Grain).reverse.map encG), .no, .no, .no])
    (fi := fSeq (fCall m_stretches (faC (fCall m_cuts_in (faC (fV 0) faN)) faN))) (t := .tup [2, 3]) (enc := eKP) (l := stretchP (pointsP ss)) (b := ([] : List Grain))
    (fun k b ds => b.length ≤ k ∧ ∃ a2 a3 a4, ds = [.d (.tuple (ss.map eKS)), .l (b.reverse.map encG), a2, a3, a4]) (gstep N)
    (body := (gSeq (gAsg (.name 4) (fCall m_spans_holding (faC (fV 0) (faC (fV 2) faN)))) (gIf (fAnd (asB (f2 neD (fL 1) (fLst faN))) (asB (f2 eqD (f2 ixD (f2 ixD (fL 1) (fC (.int (-1)))) (fC (.int 2))) (fV 4)))) (gLast 1 (fTup (faC (f2 ixD (f2 ixD (fL 1) (fC (.int (-1)))) (fC (.int 0))) (faC (fV 3) (faC (fV 4) faN))))) (gApp 1 (fTup (faC (fV 2) (faC (fV 3) (faC (fV 4) faN))))))))
    (ev_seqF (ev_call (ev_cons (ev_call (ev_cons rfl ev_nil) (cuts_in_K ss h h2)) ev_nil) (stretches_K _ (by omega)))) ⟨Nat.le_refl _, _, _, _, rfl⟩ (fun k b p ds hk hs ⟨hb, a2, a3, a4, e⟩ => by
      subst e
      rw [stretch_len] at hk
      obtain ⟨lo, hi⟩ := p
      refine ⟨_, [.d (.tuple (ss.map eKS)), .l ((gstep N b (lo, hi)).reverse.map encG), .d (eK lo), .d (eKO hi), .d (encN (N lo))], rfl, ?_, (Nat.le_trans (gstep_len N b (lo, hi)) (Nat.succ_le_succ hb)), _, _, _, rfl⟩
      refine ev_seq (ev_asg (d := encN (N lo)) (ev_call (ev_cons rfl (ev_cons rfl ev_nil)) (hN lo)) rfl) ?_
      cases b with
      | nil => exact ev_if (x := false) rfl (fun z => nomatch z) fun _ => app_K encG (y := (lo, hi, N lo)) (r := []) rfl (by decide) rfl
      | cons g r =>
        have e1 : ∀ ds : List Slot, ds[1]? = some (.l ((g :: r).reverse.map encG)) → f2 ixD (fL 1) (fC (.int (-1))) ds = some (encG g) := fun ds hd => ev_f2 (d := .list ((g :: r).reverse.map encG)) (by unfold fL; rw [hd]) rfl (ix_last encG g r)
        refine ev_if (x := true && beqN g.2.2 (N lo)) (ev_andT (ev_asB ((ev_f2 (d := .list ((g :: r).reverse.map encG)) rfl rfl (ne_nil (n := 2) (fun x hx => ?_) (by decide))).trans ?_)) fun _ => ev_asB (ev_f2 (ev_f2 (e1 _ rfl) rfl rfl) rfl (eq_N g.2.2 (N lo)))) (fun z => ?_) (fun z => ?_)
        · obtain ⟨g', _, rfl⟩ := List.mem_map.mp hx
          exact ok_G g'
        · rw [isEmpty_rev]; rfl
        · rw [Bool.true_and] at z
          refine (last_K encG (x := g) (y := (g.1, hi, N lo)) (r := r) rfl (ev_tup (ev_cons (ev_f2 (e1 _ rfl) rfl rfl) (ev_cons rfl (ev_cons rfl ev_nil))) rfl)).trans ?_
          show _ = some (Res.nx [.d (.tuple (ss.map eKS)), .l ((bif beqN g.2.2 (N lo) then (g.1, hi, N lo) :: r else (lo, hi, N lo) :: g :: r).reverse.map encG), .d (eK lo), .d (eKO hi), .d (encN (N lo))])
          rw [z]; rfl
        · rw [Bool.true_and] at z
          refine (app_K encG (y := (lo, hi, N lo)) (r := g :: r) rfl (by omega) rfl).trans ?_
          show _ = some (Res.nx [.d (.tuple (ss.map eKS)), .l ((bif beqN g.2.2 (N lo) then (g.1, hi, N lo) :: r else (lo, hi, N lo) :: g :: r).reverse.map encG), .d (eK lo), .d (eKO hi), .d (encN (N lo))])
          rw [z]; rfl)
  refine ev_seq h1 ?_
  subst h4
  rfl
end Nf
set_option Elab.async false
set_option linter.all false
set_option maxRecDepth 100000
set_option maxHeartbeats 4000000
/-! the plain law, 4: joins, tupled, by_rows, the law's own spans -/
namespace Nf
open PySem PySem.Spec L2
/-! ### pairs_joined -/
def jstep (r : KSpan) (p : Nat × Option Nat) : KSpan := match r with
  | [] => [p]
  | q :: r => bif beqO q.2 p.1 then (q.1, p.2) :: r else p :: q :: r
theorem jstep_len (r : KSpan) (p : Nat × Option Nat) : (jstep r p).length ≤ r.length + 1 := by
  cases r with
  | nil => exact Nat.le_refl _
  | cons g r =>
    show (bif beqO g.2 p.1 then (g.1, p.2) :: r else p :: g :: r).length ≤ _
    cases beqO g.2 p.1 <;> simp
def joinP (ps : KSpan) : KSpan := (ps.foldl jstep []).reverse
theorem joined_K (ps : KSpan) (h : ps.length ≤ 1000) : m_pairs_joined [.list (ps.map eKP)] = some (eKS (joinP ps)) := by
  refine ev_run ?_
  refine ev_seq (ds' := [.d (.list (ps.map eKP)), .l (([] : KSpan).reverse.map eKP), .no, .no]) rfl ?_
  obtain ⟨ds', h1, h3, a2, a3, h4⟩ := ev_for (ds := [.d (.list (ps.map eKP)), .l (([] : KSpan).reverse.map eKP), .no, .no])
    (fi := fSeq (fV 0)) (t := .tup [2, 3]) (enc := eKP) (l := ps) (b := ([] : KSpan))
    (fun k b ds => b.length ≤ k ∧ ∃ a2 a3, ds = [.d (.list (ps.map eKP)), .l (b.reverse.map eKP), a2, a3]) jstep
    (body := (gIf (fAnd (asB (f2 neD (fL 1) (fLst faN))) (asB (f2 eqD (f2 ixD (f2 ixD (fL 1) (fC (.int (-1)))) (fC (.int 1))) (fV 2)))) (gLast 1 (fTup (faC (f2 ixD (f2 ixD (fL 1) (fC (.int (-1)))) (fC (.int 0))) (faC (fV 3) faN)))) (gApp 1 (fTup (faC (fV 2) (faC (fV 3) faN))))))
    (ev_seqF rfl) ⟨Nat.le_refl _, _, _, rfl⟩ (fun k b p ds hk hs ⟨hb, a2, a3, e⟩ => by
      subst e
      obtain ⟨lo, hi⟩ := p
      refine ⟨_, [.d (.list (ps.map eKP)), .l ((jstep b (lo, hi)).reverse.map eKP), .d (eK lo), .d (eKO hi)], rfl, ?_, (Nat.le_trans (jstep_len b (lo, hi)) (Nat.succ_le_succ hb)), _, _, rfl⟩
      cases b with
      | nil => exact ev_if (x := false) rfl (fun z => nomatch z) fun _ => app_K eKP (y := (lo, hi)) (r := []) rfl (by decide) rfl
      | cons g r =>
        have e1 : ∀ ds : List Slot, ds[1]? = some (.l ((g :: r).reverse.map eKP)) → f2 ixD (fL 1) (fC (.int (-1))) ds = some (eKP g) := fun ds hd => ev_f2 (d := .list ((g :: r).reverse.map eKP)) (by unfold fL; rw [hd]) rfl (ix_last eKP g r)
        refine ev_if (x := true && beqO g.2 lo) (ev_andT (ev_asB ((ev_f2 (d := .list ((g :: r).reverse.map eKP)) rfl rfl (ne_nil (n := 2) (fun x hx => ?_) (by decide))).trans ?_)) fun _ => ev_asB (ev_f2 (ev_f2 (e1 _ rfl) rfl rfl) rfl (eq_KO g.2 lo))) (fun z => ?_) (fun z => ?_)
        · obtain ⟨g', _, rfl⟩ := List.mem_map.mp hx
          exact ok_P g'
        · rw [isEmpty_rev]; rfl
        · rw [Bool.true_and] at z
          refine (last_K eKP (x := g) (y := (g.1, hi)) (r := r) rfl (ev_tup (ev_cons (ev_f2 (e1 _ rfl) rfl rfl) (ev_cons rfl ev_nil)) rfl)).trans ?_
          show _ = some (Res.nx [.d (.list (ps.map eKP)), .l ((bif beqO g.2 lo then (g.1, hi) :: r else (lo, hi) :: g :: r).reverse.map eKP), .d (eK lo), .d (eKO hi)])
          rw [z]; rfl
        · rw [Bool.true_and] at z
          refine (app_K eKP (y := (lo, hi)) (r := g :: r) rfl (by omega) rfl).trans ?_
          show _ = some (Res.nx [.d (.list (ps.map eKP)), .l ((bif beqO g.2 lo then (g.1, hi) :: r else (lo, hi) :: g :: r).reverse.map eKP), .d (eK lo), .d (eKO hi)])
          rw [z]; rfl)
  refine ev_seq h1 ?_
  subst h4
  rfl
/-! ### tupled, _law_lists, _law_same -/
theorem tupled_atom {x : D} (h : (isT "list" x || isT "tuple" x) = false) (n : Nat) : m_tupled (n + 1) [x] = some x := by
  refine ev_run (ev_ret (ev_ifE (x := false) (ev_asB (ev_f1 rfl ?_)) (fun z => nomatch z) fun _ => rfl))
  show some (PyData.bool (isT "list" x || isT "tuple" x)) = _
  rw [h]
theorem tupled_seq {α : Type} {n : Nat} {e f : α → D} {l : List α} {x : D} (hx : x = .tuple (l.map f) ∨ x = .list (l.map f)) (hs : l.length ≤ 100000) (h : ∀ a ∈ l, m_tupled n [f a] = some (e a)) : m_tupled (n + 1) [x] = some (.tuple (l.map e)) := by
  rcases hx with rfl | rfl
  · exact ev_run (ev_ret (ev_ifE (x := true) rfl (fun _ => ev_call (ev_cons (ev_lcA (enc := f) (e := e) (l := l) rfl hs fun a ha => ⟨_, rfl, ev_call (ev_cons rfl ev_nil) (h a ha)⟩) ev_nil) rfl) (fun z => nomatch z)))
  · exact ev_run (ev_ret (ev_ifE (x := true) rfl (fun _ => ev_call (ev_cons (ev_lcA (enc := f) (e := e) (l := l) rfl hs fun a ha => ⟨_, rfl, ev_call (ev_cons rfl ev_nil) (h a ha)⟩) ev_nil) rfl) (fun z => nomatch z)))
theorem lists_atom {x : D} (h : (isT "list" x || isT "tuple" x) = false) (n : Nat) : m_Llists (n + 1) [x] = some x := by
  refine ev_run (ev_ret (ev_ifE (x := false) (ev_asB (ev_f1 rfl ?_)) (fun z => nomatch z) fun _ => rfl))
  show some (PyData.bool (isT "list" x || isT "tuple" x)) = _
  rw [h]
theorem lists_seq {α : Type} {n : Nat} {e f : α → D} {l : List α} (hs : l.length ≤ 100000) (h : ∀ a ∈ l, m_Llists n [f a] = some (e a)) : m_Llists (n + 1) [.tuple (l.map f)] = some (.list (l.map e)) :=
  ev_run (ev_ret (ev_ifE (x := true) rfl (fun _ => ev_lcA (enc := f) (e := e) (l := l) rfl hs fun a ha => ⟨_, rfl, ev_call (ev_cons rfl ev_nil) (h a ha)⟩) (fun z => nomatch z)))
/-- a thing and its lists -/
structure Both (n : Nat) (x y : D) : Prop where
  t : ∀ k, m_tupled (n + k) [x] = some x
  l : ∀ k, m_Llists (n + k) [x] = some y
  b : ∀ k, m_tupled (n + k) [y] = some x
theorem both_atom {x : D} (h : (isT "list" x || isT "tuple" x) = false) (n : Nat) : Both (n + 1) x x := ⟨fun k => by rw [show n + 1 + k = n + k + 1 by omega]; exact tupled_atom h _, fun k => by rw [show n + 1 + k = n + k + 1 by omega]; exact lists_atom h _, fun k => by rw [show n + 1 + k = n + k + 1 by omega]; exact tupled_atom h _⟩
theorem both_seq {α : Type} {n : Nat} {e f : α → D} {l : List α} (hs : l.length ≤ 100000) (h : ∀ a ∈ l, Both n (e a) (f a)) : Both (n + 1) (.tuple (l.map e)) (.list (l.map f)) :=
  ⟨fun k => by rw [show n + 1 + k = n + k + 1 by omega]; exact tupled_seq (.inl rfl) hs fun a ha => (h a ha).t k, fun k => by rw [show n + 1 + k = n + k + 1 by omega]; exact lists_seq hs fun a ha => (h a ha).l k,
   fun k => by rw [show n + 1 + k = n + k + 1 by omega]; exact tupled_seq (.inr rfl) hs fun a ha => (h a ha).b k⟩
def lK (n : Nat) : D := .list ((rowK n).map .int)
def lKO : Option Nat → D
  | none => .none
  | some n => lK n
def lKP (p : Nat × Option Nat) : D := .list [lK p.1, lKO p.2]
def lKS (s : KSpan) : D := .list (s.map lKP)
theorem both_K (a : Nat) : Both 2 (eK a) (lK a) := both_seq (e := .int) (f := .int) (show 4 ≤ 100000 by decide) fun _ _ => both_atom rfl 0
theorem both_KO (a : Option Nat) : Both 2 (eKO a) (lKO a) := by
  cases a with
  | none => exact both_atom rfl 1
  | some a => exact both_K a
theorem both_P (p : Nat × Option Nat) : Both 3 (eKP p) (lKP p) := both_seq (e := Prod.fst) (f := Prod.snd) (l := [(eK p.1, lK p.1), (eKO p.2, lKO p.2)]) (show 2 ≤ 100000 by decide) fun a ha => by
  simp only [List.mem_cons, List.not_mem_nil, or_false] at ha
  rcases ha with rfl | rfl
  · exact both_K _
  · exact both_KO _
theorem both_S {s : KSpan} (h : FewP s) : Both 4 (eKS s) (lKS s) := both_seq (Nat.le_trans h (by decide)) fun p _ => both_P p
theorem tup_S {s : KSpan} (h : FewP s) : m_tupled 12 [eKS s] = some (eKS s) := (both_S h).t 8
theorem tup_SS {ss : List KSpan} (h : ∀ s ∈ ss, FewP s) (h2 : ss.length ≤ 3) : m_tupled 12 [.tuple (ss.map eKS)] = some (.tuple (ss.map eKS)) := (both_seq (n := 4) (e := eKS) (f := lKS) (by omega) fun s hs => both_S (h s hs)).t 7
/-! ### by_rows -/
theorem stretch_le {ss : List KSpan} (h : ∀ s ∈ ss, FewP s) (h2 : ss.length ≤ 3) : (stretchP (pointsP ss)).length ≤ 49 := by rw [stretch_len]; exact points_len h h2
theorem fold_len {α β : Type} (f : List α → β → List α) (hf : ∀ r p, (f r p).length ≤ r.length + 1) : ∀ (l : List β) (r : List α), (l.foldl f r).length ≤ r.length + l.length
  | [], r => Nat.le_refl _
  | p :: l, r => by
    have h1 := fold_len f hf l (f r p)
    have h2 := hf r p
    rw [List.foldl_cons, List.length_cons]; omega
theorem grains_len {ss : List KSpan} (N : Nat → Nums) (h : ∀ s ∈ ss, FewP s) (h2 : ss.length ≤ 3) : (grainsP N (pointsP ss)).length ≤ 49 := by
  unfold grainsP
  have h1 := fold_len (gstep N) (gstep_len N) (stretchP (pointsP ss)) []
  have h3 := stretch_le h h2
  rw [List.length_reverse]
  have : ([] : List Grain).length = 0 := rfl
  omega
def keptP (W : Nums → Bool) (gs : List Grain) : KSpan := (gs.filter fun g => W g.2.2).map fun g => (g.1, g.2.1)
def byRowsP (N : Nat → Nums) (W : Nums → Bool) (ss : List KSpan) : KSpan := joinP (keptP W (grainsP N (pointsP ss)))
theorem by_rows_K (ss : List KSpan) (h : ∀ s ∈ ss, FewP s) (h2 : ss.length ≤ 3) (N : Nat → Nums) (hN : ∀ v, m_spans_holding [.tuple (ss.map eKS), eK v] = some (encN (N v))) (W : Nums → Bool) (w : D) (ht : m_tupled 12 [w] = some w)
    (hW : ∀ n, inD (encN n) w = some (.bool (W n))) : m_by_rows [.tuple (ss.map eKS), w] = some (eKS (byRowsP N W ss)) := by
  have hg := grains_len N h h2
  refine ev_run (ev_seq (ev_asg (d := w) (ev_call (ev_cons rfl ev_nil) ht) rfl) (ev_ret (ev_call (ev_cons (ev_lc (enc := encG) (c := fun g => W g.2.2) (e := fun g => eKP (g.1, g.2.1)) (l := grainsP N (pointsP ss)) ?_ (by omega) (fun g _ => ?_)) ev_nil) ?_)))
  · exact ev_seqF (ev_call (ev_cons rfl ev_nil) (ev_run (ev_ret (ev_call (ev_cons (ev_call (ev_cons rfl ev_nil) (tup_SS h h2)) ev_nil) (grains_in_K ss h h2 N hN)))))
  · exact ⟨_, rfl, ev_asB (ev_f2 (d := encN g.2.2) (e := w) rfl rfl (hW _)), fun _ => rfl⟩
  · have : ((grainsP N (pointsP ss)).filter fun g => W g.2.2).map (fun g => eKP (g.1, g.2.1)) = (keptP W (grainsP N (pointsP ss))).map eKP := by unfold keptP; rw [List.map_map]; rfl
    rw [this]
    refine joined_K _ ?_
    unfold keptP
    rw [List.length_map]
    exact Nat.le_trans (List.length_filter_le _ _) (by omega)
/-! ### spans_holding, for two and for one -/
theorem few_le {s : KSpan} (h : FewP s) : s.length ≤ 100000 := Nat.le_trans h (by decide)
def enP (p : Nat × KSpan) : D := .tuple [.int p.1, eKS p.2]
def numsL (v : Nat) (l : List (Nat × KSpan)) : List Nat := (l.filter fun p => heldP p.2 v).map Prod.fst
theorem holding_K {l : List (Nat × KSpan)} {x : D} {v : Nat} (hx : enumA [x] = some (l.map enP)) (h : ∀ p ∈ l, FewP p.2) (hl : l.length ≤ 100) : m_spans_holding [x, eK v] = some (.tuple ((numsL v l).map fun i : Nat => PyData.int (i : Int))) := by
  refine ev_run (ev_ret (ev_call (ev_cons (ev_lc (enc := enP) (c := fun p => heldP p.2 v) (e := fun p => .int p.1) (l := l) ?_ (by omega) (fun p hp => ?_)) ev_nil) ?_))
  · show ((faC (fV 0) faN) _).bind enumA = _
    exact hx
  · exact ⟨_, rfl, ev_asB (span_holds_K p.2 v (few_le (h p hp))), fun _ => rfl⟩
  · unfold numsL
    rw [List.map_map]; rfl
def nums2 (s1 s2 : KSpan) (v : Nat) : Nums := (heldP s1 v, heldP s2 v)
def nums1 (s : KSpan) (v : Nat) : Nums := (heldP s v, false)
theorem holding2 {s1 s2 : KSpan} (h1 : FewP s1) (h2 : FewP s2) (v : Nat) : m_spans_holding [.tuple ([s1, s2].map eKS), eK v] = some (encN (nums2 s1 s2 v)) := by
  refine (holding_K (l := [(0, s1), (1, s2)]) rfl (fun p hp => ?_) (show 2 ≤ 100 by decide)).trans ?_
  · simp only [List.mem_cons, List.not_mem_nil, or_false] at hp
    rcases hp with rfl | rfl <;> assumption
  · unfold numsL nums2
    rw [List.filter_cons, List.filter_cons]
    cases heldP s1 v <;> cases heldP s2 v <;> rfl
theorem holding1 {s : KSpan} (h : FewP s) (v : Nat) : m_spans_holding [.tuple ([s].map eKS), eK v] = some (encN (nums1 s v)) := by
  refine (holding_K (l := [(0, s)]) rfl (fun p hp => ?_) (show 1 ≤ 100 by decide)).trans ?_
  · simp only [List.mem_cons, List.not_mem_nil, or_false] at hp
    rcases hp with rfl; assumption
  · unfold numsL nums1
    rw [List.filter_cons]
    cases heldP s v <;> rfl
def wBoth (n : Nums) : Bool := n.1 && n.2
def wEither (n : Nums) : Bool := n.1 || n.2
def wOut (n : Nums) : Bool := n.1 && !n.2
def wBut (n : Nums) : Bool := !n.1 && !n.2
theorem two_few' {s1 s2 : KSpan} (h1 : FewP s1) (h2 : FewP s2) : ∀ s ∈ [s1, s2], FewP s := fun s hs => by
  simp only [List.mem_cons, List.not_mem_nil, or_false] at hs
  rcases hs with rfl | rfl <;> assumption
theorem one_few {s1 : KSpan} (h1 : FewP s1) : ∀ s ∈ [s1], FewP s := fun s hs => by
  simp only [List.mem_cons, List.not_mem_nil, or_false] at hs
  rcases hs with rfl; assumption
def bothF (s1 s2 : KSpan) : KSpan := byRowsP (nums2 s1 s2) wBoth [s1, s2]
def eitherF (s1 s2 : KSpan) : KSpan := byRowsP (nums2 s1 s2) wEither [s1, s2]
def outF (s1 s2 : KSpan) : KSpan := byRowsP (nums2 s1 s2) wOut [s1, s2]
def butF (s : KSpan) : KSpan := byRowsP (nums1 s) wBut [s]
theorem both_of_K {s1 s2 : KSpan} (h1 : FewP s1) (h2 : FewP s2) : m_both_of [eKS s1, eKS s2] = some (eKS (bothF s1 s2)) :=
  ev_run (ev_ret (ev_call (xs := [.tuple ([s1, s2].map eKS), .tuple [.tuple [.int 0, .int 1]]]) rfl (by_rows_K _ (two_few' h1 h2) (show 2 ≤ 3 by decide) _ (holding2 h1 h2) wBoth _ (by kernel_rfl) (fun n => by obtain ⟨a, b⟩ := n; cases a <;> cases b <;> rfl))))
theorem either_of_K {s1 s2 : KSpan} (h1 : FewP s1) (h2 : FewP s2) : m_either_of [eKS s1, eKS s2] = some (eKS (eitherF s1 s2)) :=
  ev_run (ev_ret (ev_call (xs := [.tuple ([s1, s2].map eKS), .tuple [.tuple [.int 0], .tuple [.int 1], .tuple [.int 0, .int 1]]]) rfl (by_rows_K _ (two_few' h1 h2) (show 2 ≤ 3 by decide) _ (holding2 h1 h2) wEither _ (by kernel_rfl) (fun n => by obtain ⟨a, b⟩ := n; cases a <;> cases b <;> rfl))))
theorem taken_out_K {s1 s2 : KSpan} (h1 : FewP s1) (h2 : FewP s2) : m_taken_out [eKS s1, eKS s2] = some (eKS (outF s1 s2)) :=
  ev_run (ev_ret (ev_call (xs := [.tuple ([s1, s2].map eKS), .tuple [.tuple [.int 0]]]) rfl (by_rows_K _ (two_few' h1 h2) (show 2 ≤ 3 by decide) _ (holding2 h1 h2) wOut _ (by kernel_rfl) (fun n => by obtain ⟨a, b⟩ := n; cases a <;> cases b <;> rfl))))
theorem all_but_K {s : KSpan} (h : FewP s) : m_all_but [eKS s] = some (eKS (butF s)) :=
  ev_run (ev_ret (ev_call (xs := [.tuple ([s].map eKS), .tuple [.tuple []]]) rfl (by_rows_K _ (one_few h) (show 1 ≤ 3 by decide) _ (holding1 h) wBut _ (by kernel_rfl) (fun n => by obtain ⟨a, b⟩ := n; cases a <;> cases b <;> rfl))))
end Nf
set_option Elab.async false
set_option linter.all false
set_option maxRecDepth 100000
set_option maxHeartbeats 4000000
/-! the plain law, 5: the law's own spans; all pairs of spans -/
namespace Nf
open PySem PySem.Spec L2
def sstep (F : Nat → Bool) (st : KSpan × Bool) (v : Nat) : KSpan × Bool :=
  (match F v, st.2 with
    | true, false => (v, none) :: st.1
    | false, true => (match st.1 with | [] => [] | p :: r => (p.1, some v) :: r)
    | _, _ => st.1, F v)
def spanOfP (F : Nat → Bool) (cs : List Nat) : KSpan := (cs.foldl (sstep F) ([], false)).1.reverse
def bothL (s1 s2 : KSpan) : KSpan := spanOfP (fun v => heldP s1 v && heldP s2 v) (pointsP [s1, s2])
def eitherL (s1 s2 : KSpan) : KSpan := spanOfP (fun v => heldP s1 v || heldP s2 v) (pointsP [s1, s2])
def butL (s : KSpan) : KSpan := spanOfP (fun v => !heldP s v) (pointsP [s])
/-! ### all spans -/
def keyR : Row → Nat
  | [a, b, c, d] => a.toNat * 4096 + b.toNat * 256 + c.toNat * 16 + (d + 9).toNat
  | _ => 0
def keyP (p : Row × Option Row) : Nat × Option Nat := (keyR p.1, p.2.map keyR)
def keyS (s : Span) : KSpan := s.map keyP
def fewK : List Nat := [2313, 4103, 4105, 4137, 4361, 8200, 8201, 8457]
def nextK (n : Nat) : Nat := n + 1 + (if n % 16 = 9 then 6 else 0)
def kAll : List KSpan := [[], [(0, none)]] ++ (fewK.flatMap fun a => [[(a, none)], [(0, some a)], [(0, some a), (nextK a, none)], [(a, some (nextK a))]] ++ (fewK.filter fun b => Nat.blt a b).flatMap fun b => [[(a, some b)], [(a, some b), (12297, none)]])
def sndOk (o : Option Row) : Bool := match o with
  | none => true
  | some r => decide (rowK (keyR r) = r)
theorem all_keys : (allSpans.all fun s => (s.all fun p => decide (rowK (keyR p.1) = p.1) && sndOk p.2) && decide (keyS s ∈ kAll)) = true := by decide +kernel
theorem few_keys : few = fewK.map rowK := by decide +kernel
def beqOO : Option Nat → Option Nat → Bool
  | none, none => true
  | some a, some b => Nat.beq a b
  | _, _ => false
def beqS : KSpan → KSpan → Bool
  | [], [] => true
  | p :: s, q :: t => Nat.beq p.1 q.1 && beqOO p.2 q.2 && beqS s t
  | _, _ => false
theorem beqOO_eq : ∀ {a b : Option Nat}, beqOO a b = true → a = b
  | none, none, _ => rfl
  | some a, some b, h => congrArg some (Nat.eq_of_beq_eq_true h)
  | none, some _, h => nomatch h
  | some _, none, h => nomatch h
theorem beqS_eq : ∀ {s t : KSpan}, beqS s t = true → s = t
  | [], [], _ => rfl
  | (a, b) :: s, (c, d) :: t, h => by
    have h' : (Nat.beq a c && beqOO b d && beqS s t) = true := h
    rw [Bool.and_eq_true, Bool.and_eq_true] at h'
    rw [Nat.eq_of_beq_eq_true h'.1.1, beqOO_eq h'.1.2, beqS_eq h'.2]
  | [], _ :: _, h => nomatch h
  | _ :: _, [], h => nomatch h
/-- every try of these two -/
def triesP (s1 s2 : KSpan) : List Nat := pointsP [s1, s2] ++ fewK
def withinP (s1 s2 : KSpan) : Bool := (triesP s1 s2).all fun v => !(heldP s1 v && !heldP s2 v)
def pairOk (s1 s2 : KSpan) : Bool :=
  beqS (bothF s1 s2) (bothL s1 s2) && beqS (bothF s2 s1) (bothL s1 s2) && beqS (eitherF s1 s2) (eitherL s1 s2) && beqS (eitherF s2 s1) (eitherL s1 s2) &&
  ((outF s1 s2).isEmpty == withinP s1 s2) && (outF (bothL s1 s2) s2).isEmpty && (outF s1 (eitherL s1 s2)).isEmpty && Nat.ble (bothL s1 s2).length 8 && Nat.ble (eitherL s1 s2).length 8
def oneOk (s : KSpan) : Bool := Nat.ble s.length 8 && Nat.ble (butL s).length 8 && beqS (butF s) (butL s) && beqS (butF (butL s)) s
theorem ones_ok : kAll.all oneOk = true := by decide +kernel
end Nf
set_option Elab.async false
set_option linter.all false
set_option maxRecDepth 100000
set_option maxHeartbeats 4000000
/-! the plain law: every pair of spans, by computation, in blocks -/
namespace Nf
theorem pairs_0 : (((kAll.drop 0).take 4).all fun s1 => kAll.all fun s2 => pairOk s1 s2) = true := by decide +kernel
theorem pairs_1 : (((kAll.drop 4).take 4).all fun s1 => kAll.all fun s2 => pairOk s1 s2) = true := by decide +kernel
theorem pairs_2 : (((kAll.drop 8).take 4).all fun s1 => kAll.all fun s2 => pairOk s1 s2) = true := by decide +kernel
theorem pairs_3 : (((kAll.drop 12).take 4).all fun s1 => kAll.all fun s2 => pairOk s1 s2) = true := by decide +kernel
theorem pairs_4 : (((kAll.drop 16).take 4).all fun s1 => kAll.all fun s2 => pairOk s1 s2) = true := by decide +kernel
theorem pairs_5 : (((kAll.drop 20).take 4).all fun s1 => kAll.all fun s2 => pairOk s1 s2) = true := by decide +kernel
theorem pairs_6 : (((kAll.drop 24).take 4).all fun s1 => kAll.all fun s2 => pairOk s1 s2) = true := by decide +kernel
theorem pairs_7 : (((kAll.drop 28).take 4).all fun s1 => kAll.all fun s2 => pairOk s1 s2) = true := by decide +kernel
theorem pairs_8 : (((kAll.drop 32).take 4).all fun s1 => kAll.all fun s2 => pairOk s1 s2) = true := by decide +kernel
theorem pairs_9 : (((kAll.drop 36).take 4).all fun s1 => kAll.all fun s2 => pairOk s1 s2) = true := by decide +kernel
theorem pairs_10 : (((kAll.drop 40).take 4).all fun s1 => kAll.all fun s2 => pairOk s1 s2) = true := by decide +kernel
theorem pairs_11 : (((kAll.drop 44).take 4).all fun s1 => kAll.all fun s2 => pairOk s1 s2) = true := by decide +kernel
theorem pairs_12 : (((kAll.drop 48).take 4).all fun s1 => kAll.all fun s2 => pairOk s1 s2) = true := by decide +kernel
theorem pairs_13 : (((kAll.drop 52).take 4).all fun s1 => kAll.all fun s2 => pairOk s1 s2) = true := by decide +kernel
theorem pairs_14 : (((kAll.drop 56).take 4).all fun s1 => kAll.all fun s2 => pairOk s1 s2) = true := by decide +kernel
theorem pairs_15 : (((kAll.drop 60).take 4).all fun s1 => kAll.all fun s2 => pairOk s1 s2) = true := by decide +kernel
theorem pairs_16 : (((kAll.drop 64).take 4).all fun s1 => kAll.all fun s2 => pairOk s1 s2) = true := by decide +kernel
theorem pairs_17 : (((kAll.drop 68).take 4).all fun s1 => kAll.all fun s2 => pairOk s1 s2) = true := by decide +kernel
theorem pairs_18 : (((kAll.drop 72).take 4).all fun s1 => kAll.all fun s2 => pairOk s1 s2) = true := by decide +kernel
theorem pairs_19 : (((kAll.drop 76).take 4).all fun s1 => kAll.all fun s2 => pairOk s1 s2) = true := by decide +kernel
theorem pairs_20 : (((kAll.drop 80).take 4).all fun s1 => kAll.all fun s2 => pairOk s1 s2) = true := by decide +kernel
theorem pairs_21 : (((kAll.drop 84).take 4).all fun s1 => kAll.all fun s2 => pairOk s1 s2) = true := by decide +kernel
theorem pairs_22 : (((kAll.drop 88).take 4).all fun s1 => kAll.all fun s2 => pairOk s1 s2) = true := by decide +kernel
theorem kAll_len : kAll.length = 90 := by decide +kernel
theorem pair_at {s1 s2 : KSpan} (h1 : s1 ∈ kAll) (h2 : s2 ∈ kAll) : pairOk s1 s2 = true := by
  obtain ⟨i, hi, rfl⟩ := List.getElem_of_mem h1
  have key : ∀ n, (((kAll.drop n).take 4).all fun s1 => kAll.all fun s2 => pairOk s1 s2) = true → n ≤ i → i < n + 4 → pairOk kAll[i] s2 = true := fun n h a b => by
    refine List.all_eq_true.mp (List.all_eq_true.mp h _ ?_) s2 h2
    refine List.mem_iff_getElem.mpr ⟨i - n, by rw [List.length_take, List.length_drop]; omega, ?_⟩
    rw [List.getElem_take, List.getElem_drop]
    congr 1; omega
  rw [kAll_len] at hi
  rcases Nat.lt_or_ge i 4 with c | c0
  · exact key 0 pairs_0 (by omega) (by omega)
  rcases Nat.lt_or_ge i 8 with c | c1
  · exact key 4 pairs_1 (by omega) (by omega)
  rcases Nat.lt_or_ge i 12 with c | c2
  · exact key 8 pairs_2 (by omega) (by omega)
  rcases Nat.lt_or_ge i 16 with c | c3
  · exact key 12 pairs_3 (by omega) (by omega)
  rcases Nat.lt_or_ge i 20 with c | c4
  · exact key 16 pairs_4 (by omega) (by omega)
  rcases Nat.lt_or_ge i 24 with c | c5
  · exact key 20 pairs_5 (by omega) (by omega)
  rcases Nat.lt_or_ge i 28 with c | c6
  · exact key 24 pairs_6 (by omega) (by omega)
  rcases Nat.lt_or_ge i 32 with c | c7
  · exact key 28 pairs_7 (by omega) (by omega)
  rcases Nat.lt_or_ge i 36 with c | c8
  · exact key 32 pairs_8 (by omega) (by omega)
  rcases Nat.lt_or_ge i 40 with c | c9
  · exact key 36 pairs_9 (by omega) (by omega)
  rcases Nat.lt_or_ge i 44 with c | c10
  · exact key 40 pairs_10 (by omega) (by omega)
  rcases Nat.lt_or_ge i 48 with c | c11
  · exact key 44 pairs_11 (by omega) (by omega)
  rcases Nat.lt_or_ge i 52 with c | c12
  · exact key 48 pairs_12 (by omega) (by omega)
  rcases Nat.lt_or_ge i 56 with c | c13
  · exact key 52 pairs_13 (by omega) (by omega)
  rcases Nat.lt_or_ge i 60 with c | c14
  · exact key 56 pairs_14 (by omega) (by omega)
  rcases Nat.lt_or_ge i 64 with c | c15
  · exact key 60 pairs_15 (by omega) (by omega)
  rcases Nat.lt_or_ge i 68 with c | c16
  · exact key 64 pairs_16 (by omega) (by omega)
  rcases Nat.lt_or_ge i 72 with c | c17
  · exact key 68 pairs_17 (by omega) (by omega)
  rcases Nat.lt_or_ge i 76 with c | c18
  · exact key 72 pairs_18 (by omega) (by omega)
  rcases Nat.lt_or_ge i 80 with c | c19
  · exact key 76 pairs_19 (by omega) (by omega)
  rcases Nat.lt_or_ge i 84 with c | c20
  · exact key 80 pairs_20 (by omega) (by omega)
  rcases Nat.lt_or_ge i 88 with c | c21
  · exact key 84 pairs_21 (by omega) (by omega)
  rcases Nat.lt_or_ge i 92 with c | c22
  · exact key 88 pairs_22 (by omega) (by omega)
  omega
end Nf
set_option Elab.async false
set_option linter.all false
set_option maxRecDepth 100000
set_option maxHeartbeats 4000000
/-! the plain law, 6: the law's own spans, the terms -/
namespace Nf
open PySem PySem.Spec L2
def flagB (f l : Bool) (r : KSpan) (v : Nat) : KSpan := match f, l with
  | true, false => (v, none) :: r
  | false, true => (match r with | [] => [] | p :: r => (p.1, some v) :: r)
  | _, _ => r
theorem sstep_eq (F : Nat → Bool) (st : KSpan × Bool) (v : Nat) : sstep F st v = (flagB (F v) st.2 st.1 v, F v) := by
  obtain ⟨r, l⟩ := st
  unfold sstep flagB
  cases F v <;> cases l <;> rfl
theorem flagB_len (f l : Bool) (r : KSpan) (v : Nat) : (flagB f l r v).length ≤ r.length + 1 := by
  cases f <;> cases l <;> cases r <;> simp [flagB]
theorem flagB_ne (f l : Bool) (r : KSpan) (v : Nat) (h : l = true → r ≠ []) (hf : f = true) : flagB f l r v ≠ [] := by
  subst hf
  cases l
  · exact List.cons_ne_nil _ _
  · exact h rfl
def encZ (F : Nat → Bool) (v : Nat) : D := .tuple [.bool (F v), eK v]
theorem pairs_Z (F : Nat → Bool) : ∀ cs : List Nat, pairs (cs.map fun v => PyData.bool (F v)) (cs.map eK) = cs.map (encZ F)
  | [] => rfl
  | c :: cs => by
    show PyData.tuple [.bool (F c), eK c] :: pairs (cs.map fun v => PyData.bool (F v)) (cs.map eK) = _
    rw [pairs_Z F cs]; rfl
def gSo : Fs := (gSeq (gIf (fAnd (asB (fV 4)) (fNot (asB (fV 3)))) (gApp 2 (fTup (faC (fV 5) (faC (fC .none) faN)))) gNx) (gSeq (gIf (fAnd (asB (fV 3)) (fNot (asB (fV 4)))) (gLast 2 (fTup (faC (f2 ixD (f2 ixD (fL 2) (fC (.int (-1)))) (fC (.int 0))) (faC (fV 5) faN)))) gNx) (gAsg (.name 3) (fV 4))))
theorem so_step (A B : Slot) (f l : Bool) (r : KSpan) (v : Nat) (h : l = true → r ≠ []) (hl : r.length ≤ 100000) :
    gSo [A, B, .l (r.reverse.map eKP), .d (.bool l), .d (.bool f), .d (eK v)] = some (.nx [A, B, .l ((flagB f l r v).reverse.map eKP), .d (.bool f), .d (.bool f), .d (eK v)]) := by
  cases f with
  | true =>
    cases l with
    | false =>
      refine ev_seq (ev_if (x := true) rfl (fun _ => app_K eKP (y := (v, none)) (r := r) rfl hl rfl) (fun z => nomatch z)) ?_
      exact ev_seq (ev_if (x := false) rfl (fun z => nomatch z) fun _ => rfl) rfl
    | true => rfl
  | false =>
    cases l with
    | false => rfl
    | true =>
      cases r with
      | nil => exact absurd rfl (h rfl)
      | cons p r =>
        refine ev_seq (ev_if (x := false) rfl (fun z => nomatch z) fun _ => rfl) ?_
        refine ev_seq (ev_if (x := true) rfl (fun _ => last_K eKP (x := p) (y := (p.1, some v)) (r := r) rfl (ev_tup (ev_cons (ev_f2 (ev_f2 (d := .list ((p :: r).reverse.map eKP)) rfl rfl (ix_last eKP p r)) rfl rfl) (ev_cons rfl ev_nil)) rfl)) (fun z => nomatch z)) ?_
        rfl
theorem span_of_K (F : Nat → Bool) (cs : List Nat) (h : cs.length ≤ 1000) : m_Lspan_of [.list (cs.map fun v => .bool (F v)), .tuple (cs.map eK)] = some (eKS (spanOfP F cs)) := by
  refine ev_run ?_
  refine ev_seq (ds' := [.d (.list (cs.map fun v => .bool (F v))), .d (.tuple (cs.map eK)), .l (([] : KSpan).reverse.map eKP), .d (.bool false), .no, .no]) rfl ?_
  obtain ⟨ds', h1, h3, h5, a4, a5, h4⟩ := ev_for (ds := [.d (.list (cs.map fun v => .bool (F v))), .d (.tuple (cs.map eK)), .l (([] : KSpan).reverse.map eKP), .d (.bool false), .no, .no])
    (fi := fZipM (faC (fV 0) (faC (fV 1) faN))) (t := .tup [4, 5]) (enc := encZ F) (l := cs) (b := (([], false) : KSpan × Bool)) (body := gSo)
    (fun k st ds => st.1.length ≤ k ∧ (st.2 = true → st.1 ≠ []) ∧ ∃ a4 a5, ds = [.d (.list (cs.map fun v => .bool (F v))), .d (.tuple (cs.map eK)), .l (st.1.reverse.map eKP), .d (.bool st.2), a4, a5]) (sstep F)
    (by show some (pairs (cs.map fun v => PyData.bool (F v)) (cs.map eK)) = _; rw [pairs_Z]) ⟨Nat.le_refl _, (fun z => nomatch z), _, _, rfl⟩ (fun k st v ds hk hs ⟨hb, hn, a4, a5, e⟩ => by
      subst e
      obtain ⟨r, l⟩ := st
      rw [sstep_eq]
      exact ⟨_, _, rfl, so_step _ _ (F v) l r v hn (by have : r.length ≤ k := hb; omega), Nat.le_trans (flagB_len _ _ _ _) (Nat.succ_le_succ hb), fun z => flagB_ne _ _ _ _ hn z, _, _, rfl⟩)
  refine ev_seq h1 ?_
  subst h4
  rfl
theorem Lboth_K {s1 s2 : KSpan} (h1 : FewP s1) (h2 : FewP s2) : m_Lspan_both [eKS s1, eKS s2] = some (eKS (bothL s1 s2)) := by
  have hp := points_len (two_few' h1 h2) (show 2 ≤ 3 by decide)
  refine ev_run (ev_seq (ev_asg (d := .tuple ((pointsP [s1, s2]).map eK)) (ev_call (xs := [.list ([s1, s2].map eKS)]) rfl (Lpoints_K _ (two_few' h1 h2) (show 2 ≤ 3 by decide))) rfl) (ev_ret (ev_call (ev_cons (ev_lcA (enc := eK) (e := fun v => .bool (heldP s1 v && heldP s2 v)) (l := pointsP [s1, s2]) rfl (by omega) fun v _ => ⟨_, rfl, ?_⟩) (ev_cons rfl ev_nil)) (span_of_K (fun v => heldP s1 v && heldP s2 v) _ (by omega)))))
  exact ev_and (ev_call (ev_cons rfl (ev_cons rfl ev_nil)) (Lheld_K s1 v (few_le h1))) fun _ => ev_call (ev_cons rfl (ev_cons rfl ev_nil)) (Lheld_K s2 v (few_le h2))
theorem Leither_K {s1 s2 : KSpan} (h1 : FewP s1) (h2 : FewP s2) : m_Lspan_either [eKS s1, eKS s2] = some (eKS (eitherL s1 s2)) := by
  have hp := points_len (two_few' h1 h2) (show 2 ≤ 3 by decide)
  refine ev_run (ev_seq (ev_asg (d := .tuple ((pointsP [s1, s2]).map eK)) (ev_call (xs := [.list ([s1, s2].map eKS)]) rfl (Lpoints_K _ (two_few' h1 h2) (show 2 ≤ 3 by decide))) rfl) (ev_ret (ev_call (ev_cons (ev_lcA (enc := eK) (e := fun v => .bool (heldP s1 v || heldP s2 v)) (l := pointsP [s1, s2]) rfl (by omega) fun v _ => ⟨_, rfl, ?_⟩) (ev_cons rfl ev_nil)) (span_of_K (fun v => heldP s1 v || heldP s2 v) _ (by omega)))))
  exact ev_or (ev_call (ev_cons rfl (ev_cons rfl ev_nil)) (Lheld_K s1 v (few_le h1))) fun _ => ev_call (ev_cons rfl (ev_cons rfl ev_nil)) (Lheld_K s2 v (few_le h2))
theorem Lbut_K {s : KSpan} (h : FewP s) : m_Lspan_but [eKS s] = some (eKS (butL s)) := by
  have hp := points_len (one_few h) (show 1 ≤ 3 by decide)
  refine ev_run (ev_seq (ev_asg (d := .tuple ((pointsP [s]).map eK)) (ev_call (xs := [.list ([s].map eKS)]) rfl (Lpoints_K _ (one_few h) (show 1 ≤ 3 by decide))) rfl) (ev_ret (ev_call (ev_cons (ev_lcA (enc := eK) (e := fun v => .bool (!heldP s v)) (l := pointsP [s]) rfl (by omega) fun v _ => ⟨_, rfl, ?_⟩) (ev_cons rfl ev_nil)) (span_of_K (fun v => !heldP s v) _ (by omega)))))
  exact ev_not (ev_call (ev_cons rfl (ev_cons rfl ev_nil)) (Lheld_K s v (few_le h)))
/-! ### terms -/
def lI (i : Nat) : D := .list [n1D i, n2D i]
def tK (i : Nat) (k : Bool) (s : KSpan) : D := .tuple [itemD i, .bool k, eKS s]
def lT (i : Nat) (k : Bool) (s : KSpan) : D := .list [lI i, .bool k, lKS s]
theorem both_2 {n : Nat} {a b c d : D} (h1 : Both n a c) (h2 : Both n b d) : Both (n + 1) (.tuple [a, b]) (.list [c, d]) := both_seq (e := Prod.fst) (f := Prod.snd) (l := [(a, c), (b, d)]) (show 2 ≤ 100000 by decide) fun x hx => by
  simp only [List.mem_cons, List.not_mem_nil, or_false] at hx
  rcases hx with rfl | rfl <;> assumption
theorem both_3 {n : Nat} {a b a' b' c c' : D} (h1 : Both n a a') (h2 : Both n b b') (h3 : Both n c c') : Both (n + 1) (.tuple [a, b, c]) (.list [a', b', c']) := both_seq (e := Prod.fst) (f := Prod.snd) (l := [(a, a'), (b, b'), (c, c')]) (show 3 ≤ 100000 by decide) fun x hx => by
  simp only [List.mem_cons, List.not_mem_nil, or_false] at hx
  rcases hx with rfl | rfl | rfl <;> assumption
theorem both_I (i : Nat) : Both 4 (itemD i) (lI i) := match i with
  | 0 => both_2 (both_atom rfl 2) (both_atom rfl 2)
  | 1 => both_2 (both_atom rfl 2) (both_atom rfl 2)
  | _ + 2 => both_2 (both_atom rfl 2) (both_atom rfl 2)
theorem both_T (i : Nat) (k : Bool) {s : KSpan} (h : FewP s) : Both 5 (tK i k s) (lT i k s) := both_3 (both_I i) (both_atom rfl 3) (both_S h)
/-- x reads as the term (i, k, s) -/
def Reads' (x : D) (i : Nat) (k : Bool) (s : KSpan) : Prop := m_tupled 12 [x] = some (tK i k s)
theorem reads_t (i : Nat) (k : Bool) {s : KSpan} (h : FewP s) : Reads' (tK i k s) i k s := (both_T i k h).t 7
theorem reads_l (i : Nat) (k : Bool) {s : KSpan} (h : FewP s) : Reads' (lT i k s) i k s := (both_T i k h).b 7
theorem lists_T (i : Nat) (k : Bool) {s : KSpan} (h : FewP s) : m_Llists 12 [tK i k s] = some (lT i k s) := (both_T i k h).l 7
theorem ne_items {i j : Nat} (hi : i < 3) (hj : j < 3) : neD (itemD i) (itemD j) = some (.bool (decide (i ≠ j))) := by
  have : i = 0 ∨ i = 1 ∨ i = 2 := by omega
  have : j = 0 ∨ j = 1 ∨ j = 2 := by omega
  rcases ‹i = 0 ∨ i = 1 ∨ i = 2› with rfl | rfl | rfl <;> rcases ‹j = 0 ∨ j = 1 ∨ j = 2› with rfl | rfl | rfl <;> kernel_rfl
theorem evx_seq {a b : Fx} {ds ds' : List Slot} {r : Option ResX} (h1 : a ds = some (.nx ds')) (h2 : b ds' = r) : gXSeq a b ds = r := by unfold gXSeq; rw [h1]; exact h2
theorem evx_er {a b : Fx} {ds : List Slot} (h1 : a ds = some .er) : gXSeq a b ds = some .er := by unfold gXSeq; rw [h1]
theorem evx_if {c : Fb} {a b : Fx} {ds : List Slot} {r : Option ResX} {x : Bool} (h1 : c ds = some x) (h2 : x = true → a ds = r) (h3 : x = false → b ds = r) : gXIf c a b ds = r := by
  unfold gXIf; rw [h1]
  cases x with
  | false => exact h3 rfl
  | true => exact h2 rfl
theorem evx_of {g : Fs} {ds ds' : List Slot} (h : g ds = some (.nx ds')) : gX g ds = some (.nx ds') := by unfold gX; rw [h]; rfl
theorem evx_rt {g : Fs} {ds : List Slot} {d : D} (h : g ds = some (.rt d)) : gX g ds = some (.rt d) := by unfold gX; rw [h]; rfl
theorem evx_run {g : Fx} {k : Nat} {xs : List D} {d : D} (h : g (startD xs k) = some (.rt d)) : runX g k xs = some (some d) := by unfold runX; rw [h]; rfl
theorem evx_runE {g : Fx} {k : Nat} {xs : List D} (h : g (startD xs k) = some .er) : runX g k xs = some none := by unfold runX; rw [h]; rfl
theorem evx_asg {t : Tgt} {m : List D → Option (Option D)} {g : Fa} {ds ds' : List Slot} {xs : List D} {d : D} (h1 : g ds = some xs) (h2 : m xs = some (some d)) (h3 : bindD t d ds = some ds') : gXAsg t m g ds = some (.nx ds') := by
  unfold gXAsg; rw [h1, Option.bind_some, h2, Option.bind_some]
  show (bindD t d ds).map ResX.nx = _
  rw [h3]; rfl
theorem evx_asgE {t : Tgt} {m : List D → Option (Option D)} {g : Fa} {ds : List Slot} {xs : List D} (h1 : g ds = some xs) (h2 : m xs = some none) : gXAsg t m g ds = some .er := by
  unfold gXAsg; rw [h1, Option.bind_some, h2]; rfl
section
variable {x y : D} {i j : Nat} {k1 k2 : Bool} {s1 s2 : KSpan}
theorem par_K {ds : List Slot} {a b : Fe} {i j : Nat} {x y : D} (h1 : a ds = some x) (h2 : b ds = some y) : gPar i j a b ds = some (.nx ((ds.set i (.d x)).set j (.d y))) := by unfold gPar; rw [h1, Option.bind_some, h2]; rfl
theorem one_item_K (hx : Reads' x i k1 s1) (hy : Reads' y i k2 s2) (hi : i < 3) : m_of_one_item [x, y] = some (some (.tuple [tK i k1 s1, tK i k2 s2])) := by
  refine evx_run (evx_seq (evx_of (par_K (x := tK i k1 s1) (y := tK i k2 s2) (ev_call (ev_cons rfl ev_nil) hx) (ev_call (ev_cons rfl ev_nil) hy))) (evx_seq (evx_if (x := false) (ev_asB ?_) (fun z => nomatch z) fun _ => rfl) rfl))
  refine (ev_f2 rfl rfl (ne_items hi hi)).trans ?_
  rw [show decide (i ≠ i) = false from decide_eq_false (fun h => h rfl)]
theorem one_item_no (hx : Reads' x i k1 s1) (hy : Reads' y j k2 s2) (hi : i < 3) (hj : j < 3) (hij : i ≠ j) : m_of_one_item [x, y] = some none := by
  refine evx_runE (evx_seq (evx_of (par_K (x := tK i k1 s1) (y := tK j k2 s2) (ev_call (ev_cons rfl ev_nil) hx) (ev_call (ev_cons rfl ev_nil) hy))) (evx_er (evx_if (x := true) (ev_asB ?_) (fun _ => rfl) (fun z => nomatch z))))
  refine (ev_f2 rfl rfl (ne_items hi hj)).trans ?_
  rw [decide_eq_true hij]
theorem both_term (hx : Reads' x i k1 s1) (hy : Reads' y i k2 s2) (hi : i < 3) (h1 : FewP s1) (h2 : FewP s2) : m_term_both [x, y] = some (some (tK i (k1 && k2) (bothF s1 s2))) :=
  evx_run (evx_seq (evx_asg (ev_cons rfl (ev_cons rfl ev_nil)) (one_item_K hx hy hi) rfl) (evx_rt (ev_ret (ev_tup (ev_cons rfl (ev_cons (ev_and rfl fun _ => rfl) (ev_cons (ev_call (ev_cons rfl (ev_cons rfl ev_nil)) (both_of_K h1 h2)) ev_nil))) rfl))))
theorem either_term (hx : Reads' x i k1 s1) (hy : Reads' y i k2 s2) (hi : i < 3) (h1 : FewP s1) (h2 : FewP s2) : m_term_either [x, y] = some (some (tK i (k1 || k2) (eitherF s1 s2))) :=
  evx_run (evx_seq (evx_asg (ev_cons rfl (ev_cons rfl ev_nil)) (one_item_K hx hy hi) rfl) (evx_rt (ev_ret (ev_tup (ev_cons rfl (ev_cons (ev_or rfl fun _ => rfl) (ev_cons (ev_call (ev_cons rfl (ev_cons rfl ev_nil)) (either_of_K h1 h2)) ev_nil))) rfl))))
theorem is_inside_K (h1 : FewP s1) (h2 : FewP s2) : m_is_inside [eKS s1, eKS s2] = some (.bool (outF s1 s2).isEmpty) := by
  refine ev_run (ev_ret (ev_f2 (ev_call (ev_cons rfl (ev_cons rfl ev_nil)) (taken_out_K h1 h2)) rfl ?_))
  unfold eqD
  rw [show SeqAt.shaped (eKS (outF s1 s2)) = true from ok_sh (ok_tup (n := 2) fun x hx => by obtain ⟨p, _, rfl⟩ := List.mem_map.mp hx; exact ok_P p) (by decide)]
  cases outF s1 s2 <;> rfl
theorem inside_term (hx : Reads' x i k1 s1) (hy : Reads' y i k2 s2) (hi : i < 3) (h1 : FewP s1) (h2 : FewP s2) : m_term_inside [x, y] = some (some (.bool ((k2 || !k1) && (outF s1 s2).isEmpty))) :=
  evx_run (evx_seq (evx_asg (ev_cons rfl (ev_cons rfl ev_nil)) (one_item_K hx hy hi) rfl) (evx_rt (ev_ret (ev_and (ev_or rfl fun _ => ev_not rfl) fun _ => ev_call (ev_cons rfl (ev_cons rfl ev_nil)) (is_inside_K h1 h2)))))
theorem both_no (hx : Reads' x i k1 s1) (hy : Reads' y j k2 s2) (hi : i < 3) (hj : j < 3) (hij : i ≠ j) : m_term_both [x, y] = some none := evx_runE (evx_er (evx_asgE (ev_cons rfl (ev_cons rfl ev_nil)) (one_item_no hx hy hi hj hij)))
theorem either_no (hx : Reads' x i k1 s1) (hy : Reads' y j k2 s2) (hi : i < 3) (hj : j < 3) (hij : i ≠ j) : m_term_either [x, y] = some none := evx_runE (evx_er (evx_asgE (ev_cons rfl (ev_cons rfl ev_nil)) (one_item_no hx hy hi hj hij)))
theorem inside_no (hx : Reads' x i k1 s1) (hy : Reads' y j k2 s2) (hi : i < 3) (hj : j < 3) (hij : i ≠ j) : m_term_inside [x, y] = some none := evx_runE (evx_er (evx_asgE (ev_cons rfl (ev_cons rfl ev_nil)) (one_item_no hx hy hi hj hij)))
theorem not_term (hx : Reads' x i k1 s1) (h1 : FewP s1) : m_term_not [x] = some (tK i (!k1) (butF s1)) :=
  ev_run (ev_seq (ev_asg (d := tK i k1 s1) (ev_call (ev_cons rfl ev_nil) hx) rfl) (ev_ret (ev_tup (ev_cons rfl (ev_cons (ev_not rfl) (ev_cons (ev_call (ev_cons rfl ev_nil) (all_but_K h1)) ev_nil))) rfl)))
def standsP (k : Bool) (s : KSpan) : Option Nat → Bool
  | none => k
  | some v => heldP s v
theorem stands_K (h1 : FewP s1) (o : Option Nat) : m_Lstands [tK i k1 s1, eKO o] = some (.bool (standsP k1 s1 o)) := by
  cases o with
  | none => exact ev_run (ev_ret (ev_ifE (x := true) rfl (fun _ => rfl) (fun z => nomatch z)))
  | some v => exact ev_run (ev_ret (ev_ifE (x := false) rfl (fun z => nomatch z) fun _ => ev_call (ev_cons rfl (ev_cons rfl ev_nil)) (Lheld_K s1 v (few_le h1))))
theorem in_range_K (h1 : FewP s1) (v : Nat) : m_in_range [eKS s1, eK v] = some (.bool (heldP s1 v)) :=
  ev_run (ev_ret (ev_call (ev_cons (ev_call (ev_cons rfl ev_nil) (tup_S h1)) (ev_cons (ev_call (ev_cons rfl ev_nil) ((both_K v).t 10)) ev_nil)) (span_holds_K s1 v (few_le h1))))
theorem holds_K (h1 : FewP s1) (o : Option Nat) : m_term_holds [tK i k1 s1, eKO o] = some (.bool (standsP k1 s1 o)) := by
  refine ev_run (ev_seq (par_K (x := tK i k1 s1) (y := eKO o) (ev_call (ev_cons rfl ev_nil) (reads_t i k1 h1)) (ev_call (ev_cons rfl ev_nil) ((both_KO o).t 10))) (ev_ret ?_))
  cases o with
  | none => exact ev_ifE (x := true) rfl (fun _ => rfl) (fun z => nomatch z)
  | some v => exact ev_ifE (x := false) rfl (fun z => nomatch z) fun _ => ev_call (ev_cons rfl (ev_cons rfl ev_nil)) (in_range_K h1 v)
def triesO (s1 s2 : KSpan) : List (Option Nat) := none :: (triesP s1 s2).map some
theorem tries_len (h1 : FewP s1) (h2 : FewP s2) : (triesO s1 s2).length ≤ 100 := by
  have hp := points_len (two_few' h1 h2) (show 2 ≤ 3 by decide)
  unfold triesO triesP
  rw [List.length_cons, List.length_map, List.length_append]
  have : fewK.length = 8 := rfl
  omega
theorem tries_K (h1 : FewP s1) (h2 : FewP s2) : m_Ltries [tK i k1 s1, tK i k2 s2] = some (.list ((triesO s1 s2).map eKO)) := by
  have hp := points_len (two_few' h1 h2) (show 2 ≤ 3 by decide)
  refine ev_run (ev_ret ?_)
  refine ev_f2 (ev_f2 (d := .list [PyData.none]) rfl (ev_call (ev_cons (ev_call (xs := [.list ([s1, s2].map eKS)]) rfl (Lpoints_K _ (two_few' h1 h2) (show 2 ≤ 3 by decide))) ev_nil) rfl) (add_list (by decide) (by rw [List.length_map]; omega))) (ev_call rfl few_is) ((add_list ?_ (by decide)).trans ?_)
  · rw [List.length_append, List.length_map]
    show 1 + (pointsP [s1, s2]).length ≤ 100000; omega
  · rw [few_keys]
    unfold triesO triesP
    simp only [List.map_append, List.map_cons, List.map_map, List.cons_append, List.nil_append]
    rfl
end
end Nf
set_option Elab.async false
set_option linter.all false
set_option maxRecDepth 100000
set_option maxHeartbeats 4000000
/-! the plain law, 7: the middle -/
namespace Nf
open PySem PySem.Spec L2
/-! ### _law_same of one thing -/
def Sa (n : Nat) (x : D) : Prop := ∀ k, m_Lsame (n + k) [x, x] = some (.bool true)
theorem eq_nat (a : Nat) : eqD (.int a) (.int a) = some (.bool true) := by
  show some (PyData.bool ((a : Int) == (a : Int))) = _
  rw [beq_self_eq_true]
theorem eq_int (a : Int) : eqD (.int a) (.int a) = some (.bool true) := by
  show some (PyData.bool (a == a)) = _
  rw [beq_self_eq_true]
theorem pairs_self : ∀ xs : List D, pairs xs xs = xs.map fun x => .tuple [x, x]
  | [] => rfl
  | x :: xs => by
    show PyData.tuple [x, x] :: pairs xs xs = _
    rw [pairs_self xs]; rfl
theorem all_true (l : List D) : allM [.list (l.map fun _ => .bool true)] = some (.bool true) := by
  show (bools (l.map fun _ => PyData.bool true)).map _ = _
  have : (l.map fun _ => PyData.bool true) = (l.map fun _ => true).map .bool := by rw [List.map_map]; rfl
  rw [this, bools_map]
  show some (PyData.bool ((l.map fun _ => true).all id)) = _
  congr 2
  rw [List.all_map]
  exact List.all_eq_true.mpr fun _ _ => rfl
theorem ev_seqR {ds : List Slot} {g g' : Fs} {d : D} (h : g ds = some (.rt d)) : gSeq g g' ds = some (.rt d) := by unfold gSeq; rw [h]
theorem same_zip {n k : Nat} {xs : List D} {fi : Fi} {own : List Nat} {ds : List Slot} (hi : fi ds = some (pairs xs xs)) (hs : xs.length ≤ 100000) (h : ∀ x ∈ xs, Sa n x)
    (hb : ∀ x, ∃ ds', bindD (.tup [2, 3]) (.tuple [x, x]) (wipeD ds own) = some ds' ∧ (faC (fV 2) (faC (fV 3) faN)) ds' = some [x, x]) : fCall allM (faC (fLc fi (.tup [2, 3]) fYes (fCall (m_Lsame (n + k)) (faC (fV 2) (faC (fV 3) faN))) own) faN) ds = some (.bool true) := by
  rw [pairs_self] at hi
  refine ev_call (ev_cons (ev_lcA (e := fun _ => .bool true) hi hs fun x hx => ?_) ev_nil) (all_true xs)
  obtain ⟨ds', h1, h2⟩ := hb x
  exact ⟨ds', h1, ev_call h2 (h x hx k)⟩
theorem same_list {n : Nat} {xs : List D} (hs : xs.length ≤ 100000) (h : ∀ x ∈ xs, Sa n x) : Sa (n + 1) (.list xs) := fun k => by
  rw [show n + 1 + k = n + k + 1 by omega]
  refine ev_run (ev_seqR (ev_if (x := true) rfl (fun _ => ev_seq (ev_if (x := false) rfl (fun z => nomatch z) fun _ => rfl) (ev_ret ?_)) (fun z => nomatch z)))
  exact ev_and (x := true) (ev_f2 rfl rfl (eq_nat xs.length)) fun _ => same_zip (xs := xs) rfl hs h fun x => ⟨_, rfl, rfl⟩
theorem same_tup {n : Nat} {xs : List D} (hs : xs.length ≤ 100000) (h : ∀ x ∈ xs, Sa n x) : Sa (n + 1) (.tuple xs) := fun k => by
  rw [show n + 1 + k = n + k + 1 by omega]
  refine ev_run (ev_seqR (ev_if (x := true) rfl (fun _ => ev_seq (ev_if (x := false) rfl (fun z => nomatch z) fun _ => rfl) (ev_ret ?_)) (fun z => nomatch z)))
  exact ev_and (x := true) (ev_f2 rfl rfl (eq_nat xs.length)) fun _ => same_zip (xs := xs) rfl hs h fun x => ⟨_, rfl, rfl⟩
theorem same_none (n : Nat) : Sa (n + 1) .none := fun k => by rw [show n + 1 + k = n + k + 1 by omega]; rfl
theorem same_bool (n : Nat) (b : Bool) : Sa (n + 1) (.bool b) := fun k => by rw [show n + 1 + k = n + k + 1 by omega]; cases b <;> rfl
theorem same_int (n : Nat) (a : Int) : Sa (n + 1) (.int a) := fun k => by
  rw [show n + 1 + k = n + k + 1 by omega]
  exact ev_run (ev_seq (ev_if (x := false) rfl (fun z => nomatch z) fun _ => rfl) (ev_seq (ev_if (x := false) rfl (fun z => nomatch z) fun _ => rfl) (ev_ret (ev_and (x := true) (y := true) rfl fun _ => ev_and (x := true) (y := true) rfl fun _ => ev_f2 rfl rfl (eq_int a)))))
theorem same_str (n : Nat) {s : Str} (h : eqD (.str s) (.str s) = some (.bool true)) : Sa (n + 1) (.str s) := fun k => by
  rw [show n + 1 + k = n + k + 1 by omega]
  exact ev_run (ev_seq (ev_if (x := false) rfl (fun z => nomatch z) fun _ => rfl) (ev_seqR (ev_if (x := true) rfl (fun _ => ev_ret (ev_and (x := true) (y := true) (ev_f2 rfl rfl h) fun _ => rfl)) (fun z => nomatch z))))
theorem same_K (a : Nat) : Sa 2 (eK a) := same_tup (show 4 ≤ 100000 by decide) fun x hx => by
  obtain ⟨i, _, rfl⟩ := List.mem_map.mp hx
  exact same_int 0 i
theorem same_KO (a : Option Nat) : Sa 2 (eKO a) := by
  cases a with
  | none => exact same_none 1
  | some a => exact same_K a
theorem same_P (p : Nat × Option Nat) : Sa 3 (eKP p) := same_tup (show 2 ≤ 100000 by decide) fun x hx => by
  simp only [List.mem_cons, List.not_mem_nil, or_false] at hx
  rcases hx with rfl | rfl
  · exact same_K _
  · exact same_KO _
theorem same_S {s : KSpan} (h : FewP s) : Sa 4 (eKS s) := same_tup (by rw [List.length_map]; exact few_le h) fun x hx => by
  obtain ⟨p, _, rfl⟩ := List.mem_map.mp hx
  exact same_P p
theorem same_I (i : Nat) : Sa 4 (itemD i) := by
  have key : ∀ a b : Str, eqD (.str a) (.str a) = some (.bool true) → eqD (.str b) (.str b) = some (.bool true) → Sa 4 (.tuple [.str a, .str b]) := fun a b h1 h2 => same_tup (show 2 ≤ 100000 by decide) fun x hx => by
    simp only [List.mem_cons, List.not_mem_nil, or_false] at hx
    rcases hx with rfl | rfl
    · exact same_str 2 h1
    · exact same_str 2 h2
  match i with
  | 0 => exact key _ _ (by kernel_rfl) (by kernel_rfl)
  | 1 => exact key _ _ (by kernel_rfl) (by kernel_rfl)
  | _ + 2 => exact key _ _ (by kernel_rfl) (by kernel_rfl)
theorem same_T (i : Nat) (k : Bool) {s : KSpan} (h : FewP s) : Sa 5 (tK i k s) := same_tup (show 3 ≤ 100000 by decide) fun x hx => by
  simp only [List.mem_cons, List.not_mem_nil, or_false] at hx
  rcases hx with rfl | rfl | rfl
  · exact same_I _
  · exact same_bool 3 _
  · exact same_S h
/-! ### ranges of three and of two -/
theorem three_K {f : Fe} {ds : List Slot} {a b c : D} (h0 : f ((ds.set 15 .no).set 15 (.d (.int 0))) = some a) (h1 : f ((ds.set 15 .no).set 15 (.d (.int 1))) = some b) (h2 : f ((ds.set 15 .no).set 15 (.d (.int 2))) = some c) :
    fLc (fRng (faC (fC (.int 3)) faN)) (.name 15) fYes f [15] ds = some (.list [a, b, c]) :=
  ev_lcA (enc := fun p : Nat × D => .int p.1) (e := Prod.snd) (l := [(0, a), (1, b), (2, c)]) rfl (show 3 ≤ 100000 by decide) fun x hx => by
    simp only [List.mem_cons, List.not_mem_nil, or_false] at hx
    rcases hx with rfl | rfl | rfl
    · exact ⟨_, rfl, h0⟩
    · exact ⟨_, rfl, h1⟩
    · exact ⟨_, rfl, h2⟩
theorem two_K {f : Fe} {ds : List Slot} {a b : D} (h0 : f ((ds.set 15 .no).set 15 (.d (.int 0))) = some a) (h1 : f ((ds.set 15 .no).set 15 (.d (.int 1))) = some b) :
    fLc (fRng (faC (fC (.int 2)) faN)) (.name 15) fYes f [15] ds = some (.list [a, b]) :=
  ev_lcA (enc := fun p : Nat × D => .int p.1) (e := Prod.snd) (l := [(0, a), (1, b)]) rfl (show 2 ≤ 100000 by decide) fun x hx => by
    simp only [List.mem_cons, List.not_mem_nil, or_false] at hx
    rcases hx with rfl | rfl
    · exact ⟨_, rfl, h0⟩
    · exact ⟨_, rfl, h1⟩
/-! ### heard -/
theorem heard0 {x y d : D} (h : m_term_both [x, y] = some (some d)) : m_Lheard [.int 0, x, y] = some d := by
  show (m_term_both [x, y]).map heardOut = _
  rw [h]; rfl
theorem heard1 {x y d : D} (h : m_term_either [x, y] = some (some d)) : m_Lheard [.int 1, x, y] = some d := by
  show (m_term_either [x, y]).map heardOut = _
  rw [h]; rfl
theorem heard2 {x y d : D} (h : m_term_inside [x, y] = some (some d)) : m_Lheard [.int 2, x, y] = some d := by
  show (m_term_inside [x, y]).map heardOut = _
  rw [h]; rfl
theorem heard0n {x y : D} (h : m_term_both [x, y] = some none) : m_Lheard [.int 0, x, y] = some unfitD := by
  show (m_term_both [x, y]).map heardOut = _
  rw [h]; rfl
theorem heard1n {x y : D} (h : m_term_either [x, y] = some none) : m_Lheard [.int 1, x, y] = some unfitD := by
  show (m_term_either [x, y]).map heardOut = _
  rw [h]; rfl
theorem heard2n {x y : D} (h : m_term_inside [x, y] = some none) : m_Lheard [.int 2, x, y] = some unfitD := by
  show (m_term_inside [x, y]).map heardOut = _
  rw [h]; rfl
/-- all that is asked of two spans -/
structure PairF (s1 s2 B E N : KSpan) (w : Bool) : Prop where
  f1 : FewP s1
  f2 : FewP s2
  fB : FewP B
  fE : FewP E
  fN : FewP N
  lB : bothL s1 s2 = B
  lE : eitherL s1 s2 = E
  lN : butL s1 = N
  b1 : bothF s1 s2 = B
  b2 : bothF s2 s1 = B
  e1 : eitherF s1 s2 = E
  e2 : eitherF s2 s1 = E
  o : (outF s1 s2).isEmpty = w
  wi : withinP s1 s2 = w
  oB : (outF B s2).isEmpty = true
  oE : (outF s1 E).isEmpty = true
  n1 : butF s1 = N
  n2 : butF N = s1
theorem pair_facts {s1 s2 : KSpan} (h1 : s1 ∈ kAll) (h2 : s2 ∈ kAll) : PairF s1 s2 (bothL s1 s2) (eitherL s1 s2) (butL s1) (withinP s1 s2) := by
  have p := pair_at h1 h2
  have o1 := List.all_eq_true.mp ones_ok s1 h1
  have o2 := List.all_eq_true.mp ones_ok s2 h2
  unfold pairOk at p
  unfold oneOk at o1 o2
  simp only [Bool.and_eq_true, beq_iff_eq] at p o1 o2
  obtain ⟨⟨⟨⟨⟨⟨⟨⟨p1, p2⟩, p3⟩, p4⟩, p5⟩, p6⟩, p7⟩, p8⟩, p9⟩ := p
  obtain ⟨⟨⟨q1, q2⟩, q3⟩, q4⟩ := o1
  exact ⟨Nat.le_of_ble_eq_true q1, Nat.le_of_ble_eq_true o2.1.1.1, Nat.le_of_ble_eq_true p8, Nat.le_of_ble_eq_true p9, Nat.le_of_ble_eq_true q2, rfl, rfl, rfl, beqS_eq p1, beqS_eq p2, beqS_eq p3, beqS_eq p4, p5, rfl, p6, p7, beqS_eq q3, beqS_eq q4⟩
theorem filter_empty {α : Type} (c : α → Bool) : ∀ l : List α, (l.filter c).isEmpty = l.all fun x => !c x
  | [] => rfl
  | x :: l => by
    rw [List.all_cons, ← filter_empty c l]
    cases h : c x with
    | false => rw [List.filter_cons_of_neg (by rw [h]; exact Bool.false_ne_true)]; rfl
    | true => rw [List.filter_cons_of_pos h]; rfl
end Nf
set_option Elab.async false
set_option linter.all false
set_option maxRecDepth 100000
set_option maxHeartbeats 4000000
/-! the plain law, 8: the middle of _law_right -/
namespace Nf
open PySem PySem.Spec L2
def gHolds : Fs := (gSeq (gAsg (.name 4) (fLc (fSeq (fV 13)) (.name 16) fYes (fCall m_term_holds (faC (fV 6) (faC (fV 16) faN))) [16])) (gIf (fNot (asB (fCall (m_Lsame 12) (faC (fV 4) (faC (fLc (fSeq (fV 13)) (.name 16) fYes (fCall m_Lstands (faC (fV 6) (faC (fV 16) faN))) [16]) faN))))) (gRet (fC (.bool false))) gNx))
section
variable {s0 : Slot} {i j : Nat} {k1 k2 w : Bool} {s1 s2 B E N : KSpan}
abbrev mSt (s0 : Slot) (it ot one two : D) (a1 a2 a3 a4 a5 a6 a12 a13 : Slot) : List Slot := [s0, a1, a2, a3, a4, a5, a6, .no, .d it, .d ot, .d one, .d two, a12, a13, .no, .no, .no]
theorem within_K (k1 k2 : Bool) (s1 s2 : KSpan) : ((triesO s1 s2).filter fun o => standsP k1 s1 o && !standsP k2 s2 o).isEmpty = ((k2 || !k1) && withinP s1 s2) := by
  rw [filter_empty]
  unfold triesO
  rw [List.all_cons, List.all_map]
  show (!(k1 && !k2) && withinP s1 s2) = _
  cases k1 <;> cases k2 <;> rfl
theorem eq_nil {xs : List D} {n : Nat} (h : ∀ x ∈ xs, okD n x) (hn : n ≤ 63) : eqD (.list xs) (.list []) = some (.bool xs.isEmpty) := by
  unfold eqD
  rw [ok_sh (ok_list h) (Nat.succ_le_succ hn)]
  cases xs <;> rfl
theorem same5 {xs : List D} (hs : xs.length ≤ 100) (h : ∀ y ∈ xs, Sa 5 y) : m_Lsame 12 [.list xs, .list xs] = some (.bool true) := same_list (n := 5) (by omega) h 6
theorem stands_list {ds : List Slot} {k : Bool} {s : KSpan} {i : Nat} {l : List (Option Nat)} {m : List D → Option D} (hm : ∀ o, m [tK i k s, eKO o] = some (.bool (standsP k s o))) (hl : l.length ≤ 100) (h13 : ds[13]? = some (.d (.list (l.map eKO)))) (h6 : (ds.set 16 .no)[6]? = some (.d (tK i k s))) (hn : ds.length = 17) :
    fLc (fSeq (fV 13)) (.name 16) fYes (fCall m (faC (fV 6) (faC (fV 16) faN))) [16] ds = some (.list (l.map fun o => .bool (standsP k s o))) := by
  refine ev_lcA (enc := eKO) (e := fun o => .bool (standsP k s o)) (l := l) (ev_seqF (by unfold fV; rw [h13])) (by omega) fun o _ => ⟨_, rfl, ev_call (ev_cons (d := tK i k s) ?_ (ev_cons (d := eKO o) ?_ ev_nil)) (hm o)⟩
  · show fV 6 ((ds.set 16 .no).set 16 (.d (eKO o))) = _
    unfold fV
    rw [List.getElem?_set_ne (by decide), h6]
  · show fV 16 ((ds.set 16 .no).set 16 (.d (eKO o))) = _
    unfold fV
    rw [List.getElem?_set_self (by rw [List.length_set]; omega)]
theorem mid_K (F : PairF s1 s2 B E N w) (hs0 : isL s0 = false) (hi : i < 3) (hj : j < 3) (hij : i ≠ j) :
    ∃ ds, gMid (midSlots s0 (itemD i) (itemD j) (tK i k1 s1) (tK i k2 s2)) = some (.nx ds) ∧ ds.length = 17 ∧ ds[0]? = some s0 ∧ ds[10]? = some (.d (tK i k1 s1)) ∧ noL ds = true := by
  have r1 := reads_t i k1 F.f1
  have r2 := reads_t i k2 F.f2
  have rB := reads_t i (k1 && k2) F.fB
  have rE := reads_t i (k1 || k2) F.fE
  have rN := reads_t i (!k1) F.fN
  have rF := reads_t j k2 F.f2
  have tl := tries_len F.f1 F.f2
  -- what the law makes
  have hB : m_Lspan_both [eKS s1, eKS s2] = some (eKS B) := by rw [Lboth_K F.f1 F.f2, F.lB]
  have hE : m_Lspan_either [eKS s1, eKS s2] = some (eKS E) := by rw [Leither_K F.f1 F.f2, F.lE]
  have hN : m_Lspan_but [eKS s1] = some (eKS N) := by rw [Lbut_K F.f1, F.lN]
  let T : D := .list ((triesO s1 s2).map eKO)
  let W : D := .bool ((k2 || !k1) && w)
  let bth : D := tK i (k1 && k2) B
  let ei : D := tK i (k1 || k2) E
  let nt : D := tK i (!k1) N
  let far : D := tK j k2 s2
  let M := mSt s0 (itemD i) (itemD j) (tK i k1 s1) (tK i k2 s2)
  have d12 : m_term_both [tK i k1 s1, lT i k2 s2] = some (some bth) := by rw [both_term r1 (reads_l i k2 F.f2) hi F.f1 F.f2, F.b1]
  have e12 : m_term_either [tK i k1 s1, lT i k2 s2] = some (some ei) := by rw [either_term r1 (reads_l i k2 F.f2) hi F.f1 F.f2, F.e1]
  have w12 : m_term_inside [tK i k1 s1, lT i k2 s2] = some (some W) := by rw [inside_term r1 (reads_l i k2 F.f2) hi F.f1 F.f2, F.o]
  have d21 : m_term_both [tK i k2 s2, tK i k1 s1] = some (some bth) := by rw [both_term r2 r1 hi F.f2 F.f1, F.b2, Bool.and_comm]
  have e21 : m_term_either [tK i k2 s2, tK i k1 s1] = some (some ei) := by rw [either_term r2 r1 hi F.f2 F.f1, F.e2, Bool.or_comm]
  have n1 : m_term_not [lT i k1 s1] = some nt := by rw [not_term (reads_l i k1 F.f1) F.f1, F.n1]
  have n2 : m_term_not [nt] = some (tK i k1 s1) := by rw [not_term rN F.fN, F.n2, Bool.not_not]
  have iB : m_term_inside [bth, tK i k2 s2] = some (some (.bool true)) := by
    rw [inside_term rB r2 hi F.fB F.f2, F.oB]
    cases k1 <;> cases k2 <;> rfl
  have iE : m_term_inside [tK i k1 s1, ei] = some (some (.bool true)) := by
    rw [inside_term r1 rE hi F.f1 F.fE, F.oE]
    cases k1 <;> cases k2 <;> rfl
  have ll2 := lists_T i k2 F.f2
  have ll1 := lists_T i k1 F.f1
  have sB : Sa 5 bth := same_T i _ F.fB
  have sE : Sa 5 ei := same_T i _ F.fE
  have sN : Sa 5 nt := same_T i _ F.fN
  have s1' : Sa 5 (tK i k1 s1) := same_T i _ F.f1
  have sU : Sa 5 unfitD := fun k => (same_list (n := 1) (xs := [.str (PySem.Str.ofString "unfit"), .bool true]) (show 2 ≤ 100000 by decide) (fun x hx => by
    simp only [List.mem_cons, List.not_mem_nil, or_false] at hx
    rcases hx with rfl | rfl
    · exact same_str 0 (by kernel_rfl)
    · exact same_bool 0 _)) (3 + k) |> (by rw [show 1 + 1 + (3 + k) = 5 + k by omega] at ·; assumption)
  have sW : ∀ b, Sa 5 (.bool b) := fun b => same_bool 4 b
  have L1 : m_Lsame 12 [.list [bth, ei, W, bth, ei], .list [bth, ei, W, bth, ei]] = some (.bool true) := same5 (show 5 ≤ 100 by decide) fun y hy => by
    simp only [List.mem_cons, List.not_mem_nil, or_false] at hy
    rcases hy with rfl | rfl | rfl | rfl | rfl
    · exact sB
    · exact sE
    · exact sW _
    · exact sB
    · exact sE
  have L2 : m_Lsame 12 [.list [nt, tK i k1 s1, .bool true, .bool true, unfitD, unfitD, unfitD], .list [nt, tK i k1 s1, .bool true, .bool true, unfitD, unfitD, unfitD]] = some (.bool true) := same5 (show 7 ≤ 100 by decide) fun y hy => by
    simp only [List.mem_cons, List.not_mem_nil, or_false] at hy
    rcases hy with rfl | rfl | rfl | rfl | rfl | rfl | rfl
    · exact sN
    · exact s1'
    · exact sW _
    · exact sW _
    · exact sU
    · exact sU
    · exact sU
  let G1 : D := .list [bth, ei, W, bth, ei]
  let G2 : D := .list [nt, tK i k1 s1, .bool true, .bool true]
  -- the last loop
  obtain ⟨ds', hl, a4, a6, ha4, ha6, hd⟩ := ev_for (ds := M (.d bth) (.d ei) (.d W) (.d G2) (.d nt) .no (.d far) (.d T)) (fi := fSeq (fTup (faC (fV 10) (faC (fV 1) (faC (fV 2) (faC (fV 5) faN)))))) (t := .name 6) (body := gHolds)
    (enc := fun p : Bool × KSpan => tK i p.1 p.2) (l := [(k1, s1), (k1 && k2, B), (k1 || k2, E), (!k1, N)]) (b := ())
    (fun _ _ ds => ∃ a4 a6, isL a4 = false ∧ isL a6 = false ∧ ds = M (.d bth) (.d ei) (.d W) a4 (.d nt) a6 (.d far) (.d T)) (fun _ _ => ()) rfl ⟨_, _, rfl, rfl, rfl⟩ (fun k b p ds hk hp ⟨a4, a6, _, _, e⟩ => by
      subst e
      have hf : FewP p.2 := by
        simp only [List.mem_cons, List.not_mem_nil, or_false] at hp
        rcases hp with rfl | rfl | rfl | rfl
        · exact F.f1
        · exact F.fB
        · exact F.fE
        · exact F.fN
      refine ⟨_, M (.d bth) (.d ei) (.d W) (.d (.list ((triesO s1 s2).map fun o => .bool (standsP p.1 p.2 o)))) (.d nt) (.d (tK i p.1 p.2)) (.d far) (.d T), rfl, ?_, _, _, rfl, rfl, rfl⟩
      refine ev_seq (ev_asg (stands_list (i := i) (fun o => holds_K hf o) tl rfl rfl rfl) rfl) ?_
      refine ev_if (x := false) (ev_notT (x := true) (ev_asB (ev_call (ev_cons rfl (ev_cons (stands_list (i := i) (fun o => stands_K hf o) tl rfl rfl rfl) ev_nil)) (same5 (by rw [List.length_map]; exact tl) fun y hy => ?_)))) (fun z => nomatch z) fun _ => rfl
      obtain ⟨o, _, rfl⟩ := List.mem_map.mp hy
      exact sW _)
  refine ⟨ds', ?steps, by rw [hd]; rfl, by rw [hd]; rfl, by rw [hd]; rfl, ?nol⟩
  case nol =>
    rw [hd]
    simp only [M, noL, List.all_cons, List.all_nil, hs0, ha4, ha6, show ∀ d, isL (.d d) = false from fun _ => rfl, show isL .no = false from rfl, Bool.not_false, Bool.and_true, Bool.and_self]
  case steps =>
  -- the steps
  refine ev_seq (ds' := M .no .no .no .no .no .no (.d far) (.d T)) (ev_asg (d := .tuple [far, T]) (ev_tup (ev_cons (ev_tup (ev_cons rfl (ev_cons rfl (ev_cons rfl ev_nil))) rfl) (ev_cons (ev_call (ev_cons rfl (ev_cons rfl ev_nil)) (tries_K F.f1 F.f2)) ev_nil)) rfl) rfl) ?_
  refine ev_seq (ds' := M (.d bth) .no .no .no .no .no (.d far) (.d T)) (ev_asg (d := bth) (ev_tup (ev_cons rfl (ev_cons (ev_and (x := k1) (y := k2) rfl fun _ => rfl) (ev_cons (ev_call (ev_cons rfl (ev_cons rfl ev_nil)) hB) ev_nil))) rfl) rfl) ?_
  refine ev_seq (ds' := M (.d bth) (.d ei) .no .no .no .no (.d far) (.d T)) (ev_asg (d := ei) (ev_tup (ev_cons rfl (ev_cons (ev_or (x := k1) (y := k2) rfl fun _ => rfl) (ev_cons (ev_call (ev_cons rfl (ev_cons rfl ev_nil)) hE) ev_nil))) rfl) rfl) ?_
  refine ev_seq (ds' := M (.d bth) (.d ei) (.d W) .no .no .no (.d far) (.d T)) (ev_asg (d := W) ?_ rfl) ?_
  · refine ev_f2 (ev_lc (enc := eKO) (c := fun o => standsP k1 s1 o && !standsP k2 s2 o) (e := fun _ => .int 1) (l := triesO s1 s2) rfl (by omega) fun o _ => ⟨_, rfl, ev_andT (ev_asB (ev_call (ev_cons rfl (ev_cons rfl ev_nil)) (stands_K F.f1 o))) (fun _ => ev_notT (ev_asB (ev_call (ev_cons rfl (ev_cons rfl ev_nil)) (stands_K F.f2 o)))), fun _ => rfl⟩) rfl ((eq_nil (n := 0) (fun x hx => ?_) (by decide)).trans ?_)
    · obtain ⟨_, _, rfl⟩ := List.mem_map.mp hx
      exact ⟨rfl, Nat.zero_le _⟩
    · rw [List.isEmpty_map, within_K, F.wi]
  refine ev_seq (ds' := M (.d bth) (.d ei) (.d W) (.d G1) .no .no (.d far) (.d T)) (ev_asg (d := G1) (ev_f2 (three_K (ev_call (ev_cons rfl (ev_cons rfl (ev_cons (ev_call (ev_cons rfl ev_nil) ll2) ev_nil))) (heard0 d12)) (ev_call (ev_cons rfl (ev_cons rfl (ev_cons (ev_call (ev_cons rfl ev_nil) ll2) ev_nil))) (heard1 e12)) (ev_call (ev_cons rfl (ev_cons rfl (ev_cons (ev_call (ev_cons rfl ev_nil) ll2) ev_nil))) (heard2 w12)))
    (two_K (ev_call (ev_cons rfl (ev_cons rfl (ev_cons rfl ev_nil))) (heard0 d21)) (ev_call (ev_cons rfl (ev_cons rfl (ev_cons rfl ev_nil))) (heard1 e21))) rfl) rfl) ?_
  refine ev_seq (ev_if (x := false) (ev_notT (x := true) (ev_asB (ev_call (ev_cons rfl (ev_cons rfl ev_nil)) L1))) (fun z => nomatch z) fun _ => rfl) ?_
  refine ev_seq (ds' := M (.d bth) (.d ei) (.d W) (.d G1) (.d nt) .no (.d far) (.d T)) (ev_asg (d := nt) (ev_tup (ev_cons rfl (ev_cons (ev_not rfl) (ev_cons (ev_call (ev_cons rfl ev_nil) hN) ev_nil))) rfl) rfl) ?_
  refine ev_seq (ds' := M (.d bth) (.d ei) (.d W) (.d G2) (.d nt) .no (.d far) (.d T)) (ev_asg (d := G2) (ev_lst (ev_cons (ev_call (ev_cons (ev_call (ev_cons rfl ev_nil) ll1) ev_nil) n1) (ev_cons (ev_call (ev_cons rfl ev_nil) n2) (ev_cons (ev_call (ev_cons rfl (ev_cons rfl (ev_cons rfl ev_nil))) (heard2 iB)) (ev_cons (ev_call (ev_cons rfl (ev_cons rfl (ev_cons rfl ev_nil))) (heard2 iE)) ev_nil)))) rfl) rfl) ?_
  refine ev_seq (ev_if (x := false) (ev_notT (x := true) (ev_asB (ev_call (ev_cons (ev_f2 (d := G2) rfl (three_K (ev_call (ev_cons rfl (ev_cons rfl (ev_cons rfl ev_nil))) (heard0n (both_no r1 rF hi hj hij))) (ev_call (ev_cons rfl (ev_cons rfl (ev_cons rfl ev_nil))) (heard1n (either_no r1 rF hi hj hij))) (ev_call (ev_cons rfl (ev_cons rfl (ev_cons rfl ev_nil))) (heard2n (inside_no r1 rF hi hj hij)))) rfl) (ev_cons rfl ev_nil)) L2))) (fun z => nomatch z) fun _ => rfl) ?_
  exact hl
end
/-! ### from the spans that are drawn -/
theorem span_key {s : Span} (h : s ∈ allSpans) : encS s = eKS (keyS s) ∧ keyS s ∈ kAll := by
  have a := List.all_eq_true.mp all_keys s h
  rw [Bool.and_eq_true] at a
  refine ⟨?_, of_decide_eq_true a.2⟩
  unfold encS eKS keyS
  rw [List.map_map]
  congr 1
  refine List.map_congr_left fun p hp => ?_
  have b := List.all_eq_true.mp a.1 p hp
  rw [Bool.and_eq_true] at b
  have b1 : rowK (keyR p.1) = p.1 := of_decide_eq_true b.1
  obtain ⟨lo, hi⟩ := p
  have e1 : eK (keyR lo) = encR lo := by unfold eK; rw [b1]
  have e2 : eKO (hi.map keyR) = encO hi := by
    cases hi with
    | none => rfl
    | some r =>
      have b2 : rowK (keyR r) = r := of_decide_eq_true b.2
      show eK (keyR r) = encR r
      unfold eK; rw [b2]
  show PyData.tuple [encR lo, encO hi] = PyData.tuple [eK (keyR lo), eKO (hi.map keyR)]
  rw [e1, e2]
theorem mid_ok : MidOk := by
  intro s0 hs0 i j k1 k2 s1 s2 hi hj hij h1 h2
  obtain ⟨e1, m1⟩ := span_key h1
  obtain ⟨e2, m2⟩ := span_key h2
  have t1 : termD i k1 s1 = tK i k1 (keyS s1) := by unfold termD tK; rw [e1]
  have t2 : termD i k2 s2 = tK i k2 (keyS s2) := by unfold termD tK; rw [e2]
  rw [t1, t2]
  exact mid_K (pair_facts m1 m2) hs0 hi hj hij
end Nf
set_option Elab.async false
set_option linter.all false
set_option maxRecDepth 100000
set_option maxHeartbeats 4000000
/-! the plain law, 9: the end of _law_right -/
namespace Nf
open PySem PySem.Spec L2
def okE (x : D) : Bool := match m_is_term [x], m_Lis_term [x] with
  | some (.bool a), some (.bool b) => a == b
  | _, _ => false
def endsOk (i : Nat) (k : Bool) : Bool := kAll.all fun s => (goods (n1D i) (n2D i) k (s.map eKP)).all okE
theorem ends_0t : endsOk 0 true = true := by decide +kernel
theorem ends_0f : endsOk 0 false = true := by decide +kernel
theorem ends_1t : endsOk 1 true = true := by decide +kernel
theorem ends_1f : endsOk 1 false = true := by decide +kernel
theorem ends_2t : endsOk 2 true = true := by decide +kernel
theorem ends_2f : endsOk 2 false = true := by decide +kernel
theorem ends_all {i : Nat} (hi : i < 3) (k : Bool) : endsOk i k = true := by
  have : i = 0 ∨ i = 1 ∨ i = 2 := by omega
  rcases this with rfl | rfl | rfl <;> cases k
  · exact ends_0f
  · exact ends_0t
  · exact ends_1f
  · exact ends_1t
  · exact ends_2f
  · exact ends_2t
/-- whether it is a term -/
def isTm (x : D) : Bool := match m_is_term [x] with
  | some (.bool a) => a
  | _ => false
theorem okE_is {x : D} (h : okE x = true) : m_is_term [x] = some (.bool (isTm x)) ∧ m_Lis_term [x] = some (.bool (isTm x)) := by
  unfold okE at h
  unfold isTm
  split at h
  · rename_i a b e1 e2
    have := eq_of_beq h
    subst this
    rw [e1, e2]
    exact ⟨rfl, rfl⟩
  · cases h
theorem end_ok : EndOk := by
  intro ds i k s xs hi hs h5 hx hn h7
  obtain ⟨e, m⟩ := span_key hs
  have e' : s.map encP = (keyS s).map eKP := by
    have := e
    unfold encS eKS at this
    injection this
  have ok : ∀ x ∈ xs, okE x = true := fun x hm => by
    have := hx x hm
    rw [e'] at this
    exact List.all_eq_true.mp (List.all_eq_true.mp (ends_all hi k) _ m) x this
  have h7' : (fun ds => (fV 7) ds) ds = some (.list xs) := by show fV 7 ds = _; unfold fV; rw [h7]
  have at6 : ∀ x : D, fV 6 ((ds.set 6 .no).set 6 (.d x)) = some x := fun x => by
    unfold fV
    rw [List.getElem?_set_self (by rw [List.length_set]; omega)]
  have c : ∀ m : List D → Option D, (∀ x ∈ xs, m [x] = some (.bool (isTm x))) → fLc (fSeq (fV 7)) (.name 6) fYes (fCall m (faC (fV 6) faN)) [6] ds = some (.list (xs.map fun x => .bool (isTm x))) := fun m h =>
    ev_lcA (enc := id) (e := fun x => .bool (isTm x)) (l := xs) (by rw [List.map_id]; exact ev_seqF h7') (by omega) fun x hm => ⟨_, rfl, ev_call (ev_cons (at6 x) ev_nil) (h x hm)⟩
  refine ev_ret (ev_call (ev_cons (c m_is_term fun x hm => (okE_is (ok x hm)).1) (ev_cons (c m_Lis_term fun x hm => (okE_is (ok x hm)).2) ev_nil)) (same5 (by rw [List.length_map]; omega) fun y hy => ?_))
  obtain ⟨x, _, rfl⟩ := List.mem_map.mp hy
  exact same_bool 4 _
end Nf
set_option Elab.async false
set_option maxRecDepth 100000
open PySem PySem.W PyProof.Rows
set_option maxHeartbeats 0 in
open_top head for PySem.Challenge.rw_newestfit_k21_whole_terms_as_sets_of_sta
open PySem PySem.W PyProof.Rows
set_option maxRecDepth 100000 in
set_option maxHeartbeats 0 in
theorem PySem.Challenge.cw_newestfit_k21_whole_terms_as_sets_of_sta_holds : PySem.Challenge.rw_newestfit_k21_whole_terms_as_sets_of_sta.Holds := by
  refine head ?_
  k_fill
  refine Nf.walk (l := PySem.Challenge.rw_newestfit_k21_whole_terms_as_sets_of_sta) rfl rfl (fun w h Y => PySem.W.kIn_of Y) ?F
  case F =>
    intro w mg fa h KX G hmg
    refine Nf.law_of hmg (C := ?C) ?W ?U Nf.mid_ok Nf.end_ok
    case W =>
      exact {
        t_tupled := by (refine' Nf.tx_mk KX G ?a ?l ?c ?k; (case a => k_is); (case l => k_is); (case c => k_is); (case k => k_is))
        t_is_number := by (refine' Nf.tx_mk KX G ?a ?l ?c ?k; (case a => k_is); (case l => k_is); (case c => k_is); (case k => k_is))
        t_is_tuple_of := by (refine' Nf.tx_mk KX G ?a ?l ?c ?k; (case a => k_is); (case l => k_is); (case c => k_is); (case k => k_is))
        t_is_name := by (refine' Nf.tx_mk KX G ?a ?l ?c ?k; (case a => k_is); (case l => k_is); (case c => k_is); (case k => k_is))
        t_is_version := by (refine' Nf.tx_mk KX G ?a ?l ?c ?k; (case a => k_is); (case l => k_is); (case c => k_is); (case k => k_is))
        t_is_span_pair := by (refine' Nf.tx_mk KX G ?a ?l ?c ?k; (case a => k_is); (case l => k_is); (case c => k_is); (case k => k_is))
        t_is_range := by (refine' Nf.tx_mk KX G ?a ?l ?c ?k; (case a => k_is); (case l => k_is); (case c => k_is); (case k => k_is))
        t_pair_holds := by (refine' Nf.tx_mk KX G ?a ?l ?c ?k; (case a => k_is); (case l => k_is); (case c => k_is); (case k => k_is))
        t_span_holds := by (refine' Nf.tx_mk KX G ?a ?l ?c ?k; (case a => k_is); (case l => k_is); (case c => k_is); (case k => k_is))
        t_in_range := by (refine' Nf.tx_mk KX G ?a ?l ?c ?k; (case a => k_is); (case l => k_is); (case c => k_is); (case k => k_is))
        t_cuts_in := by (refine' Nf.tx_mk KX G ?a ?l ?c ?k; (case a => k_is); (case l => k_is); (case c => k_is); (case k => k_is))
        t_stretches := by (refine' Nf.tx_mk KX G ?a ?l ?c ?k; (case a => k_is); (case l => k_is); (case c => k_is); (case k => k_is))
        t_spans_holding := by (refine' Nf.tx_mk KX G ?a ?l ?c ?k; (case a => k_is); (case l => k_is); (case c => k_is); (case k => k_is))
        t_grains_in := by (refine' Nf.tx_mk KX G ?a ?l ?c ?k; (case a => k_is); (case l => k_is); (case c => k_is); (case k => k_is))
        t_range_grains := by (refine' Nf.tx_mk KX G ?a ?l ?c ?k; (case a => k_is); (case l => k_is); (case c => k_is); (case k => k_is))
        t_pairs_joined := by (refine' Nf.tx_mk KX G ?a ?l ?c ?k; (case a => k_is); (case l => k_is); (case c => k_is); (case k => k_is))
        t_by_rows := by (refine' Nf.tx_mk KX G ?a ?l ?c ?k; (case a => k_is); (case l => k_is); (case c => k_is); (case k => k_is))
        t_both_of := by (refine' Nf.tx_mk KX G ?a ?l ?c ?k; (case a => k_is); (case l => k_is); (case c => k_is); (case k => k_is))
        t_either_of := by (refine' Nf.tx_mk KX G ?a ?l ?c ?k; (case a => k_is); (case l => k_is); (case c => k_is); (case k => k_is))
        t_all_but := by (refine' Nf.tx_mk KX G ?a ?l ?c ?k; (case a => k_is); (case l => k_is); (case c => k_is); (case k => k_is))
        t_taken_out := by (refine' Nf.tx_mk KX G ?a ?l ?c ?k; (case a => k_is); (case l => k_is); (case c => k_is); (case k => k_is))
        t_is_inside := by (refine' Nf.tx_mk KX G ?a ?l ?c ?k; (case a => k_is); (case l => k_is); (case c => k_is); (case k => k_is))
        t_is_item := by (refine' Nf.tx_mk KX G ?a ?l ?c ?k; (case a => k_is); (case l => k_is); (case c => k_is); (case k => k_is))
        t_is_term := by (refine' Nf.tx_mk KX G ?a ?l ?c ?k; (case a => k_is); (case l => k_is); (case c => k_is); (case k => k_is))
        t_term_holds := by (refine' Nf.tx_mk KX G ?a ?l ?c ?k; (case a => k_is); (case l => k_is); (case c => k_is); (case k => k_is))
        t_of_one_item := by (refine' Nf.tx_mk KX G ?a ?l ?c ?k; (case a => k_is); (case l => k_is); (case c => k_is); (case k => k_is))
        t_term_both := by (refine' Nf.tx_mk KX G ?a ?l ?c ?k; (case a => k_is); (case l => k_is); (case c => k_is); (case k => k_is))
        t_term_either := by (refine' Nf.tx_mk KX G ?a ?l ?c ?k; (case a => k_is); (case l => k_is); (case c => k_is); (case k => k_is))
        t_term_not := by (refine' Nf.tx_mk KX G ?a ?l ?c ?k; (case a => k_is); (case l => k_is); (case c => k_is); (case k => k_is))
        t_term_inside := by (refine' Nf.tx_mk KX G ?a ?l ?c ?k; (case a => k_is); (case l => k_is); (case c => k_is); (case k => k_is))
        t_Lbox := by (refine' Nf.tx_mk KX G ?a ?l ?c ?k; (case a => k_is); (case l => k_is); (case c => k_is); (case k => k_is))
        t_Ltake := by (refine' Nf.tx_mk KX G ?a ?l ?c ?k; (case a => k_is); (case l => k_is); (case c => k_is); (case k => k_is))
        t_Lcells := by (refine' Nf.tx_mk KX G ?a ?l ?c ?k; (case a => k_is); (case l => k_is); (case c => k_is); (case k => k_is))
        t_Lof := by (refine' Nf.tx_mk KX G ?a ?l ?c ?k; (case a => k_is); (case l => k_is); (case c => k_is); (case k => k_is))
        t_Lpick := by (refine' Nf.tx_mk KX G ?a ?l ?c ?k; (case a => k_is); (case l => k_is); (case c => k_is); (case k => k_is))
        t_Llists := by (refine' Nf.tx_mk KX G ?a ?l ?c ?k; (case a => k_is); (case l => k_is); (case c => k_is); (case k => k_is))
        t_Lsame := by (refine' Nf.tx_mk KX G ?a ?l ?c ?k; (case a => k_is); (case l => k_is); (case c => k_is); (case k => k_is))
        t_Lis_number := by (refine' Nf.tx_mk KX G ?a ?l ?c ?k; (case a => k_is); (case l => k_is); (case c => k_is); (case k => k_is))
        t_Lsettled := by (refine' Nf.tx_mk KX G ?a ?l ?c ?k; (case a => k_is); (case l => k_is); (case c => k_is); (case k => k_is))
        t_Lnext := by (refine' Nf.tx_mk KX G ?a ?l ?c ?k; (case a => k_is); (case l => k_is); (case c => k_is); (case k => k_is))
        t_Levery := by (refine' Nf.tx_mk KX G ?a ?l ?c ?k; (case a => k_is); (case l => k_is); (case c => k_is); (case k => k_is))
        t_Ljust := by (refine' Nf.tx_mk KX G ?a ?l ?c ?k; (case a => k_is); (case l => k_is); (case c => k_is); (case k => k_is))
        t_Lheld := by (refine' Nf.tx_mk KX G ?a ?l ?c ?k; (case a => k_is); (case l => k_is); (case c => k_is); (case k => k_is))
        t_Lspan_of := by (refine' Nf.tx_mk KX G ?a ?l ?c ?k; (case a => k_is); (case l => k_is); (case c => k_is); (case k => k_is))
        t_Lpoints := by (refine' Nf.tx_mk KX G ?a ?l ?c ?k; (case a => k_is); (case l => k_is); (case c => k_is); (case k => k_is))
        t_Lspan_both := by (refine' Nf.tx_mk KX G ?a ?l ?c ?k; (case a => k_is); (case l => k_is); (case c => k_is); (case k => k_is))
        t_Lspan_either := by (refine' Nf.tx_mk KX G ?a ?l ?c ?k; (case a => k_is); (case l => k_is); (case c => k_is); (case k => k_is))
        t_Lspan_but := by (refine' Nf.tx_mk KX G ?a ?l ?c ?k; (case a => k_is); (case l => k_is); (case c => k_is); (case k => k_is))
        t_Lfew_versions := by (refine' Nf.tx_mk KX G ?a ?l ?c ?k; (case a => k_is); (case l => k_is); (case c => k_is); (case k => k_is))
        t_Lspan := by (refine' Nf.tx_mk KX G ?a ?l ?c ?k; (case a => k_is); (case l => k_is); (case c => k_is); (case k => k_is))
        t_Lis_name := by (refine' Nf.tx_mk KX G ?a ?l ?c ?k; (case a => k_is); (case l => k_is); (case c => k_is); (case k => k_is))
        t_Lis_version := by (refine' Nf.tx_mk KX G ?a ?l ?c ?k; (case a => k_is); (case l => k_is); (case c => k_is); (case k => k_is))
        t_Lis_item := by (refine' Nf.tx_mk KX G ?a ?l ?c ?k; (case a => k_is); (case l => k_is); (case c => k_is); (case k => k_is))
        t_Lis_span := by (refine' Nf.tx_mk KX G ?a ?l ?c ?k; (case a => k_is); (case l => k_is); (case c => k_is); (case k => k_is))
        t_Lis_term := by (refine' Nf.tx_mk KX G ?a ?l ?c ?k; (case a => k_is); (case l => k_is); (case c => k_is); (case k => k_is))
        t_Lstands := by (refine' Nf.tx_mk KX G ?a ?l ?c ?k; (case a => k_is); (case l => k_is); (case c => k_is); (case k => k_is))
        t_Ltries := by (refine' Nf.tx_mk KX G ?a ?l ?c ?k; (case a => k_is); (case l => k_is); (case c => k_is); (case k => k_is))
        t_Lheard := by (refine' Nf.tx_mk KX G ?a ?l ?c ?k; (case a => k_is); (case l => k_is); (case c => k_is); (case k => k_is))
        t_Lbent := by (refine' Nf.tx_mk KX G ?a ?l ?c ?k; (case a => k_is); (case l => k_is); (case c => k_is); (case k => k_is))
        t_Lfront_right := by (refine' Nf.tx_mk KX G ?a ?l ?c ?k; (case a => k_is); (case l => k_is); (case c => k_is); (case k => k_is))
        t_Lright := by (refine' Nf.tx_mk KX G ?a ?l ?c ?k; (case a => k_is); (case l => k_is); (case c => k_is); (case k => k_is))
        t_law := by (refine' Nf.tx_mk KX G ?a ?l ?c ?k; (case a => k_is); (case l => k_is); (case c => k_is); (case k => k_is))
        b_ValueError := by (refine' PySem.W.mg_none_of KX G ?z; (case z => k_is))
        b_abs := by (refine' PySem.W.mg_none_of KX G ?z; (case z => k_is))
        b_all := by (refine' PySem.W.mg_none_of KX G ?z; (case z => k_is))
        b_any := by (refine' PySem.W.mg_none_of KX G ?z; (case z => k_is))
        b_bool := by (refine' PySem.W.mg_none_of KX G ?z; (case z => k_is))
        b_enumerate := by (refine' PySem.W.mg_none_of KX G ?z; (case z => k_is))
        b_int := by (refine' PySem.W.mg_none_of KX G ?z; (case z => k_is))
        b_isinstance := by (refine' PySem.W.mg_none_of KX G ?z; (case z => k_is))
        b_len := by (refine' PySem.W.mg_none_of KX G ?z; (case z => k_is))
        b_list := by (refine' PySem.W.mg_none_of KX G ?z; (case z => k_is))
        b_min := by (refine' PySem.W.mg_none_of KX G ?z; (case z => k_is))
        b_range := by (refine' PySem.W.mg_none_of KX G ?z; (case z => k_is))
        b_set := by (refine' PySem.W.mg_none_of KX G ?z; (case z => k_is))
        b_sorted := by (refine' PySem.W.mg_none_of KX G ?z; (case z => k_is))
        b_str := by (refine' PySem.W.mg_none_of KX G ?z; (case z => k_is))
        b_tuple := by (refine' PySem.W.mg_none_of KX G ?z; (case z => k_is))
        b_zip := by (refine' PySem.W.mg_none_of KX G ?z; (case z => k_is))
        c_LETTERS := by
          have e : mg "LETTERS" = some ?vLETTERS := by (refine' Nf.glob_mk KX G ?a; (case a => k_is))
          exact ⟨_, e⟩
        c_LONGEST := by
          have e : mg "LONGEST" = some ?vLONGEST := by (refine' Nf.glob_mk KX G ?a; (case a => k_is))
          exact ⟨_, e⟩
        c_EARLIEST := by
          have e : mg "EARLIEST" = some ?vEARLIEST := by (refine' Nf.glob_mk KX G ?a; (case a => k_is))
          exact ⟨_, e⟩
        c_FIRST := by
          refine' Nf.first_mk KX G ?fa ?fl ?fc ?fd ?fs ?fv
          case fa => k_is
          case fl => k_is
          case fc => rfl
          case fd => rfl
          case fs => decide
          case fv => exact .cons ⟨_, rfl⟩ (.cons ⟨_, rfl⟩ (.cons ⟨_, rfl⟩ (.cons ⟨_, rfl⟩ .nil))) }
    case U =>
      refine' ⟨PySem.W.mg_of KX G ?gC, ?kC, ?ex, ?sb, ?ty, Nf.exm_me ?sb ?e2 ?ty ?e4, ⟨?hg, ?hk, ?sb, ?hd, ?ha, ?hn, ?ht, ?hm⟩, ?kit⟩
      (case gC => k_is); (case kC => k_is); (case ex => k_exc); (case sb => k_is); (case ty => k_is); (case e2 => k_is); (case e4 => first | rfl | k_is)
      (case hg => k_is); (case hk => k_is); (case hd => k_is); (case ha => k_is); (case hn => k_is); (case ht => k_is); (case hm => k_is); (case kit => kit_is)
