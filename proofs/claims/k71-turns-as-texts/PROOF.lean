import PyProof.Rows.All
import Wide.All
import OpenK.AllK
import Wide.FinOn
import HandS.ForMost
import HandS.ForExc
import HandS.More
import HandS.Conv
import HandS.Deep
import HandS.SortInts
import HandS.Strs
import HandS.TupAny
import HandS.DictTup
import HandS.IsInst
import HandS.Flow
import KE.SortData
import HandS.Wide
import HandS.TupMul
import HandS.TupLen
import HandS.Style
import KE.KIndexOf
import PyProof.ReprReads
import HandS.Text
import HandS.ExcOwn
import HandS.HeadEnd
import HandS.Defaults
import HandS.TryOnly
import HandS.Comp
import HandS.Zip
import HandS.Iter
import HandS.Small
import HandS.Codes
import HandS.Words
import PySem.Challenge.RW_heldmarks_k71_turns_as_texts
import KE.KStateDown
import HandS.Head0
import HandS.Head1
import HandS.Head2
import HandS.HeadHook1
import HandS.HeadHook2
set_option Elab.async false
set_option linter.all false
set_option maxRecDepth 100000
set_option maxHeartbeats 2000000
set_option autoImplicit false
/-! HA: data over the hand layer. A def is read as a plain function of data (PyData): what its slots hold (frozen data, or an object of its own that it may change), each construct a combinator, each combinator's soundness shown once. -/
namespace HM
open PySem PySem.Spec PyProof.Rows L2

abbrev D := PyData
/-- an object of one's own: a list, a dict by ints and texts, a dict by tuples of these -/
inductive OD where
  | lst (ds : List D)
  | dK (kvs : List (Key × D))
  | dT (kvs : List (List Key × D))
/-- what a slot holds -/
inductive Slot where
  | non
  | val (d : D)
  | own (o : OD)
  | mu (o : OD)
abbrev Sl := List Slot
/-- what an expression gives that is only looked at -/
inductive Pv where
  | d (x : D)
  | o (x : OD)

/-! ### representation -/
/-- a tuple that is known to its object, an object without a dict of its own -/
def TupO (H : Hp) (a : Addr) (xs : List V) : Prop := ∃ o : Obj, H a = some (.frz o (.tup xs)) ∧ o.dict = none
theorem TupO.mono {H H' : Hp} {a : Addr} {xs : List V} (e : Same H H') (h : TupO H a xs) : TupO H' a xs := let ⟨o, h1, h2⟩ := h; ⟨o, e _ _ h1, h2⟩
theorem TupO.sq {K : PySem.W.Frag} {H : Hp} {a : Addr} {xs : List V} (h : TupO H a xs) : SqT K H a xs := let ⟨o, h1, _⟩ := h; .inl (.inr ⟨o, h1⟩)
/-! a value stands for a datum: lists may be read, tuples are tracked -/
mutual
inductive Dq (K : PySem.W.Frag) (H : Hp) : V → D → Prop
  | non : Dq K H .non .none
  | bl (b : Bool) : Dq K H (.bl b) (.bool b)
  | int (i : Int) : Dq K H (.int i) (.int i)
  | str (x : Str) : Dq K H (.str x) (.str x)
  | lst {a : Addr} {xs : List V} {ds : List D} : SqL K H a xs → DqAll K H xs ds → Dq K H (.ref a) (.list ds)
  | tup {a : Addr} {xs : List V} {ds : List D} : TupO H a xs → DqAll K H xs ds → Dq K H (.ref a) (.tuple ds)
inductive DqAll (K : PySem.W.Frag) (H : Hp) : List V → List D → Prop
  | nil : DqAll K H [] []
  | cons {v : V} {vs : List V} {d : D} {ds : List D} : Dq K H v d → DqAll K H vs ds → DqAll K H (v :: vs) (d :: ds)
end
section
variable {K : PySem.W.Frag} {G G' H H' : Hp}
mutual
theorem Dq.mono (e : Same H H') : ∀ (d : D) (v : V), Dq K H v d → Dq K H' v d
  | .none, _, h => by cases h; exact .non
  | .bool b, _, h => by cases h; exact .bl b
  | .int i, _, h => by cases h; exact .int i
  | .str x, _, h => by cases h; exact .str x
  | .list ds, _, h => by
    cases h with
    | lst hs ha => exact .lst (e.seq hs) (DqAll.mono e ds _ ha)
  | .tuple ds, _, h => by
    cases h with
    | tup hs ha => exact .tup (hs.mono e) (DqAll.mono e ds _ ha)
  | .dict _, _, h => by cases h
theorem DqAll.mono (e : Same H H') : ∀ (ds : List D) (vs : List V), DqAll K H vs ds → DqAll K H' vs ds
  | [], _, h => by cases h; exact .nil
  | d :: ds, _, h => by
    cases h with
    | cons h1 h2 => exact .cons (Dq.mono e d _ h1) (DqAll.mono e ds _ h2)
end
theorem DqAll.len : ∀ {vs : List V} {ds : List D}, DqAll K H vs ds → vs.length = ds.length
  | _, _, .nil => rfl
  | _, _, .cons _ h => congrArg (· + 1) (DqAll.len h)
theorem DqAll.get : ∀ {vs : List V} {ds : List D}, DqAll K H vs ds → ∀ {i : Nat} {v : V}, vs[i]? = some v → ∃ d, ds[i]? = some d ∧ Dq K H v d
  | _, _, .nil, i, v, e => by simp at e
  | _, _, .cons h _, 0, v, e => by
    simp at e; subst e; exact ⟨_, rfl, h⟩
  | _, _, .cons _ h, i + 1, v, e => by
    obtain ⟨d, h1, h2⟩ := DqAll.get h (i := i) (v := v) (by simpa using e)
    exact ⟨d, by simpa using h1, h2⟩
theorem DqAll.get' : ∀ {vs : List V} {ds : List D}, DqAll K H vs ds → ∀ {i : Nat} {d : D}, ds[i]? = some d → ∃ v, vs[i]? = some v ∧ Dq K H v d
  | _, _, .nil, i, d, e => by simp at e
  | _, _, .cons h _, 0, d, e => by
    simp at e; subst e; exact ⟨_, rfl, h⟩
  | _, _, .cons _ h, i + 1, d, e => by
    obtain ⟨v, h1, h2⟩ := DqAll.get' h (i := i) (d := d) (by simpa using e)
    exact ⟨v, by simpa using h1, h2⟩
theorem DqAll.app : ∀ {vs ws : List V} {ds es : List D}, DqAll K H vs ds → DqAll K H ws es → DqAll K H (vs ++ ws) (ds ++ es)
  | _, _, _, _, .nil, h => h
  | _, _, _, _, .cons a h, k => .cons a (DqAll.app h k)
theorem DqAll.take : ∀ {vs : List V} {ds : List D} (n : Nat), DqAll K H vs ds → DqAll K H (vs.take n) (ds.take n)
  | _, _, 0, _ => .nil
  | _, _, _ + 1, .nil => .nil
  | _, _, n + 1, .cons a h => .cons a (DqAll.take n h)
theorem DqAll.drop : ∀ {vs : List V} {ds : List D} (n : Nat), DqAll K H vs ds → DqAll K H (vs.drop n) (ds.drop n)
  | _, _, 0, h => h
  | _, _, _ + 1, .nil => .nil
  | _, _, n + 1, .cons _ h => DqAll.drop n h
theorem DqAll.set {v : V} {d : D} (r : Dq K H v d) : ∀ {vs : List V} {ds : List D} (n : Nat), DqAll K H vs ds → DqAll K H (vs.set n v) (ds.set n d)
  | _, _, _, .nil => .nil
  | _, _, 0, .cons _ h => .cons r h
  | _, _, n + 1, .cons a h => .cons a (DqAll.set r n h)
theorem DqAll.one {v : V} {d : D} (h : Dq K H v d) : DqAll K H [v] [d] := .cons h .nil
theorem DqAll.dropLast : ∀ {vs : List V} {ds : List D}, DqAll K H vs ds → DqAll K H vs.dropLast ds.dropLast := fun {vs ds} h => by
  rw [List.dropLast_eq_take, List.dropLast_eq_take, h.len]
  exact h.take _
theorem DqAll.eraseIdx : ∀ {vs : List V} {ds : List D} (n : Nat), DqAll K H vs ds → DqAll K H (vs.eraseIdx n) (ds.eraseIdx n)
  | _, _, _, .nil => .nil
  | _, _, 0, .cons _ h => h
  | _, _, n + 1, .cons a h => .cons a (DqAll.eraseIdx n h)
theorem DqAll.ints : ∀ (ns : List Int), DqAll K H (ns.map V.int) (ns.map PyData.int)
  | [] => .nil
  | n :: ns => .cons (.int n) (DqAll.ints ns)
theorem DqAll.strs : ∀ (ns : List Str), DqAll K H (ns.map V.str) (ns.map PyData.str)
  | [] => .nil
  | n :: ns => .cons (.str n) (DqAll.strs ns)
theorem DqAll.ints_inv : ∀ (ns : List Int) {vs : List V}, DqAll K H vs (ns.map PyData.int) → vs = ns.map V.int
  | [], _, h => by cases h; rfl
  | n :: ns, _, h => by
    cases h with
    | cons h1 h2 => cases h1; rw [DqAll.ints_inv ns h2]; rfl
theorem DqAll.strs_inv : ∀ (ns : List Str) {vs : List V}, DqAll K H vs (ns.map PyData.str) → vs = ns.map V.str
  | [], _, h => by cases h; rfl
  | n :: ns, _, h => by
    cases h with
    | cons h1 h2 => cases h1; rw [DqAll.strs_inv ns h2]; rfl
theorem DqAll.bls_inv : ∀ (ns : List Bool) {vs : List V}, DqAll K H vs (ns.map PyData.bool) → vs = ns.map V.bl
  | [], _, h => by cases h; rfl
  | n :: ns, _, h => by
    cases h with
    | cons h1 h2 => cases h1; rw [DqAll.bls_inv ns h2]; rfl
end

section
variable {K : PySem.W.Frag} {H : Hp}
mutual
theorem Dq.dp : ∀ (d : D) (v : V), Dq K H v d → Dp K H v d
  | .none, _, h => by cases h; exact .non
  | .bool b, _, h => by cases h; exact .bl b
  | .int i, _, h => by cases h; exact .int i
  | .str x, _, h => by cases h; exact .str x
  | .list ds, _, h => by
    cases h with
    | lst hs ha => exact .lst hs (DqAll.dp ds _ ha)
  | .tuple ds, _, h => by
    cases h with
    | tup hs ha => exact .tup hs.sq (DqAll.dp ds _ ha)
  | .dict _, _, h => by cases h
theorem DqAll.dp : ∀ (ds : List D) (vs : List V), DqAll K H vs ds → DpAll K H vs ds
  | [], _, h => by cases h; exact .nil
  | d :: ds, _, h => by
    cases h with
    | cons h1 h2 => exact .cons (Dq.dp d _ h1) (DqAll.dp ds _ h2)
end
end
theorem _root_.L2.Same.upd {H : Hp} {p : Addr} {o : HO} (h : H p = none) : Same H (upd H p o) := fun b u e => by rw [upd_ne (ne_of_none e h)]; exact e
/-- the written part, the program, the world -/
structure Zx where
  K : PySem.W.Frag
  P : Program
  w : World
/-- a dict whose keys are tuples of ints and texts, at a: the keys with their tuples' places, the values -/
def DTo (P : Program) (w : World) (a : Addr) (xs : List (List Key × Addr × V)) : HO := .ext fun h =>
  (a == sysModules) = false ∧ xs.length ≤ sizeLine ∧ ∃ ws : List (List Key × Addr × Value), Paired (fun p q => p.1 = q.1 ∧ p.2.1 = q.2.1 ∧ RelV p.2.2 q.2.2) xs ws ∧
    ∃ o es ep, h.get? a = some o ∧ o.ExactDict ∧ o.data = .dict es ep ∧ es.toList = ws.map (entryOfKey (tupleKind (mixKind P w))) ∧ (ws.map (·.1)).Nodup
abbrev KtR (Z : Zx) (G : Hp) : List (List Key × Addr × V) → List (List Key × D) → Prop := Paired fun p q => p.1 = q.1 ∧ TupO G p.2.1 (p.1.map kV) ∧ Dq Z.K G p.2.2 q.2
abbrev KvR (Z : Zx) (G : Hp) {κ : Type} : List (κ × V) → List (κ × D) → Prop := Paired fun p q => p.1 = q.1 ∧ Dq Z.K G p.2 q.2
def OwnR (Z : Zx) (G H : Hp) (p : Addr) : OD → Prop
  | .lst ds => ∃ vs, H p = some (.lst vs) ∧ DqAll Z.K G vs ds
  | .dK kvs => ∃ ws, H p = some (.dK ws) ∧ KvR Z G ws kvs
  | .dT kvs => ∃ ws, H p = some (DTo Z.P Z.w p ws) ∧ KtR Z G ws kvs
def PvR (Z : Zx) (G H : Hp) (v : V) : Pv → Prop
  | .d x => Dq Z.K G v x
  | .o od => ∃ p, v = .ref p ∧ OwnR Z G H p od
section
variable {Z : Zx} {G G' H H' : Hp} {p : Addr}
theorem KvR.mono {κ : Type} (e : Same G G') {ws : List (κ × V)} {kvs : List (κ × D)} (h : KvR Z G ws kvs) : KvR Z G' ws kvs := Paired.mapP h fun _ _ z => ⟨z.1, Dq.mono e _ _ z.2⟩
theorem KtR.mono (e : Same G G') {ws : List (List Key × Addr × V)} {kvs : List (List Key × D)} (h : KtR Z G ws kvs) : KtR Z G' ws kvs := Paired.mapP h fun _ _ z => ⟨z.1, z.2.1.mono e, Dq.mono e _ _ z.2.2⟩
theorem OwnR.some {o : OD} (h : OwnR Z G H p o) : ∃ u, H p = Option.some u := by
  cases o with
  | lst ds => obtain ⟨vs, h, _⟩ := h; exact ⟨_, h⟩
  | dK ds => obtain ⟨vs, h, _⟩ := h; exact ⟨_, h⟩
  | dT ds => obtain ⟨vs, h, _⟩ := h; exact ⟨_, h⟩
theorem OwnR.mono {o : OD} (g : Same G G') (e : ∀ u, H p = Option.some u → H' p = Option.some u) (h : OwnR Z G H p o) : OwnR Z G' H' p o := by
  cases o with
  | lst ds => obtain ⟨vs, h, k⟩ := h; exact ⟨vs, e _ h, DqAll.mono g _ _ k⟩
  | dK ds => obtain ⟨vs, h, k⟩ := h; exact ⟨vs, e _ h, k.mono g⟩
  | dT ds => obtain ⟨vs, h, k⟩ := h; exact ⟨vs, e _ h, k.mono g⟩
theorem PvR.mono {v : V} {x : Pv} (g : Same G G') (e : Same H H') (h : PvR Z G H v x) : PvR Z G' H' v x := by
  cases x with
  | d x => exact Dq.mono g _ _ h
  | o x => obtain ⟨p, rfl, h⟩ := h; exact ⟨p, rfl, h.mono g fun u => e _ u⟩
end

/-- the heap grows; the frozen part grows by what is new -/
structure Step (G H G' H' : Hp) : Prop where
  g : Same G G'
  h : Same H H'
  gh : Same G' H'
  nw : ∀ a o, G' a = some o → G a = some o ∨ H a = none
theorem Step.refl {G H : Hp} (h : Same G H) : Step G H G H := ⟨Same.refl _, Same.refl _, h, fun _ _ e => .inl e⟩
theorem Step.trans {G H G1 H1 G2 H2 : Hp} (a : Step G H G1 H1) (b : Step G1 H1 G2 H2) : Step G H G2 H2 :=
  ⟨a.g.trans b.g, a.h.trans b.h, b.gh, fun c o e => by
    rcases b.nw c o e with e | e
    · exact a.nw c o e
    · refine .inr ?_
      cases q : H c with
      | none => rfl
      | some u => rw [a.h _ _ q] at e; cases e⟩
/-- a new object that is not frozen -/
theorem Step.alloc {G H : Hp} {p : Addr} {o : HO} (s : Same G H) (h : H p = none) : Step G H G (upd H p o) :=
  ⟨Same.refl _, Same.upd h, s.trans (Same.upd h), fun _ _ e => .inl e⟩
/-- a new object that is frozen -/
theorem Step.lay {G H : Hp} {p : Addr} {o : HO} (s : Same G H) (h : H p = none) : Step G H (upd G p o) (upd H p o) := by
  have hg : G p = none := s.free h
  refine ⟨Same.upd hg, Same.upd h, fun b u e => ?_, fun b u e => ?_⟩
  · by_cases hb : b = p
    · subst hb; rw [upd_same] at e ⊢; exact e
    · rw [upd_ne hb] at e ⊢; exact s _ _ e
  · by_cases hb : b = p
    · subst hb; exact .inr h
    · rw [upd_ne hb] at e; exact .inl e

/-- what is fixed at a def's entry: the frozen part, the heap, the object that it may change -/
structure Fx where
  G : Hp
  H : Hp
  m : Option Addr
def SlotR (Z : Zx) (F : Fx) (G H : Hp) (σ : L2.St) (i : Nat) : Slot → Prop
  | .non => True
  | .val d => ∃ v, σ[i]? = some (some v) ∧ Dq Z.K G v d
  | .own o => ∃ p, σ[i]? = some (some (.ref p)) ∧ G p = none ∧ F.H p = none ∧ OwnR Z G H p o
  | .mu o => ∃ p, σ[i]? = some (some (.ref p)) ∧ G p = none ∧ F.m = some p ∧ OwnR Z G H p o
/-- the slot holds an object that may be changed -/
def Slot.isO : Slot → Bool
  | .own _ => true
  | .mu _ => true
  | _ => false
structure Rep (Z : Zx) (F : Fx) (G H : Hp) (σ : L2.St) (η : Sl) : Prop where
  gh : Same G H
  g0 : Same F.G G
  fr : ∀ a o, F.H a = some o → F.m ≠ some a → H a = some o
  mm : ∀ a, F.m = some a → (∃ o, H a = some o) ∧ ∃ o, F.H a = some o
  gn : ∀ a o, G a = some o → F.G a = some o ∨ F.H a = none
  len : σ.length = η.length
  sl : ∀ (i : Nat) (s : Slot), η[i]? = some s → SlotR Z F G H σ i s
  di : ∀ (i j : Nat) (s s' : Slot) (p : Addr), η[i]? = some s → η[j]? = some s' → s.isO = true → s'.isO = true → σ[i]? = some (some (.ref p)) → σ[j]? = some (some (.ref p)) → i = j
section
variable {Z : Zx} {F : Fx} {G H G' H' : Hp} {σ : L2.St} {η : Sl}
theorem Rep.fnone (R : Rep Z F G H σ η) {a : Addr} (h : H a = none) : F.H a = none := by
  cases q : F.H a with
  | none => rfl
  | some o =>
    by_cases hm : F.m = some a
    · obtain ⟨⟨u, hu⟩, _⟩ := R.mm a hm
      rw [h] at hu; cases hu
    · rw [R.fr a o q hm] at h; cases h
theorem Rep.step (R : Rep Z F G H σ η) (S : Step G H G' H') : Rep Z F G' H' σ η where
  gh := S.gh
  g0 := R.g0.trans S.g
  fr := fun a o e n => S.h _ _ (R.fr a o e n)
  mm := fun a e => ⟨(R.mm a e).1.imp fun o h => S.h _ _ h, (R.mm a e).2⟩
  gn := fun a o e => by
    rcases S.nw a o e with e | e
    · exact R.gn a o e
    · exact .inr (R.fnone e)
  len := R.len
  sl := fun i s hs => by
    have h := R.sl i s hs
    have nG : ∀ {p : Addr} {o : OD}, G p = none → OwnR Z G H p o → G' p = none := fun {p o} g w => by
      cases q : G' p with
      | none => rfl
      | some u =>
        obtain ⟨u', hu'⟩ := w.some
        rcases S.nw p u q with e | e
        · rw [g] at e; cases e
        · rw [hu'] at e; cases e
    cases s with
    | non => trivial
    | val d => obtain ⟨v, h1, h2⟩ := h; exact ⟨v, h1, Dq.mono S.g _ _ h2⟩
    | own o => obtain ⟨p, h1, h2, h3, h4⟩ := h; exact ⟨p, h1, nG h2 h4, h3, h4.mono S.g fun u => S.h _ u⟩
    | mu o => obtain ⟨p, h1, h2, h3, h4⟩ := h; exact ⟨p, h1, nG h2 h4, h3, h4.mono S.g fun u => S.h _ u⟩
  di := R.di
/-- slots forgotten -/
theorem Rep.drop (R : Rep Z F G H σ η) {η' : Sl} (hl : η'.length = η.length) (h : ∀ (i : Nat) (s : Slot), η'[i]? = some s → s = .non ∨ η[i]? = some s) : Rep Z F G H σ η' where
  gh := R.gh
  g0 := R.g0
  fr := R.fr
  mm := R.mm
  gn := R.gn
  len := R.len.trans hl.symm
  sl := fun i s hs => by
    rcases h i s hs with rfl | h
    · trivial
    · exact R.sl i s h
  di := fun i j s s' p h1 h2 o1 o2 e1 e2 => by
    rcases h i s h1 with rfl | h1
    · cases o1
    · rcases h j s' h2 with rfl | h2
      · cases o2
      · exact R.di i j s s' p h1 h2 o1 o2 e1 e2
theorem SlotR.move {i : Nat} {s : Slot} {σ' : L2.St} (e : σ'[i]? = σ[i]?) (h : SlotR Z F G H σ i s) : SlotR Z F G H σ' i s := by
  cases s with
  | non => trivial
  | val d => obtain ⟨v, h1, h2⟩ := h; exact ⟨v, e.trans h1, h2⟩
  | own o => obtain ⟨p, h1, h2⟩ := h; exact ⟨p, e.trans h1, h2⟩
  | mu o => obtain ⟨p, h1, h2⟩ := h; exact ⟨p, e.trans h1, h2⟩
/-- a slot is given a value -/
theorem Rep.setVal (R : Rep Z F G H σ η) {i : Nat} {v : V} {d : D} (hi : i < η.length) (r : Dq Z.K G v d) : Rep Z F G H (σ.set i (some v)) (η.set i (.val d)) where
  gh := R.gh
  g0 := R.g0
  fr := R.fr
  mm := R.mm
  gn := R.gn
  len := by rw [List.length_set, List.length_set]; exact R.len
  sl := fun j s hs => by
    by_cases hj : i = j
    · subst hj
      rw [List.getElem?_set_self hi] at hs
      cases hs
      exact ⟨v, List.getElem?_set_self (by rw [R.len]; exact hi), r⟩
    · rw [List.getElem?_set_ne hj] at hs
      exact (R.sl j s hs).move (List.getElem?_set_ne hj)
  di := fun j k s s' p h1 h2 o1 o2 e1 e2 => by
    by_cases hj : i = j
    · subst hj
      rw [List.getElem?_set_self hi] at h1
      cases h1; cases o1
    · by_cases hk : i = k
      · subst hk
        rw [List.getElem?_set_self hi] at h2
        cases h2; cases o2
      · rw [List.getElem?_set_ne hj] at h1 e1
        rw [List.getElem?_set_ne hk] at h2 e2
        exact R.di j k s s' p h1 h2 o1 o2 e1 e2
/-- a slot is given a new object -/
theorem Rep.setOwn (R : Rep Z F G H σ η) {i : Nat} {p : Addr} {o : OD} (hi : i < η.length) (g : G p = none) (f : F.H p = none) (w : OwnR Z G H p o)
    (fresh : ∀ (j : Nat) (s : Slot), η[j]? = some s → s.isO = true → σ[j]? ≠ some (some (.ref p))) : Rep Z F G H (σ.set i (some (.ref p))) (η.set i (.own o)) where
  gh := R.gh
  g0 := R.g0
  fr := R.fr
  mm := R.mm
  gn := R.gn
  len := by rw [List.length_set, List.length_set]; exact R.len
  sl := fun j s hs => by
    by_cases hj : i = j
    · subst hj
      rw [List.getElem?_set_self hi] at hs
      cases hs
      exact ⟨p, List.getElem?_set_self (by rw [R.len]; exact hi), g, f, w⟩
    · rw [List.getElem?_set_ne hj] at hs
      exact (R.sl j s hs).move (List.getElem?_set_ne hj)
  di := fun j k s s' q h1 h2 o1 o2 e1 e2 => by
    have hiσ : i < σ.length := by rw [R.len]; exact hi
    by_cases hj : i = j
    · by_cases hk : i = k
      · exact hj.symm.trans hk
      · subst hj
        rw [List.getElem?_set_self hiσ] at e1
        cases e1
        rw [List.getElem?_set_ne hk] at h2 e2
        exact absurd e2 (fresh k s' h2 o2)
    · by_cases hk : i = k
      · subst hk
        rw [List.getElem?_set_self hiσ] at e2
        cases e2
        rw [List.getElem?_set_ne hj] at h1 e1
        exact absurd e1 (fresh j s h1 o1)
      · rw [List.getElem?_set_ne hj] at h1 e1
        rw [List.getElem?_set_ne hk] at h2 e2
        exact R.di j k s s' q h1 h2 o1 o2 e1 e2
/-- an object of one's own stands apart from what is new -/
theorem Rep.apart (R : Rep Z F G H σ η) {p : Addr} (h : H p = none) : ∀ (j : Nat) (s : Slot), η[j]? = some s → s.isO = true → σ[j]? ≠ some (some (.ref p)) := fun j s hs o e => by
  have w := R.sl j s hs
  cases s with
  | non => cases o
  | val d => cases o
  | own u =>
    obtain ⟨q, h1, _, _, h4⟩ := w
    rw [h1] at e
    cases e
    obtain ⟨u', hu⟩ := h4.some
    rw [h] at hu; cases hu
  | mu u =>
    obtain ⟨q, h1, _, _, h4⟩ := w
    rw [h1] at e
    cases e
    obtain ⟨u', hu⟩ := h4.some
    rw [h] at hu; cases hu
/-- an object of one's own is changed -/
theorem Rep.write (R : Rep Z F G H σ η) {i : Nat} {p : Addr} {s s' : Slot} {ho : HO} (hs : η[i]? = some s) (os : s.isO = true) (e : σ[i]? = some (some (.ref p)))
    (hs' : (∃ o o', s = .own o ∧ s' = .own o' ∧ OwnR Z G (upd H p ho) p o') ∨ (∃ o o', s = .mu o ∧ s' = .mu o' ∧ OwnR Z G (upd H p ho) p o')) : Rep Z F G (upd H p ho) σ (η.set i s') := by
  have hi : i < η.length := (List.getElem?_eq_some_iff.mp hs).1
  have w := R.sl i s hs
  have gp : G p = none := by
    cases s with
    | non => cases os
    | val d => cases os
    | own u => obtain ⟨q, h1, h2, _, _⟩ := w; rw [h1] at e; cases e; exact h2
    | mu u => obtain ⟨q, h1, h2, _, _⟩ := w; rw [h1] at e; cases e; exact h2
  have fp : F.H p = none ∨ F.m = some p := by
    cases s with
    | non => cases os
    | val d => cases os
    | own u => obtain ⟨q, h1, _, h3, _⟩ := w; rw [h1] at e; cases e; exact .inl h3
    | mu u => obtain ⟨q, h1, _, h3, _⟩ := w; rw [h1] at e; cases e; exact .inr h3
  refine ⟨fun b u q => ?_, R.g0, fun a o q n => ?_, fun a q => ⟨?_, (R.mm a q).2⟩, R.gn, by rw [List.length_set]; exact R.len, fun j t ht => ?_, fun j k t t' q h1 h2 o1 o2 e1 e2 => ?_⟩
  · rw [upd_ne (ne_of_none q gp)]; exact R.gh _ _ q
  · have : a ≠ p := by
      rintro rfl
      rcases fp with z | z
      · rw [z] at q; cases q
      · exact n z
    rw [upd_ne this]; exact R.fr a o q n
  · by_cases ha : a = p
    · subst ha; exact ⟨_, upd_same⟩
    · rw [upd_ne ha]; exact (R.mm a q).1
  · by_cases hj : i = j
    · subst hj
      rw [List.getElem?_set_self hi] at ht
      cases ht
      rcases hs' with ⟨o, o', rfl, rfl, z⟩ | ⟨o, o', rfl, rfl, z⟩
      · obtain ⟨q, h1, h2, h3, _⟩ := w; rw [h1] at e; cases e; exact ⟨p, h1, h2, h3, z⟩
      · obtain ⟨q, h1, h2, h3, _⟩ := w; rw [h1] at e; cases e; exact ⟨p, h1, h2, h3, z⟩
    · rw [List.getElem?_set_ne hj] at ht
      have z := R.sl j t ht
      have ne : t.isO = true → ∀ q, σ[j]? = some (some (.ref q)) → q ≠ p := fun ot q hq z => hj (R.di i j s t p hs ht os ot e (by rw [← z]; exact hq))
      cases t with
      | non => trivial
      | val d => exact z
      | own o => obtain ⟨q, h1, h2, h3, h4⟩ := z; exact ⟨q, h1, h2, h3, h4.mono (Same.refl _) fun u hu => by rw [upd_ne (ne rfl q h1)]; exact hu⟩
      | mu o => obtain ⟨q, h1, h2, h3, h4⟩ := z; exact ⟨q, h1, h2, h3, h4.mono (Same.refl _) fun u hu => by rw [upd_ne (ne rfl q h1)]; exact hu⟩
  · have back : ∀ {j : Nat} {t : Slot}, (η.set i s')[j]? = some t → t.isO = true → ∃ u, η[j]? = some u ∧ u.isO = true := fun {j t} h o => by
      by_cases hj : i = j
      · subst hj; exact ⟨s, hs, os⟩
      · rw [List.getElem?_set_ne hj] at h; exact ⟨t, h, o⟩
    obtain ⟨u, g1, g2⟩ := back h1 o1
    obtain ⟨u', g3, g4⟩ := back h2 o2
    exact R.di j k u u' q g1 g3 g2 g4 e1 e2
/-- a list of one's own is frozen -/
theorem Rep.freeze (R : Rep Z F G H σ η) {i : Nat} {ds : List D} (hs : η[i]? = some (.own (.lst ds))) :
    ∃ p vs, σ[i]? = some (some (.ref p)) ∧ G p = none ∧ Rep Z F (upd G p (.lst vs)) H σ (η.set i (.val (.list ds))) ∧ Dq Z.K (upd G p (.lst vs)) (.ref p) (.list ds) := by
  have hi : i < η.length := (List.getElem?_eq_some_iff.mp hs).1
  obtain ⟨p, h1, h2, h3, vs, h4, h5⟩ := R.sl i _ hs
  have sg : Same G (upd G p (.lst vs)) := Same.upd h2
  have dp : Dq Z.K (upd G p (.lst vs)) (.ref p) (.list ds) := .lst (SqL.of upd_same) (DqAll.mono sg _ _ h5)
  refine ⟨p, vs, h1, h2, ⟨fun b u q => ?_, R.g0.trans sg, R.fr, R.mm, fun a o q => ?_, by rw [List.length_set]; exact R.len, fun j t ht => ?_, fun j k t t' q g1 g2 o1 o2 e1 e2 => ?_⟩, dp⟩
  · by_cases hb : b = p
    · subst hb; rw [upd_same] at q; cases q; exact h4
    · rw [upd_ne hb] at q; exact R.gh _ _ q
  · by_cases ha : a = p
    · subst ha; exact .inr h3
    · rw [upd_ne ha] at q; exact R.gn a o q
  · by_cases hj : i = j
    · subst hj
      rw [List.getElem?_set_self hi] at ht
      cases ht
      exact ⟨_, h1, dp⟩
    · rw [List.getElem?_set_ne hj] at ht
      have z := R.sl j t ht
      have ne : t.isO = true → ∀ q, σ[j]? = some (some (.ref q)) → q ≠ p := fun ot q hq z => hj (R.di i j _ t p hs ht rfl ot h1 (by rw [← z]; exact hq))
      cases t with
      | non => trivial
      | val d => obtain ⟨v, g1, g2⟩ := z; exact ⟨v, g1, Dq.mono sg _ _ g2⟩
      | own o => obtain ⟨q, g1, g2, g3, g4⟩ := z; exact ⟨q, g1, by rw [upd_ne (ne rfl q g1)]; exact g2, g3, g4.mono sg fun _ u => u⟩
      | mu o => obtain ⟨q, g1, g2, g3, g4⟩ := z; exact ⟨q, g1, by rw [upd_ne (ne rfl q g1)]; exact g2, g3, g4.mono sg fun _ u => u⟩
  · by_cases hj : i = j
    · subst hj
      rw [List.getElem?_set_self hi] at g1
      cases g1; cases o1
    · by_cases hk : i = k
      · subst hk
        rw [List.getElem?_set_self hi] at g2
        cases g2; cases o2
      · rw [List.getElem?_set_ne hj] at g1
        rw [List.getElem?_set_ne hk] at g2
        exact R.di j k t t' q g1 g2 o1 o2 e1 e2
end
end HM

set_option Elab.async false
set_option linter.all false
set_option maxRecDepth 100000
set_option maxHeartbeats 2000000
set_option autoImplicit false
/-! HB: readings by data: expressions that are only looked at (P), tests, operators. -/
namespace HM
open PySem PySem.Spec PyProof.Rows L2
abbrev zx (X : Cx) : Zx := ⟨X.K, X.prog, X.w⟩
abbrev Sta := L2.St

/-! ### weaker readings -/
section
variable {X : Cx}
theorem _root_.L2.PE.weak {e : Expr} {t t' : TE} (h : PE X e t) (w : ∀ σ H Q, t' σ H Q → t σ H Q) : PE X e t' := ⟨fun pins s σ H Q I q => h.run pins s σ H Q I (w σ H Q q)⟩
theorem _root_.L2.PT.weak {e : Expr} {t t' : TT} (h : PT X e t) (w : ∀ σ H Q, t' σ H Q → t σ H Q) : PT X e t' := ⟨fun pins s σ H Q I q => h.run pins s σ H Q I (w σ H Q q)⟩
theorem _root_.L2.PW.weak {e : Expr} {t t' : TT} (h : PW X e t) (w : ∀ σ H Q, t' σ H Q → t σ H Q) : PW X e t' := ⟨fun wh pins s σ H Q I q => h.run wh pins s σ H Q I (w σ H Q q)⟩
theorem _root_.L2.PA.weak {e : List Expr} {t t' : TA} (h : PA X e t) (w : ∀ σ H Q, t' σ H Q → t σ H Q) : PA X e t' := ⟨fun pos pins s σ H Q I q => h.run pos pins s σ H Q I (w σ H Q q)⟩
theorem _root_.L2.PS.weak {e : Stmt} {t t' : TS} (h : PS X e t) (w : ∀ D σ H, t' D σ H → t D σ H) : PS X e t' := ⟨fun pins s σ H D I q => h.run pins s σ H D I (w D σ H q)⟩
theorem _root_.L2.PSs.weak {e : List Stmt} {t t' : TS} (h : PSs X e t) (w : ∀ D σ H, t' D σ H → t D σ H) : PSs X e t' := ⟨fun pins s σ H D I q => h.run pins s σ H D I (w D σ H q)⟩
theorem _root_.L2.PG.weak {e : Expr} {t t' : TG} (h : PG X e t) (w : ∀ v σ H Q, t' v σ H Q → t v σ H Q) : PG X e t' := ⟨fun pins s σ H v u Q I r q => h.run pins s σ H v u Q I r (w v σ H Q q)⟩
theorem _root_.L2.PI.weak {tg e : Expr} {t t' : TI} (h : PI X tg e t) (w : ∀ σ H Q, t' σ H Q → t σ H Q) : PI X tg e t' := ⟨fun pins s σ H Q I q => h.run pins s σ H Q I (w σ H Q q)⟩
end

/-! ### the canonical readings of plain functions of the slots -/
/-- an expression that is looked at -/
def tP (Z : Zx) (f : Sl → Option Pv) : TE := fun σ H Q => ∃ F G η x, Rep Z F G H σ η ∧ f η = some x ∧ ∀ v G' H', Step G H G' H' → PvR Z G' H' v x → Q v H'
/-- a test -/
def tPT (Z : Zx) (f : Sl → Option Bool) : TT := fun σ H Q => ∃ F G η x, Rep Z F G H σ η ∧ f η = some x ∧ ∀ G' H', Step G H G' H' → Q x H'
/-- several -/
def PvRs (Z : Zx) (G H : Hp) : List V → List Pv → Prop := Paired fun v x => PvR Z G H v x
def tPA (Z : Zx) (f : Sl → Option (List Pv)) : TA := fun σ H Q => ∃ F G η xs, Rep Z F G H σ η ∧ f η = some xs ∧ ∀ vs G' H', Step G H G' H' → PvRs Z G' H' vs xs → Q vs H'
/-- an expression that makes a new object, of one's own -/
def tO (Z : Zx) (f : Sl → Option OD) : TE := fun σ H Q => ∃ F G η x, Rep Z F G H σ η ∧ f η = some x ∧ ∀ p G' H', Step G H G' H' → H p = none → G' p = none → OwnR Z G' H' p x → Q (.ref p) H'

abbrev EP (X : Cx) (e : Expr) (f : Sl → Option Pv) : Prop := PE X e (tP (zx X) f)
abbrev ET (X : Cx) (e : Expr) (f : Sl → Option Bool) : Prop := PT X e (tPT (zx X) f)
abbrev EW (X : Cx) (e : Expr) (f : Sl → Option Bool) : Prop := PW X e (tPT (zx X) f)
abbrev EA (X : Cx) (es : List Expr) (f : Sl → Option (List Pv)) : Prop := PA X es (tPA (zx X) f)
abbrev EO (X : Cx) (e : Expr) (f : Sl → Option OD) : Prop := PE X e (tO (zx X) f)

/-! ### operations on values: what they make of data -/
def POp1 (Z : Zx) (r : V → Hp → VK → Prop) (g : Pv → Option Pv) : Prop :=
  ∀ G H x a c, Same G H → PvR Z G H x a → g a = some c → ∀ Q : VK, (∀ z G' H', Step G H G' H' → PvR Z G' H' z c → Q z H') → r x H Q
def POp2 (Z : Zx) (r : V → V → Hp → VK → Prop) (g : Pv → Pv → Option Pv) : Prop :=
  ∀ G H x y a b c, Same G H → PvR Z G H x a → PvR Z G H y b → g a b = some c → ∀ Q : VK, (∀ z G' H', Step G H G' H' → PvR Z G' H' z c → Q z H') → r x y H Q
def POpN (Z : Zx) (r : List V → Hp → VK → Prop) (g : List Pv → Option Pv) : Prop :=
  ∀ G H xs as c, Same G H → PvRs Z G H xs as → g as = some c → ∀ Q : VK, (∀ z G' H', Step G H G' H' → PvR Z G' H' z c → Q z H') → r xs H Q
/-- .. a new object -/
def OOp2 (Z : Zx) (r : V → V → Hp → VK → Prop) (g : Pv → Pv → Option OD) : Prop :=
  ∀ G H x y a b c, Same G H → PvR Z G H x a → PvR Z G H y b → g a b = some c → ∀ Q : VK, (∀ p G' H', Step G H G' H' → H p = none → G' p = none → OwnR Z G' H' p c → Q (.ref p) H') → r x y H Q
def OOpN (Z : Zx) (r : List V → Hp → VK → Prop) (g : List Pv → Option OD) : Prop :=
  ∀ G H xs as c, Same G H → PvRs Z G H xs as → g as = some c → ∀ Q : VK, (∀ p G' H', Step G H G' H' → H p = none → G' p = none → OwnR Z G' H' p c → Q (.ref p) H') → r xs H Q
/-- a new list, frozen -/
def ofL : OD → Option Pv
  | .lst ds => some (.d (.list ds))
  | _ => none
theorem ofL_some {o : OD} {x : Pv} (h : ofL o = some x) : ∃ ds, o = .lst ds ∧ x = .d (.list ds) := by
  cases o with
  | lst ds => exact ⟨ds, rfl, (Option.some.inj h).symm⟩
  | dK _ => cases h
  | dT _ => cases h
/-- freezing what is new -/
theorem froze {Z : Zx} {G H G' H' : Hp} {p : Addr} {ds : List D} (S : Step G H G' H') (hp : H p = none) (gp : G' p = none) (w : OwnR Z G' H' p (.lst ds)) :
    ∃ G'', Step G H G'' H' ∧ Dq Z.K G'' (.ref p) (.list ds) := by
  obtain ⟨vs, h1, h2⟩ := w
  have sg : Same G' (upd G' p (.lst vs)) := Same.upd gp
  refine ⟨upd G' p (.lst vs), ⟨S.g.trans sg, S.h, fun b u e => ?_, fun b u e => ?_⟩, .lst (SqL.of upd_same) (DqAll.mono sg _ _ h2)⟩
  · by_cases hb : b = p
    · subst hb; rw [upd_same] at e; cases e; exact h1
    · rw [upd_ne hb] at e; exact S.gh _ _ e
  · by_cases hb : b = p
    · subst hb; exact .inr hp
    · rw [upd_ne hb] at e; exact S.nw _ _ e
section
variable {Z : Zx}
theorem OOp2.frz {r : V → V → Hp → VK → Prop} {g : Pv → Pv → Option OD} (h : OOp2 Z r g) : POp2 Z r fun a b => (g a b).bind ofL := fun G H x y a b c s ra rb hg Q k => by
  obtain ⟨o, ho, hl⟩ := Option.bind_eq_some_iff.mp hg
  obtain ⟨ds, rfl, rfl⟩ := ofL_some hl
  refine h G H x y a b _ s ra rb ho Q fun p G' H' S hp gp w => ?_
  obtain ⟨G'', S', d⟩ := froze S hp gp w
  exact k _ G'' H' S' d
theorem OOpN.frz {r : List V → Hp → VK → Prop} {g : List Pv → Option OD} (h : OOpN Z r g) : POpN Z r fun a => (g a).bind ofL := fun G H x a c s ra hg Q k => by
  obtain ⟨o, ho, hl⟩ := Option.bind_eq_some_iff.mp hg
  obtain ⟨ds, rfl, rfl⟩ := ofL_some hl
  refine h G H x a _ s ra ho Q fun p G' H' S hp gp w => ?_
  obtain ⟨G'', S', d⟩ := froze S hp gp w
  exact k _ G'' H' S' d
end

/-! ### combinators -/
def pC (x : D) : Sl → Option Pv := fun _ => some (.d x)
/-- a name, looked at -/
def pV (i : Nat) : Sl → Option Pv := fun η => match η[i]? with
  | some (.val d) => some (.d d)
  | some (.own o) => some (.o o)
  | some (.mu o) => some (.o o)
  | _ => none
def p1 (g : Pv → Option Pv) (f : Sl → Option Pv) : Sl → Option Pv := fun η => (f η).bind g
def p2 (g : Pv → Pv → Option Pv) (fa fb : Sl → Option Pv) : Sl → Option Pv := fun η => (fa η).bind fun x => (fb η).bind fun y => g x y
def pN (g : List Pv → Option Pv) (f : Sl → Option (List Pv)) : Sl → Option Pv := fun η => (f η).bind g
def aNil : Sl → Option (List Pv) := fun _ => some []
def aCons (f : Sl → Option Pv) (r : Sl → Option (List Pv)) : Sl → Option (List Pv) := fun η => (f η).bind fun x => (r η).bind fun xs => some (x :: xs)
def oN (g : List Pv → Option OD) (f : Sl → Option (List Pv)) : Sl → Option OD := fun η => (f η).bind g
def o2 (g : Pv → Pv → Option OD) (fa fb : Sl → Option Pv) : Sl → Option OD := fun η => (fa η).bind fun x => (fb η).bind fun y => g x y
def frz (f : Sl → Option OD) : Sl → Option Pv := fun η => (f η).bind ofL
def oPeek (f : Sl → Option OD) : Sl → Option Pv := fun η => (f η).bind fun o => some (.o o)
/-- truth of a bool datum -/
def isB : Pv → Option Bool
  | .d (.bool b) => some b
  | _ => none
def tB1 (f : Sl → Option Pv) : Sl → Option Bool := fun η => (f η).bind isB
def tAnd2 (f g : Sl → Option Bool) : Sl → Option Bool := fun η => (f η).bind fun b => if b = true then g η else some false
def tOr2 (f g : Sl → Option Bool) : Sl → Option Bool := fun η => (f η).bind fun b => if b = true then some true else g η
def tNot1 (f : Sl → Option Bool) : Sl → Option Bool := fun η => (f η).bind fun b => some (!b)
def pB (f : Sl → Option Bool) : Sl → Option Pv := fun η => (f η).bind fun b => some (.d (.bool b))
def pIf (c : Sl → Option Bool) (a b : Sl → Option Pv) : Sl → Option Pv := fun η => (c η).bind fun k => if k = true then a η else b η

section
variable {X : Cx} {e a b : Expr} {pos : Pos} {f fa fb : Sl → Option Pv}
theorem isB_inv {Z : Zx} {G H : Hp} {v : V} {x : Pv} {b : Bool} (r : PvR Z G H v x) (h : isB x = some b) : v = .bl b := by
  cases x with
  | o _ => cases h
  | d x =>
    cases x with
    | bool c => cases h; cases r; rfl
    | _ => cases h
theorem ep_var {i : Nat} {x : Str} (h : PE X (.Name x pos) (tVar i)) : EP X (.Name x pos) (pV i) := h.weak fun σ H Q ⟨F, G, η, x, R, hf, k⟩ => by
  unfold pV at hf
  cases hs : η[i]? with
  | none => rw [hs] at hf; cases hf
  | some s =>
    rw [hs] at hf
    have w := R.sl i s hs
    cases s with
    | non => cases hf
    | val d => cases hf; obtain ⟨v, h1, h2⟩ := w; exact ⟨v, h1, k v G H (Step.refl R.gh) h2⟩
    | own o => cases hf; obtain ⟨p, h1, _, _, h4⟩ := w; exact ⟨_, h1, k _ G H (Step.refl R.gh) ⟨p, rfl, h4⟩⟩
    | mu o => cases hf; obtain ⟨p, h1, _, _, h4⟩ := w; exact ⟨_, h1, k _ G H (Step.refl R.gh) ⟨p, rfl, h4⟩⟩
theorem ep_c {v : V} {d : D} (h : PE X e (tC v)) (r : ∀ H, Dq X.K H v d) : EP X e (pC d) := h.weak fun σ H Q ⟨F, G, η, x, R, hf, k⟩ => by
  cases hf
  exact k v G H (Step.refl R.gh) (r _)
theorem ep_int {i : Int} {j : Nat} : EP X (.Constant (.int i) j pos) (pC (.int i)) := ep_c pe_int fun _ => .int i
theorem ep_bl {i : Bool} {j : Nat} : EP X (.Constant (.bool i) j pos) (pC (.bool i)) := ep_c pe_bl fun _ => .bl i
theorem ep_non {j : Nat} : EP X (.Constant .none j pos) (pC .none) := ep_c pe_non fun _ => .non
theorem ep_str {i : String} {j : Nat} : EP X (.Constant (.str i) j pos) (pC (.str (Str.ofString i))) := ep_c pe_str fun _ => .str _
/-- made, looked at or frozen -/
theorem EO.peek {f : Sl → Option OD} (h : EO X e f) : EP X e (oPeek f) := h.weak fun σ H Q ⟨F, G, η, x, R, hf, k⟩ => by
  obtain ⟨o, ho, hl⟩ := Option.bind_eq_some_iff.mp hf
  cases hl
  exact ⟨F, G, η, o, R, ho, fun p G' H' S _ _ w => k _ G' H' S ⟨p, rfl, w⟩⟩
theorem EO.frz {f : Sl → Option OD} (h : EO X e f) : EP X e (frz f) := h.weak fun σ H Q ⟨F, G, η, x, R, hf, k⟩ => by
  obtain ⟨o, ho, hl⟩ := Option.bind_eq_some_iff.mp hf
  obtain ⟨ds, rfl, rfl⟩ := ofL_some hl
  refine ⟨F, G, η, _, R, ho, fun p G' H' S hp gp w => ?_⟩
  obtain ⟨G'', S', d⟩ := froze S hp gp w
  exact k _ G'' H' S' d
/-- two in a row -/
theorem two {Z : Zx} {r : V → V → Hp → VK → Prop} {g : Pv → Pv → Option Pv} (ho : POp2 Z r g) {σ : Sta} {H : Hp} {Q : VK} (h : tP Z (p2 g fa fb) σ H Q) : tOp r (tP Z fa) (tP Z fb) σ H Q := by
  obtain ⟨F, G, η, z, R, hf, k⟩ := h
  obtain ⟨x, hx, hf⟩ := Option.bind_eq_some_iff.mp hf
  obtain ⟨y, hy, hg⟩ := Option.bind_eq_some_iff.mp hf
  refine ⟨F, G, η, x, R, hx, fun v G1 H1 S1 r1 => ⟨F, G1, η, y, R.step S1, hy, fun w G2 H2 S2 r2 => ?_⟩⟩
  exact ho G2 H2 v w x y z S2.gh (r1.mono S2.g S2.h) r2 hg Q fun u G3 H3 S3 r3 => k u G3 H3 ((S1.trans S2).trans S3) r3
theorem twoO {Z : Zx} {r : V → V → Hp → VK → Prop} {g : Pv → Pv → Option OD} (ho : OOp2 Z r g) {σ : Sta} {H : Hp} {Q : VK} (h : tO Z (o2 g fa fb) σ H Q) : tOp r (tP Z fa) (tP Z fb) σ H Q := by
  obtain ⟨F, G, η, z, R, hf, k⟩ := h
  obtain ⟨x, hx, hf⟩ := Option.bind_eq_some_iff.mp hf
  obtain ⟨y, hy, hg⟩ := Option.bind_eq_some_iff.mp hf
  refine ⟨F, G, η, x, R, hx, fun v G1 H1 S1 r1 => ⟨F, G1, η, y, R.step S1, hy, fun w G2 H2 S2 r2 => ?_⟩⟩
  refine ho G2 H2 v w x y z S2.gh (r1.mono S2.g S2.h) r2 hg Q fun u G3 H3 S3 hp gp r3 => k u G3 H3 ((S1.trans S2).trans S3) ?_ gp r3
  exact S1.h.free (S2.h.free hp)
theorem ep_bin {op : Operator} {r : R2} {g : Pv → Pv → Option Pv} (ho : OpR X (binaryOp op) r) (hg : POp2 (zx X) r g) (ha : EP X a fa) (hb : EP X b fb) : EP X (.BinOp a op b pos) (p2 g fa fb) :=
  (pe_op ho ha hb).weak fun _ _ _ h => two hg h
theorem eo_bin {op : Operator} {r : R2} {g : Pv → Pv → Option OD} (ho : OpR X (binaryOp op) r) (hg : OOp2 (zx X) r g) (ha : EP X a fa) (hb : EP X b fb) : EO X (.BinOp a op b pos) (o2 g fa fb) :=
  (pe_op ho ha hb).weak fun _ _ _ h => twoO hg h
theorem ep_un {op : UnaryOp} {r : V → Hp → VK → Prop} {g : Pv → Option Pv} (ho : UnR X (unaryOp op) r) (hg : POp1 (zx X) r g) (ha : EP X a fa) : EP X (.UnaryOp op a pos) (p1 g fa) :=
  (pe_un ho ha).weak fun σ H Q ⟨F, G, η, z, R, hf, k⟩ => by
    obtain ⟨x, hx, hf⟩ := Option.bind_eq_some_iff.mp hf
    exact ⟨F, G, η, x, R, hx, fun v G1 H1 S1 r1 => hg G1 H1 v x z S1.gh r1 hf Q fun u G2 H2 S2 r2 => k u G2 H2 (S1.trans S2) r2⟩
theorem ep_cmp {op : CmpOp} {r : R2} {g : Pv → Pv → Option Pv} (ho : OpR X (compareOp op) r) (hg : POp2 (zx X) r g) (ha : EP X a fa) (hb : EP X b fb) (hm : behindInMarks op b = false) : EP X (.Compare a [op] [b] pos) (p2 g fa fb) :=
  (pe_cmpR ho ha hb hm).weak fun _ _ _ h => two hg h
/-- a comparison as a test -/
theorem et_cmp {op : CmpOp} {r : R2} {g : Pv → Pv → Option Pv} (ho : OpR X (compareOp op) r) (hg : POp2 (zx X) r g) (ha : EP X a fa) (hb : EP X b fb) (hm : behindInMarks op b = false) : ET X (.Compare a [op] [b] pos) (tB1 (p2 g fa fb)) :=
  (pt_cmpR ho ha hb hm).weak fun σ H Q ⟨F, G, η, z, R, hf, k⟩ => by
    obtain ⟨x, hx, hb⟩ := Option.bind_eq_some_iff.mp hf
    exact two hg ⟨F, G, η, x, R, hx, fun v G' H' S r' => ⟨z, isB_inv r' hb, k G' H' S⟩⟩
/-- an expression whose value is True or False, as a test -/
theorem et_val (h : EP X e f) (he : ∀ whole, isTrue e X.env whole = (do let v ← whole; standAt e.pos; holding [v] (truthy v)) := by intro _; rfl) : ET X e (tB1 f) :=
  (pt_val h he).weak fun σ H Q ⟨F, G, η, z, R, hf, k⟩ => by
    obtain ⟨x, hx, hb⟩ := Option.bind_eq_some_iff.mp hf
    exact ⟨F, G, η, x, R, hx, fun v G' H' S r' => ⟨z, isB_inv r' hb, k G' H' S⟩⟩
theorem et_not {f : Sl → Option Bool} (h : ET X a f) : ET X (.UnaryOp .Not a pos) (tNot1 f) :=
  (pt_not h).weak fun σ H Q ⟨F, G, η, z, R, hf, k⟩ => by
    obtain ⟨x, hx, hb⟩ := Option.bind_eq_some_iff.mp hf
    cases hb
    exact ⟨F, G, η, x, R, hx, fun G' H' S => k G' H' S⟩
theorem ew_and1 {f : Sl → Option Bool} (h : ET X a f) : EW X (.BoolOp .And [a] pos) f := pw_and1 h
theorem ew_or1 {f : Sl → Option Bool} (h : ET X a f) : EW X (.BoolOp .Or [a] pos) f := pw_or1 h
theorem ew_and {rest : List Expr} {f g : Sl → Option Bool} (h : ET X a f) (h2 : EW X (.BoolOp .And (b :: rest) pos) g) : EW X (.BoolOp .And (a :: b :: rest) pos) (tAnd2 f g) :=
  (pw_and h h2).weak fun σ H Q ⟨F, G, η, z, R, hf, k⟩ => by
    obtain ⟨x, hx, hb⟩ := Option.bind_eq_some_iff.mp hf
    refine ⟨F, G, η, x, R, hx, fun G1 H1 S1 => ?_⟩
    cases x with
    | true => exact ⟨F, G1, η, z, R.step S1, hb, fun G2 H2 S2 => k G2 H2 (S1.trans S2)⟩
    | false => cases hb; exact k G1 H1 S1
theorem ew_or {rest : List Expr} {f g : Sl → Option Bool} (h : ET X a f) (h2 : EW X (.BoolOp .Or (b :: rest) pos) g) : EW X (.BoolOp .Or (a :: b :: rest) pos) (tOr2 f g) :=
  (pw_or h h2).weak fun σ H Q ⟨F, G, η, z, R, hf, k⟩ => by
    obtain ⟨x, hx, hb⟩ := Option.bind_eq_some_iff.mp hf
    refine ⟨F, G, η, x, R, hx, fun G1 H1 S1 => ?_⟩
    cases x with
    | false => exact ⟨F, G1, η, z, R.step S1, hb, fun G2 H2 S2 => k G2 H2 (S1.trans S2)⟩
    | true => cases hb; exact k G1 H1 S1
theorem EW.t {f : Sl → Option Bool} (h : EW X e f) : ET X e f := PW.pt h
/-- and, or, not as values (of True and False) -/
theorem ep_one {op : BoolOp} (h : EP X a fa) : EP X (.BoolOp op [a] pos) fa := pe_one h
theorem ep_and {rest : List Expr} (h : EP X a fa) (h2 : EP X (.BoolOp .And (b :: rest) pos) fb) : EP X (.BoolOp .And (a :: b :: rest) pos) (fun η => (tB1 fa η).bind fun k => if k = true then fb η else some (.d (.bool false))) :=
  (pe_and h h2).weak fun σ H Q ⟨F, G, η, z, R, hf, k⟩ => by
    obtain ⟨x, hx, hb⟩ := Option.bind_eq_some_iff.mp hf
    obtain ⟨y, hy, hx⟩ := Option.bind_eq_some_iff.mp hx
    refine ⟨F, G, η, y, R, hy, fun v G1 H1 S1 r1 => ⟨x, isB_inv r1 hx, ?_⟩⟩
    cases x with
    | true => exact ⟨F, G1, η, z, R.step S1, hb, fun v G2 H2 S2 r2 => k v G2 H2 (S1.trans S2) r2⟩
    | false => cases hb; exact k _ G1 H1 S1 (.bl false)
theorem ep_or {rest : List Expr} (h : EP X a fa) (h2 : EP X (.BoolOp .Or (b :: rest) pos) fb) : EP X (.BoolOp .Or (a :: b :: rest) pos) (fun η => (tB1 fa η).bind fun k => if k = true then some (.d (.bool true)) else fb η) :=
  (pe_or h h2).weak fun σ H Q ⟨F, G, η, z, R, hf, k⟩ => by
    obtain ⟨x, hx, hb⟩ := Option.bind_eq_some_iff.mp hf
    obtain ⟨y, hy, hx⟩ := Option.bind_eq_some_iff.mp hx
    refine ⟨F, G, η, y, R, hy, fun v G1 H1 S1 r1 => ⟨x, isB_inv r1 hx, ?_⟩⟩
    cases x with
    | false => exact ⟨F, G1, η, z, R.step S1, hb, fun v G2 H2 S2 r2 => k v G2 H2 (S1.trans S2) r2⟩
    | true => cases hb; exact k _ G1 H1 S1 (.bl true)
theorem ep_not (h : EP X a fa) : EP X (.UnaryOp .Not a pos) (pB (tNot1 (tB1 fa))) :=
  (pe_not h).weak fun σ H Q ⟨F, G, η, z, R, hf, k⟩ => by
    obtain ⟨x1, hx1, hb1⟩ := Option.bind_eq_some_iff.mp (show (tNot1 (tB1 fa) η).bind _ = some z from hf)
    cases hb1
    obtain ⟨x2, hx2, hb2⟩ := Option.bind_eq_some_iff.mp (show (tB1 fa η).bind _ = some x1 from hx1)
    cases hb2
    obtain ⟨y, hy, hx⟩ := Option.bind_eq_some_iff.mp (show (fa η).bind _ = some x2 from hx2)
    exact ⟨F, G, η, y, R, hy, fun v G1 H1 S1 r1 => ⟨_, isB_inv r1 hx, k _ G1 H1 S1 (.bl _)⟩⟩
theorem ep_if {c : Expr} {fc : Sl → Option Bool} (hc : ET X c fc) (h : EP X a fa) (h2 : EP X b fb) : EP X (.IfExp c a b pos) (pIf fc fa fb) :=
  (pe_ifExp hc h h2).weak fun σ H Q ⟨F, G, η, z, R, hf, k⟩ => by
    obtain ⟨x, hx, hb⟩ := Option.bind_eq_some_iff.mp hf
    refine ⟨F, G, η, x, R, hx, fun G1 H1 S1 => ?_⟩
    cases x with
    | true => exact ⟨F, G1, η, z, R.step S1, hb, fun v G2 H2 S2 r2 => k v G2 H2 (S1.trans S2) r2⟩
    | false => exact ⟨F, G1, η, z, R.step S1, hb, fun v G2 H2 S2 r2 => k v G2 H2 (S1.trans S2) r2⟩
/-! ### several arguments -/
theorem PvRs.mono {Z : Zx} {G G' H H' : Hp} (g : Same G G') (h : Same H H') {vs : List V} {xs : List Pv} (r : PvRs Z G H vs xs) : PvRs Z G' H' vs xs := Paired.mapP r fun _ _ z => z.mono g h
theorem ea_nil : EA X [] aNil := pa_nil.weak fun σ H Q ⟨F, G, η, z, R, hf, k⟩ => by
  cases hf
  exact k [] G H (Step.refl R.gh) .nil
theorem ea_cons {es : List Expr} {fr : Sl → Option (List Pv)} (h : EP X a fa) (h2 : EA X es fr) (hs : starEach (a :: es) X.env = (false, eval a X.env) :: starEach es X.env := by rfl) : EA X (a :: es) (aCons fa fr) :=
  (pa_cons h h2 hs).weak fun σ H Q ⟨F, G, η, z, R, hf, k⟩ => by
    obtain ⟨x, hx, hf⟩ := Option.bind_eq_some_iff.mp hf
    obtain ⟨xs, hxs, hf⟩ := Option.bind_eq_some_iff.mp hf
    cases hf
    exact ⟨F, G, η, x, R, hx, fun v G1 H1 S1 r1 => ⟨F, G1, η, xs, R.step S1, hxs, fun vs G2 H2 S2 r2 => k _ G2 H2 (S1.trans S2) (.cons (r1.mono S2.g S2.h) r2)⟩⟩
theorem manyP {Z : Zx} {r : List V → Hp → VK → Prop} {g : List Pv → Option Pv} {f : Sl → Option (List Pv)} (ho : POpN Z r g) {σ : Sta} {H : Hp} {Q : VK} (h : tP Z (pN g f) σ H Q) : tCB r (tPA Z f) σ H Q := by
  obtain ⟨F, G, η, z, R, hf, k⟩ := h
  obtain ⟨xs, hx, hf⟩ := Option.bind_eq_some_iff.mp hf
  exact ⟨F, G, η, xs, R, hx, fun vs G1 H1 S1 r1 => ho G1 H1 vs xs z S1.gh r1 hf Q fun u G2 H2 S2 r2 => k u G2 H2 (S1.trans S2) r2⟩
theorem manyO {Z : Zx} {r : List V → Hp → VK → Prop} {g : List Pv → Option OD} {f : Sl → Option (List Pv)} (ho : OOpN Z r g) {σ : Sta} {H : Hp} {Q : VK} (h : tO Z (oN g f) σ H Q) : tCB r (tPA Z f) σ H Q := by
  obtain ⟨F, G, η, z, R, hf, k⟩ := h
  obtain ⟨xs, hx, hf⟩ := Option.bind_eq_some_iff.mp hf
  exact ⟨F, G, η, xs, R, hx, fun vs G1 H1 S1 r1 => ho G1 H1 vs xs z S1.gh r1 hf Q fun u G2 H2 S2 hp gp r2 => k u G2 H2 (S1.trans S2) (S1.h.free hp) gp r2⟩
/-- the data of what is looked at -/
def dOf : Pv → Option D
  | .d x => some x
  | .o (.lst ds) => some (.list ds)
  | _ => none
/-- as a datum of the whole heap -/
theorem PvR.dq {Z : Zx} {G H : Hp} {v : V} {x : Pv} {d : D} (s : Same G H) (r : PvR Z G H v x) (h : dOf x = some d) : Dq Z.K H v d := by
  cases x with
  | d x => cases h; exact Dq.mono s _ _ r
  | o x =>
    cases x with
    | lst ds => cases h; obtain ⟨p, rfl, vs, h1, h2⟩ := r; exact .lst (SqL.of h1) (DqAll.mono s _ _ h2)
    | dK _ => cases h
    | dT _ => cases h
/-- a list that is looked at -/
def lstOf : Pv → Option (List D)
  | .d (.list ds) => some ds
  | .o (.lst ds) => some ds
  | _ => none
theorem PvR.sql {Z : Zx} {G H : Hp} {v : V} {x : Pv} {ds : List D} (s : Same G H) (r : PvR Z G H v x) (h : lstOf x = some ds) : ∃ p vs, v = .ref p ∧ SqL Z.K H p vs ∧ DqAll Z.K G vs ds := by
  cases x with
  | d x =>
    cases x with
    | list es =>
      cases h
      cases r with
      | lst h1 h2 => exact ⟨_, _, rfl, s.seq h1, h2⟩
    | _ => cases h
  | o x =>
    cases x with
    | lst es => cases h; obtain ⟨p, rfl, vs, h1, h2⟩ := r; exact ⟨p, vs, rfl, SqL.of h1, h2⟩
    | dK _ => cases h
    | dT _ => cases h
def tupOf : Pv → Option (List D)
  | .d (.tuple ds) => some ds
  | _ => none
theorem PvR.sqt {Z : Zx} {G H : Hp} {v : V} {x : Pv} {ds : List D} (r : PvR Z G H v x) (h : tupOf x = some ds) : ∃ p vs, v = .ref p ∧ TupO G p vs ∧ DqAll Z.K G vs ds := by
  cases x with
  | d x =>
    cases x with
    | tuple es =>
      cases h
      cases r with
      | tup h1 h2 => exact ⟨_, _, rfl, h1, h2⟩
    | _ => cases h
  | o x => cases h
def intOf : Pv → Option Int
  | .d (.int i) => some i
  | _ => none
theorem PvR.int {Z : Zx} {G H : Hp} {v : V} {x : Pv} {i : Int} (r : PvR Z G H v x) (h : intOf x = some i) : v = .int i := by
  cases x with
  | d x =>
    cases x with
    | int j => cases h; cases r; rfl
    | _ => cases h
  | o x => cases h
def strOf : Pv → Option Str
  | .d (.str i) => some i
  | _ => none
theorem PvR.str {Z : Zx} {G H : Hp} {v : V} {x : Pv} {i : Str} (r : PvR Z G H v x) (h : strOf x = some i) : v = .str i := by
  cases x with
  | d x =>
    cases x with
    | str j => cases h; cases r; rfl
    | _ => cases h
  | o x => cases h
end
end HM

set_option Elab.async false
set_option linter.all false
set_option maxRecDepth 100000
set_option maxHeartbeats 4000000
set_option autoImplicit false
/-! HC: operations on values and what they make of data. -/
namespace HM
open PySem PySem.Spec PyProof.Rows L2

theorem line_eq : sizeLine = 16777216 := sizeLine_eq
/-! ### tuples are made known to their objects -/
section
variable {X : Cx} {pins : List (Addr × Obj)} {σ : Sta} {H : Hp} {s : Shared}
/-- a tuple's object -/
abbrev tobj (us : List Value) : Obj := { cls := .type "tuple", data := .seq us.toArray }
theorem lay_tup {xs : List V} {us : List Value} (I : Inv X pins σ H s) (r : Vals xs us) (hz : xs.length ≤ sizeLine) (t : Nat) :
    Inv X pins σ (upd H s.heap.objs.size (.frz (tobj us) (.tup xs))) { s with heap := s.heap.push (tobj us), toks := t } := by
  have e : (s.heap.push (tobj us)).get? s.heap.objs.size = some (tobj us) := Heap.get?_push_size s.heap rfl
  exact I.laid (fun b o q => Heap.get?_push_of_some _ q) (Nat.le_refl _) ⟨e, hz, us, r, ⟨_, e, rfl, _, rfl⟩⟩
/-- what is asked of a new tuple -/
abbrev NewT (H : Hp) (xs : List V) (Q : VK) : Prop := ∀ p o, H p = none → o.dict = none → Q (.ref p) (upd H p (.frz o (.tup xs)))
theorem fin_tup {xs : List V} {us : List Value} {Q : VK} (I : Inv X pins σ H s) (r : Vals xs us) (hz : xs.length ≤ sizeLine) (q : NewT H xs Q) (t : Nat) :
    L2.EP X pins σ Q (.ref s.heap.objs.size) { s with heap := s.heap.push (tobj us), toks := t } :=
  ⟨.ref s.heap.objs.size, _, lay_tup I r hz t, rfl, q _ _ (I.hok.fresh (Nat.le_refl _)) rfl⟩
end

section
variable {X : Cx}
/-! ### tuples: displays, tuple(..), +, slices -/
def tTupF (t : TA) : TE := fun σ H Q => t σ H fun xs H1 => xs.length ≤ sizeLine ∧ NewT H1 xs Q
theorem pe_tupF {es : List Expr} {t : TA} {x1 : Nat} {pos : Pos} (h : PA X es t) : PE X (.Tuple es x1 pos) (tTupF t) := by
  refine ⟨fun pins s σ H Q I hq => ?_⟩
  refine wpAny_Tuple_spliced (thn (h.run pos pins s σ H _ I hq) fun us s1 ⟨xs, H1, I1, r, z, q⟩ => ⟨by rw [← r.length]; exact z, ?_⟩)
  exact fin_tup I1 r z q s1.toks
def rTupOf (K : PySem.W.Frag) : List V → Hp → VK → Prop := fun vs H Q => ∃ p ys, vs = [.ref p] ∧ ((SqL K H p ys ∧ NewT H ys Q) ∨ (SqT K H p ys ∧ Q (.ref p) H))
theorem call_tupF : CallR X (.type "tuple") (rTupOf X.K) := by
  intro pins s σ H xs us Q I r h
  obtain ⟨p, ys, rfl, h⟩ := h
  obtain ⟨u, rfl, rx⟩ := vals1 r
  cases rx
  rcases h with ⟨hq, q⟩ | ⟨hq, q⟩
  · obtain ⟨its, rv, pl, hz⟩ := I.list hq
    refine call_tuple_list pl.isList (fun h' kp => ?_) (by rw [List.size_toArray, ← rv.length]; exact hz)
    have J : Inv X pins σ H { s with heap := h' } := I.kept (t' := s.toks) kp
    exact fin_tup J rv hz q s.toks
  · obtain ⟨its, rv, pl, _⟩ := I.tuple hq
    exact call_tuple_same pl ⟨.ref p, H, I, rfl, q⟩
def tTupRgF (te : Sta → Hp → (Int → Int → Hp → Prop) → Prop) : TE := fun σ H Q => te σ H fun a b H1 => RgOk a b ∧ NewT H1 (rgV a b) Q
theorem pe_tupRgF {e : Expr} {te : Sta → Hp → (Int → Int → Hp → Prop) → Prop} {p pos : Pos} (hc : X.calm = true) (hg : Gl X "tuple") (hm : X.mg "tuple" = none) (he : PRg X e te) (na : starEach [e] X.env = (false, eval e X.env) :: starEach [] X.env := by rfl) :
    PE X (.Call (.Name "tuple" p) [e] [] pos) (tTupRgF te) := by
  refine ⟨fun pins s σ H Q I h => ?_⟩
  refine Call_ (ld_blt I hg hm boot_tuple (PyProof.Rows.callWith_type1 (args_cons (thn (he pins s σ H _ I h) fun x s1 ⟨r, a, b, t, u, v, H1, ex, hr, I1, ok, q⟩ => args_nil ?_) na) na))
  subst ex
  obtain ⟨b1, b2, b3, b4, b5⟩ := ok
  refine call_tuple_range (n := (b - a).toNat) (I1.ok.hd hc) hr (small_one b1 b2 b3 b4) (rangeSize_nat a b) b5 fun h' tk acc hk hi => ?_
  have J : Inv X pins σ H1 { s1 with heap := h', toks := tk } := I1.kept hk
  have z : (rgV a b).length ≤ sizeLine := by rw [rgV_length, sizeLine_eq]; omega
  have f := fin_tup (us := acc.toList) J (vals_rg hi) z q tk
  simpa using f
def rCatF (K : PySem.W.Frag) : R2 := fun x y H Q => ∃ a b xs ys, x = .ref a ∧ y = .ref b ∧ SqT K H a xs ∧ SqT K H b ys ∧ xs.length + ys.length ≤ sizeLine ∧
  (xs = [] → Q (.ref b) H) ∧ (xs ≠ [] → ys = [] → Q (.ref a) H) ∧ (xs ≠ [] → ys ≠ [] → NewT H (xs ++ ys) Q)
theorem op_catF : OpR X (binaryOp .Add) (rCatF X.K) := by
  intro pins s σ H x y v u Q I rx ry h
  obtain ⟨a, b, xs, ys, rfl, rfl, ha, hb, hz, q0, q1, q2⟩ := h
  cases rx
  cases ry
  obtain ⟨its, r1, i1, _⟩ := I.tuple ha
  obtain ⟨jts, r2, i2, _⟩ := I.tuple hb
  by_cases hx : xs = []
  · subst hx
    cases r1
    exact cat_tup0 i1 i2 ⟨.ref b, H, I, rfl, q0 rfl⟩
  · refine HT.cat_tup i1 i2 (fun z => hx (r1.nil_iff.mp z)) (fun z => ⟨.ref a, H, I, rfl, q1 hx (r2.nil_iff.mp z)⟩) (fun z => ?_) (by rw [← r1.length, ← r2.length]; exact hz)
    exact fin_tup (t := s.toks) I (r1.append r2) (by rw [List.length_append]; exact hz) (q2 hx fun w => z (r2.nil_iff.mpr w))
def rSlF (K : PySem.W.Frag) : V → Option Int → Option Int → Hp → VK → Prop := fun x lo hi H Q => ∃ a xs, x = .ref a ∧ SqT K H a xs ∧ (cutV xs lo hi = xs → Q (.ref a) H) ∧ NewT H (cutV xs lo hi) Q
theorem cut_all {xs : List V} {lo hi : Option Int} (h : HT.sIx xs.length 0 lo = 0 ∧ HT.sIx xs.length xs.length hi = xs.length) : cutV xs lo hi = xs := by
  unfold cutV
  rw [h.1, h.2, List.drop_zero, Nat.sub_zero, List.take_length]
theorem sl_tupF : SlR X (rSlF X.K) := by
  intro pins s σ H x v vl vu lo hi sl Q I rx hs pl pu h
  obtain ⟨a, xs, rfl, hx, q1, q2⟩ := h
  cases rx
  obtain ⟨its, r, ht, hz⟩ := I.tuple hx
  have len : its.toArray.size = xs.length := by rw [List.size_toArray]; exact r.length.symm
  refine ⟨"tuple", _, PyProof.Rows.slot_tuple_getitem.lookup, ht.typeIs, ?_⟩
  by_cases hw : HT.sIx xs.length 0 lo = 0 ∧ HT.sIx xs.length xs.length hi = xs.length
  · exact getItem_tuple_whole ht hs pl pu (by rw [len]; exact hw) ⟨.ref a, H, I, rfl, q1 (cut_all hw)⟩
  · refine HT.getItem_tuple_cut ht hs pl pu (by rw [len]; exact hw) ?_ (by rw [len]; exact hz)
    rw [len]
    exact fin_tup (t := s.toks) I ((r.drop _).take _) (Nat.le_trans (cutV_length xs lo hi) hz) q2
/-! ### lists: +, any lists that may be read -/
def rCatL (K : PySem.W.Frag) : R2 := fun x y H Q => ∃ l b xs zs, x = .ref l ∧ y = .ref b ∧ SqL K H l xs ∧ SqL K H b zs ∧ xs.length + zs.length ≤ sizeLine ∧ ∀ p, H p = none → Q (.ref p) (upd H p (.lst (xs ++ zs)))
theorem op_catL : OpR X (binaryOp .Add) (rCatL X.K) := by
  intro pins s σ H x y v u Q I rx ry h
  obtain ⟨l, b, xs, zs, rfl, rfl, hl, hb, hz, q⟩ := h
  cases rx
  cases ry
  obtain ⟨its, r, ⟨⟨c1, d1, a1, s1⟩, n, e1, h1, h2, h3⟩, _⟩ := I.list hl
  obtain ⟨jts, r2, ⟨⟨c2, d2, a2, s2⟩, n2, e2, g1, g2, g3⟩, _⟩ := I.list hb
  simp only at h1 h2 h3 g1 g2 g3
  subst h1 h2 h3 g1 g2 g3
  have hz' : its.toArray.size + jts.toArray.size ≤ sizeLine := by rw [List.size_toArray, List.size_toArray, ← r.length, ← r2.length]; exact hz
  refine concat_meets ⟨_, e1, rfl⟩ ⟨_, e2, rfl⟩ noFill_list_add seq_list_add PySem.F.slot_list_add PySem.F.entry_list_add (PySem.F.args_list_add_2 _ _) (list_addW l b its.toArray jts.toArray n n2 none none s1 s2 hz') ⟨e1, e2, ?_⟩
  have ea : its.toArray ++ jts.toArray = (its ++ jts).toArray := by simp
  rw [ea]
  exact ⟨.ref _, _, I.lnew (t' := s.toks) (r.append r2) (by rw [List.length_append]; omega), rfl, q _ I.fresh⟩
end

/-! ### data made by operations -/
section
variable {Z : Zx} {G H : Hp}
/-- frozen data of what is looked at -/
def datOf : Pv → Option D
  | .d x => some x
  | _ => none
def datsOf : List Pv → Option (List D)
  | [] => some []
  | x :: xs => (datOf x).bind fun d => (datsOf xs).bind fun ds => some (d :: ds)
theorem datOf_inv {v : V} {x : Pv} {d : D} (r : PvR Z G H v x) (h : datOf x = some d) : Dq Z.K G v d := by
  cases x with
  | d y => cases h; exact r
  | o _ => cases h
theorem datsOf_inv : ∀ {xs : List Pv} {vs : List V} {ds : List D}, PvRs Z G H vs xs → datsOf xs = some ds → DqAll Z.K G vs ds
  | [], _, _, r, h => by cases r; cases h; exact .nil
  | x :: xs, _, ds, r, h => by
    obtain ⟨d, h1, h⟩ := Option.bind_eq_some_iff.mp h
    obtain ⟨es, h2, h⟩ := Option.bind_eq_some_iff.mp h
    cases h
    cases r with
    | cons r1 r2 => exact .cons (datOf_inv r1 h1) (datsOf_inv r2 h2)
theorem one_inv {xs : List V} {x : Pv} (r : PvRs Z G H xs [x]) : ∃ v, xs = [v] ∧ PvR Z G H v x := by
  cases r with
  | cons a b => cases b; exact ⟨_, rfl, a⟩
theorem two_inv {xs : List V} {x y : Pv} (r : PvRs Z G H xs [x, y]) : ∃ v w, xs = [v, w] ∧ PvR Z G H v x ∧ PvR Z G H w y := by
  cases r with
  | cons a b => cases b with
    | cons b c => cases c; exact ⟨_, _, rfl, a, b⟩
/-- a new tuple is a datum -/
theorem tup_step {xs : List V} {ds : List D} (s : Same G H) (r : DqAll Z.K G xs ds) {p : Addr} {o : Obj} (hp : H p = none) (ho : o.dict = none) :
    Step G H (upd G p (.frz o (.tup xs))) (upd H p (.frz o (.tup xs))) ∧ Dq Z.K (upd G p (.frz o (.tup xs))) (.ref p) (.tuple ds) := by
  have sg : Same G (upd G p (.frz o (.tup xs))) := Same.upd (s.free hp)
  exact ⟨.lay s hp, .tup ⟨o, upd_same, ho⟩ (DqAll.mono sg _ _ r)⟩
theorem lst_step {xs : List V} {ds : List D} (s : Same G H) (r : DqAll Z.K G xs ds) {p : Addr} (hp : H p = none) :
    Step G H G (upd H p (.lst xs)) ∧ G p = none ∧ OwnR Z G (upd H p (.lst xs)) p (.lst ds) := ⟨.alloc s hp, s.free hp, xs, upd_same, r⟩
theorem newT_of {xs : List V} {ds : List D} (s : Same G H) (r : DqAll Z.K G xs ds) {Q : VK} (k : ∀ z G' H', Step G H G' H' → PvR Z G' H' z (.d (.tuple ds)) → Q z H') : NewT H xs Q := fun p o hp ho =>
  let ⟨a, b⟩ := tup_step s r hp ho
  k _ _ _ a b
end

/-! #### + -/
def oCat (a b : Pv) : Option OD := (lstOf a).bind fun x => (lstOf b).bind fun y => if x.length + y.length ≤ 16777216 then some (.lst (x ++ y)) else none
def gAdd : Pv → Pv → Option Pv
  | .d (.int i), .d (.int j) => some (.d (.int (i + j)))
  | .d (.str a), .d (.str b) => if a.length + b.length ≤ 16777216 then some (.d (.str (a ++ b))) else none
  | .d (.tuple a), .d (.tuple b) => if a.length + b.length ≤ 16777216 then some (.d (.tuple (a ++ b))) else none
  | a, b => (oCat a b).bind ofL
def rAddU (K : PySem.W.Frag) : R2 := fun x y H Q => (rI0 (fun i j => .int (i + j)) x y H Q ∨ (∃ i j, x = .str i ∧ y = .str j ∧ i.length + j.length ≤ sizeLine ∧ Q (.str (i ++ j)) H)) ∨ (rCatF K x y H Q ∨ rCatL K x y H Q)
theorem op_addU {X : Cx} : OpR X (binaryOp .Add) (rAddU X.K) := (op_add.or op_add_str).or (op_catF.or op_catL)
theorem og_cat {Z : Zx} : OOp2 Z (rCatL Z.K) oCat := fun G H x y a b c s ra rb hg Q k => by
  obtain ⟨xs, h1, hg⟩ := Option.bind_eq_some_iff.mp hg
  obtain ⟨ys, h2, hg⟩ := Option.bind_eq_some_iff.mp hg
  split at hg
  · rename_i hz
    cases hg
    obtain ⟨p, vs, rfl, q1, d1⟩ := ra.sql s h1
    obtain ⟨q, ws, rfl, q2, d2⟩ := rb.sql s h2
    refine ⟨p, q, vs, ws, rfl, rfl, q1, q2, by rw [d1.len, d2.len, line_eq]; exact hz, fun l hl => ?_⟩
    obtain ⟨S, g, w⟩ := lst_step s (d1.app d2) hl
    exact k l _ _ S hl g w
  · cases hg
theorem og_addU {Z : Zx} : OOp2 Z (rAddU Z.K) oCat := fun G H x y a b c s ra rb hg Q k => .inr (.inr (og_cat G H x y a b c s ra rb hg Q k))
theorem pg_add {Z : Zx} : POp2 Z (rAddU Z.K) gAdd := fun G H x y a b c s ra rb hg Q k => by
  unfold gAdd at hg
  split at hg
  · cases hg
    cases ra
    cases rb
    exact .inl (.inl ⟨_, _, rfl, rfl, k _ G H (.refl s) (Dq.int _)⟩)
  · split at hg
    · rename_i hz
      cases hg
      cases ra
      cases rb
      exact .inl (.inr ⟨_, _, rfl, rfl, by rw [line_eq]; exact hz, k _ G H (.refl s) (Dq.str _)⟩)
    · cases hg
  · split at hg
    · rename_i hz
      cases hg
      cases ra with
      | tup t1 d1 =>
        cases rb with
        | tup t2 d2 =>
          refine .inr (.inl ⟨_, _, _, _, rfl, rfl, (t1.mono s).sq, (t2.mono s).sq, by rw [d1.len, d2.len, line_eq]; exact hz, fun e => ?_, fun _ e => ?_, fun _ _ => newT_of s (d1.app d2) k⟩)
          · subst e
            cases d1
            exact k _ G H (.refl s) (.tup t2 d2)
          · subst e
            cases d2
            rw [List.append_nil] at k
            exact k _ G H (.refl s) (.tup t1 d1)
    · cases hg
  · exact og_cat.frz G H x y a b c s ra rb hg Q k |> fun z => .inr (.inr z)

/-! #### numbers -/
def gI2 (g : Int → Int → Option D) : Pv → Pv → Option Pv
  | .d (.int i), .d (.int j) => (g i j).bind fun d => some (.d d)
  | _, _ => none
theorem gI2_inv {g : Int → Int → Option D} {a b c : Pv} (h : gI2 g a b = some c) : ∃ i j d, a = .d (.int i) ∧ b = .d (.int j) ∧ g i j = some d ∧ c = .d d := by
  unfold gI2 at h
  split at h
  · obtain ⟨d, h1, h2⟩ := Option.bind_eq_some_iff.mp h
    cases h2
    exact ⟨_, _, d, rfl, rfl, h1, rfl⟩
  · cases h
/-- an operation of two whole numbers under a condition -/
theorem pg_int {Z : Zx} {C : Int → Int → Prop} {f : Int → Int → V} {g : Int → Int → Option D} (h : ∀ i j d, g i j = some d → C i j ∧ ∀ H, Dq Z.K H (f i j) d) : POp2 Z (rI C f) (gI2 g) := fun G H x y a b c s ra rb hg Q k => by
  obtain ⟨i, j, d, rfl, rfl, h1, rfl⟩ := gI2_inv hg
  cases ra
  cases rb
  obtain ⟨hc, hd⟩ := h i j d h1
  exact ⟨_, _, rfl, rfl, hc, k _ G H (.refl s) (hd G)⟩
theorem pg_int0 {Z : Zx} {f : Int → Int → V} {g : Int → Int → D} (h : ∀ i j H, Dq Z.K H (f i j) (g i j)) : POp2 Z (rI0 f) (gI2 fun i j => some (g i j)) := fun G H x y a b c s ra rb hg Q k => by
  obtain ⟨i, j, d, rfl, rfl, h1, rfl⟩ := gI2_inv hg
  cases h1
  cases ra
  cases rb
  exact ⟨_, _, rfl, rfl, k _ G H (.refl s) (h _ _ G)⟩
abbrev gSub := gI2 fun i j => some (.int (i - j))
theorem pg_sub {Z : Zx} : POp2 Z (rI0 fun i j => .int (i - j)) gSub := pg_int0 fun _ _ _ => .int _
/-- * of numbers whose bits are few enough -/
abbrev gMulI := gI2 fun i j => if i.natAbs.log2 + j.natAbs.log2 < 1000000 then some (.int (i * j)) else none
theorem pg_mulI {Z : Zx} : POp2 Z (rI CMulW fun i j => .int (i * j)) gMulI := pg_int fun i j d h => by
  split at h
  · rename_i hc
    cases h
    exact ⟨hc, fun _ => .int _⟩
  · cases h
abbrev gDiv := gI2 fun i j => if 0 < j ∧ j.natAbs.log2 < 9000 then some (.int (i / j)) else none
theorem pg_div {Z : Zx} : POp2 Z (rI CDivW fun i j => .int (i / j)) gDiv := pg_int fun i j d h => by
  split at h
  · rename_i hc
    cases h
    exact ⟨hc, fun _ => .int _⟩
  · cases h
abbrev gMod := gI2 fun i j => if 0 < j then some (.int (i % j)) else none
theorem pg_mod {Z : Zx} : POp2 Z (rI (fun _ j => 0 < j) fun i j => .int (i % j)) gMod := pg_int fun i j d h => by
  split at h
  · rename_i hc
    cases h
    exact ⟨hc, fun _ => .int _⟩
  · cases h
abbrev gPow := gI2 fun i j => if 0 ≤ j ∧ j ≤ 1000000 ∧ i.natAbs < 2 ^ 64 then some (.int (i ^ j.toNat)) else none
theorem pg_pow {Z : Zx} : POp2 Z (rI CPow fun i j => .int (i ^ j.toNat)) gPow := pg_int fun i j d h => by
  split at h
  · rename_i hc
    cases h
    exact ⟨hc, fun _ => .int _⟩
  · cases h
abbrev gLt := gI2 fun i j => some (.bool (decide (i < j)))
abbrev gLe := gI2 fun i j => some (.bool (decide (i ≤ j)))
abbrev gGt := gI2 fun i j => some (.bool (decide (j < i)))
abbrev gGe := gI2 fun i j => some (.bool (decide (j ≤ i)))
theorem pg_lt {Z : Zx} : POp2 Z (rI0 fun i j => .bl (decide (i < j))) gLt := pg_int0 fun _ _ _ => .bl _
theorem pg_le {Z : Zx} : POp2 Z (rI0 fun i j => .bl (decide (i ≤ j))) gLe := pg_int0 fun _ _ _ => .bl _
theorem pg_gt {Z : Zx} : POp2 Z (rI0 fun i j => .bl (decide (j < i))) gGt := pg_int0 fun _ _ _ => .bl _
theorem pg_ge {Z : Zx} : POp2 Z (rI0 fun i j => .bl (decide (j ≤ i))) gGe := pg_int0 fun _ _ _ => .bl _
def gNeg : Pv → Option Pv
  | .d (.int i) => some (.d (.int (-i)))
  | _ => none
theorem pg_neg {Z : Zx} : POp1 Z (rU fun i => .int (-i)) gNeg := fun G H x a c s ra hg Q k => by
  unfold gNeg at hg
  split at hg
  · cases hg
    cases ra
    exact ⟨_, rfl, k _ G H (.refl s) (Dq.int _)⟩
  · cases hg
/-- [..] * n -/
def ownOf : Pv → Option (List D)
  | .o (.lst ds) => some ds
  | _ => none
def oRep (a b : Pv) : Option OD := (ownOf a).bind fun x => (intOf b).bind fun n => if -(2 ^ 63) ≤ n ∧ n < 2 ^ 63 ∧ x.length * n.toNat ≤ 16777216 then some (.lst (List.replicate n.toNat x).flatten) else none

/-! #### ==, in, is -/
def gEq (neg : Bool) (a b : Pv) : Option Pv := (dOf a).bind fun x => (dOf b).bind fun y => if SeqAt.shaped x = true ∧ SeqAt.shaped y = true then some (.d (.bool (if neg = true then !PyData.eqv x y else PyData.eqv x y))) else none
theorem gEq_inv {neg : Bool} {a b c : Pv} (h : gEq neg a b = some c) : ∃ x y, dOf a = some x ∧ dOf b = some y ∧ SeqAt.shaped x = true ∧ SeqAt.shaped y = true ∧ c = .d (.bool (if neg = true then !PyData.eqv x y else PyData.eqv x y)) := by
  obtain ⟨x, h1, h⟩ := Option.bind_eq_some_iff.mp h
  obtain ⟨y, h2, h⟩ := Option.bind_eq_some_iff.mp h
  split at h
  · rename_i hs
    cases h
    exact ⟨x, y, h1, h2, hs.1, hs.2, rfl⟩
  · cases h
theorem pg_eq {Z : Zx} : POp2 Z (rEqD Z.K) (gEq false) := fun G H x y a b c s ra rb hg Q k => by
  obtain ⟨d, e, h1, h2, h3, h4, rfl⟩ := gEq_inv hg
  exact ⟨d, e, Dq.dp _ _ (ra.dq s h1), Dq.dp _ _ (rb.dq s h2), h3, h4, k _ G H (.refl s) (Dq.bl _)⟩
theorem pg_ne {Z : Zx} : POp2 Z (rNeD Z.K) (gEq true) := fun G H x y a b c s ra rb hg Q k => by
  obtain ⟨d, e, h1, h2, h3, h4, rfl⟩ := gEq_inv hg
  exact ⟨d, e, Dq.dp _ _ (ra.dq s h1), Dq.dp _ _ (rb.dq s h2), h3, h4, k _ G H (.refl s) (Dq.bl _)⟩
def gIsN (neg : Bool) (a b : Pv) : Option Pv := match b with
  | .d .none => (match a with
    | .d .none => some (.d (.bool (!neg)))
    | _ => some (.d (.bool neg)))
  | _ => none
theorem dec_non {Z : Zx} {G H : Hp} {v : V} {a : Pv} (r : PvR Z G H v a) : decide (v = .non) = (match a with | .d .none => true | _ => false) := by
  cases a with
  | o x => obtain ⟨p, rfl, _⟩ := r; exact decide_eq_false fun z => nomatch z
  | d x =>
    cases r <;> first
      | exact decide_eq_true rfl
      | exact decide_eq_false fun z => nomatch z
theorem pg_isN {Z : Zx} : POp2 Z (fun x y H Q => y = .non ∧ Q (.bl (decide (x = .non))) H) (gIsN false) := fun G H x y a b c s ra rb hg Q k => by
  unfold gIsN at hg
  split at hg
  · cases rb
    rw [dec_non ra]
    split at hg <;> cases hg <;> first
      | exact ⟨rfl, k _ G H (.refl s) (Dq.bl _)⟩
      | (split <;> first
          | (exfalso; simp_all; done)
          | exact ⟨rfl, k _ G H (.refl s) (Dq.bl _)⟩)
  · cases hg
theorem pg_notN {Z : Zx} : POp2 Z (fun x y H Q => y = .non ∧ Q (.bl (!decide (x = .non))) H) (gIsN true) := fun G H x y a b c s ra rb hg Q k => by
  unfold gIsN at hg
  split at hg
  · cases rb
    rw [dec_non ra]
    split at hg <;> cases hg <;> first
      | exact ⟨rfl, k _ G H (.refl s) (Dq.bl _)⟩
      | (split <;> first
          | (exfalso; simp_all; done)
          | exact ⟨rfl, k _ G H (.refl s) (Dq.bl _)⟩)
  · cases hg
end HM

set_option Elab.async false
set_option linter.all false
set_option maxRecDepth 100000
set_option maxHeartbeats 4000000
set_option autoImplicit false
/-! HD: more operations: subscripts, slices, calls of what is built in. -/
namespace HM
open PySem PySem.Spec PyProof.Rows L2

/-! ### subscripts -/
def ixI {α : Type} (xs : List α) (i : Int) : Option α := atI xs i
def gIx : Pv → Pv → Option Pv
  | .d (.list ds), .d (.int i) => (atI ds i).bind fun d => some (.d d)
  | .o (.lst ds), .d (.int i) => (atI ds i).bind fun d => some (.d d)
  | .d (.tuple ds), .d (.int i) => (atI ds i).bind fun d => some (.d d)
  | .d (.str z), .d (.int i) => if z.length ≤ 16777216 then (atI z.cps.toList i).bind fun c => some (.d (.str ⟨#[c]⟩)) else none
  | _, _ => none
theorem atI_dq {Z : Zx} {G : Hp} {vs : List V} {ds : List D} {i : Int} {d : D} (r : DqAll Z.K G vs ds) (h : atI ds i = some d) : ∃ v, atI vs i = some v ∧ Dq Z.K G v d := by
  unfold atI at h ⊢
  rw [r.len]
  cases e : ixN ds.length i with
  | none => rw [e] at h; cases h
  | some j =>
    rw [e] at h
    obtain ⟨v, h1, h2⟩ := r.get' (i := j) (d := d) h
    exact ⟨v, h1, h2⟩
theorem pg_ix {Z : Zx} : POp2 Z (rIx Z.K) gIx := fun G H x y a b c s ra rb hg Q k => by
  unfold gIx at hg
  split at hg
  · obtain ⟨d, h1, h2⟩ := Option.bind_eq_some_iff.mp hg
    cases h2
    cases rb
    obtain ⟨p, vs, rfl, q, w⟩ := ra.sql s rfl
    obtain ⟨v, e, t⟩ := atI_dq w h1
    exact .inl ⟨p, vs, _, v, rfl, rfl, q, e, k v G H (.refl s) t⟩
  · obtain ⟨d, h1, h2⟩ := Option.bind_eq_some_iff.mp hg
    cases h2
    cases rb
    obtain ⟨p, vs, rfl, q, w⟩ := ra.sql s rfl
    obtain ⟨v, e, t⟩ := atI_dq w h1
    exact .inl ⟨p, vs, _, v, rfl, rfl, q, e, k v G H (.refl s) t⟩
  · obtain ⟨d, h1, h2⟩ := Option.bind_eq_some_iff.mp hg
    cases h2
    cases rb
    obtain ⟨p, vs, rfl, q, w⟩ := ra.sqt rfl
    obtain ⟨v, e, t⟩ := atI_dq w h1
    exact .inr (.inl ⟨p, vs, _, v, rfl, rfl, (q.mono s).sq, e, k v G H (.refl s) t⟩)
  · split at hg
    · rename_i hz
      obtain ⟨d, h1, h2⟩ := Option.bind_eq_some_iff.mp hg
      cases h2
      cases ra
      cases rb
      exact .inr (.inr ⟨_, _, d, rfl, rfl, by rw [line_eq]; exact hz, h1, k _ G H (.refl s) (Dq.str _)⟩)
    · cases hg
  · cases hg
section
variable {X : Cx} {a b : Expr} {pos : Pos} {fa fb : Sl → Option Pv}
theorem ep_ix (ha : EP X a fa) (hb : EP X b fb) (hs : PlainIx b) : EP X (.Subscript a b pos) (p2 gIx fa fb) := (pe_ix ix_seq ha hb hs).weak fun _ _ _ h => two pg_ix h
end
/-! ### slices -/
def tOpt (Z : Zx) (f : Sl → Option (Option Int)) : Sta → Hp → (Option Int → Hp → Prop) → Prop := fun σ H Q => ∃ F G η x, Rep Z F G H σ η ∧ f η = some x ∧ ∀ G' H', Step G H G' H' → Q x H'
def oNo : Sl → Option (Option Int) := fun _ => some none
def oSo (f : Sl → Option Pv) : Sl → Option (Option Int) := fun η => (f η).bind fun x => (intOf x).bind fun i => some (some i)
def cutL {α : Type} (xs : List α) (lo hi : Option Int) : List α := (xs.drop (HT.sIx xs.length 0 lo)).take (HT.sIx xs.length xs.length hi - HT.sIx xs.length 0 lo)
def gSl : Pv → Option Int → Option Int → Option Pv
  | .d (.list ds), lo, hi => some (.d (.list (cutL ds lo hi)))
  | .o (.lst ds), lo, hi => some (.d (.list (cutL ds lo hi)))
  | .d (.tuple ds), lo, hi => some (.d (.tuple (cutL ds lo hi)))
  | .d (.str z), lo, hi => if z.length ≤ 16777216 then some (.d (.str (cutS z lo hi))) else none
  | _, _, _ => none
def pSl (f : Sl → Option Pv) (lo hi : Sl → Option (Option Int)) : Sl → Option Pv := fun η => (f η).bind fun x => (lo η).bind fun i => (hi η).bind fun j => gSl x i j
def rSlU (K : PySem.W.Frag) : V → Option Int → Option Int → Hp → VK → Prop := fun x lo hi H Q => rSlL K x lo hi H Q ∨ (rSlF K x lo hi H Q ∨ rSlS x lo hi H Q)
theorem sl_U {X : Cx} : SlR X (rSlU X.K) := sl_list.or (sl_tupF.or sl_str)
theorem cut_dq {Z : Zx} {G : Hp} {vs : List V} {ds : List D} (r : DqAll Z.K G vs ds) (lo hi : Option Int) : DqAll Z.K G (cutV vs lo hi) (cutL ds lo hi) := by
  unfold cutV cutL
  rw [r.len]
  exact (r.drop _).take _
theorem cutV_dq {Z : Zx} {G H : Hp} {x : V} {a : Pv} {lo hi : Option Int} {c : Pv} (s : Same G H) (ra : PvR Z G H x a) (hg : gSl a lo hi = some c) {Q : VK} (k : ∀ z G' H', Step G H G' H' → PvR Z G' H' z c → Q z H') : rSlU Z.K x lo hi H Q := by
  unfold gSl at hg
  have L : ∀ {ds : List D}, lstOf a = some ds → c = .d (.list (cutL ds lo hi)) → rSlU Z.K x lo hi H Q := fun {ds} h e => by
    subst e
    obtain ⟨p, vs, rfl, q, w⟩ := ra.sql s h
    refine .inl ⟨p, vs, rfl, q, fun l hl => ?_⟩
    obtain ⟨S, g, o⟩ := lst_step s (cut_dq w lo hi) hl
    obtain ⟨G', S', d⟩ := froze S hl g o
    exact k _ _ _ S' d
  split at hg
  · cases hg; exact L rfl rfl
  · cases hg; exact L rfl rfl
  · cases hg
    cases ra with
    | tup t w =>
      refine .inr (.inl ⟨_, _, rfl, (t.mono s).sq, fun e => ?_, newT_of s (cut_dq w lo hi) k⟩)
      have w' := cut_dq w lo hi
      rw [e] at w'
      exact k _ G H (.refl s) (.tup t w')
  · split at hg
    · rename_i hz
      cases hg
      cases ra
      exact .inr (.inr ⟨_, rfl, by rw [line_eq]; exact hz, k _ G H (.refl s) (Dq.str _)⟩)
    · cases hg
  · cases hg
section
variable {X : Cx} {a : Expr} {pos : Pos} {fa : Sl → Option Pv}
abbrev EPart (X : Cx) (e : Option Expr) (f : Sl → Option (Option Int)) : Prop := PO X e (tOpt (zx X) f)
end

section
variable {X : Cx} {a : Expr} {pos p2 : Pos} {fa : Sl → Option Pv} {lo hi : Option Expr} {fl fh : Sl → Option (Option Int)}
theorem ex_none : EPart X none oNo := ⟨fun pins s σ H Q I ⟨F, G, η, x, R, hf, k⟩ => po_none.run pins s σ H Q I (by cases hf; exact k G H (.refl R.gh))⟩
theorem ex_some (h : EP X a fa) : EPart X (some a) (oSo fa) := ⟨fun pins s σ H Q I ⟨F, G, η, x, R, hf, k⟩ => (po_some h).run pins s σ H Q I (by
  obtain ⟨y, h1, hf⟩ := Option.bind_eq_some_iff.mp hf
  obtain ⟨i, h2, hf⟩ := Option.bind_eq_some_iff.mp hf
  cases hf
  exact ⟨F, G, η, y, R, h1, fun v G' H' S r => ⟨i, r.int h2, k G' H' S⟩⟩)⟩
theorem ep_sl (ha : EP X a fa) (hl : EPart X lo fl) (hh : EPart X hi fh) : EP X (.Subscript a (.Slice lo hi none p2) pos) (pSl fa fl fh) :=
  (pe_slice sl_U ha hl hh).weak fun σ H Q ⟨F, G, η, z, R, hf, k⟩ => by
    obtain ⟨x, h1, hf⟩ := Option.bind_eq_some_iff.mp hf
    obtain ⟨i, h2, hf⟩ := Option.bind_eq_some_iff.mp hf
    obtain ⟨j, h3, hf⟩ := Option.bind_eq_some_iff.mp hf
    exact ⟨F, G, η, x, R, h1, fun v G1 H1 S1 r1 => ⟨F, G1, η, i, R.step S1, h2, fun G2 H2 S2 => ⟨F, G2, η, j, (R.step S1).step S2, h3, fun G3 H3 S3 =>
      cutV_dq S3.gh ((r1.mono S2.g S2.h).mono S3.g S3.h) hf fun w G4 H4 S4 r4 => k w G4 H4 (((S1.trans S2).trans S3).trans S4) r4⟩⟩⟩

/-! ### calls of what is built in -/
theorem CallR.or {f : Value} {r r' : List V → Hp → VK → Prop} (h : CallR X f r) (h' : CallR X f r') : CallR X f fun xs H Q => r xs H Q ∨ r' xs H Q := by
  intro pins s σ H xs us Q I rx q
  exact q.elim (h pins s σ H xs us Q I rx) (h' pins s σ H xs us Q I rx)
variable {e : Expr} {es : List Expr} {x : Str} {p : Pos} {id T : String} {r : List V → Hp → VK → Prop} {f : Sl → Option (List Pv)}
theorem ep_bi {g : List Pv → Option Pv} (hc : CallR X (.builtin id) r) (hg : POpN (zx X) r g) (gl : Gl X x) (hm : X.mg x = none) (hv : bootBuiltins x = some (.builtin id)) (ha : EA X (e :: es) f) (hn : x ≠ "__name__" := by decide) (hdb : (x == ("__debug__" : Str)) = false := by decide)
    (he : starEach (e :: es) X.env = (false, eval e X.env) :: starEach es X.env := by rfl) (hpl : (backTo pos (starEach es X.env)).any (·.1) = false := by rfl) : EP X (.Call (.Name x p) (e :: es) [] pos) (pN g f) :=
  (pe_callB hc gl hm hv ha hn hdb he hpl).weak fun _ _ _ h => manyP hg h
theorem ep_ty {g : List Pv → Option Pv} (hc : CallR X (.type T) r) (hg : POpN (zx X) r g) (gl : Gl X x) (hm : X.mg x = none) (hv : bootBuiltins x = some (.type T)) (ha : EA X (e :: es) f) (hn : x ≠ "__name__" := by decide) (hdb : (x == ("__debug__" : Str)) = false := by decide)
    (he : starEach (e :: es) X.env = (false, eval e X.env) :: starEach es X.env := by rfl) (hpl : (backTo pos (starEach es X.env)).any (·.1) = false := by rfl) : EP X (.Call (.Name x p) (e :: es) [] pos) (pN g f) :=
  (pe_callTy hc gl hm hv ha hn hdb he hpl).weak fun _ _ _ h => manyP hg h
theorem eo_bi {g : List Pv → Option OD} (hc : CallR X (.builtin id) r) (hg : OOpN (zx X) r g) (gl : Gl X x) (hm : X.mg x = none) (hv : bootBuiltins x = some (.builtin id)) (ha : EA X (e :: es) f) (hn : x ≠ "__name__" := by decide) (hdb : (x == ("__debug__" : Str)) = false := by decide)
    (he : starEach (e :: es) X.env = (false, eval e X.env) :: starEach es X.env := by rfl) (hpl : (backTo pos (starEach es X.env)).any (·.1) = false := by rfl) : EO X (.Call (.Name x p) (e :: es) [] pos) (oN g f) :=
  (pe_callB hc gl hm hv ha hn hdb he hpl).weak fun _ _ _ h => manyO hg h
theorem eo_ty {g : List Pv → Option OD} (hc : CallR X (.type T) r) (hg : OOpN (zx X) r g) (gl : Gl X x) (hm : X.mg x = none) (hv : bootBuiltins x = some (.type T)) (ha : EA X (e :: es) f) (hn : x ≠ "__name__" := by decide) (hdb : (x == ("__debug__" : Str)) = false := by decide)
    (he : starEach (e :: es) X.env = (false, eval e X.env) :: starEach es X.env := by rfl) (hpl : (backTo pos (starEach es X.env)).any (·.1) = false := by rfl) : EO X (.Call (.Name x p) (e :: es) [] pos) (oN g f) :=
  (pe_callTy hc gl hm hv ha hn hdb he hpl).weak fun _ _ _ h => manyO hg h
end

/-- a call with one argument -/
def g1 {β : Type} (g : Pv → Option β) : List Pv → Option β
  | [x] => g x
  | _ => none
theorem g1_inv {β : Type} {g : Pv → Option β} {as : List Pv} {c : β} (h : g1 g as = some c) : ∃ a, as = [a] ∧ g a = some c := by
  unfold g1 at h
  split at h
  · exact ⟨_, rfl, h⟩
  · cases h
def gg2 {β : Type} (g : Pv → Pv → Option β) : List Pv → Option β
  | [x, y] => g x y
  | _ => none
theorem gg2_inv {β : Type} {g : Pv → Pv → Option β} {as : List Pv} {c : β} (h : gg2 g as = some c) : ∃ a b, as = [a, b] ∧ g a b = some c := by
  unfold gg2 at h
  split at h
  · exact ⟨_, _, rfl, h⟩
  · cases h
/-! #### len -/
def gLen : Pv → Option Pv
  | .d (.list ds) => some (.d (.int ds.length))
  | .o (.lst ds) => some (.d (.int ds.length))
  | .d (.tuple ds) => some (.d (.int ds.length))
  | .d (.str z) => if z.length ≤ 16777216 then some (.d (.int z.length)) else none
  | .o (.dK kvs) => some (.d (.int kvs.length))
  | .o (.dT kvs) => some (.d (.int kvs.length))
  | _ => none
def rLenDT (P : Program) (w : World) : List V → Hp → VK → Prop := fun xs H Q => ∃ p ws, xs = [.ref p] ∧ H p = some (DTo P w p ws) ∧ (∀ e ∈ ws, TupO H e.2.1 (e.1.map kV)) ∧ Q (.int ((ws.length : Nat) : Int)) H
def rLenU (Z : Zx) : List V → Hp → VK → Prop := fun xs H Q => (∃ x n, xs = [x] ∧ LenV Z.K x H n ∧ Q (.int n) H) ∨ ((∃ a kvs, xs = [V.ref a] ∧ H a = some (.dK kvs) ∧ Q (.int kvs.length) H) ∨ rLenDT Z.P Z.w xs H Q)
/-- what is known of a dict by tuples -/
theorem dTo_of {X : Cx} {pins : List (Addr × Obj)} {σ : Sta} {H : Hp} {s : Shared} {a : Addr} {ws : List (List Key × Addr × V)} (I : Inv X pins σ H s) (h : H a = some (DTo X.prog X.w a ws)) :
    (a == sysModules) = false ∧ ws.length ≤ sizeLine ∧ ∃ vs : List (List Key × Addr × Value), Paired (fun p q => p.1 = q.1 ∧ p.2.1 = q.2.1 ∧ RelV p.2.2 q.2.2) ws vs ∧
    ∃ o es ep, s.heap.get? a = some o ∧ o.ExactDict ∧ o.data = .dict es ep ∧ es.toList = vs.map (entryOfKey (tupleKind (mixKind X.prog X.w))) ∧ (vs.map (·.1)).Nodup := (I.hok a _ h).1
theorem key_tup {X : Cx} {pins : List (Addr × Obj)} {σ : Sta} {H : Hp} {s : Shared} {b : Addr} {ks : List Key} (I : Inv X pins σ H s) (h : TupO H b (ks.map kV)) : (tupleKind (mixKind X.prog X.w)).is s.heap ks b := by
  obtain ⟨its, r, ⟨o, h1, h2, n, h3⟩, _⟩ := I.tuple (h.sq (K := X.K))
  exact ⟨o, its.toArray, n, h1, h2, h3, by simpa using items_are r⟩
/-- .. with its keys' tuples -/
theorem dTo_h {X : Cx} {pins : List (Addr × Obj)} {σ : Sta} {H : Hp} {s : Shared} {a : Addr} {ws : List (List Key × Addr × V)} (I : Inv X pins σ H s) (h : H a = some (DTo X.prog X.w a ws)) (ht : ∀ e ∈ ws, TupO H e.2.1 (e.1.map kV)) :
    (a == sysModules) = false ∧ ws.length ≤ sizeLine ∧ ∃ vs : List (List Key × Addr × Value), Paired (fun p q => p.1 = q.1 ∧ p.2.1 = q.2.1 ∧ RelV p.2.2 q.2.2) ws vs ∧ s.heap.DictOfH (tupleKind (mixKind X.prog X.w)) a vs := by
  obtain ⟨h1, h2, vs, r, o, es, ep, g1, g2, g3, g4, g5⟩ := dTo_of I h
  refine ⟨h1, h2, vs, r, o, es, ep, g1, g2, g3, g4, fun x hx => ?_, g5⟩
  have all : ∀ {l : List (List Key × Addr × V)} {m : List (List Key × Addr × Value)}, Paired (fun p q => p.1 = q.1 ∧ p.2.1 = q.2.1 ∧ RelV p.2.2 q.2.2) l m → (∀ e ∈ l, TupO H e.2.1 (e.1.map kV)) → ∀ x ∈ m, (tupleKind (mixKind X.prog X.w)).is s.heap x.1 x.2.1 := by
    intro l m q
    induction q with
    | nil => intro _ y hy; exact nomatch hy
    | @cons u v us vs hq t ih =>
      intro hl y hy
      rcases List.mem_cons.mp hy with rfl | hy
      · have z := hl u List.mem_cons_self
        rw [← hq.1, ← hq.2.1]
        exact key_tup I z
      · exact ih (fun e he => hl e (List.mem_cons_of_mem _ he)) y hy
  exact all r ht x hx
theorem call_lenDT {X : Cx} : CallR X (.builtin "len") (rLenDT X.prog X.w) := by
  intro pins s σ H xs us Q I r h
  obtain ⟨p, ws, rfl, hp, ht, q⟩ := h
  obtain ⟨u, rfl, rx⟩ := vals1 r
  cases rx
  obtain ⟨h1, h2, vs, rr, dd⟩ := dTo_h I hp ht
  have hl : ws.length = vs.length := Paired.length rr
  refine call_len_dictH h1 dd (by rw [← hl]; rw [sizeLine_eq] at h2; omega) ?_
  rw [← hl]
  exact ⟨.int ((ws.length : Nat) : Int), H, I.tok _, ⟨_, rfl⟩, q⟩
theorem KtR.keys {Z : Zx} {G H : Hp} (s : Same G H) : ∀ {ws : List (List Key × Addr × V)} {kvs : List (List Key × D)}, KtR Z G ws kvs → ∀ e ∈ ws, TupO H e.2.1 (e.1.map kV)
  | _, _, .nil, e, h => nomatch h
  | _, _, .cons a r, e, h => by
    rcases List.mem_cons.mp h with rfl | h
    · exact a.2.1.mono s
    · exact KtR.keys s r e h
theorem call_lenU {X : Cx} : CallR X (.builtin "len") (rLenU (zx X)) := CallR.or call_len (CallR.or call_lenD call_lenDT)
theorem pg_len {Z : Zx} : POpN Z (rLenU Z) (g1 gLen) := fun G H xs as c s ra hg Q k => by
  obtain ⟨a, rfl, hq⟩ := g1_inv hg
  obtain ⟨x, rfl, rq⟩ := one_inv ra
  have fin : ∀ {i : Int}, c = .d (.int i) → Q (.int i) H := fun e => by subst e; exact k _ G H (.refl s) (Dq.int _)
  unfold gLen at hq
  split at hq
  · cases hq
    obtain ⟨p, vs, rfl, q, w⟩ := rq.sql s rfl
    exact .inl ⟨_, vs.length, rfl, .inl ⟨vs, q, rfl⟩, fin (by rw [w.len])⟩
  · cases hq
    obtain ⟨p, vs, rfl, q, w⟩ := rq.sql s rfl
    exact .inl ⟨_, vs.length, rfl, .inl ⟨vs, q, rfl⟩, fin (by rw [w.len])⟩
  · cases hq
    obtain ⟨p, vs, rfl, q, w⟩ := rq.sqt rfl
    exact .inl ⟨_, vs.length, rfl, .inr ⟨vs, (q.mono s).sq, rfl⟩, fin (by rw [w.len])⟩
  · split at hq
    · rename_i hz
      cases hq
      cases rq
      exact .inl ⟨_, _, rfl, ⟨by rw [line_eq]; exact hz, rfl⟩, fin rfl⟩
    · cases hq
  · cases hq
    obtain ⟨p, rfl, ws, q, w⟩ := rq
    exact .inr (.inl ⟨p, ws, rfl, q, fin (by rw [Paired.length w])⟩)
  · cases hq
    obtain ⟨p, rfl, ws, q, w⟩ := rq
    exact .inr (.inr ⟨p, ws, rfl, q, KtR.keys s w, fin (by rw [Paired.length w])⟩)
  · cases hq

/-! #### tuple(..), list(..) -/
def gTup : Pv → Option Pv
  | .d (.list ds) => some (.d (.tuple ds))
  | .o (.lst ds) => some (.d (.tuple ds))
  | .d (.tuple ds) => some (.d (.tuple ds))
  | _ => none
theorem pg_tup {Z : Zx} : POpN Z (rTupOf Z.K) (g1 gTup) := fun G H xs as c s ra hg Q k => by
  obtain ⟨a, rfl, hq⟩ := g1_inv hg
  obtain ⟨x, rfl, rq⟩ := one_inv ra
  unfold gTup at hq
  split at hq
  · cases hq
    obtain ⟨p, vs, rfl, q, w⟩ := rq.sql s rfl
    exact ⟨p, vs, rfl, .inl ⟨q, newT_of s w k⟩⟩
  · cases hq
    obtain ⟨p, vs, rfl, q, w⟩ := rq.sql s rfl
    exact ⟨p, vs, rfl, .inl ⟨q, newT_of s w k⟩⟩
  · cases hq
    cases rq with
    | tup t w => exact ⟨_, _, rfl, .inr ⟨(t.mono s).sq, k _ G H (.refl s) (.tup t w)⟩⟩
  · cases hq
def oList : Pv → Option OD
  | .d (.list ds) => some (.lst ds)
  | .o (.lst ds) => some (.lst ds)
  | .d (.tuple ds) => some (.lst ds)
  | _ => none
def rListOf (K : PySem.W.Frag) : List V → Hp → VK → Prop := fun xs H Q => ∃ p ys, xs = [.ref p] ∧ (SqL K H p ys ∨ SqT K H p ys) ∧ ∀ l, H l = none → Q (.ref l) (upd H l (.lst ys))
theorem og_list {Z : Zx} : OOpN Z (rListOf Z.K) (g1 oList) := fun G H xs as c s ra hg Q k => by
  obtain ⟨a, rfl, hq⟩ := g1_inv hg
  obtain ⟨x, rfl, rq⟩ := one_inv ra
  have fin : ∀ {vs : List V} {ds : List D}, c = .lst ds → DqAll Z.K G vs ds → ∀ l, H l = none → Q (.ref l) (upd H l (.lst vs)) := fun {vs ds} e w l hl => by
    subst e
    obtain ⟨S, g, o⟩ := lst_step s w hl
    exact k l _ _ S hl g o
  unfold oList at hq
  split at hq
  · cases hq
    obtain ⟨p, vs, rfl, q, w⟩ := rq.sql s rfl
    exact ⟨p, vs, rfl, .inl q, fin rfl w⟩
  · cases hq
    obtain ⟨p, vs, rfl, q, w⟩ := rq.sql s rfl
    exact ⟨p, vs, rfl, .inl q, fin rfl w⟩
  · cases hq
    obtain ⟨p, vs, rfl, q, w⟩ := rq.sqt rfl
    exact ⟨p, vs, rfl, .inr (q.mono s).sq, fin rfl w⟩
  · cases hq

/-! #### sum, all, any, abs -/
def intsOf : List D → Option (List Int)
  | [] => some []
  | .int i :: r => (intsOf r).bind fun l => some (i :: l)
  | _ => none
def blsOf : List D → Option (List Bool)
  | [] => some []
  | .bool i :: r => (blsOf r).bind fun l => some (i :: l)
  | _ => none
theorem intsOf_inv : ∀ {ds : List D} {l : List Int}, intsOf ds = some l → ds = l.map .int
  | [], _, h => by cases h; rfl
  | d :: ds, l, h => by
    unfold intsOf at h
    split at h
    · rename_i e; cases e
    · rename_i i r e
      cases e
      obtain ⟨m, h1, h2⟩ := Option.bind_eq_some_iff.mp h
      cases h2
      rw [intsOf_inv h1]; rfl
    · cases h
theorem blsOf_inv : ∀ {ds : List D} {l : List Bool}, blsOf ds = some l → ds = l.map .bool
  | [], _, h => by cases h; rfl
  | d :: ds, l, h => by
    unfold blsOf at h
    split at h
    · rename_i e; cases e
    · rename_i i r e
      cases e
      obtain ⟨m, h1, h2⟩ := Option.bind_eq_some_iff.mp h
      cases h2
      rw [blsOf_inv h1]; rfl
    · cases h
@[simp] theorem intsOf_map : ∀ l : List Int, intsOf (l.map .int) = some l
  | [] => rfl
  | i :: l => by
    show (intsOf (l.map .int)).bind _ = _
    rw [intsOf_map l]; rfl
@[simp] theorem blsOf_map : ∀ l : List Bool, blsOf (l.map .bool) = some l
  | [] => rfl
  | i :: l => by
    show (blsOf (l.map .bool)).bind _ = _
    rw [blsOf_map l]; rfl
def gSum (a : Pv) : Option Pv := (lstOf a).bind fun ds => (intsOf ds).bind fun l => some (.d (.int l.sum))
def gAll (a : Pv) : Option Pv := (lstOf a).bind fun ds => (blsOf ds).bind fun l => some (.d (.bool (l.all id)))
def gAny (a : Pv) : Option Pv := (lstOf a).bind fun ds => (blsOf ds).bind fun l => some (.d (.bool (l.any id)))
theorem pg_sum {Z : Zx} : POpN Z (rSum Z.K) (g1 gSum) := fun G H xs as c s ra hg Q k => by
  obtain ⟨a, rfl, hq⟩ := g1_inv hg
  obtain ⟨x, rfl, rq⟩ := one_inv ra
  obtain ⟨ds, h1, hq⟩ := Option.bind_eq_some_iff.mp hq
  obtain ⟨l, h2, hq⟩ := Option.bind_eq_some_iff.mp hq
  cases hq
  obtain ⟨p, vs, rfl, q, w⟩ := rq.sql s h1
  rw [intsOf_inv h2] at w
  rw [w.ints_inv] at q
  exact ⟨p, l, rfl, q, k _ G H (.refl s) (Dq.int _)⟩
theorem pg_all {Z : Zx} : POpN Z (rAll Z.K) (g1 gAll) := fun G H xs as c s ra hg Q k => by
  obtain ⟨a, rfl, hq⟩ := g1_inv hg
  obtain ⟨x, rfl, rq⟩ := one_inv ra
  obtain ⟨ds, h1, hq⟩ := Option.bind_eq_some_iff.mp hq
  obtain ⟨l, h2, hq⟩ := Option.bind_eq_some_iff.mp hq
  cases hq
  obtain ⟨p, vs, rfl, q, w⟩ := rq.sql s h1
  rw [blsOf_inv h2] at w
  rw [w.bls_inv] at q
  exact ⟨p, l, rfl, q, k _ G H (.refl s) (Dq.bl _)⟩
theorem pg_any {Z : Zx} : POpN Z (rAny Z.K) (g1 gAny) := fun G H xs as c s ra hg Q k => by
  obtain ⟨a, rfl, hq⟩ := g1_inv hg
  obtain ⟨x, rfl, rq⟩ := one_inv ra
  obtain ⟨ds, h1, hq⟩ := Option.bind_eq_some_iff.mp hq
  obtain ⟨l, h2, hq⟩ := Option.bind_eq_some_iff.mp hq
  cases hq
  obtain ⟨p, vs, rfl, q, w⟩ := rq.sql s h1
  rw [blsOf_inv h2] at w
  rw [w.bls_inv] at q
  exact ⟨p, l, rfl, q, k _ G H (.refl s) (Dq.bl _)⟩
def gAbs : Pv → Option Pv
  | .d (.int i) => some (.d (.int (if i < 0 then -i else i)))
  | _ => none
theorem pg_abs {Z : Zx} : POpN Z (fun xs H Q => ∃ i, xs = [.int i] ∧ Q (.int (if i < 0 then -i else i)) H) (g1 gAbs) := fun G H xs as c s ra hg Q k => by
  obtain ⟨a, rfl, hq⟩ := g1_inv hg
  obtain ⟨x, rfl, rq⟩ := one_inv ra
  unfold gAbs at hq
  split at hq
  · cases hq
    cases rq
    exact ⟨_, rfl, k _ G H (.refl s) (Dq.int _)⟩
  · cases hq
end HM

set_option Elab.async false
set_option linter.all false
set_option maxRecDepth 100000
set_option maxHeartbeats 4000000
set_option autoImplicit false
/-! HE: sorted, repr, str, int, in, dicts, displays. -/
namespace HM
open PySem PySem.Spec PyProof.Rows L2

/-! ### sorted, of data that are alike -/
def isTup1 : D → Bool
  | .tuple (_ :: _) => true
  | _ => false
def notTN : D → Bool
  | .tuple _ => false
  | .none => false
  | _ => true
def sortOk (ds : List D) : Bool := (ds.all fun d => ds.all fun d' => W.alike d d') && (ds.all isTup1 || ds.all notTN) && decide (ds.length ≤ 16777216) && ds.all fun d => decide (d.depth ≤ 60)
def sortD (ds : List D) : List D := ds.mergeSort (W.dataLe false id)
def oSorted (a : Pv) : Option OD := (lstOf a).bind fun ds => if sortOk ds = true then some (.lst (sortD ds)) else none
/-- vs stand for ds, in the heap H -/
def rSortD (K : PySem.W.Frag) : List V → Hp → VK → Prop := fun vs H Q => ∃ (a : Addr) (xs : List V) (ds : List D) (R : V → D → Prop), vs = [V.ref a] ∧ SqL K H a xs ∧ DqAll K H xs ds ∧ sortOk ds = true ∧
  (∀ (i : Nat) (x : V) (d : D), xs[i]? = some x → ds[i]? = some d → R x d) ∧ ∀ ys p, ys.length = ds.length → (∀ (i : Nat) (x : V) (d : D), ys[i]? = some x → (sortD ds)[i]? = some d → R x d) → H p = none → Q (.ref p) (upd H p (.lst ys))
theorem sortOk_inv {ds : List D} (h : sortOk ds = true) : W.AllAlike ds ∧ W.Sortable ds ∧ ds.length ≤ sizeLine ∧ ∀ d ∈ ds, d.depth ≤ 60 := by
  unfold sortOk at h
  simp only [Bool.and_eq_true, Bool.or_eq_true, List.all_eq_true, decide_eq_true_eq] at h
  obtain ⟨⟨⟨h1, h2⟩, h3⟩, h4⟩ := h
  refine ⟨fun d hd d' hd' => h1 d hd d' hd', ?_, by rw [line_eq]; exact h3, h4⟩
  rcases h2 with h2 | h2
  · refine .inl fun d hd => ?_
    have z := h2 d hd
    unfold isTup1 at z
    split at z
    · exact ⟨_, _, rfl⟩
    · cases z
  · refine .inr fun d hd => ?_
    have z := h2 d hd
    refine ⟨fun e => ?_, fun xs e => ?_⟩ <;> (rw [e] at z; cases z)
theorem each_get {α β : Type} {R : α → β → Prop} : ∀ {as : List α} {bs : List β}, W.EachIs R as bs → ∀ {i : Nat} {a : α} {b : β}, as[i]? = some a → bs[i]? = some b → R a b
  | _, _, .nil, i, _, _, h, _ => by simp at h
  | _, _, .cons r _, 0, _, _, h, g => by simp at h g; subst h; subst g; exact r
  | _, _, .cons _ t, i + 1, _, _, h, g => each_get t (i := i) (by simpa using h) (by simpa using g)
theorem each_len {α β : Type} {R : α → β → Prop} : ∀ {as : List α} {bs : List β}, W.EachIs R as bs → as.length = bs.length
  | _, _, .nil => rfl
  | _, _, .cons _ t => congrArg (· + 1) (each_len t)
/-- what the values stand for, kept through a sort -/
theorem each_of {K : PySem.W.Frag} {H : Hp} {R : V → D → Prop} : ∀ {xs : List V} {us : List Value} {ds : List D}, Vals xs us → DqAll K H xs ds → (∀ (i : Nat) (x : V) (d : D), xs[i]? = some x → ds[i]? = some d → R x d) → W.EachIs (fun u d => ∃ v, RelV v u ∧ R v d) us ds
  | _, _, _, .nil, .nil, _ => .nil
  | _, _, _, .cons r rs, .cons _ ws, h => .cons ⟨_, r, h 0 _ _ rfl rfl⟩ (each_of rs ws fun i x d e g => h (i + 1) x d (by simpa using e) (by simpa using g))
theorem each_vals {R : V → D → Prop} : ∀ {us : List Value} {ds : List D}, W.EachIs (fun u d => ∃ v, RelV v u ∧ R v d) us ds → ∃ ys, Vals ys us ∧ ys.length = ds.length ∧ ∀ (i : Nat) (x : V) (d : D), ys[i]? = some x → ds[i]? = some d → R x d
  | _, _, .nil => ⟨[], .nil, rfl, fun i x d e => by simp at e⟩
  | _, _, .cons ⟨v, r, q⟩ t => by
    obtain ⟨ys, h1, h2, h3⟩ := each_vals t
    refine ⟨v :: ys, .cons r h1, congrArg (· + 1) h2, fun i x d e g => ?_⟩
    cases i with
    | zero => simp at e g; subst e; subst g; exact q
    | succ i => exact h3 i x d (by simpa using e) (by simpa using g)
section
variable {X : Cx}
theorem call_sortD (hu : X.A.units + 64 < cLine) : CallR X (.builtin "sorted") (rSortD X.K) := by
  intro pins s σ H xs us Q I r h
  obtain ⟨a, xs, ds, R, rfl, hs, w, ok, hR, k⟩ := h
  obtain ⟨u, rfl, ru⟩ := vals1 r
  cases ru
  obtain ⟨o1, o2, o3, o4⟩ := sortOk_inv ok
  obtain ⟨its, rv, pl, hz⟩ := I.list hs
  obtain ⟨as, rd⟩ := Dp.readsAll I ds xs its (DqAll.dp _ _ w) rv
  have er := W.readsAll_each (h := s.heap) id (by rw [List.map_id]; exact rd)
  have e := each_of (R := R) rv w hR
  refine W.sorted_data (enc := id) (bs := ds) pl.isList e er (by rw [List.map_id]; exact o1) (by rw [List.map_id]; exact o2) o3 (fun b hb => by have z := o4 b hb; show X.A.units + 2 + b.depth < cLine; omega) fun out hl he => ?_
  obtain ⟨ys, r1, r2, r3⟩ := each_vals he
  have hys : ys.length = ds.length := by rw [r1.length]; exact hl
  obtain ⟨c, hc⟩ := sortedAll_at s.heap its out.toArray
  refine ⟨.ref (s.heap.objs.size + 1), upd H (s.heap.objs.size + 1) (.lst ys), ?_, rfl, k ys _ hys r3 (I.hok.fresh (Nat.le_succ _))⟩
  exact I.laid (t' := s.toks) (fun b o q => sortedAll_old q) (Nat.le_succ _) ⟨by rw [hys]; exact o3, out, c, r1, hc⟩
end
theorem sortD_len (ds : List D) : (sortD ds).length = ds.length := by unfold sortD; exact List.length_mergeSort ..
theorem dqAll_of {K : PySem.W.Frag} {G : Hp} : ∀ {ys : List V} {ds : List D}, ys.length = ds.length → (∀ (i : Nat) (x : V) (d : D), ys[i]? = some x → ds[i]? = some d → Dq K G x d) → DqAll K G ys ds
  | [], [], _, _ => .nil
  | y :: ys, d :: ds, hl, h => .cons (h 0 y d rfl rfl) (dqAll_of (by simpa using hl) fun i x e g1 g2 => h (i + 1) x e (by simpa using g1) (by simpa using g2))
  | [], _ :: _, hl, _ => by simp at hl
  | _ :: _, [], hl, _ => by simp at hl
theorem DqAll.each {K : PySem.W.Frag} {G : Hp} {vs : List V} {ds : List D} (w : DqAll K G vs ds) (i : Nat) (x : V) (d : D) (h : vs[i]? = some x) (g : ds[i]? = some d) : Dq K G x d := by
  obtain ⟨d', h1, h2⟩ := w.get h
  rw [g] at h1; cases h1; exact h2
theorem og_sorted {Z : Zx} : OOpN Z (rSortD Z.K) (g1 oSorted) := fun G H xs as c s ra hg Q k => by
  obtain ⟨a, rfl, hq⟩ := g1_inv hg
  obtain ⟨x, rfl, rq⟩ := one_inv ra
  obtain ⟨ds, h1, hq⟩ := Option.bind_eq_some_iff.mp hq
  split at hq
  · rename_i ok
    cases hq
    obtain ⟨p, vs, rfl, q, w⟩ := rq.sql s h1
    refine ⟨p, vs, ds, fun x d => Dq Z.K G x d, rfl, q, DqAll.mono s _ _ w, ok, w.each, fun ys l hl hy hn => ?_⟩
    obtain ⟨S, g, o⟩ := lst_step s (dqAll_of (by rw [sortD_len]; exact hl) hy) hn
    exact k l _ _ S hn g o
  · cases hq

/-! ### repr -/
def isShow (d : D) : Bool := d.showable && !d.hasDict && decide (d.depth ≤ 60) && decide (d.shown.length ≤ 16777216)
def gRepr (a : Pv) : Option Pv := (dOf a).bind fun d => if isShow d = true then some (.d (.str d.shown)) else none
def rRepr (K : PySem.W.Frag) : List V → Hp → VK → Prop := fun vs H Q => ∃ v d, vs = [v] ∧ Dq K H v d ∧ isShow d = true ∧ Q (.str d.shown) H
theorem call_repr {X : Cx} (hg : X.A.guards = some []) (hu : X.A.units + 64 < cLine) : CallR X (.builtin "repr") (rRepr X.K) := by
  intro pins s σ H xs us Q I r h
  obtain ⟨v, d, rfl, w, ok, q⟩ := h
  obtain ⟨u, rfl, ru⟩ := vals1 r
  unfold isShow at ok
  simp only [Bool.and_eq_true, Bool.not_eq_true', decide_eq_true_eq] at ok
  obtain ⟨⟨⟨o1, o2⟩, o3⟩, o4⟩ := ok
  have hz : d.shown.length ≤ sizeLine := by rw [line_eq]; exact o4
  obtain ⟨as, rd⟩ := Dp.reads I d v u (Dq.dp _ _ w) ru
  have big : ∀ {a : Addr}, Reads s.heap (.ref a) d as → wpAny (model X.prog X.w) X.A (call (.builtin "repr") [.ref a]) (L2.EP X pins σ Q) X.xe s := fun {a} rd =>
    repr_of_reads' rd o1 (fun z => by rw [o2] at z; cases z) hg (by omega) (fun _ _ e => e) (fun h' u tk hk => ⟨.str d.shown, H, I.kept hk, ⟨u, rfl⟩, q⟩) hz
  cases w with
  | non => cases ru; exact PySem.P.repr_of_none ⟨.str _, H, I.tok _, ⟨_, rfl⟩, q⟩
  | bl b => cases ru; exact PySem.P.repr_of_bool ⟨.str _, H, I.tok _, ⟨_, rfl⟩, by simpa [PyData.shown] using q⟩
  | int i => obtain ⟨t, rfl⟩ := ru; exact PySem.P.repr_of_int (by simpa [PyData.showable] using o1) ⟨.str _, H, I.tok _, ⟨_, rfl⟩, by simpa [PyData.shown] using q⟩
  | str x => obtain ⟨t, rfl⟩ := ru; exact PySem.P.repr_of_str ⟨.str _, H, I.tok _, ⟨_, rfl⟩, by simpa [PyData.shown] using q⟩ (by simpa [PyData.shown] using hz)
  | lst h1 h2 => cases ru; exact big rd
  | tup h1 h2 => cases ru; exact big rd
theorem pg_repr {Z : Zx} : POpN Z (rRepr Z.K) (g1 gRepr) := fun G H xs as c s ra hg Q k => by
  obtain ⟨a, rfl, hq⟩ := g1_inv hg
  obtain ⟨x, rfl, rq⟩ := one_inv ra
  obtain ⟨d, h1, hq⟩ := Option.bind_eq_some_iff.mp hq
  split at hq
  · rename_i ok
    cases hq
    exact ⟨x, d, rfl, rq.dq s h1, ok, k _ G H (.refl s) (Dq.str _)⟩
  · cases hq
/-! ### str, int -/
def gStr : Pv → Option Pv
  | .d (.int i) => if i.natAbs.log2 < 1920 then some (.d (.str (toString i))) else none
  | _ => none
theorem pg_str {Z : Zx} : POpN Z (fun xs H Q => ∃ i : Int, xs = [.int i] ∧ i.natAbs.log2 < 1920 ∧ Q (.str (toString i)) H) (g1 gStr) := fun G H xs as c s ra hg Q k => by
  obtain ⟨a, rfl, hq⟩ := g1_inv hg
  obtain ⟨x, rfl, rq⟩ := one_inv ra
  unfold gStr at hq
  split at hq
  · split at hq
    · rename_i hz
      cases hq
      cases rq
      exact ⟨_, rfl, hz, k _ G H (.refl s) (Dq.str _)⟩
    · cases hq
  · cases hq
def gInt : Pv → Option Pv
  | .d (.str z) => if z.length ≤ 640 then (PySem.intText? z).bind fun n => some (.d (.int n)) else none
  | .d (.int i) => some (.d (.int i))
  | .d (.bool b) => some (.d (.int (if b then 1 else 0)))
  | _ => none
def rIntU : List V → Hp → VK → Prop := fun xs H Q => ((∃ i, xs = [.int i] ∧ Q (.int i) H) ∨ ∃ k, xs = [.bl k] ∧ Q (.int (if k then 1 else 0)) H) ∨ ∃ a n, xs = [.str a] ∧ PySem.intText? a = some n ∧ a.length ≤ 640 ∧ Q (.int n) H
theorem call_intU {X : Cx} : CallR X (.type "int") rIntU := CallR.or call_int1 call_int_str
theorem pg_intU {Z : Zx} : POpN Z rIntU (g1 gInt) := fun G H xs as c s ra hg Q k => by
  obtain ⟨a, rfl, hq⟩ := g1_inv hg
  obtain ⟨x, rfl, rq⟩ := one_inv ra
  unfold gInt at hq
  split at hq
  · split at hq
    · rename_i hz
      obtain ⟨n, h1, hq⟩ := Option.bind_eq_some_iff.mp hq
      cases hq
      cases rq
      exact .inr ⟨_, n, rfl, h1, hz, k _ G H (.refl s) (Dq.int _)⟩
    · cases hq
  · cases hq
    cases rq
    exact .inl (.inl ⟨_, rfl, k _ G H (.refl s) (Dq.int _)⟩)
  · cases hq
    cases rq
    exact .inl (.inr ⟨_, rfl, k _ G H (.refl s) (Dq.int _)⟩)
  · cases hq

/-! ### dicts -/
section
variable {κ : Type} [DecidableEq κ]
def dGet (kvs : List (κ × D)) (k : κ) : Option D := (kvs.find? fun e => decide (e.1 = k)).map (·.2)
def dHas (kvs : List (κ × D)) (k : κ) : Bool := kvs.any fun e => decide (e.1 = k)
def dPut (kvs : List (κ × D)) (k : κ) (v : D) : List (κ × D) := if dHas kvs k = true then kvs.map fun e => if e.1 = k then (e.1, v) else e else kvs ++ [(k, v)]
theorem dGet_some (kvs : List (κ × D)) (k : κ) : (dGet kvs k).isSome = dHas kvs k := by
  unfold dGet dHas
  rw [Option.isSome_map]
  induction kvs with
  | nil => rfl
  | cons p r ih =>
    by_cases e : p.1 = k
    · simp [List.find?_cons, e]
    · simpa [List.find?_cons, e] using ih
end
def keyD : D → Option Key
  | .int i => some (.inl i)
  | .str x => some (.inr x)
  | _ => none
def keysD : List D → Option (List Key)
  | [] => some []
  | d :: ds => (keyD d).bind fun k => (keysD ds).bind fun ks => some (k :: ks)
section
variable {Z : Zx} {G H : Hp}
theorem keyD_inv {v : V} {d : D} {k : Key} (r : Dq Z.K G v d) (h : keyD d = some k) : v = kV k := by
  cases r <;> first
    | (cases h; rfl)
    | cases h
theorem keysD_inv : ∀ {vs : List V} {ds : List D} {ks : List Key}, DqAll Z.K G vs ds → keysD ds = some ks → vs = ks.map kV
  | _, [], _, r, h => by cases r; cases h; rfl
  | _, d :: ds, _, r, h => by
    obtain ⟨k, h1, h⟩ := Option.bind_eq_some_iff.mp h
    obtain ⟨ks, h2, h⟩ := Option.bind_eq_some_iff.mp h
    cases h
    cases r with
    | cons a b => rw [keyD_inv a h1, keysD_inv b h2]; rfl
theorem kv_get {κ : Type} [DecidableEq κ] {ws : List (κ × V)} {kvs : List (κ × D)} (r : KvR Z G ws kvs) (k : κ) : match dGet kvs k with
    | some d => ∃ v, valV ws k = some v ∧ Dq Z.K G v d
    | none => valV ws k = none := by
  induction r with
  | nil => exact rfl
  | @cons p q ps qs h t ih =>
    obtain ⟨h1, h2⟩ := h
    by_cases e : p.1 = k
    · have e' : q.1 = k := h1.symm.trans e
      have z : dGet (q :: qs) k = some q.2 := by simp [dGet, List.find?_cons, e']
      rw [z]
      exact ⟨p.2, valV_pos e, h2⟩
    · have e' : ¬ q.1 = k := fun z => e (h1.trans z)
      have z : dGet (q :: qs) k = dGet qs k := by simp [dGet, List.find?_cons, e']
      rw [z, valV_neg e]
      exact ih
theorem kv_has {κ : Type} [DecidableEq κ] {ws : List (κ × V)} {kvs : List (κ × D)} (r : KvR Z G ws kvs) (k : κ) : (valV ws k).isSome = dHas kvs k := by
  have z := kv_get r k
  rw [← dGet_some]
  cases e : dGet kvs k with
  | none => rw [e] at z; rw [show valV ws k = none from z]; rfl
  | some d => rw [e] at z; obtain ⟨v, z, _⟩ := z; rw [z]; rfl
theorem kv_any {κ : Type} [DecidableEq κ] {ws : List (κ × V)} {kvs : List (κ × D)} (r : KvR Z G ws kvs) (k : κ) : (ws.any fun e => decide (e.1 = k)) = dHas kvs k := by
  rw [valV_any, kv_has r]
theorem kv_put {κ : Type} [DecidableEq κ] {ws : List (κ × V)} {kvs : List (κ × D)} (r : KvR Z G ws kvs) (k : κ) {v : V} {d : D} (w : Dq Z.K G v d) : KvR Z G (putK ws k v) (dPut kvs k d) := by
  unfold putK dPut
  rw [kv_any r]
  split
  · induction r with
    | nil => exact .nil
    | @cons p q ps qs h t ih =>
      rw [List.map_cons, List.map_cons]
      refine .cons ?_ ?_
      · obtain ⟨h1, h2⟩ := h
        by_cases e : p.1 = k
        · rw [if_pos e, if_pos (h1.symm.trans e)]; exact ⟨h1, w⟩
        · rw [if_neg e, if_neg (fun z => e (h1.trans z))]; exact ⟨h1, h2⟩
      · clear ih
        have all : ∀ {ps : List (κ × V)} {qs : List (κ × D)}, KvR Z G ps qs → KvR Z G (ps.map fun kv => if kv.1 = k then (kv.1, v) else kv) (qs.map fun e => if e.1 = k then (e.1, d) else e) := by
          intro ps qs t
          induction t with
          | nil => exact .nil
          | @cons p q ps qs h t ih =>
            rw [List.map_cons, List.map_cons]
            refine .cons ?_ ih
            obtain ⟨h1, h2⟩ := h
            by_cases e : p.1 = k
            · rw [if_pos e, if_pos (h1.symm.trans e)]; exact ⟨h1, w⟩
            · rw [if_neg e, if_neg (fun z => e (h1.trans z))]; exact ⟨h1, h2⟩
        exact all t
  · exact Paired.snoc r ⟨rfl, w⟩
/-- a dict by tuples, as pairs of a key and a value -/
def kvT (ws : List (List Key × Addr × V)) : List (List Key × V) := ws.map fun e => (e.1, e.2.2)
theorem KtR.kv {ws : List (List Key × Addr × V)} {kvs : List (List Key × D)} (r : KtR Z G ws kvs) : KvR Z G (kvT ws) kvs := by
  induction r with
  | nil => exact .nil
  | @cons p q ps qs h t ih => exact .cons ⟨h.1, h.2.2⟩ ih
abbrev VtR : List (List Key × Addr × V) → List (List Key × Addr × Value) → Prop := Paired (fun p q => p.1 = q.1 ∧ p.2.1 = q.2.1 ∧ RelV p.2.2 q.2.2)
theorem vt_get {ws : List (List Key × Addr × V)} {vs : List (List Key × Addr × Value)} (r : VtR ws vs) (k : List Key) : RelO (valV (kvT ws) k) ((atKey vs k).map (·.2)) := by
  induction r with
  | nil => exact True.intro
  | @cons p q ps qs h t ih =>
    obtain ⟨h1, _, h2⟩ := h
    show RelO (valV ((p.1, p.2.2) :: kvT ps) k) _
    by_cases e : p.1 = k
    · have e' : q.1 = k := h1.symm.trans e
      have b : atKey (q :: qs) k = some q.2 := by simp [atKey, List.find?_cons, e']
      rw [valV_pos e, b]
      exact h2
    · have e' : ¬ q.1 = k := fun z => e (h1.trans z)
      have b : atKey (q :: qs) k = atKey qs k := by simp [atKey, List.find?_cons, e']
      rw [valV_neg e, b]
      exact ih
/-- a[k] = v of a dict by tuples: the key's tuple at b where it is new -/
def putT (ws : List (List Key × Addr × V)) (k : List Key) (b : Addr) (v : V) : List (List Key × Addr × V) :=
  if (valV (kvT ws) k).isSome = true then ws.map fun e => if e.1 = k then (e.1, e.2.1, v) else e else ws ++ [(k, b, v)]
theorem vt_put {ws : List (List Key × Addr × V)} {vs : List (List Key × Addr × Value)} (r : VtR ws vs) (k : List Key) (b : Addr) {v : V} {u : Value} (ru : RelV v u) : VtR (putT ws k b v) (storedH vs k b u) := by
  have e : (valV (kvT ws) k).isSome = (atKey vs k).isSome := by rw [(vt_get r k).isSome_eq, Option.isSome_map]
  unfold putT storedH
  rw [e]
  split
  · clear e
    induction r with
    | nil => exact .nil
    | @cons p q ps qs h t ih =>
      rw [List.map_cons, List.map_cons]
      refine .cons ?_ ?_
      · obtain ⟨h1, h2, h3⟩ := h
        unfold putAt
        by_cases e : p.1 = k
        · rw [if_pos e, if_pos (h1.symm.trans e)]; exact ⟨h1, h2, ru⟩
        · rw [if_neg e, if_neg (fun z => e (h1.trans z))]; exact ⟨h1, h2, h3⟩
      · have all : ∀ {ps : List (List Key × Addr × V)} {qs : List (List Key × Addr × Value)}, VtR ps qs → VtR (ps.map fun e => if e.1 = k then (e.1, e.2.1, v) else e) (qs.map (putAt k u)) := by
          intro ps qs t
          induction t with
          | nil => exact .nil
          | @cons p q ps qs h t ih =>
            rw [List.map_cons, List.map_cons]
            refine .cons ?_ ih
            obtain ⟨h1, h2, h3⟩ := h
            unfold putAt
            by_cases e : p.1 = k
            · rw [if_pos e, if_pos (h1.symm.trans e)]; exact ⟨h1, h2, ru⟩
            · rw [if_neg e, if_neg (fun z => e (h1.trans z))]; exact ⟨h1, h2, h3⟩
        exact all t
  · exact Paired.snoc r ⟨rfl, rfl, ru⟩
theorem putT_len (ws : List (List Key × Addr × V)) (k : List Key) (b : Addr) (v : V) : (putT ws k b v).length ≤ ws.length + 1 := by
  unfold putT
  split
  · rw [List.length_map]; exact Nat.le_succ _
  · rw [List.length_append]; exact Nat.le_refl _
theorem kt_put {ws : List (List Key × Addr × V)} {kvs : List (List Key × D)} (r : KtR Z G ws kvs) (k : List Key) {b : Addr} {v : V} {d : D} (hb : TupO G b (k.map kV)) (w : Dq Z.K G v d) : KtR Z G (putT ws k b v) (dPut kvs k d) := by
  unfold putT dPut
  rw [kv_has r.kv]
  split
  · have all : ∀ {ps : List (List Key × Addr × V)} {qs : List (List Key × D)}, KtR Z G ps qs → KtR Z G (ps.map fun e => if e.1 = k then (e.1, e.2.1, v) else e) (qs.map fun e => if e.1 = k then (e.1, d) else e) := by
      intro ps qs t
      induction t with
      | nil => exact .nil
      | @cons p q ps qs h t ih =>
        rw [List.map_cons, List.map_cons]
        refine .cons ?_ ih
        obtain ⟨h1, h2, h3⟩ := h
        by_cases e : p.1 = k
        · rw [if_pos e, if_pos (h1.symm.trans e)]; exact ⟨h1, h2, w⟩
        · rw [if_neg e, if_neg (fun z => e (h1.trans z))]; exact ⟨h1, h2, h3⟩
    exact all r
  · exact Paired.snoc r ⟨rfl, hb, w⟩
end

section
variable {X : Cx} {pins : List (Addr × Obj)} {σ : Sta} {H : Hp} {s : Shared} {a b : Addr} {v y : V} {u r : Value} {ws : List (List Key × Addr × V)} {k : List Key}
def rInK (neg : Bool) : R2 := fun y x H Q => ∃ a kvs k, x = .ref a ∧ H a = some (.dK kvs) ∧ y = kV k ∧ Q (.bl (if neg = true then !(valV kvs k).isSome else (valV kvs k).isSome)) H
def rInDT (P : Program) (w : World) (neg : Bool) : R2 := fun y x H Q => ∃ a b ws k, x = .ref a ∧ y = .ref b ∧ H a = some (DTo P w a ws) ∧ TupO H b (k.map kV) ∧ (∀ e ∈ ws, TupO H e.2.1 (e.1.map kV)) ∧ Q (.bl (if neg = true then !(valV (kvT ws) k).isSome else (valV (kvT ws) k).isSome)) H
theorem op_inK (hu : X.A.units + 1 < cLine) : OpR X (compareOp .In) (rInK false) := by
  rintro pins s σ H y x u v Q I ry rx ⟨a, kvs, k, rfl, ha, rfl, q⟩
  cases rx
  exact d_in hu I (DGet.k ha) ry fun s' J => ⟨.bl _, H, J, rfl, q⟩
theorem op_notInK (hu : X.A.units + 1 < cLine) : OpR X (compareOp .NotIn) (rInK true) := by
  rintro pins s σ H y x u v Q I ry rx ⟨a, kvs, k, rfl, ha, rfl, q⟩
  cases rx
  exact d_notIn hu I (DGet.k ha) ry fun s' J => ⟨.bl _, H, J, rfl, q⟩
theorem op_inDT (hu : X.A.units + 1 < cLine) : OpR X (compareOp .In) (rInDT X.prog X.w false) := by
  rintro pins s σ H y x u v Q I ry rx ⟨a, b, ws, k, rfl, rfl, ha, hb, ht, q⟩
  cases rx
  cases ry
  obtain ⟨h1, h2, vs, rr, dd⟩ := dTo_h I ha ht
  refine wpAny_in_heap (tupleKind_room_in1 hu) (key_tup I hb) h1 dd ?_
  have z := (vt_get rr k).isSome_eq
  rw [Option.isSome_map] at z
  rw [← z]
  exact ⟨.bl _, H, I.tok _, rfl, q⟩
theorem op_notInDT (hu : X.A.units + 1 < cLine) : OpR X (compareOp .NotIn) (rInDT X.prog X.w true) := by
  rintro pins s σ H y x u v Q I ry rx ⟨a, b, ws, k, rfl, rfl, ha, hb, ht, q⟩
  cases rx
  cases ry
  obtain ⟨h1, h2, vs, rr, dd⟩ := dTo_h I ha ht
  refine wpAny_notIn_heap (tupleKind_room_in1 hu) (key_tup I hb) h1 dd ?_
  have z := (vt_get rr k).isSome_eq
  rw [Option.isSome_map] at z
  rw [← z]
  exact ⟨.bl _, H, I.tok _, rfl, q⟩
/-- in a list or a tuple of data -/
def rInSeq (K : PySem.W.Frag) (neg : Bool) : R2 := fun x y H Q => ∃ d c ds, Dp K H x d ∧ Dp K H y c ∧ (c = .list ds ∨ c = .tuple ds) ∧ SeqAt.shaped d = true ∧ SeqAt.shaped c = true ∧ Q (.bl (if neg = true then !ds.any fun z => PyData.eqv z d else ds.any fun z => PyData.eqv z d)) H
theorem lay_tuple {ds : List D} (h : SeqAt.shaped (.tuple ds) = true) : PyData.canLayAll0 ds = true := by
  have z := SeqAt.canLay_of_shaped h
  simpa [PyData.canLay0] using z
theorem op_inSeq (hu : X.A.units + 65 < cLine) : OpR X (compareOp .In) (rInSeq X.K false) := by
  rintro pins s σ H x y v u Q I rx ry ⟨d, c, ds, hd, hc, e, sd, sc, q⟩
  obtain ⟨as, r1⟩ := Dp.reads I d x v hd rx
  obtain ⟨bs, r2⟩ := Dp.reads I c y u hc ry
  rcases e with rfl | rfl
  · exact SeqAt.in_list_reads r2 r1 (SeqAt.canLay_of_shaped sc) (SeqAt.canLay_of_shaped sd) (room_in_shaped sd hu) ⟨.bl _, H, I, rfl, q⟩
  · exact SeqAt.in_tuple_reads r2 r1 (lay_tuple sc) (SeqAt.canLay_of_shaped sd) (room_in_shaped sd hu) ⟨.bl _, H, I, rfl, q⟩
theorem op_notInSeq (hu : X.A.units + 65 < cLine) : OpR X (compareOp .NotIn) (rInSeq X.K true) := by
  rintro pins s σ H x y v u Q I rx ry ⟨d, c, ds, hd, hc, e, sd, sc, q⟩
  obtain ⟨as, r1⟩ := Dp.reads I d x v hd rx
  obtain ⟨bs, r2⟩ := Dp.reads I c y u hc ry
  rcases e with rfl | rfl
  · exact SeqAt.notIn_list_reads r2 r1 (SeqAt.canLay_of_shaped sc) (SeqAt.canLay_of_shaped sd) (room_in_shaped sd hu) ⟨.bl _, H, I, rfl, q⟩
  · exact SeqAt.notIn_tuple_reads r2 r1 (lay_tuple sc) (SeqAt.canLay_of_shaped sd) (room_in_shaped sd hu) ⟨.bl _, H, I, rfl, q⟩
def rInSg (neg : Bool) : R2 := fun x y H Q => ∃ (c : Nat) (z : Str), x = .str ⟨#[c]⟩ ∧ y = .str z ∧ Q (.bl (if neg = true then !decide (c ∈ z.cps.toList) else decide (c ∈ z.cps.toList))) H
def rInU (Z : Zx) (neg : Bool) : R2 := fun x y H Q => (rInK neg x y H Q ∨ rInDT Z.P Z.w neg x y H Q) ∨ (rInSeq Z.K neg x y H Q ∨ rInSg neg x y H Q)
theorem op_inU (hu : X.A.units + 65 < cLine) : OpR X (compareOp .In) (rInU (zx X) false) :=
  ((op_inK (by omega)).or (op_inDT (by omega))).or ((op_inSeq hu).or op_in_sign)
theorem op_notInU (hu : X.A.units + 65 < cLine) : OpR X (compareOp .NotIn) (rInU (zx X) true) :=
  ((op_notInK (by omega)).or (op_notInDT (by omega))).or ((op_notInSeq hu).or op_notIn_sign)
end
def sign1 (z : Str) : Option Nat := match z.cps.toList with
  | [c] => some c
  | _ => none
def bN (neg b : Bool) : Option Pv := some (.d (.bool (if neg = true then !b else b)))
def gIn (neg : Bool) (a : Pv) : Pv → Option Pv
  | .o (.dK kvs) => (datOf a).bind fun d => (keyD d).bind fun k => bN neg (dHas kvs k)
  | .o (.dT kvs) => (tupOf a).bind fun ds => (keysD ds).bind fun k => bN neg (dHas kvs k)
  | .d (.str z) => (strOf a).bind fun y => (sign1 y).bind fun c => bN neg (decide (c ∈ z.cps.toList))
  | .d (.tuple ds) => (dOf a).bind fun d => if SeqAt.shaped d = true ∧ SeqAt.shaped (.tuple ds) = true then bN neg (ds.any fun z => PyData.eqv z d) else none
  | .d (.list ds) => (dOf a).bind fun d => if SeqAt.shaped d = true ∧ SeqAt.shaped (.list ds) = true then bN neg (ds.any fun z => PyData.eqv z d) else none
  | .o (.lst ds) => (dOf a).bind fun d => if SeqAt.shaped d = true ∧ SeqAt.shaped (.list ds) = true then bN neg (ds.any fun z => PyData.eqv z d) else none
  | _ => none
theorem sign1_inv {z : Str} {c : Nat} (h : sign1 z = some c) : z = ⟨#[c]⟩ := by
  unfold sign1 at h
  split at h
  · rename_i e
    cases h
    obtain ⟨a⟩ := z
    obtain ⟨l⟩ := a
    cases e
    rfl
  · cases h
theorem pg_in {Z : Zx} {neg : Bool} : POp2 Z (rInU Z neg) (gIn neg) := fun G H x y a b c s ra rb hg Q k => by
  unfold gIn at hg
  split at hg
  · obtain ⟨d, h1, hg⟩ := Option.bind_eq_some_iff.mp hg
    obtain ⟨ky, h2, hg⟩ := Option.bind_eq_some_iff.mp hg
    cases hg
    obtain ⟨p, rfl, ws, q, w⟩ := rb
    exact .inl (.inl ⟨p, ws, ky, rfl, q, keyD_inv (datOf_inv ra h1) h2, by rw [kv_has w]; exact k _ G H (.refl s) (Dq.bl _)⟩)
  · obtain ⟨d, h1, hg⟩ := Option.bind_eq_some_iff.mp hg
    obtain ⟨ky, h2, hg⟩ := Option.bind_eq_some_iff.mp hg
    cases hg
    obtain ⟨p, rfl, ws, q, w⟩ := rb
    obtain ⟨pb, vs, rfl, t, tw⟩ := ra.sqt h1
    rw [keysD_inv tw h2] at t
    exact .inl (.inr ⟨p, pb, ws, ky, rfl, rfl, q, t.mono s, KtR.keys s w, by rw [kv_has w.kv]; exact k _ G H (.refl s) (Dq.bl _)⟩)
  · obtain ⟨d, h1, hg⟩ := Option.bind_eq_some_iff.mp hg
    obtain ⟨ky, h2, hg⟩ := Option.bind_eq_some_iff.mp hg
    cases hg
    cases rb
    rw [ra.str h1, sign1_inv h2]
    exact .inr (.inr ⟨ky, _, rfl, rfl, k _ G H (.refl s) (Dq.bl _)⟩)
  · obtain ⟨d, h1, hg⟩ := Option.bind_eq_some_iff.mp hg
    split at hg
    · rename_i hs
      cases hg
      exact .inr (.inl ⟨d, _, _, Dq.dp _ _ (ra.dq s h1), Dq.dp _ _ (rb.dq s rfl), .inr rfl, hs.1, hs.2, k _ G H (.refl s) (Dq.bl _)⟩)
    · cases hg
  · obtain ⟨d, h1, hg⟩ := Option.bind_eq_some_iff.mp hg
    split at hg
    · rename_i hs
      cases hg
      exact .inr (.inl ⟨d, _, _, Dq.dp _ _ (ra.dq s h1), Dq.dp _ _ (rb.dq s rfl), .inl rfl, hs.1, hs.2, k _ G H (.refl s) (Dq.bl _)⟩)
    · cases hg
  · obtain ⟨d, h1, hg⟩ := Option.bind_eq_some_iff.mp hg
    split at hg
    · rename_i hs
      cases hg
      exact .inr (.inl ⟨d, _, _, Dq.dp _ _ (ra.dq s h1), Dq.dp _ _ (rb.dq s rfl), .inl rfl, hs.1, hs.2, k _ G H (.refl s) (Dq.bl _)⟩)
    · cases hg
  · cases hg
end HM

set_option Elab.async false
set_option linter.all false
set_option maxRecDepth 100000
set_option maxHeartbeats 4000000
set_option autoImplicit false
/-! HF: expressions that change one's own objects: their results, readings, rules. -/
namespace HM
open PySem PySem.Spec PyProof.Rows L2

/-- an exception of one's own: its class by name, its fields -/
structure Ex where
  cls : Str
  fs : List (Str × D)
inductive Res (α : Type) where
  | stuck
  | ok (a : α) (η : Sl)
  | exc (x : Ex) (η : Sl)
/-- how exceptions stand, and what is wanted of them -/
structure Qx where
  xr : Ex → Value → Option Addr → Hp → Prop
  w : WX
def Res.bind {α β : Type} (r : Res α) (k : α → Sl → Res β) : Res β := match r with
  | .stuck => .stuck
  | .ok a η => k a η
  | .exc x η => .exc x η
@[simp] theorem Res.bind_ok {α β : Type} (a : α) (η : Sl) (k : α → Sl → Res β) : (Res.ok a η).bind k = k a η := id rfl
@[simp] theorem Res.bind_stuck {α β : Type} (k : α → Sl → Res β) : (Res.stuck : Res α).bind k = .stuck := id rfl
@[simp] theorem Res.bind_exc {α β : Type} (x : Ex) (η : Sl) (k : α → Sl → Res β) : (Res.exc x η : Res α).bind k = .exc x η := id rfl
def ofO {α : Type} (o : Option α) (η : Sl) : Res α := match o with
  | some a => .ok a η
  | none => .stuck
@[simp] theorem ofO_some {α : Type} (a : α) (η : Sl) : ofO (some a) η = .ok a η := id rfl
@[simp] theorem ofO_none {α : Type} (η : Sl) : ofO (none : Option α) η = .stuck := id rfl

/-- the address is one of one's own objects' -/
def Owned (σ : Sta) (η : Sl) (a : Addr) : Prop := ∃ (i : Nat) (s : Slot), η[i]? = some s ∧ s.isO = true ∧ σ[i]? = some (some (.ref a))
/-- from state to state: frozen data stand, what is not one's own stands -/
structure Mov (σ : Sta) (η : Sl) (G H : Hp) (η' : Sl) (G' H' : Hp) : Prop where
  g : Same G G'
  kp : ∀ a o, H a = some o → ¬ Owned σ η a → H' a = some o
  nw : ∀ a o, G' a = some o → G a = some o ∨ H a = none ∨ Owned σ η a
  ow : ∀ a, Owned σ η' a → Owned σ η a
section
variable {Z : Zx} {F : Fx} {σ : Sta} {η η' η1 η2 : Sl} {G G' G1 G2 H H' H1 H2 : Hp}
theorem Mov.refl : Mov σ η G H η G H := ⟨Same.refl _, fun _ _ e _ => e, fun _ _ e => .inl e, fun _ h => h⟩
theorem Mov.step (S : Step G H G' H') : Mov σ η G H η G' H' := ⟨S.g, fun a o e _ => S.h a o e, fun a o e => (S.nw a o e).imp id .inl, fun _ h => h⟩
theorem Mov.trans (a : Mov σ η G H η1 G1 H1) (b : Mov σ η1 G1 H1 η2 G2 H2) : Mov σ η G H η2 G2 H2 where
  g := a.g.trans b.g
  kp := fun c o e n => b.kp c o (a.kp c o e n) fun z => n (a.ow c z)
  nw := fun c o e => by
    rcases b.nw c o e with e | e | e
    · exact a.nw c o e
    · by_cases ho : Owned σ η c
      · exact .inr (.inr ho)
      · refine .inr (.inl ?_)
        cases q : H c with
        | none => rfl
        | some u => rw [a.kp c u q ho] at e; cases e
    · exact .inr (.inr (a.ow c e))
  ow := fun c h => a.ow c (b.ow c h)
theorem Mov.gone (M : Mov σ η G H η' G' H') {p : Addr} (h : H' p = none) : H p = none ∨ Owned σ η p := by
  by_cases ho : Owned σ η p
  · exact .inr ho
  · refine .inl ?_
    cases q : H p with
    | none => rfl
    | some u => rw [M.kp p u q ho] at h; cases h
theorem Rep.notOwned (R : Rep Z F G H σ η) {p : Addr} (h : H p = none) : ¬ Owned σ η p := fun ⟨i, s, h1, h2, h3⟩ => R.apart h i s h1 h2 h3
/-- what is one's own is not frozen, stands, and was not there at the entry but for the one that may change -/
theorem Rep.owned (R : Rep Z F G H σ η) {p : Addr} (h : Owned σ η p) : G p = none ∧ (∃ u, H p = some u) ∧ (F.H p = none ∨ F.m = some p) := by
  obtain ⟨i, s, h1, h2, h3⟩ := h
  have w := R.sl i s h1
  cases s with
  | non => cases h2
  | val d => cases h2
  | own o => obtain ⟨q, g1, g2, g3, g4⟩ := w; rw [g1] at h3; cases h3; exact ⟨g2, g4.some, .inl g3⟩
  | mu o => obtain ⟨q, g1, g2, g3, g4⟩ := w; rw [g1] at h3; cases h3; exact ⟨g2, g4.some, .inr g3⟩
/-- an exception leaves -/
def XArm (Z : Zx) (q : Qx) (F : Fx) (G : Hp) (x : Ex) (η' : Sl) : Prop := ∀ σ' G' H' cls d, Rep Z F G' H' σ' η' → Same G G' → q.xr x cls d H' → q.w cls d σ' H'
def Rsp (Z : Zx) (q : Qx) (F : Fx) (G H : Hp) (σ : Sta) (η : Sl) {α : Type} (r : Res α) (P : α → Sl → Hp → Hp → Prop) : Prop := match r with
  | .stuck => False
  | .ok a η' => ∀ G' H', Mov σ η G H η' G' H' → Rep Z F G' H' σ η' → P a η' G' H'
  | .exc x η' => XArm Z q F G x η'
variable {q : Qx} {α β : Type}
theorem XArm.later {x : Ex} (s : Same G G') (h : XArm Z q F G x η) : XArm Z q F G' x η := fun σ' G2 H2 cls d R t r => h σ' G2 H2 cls d R (s.trans t) r
theorem Rsp.later {r : Res α} {P : α → Sl → Hp → Hp → Prop} (M : Mov σ η G H η1 G1 H1) (h : Rsp Z q F G H σ η r P) : Rsp Z q F G1 H1 σ η1 r P := by
  cases r with
  | stuck => exact h
  | ok a η' => exact fun G' H' M' R' => h G' H' (M.trans M') R'
  | exc x η' => exact XArm.later M.g h
theorem Rsp.bnd {r : Res α} {k : α → Sl → Res β} {P : β → Sl → Hp → Hp → Prop} (h : Rsp Z q F G H σ η (r.bind k) P) : Rsp Z q F G H σ η r fun a η1 G1 H1 => Rsp Z q F G1 H1 σ η1 (k a η1) P := by
  cases r with
  | stuck => exact h
  | ok a η1 => exact fun G1 H1 M1 _ => Rsp.later M1 h
  | exc x η' => exact h
theorem Rsp.mono {r : Res α} {P P' : α → Sl → Hp → Hp → Prop} (h : Rsp Z q F G H σ η r P) (k : ∀ a η1 G1 H1, Mov σ η G H η1 G1 H1 → Rep Z F G1 H1 σ η1 → P a η1 G1 H1 → P' a η1 G1 H1) : Rsp Z q F G H σ η r P' := by
  cases r with
  | stuck => exact h
  | ok a η1 => exact fun G1 H1 M R => k a η1 G1 H1 M R (h G1 H1 M R)
  | exc x η' => exact h
/-- at rest -/
theorem Rsp.done {a : α} {P : α → Sl → Hp → Hp → Prop} (R : Rep Z F G H σ η) (h : Rsp Z q F G H σ η (.ok a η) P) (S : Step G H G' H') : P a η G' H' := h G' H' (.step S) (R.step S)
theorem Rsp.ofO {o : Option α} {P : α → Sl → Hp → Hp → Prop} (R : Rep Z F G H σ η) (h : Rsp Z q F G H σ η (HM.ofO o η) P) : ∃ a, o = some a ∧ ∀ G' H', Step G H G' H' → P a η G' H' := by
  cases o with
  | none => exact h.elim
  | some a => exact ⟨a, rfl, fun G' H' S => Rsp.done R h S⟩
end

/-! ### readings -/
def tE (Z : Zx) (q : Qx) (f : Sl → Res D) : TE := fun σ H Q => ∃ F G η, Rep Z F G H σ η ∧ Rsp Z q F G H σ η (f η) fun x _ G' H' => ∀ v, Dq Z.K G' v x → Q v H'
def tEA (Z : Zx) (q : Qx) (f : Sl → Res (List D)) : TA := fun σ H Q => ∃ F G η, Rep Z F G H σ η ∧ Rsp Z q F G H σ η (f η) fun xs _ G' H' => ∀ vs, DqAll Z.K G' vs xs → Q vs H'
def tET (Z : Zx) (q : Qx) (f : Sl → Res Bool) : TT := fun σ H Q => ∃ F G η, Rep Z F G H σ η ∧ Rsp Z q F G H σ η (f η) fun b _ _ H' => Q b H'
/-- .. that makes a new object -/
def tEO (Z : Zx) (q : Qx) (f : Sl → Res OD) : TE := fun σ H Q => ∃ F G η, Rep Z F G H σ η ∧ Rsp Z q F G H σ η (f η) fun o η' G' H' => ∀ p, ¬ Owned σ η' p → G' p = none → F.H p = none → (H p = none ∨ Owned σ η p) → OwnR Z G' H' p o → Q (.ref p) H'
abbrev EE (X : Cx) (q : Qx) (e : Expr) (f : Sl → Res D) : Prop := PE X e (tE (zx X) q f)
abbrev EEA (X : Cx) (q : Qx) (es : List Expr) (f : Sl → Res (List D)) : Prop := PA X es (tEA (zx X) q f)
abbrev EET (X : Cx) (q : Qx) (e : Expr) (f : Sl → Res Bool) : Prop := PT X e (tET (zx X) q f)
abbrev EEW (X : Cx) (q : Qx) (e : Expr) (f : Sl → Res Bool) : Prop := PW X e (tET (zx X) q f)
abbrev EEO (X : Cx) (q : Qx) (e : Expr) (f : Sl → Res OD) : Prop := PE X e (tEO (zx X) q f)

/-! ### expressions -/
def eP (f : Sl → Option Pv) : Sl → Res D := fun η => ofO ((f η).bind datOf) η
/-- a name; a list of one's own is frozen -/
def eV (i : Nat) : Sl → Res D := fun η => match η[i]? with
  | some (.val d) => .ok d η
  | some (.own (.lst ds)) => .ok (.list ds) (η.set i (.val (.list ds)))
  | _ => .stuck
def eaNil : Sl → Res (List D) := fun η => .ok [] η
def eaCons (f : Sl → Res D) (r : Sl → Res (List D)) : Sl → Res (List D) := fun η => (f η).bind fun x η1 => (r η1).bind fun xs η2 => .ok (x :: xs) η2
def e1 (g : Pv → Option Pv) (fa : Sl → Res D) : Sl → Res D := fun η => (fa η).bind fun x η1 => ofO ((g (.d x)).bind datOf) η1
def e2 (g : Pv → Pv → Option Pv) (fa fb : Sl → Res D) : Sl → Res D := fun η => (fa η).bind fun x η1 => (fb η1).bind fun y η2 => ofO ((g (.d x) (.d y)).bind datOf) η2
def eN (g : List Pv → Option Pv) (f : Sl → Res (List D)) : Sl → Res D := fun η => (f η).bind fun xs η1 => ofO ((g (xs.map .d)).bind datOf) η1
def eoN (g : List Pv → Option OD) (f : Sl → Res (List D)) : Sl → Res OD := fun η => (f η).bind fun xs η1 => ofO (g (xs.map .d)) η1
def eo2 (g : Pv → Pv → Option OD) (fa fb : Sl → Res D) : Sl → Res OD := fun η => (fa η).bind fun x η1 => (fb η1).bind fun y η2 => ofO (g (.d x) (.d y)) η2
def eTup (f : Sl → Res (List D)) : Sl → Res D := fun η => (f η).bind fun xs η1 => if xs.length ≤ 16777216 then .ok (.tuple xs) η1 else .stuck
def eLst (f : Sl → Res (List D)) : Sl → Res OD := fun η => (f η).bind fun xs η1 => if xs.length ≤ 16777216 then .ok (.lst xs) η1 else .stuck
def eFrz (f : Sl → Res OD) : Sl → Res D := fun η => (f η).bind fun o η1 => match o with
  | .lst ds => .ok (.list ds) η1
  | _ => .stuck
def eoP (f : Sl → Option OD) : Sl → Res OD := fun η => ofO (f η) η
def etP (f : Sl → Option Bool) : Sl → Res Bool := fun η => ofO (f η) η
def etB (f : Sl → Res D) : Sl → Res Bool := fun η => (f η).bind fun d η1 => ofO (isB (.d d)) η1
def eIf (c : Sl → Res Bool) (a b : Sl → Res D) : Sl → Res D := fun η => (c η).bind fun k η1 => if k = true then a η1 else b η1
def etNot (c : Sl → Res Bool) : Sl → Res Bool := fun η => (c η).bind fun k η1 => .ok (!k) η1
def etAnd (c d : Sl → Res Bool) : Sl → Res Bool := fun η => (c η).bind fun k η1 => if k = true then d η1 else .ok false η1
def etOr (c d : Sl → Res Bool) : Sl → Res Bool := fun η => (c η).bind fun k η1 => if k = true then .ok true η1 else d η1
def eAnd (c d : Sl → Res D) : Sl → Res D := fun η => (etB c η).bind fun k η1 => if k = true then d η1 else .ok (.bool false) η1
def eOr (c d : Sl → Res D) : Sl → Res D := fun η => (etB c η).bind fun k η1 => if k = true then .ok (.bool true) η1 else d η1
def eNot (c : Sl → Res D) : Sl → Res D := fun η => (etB c η).bind fun k η1 => .ok (.bool (!k)) η1
section
variable {X : Cx} {q : Qx} {e a b : Expr} {pos : Pos} {fa fb : Sl → Res D}
theorem ee_p {f : Sl → Option Pv} (h : EP X e f) : EE X q e (eP f) := h.weak fun σ H Q ⟨F, G, η, R, hf⟩ => by
  obtain ⟨d, e1, k⟩ := Rsp.ofO R hf
  obtain ⟨x, h1, h2⟩ := Option.bind_eq_some_iff.mp e1
  exact ⟨F, G, η, x, R, h1, fun v G' H' S r => k G' H' S v (datOf_inv r h2)⟩
theorem eet_p {f : Sl → Option Bool} (h : ET X e f) : EET X q e (etP f) := h.weak fun σ H Q ⟨F, G, η, R, hf⟩ => by
  obtain ⟨d, e1, k⟩ := Rsp.ofO R hf
  exact ⟨F, G, η, d, R, e1, k⟩
theorem eeo_p {f : Sl → Option OD} (h : EO X e f) : EEO X q e (eoP f) := h.weak fun σ H Q ⟨F, G, η, R, hf⟩ => by
  obtain ⟨d, e1, k⟩ := Rsp.ofO R hf
  exact ⟨F, G, η, d, R, e1, fun p G' H' S hp gp w => k G' H' S p (R.notOwned hp) gp (R.fnone hp) (.inl hp) w⟩
theorem Mov.freeze {G H : Hp} {σ : Sta} {η : Sl} {i : Nat} {p : Addr} {o : OD} {ho : HO} {d : D} (hs : η[i]? = some (.own o)) (h1 : σ[i]? = some (some (.ref p))) (gp : G p = none) : Mov σ η G H (η.set i (.val d)) (upd G p ho) H where
  g := Same.upd gp
  kp := fun _ _ e _ => e
  nw := fun a u e => by
    by_cases ha : a = p
    · subst ha; exact .inr (.inr ⟨i, _, hs, rfl, h1⟩)
    · rw [upd_ne ha] at e; exact .inl e
  ow := fun a ⟨j, s, g1, g2, g3⟩ => by
    have hi : i < η.length := (List.getElem?_eq_some_iff.mp hs).1
    by_cases hj : i = j
    · subst hj
      rw [List.getElem?_set_self hi] at g1
      cases g1; cases g2
    · rw [List.getElem?_set_ne hj] at g1
      exact ⟨j, s, g1, g2, g3⟩
theorem ee_v {i : Nat} {x : Str} (h : PE X (.Name x pos) (tVar i)) : EE X q (.Name x pos) (eV i) := h.weak fun σ H Q ⟨F, G, η, R, hf⟩ => by
  unfold eV at hf
  cases hs : η[i]? with
  | none => rw [hs] at hf; exact hf.elim
  | some s =>
    rw [hs] at hf
    cases s with
    | non => exact hf.elim
    | val d =>
      obtain ⟨v, h1, h2⟩ := R.sl i _ hs
      exact ⟨v, h1, Rsp.done R hf (.refl R.gh) v h2⟩
    | mu o => exact hf.elim
    | own o =>
      cases o with
      | lst ds =>
        obtain ⟨p, vs, h1, gp, R', d⟩ := R.freeze hs
        exact ⟨_, h1, hf _ _ (Mov.freeze hs h1 gp) R' _ d⟩
      | dK _ => exact hf.elim
      | dT _ => exact hf.elim
theorem eea_nil : EEA X q [] eaNil := pa_nil.weak fun σ H Q ⟨F, G, η, R, hf⟩ => Rsp.done R hf (.refl R.gh) [] .nil
theorem eea_cons {es : List Expr} {fr : Sl → Res (List D)} (h : EE X q a fa) (h2 : EEA X q es fr) (hs : starEach (a :: es) X.env = (false, eval a X.env) :: starEach es X.env := by rfl) : EEA X q (a :: es) (eaCons fa fr) :=
  (pa_cons h h2 hs).weak fun σ H Q ⟨F, G, η, R, hf⟩ => ⟨F, G, η, R, hf.bnd.mono fun x η1 G1 H1 M1 R1 hf v r1 => ⟨F, G1, η1, R1, hf.bnd.mono fun xs η2 G2 H2 M2 R2 hf vs r2 =>
    Rsp.done R2 hf (.refl R2.gh) (v :: vs) (.cons (Dq.mono M2.g _ _ r1) r2)⟩⟩
/-- what an operation makes of data -/
theorem op1_dat {Z : Zx} {r : V → Hp → VK → Prop} {g : Pv → Option Pv} (hg : POp1 Z r g) {G H : Hp} {v : V} {x d : D} {Q : VK} (s : Same G H) (rv : Dq Z.K G v x) (e : (g (.d x)).bind datOf = some d) (k : ∀ z G' H', Step G H G' H' → Dq Z.K G' z d → Q z H') : r v H Q := by
  obtain ⟨y, h1, h2⟩ := Option.bind_eq_some_iff.mp e
  exact hg G H v (.d x) y s rv h1 Q fun z G' H' S r' => k z G' H' S (datOf_inv r' h2)
theorem op2_dat {Z : Zx} {r : V → V → Hp → VK → Prop} {g : Pv → Pv → Option Pv} (hg : POp2 Z r g) {G H : Hp} {v w : V} {x y d : D} {Q : VK} (s : Same G H) (rv : Dq Z.K G v x) (rw' : Dq Z.K G w y) (e : (g (.d x) (.d y)).bind datOf = some d) (k : ∀ z G' H', Step G H G' H' → Dq Z.K G' z d → Q z H') : r v w H Q := by
  obtain ⟨u, h1, h2⟩ := Option.bind_eq_some_iff.mp e
  exact hg G H v w (.d x) (.d y) u s rv rw' h1 Q fun z G' H' S r' => k z G' H' S (datOf_inv r' h2)
theorem pvRs_dat {Z : Zx} {G H : Hp} : ∀ {vs : List V} {xs : List D}, DqAll Z.K G vs xs → PvRs Z G H vs (xs.map .d)
  | _, _, .nil => .nil
  | _, _, .cons a r => .cons a (pvRs_dat r)
theorem opN_dat {Z : Zx} {r : List V → Hp → VK → Prop} {g : List Pv → Option Pv} (hg : POpN Z r g) {G H : Hp} {vs : List V} {xs : List D} {d : D} {Q : VK} (s : Same G H) (rv : DqAll Z.K G vs xs) (e : (g (xs.map .d)).bind datOf = some d) (k : ∀ z G' H', Step G H G' H' → Dq Z.K G' z d → Q z H') : r vs H Q := by
  obtain ⟨y, h1, h2⟩ := Option.bind_eq_some_iff.mp e
  exact hg G H vs _ y s (pvRs_dat rv) h1 Q fun z G' H' S r' => k z G' H' S (datOf_inv r' h2)
/-- two in a row -/
theorem twoE {Z : Zx} {r : V → V → Hp → VK → Prop} {g : Pv → Pv → Option Pv} (hg : POp2 Z r g) {σ : Sta} {H : Hp} {Q : VK} (h : tE Z q (e2 g fa fb) σ H Q) : tOp r (tE Z q fa) (tE Z q fb) σ H Q := by
  obtain ⟨F, G, η, R, hf⟩ := h
  refine ⟨F, G, η, R, hf.bnd.mono fun x η1 G1 H1 M1 R1 hf v r1 => ⟨F, G1, η1, R1, hf.bnd.mono fun y η2 G2 H2 M2 R2 hf w r2 => ?_⟩⟩
  obtain ⟨d, e1, k⟩ := Rsp.ofO R2 hf
  exact op2_dat hg R2.gh (Dq.mono M2.g _ _ r1) r2 e1 fun z G' H' S r' => k G' H' S z r'
theorem ee_bin {op : Operator} {r : R2} {g : Pv → Pv → Option Pv} (ho : OpR X (binaryOp op) r) (hg : POp2 (zx X) r g) (ha : EE X q a fa) (hb : EE X q b fb) : EE X q (.BinOp a op b pos) (e2 g fa fb) :=
  (pe_op ho ha hb).weak fun _ _ _ h => twoE hg h
theorem eeo_bin {op : Operator} {r : R2} {g : Pv → Pv → Option OD} (ho : OpR X (binaryOp op) r) (hg : OOp2 (zx X) r g) (ha : EE X q a fa) (hb : EE X q b fb) : EEO X q (.BinOp a op b pos) (eo2 g fa fb) :=
  (pe_op ho ha hb).weak fun σ H Q ⟨F, G, η, R, hf⟩ => by
    refine ⟨F, G, η, R, hf.bnd.mono fun x η1 G1 H1 M1 R1 hf v r1 => ⟨F, G1, η1, R1, hf.bnd.mono fun y η2 G2 H2 M2 R2 hf w r2 => ?_⟩⟩
    obtain ⟨d, e1, k⟩ := Rsp.ofO R2 hf
    exact hg G2 H2 v w (.d x) (.d y) d R2.gh (Dq.mono M2.g _ _ r1) r2 e1 Q fun p G' H' S hp gp o => k G' H' S p (R2.notOwned hp) gp (R2.fnone hp) ((M1.trans M2).gone hp) o
theorem ee_un {op : UnaryOp} {r : V → Hp → VK → Prop} {g : Pv → Option Pv} (ho : UnR X (unaryOp op) r) (hg : POp1 (zx X) r g) (ha : EE X q a fa) : EE X q (.UnaryOp op a pos) (e1 g fa) :=
  (pe_un ho ha).weak fun σ H Q ⟨F, G, η, R, hf⟩ => by
    refine ⟨F, G, η, R, hf.bnd.mono fun x η1 G1 H1 M1 R1 hf v r1 => ?_⟩
    obtain ⟨d, e1, k⟩ := Rsp.ofO R1 hf
    exact op1_dat hg R1.gh r1 e1 fun z G' H' S r' => k G' H' S z r'
theorem ee_cmp {op : CmpOp} {r : R2} {g : Pv → Pv → Option Pv} (ho : OpR X (compareOp op) r) (hg : POp2 (zx X) r g) (ha : EE X q a fa) (hb : EE X q b fb) (hm : behindInMarks op b = false) : EE X q (.Compare a [op] [b] pos) (e2 g fa fb) :=
  (pe_cmpR ho ha hb hm).weak fun _ _ _ h => twoE hg h
theorem ee_ix (ha : EE X q a fa) (hb : EE X q b fb) (hs : PlainIx b) : EE X q (.Subscript a b pos) (e2 gIx fa fb) := (pe_ix ix_seq ha hb hs).weak fun _ _ _ h => twoE pg_ix h
/-- a test: what is True or False -/
theorem isB_dat {Z : Zx} {G : Hp} {v : V} {x : D} {b : Bool} (r : Dq Z.K G v x) (h : isB (.d x) = some b) : v = .bl b := isB_inv (Z := Z) (G := G) (H := G) (x := .d x) r h
theorem tb_E {Z : Zx} {σ : Sta} {H : Hp} {Q : Bool → Hp → Prop} (h : tET Z q (etB fa) σ H Q) : tE Z q fa σ H fun x H1 => ∃ c, x = .bl c ∧ Q c H1 := by
  obtain ⟨F, G, η, R, hf⟩ := h
  refine ⟨F, G, η, R, hf.bnd.mono fun x η1 G1 H1 M1 R1 hf v r1 => ?_⟩
  obtain ⟨c, e1, k⟩ := Rsp.ofO R1 hf
  exact ⟨c, isB_dat r1 e1, k G1 H1 (.refl R1.gh)⟩
theorem eet_cmp {op : CmpOp} {r : R2} {g : Pv → Pv → Option Pv} (ho : OpR X (compareOp op) r) (hg : POp2 (zx X) r g) (ha : EE X q a fa) (hb : EE X q b fb) (hm : behindInMarks op b = false) : EET X q (.Compare a [op] [b] pos) (etB (e2 g fa fb)) :=
  (pt_cmpR ho ha hb hm).weak fun _ _ _ h => twoE hg (tb_E h)
theorem eet_val (h : EE X q e fa) (he : ∀ whole, isTrue e X.env whole = (do let v ← whole; standAt e.pos; holding [v] (truthy v)) := by intro _; rfl) : EET X q e (etB fa) :=
  (pt_val h he).weak fun _ _ _ h => tb_E h
theorem eet_not {f : Sl → Res Bool} (h : EET X q a f) : EET X q (.UnaryOp .Not a pos) (etNot f) :=
  (pt_not h).weak fun σ H Q ⟨F, G, η, R, hf⟩ => ⟨F, G, η, R, hf.bnd.mono fun k η1 G1 H1 M1 R1 hf => Rsp.done R1 hf (.refl R1.gh)⟩
theorem eew_and1 {f : Sl → Res Bool} (h : EET X q a f) : EEW X q (.BoolOp .And [a] pos) f := pw_and1 h
theorem eew_or1 {f : Sl → Res Bool} (h : EET X q a f) : EEW X q (.BoolOp .Or [a] pos) f := pw_or1 h
theorem eew_and {rest : List Expr} {f g : Sl → Res Bool} (h : EET X q a f) (h2 : EEW X q (.BoolOp .And (b :: rest) pos) g) : EEW X q (.BoolOp .And (a :: b :: rest) pos) (etAnd f g) :=
  (pw_and h h2).weak fun σ H Q ⟨F, G, η, R, hf⟩ => ⟨F, G, η, R, hf.bnd.mono fun k η1 G1 H1 M1 R1 hf => by
    cases k with
    | true => exact ⟨F, G1, η1, R1, hf⟩
    | false => exact Rsp.done R1 hf (.refl R1.gh)⟩
theorem eew_or {rest : List Expr} {f g : Sl → Res Bool} (h : EET X q a f) (h2 : EEW X q (.BoolOp .Or (b :: rest) pos) g) : EEW X q (.BoolOp .Or (a :: b :: rest) pos) (etOr f g) :=
  (pw_or h h2).weak fun σ H Q ⟨F, G, η, R, hf⟩ => ⟨F, G, η, R, hf.bnd.mono fun k η1 G1 H1 M1 R1 hf => by
    cases k with
    | false => exact ⟨F, G1, η1, R1, hf⟩
    | true => exact Rsp.done R1 hf (.refl R1.gh)⟩
theorem EEW.t {f : Sl → Res Bool} (h : EEW X q e f) : EET X q e f := PW.pt h
theorem ee_one {op : BoolOp} (h : EE X q a fa) : EE X q (.BoolOp op [a] pos) fa := pe_one h
theorem ee_and {rest : List Expr} (h : EE X q a fa) (h2 : EE X q (.BoolOp .And (b :: rest) pos) fb) : EE X q (.BoolOp .And (a :: b :: rest) pos) (eAnd fa fb) :=
  (pe_and h h2).weak fun σ H Q ⟨F, G, η, R, hf⟩ => ⟨F, G, η, R, hf.bnd.bnd.mono fun x η1 G1 H1 M1 R1 hf v r1 => by
    obtain ⟨c, e1, k⟩ := Rsp.ofO R1 hf
    refine ⟨c, isB_dat r1 e1, ?_⟩
    have hk := k G1 H1 (.refl R1.gh)
    cases c with
    | true => exact ⟨F, G1, η1, R1, hk⟩
    | false => exact Rsp.done R1 hk (.refl R1.gh) _ (.bl false)⟩
theorem ee_or {rest : List Expr} (h : EE X q a fa) (h2 : EE X q (.BoolOp .Or (b :: rest) pos) fb) : EE X q (.BoolOp .Or (a :: b :: rest) pos) (eOr fa fb) :=
  (pe_or h h2).weak fun σ H Q ⟨F, G, η, R, hf⟩ => ⟨F, G, η, R, hf.bnd.bnd.mono fun x η1 G1 H1 M1 R1 hf v r1 => by
    obtain ⟨c, e1, k⟩ := Rsp.ofO R1 hf
    refine ⟨c, isB_dat r1 e1, ?_⟩
    have hk := k G1 H1 (.refl R1.gh)
    cases c with
    | false => exact ⟨F, G1, η1, R1, hk⟩
    | true => exact Rsp.done R1 hk (.refl R1.gh) _ (.bl true)⟩
theorem ee_not (h : EE X q a fa) : EE X q (.UnaryOp .Not a pos) (eNot fa) :=
  (pe_not h).weak fun σ H Q ⟨F, G, η, R, hf⟩ => ⟨F, G, η, R, hf.bnd.bnd.mono fun x η1 G1 H1 M1 R1 hf v r1 => by
    obtain ⟨c, e1, k⟩ := Rsp.ofO R1 hf
    have hk := k G1 H1 (.refl R1.gh)
    exact ⟨c, isB_dat r1 e1, Rsp.done R1 hk (.refl R1.gh) _ (.bl _)⟩⟩
theorem ee_if {c : Expr} {fc : Sl → Res Bool} (hc : EET X q c fc) (h : EE X q a fa) (h2 : EE X q b fb) : EE X q (.IfExp c a b pos) (eIf fc fa fb) :=
  (pe_ifExp hc h h2).weak fun σ H Q ⟨F, G, η, R, hf⟩ => ⟨F, G, η, R, hf.bnd.mono fun k η1 G1 H1 M1 R1 hf => by
    cases k with
    | true => exact ⟨F, G1, η1, R1, hf⟩
    | false => exact ⟨F, G1, η1, R1, hf⟩⟩
/-! ### displays -/
theorem ee_tup {es : List Expr} {f : Sl → Res (List D)} {x1 : Nat} (h : EEA X q es f) : EE X q (.Tuple es x1 pos) (eTup f) :=
  (pe_tupF h).weak fun σ H Q ⟨F, G, η, R, hf⟩ => ⟨F, G, η, R, hf.bnd.mono fun xs η1 G1 H1 M1 R1 hf vs r1 => by
    split at hf
    · rename_i hz
      exact ⟨by rw [r1.len, line_eq]; exact hz, newT_of R1.gh r1 fun z G' H' S r' => Rsp.done R1 hf S z r'⟩
    · exact hf.elim⟩
theorem eeo_lst {es : List Expr} {f : Sl → Res (List D)} (h : EEA X q es f) : EEO X q (.List es pos) (eLst f) :=
  (pe_lst h).weak fun σ H Q ⟨F, G, η, R, hf⟩ => ⟨F, G, η, R, hf.bnd.mono fun xs η1 G1 H1 M1 R1 hf vs r1 => by
    split at hf
    · rename_i hz
      refine ⟨by rw [r1.len, line_eq]; exact hz, fun p hp => ?_⟩
      obtain ⟨S, gp, o⟩ := lst_step R1.gh r1 hp
      exact Rsp.done R1 hf S p (R1.notOwned hp) gp (R1.fnone hp) (M1.gone hp) o
    · exact hf.elim⟩
/-- what is new is frozen -/
theorem Rep.froze {Z : Zx} {F : Fx} {G H : Hp} {σ : Sta} {η : Sl} (R : Rep Z F G H σ η) {p : Addr} {ds : List D} (np : ¬ Owned σ η p) (gp : G p = none) (fp : F.H p = none) (o : OwnR Z G H p (.lst ds)) :
    ∃ G', Same G G' ∧ Rep Z F G' H σ η ∧ Dq Z.K G' (.ref p) (.list ds) ∧ ∀ a u, G' a = some u → G a = some u ∨ a = p := by
  obtain ⟨vs, h1, h2⟩ := o
  have sg : Same G (upd G p (.lst vs)) := Same.upd gp
  refine ⟨upd G p (.lst vs), sg, ⟨fun b u e => ?_, R.g0.trans sg, R.fr, R.mm, fun a u e => ?_, R.len, fun i s hs => ?_, R.di⟩, .lst (SqL.of upd_same) (DqAll.mono sg _ _ h2), fun a u e => ?_⟩
  · by_cases hb : b = p
    · subst hb; rw [upd_same] at e; cases e; exact h1
    · rw [upd_ne hb] at e; exact R.gh _ _ e
  · by_cases hb : a = p
    · subst hb; exact .inr fp
    · rw [upd_ne hb] at e; exact R.gn _ _ e
  · have z := R.sl i s hs
    have ne : s.isO = true → ∀ b, σ[i]? = some (some (.ref b)) → b ≠ p := fun os b hb e => by subst e; exact np ⟨i, s, hs, os, hb⟩
    cases s with
    | non => trivial
    | val d => obtain ⟨v, g1, g2⟩ := z; exact ⟨v, g1, Dq.mono sg _ _ g2⟩
    | own o => obtain ⟨b, g1, g2, g3, g4⟩ := z; exact ⟨b, g1, by rw [upd_ne (ne rfl b g1)]; exact g2, g3, g4.mono sg fun _ u => u⟩
    | mu o => obtain ⟨b, g1, g2, g3, g4⟩ := z; exact ⟨b, g1, by rw [upd_ne (ne rfl b g1)]; exact g2, g3, g4.mono sg fun _ u => u⟩
  · by_cases hb : a = p
    · exact .inr hb
    · rw [upd_ne hb] at e; exact .inl e
end
end HM

set_option Elab.async false
set_option linter.all false
set_option maxRecDepth 100000
set_option maxHeartbeats 4000000
set_option autoImplicit false
/-! HG: freezing what is new, calls with changing arguments, methods. -/
namespace HM
open PySem PySem.Spec PyProof.Rows L2
section
variable {X : Cx} {q : Qx} {e a b : Expr} {pos : Pos} {fa fb : Sl → Res D}
/-- what is new, frozen -/
theorem EEO.frz {f : Sl → Res OD} (h : EEO X q e f) : EE X q e (eFrz f) := h.weak fun σ H Q ⟨F, G, η, R, hf⟩ => by
  refine ⟨F, G, η, R, ?_⟩
  unfold eFrz at hf
  cases hr : f η with
  | stuck => rw [hr] at hf; exact hf
  | exc x η1 => rw [hr] at hf; exact hf
  | ok o η1 =>
    rw [hr] at hf
    intro G1 H1 M1 R1 p np gp fp hp w
    cases o with
    | lst ds =>
      obtain ⟨G', sg, R', d, nw⟩ := R1.froze np gp fp w
      refine hf G' H1 ⟨M1.g.trans sg, M1.kp, fun a u e => ?_, M1.ow⟩ R' _ d
      rcases nw a u e with e | e
      · exact M1.nw a u e
      · subst e; exact .inr hp
    | dK _ => exact hf.elim
    | dT _ => exact hf.elim
variable {es : List Expr} {x : Str} {p : Pos} {id T : String} {r : List V → Hp → VK → Prop} {f : Sl → Res (List D)}
/-- .. with a given end, of several -/
theorem manyE {Z : Zx} {g : List Pv → Option Pv} (hg : POpN Z r g) {σ : Sta} {H : Hp} {Q : VK} (h : tE Z q (eN g f) σ H Q) : tCB r (tEA Z q f) σ H Q := by
  obtain ⟨F, G, η, R, hf⟩ := h
  refine ⟨F, G, η, R, hf.bnd.mono fun xs η1 G1 H1 M1 R1 hf vs r1 => ?_⟩
  obtain ⟨d, e1, k⟩ := Rsp.ofO R1 hf
  exact opN_dat hg R1.gh r1 e1 fun z G' H' S r' => k G' H' S z r'
theorem manyEO {Z : Zx} {g : List Pv → Option OD} (hg : OOpN Z r g) {σ : Sta} {H : Hp} {Q : VK} (h : tEO Z q (eoN g f) σ H Q) : tCB r (tEA Z q f) σ H Q := by
  obtain ⟨F, G, η, R, hf⟩ := h
  refine ⟨F, G, η, R, hf.bnd.mono fun xs η1 G1 H1 M1 R1 hf vs r1 => ?_⟩
  obtain ⟨d, e1, k⟩ := Rsp.ofO R1 hf
  exact hg G1 H1 vs _ d R1.gh (pvRs_dat r1) e1 Q fun p G' H' S hp gp o => k G' H' S p (R1.notOwned hp) gp (R1.fnone hp) (M1.gone hp) o
theorem ee_bi {g : List Pv → Option Pv} (hc : CallR X (.builtin id) r) (hg : POpN (zx X) r g) (gl : Gl X x) (hm : X.mg x = none) (hv : bootBuiltins x = some (.builtin id)) (ha : EEA X q (e :: es) f) (hn : x ≠ "__name__" := by decide) (hdb : (x == ("__debug__" : Str)) = false := by decide)
    (he : starEach (e :: es) X.env = (false, eval e X.env) :: starEach es X.env := by rfl) (hpl : (backTo pos (starEach es X.env)).any (·.1) = false := by rfl) : EE X q (.Call (.Name x p) (e :: es) [] pos) (eN g f) :=
  (pe_callB hc gl hm hv ha hn hdb he hpl).weak fun _ _ _ h => manyE hg h
theorem ee_ty {g : List Pv → Option Pv} (hc : CallR X (.type T) r) (hg : POpN (zx X) r g) (gl : Gl X x) (hm : X.mg x = none) (hv : bootBuiltins x = some (.type T)) (ha : EEA X q (e :: es) f) (hn : x ≠ "__name__" := by decide) (hdb : (x == ("__debug__" : Str)) = false := by decide)
    (he : starEach (e :: es) X.env = (false, eval e X.env) :: starEach es X.env := by rfl) (hpl : (backTo pos (starEach es X.env)).any (·.1) = false := by rfl) : EE X q (.Call (.Name x p) (e :: es) [] pos) (eN g f) :=
  (pe_callTy hc gl hm hv ha hn hdb he hpl).weak fun _ _ _ h => manyE hg h
theorem eeo_bi {g : List Pv → Option OD} (hc : CallR X (.builtin id) r) (hg : OOpN (zx X) r g) (gl : Gl X x) (hm : X.mg x = none) (hv : bootBuiltins x = some (.builtin id)) (ha : EEA X q (e :: es) f) (hn : x ≠ "__name__" := by decide) (hdb : (x == ("__debug__" : Str)) = false := by decide)
    (he : starEach (e :: es) X.env = (false, eval e X.env) :: starEach es X.env := by rfl) (hpl : (backTo pos (starEach es X.env)).any (·.1) = false := by rfl) : EEO X q (.Call (.Name x p) (e :: es) [] pos) (eoN g f) :=
  (pe_callB hc gl hm hv ha hn hdb he hpl).weak fun _ _ _ h => manyEO hg h
theorem eeo_ty {g : List Pv → Option OD} (hc : CallR X (.type T) r) (hg : OOpN (zx X) r g) (gl : Gl X x) (hm : X.mg x = none) (hv : bootBuiltins x = some (.type T)) (ha : EEA X q (e :: es) f) (hn : x ≠ "__name__" := by decide) (hdb : (x == ("__debug__" : Str)) = false := by decide)
    (he : starEach (e :: es) X.env = (false, eval e X.env) :: starEach es X.env := by rfl) (hpl : (backTo pos (starEach es X.env)).any (·.1) = false := by rfl) : EEO X q (.Call (.Name x p) (e :: es) [] pos) (eoN g f) :=
  (pe_callTy hc gl hm hv ha hn hdb he hpl).weak fun _ _ _ h => manyEO hg h
end

/-! ### methods that only look -/
def TyOk (Z : Zx) (T : String) (ty : Pv → Bool) : Prop := ∀ G H x a, Same G H → PvR Z G H x a → ty a = true → tyV Z.K T x H
def PMt (Z : Zx) (r : V → List V → Hp → VK → Prop) (g : Pv → List Pv → Option Pv) : Prop :=
  ∀ G H x xs a as c, Same G H → PvR Z G H x a → PvRs Z G H xs as → g a as = some c → ∀ Q : VK, (∀ z G' H', Step G H G' H' → PvR Z G' H' z c → Q z H') → r x xs H Q
def OMt (Z : Zx) (r : V → List V → Hp → VK → Prop) (g : Pv → List Pv → Option OD) : Prop :=
  ∀ G H x xs a as c, Same G H → PvR Z G H x a → PvRs Z G H xs as → g a as = some c → ∀ Q : VK, (∀ p G' H', Step G H G' H' → H p = none → G' p = none → OwnR Z G' H' p c → Q (.ref p) H') → r x xs H Q
def isStr : Pv → Bool
  | .d (.str _) => true
  | _ => false
def isLst (x : Pv) : Bool := (lstOf x).isSome
theorem ty_str {Z : Zx} : TyOk Z "str" isStr := fun G H x a s r h => by
  unfold isStr at h
  split at h
  · cases r; exact rfl
  · cases h
theorem ty_lst {Z : Zx} : TyOk Z "list" isLst := fun G H x a s r h => by
  obtain ⟨ds, h1⟩ := Option.isSome_iff_exists.mp h
  obtain ⟨p, vs, rfl, q, _⟩ := r.sql s h1
  exact .inl ⟨rfl, vs, q⟩
def pMt (ty : Pv → Bool) (g : Pv → List Pv → Option Pv) (f : Sl → Option Pv) (fa : Sl → Option (List Pv)) : Sl → Option Pv := fun η => (f η).bind fun x => if ty x = true then (fa η).bind fun as => g x as else none
def oMt (ty : Pv → Bool) (g : Pv → List Pv → Option OD) (f : Sl → Option Pv) (fa : Sl → Option (List Pv)) : Sl → Option OD := fun η => (f η).bind fun x => if ty x = true then (fa η).bind fun as => g x as else none
def eMt (ty : Pv → Bool) (g : Pv → List Pv → Option Pv) (f : Sl → Res D) (fa : Sl → Res (List D)) : Sl → Res D := fun η => (f η).bind fun x η1 => if ty (.d x) = true then (fa η1).bind fun as η2 => ofO ((g (.d x) (as.map .d)).bind datOf) η2 else .stuck
def eoMt (ty : Pv → Bool) (g : Pv → List Pv → Option OD) (f : Sl → Res D) (fa : Sl → Res (List D)) : Sl → Res OD := fun η => (f η).bind fun x η1 => if ty (.d x) = true then (fa η1).bind fun as η2 => ofO (g (.d x) (as.map .d)) η2 else .stuck
section
variable {X : Cx} {q : Qx} {o e : Expr} {es : List Expr} {name : Str} {apos cpos : Pos} {T id : String} {r : V → List V → Hp → VK → Prop} {ty : Pv → Bool}
abbrev Fits (X : Cx) (e : Expr) (es : List Expr) (cpos : Pos) : Prop := ((backTo cpos (starEach (e :: es) X.env)).all (fun x => !x.1) && (backToKw cpos (keywordEach [] X.env)).all (fun x => x.1.isSome)
      && decide ((e :: es).length + ([] : List Keyword).length + (if ([] : List Keyword).isEmpty then 0 else 1) < 30)) = true
theorem ep_mt {g : Pv → List Pv → Option Pv} {f : Sl → Option Pv} {fa : Sl → Option (List Pv)} (pa : PlainAttrs T) (slot : PySem.Slot T name id) (ht : typeOf (.builtin id) = pure (.type "method_descriptor")) (hm : MtR X id r) (hg : PMt (zx X) r g) (hty : TyOk (zx X) T ty)
    (ho : EP X o f) (ha : EA X (e :: es) fa) (hbase : attributeBase o name X.env (eval o X.env) = eval o X.env := by rfl) (hfew : Fits X e es cpos := by rfl) (hline : (apos.endLine == cpos.line) = true := by rfl)
    (hs : starEach (e :: es) X.env = (false, eval e X.env) :: starEach es X.env := by rfl) (hpl : (backTo cpos (starEach es X.env)).any (·.1) = false := by rfl) : EP X (.Call (.Attribute o name apos) (e :: es) [] cpos) (pMt ty g f fa) :=
  (pe_bm pa slot ht hm ho ha hbase hfew hline hs hpl).weak fun σ H Q ⟨F, G, η, z, R, hf, k⟩ => by
    obtain ⟨x, hx, hf⟩ := Option.bind_eq_some_iff.mp hf
    split at hf
    · rename_i ht
      obtain ⟨as, ha, hf⟩ := Option.bind_eq_some_iff.mp hf
      exact ⟨F, G, η, x, R, hx, fun v G1 H1 S1 r1 => ⟨hty G1 H1 v x S1.gh r1 ht, F, G1, η, as, R.step S1, ha, fun vs G2 H2 S2 r2 => hg G2 H2 v vs x as z S2.gh (r1.mono S2.g S2.h) r2 hf Q fun u G3 H3 S3 r3 => k u G3 H3 ((S1.trans S2).trans S3) r3⟩⟩
    · cases hf
theorem eo_mt {g : Pv → List Pv → Option OD} {f : Sl → Option Pv} {fa : Sl → Option (List Pv)} (pa : PlainAttrs T) (slot : PySem.Slot T name id) (ht : typeOf (.builtin id) = pure (.type "method_descriptor")) (hm : MtR X id r) (hg : OMt (zx X) r g) (hty : TyOk (zx X) T ty)
    (ho : EP X o f) (ha : EA X (e :: es) fa) (hbase : attributeBase o name X.env (eval o X.env) = eval o X.env := by rfl) (hfew : Fits X e es cpos := by rfl) (hline : (apos.endLine == cpos.line) = true := by rfl)
    (hs : starEach (e :: es) X.env = (false, eval e X.env) :: starEach es X.env := by rfl) (hpl : (backTo cpos (starEach es X.env)).any (·.1) = false := by rfl) : EO X (.Call (.Attribute o name apos) (e :: es) [] cpos) (oMt ty g f fa) :=
  (pe_bm pa slot ht hm ho ha hbase hfew hline hs hpl).weak fun σ H Q ⟨F, G, η, z, R, hf, k⟩ => by
    obtain ⟨x, hx, hf⟩ := Option.bind_eq_some_iff.mp hf
    split at hf
    · rename_i ht
      obtain ⟨as, ha, hf⟩ := Option.bind_eq_some_iff.mp hf
      exact ⟨F, G, η, x, R, hx, fun v G1 H1 S1 r1 => ⟨hty G1 H1 v x S1.gh r1 ht, F, G1, η, as, R.step S1, ha, fun vs G2 H2 S2 r2 => hg G2 H2 v vs x as z S2.gh (r1.mono S2.g S2.h) r2 hf Q fun u G3 H3 S3 hp gp r3 =>
        k u G3 H3 ((S1.trans S2).trans S3) (S1.h.free (S2.h.free hp)) gp r3⟩⟩
    · cases hf
theorem ee_mt {g : Pv → List Pv → Option Pv} {f : Sl → Res D} {fa : Sl → Res (List D)} (pa : PlainAttrs T) (slot : PySem.Slot T name id) (ht : typeOf (.builtin id) = pure (.type "method_descriptor")) (hm : MtR X id r) (hg : PMt (zx X) r g) (hty : TyOk (zx X) T ty)
    (ho : EE X q o f) (ha : EEA X q (e :: es) fa) (hbase : attributeBase o name X.env (eval o X.env) = eval o X.env := by rfl) (hfew : Fits X e es cpos := by rfl) (hline : (apos.endLine == cpos.line) = true := by rfl)
    (hs : starEach (e :: es) X.env = (false, eval e X.env) :: starEach es X.env := by rfl) (hpl : (backTo cpos (starEach es X.env)).any (·.1) = false := by rfl) : EE X q (.Call (.Attribute o name apos) (e :: es) [] cpos) (eMt ty g f fa) :=
  (pe_bm pa slot ht hm ho ha hbase hfew hline hs hpl).weak fun σ H Q ⟨F, G, η, R, hf⟩ => by
    refine ⟨F, G, η, R, hf.bnd.mono fun x η1 G1 H1 M1 R1 hf v r1 => ?_⟩
    split at hf
    · rename_i ht
      refine ⟨hty G1 H1 v (.d x) R1.gh r1 ht, F, G1, η1, R1, hf.bnd.mono fun as η2 G2 H2 M2 R2 hf vs r2 => ?_⟩
      obtain ⟨d, e1, k⟩ := Rsp.ofO R2 hf
      obtain ⟨y, h1, h2⟩ := Option.bind_eq_some_iff.mp e1
      exact hg G2 H2 v vs (.d x) _ y R2.gh (Dq.mono M2.g _ _ r1) (pvRs_dat r2) h1 Q fun z G' H' S r' => k G' H' S z (datOf_inv r' h2)
    · exact hf.elim
theorem eeo_mt {g : Pv → List Pv → Option OD} {f : Sl → Res D} {fa : Sl → Res (List D)} (pa : PlainAttrs T) (slot : PySem.Slot T name id) (ht : typeOf (.builtin id) = pure (.type "method_descriptor")) (hm : MtR X id r) (hg : OMt (zx X) r g) (hty : TyOk (zx X) T ty)
    (ho : EE X q o f) (ha : EEA X q (e :: es) fa) (hbase : attributeBase o name X.env (eval o X.env) = eval o X.env := by rfl) (hfew : Fits X e es cpos := by rfl) (hline : (apos.endLine == cpos.line) = true := by rfl)
    (hs : starEach (e :: es) X.env = (false, eval e X.env) :: starEach es X.env := by rfl) (hpl : (backTo cpos (starEach es X.env)).any (·.1) = false := by rfl) : EEO X q (.Call (.Attribute o name apos) (e :: es) [] cpos) (eoMt ty g f fa) :=
  (pe_bm pa slot ht hm ho ha hbase hfew hline hs hpl).weak fun σ H Q ⟨F, G, η, R, hf⟩ => by
    refine ⟨F, G, η, R, hf.bnd.mono fun x η1 G1 H1 M1 R1 hf v r1 => ?_⟩
    split at hf
    · rename_i ht
      refine ⟨hty G1 H1 v (.d x) R1.gh r1 ht, F, G1, η1, R1, hf.bnd.mono fun as η2 G2 H2 M2 R2 hf vs r2 => ?_⟩
      obtain ⟨d, e1, k⟩ := Rsp.ofO R2 hf
      exact hg G2 H2 v vs (.d x) _ d R2.gh (Dq.mono M2.g _ _ r1) (pvRs_dat r2) e1 Q fun p G' H' S hp gp o => k G' H' S p (R2.notOwned hp) gp (R2.fnone hp) ((M1.trans M2).gone hp) o
    · exact hf.elim
end
/-! #### join, split, index -/
def strsOf : List D → Option (List Str)
  | [] => some []
  | .str i :: r => (strsOf r).bind fun l => some (i :: l)
  | _ => none
theorem strsOf_inv : ∀ {ds : List D} {l : List Str}, strsOf ds = some l → ds = l.map .str
  | [], _, h => by cases h; rfl
  | d :: ds, l, h => by
    unfold strsOf at h
    split at h
    · rename_i e; cases e
    · rename_i i r e
      cases e
      obtain ⟨m, h1, h2⟩ := Option.bind_eq_some_iff.mp h
      cases h2
      rw [strsOf_inv h1]; rfl
    · cases h
@[simp] theorem strsOf_map : ∀ l : List Str, strsOf (l.map .str) = some l
  | [] => rfl
  | i :: l => by
    show (strsOf (l.map .str)).bind _ = _
    rw [strsOf_map l]; rfl
def seqOf (a : Pv) : Option (List D) := match lstOf a with
  | some ds => some ds
  | none => tupOf a
theorem seq_of {Z : Zx} {G H : Hp} {v : V} {x : Pv} {ds : List D} (s : Same G H) (r : PvR Z G H v x) (h : seqOf x = some ds) : ∃ p vs, v = .ref p ∧ (SqL Z.K H p vs ∨ SqT Z.K H p vs) ∧ DqAll Z.K G vs ds := by
  unfold seqOf at h
  split at h
  · rename_i e1
    cases h
    obtain ⟨p, vs, e, q, w⟩ := r.sql s e1
    exact ⟨p, vs, e, .inl q, w⟩
  · obtain ⟨p, vs, e, q, w⟩ := r.sqt h
    exact ⟨p, vs, e, .inr (q.mono s).sq, w⟩
def m1 {β : Type} (g : Pv → Pv → Option β) : Pv → List Pv → Option β := fun x as => g1 (g x) as
def gJoin (x a : Pv) : Option Pv := (strOf x).bind fun z => (seqOf a).bind fun ds => (strsOf ds).bind fun ys => if (ys.map (·.length)).sum + ys.length * z.length ≤ 16777216 then some (.d (.str (Txt.join z ys))) else none
def oSplit (x a : Pv) : Option OD := (strOf x).bind fun z => (strOf a).bind fun b => if (b.length == 0) = false ∧ z.length + 2 ≤ 16777216 then some (.lst ((Txt.split z b).map .str)) else none
def firstIx (ds : List D) (d : D) : Option Nat := ds.findIdx? fun z => PyData.eqv z d
def gIndex (x a : Pv) : Option Pv := (lstOf x).bind fun ds => (dOf a).bind fun d => if SeqAt.shaped (.list ds) = true ∧ SeqAt.shaped d = true then (firstIx ds d).bind fun j => some (.d (.int (j : Nat))) else none
theorem pm_join {X : Cx} : PMt (zx X) (fun x xs H Q => ∃ a p, ∃ ys : List Str, x = .str a ∧ xs = [.ref p] ∧ (SqL X.K H p (ys.map V.str) ∨ SqT X.K H p (ys.map V.str)) ∧ (ys.map (·.length)).sum + ys.length * a.length ≤ 16777216 ∧ Q (.str (Txt.join a ys)) H) (m1 gJoin) :=
  fun G H x xs a as c s ra rs hg Q k => by
    obtain ⟨b, rfl, hq⟩ := g1_inv hg
    obtain ⟨y, rfl, rb⟩ := one_inv rs
    obtain ⟨z, h1, hq⟩ := Option.bind_eq_some_iff.mp hq
    obtain ⟨ds, h2, hq⟩ := Option.bind_eq_some_iff.mp hq
    obtain ⟨ys, h3, hq⟩ := Option.bind_eq_some_iff.mp hq
    split at hq
    · rename_i hz
      cases hq
      rw [ra.str h1]
      obtain ⟨p, vs, rfl, q, w⟩ := seq_of s rb h2
      rw [strsOf_inv h3] at w
      rw [w.strs_inv] at q
      exact ⟨z, p, ys, rfl, rfl, q, hz, k _ G H (.refl s) (Dq.str _)⟩
    · cases hq
theorem om_split {X : Cx} : OMt (zx X) (fun x xs H Q => ∃ a b, x = .str a ∧ xs = [.str b] ∧ (b.length == 0) = false ∧ a.length + 2 ≤ sizeLine ∧ rNewStrs (Txt.split a b) H Q) (m1 oSplit) :=
  fun G H x xs a as c s ra rs hg Q k => by
    obtain ⟨b, rfl, hq⟩ := g1_inv hg
    obtain ⟨y, rfl, rb⟩ := one_inv rs
    obtain ⟨z, h1, hq⟩ := Option.bind_eq_some_iff.mp hq
    obtain ⟨ds, h2, hq⟩ := Option.bind_eq_some_iff.mp hq
    split at hq
    · rename_i hz
      cases hq
      rw [ra.str h1, rb.str h2]
      refine ⟨z, ds, rfl, rfl, hz.1, by rw [line_eq]; exact hz.2, fun p hp => ?_⟩
      obtain ⟨S, gp, o⟩ := lst_step s (DqAll.strs _) hp
      exact k p _ _ S hp gp o
    · cases hq
theorem firstIx_inv {ds : List D} {d : D} {j : Nat} (h : firstIx ds d = some j) : (∃ z, ds[j]? = some z ∧ PyData.eqv z d = true) ∧ ∀ (m : Nat) (z : D), m < j → ds[m]? = some z → PyData.eqv z d = false := by
  unfold firstIx at h
  obtain ⟨h1, h2, h3⟩ := List.findIdx?_eq_some_iff_getElem.mp h
  refine ⟨⟨ds[j], List.getElem?_eq_getElem h1, h2⟩, fun m z hm hz => ?_⟩
  have hl : m < ds.length := Nat.lt_trans hm h1
  rw [List.getElem?_eq_getElem hl] at hz
  cases hz
  exact Bool.eq_false_iff.mpr (h3 m hm)
theorem pm_index {X : Cx} : PMt (zx X) (rIndexD X.K) (m1 gIndex) := fun G H x xs a as c s ra rs hg Q k => by
  obtain ⟨b, rfl, hq⟩ := g1_inv hg
  obtain ⟨y, rfl, rb⟩ := one_inv rs
  obtain ⟨ds, h1, hq⟩ := Option.bind_eq_some_iff.mp hq
  obtain ⟨d, h2, hq⟩ := Option.bind_eq_some_iff.mp hq
  split at hq
  · rename_i hs
    obtain ⟨j, h3, hq⟩ := Option.bind_eq_some_iff.mp hq
    cases hq
    obtain ⟨p, vs, rfl, sq, w⟩ := ra.sql s h1
    obtain ⟨⟨z, g1, g2⟩, g3⟩ := firstIx_inv h3
    exact ⟨p, y, d, ds, j, z, rfl, rfl, .lst sq (DqAll.dp _ _ (DqAll.mono s _ _ w)), Dq.dp _ _ (rb.dq s h2), hs.1, hs.2, g1, g2, g3, k _ G H (.refl s) (Dq.int _)⟩
  · cases hq

/-! ### one's own list, changed -/
def lstAt (η : Sl) (i : Nat) : Option (List D) := match η[i]? with
  | some (.own (.lst ds)) => some ds
  | some (.mu (.lst ds)) => some ds
  | _ => none
def putL (η : Sl) (i : Nat) (ds : List D) : Sl := match η[i]? with
  | some (.mu _) => η.set i (.mu (.lst ds))
  | _ => η.set i (.own (.lst ds))
section
variable {Z : Zx} {F : Fx} {G H : Hp} {σ : Sta} {η : Sl}
/-- a change of one's own object moves -/
theorem Mov.write {i : Nat} {p : Addr} {s s' : Slot} {ho : HO} (hs : η[i]? = some s) (os : s.isO = true) (e : σ[i]? = some (some (.ref p))) : Mov σ η G H (η.set i s') G (upd H p ho) where
  g := Same.refl _
  kp := fun a o h n => by
    by_cases ha : a = p
    · subst ha; exact absurd ⟨i, s, hs, os, e⟩ n
    · rw [upd_ne ha]; exact h
  nw := fun _ _ h => .inl h
  ow := fun a ⟨j, t, g1, g2, g3⟩ => by
    have hi : i < η.length := (List.getElem?_eq_some_iff.mp hs).1
    by_cases hj : i = j
    · subst hj; exact ⟨i, s, hs, os, g3⟩
    · rw [List.getElem?_set_ne hj] at g1
      exact ⟨j, t, g1, g2, g3⟩
theorem lst_at (R : Rep Z F G H σ η) {i : Nat} {ds : List D} (h : lstAt η i = some ds) : ∃ p vs, σ[i]? = some (some (.ref p)) ∧ H p = some (.lst vs) ∧ DqAll Z.K G vs ds ∧ Owned σ η p ∧
    ∀ vs' cs, DqAll Z.K G vs' cs → Rep Z F G (upd H p (.lst vs')) σ (putL η i cs) ∧ Mov σ η G H (putL η i cs) G (upd H p (.lst vs')) := by
  unfold lstAt at h
  split at h
  · rename_i e
    cases h
    obtain ⟨p, h1, h2, h3, vs, h4, h5⟩ := R.sl i _ e
    refine ⟨p, vs, h1, h4, h5, ⟨i, _, e, rfl, h1⟩, fun vs' cs w => ?_⟩
    have ep : putL η i cs = η.set i (.own (.lst cs)) := by unfold putL; rw [e]
    rw [ep]
    exact ⟨R.write e rfl h1 (.inl ⟨_, _, rfl, rfl, vs', upd_same, w⟩), Mov.write e rfl h1⟩
  · rename_i e
    cases h
    obtain ⟨p, h1, h2, h3, vs, h4, h5⟩ := R.sl i _ e
    refine ⟨p, vs, h1, h4, h5, ⟨i, _, e, rfl, h1⟩, fun vs' cs w => ?_⟩
    have ep : putL η i cs = η.set i (.mu (.lst cs)) := by unfold putL; rw [e]
    rw [ep]
    exact ⟨R.write e rfl h1 (.inr ⟨_, _, rfl, rfl, vs', upd_same, w⟩), Mov.write e rfl h1⟩
  · cases h
end
/-- a method that changes the list: its answer, what the list is then -/
def LMt (Z : Zx) (r : V → List V → Hp → VK → Prop) (g : List D → List D → Option (D × List D)) : Prop :=
  ∀ G H p vs ds xs as c cs, Same G H → H p = some (.lst vs) → DqAll Z.K G vs ds → DqAll Z.K G xs as → g ds as = some (c, cs) → ∀ Q : VK, (∀ z vs', DqAll Z.K G vs' cs → Dq Z.K G z c → Q z (upd H p (.lst vs'))) → r (.ref p) xs H Q
def eM (i : Nat) (g : List D → List D → Option (D × List D)) (f : Sl → Res (List D)) : Sl → Res D := fun η => match lstAt η i with
  | some _ => (f η).bind fun as η1 => (ofO ((lstAt η1 i).bind fun ds => g ds as) η1).bind fun c η2 => .ok c.1 (putL η2 i c.2)
  | none => .stuck
section
variable {X : Cx} {q : Qx} {e : Expr} {es : List Expr} {x name : Str} {npos apos cpos : Pos} {id : String} {r : V → List V → Hp → VK → Prop}
/-- behind the arguments -/
theorem mth_end {Z : Zx} {g : List D → List D → Option (D × List D)} (hg : LMt Z r g) {F : Fx} {G H G1 H1 : Hp} {σ : Sta} {η η1 : Sl} {i : Nat} {p : Addr} {vs : List V} {as : List D} {Q : VK} (R1 : Rep Z F G1 H1 σ η1) (hp : σ[i]? = some (some (.ref p))) (r2 : DqAll Z.K G1 vs as)
    (hf : Rsp Z q F G1 H1 σ η1 ((ofO ((lstAt η1 i).bind fun ds => g ds as) η1).bind fun c η2 => .ok c.1 (putL η2 i c.2)) fun x _ G' H' => ∀ v, Dq Z.K G' v x → Q v H') : r (.ref p) vs H1 Q := by
  cases hl : (lstAt η1 i).bind fun ds => g ds as with
  | none => rw [hl] at hf; exact hf.elim
  | some c =>
    rw [hl] at hf
    obtain ⟨ds, h1, h2⟩ := Option.bind_eq_some_iff.mp hl
    obtain ⟨p', ws, g1, g2, g3, g4, g5⟩ := lst_at R1 h1
    rw [hp] at g1; cases g1
    obtain ⟨c, cs⟩ := c
    refine hg G1 H1 p ws ds vs as c cs R1.gh g2 g3 r2 h2 Q fun z vs' w1 w2 => ?_
    obtain ⟨R2, M2⟩ := g5 vs' cs w1
    exact hf _ _ M2 R2 z w2
theorem ee_m {g : List D → List D → Option (D × List D)} {i : Nat} {f : Sl → Res (List D)} (hv : PE X (.Name x npos) (tVar i)) (slot : PySem.Slot "list" name id) (ht : typeOf (.builtin id) = pure (.type "method_descriptor")) (hm : MtR X id r) (hg : LMt (zx X) r g)
    (ha : EEA X q (e :: es) f) (hbase : attributeBase (.Name x npos) name X.env (eval (.Name x npos) X.env) = eval (.Name x npos) X.env := by rfl) (hfew : Fits X e es cpos := by rfl) (hline : (apos.endLine == cpos.line) = true := by rfl)
    (hs : starEach (e :: es) X.env = (false, eval e X.env) :: starEach es X.env := by rfl) (hpl : (backTo cpos (starEach es X.env)).any (·.1) = false := by rfl) : EE X q (.Call (.Attribute (.Name x npos) name apos) (e :: es) [] cpos) (eM i g f) :=
  (pe_bm PySem.F.plainAttrs_list slot ht hm hv ha hbase hfew hline hs hpl).weak fun σ H Q ⟨F, G, η, R, hf⟩ => by
    unfold eM at hf
    split at hf
    · rename_i e1
      obtain ⟨p, vs, h1, h2, h3, _, _⟩ := lst_at R e1
      exact ⟨_, h1, .inl ⟨rfl, vs, SqL.of h2⟩, F, G, η, R, hf.bnd.mono fun as η1 G1 H1 M1 R1 hf vs r1 => mth_end hg (G := G) (H := H) (η := η) R1 h1 r1 hf⟩
    · exact hf.elim
theorem ee_m0 {g : List D → List D → Option (D × List D)} {i : Nat} (hv : PE X (.Name x npos) (tVar i)) (slot : PySem.Slot "list" name id) (ht : typeOf (.builtin id) = pure (.type "method_descriptor")) (hm : MtR X id r) (hg : LMt (zx X) r g)
    (hbase : attributeBase (.Name x npos) name X.env (eval (.Name x npos) X.env) = eval (.Name x npos) X.env := by rfl) (hline : (apos.endLine == cpos.line) = true := by rfl) : EE X q (.Call (.Attribute (.Name x npos) name apos) [] [] cpos) (eM i g eaNil) :=
  (pe_bm0 PySem.F.plainAttrs_list slot ht hm hv hbase hline).weak fun σ H Q ⟨F, G, η, R, hf⟩ => by
    unfold eM at hf
    split at hf
    · rename_i e1
      obtain ⟨p, vs, h1, h2, h3, _, _⟩ := lst_at R e1
      exact ⟨_, h1, .inl ⟨rfl, vs, SqL.of h2⟩, mth_end hg (G := G) (H := H) (η := η) R h1 .nil hf⟩
    · exact hf.elim
end
def lAppend : List D → List D → Option (D × List D)
  | ds, [d] => if ds.length < 16777216 then some (.none, ds ++ [d]) else none
  | _, _ => none
def lPop : List D → List D → Option (D × List D)
  | ds, [] => (ds[ds.length - 1]?).bind fun d => some (d, ds.dropLast)
  | _, _ => none
def lPopAt : List D → List D → Option (D × List D)
  | ds, [.int i] => (ixN ds.length i).bind fun k => (ds[k]?).bind fun d => if ds.length ≤ 16777216 then some (d, ds.eraseIdx k) else none
  | _, _ => none
def lInsert : List D → List D → Option (D × List D)
  | ds, [.int i, d] => if ds.length < 16777216 ∧ 0 ≤ i ∧ i < 2 ^ 63 then some (.none, ds.take i.toNat ++ [d] ++ ds.drop i.toNat) else none
  | _, _ => none
theorem DqAll.one_inv {K : PySem.W.Frag} {G : Hp} {xs : List V} {d : D} (r : DqAll K G xs [d]) : ∃ v, xs = [v] ∧ Dq K G v d := by
  cases r with
  | cons a b => cases b; exact ⟨_, rfl, a⟩
theorem lm_append {Z : Zx} : LMt Z rAppend lAppend := fun G H p vs ds xs as c cs s hp w wa hg Q k => by
  unfold lAppend at hg
  split at hg
  · split at hg
    · rename_i hz
      cases hg
      obtain ⟨v, rfl, r⟩ := wa.one_inv
      exact ⟨p, vs, v, rfl, rfl, hp, by rw [w.len, line_eq]; exact hz, k _ _ (w.app (.one r)) .non⟩
    · cases hg
  · cases hg
theorem lm_pop {Z : Zx} : LMt Z rPop lPop := fun G H p vs ds xs as c cs s hp w wa hg Q k => by
  unfold lPop at hg
  split at hg
  · obtain ⟨d, h1, hg⟩ := Option.bind_eq_some_iff.mp hg
    cases hg
    cases wa
    obtain ⟨v, h2, r⟩ := w.get' h1
    exact ⟨p, vs, v, rfl, rfl, hp, by rw [w.len]; exact h2, k _ _ w.dropLast r⟩
  · cases hg
theorem lm_popAt {Z : Zx} : LMt Z rPopAt lPopAt := fun G H p vs ds xs as c cs s hp w wa hg Q k => by
  unfold lPopAt at hg
  split at hg
  · obtain ⟨j, h0, hg⟩ := Option.bind_eq_some_iff.mp hg
    obtain ⟨d, h1, hg⟩ := Option.bind_eq_some_iff.mp hg
    split at hg
    · rename_i hz
      cases hg
      obtain ⟨v, rfl, r⟩ := wa.one_inv
      cases r
      obtain ⟨v, h2, r⟩ := w.get' h1
      obtain ⟨i1, i2, i3, i4⟩ := ixN_seq h0
      have : (ds.length : Int) ≤ 16777216 := by omega
      exact ⟨p, vs, _, j, v, rfl, rfl, hp, by omega, by omega, by rw [w.len]; exact i1, h2, k _ _ (w.eraseIdx j) r⟩
    · cases hg
  · cases hg
theorem lm_insert {Z : Zx} : LMt Z (fun x vs H Q => ∃ (l : Addr) (xs : List V) (i : Int) (y : V), x = .ref l ∧ vs = [.int i, y] ∧ H l = some (.lst xs) ∧ xs.length < sizeLine ∧ 0 ≤ i ∧ i < 2 ^ 63 ∧ Q .non (upd H l (.lst (xs.take i.toNat ++ [y] ++ xs.drop i.toNat)))) lInsert := fun G H p vs ds xs as c cs s hp w wa hg Q k => by
  unfold lInsert at hg
  split at hg
  · split at hg
    · rename_i hz
      cases hg
      cases wa with
      | cons a b =>
        cases a
        obtain ⟨v, rfl, r⟩ := b.one_inv
        exact ⟨p, vs, _, v, rfl, rfl, hp, by rw [w.len, line_eq]; exact hz.1, hz.2.1, hz.2.2, k _ _ (((w.take _).app (.one r)).app (w.drop _)) .non⟩
    · cases hg
  · cases hg
end HM

set_option Elab.async false
set_option linter.all false
set_option maxRecDepth 100000
set_option maxHeartbeats 4000000
set_option autoImplicit false
/-! HH: statements, while, calls of defs, a def by its body. -/
namespace HM
open PySem PySem.Spec PyProof.Rows L2

/-- what a def gives -/
inductive RV where
  | d (x : D)
  | o (x : OD)
/-- what a block comes to -/
inductive RS where
  | stuck
  | nx (η : Sl)
  | rt (r : RV) (η : Sl)
  | bk (η : Sl)
  | ct (η : Sl)
  | exc (x : Ex) (η : Sl)
def RetR (Z : Zx) (F : Fx) (G H : Hp) (σ : Sta) (η : Sl) (v : V) : RV → Prop
  | .d x => Dq Z.K G v x
  | .o o => ∃ p, v = .ref p ∧ ¬ Owned σ η p ∧ G p = none ∧ F.H p = none ∧ OwnR Z G H p o
def Ssp (Z : Zx) (q : Qx) (F : Fx) (G : Hp) (E : Ends) : RS → Prop
  | .stuck => False
  | .nx η' => ∀ σ' G' H', Rep Z F G' H' σ' η' → Same G G' → E.nx σ' H'
  | .rt r η' => ∀ v σ' G' H', Rep Z F G' H' σ' η' → Same G G' → RetR Z F G' H' σ' η' v r → E.rt v H'
  | .bk η' => ∀ σ' G' H', Rep Z F G' H' σ' η' → Same G G' → E.bk σ' H'
  | .ct η' => ∀ σ' G' H', Rep Z F G' H' σ' η' → Same G G' → E.ct σ' H'
  | .exc x η' => XArm Z q F G x η'
def tS (Z : Zx) (q : Qx) (f : Sl → RS) : TS := fun E σ H => ∃ F G η, Rep Z F G H σ η ∧ Ssp Z q F G E (f η)
abbrev SS (X : Cx) (q : Qx) (st : Stmt) (f : Sl → RS) : Prop := PS X st (tS (zx X) q f)
abbrev SB (X : Cx) (q : Qx) (st : List Stmt) (f : Sl → RS) : Prop := PSs X st (tS (zx X) q f)
section
variable {Z : Zx} {q : Qx} {F : Fx} {G G' H H' : Hp} {σ : Sta} {η : Sl} {E E' : Ends}
theorem Ssp.later (s : Same G G') : ∀ {r : RS}, Ssp Z q F G E r → Ssp Z q F G' E r
  | .stuck, h => h
  | .nx _, h => fun σ' G2 H2 R t => h σ' G2 H2 R (s.trans t)
  | .rt _ _, h => fun v σ' G2 H2 R t => h v σ' G2 H2 R (s.trans t)
  | .bk _, h => fun σ' G2 H2 R t => h σ' G2 H2 R (s.trans t)
  | .ct _, h => fun σ' G2 H2 R t => h σ' G2 H2 R (s.trans t)
  | .exc _ _, h => XArm.later s h
end
def sSeq (a b : Sl → RS) : Sl → RS := fun η => match a η with
  | .nx η1 => b η1
  | .stuck => .stuck
  | .rt r η1 => .rt r η1
  | .bk η1 => .bk η1
  | .ct η1 => .ct η1
  | .exc x η1 => .exc x η1
def sNx : Sl → RS := .nx
def sBk : Sl → RS := .bk
def sCt : Sl → RS := .ct
/-- an expression, then its answer -/
def sE {α : Type} (f : Sl → Res α) (k : α → Sl → RS) : Sl → RS := fun η => match f η with
  | .stuck => .stuck
  | .ok x η1 => k x η1
  | .exc x η1 => .exc x η1
theorem sE_inv {Z : Zx} {q : Qx} {F : Fx} {G H : Hp} {σ : Sta} {η : Sl} {E : Ends} {α : Type} {f : Sl → Res α} {k : α → Sl → RS} (h : Ssp Z q F G E (sE f k η)) : Rsp Z q F G H σ η (f η) fun x η1 G1 _ => Ssp Z q F G1 E (k x η1) := by
  unfold sE at h
  cases e : f η with
  | stuck => rw [e] at h; exact h
  | ok x η1 => rw [e] at h; exact fun G1 H1 M _ => Ssp.later M.g h
  | exc x η1 => rw [e] at h; exact h
def setV (i : Nat) (d : D) (η : Sl) : RS := if i < η.length then .nx (η.set i (.val d)) else .stuck
def setO (i : Nat) (o : OD) (η : Sl) : RS := if i < η.length then .nx (η.set i (.own o)) else .stuck
def sSet (i : Nat) (f : Sl → Res D) : Sl → RS := sE f (setV i)
def sSetO (i : Nat) (f : Sl → Res OD) : Sl → RS := sE f (setO i)
def sDrop (f : Sl → Res D) : Sl → RS := sE f fun _ η1 => .nx η1
def sRet (f : Sl → Res D) : Sl → RS := sE f fun x η1 => .rt (.d x) η1
def sRetO (f : Sl → Res OD) : Sl → RS := sE f fun o η1 => .rt (.o o) η1
/-- return name, an object of one's own -/
def sRetV (i : Nat) : Sl → RS := fun η => match η[i]? with
  | some (.own o) => .rt (.o o) (η.set i .non)
  | _ => .stuck
def sRetN : Sl → RS := fun η => .rt (.d .none) η
def sIf (c : Sl → Res Bool) (a b : Sl → RS) : Sl → RS := sE c fun k η1 => if k = true then a η1 else b η1
def sWhN : Nat → (Sl → Res Bool) → (Sl → RS) → Sl → RS
  | 0, _, _ => fun _ => .stuck
  | n + 1, c, b => sE c fun k η1 => if k = true then (match b η1 with
    | .nx η2 => sWhN n c b η2
    | .ct η2 => sWhN n c b η2
    | .bk η2 => .nx η2
    | .stuck => .stuck
    | .rt r η2 => .rt r η2
    | .exc x η2 => .exc x η2) else .nx η1
def sWh (c : Sl → Res Bool) (b : Sl → RS) : Sl → RS := sWhN 1099511627776 c b

section
variable {X : Cx} {q : Qx} {st : Stmt} {rest : List Stmt} {e : Expr} {pos : Pos} {a b : Sl → RS}
theorem sb_nil : SB X q [] sNx := pss_nil.weak fun E σ H ⟨F, G, η, R, hf⟩ => hf σ G H R (Same.refl _)
theorem sb_cons (h1 : SS X q st a) (h2 : SB X q rest b) : SB X q (st :: rest) (sSeq a b) := (pss_cons h1 h2).weak fun E σ H ⟨F, G, η, R, hf⟩ => by
  refine ⟨F, G, η, R, ?_⟩
  unfold sSeq at hf
  cases e : a η with
  | stuck => rw [e] at hf; exact hf
  | nx η1 => rw [e] at hf; exact fun σ' G' H' R' s => ⟨F, G', η1, R', Ssp.later s hf⟩
  | rt r η1 => rw [e] at hf; exact hf
  | bk η1 => rw [e] at hf; exact hf
  | ct η1 => rw [e] at hf; exact hf
  | exc x η1 => rw [e] at hf; exact hf
theorem sb_one (h1 : SS X q st a) : SB X q [st] a := pss_one h1
theorem ss_pass : SS X q (.Pass pos) sNx := ps_pass.weak fun E σ H ⟨F, G, η, R, hf⟩ => hf σ G H R (Same.refl _)
theorem ss_break : SS X q (.Break pos) sBk := ps_break.weak fun E σ H ⟨F, G, η, R, hf⟩ => hf σ G H R (Same.refl _)
theorem ss_continue : SS X q (.Continue pos) sCt := ps_continue.weak fun E σ H ⟨F, G, η, R, hf⟩ => hf σ G H R (Same.refl _)
theorem ss_doc {x : String} {j : Nat} {pos' : Pos} : SS X q (.Expr (.Constant (.str x) j pos) pos') sNx := ps_doc.weak fun E σ H ⟨F, G, η, R, hf⟩ => hf σ G H R (Same.refl _)
theorem ss_set {i : Nat} {x : Str} {pos' : Pos} {f : Sl → Res D} (hN : X.N.Nodup) (hi : X.N[i]? = some x) (hx : Loc X.env.scope x) (he : EE X q e f) (hs : swapsWith e (some (.Name x pos')) pos.line X.env = pure false := by rfl) (hf : X.fn x = true ∨ X.env.scope.names.lookup x = some .local := by first | exact .inl rfl | exact .inr rfl | assumption) :
    SS X q (.Assign [.Name x pos'] e pos) (sSet i f) := (ps_set hN hi hx he hs hf).weak fun E σ H ⟨F, G, η, R, hf⟩ => ⟨F, G, η, R, (sE_inv (σ := σ) (H := H) hf).mono fun d η1 G1 H1 M1 R1 hf v r1 => by
  unfold setV at hf
  split at hf
  · rename_i hl
    exact hf _ G1 H1 (R1.setVal hl r1) (Same.refl _)
  · exact hf.elim⟩
theorem Rep.setOwn' {Z : Zx} {F : Fx} {G H : Hp} {σ : Sta} {η : Sl} (R : Rep Z F G H σ η) {i : Nat} {p : Addr} {o : OD} (hl : i < η.length) (np : ¬ Owned σ η p) (gp : G p = none) (fp : F.H p = none) (w : OwnR Z G H p o) : Rep Z F G H (σ.set i (some (.ref p))) (η.set i (.own o)) :=
  R.setOwn hl gp fp w fun j s hs os z => np ⟨j, s, hs, os, z⟩
theorem ss_setO {i : Nat} {x : Str} {pos' : Pos} {f : Sl → Res OD} (hN : X.N.Nodup) (hi : X.N[i]? = some x) (hx : Loc X.env.scope x) (he : EEO X q e f) (hs : swapsWith e (some (.Name x pos')) pos.line X.env = pure false := by rfl) (hf : X.fn x = true ∨ X.env.scope.names.lookup x = some .local := by first | exact .inl rfl | exact .inr rfl | assumption) :
    SS X q (.Assign [.Name x pos'] e pos) (sSetO i f) := (ps_set hN hi hx he hs hf).weak fun E σ H ⟨F, G, η, R, hf⟩ => ⟨F, G, η, R, (sE_inv (σ := σ) (H := H) hf).mono fun o η1 G1 H1 M1 R1 hf p np gp fp _ w => by
  unfold setO at hf
  split at hf
  · rename_i hl
    exact hf _ G1 H1 (R1.setOwn' hl np gp fp w) (Same.refl _)
  · exact hf.elim⟩
theorem ss_expr {f : Sl → Res D} (he : EE X q e f) (hs : swapsWith e none pos.line X.env = pure false := by rfl) : SS X q (.Expr e pos) (sDrop f) :=
  (ps_expr he hs).weak fun E σ H ⟨F, G, η, R, hf⟩ => ⟨F, G, η, R, (sE_inv (σ := σ) (H := H) hf).mono fun d η1 G1 H1 M1 R1 hf v r1 => hf σ G1 H1 R1 (Same.refl _)⟩
theorem ss_ret {f : Sl → Res D} (he : EE X q e f) : SS X q (.Return (some e) pos) (sRet f) :=
  (ps_ret he).weak fun E σ H ⟨F, G, η, R, hf⟩ => ⟨F, G, η, R, (sE_inv (σ := σ) (H := H) hf).mono fun d η1 G1 H1 M1 R1 hf v r1 => hf v σ G1 H1 R1 (Same.refl _) r1⟩
theorem ss_retO {f : Sl → Res OD} (he : EEO X q e f) : SS X q (.Return (some e) pos) (sRetO f) :=
  (ps_ret he).weak fun E σ H ⟨F, G, η, R, hf⟩ => ⟨F, G, η, R, (sE_inv (σ := σ) (H := H) hf).mono fun d η1 G1 H1 M1 R1 hf p np gp fp _ w => hf (.ref p) σ G1 H1 R1 (Same.refl _) ⟨p, rfl, np, gp, fp, w⟩⟩
theorem Rep.forget {Z : Zx} {F : Fx} {G H : Hp} {σ : Sta} {η : Sl} (R : Rep Z F G H σ η) (i : Nat) : Rep Z F G H σ (η.set i .non) := R.drop (by rw [List.length_set]) fun j s hs => by
  by_cases hj : i = j
  · subst hj
    by_cases hl : i < η.length
    · rw [List.getElem?_set_self hl] at hs
      cases hs; exact .inl rfl
    · rw [List.getElem?_eq_none (by rw [List.length_set]; omega)] at hs; cases hs
  · rw [List.getElem?_set_ne hj] at hs; exact .inr hs
theorem ss_retV {i : Nat} {x : Str} {p1 : Pos} (h : PE X (.Name x p1) (tVar i)) : SS X q (.Return (some (.Name x p1)) pos) (sRetV i) :=
  (ps_ret h).weak fun E σ H ⟨F, G, η, R, hf⟩ => by
    unfold sRetV at hf
    split at hf
    · rename_i o e
      obtain ⟨p, h1, h2, h3, h4⟩ := R.sl i _ e
      refine ⟨_, h1, hf (.ref p) σ G H (R.forget i) (Same.refl _) ⟨p, rfl, fun ⟨j, s, g1, g2, g3⟩ => ?_, h2, h3, h4⟩⟩
      by_cases hj : i = j
      · subst hj
        rw [List.getElem?_set_self (List.getElem?_eq_some_iff.mp e).1] at g1
        cases g1; cases g2
      · rw [List.getElem?_set_ne hj] at g1
        exact hj (R.di i j _ s p e g1 rfl g2 h1 g3)
    · exact hf.elim
theorem ss_retN : SS X q (.Return none pos) sRetN := ps_retN.weak fun E σ H ⟨F, G, η, R, hf⟩ => hf .non σ G H R (Same.refl _) .non
theorem ss_if {c : Expr} {p r : List Stmt} {fc : Sl → Res Bool} (hc : EET X q c fc) (ha : SB X q p a) (hb : SB X q r b) : SS X q (.If c p r pos) (sIf fc a b) :=
  (ps_if hc ha hb).weak fun E σ H ⟨F, G, η, R, hf⟩ => ⟨F, G, η, R, (sE_inv (σ := σ) (H := H) hf).mono fun k η1 G1 H1 M1 R1 hf => by
    cases k with
    | true => exact ⟨F, G1, η1, R1, hf⟩
    | false => exact ⟨F, G1, η1, R1, hf⟩⟩
theorem ss_while {c : Expr} {body : List Stmt} {fc : Sl → Res Bool} (hp : PassesOwn (model X.prog X.w) X.A X.env X.xe) (hc : EET X q c fc) (hb : SB X q body b) : SS X q (.While c body [] pos) (sWh fc b) :=
  (ps_while hp hc hb).weak fun E σ H ⟨F, G, η, R, hf⟩ => by
    refine ⟨fun m σ1 H1 => ∃ G1 η1, Rep (zx X) F G1 H1 σ1 η1 ∧ Ssp (zx X) q F G1 E (sWhN m fc b η1), ⟨_, G, η, R, hf⟩, ?_⟩
    rintro m σ1 H1 ⟨G1, η1, R1, hf⟩
    cases m with
    | zero => exact hf.elim
    | succ m =>
      unfold sWhN at hf
      refine ⟨F, G1, η1, R1, (sE_inv (σ := σ1) (H := H1) hf).mono fun k η2 G2 H2 M2 R2 hf => ?_⟩
      cases k with
      | false => exact hf σ1 G2 H2 R2 (Same.refl _)
      | true =>
        refine ⟨fun σ' H' => ∃ G1 η1, Rep (zx X) F G1 H' σ' η1 ∧ Ssp (zx X) q F G1 E (sWhN m fc b η1), fun σ' H' w => ⟨m, Nat.lt_succ_self _, w⟩, F, G2, η2, R2, ?_⟩
        have hf : Ssp (zx X) q F G2 E (match b η2 with
          | .nx η2 => sWhN m fc b η2
          | .ct η2 => sWhN m fc b η2
          | .bk η2 => .nx η2
          | .stuck => .stuck
          | .rt r η2 => .rt r η2
          | .exc x η2 => .exc x η2) := hf
        cases e : b η2 with
        | stuck => rw [e] at hf; exact hf
        | nx η3 => rw [e] at hf; exact fun σ' G' H' R' s => ⟨G', η3, R', Ssp.later s hf⟩
        | ct η3 => rw [e] at hf; exact fun σ' G' H' R' s => ⟨G', η3, R', Ssp.later s hf⟩
        | bk η3 => rw [e] at hf; exact hf
        | rt r η3 => rw [e] at hf; exact hf
        | exc x η3 => rw [e] at hf; exact hf
/-- xs[i] = v, xs a list of one's own -/
def sPut (i : Nat) (fx fv : Sl → Res D) : Sl → RS := sE fv fun v η1 => match lstAt η1 i with
  | some _ => sE fx (fun x η2 => match lstAt η2 i, x with
    | some ds, .int k => (match ixN ds.length k with
      | some j => .nx (putL η2 i (ds.set j v))
      | none => .stuck)
    | _, _ => .stuck) η1
  | none => .stuck
theorem ss_put {i : Nat} {x : Str} {p1 spos : Pos} {ix e : Expr} {fx fv : Sl → Res D} (hv : PE X (.Name x p1) (tVar i)) (hx : EE X q ix fx) (he : EE X q e fv)
    (ha : ∀ v, assign (.Subscript (.Name x p1) ix spos) X.env v = (do
      let ov ← holding [v] (eval (.Name x p1) X.env)
      let iv ← holding [v, ov] (eval ix X.env)
      standAt spos
      holding [v, ov, iv] (setItem ov iv v)
      release [v, ov, iv] []) := by intro _; rfl)
    (hs : swapsWithSole [.Subscript (.Name x p1) ix spos] e pos.line X.env = pure false := by rfl) (hw : swappedStores [.Subscript (.Name x p1) ix spos] e X.env = pure none := by rfl)
    (h1 : (assignEach [.Subscript (.Name x p1) ix spos] X.env).map (·.2) = [assign (.Subscript (.Name x p1) ix spos) X.env] := by rfl) : SS X q (.Assign [.Subscript (.Name x p1) ix spos] e pos) (sPut i fx fv) :=
  (ps_asg he (L2.pg_sub hv hx set_list ha) hs hw h1).weak fun E σ H ⟨F, G, η, R, hf⟩ => ⟨F, G, η, R, (sE_inv (σ := σ) (H := H) hf).mono fun d η1 G1 H1 M1 R1 hf v r1 => by
    split at hf
    · rename_i e1
      obtain ⟨p, vs, h1, h2, h3, _, _⟩ := lst_at R1 e1
      refine ⟨_, h1, F, G1, η1, R1, (sE_inv (σ := σ) (H := H1) hf).mono fun k η2 G2 H2 M2 R2 hf iv r2 => ?_⟩
      split at hf
      · rename_i ds kk e2
        split at hf
        · rename_i j e3
          obtain ⟨p', ws, g1, g2, g3, g4, g5⟩ := lst_at R2 e2
          rw [h1] at g1; cases g1
          cases r2
          obtain ⟨R3, M3⟩ := g5 (ws.set j v) _ (g3.set (Dq.mono M2.g _ _ r1) j)
          exact ⟨p, ws, _, j, rfl, rfl, g2, by rw [g3.len]; exact e3, hf σ G2 _ R3 (Same.refl _)⟩
        · exact hf.elim
      · exact hf.elim
    · exact hf.elim⟩
end

/-! ### calls of defs -/
inductive FR where
  | stuck
  | ok (r : RV)
  | exc (x : Ex)
inductive FM where
  | stuck
  | ok (r : RV) (cs : List D)
  | exc (x : Ex) (cs : List D)
abbrev Xr := Ex → Value → Option Addr → Hp → Prop
/-- what comes back -/
def BackR (Z : Zx) (H G' H' : Hp) (v : V) : RV → Prop
  | .d x => Dq Z.K G' v x
  | .o o => ∃ p, v = .ref p ∧ H p = none ∧ G' p = none ∧ OwnR Z G' H' p o
/-- the promise of a def that changes nothing -/
def spF (Z : Zx) (xr : Xr) (n : Nat) (g : List D → FR) : Sp := fun vs H Q E => ∃ G ds, Same G H ∧ DqAll Z.K G vs ds ∧ ds.length = n ∧ match g ds with
  | .stuck => False
  | .ok r => ∀ v G' H', Step G H G' H' → BackR Z H G' H' v r → Q v H'
  | .exc x => ∀ cls d G' H', Step G H G' H' → xr x cls d H' → E cls d H'
/-- the list at p may have changed -/
structure Chg (G H : Hp) (p : Addr) (G' H' : Hp) : Prop where
  g : Same G G'
  gh : Same G' H'
  h : ∀ a o, H a = some o → a ≠ p → H' a = some o
  nw : ∀ a o, G' a = some o → G a = some o ∨ H a = none
/-- the promise of a def that changes its first argument, a list -/
def spM (Z : Zx) (xr : Xr) (n : Nat) (g : List D → List D → FM) : Sp := fun vs H Q E => ∃ G p ws us ds rest, vs = .ref p :: us ∧ Same G H ∧ G p = none ∧ H p = some (.lst ws) ∧ DqAll Z.K G ws ds ∧ DqAll Z.K G us rest ∧ rest.length = n ∧ match g ds rest with
  | .stuck => False
  | .ok r cs => ∀ v G' H', Chg G H p G' H' → OwnR Z G' H' p (.lst cs) → BackR Z H G' H' v r → Q v H'
  | .exc x cs => ∀ cls d G' H', Chg G H p G' H' → OwnR Z G' H' p (.lst cs) → xr x cls d H' → E cls d H'
def eCall (g : List D → FR) (f : Sl → Res (List D)) : Sl → Res D := fun η => (f η).bind fun as η1 => match g as with
  | .ok (.d x) => .ok x η1
  | .exc x => .exc x η1
  | _ => .stuck
def eoCall (g : List D → FR) (f : Sl → Res (List D)) : Sl → Res OD := fun η => (f η).bind fun as η1 => match g as with
  | .ok (.o x) => .ok x η1
  | .exc x => .exc x η1
  | _ => .stuck
def eCallM (i : Nat) (g : List D → List D → FM) (f : Sl → Res (List D)) : Sl → Res D := fun η => match lstAt η i with
  | some _ => (f η).bind fun as η1 => (match lstAt η1 i with
    | some ds => (match g ds as with
      | .ok (.d x) cs => .ok x (putL η1 i cs)
      | .exc x cs => .exc x (putL η1 i cs)
      | _ => .stuck)
    | none => .stuck)
  | none => .stuck
def eoCallM (i : Nat) (g : List D → List D → FM) (f : Sl → Res (List D)) : Sl → Res OD := fun η => match lstAt η i with
  | some _ => (f η).bind fun as η1 => (match lstAt η1 i with
    | some ds => (match g ds as with
      | .ok (.o x) cs => .ok x (putL η1 i cs)
      | .exc x cs => .exc x (putL η1 i cs)
      | _ => .stuck)
    | none => .stuck)
  | none => .stuck
/-- a def's promise, where nothing guards the machine -/
structure FnG (P : Program) (w : World) (K : PySem.W.Frag) (mg : Str → Option Value) (base : Heap) (k : Nat) (f : Addr) (fd : FuncData) (ps : List Str) (sp : Sp) : Prop where
  len : ∀ vs H Q E, sp vs H Q E → vs.length = ps.length
  run : ∀ (A : Around) (outer : List Env) (s : Shared) (H : Hp) (args : Args) (us : List Value) (vs : List V) (Q : VK) (E : XK), A.guards = some [] → Room k A → Env0 P w K mg base A outer s H → BindsTo s fd args (ps.zip us) → Vals vs us → sp vs H Q E →
    codeAny (model P w) A (.call (.ref f) args) (CR (L2.CX P w) outer P w H s Q E) s
theorem FnG.mono {P : Program} {w : World} {K : PySem.W.Frag} {mg : Str → Option Value} {base : Heap} {j k : Nat} {f : Addr} {fd : FuncData} {ps : List Str} {sp : Sp} (T : FnG P w K mg base j f fd ps sp) (h : j ≤ k) : FnG P w K mg base k f fd ps sp :=
  ⟨T.len, fun A outer s H args us vs Q E g hr => T.run A outer s H args us vs Q E g (hr.mono h)⟩
section
variable {X : Cx} {q : Qx} {k : Nat} {f : Addr} {fd : FuncData} {ps : List Str} {sp : Sp} {x : Str} {p pos : Pos} {e : Expr} {es : List Expr} {t : TA}
theorem run_G {W : WX} {pins : List (Addr × Obj)} {σ : Sta} {H : Hp} {s : Shared} {Q : VK} {us : List Value} {vs : List V} (T : FnG X.prog X.w X.K X.mg X.base k f fd ps sp) (hg : X.A.guards = some []) (hr : Room k X.A) (hb : Binds X.K fd ps []) (tk : Takes X W)
    (I : Inv X pins σ H s) (r : Vals vs us) (h : sp vs H Q (WE W σ)) : wpAny (model X.prog X.w) X.A (call (.ref f) us) (L2.EP X pins σ Q) X.xe s := by
  have n : us.length = ps.length := r.length.symm.trans (T.len _ _ _ _ h)
  have b := hb s us I.kIn ((congrArg List.length (List.append_nil us)).trans n)
  rw [List.append_nil us] at b
  refine wpAny_call (codeAny_mono (T.run X.A X.stack s H ⟨us, []⟩ us vs Q _ hg hr I.env0 b r h) fun r' s' w => ?_)
  cases r' with
  | error z => exact passAt tk σ pins H s z s' I w
  | ok fl =>
    cases fl with
    | next => exact w.elim
    | brk => exact w.elim
    | cont => exact w.elim
    | ret u => exact I.after w
theorem pe_callG {W : WX} (T : FnG X.prog X.w X.K X.mg X.base k f fd ps sp) (hG : X.A.guards = some []) (hr : Room k X.A) (hg : Gl X x) (hm : X.mg x = some (.ref f)) (hk : PySem.W.keepIn X.K (.ref f) = true) (hb : Binds X.K fd ps []) (tk : Takes X W)
    (ha : PA X (e :: es) t) (hdb : (x == ("__debug__" : Str)) = false := by decide) (he : starEach (e :: es) X.env = (false, eval e X.env) :: starEach es X.env := by rfl) (hpl : (backTo pos (starEach es X.env)).any (·.1) = false := by rfl) :
    PE X (.Call (.Name x p) (e :: es) [] pos) (tCallS sp (WE W) t) := ⟨fun pins s σ H Q I h => wpAny_Call_Name_kw (ld_glob I hg hm (PySem.W.callWith_K (h₀ := X.base) I.ok.mod.kin hk
  (thn (ha.run pos pins s σ H _ I h) fun us s1 ⟨vs, H1, I1, r, w⟩ => ⟨I1.kIn, run_G T hG hr hb tk I1 r w⟩) he hpl) hdb)⟩
theorem Step.mov {σ : Sta} {η : Sl} {G H G' H' : Hp} (S : Step G H G' H') : Mov σ η G H η G' H' := .step S
theorem ee_call {n : Nat} {g : List D → FR} {fa : Sl → Res (List D)} (T : FnG X.prog X.w X.K X.mg X.base k f fd ps (spF (zx X) q.xr n g)) (hn : ps.length = n) (hG : X.A.guards = some []) (hr : Room k X.A) (hg : Gl X x) (hm : X.mg x = some (.ref f)) (hk : PySem.W.keepIn X.K (.ref f) = true) (hb : Binds X.K fd ps []) (tk : Takes X q.w)
    (ha : EEA X q (e :: es) fa) (hl : ∀ as, as.length ≠ n → g as = .stuck) (hdb : (x == ("__debug__" : Str)) = false := by decide) (he : starEach (e :: es) X.env = (false, eval e X.env) :: starEach es X.env := by rfl) (hpl : (backTo pos (starEach es X.env)).any (·.1) = false := by rfl) :
    EE X q (.Call (.Name x p) (e :: es) [] pos) (eCall g fa) := (pe_callG T hG hr hg hm hk hb tk ha hdb he hpl).weak fun σ H Q ⟨F, G, η, R, hf⟩ => by
  refine ⟨F, G, η, R, hf.bnd.mono fun as η1 G1 H1 M1 R1 hf vs r1 => ?_⟩
  by_cases hl' : as.length = n
  · refine ⟨G1, as, R1.gh, r1, hl', ?_⟩
    cases hr : g as with
    | stuck => rw [hr] at hf; exact hf
    | exc z => rw [hr] at hf; exact fun cls d G' H' S xr => hf σ G' H' cls d (R1.step S) S.g xr
    | ok rv =>
      rw [hr] at hf
      cases rv with
      | d z => exact fun v G' H' S b => Rsp.done R1 hf S v b
      | o z => exact hf.elim
  · rw [hl as hl'] at hf; exact hf.elim
theorem eeo_call {n : Nat} {g : List D → FR} {fa : Sl → Res (List D)} (T : FnG X.prog X.w X.K X.mg X.base k f fd ps (spF (zx X) q.xr n g)) (hn : ps.length = n) (hG : X.A.guards = some []) (hr : Room k X.A) (hg : Gl X x) (hm : X.mg x = some (.ref f)) (hk : PySem.W.keepIn X.K (.ref f) = true) (hb : Binds X.K fd ps []) (tk : Takes X q.w)
    (ha : EEA X q (e :: es) fa) (hl : ∀ as, as.length ≠ n → g as = .stuck) (hdb : (x == ("__debug__" : Str)) = false := by decide) (he : starEach (e :: es) X.env = (false, eval e X.env) :: starEach es X.env := by rfl) (hpl : (backTo pos (starEach es X.env)).any (·.1) = false := by rfl) :
    EEO X q (.Call (.Name x p) (e :: es) [] pos) (eoCall g fa) := (pe_callG T hG hr hg hm hk hb tk ha hdb he hpl).weak fun σ H Q ⟨F, G, η, R, hf⟩ => by
  refine ⟨F, G, η, R, hf.bnd.mono fun as η1 G1 H1 M1 R1 hf vs r1 => ?_⟩
  by_cases hl' : as.length = n
  · refine ⟨G1, as, R1.gh, r1, hl', ?_⟩
    cases hr : g as with
    | stuck => rw [hr] at hf; exact hf
    | exc z => rw [hr] at hf; exact fun cls d G' H' S xr => hf σ G' H' cls d (R1.step S) S.g xr
    | ok rv =>
      rw [hr] at hf
      cases rv with
      | d z => exact hf.elim
      | o z =>
        rintro v G' H' S ⟨a, rfl, hp, gp, w⟩
        exact Rsp.done R1 hf S a (R1.notOwned hp) gp (R1.fnone hp) (M1.gone hp) w
  · rw [hl as hl'] at hf; exact hf.elim
end
end HM

set_option Elab.async false
set_option linter.all false
set_option maxRecDepth 100000
set_option maxHeartbeats 4000000
set_option autoImplicit false
/-! HI: calls that change a list, a def by its body, a law. -/
namespace HM
open PySem PySem.Spec PyProof.Rows L2
/-- a def that may be called by its name -/
structure Cal (P : Program) (w : World) (K : PySem.W.Frag) (mg : Str → Option Value) (base : Heap) (k : Nat) (x : Str) (m : Nat) (sp : Sp) : Prop where
  ex : ∃ (f : Addr) (fd : FuncData) (ps : List Str), FnG P w K mg base k f fd ps sp ∧ mg x = some (.ref f) ∧ PySem.W.keepIn K (.ref f) = true ∧ Binds K fd ps [] ∧ ps.length = m
abbrev CalF (P : Program) (w : World) (K : PySem.W.Frag) (mg : Str → Option Value) (base : Heap) (k : Nat) (x : Str) (xr : Xr) (n : Nat) (g : List D → FR) : Prop := Cal P w K mg base k x n (spF ⟨K, P, w⟩ xr n g)
abbrev CalM (P : Program) (w : World) (K : PySem.W.Frag) (mg : Str → Option Value) (base : Heap) (k : Nat) (x : Str) (xr : Xr) (n : Nat) (g : List D → List D → FM) : Prop := Cal P w K mg base k x (n + 1) (spM ⟨K, P, w⟩ xr n g)
section
variable {X : Cx} {q : Qx} {k j : Nat} {x y : Str} {p p1 pos : Pos} {e : Expr} {es : List Expr}
/-- f(..) -/
theorem ee_f {n : Nat} {g : List D → FR} {fa : Sl → Res (List D)} (C : CalF X.prog X.w X.K X.mg X.base j x q.xr n g) (hjk : j ≤ k) (hG : X.A.guards = some []) (hr : Room k X.A) (hg : Gl X x) (tk : Takes X q.w) (ha : EEA X q (e :: es) fa) (hl : ∀ as, as.length ≠ n → g as = .stuck)
    (hdb : (x == ("__debug__" : Str)) = false := by decide) (he : starEach (e :: es) X.env = (false, eval e X.env) :: starEach es X.env := by rfl) (hpl : (backTo pos (starEach es X.env)).any (·.1) = false := by rfl) : EE X q (.Call (.Name x p) (e :: es) [] pos) (eCall g fa) := by
  obtain ⟨f, fd, ps, T, hm, hk, hb, hn⟩ := C.ex
  exact ee_call T hn hG (hr.mono hjk) hg hm hk hb tk ha hl hdb he hpl
theorem eeo_f {n : Nat} {g : List D → FR} {fa : Sl → Res (List D)} (C : CalF X.prog X.w X.K X.mg X.base j x q.xr n g) (hjk : j ≤ k) (hG : X.A.guards = some []) (hr : Room k X.A) (hg : Gl X x) (tk : Takes X q.w) (ha : EEA X q (e :: es) fa) (hl : ∀ as, as.length ≠ n → g as = .stuck)
    (hdb : (x == ("__debug__" : Str)) = false := by decide) (he : starEach (e :: es) X.env = (false, eval e X.env) :: starEach es X.env := by rfl) (hpl : (backTo pos (starEach es X.env)).any (·.1) = false := by rfl) : EEO X q (.Call (.Name x p) (e :: es) [] pos) (eoCall g fa) := by
  obtain ⟨f, fd, ps, T, hm, hk, hb, hn⟩ := C.ex
  exact eeo_call T hn hG (hr.mono hjk) hg hm hk hb tk ha hl hdb he hpl
/-- from what a changing call leaves -/
theorem chg_mov {Z : Zx} {F : Fx} {G H G' H' : Hp} {σ : Sta} {η : Sl} {i : Nat} {ds cs : List D} {a : Addr} (R : Rep Z F G H σ η) (hl : lstAt η i = some ds) (ha : σ[i]? = some (some (.ref a))) (C : Chg G H a G' H') (w : OwnR Z G' H' a (.lst cs)) : Rep Z F G' H' σ (putL η i cs) ∧ Mov σ η G H (putL η i cs) G' H' := by
  obtain ⟨p, vs, h1, h2, h3, ho, h5⟩ := lst_at R hl
  rw [ha] at h1; cases h1
  obtain ⟨ws, w1, w2⟩ := w
  have ga : G' a = none := by
    cases e : G' a with
    | none => rfl
    | some u =>
      rcases C.nw a u e with z | z
      · rw [(R.owned ho).1] at z; cases z
      · rw [h2] at z; cases z
  -- as if the object had been written first, then the heap had grown
  have S : Step G (upd H a (.lst ws)) G' H' := ⟨C.g, fun b u e => by
    by_cases hb : b = a
    · subst hb; rw [upd_same] at e; cases e; exact w1
    · rw [upd_ne hb] at e; exact C.h b u e hb, C.gh, fun b u e => by
    rcases C.nw b u e with z | z
    · exact .inl z
    · by_cases hb : b = a
      · subst hb; rw [ga] at e; cases e
      · exact .inr (by rw [upd_ne hb]; exact z)⟩
  have W : ∀ {s s' : Slot}, η[i]? = some s → s.isO = true → ((∃ o, s = .own o ∧ s' = .own (.lst cs)) ∨ ∃ o, s = .mu o ∧ s' = .mu (.lst cs)) → putL η i cs = η.set i s' → Rep Z F G' H' σ (putL η i cs) ∧ Mov σ η G H (putL η i cs) G' H' := fun {s s'} hs os hk ep => by
    rw [ep]
    have M : Mov σ η G H (η.set i s') G' H' := (Mov.write (G := G) (H := H) (ho := .lst ws) hs os ha).trans (.step S)
    refine ⟨?_, M⟩
    -- the slots, one by one
    have hi : i < η.length := (List.getElem?_eq_some_iff.mp hs).1
    have fp : F.H a = none ∨ F.m = some a := (R.owned ho).2.2
    refine ⟨C.gh, R.g0.trans C.g, fun b u e n => ?_, fun b e => ?_, fun b u e => ?_, by rw [List.length_set]; exact R.len, fun j t ht => ?_, fun j k t t' c g1 g2 o1 o2 e1 e2 => ?_⟩
    · refine C.h b u (R.fr b u e n) fun z => ?_
      subst z
      rcases fp with z | z
      · rw [z] at e; cases e
      · exact n z
    · refine ⟨?_, (R.mm b e).2⟩
      by_cases hb : b = a
      · subst hb; exact ⟨_, w1⟩
      · obtain ⟨u, hu⟩ := (R.mm b e).1
        exact ⟨u, C.h b u hu hb⟩
    · rcases C.nw b u e with z | z
      · exact R.gn b u z
      · exact .inr (R.fnone z)
    · by_cases hj : i = j
      · subst hj
        rw [List.getElem?_set_self hi] at ht
        cases ht
        have sl := R.sl i s hs
        rcases hk with ⟨o, rfl, rfl⟩ | ⟨o, rfl, rfl⟩
        · obtain ⟨c, c1, c2, c3, _⟩ := sl; rw [ha] at c1; cases c1; exact ⟨a, ha, ga, c3, ws, w1, w2⟩
        · obtain ⟨c, c1, c2, c3, _⟩ := sl; rw [ha] at c1; cases c1; exact ⟨a, ha, ga, c3, ws, w1, w2⟩
      · rw [List.getElem?_set_ne hj] at ht
        have z := R.sl j t ht
        have ne : t.isO = true → ∀ c, σ[j]? = some (some (.ref c)) → c ≠ a := fun ot c hc z => hj (R.di i j s t a hs ht os ot ha (by rw [← z]; exact hc))
        have nG : ∀ {c : Addr} {o : OD}, G c = none → OwnR Z G H c o → G' c = none := fun {c o} g v => by
          cases e : G' c with
          | none => rfl
          | some u =>
            obtain ⟨u', hu'⟩ := v.some
            rcases C.nw c u e with z | z
            · rw [g] at z; cases z
            · rw [hu'] at z; cases z
        cases t with
        | non => trivial
        | val d => obtain ⟨v, g1, g2⟩ := z; exact ⟨v, g1, Dq.mono C.g _ _ g2⟩
        | own o => obtain ⟨c, g1, g2, g3, g4⟩ := z; exact ⟨c, g1, nG g2 g4, g3, g4.mono C.g fun u e => C.h c u e (ne rfl c g1)⟩
        | mu o => obtain ⟨c, g1, g2, g3, g4⟩ := z; exact ⟨c, g1, nG g2 g4, g3, g4.mono C.g fun u e => C.h c u e (ne rfl c g1)⟩
    · have back : ∀ {j : Nat} {t : Slot}, (η.set i s')[j]? = some t → t.isO = true → ∃ u, η[j]? = some u ∧ u.isO = true := fun {j t} h o => by
        by_cases hj : i = j
        · subst hj; exact ⟨s, hs, os⟩
        · rw [List.getElem?_set_ne hj] at h; exact ⟨t, h, o⟩
      obtain ⟨u, b1, b2⟩ := back g1 o1
      obtain ⟨u', b3, b4⟩ := back g2 o2
      exact R.di j k u u' c b1 b3 b2 b4 e1 e2
  have hl' := hl
  unfold lstAt at hl'
  split at hl'
  · rename_i e
    cases hl'
    exact W e rfl (.inl ⟨_, rfl, rfl⟩) (by unfold putL; rw [e])
  · rename_i e
    cases hl'
    exact W e rfl (.inr ⟨_, rfl, rfl⟩) (by unfold putL; rw [e])
  · cases hl'
theorem ee_fm {n i : Nat} {g : List D → List D → FM} {fa : Sl → Res (List D)} (C : CalM X.prog X.w X.K X.mg X.base j x q.xr n g) (hjk : j ≤ k) (hG : X.A.guards = some []) (hr : Room k X.A) (hg : Gl X x) (tk : Takes X q.w) (hv : PE X (.Name y p1) (tVar i)) (ha : EEA X q es fa) (hl : ∀ ds as, as.length ≠ n → g ds as = .stuck)
    (hdb : (x == ("__debug__" : Str)) = false := by decide) (he : starEach (.Name y p1 :: es) X.env = (false, eval (.Name y p1) X.env) :: starEach es X.env := by rfl) (hpl : (backTo pos (starEach es X.env)).any (·.1) = false := by rfl) : EE X q (.Call (.Name x p) (.Name y p1 :: es) [] pos) (eCallM i g fa) := by
  obtain ⟨f, fd, ps, T, hm, hk, hb, hn⟩ := C.ex
  refine (pe_callG T hG (hr.mono hjk) hg hm hk hb tk (pa_cons hv ha he) hdb he hpl).weak fun σ H Q ⟨F, G, η, R, hf⟩ => ?_
  unfold eCallM at hf
  split at hf
  · rename_i ds0 e0
    obtain ⟨a, vs0, h1, h2, h3, _, _⟩ := lst_at R e0
    refine ⟨_, h1, F, G, η, R, hf.bnd.mono fun as η1 G1 H1 M1 R1 hf vs r1 => ?_⟩
    split at hf
    · rename_i ds e1
      obtain ⟨a', ws, g1, g2, g3, ho, _⟩ := lst_at R1 e1
      rw [h1] at g1; cases g1
      by_cases hz : as.length = n
      · refine ⟨G1, a, ws, vs, ds, as, rfl, R1.gh, (R1.owned ho).1, g2, g3, r1, hz, ?_⟩
        cases hr' : g ds as with
        | stuck => rw [hr'] at hf; exact hf
        | exc z cs =>
          rw [hr'] at hf
          intro cls d G' H' Ch w xr
          obtain ⟨R2, M2⟩ := chg_mov R1 e1 h1 Ch w
          exact hf σ G' H' cls d R2 M2.g xr
        | ok rv cs =>
          rw [hr'] at hf
          cases rv with
          | d z =>
            intro v G' H' Ch w b
            obtain ⟨R2, M2⟩ := chg_mov R1 e1 h1 Ch w
            exact hf G' H' M2 R2 v b
          | o z => exact hf.elim
      · rw [hl ds as hz] at hf; exact hf.elim
    · exact hf.elim
  · exact hf.elim
theorem eeo_fm {n i : Nat} {g : List D → List D → FM} {fa : Sl → Res (List D)} (C : CalM X.prog X.w X.K X.mg X.base j x q.xr n g) (hjk : j ≤ k) (hG : X.A.guards = some []) (hr : Room k X.A) (hg : Gl X x) (tk : Takes X q.w) (hv : PE X (.Name y p1) (tVar i)) (ha : EEA X q es fa) (hl : ∀ ds as, as.length ≠ n → g ds as = .stuck)
    (hdb : (x == ("__debug__" : Str)) = false := by decide) (he : starEach (.Name y p1 :: es) X.env = (false, eval (.Name y p1) X.env) :: starEach es X.env := by rfl) (hpl : (backTo pos (starEach es X.env)).any (·.1) = false := by rfl) : EEO X q (.Call (.Name x p) (.Name y p1 :: es) [] pos) (eoCallM i g fa) := by
  obtain ⟨f, fd, ps, T, hm, hk, hb, hn⟩ := C.ex
  refine (pe_callG T hG (hr.mono hjk) hg hm hk hb tk (pa_cons hv ha he) hdb he hpl).weak fun σ H Q ⟨F, G, η, R, hf⟩ => ?_
  unfold eoCallM at hf
  split at hf
  · rename_i ds0 e0
    obtain ⟨a, vs0, h1, h2, h3, _, _⟩ := lst_at R e0
    refine ⟨_, h1, F, G, η, R, hf.bnd.mono fun as η1 G1 H1 M1 R1 hf vs r1 => ?_⟩
    split at hf
    · rename_i ds e1
      obtain ⟨a', ws, g1, g2, g3, ho, _⟩ := lst_at R1 e1
      rw [h1] at g1; cases g1
      by_cases hz : as.length = n
      · refine ⟨G1, a, ws, vs, ds, as, rfl, R1.gh, (R1.owned ho).1, g2, g3, r1, hz, ?_⟩
        cases hr' : g ds as with
        | stuck => rw [hr'] at hf; exact hf
        | exc z cs =>
          rw [hr'] at hf
          intro cls d G' H' Ch w xr
          obtain ⟨R2, M2⟩ := chg_mov R1 e1 h1 Ch w
          exact hf σ G' H' cls d R2 M2.g xr
        | ok rv cs =>
          rw [hr'] at hf
          cases rv with
          | d z => exact hf.elim
          | o z =>
            rintro v G' H' Ch w ⟨b, rfl, hb1, hb2, hb3⟩
            obtain ⟨R2, M2⟩ := chg_mov R1 e1 h1 Ch w
            refine hf G' H' M2 R2 b (fun ⟨i', s', b1, b2, b3⟩ => ?_) hb2 (R1.fnone hb1) (M1.gone hb1) hb3
            exact R1.notOwned hb1 (M2.ow b ⟨i', s', b1, b2, b3⟩)
      · rw [hl ds as hz] at hf; exact hf.elim
    · exact hf.elim
  · exact hf.elim
end

/-! ### a def by its body -/
def noSl (n : Nat) : Sl := List.replicate n .non
def fnF (n m : Nat) (b : Sl → RS) (ds : List D) : FR := if ds.length = n then (match b (ds.map .val ++ noSl (m - n)) with
  | .rt r _ => .ok r
  | .nx _ => .ok (.d .none)
  | .exc x _ => .exc x
  | _ => .stuck) else .stuck
def mu0 : Sl → Option (List D)
  | .mu (.lst cs) :: _ => some cs
  | _ => none
def fnM (n m : Nat) (b : Sl → RS) (ds rest : List D) : FM := if rest.length = n then (match b (.mu (.lst ds) :: (rest.map .val ++ noSl (m - (n + 1)))) with
  | .rt r η => (match mu0 η with
    | some cs => .ok r cs
    | none => .stuck)
  | .nx η => (match mu0 η with
    | some cs => .ok (.d .none) cs
    | none => .stuck)
  | .exc x η => (match mu0 η with
    | some cs => .exc x cs
    | none => .stuck)
  | _ => .stuck) else .stuck
theorem fnF_len {n m : Nat} {b : Sl → RS} : ∀ as : List D, as.length ≠ n → fnF n m b as = .stuck := fun as h => if_neg h
theorem fnM_len {n m : Nat} {b : Sl → RS} : ∀ ds as : List D, as.length ≠ n → fnM n m b ds as = .stuck := fun ds as h => if_neg h
section
variable {Z : Zx} {G H : Hp}
theorem dqAll_at {vs : List V} {ds : List D} (r : DqAll Z.K G vs ds) (m : Nat) {i : Nat} {s : Slot} (h : (ds.map Slot.val ++ noSl m)[i]? = some s) : s = .non ∨ ∃ d v, s = .val d ∧ vs[i]? = some v ∧ Dq Z.K G v d := by
  by_cases hi : i < ds.length
  · rw [List.getElem?_append_left (by simpa using hi), List.getElem?_map] at h
    cases e : ds[i]? with
    | none => rw [e] at h; cases h
    | some d =>
      rw [e] at h
      cases h
      obtain ⟨v, h1, h2⟩ := r.get' e
      exact .inr ⟨d, v, rfl, h1, h2⟩
  · rw [List.getElem?_append_right (by simpa using hi)] at h
    unfold noSl at h
    rw [List.getElem?_replicate] at h
    split at h
    · cases h; exact .inl rfl
    · cases h
theorem start_at {N : List Str} {vs : List V} {i : Nat} {v : V} (h : vs[i]? = some v) : (L2.start N vs)[i]? = some (some v) := by
  unfold L2.start
  have hi : i < vs.length := (List.getElem?_eq_some_iff.mp h).1
  rw [List.getElem?_append_left (by simpa using hi), List.getElem?_map, h]; rfl
theorem Rep.start {N : List Str} {vs : List V} {ds : List D} (s : Same G H) (r : DqAll Z.K G vs ds) : Rep Z ⟨G, H, none⟩ G H (L2.start N vs) (ds.map .val ++ noSl (N.length - ds.length)) where
  gh := s
  g0 := Same.refl _
  fr := fun _ _ e _ => e
  mm := fun _ e => nomatch e
  gn := fun _ _ e => .inl e
  len := by unfold L2.start noSl; rw [List.length_append, List.length_append, List.length_map, List.length_map, List.length_replicate, List.length_replicate, r.len]
  sl := fun i s hs => by
    rcases dqAll_at r _ hs with rfl | ⟨d, v, rfl, h1, h2⟩
    · trivial
    · exact ⟨v, start_at h1, h2⟩
  di := fun i j s s' p h1 _ o1 _ _ _ => by
    rcases dqAll_at r _ h1 with rfl | ⟨d, v, rfl, _, _⟩ <;> cases o1
theorem Rep.startM {N : List Str} {us ws : List V} {ds rest : List D} {p : Addr} (s : Same G H) (gp : G p = none) (hp : H p = some (.lst ws)) (r0 : DqAll Z.K G ws ds) (r : DqAll Z.K G us rest) :
    Rep Z ⟨G, H, some p⟩ G H (L2.start N (.ref p :: us)) (.mu (.lst ds) :: (rest.map .val ++ noSl (N.length - (rest.length + 1)))) where
  gh := s
  g0 := Same.refl _
  fr := fun _ _ e _ => e
  mm := fun a e => by cases e; exact ⟨⟨_, hp⟩, ⟨_, hp⟩⟩
  gn := fun _ _ e => .inl e
  len := by
    unfold L2.start noSl
    simp only [List.length_append, List.length_cons, List.length_map, List.length_replicate, r.len]; omega
  sl := fun i s hs => by
    cases i with
    | zero => cases hs; exact ⟨p, rfl, gp, rfl, ws, hp, r0⟩
    | succ i =>
      rcases dqAll_at r _ (show _ = some s from hs) with rfl | ⟨d, v, rfl, h1, h2⟩
      · trivial
      · exact ⟨v, start_at (show (V.ref p :: us)[i + 1]? = some v from h1), h2⟩
  di := fun i j s s' c h1 h2 o1 o2 _ _ => by
    have z : ∀ {i : Nat} {s : Slot}, (Slot.mu (.lst ds) :: (rest.map Slot.val ++ noSl (N.length - (rest.length + 1))))[i]? = some s → s.isO = true → i = 0 := fun {i s} h o => by
      cases i with
      | zero => rfl
      | succ i => rcases dqAll_at r _ (show _ = some s from h) with rfl | ⟨d, v, rfl, _, _⟩ <;> cases o
    rw [z h1 o1, z h2 o2]
end
section
variable {P : Program} {w : World} {K : PySem.W.Frag} {mg : Str → Option Value} {base : Heap} {x qual : Str} {params : Arguments} {body : List Stmt} {scope : Scope} {f : Addr} {fd : FuncData} {N ps : List Str} {k n : Nat} {xr : Xr}
/-- THE RULE, nothing guarding -/
theorem fnG_of {sp : Sp} (Fd : FunD K x qual params body scope [] [] f fd) (S : FnScope N ps scope) (len : ∀ vs H Q E, sp vs H Q E → vs.length = ps.length)
    (hbody : ∀ (cdv : Value) (A : Around) (outer : List Env) (s : Shared) (H : Hp) (vs : List V) (Q : VK) (E : XK), (A.deeper (envOfC qual scope s.heap.objs.size f cdv)).guards = some [] → Room k (A.deeper (envOfC qual scope s.heap.objs.size f cdv)) → sp vs H Q E →
      ∃ t, PSs (cxOf (L2.CX P w) P w K mg base N qual scope f cdv A outer s H E) body t ∧ t { nx := fun _ H' => Q .non H', rt := Q } (L2.start N vs) H) : FnG P w K mg base (k + 1) f fd ps sp := by
  obtain ⟨oc, od, dV, kV, doc, pm, an, cdv, ct, osl, rfl, lk, hcd, _, _⟩ := Fd.ex
  refine ⟨len, fun A outer s H args us vs Q E hg hr e0 hb r hsp => ?_⟩
  have stay : ∀ b o, base.get? b = some o → s.heap.get? b = some o := fun b o e => (e0.bs b o e).1
  have KX : K.In s.heap := e0.mod.kin.keeps stay
  have hkind : ∀ y ∈ ps.zip us, scope.names.lookup y.1 = some .local ∨ (scope.names.lookup y.1 = some .cell ∧ ((cellsFrom (s.heap.objs.size + 1) scope.names []).lookup y.1).isSome = true) := fun y hy =>
    (S.par y.1 (List.of_mem_zip (a := y.1) (b := y.2) hy).1).imp id fun c => ⟨c, PySem.W.cellsFrom_some _ _ _ (.inl c)⟩
  refine codeAny_call_function hr.depth (KX _ _ lk) rfl S.co S.gen rfl (PySem.W.codeRec_of KX hcd) (hb _ _ _ _ (wpAny_newFunctionEnv_cells S.kind hkind fun env he s1 x1 => ?_))
  subst he
  refine ⟨(e0.mod.nolimit.keeps stay).keeps x1.toInCall.keep, codeAny_func ?_⟩
  obtain ⟨t, ht, hq⟩ := hbody cdv A outer s H vs Q E hg (hr.deeper _) hsp
  have I := inv_start (CX := L2.CX P w) (E := E) S hr.hd e0 (len _ _ _ _ hsp) r x1
  refine wpAny_mono (ht.run [] s1 (L2.start N vs) H _ I hq) (fun fl s' hs => ?_) fun _ _ hs => hs
  cases fl with
  | brk => obtain ⟨_, _, _, z⟩ := hs; exact z.elim
  | cont => obtain ⟨_, _, _, z⟩ := hs; exact z.elim
  | next => obtain ⟨_, H', J, z⟩ := hs; exact ⟨V.non, H', J.os, J.bare, J.base, J.hok, rfl, z⟩
  | ret u => obtain ⟨v, _, H', J, rv, z⟩ := hs; exact ⟨v, H', J.os, J.bare, J.base, J.hok, rv, z⟩
/-- what the body's derivation has at hand -/
abbrev BodyOk (P : Program) (w : World) (K : PySem.W.Frag) (mg : Str → Option Value) (base : Heap) (N : List Str) (qual : Str) (scope : Scope) (f : Addr) (k : Nat) (xr : Xr) (body : List Stmt) (den : Sl → RS) : Prop :=
  ∀ (cdv : Value) (A : Around) (outer : List Env) (s : Shared) (H : Hp) (E : XK), (A.deeper (envOfC qual scope s.heap.objs.size f cdv)).guards = some [] → Room k (A.deeper (envOfC qual scope s.heap.objs.size f cdv)) →
    Takes (cxOf (L2.CX P w) P w K mg base N qual scope f cdv A outer s H E) (fun cls d _ H => E cls d H) →
    PassesOwn (model P w) (A.deeper (envOfC qual scope s.heap.objs.size f cdv)) (envOfC qual scope s.heap.objs.size f cdv) (cxOf (L2.CX P w) P w K mg base N qual scope f cdv A outer s H E).xe →
    SB (cxOf (L2.CX P w) P w K mg base N qual scope f cdv A outer s H E) ⟨xr, fun cls d _ H => E cls d H⟩ body den
theorem Rep.back {Z : Zx} {G H G' H' : Hp} {σ' : Sta} {η' : Sl} (R : Rep Z ⟨G, H, none⟩ G' H' σ' η') : Step G H G' H' := ⟨R.g0, fun a o e => R.fr a o e (fun z => nomatch z), R.gh, R.gn⟩
theorem Rep.chg {Z : Zx} {G H G' H' : Hp} {p : Addr} {σ' : Sta} {η' : Sl} (R : Rep Z ⟨G, H, some p⟩ G' H' σ' η') : Chg G H p G' H' := ⟨R.g0, R.gh, fun a o e n => R.fr a o e fun z => n (Option.some.inj z).symm, R.gn⟩
theorem Rep.mu_end {Z : Zx} {G H G' H' : Hp} {p : Addr} {σ' : Sta} {η' : Sl} {cs : List D} (R : Rep Z ⟨G, H, some p⟩ G' H' σ' η') (h : mu0 η' = some cs) : OwnR Z G' H' p (.lst cs) := by
  have h : η'[0]? = some (.mu (.lst cs)) := by
    unfold HM.mu0 at h
    split at h
    · cases h; rfl
    · cases h
  obtain ⟨c, h1, h2, h3, h4⟩ := R.sl 0 _ h
  cases h3; exact h4
theorem fn_F {den : Sl → RS} (Fd : FunD K x qual params body scope [] [] f fd) (S : FnScope N ps scope) (hn : ps.length = n) (hb : BodyOk P w K mg base N qual scope f k xr body den) : FnG P w K mg base (k + 1) f fd ps (spF ⟨K, P, w⟩ xr n (fnF n N.length den)) := by
  refine fnG_of Fd S (fun vs H Q E ⟨G, ds, _, r, hl, _⟩ => by rw [r.len, hl, hn]) fun cdv A outer s H vs Q E hg hr ⟨G, ds, sg, r, hl, h⟩ => ⟨_, hb cdv A outer s H E hg hr (takes_of rfl rfl rfl rfl) (passes_of rfl), ⟨G, H, none⟩, G, _, Rep.start sg r, ?_⟩
  unfold fnF at h
  rw [if_pos hl] at h
  rw [hl]
  cases e : den (ds.map .val ++ noSl (N.length - n)) with
  | stuck => rw [e] at h; exact h
  | bk _ => rw [e] at h; exact h.elim
  | ct _ => rw [e] at h; exact h.elim
  | nx η' => rw [e] at h; exact fun σ' G' H' R' _ => h .non G' H' R'.back .non
  | exc z η' => rw [e] at h; exact fun σ' G' H' cls d R' _ xr => h cls d G' H' R'.back xr
  | rt r η' =>
    rw [e] at h
    refine fun v σ' G' H' R' _ ret => h v G' H' R'.back ?_
    cases r with
    | d z => exact ret
    | o z => obtain ⟨p, e1, _, e2, e3, e4⟩ := ret; exact ⟨p, e1, e3, e2, e4⟩
theorem fn_M {den : Sl → RS} (Fd : FunD K x qual params body scope [] [] f fd) (S : FnScope N ps scope) (hn : ps.length = n + 1) (hb : BodyOk P w K mg base N qual scope f k xr body den) : FnG P w K mg base (k + 1) f fd ps (spM ⟨K, P, w⟩ xr n (fnM n N.length den)) := by
  refine fnG_of Fd S (fun vs H Q E ⟨G, p, ws, us, ds, rest, e, _, _, _, _, r, hl, _⟩ => by rw [e, List.length_cons, r.len, hl, hn]) fun cdv A outer s H vs Q E hg hr ⟨G, p, ws, us, ds, rest, ev, sg, gp, hp, r0, r, hl, h⟩ => ?_
  subst ev
  refine ⟨_, hb cdv A outer s H E hg hr (takes_of rfl rfl rfl rfl) (passes_of rfl), ⟨G, H, some p⟩, G, _, Rep.startM sg gp hp r0 r, ?_⟩
  unfold fnM at h
  rw [if_pos hl] at h
  rw [hl]
  cases e : den (.mu (.lst ds) :: (rest.map .val ++ noSl (N.length - (n + 1)))) with
  | stuck => rw [e] at h; exact h
  | bk _ => rw [e] at h; exact h.elim
  | ct _ => rw [e] at h; exact h.elim
  | nx η' =>
    rw [e] at h
    simp only at h
    cases e2 : mu0 η' with
    | none => rw [e2] at h; exact h.elim
    | some cs => rw [e2] at h; exact fun σ' G' H' R' _ => h .non G' H' R'.chg (R'.mu_end e2) .non
  | exc z η' =>
    rw [e] at h
    simp only at h
    cases e2 : mu0 η' with
    | none => rw [e2] at h; exact h.elim
    | some cs => rw [e2] at h; exact fun σ' G' H' cls d R' _ xr => h cls d G' H' R'.chg (R'.mu_end e2) xr
  | rt r η' =>
    rw [e] at h
    simp only at h
    cases e2 : mu0 η' with
    | none => rw [e2] at h; exact h.elim
    | some cs =>
      rw [e2] at h
      refine fun v σ' G' H' R' _ ret => h v G' H' R'.chg (R'.mu_end e2) ?_
      cases r with
      | d z => exact ret
      | o z => obtain ⟨p, e1, _, e2, e3, e4⟩ := ret; exact ⟨p, e1, e3, e2, e4⟩
end
end HM

set_option Elab.async false
set_option linter.all false
set_option maxRecDepth 100000
set_option maxHeartbeats 4000000
set_option autoImplicit false
/-! HJ: what is walked, targets, for, list comprehensions. -/
namespace HM
open PySem PySem.Spec PyProof.Rows L2

/-- an item: a datum, or a new tuple of data -/
inductive Yd where
  | d (x : D)
  | t (xs : List D)
def YdR (Z : Zx) (G H : Hp) (v : V) : Yd → Prop
  | .d x => Dq Z.K G v x
  | .t xs => ∃ p vs, v = .ref p ∧ SqT Z.K H p vs ∧ DqAll Z.K G vs xs
/-- J walks over ys wherever B holds -/
def Walks (Z : Zx) (B : Hp → Hp → Prop) (J : It) (ys : List Yd) : Prop := ∀ G H, Same G H → B G H → ∀ i, (∀ y, ys[i]? = some y → J.go i H ∧ ∀ x H', J.yld i H x H' → ∃ G', Step G H G' H' ∧ YdR Z G' H' x y) ∧ (i = ys.length → J.stop i H)
def tI (Z : Zx) (q : Qx) (f : Sl → Res (List Yd)) : TI := fun σ H R => ∃ F G η, Rep Z F G H σ η ∧ Rsp Z q F G H σ η (f η) fun ys _ G' H' => ∀ J, Walks Z (fun G2 _ => Same G' G2) J ys → R J H'
def tIp (Z : Zx) (f : Sl → Option (List Yd)) : TI := fun σ H R => ∃ F G η ys, Rep Z F G H σ η ∧ f η = some ys ∧ ∀ G' H' J, Step G H G' H' → Walks Z (fun G2 H2 => Step G' H' G2 H2) J ys → R J H'
abbrev EI (X : Cx) (q : Qx) (tg e : Expr) (f : Sl → Res (List Yd)) : Prop := PI X tg e (tI (zx X) q f)
abbrev EIp (X : Cx) (tg e : Expr) (f : Sl → Option (List Yd)) : Prop := PI X tg e (tIp (zx X) f)

/-! ### sequences -/
def ydStr (z : Str) : List D := z.cps.toList.map fun c => .str ⟨#[c]⟩
/-- what a datum's items are -/
def seqD : Pv → Option (List D)
  | .d (.list ds) => some ds
  | .o (.lst ds) => some ds
  | .d (.tuple ds) => some ds
  | .d (.str z) => some (ydStr z)
  | _ => none
def iSeq (K : PySem.W.Frag) (te : TE) : TI := fun σ H R => te σ H fun v H1 => (∃ a xs, v = .ref a ∧ SqL K H1 a xs ∧ R (Itl K a) H1) ∨ (∃ a xs, v = .ref a ∧ SqT K H1 a xs ∧ R (Itt K a) H1) ∨ ∃ z, v = .str z ∧ R (Its z) H1
theorem pi_seq {X : Cx} {tg e : Expr} {te : TE} (he : PE X e te) : PI X tg e (iSeq X.K te) := ⟨fun pins s σ H R I h => thn (he.run pins s σ H _ I h) fun v s1 ⟨x, H1, I1, r1, w⟩ => by
  have one : PE X e (fun σ' H' Q => σ' = σ ∧ Q x H1) → True := fun _ => trivial
  have hn := I1.hok.fresh (a := s1.heap.objs.size) (Nat.le_refl _)
  rcases w with ⟨a, xs, rfl, sq, w⟩ | ⟨a, xs, rfl, sq, w⟩ | ⟨z, rfl, w⟩
  · cases r1
    obtain ⟨its, _, pl, _⟩ := I1.list sq
    exact wpAny_pyIter_list pl.isList (pi_one (tk := s1.toks) I1 _ (turn_list a _) ⟨_, Heap.get?_push_size _ rfl, rfl, rfl⟩ w)
  · cases r1
    obtain ⟨its, _, pl, _⟩ := I1.tuple sq
    exact wpAny_pyIter_tuple (show s1.heap.IsTuple a its.toArray from pl) (pi_one (tk := s1.toks) I1 _ (turn_tuple a _) ⟨_, Heap.get?_push_size _ rfl, rfl, rfl⟩ w)
  · obtain ⟨t, rfl⟩ := r1
    cases ha : z.cps.all (· < 128) with
    | false => exact wpAny_pyIter_wide ha (pi_one (tk := s1.toks) I1 _ (turn_str _ z t _ (.inr rfl)) ⟨_, Heap.get?_push_size _ rfl, rfl, rfl⟩ w)
    | true => exact wpAny_pyIter_ascii ha (pi_one (tk := s1.toks) I1 _ (turn_str _ z t _ (.inl rfl)) ⟨_, Heap.get?_push_size _ rfl, rfl, rfl⟩ w)⟩
section
variable {Z : Zx} {B : Hp → Hp → Prop} {G H : Hp}
theorem walk_l {a : Addr} {xs : List V} {ds : List D} (h : ∀ G' H', Same G' H' → B G' H' → SqL Z.K H' a xs ∧ DqAll Z.K G' xs ds) : Walks Z B (Itl Z.K a) (ds.map .d) := fun G' H' s b i => by
  obtain ⟨h1, h2⟩ := h G' H' s b
  refine ⟨fun y hy => ?_, fun e => ⟨xs, h1, by rw [e, List.length_map, h2.len]; exact Nat.le_refl _⟩⟩
  rw [List.getElem?_map] at hy
  obtain ⟨d, e, rfl⟩ := Option.map_eq_some_iff.mp hy
  obtain ⟨v, e2, r⟩ := h2.get' e
  exact ⟨⟨xs, v, h1, e2⟩, fun x H'' ⟨eH, hx⟩ => by
    subst eH
    rw [hx xs h1] at e2; cases e2
    exact ⟨G', .refl s, r⟩⟩
theorem walk_t {a : Addr} {xs : List V} {ds : List D} (h : ∀ G' H', Same G' H' → B G' H' → SqT Z.K H' a xs ∧ DqAll Z.K G' xs ds) : Walks Z B (Itt Z.K a) (ds.map .d) := fun G' H' s b i => by
  obtain ⟨h1, h2⟩ := h G' H' s b
  refine ⟨fun y hy => ?_, fun e => ⟨xs, h1, by rw [e, List.length_map, h2.len]; exact Nat.le_refl _⟩⟩
  rw [List.getElem?_map] at hy
  obtain ⟨d, e, rfl⟩ := Option.map_eq_some_iff.mp hy
  obtain ⟨v, e2, r⟩ := h2.get' e
  exact ⟨⟨xs, v, h1, e2⟩, fun x H'' ⟨eH, hx⟩ => by
    subst eH
    rw [hx xs h1] at e2; cases e2
    exact ⟨G', .refl s, r⟩⟩
theorem walk_s {z : Str} : Walks Z B (Its z) ((ydStr z).map .d) := fun G' H' s b i => by
  refine ⟨fun y hy => ?_, fun e => ?_⟩
  · unfold ydStr at hy
    rw [List.getElem?_map, List.getElem?_map] at hy
    obtain ⟨d, e0, rfl⟩ := Option.map_eq_some_iff.mp hy
    obtain ⟨c, e1, rfl⟩ := Option.map_eq_some_iff.mp e0
    have ec : z.cps[i]? = some c := by rw [← e1, Array.getElem?_toList]
    refine ⟨(Array.getElem?_eq_some_iff.mp ec).1, fun x H'' ⟨eH, c', hc, hx⟩ => ?_⟩
    subst eH
    rw [ec] at hc; cases hc
    subst hx
    exact ⟨G', .refl s, .str _⟩
  · show z.cps.size ≤ i
    unfold ydStr at e
    rw [List.length_map, List.length_map, Array.length_toList] at e
    omega
end
def iSq (f : Sl → Res D) : Sl → Res (List Yd) := fun η => (f η).bind fun d η1 => ofO ((seqD (.d d)).map fun ds => ds.map .d) η1
def ipSq (f : Sl → Option Pv) : Sl → Option (List Yd) := fun η => (f η).bind fun d => (seqD d).map fun ds => ds.map .d
section
variable {X : Cx} {q : Qx} {tg e : Expr}
theorem ei_seq {f : Sl → Res D} (h : EE X q e f) : EI X q tg e (iSq f) := (pi_seq h).weak fun σ H R ⟨F, G, η, Rp, hf⟩ => ⟨F, G, η, Rp, hf.bnd.mono fun d η1 G1 H1 M1 R1 hf v r => by
  obtain ⟨ys, e1, k⟩ := Rsp.ofO R1 hf
  obtain ⟨ds, e2, rfl⟩ := Option.map_eq_some_iff.mp e1
  have k := k G1 H1 (.refl R1.gh)
  cases d with
  | list es =>
    cases e2
    cases r with
    | lst h1 h2 => exact .inl ⟨_, _, rfl, R1.gh.seq h1, k _ (walk_l fun G' H' s b => ⟨s.seq (b.seq h1), DqAll.mono b _ _ h2⟩)⟩
  | tuple es =>
    cases e2
    cases r with
    | tup h1 h2 => exact .inr (.inl ⟨_, _, rfl, (h1.mono R1.gh).sq, k _ (walk_t fun G' H' s b => ⟨((h1.mono b).mono s).sq, DqAll.mono b _ _ h2⟩)⟩)
  | str z => cases e2; cases r; exact .inr (.inr ⟨_, rfl, k _ walk_s⟩)
  | _ => cases e2⟩
theorem eip_seq {f : Sl → Option Pv} (h : EP X e f) : EIp X tg e (ipSq f) := (pi_seq h).weak fun σ H R ⟨F, G, η, ys, Rp, hf, k⟩ => by
  obtain ⟨d, e1, hf⟩ := Option.bind_eq_some_iff.mp hf
  obtain ⟨ds, e2, rfl⟩ := Option.map_eq_some_iff.mp hf
  refine ⟨F, G, η, d, Rp, e1, fun v G1 H1 S1 r => ?_⟩
  have L : ∀ {ds : List D}, lstOf d = some ds → (∀ J, Walks (zx X) (fun G2 H2 => Step G1 H1 G2 H2) J (ds.map .d) → R J H1) → ∃ a xs, v = .ref a ∧ SqL X.K H1 a xs ∧ R (Itl X.K a) H1 := fun {ds} h k => by
    obtain ⟨p, vs, rfl, sq, w⟩ := r.sql S1.gh h
    exact ⟨p, vs, rfl, sq, k _ (walk_l fun G' H' s b => ⟨b.h.seq sq, DqAll.mono b.g _ _ w⟩)⟩
  unfold seqD at e2
  split at e2
  · cases e2; exact .inl (L rfl fun J w => k G1 H1 J S1 w)
  · cases e2; exact .inl (L rfl fun J w => k G1 H1 J S1 w)
  · cases e2
    obtain ⟨p, vs, rfl, sq, w⟩ := r.sqt rfl
    exact .inr (.inl ⟨p, vs, rfl, (sq.mono S1.gh).sq, k G1 H1 _ S1 (walk_t fun G' H' s b => ⟨((sq.mono b.g).mono s).sq, DqAll.mono b.g _ _ w⟩)⟩)
  · cases e2; cases r; exact .inr (.inr ⟨_, rfl, k G1 H1 _ S1 walk_s⟩)
  · cases e2

/-! ### ranges -/
def rgD (lo : Int) (n : Nat) : List D := (List.range n).map fun k => .int (lo + (k : Nat))
def rgDc (lo c : Int) (n : Nat) : List D := (List.range n).map fun k => .int (lo + (k : Nat) * c)
theorem walk_r {Z : Zx} {B : Hp → Hp → Prop} {lo : Int} {n : Nat} : Walks Z B (Itr lo n) ((rgD lo n).map .d) := fun G' H' s b i => by
  refine ⟨fun y hy => ?_, fun e => ?_⟩
  · unfold rgD at hy
    rw [List.getElem?_map, List.getElem?_map] at hy
    obtain ⟨d, e0, rfl⟩ := Option.map_eq_some_iff.mp hy
    obtain ⟨k, e1, rfl⟩ := Option.map_eq_some_iff.mp e0
    obtain ⟨hi, e2⟩ := List.getElem?_eq_some_iff.mp e1
    rw [List.getElem_range] at e2
    subst e2
    refine ⟨show i < n by simpa using hi, fun x H'' ⟨eH, hx⟩ => ?_⟩
    subst eH hx
    exact ⟨G', .refl s, .int _⟩
  · show n ≤ i
    unfold rgD at e
    rw [List.length_map, List.length_map, List.length_range] at e
    omega
theorem walk_rc {Z : Zx} {B : Hp → Hp → Prop} {lo c : Int} {n : Nat} : Walks Z B (Itc lo c n) ((rgDc lo c n).map .d) := fun G' H' s b i => by
  refine ⟨fun y hy => ?_, fun e => ?_⟩
  · unfold rgDc at hy
    rw [List.getElem?_map, List.getElem?_map] at hy
    obtain ⟨d, e0, rfl⟩ := Option.map_eq_some_iff.mp hy
    obtain ⟨k, e1, rfl⟩ := Option.map_eq_some_iff.mp e0
    obtain ⟨hi, e2⟩ := List.getElem?_eq_some_iff.mp e1
    rw [List.getElem_range] at e2
    subst e2
    refine ⟨show i < n by simpa using hi, fun x H'' ⟨eH, hx⟩ => ?_⟩
    subst eH hx
    exact ⟨G', .refl s, .int _⟩
  · show n ≤ i
    unfold rgDc at e
    rw [List.length_map, List.length_map, List.length_range] at e
    omega
/-- (not for the kernel to reckon) -/
noncomputable def okI (i : Int) : Bool := @decide (-(2 ^ 62) ≤ i ∧ i < 2 ^ 62) (Classical.propDecidable _)
/-- the numbers of a range by its arguments -/
noncomputable def rngD1 : List D → Option (List D)
  | [.int j] => if okI j = true then some (rgD 0 j.toNat) else none
  | _ => none
noncomputable def rngD2 : List D → Option (List D)
  | [.int i, .int j] => if okI i = true ∧ okI j = true then some (rgD i (j - i).toNat) else none
  | _ => none
noncomputable def rngD3 : List D → Option (List D)
  | [.int i, .int j, .int c] => if okI i = true ∧ okI j = true ∧ c = -1 then some (rgDc i (-1) (i - j).toNat)
      else if 0 < c ∧ c < 1073741824 ∧ Builtin.Range.small i j c = true ∧ 0 ≤ Builtin.Range.rangeSize i j c then some (rgDc i c (Builtin.Range.rangeSize i j c).toNat) else none
  | _ => none
def iRg (g : List D → Option (List D)) (f : Sl → Res (List D)) : Sl → Res (List Yd) := fun η => (f η).bind fun as η1 => ofO ((g as).map fun ds => ds.map .d) η1
def ipRg (g : List D → Option (List D)) (f : Sl → Option (List Pv)) : Sl → Option (List Yd) := fun η => (f η).bind fun as => (datsOf as).bind fun ds => (g ds).map fun ds => ds.map .d
theorem okI_inv {i : Int} (h : okI i = true) : -(2 ^ 62) ≤ i ∧ i < 2 ^ 62 := @of_decide_eq_true _ (Classical.propDecidable _) h
section
variable {K : PySem.W.Frag} {G H : Hp} {vs : List V} {as ds : List D} {R : It → Hp → Prop}
theorem rng_1 (r : DqAll K G vs as) (h : rngD1 as = some ds) (k : ∀ J, (∀ Z B, Walks Z B J (ds.map .d)) → R J H) : ∃ j : Int, vs = [.int j] ∧ -(2 ^ 62) ≤ j ∧ j < 2 ^ 62 ∧ R (Itr 0 j.toNat) H := by
  unfold rngD1 at h
  split at h
  · split at h
    · rename_i ho
      cases h
      obtain ⟨v, rfl, rv⟩ := r.one_inv
      cases rv
      obtain ⟨h1, h2⟩ := okI_inv ho
      exact ⟨_, rfl, h1, h2, k _ fun _ _ => walk_r⟩
    · cases h
  · cases h
theorem rng_2 (r : DqAll K G vs as) (h : rngD2 as = some ds) (k : ∀ J, (∀ Z B, Walks Z B J (ds.map .d)) → R J H) : ∃ i j : Int, vs = [.int i, .int j] ∧ (-(2 ^ 62) ≤ i ∧ i < 2 ^ 62 ∧ -(2 ^ 62) ≤ j ∧ j < 2 ^ 62) ∧ R (Itr i (j - i).toNat) H := by
  unfold rngD2 at h
  split at h
  · split at h
    · rename_i ho
      cases h
      cases r with
      | cons a b =>
        obtain ⟨v, rfl, rv⟩ := b.one_inv
        cases rv
        cases a
        obtain ⟨h1, h2⟩ := okI_inv ho.1
        obtain ⟨h3, h4⟩ := okI_inv ho.2
        exact ⟨_, _, rfl, ⟨h1, h2, h3, h4⟩, k _ fun _ _ => walk_r⟩
    · cases h
  · cases h
theorem rng_3 (r : DqAll K G vs as) (h : rngD3 as = some ds) (k : ∀ J, (∀ Z B, Walks Z B J (ds.map .d)) → R J H) : ∃ (i j c : Int) (n : Nat), vs = [.int i, .int j, .int c] ∧ RgC i j c n ∧ R (Itc i c n) H := by
  unfold rngD3 at h
  split at h
  · rename_i i j c
    cases r with
    | cons ra rb =>
      cases rb with
      | cons rb rc =>
        obtain ⟨v, rfl, rv⟩ := rc.one_inv
        cases rv
        cases rb
        cases ra
        split at h
        · rename_i ho
          obtain ⟨o1, o2, rfl⟩ := ho
          cases h
          obtain ⟨h1, h2⟩ := okI_inv o1
          obtain ⟨h3, h4⟩ := okI_inv o2
          exact ⟨i, j, -1, _, rfl, RgC.neg h1 h2 h3 h4, k _ fun _ _ => walk_rc⟩
        · split at h
          · rename_i ho
            obtain ⟨o3, o4, o5, o6⟩ := ho
            cases h
            exact ⟨i, j, c, _, rfl, ⟨by omega, by omega, o5, (Int.toNat_of_nonneg o6).symm⟩, k _ fun _ _ => walk_rc⟩
          · cases h
  · cases h
end
theorem dats_step {Z : Zx} {G H : Hp} {xs : List Pv} {vs : List V} {ds : List D} (r : PvRs Z G H vs xs) (h : datsOf xs = some ds) : DqAll Z.K G vs ds := datsOf_inv r h
variable {a b c : Expr} {p pos : Pos}
theorem ei_rg1 {f : Sl → Res (List D)} (hg : Gl X "range") (hm : X.mg "range" = none) (ha : EEA X q [a] f) (hs : starEach [a] X.env = [(false, eval a X.env)] := by rfl) : EI X q tg (.Call (.Name "range" p) [a] [] pos) (iRg rngD1 f) :=
  (pi_range1 hg hm ha hs).weak fun σ H R ⟨F, G, η, Rp, hf⟩ => ⟨F, G, η, Rp, hf.bnd.mono fun as η1 G1 H1 M1 R1 hf vs r => by
    obtain ⟨ys, e1, k⟩ := Rsp.ofO R1 hf
    obtain ⟨ds, e2, rfl⟩ := Option.map_eq_some_iff.mp e1
    exact rng_1 r e2 fun J w => k G1 H1 (.refl R1.gh) J (w _ _)⟩
theorem ei_rg2 {f : Sl → Res (List D)} (hg : Gl X "range") (hm : X.mg "range" = none) (ha : EEA X q [a, b] f) (hs : starEach [a, b] X.env = [(false, eval a X.env), (false, eval b X.env)] := by rfl) (hs2 : starEach [b] X.env = [(false, eval b X.env)] := by rfl) : EI X q tg (.Call (.Name "range" p) [a, b] [] pos) (iRg rngD2 f) :=
  (pi_range2 hg hm ha hs hs2).weak fun σ H R ⟨F, G, η, Rp, hf⟩ => ⟨F, G, η, Rp, hf.bnd.mono fun as η1 G1 H1 M1 R1 hf vs r => by
    obtain ⟨ys, e1, k⟩ := Rsp.ofO R1 hf
    obtain ⟨ds, e2, rfl⟩ := Option.map_eq_some_iff.mp e1
    exact rng_2 r e2 fun J w => k G1 H1 (.refl R1.gh) J (w _ _)⟩
theorem eip_rg1 {f : Sl → Option (List Pv)} (hg : Gl X "range") (hm : X.mg "range" = none) (ha : EA X [a] f) (hs : starEach [a] X.env = [(false, eval a X.env)] := by rfl) : EIp X tg (.Call (.Name "range" p) [a] [] pos) (ipRg rngD1 f) :=
  (pi_range1 hg hm ha hs).weak fun σ H R ⟨F, G, η, ys, Rp, hf, k⟩ => by
    obtain ⟨as, e1, hf⟩ := Option.bind_eq_some_iff.mp hf
    obtain ⟨es, e2, hf⟩ := Option.bind_eq_some_iff.mp hf
    obtain ⟨ds, e3, rfl⟩ := Option.map_eq_some_iff.mp hf
    exact ⟨F, G, η, as, Rp, e1, fun vs G1 H1 S1 r => rng_1 (datsOf_inv r e2) e3 fun J w => k G1 H1 J S1 (w _ _)⟩
theorem eip_rg2 {f : Sl → Option (List Pv)} (hg : Gl X "range") (hm : X.mg "range" = none) (ha : EA X [a, b] f) (hs : starEach [a, b] X.env = [(false, eval a X.env), (false, eval b X.env)] := by rfl) (hs2 : starEach [b] X.env = [(false, eval b X.env)] := by rfl) : EIp X tg (.Call (.Name "range" p) [a, b] [] pos) (ipRg rngD2 f) :=
  (pi_range2 hg hm ha hs hs2).weak fun σ H R ⟨F, G, η, ys, Rp, hf, k⟩ => by
    obtain ⟨as, e1, hf⟩ := Option.bind_eq_some_iff.mp hf
    obtain ⟨es, e2, hf⟩ := Option.bind_eq_some_iff.mp hf
    obtain ⟨ds, e3, rfl⟩ := Option.map_eq_some_iff.mp hf
    exact ⟨F, G, η, as, Rp, e1, fun vs G1 H1 S1 r => rng_2 (datsOf_inv r e2) e3 fun J w => k G1 H1 J S1 (w _ _)⟩
end
end HM

set_option Elab.async false
set_option linter.all false
set_option maxRecDepth 100000
set_option maxHeartbeats 4000000
set_option autoImplicit false
/-! HK: targets, for, list comprehensions. -/
namespace HM
open PySem PySem.Spec PyProof.Rows L2

/-! ### targets -/
def setAll : List Nat → List D → Sl → Option Sl
  | [], [], η => some η
  | i :: is, x :: xs, η => if i < η.length then setAll is xs (η.set i (.val x)) else none
  | _, _, _ => none
def tgV (i : Nat) : Yd → Sl → Option Sl
  | .d x, η => if i < η.length then some (η.set i (.val x)) else none
  | .t _, _ => none
def tgT (is : List Nat) : Yd → Sl → Option Sl
  | .t xs, η => setAll is xs η
  | .d (.tuple xs), η => setAll is xs η
  | _, _ => none
/-- only these slots are set, to values -/
def TgSl (is : List Nat) (t : Yd → Sl → Option Sl) : Prop := ∀ y η η', t y η = some η' → ∀ (j : Nat) (s : Slot), η'[j]? = some s → s.isO = true → η[j]? = some s ∧ j ∉ is
def TgOk (Z : Zx) (g : TG) (is : List Nat) (t : Yd → Sl → Option Sl) : Prop := TgSl is t ∧ ∀ F G H σ η v y η' (Q : Sta → Hp → Prop), Rep Z F G H σ η → YdR Z G H v y → t y η = some η' → (∀ σ', Rep Z F G H σ' η' → (∀ j, j ∉ is → σ'[j]? = σ[j]?) → σ'.length = σ.length → Q σ' H) → g v σ H Q
def TgsOk (Z : Zx) (g : TGs) (is : List Nat) : Prop := ∀ F G H σ η vs xs η' (Q : Sta → Hp → Prop), Rep Z F G H σ η → DqAll Z.K G vs xs → setAll is xs η = some η' → (∀ σ', Rep Z F G H σ' η' → (∀ j, j ∉ is → σ'[j]? = σ[j]?) → σ'.length = σ.length → Q σ' H) → g vs σ H Q
section
variable {Z : Zx} {i : Nat} {is : List Nat} {g : TG} {gs : TGs} {n : Nat}
theorem set_own {η : Sl} {i j : Nat} {d : D} {s : Slot} (h : (η.set i (.val d))[j]? = some s) (o : s.isO = true) : η[j]? = some s ∧ j ≠ i := by
  by_cases e : i = j
  · subst e
    by_cases hl : i < η.length
    · rw [List.getElem?_set_self hl] at h; cases h; cases o
    · rw [List.getElem?_eq_none (by rw [List.length_set]; omega)] at h; cases h
  · rw [List.getElem?_set_ne e] at h; exact ⟨h, fun z => e z.symm⟩
theorem setAll_own : ∀ {is : List Nat} {xs : List D} {η η' : Sl}, setAll is xs η = some η' → ∀ (j : Nat) (s : Slot), η'[j]? = some s → s.isO = true → η[j]? = some s ∧ j ∉ is
  | [], [], _, _, h, j, s, e, _ => by cases h; exact ⟨e, fun z => nomatch z⟩
  | [], _ :: _, _, _, h, _, _, _, _ => nomatch h
  | _ :: _, [], _, _, h, _, _, _, _ => nomatch h
  | i :: is, x :: xs, η, η', h, j, s, e, o => by
    unfold setAll at h
    split at h
    · obtain ⟨h1, h2⟩ := setAll_own h j s e o
      obtain ⟨h3, h4⟩ := set_own h1 o
      exact ⟨h3, fun z => (List.mem_cons.mp z).elim h4 h2⟩
    · cases h
theorem sl_v : TgSl [i] (tgV i) := fun y η η' h j s e o => by
  unfold tgV at h
  split at h
  · split at h
    · cases h
      obtain ⟨h3, h4⟩ := set_own e o
      exact ⟨h3, fun z => h4 (List.mem_singleton.mp z)⟩
    · exact nomatch h
  · exact nomatch h
theorem tg_v : TgOk Z (gName i) [i] (tgV i) := ⟨sl_v, fun F G H σ η v y η' Q R r h k => by
  unfold tgV at h
  split at h
  · split at h
    · rename_i hl
      cases h
      exact k _ (R.setVal hl r) (fun j hj => List.getElem?_set_ne fun e => hj (by rw [e]; exact List.mem_singleton.mpr rfl)) List.length_set
    · cases h
  · cases h⟩
theorem tgs_nil : TgsOk Z gNil [] := fun F G H σ η vs xs η' Q R r h k => by
  cases xs with
  | nil => cases h; cases r; exact ⟨rfl, k σ R (fun _ _ => rfl) rfl⟩
  | cons x xs => cases h
theorem tgs_cons (h2 : TgsOk Z gs is) : TgsOk Z (gCons (gName i) gs) (i :: is) := fun F G H σ η vs xs η' Q R r h k => by
  cases xs with
  | nil => cases h
  | cons x xs =>
    unfold setAll at h
    split at h
    · rename_i hl
      cases r with
      | cons r1 r2 =>
        refine ⟨_, _, rfl, h2 F G H _ _ _ xs η' Q (R.setVal hl r1) r2 h fun σ' R' e el => k σ' R' (fun j hj => ?_) (el.trans List.length_set)⟩
        rw [e j fun z => hj (List.mem_cons_of_mem _ z)]
        exact List.getElem?_set_ne fun e => hj (by rw [e]; exact List.mem_cons_self)
    · cases h
theorem setAll_len : ∀ {is : List Nat} {xs : List D} {η η' : Sl}, setAll is xs η = some η' → xs.length = is.length
  | [], [], _, _, _ => rfl
  | [], _ :: _, _, _, h => nomatch h
  | _ :: _, [], _, _, h => nomatch h
  | i :: is, x :: xs, η, η', h => by
    unfold setAll at h
    split at h
    · exact congrArg (· + 1) (setAll_len h)
    · cases h
theorem sl_t : TgSl is (tgT is) := fun y η η' h j s e o => by
  unfold tgT at h
  split at h
  · exact setAll_own h j s e o
  · exact setAll_own h j s e o
  · exact nomatch h
theorem tg_t (h : TgsOk Z gs is) (hn : is.length = n) : TgOk Z (L2.gTup Z.K n gs) is (tgT is) := ⟨sl_t, fun F G H σ η v y η' Q R r hy k => by
  unfold tgT at hy
  split at hy
  · obtain ⟨p, vs, rfl, sq, w⟩ := r
    exact ⟨p, vs, rfl, sq, by rw [w.len, setAll_len hy, hn], h F G H σ η vs _ η' Q R w hy k⟩
  · cases r with
    | tup t w => exact ⟨_, _, rfl, (t.mono R.gh).sq, by rw [w.len, setAll_len hy, hn], h F G H σ η _ _ η' Q R w hy k⟩
  · cases hy⟩
end

/-! ### for -/
def sForL (t : Yd → Sl → Option Sl) (b : Sl → RS) : List Yd → Sl → RS
  | [], η => .nx η
  | y :: ys, η => match t y η with
    | none => .stuck
    | some η1 => match b η1 with
      | .nx η2 => sForL t b ys η2
      | .ct η2 => sForL t b ys η2
      | .bk η2 => .nx η2
      | .stuck => .stuck
      | .rt r η2 => .rt r η2
      | .exc x η2 => .exc x η2
def sFor (f : Sl → Res (List Yd)) (t : Yd → Sl → Option Sl) (b : Sl → RS) : Sl → RS := sE f fun ys η1 => sForL t b ys η1
theorem ss_for {X : Cx} {q : Qx} {tg iter : Expr} {body : List Stmt} {pos : Pos} {f : Sl → Res (List Yd)} {g : TG} {is : List Nat} {t : Yd → Sl → Option Sl} {b : Sl → RS} (hp : PassesOwn (model X.prog X.w) X.A X.env X.xe) (hc : X.calm = true) (hi : EI X q tg iter f) (hg : PG X tg g) (ht : TgOk (zx X) g is t) (hb : SB X q body b)
    (hs : ∀ x, foldedSetIterable iter X.env x = pure x := by intro _; rfl) : SS X q (.For tg iter body [] pos) (sFor f t b) :=
  (ps_for hp hc hi hg hb hs).weak fun E σ H ⟨F, G, η, R, hf⟩ => ⟨F, G, η, R, (sE_inv (σ := σ) (H := H) hf).mono fun ys η1 G1 H1 M1 R1 hf J w => by
    refine ⟨fun i m σ' H' => m = ys.length - i ∧ i ≤ ys.length ∧ ∃ G2 η2, Rep (zx X) F G2 H' σ' η2 ∧ Same G1 G2 ∧ Ssp (zx X) q F G2 E (sForL t b (ys.drop i) η2), ⟨_, rfl, Nat.zero_le _, G1, η1, R1, Same.refl _, hf⟩, ?_⟩
    rintro i m σ' H' ⟨rfl, hi, G2, η2, R2, s2, hf⟩
    obtain ⟨wgo, wstop⟩ := w G2 H' R2.gh s2 i
    by_cases hlt : i < ys.length
    · refine .inr ?_
      have ey : ys[i]? = some ys[i] := List.getElem?_eq_getElem hlt
      obtain ⟨go, yl⟩ := wgo _ ey
      refine ⟨go, fun σ' H' => ∃ G2 η2, Rep (zx X) F G2 H' σ' η2 ∧ Same G1 G2 ∧ Ssp (zx X) q F G2 E (sForL t b (ys.drop (i + 1)) η2), fun σ3 H3 n => ⟨_, by omega, rfl, hlt, n⟩, fun x H3 hy => ?_⟩
      obtain ⟨G3, S3, ry⟩ := yl x H3 hy
      rw [List.drop_eq_getElem_cons hlt] at hf
      unfold sForL at hf
      cases e1 : t ys[i] η2 with
      | none => rw [e1] at hf; exact hf.elim
      | some η3 =>
        rw [e1] at hf
        refine ht.2 F G3 H3 σ' η2 x _ η3 _ (R2.step S3) ry e1 fun σ4 R4 _ _ => ⟨F, G3, η3, R4, ?_⟩
        have hf : Ssp (zx X) q F G3 E (match b η3 with
          | .nx η2 => sForL t b (ys.drop (i + 1)) η2
          | .ct η2 => sForL t b (ys.drop (i + 1)) η2
          | .bk η2 => .nx η2
          | .stuck => .stuck
          | .rt r η2 => .rt r η2
          | .exc x η2 => .exc x η2) := Ssp.later S3.g hf
        have s3 := s2.trans S3.g
        cases e : b η3 with
        | stuck => rw [e] at hf; exact hf
        | nx η4 => rw [e] at hf; exact fun σ' G' H' R' s => ⟨G', η4, R', s3.trans s, Ssp.later s hf⟩
        | ct η4 => rw [e] at hf; exact fun σ' G' H' R' s => ⟨G', η4, R', s3.trans s, Ssp.later s hf⟩
        | bk η4 => rw [e] at hf; exact hf
        | rt r η4 => rw [e] at hf; exact hf
        | exc x η4 => rw [e] at hf; exact hf
    · have e : i = ys.length := by omega
      refine .inl ⟨wstop e, ?_⟩
      rw [e, List.drop_length] at hf
      exact hf σ' G2 H' R2 (Same.refl _)⟩

/-! ### slots forgotten through a comprehension -/
def wipeS (η : Sl) : List Nat → Sl
  | [] => η
  | v :: vs => (wipeS η vs).set v .non
def keepS (η : Sl) (i : Nat) : Slot := match η[i]? with
  | some (.val d) => .val d
  | _ => .non
def backS (η1 η2 : Sl) : List Nat → Sl
  | [] => η2
  | v :: vs => (backS η1 η2 vs).set v (keepS η1 v)
section
variable {σ σ' : Sta} {η η1 η2 : Sl} {i : Nat} {vs : List Nat}
theorem wipeS_len (η : Sl) : ∀ vs, (wipeS η vs).length = η.length
  | [] => rfl
  | v :: vs => by unfold wipeS; rw [List.length_set, wipeS_len η vs]
theorem wipeS_out : ∀ {vs : List Nat}, i ∉ vs → (wipeS η vs)[i]? = η[i]?
  | [], _ => rfl
  | v :: vs, h => by
    unfold wipeS
    rw [List.getElem?_set_ne fun e => h (by rw [e]; exact List.mem_cons_self)]
    exact wipeS_out fun z => h (List.mem_cons_of_mem _ z)
theorem wipeS_in : ∀ {vs : List Nat} {s : Slot}, i ∈ vs → (wipeS η vs)[i]? = some s → s = .non
  | v :: vs, s, h, e => by
    unfold wipeS at e
    by_cases hv : v = i
    · subst hv
      by_cases hl : v < (wipeS η vs).length
      · rw [List.getElem?_set_self hl] at e; cases e; rfl
      · rw [List.getElem?_eq_none (by rw [List.length_set]; omega)] at e; cases e
    · rw [List.getElem?_set_ne hv] at e
      rcases List.mem_cons.mp h with z | z
      · exact absurd z.symm hv
      · exact wipeS_in z e
theorem wipe_in : ∀ {vs : List Nat}, i ∈ vs → i < σ.length → (wipe σ vs)[i]? = some none
  | v :: vs, h, hl => by
    unfold wipe
    by_cases hv : v = i
    · subst hv
      rw [List.getElem?_set_self (by rw [wipe_length]; exact hl)]
    · rw [List.getElem?_set_ne hv]
      rcases List.mem_cons.mp h with z | z
      · exact absurd z.symm hv
      · exact wipe_in z hl
theorem wipe_eq {is : List Nat} (hl : σ'.length = σ.length) (h : ∀ j, j ∉ is → σ'[j]? = σ[j]?) (hs : ∀ j ∈ is, j ∈ vs) : wipe σ' vs = wipe σ vs := by
  refine List.ext_getElem? fun j => ?_
  by_cases hj : j ∈ vs
  · by_cases hj2 : j < σ.length
    · rw [wipe_in hj hj2, wipe_in hj (by rw [hl]; exact hj2)]
    · rw [List.getElem?_eq_none (by rw [wipe_length]; omega), List.getElem?_eq_none (by rw [wipe_length]; omega)]
  · rw [wipe_out hj, wipe_out hj, h j fun z => hj (hs j z)]
theorem wipe_wipe : wipe (wipe σ vs) vs = wipe σ vs := wipe_eq (is := vs) (by rw [wipe_length]) (fun j hj => wipe_out hj) fun j hj => hj
theorem backS_len : ∀ vs, (backS η1 η2 vs).length = η2.length
  | [] => rfl
  | v :: vs => by unfold backS; rw [List.length_set, backS_len vs]
theorem backS_out : ∀ {vs : List Nat}, i ∉ vs → (backS η1 η2 vs)[i]? = η2[i]?
  | [], _ => rfl
  | v :: vs, h => by
    unfold backS
    rw [List.getElem?_set_ne fun e => h (by rw [e]; exact List.mem_cons_self)]
    exact backS_out fun z => h (List.mem_cons_of_mem _ z)
theorem backS_in : ∀ {vs : List Nat} {s : Slot}, i ∈ vs → (backS η1 η2 vs)[i]? = some s → s = .non ∨ ∃ d, s = .val d ∧ η1[i]? = some (.val d)
  | v :: vs, s, h, e => by
    unfold backS at e
    by_cases hv : v = i
    · subst hv
      by_cases hl : v < (backS η1 η2 vs).length
      · rw [List.getElem?_set_self hl] at e
        cases e
        unfold keepS
        split
        · rename_i d e; exact .inr ⟨d, rfl, e⟩
        · exact .inl rfl
      · rw [List.getElem?_eq_none (by rw [List.length_set]; omega)] at e; cases e
    · rw [List.getElem?_set_ne hv] at e
      rcases List.mem_cons.mp h with z | z
      · exact absurd z.symm hv
      · exact backS_in z e
variable {Z : Zx} {F : Fx} {G G1 G2 H H1 H2 : Hp}
theorem Rep.wipe (R : Rep Z F G H σ η) (vs : List Nat) : Rep Z F G H (L2.wipe σ vs) (wipeS η vs) where
  gh := R.gh
  g0 := R.g0
  fr := R.fr
  mm := R.mm
  gn := R.gn
  len := by rw [wipe_length, wipeS_len, R.len]
  sl := fun i s hs => by
    by_cases hi : i ∈ vs
    · rw [wipeS_in hi hs]; trivial
    · rw [wipeS_out hi] at hs
      exact (R.sl i s hs).move (wipe_out hi)
  di := fun i j s s' p h1 h2 o1 o2 e1 e2 => by
    by_cases hi : i ∈ vs
    · rw [wipeS_in hi h1] at o1; cases o1
    · by_cases hj : j ∈ vs
      · rw [wipeS_in hj h2] at o2; cases o2
      · rw [wipeS_out hi] at h1
        rw [wipeS_out hj] at h2
        exact R.di i j s s' p h1 h2 o1 o2 (wipe_some e1).1 (wipe_some e2).1
theorem Rep.unwipe (R1 : Rep Z F G1 H1 σ η1) (R2 : Rep Z F G2 H2 (L2.wipe σ vs) η2) (s : Same G1 G2) : Rep Z F G2 H2 σ (backS η1 η2 vs) where
  gh := R2.gh
  g0 := R2.g0
  fr := R2.fr
  mm := R2.mm
  gn := R2.gn
  len := by rw [backS_len, ← R2.len, wipe_length]
  sl := fun i t ht => by
    by_cases hi : i ∈ vs
    · rcases backS_in hi ht with rfl | ⟨d, rfl, e⟩
      · trivial
      · obtain ⟨v, h1, h2⟩ := R1.sl i _ e
        exact ⟨v, h1, Dq.mono s _ _ h2⟩
    · rw [backS_out hi] at ht
      exact (R2.sl i t ht).move (wipe_out hi).symm
  di := fun i j t t' p h1 h2 o1 o2 e1 e2 => by
    by_cases hi : i ∈ vs
    · rcases backS_in hi h1 with rfl | ⟨d, rfl, e⟩ <;> cases o1
    · by_cases hj : j ∈ vs
      · rcases backS_in hj h2 with rfl | ⟨d, rfl, e⟩ <;> cases o2
      · rw [backS_out hi] at h1
        rw [backS_out hj] at h2
        exact R2.di i j t t' p h1 h2 o1 o2 ((wipe_out hi).trans e1) ((wipe_out hj).trans e2)
theorem Owned.unwipe {a : Addr} (h : Owned (L2.wipe σ vs) (wipeS η vs) a) : Owned σ η a := by
  obtain ⟨i, s, h1, h2, h3⟩ := h
  by_cases hi : i ∈ vs
  · rw [wipeS_in hi h1] at h2; cases h2
  · rw [wipeS_out hi] at h1
    exact ⟨i, s, h1, h2, (wipe_some h3).1⟩
theorem Owned.back {a : Addr} (h : Owned σ (backS η1 η2 vs) a) : Owned (L2.wipe σ vs) η2 a := by
  obtain ⟨i, s, h1, h2, h3⟩ := h
  by_cases hi : i ∈ vs
  · rcases backS_in hi h1 with rfl | ⟨d, rfl, e⟩ <;> cases h2
  · rw [backS_out hi] at h1
    exact ⟨i, s, h1, h2, (wipe_out hi).trans h3⟩
theorem Mov.unwipe (M : Mov (L2.wipe σ vs) (wipeS η1 vs) G1 H1 η2 G2 H2) : Mov σ η1 G1 H1 (backS η1 η2 vs) G2 H2 :=
  ⟨M.g, fun a o e n => M.kp a o e fun z => n z.unwipe, fun a o e => (M.nw a o e).imp id (Or.imp id Owned.unwipe), fun a h => (M.ow a h.back).unwipe⟩
/-- an object that nobody holds is changed -/
theorem Rep.aside (R : Rep Z F G H σ η) {p : Addr} {o u : HO} (hp : H p = some u) (gp : G p = none) (fp : F.H p = none) (np : ¬ Owned σ η p) : Rep Z F G (upd H p o) σ η where
  gh := fun b v e => by rw [upd_ne (ne_of_none e gp)]; exact R.gh b v e
  g0 := R.g0
  fr := fun a v e n => by rw [upd_ne (ne_of_none e fp)]; exact R.fr a v e n
  mm := fun a e => by
    obtain ⟨⟨v, h1⟩, v', h2⟩ := R.mm a e
    exact ⟨⟨v, by rw [upd_ne (ne_of_none h2 fp)]; exact h1⟩, v', h2⟩
  gn := R.gn
  len := R.len
  sl := fun i s hs => by
    have z := R.sl i s hs
    have ne : s.isO = true → ∀ c, σ[i]? = some (some (.ref c)) → c ≠ p := fun os c hc e => np ⟨i, s, hs, os, by rw [hc, e]⟩
    cases s with
    | non => trivial
    | val d => exact z
    | own o => obtain ⟨c, g1, g2, g3, g4⟩ := z; exact ⟨c, g1, g2, g3, g4.mono (Same.refl _) fun v e => by rw [upd_ne (ne rfl c g1)]; exact e⟩
    | mu o => obtain ⟨c, g1, g2, g3, g4⟩ := z; exact ⟨c, g1, g2, g3, g4.mono (Same.refl _) fun v e => by rw [upd_ne (ne rfl c g1)]; exact e⟩
  di := R.di
theorem Mov.aside {p : Addr} {o : HO} (hp : H p = none) (M : Mov σ η G H η2 G2 H2) (np : G2 p = none) : Mov σ η G H η2 G2 (upd H2 p o) :=
  ⟨M.g, fun a v e n => by rw [upd_ne (ne_of_none e hp)]; exact M.kp a v e n, M.nw, M.ow⟩
end
end HM

set_option Elab.async false
set_option linter.all false
set_option maxRecDepth 100000
set_option maxHeartbeats 4000000
set_option autoImplicit false
/-! HL: list comprehensions. -/
namespace HM
open PySem PySem.Spec PyProof.Rows L2

/-- pure: each item in the same slots -/
def lcP (t : Yd → Sl → Option Sl) (c : Sl → Option Bool) (e : Sl → Option Pv) (η : Sl) : List Yd → Option (List D)
  | [] => some []
  | y :: ys => (t y η).bind fun η1 => (c η1).bind fun k => if k = true then ((e η1).bind datOf).bind fun d => (lcP t c e η ys).bind fun ds => some (d :: ds) else lcP t c e η ys
def oLc (vs : List Nat) (src : Sl → Option (List Yd)) (t : Yd → Sl → Option Sl) (c : Sl → Option Bool) (e : Sl → Option Pv) : Sl → Option OD := fun η => (src η).bind fun ys => (lcP t c e (wipeS η vs) ys).bind fun ds => if ds.length ≤ 16777216 then some (.lst ds) else none
def yesP : Sl → Option Bool := fun _ => some true
/-- changing: the slots go on from item to item -/
def lcE (vs : List Nat) (t : Yd → Sl → Option Sl) (c : Sl → Res Bool) (e : Sl → Res D) : List Yd → List D → Sl → Res (List D)
  | [], acc, η => .ok acc η
  | y :: ys, acc, η => match t y η with
    | none => .stuck
    | some η1 => (c η1).bind fun k η2 => if k = true then (e η2).bind fun x η3 => if acc.length < 16777216 then lcE vs t c e ys (acc ++ [x]) (wipeS η3 vs) else .stuck else lcE vs t c e ys acc (wipeS η2 vs)
def eLc (vs : List Nat) (src : Sl → Res (List Yd)) (t : Yd → Sl → Option Sl) (c : Sl → Res Bool) (e : Sl → Res D) : Sl → Res OD := fun η => (src η).bind fun ys η1 => match lcE vs t c e ys [] (wipeS η1 vs) with
  | .ok ds η2 => .ok (.lst ds) (backS η1 η2 vs)
  | _ => .stuck
def yesE : Sl → Res Bool := fun η => .ok true η
section
variable {X : Cx} {q : Qx} {c : Expr}
theorem pts_yesP : PTs X [] (tPT (zx X) yesP) := ⟨fun pins s σ H Q I ⟨F, G, η, x, R, hf, k⟩ => pts_nil.run pins s σ H Q I (by cases hf; exact k G H (.refl R.gh))⟩
theorem pts_P {f : Sl → Option Bool} (h : ET X c f) : PTs X [c] (tPT (zx X) f) := pts_one h
theorem pts_yesE : PTs X [] (tET (zx X) q yesE) := ⟨fun pins s σ H Q I ⟨F, G, η, R, hf⟩ => pts_nil.run pins s σ H Q I (Rsp.done R hf (.refl R.gh))⟩
theorem pts_E {f : Sl → Res Bool} (h : EET X q c f) : PTs X [c] (tET (zx X) q f) := pts_one h
end
section
variable {Z : Zx} {q : Qx} {g : TG} {is vs : List Nat} {t : Yd → Sl → Option Sl} {σ : Sta} {H : Hp} {Q : VK}
theorem Step.aside {G H G' H' : Hp} {p : Addr} {o : HO} (S : Step G H G' H') (hp : H p = none) (gp : G' p = none) : Step G H G' (upd H' p o) :=
  ⟨S.g, fun b u e => by rw [upd_ne (ne_of_none e hp)]; exact S.h b u e, fun b u e => by rw [upd_ne (ne_of_none e gp)]; exact S.gh b u e, S.nw⟩
theorem Step.gone {G H G' H' : Hp} {p : Addr} {u : HO} (S : Step G H G' H') (gp : G p = none) (hp : H p = some u) : G' p = none := by
  cases e : G' p with
  | none => rfl
  | some v =>
    rcases S.nw p v e with z | z
    · rw [gp] at z; cases z
    · rw [hp] at z; cases z
theorem lc_P {src : Sl → Option (List Yd)} {c : Sl → Option Bool} {e : Sl → Option Pv} (ht : TgOk Z g is t) (hv : ∀ j ∈ is, j ∈ vs) (h : tO Z (oLc vs src t c e) σ H Q) : tLc (tIp Z src) g (tPT Z c) (tP Z e) vs σ H Q := by
  obtain ⟨F, G, η, x, R, hf, k⟩ := h
  obtain ⟨ys, hs, hf⟩ := Option.bind_eq_some_iff.mp hf
  obtain ⟨ds, hd, hf⟩ := Option.bind_eq_some_iff.mp hf
  split at hf
  · rename_i hz
    cases hf
    refine ⟨F, G, η, ys, R, hs, fun G1 H1 J S1 w D hD => ?_⟩
    have gD : G1 D = none := S1.gh.free hD
    refine ⟨fun i m H' => m = ys.length - i ∧ i ≤ ys.length ∧ ∃ G2 acc accd rest, Step G1 H1 G2 H' ∧ G2 D = none ∧ H' D = some (.lst acc) ∧ DqAll Z.K G2 acc accd ∧ lcP t c e (wipeS η vs) (ys.drop i) = some rest ∧ accd ++ rest = ds,
      ⟨_, rfl, Nat.zero_le _, G1, [], [], ds, (Step.refl S1.gh).aside hD gD, gD, upd_same, .nil, hd, rfl⟩, ?_⟩
    rintro i m H' ⟨rfl, hi, G2, acc, accd, rest, S2, gD2, hD2, ra, hl, hsum⟩
    obtain ⟨wgo, wstop⟩ := w G2 H' S2.gh S2 i
    by_cases hlt : i < ys.length
    · refine .inr ?_
      obtain ⟨go, yl⟩ := wgo _ (List.getElem?_eq_getElem hlt)
      refine ⟨go, fun H' => ∃ G2 acc accd rest, Step G1 H1 G2 H' ∧ G2 D = none ∧ H' D = some (.lst acc) ∧ DqAll Z.K G2 acc accd ∧ lcP t c e (wipeS η vs) (ys.drop (i + 1)) = some rest ∧ accd ++ rest = ds, fun H3 n => ⟨_, by omega, rfl, hlt, n⟩, fun v H3 hy => ?_⟩
      obtain ⟨G3, S3, ry⟩ := yl v H3 hy
      rw [List.drop_eq_getElem_cons hlt] at hl
      unfold lcP at hl
      obtain ⟨η1, e1, hl⟩ := Option.bind_eq_some_iff.mp hl
      obtain ⟨b, e2, hl⟩ := Option.bind_eq_some_iff.mp hl
      have R3 : Rep Z F G3 H3 (wipe σ vs) (wipeS η vs) := (R.step (S1.trans (S2.trans S3))).wipe vs
      refine ht.2 F G3 H3 _ _ v _ η1 _ R3 ry e1 fun σ4 R4 off el => ⟨(wipe_eq el off hv).trans wipe_wipe, F, G3, η1, b, R4, e2, fun G4 H4 S4 => ?_⟩
      have S14 := (S2.trans S3).trans S4
      have hD3 := S3.h _ _ hD2
      have gD3 := S3.gone gD2 hD2
      have hD4 := S4.h _ _ hD3
      have gD4 := S4.gone gD3 hD3
      have ra4 := DqAll.mono (S3.g.trans S4.g) _ _ ra
      cases b with
      | false => exact ⟨G4, acc, accd, rest, S14, gD4, hD4, ra4, hl, hsum⟩
      | true =>
        obtain ⟨d, e3, hl⟩ := Option.bind_eq_some_iff.mp hl
        obtain ⟨x, e4, e5⟩ := Option.bind_eq_some_iff.mp e3
        obtain ⟨ds', e6, hl⟩ := Option.bind_eq_some_iff.mp hl
        cases hl
        refine ⟨F, G4, η1, x, R4.step S4, e4, fun u G5 H5 S5 r5 => ⟨acc, S5.h _ _ hD4, ?_, G5, acc ++ [u], accd ++ [d], ds', (S14.trans S5).aside hD (S5.gone gD4 hD4), S5.gone gD4 hD4, upd_same, (DqAll.mono S5.g _ _ ra4).app (.one (datOf_inv r5 e5)), e6, by rw [← hsum]; simp⟩⟩
        rw [ra4.len, line_eq]
        rw [← hsum, List.length_append, List.length_cons] at hz
        omega
    · have e : i = ys.length := by omega
      refine .inl ⟨wstop e, ?_⟩
      rw [e, List.drop_length] at hl
      cases hl
      rw [List.append_nil] at hsum
      subst hsum
      exact k D G2 H' (S1.trans S2) (S1.h.free hD) gD2 ⟨acc, hD2, ra⟩
  · cases hf
abbrev Qx.mute (q : Qx) : Qx := ⟨q.xr, fun _ _ _ _ => False⟩
theorem Res.bind_okE {α β : Type} {r : Res α} {k : α → Sl → Res β} {b : β} {η' : Sl} (h : r.bind k = .ok b η') : ∃ a η1, r = .ok a η1 ∧ k a η1 = .ok b η' := by
  cases r with
  | stuck => cases h
  | ok a η1 => exact ⟨a, η1, rfl, h⟩
  | exc x η1 => cases h
theorem lc_E {src : Sl → Res (List Yd)} {c : Sl → Res Bool} {e : Sl → Res D} (ht : TgOk Z g is t) (hv : ∀ j ∈ is, j ∈ vs) (h : tEO Z q (eLc vs src t c e) σ H Q) : tLc (tI Z q src) g (tET Z q.mute c) (tE Z q.mute e) vs σ H Q := by
  obtain ⟨F, G, η, R, hf⟩ := h
  refine ⟨F, G, η, R, hf.bnd.mono fun ys η1 G1 H1 M1 R1 hf J w D hD => ?_⟩
  have gD : G1 D = none := R1.gh.free hD
  cases hr : lcE vs t c e ys [] (wipeS η1 vs) with
  | stuck => rw [hr] at hf; exact hf.elim
  | exc z η' => rw [hr] at hf; exact hf.elim
  | ok ds ηe =>
    rw [hr] at hf
    have hf : ∀ G' H', Mov σ η1 G1 H1 (backS η1 ηe vs) G' H' → Rep Z F G' H' σ (backS η1 ηe vs) → ∀ p, ¬ Owned σ (backS η1 ηe vs) p → G' p = none → F.H p = none → (H p = none ∨ Owned σ η p) → OwnR Z G' H' p (.lst ds) → Q (.ref p) H' := hf
    have R1w := R1.wipe vs
    have fD := R1.fnone hD
    refine ⟨fun i m H' => m = ys.length - i ∧ i ≤ ys.length ∧ ∃ G2 η2 acc accd, Mov (wipe σ vs) (wipeS η1 vs) G1 H1 η2 G2 H' ∧ Rep Z F G2 H' (wipe σ vs) η2 ∧ G2 D = none ∧ ¬ Owned (wipe σ vs) η2 D ∧ H' D = some (.lst acc) ∧ DqAll Z.K G2 acc accd ∧ lcE vs t c e (ys.drop i) accd η2 = .ok ds ηe,
      ⟨_, rfl, Nat.zero_le _, G1, wipeS η1 vs, [], [], (Mov.refl).aside hD gD, ?_, gD, fun z => ?_, upd_same, .nil, hr⟩, ?_⟩
    · exact ((R1w.step (Step.alloc (o := .lst []) R1w.gh hD)))
    · exact R1w.notOwned hD z
    rintro i m H' ⟨rfl, hi, G2, η2, acc, accd, M2, R2, gD2, nD2, hD2, ra, hl⟩
    have s12 := M2.g
    obtain ⟨wgo, wstop⟩ := w G2 H' R2.gh s12 i
    by_cases hlt : i < ys.length
    · refine .inr ?_
      obtain ⟨go, yl⟩ := wgo _ (List.getElem?_eq_getElem hlt)
      refine ⟨go, fun H' => ∃ G2 η2 acc accd, Mov (wipe σ vs) (wipeS η1 vs) G1 H1 η2 G2 H' ∧ Rep Z F G2 H' (wipe σ vs) η2 ∧ G2 D = none ∧ ¬ Owned (wipe σ vs) η2 D ∧ H' D = some (.lst acc) ∧ DqAll Z.K G2 acc accd ∧ lcE vs t c e (ys.drop (i + 1)) accd η2 = .ok ds ηe, fun H3 n => ⟨_, by omega, rfl, hlt, n⟩, fun v H3 hy => ?_⟩
      obtain ⟨G3, S3, ry⟩ := yl v H3 hy
      rw [List.drop_eq_getElem_cons hlt] at hl
      unfold lcE at hl
      cases e1 : t ys[i] η2 with
      | none => rw [e1] at hl; cases hl
      | some η3 =>
        rw [e1] at hl
        obtain ⟨b, η4, e2, hl⟩ := Res.bind_okE hl
        have R3 := R2.step S3
        have M3 := M2.trans (Mov.step S3)
        have hD3 := S3.h _ _ hD2
        have gD3 := S3.gone gD2 hD2
        refine ht.2 F G3 H3 _ _ v _ η3 _ R3 ry e1 fun σ4 R4 off el => ?_
        have we : wipe σ4 vs = wipe σ vs := (wipe_eq el off hv).trans wipe_wipe
        -- the target's slots are the block's own: what is one's own stays so
        have ow3 : ∀ a, Owned σ4 η3 a → Owned (wipe σ vs) η2 a := fun a ⟨j, s, z1, z2, z3⟩ => by
          obtain ⟨y1, y2⟩ := ht.1 _ _ _ e1 j s z1 z2
          exact ⟨j, s, y1, z2, by rw [← off j y2]; exact z3⟩
        refine ⟨we, F, G3, η3, R4, ?_⟩
        rw [e2]
        intro G4 H4 M4 R4'
        have nD4 : ¬ Owned σ4 η4 D := fun z => nD2 (ow3 _ (M4.ow _ z))
        have hD4 := M4.kp _ _ hD3 fun z => nD2 (ow3 _ z)
        have gone : ∀ {G5 H5 : Hp} {η5 : Sl}, Mov σ4 η3 G3 H3 η5 G5 H5 → G5 D = none := fun {G5 H5 η5} M => by
          cases q : G5 D with
          | none => rfl
          | some u =>
            rcases M.nw _ _ q with z | z | z
            · rw [gD3] at z; cases z
            · rw [hD3] at z; cases z
            · exact absurd (ow3 _ z) nD2
        have fin : ∀ {G5 H5 : Hp} {η5 : Sl}, Mov σ4 η3 G3 H3 η5 G5 H5 → Rep Z F G5 H5 σ4 η5 → Rep Z F G5 H5 (wipe σ vs) (wipeS η5 vs) ∧ Mov (wipe σ vs) (wipeS η1 vs) G1 H1 (wipeS η5 vs) G5 H5 ∧ ¬ Owned (wipe σ vs) (wipeS η5 vs) D := fun {G5 H5 η5} M R5 => by
          have R5' := R5.wipe vs
          rw [we] at R5'
          have o5 : ∀ a, Owned (wipe σ vs) (wipeS η5 vs) a → Owned σ4 η5 a := fun a z => by
            rw [← we] at z; exact z.unwipe
          refine ⟨R5', ⟨M3.g.trans M.g, fun a o e n => M.kp a o (M3.kp a o e n) fun z => n (M3.ow _ (ow3 _ z)), fun a o e => ?_, fun a z => M3.ow _ (ow3 _ (M.ow _ (o5 _ z)))⟩, fun z => nD2 (ow3 _ (M.ow _ (o5 _ z)))⟩
          rcases M.nw a o e with z | z | z
          · exact M3.nw a o z
          · by_cases ho : Owned (wipe σ vs) (wipeS η1 vs) a
            · exact .inr (.inr ho)
            · exact .inr ((M3.gone z).imp id id)
          · exact .inr (.inr (M3.ow _ (ow3 _ z)))
        cases b with
        | false =>
          obtain ⟨f1, f2, f3⟩ := fin M4 R4'
          exact ⟨G4, _, acc, accd, f2, f1, gone M4, f3, hD4, DqAll.mono (S3.g.trans M4.g) _ _ ra, hl⟩
        | true =>
          obtain ⟨x, η5, e3, hl⟩ := Res.bind_okE hl
          split at hl
          · rename_i hz
            refine ⟨F, G4, η4, R4', ?_⟩
            rw [e3]
            intro G5 H5 M5 R5 u ru
            have M45 := M4.trans M5
            obtain ⟨f1, f2, f3⟩ := fin M45 R5
            have hD5 := M5.kp _ _ hD4 nD4
            have ra5 := DqAll.mono ((S3.g.trans M4.g).trans M5.g) _ _ ra
            refine ⟨acc, hD5, by rw [ra5.len, line_eq]; exact hz, G5, _, acc ++ [u], accd ++ [x], f2.aside hD (gone M45), f1.aside hD5 (gone M45) fD f3, gone M45, f3, upd_same, ra5.app (.one ru), hl⟩
          · cases hl
    · have e : i = ys.length := by omega
      refine .inl ⟨wstop e, ?_⟩
      rw [e, List.drop_length] at hl
      cases hl
      exact hf G2 H' M2.unwipe (R1.unwipe R2 s12) D (fun z => nD2 z.back) gD2 fD (M1.gone hD) ⟨acc, hD2, ra⟩
end
section
variable {X : Cx} {q : Qx} {elt tg iter : Expr} {ifs : List Expr} {scope : Scope} {own : List (Str × Nat)} {pos spos py : Pos} {g : TG} {is : List Nat} {t : Yd → Sl → Option Sl}
abbrev Blks (X : Cx) (scope : Scope) (φ : Cx → Prop) : Prop := ∀ (s : Shared) (H : Hp) (C : Addr) (cl : List (Str × Addr)) (fp : List Addr), φ (X.blk s H scope (compEnvC scope cl C X.env) fp)
/-- [e for .. in .. if ..] -/
theorem eo_lc {src : Sl → Option (List Yd)} {c : Sl → Option Bool} {e : Sl → Option Pv} (hc : X.calm = true) (hN : X.N.Nodup) (ok : BlkOk X.N X.env.scope scope own) (ht : TgOk (zx X) g is t) (hv : ∀ j ∈ is, j ∈ own.map (·.2)) (hi : EIp X tg iter src)
    (hg : Blks X scope fun Y => PG Y tg g) (h1 : Blks X scope fun Y => PTs Y ifs (tPT (zx X) c)) (h2 : Blks X scope fun Y => PE Y elt (tP (zx X) e)) (hs : ∀ x, foldedSetIterable iter X.env x = pure x := by intro _; rfl) : EO X (.ListComp elt [⟨tg, iter, ifs, 0⟩] scope pos) (oLc (own.map (·.2)) src t c e) :=
  (pe_lc hc hN hi ok hg h1 h2 hs).weak fun _ _ _ h => lc_P ht hv h
theorem eeo_lc {src : Sl → Res (List Yd)} {c : Sl → Res Bool} {e : Sl → Res D} (hc : X.calm = true) (hN : X.N.Nodup) (ok : BlkOk X.N X.env.scope scope own) (ht : TgOk (zx X) g is t) (hv : ∀ j ∈ is, j ∈ own.map (·.2)) (hi : EI X q tg iter src)
    (hg : Blks X scope fun Y => PG Y tg g) (h1 : Blks X scope fun Y => PTs Y ifs (tET (zx X) q.mute c)) (h2 : Blks X scope fun Y => PE Y elt (tE (zx X) q.mute e)) (hs : ∀ x, foldedSetIterable iter X.env x = pure x := by intro _; rfl) : EEO X q (.ListComp elt [⟨tg, iter, ifs, 0⟩] scope pos) (eLc (own.map (·.2)) src t c e) :=
  (pe_lc hc hN hi ok hg h1 h2 hs).weak fun _ _ _ h => lc_E ht hv h
/-- name = [e for ..] on one line -/
theorem ss_lcE {i : Nat} {y : Str} {src : Sl → Res (List Yd)} {c : Sl → Res Bool} {e : Sl → Res D} (hc : X.calm = true) (hN : X.N.Nodup) (hy : X.N[i]? = some y) (hyl : X.env.scope.names.lookup y = some .local) (hsw : swapsWith (.ListComp elt [⟨tg, iter, ifs, 0⟩] scope pos) (some (.Name y py)) spos.line X.env = pure true)
    (ok : BlkOk X.N X.env.scope scope own) (ht : TgOk (zx X) g is t) (hv : ∀ j ∈ is, j ∈ own.map (·.2)) (hi : EI X q tg iter src) (hg : Blks X scope fun Y => PG Y tg g) (h1 : Blks X scope fun Y => PTs Y ifs (tET (zx X) q.mute c)) (h2 : Blks X scope fun Y => PE Y elt (tE (zx X) q.mute e))
    (hs : ∀ x, foldedSetIterable iter X.env x = pure x := by intro _; rfl) : SS X q (.Assign [.Name y py] (.ListComp elt [⟨tg, iter, ifs, 0⟩] scope pos) spos) (sSetO i (eLc (own.map (·.2)) src t c e)) :=
  (ps_setLc hc hN hy hyl hsw hi ok hg h1 h2 hs).weak fun E σ H ⟨F, G, η, R, hf⟩ => lc_E ht hv ⟨F, G, η, R, (sE_inv (σ := σ) (H := H) hf).mono fun o η1 G1 H1 M1 R1 hf p np gp fp _ w => by
    unfold setO at hf
    split at hf
    · rename_i hl
      exact hf _ G1 H1 (R1.setOwn' hl np gp fp w) (Same.refl _)
    · exact hf.elim⟩
theorem ss_lcP {i : Nat} {y : Str} {src : Sl → Option (List Yd)} {c : Sl → Option Bool} {e : Sl → Option Pv} (hc : X.calm = true) (hN : X.N.Nodup) (hy : X.N[i]? = some y) (hyl : X.env.scope.names.lookup y = some .local) (hsw : swapsWith (.ListComp elt [⟨tg, iter, ifs, 0⟩] scope pos) (some (.Name y py)) spos.line X.env = pure true)
    (ok : BlkOk X.N X.env.scope scope own) (ht : TgOk (zx X) g is t) (hv : ∀ j ∈ is, j ∈ own.map (·.2)) (hi : EIp X tg iter src) (hg : Blks X scope fun Y => PG Y tg g) (h1 : Blks X scope fun Y => PTs Y ifs (tPT (zx X) c)) (h2 : Blks X scope fun Y => PE Y elt (tP (zx X) e))
    (hs : ∀ x, foldedSetIterable iter X.env x = pure x := by intro _; rfl) : SS X q (.Assign [.Name y py] (.ListComp elt [⟨tg, iter, ifs, 0⟩] scope pos) spos) (sSetO i (eoP (oLc (own.map (·.2)) src t c e))) :=
  (ps_setLc hc hN hy hyl hsw hi ok hg h1 h2 hs).weak fun E σ H ⟨F, G, η, R, hf⟩ => by
    obtain ⟨x, hx, k⟩ := Rsp.ofO R (sE_inv (σ := σ) (H := H) hf)
    refine lc_P ht hv ⟨F, G, η, x, R, hx, fun p G1 H1 S hp gp w => ?_⟩
    have hf := k G1 H1 S
    unfold setO at hf
    split at hf
    · rename_i hl
      exact hf _ G1 H1 ((R.step S).setOwn' hl (R.notOwned hp) gp (R.fnone hp) w) (Same.refl _)
    · exact hf.elim
end
end HM

set_option Elab.async false
set_option linter.all false
set_option maxRecDepth 100000
set_option maxHeartbeats 4000000
set_option autoImplicit false
/-! HN: chains, isinstance, truth, extend, ranges as lists, dicts of one's own. -/
namespace HM
open PySem PySem.Spec PyProof.Rows L2
/-! ### a < b < c -/
def pCh (g g' : Pv → Pv → Option Pv) (fa fb fc : Sl → Option Pv) : Sl → Option Pv := fun η => (fa η).bind fun x => (fb η).bind fun y => ((g x y).bind isB).bind fun k => if k = true then (fc η).bind fun z => g' y z else some (.d (.bool false))
section
variable {X : Cx} {q : Qx} {a b c e : Expr} {pos : Pos} {fa fb fc : Sl → Option Pv} {op op' : CmpOp} {r r' : R2} {g g' : Pv → Pv → Option Pv}
theorem chP {Z : Zx} (hg : POp2 Z r g) (hg' : POp2 Z r' g') {σ : Sta} {H : Hp} {Q : VK} (h : tP Z (pCh g g' fa fb fc) σ H Q) : tChain r r' (tP Z fa) (tP Z fb) (tP Z fc) σ H Q := by
  obtain ⟨F, G, η, z, R, hf, k⟩ := h
  obtain ⟨x, hx, hf⟩ := Option.bind_eq_some_iff.mp hf
  obtain ⟨y, hy, hf⟩ := Option.bind_eq_some_iff.mp hf
  obtain ⟨c, hc, hf⟩ := Option.bind_eq_some_iff.mp hf
  obtain ⟨w, hw, hc⟩ := Option.bind_eq_some_iff.mp hc
  refine ⟨F, G, η, x, R, hx, fun v G1 H1 S1 r1 => ⟨F, G1, η, y, R.step S1, hy, fun u G2 H2 S2 r2 => ?_⟩⟩
  refine hg G2 H2 v u x y w S2.gh (r1.mono S2.g S2.h) r2 hw _ fun t G3 H3 S3 r3 => ⟨c, isB_inv r3 hc, ?_⟩
  cases c with
  | false => cases hf; exact k _ G3 H3 ((S1.trans S2).trans S3) (Dq.bl false)
  | true =>
    obtain ⟨s, hs, hf⟩ := Option.bind_eq_some_iff.mp hf
    exact ⟨F, G3, η, s, ((R.step S1).step S2).step S3, hs, fun u' G4 H4 S4 r4 => hg' G4 H4 u u' y s z S4.gh ((r2.mono S3.g S3.h).mono S4.g S4.h) r4 hf Q fun o G5 H5 S5 r5 => k o G5 H5 ((((S1.trans S2).trans S3).trans S4).trans S5) r5⟩
theorem ep_chain (ho : OpR X (compareOp op) r) (hg : POp2 (zx X) r g) (ho' : OpR X (compareOp op') r') (hg' : POp2 (zx X) r' g') (ha : EP X a fa) (hb : EP X b fb) (hc : EP X c fc) (hm : lastMarks [op, op'] [b, c] = false := by with_unfolding_all rfl) : EP X (.Compare a [op, op'] [b, c] pos) (pCh g g' fa fb fc) :=
  (pe_chain ho ho' ha hb hc hm).weak fun _ _ _ h => chP hg hg' h
theorem et_chain (ho : OpR X (compareOp op) r) (hg : POp2 (zx X) r g) (ho' : OpR X (compareOp op') r') (hg' : POp2 (zx X) r' g') (ha : EP X a fa) (hb : EP X b fb) (hc : EP X c fc) (hm : lastMarks [op, op'] [b, c] = false := by with_unfolding_all rfl) : ET X (.Compare a [op, op'] [b, c] pos) (tB1 (pCh g g' fa fb fc)) :=
  (pt_chain ho ho' ha hb hc hm).weak fun σ H Q ⟨F, G, η, z, R, hf, k⟩ => by
    obtain ⟨x, hx, hb⟩ := Option.bind_eq_some_iff.mp hf
    exact chP hg hg' ⟨F, G, η, x, R, hx, fun v G' H' S r' => ⟨z, isB_inv r' hb, k G' H' S⟩⟩
end
/-! ### isinstance -/
def tyD : Pv → Option String
  | .d .none => some "NoneType"
  | .d (.bool _) => some "bool"
  | .d (.int _) => some "int"
  | .d (.str _) => some "str"
  | .d (.list _) => some "list"
  | .d (.tuple _) => some "tuple"
  | .o (.lst _) => some "list"
  | .o (.dK _) => some "dict"
  | _ => none
def gIsi (T : String) (a : Pv) : Option Pv := (tyD a).bind fun t => (kitB t T).bind fun b => some (.d (.bool b))
theorem tyD_inv {Z : Zx} {G H : Hp} {v : V} {a : Pv} {t : String} (s : Same G H) (r : PvR Z G H v a) (h : tyD a = some t) : TyX Z.K H v (.type t) := by
  have L : ∀ {p : Addr} {vs : List V}, SqL Z.K H p vs → TyX Z.K H (.ref p) (.type "list") := fun {p vs} q => by
    rcases q with q | ⟨o, its, n, h1, h2, _⟩
    · rcases q with q | ⟨o, q⟩
      · exact .base (.lst q)
      · exact .base (.frz q)
    · exact .kList h1 h2
  cases a with
  | d x =>
    cases r with
    | non => cases h; exact .base .non
    | bl b => cases h; exact .base (.bl b)
    | int i => cases h; exact .base (.int i)
    | str x => cases h; exact .base (.str x)
    | lst h1 _ => cases h; exact L (s.seq h1)
    | tup h1 _ => cases h; obtain ⟨o, h1, _⟩ := h1; exact .fTuple (s _ _ h1)
  | o x =>
    obtain ⟨p, rfl, w⟩ := r
    cases x with
    | lst ds => cases h; obtain ⟨vs, w1, _⟩ := w; exact .base (.lst w1)
    | dK ds => cases h; obtain ⟨vs, w1, _⟩ := w; exact .base (.dK w1)
    | dT ds => cases h
section
variable {X : Cx} {q : Qx} {a : Expr} {p p2 pos : Pos} {T x : Str} {fa : Sl → Option Pv} {n : String}
theorem ep_isi (hT : PE X (.Name x p2) (tC (.ty n))) (gl : Gl X "isinstance") (hm : X.mg "isinstance" = none) (ha : EP X a fa) (hs : starEach [a, .Name x p2] X.env = (false, eval a X.env) :: starEach [.Name x p2] X.env := by rfl) (hs2 : starEach [.Name x p2] X.env = (false, eval (.Name x p2) X.env) :: starEach [] X.env := by rfl)
    (hpl : (backTo pos (starEach [.Name x p2] X.env)).any (·.1) = false := by rfl) : EP X (.Call (.Name "isinstance" p) [a, .Name x p2] [] pos) (p1 (gIsi n) fa) :=
  (pe_callB call_isi gl hm boot_isinstance (pa_cons ha (pa_cons hT pa_nil hs2) hs) (by decide) (by decide) hs hpl).weak fun σ H Q ⟨F, G, η, z, R, hf, k⟩ => by
    obtain ⟨y, hy, hf⟩ := Option.bind_eq_some_iff.mp hf
    obtain ⟨t, ht, hf⟩ := Option.bind_eq_some_iff.mp hf
    obtain ⟨b, hb, hf⟩ := Option.bind_eq_some_iff.mp hf
    cases hf
    exact ⟨F, G, η, y, R, hy, fun v G1 H1 S1 r1 => ⟨v, _, _, _, b, rfl, .ty n, tyD_inv S1.gh r1 ht, kit_ty hb, k _ G1 H1 S1 (Dq.bl b)⟩⟩
end
@[simp] theorem kit_ii : kitB "int" "int" = some true := rfl
@[simp] theorem kit_bi : kitB "bool" "int" = some true := by decide +kernel
@[simp] theorem kit_ib : kitB "int" "bool" = some false := by decide +kernel
@[simp] theorem kit_bb : kitB "bool" "bool" = some true := rfl

/-! ### truth -/
def truD : Pv → Option Bool
  | .d .none => some false
  | .d (.bool b) => some b
  | .d (.int i) => some (i != 0)
  | .d (.str z) => if z.length ≤ 16777216 then some ((z.length : Int) != 0) else none
  | .d (.list ds) => some (!ds.isEmpty)
  | .d (.tuple ds) => some (!ds.isEmpty)
  | .o (.lst ds) => some (!ds.isEmpty)
  | .o (.dK kvs) => some (!kvs.isEmpty)
  | _ => none
theorem DqAll.emp {K : PySem.W.Frag} {G : Hp} {vs : List V} {ds : List D} (r : DqAll K G vs ds) : (!ds.isEmpty) = !vs.isEmpty := by cases r <;> rfl
theorem truD_inv {Z : Zx} {G H : Hp} {v : V} {a : Pv} {k : Bool} (s : Same G H) (r : PvR Z G H v a) (h : truD a = some k) : TruV Z.K v H k := by
  cases a with
  | d x =>
    cases r with
    | non => cases h; exact rfl
    | bl b => cases h; exact rfl
    | int i => cases h; exact rfl
    | str x =>
      have h : (if x.length ≤ 16777216 then some ((x.length : Int) != 0) else none) = some k := h
      split at h
      · rename_i hz; cases h; exact ⟨by rw [line_eq]; exact hz, rfl⟩
      · cases h
    | lst h1 h2 => cases h; exact .inl ⟨_, s.seq h1, h2.emp⟩
    | tup h1 h2 => cases h; exact .inr (.inl ⟨_, (h1.mono s).sq, h2.emp⟩)
  | o x =>
    obtain ⟨p, rfl, w⟩ := r
    cases x with
    | lst ds => cases h; obtain ⟨vs, w1, w2⟩ := w; exact .inl ⟨vs, SqL.of w1, w2.emp⟩
    | dK ds =>
      cases h
      obtain ⟨vs, w1, w2⟩ := w
      refine .inr (.inr ⟨vs, w1, ?_⟩)
      cases w2 <;> rfl
    | dT ds => cases h
def pOrT (fa fb : Sl → Option Pv) : Sl → Option Pv := fun η => (fa η).bind fun x => (truD x).bind fun k => if k = true then some x else fb η
def eOrT (fa fb : Sl → Res D) : Sl → Res D := fun η => (fa η).bind fun x η1 => (ofO (truD (.d x)) η1).bind fun k η2 => if k = true then .ok x η2 else fb η2
def tTru (fa : Sl → Option Pv) : Sl → Option Bool := fun η => (fa η).bind truD
section
variable {X : Cx} {q : Qx} {a b : Expr} {rest : List Expr} {pos : Pos}
theorem ep_orT {fa fb : Sl → Option Pv} (ha : EP X a fa) (hb : EP X (.BoolOp .Or (b :: rest) pos) fb) : EP X (.BoolOp .Or (a :: b :: rest) pos) (pOrT fa fb) := (pe_orT ha hb).weak fun σ H Q ⟨F, G, η, z, R, hf, k⟩ => by
  obtain ⟨x, hx, hf⟩ := Option.bind_eq_some_iff.mp hf
  obtain ⟨c, hc, hf⟩ := Option.bind_eq_some_iff.mp hf
  refine ⟨F, G, η, x, R, hx, fun v G1 H1 S1 r1 => ⟨c, truD_inv S1.gh r1 hc, ?_⟩⟩
  cases c with
  | true => cases hf; exact k v G1 H1 S1 r1
  | false => exact ⟨F, G1, η, z, R.step S1, hf, fun v G2 H2 S2 r2 => k v G2 H2 (S1.trans S2) r2⟩
theorem ee_orT {fa fb : Sl → Res D} (ha : EE X q a fa) (hb : EE X q (.BoolOp .Or (b :: rest) pos) fb) : EE X q (.BoolOp .Or (a :: b :: rest) pos) (eOrT fa fb) := (pe_orT ha hb).weak fun σ H Q ⟨F, G, η, R, hf⟩ => ⟨F, G, η, R, hf.bnd.mono fun x η1 G1 H1 M1 R1 hf v r1 => by
  obtain ⟨c, hc, k⟩ := Rsp.ofO R1 hf.bnd
  refine ⟨c, truD_inv (a := .d x) R1.gh r1 hc, ?_⟩
  have hk := k G1 H1 (.refl R1.gh)
  cases c with
  | true => exact Rsp.done R1 hk (.refl R1.gh) v r1
  | false => exact ⟨F, G1, η1, R1, hk⟩⟩
theorem et_tru {fa : Sl → Option Pv} (ha : EP X a fa) (he : ∀ whole, isTrue a X.env whole = (do let v ← whole; standAt a.pos; holding [v] (truthy v)) := by intro _; rfl) : ET X a (tTru fa) := (pt_truth ha he).weak fun σ H Q ⟨F, G, η, z, R, hf, k⟩ => by
  obtain ⟨x, hx, hf⟩ := Option.bind_eq_some_iff.mp hf
  exact ⟨F, G, η, x, R, hx, fun v G1 H1 S1 r1 => ⟨z, truD_inv S1.gh r1 hf, k G1 H1 S1⟩⟩
end

/-! ### extend -/
def eXtP (i : Nat) (f : Sl → Option Pv) : Sl → Res D := fun η => match lstAt η i, f η with
  | some ds, some (.o (.lst es)) => if ds.length + es.length ≤ 16777216 then .ok .none (putL η i (ds ++ es)) else .stuck
  | _, _ => .stuck
def eXtO (i : Nat) (f : Sl → Res OD) : Sl → Res D := fun η => match lstAt η i with
  | some _ => (f η).bind fun o η1 => (match lstAt η1 i, o with
    | some ds, .lst es => if ds.length + es.length ≤ 16777216 then .ok .none (putL η1 i (ds ++ es)) else .stuck
    | _, _ => .stuck)
  | none => .stuck
section
variable {X : Cx} {q : Qx} {e : Expr} {x : Str} {npos apos cpos : Pos} {i : Nat}
theorem ee_xtP {f : Sl → Option Pv} (hv : PE X (.Name x npos) (tVar i)) (ha : EP X e f) (hbase : attributeBase (.Name x npos) "extend" X.env (eval (.Name x npos) X.env) = eval (.Name x npos) X.env := by rfl) (hfew : Fits X e [] cpos := by rfl) (hline : (apos.endLine == cpos.line) = true := by rfl)
    (hs : starEach [e] X.env = (false, eval e X.env) :: starEach [] X.env := by rfl) (hpl : (backTo cpos (starEach [] X.env)).any (·.1) = false := by rfl) : EE X q (.Call (.Attribute (.Name x npos) "extend" apos) [e] [] cpos) (eXtP i f) :=
  (pe_bm PySem.F.plainAttrs_list PySem.F.slot_list_extend PySem.F.type_list_extend mt_extend hv (pa_cons ha pa_nil hs) hbase hfew hline hs hpl).weak fun σ H Q ⟨F, G, η, R, hf⟩ => by
    unfold eXtP at hf
    split at hf
    · rename_i ds es e1 e2
      split at hf
      · rename_i hz
        obtain ⟨p, vs, h1, h2, h3, ho, _⟩ := lst_at R e1
        refine ⟨_, h1, .inl ⟨rfl, vs, SqL.of h2⟩, F, G, η, _, R, e2, fun v G1 H1 S1 ⟨b, hb, ws, w1, w2⟩ => ?_⟩
        subst hb
        obtain ⟨p', vs', g1, g2, g3, _, g5⟩ := lst_at (R.step S1) e1
        rw [h1] at g1; cases g1
        obtain ⟨R2, M2⟩ := g5 (vs' ++ ws) (ds ++ es) (g3.app w2)
        exact ⟨p, b, vs', ws, rfl, rfl, g2, w1, by rw [g3.len, w2.len, line_eq]; exact hz, hf G1 _ ((Mov.step S1).trans M2) R2 _ .non⟩
      · exact hf.elim
    · exact hf.elim
theorem ee_xtO {f : Sl → Res OD} (hv : PE X (.Name x npos) (tVar i)) (ha : EEO X q e f) (hbase : attributeBase (.Name x npos) "extend" X.env (eval (.Name x npos) X.env) = eval (.Name x npos) X.env := by rfl) (hfew : Fits X e [] cpos := by rfl) (hline : (apos.endLine == cpos.line) = true := by rfl)
    (hs : starEach [e] X.env = (false, eval e X.env) :: starEach [] X.env := by rfl) (hpl : (backTo cpos (starEach [] X.env)).any (·.1) = false := by rfl) : EE X q (.Call (.Attribute (.Name x npos) "extend" apos) [e] [] cpos) (eXtO i f) :=
  (pe_bm PySem.F.plainAttrs_list PySem.F.slot_list_extend PySem.F.type_list_extend mt_extend hv (pa_cons ha pa_nil hs) hbase hfew hline hs hpl).weak fun σ H Q ⟨F, G, η, R, hf⟩ => by
    unfold eXtO at hf
    split at hf
    · rename_i ds0 e1
      obtain ⟨p, vs, h1, h2, h3, ho, _⟩ := lst_at R e1
      refine ⟨_, h1, .inl ⟨rfl, vs, SqL.of h2⟩, F, G, η, R, hf.bnd.mono fun o η1 G1 H1 M1 R1 hf b np gp fp hb w => ?_⟩
      split at hf
      · rename_i ds es e2
        split at hf
        · rename_i hz
          obtain ⟨ws, w1, w2⟩ := w
          obtain ⟨p', vs', g1, g2, g3, _, g5⟩ := lst_at R1 e2
          rw [h1] at g1; cases g1
          obtain ⟨R2, M2⟩ := g5 (vs' ++ ws) (ds ++ es) (g3.app w2)
          exact ⟨p, b, vs', ws, rfl, rfl, g2, w1, by rw [g3.len, w2.len, line_eq]; exact hz, hf G1 _ M2 R2 _ .non⟩
        · exact hf.elim
      · exact hf.elim
    · exact hf.elim
end

/-! ### list(range(..)), tuple(range(..)) -/
noncomputable def rgL (i j : Int) : Option (List D) := @ite _ (RgOk i j) (Classical.propDecidable _) (some (rgD i (j - i).toNat)) none
noncomputable def rg1 (a : Pv) : Option (List D) := (intOf a).bind fun j => rgL 0 j
noncomputable def rg2 (a b : Pv) : Option (List D) := (intOf a).bind fun i => (intOf b).bind fun j => rgL i j
theorem rgL_inv {i j : Int} {ds : List D} (h : rgL i j = some ds) : RgOk i j ∧ ds = rgD i (j - i).toNat := by
  unfold rgL at h
  split at h
  · rename_i hc; cases h; exact ⟨hc, rfl⟩
  · cases h
theorem dqAll_map {K : PySem.W.Frag} {G : Hp} {α : Type} (f : α → V) (g : α → D) (h : ∀ a, Dq K G (f a) (g a)) : ∀ l : List α, DqAll K G (l.map f) (l.map g)
  | [] => .nil
  | a :: l => .cons (h a) (dqAll_map f g h l)
theorem rg_dq {K : PySem.W.Frag} {G : Hp} (i j : Int) : DqAll K G (rgV i j) (rgD i (j - i).toNat) := dqAll_map _ _ (fun k => .int _) _
noncomputable def oRg1 (f : Sl → Option Pv) : Sl → Option OD := fun η => (f η).bind fun x => (rg1 x).map .lst
noncomputable def oRg2 (f g : Sl → Option Pv) : Sl → Option OD := fun η => (f η).bind fun x => (g η).bind fun y => (rg2 x y).map .lst
noncomputable def pTg1 (f : Sl → Option Pv) : Sl → Option Pv := fun η => (f η).bind fun x => (rg1 x).map fun ds => .d (.tuple ds)
noncomputable def pTg2 (f g : Sl → Option Pv) : Sl → Option Pv := fun η => (f η).bind fun x => (g η).bind fun y => (rg2 x y).map fun ds => .d (.tuple ds)
section
variable {X : Cx} {a b : Expr} {p p1 p2 pos : Pos} {fa fb : Sl → Option Pv}
abbrev One (X : Cx) (e : Expr) : Prop := starEach [e] X.env = (false, eval e X.env) :: starEach [] X.env
theorem eo_rg1 (hc : X.calm = true) (gl : Gl X "list") (hl : X.mg "list" = none) (gr : Gl X "range") (hr : X.mg "range" = none) (ha : EP X a fa) (n1 : One X a := by rfl) (n2 : One X (.Call (.Name "range" p1) [a] [] p2) := by rfl) : EO X (.Call (.Name "list" p) [.Call (.Name "range" p1) [a] [] p2] [] pos) (oRg1 fa) :=
  (pe_listRg hc gl hl (prg_1 gr hr ha n1) n2).weak fun σ H Q ⟨F, G, η, z, R, hf, k⟩ => by
    obtain ⟨x, hx, hf⟩ := Option.bind_eq_some_iff.mp hf
    obtain ⟨ds, hd, rfl⟩ := Option.map_eq_some_iff.mp hf
    obtain ⟨j, hj, hd⟩ := Option.bind_eq_some_iff.mp hd
    obtain ⟨ok, rfl⟩ := rgL_inv hd
    refine ⟨F, G, η, x, R, hx, fun v G1 H1 S1 r1 => ⟨j, r1.int hj, ok, fun l hl => ?_⟩⟩
    obtain ⟨S, gp, o⟩ := lst_step (Z := zx X) S1.gh (rg_dq 0 j) hl
    exact k l _ _ (S1.trans S) (S1.h.free hl) gp o
theorem eo_rg2 (hc : X.calm = true) (gl : Gl X "list") (hl : X.mg "list" = none) (gr : Gl X "range") (hr : X.mg "range" = none) (ha : EP X a fa) (hb : EP X b fb) (na : starEach [a, b] X.env = (false, eval a X.env) :: starEach [b] X.env := by rfl) (nb : One X b := by rfl)
    (hp : (backTo p2 (starEach [b] X.env)).any (·.1) = false := by rfl) (n2 : One X (.Call (.Name "range" p1) [a, b] [] p2) := by rfl) : EO X (.Call (.Name "list" p) [.Call (.Name "range" p1) [a, b] [] p2] [] pos) (oRg2 fa fb) :=
  (pe_listRg hc gl hl (prg_2 gr hr ha hb na nb hp) n2).weak fun σ H Q ⟨F, G, η, z, R, hf, k⟩ => by
    obtain ⟨x, hx, hf⟩ := Option.bind_eq_some_iff.mp hf
    obtain ⟨y, hy, hf⟩ := Option.bind_eq_some_iff.mp hf
    obtain ⟨ds, hd, rfl⟩ := Option.map_eq_some_iff.mp hf
    obtain ⟨i, hi, hd⟩ := Option.bind_eq_some_iff.mp hd
    obtain ⟨j, hj, hd⟩ := Option.bind_eq_some_iff.mp hd
    obtain ⟨ok, rfl⟩ := rgL_inv hd
    refine ⟨F, G, η, x, R, hx, fun v G1 H1 S1 r1 => ⟨F, G1, η, y, R.step S1, hy, fun u G2 H2 S2 r2 => ⟨i, j, r1.int hi, r2.int hj, ok, fun l hl => ?_⟩⟩⟩
    obtain ⟨S, gp, o⟩ := lst_step (Z := zx X) S2.gh (rg_dq i j) hl
    exact k l _ _ ((S1.trans S2).trans S) (S1.h.free (S2.h.free hl)) gp o
theorem ep_tg1 (hc : X.calm = true) (gl : Gl X "tuple") (hl : X.mg "tuple" = none) (gr : Gl X "range") (hr : X.mg "range" = none) (ha : EP X a fa) (n1 : One X a := by rfl) (n2 : One X (.Call (.Name "range" p1) [a] [] p2) := by rfl) : EP X (.Call (.Name "tuple" p) [.Call (.Name "range" p1) [a] [] p2] [] pos) (pTg1 fa) :=
  (pe_tupRgF hc gl hl (prg_1 gr hr ha n1) n2).weak fun σ H Q ⟨F, G, η, z, R, hf, k⟩ => by
    obtain ⟨x, hx, hf⟩ := Option.bind_eq_some_iff.mp hf
    obtain ⟨ds, hd, rfl⟩ := Option.map_eq_some_iff.mp hf
    obtain ⟨j, hj, hd⟩ := Option.bind_eq_some_iff.mp hd
    obtain ⟨ok, rfl⟩ := rgL_inv hd
    exact ⟨F, G, η, x, R, hx, fun v G1 H1 S1 r1 => ⟨j, r1.int hj, ok, newT_of (Z := zx X) S1.gh (rg_dq 0 j) fun z G' H' S r => k z G' H' (S1.trans S) r⟩⟩
theorem ep_tg2 (hc : X.calm = true) (gl : Gl X "tuple") (hl : X.mg "tuple" = none) (gr : Gl X "range") (hr : X.mg "range" = none) (ha : EP X a fa) (hb : EP X b fb) (na : starEach [a, b] X.env = (false, eval a X.env) :: starEach [b] X.env := by rfl) (nb : One X b := by rfl)
    (hp : (backTo p2 (starEach [b] X.env)).any (·.1) = false := by rfl) (n2 : One X (.Call (.Name "range" p1) [a, b] [] p2) := by rfl) : EP X (.Call (.Name "tuple" p) [.Call (.Name "range" p1) [a, b] [] p2] [] pos) (pTg2 fa fb) :=
  (pe_tupRgF hc gl hl (prg_2 gr hr ha hb na nb hp) n2).weak fun σ H Q ⟨F, G, η, z, R, hf, k⟩ => by
    obtain ⟨x, hx, hf⟩ := Option.bind_eq_some_iff.mp hf
    obtain ⟨y, hy, hf⟩ := Option.bind_eq_some_iff.mp hf
    obtain ⟨ds, hd, rfl⟩ := Option.map_eq_some_iff.mp hf
    obtain ⟨i, hi, hd⟩ := Option.bind_eq_some_iff.mp hd
    obtain ⟨j, hj, hd⟩ := Option.bind_eq_some_iff.mp hd
    obtain ⟨ok, rfl⟩ := rgL_inv hd
    exact ⟨F, G, η, x, R, hx, fun v G1 H1 S1 r1 => ⟨F, G1, η, y, R.step S1, hy, fun u G2 H2 S2 r2 => ⟨i, j, r1.int hi, r2.int hj, ok, newT_of (Z := zx X) S2.gh (rg_dq i j) fun z G' H' S r => k z G' H' ((S1.trans S2).trans S) r⟩⟩⟩
end
end HM

set_option Elab.async false
set_option linter.all false
set_option maxRecDepth 100000
set_option maxHeartbeats 4000000
set_option autoImplicit false
/-! HO: dicts of one's own: {}, d[k], d[k] = v. -/
namespace HM
open PySem PySem.Spec PyProof.Rows L2
/-! ### d[k] -/
def rIxK : R2 := fun x y H Q => ∃ a kvs k v, x = .ref a ∧ y = kV k ∧ H a = some (.dK kvs) ∧ valV kvs k = some v ∧ Q v H
def rIxDT (P : Program) (w : World) : R2 := fun x y H Q => ∃ a b ws k v, x = .ref a ∧ y = .ref b ∧ H a = some (DTo P w a ws) ∧ TupO H b (k.map kV) ∧ (∀ e ∈ ws, TupO H e.2.1 (e.1.map kV)) ∧ valV (kvT ws) k = some v ∧ Q v H
section
variable {X : Cx}
theorem ix_K (hu : X.A.units + 1 < cLine) : IxR X rIxK := by
  rintro value slice pins s σ H x y v u Q I rx ry ⟨a, kvs, k, z, rfl, rfl, ha, hv, q⟩ hs
  cases rx
  obtain ⟨_, _, vs, _, dd⟩ := dk_of I.hok ha
  exact tail_any dd.typeIs PySem.F.slot_dict_getitem.lookup (d_getItem hu I (by rw [← hv]; exact DGet.k ha) ry fun w' s' J r => ⟨z, H, J, r, q⟩) hs
theorem ix_DT (hu : X.A.units + 1 < cLine) : IxR X (rIxDT X.prog X.w) := by
  rintro value slice pins s σ H x y v u Q I rx ry ⟨a, b, ws, k, z, rfl, rfl, ha, hb, hk, hv, q⟩ hs
  cases rx
  cases ry
  obtain ⟨h1, h2, vs, rr, dd⟩ := dTo_h I ha hk
  have g := vt_get rr k
  rw [hv] at g
  obtain ⟨w', hw, rw'⟩ := RelO.some_of g
  obtain ⟨p, hp, hp2⟩ := Option.map_eq_some_iff.mp hw
  refine tail_any dd.typeIs PySem.F.slot_dict_getitem.lookup (wpAny_getItem_heap (tupleKind_room_in1 hu) (key_tup I hb) dd hp ?_) hs
  rw [hp2]
  exact ⟨z, H, I.tok _, rw', q⟩
end
def rIxA (Z : Zx) : R2 := fun x y H Q => rIx Z.K x y H Q ∨ (rIxK x y H Q ∨ rIxDT Z.P Z.w x y H Q)
theorem ix_A {X : Cx} (hu : X.A.units + 1 < cLine) : IxR X (rIxA (zx X)) := ix_seq.or ((ix_K hu).or (ix_DT hu))
/-- a[b], of whatever -/
def gIxA (a b : Pv) : Option Pv := match a with
  | .o (.dK kvs) => (datOf b).bind fun d => (keyD d).bind fun k => (dGet kvs k).map .d
  | .o (.dT kvs) => (tupOf b).bind fun ds => (keysD ds).bind fun k => (dGet kvs k).map .d
  | a => gIx a b
theorem pg_ixA {Z : Zx} : POp2 Z (rIxA Z) gIxA := fun G H x y a b c s ra rb hg Q k => by
  unfold gIxA at hg
  split at hg
  · obtain ⟨d, h1, hg⟩ := Option.bind_eq_some_iff.mp hg
    obtain ⟨ky, h2, hg⟩ := Option.bind_eq_some_iff.mp hg
    obtain ⟨z, h3, rfl⟩ := Option.map_eq_some_iff.mp hg
    obtain ⟨p, rfl, ws, q, w⟩ := ra
    have g := kv_get w ky
    rw [h3] at g
    obtain ⟨v, g1, g2⟩ := g
    exact .inr (.inl ⟨p, ws, ky, v, rfl, keyD_inv (datOf_inv rb h1) h2, q, g1, k v G H (.refl s) g2⟩)
  · obtain ⟨d, h1, hg⟩ := Option.bind_eq_some_iff.mp hg
    obtain ⟨ky, h2, hg⟩ := Option.bind_eq_some_iff.mp hg
    obtain ⟨z, h3, rfl⟩ := Option.map_eq_some_iff.mp hg
    obtain ⟨p, rfl, ws, q, w⟩ := ra
    obtain ⟨pb, vs, rfl, t, tw⟩ := rb.sqt h1
    rw [keysD_inv tw h2] at t
    have g := kv_get w.kv ky
    rw [h3] at g
    obtain ⟨v, g1, g2⟩ := g
    exact .inr (.inr ⟨p, pb, ws, ky, v, rfl, rfl, q, t.mono s, KtR.keys s w, g1, k v G H (.refl s) g2⟩)
  · exact .inl (pg_ix G H x y a b c s ra rb hg Q k)
section
variable {X : Cx} {q : Qx} {a b : Expr} {pos : Pos}
theorem ep_ixA {fa fb : Sl → Option Pv} (hu : X.A.units + 1 < cLine) (ha : EP X a fa) (hb : EP X b fb) (hs : PlainIx b) : EP X (.Subscript a b pos) (p2 gIxA fa fb) := (pe_ix (ix_A hu) ha hb hs).weak fun _ _ _ h => two pg_ixA h
end

/-! ### one's own object, of any kind -/
def odAt (η : Sl) (i : Nat) : Option OD := match η[i]? with
  | some (.own o) => some o
  | some (.mu o) => some o
  | _ => none
def putO (η : Sl) (i : Nat) (o : OD) : Sl := match η[i]? with
  | some (.mu _) => η.set i (.mu o)
  | _ => η.set i (.own o)
theorem od_at {Z : Zx} {F : Fx} {G H : Hp} {σ : Sta} {η : Sl} (R : Rep Z F G H σ η) {i : Nat} {o : OD} (h : odAt η i = some o) : ∃ p, σ[i]? = some (some (.ref p)) ∧ OwnR Z G H p o ∧ Owned σ η p ∧
    ∀ ho o', OwnR Z G (upd H p ho) p o' → Rep Z F G (upd H p ho) σ (putO η i o') ∧ Mov σ η G H (putO η i o') G (upd H p ho) := by
  unfold odAt at h
  split at h
  · rename_i e
    cases h
    obtain ⟨p, h1, h2, h3, h4⟩ := R.sl i _ e
    refine ⟨p, h1, h4, ⟨i, _, e, rfl, h1⟩, fun ho o' w => ?_⟩
    have ep : putO η i o' = η.set i (.own o') := by unfold putO; rw [e]
    rw [ep]
    exact ⟨R.write e rfl h1 (.inl ⟨_, _, rfl, rfl, w⟩), Mov.write e rfl h1⟩
  · rename_i e
    cases h
    obtain ⟨p, h1, h2, h3, h4⟩ := R.sl i _ e
    refine ⟨p, h1, h4, ⟨i, _, e, rfl, h1⟩, fun ho o' w => ?_⟩
    have ep : putO η i o' = η.set i (.mu o') := by unfold putO; rw [e]
    rw [ep]
    exact ⟨R.write e rfl h1 (.inr ⟨_, _, rfl, rfl, w⟩), Mov.write e rfl h1⟩
  · cases h
/-! ### {} -/
theorem dTo_new {P : Program} {w : World} {H' : Hp} {h' : Heap} {a : Addr} {ws : List (List Key × Addr × V)} {vs : List (List Key × Addr × Value)} (z : ws.length ≤ sizeLine) (hd : (a == sysModules) = false) (r : VtR ws vs) (dd : h'.DictOfH (tupleKind (mixKind P w)) a vs) : ObjOk P w H' h' a (DTo P w a ws) := by
  obtain ⟨o, es, ep, h1, h2, h3, h4, _, h5⟩ := dd
  refine ⟨⟨hd, z, vs, r, o, es, ep, h1, h2, h3, h4, h5⟩, ⟨o, h1⟩, fun h1' h2' φ k => ?_⟩
  obtain ⟨g0, g1, vs', g2, o', es', ep', g3, g4⟩ := φ
  exact ⟨g0, g1, vs', g2, o', es', ep', k _ g3, g4⟩
def tDnewT (P : Program) (w : World) : TE := fun _ H Q => ∀ p, H p = none → Q (.ref p) (upd H p (DTo P w p []))
def oNewK : Sl → Option OD := fun _ => some (.dK [])
def oNewT : Sl → Option OD := fun _ => some (.dT [])
section
variable {X : Cx} {q : Qx} {pos : Pos}
theorem pe_newT : PE X (.Dict [] [] pos) (tDnewT X.prog X.w) := ⟨fun pins s σ H Q I h => wpAny_Dict_empty
  ⟨.ref s.heap.objs.size, _, I.laid (a := s.heap.objs.size) (t' := s.toks) (fun _ _ z => Heap.get?_push_of_some _ z) (Nat.le_refl _) (dTo_new (ws := []) (vs := []) (Nat.zero_le _) (beq_eq_false_iff_ne.mpr (Ne.symm (Nat.ne_of_lt I.big))) .nil (Heap.DictOfH.new s.heap)), rfl, h _ I.fresh⟩⟩
theorem eo_newK : EO X (.Dict [] [] pos) oNewK := pe_dnewK.weak fun σ H Q ⟨F, G, η, z, R, hf, k⟩ p hp => by
  cases hf
  exact k p G _ (.alloc R.gh hp) hp (R.gh.free hp) ⟨[], upd_same, .nil⟩
theorem eo_newT : EO X (.Dict [] [] pos) oNewT := pe_newT.weak fun σ H Q ⟨F, G, η, z, R, hf, k⟩ p hp => by
  cases hf
  exact k p G _ (.alloc R.gh hp) hp (R.gh.free hp) ⟨[], upd_same, .nil⟩
end
/-! ### d[k] = v -/
def rSetDT (P : Program) (w : World) : TSet := fun o i v H Q => ∃ a b ws k, o = .ref a ∧ i = .ref b ∧ H a = some (DTo P w a ws) ∧ TupO H b (k.map kV) ∧ (∀ e ∈ ws, TupO H e.2.1 (e.1.map kV)) ∧ ws.length < sizeLine ∧ Q (upd H a (DTo P w a (putT ws k b v)))
def rSetDU (P : Program) (w : World) : TSet := fun o i v H Q => rSetD o i v H Q ∨ rSetDT P w o i v H Q
theorem set_DU {X : Cx} (hu : X.A.units + 1 < cLine) : PSet X (rSetDU X.prog X.w) := by
  intro pins s σ H o i v ov iv u Q I ro ri rv h
  rcases h with h | ⟨a, b, ws, k, rfl, rfl, ha, hb, hk, hl, q⟩
  · exact set_dict hu pins s σ H o i v ov iv u Q I ro ri rv h
  · cases ro
    cases ri
    obtain ⟨h1, h2, vs, rr, dd⟩ := dTo_h I ha hk
    have hz : vs.length ≤ sizeLine := by rw [← Paired.length rr]; exact h2
    refine wpAny_setItem_heap (hsz := hz) (tupleKind_room_in1 hu) (key_tup I hb) dd fun h' dd' hs => ?_
    have hl' : (putT ws k b v).length ≤ sizeLine := Nat.le_trans (putT_len ws k b v) hl
    have he : ∃ z, h'.get? a = some z := let ⟨z, _, _, hz, _⟩ := dd'; ⟨z, hz⟩
    exact ⟨_, d_write I (by rw [ha]; exact True.intro) hs he (dTo_new hl' h1 (vt_put rr k b rv) dd'), q⟩
/-- what d is behind d[k] = v -/
def dPutO : OD → D → D → Option OD
  | .dK kvs, k, v => (keyD k).bind fun k => if kvs.length < 16777216 then some (.dK (dPut kvs k v)) else none
  | .dT kvs, .tuple ks, v => (keysD ks).bind fun k => if kvs.length < 16777216 then some (.dT (dPut kvs k v)) else none
  | _, _, _ => none
def isDict : OD → Bool
  | .lst _ => false
  | _ => true
def sPutD (i : Nat) (fx fv : Sl → Res D) : Sl → RS := sE fv fun v η1 => match odAt η1 i with
  | some _ => sE fx (fun x η2 => match (odAt η2 i).bind fun o => dPutO o x v with
    | some o => .nx (putO η2 i o)
    | none => .stuck) η1
  | none => .stuck
theorem ss_putD {X : Cx} {q : Qx} {i : Nat} {x : Str} {p1 spos pos : Pos} {ix e : Expr} {fx fv : Sl → Res D} (hu : X.A.units + 1 < cLine) (hv : PE X (.Name x p1) (tVar i)) (hx : EE X q ix fx) (he : EE X q e fv)
    (ha : ∀ v, assign (.Subscript (.Name x p1) ix spos) X.env v = (do
      let ov ← holding [v] (eval (.Name x p1) X.env)
      let iv ← holding [v, ov] (eval ix X.env)
      standAt spos
      holding [v, ov, iv] (setItem ov iv v)
      release [v, ov, iv] []) := by intro _; rfl)
    (hs : swapsWithSole [.Subscript (.Name x p1) ix spos] e pos.line X.env = pure false := by rfl) (hw : swappedStores [.Subscript (.Name x p1) ix spos] e X.env = pure none := by rfl)
    (h1 : (assignEach [.Subscript (.Name x p1) ix spos] X.env).map (·.2) = [assign (.Subscript (.Name x p1) ix spos) X.env] := by rfl) : SS X q (.Assign [.Subscript (.Name x p1) ix spos] e pos) (sPutD i fx fv) :=
  (ps_asg he (L2.pg_sub hv hx (set_DU hu) ha) hs hw h1).weak fun E σ H ⟨F, G, η, R, hf⟩ => ⟨F, G, η, R, (sE_inv (σ := σ) (H := H) hf).mono fun d η1 G1 H1 M1 R1 hf v r1 => by
    split at hf
    · rename_i o1 e1
      obtain ⟨p, h1, h2, _, _⟩ := od_at R1 e1
      refine ⟨_, h1, F, G1, η1, R1, (sE_inv (σ := σ) (H := H1) hf).mono fun k η2 G2 H2 M2 R2 hf iv r2 => ?_⟩
      split at hf
      · rename_i o e2
        obtain ⟨o0, e3, e4⟩ := Option.bind_eq_some_iff.mp e2
        obtain ⟨p', g1, g2, g3, g4⟩ := od_at R2 e3
        rw [h1] at g1; cases g1
        have r1' := Dq.mono M2.g _ _ r1
        cases o0 with
        | lst ds => cases e4
        | dK kvs =>
          obtain ⟨ky, e5, e6⟩ := Option.bind_eq_some_iff.mp e4
          split at e6
          · rename_i hz
            cases e6
            obtain ⟨ws, w1, w2⟩ := g2
            obtain ⟨R3, M3⟩ := g4 (.dK (putK ws ky v)) (.dK (dPut kvs ky d)) ⟨_, upd_same, kv_put w2 ky r1'⟩
            exact .inl ⟨p, _, rfl, by rw [keyD_inv r2 e5]; exact DPut.k w1 (by rw [Paired.length w2, line_eq]; exact hz), hf σ G2 _ R3 (Same.refl _)⟩
          · cases e6
        | dT kvs =>
          cases k with
          | tuple ks =>
            obtain ⟨ky, e5, e6⟩ := Option.bind_eq_some_iff.mp e4
            split at e6
            · rename_i hz
              cases e6
              obtain ⟨ws, w1, w2⟩ := g2
              cases r2 with
              | tup t tw =>
                rw [keysD_inv tw e5] at t
                obtain ⟨R3, M3⟩ := g4 (DTo X.prog X.w p (putT ws ky _ v)) (.dT (dPut kvs ky d)) ⟨_, upd_same, kt_put w2 ky t r1'⟩
                exact .inr ⟨p, _, ws, ky, rfl, rfl, w1, t.mono R2.gh, KtR.keys R2.gh w2, by rw [Paired.length w2, line_eq]; exact hz, hf σ G2 _ R3 (Same.refl _)⟩
            · cases e6
          | _ => cases e4
      · exact hf.elim
    · exact hf.elim⟩
/-! ### what is not come to; a try that nothing leaves -/
theorem ss_never {X : Cx} {q : Qx} {st : Stmt} : SS X q st (fun _ => .stuck) := ps_never.weak fun E σ H ⟨F, G, η, R, hf⟩ => hf
def noExc (f : Sl → RS) : Sl → RS := fun η => match f η with
  | .exc _ _ => .stuck
  | r => r
theorem ss_thru {X : Cx} {q : Qx} {body : List Stmt} {h₀ : ExceptHandler} {hs : List ExceptHandler} {pos : Pos} {f : Sl → RS} (hb : SB X.nox q.mute body f) : SS X q (.Try body (h₀ :: hs) [] [] pos) (noExc f) := (ps_try_thru0 hb).weak fun E σ H ⟨F, G, η, R, hf⟩ => by
  refine ⟨F, G, η, R, ?_⟩
  unfold noExc at hf
  cases e : f η <;> rw [e] at hf <;> first
    | exact hf
    | exact hf.elim
end HM

set_option Elab.async false
set_option linter.all false
set_option maxRecDepth 100000
set_option maxHeartbeats 4000000
set_option autoImplicit false
/-! HP: the end of a law. -/
namespace HM
open PySem PySem.Spec PyProof.Rows L2
/-- what the law's def gives of a script -/
def lawOk (g : List D → FR) (n : Nat) : Prop := ∀ ns : List Int, ns.length ≤ n → g [.list (ns.map .int)] = .ok (.d (.bool true))
theorem lawSp {K : PySem.W.Frag} {P : Program} {w : World} {xr : Xr} {g : List D → FR} {n : Nat} (h : lawOk g n) (H : Hp) (a : Addr) (ns : List Int) (hl : ns.length ≤ n) (hS : SqL K H a (ns.map V.int)) : spF ⟨K, P, w⟩ xr 1 g [.ref a] H (fun v _ => v = .bl true) fun _ _ _ => False := by
  refine ⟨H, [.list (ns.map .int)], Same.refl H, .one (.lst hS (DqAll.ints ns)), rfl, ?_⟩
  rw [h ns hl]
  intro v G' H' _ r
  cases r
  rfl
section
variable {P : Program} {w : World} {K : PySem.W.Frag} {mg mb : Str → Option Value} {k : Nat} {fa a : Addr} {fd : FuncData} {x : Str} {sp : Sp} {s₁ : Shared} {vs : List Value} {ns : List Int}
/-- the heap in which the script alone is known -/
def oneAt (a : Addr) (u : HO) : Hp := fun b => if b = a then some u else none
theorem law_callG (KX : K.In s₁.heap) (gl : s₁.heap.Ns mainGlobals mg) (bl : s₁.heap.Ns builtinsNs mb) (bb : ∀ x : Str, x ≠ "__name__" → mb x = bootBuiltins x) (nl : s₁.heap.NoLimit) (ge : s₁.gens = #[])
    (ha : s₁.heap.get? a = some { cls := .type "list", data := .seq vs.toArray }) (hi : IntsAre vs ns) (hl : ns.length ≤ sizeLine) (hr : Room k callerA)
    (T : ∀ base : Heap, K.In base → base.Ns mainGlobals mg → FnG P w K mg base k fa fd [x] sp) (hb : ∀ (s : Shared) (u : Value), BindsTo s fd ⟨[u], []⟩ [(x, u)])
    (hsp : ∀ H : Hp, Only H → SqL K H a (ns.map V.int) → sp [.ref a] H (fun v _ => v = .bl true) fun _ _ _ => False) :
    codeAny (model P w) callerA (.call (.ref fa) ⟨[.ref a], []⟩) (fun r s' => r = .ok (.ret (.bool true)) ∧ OldK s₁.heap s'.heap ∧ s'.os = s₁.os ∧ AllBare s'.gens) s₁ := by
  have rel := vals_ints hi
  suffices main : ∀ H : Hp, (H = (fun _ => none) ∨ (K.lookup a = none ∧ ∃ o, H = oneAt a (.frz o (.lst (ns.map V.int))))) → SqL K H a (ns.map V.int) → HOk P w H s₁.heap →
      codeAny (model P w) callerA (.call (.ref fa) ⟨[.ref a], []⟩) (fun r s' => r = .ok (.ret (.bool true)) ∧ OldK s₁.heap s'.heap ∧ s'.os = s₁.os ∧ AllBare s'.gens) s₁ by
    cases hk : K.lookup a with
    | some o =>
      have e := (KX a o hk).symm.trans ha
      cases e
      exact main _ (.inl rfl) (.inr ⟨_, _, _, hk, rfl, rfl, rfl, by rw [List.size_toArray, hi.length]; exact hl, by simpa using rel⟩) fun b u z => nomatch z
    | none =>
      refine main (oneAt a (.frz { cls := .type "list", data := .seq vs.toArray } (.lst (ns.map V.int)))) (.inr ⟨hk, _, rfl⟩) (.inl (.inr ⟨_, if_pos rfl⟩)) fun b u z => ?_
      unfold oneAt at z
      split at z
      · rename_i e
        cases z
        rw [e]
        exact ⟨ha, by rw [List.length_map]; exact hl, vs, _, rel, ha⟩
      · cases z
  intro H hH hS hok
  have only : Only H := fun b => by
    rcases hH with rfl | ⟨_, o, rfl⟩
    · exact .inl rfl
    · unfold oneAt
      by_cases e : b = a
      · exact .inr ⟨o, _, if_pos e⟩
      · exact .inl (if_neg e)
  have away : ∀ {b : Addr} {u : HO}, H b = some u → b = a ∧ K.lookup a = none := fun {b u} e => by
    rcases hH with rfl | ⟨hk, o, rfl⟩
    · cases e
    · unfold oneAt at e
      split at e
      · rename_i z; exact ⟨z, hk⟩
      · cases e
  have hid : ∀ {b : Addr} {o : Obj}, s₁.heap.get? b = some o → H b = none → (hidT s₁.heap H).get? b = some o := fun e z => hidT_get e z
  have dn : ∀ {b : Addr} {o : Obj} {es : Array DictEntry} {ep : Nat}, s₁.heap.get? b = some o → o.data = .dict es ep → H b = none := fun {b o es ep} e d => by
    cases z : H b with
    | none => rfl
    | some u =>
      rw [(away z).1, ha] at e
      cases e
      exact nomatch (show Data.seq vs.toArray _ = Data.dict es ep from d)
  have ns' : ∀ {b : Addr} {m : Str → Option Value}, s₁.heap.Ns b m → (hidT s₁.heap H).Ns b m := fun {b m} ⟨o, es, ep, e, d, r⟩ => ⟨o, es, ep, hid e (dn e d), d, r⟩
  have KB : K.In (hidT s₁.heap H) := fun b o e => hid (KX b o e) (by
    cases z : H b with
    | none => rfl
    | some u =>
      obtain ⟨e1, e2⟩ := away z
      rw [e1, e2] at e; cases e)
  obtain ⟨mc, nl1, nl2⟩ := nl
  have M : Mod K mg (hidT s₁.heap H) := ⟨KB, ns' gl, ⟨mb, ns' bl, bb⟩, mc, ns' nl1, nl2⟩
  have none_in : ∀ {b : Addr}, b ∉ ([] : List Addr) := fun {b} z => nomatch z
  have e0 : Env0 P w K mg (hidT s₁.heap H) callerA [] s₁ H := ⟨rfl, M, fun b o e => of_hidT e, Nat.le_of_eq (hidT_size _ _), trivial, fun b z => absurd (show b ∈ ([] : List Addr) from z) none_in, hok, .of_eq ge⟩
  refine codeAny_mono ((T _ KB (ns' gl)).run callerA [] s₁ H ⟨[.ref a], []⟩ [.ref a] [.ref a] _ _ rfl hr e0 (hb s₁ (.ref a)) (.cons rfl .nil) (hsp H only hS)) fun r s' z => ?_
  cases r with
  | error e =>
    obtain ⟨_, _, _, _, _, _, _, _, _, _, _, _, z⟩ := z
    exact z.elim
  | ok fl =>
    cases fl with
    | next => exact z.elim
    | brk => exact z.elim
    | cont => exact z.elim
    | ret u =>
      obtain ⟨v, H', os, bare, un, hok', rv, hv⟩ := z
      have hv : v = .bl true := hv
      subst hv
      cases (show u = Value.bool true from rv)
      refine ⟨rfl, OldK.of_keep fun b o e => ?_, os, bare⟩
      cases z : H b with
      | none => exact un.keep b o e z (fun y => absurd (show b ∈ ([] : List Addr) from y) none_in) none_in
      | some u =>
        rcases only b with y | ⟨ob, xs, y⟩
        · rw [z] at y; cases y
        · have e1 := (hok b _ y).1
          rw [e] at e1; cases e1
          exact (hok' b _ (un.frzs b _ _ y)).1
/-- a law by the promise of its def -/
theorem walk_G {l : PySem.W.OpenLaw} {n k : Nat} {q : Program} {loose : List Str} {XP : (Str → Option Value) → Heap → Prop} {YP : World → Heap → Prop} {d : DefRec} {x : Str}
    (hn : l.most = some n) (hz : n ≤ sizeLine) (hdf : d.params.defaults = []) (hr : Room k callerA)
    (T : ∀ (w : World) (mg : Str → Option Value) (fa : Addr) (h : Heap), YP w h → h.Ns mainGlobals mg → mg d.name = some (.ref fa) →
      ∃ (K : PySem.W.Frag) (fd : FuncData) (xr : Xr) (g : List D → FR), K.In h ∧ (∀ (s : Shared) (u : Value), BindsTo s fd ⟨[u], []⟩ [(x, u)]) ∧ lawOk g n ∧
        ∀ base : Heap, K.In base → base.Ns mainGlobals mg → FnG l.prog w K mg base k fa fd [x] (spF ⟨K, l.prog, w⟩ xr 1 g)) :
    PySem.W.WalkO q loose XP YP l.row.toRowW d [] (fun f vs => PySem.call f vs) :=
  Att.attach_call hn hdf fun w s₀ s₁ mg mb fa o pm cd doc a vs ns G Y ho hd hcd hmg hobj hints hlen hg => by
    obtain ⟨K, fd, xr, g, KX, hb, ok, hF⟩ := T w mg fa _ Y G.T.g hmg
    exact law_callG KX G.T.g G.T.b G.T.builtins G.T.nolimit hg hobj hints (Nat.le_trans hlen hz) hr hF hb fun H _ hS => lawSp ok H a ns hlen hS
end
end HM

set_option Elab.async false
set_option linter.all false
set_option maxRecDepth 100000
set_option maxHeartbeats 4000000
set_option autoImplicit false
/-! HQ: pure displays, constants of the module, defs by their facts. -/
namespace HM
open PySem PySem.Spec PyProof.Rows L2
def pAnd (fa fb : Sl → Option Pv) : Sl → Option Pv := fun η => (tB1 fa η).bind fun k => if k = true then fb η else some (.d (.bool false))
def pOr (fa fb : Sl → Option Pv) : Sl → Option Pv := fun η => (tB1 fa η).bind fun k => if k = true then some (.d (.bool true)) else fb η
def pTup (f : Sl → Option (List Pv)) : Sl → Option Pv := fun η => (f η).bind fun xs => (datsOf xs).bind fun ds => if ds.length ≤ 16777216 then some (.d (.tuple ds)) else none
def oLst (f : Sl → Option (List Pv)) : Sl → Option OD := fun η => (f η).bind fun xs => (datsOf xs).bind fun ds => if ds.length ≤ 16777216 then some (.lst ds) else none
section
variable {X : Cx} {es : List Expr} {pos : Pos} {x1 : Nat} {f : Sl → Option (List Pv)}
theorem ep_tup (h : EA X es f) : EP X (.Tuple es x1 pos) (pTup f) := (pe_tupF h).weak fun σ H Q ⟨F, G, η, z, R, hf, k⟩ => by
  obtain ⟨xs, hx, hf⟩ := Option.bind_eq_some_iff.mp hf
  obtain ⟨ds, hd, hf⟩ := Option.bind_eq_some_iff.mp hf
  split at hf
  · rename_i hz
    cases hf
    exact ⟨F, G, η, xs, R, hx, fun vs G1 H1 S1 r => have w := datsOf_inv r hd
      ⟨by rw [w.len, line_eq]; exact hz, newT_of S1.gh w fun z G' H' S r' => k z G' H' (S1.trans S) r'⟩⟩
  · cases hf
theorem eo_lst (h : EA X es f) : EO X (.List es pos) (oLst f) := (pe_lst h).weak fun σ H Q ⟨F, G, η, z, R, hf, k⟩ => by
  obtain ⟨xs, hx, hf⟩ := Option.bind_eq_some_iff.mp hf
  obtain ⟨ds, hd, hf⟩ := Option.bind_eq_some_iff.mp hf
  split at hf
  · rename_i hz
    cases hf
    refine ⟨F, G, η, xs, R, hx, fun vs G1 H1 S1 r => ?_⟩
    have w := datsOf_inv r hd
    refine ⟨by rw [w.len, line_eq]; exact hz, fun p hp => ?_⟩
    obtain ⟨S, gp, o⟩ := lst_step S1.gh w hp
    exact k p _ _ (S1.trans S) (S1.h.free hp) gp o
  · cases hf
theorem ei_rg3 {q : Qx} {tg a b c : Expr} {p : Pos} {f : Sl → Res (List D)} (hg : Gl X "range") (hm : X.mg "range" = none) (ha : EEA X q [a, b, c] f) (hs : starEach [a, b, c] X.env = (false, eval a X.env) :: starEach [b, c] X.env := by rfl) (hpl : (backTo pos (starEach [b, c] X.env)).any (·.1) = false := by rfl) : EI X q tg (.Call (.Name "range" p) [a, b, c] [] pos) (iRg rngD3 f) :=
  (pi_range3 hg hm ha hs hpl).weak fun σ H R ⟨F, G, η, Rp, hf⟩ => ⟨F, G, η, Rp, hf.bnd.mono fun as η1 G1 H1 M1 R1 hf vs r => by
    obtain ⟨ys, e1, k⟩ := Rsp.ofO R1 hf
    obtain ⟨ds, e2, rfl⟩ := Option.map_eq_some_iff.mp e1
    exact rng_3 r e2 fun J w => k G1 H1 (.refl R1.gh) J (w _ _)⟩
theorem eip_rg3 {tg a b c : Expr} {p : Pos} {f : Sl → Option (List Pv)} (hg : Gl X "range") (hm : X.mg "range" = none) (ha : EA X [a, b, c] f) (hs : starEach [a, b, c] X.env = (false, eval a X.env) :: starEach [b, c] X.env := by rfl) (hpl : (backTo pos (starEach [b, c] X.env)).any (·.1) = false := by rfl) : EIp X tg (.Call (.Name "range" p) [a, b, c] [] pos) (ipRg rngD3 f) :=
  (pi_range3 hg hm ha hs hpl).weak fun σ H R ⟨F, G, η, ys, Rp, hf, k⟩ => by
    obtain ⟨as, e1, hf⟩ := Option.bind_eq_some_iff.mp hf
    obtain ⟨es, e2, hf⟩ := Option.bind_eq_some_iff.mp hf
    obtain ⟨ds, e3, rfl⟩ := Option.map_eq_some_iff.mp hf
    exact ⟨F, G, η, as, Rp, e1, fun vs G1 H1 S1 r => rng_3 (datsOf_inv r e2) e3 fun J w => k G1 H1 J S1 (w _ _)⟩
theorem ep_gint {x : Str} {i : Int} (hm : ∃ t, X.mg x = some (.int i t)) (hg : Gl X x) (hd : (x == ("__debug__" : Str)) = false := by decide) : EP X (.Name x pos) (pC (.int i)) := by
  obtain ⟨t, e⟩ := hm
  exact ep_c (pe_glob (v := .int i) hg e ⟨t, rfl⟩ hd) fun H => .int i
theorem ep_gstr {x z : Str} (hm : ∃ t, X.mg x = some (.str z t)) (hg : Gl X x) (hd : (x == ("__debug__" : Str)) = false := by decide) : EP X (.Name x pos) (pC (.str z)) := by
  obtain ⟨t, e⟩ := hm
  exact ep_c (pe_glob (v := .str z) hg e ⟨t, rfl⟩ hd) fun H => .str z
theorem takes_no : Takes X (fun _ _ _ _ => False) := fun u s' ⟨_, _, _, _, _, _, _, _, _, _, _, _, _, _, _, _, w⟩ => w.elim
end
section
variable {P : Program} {w : World} {K : PySem.W.Frag} {mg : Str → Option Value} {base : Heap} {x : Str} {params : Arguments} {body : List Stmt} {scope : Scope} {f : Addr} {fd : FuncData} {N ps : List Str} {k n : Nat} {xr : Xr} {den : Sl → RS}
theorem calF_of (Fd : FunD K x x params body scope [] [] f fd) (gx : mg x = some (.ref f)) (S : FnScope N ps scope) (hn : ps.length = n) (hbind : Binds K fd ps []) (hb : BodyOk P w K mg base N x scope f k xr body den) : CalF P w K mg base (k + 1) x xr n (fnF n N.length den) :=
  ⟨f, fd, ps, fn_F Fd S hn hb, gx, Fd.kp, hbind, hn⟩
theorem calM_of (Fd : FunD K x x params body scope [] [] f fd) (gx : mg x = some (.ref f)) (S : FnScope N ps scope) (hn : ps.length = n + 1) (hbind : Binds K fd ps []) (hb : BodyOk P w K mg base N x scope f k xr body den) : CalM P w K mg base (k + 1) x xr n (fnM n N.length den) :=
  ⟨f, fd, ps, fn_M Fd S hn hb, gx, Fd.kp, hbind, hn⟩
end
end HM

set_option Elab.async false
set_option linter.all false
set_option maxRecDepth 100000
set_option maxHeartbeats 4000000
set_option autoImplicit false
/-! HR: how the plain functions are reckoned (for simp). -/
namespace HM
open PySem PySem.Spec PyProof.Rows L2
section
variable {η : Sl} {a b : Sl → RS} {f g h : Sl → Res D} {fp gp hp : Sl → Option Pv} {i : Nat}
@[simp] theorem r_sSeq : sSeq a b η = (match a η with
  | .nx η1 => b η1
  | .stuck => .stuck
  | .rt r η1 => .rt r η1
  | .bk η1 => .bk η1
  | .ct η1 => .ct η1
  | .exc x η1 => .exc x η1) := id rfl
@[simp] theorem r_sNx : sNx η = .nx η := id rfl
@[simp] theorem r_sBk : sBk η = .bk η := id rfl
@[simp] theorem r_sCt : sCt η = .ct η := id rfl
@[simp] theorem r_sE {α : Type} {f : Sl → Res α} {k : α → Sl → RS} : sE f k η = (match f η with
  | .stuck => .stuck
  | .ok x η1 => k x η1
  | .exc x η1 => .exc x η1) := id rfl
@[simp] theorem r_sSet : sSet i f η = sE f (setV i) η := id rfl
@[simp] theorem r_sSetO {f : Sl → Res OD} : sSetO i f η = sE f (setO i) η := id rfl
@[simp] theorem r_setV {d : D} : setV i d η = if i < η.length then .nx (η.set i (.val d)) else .stuck := id rfl
@[simp] theorem r_setO {d : OD} : setO i d η = if i < η.length then .nx (η.set i (.own d)) else .stuck := id rfl
@[simp] theorem r_sDrop : sDrop f η = sE f (fun _ η1 => .nx η1) η := id rfl
@[simp] theorem r_sRet : sRet f η = sE f (fun x η1 => .rt (.d x) η1) η := id rfl
@[simp] theorem r_sRetO {f : Sl → Res OD} : sRetO f η = sE f (fun x η1 => .rt (.o x) η1) η := id rfl
@[simp] theorem r_sRetV : sRetV i η = (match η[i]? with
  | some (.own o) => .rt (.o o) (η.set i .non)
  | _ => .stuck) := id rfl
@[simp] theorem r_sRetN : sRetN η = .rt (.d .none) η := id rfl
@[simp] theorem r_sIf {c : Sl → Res Bool} : sIf c a b η = sE c (fun k η1 => if k = true then a η1 else b η1) η := id rfl
@[simp] theorem r_sFor {f : Sl → Res (List Yd)} {t : Yd → Sl → Option Sl} : sFor f t b η = sE f (fun ys η1 => sForL t b ys η1) η := id rfl
@[simp] theorem r_noExc : noExc a η = (match a η with
  | .exc _ _ => .stuck
  | r => r) := id rfl
@[simp] theorem r_sPut {fx fv : Sl → Res D} : sPut i fx fv η = sE fv (fun v η1 => match lstAt η1 i with
  | some _ => sE fx (fun x η2 => match lstAt η2 i, x with
    | some ds, .int k => (match ixN ds.length k with
      | some j => .nx (putL η2 i (ds.set j v))
      | none => .stuck)
    | _, _ => .stuck) η1
  | none => .stuck) η := id rfl
@[simp] theorem r_sPutD {fx fv : Sl → Res D} : sPutD i fx fv η = sE fv (fun v η1 => match odAt η1 i with
  | some _ => sE fx (fun x η2 => match (odAt η2 i).bind fun o => dPutO o x v with
    | some o => .nx (putO η2 i o)
    | none => .stuck) η1
  | none => .stuck) η := id rfl
@[simp] theorem r_lstAt : lstAt η i = (match η[i]? with
  | some (.own (.lst ds)) => some ds
  | some (.mu (.lst ds)) => some ds
  | _ => none) := id rfl
@[simp] theorem r_putL {ds : List D} : putL η i ds = (match η[i]? with
  | some (.mu _) => η.set i (.mu (.lst ds))
  | _ => η.set i (.own (.lst ds))) := id rfl
@[simp] theorem r_odAt : odAt η i = (match η[i]? with
  | some (.own o) => some o
  | some (.mu o) => some o
  | _ => none) := id rfl
@[simp] theorem r_putO {o : OD} : putO η i o = (match η[i]? with
  | some (.mu _) => η.set i (.mu o)
  | _ => η.set i (.own o)) := id rfl
@[simp] theorem r_dPutK {kvs : List (Key × D)} {k v : D} : dPutO (.dK kvs) k v = ((keyD k).bind fun k => if kvs.length < 16777216 then some (.dK (dPut kvs k v)) else none) := id rfl
@[simp] theorem r_dPutT {kvs : List (List Key × D)} {ks : List D} {v : D} : dPutO (.dT kvs) (.tuple ks) v = ((keysD ks).bind fun k => if kvs.length < 16777216 then some (.dT (dPut kvs k v)) else none) := id rfl
@[simp] theorem r_keyI {j : Int} : keyD (.int j) = some (.inl j) := id rfl
@[simp] theorem r_keyS {j : Str} : keyD (.str j) = some (.inr j) := id rfl
-- expressions, effects
@[simp] theorem r_eP : eP fp η = ofO ((fp η).bind datOf) η := id rfl
@[simp] theorem r_eV : eV i η = (match η[i]? with
  | some (.val d) => .ok d η
  | some (.own (.lst ds)) => .ok (.list ds) (η.set i (.val (.list ds)))
  | _ => .stuck) := id rfl
@[simp] theorem r_eaNil : eaNil η = .ok [] η := id rfl
@[simp] theorem r_eaCons {r : Sl → Res (List D)} : eaCons f r η = ((f η).bind fun x η1 => (r η1).bind fun xs η2 => .ok (x :: xs) η2) := id rfl
@[simp] theorem r_e1 {k : Pv → Option Pv} : e1 k f η = ((f η).bind fun x η1 => ofO ((k (.d x)).bind datOf) η1) := id rfl
@[simp] theorem r_e2 {k : Pv → Pv → Option Pv} : e2 k f g η = ((f η).bind fun x η1 => (g η1).bind fun y η2 => ofO ((k (.d x) (.d y)).bind datOf) η2) := id rfl
@[simp] theorem r_eN {k : List Pv → Option Pv} {r : Sl → Res (List D)} : eN k r η = ((r η).bind fun xs η1 => ofO ((k (xs.map .d)).bind datOf) η1) := id rfl
@[simp] theorem r_eoN {k : List Pv → Option OD} {r : Sl → Res (List D)} : eoN k r η = ((r η).bind fun xs η1 => ofO (k (xs.map .d)) η1) := id rfl
@[simp] theorem r_eo2 {k : Pv → Pv → Option OD} : eo2 k f g η = ((f η).bind fun x η1 => (g η1).bind fun y η2 => ofO (k (.d x) (.d y)) η2) := id rfl
@[simp] theorem r_eTup {r : Sl → Res (List D)} : eTup r η = ((r η).bind fun xs η1 => if xs.length ≤ 16777216 then .ok (.tuple xs) η1 else .stuck) := id rfl
@[simp] theorem r_eLst {r : Sl → Res (List D)} : eLst r η = ((r η).bind fun xs η1 => if xs.length ≤ 16777216 then .ok (.lst xs) η1 else .stuck) := id rfl
@[simp] theorem r_eFrz {r : Sl → Res OD} : eFrz r η = ((r η).bind fun o η1 => match o with
  | .lst ds => .ok (.list ds) η1
  | _ => .stuck) := id rfl
@[simp] theorem r_eoP {r : Sl → Option OD} : eoP r η = ofO (r η) η := id rfl
@[simp] theorem r_etP {r : Sl → Option Bool} : etP r η = ofO (r η) η := id rfl
@[simp] theorem r_etB : etB f η = ((f η).bind fun d η1 => ofO (isB (.d d)) η1) := id rfl
@[simp] theorem r_eIf {c : Sl → Res Bool} : eIf c f g η = ((c η).bind fun k η1 => if k = true then f η1 else g η1) := id rfl
@[simp] theorem r_etNot {c : Sl → Res Bool} : etNot c η = ((c η).bind fun k η1 => .ok (!k) η1) := id rfl
@[simp] theorem r_etAnd {c d : Sl → Res Bool} : etAnd c d η = ((c η).bind fun k η1 => if k = true then d η1 else .ok false η1) := id rfl
@[simp] theorem r_etOr {c d : Sl → Res Bool} : etOr c d η = ((c η).bind fun k η1 => if k = true then .ok true η1 else d η1) := id rfl
@[simp] theorem r_eAnd : eAnd f g η = ((etB f η).bind fun k η1 => if k = true then g η1 else .ok (.bool false) η1) := id rfl
@[simp] theorem r_eOr : eOr f g η = ((etB f η).bind fun k η1 => if k = true then .ok (.bool true) η1 else g η1) := id rfl
@[simp] theorem r_eNot : eNot f η = ((etB f η).bind fun k η1 => .ok (.bool (!k)) η1) := id rfl
@[simp] theorem r_eOrT : eOrT f g η = ((f η).bind fun x η1 => (ofO (truD (.d x)) η1).bind fun k η2 => if k = true then .ok x η2 else g η2) := id rfl
@[simp] theorem r_eM {k : List D → List D → Option (D × List D)} {r : Sl → Res (List D)} : eM i k r η = (match lstAt η i with
  | some _ => (r η).bind fun as η1 => (ofO ((lstAt η1 i).bind fun ds => k ds as) η1).bind fun c η2 => .ok c.1 (putL η2 i c.2)
  | none => .stuck) := id rfl
@[simp] theorem r_eCall {k : List D → FR} {r : Sl → Res (List D)} : eCall k r η = ((r η).bind fun as η1 => match k as with
  | .ok (.d x) => .ok x η1
  | .exc x => .exc x η1
  | _ => .stuck) := id rfl
@[simp] theorem r_eoCall {k : List D → FR} {r : Sl → Res (List D)} : eoCall k r η = ((r η).bind fun as η1 => match k as with
  | .ok (.o x) => .ok x η1
  | .exc x => .exc x η1
  | _ => .stuck) := id rfl
@[simp] theorem r_eCallM {k : List D → List D → FM} {r : Sl → Res (List D)} : eCallM i k r η = (match lstAt η i with
  | some _ => (r η).bind fun as η1 => (match lstAt η1 i with
    | some ds => (match k ds as with
      | .ok (.d x) cs => .ok x (putL η1 i cs)
      | .exc x cs => .exc x (putL η1 i cs)
      | _ => .stuck)
    | none => .stuck)
  | none => .stuck) := id rfl
@[simp] theorem r_eoCallM {k : List D → List D → FM} {r : Sl → Res (List D)} : eoCallM i k r η = (match lstAt η i with
  | some _ => (r η).bind fun as η1 => (match lstAt η1 i with
    | some ds => (match k ds as with
      | .ok (.o x) cs => .ok x (putL η1 i cs)
      | .exc x cs => .exc x (putL η1 i cs)
      | _ => .stuck)
    | none => .stuck)
  | none => .stuck) := id rfl
@[simp] theorem r_eXtP : eXtP i fp η = (match lstAt η i, fp η with
  | some ds, some (.o (.lst es)) => if ds.length + es.length ≤ 16777216 then .ok .none (putL η i (ds ++ es)) else .stuck
  | _, _ => .stuck) := id rfl
@[simp] theorem r_eXtO {r : Sl → Res OD} : eXtO i r η = (match lstAt η i with
  | some _ => (r η).bind fun o η1 => (match lstAt η1 i, o with
    | some ds, .lst es => if ds.length + es.length ≤ 16777216 then .ok .none (putL η1 i (ds ++ es)) else .stuck
    | _, _ => .stuck)
  | none => .stuck) := id rfl
@[simp] theorem r_eLc {vs : List Nat} {src : Sl → Res (List Yd)} {t : Yd → Sl → Option Sl} {c : Sl → Res Bool} : eLc vs src t c f η = ((src η).bind fun ys η1 => match lcE vs t c f ys [] (wipeS η1 vs) with
  | .ok ds η2 => .ok (.lst ds) (backS η1 η2 vs)
  | _ => .stuck) := id rfl
@[simp] theorem r_lAppend {ds : List D} {d : D} : lAppend ds [d] = if ds.length < 16777216 then some (.none, ds ++ [d]) else none := id rfl
@[simp] theorem r_lPop {ds : List D} : lPop ds [] = (ds[ds.length - 1]?).bind fun d => some (d, ds.dropLast) := id rfl
@[simp] theorem r_iSq : iSq f η = ((f η).bind fun d η1 => ofO ((seqD (.d d)).map fun ds => ds.map .d) η1) := id rfl
@[simp] theorem r_iRg {k : List D → Option (List D)} {r : Sl → Res (List D)} : iRg k r η = ((r η).bind fun as η1 => ofO ((k as).map fun ds => ds.map .d) η1) := id rfl
@[simp] theorem r_yesE : yesE η = .ok true η := id rfl
@[simp] theorem r_yesP : yesP η = some true := id rfl
-- expressions, pure
@[simp] theorem r_pC {d : D} : pC d η = some (.d d) := id rfl
@[simp] theorem r_pV : pV i η = (match η[i]? with
  | some (.val d) => some (.d d)
  | some (.own o) => some (.o o)
  | some (.mu o) => some (.o o)
  | _ => none) := id rfl
@[simp] theorem r_p1 {k : Pv → Option Pv} : p1 k fp η = (fp η).bind k := id rfl
@[simp] theorem r_p2 {k : Pv → Pv → Option Pv} : p2 k fp gp η = ((fp η).bind fun x => (gp η).bind fun y => k x y) := id rfl
@[simp] theorem r_pN {k : List Pv → Option Pv} {r : Sl → Option (List Pv)} : pN k r η = (r η).bind k := id rfl
@[simp] theorem r_oN {k : List Pv → Option OD} {r : Sl → Option (List Pv)} : oN k r η = (r η).bind k := id rfl
@[simp] theorem r_aNil : aNil η = some [] := id rfl
@[simp] theorem r_aCons {r : Sl → Option (List Pv)} : aCons fp r η = ((fp η).bind fun x => (r η).bind fun xs => some (x :: xs)) := id rfl
@[simp] theorem r_o2 {k : Pv → Pv → Option OD} : o2 k fp gp η = ((fp η).bind fun x => (gp η).bind fun y => k x y) := id rfl
@[simp] theorem r_frz {r : Sl → Option OD} : frz r η = (r η).bind ofL := id rfl
@[simp] theorem r_oPeek {r : Sl → Option OD} : oPeek r η = (r η).bind fun o => some (.o o) := id rfl
@[simp] theorem r_ofL {ds : List D} : ofL (.lst ds) = some (.d (.list ds)) := id rfl
@[simp] theorem r_tB1 : tB1 fp η = (fp η).bind isB := id rfl
@[simp] theorem r_isB {b : Bool} : isB (.d (.bool b)) = some b := id rfl
@[simp] theorem r_tAnd2 {c d : Sl → Option Bool} : tAnd2 c d η = (c η).bind fun b => if b = true then d η else some false := id rfl
@[simp] theorem r_tOr2 {c d : Sl → Option Bool} : tOr2 c d η = (c η).bind fun b => if b = true then some true else d η := id rfl
@[simp] theorem r_tNot1 {c : Sl → Option Bool} : tNot1 c η = (c η).bind fun b => some (!b) := id rfl
@[simp] theorem r_tTru : tTru fp η = (fp η).bind truD := id rfl
@[simp] theorem r_pB {c : Sl → Option Bool} : pB c η = (c η).bind fun b => some (.d (.bool b)) := id rfl
@[simp] theorem r_pIf {c : Sl → Option Bool} : pIf c fp gp η = (c η).bind fun k => if k = true then fp η else gp η := id rfl
@[simp] theorem r_pAnd : pAnd fp gp η = (tB1 fp η).bind fun k => if k = true then gp η else some (.d (.bool false)) := id rfl
@[simp] theorem r_pOr : pOr fp gp η = (tB1 fp η).bind fun k => if k = true then some (.d (.bool true)) else gp η := id rfl
@[simp] theorem r_pOrT : pOrT fp gp η = (fp η).bind fun x => (truD x).bind fun k => if k = true then some x else gp η := id rfl
@[simp] theorem r_pCh {k k' : Pv → Pv → Option Pv} : pCh k k' fp gp hp η = ((fp η).bind fun x => (gp η).bind fun y => ((k x y).bind isB).bind fun c => if c = true then (hp η).bind fun z => k' y z else some (.d (.bool false))) := id rfl
@[simp] theorem r_pTup {r : Sl → Option (List Pv)} : pTup r η = ((r η).bind fun xs => (datsOf xs).bind fun ds => if ds.length ≤ 16777216 then some (.d (.tuple ds)) else none) := id rfl
@[simp] theorem r_oLst {r : Sl → Option (List Pv)} : oLst r η = ((r η).bind fun xs => (datsOf xs).bind fun ds => if ds.length ≤ 16777216 then some (.lst ds) else none) := id rfl
@[simp] theorem r_oLc {vs : List Nat} {src : Sl → Option (List Yd)} {t : Yd → Sl → Option Sl} {c : Sl → Option Bool} : oLc vs src t c fp η = ((src η).bind fun ys => (lcP t c fp (wipeS η vs) ys).bind fun ds => if ds.length ≤ 16777216 then some (.lst ds) else none) := id rfl
@[simp] theorem r_oNewK : oNewK η = some (.dK []) := id rfl
@[simp] theorem r_oNewT : oNewT η = some (.dT []) := id rfl
@[simp] theorem r_pSl {lo hi : Sl → Option (Option Int)} : pSl fp lo hi η = ((fp η).bind fun x => (lo η).bind fun i => (hi η).bind fun j => gSl x i j) := id rfl
@[simp] theorem r_oNo : oNo η = some none := id rfl
@[simp] theorem r_oSo : oSo fp η = (fp η).bind fun x => (intOf x).bind fun i => some (some i) := id rfl
@[simp] theorem r_pMt {ty : Pv → Bool} {k : Pv → List Pv → Option Pv} {r : Sl → Option (List Pv)} : pMt ty k fp r η = (fp η).bind fun x => if ty x = true then (r η).bind fun as => k x as else none := id rfl
@[simp] theorem r_oMt {ty : Pv → Bool} {k : Pv → List Pv → Option OD} {r : Sl → Option (List Pv)} : oMt ty k fp r η = (fp η).bind fun x => if ty x = true then (r η).bind fun as => k x as else none := id rfl
@[simp] theorem r_ipSq : ipSq fp η = (fp η).bind fun d => (seqD d).map fun ds => ds.map .d := id rfl
@[simp] theorem r_ipRg {k : List D → Option (List D)} {r : Sl → Option (List Pv)} : ipRg k r η = (r η).bind fun as => (datsOf as).bind fun ds => (k ds).map fun ds => ds.map .d := id rfl
@[simp] theorem r_oRg1 : oRg1 fp η = (fp η).bind fun x => (rg1 x).map .lst := id rfl
@[simp] theorem r_oRg2 : oRg2 fp gp η = (fp η).bind fun x => (gp η).bind fun y => (rg2 x y).map .lst := id rfl
@[simp] theorem r_pTg1 : pTg1 fp η = (fp η).bind fun x => (rg1 x).map fun ds => .d (.tuple ds) := id rfl
@[simp] theorem r_pTg2 : pTg2 fp gp η = (fp η).bind fun x => (gp η).bind fun y => (rg2 x y).map fun ds => .d (.tuple ds) := id rfl
end
-- operations
section
variable {i j : Int} {x y : D} {ds es : List D} {z u : Str}
@[simp] theorem r_datOf : datOf (.d x) = some x := id rfl
@[simp] theorem r_datsN : datsOf [] = some [] := id rfl
@[simp] theorem r_datsC {xs : List Pv} : datsOf (.d x :: xs) = (datsOf xs).bind fun ds => some (x :: ds) := id rfl
@[simp] theorem r_intOf : intOf (.d (.int i)) = some i := id rfl
@[simp] theorem r_strOf : strOf (.d (.str z)) = some z := id rfl
@[simp] theorem r_lstD : lstOf (.d (.list ds)) = some ds := id rfl
@[simp] theorem r_lstO : lstOf (.o (.lst ds)) = some ds := id rfl
@[simp] theorem r_lstT : lstOf (.d (.tuple ds)) = none := id rfl
@[simp] theorem r_tupOf : tupOf (.d (.tuple ds)) = some ds := id rfl
@[simp] theorem r_dOfd : dOf (.d x) = some x := id rfl
@[simp] theorem r_dOfo : dOf (.o (.lst ds)) = some (.list ds) := id rfl
@[simp] theorem r_seqL : seqD (.d (.list ds)) = some ds := id rfl
@[simp] theorem r_seqO : seqD (.o (.lst ds)) = some ds := id rfl
@[simp] theorem r_seqT : seqD (.d (.tuple ds)) = some ds := id rfl
@[simp] theorem r_seqS : seqD (.d (.str z)) = some (ydStr z) := id rfl
@[simp] theorem r_seqOfL : seqOf (.d (.list ds)) = some ds := id rfl
@[simp] theorem r_seqOfO : seqOf (.o (.lst ds)) = some ds := id rfl
@[simp] theorem r_seqOfT : seqOf (.d (.tuple ds)) = some ds := id rfl
@[simp] theorem r_g1 {β : Type} {k : Pv → Option β} {a : Pv} : g1 k [a] = k a := id rfl
@[simp] theorem r_m1 {β : Type} {k : Pv → Pv → Option β} {a b : Pv} : m1 k a [b] = k a b := id rfl
@[simp] theorem r_addI : gAdd (.d (.int i)) (.d (.int j)) = some (.d (.int (i + j))) := id rfl
@[simp] theorem r_addS : gAdd (.d (.str z)) (.d (.str u)) = if z.length + u.length ≤ 16777216 then some (.d (.str (z ++ u))) else none := id rfl
@[simp] theorem r_addT : gAdd (.d (.tuple ds)) (.d (.tuple es)) = if ds.length + es.length ≤ 16777216 then some (.d (.tuple (ds ++ es))) else none := id rfl
@[simp] theorem r_gI2 {k : Int → Int → Option D} : gI2 k (.d (.int i)) (.d (.int j)) = (k i j).bind fun d => some (.d d) := id rfl
@[simp] theorem r_neg : gNeg (.d (.int i)) = some (.d (.int (-i))) := id rfl
@[simp] theorem r_abs : gAbs (.d (.int i)) = some (.d (.int (if i < 0 then -i else i))) := id rfl
@[simp] theorem r_ixA : gIxA (.d x) (.d y) = gIx (.d x) (.d y) := id rfl
@[simp] theorem r_ixAo : gIxA (.o (.lst ds)) (.d y) = gIx (.o (.lst ds)) (.d y) := id rfl
@[simp] theorem r_ixL : gIx (.d (.list ds)) (.d (.int i)) = (atI ds i).bind fun d => some (.d d) := id rfl
@[simp] theorem r_ixO : gIx (.o (.lst ds)) (.d (.int i)) = (atI ds i).bind fun d => some (.d d) := id rfl
@[simp] theorem r_ixT : gIx (.d (.tuple ds)) (.d (.int i)) = (atI ds i).bind fun d => some (.d d) := id rfl
@[simp] theorem r_lenL : gLen (.d (.list ds)) = some (.d (.int ds.length)) := id rfl
@[simp] theorem r_lenO : gLen (.o (.lst ds)) = some (.d (.int ds.length)) := id rfl
@[simp] theorem r_lenT : gLen (.d (.tuple ds)) = some (.d (.int ds.length)) := id rfl
@[simp] theorem r_lenS : gLen (.d (.str z)) = if z.length ≤ 16777216 then some (.d (.int z.length)) else none := id rfl
@[simp] theorem r_tupL : gTup (.d (.list ds)) = some (.d (.tuple ds)) := id rfl
@[simp] theorem r_tupO : gTup (.o (.lst ds)) = some (.d (.tuple ds)) := id rfl
@[simp] theorem r_tupT : gTup (.d (.tuple ds)) = some (.d (.tuple ds)) := id rfl
@[simp] theorem r_oListL : oList (.d (.list ds)) = some (.lst ds) := id rfl
@[simp] theorem r_oListO : oList (.o (.lst ds)) = some (.lst ds) := id rfl
@[simp] theorem r_oListT : oList (.d (.tuple ds)) = some (.lst ds) := id rfl
@[simp] theorem r_isiI {n : String} : gIsi n (.d (.int i)) = (kitB "int" n).bind fun b => some (.d (.bool b)) := id rfl
@[simp] theorem r_isStr : isStr (.d (.str z)) = true := id rfl
@[simp] theorem r_rg1 : rg1 (.d (.int j)) = rgL 0 j := id rfl
@[simp] theorem r_rg2 : rg2 (.d (.int i)) (.d (.int j)) = rgL i j := id rfl
@[simp] theorem r_rng1 : rngD1 [.int j] = if okI j = true then some (rgD 0 j.toNat) else none := id rfl
@[simp] theorem r_rng2 : rngD2 [.int i, .int j] = if okI i = true ∧ okI j = true then some (rgD i (j - i).toNat) else none := id rfl
@[simp] theorem r_noSl0 : noSl 0 = [] := id rfl
@[simp] theorem r_noSl {n : Nat} : noSl (n + 1) = .non :: noSl n := id rfl
@[simp] theorem r_mu0 {η : Sl} : mu0 (.mu (.lst ds) :: η) = some ds := id rfl
@[simp] theorem r_sForN {t : Yd → Sl → Option Sl} {b : Sl → RS} {η : Sl} : sForL t b [] η = .nx η := id rfl
@[simp] theorem r_tgV {k : Nat} {η : Sl} : tgV k (.d x) η = if k < η.length then some (η.set k (.val x)) else none := id rfl
@[simp] theorem r_wipe0 {η : Sl} : wipeS η [] = η := id rfl
@[simp] theorem r_wipe {η : Sl} {v : Nat} {vs : List Nat} : wipeS η (v :: vs) = (wipeS η vs).set v .non := id rfl
@[simp] theorem r_back0 {η η2 : Sl} : backS η η2 [] = η2 := id rfl
@[simp] theorem r_back {η η2 : Sl} {v : Nat} {vs : List Nat} : backS η η2 (v :: vs) = (backS η η2 vs).set v (keepS η v) := id rfl
@[simp] theorem r_keep {η : Sl} {v : Nat} : keepS η v = (match η[v]? with
  | some (.val d) => .val d
  | _ => .non) := id rfl
end
/-- a loop turns once -/
theorem for_cons {t : Yd → Sl → Option Sl} {b : Sl → RS} {y : Yd} {ys : List Yd} {η : Sl} : sForL t b (y :: ys) η = (match t y η with
    | none => .stuck
    | some η1 => match b η1 with
      | .nx η2 => sForL t b ys η2
      | .ct η2 => sForL t b ys η2
      | .bk η2 => .nx η2
      | .stuck => .stuck
      | .rt r η2 => .rt r η2
      | .exc x η2 => .exc x η2) := rfl
/-- a loop whose block goes on from word to word -/
theorem for_ind {α : Type} {t : Yd → Sl → Option Sl} {b : Sl → RS} (I : Nat → α → Sl → Prop) (ys : List Yd) (hs : ∀ i y a η, ys[i]? = some y → I i a η → ∃ η1 η2 a', t y η = some η1 ∧ (b η1 = .nx η2 ∨ b η1 = .ct η2) ∧ I (i + 1) a' η2) :
    ∀ {a η}, I 0 a η → ∃ a' η', sForL t b ys η = .nx η' ∧ I ys.length a' η' := by
  have gen : ∀ (k : Nat) (l : List Yd) (a : α) (η : Sl), (∀ j y, l[j]? = some y → ys[k + j]? = some y) → k + l.length = ys.length → I k a η → ∃ a' η', sForL t b l η = .nx η' ∧ I ys.length a' η' := by
    intro k l
    induction l generalizing k with
    | nil => intro a η _ hk h; exact ⟨a, η, rfl, by rw [← hk]; exact h⟩
    | cons y l ih =>
      intro a η hl hk h
      obtain ⟨η1, η2, a', h1, h2, h3⟩ := hs k y a η (hl 0 y rfl) h
      obtain ⟨a'', η', h4, h5⟩ := ih (k + 1) a' η2 (fun j z e => by rw [Nat.add_right_comm]; exact hl (j + 1) z (by simpa using e)) (by rw [← hk, List.length_cons]; omega) h3
      refine ⟨a'', η', ?_, h5⟩
      rw [for_cons, h1]
      rcases h2 with h2 | h2 <;> (simp only [h2]; exact h4)
  intro a η h
  exact gen 0 ys a η (fun j y e => by rw [Nat.zero_add]; exact e) (Nat.zero_add _) h
/-- while, by turns -/
theorem whN_mono {c : Sl → Res Bool} {b : Sl → RS} {r : RS} (hr : r ≠ .stuck) : ∀ {n m : Nat} {η : Sl}, n ≤ m → sWhN n c b η = r → sWhN m c b η = r
  | 0, m, η, _, h => absurd h.symm hr
  | n + 1, 0, η, hl, h => by omega
  | n + 1, m + 1, η, hl, h => by
    unfold sWhN sE at h ⊢
    cases e : c η with
    | stuck => rw [e] at h; exact absurd h.symm hr
    | exc x η1 => rw [e] at h; exact h
    | ok k η1 =>
      rw [e] at h
      cases k with
      | false => exact h
      | true =>
        simp only [if_true] at h ⊢
        cases e2 : b η1 with
        | stuck => rw [e2] at h; exact absurd h.symm hr
        | nx η2 => rw [e2] at h; exact whN_mono hr (Nat.le_of_succ_le_succ hl) h
        | ct η2 => rw [e2] at h; exact whN_mono hr (Nat.le_of_succ_le_succ hl) h
        | bk η2 => rw [e2] at h; exact h
        | rt r2 η2 => rw [e2] at h; exact h
        | exc x η2 => rw [e2] at h; exact h
theorem wh_of {c : Sl → Res Bool} {b : Sl → RS} {r : RS} {η : Sl} (n : Nat) (hn : n ≤ 1099511627776) (h : sWhN n c b η = r) (hr : r ≠ .stuck) : sWh c b η = r := whN_mono hr hn h
theorem whN_succ {c : Sl → Res Bool} {b : Sl → RS} {n : Nat} {η : Sl} : sWhN (n + 1) c b η = (match c η with
    | .stuck => .stuck
    | .exc x η1 => .exc x η1
    | .ok k η1 => if k = true then (match b η1 with
      | .nx η2 => sWhN n c b η2
      | .ct η2 => sWhN n c b η2
      | .bk η2 => .nx η2
      | .stuck => .stuck
      | .rt r η2 => .rt r η2
      | .exc x η2 => .exc x η2) else .nx η1) := by
  conv => lhs; unfold sWhN sE
  cases c η <;> rfl
end HM

set_option Elab.async false
set_option linter.all false
set_option maxRecDepth 100000
set_option maxHeartbeats 4000000
set_option autoImplicit false
/-! HS: equal data, data that may be compared, lists of numbers. -/
namespace HM
open PySem PySem.Spec PyProof.Rows L2
def Lay (n : Nat) (d : D) : Prop := d.canLay0 = true ∧ d.depth ≤ n
theorem Lay.shaped {n : Nat} {d : D} (h : Lay n d) (hn : n ≤ 64) : SeqAt.shaped d = true := by
  show (d.canLay0 && decide (d.depth ≤ 64)) = true
  rw [h.1, decide_eq_true (Nat.le_trans h.2 hn)]; rfl
theorem layAll {n : Nat} : ∀ {ds : List D}, (∀ d ∈ ds, Lay n d) → PyData.canLayAll0 ds = true ∧ PyData.depthAll ds ≤ n
  | [], _ => ⟨by simp only [PyData.canLayAll0], by simp only [PyData.depthAll]; exact Nat.zero_le _⟩
  | d :: ds, h => by
    obtain ⟨h1, h2⟩ := layAll (ds := ds) fun x hx => h x (List.mem_cons_of_mem _ hx)
    obtain ⟨g1, g2⟩ := h d List.mem_cons_self
    simp only [PyData.canLayAll0, PyData.depthAll]
    exact ⟨by rw [g1, h1]; rfl, by omega⟩
theorem layLst {n : Nat} {ds : List D} (h : ∀ d ∈ ds, Lay n d) : Lay (n + 1) (.list ds) := by
  obtain ⟨h1, h2⟩ := layAll h
  exact ⟨by simp only [PyData.canLay0]; exact h1, by simp only [PyData.depth]; omega⟩
theorem layTup {n : Nat} {ds : List D} (h : ∀ d ∈ ds, Lay n d) : Lay (n + 1) (.tuple ds) := by
  obtain ⟨h1, h2⟩ := layAll h
  exact ⟨by simp only [PyData.canLay0]; exact h1, by simp only [PyData.depth]; omega⟩
theorem lay_int {n : Nat} {i : Int} : Lay n (.int i) := ⟨by simp only [PyData.canLay0], by simp only [PyData.depth]; exact Nat.zero_le _⟩
theorem lay_bool {n : Nat} {i : Bool} : Lay n (.bool i) := ⟨by simp only [PyData.canLay0], by simp only [PyData.depth]; exact Nat.zero_le _⟩
theorem lay_none {n : Nat} : Lay n .none := ⟨by simp only [PyData.canLay0], by simp only [PyData.depth]; exact Nat.zero_le _⟩
@[simp] theorem shaped_int {i : Int} : SeqAt.shaped (.int i) = true := (lay_int (n := 0)).shaped (by decide)
@[simp] theorem shaped_bool {i : Bool} : SeqAt.shaped (.bool i) = true := (lay_bool (n := 0)).shaped (by decide)
@[simp] theorem shaped_none : SeqAt.shaped .none = true := (lay_none (n := 0)).shaped (by decide)
@[simp] theorem shaped_nil : SeqAt.shaped (.list []) = true := (layLst (n := 0) (ds := []) fun _ h => absurd h (List.not_mem_nil)).shaped (by decide)
theorem shaped_list {ds : List D} (h : ∀ d ∈ ds, Lay 60 d) : SeqAt.shaped (.list ds) = true := (layLst h).shaped (by decide)
theorem shaped_tup {ds : List D} (h : ∀ d ∈ ds, Lay 60 d) : SeqAt.shaped (.tuple ds) = true := (layTup h).shaped (by decide)
@[simp] theorem eqv_int {i j : Int} : PyData.eqv (.int i) (.int j) = (i == j) := by simp only [PyData.eqv]
@[simp] theorem eqv_str {i j : Str} : PyData.eqv (.str i) (.str j) = (i == j) := by simp only [PyData.eqv]
@[simp] theorem eqv_list {xs ys : List D} : PyData.eqv (.list xs) (.list ys) = PyData.eqvAll xs ys := by simp only [PyData.eqv]
@[simp] theorem eqv_tup {xs ys : List D} : PyData.eqv (.tuple xs) (.tuple ys) = PyData.eqvAll xs ys := by simp only [PyData.eqv]
theorem eqvAll_ints : ∀ {xs ys : List Int}, PyData.eqvAll (xs.map .int) (ys.map .int) = decide (xs = ys)
  | [], [] => by simp [PyData.eqvAll]
  | [], _ :: _ => by simp [PyData.eqvAll]
  | _ :: _, [] => by simp [PyData.eqvAll]
  | x :: xs, y :: ys => by
    simp only [List.map_cons, PyData.eqvAll, eqv_int, eqvAll_ints (xs := xs) (ys := ys)]
    by_cases h : x = y <;> simp [h]
theorem r_gEq {x y : D} (h1 : SeqAt.shaped x = true) (h2 : SeqAt.shaped y = true) : gEq false (.d x) (.d y) = some (.d (.bool (PyData.eqv x y))) := by
  show (if _ then _ else _) = _
  rw [if_pos ⟨h1, h2⟩]; rfl
theorem r_gNe {x y : D} (h1 : SeqAt.shaped x = true) (h2 : SeqAt.shaped y = true) : gEq true (.d x) (.d y) = some (.d (.bool (!PyData.eqv x y))) := by
  show (if _ then _ else _) = _
  rw [if_pos ⟨h1, h2⟩]; rfl
@[simp] theorem r_eqI {i j : Int} : gEq false (.d (.int i)) (.d (.int j)) = some (.d (.bool (i == j))) := by rw [r_gEq shaped_int shaped_int, eqv_int]
@[simp] theorem r_neI {i j : Int} : gEq true (.d (.int i)) (.d (.int j)) = some (.d (.bool (!(i == j)))) := by rw [r_gNe shaped_int shaped_int, eqv_int]
end HM

set_option Elab.async false
set_option linter.all false
set_option maxRecDepth 100000
set_option maxHeartbeats 0
set_option autoImplicit false
/-! the defs of k71 as plain functions of data (printed) -/
namespace HM
open PySem PySem.Spec PyProof.Rows L2
noncomputable section
def d_law_pen : Sl → RS := (sRetO (eLst (eaCons (eV 0) (eaCons (eP (pC (.int 0))) (eaCons (eP (pC (.int 0))) eaNil)))))
def g_law_pen : List D → FR := fnF 1 1 d_law_pen
def d_law_draw : Sl → RS := (sSeq (sIf (etP (tB1 (p2 gGt (p2 gIxA (pV 0) (pC (.int 2))) (pC (.int 0))))) (sSeq (sSet 2 (eP (p2 gMod (p2 gIxA (pV 0) (pC (.int 2))) (pV 1)))) (sSeq (sPut 0 (eP (pC (.int 2))) (eP (p2 gDiv (p2 gIxA (pV 0) (pC (.int 2))) (pV 1)))) (sRet (eV 2)))) sNx) (sSeq (sSet 3 (eP (p2 gIxA (pV 0) (pC (.int 1))))) (sSeq (sPut 0 (eP (pC (.int 1))) (eP (p2 gAdd (pV 3) (pC (.int 1))))) (sSeq (sSet 4 (eP (pC (.int 11)))) (sSeq (sIf (etP (tB1 (p2 gGt (pN (g1 gLen) (aCons (p2 gIxA (pV 0) (pC (.int 0))) aNil)) (pC (.int 0))))) (sSet 4 (eP (p2 gIxA (p2 gIxA (pV 0) (pC (.int 0))) (p2 gMod (pV 3) (pN (g1 gLen) (aCons (p2 gIxA (pV 0) (pC (.int 0))) aNil)))))) sNx) (sSeq (sIf (etP (tAnd2 (tB1 (p2 gLt (pV 3) (pN (g1 gLen) (aCons (p2 gIxA (pV 0) (pC (.int 0))) aNil)))) (tB1 (p2 gGe (pN (g1 gAbs) (aCons (pV 4) aNil)) (p2 gPow (pC (.int 10)) (pC (.int 18))))))) (sSeq (sPut 0 (eP (pC (.int 2))) (eP (p2 gDiv (pN (g1 gAbs) (aCons (pV 4) aNil)) (pV 1)))) (sRet (eP (p2 gMod (pN (g1 gAbs) (aCons (pV 4) aNil)) (pV 1))))) sNx) (sSeq (sSet 5 (eP (p2 gMod (p2 gMulI (p2 gAdd (p2 gAdd (p2 gMod (pV 4) (pC (.int 2147483587))) (p2 gMulI (pC (.int 39119)) (pV 3))) (pC (.int 17))) (pC (.int 48271))) (pC (.int 2147483647))))) (sSeq (sSet 5 (eP (p2 gMod (p2 gAdd (p2 gAdd (p2 gMulI (pV 5) (pV 5)) (p2 gMulI (pC (.int 69623)) (pV 5))) (pV 3)) (pC (.int 2147483629))))) (sRet (eP (p2 gMod (p2 gDiv (p2 gMod (p2 gMulI (pV 5) (p2 gAdd (p2 gMod (pV 5) (pC (.int 65519))) (pC (.int 3)))) (pC (.int 2147483563))) (pC (.int 64))) (pV 1))))))))))))
def g_law_draw : List D → List D → FM := fnM 1 6 d_law_draw
def d_law_order : Sl → RS := (sSeq (sSetO 2 (eoP (oRg1 (pV 1)))) (sRet (eFrz (eLc [3] (iRg rngD1 (eaCons (eV 1) eaNil)) (tgV 3) yesE (eM 2 lPopAt (eaCons (eCallM 0 g_law_draw (eaCons (eP (pN (g1 gLen) (aCons (pV 2) aNil))) eaNil)) eaNil))))))
def g_law_order : List D → List D → FM := fnM 1 4 d_law_order
def d_law_turn : Sl → RS := (sSeq (sSet 2 (eCallM 0 g_law_draw (eaCons (eP (pC (.int 5))) eaNil))) (sSeq (sSet 3 (eCallM 0 g_law_order (eaCons (eV 1) eaNil))) (sSeq (sSetO 4 (eoP (oRg1 (pV 1)))) (sSeq (sIf (etP (tB1 (p2 (gEq false) (pV 2) (pC (.int 0))))) (sRet (eP (pN (g1 gTup) (aCons (pV 4) aNil)))) sNx) (sSeq (sIf (etP (tB1 (p2 (gEq false) (pV 2) (pC (.int 1))))) (sFor (iRg rngD1 (eaCons (eV 1) eaNil)) (tgV 5) (sPut 4 (eP (p2 gIxA (pV 3) (p2 gSub (pV 5) (pC (.int 1))))) (eP (p2 gIxA (pV 3) (pV 5))))) (sIf (etP (tB1 (p2 (gEq false) (pV 2) (pC (.int 2))))) (sFor (iRg rngD3 (eaCons (eP (pC (.int 1))) (eaCons (eV 1) (eaCons (eP (pC (.int 2))) eaNil)))) (tgV 5) (sSeq (sPut 4 (eP (p2 gIxA (pV 3) (p2 gSub (pV 5) (pC (.int 1))))) (eP (p2 gIxA (pV 3) (pV 5)))) (sPut 4 (eP (p2 gIxA (pV 3) (pV 5))) (eP (p2 gIxA (pV 3) (p2 gSub (pV 5) (pC (.int 1)))))))) (sSet 4 (eV 3)))) (sRet (eP (pN (g1 gTup) (aCons (pV 4) aNil)))))))))
def g_law_turn : List D → List D → FM := fnM 1 6 d_law_turn
def d_law_text : Sl → RS := (sSeq (sSetO 1 (eoP (oLst aNil))) (sSeq (sSetO 2 (eoP oNewK)) (sSeq (sFor (iRg rngD1 (eaCons (eP (pN (g1 gLen) (aCons (pV 0) aNil))) eaNil)) (tgV 3) (sSeq (sSetO 4 (eoP (oLst aNil))) (sSeq (sSet 5 (eV 3)) (sSeq (sWh (etP (tB1 (p2 (gIn true) (pV 5) (pV 2)))) (sSeq (sPutD 2 (eV 5) (eP (pC (.bool true)))) (sSeq (sDrop (eM 4 lAppend (eaCons (eP (pN (g1 gStr) (aCons (pV 5) aNil))) eaNil))) (sSet 5 (eP (p2 gIxA (pV 0) (pV 5))))))) (sIf (etP (tB1 (p2 gGt (pN (g1 gLen) (aCons (pV 4) aNil)) (pC (.int 1))))) (sDrop (eM 1 lAppend (eaCons (eP (p2 gAdd (p2 gAdd (pC (.str (Str.ofString "("))) (pMt isStr (m1 gJoin) (pC (.str (Str.ofString " "))) (aCons (pV 4) aNil))) (pC (.str (Str.ofString ")"))))) eaNil))) sNx))))) (sRet (eP (pOrT (pMt isStr (m1 gJoin) (pC (.str (Str.ofString " "))) (aCons (pV 1) aNil)) (pC (.str (Str.ofString "()")))))))))
def g_law_text : List D → FR := fnF 1 6 d_law_text
def d_rings : Sl → RS := (sSeq (sSetO 1 (eoP (oLst aNil))) (sSeq (sSetO 2 (eoP (oLst aNil))) (sSeq (sFor (iRg rngD1 (eaCons (eP (pN (g1 gLen) (aCons (pV 0) aNil))) eaNil)) (tgV 3) (sIf (etP (tB1 (p2 (gIn true) (pV 3) (pV 2)))) (sSeq (sSetO 4 (eLst (eaCons (eV 3) eaNil))) (sSeq (sWh (etP (tB1 (p2 (gEq true) (p2 gIxA (pV 0) (p2 gIxA (pV 4) (p1 gNeg (pC (.int 1))))) (pV 3)))) (sDrop (eM 4 lAppend (eaCons (eP (p2 gIxA (pV 0) (p2 gIxA (pV 4) (p1 gNeg (pC (.int 1)))))) eaNil)))) (sSeq (sDrop (eXtP 2 (pV 4))) (sDrop (eM 1 lAppend (eaCons (eV 4) eaNil)))))) sNx)) (sRet (eV 1)))))
def g_rings : List D → FR := fnF 1 5 d_rings
def d_show_numbers : Sl → RS := (sRet (eP (pMt isStr (m1 gJoin) (pC (.str (Str.ofString " "))) (aCons (frz (oLc [1] (ipSq (pV 0)) (tgV 1) yesP (pN (g1 gStr) (aCons (pV 1) aNil)))) aNil))))
def g_show_numbers : List D → FR := fnF 1 2 d_show_numbers
def d_show_turn : Sl → RS := (sSeq (sSetO 1 (eLc [2] (iSq (eCall g_rings (eaCons (eV 0) eaNil))) (tgV 2) (etP (tB1 (p2 gGt (pN (g1 gLen) (aCons (pV 2) aNil)) (pC (.int 1))))) (e2 gAdd (e2 gAdd (eP (pC (.str (Str.ofString "(")))) (eCall g_show_numbers (eaCons (eV 2) eaNil))) (eP (pC (.str (Str.ofString ")"))))))) (sRet (eP (pOrT (pMt isStr (m1 gJoin) (pC (.str (Str.ofString " "))) (aCons (pV 1) aNil)) (pC (.str (Str.ofString "()")))))))
def g_show_turn : List D → FR := fnF 1 3 d_show_turn
def d_is_whole : Sl → RS := (sRet (eP (pAnd (p1 (gIsi "int") (pV 0)) (pB (tNot1 (tB1 (p1 (gIsi "bool") (pV 0))))))))
def g_is_whole : List D → FR := fnF 1 1 d_is_whole
def d_turn_of : Sl → RS := (sSeq (sIf (etP (tNot1 (tB1 (pCh gLe gLe (pC (.int 1)) (pV 0) (pC (.int 7)))))) (fun _ => .stuck) sNx) (sSeq (sSetO 2 (eoP (oRg1 (pV 0)))) (sSeq (sSetO 3 (eoP (oLst aNil))) (sSeq (sFor (iRg rngD1 (eaCons (eP (pN (g1 gLen) (aCons (pV 1) aNil))) eaNil)) (tgV 4) (sSeq (sSet 5 (eP (p2 gIxA (pV 1) (pV 4)))) (sSeq (sIf (etP (tB1 (p2 (gEq false) (pV 5) (frz (oLst aNil))))) (fun _ => .stuck) sNx) (sSeq (sFor (iSq (eV 5)) (tgV 6) (sSeq (sIf (etOr (etNot (etB (eCall g_is_whole (eaCons (eV 6) eaNil)))) (etOr (etP (tNot1 (tB1 (pCh gLe gLt (pC (.int 0)) (pV 6) (pV 0))))) (etP (tB1 (p2 (gIn false) (pV 6) (pV 3)))))) (fun _ => .stuck) sNx) (sDrop (eM 3 lAppend (eaCons (eV 6) eaNil))))) (sFor (iRg rngD1 (eaCons (eP (pN (g1 gLen) (aCons (pV 5) aNil))) eaNil)) (tgV 7) (sPut 2 (eP (p2 gIxA (pV 5) (p2 gSub (pV 7) (pC (.int 1))))) (eP (p2 gIxA (pV 5) (pV 7))))))))) (sRet (eP (pN (g1 gTup) (aCons (pV 2) aNil))))))))
def g_turn_of : List D → FR := fnF 2 8 d_turn_of
def d_is_number : Sl → RS := (sSeq (sIf (etP (tOr2 (tNot1 (tB1 (pCh gLe gLe (pC (.int 1)) (pN (g1 gLen) (aCons (pV 0) aNil)) (pC (.int 30))))) (tNot1 (tB1 (pN (g1 gAll) (aCons (frz (oLc [1] (ipSq (pV 0)) (tgV 1) yesP (p2 (gIn false) (pV 1) (pC (.str (Str.ofString "0123456789")))))) aNil)))))) (sRet (eP (pC (.bool false)))) sNx) (sRet (eP (pOr (p2 (gEq false) (pV 0) (pC (.str (Str.ofString "0")))) (p2 (gEq true) (p2 gIxA (pV 0) (pC (.int 0))) (pC (.str (Str.ofString "0"))))))))
def g_is_number : List D → FR := fnF 1 2 d_is_number
def d_rings_in : Sl → RS := (sSeq (sIf (etP (tB1 (p2 (gEq false) (pV 0) (pC (.str (Str.ofString "()")))))) (sRet (eP (frz (oLst aNil)))) sNx) (sSeq (sIf (etP (tOr2 (tB1 (p2 (gEq true) (pSl (pV 0) oNo (oSo (pC (.int 1)))) (pC (.str (Str.ofString "("))))) (tB1 (p2 (gEq true) (pSl (pV 0) (oSo (p1 gNeg (pC (.int 1)))) oNo) (pC (.str (Str.ofString ")"))))))) (fun _ => .stuck) sNx) (sSeq (sSetO 1 (eoP (oLst aNil))) (sSeq (sFor (iSq (eP (frz (oMt isStr (m1 oSplit) (pSl (pV 0) (oSo (pC (.int 1))) (oSo (p1 gNeg (pC (.int 1))))) (aCons (pC (.str (Str.ofString ") ("))) aNil))))) (tgV 2) (sSeq (sSetO 3 (eoP (oMt isStr (m1 oSplit) (pV 2) (aCons (pC (.str (Str.ofString " "))) aNil)))) (sSeq (sIf (etNot (etB (eN (g1 gAll) (eaCons (eFrz (eLc [4] (iSq (eV 3)) (tgV 4) yesE (eCall g_is_number (eaCons (eV 4) eaNil)))) eaNil)))) (fun _ => .stuck) sNx) (sDrop (eM 1 lAppend (eaCons (eP (frz (oLc [4] (ipSq (pV 3)) (tgV 4) yesP (pN (g1 gInt) (aCons (pV 4) aNil))))) eaNil)))))) (sRet (eV 1))))))
def g_rings_in : List D → FR := fnF 1 5 d_rings_in
def d_read_turn : Sl → RS := (sSeq (sIf (etP (tNot1 (tB1 (p1 (gIsi "str") (pV 1))))) (fun _ => .stuck) sNx) (sSeq (noExc (sSet 2 (eCall g_turn_of (eaCons (eV 0) (eaCons (eCall g_rings_in (eaCons (eV 1) eaNil)) eaNil))))) (sSeq (sIf (etB (e2 (gEq true) (eCall g_show_turn (eaCons (eV 2) eaNil)) (eV 1))) (fun _ => .stuck) sNx) (sRet (eV 2)))))
def g_read_turn : List D → FR := fnF 2 3 d_read_turn
def d_law : Sl → RS := (sSeq (sSetO 1 (eoCall g_law_pen (eaCons (eV 0) eaNil))) (sSeq (sFor (iRg rngD1 (eaCons (eP (pC (.int 12))) eaNil)) (tgV 2) (sSeq (sSet 3 (e2 gAdd (eP (pC (.int 1))) (eCallM 1 g_law_draw (eaCons (eP (pC (.int 7))) eaNil)))) (sSeq (sSet 4 (eCallM 1 g_law_turn (eaCons (eV 3) eaNil))) (sSeq (sSet 5 (eCall g_law_text (eaCons (eV 4) eaNil))) (sSeq (sSet 6 (eP (p2 gAdd (pV 4) (pTg2 (pV 3) (pC (.int 7)))))) (sFor (iRg rngD1 (eaCons (eP (pC (.int 2))) eaNil)) (tgV 7) (sSeq (sIf (etOr (etB (e2 (gEq true) (eCall g_show_turn (eaCons (eV 4) eaNil)) (eV 5))) (etB (e2 (gEq true) (eN (g1 gRepr) (eaCons (eCall g_read_turn (eaCons (eV 3) (eaCons (eV 5) eaNil))) eaNil)) (eP (pN (g1 gRepr) (aCons (pV 4) aNil)))))) (sRet (eP (pC (.bool false)))) sNx) (sIf (etOr (etB (e2 (gEq true) (eN (g1 gRepr) (eaCons (eCall g_read_turn (eaCons (eP (pC (.int 7))) (eaCons (eV 5) eaNil))) eaNil)) (eP (pN (g1 gRepr) (aCons (pV 6) aNil))))) (etB (e2 (gEq true) (eCall g_show_turn (eaCons (eV 6) eaNil)) (eV 5)))) (sRet (eP (pC (.bool false)))) sNx)))))))) (sRet (eP (pC (.bool true))))))
def g_law : List D → FR := fnF 1 8 d_law
end
end HM

set_option Elab.async false
set_option linter.all false
set_option maxRecDepth 100000
set_option maxHeartbeats 4000000
set_option autoImplicit false
/-! T1: the pen's digits. -/
namespace HM
open PySem PySem.Spec PyProof.Rows L2
def pen (ns : List Int) (a r : Int) : List D := [.list (ns.map .int), .int a, .int r]
theorem log_le {i : Int} (n : Nat) (h1 : -(2 ^ n) < i) (h2 : i < 2 ^ n) : i.natAbs.log2 ≤ n := by
  by_cases h : i.natAbs = 0
  · rw [h]; exact Nat.zero_le _
  · refine Nat.le_of_lt ((Nat.log2_lt h).mpr ?_)
    have e : ((2 ^ n : Nat) : Int) = 2 ^ n := by simp
    omega
theorem draw_pos (ns : List Int) (a r m : Int) (hr : 0 < r) (hm : 0 < m) (hm2 : m.natAbs.log2 < 9000) : g_law_draw (pen ns a r) [.int m] = .ok (.d (.int (r % m))) (pen ns a (r / m)) := by
  simp [g_law_draw, d_law_draw, pen, hr, hm, hm2, fnM, atI, ixN]
def mix1 (c a : Int) : Int := (c % 2147483587 + 39119 * a + 17) * 48271 % 2147483647
def mix2 (n a : Int) : Int := (n * n + 69623 * n + a) % 2147483629
def mix (c a m : Int) : Int := mix2 (mix1 c a) a * (mix2 (mix1 c a) a % 65519 + 3) % 2147483563 / 64 % m
structure MixOk (c a : Int) : Prop where
  f1 : Nat.log2 39119 + a.natAbs.log2 < 1000000
  f2 : (c % 2147483587 + 39119 * a + 17).natAbs.log2 + Nat.log2 48271 < 1000000
  f3 : (mix1 c a).natAbs.log2 + (mix1 c a).natAbs.log2 < 1000000
  f4 : Nat.log2 69623 + (mix1 c a).natAbs.log2 < 1000000
  f5 : (mix2 (mix1 c a) a).natAbs.log2 + (mix2 (mix1 c a) a % 65519 + 3).natAbs.log2 < 1000000
theorem mix_ok (c a : Int) (h0 : 0 ≤ a) (h1 : a ≤ 1000000000) : MixOk c a := by
  have l1 : a.natAbs.log2 ≤ 40 := log_le 40 (by omega) (by omega)
  have b0 : 0 ≤ c % 2147483587 := Int.emod_nonneg _ (by decide)
  have b1 : c % 2147483587 < 2147483587 := Int.emod_lt_of_pos _ (by decide)
  have l2 : (c % 2147483587 + 39119 * a + 17).natAbs.log2 ≤ 60 := log_le 60 (by omega) (by omega)
  have m0 : 0 ≤ mix1 c a := Int.emod_nonneg _ (by decide)
  have m1 : mix1 c a < 2147483647 := Int.emod_lt_of_pos _ (by decide)
  have l3 : (mix1 c a).natAbs.log2 ≤ 40 := log_le 40 (by omega) (by omega)
  have n0 : 0 ≤ mix2 (mix1 c a) a := Int.emod_nonneg _ (by decide)
  have n1 : mix2 (mix1 c a) a < 2147483629 := Int.emod_lt_of_pos _ (by decide)
  have l4 : (mix2 (mix1 c a) a).natAbs.log2 ≤ 40 := log_le 40 (by omega) (by omega)
  have l5 : (mix2 (mix1 c a) a % 65519 + 3).natAbs.log2 ≤ 40 := log_le 40 (by omega) (by omega)
  have k1 : Nat.log2 39119 ≤ 40 := by decide
  have k2 : Nat.log2 48271 ≤ 40 := by decide
  have k3 : Nat.log2 69623 ≤ 40 := by decide
  exact ⟨by omega, by omega, by omega, by omega, by omega⟩
theorem log_small {m : Int} (h0 : 0 < m) (h1 : m ≤ 1000000000) : m.natAbs.log2 < 9000 := Nat.lt_of_le_of_lt (log_le 40 (by omega) (by omega)) (by decide)
theorem at0 {α : Type} {x : α} {xs : List α} : atI (x :: xs) 0 = some x := by simp [atI, ixN]
theorem at1 {α : Type} {x y : α} {xs : List α} : atI (x :: y :: xs) 1 = some y := by
  have h : (1 : Int) < ((x :: y :: xs).length : Nat) := by simp only [List.length_cons]; omega
  unfold atI ixN
  rw [if_pos (by decide), if_pos h]; rfl
theorem at2 {α : Type} {x y z : α} {xs : List α} : atI (x :: y :: z :: xs) 2 = some z := by
  have h : (2 : Int) < ((x :: y :: z :: xs).length : Nat) := by simp only [List.length_cons]; omega
  unfold atI ixN
  rw [if_pos (by decide), if_pos h]; rfl
theorem k64 : Nat.log2 64 < 9000 := by decide
theorem draw_nil (a m : Int) (ha : 0 ≤ a) (ha2 : a ≤ 1000000000) (hm : 0 < m) (hm2 : m.natAbs.log2 < 9000) : g_law_draw (pen [] a 0) [.int m] = .ok (.d (.int (mix 11 a m))) (pen [] (a + 1) 0) := by
  obtain ⟨f1, f2, f3, f4, f5⟩ := mix_ok 11 a ha ha2
  have e1 : (11 : Int) % 2147483587 = 11 := by decide
  simp only [mix1, mix2] at f3 f4 f5
  rw [e1] at f2 f3 f4 f5
  have h : ¬ a < 0 := by omega
  simp [g_law_draw, d_law_draw, pen, hm, hm2, fnM, ixN, at0, at1, at2, k64, f1, f2, f3, f4, f5, h, mix, mix1, mix2]
theorem draw_cell (ns : List Int) (a m c : Int) (ha : 0 ≤ a) (ha2 : a ≤ 1000000000) (hm : 0 < m) (hm2 : m.natAbs.log2 < 9000) (hn : 0 < ns.length) (hc : atI (ns.map PyData.int) (a % (ns.length : Int)) = some (.int c)) :
    g_law_draw (pen ns a 0) [.int m] = if a < ns.length ∧ 1000000000000000000 ≤ (if c < 0 then -c else c) then .ok (.d (.int ((if c < 0 then -c else c) % m))) (pen ns (a + 1) ((if c < 0 then -c else c) / m)) else .ok (.d (.int (mix c a m))) (pen ns (a + 1) 0) := by
  obtain ⟨f1, f2, f3, f4, f5⟩ := mix_ok c a ha ha2
  simp only [mix1, mix2] at f3 f4 f5
  have h : ¬ a < 0 := by omega
  have hn' : ns ≠ [] := fun e => by rw [e] at hn; exact absurd hn (by decide)
  have hn2 : (0 : Int) < ns.length := by omega
  by_cases h1 : a < ns.length
  · by_cases h2 : 1000000000000000000 ≤ (if c < 0 then -c else c)
    · rw [if_pos ⟨h1, h2⟩]
      simp [g_law_draw, d_law_draw, pen, hm, hm2, fnM, ixN, at0, at1, at2, k64, f1, f2, f3, f4, f5, h, hn, hn', hn2, h1, h2, hc]
    · rw [if_neg (fun z => h2 z.2)]
      simp [g_law_draw, d_law_draw, pen, hm, hm2, fnM, ixN, at0, at1, at2, k64, f1, f2, f3, f4, f5, h, hn, hn', hn2, h1, h2, hc, mix, mix1, mix2]
  · rw [if_neg (fun z => h1 z.1)]
    simp [g_law_draw, d_law_draw, pen, hm, hm2, fnM, ixN, at0, at1, at2, k64, f1, f2, f3, f4, f5, h, hn, hn', hn2, h1, hc, mix, mix1, mix2]
/-- the pen stands: n digits drawn at most -/
def PenOk (n : Nat) (p : List D) : Prop := ∃ ns a r, p = pen ns a r ∧ 0 ≤ a ∧ a ≤ n ∧ 0 ≤ r
theorem draw_ok {n : Nat} {p : List D} {m : Int} (h : PenOk n p) (hn : n ≤ 1000000000) (hm : 0 < m) (hm2 : m ≤ 1000000000) : ∃ d p', g_law_draw p [.int m] = .ok (.d (.int d)) p' ∧ 0 ≤ d ∧ d < m ∧ PenOk (n + 1) p' := by
  obtain ⟨ns, a, r, rfl, ha, hb, hr⟩ := h
  have hl := log_small hm hm2
  have pos : ∀ x : Int, 0 ≤ x % m ∧ x % m < m := fun x => ⟨Int.emod_nonneg _ (by omega), Int.emod_lt_of_pos _ hm⟩
  by_cases h0 : 0 < r
  · exact ⟨_, _, draw_pos ns a r m h0 hm hl, (pos r).1, (pos r).2, ns, a, r / m, rfl, ha, by omega, Int.ediv_nonneg hr (by omega)⟩
  · have e : r = 0 := by omega
    subst e
    by_cases hz : ns.length = 0
    · have e : ns = [] := List.length_eq_zero_iff.mp hz
      subst e
      exact ⟨_, _, draw_nil a m ha (by omega) hm hl, (pos _).1, (pos _).2, [], a + 1, 0, rfl, by omega, by omega, by omega⟩
    · have hp : (0 : Int) < ns.length := by omega
      have q0 := Int.emod_nonneg a (show (ns.length : Int) ≠ 0 by omega)
      have q1 := Int.emod_lt_of_pos a hp
      have hlt : (a % (ns.length : Int)).toNat < ns.length := by omega
      have hc : atI (ns.map PyData.int) (a % (ns.length : Int)) = some (.int ns[(a % (ns.length : Int)).toNat]) := by
        simp [atI, ixN, q0, q1, hlt]
      have g := draw_cell ns a m _ ha (by omega) hm hl (by omega) hc
      by_cases hh : a < ns.length ∧ 1000000000000000000 ≤ (if ns[(a % (ns.length : Int)).toNat] < 0 then -ns[(a % (ns.length : Int)).toNat] else ns[(a % (ns.length : Int)).toNat])
      · rw [if_pos hh] at g
        exact ⟨_, _, g, (pos _).1, (pos _).2, ns, a + 1, _, rfl, by omega, by omega, Int.ediv_nonneg (by split <;> omega) (by omega)⟩
      · rw [if_neg hh] at g
        exact ⟨_, _, g, (pos _).1, (pos _).2, ns, a + 1, 0, rfl, by omega, by omega, by omega⟩
end HM

set_option Elab.async false
set_option linter.all false
set_option maxRecDepth 100000
set_option maxHeartbeats 4000000
set_option autoImplicit false
/-! T2: drawn orders. -/
namespace HM
open PySem PySem.Spec PyProof.Rows L2
abbrev nD (k : Nat) : D := .int (k : Nat)
theorem rgD_nat (m : Nat) : rgD 0 m = (List.range m).map nD := by
  unfold rgD
  refine List.map_congr_left fun k _ => ?_
  show PyData.int (0 + (k : Nat)) = _
  rw [Int.zero_add]
theorem rgL_nat {m : Nat} (h : m ≤ 16777216) : rgL 0 (m : Int) = some ((List.range m).map nD) := by
  have ok : RgOk 0 (m : Int) := RgOk.of_le (by omega) (by omega) (by omega) (by omega)
  unfold rgL
  rw [if_pos ok, Int.sub_zero, Int.toNat_natCast, rgD_nat]
theorem okI_nat {m : Nat} (h : m ≤ 16777216) : okI (m : Int) = true := by unfold okI; exact @decide_eq_true _ (Classical.propDecidable _) (by omega)
theorem rng1_nat {m : Nat} (h : m ≤ 16777216) : rngD1 [.int (m : Int)] = some ((List.range m).map nD) := by
  simp only [r_rng1, okI_nat h, if_true, Int.toNat_natCast, rgD_nat]
theorem ixN_nat {n k : Nat} (h : k < n) : ixN n (k : Int) = some k := by
  unfold ixN
  rw [if_pos (by omega), if_pos (by omega), Int.toNat_natCast]
theorem lPopAt_nat {ds : List D} {k : Nat} {d : D} (h : ds[k]? = some d) (hz : ds.length ≤ 16777216) : lPopAt ds [.int (k : Int)] = some (d, ds.eraseIdx k) := by
  have hk := (List.getElem?_eq_some_iff.mp h).1
  show (ixN ds.length (k : Int)).bind _ = _
  rw [ixN_nat hk]
  show (ds[k]?).bind _ = _
  rw [h]
  show (if _ then _ else _) = _
  rw [if_pos hz]
/-- the slots within the block -/
abbrev oSl (p : List D) (m : Int) (left : List D) : Sl := [.mu (.lst p), .val (.int m), .own (.lst left), .non]
theorem erase_perm {α : Type} {l : List α} {k : Nat} (h : k < l.length) : (l[k] :: l.eraseIdx k).Perm l := by
  rw [List.eraseIdx_eq_take_drop_succ]
  have e : l.take k ++ l[k] :: l.drop (k + 1) = l := by rw [← List.drop_eq_getElem_cons h, List.take_append_drop]
  exact List.perm_middle.symm.trans (by rw [e])
theorem order_ind (m : Int) : ∀ (ys : List D) (left : List Nat) (acc : List D) (n : Nat) (p : List D), ys.length = left.length → PenOk n p → n + left.length ≤ 1000000000 → acc.length + left.length ≤ 16777216 →
    ∃ (rest : List Nat) (p' : List D), lcE [3] (tgV 3) yesE (eM 2 lPopAt (eaCons (eCallM 0 g_law_draw (eaCons (eP (pN (g1 gLen) (aCons (pV 2) aNil))) eaNil)) eaNil)) (ys.map .d) acc (oSl p m (left.map nD)) = .ok (acc ++ rest.map nD) (oSl p' m []) ∧ rest.Perm left ∧ PenOk (n + left.length) p'
  | [], left, acc, n, p, hl, hp, _, _ => by
    have e : left = [] := List.length_eq_zero_iff.mp hl.symm
    subst e
    exact ⟨[], p, by simp [lcE], List.Perm.refl _, hp⟩
  | y :: ys, left, acc, n, p, hl, hp, hn, hz => by
    have hpos : 0 < left.length := by rw [← hl]; simp
    obtain ⟨d, p1, h1, h2, h3, h4⟩ := draw_ok (m := (left.length : Int)) hp (by omega) (by omega) (by omega)
    obtain ⟨k, rfl⟩ := Int.eq_ofNat_of_zero_le h2
    have hk : k < left.length := by omega
    have hx : (left.map nD)[k]? = some (nD left[k]) := by rw [List.getElem?_map, List.getElem?_eq_getElem hk]; rfl
    have hll : (left.eraseIdx k).length = left.length - 1 := by rw [List.length_eraseIdx]; simp [hk]
    have he : (left.map nD).eraseIdx k = (left.eraseIdx k).map nD := by rw [List.eraseIdx_eq_take_drop_succ, List.eraseIdx_eq_take_drop_succ, List.map_append, List.map_take, List.map_drop]
    obtain ⟨rest, p', g1, g2, g3⟩ := order_ind m ys (left.eraseIdx k) (acc ++ [nD left[k]]) (n + 1) p1 (by rw [hll, ← hl]; simp) h4 (by rw [hll]; omega) (by rw [hll, List.length_append]; simp; omega)
    refine ⟨left[k] :: rest, p', ?_, (List.Perm.cons _ g2).trans (erase_perm hk), ?_⟩
    · have hpop := lPopAt_nat hx (by rw [List.length_map]; omega)
      rw [he] at hpop
      have ha : acc.length < 16777216 := by omega
      simp only [List.map_cons, lcE]
      simp [h1, hpop, ha, oSl] at g1 ⊢
      exact g1
    · rw [hll] at g3
      have e : n + 1 + (left.length - 1) = n + left.length := by omega
      rw [e] at g3; exact g3
theorem order_ok {n m : Nat} {p : List D} (hp : PenOk n p) (hm : m ≤ 1000) (hn : n ≤ 1000000) : ∃ (l : List Nat) (p' : List D), g_law_order p [.int (m : Int)] = .ok (.d (.list (l.map nD))) p' ∧ l.Perm (List.range m) ∧ PenOk (n + m) p' := by
  obtain ⟨l, p', h1, h2, h3⟩ := order_ind (m : Int) ((List.range m).map nD) (List.range m) [] n p (by simp) hp (by simp; omega) (by simp; omega)
  refine ⟨l, p', ?_, h2, by simpa using h3⟩
  simp [g_law_order, d_law_order, fnM, rgL_nat (show m ≤ 16777216 by omega), rng1_nat (show m ≤ 16777216 by omega), oSl] at h1 ⊢
  simp [h1]
end HM

set_option Elab.async false
set_option linter.all false
set_option maxRecDepth 100000
set_option maxHeartbeats 4000000
set_option autoImplicit false
/-! T3: drawn turns. -/
namespace HM
open PySem PySem.Spec PyProof.Rows L2
/-! ### all orders of few things -/
def picks : List Nat → List (Nat × List Nat)
  | [] => []
  | x :: xs => (x, xs) :: (picks xs).map fun p => (p.1, x :: p.2)
def permsN : Nat → List Nat → List (List Nat)
  | 0, _ => [[]]
  | n + 1, l => (picks l).flatMap fun p => (permsN n p.2).map (p.1 :: ·)
theorem mem_picks {x : Nat} : ∀ {l : List Nat}, x ∈ l → ∃ r, (x, r) ∈ picks l ∧ (x :: r).Perm l
  | y :: ys, h => by
    rcases List.mem_cons.mp h with rfl | h
    · exact ⟨ys, List.mem_cons_self, List.Perm.refl _⟩
    · obtain ⟨r, h1, h2⟩ := mem_picks h
      exact ⟨y :: r, List.mem_cons_of_mem _ (List.mem_map.mpr ⟨(x, r), h1, rfl⟩), (List.Perm.swap y x r).trans (List.Perm.cons y h2)⟩
theorem mem_permsN : ∀ {p l : List Nat}, p.Perm l → p ∈ permsN l.length l
  | [], l, h => by
    have e := h.length_eq
    have : l = [] := List.length_eq_zero_iff.mp e.symm
    subst this
    exact List.mem_cons_self
  | x :: xs, l, h => by
    have e := h.length_eq
    obtain ⟨r, h1, h2⟩ := mem_picks (h.mem_iff.mp (List.mem_cons_self (a := x) (l := xs)))
    have h3 : xs.Perm r := List.Perm.cons_inv (h.trans h2.symm)
    have e2 : l.length = r.length + 1 := by rw [← e, List.length_cons, h3.length_eq]
    rw [e2]
    exact List.mem_flatMap.mpr ⟨(x, r), h1, List.mem_map.mpr ⟨xs, by rw [show (x, r).2 = r from rfl, ← h3.length_eq, h3.length_eq]; exact mem_permsN h3, rfl⟩⟩
/-- the turns of m things -/
abbrev turns (m : Nat) : List (List Nat) := permsN m (List.range m)
theorem mem_turns {m : Nat} {t : List Nat} (h : t.Perm (List.range m)) : t ∈ turns m := by
  have z := mem_permsN h
  rw [List.length_range] at z; exact z
theorem perm_len {m : Nat} {t : List Nat} (h : t.Perm (List.range m)) : t.length = m := by rw [h.length_eq, List.length_range]
theorem perm_lt {m : Nat} {t : List Nat} (h : t.Perm (List.range m)) {x : Nat} (hx : x ∈ t) : x < m := List.mem_range.mp (h.mem_iff.mp hx)
/-! ### lists of numbers as data -/
theorem getD_nD {l : List Nat} {k : Nat} (h : k < l.length) : (l.map nD)[k]? = some (nD (l.getD k 0)) := by
  rw [List.getElem?_map, List.getElem?_eq_getElem h, List.getD_eq_getElem?_getD, List.getElem?_eq_getElem h]; rfl
theorem atI_nD {l : List Nat} {k : Nat} (h : k < l.length) : atI (l.map nD) (k : Int) = some (nD (l.getD k 0)) := by
  unfold atI
  rw [List.length_map, ixN_nat h]
  exact getD_nD h
/-- the one before, turned about -/
abbrev before (k n : Nat) : Nat := if k = 0 then n - 1 else k - 1
theorem atI_before {l : List Nat} {k : Nat} (h : k < l.length) : atI (l.map nD) ((k : Int) - 1) = some (nD (l.getD (before k l.length) 0)) := by
  by_cases hk : k = 0
  · subst hk
    have e : ixN (l.map nD).length ((0 : Nat) - 1 : Int) = some (l.length - 1) := by
      unfold ixN
      rw [List.length_map, if_neg (by omega), if_pos (by omega)]
      congr 1; omega
    unfold atI
    rw [e]
    show (l.map nD)[l.length - 1]? = _
    rw [getD_nD (by omega)]; rfl
  · have e : ((k : Int) - 1) = ((k - 1 : Nat) : Int) := by omega
    rw [e, atI_nD (by omega)]
    unfold before
    rw [if_neg hk]
/-! ### the two drawn forms -/
def stepR (l f : List Nat) (k : Nat) : List Nat := f.set (l.getD (before k l.length) 0) (l.getD k 0)
def ringR (l : List Nat) : List Nat := (List.range l.length).foldl (stepR l) (List.range l.length)
def stepP (l f : List Nat) (k : Nat) : List Nat := (f.set (l.getD (before k l.length) 0) (l.getD k 0)).set (l.getD k 0) (l.getD (before k l.length) 0)
def oddsN (m : Nat) : List Nat := (List.range (m / 2)).map fun i => 2 * i + 1
def pairsP (l : List Nat) : List Nat := (oddsN l.length).foldl (stepP l) (List.range l.length)
theorem set_nD (l : List Nat) (i x : Nat) : (l.map nD).set i (nD x) = (l.set i x).map nD := by rw [List.map_set]
abbrev tSl (p : List D) (m w : D) (l f : List Nat) (s : Slot) : Sl := [.mu (.lst p), .val m, .val w, .val (.list (l.map nD)), .own (.lst (f.map nD)), s]
theorem ring_ind {p : List D} {m w : D} {l : List Nat} (hl : ∀ x ∈ l, x < l.length) : ∀ (ks f : List Nat) (s : Slot), (∀ k ∈ ks, k < l.length) → f.length = l.length →
    ∃ s', sForL (tgV 5) (sPut 4 (eP (p2 gIxA (pV 3) (p2 gSub (pV 5) (pC (.int 1))))) (eP (p2 gIxA (pV 3) (pV 5)))) (ks.map fun k => .d (nD k)) (tSl p m w l f s) = .nx (tSl p m w l (ks.foldl (stepR l) f) s')
  | [], f, s, _, _ => ⟨s, by simp⟩
  | k :: ks, f, s, hk, hf => by
    have k1 := hk k List.mem_cons_self
    have a1 := atI_nD k1
    have a2 := atI_before k1
    have b1 : l.getD (before k l.length) 0 < l.length := by
      have hb : before k l.length < l.length := by unfold before; split <;> omega
      rw [List.getD_eq_getElem?_getD, List.getElem?_eq_getElem hb]
      exact hl _ (List.getElem_mem hb)
    have c1 : ixN f.length ((l.getD (before k l.length) 0 : Nat) : Int) = some (l.getD (before k l.length) 0) := ixN_nat (by rw [hf]; exact b1)
    obtain ⟨s', h⟩ := ring_ind hl ks (stepR l f k) (.val (nD k)) (fun x hx => hk x (List.mem_cons_of_mem _ hx)) (by unfold stepR; rw [List.length_set]; exact hf)
    refine ⟨s', ?_⟩
    rw [List.map_cons, for_cons, List.foldl_cons, ← h]
    simp only [tSl, stepR] at *
    simp [a1, a2, c1, -List.getD_eq_getElem?_getD]
theorem pair_ind {p : List D} {m w : D} {l : List Nat} (hl : ∀ x ∈ l, x < l.length) : ∀ (ks f : List Nat) (s : Slot), (∀ k ∈ ks, k < l.length) → f.length = l.length →
    ∃ s', sForL (tgV 5) (sSeq (sPut 4 (eP (p2 gIxA (pV 3) (p2 gSub (pV 5) (pC (.int 1))))) (eP (p2 gIxA (pV 3) (pV 5)))) (sPut 4 (eP (p2 gIxA (pV 3) (pV 5))) (eP (p2 gIxA (pV 3) (p2 gSub (pV 5) (pC (.int 1))))))) (ks.map fun k => .d (nD k)) (tSl p m w l f s) = .nx (tSl p m w l (ks.foldl (stepP l) f) s')
  | [], f, s, _, _ => ⟨s, by simp⟩
  | k :: ks, f, s, hk, hf => by
    have k1 := hk k List.mem_cons_self
    have a1 := atI_nD k1
    have a2 := atI_before k1
    have b1 : l.getD (before k l.length) 0 < l.length := by
      have hb : before k l.length < l.length := by unfold before; split <;> omega
      rw [List.getD_eq_getElem?_getD, List.getElem?_eq_getElem hb]
      exact hl _ (List.getElem_mem hb)
    have b2 : l.getD k 0 < l.length := by
      rw [List.getD_eq_getElem?_getD, List.getElem?_eq_getElem k1]
      exact hl _ (List.getElem_mem k1)
    have c1 : ixN f.length ((l.getD (before k l.length) 0 : Nat) : Int) = some (l.getD (before k l.length) 0) := ixN_nat (by rw [hf]; exact b1)
    have c2 : ixN f.length ((l.getD k 0 : Nat) : Int) = some (l.getD k 0) := ixN_nat (by rw [hf]; exact b2)
    obtain ⟨s', h⟩ := pair_ind hl ks (stepP l f k) (.val (nD k)) (fun x hx => hk x (List.mem_cons_of_mem _ hx)) (by unfold stepP; rw [List.length_set, List.length_set]; exact hf)
    refine ⟨s', ?_⟩
    rw [List.map_cons, for_cons, List.foldl_cons, ← h]
    simp only [tSl, stepP] at *
    simp [a1, a2, c1, c2, -List.getD_eq_getElem?_getD]
end HM
namespace HM
open PySem PySem.Spec PyProof.Rows L2
theorem rngD3_odd {m : Nat} (hm : m ≤ 7) : rngD3 [.int 1, .int (m : Int), .int 2] = some ((oddsN m).map nD) := by
  have cases7 : m = 0 ∨ m = 1 ∨ m = 2 ∨ m = 3 ∨ m = 4 ∨ m = 5 ∨ m = 6 ∨ m = 7 := by omega
  have h : ∀ m : Nat, m ≤ 7 → (0 < (2 : Int) ∧ (2 : Int) < 1073741824 ∧ Builtin.Range.small 1 (m : Int) 2 = true ∧ 0 ≤ Builtin.Range.rangeSize 1 (m : Int) 2) ∧ rgDc 1 2 (Builtin.Range.rangeSize 1 (m : Int) 2).toNat = (oddsN m).map nD := by
    intro m hm
    have : m = 0 ∨ m = 1 ∨ m = 2 ∨ m = 3 ∨ m = 4 ∨ m = 5 ∨ m = 6 ∨ m = 7 := by omega
    rcases this with rfl | rfl | rfl | rfl | rfl | rfl | rfl | rfl <;> exact ⟨by decide, rfl⟩
  obtain ⟨h1, h2⟩ := h m hm
  show (if _ then _ else if _ then _ else _) = _
  rw [if_neg (fun z => absurd z.2.2 (by decide)), if_pos h1, h2]
theorem sub_perm {l : List Nat} : ∀ {r : List Nat}, r.Nodup → (∀ x ∈ r, x ∈ l) → ∃ s, l.Perm (r ++ s)
  | [], _, _ => ⟨l, List.Perm.refl _⟩
  | x :: r, hn, h => by
    obtain ⟨h1, h2⟩ := List.nodup_cons.mp hn
    obtain ⟨s, hs⟩ := sub_perm h2 fun y hy => h y (List.mem_cons_of_mem _ hy)
    have hx : x ∈ s := by
      rcases List.mem_append.mp (hs.mem_iff.mp (h x List.mem_cons_self)) with z | z
      · exact absurd z h1
      · exact z
    exact ⟨s.erase x, hs.trans (((List.perm_cons_erase hx).append_left r).trans List.perm_middle)⟩
def isP (m : Nat) (l : List Nat) : Bool := l.length == m && (List.range m).all fun x => l.contains x
theorem isP_perm {m : Nat} {l : List Nat} (h : isP m l = true) : l.Perm (List.range m) := by
  unfold isP at h
  simp only [Bool.and_eq_true, beq_iff_eq, List.all_eq_true, List.contains_iff_mem] at h
  obtain ⟨h1, h2⟩ := h
  obtain ⟨s, hs⟩ := sub_perm (List.nodup_range (n := m)) h2
  have e := hs.length_eq
  rw [List.length_append, List.length_range] at e
  have : s = [] := List.length_eq_zero_iff.mp (by omega)
  rw [this, List.append_nil] at hs
  exact hs
/-! ### places set one by one -/
def asgn (A : List (Nat × Nat)) (f : List Nat) : List Nat := A.foldl (fun f a => f.set a.1 a.2) f
theorem asgn_len : ∀ (A : List (Nat × Nat)) (f : List Nat), (asgn A f).length = f.length
  | [], _ => rfl
  | a :: A, f => (asgn_len A _).trans List.length_set
theorem asgn_out {x : Nat} : ∀ (A : List (Nat × Nat)) (f : List Nat), x ∉ A.map (·.1) → (asgn A f)[x]? = f[x]?
  | [], _, _ => rfl
  | a :: A, f, h => by
    rw [List.map_cons, List.mem_cons] at h
    have z := asgn_out A (f.set a.1 a.2) fun q => h (.inr q)
    rw [List.getElem?_set_ne (fun q => h (.inl q.symm))] at z
    exact z
theorem asgn_in : ∀ (A : List (Nat × Nat)) (f : List Nat) (a : Nat × Nat), (A.map (·.1)).Nodup → a ∈ A → a.1 < f.length → (asgn A f)[a.1]? = some a.2
  | b :: A, f, a, hn, ha, hl => by
    obtain ⟨h1, h2⟩ := List.nodup_cons.mp (show (b.1 :: A.map (·.1)).Nodup from hn)
    rcases List.mem_cons.mp ha with rfl | ha
    · refine (asgn_out A (f.set a.1 a.2) h1).trans ?_
      rw [List.getElem?_set_self hl]
    · exact asgn_in A (f.set b.1 b.2) a h2 ha (by rw [List.length_set]; exact hl)
theorem asgn_perm {m : Nat} {A : List (Nat × Nat)} (hn : (A.map (·.1)).Nodup) (hb : ∀ x ∈ A.map (·.1), x < m) (hv : ∀ y ∈ A.map (·.1), y ∈ A.map (·.2)) : (asgn A (List.range m)).Perm (List.range m) := by
  obtain ⟨s, hs⟩ := sub_perm (l := asgn A (List.range m)) (List.nodup_range (n := m)) fun y hy => by
    have ym := List.mem_range.mp hy
    by_cases h : y ∈ A.map (·.1)
    · obtain ⟨a, ha, e⟩ := List.mem_map.mp (hv y h)
      have z := asgn_in A (List.range m) a hn ha (by rw [List.length_range]; exact hb _ (List.mem_map.mpr ⟨a, ha, rfl⟩))
      rw [← e]
      exact List.mem_of_getElem? z
    · have z := asgn_out A (List.range m) h
      rw [List.getElem?_range ym] at z
      exact List.mem_of_getElem? z
  have e := hs.length_eq
  rw [asgn_len, List.length_append, List.length_range] at e
  have : s = [] := List.length_eq_zero_iff.mp (by omega)
  rw [this, List.append_nil] at hs
  exact hs
theorem getD_inj {l : List Nat} (hn : l.Nodup) {i j : Nat} (hi : i < l.length) (hj : j < l.length) (e : l.getD i 0 = l.getD j 0) : i = j := by
  rw [List.getD_eq_getElem?_getD, List.getD_eq_getElem?_getD, List.getElem?_eq_getElem hi, List.getElem?_eq_getElem hj] at e
  have e : l[i] = l[j] := e
  rcases Nat.lt_trichotomy i j with h | h | h
  · exact absurd e (List.pairwise_iff_getElem.mp hn i j hi hj h)
  · exact h
  · exact absurd e.symm (List.pairwise_iff_getElem.mp hn j i hj hi h)
theorem nodup_map_getD {l ks : List Nat} (hn : l.Nodup) (hk : ks.Nodup) (hl : ∀ k ∈ ks, k < l.length) : (ks.map fun k => l.getD k 0).Nodup := by
  refine List.pairwise_map.mpr (List.Pairwise.imp_of_mem (fun ha hb hne e => hne (getD_inj hn (hl _ ha) (hl _ hb) e)) hk)
theorem ringR_asgn (l : List Nat) : ringR l = asgn ((List.range l.length).map fun k => (l.getD (before k l.length) 0, l.getD k 0)) (List.range l.length) := by
  unfold ringR asgn
  rw [List.foldl_map]
  rfl
theorem getD_mem {l : List Nat} {k : Nat} (h : k < l.length) : l.getD k 0 ∈ l := by
  rw [List.getD_eq_getElem?_getD, List.getElem?_eq_getElem h]
  exact List.getElem_mem h
theorem mem_getD {l : List Nat} {y : Nat} (h : y ∈ l) : ∃ k, k < l.length ∧ l.getD k 0 = y := by
  obtain ⟨k, hk, e⟩ := List.getElem_of_mem h
  exact ⟨k, hk, by rw [List.getD_eq_getElem?_getD, List.getElem?_eq_getElem hk]; exact e⟩
theorem perm_nodup {m : Nat} {l : List Nat} (h : l.Perm (List.range m)) : l.Nodup := h.nodup_iff.mpr List.nodup_range
theorem ringR_perm {m : Nat} {l : List Nat} (h : l.Perm (List.range m)) : (ringR l).Perm (List.range m) := by
  have hl := perm_len h
  rw [ringR_asgn, hl]
  have hb : ∀ k, k < m → before k m < m := fun k hk => by unfold before; split <;> omega
  refine asgn_perm ?_ (fun x hx => ?_) fun y hy => ?_
  · rw [List.map_map]
    have e : ((fun x : Nat × Nat => x.1) ∘ fun k => (l.getD (before k m) 0, l.getD k 0)) = (fun k => l.getD k 0) ∘ fun k => before k m := rfl
    rw [e, ← List.map_map]
    refine nodup_map_getD (perm_nodup h) ?_ fun k hk => ?_
    · refine List.pairwise_map.mpr (List.Pairwise.imp_of_mem (fun ha hb' hne e => hne ?_) (List.nodup_range (n := m)))
      have h1 := List.mem_range.mp ha
      have h2 := List.mem_range.mp hb'
      unfold before at e
      split at e <;> split at e <;> omega
    · obtain ⟨j, hj, rfl⟩ := List.mem_map.mp hk
      rw [hl]; exact hb j (List.mem_range.mp hj)
  · rw [List.map_map] at hx
    obtain ⟨k, hk, rfl⟩ := List.mem_map.mp hx
    exact perm_lt h (getD_mem (by rw [hl]; exact hb k (List.mem_range.mp hk)))
  · rw [List.map_map] at hy ⊢
    obtain ⟨k, hk, rfl⟩ := List.mem_map.mp hy
    exact List.mem_map.mpr ⟨before k m, List.mem_range.mpr (hb k (List.mem_range.mp hk)), rfl⟩
theorem pairsP_asgn (l : List Nat) : pairsP l = asgn ((oddsN l.length).flatMap fun k => [(l.getD (before k l.length) 0, l.getD k 0), (l.getD k 0, l.getD (before k l.length) 0)]) (List.range l.length) := by
  unfold pairsP asgn
  rw [List.foldl_flatMap]
  rfl
theorem pairsP_perm {m : Nat} {l : List Nat} (h : l.Perm (List.range m)) (hm : m ≤ 7) : (pairsP l).Perm (List.range m) := by
  have hl := perm_len h
  rw [pairsP_asgn, hl]
  have odd : ∀ k ∈ oddsN m, k < m ∧ before k m = k - 1 ∧ 0 < k := fun k hk => by
    unfold oddsN at hk
    obtain ⟨i, hi, rfl⟩ := List.mem_map.mp hk
    have := List.mem_range.mp hi
    exact ⟨by omega, by unfold before; rw [if_neg (by omega)], by omega⟩
  have e1 : ((oddsN m).flatMap fun k => [(l.getD (before k m) 0, l.getD k 0), (l.getD k 0, l.getD (before k m) 0)]).map (·.1) = ((oddsN m).flatMap fun k => [before k m, k]).map fun k => l.getD k 0 := by
    rw [List.map_flatMap, List.map_flatMap]; rfl
  have mem1 : ∀ k ∈ (oddsN m).flatMap fun k => [before k m, k], k < m := fun k hk => by
    obtain ⟨j, hj, hk⟩ := List.mem_flatMap.mp hk
    obtain ⟨o1, o2, o3⟩ := odd j hj
    rcases List.mem_cons.mp hk with rfl | hk
    · rw [o2]; omega
    · rw [List.mem_singleton.mp hk]; exact o1
  refine asgn_perm ?_ (fun x hx => ?_) fun y hy => ?_
  · rw [e1]
    refine nodup_map_getD (perm_nodup h) ?_ fun k hk => by rw [hl]; exact mem1 k hk
    have : m = 0 ∨ m = 1 ∨ m = 2 ∨ m = 3 ∨ m = 4 ∨ m = 5 ∨ m = 6 ∨ m = 7 := by omega
    rcases this with rfl | rfl | rfl | rfl | rfl | rfl | rfl | rfl <;> decide
  · rw [e1] at hx
    obtain ⟨k, hk, rfl⟩ := List.mem_map.mp hx
    exact perm_lt h (getD_mem (by rw [hl]; exact mem1 k hk))
  · obtain ⟨a, ha, rfl⟩ := List.mem_map.mp hy
    obtain ⟨k, hk, ha⟩ := List.mem_flatMap.mp ha
    refine List.mem_map.mpr ⟨(a.2, a.1), List.mem_flatMap.mpr ⟨k, hk, ?_⟩, rfl⟩
    rcases List.mem_cons.mp ha with rfl | ha
    · exact List.mem_cons_of_mem _ (List.mem_singleton.mpr rfl)
    · rw [List.mem_singleton.mp ha]; exact List.mem_cons_self
/-- a drawn turn -/
theorem turn_ok {n m : Nat} {p : List D} (hp : PenOk n p) (hm : m ≤ 7) (hn : n ≤ 900000) : ∃ (t : List Nat) (p' : List D), g_law_turn p [.int (m : Int)] = .ok (.d (.tuple (t.map nD))) p' ∧ t.Perm (List.range m) ∧ PenOk (n + 1 + m) p' := by
  obtain ⟨d, p1, h1, h2, h3, h4⟩ := draw_ok (m := 5) hp (by omega) (by decide) (by decide)
  obtain ⟨l, pb, ga, g2, g3⟩ := order_ok h4 (show m ≤ 1000 by omega) (by omega)
  have hl := perm_len g2
  have hlt : ∀ x ∈ l, x < l.length := fun x hx => by rw [hl]; exact perm_lt g2 hx
  have r1 := rgL_nat (show m ≤ 16777216 by omega)
  have r2 := rng1_nat (show m ≤ 16777216 by omega)
  have r3 := rngD3_odd hm
  have cases5 : d = 0 ∨ d = 1 ∨ d = 2 ∨ d = 3 ∨ d = 4 := by omega
  rcases cases5 with rfl | rfl | rfl | rfl | rfl
  · refine ⟨List.range m, pb, ?_, List.Perm.refl _, g3⟩
    simp [g_law_turn, d_law_turn, fnM, h1, ga, r1, r2]
  · obtain ⟨s', k⟩ := ring_ind (p := pb) (m := .int (m : Int)) (w := .int 1) hlt (List.range m) (List.range m) .non (fun k hk => by rw [hl]; exact List.mem_range.mp hk) (by rw [List.length_range, hl])
    have k : sForL (tgV 5) (sPut 4 (eP (p2 gIxA (pV 3) (p2 gSub (pV 5) (pC (.int 1))))) (eP (p2 gIxA (pV 3) (pV 5)))) (List.map (Yd.d ∘ nD) (List.range m)) [.mu (.lst pb), .val (.int (m : Int)), .val (.int 1), .val (.list (l.map nD)), .own (.lst ((List.range m).map nD)), .non] = .nx (tSl pb (.int (m : Int)) (.int 1) l (ringR l) s') := by
      unfold ringR; rw [hl]; exact k
    refine ⟨ringR l, pb, ?_, ringR_perm g2, g3⟩
    simp [g_law_turn, d_law_turn, fnM, h1, ga, r1, r2, k]
  · obtain ⟨s', k⟩ := pair_ind (p := pb) (m := .int (m : Int)) (w := .int 2) hlt (oddsN m) (List.range m) .non (fun k hk => by
        unfold oddsN at hk
        obtain ⟨i, hi, rfl⟩ := List.mem_map.mp hk
        have := List.mem_range.mp hi
        omega) (by rw [List.length_range, hl])
    have k : sForL (tgV 5) (sSeq (sPut 4 (eP (p2 gIxA (pV 3) (p2 gSub (pV 5) (pC (.int 1))))) (eP (p2 gIxA (pV 3) (pV 5)))) (sPut 4 (eP (p2 gIxA (pV 3) (pV 5))) (eP (p2 gIxA (pV 3) (p2 gSub (pV 5) (pC (.int 1))))))) (List.map (Yd.d ∘ nD) (oddsN m)) [.mu (.lst pb), .val (.int (m : Int)), .val (.int 2), .val (.list (l.map nD)), .own (.lst ((List.range m).map nD)), .non] = .nx (tSl pb (.int (m : Int)) (.int 2) l (pairsP l) s') := by
      unfold pairsP; rw [hl]; exact k
    refine ⟨pairsP l, pb, ?_, pairsP_perm g2 hm, g3⟩
    simp [g_law_turn, d_law_turn, fnM, h1, ga, r1, r2, r3, k]
  · refine ⟨l, pb, ?_, g2, g3⟩
    simp [g_law_turn, d_law_turn, fnM, h1, ga, r1, r2]
  · refine ⟨l, pb, ?_, g2, g3⟩
    simp [g_law_turn, d_law_turn, fnM, h1, ga, r1, r2]
end HM

set_option Elab.async false
set_option linter.all false
set_option maxRecDepth 100000
set_option maxHeartbeats 4000000
set_option autoImplicit false
/-! T4: rings of a turn. -/
namespace HM
abbrev at_ (t : List Nat) (x : Nat) : Nat := t.getD x 0
/-- where x is led by the turn done n times -/
def it (t : List Nat) : Nat → Nat → Nat
  | 0, x => x
  | n + 1, x => at_ t (it t n x)
def orb (t : List Nat) (n x : Nat) : List Nat := (List.range n).map fun i => it t i x
structure Cyc (t : List Nat) (x c : Nat) : Prop where
  pos : 1 ≤ c
  back : it t c x = x
  least : ∀ i, 1 ≤ i → i < c → it t i x ≠ x
section
variable {m : Nat} {t : List Nat} (h : t.Perm (List.range m))
include h
theorem at_lt {x : Nat} (hx : x < m) : at_ t x < m := perm_lt h (getD_mem (by rw [perm_len h]; exact hx))
theorem at_inj {x y : Nat} (hx : x < m) (hy : y < m) (e : at_ t x = at_ t y) : x = y := getD_inj (perm_nodup h) (by rw [perm_len h]; exact hx) (by rw [perm_len h]; exact hy) e
theorem it_lt {x : Nat} (hx : x < m) : ∀ n, it t n x < m
  | 0 => hx
  | n + 1 => at_lt h (it_lt hx n)
theorem it_back {x : Nat} (hx : x < m) : ∀ {i j : Nat}, i ≤ j → it t i x = it t j x → it t (j - i) x = x
  | 0, j, _, e => e.symm
  | i + 1, 0, hl, _ => absurd hl (by omega)
  | i + 1, j + 1, hl, e => by
    have e2 := at_inj h (it_lt h hx i) (it_lt h hx j) e
    have z := it_back hx (Nat.le_of_succ_le_succ hl) e2
    rw [Nat.succ_sub_succ]; exact z
theorem orb_nodup {x : Nat} (hx : x < m) {n : Nat} (hn : ∀ i, 1 ≤ i → i < n → it t i x ≠ x) : (orb t n x).Nodup := by
  refine List.pairwise_map.mpr (List.Pairwise.imp_of_mem (fun {a b} ha hb hne e => ?_) (List.nodup_range (n := n)))
  have h1 := List.mem_range.mp ha
  have h2 := List.mem_range.mp hb
  rcases Nat.lt_trichotomy a b with q | q | q
  · exact hn (b - a) (by omega) (by omega) (it_back h hx (Nat.le_of_lt q) e)
  · exact hne q
  · exact hn (a - b) (by omega) (by omega) (it_back h hx (Nat.le_of_lt q) e.symm)
theorem least_of {P : Nat → Prop} : ∀ n, (∃ i, 1 ≤ i ∧ i ≤ n ∧ P i) → ∃ i, 1 ≤ i ∧ i ≤ n ∧ P i ∧ ∀ j, 1 ≤ j → j < i → ¬ P j
  | 0, ⟨i, h1, h2, _⟩ => absurd h1 (by omega)
  | n + 1, ⟨i, h1, h2, h3⟩ => by
    by_cases q : ∃ i, 1 ≤ i ∧ i ≤ n ∧ P i
    · obtain ⟨j, g1, g2, g3⟩ := least_of n q
      exact ⟨j, g1, by omega, g3⟩
    · refine ⟨i, h1, h2, h3, fun j g1 g2 g3 => q ⟨j, g1, by omega, g3⟩⟩
theorem cyc_ex {x : Nat} (hx : x < m) : ∃ c, Cyc t x c ∧ c ≤ m := by
  have ex : ∃ i, 1 ≤ i ∧ i ≤ m ∧ it t i x = x := by
    refine Classical.byContradiction fun q => ?_
    have hn : ∀ i, 1 ≤ i → i < m + 1 → it t i x ≠ x := fun i h1 h2 e => q ⟨i, h1, by omega, e⟩
    obtain ⟨s, hs⟩ := sub_perm (l := List.range m) (orb_nodup h hx hn) fun y hy => by
      obtain ⟨i, _, rfl⟩ := List.mem_map.mp hy
      exact List.mem_range.mpr (it_lt h hx i)
    have e := hs.length_eq
    unfold orb at e
    rw [List.length_append, List.length_map, List.length_range, List.length_range] at e
    omega
  obtain ⟨c, h1, h2, h3, h4⟩ := least_of h m ex
  exact ⟨c, ⟨h1, h3, h4⟩, h2⟩
end
theorem orb_succ {t : List Nat} {n x : Nat} : orb t (n + 1) x = orb t n x ++ [it t n x] := by
  unfold orb
  rw [List.range_succ, List.map_append]; rfl
theorem mem_orb {t : List Nat} {n x i : Nat} (h : i < n) : it t i x ∈ orb t n x := List.mem_map.mpr ⟨i, List.mem_range.mpr h, rfl⟩
/-- the ring of x -/
noncomputable def ringOf (t : List Nat) (x : Nat) : List Nat := open Classical in if h : ∃ c, Cyc t x c then orb t h.choose x else []
theorem Cyc.uniq {t : List Nat} {x c d : Nat} (a : Cyc t x c) (b : Cyc t x d) : c = d := by
  rcases Nat.lt_trichotomy c d with q | q | q
  · exact absurd a.back (b.least c a.pos q)
  · exact q
  · exact absurd b.back (a.least d b.pos q)
theorem ringOf_eq {t : List Nat} {x c : Nat} (a : Cyc t x c) : ringOf t x = orb t c x := by
  unfold ringOf
  have h : ∃ c, Cyc t x c := ⟨c, a⟩
  rw [dif_pos h, h.choose_spec.uniq a]
open Classical in
noncomputable def ringsFrom (t : List Nat) : List Nat → List Nat → List (List Nat)
  | [], _ => []
  | x :: xs, seen => if x ∈ seen then ringsFrom t xs seen else ringOf t x :: ringsFrom t xs (seen ++ ringOf t x)
open Classical in
noncomputable def seenFrom (t : List Nat) : List Nat → List Nat → List Nat
  | [], seen => seen
  | x :: xs, seen => if x ∈ seen then seenFrom t xs seen else seenFrom t xs (seen ++ ringOf t x)
noncomputable def allRings (t : List Nat) : List (List Nat) := ringsFrom t (List.range t.length) []
/-- closed: what is led in is in -/
def Shut (t : List Nat) (m : Nat) (s : List Nat) : Prop := ∀ y, y < m → at_ t y ∈ s → y ∈ s
theorem shut_app {m : Nat} {t s : List Nat} {x c : Nat} (h : t.Perm (List.range m)) (hx : x < m) (a : Cyc t x c) (hs : Shut t m s) : Shut t m (s ++ orb t c x) := fun y hy e => by
  rcases List.mem_append.mp e with e | e
  · exact List.mem_append_left _ (hs y hy e)
  · refine List.mem_append_right _ ?_
    obtain ⟨i, hi, e⟩ := List.mem_map.mp e
    have hi := List.mem_range.mp hi
    cases i with
    | zero =>
      have e : x = at_ t y := e
      have hc : c = (c - 1) + 1 := by have := a.pos; omega
      have b := a.back
      rw [hc] at b
      have z := at_inj h (it_lt h hx (c - 1)) hy (show at_ t (it t (c - 1) x) = at_ t y from b.trans e)
      rw [← z]
      exact mem_orb (by have := a.pos; omega)
    | succ i =>
      have z := at_inj h (it_lt h hx i) hy e
      rw [← z]
      exact mem_orb (by omega)
theorem shut_it {m : Nat} {t s : List Nat} {x : Nat} (h : t.Perm (List.range m)) (hx : x < m) (hs : Shut t m s) (hn : x ∉ s) : ∀ i, it t i x ∉ s
  | 0 => hn
  | i + 1 => fun e => shut_it h hx hs hn i (hs _ (it_lt h hx i) e)
end HM

set_option Elab.async false
set_option linter.all false
set_option maxRecDepth 100000
set_option maxHeartbeats 4000000
set_option autoImplicit false
/-! T5: the program's rings. -/
namespace HM
open PySem PySem.Spec PyProof.Rows L2
theorem lay_nD {n : Nat} (l : List Nat) : ∀ d ∈ l.map nD, Lay n d := fun d hd => by
  obtain ⟨k, _, rfl⟩ := List.mem_map.mp hd
  exact lay_int
theorem any_nD (l : List Nat) (x : Nat) : (l.map nD).any (fun z => PyData.eqv z (nD x)) = decide (x ∈ l) := by
  induction l with
  | nil => simp
  | cons y l ih =>
    rw [List.map_cons, List.any_cons, ih]
    show (PyData.eqv (.int (y : Nat)) (.int (x : Nat)) || _) = _
    rw [eqv_int]
    by_cases e : x = y
    · subst e; simp
    · have : ¬ ((y : Int) = (x : Int)) := by omega
      simp [e, this]
theorem inO_nD (l : List Nat) (x : Nat) (neg : Bool) : gIn neg (.d (nD x)) (.o (.lst (l.map nD))) = some (.d (.bool (if neg = true then !decide (x ∈ l) else decide (x ∈ l)))) := by
  show (if SeqAt.shaped (nD x) = true ∧ SeqAt.shaped (.list (l.map nD)) = true then bN neg ((l.map nD).any fun z => PyData.eqv z (nD x)) else none) = _
  rw [if_pos ⟨shaped_int, shaped_list (lay_nD l)⟩, any_nD]; rfl
theorem last_nD (l : List Nat) (v : Nat) : atI ((l ++ [v]).map nD) (-1) = some (nD v) := by
  rw [List.map_append]
  exact atI_last _ _
theorem orb_len {t : List Nat} {n x : Nat} : (orb t n x).length = n := by unfold orb; rw [List.length_map, List.length_range]
abbrev rSl (t f : List D) (s : List Nat) (x : Nat) (r : List Nat) : Sl := [.val (.tuple t), .own (.lst f), .own (.lst (s.map nD)), .val (nD x), .own (.lst (r.map nD))]
theorem rings_wh {m : Nat} {t : List Nat} (h : t.Perm (List.range m)) (hm : m ≤ 1000) {x c : Nat} (hx : x < m) (a : Cyc t x c) (f : List D) (s : List Nat) : ∀ (d j : Nat), j + d + 1 = c → c ≤ m →
    sWhN (d + 1) (etP (tB1 (p2 (gEq true) (p2 gIxA (pV 0) (p2 gIxA (pV 4) (p1 gNeg (pC (.int 1))))) (pV 3)))) (sDrop (eM 4 lAppend (eaCons (eP (p2 gIxA (pV 0) (p2 gIxA (pV 4) (p1 gNeg (pC (.int 1)))))) eaNil))) (rSl (t.map nD) f s x (orb t (j + 1) x)) = .nx (rSl (t.map nD) f s x (orb t c x))
  | d, j, e, hc => by
    have l1 : atI ((orb t (j + 1) x).map nD) (-1) = some (nD (it t j x)) := by rw [orb_succ]; exact last_nD _ _
    have l2 : atI (t.map nD) ((it t j x : Nat) : Int) = some (nD (it t (j + 1) x)) := atI_nD (by rw [perm_len h]; exact it_lt h hx j)
    rw [whN_succ]
    by_cases hd : d = 0
    · subst hd
      subst e
      have e2 : it t (j + 1) x = x := a.back
      rw [e2] at l2
      simp [rSl, l1, l2]
    · obtain ⟨d, rfl⟩ := Nat.exists_eq_succ_of_ne_zero hd
      have ne : it t (j + 1) x ≠ x := a.least (j + 1) (by omega) (by omega)
      have ne' : ¬ ((it t (j + 1) x : Nat) : Int) = (x : Int) := by omega
      have ih := rings_wh h hm hx a f s d (j + 1) (by omega) hc
      have e4 : (orb t (j + 1 + 1) x).map nD = (orb t (j + 1) x).map nD ++ [nD (it t (j + 1) x)] := by rw [orb_succ, List.map_append]; rfl
      have hl : (orb t (j + 1) x).length < 16777216 := by rw [orb_len]; omega
      rw [← ih]
      simp only [rSl, e4]
      simp [l1, l2, ne', hl]
theorem set_nx {η : Sl} {r : RS} (h : r = .nx η) : r = .nx η := h
abbrev rBody : Sl → RS := (sIf (etP (tB1 (p2 (gIn true) (pV 3) (pV 2)))) (sSeq (sSetO 4 (eLst (eaCons (eV 3) eaNil))) (sSeq (sWh (etP (tB1 (p2 (gEq true) (p2 gIxA (pV 0) (p2 gIxA (pV 4) (p1 gNeg (pC (.int 1))))) (pV 3)))) (sDrop (eM 4 lAppend (eaCons (eP (p2 gIxA (pV 0) (p2 gIxA (pV 4) (p1 gNeg (pC (.int 1)))))) eaNil)))) (sSeq (sDrop (eXtP 2 (pV 4))) (sDrop (eM 1 lAppend (eaCons (eV 4) eaNil)))))) sNx)
abbrev lD (l : List Nat) : D := .list (l.map nD)
theorem rings_for {m : Nat} {t : List Nat} (h : t.Perm (List.range m)) (hm : m ≤ 1000) : ∀ (xs : List Nat) (f : List (List Nat)) (s : List Nat) (z1 z2 : Slot), (∀ x ∈ xs, x < m) → f.length + xs.length ≤ 1000 → s.length + xs.length * 1000 ≤ 1000000 →
    ∃ z3 z4 s', sForL (tgV 3) rBody (xs.map fun k => .d (nD k)) [.val (.tuple (t.map nD)), .own (.lst (f.map lD)), .own (.lst (s.map nD)), z1, z2] = .nx [.val (.tuple (t.map nD)), .own (.lst ((f ++ ringsFrom t xs s).map lD)), .own (.lst s'), z3, z4]
  | [], f, s, z1, z2, _, _, _ => ⟨z1, z2, s.map nD, by simp [ringsFrom]⟩
  | x :: xs, f, s, z1, z2, hx, hf, hs => by
    have x1 := hx x List.mem_cons_self
    rw [List.map_cons, for_cons]
    by_cases hin : x ∈ s
    · obtain ⟨z3, z4, s', k⟩ := rings_for h hm xs f s (.val (nD x)) z2 (fun y hy => hx y (List.mem_cons_of_mem _ hy)) (by simp at hf; omega) (by simp at hs; omega)
      refine ⟨z3, z4, s', ?_⟩
      have e : ringsFrom t (x :: xs) s = ringsFrom t xs s := if_pos hin
      rw [e, ← k]
      have q := inO_nD s x true
      simp [hin, q, rBody]
    · obtain ⟨c, a, hc⟩ := cyc_ex h x1
      have e : ringsFrom t (x :: xs) s = ringOf t x :: ringsFrom t xs (s ++ ringOf t x) := if_neg hin
      have er := ringOf_eq a
      have hsl : (s ++ ringOf t x).length ≤ s.length + 1000 := by rw [List.length_append, er, orb_len]; omega
      obtain ⟨z3, z4, s', k⟩ := rings_for h hm xs (f ++ [ringOf t x]) (s ++ ringOf t x) (.val (nD x)) (.val (lD (ringOf t x))) (fun y hy => hx y (List.mem_cons_of_mem _ hy)) (by simp at hf ⊢; omega) (by simp only [List.length_cons] at hs; omega)
      refine ⟨z3, z4, s', ?_⟩
      rw [e]
      have e5 : f ++ ringOf t x :: ringsFrom t xs (s ++ ringOf t x) = f ++ [ringOf t x] ++ ringsFrom t xs (s ++ ringOf t x) := by simp
      rw [e5, ← k, er]
      have q := inO_nD s x true
      have e6 : c - 1 + 1 = c := by have := a.pos; omega
      have w0 := rings_wh h hm x1 a (f.map lD) s (c - 1) 0 (by omega) hc
      rw [e6] at w0
      have o1 : (orb t (0 + 1) x).map nD = [nD x] := rfl
      unfold rSl at w0
      rw [o1] at w0
      have w := wh_of c (by omega) w0 (fun z => nomatch z)
      have hl1 : s.length + (orb t c x).length ≤ 16777216 := by rw [orb_len]; simp only [List.length_cons] at hs; omega
      have hl2 : f.length < 16777216 := by simp at hf; omega
      simp [hin, q, rBody, w, hl1, hl2]
theorem rings_ok {m : Nat} {t : List Nat} (h : t.Perm (List.range m)) (hm : m ≤ 900) : g_rings [.tuple (t.map nD)] = .ok (.d (.list ((allRings t).map lD))) := by
  obtain ⟨z3, z4, s', k⟩ := rings_for h (by omega) (List.range m) [] [] .non .non (fun x hx => List.mem_range.mp hx) (by simp; omega) (by simp; omega)
  have hl := perm_len h
  have r2 := rng1_nat (show m ≤ 16777216 by omega)
  have k : sForL (tgV 3) rBody (List.map (Yd.d ∘ nD) (List.range m)) [.val (.tuple (t.map nD)), .own (.lst []), .own (.lst []), .non, .non] = .nx [.val (.tuple (t.map nD)), .own (.lst ((allRings t).map lD)), .own (.lst s'), z3, z4] := by
    unfold allRings; rw [hl]; exact k
  unfold rBody at k
  simp [g_rings, d_rings, fnF, hl, r2, k]
end HM

set_option Elab.async false
set_option linter.all false
set_option maxRecDepth 100000
set_option maxHeartbeats 4000000
set_option autoImplicit false
/-! T6: turns as texts. -/
namespace HM
open PySem PySem.Spec PyProof.Rows L2 SX
theorem s_open : Str.ofString "(" = S [40] := by decide +kernel
theorem s_shut : Str.ofString ")" = S [41] := by decide +kernel
theorem s_both : Str.ofString "()" = S [40, 41] := by decide +kernel
theorem s_blank : Str.ofString " " = S [32] := by decide +kernel
theorem s_mid : Str.ofString ") (" = S [41, 32, 40] := by decide +kernel
abbrev dg (k : Nat) : List Nat := [48 + k]
theorem str_nD {k : Nat} (h : k < 10) : gStr (.d (nD k)) = some (.d (.str (S (dg k)))) := by
  have hl : ((k : Nat) : Int).natAbs.log2 < 1920 := by
    have z : ((k : Nat) : Int).natAbs.log2 ≤ 4 := log_le 4 (by omega) (by omega)
    omega
  show (if _ then _ else _) = _
  rw [if_pos hl]
  have e : Str.ofString (toString ((k : Nat) : Int)) = S (dg k) := by rw [num_S, TL.numL_lt h]
  exact congrArg (fun z => some (Pv.d (.str z))) e
theorem lcP_map {t : Yd → Sl → Option Sl} {e : Sl → Option Pv} {η : Sl} {α : Type} {f : α → Yd} {g : α → D} : ∀ (l : List α), (∀ x ∈ l, ∃ η1, t (f x) η = some η1 ∧ (e η1).bind datOf = some (g x)) → lcP t yesP e η (l.map f) = some (l.map g)
  | [], _ => rfl
  | x :: l, h => by
    obtain ⟨η1, h1, h2⟩ := h x List.mem_cons_self
    rw [List.map_cons, List.map_cons]
    unfold lcP
    rw [h1, lcP_map l fun y hy => h y (List.mem_cons_of_mem _ hy)]
    simp [h2]
theorem joinL_len (S : List Nat) : ∀ (ps : List (List Nat)), (TL.joinL S ps).length ≤ (ps.map List.length).sum + ps.length * S.length
  | [] => Nat.zero_le _
  | [p] => by simp [TL.joinL]
  | p :: q :: r => by
    have ih := joinL_len S (q :: r)
    have e : (TL.joinL S (p :: q :: r)).length = p.length + (S.length + (TL.joinL S (q :: r)).length) := by
      show (p ++ (S ++ TL.joinL S (q :: r))).length = _
      rw [List.length_append, List.length_append]
    have e2 : (p :: q :: r).length * S.length = (q :: r).length * S.length + S.length := by
      rw [List.length_cons, Nat.succ_mul]
    have e3 : ((p :: q :: r).map List.length).sum = p.length + ((q :: r).map List.length).sum := by simp
    omega
abbrev numsText (r : List Nat) : List Nat := TL.joinL [32] (r.map dg)
theorem sum_dg (r : List Nat) : ((r.map dg).map List.length).sum = r.length := by
  induction r with
  | nil => rfl
  | cons x r ih => simp only [List.map_cons, List.sum_cons, ih, List.length_cons, List.length_nil]; omega
theorem numsText_len (r : List Nat) : (numsText r).length ≤ 2 * r.length := by
  have h := joinL_len [32] (r.map dg)
  rw [sum_dg, List.length_map] at h
  have e : r.length * [32].length = r.length := by simp
  show (TL.joinL [32] (r.map dg)).length ≤ _
  omega
theorem sum_one {α : Type} (r : List α) : (r.map fun _ => 1).sum = r.length := by
  induction r with
  | nil => rfl
  | cons x r ih => rw [List.map_cons, List.sum_cons, ih, List.length_cons]; omega
theorem join_dg {r : List Nat} (hl : r.length ≤ 1000000) : gJoin (.d (.str (S [32]))) (.d (.list ((r.map fun k => S (dg k)).map .str))) = some (.d (.str (S (numsText r)))) := by
  have e1 : (strsOf ((r.map fun k => S (dg k)).map PyData.str)) = some (r.map fun k => S (dg k)) := strsOf_map _
  have e2 : ((r.map fun k => S (dg k)).map (·.length)).sum = r.length := by
    rw [List.map_map]
    have : ((fun x : Str => x.length) ∘ fun k => S (dg k)) = fun _ => 1 := by funext k; exact S_len _
    rw [this, sum_one]
  have e3 : Txt.join (S [32]) (r.map fun k => S (dg k)) = S (numsText r) := by
    have z := join_S [32] (r.map dg)
    rw [List.map_map] at z
    exact z
  show (strOf (.d (.str (S [32])))).bind _ = _
  simp only [r_strOf, Option.bind_some, r_seqOfL, e1, e2, e3]
  rw [if_pos (by rw [List.length_map, S_len]; simp; omega)]
theorem show_numbers_ok {r : List Nat} (hr : ∀ k ∈ r, k < 10) (hl : r.length ≤ 1000000) : g_show_numbers [lD r] = .ok (.d (.str (S (numsText r)))) := by
  have j := join_dg hl
  have lc : lcP (tgV 1) yesP (pN (g1 gStr) (aCons (pV 1) aNil)) [.val (lD r), .non] (r.map (Yd.d ∘ nD)) = some ((r.map fun k => S (dg k)).map .str) := by
    rw [List.map_map]
    refine lcP_map r fun k hk => ⟨[.val (lD r), .val (nD k)], by simp, ?_⟩
    have := str_nD (hr k hk)
    simp [this]
  have hz : r.length ≤ 16777216 := by omega
  simp [g_show_numbers, d_show_numbers, fnF, lD, s_blank] at *
  simp [lc, hz, j]
end HM

set_option Elab.async false
set_option linter.all false
set_option maxRecDepth 100000
set_option maxHeartbeats 4000000
set_option autoImplicit false
/-! T7: the program's text of a turn. -/
namespace HM
open PySem PySem.Spec PyProof.Rows L2 SX
theorem lcE_filter {t : Yd → Sl → Option Sl} {c : Sl → Res Bool} {e : Sl → Res D} {vs : List Nat} {η : Sl} {α : Type} {f : α → Yd} {p : α → Bool} {g : α → D} : ∀ (l : List α) (acc : List D),
    (∀ x ∈ l, ∃ η1, t (f x) η = some η1 ∧ c η1 = .ok (p x) η1 ∧ wipeS η1 vs = η ∧ (p x = true → ∃ η2, e η1 = .ok (g x) η2 ∧ wipeS η2 vs = η)) → acc.length + l.length ≤ 16777216 → lcE vs t c e (l.map f) acc η = .ok (acc ++ (l.filter p).map g) η
  | [], acc, _, _ => by simp [lcE]
  | x :: l, acc, h, hz => by
    obtain ⟨η1, h1, h2, h3, h4⟩ := h x List.mem_cons_self
    rw [List.map_cons]
    unfold lcE
    simp only [h1, h2, Res.bind_ok]
    have hz' : acc.length + 1 + l.length ≤ 16777216 := by rw [List.length_cons] at hz; omega
    by_cases hp : p x = true
    · obtain ⟨η2, h5, h6⟩ := h4 hp
      have hl : acc.length < 16777216 := by omega
      simp only [hp, if_true, h5, Res.bind_ok, hl, h6]
      rw [lcE_filter l (acc ++ [g x]) (fun y hy => h y (List.mem_cons_of_mem _ hy)) (by rw [List.length_append]; simp; omega), List.filter_cons_of_pos hp]
      simp
    · simp only [hp, h3]
      rw [lcE_filter l acc (fun y hy => h y (List.mem_cons_of_mem _ hy)) (by omega), List.filter_cons_of_neg hp]
      rfl
theorem join_lst {a : List Nat} {ys : List (List Nat)} (hz : (ys.map List.length).sum + ys.length * a.length ≤ 16777216) {x : Pv} (hx : seqOf x = some (ys.map fun y => .str (S y))) : gJoin (.d (.str (S a))) x = some (.d (.str (S (TL.joinL a ys)))) := by
  have e0 : (ys.map fun y => PyData.str (S y)) = (ys.map S).map PyData.str := by rw [List.map_map]; rfl
  have e2 : ((ys.map S).map (·.length)).sum = (ys.map List.length).sum := by rw [lens]
  show (strOf (.d (.str (S a)))).bind _ = _
  simp only [r_strOf, Option.bind_some, hx]
  rw [e0, strsOf_map]
  simp only [Option.bind_some]
  rw [e2, join_S, if_pos (by rw [List.length_map, S_len]; exact hz)]
abbrev ringText (r : List Nat) : List Nat := 40 :: (numsText r ++ [41])
def turnText (R : List (List Nat)) : List Nat := if (TL.joinL [32] (R.map ringText)).length = 0 then [40, 41] else TL.joinL [32] (R.map ringText)
noncomputable def bigRings (t : List Nat) : List (List Nat) := (allRings t).filter fun r => decide (1 < r.length)
theorem rings_mem {m : Nat} {t : List Nat} (h : t.Perm (List.range m)) : ∀ {xs s : List Nat}, (∀ x ∈ xs, x < m) → ∀ r ∈ ringsFrom t xs s, ∃ x c, x < m ∧ Cyc t x c ∧ c ≤ m ∧ r = orb t c x
  | [], s, _, r, hr => absurd hr (List.not_mem_nil)
  | x :: xs, s, hx, r, hr => by
    by_cases hin : x ∈ s
    · rw [show ringsFrom t (x :: xs) s = ringsFrom t xs s from if_pos hin] at hr
      exact rings_mem h (fun y hy => hx y (List.mem_cons_of_mem _ hy)) r hr
    · rw [show ringsFrom t (x :: xs) s = ringOf t x :: ringsFrom t xs (s ++ ringOf t x) from if_neg hin] at hr
      rcases List.mem_cons.mp hr with rfl | hr
      · have x1 := hx x List.mem_cons_self
        obtain ⟨c, a, hc⟩ := cyc_ex h x1
        exact ⟨x, c, x1, a, hc, ringOf_eq a⟩
      · exact rings_mem h (fun y hy => hx y (List.mem_cons_of_mem _ hy)) r hr
theorem rings_few (t : List Nat) : ∀ (xs s : List Nat), (ringsFrom t xs s).length ≤ xs.length
  | [], s => Nat.le_refl _
  | x :: xs, s => by
    by_cases hin : x ∈ s
    · rw [show ringsFrom t (x :: xs) s = ringsFrom t xs s from if_pos hin]
      exact Nat.le_succ_of_le (rings_few t xs s)
    · rw [show ringsFrom t (x :: xs) s = ringOf t x :: ringsFrom t xs (s ++ ringOf t x) from if_neg hin]
      exact Nat.succ_le_succ (rings_few t xs _)
section
variable {m : Nat} {t : List Nat} (h : t.Perm (List.range m))
include h
theorem big_len : (bigRings t).length ≤ m := by
  refine Nat.le_trans (List.length_filter_le _ _) ?_
  unfold allRings
  refine Nat.le_trans (rings_few t _ _) ?_
  rw [List.length_range, perm_len h]; exact Nat.le_refl _
theorem all_ring {r : List Nat} (hr : r ∈ allRings t) : r.length ≤ m ∧ (∀ k ∈ r, k < m) ∧ 1 ≤ r.length := by
  obtain ⟨x, c, h1, h2, h3, rfl⟩ := rings_mem h (fun x hx => by rw [← perm_len h]; exact List.mem_range.mp hx) r hr
  refine ⟨by rw [orb_len]; exact h3, fun k hk => ?_, by rw [orb_len]; exact h2.pos⟩
  obtain ⟨i, _, rfl⟩ := List.mem_map.mp hk
  exact it_lt h h1 i
theorem text_bound : ((bigRings t).map ringText |>.map List.length).sum + ((bigRings t).map ringText).length * [32].length ≤ m * (2 * m + 3) := by
  have gen : ∀ R : List (List Nat), (∀ r ∈ R, r.length ≤ m) → ((R.map ringText).map List.length).sum ≤ R.length * (2 * m + 2) := by
    intro R
    induction R with
    | nil => intro _; simp
    | cons r R ih =>
      intro hR
      have z := ih fun x hx => hR x (List.mem_cons_of_mem _ hx)
      have q := numsText_len r
      have q2 := hR r List.mem_cons_self
      have e : (ringText r).length = (numsText r).length + 2 := by
        show (40 :: (numsText r ++ [41])).length = _
        rw [List.length_cons, List.length_append]; rfl
      have e2 : (r :: R).length * (2 * m + 2) = R.length * (2 * m + 2) + (2 * m + 2) := by rw [List.length_cons, Nat.succ_mul]
      rw [List.map_cons, List.map_cons, List.sum_cons, e]
      omega
  have b := gen (bigRings t) fun r hr => (all_ring h (List.mem_filter.mp hr).1).1
  have c := big_len h
  rw [List.length_map]
  have e1 : (bigRings t).length * [32].length = (bigRings t).length := by simp
  have e3 : (bigRings t).length * (2 * m + 2) + (bigRings t).length = (bigRings t).length * (2 * m + 3) := by rw [← Nat.mul_succ]
  have e4 : (bigRings t).length * (2 * m + 3) ≤ m * (2 * m + 3) := Nat.mul_le_mul_right _ c
  omega
end
theorem S_bne (l : List Nat) : (((S l).length : Int) != 0) = decide (l.length ≠ 0) := by
  rw [S_len]
  by_cases e : l.length = 0
  · rw [e]; simp
  · have : ¬ ((l.length : Int) = 0) := by omega
    simp [e, this]
theorem tru_S {l : List Nat} (h : l.length ≤ 16777216) : truD (.d (.str (S l))) = some (decide (l.length ≠ 0)) := by
  show (if (S l).length ≤ 16777216 then some (((S l).length : Int) != 0) else none) = _
  rw [if_pos (by rw [S_len]; exact h), S_bne]
theorem show_turn_ok {m : Nat} {t : List Nat} (h : t.Perm (List.range m)) (hm : m ≤ 10) : g_show_turn [.tuple (t.map nD)] = .ok (.d (.str (S (turnText (bigRings t))))) := by
  have hr := rings_ok h (by omega)
  have hf : (allRings t).length ≤ m := by
    unfold allRings
    refine Nat.le_trans (rings_few t _ _) ?_
    rw [List.length_range, perm_len h]; exact Nat.le_refl _
  have lc : lcE [2] (tgV 2) (etP (tB1 (p2 gGt (pN (g1 gLen) (aCons (pV 2) aNil)) (pC (.int 1))))) (e2 gAdd (e2 gAdd (eP (pC (.str (Str.ofString "(")))) (eCall g_show_numbers (eaCons (eV 2) eaNil))) (eP (pC (.str (Str.ofString ")"))))) ((allRings t).map (Yd.d ∘ lD)) [] [.val (.tuple (t.map nD)), .non, .non] = .ok ((bigRings t).map fun r => .str (S (ringText r))) [.val (.tuple (t.map nD)), .non, .non] := by
    refine lcE_filter (p := fun r => decide (1 < r.length)) (g := fun r => .str (S (ringText r))) (allRings t) [] (fun r hr => ?_) (by simp; omega)
    obtain ⟨a1, a2, a3⟩ := all_ring h hr
    refine ⟨[.val (.tuple (t.map nD)), .non, .val (lD r)], by simp, ?_, by simp, fun _ => ⟨[.val (.tuple (t.map nD)), .non, .val (lD r)], ?_, by simp⟩⟩
    · simp
      omega
    · have sn := show_numbers_ok (r := r) (fun k hk => Nat.lt_of_lt_of_le (a2 k hk) hm) (by omega)
      have q := numsText_len r
      have q1 : 1 + (numsText r).length ≤ 16777216 := by omega
      have q2 : (numsText r).length + 1 + 1 ≤ 16777216 := by omega
      simp [sn, s_open, s_shut, S_cat, S_len, q1, q2]
  have tb := text_bound h
  have tb2 : m * (2 * m + 3) ≤ 10 * 23 := Nat.mul_le_mul hm (by omega)
  have j := join_lst (a := [32]) (ys := (bigRings t).map ringText) (by omega) (x := .o (.lst ((bigRings t).map fun r => .str (S (ringText r))))) (by rw [List.map_map]; rfl)
  have jl := joinL_len [32] ((bigRings t).map ringText)
  have tr := tru_S (l := TL.joinL [32] ((bigRings t).map ringText)) (by omega)
  have ty : isStr (.d (.str (S [32]))) = true := rfl
  unfold turnText
  by_cases e : (TL.joinL [32] ((bigRings t).map ringText)).length = 0
  · rw [if_pos e]
    simp [g_show_turn, d_show_turn, fnF, hr, lc, s_blank, s_both, j, tr, e] at *
  · rw [if_neg e]
    simp [g_show_turn, d_show_turn, fnF, hr, lc, s_blank, s_both, j, tr, e] at *
end HM

set_option Elab.async false
set_option linter.all false
set_option maxRecDepth 100000
set_option maxHeartbeats 4000000
set_option autoImplicit false
/-! T8: the law's text of a turn. -/
namespace HM
open PySem PySem.Spec PyProof.Rows L2 SX
def kvK (s : List Nat) : List (Key × D) := s.map fun (x : Nat) => ((Sum.inl (x : Int) : Key), PyData.bool true)
theorem has_kvK (s : List Nat) (x : Nat) : dHas (kvK s) (Sum.inl (x : Int) : Key) = decide (x ∈ s) := by
  unfold dHas kvK
  induction s with
  | nil => simp
  | cons y s ih =>
    rw [List.map_cons, List.any_cons, ih]
    by_cases e : y = x
    · subst e; simp
    · have h1 : ¬ ((Sum.inl (y : Int) : Key) = Sum.inl (x : Int)) := fun z => e (by have := Sum.inl.inj z; omega)
      have h2 : ¬ (x = y) := fun z => e z.symm
      simp [h1, h2]
theorem put_kvK {s : List Nat} {x : Nat} (h : x ∉ s) : dPut (kvK s) (Sum.inl (x : Int) : Key) (.bool true) = kvK (s ++ [x]) := by
  unfold dPut
  rw [has_kvK, if_neg (by simp [h])]
  unfold kvK
  rw [List.map_append]; rfl
theorem len_kvK (s : List Nat) : (kvK s).length = s.length := List.length_map _
theorem inK (neg : Bool) (s : List Nat) (x : Nat) : gIn neg (.d (nD x)) (.o (.dK (kvK s))) = some (.d (.bool (if neg = true then !decide (x ∈ s) else decide (x ∈ s)))) := by
  show ((datOf (.d (nD x))).bind fun d => (keyD d).bind fun k => bN neg (dHas (kvK s) k)) = _
  show bN neg (dHas (kvK s) (Sum.inl (x : Int))) = _
  rw [has_kvK]; rfl
abbrev sD (r : List Nat) : D := .str (S (dg 0 ++ r))
abbrev strL (r : List Nat) : List D := r.map fun k => .str (S (dg k))
abbrev lSl (t : List D) (f : List D) (s : List Nat) (x : Nat) (r : List Nat) (a : Nat) : Sl := [.val (.tuple t), .own (.lst f), .own (.dK (kvK s)), .val (nD x), .own (.lst (strL r)), .val (nD a)]
abbrev lC : Sl → Res Bool := (etP (tB1 (p2 (gIn true) (pV 5) (pV 2))))
abbrev lB : Sl → RS := (sSeq (sPutD 2 (eV 5) (eP (pC (.bool true)))) (sSeq (sDrop (eM 4 lAppend (eaCons (eP (pN (g1 gStr) (aCons (pV 5) aNil))) eaNil))) (sSet 5 (eP (p2 gIxA (pV 0) (pV 5))))))
theorem orb_new {m : Nat} {t : List Nat} (h : t.Perm (List.range m)) {x c j : Nat} (hx : x < m) (a : Cyc t x c) (hj : j < c) : it t j x ∉ orb t j x := fun e => by
  obtain ⟨i, hi, e⟩ := List.mem_map.mp e
  have hi := List.mem_range.mp hi
  exact a.least (j - i) (by omega) (by omega) (it_back h hx (Nat.le_of_lt hi) e)
theorem law_wh {m : Nat} {t : List Nat} (h : t.Perm (List.range m)) (hm : m ≤ 10) {x c : Nat} (hx : x < m) (a : Cyc t x c) (hc : c ≤ m) (f : List D) (s : List Nat) (hs : Shut t m s) (hn : x ∉ s) (hz : s.length ≤ 1000000) : ∀ (d j : Nat), j + d = c →
    sWhN (d + 1) lC lB (lSl (t.map nD) f (s ++ orb t j x) x (orb t j x) (it t j x)) = .nx (lSl (t.map nD) f (s ++ orb t c x) x (orb t c x) x)
  | 0, j, e => by
    have e : j = c := e
    subst e
    have q := inK true (s ++ orb t j x) (it t j x)
    have hin : it t j x ∈ s ++ orb t j x := by
      rw [a.back]
      exact List.mem_append_right _ (mem_orb (i := 0) a.pos)
    rw [whN_succ]
    simp only [hin, decide_true] at q
    rw [a.back] at q ⊢
    simp [lC, lSl, q]
  | d + 1, j, e => by
    have hj : j < c := by omega
    have q := inK true (s ++ orb t j x) (it t j x)
    have hnin : it t j x ∉ s ++ orb t j x := fun z => (List.mem_append.mp z).elim (shut_it h hx hs hn j) (orb_new h hx a hj)
    have l2 : atI (t.map nD) ((it t j x : Nat) : Int) = some (nD (it t (j + 1) x)) := atI_nD (by rw [perm_len h]; exact it_lt h hx j)
    have pk := put_kvK hnin
    have ih := law_wh h hm hx a hc f s hs hn hz d (j + 1) (by omega)
    have o := orb_succ (t := t) (n := j) (x := x)
    have hl : (s ++ orb t j x).length < 16777216 := by rw [List.length_append, orb_len]; omega
    have hl2 : (orb t j x).length < 16777216 := by rw [orb_len]; omega
    have hk : (kvK (s ++ orb t j x)).length < 16777216 := by rw [len_kvK]; exact hl
    have st := str_nD (k := it t j x) (Nat.lt_of_lt_of_le (it_lt h hx j) hm)
    rw [whN_succ, ← ih, o]
    rw [← List.append_assoc]
    simp only [hnin, decide_false] at q
    unfold lSl
    rw [← pk]
    simp [lC, lB, q, hk, hl2, st, l2, -List.append_assoc]
abbrev lBody : Sl → RS := (sSeq (sSetO 4 (eoP (oLst aNil))) (sSeq (sSet 5 (eV 3)) (sSeq (sWh lC lB) (sIf (etP (tB1 (p2 gGt (pN (g1 gLen) (aCons (pV 4) aNil)) (pC (.int 1))))) (sDrop (eM 1 lAppend (eaCons (eP (p2 gAdd (p2 gAdd (pC (.str (Str.ofString "("))) (pMt isStr (m1 gJoin) (pC (.str (Str.ofString " "))) (aCons (pV 4) aNil))) (pC (.str (Str.ofString ")"))))) eaNil))) sNx))))
abbrev rtD (r : List Nat) : D := .str (S (ringText r))
theorem join_strL {r : List Nat} (hl : r.length ≤ 1000000) {x : Pv} (hx : seqOf x = some (strL r)) : gJoin (.d (.str (S [32]))) x = some (.d (.str (S (numsText r)))) := by
  refine join_lst (a := [32]) (ys := r.map dg) ?_ (by rw [hx, List.map_map]; rfl)
  rw [sum_dg, List.length_map]
  simp; omega
theorem law_for {m : Nat} {t : List Nat} (h : t.Perm (List.range m)) (hm : m ≤ 10) : ∀ (xs : List Nat) (f : List (List Nat)) (s : List Nat) (z3 z4 z5 : Slot), (∀ x ∈ xs, x < m) → f.length + xs.length ≤ 1000 → s.length + xs.length * 1000 ≤ 1000000 → Shut t m s →
    ∃ u3 u4 u5 s', sForL (tgV 3) lBody (xs.map fun k => .d (nD k)) [.val (.tuple (t.map nD)), .own (.lst (f.map rtD)), .own (.dK (kvK s)), z3, z4, z5] = .nx [.val (.tuple (t.map nD)), .own (.lst ((f ++ (ringsFrom t xs s).filter fun r => decide (1 < r.length)).map rtD)), .own (.dK s'), u3, u4, u5]
  | [], f, s, z3, z4, z5, _, _, _, _ => ⟨z3, z4, z5, kvK s, by simp [ringsFrom]⟩
  | x :: xs, f, s, z3, z4, z5, hx, hf, hs, sh => by
    have x1 := hx x List.mem_cons_self
    have hx2 : ∀ y ∈ xs, y < m := fun y hy => hx y (List.mem_cons_of_mem _ hy)
    rw [List.map_cons, for_cons]
    by_cases hin : x ∈ s
    · obtain ⟨u3, u4, u5, s', k⟩ := law_for h hm xs f s (.val (nD x)) (.own (.lst [])) (.val (nD x)) hx2 (by simp at hf; omega) (by simp at hs; omega) sh
      refine ⟨u3, u4, u5, s', ?_⟩
      have e : ringsFrom t (x :: xs) s = ringsFrom t xs s := if_pos hin
      rw [e, ← k]
      have q := inK true s x
      simp only [hin, decide_true] at q
      have w0 : sWhN 1 lC lB (lSl (t.map nD) (f.map rtD) s x [] x) = .nx (lSl (t.map nD) (f.map rtD) s x [] x) := by
        rw [whN_succ]
        simp [lC, lSl, q]
      have w := wh_of 1 (by decide) w0 (fun z => nomatch z)
      simp only [lSl, strL, List.map_nil] at w
      simp [lBody, w]
    · obtain ⟨c, a, hc⟩ := cyc_ex h x1
      have e : ringsFrom t (x :: xs) s = ringOf t x :: ringsFrom t xs (s ++ ringOf t x) := if_neg hin
      have er := ringOf_eq a
      have hsl : (s ++ orb t c x).length ≤ s.length + 1000 := by rw [List.length_append, orb_len]; omega
      have sh2 := shut_app h x1 a sh
      have w0 := law_wh h hm x1 a hc (f.map rtD) s sh hin (by simp only [List.length_cons] at hs; omega) c 0 (Nat.zero_add c)
      have o0 : orb t 0 x = [] := rfl
      rw [o0, List.append_nil] at w0
      have w := wh_of (c + 1) (by omega) w0 (fun z => nomatch z)
      simp only [lSl, strL, List.map_nil] at w
      rw [e, er]
      have i0 : it t 0 x = x := rfl
      rw [i0] at w
      have ln : (orb t c x).length = c := orb_len
      by_cases big : 1 < c
      · obtain ⟨u3, u4, u5, s', k⟩ := law_for h hm xs (f ++ [orb t c x]) (s ++ orb t c x) (.val (nD x)) (.own (.lst (strL (orb t c x)))) (.val (nD x)) hx2 (by simp at hf ⊢; omega) (by simp only [List.length_cons] at hs; omega) sh2
        refine ⟨u3, u4, u5, s', ?_⟩
        have fl : (orb t c x :: ringsFrom t xs (s ++ orb t c x)).filter (fun r => decide (1 < r.length)) = orb t c x :: (ringsFrom t xs (s ++ orb t c x)).filter fun r => decide (1 < r.length) := by
          rw [List.filter_cons_of_pos]; simp [ln, big]
        have e5 : f ++ orb t c x :: (ringsFrom t xs (s ++ orb t c x)).filter (fun r => decide (1 < r.length)) = f ++ [orb t c x] ++ (ringsFrom t xs (s ++ orb t c x)).filter fun r => decide (1 < r.length) := by simp
        rw [fl, e5, ← k]
        have j := join_strL (r := orb t c x) (by rw [ln]; omega) (x := .o (.lst (strL (orb t c x)))) rfl
        have q := numsText_len (orb t c x)
        rw [ln] at q
        have q1 : 1 + (numsText (orb t c x)).length ≤ 16777216 := by omega
        have q2 : (numsText (orb t c x)).length + 1 + 1 ≤ 16777216 := by omega
        have hl2 : f.length < 16777216 := by simp at hf; omega
        have big' : (1 : Int) < (c : Int) := by omega
        simp [lBody, w, ln, big', j, s_open, s_shut, s_blank, S_cat, S_len, q1, q2, hl2]
      · obtain ⟨u3, u4, u5, s', k⟩ := law_for h hm xs f (s ++ orb t c x) (.val (nD x)) (.own (.lst (strL (orb t c x)))) (.val (nD x)) hx2 (by simp at hf ⊢; omega) (by simp only [List.length_cons] at hs; omega) sh2
        refine ⟨u3, u4, u5, s', ?_⟩
        have fl : (orb t c x :: ringsFrom t xs (s ++ orb t c x)).filter (fun r => decide (1 < r.length)) = (ringsFrom t xs (s ++ orb t c x)).filter fun r => decide (1 < r.length) := by
          rw [List.filter_cons_of_neg]; simp [ln, big]
        rw [fl, ← k]
        have big' : ¬ (1 : Int) < (c : Int) := by omega
        simp [lBody, w, ln, big']
theorem text_ok {m : Nat} {t : List Nat} (h : t.Perm (List.range m)) (hm : m ≤ 10) : g_law_text [.tuple (t.map nD)] = .ok (.d (.str (S (turnText (bigRings t))))) := by
  obtain ⟨u3, u4, u5, s', k⟩ := law_for h hm (List.range m) [] [] .non .non .non (fun x hx => List.mem_range.mp hx) (by simp; omega) (by simp; omega) (fun y _ hy => absurd hy (List.not_mem_nil))
  have hl := perm_len h
  have r2 := rng1_nat (show m ≤ 16777216 by omega)
  have kv0 : kvK [] = [] := rfl
  have k : sForL (tgV 3) lBody (List.map (Yd.d ∘ nD) (List.range m)) [.val (.tuple (t.map nD)), .own (.lst []), .own (.dK []), .non, .non, .non] = .nx [.val (.tuple (t.map nD)), .own (.lst ((bigRings t).map rtD)), .own (.dK s'), u3, u4, u5] := by
    unfold bigRings allRings; rw [hl]; exact k
  have tb := text_bound h
  have tb2 : m * (2 * m + 3) ≤ 10 * 23 := Nat.mul_le_mul hm (by omega)
  have j := join_lst (a := [32]) (ys := (bigRings t).map ringText) (by omega) (x := .o (.lst ((bigRings t).map rtD))) (by rw [List.map_map]; rfl)
  have jl := joinL_len [32] ((bigRings t).map ringText)
  have tr := tru_S (l := TL.joinL [32] ((bigRings t).map ringText)) (by omega)
  unfold lBody lC lB at k
  simp only [s_blank] at k
  unfold turnText
  by_cases e : (TL.joinL [32] ((bigRings t).map ringText)).length = 0
  · rw [if_pos e]
    simp [g_law_text, d_law_text, fnF, hl, r2, k, s_blank, s_both, j, tr, e]
  · rw [if_neg e]
    simp [g_law_text, d_law_text, fnF, hl, r2, k, s_blank, s_both, j, tr, e]
end HM

set_option Elab.async false
set_option linter.all false
set_option maxRecDepth 100000
set_option maxHeartbeats 4000000
set_option autoImplicit false
/-! T9: texts read. -/
namespace HM
open PySem PySem.Spec PyProof.Rows L2 SX
theorem layS {n : Nat} {l : List Nat} (h : ∀ c ∈ l, c < 128) : Lay n (.str (S l)) := by
  refine ⟨?_, by simp only [PyData.depth]; exact Nat.zero_le _⟩
  simp only [PyData.canLay0]
  unfold PyData.strOk
  rw [← Array.all_toList]
  exact List.all_eq_true.mpr fun c hc => decide_eq_true (Nat.lt_of_lt_of_le (h c hc) (by decide))
theorem shapedS {l : List Nat} (h : ∀ c ∈ l, c < 128) : SeqAt.shaped (.str (S l)) = true := (layS (n := 0) h).shaped (by decide)
theorem eqS {a b : List Nat} (ha : ∀ c ∈ a, c < 128) (hb : ∀ c ∈ b, c < 128) : gEq false (.d (.str (S a))) (.d (.str (S b))) = some (.d (.bool (decide (a = b)))) := by
  rw [r_gEq (shapedS ha) (shapedS hb), eqv_str, S_beq_eq]
theorem neS {a b : List Nat} (ha : ∀ c ∈ a, c < 128) (hb : ∀ c ∈ b, c < 128) : gEq true (.d (.str (S a))) (.d (.str (S b))) = some (.d (.bool (!decide (a = b)))) := by
  rw [r_gNe (shapedS ha) (shapedS hb), eqv_str, S_beq_eq]
theorem cut_first {c : Nat} {l : List Nat} : cutS (S (c :: l)) none (some 1) = S [c] := by
  unfold cutS
  have e : HT.sIx (S (c :: l)).length (S (c :: l)).length (some 1) = 1 := by
    have z := HT.sIx_nat (S (c :: l)).length (S (c :: l)).length 1
    rw [S_len] at z ⊢
    rw [show (some (1 : Int)) = some ((1 : Nat) : Int) from rfl, z]
    simp
  rw [e, HT.sIx_none]
  rfl
theorem cut_last {c : Nat} {l : List Nat} : cutS (S (l ++ [c])) (some (-1)) none = S [c] := by
  unfold cutS
  have e : HT.sIx (S (l ++ [c])).length 0 (some (-1)) = l.length := by
    rw [S_len, List.length_append]
    unfold HT.sIx
    simp
    omega
  rw [e, HT.sIx_none, S_len, List.length_append]
  show (⟨(((l ++ [c]).drop l.length).take _).toArray⟩ : Str) = _
  rw [List.drop_left]
  simp
theorem cut_mid {b c : Nat} {l : List Nat} : cutS (S (b :: (l ++ [c]))) (some 1) (some (-1)) = S l := by
  unfold cutS
  have e1 : HT.sIx (S (b :: (l ++ [c]))).length 0 (some 1) = 1 := by
    have z := HT.sIx_nat (S (b :: (l ++ [c]))).length 0 1
    rw [show (some (1 : Int)) = some ((1 : Nat) : Int) from rfl, z, S_len]
    simp
  have e2 : HT.sIx (S (b :: (l ++ [c]))).length (S (b :: (l ++ [c]))).length (some (-1)) = l.length + 1 := by
    rw [S_len, List.length_cons, List.length_append]
    unfold HT.sIx
    simp
    try omega
  rw [e1, e2]
  show (⟨(((l ++ [c]).drop 0).take _).toArray⟩ : Str) = _
  rw [List.drop_zero, Nat.add_sub_cancel, List.take_left]
theorem s_fig : Str.ofString "0123456789" = S [48, 49, 50, 51, 52, 53, 54, 55, 56, 57] := by decide +kernel
theorem s_zero : Str.ofString "0" = S [48] := by decide +kernel
theorem in_fig {k : Nat} (h : k < 10) : gIn false (.d (.str ⟨#[48 + k]⟩)) (.d (.str (S [48, 49, 50, 51, 52, 53, 54, 55, 56, 57]))) = some (.d (.bool true)) := by
  show bN false (decide (48 + k ∈ [48, 49, 50, 51, 52, 53, 54, 55, 56, 57])) = _
  have : 48 + k ∈ [48, 49, 50, 51, 52, 53, 54, 55, 56, 57] := by
    simp only [List.mem_cons, List.not_mem_nil, or_false]; omega
  rw [decide_eq_true this]; rfl
theorem r_ixS {z : Str} {i : Int} : gIx (.d (.str z)) (.d (.int i)) = if z.length ≤ 16777216 then (atI z.cps.toList i).bind fun c => some (.d (.str ⟨#[c]⟩)) else none := rfl
theorem r_intS {z : Str} : gInt (.d (.str z)) = if z.length ≤ 640 then (PySem.intText? z).bind fun n => some (.d (.int n)) else none := rfl
theorem ix_dg {k : Nat} : gIx (.d (.str (S (dg k)))) (.d (.int 0)) = some (.d (.str (S (dg k)))) := by
  rw [r_ixS, if_pos (by rw [S_len]; simp)]
  show (atI (dg k) 0).bind _ = _
  rw [at0]; rfl
theorem dg_lt {k : Nat} (h : k < 10) : ∀ c ∈ dg k, c < 128 := fun c hc => by
  have : c = 48 + k := by simpa using hc
  omega
theorem is_digit (k : Nat) (hk : k < 10) : g_is_number [.str (S (dg k))] = .ok (.d (.bool true)) := by
  have lc : lcP (tgV 1) yesP (p2 (gIn false) (pV 1) (pC (.str (S [48, 49, 50, 51, 52, 53, 54, 55, 56, 57])))) [.val (.str (S (dg k))), .non] ((ydStr (S (dg k))).map .d) = some [.bool true] := by
    have y : (ydStr (S (dg k))).map Yd.d = [.d (.str ⟨#[48 + k]⟩)] := rfl
    rw [y]
    have q := in_fig hk
    simp [lcP, q]
  have ln : (S (dg k)).length = 1 := S_len _
  have e1 := eqS (dg_lt hk) (b := [48]) (by decide)
  have e2 := neS (dg_lt hk) (b := [48]) (by decide)
  have al : gAll (.d (.list [.bool true])) = some (.d (.bool true)) := by simp [gAll, blsOf]
  by_cases h0 : k = 0
  · subst h0
    have e1 : gEq false (.d (.str (S (dg 0)))) (.d (.str (S [48]))) = some (.d (.bool true)) := by rw [e1]; rfl
    simp [g_is_number, d_is_number, fnF, s_fig, s_zero, ln, lc, al, e1]
  · have ne : ¬ dg k = [48] := fun z => h0 (by have := List.cons.inj z; omega)
    rw [decide_eq_false ne] at e1 e2
    simp [g_is_number, d_is_number, fnF, s_fig, s_zero, ln, lc, al, e1, e2, ix_dg]
theorem int_dg {k : Nat} (hk : k < 10) : gInt (.d (.str (S (dg k)))) = some (.d (nD k)) := by
  have e : intText? (S (dg k)) = some (k : Int) := by
    rw [int_S (a := dg k) (by simp; omega) (by simp) (by simp)]
    have : k = 0 ∨ k = 1 ∨ k = 2 ∨ k = 3 ∨ k = 4 ∨ k = 5 ∨ k = 6 ∨ k = 7 ∨ k = 8 ∨ k = 9 := by omega
    rcases this with rfl | rfl | rfl | rfl | rfl | rfl | rfl | rfl | rfl | rfl <;> rfl
  rw [r_intS, if_pos (by rw [S_len]; simp), e]; rfl
/-- rings between brackets -/
theorem join_rings : ∀ {R : List (List Nat)}, R ≠ [] → TL.joinL [32] (R.map ringText) = 40 :: (TL.joinL [41, 32, 40] (R.map numsText) ++ [41])
  | [], h => absurd rfl h
  | [r], _ => rfl
  | r :: q :: R, _ => by
    have ih := join_rings (R := q :: R) (by simp)
    show ringText r ++ ([32] ++ TL.joinL [32] ((q :: R).map ringText)) = _
    rw [ih]
    show _ = 40 :: ((numsText r ++ ([41, 32, 40] ++ TL.joinL [41, 32, 40] ((q :: R).map numsText))) ++ [41])
    simp [ringText]
theorem nums_sign {r : List Nat} (hr : ∀ k ∈ r, k < 10) : ∀ c ∈ numsText r, c = 32 ∨ (48 ≤ c ∧ c < 58) := by
  induction r with
  | nil => intro c hc; exact absurd hc (List.not_mem_nil)
  | cons x r ih =>
    intro c hc
    have hx := hr x List.mem_cons_self
    have ih := ih fun k hk => hr k (List.mem_cons_of_mem _ hk)
    cases r with
    | nil =>
      have : c = 48 + x := by simpa [numsText, TL.joinL] using hc
      omega
    | cons y r =>
      have hc : c ∈ dg x ++ ([32] ++ numsText (y :: r)) := hc
      rcases List.mem_append.mp hc with hc | hc
      · have : c = 48 + x := by simpa using hc
        omega
      · rcases List.mem_append.mp hc with hc | hc
        · left; simpa using hc
        · exact ih c hc
theorem text_sign {R : List (List Nat)} (hR : ∀ r ∈ R, ∀ k ∈ r, k < 10) : ∀ c ∈ TL.joinL [32] (R.map ringText), c < 128 := by
  have one : ∀ r ∈ R, ∀ c ∈ ringText r, c < 128 := fun r hr c hc => by
    rcases List.mem_cons.mp hc with rfl | hc
    · decide
    · rcases List.mem_append.mp hc with hc | hc
      · rcases nums_sign (hR r hr) c hc with rfl | z
        · decide
        · omega
      · rw [List.mem_singleton.mp hc]; decide
  have gen : ∀ ps : List (List Nat), (∀ p ∈ ps, ∀ c ∈ p, c < 128) → ∀ c ∈ TL.joinL [32] ps, c < 128 := by
    intro ps
    induction ps with
    | nil => intro _ c hc; exact absurd hc (List.not_mem_nil)
    | cons p ps ih =>
      intro h c hc
      cases ps with
      | nil => exact h p List.mem_cons_self c hc
      | cons q ps =>
        have hc : c ∈ p ++ ([32] ++ TL.joinL [32] (q :: ps)) := hc
        rcases List.mem_append.mp hc with hc | hc
        · exact h p List.mem_cons_self c hc
        · rcases List.mem_append.mp hc with hc | hc
          · rw [List.mem_singleton.mp hc]; decide
          · exact ih (fun z hz => h z (List.mem_cons_of_mem _ hz)) c hc
  refine gen _ fun p hp => ?_
  obtain ⟨r, hr, rfl⟩ := List.mem_map.mp hp
  exact one r hr
end HM

set_option Elab.async false
set_option linter.all false
set_option maxRecDepth 100000
set_option maxHeartbeats 4000000
set_option autoImplicit false
/-! T10: rings read. -/
namespace HM
open PySem PySem.Spec PyProof.Rows L2 SX
theorem r_split {z b : Str} : oSplit (.d (.str z)) (.d (.str b)) = if (b.length == 0) = false ∧ z.length + 2 ≤ 16777216 then some (.lst ((Txt.split z b).map .str)) else none := rfl
theorem split_nums {r : List Nat} (hne : r ≠ []) (hr : ∀ k ∈ r, k < 10) (hl : r.length ≤ 1000000) : oSplit (.d (.str (S (numsText r)))) (.d (.str (S [32]))) = some (.lst (strL r)) := by
  have q := numsText_len r
  rw [r_split, if_pos ⟨by rw [S_len]; rfl, by rw [S_len]; omega⟩]
  have e : Txt.split (S (numsText r)) (S [32]) = (r.map dg).map S := by
    rw [split_S (by simp) (by simp)]
    have z := TL.spl_join (s := 32) (S := []) (parts := r.map dg) (by simpa using hne) (fun p hp => by
      obtain ⟨k, hk, rfl⟩ := List.mem_map.mp hp
      intro z
      have : 32 = 48 + k := by simpa using z
      omega)
    rw [z]
  rw [e, List.map_map, List.map_map]; rfl
theorem all_true {α : Type} (r : List α) : gAll (.d (.list (r.map fun _ => .bool true))) = some (.d (.bool true)) := by
  have e : (r.map fun _ => PyData.bool true) = (r.map fun _ => true).map PyData.bool := by rw [List.map_map]; rfl
  have : (r.map fun _ => true).all id = true := by simp
  unfold gAll
  simp only [r_lstD, Option.bind_some]
  rw [e, blsOf_map]
  simp only [Option.bind_some, this]
abbrev iBody : Sl → RS := (sSeq (sSetO 3 (eoP (oMt isStr (m1 oSplit) (pV 2) (aCons (pC (.str (Str.ofString " "))) aNil)))) (sSeq (sIf (etNot (etB (eN (g1 gAll) (eaCons (eFrz (eLc [4] (iSq (eV 3)) (tgV 4) yesE (eCall g_is_number (eaCons (eV 4) eaNil)))) eaNil)))) (fun _ => .stuck) sNx) (sDrop (eM 1 lAppend (eaCons (eP (frz (oLc [4] (ipSq (pV 3)) (tgV 4) yesP (pN (g1 gInt) (aCons (pV 4) aNil))))) eaNil)))))
theorem in_for (tx : D) : ∀ (R f : List (List Nat)) (z2 z3 : Slot), (∀ r ∈ R, r ≠ [] ∧ r.length ≤ 1000 ∧ ∀ k ∈ r, k < 10) → f.length + R.length ≤ 1000 →
    ∃ u2 u3, sForL (tgV 2) iBody (R.map fun r => .d (.str (S (numsText r)))) [.val tx, .own (.lst (f.map lD)), z2, z3, .non] = .nx [.val tx, .own (.lst ((f ++ R).map lD)), u2, u3, .non]
  | [], f, z2, z3, _, _ => ⟨z2, z3, by simp⟩
  | r :: R, f, z2, z3, h, hl => by
    obtain ⟨h1, h2, h3⟩ := h r List.mem_cons_self
    obtain ⟨u2, u3, k⟩ := in_for tx R (f ++ [r]) (.val (.str (S (numsText r)))) (.val (.list (strL r))) (fun q hq => h q (List.mem_cons_of_mem _ hq)) (by simp at hl ⊢; omega)
    refine ⟨u2, u3, ?_⟩
    have e : f ++ r :: R = f ++ [r] ++ R := by simp
    rw [List.map_cons, for_cons, e, ← k]
    have sp := split_nums h1 h3 (by omega)
    have lc : lcE [4] (tgV 4) yesE (eCall g_is_number (eaCons (eV 4) eaNil)) ((strL r).map .d) [] [.val tx, .own (.lst (f.map lD)), .val (.str (S (numsText r))), .val (.list (strL r)), .non] = .ok (r.map fun _ => .bool true) [.val tx, .own (.lst (f.map lD)), .val (.str (S (numsText r))), .val (.list (strL r)), .non] := by
      have z := lcE_filter (t := tgV 4) (c := yesE) (e := eCall g_is_number (eaCons (eV 4) eaNil)) (vs := [4]) (η := [.val tx, .own (.lst (f.map lD)), .val (.str (S (numsText r))), .val (.list (strL r)), .non]) (f := fun k => Yd.d (.str (S (dg k)))) (p := fun _ => true) (g := fun _ => .bool true) r [] (fun k hk => by
        have d := is_digit k (h3 k hk)
        refine ⟨[.val tx, .own (.lst (f.map lD)), .val (.str (S (numsText r))), .val (.list (strL r)), .val (.str (S (dg k)))], by simp, by simp, by simp, fun _ => ⟨[.val tx, .own (.lst (f.map lD)), .val (.str (S (numsText r))), .val (.list (strL r)), .val (.str (S (dg k)))], ?_, by simp⟩⟩
        simp [d]) (by simp; omega)
      rw [List.map_map]
      have fe : r.filter (fun _ => true) = r := List.filter_eq_self.mpr fun _ _ => rfl
      rw [fe, List.nil_append] at z
      exact z
    have li : lcP (tgV 4) yesP (pN (g1 gInt) (aCons (pV 4) aNil)) [.val tx, .own (.lst (f.map lD)), .val (.str (S (numsText r))), .val (.list (strL r)), .non] ((strL r).map .d) = some (r.map nD) := by
      rw [List.map_map]
      refine lcP_map r fun k hk => ⟨[.val tx, .own (.lst (f.map lD)), .val (.str (S (numsText r))), .val (.list (strL r)), .val (.str (S (dg k)))], by simp, ?_⟩
      have d := int_dg (h3 k hk)
      simp [d]
    have al := all_true r
    have hl2 : f.length < 16777216 := by simp at hl; omega
    have hl3 : r.length ≤ 16777216 := by omega
    simp only [strL, List.map_map] at lc li sp
    simp [iBody, s_blank, sp, lc, li, al, hl2, hl3]
end HM

set_option Elab.async false
set_option linter.all false
set_option maxRecDepth 100000
set_option maxHeartbeats 4000000
set_option autoImplicit false
/-! T11: rings_in, turn_of. -/
namespace HM
open PySem PySem.Spec PyProof.Rows L2 SX
theorem numsMid_sign {R : List (List Nat)} (hR : ∀ r ∈ R, ∀ k ∈ r, k < 10) : ∀ p ∈ R.map numsText, 41 ∉ p := fun p hp hc => by
  obtain ⟨r, hr, rfl⟩ := List.mem_map.mp hp
  rcases nums_sign (hR r hr) 41 hc with z | z
  · cases z
  · omega
theorem split_mid {R : List (List Nat)} (hne : R ≠ []) (hR : ∀ r ∈ R, ∀ k ∈ r, k < 10) (hz : (TL.joinL [41, 32, 40] (R.map numsText)).length + 2 ≤ 16777216) : oSplit (.d (.str (S (TL.joinL [41, 32, 40] (R.map numsText))))) (.d (.str (S [41, 32, 40]))) = some (.lst (R.map fun r => .str (S (numsText r)))) := by
  rw [r_split, if_pos ⟨by rw [S_len]; rfl, by rw [S_len]; exact hz⟩]
  have e : Txt.split (S (TL.joinL [41, 32, 40] (R.map numsText))) (S [41, 32, 40]) = (R.map numsText).map S := by
    rw [split_S (by simp) (by simp)]
    rw [TL.spl_join (s := 41) (S := [32, 40]) (parts := R.map numsText) (by simpa using hne) (numsMid_sign hR)]
  rw [e, List.map_map, List.map_map]; rfl
theorem r_slS {z : Str} {lo hi : Option Int} : gSl (.d (.str z)) lo hi = if z.length ≤ 16777216 then some (.d (.str (cutS z lo hi))) else none := rfl
theorem rings_in_ok {R : List (List Nat)} (hR : ∀ r ∈ R, r ≠ [] ∧ r.length ≤ 1000 ∧ ∀ k ∈ r, k < 10) (hl : R.length ≤ 1000) (hz : (TL.joinL [32] (R.map ringText)).length ≤ 1000000) : g_rings_in [.str (S (turnText R))] = .ok (.d (.list (R.map lD))) := by
  by_cases hne : R = []
  · subst hne
    have e : turnText [] = [40, 41] := rfl
    have q := eqS (a := [40, 41]) (b := [40, 41]) (by decide) (by decide)
    rw [e]
    simp [g_rings_in, d_rings_in, fnF, s_both, q]
  · have jr := join_rings hne
    have ln : ¬ (TL.joinL [32] (R.map ringText)).length = 0 := by rw [jr]; simp
    have e : turnText R = 40 :: (TL.joinL [41, 32, 40] (R.map numsText) ++ [41]) := by
      unfold turnText
      rw [if_neg ln, jr]
    have sg : ∀ c ∈ 40 :: (TL.joinL [41, 32, 40] (R.map numsText) ++ [41]), c < 128 := by
      rw [← jr]
      exact text_sign fun r hr => (hR r hr).2.2
    have hz2 : (TL.joinL [41, 32, 40] (R.map numsText)).length + 2 ≤ 1000000 := by
      rw [jr] at hz
      simpa using hz
    have inner : TL.joinL [41, 32, 40] (R.map numsText) ≠ [] := by
      obtain ⟨r, R', rfl⟩ := List.exists_cons_of_ne_nil hne
      have h1 := (hR r List.mem_cons_self).1
      obtain ⟨x, r', rfl⟩ := List.exists_cons_of_ne_nil h1
      cases R' with
      | nil =>
        cases r' with
        | nil => exact List.cons_ne_nil _ _
        | cons y r' => exact List.cons_ne_nil _ _
      | cons q R' =>
        intro z
        have z : numsText (x :: r') ++ ([41, 32, 40] ++ TL.joinL [41, 32, 40] ((q :: R').map numsText)) = [] := z
        simp at z
    have ne : ¬ 40 :: (TL.joinL [41, 32, 40] (R.map numsText) ++ [41]) = [40, 41] := fun z => inner (by
      have z := (List.cons.inj z).2
      have : (TL.joinL [41, 32, 40] (R.map numsText)).length + 1 = 1 := by
        have := congrArg List.length z
        simpa using this
      exact List.length_eq_zero_iff.mp (by omega))
    have q1 := eqS sg (b := [40, 41]) (by decide)
    rw [decide_eq_false ne] at q1
    have sl : ∀ lo hi, gSl (.d (.str (S (40 :: (TL.joinL [41, 32, 40] (R.map numsText) ++ [41]))))) lo hi = some (.d (.str (cutS (S (40 :: (TL.joinL [41, 32, 40] (R.map numsText) ++ [41]))) lo hi))) := fun lo hi => by
      rw [r_slS, if_pos]
      rw [S_len, List.length_cons, List.length_append]
      simp only [List.length_cons, List.length_nil]
      omega
    have s1 := sl none (some 1)
    have s2 := sl (some (-1)) none
    have s3 := sl (some 1) (some (-1))
    rw [cut_first] at s1
    rw [show 40 :: (TL.joinL [41, 32, 40] (R.map numsText) ++ [41]) = (40 :: TL.joinL [41, 32, 40] (R.map numsText)) ++ [41] from rfl, cut_last, List.cons_append] at s2
    rw [cut_mid] at s3
    have q2 := neS (a := [40]) (b := [40]) (by decide) (by decide)
    have q3 := neS (a := [41]) (b := [41]) (by decide) (by decide)
    have sp := split_mid hne (fun r hr => (hR r hr).2.2) (by omega)
    obtain ⟨u2, u3, k⟩ := in_for (.str (S (turnText R))) R [] .non .non hR (by simp; omega)
    unfold iBody at k
    rw [e] at k ⊢
    have k : sForL (tgV 2) (sSeq (sSetO 3 (eoP (oMt isStr (m1 oSplit) (pV 2) (aCons (pC (.str (Str.ofString " "))) aNil)))) (sSeq (sIf (etNot (etB (eN (g1 gAll) (eaCons (eFrz (eLc [4] (iSq (eV 3)) (tgV 4) yesE (eCall g_is_number (eaCons (eV 4) eaNil)))) eaNil)))) (fun _ => .stuck) sNx) (sDrop (eM 1 lAppend (eaCons (eP (frz (oLc [4] (ipSq (pV 3)) (tgV 4) yesP (pN (g1 gInt) (aCons (pV 4) aNil))))) eaNil))))) (List.map (Yd.d ∘ fun r => .str (S (numsText r))) R) [.val (.str (S (40 :: (TL.joinL [41, 32, 40] (R.map numsText) ++ [41])))), .own (.lst []), .non, .non, .non] = .nx [.val (.str (S (40 :: (TL.joinL [41, 32, 40] (R.map numsText) ++ [41])))), .own (.lst (R.map lD)), u2, u3, .non] := k
    simp only [s_blank] at k
    simp [g_rings_in, d_rings_in, fnF, s_both, s_open, s_shut, s_mid, s_blank, q1, s1, s2, s3, q2, q3, sp, k]
end HM

set_option Elab.async false
set_option linter.all false
set_option maxRecDepth 100000
set_option maxHeartbeats 4000000
set_option autoImplicit false
/-! T12: a turn of rings. -/
namespace HM
open PySem PySem.Spec PyProof.Rows L2 SX
theorem is_whole_ok (i : Int) : g_is_whole [.int i] = .ok (.d (.bool true)) := by
  simp [g_is_whole, d_is_whole, fnF]
abbrev uSl (M : Nat) (ls : D) (f s : List Nat) (z4 z5 z6 z7 : Slot) : Sl := [.val (nD M), .val ls, .own (.lst (f.map nD)), .own (.lst (s.map nD)), z4, z5, z6, z7]
abbrev oneBody : Sl → RS := (sSeq (sIf (etOr (etNot (etB (eCall g_is_whole (eaCons (eV 6) eaNil)))) (etOr (etP (tNot1 (tB1 (pCh gLe gLt (pC (.int 0)) (pV 6) (pV 0))))) (etP (tB1 (p2 (gIn false) (pV 6) (pV 3)))))) (fun _ => .stuck) sNx) (sDrop (eM 3 lAppend (eaCons (eV 6) eaNil))))
theorem one_for {M : Nat} {ls : D} (f : List Nat) (z4 z5 z7 : Slot) : ∀ (r s : List Nat) (z6 : Slot), (∀ k ∈ r, k < M) → (s ++ r).Nodup → s.length + r.length ≤ 1000000 →
    ∃ u6, sForL (tgV 6) oneBody (r.map fun k => .d (nD k)) (uSl M ls f s z4 z5 z6 z7) = .nx (uSl M ls f (s ++ r) z4 z5 u6 z7)
  | [], s, z6, _, _, _ => ⟨z6, by simp⟩
  | x :: r, s, z6, hr, hn, hl => by
    have x1 := hr x List.mem_cons_self
    have xs : x ∉ s := fun z => (List.nodup_append.mp hn).2.2 x z x List.mem_cons_self rfl
    have e : s ++ x :: r = s ++ [x] ++ r := by simp
    obtain ⟨u6, k⟩ := one_for f z4 z5 z7 r (s ++ [x]) (.val (nD x)) (fun y hy => hr y (List.mem_cons_of_mem _ hy)) (by rw [← e]; exact hn) (by simp at hl ⊢; omega)
    refine ⟨u6, ?_⟩
    rw [List.map_cons, for_cons, e, ← k]
    have w := is_whole_ok (x : Int)
    have q := inO_nD s x false
    simp only [xs, decide_false] at q
    have x0 : (0 : Int) ≤ (x : Int) := by omega
    have x2 : (x : Int) < (M : Int) := by omega
    have hl2 : s.length < 16777216 := by simp at hl; omega
    simp [oneBody, uSl, w, q, x0, x2, hl2]
theorem ring2_ind {M : Nat} {ls : D} {l : List Nat} (s : List Nat) (z4 z6 : Slot) (hl : ∀ x ∈ l, x < M) : ∀ (ks f : List Nat) (z7 : Slot), (∀ k ∈ ks, k < l.length) → f.length = M →
    ∃ u7, sForL (tgV 7) (sPut 2 (eP (p2 gIxA (pV 5) (p2 gSub (pV 7) (pC (.int 1))))) (eP (p2 gIxA (pV 5) (pV 7)))) (ks.map fun k => .d (nD k)) (uSl M ls f s z4 (.val (lD l)) z6 z7) = .nx (uSl M ls (ks.foldl (stepR l) f) s z4 (.val (lD l)) z6 u7)
  | [], f, z7, _, _ => ⟨z7, by simp⟩
  | k :: ks, f, z7, hk, hf => by
    have k1 := hk k List.mem_cons_self
    have a1 := atI_nD k1
    have a2 := atI_before k1
    have b1 : l.getD (before k l.length) 0 < M := by
      have hb : before k l.length < l.length := by unfold before; split <;> omega
      exact hl _ (getD_mem hb)
    have c1 : ixN f.length ((l.getD (before k l.length) 0 : Nat) : Int) = some (l.getD (before k l.length) 0) := ixN_nat (by rw [hf]; exact b1)
    obtain ⟨u7, h⟩ := ring2_ind s z4 z6 hl ks (stepR l f k) (.val (nD k)) (fun x hx => hk x (List.mem_cons_of_mem _ hx)) (by unfold stepR; rw [List.length_set]; exact hf)
    refine ⟨u7, ?_⟩
    rw [List.map_cons, for_cons, List.foldl_cons, ← h]
    simp only [uSl, stepR] at *
    simp [a1, a2, c1, -List.getD_eq_getElem?_getD]
def ringSet (f l : List Nat) : List Nat := (List.range l.length).foldl (stepR l) f
theorem ringSet_len (f l : List Nat) : (ringSet f l).length = f.length := by
  unfold ringSet
  have : ∀ (ks f : List Nat), (ks.foldl (stepR l) f).length = f.length := by
    intro ks
    induction ks with
    | nil => intro f; rfl
    | cons k ks ih => intro f; rw [List.foldl_cons, ih]; unfold stepR; exact List.length_set
  exact this _ f
noncomputable abbrev tBody : Sl → RS := (sSeq (sSet 5 (eP (p2 gIxA (pV 1) (pV 4)))) (sSeq (sIf (etP (tB1 (p2 (gEq false) (pV 5) (frz (oLst aNil))))) (fun _ => .stuck) sNx) (sSeq (sFor (iSq (eV 5)) (tgV 6) oneBody) (sFor (iRg rngD1 (eaCons (eP (pN (g1 gLen) (aCons (pV 5) aNil))) eaNil)) (tgV 7) (sPut 2 (eP (p2 gIxA (pV 5) (p2 gSub (pV 7) (pC (.int 1))))) (eP (p2 gIxA (pV 5) (pV 7))))))))
theorem atI_lD {R : List (List Nat)} {k : Nat} (h : k < R.length) : atI (R.map lD) (k : Int) = some (lD (R.getD k [])) := by
  unfold atI
  rw [List.length_map, ixN_nat h]
  show (R.map lD)[k]? = _
  rw [List.getElem?_map, List.getElem?_eq_getElem h, List.getD_eq_getElem?_getD, List.getElem?_eq_getElem h]; rfl
theorem eqv_nil {r : List Nat} (h : r ≠ []) : gEq false (.d (lD r)) (.d (.list [])) = some (.d (.bool false)) := by
  rw [r_gEq (shaped_list (lay_nD r)) shaped_nil, eqv_list]
  obtain ⟨x, r, rfl⟩ := List.exists_cons_of_ne_nil h
  simp only [List.map_cons, PyData.eqvAll]
theorem tof_for {M : Nat} {R : List (List Nat)} : ∀ (is f s : List Nat) (z4 z5 z6 z7 : Slot), (∀ i ∈ is, i < R.length ∧ R.getD i [] ≠ [] ∧ (R.getD i []).length ≤ 1000 ∧ ∀ k ∈ R.getD i [], k < M) → (s ++ is.flatMap fun i => R.getD i []).Nodup → f.length = M → s.length + is.length * 1000 ≤ 1000000 →
    ∃ u4 u5 u6 u7 s', sForL (tgV 4) tBody (is.map fun k => .d (nD k)) (uSl M (.list (R.map lD)) f s z4 z5 z6 z7) = .nx (uSl M (.list (R.map lD)) ((is.map fun i => R.getD i []).foldl ringSet f) s' u4 u5 u6 u7)
  | [], f, s, z4, z5, z6, z7, _, _, _, _ => ⟨z4, z5, z6, z7, s, by simp⟩
  | i :: is, f, s, z4, z5, z6, z7, hi, hn, hf, hl => by
    obtain ⟨i1, i2, i3, i4⟩ := hi i List.mem_cons_self
    have e0 : (s ++ (i :: is).flatMap fun i => R.getD i []) = (s ++ R.getD i []) ++ is.flatMap fun i => R.getD i [] := by rw [List.flatMap_cons, List.append_assoc]
    rw [e0] at hn
    have hn1 := (List.nodup_append.mp hn).1
    obtain ⟨u6, k1⟩ := one_for (ls := .list (R.map lD)) f (.val (nD i)) (.val (lD (R.getD i []))) z7 (R.getD i []) s z6 i4 hn1 (by simp only [List.length_cons] at hl; omega)
    obtain ⟨u7, k2⟩ := ring2_ind (M := M) (ls := .list (R.map lD)) (l := R.getD i []) (s ++ R.getD i []) (.val (nD i)) u6 i4 (List.range (R.getD i []).length) f z7 (fun k hk => List.mem_range.mp hk) hf
    obtain ⟨v4, v5, v6, v7, s', k3⟩ := tof_for (M := M) (R := R) is (ringSet f (R.getD i [])) (s ++ R.getD i []) (.val (nD i)) (.val (lD (R.getD i []))) u6 u7 (fun j hj => hi j (List.mem_cons_of_mem _ hj)) hn (by rw [ringSet_len]; exact hf) (by rw [List.length_append]; simp only [List.length_cons] at hl; omega)
    refine ⟨v4, v5, v6, v7, s', ?_⟩
    rw [List.map_cons, for_cons, List.map_cons, List.foldl_cons, ← k3]
    have a := atI_lD i1
    have q := eqv_nil i2
    have r2 := rng1_nat (show (R.getD i []).length ≤ 16777216 by omega)
    unfold ringSet
    have k1 : sForL (tgV 6) oneBody (List.map (Yd.d ∘ nD) (R.getD i [])) (uSl M (.list (R.map lD)) f s (.val (nD i)) (.val (lD (R.getD i []))) z6 z7) = .nx (uSl M (.list (R.map lD)) f (s ++ R.getD i []) (.val (nD i)) (.val (lD (R.getD i []))) u6 z7) := k1
    have k2 : sForL (tgV 7) (sPut 2 (eP (p2 gIxA (pV 5) (p2 gSub (pV 7) (pC (.int 1))))) (eP (p2 gIxA (pV 5) (pV 7)))) (List.map (Yd.d ∘ nD) (List.range (R.getD i []).length)) (uSl M (.list (R.map lD)) f (s ++ R.getD i []) (.val (nD i)) (.val (lD (R.getD i []))) u6 z7) = .nx (uSl M (.list (R.map lD)) ((List.range (R.getD i []).length).foldl (stepR (R.getD i [])) f) (s ++ R.getD i []) (.val (nD i)) (.val (lD (R.getD i []))) u6 u7) := k2
    simp only [uSl, List.map_append, oneBody] at k1 k2 ⊢
    simp [tBody, a, q, k1, k2, r2, -List.getD_eq_getElem?_getD]
end HM

set_option Elab.async false
set_option linter.all false
set_option maxRecDepth 100000
set_option maxHeartbeats 4000000
set_option autoImplicit false
/-! T13: the turn of its rings. -/
namespace HM
open PySem PySem.Spec PyProof.Rows L2 SX
theorem range_getD {α : Type} (R : List α) (d : α) : ((List.range R.length).map fun i => R.getD i d) = R := by
  refine List.ext_getElem (by simp) fun i h1 h2 => ?_
  rw [List.getElem_map, List.getElem_range, List.getD_eq_getElem?_getD, List.getElem?_eq_getElem h2]; rfl
theorem turn_of_ok {M : Nat} {R : List (List Nat)} (h1 : 1 ≤ M) (h7 : M ≤ 7) (hR : ∀ r ∈ R, r ≠ [] ∧ r.length ≤ 1000 ∧ ∀ k ∈ r, k < M) (hl : R.length ≤ 1000) (hn : R.flatten.Nodup) : g_turn_of [nD M, .list (R.map lD)] = .ok (.d (.tuple ((R.foldl ringSet (List.range M)).map nD))) := by
  have fl : ((List.range R.length).flatMap fun i => R.getD i []) = R.flatten := by
    rw [List.flatMap_def, range_getD]
  obtain ⟨u4, u5, u6, u7, s', k⟩ := tof_for (M := M) (R := R) (List.range R.length) (List.range M) [] .non .non .non .non (fun i hi => by
    have hi := List.mem_range.mp hi
    have hm : R.getD i [] ∈ R := by
      rw [List.getD_eq_getElem?_getD, List.getElem?_eq_getElem hi]
      exact List.getElem_mem hi
    obtain ⟨a, b, c⟩ := hR _ hm
    exact ⟨hi, a, b, c⟩) (by rw [List.nil_append, fl]; exact hn) (List.length_range) (by simp; omega)
  rw [range_getD] at k
  have k : sForL (tgV 4) tBody (List.map (Yd.d ∘ nD) (List.range R.length)) (uSl M (.list (R.map lD)) (List.range M) [] .non .non .non .non) = .nx (uSl M (.list (R.map lD)) (R.foldl ringSet (List.range M)) s' u4 u5 u6 u7) := k
  have r1 := rgL_nat (show M ≤ 16777216 by omega)
  have r2 := rng1_nat (show R.length ≤ 16777216 by omega)
  have i1 : (1 : Int) ≤ (M : Int) := by omega
  have i7 : (M : Int) ≤ 7 := by omega
  unfold tBody oneBody at k
  simp only [uSl, List.map_nil] at k
  simp [g_turn_of, d_turn_of, fnF, i1, i7, r1, r2, k]
/-! ### what the rings set -/
theorem ringSet_asgn (f l : List Nat) : ringSet f l = asgn ((List.range l.length).map fun k => (l.getD (before k l.length) 0, l.getD k 0)) f := by
  unfold ringSet asgn
  rw [List.foldl_map]; rfl
def ringAs (l : List Nat) : List (Nat × Nat) := (List.range l.length).map fun k => (l.getD (before k l.length) 0, l.getD k 0)
theorem asgn_app (A B : List (Nat × Nat)) (f : List Nat) : asgn (A ++ B) f = asgn B (asgn A f) := List.foldl_append
theorem rings_asgn : ∀ (R : List (List Nat)) (f : List Nat), R.foldl ringSet f = asgn (R.flatMap ringAs) f
  | [], f => rfl
  | r :: R, f => by
    rw [List.foldl_cons, ringSet_asgn, rings_asgn R, List.flatMap_cons, asgn_app]; rfl
theorem before_perm (n : Nat) : ((List.range n).map fun k => before k n).Perm (List.range n) := by
  cases n with
  | zero => exact List.Perm.refl _
  | succ n =>
    have e : ((List.range (n + 1)).map fun k => before k (n + 1)) = n :: List.range n := by
      rw [List.range_succ_eq_map, List.map_cons, List.map_map]
      have h0 : before 0 (n + 1) = n := rfl
      rw [h0]
      congr 1
      have : ((fun k => before k (n + 1)) ∘ Nat.succ) = id := by
        funext k
        show before (k + 1) (n + 1) = k
        unfold before
        rw [if_neg (by omega)]; omega
      rw [this, List.map_id]
    rw [e, List.range_succ]
    exact (List.perm_append_singleton n (List.range n)).symm
theorem ringAs_pos (l : List Nat) : ((ringAs l).map (·.1)).Perm l := by
  unfold ringAs
  rw [List.map_map]
  have e : ((fun x : Nat × Nat => x.1) ∘ fun k => (l.getD (before k l.length) 0, l.getD k 0)) = (fun k => l.getD k 0) ∘ fun k => before k l.length := rfl
  rw [e, ← List.map_map]
  have z := (before_perm l.length).map fun k => l.getD k 0
  rw [range_getD] at z
  exact z
theorem flat_pos : ∀ R : List (List Nat), ((R.flatMap ringAs).map (·.1)).Perm R.flatten
  | [] => List.Perm.refl _
  | r :: R => by
    rw [List.flatMap_cons, List.map_append, List.flatten_cons]
    exact (ringAs_pos r).append (flat_pos R)
/-- each of a ring is led to the next -/
theorem ringAs_at {m : Nat} {t : List Nat} {x c : Nat} (a : Cyc t x c) : ∀ p ∈ ringAs (orb t c x), p.2 = at_ t p.1 := fun p hp => by
  unfold ringAs at hp
  obtain ⟨k, hk, rfl⟩ := List.mem_map.mp hp
  have hk := List.mem_range.mp hk
  rw [orb_len] at hk ⊢
  have g : ∀ i, i < c → (orb t c x).getD i 0 = it t i x := fun i hi => by
    unfold orb
    rw [List.getD_eq_getElem?_getD, List.getElem?_map, List.getElem?_range hi]; rfl
  show (orb t c x).getD k 0 = at_ t ((orb t c x).getD (before k c) 0)
  have hb : before k c < c := by unfold before; split <;> omega
  rw [g k hk, g _ hb]
  unfold before
  by_cases h0 : k = 0
  · rw [if_pos h0, h0]
    have hc : c = (c - 1) + 1 := by have := a.pos; omega
    have b := a.back
    rw [hc] at b
    exact b.symm
  · rw [if_neg h0]
    have : k = (k - 1) + 1 := by omega
    rw [this]; rfl
/-! ### the rings part all things -/
theorem rings_cover {m : Nat} {t : List Nat} (h : t.Perm (List.range m)) : ∀ (xs s : List Nat), (∀ x ∈ xs, x < m) → ∀ x ∈ xs, x ∈ s ∨ x ∈ (ringsFrom t xs s).flatten
  | y :: xs, s, hx, x, hm => by
    have y1 := hx y List.mem_cons_self
    have hx2 : ∀ z ∈ xs, z < m := fun z hz => hx z (List.mem_cons_of_mem _ hz)
    by_cases hin : y ∈ s
    · rw [show ringsFrom t (y :: xs) s = ringsFrom t xs s from if_pos hin]
      rcases List.mem_cons.mp hm with rfl | hm
      · exact .inl hin
      · exact rings_cover h xs s hx2 x hm
    · rw [show ringsFrom t (y :: xs) s = ringOf t y :: ringsFrom t xs (s ++ ringOf t y) from if_neg hin, List.flatten_cons]
      obtain ⟨c, a, hc⟩ := cyc_ex h y1
      rcases List.mem_cons.mp hm with rfl | hm
      · exact .inr (List.mem_append_left _ (by rw [ringOf_eq a]; exact mem_orb (i := 0) a.pos))
      · rcases rings_cover h xs (s ++ ringOf t y) hx2 x hm with z | z
        · rcases List.mem_append.mp z with z | z
          · exact .inl z
          · exact .inr (List.mem_append_left _ z)
        · exact .inr (List.mem_append_right _ z)
theorem rings_nodup {m : Nat} {t : List Nat} (h : t.Perm (List.range m)) : ∀ (xs s : List Nat), (∀ x ∈ xs, x < m) → Shut t m s → s.Nodup → (s ++ (ringsFrom t xs s).flatten).Nodup
  | [], s, _, _, hn => by
    show (s ++ []).Nodup
    rw [List.append_nil]; exact hn
  | y :: xs, s, hx, sh, hn => by
    have y1 := hx y List.mem_cons_self
    have hx2 : ∀ z ∈ xs, z < m := fun z hz => hx z (List.mem_cons_of_mem _ hz)
    by_cases hin : y ∈ s
    · rw [show ringsFrom t (y :: xs) s = ringsFrom t xs s from if_pos hin]
      exact rings_nodup h xs s hx2 sh hn
    · obtain ⟨c, a, hc⟩ := cyc_ex h y1
      rw [show ringsFrom t (y :: xs) s = ringOf t y :: ringsFrom t xs (s ++ ringOf t y) from if_neg hin, List.flatten_cons, ← List.append_assoc]
      refine rings_nodup h xs _ hx2 (by rw [ringOf_eq a]; exact shut_app h y1 a sh) ?_
      rw [ringOf_eq a]
      refine List.nodup_append.mpr ⟨hn, orb_nodup h y1 a.least, fun u hu v hv e => ?_⟩
      subst e
      obtain ⟨i, _, rfl⟩ := List.mem_map.mp hv
      exact shut_it h y1 sh hin i hu
theorem all_nodup {m : Nat} {t : List Nat} (h : t.Perm (List.range m)) : (allRings t).flatten.Nodup := by
  have z := rings_nodup h (List.range t.length) [] (fun x hx => by rw [← perm_len h]; exact List.mem_range.mp hx) (fun _ _ e => absurd e (List.not_mem_nil)) List.nodup_nil
  exact z
theorem filter_flat {α : Type} (p : List α → Bool) : ∀ L : List (List α), ((L.filter p).flatten).Sublist L.flatten
  | [] => List.Sublist.refl _
  | r :: L => by
    by_cases h : p r = true
    · rw [List.filter_cons_of_pos h, List.flatten_cons, List.flatten_cons]
      exact (List.Sublist.refl r).append (filter_flat p L)
    · rw [List.filter_cons_of_neg h, List.flatten_cons]
      exact (filter_flat p L).trans (List.sublist_append_right _ _)
theorem big_nodup {m : Nat} {t : List Nat} (h : t.Perm (List.range m)) : (bigRings t).flatten.Nodup := (all_nodup h).sublist (filter_flat _ _)
/-- the turn of more things that lets the others stay -/
def wide (t : List Nat) (M : Nat) : List Nat := t ++ (List.range (M - t.length)).map fun i => t.length + i
section
variable {m M : Nat} {t : List Nat} (h : t.Perm (List.range m)) (hM : m ≤ M)
include h hM
theorem wide_len : (wide t M).length = M := by
  unfold wide
  rw [List.length_append, List.length_map, List.length_range, perm_len h]; omega
theorem wide_lo {x : Nat} (hx : x < m) : at_ (wide t M) x = at_ t x := by
  unfold wide at_
  rw [List.getD_eq_getElem?_getD, List.getD_eq_getElem?_getD, List.getElem?_append_left (by rw [perm_len h]; exact hx)]
theorem wide_hi {x : Nat} (h1 : m ≤ x) (h2 : x < M) : at_ (wide t M) x = x := by
  unfold wide at_
  have hl := perm_len h
  rw [List.getD_eq_getElem?_getD, List.getElem?_append_right (by rw [hl]; exact h1), List.getElem?_map, List.getElem?_range (by omega)]
  show t.length + (x - t.length) = x
  omega
theorem wide_perm : (wide t M).Perm (List.range M) := by
  have hl := perm_len h
  have e : List.range M = List.range m ++ (List.range (M - m)).map fun i => m + i := by
    have : M = m + (M - m) := by omega
    conv => lhs; rw [this, List.range_add]
  unfold wide
  rw [e, hl]
  exact h.append (List.Perm.refl _)
theorem wide_it {x : Nat} (hx : x < m) : ∀ n, it (wide t M) n x = it t n x
  | 0 => rfl
  | n + 1 => by
    show at_ (wide t M) (it (wide t M) n x) = at_ t (it t n x)
    rw [wide_it hx n]
    exact wide_lo h hM (it_lt h hx n)
theorem wide_orb {x : Nat} (hx : x < m) (n : Nat) : orb (wide t M) n x = orb t n x := by
  unfold orb
  exact List.map_congr_left fun i _ => wide_it h hM hx i
theorem wide_ringOf {x : Nat} (hx : x < m) : ringOf (wide t M) x = ringOf t x := by
  obtain ⟨c, a, _⟩ := cyc_ex h hx
  have a' : Cyc (wide t M) x c := ⟨a.pos, by rw [wide_it h hM hx]; exact a.back, fun i h1 h2 => by rw [wide_it h hM hx]; exact a.least i h1 h2⟩
  rw [ringOf_eq a, ringOf_eq a', wide_orb h hM hx]
theorem wide_ringHi {x : Nat} (h1 : m ≤ x) (h2 : x < M) : ringOf (wide t M) x = [x] := by
  have a : Cyc (wide t M) x 1 := ⟨Nat.le_refl 1, wide_hi h hM h1 h2, fun i g1 g2 => absurd g2 (by omega)⟩
  rw [ringOf_eq a]; rfl
theorem wide_rings : ∀ (xs s : List Nat), (∀ x ∈ xs, x < M) → (ringsFrom (wide t M) xs s).filter (fun r => decide (1 < r.length)) = (ringsFrom t (xs.filter fun x => decide (x < m)) (s.filter fun x => decide (x < m))).filter fun r => decide (1 < r.length)
  | [], s, _ => rfl
  | x :: xs, s, hx => by
    have x1 := hx x List.mem_cons_self
    have hx2 : ∀ y ∈ xs, y < M := fun y hy => hx y (List.mem_cons_of_mem _ hy)
    by_cases lo : x < m
    · rw [List.filter_cons_of_pos (by simpa using lo)]
      have ms : x ∈ s.filter (fun x => decide (x < m)) ↔ x ∈ s := by rw [List.mem_filter]; simp [lo]
      by_cases hin : x ∈ s
      · rw [show ringsFrom (wide t M) (x :: xs) s = ringsFrom (wide t M) xs s from if_pos hin, wide_rings xs s hx2]
        rw [show ringsFrom t (x :: xs.filter fun x => decide (x < m)) (s.filter fun x => decide (x < m)) = ringsFrom t (xs.filter fun x => decide (x < m)) (s.filter fun x => decide (x < m)) from if_pos (ms.mpr hin)]
      · rw [show ringsFrom (wide t M) (x :: xs) s = ringOf (wide t M) x :: ringsFrom (wide t M) xs (s ++ ringOf (wide t M) x) from if_neg hin]
        rw [show ringsFrom t (x :: xs.filter fun x => decide (x < m)) (s.filter fun x => decide (x < m)) = ringOf t x :: ringsFrom t (xs.filter fun x => decide (x < m)) (s.filter (fun x => decide (x < m)) ++ ringOf t x) from if_neg fun z => hin (ms.mp z)]
        rw [wide_ringOf h hM lo]
        have e : (s ++ ringOf t x).filter (fun x => decide (x < m)) = s.filter (fun x => decide (x < m)) ++ ringOf t x := by
          rw [List.filter_append]
          congr 1
          refine List.filter_eq_self.mpr fun y hy => ?_
          obtain ⟨c, a, _⟩ := cyc_ex h lo
          rw [ringOf_eq a] at hy
          obtain ⟨i, _, rfl⟩ := List.mem_map.mp hy
          exact decide_eq_true (it_lt h lo i)
        have ih := wide_rings xs (s ++ ringOf t x) hx2
        rw [e] at ih
        by_cases big : 1 < (ringOf t x).length
        · rw [List.filter_cons_of_pos (by simpa using big), List.filter_cons_of_pos (by simpa using big), ih]
        · rw [List.filter_cons_of_neg (by simpa using big), List.filter_cons_of_neg (by simpa using big), ih]
    · rw [List.filter_cons_of_neg (by simpa using lo)]
      by_cases hin : x ∈ s
      · rw [show ringsFrom (wide t M) (x :: xs) s = ringsFrom (wide t M) xs s from if_pos hin, wide_rings xs s hx2]
      · rw [show ringsFrom (wide t M) (x :: xs) s = ringOf (wide t M) x :: ringsFrom (wide t M) xs (s ++ ringOf (wide t M) x) from if_neg hin]
        rw [wide_ringHi h hM (by omega) x1, List.filter_cons_of_neg (by simp)]
        have ih := wide_rings xs (s ++ [x]) hx2
        rw [List.filter_append, show [x].filter (fun x => decide (x < m)) = [] from List.filter_cons_of_neg (by simpa using lo), List.append_nil] at ih
        exact ih
theorem wide_big : bigRings (wide t M) = bigRings t := by
  unfold bigRings allRings
  rw [wide_len h hM, wide_rings h hM (List.range M) [] fun x hx => List.mem_range.mp hx]
  have e : (List.range M).filter (fun x => decide (x < m)) = List.range t.length := by
    rw [perm_len h]
    have : M = m + (M - m) := by omega
    rw [this, List.range_add, List.filter_append]
    have e1 : (List.range m).filter (fun x => decide (x < m)) = List.range m := List.filter_eq_self.mpr fun x hx => decide_eq_true (List.mem_range.mp hx)
    have e2 : ((List.range (M - m)).map fun i => m + i).filter (fun x => decide (x < m)) = [] := List.filter_eq_nil_iff.mpr fun x hx => by
      obtain ⟨i, _, rfl⟩ := List.mem_map.mp hx
      simp
    rw [e1, e2, List.append_nil]
  rw [e]; rfl
/-- the rings' turn is the turn -/
theorem rings_turn : (bigRings t).foldl ringSet (List.range M) = wide t M := by
  rw [rings_asgn]
  have hl := perm_len h
  have pn : (((bigRings t).flatMap ringAs).map (·.1)).Nodup := (flat_pos (bigRings t)).nodup_iff.mpr (big_nodup h)
  have ring_of : ∀ r ∈ bigRings t, ∃ x c, x < m ∧ Cyc t x c ∧ r = orb t c x := fun r hr => by
    obtain ⟨x, c, g1, g2, _, g3⟩ := rings_mem h (fun x hx => by rw [← hl]; exact List.mem_range.mp hx) r (List.mem_filter.mp hr).1
    exact ⟨x, c, g1, g2, g3⟩
  refine List.ext_getElem? fun x => ?_
  by_cases hx : x < M
  · have ew : (wide t M)[x]? = some (at_ (wide t M) x) := by
      unfold at_
      rw [List.getD_eq_getElem?_getD, List.getElem?_eq_getElem (by rw [wide_len h hM]; exact hx)]; rfl
    rw [ew]
    by_cases hp : x ∈ ((bigRings t).flatMap ringAs).map (·.1)
    · obtain ⟨a, ha, rfl⟩ := List.mem_map.mp hp
      have z := asgn_in _ (List.range M) a pn ha (by rw [List.length_range]; exact hx)
      rw [z]
      obtain ⟨r, hr, ha2⟩ := List.mem_flatMap.mp ha
      obtain ⟨y, c, g1, g2, rfl⟩ := ring_of r hr
      have q := ringAs_at (m := m) g2 a ha2
      have lo : a.1 < m := by
        have : a.1 ∈ orb t c y := (ringAs_pos (orb t c y)).mem_iff.mp (List.mem_map.mpr ⟨a, ha2, rfl⟩)
        obtain ⟨i, _, e⟩ := List.mem_map.mp this
        rw [← e]; exact it_lt h g1 i
      rw [q, wide_lo h hM lo]
    · rw [asgn_out _ _ hp, List.getElem?_range hx]
      by_cases lo : x < m
      · have cov := rings_cover h (List.range t.length) [] (fun y hy => by rw [← hl]; exact List.mem_range.mp hy) x (List.mem_range.mpr (by rw [hl]; exact lo))
        rcases cov with z | z
        · exact absurd z (List.not_mem_nil)
        · obtain ⟨r, hr, hxr⟩ := List.mem_flatten.mp z
          obtain ⟨y, c, g1, g2, _, rfl⟩ := rings_mem h (fun y hy => by rw [← hl]; exact List.mem_range.mp hy) r hr
          have small : ¬ 1 < c := fun big => hp ((flat_pos (bigRings t)).mem_iff.mpr (List.mem_flatten.mpr ⟨_, List.mem_filter.mpr ⟨hr, by simpa [orb_len] using big⟩, hxr⟩))
          have hc : c = 1 := by have := g2.pos; omega
          subst hc
          have e : x = y := by simpa [orb, it] using hxr
          subst e
          have b : at_ t x = x := g2.back
          rw [wide_lo h hM lo, b]
      · rw [wide_hi h hM (by omega) hx]
  · rw [List.getElem?_eq_none (by rw [asgn_len, List.length_range]; omega), List.getElem?_eq_none (by rw [wide_len h hM]; omega)]
end
end HM

set_option Elab.async false
set_option linter.all false
set_option maxRecDepth 100000
set_option maxHeartbeats 4000000
set_option autoImplicit false
/-! T14: read_turn; tuples shown. -/
namespace HM
open PySem PySem.Spec PyProof.Rows L2 SX
@[simp] theorem kit_ss : kitB "str" "str" = some true := rfl
theorem r_isiS {n : String} {z : Str} : gIsi n (.d (.str z)) = (kitB "str" n).bind fun b => some (.d (.bool b)) := id rfl
theorem big_ok {m : Nat} {t : List Nat} (h : t.Perm (List.range m)) (hm : m ≤ 10) : ∀ r ∈ bigRings t, r ≠ [] ∧ r.length ≤ 1000 ∧ ∀ k ∈ r, k < m := fun r hr => by
  obtain ⟨a, b, c⟩ := all_ring h (List.mem_filter.mp hr).1
  exact ⟨fun e => by rw [e] at c; exact absurd c (by decide), by omega, b⟩
theorem read_ok {m M : Nat} {t : List Nat} (h : t.Perm (List.range m)) (hM : m ≤ M) (h1 : 1 ≤ M) (h7 : M ≤ 7) : g_read_turn [nD M, .str (S (turnText (bigRings t)))] = .ok (.d (.tuple ((wide t M).map nD))) := by
  have bo := big_ok h (by omega)
  have bl := big_len h
  have tb := text_bound h
  have tb2 : m * (2 * m + 3) ≤ 7 * 17 := Nat.mul_le_mul (by omega) (by omega)
  have jl := joinL_len [32] ((bigRings t).map ringText)
  have ri := rings_in_ok (R := bigRings t) (fun r hr => ⟨(bo r hr).1, (bo r hr).2.1, fun k hk => Nat.lt_of_lt_of_le ((bo r hr).2.2 k hk) (by omega)⟩) (by omega) (by omega)
  have to := turn_of_ok (M := M) (R := bigRings t) h1 h7 (fun r hr => ⟨(bo r hr).1, (bo r hr).2.1, fun k hk => Nat.lt_of_lt_of_le ((bo r hr).2.2 k hk) hM⟩) (by omega) (big_nodup h)
  rw [rings_turn h hM] at to
  have st := show_turn_ok (wide_perm h hM) (by omega)
  rw [wide_big h hM] at st
  have sg : ∀ c ∈ turnText (bigRings t), c < 128 := by
    unfold turnText
    split
    · decide
    · exact text_sign fun r hr k hk => Nat.lt_of_lt_of_le ((bo r hr).2.2 k hk) (by omega)
  have ne := neS sg sg
  rw [decide_eq_true rfl] at ne
  simp [g_read_turn, d_read_turn, fnF, r_isiS, ri, to, st, ne]
/-! ### repr -/
theorem r_repr {d : D} (h : isShow d = true) : gRepr (.d d) = some (.d (.str d.shown)) := by
  show (if isShow d = true then some (Pv.d (.str d.shown)) else none) = _
  rw [if_pos h]
def tupT (w : List Nat) : List Nat := 40 :: (TL.joinL [44, 32] (w.map dg) ++ if w.length = 1 then [44, 41] else [41])
theorem shownAll_dg : ∀ {w : List Nat}, (∀ k ∈ w, k < 10) → PyData.shownAll (w.map nD) = w.map fun k => S (dg k)
  | [], _ => by simp only [List.map_nil, PyData.shownAll]
  | k :: w, h => by
    simp only [List.map_cons, PyData.shownAll, PyData.shown]
    rw [shownAll_dg fun x hx => h x (List.mem_cons_of_mem _ hx)]
    have e : Str.ofString (toString ((k : Nat) : Int)) = S (dg k) := by rw [num_S, TL.numL_lt (h k List.mem_cons_self)]
    exact congrArg (fun z => z :: w.map fun k => S (dg k)) e
theorem shown_tup {w : List Nat} (h : ∀ k ∈ w, k < 10) : PyData.shown (.tuple (w.map nD)) = S (tupT w) := by
  simp only [PyData.shown]
  rw [shownAll_dg h]
  have e1 : Str.ofString "(" = S [40] := s_open
  have e2 : Str.ofString ", " = S [44, 32] := by decide +kernel
  have e3 : Str.ofString ",)" = S [44, 41] := by decide +kernel
  have e4 : Str.ofString ")" = S [41] := s_shut
  have j : Str.join (S [44, 32]) (w.map fun k => S (dg k)) = S (TL.joinL [44, 32] (w.map dg)) := by
    have z := join_S [44, 32] (w.map dg)
    rw [TL.join_eq, List.map_map] at z
    exact z
  show (Str.ofString "(" ++ Str.join (Str.ofString ", ") (w.map fun k => S (dg k)) ++ Str.ofString (if (w.map fun k => S (dg k)).length == 1 then ",)" else ")")) = _
  rw [e1, e2, j, List.length_map]
  unfold tupT
  by_cases hw : w.length = 1
  · have e5 : Str.ofString (if (w.length == 1) = true then ",)" else ")") = S [44, 41] := by rw [hw]; exact e3
    rw [if_pos hw, e5, S_cat, S_cat]; rfl
  · have e5 : Str.ofString (if (w.length == 1) = true then ",)" else ")") = S [41] := by
      have : (w.length == 1) = false := by simpa using hw
      rw [this]; exact e4
    rw [if_neg hw, e5, S_cat, S_cat]; rfl
theorem tupT_sign {w : List Nat} (h : ∀ k ∈ w, k < 10) : ∀ c ∈ tupT w, c < 128 := by
  have gen : ∀ {w : List Nat}, (∀ k ∈ w, k < 10) → ∀ c ∈ TL.joinL [44, 32] (w.map dg), c < 128 := by
    intro w
    induction w with
    | nil => intro _ c hc; exact absurd hc (List.not_mem_nil)
    | cons x w ih =>
      intro h c hc
      have hx := h x List.mem_cons_self
      cases w with
      | nil => exact dg_lt hx c hc
      | cons y w =>
        have hc : c ∈ dg x ++ ([44, 32] ++ TL.joinL [44, 32] ((y :: w).map dg)) := hc
        rcases List.mem_append.mp hc with hc | hc
        · exact dg_lt hx c hc
        · rcases List.mem_append.mp hc with hc | hc
          · have : c = 44 ∨ c = 32 := by simpa using hc
            omega
          · exact ih (fun k hk => h k (List.mem_cons_of_mem _ hk)) c hc
  intro c hc
  unfold tupT at hc
  rcases List.mem_cons.mp hc with rfl | hc
  · decide
  · rcases List.mem_append.mp hc with hc | hc
    · exact gen h c hc
    · split at hc
      · have : c = 44 ∨ c = 41 := by simpa using hc
        omega
      · have : c = 41 := by simpa using hc
        omega
theorem tupT_len {w : List Nat} : (tupT w).length ≤ 3 * w.length + 3 := by
  have j := joinL_len [44, 32] (w.map dg)
  rw [sum_dg, List.length_map] at j
  have e : w.length * [44, 32].length = 2 * w.length := by simp; omega
  unfold tupT
  rw [List.length_cons, List.length_append]
  split <;> simp <;> omega
theorem show_tup {w : List Nat} (h : ∀ k ∈ w, k < 10) (hl : w.length ≤ 1000) : isShow (.tuple (w.map nD)) = true := by
  have l := layTup (n := 0) (lay_nD (n := 0) w)
  have sh : PyData.showable (.tuple (w.map nD)) = true := by
    simp only [PyData.showable]
    have : ∀ w : List Nat, (∀ k ∈ w, k < 10) → PyData.showableAll (w.map nD) = true := by
      intro w
      induction w with
      | nil => intro _; simp only [List.map_nil, PyData.showableAll]
      | cons k w ih =>
        intro h
        have hk := h k List.mem_cons_self
        have z : ((k : Nat) : Int).natAbs.log2 ≤ 4 := log_le 4 (by omega) (by omega)
        simp only [List.map_cons, PyData.showableAll, PyData.showable]
        rw [ih fun x hx => h x (List.mem_cons_of_mem _ hx), decide_eq_true (by omega)]; rfl
    exact this w h
  have nd := PyData.hasDict_of_canLay _ l.1
  have q := tupT_len (w := w)
  unfold isShow
  have dp : PyData.depth (.tuple (w.map nD)) ≤ 60 := Nat.le_trans l.2 (by decide)
  have ln : (tupT w).length ≤ 16777216 := by omega
  rw [sh, nd, shown_tup h, S_len, decide_eq_true dp, decide_eq_true ln]
  rfl
theorem repr_tup {w : List Nat} (h : ∀ k ∈ w, k < 10) (hl : w.length ≤ 1000) : gRepr (.d (.tuple (w.map nD))) = some (.d (.str (S (tupT w)))) := by
  rw [r_repr (show_tup h hl), shown_tup h]
end HM

set_option Elab.async false
set_option linter.all false
set_option maxRecDepth 100000
set_option maxHeartbeats 4000000
set_option autoImplicit false
/-! T_k71: the law of turns as texts, plainly. -/
namespace HM
open PySem PySem.Spec PyProof.Rows L2 SX
theorem rgL_two {m : Nat} (hm : m ≤ 7) : rgL (m : Int) 7 = some (((List.range (7 - m)).map fun i => m + i).map nD) := by
  have ok : RgOk (m : Int) 7 := RgOk.of_le (by omega) (by omega) (by omega) (by omega)
  unfold rgL
  rw [if_pos ok]
  have e : ((7 : Int) - (m : Int)).toNat = 7 - m := by omega
  rw [e]
  unfold rgD
  rw [List.map_map]
  congr 1
theorem wide_self {m : Nat} {t : List Nat} (h : t.Perm (List.range m)) : wide t m = t := by
  unfold wide
  rw [perm_len h, Nat.sub_self]
  simp
abbrev kSl (sc : D) (p : List D) (z2 z3 z4 z5 z6 z7 : Slot) : Sl := [.val sc, .own (.lst p), z2, z3, z4, z5, z6, z7]
noncomputable abbrev kInner : Sl → RS := (sSeq (sIf (etOr (etB (e2 (gEq true) (eCall g_show_turn (eaCons (eV 4) eaNil)) (eV 5))) (etB (e2 (gEq true) (eN (g1 gRepr) (eaCons (eCall g_read_turn (eaCons (eV 3) (eaCons (eV 5) eaNil))) eaNil)) (eP (pN (g1 gRepr) (aCons (pV 4) aNil)))))) (sRet (eP (pC (.bool false)))) sNx) (sIf (etOr (etB (e2 (gEq true) (eN (g1 gRepr) (eaCons (eCall g_read_turn (eaCons (eP (pC (.int 7))) (eaCons (eV 5) eaNil))) eaNil)) (eP (pN (g1 gRepr) (aCons (pV 6) aNil))))) (etB (e2 (gEq true) (eCall g_show_turn (eaCons (eV 6) eaNil)) (eV 5)))) (sRet (eP (pC (.bool false)))) sNx))
theorem inner_ok {m : Nat} {t : List Nat} (h : t.Perm (List.range m)) (h1 : 1 ≤ m) (h7 : m ≤ 7) (sc : D) (p : List D) (z2 z7 : Slot) :
    kInner (kSl sc p z2 (.val (nD m)) (.val (.tuple (t.map nD))) (.val (.str (S (turnText (bigRings t))))) (.val (.tuple ((wide t 7).map nD))) z7) = .nx (kSl sc p z2 (.val (nD m)) (.val (.tuple (t.map nD))) (.val (.str (S (turnText (bigRings t))))) (.val (.tuple ((wide t 7).map nD))) z7) := by
  have st := show_turn_ok h (by omega)
  have sw := show_turn_ok (wide_perm h h7) (by omega)
  rw [wide_big h h7] at sw
  have r1 := read_ok h (Nat.le_refl m) h1 h7
  rw [wide_self h] at r1
  have r7 : g_read_turn [.int 7, .str (S (turnText (bigRings t)))] = .ok (.d (.tuple ((wide t 7).map nD))) := read_ok h h7 (by decide) (by decide)
  have bo := big_ok h (by omega)
  have sg : ∀ c ∈ turnText (bigRings t), c < 128 := by
    unfold turnText
    split
    · decide
    · exact text_sign fun r hr k hk => Nat.lt_of_lt_of_le ((bo r hr).2.2 k hk) (by omega)
  have ne := neS sg sg
  rw [decide_eq_true rfl] at ne
  have t10 : ∀ k ∈ t, k < 10 := fun k hk => Nat.lt_of_lt_of_le (perm_lt h hk) (by omega)
  have w10 : ∀ k ∈ wide t 7, k < 10 := fun k hk => Nat.lt_of_lt_of_le (perm_lt (wide_perm h h7) hk) (by omega)
  have p1 := repr_tup t10 (by rw [perm_len h]; omega)
  have p7 := repr_tup w10 (by rw [wide_len h h7]; decide)
  have n1 := neS (tupT_sign t10) (tupT_sign t10)
  rw [decide_eq_true rfl] at n1
  have n7 := neS (tupT_sign w10) (tupT_sign w10)
  rw [decide_eq_true rfl] at n7
  simp [kInner, kSl, st, sw, r1, r7, ne, p1, p7, n1, n7]
noncomputable abbrev kBody : Sl → RS := (sSeq (sSet 3 (e2 gAdd (eP (pC (.int 1))) (eCallM 1 g_law_draw (eaCons (eP (pC (.int 7))) eaNil)))) (sSeq (sSet 4 (eCallM 1 g_law_turn (eaCons (eV 3) eaNil))) (sSeq (sSet 5 (eCall g_law_text (eaCons (eV 4) eaNil))) (sSeq (sSet 6 (eP (p2 gAdd (pV 4) (pTg2 (pV 3) (pC (.int 7)))))) (sFor (iRg rngD1 (eaCons (eP (pC (.int 2))) eaNil)) (tgV 7) kInner)))))
theorem body_ok {n : Nat} {p : List D} (hp : PenOk n p) (hn : n ≤ 100000) (sc : D) (z2 z3 z4 z5 z6 z7 : Slot) : ∃ p' u3 u4 u5 u6 u7, kBody (kSl sc p z2 z3 z4 z5 z6 z7) = .nx (kSl sc p' z2 u3 u4 u5 u6 u7) ∧ ∃ n', n' ≤ n + 9 ∧ PenOk n' p' := by
  obtain ⟨d, q1, a1, a2, a3, a4⟩ := draw_ok (m := 7) hp (by omega) (by decide) (by decide)
  obtain ⟨k, rfl⟩ := Int.eq_ofNat_of_zero_le a2
  obtain ⟨m, hm⟩ : ∃ m, m = k + 1 := ⟨_, rfl⟩
  have em : (1 : Int) + (k : Int) = (m : Int) := by omega
  have m1 : 1 ≤ m := by omega
  have m7 : m ≤ 7 := by omega
  obtain ⟨t, q2, b1, b2, b3⟩ := turn_ok a4 m7 (by omega)
  have tx := text_ok b2 (by omega)
  have rl := rgL_two m7
  have ln : (t.map nD).length + (((List.range (7 - m)).map fun i => m + i).map nD).length ≤ 16777216 := by
    rw [List.length_map, List.length_map, List.length_map, List.length_range, perm_len b2]; omega
  have ad : gAdd (.d (.tuple (t.map nD))) (.d (.tuple (((List.range (7 - m)).map fun i => m + i).map nD))) = some (.d (.tuple ((wide t 7).map nD))) := by
    rw [r_addT, if_pos ln]
    unfold wide
    rw [perm_len b2, List.map_append]
  have r2 : rngD1 [.int 2] = some ((List.range 2).map nD) := rng1_nat (m := 2) (by decide)
  have in0 := inner_ok b2 m1 m7 sc q2 z2 (.val (nD 0))
  have in1 := inner_ok b2 m1 m7 sc q2 z2 (.val (nD 1))
  refine ⟨q2, .val (nD m), .val (.tuple (t.map nD)), .val (.str (S (turnText (bigRings t)))), .val (.tuple ((wide t 7).map nD)), .val (nD 1), ?_, n + 1 + 1 + m, by omega, b3⟩
  have l2 : (List.range 2).map nD = [nD 0, nD 1] := rfl
  rw [l2] at r2
  have fr : sForL (tgV 7) kInner [.d (nD 0), .d (nD 1)] (kSl sc q2 z2 (.val (nD m)) (.val (.tuple (t.map nD))) (.val (.str (S (turnText (bigRings t))))) (.val (.tuple ((wide t 7).map nD))) z7) = .nx (kSl sc q2 z2 (.val (nD m)) (.val (.tuple (t.map nD))) (.val (.str (S (turnText (bigRings t))))) (.val (.tuple ((wide t 7).map nD))) (.val (nD 1))) := by
    rw [for_cons]
    have s0 : tgV 7 (.d (nD 0)) (kSl sc q2 z2 (.val (nD m)) (.val (.tuple (t.map nD))) (.val (.str (S (turnText (bigRings t))))) (.val (.tuple ((wide t 7).map nD))) z7) = some (kSl sc q2 z2 (.val (nD m)) (.val (.tuple (t.map nD))) (.val (.str (S (turnText (bigRings t))))) (.val (.tuple ((wide t 7).map nD))) (.val (nD 0))) := rfl
    have s1 : tgV 7 (.d (nD 1)) (kSl sc q2 z2 (.val (nD m)) (.val (.tuple (t.map nD))) (.val (.str (S (turnText (bigRings t))))) (.val (.tuple ((wide t 7).map nD))) (.val (nD 0))) = some (kSl sc q2 z2 (.val (nD m)) (.val (.tuple (t.map nD))) (.val (.str (S (turnText (bigRings t))))) (.val (.tuple ((wide t 7).map nD))) (.val (nD 1))) := rfl
    simp only [s0, in0]
    rw [for_cons]
    simp only [s1, in1, r_sForN]
  simp only [kSl, kInner] at fr ⊢
  simp only [List.map_map] at rl ad
  simp [kBody, a1, em, b1, tx, rl, ad, r2, fr]
theorem law_ind : ∀ (ys : List D) (n : Nat) (p : List D) (sc : D) (z2 z3 z4 z5 z6 z7 : Slot), PenOk n p → n + 9 * ys.length ≤ 100000 →
    ∃ p' u2 u3 u4 u5 u6 u7, sForL (tgV 2) kBody (ys.map .d) (kSl sc p z2 z3 z4 z5 z6 z7) = .nx (kSl sc p' u2 u3 u4 u5 u6 u7)
  | [], n, p, sc, z2, z3, z4, z5, z6, z7, _, _ => ⟨p, z2, z3, z4, z5, z6, z7, rfl⟩
  | y :: ys, n, p, sc, z2, z3, z4, z5, z6, z7, hp, hn => by
    rw [List.length_cons] at hn
    obtain ⟨p1, u3, u4, u5, u6, u7, e, n', hn', hp'⟩ := body_ok hp (by omega) sc (.val y) z3 z4 z5 z6 z7
    obtain ⟨p2, v2, v3, v4, v5, v6, v7, k⟩ := law_ind ys n' p1 sc (.val y) u3 u4 u5 u6 u7 hp' (by omega)
    refine ⟨p2, v2, v3, v4, v5, v6, v7, ?_⟩
    have s0 : tgV 2 (.d y) (kSl sc p z2 z3 z4 z5 z6 z7) = some (kSl sc p (.val y) z3 z4 z5 z6 z7) := rfl
    rw [List.map_cons, for_cons]
    simp only [s0, e]
    exact k
theorem pen_ok (sc : D) : g_law_pen [sc] = .ok (.o (.lst [sc, .int 0, .int 0])) := by
  simp [g_law_pen, d_law_pen, fnF]
theorem law_ok : lawOk g_law 63 := fun ns _ => by
  have p0 : PenOk 0 [.list (ns.map .int), .int 0, .int 0] := ⟨ns, 0, 0, rfl, by decide, by decide, by decide⟩
  have r12 : rngD1 [.int 12] = some ((List.range 12).map nD) := rng1_nat (m := 12) (by decide)
  obtain ⟨p', u2, u3, u4, u5, u6, u7, k⟩ := law_ind ((List.range 12).map nD) 0 _ (.list (ns.map .int)) .non .non .non .non .non .non p0 (by simp)
  have pn := pen_ok (.list (ns.map .int))
  simp only [kSl, kBody, kInner] at k
  generalize hl : (List.range 12).map nD = l at r12 k
  simp [g_law, d_law, fnF, pn, r12, k]
end HM

set_option Elab.async false
set_option linter.all false
set_option maxRecDepth 100000
set_option maxHeartbeats 0
set_option autoImplicit false
/-! the walk of k71: each def computes its plain function (printed) -/
namespace HM
open PySem PySem.Spec PyProof.Rows L2 C8
def tops (i : Nat) : Stmt := PySem.Challenge.pw_heldmarks_k71_turns_as_texts.main.body.getD i (.Pass ⟨0, 0, 0, 0⟩)
section
variable {P : Program} {w : World} {K : PySem.W.Frag} {mg : Str → Option Value} {base : Heap} {f : Addr} {xr : Xr}
abbrev st_law_pen : Stmt := tops 19
theorem sc_law_pen : FnScope ["_law_script"] ["_law_script"] (defScope st_law_pen) := fnScope_by (by decide +kernel)
theorem der_law_pen  : BodyOk P w K mg base ["_law_script"] "_law_pen" (defScope st_law_pen) f 0 xr (defBody st_law_pen) d_law_pen := fun cdv A outer s H E hG hr tk hp => by
  have h64 := hr.units
  have h65 : (A.deeper (envOfC "_law_pen" (defScope st_law_pen) s.heap.objs.size f cdv)).units + 65 < cLine := by have := hr.un; omega
  have h1 : (A.deeper (envOfC "_law_pen" (defScope st_law_pen) s.heap.objs.size f cdv)).units + 1 < cLine := by have := hr.un; omega
  have hN := sc_law_pen.nd
  exact (sb_one (ss_retO (eeo_lst (eea_cons (ee_v (pv 0)) (eea_cons (ee_p ep_int) (eea_cons (ee_p ep_int) eea_nil))))))
abbrev st_law_draw : Stmt := tops 20
theorem sc_law_draw : FnScope ["_law_pen_here", "_law_many", "_law_digit", "_law_at", "_law_cell", "_law_number"] ["_law_pen_here", "_law_many"] (defScope st_law_draw) := fnScope_by (by decide +kernel)
theorem der_law_draw (h_abs : mg "abs" = none) (h_len : mg "len" = none) : BodyOk P w K mg base ["_law_pen_here", "_law_many", "_law_digit", "_law_at", "_law_cell", "_law_number"] "_law_draw" (defScope st_law_draw) f 0 xr (defBody st_law_draw) d_law_draw := fun cdv A outer s H E hG hr tk hp => by
  have h64 := hr.units
  have h65 : (A.deeper (envOfC "_law_draw" (defScope st_law_draw) s.heap.objs.size f cdv)).units + 65 < cLine := by have := hr.un; omega
  have h1 : (A.deeper (envOfC "_law_draw" (defScope st_law_draw) s.heap.objs.size f cdv)).units + 1 < cLine := by have := hr.un; omega
  have hN := sc_law_draw.nd
  exact (sb_cons (ss_if (eet_p (et_cmp op_gt pg_gt (ep_ixA h1 (ep_var (pv 0)) ep_int (fun _ _ => rfl)) ep_int (by first | exact nomark _ | rfl))) (sb_cons (ss_set hN rfl (by first | exact Or.inl rfl | exact Or.inr rfl) (ee_p (ep_bin op_mod pg_mod (ep_ixA h1 (ep_var (pv 0)) ep_int (fun _ _ => rfl)) (ep_var (pv 1))))) (sb_cons (ss_put (pv 0) (ee_p ep_int) (ee_p (ep_bin op_fdivW pg_div (ep_ixA h1 (ep_var (pv 0)) ep_int (fun _ _ => rfl)) (ep_var (pv 1))))) (sb_one (ss_ret (ee_v (pv 2)))))) sb_nil) (sb_cons (ss_set hN rfl (by first | exact Or.inl rfl | exact Or.inr rfl) (ee_p (ep_ixA h1 (ep_var (pv 0)) ep_int (fun _ _ => rfl)))) (sb_cons (ss_put (pv 0) (ee_p ep_int) (ee_p (ep_bin op_addU pg_add (ep_var (pv 3)) ep_int))) (sb_cons (ss_set hN rfl (by first | exact Or.inl rfl | exact Or.inr rfl) (ee_p ep_int)) (sb_cons (ss_if (eet_p (et_cmp op_gt pg_gt (ep_bi (call_lenU) pg_len rfl h_len boot_len (ea_cons (ep_ixA h1 (ep_var (pv 0)) ep_int (fun _ _ => rfl)) ea_nil)) ep_int (by first | exact nomark _ | rfl))) (sb_one (ss_set hN rfl (by first | exact Or.inl rfl | exact Or.inr rfl) (ee_p (ep_ixA h1 (ep_ixA h1 (ep_var (pv 0)) ep_int (fun _ _ => rfl)) (ep_bin op_mod pg_mod (ep_var (pv 3)) (ep_bi (call_lenU) pg_len rfl h_len boot_len (ea_cons (ep_ixA h1 (ep_var (pv 0)) ep_int (fun _ _ => rfl)) ea_nil))) (fun _ _ => rfl))))) sb_nil) (sb_cons (ss_if (eet_p (EW.t (ew_and (et_cmp op_lt pg_lt (ep_var (pv 3)) (ep_bi (call_lenU) pg_len rfl h_len boot_len (ea_cons (ep_ixA h1 (ep_var (pv 0)) ep_int (fun _ _ => rfl)) ea_nil)) (by first | exact nomark _ | rfl)) (ew_and1 (et_cmp op_ge pg_ge (ep_bi call_abs pg_abs rfl h_abs boot_abs (ea_cons (ep_var (pv 4)) ea_nil)) (ep_bin op_pow pg_pow ep_int ep_int) (by first | exact nomark _ | rfl)))))) (sb_cons (ss_put (pv 0) (ee_p ep_int) (ee_p (ep_bin op_fdivW pg_div (ep_bi call_abs pg_abs rfl h_abs boot_abs (ea_cons (ep_var (pv 4)) ea_nil)) (ep_var (pv 1))))) (sb_one (ss_ret (ee_p (ep_bin op_mod pg_mod (ep_bi call_abs pg_abs rfl h_abs boot_abs (ea_cons (ep_var (pv 4)) ea_nil)) (ep_var (pv 1))))))) sb_nil) (sb_cons (ss_set hN rfl (by first | exact Or.inl rfl | exact Or.inr rfl) (ee_p (ep_bin op_mod pg_mod (ep_bin op_mulW pg_mulI (ep_bin op_addU pg_add (ep_bin op_addU pg_add (ep_bin op_mod pg_mod (ep_var (pv 4)) ep_int) (ep_bin op_mulW pg_mulI ep_int (ep_var (pv 3)))) ep_int) ep_int) ep_int))) (sb_cons (ss_set hN rfl (by first | exact Or.inl rfl | exact Or.inr rfl) (ee_p (ep_bin op_mod pg_mod (ep_bin op_addU pg_add (ep_bin op_addU pg_add (ep_bin op_mulW pg_mulI (ep_var (pv 5)) (ep_var (pv 5))) (ep_bin op_mulW pg_mulI ep_int (ep_var (pv 5)))) (ep_var (pv 3))) ep_int))) (sb_one (ss_ret (ee_p (ep_bin op_mod pg_mod (ep_bin op_fdivW pg_div (ep_bin op_mod pg_mod (ep_bin op_mulW pg_mulI (ep_var (pv 5)) (ep_bin op_addU pg_add (ep_bin op_mod pg_mod (ep_var (pv 5)) ep_int) ep_int)) ep_int) ep_int) (ep_var (pv 1))))))))))))))
abbrev st_law_order : Stmt := tops 21
theorem sc_law_order : FnScope ["_law_pen_here", "_law_many", "_law_left", "_law_k"] ["_law_pen_here", "_law_many"] (defScope st_law_order) := fnScope_by (by decide +kernel)
theorem der_law_order (c_law_draw : CalM P w K mg base 1 "_law_draw" xr 1 g_law_draw) (h_len : mg "len" = none) (h_list : mg "list" = none) (h_range : mg "range" = none) : BodyOk P w K mg base ["_law_pen_here", "_law_many", "_law_left", "_law_k"] "_law_order" (defScope st_law_order) f 1 xr (defBody st_law_order) d_law_order := fun cdv A outer s H E hG hr tk hp => by
  have h64 := hr.units
  have h65 : (A.deeper (envOfC "_law_order" (defScope st_law_order) s.heap.objs.size f cdv)).units + 65 < cLine := by have := hr.un; omega
  have h1 : (A.deeper (envOfC "_law_order" (defScope st_law_order) s.heap.objs.size f cdv)).units + 1 < cLine := by have := hr.un; omega
  have hN := sc_law_order.nd
  exact (sb_cons (ss_setO hN rfl (by first | exact Or.inl rfl | exact Or.inr rfl) (eeo_p (eo_rg1 rfl rfl h_list rfl h_range (ep_var (pv 1))))) (sb_one (ss_ret (EEO.frz (eeo_lc rfl hN (blkOk_by (own := [("_law_k", 3)]) (by first | rfl | decide +kernel)) tg_v (by decide) (ei_rg1 rfl h_range (eea_cons (ee_v (pv 1)) eea_nil)) (fun _ _ _ _ _ => (L2.pg_name (i := 3) hN rfl (by first | exact Or.inl rfl | exact Or.inr rfl))) (fun _ _ _ _ _ => pts_yesE) (fun _ _ _ _ _ => (ee_m (pv 2) PySem.F.slot_list_pop PySem.F.type_list_pop mt_popAt lm_popAt (eea_cons (ee_fm c_law_draw (by decide) hG hr rfl takes_no (pv 0) (eea_cons (ee_p (ep_bi (call_lenU) pg_len rfl h_len boot_len (ea_cons (ep_var (pv 2)) ea_nil))) eea_nil) fnM_len) eea_nil))))))))
abbrev st_law_turn : Stmt := tops 22
theorem sc_law_turn : FnScope ["_law_pen_here", "_law_many", "_law_way", "_law_names", "_law_found", "_law_k"] ["_law_pen_here", "_law_many"] (defScope st_law_turn) := fnScope_by (by decide +kernel)
theorem der_law_turn (c_law_draw : CalM P w K mg base 1 "_law_draw" xr 1 g_law_draw) (c_law_order : CalM P w K mg base 2 "_law_order" xr 1 g_law_order) (h_list : mg "list" = none) (h_range : mg "range" = none) (h_tuple : mg "tuple" = none) : BodyOk P w K mg base ["_law_pen_here", "_law_many", "_law_way", "_law_names", "_law_found", "_law_k"] "_law_turn" (defScope st_law_turn) f 2 xr (defBody st_law_turn) d_law_turn := fun cdv A outer s H E hG hr tk hp => by
  have h64 := hr.units
  have h65 : (A.deeper (envOfC "_law_turn" (defScope st_law_turn) s.heap.objs.size f cdv)).units + 65 < cLine := by have := hr.un; omega
  have h1 : (A.deeper (envOfC "_law_turn" (defScope st_law_turn) s.heap.objs.size f cdv)).units + 1 < cLine := by have := hr.un; omega
  have hN := sc_law_turn.nd
  exact (sb_cons (ss_set hN rfl (by first | exact Or.inl rfl | exact Or.inr rfl) (ee_fm c_law_draw (by decide) hG hr rfl tk (pv 0) (eea_cons (ee_p ep_int) eea_nil) fnM_len)) (sb_cons (ss_set hN rfl (by first | exact Or.inl rfl | exact Or.inr rfl) (ee_fm c_law_order (by decide) hG hr rfl tk (pv 0) (eea_cons (ee_v (pv 1)) eea_nil) fnM_len)) (sb_cons (ss_setO hN rfl (by first | exact Or.inl rfl | exact Or.inr rfl) (eeo_p (eo_rg1 rfl rfl h_list rfl h_range (ep_var (pv 1))))) (sb_cons (ss_if (eet_p (et_cmp (op_eqD h64) pg_eq (ep_var (pv 2)) ep_int (by first | exact nomark _ | rfl))) (sb_one (ss_ret (ee_p (ep_ty call_tupF pg_tup rfl h_tuple boot_tuple (ea_cons (ep_var (pv 4)) ea_nil))))) sb_nil) (sb_cons (ss_if (eet_p (et_cmp (op_eqD h64) pg_eq (ep_var (pv 2)) ep_int (by first | exact nomark _ | rfl))) (sb_one (ss_for hp rfl (ei_rg1 rfl h_range (eea_cons (ee_v (pv 1)) eea_nil)) (L2.pg_name (i := 5) hN rfl (by first | exact Or.inl rfl | exact Or.inr rfl)) tg_v (sb_one (ss_put (pv 4) (ee_p (ep_ixA h1 (ep_var (pv 3)) (ep_bin op_sub pg_sub (ep_var (pv 5)) ep_int) (fun _ _ => rfl))) (ee_p (ep_ixA h1 (ep_var (pv 3)) (ep_var (pv 5)) (fun _ _ => rfl))))))) (sb_one (ss_if (eet_p (et_cmp (op_eqD h64) pg_eq (ep_var (pv 2)) ep_int (by first | exact nomark _ | rfl))) (sb_one (ss_for hp rfl (ei_rg3 rfl h_range (eea_cons (ee_p ep_int) (eea_cons (ee_v (pv 1)) (eea_cons (ee_p ep_int) eea_nil)))) (L2.pg_name (i := 5) hN rfl (by first | exact Or.inl rfl | exact Or.inr rfl)) tg_v (sb_cons (ss_put (pv 4) (ee_p (ep_ixA h1 (ep_var (pv 3)) (ep_bin op_sub pg_sub (ep_var (pv 5)) ep_int) (fun _ _ => rfl))) (ee_p (ep_ixA h1 (ep_var (pv 3)) (ep_var (pv 5)) (fun _ _ => rfl)))) (sb_one (ss_put (pv 4) (ee_p (ep_ixA h1 (ep_var (pv 3)) (ep_var (pv 5)) (fun _ _ => rfl))) (ee_p (ep_ixA h1 (ep_var (pv 3)) (ep_bin op_sub pg_sub (ep_var (pv 5)) ep_int) (fun _ _ => rfl)))))))) (sb_one (ss_set hN rfl (by first | exact Or.inl rfl | exact Or.inr rfl) (ee_v (pv 3))))))) (sb_one (ss_ret (ee_p (ep_ty call_tupF pg_tup rfl h_tuple boot_tuple (ea_cons (ep_var (pv 4)) ea_nil))))))))))
abbrev st_law_text : Stmt := tops 23
theorem sc_law_text : FnScope ["_law_turn_here", "_law_found", "_law_known", "_law_first", "_law_ring", "_law_at"] ["_law_turn_here"] (defScope st_law_text) := fnScope_by (by decide +kernel)
theorem der_law_text (h_len : mg "len" = none) (h_range : mg "range" = none) (h_str : mg "str" = none) : BodyOk P w K mg base ["_law_turn_here", "_law_found", "_law_known", "_law_first", "_law_ring", "_law_at"] "_law_text" (defScope st_law_text) f 0 xr (defBody st_law_text) d_law_text := fun cdv A outer s H E hG hr tk hp => by
  have h64 := hr.units
  have h65 : (A.deeper (envOfC "_law_text" (defScope st_law_text) s.heap.objs.size f cdv)).units + 65 < cLine := by have := hr.un; omega
  have h1 : (A.deeper (envOfC "_law_text" (defScope st_law_text) s.heap.objs.size f cdv)).units + 1 < cLine := by have := hr.un; omega
  have hN := sc_law_text.nd
  exact (sb_cons (ss_setO hN rfl (by first | exact Or.inl rfl | exact Or.inr rfl) (eeo_p (eo_lst ea_nil))) (sb_cons (ss_setO hN rfl (by first | exact Or.inl rfl | exact Or.inr rfl) (eeo_p eo_newK)) (sb_cons (ss_for hp rfl (ei_rg1 rfl h_range (eea_cons (ee_p (ep_bi (call_lenU) pg_len rfl h_len boot_len (ea_cons (ep_var (pv 0)) ea_nil))) eea_nil)) (L2.pg_name (i := 3) hN rfl (by first | exact Or.inl rfl | exact Or.inr rfl)) tg_v (sb_cons (ss_setO hN rfl (by first | exact Or.inl rfl | exact Or.inr rfl) (eeo_p (eo_lst ea_nil))) (sb_cons (ss_set hN rfl (by first | exact Or.inl rfl | exact Or.inr rfl) (ee_v (pv 3))) (sb_cons (ss_while hp (eet_p (et_cmp (op_notInU h65) pg_in (ep_var (pv 5)) (ep_var (pv 2)) (by first | exact nomark _ | rfl))) (sb_cons (ss_putD h1 (pv 2) (ee_v (pv 5)) (ee_p ep_bl)) (sb_cons (ss_expr (ee_m (pv 4) PySem.F.slot_list_append PySem.F.type_list_append mt_append lm_append (eea_cons (ee_p (ep_ty call_str_int pg_str rfl h_str boot_str (ea_cons (ep_var (pv 5)) ea_nil))) eea_nil))) (sb_one (ss_set hN rfl (by first | exact Or.inl rfl | exact Or.inr rfl) (ee_p (ep_ixA h1 (ep_var (pv 0)) (ep_var (pv 5)) (fun _ _ => rfl)))))))) (sb_one (ss_if (eet_p (et_cmp op_gt pg_gt (ep_bi (call_lenU) pg_len rfl h_len boot_len (ea_cons (ep_var (pv 4)) ea_nil)) ep_int (by first | exact nomark _ | rfl))) (sb_one (ss_expr (ee_m (pv 1) PySem.F.slot_list_append PySem.F.type_list_append mt_append lm_append (eea_cons (ee_p (ep_bin op_addU pg_add (ep_bin op_addU pg_add ep_str (ep_mt PySem.F.plainAttrs_str PySem.F.slot_str_join PySem.F.type_str_join mt_join pm_join ty_str ep_str (ea_cons (ep_var (pv 4)) ea_nil))) ep_str)) eea_nil)))) sb_nil)))))) (sb_one (ss_ret (ee_p (ep_orT (ep_mt PySem.F.plainAttrs_str PySem.F.slot_str_join PySem.F.type_str_join mt_join pm_join ty_str ep_str (ea_cons (ep_var (pv 1)) ea_nil)) (ep_one ep_str))))))))
abbrev st_rings : Stmt := tops 7
theorem sc_rings : FnScope ["turn", "found", "seen", "first", "ring"] ["turn"] (defScope st_rings) := fnScope_by (by decide +kernel)
theorem der_rings (h_len : mg "len" = none) (h_range : mg "range" = none) : BodyOk P w K mg base ["turn", "found", "seen", "first", "ring"] "rings" (defScope st_rings) f 0 xr (defBody st_rings) d_rings := fun cdv A outer s H E hG hr tk hp => by
  have h64 := hr.units
  have h65 : (A.deeper (envOfC "rings" (defScope st_rings) s.heap.objs.size f cdv)).units + 65 < cLine := by have := hr.un; omega
  have h1 : (A.deeper (envOfC "rings" (defScope st_rings) s.heap.objs.size f cdv)).units + 1 < cLine := by have := hr.un; omega
  have hN := sc_rings.nd
  exact (sb_cons (ss_setO hN rfl (by first | exact Or.inl rfl | exact Or.inr rfl) (eeo_p (eo_lst ea_nil))) (sb_cons (ss_setO hN rfl (by first | exact Or.inl rfl | exact Or.inr rfl) (eeo_p (eo_lst ea_nil))) (sb_cons (ss_for hp rfl (ei_rg1 rfl h_range (eea_cons (ee_p (ep_bi (call_lenU) pg_len rfl h_len boot_len (ea_cons (ep_var (pv 0)) ea_nil))) eea_nil)) (L2.pg_name (i := 3) hN rfl (by first | exact Or.inl rfl | exact Or.inr rfl)) tg_v (sb_one (ss_if (eet_p (et_cmp (op_notInU h65) pg_in (ep_var (pv 3)) (ep_var (pv 2)) (by first | exact nomark _ | rfl))) (sb_cons (ss_setO hN rfl (by first | exact Or.inl rfl | exact Or.inr rfl) (eeo_lst (eea_cons (ee_v (pv 3)) eea_nil))) (sb_cons (ss_while hp (eet_p (et_cmp (op_neD h64) pg_ne (ep_ixA h1 (ep_var (pv 0)) (ep_ixA h1 (ep_var (pv 4)) (ep_un un_neg pg_neg ep_int) (fun _ _ => rfl)) (fun _ _ => rfl)) (ep_var (pv 3)) (by first | exact nomark _ | rfl))) (sb_one (ss_expr (ee_m (pv 4) PySem.F.slot_list_append PySem.F.type_list_append mt_append lm_append (eea_cons (ee_p (ep_ixA h1 (ep_var (pv 0)) (ep_ixA h1 (ep_var (pv 4)) (ep_un un_neg pg_neg ep_int) (fun _ _ => rfl)) (fun _ _ => rfl))) eea_nil))))) (sb_cons (ss_expr (ee_xtP (pv 2) (ep_var (pv 4)))) (sb_one (ss_expr (ee_m (pv 1) PySem.F.slot_list_append PySem.F.type_list_append mt_append lm_append (eea_cons (ee_v (pv 4)) eea_nil))))))) sb_nil))) (sb_one (ss_ret (ee_v (pv 1)))))))
abbrev st_show_numbers : Stmt := tops 10
theorem sc_show_numbers : FnScope ["numbers", "number"] ["numbers"] (defScope st_show_numbers) := fnScope_by (by decide +kernel)
theorem der_show_numbers (h_str : mg "str" = none) : BodyOk P w K mg base ["numbers", "number"] "show_numbers" (defScope st_show_numbers) f 0 xr (defBody st_show_numbers) d_show_numbers := fun cdv A outer s H E hG hr tk hp => by
  have h64 := hr.units
  have h65 : (A.deeper (envOfC "show_numbers" (defScope st_show_numbers) s.heap.objs.size f cdv)).units + 65 < cLine := by have := hr.un; omega
  have h1 : (A.deeper (envOfC "show_numbers" (defScope st_show_numbers) s.heap.objs.size f cdv)).units + 1 < cLine := by have := hr.un; omega
  have hN := sc_show_numbers.nd
  exact (sb_one (ss_ret (ee_p (ep_mt PySem.F.plainAttrs_str PySem.F.slot_str_join PySem.F.type_str_join mt_join pm_join ty_str ep_str (ea_cons (EO.frz (eo_lc rfl hN (blkOk_by (own := [("number", 1)]) (by first | rfl | decide +kernel)) tg_v (by decide) (eip_seq (ep_var (pv 0))) (fun _ _ _ _ _ => (L2.pg_name (i := 1) hN rfl (by first | exact Or.inl rfl | exact Or.inr rfl))) (fun _ _ _ _ _ => pts_yesP) (fun _ _ _ _ _ => (ep_ty call_str_int pg_str rfl h_str boot_str (ea_cons (ep_var (pv 1)) ea_nil))))) ea_nil)))))
abbrev st_show_turn : Stmt := tops 11
theorem sc_show_turn : FnScope ["turn", "some", "ring"] ["turn"] (defScope st_show_turn) := fnScope_by (by decide +kernel)
theorem der_show_turn (c_rings : CalF P w K mg base 1 "rings" xr 1 g_rings) (c_show_numbers : CalF P w K mg base 1 "show_numbers" xr 1 g_show_numbers) (h_len : mg "len" = none) : BodyOk P w K mg base ["turn", "some", "ring"] "show_turn" (defScope st_show_turn) f 1 xr (defBody st_show_turn) d_show_turn := fun cdv A outer s H E hG hr tk hp => by
  have h64 := hr.units
  have h65 : (A.deeper (envOfC "show_turn" (defScope st_show_turn) s.heap.objs.size f cdv)).units + 65 < cLine := by have := hr.un; omega
  have h1 : (A.deeper (envOfC "show_turn" (defScope st_show_turn) s.heap.objs.size f cdv)).units + 1 < cLine := by have := hr.un; omega
  have hN := sc_show_turn.nd
  exact (sb_cons (ss_lcE rfl hN rfl rfl (sw_true rfl rfl rfl rfl) (blkOk_by (own := [("ring", 2)]) (by first | rfl | decide +kernel)) tg_v (by decide) (ei_seq (ee_f c_rings (by decide) hG hr rfl tk (eea_cons (ee_v (pv 0)) eea_nil) fnF_len)) (fun _ _ _ _ _ => (L2.pg_name (i := 2) hN rfl (by first | exact Or.inl rfl | exact Or.inr rfl))) (fun _ _ _ _ _ => (pts_E (eet_p (et_cmp op_gt pg_gt (ep_bi (call_lenU) pg_len rfl h_len boot_len (ea_cons (ep_var (pv 2)) ea_nil)) ep_int (by first | exact nomark _ | rfl))))) (fun _ _ _ _ _ => (ee_bin op_addU pg_add (ee_bin op_addU pg_add (ee_p ep_str) (ee_f c_show_numbers (by decide) hG hr rfl takes_no (eea_cons (ee_v (pv 2)) eea_nil) fnF_len)) (ee_p ep_str)))) (sb_one (ss_ret (ee_p (ep_orT (ep_mt PySem.F.plainAttrs_str PySem.F.slot_str_join PySem.F.type_str_join mt_join pm_join ty_str ep_str (ea_cons (ep_var (pv 1)) ea_nil)) (ep_one ep_str))))))
abbrev st_is_whole : Stmt := tops 6
theorem sc_is_whole : FnScope ["thing"] ["thing"] (defScope st_is_whole) := fnScope_by (by decide +kernel)
theorem der_is_whole (h_bool : mg "bool" = none) (h_int : mg "int" = none) (h_isinstance : mg "isinstance" = none) : BodyOk P w K mg base ["thing"] "is_whole" (defScope st_is_whole) f 0 xr (defBody st_is_whole) d_is_whole := fun cdv A outer s H E hG hr tk hp => by
  have h64 := hr.units
  have h65 : (A.deeper (envOfC "is_whole" (defScope st_is_whole) s.heap.objs.size f cdv)).units + 65 < cLine := by have := hr.un; omega
  have h1 : (A.deeper (envOfC "is_whole" (defScope st_is_whole) s.heap.objs.size f cdv)).units + 1 < cLine := by have := hr.un; omega
  have hN := sc_is_whole.nd
  exact (sb_one (ss_ret (ee_p (ep_and (ep_isi (pe_bltn (v := .ty "int") rfl h_int boot_int rfl) rfl h_isinstance (ep_var (pv 0))) (ep_one (ep_not (ep_isi (pe_bltn (v := .ty "bool") rfl h_bool boot_bool rfl) rfl h_isinstance (ep_var (pv 0)))))))))
abbrev st_turn_of : Stmt := tops 8
theorem sc_turn_of : FnScope ["many", "some", "found", "seen", "at", "ring", "one", "k"] ["many", "some"] (defScope st_turn_of) := fnScope_by (by decide +kernel)
theorem der_turn_of (c_is_whole : CalF P w K mg base 1 "is_whole" xr 1 g_is_whole) (h_len : mg "len" = none) (h_list : mg "list" = none) (h_range : mg "range" = none) (h_tuple : mg "tuple" = none) (h_MOST_THINGS : ∃ t, mg "MOST_THINGS" = some (.int 7 t)) : BodyOk P w K mg base ["many", "some", "found", "seen", "at", "ring", "one", "k"] "turn_of" (defScope st_turn_of) f 1 xr (defBody st_turn_of) d_turn_of := fun cdv A outer s H E hG hr tk hp => by
  have h64 := hr.units
  have h65 : (A.deeper (envOfC "turn_of" (defScope st_turn_of) s.heap.objs.size f cdv)).units + 65 < cLine := by have := hr.un; omega
  have h1 : (A.deeper (envOfC "turn_of" (defScope st_turn_of) s.heap.objs.size f cdv)).units + 1 < cLine := by have := hr.un; omega
  have hN := sc_turn_of.nd
  exact (sb_cons (ss_if (eet_p (et_not (et_chain op_le pg_le op_le pg_le ep_int (ep_var (pv 0)) (ep_gint h_MOST_THINGS rfl)))) (sb_one ss_never) sb_nil) (sb_cons (ss_setO hN rfl (by first | exact Or.inl rfl | exact Or.inr rfl) (eeo_p (eo_rg1 rfl rfl h_list rfl h_range (ep_var (pv 0))))) (sb_cons (ss_setO hN rfl (by first | exact Or.inl rfl | exact Or.inr rfl) (eeo_p (eo_lst ea_nil))) (sb_cons (ss_for hp rfl (ei_rg1 rfl h_range (eea_cons (ee_p (ep_bi (call_lenU) pg_len rfl h_len boot_len (ea_cons (ep_var (pv 1)) ea_nil))) eea_nil)) (L2.pg_name (i := 4) hN rfl (by first | exact Or.inl rfl | exact Or.inr rfl)) tg_v (sb_cons (ss_set hN rfl (by first | exact Or.inl rfl | exact Or.inr rfl) (ee_p (ep_ixA h1 (ep_var (pv 1)) (ep_var (pv 4)) (fun _ _ => rfl)))) (sb_cons (ss_if (eet_p (et_cmp (op_eqD h64) pg_eq (ep_var (pv 5)) (EO.frz (eo_lst ea_nil)) (by first | exact nomark _ | rfl))) (sb_one ss_never) sb_nil) (sb_cons (ss_for hp rfl (ei_seq (ee_v (pv 5))) (L2.pg_name (i := 6) hN rfl (by first | exact Or.inl rfl | exact Or.inr rfl)) tg_v (sb_cons (ss_if (EEW.t (eew_or (eet_not (eet_val (ee_f c_is_whole (by decide) hG hr rfl tk (eea_cons (ee_v (pv 6)) eea_nil) fnF_len))) (eew_or (eet_p (et_not (et_chain op_le pg_le op_lt pg_lt ep_int (ep_var (pv 6)) (ep_var (pv 0))))) (eew_or1 (eet_p (et_cmp (op_inU h65) pg_in (ep_var (pv 6)) (ep_var (pv 3)) (by first | exact nomark _ | rfl))))))) (sb_one ss_never) sb_nil) (sb_one (ss_expr (ee_m (pv 3) PySem.F.slot_list_append PySem.F.type_list_append mt_append lm_append (eea_cons (ee_v (pv 6)) eea_nil)))))) (sb_one (ss_for hp rfl (ei_rg1 rfl h_range (eea_cons (ee_p (ep_bi (call_lenU) pg_len rfl h_len boot_len (ea_cons (ep_var (pv 5)) ea_nil))) eea_nil)) (L2.pg_name (i := 7) hN rfl (by first | exact Or.inl rfl | exact Or.inr rfl)) tg_v (sb_one (ss_put (pv 2) (ee_p (ep_ixA h1 (ep_var (pv 5)) (ep_bin op_sub pg_sub (ep_var (pv 7)) ep_int) (fun _ _ => rfl))) (ee_p (ep_ixA h1 (ep_var (pv 5)) (ep_var (pv 7)) (fun _ _ => rfl))))))))))) (sb_one (ss_ret (ee_p (ep_ty call_tupF pg_tup rfl h_tuple boot_tuple (ea_cons (ep_var (pv 2)) ea_nil)))))))))
abbrev st_is_number : Stmt := tops 15
theorem sc_is_number : FnScope ["word", "sign"] ["word"] (defScope st_is_number) := fnScope_by (by decide +kernel)
theorem der_is_number (h_all : mg "all" = none) (h_len : mg "len" = none) (h_MOST_FIGURES : ∃ t, mg "MOST_FIGURES" = some (.int 30 t)) (h_FIGURES : ∃ t, mg "FIGURES" = some (.str (Str.ofString "0123456789") t)) : BodyOk P w K mg base ["word", "sign"] "is_number" (defScope st_is_number) f 0 xr (defBody st_is_number) d_is_number := fun cdv A outer s H E hG hr tk hp => by
  have h64 := hr.units
  have h65 : (A.deeper (envOfC "is_number" (defScope st_is_number) s.heap.objs.size f cdv)).units + 65 < cLine := by have := hr.un; omega
  have h1 : (A.deeper (envOfC "is_number" (defScope st_is_number) s.heap.objs.size f cdv)).units + 1 < cLine := by have := hr.un; omega
  have hN := sc_is_number.nd
  exact (sb_cons (ss_if (eet_p (EW.t (ew_or (et_not (et_chain op_le pg_le op_le pg_le ep_int (ep_bi (call_lenU) pg_len rfl h_len boot_len (ea_cons (ep_var (pv 0)) ea_nil)) (ep_gint h_MOST_FIGURES rfl))) (ew_or1 (et_not (et_val (ep_bi (cr_all rfl) pg_all rfl h_all boot_all (ea_cons (EO.frz (eo_lc rfl hN (blkOk_by (own := [("sign", 1)]) (by first | rfl | decide +kernel)) tg_v (by decide) (eip_seq (ep_var (pv 0))) (fun _ _ _ _ _ => (L2.pg_name (i := 1) hN rfl (by first | exact Or.inl rfl | exact Or.inr rfl))) (fun _ _ _ _ _ => pts_yesP) (fun _ _ _ _ _ => (ep_cmp (op_inU h65) pg_in (ep_var (pv 1)) (ep_gstr h_FIGURES rfl) (by first | exact nomark _ | rfl))))) ea_nil)))))))) (sb_one (ss_ret (ee_p ep_bl))) sb_nil) (sb_one (ss_ret (ee_p (ep_or (ep_cmp (op_eqD h64) pg_eq (ep_var (pv 0)) ep_str (by first | exact nomark _ | rfl)) (ep_one (ep_cmp (op_neD h64) pg_ne (ep_ixA h1 (ep_var (pv 0)) ep_int (fun _ _ => rfl)) ep_str (by first | exact nomark _ | rfl))))))))
abbrev st_rings_in : Stmt := tops 16
theorem sc_rings_in : FnScope ["text", "found", "part", "words", "word"] ["text"] (defScope st_rings_in) := fnScope_by (by decide +kernel)
theorem der_rings_in (c_is_number : CalF P w K mg base 1 "is_number" xr 1 g_is_number) (h_all : mg "all" = none) (h_int : mg "int" = none) : BodyOk P w K mg base ["text", "found", "part", "words", "word"] "rings_in" (defScope st_rings_in) f 1 xr (defBody st_rings_in) d_rings_in := fun cdv A outer s H E hG hr tk hp => by
  have h64 := hr.units
  have h65 : (A.deeper (envOfC "rings_in" (defScope st_rings_in) s.heap.objs.size f cdv)).units + 65 < cLine := by have := hr.un; omega
  have h1 : (A.deeper (envOfC "rings_in" (defScope st_rings_in) s.heap.objs.size f cdv)).units + 1 < cLine := by have := hr.un; omega
  have hN := sc_rings_in.nd
  exact (sb_cons (ss_if (eet_p (et_cmp (op_eqD h64) pg_eq (ep_var (pv 0)) ep_str (by first | exact nomark _ | rfl))) (sb_one (ss_ret (ee_p (EO.frz (eo_lst ea_nil))))) sb_nil) (sb_cons (ss_if (eet_p (EW.t (ew_or (et_cmp (op_neD h64) pg_ne (ep_sl (ep_var (pv 0)) ex_none (ex_some ep_int)) ep_str (by first | exact nomark _ | rfl)) (ew_or1 (et_cmp (op_neD h64) pg_ne (ep_sl (ep_var (pv 0)) (ex_some (ep_un un_neg pg_neg ep_int)) ex_none) ep_str (by first | exact nomark _ | rfl)))))) (sb_one ss_never) sb_nil) (sb_cons (ss_setO hN rfl (by first | exact Or.inl rfl | exact Or.inr rfl) (eeo_p (eo_lst ea_nil))) (sb_cons (ss_for hp rfl (ei_seq (ee_p (EO.frz (eo_mt PySem.F.plainAttrs_str PySem.F.slot_str_split PySem.F.type_str_split mt_split om_split ty_str (ep_sl (ep_var (pv 0)) (ex_some ep_int) (ex_some (ep_un un_neg pg_neg ep_int))) (ea_cons ep_str ea_nil))))) (L2.pg_name (i := 2) hN rfl (by first | exact Or.inl rfl | exact Or.inr rfl)) tg_v (sb_cons (ss_setO hN rfl (by first | exact Or.inl rfl | exact Or.inr rfl) (eeo_p (eo_mt PySem.F.plainAttrs_str PySem.F.slot_str_split PySem.F.type_str_split mt_split om_split ty_str (ep_var (pv 2)) (ea_cons ep_str ea_nil)))) (sb_cons (ss_if (eet_not (eet_val (ee_bi (cr_all rfl) pg_all rfl h_all boot_all (eea_cons (EEO.frz (eeo_lc rfl hN (blkOk_by (own := [("word", 4)]) (by first | rfl | decide +kernel)) tg_v (by decide) (ei_seq (ee_v (pv 3))) (fun _ _ _ _ _ => (L2.pg_name (i := 4) hN rfl (by first | exact Or.inl rfl | exact Or.inr rfl))) (fun _ _ _ _ _ => pts_yesE) (fun _ _ _ _ _ => (ee_f c_is_number (by decide) hG hr rfl takes_no (eea_cons (ee_v (pv 4)) eea_nil) fnF_len)))) eea_nil)))) (sb_one ss_never) sb_nil) (sb_one (ss_expr (ee_m (pv 1) PySem.F.slot_list_append PySem.F.type_list_append mt_append lm_append (eea_cons (ee_p (EO.frz (eo_lc rfl hN (blkOk_by (own := [("word", 4)]) (by first | rfl | decide +kernel)) tg_v (by decide) (eip_seq (ep_var (pv 3))) (fun _ _ _ _ _ => (L2.pg_name (i := 4) hN rfl (by first | exact Or.inl rfl | exact Or.inr rfl))) (fun _ _ _ _ _ => pts_yesP) (fun _ _ _ _ _ => (ep_ty call_intU pg_intU rfl h_int boot_int (ea_cons (ep_var (pv 4)) ea_nil)))))) eea_nil))))))) (sb_one (ss_ret (ee_v (pv 1))))))))
abbrev st_read_turn : Stmt := tops 17
theorem sc_read_turn : FnScope ["many", "text", "turn"] ["many", "text"] (defScope st_read_turn) := fnScope_by (by decide +kernel)
theorem der_read_turn (c_rings_in : CalF P w K mg base 2 "rings_in" xr 1 g_rings_in) (c_show_turn : CalF P w K mg base 2 "show_turn" xr 1 g_show_turn) (c_turn_of : CalF P w K mg base 2 "turn_of" xr 2 g_turn_of) (h_isinstance : mg "isinstance" = none) (h_str : mg "str" = none) : BodyOk P w K mg base ["many", "text", "turn"] "read_turn" (defScope st_read_turn) f 2 xr (defBody st_read_turn) d_read_turn := fun cdv A outer s H E hG hr tk hp => by
  have h64 := hr.units
  have h65 : (A.deeper (envOfC "read_turn" (defScope st_read_turn) s.heap.objs.size f cdv)).units + 65 < cLine := by have := hr.un; omega
  have h1 : (A.deeper (envOfC "read_turn" (defScope st_read_turn) s.heap.objs.size f cdv)).units + 1 < cLine := by have := hr.un; omega
  have hN := sc_read_turn.nd
  exact (sb_cons (ss_if (eet_p (et_not (et_val (ep_isi (pe_bltn (v := .ty "str") rfl h_str boot_str rfl) rfl h_isinstance (ep_var (pv 1)))))) (sb_one ss_never) sb_nil) (sb_cons (ss_thru (sb_one (ss_set hN rfl (by first | exact Or.inl rfl | exact Or.inr rfl) (ee_f c_turn_of (by decide) hG hr rfl takes_no (eea_cons (ee_v (pv 0)) (eea_cons (ee_f c_rings_in (by decide) hG hr rfl takes_no (eea_cons (ee_v (pv 1)) eea_nil) fnF_len) eea_nil)) fnF_len)))) (sb_cons (ss_if (eet_cmp (op_neD h64) pg_ne (ee_f c_show_turn (by decide) hG hr rfl tk (eea_cons (ee_v (pv 2)) eea_nil) fnF_len) (ee_v (pv 1)) (by first | exact nomark _ | rfl)) (sb_one ss_never) sb_nil) (sb_one (ss_ret (ee_v (pv 2)))))))
abbrev st_law : Stmt := tops 24
theorem sc_law : FnScope ["_law_script", "_law_pen_here", "_law_k", "_law_many", "_law_turn_here", "_law_due", "_law_wider", "_law_again"] ["_law_script"] (defScope st_law) := fnScope_by (by decide +kernel)
theorem der_law (c_law_draw : CalM P w K mg base 1 "_law_draw" xr 1 g_law_draw) (c_law_pen : CalF P w K mg base 1 "_law_pen" xr 1 g_law_pen) (c_law_text : CalF P w K mg base 1 "_law_text" xr 1 g_law_text) (c_law_turn : CalM P w K mg base 3 "_law_turn" xr 1 g_law_turn) (c_read_turn : CalF P w K mg base 3 "read_turn" xr 2 g_read_turn) (c_show_turn : CalF P w K mg base 2 "show_turn" xr 1 g_show_turn) (h_range : mg "range" = none) (h_repr : mg "repr" = none) (h_tuple : mg "tuple" = none) : BodyOk P w K mg base ["_law_script", "_law_pen_here", "_law_k", "_law_many", "_law_turn_here", "_law_due", "_law_wider", "_law_again"] "law" (defScope st_law) f 3 xr (defBody st_law) d_law := fun cdv A outer s H E hG hr tk hp => by
  have h64 := hr.units
  have h65 : (A.deeper (envOfC "law" (defScope st_law) s.heap.objs.size f cdv)).units + 65 < cLine := by have := hr.un; omega
  have h1 : (A.deeper (envOfC "law" (defScope st_law) s.heap.objs.size f cdv)).units + 1 < cLine := by have := hr.un; omega
  have hN := sc_law.nd
  exact (sb_cons (ss_setO hN rfl (by first | exact Or.inl rfl | exact Or.inr rfl) (eeo_f c_law_pen (by decide) hG hr rfl tk (eea_cons (ee_v (pv 0)) eea_nil) fnF_len)) (sb_cons (ss_for hp rfl (ei_rg1 rfl h_range (eea_cons (ee_p ep_int) eea_nil)) (L2.pg_name (i := 2) hN rfl (by first | exact Or.inl rfl | exact Or.inr rfl)) tg_v (sb_cons (ss_set hN rfl (by first | exact Or.inl rfl | exact Or.inr rfl) (ee_bin op_addU pg_add (ee_p ep_int) (ee_fm c_law_draw (by decide) hG hr rfl tk (pv 1) (eea_cons (ee_p ep_int) eea_nil) fnM_len))) (sb_cons (ss_set hN rfl (by first | exact Or.inl rfl | exact Or.inr rfl) (ee_fm c_law_turn (by decide) hG hr rfl tk (pv 1) (eea_cons (ee_v (pv 3)) eea_nil) fnM_len)) (sb_cons (ss_set hN rfl (by first | exact Or.inl rfl | exact Or.inr rfl) (ee_f c_law_text (by decide) hG hr rfl tk (eea_cons (ee_v (pv 4)) eea_nil) fnF_len)) (sb_cons (ss_set hN rfl (by first | exact Or.inl rfl | exact Or.inr rfl) (ee_p (ep_bin op_addU pg_add (ep_var (pv 4)) (ep_tg2 rfl rfl h_tuple rfl h_range (ep_var (pv 3)) ep_int)))) (sb_one (ss_for hp rfl (ei_rg1 rfl h_range (eea_cons (ee_p ep_int) eea_nil)) (L2.pg_name (i := 7) hN rfl (by first | exact Or.inl rfl | exact Or.inr rfl)) tg_v (sb_cons (ss_if (EEW.t (eew_or (eet_cmp (op_neD h64) pg_ne (ee_f c_show_turn (by decide) hG hr rfl tk (eea_cons (ee_v (pv 4)) eea_nil) fnF_len) (ee_v (pv 5)) (by first | exact nomark _ | rfl)) (eew_or1 (eet_cmp (op_neD h64) pg_ne (ee_bi (call_repr hG h64) pg_repr rfl h_repr boot_repr (eea_cons (ee_f c_read_turn (by decide) hG hr rfl tk (eea_cons (ee_v (pv 3)) (eea_cons (ee_v (pv 5)) eea_nil)) fnF_len) eea_nil)) (ee_p (ep_bi (call_repr hG h64) pg_repr rfl h_repr boot_repr (ea_cons (ep_var (pv 4)) ea_nil))) (by first | exact nomark _ | rfl))))) (sb_one (ss_ret (ee_p ep_bl))) sb_nil) (sb_one (ss_if (EEW.t (eew_or (eet_cmp (op_neD h64) pg_ne (ee_bi (call_repr hG h64) pg_repr rfl h_repr boot_repr (eea_cons (ee_f c_read_turn (by decide) hG hr rfl tk (eea_cons (ee_p ep_int) (eea_cons (ee_v (pv 5)) eea_nil)) fnF_len) eea_nil)) (ee_p (ep_bi (call_repr hG h64) pg_repr rfl h_repr boot_repr (ea_cons (ep_var (pv 6)) ea_nil))) (by first | exact nomark _ | rfl)) (eew_or1 (eet_cmp (op_neD h64) pg_ne (ee_f c_show_turn (by decide) hG hr rfl tk (eea_cons (ee_v (pv 6)) eea_nil) fnF_len) (ee_v (pv 5)) (by first | exact nomark _ | rfl))))) (sb_one (ss_ret (ee_p ep_bl))) sb_nil)))))))))) (sb_one (ss_ret (ee_p ep_bl)))))
end
end HM

set_option Elab.async false
set_option linter.all false
set_option maxRecDepth 100000
set_option maxHeartbeats 0
set_option autoImplicit false
/-! the head of k71 (printed) -/
namespace HM
open PySem PySem.Spec PyProof.Rows L2 C8
def xr0 : Xr := fun _ _ _ _ => False
def df_law_pen : He.DefD := ⟨("_law_pen", none), "_law_pen", "_law_pen", defArgs st_law_pen, defBody st_law_pen, defScope st_law_pen, [], []⟩
def df_law_draw : He.DefD := ⟨("_law_draw", none), "_law_draw", "_law_draw", defArgs st_law_draw, defBody st_law_draw, defScope st_law_draw, [], []⟩
def df_law_order : He.DefD := ⟨("_law_order", none), "_law_order", "_law_order", defArgs st_law_order, defBody st_law_order, defScope st_law_order, [], []⟩
def df_law_turn : He.DefD := ⟨("_law_turn", none), "_law_turn", "_law_turn", defArgs st_law_turn, defBody st_law_turn, defScope st_law_turn, [], []⟩
def df_law_text : He.DefD := ⟨("_law_text", none), "_law_text", "_law_text", defArgs st_law_text, defBody st_law_text, defScope st_law_text, [], []⟩
def df_rings : He.DefD := ⟨("rings", none), "rings", "rings", defArgs st_rings, defBody st_rings, defScope st_rings, [], []⟩
def df_show_numbers : He.DefD := ⟨("show_numbers", none), "show_numbers", "show_numbers", defArgs st_show_numbers, defBody st_show_numbers, defScope st_show_numbers, [], []⟩
def df_show_turn : He.DefD := ⟨("show_turn", none), "show_turn", "show_turn", defArgs st_show_turn, defBody st_show_turn, defScope st_show_turn, [], []⟩
def df_is_whole : He.DefD := ⟨("is_whole", none), "is_whole", "is_whole", defArgs st_is_whole, defBody st_is_whole, defScope st_is_whole, [], []⟩
def df_turn_of : He.DefD := ⟨("turn_of", none), "turn_of", "turn_of", defArgs st_turn_of, defBody st_turn_of, defScope st_turn_of, [], []⟩
def df_is_number : He.DefD := ⟨("is_number", none), "is_number", "is_number", defArgs st_is_number, defBody st_is_number, defScope st_is_number, [], []⟩
def df_rings_in : He.DefD := ⟨("rings_in", none), "rings_in", "rings_in", defArgs st_rings_in, defBody st_rings_in, defScope st_rings_in, [], []⟩
def df_read_turn : He.DefD := ⟨("read_turn", none), "read_turn", "read_turn", defArgs st_read_turn, defBody st_read_turn, defScope st_read_turn, [], []⟩
def df_law : He.DefD := ⟨("law", none), "law", "law", defArgs st_law, defBody st_law, defScope st_law, [], []⟩
def fn : List He.DefD := [df_law_pen, df_law_draw, df_law_order, df_law_turn, df_law_text, df_rings, df_show_numbers, df_show_turn, df_is_whole, df_turn_of, df_is_number, df_rings_in, df_read_turn, df_law]
def fa : List He.Fa := [.glo "_law_pen", .glo "_law_draw", .glo "_law_order", .glo "_law_turn", .glo "_law_text", .glo "rings", .glo "show_numbers", .glo "show_turn", .glo "is_whole", .glo "turn_of", .glo "is_number", .glo "rings_in", .glo "read_turn", .glo "law", .free "abs", .free "all", .free "bool", .free "int", .free "isinstance", .free "len", .free "list", .free "range", .free "repr", .free "str", .free "tuple", .int "MOST_FIGURES" 30, .int "MOST_THINGS" 7, .str "FIGURES" (Str.ofString "0123456789")]
abbrev Rr : PySem.W.OpenRow := PySem.W.OpenLaw.row PySem.Challenge.rw_heldmarks_k71_turns_as_texts
def names : List PySem.Str := ["MarkError", "NoTurn", "NoText", "MOST_THINGS", "is_whole", "rings", "turn_of", "show_numbers", "show_turn", "FIGURES", "MOST_FIGURES", "is_number", "rings_in", "read_turn", "_law_pen", "_law_draw", "_law_order", "_law_turn", "_law_text"]
abbrev hk : PySem.W.Hook := He.hookD 4 fa fn
def ob (s : PySem.W.SharedT) : He.AlD := He.obsDG 4 fa fn (HandSHeadRun.getT s)
theorem ob_eq (s : PySem.W.SharedT) : ob s = hk.obs s.abs := He.obsDG_eq (HandSHeadRun.getT_eq s)
theorem topRun (w : World) : HandSHeadRun.RunEq Rr (PySem.W.view Rr.prog [24]) hk ob 2000 names w := by
  intro os
  kernel_rfl
theorem facts {P : Program} {w : World} {K : PySem.W.Frag} {h : Heap} {mg : Str → Option Value} {f : Addr} (X : K.In h) (G : h.Ns mainGlobals mg) (hfa : mg ("law" : Str) = some (.ref f)) (c : He.SaysD fa fn K) :
    ∃ fd : FuncData, (∀ (s : Shared) (v : Value), BindsTo s fd ⟨[v], []⟩ [("_law_script", v)]) ∧ ∀ base : Heap, K.In base → base.Ns mainGlobals mg → FnG P w K mg base 4 f fd ["_law_script"] (spF ⟨K, P, w⟩ xr0 1 g_law) := by
  obtain ⟨fd_law_pen, F_law_pen⟩ := c.def_ 0 (d := df_law_pen) rfl
  have gl_law_pen := He.glo_ok X G (c.fact 0 (f := .glo "_law_pen") rfl)
  obtain ⟨fd_law_draw, F_law_draw⟩ := c.def_ 1 (d := df_law_draw) rfl
  have gl_law_draw := He.glo_ok X G (c.fact 1 (f := .glo "_law_draw") rfl)
  obtain ⟨fd_law_order, F_law_order⟩ := c.def_ 2 (d := df_law_order) rfl
  have gl_law_order := He.glo_ok X G (c.fact 2 (f := .glo "_law_order") rfl)
  obtain ⟨fd_law_turn, F_law_turn⟩ := c.def_ 3 (d := df_law_turn) rfl
  have gl_law_turn := He.glo_ok X G (c.fact 3 (f := .glo "_law_turn") rfl)
  obtain ⟨fd_law_text, F_law_text⟩ := c.def_ 4 (d := df_law_text) rfl
  have gl_law_text := He.glo_ok X G (c.fact 4 (f := .glo "_law_text") rfl)
  obtain ⟨fd_rings, F_rings⟩ := c.def_ 5 (d := df_rings) rfl
  have gl_rings := He.glo_ok X G (c.fact 5 (f := .glo "rings") rfl)
  obtain ⟨fd_show_numbers, F_show_numbers⟩ := c.def_ 6 (d := df_show_numbers) rfl
  have gl_show_numbers := He.glo_ok X G (c.fact 6 (f := .glo "show_numbers") rfl)
  obtain ⟨fd_show_turn, F_show_turn⟩ := c.def_ 7 (d := df_show_turn) rfl
  have gl_show_turn := He.glo_ok X G (c.fact 7 (f := .glo "show_turn") rfl)
  obtain ⟨fd_is_whole, F_is_whole⟩ := c.def_ 8 (d := df_is_whole) rfl
  have gl_is_whole := He.glo_ok X G (c.fact 8 (f := .glo "is_whole") rfl)
  obtain ⟨fd_turn_of, F_turn_of⟩ := c.def_ 9 (d := df_turn_of) rfl
  have gl_turn_of := He.glo_ok X G (c.fact 9 (f := .glo "turn_of") rfl)
  obtain ⟨fd_is_number, F_is_number⟩ := c.def_ 10 (d := df_is_number) rfl
  have gl_is_number := He.glo_ok X G (c.fact 10 (f := .glo "is_number") rfl)
  obtain ⟨fd_rings_in, F_rings_in⟩ := c.def_ 11 (d := df_rings_in) rfl
  have gl_rings_in := He.glo_ok X G (c.fact 11 (f := .glo "rings_in") rfl)
  obtain ⟨fd_read_turn, F_read_turn⟩ := c.def_ 12 (d := df_read_turn) rfl
  have gl_read_turn := He.glo_ok X G (c.fact 12 (f := .glo "read_turn") rfl)
  obtain ⟨fd_law, F_law⟩ := c.def_ 13 (d := df_law) rfl
  have gl_law := He.glo_ok X G (c.fact 13 (f := .glo "law") rfl)
  have h_abs := He.free_ok X G (c.fact 14 (f := .free "abs") rfl)
  have h_all := He.free_ok X G (c.fact 15 (f := .free "all") rfl)
  have h_bool := He.free_ok X G (c.fact 16 (f := .free "bool") rfl)
  have h_int := He.free_ok X G (c.fact 17 (f := .free "int") rfl)
  have h_isinstance := He.free_ok X G (c.fact 18 (f := .free "isinstance") rfl)
  have h_len := He.free_ok X G (c.fact 19 (f := .free "len") rfl)
  have h_list := He.free_ok X G (c.fact 20 (f := .free "list") rfl)
  have h_range := He.free_ok X G (c.fact 21 (f := .free "range") rfl)
  have h_repr := He.free_ok X G (c.fact 22 (f := .free "repr") rfl)
  have h_str := He.free_ok X G (c.fact 23 (f := .free "str") rfl)
  have h_tuple := He.free_ok X G (c.fact 24 (f := .free "tuple") rfl)
  have h_MOST_FIGURES := He.int_ok X G (c.fact 25 (f := .int "MOST_FIGURES" 30) rfl)
  have h_MOST_THINGS := He.int_ok X G (c.fact 26 (f := .int "MOST_THINGS" 7) rfl)
  have h_FIGURES := He.str_ok X G (c.fact 27 (f := .str "FIGURES" (Str.ofString "0123456789")) rfl)
  have e := hfa.symm.trans gl_law
  cases e
  have b := FunD.bindsA (ps := ["_law_script"]) F_law fun _ _ _ _ _ _ us hl => match us, hl with | [_], _ => rfl
  refine ⟨fd_law, fun s v => b s [v] rfl, fun base _ _ => ?_⟩
  have c_law_pen : CalF P w K mg base 1 "_law_pen" xr0 1 g_law_pen := calF_of F_law_pen gl_law_pen sc_law_pen rfl (F_law_pen.bindsN fun _ _ _ _ _ _ us hl => match us, hl with | [_], _ => rfl) (der_law_pen )
  have c_law_draw : CalM P w K mg base 1 "_law_draw" xr0 1 g_law_draw := calM_of F_law_draw gl_law_draw sc_law_draw rfl (F_law_draw.bindsN fun _ _ _ _ _ _ us hl => match us, hl with | [_, _], _ => rfl) (der_law_draw h_abs h_len)
  have c_law_order : CalM P w K mg base 2 "_law_order" xr0 1 g_law_order := calM_of F_law_order gl_law_order sc_law_order rfl (F_law_order.bindsN fun _ _ _ _ _ _ us hl => match us, hl with | [_, _], _ => rfl) (der_law_order c_law_draw h_len h_list h_range)
  have c_law_turn : CalM P w K mg base 3 "_law_turn" xr0 1 g_law_turn := calM_of F_law_turn gl_law_turn sc_law_turn rfl (F_law_turn.bindsN fun _ _ _ _ _ _ us hl => match us, hl with | [_, _], _ => rfl) (der_law_turn c_law_draw c_law_order h_list h_range h_tuple)
  have c_law_text : CalF P w K mg base 1 "_law_text" xr0 1 g_law_text := calF_of F_law_text gl_law_text sc_law_text rfl (F_law_text.bindsN fun _ _ _ _ _ _ us hl => match us, hl with | [_], _ => rfl) (der_law_text h_len h_range h_str)
  have c_rings : CalF P w K mg base 1 "rings" xr0 1 g_rings := calF_of F_rings gl_rings sc_rings rfl (F_rings.bindsN fun _ _ _ _ _ _ us hl => match us, hl with | [_], _ => rfl) (der_rings h_len h_range)
  have c_show_numbers : CalF P w K mg base 1 "show_numbers" xr0 1 g_show_numbers := calF_of F_show_numbers gl_show_numbers sc_show_numbers rfl (F_show_numbers.bindsN fun _ _ _ _ _ _ us hl => match us, hl with | [_], _ => rfl) (der_show_numbers h_str)
  have c_show_turn : CalF P w K mg base 2 "show_turn" xr0 1 g_show_turn := calF_of F_show_turn gl_show_turn sc_show_turn rfl (F_show_turn.bindsN fun _ _ _ _ _ _ us hl => match us, hl with | [_], _ => rfl) (der_show_turn c_rings c_show_numbers h_len)
  have c_is_whole : CalF P w K mg base 1 "is_whole" xr0 1 g_is_whole := calF_of F_is_whole gl_is_whole sc_is_whole rfl (F_is_whole.bindsN fun _ _ _ _ _ _ us hl => match us, hl with | [_], _ => rfl) (der_is_whole h_bool h_int h_isinstance)
  have c_turn_of : CalF P w K mg base 2 "turn_of" xr0 2 g_turn_of := calF_of F_turn_of gl_turn_of sc_turn_of rfl (F_turn_of.bindsN fun _ _ _ _ _ _ us hl => match us, hl with | [_, _], _ => rfl) (der_turn_of c_is_whole h_len h_list h_range h_tuple h_MOST_THINGS)
  have c_is_number : CalF P w K mg base 1 "is_number" xr0 1 g_is_number := calF_of F_is_number gl_is_number sc_is_number rfl (F_is_number.bindsN fun _ _ _ _ _ _ us hl => match us, hl with | [_], _ => rfl) (der_is_number h_all h_len h_MOST_FIGURES h_FIGURES)
  have c_rings_in : CalF P w K mg base 2 "rings_in" xr0 1 g_rings_in := calF_of F_rings_in gl_rings_in sc_rings_in rfl (F_rings_in.bindsN fun _ _ _ _ _ _ us hl => match us, hl with | [_], _ => rfl) (der_rings_in c_is_number h_all h_int)
  have c_read_turn : CalF P w K mg base 3 "read_turn" xr0 2 g_read_turn := calF_of F_read_turn gl_read_turn sc_read_turn rfl (F_read_turn.bindsN fun _ _ _ _ _ _ us hl => match us, hl with | [_, _], _ => rfl) (der_read_turn c_rings_in c_show_turn c_turn_of h_isinstance h_str)
  exact fn_F F_law sc_law rfl (der_law c_law_draw c_law_pen c_law_text c_law_turn c_read_turn c_show_turn h_range h_repr h_tuple)
end HM
open PySem PySem.W PySem.Calls PyProof.Rows HM in
theorem PySem.Challenge.cw_heldmarks_k71_turns_as_texts_holds : PySem.Challenge.rw_heldmarks_k71_turns_as_texts.Holds := by
  w_on; o_law
  refine HandSHeadRun.head_any (r := OpenLaw.row PySem.Challenge.rw_heldmarks_k71_turns_as_texts) (q := view (OpenLaw.row PySem.Challenge.rw_heldmarks_k71_turns_as_texts).prog [24]) (H := hk) (ob := ob) (M := 2000) (loose := names) (d := HandSHeadRun.topDef (OpenLaw.row PySem.Challenge.rw_heldmarks_k71_turns_as_texts).prog 24) (kwd := []) ob_eq
    (by kernel_rfl) (fun s => by kernel_rfl) topRun (by kernel_rfl) (by kernel_rfl) (by kernel_rfl) (by rfl) (by first | assumption | decide +kernel) (by decide +kernel) ⟨rfl, rfl, rfl, rfl, rfl, by decide +kernel⟩ ?hw ?hc
  case hw => w_witness2
  case hc =>
    refine walk_G (l := PySem.Challenge.rw_heldmarks_k71_turns_as_texts) (n := 63) (k := 4) (x := "_law_script") rfl (by decide) (by kernel_rfl) ⟨rfl, by decide, by decide⟩ ?F
    intro w mg fa h Y G hmg0
    obtain ⟨K, KX, c⟩ := Y
    have hmg : mg ("law" : PySem.Str) = some (.ref fa) := by
      have e : (HandSHeadRun.topDef (OpenLaw.row PySem.Challenge.rw_heldmarks_k71_turns_as_texts).prog 24).name = ("law" : PySem.Str) := by kernel_rfl
      rw [← e]
      exact hmg0
    obtain ⟨fd, hb, hF⟩ := facts (P := PySem.Challenge.rw_heldmarks_k71_turns_as_texts.prog) (w := w) KX G hmg c
    exact ⟨K, fd, xr0, g_law, KX, hb, law_ok, hF⟩
