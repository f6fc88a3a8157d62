import PyProof.Rows.All
import Wide.All
import OpenK.AllK
import Wide.FinOn
import HandS.ForMost
import HandS.ForExc
import HandS.Evl
import HandS.WideBits
import HandS.Deep
import HandS.Style
import HandS.IsInst
import HandS.Flow
import HandS.Zip
import HandS.ExcIs
import PyProof.ReprRoads
import PyProof.StrLawsRepr
import PyProof.NeKinds
import KE.KDictZip
import HandS.ListItems
import HandS.GenList
import HandS.TupAny
import HandS.More
import PySem.Challenge.RW_risingmeans_k31_middles_told
set_option Elab.async false
set_option linter.all false
set_option maxRecDepth 100000
/-! DL1: a data level over the layer: what a reading does, told by pure data (PyData); heaps stay inside. -/
namespace DL
open PySem L2 Evl
/-! ### heaps less some addresses -/
def wo (H : Hp) (O : List Addr) : Hp := fun a => if a ∈ O then none else H a
theorem wo_in {H : Hp} {O : List Addr} {a : Addr} (h : a ∉ O) : wo H O a = H a := if_neg h
theorem wo_out {H : Hp} {O : List Addr} {a : Addr} (h : a ∈ O) : wo H O a = none := if_pos h
theorem wo_some {H : Hp} {O : List Addr} {a : Addr} {o : HO} (h : wo H O a = some o) : a ∉ O ∧ H a = some o := by
  by_cases m : a ∈ O
  · rw [wo_out m] at h; cases h
  · rw [wo_in m] at h; exact ⟨m, h⟩
theorem wo_mk {H : Hp} {O : List Addr} {a : Addr} {o : HO} (m : a ∉ O) (h : H a = some o) : wo H O a = some o := by rw [wo_in m]; exact h
theorem wo_ex {H : Hp} {O : List Addr} : Ex (wo H O) H := fun _ _ h => (wo_some h).2
theorem wo_sub {H : Hp} {O O' : List Addr} (h : ∀ a, a ∈ O' → a ∈ O) : Ex (wo H O) (wo H O') := fun a o e => by
  obtain ⟨m, e⟩ := wo_some e
  exact wo_mk (fun q => m (h a q)) e
theorem wo_le {H H' : Hp} {O : List Addr} (h : Ex H H') : Ex (wo H O) (wo H' O) := fun a o e => by
  obtain ⟨m, e⟩ := wo_some e
  exact wo_mk m (h a o e)
theorem wo_app {H H' : Hp} {A O : List Addr} (h : Ex (wo H O) (wo H' O)) : Ex (wo H (A ++ O)) (wo H' (A ++ O)) := fun a o e => by
  obtain ⟨m, e⟩ := wo_some e
  have m2 : a ∉ O := fun q => m (List.mem_append_right _ q)
  exact wo_mk m (wo_some (h a o (wo_mk m2 e))).2
theorem wo_nil {H : Hp} : wo H [] = H := by
  funext a
  exact wo_in (by simp)
theorem ne_none {H : Hp} {a : Addr} (h : H a ≠ none) : ∃ o, H a = some o := by
  cases e : H a with
  | none => exact absurd e h
  | some o => exact ⟨o, rfl⟩
/-! ### what a value is, by data; an empty dict is a thing too -/
mutual
inductive Dp (K : PySem.W.Frag) (H : Hp) : V → PyData → Prop
  | non : Dp K H .non .none
  | bl (b : Bool) : Dp K H (.bl b) (.bool b)
  | int (i : Int) : Dp K H (.int i) (.int i)
  | str (x : Str) : Dp K H (.str x) (.str x)
  | lst {a : Addr} {xs : List V} {ds : List PyData} (hs : SqL K H a xs) (ha : DpAll K H xs ds) : Dp K H (.ref a) (.list ds)
  | tup {a : Addr} {xs : List V} {ds : List PyData} (hs : SqT K H a xs) (ha : DpAll K H xs ds) : Dp K H (.ref a) (.tuple ds)
  | dct {a : Addr} (h : H a = some (.dK [])) : Dp K H (.ref a) (.dict [])
inductive DpAll (K : PySem.W.Frag) (H : Hp) : List V → List PyData → Prop
  | nil : DpAll K H [] []
  | cons {v : V} {vs : List V} {d : PyData} {ds : List PyData} (h : Dp K H v d) (t : DpAll K H vs ds) : DpAll K H (v :: vs) (d :: ds)
end
section
variable {K : PySem.W.Frag} {H H' : Hp}
mutual
theorem dp_mono (e : Ex H H') : ∀ (d : PyData) (v : V), Dp K H v d → Dp K H' v d
  | .none, _, h => by cases h; exact .non
  | .bool b, _, h => by cases h; exact .bl b
  | .int i, _, h => by cases h; exact .int i
  | .str x, _, h => by cases h; exact .str x
  | .list ds, _, h => by cases h with | lst hs ha => exact .lst (ex_l e hs) (dpa_mono e ds _ ha)
  | .tuple ds, _, h => by cases h with | tup hs ha => exact .tup (ex_t e hs) (dpa_mono e ds _ ha)
  | .dict kvs, _, h => by cases h with | dct q => exact .dct (e _ _ q)
theorem dpa_mono (e : Ex H H') : ∀ (ds : List PyData) (vs : List V), DpAll K H vs ds → DpAll K H' vs ds
  | [], _, h => by cases h; exact .nil
  | d :: ds, _, h => by cases h with | cons h1 h2 => exact .cons (dp_mono e d _ h1) (dpa_mono e ds _ h2)
end
mutual
theorem dp_l2 : ∀ (d : PyData) (v : V), d.canLay0 = true → Dp K H v d → L2.Dp K H v d
  | .none, _, _, h => by cases h; exact .non
  | .bool b, _, _, h => by cases h; exact .bl b
  | .int i, _, _, h => by cases h; exact .int i
  | .str x, _, _, h => by cases h; exact .str x
  | .list ds, _, c, h => by cases h with | lst hs ha => exact .lst hs (dpa_l2 ds _ (by simpa only [PyData.canLay0] using c) ha)
  | .tuple ds, _, c, h => by cases h with | tup hs ha => exact .tup hs (dpa_l2 ds _ (by simpa only [PyData.canLay0] using c) ha)
  | .dict _, _, c, h => by simp [PyData.canLay0] at c
theorem dpa_l2 : ∀ (ds : List PyData) (vs : List V), PyData.canLayAll0 ds = true → DpAll K H vs ds → L2.DpAll K H vs ds
  | [], _, _, h => by cases h; exact .nil
  | d :: ds, _, c, h => by
    simp only [PyData.canLayAll0, Bool.and_eq_true] at c
    cases h with | cons h1 h2 => exact .cons (dp_l2 d _ c.1 h1) (dpa_l2 ds _ c.2 h2)
end
theorem Dp.l2 {v : V} {d : PyData} (h : Dp K H v d) (s : SeqAt.shaped d = true) : L2.Dp K H v d := dp_l2 d v (SeqAt.canLay_of_shaped s) h
theorem Dp.up {v : V} {d : PyData} (h : Dp K H v d) (e : Ex H H') : Dp K H' v d := dp_mono e d v h
theorem DpAll.up {vs : List V} {ds : List PyData} (h : DpAll K H vs ds) (e : Ex H H') : DpAll K H' vs ds := dpa_mono e ds vs h
theorem DpAll.length : ∀ {vs : List V} {ds : List PyData}, DpAll K H vs ds → vs.length = ds.length
  | _, _, .nil => rfl
  | _, _, .cons _ t => by rw [List.length_cons, List.length_cons, DpAll.length t]
theorem DpAll.get : ∀ {vs : List V} {ds : List PyData} {i : Nat} {d : PyData}, DpAll K H vs ds → ds[i]? = some d → ∃ v, vs[i]? = some v ∧ Dp K H v d
  | _, _, _, _, .nil, e => by simp at e
  | _, _, 0, _, .cons h _, e => by simp at e; subst e; exact ⟨_, rfl, h⟩
  | _, _, i + 1, d, .cons _ t, e => by
    obtain ⟨v, h1, h2⟩ := DpAll.get (i := i) (d := d) t (by simpa using e)
    exact ⟨v, by simpa using h1, h2⟩
theorem DpAll.app : ∀ {vs ws : List V} {ds es : List PyData}, DpAll K H vs ds → DpAll K H ws es → DpAll K H (vs ++ ws) (ds ++ es)
  | _, _, _, _, .nil, s => s
  | _, _, _, _, .cons r t, s => .cons r (DpAll.app t s)
theorem DpAll.take : ∀ {vs : List V} {ds : List PyData} (n : Nat), DpAll K H vs ds → DpAll K H (vs.take n) (ds.take n)
  | _, _, 0, _ => .nil
  | _, _, _ + 1, .nil => .nil
  | _, _, n + 1, .cons r t => .cons r (DpAll.take n t)
theorem DpAll.drop : ∀ {vs : List V} {ds : List PyData} (n : Nat), DpAll K H vs ds → DpAll K H (vs.drop n) (ds.drop n)
  | _, _, 0, r => r
  | _, _, _ + 1, .nil => .nil
  | _, _, n + 1, .cons _ t => DpAll.drop n t
theorem DpAll.rev : ∀ {vs : List V} {ds : List PyData}, DpAll K H vs ds → DpAll K H vs.reverse ds.reverse
  | _, _, .nil => .nil
  | _, _, .cons r t => by
    rw [List.reverse_cons, List.reverse_cons]
    exact DpAll.app (DpAll.rev t) (.cons r .nil)
theorem DpAll.set {x : V} {d : PyData} (r : Dp K H x d) : ∀ {vs : List V} {ds : List PyData} (i : Nat), DpAll K H vs ds → DpAll K H (vs.set i x) (ds.set i d)
  | _, _, _, .nil => .nil
  | _, _, 0, .cons _ t => .cons r t
  | _, _, i + 1, .cons q t => .cons q (DpAll.set r i t)
theorem DpAll.ints (ns : List Int) : DpAll K H (ns.map V.int) (ns.map PyData.int) := by
  induction ns with
  | nil => exact .nil
  | cons n r ih => exact .cons (.int n) ih
theorem DpAll.ints_inv : ∀ {vs : List V} {ns : List Int}, DpAll K H vs (ns.map PyData.int) → vs = ns.map V.int
  | _, [], h => by cases h; rfl
  | _, n :: r, h => by
    cases h with
    | cons h1 h2 =>
      cases h1
      rw [DpAll.ints_inv h2]
      rfl
theorem DpAll.bls_inv : ∀ {vs : List V} {ns : List Bool}, DpAll K H vs (ns.map PyData.bool) → vs = ns.map V.bl
  | _, [], h => by cases h; rfl
  | _, n :: r, h => by
    cases h with
    | cons h1 h2 =>
      cases h1
      rw [DpAll.bls_inv h2]
      rfl
theorem DpAll.strs_inv : ∀ {vs : List V} {ns : List Str}, DpAll K H vs (ns.map PyData.str) → vs = ns.map V.str
  | _, [], h => by cases h; rfl
  | _, n :: r, h => by
    cases h with
    | cons h1 h2 =>
      cases h1
      rw [DpAll.strs_inv h2]
      rfl
theorem DpAll.at {vs : List V} {ds : List PyData} {i : Int} {d : PyData} (h : DpAll K H vs ds) (e : atI ds i = some d) : ∃ v, atI vs i = some v ∧ Dp K H v d := by
  unfold atI at e ⊢
  rw [h.length]
  cases hj : ixN ds.length i with
  | none => rw [hj] at e; cases e
  | some j =>
    rw [hj] at e
    exact h.get (show ds[j]? = some d from e)
theorem DpAll.rep {vs : List V} {ds : List PyData} (h : DpAll K H vs ds) : ∀ n : Nat, DpAll K H (List.replicate n vs).flatten (List.replicate n ds).flatten
  | 0 => .nil
  | n + 1 => by
    rw [List.replicate_succ, List.replicate_succ, List.flatten_cons, List.flatten_cons]
    exact h.app (h.rep n)
end
/-! ### what an expression gives: a thing, or a list that is new -/
inductive Rs where
  | v (d : PyData)
  | n (ds : List PyData)
@[reducible] def Rs.d : Rs → PyData
  | .v d => d
  | .n ds => .list ds
def ResOk (K : PySem.W.Frag) (H H' : Hp) (A : List Addr) (v : V) : Rs → Prop
  | .v d => Dp K (wo H' A) v d
  | .n ds => ∃ l xs, v = .ref l ∧ H l = none ∧ l ∉ A ∧ H' l = some (.lst xs) ∧ DpAll K (wo H' (l :: A)) xs ds
theorem ResOk.dp {K : PySem.W.Frag} {H H' : Hp} {A : List Addr} {v : V} {r : Rs} (h : ResOk K H H' A v r) : Dp K (wo H' A) v r.d := by
  cases r with
  | v d => exact h
  | n ds =>
    obtain ⟨l, xs, rfl, _, hA, e, q⟩ := h
    exact .lst (.inl (.inl (wo_mk hA e))) (q.up (wo_sub fun a m => List.mem_cons_of_mem _ m))
/-! ### what a slot holds -/
inductive Ent where
  | unk
  | val (d : PyData)
  | own (l : Addr) (ds : List PyData)
  | pot (l : Addr)
  | exc (a : Addr)
def Ent.ad : Ent → List Addr
  | .own l _ => [l]
  | .pot l => [l]
  | _ => []
def ads : List Ent → List Addr
  | [] => []
  | e :: r => e.ad ++ ads r
def Ent.pt : Ent → List Addr
  | .pot l => [l]
  | _ => []
def pts : List Ent → List Addr
  | [] => []
  | e :: r => e.pt ++ pts r
theorem pts_ads : ∀ {Δ : List Ent} {a : Addr}, a ∈ pts Δ → a ∈ ads Δ
  | x :: r, a, h => by
    rcases List.mem_append.mp (show a ∈ x.pt ++ pts r from h) with h | h
    · refine List.mem_append_left _ ?_
      cases x with
      | pot l => exact h
      | unk => cases h
      | exc b => cases h
      | val d => cases h
      | own l ds => cases h
    · exact List.mem_append_right _ (pts_ads h)
/-- all that is tracked stays, but for the pots -/
def Kp (Δ : List Ent) (H H' : Hp) : Prop := Ex (wo H (pts Δ)) (wo H' (pts Δ))
theorem Kp.refl {Δ : List Ent} {H : Hp} : Kp Δ H H := fun _ _ z => z
theorem Kp.trans {Δ : List Ent} {H1 H2 H3 : Hp} (a : Kp Δ H1 H2) (b : Kp Δ H2 H3) : Kp Δ H1 H3 := fun x o z => b x o (a x o z)
theorem Kp.of {Δ : List Ent} {H1 H2 : Hp} (a : Ex H1 H2) : Kp Δ H1 H2 := wo_le a
theorem wo_more {H H' : Hp} {P O : List Addr} (h : Ex (wo H P) (wo H' P)) (s : ∀ a, a ∈ P → a ∈ O) : Ex (wo H O) (wo H' O) := fun a o e => by
  obtain ⟨m, e⟩ := wo_some e
  exact wo_mk m (wo_some (h a o (wo_mk (fun q => m (s a q)) e))).2
theorem Kp.ads {Δ : List Ent} {H1 H2 : Hp} (h : Kp Δ H1 H2) : Ex (wo H1 (ads Δ)) (wo H2 (ads Δ)) := wo_more h fun _ m => pts_ads m
theorem Kp.all {A : List Addr} {Δ : List Ent} {H1 H2 : Hp} (h : Kp Δ H1 H2) : Ex (wo H1 (A ++ DL.ads Δ)) (wo H2 (A ++ DL.ads Δ)) := wo_app h.ads
def PotAt (H : Hp) (l : Addr) : Prop := ∃ x y : Int, H l = some (.lst [.int x, .int y]) ∧ 0 ≤ x ∧ 0 ≤ y ∧ y < 4294967296
def EntOk (K : PySem.W.Frag) (H : Hp) (O : List Addr) (o : Option (Option V)) : Ent → Prop
  | .unk => True
  | .val d => ∃ v, o = some (some v) ∧ Dp K (wo H O) v d
  | .own l ds => o = some (some (.ref l)) ∧ ∃ xs, H l = some (.lst xs) ∧ DpAll K (wo H O) xs ds
  | .pot l => o = some (some (.ref l)) ∧ PotAt H l
  | .exc a => o = some (some (.ref a))
structure Sit0 (K : PySem.W.Frag) (A : List Addr) (H0 H : Hp) (σ : L2.St) (Δ : List Ent) : Prop where
  base : Ex H0 (wo H (ads Δ))
  dom : ∀ a, a ∈ A → H0 a ≠ none
  ents : ∀ (i : Nat) (e : Ent), Δ[i]? = some e → EntOk K H (A ++ ads Δ) (σ[i]?) e
  nd : (ads Δ).Nodup
  len : σ.length = Δ.length
/-- what is wished of errors: cl tells the classes by their names, W is the reading's wish, ex tells which errors may come, by the slots at that time -/
structure Xw where
  cl : Str → Option Value
  W : WX
  ex : Str → List Ent → Prop
/-- no errors -/
abbrev X0 : Xw := ⟨fun _ => none, fun _ _ _ _ => False, fun _ _ => False⟩
structure Sit (K : PySem.W.Frag) (xw : Xw) (A : List Addr) (H0 H : Hp) (σ : L2.St) (Δ : List Ent) : Prop extends Sit0 K A H0 H σ Δ where
  xo : ∀ (n : Str) (C : Addr) (H' : Hp) (σ' : L2.St) (Δ' : List Ent), xw.cl n = some (.ref C) → Sit0 K A H0 H' σ' Δ' → xw.ex n Δ' → xw.W (.ref C) none σ' H'
theorem Sit0.calm {K : PySem.W.Frag} {A : List Addr} {H0 H : Hp} {σ : L2.St} {Δ : List Ent} (E : Sit0 K A H0 H σ Δ) : Sit K X0 A H0 H σ Δ := ⟨E, fun n C H' σ' Δ' h => by cases h⟩
variable {xw : Xw}
theorem ad_mem : ∀ {Δ : List Ent} {i : Nat} {e : Ent} {a : Addr}, Δ[i]? = some e → a ∈ e.ad → a ∈ ads Δ
  | [], _, _, _, h, _ => by simp at h
  | x :: r, 0, e, a, h, m => by
    simp at h; subst h
    exact List.mem_append_left _ m
  | x :: r, i + 1, e, a, h, m => List.mem_append_right _ (ad_mem (i := i) (by simpa using h) m)
theorem mem_ad : ∀ {Δ : List Ent} {a : Addr}, a ∈ ads Δ → ∃ (i : Nat) (e : Ent), Δ[i]? = some e ∧ a ∈ e.ad
  | x :: r, a, h => by
    rcases List.mem_append.mp h with h | h
    · exact ⟨0, x, rfl, h⟩
    · obtain ⟨i, e, h1, h2⟩ := mem_ad h
      exact ⟨i + 1, e, by simpa using h1, h2⟩
section
variable {K : PySem.W.Frag} {A : List Addr} {H0 H H' : Hp} {σ : L2.St} {Δ : List Ent}
/-- an owned address stands in the heap -/
theorem Sit0.live (E : Sit0 K A H0 H σ Δ) {a : Addr} (h : a ∈ ads Δ) : ∃ o, H a = some o := by
  obtain ⟨i, e, h1, h2⟩ := mem_ad h
  have h3 := E.ents i e h1
  cases e with
  | unk => cases h2
  | exc b => cases h2
  | val d => cases h2
  | own l ds =>
    have : a = l := by simpa [Ent.ad] using h2
    subst this
    obtain ⟨_, xs, q, _⟩ := h3
    exact ⟨_, q⟩
  | pot l =>
    have : a = l := by simpa [Ent.ad] using h2
    subst this
    obtain ⟨_, x, y, q, _⟩ := h3
    exact ⟨_, q⟩
theorem Sit0.domA (E : Sit0 K A H0 H σ Δ) {a : Addr} (h : a ∈ A) : ∃ o, wo H (ads Δ) a = some o := by
  obtain ⟨o, q⟩ := ne_none (E.dom a h)
  exact ⟨o, E.base a o q⟩
/-- all avoided addresses stand in the heap -/
theorem Sit0.domAll (E : Sit0 K A H0 H σ Δ) {a : Addr} (h : a ∈ A ++ ads Δ) : H a ≠ none := by
  rcases List.mem_append.mp h with h | h
  · obtain ⟨o, q⟩ := E.domA h
    rw [(wo_some q).2]
    simp
  · obtain ⟨o, q⟩ := E.live h
    rw [q]
    simp
/-- the heap grows, nothing that is tracked changes -/
theorem Sit0.ext (E : Sit0 K A H0 H σ Δ) (e : Ex H H') : Sit0 K A H0 H' σ Δ := by
  refine ⟨fun a o h => wo_le e a o (E.base a o h), E.dom, fun i x hx => ?_, E.nd, E.len⟩
  have h := E.ents i x hx
  cases x with
  | unk => trivial
  | exc a => exact h
  | val d =>
    obtain ⟨v, h1, h2⟩ := h
    exact ⟨v, h1, h2.up (wo_le e)⟩
  | own l ds =>
    obtain ⟨h1, xs, h2, h3⟩ := h
    exact ⟨h1, xs, e _ _ h2, h3.up (wo_le e)⟩
  | pot l =>
    obtain ⟨h1, x, y, h2, h3⟩ := h
    exact ⟨h1, x, y, e _ _ h2, h3⟩
theorem Sit.ext (E : Sit K xw A H0 H σ Δ) (e : Ex H H') : Sit K xw A H0 H' σ Δ := ⟨E.toSit0.ext e, E.xo⟩
/-- a new place is new before -/
theorem Sit0.fresh (E : Sit0 K A H0 H σ Δ) (e : Kp Δ H H') (E' : Sit0 K A H0 H' σ Δ) {l : Addr} (h : H' l = none) : H l = none := by
  cases q : H l with
  | none => rfl
  | some o =>
    by_cases m : l ∈ ads Δ
    · obtain ⟨o', q'⟩ := E'.live m
      rw [h] at q'; cases q'
    · have := (wo_some (e.ads l o (wo_mk m q))).2
      rw [h] at this; cases this
end
theorem ResOk.back {K : PySem.W.Frag} {A : List Addr} {H0 H1 H2 H3 : Hp} {σ : L2.St} {Δ : List Ent} {v : V} {r : Rs} (E1 : Sit0 K A H0 H1 σ Δ) (e : Kp Δ H1 H2) (E2 : Sit0 K A H0 H2 σ Δ) {O : List Addr} (h : ResOk K H2 H3 O v r) : ResOk K H1 H3 O v r := by
  cases r with
  | v d => exact h
  | n ds =>
    obtain ⟨l, xs, h1, h2, h3⟩ := h
    exact ⟨l, xs, h1, E1.fresh e E2 h2, h3⟩
/-! ### the judgements -/
/-- an expression's reading, by data -/
def WEx (K : PySem.W.Frag) (xw : Xw) (te : TE) (Δ : List Ent) (Q : Rs → Prop) : Prop :=
  ∀ (A : List Addr) (H0 H : Hp) (σ : L2.St), Sit K xw A H0 H σ Δ → ∀ Qh : VK,
    (∀ v H' r, Kp Δ H H' → Sit K xw A H0 H' σ Δ → ResOk K H H' (A ++ ads Δ) v r → Q r → Qh v H') → te σ H Qh
def WTx (K : PySem.W.Frag) (xw : Xw) (tt : TT) (Δ : List Ent) (Q : Bool → Prop) : Prop :=
  ∀ (A : List Addr) (H0 H : Hp) (σ : L2.St), Sit K xw A H0 H σ Δ → ∀ Qh : Bool → Hp → Prop,
    (∀ b H', Kp Δ H H' → Sit K xw A H0 H' σ Δ → Q b → Qh b H') → tt σ H Qh
def WAx (K : PySem.W.Frag) (xw : Xw) (ta : TA) (Δ : List Ent) (Q : List PyData → Prop) : Prop :=
  ∀ (A : List Addr) (H0 H : Hp) (σ : L2.St), Sit K xw A H0 H σ Δ → ∀ Qh : List V → Hp → Prop,
    (∀ vs H' ds, Kp Δ H H' → Sit K xw A H0 H' σ Δ → DpAll K (wo H' (A ++ ads Δ)) vs ds → Q ds → Qh vs H') → ta σ H Qh
abbrev WE (K : PySem.W.Frag) (te : TE) (Δ : List Ent) (Q : Rs → Prop) : Prop := WEx K X0 te Δ Q
abbrev WT (K : PySem.W.Frag) (tt : TT) (Δ : List Ent) (Q : Bool → Prop) : Prop := WTx K X0 tt Δ Q
abbrev WA (K : PySem.W.Frag) (ta : TA) (Δ : List Ent) (Q : List PyData → Prop) : Prop := WAx K X0 ta Δ Q
/-- an operation on two data -/
def RD (K : PySem.W.Frag) (r : R2) (d1 d2 : PyData) (Q : Rs → Prop) : Prop :=
  ∀ (A : List Addr) (H : Hp) (v1 v2 : V), Dp K (wo H A) v1 d1 → Dp K (wo H A) v2 d2 → (∀ a, a ∈ A → H a ≠ none) → ∀ Qh : VK,
    (∀ v H' rr, Ex H H' → ResOk K H H' A v rr → Q rr → Qh v H') → r v1 v2 H Qh
def RU1 (K : PySem.W.Frag) (r : V → Hp → VK → Prop) (d1 : PyData) (Q : Rs → Prop) : Prop :=
  ∀ (A : List Addr) (H : Hp) (v1 : V), Dp K (wo H A) v1 d1 → (∀ a, a ∈ A → H a ≠ none) → ∀ Qh : VK,
    (∀ v H' rr, Ex H H' → ResOk K H H' A v rr → Q rr → Qh v H') → r v1 H Qh
def CD (K : PySem.W.Frag) (r : List V → Hp → VK → Prop) (ds : List PyData) (Q : Rs → Prop) : Prop :=
  ∀ (A : List Addr) (H : Hp) (vs : List V), DpAll K (wo H A) vs ds → (∀ a, a ∈ A → H a ≠ none) → ∀ Qh : VK,
    (∀ v H' rr, Ex H H' → ResOk K H H' A v rr → Q rr → Qh v H') → r vs H Qh
section
variable {K : PySem.W.Frag} {Δ : List Ent} {ta tb te : TE} {t u : TT} {Q : Rs → Prop}
theorem we_imp {Q' : Rs → Prop} (h : WEx K xw te Δ Q) (k : ∀ r, Q r → Q' r) : WEx K xw te Δ Q' := fun A H0 H σ E Qh q => h A H0 H σ E Qh fun v H' r e E' ok z => q v H' r e E' ok (k r z)
theorem wt_imp {Q Q' : Bool → Prop} (h : WTx K xw t Δ Q) (k : ∀ r, Q r → Q' r) : WTx K xw t Δ Q' := fun A H0 H σ E Qh q => h A H0 H σ E Qh fun v H' e E' z => q v H' e E' (k v z)
theorem we_var {i : Nat} {d : PyData} (h : Δ[i]? = some (.val d)) (q : Q (.v d)) : WEx K xw (tVar i) Δ Q := fun A H0 H σ E Qh k => by
  obtain ⟨v, e, hd⟩ := E.ents i _ h
  exact ⟨v, e, k v H (.v _) Kp.refl E hd q⟩
theorem we_int {i : Int} (q : Q (.v (.int i))) : WEx K xw (tC (.int i)) Δ Q := fun A H0 H σ E Qh k => k _ H (.v _) Kp.refl E (Dp.int i) q
theorem we_bl {b : Bool} (q : Q (.v (.bool b))) : WEx K xw (tC (.bl b)) Δ Q := fun A H0 H σ E Qh k => k _ H (.v _) Kp.refl E (Dp.bl b) q
theorem we_str {x : Str} (q : Q (.v (.str x))) : WEx K xw (tC (.str x)) Δ Q := fun A H0 H σ E Qh k => k _ H (.v _) Kp.refl E (Dp.str x) q
theorem we_non (q : Q (.v .none)) : WEx K xw (tC .non) Δ Q := fun A H0 H σ E Qh k => k _ H (.v _) Kp.refl E Dp.non q
theorem we_op {r : R2} (h : WEx K xw ta Δ fun x => WEx K xw tb Δ fun y => RD K r x.d y.d Q) : WEx K xw (tOp r ta tb) Δ Q := fun A H0 H σ E Qh k =>
  h A H0 H σ E _ fun v1 H1 r1 e1 E1 o1 w1 => w1 A H0 H1 σ E1 _ fun v2 H2 r2 e2 E2 o2 w2 =>
    w2 (A ++ ads Δ) H2 v1 v2 (o1.dp.up e2.all) o2.dp (fun a m => E2.domAll m) Qh fun v H3 rr e3 o3 q =>
      k v H3 rr ((e1.trans e2).trans (Kp.of e3)) (E2.ext e3) (ResOk.back E.toSit0 (e1.trans e2) E2.toSit0 o3) q
theorem we_un {r : V → Hp → VK → Prop} (h : WEx K xw ta Δ fun x => RU1 K r x.d Q) : WEx K xw (tUn r ta) Δ Q := fun A H0 H σ E Qh k =>
  h A H0 H σ E _ fun v1 H1 r1 e1 E1 o1 w1 => w1 (A ++ ads Δ) H1 v1 o1.dp (fun a m => E1.domAll m) Qh fun v H3 rr e3 o3 q =>
      k v H3 rr (e1.trans (Kp.of e3)) (E1.ext e3) (ResOk.back E.toSit0 e1 E1.toSit0 o3) q
theorem wa_nil {Q : List PyData → Prop} (q : Q []) : WAx K xw tNil Δ Q := fun A H0 H σ E Qh k => k _ H _ Kp.refl E .nil q
theorem wa_cons {tr : TA} {Q : List PyData → Prop} (h : WEx K xw ta Δ fun x => WAx K xw tr Δ fun ds => Q (x.d :: ds)) : WAx K xw (tCons ta tr) Δ Q := fun A H0 H σ E Qh k =>
  h A H0 H σ E _ fun v1 H1 r1 e1 E1 o1 w1 => w1 A H0 H1 σ E1 _ fun vs H2 ds e2 E2 o2 q =>
    k (v1 :: vs) H2 (r1.d :: ds) (e1.trans e2) E2 (.cons (o1.dp.up e2.all) o2) q
theorem we_cb {r : List V → Hp → VK → Prop} {tr : TA} (h : WAx K xw tr Δ fun ds => CD K r ds Q) : WEx K xw (tCB r tr) Δ Q := fun A H0 H σ E Qh k =>
  h A H0 H σ E _ fun vs H1 ds e1 E1 o1 w1 => w1 (A ++ ads Δ) H1 vs o1 (fun a m => E1.domAll m) Qh fun v H3 rr e3 o3 q =>
      k v H3 rr (e1.trans (Kp.of e3)) (E1.ext e3) (ResOk.back E.toSit0 e1 E1.toSit0 o3) q
theorem we_tup {tr : TA} (h : WAx K xw tr Δ fun ds => ds.length ≤ 100000 ∧ Q (.v (.tuple ds))) : WEx K xw (tTup tr) Δ Q := fun A H0 H σ E Qh k =>
  h A H0 H σ E _ fun vs H1 ds e1 E1 o1 ⟨hl, q⟩ => ⟨sz_of (by rw [o1.length]; exact hl), fun p hp => by
    have e2 : Ex H1 (upd H1 p (.tup vs)) := Ex.new hp
    refine k _ _ _ (e1.trans (Kp.of e2)) (E1.ext e2) ?_ q
    exact .tup (.inl (.inl (wo_mk (fun m => E1.domAll m hp) upd_same))) (o1.up (wo_le e2))⟩
theorem res_new {A : List Addr} {H : Hp} {p : Addr} {vs : List V} {ds : List PyData} (hp : H p = none) (hA : ∀ a, a ∈ A → H a ≠ none) (o1 : DpAll K (wo H A) vs ds) : ResOk K H (upd H p (.lst vs)) A (.ref p) (.n ds) := by
  have e2 : Ex H (upd H p (.lst vs)) := Ex.new hp
  refine ⟨p, vs, rfl, hp, fun m => hA p m hp, upd_same, o1.up fun a o z => ?_⟩
  obtain ⟨m, q⟩ := wo_some z
  refine wo_mk (fun m2 => ?_) (e2 a o q)
  rcases List.mem_cons.mp m2 with rfl | m2
  · rw [hp] at q; cases q
  · exact m m2
theorem we_lst {tr : TA} (h : WAx K xw tr Δ fun ds => ds.length ≤ 100000 ∧ Q (.n ds)) : WEx K xw (tLst tr) Δ Q := fun A H0 H σ E Qh k =>
  h A H0 H σ E _ fun vs H1 ds e1 E1 o1 ⟨hl, q⟩ => ⟨sz_of (by rw [o1.length]; exact hl), fun p hp => by
    have e2 : Ex H1 (upd H1 p (.lst vs)) := Ex.new hp
    exact k _ _ _ (e1.trans (Kp.of e2)) (E1.ext e2) (ResOk.back E.toSit0 e1 E1.toSit0 (res_new hp (fun a m => E1.domAll m) o1)) q⟩
/-! ### tests -/
theorem wt_test {Q : Bool → Prop} (h : WEx K xw te Δ fun r => ∃ b, r.d = .bool b ∧ Q b) : WTx K xw (tTest te) Δ Q := fun A H0 H σ E Qh k =>
  h A H0 H σ E _ fun v H1 r e1 E1 o1 ⟨b, hb, q⟩ => by
    have hd := o1.dp
    rw [hb] at hd
    cases hd
    exact ⟨b, rfl, k b H1 e1 E1 q⟩
theorem wt_B {Q : Bool → Prop} (h : WEx K xw te Δ fun r => ∃ b, r.d = .bool b ∧ Q b) : WTx K xw (tB te) Δ Q := fun A H0 H σ E Qh k =>
  h A H0 H σ E _ fun v H1 r e1 E1 o1 ⟨b, hb, q⟩ => by
    have hd := o1.dp
    rw [hb] at hd
    cases hd
    exact ⟨b, rfl, k b H1 e1 E1 q⟩
theorem wt_and {Q : Bool → Prop} (h : WTx K xw t Δ fun a => if a = true then WTx K xw u Δ Q else Q false) : WTx K xw (tAnd t u) Δ Q := fun A H0 H σ E Qh k =>
  h A H0 H σ E _ fun a H1 e1 E1 q => by
    cases a with
    | true => exact q A H0 H1 σ E1 Qh fun b H2 e2 E2 q2 => k b H2 (e1.trans e2) E2 q2
    | false => exact k false H1 e1 E1 q
theorem wt_or {Q : Bool → Prop} (h : WTx K xw t Δ fun a => if a = true then Q true else WTx K xw u Δ Q) : WTx K xw (tOr t u) Δ Q := fun A H0 H σ E Qh k =>
  h A H0 H σ E _ fun a H1 e1 E1 q => by
    cases a with
    | false => exact q A H0 H1 σ E1 Qh fun b H2 e2 E2 q2 => k b H2 (e1.trans e2) E2 q2
    | true => exact k true H1 e1 E1 q
theorem wt_not {Q : Bool → Prop} (h : WTx K xw t Δ fun a => Q (!a)) : WTx K xw (tNot t) Δ Q := fun A H0 H σ E Qh k =>
  h A H0 H σ E _ fun a H1 e1 E1 q => k (!a) H1 e1 E1 q
theorem we_andV (h : WEx K xw ta Δ fun r => ∃ b, r.d = .bool b ∧ if b = true then WEx K xw tb Δ Q else Q (.v (.bool false))) : WEx K xw (tAndV ta tb) Δ Q := fun A H0 H σ E Qh k =>
  h A H0 H σ E _ fun v H1 r e1 E1 o1 ⟨b, hb, q⟩ => by
    have hd := o1.dp
    rw [hb] at hd
    cases hd
    refine ⟨b, rfl, ?_⟩
    cases b with
    | true => exact q A H0 H1 σ E1 Qh fun v2 H2 r2 e2 E2 o2 q2 => k v2 H2 r2 (e1.trans e2) E2 (ResOk.back E.toSit0 e1 E1.toSit0 o2) q2
    | false => exact k _ H1 (.v _) e1 E1 (Dp.bl false) q
theorem we_orV (h : WEx K xw ta Δ fun r => ∃ b, r.d = .bool b ∧ if b = true then Q (.v (.bool true)) else WEx K xw tb Δ Q) : WEx K xw (tOrV ta tb) Δ Q := fun A H0 H σ E Qh k =>
  h A H0 H σ E _ fun v H1 r e1 E1 o1 ⟨b, hb, q⟩ => by
    have hd := o1.dp
    rw [hb] at hd
    cases hd
    refine ⟨b, rfl, ?_⟩
    cases b with
    | false => exact q A H0 H1 σ E1 Qh fun v2 H2 r2 e2 E2 o2 q2 => k v2 H2 r2 (e1.trans e2) E2 (ResOk.back E.toSit0 e1 E1.toSit0 o2) q2
    | true => exact k _ H1 (.v _) e1 E1 (Dp.bl true) q
theorem we_notV (h : WEx K xw ta Δ fun r => ∃ b, r.d = .bool b ∧ Q (.v (.bool (!b)))) : WEx K xw (tNotV ta) Δ Q := fun A H0 H σ E Qh k =>
  h A H0 H σ E _ fun v H1 r e1 E1 o1 ⟨b, hb, q⟩ => by
    have hd := o1.dp
    rw [hb] at hd
    cases hd
    exact ⟨b, rfl, k _ H1 (.v _) e1 E1 (Dp.bl (!b)) q⟩
theorem we_if (h : WTx K xw t Δ fun a => if a = true then WEx K xw ta Δ Q else WEx K xw tb Δ Q) : WEx K xw (tIf t ta tb) Δ Q := fun A H0 H σ E Qh k =>
  h A H0 H σ E _ fun a H1 e1 E1 q => by
    cases a with
    | true => exact q A H0 H1 σ E1 Qh fun v2 H2 r2 e2 E2 o2 q2 => k v2 H2 r2 (e1.trans e2) E2 (ResOk.back E.toSit0 e1 E1.toSit0 o2) q2
    | false => exact q A H0 H1 σ E1 Qh fun v2 H2 r2 e2 E2 o2 q2 => k v2 H2 r2 (e1.trans e2) E2 (ResOk.back E.toSit0 e1 E1.toSit0 o2) q2
end
/-! ### operations -/
section
variable {K : PySem.W.Frag} {Q : Rs → Prop}
theorem ex_id {H : Hp} : Ex H H := fun _ _ z => z
theorem rd_I0 {f : Int → Int → Int} {i j : Int} (q : Q (.v (.int (f i j)))) : RD K (rI0 fun i j => .int (f i j)) (.int i) (.int j) Q := fun A H v1 v2 h1 h2 _ Qh k => by
  cases h1; cases h2
  exact ⟨i, j, rfl, rfl, k _ H (.v _) ex_id (Dp.int _) q⟩
theorem rd_IB {f : Int → Int → Bool} {i j : Int} (q : Q (.v (.bool (f i j)))) : RD K (rI0 fun i j => .bl (f i j)) (.int i) (.int j) Q := fun A H v1 v2 h1 h2 _ Qh k => by
  cases h1; cases h2
  exact ⟨i, j, rfl, rfl, k _ H (.v _) ex_id (Dp.bl _) q⟩
theorem rd_I {C : Int → Int → Prop} {f : Int → Int → Int} {i j : Int} (hc : C i j) (q : Q (.v (.int (f i j)))) : RD K (rI C fun i j => .int (f i j)) (.int i) (.int j) Q := fun A H v1 v2 h1 h2 _ Qh k => by
  cases h1; cases h2
  exact ⟨i, j, rfl, rfl, hc, k _ H (.v _) ex_id (Dp.int _) q⟩
theorem ru_U {f : Int → Int} {i : Int} (q : Q (.v (.int (f i)))) : RU1 K (rU fun i => .int (f i)) (.int i) Q := fun A H v1 h1 _ Qh k => by
  cases h1
  exact ⟨i, rfl, k _ H (.v _) ex_id (Dp.int _) q⟩
theorem rd_eqI {i j : Int} (q : Q (.v (.bool (decide (i = j))))) : RD K rEq (.int i) (.int j) Q := fun A H v1 v2 h1 h2 _ Qh k => by
  cases h1; cases h2
  refine ⟨rfl, k _ H (.v _) ex_id (Dp.bl _) ?_⟩
  have e : decide ((V.int i) = V.int j) = decide (i = j) := by
    by_cases h : i = j
    · subst h; simp
    · simp [h]
  rw [e]
  exact q
theorem rd_neI {i j : Int} (q : Q (.v (.bool (!decide (i = j))))) : RD K rNe (.int i) (.int j) Q := fun A H v1 v2 h1 h2 _ Qh k => by
  cases h1; cases h2
  refine ⟨rfl, k _ H (.v _) ex_id (Dp.bl _) ?_⟩
  have e : decide ((V.int i) = V.int j) = decide (i = j) := by
    by_cases h : i = j
    · subst h; simp
    · simp [h]
  rw [e]
  exact q
theorem rd_eqB {i j : Bool} (q : Q (.v (.bool (decide (i = j))))) : RD K rEq (.bool i) (.bool j) Q := fun A H v1 v2 h1 h2 _ Qh k => by
  cases h1; cases h2
  refine ⟨rfl, k _ H (.v _) ex_id (Dp.bl _) ?_⟩
  have e : decide ((V.bl i) = V.bl j) = decide (i = j) := by cases i <;> cases j <;> rfl
  rw [e]
  exact q
theorem rd_neB {i j : Bool} (q : Q (.v (.bool (!decide (i = j))))) : RD K rNe (.bool i) (.bool j) Q := fun A H v1 v2 h1 h2 _ Qh k => by
  cases h1; cases h2
  refine ⟨rfl, k _ H (.v _) ex_id (Dp.bl _) ?_⟩
  have e : decide ((V.bl i) = V.bl j) = decide (i = j) := by cases i <;> cases j <;> rfl
  rw [e]
  exact q
theorem rd_eqD {d e : PyData} (sd : SeqAt.shaped d = true) (se : SeqAt.shaped e = true) (q : Q (.v (.bool (PyData.eqv d e)))) : RD K (rEqD K) d e Q := fun A H v1 v2 h1 h2 _ Qh k =>
  ⟨d, e, (h1.up wo_ex).l2 sd, (h2.up wo_ex).l2 se, sd, se, k _ H (.v _) ex_id (Dp.bl _) q⟩
theorem rd_neD {d e : PyData} (sd : SeqAt.shaped d = true) (se : SeqAt.shaped e = true) (q : Q (.v (.bool (!PyData.eqv d e)))) : RD K (rNeD K) d e Q := fun A H v1 v2 h1 h2 _ Qh k =>
  ⟨d, e, (h1.up wo_ex).l2 sd, (h2.up wo_ex).l2 se, sd, se, k _ H (.v _) ex_id (Dp.bl _) q⟩
theorem rd_inD {d : PyData} {ds : List PyData} (sd : SeqAt.shaped d = true) (se : SeqAt.shaped (.list ds) = true) (q : Q (.v (.bool (ds.any fun z => PyData.eqv z d)))) : RD K (rInD K) d (.list ds) Q := fun A H v1 v2 h1 h2 _ Qh k =>
  ⟨d, ds, (h1.up wo_ex).l2 sd, (h2.up wo_ex).l2 se, sd, se, k _ H (.v _) ex_id (Dp.bl _) q⟩
theorem rd_notInD {d : PyData} {ds : List PyData} (sd : SeqAt.shaped d = true) (se : SeqAt.shaped (.list ds) = true) (q : Q (.v (.bool (!ds.any fun z => PyData.eqv z d)))) : RD K (rNotInD K) d (.list ds) Q := fun A H v1 v2 h1 h2 _ Qh k =>
  ⟨d, ds, (h1.up wo_ex).l2 sd, (h2.up wo_ex).l2 se, sd, se, k _ H (.v _) ex_id (Dp.bl _) q⟩
theorem rd_ixL {ds : List PyData} {i : Int} {d : PyData} (h : atI ds i = some d) (q : Q (.v d)) : RD K (rIxL K) (.list ds) (.int i) Q := fun A H v1 v2 h1 h2 _ Qh k => by
  cases h2
  cases h1 with
  | lst hs ha =>
    obtain ⟨v, e, hd⟩ := ha.at h
    exact ⟨_, _, i, v, rfl, rfl, ex_l wo_ex hs, e, k v H (.v _) ex_id hd q⟩
theorem rd_ixT {ds : List PyData} {i : Int} {d : PyData} (h : atI ds i = some d) (q : Q (.v d)) : RD K (rIxT K) (.tuple ds) (.int i) Q := fun A H v1 v2 h1 h2 _ Qh k => by
  cases h2
  cases h1 with
  | tup hs ha =>
    obtain ⟨v, e, hd⟩ := ha.at h
    exact ⟨_, _, i, v, rfl, rfl, ex_t wo_ex hs, e, k v H (.v _) ex_id hd q⟩
/-! ### built-ins -/
theorem cd_abs {i : Int} (q : Q (.v (.int (if i < 0 then -i else i)))) : CD K (fun xs H Q => ∃ i, xs = [.int i] ∧ Q (.int (if i < 0 then -i else i)) H) [.int i] Q := fun A H vs h _ Qh k => by
  cases h with | cons h1 h2 => cases h1; cases h2; exact ⟨i, rfl, k _ H (.v _) ex_id (Dp.int _) q⟩
theorem cd_max2 {i j : Int} (q : Q (.v (.int (if j > i then j else i)))) : CD K (fun xs H Q => ∃ i j, xs = [.int i, .int j] ∧ Q (.int (if j > i then j else i)) H) [.int i, .int j] Q := fun A H vs h _ Qh k => by
  cases h with | cons h1 h2 => cases h1; cases h2 with | cons h3 h4 => cases h3; cases h4; exact ⟨i, j, rfl, k _ H (.v _) ex_id (Dp.int _) q⟩
theorem cd_lenL {ds : List PyData} (q : Q (.v (.int ds.length))) : CD K (fun xs H Q => ∃ p ys, xs = [.ref p] ∧ (SqL K H p ys ∨ SqT K H p ys) ∧ Q (.int ys.length) H) [.list ds] Q := fun A H vs h _ Qh k => by
  cases h with | cons h1 h2 =>
    cases h2
    cases h1 with | lst hs ha => exact ⟨_, _, rfl, .inl (ex_l wo_ex hs), k _ H (.v _) ex_id (by rw [ha.length]; exact Dp.int _) q⟩
theorem cd_lenT {ds : List PyData} (q : Q (.v (.int ds.length))) : CD K (fun xs H Q => ∃ p ys, xs = [.ref p] ∧ (SqL K H p ys ∨ SqT K H p ys) ∧ Q (.int ys.length) H) [.tuple ds] Q := fun A H vs h _ Qh k => by
  cases h with | cons h1 h2 =>
    cases h2
    cases h1 with | tup hs ha => exact ⟨_, _, rfl, .inr (ex_t wo_ex hs), k _ H (.v _) ex_id (by rw [ha.length]; exact Dp.int _) q⟩
theorem cd_listL {ds : List PyData} (q : Q (.n ds)) : CD K (fun xs H Q => ∃ p ys, xs = [.ref p] ∧ (SqL K H p ys ∨ SqT K H p ys) ∧ ∀ l, H l = none → Q (.ref l) (upd H l (.lst ys))) [.list ds] Q := fun A H vs h hA Qh k => by
  cases h with | cons h1 h2 =>
    cases h2
    cases h1 with | lst hs ha => exact ⟨_, _, rfl, .inl (ex_l wo_ex hs), fun l hl => k _ _ _ (Ex.new hl) (res_new hl hA ha) q⟩
theorem cd_any {bs : List Bool} (q : Q (.v (.bool (bs.any id)))) : CD K (rAny K) [.list (bs.map .bool)] Q := fun A H vs h _ Qh k => by
  cases h with | cons h1 h2 =>
    cases h2
    cases h1 with | lst hs ha =>
      have := ha.bls_inv
      subst this
      exact ⟨_, bs, rfl, ex_l wo_ex hs, k _ H (.v _) ex_id (Dp.bl _) q⟩
theorem cd_all {bs : List Bool} (q : Q (.v (.bool (bs.all id)))) : CD K (rAll K) [.list (bs.map .bool)] Q := fun A H vs h _ Qh k => by
  cases h with | cons h1 h2 =>
    cases h2
    cases h1 with | lst hs ha =>
      have := ha.bls_inv
      subst this
      exact ⟨_, bs, rfl, ex_l wo_ex hs, k _ H (.v _) ex_id (Dp.bl _) q⟩
theorem cd_divmod {i j : Int} (hc : CDivP i j) (q : Q (.v (.tuple [.int (i / j), .int (i % j)]))) : CD K (fun xs H Q => ∃ i j, xs = [.int i, .int j] ∧ CDivP i j ∧ ∀ p, H p = none → Q (.ref p) (upd H p (.tup [.int (i / j), .int (i % j)]))) [.int i, .int j] Q := fun A H vs h hA Qh k => by
  cases h with | cons h1 h2 => cases h1; cases h2 with | cons h3 h4 =>
    cases h3; cases h4
    exact ⟨i, j, rfl, hc, fun p hp => k _ _ (.v _) (Ex.new hp) (Dp.tup (.inl (.inl (wo_mk (fun m => hA p m hp) upd_same))) (.cons (.int _) (.cons (.int _) .nil))) q⟩
end
end DL

set_option Elab.async false
set_option linter.all false
set_option maxRecDepth 100000
/-! DL2: statements, loops, comprehensions, defs, at the data level. -/
namespace DL
open PySem L2 Evl
variable {xw : Xw}
/-! ### the slots -/
theorem ads_set_mem : ∀ {Δ : List Ent} {i : Nat} {e : Ent} {a : Addr}, a ∈ ads (Δ.set i e) → a ∈ e.ad ∨ a ∈ ads Δ
  | [], _, _, _, h => by simp [ads] at h
  | x :: r, 0, e, a, h => by
    rcases List.mem_append.mp (show a ∈ e.ad ++ ads r from h) with h | h
    · exact .inl h
    · exact .inr (List.mem_append_right _ h)
  | x :: r, i + 1, e, a, h => by
    rcases List.mem_append.mp (show a ∈ x.ad ++ ads (r.set i e) from h) with h | h
    · exact .inr (List.mem_append_left _ h)
    · rcases ads_set_mem h with h | h
      · exact .inl h
      · exact .inr (List.mem_append_right _ h)
theorem ads_set_nd : ∀ {Δ : List Ent} {i : Nat} {e : Ent}, (ads Δ).Nodup → e.ad.Nodup → (∀ a, a ∈ e.ad → a ∉ ads Δ) → (ads (Δ.set i e)).Nodup
  | [], _, _, _, _, _ => by simp [ads]
  | x :: r, 0, e, h, he, hd => by
    show (e.ad ++ ads r).Nodup
    rw [List.nodup_append]
    refine ⟨he, (List.nodup_append.mp h).2.1, fun a ha b hb z => ?_⟩
    subst z
    exact hd a ha (List.mem_append_right _ hb)
  | x :: r, i + 1, e, h, he, hd => by
    show (x.ad ++ ads (r.set i e)).Nodup
    have h2 := List.nodup_append.mp (show (x.ad ++ ads r).Nodup from h)
    rw [List.nodup_append]
    refine ⟨h2.1, ads_set_nd h2.2.1 he (fun a ha m => hd a ha (List.mem_append_right _ m)), fun a ha b hb z => ?_⟩
    subst z
    rcases ads_set_mem hb with hb | hb
    · exact hd a hb (List.mem_append_left _ ha)
    · exact h2.2.2 a ha a hb rfl
theorem ads_set_eq : ∀ {Δ : List Ent} {i : Nat} {e f : Ent}, Δ[i]? = some e → f.ad = e.ad → ads (Δ.set i f) = ads Δ
  | [], _, _, _, h, _ => by simp at h
  | x :: r, 0, e, f, h, k => by
    simp at h; subst h
    show f.ad ++ ads r = x.ad ++ ads r
    rw [k]
  | x :: r, i + 1, e, f, h, k => by
    show x.ad ++ ads (r.set i f) = x.ad ++ ads r
    rw [ads_set_eq (i := i) (by simpa using h) k]
theorem mem_pt : ∀ {Δ : List Ent} {a : Addr}, a ∈ pts Δ → ∃ (i : Nat) (e : Ent), Δ[i]? = some e ∧ a ∈ e.pt
  | x :: r, a, h => by
    rcases List.mem_append.mp (show a ∈ x.pt ++ pts r from h) with h | h
    · exact ⟨0, x, rfl, h⟩
    · obtain ⟨i, e, h1, h2⟩ := mem_pt h
      exact ⟨i + 1, e, by simpa using h1, h2⟩
theorem pt_ad {e : Ent} {a : Addr} (h : a ∈ e.pt) : a ∈ e.ad := by
  cases e with
  | pot l => exact h
  | unk => cases h
  | exc b => cases h
  | val d => cases h
  | own l ds => cases h
/-- two slots do not own one address -/
theorem ads_two : ∀ {Δ : List Ent} {i j : Nat} {e f : Ent} {a : Addr}, (ads Δ).Nodup → Δ[i]? = some e → Δ[j]? = some f → a ∈ e.ad → a ∈ f.ad → i = j
  | [], _, _, _, _, _, _, h, _, _, _ => by simp at h
  | x :: r, 0, 0, _, _, _, _, _, _, _, _ => rfl
  | x :: r, 0, j + 1, e, f, a, h, h1, h2, m1, m2 => by
    simp at h1; subst h1
    have h3 := List.nodup_append.mp (show (x.ad ++ ads r).Nodup from h)
    exact absurd rfl (h3.2.2 a m1 a (ad_mem (i := j) (by simpa using h2) m2))
  | x :: r, i + 1, 0, e, f, a, h, h1, h2, m1, m2 => by
    simp at h2; subst h2
    have h3 := List.nodup_append.mp (show (x.ad ++ ads r).Nodup from h)
    exact absurd rfl (h3.2.2 a m2 a (ad_mem (i := i) (by simpa using h1) m1))
  | x :: r, i + 1, j + 1, e, f, a, h, h1, h2, m1, m2 => by
    have h3 := List.nodup_append.mp (show (x.ad ++ ads r).Nodup from h)
    rw [ads_two (i := i) (j := j) h3.2.1 (by simpa using h1) (by simpa using h2) m1 m2]
section
variable {K : PySem.W.Frag} {A : List Addr} {H0 H H' : Hp} {σ : L2.St} {Δ : List Ent}
theorem EntOk.up {O O' : List Addr} {o : Option (Option V)} {e : Ent} (h : EntOk K H O o e) (k : Ex (wo H O) (wo H O')) : EntOk K H O' o e := by
  cases e with
  | unk => trivial
  | exc b => exact h
  | val d => obtain ⟨v, h1, h2⟩ := h; exact ⟨v, h1, h2.up k⟩
  | own l ds => obtain ⟨h1, xs, h2, h3⟩ := h; exact ⟨h1, xs, h2, h3.up k⟩
  | pot l => exact h
/-- a store of a thing -/
theorem Sit0.setV (E : Sit0 K A H0 H σ Δ) {i : Nat} {v : V} {d : PyData} (h : Dp K (wo H (A ++ ads Δ)) v d) : Sit0 K A H0 H (σ.set i (some v)) (Δ.set i (.val d)) := by
  have sub : ∀ a, a ∈ ads (Δ.set i (.val d)) → a ∈ ads Δ := fun a m => (ads_set_mem m).elim (fun z => by cases z) id
  have subA : ∀ a, a ∈ A ++ ads (Δ.set i (.val d)) → a ∈ A ++ ads Δ := fun a m => (List.mem_append.mp m).elim (fun z => List.mem_append_left _ z) fun z => List.mem_append_right _ (sub a z)
  refine ⟨fun a o z => wo_sub sub a o (E.base a o z), E.dom, fun j e hj => ?_, ads_set_nd E.nd (by simp [Ent.ad]) (fun a z => by cases z), by rw [List.length_set, List.length_set]; exact E.len⟩
  by_cases hij : i = j
  · subst hij
    have hl : i < Δ.length := by
      have := (List.getElem?_eq_some_iff.mp hj).1
      rwa [List.length_set] at this
    rw [List.getElem?_set_self hl] at hj
    cases hj
    exact ⟨v, List.getElem?_set_self (by rw [E.len]; exact hl), h.up (wo_sub subA)⟩
  · rw [List.getElem?_set_ne hij] at hj
    rw [List.getElem?_set_ne hij]
    exact (E.ents j e hj).up (wo_sub subA)
theorem Sit.setV (E : Sit K xw A H0 H σ Δ) {i : Nat} {v : V} {d : PyData} (h : Dp K (wo H (A ++ ads Δ)) v d) : Sit K xw A H0 H (σ.set i (some v)) (Δ.set i (.val d)) := ⟨E.toSit0.setV h, E.xo⟩
/-- a store of a list that is new -/
theorem Sit0.setN {H1 : Hp} (E1 : Sit0 K A H0 H1 σ Δ) (e1 : Kp Δ H1 H) (E : Sit0 K A H0 H σ Δ) {i : Nat} {l : Addr} {x : Ent} (hx : x.ad = [l]) (hn : H1 l = none) (hA : l ∉ A ++ ads Δ)
    (hok : EntOk K H (A ++ ads (Δ.set i x)) (some (some (.ref l))) x) : Sit0 K A H0 H (σ.set i (some (.ref l))) (Δ.set i x) := by
  have h0 : H0 l = none := by
    cases q : H0 l with
    | none => rfl
    | some o =>
      have := (wo_some (E1.base l o q)).2
      rw [hn] at this; cases this
  have mem : ∀ a, a ∈ ads (Δ.set i x) → a = l ∨ a ∈ ads Δ := fun a m => (ads_set_mem m).elim (fun z => .inl (by rw [hx] at z; simpa using z)) .inr
  have lA : l ∉ A := fun m => hA (List.mem_append_left _ m)
  have lD : l ∉ ads Δ := fun m => hA (List.mem_append_right _ m)
  refine ⟨fun a o z => ?_, E.dom, fun j e hj => ?_, ads_set_nd E.nd (by rw [hx]; simp) (fun a z => by rw [hx] at z; rw [List.mem_singleton.mp z]; exact lD), by rw [List.length_set, List.length_set]; exact E.len⟩
  · have m := wo_some (E.base a o z)
    refine wo_mk (fun q => ?_) m.2
    rcases mem a q with rfl | q
    · rw [h0] at z; cases z
    · exact m.1 q
  · by_cases hij : i = j
    · subst hij
      have hl : i < Δ.length := by
        have := (List.getElem?_eq_some_iff.mp hj).1
        rwa [List.length_set] at this
      rw [List.getElem?_set_self hl] at hj
      cases hj
      rw [List.getElem?_set_self (by rw [E.len]; exact hl)]
      exact hok
    · rw [List.getElem?_set_ne hij] at hj
      rw [List.getElem?_set_ne hij]
      have old := E1.ents j e hj
      have now := E.ents j e hj
      have lift : Ex (wo H1 (A ++ ads Δ)) (wo H (A ++ ads (Δ.set i x))) := fun a o z => by
        obtain ⟨m, q⟩ := wo_some z
        have m2 := e1.all (A := A) a o z
        refine wo_mk (fun w => ?_) (wo_some m2).2
        rcases List.mem_append.mp w with w | w
        · exact m (List.mem_append_left _ w)
        · rcases mem a w with rfl | w
          · rw [hn] at q; cases q
          · exact m (List.mem_append_right _ w)
      cases e with
      | unk => trivial
      | exc b => exact old
      | val d =>
        obtain ⟨v, h1, h2⟩ := old
        exact ⟨v, h1, h2.up lift⟩
      | own l2 ds =>
        obtain ⟨h1, xs, h2, h3⟩ := old
        have np : l2 ∉ pts Δ := fun m => by
          obtain ⟨j2, f, g1, g2⟩ := mem_pt m
          have hf : l2 ∈ f.ad := pt_ad g2
          have := ads_two E.nd hj g1 (show l2 ∈ (Ent.own l2 ds).ad by simp [Ent.ad]) hf
          subst this
          rw [hj] at g1
          cases g1
          cases g2
        exact ⟨h1, xs, (wo_some (e1 l2 _ (wo_mk np h2))).2, h3.up lift⟩
      | pot l2 => exact now
theorem Sit.setN {H1 : Hp} (E1 : Sit K xw A H0 H1 σ Δ) (e1 : Kp Δ H1 H) (E : Sit K xw A H0 H σ Δ) {i : Nat} {l : Addr} {x : Ent} (hx : x.ad = [l]) (hn : H1 l = none) (hA : l ∉ A ++ ads Δ)
    (hok : EntOk K H (A ++ ads (Δ.set i x)) (some (some (.ref l))) x) : Sit K xw A H0 H (σ.set i (some (.ref l))) (Δ.set i x) := ⟨E1.toSit0.setN e1 E.toSit0 hx hn hA hok, E.xo⟩
/-- an owned list given up: a thing from then on -/
theorem Sit0.freeze (E : Sit0 K A H0 H σ Δ) {i : Nat} {l : Addr} {ds : List PyData} (h : Δ[i]? = some (.own l ds)) : Sit0 K A H0 H σ (Δ.set i (.val (.list ds))) := by
  obtain ⟨h1, xs, h2, h3⟩ := E.ents i _ h
  have sub : ∀ a, a ∈ ads (Δ.set i (.val (.list ds))) → a ∈ ads Δ := fun a m => (ads_set_mem m).elim (fun z => by cases z) id
  have subA : ∀ a, a ∈ A ++ ads (Δ.set i (.val (.list ds))) → a ∈ A ++ ads Δ := fun a m => (List.mem_append.mp m).elim (fun z => List.mem_append_left _ z) fun z => List.mem_append_right _ (sub a z)
  have hl : i < Δ.length := (List.getElem?_eq_some_iff.mp h).1
  refine ⟨fun a o z => wo_sub sub a o (E.base a o z), E.dom, fun j e hj => ?_, ads_set_nd E.nd (by simp [Ent.ad]) (fun a z => by cases z), by rw [List.length_set]; exact E.len⟩
  by_cases hij : i = j
  · subst hij
    rw [List.getElem?_set_self hl] at hj
    cases hj
    refine ⟨.ref l, h1, .lst (.inl (.inl (wo_mk (fun m => ?_) h2))) (h3.up (wo_sub subA))⟩
    rcases List.mem_append.mp m with m | m
    · obtain ⟨o, q⟩ := E.domA m
      exact (wo_some q).1 (ad_mem h (by simp [Ent.ad]))
    · obtain ⟨j, f, g1, g2⟩ := mem_ad m
      by_cases hj : i = j
      · subst hj
        rw [List.getElem?_set_self hl] at g1
        cases g1
        cases g2
      · rw [List.getElem?_set_ne hj] at g1
        exact hj (ads_two E.nd h g1 (by simp [Ent.ad]) g2)
  · rw [List.getElem?_set_ne hij] at hj
    exact (E.ents j e hj).up (wo_sub subA)
theorem Sit.freeze (E : Sit K xw A H0 H σ Δ) {i : Nat} {l : Addr} {ds : List PyData} (h : Δ[i]? = some (.own l ds)) : Sit K xw A H0 H σ (Δ.set i (.val (.list ds))) := ⟨E.toSit0.freeze h, E.xo⟩
/-- an owned list changed: its new items are things -/
theorem Sit0.setO (E : Sit0 K A H0 H σ Δ) {i : Nat} {l : Addr} {ds ds' : List PyData} {xs : List V} (h : Δ[i]? = some (.own l ds)) (hd : DpAll K (wo H (A ++ ads Δ)) xs ds') : Sit0 K A H0 (upd H l (.lst xs)) σ (Δ.set i (.own l ds')) := by
  have hl : i < Δ.length := (List.getElem?_eq_some_iff.mp h).1
  have hin : l ∈ ads Δ := ad_mem h (by simp [Ent.ad])
  have same : ads (Δ.set i (.own l ds')) = ads Δ := ads_set_eq h rfl
  have keep : ∀ {O : List Addr}, l ∈ O → Ex (wo H O) (wo (upd H l (.lst xs)) O) := fun {O} hm a o z => by
    obtain ⟨m, q⟩ := wo_some z
    refine wo_mk m ?_
    rw [upd_ne (fun e => m (by rw [e]; exact hm))]
    exact q
  have k1 := keep hin
  have k2 : Ex (wo H (A ++ ads Δ)) (wo (upd H l (.lst xs)) (A ++ ads Δ)) := keep (List.mem_append_right _ hin)
  refine ⟨fun a o z => by rw [same]; exact k1 a o (E.base a o z), E.dom, fun j e hj => ?_, by rw [same]; exact E.nd, by rw [List.length_set]; exact E.len⟩
  rw [same]
  by_cases hij : i = j
  · subst hij
    rw [List.getElem?_set_self hl] at hj
    cases hj
    obtain ⟨h1, _⟩ := E.ents i _ h
    exact ⟨h1, xs, upd_same, hd.up k2⟩
  · rw [List.getElem?_set_ne hij] at hj
    have old := E.ents j e hj
    have ne : ∀ l2, l2 ∈ e.ad → l2 ≠ l := fun l2 m z => hij (ads_two E.nd h hj (show l ∈ (Ent.own l ds).ad by simp [Ent.ad]) (by rw [← z]; exact m))
    cases e with
    | unk => trivial
    | exc b => exact old
    | val d => obtain ⟨v, h1, h2⟩ := old; exact ⟨v, h1, h2.up k2⟩
    | own l2 es =>
      obtain ⟨h1, ys, h2, h3⟩ := old
      exact ⟨h1, ys, by rw [upd_ne (ne l2 (by simp [Ent.ad]))]; exact h2, h3.up k2⟩
    | pot l2 =>
      obtain ⟨h1, x, y, h2, h3⟩ := old
      exact ⟨h1, x, y, by rw [upd_ne (ne l2 (by simp [Ent.ad]))]; exact h2, h3⟩
theorem Sit.setO (E : Sit K xw A H0 H σ Δ) {i : Nat} {l : Addr} {ds ds' : List PyData} {xs : List V} (h : Δ[i]? = some (.own l ds)) (hd : DpAll K (wo H (A ++ ads Δ)) xs ds') : Sit K xw A H0 (upd H l (.lst xs)) σ (Δ.set i (.own l ds')) := ⟨E.toSit0.setO h hd, E.xo⟩
/-- another base -/
theorem Sit0.debase {H1 : Hp} (E : Sit0 K A H1 H σ Δ) (e : Ex H0 H1) (hd : ∀ a, a ∈ A → H0 a ≠ none) : Sit0 K A H0 H σ Δ := ⟨fun a o z => E.base a o (e a o z), hd, E.ents, E.nd, E.len⟩
theorem Sit.rebase (E : Sit K xw A H0 H σ Δ) : Sit K xw A (wo H (ads Δ)) H σ Δ := ⟨⟨fun _ _ z => z, fun a m => by obtain ⟨o, q⟩ := E.domA m; rw [q]; simp, E.ents, E.nd, E.len⟩, fun n C H' σ' Δ' h E' q => E.xo n C H' σ' Δ' h (E'.debase E.base E.dom) q⟩
theorem Sit.debase {H1 H2 : Hp} {σ2 : L2.St} {Δ2 : List Ent} (E : Sit K xw A H1 H σ Δ) (e : Ex H0 H1) (E0 : Sit K xw A H0 H2 σ2 Δ2) : Sit K xw A H0 H σ Δ := ⟨E.toSit0.debase e E0.dom, E0.xo⟩
end
/-! ### statements -/
structure Post where
  nx : List Ent → Prop
  rt : Rs → Prop
  bk : List Ent → Prop := fun _ => False
  ct : List Ent → Prop := fun _ => False
  ps : List Addr := []
def WSx (K : PySem.W.Frag) (xw : Xw) (ts : TS) (Δ : List Ent) (P : Post) : Prop :=
  ∀ (A : List Addr) (H0 H : Hp) (σ : L2.St) (D : Ends), Sit K xw A H0 H σ Δ →
    (∀ H' σ' Δ', Sit K xw A H0 H' σ' Δ' → P.nx Δ' → D.nx σ' H') →
    (∀ H' v r, Ex H0 (wo H' P.ps) → (∀ p, p ∈ P.ps → PotAt H' p) → ResOk K H0 H' (A ++ P.ps) v r → P.rt r → D.rt v H') →
    (∀ H' σ' Δ', Sit K xw A H0 H' σ' Δ' → P.bk Δ' → D.bk σ' H') →
    (∀ H' σ' Δ', Sit K xw A H0 H' σ' Δ' → P.ct Δ' → D.ct σ' H') → ts D σ H
abbrev WS (K : PySem.W.Frag) (ts : TS) (Δ : List Ent) (P : Post) : Prop := WSx K X0 ts Δ P
/-- a target -/
def WGx (K : PySem.W.Frag) (xw : Xw) (g : TG) (d : PyData) (Δ : List Ent) (N : List Ent → Prop) : Prop :=
  ∀ (A : List Addr) (H0 H : Hp) (σ : L2.St) (v : V), Sit K xw A H0 H σ Δ → Dp K (wo H (A ++ ads Δ)) v d → ∀ Qh : L2.St → Hp → Prop,
    (∀ H' σ' Δ', Sit K xw A H0 H' σ' Δ' → Ex (wo H (A ++ ads Δ)) (wo H' (A ++ ads Δ')) → N Δ' → Qh σ' H') → g v σ H Qh
def WGsx (K : PySem.W.Frag) (xw : Xw) (g : TGs) (ds : List PyData) (Δ : List Ent) (N : List Ent → Prop) : Prop :=
  ∀ (A : List Addr) (H0 H : Hp) (σ : L2.St) (vs : List V), Sit K xw A H0 H σ Δ → DpAll K (wo H (A ++ ads Δ)) vs ds → ∀ Qh : L2.St → Hp → Prop,
    (∀ H' σ' Δ', Sit K xw A H0 H' σ' Δ' → Ex (wo H (A ++ ads Δ)) (wo H' (A ++ ads Δ')) → N Δ' → Qh σ' H') → g vs σ H Qh
section
variable {K : PySem.W.Frag} {Δ : List Ent} {ta tb te : TE} {t u : TT} {P : Post} {ts tr : TS} {N : List Ent → Prop}
theorem wg_name {i : Nat} {d : PyData} (q : N (Δ.set i (.val d))) : WGx K xw (gName i) d Δ N := fun A H0 H σ v E h Qh k =>
  k H _ _ (E.setV h) (wo_sub fun a m => (List.mem_append.mp m).elim (fun z => List.mem_append_left _ z) fun z => List.mem_append_right _ ((ads_set_mem z).elim (fun z => by cases z) id)) q
theorem wgs_nil (q : N Δ) : WGsx K xw gNil [] Δ N := fun A H0 H σ vs E h Qh k => by
  cases h
  exact ⟨rfl, k H σ Δ E (fun _ _ z => z) q⟩
theorem wgs_cons {g : TG} {gs : TGs} {d : PyData} {ds : List PyData} (h : WGx K xw g d Δ fun Δ' => WGsx K xw gs ds Δ' N) : WGsx K xw (gCons g gs) (d :: ds) Δ N := fun A H0 H σ vs E hd Qh k => by
  cases hd with
  | cons h1 h2 =>
    exact ⟨_, _, rfl, h A H0 H σ _ E h1 _ fun H1 σ1 Δ1 E1 x1 w => w A H0 H1 σ1 _ E1 (h2.up x1) Qh fun H2 σ2 Δ2 E2 x2 n => k H2 σ2 Δ2 E2 (fun a o z => x2 a o (x1 a o z)) n⟩
theorem wg_tup {n : Nat} {gs : TGs} {ds : List PyData} (hn : ds.length = n) (h : WGsx K xw gs ds Δ N) : WGx K xw (gTup K n gs) (.tuple ds) Δ N := fun A H0 H σ v E hd Qh k => by
  cases hd with
  | tup hs ha => exact ⟨_, _, rfl, ex_t wo_ex hs, by rw [ha.length]; exact hn, h A H0 H σ _ E ha Qh k⟩
theorem ws_next (h : P.nx Δ) : WSx K xw tNext Δ P := fun A H0 H σ D E n _ _ _ => n H σ Δ E h
theorem ws_seq (h : WSx K xw ts Δ { P with nx := fun Δ' => WSx K xw tr Δ' P }) : WSx K xw (tSeq ts tr) Δ P := fun A H0 H σ D E n r b c =>
  h A H0 H σ { D with nx := tr D } E (fun H' σ' Δ' E' w => w A H0 H' σ' D E' n r b c) r b c
theorem ws_break (h : P.bk Δ) : WSx K xw tBreak Δ P := fun A H0 H σ D E _ _ b _ => b H σ Δ E h
theorem ws_cont (h : P.ct Δ) : WSx K xw tCont Δ P := fun A H0 H σ D E _ _ _ c => c H σ Δ E h
theorem ws_drop (h : WEx K xw te Δ fun _ => P.nx Δ) : WSx K xw (tDrop te) Δ P := fun A H0 H σ D E n _ _ _ =>
  h A H0 H σ E _ fun v H' r e E' ok q => n H' σ Δ E' q
theorem ws_if (h : WTx K xw t Δ fun b => if b = true then WSx K xw ts Δ P else WSx K xw tr Δ P) : WSx K xw (tIfS t ts tr) Δ P := fun A H0 H σ D E n r b c =>
  h A H0 H σ E _ fun x H' e E' q => by
    cases x with
    | true => exact q A H0 H' σ D E' n r b c
    | false => exact q A H0 H' σ D E' n r b c
theorem ws_asg {i : Nat} (h : WEx K xw te Δ fun r => P.nx (Δ.set i (.val r.d))) : WSx K xw (tAsg te (gName i)) Δ P := fun A H0 H σ D E n _ _ _ =>
  h A H0 H σ E _ fun v H' r e E' ok q => n H' _ _ (E'.setV ok.dp) q
theorem ws_asgG {g : TG} (h : WEx K xw te Δ fun r => WGx K xw g r.d Δ P.nx) : WSx K xw (tAsg te g) Δ P := fun A H0 H σ D E n _ _ _ =>
  h A H0 H σ E _ fun v H' r e E' ok q => q A H0 H' σ v E' ok.dp _ fun H2 σ2 Δ2 E2 _ w => n H2 σ2 Δ2 E2 w
/-- x = a list that is new, to be changed -/
theorem ws_asgN {i : Nat} (h : WEx K xw te Δ fun r => ∃ ds, r = .n ds ∧ ∀ l, P.nx (Δ.set i (.own l ds))) : WSx K xw (tAsg te (gName i)) Δ P := fun A H0 H σ D E n _ _ _ =>
  h A H0 H σ E _ fun v H' r e E' ok ⟨ds, hr, q⟩ => by
    subst hr
    obtain ⟨l, xs, rfl, h1, h2, h3, h4⟩ := ok
    refine n H' _ _ (E.setN (x := .own l ds) e E' rfl h1 h2 ⟨rfl, xs, h3, h4.up (wo_sub fun a m => ?_)⟩) (q l)
    rcases List.mem_append.mp m with m | m
    · exact List.mem_cons_of_mem _ (List.mem_append_left _ m)
    · rcases ads_set_mem m with m | m
      · rw [show a = l by simpa [Ent.ad] using m]
        exact List.mem_cons_self
      · exact List.mem_cons_of_mem _ (List.mem_append_right _ m)
/-- x = a pot -/
theorem ws_asgP {i : Nat} (h : WEx K xw te Δ fun r => ∃ x y : Int, r = .n [.int x, .int y] ∧ 0 ≤ x ∧ 0 ≤ y ∧ y < 4294967296 ∧ ∀ l, P.nx (Δ.set i (.pot l))) : WSx K xw (tAsg te (gName i)) Δ P := fun A H0 H σ D E n _ _ _ =>
  h A H0 H σ E _ fun v H' r e E' ok ⟨x, y, hr, b1, b2, b3, q⟩ => by
    subst hr
    obtain ⟨l, xs, rfl, h1, h2, h3, h4⟩ := ok
    cases h4 with | cons g1 g2 => cases g1; cases g2 with | cons g3 g4 =>
      cases g3; cases g4
      exact n H' _ _ (E.setN (x := .pot l) e E' rfl h1 h2 ⟨rfl, x, y, h3, b1, b2, b3⟩) (q l)
/-- the owned list is given up -/
theorem ws_freeze {i : Nat} {l : Addr} {ds : List PyData} (h : Δ[i]? = some (.own l ds)) (w : WSx K xw ts (Δ.set i (.val (.list ds))) P) : WSx K xw ts Δ P := fun A H0 H σ D E n r b c => w A H0 H σ D (E.freeze h) n r b c
def PotsIn (ps : List Addr) (Δ : List Ent) : Prop := ∀ p, p ∈ ps → ∃ j : Nat, Δ[j]? = some (.pot p)
theorem pots_nil {Δ : List Ent} : PotsIn [] Δ := fun p h => by cases h
theorem pots_one {p : Addr} {Δ : List Ent} (j : Nat) (h : Δ[j]? = some (.pot p)) : PotsIn [p] Δ := fun q m => by
  rw [List.mem_singleton.mp m]
  exact ⟨j, h⟩
theorem Sit.pots {A : List Addr} {H0 H : Hp} {σ : L2.St} {ps : List Addr} (E : Sit K xw A H0 H σ Δ) (hp : PotsIn ps Δ) : (∀ p, p ∈ ps → p ∈ ads Δ) ∧ (∀ p, p ∈ ps → PotAt H p) ∧ Ex H0 (wo H ps) := by
  have h1 : ∀ p, p ∈ ps → p ∈ ads Δ := fun p m => by
    obtain ⟨j, h⟩ := hp p m
    exact ad_mem h (by simp [Ent.ad])
  refine ⟨h1, fun p m => ?_, fun a o z => wo_sub h1 a o (E.base a o z)⟩
  obtain ⟨j, h⟩ := hp p m
  exact (E.ents j _ h).2
theorem ws_ret (h : WEx K xw te Δ P.rt) (hp : PotsIn P.ps Δ) : WSx K xw (tRet te) Δ P := fun A H0 H σ D E _ rt _ _ =>
  h A H0 H σ E _ fun v H' r e E' ok q => by
    obtain ⟨p1, p2, p3⟩ := E'.pots hp
    have sub : ∀ a, a ∈ A ++ P.ps → a ∈ A ++ ads Δ := fun a m => (List.mem_append.mp m).elim (fun z => List.mem_append_left _ z) fun z => List.mem_append_right _ (p1 a z)
    refine rt H' v r p3 p2 ?_ q
    cases r with
    | v d => exact (show Dp K (wo H' (A ++ ads Δ)) v d from ok).up (wo_sub sub)
    | n ds =>
      obtain ⟨l, xs, rfl, h1, h2, h3, h4⟩ := ok
      refine ⟨l, xs, rfl, ?_, fun m => h2 (sub l m), h3, h4.up (wo_sub fun a m => ?_)⟩
      · cases q0 : H0 l with
        | none => rfl
        | some o =>
          have := (wo_some (E.base l o q0)).2
          rw [h1] at this; cases this
      · rcases List.mem_cons.mp m with rfl | m
        · exact List.mem_cons_self
        · exact List.mem_cons_of_mem _ (sub a m)
theorem ws_retN (h : P.rt (.v .none)) (hp : PotsIn P.ps Δ) : WSx K xw tRetN Δ P := fun A H0 H σ D E _ rt _ _ => by
  obtain ⟨p1, p2, p3⟩ := E.pots hp
  exact rt H .non (.v .none) p3 p2 Dp.non h
/-- return of an owned list: it is new to the caller -/
theorem ws_retO {i : Nat} {l : Addr} {ds : List PyData} (h : Δ[i]? = some (.own l ds)) (hp : PotsIn P.ps Δ) (q : P.rt (.n ds)) : WSx K xw (tRet (tVar i)) Δ P := fun A H0 H σ D E _ rt _ _ => by
  obtain ⟨h1, xs, h2, h3⟩ := E.ents i _ h
  obtain ⟨p1, p2, p3⟩ := E.pots hp
  have hin : l ∈ ads Δ := ad_mem h (by simp [Ent.ad])
  have lA : l ∉ A := fun m => by
    obtain ⟨o, z⟩ := E.domA m
    exact (wo_some z).1 hin
  have lP : l ∉ P.ps := fun m => by
    obtain ⟨j, hj⟩ := hp l m
    have := ads_two (a := l) E.nd h hj (by simp [Ent.ad]) (by simp [Ent.ad])
    subst this
    rw [h] at hj
    cases hj
  refine ⟨.ref l, h1, rt H (.ref l) (.n ds) p3 p2 ⟨l, xs, rfl, ?_, fun m => (List.mem_append.mp m).elim lA lP, h2, h3.up (wo_sub fun a m => ?_)⟩ q⟩
  · cases q0 : H0 l with
    | none => rfl
    | some o => exact absurd hin (wo_some (E.base l o q0)).1
  · rcases List.mem_cons.mp m with rfl | m
    · exact List.mem_append_right _ hin
    · rcases List.mem_append.mp m with m | m
      · exact List.mem_append_left _ m
      · exact List.mem_append_right _ (p1 a m)
/-- xs.append(e), xs owned -/
theorem ws_app {i : Nat} {l : Addr} {ds : List PyData} (h : Δ[i]? = some (.own l ds)) (hz : ds.length < 100000) (w : WEx K xw te Δ fun r => P.nx (Δ.set i (.own l (ds ++ [r.d])))) :
    WSx K xw (tDrop (tBM K "list" rAppend (tVar i) (tCons te tNil))) Δ P := fun A H0 H σ D E n _ _ _ => by
  obtain ⟨h1, xs, h2, h3⟩ := E.ents i _ h
  refine ⟨.ref l, h1, Or.inl ⟨rfl, xs, sq_of h2⟩, w A H0 H σ E _ fun v H1 r e E1 ok q => ?_⟩
  obtain ⟨_, ys, g2, g3⟩ := E1.ents i _ h
  exact ⟨l, ys, v, rfl, rfl, g2, sz_lt (by rw [g3.length]; exact hz), n _ _ _ (E1.setO h (g3.app (.cons ok.dp .nil))) q⟩
/-- xs[j] = e, xs owned -/
theorem ws_setI {i : Nat} {l : Addr} {ds : List PyData} (h : Δ[i]? = some (.own l ds)) (w : WEx K xw te Δ fun r => WEx K xw tb Δ fun r2 => ∃ (j : Nat), r2.d = .int j ∧ j < ds.length ∧ P.nx (Δ.set i (.own l (ds.set j r.d)))) :
    WSx K xw (tAsg te (gSub (tVar i) tb rSetL)) Δ P := fun A H0 H σ D E n _ _ _ =>
  w A H0 H σ E _ fun v H1 r e E1 ok w1 => by
    obtain ⟨g1, _⟩ := E1.ents i _ h
    refine ⟨.ref l, g1, w1 A H0 H1 σ E1 _ fun v2 H2 r2 e2 E2 ok2 ⟨j, hj, hl, q⟩ => ?_⟩
    have hd := ok2.dp
    rw [hj] at hd
    cases hd
    obtain ⟨_, ys, k2, k3⟩ := E2.ents i _ h
    exact ⟨l, ys, (j : Int), j, rfl, rfl, k2, ixN_nat (by rw [k3.length]; exact hl), n _ _ _ (E2.setO h (k3.set (ok.dp.up e2.all) j)) q⟩
/-- len and items of an owned list -/
theorem we_ixO {i : Nat} {l : Addr} {ds : List PyData} {Q : Rs → Prop} (h : Δ[i]? = some (.own l ds)) (w : WEx K xw tb Δ fun r => ∃ j d, r.d = .int j ∧ atI ds j = some d ∧ Q (.v d)) : WEx K xw (tOp (rIxL K) (tVar i) tb) Δ Q := fun A H0 H σ E Qh k => by
  obtain ⟨h1, _⟩ := E.ents i _ h
  refine ⟨.ref l, h1, w A H0 H σ E _ fun v H1 r e E1 ok ⟨j, d, hj, ha, q⟩ => ?_⟩
  have hd := ok.dp
  rw [hj] at hd
  cases hd
  obtain ⟨_, ys, g2, g3⟩ := E1.ents i _ h
  obtain ⟨x, hx, hxd⟩ := g3.at ha
  exact ⟨l, ys, j, x, rfl, rfl, sq_of g2, hx, k x H1 (.v d) e E1 hxd q⟩
theorem we_lenO {i : Nat} {l : Addr} {ds : List PyData} {Q : Rs → Prop} (h : Δ[i]? = some (.own l ds)) (q : Q (.v (.int ds.length))) :
    WEx K xw (tCB (fun xs H Q => ∃ p ys, xs = [.ref p] ∧ (SqL K H p ys ∨ SqT K H p ys) ∧ Q (.int ys.length) H) (tCons (tVar i) tNil)) Δ Q := fun A H0 H σ E Qh k => by
  obtain ⟨h1, xs, h2, h3⟩ := E.ents i _ h
  exact ⟨.ref l, h1, l, xs, rfl, .inl (sq_of h2), k _ H (.v (.int ds.length)) Kp.refl E (by rw [h3.length]; exact Dp.int _) q⟩
/-- a, b = x, y -/
theorem ws_par {i j : Nat} {tA : TA} (h : WAx K xw tA Δ fun ds => ∃ d1 d2, ds = [d1, d2] ∧ P.nx ((Δ.set i (.val d1)).set j (.val d2))) : WSx K xw (tPar i j tA) Δ P := fun A H0 H σ D E n _ _ _ =>
  h A H0 H σ E _ fun vs H1 ds e E1 ok ⟨d1, d2, hd, q⟩ => by
    subst hd
    cases ok with | cons g1 g2 => cases g2 with | cons g3 g4 =>
      cases g4
      refine ⟨_, _, rfl, n _ _ _ ((E1.setV g1).setV (g3.up (wo_sub fun a m => ?_))) q⟩
      exact (List.mem_append.mp m).elim (fun z => List.mem_append_left _ z) fun z => List.mem_append_right _ ((ads_set_mem z).elim (fun z => by cases z) id)
theorem ws_while (W : Nat → List Ent → Prop) (m0 : Nat) (h0 : W m0 Δ)
    (hs : ∀ m Δ', W m Δ' → WTx K xw t Δ' fun b => if b = true then WSx K xw ts Δ' { P with nx := fun Δ2 => ∃ m', m' < m ∧ W m' Δ2, ct := fun Δ2 => ∃ m', m' < m ∧ W m' Δ2, bk := P.nx } else P.nx Δ') : WSx K xw (tWhile t ts) Δ P := fun A H0 H σ D E n r _ _ => by
  refine ⟨fun m σ' H' => ∃ Δ', Sit K xw A H0 H' σ' Δ' ∧ W m Δ', ⟨m0, Δ, E, h0⟩, ?_⟩
  rintro m σ1 H1 ⟨Δ1, E1, w1⟩
  refine hs m Δ1 w1 A H0 H1 σ1 E1 _ fun b H2 e E2 q => ?_
  cases b with
  | true =>
    refine ⟨fun σ' H' => ∃ m', m' < m ∧ ∃ Δ', Sit K xw A H0 H' σ' Δ' ∧ W m' Δ', fun σ' H' ⟨m', a, b⟩ => ⟨m', a, b⟩, ?_⟩
    exact q A H0 H2 σ1 _ E2 (fun H' σ' Δ' E' ⟨m', hm, w⟩ => ⟨m', hm, Δ', E', w⟩) r n fun H' σ' Δ' E' ⟨m', hm, w⟩ => ⟨m', hm, Δ', E', w⟩
  | false => exact n H2 σ1 Δ1 E2 q
end
/-! ### what is walked -/
def ItOk (K : PySem.W.Frag) (I : Hp) (J : It) (ds : List PyData) : Prop :=
  ∀ (O : List Addr) (H : Hp), (∀ a, a ∈ O → H a ≠ none) → Ex I (wo H O) → ∀ i : Nat, (ds.length ≤ i → J.stop i H) ∧ ∀ d, ds[i]? = some d → J.go i H ∧ ∀ x H', J.yld i H x H' → Ex H H' ∧ Dp K (wo H' O) x d
def WIx (K : PySem.W.Frag) (xw : Xw) (wi : TI) (Δ : List Ent) (Q : List PyData → Prop) : Prop :=
  ∀ (A : List Addr) (H0 H : Hp) (σ : L2.St), Sit K xw A H0 H σ Δ → ∀ R : It → Hp → Prop,
    (∀ J H' ds, Kp Δ H H' → Sit K xw A H0 H' σ Δ → ItOk K (wo H' (A ++ ads Δ)) J ds → Q ds → R J H') → wi σ H R
section
variable {K : PySem.W.Frag} {Δ : List Ent} {tl : TE} {ta : TA} {Q : List PyData → Prop}
theorem wi_list (h : WEx K xw tl Δ fun r => ∃ ds, r.d = .list ds ∧ Q ds) : WIx K xw (iList K tl) Δ Q := fun A H0 H σ E R k =>
  h A H0 H σ E _ fun v H1 r e E1 ok ⟨ds, hd, q⟩ => by
    have hv := ok.dp
    rw [hd] at hv
    cases hv with
    | @lst a xs _ hs ha =>
      refine ⟨a, rfl, ⟨xs, ex_l wo_ex hs⟩, k _ H1 ds e E1 (fun O H2 hO x i => ⟨fun hi => ?_, fun d hi => ?_⟩) q⟩
      · exact ⟨xs, ex_l wo_ex (ex_l x hs), by rw [ha.length]; exact hi⟩
      · obtain ⟨y, hy, hyd⟩ := ha.get hi
        refine ⟨⟨xs, y, ex_l wo_ex (ex_l x hs), hy⟩, fun z H3 ⟨h1, h2⟩ => ?_⟩
        subst h1
        have := h2 xs (ex_l wo_ex (ex_l x hs))
        rw [hy] at this
        cases this
        exact ⟨ex_id, hyd.up x⟩
theorem wi_tup (h : WEx K xw tl Δ fun r => ∃ ds, r.d = .tuple ds ∧ Q ds) : WIx K xw (iTup K tl) Δ Q := fun A H0 H σ E R k =>
  h A H0 H σ E _ fun v H1 r e E1 ok ⟨ds, hd, q⟩ => by
    have hv := ok.dp
    rw [hd] at hv
    cases hv with
    | @tup a xs _ hs ha =>
      refine ⟨a, rfl, ⟨xs, ex_t wo_ex hs⟩, k _ H1 ds e E1 (fun O H2 hO x i => ⟨fun hi => ?_, fun d hi => ?_⟩) q⟩
      · exact ⟨xs, ex_t wo_ex (ex_t x hs), by rw [ha.length]; exact hi⟩
      · obtain ⟨y, hy, hyd⟩ := ha.get hi
        refine ⟨⟨xs, y, ex_t wo_ex (ex_t x hs), hy⟩, fun z H3 ⟨h1, h2⟩ => ?_⟩
        subst h1
        have := h2 xs (ex_t wo_ex (ex_t x hs))
        rw [hy] at this
        cases this
        exact ⟨ex_id, hyd.up x⟩
/-- the numbers of a range -/
def rng (lo : Int) (n : Nat) : List PyData := (List.range n).map fun (i : Nat) => .int (lo + (i : Int))
theorem rng_len (lo : Int) (n : Nat) : (rng lo n).length = n := by simp [rng]
theorem rng_get {lo : Int} {n i : Nat} {d : PyData} (h : (rng lo n)[i]? = some d) : i < n ∧ d = .int (lo + (i : Int)) := by
  unfold rng at h
  rw [List.getElem?_map] at h
  by_cases hi : i < n
  · rw [List.getElem?_range hi] at h
    exact ⟨hi, (Option.some.inj h).symm⟩
  · rw [List.getElem?_eq_none (by rw [List.length_range]; omega)] at h
    cases h
theorem it_rng {I : Hp} {lo : Int} {n : Nat} : ItOk K I (Itr lo n) (rng lo n) := fun O H hO x i => ⟨fun hi => by rw [rng_len] at hi; exact hi, fun d hd => by
  obtain ⟨h1, rfl⟩ := rng_get hd
  refine ⟨h1, fun z H3 ⟨e1, e2⟩ => ?_⟩
  subst e1 e2
  exact ⟨ex_id, .int _⟩⟩
theorem wi_rng1 (h : WAx K xw ta Δ fun ds => ∃ j : Int, ds = [.int j] ∧ -1000000 ≤ j ∧ j ≤ 1000000 ∧ Q (rng 0 j.toNat)) : WIx K xw (iRng1 ta) Δ Q := fun A H0 H σ E R k =>
  h A H0 H σ E _ fun vs H1 ds e E1 ok ⟨j, hd, b1, b2, q⟩ => by
    subst hd
    cases ok with | cons g1 g2 =>
      cases g1; cases g2
      exact ⟨j, rfl, by omega, by omega, k _ H1 _ e E1 it_rng q⟩
theorem wi_rng2 (h : WAx K xw ta Δ fun ds => ∃ i j : Int, ds = [.int i, .int j] ∧ (-1000000 ≤ i ∧ i ≤ 1000000) ∧ (-1000000 ≤ j ∧ j ≤ 1000000) ∧ Q (rng i (j - i).toNat)) : WIx K xw (iRng2 ta) Δ Q := fun A H0 H σ E R k =>
  h A H0 H σ E _ fun vs H1 ds e E1 ok ⟨i, j, hd, ⟨b1, b2⟩, ⟨b3, b4⟩, q⟩ => by
    subst hd
    cases ok with | cons g1 g2 => cases g1; cases g2 with | cons g3 g4 =>
      cases g3; cases g4
      exact ⟨i, j, rfl, ⟨by omega, by omega, by omega, by omega⟩, k _ H1 _ e E1 it_rng q⟩
/-- two lists, pair by pair -/
def zip2 : List PyData → List PyData → List PyData
  | a :: as, b :: bs => .tuple [a, b] :: zip2 as bs
  | _, _ => []
theorem zip2_get : ∀ {as bs : List PyData} {i : Nat} {d : PyData}, (zip2 as bs)[i]? = some d → ∃ a b, as[i]? = some a ∧ bs[i]? = some b ∧ d = .tuple [a, b]
  | a :: as, b :: bs, 0, d, h => ⟨a, b, rfl, rfl, (Option.some.inj h).symm⟩
  | a :: as, b :: bs, i + 1, d, h => by
    obtain ⟨x, y, h1, h2, h3⟩ := zip2_get (as := as) (bs := bs) (i := i) (show (zip2 as bs)[i]? = some d from h)
    exact ⟨x, y, h1, h2, h3⟩
  | [], _, _, _, h => by simp [zip2] at h
  | _ :: _, [], _, _, h => by simp [zip2] at h
theorem zip2_len : ∀ {as bs : List PyData}, (zip2 as bs).length = min as.length bs.length
  | a :: as, b :: bs => by
    show (zip2 as bs).length + 1 = min (as.length + 1) (bs.length + 1)
    rw [zip2_len]
    omega
  | [], _ => by simp [zip2]
  | _ :: _, [] => by simp [zip2]
theorem wi_zip (h : WAx K xw ta Δ fun ds => ∃ as bs, ds = [.list as, .list bs] ∧ Q (zip2 as bs)) : WIx K xw (iZip K ta) Δ Q := fun A H0 H σ E R k =>
  h A H0 H σ E _ fun vs H1 ds e E1 ok ⟨as, bs, hd, q⟩ => by
    subst hd
    cases ok with | cons g1 g2 => cases g2 with | cons g3 g4 =>
      cases g4
      cases g1 with | @lst a xs _ ha hxa => cases g3 with | @lst b ys _ hb hyb =>
        refine ⟨a, b, xs, ys, rfl, ex_l wo_ex ha, ex_l wo_ex hb, k _ H1 _ e E1 (fun O H2 hO x i => ⟨fun hi => ?_, fun d hi => ?_⟩) q⟩
        · rw [zip2_len] at hi
          exact ⟨xs, ys, ex_l wo_ex (ex_l x ha), ex_l wo_ex (ex_l x hb), by rw [hxa.length, hyb.length]; omega⟩
        · obtain ⟨d1, d2, i1, i2, rfl⟩ := zip2_get hi
          obtain ⟨y1, hy1, hd1⟩ := hxa.get i1
          obtain ⟨y2, hy2, hd2⟩ := hyb.get i2
          refine ⟨⟨xs, ys, y1, y2, ex_l wo_ex (ex_l x ha), ex_l wo_ex (ex_l x hb), hy1, hy2⟩, fun z H3 ⟨T, x1, x2, ez, nT, e3, f1, f2⟩ => ?_⟩
          subst ez e3
          have q1 := f1 xs (ex_l wo_ex (ex_l x ha))
          have q2 := f2 ys (ex_l wo_ex (ex_l x hb))
          rw [hy1] at q1; cases q1
          rw [hy2] at q2; cases q2
          have en : Ex H2 (upd H2 T (.tup [y1, y2])) := Ex.new nT
          refine ⟨en, .tup (.inl (.inl (wo_mk (fun m => hO T m nT) upd_same))) (.cons ((hd1.up x).up (wo_le en)) (.cons ((hd2.up x).up (wo_le en)) .nil))⟩
def enum2 (n : Nat) : List PyData → List PyData
  | [] => []
  | a :: as => .tuple [.int n, a] :: enum2 (n + 1) as
end
/-! ### for -/
/-- an invariant by the turn, over the slots -/
inductive ForI (K : PySem.W.Frag) (xw : Xw) (g : TG) (tb : TS) (P : Post) (Δ : List Ent) (ds : List PyData) : Prop
  | mk (I : Nat → List Ent → Prop) (h0 : I 0 Δ) (hs : ∀ (i : Nat) d Δ', ds[i]? = some d → I i Δ' → WGx K xw g d Δ' fun Δ2 => WSx K xw tb Δ2 { P with nx := I (i + 1), ct := I (i + 1), bk := P.nx }) (hd : ∀ Δ', I ds.length Δ' → P.nx Δ')
theorem ws_for {K : PySem.W.Frag} {Δ : List Ent} {wi : TI} {g : TG} {tb : TS} {P : Post} (h : WIx K xw wi Δ fun ds => ForI K xw g tb P Δ ds) :
    WSx K xw (tFor wi g tb) Δ P := fun A H0 H σ D E n r _ _ =>
  h A H0 H σ E _ fun J H1 ds e E1 ok ⟨I, i0, hs, hd⟩ => by
    have b0 : Ex H0 (wo H1 (ads Δ)) := E1.base
    refine ⟨fun i m σ' H' => m = ds.length - i ∧ i ≤ ds.length ∧ ∃ Δ', Sit K xw A (wo H1 (ads Δ)) H' σ' Δ' ∧ I i Δ', ⟨ds.length, by simp, Nat.zero_le _, Δ, E1.rebase, i0⟩, ?_⟩
    rintro i m σ2 H2 ⟨rfl, hi, Δ2, E2, I2⟩
    have hO : ∀ a, a ∈ A ++ ads Δ2 → H2 a ≠ none := fun a m => E2.domAll m
    have hb : Ex (wo H1 (A ++ ads Δ)) (wo H2 (A ++ ads Δ2)) := fun a o z => by
      obtain ⟨m, q⟩ := wo_some z
      have := wo_some (E2.base a o (wo_mk (fun w => m (List.mem_append_right _ w)) q))
      exact wo_mk (fun w => (List.mem_append.mp w).elim (fun w => m (List.mem_append_left _ w)) this.1) this.2
    have st := ok (A ++ ads Δ2) H2 hO hb i
    by_cases hlt : i < ds.length
    · obtain ⟨go, yl⟩ := st.2 ds[i] (List.getElem?_eq_getElem hlt)
      refine .inr ⟨go, fun σ' H' => ∃ Δ', Sit K xw A (wo H1 (ads Δ)) H' σ' Δ' ∧ I (i + 1) Δ', fun σ' H' ⟨Δ', E', w⟩ => ⟨ds.length - (i + 1), by omega, rfl, hlt, Δ', E', w⟩, fun x H3 hy => ?_⟩
      obtain ⟨e3, hx⟩ := yl x H3 hy
      have E3 : Sit K xw A (wo H1 (ads Δ)) H3 σ2 Δ2 := E2.ext e3
      refine hs i ds[i] Δ2 (List.getElem?_eq_getElem hlt) I2 A _ H3 σ2 x E3 hx _ fun H4 σ4 Δ4 E4 _ w4 => ?_
      refine w4 A _ H4 σ4 _ E4 (fun H' σ' Δ' E' w => ⟨Δ', E', w⟩) (fun H' v rr x1 x2 x3 x4 => r H' v rr (fun a o z => x1 a o (b0 a o z)) x2 ?_ x4) (fun H' σ' Δ' E' w => n H' σ' Δ' (E'.debase b0 E) w) fun H' σ' Δ' E' w => ⟨Δ', E', w⟩
      cases rr with
      | v d => exact x3
      | n es =>
        obtain ⟨l, xs, q1, q2, q3⟩ := x3
        refine ⟨l, xs, q1, ?_, q3⟩
        cases q0 : H0 l with
        | none => rfl
        | some o =>
          rw [b0 l o q0] at q2
          cases q2
    · have ei : i = ds.length := by omega
      subst ei
      exact .inl ⟨st.1 (Nat.le_refl _), n H2 σ2 Δ2 (E2.debase b0 E) (hd Δ2 I2)⟩
end DL

set_option Elab.async false
set_option linter.all false
set_option maxRecDepth 100000
/-! DL3: comprehensions, calls, defs, at the data level. -/
namespace DL
open PySem PySem.Spec PyProof.Rows L2 Evl
variable {xw : Xw}
theorem wo_congr {H : Hp} {O O' : List Addr} (h : ∀ a, a ∈ O ↔ a ∈ O') : wo H O = wo H O' := by
  funext a
  by_cases m : a ∈ O
  · rw [wo_out m, wo_out ((h a).mp m)]
  · rw [wo_in m, wo_in fun q => m ((h a).mpr q)]
theorem ResOk.congr {K : PySem.W.Frag} {H H' : Hp} {O O' : List Addr} {v : V} {r : Rs} (h : ∀ a, a ∈ O ↔ a ∈ O') (ok : ResOk K H H' O v r) : ResOk K H H' O' v r := by
  cases r with
  | v d => exact (show Dp K (wo H' O) v d from ok).up (wo_sub fun a m => (h a).mpr m)
  | n ds =>
    obtain ⟨l, xs, h1, h2, h3, h4, h5⟩ := ok
    refine ⟨l, xs, h1, h2, fun m => h3 ((h l).mpr m), h4, h5.up (wo_sub fun a m => ?_)⟩
    rcases List.mem_cons.mp m with rfl | m
    · exact List.mem_cons_self
    · exact List.mem_cons_of_mem _ ((h a).mpr m)
/-- less is avoided -/
theorem ResOk.less {K : PySem.W.Frag} {H H' : Hp} {O O' : List Addr} {v : V} {r : Rs} (h : ∀ a, a ∈ O' → a ∈ O) (ok : ResOk K H H' O v r) : ResOk K H H' O' v r := by
  cases r with
  | v d => exact (show Dp K (wo H' O) v d from ok).up (wo_sub h)
  | n ds =>
    obtain ⟨l, xs, h1, h2, h3, h4, h5⟩ := ok
    refine ⟨l, xs, h1, h2, fun m => h3 (h l m), h4, h5.up (wo_sub fun a m => ?_)⟩
    rcases List.mem_cons.mp m with rfl | m
    · exact List.mem_cons_self
    · exact List.mem_cons_of_mem _ (h a m)
section
variable {K : PySem.W.Frag} {A : List Addr} {H0 H H' H1 : Hp} {σ : L2.St} {Δ : List Ent}
theorem own_no_pot (E : Sit0 K A H0 H σ Δ) {i : Nat} {l : Addr} {ds : List PyData} (h : Δ[i]? = some (.own l ds)) : l ∉ pts Δ := fun m => by
  obtain ⟨j2, f, g1, g2⟩ := mem_pt m
  have := ads_two (a := l) E.nd h g1 (by simp [Ent.ad]) (pt_ad g2)
  subst this
  rw [h] at g1
  cases g1
  cases g2
theorem Kp.pot (k : Kp Δ H H') (E : Sit0 K A H0 H' σ Δ) {l : Addr} (h : PotAt H l) : PotAt H' l := by
  by_cases m : l ∈ pts Δ
  · obtain ⟨j, f, g1, g2⟩ := mem_pt m
    cases f with
    | pot l2 =>
      rw [show l = l2 by simpa [Ent.pt] using g2]
      exact (E.ents j _ g1).2
    | unk => cases g2
    | exc b => cases g2
    | val d => cases g2
    | own l2 ds => cases g2
  · obtain ⟨x, y, e, q⟩ := h
    exact ⟨x, y, (wo_some (k l _ (wo_mk m e))).2, q⟩
theorem Sit0.again (E : Sit0 K A H0 H σ Δ) (k : Kp Δ H H') (hp : ∀ l, PotAt H l → PotAt H' l) : Sit0 K A H0 H' σ Δ := by
  refine ⟨fun a o z => k.ads a o (E.base a o z), E.dom, fun i e hi => ?_, E.nd, E.len⟩
  have old := E.ents i e hi
  cases e with
  | unk => trivial
  | exc b => exact old
  | val d => obtain ⟨v, h1, h2⟩ := old; exact ⟨v, h1, h2.up k.all⟩
  | own l ds =>
    obtain ⟨h1, xs, h2, h3⟩ := old
    exact ⟨h1, xs, (wo_some (k l _ (wo_mk (own_no_pot E hi) h2))).2, h3.up k.all⟩
  | pot l => exact ⟨old.1, hp l old.2⟩
theorem Sit.again (E : Sit K xw A H0 H σ Δ) (k : Kp Δ H H') (hp : ∀ l, PotAt H l → PotAt H' l) : Sit K xw A H0 H' σ Δ := ⟨E.toSit0.again k hp, E.xo⟩
/-- a new list D beside: what is known avoids it -/
theorem Sit0.under (E : Sit0 K A H0 H1 σ Δ) {D : Addr} (hD : H1 D = none) (k : Kp Δ H1 H') (hp : ∀ l, PotAt H1 l → PotAt H' l) (hD' : H' D ≠ none) : Sit0 K (D :: A) (wo H' (ads Δ)) H' σ Δ := by
  have nD : D ∉ ads Δ := fun m => by
    obtain ⟨o, q⟩ := E.live m
    rw [hD] at q; cases q
  have L : Ex (wo H1 (A ++ ads Δ)) (wo H' ((D :: A) ++ ads Δ)) := fun a o z => by
    have z2 := k.all (A := A) a o z
    obtain ⟨m, q⟩ := wo_some z
    refine wo_mk (fun w => ?_) (wo_some z2).2
    rcases List.mem_cons.mp w with rfl | w
    · rw [hD] at q; cases q
    · exact m w
  refine ⟨fun _ _ z => z, fun a m => ?_, fun i e hi => ?_, E.nd, E.len⟩
  · rcases List.mem_cons.mp m with rfl | m
    · rw [wo_in nD]; exact hD'
    · obtain ⟨o, q⟩ := E.domA m
      rw [k.ads a o q]
      simp
  · have old := E.ents i e hi
    cases e with
    | unk => trivial
    | exc b => exact old
    | val d => obtain ⟨v, h1, h2⟩ := old; exact ⟨v, h1, h2.up L⟩
    | own l ds =>
      obtain ⟨h1, xs, h2, h3⟩ := old
      exact ⟨h1, xs, (wo_some (k l _ (wo_mk (own_no_pot E hi) h2))).2, h3.up L⟩
    | pot l => exact ⟨old.1, hp l old.2⟩
end
def wipeE (Δ : List Ent) : List Nat → List Ent
  | [] => Δ
  | v :: vs => (wipeE Δ vs).set v .unk
theorem wipeE_len (Δ : List Ent) : ∀ vs : List Nat, (wipeE Δ vs).length = Δ.length
  | [] => rfl
  | v :: vs => by unfold wipeE; rw [List.length_set, wipeE_len Δ vs]
theorem wipeE_get {Δ : List Ent} {i : Nat} {e : Ent} : ∀ {vs : List Nat}, (wipeE Δ vs)[i]? = some e → e = .unk ∨ (i ∉ vs ∧ Δ[i]? = some e)
  | [], h => .inr ⟨by simp, h⟩
  | v :: vs, h => by
    unfold wipeE at h
    by_cases hi : v = i
    · subst hi
      have hl : v < (wipeE Δ vs).length := by
        have := (List.getElem?_eq_some_iff.mp h).1
        rwa [List.length_set] at this
      rw [List.getElem?_set_self hl] at h
      exact .inl (Option.some.inj h).symm
    · rw [List.getElem?_set_ne hi] at h
      rcases wipeE_get h with h | ⟨h1, h2⟩
      · exact .inl h
      · refine .inr ⟨fun m => ?_, h2⟩
        rcases List.mem_cons.mp m with m | m
        · exact hi m.symm
        · exact h1 m
theorem Sit0.wiped {K : PySem.W.Frag} {A : List Addr} {H0 H : Hp} {σ : L2.St} {Δ : List Ent} (E : Sit0 K A H0 H σ Δ) {vs : List Nat} (hw : ads (wipeE Δ vs) = ads Δ) : Sit0 K A H0 H (wipe σ vs) (wipeE Δ vs) := by
  refine ⟨by rw [hw]; exact E.base, E.dom, fun i e hi => ?_, by rw [hw]; exact E.nd, by rw [wipe_length, wipeE_len]; exact E.len⟩
  rw [hw]
  rcases wipeE_get hi with rfl | ⟨h1, h2⟩
  · trivial
  · rw [wipe_out h1]
    exact E.ents i e h2
/-! ### the names that a comprehension stores -/
def WB (K : PySem.W.Frag) (vs : List Nat) (g : TG) (d : PyData) (Δ : List Ent) (N : List Ent → Prop) : Prop :=
  ∀ (A : List Addr) (H0 H : Hp) (σ : L2.St) (v : V), Sit K X0 A H0 H σ Δ → Dp K (wo H (A ++ ads Δ)) v d → ∀ Qh : L2.St → Hp → Prop,
    (∀ σ' Δ', wipe σ' vs = wipe σ vs → Sit K X0 A H0 H σ' Δ' → ads Δ' = ads Δ → pts Δ' = pts Δ → N Δ' → Qh σ' H) → g v σ H Qh
def WBs (K : PySem.W.Frag) (vs : List Nat) (g : TGs) (ds : List PyData) (Δ : List Ent) (N : List Ent → Prop) : Prop :=
  ∀ (A : List Addr) (H0 H : Hp) (σ : L2.St) (ws : List V), Sit K X0 A H0 H σ Δ → DpAll K (wo H (A ++ ads Δ)) ws ds → ∀ Qh : L2.St → Hp → Prop,
    (∀ σ' Δ', wipe σ' vs = wipe σ vs → Sit K X0 A H0 H σ' Δ' → ads Δ' = ads Δ → pts Δ' = pts Δ → N Δ' → Qh σ' H) → g ws σ H Qh
theorem set_none_set {σ : L2.St} {i v : Nat} {x y : Option V} (h : i ≠ v) : (σ.set i x).set v y = (σ.set v y).set i x := List.set_comm x y h
theorem wipe_set {σ : L2.St} {i : Nat} {x : Option V} : ∀ {vs : List Nat}, i ∈ vs → wipe (σ.set i x) vs = wipe σ vs
  | v :: vs, h => by
    unfold wipe
    by_cases hv : i ∈ vs
    · rw [wipe_set hv]
    · have e : i = v := by
        rcases List.mem_cons.mp h with e | m
        · exact e
        · exact absurd m hv
      subst e
      have sw : ∀ ws : List Nat, i ∉ ws → wipe (σ.set i x) ws = (wipe σ ws).set i x := by
        intro ws
        induction ws with
        | nil => intro _; rfl
        | cons w ws ih =>
          intro hn
          have h1 : i ≠ w := fun e => hn (by rw [e]; exact List.mem_cons_self)
          have h2 : i ∉ ws := fun m => hn (List.mem_cons_of_mem _ m)
          unfold wipe
          rw [ih h2, List.set_comm _ _ h1]
      rw [sw vs hv, List.set_set]
section
variable {K : PySem.W.Frag} {vs : List Nat} {Δ : List Ent} {N : List Ent → Prop}
theorem wb_name {i : Nat} {d : PyData} (hi : i ∈ vs) (h1 : ads (Δ.set i (.val d)) = ads Δ) (h2 : pts (Δ.set i (.val d)) = pts Δ) (q : N (Δ.set i (.val d))) : WB K vs (gName i) d Δ N := fun A H0 H σ v E h Qh k =>
  k _ _ (wipe_set hi) (E.setV h) h1 h2 q
theorem wbs_nil (q : N Δ) : WBs K vs gNil [] Δ N := fun A H0 H σ ws E h Qh k => by
  cases h
  exact ⟨rfl, k σ Δ rfl E rfl rfl q⟩
theorem wbs_cons {g : TG} {gs : TGs} {d : PyData} {ds : List PyData} (h : WB K vs g d Δ fun Δ' => WBs K vs gs ds Δ' N) : WBs K vs (gCons g gs) (d :: ds) Δ N := fun A H0 H σ ws E hd Qh k => by
  cases hd with
  | cons h1 h2 =>
    exact ⟨_, _, rfl, h A H0 H σ _ E h1 _ fun σ1 Δ1 w1 E1 a1 p1 w => w A H0 H σ1 _ E1 (by rw [a1]; exact h2) Qh fun σ2 Δ2 w2 E2 a2 p2 n => k σ2 Δ2 (w2.trans w1) E2 (a2.trans a1) (p2.trans p1) n⟩
theorem wb_tup {n : Nat} {gs : TGs} {ds : List PyData} (hn : ds.length = n) (h : WBs K vs gs ds Δ N) : WB K vs (gTup K n gs) (.tuple ds) Δ N := fun A H0 H σ v E hd Qh k => by
  cases hd with
  | tup hs ha => exact ⟨_, _, rfl, ex_t wo_ex hs, by rw [ha.length]; exact hn, h A H0 H σ _ E ha Qh k⟩
theorem wt_yes {Q : Bool → Prop} (q : Q true) : WTx K xw tYes Δ Q := fun A H0 H σ E Qh k => k true H Kp.refl E q
/-- what a comprehension has made, by the turn -/
inductive LcI (K : PySem.W.Frag) (vs : List Nat) (g : TG) (tt : TT) (te : TE) (Δ : List Ent) (Q : Rs → Prop) (ds : List PyData) : Prop
  | mk (hl : ds.length ≤ 100000) (J : Nat → List PyData → Prop) (h0 : J 0 [])
      (hs : ∀ (i : Nat) d acc, ds[i]? = some d → J i acc → WB K vs g d (wipeE Δ vs) fun Δ2 => WT K tt Δ2 fun b => if b = true then WE K te Δ2 fun r => J (i + 1) (acc ++ [r.d]) else J (i + 1) acc)
      (hd : ∀ acc, acc.length ≤ ds.length → J ds.length acc → Q (.n acc))
/-- [e for x in xs if t] -/
theorem we_lc {wi : TI} {g : TG} {tt : TT} {te : TE} {Q : Rs → Prop} (hw : ads (wipeE Δ vs) = ads Δ) (hw2 : pts (wipeE Δ vs) = pts Δ)
    (h : WIx K xw wi Δ fun ds => LcI K vs g tt te Δ Q ds) : WEx K xw (tLc wi g tt te vs) Δ Q := fun A H0 H σ E Qh k =>
  h A H0 H σ E _ fun It H1 ds e1 E1 ok ⟨hlen, J, j0, hs, hd⟩ D hD => by
    have nD : D ∉ A ++ ads Δ := fun m => E1.domAll m hD
    refine ⟨fun i m H' => m = ds.length - i ∧ i ≤ ds.length ∧ ∃ acc accd, H' D = some (.lst acc) ∧ DpAll K (wo H' (D :: (A ++ ads Δ))) acc accd ∧ Kp Δ H1 H' ∧ (∀ l, PotAt H1 l → PotAt H' l) ∧ J i accd ∧ accd.length ≤ i,
      ⟨ds.length, by simp, Nat.zero_le _, [], [], upd_same, .nil, Kp.of (Ex.new hD), fun l ⟨x, y, e, q⟩ => ⟨x, y, Ex.new hD l _ e, q⟩, j0, Nat.le_refl _⟩, ?_⟩
    rintro i m H2 ⟨rfl, hi, acc, accd, hDa, hacc, k2, hp2, hJ, hal⟩
    have E2 : Sit K xw A H0 H2 σ Δ := E1.again k2 hp2
    have Eu : Sit0 K (D :: A) (wo H2 (ads Δ)) H2 σ Δ := E1.toSit0.under hD k2 hp2 (by rw [hDa]; simp)
    have hO : ∀ a, a ∈ (D :: A) ++ ads Δ → H2 a ≠ none := fun a m => Eu.domAll m
    have hb : Ex (wo H1 (A ++ ads Δ)) (wo H2 ((D :: A) ++ ads Δ)) := fun a o z => by
      have z2 := k2.all (A := A) a o z
      obtain ⟨m, q⟩ := wo_some z
      refine wo_mk (fun w => ?_) (wo_some z2).2
      rcases List.mem_cons.mp w with rfl | w
      · rw [hD] at q; cases q
      · exact m w
    have st := ok ((D :: A) ++ ads Δ) H2 hO hb i
    by_cases hlt : i < ds.length
    · obtain ⟨go, yl⟩ := st.2 ds[i] (List.getElem?_eq_getElem hlt)
      refine .inr ⟨go, fun H' => ∃ acc accd, H' D = some (.lst acc) ∧ DpAll K (wo H' (D :: (A ++ ads Δ))) acc accd ∧ Kp Δ H1 H' ∧ (∀ l, PotAt H1 l → PotAt H' l) ∧ J (i + 1) accd ∧ accd.length ≤ i + 1, fun H' q => ⟨ds.length - (i + 1), by omega, rfl, hlt, q⟩, fun x H3 hy => ?_⟩
      obtain ⟨e3, hx⟩ := yl x H3 hy
      have E3 : Sit K X0 (D :: A) (wo H2 (ads Δ)) H3 (wipe σ vs) (wipeE Δ vs) := ((Eu.ext e3).wiped hw).calm
      refine hs i ds[i] accd (List.getElem?_eq_getElem hlt) hJ (D :: A) _ H3 (wipe σ vs) x E3 (by rw [hw]; exact hx) _ fun σ4 Δ4 w4 E4 a4 p4 wt => ?_
      have a4' : ads Δ4 = ads Δ := a4.trans hw
      have p4' : pts Δ4 = pts Δ := p4.trans hw2
      have ww : wipe (wipe σ vs) vs = wipe σ vs := by
        have idem : ∀ ws us : List Nat, (∀ a, a ∈ ws → a ∈ us) → wipe (wipe σ ws) us = wipe σ us := by
          intro ws
          induction ws with
          | nil => intro us _; rfl
          | cons w ws ih =>
            intro us hu
            show wipe ((wipe σ ws).set w none) us = wipe σ us
            rw [wipe_set (hu w List.mem_cons_self)]
            exact ih us fun a m => hu a (List.mem_cons_of_mem _ m)
        exact idem vs vs fun _ m => m
      refine ⟨w4.trans ww, wt (D :: A) _ H3 σ4 E4 _ fun b H5 k5 E5 q5 => ?_⟩
      have kp5 : Kp Δ H3 H5 := by unfold Kp at k5 ⊢; rw [← p4']; exact k5
      have k25 : Kp Δ H2 H5 := (Kp.of e3).trans kp5
      have pot25 : ∀ l, PotAt H2 l → PotAt H5 l := fun l ⟨x, y, e, q⟩ => k5.pot E5.toSit0 ⟨x, y, e3 l _ e, q⟩
      have at5 : H5 D = some (.lst acc) := by
        have nD2 : D ∉ ads Δ := fun m => nD (List.mem_append_right _ m)
        exact (wo_some (E5.base D _ (wo_mk nD2 hDa))).2
      have accUp : ∀ {H' : Hp}, Kp Δ H2 H' → DpAll K (wo H' (D :: (A ++ ads Δ))) acc accd := fun {H'} kk => hacc.up (wo_more kk fun a m => List.mem_cons_of_mem _ (List.mem_append_right _ (pts_ads m)))
      cases b with
      | false => exact ⟨acc, accd, at5, accUp k25, k2.trans k25, fun l z => pot25 l (hp2 l z), q5, by omega⟩
      | true =>
        refine q5 (D :: A) _ H5 σ4 E5 _ fun y H6 r k6 E6 ok6 q6 => ?_
        have kp6 : Kp Δ H5 H6 := by unfold Kp at k6 ⊢; rw [← p4']; exact k6
        have k26 : Kp Δ H2 H6 := k25.trans kp6
        have at6 : H6 D = some (.lst acc) := by
          have nD2 : D ∉ ads Δ := fun m => nD (List.mem_append_right _ m)
          exact (wo_some (E6.base D _ (wo_mk nD2 hDa))).2
        have dropD : ∀ {o : HO}, Ex (wo H6 (D :: (A ++ ads Δ))) (wo (upd H6 D o) (D :: (A ++ ads Δ))) := fun {o} a u z => by
          obtain ⟨m, q⟩ := wo_some z
          refine wo_mk m ?_
          rw [upd_ne (fun e => m (by rw [e]; exact List.mem_cons_self))]
          exact q
        refine ⟨acc, at6, sz_lt ?_, acc ++ [y], accd ++ [r.d], upd_same, ?_, ?_, ?_, q6, by rw [List.length_append]; simp; exact hal⟩
        · rw [hacc.length]; omega
        · refine DpAll.app ((accUp k26).up dropD) (.cons ?_ .nil)
          have hy2 := ok6.dp
          rw [a4'] at hy2
          exact (show Dp K (wo H6 (D :: (A ++ ads Δ))) y r.d from hy2).up dropD
        · refine fun a o z => ?_
          have z2 := (k2.trans k26) a o z
          obtain ⟨m, q⟩ := wo_some z
          obtain ⟨m2, q2⟩ := wo_some z2
          refine wo_mk m ?_
          rw [upd_ne (fun e => by subst e; rw [hD] at q; cases q)]
          exact q2
        · intro l hl
          have h6 : PotAt H6 l := k6.pot E6.toSit0 (pot25 l (hp2 l hl))
          obtain ⟨x1, y1, e, q⟩ := hl
          obtain ⟨x2, y2, e2, q2⟩ := h6
          refine ⟨x2, y2, ?_, q2⟩
          rw [upd_ne (fun ee => by subst ee; rw [hD] at e; cases e)]
          exact e2
    · have ei : i = ds.length := by omega
      subst ei
      exact .inl ⟨st.1 (Nat.le_refl _), k _ H2 (.n accd) (e1.trans k2) E2 ⟨D, acc, rfl, E.fresh e1 E1.toSit0 hD, nD, hDa, hacc⟩ (hd accd hal hJ)⟩
/-- each turn gives its item's f -/
inductive LcM (K : PySem.W.Frag) (vs : List Nat) (g : TG) (te : TE) (Δ : List Ent) (Q : Rs → Prop) (f : PyData → PyData) (ds : List PyData) : Prop
  | mk (hl : ds.length ≤ 100000) (hs : ∀ d, d ∈ ds → WB K vs g d (wipeE Δ vs) fun Δ2 => WE K te Δ2 fun r => r.d = f d) (hd : Q (.n (ds.map f)))
theorem we_lcMap {wi : TI} {g : TG} {te : TE} {Q : Rs → Prop} (f : PyData → PyData) (hw : ads (wipeE Δ vs) = ads Δ) (hw2 : pts (wipeE Δ vs) = pts Δ)
    (h : WIx K xw wi Δ fun ds => LcM K vs g te Δ Q f ds) : WEx K xw (tLc wi g tYes te vs) Δ Q := by
  refine we_lc hw hw2 fun A H0 H σ E R k => h A H0 H σ E R fun J H' ds e E' ok ⟨h1, h2, h3⟩ => k J H' ds e E' ok ⟨h1, fun i acc => acc = (ds.take i).map f, by simp, fun i d acc hd ha => ?_, fun acc _ ha => ?_⟩
  · refine fun A H0 H σ v E hv Qh kk => h2 d (List.mem_of_getElem? hd) A H0 H σ v E hv Qh fun σ' Δ' a b c e w => kk σ' Δ' a b c e (wt_yes ?_)
    show WE K te Δ' _
    refine we_imp w fun r hr => ?_
    show acc ++ [r.d] = List.map f (List.take (i + 1) ds)
    rw [hr, ha, List.take_add_one, hd, List.map_append]
    rfl
  · rw [ha, List.take_length]
    exact h3
end
/-! ### defs -/
/-- a def of plain arguments: phi args R says that R holds of whatever it gives -/
def SpF (K : PySem.W.Frag) (φ : List PyData → (Rs → Prop) → Prop) : Sp := fun vs H Q _ => ∃ (A : List Addr) (ds : List PyData) (R : Rs → Prop), DpAll K (wo H A) vs ds ∧ (∀ a, a ∈ A → H a ≠ none) ∧ φ ds R ∧
  ∀ v H' r, Ex H H' → ResOk K H H' A v r → R r → Q v H'
/-- a def whose first argument is a pot -/
def SpD (K : PySem.W.Frag) (φ : List PyData → (Rs → Prop) → Prop) : Sp := fun vs H Q _ => ∃ (A : List Addr) (p : Addr) (ws : List V) (ds : List PyData) (R : Rs → Prop), vs = .ref p :: ws ∧ PotAt H p ∧ p ∉ A ∧ DpAll K (wo H (A ++ [p])) ws ds ∧ (∀ a, a ∈ A → H a ≠ none) ∧ φ ds R ∧
  ∀ v H' r, Ex (wo H [p]) (wo H' [p]) → PotAt H' p → ResOk K H H' (A ++ [p]) v r → R r → Q v H'
section
variable {K : PySem.W.Frag} {Δ : List Ent} {ta : TA} {te : TE} {Q : Rs → Prop} {φ : List PyData → (Rs → Prop) → Prop} {E0 : XK}
theorem we_call (h : WAx K xw ta Δ fun ds => φ ds Q) : WEx K xw (tCall (SpF K φ) [] E0 ta) Δ Q := fun A H0 H σ E Qh k =>
  h A H0 H σ E _ fun vs H1 ds e1 E1 ok q => by
    show SpF K φ (vs ++ []) H1 Qh E0
    rw [List.append_nil]
    exact ⟨A ++ ads Δ, ds, Q, ok, fun a m => E1.domAll m, q, fun v H' r e o z => k v H' r (e1.trans (Kp.of e)) (E1.ext e) (ResOk.back E.toSit0 e1 E1.toSit0 o) z⟩
theorem we_callD {i : Nat} {p : Addr} (hp : Δ[i]? = some (.pot p)) (h : WAx K xw ta Δ fun ds => φ ds Q) : WEx K xw (tCall (SpD K φ) [] E0 (tCons (tVar i) ta)) Δ Q := fun A H0 H σ E Qh k => by
  obtain ⟨g1, _⟩ := E.ents i _ hp
  refine ⟨.ref p, g1, h A H0 H σ E _ fun vs H1 ds e1 E1 ok q => ?_⟩
  show SpD K φ ((.ref p :: vs) ++ []) H1 Qh E0
  rw [List.append_nil]
  have hin : p ∈ ads Δ := ad_mem hp (by simp [Ent.ad])
  have hpt : p ∈ pts Δ := by
    have : ∀ {Δ : List Ent} {i : Nat}, Δ[i]? = some (.pot p) → p ∈ pts Δ := by
      intro Δ
      induction Δ with
      | nil => intro i h; simp at h
      | cons x r ih =>
        intro i h
        cases i with
        | zero =>
          simp at h; subst h
          exact List.mem_append_left _ (by simp [Ent.pt])
        | succ i => exact List.mem_append_right _ (ih (i := i) (by simpa using h))
    exact this hp
  have hm : ∀ a, a ∈ (A ++ ads Δ).filter (fun a => decide (a ≠ p)) ++ [p] ↔ a ∈ A ++ ads Δ := fun a => by
    rw [List.mem_append, List.mem_filter, List.mem_singleton]
    constructor
    · rintro (⟨h, _⟩ | rfl)
      · exact h
      · exact List.mem_append_right _ hin
    · intro h
      by_cases ha : a = p
      · exact .inr ha
      · exact .inl ⟨h, decide_eq_true ha⟩
  refine ⟨(A ++ ads Δ).filter (fun a => decide (a ≠ p)), p, vs, ds, Q, rfl, (E1.ents i _ hp).2, fun m => ?_, by rw [wo_congr hm]; exact ok, fun a m => E1.domAll (List.mem_filter.mp m).1, q, fun v H' r e po o z => ?_⟩
  · exact absurd rfl (of_decide_eq_true (List.mem_filter.mp m).2)
  · have kp : Kp Δ H1 H' := wo_more e fun a m => by rw [List.mem_singleton.mp m]; exact hpt
    have E2 : Sit K xw A H0 H' σ Δ := E1.again kp fun l ⟨x, y, el, ql⟩ => by
      by_cases hl : l = p
      · rw [hl]; exact po
      · exact ⟨x, y, (wo_some (e l _ (wo_mk (by simpa using hl) el))).2, ql⟩
    exact k v H' r (e1.trans kp) E2 (ResOk.back E.toSit0 e1 E1.toSit0 (o.congr hm)) z
/-- the pot itself a call's result -/
theorem we_callDt (h : WEx K xw te Δ fun r => ∃ x y : Int, r = .n [.int x, .int y] ∧ 0 ≤ x ∧ 0 ≤ y ∧ y < 4294967296 ∧ φ [] Q) : WEx K xw (tCall (SpD K φ) [] E0 (tCons te tNil)) Δ Q := fun A H0 H σ E Qh k =>
  h A H0 H σ E _ fun v H1 r e1 E1 ok ⟨x, y, hr, b1, b2, b3, q⟩ => by
    subst hr
    obtain ⟨l, xs, rfl, h1, h2, h3, h4⟩ := ok
    cases h4 with | cons g1 g2 => cases g1; cases g2 with | cons g3 g4 =>
      cases g3; cases g4
      show SpD K φ ([.ref l] ++ []) H1 Qh E0
      rw [List.append_nil]
      refine ⟨A ++ ads Δ, l, [], [], Q, rfl, ⟨x, y, h3, b1, b2, b3⟩, h2, .nil, fun a m => E1.domAll m, q, fun v H' r e po o z => ?_⟩
      have lp : l ∉ pts Δ := fun m => h2 (List.mem_append_right _ (pts_ads m))
      have kp : Kp Δ H H' := fun a u z => by
        have z2 := e1 a u z
        obtain ⟨m, q0⟩ := wo_some z
        obtain ⟨_, q1⟩ := wo_some z2
        have na : a ≠ l := fun ee => by subst ee; rw [h1] at q0; cases q0
        exact wo_mk m (wo_some (e a u (wo_mk (by simpa using na) q1))).2
      have E2 : Sit K xw A H0 H' σ Δ := E.again kp fun a ha => by
        have h5 := e1.pot E1.toSit0 ha
        obtain ⟨x1, y1, el, ql⟩ := ha
        have na : a ≠ l := fun ee => by subst ee; rw [h1] at el; cases el
        obtain ⟨x2, y2, e2, q2⟩ := h5
        exact ⟨x2, y2, (wo_some (e a _ (wo_mk (by simpa using na) e2))).2, q2⟩
      refine k v H' r kp E2 (ResOk.back E.toSit0 e1 E1.toSit0 (o.less fun a m => List.mem_append_left _ m)) z
end
theorem ents_start {K : PySem.W.Frag} {H : Hp} {O : List Addr} {n : Nat} : ∀ {vs : List V} {ds : List PyData}, DpAll K (wo H O) vs ds → ∀ (i : Nat) (e : Ent), (ds.map Ent.val ++ List.replicate n .unk)[i]? = some e → EntOk K H O ((vs.map some ++ List.replicate n (none : Option V))[i]?) e
  | _, _, .nil, i, e, h => by
    have h' : (List.replicate n Ent.unk)[i]? = some e := h
    rw [List.getElem?_replicate] at h'
    split at h'
    · cases h'; trivial
    · cases h'
  | _, _, .cons h1 h2, 0, e, h => by
    cases (show some _ = some e from h)
    exact ⟨_, rfl, h1⟩
  | _, _, .cons h1 h2, i + 1, e, h => ents_start h2 i e h
theorem ads_start (n : Nat) : ∀ ds : List PyData, ads (ds.map Ent.val ++ List.replicate n .unk) = []
  | [] => by
    show ads (List.replicate n .unk) = []
    induction n with
    | zero => rfl
    | succ n ih => exact ih
  | d :: ds => ads_start n ds
section
variable {P : Program} {w : World} {K : PySem.W.Frag} {mg : Str → Option Value} {base : Heap} {x qual : Str} {st : Stmt} {f : Addr} {fd : FuncData} {N ps : List Str} {k : Nat} {φ : List PyData → (Rs → Prop) → Prop} {t : TS}
theorem okF (F : Fun K x qual st f fd) (S : FnScope N ps (defScope st)) (hl : ∀ ds R, φ ds R → ds.length = ps.length)
    (ht : ∀ (cdv : Value) (A : Around) (outer : List Env) (s : Shared) (H : Hp) (E : XK), Room k (A.deeper (envOfC qual (defScope st) s.heap.objs.size f cdv)) → PSs (cxOf CX0 P w K mg base N qual (defScope st) f cdv A outer s H E).nox (defBody st) t)
    (hw : ∀ ds R, φ ds R → WS K t (ds.map Ent.val ++ List.replicate (N.length - ds.length) .unk) { nx := fun _ => R (.v .none), rt := R }) : FnOk P w K mg base CX0 (k + 1) f fd ps (SpF K φ) := by
  refine F.ok S (fun vs H Q E h => ?_) (fun cdv A outer s H vs Q E hr h => ⟨t, ht cdv A outer s H E hr, ?_⟩)
  · obtain ⟨A, ds, R, h1, _, h2, _⟩ := h
    rw [h1.length]
    exact hl ds R h2
  · obtain ⟨A, ds, R, h1, hA, h2, h3⟩ := h
    have a0 := ads_start (N.length - ds.length) ds
    have S0 : Sit0 K A H H (L2.start N vs) (ds.map Ent.val ++ List.replicate (N.length - ds.length) .unk) := by
      refine ⟨by rw [a0, wo_nil]; exact fun _ _ z => z, hA, fun i e hi => ?_, by rw [a0]; simp, ?_⟩
      · rw [a0, List.append_nil]
        unfold L2.start
        rw [h1.length]
        exact ents_start h1 i e hi
      · unfold L2.start
        rw [List.length_append, List.length_append, List.length_map, List.length_map, List.length_replicate, List.length_replicate, h1.length]
    refine hw ds R h2 A H H (L2.start N vs) _ S0.calm (fun H' σ' Δ' E' q => ?_) (fun H' v r e _ o q => ?_) (fun H' σ' Δ' E' q => q.elim) (fun H' σ' Δ' E' q => q.elim)
    · exact h3 .non H' (.v .none) (fun a o z => wo_ex a o (E'.base a o z)) Dp.non q
    · exact h3 v H' r (by rw [show wo H' ([] : List Addr) = H' from wo_nil] at e; exact e) (by rw [show A ++ ([] : List Addr) = A from List.append_nil A] at o; exact o) q
theorem okD {x0 : Str} (F : Fun K x qual st f fd) (S : FnScope N ps (defScope st)) (hps : 0 < N.length) (hl : ∀ ds R, φ ds R → ds.length + 1 = ps.length)
    (ht : ∀ (cdv : Value) (A : Around) (outer : List Env) (s : Shared) (H : Hp) (E : XK), Room k (A.deeper (envOfC qual (defScope st) s.heap.objs.size f cdv)) → PSs (cxOf CX0 P w K mg base N qual (defScope st) f cdv A outer s H E).nox (defBody st) t)
    (hw : ∀ (p : Addr) ds R, φ ds R → WS K t (.pot p :: (ds.map Ent.val ++ List.replicate (N.length - (ds.length + 1)) .unk)) { nx := fun _ => False, rt := R, ps := [p] }) : FnOk P w K mg base CX0 (k + 1) f fd ps (SpD K φ) := by
  refine F.ok S (fun vs H Q E h => ?_) (fun cdv A outer s H vs Q E hr h => ⟨t, ht cdv A outer s H E hr, ?_⟩)
  · obtain ⟨A, p, ws, ds, R, rfl, _, _, h1, _, h2, _⟩ := h
    rw [List.length_cons, h1.length]
    exact hl ds R h2
  · obtain ⟨A, p, ws, ds, R, rfl, hp, hpA, h1, hA, h2, h3⟩ := h
    have a0 : ads (.pot p :: (ds.map Ent.val ++ List.replicate (N.length - (ds.length + 1)) .unk)) = [p] := by
      show [p] ++ ads (ds.map Ent.val ++ List.replicate (N.length - (ds.length + 1)) .unk) = [p]
      rw [ads_start]
      rfl
    have S0 : Sit0 K A (wo H [p]) H (L2.start N (.ref p :: ws)) (.pot p :: (ds.map Ent.val ++ List.replicate (N.length - (ds.length + 1)) .unk)) := by
      refine ⟨by rw [a0]; exact fun _ _ z => z, fun a m => ?_, fun i e hi => ?_, by rw [a0]; simp, ?_⟩
      · rw [wo_in (by intro z; rw [List.mem_singleton.mp z] at m; exact hpA m)]
        exact hA a m
      · rw [a0]
        unfold L2.start
        rw [List.length_cons, h1.length]
        cases i with
        | zero =>
          cases (show some (Ent.pot p) = some e from hi)
          exact ⟨rfl, hp⟩
        | succ i => exact ents_start h1 i e hi
      · unfold L2.start
        rw [List.length_append, List.length_map, List.length_replicate, List.length_cons, List.length_cons, List.length_append, List.length_map, List.length_replicate, h1.length]
        omega
    refine hw p ds R h2 A (wo H [p]) H (L2.start N (.ref p :: ws)) _ S0.calm (fun H' σ' Δ' E' q => q.elim) (fun H' v r e po o q => ?_) (fun H' σ' Δ' E' q => q.elim) (fun H' σ' Δ' E' q => q.elim)
    refine h3 v H' r e (po p (by simp)) ?_ q
    cases r with
    | v d => exact o
    | n es =>
      obtain ⟨l, xs, q1, q2, q3, q4⟩ := o
      refine ⟨l, xs, q1, ?_, q3, q4⟩
      rw [wo_in (by intro z; exact q3 (List.mem_append_right _ z))] at q2
      exact q2
end
end DL

set_option Elab.async false
set_option linter.all false
set_option maxRecDepth 100000
/-! DL4: the rules that the printer names: readings that don't ask for types, and what they do to data. -/
namespace DL
open PySem PySem.Spec PyProof.Rows L2 Evl
variable {xw : Xw}
section
variable {X : Cx}
theorem pe_imp {e : Expr} {t t' : TE} (h : PE X e t) (k : ∀ σ H Q, t' σ H Q → t σ H Q) : PE X e t' := ⟨fun pins s σ H Q I z => h.run pins s σ H Q I (k σ H Q z)⟩
theorem op_or {f : Value → Value → Sem Value} {r r' : R2} (a : OpR X f r) (b : OpR X f r') : OpR X f (fun x y H Q => r x y H Q ∨ r' x y H Q) := fun pins s σ H x y v u Q I rx ry h =>
  h.elim (fun z => a pins s σ H x y v u Q I rx ry z) fun z => b pins s σ H x y v u Q I rx ry z
/-! ### list + list, whatever lists -/
def rCatS (K : PySem.W.Frag) : R2 := fun x y H Q => ∃ l b xs zs, x = .ref l ∧ y = .ref b ∧ SqL K H l xs ∧ SqL K H b zs ∧ xs.length + zs.length ≤ sizeLine ∧ ∀ p, H p = none → Q (.ref p) (upd H p (.lst (xs ++ zs)))
theorem op_catS : OpR X (binaryOp .Add) (rCatS X.K) := by
  intro pins s σ H x y v u Q I rx ry h
  obtain ⟨l, b, xs, zs, rfl, rfl, hH, hB, hz, q⟩ := h
  cases rx
  cases ry
  obtain ⟨its, r, ⟨⟨cls, dd, data, sl⟩, n, ho, hc, hdd, hd⟩, z1⟩ := I.list hH
  obtain ⟨its2, r2, ⟨⟨cls2, dd2, data2, sl2⟩, n2, ho2, hc2, hdd2, hd2⟩, z2⟩ := I.list hB
  simp only at hc hd hc2 hd2
  subst hc hd hc2 hd2
  have e : its.toArray ++ its2.toArray = (its ++ its2).toArray := by simp
  have hl := r.length
  have hl2 := r2.length
  refine concat_meets ⟨_, ho, rfl⟩ ⟨_, ho2, rfl⟩ noFill_list_add seq_list_add PySem.F.slot_list_add PySem.F.entry_list_add (PySem.F.args_list_add_2 _ _) (list_addW l b its.toArray its2.toArray n n2 dd dd2 sl sl2 (by simp; omega)) ⟨ho, ho2, ?_⟩
  rw [e]
  exact ⟨.ref _, _, I.lnew (t' := s.toks) (r.append r2) (by rw [List.length_append]; omega), rfl, q _ I.fresh⟩
def rAddStr : R2 := fun x y H Q => ∃ i j, x = .str i ∧ y = .str j ∧ i.length + j.length ≤ sizeLine ∧ Q (.str (i ++ j)) H
/-- + of ints, lists, texts, tuples -/
def rAddA (K : PySem.W.Frag) : R2 := fun x y H Q => (rI0 fun i j => .int (i + j)) x y H Q ∨ rCatS K x y H Q ∨ rAddStr x y H Q ∨ rCatT K x y H Q
theorem op_addA : OpR X (binaryOp .Add) (rAddA X.K) := op_or op_add (op_or op_catS (op_or op_add_str op_catT))
/-- * of ints, a list times an int -/
def rMulA : R2 := fun x y H Q => (rI CMulX fun i j => .int (i * j)) x y H Q ∨ rRep x y H Q
theorem op_mulA : OpR X (binaryOp .Mult) rMulA := op_or op_mulX op_rep
abbrev rSubI : R2 := rI0 fun i j => .int (i - j)
abbrev rFdivI : R2 := rI CDivW fun i j => .int (i / j)
abbrev rModI : R2 := rI (fun _ j => 0 < j) fun i j => .int (i % j)
abbrev rPowI : R2 := rI CPow fun i j => .int (i ^ j.toNat)
abbrev rLtI : R2 := rI0 fun i j => .bl (decide (i < j))
abbrev rLeI : R2 := rI0 fun i j => .bl (decide (i ≤ j))
abbrev rGtI : R2 := rI0 fun i j => .bl (decide (j < i))
abbrev rGeI : R2 := rI0 fun i j => .bl (decide (j ≤ i))
abbrev rNegI : V → Hp → VK → Prop := rU fun i => .int (-i)
def rIsNone : R2 := fun x y H Q => y = .non ∧ Q (.bl (decide (x = .non))) H
def rNotNone : R2 := fun x y H Q => y = .non ∧ Q (.bl (!decide (x = .non))) H
theorem op_isNone : OpR X (compareOp .Is) rIsNone := op_isN
theorem op_notNone : OpR X (compareOp .IsNot) rNotNone := op_notN
/-! ### built-ins by their readings -/
def rAbs : List V → Hp → VK → Prop := fun xs H Q => ∃ i, xs = [.int i] ∧ Q (.int (if i < 0 then -i else i)) H
theorem c_abs : CallR X (.builtin "abs") rAbs := call_abs
def rMax2' : List V → Hp → VK → Prop := fun xs H Q => ∃ i j, xs = [.int i, .int j] ∧ Q (.int (if j > i then j else i)) H
theorem c_max2 (hc : X.calm = true) : CallR X (.builtin "max") rMax2' := call_max2 hc
def rMin2' : List V → Hp → VK → Prop := fun xs H Q => ∃ i j, xs = [.int i, .int j] ∧ Q (.int (if j < i then j else i)) H
theorem c_min2 (hc : X.calm = true) : CallR X (.builtin "min") rMin2' := call_min2 hc
def rLen (K : PySem.W.Frag) : List V → Hp → VK → Prop := fun xs H Q => ∃ x n, xs = [x] ∧ LenV K x H n ∧ Q (.int (n : Nat)) H
theorem c_len : CallR X (.builtin "len") (rLen X.K) := call_len
def rListOf (K : PySem.W.Frag) : List V → Hp → VK → Prop := fun xs H Q => ∃ p ys, xs = [.ref p] ∧ (SqL K H p ys ∨ SqT K H p ys) ∧ ∀ l, H l = none → Q (.ref l) (upd H l (.lst ys))
theorem c_list : CallR X (.type "list") (rListOf X.K) := call_list_of
def rDivmod : List V → Hp → VK → Prop := fun xs H Q => ∃ i j, xs = [.int i, .int j] ∧ CDivP i j ∧ ∀ p, H p = none → Q (.ref p) (upd H p (.tup [.int (i / j), .int (i % j)]))
theorem c_divmod : CallR X (.builtin "divmod") rDivmod := call_divmodW
def rStrI : List V → Hp → VK → Prop := fun xs H Q => ∃ i, xs = [.int i] ∧ i.natAbs.log2 < 1920 ∧ Q (.str (toString i)) H
theorem c_str : CallR X (.type "str") rStrI := call_str_int
end
/-! ### what they do to data -/
section
variable {K : PySem.W.Frag} {Q : Rs → Prop} {Δ : List Ent} {te : TE}
theorem rd_addI {i j : Int} (q : Q (.v (.int (i + j)))) : RD K (rAddA K) (.int i) (.int j) Q := fun A H v1 v2 h1 h2 hA Qh k => .inl (rd_I0 (f := fun i j => i + j) q A H v1 v2 h1 h2 hA Qh k)
theorem rd_addL {as bs : List PyData} (hz : as.length + bs.length ≤ 100000) (q : Q (.n (as ++ bs))) : RD K (rAddA K) (.list as) (.list bs) Q := fun A H v1 v2 h1 h2 hA Qh k => .inr (.inl (by
  cases h1 with | lst s1 a1 => cases h2 with | lst s2 a2 =>
    exact ⟨_, _, _, _, rfl, rfl, ex_l wo_ex s1, ex_l wo_ex s2, sz_of (by rw [a1.length, a2.length]; exact hz), fun p hp => k _ _ (.n _) (Ex.new hp) (res_new hp hA (a1.app a2)) q⟩))
theorem rd_addS {x y : Str} (hz : x.length + y.length ≤ 100000) (q : Q (.v (.str (x ++ y)))) : RD K (rAddA K) (.str x) (.str y) Q := fun A H v1 v2 h1 h2 hA Qh k => .inr (.inr (.inl (by
  cases h1; cases h2
  exact ⟨x, y, rfl, rfl, sz_of hz, k _ H (.v _) ex_id (Dp.str _) q⟩)))
theorem rd_mulI {i j : Int} (hc : CMulX i j) (q : Q (.v (.int (i * j)))) : RD K rMulA (.int i) (.int j) Q := fun A H v1 v2 h1 h2 hA Qh k => .inl (rd_I (C := CMulX) (f := fun i j => i * j) hc q A H v1 v2 h1 h2 hA Qh k)
theorem rd_isNone {d : PyData} (q : Q (.v (.bool (match d with | .none => true | _ => false)))) : RD K rIsNone d .none Q := fun A H v1 v2 h1 h2 hA Qh k => by
  cases h2
  refine ⟨rfl, k _ H (.v _) ex_id (Dp.bl _) ?_⟩
  cases h1 <;> exact q
theorem rd_notNone {d : PyData} (q : Q (.v (.bool (match d with | .none => false | _ => true)))) : RD K rNotNone d .none Q := fun A H v1 v2 h1 h2 hA Qh k => by
  cases h2
  refine ⟨rfl, k _ H (.v _) ex_id (Dp.bl _) ?_⟩
  cases h1 <;> exact q
theorem shaped_int (i : Int) : SeqAt.shaped (.int i) = true := by simp [SeqAt.shaped, PyData.canLay0, PyData.depth]
theorem shaped_bool (i : Bool) : SeqAt.shaped (.bool i) = true := by simp [SeqAt.shaped, PyData.canLay0, PyData.depth]
theorem shaped_none : SeqAt.shaped .none = true := by simp [SeqAt.shaped, PyData.canLay0, PyData.depth]
theorem rd_eqDI {i j : Int} (q : Q (.v (.bool (decide (i = j))))) : RD K (rEqD K) (.int i) (.int j) Q := rd_eqD (shaped_int i) (shaped_int j) (by
  rw [show PyData.eqv (.int i) (.int j) = decide (i = j) by simp only [PyData.eqv]; rfl]
  exact q)
theorem rd_neDI {i j : Int} (q : Q (.v (.bool (!decide (i = j))))) : RD K (rNeD K) (.int i) (.int j) Q := rd_neD (shaped_int i) (shaped_int j) (by
  rw [show PyData.eqv (.int i) (.int j) = decide (i = j) by simp only [PyData.eqv]; rfl]
  exact q)
theorem rd_eqDB {i j : Bool} (q : Q (.v (.bool (decide (i = j))))) : RD K (rEqD K) (.bool i) (.bool j) Q := rd_eqD (shaped_bool i) (shaped_bool j) (by
  rw [show PyData.eqv (.bool i) (.bool j) = decide (i = j) by cases i <;> cases j <;> simp [PyData.eqv]]
  exact q)
theorem rd_neDB {i j : Bool} (q : Q (.v (.bool (!decide (i = j))))) : RD K (rNeD K) (.bool i) (.bool j) Q := rd_neD (shaped_bool i) (shaped_bool j) (by
  rw [show PyData.eqv (.bool i) (.bool j) = decide (i = j) by cases i <;> cases j <;> simp [PyData.eqv]]
  exact q)
theorem rd_ixAL {ds : List PyData} {i : Int} {d : PyData} (h : atI ds i = some d) (q : Q (.v d)) : RD K (rIx K) (.list ds) (.int i) Q := fun A H v1 v2 h1 h2 hA Qh k => .inl (rd_ixL h q A H v1 v2 h1 h2 hA Qh k)
theorem rd_ixAT {ds : List PyData} {i : Int} {d : PyData} (h : atI ds i = some d) (q : Q (.v d)) : RD K (rIx K) (.tuple ds) (.int i) Q := fun A H v1 v2 h1 h2 hA Qh k => .inr (.inl (rd_ixT h q A H v1 v2 h1 h2 hA Qh k))
theorem we_ixAO {tb : TE} {i : Nat} {l : Addr} {ds : List PyData} (h : Δ[i]? = some (.own l ds)) (w : WEx K xw tb Δ fun r => ∃ j d, r.d = .int j ∧ atI ds j = some d ∧ Q (.v d)) : WEx K xw (tOp (rIx K) (tVar i) tb) Δ Q := fun A H0 H σ E Qh k => by
  have := we_ixO (K := K) h w A H0 H σ E Qh k
  obtain ⟨v, h1, h2⟩ := this
  obtain ⟨g1, _⟩ := E.ents i _ h
  rw [h1] at g1
  cases g1
  refine ⟨.ref l, h1, w A H0 H σ E _ fun v H1 r e E1 ok ⟨j, d, hj, ha, q⟩ => ?_⟩
  have hd := ok.dp
  rw [hj] at hd
  cases hd
  obtain ⟨_, ys, g2, g3⟩ := E1.ents i _ h
  obtain ⟨x, hx, hxd⟩ := g3.at ha
  exact .inl ⟨l, ys, j, x, rfl, rfl, sq_of g2, hx, k x H1 (.v d) e E1 hxd q⟩
theorem cd_absI {i : Int} (q : Q (.v (.int (if i < 0 then -i else i)))) : CD K rAbs [.int i] Q := cd_abs q
theorem cd_maxI {i j : Int} (q : Q (.v (.int (if j > i then j else i)))) : CD K rMax2' [.int i, .int j] Q := cd_max2 q
theorem cd_minI {i j : Int} (q : Q (.v (.int (if j < i then j else i)))) : CD K rMin2' [.int i, .int j] Q := fun A H vs h _ Qh k => by
  cases h with | cons h1 h2 => cases h1; cases h2 with | cons h3 h4 => cases h3; cases h4; exact ⟨i, j, rfl, k _ H (.v _) ex_id (Dp.int _) q⟩
theorem cd_lenAL {ds : List PyData} (q : Q (.v (.int ds.length))) : CD K (rLen K) [.list ds] Q := fun A H vs h _ Qh k => by
  cases h with | cons h1 h2 =>
    cases h2
    cases h1 with | lst hs ha => exact ⟨_, _, rfl, .inl ⟨_, ex_l wo_ex hs, rfl⟩, k _ H (.v _) ex_id (by rw [ha.length]; exact Dp.int _) q⟩
theorem cd_lenAT {ds : List PyData} (q : Q (.v (.int ds.length))) : CD K (rLen K) [.tuple ds] Q := fun A H vs h _ Qh k => by
  cases h with | cons h1 h2 =>
    cases h2
    cases h1 with | tup hs ha => exact ⟨_, _, rfl, .inr ⟨_, ex_t wo_ex hs, rfl⟩, k _ H (.v _) ex_id (by rw [ha.length]; exact Dp.int _) q⟩
theorem cd_lenAS {x : Str} (hz : x.length ≤ 100000) (q : Q (.v (.int x.length))) : CD K (rLen K) [.str x] Q := fun A H vs h _ Qh k => by
  cases h with | cons h1 h2 =>
    cases h2
    cases h1
    exact ⟨_, _, rfl, ⟨sz_of hz, rfl⟩, k _ H (.v _) ex_id (Dp.int _) q⟩
theorem we_lenAO {i : Nat} {l : Addr} {ds : List PyData} (h : Δ[i]? = some (.own l ds)) (q : Q (.v (.int ds.length))) : WEx K xw (tCB (rLen K) (tCons (tVar i) tNil)) Δ Q := fun A H0 H σ E Qh k => by
  obtain ⟨h1, xs, h2, h3⟩ := E.ents i _ h
  exact ⟨.ref l, h1, .ref l, xs.length, rfl, .inl ⟨xs, sq_of h2, rfl⟩, k _ H (.v (.int ds.length)) Kp.refl E (by rw [h3.length]; exact Dp.int _) q⟩
theorem cd_listAL {ds : List PyData} (q : Q (.n ds)) : CD K (rListOf K) [.list ds] Q := cd_listL q
theorem cd_listAT {ds : List PyData} (q : Q (.n ds)) : CD K (rListOf K) [.tuple ds] Q := fun A H vs h hA Qh k => by
  cases h with | cons h1 h2 =>
    cases h2
    cases h1 with | tup hs ha => exact ⟨_, _, rfl, .inr (ex_t wo_ex hs), fun l hl => k _ _ _ (Ex.new hl) (res_new hl hA ha) q⟩
theorem cd_divmodI {i j : Int} (hc : CDivP i j) (q : Q (.v (.tuple [.int (i / j), .int (i % j)]))) : CD K rDivmod [.int i, .int j] Q := cd_divmod hc q
theorem cd_strI {i : Int} (hc : i.natAbs.log2 < 1920) (q : Q (.v (.str (toString i)))) : CD K rStrI [.int i] Q := fun A H vs h _ Qh k => by
  cases h with | cons h1 h2 => cases h1; cases h2; exact ⟨i, rfl, hc, k _ H (.v _) ex_id (Dp.str _) q⟩
/-! ### isinstance -/
def tyD : PyData → String
  | .none => "NoneType"
  | .bool _ => "bool"
  | .int _ => "int"
  | .str _ => "str"
  | .list _ => "list"
  | .tuple _ => "tuple"
  | .dict _ => "dict"
theorem dp_ty {H : Hp} {v : V} {d : PyData} (h : Dp K H v d) : TyX K H v (.type (tyD d)) := by
  cases h with
  | non => exact .base .non
  | bl b => exact .base (.bl b)
  | int i => exact .base (.int i)
  | str x => exact .base (.str x)
  | dct h => exact .base (.dK h)
  | lst hs _ =>
    rcases hs with (h | ⟨o, h⟩) | ⟨o, its, n, h1, h2, _⟩
    · exact .base (.lst h)
    · exact .base (.frz h)
    · exact .kList h1 h2
  | tup hs _ =>
    rcases hs with (h | ⟨o, h⟩) | ⟨o, its, n, h1, h2, _⟩
    · exact .base (.tup h)
    · exact .fTuple h
    · exact .kTuple h1 h2
theorem we_isi {n : String} (h : WEx K xw te Δ fun r => ∃ b, kitB (tyD r.d) n = some b ∧ Q (.v (.bool b))) : WEx K xw (tCB (rIsi K) (tCons te (tCons (tC (.ty n)) tNil))) Δ Q := fun A H0 H σ E Qh k =>
  h A H0 H σ E _ fun v H1 r e E1 ok ⟨b, hb, q⟩ => ⟨v, .ty n, _, _, b, rfl, .ty n, (dp_ty (ok.dp.up wo_ex)), kit_ty hb, k _ H1 (.v (.bool b)) e E1 (Dp.bl b) q⟩
/-! ### slices -/
def rSlS' : V → Option Int → Option Int → Hp → VK → Prop := rSlS
def WOx (K : PySem.W.Frag) (xw : Xw) (to : TO) (Δ : List Ent) (Q : Option Int → Prop) : Prop :=
  ∀ (A : List Addr) (H0 H : Hp) (σ : L2.St), Sit K xw A H0 H σ Δ → ∀ Qh : Option Int → Hp → Prop,
    (∀ o H', Kp Δ H H' → Sit K xw A H0 H' σ Δ → Q o → Qh o H') → to σ H Qh
theorem wo_none' {Q : Option Int → Prop} (q : Q none) : WOx K xw tNoPart Δ Q := fun A H0 H σ E Qh k => k none H Kp.refl E q
theorem wo_part {Q : Option Int → Prop} (h : WEx K xw te Δ fun r => ∃ i, r.d = .int i ∧ Q (some i)) : WOx K xw (tPart te) Δ Q := fun A H0 H σ E Qh k =>
  h A H0 H σ E _ fun v H1 r e E1 ok ⟨i, hi, q⟩ => by
    have hd := ok.dp
    rw [hi] at hd
    cases hd
    exact ⟨i, rfl, k _ H1 e E1 q⟩
def cutD {α : Type} (xs : List α) (lo hi : Option Int) : List α := (xs.drop (HT.sIx xs.length 0 lo)).take (HT.sIx xs.length xs.length hi - HT.sIx xs.length 0 lo)
theorem we_slL {tl th : TO} (h : WEx K xw te Δ fun r => ∃ ds, r.d = .list ds ∧ WOx K xw tl Δ fun lo => WOx K xw th Δ fun hi => Q (.n (cutD ds lo hi))) : WEx K xw (tSl (rSlL K) te tl th) Δ Q := fun A H0 H σ E Qh k =>
  h A H0 H σ E _ fun v H1 r e1 E1 ok ⟨ds, hd, w1⟩ => w1 A H0 H1 σ E1 _ fun lo H2 e2 E2 w2 => w2 A H0 H2 σ E2 _ fun hi H3 e3 E3 q => by
    have hv := ok.dp
    rw [hd] at hv
    have hv3 := hv.up (e2.trans e3).all
    cases hv3 with
    | @lst a xs _ hs ha =>
      refine ⟨a, xs, rfl, ex_l wo_ex hs, fun p hp => ?_⟩
      have e4 : Ex H3 (upd H3 p (.lst (cutV xs lo hi))) := Ex.new hp
      have hc : DpAll K (wo H3 (A ++ ads Δ)) (cutV xs lo hi) (cutD ds lo hi) := by
        unfold cutV cutD
        rw [ha.length]
        exact (ha.drop _).take _
      exact k _ _ _ (((e1.trans e2).trans e3).trans (Kp.of e4)) (E3.ext e4) (ResOk.back E.toSit0 ((e1.trans e2).trans e3) E3.toSit0 (res_new hp (fun a m => E3.domAll m) hc)) q
theorem we_revL (h : WEx K xw te Δ fun r => ∃ ds, r.d = .list ds ∧ Q (.n ds.reverse)) : WEx K xw (tRevL K te) Δ Q := fun A H0 H σ E Qh k =>
  h A H0 H σ E _ fun v H1 r e1 E1 ok ⟨ds, hd, q⟩ => by
    have hv := ok.dp
    rw [hd] at hv
    cases hv with
    | @lst a xs _ hs ha =>
      refine ⟨a, xs, rfl, ex_l wo_ex hs, fun p hp => ?_⟩
      have e4 : Ex H1 (upd H1 p (.lst xs.reverse)) := Ex.new hp
      exact k _ _ _ (e1.trans (Kp.of e4)) (E1.ext e4) (ResOk.back E.toSit0 e1 E1.toSit0 (res_new hp (fun a m => E1.domAll m) ha.rev)) q
end
/-! ### a walk over a list or a tuple -/
def iSeq (K : PySem.W.Frag) (tl : TE) : TI := fun σ H R => tl σ H fun x H1 => ∃ a, x = .ref a ∧ (((∃ xs, SqL K H1 a xs) ∧ R (Itl K a) H1) ∨ ((∃ xs, SqT K H1 a xs) ∧ R (Itt K a) H1))
section
variable {X : Cx} {tg : Expr}
theorem pi_seq {l : Expr} {tl : TE} (hl : PE X l tl) : PI X tg l (iSeq X.K tl) := by
  refine ⟨fun pins s σ H R I h => ?_⟩
  refine thn (hl.run pins s σ H _ I h) fun v s1 ⟨x, H1, I1, r1, q1⟩ => ?_
  obtain ⟨a, e, ⟨⟨xs, hq⟩, q⟩ | ⟨⟨xs, hq⟩, q⟩⟩ := q1
  · subst e
    cases r1
    obtain ⟨its, rv, p, hz⟩ := I1.list hq
    refine wpAny_pyIter_list p.isList ?_
    refine ⟨s1.heap.objs.size, [s1.heap.objs.size], _, _, H1, rfl, I1.kept (t' := s1.toks) fun b o e => Heap.get?_push_of_some _ e, turn_list a _, ⟨_, Heap.get?_push_size _ rfl, rfl, rfl⟩, fun b hb => ?_, q⟩
    have e : b = s1.heap.objs.size := by simpa using hb
    subst e
    exact I1.fpOk (Nat.le_refl _) (I1.hok.fresh (Nat.le_refl _))
  · subst e
    cases r1
    obtain ⟨its, rv, p, hz⟩ := I1.tuple hq
    refine wpAny_pyIter_tuple (show s1.heap.IsTuple a its.toArray from p) ?_
    refine ⟨s1.heap.objs.size, [s1.heap.objs.size], _, _, H1, rfl, I1.kept (t' := s1.toks) fun b o e => Heap.get?_push_of_some _ e, turn_tuple a _, ⟨_, Heap.get?_push_size _ rfl, rfl, rfl⟩, fun b hb => ?_, q⟩
    have e : b = s1.heap.objs.size := by simpa using hb
    subst e
    exact I1.fpOk (Nat.le_refl _) (I1.hok.fresh (Nat.le_refl _))
end
section
variable {K : PySem.W.Frag} {Δ : List Ent} {tl : TE} {Q : List PyData → Prop}
theorem wi_seq (h : WEx K xw tl Δ fun r => ∃ ds, (r.d = .list ds ∨ r.d = .tuple ds) ∧ Q ds) : WIx K xw (iSeq K tl) Δ Q := fun A H0 H σ E R k =>
  h A H0 H σ E _ fun v H1 r e E1 ok ⟨ds, hd, q⟩ => by
    have hv := ok.dp
    rcases hd with hd | hd
    · rw [hd] at hv
      cases hv with
      | @lst a xs _ hs ha =>
        refine ⟨a, rfl, .inl ⟨⟨xs, ex_l wo_ex hs⟩, k _ H1 ds e E1 (fun O H2 hO x i => ⟨fun hi => ?_, fun d hi => ?_⟩) q⟩⟩
        · exact ⟨xs, ex_l wo_ex (ex_l x hs), by rw [ha.length]; exact hi⟩
        · obtain ⟨y, hy, hyd⟩ := ha.get hi
          refine ⟨⟨xs, y, ex_l wo_ex (ex_l x hs), hy⟩, fun z H3 ⟨h1, h2⟩ => ?_⟩
          subst h1
          have := h2 xs (ex_l wo_ex (ex_l x hs))
          rw [hy] at this
          cases this
          exact ⟨ex_id, hyd.up x⟩
    · rw [hd] at hv
      cases hv with
      | @tup a xs _ hs ha =>
        refine ⟨a, rfl, .inr ⟨⟨xs, ex_t wo_ex hs⟩, k _ H1 ds e E1 (fun O H2 hO x i => ⟨fun hi => ?_, fun d hi => ?_⟩) q⟩⟩
        · exact ⟨xs, ex_t wo_ex (ex_t x hs), by rw [ha.length]; exact hi⟩
        · obtain ⟨y, hy, hyd⟩ := ha.get hi
          refine ⟨⟨xs, y, ex_t wo_ex (ex_t x hs), hy⟩, fun z H3 ⟨h1, h2⟩ => ?_⟩
          subst h1
          have := h2 xs (ex_t wo_ex (ex_t x hs))
          rw [hy] at this
          cases this
          exact ⟨ex_id, hyd.up x⟩
end
/-! ### defs of the text, and what they keep -/
/-- the def st stands under its name x -/
def Def (K : PySem.W.Frag) (mg : Str → Option Value) (x : Str) (st : Stmt) : Prop := ∃ f fd, Fun K x x st f fd ∧ mg x = some (.ref f)
/-- what is called x keeps sp -/
def Has (P : Program) (w : World) (K : PySem.W.Frag) (mg : Str → Option Value) (base : Heap) (x : Str) (k : Nat) (ps : List Str) (sp : Sp) : Prop :=
  ∃ f fd, FnOk P w K mg base CX0 k f fd ps sp ∧ mg x = some (.ref f) ∧ PySem.W.keepIn K (.ref f) = true ∧ Binds K fd ps []
theorem has_of {P : Program} {w : World} {K : PySem.W.Frag} {mg : Str → Option Value} {base : Heap} {x : Str} {st : Stmt} {k : Nat} {ps : List Str} {sp : Sp} (D : Def K mg x st)
    (b : ∀ f fd, Fun K x x st f fd → Binds K fd ps []) (h : ∀ f fd, Fun K x x st f fd → FnOk P w K mg base CX0 k f fd ps sp) : Has P w K mg base x k ps sp := by
  obtain ⟨f, fd, F, m⟩ := D
  exact ⟨f, fd, h f fd F, m, F.kp, b f fd F⟩
theorem pe_callH {X : Cx} {k : Nat} {x : Str} {ps : List Str} {sp : Sp} {e : Expr} {es : List Expr} {t : TA} {p pos : Pos} (h : Has X.prog X.w X.K X.mg X.base x k ps sp) (hr : Room k X.A) (hg : Gl X x) (ha : PA X (e :: es) t)
    (hdb : (x == ("__debug__" : Str)) = false := by decide) (he : starEach (e :: es) X.env = (false, eval e X.env) :: starEach es X.env := by rfl) (hpl : (backTo pos (starEach es X.env)).any (·.1) = false := by rfl) :
    PE X (.Call (.Name x p) (e :: es) [] pos) (tCall sp [] E0 t) := by
  obtain ⟨f, fd, G, m, kp, b⟩ := h
  exact pe_call G hr hg m kp b .nil pass0 ha hdb he hpl
theorem pe_callH0 {X : Cx} {k : Nat} {x : Str} {ps : List Str} {sp : Sp} {p pos : Pos} (h : Has X.prog X.w X.K X.mg X.base x k ps sp) (hr : Room k X.A) (hg : Gl X x) (hdb : (x == ("__debug__" : Str)) = false := by decide) :
    PE X (.Call (.Name x p) [] [] pos) (tCall sp [] E0 tNil) := by
  obtain ⟨f, fd, G, m, kp, b⟩ := h
  exact pe_call0 G hr hg m kp b .nil pass0 hdb
theorem room65 {k : Nat} {A : Around} (hr : Room k A) : A.units + 65 < cLine := by have := hr.un; omega
theorem ws_par3 {K : PySem.W.Frag} {Δ : List Ent} {P : Post} {i j l : Nat} {tA : TA} (h : WAx K xw tA Δ fun ds => ∃ d1 d2 d3, ds = [d1, d2, d3] ∧ P.nx (((Δ.set i (.val d1)).set j (.val d2)).set l (.val d3))) : WSx K xw (tPar3 i j l tA) Δ P := fun A H0 H σ D E n _ _ _ =>
  h A H0 H σ E _ fun vs H1 ds e E1 ok ⟨d1, d2, d3, hd, q⟩ => by
    subst hd
    have sub : ∀ {Δ : List Ent} {i : Nat} {d : PyData} (a : Addr), a ∈ A ++ ads (Δ.set i (.val d)) → a ∈ A ++ ads Δ := fun a m => (List.mem_append.mp m).elim (fun z => List.mem_append_left _ z) fun z => List.mem_append_right _ ((ads_set_mem z).elim (fun z => by cases z) id)
    cases ok with | cons g1 g2 => cases g2 with | cons g3 g4 => cases g4 with | cons g5 g6 =>
      cases g6
      exact ⟨_, _, _, rfl, n _ _ _ (((E1.setV g1).setV (g3.up (wo_sub sub))).setV ((g5.up (wo_sub sub)).up (wo_sub sub))) q⟩
theorem we_chain {K : PySem.W.Frag} {Δ : List Ent} {Q : Rs → Prop} {ta tb tc : TE} {r r' : R2} (h : WEx K xw ta Δ fun x => WEx K xw tb Δ fun y => RD K r x.d y.d fun z => ∃ b, z.d = .bool b ∧ if b = true then WEx K xw tc Δ fun w => RD K r' y.d w.d Q else Q (.v (.bool false))) : WEx K xw (tChain r r' ta tb tc) Δ Q := fun A H0 H σ E Qh k =>
  h A H0 H σ E _ fun v1 H1 r1 e1 E1 o1 w1 => w1 A H0 H1 σ E1 _ fun v2 H2 r2 e2 E2 o2 w2 =>
    w2 (A ++ ads Δ) H2 v1 v2 (o1.dp.up e2.all) o2.dp (fun a m => E2.domAll m) _ fun v3 H3 r3 e3 o3 ⟨b, hb, q⟩ => by
      have hd := o3.dp
      rw [hb] at hd
      cases hd
      have E3 := E2.ext e3
      have k3 : Kp Δ H H3 := (e1.trans e2).trans (Kp.of e3)
      refine ⟨b, rfl, ?_⟩
      cases b with
      | false => exact k _ H3 (.v (.bool false)) k3 E3 (Dp.bl false) q
      | true =>
        show tc σ H3 _
        exact q A H0 H3 σ E3 _ fun v4 H4 r4 e4 E4 o4 w4 => w4 (A ++ ads Δ) H4 v2 v4 (o2.dp.up ((Kp.of e3).trans e4).all) o4.dp (fun a m => E4.domAll m) Qh fun v H5 rr e5 o5 q5 =>
          k v H5 rr ((k3.trans e4).trans (Kp.of e5)) (E4.ext e5) (ResOk.back E.toSit0 (k3.trans e4) E4.toSit0 o5) q5
end DL

set_option Elab.async false
set_option linter.all false
set_option maxRecDepth 100000
/-! DLX: small things for the laws' texts. -/
namespace DL
open PySem PySem.Spec PyProof.Rows L2 Evl
variable {xw : Xw}
/-- the promise of a law: a script of at most 63 ints, True comes out -/
def phi_law (ds : List PyData) (R : Rs → Prop) : Prop := ∃ ns : List Int, ds = [.list (ns.map PyData.int)] ∧ ns.length ≤ 63 ∧ R (.v (.bool true))
theorem len_law : ∀ ds R, phi_law ds R → ds.length = 1 := fun ds R ⟨ns, h, _⟩ => by rw [h]; rfl
abbrev spLaw (K : PySem.W.Frag) : Sp := SpF K phi_law
theorem law_start {K : PySem.W.Frag} (H : Hp) (a : Addr) (ns : List Int) (hl : ns.length ≤ 63) (hS : SqL K H a (ns.map V.int)) : spLaw K [.ref a] H (fun v _ => v = .bl true) fun _ _ _ => False :=
  ⟨[], _, fun r => r = .v (.bool true), .cons (.lst (by rw [wo_nil]; exact hS) (by rw [wo_nil]; exact DpAll.ints ns)) .nil, (fun a m => by cases m), ⟨ns, rfl, hl, rfl⟩, fun v H' r _ ok hr => by
    subst hr
    cases (show Dp K (wo H' []) v (.bool true) from ok)
    rfl⟩
/-- if by a known or an open truth -/
theorem if_b {b : Bool} {A B : Prop} (h1 : b = true → A) (h2 : b = false → B) : if b = true then A else B := by
  cases b with
  | true => exact h1 rfl
  | false => rw [if_neg Bool.false_ne_true]; exact h2 rfl
theorem if_d {c A B : Prop} [Decidable c] (h1 : c → A) (h2 : ¬ c → B) : if decide c = true then A else B := by
  by_cases h : c
  · rw [decide_eq_true h, if_pos rfl]; exact h1 h
  · rw [decide_eq_false h, if_neg Bool.false_ne_true]; exact h2 h
theorem if_nd {c A B : Prop} [Decidable c] (h1 : ¬ c → A) (h2 : c → B) : if (!decide c) = true then A else B := by
  by_cases h : c
  · rw [decide_eq_true h]; exact h2 h
  · rw [decide_eq_false h]; exact h1 h
theorem if_t {A B : Prop} (h : A) : if true = true then A else B := by rw [if_pos rfl]; exact h
theorem if_f {A B : Prop} (h : B) : if false = true then A else B := by rw [if_neg Bool.false_ne_true]; exact h
theorem if_nt {A B : Prop} (h : A) : if (!false) = true then A else B := if_t h
theorem if_nf {A B : Prop} (h : B) : if (!true) = true then A else B := if_f h
theorem if_dT {c A B : Prop} [Decidable c] (hc : c) (h : A) : if decide c = true then A else B := by rw [decide_eq_true hc, if_pos rfl]; exact h
theorem if_dF {c A B : Prop} [Decidable c] (hc : ¬ c) (h : B) : if decide c = true then A else B := by rw [decide_eq_false hc, if_neg Bool.false_ne_true]; exact h
theorem if_ndT {c A B : Prop} [Decidable c] (hc : c) (h : B) : if (!decide c) = true then A else B := by rw [decide_eq_true hc]; exact h
theorem if_ndF {c A B : Prop} [Decidable c] (hc : ¬ c) (h : A) : if (!decide c) = true then A else B := by rw [decide_eq_false hc]; exact h
theorem cutD_map {α β : Type} (f : α → β) (xs : List α) (lo hi : Option Int) : cutD (xs.map f) lo hi = (cutD xs lo hi).map f := by
  unfold cutD
  rw [List.length_map, List.map_take, List.map_drop]
theorem cutD_len {α : Type} (xs : List α) (lo hi : Option Int) : (cutD xs lo hi).length ≤ xs.length := by
  unfold cutD
  rw [List.length_take, List.length_drop]
  omega
/-- (script + [0])[:k] -/
theorem we_cells {K : PySem.W.Frag} {Δ : List Ent} {Q : Rs → Prop} {ns : List Int} {k : Int} (h : Δ[0]? = some (.val (.list (ns.map PyData.int)))) (hn : ns.length ≤ 63) (q : ∀ cs : List Int, cs.length ≤ 64 → Q (.n (cs.map PyData.int))) :
    WEx K xw (tSl (rSlL K) (tOp (rAddA K) (tVar 0) (tLst (tCons (tC (.int 0)) tNil))) tNoPart (tPart (tC (.int k)))) Δ Q := by
  refine we_slL (we_op (we_var h (we_lst (wa_cons (we_int (wa_nil ⟨by show 1 ≤ 100000; decide, rd_addL (by rw [List.length_map]; show ns.length + 1 ≤ 100000; omega) ⟨_, rfl, wo_none' (wo_part (we_int ⟨k, rfl, ?_⟩))⟩⟩))))))
  have e : ns.map PyData.int ++ [PyData.int 0] = (ns ++ [0]).map PyData.int := by rw [List.map_append]; rfl
  show Q (.n (cutD (ns.map PyData.int ++ [PyData.int 0]) none (some k)))
  rw [e, cutD_map]
  refine q _ (Nat.le_trans (cutD_len _ _ _) ?_)
  rw [List.length_append]
  show ns.length + 1 ≤ 64
  omega
theorem stop_lst {K : PySem.W.Frag} {Δ : List Ent} {P : Post} {ta : TA} {g : TG} (h : WSx K xw (tAsg (tLst ta) g) Δ P) : WSx K xw (tAsg (tLst ta) g) Δ P := h
/-! ### pots -/
section
variable {K : PySem.W.Frag} {Δ : List Ent} {te : TE} {P : Post} {Q : Rs → Prop} {N : List Ent → Prop}
theorem pot_pt {p : Addr} : ∀ {Δ : List Ent} {i : Nat}, Δ[i]? = some (.pot p) → p ∈ pts Δ
  | [], i, h => by simp at h
  | x :: r, 0, h => by
    simp at h; subst h
    exact List.mem_append_left _ (by simp [Ent.pt])
  | x :: r, i + 1, h => List.mem_append_right _ (pot_pt (i := i) (by simpa using h))
theorem Sit.setP {A : List Addr} {H0 H : Hp} {σ : L2.St} (E : Sit K xw A H0 H σ Δ) {i : Nat} {p : Addr} {x y : Int} (h : Δ[i]? = some (.pot p)) (b1 : 0 ≤ x) (b2 : 0 ≤ y) (b3 : y < 4294967296) :
    Sit K xw A H0 (upd H p (.lst [.int x, .int y])) σ Δ ∧ Ex (wo H (A ++ ads Δ)) (wo (upd H p (.lst [.int x, .int y])) (A ++ ads Δ)) := by
  have k : Kp Δ H (upd H p (.lst [.int x, .int y])) := fun a o z => by
    obtain ⟨m, q⟩ := wo_some z
    refine wo_mk m ?_
    rw [upd_ne (fun e => m (by rw [e]; exact pot_pt h))]
    exact q
  refine ⟨E.again k fun l ⟨x1, y1, e, q⟩ => ?_, k.all⟩
  by_cases hl : l = p
  · subst hl
    exact ⟨x, y, upd_same, b1, b2, b3⟩
  · exact ⟨x1, y1, by rw [upd_ne hl]; exact e, q⟩
theorem we_pot0 {i : Nat} {p : Addr} (h : Δ[i]? = some (.pot p)) (q : ∀ x : Int, 0 ≤ x → Q (.v (.int x))) : WEx K xw (tOp (rIx K) (tVar i) (tC (.int 0))) Δ Q := fun A H0 H σ E Qh k => by
  obtain ⟨h1, x, y, e, b1, b2, b3⟩ := E.ents i _ h
  exact ⟨.ref p, h1, .inl ⟨p, _, 0, .int x, rfl, rfl, sq_of e, rfl, k _ H (.v (.int x)) Kp.refl E (Dp.int x) (q x b1)⟩⟩
theorem we_pot1 {i : Nat} {p : Addr} (h : Δ[i]? = some (.pot p)) (q : ∀ y : Int, 0 ≤ y → y < 4294967296 → Q (.v (.int y))) : WEx K xw (tOp (rIx K) (tVar i) (tC (.int 1))) Δ Q := fun A H0 H σ E Qh k => by
  obtain ⟨h1, x, y, e, b1, b2, b3⟩ := E.ents i _ h
  exact ⟨.ref p, h1, .inl ⟨p, _, 1, .int y, rfl, rfl, sq_of e, rfl, k _ H (.v (.int y)) Kp.refl E (Dp.int y) (q y b2 b3)⟩⟩
theorem wg_pot0 {i : Nat} {p : Addr} {z : Int} (h : Δ[i]? = some (.pot p)) (hz : 0 ≤ z) (q : N Δ) : WGx K xw (gSub (tVar i) (tC (.int 0)) rSetL) (.int z) Δ N := fun A H0 H σ v E hd Qh k => by
  cases hd
  obtain ⟨h1, x, y, e, b1, b2, b3⟩ := E.ents i _ h
  obtain ⟨E2, x2⟩ := E.setP h hz b2 b3
  exact ⟨.ref p, h1, p, _, 0, 0, rfl, rfl, e, rfl, k _ _ _ E2 x2 q⟩
theorem wg_pot1 {i : Nat} {p : Addr} {z : Int} (h : Δ[i]? = some (.pot p)) (hz : 0 ≤ z) (hz2 : z < 4294967296) (q : N Δ) : WGx K xw (gSub (tVar i) (tC (.int 1)) rSetL) (.int z) Δ N := fun A H0 H σ v E hd Qh k => by
  cases hd
  obtain ⟨h1, x, y, e, b1, b2, b3⟩ := E.ents i _ h
  obtain ⟨E2, x2⟩ := E.setP h b1 hz hz2
  exact ⟨.ref p, h1, p, _, 1, 1, rfl, rfl, e, rfl, k _ _ _ E2 x2 q⟩
end
end DL

set_option Elab.async false
set_option linter.all false
set_option maxRecDepth 100000
/-! FRX: fractions as data. -/
namespace DL
open PySem PySem.Spec PyProof.Rows L2 Evl
variable {xw : Xw}
abbrev Fr := Int × Int
abbrev frD (x : Fr) : PyData := .tuple [.int x.1, .int x.2]
/-- in lowest terms, the bottom above 0, both below 2 ^ b -/
def Fq (b : Nat) (x : Fr) : Prop := 0 < x.2 ∧ Int.gcd x.1 x.2 = 1 ∧ x.1.natAbs < 2 ^ b ∧ x.2.natAbs < 2 ^ b
theorem Fq.mono {b c : Nat} {x : Fr} (h : Fq b x) (hbc : b ≤ c) : Fq c x := ⟨h.1, h.2.1, Nat.lt_of_lt_of_le h.2.2.1 (Nat.pow_le_pow_right (by decide) hbc), Nat.lt_of_lt_of_le h.2.2.2 (Nat.pow_le_pow_right (by decide) hbc)⟩
def ltF (x y : Fr) : Prop := x.1 * y.2 < y.1 * x.2
instance (x y : Fr) : Decidable (ltF x y) := by unfold ltF; exact inferInstance
theorem lt_trans_le {x y z : Fr} (hx : 0 < x.2) (hy : 0 < y.2) (hz : 0 < z.2) (h1 : ¬ ltF y x) (h2 : ¬ ltF z y) : ¬ ltF z x := by
  unfold ltF at *
  have a : x.1 * y.2 ≤ y.1 * x.2 := by omega
  have b : y.1 * z.2 ≤ z.1 * y.2 := by omega
  have a2 : x.1 * y.2 * z.2 ≤ y.1 * x.2 * z.2 := Int.mul_le_mul_of_nonneg_right a (by omega)
  have b2 : y.1 * z.2 * x.2 ≤ z.1 * y.2 * x.2 := Int.mul_le_mul_of_nonneg_right b (by omega)
  have e1 : y.1 * x.2 * z.2 = y.1 * z.2 * x.2 := by rw [Int.mul_assoc, Int.mul_comm x.2 z.2, ← Int.mul_assoc]
  have c : x.1 * z.2 * y.2 ≤ z.1 * x.2 * y.2 := by
    have e2 : x.1 * z.2 * y.2 = x.1 * y.2 * z.2 := by rw [Int.mul_assoc, Int.mul_comm z.2 y.2, ← Int.mul_assoc]
    have e3 : z.1 * x.2 * y.2 = z.1 * y.2 * x.2 := by rw [Int.mul_assoc, Int.mul_comm x.2 y.2, ← Int.mul_assoc]
    omega
  have d := Int.le_of_mul_le_mul_right c hy
  omega
theorem not_lt_self (x : Fr) : ¬ ltF x x := by unfold ltF; omega
theorem shaped_fr (x : Fr) : SeqAt.shaped (frD x) = true := by simp [SeqAt.shaped, frD, PyData.canLay0, PyData.canLayAll0, PyData.depth, PyData.depthAll]
theorem lay_frs : ∀ l : List Fr, PyData.canLayAll0 (l.map frD) = true
  | [] => by simp [PyData.canLayAll0]
  | x :: l => by
    have h := lay_frs l
    simp only [List.map_cons, PyData.canLayAll0, h, frD, PyData.canLay0, Bool.and_true]
theorem depth_frs : ∀ l : List Fr, PyData.depthAll (l.map frD) ≤ 1
  | [] => by simp [PyData.depthAll]
  | x :: l => by
    have h := depth_frs l
    simp only [List.map_cons, PyData.depthAll, frD, PyData.depth]
    omega
theorem shaped_frs (l : List Fr) : SeqAt.shaped (.list (l.map frD)) = true := by
  have h := depth_frs l
  have h2 : PyData.depth (.list (l.map frD)) ≤ 64 := by
    simp only [PyData.depth]
    omega
  show (PyData.canLay0 (.list (l.map frD)) && decide (PyData.depth (.list (l.map frD)) ≤ 64)) = true
  rw [Bool.and_eq_true]
  exact ⟨by simp only [PyData.canLay0]; exact lay_frs l, decide_eq_true h2⟩
theorem eqv_fr (x y : Fr) : PyData.eqv (frD x) (frD y) = decide (x = y) := by
  obtain ⟨a, b⟩ := x
  obtain ⟨c, d⟩ := y
  have e : PyData.eqv (frD (a, b)) (frD (c, d)) = ((a == c) && ((b == d) && true)) := by simp only [frD, PyData.eqv, PyData.eqvAll]
  rw [e]
  by_cases h1 : a = c
  · by_cases h2 : b = d
    · subst h1 h2; simp
    · simp [h1, h2]
  · simp [h1]
theorem eqv_frs : ∀ l l' : List Fr, PyData.eqvAll (l.map frD) (l'.map frD) = decide (l = l')
  | [], [] => by simp [PyData.eqvAll]
  | [], _ :: _ => by simp [PyData.eqvAll]
  | _ :: _, [] => by simp [PyData.eqvAll]
  | x :: l, y :: l' => by
    simp only [List.map_cons, PyData.eqvAll]
    rw [eqv_fr, eqv_frs l l']
    by_cases h1 : x = y
    · by_cases h2 : l = l'
      · subst h1 h2; simp
      · simp [h1, h2]
    · simp [h1]
theorem eqv_listfr (l l' : List Fr) : PyData.eqv (.list (l.map frD)) (.list (l'.map frD)) = decide (l = l') := by
  simp only [PyData.eqv]
  exact eqv_frs l l'
theorem any_fr (l : List Fr) (x : Fr) : ((l.map frD).any fun z => PyData.eqv z (frD x)) = decide (x ∈ l) := by
  induction l with
  | nil => simp
  | cons y l ih =>
    rw [List.map_cons, List.any_cons, ih, eqv_fr]
    by_cases h1 : y = x
    · subst h1; simp
    · by_cases h2 : x ∈ l
      · simp [h2]
      · have h3 : ¬ x = y := fun e => h1 e.symm
        simp [h1, h2, h3]
theorem rd_eqF {K : PySem.W.Frag} {Q : Rs → Prop} {a b c d : Int} (q : Q (.v (.bool (decide ((a, b) = (c, d)))))) : RD K (rEqD K) (.tuple [.int a, .int b]) (.tuple [.int c, .int d]) Q := rd_eqD (shaped_fr (a, b)) (shaped_fr (c, d)) (by rw [eqv_fr (a, b) (c, d)]; exact q)
theorem rd_neF {K : PySem.W.Frag} {Q : Rs → Prop} {a b c d : Int} (q : Q (.v (.bool (!decide ((a, b) = (c, d)))))) : RD K (rNeD K) (.tuple [.int a, .int b]) (.tuple [.int c, .int d]) Q := rd_neD (shaped_fr (a, b)) (shaped_fr (c, d)) (by rw [eqv_fr (a, b) (c, d)]; exact q)
theorem get_map {α : Type} {f : α → PyData} {l : List α} {i : Nat} {d : PyData} (h : (l.map f)[i]? = some d) : ∃ x, l[i]? = some x ∧ d = f x := by
  rw [List.getElem?_map] at h
  cases e : l[i]? with
  | none => rw [e] at h; cases h
  | some x => rw [e] at h; exact ⟨x, rfl, (Option.some.inj h).symm⟩
theorem at_map {α : Type} {f : α → PyData} {l : List α} {j : Int} {n : Nat} (h0 : 0 ≤ j) (h1 : j < (n : Int)) (hn : l.length = n) : ∃ x, x ∈ l ∧ atI (l.map f) j = some (f x) := by
  obtain ⟨k, rfl⟩ := Int.eq_ofNat_of_zero_le h0
  have hk : k < l.length := by omega
  refine ⟨l[k], List.getElem_mem hk, atI_nat ?_⟩
  rw [List.getElem?_map, List.getElem?_eq_getElem hk]
  rfl
end DL

set_option Elab.async false
set_option linter.all false
set_option maxRecDepth 100000
/-! DL5: great divisions, constants of the top, more list words, owned lists lent. -/
namespace DL
open PySem PySem.Spec PyProof.Rows L2 Evl
variable {xw : Xw}
/-! ### // of any size: where nobody looks, and with a hundred calls of room, Python's own helper module does it -/
abbrev rFdivP : R2 := rI (fun _ j => 0 < j) fun i j => .int (i / j)
theorem op_fdivP {X : Cx} (hse : X.base.NoSeer) (htr : X.prog.given.tree = none) (hr : Room 32 X.A) (hst : X.stack = X.env :: X.outer) (hgen : X.env.scope.isGenerator = false) (hco : X.env.scope.isCoroutine = false) : OpR X (binaryOp .FloorDiv) rFdivP := by
  intro pins s σ H x y v u Q I rx ry h
  obtain ⟨i, j, rfl, rfl, hc, q⟩ := h
  obtain ⟨t, rfl⟩ := rx
  obtain ⟨t', rfl⟩ := ry
  have hj : (0 : Int) < j := hc
  refine floordiv_int (by omega) ?_ (.inr (PylongRoom.of I.nolimit ?_ (SeerAt.of (hse.keeps I.bk) htr (by rw [I.ok.frames, hst]) hgen hco I.ok.blt I.ok.glob)))
  · rw [Int.fdiv_eq_ediv_of_nonneg i (by omega)]
    exact ⟨.int _, H, I.tok _, ⟨_, rfl⟩, q⟩
  · have := hr.dp
    show X.A.depth + 100 < _
    omega
/-! ### the law's call, with what nobody sees -/
theorem hid_seer {h : Heap} {H : Hp} {a : Addr} {vs : List Value} (hS : h.NoSeer) (ha : h.get? a = some { cls := .type "list", data := .seq vs.toArray }) (hA : ∀ b, H b ≠ none → b = a) : (hidT h H).NoSeer := by
  have other : ∀ {b : Addr} {o : Obj}, h.get? b = some o → (∀ n, o.data ≠ .seq vs.toArray n) → (hidT h H).get? b = some o := fun {b o} e d => by
    refine hidT_get e ?_
    cases q : H b with
    | none => rfl
    | some u =>
      have e' : b = a := hA b (by rw [q]; simp)
      subst e'
      rw [ha] at e
      cases e
      exact absurd rfl (d _)
  have names : ∀ {b : Addr} {m : Str → Option Value}, h.Ns b m → (hidT h H).Ns b m := fun {b m} ⟨o, es, ep, e, d, r⟩ => ⟨o, es, ep, other e (fun n z => by rw [d] at z; cases z), d, r⟩
  obtain ⟨mc, c1, c2⟩ := hS.statics
  obtain ⟨mm, m1, m2⟩ := hS.mods
  obtain ⟨mb, b1, b2⟩ := hS.imp
  obtain ⟨mg, bm, ob, g1, g2, g3, g4, g5⟩ := hS.main
  refine ⟨⟨mc, names c1, c2⟩, ⟨mm, names m1, m2⟩, ⟨mb, names b1, b2⟩, ⟨mg, bm, ob, names g1, g2, ?_, g4, g5⟩⟩
  refine hidT_get g3 ?_
  cases q : H bm with
  | none => rfl
  | some u =>
    have e' : bm = a := hA bm (by rw [q]; simp)
    subst e'
    rw [ha] at g3
    cases g3
    exact absurd (show Value.type "list" = Value.type "module" from g4) (by decide)
/-- as the layer's law_call, the ground's seer handed on -/
theorem law_callR {P : Program} {w : World} {K : PySem.W.Frag} {mg mb : Str → Option Value} {CX : CXT} {fa a : Addr} {fd : FuncData} {x : Str} {sp : Sp} {s₁ : Shared} {vs : List Value} {ns : List Int}
    (kin : K.In s₁.heap) (hm : s₁.heap.Ns mainGlobals mg) (hbl : s₁.heap.Ns builtinsNs mb) (hbb : ∀ x : Str, x ≠ "__name__" → mb x = bootBuiltins x) (hlim : s₁.heap.NoLimit) (hS : s₁.heap.NoSeer) (hg : s₁.gens = #[])
    (ha : s₁.heap.get? a = some { cls := .type "list", data := .seq vs.toArray }) (hi : IntsAre vs ns) (hl : ns.length ≤ sizeLine)
    (F : ∀ base : Heap, K.In base → base.Ns mainGlobals mg → base.NoSeer → ∀ (s : Shared) (H : Hp) (args : Args) (us : List Value) (vs : List V) (Q : VK) (E : XK), Env0 P w K mg base callerA [] s H → BindsTo s fd args ([x].zip us) → Vals vs us → sp vs H Q E → codeAny (model P w) callerA (.call (.ref fa) args) (CR CX [] P w H s Q E) s) (hbind : ∀ (s : Shared) (u : Value), BindsTo s fd ⟨[u], []⟩ [(x, u)])
    (hsp : ∀ H : Hp, Only H → SqL K H a (ns.map V.int) → sp [.ref a] H (fun v _ => v = .bl true) fun _ _ _ => False)
    (hCX : ∀ H e s', CX [] H s₁ (fun _ _ _ => False) e s' → False) :
    codeAny (model P w) callerA (.call (.ref fa) ⟨[.ref a], []⟩) (fun r s' => r = .ok (.ret (.bool true)) ∧ OldK s₁.heap s'.heap ∧ s'.os = s₁.os ∧ AllBare s'.gens) s₁ := by
  -- F over a base that is known to be seen by nobody: the base is the heap without the script, or the heap itself
  have main : ∀ H : Hp, Only H → SqL K H a (ns.map V.int) → HOk P w H s₁.heap → (∀ b, H b ≠ none → b = a) → (H a ≠ none → K.lookup a = none) → (hidT s₁.heap H).NoSeer →
      codeAny (model P w) callerA (.call (.ref fa) ⟨[.ref a], []⟩) (fun r s' => r = .ok (.ret (.bool true)) ∧ OldK s₁.heap s'.heap ∧ s'.os = s₁.os ∧ AllBare s'.gens) s₁ := fun H o1 o2 o3 o4 o5 o6 => by
    have gone : ∀ {b : Addr}, b ≠ a → H b = none := fun {b} nb => by
      cases q : H b with
      | none => rfl
      | some u => exact absurd (o4 b (by rw [q]; simp)) nb
    have inBase : K.In (hidT s₁.heap H) := fun b o e => by
      refine hidT_get (kin b o e) ?_
      by_cases nb : b = a
      · subst nb
        cases q : H b with
        | none => rfl
        | some u =>
          have z := o5 (by rw [q]; simp)
          rw [z] at e
          cases e
      · exact gone nb
    have nsBase : ∀ {b : Addr} {m : Str → Option Value}, s₁.heap.Ns b m → (hidT s₁.heap H).Ns b m := fun {b m} ⟨o, es, ep, e, d, r⟩ => by
      refine ⟨o, es, ep, hidT_get e (gone fun nb => ?_), d, r⟩
      subst nb
      rw [ha] at e
      cases e
      exact absurd d (fun z => by cases z)
    obtain ⟨ml, l1, l2⟩ := hlim
    have module : Mod K mg (hidT s₁.heap H) := ⟨inBase, nsBase hm, ⟨mb, nsBase hbl, hbb⟩, ⟨ml, nsBase l1, l2⟩⟩
    have entry : Env0 P w K mg (hidT s₁.heap H) callerA [] s₁ H := by
      refine ⟨rfl, module, fun b o e => of_hidT e, Nat.le_of_eq (hidT_size _ _), trivial, fun b hb => ?_, o3, .of_eq hg⟩
      exact absurd (show b ∈ ([] : List Addr) from hb) (by simp)
    have run := F _ inBase (nsBase hm) o6 s₁ H ⟨[.ref a], []⟩ [.ref a] [.ref a] _ _ entry (hbind s₁ (.ref a)) (.cons rfl .nil) (hsp H o1 o2)
    refine codeAny_mono run fun r s' h => ?_
    cases r with
    | error e => exact (hCX H e s' h).elim
    | ok fl =>
      cases fl with
      | next => exact h.elim
      | brk => exact h.elim
      | cont => exact h.elim
      | ret u =>
        obtain ⟨v, H', os, bare, un, hok', r', q⟩ := h
        have q' : v = .bl true := q
        subst q'
        obtain rfl : u = Value.bool true := r'
        refine ⟨rfl, OldK.of_keep fun b o e => ?_, os, bare⟩
        cases z : H b with
        | none => exact un.keep b o e z (fun m => absurd (show b ∈ ([] : List Addr) from m) (by simp)) (by simp)
        | some u =>
          rcases o1 b with z1 | ⟨ob, xs, z1⟩
          · rw [z] at z1; cases z1
          · have f1 := (o3 b _ z1).1
            have f2 := (hok' b _ (un.frzs b ob _ z1)).1
            rw [e] at f1
            cases f1
            exact f2
  have rv := vals_ints hi
  have lenV := hi.length
  cases hk : K.lookup a with
  | some o =>
    have e := kin a o hk
    rw [ha] at e
    cases e
    have none_ : ∀ b : Addr, (fun _ : Addr => (none : Option HO)) b ≠ none → b = a := fun b z => absurd rfl z
    refine main (fun _ => none) (fun _ => .inl rfl) (.inr ⟨_, vs.toArray, _, hk, rfl, rfl, rfl, ?_, by simpa using rv⟩) (fun b u z => ?_) none_ (fun z => absurd rfl z) (hid_seer hS ha none_)
    · rw [List.size_toArray, lenV]
      exact hl
    · cases (show (none : Option HO) = some u from z)
  | none =>
    let H1 : Hp := fun b => if b = a then some (.frz { cls := .type "list", data := .seq vs.toArray } (.lst (ns.map V.int))) else none
    have only : ∀ b : Addr, H1 b ≠ none → b = a := fun b z => by
      by_cases nb : b = a
      · exact nb
      · exact absurd (if_neg nb) z
    refine main H1 (fun b => ?_) (.inl (.inr ⟨_, if_pos rfl⟩)) (fun b u z => ?_) only (fun _ => hk) (hid_seer hS ha only)
    · by_cases nb : b = a
      · exact .inr ⟨_, _, if_pos nb⟩
      · exact .inl (if_neg nb)
    · by_cases nb : b = a
      · have z2 := (if_pos nb).symm.trans z
        cases z2
        subst nb
        exact ⟨ha, by rw [List.length_map]; exact hl, vs, _, rv, ha⟩
      · have z2 := (if_neg nb).symm.trans z
        cases z2
theorem law_callS {P : Program} {w : World} {K : PySem.W.Frag} {mg mb : Str → Option Value} {CX : CXT} {k : Nat} {fa a : Addr} {fd : FuncData} {x : Str} {sp : Sp} {s₁ : Shared} {vs : List Value} {ns : List Int}
    (kin : K.In s₁.heap) (hm : s₁.heap.Ns mainGlobals mg) (hbl : s₁.heap.Ns builtinsNs mb) (hbb : ∀ x : Str, x ≠ "__name__" → mb x = bootBuiltins x) (hlim : s₁.heap.NoLimit) (hS : s₁.heap.NoSeer) (hg : s₁.gens = #[])
    (ha : s₁.heap.get? a = some { cls := .type "list", data := .seq vs.toArray }) (hi : IntsAre vs ns) (hl : ns.length ≤ sizeLine) (hr : Room k callerA)
    (F : ∀ base : Heap, K.In base → base.Ns mainGlobals mg → base.NoSeer → FnOk P w K mg base CX k fa fd [x] sp) (hbind : ∀ (s : Shared) (u : Value), BindsTo s fd ⟨[u], []⟩ [(x, u)])
    (hsp : ∀ H : Hp, Only H → SqL K H a (ns.map V.int) → sp [.ref a] H (fun v _ => v = .bl true) fun _ _ _ => False)
    (hCX : ∀ H e s', CX [] H s₁ (fun _ _ _ => False) e s' → False) :
    codeAny (model P w) callerA (.call (.ref fa) ⟨[.ref a], []⟩) (fun r s' => r = .ok (.ret (.bool true)) ∧ OldK s₁.heap s'.heap ∧ s'.os = s₁.os ∧ AllBare s'.gens) s₁ :=
  law_callR kin hm hbl hbb hlim hS hg ha hi hl (fun base b1 b2 b3 s H args us vs Q E e0 hb r h => (F base b1 b2 b3).run callerA [] s H args us vs Q E hr e0 hb r h) hbind hsp hCX
theorem walk_ofS {l : PySem.W.OpenLaw} {n k : Nat} {q : Program} {loose : List Str} {XP : (Str → Option Value) → Heap → Prop} {YP : World → Heap → Prop} {d : DefRec} {K : Params → PySem.W.Frag} {CX : World → CXT} {sp : World → Sp} {x : Str}
    (hn : l.most = some n) (hn2 : n ≤ sizeLine) (hdf : d.params.defaults = []) (hr : Room k callerA) (hin : importsNone q = true)
    (hY : ∀ (w : World) (h : Heap), YP w h → (K w.params).In h)
    (F : ∀ (w : World) (mg : Str → Option Value) (fa : Addr) (h : Heap), (K w.params).In h → h.Ns mainGlobals mg → mg d.name = some (.ref fa) →
      ∃ fd : FuncData, (∀ (s : Shared) (u : Value), BindsTo s fd ⟨[u], []⟩ [(x, u)]) ∧
        ∀ base : Heap, (K w.params).In base → base.Ns mainGlobals mg → base.NoSeer → FnOk l.prog w (K w.params) mg base (CX w) k fa fd [x] (sp w))
    (hsp : ∀ (w : World) (H : Hp) (a : Addr) (ns : List Int), ns.length ≤ n → Only H → SqL (K w.params) H a (ns.map V.int) → sp w [.ref a] H (fun v _ => v = .bl true) fun _ _ _ => False)
    (hCX : ∀ (w : World) (H : Hp) (s : Shared) (e : Value) (s' : Shared), CX w [] H s (fun _ _ _ => False) e s' → False) :
    PySem.W.WalkO q loose XP YP l.row.toRowW d [] (fun f vs => PySem.call f vs) :=
  Att.attach_call hn hdf fun w s₀ s₁ mg mb fa o pm cd doc a vs ns G Y ho hd hcd hmg hobj hints hlen hg => by
    obtain ⟨fd, hb, hF⟩ := F w mg fa _ (hY w _ Y) G.T.g hmg
    exact law_callS (hY w _ Y) G.T.g G.T.b G.T.builtins G.T.nolimit (G.T.seer hin) hg hobj hints (Nat.le_trans hlen hn2) hr hF hb (fun H hO h => hsp w H a ns hlen hO h) fun H e s' => hCX w H s₁ e s'
/-! ### constants of the top -/
def Gc (K : PySem.W.Frag) (mg : Str → Option Value) (x : Str) (d : PyData) : Prop := ∃ v u, mg x = some u ∧ RelV v u ∧ ∀ H, Dp K H v d
def tGl (K : PySem.W.Frag) (d : PyData) : TE := fun _ H Q => ∀ v, (∀ H', Dp K H' v d) → Q v H
theorem pe_const {X : Cx} {x : Str} {d : PyData} {pos : Pos} (g : Gc X.K X.mg x d) (hg : Gl X x) (hd : (x == ("__debug__" : Str)) = false := by decide) : PE X (.Name x pos) (tGl X.K d) := by
  obtain ⟨v, u, h1, h2, h3⟩ := g
  exact pe_imp (pe_glob hg h1 h2 hd) fun σ H Q z => z v h3
theorem we_const {K : PySem.W.Frag} {Δ : List Ent} {Q : Rs → Prop} {d : PyData} (q : Q (.v d)) : WEx K xw (tGl K d) Δ Q := fun A H0 H σ E Qh k v hv => k v H (.v d) Kp.refl E (hv _) q
theorem gc_tup2 {K : PySem.W.Frag} {h : Heap} {mg : Str → Option Value} {x : Str} {a : Addr} {i j : Int} {t1 t2 : Tok} {od : Option Addr} {n : Nat} {sl : Array (Option Value)} (X : K.In h) (G : h.Ns mainGlobals mg)
    (h1 : PySem.W.nsIn K mainGlobals x = some (some (.ref a))) (h2 : K.lookup a = some ⟨.type "tuple", od, .seq #[.int i t1, .int j t2] n, sl⟩) : Gc K mg x (.tuple [.int i, .int j]) :=
  ⟨.ref a, .ref a, PySem.W.mg_of X G h1, rfl, fun H => .tup (xs := [.int i, .int j]) (.inr ⟨_, #[.int i t1, .int j t2], n, h2, rfl, rfl, by show 2 ≤ sizeLine; decide, .cons ⟨_, rfl⟩ (.cons ⟨_, rfl⟩ .nil)⟩) (.cons (.int i) (.cons (.int j) .nil))⟩
/-! ### is of truths -/
theorem rd_isB {K : PySem.W.Frag} {Q : Rs → Prop} {a b : Bool} (q : Q (.v (.bool (decide (a = b))))) : RD K rIsB (.bool a) (.bool b) Q := fun A H v1 v2 h1 h2 _ Qh k => by
  cases h1; cases h2
  exact ⟨a, b, rfl, rfl, k _ H (.v _) ex_id (Dp.bl _) q⟩
theorem rd_notB {K : PySem.W.Frag} {Q : Rs → Prop} {a b : Bool} (q : Q (.v (.bool (!decide (a = b))))) : RD K rNotB (.bool a) (.bool b) Q := fun A H v1 v2 h1 h2 _ Qh k => by
  cases h1; cases h2
  exact ⟨a, b, rfl, rfl, k _ H (.v _) ex_id (Dp.bl _) q⟩
/-! ### tuple(x), int(b) -/
def rTupOf (K : PySem.W.Frag) : List V → Hp → VK → Prop := fun xs H Q => ∃ p ys, xs = [.ref p] ∧ ((SqL K H p ys ∧ ∀ l, H l = none → Q (.ref l) (upd H l (.tup ys))) ∨ (SqT K H p ys ∧ Q (.ref p) H))
theorem c_tuple {X : Cx} : CallR X (.type "tuple") (rTupOf X.K) := call_tuple_of
theorem cd_tupL {K : PySem.W.Frag} {Q : Rs → Prop} {ds : List PyData} (q : Q (.v (.tuple ds))) : CD K (rTupOf K) [.list ds] Q := fun A H vs h hA Qh k => by
  cases h with | cons h1 h2 =>
    cases h2
    cases h1 with | @lst a xs _ hs ha =>
      refine ⟨_, _, rfl, .inl ⟨ex_l wo_ex hs, fun l hl => ?_⟩⟩
      have e : Ex H (upd H l (.tup xs)) := Ex.new hl
      exact k _ _ (.v _) e (Dp.tup (.inl (.inl (wo_mk (fun m => hA l m hl) upd_same))) (ha.up (wo_le e))) q
theorem cd_tupT {K : PySem.W.Frag} {Q : Rs → Prop} {ds : List PyData} (q : Q (.v (.tuple ds))) : CD K (rTupOf K) [.tuple ds] Q := fun A H vs h hA Qh k => by
  cases h with | cons h1 h2 =>
    cases h2
    cases h1 with | tup hs ha => exact ⟨_, _, rfl, .inr ⟨ex_t wo_ex hs, k _ H (.v _) ex_id (Dp.tup hs ha) q⟩⟩
def rIntOf : List V → Hp → VK → Prop := fun xs H Q => (∃ i, xs = [.int i] ∧ Q (.int i) H) ∨ ∃ k, xs = [.bl k] ∧ Q (.int (if k then 1 else 0)) H
theorem c_int {X : Cx} : CallR X (.type "int") rIntOf := call_int1
theorem cd_intB {K : PySem.W.Frag} {Q : Rs → Prop} {b : Bool} (q : Q (.v (.int (if b then 1 else 0)))) : CD K rIntOf [.bool b] Q := fun A H vs h hA Qh k => by
  cases h with | cons h1 h2 => cases h2; cases h1; exact .inr ⟨b, rfl, k _ H (.v _) ex_id (Dp.int _) q⟩
/-! ### enumerate -/
theorem enum2_get : ∀ {as : List PyData} {n i : Nat} {d : PyData}, (enum2 n as)[i]? = some d → ∃ a, as[i]? = some a ∧ d = .tuple [.int ((n + i : Nat) : Int), a]
  | a :: as, n, 0, d, h => ⟨a, rfl, (Option.some.inj h).symm⟩
  | a :: as, n, i + 1, d, h => by
    obtain ⟨x, h1, h2⟩ := enum2_get (as := as) (n := n + 1) (i := i) (show (enum2 (n + 1) as)[i]? = some d from h)
    exact ⟨x, h1, by rw [h2, show n + 1 + i = n + (i + 1) by omega]⟩
  | [], _, _, _, h => by simp [enum2] at h
theorem enum2_len : ∀ {as : List PyData} {n : Nat}, (enum2 n as).length = as.length
  | [], _ => rfl
  | a :: as, n => by
    show (enum2 (n + 1) as).length + 1 = as.length + 1
    rw [enum2_len]
theorem wi_enum {K : PySem.W.Frag} {Δ : List Ent} {ta : TA} {Q : List PyData → Prop} (h : WAx K xw ta Δ fun ds => ∃ as, ds = [.list as] ∧ Q (enum2 0 as)) : WIx K xw (iEnum K ta) Δ Q := fun A H0 H σ E R k =>
  h A H0 H σ E _ fun vs H1 ds e E1 ok ⟨as, hd, q⟩ => by
    subst hd
    cases ok with | cons g1 g2 =>
      cases g2
      cases g1 with | @lst a xs _ ha hxa =>
        refine ⟨a, xs, rfl, ex_l wo_ex ha, k _ H1 _ e E1 (fun O H2 hO x i => ⟨fun hi => ?_, fun d hi => ?_⟩) q⟩
        · rw [enum2_len] at hi
          exact ⟨xs, ex_l wo_ex (ex_l x ha), by rw [hxa.length]; exact hi⟩
        · obtain ⟨d1, i1, rfl⟩ := enum2_get hi
          obtain ⟨y1, hy1, hd1⟩ := hxa.get i1
          refine ⟨⟨xs, y1, ex_l wo_ex (ex_l x ha), hy1⟩, fun z H3 ⟨T, x1, ez, nT, e3, f1⟩ => ?_⟩
          subst ez e3
          have q1 := f1 xs (ex_l wo_ex (ex_l x ha))
          rw [hy1] at q1; cases q1
          have en : Ex H2 (upd H2 T (.tup [.int (i : Nat), y1])) := Ex.new nT
          refine ⟨en, .tup (.inl (.inl (wo_mk (fun m => hO T m nT) upd_same))) (.cons ?_ (.cons ((hd1.up x).up (wo_le en)) .nil))⟩
          rw [Nat.zero_add]
          exact .int _
/-! ### owned lists: extend, pop, reverse, clear; a list times a number -/
section
variable {K : PySem.W.Frag} {Δ : List Ent} {P : Post} {te tb : TE} {Q : Rs → Prop}
theorem ws_ext {i : Nat} {l : Addr} {ds : List PyData} (h : Δ[i]? = some (.own l ds)) (w : WEx K xw te Δ fun r => ∃ es, r = .n es ∧ ds.length + es.length ≤ 100000 ∧ P.nx (Δ.set i (.own l (ds ++ es)))) :
    WSx K xw (tDrop (tBM K "list" rExtend (tVar i) (tCons te tNil))) Δ P := fun A H0 H σ D E n _ _ _ => by
  obtain ⟨h1, xs, h2, h3⟩ := E.ents i _ h
  refine ⟨.ref l, h1, Or.inl ⟨rfl, xs, sq_of h2⟩, w A H0 H σ E _ fun v H1 r e E1 ok ⟨es, hr, hz, q⟩ => ?_⟩
  subst hr
  obtain ⟨b, zs, rfl, b1, b2, b3, b4⟩ := ok
  obtain ⟨_, ys, g2, g3⟩ := E1.ents i _ h
  refine ⟨l, b, ys, zs, rfl, rfl, g2, b3, sz_of (by rw [g3.length, b4.length]; exact hz), n _ _ _ (E1.setO h (g3.app (b4.up (wo_sub fun a m => List.mem_cons_of_mem _ m)))) q⟩
theorem ws_rev {i : Nat} {l : Addr} {ds : List PyData} (h : Δ[i]? = some (.own l ds)) (q : P.nx (Δ.set i (.own l ds.reverse))) : WSx K xw (tDrop (tBM0 K "list" rReverse (tVar i))) Δ P := fun A H0 H σ D E n _ _ _ => by
  obtain ⟨h1, xs, h2, h3⟩ := E.ents i _ h
  exact ⟨.ref l, h1, Or.inl ⟨rfl, xs, sq_of h2⟩, l, xs, rfl, rfl, h2, n _ _ _ (E.setO h h3.rev) q⟩
theorem ws_clear {i : Nat} {l : Addr} {ds : List PyData} (h : Δ[i]? = some (.own l ds)) (q : P.nx (Δ.set i (.own l []))) : WSx K xw (tDrop (tBM0 K "list" rClear (tVar i))) Δ P := fun A H0 H σ D E n _ _ _ => by
  obtain ⟨h1, xs, h2, h3⟩ := E.ents i _ h
  exact ⟨.ref l, h1, Or.inl ⟨rfl, xs, sq_of h2⟩, l, xs, rfl, rfl, h2, n _ _ _ (E.setO h .nil) q⟩
/-- x = f(xs.pop(), ..), xs owned -/
theorem ws_popCall {i j : Nat} {l : Addr} {ds : List PyData} {d : PyData} {tr : TA} {φ : List PyData → (Rs → Prop) → Prop} {E0 : XK} (h : Δ[i]? = some (.own l (ds ++ [d])))
    (w : WAx K xw tr (Δ.set i (.own l ds)) fun es => φ (d :: es) fun r => P.nx ((Δ.set i (.own l ds)).set j (.val r.d))) :
    WSx K xw (tAsg (tCall (SpF K φ) [] E0 (tCons (tBM0 K "list" rPop (tVar i)) tr)) (gName j)) Δ P := fun A H0 H σ D E n _ _ _ => by
  obtain ⟨h1, xs, h2, h3⟩ := E.ents i _ h
  obtain ⟨ys, y, rfl, k1, k2⟩ : ∃ ys y, xs = ys ++ [y] ∧ DpAll K (wo H (A ++ ads Δ)) ys ds ∧ Dp K (wo H (A ++ ads Δ)) y d := by
    have hl := h3.length
    rw [List.length_append] at hl
    have hx : xs = xs.take ds.length ++ xs.drop ds.length := (List.take_append_drop _ _).symm
    have a1 := h3.take ds.length
    rw [List.take_left'] at a1
    · have a2 := h3.drop ds.length
      rw [List.drop_left'] at a2
      · cases hd : xs.drop ds.length with
        | nil => rw [hd] at a2; cases a2
        | cons y r =>
          rw [hd] at a2
          cases a2 with
          | cons b1 b2 =>
            cases b2
            exact ⟨_, y, by rw [← hd]; exact hx, a1, b1⟩
      · rfl
    · rfl
  have E1 : Sit K xw A H0 (upd H l (.lst ys)) σ (Δ.set i (.own l ds)) := E.setO h k1
  have sameA : ads (Δ.set i (.own l ds)) = ads Δ := ads_set_eq h rfl
  have up : Ex (wo H (A ++ ads Δ)) (wo (upd H l (.lst ys)) (A ++ ads (Δ.set i (.own l ds)))) := fun a o z => by
    obtain ⟨m, q⟩ := wo_some z
    rw [sameA]
    refine wo_mk m ?_
    rw [upd_ne (fun e => m (by rw [e]; exact List.mem_append_right _ (ad_mem h (by simp [Ent.ad]))))]
    exact q
  refine ⟨.ref l, h1, Or.inl ⟨rfl, _, sq_of h2⟩, l, ys ++ [y], y, rfl, rfl, h2, by simp, ?_⟩
  rw [List.dropLast_concat]
  refine w A H0 _ σ E1 _ fun vs H2 es e2 E2 ok2 q2 => ?_
  show SpF K φ ((y :: vs) ++ []) H2 _ E0
  rw [List.append_nil]
  exact ⟨A ++ ads (Δ.set i (.own l ds)), d :: es, _, .cons ((k2.up up).up e2.all) ok2, fun a m => E2.domAll m, q2, fun v H' r e o z => n H' _ _ ((E2.ext e).setV o.dp) z⟩
/-- [x, ..] * n -/
theorem we_rep {tr : TA} (h : WAx K xw tr Δ fun ds => ds.length ≤ 100000 ∧ WEx K xw tb Δ fun r => ∃ k : Int, r.d = .int k ∧ -100000 ≤ k ∧ k ≤ 100000 ∧ ds.length * k.toNat ≤ 100000 ∧ Q (.n (List.replicate k.toNat ds).flatten)) :
    WEx K xw (tOp rMulA (tLst tr) tb) Δ Q := fun A H0 H σ E Qh k =>
  h A H0 H σ E _ fun vs H1 ds e1 E1 o1 ⟨hl, w⟩ => ⟨sz_of (by rw [o1.length]; exact hl), fun p hp => by
    have e2 : Ex H1 (upd H1 p (.lst vs)) := Ex.new hp
    have E2 := E1.ext e2
    have pn : p ∉ pts Δ := fun m => E1.domAll (List.mem_append_right _ (pts_ads m)) hp
    refine w A H0 _ σ E2 _ fun v H3 r e3 E3 o3 ⟨n, hn, b1, b2, b3, q⟩ => ?_
    have hd := o3.dp
    rw [hn] at hd
    cases hd
    have hp3 : H3 p = some (.lst vs) := (wo_some (e3 p _ (wo_mk pn upd_same))).2
    have o3' : DpAll K (wo H3 (A ++ ads Δ)) vs ds := (o1.up (wo_le e2)).up e3.all
    refine .inr ⟨p, n, vs, rfl, rfl, hp3, by omega, by omega, sz_of (by rw [o1.length]; exact b3), fun p4 hp4 => ?_⟩
    have e4 : Ex H3 (upd H3 p4 (.lst (List.replicate n.toNat vs).flatten)) := Ex.new hp4
    have k03 : Kp Δ H H3 := (e1.trans (Kp.of e2)).trans e3
    exact k _ _ _ (k03.trans (Kp.of e4)) (E3.ext e4) (ResOk.back E.toSit0 k03 E3.toSit0 (res_new hp4 (fun a m => E3.domAll m) (o3'.rep n.toNat))) q⟩
end
/-! ### an owned list lent to a reading that does not change it -/
mutual
def flatD : PyData → Bool
  | .list _ => false
  | .tuple ds => flatDs ds
  | _ => true
def flatDs : List PyData → Bool
  | [] => true
  | d :: ds => flatD d && flatDs ds
end
section
variable {K : PySem.W.Frag} {H : Hp} {O : List Addr} {l : Addr} {xs : List V}
theorem wo_tup {a : Addr} {ys : List V} (hl : H l = some (.lst xs)) (h : SqT K (wo H O) a ys) : SqT K (wo H (l :: O)) a ys := by
  have ne : ∀ {u : HO}, wo H O a = some u → u ≠ .lst xs → wo H (l :: O) a = some u := fun {u} e d => by
    obtain ⟨m, q⟩ := wo_some e
    refine wo_mk (fun w => ?_) q
    rcases List.mem_cons.mp w with rfl | w
    · rw [hl] at q; cases q; exact d rfl
    · exact m w
  rcases h with (h | ⟨o, h⟩) | h
  · exact .inl (.inl (ne h (fun z => by cases z)))
  · exact .inl (.inr ⟨o, ne h (fun z => by cases z)⟩)
  · exact .inr h
mutual
theorem dp_flat (hl : H l = some (.lst xs)) : ∀ (d : PyData) (v : V), flatD d = true → Dp K (wo H O) v d → Dp K (wo H (l :: O)) v d
  | .none, _, _, h => by cases h; exact .non
  | .bool b, _, _, h => by cases h; exact .bl b
  | .int i, _, _, h => by cases h; exact .int i
  | .str x, _, _, h => by cases h; exact .str x
  | .list ds, _, f, _ => by simp [flatD] at f
  | .tuple ds, _, f, h => by cases h with | tup hs ha => exact .tup (wo_tup hl hs) (dpa_flat hl ds _ (by simpa [flatD] using f) ha)
  | .dict _, _, _, h => by
    cases h with
    | dct q =>
      obtain ⟨m, q⟩ := wo_some q
      refine .dct (wo_mk (fun w => ?_) q)
      rcases List.mem_cons.mp w with rfl | w
      · rw [hl] at q; cases q
      · exact m w
theorem dpa_flat (hl : H l = some (.lst xs)) : ∀ (ds : List PyData) (vs : List V), flatDs ds = true → DpAll K (wo H O) vs ds → DpAll K (wo H (l :: O)) vs ds
  | [], _, _, h => by cases h; exact .nil
  | d :: ds, _, f, h => by
    have f2 : flatD d = true ∧ flatDs ds = true := by simpa [flatDs] using f
    cases h with | cons h1 h2 => exact .cons (dp_flat hl d _ f2.1 h1) (dpa_flat hl ds _ f2.2 h2)
end
end
def Rs.flat : Rs → Prop
  | .v d => flatD d = true
  | .n ds => flatDs ds = true
section
variable {K : PySem.W.Frag} {Δ : List Ent} {te : TE} {tt : TT} {Q : Rs → Prop}
theorem pts_freeze {i : Nat} {l : Addr} {ds : List PyData} (h : Δ[i]? = some (.own l ds)) : pts (Δ.set i (.val (.list ds))) = pts Δ := by
  have : ∀ {Δ : List Ent} {i : Nat}, Δ[i]? = some (.own l ds) → pts (Δ.set i (.val (.list ds))) = pts Δ := by
    intro Δ
    induction Δ with
    | nil => intro i h; simp at h
    | cons x r ih =>
      intro i h
      cases i with
      | zero => simp at h; subst h; rfl
      | succ i =>
        show x.pt ++ pts (r.set i _) = x.pt ++ pts r
        rw [ih (by simpa using h)]
  exact this h
theorem we_lend {i : Nat} {l : Addr} {ds : List PyData} (h : Δ[i]? = some (.own l ds)) (w : WEx K xw te (Δ.set i (.val (.list ds))) fun r => r.flat ∧ Q r) : WEx K xw te Δ Q := fun A H0 H σ E Qh k => by
  have Ef := E.freeze h
  have hl0 : ∃ xs, H l = some (.lst xs) := let ⟨_, xs, q, _⟩ := E.ents i _ h; ⟨xs, q⟩
  have ep := pts_freeze h
  refine w A H0 H σ Ef _ fun v H' r e E' ok ⟨fl, q⟩ => ?_
  have kp : Kp Δ H H' := by unfold Kp at e ⊢; rw [← ep]; exact e
  have Eo : Sit K xw A H0 H' σ Δ := E.again kp fun a ha => e.pot E'.toSit0 ha
  obtain ⟨_, xs, hl, _⟩ := Eo.ents i _ h
  have sub : ∀ a, a ∈ A ++ ads Δ → a ∈ l :: (A ++ ads (Δ.set i (.val (.list ds)))) := fun a m => by
    rcases List.mem_append.mp m with m | m
    · exact List.mem_cons_of_mem _ (List.mem_append_left _ m)
    · obtain ⟨j, f, g1, g2⟩ := mem_ad m
      by_cases hj : i = j
      · subst hj
        rw [h] at g1
        cases g1
        rw [show a = l by simpa [Ent.ad] using g2]
        exact List.mem_cons_self
      · exact List.mem_cons_of_mem _ (List.mem_append_right _ (ad_mem (i := j) (by rw [List.getElem?_set_ne hj]; exact g1) g2))
  refine k v H' r kp Eo ?_ q
  cases r with
  | v d => exact (dp_flat hl d v fl (show Dp K (wo H' _) v d from ok)).up (wo_sub sub)
  | n es =>
    obtain ⟨p, ys, h1, h2, h3, h4, h5⟩ := ok
    obtain ⟨xs0, hl0⟩ := hl0
    refine ⟨p, ys, h1, h2, fun m => ?_, h4, (dpa_flat hl es ys fl h5).up (wo_sub fun a m => ?_)⟩
    · rcases List.mem_cons.mp (sub p m) with rfl | m2
      · rw [h2] at hl0; cases hl0
      · exact h3 m2
    · rcases List.mem_cons.mp m with rfl | m
      · exact List.mem_cons_of_mem _ List.mem_cons_self
      · rcases List.mem_cons.mp (sub a m) with rfl | m2
        · exact List.mem_cons_self
        · exact List.mem_cons_of_mem _ (List.mem_cons_of_mem _ m2)
theorem we_lendO {i : Nat} {l : Addr} {ds : List PyData} {r : R2} {tb : TE} (h : Δ[i]? = some (.own l ds)) (w : WEx K xw (tOp r (tVar i) tb) (Δ.set i (.val (.list ds))) fun r => r.flat ∧ Q r) : WEx K xw (tOp r (tVar i) tb) Δ Q := we_lend h w
theorem we_lendO2 {i : Nat} {l : Addr} {ds : List PyData} {r : R2} {tb : TE} (h : Δ[i]? = some (.own l ds)) (w : WEx K xw (tOp r tb (tVar i)) (Δ.set i (.val (.list ds))) fun r => r.flat ∧ Q r) : WEx K xw (tOp r tb (tVar i)) Δ Q := we_lend h w
theorem we_lendC1 {i : Nat} {l : Addr} {ds : List PyData} {sp : Sp} {E : XK} {tr : TA} (h : Δ[i]? = some (.own l ds)) (w : WEx K xw (tCall sp [] E (tCons (tVar i) tr)) (Δ.set i (.val (.list ds))) fun r => r.flat ∧ Q r) : WEx K xw (tCall sp [] E (tCons (tVar i) tr)) Δ Q := we_lend h w
theorem we_lendC2 {i : Nat} {l : Addr} {ds : List PyData} {sp : Sp} {E : XK} {tr : TA} {ta : TE} (h : Δ[i]? = some (.own l ds)) (w : WEx K xw (tCall sp [] E (tCons ta (tCons (tVar i) tr))) (Δ.set i (.val (.list ds))) fun r => r.flat ∧ Q r) : WEx K xw (tCall sp [] E (tCons ta (tCons (tVar i) tr))) Δ Q := we_lend h w
theorem we_lendB1 {i : Nat} {l : Addr} {ds : List PyData} {r : List V → Hp → VK → Prop} {tr : TA} (h : Δ[i]? = some (.own l ds)) (w : WEx K xw (tCB r (tCons (tVar i) tr)) (Δ.set i (.val (.list ds))) fun r => r.flat ∧ Q r) : WEx K xw (tCB r (tCons (tVar i) tr)) Δ Q := we_lend h w
theorem stop_bm {P : Post} {T : String} {r : V → List V → Hp → VK → Prop} {ta : TE} {tr : TA} (h : WSx K xw (tDrop (tBM K T r ta tr)) Δ P) : WSx K xw (tDrop (tBM K T r ta tr)) Δ P := h
theorem stop_bm0 {P : Post} {T : String} {r : V → List V → Hp → VK → Prop} {ta : TE} (h : WSx K xw (tDrop (tBM0 K T r ta)) Δ P) : WSx K xw (tDrop (tBM0 K T r ta)) Δ P := h
theorem flat_bool (b : Bool) : (Rs.v (.bool b)).flat := by simp [Rs.flat, flatD]
theorem flat_int (b : Int) : (Rs.v (.int b)).flat := by simp [Rs.flat, flatD]
theorem flat_none : (Rs.v .none).flat := by simp [Rs.flat, flatD]
theorem wt_lend {i : Nat} {l : Addr} {ds : List PyData} {Q : Bool → Prop} (h : Δ[i]? = some (.own l ds)) (w : WTx K xw tt (Δ.set i (.val (.list ds))) Q) : WTx K xw tt Δ Q := fun A H0 H σ E Qh k => by
  have ep := pts_freeze h
  refine w A H0 H σ (E.freeze h) _ fun b H' e E' q => ?_
  have kp : Kp Δ H H' := by unfold Kp at e ⊢; rw [← ep]; exact e
  exact k b H' kp (E.again kp fun a ha => e.pot E'.toSit0 ha) q
end
/-! ### isinstance, by the data's own shape -/
@[reducible] def isTupD : PyData → Bool
  | .tuple _ => true
  | _ => false
@[reducible] def isLstD : PyData → Bool
  | .list _ => true
  | _ => false
@[reducible] def isIntD : PyData → Bool
  | .int _ => true
  | .bool _ => true
  | _ => false
@[reducible] def isBoolD : PyData → Bool
  | .bool _ => true
  | _ => false
@[reducible] def isStrD : PyData → Bool
  | .str _ => true
  | _ => false
theorem kit_tup (d : PyData) : kitB (tyD d) "tuple" = some (isTupD d) := by cases d <;> rfl
theorem kit_lst (d : PyData) : kitB (tyD d) "list" = some (isLstD d) := by cases d <;> rfl
theorem kit_int (d : PyData) : kitB (tyD d) "int" = some (isIntD d) := by cases d <;> rfl
theorem kit_bool (d : PyData) : kitB (tyD d) "bool" = some (isBoolD d) := by cases d <;> rfl
theorem kit_str (d : PyData) : kitB (tyD d) "str" = some (isStrD d) := by cases d <;> rfl
section
variable {K : PySem.W.Frag} {Δ : List Ent} {te : TE} {Q : Rs → Prop}
theorem we_isTup (h : WEx K xw te Δ fun r => Q (.v (.bool (isTupD r.d)))) : WEx K xw (tCB (rIsi K) (tCons te (tCons (tC (.ty "tuple")) tNil))) Δ Q := we_isi (we_imp h fun r q => ⟨_, kit_tup r.d, q⟩)
theorem we_isLst (h : WEx K xw te Δ fun r => Q (.v (.bool (isLstD r.d)))) : WEx K xw (tCB (rIsi K) (tCons te (tCons (tC (.ty "list")) tNil))) Δ Q := we_isi (we_imp h fun r q => ⟨_, kit_lst r.d, q⟩)
theorem we_isInt (h : WEx K xw te Δ fun r => Q (.v (.bool (isIntD r.d)))) : WEx K xw (tCB (rIsi K) (tCons te (tCons (tC (.ty "int")) tNil))) Δ Q := we_isi (we_imp h fun r q => ⟨_, kit_int r.d, q⟩)
theorem we_isBool (h : WEx K xw te Δ fun r => Q (.v (.bool (isBoolD r.d)))) : WEx K xw (tCB (rIsi K) (tCons te (tCons (tC (.ty "bool")) tNil))) Δ Q := we_isi (we_imp h fun r q => ⟨_, kit_bool r.d, q⟩)
theorem we_isStr (h : WEx K xw te Δ fun r => Q (.v (.bool (isStrD r.d)))) : WEx K xw (tCB (rIsi K) (tCons te (tCons (tC (.ty "str")) tNil))) Δ Q := we_isi (we_imp h fun r q => ⟨_, kit_str r.d, q⟩)
end
end DL

set_option Elab.async false
set_option linter.all false
set_option maxRecDepth 100000
/-! ZN: zip of any number of lists, drawn turn by turn; made of three and of four. -/
namespace DL
open PySem PySem.Spec PyProof.Rows L2 Evl
abbrev TupAt (h : Heap) (T : Addr) (vs : List Value) : Prop := h.get? T = some { cls := .type "tuple", data := .seq vs.toArray }
structure ZApart (z TI TO : Addr) (its ls : List Addr) : Prop where
  nd : (z :: TI :: TO :: its).Nodup
  far : ∀ l, l ∈ ls → l ∉ z :: TO :: its
  len : its.length = ls.length
structure ZSt (h0 h : Heap) (z TI TO : Addr) (its ls : List Addr) (f0 : Value) (vs : List Value) (k m : Nat) : Prop where
  zp : IsZip h z TI TO f0
  to : TupAt h TO vs
  vl : vs.length = its.length
  it : ∀ (j : Nat) (a l : Addr), its[j]? = some a → ls[j]? = some l → h.IsListIter a l (if j < m then k + 1 else k)
  keep : ∀ c o, c ∉ z :: TO :: its → h0.get? c = some o → h.get? c = some o
  size : h.objs.size = h0.objs.size
theorem nodup_get : ∀ {xs : List Addr} {i j : Nat} {a : Addr}, xs.Nodup → xs[i]? = some a → xs[j]? = some a → i = j
  | [], _, _, _, _, h, _ => by simp at h
  | x :: r, 0, 0, _, _, _, _ => rfl
  | x :: r, 0, j + 1, a, n, h, g => by
    have h1 : x = a := by simpa using h
    have h2 : r[j]? = some a := by simpa using g
    rw [List.nodup_cons] at n
    exact absurd (List.mem_of_getElem? h2) (h1 ▸ n.1)
  | x :: r, i + 1, 0, a, n, h, g => by
    have h1 : x = a := by simpa using g
    have h2 : r[i]? = some a := by simpa using h
    rw [List.nodup_cons] at n
    exact absurd (List.mem_of_getElem? h2) (h1 ▸ n.1)
  | x :: r, i + 1, j + 1, a, n, h, g => by
    rw [List.nodup_cons] at n
    rw [nodup_get (xs := r) (i := i) (j := j) (a := a) n.2 (by simpa using h) (by simpa using g)]
section
variable {prog : Program} {w : World} {A : Around} {E : Value → Shared → Prop} {s : Shared} {z TI TO : Addr} {its ls : List Addr}
theorem ZApart.zTO (D : ZApart z TI TO its ls) : TO ≠ z := fun e => by
  have := D.nd
  simp [e] at this
theorem ZApart.zTI (D : ZApart z TI TO its ls) : TI ≠ z := fun e => by
  have := D.nd
  simp [e] at this
theorem ZApart.TITO (D : ZApart z TI TO its ls) : TI ≠ TO := fun e => by
  have := D.nd
  simp [e] at this
theorem ZApart.zi (D : ZApart z TI TO its ls) {a : Addr} (h : a ∈ its) : a ≠ z := fun e => by
  have := D.nd
  simp at this
  exact this.1.2.2 (e ▸ h)
theorem ZApart.TIi (D : ZApart z TI TO its ls) {a : Addr} (h : a ∈ its) : a ≠ TI := fun e => by
  have := D.nd
  simp at this
  exact this.2.1.2 (e ▸ h)
theorem ZApart.TOi (D : ZApart z TI TO its ls) {a : Addr} (h : a ∈ its) : a ≠ TO := fun e => by
  have := D.nd
  simp at this
  exact this.2.2.1 (e ▸ h)
theorem ZApart.ndi (D : ZApart z TI TO its ls) : its.Nodup := by
  have := D.nd
  simp at this
  exact this.2.2.2
theorem ZApart.lz (D : ZApart z TI TO its ls) {l : Addr} (h : l ∈ ls) : l ≠ z := fun e => D.far l h (by simp [e])
theorem ZApart.lTO (D : ZApart z TI TO its ls) {l : Addr} (h : l ∈ ls) : l ≠ TO := fun e => D.far l h (by simp [e])
theorem ZApart.li (D : ZApart z TI TO its ls) {l a : Addr} (h : l ∈ ls) (ha : a ∈ its) : l ≠ a := fun e => D.far l h (by rw [e]; simp [ha])
theorem zapart_TI (D : ZApart z TI TO its ls) : TI ∉ z :: TO :: its := fun m => by
  have := D.nd
  simp at this m
  rcases m with m | m | m
  · exact this.1.1 m.symm
  · exact this.2.1.1 m
  · exact this.2.1.2 m
theorem zip_draw (D : ZApart z TI TO its ls) {xss : List (Array Value)} {k : Nat} {vs : List Value} {Q : Value → Shared → Prop} (hh : A.handled = none ∨ ∀ (j : Nat) (xs : Array Value), xss[j]? = some xs → xs[k]?.isSome = true) (hne : its ≠ []) (hxl : xss.length = its.length) (hsz : its.length ≤ 1000)
    (hl : ∀ (j : Nat) (l : Addr) (xs : Array Value), ls[j]? = some l → xss[j]? = some xs → s.heap.IsList l xs)
    (hS : ZSt s.heap s.heap z TI TO its ls .none vs k 0) (hTI : TupAt s.heap TI (its.map Value.ref))
    (hQ : ∀ h' ws, ws.length = its.length → (∀ (j : Nat) (xs : Array Value), xss[j]? = some xs → xs[k]? = ws[j]?) → IsZip h' z TI TO (rawInt s.heap.objs.size) → TupAt h' TO ws → (∀ (j : Nat) (a l : Addr), its[j]? = some a → ls[j]? = some l → h'.IsListIter a l (k + 1)) →
      TupAt h' s.heap.objs.size ws → h'.objs.size = s.heap.objs.size + 1 → (∀ c o, c ∉ z :: TO :: its → s.heap.get? c = some o → h'.get? c = some o) → Q (.ref s.heap.objs.size) { s with heap := h' })
    (hE : (∃ (j : Nat) (xs : Array Value), xss[j]? = some xs ∧ xs[k]? = none) → ∀ h' e, (∀ c o, c ∉ z :: TO :: its → s.heap.get? c = some o → h'.get? c = some o) → (∃ o, h'.get? e = some o ∧ o.cls = .type "StopIteration") → E (.ref e) { s with heap := h' }) :
    wpAny (model prog w) A (Builtin.«zip.__next__» ⟨[.ref z], []⟩) (fun fin s' => ∃ v, fin = .done (.ret v) ∧ Q v s') E s := by
  have hz := hS.zp
  show wpAny _ _ (field (.ref z) 2 >>= _) _ _ _
  refine wpAny_bind (wpAny_field hz rfl (x := .bool false) rfl ?_)
  show wpAny _ _ (field (.ref z) 3 >>= _) _ _ _
  refine wpAny_bind (wpAny_field hz rfl (x := .ref TI) rfl ?_)
  refine wpAny_bind (wpAny_seqItems hTI rfl ?_)
  have hem : ((its.map Value.ref).toArray).isEmpty = false := by
    cases its with
    | nil => exact absurd rfl hne
    | cons a r => rfl
  simp only [hem]
  show wpAny _ _ (Builtin.SmallTypes.ownedTupleIsFree (.ref z) >>= _) _ _ _
  refine wpAny_bind ?_
  unfold Builtin.SmallTypes.ownedTupleIsFree
  refine wpAny_bind (wpAny_field hz rfl (x := .none) rfl (wpAny_pure ?_))
  simp only [if_true]
  refine wpAny_bind (wpAny_rule ?_)
  refine wpAny_bind (wpAny_field hz rfl (x := .ref TO) rfl ?_)
  refine wpAny_bind (wpAny_setField_rec hz (by simp) fun h₁ hz₁ hs₁ => ?_)
  replace hz₁ : IsZip h₁ z TI TO .ellipsis := hz₁
  have st0 : ZSt s.heap h₁ z TI TO its ls .ellipsis vs k 0 := by
    refine ⟨hz₁, hs₁.extBut _ _ D.zTO hS.to, hS.vl, fun j a l e1 e2 => ?_, fun c o hc e => hs₁.extBut _ _ (fun q => hc (by simp [q])) e, hs₁.1⟩
    exact (hS.it j a l e1 e2).extBut hs₁.extBut (D.zi (List.mem_of_getElem? e1))
  refine wpAny_bind (wpAny_forIn_list _ (I := fun rest b s' => ∃ (m : Nat) (ws : List Value) (h' : Heap), rest = (its.map Value.ref).zipIdx.drop m ∧ m ≤ its.length ∧ b = (none, ()) ∧ s' = { s with heap := h' } ∧
      ZSt s.heap h' z TI TO its ls .ellipsis ws k m ∧ ∀ (j : Nat) (xs : Array Value), j < m → xss[j]? = some xs → xs[k]? = ws[j]?) _ ?turn ?fin _ _ ?start)
  case start => exact ⟨0, vs, h₁, by simp, Nat.zero_le _, rfl, rfl, st0, fun j xs hj => absurd hj (Nat.not_lt_zero _)⟩
  case fin =>
    rintro b s' ⟨m, ws, h', hr, hm, rfl, rfl, st, hw⟩
    have hm2 : m = its.length := by
      have := congrArg List.length hr
      simp at this
      omega
    subst hm2
    refine wpAny_bind (wpAny_seqItems st.to rfl ?_)
    show wpAny _ _ (newTuple ws.toArray.toList >>= _) _ _ _
    have e1 : ws.toArray.toList = ws := by simp
    rw [e1]
    refine wpAny_bind (wpAny_newTuple ?_ (sz_of (by rw [st.vl]; omega)))
    have hz₅ := st.zp
    show wpAny _ _ (Builtin.SmallTypes.ownedTupleHandOut (.ref z) (.ref h'.objs.size) >>= _) _ _ _
    refine wpAny_bind ?_
    unfold Builtin.SmallTypes.ownedTupleHandOut
    have hz₆ : IsZip (h'.push { cls := .type "tuple", data := .seq ws.toArray }) z TI TO .ellipsis := Heap.get?_push_of_some _ hz₅
    refine wpAny_bind (wpAny_setField_rec hz₆ (by simp) fun h₇ hz₇ hs₇ => ?_)
    replace hz₇ : IsZip h₇ z TI TO (rawInt h'.objs.size) := hz₇
    refine wpAny_setField_rec hz₇ (by simp) fun h₈ hz₈ hs₈ => wpAny_pure ⟨_, rfl, ?_⟩
    replace hz₈ : IsZip h₈ z TI TO (rawInt h'.objs.size) := hz₈
    have up : ∀ c o, c ≠ z → h'.get? c = some o → h₈.get? c = some o := fun c o c1 e => hs₈.extBut _ _ c1 (hs₇.extBut _ _ c1 (Heap.get?_push_of_some _ e))
    have hzl : z < h'.objs.size := Heap.lt_size hz₅
    have nT : h'.objs.size ≠ z := Nat.ne_of_gt hzl
    have hT : TupAt h₈ h'.objs.size ws := hs₈.extBut _ _ nT (hs₇.extBut _ _ nT (Heap.get?_push_size _ rfl))
    have h8 : h₈.objs.size = h'.objs.size + 1 := by rw [hs₈.1, hs₇.1, Heap.size_push]
    rw [st.size] at hz₈ hT h8
    show Q (.ref h'.objs.size) _
    rw [st.size]
    refine hQ h₈ ws st.vl (fun j xs e => hw j xs ?_ e) hz₈ (up _ _ D.zTO st.to) (fun j a l e1 e2 => ?_) hT h8 fun c o hc e => up c o (fun q => hc (by simp [q])) (st.keep c o hc e)
    · have := (List.getElem?_eq_some_iff.mp e).1
      omega
    · have i1 := st.it j a l e1 e2
      have hj := (List.getElem?_eq_some_iff.mp e1).1
      rw [if_pos hj] at i1
      exact i1.at fun o e => up _ o (D.zi (List.mem_of_getElem? e1)) e
  case turn =>
    rintro x rest b s' ⟨m, ws, h', hr, hm, rfl, rfl, st, hw⟩
    have hlt : m < its.length := by
      have := congrArg List.length hr
      simp at this
      omega
    have hx : x = (Value.ref its[m], m) := by
      have h0 : ((its.map Value.ref).zipIdx.drop m)[0]? = some x := by rw [← hr]; rfl
      rw [List.getElem?_drop, Nat.add_zero, List.getElem?_zipIdx, List.getElem?_map, List.getElem?_eq_getElem hlt] at h0
      simpa using h0.symm
    have hrest : rest = (its.map Value.ref).zipIdx.drop (m + 1) := by
      have := congrArg List.tail hr
      rwa [List.tail_drop] at this
    subst hx
    have hll : m < ls.length := by rw [← D.len]; exact hlt
    have hxx : m < xss.length := by rw [hxl]; exact hlt
    have e1 : its[m]? = some its[m] := List.getElem?_eq_getElem hlt
    have e2 : ls[m]? = some ls[m] := List.getElem?_eq_getElem hll
    have e3 : xss[m]? = some xss[m] := List.getElem?_eq_getElem hxx
    have mi : its[m] ∈ its := List.getElem_mem hlt
    have ml : ls[m] ∈ ls := List.getElem_mem hll
    have hli : h'.IsList ls[m] xss[m] := (hl m _ _ e2 e3).at fun o e => st.keep _ o (D.far _ ml) e
    have hii : h'.IsListIter its[m] ls[m] k := by
      have := st.it m _ _ e1 e2
      rwa [if_neg (Nat.lt_irrefl _)] at this
    refine wpAny_bind (wpAny_onRaise ?_)
    show wpAny _ _ (Builtin.SmallTypes.nextOf (.ref its[m]) >>= _) _ _ _
    cases hy : xss[m][k]? with
    | none =>
      have hh' : A.handled = none := by
        rcases hh with h | h
        · exact h
        · have := h m _ e3
          rw [hy] at this
          cases this
      refine wpAny_bind (wpAny_nextOf_list_end hh' hii hli hy fun h₂ e hs₂ he => ?_)
      obtain ⟨oe, hoe, hce⟩ := he
      have hz₂ : IsZip h₂ z TI TO .ellipsis := hs₂ _ _ (D.zi mi).symm st.zp
      have hez : e ≠ z := fun x => by subst x; rw [hz₂] at hoe; cases hoe; simp at hce
      refine wpAny_setField_rec hz₂ (by simp) fun h₃ _ hs₃ => hE ⟨m, _, e3, hy⟩ h₃ e (fun c o hc q => hs₃.extBut _ _ (fun q => hc (by simp [q])) (hs₂ _ _ (fun q => hc (by simp [q, mi])) (st.keep c o hc q))) ⟨oe, hs₃.extBut _ _ hez hoe, hce⟩
    | some y =>
      refine wpAny_bind (wpAny_nextOf_list_item hii hli hy fun h₂ h1₂ hs₂ => wpAny_pure ?_)
      have hTO₂ : TupAt h₂ TO ws := hs₂.extBut _ _ (D.TOi mi).symm st.to
      refine wpAny_bind (wpAny_seqItems hTO₂ rfl ?_)
      refine wpAny_bind (wpAny_updateSeq hTO₂ rfl ?_ (sz_of (by rw [List.size_toArray, st.vl]; omega)) ?_)
      rotate_left
      · have := sz_of (n := its.length) (by omega)
        rw [Array.size_setIfInBounds, List.size_toArray, st.vl]
        omega
      refine wpAny_bind (wpAny_letGo (wpAny_pure ?_))
      have sb : Heap.SameBut TO h₂ (h₂.update TO (Obj.mapSeq fun x => x.setIfInBounds m y)) := Heap.SameBut.update ..
      have hTO₃ : TupAt (h₂.update TO (Obj.mapSeq fun x => x.setIfInBounds m y)) TO (ws.set m y) := by
        unfold TupAt
        rw [Heap.get?_update_self _ hTO₂ rfl]
        simp [Obj.mapSeq]
      refine ⟨m + 1, ws.set m y, _, hrest, hlt, rfl, rfl, ⟨?_, hTO₃, by rw [List.length_set]; exact st.vl, fun j a l q1 q2 => ?_, fun c o hc e => ?_, ?_⟩, fun j xs hj e => ?_⟩
      · exact sb.extBut _ _ D.zTO.symm (hs₂.extBut _ _ (D.zi mi).symm st.zp)
      · by_cases hjm : j = m
        · subst hjm
          rw [e1] at q1
          rw [e2] at q2
          cases q1
          cases q2
          rw [if_pos (Nat.lt_succ_self _)]
          exact h1₂.extBut sb.extBut (D.TOi mi)
        · have := st.it j a l q1 q2
          have ha : a ≠ its[m] := fun e => hjm (nodup_get D.ndi q1 (e ▸ e1))
          have e4 : (if j < m + 1 then k + 1 else k) = if j < m then k + 1 else k := by
            by_cases h1 : j < m
            · rw [if_pos h1, if_pos (by omega)]
            · rw [if_neg h1, if_neg (by omega)]
          rw [e4]
          exact (this.extBut hs₂.extBut ha).extBut sb.extBut (D.TOi (List.mem_of_getElem? q1))
      · exact sb.extBut _ _ (fun q => hc (by simp [q])) (hs₂.extBut _ _ (fun q => hc (by simp [q, mi])) (st.keep c o hc e))
      · rw [sb.1, hs₂.1, st.size]
      · by_cases hjm : j = m
        · subst hjm
          rw [e3] at e
          cases e
          rw [hy, List.getElem?_set_self (by rw [st.vl]; exact hlt)]
        · rw [List.getElem?_set_ne (Ne.symm hjm)]
          exact hw j xs (by omega) e
end
end DL

set_option Elab.async false
set_option linter.all false
set_option maxRecDepth 100000
/-! ZT: zip(a, b, c), zip(a, b, c, d) walked. -/
namespace DL
open PySem PySem.Spec PyProof.Rows L2 Evl
abbrev lit (l : Addr) : Obj := { cls := .type "list_iterator", data := .fields #[.ref l, .int 0 0] }
/-- the zip of ls is at n + ls.length + 2, its iterators from n on -/
structure ZNew (h h' : Heap) (ls : List Addr) : Prop where
  its : ∀ (j : Nat) (l : Addr), ls[j]? = some l → h'.IsListIter (h.objs.size + j) l 0
  ti : TupAt h' (h.objs.size + ls.length) ((List.range ls.length).map fun j => Value.ref (h.objs.size + j))
  to : TupAt h' (h.objs.size + ls.length + 1) (List.replicate ls.length .none)
  zp : IsZip h' (h.objs.size + ls.length + 2) (h.objs.size + ls.length) (h.objs.size + ls.length + 1) .none
  keep : ∀ c o, h.get? c = some o → h'.get? c = some o
  size : h'.objs.size = h.objs.size + ls.length + 3
theorem meets_zipN (ls : List Addr) (hn : ls.length ≤ 1000) :
    Meets (Builtin.«zip.__new__» ⟨.type "zip" :: ls.map Value.ref, []⟩) (fun _ R s => (∀ (j : Nat) (l : Addr), ls[j]? = some l → ∃ xs, s.heap.IsList l xs) ∧
      ∀ h', ZNew s.heap h' ls → R (.ok (.ret (.ref (s.heap.objs.size + ls.length + 2)))) { s with heap := h' }) :=
  .of_wp fun prog w A R s h => by
    obtain ⟨hp, g, d, tk, os⟩ := s; obtain ⟨hl1, h⟩ := h
    have hsub := sub_zip
    wp_walk
    show wpAny _ _ (forIn (ls.map Value.ref) #[] _) _ _ _
    refine wpAny_forIn_list _ (I := fun rest b s' => ∃ (m : Nat) (h' : Heap), rest = (ls.map Value.ref).drop m ∧ m ≤ ls.length ∧ b = ((List.range m).map fun j => Value.ref (hp.objs.size + j)).toArray ∧ s' = ⟨h', g, d, tk, os⟩ ∧
      (∀ (j : Nat) (l : Addr), j < m → ls[j]? = some l → h'.IsListIter (hp.objs.size + j) l 0) ∧ (∀ c o, hp.get? c = some o → h'.get? c = some o) ∧ h'.objs.size = hp.objs.size + m) _ ?turn ?fin _ _ ?start
    case start => exact ⟨0, hp, by simp, Nat.zero_le _, by simp, rfl, fun j l hj => absurd hj (Nat.not_lt_zero _), fun _ _ z => z, rfl⟩
    case turn =>
      rintro x rest b s' ⟨m, h', hr, hm, rfl, rfl, hi, hk, hz⟩
      have hlt : m < ls.length := by
        have := congrArg List.length hr
        simp at this
        omega
      have hx : x = Value.ref ls[m] := by
        have h0 : ((ls.map Value.ref).drop m)[0]? = some x := by rw [← hr]; rfl
        rw [List.getElem?_drop, Nat.add_zero, List.getElem?_map, List.getElem?_eq_getElem hlt] at h0
        simpa using h0.symm
      have hrest : rest = (ls.map Value.ref).drop (m + 1) := by
        have := congrArg List.tail hr
        rwa [List.tail_drop] at this
      subst hx
      have e2 : ls[m]? = some ls[m] := List.getElem?_eq_getElem hlt
      obtain ⟨xs, hxs⟩ := hl1 m _ e2
      have hxs' : h'.IsList ls[m] xs := hxs.at fun o e => hk _ o e
      refine wpAny_bind (wpAny_holding (wpAny_pyIter_list hxs' (wpAny_pure ?_)))
      refine ⟨m + 1, _, hrest, hlt, ?_, rfl, fun j l hj e => ?_, fun c o e => Heap.get?_push_of_some _ (hk c o e), ?_⟩
      · rw [List.range_succ, List.map_append]
        simp [hz]
      · by_cases hjm : j = m
        · subst hjm
          rw [e2] at e
          cases e
          rw [← hz]
          exact ⟨_, Heap.get?_push_size _ rfl, rfl, rfl⟩
        · exact (hi j l (by omega) e).at fun o q => Heap.get?_push_of_some _ q
      · rw [Heap.size_push, hz]
        omega
    case fin =>
      rintro b s' ⟨m, h', hr, hm, rfl, rfl, hi, hk, hz⟩
      have hm2 : m = ls.length := by
        have := congrArg List.length hr
        simp at this
        omega
      subst hm2
      refine wpAny_pure ?_
      have e1 : ((List.range ls.length).map fun j => Value.ref (hp.objs.size + j)).toArray.toList = (List.range ls.length).map fun j => Value.ref (hp.objs.size + j) := by simp
      rw [e1]
      refine wpAny_bind (wpAny_newTuple ?_ (sz_of (by rw [List.length_map, List.length_range]; omega)))
      refine wpAny_bind (wpAny_newTuple ?_ (sz_of (by rw [List.length_map, List.length_map, List.length_range]; omega)))
      refine wpAny_bind ?_
      show wpAny _ _ (newObj (.type "zip") (.fields #[_, _, _, _, _])) _ _ _
      refine wpAny_newObj_type ?_
      refine wpAny_pure ⟨_, rfl, ?_⟩
      have e2 : ((List.range ls.length).map fun j => Value.ref (hp.objs.size + j)).map (fun _ => Value.none) = List.replicate ls.length Value.none := by
        rw [List.map_map, List.eq_replicate_iff]
        exact ⟨by simp, fun b hb => by simp at hb; exact hb.2.symm⟩
      rw [e2]
      have z1 : (h'.push { cls := .type "tuple", data := .seq ((List.range ls.length).map fun j => Value.ref (hp.objs.size + j)).toArray }).objs.size = hp.objs.size + ls.length + 1 := by rw [Heap.size_push, hz]
      have z2 : ((h'.push { cls := .type "tuple", data := .seq ((List.range ls.length).map fun j => Value.ref (hp.objs.size + j)).toArray }).push { cls := .type "tuple", data := .seq (List.replicate ls.length Value.none).toArray }).objs.size = hp.objs.size + ls.length + 2 := by rw [Heap.size_push, z1]
      simp only
      rw [z2]
      refine h _ ⟨fun j l e => ?_, ?_, ?_, ?_, fun c o e => ?_, ?_⟩
      · exact (hi j l (List.getElem?_eq_some_iff.mp e).1 e).at fun o q => Heap.get?_push_of_some _ (Heap.get?_push_of_some _ (Heap.get?_push_of_some _ q))
      · refine Heap.get?_push_of_some _ (Heap.get?_push_of_some _ ?_)
        rw [← hz]
        exact Heap.get?_push_size _ rfl
      · refine Heap.get?_push_of_some _ ?_
        rw [← z1]
        exact Heap.get?_push_size _ rfl
      · have q := Heap.get?_push_size (((h'.push { cls := .type "tuple", data := .seq ((List.range ls.length).map fun j => Value.ref (hp.objs.size + j)).toArray }).push { cls := .type "tuple", data := .seq (List.replicate ls.length Value.none).toArray })) (o := { cls := .type "zip", data := .fields #[.none, .bool false, .bool false, .ref h'.objs.size, .ref (h'.push { cls := .type "tuple", data := .seq ((List.range ls.length).map fun j => Value.ref (hp.objs.size + j)).toArray }).objs.size] }) rfl
        rw [z2] at q
        show Heap.get? _ _ = _
        refine q.trans ?_
        rw [z1, hz]
      · exact Heap.get?_push_of_some _ (Heap.get?_push_of_some _ (Heap.get?_push_of_some _ (hk c o e)))
      · rw [Heap.size_push, z2]
theorem args_object_init_4' (a b c d : Value) : argsOk "object.__init__" ⟨[a, b, c, d], []⟩ := by
  unfold argsOk; rw [signature?_of (id := "object.__init__") (n := ['_', '_', 't', 'i', 'n', 'i', '_', '_']) (o := ['t', 'c', 'e', 'j', 'b', 'o']) (by kernel_rfl) PySem.F.owner_object]; kernel_rfl
theorem args_object_init_5' (a b c d e : Value) : argsOk "object.__init__" ⟨[a, b, c, d, e], []⟩ := by
  unfold argsOk; rw [signature?_of (id := "object.__init__") (n := ['_', '_', 't', 'i', 'n', 'i', '_', '_']) (o := ['t', 'c', 'e', 'j', 'b', 'o']) (by kernel_rfl) PySem.F.owner_object]; kernel_rfl
/-- zip can be called with as many -/
structure ZCall (ls : List Addr) : Prop where
  tc : checkTypeCall "zip" ⟨ls.map Value.ref, []⟩ = pure ()
  nc : checkBuiltinCall "zip.__new__" ⟨.type "zip" :: ls.map Value.ref, []⟩ = pure ()
  ok : ∀ obj : Value, argsOk "object.__init__" ⟨obj :: ls.map Value.ref, []⟩
  sm : ls.length ≤ 1000
  ne : ls ≠ []
theorem zcall3 (a b c : Addr) : ZCall [a, b, c] := ⟨by kernel_rfl, by kernel_rfl, fun o => args_object_init_4' o _ _ _, by show 3 ≤ 1000; decide, by simp⟩
theorem zcall4 (a b c d : Addr) : ZCall [a, b, c, d] := ⟨by kernel_rfl, by kernel_rfl, fun o => args_object_init_5' o _ _ _ _, by show 4 ≤ 1000; decide, by simp⟩
section
variable {prog : Program} {w : World} {A : Around} {E : Value → Shared → Prop} {s : Shared}
theorem call_zipN {ls : List Addr} {Q : Value → Shared → Prop} (C : ZCall ls) (hl : ∀ (j : Nat) (l : Addr), ls[j]? = some l → ∃ xs, s.heap.IsList l xs)
    (h : ∀ h', ZNew s.heap h' ls → Q (.ref (s.heap.objs.size + ls.length + 2)) { s with heap := h' }) :
    wpAny (model prog w) A (call (.type "zip") (ls.map Value.ref)) Q E s :=
  callType_new F.called_zip (by decide) C.tc C.nc C.ok F.entry_zip_new (meets_zipN ls C.sm) ⟨hl, fun h' N => ⟨⟨_, N.zp, rfl⟩, h h' N⟩⟩
theorem zapart_new {h : Heap} {ls : List Addr} (hl : ∀ l, l ∈ ls → l < h.objs.size) : ZApart (h.objs.size + ls.length + 2) (h.objs.size + ls.length) (h.objs.size + ls.length + 1) ((List.range ls.length).map fun j => h.objs.size + j) ls := by
  refine ⟨?_, fun l m q => ?_, by simp⟩
  · have nd : ((List.range ls.length).map fun j => h.objs.size + j).Nodup := by
      refine List.Pairwise.map _ ?_ List.nodup_range
      intro a b hab e
      exact hab (by omega)
    simp only [List.nodup_cons, List.mem_cons, List.mem_map, List.mem_range]
    refine ⟨?_, ?_, ?_, nd⟩
    · rintro (e | e | ⟨a, ha, e⟩) <;> (have e : (_ : Nat) = _ := e) <;> omega
    · rintro (e | ⟨a, ha, e⟩) <;> (have e : (_ : Nat) = _ := e) <;> omega
    · rintro ⟨a, ha, e⟩
      have e : (_ : Nat) = _ := e
      omega
  · have hlm := Nat.not_le_of_lt (hl l m)
    simp only [List.mem_cons, List.mem_map, List.mem_range] at q
    rcases q with q | q | ⟨a, ha, q⟩ <;> (have q : (_ : Nat) = _ := q) <;> omega
end
/-! ### turns -/
def ItzN (K : PySem.W.Frag) (as : List Addr) : It :=
  ⟨fun i H => ∀ a, a ∈ as → ∃ (xs : List V) (x : V), SqL K H a xs ∧ xs[i]? = some x,
    fun i H v H' => ∃ T ys, v = .ref T ∧ H T = none ∧ H' = upd H T (.tup ys) ∧ ys.length = as.length ∧ ∀ (j : Nat) (a : Addr), as[j]? = some a → ∀ xs, SqL K H a xs → xs[i]? = ys[j]?,
    fun i H => (∀ a, a ∈ as → ∃ xs : List V, SqL K H a xs) ∧ ∃ a xs, a ∈ as ∧ SqL K H a xs ∧ xs.length ≤ i⟩
theorem lists_at {X : Cx} {pins : List (Addr × Obj)} {σ : L2.St} {H : Hp} {s : Shared} (I : Inv X pins σ H s) : ∀ (as : List Addr), (∀ a, a ∈ as → ∃ xs, SqL X.K H a xs) → ∃ xss : List (List V × List Value), xss.length = as.length ∧ ∀ (j : Nat) (a : Addr), as[j]? = some a → ∃ q, xss[j]? = some q ∧ SqL X.K H a q.1 ∧ Vals q.1 q.2 ∧ s.heap.IsList a q.2.toArray
  | [], _ => ⟨[], rfl, fun j a h => by simp at h⟩
  | a :: as, h => by
    obtain ⟨xss, h1, h2⟩ := lists_at I as fun b m => h b (List.mem_cons_of_mem _ m)
    obtain ⟨xs, hx⟩ := h a List.mem_cons_self
    obtain ⟨its, rv, p, _⟩ := I.list hx
    refine ⟨(xs, its) :: xss, by simp [h1], fun j b e => ?_⟩
    cases j with
    | zero =>
      have : a = b := by simpa using e
      subst this
      exact ⟨_, rfl, hx, rv, p.isList⟩
    | succ j => exact h2 j b (by simpa using e)
theorem vals_of {H : Hp} : ∀ (xss : List (List V × List Value)) (ws : List Value) (i : Nat), ws.length = xss.length → (∀ (j : Nat) q, xss[j]? = some q → Vals q.1 q.2 ∧ q.2[i]? = ws[j]?) → ∃ ys : List V, Vals ys ws ∧ ∀ (j : Nat) q, xss[j]? = some q → q.1[i]? = ys[j]?
  | [], [], i, _, _ => ⟨[], .nil, fun j q e => by simp at e⟩
  | [], _ :: _, i, h, _ => by simp at h
  | _ :: _, [], i, h, _ => by simp at h
  | q :: xss, u :: ws, i, h, hq => by
    obtain ⟨ys, r, g⟩ := vals_of (H := H) xss ws i (by simpa using h) fun j p e => by
      have := hq (j + 1) p (by simpa using e)
      simpa using this
    obtain ⟨rv, hu⟩ := hq 0 q rfl
    have hu : q.2[i]? = some u := by simpa using hu
    have hlt : i < q.1.length := by
      have := (List.getElem?_eq_some_iff.mp hu).1
      have := rv.length
      omega
    have hx : q.1[i]? = some q.1[i] := List.getElem?_eq_getElem hlt
    obtain ⟨u', e', ru⟩ := rv.get hx
    rw [hu] at e'
    cases e'
    refine ⟨q.1[i] :: ys, .cons ru r, fun j p e => ?_⟩
    cases j with
    | zero =>
      have : q = p := by simpa using e
      subst this
      simpa using hx
    | succ j => simpa using g j p (by simpa using e)
theorem turn_zipN {P : Program} {w : World} {K : PySem.W.Frag} {elts : List Expr} {kk : Nat} {tpos : Pos} {z TI TO : Addr} {its as : List Addr} (D : ZApart z TI TO its as) (hne : its ≠ []) (hsm : its.length ≤ 1000) :
    Turn P w K (.Tuple elts kk tpos) (ItzN K as) (z :: TI :: TO :: its) z (fun i h => TupAt h TI (its.map Value.ref) ∧ ∃ vs, ZSt h h z TI TO its as .none vs i 0) where
  mem := by simp
  obj := fun i h ⟨hTI, vs, st⟩ c hc => by
    rcases List.mem_cons.mp hc with q | hc
    · rw [q]; exact ⟨_, st.zp, fun v q => nomatch q⟩
    rcases List.mem_cons.mp hc with q | hc
    · rw [q]; exact ⟨_, hTI, fun v q => nomatch q⟩
    rcases List.mem_cons.mp hc with q | hc
    · rw [q]; exact ⟨_, st.to, fun v q => nomatch q⟩
    obtain ⟨j, hj, e⟩ := List.getElem_of_mem hc
    have hja : j < as.length := by rw [← D.len]; exact hj
    obtain ⟨o1, e1, _, d1⟩ := st.it j c as[j] (by rw [List.getElem?_eq_getElem hj, e]) (List.getElem?_eq_getElem hja)
    exact ⟨o1, e1, fun v q => by rw [d1] at q; cases q⟩
  keep := fun i h h' ⟨hTI, vs, st⟩ k => by
    refine ⟨k TI (by simp) _ hTI, vs, ⟨k z (by simp) _ st.zp, k TO (by simp) _ st.to, st.vl, fun j a l e1 e2 => ?_, fun _ _ _ q => q, rfl⟩⟩
    exact (st.it j a l e1 e2).at fun o q => k a (by simp [List.mem_of_getElem? e1]) o q
  item := by
    intro X hP hw hK hc i pins s σ H E I hf ⟨hTI, vs, st⟩ hg
    subst hP hw hK
    have hg' : ∀ a, a ∈ as → ∃ (xs : List V) (x : V), SqL X.K H a xs ∧ xs[i]? = some x := hg
    obtain ⟨xss, hxl, hxs⟩ := lists_at I as fun a m => by
      obtain ⟨xs, x, h1, _⟩ := hg' a m
      exact ⟨xs, h1⟩
    have hlen : xss.length = its.length := by rw [hxl, D.len]
    have some_ : ∀ (j : Nat) (ys : Array Value), (xss.map fun q => q.2.toArray)[j]? = some ys → ys[i]?.isSome = true := fun j ys e => by
      rw [List.getElem?_map] at e
      have hj : j < as.length := by
        rw [← hxl]
        cases q : xss[j]? with
        | none => rw [q] at e; cases e
        | some q' => exact (List.getElem?_eq_some_iff.mp q).1
      obtain ⟨q, g1, g2, g3, g4⟩ := hxs j as[j] (List.getElem?_eq_getElem hj)
      rw [g1] at e
      cases e
      obtain ⟨xs, x, k1, k2⟩ := hg' as[j] (List.getElem_mem hj)
      rw [I.list_inj k1 g2] at k2
      obtain ⟨u, hu, _⟩ := g3.get k2
      simp [hu]
    have hT : s.TypeIs (.ref z) "zip" := ⟨_, st.zp, rfl⟩
    unfold pyNext
    refine wpAny_bind (wpAny_attempt (wpAny_callSpecial?_slot (name := Str.ofString "__next__") hT F.slot_zip_next
      (wpAny_call_entry F.slot_zip_next hT F.entry_zip_next (zip_draw D (xss := xss.map fun q => q.2.toArray) (.inr some_) hne (by rw [List.length_map]; exact hlen) hsm (fun j l xs e1 e2 => ?_) st hTI (fun h' ws hwl hws z' to' it' T' sz' kp' => wpAny_pure ?_) fun ⟨j, xs, e1, e2⟩ => ?_) (F.args_zip_next_1 _))))
    · rw [List.getElem?_map] at e2
      obtain ⟨q, g1, g2, g3, g4⟩ := hxs j l e1
      rw [g1] at e2
      cases e2
      exact g4
    · refine ⟨_, rfl, wpAny_letOwnedTupleGo_zip (s := { s with heap := h' }) z' fun h'' z'' sb => ?_⟩
      have hzl : z < s.heap.objs.size := Heap.lt_size st.zp
      have hT2 : TupAt h'' s.heap.objs.size ws := (sb.2 _ (Nat.ne_of_gt hzl)).trans T'
      obtain ⟨ys, rys, hys⟩ := vals_of (H := H) xss ws i (by rw [hwl, hlen]) fun j q e => by
        have hj : j < as.length := by rw [← hxl]; exact (List.getElem?_eq_some_iff.mp e).1
        obtain ⟨q', g1, g2, g3, g4⟩ := hxs j as[j] (List.getElem?_eq_getElem hj)
        rw [e] at g1
        cases g1
        have := hws j q.2.toArray (by rw [List.getElem?_map, e]; rfl)
        exact ⟨g3, by simpa using this⟩
      have hyl : ys.length = as.length := by rw [rys.length, hwl, D.len]
      have new : ObjOk X.prog X.w (upd H s.heap.objs.size (.tup ys)) h'' s.heap.objs.size (.tup ys) :=
        ⟨by
          have := sz_of (n := ys.length) (by rw [hyl, ← D.len]; omega)
          exact this, ws, rys, ⟨_, hT2, rfl, _, rfl⟩⟩
      have old : ∀ c o, c ∉ z :: TI :: TO :: its → s.heap.get? c = some o → h''.get? c = some o := fun c o hb q =>
        (sb.2 c (fun q' => hb (by simp [q']))).trans (kp' c o (fun m => hb (by
          rcases List.mem_cons.mp m with m | m
          · simp [m]
          rcases List.mem_cons.mp m with m | m
          · simp [m]
          · simp [m])) q)
      have I1 : Inv X pins σ (upd H s.heap.objs.size (.tup ys)) { s with heap := h'' } :=
        I.turnedNew (t' := s.toks) (ch := z :: TI :: TO :: its) old hf (Nat.le_refl _) new
      refine ⟨.ref s.heap.objs.size, _, I1, rfl, ⟨_, ys, rfl, I.hok.fresh (Nat.le_refl _), rfl, hyl, fun j a e xs hx => ?_⟩, ⟨?_, ws, ⟨z'', ?_, hwl, fun j a l e1 e2 => ?_, fun _ _ _ q => q, rfl⟩⟩, fun c hcm => ?_⟩
      · obtain ⟨q, g1, g2, g3, g4⟩ := hxs j a e
        rw [I.list_inj hx g2]
        exact hys j q g1
      · exact (sb.2 _ D.zTI).trans (kp' _ _ (zapart_TI D) hTI)
      · exact (sb.2 _ D.zTO).trans to'
      · exact (it' j a l e1 e2).at fun o q => (sb.2 _ (D.zi (List.mem_of_getElem? e1))).trans q
      · have hlt : c < s.heap.objs.size := by
          rcases List.mem_cons.mp hcm with q | hcm
          · rw [q]; exact hzl
          rcases List.mem_cons.mp hcm with q | hcm
          · rw [q]; exact Heap.lt_size hTI
          rcases List.mem_cons.mp hcm with q | hcm
          · rw [q]; exact Heap.lt_size st.to
          obtain ⟨j, hj, e⟩ := List.getElem_of_mem hcm
          have hja : j < as.length := by rw [← D.len]; exact hj
          obtain ⟨o1, e1, _, d1⟩ := st.it j c as[j] (by rw [List.getElem?_eq_getElem hj, e]) (List.getElem?_eq_getElem hja)
          exact Heap.lt_size e1
        rw [upd_ne (Nat.ne_of_lt hlt)]
        exact (hf c hcm).1
    · have := some_ j xs e1
      rw [e2] at this
      cases this
  done := by
    intro X hP hw hK hc i pins s σ H E I hf ⟨hTI, vs, st⟩ hg
    subst hP hw hK
    have hg' : (∀ a, a ∈ as → ∃ xs : List V, SqL X.K H a xs) ∧ ∃ a xs, a ∈ as ∧ SqL X.K H a xs ∧ xs.length ≤ i := hg
    obtain ⟨hall, a0, xs0, m0, s0, l0⟩ := hg'
    obtain ⟨xss, hxl, hxs⟩ := lists_at I as hall
    have hlen : xss.length = its.length := by rw [hxl, D.len]
    have hT : s.TypeIs (.ref z) "zip" := ⟨_, st.zp, rfl⟩
    unfold pyNext
    refine wpAny_bind (wpAny_attempt (wpAny_callSpecial?_slot (name := Str.ofString "__next__") hT F.slot_zip_next
      (wpAny_call_entry F.slot_zip_next hT F.entry_zip_next (zip_draw D (xss := xss.map fun q => q.2.toArray) (.inl (I.ok.hd hc)) hne (by rw [List.length_map]; exact hlen) hsm (fun j l xs e1 e2 => ?_) st hTI (fun h' ws hwl hws z' to' it' T' sz' kp' => ?_) fun _ h' e hk he => ?_) (F.args_zip_next_1 _))))
    · rw [List.getElem?_map] at e2
      obtain ⟨q, g1, g2, g3, g4⟩ := hxs j l e1
      rw [g1] at e2
      cases e2
      exact g4
    · exfalso
      obtain ⟨j, hj, e⟩ := List.getElem_of_mem m0
      obtain ⟨q, g1, g2, g3, g4⟩ := hxs j a0 (by rw [List.getElem?_eq_getElem hj, e])
      have h1 := hws j q.2.toArray (by rw [List.getElem?_map, g1]; rfl)
      rw [I.list_inj s0 g2] at l0
      have h2 : q.2.toArray[i]? = none := by
        have := g3.length
        simp
        omega
      rw [h2] at h1
      have h3 : j < ws.length := by rw [hwl, D.len]; exact hj
      rw [List.getElem?_eq_getElem h3] at h1
      cases h1
    · obtain ⟨o, ho, hce⟩ := he
      refine wpAny_bind (wpAny_isInstance (T := "StopIteration") (b := true) ⟨o, ho, hce⟩ isSubtype_stop ?_)
      exact wpAny_pure ⟨rfl, I.turnedL (t' := s.toks) (ch := z :: TI :: TO :: its) (fun c o hb q => hk c o (fun m => hb (by
          rcases List.mem_cons.mp m with m | m
          · simp [m]
          rcases List.mem_cons.mp m with m | m
          · simp [m]
          · simp [m])) q) hf⟩
  self := fun A i s Q E ⟨_, vs, st⟩ h => wpAny_pyIter_zip st.zp h
def iZipN (K : PySem.W.Frag) (ta : TA) : TI := fun σ H R => ta σ H fun vs H1 => ∃ as : List Addr, vs = as.map V.ref ∧ (∀ a, a ∈ as → ∃ xs, SqL K H1 a xs) ∧ (∀ ls : List Addr, ls.length = as.length → ZCall ls) ∧ R (ItzN K as) H1
theorem rel_refs : ∀ {as : List Addr} {us : List Value}, Vals (as.map V.ref) us → us = as.map Value.ref
  | [], _, h => by cases h; rfl
  | a :: as, _, h => by
    cases h with
    | cons r t =>
      cases r
      rw [rel_refs t]
      rfl
theorem pi_zipN {X : Cx} {e e2 : Expr} {es : List Expr} {ta : TA} {p pos tpos : Pos} {elts : List Expr} {kk : Nat} (hg : Gl X "zip") (hm : X.mg "zip" = none) (ha : PA X (e :: e2 :: es) ta)
    (hs : starEach (e :: e2 :: es) X.env = (false, eval e X.env) :: starEach (e2 :: es) X.env := by rfl) (hpl : (backTo pos (starEach (e2 :: es) X.env)).any (·.1) = false := by rfl) :
    PI X (.Tuple elts kk tpos) (.Call (.Name "zip" p) (e :: e2 :: es) [] pos) (iZipN X.K ta) := by
  refine ⟨fun pins s σ H R I h => ?_⟩
  refine Call_ (ld_blt I hg hm PyProof.Rows.boot_zip (PyProof.Rows.callWith_type1 (thn (ha.run pos pins s σ H _ I h) fun us s1 ⟨vs, H1, I1, r1, q1⟩ => ?_) hs hpl))
  obtain ⟨as, ex, hq, hC, q⟩ := q1
  subst ex
  have := rel_refs r1
  subst this
  have hl : ∀ (j : Nat) (l : Addr), as[j]? = some l → ∃ xs, s1.heap.IsList l xs := fun j l e => by
    obtain ⟨xs, hx⟩ := hq l (List.mem_of_getElem? e)
    obtain ⟨its, rv, p1, _⟩ := I1.list hx
    exact ⟨_, p1.isList⟩
  have hlt : ∀ l, l ∈ as → l < s1.heap.objs.size := fun l m => by
    obtain ⟨xs, hx⟩ := hq l m
    obtain ⟨its, rv, p1, _⟩ := I1.list hx
    exact p1.lt
  refine call_zipN (hC as rfl) hl fun h' N => wpAny_pyIter_zip N.zp ?_
  have I2 : Inv X pins σ H1 { s1 with heap := h' } := I1.kept (t' := s1.toks) N.keep
  have D := zapart_new hlt
  have hne : (List.range as.length).map (fun j => s1.heap.objs.size + j) ≠ [] := by
    intro z
    have := congrArg List.length z
    simp at this
    exact (hC as rfl).ne this
  refine ⟨s1.heap.objs.size + as.length + 2, _, _, _, H1, rfl, I2, turn_zipN D hne (by rw [List.length_map, List.length_range]; exact (hC as rfl).sm), ⟨?_, List.replicate as.length .none, ⟨N.zp, N.to, by simp, fun j a l e1 e2 => ?_, fun _ _ _ q => q, rfl⟩⟩, fun c hcm => ?_, q⟩
  · rw [List.map_map]
    exact N.ti
  · rw [List.getElem?_map] at e1
    have hj := (List.getElem?_eq_some_iff.mp e2).1
    rw [List.getElem?_range hj] at e1
    cases e1
    rw [if_neg (Nat.not_lt_zero _)]
    exact N.its j l e2
  · have hle : s1.heap.objs.size ≤ c := by
      simp only [List.mem_cons, List.mem_map, List.mem_range] at hcm
      rcases hcm with z | z | z | ⟨a, _, z⟩
      · rw [z]; exact Nat.le_trans (Nat.le_add_right _ _) (Nat.le_add_right _ _)
      · rw [z]; exact Nat.le_add_right _ _
      · rw [z]; exact Nat.le_trans (Nat.le_add_right _ _) (Nat.le_add_right _ _)
      · rw [← z]; exact Nat.le_add_right _ _
    exact I1.fpOk hle (I1.hok.fresh hle)
end DL

set_option Elab.async false
set_option linter.all false
set_option maxRecDepth 100000
/-! DL6: more words at the data level: zip of three and four, in of tuples, range downward, insert, sum, longer chains. -/
namespace DL
open PySem PySem.Spec PyProof.Rows L2 Evl
variable {xw : Xw}
/-! ### zip of three, of four -/
def zip3 : List PyData → List PyData → List PyData → List PyData
  | a :: as, b :: bs, c :: cs => .tuple [a, b, c] :: zip3 as bs cs
  | _, _, _ => []
def zip4 : List PyData → List PyData → List PyData → List PyData → List PyData
  | a :: as, b :: bs, c :: cs, d :: ds => .tuple [a, b, c, d] :: zip4 as bs cs ds
  | _, _, _, _ => []
theorem zip3_get : ∀ {as bs cs : List PyData} {i : Nat} {d : PyData}, (zip3 as bs cs)[i]? = some d → ∃ a b c, as[i]? = some a ∧ bs[i]? = some b ∧ cs[i]? = some c ∧ d = .tuple [a, b, c]
  | a :: as, b :: bs, c :: cs, 0, d, h => ⟨a, b, c, rfl, rfl, rfl, (Option.some.inj h).symm⟩
  | a :: as, b :: bs, c :: cs, i + 1, d, h => by
    obtain ⟨x, y, z, h1, h2, h3, h4⟩ := zip3_get (as := as) (bs := bs) (cs := cs) (i := i) (show (zip3 as bs cs)[i]? = some d from h)
    exact ⟨x, y, z, h1, h2, h3, h4⟩
  | [], _, _, _, _, h => by simp [zip3] at h
  | _ :: _, [], _, _, _, h => by simp [zip3] at h
  | _ :: _, _ :: _, [], _, _, h => by simp [zip3] at h
theorem zip4_get : ∀ {as bs cs es : List PyData} {i : Nat} {d : PyData}, (zip4 as bs cs es)[i]? = some d → ∃ a b c e, as[i]? = some a ∧ bs[i]? = some b ∧ cs[i]? = some c ∧ es[i]? = some e ∧ d = .tuple [a, b, c, e]
  | a :: as, b :: bs, c :: cs, e :: es, 0, d, h => ⟨a, b, c, e, rfl, rfl, rfl, rfl, (Option.some.inj h).symm⟩
  | a :: as, b :: bs, c :: cs, e :: es, i + 1, d, h => by
    obtain ⟨x, y, z, u, h1, h2, h3, h4, h5⟩ := zip4_get (as := as) (bs := bs) (cs := cs) (es := es) (i := i) (show (zip4 as bs cs es)[i]? = some d from h)
    exact ⟨x, y, z, u, h1, h2, h3, h4, h5⟩
  | [], _, _, _, _, _, h => by simp [zip4] at h
  | _ :: _, [], _, _, _, _, h => by simp [zip4] at h
  | _ :: _, _ :: _, [], _, _, _, h => by simp [zip4] at h
  | _ :: _, _ :: _, _ :: _, [], _, _, h => by simp [zip4] at h
theorem zip3_len : ∀ {as bs cs : List PyData}, (zip3 as bs cs).length = min as.length (min bs.length cs.length)
  | a :: as, b :: bs, c :: cs => by
    show (zip3 as bs cs).length + 1 = min (as.length + 1) (min (bs.length + 1) (cs.length + 1))
    rw [zip3_len]
    omega
  | [], _, _ => by simp [zip3]
  | _ :: _, [], _ => by simp [zip3]
  | _ :: _, _ :: _, [] => by simp [zip3]
theorem zip4_len : ∀ {as bs cs es : List PyData}, (zip4 as bs cs es).length = min as.length (min bs.length (min cs.length es.length))
  | a :: as, b :: bs, c :: cs, e :: es => by
    show (zip4 as bs cs es).length + 1 = min (as.length + 1) (min (bs.length + 1) (min (cs.length + 1) (es.length + 1)))
    rw [zip4_len]
    omega
  | [], _, _, _ => by simp [zip4]
  | _ :: _, [], _, _ => by simp [zip4]
  | _ :: _, _ :: _, [], _ => by simp [zip4]
  | _ :: _, _ :: _, _ :: _, [] => by simp [zip4]
/-- the turns of a zip, by data: rows tells each turn's items -/
theorem dpa_ex {K : PySem.W.Frag} {H : Hp} : ∀ {vs : List V} {dss : List (List PyData)}, DpAll K H vs (dss.map PyData.list) → ∃ as : List Addr, vs = as.map V.ref ∧ as.length = dss.length ∧ ∀ (j : Nat) (a : Addr) (ds : List PyData), as[j]? = some a → dss[j]? = some ds → ∃ xs, SqL K H a xs ∧ DpAll K H xs ds
  | _, [], h => by
    cases h
    exact ⟨[], rfl, rfl, fun j a ds e => by simp at e⟩
  | _, ds :: dss, h => by
    cases h with
    | cons h1 h2 =>
      obtain ⟨as, rfl, hl, ha⟩ := dpa_ex h2
      cases h1 with
      | @lst a xs _ hs hd =>
        refine ⟨a :: as, rfl, by simp [hl], fun j b es e1 e2 => ?_⟩
        cases j with
        | zero =>
          have e1 : a = b := by simpa using e1
          have e2 : ds = es := by simpa using e2
          subst e1 e2
          exact ⟨xs, hs, hd⟩
        | succ j => exact ha j b es (by simpa using e1) (by simpa using e2)
theorem it_zipN {K : PySem.W.Frag} {I : Hp} {as : List Addr} {dss : List (List PyData)} {rows : List PyData} (hl : as.length = dss.length) (ha : ∀ (j : Nat) (a : Addr) (ds : List PyData), as[j]? = some a → dss[j]? = some ds → ∃ xs, SqL K I a xs ∧ DpAll K I xs ds)
    (h1 : ∀ i d, rows[i]? = some d → ∃ ys, d = .tuple ys ∧ ys.length = dss.length ∧ ∀ (j : Nat) (ds : List PyData), dss[j]? = some ds → ds[i]? = ys[j]? ∧ i < ds.length)
    (h2 : ∀ i, rows.length ≤ i → ∃ (j : Nat) (ds : List PyData), dss[j]? = some ds ∧ ds.length ≤ i) : ItOk K I (ItzN K as) rows := fun O H hO x i => by
  have at_ : ∀ (j : Nat) (a : Addr), as[j]? = some a → ∃ ds, dss[j]? = some ds ∧ ∃ xs, SqL K H a xs ∧ DpAll K (wo H O) xs ds := fun j a e => by
    have hj : j < dss.length := by rw [← hl]; exact (List.getElem?_eq_some_iff.mp e).1
    obtain ⟨xs, g1, g2⟩ := ha j a dss[j] e (List.getElem?_eq_getElem hj)
    exact ⟨dss[j], List.getElem?_eq_getElem hj, xs, ex_l wo_ex (ex_l x g1), g2.up x⟩
  refine ⟨fun hi => ?_, fun d hd => ?_⟩
  · obtain ⟨j, ds, e1, e2⟩ := h2 i hi
    refine ⟨fun a m => ?_, ?_⟩
    · obtain ⟨k, hk, e⟩ := List.getElem_of_mem m
      obtain ⟨_, _, xs, g, _⟩ := at_ k a (by rw [List.getElem?_eq_getElem hk, e])
      exact ⟨xs, g⟩
    · have hj : j < as.length := by rw [hl]; exact (List.getElem?_eq_some_iff.mp e1).1
      obtain ⟨ds', e1', xs, g, gd⟩ := at_ j as[j] (List.getElem?_eq_getElem hj)
      rw [e1] at e1'
      cases e1'
      exact ⟨as[j], xs, List.getElem_mem hj, g, by rw [gd.length]; exact e2⟩
  · obtain ⟨ys, rfl, hyl, hy⟩ := h1 i d hd
    refine ⟨fun a m => ?_, fun v H' ⟨T, zs, ev, nT, eH, hzl, hz⟩ => ?_⟩
    · obtain ⟨k, hk, e⟩ := List.getElem_of_mem m
      obtain ⟨ds, q1, xs, g, gd⟩ := at_ k a (by rw [List.getElem?_eq_getElem hk, e])
      have hlt := (hy k ds q1).2
      have hx : i < xs.length := by rw [gd.length]; exact hlt
      exact ⟨xs, xs[i], g, List.getElem?_eq_getElem hx⟩
    · subst ev eH
      have en : Ex H (upd H T (.tup zs)) := Ex.new nT
      refine ⟨en, .tup (.inl (.inl (wo_mk (fun m => hO T m nT) upd_same))) ?_⟩
      have each : ∀ (j : Nat) (v : V), zs[j]? = some v → ∃ e, ys[j]? = some e ∧ Dp K (wo H O) v e := fun j v e => by
        have hj : j < as.length := by rw [← hzl]; exact (List.getElem?_eq_some_iff.mp e).1
        obtain ⟨ds, q1, xs, g, gd⟩ := at_ j as[j] (List.getElem?_eq_getElem hj)
        have q2 := hz j as[j] (List.getElem?_eq_getElem hj) xs g
        rw [e] at q2
        have q3 := (hy j ds q1)
        have hdl : i < ds.length := q3.2
        obtain ⟨v', e', hv⟩ := gd.get (List.getElem?_eq_getElem hdl)
        rw [q2] at e'
        cases e'
        exact ⟨ds[i], by rw [← q3.1, List.getElem?_eq_getElem hdl], hv⟩
      have len2 : zs.length = ys.length := by rw [hzl, hl, hyl]
      have build : ∀ (zs : List V) (ys : List PyData), zs.length = ys.length → (∀ (j : Nat) (v : V), zs[j]? = some v → ∃ e, ys[j]? = some e ∧ Dp K (wo H O) v e) → DpAll K (wo (upd H T (.tup zs)) O) zs ys → True := fun _ _ _ _ _ => trivial
      have mk : ∀ (us : List V) (ws : List PyData), us.length = ws.length → (∀ (j : Nat) (v : V), us[j]? = some v → ∃ e, ws[j]? = some e ∧ Dp K (wo H O) v e) → DpAll K (wo H O) us ws := by
        intro us
        induction us with
        | nil =>
          intro ws hl _
          cases ws with
          | nil => exact .nil
          | cons w ws => simp at hl
        | cons u us ih =>
          intro ws hl h
          cases ws with
          | nil => simp at hl
          | cons w ws =>
            obtain ⟨e, q1, q2⟩ := h 0 u rfl
            have q1 : w = e := by simpa using q1
            subst q1
            exact .cons q2 (ih ws (by simpa using hl) fun j v e => h (j + 1) v (by simpa using e))
      exact (mk zs ys len2 each).up (wo_le en)
section
variable {K : PySem.W.Frag} {Δ : List Ent} {ta : TA} {Q : List PyData → Prop}
theorem wi_zip3 (h : WAx K xw ta Δ fun ds => ∃ as bs cs, ds = [.list as, .list bs, .list cs] ∧ Q (zip3 as bs cs)) : WIx K xw (iZipN K ta) Δ Q := fun A H0 H σ E R k =>
  h A H0 H σ E _ fun vs H1 ds e E1 ok ⟨as, bs, cs, hd, q⟩ => by
    subst hd
    obtain ⟨ps, rfl, hl, ha⟩ := dpa_ex (dss := [as, bs, cs]) ok
    refine ⟨ps, rfl, fun a m => ?_, fun ls hls => ?_, k _ H1 _ e E1 (it_zipN (dss := [as, bs, cs]) hl ha (fun i d hi => ?_) fun i hi => ?_) q⟩
    · obtain ⟨j, hj, e⟩ := List.getElem_of_mem m
      have hj2 : j < [as, bs, cs].length := by rw [← hl]; exact hj
      obtain ⟨xs, g, _⟩ := ha j a _ (by rw [List.getElem?_eq_getElem hj, e]) (List.getElem?_eq_getElem hj2)
      exact ⟨xs, ex_l wo_ex g⟩
    · have h3 : ls.length = 3 := by rw [hls, hl]; rfl
      match ls, h3 with
      | [a, b, c], _ => exact zcall3 a b c
    · obtain ⟨a, b, c, h1, h2, h3, rfl⟩ := zip3_get hi
      refine ⟨[a, b, c], rfl, rfl, fun j ds e => ?_⟩
      match j with
      | 0 => cases (show some as = some ds from e); exact ⟨h1, (List.getElem?_eq_some_iff.mp h1).1⟩
      | 1 => cases (show some bs = some ds from e); exact ⟨h2, (List.getElem?_eq_some_iff.mp h2).1⟩
      | 2 => cases (show some cs = some ds from e); exact ⟨h3, (List.getElem?_eq_some_iff.mp h3).1⟩
      | j + 3 => simp at e
    · rw [zip3_len] at hi
      by_cases h1 : as.length ≤ i
      · exact ⟨0, as, rfl, h1⟩
      by_cases h2 : bs.length ≤ i
      · exact ⟨1, bs, rfl, h2⟩
      · exact ⟨2, cs, rfl, by omega⟩
theorem wi_zip4 (h : WAx K xw ta Δ fun ds => ∃ as bs cs es, ds = [.list as, .list bs, .list cs, .list es] ∧ Q (zip4 as bs cs es)) : WIx K xw (iZipN K ta) Δ Q := fun A H0 H σ E R k =>
  h A H0 H σ E _ fun vs H1 ds e E1 ok ⟨as, bs, cs, es, hd, q⟩ => by
    subst hd
    obtain ⟨ps, rfl, hl, ha⟩ := dpa_ex (dss := [as, bs, cs, es]) ok
    refine ⟨ps, rfl, fun a m => ?_, fun ls hls => ?_, k _ H1 _ e E1 (it_zipN (dss := [as, bs, cs, es]) hl ha (fun i d hi => ?_) fun i hi => ?_) q⟩
    · obtain ⟨j, hj, e⟩ := List.getElem_of_mem m
      have hj2 : j < [as, bs, cs, es].length := by rw [← hl]; exact hj
      obtain ⟨xs, g, _⟩ := ha j a _ (by rw [List.getElem?_eq_getElem hj, e]) (List.getElem?_eq_getElem hj2)
      exact ⟨xs, ex_l wo_ex g⟩
    · have h3 : ls.length = 4 := by rw [hls, hl]; rfl
      match ls, h3 with
      | [a, b, c, d], _ => exact zcall4 a b c d
    · obtain ⟨a, b, c, x, h1, h2, h3, h4, rfl⟩ := zip4_get hi
      refine ⟨[a, b, c, x], rfl, rfl, fun j ds e => ?_⟩
      match j with
      | 0 => cases (show some as = some ds from e); exact ⟨h1, (List.getElem?_eq_some_iff.mp h1).1⟩
      | 1 => cases (show some bs = some ds from e); exact ⟨h2, (List.getElem?_eq_some_iff.mp h2).1⟩
      | 2 => cases (show some cs = some ds from e); exact ⟨h3, (List.getElem?_eq_some_iff.mp h3).1⟩
      | 3 => cases (show some es = some ds from e); exact ⟨h4, (List.getElem?_eq_some_iff.mp h4).1⟩
      | j + 4 => simp at e
    · rw [zip4_len] at hi
      by_cases h1 : as.length ≤ i
      · exact ⟨0, as, rfl, h1⟩
      by_cases h2 : bs.length ≤ i
      · exact ⟨1, bs, rfl, h2⟩
      by_cases h3 : cs.length ≤ i
      · exact ⟨2, cs, rfl, h3⟩
      · exact ⟨3, es, rfl, by omega⟩
/-! ### range downward -/
def rngD (hi : Int) (n : Nat) : List PyData := (List.range n).map fun (i : Nat) => .int (hi - (i : Int))
theorem rngD_len (hi : Int) (n : Nat) : (rngD hi n).length = n := by simp [rngD]
theorem rngD_get {hi : Int} {n i : Nat} {d : PyData} (h : (rngD hi n)[i]? = some d) : i < n ∧ d = .int (hi - (i : Int)) := by
  unfold rngD at h
  rw [List.getElem?_map] at h
  by_cases hi : i < n
  · rw [List.getElem?_range hi] at h
    exact ⟨hi, (Option.some.inj h).symm⟩
  · rw [List.getElem?_eq_none (by rw [List.length_range]; omega)] at h
    cases h
theorem wi_rngD (h : WAx K xw ta Δ fun ds => ∃ i j : Int, ds = [.int i, .int j, .int (-1)] ∧ (-1000000 ≤ i ∧ i ≤ 1000000) ∧ (-1000000 ≤ j ∧ j ≤ 1000000) ∧ Q (rngD i (i - j).toNat)) : WIx K xw (iRng3 ta) Δ Q := fun A H0 H σ E R k =>
  h A H0 H σ E _ fun vs H1 ds e E1 ok ⟨i, j, hd, ⟨b1, b2⟩, ⟨b3, b4⟩, q⟩ => by
    subst hd
    cases ok with | cons g1 g2 => cases g1; cases g2 with | cons g3 g4 => cases g3; cases g4 with | cons g5 g6 =>
      cases g5; cases g6
      refine ⟨i, j, -1, (i - j).toNat, rfl, RgC.neg (by omega) (by omega) (by omega) (by omega), k _ H1 _ e E1 (fun O H2 hO x n => ⟨fun hn => ?_, fun d hd => ?_⟩) q⟩
      · rw [rngD_len] at hn
        exact hn
      · obtain ⟨h1, rfl⟩ := rngD_get hd
        refine ⟨h1, fun z H3 ⟨e1, e2⟩ => ?_⟩
        subst e1 e2
        refine ⟨ex_id, ?_⟩
        rw [show i + (n : Int) * (-1) = i - (n : Int) by omega]
        exact .int _
end
/-! ### in, not in: lists and tuples -/
def rInT (K : PySem.W.Frag) : R2 := fun x y H Q => ∃ d ds, L2.Dp K H x d ∧ L2.Dp K H y (.tuple ds) ∧ SeqAt.shaped d = true ∧ SeqAt.shaped (.list ds) = true ∧ Q (.bl (ds.any fun z => PyData.eqv z d)) H
def rNotInT (K : PySem.W.Frag) : R2 := fun x y H Q => ∃ d ds, L2.Dp K H x d ∧ L2.Dp K H y (.tuple ds) ∧ SeqAt.shaped d = true ∧ SeqAt.shaped (.list ds) = true ∧ Q (.bl (!ds.any fun z => PyData.eqv z d)) H
theorem shaped_tup {ds : List PyData} (h : SeqAt.shaped (.list ds) = true) : SeqAt.shaped (.tuple ds) = true := by
  have c := SeqAt.canLay_of_shaped h
  have e := SeqAt.depth_of_shaped h
  simp only [PyData.canLay0] at c
  simp only [PyData.depth] at e
  show (PyData.canLay0 (.tuple ds) && decide (PyData.depth (.tuple ds) ≤ 64)) = true
  rw [Bool.and_eq_true]
  exact ⟨by simpa only [PyData.canLay0] using c, decide_eq_true (by simpa only [PyData.depth] using e)⟩
def rInA (K : PySem.W.Frag) : R2 := fun x y H Q => rInD K x y H Q ∨ rInT K x y H Q
def rNotInA (K : PySem.W.Frag) : R2 := fun x y H Q => rNotInD K x y H Q ∨ rNotInT K x y H Q
theorem op_inA {X : Cx} (hu : X.A.units + 65 < cLine) : OpR X (compareOp .In) (rInA X.K) := op_or (op_inD hu) (by
  intro pins s σ H x y v u Q I rx ry h
  obtain ⟨d, ds, hd, he, sd, se, q⟩ := h
  obtain ⟨as, r1⟩ := L2.Dp.reads I d x v hd rx
  obtain ⟨bs, r2⟩ := L2.Dp.reads I (.tuple ds) y u he ry
  exact SeqAt.in_tuple_reads r2 r1 (SeqAt.canLay_of_shaped se) (SeqAt.canLay_of_shaped sd) (room_in_shaped sd hu) ⟨.bl _, H, I, rfl, q⟩)
theorem op_notInA {X : Cx} (hu : X.A.units + 65 < cLine) : OpR X (compareOp .NotIn) (rNotInA X.K) := op_or (op_notInD hu) (by
  intro pins s σ H x y v u Q I rx ry h
  obtain ⟨d, ds, hd, he, sd, se, q⟩ := h
  obtain ⟨as, r1⟩ := L2.Dp.reads I d x v hd rx
  obtain ⟨bs, r2⟩ := L2.Dp.reads I (.tuple ds) y u he ry
  exact SeqAt.notIn_tuple_reads r2 r1 (SeqAt.canLay_of_shaped se) (SeqAt.canLay_of_shaped sd) (room_in_shaped sd hu) ⟨.bl _, H, I, rfl, q⟩)
section
variable {K : PySem.W.Frag} {Q : Rs → Prop} {Δ : List Ent} {te tb : TE} {P : Post}
theorem rd_inAL {d : PyData} {ds : List PyData} (sd : SeqAt.shaped d = true) (se : SeqAt.shaped (.list ds) = true) (q : Q (.v (.bool (ds.any fun z => PyData.eqv z d)))) : RD K (rInA K) d (.list ds) Q := fun A H v1 v2 h1 h2 hA Qh k =>
  .inl (rd_inD sd se q A H v1 v2 h1 h2 hA Qh k)
theorem rd_notInAL {d : PyData} {ds : List PyData} (sd : SeqAt.shaped d = true) (se : SeqAt.shaped (.list ds) = true) (q : Q (.v (.bool (!ds.any fun z => PyData.eqv z d)))) : RD K (rNotInA K) d (.list ds) Q := fun A H v1 v2 h1 h2 hA Qh k =>
  .inl (rd_notInD sd se q A H v1 v2 h1 h2 hA Qh k)
theorem rd_inAT {d : PyData} {ds : List PyData} (sd : SeqAt.shaped d = true) (se : SeqAt.shaped (.list ds) = true) (q : Q (.v (.bool (ds.any fun z => PyData.eqv z d)))) : RD K (rInA K) d (.tuple ds) Q := fun A H v1 v2 h1 h2 hA Qh k =>
  .inr ⟨d, ds, (h1.up wo_ex).l2 sd, (h2.up wo_ex).l2 (shaped_tup se), sd, se, k _ H (.v _) ex_id (Dp.bl _) q⟩
theorem rd_notInAT {d : PyData} {ds : List PyData} (sd : SeqAt.shaped d = true) (se : SeqAt.shaped (.list ds) = true) (q : Q (.v (.bool (!ds.any fun z => PyData.eqv z d)))) : RD K (rNotInA K) d (.tuple ds) Q := fun A H v1 v2 h1 h2 hA Qh k =>
  .inr ⟨d, ds, (h1.up wo_ex).l2 sd, (h2.up wo_ex).l2 (shaped_tup se), sd, se, k _ H (.v _) ex_id (Dp.bl _) q⟩
/-! ### insert, sum -/
def rInsert : V → List V → Hp → VK → Prop := fun x vs H Q => ∃ (l : Addr) (xs : List V) (i : Int) (y : V), x = .ref l ∧ vs = [.int i, y] ∧ H l = some (.lst xs) ∧ xs.length < sizeLine ∧ 0 ≤ i ∧ i < 2 ^ 63 ∧ Q .non (upd H l (.lst (xs.take i.toNat ++ [y] ++ xs.drop i.toNat)))
theorem ws_ins {i : Nat} {l : Addr} {ds : List PyData} (h : Δ[i]? = some (.own l ds)) (hz : ds.length < 100000) (w : WEx K xw te Δ fun r1 => WEx K xw tb Δ fun r => ∃ j : Nat, r1.d = .int j ∧ j ≤ ds.length ∧ P.nx (Δ.set i (.own l (ds.take j ++ [r.d] ++ ds.drop j)))) :
    WSx K xw (tDrop (tBM K "list" rInsert (tVar i) (tCons te (tCons tb tNil)))) Δ P := fun A H0 H σ D E n _ _ _ => by
  obtain ⟨h1, xs, h2, h3⟩ := E.ents i _ h
  refine ⟨.ref l, h1, Or.inl ⟨rfl, xs, sq_of h2⟩, w A H0 H σ E _ fun v H1 r e E1 ok w1 => w1 A H0 H1 σ E1 _ fun v2 H2 r2 e2 E2 ok2 ⟨j, hj, hjl, q⟩ => ?_⟩
  have hd := ok.dp
  rw [hj] at hd
  cases hd
  obtain ⟨_, ys, g2, g3⟩ := E2.ents i _ h
  refine ⟨l, ys, j, v2, rfl, rfl, g2, sz_lt (by rw [g3.length]; exact hz), by omega, by omega, n _ _ _ (E2.setO h ?_) q⟩
  rw [show ((j : Nat) : Int).toNat = j by omega]
  exact ((g3.take j).app (.cons ok2.dp .nil)).app (g3.drop j)
theorem cd_sum {ns : List Int} (q : Q (.v (.int ns.sum))) : CD K (rSum K) [.list (ns.map .int)] Q := fun A H vs h _ Qh k => by
  cases h with | cons h1 h2 =>
    cases h2
    cases h1 with | lst hs ha =>
      have := ha.ints_inv
      subst this
      exact ⟨_, ns, rfl, ex_l wo_ex hs, k _ H (.v _) ex_id (Dp.int _) q⟩
end
/-! ### a pot made in the call itself, further arguments behind it -/
theorem we_callDu {K : PySem.W.Frag} {Δ : List Ent} {ta : TA} {te : TE} {Q : Rs → Prop} {φ : List PyData → (Rs → Prop) → Prop} {E0 : XK}
    (h : WEx K xw te Δ fun r => ∃ x y : Int, r = .n [.int x, .int y] ∧ 0 ≤ x ∧ 0 ≤ y ∧ y < 4294967296 ∧ WA K ta Δ fun ds => φ ds Q) : WEx K xw (tCall (SpD K φ) [] E0 (tCons te ta)) Δ Q := fun A H0 H σ E Qh k =>
  h A H0 H σ E _ fun v H1 r e1 E1 ok ⟨x, y, hr, b1, b2, b3, w⟩ => by
    subst hr
    obtain ⟨l, xs, rfl, h1, h2, h3, h4⟩ := ok
    cases h4 with | cons g1 g2 => cases g1; cases g2 with | cons g3 g4 =>
      cases g3; cases g4
      have lD : l ∉ ads Δ := fun m => h2 (List.mem_append_right _ m)
      have Eu : Sit K X0 (l :: A) (wo H1 (ads Δ)) H1 σ Δ := (E.toSit0.under h1 e1 (fun a ha => e1.pot E1.toSit0 ha) (by rw [h3]; simp)).calm
      refine w (l :: A) _ H1 σ Eu _ fun vs H2 ds e2 E2 o2 q => ?_
      have h3' : H2 l = some (.lst [.int x, .int y]) := (wo_some (E2.base l _ (wo_mk lD h3))).2
      have same : ∀ a, a ∈ (l :: A) ++ ads Δ ↔ a ∈ (A ++ ads Δ) ++ [l] := fun a => by
        simp only [List.mem_append, List.mem_cons, List.mem_singleton, List.not_mem_nil, or_false]
        constructor
        · rintro ((h | h) | h)
          · exact .inr h
          · exact .inl (.inl h)
          · exact .inl (.inr h)
        · rintro ((h | h) | h)
          · exact .inl (.inr h)
          · exact .inr h
          · exact .inl (.inl h)
      show SpD K φ ((.ref l :: vs) ++ []) H2 Qh E0
      rw [List.append_nil]
      refine ⟨A ++ ads Δ, l, vs, ds, Q, rfl, ⟨x, y, h3', b1, b2, b3⟩, h2, by rw [← wo_congr same]; exact o2, fun a m => E2.domAll ((List.mem_append.mp m).elim (fun z => List.mem_append_left _ (List.mem_cons_of_mem _ z)) fun z => List.mem_append_right _ z), q, fun v H' r e po o z => ?_⟩
      have e12 : Kp Δ H H2 := e1.trans e2
      have kp : Kp Δ H H' := fun a u z => by
        have z2 := e12 a u z
        obtain ⟨m, q0⟩ := wo_some z
        obtain ⟨_, q1⟩ := wo_some z2
        have na : a ≠ l := fun ee => by subst ee; rw [h1] at q0; cases q0
        exact wo_mk m (wo_some (e a u (wo_mk (by simpa using na) q1))).2
      have pots12 : ∀ a, PotAt H a → PotAt H2 a := fun a ha => e2.pot E2.toSit0 (e1.pot E1.toSit0 ha)
      have Ex2 : Sit K xw A H0 H2 σ Δ := E.again e12 pots12
      have E3 : Sit K xw A H0 H' σ Δ := E.again kp fun a ha => by
        have h5 := pots12 a ha
        obtain ⟨x1, y1, el, ql⟩ := ha
        have na : a ≠ l := fun ee => by subst ee; rw [h1] at el; cases el
        obtain ⟨x2, y2, g2, q2⟩ := h5
        exact ⟨x2, y2, (wo_some (e a _ (wo_mk (by simpa using na) g2))).2, q2⟩
      exact k v H' r kp E3 (ResOk.back E.toSit0 e12 Ex2.toSit0 (o.less fun a m => List.mem_append_left _ m)) z
end DL

set_option Elab.async false
set_option linter.all false
set_option maxRecDepth 100000
/-! DLE: errors at the data level: raise, try, isinstance of what was caught, defs that may raise. -/
namespace DL
open PySem PySem.Spec PyProof.Rows L2 Evl
variable {xw : Xw}
theorem ps_imp {X : Cx} {st : Stmt} {t t' : TS} (h : PS X st t) (k : ∀ D σ H, t' D σ H → t D σ H) : PS X st t' := ⟨fun pins s σ H D I z => h.run pins s σ H D I (k D σ H z)⟩
/-! ### an own class of errors -/
/-- n is one of the program's own classes of errors, under ValueError, without an own __init__ -/
def ErrC (K : PySem.W.Frag) (mg : Str → Option Value) (n : Str) : Prop := ∃ C : Addr, mg n = some (.ref C) ∧ PySem.W.excIn K C [.type "ValueError", .type "Exception", .type "BaseException", .type "object"] "ValueError.__new__" = true ∧ PySem.W.keepIn K (.ref C) = true ∧
  PySem.W.subIn K (.ref C) (.type "BaseException") = some true ∧ PySem.W.typeIn K (.ref C) = some (.type "type")
def tRaise (cl : Str → Option Value) (W : WX) (n : Str) : TS := fun _ σ H => ∀ C, cl n = some (.ref C) → W (.ref C) none σ H
theorem ps_raiseN {X : Cx} {W : WX} {n m : Str} {j : Nat} {p p2 pos pos' : Pos} (e : ErrC X.K X.mg n) (hc : X.calm = true) (tk : Takes X W) (hg : Gl X n) (hdb : (n == ("__debug__" : Str)) = false := by decide) :
    PS X (.Raise (some (.Call (.Name n p) [.Constant (.str m) j p2] [] pos)) none pos') (tRaise X.mg W n) := by
  obtain ⟨C, g, x, k, b, t⟩ := e
  exact ps_imp (ps_raise hc tk (pmk_own PySem.F.excBase_ValueError x g k (raises_own b t) hg hdb)) fun D σ H z => z C g
theorem ws_raise {K : PySem.W.Frag} {Δ : List Ent} {P : Post} {n : Str} (h : xw.ex n Δ) : WSx K xw (tRaise xw.cl xw.W n) Δ P := fun A H0 H σ D E _ _ _ _ C hC => E.xo n C H σ Δ hC E.toSit0 h
/-! ### defs that may raise -/
def SpX (K : PySem.W.Frag) (mg : Str → Option Value) (φ : List PyData → (Rs → Prop) → (Str → Prop) → Prop) : Sp := fun vs H Q E => ∃ (A : List Addr) (ds : List PyData) (R : Rs → Prop) (N : Str → Prop), DpAll K (wo H A) vs ds ∧ (∀ a, a ∈ A → H a ≠ none) ∧ φ ds R N ∧
  (∀ v H' r, Ex H H' → ResOk K H H' A v r → R r → Q v H') ∧ ∀ n C H', mg n = some (.ref C) → Ex H H' → N n → E (.ref C) none H'
section
variable {K : PySem.W.Frag} {Δ : List Ent} {ta : TA} {Q : Rs → Prop} {φ : List PyData → (Rs → Prop) → (Str → Prop) → Prop}
theorem we_callX (h : WAx K xw ta Δ fun ds => φ ds Q fun n => xw.ex n Δ) : WEx K xw (tCallS (SpX K xw.cl φ) (L2.WE xw.W) ta) Δ Q := fun A H0 H σ E Qh k =>
  h A H0 H σ E _ fun vs H1 ds e1 E1 ok q => by
    refine ⟨A ++ ads Δ, ds, Q, fun n => xw.ex n Δ, ok, fun a m => E1.domAll m, q, fun v H' r e o z => k v H' r (e1.trans (Kp.of e)) (E1.ext e) (ResOk.back E.toSit0 e1 E1.toSit0 o) z, fun n C H' hC e z => ?_⟩
    exact E1.xo n C H' σ Δ hC (E1.ext e).toSit0 z
theorem we_callX0 {mg : Str → Option Value} (h : WAx K xw ta Δ fun ds => φ ds Q fun _ => False) : WEx K xw (tCall (SpX K mg φ) [] E0 ta) Δ Q := fun A H0 H σ E Qh k =>
  h A H0 H σ E _ fun vs H1 ds e1 E1 ok q => by
    show SpX K mg φ (vs ++ []) H1 Qh E0
    rw [List.append_nil]
    exact ⟨A ++ ads Δ, ds, Q, fun _ => False, ok, fun a m => E1.domAll m, q, fun v H' r e o z => k v H' r (e1.trans (Kp.of e)) (E1.ext e) (ResOk.back E.toSit0 e1 E1.toSit0 o) z, fun n C H' hC e z => z.elim⟩
end
def HasX (P : Program) (w : World) (K : PySem.W.Frag) (mg : Str → Option Value) (base : Heap) (x : Str) (k : Nat) (ps : List Str) (sp : Sp) : Prop :=
  ∃ f fd, FnOk P w K mg base (L2.CX P w) k f fd ps sp ∧ mg x = some (.ref f) ∧ PySem.W.keepIn K (.ref f) = true ∧ Binds K fd ps []
theorem hasX_of {P : Program} {w : World} {K : PySem.W.Frag} {mg : Str → Option Value} {base : Heap} {x : Str} {st : Stmt} {k : Nat} {ps : List Str} {sp : Sp} (D : Def K mg x st)
    (b : ∀ f fd, Fun K x x st f fd → Binds K fd ps []) (h : ∀ f fd, Fun K x x st f fd → FnOk P w K mg base (L2.CX P w) k f fd ps sp) : HasX P w K mg base x k ps sp := by
  obtain ⟨f, fd, F, m⟩ := D
  exact ⟨f, fd, h f fd F, m, F.kp, b f fd F⟩
/-- where it doesn't raise -/
theorem pe_callXn {X : Cx} {k : Nat} {x : Str} {ps : List Str} {sp : Sp} {e : Expr} {es : List Expr} {t : TA} {p pos : Pos} (h : HasX X.prog X.w X.K X.mg X.base x k ps sp) (hr : Room k X.A) (hg : Gl X x) (ha : PA X (e :: es) t)
    (hdb : (x == ("__debug__" : Str)) = false := by decide) (he : starEach (e :: es) X.env = (false, eval e X.env) :: starEach es X.env := by rfl) (hpl : (backTo pos (starEach es X.env)).any (·.1) = false := by rfl) :
    PE X (.Call (.Name x p) (e :: es) [] pos) (tCall sp [] E0 t) := by
  obtain ⟨f, fd, G, m, kp, b⟩ := h
  exact pe_call G hr hg m kp b .nil passL ha hdb he hpl
/-- where it may raise, and what is raised is taken -/
theorem pe_callXr {X : Cx} {W : WX} {k : Nat} {x : Str} {ps : List Str} {sp : Sp} {e : Expr} {es : List Expr} {t : TA} {p pos : Pos} (h : HasX X.prog X.w X.K X.mg X.base x k ps sp) (tk : Takes X W) (hr : Room k X.A) (hg : Gl X x) (ha : PA X (e :: es) t)
    (hdb : (x == ("__debug__" : Str)) = false := by decide) (he : starEach (e :: es) X.env = (false, eval e X.env) :: starEach es X.env := by rfl) (hpl : (backTo pos (starEach es X.env)).any (·.1) = false := by rfl) :
    PE X (.Call (.Name x p) (e :: es) [] pos) (tCallS sp (L2.WE W) t) := by
  obtain ⟨f, fd, G, m, kp, b⟩ := h
  exact pe_callS G hr hg m kp b (fun σ => passAt tk σ) ha hdb he hpl
section
variable {P : Program} {w : World} {K : PySem.W.Frag} {mg : Str → Option Value} {base : Heap} {x qual : Str} {st : Stmt} {f : Addr} {fd : FuncData} {N ps : List Str} {k : Nat} {φ : List PyData → (Rs → Prop) → (Str → Prop) → Prop} {t : (Str → Option Value) → WX → TS}
theorem okX (F : Fun K x qual st f fd) (S : FnScope N ps (defScope st)) (hl : ∀ ds R M, φ ds R M → ds.length = ps.length)
    (ht : ∀ (cdv : Value) (A : Around) (outer : List Env) (s : Shared) (H : Hp) (E : XK), Room k (A.deeper (envOfC qual (defScope st) s.heap.objs.size f cdv)) → PSs (cxOf (L2.CX P w) P w K mg base N qual (defScope st) f cdv A outer s H E) (defBody st) (t mg fun cls d _ H' => E cls d H'))
    (hw : ∀ (W : WX) ds R M, φ ds R M → WSx K ⟨mg, W, fun n _ => M n⟩ (t mg W) (ds.map Ent.val ++ List.replicate (N.length - ds.length) .unk) { nx := fun _ => R (.v .none), rt := R }) : FnOk P w K mg base (L2.CX P w) (k + 1) f fd ps (SpX K mg φ) := by
  refine F.okX S (fun vs H Q E h => ?_) (fun cdv A outer s H vs Q E hr h => ⟨t mg fun cls d _ H' => E cls d H', ht cdv A outer s H E hr, ?_⟩)
  · obtain ⟨A, ds, R, M, h1, _, h2, _⟩ := h
    rw [h1.length]
    exact hl ds R M h2
  · obtain ⟨A, ds, R, M, h1, hA, h2, h3, h4⟩ := h
    have a0 := ads_start (N.length - ds.length) ds
    have S0 : Sit0 K A H H (L2.start N vs) (ds.map Ent.val ++ List.replicate (N.length - ds.length) .unk) := by
      refine ⟨by rw [a0, wo_nil]; exact fun _ _ z => z, hA, fun i e hi => ?_, by rw [a0]; simp, ?_⟩
      · rw [a0, List.append_nil]
        unfold L2.start
        rw [h1.length]
        exact ents_start h1 i e hi
      · unfold L2.start
        rw [List.length_append, List.length_append, List.length_map, List.length_map, List.length_replicate, List.length_replicate, h1.length]
    refine hw (fun cls d _ H' => E cls d H') ds R M h2 A H H (L2.start N vs) _ ⟨S0, fun n C H' σ' Δ' hC E' z => h4 n C H' hC (fun a o q => wo_ex a o (E'.base a o q)) z⟩ (fun H' σ' Δ' E' q => ?_) (fun H' v r e _ o q => ?_) (fun H' σ' Δ' E' q => q.elim) (fun H' σ' Δ' E' q => q.elim)
    · exact h3 .non H' (.v .none) (fun a o z => wo_ex a o (E'.base a o z)) Dp.non q
    · exact h3 v H' r (by rw [show wo H' ([] : List Addr) = H' from wo_nil] at e; exact e) (by rw [show A ++ ([] : List Addr) = A from List.append_nil A] at o; exact o) q
end
/-! ### try: body, except n0 as e: suite -/
def tTry (K : PySem.W.Frag) (cl : Str → Option Value) (n0 : Str) (i : Nat) (tb : WX → TS) (ts : Addr → Value → Option Addr → TS) (Wout : WX) : TS := fun D σ H => ∀ c, cl n0 = some c → tb (wAs K c i ts Wout D) D σ H
theorem ps_tryE {X : Cx} {n0 en : Str} {c : Value} {i : Nat} {body suite : List Stmt} {b₀ : Stmt} {np pos pos' : Pos} {tb : WX → TS} {ts : Addr → Value → Option Addr → TS} {Wout : WX}
    (hs : X.stack = X.env :: X.outer) (hf : X.env.frame = some X.env.locals) (hN : X.N.Nodup) (hi : X.N[i]? = some en) (hln : X.env.kindOf en = some .local) (g : X.mg n0 = some c) (hg : Gl X n0) (tk : Takes X Wout)
    (hb : ∀ (W : WX) (pn : List (Addr × Obj)) (xe : Value → Shared → Prop), Takes (X.tr pn xe) W → PassesOwn (model X.prog X.w) X.A X.env xe → PSs (X.tr pn xe) body (tb W))
    (hsu : ∀ (a : Addr) (oe : Obj) (cls : Value) (d : Option Addr) (pn : List (Addr × Obj)), Zc cls d oe → (∃ vs, oe.data = .fields vs) → PSs (X.suite a ((a, oe) :: pn)) (b₀ :: suite) (ts a cls d)) (hdb : (n0 == ("__debug__" : Str)) = false := by decide) :
    PS X (.Try body [.ExceptHandler (some (.Name n0 np)) (some en) (b₀ :: suite) pos'] [] [] pos) (tTry X.K X.mg n0 i tb ts Wout) :=
  ps_imp (ps_try_as hs hf hN hi hln ⟨hg, hdb, .inl g⟩ tk hb hsu) fun D σ H z => z c g
section
variable {K : PySem.W.Frag} {A : List Addr} {H0 H : Hp} {σ : L2.St} {Δ : List Ent}
theorem Sit0.setE (E : Sit0 K A H0 H σ Δ) {i : Nat} {o : Option V} {e : Ent} (ha : e.ad = []) (h : ∀ O, EntOk K H O (some o) e) : Sit0 K A H0 H (σ.set i o) (Δ.set i e) := by
  have sub : ∀ a, a ∈ ads (Δ.set i e) → a ∈ ads Δ := fun a m => (ads_set_mem m).elim (fun z => by rw [ha] at z; cases z) id
  have subA : ∀ a, a ∈ A ++ ads (Δ.set i e) → a ∈ A ++ ads Δ := fun a m => (List.mem_append.mp m).elim (fun z => List.mem_append_left _ z) fun z => List.mem_append_right _ (sub a z)
  refine ⟨fun a u z => wo_sub sub a u (E.base a u z), E.dom, fun j f hj => ?_, ads_set_nd E.nd (by rw [ha]; simp) (fun a z => by rw [ha] at z; cases z), by rw [List.length_set, List.length_set]; exact E.len⟩
  by_cases hij : i = j
  · subst hij
    have hl : i < Δ.length := by
      have := (List.getElem?_eq_some_iff.mp hj).1
      rwa [List.length_set] at this
    rw [List.getElem?_set_self hl] at hj
    cases hj
    rw [List.getElem?_set_self (by rw [E.len]; exact hl)]
    exact h _
  · rw [List.getElem?_set_ne hij] at hj
    rw [List.getElem?_set_ne hij]
    exact (E.ents j f hj).up (wo_sub subA)
end
theorem ws_try {K : PySem.W.Frag} {Δ : List Ent} {P : Post} {n0 : Str} {i : Nat} {tb : WX → TS} {ts : Addr → Value → Option Addr → TS} {cl : Str → Option Value} {Wout : WX} (ex : Str → List Ent → Prop)
    (hE : ∀ m Δ', ex m Δ' → ∀ C c, cl m = some (.ref C) → cl n0 = some c → PySem.W.exmOne K (.ref C) c = some true ∧ ∀ a, WS K (ts a (.ref C) none) (Δ'.set i (.exc a)) { P with nx := fun Δ2 => P.nx (Δ2.set i .unk), bk := fun Δ2 => P.bk (Δ2.set i .unk), ct := fun Δ2 => P.ct (Δ2.set i .unk) })
    (hb : ∀ W, WSx K ⟨cl, W, ex⟩ (tb W) Δ P) : WSx K xw (tTry K cl n0 i tb ts Wout) Δ P := fun A H0 H σ D E n r b c => fun cv hcv => by
  refine hb _ A H0 H σ D ⟨E.toSit0, fun m C H' σ' Δ' hC E' z => ?_⟩ (fun H' σ' Δ' E' q => n H' σ' Δ' ⟨E'.toSit0, E.xo⟩ q) r (fun H' σ' Δ' E' q => b H' σ' Δ' ⟨E'.toSit0, E.xo⟩ q) (fun H' σ' Δ' E' q => c H' σ' Δ' ⟨E'.toSit0, E.xo⟩ q)
  obtain ⟨h1, h2⟩ := hE m Δ' z C cv hC hcv
  refine ⟨true, h1, fun _ a _ => ?_, fun q => nomatch q⟩
  have back : ∀ {H2 : Hp} {σ2 : L2.St} {Δ2 : List Ent}, Sit0 K A H0 H2 σ2 Δ2 → Sit K xw A H0 H2 (σ2.set i none) (Δ2.set i .unk) := fun E2 => ⟨E2.setE rfl (fun _ => trivial), E.xo⟩
  exact h2 a A H0 H' _ _ (E'.setE (o := some (.ref a)) (e := .exc a) rfl (fun _ => rfl)).calm (fun H2 σ2 Δ2 E2 q => n H2 _ _ (back E2.toSit0) q) r (fun H2 σ2 Δ2 E2 q => b H2 _ _ (back E2.toSit0) q) (fun H2 σ2 Δ2 E2 q => c H2 _ _ (back E2.toSit0) q)
/-! ### isinstance of what was caught -/
/-- a class by its name: the program's own, or ValueError -/
def clV (cl : Str → Option Value) (n : Str) : Value := (cl n).getD (.type "ValueError")
def clW (cl : Str → Option Value) (n : Str) : V := match cl n with
  | some (.ref C) => .ref C
  | _ => .ty "ValueError"
/-- the caught error is of a class of which these answers are known -/
def tIsE (K : PySem.W.Frag) (cl : Str → Option Value) (i : Nat) (a : Addr) (cls : Value) (d : Option Addr) (ns : List Str) : TE := fun σ H Q => σ[i]? = some (some (.ref a)) ∧ d = none ∧ ∃ (D : Addr) (b : Bool), cls = .ref D ∧ ExcC K D ∧ PySem.W.kitAny K cls (ns.map (clV cl)) = some b ∧ ∀ H', Ex H H' → Q (.bl b) H'
/-- n is a class's name in X -/
def ClsN (X : Cx) (n : Str) : Prop := ((∃ C, X.mg n = some (.ref C)) ∨ (n = "ValueError" ∧ X.mg n = none)) ∧ Gl X n ∧ (n == ("__debug__" : Str)) = false
theorem clsn_own {X : Cx} {n : Str} (e : ErrC X.K X.mg n) (hg : Gl X n) (hd : (n == ("__debug__" : Str)) = false := by decide) : ClsN X n := by
  obtain ⟨C, g, _⟩ := e
  exact ⟨.inl ⟨C, g⟩, hg, hd⟩
theorem clsn_ve {X : Cx} (m : X.mg "ValueError" = none) (hg : Gl X "ValueError") : ClsN X "ValueError" := ⟨.inr ⟨rfl, m⟩, hg, by decide⟩
theorem pe_cls {X : Cx} {n : Str} {pos : Pos} (h : ClsN X n) : PE X (.Name n pos) (tC (clW X.mg n)) := by
  obtain ⟨⟨C, g⟩ | ⟨rfl, g⟩, hg, hd⟩ := h
  · have e : clW X.mg n = .ref C := by unfold clW; rw [g]
    rw [e]
    exact pe_glob hg g rfl hd
  · have e : clW X.mg "ValueError" = .ty "ValueError" := by unfold clW; rw [g]
    rw [e]
    exact pe_bltn hg g (by decide +kernel) rfl
theorem clw_is {X : Cx} {n : Str} (h : ClsN X n) : ClsV (clW X.mg n) (clV X.mg n) := by
  obtain ⟨⟨C, g⟩ | ⟨rfl, g⟩, _⟩ := h
  · unfold clW clV
    rw [g]
    exact .own C
  · unfold clW clV
    rw [g]
    exact .ty _
section
variable {X : Cx} {a : Addr} {oe : Obj} {pn : List (Addr × Obj)} {cls : Value} {d : Option Addr} {i : Nat} {en : Str} {p pe pos : Pos}
theorem inst_of {pins : List (Addr × Obj)} {σ : L2.St} {H : Hp} {s : Shared} {D : Addr} (I : Inv (X.suite a ((a, oe) :: pn)) pins σ H s) (hz : Zc (.ref D) none oe) (hf : ∃ vs, oe.data = .fields vs) : PySem.W.InstAt s.heap a oe D none := by
  obtain ⟨hget, _⟩ := I.pin (a, oe) (List.mem_append.mpr (.inl List.mem_cons_self))
  obtain ⟨vs, hv⟩ := hf
  obtain ⟨oc, od, oda, osl⟩ := oe
  obtain ⟨h1, h2⟩ := hz
  dsimp only at h1 h2 hv
  subst h1 h2 hv
  exact ⟨hget, rfl, rfl, trivial⟩
def rIsT (K : PySem.W.Frag) (D a : Addr) : List V → Hp → VK → Prop := fun xs H Q => ∃ (tp : Addr) (cs : List V) (us : List Value) (b : Bool), xs = [.ref a, .ref tp] ∧ H tp = some (.tup cs) ∧ Paired ClsV cs us ∧ PySem.W.kitAny K (.ref D) us = some b ∧ Q (.bl b) H
theorem call_isT {D : Addr} (C : ExcC X.K D) (hz : Zc (.ref D) none oe) (hf : ∃ vs, oe.data = .fields vs) : CallR (X.suite a ((a, oe) :: pn)) (.builtin "isinstance") (rIsT X.K D a) := by
  intro pins s σ H xs us Q I r h
  obtain ⟨tp, cs, ws, b, rfl, hT, k, e, q⟩ := h
  obtain ⟨u1, u2, rfl, r1, r2⟩ := vals2 r
  cases (show u2 = Value.ref tp from r2)
  cases (show u1 = Value.ref a from r1)
  obtain ⟨_, its, rv, o, h1, h2, n, h3⟩ := (show ObjOk X.prog X.w H s.heap tp (.tup cs) from I.hok tp _ hT)
  have e3 := ClsV.all k rv
  subst e3
  obtain ⟨oc, od, dt, sl⟩ := o
  simp only at h2 h3
  subst h2 h3
  exact PySem.W.kia_tup (PySem.W.handS_kitx_exc C.hg C.hk C.hs C.hd C.ha C.hn C.ht C.hm) I.kIn (inst_of I hz hf) h1 e (fun z => nomatch z) fun tk => ⟨.bl b, H, I.kept (t' := tk) fun _ _ z => z, rfl, q⟩
/-- isinstance(e, n) -/
theorem pe_isE1 {n : Str} {pn' : Pos} (hz : Zc cls d oe) (hf : ∃ vs, oe.data = .fields vs) (hN : X.N[i]? = some en) (hv : Vis X.env.scope en) (hc : ClsN (X.suite a ((a, oe) :: pn)) n) (hg : Gl X "isinstance") (hm : X.mg "isinstance" = none) (hd : (en == ("__debug__" : Str)) = false := by decide) (hcd : (en == ("__classdict__" : Str)) = false := by decide)
    (he : starEach [.Name en pe, .Name n pn'] X.env = (false, eval (.Name en pe) X.env) :: starEach [.Name n pn'] X.env := by rfl) (hpl : (backTo pos (starEach [.Name n pn'] X.env)).any (·.1) = false := by rfl) :
    PE (X.suite a ((a, oe) :: pn)) (.Call (.Name "isinstance" p) [.Name en pe, .Name n pn'] [] pos) (tIsE X.K X.mg i a cls d [n]) := by
  refine ⟨fun pins s σ H Q I h => ?_⟩
  obtain ⟨hi, rfl, D, b, rfl, C, hk, q⟩ := h
  have hk1 : PySem.W.kitOne X.K (.ref D) (clV X.mg n) = some b := by
    have hk' : (match PySem.W.kitOne X.K (.ref D) (clV X.mg n) with | some true => some true | some false => PySem.W.kitAny X.K (.ref D) [] | none => none) = some b := hk
    cases e : PySem.W.kitOne X.K (.ref D) (clV X.mg n) with
    | none => rw [e] at hk'; cases hk'
    | some k =>
      rw [e] at hk'
      cases k with
      | true => exact hk'
      | false => exact hk'
  refine (pe_callB (call_isE C hz hf) hg hm (by decide +kernel) (pa_cons (pe_var (i := i) hN hv hd hcd) (pa_cons (pe_cls hc) pa_nil)) (he := he) (hpl := hpl)).run pins s σ H Q I ⟨.ref a, hi, ?_⟩
  exact ⟨_, _, b, rfl, fun u ru => (clw_is hc).eq ru, hk1, q H fun _ _ z => z⟩
theorem pa_cls : ∀ {Y : Cx} {ns : List (Str × Pos)}, (∀ q, q ∈ ns → ClsN Y q.1) → PA Y (ns.map fun q => .Name q.1 q.2) (fun _ H Q => Q (ns.map fun q => clW Y.mg q.1) H)
  | Y, [], _ => by
    have := pa_nil (X := Y)
    exact this
  | Y, q :: ns, h => by
    have h1 := pe_cls (pos := q.2) (h q List.mem_cons_self)
    have h2 := pa_cls (Y := Y) (ns := ns) fun r m => h r (List.mem_cons_of_mem _ m)
    exact pa_cons h1 h2
/-- isinstance(e, (n, ..)) -/
theorem pe_isET {ns : List (Str × Pos)} {tp : Pos} {kk : Nat} (hz : Zc cls d oe) (hf : ∃ vs, oe.data = .fields vs) (hN : X.N[i]? = some en) (hv : Vis X.env.scope en) (hc : ∀ q, q ∈ ns → ClsN (X.suite a ((a, oe) :: pn)) q.1) (hl : ns.length ≤ 1000) (hg : Gl X "isinstance") (hm : X.mg "isinstance" = none) (hd : (en == ("__debug__" : Str)) = false := by decide) (hcd : (en == ("__classdict__" : Str)) = false := by decide)
    (he : starEach [.Name en pe, .Tuple (ns.map fun q => .Name q.1 q.2) kk tp] X.env = (false, eval (.Name en pe) X.env) :: starEach [.Tuple (ns.map fun q => .Name q.1 q.2) kk tp] X.env := by rfl) (hpl : (backTo pos (starEach [.Tuple (ns.map fun q => .Name q.1 q.2) kk tp] X.env)).any (·.1) = false := by rfl) :
    PE (X.suite a ((a, oe) :: pn)) (.Call (.Name "isinstance" p) [.Name en pe, .Tuple (ns.map fun q => .Name q.1 q.2) kk tp] [] pos) (tIsE X.K X.mg i a cls d (ns.map fun q => q.1)) := by
  refine ⟨fun pins s σ H Q I h => ?_⟩
  obtain ⟨hi, rfl, D, b, rfl, C, hk, q⟩ := h
  refine (pe_callB (call_isT C hz hf) hg hm (by decide +kernel) (pa_cons (pe_var (i := i) hN hv hd hcd) (pa_cons (pe_tup (pa_cls hc)) pa_nil)) (he := he) (hpl := hpl)).run pins s σ H Q I ⟨.ref a, hi, ?_⟩
  refine ⟨sz_of (by rw [List.length_map]; omega), fun t ht => ?_⟩
  refine ⟨t, _, (ns.map fun q => q.1).map (clV X.mg), b, rfl, upd_same, ?_, hk, q _ (Ex.new ht)⟩
  have all : ∀ (ns : List (Str × Pos)), (∀ q, q ∈ ns → ClsN (X.suite a ((a, oe) :: pn)) q.1) → Paired ClsV (ns.map fun q => clW X.mg q.1) ((ns.map fun q => q.1).map (clV X.mg)) := by
    intro ns
    induction ns with
    | nil => intro _; exact .nil
    | cons q ns ih => intro h; exact .cons (clw_is (h q List.mem_cons_self)) (ih fun r m => h r (List.mem_cons_of_mem _ m))
  exact all ns hc
end
/-- which of the own classes an error of the class m is one of -/
def isOf (m n : Str) : Bool := n == m || n == "MeansError" || n == "ValueError"
/-- what is known of the classes of errors: rs are raised, ts are asked for -/
structure Errs (K : PySem.W.Frag) (mg : Str → Option Value) (rs ts : List Str) : Prop where
  exm : ∀ m, m ∈ rs → ∀ C c, mg m = some (.ref C) → mg "MeansError" = some c → PySem.W.exmOne K (.ref C) c = some true
  exc : ∀ m, m ∈ rs → ∀ C, mg m = some (.ref C) → ExcC K C
  kit : ∀ m, m ∈ rs → ∀ n, n ∈ ts → ∀ C, mg m = some (.ref C) → PySem.W.kitOne K (.ref C) (clV mg n) = some (isOf m n)
theorem kit_any {K : PySem.W.Frag} {t : Value} {f : Str → Value} {g : Str → Bool} : ∀ {ns : List Str}, (∀ n, n ∈ ns → PySem.W.kitOne K t (f n) = some (g n)) → PySem.W.kitAny K t (ns.map f) = some (ns.any g)
  | [], _ => rfl
  | n :: ns, h => by
    have h1 := h n List.mem_cons_self
    have h2 := kit_any (K := K) (t := t) (f := f) (g := g) (ns := ns) fun m q => h m (List.mem_cons_of_mem _ q)
    show (match PySem.W.kitOne K t (f n) with | some true => some true | some false => PySem.W.kitAny K t (ns.map f) | none => none) = some (g n || ns.any g)
    rw [h1]
    cases g n with
    | true => rfl
    | false => exact h2
theorem we_isE {K : PySem.W.Frag} {Δ : List Ent} {Q : Rs → Prop} {cl : Str → Option Value} {rs ts ns : List Str} {i : Nat} {a C : Addr} {m : Str} (hE : Errs K cl rs ts) (hm : m ∈ rs) (hC : cl m = some (.ref C)) (hi : Δ[i]? = some (.exc a)) (hn : ∀ n, n ∈ ns → n ∈ ts) (q : Q (.v (.bool (ns.any (isOf m))))) : WEx K xw (tIsE K cl i a (.ref C) none ns) Δ Q := fun A H0 H σ E Qh k =>
  ⟨E.ents i _ hi, rfl, C, ns.any (isOf m), rfl, hE.exc m hm C hC, kit_any fun n h => hE.kit m hm n (hn n h) C hC, fun H' e => k _ H' (.v _) (Kp.of e) (E.ext e) (Dp.bl _) q⟩
theorem we_isEb {K : PySem.W.Frag} {Δ : List Ent} {Q : Rs → Prop} {cl : Str → Option Value} {rs ts ns : List Str} {i : Nat} {a C : Addr} {m : Str} (b : Bool) (hE : Errs K cl rs ts) (hm : m ∈ rs) (hC : cl m = some (.ref C)) (hi : Δ[i]? = some (.exc a)) (hn : ∀ n, n ∈ ns → n ∈ ts) (hb : ns.any (isOf m) = b) (q : Q (.v (.bool b))) : WEx K xw (tIsE K cl i a (.ref C) none ns) Δ Q := we_isE hE hm hC hi hn (by rw [hb]; exact q)
theorem ps_tryM {X : Cx} {n0 en : Str} {i : Nat} {body suite : List Stmt} {b₀ : Stmt} {np pos pos' : Pos} {tb : WX → TS} {ts : Addr → Value → Option Addr → TS} {Wout : WX}
    (hs : X.stack = X.env :: X.outer) (hf : X.env.frame = some X.env.locals) (hN : X.N.Nodup) (hi : X.N[i]? = some en) (hln : X.env.kindOf en = some .local) (g : ∃ C, X.mg n0 = some (.ref C)) (hg : Gl X n0) (tk : Takes X Wout)
    (hb : ∀ (W : WX) (pn : List (Addr × Obj)) (xe : Value → Shared → Prop), Takes (X.tr pn xe) W → PassesOwn (model X.prog X.w) X.A X.env xe → PSs (X.tr pn xe) body (tb W))
    (hsu : ∀ (a : Addr) (oe : Obj) (cls : Value) (d : Option Addr) (pn : List (Addr × Obj)), Zc cls d oe → (∃ vs, oe.data = .fields vs) → PSs (X.suite a ((a, oe) :: pn)) (b₀ :: suite) (ts a cls d)) (hdb : (n0 == ("__debug__" : Str)) = false := by decide) :
    PS X (.Try body [.ExceptHandler (some (.Name n0 np)) (some en) (b₀ :: suite) pos'] [] [] pos) (tTry X.K X.mg n0 i tb ts Wout) := by
  obtain ⟨C, g⟩ := g
  exact ps_tryE hs hf hN hi hln g hg tk hb hsu hdb
theorem clsn_nm {X : Cx} {n : Str} (e : ∃ C, X.mg n = some (.ref C)) (hg : Gl X n) (hd : (n == ("__debug__" : Str)) = false := by decide) : ClsN X n := ⟨.inl e, hg, hd⟩
theorem we_dict {K : PySem.W.Frag} {Δ : List Ent} {Q : Rs → Prop} (q : Q (.v (.dict []))) : WEx K xw tDNewK Δ Q := fun A H0 H σ E Qh k p hp => by
  have e : Ex H (upd H p (.dK [])) := Ex.new hp
  exact k _ _ (.v _) (Kp.of e) (E.ext e) (Dp.dct (wo_mk (fun m => E.domAll m hp) upd_same)) q
/-- the facts of one class of errors that is raised -/
theorem excc_mk {K : PySem.W.Frag} {D : Addr} (h1 : PySem.W.findIn K (.ref D) "__getattribute__" = some (some (.builtin "BaseException.__getattribute__"))) (h2 : PySem.W.findIn K (.ref D) "__getattr__" = some none) (h3 : PySem.W.subIn K (.ref D) (.type "BaseException") = some true) (h4 : PySem.W.hasDictIn K D = true)
    (h5 : PySem.W.findIn K (.ref D) "__class__" = some (some (.builtin "object.__class__"))) (h6 : PySem.W.specialIn K (.builtin "object.__class__") "__get__" = some (some (.builtin "getset_descriptor.__get__"))) (h7 : PySem.W.takesIn K (.builtin "object.__class__") = some true) (h8 : PySem.W.mroIn K D (.type "object") = some true) : ExcC K D := ⟨h1, h2, h3, h4, h5, h6, h7, h8⟩
theorem kit_same {K : PySem.W.Frag} {C : Addr} : PySem.W.kitOne K (.ref C) (.ref C) = some true := by
  unfold PySem.W.kitOne
  rw [if_pos (beq_self_eq_true _)]
theorem kit_own {K : PySem.W.Frag} {C D : Addr} {b : Bool} (h1 : PySem.W.hasDictIn K C = true) (h2 : PySem.W.typeIn K (.ref C) = some (.type "type")) (h3 : PySem.W.subIn K (.ref D) (.ref C) = some b) (hb : b = true ∨ D ≠ C) : PySem.W.kitOne K (.ref D) (.ref C) = some b := by
  obtain ⟨cd, hc, _⟩ := PySem.W.any_some h1
  have e2 : ((PySem.W.clsIn K C).isSome && PySem.W.typeIn K (.ref C) == some (.type "type")) = true := by rw [hc, h2] <;> rfl
  unfold PySem.W.kitOne
  by_cases e : D = C
  · rcases hb with rfl | hb
    · rw [e, if_pos (beq_self_eq_true _)]
    · exact absurd e hb
  · rw [if_neg (by intro z; exact e (Value.ref.inj (beq_iff_eq.mp z)))]
    show (if ((PySem.W.clsIn K C).isSome && PySem.W.typeIn K (.ref C) == some (.type "type")) = true then PySem.W.subIn K (.ref D) (.ref C) else none) = some b
    rw [if_pos e2]
    exact h3
theorem kit_ve {K : PySem.W.Frag} {D : Addr} (h3 : PySem.W.subIn K (.ref D) (.type "ValueError") = some true) : PySem.W.kitOne K (.ref D) (.type "ValueError") = some true := by
  unfold PySem.W.kitOne
  rw [if_neg (by simp)]
  show (if PySem.W.kitMeta "ValueError" = true then PySem.W.subIn K (.ref D) (.type "ValueError") else none) = some true
  rw [if_pos (by decide +kernel)]
  exact h3
/-- two names of unlike classes: what one is and the other is not -/
theorem ne_cls {K : PySem.W.Frag} {C D : Addr} (h : PySem.W.subIn K (.ref D) (.ref C) = some false) (h2 : PySem.W.subIn K (.ref D) (.ref D) = some true) : D ≠ C := fun e => by
  subst e
  rw [h] at h2
  cases h2
end DL

set_option Elab.async false
set_option linter.all false
set_option maxRecDepth 100000
/-! DLG: defs that are called where no text of a thing is being made: repr of data. -/
namespace DL
open PySem PySem.Spec PyProof.Rows L2 Evl
variable {xw : Xw}
/-- as FnOk, called where nothing is being shown -/
structure FnG (P : Program) (w : World) (K : PySem.W.Frag) (mg : Str → Option Value) (base : Heap) (CX : CXT) (k : Nat) (f : Addr) (fd : FuncData) (ps : List Str) (sp : Sp) : Prop where
  len : ∀ vs H Q E, sp vs H Q E → vs.length = ps.length
  run : ∀ (A : Around) (outer : List Env) (s : Shared) (H : Hp) (args : Args) (us : List Value) (vs : List V) (Q : VK) (E : XK), Room k A → A.guards = some [] → Env0 P w K mg base A outer s H → BindsTo s fd args (ps.zip us) → Vals vs us → sp vs H Q E →
    codeAny (model P w) A (.call (.ref f) args) (CR CX outer P w H s Q E) s
theorem fnG_of {CX : CXT} {P : Program} {w : World} {K : PySem.W.Frag} {mg : Str → Option Value} {base : Heap} {k : Nat} {f : Addr} {name qual : Str} {params : Arguments} {body : List Stmt} {scope : Scope} {dV kV doc pm cdv ct oc : Value} {an od : Option Addr}
    {osl : Array (Option Value)} {N ps : List Str} {sp : Sp} (lk : K.lookup f = some ⟨oc, od, .func (PySem.W.fnOf name qual params body scope dV kV doc pm an cdv ct), osl⟩) (hcd : PySem.W.codeIn K cdv qual = true) (S : FnScope N ps scope)
    (len : ∀ vs H Q E, sp vs H Q E → vs.length = ps.length)
    (hbody : ∀ (A : Around) (outer : List Env) (s : Shared) (H : Hp) (vs : List V) (Q : VK) (E : XK), Room k (A.deeper (envOfC qual scope s.heap.objs.size f cdv)) → (A.deeper (envOfC qual scope s.heap.objs.size f cdv)).guards = some [] → sp vs H Q E →
      ∃ t, PSs (cxOf CX P w K mg base N qual scope f cdv A outer s H E) body t ∧ t { nx := fun _ H' => Q .non H', rt := Q } (L2.start N vs) H) :
    FnG P w K mg base CX (k + 1) f (PySem.W.fnOf name qual params body scope dV kV doc pm an cdv ct) ps sp := by
  refine ⟨len, fun A outer s H args us vs Q E hr hG e0 hb r hsp => ?_⟩
  have F : FnOk P w K mg base CX (k + 1) f (PySem.W.fnOf name qual params body scope dV kV doc pm an cdv ct) ps (fun vs' H' Q' E' => False) := ⟨fun _ _ _ _ h => h.elim, fun _ _ _ _ _ _ _ _ _ _ _ _ _ h => h.elim⟩
  have hl := len _ _ _ _ hsp
  have KX : K.In s.heap := e0.mod.kin.keeps fun b o e => (e0.bs b o e).1
  have lim : s.heap.NoLimit := e0.mod.nolimit.keeps fun b o e => (e0.bs b o e).1
  have kinds : ∀ y ∈ ps.zip us, scope.names.lookup y.1 = some .local ∨ (scope.names.lookup y.1 = some .cell ∧ ((cellsFrom (s.heap.objs.size + 1) scope.names []).lookup y.1).isSome = true) := by
    rintro ⟨n, v⟩ hy
    exact (S.par n (List.of_mem_zip hy).1).imp id fun q => ⟨q, PySem.W.cellsFrom_some _ _ _ (.inl q)⟩
  refine codeAny_call_function hr.depth (KX _ _ lk) rfl S.co S.gen rfl (PySem.W.codeRec_of KX hcd) (hb _ _ _ _ (wpAny_newFunctionEnv_cells S.kind kinds fun env he s1 x => ?_))
  subst he
  refine ⟨lim.keeps x.toInCall.keep, codeAny_func ?_⟩
  obtain ⟨t, ht, hq⟩ := hbody A outer s H vs Q E (hr.deeper _) hG hsp
  have I : Inv (cxOf CX P w K mg base N qual scope f cdv A outer s H E) [] (L2.start N vs) H s1 := inv_start S hr.hd e0 hl r x
  refine wpAny_mono (ht.run [] s1 (L2.start N vs) H _ I hq) (fun fl s' hs => ?_) fun e s' hs => hs
  cases fl with
  | ret u =>
    obtain ⟨v, σ', H', J, rv, q⟩ := hs
    exact ⟨v, H', J.os, J.bare, J.base, J.hok, rv, q⟩
  | next =>
    obtain ⟨σ', H', J, q⟩ := hs
    exact ⟨V.non, H', J.os, J.bare, J.base, J.hok, rfl, q⟩
  | brk =>
    obtain ⟨_, _, _, q⟩ := hs
    exact q.elim
  | cont =>
    obtain ⟨_, _, _, q⟩ := hs
    exact q.elim
section
variable {X : Cx} {CX : CXT} {k : Nat} {f : Addr} {fd : FuncData} {ps : List Str} {sp : Sp} {E : L2.St → XK} {x : Str} {p pos : Pos} {e : Expr} {es : List Expr} {t : TA}
theorem run_fnG {pins : List (Addr × Obj)} {σ : L2.St} {H : Hp} {s : Shared} {Q : VK} {us : List Value} {vs : List V} (F : FnG X.prog X.w X.K X.mg X.base CX k f fd ps sp) (hr : Room k X.A) (hG : X.A.guards = some []) (hb : Binds X.K fd ps []) (hx : PassesAt CX X σ (E σ))
    (I : Inv X pins σ H s) (r : Vals vs us) (h : sp vs H Q (E σ)) : wpAny (model X.prog X.w) X.A (call (.ref f) us) (EP X pins σ Q) X.xe s := by
  have hl : us.length = ps.length := by rw [← r.length]; exact F.len _ _ _ _ h
  have b := hb s us I.kIn (by rw [List.append_nil]; exact hl)
  rw [List.append_nil] at b
  refine wpAny_call (codeAny_mono (F.run X.A X.stack s H ⟨us, []⟩ us vs Q (E σ) hr hG I.env0 b r h) fun r s' hq => ?_)
  cases r with
  | error e => exact hx pins H s e s' I hq
  | ok fl =>
    cases fl with
    | ret u => exact I.after hq
    | next => exact hq.elim
    | brk => exact hq.elim
    | cont => exact hq.elim
theorem pe_callSG (F : FnG X.prog X.w X.K X.mg X.base CX k f fd ps sp) (hr : Room k X.A) (hG : X.A.guards = some []) (hg : Gl X x) (hm : X.mg x = some (.ref f)) (hk : PySem.W.keepIn X.K (.ref f) = true) (hb : Binds X.K fd ps []) (hx : ∀ σ, PassesAt CX X σ (E σ))
    (ha : PA X (e :: es) t) (hdb : (x == ("__debug__" : Str)) = false := by decide) (he : starEach (e :: es) X.env = (false, eval e X.env) :: starEach es X.env := by rfl) (hpl : (backTo pos (starEach es X.env)).any (·.1) = false := by rfl) :
    PE X (.Call (.Name x p) (e :: es) [] pos) (tCallS sp E t) := by
  refine ⟨fun pins s σ H Q I h => wpAny_Call_Name_kw (ld_glob I hg hm ?_ hdb)⟩
  exact PySem.W.callWith_K (h₀ := X.base) I.ok.mod.kin hk (thn (ha.run pos pins s σ H _ I h) fun us s1 ⟨vs, H1, I1, r, q⟩ => ⟨I1.kIn, run_fnG F hr hG hb (hx σ) I1 r q⟩) he hpl
theorem pe_callSG0 (F : FnG X.prog X.w X.K X.mg X.base CX k f fd ps sp) (hr : Room k X.A) (hG : X.A.guards = some []) (hg : Gl X x) (hm : X.mg x = some (.ref f)) (hk : PySem.W.keepIn X.K (.ref f) = true) (hb : Binds X.K fd ps []) (hx : ∀ σ, PassesAt CX X σ (E σ))
    (hdb : (x == ("__debug__" : Str)) = false := by decide) : PE X (.Call (.Name x p) [] [] pos) (tCallS sp E tNil) := by
  refine ⟨fun pins s σ H Q I h => wpAny_Call_Name_kw (ld_glob I hg hm ?_ hdb)⟩
  exact PySem.W.callWith_K0 I.kIn hk (run_fnG (us := []) F hr hG hb (hx σ) I .nil h)
end
def HasG (P : Program) (w : World) (K : PySem.W.Frag) (mg : Str → Option Value) (base : Heap) (x : Str) (k : Nat) (ps : List Str) (sp : Sp) : Prop :=
  ∃ f fd, FnG P w K mg base CX0 k f fd ps sp ∧ mg x = some (.ref f) ∧ PySem.W.keepIn K (.ref f) = true ∧ Binds K fd ps []
def HasXG (P : Program) (w : World) (K : PySem.W.Frag) (mg : Str → Option Value) (base : Heap) (x : Str) (k : Nat) (ps : List Str) (sp : Sp) : Prop :=
  ∃ f fd, FnG P w K mg base (L2.CX P w) k f fd ps sp ∧ mg x = some (.ref f) ∧ PySem.W.keepIn K (.ref f) = true ∧ Binds K fd ps []
theorem hasG_of {P : Program} {w : World} {K : PySem.W.Frag} {mg : Str → Option Value} {base : Heap} {x : Str} {st : Stmt} {k : Nat} {ps : List Str} {sp : Sp} (D : Def K mg x st)
    (b : ∀ f fd, Fun K x x st f fd → Binds K fd ps []) (h : ∀ f fd, Fun K x x st f fd → FnG P w K mg base CX0 k f fd ps sp) : HasG P w K mg base x k ps sp := by
  obtain ⟨f, fd, F, m⟩ := D
  exact ⟨f, fd, h f fd F, m, F.kp, b f fd F⟩
theorem hasXG_of {P : Program} {w : World} {K : PySem.W.Frag} {mg : Str → Option Value} {base : Heap} {x : Str} {st : Stmt} {k : Nat} {ps : List Str} {sp : Sp} (D : Def K mg x st)
    (b : ∀ f fd, Fun K x x st f fd → Binds K fd ps []) (h : ∀ f fd, Fun K x x st f fd → FnG P w K mg base (L2.CX P w) k f fd ps sp) : HasXG P w K mg base x k ps sp := by
  obtain ⟨f, fd, F, m⟩ := D
  exact ⟨f, fd, h f fd F, m, F.kp, b f fd F⟩
theorem passAt0 {X : Cx} {E : XK} (σ : L2.St) : PassesAt CX0 X σ E := fun _ _ _ _ _ _ h => h.elim
theorem passAtL {X : Cx} (σ : L2.St) : PassesAt (L2.CX X.prog X.w) X σ E0 := fun pins H s e s' I h => passL pins σ H s e s' I h
theorem tCall_S {sp : Sp} {E : XK} {t : TA} {σ : L2.St} {H : Hp} {Q : VK} (h : tCall sp [] E t σ H Q) : tCallS sp (fun _ => E) t σ H Q := by
  unfold tCall at h
  unfold tCallS
  simpa only [List.append_nil] using h
section
variable {X : Cx} {k : Nat} {x : Str} {ps : List Str} {sp : Sp} {e : Expr} {es : List Expr} {t : TA} {p pos : Pos}
theorem pe_callHG (h : HasG X.prog X.w X.K X.mg X.base x k ps sp) (hr : Room k X.A) (hG : X.A.guards = some []) (hg : Gl X x) (ha : PA X (e :: es) t)
    (hdb : (x == ("__debug__" : Str)) = false := by decide) (he : starEach (e :: es) X.env = (false, eval e X.env) :: starEach es X.env := by rfl) (hpl : (backTo pos (starEach es X.env)).any (·.1) = false := by rfl) :
    PE X (.Call (.Name x p) (e :: es) [] pos) (tCall sp [] E0 t) := by
  obtain ⟨f, fd, G, m, kp, b⟩ := h
  exact pe_imp (pe_callSG (E := fun _ => E0) G hr hG hg m kp b (fun σ => passAt0 σ) ha hdb he hpl) fun σ H Q z => tCall_S z
theorem pe_callH0G (h : HasG X.prog X.w X.K X.mg X.base x k ps sp) (hr : Room k X.A) (hG : X.A.guards = some []) (hg : Gl X x) (hdb : (x == ("__debug__" : Str)) = false := by decide) : PE X (.Call (.Name x p) [] [] pos) (tCall sp [] E0 tNil) := by
  obtain ⟨f, fd, G, m, kp, b⟩ := h
  exact pe_imp (pe_callSG0 (E := fun _ => E0) G hr hG hg m kp b (fun σ => passAt0 σ) hdb) fun σ H Q z => tCall_S z
theorem pe_callXnG (h : HasXG X.prog X.w X.K X.mg X.base x k ps sp) (hr : Room k X.A) (hG : X.A.guards = some []) (hg : Gl X x) (ha : PA X (e :: es) t)
    (hdb : (x == ("__debug__" : Str)) = false := by decide) (he : starEach (e :: es) X.env = (false, eval e X.env) :: starEach es X.env := by rfl) (hpl : (backTo pos (starEach es X.env)).any (·.1) = false := by rfl) :
    PE X (.Call (.Name x p) (e :: es) [] pos) (tCall sp [] E0 t) := by
  obtain ⟨f, fd, G, m, kp, b⟩ := h
  exact pe_imp (pe_callSG (E := fun _ => E0) G hr hG hg m kp b (fun σ => passAtL σ) ha hdb he hpl) fun σ H Q z => tCall_S z
theorem pe_callXrG {W : WX} (h : HasXG X.prog X.w X.K X.mg X.base x k ps sp) (tk : Takes X W) (hr : Room k X.A) (hG : X.A.guards = some []) (hg : Gl X x) (ha : PA X (e :: es) t)
    (hdb : (x == ("__debug__" : Str)) = false := by decide) (he : starEach (e :: es) X.env = (false, eval e X.env) :: starEach es X.env := by rfl) (hpl : (backTo pos (starEach es X.env)).any (·.1) = false := by rfl) :
    PE X (.Call (.Name x p) (e :: es) [] pos) (tCallS sp (L2.WE W) t) := by
  obtain ⟨f, fd, G, m, kp, b⟩ := h
  exact pe_callSG G hr hG hg m kp b (fun σ => passAt tk σ) ha hdb he hpl
end
section
variable {P : Program} {w : World} {K : PySem.W.Frag} {mg : Str → Option Value} {base : Heap} {x qual : Str} {st : Stmt} {f : Addr} {fd : FuncData} {N ps : List Str} {k : Nat} {sp : Sp}
theorem funG (F : Fun K x qual st f fd) (S : FnScope N ps (defScope st)) (len : ∀ vs H Q E, sp vs H Q E → vs.length = ps.length)
    (hbody : ∀ (cdv : Value) (A : Around) (outer : List Env) (s : Shared) (H : Hp) (vs : List V) (Q : VK) (E : XK), Room k (A.deeper (envOfC qual (defScope st) s.heap.objs.size f cdv)) → (A.deeper (envOfC qual (defScope st) s.heap.objs.size f cdv)).guards = some [] → sp vs H Q E →
      ∃ t, PSs (cxOf CX0 P w K mg base N qual (defScope st) f cdv A outer s H E).nox (defBody st) t ∧ t { nx := fun _ H' => Q .non H', rt := Q } (L2.start N vs) H) : FnG P w K mg base CX0 (k + 1) f fd ps sp := by
  obtain ⟨oc, od, kV, doc, pm, an, cdv, ct, osl, rfl, lk, hcd⟩ := F.ex
  refine fnG_of lk hcd S len fun A outer s H vs Q E hr hG hsp => ?_
  obtain ⟨t, h, q⟩ := hbody cdv A outer s H vs Q E hr hG hsp
  exact ⟨t, h.nox, q⟩
theorem funXG (F : Fun K x qual st f fd) (S : FnScope N ps (defScope st)) (len : ∀ vs H Q E, sp vs H Q E → vs.length = ps.length)
    (hbody : ∀ (cdv : Value) (A : Around) (outer : List Env) (s : Shared) (H : Hp) (vs : List V) (Q : VK) (E : XK), Room k (A.deeper (envOfC qual (defScope st) s.heap.objs.size f cdv)) → (A.deeper (envOfC qual (defScope st) s.heap.objs.size f cdv)).guards = some [] → sp vs H Q E →
      ∃ t, PSs (cxOf (L2.CX P w) P w K mg base N qual (defScope st) f cdv A outer s H E) (defBody st) t ∧ t { nx := fun _ H' => Q .non H', rt := Q } (L2.start N vs) H) : FnG P w K mg base (L2.CX P w) (k + 1) f fd ps sp := by
  obtain ⟨oc, od, kV, doc, pm, an, cdv, ct, osl, rfl, lk, hcd⟩ := F.ex
  exact fnG_of lk hcd S len fun A outer s H vs Q E hr hG hsp => hbody cdv A outer s H vs Q E hr hG hsp
end
section
variable {P : Program} {w : World} {K : PySem.W.Frag} {mg : Str → Option Value} {base : Heap} {x qual : Str} {st : Stmt} {f : Addr} {fd : FuncData} {N ps : List Str} {k : Nat}
theorem runF {φ : List PyData → (Rs → Prop) → Prop} {t : TS} (hw : ∀ ds R, φ ds R → WS K t (ds.map Ent.val ++ List.replicate (N.length - ds.length) .unk) { nx := fun _ => R (.v .none), rt := R }) {vs : List V} {H : Hp} {Q : VK} {E : XK} (h : SpF K φ vs H Q E) :
    t { nx := fun _ H' => Q .non H', rt := Q } (L2.start N vs) H := by
  obtain ⟨A, ds, R, h1, hA, h2, h3⟩ := h
  have a0 := ads_start (N.length - ds.length) ds
  have S0 : Sit0 K A H H (L2.start N vs) (ds.map Ent.val ++ List.replicate (N.length - ds.length) .unk) := by
    refine ⟨by rw [a0, wo_nil]; exact fun _ _ z => z, hA, fun i e hi => ?_, by rw [a0]; simp, ?_⟩
    · rw [a0, List.append_nil]
      unfold L2.start
      rw [h1.length]
      exact ents_start h1 i e hi
    · unfold L2.start
      rw [List.length_append, List.length_append, List.length_map, List.length_map, List.length_replicate, List.length_replicate, h1.length]
  refine hw ds R h2 A H H (L2.start N vs) _ S0.calm (fun H' σ' Δ' E' q => ?_) (fun H' v r e _ o q => ?_) (fun H' σ' Δ' E' q => q.elim) (fun H' σ' Δ' E' q => q.elim)
  · exact h3 .non H' (.v .none) (fun a o z => wo_ex a o (E'.base a o z)) Dp.non q
  · exact h3 v H' r (by rw [show wo H' ([] : List Addr) = H' from wo_nil] at e; exact e) (by rw [show A ++ ([] : List Addr) = A from List.append_nil A] at o; exact o) q
theorem okFG {φ : List PyData → (Rs → Prop) → Prop} {t : TS} (F : Fun K x qual st f fd) (S : FnScope N ps (defScope st)) (hl : ∀ ds R, φ ds R → ds.length = ps.length)
    (ht : ∀ (cdv : Value) (A : Around) (outer : List Env) (s : Shared) (H : Hp) (E : XK), Room k (A.deeper (envOfC qual (defScope st) s.heap.objs.size f cdv)) → (A.deeper (envOfC qual (defScope st) s.heap.objs.size f cdv)).guards = some [] → PSs (cxOf CX0 P w K mg base N qual (defScope st) f cdv A outer s H E).nox (defBody st) t)
    (hw : ∀ ds R, φ ds R → WS K t (ds.map Ent.val ++ List.replicate (N.length - ds.length) .unk) { nx := fun _ => R (.v .none), rt := R }) : FnG P w K mg base CX0 (k + 1) f fd ps (SpF K φ) :=
  funG F S (fun vs H Q E ⟨A, ds, R, h1, _, h2, _⟩ => by rw [h1.length]; exact hl ds R h2) fun cdv A outer s H vs Q E hr hG h => ⟨t, ht cdv A outer s H E hr hG, runF hw h⟩
theorem runD {φ : List PyData → (Rs → Prop) → Prop} {t : TS} (hw : ∀ (p : Addr) ds R, φ ds R → WS K t (.pot p :: (ds.map Ent.val ++ List.replicate (N.length - (ds.length + 1)) .unk)) { nx := fun _ => False, rt := R, ps := [p] }) {vs : List V} {H : Hp} {Q : VK} {E : XK} (h : SpD K φ vs H Q E) :
    t { nx := fun _ H' => Q .non H', rt := Q } (L2.start N vs) H := by
  obtain ⟨A, p, ws, ds, R, rfl, hp, hpA, h1, hA, h2, h3⟩ := h
  have a0 : ads (.pot p :: (ds.map Ent.val ++ List.replicate (N.length - (ds.length + 1)) .unk)) = [p] := by
    show [p] ++ ads (ds.map Ent.val ++ List.replicate (N.length - (ds.length + 1)) .unk) = [p]
    rw [ads_start]
    rfl
  have S0 : Sit0 K A (wo H [p]) H (L2.start N (.ref p :: ws)) (.pot p :: (ds.map Ent.val ++ List.replicate (N.length - (ds.length + 1)) .unk)) := by
    refine ⟨by rw [a0]; exact fun _ _ z => z, fun a m => ?_, fun i e hi => ?_, by rw [a0]; simp, ?_⟩
    · rw [wo_in (by intro z; rw [List.mem_singleton.mp z] at m; exact hpA m)]
      exact hA a m
    · rw [a0]
      unfold L2.start
      rw [List.length_cons, h1.length]
      cases i with
      | zero =>
        cases (show some (Ent.pot p) = some e from hi)
        exact ⟨rfl, hp⟩
      | succ i => exact ents_start h1 i e hi
    · unfold L2.start
      rw [List.length_append, List.length_map, List.length_replicate, List.length_cons, List.length_cons, List.length_append, List.length_map, List.length_replicate, h1.length]
      omega
  refine hw p ds R h2 A (wo H [p]) H (L2.start N (.ref p :: ws)) _ S0.calm (fun H' σ' Δ' E' q => q.elim) (fun H' v r e po o q => ?_) (fun H' σ' Δ' E' q => q.elim) (fun H' σ' Δ' E' q => q.elim)
  refine h3 v H' r e (po p (by simp)) ?_ q
  cases r with
  | v d => exact o
  | n es =>
    obtain ⟨l, xs, q1, q2, q3, q4⟩ := o
    refine ⟨l, xs, q1, ?_, q3, q4⟩
    rw [wo_in (by intro z; exact q3 (List.mem_append_right _ z))] at q2
    exact q2
theorem okDG {x0 : Str} {φ : List PyData → (Rs → Prop) → Prop} {t : TS} (F : Fun K x qual st f fd) (S : FnScope N ps (defScope st)) (hps : 0 < N.length) (hl : ∀ ds R, φ ds R → ds.length + 1 = ps.length)
    (ht : ∀ (cdv : Value) (A : Around) (outer : List Env) (s : Shared) (H : Hp) (E : XK), Room k (A.deeper (envOfC qual (defScope st) s.heap.objs.size f cdv)) → (A.deeper (envOfC qual (defScope st) s.heap.objs.size f cdv)).guards = some [] → PSs (cxOf CX0 P w K mg base N qual (defScope st) f cdv A outer s H E).nox (defBody st) t)
    (hw : ∀ (p : Addr) ds R, φ ds R → WS K t (.pot p :: (ds.map Ent.val ++ List.replicate (N.length - (ds.length + 1)) .unk)) { nx := fun _ => False, rt := R, ps := [p] }) : FnG P w K mg base CX0 (k + 1) f fd ps (SpD K φ) :=
  funG F S (fun vs H Q E ⟨A, p, ws, ds, R, e, _, _, h1, _, h2, _⟩ => by rw [e, List.length_cons, h1.length]; exact hl ds R h2) fun cdv A outer s H vs Q E hr hG h => ⟨t, ht cdv A outer s H E hr hG, runD hw h⟩
theorem runX {φ : List PyData → (Rs → Prop) → (Str → Prop) → Prop} {t : (Str → Option Value) → WX → TS} (hw : ∀ (W : WX) ds R M, φ ds R M → WSx K ⟨mg, W, fun n _ => M n⟩ (t mg W) (ds.map Ent.val ++ List.replicate (N.length - ds.length) .unk) { nx := fun _ => R (.v .none), rt := R }) {vs : List V} {H : Hp} {Q : VK} {E : XK} (h : SpX K mg φ vs H Q E) :
    t mg (fun cls d _ H' => E cls d H') { nx := fun _ H' => Q .non H', rt := Q } (L2.start N vs) H := by
  obtain ⟨A, ds, R, M, h1, hA, h2, h3, h4⟩ := h
  have a0 := ads_start (N.length - ds.length) ds
  have S0 : Sit0 K A H H (L2.start N vs) (ds.map Ent.val ++ List.replicate (N.length - ds.length) .unk) := by
    refine ⟨by rw [a0, wo_nil]; exact fun _ _ z => z, hA, fun i e hi => ?_, by rw [a0]; simp, ?_⟩
    · rw [a0, List.append_nil]
      unfold L2.start
      rw [h1.length]
      exact ents_start h1 i e hi
    · unfold L2.start
      rw [List.length_append, List.length_append, List.length_map, List.length_map, List.length_replicate, List.length_replicate, h1.length]
  refine hw (fun cls d _ H' => E cls d H') ds R M h2 A H H (L2.start N vs) _ ⟨S0, fun n C H' σ' Δ' hC E' z => h4 n C H' hC (fun a o q => wo_ex a o (E'.base a o q)) z⟩ (fun H' σ' Δ' E' q => ?_) (fun H' v r e _ o q => ?_) (fun H' σ' Δ' E' q => q.elim) (fun H' σ' Δ' E' q => q.elim)
  · exact h3 .non H' (.v .none) (fun a o z => wo_ex a o (E'.base a o z)) Dp.non q
  · exact h3 v H' r (by rw [show wo H' ([] : List Addr) = H' from wo_nil] at e; exact e) (by rw [show A ++ ([] : List Addr) = A from List.append_nil A] at o; exact o) q
theorem okXG {φ : List PyData → (Rs → Prop) → (Str → Prop) → Prop} {t : (Str → Option Value) → WX → TS} (F : Fun K x qual st f fd) (S : FnScope N ps (defScope st)) (hl : ∀ ds R M, φ ds R M → ds.length = ps.length)
    (ht : ∀ (cdv : Value) (A : Around) (outer : List Env) (s : Shared) (H : Hp) (E : XK), Room k (A.deeper (envOfC qual (defScope st) s.heap.objs.size f cdv)) → (A.deeper (envOfC qual (defScope st) s.heap.objs.size f cdv)).guards = some [] → PSs (cxOf (L2.CX P w) P w K mg base N qual (defScope st) f cdv A outer s H E) (defBody st) (t mg fun cls d _ H' => E cls d H'))
    (hw : ∀ (W : WX) ds R M, φ ds R M → WSx K ⟨mg, W, fun n _ => M n⟩ (t mg W) (ds.map Ent.val ++ List.replicate (N.length - ds.length) .unk) { nx := fun _ => R (.v .none), rt := R }) : FnG P w K mg base (L2.CX P w) (k + 1) f fd ps (SpX K mg φ) :=
  funXG F S (fun vs H Q E ⟨A, ds, R, M, h1, _, h2, _⟩ => by rw [h1.length]; exact hl ds R M h2) fun cdv A outer s H vs Q E hr hG h => ⟨_, ht cdv A outer s H E hr hG, runX hw h⟩
end
/-! ### repr of data -/
def rRepr (K : PySem.W.Frag) : List V → Hp → VK → Prop := fun xs H Q => ∃ (x : V) (d : PyData), xs = [x] ∧ L2.Dp K H x d ∧ SeqAt.shaped d = true ∧ d.showable = true ∧ d.shown.length ≤ sizeLine ∧ Q (.str d.shown) H
theorem call_repr {X : Cx} (hG : X.A.guards = some []) (hu : X.A.units + 70 < cLine) : CallR X (.builtin "repr") (rRepr X.K) := by
  intro pins s σ H xs us Q I r h
  obtain ⟨x, d, rfl, hd, sd, hs, hz, q⟩ := h
  obtain ⟨u, rfl, ru⟩ := vals1 r
  obtain ⟨as, rd⟩ := L2.Dp.reads I d x u hd ru
  have hdep := SeqAt.depth_of_shaped sd
  have nd := PyData.noDict_hsm (as := as) (PyData.hasDict_of_canLay d (SeqAt.canLay_of_shaped sd))
  cases rd with
  | none => exact PySem.P.repr_of_none ⟨.str _, H, I.tok _, ⟨_, rfl⟩, by simpa only [PyData.shown] using q⟩
  | bool b => exact PySem.P.repr_of_bool ⟨.str _, H, I.tok _, ⟨_, rfl⟩, by simpa only [PyData.shown] using q⟩
  | int i t => exact PySem.P.repr_of_int (by simpa [PyData.showable] using hs) ⟨.str _, H, I.tok _, ⟨_, rfl⟩, by simpa only [PyData.shown] using q⟩
  | str y t => exact PySem.P.repr_of_str ⟨.str _, H, I.tok _, ⟨_, rfl⟩, by simpa only [PyData.shown] using q⟩ (by simpa only [PyData.shown] using hz)
  | list h1 h2 h3 h4 =>
    exact repr_of_reads' (.list h1 h2 h3 h4) hs nd hG (by omega) (fun _ _ z => z) (fun h' u tk hk => ⟨.str _, H, I.kept (t' := tk) hk, ⟨u, rfl⟩, q⟩) hz
  | tuple h1 h2 h3 h4 =>
    exact repr_of_reads' (.tuple h1 h2 h3 h4) hs nd hG (by omega) (fun _ _ z => z) (fun h' u tk hk => ⟨.str _, H, I.kept (t' := tk) hk, ⟨u, rfl⟩, q⟩) hz
  | dict h1 h2 h3 h4 h5 => simp [SeqAt.shaped, PyData.canLay0] at sd
theorem cd_repr {K : PySem.W.Frag} {Q : Rs → Prop} {d : PyData} (sd : SeqAt.shaped d = true) (hs : d.showable = true) (hz : d.shown.length ≤ sizeLine) (q : Q (.v (.str d.shown))) : CD K (rRepr K) [d] Q := fun A H vs h _ Qh k => by
  cases h with | cons h1 h2 =>
    cases h2
    exact ⟨_, d, rfl, (h1.up wo_ex).l2 sd, sd, hs, hz, k _ H (.v _) ex_id (Dp.str _) q⟩
/-! ### x is True, of any thing -/
@[reducible] def isBD (b : Bool) : PyData → Bool
  | .bool a => decide (a = b)
  | _ => false
def rIsAB : R2 := fun x y H Q => ∃ b : Bool, y = .bl b ∧ Q (.bl (decide (x = .bl b))) H
def rNotAB : R2 := fun x y H Q => ∃ b : Bool, y = .bl b ∧ Q (.bl (!decide (x = .bl b))) H
theorem bl_eq {a b : Bool} : decide (V.bl a = V.bl b) = decide (a = b) := by cases a <;> cases b <;> rfl
theorem op_isAB {X : Cx} : OpR X (compareOp .Is) rIsAB := by
  intro pins s σ H x y v u Q I rx ry h
  obtain ⟨b, rfl, q⟩ := h
  cases (show u = Value.bool b from ry)
  by_cases e : x = .bl b
  · subst e
    cases (show v = Value.bool b from rx)
    exact wpAny_is_self rfl ⟨.bl true, H, I, rfl, by simpa using q⟩
  · rw [decide_eq_false e] at q
    cases x <;> first
      | (cases rx; exact wpAny_is_other rfl (fun z => by first | (cases z; done) | (cases z; exact e rfl)) ⟨.bl false, H, I, rfl, q⟩)
      | (obtain ⟨t, rfl⟩ := rx; exact wpAny_is_other rfl (fun z => by cases z) ⟨.bl false, H, I, rfl, q⟩)
      | (cases rx; exact wpAny_is_other rfl (fun z => e (by rw [Value.bool.inj z])) ⟨.bl false, H, I, rfl, q⟩)
theorem op_notAB {X : Cx} : OpR X (compareOp .IsNot) rNotAB := by
  intro pins s σ H x y v u Q I rx ry h
  obtain ⟨b, rfl, q⟩ := h
  cases (show u = Value.bool b from ry)
  by_cases e : x = .bl b
  · subst e
    cases (show v = Value.bool b from rx)
    exact wpAny_isNot_self rfl ⟨.bl false, H, I, rfl, by simpa using q⟩
  · rw [decide_eq_false e] at q
    cases x <;> first
      | (cases rx; exact wpAny_isNot_other rfl (fun z => by first | (cases z; done) | (cases z; exact e rfl)) ⟨.bl true, H, I, rfl, q⟩)
      | (obtain ⟨t, rfl⟩ := rx; exact wpAny_isNot_other rfl (fun z => by cases z) ⟨.bl true, H, I, rfl, q⟩)
      | (cases rx; exact wpAny_isNot_other rfl (fun z => e (by rw [Value.bool.inj z])) ⟨.bl true, H, I, rfl, q⟩)
theorem rd_isAB {K : PySem.W.Frag} {Q : Rs → Prop} {d : PyData} {b : Bool} (q : Q (.v (.bool (isBD b d)))) : RD K rIsAB d (.bool b) Q := fun A H v1 v2 h1 h2 _ Qh k => by
  cases h2
  refine ⟨b, rfl, k _ H (.v _) ex_id (Dp.bl _) ?_⟩
  cases h1 with
  | bl a => rw [bl_eq]; exact q
  | non => exact q
  | int i => exact q
  | str x => exact q
  | lst hs ha => exact q
  | tup hs ha => exact q
  | dct h => exact q
theorem rd_notAB {K : PySem.W.Frag} {Q : Rs → Prop} {d : PyData} {b : Bool} (q : Q (.v (.bool (!isBD b d)))) : RD K rNotAB d (.bool b) Q := fun A H v1 v2 h1 h2 _ Qh k => by
  cases h2
  refine ⟨b, rfl, k _ H (.v _) ex_id (Dp.bl _) ?_⟩
  cases h1 with
  | bl a => rw [bl_eq]; exact q
  | non => exact q
  | int i => exact q
  | str x => exact q
  | lst hs ha => exact q
  | tup hs ha => exact q
  | dct h => exact q
theorem room70 {k : Nat} {A : Around} (hr : Room k A) : A.units + 70 < cLine := by have := hr.un; omega
/-! ### how long a text of data may be -/
mutual
def nodes : PyData → Nat
  | .list ds => 1 + nodesAll ds
  | .tuple ds => 1 + nodesAll ds
  | _ => 1
def nodesAll : List PyData → Nat
  | [] => 0
  | d :: ds => nodes d + nodesAll ds
end
mutual
/-- ints, truths, None; short texts of plain signs -/
def tellable : PyData → Bool
  | .none => true
  | .bool _ => true
  | .int i => decide (i.natAbs.log2 < 1920)
  | .str x => decide (x.length ≤ 100) && x.cps.toList.all fun c => decide (c < 16 ^ 8)
  | .list ds => tellables ds
  | .tuple ds => tellables ds
  | .dict _ => false
def tellables : List PyData → Bool
  | [] => true
  | d :: ds => tellable d && tellables ds
end
mutual
theorem tellable_show : ∀ d : PyData, tellable d = true → d.showable = true
  | .none, _ => by simp [PyData.showable]
  | .bool _, _ => by simp [PyData.showable]
  | .int i, h => by simpa [PyData.showable, tellable] using h
  | .str _, _ => by simp [PyData.showable]
  | .list ds, h => by simpa [PyData.showable] using tellables_show ds (by simpa [tellable] using h)
  | .tuple ds, h => by simpa [PyData.showable] using tellables_show ds (by simpa [tellable] using h)
  | .dict _, h => by simp [tellable] at h
theorem tellables_show : ∀ ds : List PyData, tellables ds = true → PyData.showableAll ds = true
  | [], _ => by simp [PyData.showableAll]
  | d :: ds, h => by
    have h' : tellable d = true ∧ tellables ds = true := by simpa [tellables] using h
    simp [PyData.showableAll, tellable_show d h'.1, tellables_show ds h'.2]
end
def lens : List Str → Nat
  | [] => 0
  | t :: ts => t.length + 2 + lens ts
theorem textFrom_le : ∀ (ts : List Str) (k : Nat) (acc : Str), (textFrom k acc ts).length ≤ acc.length + lens ts
  | [], k, acc => by show acc.length ≤ acc.length + 0; omega
  | t :: ts, k, acc => by
    unfold textFrom
    refine Nat.le_trans (textFrom_le ts _ _) ?_
    show _ ≤ acc.length + (t.length + 2 + lens ts)
    rw [strLen_append, strLen_append]
    have e : (Str.ofString (if k > 0 then ", " else "")).length ≤ 2 := by
      split
      · decide
      · decide
    omega
theorem join_le : ∀ ts : List Str, (Str.join ", " ts).length ≤ lens ts
  | [] => by show 0 ≤ 0; omega
  | [x] => by show x.length ≤ x.length + 2 + 0; omega
  | x :: y :: r => by
    have ih := join_le (y :: r)
    show (x ++ ", " ++ Str.join ", " (y :: r)).length ≤ x.length + 2 + lens (y :: r)
    rw [strLen_append, strLen_append]
    show x.length + 2 + _ ≤ _
    omega
mutual
theorem shown_le : ∀ d : PyData, tellable d = true → d.shown.length + 2 ≤ 2000 * nodes d
  | .none, _ => by simp only [PyData.shown, nodes]; decide
  | .bool b, _ => by cases b <;> simp only [PyData.shown, nodes] <;> decide
  | .int i, h => by
    have h' : i.natAbs.log2 < 1920 := by simpa [tellable] using h
    have e := int_text_length_le (k := 1920) (by decide) h'
    show (Str.ofString (toString i)).length + 2 ≤ 2000 * 1
    rw [PySem.ofString_length]
    omega
  | .str x, h => by
    have h' : x.length ≤ 100 ∧ ∀ c, c ∈ x.cps.toList → c < 16 ^ 8 := by
      simp only [tellable, Bool.and_eq_true, decide_eq_true_eq, List.all_eq_true] at h
      exact h
    have e := PySem.StrLaws.reprText_len x h'.2
    show (reprText x).length + 2 ≤ 2000 * 1
    omega
  | .list ds, h => by
    have ih := shownAll_le ds (by simpa [tellable] using h)
    have e := textFrom_le (PyData.shownAll ds) 0 "["
    show (listText (PyData.shownAll ds)).length + 2 ≤ 2000 * (1 + nodesAll ds)
    unfold listText
    rw [strLen_append]
    have e1 : (("[" : String) : Str).length = 1 := rfl
    have e2 : (("]" : String) : Str).length = 1 := rfl
    omega
  | .tuple ds, h => by
    have ih := shownAll_le ds (by simpa [tellable] using h)
    have e := join_le (PyData.shownAll ds)
    show (tupleText (PyData.shownAll ds)).length + 2 ≤ 2000 * (1 + nodesAll ds)
    unfold tupleText
    rw [strLen_append, strLen_append]
    have e1 : (("(" : String) : Str).length = 1 := rfl
    have e2 : (Str.ofString (if (PyData.shownAll ds).length == 1 then ",)" else ")")).length ≤ 2 := by
      split
      · decide
      · decide
    omega
  | .dict _, h => by simp [tellable] at h
theorem shownAll_le : ∀ ds : List PyData, tellables ds = true → lens (PyData.shownAll ds) ≤ 2000 * nodesAll ds
  | [], _ => by simp [PyData.shownAll, lens, nodesAll]
  | d :: ds, h => by
    have h' : tellable d = true ∧ tellables ds = true := by simpa [tellables] using h
    have i1 := shown_le d h'.1
    have i2 := shownAll_le ds h'.2
    have np : 1 ≤ nodes d := by cases d <;> simp only [nodes] <;> omega
    show d.shown.length + 2 + lens (PyData.shownAll ds) ≤ 2000 * (nodes d + nodesAll ds)
    omega
end
/-- repr of data that are told in a short text -/
theorem cd_tell {K : PySem.W.Frag} {Q : Rs → Prop} {d : PyData} (sd : SeqAt.shaped d = true) (ht : tellable d = true) (hn : nodes d ≤ 8000) (q : Q (.v (.str d.shown))) : CD K (rRepr K) [d] Q :=
  cd_repr sd (tellable_show d ht) (by have := shown_le d ht; rw [sizeLine_eq]; omega) q
/-! ### the law's call -/
theorem walk_ofG {l : PySem.W.OpenLaw} {n k : Nat} {q : Program} {loose : List Str} {XP : (Str → Option Value) → Heap → Prop} {YP : World → Heap → Prop} {d : DefRec} {K : Params → PySem.W.Frag} {CX : World → CXT} {sp : World → Sp} {x : Str}
    (hn : l.most = some n) (hn2 : n ≤ sizeLine) (hdf : d.params.defaults = []) (hr : Room k callerA) (hin : importsNone q = true)
    (hY : ∀ (w : World) (h : Heap), YP w h → (K w.params).In h)
    (F : ∀ (w : World) (mg : Str → Option Value) (fa : Addr) (h : Heap), (K w.params).In h → h.Ns mainGlobals mg → mg d.name = some (.ref fa) →
      ∃ fd : FuncData, (∀ (s : Shared) (u : Value), BindsTo s fd ⟨[u], []⟩ [(x, u)]) ∧
        ∀ base : Heap, (K w.params).In base → base.Ns mainGlobals mg → base.NoSeer → FnG l.prog w (K w.params) mg base (CX w) k fa fd [x] (sp w))
    (hsp : ∀ (w : World) (H : Hp) (a : Addr) (ns : List Int), ns.length ≤ n → Only H → SqL (K w.params) H a (ns.map V.int) → sp w [.ref a] H (fun v _ => v = .bl true) fun _ _ _ => False)
    (hCX : ∀ (w : World) (H : Hp) (s : Shared) (e : Value) (s' : Shared), CX w [] H s (fun _ _ _ => False) e s' → False) :
    PySem.W.WalkO q loose XP YP l.row.toRowW d [] (fun f vs => PySem.call f vs) :=
  Att.attach_call hn hdf fun w s₀ s₁ mg mb fa o pm cd doc a vs ns G Y ho hd hcd hmg hobj hints hlen hg => by
    obtain ⟨fd, hb, hF⟩ := F w mg fa _ (hY w _ Y) G.T.g hmg
    exact law_callR (hY w _ Y) G.T.g G.T.b G.T.builtins G.T.nolimit (G.T.seer hin) hg hobj hints (Nat.le_trans hlen hn2) (fun base b1 b2 b3 s H args us vs Q E e0 hbd r h => (hF base b1 b2 b3).run callerA [] s H args us vs Q E hr rfl e0 hbd r h) hb (fun H hO h => hsp w H a ns hlen hO h) fun H e s' => hCX w H s₁ e s'
end DL

set_option Elab.async false
set_option linter.all false
set_option maxRecDepth 100000
/-! DLD: an empty dict is no number. -/
namespace DL
open PySem PySem.Spec PyProof.Rows L2 Evl
theorem sub_int_dict : isSubtype (.type "int") (.type "dict") = pure false := by rw [isSubtype_type]; kernel_rfl
theorem dict_ne_int (l : Addr) (o : Obj) (hc : o.cls = .type "dict") (es : Array DictEntry) (ep : Nat) (hd : o.data = .dict es ep) (b : Int) (u : Tok) :
    Meets (Builtin.«dict.__ne__» ⟨[.ref l, .int b u], []⟩) (fun _ R s => s.heap.get? l = some o ∧ R (.ok (.ret .notImplemented)) s) :=
  .of_wp fun prog w A R s h => by
    obtain ⟨hp, g, d, tk, os⟩ := s
    obtain ⟨hl, h⟩ := h
    obtain ⟨cls, dd, data, sl⟩ := o
    simp only at hc hd
    subst hc hd
    have f1 := sub_int_dict
    wp_walk using wpAny_loadPart' hl, wpAny_load hl
    exact ⟨_, rfl, h⟩
theorem int_ne_dict (b : Int) (u : Tok) (l : Addr) (o : Obj) (hc : o.cls = .type "dict") (es : Array DictEntry) (ep : Nat) (hd : o.data = .dict es ep) :
    Meets (Builtin.«int.__ne__» ⟨[.int b u, .ref l], []⟩) (fun _ R s => s.heap.get? l = some o ∧ R (.ok (.ret .notImplemented)) s) :=
  .of_wp fun prog w A R s h => by
    obtain ⟨hp, g, d, tk, os⟩ := s
    obtain ⟨hl, h⟩ := h
    obtain ⟨cls, dd, data, sl⟩ := o
    simp only at hc hd
    subst hc hd
    wp_walk using wpAny_loadPart' hl, wpAny_load hl
    exact ⟨_, rfl, h⟩
def rNeDi : R2 := fun x y H Q => ∃ (a : Addr) (i : Int), x = .ref a ∧ y = .int i ∧ H a = some (.dK []) ∧ Q (.bl true) H
theorem op_neDi {X : Cx} (hu : X.A.units < cLine) : OpR X (compareOp .NotEq) rNeDi := by
  intro pins s σ H x y v u Q I rx ry h
  obtain ⟨a, i, rfl, rfl, hH, q⟩ := h
  cases rx
  obtain ⟨t, rfl⟩ := ry
  obtain ⟨_, _, vs, _, o, es, ep, h1, h2, h3⟩ := (show ObjOk X.prog X.w H s.heap a (.dK []) from I.hok a _ hH)
  have hc : o.cls = .type "dict" := h2.1
  have hd : o.data = .dict es ep := by first | exact h3.1 | exact h3
  exact SeqAt.rc_ne_decline_or (k := false) ⟨o, h1, hc⟩ (typeIs_int s i t) (by decide) sub_int_dict PySem.F.slot_dict_ne PySem.F.slot_int_ne_refl
    (fun _ hq => call_meets PySem.F.slot_dict_ne ⟨o, h1, hc⟩ PySem.F.entry_dict_ne (PySem.F.args_dict_ne_2 _ _) (dict_ne_int a o hc es ep hd i t) ⟨h1, hq⟩)
    (fun _ hq => call_meets PySem.F.slot_int_ne_refl (typeIs_int s i t) PySem.F.entry_int_ne (PySem.F.args_int_ne_2 _ _) (int_ne_dict i t a o hc es ep hd) ⟨h1, hq⟩)
    (fun _ hq => wpAny_of_eq (rfl : isSame (.ref a) (.int i t) = pure false) hq) (.inr hu) ⟨.bl true, H, I, rfl, q⟩
def rNeA (K : PySem.W.Frag) : R2 := fun x y H Q => rNeD K x y H Q ∨ rNeDi x y H Q
theorem op_neA {X : Cx} (hu : X.A.units + 64 < cLine) : OpR X (compareOp .NotEq) (rNeA X.K) := op_or (op_neD hu) (op_neDi (by omega))
theorem rd_neA {K : PySem.W.Frag} {Q : Rs → Prop} {d e : PyData} (sd : SeqAt.shaped d = true) (se : SeqAt.shaped e = true) (q : Q (.v (.bool (!PyData.eqv d e)))) : RD K (rNeA K) d e Q := fun A H v1 v2 h1 h2 hA Qh k => .inl (rd_neD sd se q A H v1 v2 h1 h2 hA Qh k)
theorem rd_neAd {K : PySem.W.Frag} {Q : Rs → Prop} {i : Int} (q : Q (.v (.bool true))) : RD K (rNeA K) (.dict []) (.int i) Q := fun A H v1 v2 h1 h2 hA Qh k => by
  cases h1 with
  | dct h =>
    cases h2
    exact .inr ⟨_, i, rfl, rfl, wo_ex _ _ h, k _ H (.v _) ex_id (Dp.bl _) q⟩
end DL

set_option Elab.async false
set_option linter.all false
/-! RQ: rational numbers by tops and bottoms; their sizes. Core Lean alone. -/
namespace RQ
theorem den_pos' (q : Rat) : (0 : Int) < (q.den : Int) := by
  have := q.den_pos
  omega
theorem num_div_gcd {a b : Int} (hb : 0 < b) : (Rat.divInt a b).num = a / (Int.gcd a b : Int) := by
  rw [Rat.num_divInt, Int.sign_eq_one_of_pos hb, Int.one_mul, Int.gcd_comm]
theorem den_div_gcd {a b : Int} (hb : 0 < b) : ((Rat.divInt a b).den : Int) = b / (Int.gcd a b : Int) := by
  rw [Rat.den_divInt, if_neg (by omega), Int.gcd_comm, Int.natCast_ediv, Int.natAbs_of_nonneg (by omega)]
theorem add_is (p q : Rat) : Rat.divInt (p.num * (q.den : Int) + q.num * (p.den : Int)) ((p.den : Int) * (q.den : Int)) = p + q := by
  have h1 := den_pos' p
  have h2 := den_pos' q
  rw [← Rat.divInt_add_divInt _ _ (by omega) (by omega), Rat.num_divInt_den, Rat.num_divInt_den]
theorem mul_is (p q : Rat) : Rat.divInt (p.num * q.num) ((p.den : Int) * (q.den : Int)) = p * q := by
  rw [← Rat.divInt_mul_divInt, Rat.num_divInt_den, Rat.num_divInt_den]
theorem div_is (p q : Rat) : Rat.divInt (p.num * (q.den : Int)) ((p.den : Int) * q.num) = p / q := by
  rw [Rat.div_def, Rat.inv_def, ← Rat.divInt_mul_divInt, Rat.num_divInt_den]
theorem num_ne {q : Rat} (h : q ≠ 0) : q.num ≠ 0 := fun e => h (Rat.num_eq_zero.mp e)
/-! ### sizes -/
def Rsz (b : Nat) (q : Rat) : Prop := q.num.natAbs < 2 ^ b ∧ q.den < 2 ^ b
theorem Rsz.mono {b c : Nat} {q : Rat} (h : Rsz b q) (hbc : b ≤ c) : Rsz c q := ⟨Nat.lt_of_lt_of_le h.1 (Nat.pow_le_pow_right (by decide) hbc), Nat.lt_of_lt_of_le h.2 (Nat.pow_le_pow_right (by decide) hbc)⟩
theorem natAbs_ediv_le {a g : Int} (hg : 0 < g) (hd : g ∣ a) : (a / g).natAbs ≤ a.natAbs := by
  obtain ⟨c, rfl⟩ := hd
  rw [Int.mul_ediv_cancel_left _ (by omega), Int.natAbs_mul]
  exact Nat.le_mul_of_pos_left _ (by omega)
theorem gcd_pos_of {a b : Int} (hb : b ≠ 0) : 0 < (Int.gcd a b : Int) := by
  have : 0 < Int.gcd a b := Nat.gcd_pos_of_pos_right _ (by omega)
  omega
theorem gcd_le_of {a b : Int} (hb : b ≠ 0) : (Int.gcd a b : Int) ≤ b.natAbs := by
  have : Int.gcd a b ≤ b.natAbs := Nat.gcd_le_right _ (by omega)
  omega
theorem sz_divInt {a b : Int} {n m : Nat} (hb : b ≠ 0) (ha : a.natAbs < 2 ^ n) (hb2 : b.natAbs < 2 ^ n) : Rsz n (Rat.divInt a b) := by
  have pos : ∀ {a b : Int}, 0 < b → a.natAbs < 2 ^ n → b.natAbs < 2 ^ n → Rsz n (Rat.divInt a b) := by
    intro a b hb ha hb2
    have hg := gcd_pos_of (a := a) (b := b) (by omega)
    have d1 : (Int.gcd a b : Int) ∣ a := Int.gcd_dvd_left ..
    have d2 : (Int.gcd a b : Int) ∣ b := Int.gcd_dvd_right ..
    refine ⟨?_, ?_⟩
    · rw [num_div_gcd hb]
      exact Nat.lt_of_le_of_lt (natAbs_ediv_le hg d1) ha
    · have e := den_div_gcd (a := a) hb
      have h := natAbs_ediv_le hg d2
      omega
  by_cases h : 0 < b
  · exact pos h ha hb2
  · rw [← Rat.neg_divInt_neg]
    exact pos (by omega) (by omega) (by omega)
theorem lt_mul_pow {a b : Int} {n m : Nat} (ha : a.natAbs < 2 ^ n) (hb : b.natAbs < 2 ^ m) : (a * b).natAbs < 2 ^ (n + m) := by
  rw [Int.natAbs_mul, Nat.pow_add]
  exact Nat.mul_lt_mul'' ha hb
theorem lt_add_pow {a b : Int} {n : Nat} (ha : a.natAbs < 2 ^ n) (hb : b.natAbs < 2 ^ n) : (a + b).natAbs < 2 ^ (n + 1) := by
  rw [Nat.pow_succ]
  omega
theorem Rsz.den {b : Nat} {q : Rat} (h : Rsz b q) : ((q.den : Int)).natAbs < 2 ^ b := by
  rw [Int.natAbs_natCast]
  exact h.2
theorem Rsz.add {a b : Nat} {p q : Rat} (h1 : Rsz a p) (h2 : Rsz b q) : Rsz (a + b + 1) (p + q) := by
  rw [← add_is]
  have p1 := den_pos' p
  have p2 := den_pos' q
  refine sz_divInt (m := 0) (Int.ne_of_gt (Int.mul_pos p1 p2)) ?_ ?_
  · refine lt_add_pow (lt_mul_pow h1.1 h2.den) ?_
    have := lt_mul_pow h2.1 h1.den
    rwa [Nat.add_comm] at this
  · exact Nat.lt_of_lt_of_le (lt_mul_pow h1.den h2.den) (Nat.pow_le_pow_right (by decide) (by omega))
theorem Rsz.mul {a b : Nat} {p q : Rat} (h1 : Rsz a p) (h2 : Rsz b q) : Rsz (a + b) (p * q) := by
  rw [← mul_is]
  have p1 := den_pos' p
  have p2 := den_pos' q
  exact sz_divInt (m := 0) (Int.ne_of_gt (Int.mul_pos p1 p2)) (lt_mul_pow h1.1 h2.1) (lt_mul_pow h1.den h2.den)
theorem Rsz.div {a b : Nat} {p q : Rat} (h1 : Rsz a p) (h2 : Rsz b q) (hq : q ≠ 0) : Rsz (a + b) (p / q) := by
  rw [← div_is]
  have p1 := den_pos' p
  exact sz_divInt (m := 0) (Int.mul_ne_zero (by omega) (num_ne hq)) (lt_mul_pow h1.1 h2.den) (lt_mul_pow h1.den h2.1)
theorem Rsz.neg {a : Nat} {p : Rat} (h1 : Rsz a p) : Rsz a (-p) := by
  refine ⟨?_, ?_⟩
  · rw [Rat.neg_num, Int.natAbs_neg]; exact h1.1
  · rw [Rat.neg_den]; exact h1.2
theorem Rsz.sub {a b : Nat} {p q : Rat} (h1 : Rsz a p) (h2 : Rsz b q) : Rsz (a + b + 1) (p - q) := by
  rw [Rat.sub_eq_add_neg]
  exact h1.add h2.neg
theorem sz_zero (b : Nat) (h : 0 < b) : Rsz b 0 := by
  have : 2 ^ 1 ≤ 2 ^ b := Nat.pow_le_pow_right (by decide) h
  exact ⟨by show 0 < 2 ^ b; omega, by show 1 < 2 ^ b; omega⟩
end RQ

set_option Elab.async false
set_option linter.all false
set_option maxRecDepth 100000
/-! QX: fractions of the program as rational numbers. -/
namespace DL
open PySem PySem.Spec PyProof.Rows L2 Evl RQ
abbrev qD (q : Rat) : PyData := .tuple [.int q.num, .int (q.den : Int)]
theorem qD_low {a b : Int} (hb : 0 < b) : PyData.tuple [.int (a / (Int.gcd a b : Int)), .int (b / (Int.gcd a b : Int))] = qD (Rat.divInt a b) := by
  rw [← num_div_gcd hb, ← den_div_gcd hb]
theorem qD_inj {p q : Rat} (h : qD p = qD q) : p = q := by
  injection h with h
  injection h with h1 h2
  injection h1 with h1
  injection h2 with h2 _
  injection h2 with h2
  exact Rat.ext h1 (by omega)
theorem shaped_q (x : Rat) : SeqAt.shaped (qD x) = true := shaped_fr (x.num, (x.den : Int))
theorem eqv_q (x y : Rat) : PyData.eqv (qD x) (qD y) = decide (x = y) := by
  have e := eqv_fr (x.num, (x.den : Int)) (y.num, (y.den : Int))
  rw [show PyData.eqv (qD x) (qD y) = decide ((x.num, (x.den : Int)) = (y.num, (y.den : Int))) from e]
  by_cases h : x = y
  · subst h; simp
  · rw [decide_eq_false h, decide_eq_false]
    intro z
    injection z with z1 z2
    exact h (Rat.ext z1 (by omega))
theorem rd_eqQ {K : PySem.W.Frag} {Q : Rs → Prop} {x y : Rat} (q : Q (.v (.bool (decide (x = y))))) : RD K (rEqD K) (qD x) (qD y) Q := rd_eqD (shaped_q x) (shaped_q y) (by rw [eqv_q]; exact q)
theorem rd_neQ {K : PySem.W.Frag} {Q : Rs → Prop} {x y : Rat} (q : Q (.v (.bool (!decide (x = y))))) : RD K (rNeD K) (qD x) (qD y) Q := rd_neD (shaped_q x) (shaped_q y) (by rw [eqv_q]; exact q)
theorem flat_q (x : Rat) : flatD (qD x) = true := by simp [qD, flatD, flatDs]
theorem lt_dec (p q : Rat) : decide (p.num * (q.den : Int) < q.num * (p.den : Int)) = decide (p < q) := by
  by_cases h : p < q
  · rw [decide_eq_true h, decide_eq_true ((Rat.lt_iff p q).mp h)]
  · rw [decide_eq_false h, decide_eq_false fun z => h ((Rat.lt_iff p q).mpr z)]
abbrev qB : Nat := 40000000
theorem mulq {a b : Int} {n m : Nat} (ha : a.natAbs < 2 ^ n) (hb : b.natAbs < 2 ^ m) (hn : n ≤ 60000000) (hm : m ≤ 60000000) : CMulX a b := mulx_ok ha hb (by omega)
end DL

set_option Elab.async false
set_option linter.all false
/-! HP: pairs (value, weight), stretches of them, and the joining of stretches whose means fall. Core Lean alone. -/
namespace HP
open RQ
abbrev Pr := Rat × Rat
abbrev Seg := List Pr
def wsum : Seg → Rat
  | [] => 0
  | x :: r => x.2 + wsum r
def vsum : Seg → Rat
  | [] => 0
  | x :: r => x.2 * x.1 + vsum r
def mean (g : Seg) : Rat := vsum g / wsum g
/-- weights times values less c -/
def dev (c : Rat) (g : Seg) : Rat := vsum g - c * wsum g
def Pos (g : Seg) : Prop := ∀ x, x ∈ g → 0 < x.2
theorem wsum_app : ∀ a b : Seg, wsum (a ++ b) = wsum a + wsum b
  | [], b => by show wsum b = 0 + wsum b; grind
  | x :: a, b => by
    show x.2 + wsum (a ++ b) = x.2 + wsum a + wsum b
    rw [wsum_app a b]; grind
theorem vsum_app : ∀ a b : Seg, vsum (a ++ b) = vsum a + vsum b
  | [], b => by show vsum b = 0 + vsum b; grind
  | x :: a, b => by
    show x.2 * x.1 + vsum (a ++ b) = x.2 * x.1 + vsum a + vsum b
    rw [vsum_app a b]; grind
theorem dev_app (c : Rat) (a b : Seg) : dev c (a ++ b) = dev c a + dev c b := by
  unfold dev
  rw [wsum_app, vsum_app]; grind
theorem dev_nil (c : Rat) : dev c [] = 0 := by
  show (0 : Rat) - c * 0 = 0
  grind
theorem wsum_nonneg : ∀ {g : Seg}, Pos g → 0 ≤ wsum g
  | [], _ => Rat.le_refl
  | x :: r, h => by
    have h1 := h x List.mem_cons_self
    have h2 := wsum_nonneg (g := r) fun y hy => h y (List.mem_cons_of_mem _ hy)
    show 0 ≤ x.2 + wsum r
    grind
theorem wsum_pos : ∀ {g : Seg}, Pos g → g ≠ [] → 0 < wsum g
  | [], _, h => absurd rfl h
  | x :: r, h, _ => by
    have h1 := h x List.mem_cons_self
    have h2 := wsum_nonneg (g := r) fun y hy => h y (List.mem_cons_of_mem _ hy)
    show 0 < x.2 + wsum r
    grind
theorem mul_le_of {a b c : Rat} (hc : 0 ≤ c) (h : a ≤ b) : a * c ≤ b * c := Rat.mul_le_mul_of_nonneg_right h hc
theorem dev_anti {c d : Rat} {g : Seg} (hp : Pos g) (h : c ≤ d) : dev d g ≤ dev c g := by
  have h1 := mul_le_of (wsum_nonneg hp) h
  unfold dev
  grind
theorem mean_mul {g : Seg} (hp : Pos g) (hn : g ≠ []) : mean g * wsum g = vsum g := by
  have h := wsum_pos hp hn
  unfold mean
  grind
theorem dev_mean {g : Seg} (hp : Pos g) (hn : g ≠ []) : dev (mean g) g = 0 := by
  have h := mean_mul hp hn
  unfold dev
  grind
/-- c lies below the mean just where what is above c outweighs -/
theorem le_mean {g : Seg} (hp : Pos g) (hn : g ≠ []) {c : Rat} : c ≤ mean g ↔ 0 ≤ dev c g := by
  have h := wsum_pos hp hn
  have h2 := mean_mul hp hn
  constructor
  · intro h3
    have := mul_le_of (Rat.le_of_lt h) h3
    unfold dev
    grind
  · intro h3
    unfold dev at h3
    have h4 : c * wsum g ≤ mean g * wsum g := by grind
    exact Rat.le_of_mul_le_mul_right h4 h
theorem mean_le {g : Seg} (hp : Pos g) (hn : g ≠ []) {c : Rat} : mean g ≤ c ↔ dev c g ≤ 0 := by
  have h := wsum_pos hp hn
  have h2 := mean_mul hp hn
  constructor
  · intro h3
    have := mul_le_of (Rat.le_of_lt h) h3
    unfold dev
    grind
  · intro h3
    unfold dev at h3
    have h4 : mean g * wsum g ≤ c * wsum g := by grind
    exact Rat.le_of_mul_le_mul_right h4 h
theorem Pos.app {a b : Seg} (ha : Pos a) (hb : Pos b) : Pos (a ++ b) := fun x hx => (List.mem_append.mp hx).elim (ha x) (hb x)
theorem Pos.left {a b : Seg} (h : Pos (a ++ b)) : Pos a := fun x hx => h x (List.mem_append_left _ hx)
theorem Pos.right {a b : Seg} (h : Pos (a ++ b)) : Pos b := fun x hx => h x (List.mem_append_right _ hx)
theorem Pos.take {a : Seg} (h : Pos a) (k : Nat) : Pos (a.take k) := fun x hx => h x (List.mem_of_mem_take hx)
theorem Pos.drop {a : Seg} (h : Pos a) (k : Nat) : Pos (a.drop k) := fun x hx => h x (List.mem_of_mem_drop hx)
/-- the mean of two joined lies between -/
theorem mean_between {a b : Seg} (ha : Pos a) (hb : Pos b) (na : a ≠ []) (nb : b ≠ []) (h : mean b ≤ mean a) : mean b ≤ mean (a ++ b) ∧ mean (a ++ b) ≤ mean a := by
  have nab : a ++ b ≠ [] := by simp [na]
  constructor
  · rw [le_mean (ha.app hb) nab, dev_app, dev_mean hb nb]
    have := (le_mean ha na (c := mean b)).mp h
    grind
  · rw [mean_le (ha.app hb) nab, dev_app, dev_mean ha na]
    have := (mean_le hb nb (c := mean a)).mp h
    grind
/-- the joined weight and mean, as they are reckoned -/
theorem join_mean {a b : Seg} (ha : Pos a) (hb : Pos b) (na : a ≠ []) (nb : b ≠ []) : (wsum a * mean a + wsum b * mean b) / (wsum a + wsum b) = mean (a ++ b) := by
  have h1 := mean_mul ha na
  have h2 := mean_mul hb nb
  unfold mean at *
  rw [wsum_app, vsum_app]
  rw [Rat.mul_comm (wsum a), Rat.mul_comm (wsum b), h1, h2]
/-- every beginning part's mean is no less -/
def Pre (g : Seg) : Prop := ∀ k, 0 ≤ dev (mean g) (g.take k)
theorem pre_one (x : Pr) (h : 0 < x.2) : Pre [x] := by
  intro k
  have hp : Pos [x] := fun y hy => by rw [List.mem_singleton.mp hy]; exact h
  cases k with
  | zero => rw [List.take_zero, dev_nil]; exact Rat.le_refl
  | succ k =>
    rw [show List.take (k + 1) [x] = [x] by simp, dev_mean hp (by simp)]
    exact Rat.le_refl
theorem pre_join {a b : Seg} (ha : Pos a) (hb : Pos b) (na : a ≠ []) (nb : b ≠ []) (h : mean b ≤ mean a) (pa : Pre a) (pb : Pre b) : Pre (a ++ b) := by
  intro k
  obtain ⟨m1, m2⟩ := mean_between ha hb na nb h
  by_cases hk : k ≤ a.length
  · rw [List.take_append_of_le_length hk]
    have h1 := pa k
    have h2 := dev_anti (ha.take k) m2
    grind
  · have e : (a ++ b).take k = a ++ b.take (k - a.length) := by
      rw [List.take_append, List.take_of_length_le (by omega)]
    rw [e]
    have h1 := pb (k - a.length)
    have h0 : dev (mean (a ++ b)) (a ++ b) = 0 := dev_mean (ha.app hb) (by simp [na])
    have h2 : b.take (k - a.length) ++ b.drop (k - a.length) = b := List.take_append_drop _ _
    have h3 : dev (mean b) b = 0 := dev_mean hb nb
    have h4 : dev (mean b) (b.take (k - a.length)) + dev (mean b) (b.drop (k - a.length)) = 0 := by rw [← dev_app, h2, h3]
    have h5 := dev_anti (hb.drop (k - a.length)) m1
    have h6 : dev (mean (a ++ b)) (a ++ b) = dev (mean (a ++ b)) (a ++ b.take (k - a.length)) + dev (mean (a ++ b)) (b.drop (k - a.length)) := by
      rw [← dev_app, List.append_assoc, h2]
    grind
/-! ### the stack of stretches, the last one first -/
def addS : List Seg → Seg → List Seg
  | [], g => [g]
  | t :: r, g => if mean t < mean g then g :: t :: r else addS r (t ++ g)
def joinAll (l : List Pr) : List Seg := l.foldl (fun st p => addS st [p]) []
/-- what holds of the stack -/
structure Ok (st : List Seg) : Prop where
  pos : ∀ g, g ∈ st → Pos g
  ne : ∀ g, g ∈ st → g ≠ []
  pre : ∀ g, g ∈ st → Pre g
  inc : st.Pairwise fun a b => mean b < mean a
theorem Ok.tail {t : Seg} {r : List Seg} (h : Ok (t :: r)) : Ok r := ⟨fun g m => h.pos g (List.mem_cons_of_mem _ m), fun g m => h.ne g (List.mem_cons_of_mem _ m), fun g m => h.pre g (List.mem_cons_of_mem _ m), (List.pairwise_cons.mp h.inc).2⟩
theorem addS_ok : ∀ {st : List Seg} {g : Seg}, Ok st → Pos g → g ≠ [] → Pre g → Ok (addS st g)
  | [], g, _, h1, h2, h3 => ⟨fun x m => by rw [List.mem_singleton.mp m]; exact h1, fun x m => by rw [List.mem_singleton.mp m]; exact h2, fun x m => by rw [List.mem_singleton.mp m]; exact h3, by simp [addS]⟩
  | t :: r, g, h, h1, h2, h3 => by
    unfold addS
    by_cases c : mean t < mean g
    · rw [if_pos c]
      refine ⟨fun x m => ?_, fun x m => ?_, fun x m => ?_, List.pairwise_cons.mpr ⟨fun x m => ?_, h.inc⟩⟩
      · rcases List.mem_cons.mp m with rfl | m
        · exact h1
        · exact h.pos x m
      · rcases List.mem_cons.mp m with rfl | m
        · exact h2
        · exact h.ne x m
      · rcases List.mem_cons.mp m with rfl | m
        · exact h3
        · exact h.pre x m
      · rcases List.mem_cons.mp m with rfl | m
        · exact c
        · have := (List.pairwise_cons.mp h.inc).1 x m
          grind
    · rw [if_neg c]
      have t1 := h.pos t List.mem_cons_self
      have t2 := h.ne t List.mem_cons_self
      have t3 := h.pre t List.mem_cons_self
      exact addS_ok h.tail (t1.app h1) (by simp [t2]) (pre_join t1 h1 t2 h2 (Rat.not_lt.mp c) t3 h3)
theorem addS_flat : ∀ (st : List Seg) (g : Seg), (addS st g).reverse.flatten = st.reverse.flatten ++ g
  | [], g => by simp [addS]
  | t :: r, g => by
    unfold addS
    by_cases c : mean t < mean g
    · rw [if_pos c]; simp
    · rw [if_neg c, addS_flat r (t ++ g)]; simp
theorem joinAll_snoc (l : List Pr) (p : Pr) : joinAll (l ++ [p]) = addS (joinAll l) [p] := by
  unfold joinAll
  rw [List.foldl_append]
  rfl
theorem joinAll_ok : ∀ {n : Nat} {l : List Pr}, l.length = n → Pos l → Ok (joinAll l) ∧ (joinAll l).reverse.flatten = l
  | 0, l, hn, _ => by
    have e : l = [] := List.eq_nil_of_length_eq_zero hn
    subst e
    exact ⟨⟨(fun g m => by cases m), (fun g m => by cases m), (fun g m => by cases m), List.Pairwise.nil⟩, rfl⟩
  | n + 1, l, hn, hp => by
    have hne : l ≠ [] := fun e => by rw [e] at hn; cases hn
    have e : l = l.dropLast ++ [l.getLast hne] := (List.dropLast_concat_getLast hne).symm
    have hl : l.dropLast.length = n := by rw [List.length_dropLast]; omega
    have hp1 : Pos l.dropLast := fun x hx => hp x (List.dropLast_subset l hx)
    have hx : 0 < (l.getLast hne).2 := hp _ (List.getLast_mem hne)
    obtain ⟨i1, i2⟩ := joinAll_ok hl hp1
    rw [e, joinAll_snoc]
    refine ⟨addS_ok i1 (fun y hy => by rw [List.mem_singleton.mp hy]; exact hx) (by simp) (pre_one _ hx), ?_⟩
    rw [addS_flat, i2]
/-! ### the row -/
def rowOf (gs : List Seg) : List Rat := gs.flatMap fun g => List.replicate g.length (mean g)
theorem rowOf_len : ∀ gs : List Seg, (rowOf gs).length = gs.flatten.length
  | [] => rfl
  | g :: r => by
    have h := rowOf_len r
    unfold rowOf at h ⊢
    rw [List.flatMap_cons, List.flatten_cons, List.length_append, List.length_append, List.length_replicate, h]
/-- begun sums -/
def bsum (t : Rat) : List Pr → List Rat → List Rat
  | (v, w) :: l, x :: r => (t + w * (v - x)) :: bsum (t + w * (v - x)) l r
  | _, _ => []
theorem bsum_len : ∀ (t : Rat) (l : List Pr) (r : List Rat), l.length = r.length → (bsum t l r).length = l.length
  | t, [], [], _ => rfl
  | t, (v, w) :: l, x :: r, h => by
    show (bsum _ l r).length + 1 = l.length + 1
    rw [bsum_len _ l r (by simpa using h)]
  | _, [], _ :: _, h => by simp at h
  | _, _ :: _, [], h => by simp at h
theorem bsum_app : ∀ (t : Rat) (a b : List Pr) (r s : List Rat), a.length = r.length → bsum t (a ++ b) (r ++ s) = bsum t a r ++ bsum (((bsum t a r).getLast?).getD t) b s
  | t, [], b, [], s, _ => rfl
  | t, (v, w) :: a, b, x :: r, s, h => by
    have ih := bsum_app (t + w * (v - x)) a b r s (by simpa using h)
    show (t + w * (v - x)) :: bsum (t + w * (v - x)) (a ++ b) (r ++ s) = _
    rw [ih]
    show _ = (t + w * (v - x)) :: (bsum (t + w * (v - x)) a r ++ _)
    congr 2
    show bsum _ b s = bsum ((((t + w * (v - x)) :: bsum (t + w * (v - x)) a r).getLast?).getD t) b s
    rw [List.getLast?_cons]
    cases hl : (bsum (t + w * (v - x)) a r).getLast? with
    | none => rfl
    | some z => rfl
  | _, [], _, _ :: _, _, h => by simp at h
  | _, _ :: _, _, [], _, h => by simp at h
/-- in a stretch with one number c the begun sums are the deviations of its beginnings -/
theorem bsum_const (c : Rat) : ∀ (t : Rat) (g : Seg), bsum t g (List.replicate g.length c) = (List.range g.length).map fun k => t + dev c (g.take (k + 1))
  | t, [] => rfl
  | t, (v, w) :: g => by
    show (t + w * (v - c)) :: bsum (t + w * (v - c)) g (List.replicate g.length c) = _
    rw [bsum_const c _ g, List.length_cons, List.range_succ_eq_map, List.map_cons, List.map_map]
    congr 1
    · show t + w * (v - c) = t + dev c [(v, w)]
      unfold dev vsum wsum
      show _ = t + (w * v + 0 - c * (w + 0))
      grind
    · refine List.map_congr_left fun k _ => ?_
      show t + w * (v - c) + dev c (g.take (k + 1)) = t + dev c ((v, w) :: g.take (k + 1))
      rw [show (v, w) :: g.take (k + 1) = [(v, w)] ++ g.take (k + 1) from rfl, dev_app]
      unfold dev
      show _ = t + ((w * v + 0) - c * (w + 0) + _)
      grind
theorem range_map_getLast {α : Type} (f : Nat → α) : ∀ n : Nat, ((List.range (n + 1)).map f).getLast? = some (f n) := fun n => by
  rw [List.range_succ, List.map_append]
  simp
/-- the begun sums of the joined row, stretch by stretch -/
theorem bsum_row : ∀ {gs : List Seg}, (∀ g, g ∈ gs → Pos g) → (∀ g, g ∈ gs → g ≠ []) → bsum 0 gs.flatten (rowOf gs) = gs.flatMap fun g => (List.range g.length).map fun k => dev (mean g) (g.take (k + 1))
  | [], _, _ => rfl
  | g :: r, hp, hn => by
    have ih := bsum_row (gs := r) (fun x m => hp x (List.mem_cons_of_mem _ m)) fun x m => hn x (List.mem_cons_of_mem _ m)
    have p1 := hp g List.mem_cons_self
    have n1 := hn g List.mem_cons_self
    rw [show rowOf (g :: r) = List.replicate g.length (mean g) ++ rowOf r by unfold rowOf; rw [List.flatMap_cons], List.flatten_cons, bsum_app _ _ _ _ _ (by simp), List.flatMap_cons, bsum_const]
    have h0 : (List.range g.length).map (fun k => (0 : Rat) + dev (mean g) (g.take (k + 1))) = (List.range g.length).map fun k => dev (mean g) (g.take (k + 1)) := List.map_congr_left fun k _ => by grind
    rw [h0]
    congr 1
    obtain ⟨n, hl⟩ : ∃ n, g.length = n + 1 := ⟨g.length - 1, by have := List.length_pos_iff.mpr n1; omega⟩
    rw [hl, range_map_getLast]
    show bsum (dev (mean g) (g.take (n + 1))) r.flatten (rowOf r) = _
    rw [List.take_of_length_le (by omega), dev_mean p1 n1]
    exact ih
/-- what shows that a row is the nearest one -/
structure Kkt (l : List Pr) (r : List Rat) : Prop where
  len : r.length = l.length
  rise : ∀ (k : Nat) (x y : Rat), r[k]? = some x → r[k + 1]? = some y → x ≤ y
  nn : ∀ b, b ∈ bsum 0 l r → 0 ≤ b
  last : ∀ b, (bsum 0 l r).getLast? = some b → b = 0
  tight : ∀ (k : Nat) (x y b : Rat), r[k]? = some x → r[k + 1]? = some y → (bsum 0 l r)[k]? = some b → x < y → b = 0
def devs (gs : List Seg) : List Rat := gs.flatMap fun g => (List.range g.length).map fun k => dev (mean g) (g.take (k + 1))
theorem devs_len : ∀ gs : List Seg, (devs gs).length = gs.flatten.length
  | [] => rfl
  | g :: r => by
    have h := devs_len r
    unfold devs at h ⊢
    rw [List.flatMap_cons, List.flatten_cons, List.length_append, List.length_append, List.length_map, List.length_range, h]
theorem rowOf_head {g : Seg} {r : List Seg} (h : g ≠ []) : (rowOf (g :: r))[0]? = some (mean g) := by
  obtain ⟨n, hl⟩ : ∃ n, g.length = n + 1 := ⟨g.length - 1, by have := List.length_pos_iff.mpr h; omega⟩
  unfold rowOf
  rw [List.flatMap_cons, hl, List.replicate_succ]
  rfl
/-- neighbours in the row: within a stretch alike; at a border the sum is 0 and the number rises -/
theorem row_adj : ∀ {gs : List Seg}, (∀ g, g ∈ gs → Pos g) → (∀ g, g ∈ gs → g ≠ []) → gs.Pairwise (fun a b => mean a < mean b) → ∀ (k : Nat) (x y b : Rat), (rowOf gs)[k]? = some x → (rowOf gs)[k + 1]? = some y → (devs gs)[k]? = some b → x = y ∨ (x < y ∧ b = 0)
  | [], _, _, _, k, x, y, b, h, _, _ => by simp [rowOf] at h
  | g :: r, hp, hn, hi, k, x, y, b, h1, h2, h3 => by
    have p1 := hp g List.mem_cons_self
    have n1 := hn g List.mem_cons_self
    have e1 : rowOf (g :: r) = List.replicate g.length (mean g) ++ rowOf r := by unfold rowOf; rw [List.flatMap_cons]
    have e2 : devs (g :: r) = (List.range g.length).map (fun k => dev (mean g) (g.take (k + 1))) ++ devs r := by unfold devs; rw [List.flatMap_cons]
    rw [e1] at h1 h2
    rw [e2] at h3
    by_cases hk : k + 1 < g.length
    · rw [List.getElem?_append_left (by simp; omega), List.getElem?_replicate, if_pos (by omega)] at h1
      rw [List.getElem?_append_left (by simp; omega), List.getElem?_replicate, if_pos hk] at h2
      cases h1; cases h2
      exact .inl rfl
    · by_cases hk2 : k + 1 = g.length
      · rw [List.getElem?_append_left (by simp; omega), List.getElem?_replicate, if_pos (by omega)] at h1
        rw [List.getElem?_append_right (by simp; omega), List.length_replicate, hk2, Nat.sub_self] at h2
        rw [List.getElem?_append_left (by simp; omega), List.getElem?_map, List.getElem?_range (by omega)] at h3
        cases h1
        have hb : dev (mean g) (g.take (k + 1)) = b := Option.some.inj h3
        rw [List.take_of_length_le (by omega), dev_mean p1 n1] at hb
        cases r with
        | nil => simp [rowOf] at h2
        | cons g2 r2 =>
          rw [rowOf_head (hn g2 (by simp))] at h2
          cases h2
          exact .inr ⟨(List.pairwise_cons.mp hi).1 g2 List.mem_cons_self, hb.symm⟩
      · rw [List.getElem?_append_right (by simp; omega), List.length_replicate] at h1 h2
        rw [List.getElem?_append_right (by simp; omega), List.length_map, List.length_range] at h3
        exact row_adj (fun x m => hp x (List.mem_cons_of_mem _ m)) (fun x m => hn x (List.mem_cons_of_mem _ m)) (List.pairwise_cons.mp hi).2 (k - g.length) x y b h1 (by rw [show k - g.length + 1 = k + 1 - g.length by omega]; exact h2) h3
theorem devs_last : ∀ {gs : List Seg}, (∀ g, g ∈ gs → Pos g) → (∀ g, g ∈ gs → g ≠ []) → ∀ b, (devs gs).getLast? = some b → b = 0
  | [], _, _, b, h => by simp [devs] at h
  | g :: r, hp, hn, b, h => by
    have p1 := hp g List.mem_cons_self
    have n1 := hn g List.mem_cons_self
    have e2 : devs (g :: r) = (List.range g.length).map (fun k => dev (mean g) (g.take (k + 1))) ++ devs r := by unfold devs; rw [List.flatMap_cons]
    rw [e2, List.getLast?_append] at h
    cases hr : (devs r).getLast? with
    | some z =>
      rw [hr] at h
      have hz : z = b := by simpa using h
      rw [← hz]
      exact devs_last (fun x m => hp x (List.mem_cons_of_mem _ m)) (fun x m => hn x (List.mem_cons_of_mem _ m)) z hr
    | none =>
      rw [hr] at h
      obtain ⟨n, hl⟩ : ∃ n, g.length = n + 1 := ⟨g.length - 1, by have := List.length_pos_iff.mpr n1; omega⟩
      rw [hl, range_map_getLast] at h
      have hz : dev (mean g) (g.take (n + 1)) = b := by simpa using h
      rw [← hz, List.take_of_length_le (by omega), dev_mean p1 n1]
theorem inc_rev {st : List Seg} (h : st.Pairwise fun a b => mean b < mean a) : st.reverse.Pairwise fun a b => mean a < mean b := List.pairwise_reverse.mpr h
/-- the stretches of pairs, in order -/
def segs (l : List Pr) : List Seg := (joinAll l).reverse
theorem segs_flat {l : List Pr} (hp : Pos l) : (segs l).flatten = l := (joinAll_ok rfl hp).2
theorem segs_pos {l : List Pr} (hp : Pos l) : ∀ g, g ∈ segs l → Pos g := fun g m => (joinAll_ok rfl hp).1.pos g (List.mem_reverse.mp m)
theorem segs_ne {l : List Pr} (hp : Pos l) : ∀ g, g ∈ segs l → g ≠ [] := fun g m => (joinAll_ok rfl hp).1.ne g (List.mem_reverse.mp m)
theorem segs_pre {l : List Pr} (hp : Pos l) : ∀ g, g ∈ segs l → Pre g := fun g m => (joinAll_ok rfl hp).1.pre g (List.mem_reverse.mp m)
theorem segs_inc {l : List Pr} (hp : Pos l) : (segs l).Pairwise fun a b => mean a < mean b := inc_rev (joinAll_ok rfl hp).1.inc
/-- the nearest rising row -/
def near (l : List Pr) : List Rat := rowOf (segs l)
theorem near_sums {l : List Pr} (hp : Pos l) : bsum 0 l (near l) = devs (segs l) := by
  have h := bsum_row (segs_pos hp) (segs_ne hp)
  rw [segs_flat hp] at h
  exact h
theorem near_kkt {l : List Pr} (hp : Pos l) : Kkt l (near l) := by
  have hs := near_sums hp
  refine ⟨?_, fun k x y h1 h2 => ?_, fun b hb => ?_, fun b hb => ?_, fun k x y b h1 h2 h3 h4 => ?_⟩
  · unfold near
    rw [rowOf_len, segs_flat hp]
  · obtain ⟨b, hb⟩ : ∃ b, (devs (segs l))[k]? = some b := by
      have hk : k < (devs (segs l)).length := by
        rw [devs_len, segs_flat hp]
        have := (List.getElem?_eq_some_iff.mp h1).1
        unfold near at this
        rw [rowOf_len, segs_flat hp] at this
        exact this
      exact ⟨_, List.getElem?_eq_getElem hk⟩
    rcases row_adj (segs_pos hp) (segs_ne hp) (segs_inc hp) k x y b h1 h2 hb with h | h
    · rw [h]; exact Rat.le_refl
    · exact Rat.le_of_lt h.1
  · rw [hs] at hb
    obtain ⟨g, hg, hb⟩ := List.mem_flatMap.mp hb
    obtain ⟨k, _, rfl⟩ := List.mem_map.mp hb
    exact segs_pre hp g hg (k + 1)
  · rw [hs] at hb
    exact devs_last (segs_pos hp) (segs_ne hp) b hb
  · rw [hs] at h3
    rcases row_adj (segs_pos hp) (segs_ne hp) (segs_inc hp) k x y b h1 h2 h3 with h | h
    · rw [h] at h4
      exact absurd h4 (Rat.lt_irrefl)
    · exact h.2
/-! ### sizes -/
theorem sz_wsum {s : Nat} : ∀ {g : Seg}, (∀ x, x ∈ g → Rsz s x.2) → Rsz (g.length * (s + 1) + 1) (wsum g)
  | [], _ => sz_zero _ (by omega)
  | x :: r, h => by
    have h1 := h x List.mem_cons_self
    have h2 := sz_wsum (g := r) fun y hy => h y (List.mem_cons_of_mem _ hy)
    refine (h1.add h2).mono ?_
    rw [List.length_cons, Nat.add_mul]
    omega
theorem sz_vsum {s : Nat} : ∀ {g : Seg}, (∀ x, x ∈ g → Rsz s x.1 ∧ Rsz s x.2) → Rsz (g.length * (2 * s + 1) + 1) (vsum g)
  | [], _ => sz_zero _ (by omega)
  | x :: r, h => by
    have h1 := h x List.mem_cons_self
    have h2 := sz_vsum (g := r) fun y hy => h y (List.mem_cons_of_mem _ hy)
    refine ((h1.2.mul h1.1).add h2).mono ?_
    rw [List.length_cons, Nat.add_mul]
    omega
end HP

set_option Elab.async false
set_option linter.all false
set_option maxRecDepth 100000
/-! PX: pairs and heaps as data. -/
namespace DL
open PySem PySem.Spec PyProof.Rows L2 Evl RQ HP
variable {xw : Xw}
abbrev paD (x : Pr) : PyData := .tuple [qD x.1, qD x.2]
abbrev hpD (k : Nat) (g : Seg) : PyData := .tuple [.int (k : Int), .int ((k + g.length : Nat) : Int), qD (wsum g), qD (mean g)]
def hpsD (k : Nat) : List Seg → List PyData
  | [] => []
  | g :: r => hpD k g :: hpsD (k + g.length) r
theorem hpsD_app : ∀ (k : Nat) (a b : List Seg), hpsD k (a ++ b) = hpsD k a ++ hpsD (k + a.flatten.length) b
  | k, [], b => rfl
  | k, g :: a, b => by
    show hpD k g :: hpsD (k + g.length) (a ++ b) = hpD k g :: (hpsD (k + g.length) a ++ _)
    rw [hpsD_app, List.flatten_cons, List.length_append, Nat.add_assoc]
theorem hpsD_snoc (k : Nat) (a : List Seg) (t : Seg) : hpsD k (a ++ [t]) = hpsD k a ++ [hpD (k + a.flatten.length) t] := hpsD_app k a [t]
theorem hpsD_len : ∀ (k : Nat) (a : List Seg), (hpsD k a).length = a.length
  | k, [] => rfl
  | k, g :: a => by
    show (hpsD _ a).length + 1 = a.length + 1
    rw [hpsD_len]
theorem hpsD_get : ∀ {k : Nat} {a : List Seg} {i : Nat} {d : PyData}, (hpsD k a)[i]? = some d → ∃ g, a[i]? = some g ∧ d = hpD (k + (a.take i).flatten.length) g
  | k, [], i, d, h => by simp [hpsD] at h
  | k, g :: a, 0, d, h => ⟨g, rfl, (Option.some.inj h).symm⟩
  | k, g :: a, i + 1, d, h => by
    obtain ⟨g2, h1, h2⟩ := hpsD_get (k := k + g.length) (a := a) (i := i) (show (hpsD (k + g.length) a)[i]? = some d from h)
    refine ⟨g2, h1, ?_⟩
    rw [h2, List.take_succ_cons, List.flatten_cons, List.length_append, Nat.add_assoc]
/-- pairs as they come: few, weights above nought, no great sizes -/
structure Gd (l : List Pr) : Prop where
  pos : Pos l
  few : l.length ≤ 60
  sz : ∀ x, x ∈ l → Rsz 50000 x.1 ∧ Rsz 50000 x.2
theorem Gd.sub {l m : List Pr} (h : Gd l) (hs : m.Sublist l) : Gd m := ⟨fun x hx => h.pos x (hs.subset hx), Nat.le_trans hs.length_le h.few, fun x hx => h.sz x (hs.subset hx)⟩
theorem Gd.wsz {l : List Pr} (h : Gd l) : Rsz 3100000 (wsum l) := (sz_wsum (s := 50000) fun x hx => (h.sz x hx).2).mono (by have := h.few; omega)
theorem Gd.vsz {l : List Pr} (h : Gd l) : Rsz 6100000 (vsum l) := (sz_vsum (s := 50000) h.sz).mono (by have := h.few; omega)
theorem Gd.msz {l : List Pr} (h : Gd l) (hn : l ≠ []) : Rsz 9200000 (mean l) := by
  have := wsum_pos h.pos hn
  exact (h.vsz.div h.wsz (fun e => by rw [e] at this; exact Rat.lt_irrefl this)).mono (by decide)
theorem shaped_of {d : PyData} (h1 : d.canLay0 = true) (h2 : d.depth ≤ 64) : SeqAt.shaped d = true := by
  show (d.canLay0 && decide (d.depth ≤ 64)) = true
  rw [h1, decide_eq_true h2]
  rfl
theorem lay_of : ∀ {ds : List PyData}, (∀ d, d ∈ ds → d.canLay0 = true) → PyData.canLayAll0 ds = true
  | [], _ => by simp [PyData.canLayAll0]
  | d :: r, h => by
    simp only [PyData.canLayAll0, Bool.and_eq_true]
    exact ⟨h d List.mem_cons_self, lay_of fun x m => h x (List.mem_cons_of_mem _ m)⟩
theorem deep_of {n : Nat} : ∀ {ds : List PyData}, (∀ d, d ∈ ds → d.depth ≤ n) → PyData.depthAll ds ≤ n
  | [], _ => by simp [PyData.depthAll]
  | d :: r, h => by
    have h1 := h d List.mem_cons_self
    have h2 := deep_of (ds := r) fun x m => h x (List.mem_cons_of_mem _ m)
    simp only [PyData.depthAll]
    omega
/-- plain: can be laid, not deep -/
def Pl (n : Nat) (d : PyData) : Prop := d.canLay0 = true ∧ d.depth ≤ n
theorem pl_q (x : Rat) : Pl 1 (qD x) := by simp [Pl, qD, PyData.canLay0, PyData.canLayAll0, PyData.depth, PyData.depthAll]
theorem pl_int (i : Int) (n : Nat) : Pl n (.int i) := by simp [Pl, PyData.canLay0, PyData.depth]
theorem pl_bool (i : Bool) (n : Nat) : Pl n (.bool i) := by simp [Pl, PyData.canLay0, PyData.depth]
theorem Pl.mono {n m : Nat} {d : PyData} (h : Pl n d) (e : n ≤ m) : Pl m d := ⟨h.1, Nat.le_trans h.2 e⟩
theorem pl_list {n : Nat} {ds : List PyData} (h : ∀ d, d ∈ ds → Pl n d) : Pl (n + 1) (.list ds) := by
  have h2 := deep_of (n := n) fun d m => (h d m).2
  refine ⟨by simp only [PyData.canLay0]; exact lay_of fun d m => (h d m).1, ?_⟩
  simp only [PyData.depth]
  omega
theorem pl_tup {n : Nat} {ds : List PyData} (h : ∀ d, d ∈ ds → Pl n d) : Pl (n + 1) (.tuple ds) := by
  have h2 := deep_of (n := n) fun d m => (h d m).2
  refine ⟨by simp only [PyData.canLay0]; exact lay_of fun d m => (h d m).1, ?_⟩
  simp only [PyData.depth]
  omega
theorem Pl.shaped {n : Nat} {d : PyData} (h : Pl n d) (e : n ≤ 64) : SeqAt.shaped d = true := shaped_of h.1 (Nat.le_trans h.2 e)
theorem pl_pr (x : Pr) : Pl 2 (paD x) := pl_tup fun d m => by
  rcases List.mem_cons.mp m with rfl | m
  · exact pl_q _
  · rw [List.mem_singleton.mp m]; exact pl_q _
theorem pl_hp (k : Nat) (g : Seg) : Pl 2 (hpD k g) := pl_tup fun d m => by
  simp only [List.mem_cons, List.not_mem_nil, or_false] at m
  rcases m with rfl | rfl | rfl | rfl
  · exact pl_int _ _
  · exact pl_int _ _
  · exact pl_q _
  · exact pl_q _
theorem pl_map {α : Type} {n : Nat} {f : α → PyData} {l : List α} (h : ∀ x, Pl n (f x)) : Pl (n + 1) (.list (l.map f)) := pl_list fun d m => by
  obtain ⟨x, _, rfl⟩ := List.mem_map.mp m
  exact h x
theorem mem_hps : ∀ {k : Nat} {gs : List Seg} {d : PyData}, d ∈ hpsD k gs → ∃ j g, d = hpD j g
  | k, g :: r, d, h => by
    rcases List.mem_cons.mp h with rfl | h
    · exact ⟨_, _, rfl⟩
    · exact mem_hps h
theorem pl_hps (k : Nat) (gs : List Seg) : Pl 3 (.list (hpsD k gs)) := pl_list fun d m => by
  obtain ⟨j, g, rfl⟩ := mem_hps m
  exact pl_hp j g
theorem pl_nil (n : Nat) : Pl (n + 1) (.list []) := pl_list fun d m => by cases m
theorem eqv_nil (xs : List PyData) : PyData.eqv (.list xs) (.list []) = xs.isEmpty := by
  cases xs with
  | nil => simp [PyData.eqv, PyData.eqvAll]
  | cons x r => simp [PyData.eqv, PyData.eqvAll]
theorem rd_neNil {K : PySem.W.Frag} {Q : Rs → Prop} {n : Nat} {xs : List PyData} (h : Pl n (.list xs)) (hn : n ≤ 64) (q : Q (.v (.bool (!xs.isEmpty)))) : RD K (rNeD K) (.list xs) (.list []) Q := rd_neD (h.shaped hn) ((pl_nil 0).shaped (by decide)) (by rw [eqv_nil]; exact q)
theorem flat_pr (x : Pr) : flatD (paD x) = true := by simp [paD, qD, flatD, flatDs]
theorem flat_hp (k : Nat) (g : Seg) : flatD (hpD k g) = true := by simp [hpD, qD, flatD, flatDs]
theorem flat_of : ∀ {ds : List PyData}, (∀ d, d ∈ ds → flatD d = true) → flatDs ds = true
  | [], _ => by simp [flatDs]
  | d :: r, h => by
    simp only [flatDs, Bool.and_eq_true]
    exact ⟨h d List.mem_cons_self, flat_of fun x m => h x (List.mem_cons_of_mem _ m)⟩
theorem flat_hps (k : Nat) (gs : List Seg) : flatDs (hpsD k gs) = true := flat_of fun d m => by
  obtain ⟨j, g, rfl⟩ := mem_hps m
  exact flat_hp j g
theorem flat_map {α : Type} {f : α → PyData} {l : List α} (h : ∀ x, flatD (f x) = true) : flatDs (l.map f) = true := flat_of fun d m => by
  obtain ⟨x, _, rfl⟩ := List.mem_map.mp m
  exact h x
theorem cd_allT {K : PySem.W.Frag} {Q : Rs → Prop} {α : Type} {l : List α} {f : α → PyData} (h : ∀ x, x ∈ l → f x = .bool true) (q : Q (.v (.bool true))) : CD K (rAll K) [.list (l.map f)] Q := by
  have e : l.map f = (l.map fun _ => true).map PyData.bool := by
    rw [List.map_map]
    exact List.map_congr_left h
  rw [e]
  refine cd_all ?_
  have e2 : (l.map fun _ => true).all id = true := by simp
  rw [e2]
  exact q
theorem cd_anyF {K : PySem.W.Frag} {Q : Rs → Prop} {α : Type} {l : List α} {f : α → PyData} (h : ∀ x, x ∈ l → f x = .bool false) (q : Q (.v (.bool false))) : CD K (rAny K) [.list (l.map f)] Q := by
  have e : l.map f = (l.map fun _ => false).map PyData.bool := by
    rw [List.map_map]
    exact List.map_congr_left h
  rw [e]
  refine cd_any ?_
  have e2 : (l.map fun _ => false).any id = false := by simp
  rw [e2]
  exact q
theorem few_gs {gs : List Seg} (h : ∀ x, x ∈ gs → x ≠ []) : gs.length ≤ gs.flatten.length := by
  induction gs with
  | nil => exact Nat.le_refl _
  | cons g r ih =>
    have h1 := List.length_pos_iff.mpr (h g List.mem_cons_self)
    have h2 := ih fun x m => h x (List.mem_cons_of_mem _ m)
    rw [List.flatten_cons, List.length_append, List.length_cons]
    omega
theorem small60 {x : Int} (h : 0 < x) (h2 : x ≤ 100000) : x.natAbs < 2 ^ 9000 := Nat.lt_trans (show x.natAbs < 2 ^ 17 by omega) (by decide +kernel)
theorem e60 : (10 : Int) ^ 60 = 1000000000000000000000000000000000000000000000000000000000000 := by decide +kernel
theorem l210 : (2000000000000000000000000000000000000000000000000000000000001 : Nat) < 2 ^ 210 := by decide +kernel
theorem l9000 : (2000000000000000000000000000000000000000000000000000000000001 : Nat) < 2 ^ 9000 := by decide +kernel
theorem sz_low {a b : Int} {n : Nat} (hb : 0 < b) (h1 : a.natAbs < 2 ^ n) (h2 : b.natAbs < 2 ^ n) : Rsz n (Rat.divInt a b) := sz_divInt (m := 0) (by omega) h1 h2
theorem qD_int (n : Int) : qD (n : Rat) = .tuple [.int n, .int 1] := rfl
theorem sz_int {n : Int} (h : n.natAbs ≤ 1000000) : Rsz 210 (n : Rat) := ⟨Nat.lt_of_le_of_lt h (by decide +kernel), by show 1 < 2 ^ 210; decide +kernel⟩
theorem divInt_pos {a b : Int} (ha : 0 < a) (hb : 0 < b) : 0 < Rat.divInt a b := by
  rw [Rat.lt_iff]
  show (0 : Int) * _ < (Rat.divInt a b).num * ((1 : Nat) : Int)
  have hg := gcd_pos_of (a := a) (b := b) (by omega)
  have h1 : 0 < (Rat.divInt a b).num := by
    rw [num_div_gcd hb]
    exact Int.ediv_pos_of_pos_of_dvd ha (by omega) (Int.gcd_dvd_left ..)
  omega
theorem qD_neg (q : Rat) : PyData.tuple [.int (-q.num), .int (q.den : Int)] = qD (-q) := by unfold qD; rw [Rat.neg_num, Rat.neg_den]
def qabs (q : Rat) : Rat := if q < 0 then -q else q
theorem num_neg_iff (q : Rat) : q.num < 0 ↔ q < 0 := by
  rw [Rat.lt_iff]
  show _ ↔ q.num * ((1 : Nat) : Int) < (0 : Int) * _
  constructor <;> intro h <;> omega
theorem qabs_D (q : Rat) : PyData.tuple [.int (if q.num < 0 then -q.num else q.num), .int (q.den : Int)] = qD (qabs q) := by
  unfold qabs
  by_cases h : q < 0
  · rw [if_pos h, if_pos ((num_neg_iff q).mpr h), qD_neg]
  · rw [if_neg h, if_neg fun z => h ((num_neg_iff q).mp z)]
theorem qabs_sz {b : Nat} {q : Rat} (h : Rsz b q) : Rsz b (qabs q) := by
  unfold qabs
  split
  · exact h.neg
  · exact h
theorem qabs_le {q m : Rat} : qabs q ≤ m ↔ q ≤ m ∧ -m ≤ q := by
  unfold qabs
  split <;> constructor <;> intro h <;> grind
theorem cd_allM {K : PySem.W.Frag} {Q : Rs → Prop} {α : Type} {l : List α} (b : α → Bool) (q : Q (.v (.bool (l.all b)))) : CD K (rAll K) [.list (l.map fun x => PyData.bool (b x))] Q := by
  have e : (l.map fun x => PyData.bool (b x)) = (l.map b).map PyData.bool := by rw [List.map_map]; rfl
  rw [e]
  refine cd_all ?_
  rw [List.all_map]
  exact q
theorem cd_anyM {K : PySem.W.Frag} {Q : Rs → Prop} {α : Type} {l : List α} (b : α → Bool) (q : Q (.v (.bool (l.any b)))) : CD K (rAny K) [.list (l.map fun x => PyData.bool (b x))] Q := by
  have e : (l.map fun x => PyData.bool (b x)) = (l.map b).map PyData.bool := by rw [List.map_map]; rfl
  rw [e]
  refine cd_any ?_
  rw [List.any_map]
  exact q
theorem any_F {α : Type} {l : List α} {b : α → Bool} (h : ∀ x, x ∈ l → b x = false) : l.any b = false := List.any_eq_false.mpr fun x m => by rw [h x m]; simp
theorem any_T {α : Type} {l : List α} {b : α → Bool} {x : α} (m : x ∈ l) (h : b x = true) : l.any b = true := List.any_eq_true.mpr ⟨x, m, h⟩
theorem all_F {α : Type} {l : List α} {b : α → Bool} {x : α} (m : x ∈ l) (h : b x = false) : l.all b = false := List.all_eq_false.mpr ⟨x, m, by rw [h]; simp⟩
theorem all_T {α : Type} {l : List α} {b : α → Bool} (h : ∀ x, x ∈ l → b x = true) : l.all b = true := List.all_eq_true.mpr h
theorem zip2_map {α β : Type} {c : α → PyData} {d : β → PyData} : ∀ {a : List α} {b : List β}, zip2 (a.map c) (b.map d) = (a.zip b).map fun p => .tuple [c p.1, d p.2]
  | [], _ => by simp [zip2]
  | _ :: _, [] => by simp [zip2]
  | x :: a, y :: b => by
    show PyData.tuple [c x, d y] :: zip2 (a.map c) (b.map d) = _
    rw [zip2_map]
    rfl
/-- a comprehension over l.map c: each turn gives its thing's f -/
inductive LcF (K : PySem.W.Frag) (vs : List Nat) (g : TG) (te : TE) (Δ : List Ent) (Q : Rs → Prop) {α : Type} (l : List α) (c f : α → PyData) (ds : List PyData) : Prop
  | mk (he : ds = l.map c) (hl : l.length ≤ 100000) (hs : ∀ x, x ∈ l → WB K vs g (c x) (wipeE Δ vs) fun Δ2 => WE K te Δ2 fun r => r.d = f x) (hd : Q (.n (l.map f)))
theorem we_lcF {K : PySem.W.Frag} {Δ : List Ent} {vs : List Nat} {wi : TI} {g : TG} {te : TE} {Q : Rs → Prop} {α : Type} (l : List α) (c f : α → PyData) (hw : ads (wipeE Δ vs) = ads Δ) (hw2 : pts (wipeE Δ vs) = pts Δ)
    (h : WIx K xw wi Δ fun ds => LcF K vs g te Δ Q l c f ds) : WEx K xw (tLc wi g tYes te vs) Δ Q := by
  refine we_lc hw hw2 fun A H0 H σ E R k => h A H0 H σ E R fun J H' ds e E' ok ⟨h0, h1, h2, h3⟩ => k J H' ds e E' ok ⟨by rw [h0, List.length_map]; exact h1, fun i acc => acc = (l.take i).map f, by simp, fun i d acc hd ha => ?_, fun acc _ ha => ?_⟩
  · subst h0
    obtain ⟨x, hx, rfl⟩ := get_map hd
    refine fun A H0 H σ v E hv Qh kk => h2 x (List.mem_of_getElem? hx) A H0 H σ v E hv Qh fun σ' Δ' a b c' e w => kk σ' Δ' a b c' e (wt_yes ?_)
    show WE K te Δ' _
    refine we_imp w fun r hr => ?_
    show acc ++ [r.d] = List.map f (List.take (i + 1) l)
    rw [hr, ha, List.take_add_one, hx, List.map_append]
    rfl
  · rw [ha, h0, List.length_map, List.take_length]
    exact h3
end DL

set_option Elab.async false
set_option linter.all false
/-! HP2: two rows shown to be nearest, compared. Core Lean alone. -/
namespace HP
open RQ
def sumTo (f : Nat → Rat) : Nat → Rat
  | 0 => 0
  | k + 1 => sumTo f k + f k
theorem sumTo_le {f g : Nat → Rat} {a : Nat} : ∀ {b : Nat}, a ≤ b → (∀ j, a ≤ j → j < b → f j ≤ g j) → sumTo f b - sumTo f a ≤ sumTo g b - sumTo g a
  | 0, h, _ => by
    have : a = 0 := by omega
    subst this
    show (0 : Rat) - 0 ≤ 0 - 0
    exact Rat.le_refl
  | b + 1, h, k => by
    by_cases e : a = b + 1
    · subst e
      grind
    · have ih := sumTo_le (f := f) (g := g) (a := a) (b := b) (by omega) fun j h1 h2 => k j h1 (by omega)
      have h2 := k b (by omega) (by omega)
      show sumTo f b + f b - sumTo f a ≤ sumTo g b + g b - sumTo g a
      grind
theorem sumTo_lt {f g : Nat → Rat} {a b i : Nat} (ha : a ≤ i) (hb : i < b) (k : ∀ j, a ≤ j → j < b → f j ≤ g j) (hi : f i < g i) : sumTo f b - sumTo f a < sumTo g b - sumTo g a := by
  have h1 := sumTo_le (f := f) (g := g) ha fun j p q => k j p (by omega)
  have h2 := sumTo_le (f := f) (g := g) (a := i + 1) (b := b) (by omega) fun j p q => k j (by omega) q
  have e1 : sumTo f (i + 1) = sumTo f i + f i := rfl
  have e2 : sumTo g (i + 1) = sumTo g i + g i := rfl
  grind
theorem sumTo_congr {f g : Nat → Rat} : ∀ {n : Nat}, (∀ j, j < n → f j = g j) → sumTo f n = sumTo g n
  | 0, _ => rfl
  | n + 1, h => by
    show sumTo f n + f n = sumTo g n + g n
    rw [sumTo_congr fun j hj => h j (by omega), h n (by omega)]
/-- the same by places -/
structure KF (w v r : Nat → Rat) (n : Nat) : Prop where
  rise : ∀ k, k + 1 < n → r k ≤ r (k + 1)
  nn : ∀ k, k ≤ n → 0 ≤ sumTo (fun j => w j * (v j - r j)) k
  last : sumTo (fun j => w j * (v j - r j)) n = 0
  tight : ∀ k, k + 1 < n → r k < r (k + 1) → sumTo (fun j => w j * (v j - r j)) (k + 1) = 0
theorem KF.mono {w v r : Nat → Rat} {n : Nat} (h : KF w v r n) {i : Nat} : ∀ {j : Nat}, i ≤ j → j < n → r i ≤ r j
  | 0, h1, h2 => by
    have : i = 0 := by omega
    subst this
    exact Rat.le_refl
  | j + 1, h1, h2 => by
    by_cases e : i = j + 1
    · subst e; exact Rat.le_refl
    · exact Rat.le_trans (h.mono (j := j) (by omega) (by omega)) (h.rise j h2)
/-- the place from which r has this number on -/
theorem KF.from {w v r : Nat → Rat} {n : Nat} (h : KF w v r n) : ∀ {i : Nat}, i < n → ∃ a, a ≤ i ∧ r a = r i ∧ sumTo (fun j => w j * (v j - r j)) a = 0
  | 0, _ => ⟨0, Nat.le_refl _, rfl, rfl⟩
  | i + 1, hi => by
    by_cases c : r i < r (i + 1)
    · exact ⟨i + 1, Nat.le_refl _, rfl, h.tight i hi c⟩
    · have e : r i = r (i + 1) := Rat.le_antisymm (h.rise i hi) (Rat.not_lt.mp c)
      obtain ⟨a, h1, h2, h3⟩ := h.from (i := i) (by omega)
      exact ⟨a, by omega, h2.trans e, h3⟩
/-- the place up to which -/
theorem KF.upto {w v r : Nat → Rat} {n : Nat} (h : KF w v r n) : ∀ {m i : Nat}, n - i = m → i < n → ∃ d, i < d ∧ d ≤ n ∧ (∀ j, j < d → r j ≤ r i) ∧ sumTo (fun j => w j * (v j - r j)) d = 0
  | 0, i, hm, hi => by omega
  | m + 1, i, hm, hi => by
    by_cases e : i + 1 = n
    · exact ⟨n, by omega, Nat.le_refl _, fun j hj => h.mono (by omega) hi, h.last⟩
    · by_cases c : r i < r (i + 1)
      · exact ⟨i + 1, by omega, by omega, fun j hj => h.mono (by omega) hi, h.tight i (by omega) c⟩
      · have e2 : r i = r (i + 1) := Rat.le_antisymm (h.rise i (by omega)) (Rat.not_lt.mp c)
        obtain ⟨d, h1, h2, h3, h4⟩ := h.upto (m := m) (i := i + 1) (by omega) (by omega)
        exact ⟨d, by omega, h2, fun j hj => by rw [e2]; exact h3 j hj, h4⟩
theorem mul_le_l {a b c : Rat} (hc : 0 ≤ c) (h : a ≤ b) : c * a ≤ c * b := Rat.mul_le_mul_of_nonneg_left h hc
theorem mul_lt_l {a b c : Rat} (hc : 0 < c) (h : a < b) : c * a < c * b := Rat.mul_lt_mul_of_pos_left h hc
theorem cmpF {w v v' r s : Nat → Rat} {n : Nat} {δ : Rat} (hr : KF w v r n) (hs : KF w v' s n) (hw : ∀ j, j < n → 0 < w j) (hv : ∀ j, j < n → v' j ≤ v j + δ) {i : Nat} (hi : i < n) : s i ≤ r i + δ := by
  obtain ⟨a, a1, a2, a3⟩ := hs.from hi
  obtain ⟨d, d1, d2, d3, d4⟩ := hr.upto rfl hi
  refine Classical.byContradiction fun c => ?_
  have c' : r i + δ < s i := Rat.not_le.mp c
  have h1 : sumTo (fun j => w j * (v' j - s j)) d - sumTo (fun j => w j * (v' j - s j)) a ≤ sumTo (fun j => w j * (v' j - s i)) d - sumTo (fun j => w j * (v' j - s i)) a :=
    sumTo_le (by omega) fun j p q => mul_le_l (Rat.le_of_lt (hw j (by omega))) (by
      have := hs.mono p (by omega)
      rw [a2] at this
      grind)
  have h2 : sumTo (fun j => w j * (v j - r i)) d - sumTo (fun j => w j * (v j - r i)) a ≤ sumTo (fun j => w j * (v j - r j)) d - sumTo (fun j => w j * (v j - r j)) a :=
    sumTo_le (by omega) fun j p q => mul_le_l (Rat.le_of_lt (hw j (by omega))) (by
      have := d3 j q
      grind)
  have h3 : sumTo (fun j => w j * (v' j - s i)) d - sumTo (fun j => w j * (v' j - s i)) a < sumTo (fun j => w j * (v j - r i)) d - sumTo (fun j => w j * (v j - r i)) a :=
    sumTo_lt a1 d1 (fun j p q => mul_le_l (Rat.le_of_lt (hw j (by omega))) (by
      have := hv j (by omega)
      grind)) (mul_lt_l (hw i hi) (by
      have := hv i hi
      grind))
  have h4 := hs.nn d d2
  have h5 := hr.nn a (by omega)
  grind
/-! ### lists by places -/
def vAt (l : List Pr) (j : Nat) : Rat := (l.getD j (0, 0)).1
def wAt (l : List Pr) (j : Nat) : Rat := (l.getD j (0, 0)).2
def rAt (r : List Rat) (j : Nat) : Rat := r.getD j 0
theorem bsum_get : ∀ (t : Rat) (l : List Pr) (r : List Rat) (k : Nat), l.length = r.length → k < l.length → (bsum t l r)[k]? = some (t + sumTo (fun j => wAt l j * (vAt l j - rAt r j)) (k + 1))
  | t, (v, w) :: l, x :: r, 0, _, _ => by
    show some (t + w * (v - x)) = some (t + (0 + w * (v - x)))
    congr 1
    grind
  | t, (v, w) :: l, x :: r, k + 1, h, hk => by
    have ih := bsum_get (t + w * (v - x)) l r k (by simpa using h) (by simpa using hk)
    show (bsum (t + w * (v - x)) l r)[k]? = _
    rw [ih]
    congr 1
    have sh : ∀ n, sumTo (fun j => wAt ((v, w) :: l) j * (vAt ((v, w) :: l) j - rAt (x :: r) j)) (n + 1) = w * (v - x) + sumTo (fun j => wAt l j * (vAt l j - rAt r j)) n := by
      intro n
      induction n with
      | zero => show (0 : Rat) + w * (v - x) = w * (v - x) + 0; grind
      | succ n ihn =>
        show sumTo _ (n + 1) + wAt l n * (vAt l n - rAt r n) = _
        rw [ihn]
        show _ = w * (v - x) + (sumTo _ n + wAt l n * (vAt l n - rAt r n))
        grind
    rw [sh]
    grind
  | _, [], _, _, _, hk => by simp at hk
  | _, _ :: _, [], _, h, _ => by simp at h
theorem rAt_of {r : List Rat} {k : Nat} {x : Rat} (h : r[k]? = some x) : rAt r k = x := by
  unfold rAt
  rw [List.getD_eq_getElem?_getD, h]
  rfl
theorem get_rAt {r : List Rat} {k : Nat} (h : k < r.length) : r[k]? = some (rAt r k) := by
  rw [List.getElem?_eq_getElem h]
  unfold rAt
  rw [List.getD_eq_getElem?_getD, List.getElem?_eq_getElem h]
  rfl
theorem Kkt.kf {l : List Pr} {r : List Rat} (h : Kkt l r) : KF (wAt l) (vAt l) (rAt r) l.length := by
  have hl := h.len
  have B : ∀ k, k < l.length → (bsum 0 l r)[k]? = some (sumTo (fun j => wAt l j * (vAt l j - rAt r j)) (k + 1)) := fun k hk => by
    rw [bsum_get 0 l r k hl.symm hk]
    congr 1
    grind
  refine ⟨fun k hk => ?_, fun k hk => ?_, ?_, fun k hk c => ?_⟩
  · exact h.rise k _ _ (get_rAt (by omega)) (get_rAt (by omega))
  · cases k with
    | zero => exact Rat.le_refl
    | succ k => exact h.nn _ (List.mem_of_getElem? (B k hk))
  · cases hn : l.length with
    | zero => rfl
    | succ n =>
      refine h.last _ ?_
      rw [List.getLast?_eq_getElem?, bsum_len 0 l r hl.symm, hn]
      show (bsum 0 l r)[n]? = _
      exact B n (by omega)
  · exact h.tight k _ _ _ (get_rAt (by omega)) (get_rAt (by omega)) (B k (by omega)) c
theorem wAt_pos {l : List Pr} (hp : Pos l) {j : Nat} (hj : j < l.length) : 0 < wAt l j := by
  unfold wAt
  rw [List.getD_eq_getElem?_getD, List.getElem?_eq_getElem hj]
  exact hp _ (List.getElem_mem hj)
theorem KF.congr {w w' v v' r r' : Nat → Rat} {n : Nat} (h : KF w v r n) (h1 : ∀ j, j < n → w' j = w j) (h2 : ∀ j, j < n → v' j = v j) (h3 : ∀ j, j < n → r' j = r j) : KF w' v' r' n := by
  have e : ∀ k, k ≤ n → sumTo (fun j => w' j * (v' j - r' j)) k = sumTo (fun j => w j * (v j - r j)) k := fun k hk => sumTo_congr fun j hj => by rw [h1 j (by omega), h2 j (by omega), h3 j (by omega)]
  refine ⟨fun k hk => ?_, fun k hk => ?_, ?_, fun k hk c => ?_⟩
  · rw [h3 k (by omega), h3 (k + 1) hk]; exact h.rise k hk
  · rw [e k hk]; exact h.nn k hk
  · rw [e n (Nat.le_refl _)]; exact h.last
  · rw [e (k + 1) (by omega)]
    rw [h3 k (by omega), h3 (k + 1) hk] at c
    exact h.tight k hk c
/-- two nearest rows, the same weights -/
theorem cmp {l l' : List Pr} {r s : List Rat} {δ : Rat} (hp : Pos l) (hr : Kkt l r) (hs : Kkt l' s) (hl : l'.length = l.length) (hw : ∀ j, j < l.length → wAt l' j = wAt l j) (hv : ∀ j, j < l.length → vAt l' j ≤ vAt l j + δ) {i : Nat} (hi : i < l.length) : rAt s i ≤ rAt r i + δ := by
  have k1 := hr.kf
  have k2 := hs.kf
  rw [hl] at k2
  exact cmpF k1 (k2.congr (fun j hj => (hw j hj).symm) (fun _ _ => rfl) fun _ _ => rfl) (fun j hj => wAt_pos hp hj) hv hi
/-- there is one alone -/
theorem kkt_unique {l : List Pr} {r s : List Rat} (hp : Pos l) (hr : Kkt l r) (hs : Kkt l s) : r = s := by
  refine List.ext_getElem? fun i => ?_
  by_cases hi : i < l.length
  · rw [get_rAt (by rw [hr.len]; exact hi), get_rAt (by rw [hs.len]; exact hi)]
    have h1 := cmp (δ := 0) hp hr hs rfl (fun _ _ => rfl) (fun j _ => by grind) hi
    have h2 := cmp (δ := 0) hp hs hr rfl (fun _ _ => rfl) (fun j _ => by grind) hi
    congr 1
    grind
  · rw [List.getElem?_eq_none (by rw [hr.len]; omega), List.getElem?_eq_none (by rw [hs.len]; omega)]
end HP

set_option Elab.async false
set_option linter.all false
set_option maxRecDepth 100000
/-! HP3: more about nearest rows, for the walks. -/
namespace DL
open PySem PySem.Spec PyProof.Rows L2 Evl RQ HP
theorem dev_cons (c : Rat) (x : Pr) (g : Seg) : dev c (x :: g) = x.2 * (x.1 - c) + dev c g := by
  unfold dev
  show x.2 * x.1 + vsum g - c * (x.2 + wsum g) = _
  grind
theorem dev_pos_of {c : Rat} : ∀ {g : Seg}, Pos g → g ≠ [] → (∀ p, p ∈ g → c < p.1) → 0 < dev c g
  | [], _, h, _ => absurd rfl h
  | [x], hp, _, h => by
    have h1 := Rat.mul_pos (hp x List.mem_cons_self) (show 0 < x.1 - c by have := h x List.mem_cons_self; grind)
    rw [dev_cons, dev_nil]
    grind
  | x :: y :: r, hp, _, h => by
    have h1 := Rat.mul_pos (hp x List.mem_cons_self) (show 0 < x.1 - c by have := h x List.mem_cons_self; grind)
    have h2 := dev_pos_of (c := c) (g := y :: r) (fun p m => hp p (List.mem_cons_of_mem _ m)) (by simp) fun p m => h p (List.mem_cons_of_mem _ m)
    rw [dev_cons]
    grind
theorem dev_neg_of {c : Rat} : ∀ {g : Seg}, Pos g → g ≠ [] → (∀ p, p ∈ g → p.1 < c) → dev c g < 0
  | [], _, h, _ => absurd rfl h
  | [x], hp, _, h => by
    have h1 := Rat.mul_pos (hp x List.mem_cons_self) (show 0 < c - x.1 by have := h x List.mem_cons_self; grind)
    rw [dev_cons, dev_nil]
    grind
  | x :: y :: r, hp, _, h => by
    have h1 := Rat.mul_pos (hp x List.mem_cons_self) (show 0 < c - x.1 by have := h x List.mem_cons_self; grind)
    have h2 := dev_neg_of (c := c) (g := y :: r) (fun p m => hp p (List.mem_cons_of_mem _ m)) (by simp) fun p m => h p (List.mem_cons_of_mem _ m)
    rw [dev_cons]
    grind
theorem mean_over {g : Seg} (hp : Pos g) (hn : g ≠ []) : ∃ p, p ∈ g ∧ p.1 ≤ mean g := Classical.byContradiction fun c => by
  have := dev_pos_of (c := mean g) hp hn fun p m => Rat.not_le.mp fun z => c ⟨p, m, z⟩
  rw [dev_mean hp hn] at this
  exact Rat.lt_irrefl this
theorem mean_under {g : Seg} (hp : Pos g) (hn : g ≠ []) : ∃ p, p ∈ g ∧ mean g ≤ p.1 := Classical.byContradiction fun c => by
  have := dev_neg_of (c := mean g) hp hn fun p m => Rat.not_le.mp fun z => c ⟨p, m, z⟩
  rw [dev_mean hp hn] at this
  exact Rat.lt_irrefl this
theorem near_mem {l : List Pr} {x : Rat} (h : x ∈ near l) : ∃ g, g ∈ segs l ∧ x = mean g := by
  obtain ⟨g, hg, hx⟩ := List.mem_flatMap.mp h
  exact ⟨g, hg, (List.mem_replicate.mp hx).2⟩
theorem segs_sub {l : List Pr} (hp : Pos l) {g : Seg} (h : g ∈ segs l) : g.Sublist l := by
  have := List.sublist_flatten_of_mem h
  rw [segs_flat hp] at this
  exact this
theorem near_len {l : List Pr} (hp : Pos l) : (near l).length = l.length := (near_kkt hp).len
theorem near_sz {l : List Pr} (hg : Gd l) {x : Rat} (h : x ∈ near l) : Rsz 9200000 x := by
  obtain ⟨g, hm, rfl⟩ := near_mem h
  exact (hg.sub (segs_sub hg.pos hm)).msz (segs_ne hg.pos g hm)
theorem near_between {l : List Pr} (hp : Pos l) {x : Rat} (h : x ∈ near l) : (∃ p, p ∈ l ∧ p.1 ≤ x) ∧ ∃ p, p ∈ l ∧ x ≤ p.1 := by
  obtain ⟨g, hm, rfl⟩ := near_mem h
  obtain ⟨p, m1, q1⟩ := mean_over (segs_pos hp g hm) (segs_ne hp g hm)
  obtain ⟨p2, m2, q2⟩ := mean_under (segs_pos hp g hm) (segs_ne hp g hm)
  exact ⟨⟨p, (segs_sub hp hm).subset m1, q1⟩, p2, (segs_sub hp hm).subset m2, q2⟩
theorem mem_zip {α β : Type} {l : List α} {m : List β} {p : α × β} (h : p ∈ l.zip m) : ∃ i : Nat, l[i]? = some p.1 ∧ m[i]? = some p.2 := by
  obtain ⟨i, hi⟩ := List.mem_iff_getElem?.mp h
  exact ⟨i, List.getElem?_zip_eq_some.mp hi⟩
theorem zip_mem {α β : Type} {l : List α} {m : List β} {i : Nat} {x : α} {y : β} (h1 : l[i]? = some x) (h2 : m[i]? = some y) : (x, y) ∈ l.zip m := List.mem_iff_getElem?.mpr ⟨i, List.getElem?_zip_eq_some.mpr ⟨h1, h2⟩⟩
theorem vAt_of {l : List Pr} {k : Nat} {x : Pr} (h : l[k]? = some x) : vAt l k = x.1 := by
  unfold vAt
  rw [List.getD_eq_getElem?_getD, h]
  rfl
theorem wAt_of {l : List Pr} {k : Nat} {x : Pr} (h : l[k]? = some x) : wAt l k = x.2 := by
  unfold wAt
  rw [List.getD_eq_getElem?_getD, h]
  rfl
theorem lt_of_get {α : Type} {l : List α} {k : Nat} {x : α} (h : l[k]? = some x) : k < l.length := (List.getElem?_eq_some_iff.mp h).1
theorem get_of_lt {α : Type} {l : List α} {k : Nat} (h : k < l.length) : ∃ x, l[k]? = some x := ⟨l[k], List.getElem?_eq_getElem h⟩
/-- pairs as the laws draw them -/
structure Gp (l : List Pr) : Prop where
  pos : Pos l
  few : l.length ≤ 50
  sz : ∀ x, x ∈ l → Rsz 430 x.1 ∧ Rsz 210 x.2
theorem Gp.gd {l : List Pr} (h : Gp l) : Gd l := ⟨h.pos, by have := h.few; omega, fun x hx => ⟨(h.sz x hx).1.mono (by decide), (h.sz x hx).2.mono (by decide)⟩⟩
theorem pick2 {z : Int} {d1 d2 : PyData} (h0 : 0 ≤ z) (h1 : z < 2) : ∃ x : PyData, atI [d1, d2] z = some x ∧ (x = d1 ∨ x = d2) := by
  have : z = 0 ∨ z = 1 := by omega
  rcases this with rfl | rfl
  · exact ⟨d1, rfl, .inl rfl⟩
  · exact ⟨d2, rfl, .inr rfl⟩
end DL

set_option Elab.async false
set_option linter.all false
set_option maxRecDepth 100000
/-! HP4: a nearest row moved, turned, scaled, parted. -/
namespace DL
open PySem PySem.Spec PyProof.Rows L2 Evl RQ HP
/-- a row that is shown is the nearest one -/
theorem near_eq {l : List Pr} (hp : Pos l) {s : List Rat} (hl : s.length = l.length) (hk : KF (wAt l) (vAt l) (rAt s) l.length) : near l = s := by
  have k0 := (near_kkt hp).kf
  have nl := near_len hp
  refine List.ext_getElem? fun i => ?_
  by_cases hi : i < l.length
  · rw [get_rAt (by rw [nl]; exact hi), get_rAt (by rw [hl]; exact hi)]
    have h1 := cmpF (δ := 0) k0 hk (fun j hj => wAt_pos hp hj) (fun j _ => by grind) hi
    have h2 := cmpF (δ := 0) hk k0 (fun j hj => wAt_pos hp hj) (fun j _ => by grind) hi
    congr 1
    grind
  · rw [List.getElem?_eq_none (by rw [nl]; omega), List.getElem?_eq_none (by rw [hl]; omega)]
theorem sumTo_scale {f g : Nat → Rat} {c : Rat} : ∀ {n : Nat}, (∀ j, j < n → g j = c * f j) → sumTo g n = c * sumTo f n
  | 0, _ => by show (0 : Rat) = c * 0; grind
  | n + 1, h => by
    show sumTo g n + g n = c * (sumTo f n + f n)
    rw [sumTo_scale fun j hj => h j (by omega), h n (by omega)]
    grind
theorem _root_.HP.KF.affine {w v r w' v' r' : Nat → Rat} {n : Nat} {a b c : Rat} (h : KF w v r n) (ha : 0 < a) (hb : 0 < b) (hw : ∀ j, j < n → w' j = b * w j) (hv : ∀ j, j < n → v' j = a * v j + c) (hr : ∀ j, j < n → r' j = a * r j + c) : KF w' v' r' n := by
  have hab := Rat.mul_pos ha hb
  have e : ∀ k, k ≤ n → sumTo (fun j => w' j * (v' j - r' j)) k = (a * b) * sumTo (fun j => w j * (v j - r j)) k := fun k hk => sumTo_scale fun j hj => by
    rw [hw j (by omega), hv j (by omega), hr j (by omega)]
    grind
  refine ⟨fun k hk => ?_, fun k hk => ?_, ?_, fun k hk c' => ?_⟩
  · rw [hr k (by omega), hr (k + 1) hk]
    have := mul_le_l (Rat.le_of_lt ha) (h.rise k hk)
    grind
  · rw [e k hk]
    exact Rat.mul_nonneg (Rat.le_of_lt hab) (h.nn k hk)
  · rw [e n (Nat.le_refl _), h.last]
    grind
  · rw [e (k + 1) (by omega), h.tight k hk ?_]
    · grind
    · rw [hr k (by omega), hr (k + 1) hk] at c'
      refine Classical.byContradiction fun z => ?_
      have := mul_le_l (Rat.le_of_lt ha) (Rat.not_lt.mp z)
      grind
theorem sumTo_rev {f g : Nat → Rat} {n : Nat} (h : ∀ j, j < n → g j = -f (n - 1 - j)) : ∀ {k : Nat}, k ≤ n → sumTo g k = sumTo f (n - k) - sumTo f n
  | 0, _ => by
    show (0 : Rat) = sumTo f n - sumTo f n
    grind
  | k + 1, hk => by
    show sumTo g k + g k = _
    rw [sumTo_rev h (by omega), h k (by omega)]
    have e : n - k = (n - (k + 1)) + 1 := by omega
    rw [e]
    show sumTo f (n - (k + 1)) + f (n - (k + 1)) - sumTo f n + -f (n - 1 - k) = _
    rw [show n - 1 - k = n - (k + 1) by omega]
    grind
theorem _root_.HP.KF.rev {w v r w' v' r' : Nat → Rat} {n : Nat} (h : KF w v r n) (hw : ∀ j, j < n → w' j = w (n - 1 - j)) (hv : ∀ j, j < n → v' j = -v (n - 1 - j)) (hr : ∀ j, j < n → r' j = -r (n - 1 - j)) : KF w' v' r' n := by
  have e : ∀ k, k ≤ n → sumTo (fun j => w' j * (v' j - r' j)) k = sumTo (fun j => w j * (v j - r j)) (n - k) := fun k hk => by
    rw [sumTo_rev (f := fun j => w j * (v j - r j)) (n := n) (fun j hj => by rw [hw j hj, hv j hj, hr j hj]; grind) hk, h.last]
    grind
  refine ⟨fun k hk => ?_, fun k hk => ?_, ?_, fun k hk c => ?_⟩
  · rw [hr k (by omega), hr (k + 1) hk]
    have := h.rise (n - 1 - (k + 1)) (by omega)
    rw [show n - 1 - (k + 1) + 1 = n - 1 - k by omega] at this
    grind
  · rw [e k hk]
    exact h.nn _ (by omega)
  · rw [e n (Nat.le_refl _), Nat.sub_self]
    rfl
  · rw [e (k + 1) (by omega)]
    rw [hr k (by omega), hr (k + 1) hk] at c
    have := h.tight (n - 1 - (k + 1)) (by omega) (by rw [show n - 1 - (k + 1) + 1 = n - 1 - k by omega]; grind)
    rw [show n - 1 - (k + 1) + 1 = n - (k + 1) by omega] at this
    exact this
theorem _root_.HP.KF.own {w r : Nat → Rat} {n : Nat} (h : ∀ k, k + 1 < n → r k ≤ r (k + 1)) : KF w r r n := by
  have e : ∀ k, sumTo (fun j => w j * (r j - r j)) k = 0 := fun k => by
    induction k with
    | zero => rfl
    | succ k ih =>
      show sumTo _ k + w k * (r k - r k) = 0
      rw [ih]
      grind
  exact ⟨h, fun k _ => by rw [e]; exact Rat.le_refl, e n, fun k _ _ => e _⟩
/-- one item parted in two of the same value -/
theorem _root_.HP.KF.part {w v r w' v' r' : Nat → Rat} {n i : Nat} {a b : Rat} (h : KF w v r n) (hi : i < n) (ha : 0 ≤ a) (hb : 0 ≤ b) (hab : a + b = 1)
    (l0 : ∀ j, j < i → w' j = w j ∧ v' j = v j ∧ r' j = r j) (l1 : w' i = a * w i ∧ v' i = v i ∧ r' i = r i) (l2 : w' (i + 1) = b * w i ∧ v' (i + 1) = v i ∧ r' (i + 1) = r i)
    (l3 : ∀ j, i < j → j < n → w' (j + 1) = w j ∧ v' (j + 1) = v j ∧ r' (j + 1) = r j) : KF w' v' r' (n + 1) := by
  have e0 : ∀ k, k ≤ i → sumTo (fun j => w' j * (v' j - r' j)) k = sumTo (fun j => w j * (v j - r j)) k := fun k hk => sumTo_congr fun j hj => by
    obtain ⟨x, y, z⟩ := l0 j (by omega)
    rw [x, y, z]
  have e1 : sumTo (fun j => w' j * (v' j - r' j)) (i + 1) = sumTo (fun j => w j * (v j - r j)) i + a * (w i * (v i - r i)) := by
    show sumTo _ i + w' i * (v' i - r' i) = _
    rw [e0 i (Nat.le_refl _), l1.1, l1.2.1, l1.2.2]
    grind
  have s1 : sumTo (fun j => w j * (v j - r j)) (i + 1) = sumTo (fun j => w j * (v j - r j)) i + w i * (v i - r i) := rfl
  have e2 : ∀ k, i ≤ k → k < n → sumTo (fun j => w' j * (v' j - r' j)) (k + 2) = sumTo (fun j => w j * (v j - r j)) (k + 1) := fun k hk => by
    induction k with
    | zero =>
      intro hn
      have : i = 0 := by omega
      subst this
      show sumTo _ 1 + w' 1 * (v' 1 - r' 1) = _
      rw [e1, s1]
      rw [show w' 1 = b * w 0 from l2.1, show v' 1 = v 0 from l2.2.1, show r' 1 = r 0 from l2.2.2]
      grind
    | succ k ih =>
      intro hn
      by_cases c : i = k + 1
      · subst c
        show sumTo _ (k + 1 + 1) + w' (k + 1 + 1) * (v' (k + 1 + 1) - r' (k + 1 + 1)) = _
        rw [e1, s1, l2.1, l2.2.1, l2.2.2]
        grind
      · obtain ⟨x, y, z⟩ := l3 (k + 1) (by omega) hn
        show sumTo _ (k + 2) + w' (k + 1 + 1) * (v' (k + 1 + 1) - r' (k + 1 + 1)) = _
        rw [ih (by omega) (by omega), x, y, z]
        rfl
  refine ⟨fun k hk => ?_, fun k hk => ?_, ?_, fun k hk c => ?_⟩
  · by_cases c0 : k + 1 < i
    · rw [(l0 k (by omega)).2.2, (l0 (k + 1) c0).2.2]; exact h.rise k (by omega)
    · by_cases c1 : k + 1 = i
      · subst c1
        rw [(l0 k (by omega)).2.2, l1.2.2]; exact h.rise k (by omega)
      · by_cases c2 : k = i
        · subst c2
          rw [l1.2.2, l2.2.2]; exact Rat.le_refl
        · obtain ⟨k', rfl⟩ : ∃ k', k = k' + 1 := ⟨k - 1, by omega⟩
          by_cases c3 : k' = i
          · subst c3
            rw [l2.2.2, (l3 (k' + 1) (by omega) (by omega)).2.2]; exact h.rise k' (by omega)
          · rw [(l3 k' (by omega) (by omega)).2.2, (l3 (k' + 1) (by omega) (by omega)).2.2]; exact h.rise k' (by omega)
  · by_cases c0 : k ≤ i
    · rw [e0 k c0]; exact h.nn k (by omega)
    · by_cases c1 : k = i + 1
      · subst c1
        rw [e1]
        have n1 := h.nn i (by omega)
        have n2 := h.nn (i + 1) (by omega)
        rw [s1] at n2
        have m1 := Rat.mul_nonneg hb n1
        have m2 := Rat.mul_nonneg ha n2
        have hb' : b = 1 - a := by grind
        subst hb'
        grind
      · obtain ⟨k', rfl⟩ : ∃ k', k = k' + 2 := ⟨k - 2, by omega⟩
        rw [e2 k' (by omega) (by omega)]; exact h.nn (k' + 1) (by omega)
  · obtain ⟨m, rfl⟩ : ∃ m, n = m + 1 := ⟨n - 1, by omega⟩
    rw [e2 m (by omega) (by omega)]; exact h.last
  · by_cases c0 : k + 1 < i
    · rw [(l0 k (by omega)).2.2, (l0 (k + 1) c0).2.2] at c
      rw [e0 (k + 1) (by omega)]; exact h.tight k (by omega) c
    · by_cases c1 : k + 1 = i
      · subst c1
        rw [(l0 k (by omega)).2.2, l1.2.2] at c
        rw [e0 (k + 1) (by omega)]; exact h.tight k (by omega) c
      · by_cases c2 : k = i
        · subst c2
          rw [l1.2.2, l2.2.2] at c
          exact absurd c Rat.lt_irrefl
        · obtain ⟨k', rfl⟩ : ∃ k', k = k' + 1 := ⟨k - 1, by omega⟩
          rw [show k' + 1 + 1 = k' + 2 from rfl, e2 k' (by omega) (by omega)]
          refine h.tight k' (by omega) ?_
          by_cases c3 : k' = i
          · subst c3
            rw [l2.2.2, (l3 (k' + 1) (by omega) (by omega)).2.2] at c; exact c
          · rw [(l3 k' (by omega) (by omega)).2.2, (l3 (k' + 1) (by omega) (by omega)).2.2] at c; exact c
theorem vAt_map {f : Pr → Pr} {l : List Pr} {j : Nat} (h : j < l.length) : vAt (l.map f) j = (f (vAt l j, wAt l j)).1 ∧ wAt (l.map f) j = (f (vAt l j, wAt l j)).2 := by
  obtain ⟨x, hx⟩ := get_of_lt h
  have hm : (l.map f)[j]? = some (f x) := by rw [List.getElem?_map, hx]; rfl
  rw [vAt_of hm, wAt_of hm, vAt_of hx, wAt_of hx]
  exact ⟨rfl, rfl⟩
theorem rAt_map {f : Rat → Rat} {r : List Rat} {j : Nat} (h : j < r.length) : rAt (r.map f) j = f (rAt r j) := by
  obtain ⟨x, hx⟩ := get_of_lt h
  have hm : (r.map f)[j]? = some (f x) := by rw [List.getElem?_map, hx]; rfl
  rw [rAt_of hm, rAt_of hx]
theorem rev_get {α : Type} {l : List α} {j : Nat} {x : α} (h : j < l.length) (hx : l[l.length - 1 - j]? = some x) : l.reverse[j]? = some x := by rw [List.getElem?_reverse h]; exact hx
theorem vAt_rev {l : List Pr} {j : Nat} (h : j < l.length) : vAt l.reverse j = vAt l (l.length - 1 - j) ∧ wAt l.reverse j = wAt l (l.length - 1 - j) := by
  obtain ⟨x, hx⟩ := get_of_lt (l := l) (k := l.length - 1 - j) (by omega)
  have hm := rev_get h hx
  rw [vAt_of hm, wAt_of hm, vAt_of hx, wAt_of hx]
  exact ⟨rfl, rfl⟩
theorem rAt_rev {r : List Rat} {j : Nat} (h : j < r.length) : rAt r.reverse j = rAt r (r.length - 1 - j) := by
  obtain ⟨x, hx⟩ := get_of_lt (l := r) (k := r.length - 1 - j) (by omega)
  rw [rAt_of (rev_get h hx), rAt_of hx]
theorem pos_map {f : Pr → Pr} {l : List Pr} (h : ∀ x, x ∈ l → 0 < (f x).2) : Pos (l.map f) := fun y hy => by
  obtain ⟨x, hx, rfl⟩ := List.mem_map.mp hy
  exact h x hx
def opp (l : List Pr) : List Pr := l.map fun p => (-p.1, p.2)
theorem opp_opp (l : List Pr) : opp (opp l) = l := by
  unfold opp
  rw [List.map_map]
  refine (List.map_congr_left fun p _ => ?_).trans (List.map_id l)
  show (-(-p.1), p.2) = p
  rw [Rat.neg_neg]
theorem opp_pos {l : List Pr} (h : Pos l) : Pos (opp l) := pos_map h
theorem opp_len (l : List Pr) : (opp l).length = l.length := List.length_map _
theorem opp_rev (l : List Pr) : (opp l).reverse = opp l.reverse := by unfold opp; rw [List.map_reverse]
theorem rev_pos {l : List Pr} (h : Pos l) : Pos l.reverse := fun x hx => h x (List.mem_reverse.mp hx)
theorem near_affine {l : List Pr} {a b c : Rat} (hp : Pos l) (ha : 0 < a) (hb : 0 < b) : near (l.map fun p => (p.1 * a + c, p.2 * b)) = (near l).map fun x => x * a + c := by
  have nl := near_len hp
  refine near_eq (pos_map fun x hx => Rat.mul_pos (hp x hx) hb) (by rw [List.length_map, List.length_map, nl]) ?_
  rw [List.length_map]
  refine (near_kkt hp).kf.affine ha hb (c := c) (fun j hj => ?_) (fun j hj => ?_) (fun j hj => ?_)
  · rw [(vAt_map hj).2]
    show wAt l j * b = b * wAt l j
    grind
  · rw [(vAt_map hj).1]
    show vAt l j * a + c = a * vAt l j + c
    grind
  · rw [rAt_map (by rw [nl]; exact hj)]
    grind
theorem near_shift {l : List Pr} {c : Rat} (hp : Pos l) : near (l.map fun p => (p.1 + c, p.2)) = (near l).map fun x => x + c := by
  have h := near_affine (a := 1) (b := 1) (c := c) hp (by decide) (by decide)
  rw [show (fun p : Pr => (p.1 * 1 + c, p.2 * 1)) = fun p => (p.1 + c, p.2) from funext fun p => by rw [Rat.mul_one, Rat.mul_one], show (fun x : Rat => x * 1 + c) = fun x => x + c from funext fun x => by rw [Rat.mul_one]] at h
  exact h
theorem near_scale {l : List Pr} {a b : Rat} (hp : Pos l) (ha : 0 < a) (hb : 0 < b) : near (l.map fun p => (p.1 * a, p.2 * b)) = (near l).map fun x => x * a := by
  have h := near_affine (a := a) (b := b) (c := 0) hp ha hb
  rw [show (fun p : Pr => (p.1 * a + 0, p.2 * b)) = fun p => (p.1 * a, p.2 * b) from funext fun p => by rw [Rat.add_zero], show (fun x : Rat => x * a + 0) = fun x => x * a from funext fun x => by rw [Rat.add_zero]] at h
  exact h
theorem near_turn {l : List Pr} (hp : Pos l) : near (opp l).reverse = ((near l).map fun x => -x).reverse := by
  have nl := near_len hp
  have h0 := (near_kkt hp).kf
  refine near_eq (rev_pos (opp_pos hp)) (by simp [nl, opp_len]) ?_
  rw [List.length_reverse, opp_len]
  refine h0.rev (fun j hj => ?_) (fun j hj => ?_) (fun j hj => ?_)
  · rw [(vAt_rev (by rw [opp_len]; exact hj)).2, opp_len]
    exact (vAt_map (by omega)).2
  · rw [(vAt_rev (by rw [opp_len]; exact hj)).1, opp_len]
    exact (vAt_map (by omega)).1
  · rw [rAt_rev (by rw [List.length_map, nl]; exact hj), List.length_map, nl, rAt_map (by rw [nl]; omega)]
theorem near_fall {l : List Pr} (hp : Pos l) : (near l.reverse).reverse = (near (opp l)).map fun x => -x := by
  have h := near_turn (opp_pos hp)
  rw [opp_opp] at h
  rw [h, List.reverse_reverse]
theorem near_rise {l : List Pr} (hp : Pos l) {k : Nat} (h : k + 1 < l.length) : rAt (near l) k ≤ rAt (near l) (k + 1) := (near_kkt hp).kf.rise k h
theorem near_own {l : List Pr} (hp : Pos l) : near (((near l).zip l).map fun q => (q.1, q.2.2)) = near l := by
  have nl := near_len hp
  have len : (((near l).zip l).map fun q => (q.1, q.2.2)).length = l.length := by rw [List.length_map, List.length_zip, nl, Nat.min_self]
  have at_ : ∀ {j : Nat} {x : Rat} {p : Pr}, (near l)[j]? = some x → l[j]? = some p → (((near l).zip l).map fun q => (q.1, q.2.2))[j]? = some (x, p.2) := fun {j x p} h1 h2 => by
    rw [List.getElem?_map, show ((near l).zip l)[j]? = some (x, p) from List.getElem?_zip_eq_some.mpr ⟨h1, h2⟩]
    rfl
  refine near_eq (fun y hy => ?_) (by rw [len, nl]) ?_
  · obtain ⟨q, hq, rfl⟩ := List.mem_map.mp hy
    exact hp q.2 (List.of_mem_zip hq).2
  · rw [len]
    refine (KF.own (w := wAt l) (r := rAt (near l)) fun k hk => near_rise hp hk).congr (fun j hj => ?_) (fun j hj => ?_) fun j hj => rfl
    · obtain ⟨x, hx⟩ := get_of_lt (l := near l) (k := j) (by rw [nl]; exact hj)
      obtain ⟨p, hp'⟩ := get_of_lt hj
      rw [wAt_of (at_ hx hp'), wAt_of hp']
    · obtain ⟨x, hx⟩ := get_of_lt (l := near l) (k := j) (by rw [nl]; exact hj)
      obtain ⟨p, hp'⟩ := get_of_lt hj
      rw [vAt_of (at_ hx hp'), rAt_of hx]
theorem part_get {α : Type} {l : List α} {i : Nat} (hi : i < l.length) (x y : α) : (∀ j, j < i → (l.take i ++ [x, y] ++ l.drop (i + 1))[j]? = l[j]?) ∧ (l.take i ++ [x, y] ++ l.drop (i + 1))[i]? = some x ∧ (l.take i ++ [x, y] ++ l.drop (i + 1))[i + 1]? = some y ∧ (∀ j, i < j → (l.take i ++ [x, y] ++ l.drop (i + 1))[j + 1]? = l[j]?) := by
  have li : (l.take i).length = i := by rw [List.length_take]; omega
  refine ⟨fun j hj => ?_, ?_, ?_, fun j hj => ?_⟩
  · rw [List.append_assoc, List.getElem?_append_left (by omega), List.getElem?_take_of_lt hj]
  · rw [List.append_assoc, List.getElem?_append_right (by omega), li, Nat.sub_self]; rfl
  · rw [List.append_assoc, List.getElem?_append_right (by omega), li, show i + 1 - i = 1 by omega]; rfl
  · rw [List.getElem?_append_right (by rw [List.length_append, li]; simp; omega), List.length_append, li, List.getElem?_drop]
    congr 1
    simp
    omega
theorem part_len {α : Type} {l : List α} {i : Nat} (hi : i < l.length) (x y : α) : (l.take i ++ [x, y] ++ l.drop (i + 1)).length = l.length + 1 := by
  simp
  omega
theorem near_part {l : List Pr} (hp : Pos l) {i : Nat} {v w x a b : Rat} (hi : l[i]? = some (v, w)) (hx : (near l)[i]? = some x) (ha : 0 < a) (hb : 0 < b) (hab : a + b = 1) : near (l.take i ++ [(v, w * a), (v, w * b)] ++ l.drop (i + 1)) = (near l).take i ++ [x, x] ++ (near l).drop (i + 1) := by
  have nl := near_len hp
  have il := lt_of_get hi
  have w0 : 0 < w := hp _ (List.mem_of_getElem? hi)
  obtain ⟨p0, p1, p2, p3⟩ := part_get il (v, w * a) (v, w * b)
  obtain ⟨q0, q1, q2, q3⟩ := part_get (l := near l) (i := i) (by rw [nl]; exact il) x x
  refine near_eq (fun y hy => ?_) (by rw [part_len il, part_len (by rw [nl]; exact il), nl]) ?_
  · rcases List.mem_append.mp hy with hy | hy
    · rcases List.mem_append.mp hy with hy | hy
      · exact hp.take i y hy
      · simp only [List.mem_cons, List.not_mem_nil, or_false] at hy
        rcases hy with rfl | rfl
        · exact Rat.mul_pos w0 ha
        · exact Rat.mul_pos w0 hb
    · exact hp.drop (i + 1) y hy
  · rw [part_len il]
    refine (near_kkt hp).kf.part il (Rat.le_of_lt ha) (Rat.le_of_lt hb) hab (fun j hj => ?_) ?_ ?_ (fun j h1 h2 => ?_)
    · obtain ⟨y, hy⟩ := get_of_lt (l := l) (k := j) (by omega)
      obtain ⟨z, hz⟩ := get_of_lt (l := near l) (k := j) (by omega)
      rw [wAt_of ((p0 j hj).trans hy), vAt_of ((p0 j hj).trans hy), rAt_of ((q0 j hj).trans hz), wAt_of hy, vAt_of hy, rAt_of hz]
      exact ⟨rfl, rfl, rfl⟩
    · rw [wAt_of p1, vAt_of p1, rAt_of q1, wAt_of hi, vAt_of hi, rAt_of hx]
      exact ⟨Rat.mul_comm _ _, rfl, rfl⟩
    · rw [wAt_of p2, vAt_of p2, rAt_of q2, wAt_of hi, vAt_of hi, rAt_of hx]
      exact ⟨Rat.mul_comm _ _, rfl, rfl⟩
    · obtain ⟨y, hy⟩ := get_of_lt (l := l) (k := j) (by omega)
      obtain ⟨z, hz⟩ := get_of_lt (l := near l) (k := j) (by omega)
      rw [wAt_of ((p3 j h1).trans hy), vAt_of ((p3 j h1).trans hy), rAt_of ((q3 j h1).trans hz), wAt_of hy, vAt_of hy, rAt_of hz]
      exact ⟨rfl, rfl, rfl⟩
/-- sizes of the nearest row of drawn pairs -/
theorem sz_vsum2 {s t : Nat} : ∀ {g : Seg}, (∀ x, x ∈ g → Rsz s x.1 ∧ Rsz t x.2) → Rsz (g.length * (s + t + 1) + 1) (vsum g)
  | [], _ => sz_zero _ (by omega)
  | x :: r, h => by
    have h1 := h x List.mem_cons_self
    have h2 := sz_vsum2 (g := r) fun y hy => h y (List.mem_cons_of_mem _ hy)
    refine ((h1.2.mul h1.1).add h2).mono ?_
    rw [List.length_cons, Nat.add_mul]
    omega
theorem Gp.near_sz {l : List Pr} (h : Gp l) {x : Rat} (hx : x ∈ near l) : Rsz 43000 x := by
  obtain ⟨g, hm, rfl⟩ := near_mem hx
  have sub := segs_sub h.pos hm
  have few : g.length ≤ 50 := Nat.le_trans sub.length_le h.few
  have hw := sz_wsum (s := 210) (g := g) fun y hy => (h.sz y (sub.subset hy)).2
  have hv := sz_vsum2 (s := 430) (t := 210) (g := g) fun y hy => h.sz y (sub.subset hy)
  have := wsum_pos (segs_pos h.pos g hm) (segs_ne h.pos g hm)
  refine (hv.div hw (fun e => by rw [e] at this; exact Rat.lt_irrefl this)).mono ?_
  omega
theorem cut_to {α : Type} (xs : List α) (i : Nat) : cutD xs none (some (i : Int)) = xs.take i := by
  unfold cutD
  rw [HT.sIx_none, HT.sIx_nat, List.drop_zero, Nat.sub_zero]
  by_cases h : i ≤ xs.length
  · rw [Nat.min_eq_left h]
  · rw [Nat.min_eq_right (by omega), List.take_length, List.take_of_length_le (by omega)]
theorem cut_from {α : Type} (xs : List α) (i : Nat) : cutD xs (some (i : Int)) none = xs.drop i := by
  unfold cutD
  rw [HT.sIx_none, HT.sIx_nat]
  by_cases h : i ≤ xs.length
  · rw [Nat.min_eq_left h, List.take_of_length_le (by rw [List.length_drop]; omega)]
  · rw [Nat.min_eq_right (by omega), List.drop_of_length_le (Nat.le_refl _), List.drop_of_length_le (by omega), List.take_nil]
theorem eqv_map {α : Type} [DecidableEq α] {c : α → PyData} (h : ∀ x y, PyData.eqv (c x) (c y) = decide (x = y)) : ∀ a b : List α, PyData.eqvAll (a.map c) (b.map c) = decide (a = b)
  | [], [] => by simp [PyData.eqvAll]
  | [], y :: b => by simp [PyData.eqvAll]
  | x :: a, [] => by simp [PyData.eqvAll]
  | x :: a, y :: b => by
    simp only [List.map_cons, PyData.eqvAll, h, eqv_map h a b]
    by_cases h1 : x = y
    · subst h1; simp
    · simp [h1]
theorem eqv_listmap {α : Type} [DecidableEq α] {c : α → PyData} (h : ∀ x y, PyData.eqv (c x) (c y) = decide (x = y)) (a b : List α) : PyData.eqv (.list (a.map c)) (.list (b.map c)) = decide (a = b) := by
  simp only [PyData.eqv]
  exact eqv_map h a b
theorem eqv_pa (x y : Pr) : PyData.eqv (paD x) (paD y) = decide (x = y) := by
  obtain ⟨a, b⟩ := x
  obtain ⟨c, d⟩ := y
  show PyData.eqv (.tuple [qD a, qD b]) (.tuple [qD c, qD d]) = _
  have e : PyData.eqv (.tuple [qD a, qD b]) (.tuple [qD c, qD d]) = PyData.eqvAll [qD a, qD b] [qD c, qD d] := by simp only [PyData.eqv]
  rw [e]
  have e2 : PyData.eqvAll [qD a, qD b] [qD c, qD d] = (PyData.eqv (qD a) (qD c) && PyData.eqv (qD b) (qD d)) := by
    show PyData.eqvAll (qD a :: [qD b]) (qD c :: [qD d]) = _
    rw [PyData.eqvAll]
    congr 1
    rw [PyData.eqvAll, PyData.eqvAll, Bool.and_true]
  rw [e2, eqv_q, eqv_q]
  by_cases h1 : a = c
  · by_cases h2 : b = d
    · subst h1; subst h2; simp
    · simp [h1, h2]
  · simp [h1]
theorem sh_qs (a : List Rat) : SeqAt.shaped (.list (a.map qD)) = true := (pl_map pl_q).shaped (by decide)
theorem sh_ps (a : List Pr) : SeqAt.shaped (.list (a.map paD)) = true := (pl_map pl_pr).shaped (by decide)
theorem rd_eqQL {K : PySem.W.Frag} {Q : Rs → Prop} {a b : List Rat} (q : Q (.v (.bool (decide (a = b))))) : RD K (rEqD K) (.list (a.map qD)) (.list (b.map qD)) Q := rd_eqD (sh_qs a) (sh_qs b) (by rw [eqv_listmap eqv_q]; exact q)
theorem rd_neQL {K : PySem.W.Frag} {Q : Rs → Prop} {a b : List Rat} (q : Q (.v (.bool (!decide (a = b))))) : RD K (rNeD K) (.list (a.map qD)) (.list (b.map qD)) Q := rd_neD (sh_qs a) (sh_qs b) (by rw [eqv_listmap eqv_q]; exact q)
theorem rd_eqPL {K : PySem.W.Frag} {Q : Rs → Prop} {a b : List Pr} (q : Q (.v (.bool (decide (a = b))))) : RD K (rEqD K) (.list (a.map paD)) (.list (b.map paD)) Q := rd_eqD (sh_ps a) (sh_ps b) (by rw [eqv_listmap eqv_pa]; exact q)
theorem rd_nePL {K : PySem.W.Frag} {Q : Rs → Prop} {a b : List Pr} (q : Q (.v (.bool (!decide (a = b))))) : RD K (rNeD K) (.list (a.map paD)) (.list (b.map paD)) Q := rd_neD (sh_ps a) (sh_ps b) (by rw [eqv_listmap eqv_pa]; exact q)
/-- two lists known to be alike -/
theorem rd_neSame {K : PySem.W.Frag} {Q : Rs → Prop} {x y : List Rat} {a b : List PyData} (ha : a = x.map qD) (hb : b = y.map qD) (e : x = y) (q : Q (.v (.bool false))) : RD K (rNeD K) (.list a) (.list b) Q := by
  subst ha hb e
  refine rd_neQL ?_
  rw [decide_eq_true rfl]
  exact q
theorem rd_eqSame {K : PySem.W.Frag} {Q : Rs → Prop} {x y : List Rat} {a b : List PyData} (ha : a = x.map qD) (hb : b = y.map qD) (e : x = y) (q : Q (.v (.bool true))) : RD K (rEqD K) (.list a) (.list b) Q := by
  subst ha hb e
  refine rd_eqQL ?_
  rw [decide_eq_true rfl]
  exact q
end DL

set_option Elab.async false
set_option linter.all false
set_option maxRecDepth 100000
/-! HP5: begun sums judged: a row is shown by them just where it is the nearest one. -/
namespace DL
open PySem PySem.Spec PyProof.Rows L2 Evl RQ HP
theorem bsum_sz {a b c : Nat} : ∀ {l : List Pr} {s : Nat} {t : Rat} {r : List Rat}, Rsz s t → (∀ x, x ∈ l → Rsz a x.1 ∧ Rsz b x.2) → (∀ x, x ∈ r → Rsz c x) → ∀ y, y ∈ bsum t l r → Rsz (s + l.length * (a + b + c + 2)) y
  | [], s, t, r, _, _, _, y, hy => by simp [bsum] at hy
  | _ :: _, s, t, [], _, _, _, y, hy => by simp [bsum] at hy
  | (v, w) :: l, s, t, x :: r, ht, hl, hr, y, hy => by
    have h1 := hl (v, w) List.mem_cons_self
    have h2 := hr x List.mem_cons_self
    have h3 : Rsz (s + (a + b + c + 2)) (t + w * (v - x)) := (ht.add (h1.2.mul (h1.1.sub h2))).mono (by omega)
    rcases List.mem_cons.mp (show y ∈ (t + w * (v - x)) :: bsum (t + w * (v - x)) l r from hy) with rfl | hy
    · exact h3.mono (by rw [List.length_cons, Nat.add_mul]; omega)
    · exact (bsum_sz h3 (fun z hz => hl z (List.mem_cons_of_mem _ hz)) (fun z hz => hr z (List.mem_cons_of_mem _ hz)) y hy).mono (by rw [List.length_cons, Nat.add_mul]; omega)
theorem bsum_snoc {l : List Pr} {r : List Rat} {v w x t : Rat} (h : l.length = r.length) : bsum t (l ++ [(v, w)]) (r ++ [x]) = bsum t l r ++ [((bsum t l r).getLast?).getD t + w * (v - x)] := by
  rw [bsum_app t l _ r _ h]
  rfl
theorem bsum_take : ∀ {l : List Pr} {r : List Rat} {t : Rat} (i : Nat), bsum t (l.take i) (r.take i) = (bsum t l r).take i
  | _, _, _, 0 => rfl
  | [], r, t, i + 1 => by simp [bsum]
  | _ :: _, [], t, i + 1 => by simp [bsum]
  | (v, w) :: l, x :: r, t, i + 1 => by
    show (t + w * (v - x)) :: bsum _ (l.take i) (r.take i) = (t + w * (v - x)) :: (bsum _ l r).take i
    rw [bsum_take i]
theorem zip3_map {α β γ : Type} {c : α → PyData} {d : β → PyData} {f : γ → PyData} : ∀ {x : List α} {y : List β} {z : List γ}, zip3 (x.map c) (y.map d) (z.map f) = ((x.zip y).zip z).map fun q => .tuple [c q.1.1, d q.1.2, f q.2]
  | [], _, _ => rfl
  | _ :: _, [], _ => rfl
  | _ :: _, _ :: _, [] => rfl
  | a :: x, b :: y, e :: z => by
    show _ :: zip3 (x.map c) (y.map d) (z.map f) = _ :: _
    rw [zip3_map]
    rfl
theorem cut_last {α : Type} (xs : List α) : cutD xs (some (-1)) none = xs.drop (xs.length - 1) := by
  unfold cutD
  rw [HT.sIx_none]
  have e : HT.sIx xs.length 0 (some (-1)) = xs.length - 1 := by
    unfold HT.sIx
    simp
    omega
  rw [e]
  exact List.take_of_length_le (by rw [List.length_drop]; omega)
def risesB (r : List Rat) : Bool := !((r.zip (r.drop 1)).any fun p => decide (p.2 < p.1))
def lastB (s : List Rat) : Bool := decide (s.drop (s.length - 1) = [] ∨ s.drop (s.length - 1) = [0])
def nearB (l : List Pr) (r : List Rat) : Bool := risesB r && (lastB (bsum 0 l r) && (!((bsum 0 l r).any fun b => decide (b < 0)) && ((r.zip (r.drop 1)).zip (bsum 0 l r)).all fun q => decide (q.1.1 = q.1.2) || decide (q.2 = 0)))
theorem zip_drop_get {r : List Rat} {k : Nat} {x y : Rat} (h1 : r[k]? = some x) (h2 : r[k + 1]? = some y) : (r.zip (r.drop 1))[k]? = some (x, y) :=
  List.getElem?_zip_eq_some.mpr ⟨h1, by rw [List.getElem?_drop, Nat.add_comm]; exact h2⟩
theorem zip_drop_of {r : List Rat} {k : Nat} {p : Rat × Rat} (h : (r.zip (r.drop 1))[k]? = some p) : r[k]? = some p.1 ∧ r[k + 1]? = some p.2 := by
  obtain ⟨h1, h2⟩ := List.getElem?_zip_eq_some.mp h
  rw [List.getElem?_drop, Nat.add_comm] at h2
  exact ⟨h1, h2⟩
theorem risesB_iff {r : List Rat} : risesB r = true ↔ ∀ (k : Nat) (x y : Rat), r[k]? = some x → r[k + 1]? = some y → x ≤ y := by
  unfold risesB
  rw [Bool.not_eq_true', List.any_eq_false]
  constructor
  · intro h k x y h1 h2
    have := h (x, y) (List.mem_of_getElem? (zip_drop_get h1 h2))
    have := of_decide_eq_false (Bool.eq_false_iff.mpr this)
    exact Rat.not_lt.mp this
  · intro h p hp hd
    obtain ⟨k, hk⟩ := List.mem_iff_getElem?.mp hp
    obtain ⟨h1, h2⟩ := zip_drop_of hk
    have := h k _ _ h1 h2
    exact absurd (of_decide_eq_true hd) (Rat.not_lt.mpr this)
theorem drop_last {α : Type} : ∀ {s : List α}, s.drop (s.length - 1) = s.getLast?.toList
  | [] => rfl
  | [x] => rfl
  | x :: y :: s => by
    show (x :: y :: s).drop (s.length + 1) = _
    rw [List.drop_succ_cons]
    have := drop_last (s := y :: s)
    rw [show (y :: s).length - 1 = s.length from rfl] at this
    rw [this]
    rfl
theorem lastB_iff {s : List Rat} : lastB s = true ↔ ∀ b, s.getLast? = some b → b = 0 := by
  unfold lastB
  rw [decide_eq_true_iff, drop_last]
  cases h : s.getLast? with
  | none => simp
  | some b => simp
theorem nearB_iff {l : List Pr} {r : List Rat} (hl : r.length = l.length) : nearB l r = true ↔ Kkt l r := by
  unfold nearB
  rw [Bool.and_eq_true, Bool.and_eq_true, Bool.and_eq_true, risesB_iff, lastB_iff, Bool.not_eq_true', List.any_eq_false, List.all_eq_true]
  constructor
  · rintro ⟨h1, h2, h3, h4⟩
    refine ⟨hl, h1, fun b hb => ?_, h2, fun k x y b hx hy hb hlt => ?_⟩
    · have := h3 b hb
      exact Rat.not_lt.mp (of_decide_eq_false (Bool.eq_false_iff.mpr this))
    · have := h4 ((x, y), b) (List.mem_of_getElem? (List.getElem?_zip_eq_some.mpr ⟨zip_drop_get hx hy, hb⟩))
      rw [Bool.or_eq_true, decide_eq_true_iff, decide_eq_true_iff] at this
      rcases this with h | h
      · have h : x = y := h
        exact absurd hlt (by rw [h]; exact Rat.lt_irrefl)
      · exact h
  · intro k
    refine ⟨k.rise, k.last, fun b hb hd => ?_, fun q hq => ?_⟩
    · exact absurd (of_decide_eq_true hd) (Rat.not_lt.mpr (k.nn b hb))
    · obtain ⟨i, hi⟩ := List.mem_iff_getElem?.mp hq
      obtain ⟨g1, g2⟩ := List.getElem?_zip_eq_some.mp hi
      obtain ⟨h1, h2⟩ := zip_drop_of g1
      rw [Bool.or_eq_true, decide_eq_true_iff, decide_eq_true_iff]
      by_cases e : q.1.1 = q.1.2
      · exact .inl e
      · refine .inr (k.tight i _ _ _ h1 h2 g2 ?_)
        have := k.rise i _ _ h1 h2
        grind
theorem nearB_eq {l : List Pr} {r : List Rat} (hp : Pos l) (hl : r.length = l.length) : nearB l r = decide (r = near l) := by
  by_cases h : r = near l
  · rw [decide_eq_true h, (nearB_iff hl).mpr (by rw [h]; exact near_kkt hp)]
  · rw [decide_eq_false h, Bool.eq_false_iff]
    intro z
    exact h (kkt_unique hp ((nearB_iff hl).mp z) (near_kkt hp))
/-- s[-1:] not in ([], [nought]) -/
theorem rd_notLast {K : PySem.W.Frag} {Q : Rs → Prop} {s : List Rat} (q : Q (.v (.bool (!lastB s)))) : RD K (rNotInA K) (.list (cutD (s.map qD) (some (-1)) none)) (.tuple [.list [], .list [qD 0]]) Q := by
  rw [cutD_map, cut_last]
  refine rd_notInAT (sh_qs _) ((pl_list (n := 2) fun d m => ?_).shaped (by decide)) ?_
  · rcases List.mem_cons.mp m with rfl | m
    · exact (pl_nil 0).mono (by decide)
    · rw [List.mem_singleton.mp m]
      exact pl_map (l := [(0 : Rat)]) pl_q
  · have e1 : PyData.eqv (.list []) (.list ((s.drop (s.length - 1)).map qD)) = decide (([] : List Rat) = s.drop (s.length - 1)) := eqv_listmap eqv_q [] _
    have e2 : PyData.eqv (.list [qD 0]) (.list ((s.drop (s.length - 1)).map qD)) = decide ([(0 : Rat)] = s.drop (s.length - 1)) := eqv_listmap eqv_q [0] _
    have e : ([PyData.list [], .list [qD 0]].any fun z => PyData.eqv z (.list ((s.drop (s.length - 1)).map qD))) = lastB s := by
      simp only [List.any_cons, List.any_nil]
      rw [e1, e2]
      unfold lastB
      rw [Bool.or_false]
      by_cases h1 : ([] : List Rat) = s.drop (s.length - 1)
      · simp [← h1]
      · by_cases h2 : [(0 : Rat)] = s.drop (s.length - 1)
        · simp [← h2]
        · rw [decide_eq_false h1, decide_eq_false h2, decide_eq_false]
          · rfl
          · rintro (z | z)
            · exact h1 z.symm
            · exact h2 z.symm
    rw [e]
    exact q
/-- the sizes of begun sums of drawn pairs -/
theorem bsum_szG {l : List Pr} {r : List Rat} (hg : Gd l) (hr : ∀ x, x ∈ r → Rsz 500000 x) {i : Nat} : ∀ y, y ∈ bsum 0 (l.take i) (r.take i) → Rsz 36100000 y := fun y hy =>
  (bsum_sz (a := 50000) (b := 50000) (c := 500000) (s := 1) (sz_zero 1 (by decide)) (fun x hx => hg.sz x (List.mem_of_mem_take hx)) (fun x hx => hr x (List.mem_of_mem_take hx)) y hy).mono (by
    have := hg.few
    have h2 : (l.take i).length ≤ 60 := by rw [List.length_take]; omega
    omega)
theorem getLastD_sz {B : Nat} {s : List Rat} (h : ∀ y, y ∈ s → Rsz B y) (hB : 0 < B) : Rsz B (s.getLast?.getD 0) := by
  cases e : s.getLast? with
  | none => exact sz_zero _ hB
  | some y => exact h y (List.mem_of_getLast? e)
/-- the i-th begun sum from the one ahead -/
theorem bsum_next {l : List Pr} {r : List Rat} {i : Nat} {p : Pr} {x : Rat} (h1 : l[i]? = some p) (h2 : r[i]? = some x) (hl : l.length = r.length) : bsum 0 (l.take (i + 1)) (r.take (i + 1)) = bsum 0 (l.take i) (r.take i) ++ [((bsum 0 (l.take i) (r.take i)).getLast?).getD 0 + p.2 * (p.1 - x)] := by
  rw [List.take_add_one, List.take_add_one, h1, h2]
  exact bsum_snoc (by rw [List.length_take, List.length_take, hl])
end DL

set_option Elab.async false
set_option linter.all false
set_option maxRecDepth 100000
/-! HP6: no rising row is nearer; comprehensions with drawn items. -/
namespace DL
open PySem PySem.Spec PyProof.Rows L2 Evl RQ HP
variable {xw : Xw}
/-- what the squares of a row cost, up to a place -/
def costTo (l : List Pr) (r : List Rat) (n : Nat) : Rat := sumTo (fun j => wAt l j * ((rAt r j - vAt l j) * (rAt r j - vAt l j))) n
theorem costTo_succ (l : List Pr) (r : List Rat) (n : Nat) : costTo l r (n + 1) = costTo l r n + wAt l n * ((rAt r n - vAt l n) * (rAt r n - vAt l n)) := rfl
theorem slope {w v r o : Nat → Rat} {n : Nat} (hk : KF w v r n) (ho : ∀ k, k + 1 < n → o k ≤ o (k + 1)) : ∀ m, m + 1 ≤ n → sumTo (fun j => w j * (v j - r j) * (o j - r j)) (m + 1) ≤ sumTo (fun j => w j * (v j - r j)) (m + 1) * (o m - r m)
  | 0, _ => by
    show 0 + _ ≤ (0 + _) * _
    grind
  | m + 1, hm => by
    have ih := slope hk ho m (by omega)
    have s0 := hk.nn (m + 1) (by omega)
    have rr := hk.rise m (by omega)
    have t := hk.tight m (by omega)
    have oo := ho m (by omega)
    show sumTo (fun j => w j * (v j - r j) * (o j - r j)) (m + 1) + w (m + 1) * (v (m + 1) - r (m + 1)) * (o (m + 1) - r (m + 1)) ≤ (sumTo (fun j => w j * (v j - r j)) (m + 1) + w (m + 1) * (v (m + 1) - r (m + 1))) * (o (m + 1) - r (m + 1))
    generalize sumTo (fun j => w j * (v j - r j) * (o j - r j)) (m + 1) = A at *
    generalize sumTo (fun j => w j * (v j - r j)) (m + 1) = S at *
    generalize w (m + 1) * (v (m + 1) - r (m + 1)) = B at *
    have h1 : S * (o m - r m) ≤ S * (o (m + 1) - r (m + 1)) := by
      by_cases c : r m < r (m + 1)
      · rw [t c]; grind
      · exact mul_le_l s0 (by grind)
    grind
theorem dearF {w v r o : Nat → Rat} {n : Nat} (hk : KF w v r n) (ho : ∀ k, k + 1 < n → o k ≤ o (k + 1)) : sumTo (fun j => w j * ((o j - r j) * (o j - r j))) n ≤ sumTo (fun j => w j * ((o j - v j) * (o j - v j))) n - sumTo (fun j => w j * ((r j - v j) * (r j - v j))) n := by
  have e : ∀ m, sumTo (fun j => w j * ((o j - v j) * (o j - v j))) m - sumTo (fun j => w j * ((r j - v j) * (r j - v j))) m - sumTo (fun j => w j * ((o j - r j) * (o j - r j))) m = -2 * sumTo (fun j => w j * (v j - r j) * (o j - r j)) m := by
    intro m
    induction m with
    | zero => show (0 : Rat) - 0 - 0 = -2 * 0; grind
    | succ m ih =>
      show (sumTo _ m + _) - (sumTo _ m + _) - (sumTo _ m + _) = -2 * (sumTo _ m + _)
      grind
  have h : sumTo (fun j => w j * (v j - r j) * (o j - r j)) n ≤ 0 := by
    cases n with
    | zero => exact Rat.le_refl
    | succ n =>
      have := slope hk ho n (by omega)
      rw [hk.last] at this
      grind
  have := e n
  grind
def ownL (l : List Pr) (r : List Rat) : List Pr := (r.zip l).map fun q => (q.1, q.2.2)
theorem ownL_at {l : List Pr} {r : List Rat} (hl : r.length = l.length) {j : Nat} (hj : j < l.length) : vAt (ownL l r) j = rAt r j ∧ wAt (ownL l r) j = wAt l j := by
  obtain ⟨x, hx⟩ := get_of_lt hj
  obtain ⟨y, hy⟩ := get_of_lt (show j < r.length by omega)
  have e : (ownL l r)[j]? = some (y, x.2) := by
    unfold ownL
    rw [List.getElem?_map, (List.getElem?_zip_eq_some (z := (y, x))).mpr ⟨hy, hx⟩]
    rfl
  rw [vAt_of e, wAt_of e, rAt_of hy, wAt_of hx]
  exact ⟨rfl, rfl⟩
theorem dear {l : List Pr} {r o : List Rat} (hk : Kkt l r) (ho : risesB o = true) (hol : o.length = l.length) : costTo (ownL l r) o l.length ≤ costTo l o l.length - costTo l r l.length := by
  have kf := hk.kf
  have := dearF (o := rAt o) kf fun k hk' => risesB_iff.mp ho k _ _ (get_rAt (by omega)) (get_rAt (by omega))
  have e : costTo (ownL l r) o l.length = sumTo (fun j => wAt l j * ((rAt o j - rAt r j) * (rAt o j - rAt r j))) l.length := by
    refine sumTo_congr fun j hj => ?_
    obtain ⟨h1, h2⟩ := ownL_at hk.len hj
    rw [h1, h2]
  rw [e]
  exact this
theorem costTo_sz {l : List Pr} {r : List Rat} (hl : ∀ x, x ∈ l → Rsz 50000 x.1 ∧ Rsz 50000 x.2) (hr : ∀ x, x ∈ r → Rsz 50000 x) : ∀ {n : Nat}, n ≤ l.length → n ≤ r.length → Rsz (n * 250010 + 1) (costTo l r n)
  | 0, _, _ => sz_zero _ (by omega)
  | n + 1, h1, h2 => by
    have ih := costTo_sz hl hr (n := n) (by omega) (by omega)
    obtain ⟨x, hx⟩ := get_of_lt (show n < l.length by omega)
    obtain ⟨y, hy⟩ := get_of_lt (show n < r.length by omega)
    have s1 := hl x (List.mem_of_getElem? hx)
    have s2 := hr y (List.mem_of_getElem? hy)
    rw [costTo_succ, wAt_of hx, vAt_of hx, rAt_of hy]
    have s3 := s2.sub s1.1
    exact (ih.add (s1.2.mul (s3.mul s3))).mono (by omega)
/-- a comprehension over l.map c whose turns give things of which P holds -/
inductive LcE (K : PySem.W.Frag) (vs : List Nat) (g : TG) (te : TE) (Δ : List Ent) (Q : Rs → Prop) {α β : Type} (l : List α) (c : α → PyData) (f : β → PyData) (P : α → β → Prop) (ds : List PyData) : Prop
  | mk (he : ds = l.map c) (hl : l.length ≤ 100000) (hs : ∀ x, x ∈ l → WB K vs g (c x) (wipeE Δ vs) fun Δ2 => WE K te Δ2 fun r => ∃ y, r.d = f y ∧ P x y)
      (hd : ∀ ys : List β, ys.length = l.length → (∀ (i : Nat) x y, l[i]? = some x → ys[i]? = some y → P x y) → Q (.n (ys.map f)))
theorem we_lcE {K : PySem.W.Frag} {Δ : List Ent} {vs : List Nat} {wi : TI} {g : TG} {te : TE} {Q : Rs → Prop} {α β : Type} (l : List α) (c : α → PyData) (f : β → PyData) (P : α → β → Prop) (hw : ads (wipeE Δ vs) = ads Δ) (hw2 : pts (wipeE Δ vs) = pts Δ)
    (h : WIx K xw wi Δ fun ds => LcE K vs g te Δ Q l c f P ds) : WEx K xw (tLc wi g tYes te vs) Δ Q := by
  refine we_lc hw hw2 fun A H0 H σ E R k => h A H0 H σ E R fun J H' ds e E' ok ⟨h0, h1, h2, h3⟩ => k J H' ds e E' ok ⟨by rw [h0, List.length_map]; exact h1,
    fun i acc => i ≤ l.length ∧ ∃ ys : List β, acc = ys.map f ∧ ys.length = i ∧ ∀ (j : Nat) x y, l[j]? = some x → ys[j]? = some y → P x y, ⟨Nat.zero_le _, [], rfl, rfl, fun j x y _ h => by simp at h⟩, fun i d acc hd ⟨hi, ys, ha, hl, hp⟩ => ?_, fun acc _ ⟨hi, ys, ha, hl, hp⟩ => ?_⟩
  · subst h0
    obtain ⟨x, hx, rfl⟩ := get_map hd
    refine fun A H0 H σ v E hv Qh kk => h2 x (List.mem_of_getElem? hx) A H0 H σ v E hv Qh fun σ' Δ' a b c' e w => kk σ' Δ' a b c' e (wt_yes ?_)
    show WE K te Δ' _
    refine we_imp w fun r ⟨y, hr, py⟩ => ?_
    refine ⟨lt_of_get hx, ys ++ [y], ?_, by simp [hl], fun j x' y' g1 g2 => ?_⟩
    · rw [ha, hr, List.map_append]
      rfl
    · by_cases hj : j < ys.length
      · rw [List.getElem?_append_left hj] at g2
        exact hp j x' y' g1 g2
      · have hj2 : j = ys.length := by
          have := lt_of_get g2
          simp at this
          omega
        subst hj2
        rw [List.getElem?_append_right (Nat.le_refl _), Nat.sub_self] at g2
        rw [hl, hx] at g1
        cases g1
        cases (show some y = some y' from g2)
        exact py
  · rw [h0, List.length_map] at hl
    rw [ha]
    exact h3 ys hl hp
theorem rd_eqNil {K : PySem.W.Frag} {Q : Rs → Prop} {n : Nat} {xs : List PyData} (h : Pl n (.list xs)) (hn : n ≤ 64) (q : Q (.v (.bool xs.isEmpty))) : RD K (rEqD K) (.list xs) (.list []) Q := rd_eqD (h.shaped hn) ((pl_nil 0).shaped (by decide)) (by rw [eqv_nil]; exact q)
end DL

set_option Elab.async false
set_option linter.all false
set_option maxRecDepth 100000
/-! HP7: what is a whole number, what is a fraction, by data. -/
namespace DL
open PySem PySem.Spec PyProof.Rows L2 Evl RQ HP
variable {xw : Xw}
@[reducible] def isWh : PyData → Bool
  | .int _ => true
  | _ => false
def isFrac2 : PyData → PyData → Bool
  | .int a, .int b => decide (0 < b) && decide (Int.gcd a b = 1)
  | _, _ => false
def isFrac : PyData → Bool
  | .tuple [x, y] => isFrac2 x y
  | _ => false
theorem isFrac_q (q : Rat) : isFrac (qD q) = true := by
  show (decide (0 < (q.den : Int)) && decide (Int.gcd q.num (q.den : Int) = 1)) = true
  rw [Bool.and_eq_true, decide_eq_true_iff, decide_eq_true_iff]
  refine ⟨den_pos' q, ?_⟩
  have := q.reduced
  exact this
theorem isFrac_is {d : PyData} (h : isFrac d = true) : ∃ q : Rat, d = qD q := by
  unfold isFrac at h
  split at h
  · rename_i x y
    unfold isFrac2 at h
    split at h
    · rename_i a b
      rw [Bool.and_eq_true, decide_eq_true_iff, decide_eq_true_iff] at h
      refine ⟨Rat.divInt a b, ?_⟩
      rw [← qD_low h.1, h.2, show ((1 : Nat) : Int) = 1 from rfl, Int.ediv_one, Int.ediv_one]
    · cases h
  · cases h
theorem isWh_is {d : PyData} (h : isWh d = true) : ∃ a, d = .int a := by
  cases d with
  | int a => exact ⟨a, rfl⟩
  | none => cases h
  | bool b => cases h
  | str s => cases h
  | list l => cases h
  | tuple l => cases h
  | dict l => cases h
theorem pick_mem {ds : List PyData} {z : Int} (h0 : 0 ≤ z) (h1 : z < (ds.length : Int)) : ∃ d, atI ds z = some d ∧ d ∈ ds := by
  obtain ⟨k, rfl⟩ := Int.eq_ofNat_of_zero_le h0
  have hk : k < ds.length := by omega
  exact ⟨ds[k], atI_nat (List.getElem?_eq_getElem hk), List.getElem_mem hk⟩
theorem log_of_lt {n : Int} {k : Nat} (h : n.natAbs < 2 ^ k) (hk : k ≤ 1920) : n.natAbs.log2 < 1920 := by
  have h2 : n.natAbs < 2 ^ 1920 := Nat.lt_of_lt_of_le h (Nat.pow_le_pow_right (by decide) hk)
  by_cases e : n.natAbs = 0
  · rw [e]; decide
  · exact (Nat.log2_lt e).mpr h2
theorem tell_q {q : Rat} {k : Nat} (h : Rsz k q) (hk : k ≤ 1920) : tellable (qD q) = true := by
  have h1 := log_of_lt h.1 hk
  have h2 := log_of_lt h.den hk
  simp only [qD, tellable, tellables, Bool.and_true, Bool.and_eq_true, decide_eq_true_eq]
  exact ⟨h1, h2⟩
theorem rd_neS {K : PySem.W.Frag} {Q : Rs → Prop} {i j : Str} (q : Q (.v (.bool (!decide (i = j))))) : RD K rNe (.str i) (.str j) Q := fun A H v1 v2 h1 h2 _ Qh k => by
  cases h1; cases h2
  refine ⟨rfl, k _ H (.v _) ex_id (Dp.bl _) ?_⟩
  have e : decide ((V.str i) = V.str j) = decide (i = j) := by
    by_cases h : i = j
    · subst h; simp
    · simp [h]
  rw [e]
  exact q
theorem rd_eqS {K : PySem.W.Frag} {Q : Rs → Prop} {i j : Str} (q : Q (.v (.bool (decide (i = j))))) : RD K rEq (.str i) (.str j) Q := fun A H v1 v2 h1 h2 _ Qh k => by
  cases h1; cases h2
  refine ⟨rfl, k _ H (.v _) ex_id (Dp.bl _) ?_⟩
  have e : decide ((V.str i) = V.str j) = decide (i = j) := by
    by_cases h : i = j
    · subst h; simp
    · simp [h]
  rw [e]
  exact q
theorem nodes_q (q : Rat) : nodes (qD q) = 3 := by simp [qD, nodes, nodesAll]
end DL

set_option Elab.async false
set_option linter.all false
set_option maxRecDepth 100000
/-! HP8: mixed items, their costs; bent rows. -/
namespace DL
open PySem PySem.Spec PyProof.Rows L2 Evl RQ HP
variable {xw : Xw}
abbrev Mx := Rat × Rat × Rat × Rat
def mxD (m : Mx) : PyData := .tuple [qD m.1, qD m.2.1, qD m.2.2.1, qD m.2.2.2]
def mix (p : Pr) : Mx := (p.1, p.2, 0, 0)
def costM (m : Mx) (x : Rat) : Rat := if 0 < x - m.1 then m.2.1 * ((x - m.1) * (x - m.1)) / 2 + m.2.2.1 * (x - m.1) else m.2.1 * ((x - m.1) * (x - m.1)) / 2 - m.2.2.2 * (x - m.1)
theorem costM_mix (p : Pr) (x : Rat) : costM (mix p) x = p.2 * ((x - p.1) * (x - p.1)) / 2 := by
  unfold costM mix
  split <;> grind
def qsum (l : List Rat) : Rat := sumTo (rAt l) l.length
theorem sumTo_half {f g : Nat → Rat} {n : Nat} (h : ∀ j, j < n → g j = f j / 2) : sumTo g n = sumTo f n / 2 := by
  rw [sumTo_scale (c := 1 / 2) (f := f) fun j hj => by rw [h j hj]; grind]
  grind
theorem costs_sum {l : List Pr} {r : List Rat} (hl : r.length = l.length) : qsum ((l.zip r).map fun q => costM (mix q.1) q.2) = costTo l r l.length / 2 := by
  unfold qsum
  have e : ((l.zip r).map fun q => costM (mix q.1) q.2).length = l.length := by rw [List.length_map, List.length_zip]; omega
  rw [e]
  refine sumTo_half fun j hj => ?_
  obtain ⟨x, hx⟩ := get_of_lt hj
  obtain ⟨y, hy⟩ := get_of_lt (show j < r.length by omega)
  rw [wAt_of hx, vAt_of hx, rAt_of hy, rAt_of (x := costM (mix x) y) (by rw [List.getElem?_map, (List.getElem?_zip_eq_some (z := (x, y))).mpr ⟨hx, hy⟩]; rfl), costM_mix]
def fallR (l : List Pr) : List Rat := (near (opp l)).map fun x => -x
theorem fallR_len {l : List Pr} (hp : Pos l) : (fallR l).length = l.length := by
  unfold fallR
  rw [List.length_map, near_len (opp_pos hp), opp_len]
def bentR (l : List Pr) (k : Nat) : List Rat := near (l.take k) ++ fallR (l.drop k)
theorem pos_take {l : List Pr} (h : Pos l) (k : Nat) : Pos (l.take k) := fun x hx => h x (List.mem_of_mem_take hx)
theorem pos_drop {l : List Pr} (h : Pos l) (k : Nat) : Pos (l.drop k) := fun x hx => h x (List.mem_of_mem_drop hx)
theorem Gp.take {l : List Pr} (h : Gp l) (k : Nat) : Gp (l.take k) := ⟨pos_take h.pos k, by have := h.few; rw [List.length_take]; omega, fun x hx => h.sz x (List.mem_of_mem_take hx)⟩
theorem Gp.drop {l : List Pr} (h : Gp l) (k : Nat) : Gp (l.drop k) := ⟨pos_drop h.pos k, by have := h.few; rw [List.length_drop]; omega, fun x hx => h.sz x (List.mem_of_mem_drop hx)⟩
theorem bentR_len {l : List Pr} (hp : Pos l) (k : Nat) : (bentR l k).length = l.length := by
  unfold bentR
  rw [List.length_append, near_len (pos_take hp k), fallR_len (pos_drop hp k), ← List.length_append, List.take_append_drop]
def bentC (l : List Pr) (k : Nat) : Rat := costTo l (bentR l k) l.length / 2
theorem costTo_app {l1 l2 : List Pr} {r1 r2 : List Rat} (h1 : r1.length = l1.length) (h2 : r2.length = l2.length) : costTo (l1 ++ l2) (r1 ++ r2) (l1 ++ l2).length = costTo l1 r1 l1.length + costTo l2 r2 l2.length := by
  have a1 : costTo (l1 ++ l2) (r1 ++ r2) l1.length = costTo l1 r1 l1.length := by
    refine sumTo_congr fun j hj => ?_
    obtain ⟨x, hx⟩ := get_of_lt hj
    obtain ⟨y, hy⟩ := get_of_lt (show j < r1.length by omega)
    rw [wAt_of hx, vAt_of hx, rAt_of hy, wAt_of (x := x) (by rw [List.getElem?_append_left hj]; exact hx), vAt_of (x := x) (by rw [List.getElem?_append_left hj]; exact hx), rAt_of (x := y) (by rw [List.getElem?_append_left (by omega)]; exact hy)]
  have a2 : ∀ n, n ≤ l2.length → costTo (l1 ++ l2) (r1 ++ r2) (l1.length + n) = costTo l1 r1 l1.length + costTo l2 r2 n := by
    intro n
    induction n with
    | zero => intro _; rw [Nat.add_zero, a1]; show _ = _ + (0 : Rat); grind
    | succ n ih =>
      intro hn
      have := ih (by omega)
      rw [← Nat.add_assoc, costTo_succ, this, costTo_succ]
      obtain ⟨x, hx⟩ := get_of_lt (show n < l2.length by omega)
      obtain ⟨y, hy⟩ := get_of_lt (show n < r2.length by omega)
      have e1 : (l1 ++ l2)[l1.length + n]? = some x := by rw [List.getElem?_append_right (by omega), show l1.length + n - l1.length = n by omega]; exact hx
      have e2 : (r1 ++ r2)[l1.length + n]? = some y := by rw [List.getElem?_append_right (by omega), show l1.length + n - r1.length = n by omega]; exact hy
      rw [wAt_of hx, vAt_of hx, rAt_of hy, wAt_of e1, vAt_of e1, rAt_of e2]
      grind
  rw [List.length_append]
  exact a2 l2.length (Nat.le_refl _)
theorem bentC_is {l : List Pr} (hp : Pos l) (k : Nat) : bentC l k = costTo (l.take k) (near (l.take k)) (l.take k).length / 2 + costTo (l.drop k) (fallR (l.drop k)) (l.drop k).length / 2 := by
  have := costTo_app (l1 := l.take k) (l2 := l.drop k) (near_len (pos_take hp k)) (fallR_len (pos_drop hp k))
  rw [List.take_append_drop] at this
  unfold bentC bentR
  rw [this]
  grind
/-- the least cost among the first splits -/
def bst (l : List Pr) : Nat → Rat
  | 0 => bentC l 0
  | i + 1 => if bentC l i < bst l i then bentC l i else bst l i
theorem bst_le {l : List Pr} : ∀ {n k : Nat}, k < n → bst l n ≤ bentC l k
  | 0, _, h => by omega
  | n + 1, k, h => by
    unfold bst
    by_cases c : k = n
    · subst c; split <;> grind
    · have := bst_le (l := l) (n := n) (k := k) (by omega)
      split <;> grind
theorem bst_is {l : List Pr} : ∀ {n : Nat}, ∃ k, (k < n ∨ k = 0) ∧ bst l n = bentC l k
  | 0 => ⟨0, .inr rfl, rfl⟩
  | n + 1 => by
    unfold bst
    split
    · exact ⟨n, .inl (by omega), rfl⟩
    · obtain ⟨k, h, e⟩ := bst_is (l := l) (n := n)
      exact ⟨k, by omega, e⟩
def best (l : List Pr) : Rat := bst l (l.length + 1)
def fB (l : List Pr) (b : Rat) : Nat → List (Nat × List Rat)
  | 0 => []
  | i + 1 => if bentC l i = b ∧ bentR l i ∉ (fB l b i).map (·.2) then fB l b i ++ [(i, bentR l i)] else fB l b i
def bent (l : List Pr) : List (Nat × List Rat) := fB l (best l) (l.length + 1)
def nrD (q : Nat × List Rat) : PyData := .tuple [.int (q.1 : Int), .list (q.2.map qD)]
theorem fB_len {l : List Pr} {b : Rat} : ∀ n, (fB l b n).length ≤ n
  | 0 => Nat.le_refl _
  | n + 1 => by
    have := fB_len (l := l) (b := b) n
    unfold fB
    split
    · rw [List.length_append]; exact Nat.succ_le_succ this
    · omega
theorem fB_mem {l : List Pr} {b : Rat} : ∀ {n : Nat} {q : Nat × List Rat}, q ∈ fB l b n → q.1 < n ∧ q.2 = bentR l q.1 ∧ bentC l q.1 = b
  | 0, q, h => by cases h
  | n + 1, q, h => by
    unfold fB at h
    split at h
    · rename_i c
      rcases List.mem_append.mp h with h | h
      · have := fB_mem h; exact ⟨by omega, this.2⟩
      · rw [List.mem_singleton.mp h]; exact ⟨by show n < n + 1; omega, rfl, c.1⟩
    · have := fB_mem h; exact ⟨by omega, this.2⟩
theorem fB_has {l : List Pr} {b : Rat} : ∀ {n k : Nat}, k < n → bentC l k = b → bentR l k ∈ (fB l b n).map (·.2)
  | 0, _, h, _ => by omega
  | n + 1, k, h, e => by
    unfold fB
    by_cases c : k = n
    · subst c
      by_cases d : bentR l k ∈ (fB l b k).map (·.2)
      · rw [if_neg fun z => z.2 d]; exact d
      · rw [if_pos ⟨e, d⟩, List.map_append]; exact List.mem_append_right _ (by simp)
    · have := fB_has (n := n) (show k < n by omega) e
      split
      · rw [List.map_append]; exact List.mem_append_left _ this
      · exact this
theorem fB_nodup {l : List Pr} {b : Rat} : ∀ n, ((fB l b n).map (·.2)).Nodup
  | 0 => List.nodup_nil
  | n + 1 => by
    have := fB_nodup (l := l) (b := b) n
    unfold fB
    split
    · rename_i c
      rw [List.map_append, List.nodup_append]
      refine ⟨this, by simp, fun x hx y hy e => ?_⟩
      rw [List.map_cons, List.map_nil, List.mem_singleton] at hy
      subst e
      subst hy
      exact c.2 hx
    · exact this
/-- the same splits, by a map of the rows and a scale of the costs -/
theorem bst_map {l m : List Pr} {a : Rat} (ha : 0 < a) : ∀ {n : Nat}, (∀ k, k < n ∨ k = 0 → bentC m k = a * bentC l k) → bst m n = a * bst l n
  | 0, h => h 0 (.inr rfl)
  | n + 1, h => by
    have ih := bst_map ha (n := n) fun k hk => h k (by omega)
    unfold bst
    rw [ih, h n (by omega)]
    by_cases c : bentC l n < bst l n
    · rw [if_pos c, if_pos (Rat.mul_lt_mul_of_pos_left c ha)]
    · rw [if_neg c, if_neg fun z => c (Rat.lt_of_mul_lt_mul_left z (Rat.le_of_lt ha))]
theorem fB_map {l m : List Pr} {a b : Rat} {f : List Rat → List Rat} (ha : 0 < a) (hf : ∀ x y, f x = f y → x = y) : ∀ {n : Nat}, (∀ k, k < n → bentC m k = a * bentC l k ∧ bentR m k = f (bentR l k)) → fB m (a * b) n = (fB l b n).map fun q => (q.1, f q.2)
  | 0, _ => rfl
  | n + 1, h => by
    have ih := fB_map ha hf (n := n) (b := b) fun k hk => h k (by omega)
    obtain ⟨h1, h2⟩ := h n (by omega)
    unfold fB
    have e : ((fB m (a * b) n).map (·.2)) = ((fB l b n).map (·.2)).map f := by rw [ih, List.map_map, List.map_map]; rfl
    have c1 : bentC m n = a * b ↔ bentC l n = b := by
      rw [h1]
      constructor
      · intro z
        exact Rat.le_antisymm (Rat.le_of_mul_le_mul_left (by rw [z]; exact Rat.le_refl) ha) (Rat.le_of_mul_le_mul_left (by rw [z]; exact Rat.le_refl) ha)
      · intro z; rw [z]
    have c2 : bentR m n ∈ (fB m (a * b) n).map (·.2) ↔ bentR l n ∈ (fB l b n).map (·.2) := by
      rw [e, h2]
      constructor
      · intro z
        obtain ⟨x, hx, he⟩ := List.mem_map.mp z
        rw [← hf _ _ he]; exact hx
      · intro z; exact List.mem_map_of_mem z
    by_cases c : bentC l n = b ∧ bentR l n ∉ (fB l b n).map (·.2)
    · rw [if_pos c, if_pos ⟨c1.mpr c.1, fun z => c.2 (c2.mp z)⟩, ih, List.map_append, h2]
      rfl
    · rw [if_neg c, if_neg fun z => c ⟨c1.mp z.1, fun y => z.2 (c2.mpr y)⟩, ih]
/-- a statement, then what holds behind it, then the rest -/
theorem ws_cut {K : PySem.W.Frag} {Δ : List Ent} {P : Post} {ts tr : TS} (J : List Ent → Prop) (h : WSx K xw ts Δ { P with nx := J }) (k : ∀ Δ', J Δ' → WSx K xw tr Δ' P) : WSx K xw (tSeq ts tr) Δ P :=
  ws_seq fun A H0 H σ D E n r b c => h A H0 H σ D E (fun H' σ' Δ' E' j => n H' σ' Δ' E' (k Δ' j)) r b c
end DL

set_option Elab.async false
set_option linter.all false
set_option maxRecDepth 100000
/-! ZL: list(zip(a, b)). -/
namespace DL
open PySem PySem.Spec PyProof.Rows L2 Evl
theorem adN {a b : Nat} (h : a ≠ b) : @Ne Addr a b := h
theorem zip_no_len : typeLookup (.type "zip") "__len__" = pure none := by rw [typeLookup_type, builtinLookup_eq_fast]; kernel_rfl
theorem zip_no_hint : typeLookup (.type "zip") "__length_hint__" = pure none := by rw [typeLookup_type, builtinLookup_eq_fast]; kernel_rfl
/-- the list that is filled, and the pairs that were made for it -/
structure ZlE (h0 h : Heap) (N : Nat) (xs ys : Array Value) (as : List Nat) : Prop where
  st : ∃ acc c, h.get? (N + 5) = some { cls := .type "list", dict := none, data := .seq acc c, slots := #[] } ∧ acc.toList = as.map Value.ref
  rise : as.Pairwise (· < ·)
  tup : ∀ (j t : Nat), as[j]? = some t → N + 5 < t ∧ ∃ x y, xs[j]? = some x ∧ ys[j]? = some y ∧ PySem.IsPair h t x y
  keep : ∀ (b : Nat) o, h0.get? b = some o → h.get? b = some o
/-- how all stands ahead of a turn -/
structure ZlS (h0 h : Heap) (N l1 l2 : Nat) (xs ys : Array Value) (as : List Nat) : Prop extends ZlE h0 h N xs ys as where
  zp : (PySem.IsZip h (N + 4) (N + 2) (N + 3) .none ∧ ∃ x y, PySem.IsPair h (N + 3) x y) ∨ ∃ (T : Nat) (f : Bool) (oT : Obj), PySem.IsZipHeld h (N + 4) (N + 2) (N + 3) T f ∧ h.get? T = some oT ∧ N + 5 < T
  ti : PySem.IsPair h (N + 2) (.ref N) (.ref (N + 1))
  j1 : h.IsListIter N l1 as.length
  j2 : h.IsListIter (N + 1) l2 as.length
section
variable {prog : Program} {w : World} {A : Around} {R : Result → Shared → Prop} {h0 : Heap} {N l1 l2 : Nat} {xs ys : Array Value}
theorem ZlE.after {h h' : Heap} {as : List Nat} (e : ZlE h0 h N xs ys as) (hN : h0.objs.size = N) (hk : ∀ (c : Nat) o, c ≠ N + 4 → c ≠ N + 3 → c ≠ N → c ≠ N + 1 → h.get? c = some o → h'.get? c = some o) : ZlE h0 h' N xs ys as := by
  refine ⟨?_, e.rise, fun j t ht => ?_, fun b o hb => ?_⟩
  · obtain ⟨acc, c, h1, h2⟩ := e.st
    exact ⟨acc, c, hk _ _ (adN (by omega)) (adN (by omega)) (adN (by omega)) (adN (by omega)) h1, h2⟩
  · obtain ⟨lt, x, y, h1, h2, h3⟩ := e.tup j t ht
    exact ⟨lt, x, y, h1, h2, hk _ _ (adN (by omega)) (adN (by omega)) (adN (by omega)) (adN (by omega)) h3⟩
  · have : (b : Nat) < h0.objs.size := Heap.lt_size hb
    exact hk _ _ (adN (by omega)) (adN (by omega)) (adN (by omega)) (adN (by omega)) (e.keep b o hb)
/-- one turn: the new pair is put behind -/
theorem ZlS.next {h h' : Heap} {as : List Nat} {x y : Value} {f : Bool} {T0 : Nat} (e : ZlS h0 h N l1 l2 xs ys as) (hN : h0.objs.size = N) (hx : xs[as.length]? = some x) (hy : ys[as.length]? = some y)
    (hz : PySem.IsZipHeld h' (N + 4) (N + 2) (N + 3) T0 f) (hT0 : T0 = h.objs.size ∨ (N + 5 < T0 ∧ ∃ oT, h.get? T0 = some oT)) (h1 : h'.IsListIter N l1 (as.length + 1)) (h2 : h'.IsListIter (N + 1) l2 (as.length + 1)) (hp : PySem.IsPair h' h.objs.size x y)
    (hk : ∀ (c : Nat) o, c ≠ N + 4 → c ≠ N + 3 → c ≠ N → c ≠ N + 1 → h.get? c = some o → h'.get? c = some o) : ZlS h0 (h'.update (N + 5) (Obj.mapSeq (·.push (.ref h.objs.size)))) N l1 l2 xs ys (as ++ [h.objs.size]) := by
  obtain ⟨acc, c, hS, hacc⟩ := (e.toZlE.after hN hk).st
  have hlt : N + 5 < h.objs.size := by
    obtain ⟨acc, c, hS, _⟩ := e.st
    exact Heap.lt_size hS
  have oth : ∀ (b : Nat) o, b ≠ N + 5 → h'.get? b = some o → (h'.update (N + 5) (Obj.mapSeq (·.push (.ref h.objs.size)))).get? b = some o := fun b o hb q => (Heap.get?_update_other _ _ (Ne.symm hb)).trans q
  have ea := e.toZlE.after hN hk
  refine { st := ?_, rise := ?_, tup := ?_, keep := ?_, zp := ?_, ti := ?_, j1 := ?_, j2 := ?_ }
  · refine ⟨acc.push (.ref h.objs.size), _, Heap.get?_update_self _ hS rfl, ?_⟩
    rw [Array.toList_push, hacc, List.map_append]
    rfl
  · rw [List.pairwise_append]
    refine ⟨e.rise, List.pairwise_singleton _ _, fun a ha b hb => ?_⟩
    rw [List.mem_singleton.mp hb]
    obtain ⟨j, hj⟩ := List.mem_iff_getElem?.mp ha
    obtain ⟨_, _, _, _, _, q⟩ := e.tup j a hj
    exact Heap.lt_size q
  · intro j t ht
    by_cases hj : j < as.length
    · rw [List.getElem?_append_left hj] at ht
      obtain ⟨lt, x, y, q1, q2, q3⟩ := ea.tup j t ht
      exact ⟨lt, x, y, q1, q2, oth _ _ (adN (by omega)) q3⟩
    · have hl := (List.getElem?_eq_some_iff.mp ht).1
      rw [List.length_append, List.length_singleton] at hl
      have hj2 : j = as.length := by omega
      subst hj2
      rw [List.getElem?_append_right (Nat.le_refl _), Nat.sub_self] at ht
      cases (show some h.objs.size = some t from ht)
      exact ⟨hlt, x, y, hx, hy, oth _ _ (adN (by omega)) hp⟩
  · intro b o hb
    have : (b : Nat) < h0.objs.size := Heap.lt_size hb
    exact oth _ _ (adN (by omega)) (ea.keep b o hb)
  · refine .inr ⟨T0, f, ?_⟩
    rcases hT0 with rfl | ⟨lt, oT, hoT⟩
    · exact ⟨_, oth _ _ (adN (by omega)) hz, oth _ _ (adN (by omega)) hp, hlt⟩
    · exact ⟨oT, oth _ _ (adN (by omega)) hz, oth _ _ (adN (by omega)) (hk _ _ (adN (by omega)) (adN (by omega)) (adN (by omega)) (adN (by omega)) hoT), lt⟩
  · exact oth _ _ (adN (by omega)) (hk _ _ (adN (by omega)) (adN (by omega)) (adN (by omega)) (adN (by omega)) e.ti)
  · rw [List.length_append, List.length_singleton]
    exact h1.at fun o q => oth _ _ (adN (by omega)) q
  · rw [List.length_append, List.length_singleton]
    exact h2.at fun o q => oth _ _ (adN (by omega)) q
theorem zl_drain (hh : A.handled = none) (hN : h0.objs.size = N) (p1 : h0.IsList l1 xs) (p2 : h0.IsList l2 ys) (b1 : l1 < N) (b2 : l2 < N) (hz : xs.size ≤ sizeLine) (res : Value) :
    ∀ (k : Nat) (s : Shared) (as : List Nat), min xs.size ys.size = as.length + k → ZlS h0 s.heap N l1 l2 xs ys as →
      (∀ h' as', as'.length = min xs.size ys.size → ZlE h0 h' N xs ys as' → R (.ok (.ret res)) { s with heap := h' }) →
      codeAny (model prog w) A (.builtin "list.extend.loop" ⟨[.ref (N + 5), .ref (N + 4), res], []⟩) R s := by
  have D := PySem.W.ktu_apart N l1 l2 b1 b2
  intro k
  induction k with
  | zero =>
    intro s as hn e hR
    refine codeAny_builtin F.entry_extend_loop ?_
    rw [Around.under_plainId F.plain_extend_loop _]
    show wpAny _ A.in1 (pyNext (.ref (N + 4)) >>= _) _ _ s
    have m1 : s.heap.IsList l1 xs := p1.at fun o q => e.keep _ _ q
    have m2 : s.heap.IsList l2 ys := p2.at fun o q => e.keep _ _ q
    have he : xs[as.length]? = none ∨ ys[as.length]? = none := by
      have : xs.size ≤ as.length ∨ ys.size ≤ as.length := by omega
      rcases this with q | q
      · exact .inl (by simp; omega)
      · exact .inr (by simp; omega)
    rcases e.zp with ⟨z1, x, y, z2⟩ | ⟨T, f, oT, z1, z2, z3⟩
    · exact wpAny_bind (wpAny_pyNext_zip_end (A := A.in1) hh D z1 e.ti z2 e.j1 e.j2 m1 m2 he fun h' hk => wpAny_pure (hR h' as (by omega) (e.toZlE.after hN fun c o c1 c2 c3 c4 q => hk c o c1 c2 c3 c4 q)))
    · exact wpAny_bind (wpAny_pyNext_zip_end_held (A := A.in1) hh D z1 z2 e.ti e.j1 e.j2 m1 m2 he fun h' hk => wpAny_pure (hR h' as (by omega) (e.toZlE.after hN fun c o c1 c2 c3 c4 q => hk c o c1 c3 c4 q)))
  | succ k ih =>
    intro s as hn e hR
    refine codeAny_builtin F.entry_extend_loop ?_
    rw [Around.under_plainId F.plain_extend_loop _]
    show wpAny _ A.in1 (pyNext (.ref (N + 4)) >>= _) _ _ s
    have m1 : s.heap.IsList l1 xs := p1.at fun o q => e.keep _ _ q
    have m2 : s.heap.IsList l2 ys := p2.at fun o q => e.keep _ _ q
    obtain ⟨x, hx⟩ : ∃ x, xs[as.length]? = some x := ⟨xs[as.length]'(by omega), Array.getElem?_eq_getElem _⟩
    obtain ⟨y, hy⟩ : ∃ y, ys[as.length]? = some y := ⟨ys[as.length]'(by omega), Array.getElem?_eq_getElem _⟩
    rcases e.zp with ⟨z1, a, b, z2⟩ | ⟨T, f, oT, z1, z2, z3⟩
    · refine wpAny_bind (wpAny_pyNext_zip_item (A := A.in1) D z1 e.ti z2 e.j1 e.j2 m1 m2 hx hy fun h' z' TO' h1' h2' hT hsz hk => ?_)
      have n1 := e.next hN hx hy z' (.inl rfl) h1' h2' hT fun c o c1 c2 c3 c4 q => hk c o c1 c2 c3 c4 q
      have n2 := e.toZlE.after hN fun c o c1 c2 c3 c4 q => hk c o c1 c2 c3 c4 q
      obtain ⟨acc, c, hS, hacc⟩ := n2.st
      have hsz : acc.size = as.length := by rw [← Array.length_toList, hacc, List.length_map]
      show wpAny _ A.in1 (updateSeq (N + 5) (·.push (.ref s.heap.objs.size)) >>= _) _ _ _
      refine wpAny_bind ?_
      refine wpAny_updateSeq hS rfl (wpAny_pure ⟨plainId_quiet F.plain_extend_loop _, ih _ _ (by rw [List.length_append, List.length_singleton]; omega) n1 (fun h'' as' q1 q2 => hR h'' as' q1 q2)⟩) (by omega) (by show (acc.push _).size ≤ sizeLine + 1; rw [Array.size_push]; omega)
    · refine wpAny_bind (wpAny_pyNext_zip_item_held (A := A.in1) D z1 z2 e.ti e.j1 e.j2 m1 m2 hx hy fun h' z' h1' h2' hT hsz hk => ?_)
      have n1 := e.next hN hx hy z' (.inr ⟨z3, oT, z2⟩) h1' h2' hT fun c o c1 c2 c3 c4 q => hk c o c1 c3 c4 q
      have n2 := e.toZlE.after hN fun c o c1 c2 c3 c4 q => hk c o c1 c3 c4 q
      obtain ⟨acc, c, hS, hacc⟩ := n2.st
      have hsz : acc.size = as.length := by rw [← Array.length_toList, hacc, List.length_map]
      show wpAny _ A.in1 (updateSeq (N + 5) (·.push (.ref s.heap.objs.size)) >>= _) _ _ _
      refine wpAny_bind ?_
      refine wpAny_updateSeq hS rfl (wpAny_pure ⟨plainId_quiet F.plain_extend_loop _, ih _ _ (by rw [List.length_append, List.length_singleton]; omega) n1 (fun h'' as' q1 q2 => hR h'' as' q1 q2)⟩) (by omega) (by show (acc.push _).size ≤ sizeLine + 1; rw [Array.size_push]; omega)
theorem call_list_zip {s : Shared} {Q : Value → Shared → Prop} {E : Value → Shared → Prop} (hh : A.handled = none) (hN : h0.objs.size = N) (hsN : s.heap.objs.size = N + 5) (p1 : h0.IsList l1 xs) (p2 : h0.IsList l2 ys) (b1 : l1 < N) (b2 : l2 < N) (hz : xs.size ≤ sizeLine)
    (z1 : PySem.IsZip s.heap (N + 4) (N + 2) (N + 3) .none) (z2 : ∃ x y, PySem.IsPair s.heap (N + 3) x y) (ti : PySem.IsPair s.heap (N + 2) (.ref N) (.ref (N + 1))) (j1 : s.heap.IsListIter N l1 0) (j2 : s.heap.IsListIter (N + 1) l2 0) (hk : ∀ (b : Nat) o, h0.get? b = some o → s.heap.get? b = some o)
    (hQ : ∀ h' as', as'.length = min xs.size ys.size → ZlE h0 h' N xs ys as' → Q (.ref (N + 5)) { s with heap := h' }) :
    wpAny (model prog w) A (call (.type "list") [.ref (N + 4)]) Q E s := by
  refine callType_codes (Q₁ := fun obj s₁ => obj = .ref s.heap.objs.size ∧ s₁ = { s with heap := s.heap.push { cls := .type "list", data := .seq #[] } }) F.called_list (F.typeCall_list_1 _) F.entry_list_init
    (code_list_new _ ⟨rfl, rfl⟩) fun obj s₁ h₁ => ?_
  obtain ⟨rfl, rfl⟩ := h₁
  have hS : (s.heap.push { cls := .type "list", data := .seq #[] }).get? s.heap.objs.size = some { cls := .type "list", data := .seq #[] } := Heap.get?_push_size _ rfl
  refine ⟨⟨_, hS, rfl⟩, F.args_list_init_2 _ _, ?_⟩
  show wpAny _ A.in1.in1 (do let old ← Builtin.List.listItems (.ref s.heap.objs.size); Builtin.List.listUpdate (.ref s.heap.objs.size) (fun _ => #[]); letGo old.toList.reverse; Builtin.List.listExtendWith (.ref s.heap.objs.size) (.ref (N + 4)) .none) _ _ _
  rw [hsN] at hS ⊢
  refine wpAny_bind ?_
  unfold Builtin.List.listItems
  refine wpAny_bind (wpAny_seqItems hS rfl (wpAny_pure ?_))
  show wpAny _ A.in1.in1 (updateSeq (N + 5) (fun _ => #[]) >>= fun _ => letGo (#[] : Array Value).toList.reverse >>= fun _ => Builtin.List.listExtendWith (.ref (N + 5)) (.ref (N + 4)) .none) _ _ _
  refine wpAny_bind (wpAny_updateSeq hS rfl ?_)
  have hS2 := Heap.get?_update_self (Obj.mapSeq (fun _ => (#[] : Array Value))) hS rfl
  refine wpAny_bind (wpAny_letGo ?_)
  unfold Builtin.List.listExtendWith
  have up : ∀ (h : Heap) (f : Obj → Obj), (∀ (b : Nat) o, s.heap.get? b = some o → h.get? b = some o) → ∀ (b : Nat) o, s.heap.get? b = some o → (h.update (N + 5) f).get? b = some o := fun h f q b o e => by
    have : (b : Nat) < s.heap.objs.size := Heap.lt_size e
    exact (Heap.get?_update_other _ _ (adN (by omega))).trans (q b o e)
  have k1 : ∀ (b : Nat) o, s.heap.get? b = some o → (s.heap.push { cls := .type "list", data := .seq #[] }).get? b = some o := fun b o e => Heap.get?_push_of_some _ e
  have k2 := up _ (Obj.mapSeq (fun _ => (#[] : Array Value))) k1
  refine wpAny_bind (wpAny_typeOf (T := "zip") ⟨_, k2 _ _ z1, rfl⟩ ?_)
  have h1 : Builtin.List.listSameRef (.ref (N + 5)) (.ref (N + 4)) = false := by simp [Builtin.List.listSameRef]
  have h2 : (Value.type "zip" == Value.type "list") = false := by decide
  have h3 : (Value.type "zip" == Value.type "tuple") = false := by decide
  simp only [h1, h2, h3, Bool.or_false, Bool.false_eq_true, if_false]
  refine wpAny_bind (wpAny_pyIter_zip (k2 _ _ z1) ?_)
  refine wpAny_bind (wpAny_holding ?_)
  unfold Builtin.List.listLengthHint
  refine wpAny_bind (wpAny_specialOf (T := "zip") ⟨_, k2 _ _ z1, rfl⟩ zip_no_len ?_)
  show wpAny _ A.in1.in1 (specialOf (Value.ref (N + 4)) (Str.ofString "__length_hint__") >>= _) _ _ _
  refine wpAny_bind (wpAny_specialOf (T := "zip") ⟨_, k2 _ _ z1, rfl⟩ zip_no_hint ?_)
  refine wpAny_pure ?_
  show wpAny _ A.in1.in1 (rule "list.extend.makes-room" >>= fun _ => Builtin.List.listTouch (.ref (N + 5)) >>= fun _ =>
    again (.builtin "list.extend.loop" ⟨[.ref (N + 5), .ref (N + 4), .none], []⟩)) _ _ _
  refine wpAny_bind (wpAny_rule ?_)
  refine wpAny_bind ?_
  show wpAny _ A.in1.in1 (updateSeq (N + 5) (·.push .none) >>= fun _ => updateSeq (N + 5) (·.pop)) _ _ _
  refine wpAny_bind (wpAny_updateSeq hS2 rfl ?_)
  have hS3 := Heap.get?_update_self (Obj.mapSeq (·.push Value.none)) hS2 rfl
  refine wpAny_updateSeq (hz := by seq_fits) hS3 rfl ?_
  have hS4 := Heap.get?_update_self (Obj.mapSeq (·.pop)) hS3 rfl
  have k4 := up _ (Obj.mapSeq (·.pop)) (up _ (Obj.mapSeq (·.push Value.none)) k2)
  refine wpAny_pure ⟨plainId_quiet F.plain_extend_loop _, ?_⟩
  obtain ⟨x, y, z2⟩ := z2
  refine zl_drain (A := A.in1) hh hN p1 p2 b1 b2 hz .none (min xs.size ys.size) _ [] (by simp) { st := ⟨_, _, hS4, rfl⟩, rise := List.Pairwise.nil, tup := fun j t ht => (by cases ht), keep := fun b o q => k4 b o (hk b o q), zp := .inl ⟨k4 _ _ z1, x, y, k4 _ _ z2⟩, ti := k4 _ _ ti, j1 := j1.at fun o q => k4 _ _ q, j2 := j2.at fun o q => k4 _ _ q } fun h' as' q1 q2 => ?_
  exact ⟨rfl, hQ h' as' q1 q2⟩
end
/-- the pairs tracked at their addresses -/
def putP : Hp → List Addr → List (V × V) → Hp
  | H, a :: as, p :: kvs => putP (upd H a (.tup [p.1, p.2])) as kvs
  | H, _, _ => H
theorem putP_off {b : Addr} : ∀ (as : List Addr) (kvs : List (V × V)) (H : Hp), b ∉ as → putP H as kvs b = H b
  | [], _, _, _ => rfl
  | _ :: _, [], _, _ => rfl
  | a :: as, p :: kvs, H, h => by
    show putP (upd H a (.tup [p.1, p.2])) as kvs b = H b
    rw [putP_off as kvs _ (fun z => h (List.mem_cons_of_mem _ z)), upd_ne (fun z => h (by rw [z]; exact List.mem_cons_self))]
theorem putP_at : ∀ (as : List Addr) (kvs : List (V × V)) (H : Hp), as.length = kvs.length → as.Nodup → ∀ (j : Nat) t, as[j]? = some t → ∃ q, kvs[j]? = some q ∧ putP H as kvs t = some (.tup [q.1, q.2])
  | [], _, _, _, _, j, t, ht => by cases ht
  | _ :: _, [], _, h, _, _, _, _ => by cases h
  | a :: as, p :: kvs, H, h, hn, j, t, ht => by
    have hn' := List.nodup_cons.mp hn
    cases j with
    | zero =>
      cases (show some a = some t from ht)
      refine ⟨p, rfl, ?_⟩
      show putP (upd H a (.tup [p.1, p.2])) as kvs a = _
      rw [putP_off as kvs _ hn'.1, upd_same]
    | succ j => exact putP_at as kvs (upd H a (.tup [p.1, p.2])) (Nat.succ.inj h) hn'.2 j t ht
def tListZip (K : PySem.W.Frag) (ta : TA) : TE := fun σ H Q => ta σ H fun vs H1 => ∃ a b xs ys, vs = [.ref a, .ref b] ∧ SqL K H1 a xs ∧ SqL K H1 b ys ∧
  ∀ (H' : Hp) (p : Addr) (ts : List Addr), (∀ b o, H1 b = some o → H' b = some o) → H1 p = none → (∀ t ∈ ts, H1 t = none) → p ∉ ts → H' p = some (.lst (ts.map V.ref)) → ts.length = (xs.zip ys).length → (∀ (j : Nat) t, ts[j]? = some t → ∃ q, (xs.zip ys)[j]? = some q ∧ H' t = some (.tup [q.1, q.2])) → Q (.ref p) H'
section
variable {X : Cx} {e e2 : Expr} {ta : TA} {p p2 pos pos2 : Pos}
theorem zip_laid {pins : List (Addr × Obj)} {σ : L2.St} {H : Hp} {s : Shared} {h' : Heap} {xs ys : List V} {us vs : List Value} {as : List Nat} (I : Inv X pins σ H s) (hxs : Vals xs us) (hys : Vals ys vs) (hz : xs.length ≤ sizeLine) (hl : as.length = min us.length vs.length) (Z : ZlE s.heap h' s.heap.objs.size us.toArray vs.toArray as) :
    ∃ H' : Hp, (∀ b o, H b = some o → H' b = some o) ∧ H (s.heap.objs.size + 5) = none ∧ (∀ t ∈ as, H t = none) ∧ s.heap.objs.size + 5 ∉ as ∧ H' (s.heap.objs.size + 5) = some (.lst (as.map V.ref)) ∧ as.length = (xs.zip ys).length ∧ (∀ (j : Nat) t, as[j]? = some t → ∃ q, (xs.zip ys)[j]? = some q ∧ H' t = some (.tup [q.1, q.2])) ∧ Inv X pins σ H' { s with heap := h' } := by
  have l1 : xs.length = us.length := hxs.length
  have l2 : ys.length = vs.length := hys.length
  have above : ∀ t ∈ as, s.heap.objs.size + 5 < t := fun t ht => by
    obtain ⟨j, hj⟩ := List.mem_iff_getElem?.mp ht
    exact (Z.tup j t hj).1
  have hSn : s.heap.objs.size + 5 ∉ as := fun z => Nat.lt_irrefl _ (above _ z)
  have nd : as.Nodup := List.Pairwise.imp (fun {a b} (h : a < b) => Nat.ne_of_lt h) Z.rise
  have new : ∀ t ∈ as, H t = none := fun t ht => I.hok.fresh (by have := above t ht; show s.heap.objs.size ≤ t; omega)
  have newS : H (s.heap.objs.size + 5) = none := I.hok.fresh (Nat.le_add_right _ _)
  have lz : as.length = (xs.zip ys).length := by rw [List.length_zip, hl, l1, l2]
  have atP := putP_at as (xs.zip ys) (upd H (s.heap.objs.size + 5) (.lst (as.map V.ref))) lz nd
  have off : ∀ b, b ∉ as → b ≠ s.heap.objs.size + 5 → putP (upd H (s.heap.objs.size + 5) (.lst (as.map V.ref))) as (xs.zip ys) b = H b := fun b h1 h2 => by rw [putP_off as _ _ h1, upd_ne h2]
  have low : ∀ (b : Nat) o, s.heap.get? b = some o → b ∉ as ∧ b ≠ s.heap.objs.size + 5 := fun b o e => by
    have lt : (b : Nat) < s.heap.objs.size := Heap.lt_size e
    exact ⟨fun z => by have := above b z; omega, adN (by omega)⟩
  have kp : ∀ b u, H b = some u → (putP (upd H (s.heap.objs.size + 5) (.lst (as.map V.ref))) as (xs.zip ys)) b = some u := fun b u e => by
    rw [off b (fun z => by rw [new b z] at e; cases e) (fun z => by rw [z, newS] at e; cases e)]
    exact e
  have eS : putP (upd H (s.heap.objs.size + 5) (.lst (as.map V.ref))) as (xs.zip ys) (s.heap.objs.size + 5) = some (.lst (as.map V.ref)) := by rw [putP_off as _ _ hSn, upd_same]
  refine ⟨putP (upd H (s.heap.objs.size + 5) (.lst (as.map V.ref))) as (xs.zip ys), kp, newS, new, hSn, eS, lz, atP, ?_⟩
  have hk := Z.keep
  refine I.call' (ch := []) rfl ⟨fun b o q _ _ _ => hk b o q, fun b o q _ _ _ => ⟨o.slots, hk b o q⟩, fun b o q n _ => ?_, fun b o q _ => ⟨o, hk b o q⟩, fun b xs q => kp b _ q, fun b o u q => kp b _ q, fun b ps q => ⟨#[], by rw [kp b _ q]; simp⟩⟩ (fun b u q => ?_) I.bare fun b z => by simp at z
  · obtain ⟨z1, z2⟩ := low b o q
    rw [off b z1 z2]
    exact n
  · by_cases hb : b ∈ as
    · obtain ⟨j, hj⟩ := List.mem_iff_getElem?.mp hb
      obtain ⟨pk, e2, e3⟩ := atP j b hj
      rw [e3] at q
      cases q
      obtain ⟨_, x, y, f1, f2, f3⟩ := Z.tup j b hj
      obtain ⟨g1, g2⟩ := List.getElem?_zip_eq_some.mp e2
      obtain ⟨u1, q1, r1⟩ := hxs.get g1
      obtain ⟨u2, q2, r2⟩ := hys.get g2
      rw [show us.toArray[j]? = us[j]? by simp, q1] at f1
      rw [show vs.toArray[j]? = vs[j]? by simp, q2] at f2
      cases f1
      cases f2
      exact ⟨by show 2 ≤ sizeLine; decide, [_, _], .cons r1 (.cons r2 .nil), ⟨_, f3, rfl, _, rfl⟩⟩
    · by_cases hb2 : b = s.heap.objs.size + 5
      · rw [hb2] at q ⊢
        rw [eS] at q
        cases q
        obtain ⟨acc, c, h1, h2⟩ := Z.st
        refine ⟨by rw [List.length_map]; omega, acc.toList, c, by rw [h2]; exact LiI.vals_refs as, ?_⟩
        rw [Array.toArray_toList]
        exact h1
      · rw [off b hb hb2] at q
        exact (I.hok b u q).stay (fun d v _ y => hk d v y) (fun d y => kp d _ y) fun d xs y => kp d _ y
theorem pe_listZip (hc : X.calm = true) (hg : Gl X "list") (hm : X.mg "list" = none) (hg2 : Gl X "zip") (hm2 : X.mg "zip" = none) (ha : PA X [e, e2] ta)
    (hs : starEach [.Call (.Name "zip" p2) [e, e2] [] pos2] X.env = (false, eval (.Call (.Name "zip" p2) [e, e2] [] pos2) X.env) :: starEach [] X.env := by rfl)
    (hs2 : starEach [e, e2] X.env = (false, eval e X.env) :: starEach [e2] X.env := by rfl) (hpl : (backTo pos2 (starEach [e2] X.env)).any (·.1) = false := by rfl) :
    PE X (.Call (.Name "list" p) [.Call (.Name "zip" p2) [e, e2] [] pos2] [] pos) (tListZip X.K ta) := by
  refine ⟨fun pins s σ H Q I hq => ?_⟩
  refine wpAny_Call_Name_kw (ld_blt I hg hm (u := .type "list") rfl ?_)
  refine PyProof.Rows.callWith_type1 ?_ hs rfl
  rw [hs]
  show wpAny _ _ (spliced ((false, eval (.Call (.Name "zip" p2) [e, e2] [] pos2) X.env) :: backTo pos (starEach [] X.env))) _ _ s
  refine Calls.spliced_cons ?_
  refine Call_ (ld_blt I hg2 hm2 PyProof.Rows.boot_zip (PyProof.Rows.callWith_type1 (thn (ha.run pos2 pins s σ H _ I hq) fun us s1 ⟨vs, H1, I1, r1, q1⟩ => ?_) hs2 hpl))
  obtain ⟨a, b, xs, ys, ex, hqx, hqy, q⟩ := q1
  subst ex
  cases r1 with
  | cons r rr =>
    cases rr with
    | cons r' rr =>
      cases rr
      cases r
      cases r'
      obtain ⟨its, rv, p1, hz1⟩ := I1.list hqx
      obtain ⟨its2, rv2, p2, hz2⟩ := I1.list hqy
      have la : a < s1.heap.objs.size := p1.lt
      have lb : b < s1.heap.objs.size := p2.lt
      refine call_zip_2 p1.isList p2.isList fun h' hz hTI hTO h1 h2 hsz hk => ?_
      refine Calls.spliced_nil ?_
      refine call_list_zip (h0 := s1.heap) (N := s1.heap.objs.size) (s := { s1 with heap := h' }) (I1.ok.hd hc) rfl hsz p1.isList p2.isList la lb (by simp; rw [← rv.length]; omega) hz ⟨_, _, hTO⟩ hTI h1 h2 (fun b o y => hk b o y) fun h'' as hl Z => ?_
      obtain ⟨H', k1, k2, k3, k4, k5, k6, k7, J⟩ := zip_laid I1 rv rv2 (by omega) (by simpa using hl) Z
      exact ⟨.ref _, H', J, rfl, q H' _ as k1 k2 k3 k4 k5 k6 k7⟩
end
theorem dpa_of {K : PySem.W.Frag} {H : Hp} : ∀ {vs : List V} {ds : List PyData}, vs.length = ds.length → (∀ (j : Nat) v d, vs[j]? = some v → ds[j]? = some d → Dp K H v d) → DpAll K H vs ds
  | [], [], _, _ => .nil
  | v :: vs, d :: ds, h, k => .cons (k 0 v d rfl rfl) (dpa_of (Nat.succ.inj h) fun j v d h1 h2 => k (j + 1) v d h1 h2)
  | [], _ :: _, h, _ => by cases h
  | _ :: _, [], h, _ => by cases h
/-- list(zip(a, b)) -/
theorem we_listZip {K : PySem.W.Frag} {xw : Xw} {Δ : List Ent} {ta : TA} {Q : Rs → Prop} (h : WAx K xw ta Δ fun ds => ∃ as bs, ds = [.list as, .list bs] ∧ Q (.n (zip2 as bs))) : WEx K xw (tListZip K ta) Δ Q := fun A H0 H σ E Qh k =>
  h A H0 H σ E _ fun vs H1 ds e E1 ok ⟨as, bs, hd, q⟩ => by
    subst hd
    cases ok with | cons g1 g2 => cases g2 with | cons g3 g4 =>
      cases g4
      cases g1 with | @lst a xs _ ha hxa => cases g3 with | @lst b ys _ hb hyb =>
        refine ⟨a, b, xs, ys, rfl, ex_l wo_ex ha, ex_l wo_ex hb, fun H' p ts k1 k2 k3 k4 k5 k6 k7 => ?_⟩
        have ex : Ex H1 H' := k1
        refine k _ H' _ (e.trans (Kp.of ex)) (E1.ext ex) (ResOk.back E.toSit0 e E1.toSit0 (r := .n (zip2 as bs)) ⟨p, ts.map V.ref, rfl, k2, fun m => E1.domAll m k2, k5, ?_⟩) q
        have up : Ex (wo H1 (A ++ ads Δ)) (wo H' (p :: (A ++ ads Δ))) := fun a o z => by
          obtain ⟨m, z⟩ := wo_some z
          refine wo_mk (fun q => ?_) (ex a o z)
          rcases List.mem_cons.mp q with rfl | q
          · rw [k2] at z; cases z
          · exact m q
        refine dpa_of (by rw [List.length_map, k6, List.length_zip, zip2_len, hxa.length, hyb.length]) fun j v d hv hd => ?_
        rw [List.getElem?_map] at hv
        obtain ⟨t, ht, rfl⟩ := Option.map_eq_some_iff.mp hv
        obtain ⟨d1, d2, i1, i2, rfl⟩ := zip2_get hd
        obtain ⟨y1, hy1, hd1⟩ := hxa.get i1
        obtain ⟨y2, hy2, hd2⟩ := hyb.get i2
        obtain ⟨q, hq, hT⟩ := k7 j t ht
        obtain ⟨f1, f2⟩ := List.getElem?_zip_eq_some.mp hq
        rw [hy1] at f1
        rw [hy2] at f2
        cases f1
        cases f2
        have nt : t ∉ p :: (A ++ ads Δ) := fun m => by
          have tn := k3 t (List.mem_of_getElem? ht)
          rcases List.mem_cons.mp m with rfl | m
          · exact k4 (List.mem_of_getElem? ht)
          · exact E1.domAll m tn
        exact .tup (.inl (.inl (wo_mk nt hT))) (.cons (hd1.up up) (.cons (hd2.up up) .nil))
end DL

set_option Elab.async false
set_option linter.all false
set_option maxRecDepth 100000
/-! HP9: bent rows moved, scaled, turned about; no bent row is nearer. -/
namespace DL
open PySem PySem.Spec PyProof.Rows L2 Evl RQ HP
variable {xw : Xw}
theorem fallR_affine {l : List Pr} {a b c : Rat} (hp : Pos l) (ha : 0 < a) (hb : 0 < b) : fallR (l.map fun p => (p.1 * a + c, p.2 * b)) = (fallR l).map fun x => x * a + c := by
  have e : opp (l.map fun p => (p.1 * a + c, p.2 * b)) = (opp l).map fun p => (p.1 * a + -c, p.2 * b) := by
    unfold opp
    rw [List.map_map, List.map_map]
    refine List.map_congr_left fun x _ => ?_
    show (-(x.1 * a + c), x.2 * b) = (-x.1 * a + -c, x.2 * b)
    rw [show -(x.1 * a + c) = -x.1 * a + -c by grind]
  unfold fallR
  rw [e, near_affine (opp_pos hp) ha hb, List.map_map, List.map_map]
  refine List.map_congr_left fun x _ => ?_
  show -(x * a + -c) = -x * a + c
  grind
theorem bentR_affine {l : List Pr} {a b c : Rat} (hp : Pos l) (ha : 0 < a) (hb : 0 < b) (k : Nat) : bentR (l.map fun p => (p.1 * a + c, p.2 * b)) k = (bentR l k).map fun x => x * a + c := by
  unfold bentR
  rw [← List.map_take, ← List.map_drop, near_affine (pos_take hp k) ha hb, fallR_affine (pos_drop hp k) ha hb, List.map_append]
theorem costTo_affine {l : List Pr} {r : List Rat} {a b c : Rat} (hl : r.length = l.length) : ∀ {n : Nat}, n ≤ l.length → costTo (l.map fun p => (p.1 * a + c, p.2 * b)) (r.map fun x => x * a + c) n = b * (a * a) * costTo l r n
  | 0, _ => by show (0 : Rat) = _ * 0; grind
  | n + 1, h => by
    have ih := costTo_affine (a := a) (b := b) (c := c) hl (n := n) (by omega)
    obtain ⟨x, hx⟩ := get_of_lt (show n < l.length by omega)
    obtain ⟨y, hy⟩ := get_of_lt (show n < r.length by omega)
    rw [costTo_succ, costTo_succ, ih, wAt_of hx, vAt_of hx, rAt_of hy, wAt_of (x := (x.1 * a + c, x.2 * b)) (by rw [List.getElem?_map, hx]; rfl), vAt_of (x := (x.1 * a + c, x.2 * b)) (by rw [List.getElem?_map, hx]; rfl), rAt_of (x := y * a + c) (by rw [List.getElem?_map, hy]; rfl)]
    grind
theorem pos_affine {l : List Pr} {a b c : Rat} (hp : Pos l) (hb : 0 < b) : Pos (l.map fun p => (p.1 * a + c, p.2 * b)) := fun x hx => by
  obtain ⟨y, hy, rfl⟩ := List.mem_map.mp hx
  exact Rat.mul_pos (hp y hy) hb
theorem bentC_affine {l : List Pr} {a b c : Rat} (hp : Pos l) (ha : 0 < a) (hb : 0 < b) (k : Nat) : bentC (l.map fun p => (p.1 * a + c, p.2 * b)) k = b * (a * a) * bentC l k := by
  unfold bentC
  rw [bentR_affine hp ha hb, List.length_map, costTo_affine (bentR_len hp k) (Nat.le_refl _)]
  grind
theorem best_affine {l : List Pr} {a b c : Rat} (hp : Pos l) (ha : 0 < a) (hb : 0 < b) : best (l.map fun p => (p.1 * a + c, p.2 * b)) = b * (a * a) * best l := by
  unfold best
  rw [List.length_map]
  exact bst_map (Rat.mul_pos hb (Rat.mul_pos ha ha)) fun k _ => bentC_affine hp ha hb k
theorem map_inj {a c : Rat} (ha : 0 < a) : ∀ x y : List Rat, x.map (fun z => z * a + c) = y.map (fun z => z * a + c) → x = y
  | [], [], _ => rfl
  | [], _ :: _, h => by cases h
  | _ :: _, [], h => by cases h
  | u :: x, v :: y, h => by
    rw [List.map_cons, List.map_cons] at h
    injection h with h1 h2
    have e : a * u = a * v := by grind
    have : u = v := Rat.le_antisymm (Rat.le_of_mul_le_mul_left (by rw [e]; exact Rat.le_refl) ha) (Rat.le_of_mul_le_mul_left (by rw [e]; exact Rat.le_refl) ha)
    rw [this, map_inj ha x y h2]
theorem bent_affine {l : List Pr} {a b c : Rat} (hp : Pos l) (ha : 0 < a) (hb : 0 < b) : bent (l.map fun p => (p.1 * a + c, p.2 * b)) = (bent l).map fun q => (q.1, q.2.map fun x => x * a + c) := by
  unfold bent
  rw [best_affine hp ha hb, List.length_map]
  exact fB_map (Rat.mul_pos hb (Rat.mul_pos ha ha)) (map_inj ha) fun k _ => ⟨bentC_affine hp ha hb k, bentR_affine hp ha hb k⟩
/-- turned about -/
theorem costTo_rev : ∀ {l : List Pr} {r : List Rat}, r.length = l.length → costTo l.reverse r.reverse l.length = costTo l r l.length
  | [], [], _ => rfl
  | x :: l, y :: r, h => by
    have hl : r.length = l.length := by simpa using h
    have e1 := costTo_app (l1 := [x]) (l2 := l) (r1 := [y]) (r2 := r) rfl hl
    have e2 := costTo_app (l1 := l.reverse) (l2 := [x]) (r1 := r.reverse) (r2 := [y]) (by rw [List.length_reverse, List.length_reverse]; exact hl) rfl
    rw [List.length_append, List.length_reverse] at e2
    have ih := costTo_rev hl
    rw [List.reverse_cons, List.reverse_cons]
    show costTo (l.reverse ++ [x]) (r.reverse ++ [y]) (l.length + [x].length) = costTo ([x] ++ l) ([y] ++ r) ([x] ++ l).length
    rw [e2, e1, ih]
    grind
  | [], _ :: _, h => by cases h
  | _ :: _, [], h => by cases h
theorem near_rev {l : List Pr} (hp : Pos l) : near l.reverse = (fallR l).reverse := by
  unfold fallR
  rw [← near_fall hp, List.reverse_reverse]
theorem fallR_rev {l : List Pr} (hp : Pos l) : fallR l.reverse = (near l).reverse := by
  have := near_fall (rev_pos hp)
  rw [List.reverse_reverse] at this
  exact this.symm
theorem bentR_rev {l : List Pr} (hp : Pos l) {k : Nat} : bentR l.reverse k = (bentR l (l.length - k)).reverse := by
  unfold bentR
  rw [List.take_reverse, List.drop_reverse, near_rev (pos_drop hp _), fallR_rev (pos_take hp _), List.reverse_append]
theorem bentC_rev {l : List Pr} (hp : Pos l) {k : Nat} : bentC l.reverse k = bentC l (l.length - k) := by
  unfold bentC
  rw [bentR_rev hp, List.length_reverse, costTo_rev (bentR_len hp _)]
theorem best_le {l : List Pr} {k : Nat} (h : k ≤ l.length) : best l ≤ bentC l k := bst_le (by omega)
theorem best_is {l : List Pr} : ∃ k, k ≤ l.length ∧ best l = bentC l k := by
  obtain ⟨k, h, e⟩ := bst_is (l := l) (n := l.length + 1)
  exact ⟨k, by omega, e⟩
theorem best_rev {l : List Pr} (hp : Pos l) : best l.reverse = best l := by
  refine Rat.le_antisymm ?_ ?_
  · obtain ⟨k, h, e⟩ := best_is (l := l)
    have := best_le (l := l.reverse) (k := l.length - k) (by rw [List.length_reverse]; omega)
    rw [bentC_rev hp, show l.length - (l.length - k) = k by omega, ← e] at this
    exact this
  · obtain ⟨k, h, e⟩ := best_is (l := l.reverse)
    rw [e, bentC_rev hp]
    exact best_le (by omega)
theorem bent_rev_mem {l : List Pr} (hp : Pos l) {r : List Rat} (h : r ∈ (bent l).map (·.2)) : r.reverse ∈ (bent l.reverse).map (·.2) := by
  obtain ⟨q, hq, rfl⟩ := List.mem_map.mp h
  obtain ⟨h1, h2, h3⟩ := fB_mem hq
  have := fB_has (l := l.reverse) (b := best l.reverse) (n := l.reverse.length + 1) (k := l.length - q.1) (by rw [List.length_reverse]; omega) (by rw [bentC_rev hp, best_rev hp, show l.length - (l.length - q.1) = q.1 by omega]; exact h3)
  rw [bentR_rev hp, show l.length - (l.length - q.1) = q.1 by omega, ← h2] at this
  exact this
theorem nodup_le {α : Type} [DecidableEq α] : ∀ {a b : List α}, a.Nodup → (∀ x, x ∈ a → x ∈ b) → a.length ≤ b.length
  | [], b, _, _ => Nat.zero_le _
  | x :: a, b, h, hs => by
    obtain ⟨h1, h2⟩ := List.nodup_cons.mp h
    have mx := hs x (List.mem_cons_self)
    have := nodup_le (b := b.erase x) h2 fun y hy => (List.mem_erase_of_ne (fun e => h1 (by rw [← e]; exact hy))).mpr (hs y (List.mem_cons_of_mem _ hy))
    rw [List.length_erase_of_mem mx] at this
    have := List.length_pos_of_mem mx
    rw [List.length_cons]
    omega
theorem nodup_rev : ∀ {a : List (List Rat)}, a.Nodup → (a.map List.reverse).Nodup
  | [], _ => List.nodup_nil
  | x :: a, h => by
    obtain ⟨h1, h2⟩ := List.nodup_cons.mp h
    rw [List.map_cons, List.nodup_cons]
    refine ⟨fun hx => ?_, nodup_rev h2⟩
    obtain ⟨y, hy, e⟩ := List.mem_map.mp hx
    rw [← List.reverse_reverse x, ← e, List.reverse_reverse] at h1
    exact h1 hy
theorem bent_rev_len_le {l : List Pr} (hp : Pos l) : (bent l).length ≤ (bent l.reverse).length := by
  have n := fB_nodup (l := l) (b := best l) (l.length + 1)
  have := nodup_le (a := ((bent l).map (·.2)).map List.reverse) (b := (bent l.reverse).map (·.2)) (nodup_rev n) fun x hx => by
    obtain ⟨y, hy, rfl⟩ := List.mem_map.mp hx
    exact bent_rev_mem hp hy
  rw [List.length_map, List.length_map, List.length_map] at this
  exact this
theorem bent_rev_len {l : List Pr} (hp : Pos l) : (bent l.reverse).length = (bent l).length := by
  have h1 := bent_rev_len_le hp
  have h2 := bent_rev_len_le (rev_pos hp)
  rw [List.reverse_reverse] at h2
  omega
/-- a row that rises up to a place and falls behind it -/
structure Bends (r : List Rat) (k : Nat) : Prop where
  up : ∀ j, j + 1 < k → j + 1 < r.length → rAt r j ≤ rAt r (j + 1)
  down : ∀ j, k ≤ j → j + 1 < r.length → rAt r (j + 1) ≤ rAt r j
theorem rAt_app1 {a b : List Rat} {j : Nat} (h : j < a.length) : rAt (a ++ b) j = rAt a j := by
  obtain ⟨x, hx⟩ := get_of_lt h
  rw [rAt_of hx, rAt_of (x := x) (by rw [List.getElem?_append_left h]; exact hx)]
theorem rAt_app2 {a b : List Rat} {j : Nat} (h : a.length ≤ j) (h2 : j < (a ++ b).length) : rAt (a ++ b) j = rAt b (j - a.length) := by
  obtain ⟨x, hx⟩ := get_of_lt h2
  rw [rAt_of hx, rAt_of (x := x) (by rw [List.getElem?_append_right h] at hx; exact hx)]
theorem rises_at {r : List Rat} (h : risesB r = true) {j : Nat} (hj : j + 1 < r.length) : rAt r j ≤ rAt r (j + 1) := risesB_iff.mp h j _ _ (get_rAt (by omega)) (get_rAt hj)
theorem bends_app {a b : List Rat} (ha : risesB a = true) (hb : risesB (b.map fun x => -x) = true) : Bends (a ++ b) a.length := by
  refine ⟨fun j h1 h2 => ?_, fun j h1 h2 => ?_⟩
  · rw [rAt_app1 (by omega), rAt_app1 h1]
    exact rises_at ha h1
  · rw [rAt_app2 (by omega) h2, rAt_app2 h1 (by omega)]
    rw [List.length_append] at h2
    have := rises_at hb (j := j - a.length) (by rw [List.length_map]; omega)
    obtain ⟨x, hx⟩ := get_of_lt (show j - a.length < b.length by omega)
    obtain ⟨y, hy⟩ := get_of_lt (show j - a.length + 1 < b.length by omega)
    rw [rAt_of (x := -x) (by rw [List.getElem?_map, hx]; rfl), rAt_of (x := -y) (by rw [List.getElem?_map, hy]; rfl)] at this
    rw [show j + 1 - a.length = j - a.length + 1 by omega, rAt_of hx, rAt_of hy]
    grind
theorem near_risesB {l : List Pr} (hp : Pos l) : risesB (near l) = true := by
  rw [risesB_iff]
  intro k x y hx hy
  have := near_rise hp (k := k) (by rw [← near_len hp]; exact lt_of_get hy)
  rw [rAt_of hx, rAt_of hy] at this
  exact this
theorem bentR_bends {l : List Pr} (hp : Pos l) {k : Nat} (hk : k ≤ l.length) : Bends (bentR l k) k := by
  have := bends_app (a := near (l.take k)) (b := fallR (l.drop k)) (near_risesB (pos_take hp k)) (by
    unfold fallR
    rw [List.map_map, show ((fun x : Rat => -x) ∘ fun x => -x) = id by funext x; exact Rat.neg_neg x, List.map_id]
    exact near_risesB (opp_pos (pos_drop hp k)))
  rw [near_len (pos_take hp k), List.length_take, Nat.min_eq_left hk] at this
  exact this
theorem costTo_nn {l : List Pr} (hp : Pos l) {r : List Rat} : ∀ {n : Nat}, n ≤ l.length → 0 ≤ costTo l r n
  | 0, _ => Rat.le_refl
  | n + 1, h => by
    have ih := costTo_nn hp (r := r) (n := n) (by omega)
    obtain ⟨x, hx⟩ := get_of_lt (show n < l.length by omega)
    rw [costTo_succ]
    have h1 : 0 ≤ wAt l n := by rw [wAt_of hx]; exact Rat.le_of_lt (hp x (List.mem_of_getElem? hx))
    have h2 : 0 ≤ (rAt r n - vAt l n) * (rAt r n - vAt l n) := by
      by_cases c : 0 ≤ rAt r n - vAt l n
      · exact Rat.mul_nonneg c c
      · have := Rat.mul_nonneg (a := -(rAt r n - vAt l n)) (b := -(rAt r n - vAt l n)) (by grind) (by grind)
        grind
    have := Rat.mul_nonneg h1 h2
    grind
theorem near_best {l : List Pr} (hp : Pos l) {o : List Rat} (ho : risesB o = true) (hl : o.length = l.length) : costTo l (near l) l.length ≤ costTo l o l.length := by
  have := dear (near_kkt hp) ho hl
  have nn : 0 ≤ costTo (ownL l (near l)) o l.length := by
    have e : (ownL l (near l)).length = l.length := by unfold ownL; rw [List.length_map, List.length_zip, near_len hp]; omega
    refine costTo_nn (fun x hx => ?_) (by rw [e]; exact Nat.le_refl _)
    obtain ⟨q, hq, rfl⟩ := List.mem_map.mp hx
    exact hp q.2 (List.of_mem_zip hq).2
  grind
theorem costTo_opp {l : List Pr} {r : List Rat} (hl : r.length = l.length) : ∀ {n : Nat}, n ≤ l.length → costTo (opp l) (r.map fun x => -x) n = costTo l r n
  | 0, _ => rfl
  | n + 1, h => by
    have ih := costTo_opp hl (n := n) (by omega)
    obtain ⟨x, hx⟩ := get_of_lt (show n < l.length by omega)
    obtain ⟨y, hy⟩ := get_of_lt (show n < r.length by omega)
    rw [costTo_succ, costTo_succ, ih, wAt_of hx, vAt_of hx, rAt_of hy, wAt_of (l := opp l) (x := (-x.1, x.2)) (by unfold opp; rw [List.getElem?_map, hx]; rfl), vAt_of (l := opp l) (x := (-x.1, x.2)) (by unfold opp; rw [List.getElem?_map, hx]; rfl), rAt_of (x := -y) (by rw [List.getElem?_map, hy]; rfl)]
    grind
theorem fall_best {l : List Pr} (hp : Pos l) {o : List Rat} (ho : risesB (o.map fun x => -x) = true) (hl : o.length = l.length) : costTo l (fallR l) l.length ≤ costTo l o l.length := by
  have := near_best (opp_pos hp) ho (by rw [List.length_map, opp_len]; exact hl)
  rw [opp_len, costTo_opp hl (Nat.le_refl _), ← costTo_opp (l := l) (r := fallR l) (fallR_len hp) (Nat.le_refl _)] at *
  unfold fallR
  rw [List.map_map, show ((fun x : Rat => -x) ∘ fun x => -x) = id by funext x; exact Rat.neg_neg x, List.map_id]
  exact this
/-- no bent row costs less -/
theorem bent_best {l : List Pr} (hp : Pos l) {r : List Rat} {k : Nat} (hk : k ≤ l.length) (hl : r.length = l.length) (hb : Bends r k) : best l ≤ costTo l r l.length / 2 := by
  have h0 := best_le hk
  rw [bentC_is hp] at h0
  have e := costTo_app (l1 := l.take k) (l2 := l.drop k) (r1 := r.take k) (r2 := r.drop k) (by rw [List.length_take, List.length_take, hl]) (by rw [List.length_drop, List.length_drop, hl])
  rw [List.take_append_drop, List.take_append_drop] at e
  have h1 := near_best (pos_take hp k) (o := r.take k) (by
    rw [risesB_iff]
    intro j x y hx hy
    have hj := lt_of_get hy
    rw [List.length_take] at hj
    rw [List.getElem?_take, if_pos (by omega)] at hx hy
    have := hb.up j (by omega) (by omega)
    rw [rAt_of hx, rAt_of hy] at this
    exact this) (by rw [List.length_take, List.length_take, hl])
  have h2 := fall_best (pos_drop hp k) (o := r.drop k) (by
    rw [risesB_iff]
    intro j x y hx hy
    have hj := lt_of_get hy
    rw [List.length_map, List.length_drop] at hj
    rw [List.getElem?_map, List.getElem?_drop] at hx hy
    obtain ⟨x', hx', rfl⟩ := Option.map_eq_some_iff.mp hx
    obtain ⟨y', hy', rfl⟩ := Option.map_eq_some_iff.mp hy
    have := hb.down (k + j) (by omega) (by omega)
    rw [rAt_of hx', Nat.add_assoc, rAt_of (x := y') hy'] at this
    grind) (by rw [List.length_drop, List.length_drop, hl])
  rw [e]
  grind
theorem near_bentR (l : List Pr) : near l = bentR l l.length := by
  unfold bentR
  rw [List.take_length, List.drop_length]
  show near l = near l ++ []
  rw [List.append_nil]
theorem fall_bentR (l : List Pr) : fallR l = bentR l 0 := rfl
/-- putting in at its place -/
def insQ (x : Rat) (l : List Rat) : List Rat := l.take (l.filter fun z => decide (z < x)).length ++ [x] ++ l.drop (l.filter fun z => decide (z < x)).length
theorem insQ_rise {x : Rat} : ∀ {l : List Rat}, l.Pairwise (· ≤ ·) → (insQ x l).Pairwise (· ≤ ·)
  | [], _ => by show [x].Pairwise _; exact List.pairwise_singleton _ _
  | a :: t, h => by
    obtain ⟨h1, h2⟩ := List.pairwise_cons.mp h
    by_cases c : a < x
    · have e : insQ x (a :: t) = a :: insQ x t := by
        unfold insQ
        rw [List.filter_cons_of_pos (by simpa using c)]
        rfl
      rw [e, List.pairwise_cons]
      refine ⟨fun y hy => ?_, insQ_rise h2⟩
      unfold insQ at hy
      rcases List.mem_append.mp hy with hy | hy
      · rcases List.mem_append.mp hy with hy | hy
        · exact h1 y (List.mem_of_mem_take hy)
        · rw [List.mem_singleton.mp hy]; exact Rat.le_of_lt c
      · exact h1 y (List.mem_of_mem_drop hy)
    · have e0 : (a :: t).filter (fun z => decide (z < x)) = [] := by
        rw [List.filter_eq_nil_iff]
        intro z hz
        rcases List.mem_cons.mp hz with rfl | hz
        · simpa using c
        · have := h1 z hz
          simp only [decide_eq_true_eq]
          grind
      have e : insQ x (a :: t) = x :: a :: t := by
        unfold insQ
        rw [e0]
        rfl
      rw [e, List.pairwise_cons]
      refine ⟨fun y hy => ?_, h⟩
      rcases List.mem_cons.mp hy with rfl | hy
      · exact Rat.not_lt.mp c
      · have := h1 y hy
        grind
theorem insQ_len (x : Rat) (l : List Rat) : (insQ x l).length = l.length + 1 := by
  have := List.length_filter_le (fun z => decide (z < x)) l
  unfold insQ
  rw [List.length_append, List.length_append, List.length_take, List.length_drop, List.length_singleton]
  omega
theorem insQ_mem {x y : Rat} {l : List Rat} (h : y ∈ insQ x l) : y = x ∨ y ∈ l := by
  unfold insQ at h
  rcases List.mem_append.mp h with h | h
  · rcases List.mem_append.mp h with h | h
    · exact .inr (List.mem_of_mem_take h)
    · exact .inl (List.mem_singleton.mp h)
  · exact .inr (List.mem_of_mem_drop h)
theorem rises_of_pw {l : List Rat} (h : l.Pairwise (· ≤ ·)) : risesB l = true := by
  rw [risesB_iff]
  intro k x y hx hy
  obtain ⟨h1, e1⟩ := List.getElem?_eq_some_iff.mp hx
  obtain ⟨h2, e2⟩ := List.getElem?_eq_some_iff.mp hy
  have := List.pairwise_iff_getElem.mp h k (k + 1) h1 h2 (by omega)
  rw [e1, e2] at this
  exact this
/-- a comprehension over l.map c that keeps those of which p holds -/
inductive LcG (K : PySem.W.Frag) (vs : List Nat) (g : TG) (tt : TT) (te : TE) (Δ : List Ent) (Q : Rs → Prop) {α : Type} (l : List α) (c f : α → PyData) (p : α → Bool) (ds : List PyData) : Prop
  | mk (he : ds = l.map c) (hl : l.length ≤ 100000) (hs : ∀ x, x ∈ l → WB K vs g (c x) (wipeE Δ vs) fun Δ2 => WT K tt Δ2 fun b => if b = true then p x = true ∧ WE K te Δ2 fun r => r.d = f x else p x = false) (hd : Q (.n ((l.filter p).map f)))
theorem we_lcG {K : PySem.W.Frag} {Δ : List Ent} {vs : List Nat} {wi : TI} {g : TG} {tt : TT} {te : TE} {Q : Rs → Prop} {α : Type} (l : List α) (c f : α → PyData) (p : α → Bool) (hw : ads (wipeE Δ vs) = ads Δ) (hw2 : pts (wipeE Δ vs) = pts Δ)
    (h : WIx K xw wi Δ fun ds => LcG K vs g tt te Δ Q l c f p ds) : WEx K xw (tLc wi g tt te vs) Δ Q := by
  refine we_lc hw hw2 fun A H0 H σ E R k => h A H0 H σ E R fun J H' ds e E' ok ⟨h0, h1, h2, h3⟩ => k J H' ds e E' ok ⟨by rw [h0, List.length_map]; exact h1, fun i acc => acc = ((l.take i).filter p).map f, by simp, fun i d acc hd ha => ?_, fun acc _ ha => ?_⟩
  · subst h0
    obtain ⟨x, hx, rfl⟩ := get_map hd
    refine fun A H0 H σ v E hv Qh kk => h2 x (List.mem_of_getElem? hx) A H0 H σ v E hv Qh fun σ' Δ' a b c' e w => kk σ' Δ' a b c' e (wt_imp w fun b hb => ?_)
    have et : (l.take (i + 1)).filter p = (l.take i).filter p ++ [x].filter p := by rw [List.take_add_one, hx, List.filter_append]; rfl
    cases b with
    | true =>
      rw [if_pos rfl] at hb ⊢
      refine we_imp hb.2 fun r hr => ?_
      rw [et, ha, hr, List.filter_cons_of_pos hb.1, List.map_append]
      rfl
    | false =>
      rw [if_neg (by decide)] at hb ⊢
      rw [et, ha, List.filter_cons_of_neg (by rw [hb]; decide)]
      show _ = List.map f (List.filter p (List.take i l) ++ [])
      rw [List.append_nil]
  · rw [h0, List.length_map, List.take_length] at ha
    rw [ha]
    exact h3
theorem mul_bits {a b : Int} (h1 : a.natAbs < 2 ^ qB) (h2 : b.natAbs < 2 ^ qB) : (a * b).natAbs < 2 ^ 100000000 := by
  rw [Int.natAbs_mul]
  refine Nat.lt_of_lt_of_le (Nat.mul_lt_mul'' h1 h2) ?_
  rw [← Nat.pow_add]
  exact Nat.pow_le_pow_right (by decide) (by decide)
theorem two_bits {a b : Int} {C A : Nat} (h1 : a.natAbs < C) (h2 : b.natAbs < C) (h3 : C * 2 ≤ A) : (a + b).natAbs < A := by omega
theorem add_bits {p q : Rat} (h1 : Rsz qB p) (h2 : Rsz qB q) : (p.num * (q.den : Int) + q.num * (p.den : Int)).natAbs < 2 ^ 100000000 := by
  have a1 : (p.num * (q.den : Int)).natAbs < 2 ^ (qB + qB) := by
    rw [Int.natAbs_mul, Nat.pow_add]
    exact Nat.mul_lt_mul'' h1.1 h2.den
  have a2 : (q.num * (p.den : Int)).natAbs < 2 ^ (qB + qB) := by
    rw [Int.natAbs_mul, Nat.pow_add]
    exact Nat.mul_lt_mul'' h2.1 h1.den
  have a4 : 2 ^ (qB + qB) * 2 ≤ 2 ^ 100000000 := by
    rw [← Nat.pow_succ]
    exact Nat.pow_le_pow_right (by decide) (by decide)
  exact two_bits a1 a2 a4
/-- a comprehension whose turns all give things of which P holds, over whatever is walked -/
inductive LcU (K : PySem.W.Frag) (vs : List Nat) (g : TG) (te : TE) (Δ : List Ent) (Q : Rs → Prop) {β : Type} (f : β → PyData) (P : β → Prop) (ds : List PyData) : Prop
  | mk (hl : ds.length ≤ 100000) (hs : ∀ d, d ∈ ds → WB K vs g d (wipeE Δ vs) fun Δ2 => WE K te Δ2 fun r => ∃ y, r.d = f y ∧ P y)
      (hd : ∀ ys : List β, ys.length = ds.length → (∀ y, y ∈ ys → P y) → Q (.n (ys.map f)))
theorem we_lcU {K : PySem.W.Frag} {Δ : List Ent} {vs : List Nat} {wi : TI} {g : TG} {te : TE} {Q : Rs → Prop} {β : Type} (f : β → PyData) (P : β → Prop) (hw : ads (wipeE Δ vs) = ads Δ) (hw2 : pts (wipeE Δ vs) = pts Δ)
    (h : WIx K xw wi Δ fun ds => LcU K vs g te Δ Q f P ds) : WEx K xw (tLc wi g tYes te vs) Δ Q := by
  refine we_lc hw hw2 fun A H0 H σ E R k => h A H0 H σ E R fun J H' ds e E' ok ⟨h1, h2, h3⟩ => k J H' ds e E' ok ⟨h1,
    fun i acc => ∃ ys : List β, acc = ys.map f ∧ ys.length = i ∧ ∀ y, y ∈ ys → P y, ⟨[], rfl, rfl, fun y hy => by cases hy⟩, fun i d acc hd ⟨ys, ha, hl, hp⟩ => ?_, fun acc _ ⟨ys, ha, hl, hp⟩ => ?_⟩
  · refine fun A H0 H σ v E hv Qh kk => h2 d (List.mem_of_getElem? hd) A H0 H σ v E hv Qh fun σ' Δ' a b c' e w => kk σ' Δ' a b c' e (wt_yes ?_)
    show WE K te Δ' _
    refine we_imp w fun r ⟨y, hr, py⟩ => ?_
    refine ⟨ys ++ [y], by rw [ha, hr, List.map_append]; rfl, by simp [hl], fun z hz => ?_⟩
    rcases List.mem_append.mp hz with hz | hz
    · exact hp z hz
    · rw [List.mem_singleton.mp hz]; exact py
  · rw [ha]
    exact h3 ys hl hp
end DL

set_option Elab.async false
set_option linter.all false
set_option maxRecDepth 100000
/-! HPA: the stretches are the only ones of their kind; two rows of stretches that meet. -/
namespace DL
open PySem PySem.Spec PyProof.Rows L2 Evl RQ HP
variable {xw : Xw}
structure Good (gs : List Seg) : Prop where
  pos : ∀ g, g ∈ gs → Pos g
  ne : ∀ g, g ∈ gs → g ≠ []
  pre : ∀ g, g ∈ gs → Pre g
  inc : gs.Pairwise fun a b => mean a < mean b
theorem Good.segs {l : List Pr} (hp : Pos l) : Good (segs l) := ⟨segs_pos hp, segs_ne hp, segs_pre hp, segs_inc hp⟩
theorem Good.nil : Good [] := ⟨fun g m => (by cases m), fun g m => (by cases m), fun g m => (by cases m), List.Pairwise.nil⟩
theorem Good.sub {gs hs : List Seg} (h : Good gs) (s : hs.Sublist gs) : Good hs := ⟨fun g m => h.pos g (s.subset m), fun g m => h.ne g (s.subset m), fun g m => h.pre g (s.subset m), h.inc.sublist s⟩
theorem Good.flat {gs : List Seg} (h : Good gs) : Pos gs.flatten := fun x hx => by
  obtain ⟨g, hg, hx⟩ := List.mem_flatten.mp hx
  exact h.pos g hg x hx
theorem good_kkt {gs : List Seg} (h : Good gs) : Kkt gs.flatten (rowOf gs) := by
  have hs : bsum 0 gs.flatten (rowOf gs) = devs gs := bsum_row h.pos h.ne
  refine ⟨rowOf_len gs, fun k x y h1 h2 => ?_, fun b hb => ?_, fun b hb => ?_, fun k x y b h1 h2 h3 h4 => ?_⟩
  · obtain ⟨b, hb⟩ : ∃ b, (devs gs)[k]? = some b := by
      have hk : k < (devs gs).length := by
        rw [devs_len, ← rowOf_len]
        exact (List.getElem?_eq_some_iff.mp h1).1
      exact ⟨_, List.getElem?_eq_getElem hk⟩
    rcases row_adj h.pos h.ne h.inc k x y b h1 h2 hb with h | h
    · rw [h]; exact Rat.le_refl
    · exact Rat.le_of_lt h.1
  · rw [hs] at hb
    obtain ⟨g, hg, hb⟩ := List.mem_flatMap.mp hb
    obtain ⟨k, _, rfl⟩ := List.mem_map.mp hb
    exact h.pre g hg (k + 1)
  · rw [hs] at hb
    exact devs_last h.pos h.ne b hb
  · rw [hs] at h3
    rcases row_adj h.pos h.ne h.inc k x y b h1 h2 h3 with h | h
    · rw [h] at h4
      exact absurd h4 (Rat.lt_irrefl)
    · exact h.2
theorem rowOf_cons (g : Seg) (gs : List Seg) : rowOf (g :: gs) = List.replicate g.length (mean g) ++ rowOf gs := by
  unfold rowOf
  rw [List.flatMap_cons]
theorem rowOf_app (a b : List Seg) : rowOf (a ++ b) = rowOf a ++ rowOf b := by
  unfold rowOf
  rw [List.flatMap_append]
/-- of two ways to part one row, the first part of the one is no longer than that of the other -/
theorem run_le {g h : Seg} {gs hs : List Seg} (hg : Good (g :: gs)) (hn : h ≠ []) (ef : (g :: gs).flatten = (h :: hs).flatten) (er : rowOf (g :: gs) = rowOf (h :: hs)) : h.length ≤ g.length := by
  refine Nat.le_of_not_lt fun lt => ?_
  rw [rowOf_cons, rowOf_cons] at er
  have n0 : g ≠ [] := hg.ne g List.mem_cons_self
  have gl : 0 < g.length := List.length_pos_iff.mpr n0
  have hl : 0 < h.length := by omega
  have e0 : mean g = mean h := by
    have := congrArg (fun z => z[0]?) er
    rw [List.getElem?_append_left (by simp; omega), List.getElem?_append_left (by simp; omega), List.getElem?_replicate, List.getElem?_replicate, if_pos gl, if_pos hl] at this
    exact Option.some.inj this
  have e1 := congrArg (fun z => z[g.length]?) er
  rw [List.getElem?_append_right (by simp), List.getElem?_append_left (by simp; omega), List.length_replicate, Nat.sub_self, List.getElem?_replicate, if_pos lt] at e1
  cases gs with
  | nil =>
    have := congrArg List.length ef
    simp at this
    omega
  | cons t r =>
    rw [rowOf_head (hg.ne t (by simp))] at e1
    have m := (List.pairwise_cons.mp hg.inc).1 t List.mem_cons_self
    rw [Option.some.inj e1, e0] at m
    exact Rat.lt_irrefl m
theorem good_tail {g : Seg} {gs : List Seg} (h : Good (g :: gs)) : Good gs := h.sub (List.sublist_cons_self g gs)
theorem parts_eq : ∀ {gs hs : List Seg}, Good gs → Good hs → gs.flatten = hs.flatten → rowOf gs = rowOf hs → gs = hs
  | [], [], _, _, _, _ => rfl
  | [], h :: hs, _, h2, ef, _ => by
    have n := h2.ne h List.mem_cons_self
    simp at ef
    exact absurd ef.1 n
  | g :: gs, [], h1, _, ef, _ => by
    have n := h1.ne g List.mem_cons_self
    simp at ef
    exact absurd ef.1 n
  | g :: gs, h :: hs, h1, h2, ef, er => by
    have l1 := run_le h1 (h2.ne h List.mem_cons_self) ef er
    have l2 := run_le h2 (h1.ne g List.mem_cons_self) ef.symm er.symm
    have l : g.length = h.length := by omega
    rw [List.flatten_cons, List.flatten_cons] at ef
    obtain ⟨e1, e2⟩ := List.append_inj ef l
    subst e1
    rw [rowOf_cons, rowOf_cons] at er
    have e3 := List.append_cancel_left er
    rw [parts_eq (good_tail h1) (good_tail h2) e2 e3]
/-- the stretches are the only ones of their kind -/
theorem good_segs {gs : List Seg} (h : Good gs) : gs = segs gs.flatten := by
  have hp := h.flat
  exact parts_eq h (Good.segs hp) (segs_flat hp).symm (kkt_unique hp (good_kkt h) (near_kkt hp))
/-! ### two rows that meet -/
theorem good_mid {ks rs : List Seg} {g : Seg} (hk : Good ks) (hr : Good rs) (h1 : Pos g) (h2 : g ≠ []) (h3 : Pre g) (hl : ∀ t, ks.getLast? = some t → mean t < mean g) (hh : ∀ t, rs.head? = some t → mean g < mean t) : Good (ks ++ [g] ++ rs) := by
  have kl : ∀ t, t ∈ ks → mean t < mean g := fun t ht => by
    rcases List.eq_nil_or_concat ks with rfl | ⟨b, z, e⟩
    · cases ht
    · rw [List.concat_eq_append] at e
      subst e
      have lz := hl z (by simp)
      rcases List.mem_append.mp ht with ht | ht
      · have := (List.pairwise_append.mp hk.inc).2.2 t ht z (by simp)
        grind
      · rw [List.mem_singleton.mp ht]; exact lz
  have rl : ∀ t, t ∈ rs → mean g < mean t := fun t ht => by
    cases rs with
    | nil => cases ht
    | cons z r =>
      have lz := hh z rfl
      rcases List.mem_cons.mp ht with rfl | ht
      · exact lz
      · have := (List.pairwise_cons.mp hr.inc).1 t ht
        grind
  refine ⟨fun x m => ?_, fun x m => ?_, fun x m => ?_, ?_⟩
  · rcases List.mem_append.mp m with m | m
    · rcases List.mem_append.mp m with m | m
      · exact hk.pos x m
      · rw [List.mem_singleton.mp m]; exact h1
    · exact hr.pos x m
  · rcases List.mem_append.mp m with m | m
    · rcases List.mem_append.mp m with m | m
      · exact hk.ne x m
      · rw [List.mem_singleton.mp m]; exact h2
    · exact hr.ne x m
  · rcases List.mem_append.mp m with m | m
    · rcases List.mem_append.mp m with m | m
      · exact hk.pre x m
      · rw [List.mem_singleton.mp m]; exact h3
    · exact hr.pre x m
  · rw [List.pairwise_append, List.pairwise_append]
    refine ⟨⟨hk.inc, List.pairwise_singleton _ _, fun a ha b hb => by rw [List.mem_singleton.mp hb]; exact kl a ha⟩, hr.inc, fun a ha b hb => ?_⟩
    rcases List.mem_append.mp ha with ha | ha
    · have := kl a ha
      have := rl b hb
      grind
    · rw [List.mem_singleton.mp ha]; exact rl b hb
/-- whether a row of stretches falls where the next one begins -/
def fallsB (gs hs : List Seg) : Bool := match gs.getLast?, hs.head? with
  | some a, some b => !decide (mean a < mean b)
  | _, _ => false
/-- two rows of stretches, all small -/
structure MetOk (gs hs : List Seg) : Prop where
  one : Good gs
  two : Good hs
  gd : Gd (gs.flatten ++ hs.flatten)
theorem MetOk.gone {gs hs : List Seg} (h : MetOk gs hs) : Gd gs.flatten := h.gd.sub (List.sublist_append_left _ _)
theorem MetOk.gtwo {gs hs : List Seg} (h : MetOk gs hs) : Gd hs.flatten := h.gd.sub (List.sublist_append_right _ _)
/-- what was joined where they met: i stretches stay of the first row, all from j on of the second -/
structure MetS (gs hs : List Seg) (i j : Nat) (g : Seg) : Prop where
  hi : i < gs.length
  j0 : 0 < j
  hj : j ≤ hs.length
  ne : g ≠ []
  pre : Pre g
  fl : (gs.take i).flatten ++ g ++ (hs.drop j).flatten = gs.flatten ++ hs.flatten
theorem MetS.pos {gs hs : List Seg} {i j : Nat} {g : Seg} (h : MetS gs hs i j g) (m : MetOk gs hs) : Pos g := fun x hx => m.gd.pos x (by rw [← h.fl]; simp [hx])
theorem MetS.gdl {gs hs : List Seg} {i j : Nat} {g : Seg} (h : MetS gs hs i j g) (m : MetOk gs hs) : Gd ((gs.take i).flatten ++ g ++ (hs.drop j).flatten) := by rw [h.fl]; exact m.gd
theorem MetS.good {gs hs : List Seg} {i j : Nat} {g : Seg} (h : MetS gs hs i j g) (m : MetOk gs hs) (hl : ∀ t, (gs.take i).getLast? = some t → mean t < mean g) (hh : ∀ t, (hs.drop j).head? = some t → mean g < mean t) : gs.take i ++ [g] ++ hs.drop j = segs (gs.flatten ++ hs.flatten) := by
  have := good_segs (good_mid (m.one.sub (List.take_sublist i gs)) (m.two.sub (List.drop_sublist j hs)) (h.pos m) h.ne h.pre hl hh)
  rw [this]
  congr 1
  rw [← h.fl]
  simp
theorem met_none {gs hs : List Seg} (m : MetOk gs hs) (h : fallsB gs hs = false) : gs ++ hs = segs (gs.flatten ++ hs.flatten) := by
  have hg : Good (gs ++ hs) := by
    rcases List.eq_nil_or_concat gs with rfl | ⟨b, z, e⟩
    · exact m.two
    · rw [List.concat_eq_append] at e
      subst e
      have z1 := m.one
      have zm : z ∈ b ++ [z] := by simp
      refine good_mid (ks := b) (g := z) (rs := hs) (z1.sub (List.sublist_append_left _ _)) m.two (z1.pos z zm) (z1.ne z zm) (z1.pre z zm) (fun t ht => ?_) fun t ht => ?_
      · exact (List.pairwise_append.mp z1.inc).2.2 t (List.mem_of_getLast? ht) z (by simp)
      · unfold fallsB at h
        rw [List.getLast?_append, ht] at h
        simpa using h
  have := good_segs hg
  rw [List.flatten_append] at this
  exact this
theorem hpsD_take : ∀ (k : Nat) (a : List Seg) (i : Nat), (hpsD k a).take i = hpsD k (a.take i)
  | k, [], i => by simp [hpsD]
  | k, g :: a, 0 => rfl
  | k, g :: a, i + 1 => by
    show hpD k g :: (hpsD (k + g.length) a).take i = hpD k g :: hpsD (k + g.length) (a.take i)
    rw [hpsD_take]
theorem hpsD_drop : ∀ (k : Nat) (a : List Seg) (i : Nat), (hpsD k a).drop i = hpsD (k + (a.take i).flatten.length) (a.drop i)
  | k, [], i => by simp [hpsD]
  | k, g :: a, 0 => rfl
  | k, g :: a, i + 1 => by
    show (hpsD (k + g.length) a).drop i = _
    rw [hpsD_drop, List.take_succ_cons, List.flatten_cons, List.length_append, Nat.add_assoc]
    rfl
theorem MetS.at {gs hs : List Seg} {i j : Nat} {g : Seg} (h : MetS gs hs i j g) : gs.flatten.length + (hs.take j).flatten.length = (gs.take i).flatten.length + g.length := by
  have e := congrArg List.length h.fl
  have e2 : hs.flatten.length = (hs.take j).flatten.length + (hs.drop j).flatten.length := by
    rw [← List.length_append, ← List.flatten_append, List.take_append_drop]
  simp only [List.length_append] at e
  omega
/-- a heap numbered on -/
def shD (m : Int) : PyData → PyData
  | .tuple [.int a, .int b, w, x] => .tuple [.int (a + m), .int (b + m), w, x]
  | d => d
theorem hpsD_sh (m : Nat) : ∀ (k : Nat) (a : List Seg), (hpsD k a).map (shD (m : Int)) = hpsD (k + m) a
  | k, [] => rfl
  | k, g :: a => by
    show shD (m : Int) (hpD k g) :: (hpsD (k + g.length) a).map (shD (m : Int)) = hpD (k + m) g :: hpsD (k + m + g.length) a
    rw [hpsD_sh m, show k + g.length + m = k + m + g.length by omega]
    show PyData.tuple [.int ((k : Int) + m), .int (((k + g.length : Nat) : Int) + m), _, _] :: _ = PyData.tuple [.int ((k + m : Nat) : Int), .int ((k + m + g.length : Nat) : Int), _, _] :: _
    rw [show ((k : Nat) : Int) + (m : Int) = ((k + m : Nat) : Int) by omega, show ((k + g.length : Nat) : Int) + (m : Int) = ((k + m + g.length : Nat) : Int) by omega]
theorem few_len {gs : List Seg} (h : ∀ g, g ∈ gs → g ≠ []) : gs.length ≤ gs.flatten.length := by
  induction gs with
  | nil => exact Nat.le_refl _
  | cons g gs ih =>
    have := ih fun x m => h x (List.mem_cons_of_mem _ m)
    have := List.length_pos_iff.mpr (h g List.mem_cons_self)
    rw [List.flatten_cons, List.length_append, List.length_cons]
    omega
theorem rd_neEq {K : PySem.W.Frag} {Q : Rs → Prop} {d e : PyData} {n : Nat} (h : Pl n d) (hn : n ≤ 64) (he : e = d) (q : Q (.v (.bool false))) : RD K (rNeD K) d e Q := by
  subst he
  exact rd_neD (h.shaped hn) (h.shaped hn) (by rw [SeqAt.eqv_refl _ h.1]; exact q)
theorem rd_eqEq {K : PySem.W.Frag} {Q : Rs → Prop} {d e : PyData} {n : Nat} (h : Pl n d) (hn : n ≤ 64) (he : e = d) (q : Q (.v (.bool true))) : RD K (rEqD K) d e Q := by
  subst he
  exact rd_eqD (h.shaped hn) (h.shaped hn) (by rw [SeqAt.eqv_refl _ h.1]; exact q)
/-- what met tells of two rows -/
def MetT (gs hs : List Seg) (told : PyData) : Prop := (fallsB gs hs = false ∧ told = .tuple [.int (gs.length : Int), .none, .int (hs.length : Int)]) ∨ (fallsB gs hs = true ∧ ∃ (i j : Nat) (g : Seg), MetS gs hs i j g ∧ gs.take i ++ [g] ++ hs.drop j = segs (gs.flatten ++ hs.flatten) ∧ told = .tuple [.int (i : Int), hpD (gs.take i).flatten.length g, .int ((hs.length - j : Nat) : Int)])
theorem cut_init {α : Type} (xs : List α) (z : α) : cutD (xs ++ [z]) none (some (-1)) = xs := by
  unfold cutD
  rw [HT.sIx_none]
  have e : HT.sIx (xs ++ [z]).length (xs ++ [z]).length (some (-1)) = xs.length := by
    unfold HT.sIx
    simp
    omega
  rw [e]
  simp
theorem cut_one {α : Type} (z : α) (xs : List α) : cutD (z :: xs) (some 1) none = xs := by
  have := cut_from (z :: xs) 1
  exact this
theorem emp_snoc (b : List Seg) (t : Seg) (k : Nat) : (hpsD k (b ++ [t])).isEmpty = false := by rw [hpsD_snoc]; cases hpsD k b <;> rfl
end DL

set_option Elab.async false
set_option linter.all false
set_option maxRecDepth 100000
/-! HPB: slices of tuples; judges of mixed items, of anything; pulls. -/
namespace DL
open PySem PySem.Spec PyProof.Rows L2 Evl RQ HP
variable {xw : Xw}
theorem cutD_whole {α : Type} (xs : List α) {lo hi : Option Int} (h : HT.sIx xs.length 0 lo = 0 ∧ HT.sIx xs.length xs.length hi = xs.length) : cutD xs lo hi = xs := by
  unfold cutD
  rw [h.1, h.2]
  simp
/-- t[lo:hi] of a tuple -/
theorem we_slT {K : PySem.W.Frag} {Δ : List Ent} {te : TE} {tl th : TO} {Q : Rs → Prop} (h : WEx K xw te Δ fun r => ∃ ds, r.d = .tuple ds ∧ WOx K xw tl Δ fun lo => WOx K xw th Δ fun hi => Q (.v (.tuple (cutD ds lo hi)))) : WEx K xw (tSl (rSlA K) te tl th) Δ Q := fun A H0 H σ E Qh k =>
  h A H0 H σ E _ fun v H1 r e1 E1 ok ⟨ds, hd, w1⟩ => w1 A H0 H1 σ E1 _ fun lo H2 e2 E2 w2 => w2 A H0 H2 σ E2 _ fun hi H3 e3 E3 q => by
    have hv := ok.dp
    rw [hd] at hv
    have hv3 := hv.up (e2.trans e3).all
    cases hv3 with
    | @tup a xs _ hs ha =>
      refine ⟨a, xs, rfl, ex_t wo_ex hs, fun hw => ?_, fun hw p hp => ?_⟩
      · rw [ha.length] at hw
        have q' : Q (.v (.tuple (cutD ds lo hi))) := q
        rw [cutD_whole ds hw] at q'
        exact k _ _ (.v (.tuple ds)) ((e1.trans e2).trans e3) E3 (Dp.tup hs ha) q'
      · have e4 : Ex H3 (upd H3 p (.tup (cutV xs lo hi))) := Ex.new hp
        have hc : DpAll K (wo H3 (A ++ ads Δ)) (cutV xs lo hi) (cutD ds lo hi) := by
          unfold cutV cutD
          rw [ha.length]
          exact (ha.drop _).take _
        exact k _ _ (.v (.tuple (cutD ds lo hi))) (((e1.trans e2).trans e3).trans (Kp.of e4)) (E3.ext e4) (Dp.tup (.inl (.inl (wo_mk (fun m => E3.domAll m hp) upd_same))) (hc.up (wo_le e4))) q
/-! ### judges of anything -/
def frQ : PyData → Rat
  | .tuple [.int a, .int b] => Rat.divInt a b
  | _ => 0
theorem frQ_q (q : Rat) : frQ (qD q) = q := Rat.num_divInt_den q
theorem isFrac_frQ {d : PyData} (h : isFrac d = true) : d = qD (frQ d) := by
  obtain ⟨q, rfl⟩ := isFrac_is h
  rw [frQ_q]
def areFr (n : Nat) : PyData → Bool
  | .tuple ds => decide (ds.length = n) && ds.all isFrac
  | _ => false
def mixOk (m : Mx) : Bool := !(decide (m.2.1 < 0) || (decide (m.2.2.1 < 0) || decide (m.2.2.2 < 0))) && (decide (0 < m.2.1) || (decide (0 < m.2.2.1) && decide (0 < m.2.2.2)))
/-- a thing can be judged: its tuples are short, its fractions small -/
def Jd (d : PyData) : Prop := ∀ xs, d = .tuple xs → xs.length ≤ 1000 ∧ ∀ x, x ∈ xs → isFrac x = true → Rsz qB (frQ x)
def mxOf : List PyData → Mx
  | [v, w, u, e] => (frQ v, frQ w, frQ u, frQ e)
  | _ => (0, 0, 0, 0)
def isMixI (d : PyData) : Bool := areFr 4 d && (match d with | .tuple xs => mixOk (mxOf xs) | _ => false)
theorem areFr4 {d : PyData} (h : areFr 4 d = true) : ∃ m : Mx, d = mxD m ∧ isMixI d = mixOk m := by
  unfold areFr at h
  split at h
  · rename_i ds
    rw [Bool.and_eq_true, decide_eq_true_iff, List.all_eq_true] at h
    obtain ⟨hl, ha⟩ := h
    match ds, hl, ha with
    | [v, w, u, e], _, ha =>
      have h1 := isFrac_frQ (ha v (by simp))
      have h2 := isFrac_frQ (ha w (by simp))
      have h3 := isFrac_frQ (ha u (by simp))
      have h4 := isFrac_frQ (ha e (by simp))
      refine ⟨(frQ v, frQ w, frQ u, frQ e), ?_, ?_⟩
      · show PyData.tuple [v, w, u, e] = PyData.tuple [qD (frQ v), qD (frQ w), qD (frQ u), qD (frQ e)]
        rw [← h1, ← h2, ← h3, ← h4]
      · unfold isMixI
        have : areFr 4 (.tuple [v, w, u, e]) = true := by
          show (decide ([v, w, u, e].length = 4) && [v, w, u, e].all isFrac) = true
          rw [Bool.and_eq_true, decide_eq_true_iff, List.all_eq_true]
          exact ⟨rfl, ha⟩
        rw [this]
        rfl
  · cases h
theorem isMixI_mx (m : Mx) : isMixI (mxD m) = mixOk m := by
  have : areFr 4 (mxD m) = true := by
    show (decide ([qD m.1, qD m.2.1, qD m.2.2.1, qD m.2.2.2].length = 4) && [qD m.1, qD m.2.1, qD m.2.2.1, qD m.2.2.2].all isFrac) = true
    rw [Bool.and_eq_true, decide_eq_true_iff, List.all_eq_true]
    refine ⟨rfl, fun x hx => ?_⟩
    simp only [List.mem_cons, List.not_mem_nil, or_false] at hx
    rcases hx with rfl | rfl | rfl | rfl <;> exact isFrac_q _
  unfold isMixI
  rw [this]
  show (true && mixOk (frQ (qD m.1), frQ (qD m.2.1), frQ (qD m.2.2.1), frQ (qD m.2.2.2))) = _
  rw [frQ_q, frQ_q, frQ_q, frQ_q]
  rfl
theorem isMixI_no {d : PyData} (h : areFr 4 d = false) : isMixI d = false := by
  unfold isMixI
  rw [h]
  rfl
def isMix : PyData → Bool
  | .list xs => !xs.isEmpty && xs.all isMixI
  | _ => false
/-! ### pulls -/
def pulLo (m : Mx) (x : Rat) : Rat := if m.1 < x then m.2.1 * (x - m.1) + m.2.2.1 else if x < m.1 then m.2.1 * (x - m.1) - m.2.2.2 else -m.2.2.2
def pulHi (m : Mx) (x : Rat) : Rat := if m.1 < x then m.2.1 * (x - m.1) + m.2.2.1 else if x < m.1 then m.2.1 * (x - m.1) - m.2.2.2 else m.2.2.1
structure MxOk (m : Mx) : Prop where
  w : 0 ≤ m.2.1
  u : 0 ≤ m.2.2.1
  d : 0 ≤ m.2.2.2
theorem pul_le {m : Mx} (h : MxOk m) (x : Rat) : pulLo m x ≤ pulHi m x := by
  have := h.u
  have := h.d
  unfold pulLo pulHi
  split
  · exact Rat.le_refl
  · split
    · exact Rat.le_refl
    · grind
theorem mulnn {a b : Rat} (ha : 0 ≤ a) (hb : 0 ≤ b) : 0 ≤ a * b := Rat.mul_nonneg ha hb
/-- each cost lies above each of its pulls -/
theorem cost_rises {m : Mx} (h : MxOk m) {x y s : Rat} (hs : s = pulLo m x ∨ s = pulHi m x) : s * (y - x) + 1 / 2 * (m.2.1 * ((y - x) * (y - x))) ≤ costM m y - costM m x := by
  obtain ⟨v, w, u, d⟩ := m
  have hu : 0 ≤ u := h.u
  have hd : 0 ≤ d := h.d
  have e : ∀ t : Rat, costM (v, w, u, d) t = w * ((t - v) * (t - v)) / 2 + (if 0 < t - v then u * (t - v) else -(d * (t - v))) := fun t => by
    unfold costM
    show (if 0 < t - v then w * ((t - v) * (t - v)) / 2 + u * (t - v) else w * ((t - v) * (t - v)) / 2 - d * (t - v)) = _
    split <;> grind
  rw [e, e]
  have key : ∀ p : Rat, (p * (y - x) ≤ (if 0 < y - v then u * (y - v) else -(d * (y - v))) - (if 0 < x - v then u * (x - v) else -(d * (x - v)))) → (w * (x - v) + p) * (y - x) + 1 / 2 * (w * ((y - x) * (y - x))) ≤ w * ((y - v) * (y - v)) / 2 + (if 0 < y - v then u * (y - v) else -(d * (y - v))) - (w * ((x - v) * (x - v)) / 2 + (if 0 < x - v then u * (x - v) else -(d * (x - v)))) := fun p hp => by grind
  have up : v < x → u * (y - x) ≤ (if 0 < y - v then u * (y - v) else -(d * (y - v))) - (if 0 < x - v then u * (x - v) else -(d * (x - v))) := fun c => by
    rw [if_pos (show 0 < x - v by grind)]
    split
    · grind
    · have := mulnn hu (show 0 ≤ v - y by grind)
      have := mulnn hd (show 0 ≤ v - y by grind)
      grind
  have dn : x < v → -d * (y - x) ≤ (if 0 < y - v then u * (y - v) else -(d * (y - v))) - (if 0 < x - v then u * (x - v) else -(d * (x - v))) := fun c => by
    rw [if_neg (show ¬ 0 < x - v by grind)]
    split
    · have := mulnn hu (show 0 ≤ y - v by grind)
      have := mulnn hd (show 0 ≤ y - v by grind)
      grind
    · grind
  have at1 : x = v → -d * (y - x) ≤ (if 0 < y - v then u * (y - v) else -(d * (y - v))) - (if 0 < x - v then u * (x - v) else -(d * (x - v))) := fun c => by
    rw [if_neg (show ¬ 0 < x - v by grind), c]
    split
    · have := mulnn hu (show 0 ≤ y - v by grind)
      have := mulnn hd (show 0 ≤ y - v by grind)
      grind
    · grind
  have at2 : x = v → u * (y - x) ≤ (if 0 < y - v then u * (y - v) else -(d * (y - v))) - (if 0 < x - v then u * (x - v) else -(d * (x - v))) := fun c => by
    rw [if_neg (show ¬ 0 < x - v by grind), c]
    split
    · grind
    · have := mulnn hu (show 0 ≤ v - y by grind)
      have := mulnn hd (show 0 ≤ v - y by grind)
      grind
  have lo : pulLo (v, w, u, d) x = if v < x then w * (x - v) + u else if x < v then w * (x - v) - d else -d := rfl
  have hi : pulHi (v, w, u, d) x = if v < x then w * (x - v) + u else if x < v then w * (x - v) - d else u := rfl
  show s * (y - x) + 1 / 2 * (w * ((y - x) * (y - x))) ≤ _
  rw [lo, hi] at hs
  by_cases c1 : v < x
  · rw [if_pos c1, if_pos c1] at hs
    have : s = w * (x - v) + u := by rcases hs with h | h <;> exact h
    rw [this]
    exact key u (up c1)
  · rw [if_neg c1, if_neg c1] at hs
    by_cases c2 : x < v
    · rw [if_pos c2, if_pos c2] at hs
      have : s = w * (x - v) + -d := by rcases hs with h | h <;> grind
      rw [this]
      exact key (-d) (dn c2)
    · rw [if_neg c2, if_neg c2] at hs
      have ev : x = v := by grind
      have z : w * (x - v) = 0 := by rw [ev]; grind
      rcases hs with h | h
      · have := key (-d) (at1 ev)
        rw [z] at this
        rw [h]
        grind
      · have := key u (at2 ev)
        rw [z] at this
        rw [h]
        grind
/-- pulls never fall -/
theorem pul_rise {m : Mx} (h : MxOk m) {x y : Rat} (c : x < y) : pulHi m x ≤ pulLo m y := by
  obtain ⟨v, w, u, d⟩ := m
  have hw : 0 ≤ w := h.w
  have hu : 0 ≤ u := h.u
  have hd : 0 ≤ d := h.d
  have h1 := mulnn hw (show 0 ≤ y - x by grind)
  have lo : pulLo (v, w, u, d) y = if v < y then w * (y - v) + u else if y < v then w * (y - v) - d else -d := rfl
  have hi : pulHi (v, w, u, d) x = if v < x then w * (x - v) + u else if x < v then w * (x - v) - d else u := rfl
  rw [lo, hi]
  by_cases c1 : v < x
  · rw [if_pos c1, if_pos (show v < y by grind)]
    grind
  · rw [if_neg c1]
    by_cases c2 : x < v
    · rw [if_pos c2]
      have h2 := mulnn hw (show 0 ≤ v - x by grind)
      by_cases c3 : v < y
      · rw [if_pos c3]
        have := mulnn hw (show 0 ≤ y - v by grind)
        grind
      · rw [if_neg c3]
        by_cases c4 : y < v
        · rw [if_pos c4]; grind
        · rw [if_neg c4]; grind
    · rw [if_neg c2, if_pos (show v < y by grind)]
      have := mulnn hw (show 0 ≤ y - v by grind)
      grind
theorem half_q : PyData.tuple [.int 1, .int 2] = qD (1 / 2) := by
  unfold qD
  rw [show (1 / 2 : Rat).num = 1 by decide +kernel, show (1 / 2 : Rat).den = 2 by decide +kernel]
  rfl
theorem num_pos' {q : Rat} : 0 < q.num ↔ 0 < q := by
  constructor
  · intro h
    have h1 := Rat.num_nonneg.mp (show 0 ≤ q.num by omega)
    have h2 : q ≠ 0 := fun z => by rw [z] at h; exact absurd h (by decide)
    grind
  · intro h
    have h1 := Rat.num_nonneg.mpr (Rat.le_of_lt h)
    have h2 : q.num ≠ 0 := fun z => by rw [Rat.num_eq_zero.mp z] at h; exact Rat.lt_irrefl h
    omega
/-! ### a comprehension within a comprehension -/
theorem relabel_keeps {env : Env} {x : Str} : ∀ {names : List (Str × NameKind)} {k : NameKind}, names.lookup x = some k → (k = .cell ∨ k = .free) →
    (names.map fun (n, k) => if (k == NameKind.free && env.scope.kind == .function && env.kindOf n == some .cell) then (n, NameKind.cell) else (n, k)).lookup x = some .cell ∨ (names.map fun (n, k) => if (k == NameKind.free && env.scope.kind == .function && env.kindOf n == some .cell) then (n, NameKind.cell) else (n, k)).lookup x = some .free
  | [], _, h, _ => by simp at h
  | (n, k') :: r, k, h, hk => by
    have ih := @relabel_keeps env x r k
    show List.lookup x ((if (k' == NameKind.free && env.scope.kind == .function && env.kindOf n == some .cell) = true then (n, NameKind.cell) else (n, k')) :: _) = _ ∨ List.lookup x ((if (k' == NameKind.free && env.scope.kind == .function && env.kindOf n == some .cell) = true then (n, NameKind.cell) else (n, k')) :: _) = _
    cases hx : x == n with
    | true =>
      simp only [List.lookup_cons, hx] at h
      cases h
      by_cases hc : (k' == NameKind.free && env.scope.kind == .function && env.kindOf n == some .cell) = true
      · rw [if_pos hc]
        exact .inl (by simp [List.lookup_cons, hx])
      · rw [if_neg hc]
        rcases hk with rfl | rfl
        · exact .inl (by simp [List.lookup_cons, hx])
        · exact .inr (by simp [List.lookup_cons, hx])
    | false =>
      simp only [List.lookup_cons, hx] at h
      by_cases hc : (k' == NameKind.free && env.scope.kind == .function && env.kindOf n == some .cell) = true
      · rw [if_pos hc]; simp only [List.lookup_cons, hx]; exact ih h hk
      · rw [if_neg hc]; simp only [List.lookup_cons, hx]; exact ih h hk
theorem blkOk_in {N : List Str} {sc scope : Scope} {own : List (Str × Nat)} {env : Env} (h : blkC N sc scope own = true) : BlkOk N (relabel sc env) scope own := by
  have b := blkOk_by h
  refine ⟨b.kind, b.uniq, b.ix, fun y hy e => ?_, b.own⟩
  rcases b.free y hy e with h | h
  · exact relabel_keeps h (.inl rfl)
  · exact relabel_keeps h (.inr rfl)
end DL

set_option Elab.async false
set_option linter.all false
set_option maxRecDepth 100000
/-! HPC: tuple + tuple, min of a list; judges of pairs and priced items, of anything. -/
namespace DL
open PySem PySem.Spec PyProof.Rows L2 Evl RQ HP
variable {xw : Xw}
/-- tuple + tuple -/
theorem rd_catT {K : PySem.W.Frag} {Q : Rs → Prop} {a b : List PyData} (hz : a.length + b.length ≤ 100000) (q : Q (.v (.tuple (a ++ b)))) : RD K (rCatA K) (.tuple a) (.tuple b) Q := fun A H v1 v2 h1 h2 hA Qh k => by
  cases h1 with | @tup p xs _ hs ha => cases h2 with | @tup p2 ys _ hs2 hb =>
    refine ⟨p, p2, xs, ys, rfl, rfl, ex_t wo_ex hs, ex_t wo_ex hs2, sz_of (by rw [ha.length, hb.length]; exact hz), fun e => ?_, fun e e2 => ?_, fun e e2 l hl => ?_⟩
    · subst e
      cases ha
      exact k _ H (.v (.tuple b)) ex_id (Dp.tup hs2 hb) q
    · subst e2
      cases hb
      rw [List.append_nil] at q
      exact k _ H (.v (.tuple a)) ex_id (Dp.tup hs ha) q
    · have e4 : Ex H (upd H l (.tup (xs ++ ys))) := Ex.new hl
      exact k _ _ (.v (.tuple (a ++ b))) e4 (Dp.tup (.inl (.inl (wo_mk (fun m => hA l m hl) upd_same))) ((ha.app hb).up (wo_le e4))) q
/-- the least of a list of whole numbers -/
theorem cd_minL {K : PySem.W.Frag} {Q : Rs → Prop} {ns : List Int} (hn : 0 < ns.length) (q : ∀ m, m ∈ ns → (∀ y, y ∈ ns → m ≤ y) → Q (.v (.int m))) : CD K (rMin K) [.list (ns.map .int)] Q := fun A H vs h _ Qh k => by
  cases h with | cons h1 h2 =>
    cases h2
    cases h1 with | lst hs ha =>
      have := ha.ints_inv
      subst this
      exact ⟨_, ns, rfl, ex_l wo_ex hs, hn, fun m hm hl => k _ H (.v (.int m)) ex_id (Dp.int _) (q m hm hl)⟩
theorem areFr_is {n : Nat} {d : PyData} (h : areFr n d = true) : ∃ qs : List Rat, qs.length = n ∧ d = .tuple (qs.map qD) := by
  unfold areFr at h
  split at h
  · rename_i ds
    rw [Bool.and_eq_true, decide_eq_true_iff, List.all_eq_true] at h
    refine ⟨ds.map frQ, by rw [List.length_map]; exact h.1, ?_⟩
    rw [List.map_map]
    congr 1
    have : ds.map (qD ∘ frQ) = ds.map id := List.map_congr_left fun x hx => (isFrac_frQ (h.2 x hx)).symm
    rw [this, List.map_id]
  · cases h
theorem areFr_q (qs : List Rat) : areFr qs.length (.tuple (qs.map qD)) = true := by
  show (decide ((qs.map qD).length = qs.length) && (qs.map qD).all isFrac) = true
  rw [Bool.and_eq_true, decide_eq_true_iff, List.all_eq_true, List.length_map]
  refine ⟨rfl, fun x hx => ?_⟩
  obtain ⟨q, _, rfl⟩ := List.mem_map.mp hx
  exact isFrac_q q
/-- what the numbers behind the first one must be -/
def itmOk : List Rat → Bool
  | [_, w] => decide (0 < w)
  | [_, u, w] => decide (0 < u) && decide (0 < w)
  | [v, w, u, e] => mixOk (v, w, u, e)
  | _ => false
def qsOf : PyData → List Rat
  | .tuple xs => xs.map frQ
  | _ => []
def isItm (n : Nat) (d : PyData) : Bool := areFr n d && itmOk (qsOf d)
theorem qsOf_q (qs : List Rat) : qsOf (.tuple (qs.map qD)) = qs := by
  show (qs.map qD).map frQ = qs
  rw [List.map_map]
  have : qs.map (frQ ∘ qD) = qs.map id := List.map_congr_left fun x _ => frQ_q x
  rw [this, List.map_id]
theorem isItm_q {n : Nat} {qs : List Rat} (h : qs.length = n) : isItm n (.tuple (qs.map qD)) = itmOk qs := by
  subst h
  unfold isItm
  rw [areFr_q, qsOf_q]
  rfl
theorem isItm_no {n : Nat} {d : PyData} (h : areFr n d = false) : isItm n d = false := by
  unfold isItm
  rw [h]
  rfl
theorem isItm_mix (d : PyData) : isItm 4 d = isMixI d := by
  cases h : areFr 4 d with
  | false => rw [isItm_no h, isMixI_no h]
  | true =>
    obtain ⟨qs, hl, rfl⟩ := areFr_is h
    match qs, hl with
    | [v, w, u, e], _ =>
      rw [isItm_q (n := 4) (qs := [v, w, u, e]) rfl]
      exact (isMixI_mx (v, w, u, e)).symm
def areItms (n : Nat) : PyData → Bool
  | .list xs => !xs.isEmpty && xs.all (isItm n)
  | _ => false
theorem areItms_mix (d : PyData) : areItms 4 d = isMix d := by
  cases d with
  | list xs =>
    show (!xs.isEmpty && xs.all (isItm 4)) = (!xs.isEmpty && xs.all isMixI)
    rw [show isItm 4 = isMixI from funext isItm_mix]
  | _ => rfl
end DL

set_option Elab.async false
set_option linter.all false
set_option maxRecDepth 100000
/-! HPD: what can be told by repr; orders, bounds and links, judged of anything; what is closed behind enough turns. -/
namespace DL
open PySem PySem.Spec PyProof.Rows L2 Evl RQ HP
variable {xw : Xw}
theorem if_bT {b : Bool} {A B : Prop} (h : b = true) (a : A) : if b = true then A else B := by rw [if_pos h]; exact a
theorem if_bF {b : Bool} {A B : Prop} (h : b = false) (a : B) : if b = true then A else B := by rw [h]; exact a
theorem tells_all : ∀ {ds : List PyData}, (∀ d, d ∈ ds → tellable d = true) → tellables ds = true
  | [], _ => by simp [tellables]
  | d :: r, h => by
    simp only [tellables, Bool.and_eq_true]
    exact ⟨h d List.mem_cons_self, tells_all fun x m => h x (List.mem_cons_of_mem _ m)⟩
theorem nodes_all {k : Nat} : ∀ {ds : List PyData}, (∀ d, d ∈ ds → nodes d ≤ k) → nodesAll ds ≤ ds.length * k
  | [], _ => by simp [nodesAll]
  | d :: r, h => by
    have h1 := h d List.mem_cons_self
    have h2 := nodes_all (ds := r) fun x m => h x (List.mem_cons_of_mem _ m)
    simp only [nodesAll, List.length_cons]
    have : (r.length + 1) * k = r.length * k + k := Nat.succ_mul _ _
    omega
/-- plain, no deeper than k, can be told, no more than n nodes -/
structure Tl (k n : Nat) (d : PyData) : Prop where
  pl : Pl k d
  tl : tellable d = true
  nd : nodes d ≤ n
theorem Tl.mono {k n k' n' : Nat} {d : PyData} (h : Tl k n d) (h1 : k ≤ k') (h2 : n ≤ n') : Tl k' n' d := ⟨h.pl.mono h1, h.tl, Nat.le_trans h.nd h2⟩
theorem tl_q {b : Nat} {q : Rat} (h : Rsz b q) (hb : b ≤ 1920) : Tl 1 3 (qD q) := ⟨pl_q q, tell_q h hb, by rw [nodes_q]; exact Nat.le_refl _⟩
theorem tl_int {k n : Nat} {i : Int} (h : i.natAbs < 2 ^ 1000) (hn : 1 ≤ n) : Tl k n (.int i) := ⟨pl_int i k, by simp only [tellable, decide_eq_true_eq]; exact log_of_lt h (by decide), by simp only [nodes]; exact hn⟩
theorem sm1000 {i : Int} (h : i.natAbs ≤ 1000000) : i.natAbs < 2 ^ 1000 := Nat.lt_of_le_of_lt h (by decide +kernel)
theorem tl_bool {k n : Nat} (b : Bool) (hn : 1 ≤ n) : Tl k n (.bool b) := ⟨pl_bool b k, by simp [tellable], by simp only [nodes]; exact hn⟩
theorem tl_none {k n : Nat} (hn : 1 ≤ n) : Tl k n .none := ⟨by simp [Pl, PyData.canLay0, PyData.depth], by simp [tellable], by simp only [nodes]; exact hn⟩
theorem tl_list {k n : Nat} {ds : List PyData} (h : ∀ d, d ∈ ds → Tl k n d) : Tl (k + 1) (ds.length * n + 1) (.list ds) := ⟨pl_list fun d m => (h d m).pl, by simp only [tellable]; exact tells_all fun d m => (h d m).tl, by
  have := nodes_all (ds := ds) fun d m => (h d m).nd
  simp only [nodes]
  omega⟩
theorem tl_tup {k n : Nat} {ds : List PyData} (h : ∀ d, d ∈ ds → Tl k n d) : Tl (k + 1) (ds.length * n + 1) (.tuple ds) := ⟨pl_tup fun d m => (h d m).pl, by simp only [tellable]; exact tells_all fun d m => (h d m).tl, by
  have := nodes_all (ds := ds) fun d m => (h d m).nd
  simp only [nodes]
  omega⟩
theorem tl_map {α : Type} {k n m : Nat} {l : List α} {f : α → PyData} (h : ∀ x, x ∈ l → Tl k n (f x)) (hm : l.length ≤ m) : Tl (k + 1) (m * n + 1) (.list (l.map f)) := (tl_list fun d hd => by
  obtain ⟨x, hx, rfl⟩ := List.mem_map.mp hd
  exact h x hx).mono (Nat.le_refl _) (by rw [List.length_map]; exact Nat.succ_le_succ (Nat.mul_le_mul_right _ hm))
theorem cd_tl {K : PySem.W.Frag} {Q : Rs → Prop} {d : PyData} {k n : Nat} (h : Tl k n d) (hk : k ≤ 64) (hn : n ≤ 8000) (q : Q (.v (.str d.shown))) : CD K (rRepr K) [d] Q :=
  cd_tell (h.pl.shaped hk) h.tl (Nat.le_trans h.nd hn) q
/-! ### whole numbers in lists -/
theorem eqv_int (a b : Int) : PyData.eqv (.int a) (.int b) = decide (a = b) := by
  simp only [PyData.eqv]
  by_cases h : a = b
  · subst h; simp
  · rw [decide_eq_false h]; simp [h]
abbrev naD (k : Nat) : PyData := .int (k : Int)
theorem eqv_na (a b : Nat) : PyData.eqv (naD a) (naD b) = decide (a = b) := by
  rw [eqv_int]
  exact decide_eq_decide.mpr (by omega)
theorem any_na (l : List Nat) (x : Nat) : ((l.map naD).any fun z => PyData.eqv z (naD x)) = decide (x ∈ l) := by
  induction l with
  | nil => simp
  | cons y l ih =>
    rw [List.map_cons, List.any_cons, ih, eqv_na]
    by_cases h1 : y = x
    · subst h1; simp
    · rw [decide_eq_false h1, Bool.false_or]
      exact decide_eq_decide.mpr ⟨fun m => List.mem_cons_of_mem _ m, fun m => (List.mem_cons.mp m).resolve_left fun e => h1 e.symm⟩
theorem sh_nas (l : List Nat) : SeqAt.shaped (.list (l.map naD)) = true := Pl.shaped (n := 1) (pl_list fun d hd => by
  obtain ⟨x, _, rfl⟩ := List.mem_map.mp hd
  exact pl_int _ _) (by decide)
theorem rd_inNa {K : PySem.W.Frag} {Q : Rs → Prop} {x : Nat} {l : List Nat} (q : Q (.v (.bool (decide (x ∈ l))))) : RD K (rInA K) (.int (x : Int)) (.list (l.map naD)) Q :=
  rd_inAL (shaped_int _) (sh_nas l) (by rw [any_na]; exact q)
theorem rd_notInNa {K : PySem.W.Frag} {Q : Rs → Prop} {x : Nat} {l : List Nat} (q : Q (.v (.bool (!decide (x ∈ l))))) : RD K (rNotInA K) (.int (x : Int)) (.list (l.map naD)) Q :=
  rd_notInAL (shaped_int _) (sh_nas l) (by rw [any_na]; exact q)
theorem rd_neNa {K : PySem.W.Frag} {Q : Rs → Prop} {a b : List Nat} (q : Q (.v (.bool (!decide (a = b))))) : RD K (rNeD K) (.list (a.map naD)) (.list (b.map naD)) Q :=
  rd_neD (sh_nas a) (sh_nas b) (by rw [eqv_listmap eqv_na]; exact q)
/-! ### ends, bounds, orders, links -/
def oqD : Option Rat → PyData
  | none => .none
  | some q => qD q
abbrev Bd := Option Rat × Option Rat
abbrev bdD (b : Bd) : PyData := .tuple [oqD b.1, oqD b.2]
abbrev Od := Nat × Nat
abbrev odD (o : Od) : PyData := .tuple [naD o.1, naD o.2]
abbrev Lk := Nat × Nat × Rat
abbrev lkD (o : Lk) : PyData := .tuple [naD o.1, naD o.2.1, qD o.2.2]
def isNum (n : Nat) : PyData → Bool
  | .int a => decide (0 ≤ a) && decide (a < (n : Int))
  | _ => false
theorem isNum_is {n : Nat} {d : PyData} (h : isNum n d = true) : ∃ k : Nat, d = naD k ∧ k < n := by
  cases d with
  | int a =>
    simp only [isNum, Bool.and_eq_true, decide_eq_true_eq] at h
    exact ⟨a.toNat, by show PyData.int a = .int _; congr 1; omega, by omega⟩
  | _ => cases h
theorem isNum_na {n k : Nat} (h : k < n) : isNum n (naD k) = true := by
  simp only [isNum, Bool.and_eq_true, decide_eq_true_eq]
  omega
def isOrd2 (n : Nat) : PyData → PyData → Bool
  | .int a, .int b => isNum n (.int a) && (isNum n (.int b) && !decide (a = b))
  | _, _ => false
def isOrd (n : Nat) : PyData → Bool
  | .tuple [x, y] => isOrd2 n x y
  | _ => false
def areOrds (n : Nat) : PyData → Bool
  | .list xs => xs.all (isOrd n)
  | _ => false
theorem isOrd_len {n : Nat} {xs : List PyData} (h : xs.length ≠ 2) : isOrd n (.tuple xs) = false := by
  match xs, h with
  | [], _ => rfl
  | [_], _ => rfl
  | [_, _], h => exact absurd rfl h
  | _ :: _ :: _ :: _, _ => rfl
theorem isOrd_no {n : Nat} {x y : PyData} (h : isNum n x = false ∨ isNum n y = false) : isOrd n (.tuple [x, y]) = false := by
  show isOrd2 n x y = false
  cases x <;> cases y <;> first | rfl | (simp only [isOrd2]; rcases h with h | h <;> rw [h] <;> simp)
theorem isOrd_od {n : Nat} {o : Od} (h1 : o.1 < n) (h2 : o.2 < n) (h3 : o.1 ≠ o.2) : isOrd n (odD o) = true := by
  show isOrd2 n (naD o.1) (naD o.2) = true
  simp only [isOrd2]
  rw [isNum_na h1, isNum_na h2, decide_eq_false (by omega)]
  rfl
@[reducible] def isNonD : PyData → Bool
  | .none => true
  | _ => false
def isEndD (d : PyData) : Bool := isNonD d || isFrac d
theorem isEndD_is {d : PyData} (h : isEndD d = true) : ∃ o : Option Rat, d = oqD o := by
  cases hn : isNonD d with
  | true => cases d <;> first | exact ⟨none, rfl⟩ | cases hn
  | false =>
    obtain ⟨q, e⟩ := isFrac_is (d := d) (by rw [isEndD, hn] at h; exact h)
    exact ⟨some q, e⟩
theorem isEndD_oq (o : Option Rat) : isEndD (oqD o) = true := by
  cases o with
  | none => rfl
  | some q => show (isNonD (qD q) || isFrac (qD q)) = true; rw [isFrac_q]; rfl
/-- a low that is not above a high -/
def bdOk : Bd → Bool
  | (some a, some b) => !decide (b < a)
  | _ => true
def eQ : PyData → Option Rat
  | .none => none
  | d => some (frQ d)
theorem eQ_oq (o : Option Rat) : eQ (oqD o) = o := by
  cases o with
  | none => rfl
  | some q => show some (frQ (qD q)) = some q; rw [frQ_q]
def isBnd : PyData → Bool
  | .tuple [x, y] => isEndD x && (isEndD y && bdOk (eQ x, eQ y))
  | _ => false
theorem isBnd_len {xs : List PyData} (h : xs.length ≠ 2) : isBnd (.tuple xs) = false := by
  match xs, h with
  | [], _ => rfl
  | [_], _ => rfl
  | [_, _], h => exact absurd rfl h
  | _ :: _ :: _ :: _, _ => rfl
theorem isBnd_bd (b : Bd) : isBnd (bdD b) = bdOk b := by
  show (isEndD (oqD b.1) && (isEndD (oqD b.2) && bdOk (eQ (oqD b.1), eQ (oqD b.2)))) = bdOk b
  rw [isEndD_oq, isEndD_oq, eQ_oq, eQ_oq]
  rfl
def areBnds (n : Nat) : PyData → Bool
  | .list xs => decide (xs.length = n) && xs.all isBnd
  | _ => false
/-- an end that can be reckoned with -/
def eSz (b : Nat) : Option Rat → Prop
  | none => True
  | some q => Rsz b q
theorem eSz.mono {b c : Nat} {o : Option Rat} (h : eSz b o) (hb : b ≤ c) : eSz c o := by
  cases o with
  | none => trivial
  | some q => exact Rsz.mono h hb
theorem tl_oq {b : Nat} {o : Option Rat} (h : eSz b o) (hb : b ≤ 1920) : Tl 1 3 (oqD o) := by
  cases o with
  | none => exact tl_none (by decide)
  | some q => exact tl_q h hb
theorem pl_oq (o : Option Rat) : Pl 1 (oqD o) := by
  cases o with
  | none => simp [oqD, Pl, PyData.canLay0, PyData.depth]
  | some q => exact pl_q q
theorem tl_bd {b : Nat} {x : Bd} (h1 : eSz b x.1) (h2 : eSz b x.2) (hb : b ≤ 1920) : Tl 2 7 (bdD x) := (tl_tup (k := 1) (n := 3) fun d hd => by
  simp only [List.mem_cons, List.not_mem_nil, or_false] at hd
  rcases hd with rfl | rfl
  · exact tl_oq h1 hb
  · exact tl_oq h2 hb).mono (by decide) (by simp)
theorem tl_od {o : Od} (h1 : o.1 ≤ 100000) (h2 : o.2 ≤ 100000) : Tl 1 3 (odD o) := (tl_tup (k := 0) (n := 1) fun d hd => by
  simp only [List.mem_cons, List.not_mem_nil, or_false] at hd
  rcases hd with rfl | rfl
  · exact tl_int (sm1000 (by omega)) (by decide)
  · exact tl_int (sm1000 (by omega)) (by decide)).mono (by decide) (by simp)
theorem eqv_none_q (q : Rat) : PyData.eqv (qD q) .none = false := by simp only [qD, PyData.eqv]
theorem eqv_none_none : PyData.eqv .none .none = true := by simp only [PyData.eqv]
theorem any_none (b : Bd) : ([oqD b.1, oqD b.2].any fun z => PyData.eqv z .none) = (b.1.isNone || b.2.isNone) := by
  obtain ⟨x, y⟩ := b
  cases x <;> cases y <;> simp [oqD, eqv_none_q, eqv_none_none]
theorem sh_bd2 (b : Bd) : SeqAt.shaped (.list [oqD b.1, oqD b.2]) = true := Pl.shaped (n := 2) (pl_list fun d hd => by
  simp only [List.mem_cons, List.not_mem_nil, or_false] at hd
  rcases hd with rfl | rfl <;> exact pl_oq _) (by decide)
theorem rd_nonInBd {K : PySem.W.Frag} {Q : Rs → Prop} {b : Bd} (q : Q (.v (.bool (b.1.isNone || b.2.isNone)))) : RD K (rInA K) .none (.tuple [oqD b.1, oqD b.2]) Q :=
  rd_inAT shaped_none (sh_bd2 b) (by rw [any_none]; exact q)
theorem rd_nonNotInBd {K : PySem.W.Frag} {Q : Rs → Prop} {b : Bd} (q : Q (.v (.bool (!(b.1.isNone || b.2.isNone))))) : RD K (rNotInA K) .none (.tuple [oqD b.1, oqD b.2]) Q :=
  rd_notInAT shaped_none (sh_bd2 b) (by rw [any_none]; exact q)
/-! ### closed behind enough turns -/
theorem iter_closed {α : Type} {s : α → α} {μ : α → Nat} {C : α → Prop} (h1 : ∀ x, ¬ C x → μ (s x) < μ x) (h2 : ∀ x, C x → C (s x)) : ∀ (n : Nat) (x : α), μ x ≤ n → C (Nat.repeat s n x)
  | 0, x, h => Classical.byContradiction fun c => absurd (h1 x c) (by show ¬ μ (s x) < μ x; omega)
  | n + 1, x, h => by
    show C (s (Nat.repeat s n x))
    by_cases c : C (Nat.repeat s n x)
    · exact h2 _ c
    · have key : ∀ m (y : α), μ y ≤ n + 1 → ¬ C (Nat.repeat s m y) → μ (Nat.repeat s m y) + m ≤ n + 1 := by
        intro m
        induction m with
        | zero => intro y hy _; simpa [Nat.repeat] using hy
        | succ m ih =>
          intro y hy c'
          have c2 : ¬ C (Nat.repeat s m y) := fun c3 => c' (h2 _ c3)
          have := ih y hy c2
          have := h1 _ c2
          show μ (s (Nat.repeat s m y)) + (m + 1) ≤ n + 1
          omega
      have k1 := key n x h c
      have k2 := h1 _ c
      exact Classical.byContradiction fun c4 => absurd (h1 _ c4) (by omega)
/-! ### upper sets -/
def cntF : List Bool → Nat
  | [] => 0
  | b :: r => (if b then 0 else 1) + cntF r
theorem cntF_le : ∀ f : List Bool, cntF f ≤ f.length
  | [] => Nat.le_refl _
  | b :: r => by
    have := cntF_le r
    simp only [cntF, List.length_cons]
    cases b <;> simp <;> omega
theorem cntF_set : ∀ {f : List Bool} {j : Nat}, f[j]? = some false → cntF (f.set j true) < cntF f
  | [], j, h => by simp at h
  | b :: r, 0, h => by
    simp only [List.getElem?_cons_zero, Option.some.injEq] at h
    subst h
    simp only [List.set_cons_zero, cntF]
    simp
  | b :: r, j + 1, h => by
    simp only [List.getElem?_cons_succ] at h
    have := cntF_set h
    simp only [List.set_cons_succ, cntF]
    omega
def rlx (f : List Bool) (o : Od) : List Bool := f.set o.2 (f.getD o.2 false || f.getD o.1 false)
theorem rlx_len (f : List Bool) (o : Od) : (rlx f o).length = f.length := by simp [rlx]
theorem rlxs_len : ∀ (os : List Od) (f : List Bool), (os.foldl rlx f).length = f.length
  | [], f => rfl
  | o :: os, f => by rw [List.foldl_cons, rlxs_len os, rlx_len]
theorem set_own {f : List Bool} {j : Nat} : f.set j (f.getD j false) = f := by
  apply List.ext_getElem?
  intro k
  rw [List.getElem?_set]
  by_cases h : j = k
  · subst h
    by_cases h2 : j < f.length
    · rw [if_pos rfl, if_pos h2, List.getD_eq_getElem?_getD, List.getElem?_eq_getElem h2]; rfl
    · rw [if_pos rfl, if_neg h2, List.getElem?_eq_none (by omega)]
  · rw [if_neg h]
theorem rlx_same {f : List Bool} {o : Od} (h : f.getD o.1 false = true → f.getD o.2 false = true) : rlx f o = f := by
  have e : (f.getD o.2 false || f.getD o.1 false) = f.getD o.2 false := by
    cases h1 : f.getD o.2 false with
    | true => rfl
    | false =>
      cases h2 : f.getD o.1 false with
      | false => rfl
      | true => rw [h h2] at h1; cases h1
  rw [rlx, e, set_own]
theorem rlx_less {f : List Bool} {o : Od} (h1 : f.getD o.1 false = true) (h2 : f.getD o.2 false = false) (hl : o.2 < f.length) : cntF (rlx f o) < cntF f := by
  rw [rlx, h1, h2]
  refine cntF_set ?_
  rw [List.getD_eq_getElem?_getD, List.getElem?_eq_getElem hl] at h2
  rw [List.getElem?_eq_getElem hl]
  exact congrArg some h2
def clsd (os : List Od) (f : List Bool) : Prop := ∀ o, o ∈ os → f.getD o.1 false = true → f.getD o.2 false = true
theorem rlxs_same : ∀ {os : List Od} {f : List Bool}, clsd os f → os.foldl rlx f = f
  | [], f, _ => rfl
  | o :: os, f, h => by
    rw [List.foldl_cons, rlx_same (h o List.mem_cons_self)]
    exact rlxs_same fun x m => h x (List.mem_cons_of_mem _ m)
theorem rlxs_le : ∀ {os : List Od} {f : List Bool}, (∀ o, o ∈ os → o.2 < f.length) → cntF (os.foldl rlx f) ≤ cntF f ∧ (¬ clsd os f → cntF (os.foldl rlx f) < cntF f)
  | [], f, _ => ⟨Nat.le_refl _, fun c => absurd (fun o m => by cases m) c⟩
  | o :: os, f, h => by
    have ih := rlxs_le (os := os) (f := rlx f o) fun x m => by rw [rlx_len]; exact h x (List.mem_cons_of_mem _ m)
    rw [List.foldl_cons]
    by_cases c : f.getD o.1 false = true → f.getD o.2 false = true
    · rw [rlx_same c] at ih ⊢
      refine ⟨ih.1, fun c2 => ih.2 fun c3 => c2 fun x m => ?_⟩
      rcases List.mem_cons.mp m with rfl | m
      · exact c
      · exact c3 x m
    · have h1 : f.getD o.1 false = true := Classical.byContradiction fun e => c fun e2 => absurd e2 e
      have h2 : f.getD o.2 false = false := by
        cases e : f.getD o.2 false with
        | false => rfl
        | true => exact absurd (fun _ => e) c
      have := rlx_less h1 h2 (h o List.mem_cons_self)
      exact ⟨by omega, fun _ => by omega⟩
theorem rep_len (os : List Od) : ∀ (n : Nat) (f : List Bool), (Nat.repeat (fun f => os.foldl rlx f) n f).length = f.length
  | 0, f => rfl
  | n + 1, f => by
    show (os.foldl rlx (Nat.repeat (fun f => os.foldl rlx f) n f)).length = _
    rw [rlxs_len, rep_len os n f]
theorem rep_clsd {os : List Od} {f : List Bool} (h : ∀ o, o ∈ os → o.2 < f.length) : clsd os (Nat.repeat (fun f => os.foldl rlx f) f.length f) := by
  refine iter_closed (s := fun f => os.foldl rlx f) (μ := cntF) (C := fun g => g.length = f.length → clsd os g) (fun g c => ?_) (fun g c hl => ?_) f.length f (cntF_le f) (rep_len os _ f)
  · have hg : g.length = f.length := Classical.byContradiction fun e => c fun e2 => absurd e2 e
    exact (rlxs_le fun o m => by rw [hg]; exact h o m).2 fun c2 => c fun _ => c2
  · rw [rlxs_len] at hl
    show clsd os (os.foldl rlx g)
    rw [rlxs_same (c hl)]
    exact c hl
theorem rlx_up {f : List Bool} {o : Od} {k : Nat} (h : f.getD k false = true) : (rlx f o).getD k false = true := by
  rw [rlx, List.getD_eq_getElem?_getD, List.getElem?_set]
  rw [List.getD_eq_getElem?_getD] at h
  by_cases e : o.2 = k
  · subst e
    rw [if_pos rfl]
    by_cases hl : o.2 < f.length
    · rw [if_pos hl, List.getD_eq_getElem?_getD, h]; rfl
    · rw [List.getElem?_eq_none (by omega)] at h; cases h
  · rw [if_neg e]; exact h
theorem rlx_dn {f : List Bool} {o : Od} {T : Nat → Prop} (ht : T o.1 → T o.2) (h : ∀ k, f.getD k false = true → T k) : ∀ k, (rlx f o).getD k false = true → T k := fun k hk => by
  rw [rlx, List.getD_eq_getElem?_getD, List.getElem?_set] at hk
  by_cases e : o.2 = k
  · subst e
    rw [if_pos rfl] at hk
    by_cases hl : o.2 < f.length
    · rw [if_pos hl] at hk
      have hk : (f.getD o.2 false || f.getD o.1 false) = true := hk
      rcases Bool.or_eq_true _ _ ▸ hk with a | a
      · exact h _ a
      · exact ht (h _ a)
    · rw [if_neg hl] at hk; cases hk
  · rw [if_neg e] at hk
    exact h k (by rw [List.getD_eq_getElem?_getD]; exact hk)
theorem rlxs_up {k : Nat} : ∀ {os : List Od} {f : List Bool}, f.getD k false = true → (os.foldl rlx f).getD k false = true
  | [], f, h => h
  | o :: os, f, h => by rw [List.foldl_cons]; exact rlxs_up (rlx_up h)
theorem rlxs_dn {T : Nat → Prop} : ∀ {os : List Od} {f : List Bool}, (∀ o, o ∈ os → T o.1 → T o.2) → (∀ k, f.getD k false = true → T k) → ∀ k, (os.foldl rlx f).getD k false = true → T k
  | [], f, _, h => h
  | o :: os, f, ht, h => by
    rw [List.foldl_cons]
    exact rlxs_dn (fun x m => ht x (List.mem_cons_of_mem _ m)) (rlx_dn (ht o List.mem_cons_self) h)
theorem rep_up {os : List Od} {k : Nat} : ∀ {n : Nat} {f : List Bool}, f.getD k false = true → (Nat.repeat (fun f => os.foldl rlx f) n f).getD k false = true
  | 0, f, h => h
  | n + 1, f, h => rlxs_up (rep_up (n := n) h)
theorem rep_dn {os : List Od} {T : Nat → Prop} (ht : ∀ o, o ∈ os → T o.1 → T o.2) : ∀ {n : Nat} {f : List Bool}, (∀ k, f.getD k false = true → T k) → ∀ k, (Nat.repeat (fun f => os.foldl rlx f) n f).getD k false = true → T k
  | 0, f, h => h
  | n + 1, f, h => rlxs_dn ht (rep_dn ht (n := n) h)
def marks (n : Nat) (some : List Nat) : List Bool := some.foldl (fun f k => f.set k true) (List.replicate n false)
theorem marks_len_aux : ∀ (some : List Nat) (f : List Bool), (some.foldl (fun f k => f.set k true) f).length = f.length
  | [], f => rfl
  | k :: r, f => by rw [List.foldl_cons, marks_len_aux r, List.length_set]
theorem marks_len (n : Nat) (some : List Nat) : (marks n some).length = n := by rw [marks, marks_len_aux, List.length_replicate]
theorem set_getD {f : List Bool} {j k : Nat} (h : (f.set j true).getD k false = true) : k = j ∨ f.getD k false = true := by
  rw [List.getD_eq_getElem?_getD, List.getElem?_set] at h
  by_cases e : j = k
  · exact .inl e.symm
  · rw [if_neg e] at h
    exact .inr (by rw [List.getD_eq_getElem?_getD]; exact h)
theorem set_getD_keep {f : List Bool} {j k : Nat} (h : f.getD k false = true) : (f.set j true).getD k false = true := by
  rw [List.getD_eq_getElem?_getD, List.getElem?_set]
  rw [List.getD_eq_getElem?_getD] at h
  by_cases e : j = k
  · subst e
    rw [if_pos rfl]
    by_cases hl : j < f.length
    · rw [if_pos hl]; rfl
    · rw [List.getElem?_eq_none (by omega)] at h; cases h
  · rw [if_neg e]; exact h
theorem marks_mem_aux : ∀ (some : List Nat) (f : List Bool) (k : Nat), (some.foldl (fun f k => f.set k true) f).getD k false = true → k ∈ some ∨ f.getD k false = true
  | [], f, k, h => .inr h
  | j :: r, f, k, h => by
    rw [List.foldl_cons] at h
    rcases marks_mem_aux r _ k h with m | m
    · exact .inl (List.mem_cons_of_mem _ m)
    · rcases set_getD m with rfl | m
      · exact .inl List.mem_cons_self
      · exact .inr m
theorem marks_mem {n k : Nat} {some : List Nat} (h : (marks n some).getD k false = true) : k ∈ some := by
  rcases marks_mem_aux some _ k h with m | m
  · exact m
  · rw [List.getD_eq_getElem?_getD, List.getElem?_replicate] at m
    by_cases c : k < n
    · rw [if_pos c] at m; cases m
    · rw [if_neg c] at m; cases m
theorem marks_keep : ∀ (some : List Nat) (f : List Bool) (k : Nat), f.getD k false = true → (some.foldl (fun f k => f.set k true) f).getD k false = true
  | [], f, k, h => h
  | j :: r, f, k, h => by rw [List.foldl_cons]; exact marks_keep r _ k (set_getD_keep h)
theorem marks_has_aux : ∀ (some : List Nat) (f : List Bool) (k : Nat), k < f.length → k ∈ some → (some.foldl (fun f k => f.set k true) f).getD k false = true
  | j :: r, f, k, hl, h => by
    rw [List.foldl_cons]
    rcases List.mem_cons.mp h with rfl | h
    · refine marks_keep r _ k ?_
      rw [List.getD_eq_getElem?_getD, List.getElem?_set, if_pos rfl, if_pos hl]; rfl
    · exact marks_has_aux r _ k (by rw [List.length_set]; exact hl) h
theorem marks_has {n k : Nat} {some : List Nat} (hk : k < n) (h : k ∈ some) : (marks n some).getD k false = true := marks_has_aux some _ k (by rw [List.length_replicate]; exact hk) h
def upF (n : Nat) (os : List Od) (some : List Nat) : List Bool := Nat.repeat (fun f => os.foldl rlx f) n (marks n some)
def ups (n : Nat) (os : List Od) (some : List Nat) : List Nat := (List.range n).filter fun k => (upF n os some).getD k false
theorem ups_mem {n : Nat} {os : List Od} {some : List Nat} {k : Nat} : k ∈ ups n os some ↔ k < n ∧ (upF n os some).getD k false = true := by
  rw [ups, List.mem_filter, List.mem_range]
theorem ups_closed {n : Nat} {os : List Od} {some : List Nat} (h : ∀ o, o ∈ os → o.1 < n ∧ o.2 < n) {o : Od} (ho : o ∈ os) (m : o.1 ∈ ups n os some) : o.2 ∈ ups n os some := by
  rw [ups_mem] at m ⊢
  have c := rep_clsd (os := os) (f := marks n some) fun o m => by rw [marks_len]; exact (h o m).2
  rw [marks_len] at c
  exact ⟨(h o ho).2, c o ho m.2⟩
theorem ups_has {n : Nat} {os : List Od} {some : List Nat} {k : Nat} (hk : k < n) (h : k ∈ some) : k ∈ ups n os some := by
  rw [ups_mem]
  exact ⟨hk, rep_up (marks_has hk h)⟩
theorem ups_in {n : Nat} {os : List Od} {some : List Nat} {T : Nat → Prop} (ht : ∀ o, o ∈ os → T o.1 → T o.2) (h : ∀ k, k ∈ some → T k) {k : Nat} (m : k ∈ ups n os some) : T k := by
  rw [ups_mem] at m
  exact rep_dn ht (fun k hk => h k (marks_mem hk)) k m.2
theorem ups_self (n : Nat) (os : List Od) (some : List Nat) : (List.range n).filter (fun k => decide (k ∈ ups n os some)) = ups n os some := by
  show (List.range n).filter (fun k => decide (k ∈ ups n os some)) = (List.range n).filter fun k => (upF n os some).getD k false
  refine List.filter_congr fun k hk => ?_
  cases e : (upF n os some).getD k false with
  | true => exact decide_eq_true (ups_mem.mpr ⟨List.mem_range.mp hk, e⟩)
  | false => exact decide_eq_false fun c => by rw [(ups_mem.mp c).2] at e; cases e
/-- the law's own way -/
def rchS (os : List Od) (T : List Nat) : List Nat := T ++ (os.filter fun o => decide (o.1 ∈ T) && !decide (o.2 ∈ T)).map (·.2)
theorem filter_lt {α : Type} {p q : α → Bool} : ∀ {l : List α}, (∀ x, x ∈ l → p x = true → q x = true) → (∃ x, x ∈ l ∧ q x = true ∧ p x = false) → (l.filter p).length < (l.filter q).length
  | [], _, ⟨x, m, _⟩ => by cases m
  | y :: l, h, h2 => by
    have le : ∀ {m : List α}, (∀ x, x ∈ m → p x = true → q x = true) → (m.filter p).length ≤ (m.filter q).length := by
      intro m
      induction m with
      | nil => intro _; exact Nat.le_refl _
      | cons z m ih =>
        intro hm
        have := ih fun x mx => hm x (List.mem_cons_of_mem _ mx)
        cases hp : p z with
        | false =>
          rw [List.filter_cons_of_neg (by rw [hp]; decide)]
          cases hq : q z with
          | false => rw [List.filter_cons_of_neg (by rw [hq]; decide)]; exact this
          | true => rw [List.filter_cons_of_pos hq, List.length_cons]; omega
        | true =>
          rw [List.filter_cons_of_pos hp, List.filter_cons_of_pos (hm z List.mem_cons_self hp), List.length_cons, List.length_cons]
          omega
    have l1 := le (m := l) fun x mx => h x (List.mem_cons_of_mem _ mx)
    obtain ⟨x, mx, qx, px⟩ := h2
    rcases List.mem_cons.mp mx with rfl | mx
    · rw [List.filter_cons_of_neg (by rw [px]; decide), List.filter_cons_of_pos qx, List.length_cons]
      omega
    · have l2 := filter_lt (l := l) (fun x mx => h x (List.mem_cons_of_mem _ mx)) ⟨x, mx, qx, px⟩
      cases hp : p y with
      | false =>
        rw [List.filter_cons_of_neg (by rw [hp]; decide)]
        cases hq : q y with
        | false => rw [List.filter_cons_of_neg (by rw [hq]; decide)]; exact l2
        | true => rw [List.filter_cons_of_pos hq, List.length_cons]; omega
      | true =>
        rw [List.filter_cons_of_pos hp, List.filter_cons_of_pos (h y List.mem_cons_self hp), List.length_cons, List.length_cons]
        omega
theorem rchS_sub {os : List Od} {T : List Nat} {k : Nat} (h : k ∈ T) : k ∈ rchS os T := List.mem_append_left _ h
theorem rch_closed {os : List Od} (some : List Nat) : ∀ o, o ∈ os → o.1 ∈ Nat.repeat (rchS os) os.length some → o.2 ∈ Nat.repeat (rchS os) os.length some := by
  refine iter_closed (s := rchS os) (μ := fun T => (os.filter fun o => !decide (o.2 ∈ T)).length) (C := fun T => ∀ o, o ∈ os → o.1 ∈ T → o.2 ∈ T) (fun T c => ?_) (fun T c => ?_) os.length some (List.length_filter_le _ _)
  · have : ∃ o, o ∈ os ∧ o.1 ∈ T ∧ o.2 ∉ T := Classical.byContradiction fun n => c fun o ho h1 => Classical.byContradiction fun h2 => n ⟨o, ho, h1, h2⟩
    obtain ⟨o, ho, h1, h2⟩ := this
    refine filter_lt (fun x mx hp => ?_) ⟨o, ho, by rw [decide_eq_false h2]; rfl, ?_⟩
    · by_cases e : x.2 ∈ T
      · rw [decide_eq_true (rchS_sub e)] at hp; cases hp
      · rw [decide_eq_false e]; rfl
    · rw [decide_eq_true]
      · rfl
      · exact List.mem_append_right _ (List.mem_map.mpr ⟨o, List.mem_filter.mpr ⟨ho, by rw [decide_eq_true h1, decide_eq_false h2]; rfl⟩, rfl⟩)
  · have e : rchS os T = T := by
      rw [rchS, List.filter_eq_nil_iff.mpr]
      · exact List.append_nil T
      · intro o ho hc
        rw [Bool.and_eq_true, decide_eq_true_eq] at hc
        rw [decide_eq_true (c o ho hc.1)] at hc
        cases hc.2
    show ∀ o, o ∈ os → o.1 ∈ rchS os T → o.2 ∈ rchS os T
    rw [e]
    exact c
theorem rch_sub {os : List Od} {k : Nat} : ∀ {n : Nat} {T : List Nat}, k ∈ T → k ∈ Nat.repeat (rchS os) n T
  | 0, T, h => h
  | n + 1, T, h => rchS_sub (rch_sub (n := n) h)
theorem rch_len {os : List Od} {T : List Nat} : ∀ n : Nat, (Nat.repeat (rchS os) n T).length ≤ T.length + n * os.length
  | 0 => by simp [Nat.repeat]
  | n + 1 => by
    have ih := rch_len (os := os) (T := T) n
    have hf := List.length_filter_le (fun o : Od => decide (o.1 ∈ Nat.repeat (rchS os) n T) && !decide (o.2 ∈ Nat.repeat (rchS os) n T)) os
    show (rchS os (Nat.repeat (rchS os) n T)).length ≤ _
    rw [rchS, List.length_append, List.length_map, Nat.succ_mul]
    omega
theorem ups_rch {n : Nat} {os : List Od} {some : List Nat} {k : Nat} (m : k ∈ ups n os some) : k ∈ Nat.repeat (rchS os) os.length some :=
  ups_in (T := fun k => k ∈ Nat.repeat (rchS os) os.length some) (rch_closed some) (fun k h => rch_sub h) m
end DL

set_option Elab.async false
set_option linter.all false
/-! HPE: the stepper's guards (what kind of goal stands here). -/
namespace DL
open PySem PySem.Spec PyProof.Rows L2 Evl
theorem gWS {K : PySem.W.Frag} {xw : Xw} {ts : TS} {Δ : List Ent} {P : Post} (h : WSx K xw ts Δ P) : WSx K xw ts Δ P := h
theorem gWE {K : PySem.W.Frag} {xw : Xw} {ts : TE} {Δ : List Ent} {P : Rs → Prop} (h : WEx K xw ts Δ P) : WEx K xw ts Δ P := h
theorem gWT {K : PySem.W.Frag} {xw : Xw} {ts : TT} {Δ : List Ent} {P : Bool → Prop} (h : WTx K xw ts Δ P) : WTx K xw ts Δ P := h
theorem gWA {K : PySem.W.Frag} {xw : Xw} {ts : TA} {Δ : List Ent} {P : List PyData → Prop} (h : WAx K xw ts Δ P) : WAx K xw ts Δ P := h
theorem gWO {K : PySem.W.Frag} {xw : Xw} {ts : TO} {Δ : List Ent} {P : Option Int → Prop} (h : WOx K xw ts Δ P) : WOx K xw ts Δ P := h
theorem gWI {K : PySem.W.Frag} {xw : Xw} {ts : TI} {Δ : List Ent} {P : List PyData → Prop} (h : WIx K xw ts Δ P) : WIx K xw ts Δ P := h
theorem gWG {K : PySem.W.Frag} {xw : Xw} {g : TG} {d : PyData} {Δ : List Ent} {P : List Ent → Prop} (h : WGx K xw g d Δ P) : WGx K xw g d Δ P := h
theorem gWGs {K : PySem.W.Frag} {xw : Xw} {g : TGs} {d : List PyData} {Δ : List Ent} {P : List Ent → Prop} (h : WGsx K xw g d Δ P) : WGsx K xw g d Δ P := h
theorem gWB {K : PySem.W.Frag} {vs : List Nat} {g : TG} {d : PyData} {Δ : List Ent} {P : List Ent → Prop} (h : WB K vs g d Δ P) : WB K vs g d Δ P := h
theorem gWBs {K : PySem.W.Frag} {vs : List Nat} {g : TGs} {d : List PyData} {Δ : List Ent} {P : List Ent → Prop} (h : WBs K vs g d Δ P) : WBs K vs g d Δ P := h
theorem gRD {K : PySem.W.Frag} {r : R2} {d e : PyData} {Q : Rs → Prop} (h : RD K r d e Q) : RD K r d e Q := h
theorem gRU {K : PySem.W.Frag} {r : V → Hp → VK → Prop} {d : PyData} {Q : Rs → Prop} (h : RU1 K r d Q) : RU1 K r d Q := h
theorem gCD {K : PySem.W.Frag} {r : List V → Hp → VK → Prop} {d : List PyData} {Q : Rs → Prop} (h : CD K r d Q) : CD K r d Q := h
theorem gIf {c A B : Prop} [i : Decidable c] (h : @ite Prop c i A B) : @ite Prop c i A B := h
theorem gAnd {A B : Prop} (h : A ∧ B) : A ∧ B := h
theorem stop_sub {K : PySem.W.Frag} {xw : Xw} {Δ : List Ent} {P : Post} {te to tb : TE} {r : V → V → V → Hp → (Hp → Prop) → Prop} (h : WSx K xw (tAsg te (gSub to tb r)) Δ P) : WSx K xw (tAsg te (gSub to tb r)) Δ P := h
end DL

set_option Elab.async false
set_option linter.all false
set_option maxRecDepth 100000
/-! HPF: numbers over one bottom; priced items, their pulls, rows and papers (as the program reckons them). -/
namespace DL
open PySem PySem.Spec PyProof.Rows L2 Evl RQ HP
/-! ### numbers over one bottom -/
def Fit (D M : Nat) (q : Rat) : Prop := ∃ z : Int, q * (D : Rat) = (z : Rat) ∧ z.natAbs ≤ M
theorem Fit.mono {D M N : Nat} {q : Rat} (h : Fit D M q) (e : M ≤ N) : Fit D N q := by
  obtain ⟨z, h1, h2⟩ := h
  exact ⟨z, h1, by omega⟩
theorem Fit.add {D M N : Nat} {p q : Rat} (h : Fit D M p) (k : Fit D N q) : Fit D (M + N) (p + q) := by
  obtain ⟨z, h1, h2⟩ := h
  obtain ⟨w, k1, k2⟩ := k
  exact ⟨z + w, by rw [Rat.add_mul, h1, k1, Rat.intCast_add], by omega⟩
theorem Fit.neg {D M : Nat} {p : Rat} (h : Fit D M p) : Fit D M (-p) := by
  obtain ⟨z, h1, h2⟩ := h
  exact ⟨-z, by rw [Rat.neg_mul, h1, Rat.intCast_neg], by omega⟩
theorem Fit.sub {D M N : Nat} {p q : Rat} (h : Fit D M p) (k : Fit D N q) : Fit D (M + N) (p - q) := by
  rw [Rat.sub_eq_add_neg]
  exact h.add k.neg
theorem fit_zero (D M : Nat) : Fit D M 0 := ⟨0, by rw [Rat.zero_mul]; rfl, Nat.zero_le _⟩
theorem Fit.rsz {D M b : Nat} {q : Rat} (h : Fit D M q) (h0 : 0 < D) (hD : D < 2 ^ b) (hM : M < 2 ^ b) : Rsz b q := by
  obtain ⟨z, h1, h2⟩ := h
  have hd : (D : Rat) ≠ 0 := by
    intro e
    have : D = 0 := by exact_mod_cast e
    omega
  have e : q = Rat.divInt z (D : Int) := by
    rw [Rat.divInt_eq_div]
    have e2 : ((D : Int) : Rat) = (D : Rat) := rfl
    rw [e2]
    grind
  rw [e]
  exact sz_divInt (m := 0) (by omega) (by omega) (by omega)
theorem fit_div {a : Int} {b c : Nat} (hb : 0 < b) : Fit (b * c) (a.natAbs * c) (Rat.divInt a (b : Int)) := by
  refine ⟨a * c, ?_, by rw [Int.natAbs_mul, Int.natAbs_natCast]; exact Nat.le_refl _⟩
  have hd : (b : Rat) ≠ 0 := by
    intro e
    have : b = 0 := by exact_mod_cast e
    omega
  rw [Rat.divInt_eq_div, show ((b : Int) : Rat) = (b : Rat) from rfl, Rat.natCast_mul, Rat.intCast_mul, show ((c : Int) : Rat) = (c : Rat) from rfl]
  grind
/-! ### priced items -/
abbrev Pc := Rat × Rat × Rat
def pcD (p : Pc) : PyData := .tuple [qD p.1, qD p.2.1, qD p.2.2]
theorem pl_pc (p : Pc) : Pl 2 (pcD p) := pl_tup fun d h => by
  simp only [List.mem_cons, List.not_mem_nil, or_false] at h
  rcases h with rfl | rfl | rfl <;> exact pl_q _
abbrev pM : Nat := 2 ^ 100
structure PcG (D : Nat) (p : Pc) : Prop where
  up : 0 < p.2.1
  dn : 0 < p.2.2
  fu : Fit D pM p.2.1
  fd : Fit D pM p.2.2
  sv : Rsz 200 p.1
structure PcL (l : List Pc) : Prop where
  ne : l ≠ []
  few : l.length ≤ 60
  ex : ∃ D : Nat, 0 < D ∧ D < pM ∧ ∀ p, p ∈ l → PcG D p
theorem sz160 : pM < 2 ^ 110 := by decide +kernel
theorem szM {k : Nat} (h : k ≤ 1000) : k * pM < 2 ^ 110 := Nat.lt_of_le_of_lt (Nat.mul_le_mul_right _ h) (by decide +kernel)
theorem Fit.sz {D k : Nat} {q : Rat} (h : Fit D (k * pM) q) (h0 : 0 < D) (hD : D < pM) (hk : k ≤ 1000) : Rsz 110 q := h.rsz h0 (Nat.lt_trans hD sz160) (szM hk)
theorem PcG.su {D : Nat} {p : Pc} (h : PcG D p) (h0 : 0 < D) (hD : D < pM) : Rsz 110 p.2.1 := (show Fit D (1 * pM) p.2.1 by rw [Nat.one_mul]; exact h.fu).sz h0 hD (by decide)
theorem PcG.sd {D : Nat} {p : Pc} (h : PcG D p) (h0 : 0 < D) (hD : D < pM) : Rsz 110 p.2.2 := (show Fit D (1 * pM) p.2.2 by rw [Nat.one_mul]; exact h.fd).sz h0 hD (by decide)
theorem PcL.su {l : List Pc} (h : PcL l) {p : Pc} (m : p ∈ l) : Rsz 110 p.2.1 := by
  obtain ⟨D, h0, hD, g⟩ := h.ex
  exact (g p m).su h0 hD
theorem PcL.sd {l : List Pc} (h : PcL l) {p : Pc} (m : p ∈ l) : Rsz 110 p.2.2 := by
  obtain ⟨D, h0, hD, g⟩ := h.ex
  exact (g p m).sd h0 hD
theorem PcL.sv {l : List Pc} (h : PcL l) {p : Pc} (m : p ∈ l) : Rsz 200 p.1 := by
  obtain ⟨D, h0, hD, g⟩ := h.ex
  exact (g p m).sv
theorem PcL.pos {l : List Pc} (h : PcL l) {p : Pc} (m : p ∈ l) : 0 < p.2.1 ∧ 0 < p.2.2 := by
  obtain ⟨D, h0, hD, g⟩ := h.ex
  exact ⟨(g p m).up, (g p m).dn⟩
theorem PcL.sub {l m : List Pc} (h : PcL l) (hs : m.Sublist l) (hn : m ≠ []) : PcL m := by
  obtain ⟨D, h0, hD, g⟩ := h.ex
  exact ⟨hn, Nat.le_trans hs.length_le h.few, D, h0, hD, fun p hp => g p (hs.subset hp)⟩
theorem tl_pc {p : Pc} (h1 : Rsz 200 p.1) (h2 : Rsz 110 p.2.1) (h3 : Rsz 110 p.2.2) : Tl 2 10 (pcD p) := (tl_tup (k := 1) (n := 3) fun d hd => by
  simp only [List.mem_cons, List.not_mem_nil, or_false] at hd
  rcases hd with rfl | rfl | rfl
  · exact tl_q h1 (by decide)
  · exact tl_q h2 (by decide)
  · exact tl_q h3 (by decide)).mono (by decide) (by simp)
theorem PcL.tl {l : List Pc} (h : PcL l) {p : Pc} (m : p ∈ l) : Tl 2 10 (pcD p) := tl_pc (h.sv m) (h.su m) (h.sd m)
theorem PcL.itms {l : List Pc} (h : PcL l) : areItms 3 (.list (l.map pcD)) = true := by
  show (!(l.map pcD).isEmpty && (l.map pcD).all (isItm 3)) = true
  rw [show (l.map pcD).isEmpty = false by cases hl : l with | nil => exact absurd hl h.ne | cons x r => rfl]
  show (l.map pcD).all (isItm 3) = true
  refine all_T fun x hx => ?_
  obtain ⟨p, hp, rfl⟩ := List.mem_map.mp hx
  show isItm 3 (.tuple ([p.1, p.2.1, p.2.2].map qD)) = true
  rw [isItm_q (n := 3) (qs := [p.1, p.2.1, p.2.2]) rfl]
  show (decide (0 < p.2.1) && decide (0 < p.2.2)) = true
  rw [decide_eq_true (h.pos hp).1, decide_eq_true (h.pos hp).2]
  rfl
theorem PcL.jd {l : List Pc} (h : PcL l) : ∀ xs, PyData.list (l.map pcD) = .list xs → xs.length ≤ 1000 ∧ Pl 60 (.list xs) ∧ ∀ x, x ∈ xs → Jd x := by
  rintro xs e
  cases e
  refine ⟨by rw [List.length_map]; have := h.few; omega, (pl_map pl_pc).mono (by decide), fun x hx ys e => ?_⟩
  obtain ⟨p, hp, rfl⟩ := List.mem_map.mp hx
  cases e
  refine ⟨by show 3 ≤ 1000; decide, fun y hy _ => ?_⟩
  simp only [List.mem_cons, List.not_mem_nil, or_false] at hy
  rcases hy with rfl | rfl | rfl
  · rw [frQ_q]; exact (h.sv hp).mono (by decide)
  · rw [frQ_q]; exact (h.su hp).mono (by decide)
  · rw [frQ_q]; exact (h.sd hp).mono (by decide)
/-! ### pulls -/
def peLo (p : Pc) (x : Rat) : Rat := if p.1 < x then p.2.1 else -p.2.2
def peHi (p : Pc) (x : Rat) : Rat := if x < p.1 then -p.2.2 else p.2.1
theorem PcG.fLo {D : Nat} {p : Pc} (h : PcG D p) (x : Rat) : Fit D pM (peLo p x) := by
  unfold peLo
  split
  · exact h.fu
  · exact h.fd.neg
theorem PcG.fHi {D : Nat} {p : Pc} (h : PcG D p) (x : Rat) : Fit D pM (peHi p x) := by
  unfold peHi
  split
  · exact h.fd.neg
  · exact h.fu
/-! ### rows -/
def inOrd1 (f : List Rat) (v : Rat) : List Rat := if v ∈ f then f else insQ v f
def inOrd (vs : List Rat) : List Rat := vs.foldl inOrd1 []
theorem inOrd1_mem {f : List Rat} {v x : Rat} (h : x ∈ inOrd1 f v) : x = v ∨ x ∈ f := by
  unfold inOrd1 at h
  split at h
  · exact .inr h
  · exact insQ_mem h
theorem inOrds_mem : ∀ {vs f : List Rat} {x : Rat}, x ∈ vs.foldl inOrd1 f → x ∈ vs ∨ x ∈ f
  | [], f, x, h => .inr h
  | v :: vs, f, x, h => by
    rw [List.foldl_cons] at h
    rcases inOrds_mem h with h | h
    · exact .inl (List.mem_cons_of_mem _ h)
    · rcases inOrd1_mem h with rfl | h
      · exact .inl List.mem_cons_self
      · exact .inr h
theorem inOrd_mem {vs : List Rat} {x : Rat} (h : x ∈ inOrd vs) : x ∈ vs := by
  rcases inOrds_mem h with h | h
  · exact h
  · cases h
theorem inOrd1_len (f : List Rat) (v : Rat) : (inOrd1 f v).length ≤ f.length + 1 ∧ f.length ≤ (inOrd1 f v).length ∧ 0 < (inOrd1 f v).length := by
  unfold inOrd1
  split
  · rename_i h
    have := List.length_pos_of_mem h
    omega
  · rw [insQ_len]; omega
theorem inOrds_len : ∀ (vs f : List Rat), (vs.foldl inOrd1 f).length ≤ f.length + vs.length ∧ f.length ≤ (vs.foldl inOrd1 f).length
  | [], f => ⟨Nat.le_refl _, Nat.le_refl _⟩
  | v :: vs, f => by
    rw [List.foldl_cons, List.length_cons]
    have := inOrds_len vs (inOrd1 f v)
    have := inOrd1_len f v
    omega
theorem inOrd_len (vs : List Rat) : (inOrd vs).length ≤ vs.length := by
  have := (inOrds_len vs []).1
  rw [List.length_nil, Nat.zero_add] at this
  exact this
theorem inOrd_pos {vs : List Rat} (h : vs ≠ []) : 0 < (inOrd vs).length := by
  cases vs with
  | nil => exact absurd rfl h
  | cons v vs =>
    have := (inOrds_len vs (inOrd1 [] v)).2
    have := (inOrd1_len [] v).2.2
    show 0 < (vs.foldl inOrd1 (inOrd1 [] v)).length
    omega
def begS (v : Rat) (sh : Bool) : List Pc → Nat → Rat × Nat × Rat
  | [], k => (0, k, 0)
  | p :: r, k =>
    if ((begS v sh r (k + 1)).2.2 + peHi p v < (begS v sh r (k + 1)).1) ∨ ((begS v sh r (k + 1)).2.2 + peHi p v = (begS v sh r (k + 1)).1 ∧ sh = false) then
      ((begS v sh r (k + 1)).2.2 + peHi p v, k, (begS v sh r (k + 1)).2.2 + peHi p v)
    else ((begS v sh r (k + 1)).1, (begS v sh r (k + 1)).2.1, (begS v sh r (k + 1)).2.2 + peHi p v)
def begA (l : List Pc) (v : Rat) (sh : Bool) : Nat := (begS v sh l 0).2.1
theorem begS_fit {D : Nat} {v : Rat} {sh : Bool} : ∀ {l : List Pc} {k : Nat}, (∀ p, p ∈ l → PcG D p) → Fit D (l.length * pM) (begS v sh l k).1 ∧ Fit D (l.length * pM) (begS v sh l k).2.2 ∧ k ≤ (begS v sh l k).2.1 ∧ (begS v sh l k).2.1 ≤ k + l.length
  | [], k, _ => ⟨fit_zero _ _, fit_zero _ _, Nat.le_refl _, Nat.le_refl _⟩
  | p :: r, k, h => by
    obtain ⟨h1, h2, h3, h4⟩ := begS_fit (v := v) (sh := sh) (l := r) (k := k + 1) fun p m => h p (List.mem_cons_of_mem _ m)
    have h5 : Fit D ((r.length + 1) * pM) ((begS v sh r (k + 1)).2.2 + peHi p v) := by
      rw [Nat.succ_mul]
      exact h2.add ((h p List.mem_cons_self).fHi v)
    have h6 : Fit D ((r.length + 1) * pM) (begS v sh r (k + 1)).1 := h1.mono (Nat.mul_le_mul_right _ (Nat.le_succ _))
    rw [begS, List.length_cons]
    split
    · exact ⟨h5, h5, Nat.le_refl _, by show k ≤ _; omega⟩
    · exact ⟨h6, h5, by show k ≤ (begS v sh r (k + 1)).2.1; omega, by show (begS v sh r (k + 1)).2.1 ≤ _; omega⟩
theorem begA_le {l : List Pc} (h : PcL l) (v : Rat) (sh : Bool) : begA l v sh ≤ l.length := by
  obtain ⟨D, h0, hD, g⟩ := h.ex
  have := (begS_fit (v := v) (sh := sh) (k := 0) g).2.2.2
  rw [Nat.zero_add] at this
  exact this
/-- the row behind k values -/
def rowK (l : List Pc) (sh : Bool) (vs : List Rat) : Nat → List Rat
  | 0 => List.replicate l.length (rAt vs 0)
  | k + 1 => (rowK l sh vs k).take (begA l (rAt vs k) sh) ++ List.replicate (l.length - begA l (rAt vs k) sh) (rAt vs (k + 1))
def rowBy (l : List Pc) (sh : Bool) : List Rat := rowK l sh (inOrd (l.map (·.1))) ((inOrd (l.map (·.1))).length - 1)
theorem rowK_len {l : List Pc} (h : PcL l) (sh : Bool) (vs : List Rat) : ∀ k, (rowK l sh vs k).length = l.length
  | 0 => List.length_replicate
  | k + 1 => by
    have := begA_le h (rAt vs k) sh
    rw [rowK, List.length_append, List.length_take, List.length_replicate, rowK_len h sh vs k]
    omega
theorem rowBy_len {l : List Pc} (h : PcL l) (sh : Bool) : (rowBy l sh).length = l.length := rowK_len h sh _ _
theorem rAt_mem' {r : List Rat} {k : Nat} (h : k < r.length) : rAt r k ∈ r := List.mem_of_getElem? (get_rAt h)
theorem rowK_mem {l : List Pc} {sh : Bool} {vs : List Rat} : ∀ {k : Nat} {x : Rat}, k < vs.length → x ∈ rowK l sh vs k → x ∈ vs
  | 0, x, hk, h => by rw [(List.mem_replicate.mp h).2]; exact rAt_mem' hk
  | k + 1, x, hk, h => by
    rcases List.mem_append.mp h with h | h
    · exact rowK_mem (by omega) (List.mem_of_mem_take h)
    · rw [(List.mem_replicate.mp h).2]; exact rAt_mem' hk
theorem rowBy_mem {l : List Pc} (h : PcL l) {sh : Bool} {x : Rat} (m : x ∈ rowBy l sh) : ∃ p, p ∈ l ∧ x = p.1 := by
  have hp := inOrd_pos (vs := l.map (·.1)) (by intro e; exact h.ne (List.map_eq_nil_iff.mp e))
  have := inOrd_mem (rowK_mem (by omega) m)
  obtain ⟨p, hp, e⟩ := List.mem_map.mp this
  exact ⟨p, hp, e.symm⟩
theorem rowBy_sz {l : List Pc} (h : PcL l) {sh : Bool} {x : Rat} (m : x ∈ rowBy l sh) : Rsz 200 x := by
  obtain ⟨p, hp, rfl⟩ := rowBy_mem h m
  exact h.sv hp
/-! ### papers -/
def mn (a b : Rat) : Rat := if b < a then b else a
theorem mn_fit {D M : Nat} {a b : Rat} (ha : Fit D M a) (hb : Fit D M b) : Fit D M (mn a b) := by
  unfold mn
  split
  · exact hb
  · exact ha
theorem mn_of {a b m : Rat} (h : m ∈ [a, b]) (h2 : ∀ x, x ∈ [a, b] → m ≤ x) : m = mn a b := by
  have ha := h2 a (by simp)
  have hb := h2 b (by simp)
  unfold mn
  rcases List.mem_cons.mp h with rfl | h
  · rw [if_neg (Rat.not_lt.mpr hb)]
  · rw [List.mem_singleton.mp h] at ha ⊢
    split
    · rfl
    · rename_i c
      exact Rat.le_antisymm ha (Rat.not_lt.mp c)
def evenB (r : List Rat) (k : Nat) : Bool := decide (k + 1 = r.length) || decide (rAt r k < rAt r (k + 1))
/-- the least and the greatest sums, behind k items -/
def sfS (l : List Pc) (r : List Rat) : Nat → Rat × Rat
  | 0 => (0, 0)
  | k + 1 => if evenB r k = true then (0, 0) else ((sfS l r k).1 + peLo (l.getD k (0, 0, 0)) (rAt r k), mn ((sfS l r k).2 + peHi (l.getD k (0, 0, 0)) (rAt r k)) 0)
theorem getD_mem {α : Type} {l : List α} {k : Nat} {z : α} (h : k < l.length) : l.getD k z ∈ l := by
  rw [List.getD_eq_getElem?_getD, List.getElem?_eq_getElem h]
  exact List.getElem_mem h
theorem getD_of {α : Type} {l : List α} {k : Nat} {x z : α} (h : l[k]? = some x) : l.getD k z = x := by
  rw [List.getD_eq_getElem?_getD, h]
  rfl
theorem sfS_fit {D : Nat} {l : List Pc} {r : List Rat} (g : ∀ p, p ∈ l → PcG D p) : ∀ {k : Nat}, k ≤ l.length → Fit D (k * pM) (sfS l r k).1 ∧ Fit D (k * pM) (sfS l r k).2
  | 0, _ => ⟨fit_zero _ _, fit_zero _ _⟩
  | k + 1, hk => by
    obtain ⟨h1, h2⟩ := sfS_fit (r := r) g (k := k) (by omega)
    have gp := g _ (getD_mem (z := (0, 0, 0)) (show k < l.length by omega))
    rw [sfS]
    split
    · exact ⟨fit_zero _ _, fit_zero _ _⟩
    · rw [Nat.succ_mul]
      exact ⟨h1.add (gp.fLo _), mn_fit (h2.add (gp.fHi _)) (fit_zero _ _)⟩
/-- the sum ahead of the item k, the last items gone through -/
def pbH (l : List Pc) (r : List Rat) : Nat → Rat
  | 0 => 0
  | i + 1 => mn (sfS l r (l.length - (i + 1))).2 (pbH l r i - peLo (l.getD (l.length - (i + 1)) (0, 0, 0)) (rAt r (l.length - (i + 1))))
theorem pbH_fit {D : Nat} {l : List Pc} {r : List Rat} (g : ∀ p, p ∈ l → PcG D p) : ∀ {i : Nat}, i ≤ l.length → Fit D ((l.length + i) * pM) (pbH l r i)
  | 0, _ => fit_zero _ _
  | i + 1, hi => by
    have h1 := pbH_fit (r := r) g (i := i) (by omega)
    have gp := g _ (getD_mem (z := (0, 0, 0)) (show l.length - (i + 1) < l.length by omega))
    have h2 := (sfS_fit (r := r) g (k := l.length - (i + 1)) (by omega)).2
    rw [pbH]
    refine mn_fit (h2.mono (Nat.mul_le_mul_right _ (by omega))) ?_
    rw [← Nat.add_assoc, Nat.succ_mul]
    exact h1.sub (gp.fLo _)
def pulR (l : List Pc) (r : List Rat) (n : Nat) : List Rat := (List.range n).map fun i => pbH l r i - pbH l r (i + 1)
def pulsOf (l : List Pc) : List Rat := (pulR l (rowBy l true) l.length).reverse
theorem pulsOf_len (l : List Pc) : (pulsOf l).length = l.length := by rw [pulsOf, List.length_reverse, pulR, List.length_map, List.length_range]
theorem pulsOf_fit {D : Nat} {l : List Pc} (g : ∀ p, p ∈ l → PcG D p) {x : Rat} (h : x ∈ pulsOf l) : Fit D (4 * l.length * pM) x := by
  obtain ⟨i, hi, rfl⟩ := List.mem_map.mp (List.mem_reverse.mp h)
  have hi := List.mem_range.mp hi
  have := (pbH_fit (r := rowBy l true) g (i := i) (by omega)).sub (pbH_fit (r := rowBy l true) g (i := i + 1) (by omega))
  refine this.mono ?_
  rw [← Nat.add_mul]
  exact Nat.mul_le_mul_right _ (by omega)
theorem pulsOf_sz {l : List Pc} (h : PcL l) {x : Rat} (m : x ∈ pulsOf l) : Rsz 110 x := by
  obtain ⟨D, h0, hD, g⟩ := h.ex
  have := h.few
  exact (pulsOf_fit g m).sz h0 hD (by omega)
/-! ### what shows a row -/
def bgS (q : List Rat) (k : Nat) : Rat := sumTo (rAt q) k
structure ShowP (l : List Pc) (r q : List Rat) : Prop where
  ri : risesB r = true
  pu : ∀ k, k < l.length → peLo (l.getD k (0, 0, 0)) (rAt r k) ≤ rAt q k ∧ rAt q k ≤ peHi (l.getD k (0, 0, 0)) (rAt r k)
  bg : ∀ k, k < l.length → bgS q (k + 1) ≤ 0 ∧ (evenB r k = true → bgS q (k + 1) = 0)
def isRowD (n : Nat) : PyData → Bool
  | .list xs => decide (xs.length = n) && xs.all isFrac
  | _ => false
theorem fracs_map : ∀ {xs : List PyData}, (∀ x, x ∈ xs → isFrac x = true) → xs = (xs.map frQ).map qD
  | [], _ => rfl
  | x :: xs, h => by
    rw [List.map_cons, List.map_cons, ← isFrac_frQ (h x List.mem_cons_self), ← fracs_map fun y m => h y (List.mem_cons_of_mem _ m)]
theorem isRowD_is {n : Nat} {d : PyData} (h : isRowD n d = true) : ∃ r : List Rat, d = .list (r.map qD) ∧ r.length = n := by
  cases d with
  | list xs =>
    have h : (decide (xs.length = n) && xs.all isFrac) = true := h
    rw [Bool.and_eq_true, decide_eq_true_eq, List.all_eq_true] at h
    exact ⟨xs.map frQ, by rw [← fracs_map h.2], by rw [List.length_map]; exact h.1⟩
  | _ => cases h
theorem isRowD_q (r : List Rat) (n : Nat) : isRowD n (.list (r.map qD)) = decide (r.length = n) := by
  show (decide ((r.map qD).length = n) && (r.map qD).all isFrac) = _
  rw [List.length_map, all_T, Bool.and_true]
  intro x hx
  obtain ⟨q, _, rfl⟩ := List.mem_map.mp hx
  exact isFrac_q q
end DL

set_option Elab.async false
set_option linter.all false
set_option maxRecDepth 100000
/-! HPG: one of two new lists is picked. -/
namespace DL
open PySem PySem.Spec PyProof.Rows L2 Evl RQ HP
variable {xw : Xw} {K : PySem.W.Frag} {Δ : List Ent} {Q : Rs → Prop}
theorem ResOk.keep {A : List Addr} {H H1 H2 : Hp} {v : V} {r : Rs} (h : ResOk K H H1 (A ++ ads Δ) v r) (e : Kp Δ H1 H2) : ResOk K H H2 (A ++ ads Δ) v r := by
  cases r with
  | v d => exact Dp.up h e.all
  | n ds =>
    obtain ⟨l, xs, h1, h2, h3, h4, h5⟩ := h
    have hp : l ∉ pts Δ := fun m => h3 (List.mem_append_right _ (pts_ads m))
    exact ⟨l, xs, h1, h2, h3, (wo_some (e l _ (wo_mk hp h4))).2, h5.up (wo_more e fun a m => List.mem_cons_of_mem _ (List.mem_append_right _ (pts_ads m)))⟩
theorem we_pick2N {ta tb tc : TE} (h : WEx K xw ta Δ fun r1 => ∃ ds1, r1 = .n ds1 ∧ WEx K xw tb Δ fun r2 => ∃ ds2, r2 = .n ds2 ∧ WEx K xw tc Δ fun r3 => ∃ j : Int, r3.d = .int j ∧ ((j = 0 ∧ Q (.n ds1)) ∨ (j = 1 ∧ Q (.n ds2)))) : WEx K xw (tOp (rIx K) (tLst (tCons ta (tCons tb tNil))) tc) Δ Q := fun A H0 H σ E Qh k =>
  h A H0 H σ E _ fun v1 H1 r1 e1 E1 o1 ⟨ds1, hr1, w1⟩ => w1 A H0 H1 σ E1 _ fun v2 H2 r2 e2 E2 o2 ⟨ds2, hr2, w2⟩ => by
    subst hr1 hr2
    refine ⟨sz_of (by show 2 ≤ 100000; decide), fun p hp => ?_⟩
    have e3 : Ex H2 (upd H2 p (.lst [v1, v2])) := Ex.new hp
    refine w2 A H0 _ σ (E2.ext e3) _ fun v3 H4 r3 e4 E4 o4 ⟨j, hj, hq⟩ => ?_
    have hd := o4.dp
    rw [hj] at hd
    cases hd
    have e14 : Kp Δ H1 H4 := (e2.trans (Kp.of e3)).trans e4
    have e24 : Kp Δ H2 H4 := (Kp.of e3).trans e4
    have hpp : p ∉ pts Δ := fun m => E2.domAll (List.mem_append_right _ (pts_ads m)) hp
    have hp4 : H4 p = some (.lst [v1, v2]) := (wo_some (e4 p _ (wo_mk hpp upd_same))).2
    rcases hq with ⟨rfl, q⟩ | ⟨rfl, q⟩
    · exact .inl ⟨p, [v1, v2], 0, v1, rfl, rfl, sq_of hp4, rfl, k v1 H4 (.n ds1) (e1.trans e14) E4 (o1.keep e14) q⟩
    · exact .inl ⟨p, [v1, v2], 1, v2, rfl, rfl, sq_of hp4, rfl, k v2 H4 (.n ds2) (e1.trans e14) E4 ((ResOk.back E.toSit0 e1 E1.toSit0 o2).keep e24) q⟩
theorem tl_str {k n : Nat} {x : Str} (h0 : PyData.strOk x = true) (h : tellable (.str x) = true) (hn : 1 ≤ n) : Tl k n (.str x) := ⟨by simp [Pl, PyData.canLay0, PyData.depth, h0], h, by simp only [nodes]; exact hn⟩
theorem at_pc {l : List Pc} {k : Nat} {p : Pc} (h : l[k]? = some p) : atI (l.map pcD) (k : Int) = some (pcD p) := by
  refine atI_nat ?_
  rw [List.getElem?_map, h]
  rfl
theorem at_qr {r : List Rat} {k : Nat} (h : k < r.length) : atI (r.map qD) (k : Int) = some (qD (rAt r k)) := by
  refine atI_nat ?_
  rw [List.getElem?_map, get_rAt h]
  rfl
theorem map_const {α : Type} (x : Rat) (l : List α) : l.map (fun _ => qD x) = (List.replicate l.length x).map qD := by rw [List.map_replicate, List.map_const']
theorem bgS_sz {q : List Rat} (h : ∀ x, x ∈ q → Rsz 10000 x) : ∀ {k : Nat}, k ≤ q.length → Rsz (k * 10001 + 1) (bgS q k)
  | 0, _ => sz_zero _ (by decide)
  | k + 1, hk => by
    have ih := bgS_sz h (k := k) (by omega)
    exact (ih.add (h _ (rAt_mem' (show k < q.length by omega)))).mono (by rw [Nat.succ_mul]; omega)
theorem pe_sz {b : Nat} {p : Pc} {x : Rat} (h1 : Rsz b p.2.1) (h2 : Rsz b p.2.2) : Rsz b (peLo p x) ∧ Rsz b (peHi p x) := by
  unfold peLo peHi
  constructor
  · split
    · exact h1
    · exact h2.neg
  · split
    · exact h2.neg
    · exact h1
theorem iff_false' {b : Bool} {P : Prop} (hb : b = false) (h : ¬ P) : b = true ↔ P := ⟨fun c => (by rw [hb] at c; cases c), fun p => absurd p h⟩
/-- a row of anything that can be asked -/
def RowJ (d : PyData) : Prop := ∀ xs, d = .list xs → xs.length ≤ 100 ∧ ∀ y, y ∈ xs → isFrac y = true → Rsz 1000 (frQ y)
theorem RowJ.sz {r : List Rat} (h : RowJ (.list (r.map qD))) {x : Rat} (m : x ∈ r) : Rsz 1000 x := by
  have := (h _ rfl).2 (qD x) (List.mem_map.mpr ⟨x, m, rfl⟩) (isFrac_q x)
  rw [frQ_q] at this
  exact this
def ShowD (l : List Pc) (d e : PyData) : Prop := ∃ r q : List Rat, d = .list (r.map qD) ∧ e = .list (q.map qD) ∧ r.length = l.length ∧ q.length = l.length ∧ ShowP l r q
theorem qs_inj {a b : List Rat} (h : PyData.list (a.map qD) = .list (b.map qD)) : a = b := by
  have h := PyData.list.inj h
  have e : ∀ l : List Rat, (l.map qD).map frQ = l := fun l => by rw [List.map_map, show (frQ ∘ qD) = id from funext frQ_q, List.map_id]
  rw [← e a, ← e b, h]
theorem ShowD.get {l : List Pc} {r q : List Rat} (h : ShowD l (.list (r.map qD)) (.list (q.map qD))) : ShowP l r q := by
  obtain ⟨r', q', e1, e2, _, _, s⟩ := h
  rw [qs_inj e1, qs_inj e2]
  exact s
theorem cut_init1 {α : Type} (xs : List α) : cutD xs none (some (-1)) = xs.take (xs.length - 1) := by
  cases h : xs.getLast? with
  | none =>
    rw [List.getLast?_eq_none_iff.mp h]
    rfl
  | some z =>
    obtain ⟨ys, rfl⟩ := List.getLast?_eq_some_iff.mp h
    rw [cut_init, List.length_append, List.length_singleton, Nat.add_sub_cancel, List.take_left']
    rfl
/-- where the begun sums are nought, up to n -/
def zrs (q : List Rat) (n : Nat) : List Nat := ((List.range n).filter fun k => decide (bgS q (k + 1) = 0)).map (· + 1)
def prt (es : List Nat) : List (Nat × Nat) := (0 :: es.take (es.length - 1)).zip es
theorem zrs_len (q : List Rat) (n : Nat) : (zrs q n).length ≤ n := by
  have := List.length_filter_le (fun k => decide (bgS q (k + 1) = 0)) (List.range n)
  rw [zrs, List.length_map]
  rw [List.length_range] at this
  exact this
theorem enum_range (f : Nat → PyData) : ∀ (n k : Nat), enum2 k ((List.range' k n).map f) = (List.range' k n).map fun j => .tuple [naD j, f j]
  | 0, k => rfl
  | n + 1, k => by rw [List.range'_succ, List.map_cons, enum2, enum_range f n (k + 1), List.map_cons]
theorem any_q (l : List Rat) (x : Rat) : ((l.map qD).any fun z => PyData.eqv z (qD x)) = decide (x ∈ l) := by
  induction l with
  | nil => simp
  | cons y l ih =>
    rw [List.map_cons, List.any_cons, ih, eqv_q]
    by_cases h1 : y = x
    · subst h1; simp
    · rw [decide_eq_false h1, Bool.false_or]
      exact decide_eq_decide.mpr ⟨fun m => List.mem_cons_of_mem _ m, fun m => (List.mem_cons.mp m).resolve_left fun e => h1 e.symm⟩
theorem rd_notInQ {K : PySem.W.Frag} {Q : Rs → Prop} {x : Rat} {l : List Rat} (q : Q (.v (.bool (!decide (x ∈ l))))) : RD K (rNotInA K) (qD x) (.list (l.map qD)) Q :=
  rd_notInAL (shaped_q x) (sh_qs l) (by rw [any_q]; exact q)
theorem pe_above {p : Pc} {v : Rat} (c : p.1 < v) : peLo p v = p.2.1 ∧ peHi p v = p.2.1 := by
  unfold peLo peHi
  rw [if_pos c, if_neg (Rat.not_lt.mpr (Rat.le_of_lt c))]
  exact ⟨rfl, rfl⟩
theorem pe_below {p : Pc} {v : Rat} (c : v < p.1) : peLo p v = -p.2.2 ∧ peHi p v = -p.2.2 := by
  unfold peLo peHi
  rw [if_pos c, if_neg (Rat.not_lt.mpr (Rat.le_of_lt c))]
  exact ⟨rfl, rfl⟩
theorem pe_at {p : Pc} {v : Rat} (c : ¬ p.1 < v) (c2 : ¬ v < p.1) : peLo p v = -p.2.2 ∧ peHi p v = p.2.1 := by
  unfold peLo peHi
  rw [if_neg c, if_neg c2]
  exact ⟨rfl, rfl⟩
def sfD (x : Rat × Rat) : PyData := .tuple [qD x.1, qD x.2]
theorem q0_iff {x : Rat} : ((x.num, (x.den : Int)) = ((0 : Int), (1 : Int))) ↔ x = 0 := by
  constructor
  · intro e
    exact Rat.num_eq_zero.mp (Prod.mk.inj e).1
  · rintro rfl
    rfl
end DL

set_option Elab.async false
set_option linter.all false
set_option maxRecDepth 100000
/-! HPH: a chain of three comparisons; a stretch's sums of pulls, and its middle. -/
namespace DL
open PySem PySem.Spec PyProof.Rows L2 Evl RQ HP
section
variable {X : Cx} {a b c e : Expr} {ta tb tc td : TE} {pos : Pos}
/-- a op1 b op2 c op3 e -/
def tChain3 (r r' r'' : R2) (ta tb tc td : TE) : TE := fun σ H Q => ta σ H fun x H1 => tb σ H1 fun y H2 => r x y H2 fun z H3 => ∃ k, z = .bl k ∧
  (if k = true then (tc σ H3 fun w H4 => r' y w H4 fun z' H5 => ∃ k', z' = .bl k' ∧ (if k' = true then (td σ H5 fun w' H6 => r'' w w' H6 Q) else Q (.bl false) H5)) else Q (.bl false) H3)
theorem pe_chain3 {op op' op'' : CmpOp} {r r' r'' : R2} (h1 : OpR X (compareOp op) r) (h2 : OpR X (compareOp op') r') (h3 : OpR X (compareOp op'') r'') (ha : PE X a ta) (hb : PE X b tb) (hc : PE X c tc) (hd : PE X e td)
    (hm : lastMarks [op, op', op''] [b, c, e] = false := by with_unfolding_all rfl) : PE X (.Compare a [op, op', op''] [b, c, e] pos) (tChain3 r r' r'' ta tb tc td) := by
  constructor
  intro pins s σ H Q I h
  refine Compare_chain (thn (ha.run pins s σ H _ I h) fun v1 s1 ⟨x1, H1, I1, r1, q1⟩ => chain_link (thn (hb.run pins s1 σ H1 _ I1 q1) fun v2 s2 ⟨x2, H2, I2, r2, q2⟩ => thn (h1 pins s2 σ H2 x1 x2 v1 v2 _ I2 r1 r2 q2) fun v3 s3 ⟨x3, H3, I3, r3, k, ek, q3⟩ => ?_)) hm
  subst ek
  cases r3
  refine wpAny_truthy_bool ?_
  cases k
  · exact ite_ff ⟨.bl false, H3, I3, rfl, q3⟩
  refine ite_tt (chain_link (thn (hc.run pins s3 σ H3 _ I3 q3) fun v4 s4 ⟨x4, H4, I4, r4, q4⟩ => thn (h2 pins s4 σ H4 x2 x4 v2 v4 _ I4 r2 r4 q4) fun v5 s5 ⟨x5, H5, I5, r5, k', ek', q5⟩ => ?_))
  subst ek'
  cases r5
  refine wpAny_truthy_bool ?_
  cases k'
  · exact ite_ff ⟨.bl false, H5, I5, rfl, q5⟩
  exact ite_tt (chain_last (thn (hd.run pins s5 σ H5 _ I5 q5) fun v6 s6 ⟨x6, H6, I6, r6, q6⟩ => h3 pins s6 σ H6 x4 x6 v4 v6 Q I6 r4 r6 q6))
theorem pt_chain3 {op op' op'' : CmpOp} {r r' r'' : R2} (h1 : OpR X (compareOp op) r) (h2 : OpR X (compareOp op') r') (h3 : OpR X (compareOp op'') r'') (ha : PE X a ta) (hb : PE X b tb) (hc : PE X c tc) (hd : PE X e td)
    (hm : lastMarks [op, op', op''] [b, c, e] = false := by with_unfolding_all rfl) : PT X (.Compare a [op, op', op''] [b, c, e] pos) (tTest (tChain3 r r' r'' ta tb tc td)) := by
  constructor
  intro pins s σ H Q I h
  refine isTrue_chain (thn (ha.run pins s σ H _ I h) fun v1 s1 ⟨x1, H1, I1, r1, q1⟩ => test_link (thn (hb.run pins s1 σ H1 _ I1 q1) fun v2 s2 ⟨x2, H2, I2, r2, q2⟩ => thn (h1 pins s2 σ H2 x1 x2 v1 v2 _ I2 r1 r2 q2) fun v3 s3 ⟨x3, H3, I3, r3, k, ek, q3⟩ => ?_)) hm
  subst ek
  cases r3
  refine wpAny_truthy_bool ?_
  cases k
  · obtain ⟨k', e', q'⟩ := q3
    cases e'
    exact ite_ff ⟨H3, I3, q'⟩
  refine ite_tt (test_link (thn (hc.run pins s3 σ H3 _ I3 q3) fun v4 s4 ⟨x4, H4, I4, r4, q4⟩ => thn (h2 pins s4 σ H4 x2 x4 v2 v4 _ I4 r2 r4 q4) fun v5 s5 ⟨x5, H5, I5, r5, k', ek', q5⟩ => ?_))
  subst ek'
  cases r5
  refine wpAny_truthy_bool ?_
  cases k'
  · obtain ⟨k', e', q'⟩ := q5
    cases e'
    exact ite_ff ⟨H5, I5, q'⟩
  refine ite_tt (test_last (thn (hd.run pins s5 σ H5 _ I5 q5) fun v6 s6 ⟨x6, H6, I6, r6, q6⟩ => thn (h3 pins s6 σ H6 x4 x6 v4 v6 _ I6 r4 r6 q6) fun v7 s7 ⟨x7, H7, I7, r7, k2, e2, q7⟩ => ?_))
  subst e2
  cases r7
  exact wpAny_truthy_bool ⟨H7, I7, q7⟩
end
variable {xw : Xw}
theorem we_chain3 {K : PySem.W.Frag} {Δ : List Ent} {Q : Rs → Prop} {ta tb tc td : TE} {r r' r'' : R2} (h : WEx K xw ta Δ fun x => WEx K xw tb Δ fun y => RD K r x.d y.d fun z => ∃ b, z.d = .bool b ∧ if b = true then (WEx K xw tc Δ fun w => RD K r' y.d w.d fun z' => ∃ b', z'.d = .bool b' ∧ if b' = true then (WEx K xw td Δ fun w' => RD K r'' w.d w'.d Q) else Q (.v (.bool false))) else Q (.v (.bool false))) : WEx K xw (tChain3 r r' r'' ta tb tc td) Δ Q := fun A H0 H σ E Qh k =>
  h A H0 H σ E _ fun v1 H1 r1 e1 E1 o1 w1 => w1 A H0 H1 σ E1 _ fun v2 H2 r2 e2 E2 o2 w2 =>
    w2 (A ++ ads Δ) H2 v1 v2 (o1.dp.up e2.all) o2.dp (fun a m => E2.domAll m) _ fun v3 H3 r3 e3 o3 ⟨b, hb, w3⟩ => by
      have hd := o3.dp
      rw [hb] at hd
      cases hd
      have E3 := E2.ext e3
      refine ⟨b, rfl, ?_⟩
      cases b with
      | false => exact k _ H3 (.v (.bool false)) ((e1.trans e2).trans (Kp.of e3)) E3 (Dp.bl _) w3
      | true =>
        refine w3 A H0 H3 σ E3 _ fun v4 H4 r4 e4 E4 o4 w4 => ?_
        refine w4 (A ++ ads Δ) H4 v2 v4 ((o2.dp.up (wo_le e3)).up e4.all) o4.dp (fun a m => E4.domAll m) _ fun v5 H5 r5 e5 o5 ⟨b', hb', w5⟩ => ?_
        have hd := o5.dp
        rw [hb'] at hd
        cases hd
        have E5 := E4.ext e5
        have kk : Kp Δ H H5 := (((e1.trans e2).trans (Kp.of e3)).trans e4).trans (Kp.of e5)
        refine ⟨b', rfl, ?_⟩
        cases b' with
        | false => exact k _ H5 (.v (.bool false)) kk E5 (Dp.bl _) w5
        | true =>
          refine w5 A H0 H5 σ E5 _ fun v6 H6 r6 e6 E6 o6 w6 => ?_
          refine w6 (A ++ ads Δ) H6 v4 v6 ((o4.dp.up (wo_le e5)).up e6.all) o6.dp (fun a m => E6.domAll m) Qh fun v7 H7 r7 e7 o7 q => ?_
          exact k v7 H7 r7 ((kk.trans e6).trans (Kp.of e7)) (E6.ext e7) (ResOk.back E.toSit0 (kk.trans e6) E6.toSit0 o7) q
/-! ### sums of pulls -/
def SLo (s : List Pc) (x : Rat) (k : Nat) : Rat := sumTo (fun j => peLo (s.getD j (0, 0, 0)) x) k
def SHi (s : List Pc) (x : Rat) (k : Nat) : Rat := sumTo (fun j => peHi (s.getD j (0, 0, 0)) x) k
theorem SLo_fit {D : Nat} {s : List Pc} {x : Rat} (g : ∀ p, p ∈ s → PcG D p) : ∀ {k : Nat}, k ≤ s.length → Fit D (k * pM) (SLo s x k) ∧ Fit D (k * pM) (SHi s x k)
  | 0, _ => ⟨fit_zero _ _, fit_zero _ _⟩
  | k + 1, hk => by
    obtain ⟨h1, h2⟩ := SLo_fit (x := x) g (k := k) (by omega)
    have gp := g _ (getD_mem (z := (0, 0, 0)) (show k < s.length by omega))
    rw [Nat.succ_mul]
    exact ⟨h1.add (gp.fLo _), h2.add (gp.fHi _)⟩
def PosP (s : List Pc) : Prop := ∀ p, p ∈ s → 0 < p.2.1 ∧ 0 < p.2.2
theorem sumTo_mono {f g : Nat → Rat} {n : Nat} (h : ∀ j, j < n → f j ≤ g j) : sumTo f n ≤ sumTo g n := by
  have := sumTo_le (a := 0) (b := n) (f := f) (g := g) (Nat.zero_le _) fun j _ hj => h j hj
  simp only [HP.sumTo] at this
  grind
theorem sumTo_neg {f : Nat → Rat} : ∀ {n : Nat}, (∀ j, j < n → f j < 0) → 0 < n → sumTo f n < 0
  | 1, h, _ => by
    have := h 0 (by decide)
    show 0 + f 0 < 0
    grind
  | n + 2, h, _ => by
    have h1 := sumTo_neg (n := n + 1) (fun j hj => h j (by omega)) (by omega)
    have h2 := h (n + 1) (by omega)
    show sumTo f (n + 1) + f (n + 1) < 0
    grind
theorem sumTo_posi {f : Nat → Rat} : ∀ {n : Nat}, (∀ j, j < n → 0 < f j) → 0 < n → 0 < sumTo f n
  | 1, h, _ => by
    have := h 0 (by decide)
    show 0 < 0 + f 0
    grind
  | n + 2, h, _ => by
    have h1 := sumTo_posi (n := n + 1) (fun j hj => h j (by omega)) (by omega)
    have h2 := h (n + 1) (by omega)
    show 0 < sumTo f (n + 1) + f (n + 1)
    grind
theorem peHi_mono {p : Pc} (h : 0 < p.2.1 ∧ 0 < p.2.2) {x y : Rat} (c : x ≤ y) : peHi p x ≤ peHi p y := by
  obtain ⟨h1, h2⟩ := h
  unfold peHi
  split <;> split <;> grind
theorem peLo_mono {p : Pc} (h : 0 < p.2.1 ∧ 0 < p.2.2) {x y : Rat} (c : x ≤ y) : peLo p x ≤ peLo p y := by
  obtain ⟨h1, h2⟩ := h
  unfold peLo
  split <;> split <;> grind
theorem SHi_mono {s : List Pc} (h : PosP s) {x y : Rat} (c : x ≤ y) : SHi s x s.length ≤ SHi s y s.length :=
  sumTo_mono fun j hj => peHi_mono (h _ (getD_mem hj)) c
theorem SLo_mono {s : List Pc} (h : PosP s) {x y : Rat} (c : x ≤ y) : SLo s x s.length ≤ SLo s y s.length :=
  sumTo_mono fun j hj => peLo_mono (h _ (getD_mem hj)) c
theorem SHi_congr {s : List Pc} {x y : Rat} (h : ∀ p, p ∈ s → (x < p.1 ↔ y < p.1)) : SHi s x s.length = SHi s y s.length :=
  sumTo_congr fun j hj => by
    have := h _ (getD_mem (z := (0, 0, 0)) hj)
    unfold peHi
    split <;> split <;> first | rfl | (exfalso; grind)
theorem SLo_congr {s : List Pc} {x y : Rat} (h : ∀ p, p ∈ s → (p.1 < x ↔ p.1 < y)) : SLo s x s.length = SLo s y s.length :=
  sumTo_congr fun j hj => by
    have := h _ (getD_mem (z := (0, 0, 0)) hj)
    unfold peLo
    split <;> split <;> first | rfl | (exfalso; grind)
theorem SHi_SLo {s : List Pc} {u v : Rat} (h : ∀ p, p ∈ s → (u < p.1 ↔ ¬ p.1 < v)) : SHi s u s.length = SLo s v s.length :=
  sumTo_congr fun j hj => by
    have := h _ (getD_mem (z := (0, 0, 0)) hj)
    unfold peHi peLo
    split <;> split <;> first | rfl | (exfalso; grind)
theorem ex_max {l : List Rat} (h : l ≠ []) : ∃ m, m ∈ l ∧ ∀ x, x ∈ l → x ≤ m := by
  induction l with
  | nil => exact absurd rfl h
  | cons a r ih =>
    cases r with
    | nil => exact ⟨a, List.mem_cons_self, fun x hx => by rw [List.mem_singleton.mp hx]; exact Rat.le_refl⟩
    | cons b r =>
      obtain ⟨m, hm, hl⟩ := ih (by simp)
      by_cases c : m ≤ a
      · refine ⟨a, List.mem_cons_self, fun x hx => ?_⟩
        rcases List.mem_cons.mp hx with rfl | hx
        · exact Rat.le_refl
        · exact Rat.le_trans (hl x hx) c
      · refine ⟨m, List.mem_cons_of_mem _ hm, fun x hx => ?_⟩
        rcases List.mem_cons.mp hx with rfl | hx
        · exact Rat.le_of_lt (Rat.not_le.mp c)
        · exact hl x hx
theorem ex_min {l : List Rat} (h : l ≠ []) : ∃ m, m ∈ l ∧ ∀ x, x ∈ l → m ≤ x := by
  obtain ⟨m, hm, hl⟩ := ex_max (l := l.map fun x => -x) (fun e => h (List.map_eq_nil_iff.mp e))
  obtain ⟨x, hx, rfl⟩ := List.mem_map.mp hm
  refine ⟨x, hx, fun y hy => ?_⟩
  have := hl (-y) (List.mem_map.mpr ⟨y, hy, rfl⟩)
  grind
/-- the greatest value with a property -/
theorem val_max {s : List Pc} (P : Rat → Prop) (h : ∃ p, p ∈ s ∧ P p.1) : ∃ p, p ∈ s ∧ P p.1 ∧ ∀ q, q ∈ s → P q.1 → q.1 ≤ p.1 := by
  classical
  obtain ⟨p0, hp0, P0⟩ := h
  obtain ⟨m, hm, hl⟩ := ex_max (l := (s.filter fun p => decide (P p.1)).map (·.1)) (fun e => by
    have := List.map_eq_nil_iff.mp e
    rw [List.filter_eq_nil_iff] at this
    exact this p0 hp0 (decide_eq_true P0))
  obtain ⟨p, hp, rfl⟩ := List.mem_map.mp hm
  rw [List.mem_filter, decide_eq_true_eq] at hp
  exact ⟨p, hp.1, hp.2, fun q hq Pq => hl q.1 (List.mem_map.mpr ⟨q, List.mem_filter.mpr ⟨hq, decide_eq_true Pq⟩, rfl⟩)⟩
theorem val_min {s : List Pc} (P : Rat → Prop) (h : ∃ p, p ∈ s ∧ P p.1) : ∃ p, p ∈ s ∧ P p.1 ∧ ∀ q, q ∈ s → P q.1 → p.1 ≤ q.1 := by
  classical
  obtain ⟨p0, hp0, P0⟩ := h
  obtain ⟨m, hm, hl⟩ := ex_min (l := (s.filter fun p => decide (P p.1)).map (·.1)) (fun e => by
    have := List.map_eq_nil_iff.mp e
    rw [List.filter_eq_nil_iff] at this
    exact this p0 hp0 (decide_eq_true P0))
  obtain ⟨p, hp, rfl⟩ := List.mem_map.mp hm
  rw [List.mem_filter, decide_eq_true_eq] at hp
  exact ⟨p, hp.1, hp.2, fun q hq Pq => hl q.1 (List.mem_map.mpr ⟨q, List.mem_filter.mpr ⟨hq, decide_eq_true Pq⟩, rfl⟩)⟩
theorem SHi_all_below {s : List Pc} (h : PosP s) (ne : s ≠ []) {x : Rat} (hx : ∀ p, p ∈ s → x < p.1) : SHi s x s.length < 0 :=
  sumTo_neg (fun j hj => by
    have m := getD_mem (z := ((0, 0, 0) : Pc)) hj
    have := (h _ m).2
    unfold peHi
    rw [if_pos (hx _ m)]
    grind) (List.length_pos_iff.mpr ne)
theorem SHi_all_above {s : List Pc} (h : PosP s) (ne : s ≠ []) {x : Rat} (hx : ∀ p, p ∈ s → p.1 ≤ x) : 0 < SHi s x s.length :=
  sumTo_posi (fun j hj => by
    have m := getD_mem (z := ((0, 0, 0) : Pc)) hj
    have := (h _ m).1
    unfold peHi
    rw [if_neg (Rat.not_lt.mpr (hx _ m))]
    exact this) (List.length_pos_iff.mpr ne)
theorem SLo_all_below {s : List Pc} (h : PosP s) (ne : s ≠ []) {x : Rat} (hx : ∀ p, p ∈ s → x ≤ p.1) : SLo s x s.length < 0 :=
  sumTo_neg (fun j hj => by
    have m := getD_mem (z := ((0, 0, 0) : Pc)) hj
    have := (h _ m).2
    unfold peLo
    rw [if_neg (Rat.not_lt.mpr (hx _ m))]
    grind) (List.length_pos_iff.mpr ne)
theorem SLo_all_above {s : List Pc} (h : PosP s) (ne : s ≠ []) {x : Rat} (hx : ∀ p, p ∈ s → p.1 < x) : 0 < SLo s x s.length :=
  sumTo_posi (fun j hj => by
    have m := getD_mem (z := ((0, 0, 0) : Pc)) hj
    have := (h _ m).1
    unfold peLo
    rw [if_pos (hx _ m)]
    exact this) (List.length_pos_iff.mpr ne)
/-- the middle's lesser end -/
theorem mid_lo {s : List Pc} (h : PosP s) (ne : s ≠ []) {m : Rat} (h1 : 0 ≤ SHi s m s.length) (h2 : ∀ p, p ∈ s → 0 ≤ SHi s p.1 s.length → m ≤ p.1) (x : Rat) : m ≤ x ↔ 0 ≤ SHi s x s.length := by
  constructor
  · intro c
    exact Rat.le_trans h1 (SHi_mono h c)
  · intro c
    by_cases hv : ∃ p, p ∈ s ∧ p.1 ≤ x
    · obtain ⟨p, hp, px, hl⟩ := val_max (fun v => v ≤ x) hv
      refine Rat.le_trans (h2 p hp ?_) px
      rw [SHi_congr (x := p.1) (y := x) fun q hq => ⟨fun e => ?_, fun e => ?_⟩]
      · exact c
      · exact Rat.not_le.mp fun e2 => absurd (hl q hq e2) (Rat.not_le.mpr e)
      · exact Std.lt_of_le_of_lt px e
    · exact absurd c (Rat.not_le.mpr (SHi_all_below h ne fun p hp => Rat.not_le.mp fun e => hv ⟨p, hp, e⟩))
theorem mid_hi {s : List Pc} (h : PosP s) (ne : s ≠ []) {m : Rat} (h1 : SLo s m s.length ≤ 0) (h2 : ∀ p, p ∈ s → SLo s p.1 s.length ≤ 0 → p.1 ≤ m) (x : Rat) : x ≤ m ↔ SLo s x s.length ≤ 0 := by
  constructor
  · intro c
    exact Rat.le_trans (SLo_mono h c) h1
  · intro c
    by_cases hv : ∃ p, p ∈ s ∧ x ≤ p.1
    · obtain ⟨p, hp, px, hl⟩ := val_min (fun v => x ≤ v) hv
      refine Rat.le_trans px (h2 p hp ?_)
      rw [SLo_congr (x := p.1) (y := x) fun q hq => ⟨fun e => ?_, fun e => ?_⟩]
      · exact c
      · exact Rat.not_le.mp fun e2 => absurd (hl q hq e2) (Rat.not_le.mpr e)
      · exact Std.lt_of_lt_of_le e px
    · exact absurd c (Rat.not_le.mpr (SLo_all_above h ne fun p hp => Rat.not_le.mp fun e => hv ⟨p, hp, e⟩))
theorem mid_le {s : List Pc} (h : PosP s) (ne : s ≠ []) {m m' : Rat} (h1 : ∀ x, m ≤ x ↔ 0 ≤ SHi s x s.length) (h2 : ∀ x, x ≤ m' ↔ SLo s x s.length ≤ 0) : m ≤ m' := by
  rw [h2]
  refine Rat.not_lt.mp fun c => ?_
  by_cases hv : ∃ p, p ∈ s ∧ p.1 < m
  · obtain ⟨p, hp, px, hl⟩ := val_max (fun v => v < m) hv
    have e : SHi s p.1 s.length = SLo s m s.length := SHi_SLo fun q hq => ⟨fun e e2 => absurd (hl q hq e2) (Rat.not_le.mpr e), fun e => Std.lt_of_lt_of_le px (Rat.not_lt.mp e)⟩
    have := (h1 p.1).mpr (by rw [e]; exact Rat.le_of_lt c)
    exact absurd px (Rat.not_lt.mpr this)
  · have := SLo_all_below h ne (x := m) fun p hp => Rat.not_lt.mp fun e => hv ⟨p, hp, e⟩
    exact absurd c (Rat.not_lt.mpr (Rat.le_of_lt this))
theorem cut_mid {α : Type} (xs : List α) {i j : Nat} (h : i ≤ j) (hj : j ≤ xs.length) : cutD xs (some (i : Int)) (some (j : Int)) = (xs.drop i).take (j - i) := by
  unfold cutD
  rw [HT.sIx_nat, HT.sIx_nat, Nat.min_eq_left (Nat.le_trans h hj), Nat.min_eq_left hj]
/-- a stretch -/
def strc (l : List Pc) (i j : Nat) : List Pc := (l.drop i).take (j - i)
theorem strc_len {l : List Pc} {i j : Nat} (h : i ≤ j) (hj : j ≤ l.length) : (strc l i j).length = j - i := by
  rw [strc, List.length_take, List.length_drop]
  omega
theorem strc_sub {l : List Pc} {i j : Nat} : (strc l i j).Sublist l := (List.take_sublist _ _).trans (List.drop_sublist _ _)
theorem strc_ok {l : List Pc} (g : PcL l) {i j : Nat} (h : i < j) (hj : j ≤ l.length) : PcL (strc l i j) := g.sub strc_sub fun e => by
  have := strc_len (l := l) (Nat.le_of_lt h) hj
  rw [e] at this
  simp at this
  omega
theorem PcL.posP {l : List Pc} (g : PcL l) : PosP l := fun p hp => g.pos hp
theorem PcL.sums {l : List Pc} (g : PcL l) (x : Rat) {k : Nat} (hk : k ≤ l.length) : Rsz 110 (SLo l x k) ∧ Rsz 110 (SHi l x k) := by
  obtain ⟨D, h0, hD, gp⟩ := g.ex
  have := g.few
  have f := SLo_fit (x := x) gp hk
  exact ⟨f.1.sz h0 hD (by omega), f.2.sz h0 hD (by omega)⟩
theorem num_nonpos {x : Rat} : x.num ≤ 0 ↔ x ≤ 0 := by
  rw [← Rat.not_lt, ← num_pos']
  omega
theorem num_nonneg' {x : Rat} : 0 ≤ x.num ↔ 0 ≤ x := Rat.num_nonneg
theorem at_lastq {V : List Rat} (h : 0 < V.length) : atI (V.map qD) (-1) = some (qD (rAt V (V.length - 1))) := by
  rcases List.eq_nil_or_concat V with rfl | ⟨ys, z, rfl⟩
  · cases h
  · have e : rAt (ys ++ [z]) ((ys ++ [z]).length - 1) = z := rAt_of (by rw [List.length_append, List.length_singleton, Nat.add_sub_cancel, List.getElem?_append_right (Nat.le_refl _), Nat.sub_self]; rfl)
    rw [List.concat_eq_append] at *
    rw [e, List.map_append]
    exact atI_last _ _
end DL

set_option Elab.async false
set_option linter.all false
set_option maxRecDepth 100000
set_option maxHeartbeats 2000000
namespace My
open PySem PySem.Spec PyProof.Rows L2 Evl DL RQ HP
def topS (i : Nat) : Stmt := PySem.Challenge.pw_risingmeans_k31_middles_told.main.body.getD i (.Pass ⟨0, 0, 0, 0⟩)
/-- one step -/
local macro_rules | `(tactic| walk_at "dl1") => `(tactic| first
  | ((with_reducible refine gWE ?_); first | ((with_reducible refine' we_var ?hv ?_); (case hv => exact rfl)) | (with_reducible refine we_int ?_) | ((with_reducible refine' we_pot0 ?hv ?_); (case hv => exact rfl)) | ((with_reducible refine' we_pot1 ?hv ?_); (case hv => exact rfl)) | ((with_reducible refine' we_ixAO ?hv ?_); (case hv => exact rfl)) | ((with_reducible refine' we_lenAO ?hv ?_); (case hv => exact rfl)) | ((with_reducible refine' we_lendO ?hv ?_); (case hv => exact rfl)) | ((with_reducible refine' we_lendO2 ?hv ?_); (case hv => exact rfl)) | (with_reducible refine we_rep ?_) | (with_reducible refine we_op ?_) | ((with_reducible refine' we_lendC1 ?hv ?_); (case hv => exact rfl)) | ((with_reducible refine' we_lendC2 ?hv ?_); (case hv => exact rfl)) | ((with_reducible refine' we_lendB1 ?hv ?_); (case hv => exact rfl)) | (with_reducible refine we_call ?_) | ((with_reducible refine' we_callD ?hv ?_); (case hv => exact rfl)) | (with_reducible refine we_callDt ?_) | (with_reducible refine we_callX ?_) | (with_reducible refine we_callX0 ?_) | (with_reducible refine we_isTup ?_) | (with_reducible refine we_isLst ?_) | (with_reducible refine we_isInt ?_) | (with_reducible refine we_isBool ?_) | (with_reducible refine we_isStr ?_) | (with_reducible refine we_isi ?_) | (with_reducible refine we_cb ?_) | (with_reducible refine we_bl ?_) | (with_reducible refine we_str ?_) | (with_reducible refine we_non ?_) | (with_reducible refine we_const ?_) | (with_reducible refine we_un ?_) | (with_reducible refine we_tup ?_) | (with_reducible refine we_lst ?_) | (with_reducible refine we_andV ?_) | (with_reducible refine we_orV ?_) | (with_reducible refine we_notV ?_) | (with_reducible refine we_if ?_) | (with_reducible refine we_slL ?_) | (with_reducible refine we_slT ?_) | (with_reducible refine we_revL ?_) | (with_reducible refine we_chain ?_) | (with_reducible refine we_chain3 ?_) | (with_reducible refine we_listZip ?_) | (with_reducible refine we_dict ?_))
  | ((with_reducible refine gRD ?_); first | (with_reducible refine rd_addI ?_) | (with_reducible refine rd_I0 ?_) | (with_reducible refine rd_IB ?_) | (with_reducible refine rd_eqDI ?_) | (with_reducible refine rd_neDI ?_) | (with_reducible refine rd_eqDB ?_) | (with_reducible refine rd_neDB ?_) | (with_reducible refine rd_eqQ ?_) | (with_reducible refine rd_neQ ?_) | (with_reducible refine rd_eqF ?_) | (with_reducible refine rd_neF ?_) | (with_reducible refine rd_isNone ?_) | (with_reducible refine rd_notNone ?_) | ((with_reducible refine' rd_ixAT ?hv ?_); (case hv => exact rfl)) | ((with_reducible refine' rd_ixAL ?hv ?_); (case hv => exact rfl)) | (with_reducible refine rd_mulI ?_ ?_) | (with_reducible refine rd_I ?_ ?_) | (with_reducible refine rd_isB ?_) | (with_reducible refine rd_neS ?_) | (with_reducible refine rd_eqS ?_) | (with_reducible refine rd_isAB ?_) | (with_reducible refine rd_notAB ?_) | (with_reducible refine rd_notB ?_))
  | ((with_reducible refine gWS ?_); first | (with_reducible refine ws_seq ?_) | (with_reducible refine ws_if ?_) | ((fail_if_success with_reducible refine stop_lst ?_); with_reducible refine ws_asg ?_) | ((with_reducible refine' ws_setI ?hv ?_); (case hv => exact rfl)) | ((fail_if_success with_reducible refine stop_lst ?_); (fail_if_success with_reducible refine stop_sub ?_); with_reducible refine ws_asgG ?_) | ((with_reducible refine' ws_retO ?hv ?hp ?_); (case hv => exact rfl); (case hp => first | exact pots_nil | exact pots_one 0 rfl)) | ((with_reducible refine' ws_ret ?_ ?hp); (case hp => first | exact pots_nil | exact pots_one 0 rfl)) | (with_reducible refine ws_next ?_) | (with_reducible refine ws_for ?_) | ((fail_if_success with_reducible refine stop_bm ?_); (fail_if_success with_reducible refine stop_bm0 ?_); with_reducible refine ws_drop ?_) | (with_reducible refine ws_par ?_) | (with_reducible refine ws_par3 ?_))
  | ((with_reducible refine gWA ?_); first | (with_reducible refine wa_nil ?_) | (with_reducible refine wa_cons ?_))
  | ((with_reducible refine gWT ?_); first | (with_reducible refine wt_test ?_) | (with_reducible refine wt_B ?_) | (with_reducible refine wt_and ?_) | (with_reducible refine wt_or ?_) | (with_reducible refine wt_not ?_) | (with_reducible refine wt_yes ?_))
  | ((with_reducible refine gIf ?_); first | (with_reducible refine if_t ?_) | (with_reducible refine if_f ?_) | (with_reducible refine if_nt ?_) | (with_reducible refine if_nf ?_) | ((with_reducible refine if_dT ?hv ?_); (case hv => first | exact rfl | (simp; done))) | ((with_reducible refine if_dF ?hv ?_); (case hv => (simp; done))) | ((with_reducible refine if_ndT ?hv ?_); (case hv => first | exact rfl | (simp; done))) | ((with_reducible refine if_ndF ?hv ?_); (case hv => (simp; done))))
  | ((with_reducible refine gCD ?_); first | (with_reducible refine cd_lenAL ?_) | (with_reducible refine cd_lenAT ?_) | (with_reducible refine cd_absI ?_) | (with_reducible refine cd_maxI ?_) | (with_reducible refine cd_minI ?_) | (with_reducible refine cd_listAL ?_) | (with_reducible refine cd_listAT ?_) | (with_reducible refine cd_tupL ?_) | (with_reducible refine cd_tupT ?_) | (with_reducible refine cd_intB ?_) | (with_reducible refine cd_sum ?_))
  | ((with_reducible refine gWI ?_); first | (with_reducible refine wi_rng1 ?_) | (with_reducible refine wi_rng2 ?_) | (with_reducible refine wi_seq ?_) | (with_reducible refine wi_zip ?_) | (with_reducible refine wi_enum ?_) | (with_reducible refine wi_rngD ?_))
  | ((with_reducible refine gWG ?_); first | (with_reducible refine wg_name ?_) | ((with_reducible refine' wg_tup ?hv ?_); (case hv => exact rfl)))
  | ((with_reducible refine gWGs ?_); first | (with_reducible refine wgs_cons ?_) | (with_reducible refine wgs_nil ?_))
  | ((with_reducible refine gWB ?_); first | ((with_reducible refine' wb_name ?h1 ?h2 ?h3 ?_); (case h1 => decide); (case h2 => exact rfl); (case h3 => exact rfl)) | ((with_reducible refine' wb_tup ?hv ?_); (case hv => exact rfl)))
  | ((with_reducible refine gWBs ?_); first | (with_reducible refine wbs_cons ?_) | (with_reducible refine wbs_nil ?_))
  | ((with_reducible refine gRU ?_); first | (with_reducible refine ru_U ?_))
  | ((with_reducible refine gWO ?_); first | (with_reducible refine wo_none' ?_) | (with_reducible refine wo_part ?_))
  | ((with_reducible refine gAnd ?_); first | (refine ⟨flat_bool _, ?_⟩) | (refine ⟨flat_int _, ?_⟩) | (refine ⟨flat_none, ?_⟩))
  | (refine ⟨_, Or.inl rfl, ?_⟩)
  | (refine ⟨_, Or.inr rfl, ?_⟩)
  | (refine ⟨_, rfl, ?_⟩)
  | (refine ⟨_, _, rfl, ?_⟩)
  | (refine ⟨_, _, _, rfl, ?_⟩)
  | fail)
/-- one step, displays looked at -/
local macro_rules | `(tactic| walk_at "w1") => `(tactic| first
  | ((with_reducible refine gAnd ?_); (refine ⟨(by simp only [List.length_cons, List.length_nil]; omega : _ ≤ 100000), ?_⟩))
  | ((with_reducible refine gWE ?_); first | ((with_reducible refine' we_var ?hv ?_); (case hv => exact rfl)) | (with_reducible refine we_int ?_) | ((with_reducible refine' we_pot0 ?hv ?_); (case hv => exact rfl)) | ((with_reducible refine' we_pot1 ?hv ?_); (case hv => exact rfl)) | ((with_reducible refine' we_ixAO ?hv ?_); (case hv => exact rfl)) | ((with_reducible refine' we_lenAO ?hv ?_); (case hv => exact rfl)) | ((with_reducible refine' we_lendO ?hv ?_); (case hv => exact rfl)) | ((with_reducible refine' we_lendO2 ?hv ?_); (case hv => exact rfl)) | (with_reducible refine we_rep ?_) | (with_reducible refine we_op ?_) | ((with_reducible refine' we_lendC1 ?hv ?_); (case hv => exact rfl)) | ((with_reducible refine' we_lendC2 ?hv ?_); (case hv => exact rfl)) | ((with_reducible refine' we_lendB1 ?hv ?_); (case hv => exact rfl)) | (with_reducible refine we_call ?_) | ((with_reducible refine' we_callD ?hv ?_); (case hv => exact rfl)) | (with_reducible refine we_callDt ?_) | (with_reducible refine we_callX ?_) | (with_reducible refine we_callX0 ?_) | (with_reducible refine we_isTup ?_) | (with_reducible refine we_isLst ?_) | (with_reducible refine we_isInt ?_) | (with_reducible refine we_isBool ?_) | (with_reducible refine we_isStr ?_) | (with_reducible refine we_isi ?_) | (with_reducible refine we_cb ?_) | (with_reducible refine we_bl ?_) | (with_reducible refine we_str ?_) | (with_reducible refine we_non ?_) | (with_reducible refine we_const ?_) | (with_reducible refine we_un ?_) | (with_reducible refine we_tup ?_) | (with_reducible refine we_lst ?_) | (with_reducible refine we_andV ?_) | (with_reducible refine we_orV ?_) | (with_reducible refine we_notV ?_) | (with_reducible refine we_if ?_) | (with_reducible refine we_slL ?_) | (with_reducible refine we_slT ?_) | (with_reducible refine we_revL ?_) | (with_reducible refine we_chain ?_) | (with_reducible refine we_chain3 ?_) | (with_reducible refine we_listZip ?_) | (with_reducible refine we_dict ?_))
  | ((with_reducible refine gRD ?_); first | (with_reducible refine rd_addI ?_) | (with_reducible refine rd_I0 ?_) | (with_reducible refine rd_IB ?_) | (with_reducible refine rd_eqDI ?_) | (with_reducible refine rd_neDI ?_) | (with_reducible refine rd_eqDB ?_) | (with_reducible refine rd_neDB ?_) | (with_reducible refine rd_eqQ ?_) | (with_reducible refine rd_neQ ?_) | (with_reducible refine rd_eqF ?_) | (with_reducible refine rd_neF ?_) | (with_reducible refine rd_isNone ?_) | (with_reducible refine rd_notNone ?_) | ((with_reducible refine' rd_ixAT ?hv ?_); (case hv => exact rfl)) | ((with_reducible refine' rd_ixAL ?hv ?_); (case hv => exact rfl)) | (with_reducible refine rd_mulI ?_ ?_) | (with_reducible refine rd_I ?_ ?_) | (with_reducible refine rd_isB ?_) | (with_reducible refine rd_neS ?_) | (with_reducible refine rd_eqS ?_) | (with_reducible refine rd_isAB ?_) | (with_reducible refine rd_notAB ?_) | (with_reducible refine rd_notB ?_))
  | ((with_reducible refine gWS ?_); first | (with_reducible refine ws_seq ?_) | (with_reducible refine ws_if ?_) | ((fail_if_success with_reducible refine stop_lst ?_); with_reducible refine ws_asg ?_) | ((with_reducible refine' ws_setI ?hv ?_); (case hv => exact rfl)) | ((fail_if_success with_reducible refine stop_lst ?_); (fail_if_success with_reducible refine stop_sub ?_); with_reducible refine ws_asgG ?_) | ((with_reducible refine' ws_retO ?hv ?hp ?_); (case hv => exact rfl); (case hp => first | exact pots_nil | exact pots_one 0 rfl)) | ((with_reducible refine' ws_ret ?_ ?hp); (case hp => first | exact pots_nil | exact pots_one 0 rfl)) | (with_reducible refine ws_next ?_) | (with_reducible refine ws_for ?_) | ((fail_if_success with_reducible refine stop_bm ?_); (fail_if_success with_reducible refine stop_bm0 ?_); with_reducible refine ws_drop ?_) | (with_reducible refine ws_par ?_) | (with_reducible refine ws_par3 ?_))
  | ((with_reducible refine gWA ?_); first | (with_reducible refine wa_nil ?_) | (with_reducible refine wa_cons ?_))
  | ((with_reducible refine gWT ?_); first | (with_reducible refine wt_test ?_) | (with_reducible refine wt_B ?_) | (with_reducible refine wt_and ?_) | (with_reducible refine wt_or ?_) | (with_reducible refine wt_not ?_) | (with_reducible refine wt_yes ?_))
  | ((with_reducible refine gIf ?_); first | (with_reducible refine if_t ?_) | (with_reducible refine if_f ?_) | (with_reducible refine if_nt ?_) | (with_reducible refine if_nf ?_) | ((with_reducible refine if_dT ?hv ?_); (case hv => first | exact rfl | (simp; done))) | ((with_reducible refine if_dF ?hv ?_); (case hv => (simp; done))) | ((with_reducible refine if_ndT ?hv ?_); (case hv => first | exact rfl | (simp; done))) | ((with_reducible refine if_ndF ?hv ?_); (case hv => (simp; done))))
  | ((with_reducible refine gCD ?_); first | (with_reducible refine cd_lenAL ?_) | (with_reducible refine cd_lenAT ?_) | (with_reducible refine cd_absI ?_) | (with_reducible refine cd_maxI ?_) | (with_reducible refine cd_minI ?_) | (with_reducible refine cd_listAL ?_) | (with_reducible refine cd_listAT ?_) | (with_reducible refine cd_tupL ?_) | (with_reducible refine cd_tupT ?_) | (with_reducible refine cd_intB ?_) | (with_reducible refine cd_sum ?_))
  | ((with_reducible refine gWI ?_); first | (with_reducible refine wi_rng1 ?_) | (with_reducible refine wi_rng2 ?_) | (with_reducible refine wi_seq ?_) | (with_reducible refine wi_zip ?_) | (with_reducible refine wi_enum ?_) | (with_reducible refine wi_rngD ?_))
  | ((with_reducible refine gWG ?_); first | (with_reducible refine wg_name ?_) | ((with_reducible refine' wg_tup ?hv ?_); (case hv => exact rfl)))
  | ((with_reducible refine gWGs ?_); first | (with_reducible refine wgs_cons ?_) | (with_reducible refine wgs_nil ?_))
  | ((with_reducible refine gWB ?_); first | ((with_reducible refine' wb_name ?h1 ?h2 ?h3 ?_); (case h1 => decide); (case h2 => exact rfl); (case h3 => exact rfl)) | ((with_reducible refine' wb_tup ?hv ?_); (case hv => exact rfl)))
  | ((with_reducible refine gWBs ?_); first | (with_reducible refine wbs_cons ?_) | (with_reducible refine wbs_nil ?_))
  | ((with_reducible refine gRU ?_); first | (with_reducible refine ru_U ?_))
  | ((with_reducible refine gWO ?_); first | (with_reducible refine wo_none' ?_) | (with_reducible refine wo_part ?_))
  | ((with_reducible refine gAnd ?_); first | (refine ⟨flat_bool _, ?_⟩) | (refine ⟨flat_int _, ?_⟩) | (refine ⟨flat_none, ?_⟩))
  | (refine ⟨_, Or.inl rfl, ?_⟩)
  | (refine ⟨_, Or.inr rfl, ?_⟩)
  | (refine ⟨_, rfl, ?_⟩)
  | (refine ⟨_, _, rfl, ?_⟩)
  | (refine ⟨_, _, _, rfl, ?_⟩)
  | fail)
/-- all steps -/
local macro_rules | `(tactic| walk_at "dl") => `(tactic| repeat' (first
  | ((with_reducible refine gWE ?_); first | ((with_reducible refine' we_var ?hv ?_); (case hv => exact rfl)) | (with_reducible refine we_int ?_) | ((with_reducible refine' we_pot0 ?hv ?_); (case hv => exact rfl)) | ((with_reducible refine' we_pot1 ?hv ?_); (case hv => exact rfl)) | ((with_reducible refine' we_ixAO ?hv ?_); (case hv => exact rfl)) | ((with_reducible refine' we_lenAO ?hv ?_); (case hv => exact rfl)) | ((with_reducible refine' we_lendO ?hv ?_); (case hv => exact rfl)) | ((with_reducible refine' we_lendO2 ?hv ?_); (case hv => exact rfl)) | (with_reducible refine we_rep ?_) | (with_reducible refine we_op ?_) | ((with_reducible refine' we_lendC1 ?hv ?_); (case hv => exact rfl)) | ((with_reducible refine' we_lendC2 ?hv ?_); (case hv => exact rfl)) | ((with_reducible refine' we_lendB1 ?hv ?_); (case hv => exact rfl)) | (with_reducible refine we_call ?_) | ((with_reducible refine' we_callD ?hv ?_); (case hv => exact rfl)) | (with_reducible refine we_callDt ?_) | (with_reducible refine we_callX ?_) | (with_reducible refine we_callX0 ?_) | (with_reducible refine we_isTup ?_) | (with_reducible refine we_isLst ?_) | (with_reducible refine we_isInt ?_) | (with_reducible refine we_isBool ?_) | (with_reducible refine we_isStr ?_) | (with_reducible refine we_isi ?_) | (with_reducible refine we_cb ?_) | (with_reducible refine we_bl ?_) | (with_reducible refine we_str ?_) | (with_reducible refine we_non ?_) | (with_reducible refine we_const ?_) | (with_reducible refine we_un ?_) | (with_reducible refine we_tup ?_) | (with_reducible refine we_lst ?_) | (with_reducible refine we_andV ?_) | (with_reducible refine we_orV ?_) | (with_reducible refine we_notV ?_) | (with_reducible refine we_if ?_) | (with_reducible refine we_slL ?_) | (with_reducible refine we_slT ?_) | (with_reducible refine we_revL ?_) | (with_reducible refine we_chain ?_) | (with_reducible refine we_chain3 ?_) | (with_reducible refine we_listZip ?_) | (with_reducible refine we_dict ?_))
  | ((with_reducible refine gRD ?_); first | (with_reducible refine rd_addI ?_) | (with_reducible refine rd_I0 ?_) | (with_reducible refine rd_IB ?_) | (with_reducible refine rd_eqDI ?_) | (with_reducible refine rd_neDI ?_) | (with_reducible refine rd_eqDB ?_) | (with_reducible refine rd_neDB ?_) | (with_reducible refine rd_eqQ ?_) | (with_reducible refine rd_neQ ?_) | (with_reducible refine rd_eqF ?_) | (with_reducible refine rd_neF ?_) | (with_reducible refine rd_isNone ?_) | (with_reducible refine rd_notNone ?_) | ((with_reducible refine' rd_ixAT ?hv ?_); (case hv => exact rfl)) | ((with_reducible refine' rd_ixAL ?hv ?_); (case hv => exact rfl)) | (with_reducible refine rd_mulI ?_ ?_) | (with_reducible refine rd_I ?_ ?_) | (with_reducible refine rd_isB ?_) | (with_reducible refine rd_neS ?_) | (with_reducible refine rd_eqS ?_) | (with_reducible refine rd_isAB ?_) | (with_reducible refine rd_notAB ?_) | (with_reducible refine rd_notB ?_))
  | ((with_reducible refine gWS ?_); first | (with_reducible refine ws_seq ?_) | (with_reducible refine ws_if ?_) | ((fail_if_success with_reducible refine stop_lst ?_); with_reducible refine ws_asg ?_) | ((with_reducible refine' ws_setI ?hv ?_); (case hv => exact rfl)) | ((fail_if_success with_reducible refine stop_lst ?_); (fail_if_success with_reducible refine stop_sub ?_); with_reducible refine ws_asgG ?_) | ((with_reducible refine' ws_retO ?hv ?hp ?_); (case hv => exact rfl); (case hp => first | exact pots_nil | exact pots_one 0 rfl)) | ((with_reducible refine' ws_ret ?_ ?hp); (case hp => first | exact pots_nil | exact pots_one 0 rfl)) | (with_reducible refine ws_next ?_) | (with_reducible refine ws_for ?_) | ((fail_if_success with_reducible refine stop_bm ?_); (fail_if_success with_reducible refine stop_bm0 ?_); with_reducible refine ws_drop ?_) | (with_reducible refine ws_par ?_) | (with_reducible refine ws_par3 ?_))
  | ((with_reducible refine gWA ?_); first | (with_reducible refine wa_nil ?_) | (with_reducible refine wa_cons ?_))
  | ((with_reducible refine gWT ?_); first | (with_reducible refine wt_test ?_) | (with_reducible refine wt_B ?_) | (with_reducible refine wt_and ?_) | (with_reducible refine wt_or ?_) | (with_reducible refine wt_not ?_) | (with_reducible refine wt_yes ?_))
  | ((with_reducible refine gIf ?_); first | (with_reducible refine if_t ?_) | (with_reducible refine if_f ?_) | (with_reducible refine if_nt ?_) | (with_reducible refine if_nf ?_) | ((with_reducible refine if_dT ?hv ?_); (case hv => first | exact rfl | (simp; done))) | ((with_reducible refine if_dF ?hv ?_); (case hv => (simp; done))) | ((with_reducible refine if_ndT ?hv ?_); (case hv => first | exact rfl | (simp; done))) | ((with_reducible refine if_ndF ?hv ?_); (case hv => (simp; done))))
  | ((with_reducible refine gCD ?_); first | (with_reducible refine cd_lenAL ?_) | (with_reducible refine cd_lenAT ?_) | (with_reducible refine cd_absI ?_) | (with_reducible refine cd_maxI ?_) | (with_reducible refine cd_minI ?_) | (with_reducible refine cd_listAL ?_) | (with_reducible refine cd_listAT ?_) | (with_reducible refine cd_tupL ?_) | (with_reducible refine cd_tupT ?_) | (with_reducible refine cd_intB ?_) | (with_reducible refine cd_sum ?_))
  | ((with_reducible refine gWI ?_); first | (with_reducible refine wi_rng1 ?_) | (with_reducible refine wi_rng2 ?_) | (with_reducible refine wi_seq ?_) | (with_reducible refine wi_zip ?_) | (with_reducible refine wi_enum ?_) | (with_reducible refine wi_rngD ?_))
  | ((with_reducible refine gWG ?_); first | (with_reducible refine wg_name ?_) | ((with_reducible refine' wg_tup ?hv ?_); (case hv => exact rfl)))
  | ((with_reducible refine gWGs ?_); first | (with_reducible refine wgs_cons ?_) | (with_reducible refine wgs_nil ?_))
  | ((with_reducible refine gWB ?_); first | ((with_reducible refine' wb_name ?h1 ?h2 ?h3 ?_); (case h1 => decide); (case h2 => exact rfl); (case h3 => exact rfl)) | ((with_reducible refine' wb_tup ?hv ?_); (case hv => exact rfl)))
  | ((with_reducible refine gWBs ?_); first | (with_reducible refine wbs_cons ?_) | (with_reducible refine wbs_nil ?_))
  | ((with_reducible refine gRU ?_); first | (with_reducible refine ru_U ?_))
  | ((with_reducible refine gWO ?_); first | (with_reducible refine wo_none' ?_) | (with_reducible refine wo_part ?_))
  | ((with_reducible refine gAnd ?_); first | (refine ⟨flat_bool _, ?_⟩) | (refine ⟨flat_int _, ?_⟩) | (refine ⟨flat_none, ?_⟩))
  | (refine ⟨_, Or.inl rfl, ?_⟩)
  | (refine ⟨_, Or.inr rfl, ?_⟩)
  | (refine ⟨_, rfl, ?_⟩)
  | (refine ⟨_, _, rfl, ?_⟩)
  | (refine ⟨_, _, _, rfl, ?_⟩)
  | fail))
/-- as dl, but it stops ahead of the next statement -/
local macro_rules | `(tactic| walk_at "dle") => `(tactic| repeat' ((fail_if_success with_reducible refine ws_seq ?_); first
  | ((with_reducible refine gWE ?_); first | ((with_reducible refine' we_var ?hv ?_); (case hv => exact rfl)) | (with_reducible refine we_int ?_) | ((with_reducible refine' we_pot0 ?hv ?_); (case hv => exact rfl)) | ((with_reducible refine' we_pot1 ?hv ?_); (case hv => exact rfl)) | ((with_reducible refine' we_ixAO ?hv ?_); (case hv => exact rfl)) | ((with_reducible refine' we_lenAO ?hv ?_); (case hv => exact rfl)) | ((with_reducible refine' we_lendO ?hv ?_); (case hv => exact rfl)) | ((with_reducible refine' we_lendO2 ?hv ?_); (case hv => exact rfl)) | (with_reducible refine we_rep ?_) | (with_reducible refine we_op ?_) | ((with_reducible refine' we_lendC1 ?hv ?_); (case hv => exact rfl)) | ((with_reducible refine' we_lendC2 ?hv ?_); (case hv => exact rfl)) | ((with_reducible refine' we_lendB1 ?hv ?_); (case hv => exact rfl)) | (with_reducible refine we_call ?_) | ((with_reducible refine' we_callD ?hv ?_); (case hv => exact rfl)) | (with_reducible refine we_callDt ?_) | (with_reducible refine we_callX ?_) | (with_reducible refine we_callX0 ?_) | (with_reducible refine we_isTup ?_) | (with_reducible refine we_isLst ?_) | (with_reducible refine we_isInt ?_) | (with_reducible refine we_isBool ?_) | (with_reducible refine we_isStr ?_) | (with_reducible refine we_isi ?_) | (with_reducible refine we_cb ?_) | (with_reducible refine we_bl ?_) | (with_reducible refine we_str ?_) | (with_reducible refine we_non ?_) | (with_reducible refine we_const ?_) | (with_reducible refine we_un ?_) | (with_reducible refine we_tup ?_) | (with_reducible refine we_lst ?_) | (with_reducible refine we_andV ?_) | (with_reducible refine we_orV ?_) | (with_reducible refine we_notV ?_) | (with_reducible refine we_if ?_) | (with_reducible refine we_slL ?_) | (with_reducible refine we_slT ?_) | (with_reducible refine we_revL ?_) | (with_reducible refine we_chain ?_) | (with_reducible refine we_chain3 ?_) | (with_reducible refine we_listZip ?_) | (with_reducible refine we_dict ?_))
  | ((with_reducible refine gRD ?_); first | (with_reducible refine rd_addI ?_) | (with_reducible refine rd_I0 ?_) | (with_reducible refine rd_IB ?_) | (with_reducible refine rd_eqDI ?_) | (with_reducible refine rd_neDI ?_) | (with_reducible refine rd_eqDB ?_) | (with_reducible refine rd_neDB ?_) | (with_reducible refine rd_eqQ ?_) | (with_reducible refine rd_neQ ?_) | (with_reducible refine rd_eqF ?_) | (with_reducible refine rd_neF ?_) | (with_reducible refine rd_isNone ?_) | (with_reducible refine rd_notNone ?_) | ((with_reducible refine' rd_ixAT ?hv ?_); (case hv => exact rfl)) | ((with_reducible refine' rd_ixAL ?hv ?_); (case hv => exact rfl)) | (with_reducible refine rd_mulI ?_ ?_) | (with_reducible refine rd_I ?_ ?_) | (with_reducible refine rd_isB ?_) | (with_reducible refine rd_neS ?_) | (with_reducible refine rd_eqS ?_) | (with_reducible refine rd_isAB ?_) | (with_reducible refine rd_notAB ?_) | (with_reducible refine rd_notB ?_))
  | ((with_reducible refine gWS ?_); first | (with_reducible refine ws_seq ?_) | (with_reducible refine ws_if ?_) | ((fail_if_success with_reducible refine stop_lst ?_); with_reducible refine ws_asg ?_) | ((with_reducible refine' ws_setI ?hv ?_); (case hv => exact rfl)) | ((fail_if_success with_reducible refine stop_lst ?_); (fail_if_success with_reducible refine stop_sub ?_); with_reducible refine ws_asgG ?_) | ((with_reducible refine' ws_retO ?hv ?hp ?_); (case hv => exact rfl); (case hp => first | exact pots_nil | exact pots_one 0 rfl)) | ((with_reducible refine' ws_ret ?_ ?hp); (case hp => first | exact pots_nil | exact pots_one 0 rfl)) | (with_reducible refine ws_next ?_) | (with_reducible refine ws_for ?_) | ((fail_if_success with_reducible refine stop_bm ?_); (fail_if_success with_reducible refine stop_bm0 ?_); with_reducible refine ws_drop ?_) | (with_reducible refine ws_par ?_) | (with_reducible refine ws_par3 ?_))
  | ((with_reducible refine gWA ?_); first | (with_reducible refine wa_nil ?_) | (with_reducible refine wa_cons ?_))
  | ((with_reducible refine gWT ?_); first | (with_reducible refine wt_test ?_) | (with_reducible refine wt_B ?_) | (with_reducible refine wt_and ?_) | (with_reducible refine wt_or ?_) | (with_reducible refine wt_not ?_) | (with_reducible refine wt_yes ?_))
  | ((with_reducible refine gIf ?_); first | (with_reducible refine if_t ?_) | (with_reducible refine if_f ?_) | (with_reducible refine if_nt ?_) | (with_reducible refine if_nf ?_) | ((with_reducible refine if_dT ?hv ?_); (case hv => first | exact rfl | (simp; done))) | ((with_reducible refine if_dF ?hv ?_); (case hv => (simp; done))) | ((with_reducible refine if_ndT ?hv ?_); (case hv => first | exact rfl | (simp; done))) | ((with_reducible refine if_ndF ?hv ?_); (case hv => (simp; done))))
  | ((with_reducible refine gCD ?_); first | (with_reducible refine cd_lenAL ?_) | (with_reducible refine cd_lenAT ?_) | (with_reducible refine cd_absI ?_) | (with_reducible refine cd_maxI ?_) | (with_reducible refine cd_minI ?_) | (with_reducible refine cd_listAL ?_) | (with_reducible refine cd_listAT ?_) | (with_reducible refine cd_tupL ?_) | (with_reducible refine cd_tupT ?_) | (with_reducible refine cd_intB ?_) | (with_reducible refine cd_sum ?_))
  | ((with_reducible refine gWI ?_); first | (with_reducible refine wi_rng1 ?_) | (with_reducible refine wi_rng2 ?_) | (with_reducible refine wi_seq ?_) | (with_reducible refine wi_zip ?_) | (with_reducible refine wi_enum ?_) | (with_reducible refine wi_rngD ?_))
  | ((with_reducible refine gWG ?_); first | (with_reducible refine wg_name ?_) | ((with_reducible refine' wg_tup ?hv ?_); (case hv => exact rfl)))
  | ((with_reducible refine gWGs ?_); first | (with_reducible refine wgs_cons ?_) | (with_reducible refine wgs_nil ?_))
  | ((with_reducible refine gWB ?_); first | ((with_reducible refine' wb_name ?h1 ?h2 ?h3 ?_); (case h1 => decide); (case h2 => exact rfl); (case h3 => exact rfl)) | ((with_reducible refine' wb_tup ?hv ?_); (case hv => exact rfl)))
  | ((with_reducible refine gWBs ?_); first | (with_reducible refine wbs_cons ?_) | (with_reducible refine wbs_nil ?_))
  | ((with_reducible refine gRU ?_); first | (with_reducible refine ru_U ?_))
  | ((with_reducible refine gWO ?_); first | (with_reducible refine wo_none' ?_) | (with_reducible refine wo_part ?_))
  | ((with_reducible refine gAnd ?_); first | (refine ⟨flat_bool _, ?_⟩) | (refine ⟨flat_int _, ?_⟩) | (refine ⟨flat_none, ?_⟩))
  | (refine ⟨_, Or.inl rfl, ?_⟩)
  | (refine ⟨_, Or.inr rfl, ?_⟩)
  | (refine ⟨_, rfl, ?_⟩)
  | (refine ⟨_, _, rfl, ?_⟩)
  | (refine ⟨_, _, _, rfl, ?_⟩)
  | fail))
/-- as dl, and lists that are displayed are held as things -/
local macro_rules | `(tactic| walk_at "dlv") => `(tactic| repeat' (first
  | (with_reducible refine ws_asg ?_)
  | ((with_reducible refine gWE ?_); first | ((with_reducible refine' we_var ?hv ?_); (case hv => exact rfl)) | (with_reducible refine we_int ?_) | ((with_reducible refine' we_pot0 ?hv ?_); (case hv => exact rfl)) | ((with_reducible refine' we_pot1 ?hv ?_); (case hv => exact rfl)) | ((with_reducible refine' we_ixAO ?hv ?_); (case hv => exact rfl)) | ((with_reducible refine' we_lenAO ?hv ?_); (case hv => exact rfl)) | ((with_reducible refine' we_lendO ?hv ?_); (case hv => exact rfl)) | ((with_reducible refine' we_lendO2 ?hv ?_); (case hv => exact rfl)) | (with_reducible refine we_rep ?_) | (with_reducible refine we_op ?_) | ((with_reducible refine' we_lendC1 ?hv ?_); (case hv => exact rfl)) | ((with_reducible refine' we_lendC2 ?hv ?_); (case hv => exact rfl)) | ((with_reducible refine' we_lendB1 ?hv ?_); (case hv => exact rfl)) | (with_reducible refine we_call ?_) | ((with_reducible refine' we_callD ?hv ?_); (case hv => exact rfl)) | (with_reducible refine we_callDt ?_) | (with_reducible refine we_callX ?_) | (with_reducible refine we_callX0 ?_) | (with_reducible refine we_isTup ?_) | (with_reducible refine we_isLst ?_) | (with_reducible refine we_isInt ?_) | (with_reducible refine we_isBool ?_) | (with_reducible refine we_isStr ?_) | (with_reducible refine we_isi ?_) | (with_reducible refine we_cb ?_) | (with_reducible refine we_bl ?_) | (with_reducible refine we_str ?_) | (with_reducible refine we_non ?_) | (with_reducible refine we_const ?_) | (with_reducible refine we_un ?_) | (with_reducible refine we_tup ?_) | (with_reducible refine we_lst ?_) | (with_reducible refine we_andV ?_) | (with_reducible refine we_orV ?_) | (with_reducible refine we_notV ?_) | (with_reducible refine we_if ?_) | (with_reducible refine we_slL ?_) | (with_reducible refine we_slT ?_) | (with_reducible refine we_revL ?_) | (with_reducible refine we_chain ?_) | (with_reducible refine we_chain3 ?_) | (with_reducible refine we_listZip ?_) | (with_reducible refine we_dict ?_))
  | ((with_reducible refine gRD ?_); first | (with_reducible refine rd_addI ?_) | (with_reducible refine rd_I0 ?_) | (with_reducible refine rd_IB ?_) | (with_reducible refine rd_eqDI ?_) | (with_reducible refine rd_neDI ?_) | (with_reducible refine rd_eqDB ?_) | (with_reducible refine rd_neDB ?_) | (with_reducible refine rd_eqQ ?_) | (with_reducible refine rd_neQ ?_) | (with_reducible refine rd_eqF ?_) | (with_reducible refine rd_neF ?_) | (with_reducible refine rd_isNone ?_) | (with_reducible refine rd_notNone ?_) | ((with_reducible refine' rd_ixAT ?hv ?_); (case hv => exact rfl)) | ((with_reducible refine' rd_ixAL ?hv ?_); (case hv => exact rfl)) | (with_reducible refine rd_mulI ?_ ?_) | (with_reducible refine rd_I ?_ ?_) | (with_reducible refine rd_isB ?_) | (with_reducible refine rd_neS ?_) | (with_reducible refine rd_eqS ?_) | (with_reducible refine rd_isAB ?_) | (with_reducible refine rd_notAB ?_) | (with_reducible refine rd_notB ?_))
  | ((with_reducible refine gWS ?_); first | (with_reducible refine ws_seq ?_) | (with_reducible refine ws_if ?_) | ((fail_if_success with_reducible refine stop_lst ?_); with_reducible refine ws_asg ?_) | ((with_reducible refine' ws_setI ?hv ?_); (case hv => exact rfl)) | ((fail_if_success with_reducible refine stop_lst ?_); (fail_if_success with_reducible refine stop_sub ?_); with_reducible refine ws_asgG ?_) | ((with_reducible refine' ws_retO ?hv ?hp ?_); (case hv => exact rfl); (case hp => first | exact pots_nil | exact pots_one 0 rfl)) | ((with_reducible refine' ws_ret ?_ ?hp); (case hp => first | exact pots_nil | exact pots_one 0 rfl)) | (with_reducible refine ws_next ?_) | (with_reducible refine ws_for ?_) | ((fail_if_success with_reducible refine stop_bm ?_); (fail_if_success with_reducible refine stop_bm0 ?_); with_reducible refine ws_drop ?_) | (with_reducible refine ws_par ?_) | (with_reducible refine ws_par3 ?_))
  | ((with_reducible refine gWA ?_); first | (with_reducible refine wa_nil ?_) | (with_reducible refine wa_cons ?_))
  | ((with_reducible refine gWT ?_); first | (with_reducible refine wt_test ?_) | (with_reducible refine wt_B ?_) | (with_reducible refine wt_and ?_) | (with_reducible refine wt_or ?_) | (with_reducible refine wt_not ?_) | (with_reducible refine wt_yes ?_))
  | ((with_reducible refine gIf ?_); first | (with_reducible refine if_t ?_) | (with_reducible refine if_f ?_) | (with_reducible refine if_nt ?_) | (with_reducible refine if_nf ?_) | ((with_reducible refine if_dT ?hv ?_); (case hv => first | exact rfl | (simp; done))) | ((with_reducible refine if_dF ?hv ?_); (case hv => (simp; done))) | ((with_reducible refine if_ndT ?hv ?_); (case hv => first | exact rfl | (simp; done))) | ((with_reducible refine if_ndF ?hv ?_); (case hv => (simp; done))))
  | ((with_reducible refine gCD ?_); first | (with_reducible refine cd_lenAL ?_) | (with_reducible refine cd_lenAT ?_) | (with_reducible refine cd_absI ?_) | (with_reducible refine cd_maxI ?_) | (with_reducible refine cd_minI ?_) | (with_reducible refine cd_listAL ?_) | (with_reducible refine cd_listAT ?_) | (with_reducible refine cd_tupL ?_) | (with_reducible refine cd_tupT ?_) | (with_reducible refine cd_intB ?_) | (with_reducible refine cd_sum ?_))
  | ((with_reducible refine gWI ?_); first | (with_reducible refine wi_rng1 ?_) | (with_reducible refine wi_rng2 ?_) | (with_reducible refine wi_seq ?_) | (with_reducible refine wi_zip ?_) | (with_reducible refine wi_enum ?_) | (with_reducible refine wi_rngD ?_))
  | ((with_reducible refine gWG ?_); first | (with_reducible refine wg_name ?_) | ((with_reducible refine' wg_tup ?hv ?_); (case hv => exact rfl)))
  | ((with_reducible refine gWGs ?_); first | (with_reducible refine wgs_cons ?_) | (with_reducible refine wgs_nil ?_))
  | ((with_reducible refine gWB ?_); first | ((with_reducible refine' wb_name ?h1 ?h2 ?h3 ?_); (case h1 => decide); (case h2 => exact rfl); (case h3 => exact rfl)) | ((with_reducible refine' wb_tup ?hv ?_); (case hv => exact rfl)))
  | ((with_reducible refine gWBs ?_); first | (with_reducible refine wbs_cons ?_) | (with_reducible refine wbs_nil ?_))
  | ((with_reducible refine gRU ?_); first | (with_reducible refine ru_U ?_))
  | ((with_reducible refine gWO ?_); first | (with_reducible refine wo_none' ?_) | (with_reducible refine wo_part ?_))
  | ((with_reducible refine gAnd ?_); first | (refine ⟨flat_bool _, ?_⟩) | (refine ⟨flat_int _, ?_⟩) | (refine ⟨flat_none, ?_⟩))
  | (refine ⟨_, Or.inl rfl, ?_⟩)
  | (refine ⟨_, Or.inr rfl, ?_⟩)
  | (refine ⟨_, rfl, ?_⟩)
  | (refine ⟨_, _, rfl, ?_⟩)
  | (refine ⟨_, _, _, rfl, ?_⟩)
  | fail))
/-- as dlv, and displays' lengths are looked at -/
local macro_rules | `(tactic| walk_at "w") => `(tactic| repeat' (first
  | (with_reducible refine ws_asg ?_)
  | ((with_reducible refine gAnd ?_); (refine ⟨(by simp only [List.length_cons, List.length_nil]; omega : _ ≤ 100000), ?_⟩))
  | ((with_reducible refine gWE ?_); first | ((with_reducible refine' we_var ?hv ?_); (case hv => exact rfl)) | (with_reducible refine we_int ?_) | ((with_reducible refine' we_pot0 ?hv ?_); (case hv => exact rfl)) | ((with_reducible refine' we_pot1 ?hv ?_); (case hv => exact rfl)) | ((with_reducible refine' we_ixAO ?hv ?_); (case hv => exact rfl)) | ((with_reducible refine' we_lenAO ?hv ?_); (case hv => exact rfl)) | ((with_reducible refine' we_lendO ?hv ?_); (case hv => exact rfl)) | ((with_reducible refine' we_lendO2 ?hv ?_); (case hv => exact rfl)) | (with_reducible refine we_rep ?_) | (with_reducible refine we_op ?_) | ((with_reducible refine' we_lendC1 ?hv ?_); (case hv => exact rfl)) | ((with_reducible refine' we_lendC2 ?hv ?_); (case hv => exact rfl)) | ((with_reducible refine' we_lendB1 ?hv ?_); (case hv => exact rfl)) | (with_reducible refine we_call ?_) | ((with_reducible refine' we_callD ?hv ?_); (case hv => exact rfl)) | (with_reducible refine we_callDt ?_) | (with_reducible refine we_callX ?_) | (with_reducible refine we_callX0 ?_) | (with_reducible refine we_isTup ?_) | (with_reducible refine we_isLst ?_) | (with_reducible refine we_isInt ?_) | (with_reducible refine we_isBool ?_) | (with_reducible refine we_isStr ?_) | (with_reducible refine we_isi ?_) | (with_reducible refine we_cb ?_) | (with_reducible refine we_bl ?_) | (with_reducible refine we_str ?_) | (with_reducible refine we_non ?_) | (with_reducible refine we_const ?_) | (with_reducible refine we_un ?_) | (with_reducible refine we_tup ?_) | (with_reducible refine we_lst ?_) | (with_reducible refine we_andV ?_) | (with_reducible refine we_orV ?_) | (with_reducible refine we_notV ?_) | (with_reducible refine we_if ?_) | (with_reducible refine we_slL ?_) | (with_reducible refine we_slT ?_) | (with_reducible refine we_revL ?_) | (with_reducible refine we_chain ?_) | (with_reducible refine we_chain3 ?_) | (with_reducible refine we_listZip ?_) | (with_reducible refine we_dict ?_))
  | ((with_reducible refine gRD ?_); first | (with_reducible refine rd_addI ?_) | (with_reducible refine rd_I0 ?_) | (with_reducible refine rd_IB ?_) | (with_reducible refine rd_eqDI ?_) | (with_reducible refine rd_neDI ?_) | (with_reducible refine rd_eqDB ?_) | (with_reducible refine rd_neDB ?_) | (with_reducible refine rd_eqQ ?_) | (with_reducible refine rd_neQ ?_) | (with_reducible refine rd_eqF ?_) | (with_reducible refine rd_neF ?_) | (with_reducible refine rd_isNone ?_) | (with_reducible refine rd_notNone ?_) | ((with_reducible refine' rd_ixAT ?hv ?_); (case hv => exact rfl)) | ((with_reducible refine' rd_ixAL ?hv ?_); (case hv => exact rfl)) | (with_reducible refine rd_mulI ?_ ?_) | (with_reducible refine rd_I ?_ ?_) | (with_reducible refine rd_isB ?_) | (with_reducible refine rd_neS ?_) | (with_reducible refine rd_eqS ?_) | (with_reducible refine rd_isAB ?_) | (with_reducible refine rd_notAB ?_) | (with_reducible refine rd_notB ?_))
  | ((with_reducible refine gWS ?_); first | (with_reducible refine ws_seq ?_) | (with_reducible refine ws_if ?_) | ((fail_if_success with_reducible refine stop_lst ?_); with_reducible refine ws_asg ?_) | ((with_reducible refine' ws_setI ?hv ?_); (case hv => exact rfl)) | ((fail_if_success with_reducible refine stop_lst ?_); (fail_if_success with_reducible refine stop_sub ?_); with_reducible refine ws_asgG ?_) | ((with_reducible refine' ws_retO ?hv ?hp ?_); (case hv => exact rfl); (case hp => first | exact pots_nil | exact pots_one 0 rfl)) | ((with_reducible refine' ws_ret ?_ ?hp); (case hp => first | exact pots_nil | exact pots_one 0 rfl)) | (with_reducible refine ws_next ?_) | (with_reducible refine ws_for ?_) | ((fail_if_success with_reducible refine stop_bm ?_); (fail_if_success with_reducible refine stop_bm0 ?_); with_reducible refine ws_drop ?_) | (with_reducible refine ws_par ?_) | (with_reducible refine ws_par3 ?_))
  | ((with_reducible refine gWA ?_); first | (with_reducible refine wa_nil ?_) | (with_reducible refine wa_cons ?_))
  | ((with_reducible refine gWT ?_); first | (with_reducible refine wt_test ?_) | (with_reducible refine wt_B ?_) | (with_reducible refine wt_and ?_) | (with_reducible refine wt_or ?_) | (with_reducible refine wt_not ?_) | (with_reducible refine wt_yes ?_))
  | ((with_reducible refine gIf ?_); first | (with_reducible refine if_t ?_) | (with_reducible refine if_f ?_) | (with_reducible refine if_nt ?_) | (with_reducible refine if_nf ?_) | ((with_reducible refine if_dT ?hv ?_); (case hv => first | exact rfl | (simp; done))) | ((with_reducible refine if_dF ?hv ?_); (case hv => (simp; done))) | ((with_reducible refine if_ndT ?hv ?_); (case hv => first | exact rfl | (simp; done))) | ((with_reducible refine if_ndF ?hv ?_); (case hv => (simp; done))))
  | ((with_reducible refine gCD ?_); first | (with_reducible refine cd_lenAL ?_) | (with_reducible refine cd_lenAT ?_) | (with_reducible refine cd_absI ?_) | (with_reducible refine cd_maxI ?_) | (with_reducible refine cd_minI ?_) | (with_reducible refine cd_listAL ?_) | (with_reducible refine cd_listAT ?_) | (with_reducible refine cd_tupL ?_) | (with_reducible refine cd_tupT ?_) | (with_reducible refine cd_intB ?_) | (with_reducible refine cd_sum ?_))
  | ((with_reducible refine gWI ?_); first | (with_reducible refine wi_rng1 ?_) | (with_reducible refine wi_rng2 ?_) | (with_reducible refine wi_seq ?_) | (with_reducible refine wi_zip ?_) | (with_reducible refine wi_enum ?_) | (with_reducible refine wi_rngD ?_))
  | ((with_reducible refine gWG ?_); first | (with_reducible refine wg_name ?_) | ((with_reducible refine' wg_tup ?hv ?_); (case hv => exact rfl)))
  | ((with_reducible refine gWGs ?_); first | (with_reducible refine wgs_cons ?_) | (with_reducible refine wgs_nil ?_))
  | ((with_reducible refine gWB ?_); first | ((with_reducible refine' wb_name ?h1 ?h2 ?h3 ?_); (case h1 => decide); (case h2 => exact rfl); (case h3 => exact rfl)) | ((with_reducible refine' wb_tup ?hv ?_); (case hv => exact rfl)))
  | ((with_reducible refine gWBs ?_); first | (with_reducible refine wbs_cons ?_) | (with_reducible refine wbs_nil ?_))
  | ((with_reducible refine gRU ?_); first | (with_reducible refine ru_U ?_))
  | ((with_reducible refine gWO ?_); first | (with_reducible refine wo_none' ?_) | (with_reducible refine wo_part ?_))
  | ((with_reducible refine gAnd ?_); first | (refine ⟨flat_bool _, ?_⟩) | (refine ⟨flat_int _, ?_⟩) | (refine ⟨flat_none, ?_⟩))
  | (refine ⟨_, Or.inl rfl, ?_⟩)
  | (refine ⟨_, Or.inr rfl, ?_⟩)
  | (refine ⟨_, rfl, ?_⟩)
  | (refine ⟨_, _, rfl, ?_⟩)
  | (refine ⟨_, _, _, rfl, ?_⟩)
  | fail))
/-- as w, but it stops ahead of the next statement -/
local macro_rules | `(tactic| walk_at "we") => `(tactic| repeat' ((fail_if_success with_reducible refine ws_seq ?_); first
  | (with_reducible refine ws_asg ?_)
  | ((with_reducible refine gAnd ?_); (refine ⟨(by simp only [List.length_cons, List.length_nil]; omega : _ ≤ 100000), ?_⟩))
  | ((with_reducible refine gWE ?_); first | ((with_reducible refine' we_var ?hv ?_); (case hv => exact rfl)) | (with_reducible refine we_int ?_) | ((with_reducible refine' we_pot0 ?hv ?_); (case hv => exact rfl)) | ((with_reducible refine' we_pot1 ?hv ?_); (case hv => exact rfl)) | ((with_reducible refine' we_ixAO ?hv ?_); (case hv => exact rfl)) | ((with_reducible refine' we_lenAO ?hv ?_); (case hv => exact rfl)) | ((with_reducible refine' we_lendO ?hv ?_); (case hv => exact rfl)) | ((with_reducible refine' we_lendO2 ?hv ?_); (case hv => exact rfl)) | (with_reducible refine we_rep ?_) | (with_reducible refine we_op ?_) | ((with_reducible refine' we_lendC1 ?hv ?_); (case hv => exact rfl)) | ((with_reducible refine' we_lendC2 ?hv ?_); (case hv => exact rfl)) | ((with_reducible refine' we_lendB1 ?hv ?_); (case hv => exact rfl)) | (with_reducible refine we_call ?_) | ((with_reducible refine' we_callD ?hv ?_); (case hv => exact rfl)) | (with_reducible refine we_callDt ?_) | (with_reducible refine we_callX ?_) | (with_reducible refine we_callX0 ?_) | (with_reducible refine we_isTup ?_) | (with_reducible refine we_isLst ?_) | (with_reducible refine we_isInt ?_) | (with_reducible refine we_isBool ?_) | (with_reducible refine we_isStr ?_) | (with_reducible refine we_isi ?_) | (with_reducible refine we_cb ?_) | (with_reducible refine we_bl ?_) | (with_reducible refine we_str ?_) | (with_reducible refine we_non ?_) | (with_reducible refine we_const ?_) | (with_reducible refine we_un ?_) | (with_reducible refine we_tup ?_) | (with_reducible refine we_lst ?_) | (with_reducible refine we_andV ?_) | (with_reducible refine we_orV ?_) | (with_reducible refine we_notV ?_) | (with_reducible refine we_if ?_) | (with_reducible refine we_slL ?_) | (with_reducible refine we_slT ?_) | (with_reducible refine we_revL ?_) | (with_reducible refine we_chain ?_) | (with_reducible refine we_chain3 ?_) | (with_reducible refine we_listZip ?_) | (with_reducible refine we_dict ?_))
  | ((with_reducible refine gRD ?_); first | (with_reducible refine rd_addI ?_) | (with_reducible refine rd_I0 ?_) | (with_reducible refine rd_IB ?_) | (with_reducible refine rd_eqDI ?_) | (with_reducible refine rd_neDI ?_) | (with_reducible refine rd_eqDB ?_) | (with_reducible refine rd_neDB ?_) | (with_reducible refine rd_eqQ ?_) | (with_reducible refine rd_neQ ?_) | (with_reducible refine rd_eqF ?_) | (with_reducible refine rd_neF ?_) | (with_reducible refine rd_isNone ?_) | (with_reducible refine rd_notNone ?_) | ((with_reducible refine' rd_ixAT ?hv ?_); (case hv => exact rfl)) | ((with_reducible refine' rd_ixAL ?hv ?_); (case hv => exact rfl)) | (with_reducible refine rd_mulI ?_ ?_) | (with_reducible refine rd_I ?_ ?_) | (with_reducible refine rd_isB ?_) | (with_reducible refine rd_neS ?_) | (with_reducible refine rd_eqS ?_) | (with_reducible refine rd_isAB ?_) | (with_reducible refine rd_notAB ?_) | (with_reducible refine rd_notB ?_))
  | ((with_reducible refine gWS ?_); first | (with_reducible refine ws_seq ?_) | (with_reducible refine ws_if ?_) | ((fail_if_success with_reducible refine stop_lst ?_); with_reducible refine ws_asg ?_) | ((with_reducible refine' ws_setI ?hv ?_); (case hv => exact rfl)) | ((fail_if_success with_reducible refine stop_lst ?_); (fail_if_success with_reducible refine stop_sub ?_); with_reducible refine ws_asgG ?_) | ((with_reducible refine' ws_retO ?hv ?hp ?_); (case hv => exact rfl); (case hp => first | exact pots_nil | exact pots_one 0 rfl)) | ((with_reducible refine' ws_ret ?_ ?hp); (case hp => first | exact pots_nil | exact pots_one 0 rfl)) | (with_reducible refine ws_next ?_) | (with_reducible refine ws_for ?_) | ((fail_if_success with_reducible refine stop_bm ?_); (fail_if_success with_reducible refine stop_bm0 ?_); with_reducible refine ws_drop ?_) | (with_reducible refine ws_par ?_) | (with_reducible refine ws_par3 ?_))
  | ((with_reducible refine gWA ?_); first | (with_reducible refine wa_nil ?_) | (with_reducible refine wa_cons ?_))
  | ((with_reducible refine gWT ?_); first | (with_reducible refine wt_test ?_) | (with_reducible refine wt_B ?_) | (with_reducible refine wt_and ?_) | (with_reducible refine wt_or ?_) | (with_reducible refine wt_not ?_) | (with_reducible refine wt_yes ?_))
  | ((with_reducible refine gIf ?_); first | (with_reducible refine if_t ?_) | (with_reducible refine if_f ?_) | (with_reducible refine if_nt ?_) | (with_reducible refine if_nf ?_) | ((with_reducible refine if_dT ?hv ?_); (case hv => first | exact rfl | (simp; done))) | ((with_reducible refine if_dF ?hv ?_); (case hv => (simp; done))) | ((with_reducible refine if_ndT ?hv ?_); (case hv => first | exact rfl | (simp; done))) | ((with_reducible refine if_ndF ?hv ?_); (case hv => (simp; done))))
  | ((with_reducible refine gCD ?_); first | (with_reducible refine cd_lenAL ?_) | (with_reducible refine cd_lenAT ?_) | (with_reducible refine cd_absI ?_) | (with_reducible refine cd_maxI ?_) | (with_reducible refine cd_minI ?_) | (with_reducible refine cd_listAL ?_) | (with_reducible refine cd_listAT ?_) | (with_reducible refine cd_tupL ?_) | (with_reducible refine cd_tupT ?_) | (with_reducible refine cd_intB ?_) | (with_reducible refine cd_sum ?_))
  | ((with_reducible refine gWI ?_); first | (with_reducible refine wi_rng1 ?_) | (with_reducible refine wi_rng2 ?_) | (with_reducible refine wi_seq ?_) | (with_reducible refine wi_zip ?_) | (with_reducible refine wi_enum ?_) | (with_reducible refine wi_rngD ?_))
  | ((with_reducible refine gWG ?_); first | (with_reducible refine wg_name ?_) | ((with_reducible refine' wg_tup ?hv ?_); (case hv => exact rfl)))
  | ((with_reducible refine gWGs ?_); first | (with_reducible refine wgs_cons ?_) | (with_reducible refine wgs_nil ?_))
  | ((with_reducible refine gWB ?_); first | ((with_reducible refine' wb_name ?h1 ?h2 ?h3 ?_); (case h1 => decide); (case h2 => exact rfl); (case h3 => exact rfl)) | ((with_reducible refine' wb_tup ?hv ?_); (case hv => exact rfl)))
  | ((with_reducible refine gWBs ?_); first | (with_reducible refine wbs_cons ?_) | (with_reducible refine wbs_nil ?_))
  | ((with_reducible refine gRU ?_); first | (with_reducible refine ru_U ?_))
  | ((with_reducible refine gWO ?_); first | (with_reducible refine wo_none' ?_) | (with_reducible refine wo_part ?_))
  | ((with_reducible refine gAnd ?_); first | (refine ⟨flat_bool _, ?_⟩) | (refine ⟨flat_int _, ?_⟩) | (refine ⟨flat_none, ?_⟩))
  | (refine ⟨_, Or.inl rfl, ?_⟩)
  | (refine ⟨_, Or.inr rfl, ?_⟩)
  | (refine ⟨_, rfl, ?_⟩)
  | (refine ⟨_, _, rfl, ?_⟩)
  | (refine ⟨_, _, _, rfl, ?_⟩)
  | fail))
/-! ## _law_take -/
def phi_law_take (ds : List PyData) (R : Rs → Prop) : Prop := ∃ m : Int, ds = [.int m] ∧ 0 < m ∧ m.natAbs < 2 ^ 9000 ∧ ∀ z : Int, 0 ≤ z → z < m → R (.v (.int z))
theorem len_law_take : ∀ ds R, phi_law_take ds R → ds.length + 1 = 2 := fun ds R ⟨m, h, _⟩ => by rw [h]; rfl
abbrev s_law_take : Stmt := topS 29
abbrev n_law_take : List Str := ["_law_pot_here", "_law_many", "_law_digit"]
theorem sc_law_take : FnScope n_law_take ["_law_pot_here", "_law_many"] (defScope s_law_take) := ⟨rfl, rfl, rfl, by decide +kernel, rfl, by decide +kernel, by decide +kernel⟩
@[reducible] def t_law_take_0 (K : PySem.W.Frag) : TS := (tRet (tVar 2))
@[reducible] def t_law_take_1 (K : PySem.W.Frag) : TS := (tRet (tOp rModI (tOp rFdivI (tOp rModI (tOp rMulA (tOp (rIx K) (tVar 0) (tC (.int 1))) (tOp (rIx K) (tVar 0) (tC (.int 1)))) (tC (.int 2147483629))) (tC (.int 7))) (tVar 1)))
@[reducible] def t_law_take_2 (K : PySem.W.Frag) : TS := (tSeq (tAsg (tOp rModI (tOp (rAddA K) (tOp rMulA (tOp (rIx K) (tVar 0) (tC (.int 1))) (tC (.int 48271))) (tC (.int 12345))) (tC (.int 2147483647))) (gSub (tVar 0) (tC (.int 1)) rSetL))
  (t_law_take_1 K))
def t_law_take (K : PySem.W.Frag) : TS := (tSeq (tIfS (tTest (tOp rGtI (tOp (rIx K) (tVar 0) (tC (.int 0))) (tC (.int 0)))) (tSeq (tAsg (tCB rDivmod (tCons (tOp (rIx K) (tVar 0) (tC (.int 0))) (tCons (tVar 1) tNil))) (gTup K 2 (gCons (gSub (tVar 0) (tC (.int 0)) rSetL) (gCons (gName 2) gNil))))
  (t_law_take_0 K)) tNext)
  (t_law_take_2 K))
theorem ws_law_take {K : PySem.W.Frag} (p : Addr) (ds : List PyData) (R : Rs → Prop) : phi_law_take ds R → WS K (t_law_take K) (.pot p :: (ds.map Ent.val ++ List.replicate (n_law_take.length - (ds.length + 1)) .unk)) { nx := fun _ => False, rt := R, ps := [p] } := by
  rintro ⟨m, rfl, h0, h1, h⟩
  show WS K (t_law_take K) [.pot p, .val (.int m), .unk] _
  unfold t_law_take
  refine ws_seq (ws_if (wt_test (we_op (we_pot0 rfl fun x hx => we_int (rd_IB ⟨_, rfl, if_d (fun c => ?_) (fun c => ?_)⟩)))))
  · refine ws_seq (ws_asgG (we_cb (wa_cons (we_pot0 rfl fun y hy => wa_cons (we_var rfl (wa_nil (cd_divmodI ⟨h0, PyProof.noPylong_of_log2 (PySem.Flt.log2_lt_of (by decide) h1)⟩ ?_)))))))
    refine wg_tup rfl (wgs_cons (wg_pot0 rfl (Int.ediv_nonneg hy (Int.le_of_lt h0)) (wgs_cons (wg_name (wgs_nil ?_)))))
    exact ws_ret (we_var rfl (h _ (Int.emod_nonneg _ (by omega)) (Int.emod_lt_of_pos _ h0))) (pots_one 0 rfl)
  · refine ws_next (ws_seq (ws_asgG (we_op (we_op (we_op (we_pot1 rfl fun y h2 h3 => we_int (rd_mulI (mulx_ok (a := 32) (b := 16) ?_ ?_ ?_) (we_int (rd_addI (we_int (rd_I (by decide) ?_)))))))))))
    · show y.natAbs < 4294967296
      omega
    · decide
    · decide
    · refine wg_pot1 rfl (Int.emod_nonneg _ (by decide)) (Int.lt_trans (Int.emod_lt_of_pos _ (by decide)) (by decide)) ?_
      refine ws_ret (we_op (we_op (we_op (we_op (we_pot1 rfl fun y h2 h3 => we_pot1 rfl fun y' h4 h5 => rd_mulI (mulx_ok (a := 32) (b := 32) ?_ ?_ ?_) (we_int (rd_I (by decide) (we_int (rd_I ⟨by decide, by decide +kernel⟩ (we_var rfl (rd_I h0 (h _ (Int.emod_nonneg _ (by omega)) (Int.emod_lt_of_pos _ h0))))))))))))) (pots_one 0 rfl)
      · show y.natAbs < 4294967296
        omega
      · show y'.natAbs < 4294967296
        omega
      · decide
theorem ok_law_take {P : Program} {w : World} {K : PySem.W.Frag} {mg : Str → Option Value} {base : Heap} (D : Def K mg "_law_take" s_law_take) (m_divmod : mg "divmod" = none) : HasG P w K mg base "_law_take" 1 ["_law_pot_here", "_law_many"] (SpD K phi_law_take) :=
  hasG_of D (fun _ _ F => F.binds (ps := ["_law_pot_here", "_law_many"]) fun _ _ _ _ _ _ us hl => match us, hl with | [_, _], _ => rfl) fun _ _ F => okDG (x0 := "") (N := n_law_take) (t := t_law_take K) F sc_law_take (by decide) len_law_take (fun cdv A outer s H E hr hG =>
  (pss_cons (ps_if (pt_cmpR op_gt (pe_ix ix_seq (pv 0) pe_int (fun _ _ => rfl)) pe_int (nomark _)) (pss_cons (ps_asg (pe_callB c_divmod (by rfl) m_divmod (by decide +kernel) (pa_cons (pe_ix ix_seq (pv 0) pe_int (fun _ _ => rfl)) (pa_cons (pv 1) pa_nil))) (pg_tup rfl (pgs_cons (pg_sub (pv 0) pe_int set_list) (pgs_cons (pg_name (i := 2) sc_law_take.nd rfl (by first | exact Or.inl rfl | exact Or.inr rfl)) pgs_nil))))
  (pss_one (ps_ret (pv 2)))) pss_nil)
  (pss_cons (ps_asg (pe_op op_mod (pe_op op_addA (pe_op op_mulA (pe_ix ix_seq (pv 0) pe_int (fun _ _ => rfl)) pe_int) pe_int) pe_int) (pg_sub (pv 0) pe_int set_list))
  (pss_one (ps_ret (pe_op op_mod (pe_op op_fdivW (pe_op op_mod (pe_op op_mulA (pe_ix ix_seq (pv 0) pe_int (fun _ _ => rfl)) (pe_ix ix_seq (pv 0) pe_int (fun _ _ => rfl))) pe_int) pe_int) (pv 1))))))) ws_law_take
/-! ## _law_low -/
def phi_law_low (ds : List PyData) (R : Rs → Prop) : Prop := ∃ a b : Int, ds = [.int a, .int b] ∧ 0 < b ∧ R (.v (qD (Rat.divInt a b)))
theorem len_law_low : ∀ ds R, phi_law_low ds R → ds.length = 2 := fun ds R ⟨a, b, h, _⟩ => by rw [h]; rfl
theorem abs_castL (a : Int) : (if a < 0 then -a else a) = ((a.natAbs : Nat) : Int) := by split <;> omega
theorem gcd_turnL (u v : Nat) : Nat.gcd v (u % v) = Nat.gcd u v := by rw [Nat.gcd_comm v (u % v), ← Nat.gcd_rec, Nat.gcd_comm]
abbrev s_law_low : Stmt := topS 30
abbrev n_law_low : List Str := ["_law_top", "_law_bottom", "_law_one", "_law_other"]
theorem sc_law_low : FnScope n_law_low ["_law_top", "_law_bottom"] (defScope s_law_low) := ⟨rfl, rfl, rfl, by decide +kernel, rfl, by decide +kernel, by decide +kernel⟩
@[reducible] def t_law_low_0 (K : PySem.W.Frag) : TS := (tRet (tTup (tCons (tOp rFdivP (tVar 0) (tVar 2)) (tCons (tOp rFdivP (tVar 1) (tVar 2)) tNil))))
@[reducible] def t_law_low_1 (K : PySem.W.Frag) : TS := (tSeq (tWhile (tTest (tOp rGtI (tVar 3) (tC (.int 0)))) (tPar 2 3 (tCons (tVar 3) (tCons (tOp rModI (tVar 2) (tVar 3)) tNil))))
  (t_law_low_0 K))
def t_law_low (K : PySem.W.Frag) : TS := (tSeq (tPar 2 3 (tCons (tCB rAbs (tCons (tVar 0) tNil)) (tCons (tVar 1) tNil)))
  (t_law_low_1 K))
theorem ws_law_low {K : PySem.W.Frag} (ds : List PyData) (R : Rs → Prop) : phi_law_low ds R → WS K (t_law_low K) (ds.map Ent.val ++ List.replicate (n_law_low.length - ds.length) .unk) { nx := fun _ => R (.v .none), rt := R } := by
  rintro ⟨a, b, rfl, hb, h⟩
  show WS K (t_law_low K) [.val (.int a), .val (.int b), .unk, .unk] _
  unfold t_law_low
  have hg := gcd_pos_of (a := a) (b := b) (by omega)
  walk_at "dl"
  refine ws_while (fun m Δ => ∃ u v : Nat, Δ = [.val (.int a), .val (.int b), .val (.int u), .val (.int v)] ∧ Nat.gcd u v = Int.gcd a b ∧ m = v) b.natAbs ⟨a.natAbs, b.natAbs, ?_, rfl, rfl⟩ ?_
  · show [Ent.val (.int a), Ent.val (.int b), Ent.val (.int (if a < 0 then -a else a)), Ent.val (.int b)] = _
    rw [abs_castL, Int.natAbs_of_nonneg (show 0 ≤ b by omega)]
  · rintro m Δ' ⟨u, v, rfl, hgg, rfl⟩
    walk_at "dl"
    refine if_d (fun c => ?_) (fun c => ?_)
    · have hv : 0 < m := by omega
      walk_at "dl"
      · omega
      · refine ⟨u % m, Nat.mod_lt _ hv, m, u % m, ?_, ?_, rfl⟩
        · rw [Int.natCast_emod]
          rfl
        · rw [gcd_turnL, hgg]
    · have hv : m = 0 := by omega
      subst hv
      rw [Nat.gcd_zero_right] at hgg
      rw [hgg]
      walk_at "dl"
      · exact hg
      · exact hg
      · refine ⟨by show 2 ≤ 100000; decide, ?_⟩
        rw [← qD_low hb] at h
        exact h
theorem ok_law_low {P : Program} {w : World} {K : PySem.W.Frag} {mg : Str → Option Value} {base : Heap} (D : Def K mg "_law_low" s_law_low) (m_abs : mg "abs" = none) (hse : base.NoSeer) (htr : P.given.tree = none) : HasG P w K mg base "_law_low" 33 ["_law_top", "_law_bottom"] (SpF K phi_law_low) :=
  hasG_of D (fun _ _ F => F.binds (ps := ["_law_top", "_law_bottom"]) fun _ _ _ _ _ _ us hl => match us, hl with | [_, _], _ => rfl) fun _ _ F => okFG (N := n_law_low) (t := t_law_low K) F sc_law_low len_law_low (fun cdv A outer s H E hr hG =>
  (pss_cons (ps_par (i := 2) (j := 3) (by rfl) sc_law_low.nd rfl rfl (by decide) rfl rfl (pa_cons (pe_callB c_abs (by rfl) m_abs (by decide +kernel) (pa_cons (pv 0) pa_nil)) (pa_cons (pv 1) pa_nil)) (by rfl))
  (pss_cons (ps_while PassesOwn.never (pt_cmpR op_gt (pv 3) pe_int (nomark _)) (pss_one (ps_par (i := 2) (j := 3) (by rfl) sc_law_low.nd rfl rfl (by decide) rfl rfl (pa_cons (pv 3) (pa_cons (pe_op op_mod (pv 2) (pv 3)) pa_nil)) (by rfl))))
  (pss_one (ps_ret (pe_tup (pa_cons (pe_op (op_fdivP hse htr (hr.mono (by decide)) rfl rfl rfl) (pv 0) (pv 2)) (pa_cons (pe_op (op_fdivP hse htr (hr.mono (by decide)) rfl rfl rfl) (pv 1) (pv 2)) pa_nil)))))))) ws_law_low
/-! ## _law_value -/
def phi_law_value (ds : List PyData) (R : Rs → Prop) : Prop := ∃ (r : List Rat) (b : Nat), ds = [.list (r.map qD), .int (b : Int)] ∧ (1 ≤ b ∧ b ≤ 1000000) ∧ r.length ≤ 100 ∧ (∀ x, x ∈ r → Rsz 200 x) ∧ ∀ q : Rat, Rsz 200 q → R (.v (qD q))
theorem len_law_value : ∀ ds R, phi_law_value ds R → ds.length + 1 = 3 := fun ds R ⟨_, _, h, _⟩ => by rw [h]; rfl
theorem pl_qs (r : List Rat) : Pl 2 (.list (r.map qD)) := pl_map pl_q
theorem p20 : ((10 : Int) ^ (20 : Int).toNat) = 100000000000000000000 := by decide +kernel
theorem l200 {z : Int} (h : z.natAbs ≤ 1000000000000000000000) : z.natAbs < 2 ^ 200 := Nat.lt_of_le_of_lt h (by decide +kernel)
abbrev s_law_value : Stmt := topS 34
abbrev n_law_value : List Str := ["_law_pot_here", "_law_known", "_law_bottom", "_law_way"]
theorem sc_law_value : FnScope n_law_value ["_law_pot_here", "_law_known", "_law_bottom"] (defScope s_law_value) := ⟨rfl, rfl, rfl, by decide +kernel, rfl, by decide +kernel, by decide +kernel⟩
@[reducible] def t_law_value_0 (K : PySem.W.Frag) : TS := (tRet (tCall (SpF K phi_law_low) [] E0 (tCons (tOp rSubI (tCall (SpD K phi_law_take) [] E0 (tCons (tVar 0) (tCons (tOp (rAddA K) (tOp rMulA (tC (.int 2)) (tOp rPowI (tC (.int 10)) (tC (.int 20)))) (tC (.int 1))) tNil))) (tOp rPowI (tC (.int 10)) (tC (.int 20)))) (tCons (tVar 2) tNil))))
@[reducible] def t_law_value_1 (K : PySem.W.Frag) : TS := (tSeq (tIfS (tTest (tOp (rEqD K) (tVar 3) (tC (.int 3)))) (tRet (tCall (SpF K phi_law_low) [] E0 (tCons (tOp rSubI (tCall (SpD K phi_law_take) [] E0 (tCons (tVar 0) (tCons (tC (.int 61)) tNil))) (tC (.int 30))) (tCons (tOp (rAddA K) (tC (.int 1)) (tCall (SpD K phi_law_take) [] E0 (tCons (tVar 0) (tCons (tC (.int 4)) tNil)))) tNil)))) tNext)
  (t_law_value_0 K))
@[reducible] def t_law_value_2 (K : PySem.W.Frag) : TS := (tSeq (tIfS (tAnd (tTest (tOp (rEqD K) (tVar 3) (tC (.int 2)))) (tTest (tOp (rNeD K) (tVar 1) (tLst tNil)))) (tRet (tOp (rIx K) (tVar 1) (tCall (SpD K phi_law_take) [] E0 (tCons (tVar 0) (tCons (tCB (DL.rLen K) (tCons (tVar 1) tNil)) tNil))))) tNext)
  (t_law_value_1 K))
@[reducible] def t_law_value_3 (K : PySem.W.Frag) : TS := (tSeq (tIfS (tTest (tOp rLtI (tVar 3) (tC (.int 2)))) (tRet (tTup (tCons (tOp rSubI (tCall (SpD K phi_law_take) [] E0 (tCons (tVar 0) (tCons (tC (.int 7)) tNil))) (tC (.int 3))) (tCons (tC (.int 1)) tNil)))) tNext)
  (t_law_value_2 K))
def t_law_value (K : PySem.W.Frag) : TS := (tSeq (tAsg (tCall (SpD K phi_law_take) [] E0 (tCons (tVar 0) (tCons (tC (.int 5)) tNil))) (gName 3))
  (t_law_value_3 K))
theorem ws_law_value {K : PySem.W.Frag} (p : Addr) (ds : List PyData) (R : Rs → Prop) : phi_law_value ds R → WS K (t_law_value K) (.pot p :: (ds.map Ent.val ++ List.replicate (n_law_value.length - (ds.length + 1)) .unk)) { nx := fun _ => False, rt := R, ps := [p] } := by
  rintro ⟨r, b, rfl, ⟨b1, b2⟩, rl, rs, h⟩
  show WS K (t_law_value K) [.pot p, .val (.list (r.map qD)), .val (.int (b : Int)), .unk] _
  unfold t_law_value
  refine ws_seq ?_
  walk_at "we"
  refine ⟨by decide, small60 (by decide) (by decide), fun way w0 w1 => ?_⟩
  refine ws_seq ?_
  walk_at "we"
  refine if_d (fun c => ?_) (fun c => ?_)
  · walk_at "we"
    refine ⟨by decide, small60 (by decide) (by decide), fun z z0 z1 => ?_⟩
    walk_at "we"
    show R (.v (.tuple [.int (z - 3), .int 1]))
    rw [← qD_int]
    exact h _ ⟨Nat.lt_of_le_of_lt (show (z - 3).natAbs ≤ 1000000 by omega) (by decide +kernel), by show 1 < 2 ^ 200; decide +kernel⟩
  walk_at "we"
  refine ws_seq (ws_if (wt_and ?_))
  walk_at "we"
  have last : WS K (t_law_value_1 K) [.pot p, .val (.list (r.map qD)), .val (.int (b : Int)), .val (.int way)] { nx := fun _ => False, rt := R, ps := [p] } := by
    refine ws_seq ?_
    walk_at "we"
    refine if_d (fun c => ?_) (fun c => ?_)
    · walk_at "we"
      refine ⟨by decide, small60 (by decide) (by decide), fun z z0 z1 => ?_⟩
      walk_at "we"
      refine ⟨by decide, small60 (by decide) (by decide), fun y y0 y1 => ?_⟩
      walk_at "we"
      exact ⟨by omega, h _ (sz_low (by omega) (l200 (by omega)) (l200 (by omega)))⟩
    walk_at "we"
    · exact ⟨by decide, by decide, by decide⟩
    · rw [p20]
      exact mulx_ok (a := 10) (b := 70) (by decide) (by decide +kernel) (by decide)
    refine ⟨by rw [p20]; decide, by rw [p20]; decide +kernel, fun z z0 z1 => ?_⟩
    rw [p20] at z1
    walk_at "we"
    · exact ⟨by decide, by decide, by decide⟩
    refine ⟨by omega, h _ (sz_low (by omega) (l200 (by rw [p20]; omega)) (l200 (by omega)))⟩
  refine if_d (fun c => ?_) (fun c => ?_)
  · walk_at "we"
    refine rd_neNil (pl_qs r) (by decide) ?_
    cases r with
    | nil => walk_at "we"; refine if_bF rfl ?_; exact ws_next last
    | cons x r =>
      walk_at "we"
      refine if_bT rfl ?_
      walk_at "we"
      rw [List.length_map]
      refine ⟨by rw [List.length_cons]; omega, small60 (by rw [List.length_cons]; omega) (by omega), fun z z0 z1 => ?_⟩
      obtain ⟨y, ym, hy⟩ := at_map (f := qD) (l := x :: r) (j := z) z0 z1 rfl
      refine rd_ixAL hy ?_
      exact h y (rs y ym)
  · walk_at "we"
    exact last
theorem ok_law_value {P : Program} {w : World} {K : PySem.W.Frag} {mg : Str → Option Value} {base : Heap} (D : Def K mg "_law_value" s_law_value) (h_law_take : HasG P w K mg base "_law_take" 1 ["_law_pot_here", "_law_many"] (SpD K phi_law_take)) (h_law_low : HasG P w K mg base "_law_low" 33 ["_law_top", "_law_bottom"] (SpF K phi_law_low)) (m_len : mg "len" = none) : HasG P w K mg base "_law_value" 34 ["_law_pot_here", "_law_known", "_law_bottom"] (SpD K phi_law_value) :=
  hasG_of D (fun _ _ F => F.binds (ps := ["_law_pot_here", "_law_known", "_law_bottom"]) fun _ _ _ _ _ _ us hl => match us, hl with | [_, _, _], _ => rfl) fun _ _ F => okDG (x0 := "") (N := n_law_value) (t := t_law_value K) F sc_law_value (by decide) len_law_value (fun cdv A outer s H E hr hG =>
  (pss_cons (ps_set (i := 3) sc_law_value.nd rfl (by first | exact Or.inl rfl | exact Or.inr rfl) (pe_callHG h_law_take (hr.mono (by decide)) hG (by rfl) (pa_cons (pv 0) (pa_cons pe_int pa_nil))))
  (pss_cons (ps_if (pt_cmpR op_lt (pv 3) pe_int (nomark _)) (pss_one (ps_ret (pe_tup (pa_cons (pe_op op_sub (pe_callHG h_law_take (hr.mono (by decide)) hG (by rfl) (pa_cons (pv 0) (pa_cons pe_int pa_nil))) pe_int) (pa_cons pe_int pa_nil))))) pss_nil)
  (pss_cons (ps_if (PW.pt (pw_and (pt_cmpR (op_eqD hr.units) (pv 3) pe_int (nomark _)) (pw_and1 (pt_cmpR (op_neD hr.units) (pv 1) (pe_lst pa_nil) (nomark _))))) (pss_one (ps_ret (pe_ix ix_seq (pv 1) (pe_callHG h_law_take (hr.mono (by decide)) hG (by rfl) (pa_cons (pv 0) (pa_cons (pe_callB DL.c_len (by rfl) m_len (by decide +kernel) (pa_cons (pv 1) pa_nil)) pa_nil))) (fun _ _ => rfl)))) pss_nil)
  (pss_cons (ps_if (pt_cmpR (op_eqD hr.units) (pv 3) pe_int (nomark _)) (pss_one (ps_ret (pe_callHG h_law_low (hr.mono (by decide)) hG (by rfl) (pa_cons (pe_op op_sub (pe_callHG h_law_take (hr.mono (by decide)) hG (by rfl) (pa_cons (pv 0) (pa_cons pe_int pa_nil))) pe_int) (pa_cons (pe_op op_addA pe_int (pe_callHG h_law_take (hr.mono (by decide)) hG (by rfl) (pa_cons (pv 0) (pa_cons pe_int pa_nil)))) pa_nil))))) pss_nil)
  (pss_one (ps_ret (pe_callHG h_law_low (hr.mono (by decide)) hG (by rfl) (pa_cons (pe_op op_sub (pe_callHG h_law_take (hr.mono (by decide)) hG (by rfl) (pa_cons (pv 0) (pa_cons (pe_op op_addA (pe_op op_mulA pe_int (pe_op op_pow pe_int pe_int)) pe_int) pa_nil))) (pe_op op_pow pe_int pe_int)) (pa_cons (pv 2) pa_nil)))))))))) ws_law_value
/-! ## _law_price -/
def phi_law_price (ds : List PyData) (R : Rs → Prop) : Prop := ∃ (b : Nat), ds = [.int (b : Int)] ∧ b ≤ 1000000 ∧ ∀ q : Rat, 0 < q → Fit (6 * max b 1) pM q → R (.v (qD q))
theorem len_law_price : ∀ ds R, phi_law_price ds R → ds.length + 1 = 2 := fun ds R ⟨_, h, _⟩ => by rw [h]; rfl
theorem p12 : ((10 : Int) ^ (12 : Int).toNat) = 1000000000000 := by decide +kernel
theorem pM_big {n : Nat} (h : n ≤ 100000000000000000000) : n ≤ pM := Nat.le_trans h (by decide +kernel)
abbrev s_law_price : Stmt := topS 35
abbrev n_law_price : List Str := ["_law_pot_here", "_law_bottom"]
theorem sc_law_price : FnScope n_law_price ["_law_pot_here", "_law_bottom"] (defScope s_law_price) := ⟨rfl, rfl, rfl, by decide +kernel, rfl, by decide +kernel, by decide +kernel⟩
@[reducible] def t_law_price_0 (K : PySem.W.Frag) : TS := (tRet (tCall (SpF K phi_law_low) [] E0 (tCons (tOp (rAddA K) (tC (.int 1)) (tCall (SpD K phi_law_take) [] E0 (tCons (tVar 0) (tCons (tOp rPowI (tC (.int 10)) (tC (.int 12))) tNil)))) (tCons (tVar 1) tNil))))
@[reducible] def t_law_price_1 (K : PySem.W.Frag) : TS := (tSeq (tIfS (tTest (tOp rLtI (tCall (SpD K phi_law_take) [] E0 (tCons (tVar 0) (tCons (tC (.int 4)) tNil))) (tC (.int 3)))) (tRet (tCall (SpF K phi_law_low) [] E0 (tCons (tOp (rAddA K) (tC (.int 1)) (tCall (SpD K phi_law_take) [] E0 (tCons (tVar 0) (tCons (tC (.int 6)) tNil)))) (tCons (tOp (rAddA K) (tC (.int 1)) (tCall (SpD K phi_law_take) [] E0 (tCons (tVar 0) (tCons (tC (.int 3)) tNil)))) tNil)))) tNext)
  (t_law_price_0 K))
def t_law_price (K : PySem.W.Frag) : TS := (tSeq (tIfS (tTest (tOp (rEqD K) (tVar 1) (tC (.int 0)))) (tRet (tTup (tCons (tC (.int 1)) (tCons (tC (.int 1)) tNil)))) tNext)
  (t_law_price_1 K))
theorem ws_law_price {K : PySem.W.Frag} (p : Addr) (ds : List PyData) (R : Rs → Prop) : phi_law_price ds R → WS K (t_law_price K) (.pot p :: (ds.map Ent.val ++ List.replicate (n_law_price.length - (ds.length + 1)) .unk)) { nx := fun _ => False, rt := R, ps := [p] } := by
  rintro ⟨b, rfl, b2, h⟩
  show WS K (t_law_price K) [.pot p, .val (.int (b : Int))] _
  unfold t_law_price
  refine ws_seq ?_
  walk_at "we"
  refine if_d (fun c => ?_) (fun c => ?_)
  · walk_at "we"
    show R (.v (.tuple [.int 1, .int 1]))
    rw [← qD_int]
    refine h _ (by decide +kernel) ?_
    rw [show b = 0 by omega]
    exact (show Fit 6 6 ((1 : Int) : Rat) from ⟨6, by decide +kernel, by decide⟩).mono (pM_big (by decide))
  have b1 : 0 < b := by omega
  have mb : max b 1 = b := by omega
  walk_at "we"
  refine ws_seq ?_
  walk_at "we"
  refine ⟨by decide, small60 (by decide) (by decide), fun way w0 w1 => ?_⟩
  walk_at "we"
  refine if_d (fun c => ?_) (fun c => ?_)
  · walk_at "we"
    refine ⟨by decide, small60 (by decide) (by decide), fun z z0 z1 => ?_⟩
    walk_at "we"
    refine ⟨by decide, small60 (by decide) (by decide), fun y y0 y1 => ?_⟩
    walk_at "we"
    refine ⟨by omega, h _ (divInt_pos (by omega) (by omega)) ?_⟩
    rw [mb]
    have y3 : y = 0 ∨ y = 1 ∨ y = 2 := by omega
    have key : ∀ m k : Nat, 6 = m * k → 0 < m → Fit (6 * b) ((1 + z).natAbs * (k * b)) (Rat.divInt (1 + z) (m : Int)) := fun m k e hm => by
      rw [e, Nat.mul_assoc]
      exact fit_div hm
    have big : ∀ k : Nat, k ≤ 6 → (1 + z).natAbs * (k * b) ≤ pM := fun k hk => pM_big (by
      have : (1 + z).natAbs * (k * b) ≤ 6 * (6 * 1000000) := Nat.mul_le_mul (by omega) (Nat.mul_le_mul hk b2)
      omega)
    rcases y3 with rfl | rfl | rfl
    · exact (key 1 6 rfl (by decide)).mono (big 6 (by decide))
    · exact (key 2 3 rfl (by decide)).mono (big 3 (by decide))
    · exact (key 3 2 rfl (by decide)).mono (big 2 (by decide))
  walk_at "we"
  · exact ⟨by decide, by decide, by decide⟩
  refine ⟨by rw [p12]; decide, by rw [p12]; decide +kernel, fun z z0 z1 => ?_⟩
  rw [p12] at z1
  walk_at "we"
  refine ⟨by omega, h _ (divInt_pos (by omega) (by omega)) ?_⟩
  rw [mb, Nat.mul_comm]
  refine (fit_div (a := 1 + z) (c := 6) b1).mono (pM_big ?_)
  omega
theorem ok_law_price {P : Program} {w : World} {K : PySem.W.Frag} {mg : Str → Option Value} {base : Heap} (D : Def K mg "_law_price" s_law_price) (h_law_take : HasG P w K mg base "_law_take" 1 ["_law_pot_here", "_law_many"] (SpD K phi_law_take)) (h_law_low : HasG P w K mg base "_law_low" 33 ["_law_top", "_law_bottom"] (SpF K phi_law_low)) : HasG P w K mg base "_law_price" 34 ["_law_pot_here", "_law_bottom"] (SpD K phi_law_price) :=
  hasG_of D (fun _ _ F => F.binds (ps := ["_law_pot_here", "_law_bottom"]) fun _ _ _ _ _ _ us hl => match us, hl with | [_, _], _ => rfl) fun _ _ F => okDG (x0 := "") (N := n_law_price) (t := t_law_price K) F sc_law_price (by decide) len_law_price (fun cdv A outer s H E hr hG =>
  (pss_cons (ps_if (pt_cmpR (op_eqD hr.units) (pv 1) pe_int (nomark _)) (pss_one (ps_ret (pe_tup (pa_cons pe_int (pa_cons pe_int pa_nil))))) pss_nil)
  (pss_cons (ps_if (pt_cmpR op_lt (pe_callHG h_law_take (hr.mono (by decide)) hG (by rfl) (pa_cons (pv 0) (pa_cons pe_int pa_nil))) pe_int (nomark _)) (pss_one (ps_ret (pe_callHG h_law_low (hr.mono (by decide)) hG (by rfl) (pa_cons (pe_op op_addA pe_int (pe_callHG h_law_take (hr.mono (by decide)) hG (by rfl) (pa_cons (pv 0) (pa_cons pe_int pa_nil)))) (pa_cons (pe_op op_addA pe_int (pe_callHG h_law_take (hr.mono (by decide)) hG (by rfl) (pa_cons (pv 0) (pa_cons pe_int pa_nil)))) pa_nil))))) pss_nil)
  (pss_one (ps_ret (pe_callHG h_law_low (hr.mono (by decide)) hG (by rfl) (pa_cons (pe_op op_addA pe_int (pe_callHG h_law_take (hr.mono (by decide)) hG (by rfl) (pa_cons (pv 0) (pa_cons (pe_op op_pow pe_int pe_int) pa_nil)))) (pa_cons (pv 1) pa_nil)))))))) ws_law_price
/-! ## _law_items -/
def phi_law_items (ds : List PyData) (R : Rs → Prop) : Prop := ∃ (m : Nat), ds = [.int (m : Int)] ∧ (1 ≤ m ∧ m ≤ 60) ∧ ∀ l : List Pc, PcL l → l.length ≤ m → R (.n (l.map pcD))
theorem len_law_items : ∀ ds R, phi_law_items ds R → ds.length + 1 = 2 := fun ds R ⟨_, h, _⟩ => by rw [h]; rfl
theorem p6 : ((10 : Int) ^ (6 : Int).toNat) = 1000000 := by decide +kernel
abbrev s_law_items : Stmt := topS 36
abbrev n_law_items : List Str := ["_law_pot_here", "_law_most", "_law_items_here", "_law_bottom", "_law_under", "_law_k", "_law_known", "_law_value_here", "_law_up", "_law_item"]
theorem sc_law_items : FnScope n_law_items ["_law_pot_here", "_law_most"] (defScope s_law_items) := ⟨rfl, rfl, rfl, by decide +kernel, rfl, by decide +kernel, by decide +kernel⟩
@[reducible] def t_law_items_0 (K : PySem.W.Frag) : TS := (tDrop (tBM K "list" rAppend (tVar 2) (tCons (tTup (tCons (tVar 7) (tCons (tVar 8) (tCons (tCall (SpD K phi_law_price) [] E0 (tCons (tVar 0) (tCons (tVar 4) tNil))) tNil)))) tNil)))
@[reducible] def t_law_items_1 (K : PySem.W.Frag) : TS := (tSeq (tAsg (tCall (SpD K phi_law_price) [] E0 (tCons (tVar 0) (tCons (tVar 4) tNil))) (gName 8))
  (t_law_items_0 K))
@[reducible] def t_law_items_2 (K : PySem.W.Frag) : TS := (tSeq (tAsg (tCall (SpD K phi_law_value) [] E0 (tCons (tVar 0) (tCons (tVar 6) (tCons (tVar 3) tNil)))) (gName 7))
  (t_law_items_1 K))
@[reducible] def t_law_items_3 (K : PySem.W.Frag) : TS := (tRet (tVar 2))
@[reducible] def t_law_items_4 (K : PySem.W.Frag) : TS := (tSeq (tFor (iRng1 (tCons (tOp (rAddA K) (tC (.int 1)) (tCall (SpD K phi_law_take) [] E0 (tCons (tVar 0) (tCons (tVar 1) tNil)))) tNil)) (gName 5) (tSeq (tAsg (tLc (iSeq K (tVar 2)) (gName 9) tYes (tOp (rIx K) (tVar 9) (tC (.int 0))) [9]) (gName 6))
  (t_law_items_2 K)))
  (t_law_items_3 K))
@[reducible] def t_law_items_5 (K : PySem.W.Frag) : TS := (tSeq (tAsg (tOp rMulA (tVar 3) (tCB rIntOf (tCons (tOp rGtI (tCall (SpD K phi_law_take) [] E0 (tCons (tVar 0) (tCons (tC (.int 3)) tNil))) (tC (.int 0))) tNil))) (gName 4))
  (t_law_items_4 K))
@[reducible] def t_law_items_6 (K : PySem.W.Frag) : TS := (tSeq (tAsg (tOp (rAddA K) (tC (.int 1)) (tCall (SpD K phi_law_take) [] E0 (tCons (tVar 0) (tCons (tOp rPowI (tC (.int 10)) (tC (.int 6))) tNil)))) (gName 3))
  (t_law_items_5 K))
def t_law_items (K : PySem.W.Frag) : TS := (tSeq (tAsg (tLst tNil) (gName 2))
  (t_law_items_6 K))
theorem ws_law_items {K : PySem.W.Frag} (p : Addr) (ds : List PyData) (R : Rs → Prop) : phi_law_items ds R → WS K (t_law_items K) (.pot p :: (ds.map Ent.val ++ List.replicate (n_law_items.length - (ds.length + 1)) .unk)) { nx := fun _ => False, rt := R, ps := [p] } := by
  rintro ⟨m, rfl, ⟨m1, m60⟩, h⟩
  show WS K (t_law_items K) [.pot p, .val (.int (m : Int)), .unk, .unk, .unk, .unk, .unk, .unk, .unk, .unk] _
  unfold t_law_items
  refine ws_seq (ws_asgN ?_)
  walk_at "we"
  intro l
  refine ws_seq ?_
  walk_at "we"
  · exact ⟨by decide, by decide, by decide⟩
  refine ⟨by rw [p6]; decide, by rw [p6]; decide +kernel, fun z z0 z1 => ?_⟩
  rw [p6] at z1
  walk_at "we"
  obtain ⟨b, hb⟩ : ∃ b : Nat, 1 + z = (b : Int) := ⟨(1 + z).toNat, by omega⟩
  rw [hb]
  refine ws_seq ?_
  walk_at "we"
  refine ⟨by decide, small60 (by decide) (by decide), fun t t0 t1 => ?_⟩
  walk_at "we"
  · exact mulx_ok (a := 30) (b := 10) (by show (b : Int).natAbs < 2 ^ 30; have : (2 : Nat) ^ 30 = 1073741824 := rfl; omega) (by cases decide (0 < t) <;> decide) (by decide)
  obtain ⟨u, hu, u2⟩ : ∃ u : Nat, (b : Int) * (if decide (0 < t) = true then (1 : Int) else 0) = (u : Int) ∧ (u = b ∨ u = 0) := by
    cases decide (0 < t)
    · exact ⟨0, by simp, .inr rfl⟩
    · exact ⟨b, by simp, .inl rfl⟩
  rw [hu]
  refine ws_seq ?_
  walk_at "we"
  refine ⟨by omega, small60 (by omega) (by omega), fun n n0 n1 => ?_⟩
  walk_at "we"
  refine ⟨by omega, by omega, ?_⟩
  refine ⟨fun i Δ => ∃ (its : List Pc) (e5 e6 e7 e8 : Ent), Δ = [.pot p, .val (.int (m : Int)), .own l (its.map pcD), .val (.int (b : Int)), .val (.int (u : Int)), e5, e6, e7, e8, .unk] ∧ its.length = i ∧ ∀ q, q ∈ its → PcG (6 * max u 1) q, ⟨[], .unk, .unk, .unk, .unk, rfl, rfl, fun o ho => by cases ho⟩, ?_, ?_⟩
  · rintro i d Δ' hd ⟨its, e5, e6, e7, e8, rfl, il, ig⟩
    obtain ⟨hi, rfl⟩ := rng_get hd
    refine wg_name ?_
    refine ws_seq (ws_asg (we_lend (i := 2) rfl ?_))
    refine we_lcF its pcD (fun q => qD q.1) rfl rfl ?_
    walk_at "we"
    refine ⟨rfl, by omega, fun q hq => ?_, ?_⟩
    · walk_at "we"
      show RD K (rIx K) (.tuple [qD q.1, qD q.2.1, qD q.2.2]) (.int 0) _
      walk_at "we"
      rfl
    refine ⟨flat_map fun q => flat_q _, ?_⟩
    rw [show (its.map fun q => qD q.1) = (its.map (·.1)).map qD by rw [List.map_map]; rfl]
    refine ws_seq ?_
    walk_at "we"
    refine ⟨⟨by omega, by omega⟩, by rw [List.length_map]; omega, fun x hx => ?_, fun v sv => ?_⟩
    · obtain ⟨q, hq, rfl⟩ := List.mem_map.mp hx
      exact (ig q hq).sv
    refine ws_seq ?_
    walk_at "we"
    refine ⟨by omega, fun up u0 uf => ?_⟩
    refine ws_app rfl (by rw [List.length_map]; omega) ?_
    walk_at "we"
    refine ⟨by omega, fun dn d0 df => ?_⟩
    walk_at "we"
    refine ⟨its ++ [(v, up, dn)], .val (.int (0 + (i : Int))), .val (.list ((its.map (·.1)).map qD)), .val (qD v), .val (qD up), ?_, by rw [List.length_append, il]; rfl, fun q hq => ?_⟩
    · rw [List.map_append]
      rfl
    · rcases List.mem_append.mp hq with hq | hq
      · exact ig q hq
      · rw [List.mem_singleton.mp hq]
        exact ⟨u0, d0, uf, df, sv⟩
  · rintro Δ' ⟨its, e5, e6, e7, e8, rfl, il, ig⟩
    rw [rng_len] at il
    refine ws_retO rfl (pots_one 0 rfl) ?_
    refine h its ⟨fun e => by rw [e] at il; simp at il; omega, by omega, 6 * max u 1, by omega, ?_, ig⟩ (by omega)
    refine Nat.lt_of_le_of_lt (show _ ≤ 6000000 by omega) (by decide +kernel)
theorem ok_law_items {P : Program} {w : World} {K : PySem.W.Frag} {mg : Str → Option Value} {base : Heap} (D : Def K mg "_law_items" s_law_items) (h_law_take : HasG P w K mg base "_law_take" 1 ["_law_pot_here", "_law_many"] (SpD K phi_law_take)) (h_law_value : HasG P w K mg base "_law_value" 34 ["_law_pot_here", "_law_known", "_law_bottom"] (SpD K phi_law_value)) (h_law_price : HasG P w K mg base "_law_price" 34 ["_law_pot_here", "_law_bottom"] (SpD K phi_law_price)) (m_int : mg "int" = none) (m_range : mg "range" = none) : HasG P w K mg base "_law_items" 35 ["_law_pot_here", "_law_most"] (SpD K phi_law_items) :=
  hasG_of D (fun _ _ F => F.binds (ps := ["_law_pot_here", "_law_most"]) fun _ _ _ _ _ _ us hl => match us, hl with | [_, _], _ => rfl) fun _ _ F => okDG (x0 := "") (N := n_law_items) (t := t_law_items K) F sc_law_items (by decide) len_law_items (fun cdv A outer s H E hr hG =>
  (pss_cons (ps_set (i := 2) sc_law_items.nd rfl (by first | exact Or.inl rfl | exact Or.inr rfl) (pe_lst pa_nil))
  (pss_cons (ps_set (i := 3) sc_law_items.nd rfl (by first | exact Or.inl rfl | exact Or.inr rfl) (pe_op op_addA pe_int (pe_callHG h_law_take (hr.mono (by decide)) hG (by rfl) (pa_cons (pv 0) (pa_cons (pe_op op_pow pe_int pe_int) pa_nil)))))
  (pss_cons (ps_set (i := 4) sc_law_items.nd rfl (by first | exact Or.inl rfl | exact Or.inr rfl) (pe_op op_mulA (pv 3) (pe_callTy c_int (by rfl) m_int (by decide +kernel) (pa_cons (pe_cmpR op_gt (pe_callHG h_law_take (hr.mono (by decide)) hG (by rfl) (pa_cons (pv 0) (pa_cons pe_int pa_nil))) pe_int (nomark _)) pa_nil))))
  (pss_cons (ps_for PassesOwn.never rfl (pi_range1 (by rfl) m_range (pa_cons (pe_op op_addA pe_int (pe_callHG h_law_take (hr.mono (by decide)) hG (by rfl) (pa_cons (pv 0) (pa_cons (pv 1) pa_nil)))) pa_nil)) (pg_name (i := 5) sc_law_items.nd rfl (by first | exact Or.inl rfl | exact Or.inr rfl)) (pss_cons (ps_setLc (i := 6) (own := [("_law_item", 9)]) (g := (gName 9)) (tt := tYes) (by rfl) sc_law_items.nd rfl rfl (sw_true rfl rfl rfl (by decide +kernel)) (pi_seq (pv 2)) (blkOk_by (own := [("_law_item", 9)]) (N := n_law_items) (sc := defScope s_law_items) (by decide +kernel)) (fun _ _ _ _ _ => (pg_name (i := 9) sc_law_items.nd rfl (by first | exact Or.inl rfl | exact Or.inr rfl))) (fun _ _ _ _ _ => pts_nil) (fun _ _ _ _ _ => (pe_ix ix_seq (pv 9) pe_int (fun _ _ => rfl))))
  (pss_cons (ps_set (i := 7) sc_law_items.nd rfl (by first | exact Or.inl rfl | exact Or.inr rfl) (pe_callHG h_law_value (hr.mono (by decide)) hG (by rfl) (pa_cons (pv 0) (pa_cons (pv 6) (pa_cons (pv 3) pa_nil)))))
  (pss_cons (ps_set (i := 8) sc_law_items.nd rfl (by first | exact Or.inl rfl | exact Or.inr rfl) (pe_callHG h_law_price (hr.mono (by decide)) hG (by rfl) (pa_cons (pv 0) (pa_cons (pv 4) pa_nil))))
  (pss_one (ps_expr (pe_bm PySem.F.plainAttrs_list PySem.F.slot_list_append PySem.F.type_list_append mt_append (pv 2) (pa_cons (pe_tup (pa_cons (pv 7) (pa_cons (pv 8) (pa_cons (pe_callHG h_law_price (hr.mono (by decide)) hG (by rfl) (pa_cons (pv 0) (pa_cons (pv 4) pa_nil))) pa_nil)))) pa_nil))))))))
  (pss_one (ps_ret (pv 2)))))))) ws_law_items
/-! ## is_whole -/
def phi_is_whole (ds : List PyData) (R : Rs → Prop) : Prop := ∃ d : PyData, ds = [d] ∧ R (.v (.bool (isWh d)))
theorem len_is_whole : ∀ ds R, phi_is_whole ds R → ds.length = 1 := fun ds R ⟨a, h, _⟩ => by rw [h]; rfl
abbrev s_is_whole : Stmt := topS 6
abbrev n_is_whole : List Str := ["thing"]
theorem sc_is_whole : FnScope n_is_whole ["thing"] (defScope s_is_whole) := ⟨rfl, rfl, rfl, by decide +kernel, rfl, by decide +kernel, by decide +kernel⟩
def t_is_whole (K : PySem.W.Frag) : TS := (tRet (tAndV (tCB (rIsi K) (tCons (tVar 0) (tCons (tC (.ty "int")) tNil))) (tNotV (tCB (rIsi K) (tCons (tVar 0) (tCons (tC (.ty "bool")) tNil))))))
theorem ws_is_whole {K : PySem.W.Frag} (ds : List PyData) (R : Rs → Prop) : phi_is_whole ds R → WS K (t_is_whole K) (ds.map Ent.val ++ List.replicate (n_is_whole.length - ds.length) .unk) { nx := fun _ => R (.v .none), rt := R } := by
  rintro ⟨d, rfl, h⟩
  show WS K (t_is_whole K) [.val d] _
  unfold t_is_whole
  cases d <;> walk_at "dl" <;> exact h
theorem ok_is_whole {P : Program} {w : World} {K : PySem.W.Frag} {mg : Str → Option Value} {base : Heap} (D : Def K mg "is_whole" s_is_whole) (m_isinstance : mg "isinstance" = none) (m_int : mg "int" = none) (m_bool : mg "bool" = none) : HasG P w K mg base "is_whole" 1 ["thing"] (SpF K phi_is_whole) :=
  hasG_of D (fun _ _ F => F.binds (ps := ["thing"]) fun _ _ _ _ _ _ us hl => match us, hl with | [_], _ => rfl) fun _ _ F => okFG (N := n_is_whole) (t := t_is_whole K) F sc_is_whole len_is_whole (fun cdv A outer s H E hr hG =>
  (pss_one (ps_ret (pe_and (pe_callB call_isi (by rfl) m_isinstance (by decide +kernel) (pa_cons (pv 0) (pa_cons (pe_bltn (v := .ty "int") (by rfl) m_int (by decide +kernel) rfl) pa_nil))) (pe_one (pe_not (pe_callB call_isi (by rfl) m_isinstance (by decide +kernel) (pa_cons (pv 0) (pa_cons (pe_bltn (v := .ty "bool") (by rfl) m_bool (by decide +kernel) rfl) pa_nil))))))))) ws_is_whole
/-! ## common -/
def phi_common (ds : List PyData) (R : Rs → Prop) : Prop := ∃ a b : Int, ds = [.int a, .int b] ∧ R (.v (.int (Int.gcd a b)))
theorem len_common : ∀ ds R, phi_common ds R → ds.length = 2 := fun ds R ⟨a, b, h, _⟩ => by rw [h]; rfl
theorem abs_cast (a : Int) : (if a < 0 then -a else a) = ((a.natAbs : Nat) : Int) := by
  split <;> omega
theorem gcd_turn (u v : Nat) : Nat.gcd v (u % v) = Nat.gcd u v := by
  rw [Nat.gcd_comm v (u % v), ← Nat.gcd_rec, Nat.gcd_comm]
abbrev s_common : Stmt := topS 7
abbrev n_common : List Str := ["one", "other"]
theorem sc_common : FnScope n_common ["one", "other"] (defScope s_common) := ⟨rfl, rfl, rfl, by decide +kernel, rfl, by decide +kernel, by decide +kernel⟩
@[reducible] def t_common_0 (K : PySem.W.Frag) : TS := (tRet (tVar 0))
@[reducible] def t_common_1 (K : PySem.W.Frag) : TS := (tSeq (tWhile (tTest (tOp rGtI (tVar 1) (tC (.int 0)))) (tPar 0 1 (tCons (tVar 1) (tCons (tOp rModI (tVar 0) (tVar 1)) tNil))))
  (t_common_0 K))
def t_common (K : PySem.W.Frag) : TS := (tSeq (tPar 0 1 (tCons (tCB rAbs (tCons (tVar 0) tNil)) (tCons (tCB rAbs (tCons (tVar 1) tNil)) tNil)))
  (t_common_1 K))
theorem ws_common {K : PySem.W.Frag} (ds : List PyData) (R : Rs → Prop) : phi_common ds R → WS K (t_common K) (ds.map Ent.val ++ List.replicate (n_common.length - ds.length) .unk) { nx := fun _ => R (.v .none), rt := R } := by
  rintro ⟨a, b, rfl, h⟩
  show WS K (t_common K) [.val (.int a), .val (.int b)] _
  unfold t_common
  walk_at "dl"
  refine ws_while (fun m Δ => ∃ u v : Nat, Δ = [.val (.int u), .val (.int v)] ∧ Nat.gcd u v = Int.gcd a b ∧ m = v) b.natAbs ⟨a.natAbs, b.natAbs, ?_, rfl, rfl⟩ ?_
  · show [Ent.val (.int (if a < 0 then -a else a)), Ent.val (.int (if b < 0 then -b else b))] = _
    rw [abs_cast, abs_cast]
  · rintro m Δ' ⟨u, v, rfl, hg, rfl⟩
    walk_at "dl"
    refine if_d (fun c => ?_) (fun c => ?_)
    · have hv : 0 < m := by omega
      walk_at "dl"
      · omega
      · refine ⟨u % m, Nat.mod_lt _ hv, m, u % m, ?_, ?_, rfl⟩
        · rw [Int.natCast_emod]
          rfl
        · rw [gcd_turn, hg]
    · have hv : m = 0 := by omega
      subst hv
      walk_at "dl"
      rw [Nat.gcd_zero_right] at hg
      rw [hg]
      exact h
theorem ok_common {P : Program} {w : World} {K : PySem.W.Frag} {mg : Str → Option Value} {base : Heap} (D : Def K mg "common" s_common) (m_abs : mg "abs" = none) : HasG P w K mg base "common" 1 ["one", "other"] (SpF K phi_common) :=
  hasG_of D (fun _ _ F => F.binds (ps := ["one", "other"]) fun _ _ _ _ _ _ us hl => match us, hl with | [_, _], _ => rfl) fun _ _ F => okFG (N := n_common) (t := t_common K) F sc_common len_common (fun cdv A outer s H E hr hG =>
  (pss_cons (ps_par (i := 0) (j := 1) (by rfl) sc_common.nd rfl rfl (by decide) rfl rfl (pa_cons (pe_callB c_abs (by rfl) m_abs (by decide +kernel) (pa_cons (pv 0) pa_nil)) (pa_cons (pe_callB c_abs (by rfl) m_abs (by decide +kernel) (pa_cons (pv 1) pa_nil)) pa_nil)) (by rfl))
  (pss_cons (ps_while PassesOwn.never (pt_cmpR op_gt (pv 1) pe_int (nomark _)) (pss_one (ps_par (i := 0) (j := 1) (by rfl) sc_common.nd rfl rfl (by decide) rfl rfl (pa_cons (pv 1) (pa_cons (pe_op op_mod (pv 0) (pv 1)) pa_nil)) (by rfl))))
  (pss_one (ps_ret (pv 0)))))) ws_common
/-! ## is_fraction -/
def phi_is_fraction (ds : List PyData) (R : Rs → Prop) : Prop := ∃ d : PyData, ds = [d] ∧ R (.v (.bool (isFrac d)))
theorem len_is_fraction : ∀ ds R, phi_is_fraction ds R → ds.length = 1 := fun ds R ⟨a, h, _⟩ => by rw [h]; rfl
abbrev s_is_fraction : Stmt := topS 9
abbrev n_is_fraction : List Str := ["thing"]
theorem sc_is_fraction : FnScope n_is_fraction ["thing"] (defScope s_is_fraction) := ⟨rfl, rfl, rfl, by decide +kernel, rfl, by decide +kernel, by decide +kernel⟩
@[reducible] def t_is_fraction_0 (K : PySem.W.Frag) : TS := (tRet (tAndV (tOp rGtI (tOp (rIx K) (tVar 0) (tC (.int 1))) (tC (.int 0))) (tOp (rEqD K) (tCall (SpF K phi_common) [] E0 (tCons (tOp (rIx K) (tVar 0) (tC (.int 0))) (tCons (tOp (rIx K) (tVar 0) (tC (.int 1))) tNil))) (tC (.int 1)))))
def t_is_fraction (K : PySem.W.Frag) : TS := (tSeq (tIfS (tOr (tNot (tB (tCB (rIsi K) (tCons (tVar 0) (tCons (tC (.ty "tuple")) tNil))))) (tOr (tTest (tOp (rNeD K) (tCB (DL.rLen K) (tCons (tVar 0) tNil)) (tC (.int 2)))) (tOr (tNot (tB (tCall (SpF K phi_is_whole) [] E0 (tCons (tOp (rIx K) (tVar 0) (tC (.int 0))) tNil)))) (tNot (tB (tCall (SpF K phi_is_whole) [] E0 (tCons (tOp (rIx K) (tVar 0) (tC (.int 1))) tNil))))))) (tRet (tC (.bl false))) tNext)
  (t_is_fraction_0 K))
theorem ws_is_fraction {K : PySem.W.Frag} (ds : List PyData) (R : Rs → Prop) : phi_is_fraction ds R → WS K (t_is_fraction K) (ds.map Ent.val ++ List.replicate (n_is_fraction.length - ds.length) .unk) { nx := fun _ => R (.v .none), rt := R } := by
  rintro ⟨d, rfl, h⟩
  show WS K (t_is_fraction K) [.val d] _
  unfold t_is_fraction
  cases d with
  | none => walk_at "dl"; exact h
  | bool b => walk_at "dl"; exact h
  | int i => walk_at "dl"; exact h
  | str x => walk_at "dl"; exact h
  | list xs => walk_at "dl"; exact h
  | dict xs => walk_at "dl"; exact h
  | tuple xs =>
    match xs, h with
    | [], h => walk_at "dl"; exact h
    | [x], h => walk_at "dl"; exact h
    | x :: y :: z :: r, h =>
      walk_at "dl"
      refine if_nd (fun c => ?_) (fun c => ?_)
      · walk_at "dl"
        exact h
      · exfalso
        simp at c
        omega
    | [x, y], h =>
      have h2 : R (.v (.bool (isFrac2 x y))) := h
      cases x with
      | int a =>
        cases y with
        | int b =>
          walk_at "dl"
          have h' : R (.v (.bool (decide (0 < b) && decide (Int.gcd a b = 1)))) := h2
          refine if_d (fun c => ?_) (fun c => ?_)
          · walk_at "dl"
            rw [decide_eq_true c, Bool.true_and] at h'
            rw [show decide ((Int.gcd a b : Int) = 1) = decide (Int.gcd a b = 1) by
              by_cases e : Int.gcd a b = 1
              · rw [e]; rfl
              · rw [decide_eq_false e, decide_eq_false (by omega)]]
            exact h'
          · rw [decide_eq_false c, Bool.false_and] at h'
            exact h'
        | _ => walk_at "dl"; exact h2
      | _ => walk_at "dl"; exact h2
theorem ok_is_fraction {P : Program} {w : World} {K : PySem.W.Frag} {mg : Str → Option Value} {base : Heap} (D : Def K mg "is_fraction" s_is_fraction) (h_is_whole : HasG P w K mg base "is_whole" 1 ["thing"] (SpF K phi_is_whole)) (h_common : HasG P w K mg base "common" 1 ["one", "other"] (SpF K phi_common)) (m_isinstance : mg "isinstance" = none) (m_tuple : mg "tuple" = none) (m_len : mg "len" = none) : HasG P w K mg base "is_fraction" 2 ["thing"] (SpF K phi_is_fraction) :=
  hasG_of D (fun _ _ F => F.binds (ps := ["thing"]) fun _ _ _ _ _ _ us hl => match us, hl with | [_], _ => rfl) fun _ _ F => okFG (N := n_is_fraction) (t := t_is_fraction K) F sc_is_fraction len_is_fraction (fun cdv A outer s H E hr hG =>
  (pss_cons (ps_if (PW.pt (pw_or (pt_not (pt_val (pe_callB call_isi (by rfl) m_isinstance (by decide +kernel) (pa_cons (pv 0) (pa_cons (pe_bltn (v := .ty "tuple") (by rfl) m_tuple (by decide +kernel) rfl) pa_nil))))) (pw_or (pt_cmpR (op_neD hr.units) (pe_callB DL.c_len (by rfl) m_len (by decide +kernel) (pa_cons (pv 0) pa_nil)) pe_int (nomark _)) (pw_or (pt_not (pt_val (pe_callHG h_is_whole (hr.mono (by decide)) hG (by rfl) (pa_cons (pe_ix ix_seq (pv 0) pe_int (fun _ _ => rfl)) pa_nil)))) (pw_or1 (pt_not (pt_val (pe_callHG h_is_whole (hr.mono (by decide)) hG (by rfl) (pa_cons (pe_ix ix_seq (pv 0) pe_int (fun _ _ => rfl)) pa_nil))))))))) (pss_one (ps_ret pe_bl)) pss_nil)
  (pss_one (ps_ret (pe_and (pe_cmpR op_gt (pe_ix ix_seq (pv 0) pe_int (fun _ _ => rfl)) pe_int (nomark _)) (pe_one (pe_cmpR (op_eqD hr.units) (pe_callHG h_common (hr.mono (by decide)) hG (by rfl) (pa_cons (pe_ix ix_seq (pv 0) pe_int (fun _ _ => rfl)) (pa_cons (pe_ix ix_seq (pv 0) pe_int (fun _ _ => rfl)) pa_nil))) pe_int (nomark _)))))))) ws_is_fraction
/-! ## are_fractions -/
-- only: k16 k15 k31 k32 k33 k34 k35 k36 k37 k38 k39
def phi_are_fractions (ds : List PyData) (R : Rs → Prop) : Prop := ∃ (d : PyData) (n : Nat), ds = [d, .int (n : Int)] ∧ (∀ xs, d = .tuple xs → xs.length ≤ 1000) ∧ R (.v (.bool (areFr n d)))
theorem len_are_fractions : ∀ ds R, phi_are_fractions ds R → ds.length = 2 := fun ds R ⟨a, b, h, _⟩ => by rw [h]; rfl
theorem all_bools (xs : List PyData) (p : PyData → Bool) : (xs.map p).all id = xs.all p := by simp [List.all_map]
abbrev s_are_fractions : Stmt := topS 16
abbrev n_are_fractions : List Str := ["thing", "many", "one"]
theorem sc_are_fractions : FnScope n_are_fractions ["thing", "many"] (defScope s_are_fractions) := ⟨rfl, rfl, rfl, by decide +kernel, rfl, by decide +kernel, by decide +kernel⟩
def t_are_fractions (K : PySem.W.Frag) : TS := (tRet (tAndV (tCB (rIsi K) (tCons (tVar 0) (tCons (tC (.ty "tuple")) tNil))) (tAndV (tOp (rEqD K) (tCB (DL.rLen K) (tCons (tVar 0) tNil)) (tVar 1)) (tCB (rAll K) (tCons (tLc (iSeq K (tVar 0)) (gName 2) tYes (tCall (SpF K phi_is_fraction) [] E0 (tCons (tVar 2) tNil)) [2]) tNil)))))
theorem ws_are_fractions {K : PySem.W.Frag} (ds : List PyData) (R : Rs → Prop) : phi_are_fractions ds R → WS K (t_are_fractions K) (ds.map Ent.val ++ List.replicate (n_are_fractions.length - ds.length) .unk) { nx := fun _ => R (.v .none), rt := R } := by
  rintro ⟨d, n, rfl, hl, h⟩
  show WS K (t_are_fractions K) [.val d, .val (.int (n : Int)), .unk] _
  unfold t_are_fractions
  cases d with
  | tuple xs =>
    have few := hl xs rfl
    walk_at "w"
    have e : areFr n (.tuple xs) = (decide (xs.length = n) && xs.all isFrac) := rfl
    rw [e] at h
    refine if_d (fun c => ?_) (fun c => ?_)
    · rw [decide_eq_true (by omega : xs.length = n), Bool.true_and] at h
      walk_at "w"
      refine we_lcF xs id (fun x => .bool (isFrac x)) rfl rfl ?_
      walk_at "w"
      refine ⟨by rw [List.map_id], by omega, fun x hx => ?_, ?_⟩
      · walk_at "w"
        rfl
      walk_at "w"
      rw [show (xs.map fun x => PyData.bool (isFrac x)) = (xs.map isFrac).map PyData.bool by rw [List.map_map]; rfl]
      refine cd_all ?_
      rw [all_bools]
      exact h
    · rw [decide_eq_false (by omega : ¬ xs.length = n), Bool.false_and] at h
      exact h
  | none => walk_at "w"; exact h
  | bool b => walk_at "w"; exact h
  | int i => walk_at "w"; exact h
  | str x => walk_at "w"; exact h
  | list l => walk_at "w"; exact h
  | dict l => walk_at "w"; exact h
theorem ok_are_fractions {P : Program} {w : World} {K : PySem.W.Frag} {mg : Str → Option Value} {base : Heap} (D : Def K mg "are_fractions" s_are_fractions) (h_is_fraction : HasG P w K mg base "is_fraction" 2 ["thing"] (SpF K phi_is_fraction)) (m_isinstance : mg "isinstance" = none) (m_tuple : mg "tuple" = none) (m_len : mg "len" = none) (m_all : mg "all" = none) : HasG P w K mg base "are_fractions" 3 ["thing", "many"] (SpF K phi_are_fractions) :=
  hasG_of D (fun _ _ F => F.binds (ps := ["thing", "many"]) fun _ _ _ _ _ _ us hl => match us, hl with | [_, _], _ => rfl) fun _ _ F => okFG (N := n_are_fractions) (t := t_are_fractions K) F sc_are_fractions len_are_fractions (fun cdv A outer s H E hr hG =>
  (pss_one (ps_ret (pe_and (pe_callB call_isi (by rfl) m_isinstance (by decide +kernel) (pa_cons (pv 0) (pa_cons (pe_bltn (v := .ty "tuple") (by rfl) m_tuple (by decide +kernel) rfl) pa_nil))) (pe_and (pe_cmpR (op_eqD hr.units) (pe_callB DL.c_len (by rfl) m_len (by decide +kernel) (pa_cons (pv 0) pa_nil)) (pv 1) (nomark _)) (pe_one (pe_callB (cr_all rfl) (by rfl) m_all (by decide +kernel) (pa_cons (pe_lc (own := [("one", 2)]) (g := (gName 2)) (tt := tYes) (by rfl) sc_are_fractions.nd (pi_seq (pv 0)) (blkOk_by (own := [("one", 2)]) (N := n_are_fractions) (sc := defScope s_are_fractions) (by decide +kernel)) (fun _ _ _ _ _ => (pg_name (i := 2) sc_are_fractions.nd rfl (by first | exact Or.inl rfl | exact Or.inr rfl))) (fun _ _ _ _ _ => pts_nil) (fun _ _ _ _ _ => (pe_callHG h_is_fraction (hr.mono (by decide)) hG (by rfl) (pa_cons (pv 2) pa_nil)))) pa_nil)))))))) ws_are_fractions
/-! ## is_below -/
def phi_is_below (ds : List PyData) (R : Rs → Prop) : Prop := ∃ p q : Rat, ds = [qD p, qD q] ∧ Rsz qB p ∧ Rsz qB q ∧ R (.v (.bool (decide (p < q))))
theorem len_is_below : ∀ ds R, phi_is_below ds R → ds.length = 2 := fun ds R ⟨a, b, h, _⟩ => by rw [h]; rfl
abbrev s_is_below : Stmt := topS 12
abbrev n_is_below : List Str := ["one", "other"]
theorem sc_is_below : FnScope n_is_below ["one", "other"] (defScope s_is_below) := ⟨rfl, rfl, rfl, by decide +kernel, rfl, by decide +kernel, by decide +kernel⟩
def t_is_below (K : PySem.W.Frag) : TS := (tRet (tOp rLtI (tOp rMulA (tOp (rIx K) (tVar 0) (tC (.int 0))) (tOp (rIx K) (tVar 1) (tC (.int 1)))) (tOp rMulA (tOp (rIx K) (tVar 1) (tC (.int 0))) (tOp (rIx K) (tVar 0) (tC (.int 1))))))
theorem ws_is_below {K : PySem.W.Frag} (ds : List PyData) (R : Rs → Prop) : phi_is_below ds R → WS K (t_is_below K) (ds.map Ent.val ++ List.replicate (n_is_below.length - ds.length) .unk) { nx := fun _ => R (.v .none), rt := R } := by
  rintro ⟨p, q, rfl, h1, h2, h⟩
  show WS K (t_is_below K) [.val (qD p), .val (qD q)] _
  unfold t_is_below
  walk_at "dl"
  · exact mulq h1.1 h2.den (by decide) (by decide)
  · exact mulq h2.1 h1.den (by decide) (by decide)
  · show R (.v (.bool (decide (p.num * (q.den : Int) < q.num * (p.den : Int)))))
    rw [lt_dec]
    exact h
theorem ok_is_below {P : Program} {w : World} {K : PySem.W.Frag} {mg : Str → Option Value} {base : Heap} (D : Def K mg "is_below" s_is_below) : HasG P w K mg base "is_below" 1 ["one", "other"] (SpF K phi_is_below) :=
  hasG_of D (fun _ _ F => F.binds (ps := ["one", "other"]) fun _ _ _ _ _ _ us hl => match us, hl with | [_, _], _ => rfl) fun _ _ F => okFG (N := n_is_below) (t := t_is_below K) F sc_is_below len_is_below (fun cdv A outer s H E hr hG =>
  (pss_one (ps_ret (pe_cmpR op_lt (pe_op op_mulA (pe_ix ix_seq (pv 0) pe_int (fun _ _ => rfl)) (pe_ix ix_seq (pv 1) pe_int (fun _ _ => rfl))) (pe_op op_mulA (pe_ix ix_seq (pv 1) pe_int (fun _ _ => rfl)) (pe_ix ix_seq (pv 0) pe_int (fun _ _ => rfl))) (nomark _))))) ws_is_below
/-! ## is_above -/
def phi_is_above (ds : List PyData) (R : Rs → Prop) : Prop := ∃ q : Rat, ds = [qD q] ∧ Rsz qB q ∧ R (.v (.bool (decide (0 < q))))
theorem len_is_above : ∀ ds R, phi_is_above ds R → ds.length = 1 := fun ds R ⟨a, h, _⟩ => by rw [h]; rfl
abbrev s_is_above : Stmt := topS 17
abbrev n_is_above : List Str := ["one"]
theorem sc_is_above : FnScope n_is_above ["one"] (defScope s_is_above) := ⟨rfl, rfl, rfl, by decide +kernel, rfl, by decide +kernel, by decide +kernel⟩
def t_is_above (K : PySem.W.Frag) : TS := (tRet (tCall (SpF K phi_is_below) [] E0 (tCons (tGl K (qD 0)) (tCons (tVar 0) tNil))))
theorem ws_is_above {K : PySem.W.Frag} (ds : List PyData) (R : Rs → Prop) : phi_is_above ds R → WS K (t_is_above K) (ds.map Ent.val ++ List.replicate (n_is_above.length - ds.length) .unk) { nx := fun _ => R (.v .none), rt := R } := by
  rintro ⟨q, rfl, hs, h⟩
  show WS K (t_is_above K) [.val (qD q)] _
  unfold t_is_above
  walk_at "dl"
  exact ⟨sz_zero _ (by decide), hs, h⟩
theorem ok_is_above {P : Program} {w : World} {K : PySem.W.Frag} {mg : Str → Option Value} {base : Heap} (D : Def K mg "is_above" s_is_above) (h_is_below : HasG P w K mg base "is_below" 1 ["one", "other"] (SpF K phi_is_below)) (g_NOUGHT : Gc K mg "NOUGHT" (qD 0)) : HasG P w K mg base "is_above" 2 ["one"] (SpF K phi_is_above) :=
  hasG_of D (fun _ _ F => F.binds (ps := ["one"]) fun _ _ _ _ _ _ us hl => match us, hl with | [_], _ => rfl) fun _ _ F => okFG (N := n_is_above) (t := t_is_above K) F sc_is_above len_is_above (fun cdv A outer s H E hr hG =>
  (pss_one (ps_ret (pe_callHG h_is_below (hr.mono (by decide)) hG (by rfl) (pa_cons (pe_const g_NOUGHT (by rfl)) (pa_cons (pv 0) pa_nil)))))) ws_is_above
/-! ## is_priced_item -/
-- only: k15 k31 k32 k33 k34 k35 k36 k37 k38 k39
def phi_is_priced_item (ds : List PyData) (R : Rs → Prop) : Prop := ∃ d : PyData, ds = [d] ∧ Jd d ∧ R (.v (.bool (isItm 3 d)))
theorem len_is_priced_item : ∀ ds R, phi_is_priced_item ds R → ds.length = 1 := fun ds R ⟨a, h, _⟩ => by rw [h]; rfl
abbrev s_is_priced_item : Stmt := topS 18
abbrev n_is_priced_item : List Str := ["thing"]
theorem sc_is_priced_item : FnScope n_is_priced_item ["thing"] (defScope s_is_priced_item) := ⟨rfl, rfl, rfl, by decide +kernel, rfl, by decide +kernel, by decide +kernel⟩
def t_is_priced_item (K : PySem.W.Frag) : TS := (tRet (tAndV (tCall (SpF K phi_are_fractions) [] E0 (tCons (tVar 0) (tCons (tC (.int 3)) tNil))) (tAndV (tCall (SpF K phi_is_above) [] E0 (tCons (tOp (rIx K) (tVar 0) (tC (.int 1))) tNil)) (tCall (SpF K phi_is_above) [] E0 (tCons (tOp (rIx K) (tVar 0) (tC (.int 2))) tNil)))))
theorem ws_is_priced_item {K : PySem.W.Frag} (ds : List PyData) (R : Rs → Prop) : phi_is_priced_item ds R → WS K (t_is_priced_item K) (ds.map Ent.val ++ List.replicate (n_is_priced_item.length - ds.length) .unk) { nx := fun _ => R (.v .none), rt := R } := by
  rintro ⟨d, rfl, jd, h⟩
  show WS K (t_is_priced_item K) [.val d] _
  unfold t_is_priced_item
  walk_at "w"
  refine ⟨fun xs e => (jd xs e).1, ?_⟩
  cases ha : areFr 3 d with
  | false =>
    rw [isItm_no ha] at h
    walk_at "w"
    exact h
  | true =>
    obtain ⟨qs, hl, rfl⟩ := areFr_is ha
    match qs, hl with
    | [v, u, w], _ =>
      rw [isItm_q (n := 3) (qs := [v, u, w]) rfl] at h
      have jm := (jd _ rfl).2
      have sz : ∀ q, q ∈ [v, u, w] → Rsz qB q := fun q hq => by have := jm (qD q) (List.mem_map_of_mem hq) (isFrac_q _); rw [frQ_q] at this; exact this
      walk_at "w"
      refine ⟨sz u (by simp), ?_⟩
      walk_at "w"
      have e : itmOk [v, u, w] = (decide (0 < u) && decide (0 < w)) := rfl
      rw [e] at h
      refine if_d (fun c => ?_) (fun c => ?_)
      · rw [decide_eq_true c, Bool.true_and] at h
        walk_at "w"
        exact ⟨sz w (by simp), h⟩
      · rw [decide_eq_false c, Bool.false_and] at h
        exact h
theorem ok_is_priced_item {P : Program} {w : World} {K : PySem.W.Frag} {mg : Str → Option Value} {base : Heap} (D : Def K mg "is_priced_item" s_is_priced_item) (h_are_fractions : HasG P w K mg base "are_fractions" 3 ["thing", "many"] (SpF K phi_are_fractions)) (h_is_above : HasG P w K mg base "is_above" 2 ["one"] (SpF K phi_is_above)) : HasG P w K mg base "is_priced_item" 4 ["thing"] (SpF K phi_is_priced_item) :=
  hasG_of D (fun _ _ F => F.binds (ps := ["thing"]) fun _ _ _ _ _ _ us hl => match us, hl with | [_], _ => rfl) fun _ _ F => okFG (N := n_is_priced_item) (t := t_is_priced_item K) F sc_is_priced_item len_is_priced_item (fun cdv A outer s H E hr hG =>
  (pss_one (ps_ret (pe_and (pe_callHG h_are_fractions (hr.mono (by decide)) hG (by rfl) (pa_cons (pv 0) (pa_cons pe_int pa_nil))) (pe_and (pe_callHG h_is_above (hr.mono (by decide)) hG (by rfl) (pa_cons (pe_ix ix_seq (pv 0) pe_int (fun _ _ => rfl)) pa_nil)) (pe_one (pe_callHG h_is_above (hr.mono (by decide)) hG (by rfl) (pa_cons (pe_ix ix_seq (pv 0) pe_int (fun _ _ => rfl)) pa_nil)))))))) ws_is_priced_item
/-! ## is_priced -/
-- only: k15 k31 k32 k33 k34 k35 k36 k37 k38 k39
def phi_is_priced (ds : List PyData) (R : Rs → Prop) : Prop := ∃ d : PyData, ds = [d] ∧ (∀ xs, d = .list xs → xs.length ≤ 1000 ∧ Pl 60 (.list xs) ∧ ∀ x, x ∈ xs → Jd x) ∧ R (.v (.bool (areItms 3 d)))
theorem len_is_priced : ∀ ds R, phi_is_priced ds R → ds.length = 1 := fun ds R ⟨a, h, _⟩ => by rw [h]; rfl
abbrev s_is_priced : Stmt := topS 19
abbrev n_is_priced : List Str := ["thing", "one"]
theorem sc_is_priced : FnScope n_is_priced ["thing"] (defScope s_is_priced) := ⟨rfl, rfl, rfl, by decide +kernel, rfl, by decide +kernel, by decide +kernel⟩
def t_is_priced (K : PySem.W.Frag) : TS := (tRet (tAndV (tCB (rIsi K) (tCons (tVar 0) (tCons (tC (.ty "list")) tNil))) (tAndV (tOp (rNeD K) (tVar 0) (tLst tNil)) (tCB (rAll K) (tCons (tLc (iSeq K (tVar 0)) (gName 1) tYes (tCall (SpF K phi_is_priced_item) [] E0 (tCons (tVar 1) tNil)) [1]) tNil)))))
theorem ws_is_priced {K : PySem.W.Frag} (ds : List PyData) (R : Rs → Prop) : phi_is_priced ds R → WS K (t_is_priced K) (ds.map Ent.val ++ List.replicate (n_is_priced.length - ds.length) .unk) { nx := fun _ => R (.v .none), rt := R } := by
  rintro ⟨d, rfl, jd, h⟩
  show WS K (t_is_priced K) [.val d, .unk] _
  unfold t_is_priced
  cases d with
  | list xs =>
    obtain ⟨few, pl, jx⟩ := jd xs rfl
    have e : areItms 3 (.list xs) = (!xs.isEmpty && xs.all (isItm 3)) := rfl
    rw [e] at h
    walk_at "w"
    refine rd_neNil pl (by decide) ?_
    cases hx : xs.isEmpty with
    | true =>
      rw [hx] at h
      walk_at "w"
      exact h
    | false =>
      rw [hx] at h
      walk_at "w"
      refine we_lcF xs id (fun x => .bool (isItm 3 x)) rfl rfl ?_
      walk_at "w"
      refine ⟨by rw [List.map_id], by omega, fun x hx => ?_, ?_⟩
      · walk_at "w"
        exact ⟨jx x hx, rfl⟩
      walk_at "w"
      rw [show (xs.map fun x => PyData.bool (isItm 3 x)) = (xs.map (isItm 3)).map PyData.bool by rw [List.map_map]; rfl]
      refine cd_all ?_
      rw [all_bools]
      exact h
  | none => walk_at "w"; exact h
  | bool b => walk_at "w"; exact h
  | int i => walk_at "w"; exact h
  | str x => walk_at "w"; exact h
  | tuple l => walk_at "w"; exact h
  | dict l => walk_at "w"; exact h
theorem ok_is_priced {P : Program} {w : World} {K : PySem.W.Frag} {mg : Str → Option Value} {base : Heap} (D : Def K mg "is_priced" s_is_priced) (h_is_priced_item : HasG P w K mg base "is_priced_item" 4 ["thing"] (SpF K phi_is_priced_item)) (m_isinstance : mg "isinstance" = none) (m_list : mg "list" = none) (m_all : mg "all" = none) : HasG P w K mg base "is_priced" 5 ["thing"] (SpF K phi_is_priced) :=
  hasG_of D (fun _ _ F => F.binds (ps := ["thing"]) fun _ _ _ _ _ _ us hl => match us, hl with | [_], _ => rfl) fun _ _ F => okFG (N := n_is_priced) (t := t_is_priced K) F sc_is_priced len_is_priced (fun cdv A outer s H E hr hG =>
  (pss_one (ps_ret (pe_and (pe_callB call_isi (by rfl) m_isinstance (by decide +kernel) (pa_cons (pv 0) (pa_cons (pe_bltn (v := .ty "list") (by rfl) m_list (by decide +kernel) rfl) pa_nil))) (pe_and (pe_cmpR (op_neD hr.units) (pv 0) (pe_lst pa_nil) (nomark _)) (pe_one (pe_callB (cr_all rfl) (by rfl) m_all (by decide +kernel) (pa_cons (pe_lc (own := [("one", 1)]) (g := (gName 1)) (tt := tYes) (by rfl) sc_is_priced.nd (pi_seq (pv 0)) (blkOk_by (own := [("one", 1)]) (N := n_is_priced) (sc := defScope s_is_priced) (by decide +kernel)) (fun _ _ _ _ _ => (pg_name (i := 1) sc_is_priced.nd rfl (by first | exact Or.inl rfl | exact Or.inr rfl))) (fun _ _ _ _ _ => pts_nil) (fun _ _ _ _ _ => (pe_callHG h_is_priced_item (hr.mono (by decide)) hG (by rfl) (pa_cons (pv 1) pa_nil)))) pa_nil)))))))) ws_is_priced
/-! ## want_priced -/
-- only where they are priced items
def phi_want_priced (ds : List PyData) (R : Rs → Prop) : Prop := ∃ (l : List Pc), ds = [.list (l.map pcD)] ∧ PcL l ∧ R (.v .none)
theorem len_want_priced : ∀ ds R, phi_want_priced ds R → ds.length = 1 := fun ds R ⟨_, h, _⟩ => by rw [h]; rfl
abbrev s_want_priced : Stmt := topS 21
abbrev n_want_priced : List Str := ["priced"]
theorem sc_want_priced : FnScope n_want_priced ["priced"] (defScope s_want_priced) := ⟨rfl, rfl, rfl, by decide +kernel, rfl, by decide +kernel, by decide +kernel⟩
def t_want_priced (K : PySem.W.Frag) : TS := (tIfS (tNot (tB (tCall (SpF K phi_is_priced) [] E0 (tCons (tVar 0) tNil)))) tNever tNext)
theorem ws_want_priced {K : PySem.W.Frag} (ds : List PyData) (R : Rs → Prop) : phi_want_priced ds R → WS K (t_want_priced K) (ds.map Ent.val ++ List.replicate (n_want_priced.length - ds.length) .unk) { nx := fun _ => R (.v .none), rt := R } := by
  rintro ⟨l, rfl, g, h⟩
  show WS K (t_want_priced K) [.val (.list (l.map pcD))] _
  unfold t_want_priced
  walk_at "we"
  refine ⟨g.jd, ?_⟩
  walk_at "we"
  refine if_bF (by rw [g.itms]; rfl) ?_
  walk_at "we"
  exact h
theorem ok_want_priced {P : Program} {w : World} {K : PySem.W.Frag} {mg : Str → Option Value} {base : Heap} (D : Def K mg "want_priced" s_want_priced) (h_is_priced : HasG P w K mg base "is_priced" 5 ["thing"] (SpF K phi_is_priced)) : HasG P w K mg base "want_priced" 6 ["priced"] (SpF K phi_want_priced) :=
  hasG_of D (fun _ _ F => F.binds (ps := ["priced"]) fun _ _ _ _ _ _ us hl => match us, hl with | [_], _ => rfl) fun _ _ F => okFG (N := n_want_priced) (t := t_want_priced K) F sc_want_priced len_want_priced (fun cdv A outer s H E hr hG =>
  (pss_one (ps_if (pt_not (pt_val (pe_callHG h_is_priced (hr.mono (by decide)) hG (by rfl) (pa_cons (pv 0) pa_nil)))) (pss_one ps_never) pss_nil))) ws_want_priced
/-! ## want_stretch -/
-- only where it is a stretch
def phi_want_stretch (ds : List PyData) (R : Rs → Prop) : Prop := ∃ (n i j : Nat), ds = [.int (n : Int), .int (i : Int), .int (j : Int)] ∧ i < j ∧ j ≤ n ∧ R (.v .none)
theorem len_want_stretch : ∀ ds R, phi_want_stretch ds R → ds.length = 3 := fun ds R ⟨_, _, _, h, _⟩ => by rw [h]; rfl
abbrev s_want_stretch : Stmt := topS 22
abbrev n_want_stretch : List Str := ["many", "first", "behind"]
theorem sc_want_stretch : FnScope n_want_stretch ["many", "first", "behind"] (defScope s_want_stretch) := ⟨rfl, rfl, rfl, by decide +kernel, rfl, by decide +kernel, by decide +kernel⟩
def t_want_stretch (K : PySem.W.Frag) : TS := (tIfS (tOr (tNot (tB (tCall (SpF K phi_is_whole) [] E0 (tCons (tVar 1) tNil)))) (tOr (tNot (tB (tCall (SpF K phi_is_whole) [] E0 (tCons (tVar 2) tNil)))) (tNot (tTest (tChain3 rLeI rLtI rLeI (tC (.int 0)) (tVar 1) (tVar 2) (tVar 0)))))) tNever tNext)
theorem ws_want_stretch {K : PySem.W.Frag} (ds : List PyData) (R : Rs → Prop) : phi_want_stretch ds R → WS K (t_want_stretch K) (ds.map Ent.val ++ List.replicate (n_want_stretch.length - ds.length) .unk) { nx := fun _ => R (.v .none), rt := R } := by
  rintro ⟨n, i, j, rfl, h1, h2, h⟩
  show WS K (t_want_stretch K) [.val (.int (n : Int)), .val (.int (i : Int)), .val (.int (j : Int))] _
  unfold t_want_stretch
  walk_at "we"
  refine if_dT (by omega) ?_
  walk_at "we"
  refine if_ndT (by omega) ?_
  walk_at "we"
  exact h
theorem ok_want_stretch {P : Program} {w : World} {K : PySem.W.Frag} {mg : Str → Option Value} {base : Heap} (D : Def K mg "want_stretch" s_want_stretch) (h_is_whole : HasG P w K mg base "is_whole" 1 ["thing"] (SpF K phi_is_whole)) : HasG P w K mg base "want_stretch" 2 ["many", "first", "behind"] (SpF K phi_want_stretch) :=
  hasG_of D (fun _ _ F => F.binds (ps := ["many", "first", "behind"]) fun _ _ _ _ _ _ us hl => match us, hl with | [_, _, _], _ => rfl) fun _ _ F => okFG (N := n_want_stretch) (t := t_want_stretch K) F sc_want_stretch len_want_stretch (fun cdv A outer s H E hr hG =>
  (pss_one (ps_if (PW.pt (pw_or (pt_not (pt_val (pe_callHG h_is_whole (hr.mono (by decide)) hG (by rfl) (pa_cons (pv 1) pa_nil)))) (pw_or (pt_not (pt_val (pe_callHG h_is_whole (hr.mono (by decide)) hG (by rfl) (pa_cons (pv 2) pa_nil)))) (pw_or1 (pt_not (pt_chain3 op_le op_lt op_le pe_int (pv 1) (pv 2) (pv 0))))))) (pss_one ps_never) pss_nil))) ws_want_stretch
/-! ## least_of -/
def phi_least_of (ds : List PyData) (R : Rs → Prop) : Prop := ∃ l : List Rat, ds = [.list (l.map qD)] ∧ l ≠ [] ∧ (∀ x, x ∈ l → Rsz qB x) ∧ ∀ m, m ∈ l → (∀ x, x ∈ l → m ≤ x) → R (.v (qD m))
theorem len_least_of : ∀ ds R, phi_least_of ds R → ds.length = 1 := fun ds R ⟨l, h, _⟩ => by rw [h]; rfl
theorem take_memL {α : Type} {l : List α} {i : Nat} {x y : α} (hx : l[i]? = some x) (h : y ∈ l.take (i + 1)) : y ∈ l.take i ∨ y = x := by
  rw [List.take_add_one, hx] at h
  rcases List.mem_append.mp h with h | h
  · exact .inl h
  · exact .inr (by simpa using h)
abbrev s_least_of : Stmt := topS 13
abbrev n_least_of : List Str := ["some", "found", "one"]
theorem sc_least_of : FnScope n_least_of ["some"] (defScope s_least_of) := ⟨rfl, rfl, rfl, by decide +kernel, rfl, by decide +kernel, by decide +kernel⟩
@[reducible] def t_least_of_0 (K : PySem.W.Frag) : TS := (tRet (tVar 1))
@[reducible] def t_least_of_1 (K : PySem.W.Frag) : TS := (tSeq (tFor (iSeq K (tVar 0)) (gName 2) (tIfS (tB (tCall (SpF K phi_is_below) [] E0 (tCons (tVar 2) (tCons (tVar 1) tNil)))) (tAsg (tVar 2) (gName 1)) tNext))
  (t_least_of_0 K))
def t_least_of (K : PySem.W.Frag) : TS := (tSeq (tAsg (tOp (rIx K) (tVar 0) (tC (.int 0))) (gName 1))
  (t_least_of_1 K))
theorem ws_least_of {K : PySem.W.Frag} (ds : List PyData) (R : Rs → Prop) : phi_least_of ds R → WS K (t_least_of K) (ds.map Ent.val ++ List.replicate (n_least_of.length - ds.length) .unk) { nx := fun _ => R (.v .none), rt := R } := by
  rintro ⟨l, rfl, ne, sz, h⟩
  show WS K (t_least_of K) [.val (.list (l.map qD)), .unk, .unk] _
  unfold t_least_of
  obtain ⟨x0, r, rfl⟩ : ∃ x r, l = x :: r := by cases l with | nil => exact absurd rfl ne | cons x r => exact ⟨x, r, rfl⟩
  refine ws_seq ?_
  walk_at "we"
  refine rd_ixAL (d := qD x0) (atI_nat (j := 0) rfl) ?_
  refine ws_seq ?_
  walk_at "we"
  refine ⟨fun i Δ => ∃ (m : Rat) (e2 : Ent), Δ = [.val (.list ((x0 :: r).map qD)), .val (qD m), e2] ∧ m ∈ x0 :: r ∧ ∀ x, x ∈ (x0 :: r).take i → m ≤ x, ⟨x0, .unk, rfl, List.mem_cons_self, fun x hx => by simp at hx⟩, ?_, ?_⟩
  · rintro i d Δ' hd ⟨m, e2, rfl, mm, ml⟩
    obtain ⟨y, hy, rfl⟩ := get_map hd
    have ym := List.mem_of_getElem? hy
    walk_at "we"
    refine ⟨sz y ym, sz m mm, ?_⟩
    walk_at "we"
    refine if_d (fun c => ?_) (fun c => ?_)
    · walk_at "we"
      refine ⟨ym, fun x hx => ?_⟩
      rcases take_memL hy hx with hx | rfl
      · exact Rat.le_trans (Rat.le_of_lt c) (ml x hx)
      · exact Rat.le_refl
    · walk_at "we"
      refine ⟨mm, fun x hx => ?_⟩
      rcases take_memL hy hx with hx | rfl
      · exact ml x hx
      · exact Rat.not_lt.mp c
  · rintro Δ' ⟨m, e2, rfl, mm, ml⟩
    rw [List.length_map, List.take_length] at ml
    walk_at "we"
    exact h m mm ml
theorem ok_least_of {P : Program} {w : World} {K : PySem.W.Frag} {mg : Str → Option Value} {base : Heap} (D : Def K mg "least_of" s_least_of) (h_is_below : HasG P w K mg base "is_below" 1 ["one", "other"] (SpF K phi_is_below)) : HasG P w K mg base "least_of" 2 ["some"] (SpF K phi_least_of) :=
  hasG_of D (fun _ _ F => F.binds (ps := ["some"]) fun _ _ _ _ _ _ us hl => match us, hl with | [_], _ => rfl) fun _ _ F => okFG (N := n_least_of) (t := t_least_of K) F sc_least_of len_least_of (fun cdv A outer s H E hr hG =>
  (pss_cons (ps_set (i := 1) sc_least_of.nd rfl (by first | exact Or.inl rfl | exact Or.inr rfl) (pe_ix ix_seq (pv 0) pe_int (fun _ _ => rfl)))
  (pss_cons (ps_for PassesOwn.never rfl (pi_seq (pv 0)) (pg_name (i := 2) sc_least_of.nd rfl (by first | exact Or.inl rfl | exact Or.inr rfl)) (pss_one (ps_if (pt_val (pe_callHG h_is_below (hr.mono (by decide)) hG (by rfl) (pa_cons (pv 2) (pa_cons (pv 1) pa_nil)))) (pss_one (ps_set (i := 1) sc_least_of.nd rfl (by first | exact Or.inl rfl | exact Or.inr rfl) (pv 2))) pss_nil)))
  (pss_one (ps_ret (pv 1)))))) ws_least_of
/-! ## greatest_of -/
def phi_greatest_of (ds : List PyData) (R : Rs → Prop) : Prop := ∃ l : List Rat, ds = [.list (l.map qD)] ∧ l ≠ [] ∧ (∀ x, x ∈ l → Rsz qB x) ∧ ∀ m, m ∈ l → (∀ x, x ∈ l → x ≤ m) → R (.v (qD m))
theorem len_greatest_of : ∀ ds R, phi_greatest_of ds R → ds.length = 1 := fun ds R ⟨l, h, _⟩ => by rw [h]; rfl
theorem take_memG {α : Type} {l : List α} {i : Nat} {x y : α} (hx : l[i]? = some x) (h : y ∈ l.take (i + 1)) : y ∈ l.take i ∨ y = x := by
  rw [List.take_add_one, hx] at h
  rcases List.mem_append.mp h with h | h
  · exact .inl h
  · exact .inr (by simpa using h)
abbrev s_greatest_of : Stmt := topS 14
abbrev n_greatest_of : List Str := ["some", "found", "one"]
theorem sc_greatest_of : FnScope n_greatest_of ["some"] (defScope s_greatest_of) := ⟨rfl, rfl, rfl, by decide +kernel, rfl, by decide +kernel, by decide +kernel⟩
@[reducible] def t_greatest_of_0 (K : PySem.W.Frag) : TS := (tRet (tVar 1))
@[reducible] def t_greatest_of_1 (K : PySem.W.Frag) : TS := (tSeq (tFor (iSeq K (tVar 0)) (gName 2) (tIfS (tB (tCall (SpF K phi_is_below) [] E0 (tCons (tVar 1) (tCons (tVar 2) tNil)))) (tAsg (tVar 2) (gName 1)) tNext))
  (t_greatest_of_0 K))
def t_greatest_of (K : PySem.W.Frag) : TS := (tSeq (tAsg (tOp (rIx K) (tVar 0) (tC (.int 0))) (gName 1))
  (t_greatest_of_1 K))
theorem ws_greatest_of {K : PySem.W.Frag} (ds : List PyData) (R : Rs → Prop) : phi_greatest_of ds R → WS K (t_greatest_of K) (ds.map Ent.val ++ List.replicate (n_greatest_of.length - ds.length) .unk) { nx := fun _ => R (.v .none), rt := R } := by
  rintro ⟨l, rfl, ne, sz, h⟩
  show WS K (t_greatest_of K) [.val (.list (l.map qD)), .unk, .unk] _
  unfold t_greatest_of
  obtain ⟨x0, r, rfl⟩ : ∃ x r, l = x :: r := by cases l with | nil => exact absurd rfl ne | cons x r => exact ⟨x, r, rfl⟩
  refine ws_seq ?_
  walk_at "we"
  refine rd_ixAL (d := qD x0) (atI_nat (j := 0) rfl) ?_
  refine ws_seq ?_
  walk_at "we"
  refine ⟨fun i Δ => ∃ (m : Rat) (e2 : Ent), Δ = [.val (.list ((x0 :: r).map qD)), .val (qD m), e2] ∧ m ∈ x0 :: r ∧ ∀ x, x ∈ (x0 :: r).take i → x ≤ m, ⟨x0, .unk, rfl, List.mem_cons_self, fun x hx => by simp at hx⟩, ?_, ?_⟩
  · rintro i d Δ' hd ⟨m, e2, rfl, mm, ml⟩
    obtain ⟨y, hy, rfl⟩ := get_map hd
    have ym := List.mem_of_getElem? hy
    walk_at "we"
    refine ⟨sz m mm, sz y ym, ?_⟩
    walk_at "we"
    refine if_d (fun c => ?_) (fun c => ?_)
    · walk_at "we"
      refine ⟨ym, fun x hx => ?_⟩
      rcases take_memG hy hx with hx | rfl
      · exact Rat.le_trans (ml x hx) (Rat.le_of_lt c)
      · exact Rat.le_refl
    · walk_at "we"
      refine ⟨mm, fun x hx => ?_⟩
      rcases take_memG hy hx with hx | rfl
      · exact ml x hx
      · exact Rat.not_lt.mp c
  · rintro Δ' ⟨m, e2, rfl, mm, ml⟩
    rw [List.length_map, List.take_length] at ml
    walk_at "we"
    exact h m mm ml
theorem ok_greatest_of {P : Program} {w : World} {K : PySem.W.Frag} {mg : Str → Option Value} {base : Heap} (D : Def K mg "greatest_of" s_greatest_of) (h_is_below : HasG P w K mg base "is_below" 1 ["one", "other"] (SpF K phi_is_below)) : HasG P w K mg base "greatest_of" 2 ["some"] (SpF K phi_greatest_of) :=
  hasG_of D (fun _ _ F => F.binds (ps := ["some"]) fun _ _ _ _ _ _ us hl => match us, hl with | [_], _ => rfl) fun _ _ F => okFG (N := n_greatest_of) (t := t_greatest_of K) F sc_greatest_of len_greatest_of (fun cdv A outer s H E hr hG =>
  (pss_cons (ps_set (i := 1) sc_greatest_of.nd rfl (by first | exact Or.inl rfl | exact Or.inr rfl) (pe_ix ix_seq (pv 0) pe_int (fun _ _ => rfl)))
  (pss_cons (ps_for PassesOwn.never rfl (pi_seq (pv 0)) (pg_name (i := 2) sc_greatest_of.nd rfl (by first | exact Or.inl rfl | exact Or.inr rfl)) (pss_one (ps_if (pt_val (pe_callHG h_is_below (hr.mono (by decide)) hG (by rfl) (pa_cons (pv 1) (pa_cons (pv 2) pa_nil)))) (pss_one (ps_set (i := 1) sc_greatest_of.nd rfl (by first | exact Or.inl rfl | exact Or.inr rfl) (pv 2))) pss_nil)))
  (pss_one (ps_ret (pv 1)))))) ws_greatest_of
/-! ## opposite -/
def phi_opposite (ds : List PyData) (R : Rs → Prop) : Prop := ∃ p : Rat, ds = [qD p] ∧ R (.v (qD (-p)))
theorem len_opposite : ∀ ds R, phi_opposite ds R → ds.length = 1 := fun ds R ⟨a, h, _⟩ => by rw [h]; rfl
abbrev s_opposite : Stmt := topS 11
abbrev n_opposite : List Str := ["one"]
theorem sc_opposite : FnScope n_opposite ["one"] (defScope s_opposite) := ⟨rfl, rfl, rfl, by decide +kernel, rfl, by decide +kernel, by decide +kernel⟩
def t_opposite (K : PySem.W.Frag) : TS := (tRet (tTup (tCons (tUn rNegI (tOp (rIx K) (tVar 0) (tC (.int 0)))) (tCons (tOp (rIx K) (tVar 0) (tC (.int 1))) tNil))))
theorem ws_opposite {K : PySem.W.Frag} (ds : List PyData) (R : Rs → Prop) : phi_opposite ds R → WS K (t_opposite K) (ds.map Ent.val ++ List.replicate (n_opposite.length - ds.length) .unk) { nx := fun _ => R (.v .none), rt := R } := by
  rintro ⟨p, rfl, h⟩
  show WS K (t_opposite K) [.val (qD p)] _
  unfold t_opposite
  walk_at "dl"
  refine ⟨by show 2 ≤ 100000; decide, ?_⟩
  rw [show qD (-p) = .tuple [.int (-p.num), .int (p.den : Int)] by unfold qD; rw [Rat.neg_num, Rat.neg_den]] at h
  exact h
theorem ok_opposite {P : Program} {w : World} {K : PySem.W.Frag} {mg : Str → Option Value} {base : Heap} (D : Def K mg "opposite" s_opposite) : HasG P w K mg base "opposite" 1 ["one"] (SpF K phi_opposite) :=
  hasG_of D (fun _ _ F => F.binds (ps := ["one"]) fun _ _ _ _ _ _ us hl => match us, hl with | [_], _ => rfl) fun _ _ F => okFG (N := n_opposite) (t := t_opposite K) F sc_opposite len_opposite (fun cdv A outer s H E hr hG =>
  (pss_one (ps_ret (pe_tup (pa_cons (pe_un un_neg (pe_ix ix_seq (pv 0) pe_int (fun _ _ => rfl))) (pa_cons (pe_ix ix_seq (pv 0) pe_int (fun _ _ => rfl)) pa_nil)))))) ws_opposite
/-! ## pull_ends -/
def phi_pull_ends (ds : List PyData) (R : Rs → Prop) : Prop := ∃ (p : Pc) (v : Rat), ds = [pcD p, qD v] ∧ Rsz qB p.1 ∧ Rsz qB v ∧ R (.v (.tuple [qD (peLo p v), qD (peHi p v)]))
theorem len_pull_ends : ∀ ds R, phi_pull_ends ds R → ds.length = 2 := fun ds R ⟨_, _, h, _⟩ => by rw [h]; rfl
abbrev s_pull_ends : Stmt := topS 23
abbrev n_pull_ends : List Str := ["item", "x", "value", "up", "down"]
theorem sc_pull_ends : FnScope n_pull_ends ["item", "x"] (defScope s_pull_ends) := ⟨rfl, rfl, rfl, by decide +kernel, rfl, by decide +kernel, by decide +kernel⟩
@[reducible] def t_pull_ends_0 (K : PySem.W.Frag) : TS := (tRet (tTup (tCons (tCall (SpF K phi_opposite) [] E0 (tCons (tVar 4) tNil)) (tCons (tVar 3) tNil))))
@[reducible] def t_pull_ends_1 (K : PySem.W.Frag) : TS := (tSeq (tIfS (tB (tCall (SpF K phi_is_below) [] E0 (tCons (tVar 1) (tCons (tVar 2) tNil)))) (tRet (tTup (tCons (tCall (SpF K phi_opposite) [] E0 (tCons (tVar 4) tNil)) (tCons (tCall (SpF K phi_opposite) [] E0 (tCons (tVar 4) tNil)) tNil)))) tNext)
  (t_pull_ends_0 K))
@[reducible] def t_pull_ends_2 (K : PySem.W.Frag) : TS := (tSeq (tIfS (tB (tCall (SpF K phi_is_below) [] E0 (tCons (tVar 2) (tCons (tVar 1) tNil)))) (tRet (tTup (tCons (tVar 3) (tCons (tVar 3) tNil)))) tNext)
  (t_pull_ends_1 K))
def t_pull_ends (K : PySem.W.Frag) : TS := (tSeq (tAsg (tVar 0) (gTup K 3 (gCons (gName 2) (gCons (gName 3) (gCons (gName 4) gNil)))))
  (t_pull_ends_2 K))
theorem ws_pull_ends {K : PySem.W.Frag} (ds : List PyData) (R : Rs → Prop) : phi_pull_ends ds R → WS K (t_pull_ends K) (ds.map Ent.val ++ List.replicate (n_pull_ends.length - ds.length) .unk) { nx := fun _ => R (.v .none), rt := R } := by
  rintro ⟨p, v, rfl, s1, s2, h⟩
  show WS K (t_pull_ends K) [.val (.tuple [qD p.1, qD p.2.1, qD p.2.2]), .val (qD v), .unk, .unk, .unk] _
  unfold t_pull_ends
  refine ws_seq ?_
  walk_at "we"
  refine ws_seq ?_
  walk_at "we"
  refine ⟨s1, s2, ?_⟩
  walk_at "we"
  refine if_d (fun c => ?_) (fun c => ?_)
  · rw [(pe_above c).1, (pe_above c).2] at h
    walk_at "we"
    exact h
  walk_at "we"
  refine ws_seq ?_
  walk_at "we"
  refine ⟨s2, s1, ?_⟩
  walk_at "we"
  refine if_d (fun c2 => ?_) (fun c2 => ?_)
  · rw [(pe_below c2).1, (pe_below c2).2] at h
    walk_at "we"
    exact h
  · rw [(pe_at c c2).1, (pe_at c c2).2] at h
    walk_at "we"
    exact h
theorem ok_pull_ends {P : Program} {w : World} {K : PySem.W.Frag} {mg : Str → Option Value} {base : Heap} (D : Def K mg "pull_ends" s_pull_ends) (h_is_below : HasG P w K mg base "is_below" 1 ["one", "other"] (SpF K phi_is_below)) (h_opposite : HasG P w K mg base "opposite" 1 ["one"] (SpF K phi_opposite)) : HasG P w K mg base "pull_ends" 2 ["item", "x"] (SpF K phi_pull_ends) :=
  hasG_of D (fun _ _ F => F.binds (ps := ["item", "x"]) fun _ _ _ _ _ _ us hl => match us, hl with | [_, _], _ => rfl) fun _ _ F => okFG (N := n_pull_ends) (t := t_pull_ends K) F sc_pull_ends len_pull_ends (fun cdv A outer s H E hr hG =>
  (pss_cons (ps_asg (pv 0) (pg_tup rfl (pgs_cons (pg_name (i := 2) sc_pull_ends.nd rfl (by first | exact Or.inl rfl | exact Or.inr rfl)) (pgs_cons (pg_name (i := 3) sc_pull_ends.nd rfl (by first | exact Or.inl rfl | exact Or.inr rfl)) (pgs_cons (pg_name (i := 4) sc_pull_ends.nd rfl (by first | exact Or.inl rfl | exact Or.inr rfl)) pgs_nil)))))
  (pss_cons (ps_if (pt_val (pe_callHG h_is_below (hr.mono (by decide)) hG (by rfl) (pa_cons (pv 2) (pa_cons (pv 1) pa_nil)))) (pss_one (ps_ret (pe_tup (pa_cons (pv 3) (pa_cons (pv 3) pa_nil))))) pss_nil)
  (pss_cons (ps_if (pt_val (pe_callHG h_is_below (hr.mono (by decide)) hG (by rfl) (pa_cons (pv 1) (pa_cons (pv 2) pa_nil)))) (pss_one (ps_ret (pe_tup (pa_cons (pe_callHG h_opposite (hr.mono (by decide)) hG (by rfl) (pa_cons (pv 4) pa_nil)) (pa_cons (pe_callHG h_opposite (hr.mono (by decide)) hG (by rfl) (pa_cons (pv 4) pa_nil)) pa_nil))))) pss_nil)
  (pss_one (ps_ret (pe_tup (pa_cons (pe_callHG h_opposite (hr.mono (by decide)) hG (by rfl) (pa_cons (pv 4) pa_nil)) (pa_cons (pv 3) pa_nil))))))))) ws_pull_ends
/-! ## lowest -/
def phi_lowest (ds : List PyData) (R : Rs → Prop) : Prop := ∃ a b : Int, ds = [.int a, .int b] ∧ b ≠ 0 ∧ R (.v (qD (Rat.divInt a b)))
theorem len_lowest : ∀ ds R, phi_lowest ds R → ds.length = 2 := fun ds R ⟨a, b, h, _⟩ => by rw [h]; rfl
abbrev s_lowest : Stmt := topS 8
abbrev n_lowest : List Str := ["top", "bottom", "shared"]
theorem sc_lowest : FnScope n_lowest ["top", "bottom"] (defScope s_lowest) := ⟨rfl, rfl, rfl, by decide +kernel, rfl, by decide +kernel, by decide +kernel⟩
@[reducible] def t_lowest_0 (K : PySem.W.Frag) : TS := (tRet (tTup (tCons (tOp rFdivP (tVar 0) (tVar 2)) (tCons (tOp rFdivP (tVar 1) (tVar 2)) tNil))))
@[reducible] def t_lowest_1 (K : PySem.W.Frag) : TS := (tSeq (tAsg (tCall (SpF K phi_common) [] E0 (tCons (tVar 0) (tCons (tVar 1) tNil))) (gName 2))
  (t_lowest_0 K))
def t_lowest (K : PySem.W.Frag) : TS := (tSeq (tIfS (tTest (tOp rLtI (tVar 1) (tC (.int 0)))) (tPar 0 1 (tCons (tUn rNegI (tVar 0)) (tCons (tUn rNegI (tVar 1)) tNil))) tNext)
  (t_lowest_1 K))
theorem ws_lowest {K : PySem.W.Frag} (ds : List PyData) (R : Rs → Prop) : phi_lowest ds R → WS K (t_lowest K) (ds.map Ent.val ++ List.replicate (n_lowest.length - ds.length) .unk) { nx := fun _ => R (.v .none), rt := R } := by
  rintro ⟨a, b, rfl, hb, h⟩
  show WS K (t_lowest K) [.val (.int a), .val (.int b), .unk] _
  unfold t_lowest
  walk_at "dl"
  refine if_d (fun c => ?_) (fun c => ?_)
  · have hg := gcd_pos_of (a := -a) (b := -b) (by omega)
    walk_at "dl"
    · exact hg
    · exact hg
    · refine ⟨by show 2 ≤ 100000; decide, ?_⟩
      rw [← Rat.neg_divInt_neg, ← qD_low (by omega)] at h
      exact h
  · have hg := gcd_pos_of (a := a) (b := b) hb
    walk_at "dl"
    · exact hg
    · exact hg
    · refine ⟨by show 2 ≤ 100000; decide, ?_⟩
      rw [← qD_low (by omega)] at h
      exact h
theorem ok_lowest {P : Program} {w : World} {K : PySem.W.Frag} {mg : Str → Option Value} {base : Heap} (D : Def K mg "lowest" s_lowest) (h_common : HasG P w K mg base "common" 1 ["one", "other"] (SpF K phi_common)) (hse : base.NoSeer) (htr : P.given.tree = none) : HasG P w K mg base "lowest" 33 ["top", "bottom"] (SpF K phi_lowest) :=
  hasG_of D (fun _ _ F => F.binds (ps := ["top", "bottom"]) fun _ _ _ _ _ _ us hl => match us, hl with | [_, _], _ => rfl) fun _ _ F => okFG (N := n_lowest) (t := t_lowest K) F sc_lowest len_lowest (fun cdv A outer s H E hr hG =>
  (pss_cons (ps_if (pt_cmpR op_lt (pv 1) pe_int (nomark _)) (pss_one (ps_par (i := 0) (j := 1) (by rfl) sc_lowest.nd rfl rfl (by decide) rfl rfl (pa_cons (pe_un un_neg (pv 0)) (pa_cons (pe_un un_neg (pv 1)) pa_nil)) (by rfl))) pss_nil)
  (pss_cons (ps_set (i := 2) sc_lowest.nd rfl (by first | exact Or.inl rfl | exact Or.inr rfl) (pe_callHG h_common (hr.mono (by decide)) hG (by rfl) (pa_cons (pv 0) (pa_cons (pv 1) pa_nil))))
  (pss_one (ps_ret (pe_tup (pa_cons (pe_op (op_fdivP hse htr (hr.mono (by decide)) rfl rfl rfl) (pv 0) (pv 2)) (pa_cons (pe_op (op_fdivP hse htr (hr.mono (by decide)) rfl rfl rfl) (pv 1) (pv 2)) pa_nil)))))))) ws_lowest
/-! ## plus -/
def phi_plus (ds : List PyData) (R : Rs → Prop) : Prop := ∃ p q : Rat, ds = [qD p, qD q] ∧ Rsz qB p ∧ Rsz qB q ∧ R (.v (qD (p + q)))
theorem len_plus : ∀ ds R, phi_plus ds R → ds.length = 2 := fun ds R ⟨a, b, h, _⟩ => by rw [h]; rfl
abbrev s_plus : Stmt := topS 10
abbrev n_plus : List Str := ["one", "other"]
theorem sc_plus : FnScope n_plus ["one", "other"] (defScope s_plus) := ⟨rfl, rfl, rfl, by decide +kernel, rfl, by decide +kernel, by decide +kernel⟩
def t_plus (K : PySem.W.Frag) : TS := (tRet (tCall (SpF K phi_lowest) [] E0 (tCons (tOp (rAddA K) (tOp rMulA (tOp (rIx K) (tVar 0) (tC (.int 0))) (tOp (rIx K) (tVar 1) (tC (.int 1)))) (tOp rMulA (tOp (rIx K) (tVar 1) (tC (.int 0))) (tOp (rIx K) (tVar 0) (tC (.int 1))))) (tCons (tOp rMulA (tOp (rIx K) (tVar 0) (tC (.int 1))) (tOp (rIx K) (tVar 1) (tC (.int 1)))) tNil))))
theorem ws_plus {K : PySem.W.Frag} (ds : List PyData) (R : Rs → Prop) : phi_plus ds R → WS K (t_plus K) (ds.map Ent.val ++ List.replicate (n_plus.length - ds.length) .unk) { nx := fun _ => R (.v .none), rt := R } := by
  rintro ⟨p, q, rfl, h1, h2, h⟩
  show WS K (t_plus K) [.val (qD p), .val (qD q)] _
  unfold t_plus
  have p1 := den_pos' p
  have p2 := den_pos' q
  walk_at "dl"
  · exact mulq h1.1 h2.den (by decide) (by decide)
  · exact mulq h2.1 h1.den (by decide) (by decide)
  · exact mulq h1.den h2.den (by decide) (by decide)
  · refine ⟨Int.ne_of_gt (Int.mul_pos p1 p2), ?_⟩
    rw [add_is]
    exact h
theorem ok_plus {P : Program} {w : World} {K : PySem.W.Frag} {mg : Str → Option Value} {base : Heap} (D : Def K mg "plus" s_plus) (h_lowest : HasG P w K mg base "lowest" 33 ["top", "bottom"] (SpF K phi_lowest)) : HasG P w K mg base "plus" 34 ["one", "other"] (SpF K phi_plus) :=
  hasG_of D (fun _ _ F => F.binds (ps := ["one", "other"]) fun _ _ _ _ _ _ us hl => match us, hl with | [_, _], _ => rfl) fun _ _ F => okFG (N := n_plus) (t := t_plus K) F sc_plus len_plus (fun cdv A outer s H E hr hG =>
  (pss_one (ps_ret (pe_callHG h_lowest (hr.mono (by decide)) hG (by rfl) (pa_cons (pe_op op_addA (pe_op op_mulA (pe_ix ix_seq (pv 0) pe_int (fun _ _ => rfl)) (pe_ix ix_seq (pv 1) pe_int (fun _ _ => rfl))) (pe_op op_mulA (pe_ix ix_seq (pv 1) pe_int (fun _ _ => rfl)) (pe_ix ix_seq (pv 0) pe_int (fun _ _ => rfl)))) (pa_cons (pe_op op_mulA (pe_ix ix_seq (pv 0) pe_int (fun _ _ => rfl)) (pe_ix ix_seq (pv 1) pe_int (fun _ _ => rfl))) pa_nil)))))) ws_plus
/-! ## sums_at -/
def phi_sums_at (ds : List PyData) (R : Rs → Prop) : Prop := ∃ (l : List Pc) (i j : Nat), ∃ x : Rat, ds = [.list (l.map pcD), .int (i : Int), .int (j : Int), qD x] ∧ PcL l ∧ i < j ∧ j ≤ l.length ∧ Rsz qB x ∧ R (.v (.tuple [qD (SLo (strc l i j) x (strc l i j).length), qD (SHi (strc l i j) x (strc l i j).length)]))
theorem len_sums_at : ∀ ds R, phi_sums_at ds R → ds.length = 4 := fun ds R ⟨_, _, _, _, h, _⟩ => by rw [h]; rfl
abbrev s_sums_at : Stmt := topS 24
abbrev n_sums_at : List Str := ["priced", "first", "behind", "x", "lows", "highs", "item", "low", "high"]
theorem sc_sums_at : FnScope n_sums_at ["priced", "first", "behind", "x"] (defScope s_sums_at) := ⟨rfl, rfl, rfl, by decide +kernel, rfl, by decide +kernel, by decide +kernel⟩
@[reducible] def t_sums_at_0 (K : PySem.W.Frag) : TS := (tAsg (tCall (SpF K phi_plus) [] E0 (tCons (tVar 5) (tCons (tVar 8) tNil))) (gName 5))
@[reducible] def t_sums_at_1 (K : PySem.W.Frag) : TS := (tSeq (tAsg (tCall (SpF K phi_plus) [] E0 (tCons (tVar 4) (tCons (tVar 7) tNil))) (gName 4))
  (t_sums_at_0 K))
@[reducible] def t_sums_at_2 (K : PySem.W.Frag) : TS := (tRet (tTup (tCons (tVar 4) (tCons (tVar 5) tNil))))
@[reducible] def t_sums_at_3 (K : PySem.W.Frag) : TS := (tSeq (tFor (iSeq K (tSl (rSlL K) (tVar 0) (tPart (tVar 1)) (tPart (tVar 2)))) (gName 6) (tSeq (tAsg (tCall (SpF K phi_pull_ends) [] E0 (tCons (tVar 6) (tCons (tVar 3) tNil))) (gTup K 2 (gCons (gName 7) (gCons (gName 8) gNil))))
  (t_sums_at_1 K)))
  (t_sums_at_2 K))
def t_sums_at (K : PySem.W.Frag) : TS := (tSeq (tPar 4 5 (tCons (tGl K (qD 0)) (tCons (tGl K (qD 0)) tNil)))
  (t_sums_at_3 K))
theorem ws_sums_at {K : PySem.W.Frag} (ds : List PyData) (R : Rs → Prop) : phi_sums_at ds R → WS K (t_sums_at K) (ds.map Ent.val ++ List.replicate (n_sums_at.length - ds.length) .unk) { nx := fun _ => R (.v .none), rt := R } := by
  rintro ⟨l, i, j, x, rfl, g0, hij, hj, sx, h⟩
  show WS K (t_sums_at K) [.val (.list (l.map pcD)), .val (.int (i : Int)), .val (.int (j : Int)), .val (qD x), .unk, .unk, .unk, .unk, .unk] _
  unfold t_sums_at
  have g := strc_ok g0 hij hj
  have cs : cutD l (some (i : Int)) (some (j : Int)) = strc l i j := cut_mid l (Nat.le_of_lt hij) hj
  generalize strc l i j = s at g cs h
  refine ws_seq ?_
  walk_at "we"
  refine ws_seq ?_
  walk_at "we"
  rw [cutD_map, cs]
  refine ⟨fun k Δ => ∃ e6 e7 e8 : Ent, Δ = [.val (.list (l.map pcD)), .val (.int (i : Int)), .val (.int (j : Int)), .val (qD x), .val (qD (SLo s x k)), .val (qD (SHi s x k)), e6, e7, e8], ⟨.unk, .unk, .unk, rfl⟩, ?_, ?_⟩
  · rintro k d Δ' hd ⟨e6, e7, e8, rfl⟩
    obtain ⟨p, hp, rfl⟩ := get_map hd
    have hk := lt_of_get hp
    have pm := List.mem_of_getElem? hp
    obtain ⟨s1, s2⟩ := g.sums x (k := k) (by omega)
    obtain ⟨z1, z2⟩ := pe_sz (x := x) (g.su pm) (g.sd pm)
    have e1 : SLo s x (k + 1) = SLo s x k + peLo p x := by show SLo s x k + peLo (s.getD k (0, 0, 0)) x = _; rw [getD_of hp]
    have e2 : SHi s x (k + 1) = SHi s x k + peHi p x := by show SHi s x k + peHi (s.getD k (0, 0, 0)) x = _; rw [getD_of hp]
    refine wg_name ?_
    refine ws_seq ?_
    walk_at "we"
    refine ⟨(g.sv pm).mono (by decide), sx, ?_⟩
    walk_at "we"
    refine ws_seq ?_
    walk_at "we"
    refine ⟨s1.mono (by decide), z1.mono (by decide), ?_⟩
    walk_at "we"
    refine ⟨s2.mono (by decide), z2.mono (by decide), ?_⟩
    rw [← e1, ← e2]
    exact ⟨_, _, _, rfl⟩
  · rintro Δ' ⟨e6, e7, e8, rfl⟩
    rw [List.length_map]
    walk_at "we"
    exact h
theorem ok_sums_at {P : Program} {w : World} {K : PySem.W.Frag} {mg : Str → Option Value} {base : Heap} (D : Def K mg "sums_at" s_sums_at) (h_pull_ends : HasG P w K mg base "pull_ends" 2 ["item", "x"] (SpF K phi_pull_ends)) (h_plus : HasG P w K mg base "plus" 34 ["one", "other"] (SpF K phi_plus)) (g_NOUGHT : Gc K mg "NOUGHT" (qD 0)) : HasG P w K mg base "sums_at" 35 ["priced", "first", "behind", "x"] (SpF K phi_sums_at) :=
  hasG_of D (fun _ _ F => F.binds (ps := ["priced", "first", "behind", "x"]) fun _ _ _ _ _ _ us hl => match us, hl with | [_, _, _, _], _ => rfl) fun _ _ F => okFG (N := n_sums_at) (t := t_sums_at K) F sc_sums_at len_sums_at (fun cdv A outer s H E hr hG =>
  (pss_cons (ps_par (i := 4) (j := 5) (by rfl) sc_sums_at.nd rfl rfl (by decide) rfl rfl (pa_cons (pe_const g_NOUGHT (by rfl)) (pa_cons (pe_const g_NOUGHT (by rfl)) pa_nil)) (by rfl))
  (pss_cons (ps_for PassesOwn.never rfl (pi_seq (pe_slice sl_list (pv 0) (po_some (pv 1)) (po_some (pv 2)))) (pg_name (i := 6) sc_sums_at.nd rfl (by first | exact Or.inl rfl | exact Or.inr rfl)) (pss_cons (ps_asg (pe_callHG h_pull_ends (hr.mono (by decide)) hG (by rfl) (pa_cons (pv 6) (pa_cons (pv 3) pa_nil))) (pg_tup rfl (pgs_cons (pg_name (i := 7) sc_sums_at.nd rfl (by first | exact Or.inl rfl | exact Or.inr rfl)) (pgs_cons (pg_name (i := 8) sc_sums_at.nd rfl (by first | exact Or.inl rfl | exact Or.inr rfl)) pgs_nil))))
  (pss_cons (ps_set (i := 4) sc_sums_at.nd rfl (by first | exact Or.inl rfl | exact Or.inr rfl) (pe_callHG h_plus (hr.mono (by decide)) hG (by rfl) (pa_cons (pv 4) (pa_cons (pv 7) pa_nil))))
  (pss_one (ps_set (i := 5) sc_sums_at.nd rfl (by first | exact Or.inl rfl | exact Or.inr rfl) (pe_callHG h_plus (hr.mono (by decide)) hG (by rfl) (pa_cons (pv 5) (pa_cons (pv 8) pa_nil))))))))
  (pss_one (ps_ret (pe_tup (pa_cons (pv 4) (pa_cons (pv 5) pa_nil)))))))) ws_sums_at
/-! ## middle -/
def phi_middle (ds : List PyData) (R : Rs → Prop) : Prop := ∃ (l : List Pc) (i j : Nat), ds = [.list (l.map pcD), .int (i : Int), .int (j : Int)] ∧ PcL l ∧ i < j ∧ j ≤ l.length ∧ ∀ m m' : Rat, Rsz 200 m → Rsz 200 m' → (∀ x, m ≤ x ↔ 0 ≤ SHi (strc l i j) x (strc l i j).length) → (∀ x, x ≤ m' ↔ SLo (strc l i j) x (strc l i j).length ≤ 0) → R (.v (.tuple [qD m, qD m']))
theorem len_middle : ∀ ds R, phi_middle ds R → ds.length = 3 := fun ds R ⟨_, _, _, h, _⟩ => by rw [h]; rfl
abbrev s_middle : Stmt := topS 26
abbrev n_middle : List Str := ["priced", "first", "behind", "values", "lows", "highs", "item", "value"]
theorem sc_middle : FnScope n_middle ["priced", "first", "behind"] (defScope s_middle) := ⟨rfl, rfl, rfl, by decide +kernel, rfl, by decide +kernel, by decide +kernel⟩
@[reducible] def t_middle_0 (K : PySem.W.Frag) : TS := (tRet (tTup (tCons (tCall (SpF K phi_least_of) [] E0 (tCons (tVar 4) tNil)) (tCons (tCall (SpF K phi_greatest_of) [] E0 (tCons (tVar 5) tNil)) tNil))))
@[reducible] def t_middle_1 (K : PySem.W.Frag) : TS := (tSeq (tAsg (tLc (iSeq K (tVar 3)) (gName 7) (tNot (tB (tCall (SpF K phi_is_below) [] E0 (tCons (tGl K (qD 0)) (tCons (tOp (rIx K) (tCall (SpF K phi_sums_at) [] E0 (tCons (tVar 0) (tCons (tVar 1) (tCons (tVar 2) (tCons (tVar 7) tNil))))) (tC (.int 0))) tNil))))) (tVar 7) [7]) (gName 5))
  (t_middle_0 K))
@[reducible] def t_middle_2 (K : PySem.W.Frag) : TS := (tSeq (tAsg (tLc (iSeq K (tVar 3)) (gName 7) (tNot (tB (tCall (SpF K phi_is_below) [] E0 (tCons (tOp (rIx K) (tCall (SpF K phi_sums_at) [] E0 (tCons (tVar 0) (tCons (tVar 1) (tCons (tVar 2) (tCons (tVar 7) tNil))))) (tC (.int 1))) (tCons (tGl K (qD 0)) tNil))))) (tVar 7) [7]) (gName 4))
  (t_middle_1 K))
@[reducible] def t_middle_3 (K : PySem.W.Frag) : TS := (tSeq (tAsg (tLc (iSeq K (tSl (rSlL K) (tVar 0) (tPart (tVar 1)) (tPart (tVar 2)))) (gName 6) tYes (tOp (rIx K) (tVar 6) (tC (.int 0))) [6]) (gName 3))
  (t_middle_2 K))
@[reducible] def t_middle_4 (K : PySem.W.Frag) : TS := (tSeq (tDrop (tCall (SpF K phi_want_stretch) [] E0 (tCons (tCB (DL.rLen K) (tCons (tVar 0) tNil)) (tCons (tVar 1) (tCons (tVar 2) tNil)))))
  (t_middle_3 K))
def t_middle (K : PySem.W.Frag) : TS := (tSeq (tDrop (tCall (SpF K phi_want_priced) [] E0 (tCons (tVar 0) tNil)))
  (t_middle_4 K))
theorem ws_middle {K : PySem.W.Frag} (ds : List PyData) (R : Rs → Prop) : phi_middle ds R → WS K (t_middle K) (ds.map Ent.val ++ List.replicate (n_middle.length - ds.length) .unk) { nx := fun _ => R (.v .none), rt := R } := by
  rintro ⟨l, i, j, rfl, g0, hij, hj, h⟩
  show WS K (t_middle K) [.val (.list (l.map pcD)), .val (.int (i : Int)), .val (.int (j : Int)), .unk, .unk, .unk, .unk, .unk] _
  unfold t_middle
  have g := strc_ok g0 hij hj
  have few := g.few
  have cs : cutD l (some (i : Int)) (some (j : Int)) = strc l i j := cut_mid l (Nat.le_of_lt hij) hj
  refine ws_seq ?_
  walk_at "we"
  refine ⟨g0, ?_⟩
  refine ws_seq ?_
  walk_at "we"
  rw [List.length_map]
  refine ⟨hij, hj, ?_⟩
  refine ws_seq (ws_asg ?_)
  refine we_lcF (strc l i j) pcD (fun q => qD q.1) rfl rfl ?_
  walk_at "we"
  rw [cutD_map, cs]
  refine ⟨rfl, by omega, fun q hq => ?_, ?_⟩
  · walk_at "we"
    show RD K (rIx K) (.tuple [qD q.1, qD q.2.1, qD q.2.2]) (.int 0) _
    walk_at "we"
    rfl
  rw [show ((strc l i j).map fun q => qD q.1) = ((strc l i j).map (·.1)).map qD by rw [List.map_map]; rfl]
  have vsz : ∀ x, x ∈ (strc l i j).map (·.1) → Rsz 200 x := fun x hx => by
    obtain ⟨q, hq, rfl⟩ := List.mem_map.mp hx
    exact g.sv hq
  have zz : Rsz qB (0 : Rat) := (sz_zero 10 (by decide)).mono (by decide)
  refine ws_seq (ws_asg ?_)
  refine we_lcG ((strc l i j).map (·.1)) qD qD (fun x => !decide (SHi (strc l i j) x (strc l i j).length < 0)) rfl rfl ?_
  walk_at "we"
  refine ⟨rfl, by rw [List.length_map]; omega, fun x hx => ?_, ?_⟩
  · obtain ⟨s1, s2⟩ := g.sums x (Nat.le_refl _)
    walk_at "we"
    refine ⟨l, i, j, x, rfl, g0, hij, hj, (vsz x hx).mono (by decide), ?_⟩
    walk_at "we"
    refine ⟨s2.mono (by decide), zz, ?_⟩
    walk_at "we"
    refine if_nd (fun c => ?_) (fun c => ?_)
    · refine ⟨by rw [decide_eq_false c]; rfl, ?_⟩
      walk_at "we"
      rfl
    · rw [decide_eq_true c]; rfl
  refine ws_seq (ws_asg ?_)
  refine we_lcG ((strc l i j).map (·.1)) qD qD (fun x => !decide (0 < SLo (strc l i j) x (strc l i j).length)) rfl rfl ?_
  walk_at "we"
  refine ⟨rfl, by rw [List.length_map]; omega, fun x hx => ?_, ?_⟩
  · obtain ⟨s1, s2⟩ := g.sums x (Nat.le_refl _)
    walk_at "we"
    refine ⟨l, i, j, x, rfl, g0, hij, hj, (vsz x hx).mono (by decide), ?_⟩
    walk_at "we"
    refine ⟨zz, s1.mono (by decide), ?_⟩
    walk_at "we"
    refine if_nd (fun c => ?_) (fun c => ?_)
    · refine ⟨by rw [decide_eq_false c]; rfl, ?_⟩
      walk_at "we"
      rfl
    · rw [decide_eq_true c]; rfl
  walk_at "we"
  have inV : ∀ p, p ∈ strc l i j → p.1 ∈ (strc l i j).map (·.1) := fun p hp => List.mem_map.mpr ⟨p, hp, rfl⟩
  obtain ⟨pm, hpm, _, pml⟩ := val_max (s := strc l i j) (fun _ => True) (by
    cases hs : strc l i j with
    | nil => exact absurd hs g.ne
    | cons p r => exact ⟨p, List.mem_cons_self, trivial⟩)
  obtain ⟨pn, hpn, _, pnl⟩ := val_min (s := strc l i j) (fun _ => True) ⟨pm, hpm, trivial⟩
  have n1 : pm.1 ∈ ((strc l i j).map (·.1)).filter fun x => !decide (SHi (strc l i j) x (strc l i j).length < 0) := List.mem_filter.mpr ⟨inV pm hpm, by
    rw [decide_eq_false (Rat.not_lt.mpr (Rat.le_of_lt (SHi_all_above g.posP g.ne fun p hp => pml p hp trivial)))]; rfl⟩
  have n2 : pn.1 ∈ ((strc l i j).map (·.1)).filter fun x => !decide (0 < SLo (strc l i j) x (strc l i j).length) := List.mem_filter.mpr ⟨inV pn hpn, by
    rw [decide_eq_false (Rat.not_lt.mpr (Rat.le_of_lt (SLo_all_below g.posP g.ne fun p hp => pnl p hp trivial)))]; rfl⟩
  refine ⟨fun e => (by rw [e] at n1; cases n1), fun x hx => (vsz x ((List.mem_filter.mp hx).1)).mono (by decide), fun m mm ml => ?_⟩
  walk_at "we"
  refine ⟨fun e => (by rw [e] at n2; cases n2), fun x hx => (vsz x ((List.mem_filter.mp hx).1)).mono (by decide), fun m' mm' ml' => ?_⟩
  walk_at "we"
  have fm := List.mem_filter.mp mm
  have fm' := List.mem_filter.mp mm'
  refine h m m' (vsz m fm.1) (vsz m' fm'.1) ?_ ?_
  · refine mid_lo g.posP g.ne (Rat.not_lt.mp (by simpa using fm.2)) fun p hp c => ml p.1 (List.mem_filter.mpr ⟨inV p hp, by rw [decide_eq_false (Rat.not_lt.mpr c)]; rfl⟩)
  · refine mid_hi g.posP g.ne (Rat.not_lt.mp (by simpa using fm'.2)) fun p hp c => ml' p.1 (List.mem_filter.mpr ⟨inV p hp, by rw [decide_eq_false (Rat.not_lt.mpr c)]; rfl⟩)
theorem ok_middle {P : Program} {w : World} {K : PySem.W.Frag} {mg : Str → Option Value} {base : Heap} (D : Def K mg "middle" s_middle) (h_want_priced : HasG P w K mg base "want_priced" 6 ["priced"] (SpF K phi_want_priced)) (h_want_stretch : HasG P w K mg base "want_stretch" 2 ["many", "first", "behind"] (SpF K phi_want_stretch)) (h_is_below : HasG P w K mg base "is_below" 1 ["one", "other"] (SpF K phi_is_below)) (h_sums_at : HasG P w K mg base "sums_at" 35 ["priced", "first", "behind", "x"] (SpF K phi_sums_at)) (h_greatest_of : HasG P w K mg base "greatest_of" 2 ["some"] (SpF K phi_greatest_of)) (h_least_of : HasG P w K mg base "least_of" 2 ["some"] (SpF K phi_least_of)) (m_len : mg "len" = none) (g_NOUGHT : Gc K mg "NOUGHT" (qD 0)) : HasG P w K mg base "middle" 36 ["priced", "first", "behind"] (SpF K phi_middle) :=
  hasG_of D (fun _ _ F => F.binds (ps := ["priced", "first", "behind"]) fun _ _ _ _ _ _ us hl => match us, hl with | [_, _, _], _ => rfl) fun _ _ F => okFG (N := n_middle) (t := t_middle K) F sc_middle len_middle (fun cdv A outer s H E hr hG =>
  (pss_cons (ps_expr (pe_callHG h_want_priced (hr.mono (by decide)) hG (by rfl) (pa_cons (pv 0) pa_nil)))
  (pss_cons (ps_expr (pe_callHG h_want_stretch (hr.mono (by decide)) hG (by rfl) (pa_cons (pe_callB DL.c_len (by rfl) m_len (by decide +kernel) (pa_cons (pv 0) pa_nil)) (pa_cons (pv 1) (pa_cons (pv 2) pa_nil)))))
  (pss_cons (ps_setLc (i := 3) (own := [("item", 6)]) (g := (gName 6)) (tt := tYes) (by rfl) sc_middle.nd rfl rfl (sw_true rfl rfl rfl (by decide +kernel)) (pi_seq (pe_slice sl_list (pv 0) (po_some (pv 1)) (po_some (pv 2)))) (blkOk_by (own := [("item", 6)]) (N := n_middle) (sc := defScope s_middle) (by decide +kernel)) (fun _ _ _ _ _ => (pg_name (i := 6) sc_middle.nd rfl (by first | exact Or.inl rfl | exact Or.inr rfl))) (fun _ _ _ _ _ => pts_nil) (fun _ _ _ _ _ => (pe_ix ix_seq (pv 6) pe_int (fun _ _ => rfl))))
  (pss_cons (ps_setLc (i := 4) (own := [("value", 7)]) (g := (gName 7)) (tt := (tNot (tB (tCall (SpF K phi_is_below) [] E0 (tCons (tOp (rIx K) (tCall (SpF K phi_sums_at) [] E0 (tCons (tVar 0) (tCons (tVar 1) (tCons (tVar 2) (tCons (tVar 7) tNil))))) (tC (.int 1))) (tCons (tGl K (qD 0)) tNil)))))) (by rfl) sc_middle.nd rfl rfl (sw_true rfl rfl rfl (by decide +kernel)) (pi_seq (pv 3)) (blkOk_by (own := [("value", 7)]) (N := n_middle) (sc := defScope s_middle) (by decide +kernel)) (fun _ _ _ _ _ => (pg_name (i := 7) sc_middle.nd rfl (by first | exact Or.inl rfl | exact Or.inr rfl))) (fun _ _ _ _ _ => (pts_one (pt_not (pt_val (pe_callHG h_is_below (hr.mono (by decide)) hG (by rfl) (pa_cons (pe_ix ix_seq (pe_callHG h_sums_at (hr.mono (by decide)) hG (by rfl) (pa_cons (pv 0) (pa_cons (pv 1) (pa_cons (pv 2) (pa_cons (pv 7) pa_nil))))) pe_int (fun _ _ => rfl)) (pa_cons (pe_const g_NOUGHT (by rfl)) pa_nil))))))) (fun _ _ _ _ _ => (pv 7)))
  (pss_cons (ps_setLc (i := 5) (own := [("value", 7)]) (g := (gName 7)) (tt := (tNot (tB (tCall (SpF K phi_is_below) [] E0 (tCons (tGl K (qD 0)) (tCons (tOp (rIx K) (tCall (SpF K phi_sums_at) [] E0 (tCons (tVar 0) (tCons (tVar 1) (tCons (tVar 2) (tCons (tVar 7) tNil))))) (tC (.int 0))) tNil)))))) (by rfl) sc_middle.nd rfl rfl (sw_true rfl rfl rfl (by decide +kernel)) (pi_seq (pv 3)) (blkOk_by (own := [("value", 7)]) (N := n_middle) (sc := defScope s_middle) (by decide +kernel)) (fun _ _ _ _ _ => (pg_name (i := 7) sc_middle.nd rfl (by first | exact Or.inl rfl | exact Or.inr rfl))) (fun _ _ _ _ _ => (pts_one (pt_not (pt_val (pe_callHG h_is_below (hr.mono (by decide)) hG (by rfl) (pa_cons (pe_const g_NOUGHT (by rfl)) (pa_cons (pe_ix ix_seq (pe_callHG h_sums_at (hr.mono (by decide)) hG (by rfl) (pa_cons (pv 0) (pa_cons (pv 1) (pa_cons (pv 2) (pa_cons (pv 7) pa_nil))))) pe_int (fun _ _ => rfl)) pa_nil))))))) (fun _ _ _ _ _ => (pv 7)))
  (pss_one (ps_ret (pe_tup (pa_cons (pe_callHG h_least_of (hr.mono (by decide)) hG (by rfl) (pa_cons (pv 4) pa_nil)) (pa_cons (pe_callHG h_greatest_of (hr.mono (by decide)) hG (by rfl) (pa_cons (pv 5) pa_nil)) pa_nil))))))))))) ws_middle
/-! ## _law_below -/
def phi_law_below (ds : List PyData) (R : Rs → Prop) : Prop := ∃ p q : Rat, ds = [qD p, qD q] ∧ Rsz qB p ∧ Rsz qB q ∧ R (.v (.bool (decide (p < q))))
theorem len_law_below : ∀ ds R, phi_law_below ds R → ds.length = 2 := fun ds R ⟨a, b, h, _⟩ => by rw [h]; rfl
abbrev s_law_below : Stmt := topS 33
abbrev n_law_below : List Str := ["_law_one", "_law_other"]
theorem sc_law_below : FnScope n_law_below ["_law_one", "_law_other"] (defScope s_law_below) := ⟨rfl, rfl, rfl, by decide +kernel, rfl, by decide +kernel, by decide +kernel⟩
def t_law_below (K : PySem.W.Frag) : TS := (tRet (tOp rLtI (tOp rMulA (tOp (rIx K) (tVar 0) (tC (.int 0))) (tOp (rIx K) (tVar 1) (tC (.int 1)))) (tOp rMulA (tOp (rIx K) (tVar 1) (tC (.int 0))) (tOp (rIx K) (tVar 0) (tC (.int 1))))))
theorem ws_law_below {K : PySem.W.Frag} (ds : List PyData) (R : Rs → Prop) : phi_law_below ds R → WS K (t_law_below K) (ds.map Ent.val ++ List.replicate (n_law_below.length - ds.length) .unk) { nx := fun _ => R (.v .none), rt := R } := by
  rintro ⟨p, q, rfl, h1, h2, h⟩
  show WS K (t_law_below K) [.val (qD p), .val (qD q)] _
  unfold t_law_below
  walk_at "dl"
  · exact mulq h1.1 h2.den (by decide) (by decide)
  · exact mulq h2.1 h1.den (by decide) (by decide)
  · show R (.v (.bool (decide (p.num * (q.den : Int) < q.num * (p.den : Int)))))
    rw [lt_dec]
    exact h
theorem ok_law_below {P : Program} {w : World} {K : PySem.W.Frag} {mg : Str → Option Value} {base : Heap} (D : Def K mg "_law_below" s_law_below) : HasG P w K mg base "_law_below" 1 ["_law_one", "_law_other"] (SpF K phi_law_below) :=
  hasG_of D (fun _ _ F => F.binds (ps := ["_law_one", "_law_other"]) fun _ _ _ _ _ _ us hl => match us, hl with | [_, _], _ => rfl) fun _ _ F => okFG (N := n_law_below) (t := t_law_below K) F sc_law_below len_law_below (fun cdv A outer s H E hr hG =>
  (pss_one (ps_ret (pe_cmpR op_lt (pe_op op_mulA (pe_ix ix_seq (pv 0) pe_int (fun _ _ => rfl)) (pe_ix ix_seq (pv 1) pe_int (fun _ _ => rfl))) (pe_op op_mulA (pe_ix ix_seq (pv 1) pe_int (fun _ _ => rfl)) (pe_ix ix_seq (pv 0) pe_int (fun _ _ => rfl))) (nomark _))))) ws_law_below
/-! ## _law_in_turn -/
def phi_law_in_turn (ds : List PyData) (R : Rs → Prop) : Prop := ∃ (vs : List Rat), ds = [.list (vs.map qD)] ∧ vs.length ≤ 1000 ∧ (∀ x, x ∈ vs → Rsz qB x) ∧ R (.n ((inOrd vs).map qD))
theorem len_law_in_turn : ∀ ds R, phi_law_in_turn ds R → ds.length = 1 := fun ds R ⟨_, h, _⟩ => by rw [h]; rfl
abbrev s_law_in_turn : Stmt := topS 39
abbrev n_law_in_turn : List Str := ["_law_values", "_law_found", "_law_one", "_law_at", "_law_other"]
theorem sc_law_in_turn : FnScope n_law_in_turn ["_law_values"] (defScope s_law_in_turn) := ⟨rfl, rfl, rfl, by decide +kernel, rfl, by decide +kernel, by decide +kernel⟩
@[reducible] def t_law_in_turn_0 (K : PySem.W.Frag) : TS := (tIfS (tTest (tOp (rNotInA K) (tVar 2) (tVar 1))) (tDrop (tBM K "list" rInsert (tVar 1) (tCons (tVar 3) (tCons (tVar 2) tNil)))) tNext)
@[reducible] def t_law_in_turn_1 (K : PySem.W.Frag) : TS := (tRet (tVar 1))
@[reducible] def t_law_in_turn_2 (K : PySem.W.Frag) : TS := (tSeq (tFor (iSeq K (tVar 0)) (gName 2) (tSeq (tAsg (tCB (DL.rLen K) (tCons (tLc (iSeq K (tVar 1)) (gName 4) (tB (tCall (SpF K phi_law_below) [] E0 (tCons (tVar 4) (tCons (tVar 2) tNil)))) (tVar 4) [4]) tNil)) (gName 3))
  (t_law_in_turn_0 K)))
  (t_law_in_turn_1 K))
def t_law_in_turn (K : PySem.W.Frag) : TS := (tSeq (tAsg (tLst tNil) (gName 1))
  (t_law_in_turn_2 K))
theorem ws_law_in_turn {K : PySem.W.Frag} (ds : List PyData) (R : Rs → Prop) : phi_law_in_turn ds R → WS K (t_law_in_turn K) (ds.map Ent.val ++ List.replicate (n_law_in_turn.length - ds.length) .unk) { nx := fun _ => R (.v .none), rt := R } := by
  rintro ⟨vs, rfl, few, sz, h⟩
  show WS K (t_law_in_turn K) [.val (.list (vs.map qD)), .unk, .unk, .unk, .unk] _
  unfold t_law_in_turn
  refine ws_seq (ws_asgN ?_)
  walk_at "we"
  intro l
  refine ws_seq ?_
  walk_at "we"
  refine ⟨fun i Δ => ∃ (e2 e3 : Ent), Δ = [.val (.list (vs.map qD)), .own l (((vs.take i).foldl inOrd1 []).map qD), e2, e3, .unk], ⟨.unk, .unk, rfl⟩, ?_, ?_⟩
  · rintro i d Δ' hd ⟨e2, e3, rfl⟩
    obtain ⟨v, hv, rfl⟩ := get_map hd
    have sv := sz v (List.mem_of_getElem? hv)
    have len := inOrd_len (vs.take i)
    rw [List.length_take] at len
    have len : ((vs.take i).foldl inOrd1 []).length ≤ vs.length := by show (inOrd (vs.take i)).length ≤ _; omega
    have fm : ∀ x, x ∈ (vs.take i).foldl inOrd1 [] → Rsz qB x := fun x hx => sz x (List.mem_of_mem_take (inOrd_mem (vs := vs.take i) hx))
    generalize hf : (vs.take i).foldl inOrd1 [] = f at len fm ⊢
    have nx : (vs.take (i + 1)).foldl inOrd1 [] = inOrd1 f v := by
      rw [List.take_add_one, hv]
      show List.foldl inOrd1 [] (vs.take i ++ [v]) = _
      rw [List.foldl_append, hf]
      rfl
    refine wg_name ?_
    refine ws_seq (ws_asg ?_)
    refine we_cb (wa_cons (we_lend (i := 1) rfl ?_))
    refine we_lcG f qD qD (fun z => decide (z < v)) rfl rfl ?_
    walk_at "we"
    refine ⟨rfl, by omega, fun z hz => ?_, ?_⟩
    · walk_at "we"
      refine ⟨fm z hz, sv, ?_⟩
      walk_at "we"
      refine if_d (fun c => ?_) (fun c => ?_)
      · refine ⟨decide_eq_true c, ?_⟩
        walk_at "we"
        rfl
      · exact decide_eq_false c
    refine ⟨flat_map fun q => flat_q _, ?_⟩
    walk_at "we"
    have fl := List.length_filter_le (fun z => decide (z < v)) f
    refine rd_notInQ ?_
    walk_at "we"
    refine if_nd (fun c => ?_) (fun c => ?_)
    · refine ws_ins rfl (by rw [List.length_map]; omega) ?_
      walk_at "we"
      rw [List.length_map]
      refine ⟨by rw [List.length_map]; exact fl, ?_⟩
      refine ⟨.val (qD v), .val (.int ((f.filter fun z => decide (z < v)).length : Int)), ?_⟩
      rw [nx, inOrd1, if_neg c, insQ, List.map_append, List.map_append, List.map_take, List.map_drop]
      rfl
    · walk_at "we"
      refine ⟨.val (qD v), .val (.int (((f.filter fun z => decide (z < v)).map qD).length : Int)), ?_⟩
      rw [nx, inOrd1, if_pos c]
      rfl
  · rintro Δ' ⟨e2, e3, rfl⟩
    rw [List.length_map, List.take_length]
    refine ws_retO rfl pots_nil ?_
    exact h
theorem ok_law_in_turn {P : Program} {w : World} {K : PySem.W.Frag} {mg : Str → Option Value} {base : Heap} (D : Def K mg "_law_in_turn" s_law_in_turn) (h_law_below : HasG P w K mg base "_law_below" 1 ["_law_one", "_law_other"] (SpF K phi_law_below)) (m_len : mg "len" = none) : HasG P w K mg base "_law_in_turn" 2 ["_law_values"] (SpF K phi_law_in_turn) :=
  hasG_of D (fun _ _ F => F.binds (ps := ["_law_values"]) fun _ _ _ _ _ _ us hl => match us, hl with | [_], _ => rfl) fun _ _ F => okFG (N := n_law_in_turn) (t := t_law_in_turn K) F sc_law_in_turn len_law_in_turn (fun cdv A outer s H E hr hG =>
  (pss_cons (ps_set (i := 1) sc_law_in_turn.nd rfl (by first | exact Or.inl rfl | exact Or.inr rfl) (pe_lst pa_nil))
  (pss_cons (ps_for PassesOwn.never rfl (pi_seq (pv 0)) (pg_name (i := 2) sc_law_in_turn.nd rfl (by first | exact Or.inl rfl | exact Or.inr rfl)) (pss_cons (ps_set (i := 3) sc_law_in_turn.nd rfl (by first | exact Or.inl rfl | exact Or.inr rfl) (pe_callB DL.c_len (by rfl) m_len (by decide +kernel) (pa_cons (pe_lc (own := [("_law_other", 4)]) (g := (gName 4)) (tt := (tB (tCall (SpF K phi_law_below) [] E0 (tCons (tVar 4) (tCons (tVar 2) tNil))))) (by rfl) sc_law_in_turn.nd (pi_seq (pv 1)) (blkOk_by (own := [("_law_other", 4)]) (N := n_law_in_turn) (sc := defScope s_law_in_turn) (by decide +kernel)) (fun _ _ _ _ _ => (pg_name (i := 4) sc_law_in_turn.nd rfl (by first | exact Or.inl rfl | exact Or.inr rfl))) (fun _ _ _ _ _ => (pts_one (pt_val (pe_callHG h_law_below (hr.mono (by decide)) hG (by rfl) (pa_cons (pv 4) (pa_cons (pv 2) pa_nil)))))) (fun _ _ _ _ _ => (pv 4))) pa_nil)))
  (pss_one (ps_if (pt_cmpR (op_notInA (room65 hr)) (pv 2) (pv 1) (by rfl)) (pss_one (ps_expr (pe_bm PySem.F.plainAttrs_list PySem.F.slot_list_insert PySem.F.type_list_insert mt_insert (pv 1) (pa_cons (pv 3) (pa_cons (pv 2) pa_nil))))) pss_nil))))
  (pss_one (ps_ret (pv 1)))))) ws_law_in_turn
/-! ## _law_plus -/
def phi_law_plus (ds : List PyData) (R : Rs → Prop) : Prop := ∃ p q : Rat, ds = [qD p, qD q] ∧ Rsz qB p ∧ Rsz qB q ∧ R (.v (qD (p + q)))
theorem len_law_plus : ∀ ds R, phi_law_plus ds R → ds.length = 2 := fun ds R ⟨a, b, h, _⟩ => by rw [h]; rfl
abbrev s_law_plus : Stmt := topS 31
abbrev n_law_plus : List Str := ["_law_one", "_law_other"]
theorem sc_law_plus : FnScope n_law_plus ["_law_one", "_law_other"] (defScope s_law_plus) := ⟨rfl, rfl, rfl, by decide +kernel, rfl, by decide +kernel, by decide +kernel⟩
def t_law_plus (K : PySem.W.Frag) : TS := (tRet (tCall (SpF K phi_law_low) [] E0 (tCons (tOp (rAddA K) (tOp rMulA (tOp (rIx K) (tVar 0) (tC (.int 0))) (tOp (rIx K) (tVar 1) (tC (.int 1)))) (tOp rMulA (tOp (rIx K) (tVar 1) (tC (.int 0))) (tOp (rIx K) (tVar 0) (tC (.int 1))))) (tCons (tOp rMulA (tOp (rIx K) (tVar 0) (tC (.int 1))) (tOp (rIx K) (tVar 1) (tC (.int 1)))) tNil))))
theorem ws_law_plus {K : PySem.W.Frag} (ds : List PyData) (R : Rs → Prop) : phi_law_plus ds R → WS K (t_law_plus K) (ds.map Ent.val ++ List.replicate (n_law_plus.length - ds.length) .unk) { nx := fun _ => R (.v .none), rt := R } := by
  rintro ⟨p, q, rfl, h1, h2, h⟩
  show WS K (t_law_plus K) [.val (qD p), .val (qD q)] _
  unfold t_law_plus
  have p1 := den_pos' p
  have p2 := den_pos' q
  walk_at "dl"
  · exact mulq h1.1 h2.den (by decide) (by decide)
  · exact mulq h2.1 h1.den (by decide) (by decide)
  · exact mulq h1.den h2.den (by decide) (by decide)
  · refine ⟨Int.mul_pos p1 p2, ?_⟩
    rw [add_is]
    exact h
theorem ok_law_plus {P : Program} {w : World} {K : PySem.W.Frag} {mg : Str → Option Value} {base : Heap} (D : Def K mg "_law_plus" s_law_plus) (h_law_low : HasG P w K mg base "_law_low" 33 ["_law_top", "_law_bottom"] (SpF K phi_law_low)) : HasG P w K mg base "_law_plus" 34 ["_law_one", "_law_other"] (SpF K phi_law_plus) :=
  hasG_of D (fun _ _ F => F.binds (ps := ["_law_one", "_law_other"]) fun _ _ _ _ _ _ us hl => match us, hl with | [_, _], _ => rfl) fun _ _ F => okFG (N := n_law_plus) (t := t_law_plus K) F sc_law_plus len_law_plus (fun cdv A outer s H E hr hG =>
  (pss_one (ps_ret (pe_callHG h_law_low (hr.mono (by decide)) hG (by rfl) (pa_cons (pe_op op_addA (pe_op op_mulA (pe_ix ix_seq (pv 0) pe_int (fun _ _ => rfl)) (pe_ix ix_seq (pv 1) pe_int (fun _ _ => rfl))) (pe_op op_mulA (pe_ix ix_seq (pv 1) pe_int (fun _ _ => rfl)) (pe_ix ix_seq (pv 0) pe_int (fun _ _ => rfl)))) (pa_cons (pe_op op_mulA (pe_ix ix_seq (pv 0) pe_int (fun _ _ => rfl)) (pe_ix ix_seq (pv 1) pe_int (fun _ _ => rfl))) pa_nil)))))) ws_law_plus
/-! ## _law_spots -/
def phi_law_spots (ds : List PyData) (R : Rs → Prop) : Prop := ∃ (s : List Pc), ds = [.list (s.map pcD)] ∧ PcL s ∧ ∀ xs : List Rat, xs.length ≤ 200 → (∀ x, x ∈ xs → Rsz 500 x) → R (.n (xs.map qD))
theorem len_law_spots : ∀ ds R, phi_law_spots ds R → ds.length = 1 := fun ds R ⟨_, h, _⟩ => by rw [h]; rfl
theorem half_sz {x : Rat} (h : Rsz 401 x) : Rsz 500 (Rat.divInt x.num (2 * (x.den : Int))) := by
  have := x.den_pos
  have e : 2 * 2 ^ 401 < 2 ^ 500 := by decide +kernel
  exact sz_low (by omega) (Nat.lt_of_lt_of_le h.1 (Nat.pow_le_pow_right (by decide) (by decide))) (by have := h.2; omega)
abbrev s_law_spots : Stmt := topS 41
abbrev n_law_spots : List Str := ["_law_items_here", "_law_values", "_law_found", "_law_one", "_law_later", "_law_whole", "_law_item"]
theorem sc_law_spots : FnScope n_law_spots ["_law_items_here"] (defScope s_law_spots) := ⟨rfl, rfl, rfl, by decide +kernel, rfl, by decide +kernel, by decide +kernel⟩
@[reducible] def t_law_spots_0 (K : PySem.W.Frag) : TS := (tDrop (tBM K "list" rAppend (tVar 2) (tCons (tCall (SpF K phi_law_low) [] E0 (tCons (tOp (rIx K) (tVar 5) (tC (.int 0))) (tCons (tOp rMulA (tC (.int 2)) (tOp (rIx K) (tVar 5) (tC (.int 1)))) tNil))) tNil)))
@[reducible] def t_law_spots_1 (K : PySem.W.Frag) : TS := (tRet (tVar 2))
@[reducible] def t_law_spots_2 (K : PySem.W.Frag) : TS := (tSeq (tFor (iZip K (tCons (tVar 1) (tCons (tSl (rSlL K) (tVar 1) (tPart (tC (.int 1))) tNoPart) tNil))) (gTup K 2 (gCons (gName 3) (gCons (gName 4) gNil))) (tSeq (tAsg (tCall (SpF K phi_law_plus) [] E0 (tCons (tVar 3) (tCons (tVar 4) tNil))) (gName 5))
  (t_law_spots_0 K)))
  (t_law_spots_1 K))
@[reducible] def t_law_spots_3 (K : PySem.W.Frag) : TS := (tSeq (tAsg (tOp (rAddA K) (tLst (tCons (tCall (SpF K phi_law_plus) [] E0 (tCons (tOp (rIx K) (tVar 1) (tC (.int 0))) (tCons (tTup (tCons (tUn rNegI (tC (.int 1))) (tCons (tC (.int 1)) tNil))) tNil))) (tCons (tCall (SpF K phi_law_plus) [] E0 (tCons (tOp (rIx K) (tVar 1) (tUn rNegI (tC (.int 1)))) (tCons (tTup (tCons (tC (.int 1)) (tCons (tC (.int 1)) tNil))) tNil))) tNil))) (tVar 1)) (gName 2))
  (t_law_spots_2 K))
def t_law_spots (K : PySem.W.Frag) : TS := (tSeq (tAsg (tCall (SpF K phi_law_in_turn) [] E0 (tCons (tLc (iSeq K (tVar 0)) (gName 6) tYes (tOp (rIx K) (tVar 6) (tC (.int 0))) [6]) tNil)) (gName 1))
  (t_law_spots_3 K))
theorem ws_law_spots {K : PySem.W.Frag} (ds : List PyData) (R : Rs → Prop) : phi_law_spots ds R → WS K (t_law_spots K) (ds.map Ent.val ++ List.replicate (n_law_spots.length - ds.length) .unk) { nx := fun _ => R (.v .none), rt := R } := by
  rintro ⟨s, rfl, g, h⟩
  show WS K (t_law_spots K) [.val (.list (s.map pcD)), .unk, .unk, .unk, .unk, .unk, .unk] _
  unfold t_law_spots
  have few := g.few
  have vpos := inOrd_pos (vs := s.map (·.1)) (by intro e; exact g.ne (List.map_eq_nil_iff.mp e))
  have vlen := inOrd_len (s.map (·.1))
  rw [List.length_map] at vlen
  have vsz : ∀ x, x ∈ inOrd (s.map (·.1)) → Rsz 200 x := fun x hx => by
    obtain ⟨p, hp, rfl⟩ := List.mem_map.mp (inOrd_mem hx)
    exact g.sv hp
  have o1 : Rsz 10 (((1 : Int)) : Rat) := ⟨by decide +kernel, by decide +kernel⟩
  have o2 : Rsz 10 (((-1 : Int)) : Rat) := ⟨by decide +kernel, by decide +kernel⟩
  refine ws_seq ?_
  walk_at "we"
  refine we_lcF s pcD (fun q => qD q.1) rfl rfl ?_
  walk_at "we"
  refine ⟨rfl, by omega, fun q hq => ?_, ?_⟩
  · walk_at "we"
    show RD K (rIx K) (.tuple [qD q.1, qD q.2.1, qD q.2.2]) (.int 0) _
    walk_at "we"
    rfl
  rw [show (s.map fun q => qD q.1) = (s.map (·.1)).map qD by rw [List.map_map]; rfl]
  walk_at "we"
  refine ⟨by rw [List.length_map]; omega, fun x hx => ?_, ?_⟩
  · obtain ⟨q, hq, rfl⟩ := List.mem_map.mp hx
    exact (g.sv hq).mono (by decide)
  generalize inOrd (s.map (·.1)) = V at vpos vlen vsz
  have s0 := vsz _ (rAt_mem' (show 0 < V.length by omega))
  have s9 := vsz _ (rAt_mem' (show V.length - 1 < V.length by omega))
  have atl : atI (V.map qD) (-1) = some (qD (rAt V (V.length - 1))) := at_lastq vpos
  refine ws_seq (ws_asgN ?_)
  walk_at "we"
  refine rd_ixAL (at_qr (k := 0) vpos) ?_
  walk_at "we"
  refine ⟨rAt V 0, ((-1 : Int) : Rat), rfl, s0.mono (by decide), o2.mono (by decide), ?_⟩
  walk_at "we"
  refine rd_ixAL atl ?_
  walk_at "we"
  refine ⟨rAt V (V.length - 1), ((1 : Int) : Rat), rfl, s9.mono (by decide), o1.mono (by decide), ?_⟩
  walk_at "we"
  refine rd_addL (by rw [List.length_map]; show 2 + _ ≤ _; omega) ?_
  refine ⟨_, rfl, fun l0 => ?_⟩
  refine ws_seq ?_
  walk_at "we"
  rw [cutD_map, show cutD V (some 1) none = V.drop 1 from cut_from V 1, zip2_map]
  refine ⟨fun k Δ => ∃ (xs : List Rat) (e3 e4 e5 : Ent), Δ = [.val (.list (s.map pcD)), .val (.list (V.map qD)), .own l0 (xs.map qD), e3, e4, e5, .unk] ∧ xs.length = 2 + V.length + k ∧ ∀ x, x ∈ xs → Rsz 500 x, ⟨[rAt V 0 + ((-1 : Int) : Rat), rAt V (V.length - 1) + ((1 : Int) : Rat)] ++ V, .unk, .unk, .unk, ?_, by rw [List.length_append]; rfl, fun x hx => ?_⟩, ?_, ?_⟩
  · rw [List.map_append]
    rfl
  · rcases List.mem_append.mp hx with hx | hx
    · simp only [List.mem_cons, List.not_mem_nil, or_false] at hx
      rcases hx with rfl | rfl
      · exact (s0.add o2).mono (by decide)
      · exact (s9.add o1).mono (by decide)
    · exact (vsz x hx).mono (by decide)
  · rintro k d Δ' hd ⟨xs, e3, e4, e5, rfl, xl, xz⟩
    obtain ⟨q, hq, rfl⟩ := get_map hd
    have hk := lt_of_get hq
    rw [List.length_zip] at hk
    obtain ⟨q1, q2⟩ := List.getElem?_zip_eq_some.mp hq
    have z1 := vsz _ (List.mem_of_getElem? q1)
    have z2 := vsz _ (List.mem_of_mem_drop (List.mem_of_getElem? q2))
    have zs : Rsz 401 (q.1 + q.2) := z1.add z2
    refine wg_tup rfl (wgs_cons (wg_name (wgs_cons (wg_name (wgs_nil ?_)))))
    refine ws_seq ?_
    walk_at "we"
    refine ⟨z1.mono (by decide), z2.mono (by decide), ?_⟩
    refine ws_app rfl (by rw [List.length_map]; omega) ?_
    walk_at "we"
    · exact mulq (n := 10) (m := 401) (by decide) zs.den (by decide) (by decide)
    have := (q.1 + q.2).den_pos
    refine ⟨by omega, ?_⟩
    refine ⟨xs ++ [Rat.divInt (q.1 + q.2).num (2 * ((q.1 + q.2).den : Int))], .val (qD q.1), .val (qD q.2), .val (qD (q.1 + q.2)), ?_, by rw [List.length_append, xl]; rfl, fun x hx => ?_⟩
    · rw [List.map_append]
      rfl
    · rcases List.mem_append.mp hx with hx | hx
      · exact xz x hx
      · rw [List.mem_singleton.mp hx]
        exact half_sz zs
  · rintro Δ' ⟨xs, e3, e4, e5, rfl, xl, xz⟩
    rw [List.length_map, List.length_zip] at xl
    refine ws_retO rfl pots_nil ?_
    exact h xs (by omega) xz
theorem ok_law_spots {P : Program} {w : World} {K : PySem.W.Frag} {mg : Str → Option Value} {base : Heap} (D : Def K mg "_law_spots" s_law_spots) (h_law_in_turn : HasG P w K mg base "_law_in_turn" 2 ["_law_values"] (SpF K phi_law_in_turn)) (h_law_plus : HasG P w K mg base "_law_plus" 34 ["_law_one", "_law_other"] (SpF K phi_law_plus)) (h_law_low : HasG P w K mg base "_law_low" 33 ["_law_top", "_law_bottom"] (SpF K phi_law_low)) (m_zip : mg "zip" = none) : HasG P w K mg base "_law_spots" 35 ["_law_items_here"] (SpF K phi_law_spots) :=
  hasG_of D (fun _ _ F => F.binds (ps := ["_law_items_here"]) fun _ _ _ _ _ _ us hl => match us, hl with | [_], _ => rfl) fun _ _ F => okFG (N := n_law_spots) (t := t_law_spots K) F sc_law_spots len_law_spots (fun cdv A outer s H E hr hG =>
  (pss_cons (ps_set (i := 1) sc_law_spots.nd rfl (by first | exact Or.inl rfl | exact Or.inr rfl) (pe_callHG h_law_in_turn (hr.mono (by decide)) hG (by rfl) (pa_cons (pe_lc (own := [("_law_item", 6)]) (g := (gName 6)) (tt := tYes) (by rfl) sc_law_spots.nd (pi_seq (pv 0)) (blkOk_by (own := [("_law_item", 6)]) (N := n_law_spots) (sc := defScope s_law_spots) (by decide +kernel)) (fun _ _ _ _ _ => (pg_name (i := 6) sc_law_spots.nd rfl (by first | exact Or.inl rfl | exact Or.inr rfl))) (fun _ _ _ _ _ => pts_nil) (fun _ _ _ _ _ => (pe_ix ix_seq (pv 6) pe_int (fun _ _ => rfl)))) pa_nil)))
  (pss_cons (ps_set (i := 2) sc_law_spots.nd rfl (by first | exact Or.inl rfl | exact Or.inr rfl) (pe_op op_addA (pe_lst (pa_cons (pe_callHG h_law_plus (hr.mono (by decide)) hG (by rfl) (pa_cons (pe_ix ix_seq (pv 1) pe_int (fun _ _ => rfl)) (pa_cons (pe_tup (pa_cons (pe_un un_neg pe_int) (pa_cons pe_int pa_nil))) pa_nil))) (pa_cons (pe_callHG h_law_plus (hr.mono (by decide)) hG (by rfl) (pa_cons (pe_ix ix_seq (pv 1) (pe_un un_neg pe_int) (fun _ _ => rfl)) (pa_cons (pe_tup (pa_cons pe_int (pa_cons pe_int pa_nil))) pa_nil))) pa_nil))) (pv 1)))
  (pss_cons (ps_for PassesOwn.never rfl (pi_zip (by rfl) m_zip (pa_cons (pv 1) (pa_cons (pe_slice sl_list (pv 1) (po_some pe_int) po_none) pa_nil))) (pg_tup rfl (pgs_cons (pg_name (i := 3) sc_law_spots.nd rfl (by first | exact Or.inl rfl | exact Or.inr rfl)) (pgs_cons (pg_name (i := 4) sc_law_spots.nd rfl (by first | exact Or.inl rfl | exact Or.inr rfl)) pgs_nil))) (pss_cons (ps_set (i := 5) sc_law_spots.nd rfl (by first | exact Or.inl rfl | exact Or.inr rfl) (pe_callHG h_law_plus (hr.mono (by decide)) hG (by rfl) (pa_cons (pv 3) (pa_cons (pv 4) pa_nil))))
  (pss_one (ps_expr (pe_bm PySem.F.plainAttrs_list PySem.F.slot_list_append PySem.F.type_list_append mt_append (pv 2) (pa_cons (pe_callHG h_law_low (hr.mono (by decide)) hG (by rfl) (pa_cons (pe_ix ix_seq (pv 5) pe_int (fun _ _ => rfl)) (pa_cons (pe_op op_mulA pe_int (pe_ix ix_seq (pv 5) pe_int (fun _ _ => rfl))) pa_nil))) pa_nil))))))
  (pss_one (ps_ret (pv 2))))))) ws_law_spots
/-! ## heap_pulls -/
def phi_heap_pulls (ds : List PyData) (R : Rs → Prop) : Prop := ∃ (l : List Pc) (i j : Nat), ∃ x : Rat, ds = [.list (l.map pcD), .int (i : Int), .int (j : Int), qD x] ∧ PcL l ∧ i < j ∧ j ≤ l.length ∧ Rsz qB x ∧ R (.v (.tuple [qD (SLo (strc l i j) x (strc l i j).length), qD (SHi (strc l i j) x (strc l i j).length)]))
theorem len_heap_pulls : ∀ ds R, phi_heap_pulls ds R → ds.length = 4 := fun ds R ⟨_, _, _, _, h, _⟩ => by rw [h]; rfl
abbrev s_heap_pulls : Stmt := topS 25
abbrev n_heap_pulls : List Str := ["priced", "first", "behind", "x"]
theorem sc_heap_pulls : FnScope n_heap_pulls ["priced", "first", "behind", "x"] (defScope s_heap_pulls) := ⟨rfl, rfl, rfl, by decide +kernel, rfl, by decide +kernel, by decide +kernel⟩
@[reducible] def t_heap_pulls_0 (K : PySem.W.Frag) : TS := (tRet (tCall (SpF K phi_sums_at) [] E0 (tCons (tVar 0) (tCons (tVar 1) (tCons (tVar 2) (tCons (tVar 3) tNil))))))
@[reducible] def t_heap_pulls_1 (K : PySem.W.Frag) : TS := (tSeq (tDrop (tCall (SpF K phi_want_stretch) [] E0 (tCons (tCB (DL.rLen K) (tCons (tVar 0) tNil)) (tCons (tVar 1) (tCons (tVar 2) tNil)))))
  (t_heap_pulls_0 K))
def t_heap_pulls (K : PySem.W.Frag) : TS := (tSeq (tDrop (tCall (SpF K phi_want_priced) [] E0 (tCons (tVar 0) tNil)))
  (t_heap_pulls_1 K))
theorem ws_heap_pulls {K : PySem.W.Frag} (ds : List PyData) (R : Rs → Prop) : phi_heap_pulls ds R → WS K (t_heap_pulls K) (ds.map Ent.val ++ List.replicate (n_heap_pulls.length - ds.length) .unk) { nx := fun _ => R (.v .none), rt := R } := by
  rintro ⟨l, i, j, x, rfl, g, hij, hj, sx, h⟩
  show WS K (t_heap_pulls K) [.val (.list (l.map pcD)), .val (.int (i : Int)), .val (.int (j : Int)), .val (qD x)] _
  unfold t_heap_pulls
  refine ws_seq ?_
  walk_at "we"
  refine ⟨g, ?_⟩
  refine ws_seq ?_
  walk_at "we"
  rw [List.length_map]
  refine ⟨hij, hj, ?_⟩
  walk_at "we"
  exact ⟨l, i, j, x, rfl, g, hij, hj, sx, h⟩
theorem ok_heap_pulls {P : Program} {w : World} {K : PySem.W.Frag} {mg : Str → Option Value} {base : Heap} (D : Def K mg "heap_pulls" s_heap_pulls) (h_want_priced : HasG P w K mg base "want_priced" 6 ["priced"] (SpF K phi_want_priced)) (h_want_stretch : HasG P w K mg base "want_stretch" 2 ["many", "first", "behind"] (SpF K phi_want_stretch)) (h_sums_at : HasG P w K mg base "sums_at" 35 ["priced", "first", "behind", "x"] (SpF K phi_sums_at)) (m_len : mg "len" = none) : HasG P w K mg base "heap_pulls" 36 ["priced", "first", "behind", "x"] (SpF K phi_heap_pulls) :=
  hasG_of D (fun _ _ F => F.binds (ps := ["priced", "first", "behind", "x"]) fun _ _ _ _ _ _ us hl => match us, hl with | [_, _, _, _], _ => rfl) fun _ _ F => okFG (N := n_heap_pulls) (t := t_heap_pulls K) F sc_heap_pulls len_heap_pulls (fun cdv A outer s H E hr hG =>
  (pss_cons (ps_expr (pe_callHG h_want_priced (hr.mono (by decide)) hG (by rfl) (pa_cons (pv 0) pa_nil)))
  (pss_cons (ps_expr (pe_callHG h_want_stretch (hr.mono (by decide)) hG (by rfl) (pa_cons (pe_callB DL.c_len (by rfl) m_len (by decide +kernel) (pa_cons (pv 0) pa_nil)) (pa_cons (pv 1) (pa_cons (pv 2) pa_nil)))))
  (pss_one (ps_ret (pe_callHG h_sums_at (hr.mono (by decide)) hG (by rfl) (pa_cons (pv 0) (pa_cons (pv 1) (pa_cons (pv 2) (pa_cons (pv 3) pa_nil)))))))))) ws_heap_pulls
/-! ## _law_opposite -/
def phi_law_opposite (ds : List PyData) (R : Rs → Prop) : Prop := ∃ p : Rat, ds = [qD p] ∧ R (.v (qD (-p)))
theorem len_law_opposite : ∀ ds R, phi_law_opposite ds R → ds.length = 1 := fun ds R ⟨a, h, _⟩ => by rw [h]; rfl
abbrev s_law_opposite : Stmt := topS 32
abbrev n_law_opposite : List Str := ["_law_one"]
theorem sc_law_opposite : FnScope n_law_opposite ["_law_one"] (defScope s_law_opposite) := ⟨rfl, rfl, rfl, by decide +kernel, rfl, by decide +kernel, by decide +kernel⟩
def t_law_opposite (K : PySem.W.Frag) : TS := (tRet (tTup (tCons (tUn rNegI (tOp (rIx K) (tVar 0) (tC (.int 0)))) (tCons (tOp (rIx K) (tVar 0) (tC (.int 1))) tNil))))
theorem ws_law_opposite {K : PySem.W.Frag} (ds : List PyData) (R : Rs → Prop) : phi_law_opposite ds R → WS K (t_law_opposite K) (ds.map Ent.val ++ List.replicate (n_law_opposite.length - ds.length) .unk) { nx := fun _ => R (.v .none), rt := R } := by
  rintro ⟨p, rfl, h⟩
  show WS K (t_law_opposite K) [.val (qD p)] _
  unfold t_law_opposite
  walk_at "dl"
  refine ⟨by show 2 ≤ 100000; decide, ?_⟩
  rw [← qD_neg] at h
  exact h
theorem ok_law_opposite {P : Program} {w : World} {K : PySem.W.Frag} {mg : Str → Option Value} {base : Heap} (D : Def K mg "_law_opposite" s_law_opposite) : HasG P w K mg base "_law_opposite" 1 ["_law_one"] (SpF K phi_law_opposite) :=
  hasG_of D (fun _ _ F => F.binds (ps := ["_law_one"]) fun _ _ _ _ _ _ us hl => match us, hl with | [_], _ => rfl) fun _ _ F => okFG (N := n_law_opposite) (t := t_law_opposite K) F sc_law_opposite len_law_opposite (fun cdv A outer s H E hr hG =>
  (pss_one (ps_ret (pe_tup (pa_cons (pe_un un_neg (pe_ix ix_seq (pv 0) pe_int (fun _ _ => rfl))) (pa_cons (pe_ix ix_seq (pv 0) pe_int (fun _ _ => rfl)) pa_nil)))))) ws_law_opposite
/-! ## _law_pull -/
def phi_law_pull (ds : List PyData) (R : Rs → Prop) : Prop := ∃ (p : Pc) (v : Rat), ds = [pcD p, qD v] ∧ Rsz qB p.1 ∧ Rsz qB v ∧ R (.v (.tuple [qD (peLo p v), qD (peHi p v)]))
theorem len_law_pull : ∀ ds R, phi_law_pull ds R → ds.length = 2 := fun ds R ⟨_, _, h, _⟩ => by rw [h]; rfl
theorem lpe_above {p : Pc} {v : Rat} (c : p.1 < v) : peLo p v = p.2.1 ∧ peHi p v = p.2.1 := by
  unfold peLo peHi
  rw [if_pos c, if_neg (Rat.not_lt.mpr (Rat.le_of_lt c))]
  exact ⟨rfl, rfl⟩
theorem lpe_below {p : Pc} {v : Rat} (c : v < p.1) : peLo p v = -p.2.2 ∧ peHi p v = -p.2.2 := by
  unfold peLo peHi
  rw [if_pos c, if_neg (Rat.not_lt.mpr (Rat.le_of_lt c))]
  exact ⟨rfl, rfl⟩
theorem lpe_at {p : Pc} {v : Rat} (c : ¬ p.1 < v) (c2 : ¬ v < p.1) : peLo p v = -p.2.2 ∧ peHi p v = p.2.1 := by
  unfold peLo peHi
  rw [if_neg c, if_neg c2]
  exact ⟨rfl, rfl⟩
abbrev s_law_pull : Stmt := topS 37
abbrev n_law_pull : List Str := ["_law_item", "_law_x", "_law_value_here", "_law_up", "_law_down"]
theorem sc_law_pull : FnScope n_law_pull ["_law_item", "_law_x"] (defScope s_law_pull) := ⟨rfl, rfl, rfl, by decide +kernel, rfl, by decide +kernel, by decide +kernel⟩
@[reducible] def t_law_pull_0 (K : PySem.W.Frag) : TS := (tRet (tTup (tCons (tCall (SpF K phi_law_opposite) [] E0 (tCons (tVar 4) tNil)) (tCons (tVar 3) tNil))))
@[reducible] def t_law_pull_1 (K : PySem.W.Frag) : TS := (tSeq (tIfS (tB (tCall (SpF K phi_law_below) [] E0 (tCons (tVar 1) (tCons (tVar 2) tNil)))) (tRet (tTup (tCons (tCall (SpF K phi_law_opposite) [] E0 (tCons (tVar 4) tNil)) (tCons (tCall (SpF K phi_law_opposite) [] E0 (tCons (tVar 4) tNil)) tNil)))) tNext)
  (t_law_pull_0 K))
@[reducible] def t_law_pull_2 (K : PySem.W.Frag) : TS := (tSeq (tIfS (tB (tCall (SpF K phi_law_below) [] E0 (tCons (tVar 2) (tCons (tVar 1) tNil)))) (tRet (tTup (tCons (tVar 3) (tCons (tVar 3) tNil)))) tNext)
  (t_law_pull_1 K))
def t_law_pull (K : PySem.W.Frag) : TS := (tSeq (tAsg (tVar 0) (gTup K 3 (gCons (gName 2) (gCons (gName 3) (gCons (gName 4) gNil)))))
  (t_law_pull_2 K))
theorem ws_law_pull {K : PySem.W.Frag} (ds : List PyData) (R : Rs → Prop) : phi_law_pull ds R → WS K (t_law_pull K) (ds.map Ent.val ++ List.replicate (n_law_pull.length - ds.length) .unk) { nx := fun _ => R (.v .none), rt := R } := by
  rintro ⟨p, v, rfl, s1, s2, h⟩
  show WS K (t_law_pull K) [.val (.tuple [qD p.1, qD p.2.1, qD p.2.2]), .val (qD v), .unk, .unk, .unk] _
  unfold t_law_pull
  refine ws_seq ?_
  walk_at "we"
  refine ws_seq ?_
  walk_at "we"
  refine ⟨s1, s2, ?_⟩
  walk_at "we"
  refine if_d (fun c => ?_) (fun c => ?_)
  · rw [(lpe_above c).1, (lpe_above c).2] at h
    walk_at "we"
    exact h
  walk_at "we"
  refine ws_seq ?_
  walk_at "we"
  refine ⟨s2, s1, ?_⟩
  walk_at "we"
  refine if_d (fun c2 => ?_) (fun c2 => ?_)
  · rw [(lpe_below c2).1, (lpe_below c2).2] at h
    walk_at "we"
    exact h
  · rw [(lpe_at c c2).1, (lpe_at c c2).2] at h
    walk_at "we"
    exact h
theorem ok_law_pull {P : Program} {w : World} {K : PySem.W.Frag} {mg : Str → Option Value} {base : Heap} (D : Def K mg "_law_pull" s_law_pull) (h_law_below : HasG P w K mg base "_law_below" 1 ["_law_one", "_law_other"] (SpF K phi_law_below)) (h_law_opposite : HasG P w K mg base "_law_opposite" 1 ["_law_one"] (SpF K phi_law_opposite)) : HasG P w K mg base "_law_pull" 2 ["_law_item", "_law_x"] (SpF K phi_law_pull) :=
  hasG_of D (fun _ _ F => F.binds (ps := ["_law_item", "_law_x"]) fun _ _ _ _ _ _ us hl => match us, hl with | [_, _], _ => rfl) fun _ _ F => okFG (N := n_law_pull) (t := t_law_pull K) F sc_law_pull len_law_pull (fun cdv A outer s H E hr hG =>
  (pss_cons (ps_asg (pv 0) (pg_tup rfl (pgs_cons (pg_name (i := 2) sc_law_pull.nd rfl (by first | exact Or.inl rfl | exact Or.inr rfl)) (pgs_cons (pg_name (i := 3) sc_law_pull.nd rfl (by first | exact Or.inl rfl | exact Or.inr rfl)) (pgs_cons (pg_name (i := 4) sc_law_pull.nd rfl (by first | exact Or.inl rfl | exact Or.inr rfl)) pgs_nil)))))
  (pss_cons (ps_if (pt_val (pe_callHG h_law_below (hr.mono (by decide)) hG (by rfl) (pa_cons (pv 2) (pa_cons (pv 1) pa_nil)))) (pss_one (ps_ret (pe_tup (pa_cons (pv 3) (pa_cons (pv 3) pa_nil))))) pss_nil)
  (pss_cons (ps_if (pt_val (pe_callHG h_law_below (hr.mono (by decide)) hG (by rfl) (pa_cons (pv 1) (pa_cons (pv 2) pa_nil)))) (pss_one (ps_ret (pe_tup (pa_cons (pe_callHG h_law_opposite (hr.mono (by decide)) hG (by rfl) (pa_cons (pv 4) pa_nil)) (pa_cons (pe_callHG h_law_opposite (hr.mono (by decide)) hG (by rfl) (pa_cons (pv 4) pa_nil)) pa_nil))))) pss_nil)
  (pss_one (ps_ret (pe_tup (pa_cons (pe_callHG h_law_opposite (hr.mono (by decide)) hG (by rfl) (pa_cons (pv 4) pa_nil)) (pa_cons (pv 3) pa_nil))))))))) ws_law_pull
/-! ## _law_sums -/
def phi_law_sums (ds : List PyData) (R : Rs → Prop) : Prop := ∃ (s : List Pc) (x : Rat), ds = [.list (s.map pcD), qD x] ∧ PcL s ∧ Rsz qB x ∧ R (.v (.tuple [qD (SLo s x s.length), qD (SHi s x s.length)]))
theorem len_law_sums : ∀ ds R, phi_law_sums ds R → ds.length = 2 := fun ds R ⟨_, _, h, _⟩ => by rw [h]; rfl
abbrev s_law_sums : Stmt := topS 38
abbrev n_law_sums : List Str := ["_law_items_here", "_law_x", "_law_lows", "_law_highs", "_law_item", "_law_one", "_law_other"]
theorem sc_law_sums : FnScope n_law_sums ["_law_items_here", "_law_x"] (defScope s_law_sums) := ⟨rfl, rfl, rfl, by decide +kernel, rfl, by decide +kernel, by decide +kernel⟩
@[reducible] def t_law_sums_0 (K : PySem.W.Frag) : TS := (tAsg (tCall (SpF K phi_law_plus) [] E0 (tCons (tVar 3) (tCons (tVar 6) tNil))) (gName 3))
@[reducible] def t_law_sums_1 (K : PySem.W.Frag) : TS := (tSeq (tAsg (tCall (SpF K phi_law_plus) [] E0 (tCons (tVar 2) (tCons (tVar 5) tNil))) (gName 2))
  (t_law_sums_0 K))
@[reducible] def t_law_sums_2 (K : PySem.W.Frag) : TS := (tRet (tTup (tCons (tVar 2) (tCons (tVar 3) tNil))))
@[reducible] def t_law_sums_3 (K : PySem.W.Frag) : TS := (tSeq (tFor (iSeq K (tVar 0)) (gName 4) (tSeq (tAsg (tCall (SpF K phi_law_pull) [] E0 (tCons (tVar 4) (tCons (tVar 1) tNil))) (gTup K 2 (gCons (gName 5) (gCons (gName 6) gNil))))
  (t_law_sums_1 K)))
  (t_law_sums_2 K))
def t_law_sums (K : PySem.W.Frag) : TS := (tSeq (tAsg (tTup (tCons (tTup (tCons (tC (.int 0)) (tCons (tC (.int 1)) tNil))) (tCons (tTup (tCons (tC (.int 0)) (tCons (tC (.int 1)) tNil))) tNil))) (gTup K 2 (gCons (gName 2) (gCons (gName 3) gNil))))
  (t_law_sums_3 K))
theorem ws_law_sums {K : PySem.W.Frag} (ds : List PyData) (R : Rs → Prop) : phi_law_sums ds R → WS K (t_law_sums K) (ds.map Ent.val ++ List.replicate (n_law_sums.length - ds.length) .unk) { nx := fun _ => R (.v .none), rt := R } := by
  rintro ⟨s, x, rfl, g, sx, h⟩
  show WS K (t_law_sums K) [.val (.list (s.map pcD)), .val (qD x), .unk, .unk, .unk, .unk, .unk] _
  unfold t_law_sums
  refine ws_seq ?_
  walk_at "we"
  refine ws_seq ?_
  walk_at "we"
  refine ⟨fun k Δ => ∃ e4 e5 e6 : Ent, Δ = [.val (.list (s.map pcD)), .val (qD x), .val (qD (SLo s x k)), .val (qD (SHi s x k)), e4, e5, e6], ⟨.unk, .unk, .unk, rfl⟩, ?_, ?_⟩
  · rintro k d Δ' hd ⟨e4, e5, e6, rfl⟩
    obtain ⟨p, hp, rfl⟩ := get_map hd
    have hk := lt_of_get hp
    have pm := List.mem_of_getElem? hp
    obtain ⟨s1, s2⟩ := g.sums x (k := k) (by omega)
    obtain ⟨z1, z2⟩ := pe_sz (x := x) (g.su pm) (g.sd pm)
    have e1 : SLo s x (k + 1) = SLo s x k + peLo p x := by show SLo s x k + peLo (s.getD k (0, 0, 0)) x = _; rw [getD_of hp]
    have e2 : SHi s x (k + 1) = SHi s x k + peHi p x := by show SHi s x k + peHi (s.getD k (0, 0, 0)) x = _; rw [getD_of hp]
    refine wg_name ?_
    refine ws_seq ?_
    walk_at "we"
    refine ⟨(g.sv pm).mono (by decide), sx, ?_⟩
    walk_at "we"
    refine ws_seq ?_
    walk_at "we"
    refine ⟨s1.mono (by decide), z1.mono (by decide), ?_⟩
    walk_at "we"
    refine ⟨s2.mono (by decide), z2.mono (by decide), ?_⟩
    rw [← e1, ← e2]
    exact ⟨_, _, _, rfl⟩
  · rintro Δ' ⟨e4, e5, e6, rfl⟩
    rw [List.length_map]
    walk_at "we"
    exact h
theorem ok_law_sums {P : Program} {w : World} {K : PySem.W.Frag} {mg : Str → Option Value} {base : Heap} (D : Def K mg "_law_sums" s_law_sums) (h_law_pull : HasG P w K mg base "_law_pull" 2 ["_law_item", "_law_x"] (SpF K phi_law_pull)) (h_law_plus : HasG P w K mg base "_law_plus" 34 ["_law_one", "_law_other"] (SpF K phi_law_plus)) : HasG P w K mg base "_law_sums" 35 ["_law_items_here", "_law_x"] (SpF K phi_law_sums) :=
  hasG_of D (fun _ _ F => F.binds (ps := ["_law_items_here", "_law_x"]) fun _ _ _ _ _ _ us hl => match us, hl with | [_, _], _ => rfl) fun _ _ F => okFG (N := n_law_sums) (t := t_law_sums K) F sc_law_sums len_law_sums (fun cdv A outer s H E hr hG =>
  (pss_cons (ps_asg (pe_tup (pa_cons (pe_tup (pa_cons pe_int (pa_cons pe_int pa_nil))) (pa_cons (pe_tup (pa_cons pe_int (pa_cons pe_int pa_nil))) pa_nil))) (pg_tup rfl (pgs_cons (pg_name (i := 2) sc_law_sums.nd rfl (by first | exact Or.inl rfl | exact Or.inr rfl)) (pgs_cons (pg_name (i := 3) sc_law_sums.nd rfl (by first | exact Or.inl rfl | exact Or.inr rfl)) pgs_nil))))
  (pss_cons (ps_for PassesOwn.never rfl (pi_seq (pv 0)) (pg_name (i := 4) sc_law_sums.nd rfl (by first | exact Or.inl rfl | exact Or.inr rfl)) (pss_cons (ps_asg (pe_callHG h_law_pull (hr.mono (by decide)) hG (by rfl) (pa_cons (pv 4) (pa_cons (pv 1) pa_nil))) (pg_tup rfl (pgs_cons (pg_name (i := 5) sc_law_sums.nd rfl (by first | exact Or.inl rfl | exact Or.inr rfl)) (pgs_cons (pg_name (i := 6) sc_law_sums.nd rfl (by first | exact Or.inl rfl | exact Or.inr rfl)) pgs_nil))))
  (pss_cons (ps_set (i := 2) sc_law_sums.nd rfl (by first | exact Or.inl rfl | exact Or.inr rfl) (pe_callHG h_law_plus (hr.mono (by decide)) hG (by rfl) (pa_cons (pv 2) (pa_cons (pv 5) pa_nil))))
  (pss_one (ps_set (i := 3) sc_law_sums.nd rfl (by first | exact Or.inl rfl | exact Or.inr rfl) (pe_callHG h_law_plus (hr.mono (by decide)) hG (by rfl) (pa_cons (pv 3) (pa_cons (pv 6) pa_nil))))))))
  (pss_one (ps_ret (pe_tup (pa_cons (pv 2) (pa_cons (pv 3) pa_nil)))))))) ws_law_sums
/-! ## _law_costs_least -/
def phi_law_costs_least (ds : List PyData) (R : Rs → Prop) : Prop := ∃ (s : List Pc) (x : Rat), ds = [.list (s.map pcD), qD x] ∧ PcL s ∧ Rsz qB x ∧ R (.v (.bool (decide (SLo s x s.length ≤ 0) && decide (0 ≤ SHi s x s.length))))
theorem len_law_costs_least : ∀ ds R, phi_law_costs_least ds R → ds.length = 2 := fun ds R ⟨_, _, h, _⟩ => by rw [h]; rfl
abbrev s_law_costs_least : Stmt := topS 42
abbrev n_law_costs_least : List Str := ["_law_items_here", "_law_x", "_law_lows", "_law_highs"]
theorem sc_law_costs_least : FnScope n_law_costs_least ["_law_items_here", "_law_x"] (defScope s_law_costs_least) := ⟨rfl, rfl, rfl, by decide +kernel, rfl, by decide +kernel, by decide +kernel⟩
@[reducible] def t_law_costs_least_0 (K : PySem.W.Frag) : TS := (tRet (tAndV (tOp rLeI (tOp (rIx K) (tVar 2) (tC (.int 0))) (tC (.int 0))) (tOp rGeI (tOp (rIx K) (tVar 3) (tC (.int 0))) (tC (.int 0)))))
def t_law_costs_least (K : PySem.W.Frag) : TS := (tSeq (tAsg (tCall (SpF K phi_law_sums) [] E0 (tCons (tVar 0) (tCons (tVar 1) tNil))) (gTup K 2 (gCons (gName 2) (gCons (gName 3) gNil))))
  (t_law_costs_least_0 K))
theorem ws_law_costs_least {K : PySem.W.Frag} (ds : List PyData) (R : Rs → Prop) : phi_law_costs_least ds R → WS K (t_law_costs_least K) (ds.map Ent.val ++ List.replicate (n_law_costs_least.length - ds.length) .unk) { nx := fun _ => R (.v .none), rt := R } := by
  rintro ⟨s, x, rfl, g, sx, h⟩
  show WS K (t_law_costs_least K) [.val (.list (s.map pcD)), .val (qD x), .unk, .unk] _
  unfold t_law_costs_least
  refine ws_seq ?_
  walk_at "we"
  refine ⟨g, sx, ?_⟩
  walk_at "we"
  refine if_d (fun c => ?_) (fun c => ?_)
  · rw [decide_eq_true (num_nonpos.mp c), Bool.true_and] at h
    walk_at "we"
    rw [show decide (0 ≤ (SHi s x s.length).num) = decide (0 ≤ SHi s x s.length) from decide_eq_decide.mpr num_nonneg']
    exact h
  · rw [decide_eq_false (fun e => c (num_nonpos.mpr e)), Bool.false_and] at h
    exact h
theorem ok_law_costs_least {P : Program} {w : World} {K : PySem.W.Frag} {mg : Str → Option Value} {base : Heap} (D : Def K mg "_law_costs_least" s_law_costs_least) (h_law_sums : HasG P w K mg base "_law_sums" 35 ["_law_items_here", "_law_x"] (SpF K phi_law_sums)) : HasG P w K mg base "_law_costs_least" 36 ["_law_items_here", "_law_x"] (SpF K phi_law_costs_least) :=
  hasG_of D (fun _ _ F => F.binds (ps := ["_law_items_here", "_law_x"]) fun _ _ _ _ _ _ us hl => match us, hl with | [_, _], _ => rfl) fun _ _ F => okFG (N := n_law_costs_least) (t := t_law_costs_least K) F sc_law_costs_least len_law_costs_least (fun cdv A outer s H E hr hG =>
  (pss_cons (ps_asg (pe_callHG h_law_sums (hr.mono (by decide)) hG (by rfl) (pa_cons (pv 0) (pa_cons (pv 1) pa_nil))) (pg_tup rfl (pgs_cons (pg_name (i := 2) sc_law_costs_least.nd rfl (by first | exact Or.inl rfl | exact Or.inr rfl)) (pgs_cons (pg_name (i := 3) sc_law_costs_least.nd rfl (by first | exact Or.inl rfl | exact Or.inr rfl)) pgs_nil))))
  (pss_one (ps_ret (pe_and (pe_cmpR op_le (pe_ix ix_seq (pv 2) pe_int (fun _ _ => rfl)) pe_int (nomark _)) (pe_one (pe_cmpR op_ge (pe_ix ix_seq (pv 3) pe_int (fun _ _ => rfl)) pe_int (nomark _)))))))) ws_law_costs_least
/-! ## _law_is_fraction -/
def phi_law_is_fraction (ds : List PyData) (R : Rs → Prop) : Prop := ∃ d : PyData, ds = [d] ∧ R (.v (.bool (isFrac d)))
theorem len_law_is_fraction : ∀ ds R, phi_law_is_fraction ds R → ds.length = 1 := fun ds R ⟨a, h, _⟩ => by rw [h]; rfl
theorem isFrac_len4 {xs : List PyData} (h : xs.length ≠ 2) : isFrac (.tuple xs) = false := by
  match xs, h with
  | [], _ => rfl
  | [_], _ => rfl
  | [_, _], h => exact absurd rfl h
  | _ :: _ :: _ :: _, _ => rfl
theorem isFrac_bool {x y : PyData} (h : isBoolD x = true ∨ isBoolD y = true) : isFrac (.tuple [x, y]) = false := by
  cases x <;> cases y <;> first | rfl | (rcases h with h | h <;> cases h)
theorem isFrac_noint {x y : PyData} (h : isIntD x = false ∨ isIntD y = false) : isFrac (.tuple [x, y]) = false := by
  cases x <;> cases y <;> first | rfl | (rcases h with h | h <;> cases h)
theorem low_same {a b : Int} (hb : 0 < b) : decide (((Rat.divInt a b).num, ((Rat.divInt a b).den : Int)) = (a, b)) = decide (Int.gcd a b = 1) := by
  refine decide_eq_decide.mpr ⟨fun e => ?_, fun e => ?_⟩
  · have e2 := (Prod.mk.inj e).2
    rw [den_div_gcd hb] at e2
    have hg := gcd_pos_of (a := a) (b := b) (by omega)
    have hd : (Int.gcd a b : Int) ∣ b := Int.gcd_dvd_right ..
    have : b / (Int.gcd a b : Int) * (Int.gcd a b : Int) = b := Int.ediv_mul_cancel hd
    rw [e2] at this
    have h1 : b * ((Int.gcd a b : Int) - 1) = 0 := by rw [Int.mul_sub, Int.mul_one, this, Int.sub_self]
    rcases Int.mul_eq_zero.mp h1 with h | h <;> omega
  · rw [num_div_gcd hb, den_div_gcd hb, e]
    simp
abbrev s_law_is_fraction : Stmt := topS 40
abbrev n_law_is_fraction : List Str := ["_law_one", "_law_number"]
theorem sc_law_is_fraction : FnScope n_law_is_fraction ["_law_one"] (defScope s_law_is_fraction) := ⟨rfl, rfl, rfl, by decide +kernel, rfl, by decide +kernel, by decide +kernel⟩
@[reducible] def t_law_is_fraction_0 (K : PySem.W.Frag) : TS := (tRet (tAndV (tCB (rAll K) (tCons (tLc (iSeq K (tVar 0)) (gName 1) tYes (tCB (rIsi K) (tCons (tVar 1) (tCons (tC (.ty "int")) tNil))) [1]) tNil)) (tAndV (tOp rGtI (tOp (rIx K) (tVar 0) (tC (.int 1))) (tC (.int 0))) (tOp (rEqD K) (tCall (SpF K phi_law_low) [] E0 (tCons (tOp (rIx K) (tVar 0) (tC (.int 0))) (tCons (tOp (rIx K) (tVar 0) (tC (.int 1))) tNil))) (tVar 0)))))
def t_law_is_fraction (K : PySem.W.Frag) : TS := (tSeq (tIfS (tOr (tNot (tB (tCB (rIsi K) (tCons (tVar 0) (tCons (tC (.ty "tuple")) tNil))))) (tOr (tTest (tOp (rNeD K) (tCB (DL.rLen K) (tCons (tVar 0) tNil)) (tC (.int 2)))) (tB (tCB (rAny K) (tCons (tLc (iSeq K (tVar 0)) (gName 1) tYes (tCB (rIsi K) (tCons (tVar 1) (tCons (tC (.ty "bool")) tNil))) [1]) tNil))))) (tRet (tC (.bl false))) tNext)
  (t_law_is_fraction_0 K))
theorem ws_law_is_fraction {K : PySem.W.Frag} (ds : List PyData) (R : Rs → Prop) : phi_law_is_fraction ds R → WS K (t_law_is_fraction K) (ds.map Ent.val ++ List.replicate (n_law_is_fraction.length - ds.length) .unk) { nx := fun _ => R (.v .none), rt := R } := by
  rintro ⟨d, rfl, h⟩
  show WS K (t_law_is_fraction K) [.val d, .unk] _
  unfold t_law_is_fraction
  cases d with
  | tuple xs =>
    refine ws_seq (ws_if (wt_or ?_))
    walk_at "we"
    refine if_nd (fun c => ?_) (fun c => ?_)
    · rw [isFrac_len4 (by omega)] at h
      walk_at "we"
      exact h
    · have hl : xs.length = 2 := by omega
      match xs, hl with
      | [x, y], _ =>
        walk_at "we"
        refine we_lcF [x, y] (fun z => z) (fun z => .bool (isBoolD z)) rfl rfl ?_
        walk_at "we"
        refine ⟨rfl, by show 2 ≤ 100000; decide, fun z hz => ?_, ?_⟩
        · walk_at "we"; rfl
        walk_at "we"
        refine cd_anyM (l := [x, y]) isBoolD ?_
        cases hx : isBoolD x with
        | true =>
          rw [isFrac_bool (.inl hx)] at h
          refine ⟨_, rfl, ?_⟩
          refine if_bT (by show (isBoolD x || _) = true; rw [hx]; rfl) ?_
          walk_at "we"
          exact h
        | false =>
          cases hy : isBoolD y with
          | true =>
            rw [isFrac_bool (.inr hy)] at h
            refine ⟨_, rfl, ?_⟩
            refine if_bT (by show (isBoolD x || (isBoolD y || _)) = true; rw [hx, hy]; rfl) ?_
            walk_at "we"
            exact h
          | false =>
            refine ⟨_, rfl, ?_⟩
            refine if_bF (by show (isBoolD x || (isBoolD y || false)) = false; rw [hx, hy]; rfl) ?_
            walk_at "we"
            refine we_lcF [x, y] (fun z => z) (fun z => .bool (isIntD z)) rfl rfl ?_
            walk_at "we"
            refine ⟨rfl, by show 2 ≤ 100000; decide, fun z hz => ?_, ?_⟩
            · walk_at "we"; rfl
            walk_at "we"
            refine cd_allM (l := [x, y]) isIntD ?_
            cases hx2 : isIntD x with
            | false =>
              rw [isFrac_noint (.inl hx2)] at h
              refine ⟨_, rfl, ?_⟩
              refine if_bF (by show (isIntD x && _) = false; rw [hx2]; rfl) ?_
              exact h
            | true =>
              cases hy2 : isIntD y with
              | false =>
                rw [isFrac_noint (.inr hy2)] at h
                refine ⟨_, rfl, ?_⟩
                refine if_bF (by show (isIntD x && (isIntD y && _)) = false; rw [hx2, hy2]; rfl) ?_
                exact h
              | true =>
                refine ⟨_, rfl, ?_⟩
                refine if_bT (by show (isIntD x && (isIntD y && true)) = true; rw [hx2, hy2]; rfl) ?_
                cases x with
                | int a =>
                  cases y with
                  | int b =>
                    have h : R (.v (.bool (decide (0 < b) && decide (Int.gcd a b = 1)))) := h
                    walk_at "we"
                    refine if_d (fun c => ?_) (fun c => ?_)
                    · walk_at "we"
                      refine ⟨c, ?_⟩
                      walk_at "we"
                      rw [low_same c]
                      rw [decide_eq_true c, Bool.true_and] at h
                      exact h
                    · rw [decide_eq_false c, Bool.false_and] at h
                      exact h
                  | bool b => cases hy
                  | _ => cases hy2
                | bool b => cases hx
                | _ => cases hx2
  | none => walk_at "w"; exact h
  | bool b => walk_at "w"; exact h
  | int i => walk_at "w"; exact h
  | str x => walk_at "w"; exact h
  | list l => walk_at "w"; exact h
  | dict l => walk_at "w"; exact h
theorem ok_law_is_fraction {P : Program} {w : World} {K : PySem.W.Frag} {mg : Str → Option Value} {base : Heap} (D : Def K mg "_law_is_fraction" s_law_is_fraction) (h_law_low : HasG P w K mg base "_law_low" 33 ["_law_top", "_law_bottom"] (SpF K phi_law_low)) (m_isinstance : mg "isinstance" = none) (m_tuple : mg "tuple" = none) (m_len : mg "len" = none) (m_any : mg "any" = none) (m_bool : mg "bool" = none) (m_all : mg "all" = none) (m_int : mg "int" = none) : HasG P w K mg base "_law_is_fraction" 34 ["_law_one"] (SpF K phi_law_is_fraction) :=
  hasG_of D (fun _ _ F => F.binds (ps := ["_law_one"]) fun _ _ _ _ _ _ us hl => match us, hl with | [_], _ => rfl) fun _ _ F => okFG (N := n_law_is_fraction) (t := t_law_is_fraction K) F sc_law_is_fraction len_law_is_fraction (fun cdv A outer s H E hr hG =>
  (pss_cons (ps_if (PW.pt (pw_or (pt_not (pt_val (pe_callB call_isi (by rfl) m_isinstance (by decide +kernel) (pa_cons (pv 0) (pa_cons (pe_bltn (v := .ty "tuple") (by rfl) m_tuple (by decide +kernel) rfl) pa_nil))))) (pw_or (pt_cmpR (op_neD hr.units) (pe_callB DL.c_len (by rfl) m_len (by decide +kernel) (pa_cons (pv 0) pa_nil)) pe_int (nomark _)) (pw_or1 (pt_val (pe_callB (cr_any rfl) (by rfl) m_any (by decide +kernel) (pa_cons (pe_lc (own := [("_law_number", 1)]) (g := (gName 1)) (tt := tYes) (by rfl) sc_law_is_fraction.nd (pi_seq (pv 0)) (blkOk_by (own := [("_law_number", 1)]) (N := n_law_is_fraction) (sc := defScope s_law_is_fraction) (by decide +kernel)) (fun _ _ _ _ _ => (pg_name (i := 1) sc_law_is_fraction.nd rfl (by first | exact Or.inl rfl | exact Or.inr rfl))) (fun _ _ _ _ _ => pts_nil) (fun _ _ _ _ _ => (pe_callB call_isi (by rfl) m_isinstance (by decide +kernel) (pa_cons (pv 1) (pa_cons (pe_bltn (v := .ty "bool") (by rfl) m_bool (by decide +kernel) rfl) pa_nil))))) pa_nil))))))) (pss_one (ps_ret pe_bl)) pss_nil)
  (pss_one (ps_ret (pe_and (pe_callB (cr_all rfl) (by rfl) m_all (by decide +kernel) (pa_cons (pe_lc (own := [("_law_number", 1)]) (g := (gName 1)) (tt := tYes) (by rfl) sc_law_is_fraction.nd (pi_seq (pv 0)) (blkOk_by (own := [("_law_number", 1)]) (N := n_law_is_fraction) (sc := defScope s_law_is_fraction) (by decide +kernel)) (fun _ _ _ _ _ => (pg_name (i := 1) sc_law_is_fraction.nd rfl (by first | exact Or.inl rfl | exact Or.inr rfl))) (fun _ _ _ _ _ => pts_nil) (fun _ _ _ _ _ => (pe_callB call_isi (by rfl) m_isinstance (by decide +kernel) (pa_cons (pv 1) (pa_cons (pe_bltn (v := .ty "int") (by rfl) m_int (by decide +kernel) rfl) pa_nil))))) pa_nil)) (pe_and (pe_cmpR op_gt (pe_ix ix_seq (pv 0) pe_int (fun _ _ => rfl)) pe_int (nomark _)) (pe_one (pe_cmpR (op_eqD hr.units) (pe_callHG h_law_low (hr.mono (by decide)) hG (by rfl) (pa_cons (pe_ix ix_seq (pv 0) pe_int (fun _ _ => rfl)) (pa_cons (pe_ix ix_seq (pv 0) pe_int (fun _ _ => rfl)) pa_nil))) (pv 0) (nomark _))))))))) ws_law_is_fraction
/-! ## _law_middle_right -/
def phi_law_middle_right (ds : List PyData) (R : Rs → Prop) : Prop := ∃ (l : List Pc) (i j : Nat), ds = [.list (l.map pcD), .int (i : Int), .int (j : Int)] ∧ PcL l ∧ i < j ∧ j ≤ l.length ∧ R (.v (.bool true))
theorem len_law_middle_right : ∀ ds R, phi_law_middle_right ds R → ds.length = 3 := fun ds R ⟨_, _, _, h, _⟩ => by rw [h]; rfl
theorem le_same {m n : Rat} {P : Rat → Prop} (h1 : ∀ x, m ≤ x ↔ P x) (h2 : ∀ x, n ≤ x ↔ P x) : n = m :=
  Rat.le_antisymm ((h2 m).mpr ((h1 m).mp Rat.le_refl)) ((h1 n).mpr ((h2 n).mp Rat.le_refl))
theorem ge_same {m n : Rat} {P : Rat → Prop} (h1 : ∀ x, x ≤ m ↔ P x) (h2 : ∀ x, x ≤ n ↔ P x) : n = m :=
  Rat.le_antisymm ((h1 n).mpr ((h2 n).mp Rat.le_refl)) ((h2 m).mpr ((h1 m).mp Rat.le_refl))
theorem pl_two (a b : Rat) : Pl 2 (.tuple [qD a, qD b]) := pl_tup fun d h => by
  simp only [List.mem_cons, List.not_mem_nil, or_false] at h
  rcases h with rfl | rfl <;> exact pl_q _
theorem tl_two {a b : Rat} (ha : Rsz 110 a) (hb : Rsz 110 b) : Tl 2 10 (.tuple [qD a, qD b]) := (tl_tup (k := 1) (n := 3) fun d hd => by
  simp only [List.mem_cons, List.not_mem_nil, or_false] at hd
  rcases hd with rfl | rfl
  · exact tl_q ha (by decide)
  · exact tl_q hb (by decide)).mono (by decide) (by simp)
abbrev s_law_middle_right : Stmt := topS 43
abbrev n_law_middle_right : List Str := ["_law_items_here", "_law_first", "_law_behind", "_law_handed", "_law_told", "_law_some", "_law_x", "_law_within", "_law_found", "_law_one"]
theorem sc_law_middle_right : FnScope n_law_middle_right ["_law_items_here", "_law_first", "_law_behind"] (defScope s_law_middle_right) := ⟨rfl, rfl, rfl, by decide +kernel, rfl, by decide +kernel, by decide +kernel⟩
@[reducible] def t_law_middle_right_0 (K : PySem.W.Frag) : TS := (tIfS (tOr (tTest (tOp (rNeD K) (tVar 7) (tCall (SpF K phi_law_costs_least) [] E0 (tCons (tVar 5) (tCons (tVar 6) tNil))))) (tTest (tOp rNe (tCB (rRepr K) (tCons (tVar 8) tNil)) (tCB (rRepr K) (tCons (tCall (SpF K phi_law_sums) [] E0 (tCons (tVar 5) (tCons (tVar 6) tNil))) tNil))))) (tRet (tC (.bl false))) tNext)
@[reducible] def t_law_middle_right_1 (K : PySem.W.Frag) : TS := (tSeq (tAsg (tCall (SpF K phi_heap_pulls) [] E0 (tCons (tVar 3) (tCons (tVar 1) (tCons (tVar 2) (tCons (tVar 6) tNil))))) (gName 8))
  (t_law_middle_right_0 K))
@[reducible] def t_law_middle_right_2 (K : PySem.W.Frag) : TS := (tRet (tAndV (tOp (rEqD K) (tVar 3) (tVar 0)) (tOp (rEqD K) (tCall (SpF K phi_middle) [] E0 (tCons (tVar 3) (tCons (tVar 1) (tCons (tVar 2) tNil)))) (tVar 4))))
@[reducible] def t_law_middle_right_3 (K : PySem.W.Frag) : TS := (tSeq (tFor (iSeq K (tCall (SpF K phi_law_spots) [] E0 (tCons (tVar 5) tNil))) (gName 6) (tSeq (tAsg (tAndV (tNotV (tCall (SpF K phi_law_below) [] E0 (tCons (tVar 6) (tCons (tOp (rIx K) (tVar 4) (tC (.int 0))) tNil)))) (tNotV (tCall (SpF K phi_law_below) [] E0 (tCons (tOp (rIx K) (tVar 4) (tC (.int 1))) (tCons (tVar 6) tNil))))) (gName 7))
  (t_law_middle_right_1 K)))
  (t_law_middle_right_2 K))
@[reducible] def t_law_middle_right_4 (K : PySem.W.Frag) : TS := (tSeq (tIfS (tNot (tB (tCB (rAll K) (tCons (tLc (iSeq K (tVar 4)) (gName 9) tYes (tCall (SpF K phi_law_costs_least) [] E0 (tCons (tVar 5) (tCons (tVar 9) tNil))) [9]) tNil)))) (tRet (tC (.bl false))) tNext)
  (t_law_middle_right_3 K))
@[reducible] def t_law_middle_right_5 (K : PySem.W.Frag) : TS := (tSeq (tAsg (tSl (rSlL K) (tVar 0) (tPart (tVar 1)) (tPart (tVar 2))) (gName 5))
  (t_law_middle_right_4 K))
@[reducible] def t_law_middle_right_6 (K : PySem.W.Frag) : TS := (tSeq (tIfS (tOr (tNot (tB (tCB (rIsi K) (tCons (tVar 4) (tCons (tC (.ty "tuple")) tNil))))) (tOr (tTest (tOp (rNeD K) (tCB (DL.rLen K) (tCons (tVar 4) tNil)) (tC (.int 2)))) (tNot (tB (tCB (rAll K) (tCons (tLc (iSeq K (tVar 4)) (gName 9) tYes (tCall (SpF K phi_law_is_fraction) [] E0 (tCons (tVar 9) tNil)) [9]) tNil)))))) (tRet (tC (.bl false))) tNext)
  (t_law_middle_right_5 K))
@[reducible] def t_law_middle_right_7 (K : PySem.W.Frag) : TS := (tSeq (tAsg (tCall (SpF K phi_middle) [] E0 (tCons (tVar 3) (tCons (tVar 1) (tCons (tVar 2) tNil)))) (gName 4))
  (t_law_middle_right_6 K))
def t_law_middle_right (K : PySem.W.Frag) : TS := (tSeq (tAsg (tCB (rListOf K) (tCons (tVar 0) tNil)) (gName 3))
  (t_law_middle_right_7 K))
theorem ws_law_middle_right {K : PySem.W.Frag} (ds : List PyData) (R : Rs → Prop) : phi_law_middle_right ds R → WS K (t_law_middle_right K) (ds.map Ent.val ++ List.replicate (n_law_middle_right.length - ds.length) .unk) { nx := fun _ => R (.v .none), rt := R } := by
  rintro ⟨l, i, j, rfl, g0, hij, hj, h⟩
  show WS K (t_law_middle_right K) [.val (.list (l.map pcD)), .val (.int (i : Int)), .val (.int (j : Int)), .unk, .unk, .unk, .unk, .unk, .unk, .unk] _
  unfold t_law_middle_right
  have g := strc_ok g0 hij hj
  have cs : cutD l (some (i : Int)) (some (j : Int)) = strc l i j := cut_mid l (Nat.le_of_lt hij) hj
  refine ws_seq ?_
  walk_at "we"
  refine ws_seq ?_
  walk_at "we"
  refine ⟨g0, hij, hj, fun m m' sm sm' hm hm' => ?_⟩
  have mm := mid_le g.posP g.ne hm hm'
  refine ws_seq (ws_if (wt_or ?_))
  walk_at "we"
  refine we_lcF [m, m'] qD (fun _ => .bool true) rfl rfl ?_
  walk_at "we"
  refine ⟨rfl, by show 2 ≤ 100000; decide, fun z hz => ?_, ?_⟩
  · walk_at "we"
    rw [isFrac_q]
  walk_at "we"
  refine cd_allT (fun _ _ => rfl) ?_
  walk_at "we"
  refine ws_seq ?_
  walk_at "we"
  rw [cutD_map, cs]
  have ok : ∀ x, (decide (SLo (strc l i j) x (strc l i j).length ≤ 0) && decide (0 ≤ SHi (strc l i j) x (strc l i j).length)) = (!decide (x < m) && !decide (m' < x)) := fun x => by
    rw [show decide (SLo (strc l i j) x (strc l i j).length ≤ 0) = !decide (m' < x) by
      rw [← decide_not]; exact decide_eq_decide.mpr ((hm' x).symm.trans Rat.not_lt.symm), show decide (0 ≤ SHi (strc l i j) x (strc l i j).length) = !decide (x < m) by
      rw [← decide_not]; exact decide_eq_decide.mpr ((hm x).symm.trans Rat.not_lt.symm), Bool.and_comm]
  have both : ∀ z, z ∈ [m, m'] → (!decide (z < m) && !decide (m' < z)) = true := fun z hz => by
    simp only [List.mem_cons, List.not_mem_nil, or_false] at hz
    rcases hz with rfl | rfl
    · rw [decide_eq_false Rat.lt_irrefl, decide_eq_false (Rat.not_lt.mpr mm)]; rfl
    · rw [decide_eq_false Rat.lt_irrefl, decide_eq_false (Rat.not_lt.mpr mm)]; rfl
  refine ws_seq (ws_if ?_)
  walk_at "we"
  refine we_lcF [m, m'] qD (fun _ => .bool true) rfl rfl ?_
  walk_at "we"
  refine ⟨rfl, by show 2 ≤ 100000; decide, fun z hz => ?_, ?_⟩
  · walk_at "we"
    refine ⟨g, ?_, ?_⟩
    · simp only [List.mem_cons, List.not_mem_nil, or_false] at hz
      rcases hz with rfl | rfl
      · exact sm.mono (by decide)
      · exact sm'.mono (by decide)
    rw [ok, both z hz]
  walk_at "we"
  refine cd_allT (fun _ _ => rfl) ?_
  walk_at "we"
  refine ws_seq ?_
  walk_at "we"
  refine ⟨g, fun xs xl xz => ?_⟩
  walk_at "we"
  refine ⟨fun k Δ => ∃ e6 e7 e8 : Ent, Δ = [.val (.list (l.map pcD)), .val (.int (i : Int)), .val (.int (j : Int)), .val (.list (l.map pcD)), .val (.tuple [qD m, qD m']), .val (.list ((strc l i j).map pcD)), e6, e7, e8, .unk], ⟨.unk, .unk, .unk, rfl⟩, ?_, ?_⟩
  · rintro k d Δ' hd ⟨e6, e7, e8, rfl⟩
    obtain ⟨x, hx, rfl⟩ := get_map hd
    have sx := xz x (List.mem_of_getElem? hx)
    have sq : Rsz qB x := sx.mono (by decide)
    obtain ⟨s1, s2⟩ := g.sums x (Nat.le_refl _)
    refine wg_name ?_
    refine ws_seq (ws_asg (we_imp (Q := fun r => r.d = .bool (!decide (x < m) && !decide (m' < x))) ?_ fun r hr => ?_))
    · walk_at "we"
      refine ⟨sq, sm.mono (by decide), ?_⟩
      walk_at "we"
      refine if_nd (fun c => ?_) (fun c => ?_)
      · walk_at "we"
        refine ⟨sm'.mono (by decide), sq, ?_⟩
        walk_at "we"
        rw [decide_eq_false c]
        rfl
      · rw [decide_eq_true c]
        rfl
    rw [hr]
    refine ws_seq ?_
    walk_at "we"
    refine ⟨l, i, j, x, rfl, g0, hij, hj, sq, ?_⟩
    refine ws_if (wt_or ?_)
    walk_at "we"
    refine ⟨g, sq, ?_⟩
    rw [ok]
    walk_at "we"
    refine cd_tl (tl_two s1 s2) (by decide) (by decide) ?_
    walk_at "we"
    refine ⟨g, sq, ?_⟩
    walk_at "we"
    refine cd_tl (tl_two s1 s2) (by decide) (by decide) ?_
    walk_at "we"
    exact ⟨_, _, _, rfl⟩
  · rintro Δ' ⟨e6, e7, e8, rfl⟩
    walk_at "we"
    refine rd_eqEq (pl_map pl_pc) (by decide) rfl ?_
    walk_at "we"
    refine ⟨g0, hij, hj, fun n n' sn sn' hn hn' => ?_⟩
    walk_at "we"
    rw [le_same hm hn, ge_same hm' hn']
    exact rd_eqEq (pl_two m m') (by decide) rfl h
theorem ok_law_middle_right {P : Program} {w : World} {K : PySem.W.Frag} {mg : Str → Option Value} {base : Heap} (D : Def K mg "_law_middle_right" s_law_middle_right) (h_middle : HasG P w K mg base "middle" 36 ["priced", "first", "behind"] (SpF K phi_middle)) (h_law_is_fraction : HasG P w K mg base "_law_is_fraction" 34 ["_law_one"] (SpF K phi_law_is_fraction)) (h_law_costs_least : HasG P w K mg base "_law_costs_least" 36 ["_law_items_here", "_law_x"] (SpF K phi_law_costs_least)) (h_law_spots : HasG P w K mg base "_law_spots" 35 ["_law_items_here"] (SpF K phi_law_spots)) (h_law_below : HasG P w K mg base "_law_below" 1 ["_law_one", "_law_other"] (SpF K phi_law_below)) (h_heap_pulls : HasG P w K mg base "heap_pulls" 36 ["priced", "first", "behind", "x"] (SpF K phi_heap_pulls)) (h_law_sums : HasG P w K mg base "_law_sums" 35 ["_law_items_here", "_law_x"] (SpF K phi_law_sums)) (m_list : mg "list" = none) (m_isinstance : mg "isinstance" = none) (m_tuple : mg "tuple" = none) (m_len : mg "len" = none) (m_all : mg "all" = none) (m_repr : mg "repr" = none) : HasG P w K mg base "_law_middle_right" 37 ["_law_items_here", "_law_first", "_law_behind"] (SpF K phi_law_middle_right) :=
  hasG_of D (fun _ _ F => F.binds (ps := ["_law_items_here", "_law_first", "_law_behind"]) fun _ _ _ _ _ _ us hl => match us, hl with | [_, _, _], _ => rfl) fun _ _ F => okFG (N := n_law_middle_right) (t := t_law_middle_right K) F sc_law_middle_right len_law_middle_right (fun cdv A outer s H E hr hG =>
  (pss_cons (ps_set (i := 3) sc_law_middle_right.nd rfl (by first | exact Or.inl rfl | exact Or.inr rfl) (pe_callTy c_list (by rfl) m_list (by decide +kernel) (pa_cons (pv 0) pa_nil)))
  (pss_cons (ps_set (i := 4) sc_law_middle_right.nd rfl (by first | exact Or.inl rfl | exact Or.inr rfl) (pe_callHG h_middle (hr.mono (by decide)) hG (by rfl) (pa_cons (pv 3) (pa_cons (pv 1) (pa_cons (pv 2) pa_nil)))))
  (pss_cons (ps_if (PW.pt (pw_or (pt_not (pt_val (pe_callB call_isi (by rfl) m_isinstance (by decide +kernel) (pa_cons (pv 4) (pa_cons (pe_bltn (v := .ty "tuple") (by rfl) m_tuple (by decide +kernel) rfl) pa_nil))))) (pw_or (pt_cmpR (op_neD hr.units) (pe_callB DL.c_len (by rfl) m_len (by decide +kernel) (pa_cons (pv 4) pa_nil)) pe_int (nomark _)) (pw_or1 (pt_not (pt_val (pe_callB (cr_all rfl) (by rfl) m_all (by decide +kernel) (pa_cons (pe_lc (own := [("_law_one", 9)]) (g := (gName 9)) (tt := tYes) (by rfl) sc_law_middle_right.nd (pi_seq (pv 4)) (blkOk_by (own := [("_law_one", 9)]) (N := n_law_middle_right) (sc := defScope s_law_middle_right) (by decide +kernel)) (fun _ _ _ _ _ => (pg_name (i := 9) sc_law_middle_right.nd rfl (by first | exact Or.inl rfl | exact Or.inr rfl))) (fun _ _ _ _ _ => pts_nil) (fun _ _ _ _ _ => (pe_callHG h_law_is_fraction (hr.mono (by decide)) hG (by rfl) (pa_cons (pv 9) pa_nil)))) pa_nil)))))))) (pss_one (ps_ret pe_bl)) pss_nil)
  (pss_cons (ps_set (i := 5) sc_law_middle_right.nd rfl (by first | exact Or.inl rfl | exact Or.inr rfl) (pe_slice sl_list (pv 0) (po_some (pv 1)) (po_some (pv 2))))
  (pss_cons (ps_if (pt_not (pt_val (pe_callB (cr_all rfl) (by rfl) m_all (by decide +kernel) (pa_cons (pe_lc (own := [("_law_one", 9)]) (g := (gName 9)) (tt := tYes) (by rfl) sc_law_middle_right.nd (pi_seq (pv 4)) (blkOk_by (own := [("_law_one", 9)]) (N := n_law_middle_right) (sc := defScope s_law_middle_right) (by decide +kernel)) (fun _ _ _ _ _ => (pg_name (i := 9) sc_law_middle_right.nd rfl (by first | exact Or.inl rfl | exact Or.inr rfl))) (fun _ _ _ _ _ => pts_nil) (fun _ _ _ _ _ => (pe_callHG h_law_costs_least (hr.mono (by decide)) hG (by rfl) (pa_cons (pv 5) (pa_cons (pv 9) pa_nil))))) pa_nil)))) (pss_one (ps_ret pe_bl)) pss_nil)
  (pss_cons (ps_for PassesOwn.never rfl (pi_seq (pe_callHG h_law_spots (hr.mono (by decide)) hG (by rfl) (pa_cons (pv 5) pa_nil))) (pg_name (i := 6) sc_law_middle_right.nd rfl (by first | exact Or.inl rfl | exact Or.inr rfl)) (pss_cons (ps_set (i := 7) sc_law_middle_right.nd rfl (by first | exact Or.inl rfl | exact Or.inr rfl) (pe_and (pe_not (pe_callHG h_law_below (hr.mono (by decide)) hG (by rfl) (pa_cons (pv 6) (pa_cons (pe_ix ix_seq (pv 4) pe_int (fun _ _ => rfl)) pa_nil)))) (pe_one (pe_not (pe_callHG h_law_below (hr.mono (by decide)) hG (by rfl) (pa_cons (pe_ix ix_seq (pv 4) pe_int (fun _ _ => rfl)) (pa_cons (pv 6) pa_nil)))))))
  (pss_cons (ps_set (i := 8) sc_law_middle_right.nd rfl (by first | exact Or.inl rfl | exact Or.inr rfl) (pe_callHG h_heap_pulls (hr.mono (by decide)) hG (by rfl) (pa_cons (pv 3) (pa_cons (pv 1) (pa_cons (pv 2) (pa_cons (pv 6) pa_nil))))))
  (pss_one (ps_if (PW.pt (pw_or (pt_cmpR (op_neD hr.units) (pv 7) (pe_callHG h_law_costs_least (hr.mono (by decide)) hG (by rfl) (pa_cons (pv 5) (pa_cons (pv 6) pa_nil))) (nomark _)) (pw_or1 (pt_cmpR op_ne (pe_callB (call_repr hG (room70 hr)) (by rfl) m_repr (by decide +kernel) (pa_cons (pv 8) pa_nil)) (pe_callB (call_repr hG (room70 hr)) (by rfl) m_repr (by decide +kernel) (pa_cons (pe_callHG h_law_sums (hr.mono (by decide)) hG (by rfl) (pa_cons (pv 5) (pa_cons (pv 6) pa_nil))) pa_nil)) (nomark _))))) (pss_one (ps_ret pe_bl)) pss_nil)))))
  (pss_one (ps_ret (pe_and (pe_cmpR (op_eqD hr.units) (pv 3) (pv 0) (nomark _)) (pe_one (pe_cmpR (op_eqD hr.units) (pe_callHG h_middle (hr.mono (by decide)) hG (by rfl) (pa_cons (pv 3) (pa_cons (pv 1) (pa_cons (pv 2) pa_nil)))) (pv 4) (nomark _))))))))))))) ws_law_middle_right
/-! ## _law_right -/
def phi_law_right (ds : List PyData) (R : Rs → Prop) : Prop := ds = [] ∧ R (.v (.bool true))
theorem len_law_right : ∀ ds R, phi_law_right ds R → ds.length + 1 = 1 := fun ds R ⟨h, _⟩ => by rw [h]; rfl
abbrev s_law_right : Stmt := topS 44
abbrev n_law_right : List Str := ["_law_pot_here", "_law_items_here", "_law_k", "_law_first"]
theorem sc_law_right : FnScope n_law_right ["_law_pot_here"] (defScope s_law_right) := ⟨rfl, rfl, rfl, by decide +kernel, rfl, by decide +kernel, by decide +kernel⟩
@[reducible] def t_law_right_0 (K : PySem.W.Frag) : TS := (tIfS (tNot (tB (tCall (SpF K phi_law_middle_right) [] E0 (tCons (tVar 1) (tCons (tVar 3) (tCons (tOp (rAddA K) (tOp (rAddA K) (tVar 3) (tC (.int 1))) (tCall (SpD K phi_law_take) [] E0 (tCons (tVar 0) (tCons (tOp rSubI (tCB (DL.rLen K) (tCons (tVar 1) tNil)) (tVar 3)) tNil)))) tNil)))))) (tRet (tC (.bl false))) tNext)
@[reducible] def t_law_right_1 (K : PySem.W.Frag) : TS := (tRet (tC (.bl true)))
@[reducible] def t_law_right_2 (K : PySem.W.Frag) : TS := (tSeq (tFor (iRng1 (tCons (tC (.int 4)) tNil)) (gName 2) (tSeq (tAsg (tCall (SpD K phi_law_take) [] E0 (tCons (tVar 0) (tCons (tCB (DL.rLen K) (tCons (tVar 1) tNil)) tNil))) (gName 3))
  (t_law_right_0 K)))
  (t_law_right_1 K))
@[reducible] def t_law_right_3 (K : PySem.W.Frag) : TS := (tSeq (tIfS (tNot (tB (tCall (SpF K phi_law_middle_right) [] E0 (tCons (tVar 1) (tCons (tC (.int 0)) (tCons (tCB (DL.rLen K) (tCons (tVar 1) tNil)) tNil)))))) (tRet (tC (.bl false))) tNext)
  (t_law_right_2 K))
def t_law_right (K : PySem.W.Frag) : TS := (tSeq (tAsg (tCall (SpD K phi_law_items) [] E0 (tCons (tVar 0) (tCons (tOp (rIx K) (tLst (tCons (tC (.int 24)) (tCons (tC (.int 60)) tNil))) (tOp rFdivI (tCall (SpD K phi_law_take) [] E0 (tCons (tVar 0) (tCons (tC (.int 8)) tNil))) (tC (.int 7)))) tNil))) (gName 1))
  (t_law_right_3 K))
theorem ws_law_right {K : PySem.W.Frag} (p : Addr) (ds : List PyData) (R : Rs → Prop) : phi_law_right ds R → WS K (t_law_right K) (.pot p :: (ds.map Ent.val ++ List.replicate (n_law_right.length - (ds.length + 1)) .unk)) { nx := fun _ => False, rt := R, ps := [p] } := by
  rintro ⟨rfl, h⟩
  show WS K (t_law_right K) [.pot p, .unk, .unk, .unk] _
  unfold t_law_right
  refine ws_seq ?_
  walk_at "we"
  refine ⟨by decide, small60 (by decide) (by decide), fun z z0 z1 => ?_⟩
  walk_at "we"
  · exact ⟨by decide, by decide +kernel⟩
  have zz : z / 7 = 0 ∨ z / 7 = 1 := by omega
  refine rd_ixAL (d := .int ((if z / 7 = 0 then (24 : Nat) else (60 : Nat) : Nat) : Int)) (by rcases zz with e | e <;> rw [e] <;> rfl) ?_
  walk_at "we"
  refine ⟨⟨by split <;> decide, by split <;> decide⟩, fun l g _ => ?_⟩
  have few := g.few
  have one : 1 ≤ l.length := by have := List.length_pos_iff.mpr g.ne; omega
  refine ws_seq ?_
  walk_at "we"
  rw [List.length_map]
  refine ⟨g, (by show 0 < l.length; omega), (by show l.length ≤ l.length; omega), ?_⟩
  walk_at "we"
  refine ws_seq ?_
  walk_at "we"
  refine ⟨by decide, by decide, ?_⟩
  refine ⟨fun i Δ => ∃ (e2 e3 : Ent), Δ = [.pot p, .val (.list (l.map pcD)), e2, e3], ⟨_, _, rfl⟩, ?_, ?_⟩
  · rintro i d Δ' hd ⟨e2, e3, rfl⟩
    refine wg_name ?_
    refine ws_seq ?_
    walk_at "we"
    rw [List.length_map]
    refine ⟨by omega, small60 (by omega) (by omega), fun f f0 f1 => ?_⟩
    obtain ⟨f, rfl⟩ : ∃ j : Nat, f = (j : Int) := ⟨f.toNat, by omega⟩
    walk_at "we"
    rw [List.length_map]
    refine ⟨by omega, small60 (by omega) (by omega), fun b b0 b1 => ?_⟩
    walk_at "we"
    rw [show (f : Int) + 1 + b = ((f + 1 + b.toNat : Nat) : Int) by omega]
    refine ⟨l, f, f + 1 + b.toNat, rfl, g, by omega, by omega, ?_⟩
    walk_at "we"
    exact ⟨_, _, rfl⟩
  · rintro Δ' ⟨e2, e3, rfl⟩
    walk_at "we"
    exact h
theorem ok_law_right {P : Program} {w : World} {K : PySem.W.Frag} {mg : Str → Option Value} {base : Heap} (D : Def K mg "_law_right" s_law_right) (h_law_items : HasG P w K mg base "_law_items" 35 ["_law_pot_here", "_law_most"] (SpD K phi_law_items)) (h_law_take : HasG P w K mg base "_law_take" 1 ["_law_pot_here", "_law_many"] (SpD K phi_law_take)) (h_law_middle_right : HasG P w K mg base "_law_middle_right" 37 ["_law_items_here", "_law_first", "_law_behind"] (SpF K phi_law_middle_right)) (m_len : mg "len" = none) (m_range : mg "range" = none) : HasG P w K mg base "_law_right" 38 ["_law_pot_here"] (SpD K phi_law_right) :=
  hasG_of D (fun _ _ F => F.binds (ps := ["_law_pot_here"]) fun _ _ _ _ _ _ us hl => match us, hl with | [_], _ => rfl) fun _ _ F => okDG (x0 := "") (N := n_law_right) (t := t_law_right K) F sc_law_right (by decide) len_law_right (fun cdv A outer s H E hr hG =>
  (pss_cons (ps_set (i := 1) sc_law_right.nd rfl (by first | exact Or.inl rfl | exact Or.inr rfl) (pe_callHG h_law_items (hr.mono (by decide)) hG (by rfl) (pa_cons (pv 0) (pa_cons (pe_ix ix_seq (pe_lst (pa_cons pe_int (pa_cons pe_int pa_nil))) (pe_op op_fdivW (pe_callHG h_law_take (hr.mono (by decide)) hG (by rfl) (pa_cons (pv 0) (pa_cons pe_int pa_nil))) pe_int) (fun _ _ => rfl)) pa_nil))))
  (pss_cons (ps_if (pt_not (pt_val (pe_callHG h_law_middle_right (hr.mono (by decide)) hG (by rfl) (pa_cons (pv 1) (pa_cons pe_int (pa_cons (pe_callB DL.c_len (by rfl) m_len (by decide +kernel) (pa_cons (pv 1) pa_nil)) pa_nil)))))) (pss_one (ps_ret pe_bl)) pss_nil)
  (pss_cons (ps_for PassesOwn.never rfl (pi_range1 (by rfl) m_range (pa_cons pe_int pa_nil)) (pg_name (i := 2) sc_law_right.nd rfl (by first | exact Or.inl rfl | exact Or.inr rfl)) (pss_cons (ps_set (i := 3) sc_law_right.nd rfl (by first | exact Or.inl rfl | exact Or.inr rfl) (pe_callHG h_law_take (hr.mono (by decide)) hG (by rfl) (pa_cons (pv 0) (pa_cons (pe_callB DL.c_len (by rfl) m_len (by decide +kernel) (pa_cons (pv 1) pa_nil)) pa_nil))))
  (pss_one (ps_if (pt_not (pt_val (pe_callHG h_law_middle_right (hr.mono (by decide)) hG (by rfl) (pa_cons (pv 1) (pa_cons (pv 3) (pa_cons (pe_op op_addA (pe_op op_addA (pv 3) pe_int) (pe_callHG h_law_take (hr.mono (by decide)) hG (by rfl) (pa_cons (pv 0) (pa_cons (pe_op op_sub (pe_callB DL.c_len (by rfl) m_len (by decide +kernel) (pa_cons (pv 1) pa_nil)) (pv 3)) pa_nil)))) pa_nil)))))) (pss_one (ps_ret pe_bl)) pss_nil))))
  (pss_one (ps_ret pe_bl)))))) ws_law_right
/-! ## _law_pot -/
def phi_law_pot (ds : List PyData) (R : Rs → Prop) : Prop := ∃ (ns : List Int) (k : Nat), ds = [.list (ns.map PyData.int), .int (k : Int)] ∧ k ≤ 100 ∧ ∀ x y : Int, 0 ≤ x → 0 ≤ y → y < 4294967296 → R (.n [.int x, .int y])
theorem len_law_pot : ∀ ds R, phi_law_pot ds R → ds.length = 2 := fun ds R ⟨c, k, h, _⟩ => by rw [h]; rfl
abbrev s_law_pot : Stmt := topS 28
abbrev n_law_pot : List Str := ["_law_script", "_law_k", "_law_cell"]
theorem sc_law_pot : FnScope n_law_pot ["_law_script", "_law_k"] (defScope s_law_pot) := ⟨rfl, rfl, rfl, by decide +kernel, rfl, by decide +kernel, by decide +kernel⟩
@[reducible] def t_law_pot_0 (K : PySem.W.Frag) : TS := (tRet (tLst (tCons (tCB rMax2' (tCons (tC (.int 0)) (tCons (tOp rSubI (tCB rAbs (tCons (tVar 2) tNil)) (tOp rPowI (tC (.int 10)) (tC (.int 18)))) tNil))) (tCons (tOp (rAddA K) (tOp (rAddA K) (tOp rModI (tCB rAbs (tCons (tVar 2) tNil)) (tC (.int 2147483629))) (tOp rMulA (tC (.int 977)) (tVar 1))) (tC (.int 1))) tNil))))
def t_law_pot (K : PySem.W.Frag) : TS := (tSeq (tAsg (tIf (tTest (tOp rLtI (tVar 1) (tCB (DL.rLen K) (tCons (tVar 0) tNil)))) (tOp (rIx K) (tVar 0) (tVar 1)) (tC (.int 0))) (gName 2))
  (t_law_pot_0 K))
theorem ws_law_pot {K : PySem.W.Frag} (ds : List PyData) (R : Rs → Prop) : phi_law_pot ds R → WS K (t_law_pot K) (ds.map Ent.val ++ List.replicate (n_law_pot.length - ds.length) .unk) { nx := fun _ => R (.v .none), rt := R } := by
  rintro ⟨ns, k, rfl, hk, h⟩
  show WS K (t_law_pot K) [.val (.list (ns.map PyData.int)), .val (.int (k : Int)), .unk] _
  unfold t_law_pot
  have rest : ∀ c : Int, WS K (tRet (tLst (tCons (tCB rMax2' (tCons (tC (.int 0)) (tCons (tOp rSubI (tCB rAbs (tCons (tVar 2) tNil)) (tOp rPowI (tC (.int 10)) (tC (.int 18)))) tNil))) (tCons (tOp (rAddA K) (tOp (rAddA K) (tOp rModI (tCB rAbs (tCons (tVar 2) tNil)) (tC (.int 2147483629))) (tOp rMulA (tC (.int 977)) (tVar 1))) (tC (.int 1))) tNil)))) [.val (.list (ns.map PyData.int)), .val (.int (k : Int)), .val (.int c)] { nx := fun _ => R (.v .none), rt := R } := by
    intro c
    walk_at "dl"
    · exact ⟨by decide, by decide, by decide⟩
    · show (0 : Int) < 2147483629
      decide
    · exact mulx_ok (a := 10) (b := 10) (by decide) (by show (k : Int).natAbs < 1024; omega) (by decide)
    · have a1 := Int.emod_nonneg (if c < 0 then -c else c) (show (2147483629 : Int) ≠ 0 by decide)
      have a2 := Int.emod_lt_of_pos (if c < 0 then -c else c) (show (0 : Int) < 2147483629 by decide)
      refine ⟨by show 2 ≤ 100000; decide, h _ _ ?_ ?_ ?_⟩
      · split <;> omega
      · omega
      · omega
  refine ws_seq (ws_asg (we_if ?_))
  walk_at "dl"
  rw [List.length_map]
  refine if_d (fun c => ?_) (fun c => ?_)
  · obtain ⟨x, hx, hat⟩ := at_map (f := PyData.int) (l := ns) (j := (k : Int)) (by omega) c rfl
    refine we_op (we_var rfl (we_var rfl (rd_ixAL hat ?_)))
    exact rest x
  · exact we_int (rest 0)
theorem ok_law_pot {P : Program} {w : World} {K : PySem.W.Frag} {mg : Str → Option Value} {base : Heap} (D : Def K mg "_law_pot" s_law_pot) (m_len : mg "len" = none) (m_abs : mg "abs" = none) (m_max : mg "max" = none) : HasG P w K mg base "_law_pot" 1 ["_law_script", "_law_k"] (SpF K phi_law_pot) :=
  hasG_of D (fun _ _ F => F.binds (ps := ["_law_script", "_law_k"]) fun _ _ _ _ _ _ us hl => match us, hl with | [_, _], _ => rfl) fun _ _ F => okFG (N := n_law_pot) (t := t_law_pot K) F sc_law_pot len_law_pot (fun cdv A outer s H E hr hG =>
  (pss_cons (ps_set (i := 2) sc_law_pot.nd rfl (by first | exact Or.inl rfl | exact Or.inr rfl) (pe_ifExp (pt_cmpR op_lt (pv 1) (pe_callB DL.c_len (by rfl) m_len (by decide +kernel) (pa_cons (pv 0) pa_nil)) (nomark _)) (pe_ix ix_seq (pv 0) (pv 1) (fun _ _ => rfl)) pe_int))
  (pss_one (ps_ret (pe_lst (pa_cons (pe_callB (c_max2 rfl) (by rfl) m_max (by decide +kernel) (pa_cons pe_int (pa_cons (pe_op op_sub (pe_callB c_abs (by rfl) m_abs (by decide +kernel) (pa_cons (pv 2) pa_nil)) (pe_op op_pow pe_int pe_int)) pa_nil))) (pa_cons (pe_op op_addA (pe_op op_addA (pe_op op_mod (pe_callB c_abs (by rfl) m_abs (by decide +kernel) (pa_cons (pv 2) pa_nil)) pe_int) (pe_op op_mulA pe_int (pv 1))) pe_int) pa_nil))))))) ws_law_pot
/-! ## law -/
abbrev s_law : Stmt := topS 45
abbrev n_law : List Str := ["_law_script", "_law_k"]
theorem sc_law : FnScope n_law ["_law_script"] (defScope s_law) := ⟨rfl, rfl, rfl, by decide +kernel, rfl, by decide +kernel, by decide +kernel⟩
@[reducible] def t_law_0 (K : PySem.W.Frag) : TS := (tRet (tC (.bl true)))
def t_law (K : PySem.W.Frag) : TS := (tSeq (tFor (iRng1 (tCons (tCB rMax2' (tCons (tC (.int 1)) (tCons (tCB rMin2' (tCons (tCB (DL.rLen K) (tCons (tVar 0) tNil)) (tCons (tC (.int 3)) tNil))) tNil))) tNil)) (gName 1) (tIfS (tNot (tB (tCall (SpD K phi_law_right) [] E0 (tCons (tCall (SpF K phi_law_pot) [] E0 (tCons (tVar 0) (tCons (tVar 1) tNil))) tNil)))) (tRet (tC (.bl false))) tNext))
  (t_law_0 K))
theorem ws_law {K : PySem.W.Frag} (ds : List PyData) (R : Rs → Prop) : phi_law ds R → WS K (t_law K) (ds.map Ent.val ++ List.replicate (n_law.length - ds.length) .unk) { nx := fun _ => R (.v .none), rt := R } := by
  rintro ⟨ns, rfl, hlen, h⟩
  show WS K (t_law K) [.val (.list (ns.map PyData.int)), .unk] _
  unfold t_law
  walk_at "dl"
  refine ⟨by omega, by omega, fun i Δ => ∃ e1 : Ent, Δ = [.val (.list (ns.map PyData.int)), e1], ⟨.unk, rfl⟩, ?_, ?_⟩
  · rintro i d Δ' hd ⟨e1, rfl⟩
    obtain ⟨hi, rfl⟩ := rng_get hd
    have hi2 : i ≤ 100 := by
      rw [List.length_map] at hi
      omega
    rw [show (0 : Int) + (i : Int) = (i : Int) by omega]
    refine wg_name ?_
    walk_at "dl"
    refine ⟨hi2, fun x y x0 y0 y1 => ⟨x, y, rfl, x0, y0, y1, rfl, ?_⟩⟩
    walk_at "dl"
    exact ⟨_, rfl⟩
  · rintro Δ' ⟨e1, rfl⟩
    walk_at "dl"
    exact h
theorem ok_law_fn {P : Program} {w : World} {K : PySem.W.Frag} {mg : Str → Option Value} {base : Heap} {f : Addr} {fd : FuncData} (F : Fun K "law" "law" s_law f fd) (h_law_right : HasG P w K mg base "_law_right" 38 ["_law_pot_here"] (SpD K phi_law_right)) (h_law_pot : HasG P w K mg base "_law_pot" 1 ["_law_script", "_law_k"] (SpF K phi_law_pot)) (m_range : mg "range" = none) (m_max : mg "max" = none) (m_min : mg "min" = none) (m_len : mg "len" = none) : FnG P w K mg base CX0 39 f fd ["_law_script"] (SpF K phi_law) :=
  okFG (N := n_law) (t := t_law K) F sc_law len_law (fun cdv A outer s H E hr hG =>
  (pss_cons (ps_for PassesOwn.never rfl (pi_range1 (by rfl) m_range (pa_cons (pe_callB (c_max2 rfl) (by rfl) m_max (by decide +kernel) (pa_cons pe_int (pa_cons (pe_callB (c_min2 rfl) (by rfl) m_min (by decide +kernel) (pa_cons (pe_callB DL.c_len (by rfl) m_len (by decide +kernel) (pa_cons (pv 0) pa_nil)) (pa_cons pe_int pa_nil))) pa_nil))) pa_nil)) (pg_name (i := 1) sc_law.nd rfl (by first | exact Or.inl rfl | exact Or.inr rfl)) (pss_one (ps_if (pt_not (pt_val (pe_callHG h_law_right (hr.mono (by decide)) hG (by rfl) (pa_cons (pe_callHG h_law_pot (hr.mono (by decide)) hG (by rfl) (pa_cons (pv 0) (pa_cons (pv 1) pa_nil))) pa_nil)))) (pss_one (ps_ret pe_bl)) pss_nil)))
  (pss_one (ps_ret pe_bl)))) ws_law
theorem all_mk {l : PySem.W.OpenLaw} {w : World} {K : PySem.W.Frag} {h : Heap} {mg : Str → Option Value} {fa : Addr} (X : K.In h) (G : h.Ns mainGlobals mg) (hfa : mg "law" = some (.ref fa)) (htr : l.prog.given.tree = none)
    {ga_NOUGHT : Addr} {go_NOUGHT : Option Addr} {gt_NOUGHT gu_NOUGHT : Tok} {gn_NOUGHT : Nat} {gs_NOUGHT : Array (Option Value)} {od0 an0 : Option Addr} {sl0 : Array (Option Value)} {oc0 kV0 dc0 pm0 cd0 ct0 : Value} {f0 : Addr} {od1 an1 : Option Addr} {sl1 : Array (Option Value)} {oc1 kV1 dc1 pm1 cd1 ct1 : Value} {f1 : Addr} {od2 an2 : Option Addr} {sl2 : Array (Option Value)} {oc2 kV2 dc2 pm2 cd2 ct2 : Value} {f2 : Addr} {od3 an3 : Option Addr} {sl3 : Array (Option Value)} {oc3 kV3 dc3 pm3 cd3 ct3 : Value} {f3 : Addr} {od4 an4 : Option Addr} {sl4 : Array (Option Value)} {oc4 kV4 dc4 pm4 cd4 ct4 : Value} {f4 : Addr} {od5 an5 : Option Addr} {sl5 : Array (Option Value)} {oc5 kV5 dc5 pm5 cd5 ct5 : Value} {f5 : Addr} {od6 an6 : Option Addr} {sl6 : Array (Option Value)} {oc6 kV6 dc6 pm6 cd6 ct6 : Value} {f6 : Addr} {od7 an7 : Option Addr} {sl7 : Array (Option Value)} {oc7 kV7 dc7 pm7 cd7 ct7 : Value} {f7 : Addr} {od8 an8 : Option Addr} {sl8 : Array (Option Value)} {oc8 kV8 dc8 pm8 cd8 ct8 : Value} {f8 : Addr} {od9 an9 : Option Addr} {sl9 : Array (Option Value)} {oc9 kV9 dc9 pm9 cd9 ct9 : Value} {f9 : Addr} {od10 an10 : Option Addr} {sl10 : Array (Option Value)} {oc10 kV10 dc10 pm10 cd10 ct10 : Value} {f10 : Addr} {od11 an11 : Option Addr} {sl11 : Array (Option Value)} {oc11 kV11 dc11 pm11 cd11 ct11 : Value} {f11 : Addr} {od12 an12 : Option Addr} {sl12 : Array (Option Value)} {oc12 kV12 dc12 pm12 cd12 ct12 : Value} {f12 : Addr} {od13 an13 : Option Addr} {sl13 : Array (Option Value)} {oc13 kV13 dc13 pm13 cd13 ct13 : Value} {f13 : Addr} {od14 an14 : Option Addr} {sl14 : Array (Option Value)} {oc14 kV14 dc14 pm14 cd14 ct14 : Value} {f14 : Addr} {od15 an15 : Option Addr} {sl15 : Array (Option Value)} {oc15 kV15 dc15 pm15 cd15 ct15 : Value} {f15 : Addr} {od16 an16 : Option Addr} {sl16 : Array (Option Value)} {oc16 kV16 dc16 pm16 cd16 ct16 : Value} {f16 : Addr} {od17 an17 : Option Addr} {sl17 : Array (Option Value)} {oc17 kV17 dc17 pm17 cd17 ct17 : Value} {f17 : Addr} {od18 an18 : Option Addr} {sl18 : Array (Option Value)} {oc18 kV18 dc18 pm18 cd18 ct18 : Value} {f18 : Addr} {od19 an19 : Option Addr} {sl19 : Array (Option Value)} {oc19 kV19 dc19 pm19 cd19 ct19 : Value} {f19 : Addr} {od20 an20 : Option Addr} {sl20 : Array (Option Value)} {oc20 kV20 dc20 pm20 cd20 ct20 : Value} {f20 : Addr} {od21 an21 : Option Addr} {sl21 : Array (Option Value)} {oc21 kV21 dc21 pm21 cd21 ct21 : Value} {f21 : Addr} {od22 an22 : Option Addr} {sl22 : Array (Option Value)} {oc22 kV22 dc22 pm22 cd22 ct22 : Value} {f22 : Addr} {od23 an23 : Option Addr} {sl23 : Array (Option Value)} {oc23 kV23 dc23 pm23 cd23 ct23 : Value} {f23 : Addr} {od24 an24 : Option Addr} {sl24 : Array (Option Value)} {oc24 kV24 dc24 pm24 cd24 ct24 : Value} {f24 : Addr} {od25 an25 : Option Addr} {sl25 : Array (Option Value)} {oc25 kV25 dc25 pm25 cd25 ct25 : Value} {f25 : Addr} {od26 an26 : Option Addr} {sl26 : Array (Option Value)} {oc26 kV26 dc26 pm26 cd26 ct26 : Value} {f26 : Addr} {od27 an27 : Option Addr} {sl27 : Array (Option Value)} {oc27 kV27 dc27 pm27 cd27 ct27 : Value} {f27 : Addr} {od28 an28 : Option Addr} {sl28 : Array (Option Value)} {oc28 kV28 dc28 pm28 cd28 ct28 : Value} {f28 : Addr} {od29 an29 : Option Addr} {sl29 : Array (Option Value)} {oc29 kV29 dc29 pm29 cd29 ct29 : Value} {f29 : Addr} {od30 an30 : Option Addr} {sl30 : Array (Option Value)} {oc30 kV30 dc30 pm30 cd30 ct30 : Value} {f30 : Addr} {od31 an31 : Option Addr} {sl31 : Array (Option Value)} {oc31 kV31 dc31 pm31 cd31 ct31 : Value} {f31 : Addr} {od32 an32 : Option Addr} {sl32 : Array (Option Value)} {oc32 kV32 dc32 pm32 cd32 ct32 : Value} {f32 : Addr} {od33 an33 : Option Addr} {sl33 : Array (Option Value)} {oc33 kV33 dc33 pm33 cd33 ct33 : Value} {f33 : Addr} {od34 an34 : Option Addr} {sl34 : Array (Option Value)} {oc34 kV34 dc34 pm34 cd34 ct34 : Value} {f34 : Addr} {od35 an35 : Option Addr} {sl35 : Array (Option Value)} {oc35 kV35 dc35 pm35 cd35 ct35 : Value} {f35 : Addr} {od36 an36 : Option Addr} {sl36 : Array (Option Value)} {oc36 kV36 dc36 pm36 cd36 ct36 : Value} {f36 : Addr} 
    (a0 : PySem.W.nsIn K mainGlobals "_law_take" = some (some (.ref f0))) (l0 : K.lookup f0 = some ⟨oc0, od0, .func (PySem.W.fnOf "_law_take" "_law_take" (defArgs s_law_take) (defBody s_law_take) (defScope s_law_take) .none kV0 dc0 pm0 an0 cd0 ct0), sl0⟩) (c0 : PySem.W.codeIn K cd0 "_law_take" = true) (k0 : PySem.W.keepIn K (.ref f0) = true) 
    (a1 : PySem.W.nsIn K mainGlobals "_law_low" = some (some (.ref f1))) (l1 : K.lookup f1 = some ⟨oc1, od1, .func (PySem.W.fnOf "_law_low" "_law_low" (defArgs s_law_low) (defBody s_law_low) (defScope s_law_low) .none kV1 dc1 pm1 an1 cd1 ct1), sl1⟩) (c1 : PySem.W.codeIn K cd1 "_law_low" = true) (k1 : PySem.W.keepIn K (.ref f1) = true) 
    (a2 : PySem.W.nsIn K mainGlobals "_law_value" = some (some (.ref f2))) (l2 : K.lookup f2 = some ⟨oc2, od2, .func (PySem.W.fnOf "_law_value" "_law_value" (defArgs s_law_value) (defBody s_law_value) (defScope s_law_value) .none kV2 dc2 pm2 an2 cd2 ct2), sl2⟩) (c2 : PySem.W.codeIn K cd2 "_law_value" = true) (k2 : PySem.W.keepIn K (.ref f2) = true) 
    (a3 : PySem.W.nsIn K mainGlobals "_law_price" = some (some (.ref f3))) (l3 : K.lookup f3 = some ⟨oc3, od3, .func (PySem.W.fnOf "_law_price" "_law_price" (defArgs s_law_price) (defBody s_law_price) (defScope s_law_price) .none kV3 dc3 pm3 an3 cd3 ct3), sl3⟩) (c3 : PySem.W.codeIn K cd3 "_law_price" = true) (k3 : PySem.W.keepIn K (.ref f3) = true) 
    (a4 : PySem.W.nsIn K mainGlobals "_law_items" = some (some (.ref f4))) (l4 : K.lookup f4 = some ⟨oc4, od4, .func (PySem.W.fnOf "_law_items" "_law_items" (defArgs s_law_items) (defBody s_law_items) (defScope s_law_items) .none kV4 dc4 pm4 an4 cd4 ct4), sl4⟩) (c4 : PySem.W.codeIn K cd4 "_law_items" = true) (k4 : PySem.W.keepIn K (.ref f4) = true) 
    (a5 : PySem.W.nsIn K mainGlobals "is_whole" = some (some (.ref f5))) (l5 : K.lookup f5 = some ⟨oc5, od5, .func (PySem.W.fnOf "is_whole" "is_whole" (defArgs s_is_whole) (defBody s_is_whole) (defScope s_is_whole) .none kV5 dc5 pm5 an5 cd5 ct5), sl5⟩) (c5 : PySem.W.codeIn K cd5 "is_whole" = true) (k5 : PySem.W.keepIn K (.ref f5) = true) 
    (a6 : PySem.W.nsIn K mainGlobals "common" = some (some (.ref f6))) (l6 : K.lookup f6 = some ⟨oc6, od6, .func (PySem.W.fnOf "common" "common" (defArgs s_common) (defBody s_common) (defScope s_common) .none kV6 dc6 pm6 an6 cd6 ct6), sl6⟩) (c6 : PySem.W.codeIn K cd6 "common" = true) (k6 : PySem.W.keepIn K (.ref f6) = true) 
    (a7 : PySem.W.nsIn K mainGlobals "is_fraction" = some (some (.ref f7))) (l7 : K.lookup f7 = some ⟨oc7, od7, .func (PySem.W.fnOf "is_fraction" "is_fraction" (defArgs s_is_fraction) (defBody s_is_fraction) (defScope s_is_fraction) .none kV7 dc7 pm7 an7 cd7 ct7), sl7⟩) (c7 : PySem.W.codeIn K cd7 "is_fraction" = true) (k7 : PySem.W.keepIn K (.ref f7) = true) 
    (a8 : PySem.W.nsIn K mainGlobals "are_fractions" = some (some (.ref f8))) (l8 : K.lookup f8 = some ⟨oc8, od8, .func (PySem.W.fnOf "are_fractions" "are_fractions" (defArgs s_are_fractions) (defBody s_are_fractions) (defScope s_are_fractions) .none kV8 dc8 pm8 an8 cd8 ct8), sl8⟩) (c8 : PySem.W.codeIn K cd8 "are_fractions" = true) (k8 : PySem.W.keepIn K (.ref f8) = true) 
    (a9 : PySem.W.nsIn K mainGlobals "is_below" = some (some (.ref f9))) (l9 : K.lookup f9 = some ⟨oc9, od9, .func (PySem.W.fnOf "is_below" "is_below" (defArgs s_is_below) (defBody s_is_below) (defScope s_is_below) .none kV9 dc9 pm9 an9 cd9 ct9), sl9⟩) (c9 : PySem.W.codeIn K cd9 "is_below" = true) (k9 : PySem.W.keepIn K (.ref f9) = true) 
    (a10 : PySem.W.nsIn K mainGlobals "is_above" = some (some (.ref f10))) (l10 : K.lookup f10 = some ⟨oc10, od10, .func (PySem.W.fnOf "is_above" "is_above" (defArgs s_is_above) (defBody s_is_above) (defScope s_is_above) .none kV10 dc10 pm10 an10 cd10 ct10), sl10⟩) (c10 : PySem.W.codeIn K cd10 "is_above" = true) (k10 : PySem.W.keepIn K (.ref f10) = true) 
    (a11 : PySem.W.nsIn K mainGlobals "is_priced_item" = some (some (.ref f11))) (l11 : K.lookup f11 = some ⟨oc11, od11, .func (PySem.W.fnOf "is_priced_item" "is_priced_item" (defArgs s_is_priced_item) (defBody s_is_priced_item) (defScope s_is_priced_item) .none kV11 dc11 pm11 an11 cd11 ct11), sl11⟩) (c11 : PySem.W.codeIn K cd11 "is_priced_item" = true) (k11 : PySem.W.keepIn K (.ref f11) = true) 
    (a12 : PySem.W.nsIn K mainGlobals "is_priced" = some (some (.ref f12))) (l12 : K.lookup f12 = some ⟨oc12, od12, .func (PySem.W.fnOf "is_priced" "is_priced" (defArgs s_is_priced) (defBody s_is_priced) (defScope s_is_priced) .none kV12 dc12 pm12 an12 cd12 ct12), sl12⟩) (c12 : PySem.W.codeIn K cd12 "is_priced" = true) (k12 : PySem.W.keepIn K (.ref f12) = true) 
    (a13 : PySem.W.nsIn K mainGlobals "want_priced" = some (some (.ref f13))) (l13 : K.lookup f13 = some ⟨oc13, od13, .func (PySem.W.fnOf "want_priced" "want_priced" (defArgs s_want_priced) (defBody s_want_priced) (defScope s_want_priced) .none kV13 dc13 pm13 an13 cd13 ct13), sl13⟩) (c13 : PySem.W.codeIn K cd13 "want_priced" = true) (k13 : PySem.W.keepIn K (.ref f13) = true) 
    (a14 : PySem.W.nsIn K mainGlobals "want_stretch" = some (some (.ref f14))) (l14 : K.lookup f14 = some ⟨oc14, od14, .func (PySem.W.fnOf "want_stretch" "want_stretch" (defArgs s_want_stretch) (defBody s_want_stretch) (defScope s_want_stretch) .none kV14 dc14 pm14 an14 cd14 ct14), sl14⟩) (c14 : PySem.W.codeIn K cd14 "want_stretch" = true) (k14 : PySem.W.keepIn K (.ref f14) = true) 
    (a15 : PySem.W.nsIn K mainGlobals "least_of" = some (some (.ref f15))) (l15 : K.lookup f15 = some ⟨oc15, od15, .func (PySem.W.fnOf "least_of" "least_of" (defArgs s_least_of) (defBody s_least_of) (defScope s_least_of) .none kV15 dc15 pm15 an15 cd15 ct15), sl15⟩) (c15 : PySem.W.codeIn K cd15 "least_of" = true) (k15 : PySem.W.keepIn K (.ref f15) = true) 
    (a16 : PySem.W.nsIn K mainGlobals "greatest_of" = some (some (.ref f16))) (l16 : K.lookup f16 = some ⟨oc16, od16, .func (PySem.W.fnOf "greatest_of" "greatest_of" (defArgs s_greatest_of) (defBody s_greatest_of) (defScope s_greatest_of) .none kV16 dc16 pm16 an16 cd16 ct16), sl16⟩) (c16 : PySem.W.codeIn K cd16 "greatest_of" = true) (k16 : PySem.W.keepIn K (.ref f16) = true) 
    (a17 : PySem.W.nsIn K mainGlobals "opposite" = some (some (.ref f17))) (l17 : K.lookup f17 = some ⟨oc17, od17, .func (PySem.W.fnOf "opposite" "opposite" (defArgs s_opposite) (defBody s_opposite) (defScope s_opposite) .none kV17 dc17 pm17 an17 cd17 ct17), sl17⟩) (c17 : PySem.W.codeIn K cd17 "opposite" = true) (k17 : PySem.W.keepIn K (.ref f17) = true) 
    (a18 : PySem.W.nsIn K mainGlobals "pull_ends" = some (some (.ref f18))) (l18 : K.lookup f18 = some ⟨oc18, od18, .func (PySem.W.fnOf "pull_ends" "pull_ends" (defArgs s_pull_ends) (defBody s_pull_ends) (defScope s_pull_ends) .none kV18 dc18 pm18 an18 cd18 ct18), sl18⟩) (c18 : PySem.W.codeIn K cd18 "pull_ends" = true) (k18 : PySem.W.keepIn K (.ref f18) = true) 
    (a19 : PySem.W.nsIn K mainGlobals "lowest" = some (some (.ref f19))) (l19 : K.lookup f19 = some ⟨oc19, od19, .func (PySem.W.fnOf "lowest" "lowest" (defArgs s_lowest) (defBody s_lowest) (defScope s_lowest) .none kV19 dc19 pm19 an19 cd19 ct19), sl19⟩) (c19 : PySem.W.codeIn K cd19 "lowest" = true) (k19 : PySem.W.keepIn K (.ref f19) = true) 
    (a20 : PySem.W.nsIn K mainGlobals "plus" = some (some (.ref f20))) (l20 : K.lookup f20 = some ⟨oc20, od20, .func (PySem.W.fnOf "plus" "plus" (defArgs s_plus) (defBody s_plus) (defScope s_plus) .none kV20 dc20 pm20 an20 cd20 ct20), sl20⟩) (c20 : PySem.W.codeIn K cd20 "plus" = true) (k20 : PySem.W.keepIn K (.ref f20) = true) 
    (a21 : PySem.W.nsIn K mainGlobals "sums_at" = some (some (.ref f21))) (l21 : K.lookup f21 = some ⟨oc21, od21, .func (PySem.W.fnOf "sums_at" "sums_at" (defArgs s_sums_at) (defBody s_sums_at) (defScope s_sums_at) .none kV21 dc21 pm21 an21 cd21 ct21), sl21⟩) (c21 : PySem.W.codeIn K cd21 "sums_at" = true) (k21 : PySem.W.keepIn K (.ref f21) = true) 
    (a22 : PySem.W.nsIn K mainGlobals "middle" = some (some (.ref f22))) (l22 : K.lookup f22 = some ⟨oc22, od22, .func (PySem.W.fnOf "middle" "middle" (defArgs s_middle) (defBody s_middle) (defScope s_middle) .none kV22 dc22 pm22 an22 cd22 ct22), sl22⟩) (c22 : PySem.W.codeIn K cd22 "middle" = true) (k22 : PySem.W.keepIn K (.ref f22) = true) 
    (a23 : PySem.W.nsIn K mainGlobals "_law_below" = some (some (.ref f23))) (l23 : K.lookup f23 = some ⟨oc23, od23, .func (PySem.W.fnOf "_law_below" "_law_below" (defArgs s_law_below) (defBody s_law_below) (defScope s_law_below) .none kV23 dc23 pm23 an23 cd23 ct23), sl23⟩) (c23 : PySem.W.codeIn K cd23 "_law_below" = true) (k23 : PySem.W.keepIn K (.ref f23) = true) 
    (a24 : PySem.W.nsIn K mainGlobals "_law_in_turn" = some (some (.ref f24))) (l24 : K.lookup f24 = some ⟨oc24, od24, .func (PySem.W.fnOf "_law_in_turn" "_law_in_turn" (defArgs s_law_in_turn) (defBody s_law_in_turn) (defScope s_law_in_turn) .none kV24 dc24 pm24 an24 cd24 ct24), sl24⟩) (c24 : PySem.W.codeIn K cd24 "_law_in_turn" = true) (k24 : PySem.W.keepIn K (.ref f24) = true) 
    (a25 : PySem.W.nsIn K mainGlobals "_law_plus" = some (some (.ref f25))) (l25 : K.lookup f25 = some ⟨oc25, od25, .func (PySem.W.fnOf "_law_plus" "_law_plus" (defArgs s_law_plus) (defBody s_law_plus) (defScope s_law_plus) .none kV25 dc25 pm25 an25 cd25 ct25), sl25⟩) (c25 : PySem.W.codeIn K cd25 "_law_plus" = true) (k25 : PySem.W.keepIn K (.ref f25) = true) 
    (a26 : PySem.W.nsIn K mainGlobals "_law_spots" = some (some (.ref f26))) (l26 : K.lookup f26 = some ⟨oc26, od26, .func (PySem.W.fnOf "_law_spots" "_law_spots" (defArgs s_law_spots) (defBody s_law_spots) (defScope s_law_spots) .none kV26 dc26 pm26 an26 cd26 ct26), sl26⟩) (c26 : PySem.W.codeIn K cd26 "_law_spots" = true) (k26 : PySem.W.keepIn K (.ref f26) = true) 
    (a27 : PySem.W.nsIn K mainGlobals "heap_pulls" = some (some (.ref f27))) (l27 : K.lookup f27 = some ⟨oc27, od27, .func (PySem.W.fnOf "heap_pulls" "heap_pulls" (defArgs s_heap_pulls) (defBody s_heap_pulls) (defScope s_heap_pulls) .none kV27 dc27 pm27 an27 cd27 ct27), sl27⟩) (c27 : PySem.W.codeIn K cd27 "heap_pulls" = true) (k27 : PySem.W.keepIn K (.ref f27) = true) 
    (a28 : PySem.W.nsIn K mainGlobals "_law_opposite" = some (some (.ref f28))) (l28 : K.lookup f28 = some ⟨oc28, od28, .func (PySem.W.fnOf "_law_opposite" "_law_opposite" (defArgs s_law_opposite) (defBody s_law_opposite) (defScope s_law_opposite) .none kV28 dc28 pm28 an28 cd28 ct28), sl28⟩) (c28 : PySem.W.codeIn K cd28 "_law_opposite" = true) (k28 : PySem.W.keepIn K (.ref f28) = true) 
    (a29 : PySem.W.nsIn K mainGlobals "_law_pull" = some (some (.ref f29))) (l29 : K.lookup f29 = some ⟨oc29, od29, .func (PySem.W.fnOf "_law_pull" "_law_pull" (defArgs s_law_pull) (defBody s_law_pull) (defScope s_law_pull) .none kV29 dc29 pm29 an29 cd29 ct29), sl29⟩) (c29 : PySem.W.codeIn K cd29 "_law_pull" = true) (k29 : PySem.W.keepIn K (.ref f29) = true) 
    (a30 : PySem.W.nsIn K mainGlobals "_law_sums" = some (some (.ref f30))) (l30 : K.lookup f30 = some ⟨oc30, od30, .func (PySem.W.fnOf "_law_sums" "_law_sums" (defArgs s_law_sums) (defBody s_law_sums) (defScope s_law_sums) .none kV30 dc30 pm30 an30 cd30 ct30), sl30⟩) (c30 : PySem.W.codeIn K cd30 "_law_sums" = true) (k30 : PySem.W.keepIn K (.ref f30) = true) 
    (a31 : PySem.W.nsIn K mainGlobals "_law_costs_least" = some (some (.ref f31))) (l31 : K.lookup f31 = some ⟨oc31, od31, .func (PySem.W.fnOf "_law_costs_least" "_law_costs_least" (defArgs s_law_costs_least) (defBody s_law_costs_least) (defScope s_law_costs_least) .none kV31 dc31 pm31 an31 cd31 ct31), sl31⟩) (c31 : PySem.W.codeIn K cd31 "_law_costs_least" = true) (k31 : PySem.W.keepIn K (.ref f31) = true) 
    (a32 : PySem.W.nsIn K mainGlobals "_law_is_fraction" = some (some (.ref f32))) (l32 : K.lookup f32 = some ⟨oc32, od32, .func (PySem.W.fnOf "_law_is_fraction" "_law_is_fraction" (defArgs s_law_is_fraction) (defBody s_law_is_fraction) (defScope s_law_is_fraction) .none kV32 dc32 pm32 an32 cd32 ct32), sl32⟩) (c32 : PySem.W.codeIn K cd32 "_law_is_fraction" = true) (k32 : PySem.W.keepIn K (.ref f32) = true) 
    (a33 : PySem.W.nsIn K mainGlobals "_law_middle_right" = some (some (.ref f33))) (l33 : K.lookup f33 = some ⟨oc33, od33, .func (PySem.W.fnOf "_law_middle_right" "_law_middle_right" (defArgs s_law_middle_right) (defBody s_law_middle_right) (defScope s_law_middle_right) .none kV33 dc33 pm33 an33 cd33 ct33), sl33⟩) (c33 : PySem.W.codeIn K cd33 "_law_middle_right" = true) (k33 : PySem.W.keepIn K (.ref f33) = true) 
    (a34 : PySem.W.nsIn K mainGlobals "_law_right" = some (some (.ref f34))) (l34 : K.lookup f34 = some ⟨oc34, od34, .func (PySem.W.fnOf "_law_right" "_law_right" (defArgs s_law_right) (defBody s_law_right) (defScope s_law_right) .none kV34 dc34 pm34 an34 cd34 ct34), sl34⟩) (c34 : PySem.W.codeIn K cd34 "_law_right" = true) (k34 : PySem.W.keepIn K (.ref f34) = true) 
    (a35 : PySem.W.nsIn K mainGlobals "_law_pot" = some (some (.ref f35))) (l35 : K.lookup f35 = some ⟨oc35, od35, .func (PySem.W.fnOf "_law_pot" "_law_pot" (defArgs s_law_pot) (defBody s_law_pot) (defScope s_law_pot) .none kV35 dc35 pm35 an35 cd35 ct35), sl35⟩) (c35 : PySem.W.codeIn K cd35 "_law_pot" = true) (k35 : PySem.W.keepIn K (.ref f35) = true) 
    (a36 : PySem.W.nsIn K mainGlobals "law" = some (some (.ref f36))) (l36 : K.lookup f36 = some ⟨oc36, od36, .func (PySem.W.fnOf "law" "law" (defArgs s_law) (defBody s_law) (defScope s_law) .none kV36 dc36 pm36 an36 cd36 ct36), sl36⟩) (c36 : PySem.W.codeIn K cd36 "law" = true) (k36 : PySem.W.keepIn K (.ref f36) = true) 
    (z_divmod : PySem.W.nsIn K mainGlobals "divmod" = some none) 
    (z_abs : PySem.W.nsIn K mainGlobals "abs" = some none) 
    (z_len : PySem.W.nsIn K mainGlobals "len" = some none) 
    (z_int : PySem.W.nsIn K mainGlobals "int" = some none) 
    (z_range : PySem.W.nsIn K mainGlobals "range" = some none) 
    (z_isinstance : PySem.W.nsIn K mainGlobals "isinstance" = some none) 
    (z_bool : PySem.W.nsIn K mainGlobals "bool" = some none) 
    (z_tuple : PySem.W.nsIn K mainGlobals "tuple" = some none) 
    (z_all : PySem.W.nsIn K mainGlobals "all" = some none) 
    (z_list : PySem.W.nsIn K mainGlobals "list" = some none) 
    (z_zip : PySem.W.nsIn K mainGlobals "zip" = some none) 
    (z_any : PySem.W.nsIn K mainGlobals "any" = some none) 
    (z_repr : PySem.W.nsIn K mainGlobals "repr" = some none) 
    (z_max : PySem.W.nsIn K mainGlobals "max" = some none) 
    (z_min : PySem.W.nsIn K mainGlobals "min" = some none) 
    (x_NOUGHT : PySem.W.nsIn K mainGlobals "NOUGHT" = some (some (.ref ga_NOUGHT))) (y_NOUGHT : K.lookup ga_NOUGHT = some ⟨.type "tuple", go_NOUGHT, .seq #[.int 0 gt_NOUGHT, .int 1 gu_NOUGHT] gn_NOUGHT, gs_NOUGHT⟩) :
    ∃ fd : FuncData, (∀ (s : Shared) (v : Value), BindsTo s fd ⟨[v], []⟩ [("_law_script", v)]) ∧ ∀ base : Heap, K.In base → base.Ns mainGlobals mg → base.NoSeer → FnG l.prog w K mg base CX0 39 fa fd ["_law_script"] (spLaw K) := by
  have e := hfa.symm.trans (PySem.W.mg_of X G a36)
  cases e
  have m_divmod : mg "divmod" = none := PySem.W.mg_none_of X G z_divmod
  have m_abs : mg "abs" = none := PySem.W.mg_none_of X G z_abs
  have m_len : mg "len" = none := PySem.W.mg_none_of X G z_len
  have m_int : mg "int" = none := PySem.W.mg_none_of X G z_int
  have m_range : mg "range" = none := PySem.W.mg_none_of X G z_range
  have m_isinstance : mg "isinstance" = none := PySem.W.mg_none_of X G z_isinstance
  have m_bool : mg "bool" = none := PySem.W.mg_none_of X G z_bool
  have m_tuple : mg "tuple" = none := PySem.W.mg_none_of X G z_tuple
  have m_all : mg "all" = none := PySem.W.mg_none_of X G z_all
  have m_list : mg "list" = none := PySem.W.mg_none_of X G z_list
  have m_zip : mg "zip" = none := PySem.W.mg_none_of X G z_zip
  have m_any : mg "any" = none := PySem.W.mg_none_of X G z_any
  have m_repr : mg "repr" = none := PySem.W.mg_none_of X G z_repr
  have m_max : mg "max" = none := PySem.W.mg_none_of X G z_max
  have m_min : mg "min" = none := PySem.W.mg_none_of X G z_min
  have g_NOUGHT : Gc K mg "NOUGHT" (qD 0) := gc_tup2 X G x_NOUGHT y_NOUGHT
  have D_law_take : Def K mg "_law_take" s_law_take := ⟨f0, _, fun_mk (st := s_law_take) l0 c0 k0, PySem.W.mg_of X G a0⟩
  have D_law_low : Def K mg "_law_low" s_law_low := ⟨f1, _, fun_mk (st := s_law_low) l1 c1 k1, PySem.W.mg_of X G a1⟩
  have D_law_value : Def K mg "_law_value" s_law_value := ⟨f2, _, fun_mk (st := s_law_value) l2 c2 k2, PySem.W.mg_of X G a2⟩
  have D_law_price : Def K mg "_law_price" s_law_price := ⟨f3, _, fun_mk (st := s_law_price) l3 c3 k3, PySem.W.mg_of X G a3⟩
  have D_law_items : Def K mg "_law_items" s_law_items := ⟨f4, _, fun_mk (st := s_law_items) l4 c4 k4, PySem.W.mg_of X G a4⟩
  have D_is_whole : Def K mg "is_whole" s_is_whole := ⟨f5, _, fun_mk (st := s_is_whole) l5 c5 k5, PySem.W.mg_of X G a5⟩
  have D_common : Def K mg "common" s_common := ⟨f6, _, fun_mk (st := s_common) l6 c6 k6, PySem.W.mg_of X G a6⟩
  have D_is_fraction : Def K mg "is_fraction" s_is_fraction := ⟨f7, _, fun_mk (st := s_is_fraction) l7 c7 k7, PySem.W.mg_of X G a7⟩
  have D_are_fractions : Def K mg "are_fractions" s_are_fractions := ⟨f8, _, fun_mk (st := s_are_fractions) l8 c8 k8, PySem.W.mg_of X G a8⟩
  have D_is_below : Def K mg "is_below" s_is_below := ⟨f9, _, fun_mk (st := s_is_below) l9 c9 k9, PySem.W.mg_of X G a9⟩
  have D_is_above : Def K mg "is_above" s_is_above := ⟨f10, _, fun_mk (st := s_is_above) l10 c10 k10, PySem.W.mg_of X G a10⟩
  have D_is_priced_item : Def K mg "is_priced_item" s_is_priced_item := ⟨f11, _, fun_mk (st := s_is_priced_item) l11 c11 k11, PySem.W.mg_of X G a11⟩
  have D_is_priced : Def K mg "is_priced" s_is_priced := ⟨f12, _, fun_mk (st := s_is_priced) l12 c12 k12, PySem.W.mg_of X G a12⟩
  have D_want_priced : Def K mg "want_priced" s_want_priced := ⟨f13, _, fun_mk (st := s_want_priced) l13 c13 k13, PySem.W.mg_of X G a13⟩
  have D_want_stretch : Def K mg "want_stretch" s_want_stretch := ⟨f14, _, fun_mk (st := s_want_stretch) l14 c14 k14, PySem.W.mg_of X G a14⟩
  have D_least_of : Def K mg "least_of" s_least_of := ⟨f15, _, fun_mk (st := s_least_of) l15 c15 k15, PySem.W.mg_of X G a15⟩
  have D_greatest_of : Def K mg "greatest_of" s_greatest_of := ⟨f16, _, fun_mk (st := s_greatest_of) l16 c16 k16, PySem.W.mg_of X G a16⟩
  have D_opposite : Def K mg "opposite" s_opposite := ⟨f17, _, fun_mk (st := s_opposite) l17 c17 k17, PySem.W.mg_of X G a17⟩
  have D_pull_ends : Def K mg "pull_ends" s_pull_ends := ⟨f18, _, fun_mk (st := s_pull_ends) l18 c18 k18, PySem.W.mg_of X G a18⟩
  have D_lowest : Def K mg "lowest" s_lowest := ⟨f19, _, fun_mk (st := s_lowest) l19 c19 k19, PySem.W.mg_of X G a19⟩
  have D_plus : Def K mg "plus" s_plus := ⟨f20, _, fun_mk (st := s_plus) l20 c20 k20, PySem.W.mg_of X G a20⟩
  have D_sums_at : Def K mg "sums_at" s_sums_at := ⟨f21, _, fun_mk (st := s_sums_at) l21 c21 k21, PySem.W.mg_of X G a21⟩
  have D_middle : Def K mg "middle" s_middle := ⟨f22, _, fun_mk (st := s_middle) l22 c22 k22, PySem.W.mg_of X G a22⟩
  have D_law_below : Def K mg "_law_below" s_law_below := ⟨f23, _, fun_mk (st := s_law_below) l23 c23 k23, PySem.W.mg_of X G a23⟩
  have D_law_in_turn : Def K mg "_law_in_turn" s_law_in_turn := ⟨f24, _, fun_mk (st := s_law_in_turn) l24 c24 k24, PySem.W.mg_of X G a24⟩
  have D_law_plus : Def K mg "_law_plus" s_law_plus := ⟨f25, _, fun_mk (st := s_law_plus) l25 c25 k25, PySem.W.mg_of X G a25⟩
  have D_law_spots : Def K mg "_law_spots" s_law_spots := ⟨f26, _, fun_mk (st := s_law_spots) l26 c26 k26, PySem.W.mg_of X G a26⟩
  have D_heap_pulls : Def K mg "heap_pulls" s_heap_pulls := ⟨f27, _, fun_mk (st := s_heap_pulls) l27 c27 k27, PySem.W.mg_of X G a27⟩
  have D_law_opposite : Def K mg "_law_opposite" s_law_opposite := ⟨f28, _, fun_mk (st := s_law_opposite) l28 c28 k28, PySem.W.mg_of X G a28⟩
  have D_law_pull : Def K mg "_law_pull" s_law_pull := ⟨f29, _, fun_mk (st := s_law_pull) l29 c29 k29, PySem.W.mg_of X G a29⟩
  have D_law_sums : Def K mg "_law_sums" s_law_sums := ⟨f30, _, fun_mk (st := s_law_sums) l30 c30 k30, PySem.W.mg_of X G a30⟩
  have D_law_costs_least : Def K mg "_law_costs_least" s_law_costs_least := ⟨f31, _, fun_mk (st := s_law_costs_least) l31 c31 k31, PySem.W.mg_of X G a31⟩
  have D_law_is_fraction : Def K mg "_law_is_fraction" s_law_is_fraction := ⟨f32, _, fun_mk (st := s_law_is_fraction) l32 c32 k32, PySem.W.mg_of X G a32⟩
  have D_law_middle_right : Def K mg "_law_middle_right" s_law_middle_right := ⟨f33, _, fun_mk (st := s_law_middle_right) l33 c33 k33, PySem.W.mg_of X G a33⟩
  have D_law_right : Def K mg "_law_right" s_law_right := ⟨f34, _, fun_mk (st := s_law_right) l34 c34 k34, PySem.W.mg_of X G a34⟩
  have D_law_pot : Def K mg "_law_pot" s_law_pot := ⟨f35, _, fun_mk (st := s_law_pot) l35 c35 k35, PySem.W.mg_of X G a35⟩
  refine ⟨PySem.W.fnOf "law" "law" (defArgs s_law) (defBody s_law) (defScope s_law) .none kV36 dc36 pm36 an36 cd36 ct36, fun s v => .of_eq rfl, fun base _ _ hse => ?_⟩
  have h_law_take := ok_law_take (P := l.prog) (w := w) (base := base) D_law_take m_divmod
  have h_law_low := ok_law_low (P := l.prog) (w := w) (base := base) D_law_low m_abs hse htr
  have h_law_value := ok_law_value (P := l.prog) (w := w) (base := base) D_law_value h_law_take h_law_low m_len
  have h_law_price := ok_law_price (P := l.prog) (w := w) (base := base) D_law_price h_law_take h_law_low
  have h_law_items := ok_law_items (P := l.prog) (w := w) (base := base) D_law_items h_law_take h_law_value h_law_price m_int m_range
  have h_is_whole := ok_is_whole (P := l.prog) (w := w) (base := base) D_is_whole m_isinstance m_int m_bool
  have h_common := ok_common (P := l.prog) (w := w) (base := base) D_common m_abs
  have h_is_fraction := ok_is_fraction (P := l.prog) (w := w) (base := base) D_is_fraction h_is_whole h_common m_isinstance m_tuple m_len
  have h_are_fractions := ok_are_fractions (P := l.prog) (w := w) (base := base) D_are_fractions h_is_fraction m_isinstance m_tuple m_len m_all
  have h_is_below := ok_is_below (P := l.prog) (w := w) (base := base) D_is_below
  have h_is_above := ok_is_above (P := l.prog) (w := w) (base := base) D_is_above h_is_below g_NOUGHT
  have h_is_priced_item := ok_is_priced_item (P := l.prog) (w := w) (base := base) D_is_priced_item h_are_fractions h_is_above
  have h_is_priced := ok_is_priced (P := l.prog) (w := w) (base := base) D_is_priced h_is_priced_item m_isinstance m_list m_all
  have h_want_priced := ok_want_priced (P := l.prog) (w := w) (base := base) D_want_priced h_is_priced
  have h_want_stretch := ok_want_stretch (P := l.prog) (w := w) (base := base) D_want_stretch h_is_whole
  have h_least_of := ok_least_of (P := l.prog) (w := w) (base := base) D_least_of h_is_below
  have h_greatest_of := ok_greatest_of (P := l.prog) (w := w) (base := base) D_greatest_of h_is_below
  have h_opposite := ok_opposite (P := l.prog) (w := w) (base := base) D_opposite
  have h_pull_ends := ok_pull_ends (P := l.prog) (w := w) (base := base) D_pull_ends h_is_below h_opposite
  have h_lowest := ok_lowest (P := l.prog) (w := w) (base := base) D_lowest h_common hse htr
  have h_plus := ok_plus (P := l.prog) (w := w) (base := base) D_plus h_lowest
  have h_sums_at := ok_sums_at (P := l.prog) (w := w) (base := base) D_sums_at h_pull_ends h_plus g_NOUGHT
  have h_middle := ok_middle (P := l.prog) (w := w) (base := base) D_middle h_want_priced h_want_stretch h_is_below h_sums_at h_greatest_of h_least_of m_len g_NOUGHT
  have h_law_below := ok_law_below (P := l.prog) (w := w) (base := base) D_law_below
  have h_law_in_turn := ok_law_in_turn (P := l.prog) (w := w) (base := base) D_law_in_turn h_law_below m_len
  have h_law_plus := ok_law_plus (P := l.prog) (w := w) (base := base) D_law_plus h_law_low
  have h_law_spots := ok_law_spots (P := l.prog) (w := w) (base := base) D_law_spots h_law_in_turn h_law_plus h_law_low m_zip
  have h_heap_pulls := ok_heap_pulls (P := l.prog) (w := w) (base := base) D_heap_pulls h_want_priced h_want_stretch h_sums_at m_len
  have h_law_opposite := ok_law_opposite (P := l.prog) (w := w) (base := base) D_law_opposite
  have h_law_pull := ok_law_pull (P := l.prog) (w := w) (base := base) D_law_pull h_law_below h_law_opposite
  have h_law_sums := ok_law_sums (P := l.prog) (w := w) (base := base) D_law_sums h_law_pull h_law_plus
  have h_law_costs_least := ok_law_costs_least (P := l.prog) (w := w) (base := base) D_law_costs_least h_law_sums
  have h_law_is_fraction := ok_law_is_fraction (P := l.prog) (w := w) (base := base) D_law_is_fraction h_law_low m_isinstance m_tuple m_len m_any m_bool m_all m_int
  have h_law_middle_right := ok_law_middle_right (P := l.prog) (w := w) (base := base) D_law_middle_right h_middle h_law_is_fraction h_law_costs_least h_law_spots h_law_below h_heap_pulls h_law_sums m_list m_isinstance m_tuple m_len m_all m_repr
  have h_law_right := ok_law_right (P := l.prog) (w := w) (base := base) D_law_right h_law_items h_law_take h_law_middle_right m_len m_range
  have h_law_pot := ok_law_pot (P := l.prog) (w := w) (base := base) D_law_pot m_len m_abs m_max
  exact ok_law_fn (fun_mk (st := s_law) l36 c36 k36) h_law_right h_law_pot m_range m_max m_min m_len
end My
open PySem PySem.W PyProof.Rows
set_option maxRecDepth 100000 in
set_option maxHeartbeats 0 in
theorem PySem.Challenge.cw_risingmeans_k31_middles_told_holds : PySem.Challenge.rw_risingmeans_k31_middles_told.Holds := by
  w_on; o_law; k_head; (case hw => w_witness2)
  k_fill
  refine DL.walk_ofG (l := PySem.Challenge.rw_risingmeans_k31_middles_told) (n := 63) (k := 39) (x := "_law_script") (CX := fun _ => L2.CX0) (sp := fun w => DL.spLaw _) rfl (by decide) rfl ⟨rfl, by decide, by decide⟩ (by decide +kernel) (fun w h Y => PySem.W.kIn_of Y) ?F (fun _ H a ns hl hO hS => DL.law_start H a ns hl hS) (fun _ _ _ _ _ h => h)
  case F =>
    intro w mg fa h KX G hmg
    refine' My.all_mk KX G hmg rfl ?a0 ?l0 ?c0 ?k0 ?a1 ?l1 ?c1 ?k1 ?a2 ?l2 ?c2 ?k2 ?a3 ?l3 ?c3 ?k3 ?a4 ?l4 ?c4 ?k4 ?a5 ?l5 ?c5 ?k5 ?a6 ?l6 ?c6 ?k6 ?a7 ?l7 ?c7 ?k7 ?a8 ?l8 ?c8 ?k8 ?a9 ?l9 ?c9 ?k9 ?a10 ?l10 ?c10 ?k10 ?a11 ?l11 ?c11 ?k11 ?a12 ?l12 ?c12 ?k12 ?a13 ?l13 ?c13 ?k13 ?a14 ?l14 ?c14 ?k14 ?a15 ?l15 ?c15 ?k15 ?a16 ?l16 ?c16 ?k16 ?a17 ?l17 ?c17 ?k17 ?a18 ?l18 ?c18 ?k18 ?a19 ?l19 ?c19 ?k19 ?a20 ?l20 ?c20 ?k20 ?a21 ?l21 ?c21 ?k21 ?a22 ?l22 ?c22 ?k22 ?a23 ?l23 ?c23 ?k23 ?a24 ?l24 ?c24 ?k24 ?a25 ?l25 ?c25 ?k25 ?a26 ?l26 ?c26 ?k26 ?a27 ?l27 ?c27 ?k27 ?a28 ?l28 ?c28 ?k28 ?a29 ?l29 ?c29 ?k29 ?a30 ?l30 ?c30 ?k30 ?a31 ?l31 ?c31 ?k31 ?a32 ?l32 ?c32 ?k32 ?a33 ?l33 ?c33 ?k33 ?a34 ?l34 ?c34 ?k34 ?a35 ?l35 ?c35 ?k35 ?a36 ?l36 ?c36 ?k36 ?z_divmod ?z_abs ?z_len ?z_int ?z_range ?z_isinstance ?z_bool ?z_tuple ?z_all ?z_list ?z_zip ?z_any ?z_repr ?z_max ?z_min ?x_NOUGHT ?y_NOUGHT
    (case a0 => k_is)
    (case l0 => k_is)
    (case c0 => k_is)
    (case k0 => k_is)
    (case a1 => k_is)
    (case l1 => k_is)
    (case c1 => k_is)
    (case k1 => k_is)
    (case a2 => k_is)
    (case l2 => k_is)
    (case c2 => k_is)
    (case k2 => k_is)
    (case a3 => k_is)
    (case l3 => k_is)
    (case c3 => k_is)
    (case k3 => k_is)
    (case a4 => k_is)
    (case l4 => k_is)
    (case c4 => k_is)
    (case k4 => k_is)
    (case a5 => k_is)
    (case l5 => k_is)
    (case c5 => k_is)
    (case k5 => k_is)
    (case a6 => k_is)
    (case l6 => k_is)
    (case c6 => k_is)
    (case k6 => k_is)
    (case a7 => k_is)
    (case l7 => k_is)
    (case c7 => k_is)
    (case k7 => k_is)
    (case a8 => k_is)
    (case l8 => k_is)
    (case c8 => k_is)
    (case k8 => k_is)
    (case a9 => k_is)
    (case l9 => k_is)
    (case c9 => k_is)
    (case k9 => k_is)
    (case a10 => k_is)
    (case l10 => k_is)
    (case c10 => k_is)
    (case k10 => k_is)
    (case a11 => k_is)
    (case l11 => k_is)
    (case c11 => k_is)
    (case k11 => k_is)
    (case a12 => k_is)
    (case l12 => k_is)
    (case c12 => k_is)
    (case k12 => k_is)
    (case a13 => k_is)
    (case l13 => k_is)
    (case c13 => k_is)
    (case k13 => k_is)
    (case a14 => k_is)
    (case l14 => k_is)
    (case c14 => k_is)
    (case k14 => k_is)
    (case a15 => k_is)
    (case l15 => k_is)
    (case c15 => k_is)
    (case k15 => k_is)
    (case a16 => k_is)
    (case l16 => k_is)
    (case c16 => k_is)
    (case k16 => k_is)
    (case a17 => k_is)
    (case l17 => k_is)
    (case c17 => k_is)
    (case k17 => k_is)
    (case a18 => k_is)
    (case l18 => k_is)
    (case c18 => k_is)
    (case k18 => k_is)
    (case a19 => k_is)
    (case l19 => k_is)
    (case c19 => k_is)
    (case k19 => k_is)
    (case a20 => k_is)
    (case l20 => k_is)
    (case c20 => k_is)
    (case k20 => k_is)
    (case a21 => k_is)
    (case l21 => k_is)
    (case c21 => k_is)
    (case k21 => k_is)
    (case a22 => k_is)
    (case l22 => k_is)
    (case c22 => k_is)
    (case k22 => k_is)
    (case a23 => k_is)
    (case l23 => k_is)
    (case c23 => k_is)
    (case k23 => k_is)
    (case a24 => k_is)
    (case l24 => k_is)
    (case c24 => k_is)
    (case k24 => k_is)
    (case a25 => k_is)
    (case l25 => k_is)
    (case c25 => k_is)
    (case k25 => k_is)
    (case a26 => k_is)
    (case l26 => k_is)
    (case c26 => k_is)
    (case k26 => k_is)
    (case a27 => k_is)
    (case l27 => k_is)
    (case c27 => k_is)
    (case k27 => k_is)
    (case a28 => k_is)
    (case l28 => k_is)
    (case c28 => k_is)
    (case k28 => k_is)
    (case a29 => k_is)
    (case l29 => k_is)
    (case c29 => k_is)
    (case k29 => k_is)
    (case a30 => k_is)
    (case l30 => k_is)
    (case c30 => k_is)
    (case k30 => k_is)
    (case a31 => k_is)
    (case l31 => k_is)
    (case c31 => k_is)
    (case k31 => k_is)
    (case a32 => k_is)
    (case l32 => k_is)
    (case c32 => k_is)
    (case k32 => k_is)
    (case a33 => k_is)
    (case l33 => k_is)
    (case c33 => k_is)
    (case k33 => k_is)
    (case a34 => k_is)
    (case l34 => k_is)
    (case c34 => k_is)
    (case k34 => k_is)
    (case a35 => k_is)
    (case l35 => k_is)
    (case c35 => k_is)
    (case k35 => k_is)
    (case a36 => k_is)
    (case l36 => k_is)
    (case c36 => k_is)
    (case k36 => k_is)
    (case z_divmod => k_is)
    (case z_abs => k_is)
    (case z_len => k_is)
    (case z_int => k_is)
    (case z_range => k_is)
    (case z_isinstance => k_is)
    (case z_bool => k_is)
    (case z_tuple => k_is)
    (case z_all => k_is)
    (case z_list => k_is)
    (case z_zip => k_is)
    (case z_any => k_is)
    (case z_repr => k_is)
    (case z_max => k_is)
    (case z_min => k_is)
    (case x_NOUGHT => k_is)
    (case y_NOUGHT => k_is)
#print axioms PySem.Challenge.cw_risingmeans_k31_middles_told_holds
