import PyProof.Rows.All
import Wide.All
import OpenK.AllK
import Wide.FinOn
import HandS.ForMost
import HandS.ForExc
import HandS.Evl
import HandS.WideBits
import HandS.Deep
import HandS.Style
import HandS.IsInst
import HandS.Flow
import HandS.Zip
import PySem.Challenge.RW_risingmeans_k13_least_and_greatest
set_option Elab.async false
set_option linter.all false
set_option maxRecDepth 100000
/-! DL1: a data level over the layer: what a reading does, told by pure data (PyData); heaps stay inside. -/
namespace DL
open PySem L2 Evl
/-! ### heaps less some addresses -/
def wo (H : Hp) (O : List Addr) : Hp := fun a => if a ∈ O then none else H a
theorem wo_in {H : Hp} {O : List Addr} {a : Addr} (h : a ∉ O) : wo H O a = H a := if_neg h
theorem wo_out {H : Hp} {O : List Addr} {a : Addr} (h : a ∈ O) : wo H O a = none := if_pos h
theorem wo_some {H : Hp} {O : List Addr} {a : Addr} {o : HO} (h : wo H O a = some o) : a ∉ O ∧ H a = some o := by
  by_cases m : a ∈ O
  · rw [wo_out m] at h; cases h
  · rw [wo_in m] at h; exact ⟨m, h⟩
theorem wo_mk {H : Hp} {O : List Addr} {a : Addr} {o : HO} (m : a ∉ O) (h : H a = some o) : wo H O a = some o := by rw [wo_in m]; exact h
theorem wo_ex {H : Hp} {O : List Addr} : Ex (wo H O) H := fun _ _ h => (wo_some h).2
theorem wo_sub {H : Hp} {O O' : List Addr} (h : ∀ a, a ∈ O' → a ∈ O) : Ex (wo H O) (wo H O') := fun a o e => by
  obtain ⟨m, e⟩ := wo_some e
  exact wo_mk (fun q => m (h a q)) e
theorem wo_le {H H' : Hp} {O : List Addr} (h : Ex H H') : Ex (wo H O) (wo H' O) := fun a o e => by
  obtain ⟨m, e⟩ := wo_some e
  exact wo_mk m (h a o e)
theorem wo_app {H H' : Hp} {A O : List Addr} (h : Ex (wo H O) (wo H' O)) : Ex (wo H (A ++ O)) (wo H' (A ++ O)) := fun a o e => by
  obtain ⟨m, e⟩ := wo_some e
  have m2 : a ∉ O := fun q => m (List.mem_append_right _ q)
  exact wo_mk m (wo_some (h a o (wo_mk m2 e))).2
theorem wo_nil {H : Hp} : wo H [] = H := by
  funext a
  exact wo_in (by simp)
theorem ne_none {H : Hp} {a : Addr} (h : H a ≠ none) : ∃ o, H a = some o := by
  cases e : H a with
  | none => exact absurd e h
  | some o => exact ⟨o, rfl⟩
/-! ### data stay -/
end DL
namespace L2
open PySem Evl DL
section
variable {K : PySem.W.Frag} {H H' : Hp}
mutual
theorem dp_mono (e : Ex H H') : ∀ (d : PyData) (v : V), Dp K H v d → Dp K H' v d
  | .none, _, h => by cases h; exact .non
  | .bool b, _, h => by cases h; exact .bl b
  | .int i, _, h => by cases h; exact .int i
  | .str x, _, h => by cases h; exact .str x
  | .list ds, _, h => by cases h with | lst hs ha => exact .lst (ex_l e hs) (dpa_mono e ds _ ha)
  | .tuple ds, _, h => by cases h with | tup hs ha => exact .tup (ex_t e hs) (dpa_mono e ds _ ha)
  | .dict _, _, h => by cases h
theorem dpa_mono (e : Ex H H') : ∀ (ds : List PyData) (vs : List V), DpAll K H vs ds → DpAll K H' vs ds
  | [], _, h => by cases h; exact .nil
  | d :: ds, _, h => by cases h with | cons h1 h2 => exact .cons (dp_mono e d _ h1) (dpa_mono e ds _ h2)
end
theorem Dp.up {v : V} {d : PyData} (h : Dp K H v d) (e : Ex H H') : Dp K H' v d := dp_mono e d v h
theorem DpAll.up {vs : List V} {ds : List PyData} (h : DpAll K H vs ds) (e : Ex H H') : DpAll K H' vs ds := dpa_mono e ds vs h
theorem DpAll.length : ∀ {vs : List V} {ds : List PyData}, DpAll K H vs ds → vs.length = ds.length
  | _, _, .nil => rfl
  | _, _, .cons _ t => by rw [List.length_cons, List.length_cons, DpAll.length t]
theorem DpAll.get : ∀ {vs : List V} {ds : List PyData} {i : Nat} {d : PyData}, DpAll K H vs ds → ds[i]? = some d → ∃ v, vs[i]? = some v ∧ Dp K H v d
  | _, _, _, _, .nil, e => by simp at e
  | _, _, 0, _, .cons h _, e => by simp at e; subst e; exact ⟨_, rfl, h⟩
  | _, _, i + 1, d, .cons _ t, e => by
    obtain ⟨v, h1, h2⟩ := DpAll.get (i := i) (d := d) t (by simpa using e)
    exact ⟨v, by simpa using h1, h2⟩
theorem DpAll.app : ∀ {vs ws : List V} {ds es : List PyData}, DpAll K H vs ds → DpAll K H ws es → DpAll K H (vs ++ ws) (ds ++ es)
  | _, _, _, _, .nil, s => s
  | _, _, _, _, .cons r t, s => .cons r (DpAll.app t s)
theorem DpAll.take : ∀ {vs : List V} {ds : List PyData} (n : Nat), DpAll K H vs ds → DpAll K H (vs.take n) (ds.take n)
  | _, _, 0, _ => .nil
  | _, _, _ + 1, .nil => .nil
  | _, _, n + 1, .cons r t => .cons r (DpAll.take n t)
theorem DpAll.drop : ∀ {vs : List V} {ds : List PyData} (n : Nat), DpAll K H vs ds → DpAll K H (vs.drop n) (ds.drop n)
  | _, _, 0, r => r
  | _, _, _ + 1, .nil => .nil
  | _, _, n + 1, .cons _ t => DpAll.drop n t
theorem DpAll.rev : ∀ {vs : List V} {ds : List PyData}, DpAll K H vs ds → DpAll K H vs.reverse ds.reverse
  | _, _, .nil => .nil
  | _, _, .cons r t => by
    rw [List.reverse_cons, List.reverse_cons]
    exact DpAll.app (DpAll.rev t) (.cons r .nil)
theorem DpAll.set {x : V} {d : PyData} (r : Dp K H x d) : ∀ {vs : List V} {ds : List PyData} (i : Nat), DpAll K H vs ds → DpAll K H (vs.set i x) (ds.set i d)
  | _, _, _, .nil => .nil
  | _, _, 0, .cons _ t => .cons r t
  | _, _, i + 1, .cons q t => .cons q (DpAll.set r i t)
theorem DpAll.ints (ns : List Int) : DpAll K H (ns.map V.int) (ns.map PyData.int) := by
  induction ns with
  | nil => exact .nil
  | cons n r ih => exact .cons (.int n) ih
theorem DpAll.ints_inv : ∀ {vs : List V} {ns : List Int}, DpAll K H vs (ns.map PyData.int) → vs = ns.map V.int
  | _, [], h => by cases h; rfl
  | _, n :: r, h => by
    cases h with
    | cons h1 h2 =>
      cases h1
      rw [DpAll.ints_inv h2]
      rfl
theorem DpAll.bls_inv : ∀ {vs : List V} {ns : List Bool}, DpAll K H vs (ns.map PyData.bool) → vs = ns.map V.bl
  | _, [], h => by cases h; rfl
  | _, n :: r, h => by
    cases h with
    | cons h1 h2 =>
      cases h1
      rw [DpAll.bls_inv h2]
      rfl
theorem DpAll.strs_inv : ∀ {vs : List V} {ns : List Str}, DpAll K H vs (ns.map PyData.str) → vs = ns.map V.str
  | _, [], h => by cases h; rfl
  | _, n :: r, h => by
    cases h with
    | cons h1 h2 =>
      cases h1
      rw [DpAll.strs_inv h2]
      rfl
theorem DpAll.at {vs : List V} {ds : List PyData} {i : Int} {d : PyData} (h : DpAll K H vs ds) (e : atI ds i = some d) : ∃ v, atI vs i = some v ∧ Dp K H v d := by
  unfold atI at e ⊢
  rw [h.length]
  cases hj : ixN ds.length i with
  | none => rw [hj] at e; cases e
  | some j =>
    rw [hj] at e
    exact h.get (show ds[j]? = some d from e)
theorem DpAll.rep {vs : List V} {ds : List PyData} (h : DpAll K H vs ds) : ∀ n : Nat, DpAll K H (List.replicate n vs).flatten (List.replicate n ds).flatten
  | 0 => .nil
  | n + 1 => by
    rw [List.replicate_succ, List.replicate_succ, List.flatten_cons, List.flatten_cons]
    exact h.app (h.rep n)
end
end L2
namespace DL
open PySem L2 Evl
/-! ### what an expression gives: a thing, or a list that is new -/
inductive Rs where
  | v (d : PyData)
  | n (ds : List PyData)
@[reducible] def Rs.d : Rs → PyData
  | .v d => d
  | .n ds => .list ds
def ResOk (K : PySem.W.Frag) (H H' : Hp) (A : List Addr) (v : V) : Rs → Prop
  | .v d => Dp K (wo H' A) v d
  | .n ds => ∃ l xs, v = .ref l ∧ H l = none ∧ l ∉ A ∧ H' l = some (.lst xs) ∧ DpAll K (wo H' (l :: A)) xs ds
theorem ResOk.dp {K : PySem.W.Frag} {H H' : Hp} {A : List Addr} {v : V} {r : Rs} (h : ResOk K H H' A v r) : Dp K (wo H' A) v r.d := by
  cases r with
  | v d => exact h
  | n ds =>
    obtain ⟨l, xs, rfl, _, hA, e, q⟩ := h
    exact .lst (.inl (.inl (wo_mk hA e))) (q.up (wo_sub fun a m => List.mem_cons_of_mem _ m))
/-! ### what a slot holds -/
inductive Ent where
  | unk
  | val (d : PyData)
  | own (l : Addr) (ds : List PyData)
  | pot (l : Addr)
def Ent.ad : Ent → List Addr
  | .own l _ => [l]
  | .pot l => [l]
  | _ => []
def ads : List Ent → List Addr
  | [] => []
  | e :: r => e.ad ++ ads r
def Ent.pt : Ent → List Addr
  | .pot l => [l]
  | _ => []
def pts : List Ent → List Addr
  | [] => []
  | e :: r => e.pt ++ pts r
theorem pts_ads : ∀ {Δ : List Ent} {a : Addr}, a ∈ pts Δ → a ∈ ads Δ
  | x :: r, a, h => by
    rcases List.mem_append.mp (show a ∈ x.pt ++ pts r from h) with h | h
    · refine List.mem_append_left _ ?_
      cases x with
      | pot l => exact h
      | unk => cases h
      | val d => cases h
      | own l ds => cases h
    · exact List.mem_append_right _ (pts_ads h)
/-- all that is tracked stays, but for the pots -/
def Kp (Δ : List Ent) (H H' : Hp) : Prop := Ex (wo H (pts Δ)) (wo H' (pts Δ))
theorem Kp.refl {Δ : List Ent} {H : Hp} : Kp Δ H H := fun _ _ z => z
theorem Kp.trans {Δ : List Ent} {H1 H2 H3 : Hp} (a : Kp Δ H1 H2) (b : Kp Δ H2 H3) : Kp Δ H1 H3 := fun x o z => b x o (a x o z)
theorem Kp.of {Δ : List Ent} {H1 H2 : Hp} (a : Ex H1 H2) : Kp Δ H1 H2 := wo_le a
theorem wo_more {H H' : Hp} {P O : List Addr} (h : Ex (wo H P) (wo H' P)) (s : ∀ a, a ∈ P → a ∈ O) : Ex (wo H O) (wo H' O) := fun a o e => by
  obtain ⟨m, e⟩ := wo_some e
  exact wo_mk m (wo_some (h a o (wo_mk (fun q => m (s a q)) e))).2
theorem Kp.ads {Δ : List Ent} {H1 H2 : Hp} (h : Kp Δ H1 H2) : Ex (wo H1 (ads Δ)) (wo H2 (ads Δ)) := wo_more h fun _ m => pts_ads m
theorem Kp.all {A : List Addr} {Δ : List Ent} {H1 H2 : Hp} (h : Kp Δ H1 H2) : Ex (wo H1 (A ++ DL.ads Δ)) (wo H2 (A ++ DL.ads Δ)) := wo_app h.ads
def PotAt (H : Hp) (l : Addr) : Prop := ∃ x y : Int, H l = some (.lst [.int x, .int y]) ∧ 0 ≤ x ∧ 0 ≤ y ∧ y < 2147483648
def EntOk (K : PySem.W.Frag) (H : Hp) (O : List Addr) (o : Option (Option V)) : Ent → Prop
  | .unk => True
  | .val d => ∃ v, o = some (some v) ∧ Dp K (wo H O) v d
  | .own l ds => o = some (some (.ref l)) ∧ ∃ xs, H l = some (.lst xs) ∧ DpAll K (wo H O) xs ds
  | .pot l => o = some (some (.ref l)) ∧ PotAt H l
structure Sit (K : PySem.W.Frag) (A : List Addr) (H0 H : Hp) (σ : L2.St) (Δ : List Ent) : Prop where
  base : Ex H0 (wo H (ads Δ))
  dom : ∀ a, a ∈ A → H0 a ≠ none
  ents : ∀ (i : Nat) (e : Ent), Δ[i]? = some e → EntOk K H (A ++ ads Δ) (σ[i]?) e
  nd : (ads Δ).Nodup
  len : σ.length = Δ.length
theorem ad_mem : ∀ {Δ : List Ent} {i : Nat} {e : Ent} {a : Addr}, Δ[i]? = some e → a ∈ e.ad → a ∈ ads Δ
  | [], _, _, _, h, _ => by simp at h
  | x :: r, 0, e, a, h, m => by
    simp at h; subst h
    exact List.mem_append_left _ m
  | x :: r, i + 1, e, a, h, m => List.mem_append_right _ (ad_mem (i := i) (by simpa using h) m)
theorem mem_ad : ∀ {Δ : List Ent} {a : Addr}, a ∈ ads Δ → ∃ (i : Nat) (e : Ent), Δ[i]? = some e ∧ a ∈ e.ad
  | x :: r, a, h => by
    rcases List.mem_append.mp h with h | h
    · exact ⟨0, x, rfl, h⟩
    · obtain ⟨i, e, h1, h2⟩ := mem_ad h
      exact ⟨i + 1, e, by simpa using h1, h2⟩
section
variable {K : PySem.W.Frag} {A : List Addr} {H0 H H' : Hp} {σ : L2.St} {Δ : List Ent}
/-- an owned address stands in the heap -/
theorem Sit.live (E : Sit K A H0 H σ Δ) {a : Addr} (h : a ∈ ads Δ) : ∃ o, H a = some o := by
  obtain ⟨i, e, h1, h2⟩ := mem_ad h
  have h3 := E.ents i e h1
  cases e with
  | unk => cases h2
  | val d => cases h2
  | own l ds =>
    have : a = l := by simpa [Ent.ad] using h2
    subst this
    obtain ⟨_, xs, q, _⟩ := h3
    exact ⟨_, q⟩
  | pot l =>
    have : a = l := by simpa [Ent.ad] using h2
    subst this
    obtain ⟨_, x, y, q, _⟩ := h3
    exact ⟨_, q⟩
theorem Sit.domA (E : Sit K A H0 H σ Δ) {a : Addr} (h : a ∈ A) : ∃ o, wo H (ads Δ) a = some o := by
  obtain ⟨o, q⟩ := ne_none (E.dom a h)
  exact ⟨o, E.base a o q⟩
/-- all avoided addresses stand in the heap -/
theorem Sit.domAll (E : Sit K A H0 H σ Δ) {a : Addr} (h : a ∈ A ++ ads Δ) : H a ≠ none := by
  rcases List.mem_append.mp h with h | h
  · obtain ⟨o, q⟩ := E.domA h
    rw [(wo_some q).2]
    simp
  · obtain ⟨o, q⟩ := E.live h
    rw [q]
    simp
/-- the heap grows, nothing that is tracked changes -/
theorem Sit.ext (E : Sit K A H0 H σ Δ) (e : Ex H H') : Sit K A H0 H' σ Δ := by
  refine ⟨fun a o h => wo_le e a o (E.base a o h), E.dom, fun i x hx => ?_, E.nd, E.len⟩
  have h := E.ents i x hx
  cases x with
  | unk => trivial
  | val d =>
    obtain ⟨v, h1, h2⟩ := h
    exact ⟨v, h1, h2.up (wo_le e)⟩
  | own l ds =>
    obtain ⟨h1, xs, h2, h3⟩ := h
    exact ⟨h1, xs, e _ _ h2, h3.up (wo_le e)⟩
  | pot l =>
    obtain ⟨h1, x, y, h2, h3⟩ := h
    exact ⟨h1, x, y, e _ _ h2, h3⟩
/-- a new place is new before -/
theorem Sit.fresh (E : Sit K A H0 H σ Δ) (e : Kp Δ H H') (E' : Sit K A H0 H' σ Δ) {l : Addr} (h : H' l = none) : H l = none := by
  cases q : H l with
  | none => rfl
  | some o =>
    by_cases m : l ∈ ads Δ
    · obtain ⟨o', q'⟩ := E'.live m
      rw [h] at q'; cases q'
    · have := (wo_some (e.ads l o (wo_mk m q))).2
      rw [h] at this; cases this
end
theorem ResOk.back {K : PySem.W.Frag} {A : List Addr} {H0 H1 H2 H3 : Hp} {σ : L2.St} {Δ : List Ent} {v : V} {r : Rs} (E1 : Sit K A H0 H1 σ Δ) (e : Kp Δ H1 H2) (E2 : Sit K A H0 H2 σ Δ) {O : List Addr} (h : ResOk K H2 H3 O v r) : ResOk K H1 H3 O v r := by
  cases r with
  | v d => exact h
  | n ds =>
    obtain ⟨l, xs, h1, h2, h3⟩ := h
    exact ⟨l, xs, h1, E1.fresh e E2 h2, h3⟩
/-! ### the judgements -/
/-- an expression's reading, by data -/
def WE (K : PySem.W.Frag) (te : TE) (Δ : List Ent) (Q : Rs → Prop) : Prop :=
  ∀ (A : List Addr) (H0 H : Hp) (σ : L2.St), Sit K A H0 H σ Δ → ∀ Qh : VK,
    (∀ v H' r, Kp Δ H H' → Sit K A H0 H' σ Δ → ResOk K H H' (A ++ ads Δ) v r → Q r → Qh v H') → te σ H Qh
def WT (K : PySem.W.Frag) (tt : TT) (Δ : List Ent) (Q : Bool → Prop) : Prop :=
  ∀ (A : List Addr) (H0 H : Hp) (σ : L2.St), Sit K A H0 H σ Δ → ∀ Qh : Bool → Hp → Prop,
    (∀ b H', Kp Δ H H' → Sit K A H0 H' σ Δ → Q b → Qh b H') → tt σ H Qh
def WA (K : PySem.W.Frag) (ta : TA) (Δ : List Ent) (Q : List PyData → Prop) : Prop :=
  ∀ (A : List Addr) (H0 H : Hp) (σ : L2.St), Sit K A H0 H σ Δ → ∀ Qh : List V → Hp → Prop,
    (∀ vs H' ds, Kp Δ H H' → Sit K A H0 H' σ Δ → DpAll K (wo H' (A ++ ads Δ)) vs ds → Q ds → Qh vs H') → ta σ H Qh
/-- an operation on two data -/
def RD (K : PySem.W.Frag) (r : R2) (d1 d2 : PyData) (Q : Rs → Prop) : Prop :=
  ∀ (A : List Addr) (H : Hp) (v1 v2 : V), Dp K (wo H A) v1 d1 → Dp K (wo H A) v2 d2 → (∀ a, a ∈ A → H a ≠ none) → ∀ Qh : VK,
    (∀ v H' rr, Ex H H' → ResOk K H H' A v rr → Q rr → Qh v H') → r v1 v2 H Qh
def RU1 (K : PySem.W.Frag) (r : V → Hp → VK → Prop) (d1 : PyData) (Q : Rs → Prop) : Prop :=
  ∀ (A : List Addr) (H : Hp) (v1 : V), Dp K (wo H A) v1 d1 → (∀ a, a ∈ A → H a ≠ none) → ∀ Qh : VK,
    (∀ v H' rr, Ex H H' → ResOk K H H' A v rr → Q rr → Qh v H') → r v1 H Qh
def CD (K : PySem.W.Frag) (r : List V → Hp → VK → Prop) (ds : List PyData) (Q : Rs → Prop) : Prop :=
  ∀ (A : List Addr) (H : Hp) (vs : List V), DpAll K (wo H A) vs ds → (∀ a, a ∈ A → H a ≠ none) → ∀ Qh : VK,
    (∀ v H' rr, Ex H H' → ResOk K H H' A v rr → Q rr → Qh v H') → r vs H Qh
section
variable {K : PySem.W.Frag} {Δ : List Ent} {ta tb te : TE} {t u : TT} {Q : Rs → Prop}
theorem we_imp {Q' : Rs → Prop} (h : WE K te Δ Q) (k : ∀ r, Q r → Q' r) : WE K te Δ Q' := fun A H0 H σ E Qh q => h A H0 H σ E Qh fun v H' r e E' ok z => q v H' r e E' ok (k r z)
theorem wt_imp {Q Q' : Bool → Prop} (h : WT K t Δ Q) (k : ∀ r, Q r → Q' r) : WT K t Δ Q' := fun A H0 H σ E Qh q => h A H0 H σ E Qh fun v H' e E' z => q v H' e E' (k v z)
theorem we_var {i : Nat} {d : PyData} (h : Δ[i]? = some (.val d)) (q : Q (.v d)) : WE K (tVar i) Δ Q := fun A H0 H σ E Qh k => by
  obtain ⟨v, e, hd⟩ := E.ents i _ h
  exact ⟨v, e, k v H (.v _) Kp.refl E hd q⟩
theorem we_int {i : Int} (q : Q (.v (.int i))) : WE K (tC (.int i)) Δ Q := fun A H0 H σ E Qh k => k _ H (.v _) Kp.refl E (Dp.int i) q
theorem we_bl {b : Bool} (q : Q (.v (.bool b))) : WE K (tC (.bl b)) Δ Q := fun A H0 H σ E Qh k => k _ H (.v _) Kp.refl E (Dp.bl b) q
theorem we_str {x : Str} (q : Q (.v (.str x))) : WE K (tC (.str x)) Δ Q := fun A H0 H σ E Qh k => k _ H (.v _) Kp.refl E (Dp.str x) q
theorem we_non (q : Q (.v .none)) : WE K (tC .non) Δ Q := fun A H0 H σ E Qh k => k _ H (.v _) Kp.refl E Dp.non q
theorem we_op {r : R2} (h : WE K ta Δ fun x => WE K tb Δ fun y => RD K r x.d y.d Q) : WE K (tOp r ta tb) Δ Q := fun A H0 H σ E Qh k =>
  h A H0 H σ E _ fun v1 H1 r1 e1 E1 o1 w1 => w1 A H0 H1 σ E1 _ fun v2 H2 r2 e2 E2 o2 w2 =>
    w2 (A ++ ads Δ) H2 v1 v2 (o1.dp.up e2.all) o2.dp (fun a m => E2.domAll m) Qh fun v H3 rr e3 o3 q =>
      k v H3 rr ((e1.trans e2).trans (Kp.of e3)) (E2.ext e3) (ResOk.back E (e1.trans e2) E2 o3) q
theorem we_un {r : V → Hp → VK → Prop} (h : WE K ta Δ fun x => RU1 K r x.d Q) : WE K (tUn r ta) Δ Q := fun A H0 H σ E Qh k =>
  h A H0 H σ E _ fun v1 H1 r1 e1 E1 o1 w1 => w1 (A ++ ads Δ) H1 v1 o1.dp (fun a m => E1.domAll m) Qh fun v H3 rr e3 o3 q =>
      k v H3 rr (e1.trans (Kp.of e3)) (E1.ext e3) (ResOk.back E e1 E1 o3) q
theorem wa_nil {Q : List PyData → Prop} (q : Q []) : WA K tNil Δ Q := fun A H0 H σ E Qh k => k _ H _ Kp.refl E .nil q
theorem wa_cons {tr : TA} {Q : List PyData → Prop} (h : WE K ta Δ fun x => WA K tr Δ fun ds => Q (x.d :: ds)) : WA K (tCons ta tr) Δ Q := fun A H0 H σ E Qh k =>
  h A H0 H σ E _ fun v1 H1 r1 e1 E1 o1 w1 => w1 A H0 H1 σ E1 _ fun vs H2 ds e2 E2 o2 q =>
    k (v1 :: vs) H2 (r1.d :: ds) (e1.trans e2) E2 (.cons (o1.dp.up e2.all) o2) q
theorem we_cb {r : List V → Hp → VK → Prop} {tr : TA} (h : WA K tr Δ fun ds => CD K r ds Q) : WE K (tCB r tr) Δ Q := fun A H0 H σ E Qh k =>
  h A H0 H σ E _ fun vs H1 ds e1 E1 o1 w1 => w1 (A ++ ads Δ) H1 vs o1 (fun a m => E1.domAll m) Qh fun v H3 rr e3 o3 q =>
      k v H3 rr (e1.trans (Kp.of e3)) (E1.ext e3) (ResOk.back E e1 E1 o3) q
theorem we_tup {tr : TA} (h : WA K tr Δ fun ds => ds.length ≤ 100000 ∧ Q (.v (.tuple ds))) : WE K (tTup tr) Δ Q := fun A H0 H σ E Qh k =>
  h A H0 H σ E _ fun vs H1 ds e1 E1 o1 ⟨hl, q⟩ => ⟨sz_of (by rw [o1.length]; exact hl), fun p hp => by
    have e2 : Ex H1 (upd H1 p (.tup vs)) := Ex.new hp
    refine k _ _ _ (e1.trans (Kp.of e2)) (E1.ext e2) ?_ q
    exact .tup (.inl (.inl (wo_mk (fun m => E1.domAll m hp) upd_same))) (o1.up (wo_le e2))⟩
theorem res_new {A : List Addr} {H : Hp} {p : Addr} {vs : List V} {ds : List PyData} (hp : H p = none) (hA : ∀ a, a ∈ A → H a ≠ none) (o1 : DpAll K (wo H A) vs ds) : ResOk K H (upd H p (.lst vs)) A (.ref p) (.n ds) := by
  have e2 : Ex H (upd H p (.lst vs)) := Ex.new hp
  refine ⟨p, vs, rfl, hp, fun m => hA p m hp, upd_same, o1.up fun a o z => ?_⟩
  obtain ⟨m, q⟩ := wo_some z
  refine wo_mk (fun m2 => ?_) (e2 a o q)
  rcases List.mem_cons.mp m2 with rfl | m2
  · rw [hp] at q; cases q
  · exact m m2
theorem we_lst {tr : TA} (h : WA K tr Δ fun ds => ds.length ≤ 100000 ∧ Q (.n ds)) : WE K (tLst tr) Δ Q := fun A H0 H σ E Qh k =>
  h A H0 H σ E _ fun vs H1 ds e1 E1 o1 ⟨hl, q⟩ => ⟨sz_of (by rw [o1.length]; exact hl), fun p hp => by
    have e2 : Ex H1 (upd H1 p (.lst vs)) := Ex.new hp
    exact k _ _ _ (e1.trans (Kp.of e2)) (E1.ext e2) (ResOk.back E e1 E1 (res_new hp (fun a m => E1.domAll m) o1)) q⟩
/-! ### tests -/
theorem wt_test {Q : Bool → Prop} (h : WE K te Δ fun r => ∃ b, r.d = .bool b ∧ Q b) : WT K (tTest te) Δ Q := fun A H0 H σ E Qh k =>
  h A H0 H σ E _ fun v H1 r e1 E1 o1 ⟨b, hb, q⟩ => by
    have hd := o1.dp
    rw [hb] at hd
    cases hd
    exact ⟨b, rfl, k b H1 e1 E1 q⟩
theorem wt_B {Q : Bool → Prop} (h : WE K te Δ fun r => ∃ b, r.d = .bool b ∧ Q b) : WT K (tB te) Δ Q := fun A H0 H σ E Qh k =>
  h A H0 H σ E _ fun v H1 r e1 E1 o1 ⟨b, hb, q⟩ => by
    have hd := o1.dp
    rw [hb] at hd
    cases hd
    exact ⟨b, rfl, k b H1 e1 E1 q⟩
theorem wt_and {Q : Bool → Prop} (h : WT K t Δ fun a => if a = true then WT K u Δ Q else Q false) : WT K (tAnd t u) Δ Q := fun A H0 H σ E Qh k =>
  h A H0 H σ E _ fun a H1 e1 E1 q => by
    cases a with
    | true => exact q A H0 H1 σ E1 Qh fun b H2 e2 E2 q2 => k b H2 (e1.trans e2) E2 q2
    | false => exact k false H1 e1 E1 q
theorem wt_or {Q : Bool → Prop} (h : WT K t Δ fun a => if a = true then Q true else WT K u Δ Q) : WT K (tOr t u) Δ Q := fun A H0 H σ E Qh k =>
  h A H0 H σ E _ fun a H1 e1 E1 q => by
    cases a with
    | false => exact q A H0 H1 σ E1 Qh fun b H2 e2 E2 q2 => k b H2 (e1.trans e2) E2 q2
    | true => exact k true H1 e1 E1 q
theorem wt_not {Q : Bool → Prop} (h : WT K t Δ fun a => Q (!a)) : WT K (tNot t) Δ Q := fun A H0 H σ E Qh k =>
  h A H0 H σ E _ fun a H1 e1 E1 q => k (!a) H1 e1 E1 q
theorem we_andV (h : WE K ta Δ fun r => ∃ b, r.d = .bool b ∧ if b = true then WE K tb Δ Q else Q (.v (.bool false))) : WE K (tAndV ta tb) Δ Q := fun A H0 H σ E Qh k =>
  h A H0 H σ E _ fun v H1 r e1 E1 o1 ⟨b, hb, q⟩ => by
    have hd := o1.dp
    rw [hb] at hd
    cases hd
    refine ⟨b, rfl, ?_⟩
    cases b with
    | true => exact q A H0 H1 σ E1 Qh fun v2 H2 r2 e2 E2 o2 q2 => k v2 H2 r2 (e1.trans e2) E2 (ResOk.back E e1 E1 o2) q2
    | false => exact k _ H1 (.v _) e1 E1 (Dp.bl false) q
theorem we_orV (h : WE K ta Δ fun r => ∃ b, r.d = .bool b ∧ if b = true then Q (.v (.bool true)) else WE K tb Δ Q) : WE K (tOrV ta tb) Δ Q := fun A H0 H σ E Qh k =>
  h A H0 H σ E _ fun v H1 r e1 E1 o1 ⟨b, hb, q⟩ => by
    have hd := o1.dp
    rw [hb] at hd
    cases hd
    refine ⟨b, rfl, ?_⟩
    cases b with
    | false => exact q A H0 H1 σ E1 Qh fun v2 H2 r2 e2 E2 o2 q2 => k v2 H2 r2 (e1.trans e2) E2 (ResOk.back E e1 E1 o2) q2
    | true => exact k _ H1 (.v _) e1 E1 (Dp.bl true) q
theorem we_notV (h : WE K ta Δ fun r => ∃ b, r.d = .bool b ∧ Q (.v (.bool (!b)))) : WE K (tNotV ta) Δ Q := fun A H0 H σ E Qh k =>
  h A H0 H σ E _ fun v H1 r e1 E1 o1 ⟨b, hb, q⟩ => by
    have hd := o1.dp
    rw [hb] at hd
    cases hd
    exact ⟨b, rfl, k _ H1 (.v _) e1 E1 (Dp.bl (!b)) q⟩
theorem we_if (h : WT K t Δ fun a => if a = true then WE K ta Δ Q else WE K tb Δ Q) : WE K (tIf t ta tb) Δ Q := fun A H0 H σ E Qh k =>
  h A H0 H σ E _ fun a H1 e1 E1 q => by
    cases a with
    | true => exact q A H0 H1 σ E1 Qh fun v2 H2 r2 e2 E2 o2 q2 => k v2 H2 r2 (e1.trans e2) E2 (ResOk.back E e1 E1 o2) q2
    | false => exact q A H0 H1 σ E1 Qh fun v2 H2 r2 e2 E2 o2 q2 => k v2 H2 r2 (e1.trans e2) E2 (ResOk.back E e1 E1 o2) q2
end
/-! ### operations -/
section
variable {K : PySem.W.Frag} {Q : Rs → Prop}
theorem ex_id {H : Hp} : Ex H H := fun _ _ z => z
theorem rd_I0 {f : Int → Int → Int} {i j : Int} (q : Q (.v (.int (f i j)))) : RD K (rI0 fun i j => .int (f i j)) (.int i) (.int j) Q := fun A H v1 v2 h1 h2 _ Qh k => by
  cases h1; cases h2
  exact ⟨i, j, rfl, rfl, k _ H (.v _) ex_id (Dp.int _) q⟩
theorem rd_IB {f : Int → Int → Bool} {i j : Int} (q : Q (.v (.bool (f i j)))) : RD K (rI0 fun i j => .bl (f i j)) (.int i) (.int j) Q := fun A H v1 v2 h1 h2 _ Qh k => by
  cases h1; cases h2
  exact ⟨i, j, rfl, rfl, k _ H (.v _) ex_id (Dp.bl _) q⟩
theorem rd_I {C : Int → Int → Prop} {f : Int → Int → Int} {i j : Int} (hc : C i j) (q : Q (.v (.int (f i j)))) : RD K (rI C fun i j => .int (f i j)) (.int i) (.int j) Q := fun A H v1 v2 h1 h2 _ Qh k => by
  cases h1; cases h2
  exact ⟨i, j, rfl, rfl, hc, k _ H (.v _) ex_id (Dp.int _) q⟩
theorem ru_U {f : Int → Int} {i : Int} (q : Q (.v (.int (f i)))) : RU1 K (rU fun i => .int (f i)) (.int i) Q := fun A H v1 h1 _ Qh k => by
  cases h1
  exact ⟨i, rfl, k _ H (.v _) ex_id (Dp.int _) q⟩
theorem rd_eqI {i j : Int} (q : Q (.v (.bool (decide (i = j))))) : RD K rEq (.int i) (.int j) Q := fun A H v1 v2 h1 h2 _ Qh k => by
  cases h1; cases h2
  refine ⟨rfl, k _ H (.v _) ex_id (Dp.bl _) ?_⟩
  have e : decide ((V.int i) = V.int j) = decide (i = j) := by
    by_cases h : i = j
    · subst h; simp
    · simp [h]
  rw [e]
  exact q
theorem rd_neI {i j : Int} (q : Q (.v (.bool (!decide (i = j))))) : RD K rNe (.int i) (.int j) Q := fun A H v1 v2 h1 h2 _ Qh k => by
  cases h1; cases h2
  refine ⟨rfl, k _ H (.v _) ex_id (Dp.bl _) ?_⟩
  have e : decide ((V.int i) = V.int j) = decide (i = j) := by
    by_cases h : i = j
    · subst h; simp
    · simp [h]
  rw [e]
  exact q
theorem rd_eqB {i j : Bool} (q : Q (.v (.bool (decide (i = j))))) : RD K rEq (.bool i) (.bool j) Q := fun A H v1 v2 h1 h2 _ Qh k => by
  cases h1; cases h2
  refine ⟨rfl, k _ H (.v _) ex_id (Dp.bl _) ?_⟩
  have e : decide ((V.bl i) = V.bl j) = decide (i = j) := by cases i <;> cases j <;> rfl
  rw [e]
  exact q
theorem rd_neB {i j : Bool} (q : Q (.v (.bool (!decide (i = j))))) : RD K rNe (.bool i) (.bool j) Q := fun A H v1 v2 h1 h2 _ Qh k => by
  cases h1; cases h2
  refine ⟨rfl, k _ H (.v _) ex_id (Dp.bl _) ?_⟩
  have e : decide ((V.bl i) = V.bl j) = decide (i = j) := by cases i <;> cases j <;> rfl
  rw [e]
  exact q
theorem rd_eqD {d e : PyData} (sd : SeqAt.shaped d = true) (se : SeqAt.shaped e = true) (q : Q (.v (.bool (PyData.eqv d e)))) : RD K (rEqD K) d e Q := fun A H v1 v2 h1 h2 _ Qh k =>
  ⟨d, e, h1.up wo_ex, h2.up wo_ex, sd, se, k _ H (.v _) ex_id (Dp.bl _) q⟩
theorem rd_neD {d e : PyData} (sd : SeqAt.shaped d = true) (se : SeqAt.shaped e = true) (q : Q (.v (.bool (!PyData.eqv d e)))) : RD K (rNeD K) d e Q := fun A H v1 v2 h1 h2 _ Qh k =>
  ⟨d, e, h1.up wo_ex, h2.up wo_ex, sd, se, k _ H (.v _) ex_id (Dp.bl _) q⟩
theorem rd_inD {d : PyData} {ds : List PyData} (sd : SeqAt.shaped d = true) (se : SeqAt.shaped (.list ds) = true) (q : Q (.v (.bool (ds.any fun z => PyData.eqv z d)))) : RD K (rInD K) d (.list ds) Q := fun A H v1 v2 h1 h2 _ Qh k =>
  ⟨d, ds, h1.up wo_ex, h2.up wo_ex, sd, se, k _ H (.v _) ex_id (Dp.bl _) q⟩
theorem rd_notInD {d : PyData} {ds : List PyData} (sd : SeqAt.shaped d = true) (se : SeqAt.shaped (.list ds) = true) (q : Q (.v (.bool (!ds.any fun z => PyData.eqv z d)))) : RD K (rNotInD K) d (.list ds) Q := fun A H v1 v2 h1 h2 _ Qh k =>
  ⟨d, ds, h1.up wo_ex, h2.up wo_ex, sd, se, k _ H (.v _) ex_id (Dp.bl _) q⟩
theorem rd_ixL {ds : List PyData} {i : Int} {d : PyData} (h : atI ds i = some d) (q : Q (.v d)) : RD K (rIxL K) (.list ds) (.int i) Q := fun A H v1 v2 h1 h2 _ Qh k => by
  cases h2
  cases h1 with
  | lst hs ha =>
    obtain ⟨v, e, hd⟩ := ha.at h
    exact ⟨_, _, i, v, rfl, rfl, ex_l wo_ex hs, e, k v H (.v _) ex_id hd q⟩
theorem rd_ixT {ds : List PyData} {i : Int} {d : PyData} (h : atI ds i = some d) (q : Q (.v d)) : RD K (rIxT K) (.tuple ds) (.int i) Q := fun A H v1 v2 h1 h2 _ Qh k => by
  cases h2
  cases h1 with
  | tup hs ha =>
    obtain ⟨v, e, hd⟩ := ha.at h
    exact ⟨_, _, i, v, rfl, rfl, ex_t wo_ex hs, e, k v H (.v _) ex_id hd q⟩
/-! ### built-ins -/
theorem cd_abs {i : Int} (q : Q (.v (.int (if i < 0 then -i else i)))) : CD K (fun xs H Q => ∃ i, xs = [.int i] ∧ Q (.int (if i < 0 then -i else i)) H) [.int i] Q := fun A H vs h _ Qh k => by
  cases h with | cons h1 h2 => cases h1; cases h2; exact ⟨i, rfl, k _ H (.v _) ex_id (Dp.int _) q⟩
theorem cd_max2 {i j : Int} (q : Q (.v (.int (if j > i then j else i)))) : CD K (fun xs H Q => ∃ i j, xs = [.int i, .int j] ∧ Q (.int (if j > i then j else i)) H) [.int i, .int j] Q := fun A H vs h _ Qh k => by
  cases h with | cons h1 h2 => cases h1; cases h2 with | cons h3 h4 => cases h3; cases h4; exact ⟨i, j, rfl, k _ H (.v _) ex_id (Dp.int _) q⟩
theorem cd_lenL {ds : List PyData} (q : Q (.v (.int ds.length))) : CD K (fun xs H Q => ∃ p ys, xs = [.ref p] ∧ (SqL K H p ys ∨ SqT K H p ys) ∧ Q (.int ys.length) H) [.list ds] Q := fun A H vs h _ Qh k => by
  cases h with | cons h1 h2 =>
    cases h2
    cases h1 with | lst hs ha => exact ⟨_, _, rfl, .inl (ex_l wo_ex hs), k _ H (.v _) ex_id (by rw [ha.length]; exact Dp.int _) q⟩
theorem cd_lenT {ds : List PyData} (q : Q (.v (.int ds.length))) : CD K (fun xs H Q => ∃ p ys, xs = [.ref p] ∧ (SqL K H p ys ∨ SqT K H p ys) ∧ Q (.int ys.length) H) [.tuple ds] Q := fun A H vs h _ Qh k => by
  cases h with | cons h1 h2 =>
    cases h2
    cases h1 with | tup hs ha => exact ⟨_, _, rfl, .inr (ex_t wo_ex hs), k _ H (.v _) ex_id (by rw [ha.length]; exact Dp.int _) q⟩
theorem cd_listL {ds : List PyData} (q : Q (.n ds)) : CD K (fun xs H Q => ∃ p ys, xs = [.ref p] ∧ (SqL K H p ys ∨ SqT K H p ys) ∧ ∀ l, H l = none → Q (.ref l) (upd H l (.lst ys))) [.list ds] Q := fun A H vs h hA Qh k => by
  cases h with | cons h1 h2 =>
    cases h2
    cases h1 with | lst hs ha => exact ⟨_, _, rfl, .inl (ex_l wo_ex hs), fun l hl => k _ _ _ (Ex.new hl) (res_new hl hA ha) q⟩
theorem cd_any {bs : List Bool} (q : Q (.v (.bool (bs.any id)))) : CD K (rAny K) [.list (bs.map .bool)] Q := fun A H vs h _ Qh k => by
  cases h with | cons h1 h2 =>
    cases h2
    cases h1 with | lst hs ha =>
      have := ha.bls_inv
      subst this
      exact ⟨_, bs, rfl, ex_l wo_ex hs, k _ H (.v _) ex_id (Dp.bl _) q⟩
theorem cd_all {bs : List Bool} (q : Q (.v (.bool (bs.all id)))) : CD K (rAll K) [.list (bs.map .bool)] Q := fun A H vs h _ Qh k => by
  cases h with | cons h1 h2 =>
    cases h2
    cases h1 with | lst hs ha =>
      have := ha.bls_inv
      subst this
      exact ⟨_, bs, rfl, ex_l wo_ex hs, k _ H (.v _) ex_id (Dp.bl _) q⟩
theorem cd_divmod {i j : Int} (hc : CDivP i j) (q : Q (.v (.tuple [.int (i / j), .int (i % j)]))) : CD K (fun xs H Q => ∃ i j, xs = [.int i, .int j] ∧ CDivP i j ∧ ∀ p, H p = none → Q (.ref p) (upd H p (.tup [.int (i / j), .int (i % j)]))) [.int i, .int j] Q := fun A H vs h hA Qh k => by
  cases h with | cons h1 h2 => cases h1; cases h2 with | cons h3 h4 =>
    cases h3; cases h4
    exact ⟨i, j, rfl, hc, fun p hp => k _ _ (.v _) (Ex.new hp) (Dp.tup (.inl (.inl (wo_mk (fun m => hA p m hp) upd_same))) (.cons (.int _) (.cons (.int _) .nil))) q⟩
end
end DL

set_option Elab.async false
set_option linter.all false
set_option maxRecDepth 100000
/-! DL2: statements, loops, comprehensions, defs, at the data level. -/
namespace DL
open PySem L2 Evl
/-! ### the slots -/
theorem ads_set_mem : ∀ {Δ : List Ent} {i : Nat} {e : Ent} {a : Addr}, a ∈ ads (Δ.set i e) → a ∈ e.ad ∨ a ∈ ads Δ
  | [], _, _, _, h => by simp [ads] at h
  | x :: r, 0, e, a, h => by
    rcases List.mem_append.mp (show a ∈ e.ad ++ ads r from h) with h | h
    · exact .inl h
    · exact .inr (List.mem_append_right _ h)
  | x :: r, i + 1, e, a, h => by
    rcases List.mem_append.mp (show a ∈ x.ad ++ ads (r.set i e) from h) with h | h
    · exact .inr (List.mem_append_left _ h)
    · rcases ads_set_mem h with h | h
      · exact .inl h
      · exact .inr (List.mem_append_right _ h)
theorem ads_set_nd : ∀ {Δ : List Ent} {i : Nat} {e : Ent}, (ads Δ).Nodup → e.ad.Nodup → (∀ a, a ∈ e.ad → a ∉ ads Δ) → (ads (Δ.set i e)).Nodup
  | [], _, _, _, _, _ => by simp [ads]
  | x :: r, 0, e, h, he, hd => by
    show (e.ad ++ ads r).Nodup
    rw [List.nodup_append]
    refine ⟨he, (List.nodup_append.mp h).2.1, fun a ha b hb z => ?_⟩
    subst z
    exact hd a ha (List.mem_append_right _ hb)
  | x :: r, i + 1, e, h, he, hd => by
    show (x.ad ++ ads (r.set i e)).Nodup
    have h2 := List.nodup_append.mp (show (x.ad ++ ads r).Nodup from h)
    rw [List.nodup_append]
    refine ⟨h2.1, ads_set_nd h2.2.1 he (fun a ha m => hd a ha (List.mem_append_right _ m)), fun a ha b hb z => ?_⟩
    subst z
    rcases ads_set_mem hb with hb | hb
    · exact hd a hb (List.mem_append_left _ ha)
    · exact h2.2.2 a ha a hb rfl
theorem ads_set_eq : ∀ {Δ : List Ent} {i : Nat} {e f : Ent}, Δ[i]? = some e → f.ad = e.ad → ads (Δ.set i f) = ads Δ
  | [], _, _, _, h, _ => by simp at h
  | x :: r, 0, e, f, h, k => by
    simp at h; subst h
    show f.ad ++ ads r = x.ad ++ ads r
    rw [k]
  | x :: r, i + 1, e, f, h, k => by
    show x.ad ++ ads (r.set i f) = x.ad ++ ads r
    rw [ads_set_eq (i := i) (by simpa using h) k]
theorem mem_pt : ∀ {Δ : List Ent} {a : Addr}, a ∈ pts Δ → ∃ (i : Nat) (e : Ent), Δ[i]? = some e ∧ a ∈ e.pt
  | x :: r, a, h => by
    rcases List.mem_append.mp (show a ∈ x.pt ++ pts r from h) with h | h
    · exact ⟨0, x, rfl, h⟩
    · obtain ⟨i, e, h1, h2⟩ := mem_pt h
      exact ⟨i + 1, e, by simpa using h1, h2⟩
theorem pt_ad {e : Ent} {a : Addr} (h : a ∈ e.pt) : a ∈ e.ad := by
  cases e with
  | pot l => exact h
  | unk => cases h
  | val d => cases h
  | own l ds => cases h
/-- two slots do not own one address -/
theorem ads_two : ∀ {Δ : List Ent} {i j : Nat} {e f : Ent} {a : Addr}, (ads Δ).Nodup → Δ[i]? = some e → Δ[j]? = some f → a ∈ e.ad → a ∈ f.ad → i = j
  | [], _, _, _, _, _, _, h, _, _, _ => by simp at h
  | x :: r, 0, 0, _, _, _, _, _, _, _, _ => rfl
  | x :: r, 0, j + 1, e, f, a, h, h1, h2, m1, m2 => by
    simp at h1; subst h1
    have h3 := List.nodup_append.mp (show (x.ad ++ ads r).Nodup from h)
    exact absurd rfl (h3.2.2 a m1 a (ad_mem (i := j) (by simpa using h2) m2))
  | x :: r, i + 1, 0, e, f, a, h, h1, h2, m1, m2 => by
    simp at h2; subst h2
    have h3 := List.nodup_append.mp (show (x.ad ++ ads r).Nodup from h)
    exact absurd rfl (h3.2.2 a m2 a (ad_mem (i := i) (by simpa using h1) m1))
  | x :: r, i + 1, j + 1, e, f, a, h, h1, h2, m1, m2 => by
    have h3 := List.nodup_append.mp (show (x.ad ++ ads r).Nodup from h)
    rw [ads_two (i := i) (j := j) h3.2.1 (by simpa using h1) (by simpa using h2) m1 m2]
section
variable {K : PySem.W.Frag} {A : List Addr} {H0 H H' : Hp} {σ : L2.St} {Δ : List Ent}
theorem EntOk.up {O O' : List Addr} {o : Option (Option V)} {e : Ent} (h : EntOk K H O o e) (k : Ex (wo H O) (wo H O')) : EntOk K H O' o e := by
  cases e with
  | unk => trivial
  | val d => obtain ⟨v, h1, h2⟩ := h; exact ⟨v, h1, h2.up k⟩
  | own l ds => obtain ⟨h1, xs, h2, h3⟩ := h; exact ⟨h1, xs, h2, h3.up k⟩
  | pot l => exact h
/-- a store of a thing -/
theorem Sit.setV (E : Sit K A H0 H σ Δ) {i : Nat} {v : V} {d : PyData} (h : Dp K (wo H (A ++ ads Δ)) v d) : Sit K A H0 H (σ.set i (some v)) (Δ.set i (.val d)) := by
  have sub : ∀ a, a ∈ ads (Δ.set i (.val d)) → a ∈ ads Δ := fun a m => (ads_set_mem m).elim (fun z => by cases z) id
  have subA : ∀ a, a ∈ A ++ ads (Δ.set i (.val d)) → a ∈ A ++ ads Δ := fun a m => (List.mem_append.mp m).elim (fun z => List.mem_append_left _ z) fun z => List.mem_append_right _ (sub a z)
  refine ⟨fun a o z => wo_sub sub a o (E.base a o z), E.dom, fun j e hj => ?_, ads_set_nd E.nd (by simp [Ent.ad]) (fun a z => by cases z), by rw [List.length_set, List.length_set]; exact E.len⟩
  by_cases hij : i = j
  · subst hij
    have hl : i < Δ.length := by
      have := (List.getElem?_eq_some_iff.mp hj).1
      rwa [List.length_set] at this
    rw [List.getElem?_set_self hl] at hj
    cases hj
    exact ⟨v, List.getElem?_set_self (by rw [E.len]; exact hl), h.up (wo_sub subA)⟩
  · rw [List.getElem?_set_ne hij] at hj
    rw [List.getElem?_set_ne hij]
    exact (E.ents j e hj).up (wo_sub subA)
/-- a store of a list that is new -/
theorem Sit.setN {H1 : Hp} (E1 : Sit K A H0 H1 σ Δ) (e1 : Kp Δ H1 H) (E : Sit K A H0 H σ Δ) {i : Nat} {l : Addr} {x : Ent} (hx : x.ad = [l]) (hn : H1 l = none) (hA : l ∉ A ++ ads Δ)
    (hok : EntOk K H (A ++ ads (Δ.set i x)) (some (some (.ref l))) x) : Sit K A H0 H (σ.set i (some (.ref l))) (Δ.set i x) := by
  have h0 : H0 l = none := by
    cases q : H0 l with
    | none => rfl
    | some o =>
      have := (wo_some (E1.base l o q)).2
      rw [hn] at this; cases this
  have mem : ∀ a, a ∈ ads (Δ.set i x) → a = l ∨ a ∈ ads Δ := fun a m => (ads_set_mem m).elim (fun z => .inl (by rw [hx] at z; simpa using z)) .inr
  have lA : l ∉ A := fun m => hA (List.mem_append_left _ m)
  have lD : l ∉ ads Δ := fun m => hA (List.mem_append_right _ m)
  refine ⟨fun a o z => ?_, E.dom, fun j e hj => ?_, ads_set_nd E.nd (by rw [hx]; simp) (fun a z => by rw [hx] at z; rw [List.mem_singleton.mp z]; exact lD), by rw [List.length_set, List.length_set]; exact E.len⟩
  · have m := wo_some (E.base a o z)
    refine wo_mk (fun q => ?_) m.2
    rcases mem a q with rfl | q
    · rw [h0] at z; cases z
    · exact m.1 q
  · by_cases hij : i = j
    · subst hij
      have hl : i < Δ.length := by
        have := (List.getElem?_eq_some_iff.mp hj).1
        rwa [List.length_set] at this
      rw [List.getElem?_set_self hl] at hj
      cases hj
      rw [List.getElem?_set_self (by rw [E.len]; exact hl)]
      exact hok
    · rw [List.getElem?_set_ne hij] at hj
      rw [List.getElem?_set_ne hij]
      have old := E1.ents j e hj
      have now := E.ents j e hj
      have lift : Ex (wo H1 (A ++ ads Δ)) (wo H (A ++ ads (Δ.set i x))) := fun a o z => by
        obtain ⟨m, q⟩ := wo_some z
        have m2 := e1.all (A := A) a o z
        refine wo_mk (fun w => ?_) (wo_some m2).2
        rcases List.mem_append.mp w with w | w
        · exact m (List.mem_append_left _ w)
        · rcases mem a w with rfl | w
          · rw [hn] at q; cases q
          · exact m (List.mem_append_right _ w)
      cases e with
      | unk => trivial
      | val d =>
        obtain ⟨v, h1, h2⟩ := old
        exact ⟨v, h1, h2.up lift⟩
      | own l2 ds =>
        obtain ⟨h1, xs, h2, h3⟩ := old
        have np : l2 ∉ pts Δ := fun m => by
          obtain ⟨j2, f, g1, g2⟩ := mem_pt m
          have hf : l2 ∈ f.ad := pt_ad g2
          have := ads_two E.nd hj g1 (show l2 ∈ (Ent.own l2 ds).ad by simp [Ent.ad]) hf
          subst this
          rw [hj] at g1
          cases g1
          cases g2
        exact ⟨h1, xs, (wo_some (e1 l2 _ (wo_mk np h2))).2, h3.up lift⟩
      | pot l2 => exact now
/-- an owned list given up: a thing from then on -/
theorem Sit.freeze (E : Sit K A H0 H σ Δ) {i : Nat} {l : Addr} {ds : List PyData} (h : Δ[i]? = some (.own l ds)) : Sit K A H0 H σ (Δ.set i (.val (.list ds))) := by
  obtain ⟨h1, xs, h2, h3⟩ := E.ents i _ h
  have sub : ∀ a, a ∈ ads (Δ.set i (.val (.list ds))) → a ∈ ads Δ := fun a m => (ads_set_mem m).elim (fun z => by cases z) id
  have subA : ∀ a, a ∈ A ++ ads (Δ.set i (.val (.list ds))) → a ∈ A ++ ads Δ := fun a m => (List.mem_append.mp m).elim (fun z => List.mem_append_left _ z) fun z => List.mem_append_right _ (sub a z)
  have hl : i < Δ.length := (List.getElem?_eq_some_iff.mp h).1
  refine ⟨fun a o z => wo_sub sub a o (E.base a o z), E.dom, fun j e hj => ?_, ads_set_nd E.nd (by simp [Ent.ad]) (fun a z => by cases z), by rw [List.length_set]; exact E.len⟩
  by_cases hij : i = j
  · subst hij
    rw [List.getElem?_set_self hl] at hj
    cases hj
    refine ⟨.ref l, h1, .lst (.inl (.inl (wo_mk (fun m => ?_) h2))) (h3.up (wo_sub subA))⟩
    rcases List.mem_append.mp m with m | m
    · obtain ⟨o, q⟩ := E.domA m
      exact (wo_some q).1 (ad_mem h (by simp [Ent.ad]))
    · obtain ⟨j, f, g1, g2⟩ := mem_ad m
      by_cases hj : i = j
      · subst hj
        rw [List.getElem?_set_self hl] at g1
        cases g1
        cases g2
      · rw [List.getElem?_set_ne hj] at g1
        exact hj (ads_two E.nd h g1 (by simp [Ent.ad]) g2)
  · rw [List.getElem?_set_ne hij] at hj
    exact (E.ents j e hj).up (wo_sub subA)
/-- an owned list changed: its new items are things -/
theorem Sit.setO (E : Sit K A H0 H σ Δ) {i : Nat} {l : Addr} {ds ds' : List PyData} {xs : List V} (h : Δ[i]? = some (.own l ds)) (hd : DpAll K (wo H (A ++ ads Δ)) xs ds') : Sit K A H0 (upd H l (.lst xs)) σ (Δ.set i (.own l ds')) := by
  have hl : i < Δ.length := (List.getElem?_eq_some_iff.mp h).1
  have hin : l ∈ ads Δ := ad_mem h (by simp [Ent.ad])
  have same : ads (Δ.set i (.own l ds')) = ads Δ := ads_set_eq h rfl
  have keep : ∀ {O : List Addr}, l ∈ O → Ex (wo H O) (wo (upd H l (.lst xs)) O) := fun {O} hm a o z => by
    obtain ⟨m, q⟩ := wo_some z
    refine wo_mk m ?_
    rw [upd_ne (fun e => m (by rw [e]; exact hm))]
    exact q
  have k1 := keep hin
  have k2 : Ex (wo H (A ++ ads Δ)) (wo (upd H l (.lst xs)) (A ++ ads Δ)) := keep (List.mem_append_right _ hin)
  refine ⟨fun a o z => by rw [same]; exact k1 a o (E.base a o z), E.dom, fun j e hj => ?_, by rw [same]; exact E.nd, by rw [List.length_set]; exact E.len⟩
  rw [same]
  by_cases hij : i = j
  · subst hij
    rw [List.getElem?_set_self hl] at hj
    cases hj
    obtain ⟨h1, _⟩ := E.ents i _ h
    exact ⟨h1, xs, upd_same, hd.up k2⟩
  · rw [List.getElem?_set_ne hij] at hj
    have old := E.ents j e hj
    have ne : ∀ l2, l2 ∈ e.ad → l2 ≠ l := fun l2 m z => hij (ads_two E.nd h hj (show l ∈ (Ent.own l ds).ad by simp [Ent.ad]) (by rw [← z]; exact m))
    cases e with
    | unk => trivial
    | val d => obtain ⟨v, h1, h2⟩ := old; exact ⟨v, h1, h2.up k2⟩
    | own l2 es =>
      obtain ⟨h1, ys, h2, h3⟩ := old
      exact ⟨h1, ys, by rw [upd_ne (ne l2 (by simp [Ent.ad]))]; exact h2, h3.up k2⟩
    | pot l2 =>
      obtain ⟨h1, x, y, h2, h3⟩ := old
      exact ⟨h1, x, y, by rw [upd_ne (ne l2 (by simp [Ent.ad]))]; exact h2, h3⟩
/-- another base -/
theorem Sit.rebase (E : Sit K A H0 H σ Δ) : Sit K A (wo H (ads Δ)) H σ Δ := ⟨fun _ _ z => z, fun a m => by obtain ⟨o, q⟩ := E.domA m; rw [q]; simp, E.ents, E.nd, E.len⟩
theorem Sit.debase {H1 : Hp} (E : Sit K A H1 H σ Δ) (e : Ex H0 H1) (hd : ∀ a, a ∈ A → H0 a ≠ none) : Sit K A H0 H σ Δ := ⟨fun a o z => E.base a o (e a o z), hd, E.ents, E.nd, E.len⟩
end
/-! ### statements -/
structure Post where
  nx : List Ent → Prop
  rt : Rs → Prop
  bk : List Ent → Prop := fun _ => False
  ct : List Ent → Prop := fun _ => False
  ps : List Addr := []
def WS (K : PySem.W.Frag) (ts : TS) (Δ : List Ent) (P : Post) : Prop :=
  ∀ (A : List Addr) (H0 H : Hp) (σ : L2.St) (D : Ends), Sit K A H0 H σ Δ →
    (∀ H' σ' Δ', Sit K A H0 H' σ' Δ' → P.nx Δ' → D.nx σ' H') →
    (∀ H' v r, Ex H0 (wo H' P.ps) → (∀ p, p ∈ P.ps → PotAt H' p) → ResOk K H0 H' (A ++ P.ps) v r → P.rt r → D.rt v H') →
    (∀ H' σ' Δ', Sit K A H0 H' σ' Δ' → P.bk Δ' → D.bk σ' H') →
    (∀ H' σ' Δ', Sit K A H0 H' σ' Δ' → P.ct Δ' → D.ct σ' H') → ts D σ H
/-- a target -/
def WG (K : PySem.W.Frag) (g : TG) (d : PyData) (Δ : List Ent) (N : List Ent → Prop) : Prop :=
  ∀ (A : List Addr) (H0 H : Hp) (σ : L2.St) (v : V), Sit K A H0 H σ Δ → Dp K (wo H (A ++ ads Δ)) v d → ∀ Qh : L2.St → Hp → Prop,
    (∀ H' σ' Δ', Sit K A H0 H' σ' Δ' → Ex (wo H (A ++ ads Δ)) (wo H' (A ++ ads Δ')) → N Δ' → Qh σ' H') → g v σ H Qh
def WGs (K : PySem.W.Frag) (g : TGs) (ds : List PyData) (Δ : List Ent) (N : List Ent → Prop) : Prop :=
  ∀ (A : List Addr) (H0 H : Hp) (σ : L2.St) (vs : List V), Sit K A H0 H σ Δ → DpAll K (wo H (A ++ ads Δ)) vs ds → ∀ Qh : L2.St → Hp → Prop,
    (∀ H' σ' Δ', Sit K A H0 H' σ' Δ' → Ex (wo H (A ++ ads Δ)) (wo H' (A ++ ads Δ')) → N Δ' → Qh σ' H') → g vs σ H Qh
section
variable {K : PySem.W.Frag} {Δ : List Ent} {ta tb te : TE} {t u : TT} {P : Post} {ts tr : TS} {N : List Ent → Prop}
theorem wg_name {i : Nat} {d : PyData} (q : N (Δ.set i (.val d))) : WG K (gName i) d Δ N := fun A H0 H σ v E h Qh k =>
  k H _ _ (E.setV h) (wo_sub fun a m => (List.mem_append.mp m).elim (fun z => List.mem_append_left _ z) fun z => List.mem_append_right _ ((ads_set_mem z).elim (fun z => by cases z) id)) q
theorem wgs_nil (q : N Δ) : WGs K gNil [] Δ N := fun A H0 H σ vs E h Qh k => by
  cases h
  exact ⟨rfl, k H σ Δ E (fun _ _ z => z) q⟩
theorem wgs_cons {g : TG} {gs : TGs} {d : PyData} {ds : List PyData} (h : WG K g d Δ fun Δ' => WGs K gs ds Δ' N) : WGs K (gCons g gs) (d :: ds) Δ N := fun A H0 H σ vs E hd Qh k => by
  cases hd with
  | cons h1 h2 =>
    exact ⟨_, _, rfl, h A H0 H σ _ E h1 _ fun H1 σ1 Δ1 E1 x1 w => w A H0 H1 σ1 _ E1 (h2.up x1) Qh fun H2 σ2 Δ2 E2 x2 n => k H2 σ2 Δ2 E2 (fun a o z => x2 a o (x1 a o z)) n⟩
theorem wg_tup {n : Nat} {gs : TGs} {ds : List PyData} (hn : ds.length = n) (h : WGs K gs ds Δ N) : WG K (gTup K n gs) (.tuple ds) Δ N := fun A H0 H σ v E hd Qh k => by
  cases hd with
  | tup hs ha => exact ⟨_, _, rfl, ex_t wo_ex hs, by rw [ha.length]; exact hn, h A H0 H σ _ E ha Qh k⟩
theorem ws_next (h : P.nx Δ) : WS K tNext Δ P := fun A H0 H σ D E n _ _ _ => n H σ Δ E h
theorem ws_seq (h : WS K ts Δ { P with nx := fun Δ' => WS K tr Δ' P }) : WS K (tSeq ts tr) Δ P := fun A H0 H σ D E n r b c =>
  h A H0 H σ { D with nx := tr D } E (fun H' σ' Δ' E' w => w A H0 H' σ' D E' n r b c) r b c
theorem ws_break (h : P.bk Δ) : WS K tBreak Δ P := fun A H0 H σ D E _ _ b _ => b H σ Δ E h
theorem ws_cont (h : P.ct Δ) : WS K tCont Δ P := fun A H0 H σ D E _ _ _ c => c H σ Δ E h
theorem ws_drop (h : WE K te Δ fun _ => P.nx Δ) : WS K (tDrop te) Δ P := fun A H0 H σ D E n _ _ _ =>
  h A H0 H σ E _ fun v H' r e E' ok q => n H' σ Δ E' q
theorem ws_if (h : WT K t Δ fun b => if b = true then WS K ts Δ P else WS K tr Δ P) : WS K (tIfS t ts tr) Δ P := fun A H0 H σ D E n r b c =>
  h A H0 H σ E _ fun x H' e E' q => by
    cases x with
    | true => exact q A H0 H' σ D E' n r b c
    | false => exact q A H0 H' σ D E' n r b c
theorem ws_asg {i : Nat} (h : WE K te Δ fun r => P.nx (Δ.set i (.val r.d))) : WS K (tAsg te (gName i)) Δ P := fun A H0 H σ D E n _ _ _ =>
  h A H0 H σ E _ fun v H' r e E' ok q => n H' _ _ (E'.setV ok.dp) q
theorem ws_asgG {g : TG} (h : WE K te Δ fun r => WG K g r.d Δ P.nx) : WS K (tAsg te g) Δ P := fun A H0 H σ D E n _ _ _ =>
  h A H0 H σ E _ fun v H' r e E' ok q => q A H0 H' σ v E' ok.dp _ fun H2 σ2 Δ2 E2 _ w => n H2 σ2 Δ2 E2 w
/-- x = a list that is new, to be changed -/
theorem ws_asgN {i : Nat} (h : WE K te Δ fun r => ∃ ds, r = .n ds ∧ ∀ l, P.nx (Δ.set i (.own l ds))) : WS K (tAsg te (gName i)) Δ P := fun A H0 H σ D E n _ _ _ =>
  h A H0 H σ E _ fun v H' r e E' ok ⟨ds, hr, q⟩ => by
    subst hr
    obtain ⟨l, xs, rfl, h1, h2, h3, h4⟩ := ok
    refine n H' _ _ (E.setN (x := .own l ds) e E' rfl h1 h2 ⟨rfl, xs, h3, h4.up (wo_sub fun a m => ?_)⟩) (q l)
    rcases List.mem_append.mp m with m | m
    · exact List.mem_cons_of_mem _ (List.mem_append_left _ m)
    · rcases ads_set_mem m with m | m
      · rw [show a = l by simpa [Ent.ad] using m]
        exact List.mem_cons_self
      · exact List.mem_cons_of_mem _ (List.mem_append_right _ m)
/-- x = a pot -/
theorem ws_asgP {i : Nat} (h : WE K te Δ fun r => ∃ x y : Int, r = .n [.int x, .int y] ∧ 0 ≤ x ∧ 0 ≤ y ∧ y < 2147483648 ∧ ∀ l, P.nx (Δ.set i (.pot l))) : WS K (tAsg te (gName i)) Δ P := fun A H0 H σ D E n _ _ _ =>
  h A H0 H σ E _ fun v H' r e E' ok ⟨x, y, hr, b1, b2, b3, q⟩ => by
    subst hr
    obtain ⟨l, xs, rfl, h1, h2, h3, h4⟩ := ok
    cases h4 with | cons g1 g2 => cases g1; cases g2 with | cons g3 g4 =>
      cases g3; cases g4
      exact n H' _ _ (E.setN (x := .pot l) e E' rfl h1 h2 ⟨rfl, x, y, h3, b1, b2, b3⟩) (q l)
/-- the owned list is given up -/
theorem ws_freeze {i : Nat} {l : Addr} {ds : List PyData} (h : Δ[i]? = some (.own l ds)) (w : WS K ts (Δ.set i (.val (.list ds))) P) : WS K ts Δ P := fun A H0 H σ D E n r b c => w A H0 H σ D (E.freeze h) n r b c
def PotsIn (ps : List Addr) (Δ : List Ent) : Prop := ∀ p, p ∈ ps → ∃ j : Nat, Δ[j]? = some (.pot p)
theorem pots_nil {Δ : List Ent} : PotsIn [] Δ := fun p h => by cases h
theorem pots_one {p : Addr} {Δ : List Ent} (j : Nat) (h : Δ[j]? = some (.pot p)) : PotsIn [p] Δ := fun q m => by
  rw [List.mem_singleton.mp m]
  exact ⟨j, h⟩
theorem Sit.pots {A : List Addr} {H0 H : Hp} {σ : L2.St} {ps : List Addr} (E : Sit K A H0 H σ Δ) (hp : PotsIn ps Δ) : (∀ p, p ∈ ps → p ∈ ads Δ) ∧ (∀ p, p ∈ ps → PotAt H p) ∧ Ex H0 (wo H ps) := by
  have h1 : ∀ p, p ∈ ps → p ∈ ads Δ := fun p m => by
    obtain ⟨j, h⟩ := hp p m
    exact ad_mem h (by simp [Ent.ad])
  refine ⟨h1, fun p m => ?_, fun a o z => wo_sub h1 a o (E.base a o z)⟩
  obtain ⟨j, h⟩ := hp p m
  exact (E.ents j _ h).2
theorem ws_ret (h : WE K te Δ P.rt) (hp : PotsIn P.ps Δ) : WS K (tRet te) Δ P := fun A H0 H σ D E _ rt _ _ =>
  h A H0 H σ E _ fun v H' r e E' ok q => by
    obtain ⟨p1, p2, p3⟩ := E'.pots hp
    have sub : ∀ a, a ∈ A ++ P.ps → a ∈ A ++ ads Δ := fun a m => (List.mem_append.mp m).elim (fun z => List.mem_append_left _ z) fun z => List.mem_append_right _ (p1 a z)
    refine rt H' v r p3 p2 ?_ q
    cases r with
    | v d => exact (show Dp K (wo H' (A ++ ads Δ)) v d from ok).up (wo_sub sub)
    | n ds =>
      obtain ⟨l, xs, rfl, h1, h2, h3, h4⟩ := ok
      refine ⟨l, xs, rfl, ?_, fun m => h2 (sub l m), h3, h4.up (wo_sub fun a m => ?_)⟩
      · cases q0 : H0 l with
        | none => rfl
        | some o =>
          have := (wo_some (E.base l o q0)).2
          rw [h1] at this; cases this
      · rcases List.mem_cons.mp m with rfl | m
        · exact List.mem_cons_self
        · exact List.mem_cons_of_mem _ (sub a m)
theorem ws_retN (h : P.rt (.v .none)) (hp : PotsIn P.ps Δ) : WS K tRetN Δ P := fun A H0 H σ D E _ rt _ _ => by
  obtain ⟨p1, p2, p3⟩ := E.pots hp
  exact rt H .non (.v .none) p3 p2 Dp.non h
/-- return of an owned list: it is new to the caller -/
theorem ws_retO {i : Nat} {l : Addr} {ds : List PyData} (h : Δ[i]? = some (.own l ds)) (hp : PotsIn P.ps Δ) (q : P.rt (.n ds)) : WS K (tRet (tVar i)) Δ P := fun A H0 H σ D E _ rt _ _ => by
  obtain ⟨h1, xs, h2, h3⟩ := E.ents i _ h
  obtain ⟨p1, p2, p3⟩ := E.pots hp
  have hin : l ∈ ads Δ := ad_mem h (by simp [Ent.ad])
  have lA : l ∉ A := fun m => by
    obtain ⟨o, z⟩ := E.domA m
    exact (wo_some z).1 hin
  have lP : l ∉ P.ps := fun m => by
    obtain ⟨j, hj⟩ := hp l m
    have := ads_two (a := l) E.nd h hj (by simp [Ent.ad]) (by simp [Ent.ad])
    subst this
    rw [h] at hj
    cases hj
  refine ⟨.ref l, h1, rt H (.ref l) (.n ds) p3 p2 ⟨l, xs, rfl, ?_, fun m => (List.mem_append.mp m).elim lA lP, h2, h3.up (wo_sub fun a m => ?_)⟩ q⟩
  · cases q0 : H0 l with
    | none => rfl
    | some o => exact absurd hin (wo_some (E.base l o q0)).1
  · rcases List.mem_cons.mp m with rfl | m
    · exact List.mem_append_right _ hin
    · rcases List.mem_append.mp m with m | m
      · exact List.mem_append_left _ m
      · exact List.mem_append_right _ (p1 a m)
/-- xs.append(e), xs owned -/
theorem ws_app {i : Nat} {l : Addr} {ds : List PyData} (h : Δ[i]? = some (.own l ds)) (hz : ds.length < 100000) (w : WE K te Δ fun r => P.nx (Δ.set i (.own l (ds ++ [r.d])))) :
    WS K (tDrop (tBM K "list" rAppend (tVar i) (tCons te tNil))) Δ P := fun A H0 H σ D E n _ _ _ => by
  obtain ⟨h1, xs, h2, h3⟩ := E.ents i _ h
  refine ⟨.ref l, h1, Or.inl ⟨rfl, xs, sq_of h2⟩, w A H0 H σ E _ fun v H1 r e E1 ok q => ?_⟩
  obtain ⟨_, ys, g2, g3⟩ := E1.ents i _ h
  exact ⟨l, ys, v, rfl, rfl, g2, sz_lt (by rw [g3.length]; exact hz), n _ _ _ (E1.setO h (g3.app (.cons ok.dp .nil))) q⟩
/-- xs[j] = e, xs owned -/
theorem ws_setI {i : Nat} {l : Addr} {ds : List PyData} (h : Δ[i]? = some (.own l ds)) (w : WE K te Δ fun r => WE K tb Δ fun r2 => ∃ (j : Nat), r2.d = .int j ∧ j < ds.length ∧ P.nx (Δ.set i (.own l (ds.set j r.d)))) :
    WS K (tAsg te (gSub (tVar i) tb rSetL)) Δ P := fun A H0 H σ D E n _ _ _ =>
  w A H0 H σ E _ fun v H1 r e E1 ok w1 => by
    obtain ⟨g1, _⟩ := E1.ents i _ h
    refine ⟨.ref l, g1, w1 A H0 H1 σ E1 _ fun v2 H2 r2 e2 E2 ok2 ⟨j, hj, hl, q⟩ => ?_⟩
    have hd := ok2.dp
    rw [hj] at hd
    cases hd
    obtain ⟨_, ys, k2, k3⟩ := E2.ents i _ h
    exact ⟨l, ys, (j : Int), j, rfl, rfl, k2, ixN_nat (by rw [k3.length]; exact hl), n _ _ _ (E2.setO h (k3.set (ok.dp.up e2.all) j)) q⟩
/-- len and items of an owned list -/
theorem we_ixO {i : Nat} {l : Addr} {ds : List PyData} {Q : Rs → Prop} (h : Δ[i]? = some (.own l ds)) (w : WE K tb Δ fun r => ∃ j d, r.d = .int j ∧ atI ds j = some d ∧ Q (.v d)) : WE K (tOp (rIxL K) (tVar i) tb) Δ Q := fun A H0 H σ E Qh k => by
  obtain ⟨h1, _⟩ := E.ents i _ h
  refine ⟨.ref l, h1, w A H0 H σ E _ fun v H1 r e E1 ok ⟨j, d, hj, ha, q⟩ => ?_⟩
  have hd := ok.dp
  rw [hj] at hd
  cases hd
  obtain ⟨_, ys, g2, g3⟩ := E1.ents i _ h
  obtain ⟨x, hx, hxd⟩ := g3.at ha
  exact ⟨l, ys, j, x, rfl, rfl, sq_of g2, hx, k x H1 (.v d) e E1 hxd q⟩
theorem we_lenO {i : Nat} {l : Addr} {ds : List PyData} {Q : Rs → Prop} (h : Δ[i]? = some (.own l ds)) (q : Q (.v (.int ds.length))) :
    WE K (tCB (fun xs H Q => ∃ p ys, xs = [.ref p] ∧ (SqL K H p ys ∨ SqT K H p ys) ∧ Q (.int ys.length) H) (tCons (tVar i) tNil)) Δ Q := fun A H0 H σ E Qh k => by
  obtain ⟨h1, xs, h2, h3⟩ := E.ents i _ h
  exact ⟨.ref l, h1, l, xs, rfl, .inl (sq_of h2), k _ H (.v (.int ds.length)) Kp.refl E (by rw [h3.length]; exact Dp.int _) q⟩
/-- a, b = x, y -/
theorem ws_par {i j : Nat} {tA : TA} (h : WA K tA Δ fun ds => ∃ d1 d2, ds = [d1, d2] ∧ P.nx ((Δ.set i (.val d1)).set j (.val d2))) : WS K (tPar i j tA) Δ P := fun A H0 H σ D E n _ _ _ =>
  h A H0 H σ E _ fun vs H1 ds e E1 ok ⟨d1, d2, hd, q⟩ => by
    subst hd
    cases ok with | cons g1 g2 => cases g2 with | cons g3 g4 =>
      cases g4
      refine ⟨_, _, rfl, n _ _ _ ((E1.setV g1).setV (g3.up (wo_sub fun a m => ?_))) q⟩
      exact (List.mem_append.mp m).elim (fun z => List.mem_append_left _ z) fun z => List.mem_append_right _ ((ads_set_mem z).elim (fun z => by cases z) id)
theorem ws_while (W : Nat → List Ent → Prop) (m0 : Nat) (h0 : W m0 Δ)
    (hs : ∀ m Δ', W m Δ' → WT K t Δ' fun b => if b = true then WS K ts Δ' { P with nx := fun Δ2 => ∃ m', m' < m ∧ W m' Δ2, ct := fun Δ2 => ∃ m', m' < m ∧ W m' Δ2, bk := P.nx } else P.nx Δ') : WS K (tWhile t ts) Δ P := fun A H0 H σ D E n r _ _ => by
  refine ⟨fun m σ' H' => ∃ Δ', Sit K A H0 H' σ' Δ' ∧ W m Δ', ⟨m0, Δ, E, h0⟩, ?_⟩
  rintro m σ1 H1 ⟨Δ1, E1, w1⟩
  refine hs m Δ1 w1 A H0 H1 σ1 E1 _ fun b H2 e E2 q => ?_
  cases b with
  | true =>
    refine ⟨fun σ' H' => ∃ m', m' < m ∧ ∃ Δ', Sit K A H0 H' σ' Δ' ∧ W m' Δ', fun σ' H' ⟨m', a, b⟩ => ⟨m', a, b⟩, ?_⟩
    exact q A H0 H2 σ1 _ E2 (fun H' σ' Δ' E' ⟨m', hm, w⟩ => ⟨m', hm, Δ', E', w⟩) r n fun H' σ' Δ' E' ⟨m', hm, w⟩ => ⟨m', hm, Δ', E', w⟩
  | false => exact n H2 σ1 Δ1 E2 q
end
/-! ### what is walked -/
def ItOk (K : PySem.W.Frag) (I : Hp) (J : It) (ds : List PyData) : Prop :=
  ∀ (O : List Addr) (H : Hp), (∀ a, a ∈ O → H a ≠ none) → Ex I (wo H O) → ∀ i : Nat, (ds.length ≤ i → J.stop i H) ∧ ∀ d, ds[i]? = some d → J.go i H ∧ ∀ x H', J.yld i H x H' → Ex H H' ∧ Dp K (wo H' O) x d
def WI (K : PySem.W.Frag) (wi : TI) (Δ : List Ent) (Q : List PyData → Prop) : Prop :=
  ∀ (A : List Addr) (H0 H : Hp) (σ : L2.St), Sit K A H0 H σ Δ → ∀ R : It → Hp → Prop,
    (∀ J H' ds, Kp Δ H H' → Sit K A H0 H' σ Δ → ItOk K (wo H' (A ++ ads Δ)) J ds → Q ds → R J H') → wi σ H R
section
variable {K : PySem.W.Frag} {Δ : List Ent} {tl : TE} {ta : TA} {Q : List PyData → Prop}
theorem wi_list (h : WE K tl Δ fun r => ∃ ds, r.d = .list ds ∧ Q ds) : WI K (iList K tl) Δ Q := fun A H0 H σ E R k =>
  h A H0 H σ E _ fun v H1 r e E1 ok ⟨ds, hd, q⟩ => by
    have hv := ok.dp
    rw [hd] at hv
    cases hv with
    | @lst a xs _ hs ha =>
      refine ⟨a, rfl, ⟨xs, ex_l wo_ex hs⟩, k _ H1 ds e E1 (fun O H2 hO x i => ⟨fun hi => ?_, fun d hi => ?_⟩) q⟩
      · exact ⟨xs, ex_l wo_ex (ex_l x hs), by rw [ha.length]; exact hi⟩
      · obtain ⟨y, hy, hyd⟩ := ha.get hi
        refine ⟨⟨xs, y, ex_l wo_ex (ex_l x hs), hy⟩, fun z H3 ⟨h1, h2⟩ => ?_⟩
        subst h1
        have := h2 xs (ex_l wo_ex (ex_l x hs))
        rw [hy] at this
        cases this
        exact ⟨ex_id, hyd.up x⟩
theorem wi_tup (h : WE K tl Δ fun r => ∃ ds, r.d = .tuple ds ∧ Q ds) : WI K (iTup K tl) Δ Q := fun A H0 H σ E R k =>
  h A H0 H σ E _ fun v H1 r e E1 ok ⟨ds, hd, q⟩ => by
    have hv := ok.dp
    rw [hd] at hv
    cases hv with
    | @tup a xs _ hs ha =>
      refine ⟨a, rfl, ⟨xs, ex_t wo_ex hs⟩, k _ H1 ds e E1 (fun O H2 hO x i => ⟨fun hi => ?_, fun d hi => ?_⟩) q⟩
      · exact ⟨xs, ex_t wo_ex (ex_t x hs), by rw [ha.length]; exact hi⟩
      · obtain ⟨y, hy, hyd⟩ := ha.get hi
        refine ⟨⟨xs, y, ex_t wo_ex (ex_t x hs), hy⟩, fun z H3 ⟨h1, h2⟩ => ?_⟩
        subst h1
        have := h2 xs (ex_t wo_ex (ex_t x hs))
        rw [hy] at this
        cases this
        exact ⟨ex_id, hyd.up x⟩
/-- the numbers of a range -/
def rng (lo : Int) (n : Nat) : List PyData := (List.range n).map fun (i : Nat) => .int (lo + (i : Int))
theorem rng_len (lo : Int) (n : Nat) : (rng lo n).length = n := by simp [rng]
theorem rng_get {lo : Int} {n i : Nat} {d : PyData} (h : (rng lo n)[i]? = some d) : i < n ∧ d = .int (lo + (i : Int)) := by
  unfold rng at h
  rw [List.getElem?_map] at h
  by_cases hi : i < n
  · rw [List.getElem?_range hi] at h
    exact ⟨hi, (Option.some.inj h).symm⟩
  · rw [List.getElem?_eq_none (by rw [List.length_range]; omega)] at h
    cases h
theorem it_rng {I : Hp} {lo : Int} {n : Nat} : ItOk K I (Itr lo n) (rng lo n) := fun O H hO x i => ⟨fun hi => by rw [rng_len] at hi; exact hi, fun d hd => by
  obtain ⟨h1, rfl⟩ := rng_get hd
  refine ⟨h1, fun z H3 ⟨e1, e2⟩ => ?_⟩
  subst e1 e2
  exact ⟨ex_id, .int _⟩⟩
theorem wi_rng1 (h : WA K ta Δ fun ds => ∃ j : Int, ds = [.int j] ∧ -1000000 ≤ j ∧ j ≤ 1000000 ∧ Q (rng 0 j.toNat)) : WI K (iRng1 ta) Δ Q := fun A H0 H σ E R k =>
  h A H0 H σ E _ fun vs H1 ds e E1 ok ⟨j, hd, b1, b2, q⟩ => by
    subst hd
    cases ok with | cons g1 g2 =>
      cases g1; cases g2
      exact ⟨j, rfl, by omega, by omega, k _ H1 _ e E1 it_rng q⟩
theorem wi_rng2 (h : WA K ta Δ fun ds => ∃ i j : Int, ds = [.int i, .int j] ∧ (-1000000 ≤ i ∧ i ≤ 1000000) ∧ (-1000000 ≤ j ∧ j ≤ 1000000) ∧ Q (rng i (j - i).toNat)) : WI K (iRng2 ta) Δ Q := fun A H0 H σ E R k =>
  h A H0 H σ E _ fun vs H1 ds e E1 ok ⟨i, j, hd, ⟨b1, b2⟩, ⟨b3, b4⟩, q⟩ => by
    subst hd
    cases ok with | cons g1 g2 => cases g1; cases g2 with | cons g3 g4 =>
      cases g3; cases g4
      exact ⟨i, j, rfl, ⟨by omega, by omega, by omega, by omega⟩, k _ H1 _ e E1 it_rng q⟩
/-- two lists, pair by pair -/
def zip2 : List PyData → List PyData → List PyData
  | a :: as, b :: bs => .tuple [a, b] :: zip2 as bs
  | _, _ => []
theorem zip2_get : ∀ {as bs : List PyData} {i : Nat} {d : PyData}, (zip2 as bs)[i]? = some d → ∃ a b, as[i]? = some a ∧ bs[i]? = some b ∧ d = .tuple [a, b]
  | a :: as, b :: bs, 0, d, h => ⟨a, b, rfl, rfl, (Option.some.inj h).symm⟩
  | a :: as, b :: bs, i + 1, d, h => by
    obtain ⟨x, y, h1, h2, h3⟩ := zip2_get (as := as) (bs := bs) (i := i) (show (zip2 as bs)[i]? = some d from h)
    exact ⟨x, y, h1, h2, h3⟩
  | [], _, _, _, h => by simp [zip2] at h
  | _ :: _, [], _, _, h => by simp [zip2] at h
theorem zip2_len : ∀ {as bs : List PyData}, (zip2 as bs).length = min as.length bs.length
  | a :: as, b :: bs => by
    show (zip2 as bs).length + 1 = min (as.length + 1) (bs.length + 1)
    rw [zip2_len]
    omega
  | [], _ => by simp [zip2]
  | _ :: _, [] => by simp [zip2]
theorem wi_zip (h : WA K ta Δ fun ds => ∃ as bs, ds = [.list as, .list bs] ∧ Q (zip2 as bs)) : WI K (iZip K ta) Δ Q := fun A H0 H σ E R k =>
  h A H0 H σ E _ fun vs H1 ds e E1 ok ⟨as, bs, hd, q⟩ => by
    subst hd
    cases ok with | cons g1 g2 => cases g2 with | cons g3 g4 =>
      cases g4
      cases g1 with | @lst a xs _ ha hxa => cases g3 with | @lst b ys _ hb hyb =>
        refine ⟨a, b, xs, ys, rfl, ex_l wo_ex ha, ex_l wo_ex hb, k _ H1 _ e E1 (fun O H2 hO x i => ⟨fun hi => ?_, fun d hi => ?_⟩) q⟩
        · rw [zip2_len] at hi
          exact ⟨xs, ys, ex_l wo_ex (ex_l x ha), ex_l wo_ex (ex_l x hb), by rw [hxa.length, hyb.length]; omega⟩
        · obtain ⟨d1, d2, i1, i2, rfl⟩ := zip2_get hi
          obtain ⟨y1, hy1, hd1⟩ := hxa.get i1
          obtain ⟨y2, hy2, hd2⟩ := hyb.get i2
          refine ⟨⟨xs, ys, y1, y2, ex_l wo_ex (ex_l x ha), ex_l wo_ex (ex_l x hb), hy1, hy2⟩, fun z H3 ⟨T, x1, x2, ez, nT, e3, f1, f2⟩ => ?_⟩
          subst ez e3
          have q1 := f1 xs (ex_l wo_ex (ex_l x ha))
          have q2 := f2 ys (ex_l wo_ex (ex_l x hb))
          rw [hy1] at q1; cases q1
          rw [hy2] at q2; cases q2
          have en : Ex H2 (upd H2 T (.tup [y1, y2])) := Ex.new nT
          refine ⟨en, .tup (.inl (.inl (wo_mk (fun m => hO T m nT) upd_same))) (.cons ((hd1.up x).up (wo_le en)) (.cons ((hd2.up x).up (wo_le en)) .nil))⟩
def enum2 (n : Nat) : List PyData → List PyData
  | [] => []
  | a :: as => .tuple [.int n, a] :: enum2 (n + 1) as
end
/-! ### for -/
/-- an invariant by the turn, over the slots -/
inductive ForI (K : PySem.W.Frag) (g : TG) (tb : TS) (P : Post) (Δ : List Ent) (ds : List PyData) : Prop
  | mk (I : Nat → List Ent → Prop) (h0 : I 0 Δ) (hs : ∀ (i : Nat) d Δ', ds[i]? = some d → I i Δ' → WG K g d Δ' fun Δ2 => WS K tb Δ2 { P with nx := I (i + 1), ct := I (i + 1), bk := P.nx }) (hd : ∀ Δ', I ds.length Δ' → P.nx Δ')
theorem ws_for {K : PySem.W.Frag} {Δ : List Ent} {wi : TI} {g : TG} {tb : TS} {P : Post} (h : WI K wi Δ fun ds => ForI K g tb P Δ ds) :
    WS K (tFor wi g tb) Δ P := fun A H0 H σ D E n r _ _ =>
  h A H0 H σ E _ fun J H1 ds e E1 ok ⟨I, i0, hs, hd⟩ => by
    have b0 : Ex H0 (wo H1 (ads Δ)) := E1.base
    refine ⟨fun i m σ' H' => m = ds.length - i ∧ i ≤ ds.length ∧ ∃ Δ', Sit K A (wo H1 (ads Δ)) H' σ' Δ' ∧ I i Δ', ⟨ds.length, by simp, Nat.zero_le _, Δ, E1.rebase, i0⟩, ?_⟩
    rintro i m σ2 H2 ⟨rfl, hi, Δ2, E2, I2⟩
    have hO : ∀ a, a ∈ A ++ ads Δ2 → H2 a ≠ none := fun a m => E2.domAll m
    have hb : Ex (wo H1 (A ++ ads Δ)) (wo H2 (A ++ ads Δ2)) := fun a o z => by
      obtain ⟨m, q⟩ := wo_some z
      have := wo_some (E2.base a o (wo_mk (fun w => m (List.mem_append_right _ w)) q))
      exact wo_mk (fun w => (List.mem_append.mp w).elim (fun w => m (List.mem_append_left _ w)) this.1) this.2
    have st := ok (A ++ ads Δ2) H2 hO hb i
    by_cases hlt : i < ds.length
    · obtain ⟨go, yl⟩ := st.2 ds[i] (List.getElem?_eq_getElem hlt)
      refine .inr ⟨go, fun σ' H' => ∃ Δ', Sit K A (wo H1 (ads Δ)) H' σ' Δ' ∧ I (i + 1) Δ', fun σ' H' ⟨Δ', E', w⟩ => ⟨ds.length - (i + 1), by omega, rfl, hlt, Δ', E', w⟩, fun x H3 hy => ?_⟩
      obtain ⟨e3, hx⟩ := yl x H3 hy
      have E3 : Sit K A (wo H1 (ads Δ)) H3 σ2 Δ2 := E2.ext e3
      refine hs i ds[i] Δ2 (List.getElem?_eq_getElem hlt) I2 A _ H3 σ2 x E3 hx _ fun H4 σ4 Δ4 E4 _ w4 => ?_
      refine w4 A _ H4 σ4 _ E4 (fun H' σ' Δ' E' w => ⟨Δ', E', w⟩) (fun H' v rr x1 x2 x3 x4 => r H' v rr (fun a o z => x1 a o (b0 a o z)) x2 ?_ x4) (fun H' σ' Δ' E' w => n H' σ' Δ' (E'.debase b0 E.dom) w) fun H' σ' Δ' E' w => ⟨Δ', E', w⟩
      cases rr with
      | v d => exact x3
      | n es =>
        obtain ⟨l, xs, q1, q2, q3⟩ := x3
        refine ⟨l, xs, q1, ?_, q3⟩
        cases q0 : H0 l with
        | none => rfl
        | some o =>
          rw [b0 l o q0] at q2
          cases q2
    · have ei : i = ds.length := by omega
      subst ei
      exact .inl ⟨st.1 (Nat.le_refl _), n H2 σ2 Δ2 (E2.debase b0 E.dom) (hd Δ2 I2)⟩
end DL

set_option Elab.async false
set_option linter.all false
set_option maxRecDepth 100000
/-! DL3: comprehensions, calls, defs, at the data level. -/
namespace DL
open PySem PySem.Spec PyProof.Rows L2 Evl
theorem wo_congr {H : Hp} {O O' : List Addr} (h : ∀ a, a ∈ O ↔ a ∈ O') : wo H O = wo H O' := by
  funext a
  by_cases m : a ∈ O
  · rw [wo_out m, wo_out ((h a).mp m)]
  · rw [wo_in m, wo_in fun q => m ((h a).mpr q)]
theorem ResOk.congr {K : PySem.W.Frag} {H H' : Hp} {O O' : List Addr} {v : V} {r : Rs} (h : ∀ a, a ∈ O ↔ a ∈ O') (ok : ResOk K H H' O v r) : ResOk K H H' O' v r := by
  cases r with
  | v d => exact (show Dp K (wo H' O) v d from ok).up (wo_sub fun a m => (h a).mpr m)
  | n ds =>
    obtain ⟨l, xs, h1, h2, h3, h4, h5⟩ := ok
    refine ⟨l, xs, h1, h2, fun m => h3 ((h l).mpr m), h4, h5.up (wo_sub fun a m => ?_)⟩
    rcases List.mem_cons.mp m with rfl | m
    · exact List.mem_cons_self
    · exact List.mem_cons_of_mem _ ((h a).mpr m)
/-- less is avoided -/
theorem ResOk.less {K : PySem.W.Frag} {H H' : Hp} {O O' : List Addr} {v : V} {r : Rs} (h : ∀ a, a ∈ O' → a ∈ O) (ok : ResOk K H H' O v r) : ResOk K H H' O' v r := by
  cases r with
  | v d => exact (show Dp K (wo H' O) v d from ok).up (wo_sub h)
  | n ds =>
    obtain ⟨l, xs, h1, h2, h3, h4, h5⟩ := ok
    refine ⟨l, xs, h1, h2, fun m => h3 (h l m), h4, h5.up (wo_sub fun a m => ?_)⟩
    rcases List.mem_cons.mp m with rfl | m
    · exact List.mem_cons_self
    · exact List.mem_cons_of_mem _ (h a m)
section
variable {K : PySem.W.Frag} {A : List Addr} {H0 H H' H1 : Hp} {σ : L2.St} {Δ : List Ent}
theorem own_no_pot (E : Sit K A H0 H σ Δ) {i : Nat} {l : Addr} {ds : List PyData} (h : Δ[i]? = some (.own l ds)) : l ∉ pts Δ := fun m => by
  obtain ⟨j2, f, g1, g2⟩ := mem_pt m
  have := ads_two (a := l) E.nd h g1 (by simp [Ent.ad]) (pt_ad g2)
  subst this
  rw [h] at g1
  cases g1
  cases g2
theorem Kp.pot (k : Kp Δ H H') (E : Sit K A H0 H' σ Δ) {l : Addr} (h : PotAt H l) : PotAt H' l := by
  by_cases m : l ∈ pts Δ
  · obtain ⟨j, f, g1, g2⟩ := mem_pt m
    cases f with
    | pot l2 =>
      rw [show l = l2 by simpa [Ent.pt] using g2]
      exact (E.ents j _ g1).2
    | unk => cases g2
    | val d => cases g2
    | own l2 ds => cases g2
  · obtain ⟨x, y, e, q⟩ := h
    exact ⟨x, y, (wo_some (k l _ (wo_mk m e))).2, q⟩
theorem Sit.again (E : Sit K A H0 H σ Δ) (k : Kp Δ H H') (hp : ∀ l, PotAt H l → PotAt H' l) : Sit K A H0 H' σ Δ := by
  refine ⟨fun a o z => k.ads a o (E.base a o z), E.dom, fun i e hi => ?_, E.nd, E.len⟩
  have old := E.ents i e hi
  cases e with
  | unk => trivial
  | val d => obtain ⟨v, h1, h2⟩ := old; exact ⟨v, h1, h2.up k.all⟩
  | own l ds =>
    obtain ⟨h1, xs, h2, h3⟩ := old
    exact ⟨h1, xs, (wo_some (k l _ (wo_mk (own_no_pot E hi) h2))).2, h3.up k.all⟩
  | pot l => exact ⟨old.1, hp l old.2⟩
/-- a new list D beside: what is known avoids it -/
theorem Sit.under (E : Sit K A H0 H1 σ Δ) {D : Addr} (hD : H1 D = none) (k : Kp Δ H1 H') (hp : ∀ l, PotAt H1 l → PotAt H' l) (hD' : H' D ≠ none) : Sit K (D :: A) (wo H' (ads Δ)) H' σ Δ := by
  have nD : D ∉ ads Δ := fun m => by
    obtain ⟨o, q⟩ := E.live m
    rw [hD] at q; cases q
  have L : Ex (wo H1 (A ++ ads Δ)) (wo H' ((D :: A) ++ ads Δ)) := fun a o z => by
    have z2 := k.all (A := A) a o z
    obtain ⟨m, q⟩ := wo_some z
    refine wo_mk (fun w => ?_) (wo_some z2).2
    rcases List.mem_cons.mp w with rfl | w
    · rw [hD] at q; cases q
    · exact m w
  refine ⟨fun _ _ z => z, fun a m => ?_, fun i e hi => ?_, E.nd, E.len⟩
  · rcases List.mem_cons.mp m with rfl | m
    · rw [wo_in nD]; exact hD'
    · obtain ⟨o, q⟩ := E.domA m
      rw [k.ads a o q]
      simp
  · have old := E.ents i e hi
    cases e with
    | unk => trivial
    | val d => obtain ⟨v, h1, h2⟩ := old; exact ⟨v, h1, h2.up L⟩
    | own l ds =>
      obtain ⟨h1, xs, h2, h3⟩ := old
      exact ⟨h1, xs, (wo_some (k l _ (wo_mk (own_no_pot E hi) h2))).2, h3.up L⟩
    | pot l => exact ⟨old.1, hp l old.2⟩
end
def wipeE (Δ : List Ent) : List Nat → List Ent
  | [] => Δ
  | v :: vs => (wipeE Δ vs).set v .unk
theorem wipeE_len (Δ : List Ent) : ∀ vs : List Nat, (wipeE Δ vs).length = Δ.length
  | [] => rfl
  | v :: vs => by unfold wipeE; rw [List.length_set, wipeE_len Δ vs]
theorem wipeE_get {Δ : List Ent} {i : Nat} {e : Ent} : ∀ {vs : List Nat}, (wipeE Δ vs)[i]? = some e → e = .unk ∨ (i ∉ vs ∧ Δ[i]? = some e)
  | [], h => .inr ⟨by simp, h⟩
  | v :: vs, h => by
    unfold wipeE at h
    by_cases hi : v = i
    · subst hi
      have hl : v < (wipeE Δ vs).length := by
        have := (List.getElem?_eq_some_iff.mp h).1
        rwa [List.length_set] at this
      rw [List.getElem?_set_self hl] at h
      exact .inl (Option.some.inj h).symm
    · rw [List.getElem?_set_ne hi] at h
      rcases wipeE_get h with h | ⟨h1, h2⟩
      · exact .inl h
      · refine .inr ⟨fun m => ?_, h2⟩
        rcases List.mem_cons.mp m with m | m
        · exact hi m.symm
        · exact h1 m
theorem Sit.wiped {K : PySem.W.Frag} {A : List Addr} {H0 H : Hp} {σ : L2.St} {Δ : List Ent} (E : Sit K A H0 H σ Δ) {vs : List Nat} (hw : ads (wipeE Δ vs) = ads Δ) : Sit K A H0 H (wipe σ vs) (wipeE Δ vs) := by
  refine ⟨by rw [hw]; exact E.base, E.dom, fun i e hi => ?_, by rw [hw]; exact E.nd, by rw [wipe_length, wipeE_len]; exact E.len⟩
  rw [hw]
  rcases wipeE_get hi with rfl | ⟨h1, h2⟩
  · trivial
  · rw [wipe_out h1]
    exact E.ents i e h2
/-! ### the names that a comprehension stores -/
def WB (K : PySem.W.Frag) (vs : List Nat) (g : TG) (d : PyData) (Δ : List Ent) (N : List Ent → Prop) : Prop :=
  ∀ (A : List Addr) (H0 H : Hp) (σ : L2.St) (v : V), Sit K A H0 H σ Δ → Dp K (wo H (A ++ ads Δ)) v d → ∀ Qh : L2.St → Hp → Prop,
    (∀ σ' Δ', wipe σ' vs = wipe σ vs → Sit K A H0 H σ' Δ' → ads Δ' = ads Δ → pts Δ' = pts Δ → N Δ' → Qh σ' H) → g v σ H Qh
def WBs (K : PySem.W.Frag) (vs : List Nat) (g : TGs) (ds : List PyData) (Δ : List Ent) (N : List Ent → Prop) : Prop :=
  ∀ (A : List Addr) (H0 H : Hp) (σ : L2.St) (ws : List V), Sit K A H0 H σ Δ → DpAll K (wo H (A ++ ads Δ)) ws ds → ∀ Qh : L2.St → Hp → Prop,
    (∀ σ' Δ', wipe σ' vs = wipe σ vs → Sit K A H0 H σ' Δ' → ads Δ' = ads Δ → pts Δ' = pts Δ → N Δ' → Qh σ' H) → g ws σ H Qh
theorem set_none_set {σ : L2.St} {i v : Nat} {x y : Option V} (h : i ≠ v) : (σ.set i x).set v y = (σ.set v y).set i x := List.set_comm x y h
theorem wipe_set {σ : L2.St} {i : Nat} {x : Option V} : ∀ {vs : List Nat}, i ∈ vs → wipe (σ.set i x) vs = wipe σ vs
  | v :: vs, h => by
    unfold wipe
    by_cases hv : i ∈ vs
    · rw [wipe_set hv]
    · have e : i = v := by
        rcases List.mem_cons.mp h with e | m
        · exact e
        · exact absurd m hv
      subst e
      have sw : ∀ ws : List Nat, i ∉ ws → wipe (σ.set i x) ws = (wipe σ ws).set i x := by
        intro ws
        induction ws with
        | nil => intro _; rfl
        | cons w ws ih =>
          intro hn
          have h1 : i ≠ w := fun e => hn (by rw [e]; exact List.mem_cons_self)
          have h2 : i ∉ ws := fun m => hn (List.mem_cons_of_mem _ m)
          unfold wipe
          rw [ih h2, List.set_comm _ _ h1]
      rw [sw vs hv, List.set_set]
section
variable {K : PySem.W.Frag} {vs : List Nat} {Δ : List Ent} {N : List Ent → Prop}
theorem wb_name {i : Nat} {d : PyData} (hi : i ∈ vs) (h1 : ads (Δ.set i (.val d)) = ads Δ) (h2 : pts (Δ.set i (.val d)) = pts Δ) (q : N (Δ.set i (.val d))) : WB K vs (gName i) d Δ N := fun A H0 H σ v E h Qh k =>
  k _ _ (wipe_set hi) (E.setV h) h1 h2 q
theorem wbs_nil (q : N Δ) : WBs K vs gNil [] Δ N := fun A H0 H σ ws E h Qh k => by
  cases h
  exact ⟨rfl, k σ Δ rfl E rfl rfl q⟩
theorem wbs_cons {g : TG} {gs : TGs} {d : PyData} {ds : List PyData} (h : WB K vs g d Δ fun Δ' => WBs K vs gs ds Δ' N) : WBs K vs (gCons g gs) (d :: ds) Δ N := fun A H0 H σ ws E hd Qh k => by
  cases hd with
  | cons h1 h2 =>
    exact ⟨_, _, rfl, h A H0 H σ _ E h1 _ fun σ1 Δ1 w1 E1 a1 p1 w => w A H0 H σ1 _ E1 (by rw [a1]; exact h2) Qh fun σ2 Δ2 w2 E2 a2 p2 n => k σ2 Δ2 (w2.trans w1) E2 (a2.trans a1) (p2.trans p1) n⟩
theorem wb_tup {n : Nat} {gs : TGs} {ds : List PyData} (hn : ds.length = n) (h : WBs K vs gs ds Δ N) : WB K vs (gTup K n gs) (.tuple ds) Δ N := fun A H0 H σ v E hd Qh k => by
  cases hd with
  | tup hs ha => exact ⟨_, _, rfl, ex_t wo_ex hs, by rw [ha.length]; exact hn, h A H0 H σ _ E ha Qh k⟩
theorem wt_yes {Q : Bool → Prop} (q : Q true) : WT K tYes Δ Q := fun A H0 H σ E Qh k => k true H Kp.refl E q
/-- what a comprehension has made, by the turn -/
inductive LcI (K : PySem.W.Frag) (vs : List Nat) (g : TG) (tt : TT) (te : TE) (Δ : List Ent) (Q : Rs → Prop) (ds : List PyData) : Prop
  | mk (hl : ds.length ≤ 100000) (J : Nat → List PyData → Prop) (h0 : J 0 [])
      (hs : ∀ (i : Nat) d acc, ds[i]? = some d → J i acc → WB K vs g d (wipeE Δ vs) fun Δ2 => WT K tt Δ2 fun b => if b = true then WE K te Δ2 fun r => J (i + 1) (acc ++ [r.d]) else J (i + 1) acc)
      (hd : ∀ acc, acc.length ≤ ds.length → J ds.length acc → Q (.n acc))
/-- [e for x in xs if t] -/
theorem we_lc {wi : TI} {g : TG} {tt : TT} {te : TE} {Q : Rs → Prop} (hw : ads (wipeE Δ vs) = ads Δ) (hw2 : pts (wipeE Δ vs) = pts Δ)
    (h : WI K wi Δ fun ds => LcI K vs g tt te Δ Q ds) : WE K (tLc wi g tt te vs) Δ Q := fun A H0 H σ E Qh k =>
  h A H0 H σ E _ fun It H1 ds e1 E1 ok ⟨hlen, J, j0, hs, hd⟩ D hD => by
    have nD : D ∉ A ++ ads Δ := fun m => E1.domAll m hD
    refine ⟨fun i m H' => m = ds.length - i ∧ i ≤ ds.length ∧ ∃ acc accd, H' D = some (.lst acc) ∧ DpAll K (wo H' (D :: (A ++ ads Δ))) acc accd ∧ Kp Δ H1 H' ∧ (∀ l, PotAt H1 l → PotAt H' l) ∧ J i accd ∧ accd.length ≤ i,
      ⟨ds.length, by simp, Nat.zero_le _, [], [], upd_same, .nil, Kp.of (Ex.new hD), fun l ⟨x, y, e, q⟩ => ⟨x, y, Ex.new hD l _ e, q⟩, j0, Nat.le_refl _⟩, ?_⟩
    rintro i m H2 ⟨rfl, hi, acc, accd, hDa, hacc, k2, hp2, hJ, hal⟩
    have E2 : Sit K A H0 H2 σ Δ := E1.again k2 hp2
    have Eu : Sit K (D :: A) (wo H2 (ads Δ)) H2 σ Δ := E1.under hD k2 hp2 (by rw [hDa]; simp)
    have hO : ∀ a, a ∈ (D :: A) ++ ads Δ → H2 a ≠ none := fun a m => Eu.domAll m
    have hb : Ex (wo H1 (A ++ ads Δ)) (wo H2 ((D :: A) ++ ads Δ)) := fun a o z => by
      have z2 := k2.all (A := A) a o z
      obtain ⟨m, q⟩ := wo_some z
      refine wo_mk (fun w => ?_) (wo_some z2).2
      rcases List.mem_cons.mp w with rfl | w
      · rw [hD] at q; cases q
      · exact m w
    have st := ok ((D :: A) ++ ads Δ) H2 hO hb i
    by_cases hlt : i < ds.length
    · obtain ⟨go, yl⟩ := st.2 ds[i] (List.getElem?_eq_getElem hlt)
      refine .inr ⟨go, fun H' => ∃ acc accd, H' D = some (.lst acc) ∧ DpAll K (wo H' (D :: (A ++ ads Δ))) acc accd ∧ Kp Δ H1 H' ∧ (∀ l, PotAt H1 l → PotAt H' l) ∧ J (i + 1) accd ∧ accd.length ≤ i + 1, fun H' q => ⟨ds.length - (i + 1), by omega, rfl, hlt, q⟩, fun x H3 hy => ?_⟩
      obtain ⟨e3, hx⟩ := yl x H3 hy
      have E3 : Sit K (D :: A) (wo H2 (ads Δ)) H3 (wipe σ vs) (wipeE Δ vs) := (Eu.ext e3).wiped hw
      refine hs i ds[i] accd (List.getElem?_eq_getElem hlt) hJ (D :: A) _ H3 (wipe σ vs) x E3 (by rw [hw]; exact hx) _ fun σ4 Δ4 w4 E4 a4 p4 wt => ?_
      have a4' : ads Δ4 = ads Δ := a4.trans hw
      have p4' : pts Δ4 = pts Δ := p4.trans hw2
      have ww : wipe (wipe σ vs) vs = wipe σ vs := by
        have idem : ∀ ws us : List Nat, (∀ a, a ∈ ws → a ∈ us) → wipe (wipe σ ws) us = wipe σ us := by
          intro ws
          induction ws with
          | nil => intro us _; rfl
          | cons w ws ih =>
            intro us hu
            show wipe ((wipe σ ws).set w none) us = wipe σ us
            rw [wipe_set (hu w List.mem_cons_self)]
            exact ih us fun a m => hu a (List.mem_cons_of_mem _ m)
        exact idem vs vs fun _ m => m
      refine ⟨w4.trans ww, wt (D :: A) _ H3 σ4 E4 _ fun b H5 k5 E5 q5 => ?_⟩
      have kp5 : Kp Δ H3 H5 := by unfold Kp at k5 ⊢; rw [← p4']; exact k5
      have k25 : Kp Δ H2 H5 := (Kp.of e3).trans kp5
      have pot25 : ∀ l, PotAt H2 l → PotAt H5 l := fun l ⟨x, y, e, q⟩ => k5.pot E5 ⟨x, y, e3 l _ e, q⟩
      have at5 : H5 D = some (.lst acc) := by
        have nD2 : D ∉ ads Δ := fun m => nD (List.mem_append_right _ m)
        exact (wo_some (E5.base D _ (wo_mk nD2 hDa))).2
      have accUp : ∀ {H' : Hp}, Kp Δ H2 H' → DpAll K (wo H' (D :: (A ++ ads Δ))) acc accd := fun {H'} kk => hacc.up (wo_more kk fun a m => List.mem_cons_of_mem _ (List.mem_append_right _ (pts_ads m)))
      cases b with
      | false => exact ⟨acc, accd, at5, accUp k25, k2.trans k25, fun l z => pot25 l (hp2 l z), q5, by omega⟩
      | true =>
        refine q5 (D :: A) _ H5 σ4 E5 _ fun y H6 r k6 E6 ok6 q6 => ?_
        have kp6 : Kp Δ H5 H6 := by unfold Kp at k6 ⊢; rw [← p4']; exact k6
        have k26 : Kp Δ H2 H6 := k25.trans kp6
        have at6 : H6 D = some (.lst acc) := by
          have nD2 : D ∉ ads Δ := fun m => nD (List.mem_append_right _ m)
          exact (wo_some (E6.base D _ (wo_mk nD2 hDa))).2
        have dropD : ∀ {o : HO}, Ex (wo H6 (D :: (A ++ ads Δ))) (wo (upd H6 D o) (D :: (A ++ ads Δ))) := fun {o} a u z => by
          obtain ⟨m, q⟩ := wo_some z
          refine wo_mk m ?_
          rw [upd_ne (fun e => m (by rw [e]; exact List.mem_cons_self))]
          exact q
        refine ⟨acc, at6, sz_lt ?_, acc ++ [y], accd ++ [r.d], upd_same, ?_, ?_, ?_, q6, by rw [List.length_append]; simp; exact hal⟩
        · rw [hacc.length]; omega
        · refine DpAll.app ((accUp k26).up dropD) (.cons ?_ .nil)
          have hy2 := ok6.dp
          rw [a4'] at hy2
          exact (show Dp K (wo H6 (D :: (A ++ ads Δ))) y r.d from hy2).up dropD
        · refine fun a o z => ?_
          have z2 := (k2.trans k26) a o z
          obtain ⟨m, q⟩ := wo_some z
          obtain ⟨m2, q2⟩ := wo_some z2
          refine wo_mk m ?_
          rw [upd_ne (fun e => by subst e; rw [hD] at q; cases q)]
          exact q2
        · intro l hl
          have h6 : PotAt H6 l := k6.pot E6 (pot25 l (hp2 l hl))
          obtain ⟨x1, y1, e, q⟩ := hl
          obtain ⟨x2, y2, e2, q2⟩ := h6
          refine ⟨x2, y2, ?_, q2⟩
          rw [upd_ne (fun ee => by subst ee; rw [hD] at e; cases e)]
          exact e2
    · have ei : i = ds.length := by omega
      subst ei
      exact .inl ⟨st.1 (Nat.le_refl _), k _ H2 (.n accd) (e1.trans k2) E2 ⟨D, acc, rfl, E.fresh e1 E1 hD, nD, hDa, hacc⟩ (hd accd hal hJ)⟩
/-- each turn gives its item's f -/
inductive LcM (K : PySem.W.Frag) (vs : List Nat) (g : TG) (te : TE) (Δ : List Ent) (Q : Rs → Prop) (f : PyData → PyData) (ds : List PyData) : Prop
  | mk (hl : ds.length ≤ 100000) (hs : ∀ d, d ∈ ds → WB K vs g d (wipeE Δ vs) fun Δ2 => WE K te Δ2 fun r => r.d = f d) (hd : Q (.n (ds.map f)))
theorem we_lcMap {wi : TI} {g : TG} {te : TE} {Q : Rs → Prop} (f : PyData → PyData) (hw : ads (wipeE Δ vs) = ads Δ) (hw2 : pts (wipeE Δ vs) = pts Δ)
    (h : WI K wi Δ fun ds => LcM K vs g te Δ Q f ds) : WE K (tLc wi g tYes te vs) Δ Q := by
  refine we_lc hw hw2 fun A H0 H σ E R k => h A H0 H σ E R fun J H' ds e E' ok ⟨h1, h2, h3⟩ => k J H' ds e E' ok ⟨h1, fun i acc => acc = (ds.take i).map f, by simp, fun i d acc hd ha => ?_, fun acc _ ha => ?_⟩
  · refine fun A H0 H σ v E hv Qh kk => h2 d (List.mem_of_getElem? hd) A H0 H σ v E hv Qh fun σ' Δ' a b c e w => kk σ' Δ' a b c e (wt_yes ?_)
    show WE K te Δ' _
    refine we_imp w fun r hr => ?_
    show acc ++ [r.d] = List.map f (List.take (i + 1) ds)
    rw [hr, ha, List.take_add_one, hd, List.map_append]
    rfl
  · rw [ha, List.take_length]
    exact h3
end
/-! ### defs -/
/-- a def of plain arguments: phi args R says that R holds of whatever it gives -/
def SpF (K : PySem.W.Frag) (φ : List PyData → (Rs → Prop) → Prop) : Sp := fun vs H Q _ => ∃ (A : List Addr) (ds : List PyData) (R : Rs → Prop), DpAll K (wo H A) vs ds ∧ (∀ a, a ∈ A → H a ≠ none) ∧ φ ds R ∧
  ∀ v H' r, Ex H H' → ResOk K H H' A v r → R r → Q v H'
/-- a def whose first argument is a pot -/
def SpD (K : PySem.W.Frag) (φ : List PyData → (Rs → Prop) → Prop) : Sp := fun vs H Q _ => ∃ (A : List Addr) (p : Addr) (ws : List V) (ds : List PyData) (R : Rs → Prop), vs = .ref p :: ws ∧ PotAt H p ∧ p ∉ A ∧ DpAll K (wo H (A ++ [p])) ws ds ∧ (∀ a, a ∈ A → H a ≠ none) ∧ φ ds R ∧
  ∀ v H' r, Ex (wo H [p]) (wo H' [p]) → PotAt H' p → ResOk K H H' (A ++ [p]) v r → R r → Q v H'
section
variable {K : PySem.W.Frag} {Δ : List Ent} {ta : TA} {te : TE} {Q : Rs → Prop} {φ : List PyData → (Rs → Prop) → Prop} {E0 : XK}
theorem we_call (h : WA K ta Δ fun ds => φ ds Q) : WE K (tCall (SpF K φ) [] E0 ta) Δ Q := fun A H0 H σ E Qh k =>
  h A H0 H σ E _ fun vs H1 ds e1 E1 ok q => by
    show SpF K φ (vs ++ []) H1 Qh E0
    rw [List.append_nil]
    exact ⟨A ++ ads Δ, ds, Q, ok, fun a m => E1.domAll m, q, fun v H' r e o z => k v H' r (e1.trans (Kp.of e)) (E1.ext e) (ResOk.back E e1 E1 o) z⟩
theorem we_callD {i : Nat} {p : Addr} (hp : Δ[i]? = some (.pot p)) (h : WA K ta Δ fun ds => φ ds Q) : WE K (tCall (SpD K φ) [] E0 (tCons (tVar i) ta)) Δ Q := fun A H0 H σ E Qh k => by
  obtain ⟨g1, _⟩ := E.ents i _ hp
  refine ⟨.ref p, g1, h A H0 H σ E _ fun vs H1 ds e1 E1 ok q => ?_⟩
  show SpD K φ ((.ref p :: vs) ++ []) H1 Qh E0
  rw [List.append_nil]
  have hin : p ∈ ads Δ := ad_mem hp (by simp [Ent.ad])
  have hpt : p ∈ pts Δ := by
    have : ∀ {Δ : List Ent} {i : Nat}, Δ[i]? = some (.pot p) → p ∈ pts Δ := by
      intro Δ
      induction Δ with
      | nil => intro i h; simp at h
      | cons x r ih =>
        intro i h
        cases i with
        | zero =>
          simp at h; subst h
          exact List.mem_append_left _ (by simp [Ent.pt])
        | succ i => exact List.mem_append_right _ (ih (i := i) (by simpa using h))
    exact this hp
  have hm : ∀ a, a ∈ (A ++ ads Δ).filter (fun a => decide (a ≠ p)) ++ [p] ↔ a ∈ A ++ ads Δ := fun a => by
    rw [List.mem_append, List.mem_filter, List.mem_singleton]
    constructor
    · rintro (⟨h, _⟩ | rfl)
      · exact h
      · exact List.mem_append_right _ hin
    · intro h
      by_cases ha : a = p
      · exact .inr ha
      · exact .inl ⟨h, decide_eq_true ha⟩
  refine ⟨(A ++ ads Δ).filter (fun a => decide (a ≠ p)), p, vs, ds, Q, rfl, (E1.ents i _ hp).2, fun m => ?_, by rw [wo_congr hm]; exact ok, fun a m => E1.domAll (List.mem_filter.mp m).1, q, fun v H' r e po o z => ?_⟩
  · exact absurd rfl (of_decide_eq_true (List.mem_filter.mp m).2)
  · have kp : Kp Δ H1 H' := wo_more e fun a m => by rw [List.mem_singleton.mp m]; exact hpt
    have E2 : Sit K A H0 H' σ Δ := E1.again kp fun l ⟨x, y, el, ql⟩ => by
      by_cases hl : l = p
      · rw [hl]; exact po
      · exact ⟨x, y, (wo_some (e l _ (wo_mk (by simpa using hl) el))).2, ql⟩
    exact k v H' r (e1.trans kp) E2 (ResOk.back E e1 E1 (o.congr hm)) z
/-- the pot itself a call's result -/
theorem we_callDt (h : WE K te Δ fun r => ∃ x y : Int, r = .n [.int x, .int y] ∧ 0 ≤ x ∧ 0 ≤ y ∧ y < 2147483648 ∧ φ [] Q) : WE K (tCall (SpD K φ) [] E0 (tCons te tNil)) Δ Q := fun A H0 H σ E Qh k =>
  h A H0 H σ E _ fun v H1 r e1 E1 ok ⟨x, y, hr, b1, b2, b3, q⟩ => by
    subst hr
    obtain ⟨l, xs, rfl, h1, h2, h3, h4⟩ := ok
    cases h4 with | cons g1 g2 => cases g1; cases g2 with | cons g3 g4 =>
      cases g3; cases g4
      show SpD K φ ([.ref l] ++ []) H1 Qh E0
      rw [List.append_nil]
      refine ⟨A ++ ads Δ, l, [], [], Q, rfl, ⟨x, y, h3, b1, b2, b3⟩, h2, .nil, fun a m => E1.domAll m, q, fun v H' r e po o z => ?_⟩
      have lp : l ∉ pts Δ := fun m => h2 (List.mem_append_right _ (pts_ads m))
      have kp : Kp Δ H H' := fun a u z => by
        have z2 := e1 a u z
        obtain ⟨m, q0⟩ := wo_some z
        obtain ⟨_, q1⟩ := wo_some z2
        have na : a ≠ l := fun ee => by subst ee; rw [h1] at q0; cases q0
        exact wo_mk m (wo_some (e a u (wo_mk (by simpa using na) q1))).2
      have E2 : Sit K A H0 H' σ Δ := E.again kp fun a ha => by
        have h5 := e1.pot E1 ha
        obtain ⟨x1, y1, el, ql⟩ := ha
        have na : a ≠ l := fun ee => by subst ee; rw [h1] at el; cases el
        obtain ⟨x2, y2, e2, q2⟩ := h5
        exact ⟨x2, y2, (wo_some (e a _ (wo_mk (by simpa using na) e2))).2, q2⟩
      refine k v H' r kp E2 (ResOk.back E e1 E1 (o.less fun a m => List.mem_append_left _ m)) z
end
theorem ents_start {K : PySem.W.Frag} {H : Hp} {O : List Addr} {n : Nat} : ∀ {vs : List V} {ds : List PyData}, DpAll K (wo H O) vs ds → ∀ (i : Nat) (e : Ent), (ds.map Ent.val ++ List.replicate n .unk)[i]? = some e → EntOk K H O ((vs.map some ++ List.replicate n (none : Option V))[i]?) e
  | _, _, .nil, i, e, h => by
    have h' : (List.replicate n Ent.unk)[i]? = some e := h
    rw [List.getElem?_replicate] at h'
    split at h'
    · cases h'; trivial
    · cases h'
  | _, _, .cons h1 h2, 0, e, h => by
    cases (show some _ = some e from h)
    exact ⟨_, rfl, h1⟩
  | _, _, .cons h1 h2, i + 1, e, h => ents_start h2 i e h
theorem ads_start (n : Nat) : ∀ ds : List PyData, ads (ds.map Ent.val ++ List.replicate n .unk) = []
  | [] => by
    show ads (List.replicate n .unk) = []
    induction n with
    | zero => rfl
    | succ n ih => exact ih
  | d :: ds => ads_start n ds
section
variable {P : Program} {w : World} {K : PySem.W.Frag} {mg : Str → Option Value} {base : Heap} {x qual : Str} {st : Stmt} {f : Addr} {fd : FuncData} {N ps : List Str} {k : Nat} {φ : List PyData → (Rs → Prop) → Prop} {t : TS}
theorem okF (F : Fun K x qual st f fd) (S : FnScope N ps (defScope st)) (hl : ∀ ds R, φ ds R → ds.length = ps.length)
    (ht : ∀ (cdv : Value) (A : Around) (outer : List Env) (s : Shared) (H : Hp) (E : XK), Room k (A.deeper (envOfC qual (defScope st) s.heap.objs.size f cdv)) → PSs (cxOf CX0 P w K mg base N qual (defScope st) f cdv A outer s H E).nox (defBody st) t)
    (hw : ∀ ds R, φ ds R → WS K t (ds.map Ent.val ++ List.replicate (N.length - ds.length) .unk) { nx := fun _ => R (.v .none), rt := R }) : FnOk P w K mg base CX0 (k + 1) f fd ps (SpF K φ) := by
  refine F.ok S (fun vs H Q E h => ?_) (fun cdv A outer s H vs Q E hr h => ⟨t, ht cdv A outer s H E hr, ?_⟩)
  · obtain ⟨A, ds, R, h1, _, h2, _⟩ := h
    rw [h1.length]
    exact hl ds R h2
  · obtain ⟨A, ds, R, h1, hA, h2, h3⟩ := h
    have a0 := ads_start (N.length - ds.length) ds
    have S0 : Sit K A H H (L2.start N vs) (ds.map Ent.val ++ List.replicate (N.length - ds.length) .unk) := by
      refine ⟨by rw [a0, wo_nil]; exact fun _ _ z => z, hA, fun i e hi => ?_, by rw [a0]; simp, ?_⟩
      · rw [a0, List.append_nil]
        unfold L2.start
        rw [h1.length]
        exact ents_start h1 i e hi
      · unfold L2.start
        rw [List.length_append, List.length_append, List.length_map, List.length_map, List.length_replicate, List.length_replicate, h1.length]
    refine hw ds R h2 A H H (L2.start N vs) _ S0 (fun H' σ' Δ' E' q => ?_) (fun H' v r e _ o q => ?_) (fun H' σ' Δ' E' q => q.elim) (fun H' σ' Δ' E' q => q.elim)
    · exact h3 .non H' (.v .none) (fun a o z => wo_ex a o (E'.base a o z)) Dp.non q
    · exact h3 v H' r (by rw [show wo H' ([] : List Addr) = H' from wo_nil] at e; exact e) (by rw [show A ++ ([] : List Addr) = A from List.append_nil A] at o; exact o) q
theorem okD {x0 : Str} (F : Fun K x qual st f fd) (S : FnScope N ps (defScope st)) (hps : 0 < N.length) (hl : ∀ ds R, φ ds R → ds.length + 1 = ps.length)
    (ht : ∀ (cdv : Value) (A : Around) (outer : List Env) (s : Shared) (H : Hp) (E : XK), Room k (A.deeper (envOfC qual (defScope st) s.heap.objs.size f cdv)) → PSs (cxOf CX0 P w K mg base N qual (defScope st) f cdv A outer s H E).nox (defBody st) t)
    (hw : ∀ (p : Addr) ds R, φ ds R → WS K t (.pot p :: (ds.map Ent.val ++ List.replicate (N.length - (ds.length + 1)) .unk)) { nx := fun _ => False, rt := R, ps := [p] }) : FnOk P w K mg base CX0 (k + 1) f fd ps (SpD K φ) := by
  refine F.ok S (fun vs H Q E h => ?_) (fun cdv A outer s H vs Q E hr h => ⟨t, ht cdv A outer s H E hr, ?_⟩)
  · obtain ⟨A, p, ws, ds, R, rfl, _, _, h1, _, h2, _⟩ := h
    rw [List.length_cons, h1.length]
    exact hl ds R h2
  · obtain ⟨A, p, ws, ds, R, rfl, hp, hpA, h1, hA, h2, h3⟩ := h
    have a0 : ads (.pot p :: (ds.map Ent.val ++ List.replicate (N.length - (ds.length + 1)) .unk)) = [p] := by
      show [p] ++ ads (ds.map Ent.val ++ List.replicate (N.length - (ds.length + 1)) .unk) = [p]
      rw [ads_start]
      rfl
    have S0 : Sit K A (wo H [p]) H (L2.start N (.ref p :: ws)) (.pot p :: (ds.map Ent.val ++ List.replicate (N.length - (ds.length + 1)) .unk)) := by
      refine ⟨by rw [a0]; exact fun _ _ z => z, fun a m => ?_, fun i e hi => ?_, by rw [a0]; simp, ?_⟩
      · rw [wo_in (by intro z; rw [List.mem_singleton.mp z] at m; exact hpA m)]
        exact hA a m
      · rw [a0]
        unfold L2.start
        rw [List.length_cons, h1.length]
        cases i with
        | zero =>
          cases (show some (Ent.pot p) = some e from hi)
          exact ⟨rfl, hp⟩
        | succ i => exact ents_start h1 i e hi
      · unfold L2.start
        rw [List.length_append, List.length_map, List.length_replicate, List.length_cons, List.length_cons, List.length_append, List.length_map, List.length_replicate, h1.length]
        omega
    refine hw p ds R h2 A (wo H [p]) H (L2.start N (.ref p :: ws)) _ S0 (fun H' σ' Δ' E' q => q.elim) (fun H' v r e po o q => ?_) (fun H' σ' Δ' E' q => q.elim) (fun H' σ' Δ' E' q => q.elim)
    refine h3 v H' r e (po p (by simp)) ?_ q
    cases r with
    | v d => exact o
    | n es =>
      obtain ⟨l, xs, q1, q2, q3, q4⟩ := o
      refine ⟨l, xs, q1, ?_, q3, q4⟩
      rw [wo_in (by intro z; exact q3 (List.mem_append_right _ z))] at q2
      exact q2
end
end DL

set_option Elab.async false
set_option linter.all false
set_option maxRecDepth 100000
/-! DL4: the rules that the printer names: readings that don't ask for types, and what they do to data. -/
namespace DL
open PySem PySem.Spec PyProof.Rows L2 Evl
section
variable {X : Cx}
theorem pe_imp {e : Expr} {t t' : TE} (h : PE X e t) (k : ∀ σ H Q, t' σ H Q → t σ H Q) : PE X e t' := ⟨fun pins s σ H Q I z => h.run pins s σ H Q I (k σ H Q z)⟩
theorem op_or {f : Value → Value → Sem Value} {r r' : R2} (a : OpR X f r) (b : OpR X f r') : OpR X f (fun x y H Q => r x y H Q ∨ r' x y H Q) := fun pins s σ H x y v u Q I rx ry h =>
  h.elim (fun z => a pins s σ H x y v u Q I rx ry z) fun z => b pins s σ H x y v u Q I rx ry z
/-! ### list + list, whatever lists -/
def rCatS (K : PySem.W.Frag) : R2 := fun x y H Q => ∃ l b xs zs, x = .ref l ∧ y = .ref b ∧ SqL K H l xs ∧ SqL K H b zs ∧ xs.length + zs.length ≤ sizeLine ∧ ∀ p, H p = none → Q (.ref p) (upd H p (.lst (xs ++ zs)))
theorem op_catS : OpR X (binaryOp .Add) (rCatS X.K) := by
  intro pins s σ H x y v u Q I rx ry h
  obtain ⟨l, b, xs, zs, rfl, rfl, hH, hB, hz, q⟩ := h
  cases rx
  cases ry
  obtain ⟨its, r, ⟨⟨cls, dd, data, sl⟩, n, ho, hc, hdd, hd⟩, z1⟩ := I.list hH
  obtain ⟨its2, r2, ⟨⟨cls2, dd2, data2, sl2⟩, n2, ho2, hc2, hdd2, hd2⟩, z2⟩ := I.list hB
  simp only at hc hd hc2 hd2
  subst hc hd hc2 hd2
  have e : its.toArray ++ its2.toArray = (its ++ its2).toArray := by simp
  have hl := r.length
  have hl2 := r2.length
  refine concat_meets ⟨_, ho, rfl⟩ ⟨_, ho2, rfl⟩ noFill_list_add seq_list_add PySem.F.slot_list_add PySem.F.entry_list_add (PySem.F.args_list_add_2 _ _) (list_addW l b its.toArray its2.toArray n n2 dd dd2 sl sl2 (by simp; omega)) ⟨ho, ho2, ?_⟩
  rw [e]
  exact ⟨.ref _, _, I.lnew (t' := s.toks) (r.append r2) (by rw [List.length_append]; omega), rfl, q _ I.fresh⟩
def rAddStr : R2 := fun x y H Q => ∃ i j, x = .str i ∧ y = .str j ∧ i.length + j.length ≤ sizeLine ∧ Q (.str (i ++ j)) H
/-- + of ints, lists, texts, tuples -/
def rAddA (K : PySem.W.Frag) : R2 := fun x y H Q => (rI0 fun i j => .int (i + j)) x y H Q ∨ rCatS K x y H Q ∨ rAddStr x y H Q ∨ rCatT K x y H Q
theorem op_addA : OpR X (binaryOp .Add) (rAddA X.K) := op_or op_add (op_or op_catS (op_or op_add_str op_catT))
/-- * of ints, a list times an int -/
def rMulA : R2 := fun x y H Q => (rI CMulX fun i j => .int (i * j)) x y H Q ∨ rRep x y H Q
theorem op_mulA : OpR X (binaryOp .Mult) rMulA := op_or op_mulX op_rep
abbrev rSubI : R2 := rI0 fun i j => .int (i - j)
abbrev rFdivI : R2 := rI CDivW fun i j => .int (i / j)
abbrev rModI : R2 := rI (fun _ j => 0 < j) fun i j => .int (i % j)
abbrev rPowI : R2 := rI CPow fun i j => .int (i ^ j.toNat)
abbrev rLtI : R2 := rI0 fun i j => .bl (decide (i < j))
abbrev rLeI : R2 := rI0 fun i j => .bl (decide (i ≤ j))
abbrev rGtI : R2 := rI0 fun i j => .bl (decide (j < i))
abbrev rGeI : R2 := rI0 fun i j => .bl (decide (j ≤ i))
abbrev rNegI : V → Hp → VK → Prop := rU fun i => .int (-i)
def rIsNone : R2 := fun x y H Q => y = .non ∧ Q (.bl (decide (x = .non))) H
def rNotNone : R2 := fun x y H Q => y = .non ∧ Q (.bl (!decide (x = .non))) H
theorem op_isNone : OpR X (compareOp .Is) rIsNone := op_isN
theorem op_notNone : OpR X (compareOp .IsNot) rNotNone := op_notN
/-! ### built-ins by their readings -/
def rAbs : List V → Hp → VK → Prop := fun xs H Q => ∃ i, xs = [.int i] ∧ Q (.int (if i < 0 then -i else i)) H
theorem c_abs : CallR X (.builtin "abs") rAbs := call_abs
def rMax2' : List V → Hp → VK → Prop := fun xs H Q => ∃ i j, xs = [.int i, .int j] ∧ Q (.int (if j > i then j else i)) H
theorem c_max2 (hc : X.calm = true) : CallR X (.builtin "max") rMax2' := call_max2 hc
def rMin2' : List V → Hp → VK → Prop := fun xs H Q => ∃ i j, xs = [.int i, .int j] ∧ Q (.int (if j < i then j else i)) H
theorem c_min2 (hc : X.calm = true) : CallR X (.builtin "min") rMin2' := call_min2 hc
def rLen (K : PySem.W.Frag) : List V → Hp → VK → Prop := fun xs H Q => ∃ x n, xs = [x] ∧ LenV K x H n ∧ Q (.int (n : Nat)) H
theorem c_len : CallR X (.builtin "len") (rLen X.K) := call_len
def rListOf (K : PySem.W.Frag) : List V → Hp → VK → Prop := fun xs H Q => ∃ p ys, xs = [.ref p] ∧ (SqL K H p ys ∨ SqT K H p ys) ∧ ∀ l, H l = none → Q (.ref l) (upd H l (.lst ys))
theorem c_list : CallR X (.type "list") (rListOf X.K) := call_list_of
def rDivmod : List V → Hp → VK → Prop := fun xs H Q => ∃ i j, xs = [.int i, .int j] ∧ CDivP i j ∧ ∀ p, H p = none → Q (.ref p) (upd H p (.tup [.int (i / j), .int (i % j)]))
theorem c_divmod : CallR X (.builtin "divmod") rDivmod := call_divmodW
def rStrI : List V → Hp → VK → Prop := fun xs H Q => ∃ i, xs = [.int i] ∧ i.natAbs.log2 < 1920 ∧ Q (.str (toString i)) H
theorem c_str : CallR X (.type "str") rStrI := call_str_int
end
/-! ### what they do to data -/
section
variable {K : PySem.W.Frag} {Q : Rs → Prop} {Δ : List Ent} {te : TE}
theorem rd_addI {i j : Int} (q : Q (.v (.int (i + j)))) : RD K (rAddA K) (.int i) (.int j) Q := fun A H v1 v2 h1 h2 hA Qh k => .inl (rd_I0 (f := fun i j => i + j) q A H v1 v2 h1 h2 hA Qh k)
theorem rd_addL {as bs : List PyData} (hz : as.length + bs.length ≤ 100000) (q : Q (.n (as ++ bs))) : RD K (rAddA K) (.list as) (.list bs) Q := fun A H v1 v2 h1 h2 hA Qh k => .inr (.inl (by
  cases h1 with | lst s1 a1 => cases h2 with | lst s2 a2 =>
    exact ⟨_, _, _, _, rfl, rfl, ex_l wo_ex s1, ex_l wo_ex s2, sz_of (by rw [a1.length, a2.length]; exact hz), fun p hp => k _ _ (.n _) (Ex.new hp) (res_new hp hA (a1.app a2)) q⟩))
theorem rd_addS {x y : Str} (hz : x.length + y.length ≤ 100000) (q : Q (.v (.str (x ++ y)))) : RD K (rAddA K) (.str x) (.str y) Q := fun A H v1 v2 h1 h2 hA Qh k => .inr (.inr (.inl (by
  cases h1; cases h2
  exact ⟨x, y, rfl, rfl, sz_of hz, k _ H (.v _) ex_id (Dp.str _) q⟩)))
theorem rd_mulI {i j : Int} (hc : CMulX i j) (q : Q (.v (.int (i * j)))) : RD K rMulA (.int i) (.int j) Q := fun A H v1 v2 h1 h2 hA Qh k => .inl (rd_I (C := CMulX) (f := fun i j => i * j) hc q A H v1 v2 h1 h2 hA Qh k)
theorem rd_isNone {d : PyData} (q : Q (.v (.bool (match d with | .none => true | _ => false)))) : RD K rIsNone d .none Q := fun A H v1 v2 h1 h2 hA Qh k => by
  cases h2
  refine ⟨rfl, k _ H (.v _) ex_id (Dp.bl _) ?_⟩
  cases h1 <;> exact q
theorem rd_notNone {d : PyData} (q : Q (.v (.bool (match d with | .none => false | _ => true)))) : RD K rNotNone d .none Q := fun A H v1 v2 h1 h2 hA Qh k => by
  cases h2
  refine ⟨rfl, k _ H (.v _) ex_id (Dp.bl _) ?_⟩
  cases h1 <;> exact q
theorem shaped_int (i : Int) : SeqAt.shaped (.int i) = true := by simp [SeqAt.shaped, PyData.canLay0, PyData.depth]
theorem shaped_bool (i : Bool) : SeqAt.shaped (.bool i) = true := by simp [SeqAt.shaped, PyData.canLay0, PyData.depth]
theorem shaped_none : SeqAt.shaped .none = true := by simp [SeqAt.shaped, PyData.canLay0, PyData.depth]
theorem rd_eqDI {i j : Int} (q : Q (.v (.bool (decide (i = j))))) : RD K (rEqD K) (.int i) (.int j) Q := rd_eqD (shaped_int i) (shaped_int j) (by
  rw [show PyData.eqv (.int i) (.int j) = decide (i = j) by simp only [PyData.eqv]; rfl]
  exact q)
theorem rd_neDI {i j : Int} (q : Q (.v (.bool (!decide (i = j))))) : RD K (rNeD K) (.int i) (.int j) Q := rd_neD (shaped_int i) (shaped_int j) (by
  rw [show PyData.eqv (.int i) (.int j) = decide (i = j) by simp only [PyData.eqv]; rfl]
  exact q)
theorem rd_eqDB {i j : Bool} (q : Q (.v (.bool (decide (i = j))))) : RD K (rEqD K) (.bool i) (.bool j) Q := rd_eqD (shaped_bool i) (shaped_bool j) (by
  rw [show PyData.eqv (.bool i) (.bool j) = decide (i = j) by cases i <;> cases j <;> simp [PyData.eqv]]
  exact q)
theorem rd_neDB {i j : Bool} (q : Q (.v (.bool (!decide (i = j))))) : RD K (rNeD K) (.bool i) (.bool j) Q := rd_neD (shaped_bool i) (shaped_bool j) (by
  rw [show PyData.eqv (.bool i) (.bool j) = decide (i = j) by cases i <;> cases j <;> simp [PyData.eqv]]
  exact q)
theorem rd_ixAL {ds : List PyData} {i : Int} {d : PyData} (h : atI ds i = some d) (q : Q (.v d)) : RD K (rIx K) (.list ds) (.int i) Q := fun A H v1 v2 h1 h2 hA Qh k => .inl (rd_ixL h q A H v1 v2 h1 h2 hA Qh k)
theorem rd_ixAT {ds : List PyData} {i : Int} {d : PyData} (h : atI ds i = some d) (q : Q (.v d)) : RD K (rIx K) (.tuple ds) (.int i) Q := fun A H v1 v2 h1 h2 hA Qh k => .inr (.inl (rd_ixT h q A H v1 v2 h1 h2 hA Qh k))
theorem we_ixAO {tb : TE} {i : Nat} {l : Addr} {ds : List PyData} (h : Δ[i]? = some (.own l ds)) (w : WE K tb Δ fun r => ∃ j d, r.d = .int j ∧ atI ds j = some d ∧ Q (.v d)) : WE K (tOp (rIx K) (tVar i) tb) Δ Q := fun A H0 H σ E Qh k => by
  have := we_ixO (K := K) h w A H0 H σ E Qh k
  obtain ⟨v, h1, h2⟩ := this
  obtain ⟨g1, _⟩ := E.ents i _ h
  rw [h1] at g1
  cases g1
  refine ⟨.ref l, h1, w A H0 H σ E _ fun v H1 r e E1 ok ⟨j, d, hj, ha, q⟩ => ?_⟩
  have hd := ok.dp
  rw [hj] at hd
  cases hd
  obtain ⟨_, ys, g2, g3⟩ := E1.ents i _ h
  obtain ⟨x, hx, hxd⟩ := g3.at ha
  exact .inl ⟨l, ys, j, x, rfl, rfl, sq_of g2, hx, k x H1 (.v d) e E1 hxd q⟩
theorem cd_absI {i : Int} (q : Q (.v (.int (if i < 0 then -i else i)))) : CD K rAbs [.int i] Q := cd_abs q
theorem cd_maxI {i j : Int} (q : Q (.v (.int (if j > i then j else i)))) : CD K rMax2' [.int i, .int j] Q := cd_max2 q
theorem cd_minI {i j : Int} (q : Q (.v (.int (if j < i then j else i)))) : CD K rMin2' [.int i, .int j] Q := fun A H vs h _ Qh k => by
  cases h with | cons h1 h2 => cases h1; cases h2 with | cons h3 h4 => cases h3; cases h4; exact ⟨i, j, rfl, k _ H (.v _) ex_id (Dp.int _) q⟩
theorem cd_lenAL {ds : List PyData} (q : Q (.v (.int ds.length))) : CD K (rLen K) [.list ds] Q := fun A H vs h _ Qh k => by
  cases h with | cons h1 h2 =>
    cases h2
    cases h1 with | lst hs ha => exact ⟨_, _, rfl, .inl ⟨_, ex_l wo_ex hs, rfl⟩, k _ H (.v _) ex_id (by rw [ha.length]; exact Dp.int _) q⟩
theorem cd_lenAT {ds : List PyData} (q : Q (.v (.int ds.length))) : CD K (rLen K) [.tuple ds] Q := fun A H vs h _ Qh k => by
  cases h with | cons h1 h2 =>
    cases h2
    cases h1 with | tup hs ha => exact ⟨_, _, rfl, .inr ⟨_, ex_t wo_ex hs, rfl⟩, k _ H (.v _) ex_id (by rw [ha.length]; exact Dp.int _) q⟩
theorem cd_lenAS {x : Str} (hz : x.length ≤ 100000) (q : Q (.v (.int x.length))) : CD K (rLen K) [.str x] Q := fun A H vs h _ Qh k => by
  cases h with | cons h1 h2 =>
    cases h2
    cases h1
    exact ⟨_, _, rfl, ⟨sz_of hz, rfl⟩, k _ H (.v _) ex_id (Dp.int _) q⟩
theorem we_lenAO {i : Nat} {l : Addr} {ds : List PyData} (h : Δ[i]? = some (.own l ds)) (q : Q (.v (.int ds.length))) : WE K (tCB (rLen K) (tCons (tVar i) tNil)) Δ Q := fun A H0 H σ E Qh k => by
  obtain ⟨h1, xs, h2, h3⟩ := E.ents i _ h
  exact ⟨.ref l, h1, .ref l, xs.length, rfl, .inl ⟨xs, sq_of h2, rfl⟩, k _ H (.v (.int ds.length)) Kp.refl E (by rw [h3.length]; exact Dp.int _) q⟩
theorem cd_listAL {ds : List PyData} (q : Q (.n ds)) : CD K (rListOf K) [.list ds] Q := cd_listL q
theorem cd_listAT {ds : List PyData} (q : Q (.n ds)) : CD K (rListOf K) [.tuple ds] Q := fun A H vs h hA Qh k => by
  cases h with | cons h1 h2 =>
    cases h2
    cases h1 with | tup hs ha => exact ⟨_, _, rfl, .inr (ex_t wo_ex hs), fun l hl => k _ _ _ (Ex.new hl) (res_new hl hA ha) q⟩
theorem cd_divmodI {i j : Int} (hc : CDivP i j) (q : Q (.v (.tuple [.int (i / j), .int (i % j)]))) : CD K rDivmod [.int i, .int j] Q := cd_divmod hc q
theorem cd_strI {i : Int} (hc : i.natAbs.log2 < 1920) (q : Q (.v (.str (toString i)))) : CD K rStrI [.int i] Q := fun A H vs h _ Qh k => by
  cases h with | cons h1 h2 => cases h1; cases h2; exact ⟨i, rfl, hc, k _ H (.v _) ex_id (Dp.str _) q⟩
/-! ### isinstance -/
def tyD : PyData → String
  | .none => "NoneType"
  | .bool _ => "bool"
  | .int _ => "int"
  | .str _ => "str"
  | .list _ => "list"
  | .tuple _ => "tuple"
  | .dict _ => "dict"
theorem dp_ty {H : Hp} {v : V} {d : PyData} (h : Dp K H v d) : TyX K H v (.type (tyD d)) := by
  cases h with
  | non => exact .base .non
  | bl b => exact .base (.bl b)
  | int i => exact .base (.int i)
  | str x => exact .base (.str x)
  | lst hs _ =>
    rcases hs with (h | ⟨o, h⟩) | ⟨o, its, n, h1, h2, _⟩
    · exact .base (.lst h)
    · exact .base (.frz h)
    · exact .kList h1 h2
  | tup hs _ =>
    rcases hs with (h | ⟨o, h⟩) | ⟨o, its, n, h1, h2, _⟩
    · exact .base (.tup h)
    · exact .fTuple h
    · exact .kTuple h1 h2
theorem we_isi {n : String} (h : WE K te Δ fun r => ∃ b, kitB (tyD r.d) n = some b ∧ Q (.v (.bool b))) : WE K (tCB (rIsi K) (tCons te (tCons (tC (.ty n)) tNil))) Δ Q := fun A H0 H σ E Qh k =>
  h A H0 H σ E _ fun v H1 r e E1 ok ⟨b, hb, q⟩ => ⟨v, .ty n, _, _, b, rfl, .ty n, (dp_ty (ok.dp.up wo_ex)), kit_ty hb, k _ H1 (.v (.bool b)) e E1 (Dp.bl b) q⟩
/-! ### slices -/
def rSlS' : V → Option Int → Option Int → Hp → VK → Prop := rSlS
def WO (K : PySem.W.Frag) (to : TO) (Δ : List Ent) (Q : Option Int → Prop) : Prop :=
  ∀ (A : List Addr) (H0 H : Hp) (σ : L2.St), Sit K A H0 H σ Δ → ∀ Qh : Option Int → Hp → Prop,
    (∀ o H', Kp Δ H H' → Sit K A H0 H' σ Δ → Q o → Qh o H') → to σ H Qh
theorem wo_none' {Q : Option Int → Prop} (q : Q none) : WO K tNoPart Δ Q := fun A H0 H σ E Qh k => k none H Kp.refl E q
theorem wo_part {Q : Option Int → Prop} (h : WE K te Δ fun r => ∃ i, r.d = .int i ∧ Q (some i)) : WO K (tPart te) Δ Q := fun A H0 H σ E Qh k =>
  h A H0 H σ E _ fun v H1 r e E1 ok ⟨i, hi, q⟩ => by
    have hd := ok.dp
    rw [hi] at hd
    cases hd
    exact ⟨i, rfl, k _ H1 e E1 q⟩
def cutD {α : Type} (xs : List α) (lo hi : Option Int) : List α := (xs.drop (HT.sIx xs.length 0 lo)).take (HT.sIx xs.length xs.length hi - HT.sIx xs.length 0 lo)
theorem we_slL {tl th : TO} (h : WE K te Δ fun r => ∃ ds, r.d = .list ds ∧ WO K tl Δ fun lo => WO K th Δ fun hi => Q (.n (cutD ds lo hi))) : WE K (tSl (rSlL K) te tl th) Δ Q := fun A H0 H σ E Qh k =>
  h A H0 H σ E _ fun v H1 r e1 E1 ok ⟨ds, hd, w1⟩ => w1 A H0 H1 σ E1 _ fun lo H2 e2 E2 w2 => w2 A H0 H2 σ E2 _ fun hi H3 e3 E3 q => by
    have hv := ok.dp
    rw [hd] at hv
    have hv3 := hv.up (e2.trans e3).all
    cases hv3 with
    | @lst a xs _ hs ha =>
      refine ⟨a, xs, rfl, ex_l wo_ex hs, fun p hp => ?_⟩
      have e4 : Ex H3 (upd H3 p (.lst (cutV xs lo hi))) := Ex.new hp
      have hc : DpAll K (wo H3 (A ++ ads Δ)) (cutV xs lo hi) (cutD ds lo hi) := by
        unfold cutV cutD
        rw [ha.length]
        exact (ha.drop _).take _
      exact k _ _ _ (((e1.trans e2).trans e3).trans (Kp.of e4)) (E3.ext e4) (ResOk.back E ((e1.trans e2).trans e3) E3 (res_new hp (fun a m => E3.domAll m) hc)) q
theorem we_revL (h : WE K te Δ fun r => ∃ ds, r.d = .list ds ∧ Q (.n ds.reverse)) : WE K (tRevL K te) Δ Q := fun A H0 H σ E Qh k =>
  h A H0 H σ E _ fun v H1 r e1 E1 ok ⟨ds, hd, q⟩ => by
    have hv := ok.dp
    rw [hd] at hv
    cases hv with
    | @lst a xs _ hs ha =>
      refine ⟨a, xs, rfl, ex_l wo_ex hs, fun p hp => ?_⟩
      have e4 : Ex H1 (upd H1 p (.lst xs.reverse)) := Ex.new hp
      exact k _ _ _ (e1.trans (Kp.of e4)) (E1.ext e4) (ResOk.back E e1 E1 (res_new hp (fun a m => E1.domAll m) ha.rev)) q
end
/-! ### a walk over a list or a tuple -/
def iSeq (K : PySem.W.Frag) (tl : TE) : TI := fun σ H R => tl σ H fun x H1 => ∃ a, x = .ref a ∧ (((∃ xs, SqL K H1 a xs) ∧ R (Itl K a) H1) ∨ ((∃ xs, SqT K H1 a xs) ∧ R (Itt K a) H1))
section
variable {X : Cx} {tg : Expr}
theorem pi_seq {l : Expr} {tl : TE} (hl : PE X l tl) : PI X tg l (iSeq X.K tl) := by
  refine ⟨fun pins s σ H R I h => ?_⟩
  refine thn (hl.run pins s σ H _ I h) fun v s1 ⟨x, H1, I1, r1, q1⟩ => ?_
  obtain ⟨a, e, ⟨⟨xs, hq⟩, q⟩ | ⟨⟨xs, hq⟩, q⟩⟩ := q1
  · subst e
    cases r1
    obtain ⟨its, rv, p, hz⟩ := I1.list hq
    refine wpAny_pyIter_list p.isList ?_
    refine ⟨s1.heap.objs.size, [s1.heap.objs.size], _, _, H1, rfl, I1.kept (t' := s1.toks) fun b o e => Heap.get?_push_of_some _ e, turn_list a _, ⟨_, Heap.get?_push_size _ rfl, rfl, rfl⟩, fun b hb => ?_, q⟩
    have e : b = s1.heap.objs.size := by simpa using hb
    subst e
    exact I1.fpOk (Nat.le_refl _) (I1.hok.fresh (Nat.le_refl _))
  · subst e
    cases r1
    obtain ⟨its, rv, p, hz⟩ := I1.tuple hq
    refine wpAny_pyIter_tuple (show s1.heap.IsTuple a its.toArray from p) ?_
    refine ⟨s1.heap.objs.size, [s1.heap.objs.size], _, _, H1, rfl, I1.kept (t' := s1.toks) fun b o e => Heap.get?_push_of_some _ e, turn_tuple a _, ⟨_, Heap.get?_push_size _ rfl, rfl, rfl⟩, fun b hb => ?_, q⟩
    have e : b = s1.heap.objs.size := by simpa using hb
    subst e
    exact I1.fpOk (Nat.le_refl _) (I1.hok.fresh (Nat.le_refl _))
end
section
variable {K : PySem.W.Frag} {Δ : List Ent} {tl : TE} {Q : List PyData → Prop}
theorem wi_seq (h : WE K tl Δ fun r => ∃ ds, (r.d = .list ds ∨ r.d = .tuple ds) ∧ Q ds) : WI K (iSeq K tl) Δ Q := fun A H0 H σ E R k =>
  h A H0 H σ E _ fun v H1 r e E1 ok ⟨ds, hd, q⟩ => by
    have hv := ok.dp
    rcases hd with hd | hd
    · rw [hd] at hv
      cases hv with
      | @lst a xs _ hs ha =>
        refine ⟨a, rfl, .inl ⟨⟨xs, ex_l wo_ex hs⟩, k _ H1 ds e E1 (fun O H2 hO x i => ⟨fun hi => ?_, fun d hi => ?_⟩) q⟩⟩
        · exact ⟨xs, ex_l wo_ex (ex_l x hs), by rw [ha.length]; exact hi⟩
        · obtain ⟨y, hy, hyd⟩ := ha.get hi
          refine ⟨⟨xs, y, ex_l wo_ex (ex_l x hs), hy⟩, fun z H3 ⟨h1, h2⟩ => ?_⟩
          subst h1
          have := h2 xs (ex_l wo_ex (ex_l x hs))
          rw [hy] at this
          cases this
          exact ⟨ex_id, hyd.up x⟩
    · rw [hd] at hv
      cases hv with
      | @tup a xs _ hs ha =>
        refine ⟨a, rfl, .inr ⟨⟨xs, ex_t wo_ex hs⟩, k _ H1 ds e E1 (fun O H2 hO x i => ⟨fun hi => ?_, fun d hi => ?_⟩) q⟩⟩
        · exact ⟨xs, ex_t wo_ex (ex_t x hs), by rw [ha.length]; exact hi⟩
        · obtain ⟨y, hy, hyd⟩ := ha.get hi
          refine ⟨⟨xs, y, ex_t wo_ex (ex_t x hs), hy⟩, fun z H3 ⟨h1, h2⟩ => ?_⟩
          subst h1
          have := h2 xs (ex_t wo_ex (ex_t x hs))
          rw [hy] at this
          cases this
          exact ⟨ex_id, hyd.up x⟩
end
/-! ### defs of the text, and what they keep -/
/-- the def st stands under its name x -/
def Def (K : PySem.W.Frag) (mg : Str → Option Value) (x : Str) (st : Stmt) : Prop := ∃ f fd, Fun K x x st f fd ∧ mg x = some (.ref f)
/-- what is called x keeps sp -/
def Has (P : Program) (w : World) (K : PySem.W.Frag) (mg : Str → Option Value) (base : Heap) (x : Str) (k : Nat) (ps : List Str) (sp : Sp) : Prop :=
  ∃ f fd, FnOk P w K mg base CX0 k f fd ps sp ∧ mg x = some (.ref f) ∧ PySem.W.keepIn K (.ref f) = true ∧ Binds K fd ps []
theorem has_of {P : Program} {w : World} {K : PySem.W.Frag} {mg : Str → Option Value} {base : Heap} {x : Str} {st : Stmt} {k : Nat} {ps : List Str} {sp : Sp} (D : Def K mg x st)
    (b : ∀ f fd, Fun K x x st f fd → Binds K fd ps []) (h : ∀ f fd, Fun K x x st f fd → FnOk P w K mg base CX0 k f fd ps sp) : Has P w K mg base x k ps sp := by
  obtain ⟨f, fd, F, m⟩ := D
  exact ⟨f, fd, h f fd F, m, F.kp, b f fd F⟩
theorem pe_callH {X : Cx} {k : Nat} {x : Str} {ps : List Str} {sp : Sp} {e : Expr} {es : List Expr} {t : TA} {p pos : Pos} (h : Has X.prog X.w X.K X.mg X.base x k ps sp) (hr : Room k X.A) (hg : Gl X x) (ha : PA X (e :: es) t)
    (hdb : (x == ("__debug__" : Str)) = false := by decide) (he : starEach (e :: es) X.env = (false, eval e X.env) :: starEach es X.env := by rfl) (hpl : (backTo pos (starEach es X.env)).any (·.1) = false := by rfl) :
    PE X (.Call (.Name x p) (e :: es) [] pos) (tCall sp [] E0 t) := by
  obtain ⟨f, fd, G, m, kp, b⟩ := h
  exact pe_call G hr hg m kp b .nil pass0 ha hdb he hpl
theorem pe_callH0 {X : Cx} {k : Nat} {x : Str} {ps : List Str} {sp : Sp} {p pos : Pos} (h : Has X.prog X.w X.K X.mg X.base x k ps sp) (hr : Room k X.A) (hg : Gl X x) (hdb : (x == ("__debug__" : Str)) = false := by decide) :
    PE X (.Call (.Name x p) [] [] pos) (tCall sp [] E0 tNil) := by
  obtain ⟨f, fd, G, m, kp, b⟩ := h
  exact pe_call0 G hr hg m kp b .nil pass0 hdb
theorem room65 {k : Nat} {A : Around} (hr : Room k A) : A.units + 65 < cLine := by have := hr.un; omega
theorem ws_par3 {K : PySem.W.Frag} {Δ : List Ent} {P : Post} {i j l : Nat} {tA : TA} (h : WA K tA Δ fun ds => ∃ d1 d2 d3, ds = [d1, d2, d3] ∧ P.nx (((Δ.set i (.val d1)).set j (.val d2)).set l (.val d3))) : WS K (tPar3 i j l tA) Δ P := fun A H0 H σ D E n _ _ _ =>
  h A H0 H σ E _ fun vs H1 ds e E1 ok ⟨d1, d2, d3, hd, q⟩ => by
    subst hd
    have sub : ∀ {Δ : List Ent} {i : Nat} {d : PyData} (a : Addr), a ∈ A ++ ads (Δ.set i (.val d)) → a ∈ A ++ ads Δ := fun a m => (List.mem_append.mp m).elim (fun z => List.mem_append_left _ z) fun z => List.mem_append_right _ ((ads_set_mem z).elim (fun z => by cases z) id)
    cases ok with | cons g1 g2 => cases g2 with | cons g3 g4 => cases g4 with | cons g5 g6 =>
      cases g6
      exact ⟨_, _, _, rfl, n _ _ _ (((E1.setV g1).setV (g3.up (wo_sub sub))).setV ((g5.up (wo_sub sub)).up (wo_sub sub))) q⟩
theorem we_chain {K : PySem.W.Frag} {Δ : List Ent} {Q : Rs → Prop} {ta tb tc : TE} {r r' : R2} (h : WE K ta Δ fun x => WE K tb Δ fun y => RD K r x.d y.d fun z => ∃ b, z.d = .bool b ∧ if b = true then WE K tc Δ fun w => RD K r' y.d w.d Q else Q (.v (.bool false))) : WE K (tChain r r' ta tb tc) Δ Q := fun A H0 H σ E Qh k =>
  h A H0 H σ E _ fun v1 H1 r1 e1 E1 o1 w1 => w1 A H0 H1 σ E1 _ fun v2 H2 r2 e2 E2 o2 w2 =>
    w2 (A ++ ads Δ) H2 v1 v2 (o1.dp.up e2.all) o2.dp (fun a m => E2.domAll m) _ fun v3 H3 r3 e3 o3 ⟨b, hb, q⟩ => by
      have hd := o3.dp
      rw [hb] at hd
      cases hd
      have E3 := E2.ext e3
      have k3 : Kp Δ H H3 := (e1.trans e2).trans (Kp.of e3)
      refine ⟨b, rfl, ?_⟩
      cases b with
      | false => exact k _ H3 (.v (.bool false)) k3 E3 (Dp.bl false) q
      | true =>
        show tc σ H3 _
        exact q A H0 H3 σ E3 _ fun v4 H4 r4 e4 E4 o4 w4 => w4 (A ++ ads Δ) H4 v2 v4 (o2.dp.up ((Kp.of e3).trans e4).all) o4.dp (fun a m => E4.domAll m) Qh fun v H5 rr e5 o5 q5 =>
          k v H5 rr ((k3.trans e4).trans (Kp.of e5)) (E4.ext e5) (ResOk.back E (k3.trans e4) E4 o5) q5
end DL

set_option Elab.async false
set_option linter.all false
set_option maxRecDepth 100000
/-! DLX: small things for the laws' texts. -/
namespace DL
open PySem PySem.Spec PyProof.Rows L2 Evl
/-- the promise of a law: a script of at most 63 ints, True comes out -/
def phi_law (ds : List PyData) (R : Rs → Prop) : Prop := ∃ ns : List Int, ds = [.list (ns.map PyData.int)] ∧ ns.length ≤ 63 ∧ R (.v (.bool true))
theorem len_law : ∀ ds R, phi_law ds R → ds.length = 1 := fun ds R ⟨ns, h, _⟩ => by rw [h]; rfl
abbrev spLaw (K : PySem.W.Frag) : Sp := SpF K phi_law
theorem law_start {K : PySem.W.Frag} (H : Hp) (a : Addr) (ns : List Int) (hl : ns.length ≤ 63) (hS : SqL K H a (ns.map V.int)) : spLaw K [.ref a] H (fun v _ => v = .bl true) fun _ _ _ => False :=
  ⟨[], _, fun r => r = .v (.bool true), .cons (.lst (by rw [wo_nil]; exact hS) (by rw [wo_nil]; exact DpAll.ints ns)) .nil, (fun a m => by cases m), ⟨ns, rfl, hl, rfl⟩, fun v H' r _ ok hr => by
    subst hr
    cases (show Dp K (wo H' []) v (.bool true) from ok)
    rfl⟩
/-- if by a known or an open truth -/
theorem if_b {b : Bool} {A B : Prop} (h1 : b = true → A) (h2 : b = false → B) : if b = true then A else B := by
  cases b with
  | true => exact h1 rfl
  | false => rw [if_neg Bool.false_ne_true]; exact h2 rfl
theorem if_d {c A B : Prop} [Decidable c] (h1 : c → A) (h2 : ¬ c → B) : if decide c = true then A else B := by
  by_cases h : c
  · rw [decide_eq_true h, if_pos rfl]; exact h1 h
  · rw [decide_eq_false h, if_neg Bool.false_ne_true]; exact h2 h
theorem if_nd {c A B : Prop} [Decidable c] (h1 : ¬ c → A) (h2 : c → B) : if (!decide c) = true then A else B := by
  by_cases h : c
  · rw [decide_eq_true h]; exact h2 h
  · rw [decide_eq_false h]; exact h1 h
theorem if_t {A B : Prop} (h : A) : if true = true then A else B := by rw [if_pos rfl]; exact h
theorem if_f {A B : Prop} (h : B) : if false = true then A else B := by rw [if_neg Bool.false_ne_true]; exact h
theorem if_nt {A B : Prop} (h : A) : if (!false) = true then A else B := if_t h
theorem if_nf {A B : Prop} (h : B) : if (!true) = true then A else B := if_f h
theorem cutD_map {α β : Type} (f : α → β) (xs : List α) (lo hi : Option Int) : cutD (xs.map f) lo hi = (cutD xs lo hi).map f := by
  unfold cutD
  rw [List.length_map, List.map_take, List.map_drop]
theorem cutD_len {α : Type} (xs : List α) (lo hi : Option Int) : (cutD xs lo hi).length ≤ xs.length := by
  unfold cutD
  rw [List.length_take, List.length_drop]
  omega
/-- (script + [0])[:k] -/
theorem we_cells {K : PySem.W.Frag} {Δ : List Ent} {Q : Rs → Prop} {ns : List Int} {k : Int} (h : Δ[0]? = some (.val (.list (ns.map PyData.int)))) (hn : ns.length ≤ 63) (q : ∀ cs : List Int, cs.length ≤ 64 → Q (.n (cs.map PyData.int))) :
    WE K (tSl (rSlL K) (tOp (rAddA K) (tVar 0) (tLst (tCons (tC (.int 0)) tNil))) tNoPart (tPart (tC (.int k)))) Δ Q := by
  refine we_slL (we_op (we_var h (we_lst (wa_cons (we_int (wa_nil ⟨by show 1 ≤ 100000; decide, rd_addL (by rw [List.length_map]; show ns.length + 1 ≤ 100000; omega) ⟨_, rfl, wo_none' (wo_part (we_int ⟨k, rfl, ?_⟩))⟩⟩))))))
  have e : ns.map PyData.int ++ [PyData.int 0] = (ns ++ [0]).map PyData.int := by rw [List.map_append]; rfl
  show Q (.n (cutD (ns.map PyData.int ++ [PyData.int 0]) none (some k)))
  rw [e, cutD_map]
  refine q _ (Nat.le_trans (cutD_len _ _ _) ?_)
  rw [List.length_append]
  show ns.length + 1 ≤ 64
  omega
theorem stop_lst {K : PySem.W.Frag} {Δ : List Ent} {P : Post} {ta : TA} {g : TG} (h : WS K (tAsg (tLst ta) g) Δ P) : WS K (tAsg (tLst ta) g) Δ P := h
/-! ### pots -/
section
variable {K : PySem.W.Frag} {Δ : List Ent} {te : TE} {P : Post} {Q : Rs → Prop} {N : List Ent → Prop}
theorem pot_pt {p : Addr} : ∀ {Δ : List Ent} {i : Nat}, Δ[i]? = some (.pot p) → p ∈ pts Δ
  | [], i, h => by simp at h
  | x :: r, 0, h => by
    simp at h; subst h
    exact List.mem_append_left _ (by simp [Ent.pt])
  | x :: r, i + 1, h => List.mem_append_right _ (pot_pt (i := i) (by simpa using h))
theorem Sit.setP {A : List Addr} {H0 H : Hp} {σ : L2.St} (E : Sit K A H0 H σ Δ) {i : Nat} {p : Addr} {x y : Int} (h : Δ[i]? = some (.pot p)) (b1 : 0 ≤ x) (b2 : 0 ≤ y) (b3 : y < 2147483648) :
    Sit K A H0 (upd H p (.lst [.int x, .int y])) σ Δ ∧ Ex (wo H (A ++ ads Δ)) (wo (upd H p (.lst [.int x, .int y])) (A ++ ads Δ)) := by
  have k : Kp Δ H (upd H p (.lst [.int x, .int y])) := fun a o z => by
    obtain ⟨m, q⟩ := wo_some z
    refine wo_mk m ?_
    rw [upd_ne (fun e => m (by rw [e]; exact pot_pt h))]
    exact q
  refine ⟨E.again k fun l ⟨x1, y1, e, q⟩ => ?_, k.all⟩
  by_cases hl : l = p
  · subst hl
    exact ⟨x, y, upd_same, b1, b2, b3⟩
  · exact ⟨x1, y1, by rw [upd_ne hl]; exact e, q⟩
theorem we_pot0 {i : Nat} {p : Addr} (h : Δ[i]? = some (.pot p)) (q : ∀ x : Int, 0 ≤ x → Q (.v (.int x))) : WE K (tOp (rIx K) (tVar i) (tC (.int 0))) Δ Q := fun A H0 H σ E Qh k => by
  obtain ⟨h1, x, y, e, b1, b2, b3⟩ := E.ents i _ h
  exact ⟨.ref p, h1, .inl ⟨p, _, 0, .int x, rfl, rfl, sq_of e, rfl, k _ H (.v (.int x)) Kp.refl E (Dp.int x) (q x b1)⟩⟩
theorem we_pot1 {i : Nat} {p : Addr} (h : Δ[i]? = some (.pot p)) (q : ∀ y : Int, 0 ≤ y → y < 2147483648 → Q (.v (.int y))) : WE K (tOp (rIx K) (tVar i) (tC (.int 1))) Δ Q := fun A H0 H σ E Qh k => by
  obtain ⟨h1, x, y, e, b1, b2, b3⟩ := E.ents i _ h
  exact ⟨.ref p, h1, .inl ⟨p, _, 1, .int y, rfl, rfl, sq_of e, rfl, k _ H (.v (.int y)) Kp.refl E (Dp.int y) (q y b2 b3)⟩⟩
theorem wg_pot0 {i : Nat} {p : Addr} {z : Int} (h : Δ[i]? = some (.pot p)) (hz : 0 ≤ z) (q : N Δ) : WG K (gSub (tVar i) (tC (.int 0)) rSetL) (.int z) Δ N := fun A H0 H σ v E hd Qh k => by
  cases hd
  obtain ⟨h1, x, y, e, b1, b2, b3⟩ := E.ents i _ h
  obtain ⟨E2, x2⟩ := E.setP h hz b2 b3
  exact ⟨.ref p, h1, p, _, 0, 0, rfl, rfl, e, rfl, k _ _ _ E2 x2 q⟩
theorem wg_pot1 {i : Nat} {p : Addr} {z : Int} (h : Δ[i]? = some (.pot p)) (hz : 0 ≤ z) (hz2 : z < 2147483648) (q : N Δ) : WG K (gSub (tVar i) (tC (.int 1)) rSetL) (.int z) Δ N := fun A H0 H σ v E hd Qh k => by
  cases hd
  obtain ⟨h1, x, y, e, b1, b2, b3⟩ := E.ents i _ h
  obtain ⟨E2, x2⟩ := E.setP h b1 hz hz2
  exact ⟨.ref p, h1, p, _, 1, 1, rfl, rfl, e, rfl, k _ _ _ E2 x2 q⟩
end
end DL

set_option Elab.async false
set_option linter.all false
set_option maxRecDepth 100000
/-! FRX: fractions as data. -/
namespace DL
open PySem PySem.Spec PyProof.Rows L2 Evl
abbrev Fr := Int × Int
abbrev frD (x : Fr) : PyData := .tuple [.int x.1, .int x.2]
/-- in lowest terms, the bottom above 0, both below 2 ^ b -/
def Fq (b : Nat) (x : Fr) : Prop := 0 < x.2 ∧ Int.gcd x.1 x.2 = 1 ∧ x.1.natAbs < 2 ^ b ∧ x.2.natAbs < 2 ^ b
theorem Fq.mono {b c : Nat} {x : Fr} (h : Fq b x) (hbc : b ≤ c) : Fq c x := ⟨h.1, h.2.1, Nat.lt_of_lt_of_le h.2.2.1 (Nat.pow_le_pow_right (by decide) hbc), Nat.lt_of_lt_of_le h.2.2.2 (Nat.pow_le_pow_right (by decide) hbc)⟩
def ltF (x y : Fr) : Prop := x.1 * y.2 < y.1 * x.2
instance (x y : Fr) : Decidable (ltF x y) := by unfold ltF; exact inferInstance
theorem lt_trans_le {x y z : Fr} (hx : 0 < x.2) (hy : 0 < y.2) (hz : 0 < z.2) (h1 : ¬ ltF y x) (h2 : ¬ ltF z y) : ¬ ltF z x := by
  unfold ltF at *
  have a : x.1 * y.2 ≤ y.1 * x.2 := by omega
  have b : y.1 * z.2 ≤ z.1 * y.2 := by omega
  have a2 : x.1 * y.2 * z.2 ≤ y.1 * x.2 * z.2 := Int.mul_le_mul_of_nonneg_right a (by omega)
  have b2 : y.1 * z.2 * x.2 ≤ z.1 * y.2 * x.2 := Int.mul_le_mul_of_nonneg_right b (by omega)
  have e1 : y.1 * x.2 * z.2 = y.1 * z.2 * x.2 := by rw [Int.mul_assoc, Int.mul_comm x.2 z.2, ← Int.mul_assoc]
  have c : x.1 * z.2 * y.2 ≤ z.1 * x.2 * y.2 := by
    have e2 : x.1 * z.2 * y.2 = x.1 * y.2 * z.2 := by rw [Int.mul_assoc, Int.mul_comm z.2 y.2, ← Int.mul_assoc]
    have e3 : z.1 * x.2 * y.2 = z.1 * y.2 * x.2 := by rw [Int.mul_assoc, Int.mul_comm x.2 y.2, ← Int.mul_assoc]
    omega
  have d := Int.le_of_mul_le_mul_right c hy
  omega
theorem not_lt_self (x : Fr) : ¬ ltF x x := by unfold ltF; omega
theorem shaped_fr (x : Fr) : SeqAt.shaped (frD x) = true := by simp [SeqAt.shaped, frD, PyData.canLay0, PyData.canLayAll0, PyData.depth, PyData.depthAll]
theorem lay_frs : ∀ l : List Fr, PyData.canLayAll0 (l.map frD) = true
  | [] => by simp [PyData.canLayAll0]
  | x :: l => by
    have h := lay_frs l
    simp only [List.map_cons, PyData.canLayAll0, h, frD, PyData.canLay0, Bool.and_true]
theorem depth_frs : ∀ l : List Fr, PyData.depthAll (l.map frD) ≤ 1
  | [] => by simp [PyData.depthAll]
  | x :: l => by
    have h := depth_frs l
    simp only [List.map_cons, PyData.depthAll, frD, PyData.depth]
    omega
theorem shaped_frs (l : List Fr) : SeqAt.shaped (.list (l.map frD)) = true := by
  have h := depth_frs l
  have h2 : PyData.depth (.list (l.map frD)) ≤ 64 := by
    simp only [PyData.depth]
    omega
  show (PyData.canLay0 (.list (l.map frD)) && decide (PyData.depth (.list (l.map frD)) ≤ 64)) = true
  rw [Bool.and_eq_true]
  exact ⟨by simp only [PyData.canLay0]; exact lay_frs l, decide_eq_true h2⟩
theorem eqv_fr (x y : Fr) : PyData.eqv (frD x) (frD y) = decide (x = y) := by
  obtain ⟨a, b⟩ := x
  obtain ⟨c, d⟩ := y
  have e : PyData.eqv (frD (a, b)) (frD (c, d)) = ((a == c) && ((b == d) && true)) := by simp only [frD, PyData.eqv, PyData.eqvAll]
  rw [e]
  by_cases h1 : a = c
  · by_cases h2 : b = d
    · subst h1 h2; simp
    · simp [h1, h2]
  · simp [h1]
theorem eqv_frs : ∀ l l' : List Fr, PyData.eqvAll (l.map frD) (l'.map frD) = decide (l = l')
  | [], [] => by simp [PyData.eqvAll]
  | [], _ :: _ => by simp [PyData.eqvAll]
  | _ :: _, [] => by simp [PyData.eqvAll]
  | x :: l, y :: l' => by
    simp only [List.map_cons, PyData.eqvAll]
    rw [eqv_fr, eqv_frs l l']
    by_cases h1 : x = y
    · by_cases h2 : l = l'
      · subst h1 h2; simp
      · simp [h1, h2]
    · simp [h1]
theorem eqv_listfr (l l' : List Fr) : PyData.eqv (.list (l.map frD)) (.list (l'.map frD)) = decide (l = l') := by
  simp only [PyData.eqv]
  exact eqv_frs l l'
theorem any_fr (l : List Fr) (x : Fr) : ((l.map frD).any fun z => PyData.eqv z (frD x)) = decide (x ∈ l) := by
  induction l with
  | nil => simp
  | cons y l ih =>
    rw [List.map_cons, List.any_cons, ih, eqv_fr]
    by_cases h1 : y = x
    · subst h1; simp
    · by_cases h2 : x ∈ l
      · simp [h2]
      · have h3 : ¬ x = y := fun e => h1 e.symm
        simp [h1, h2, h3]
theorem rd_eqF {K : PySem.W.Frag} {Q : Rs → Prop} {a b c d : Int} (q : Q (.v (.bool (decide ((a, b) = (c, d)))))) : RD K (rEqD K) (.tuple [.int a, .int b]) (.tuple [.int c, .int d]) Q := rd_eqD (shaped_fr (a, b)) (shaped_fr (c, d)) (by rw [eqv_fr (a, b) (c, d)]; exact q)
theorem rd_neF {K : PySem.W.Frag} {Q : Rs → Prop} {a b c d : Int} (q : Q (.v (.bool (!decide ((a, b) = (c, d)))))) : RD K (rNeD K) (.tuple [.int a, .int b]) (.tuple [.int c, .int d]) Q := rd_neD (shaped_fr (a, b)) (shaped_fr (c, d)) (by rw [eqv_fr (a, b) (c, d)]; exact q)
theorem get_map {α : Type} {f : α → PyData} {l : List α} {i : Nat} {d : PyData} (h : (l.map f)[i]? = some d) : ∃ x, l[i]? = some x ∧ d = f x := by
  rw [List.getElem?_map] at h
  cases e : l[i]? with
  | none => rw [e] at h; cases h
  | some x => rw [e] at h; exact ⟨x, rfl, (Option.some.inj h).symm⟩
theorem at_map {α : Type} {f : α → PyData} {l : List α} {j : Int} {n : Nat} (h0 : 0 ≤ j) (h1 : j < (n : Int)) (hn : l.length = n) : ∃ x, x ∈ l ∧ atI (l.map f) j = some (f x) := by
  obtain ⟨k, rfl⟩ := Int.eq_ofNat_of_zero_le h0
  have hk : k < l.length := by omega
  refine ⟨l[k], List.getElem_mem hk, atI_nat ?_⟩
  rw [List.getElem?_map, List.getElem?_eq_getElem hk]
  rfl
end DL

set_option Elab.async false
set_option linter.all false
set_option maxRecDepth 100000
set_option maxHeartbeats 2000000
namespace My
open PySem PySem.Spec PyProof.Rows L2 Evl DL
def topS (i : Nat) : Stmt := PySem.Challenge.pw_risingmeans_k13_least_and_greatest.main.body.getD i (.Pass ⟨0, 0, 0, 0⟩)
local macro_rules | `(tactic| walk_at "dl1") => `(tactic| first
  | (with_reducible refine ws_seq ?_)
  | (with_reducible refine ws_if ?_)
  | ((fail_if_success with_reducible refine stop_lst ?_); with_reducible refine ws_asg ?_)
  | ((fail_if_success with_reducible refine stop_lst ?_); with_reducible refine ws_asgG ?_)
  | ((with_reducible refine' ws_ret ?_ ?hp); (case hp => first | exact pots_nil | exact pots_one 0 rfl))
  | (with_reducible refine ws_par ?_)
  | (with_reducible refine ws_par3 ?_)
  | (with_reducible refine ws_next ?_)
  | (with_reducible refine ws_drop ?_)
  | (with_reducible refine wt_test ?_)
  | (with_reducible refine wt_B ?_)
  | (with_reducible refine wt_and ?_)
  | (with_reducible refine wt_or ?_)
  | (with_reducible refine wt_not ?_)
  | (with_reducible refine wt_yes ?_)
  | ((with_reducible refine' we_pot0 ?hv ?_); (case hv => exact rfl))
  | ((with_reducible refine' we_pot1 ?hv ?_); (case hv => exact rfl))
  | ((with_reducible refine' we_ixAO ?hv ?_); (case hv => exact rfl))
  | ((with_reducible refine' we_lenAO ?hv ?_); (case hv => exact rfl))
  | ((with_reducible refine' we_var ?hv ?_); (case hv => exact rfl))
  | (with_reducible refine we_op ?_)
  | (with_reducible refine we_int ?_)
  | (with_reducible refine we_bl ?_)
  | (with_reducible refine we_str ?_)
  | (with_reducible refine we_non ?_)
  | (with_reducible refine we_un ?_)
  | (with_reducible refine we_isi ?_)
  | (with_reducible refine we_cb ?_)
  | (with_reducible refine we_tup ?_)
  | (with_reducible refine we_lst ?_)
  | (with_reducible refine we_andV ?_)
  | (with_reducible refine we_orV ?_)
  | (with_reducible refine we_notV ?_)
  | (with_reducible refine we_if ?_)
  | (with_reducible refine we_slL ?_)
  | (with_reducible refine we_revL ?_)
  | (with_reducible refine we_chain ?_)
  | (with_reducible refine wo_none' ?_)
  | (with_reducible refine wo_part ?_)
  | (with_reducible refine wa_nil ?_)
  | (with_reducible refine wa_cons ?_)
  | (with_reducible refine we_call ?_)
  | ((with_reducible refine' we_callD ?hv ?_); (case hv => exact rfl))
  | (with_reducible refine we_callDt ?_)
  | (with_reducible refine ws_for ?_)
  | (with_reducible refine wi_rng1 ?_)
  | (with_reducible refine wi_rng2 ?_)
  | (with_reducible refine wi_seq ?_)
  | (with_reducible refine wi_zip ?_)
  | (with_reducible refine wg_name ?_)
  | ((with_reducible refine' wg_tup ?hv ?_); (case hv => exact rfl))
  | (with_reducible refine wgs_cons ?_)
  | (with_reducible refine wgs_nil ?_)
  | ((with_reducible refine' wb_name ?h1 ?h2 ?h3 ?_); (case h1 => decide); (case h2 => exact rfl); (case h3 => exact rfl))
  | ((with_reducible refine' wb_tup ?hv ?_); (case hv => exact rfl))
  | (with_reducible refine wbs_cons ?_)
  | (with_reducible refine wbs_nil ?_)
  | (with_reducible refine rd_addI ?_)
  | (with_reducible refine rd_I0 ?_)
  | (with_reducible refine rd_IB ?_)
  | (with_reducible refine rd_eqDI ?_)
  | (with_reducible refine rd_neDI ?_)
  | (with_reducible refine rd_eqDB ?_)
  | (with_reducible refine rd_neDB ?_)
  | (with_reducible refine rd_eqF ?_)
  | (with_reducible refine rd_neF ?_)
  | (with_reducible refine rd_isNone ?_)
  | (with_reducible refine rd_notNone ?_)
  | ((with_reducible refine' rd_ixAT ?hv ?_); (case hv => exact rfl))
  | ((with_reducible refine' rd_ixAL ?hv ?_); (case hv => exact rfl))
  | (with_reducible refine ru_U ?_)
  | (with_reducible refine rd_mulI ?_ ?_)
  | (with_reducible refine rd_I ?_ ?_)
  | (with_reducible refine cd_absI ?_)
  | (with_reducible refine cd_maxI ?_)
  | (with_reducible refine cd_minI ?_)
  | (with_reducible refine cd_lenAL ?_)
  | (with_reducible refine cd_lenAT ?_)
  | (with_reducible refine cd_listAL ?_)
  | (with_reducible refine cd_listAT ?_)
  | (with_reducible refine if_t ?_)
  | (with_reducible refine if_f ?_)
  | (with_reducible refine if_nt ?_)
  | (with_reducible refine if_nf ?_)
  | (refine ⟨_, Or.inl rfl, ?_⟩)
  | (refine ⟨_, Or.inr rfl, ?_⟩)
  | (refine ⟨_, rfl, ?_⟩)
  | (refine ⟨_, _, rfl, ?_⟩)
  | (refine ⟨_, _, _, rfl, ?_⟩)
  | fail)
local macro_rules | `(tactic| walk_at "dl") => `(tactic| repeat' walk_at "dl1")
/-! ## _law_draw -/
/-- some number from 0 on, below m -/
def phi_law_draw (ds : List PyData) (R : Rs → Prop) : Prop := ∃ m : Int, ds = [.int m] ∧ 0 < m ∧ m.natAbs < 2 ^ 9000 ∧ ∀ z : Int, 0 ≤ z → z < m → R (.v (.int z))
theorem len_law_draw : ∀ ds R, phi_law_draw ds R → ds.length + 1 = 2 := fun ds R ⟨m, h, _⟩ => by rw [h]; rfl
abbrev s_law_draw : Stmt := topS 7
abbrev n_law_draw : List Str := ["_law_pot_here", "_law_many", "_law_digit"]
theorem sc_law_draw : FnScope n_law_draw ["_law_pot_here", "_law_many"] (defScope s_law_draw) := ⟨rfl, rfl, rfl, by decide +kernel, rfl, by decide +kernel, by decide +kernel⟩
def t_law_draw (K : PySem.W.Frag) : TS := (tSeq (tIfS (tTest (tOp rGtI (tOp (rIx K) (tVar 0) (tC (.int 0))) (tC (.int 0)))) (tSeq (tAsg (tCB rDivmod (tCons (tOp (rIx K) (tVar 0) (tC (.int 0))) (tCons (tVar 1) tNil))) (gTup K 2 (gCons (gSub (tVar 0) (tC (.int 0)) rSetL) (gCons (gName 2) gNil))))
  (tRet (tVar 2))) tNext)
  (tSeq (tAsg (tOp rModI (tOp (rAddA K) (tOp rMulA (tOp (rIx K) (tVar 0) (tC (.int 1))) (tC (.int 48271))) (tC (.int 11))) (tC (.int 2147483647))) (gSub (tVar 0) (tC (.int 1)) rSetL))
  (tRet (tOp rModI (tOp rFdivI (tOp rModI (tOp rMulA (tOp (rIx K) (tVar 0) (tC (.int 1))) (tOp (rIx K) (tVar 0) (tC (.int 1)))) (tC (.int 2147483629))) (tC (.int 5))) (tVar 1)))))
theorem ws_law_draw {K : PySem.W.Frag} (p : Addr) (ds : List PyData) (R : Rs → Prop) : phi_law_draw ds R → WS K (t_law_draw K) (.pot p :: (ds.map Ent.val ++ List.replicate (n_law_draw.length - (ds.length + 1)) .unk)) { nx := fun _ => False, rt := R, ps := [p] } := by
  rintro ⟨m, rfl, h0, h1, h⟩
  show WS K (t_law_draw K) [.pot p, .val (.int m), .unk] _
  unfold t_law_draw
  refine ws_seq (ws_if (wt_test (we_op (we_pot0 rfl fun x hx => we_int (rd_IB ⟨_, rfl, if_d (fun c => ?_) (fun c => ?_)⟩)))))
  · refine ws_seq (ws_asgG (we_cb (wa_cons (we_pot0 rfl fun y hy => wa_cons (we_var rfl (wa_nil (cd_divmodI ⟨h0, PyProof.noPylong_of_log2 (PySem.Flt.log2_lt_of (by decide) h1)⟩ ?_)))))))
    refine wg_tup rfl (wgs_cons (wg_pot0 rfl (Int.ediv_nonneg hy (Int.le_of_lt h0)) (wgs_cons (wg_name (wgs_nil ?_)))))
    exact ws_ret (we_var rfl (h _ (Int.emod_nonneg _ (by omega)) (Int.emod_lt_of_pos _ h0))) (pots_one 0 rfl)
  · refine ws_next (ws_seq (ws_asgG (we_op (we_op (we_op (we_pot1 rfl fun y h2 h3 => we_int (rd_mulI (mulx_ok (a := 31) (b := 16) ?_ ?_ ?_) (we_int (rd_addI (we_int (rd_I (by decide) ?_)))))))))))
    · show y.natAbs < 2147483648
      omega
    · decide
    · decide
    · refine wg_pot1 rfl (Int.emod_nonneg _ (by decide)) (Int.lt_trans (Int.emod_lt_of_pos _ (by decide)) (by decide)) ?_
      refine ws_ret (we_op (we_op (we_op (we_op (we_pot1 rfl fun y h2 h3 => we_pot1 rfl fun y' h4 h5 => rd_mulI (mulx_ok (a := 31) (b := 31) ?_ ?_ ?_) (we_int (rd_I (by decide) (we_int (rd_I ⟨by decide, by decide +kernel⟩ (we_var rfl (rd_I h0 (h _ (Int.emod_nonneg _ (by omega)) (Int.emod_lt_of_pos _ h0))))))))))))) (pots_one 0 rfl)
      · show y.natAbs < 2147483648
        omega
      · show y'.natAbs < 2147483648
        omega
      · decide
theorem ok_law_draw {P : Program} {w : World} {K : PySem.W.Frag} {mg : Str → Option Value} {base : Heap} (D : Def K mg "_law_draw" s_law_draw) (m_divmod : mg "divmod" = none) : Has P w K mg base "_law_draw" 1 ["_law_pot_here", "_law_many"] (SpD K phi_law_draw) :=
  has_of D (fun _ _ F => F.binds (ps := ["_law_pot_here", "_law_many"]) fun _ _ _ _ _ _ us hl => match us, hl with | [_, _], _ => rfl) fun _ _ F => okD (x0 := "") (N := n_law_draw) (t := t_law_draw K) F sc_law_draw (by decide) len_law_draw (fun cdv A outer s H E hr =>
  (pss_cons (ps_if (pt_cmpR op_gt (pe_ix ix_seq (pv 0) pe_int (fun _ _ => rfl)) pe_int (nomark _)) (pss_cons (ps_asg (pe_callB c_divmod (by rfl) m_divmod (by decide +kernel) (pa_cons (pe_ix ix_seq (pv 0) pe_int (fun _ _ => rfl)) (pa_cons (pv 1) pa_nil))) (pg_tup rfl (pgs_cons (pg_sub (pv 0) pe_int set_list) (pgs_cons (pg_name (i := 2) sc_law_draw.nd rfl (by first | exact Or.inl rfl | exact Or.inr rfl)) pgs_nil))))
  (pss_one (ps_ret (pv 2)))) pss_nil)
  (pss_cons (ps_asg (pe_op op_mod (pe_op op_addA (pe_op op_mulA (pe_ix ix_seq (pv 0) pe_int (fun _ _ => rfl)) pe_int) pe_int) pe_int) (pg_sub (pv 0) pe_int set_list))
  (pss_one (ps_ret (pe_op op_mod (pe_op op_fdivW (pe_op op_mod (pe_op op_mulA (pe_ix ix_seq (pv 0) pe_int (fun _ _ => rfl)) (pe_ix ix_seq (pv 0) pe_int (fun _ _ => rfl))) pe_int) pe_int) (pv 1))))))) ws_law_draw
/-! ## _law_great -/
def phi_law_great (ds : List PyData) (R : Rs → Prop) : Prop := ∃ m : Int, ds = [.int m] ∧ 0 < m ∧ m.natAbs < 2 ^ 9000 ∧ ∀ z : Int, 0 ≤ z → z < m → R (.v (.int z))
theorem len_law_great : ∀ ds R, phi_law_great ds R → ds.length + 1 = 2 := fun ds R ⟨m, h, _⟩ => by rw [h]; rfl
theorem great_step {f z : Int} {n : Nat} (h0 : 0 ≤ f) (h : f.natAbs < 2 ^ n) (z0 : 0 ≤ z) (z1 : z < 400000000) : (f * 1000000007 + z).natAbs < 2 ^ (n + 40) := by
  have e : (2 : Nat) ^ (n + 40) = 2 ^ n * 1099511627776 := by rw [Nat.pow_add]
  rw [e]
  generalize (2 : Nat) ^ n = P at h
  omega
abbrev s_law_great : Stmt := topS 8
abbrev n_law_great : List Str := ["_law_pot_here", "_law_many", "_law_found", "_law_k"]
theorem sc_law_great : FnScope n_law_great ["_law_pot_here", "_law_many"] (defScope s_law_great) := ⟨rfl, rfl, rfl, by decide +kernel, rfl, by decide +kernel, by decide +kernel⟩
def t_law_great (K : PySem.W.Frag) : TS := (tSeq (tIfS (tTest (tOp rGtI (tOp (rIx K) (tVar 0) (tC (.int 0))) (tC (.int 0)))) (tRet (tCall (SpD K phi_law_draw) [] E0 (tCons (tVar 0) (tCons (tVar 1) tNil)))) tNext)
  (tSeq (tAsg (tC (.int 0)) (gName 2))
  (tSeq (tFor (iRng1 (tCons (tC (.int 7)) tNil)) (gName 3) (tAsg (tOp (rAddA K) (tOp rMulA (tVar 2) (tC (.int 1000000007))) (tCall (SpD K phi_law_draw) [] E0 (tCons (tVar 0) (tCons (tC (.int 400000000)) tNil)))) (gName 2)))
  (tRet (tOp rModI (tVar 2) (tVar 1))))))
theorem ws_law_great {K : PySem.W.Frag} (p : Addr) (ds : List PyData) (R : Rs → Prop) : phi_law_great ds R → WS K (t_law_great K) (.pot p :: (ds.map Ent.val ++ List.replicate (n_law_great.length - (ds.length + 1)) .unk)) { nx := fun _ => False, rt := R, ps := [p] } := by
  rintro ⟨m, rfl, h0, h1, h⟩
  show WS K (t_law_great K) [.pot p, .val (.int m), .unk, .unk] _
  unfold t_law_great
  refine ws_seq (ws_if (wt_test (we_op (we_pot0 rfl fun x hx => we_int (rd_IB ⟨_, rfl, if_d (fun c => ?_) (fun c => ?_)⟩)))))
  · exact ws_ret (we_callD rfl (wa_cons (we_var rfl (wa_nil ⟨m, rfl, h0, h1, h⟩)))) (pots_one 0 rfl)
  · refine ws_next (ws_seq (ws_asg (we_int (ws_seq (ws_for (wi_rng1 (wa_cons (we_int (wa_nil ⟨7, rfl, by decide, by decide,
      fun i Δ => ∃ f e, Δ = [.pot p, .val (.int m), .val (.int f), e] ∧ 0 ≤ f ∧ f.natAbs < 2 ^ (40 * i + 40), ?_, ?_, ?_⟩)))))))))
    · exact ⟨0, .unk, rfl, by decide, by decide⟩
    · rintro i d Δ' hd ⟨f, e, rfl, hf0, hf1⟩
      obtain ⟨hi, rfl⟩ := rng_get hd
      refine wg_name ?_
      have hi7 : i < 7 := hi
      refine ws_asg (we_op (we_op (we_var rfl (we_int (rd_mulI (mulx_ok (a := 40 * i + 40) (b := 30) hf1 (by decide) (by omega)) (we_callD rfl (wa_cons (we_int (wa_nil ⟨400000000, rfl, by decide, by decide +kernel, fun z hz1 hz2 => rd_addI ?_⟩)))))))))
      exact ⟨_, _, rfl, by omega, by
        have := great_step hf0 hf1 hz1 hz2
        rw [show 40 * (i + 1) + 40 = 40 * i + 40 + 40 by omega]
        exact this⟩
    · rintro Δ' ⟨f, e, rfl, hf0, hf1⟩
      exact ws_ret (we_op (we_var rfl (we_var rfl (rd_I h0 (h _ (Int.emod_nonneg _ (by omega)) (Int.emod_lt_of_pos _ h0)))))) (pots_one 0 rfl)
theorem ok_law_great {P : Program} {w : World} {K : PySem.W.Frag} {mg : Str → Option Value} {base : Heap} (D : Def K mg "_law_great" s_law_great) (h_law_draw : Has P w K mg base "_law_draw" 1 ["_law_pot_here", "_law_many"] (SpD K phi_law_draw)) (m_range : mg "range" = none) : Has P w K mg base "_law_great" 2 ["_law_pot_here", "_law_many"] (SpD K phi_law_great) :=
  has_of D (fun _ _ F => F.binds (ps := ["_law_pot_here", "_law_many"]) fun _ _ _ _ _ _ us hl => match us, hl with | [_, _], _ => rfl) fun _ _ F => okD (x0 := "") (N := n_law_great) (t := t_law_great K) F sc_law_great (by decide) len_law_great (fun cdv A outer s H E hr =>
  (pss_cons (ps_if (pt_cmpR op_gt (pe_ix ix_seq (pv 0) pe_int (fun _ _ => rfl)) pe_int (nomark _)) (pss_one (ps_ret (pe_callH h_law_draw (hr.mono (by decide)) (by rfl) (pa_cons (pv 0) (pa_cons (pv 1) pa_nil))))) pss_nil)
  (pss_cons (ps_set (i := 2) sc_law_great.nd rfl (by first | exact Or.inl rfl | exact Or.inr rfl) pe_int)
  (pss_cons (ps_for PassesOwn.never rfl (pi_range1 (by rfl) m_range (pa_cons pe_int pa_nil)) (pg_name (i := 3) sc_law_great.nd rfl (by first | exact Or.inl rfl | exact Or.inr rfl)) (pss_one (ps_set (i := 2) sc_law_great.nd rfl (by first | exact Or.inl rfl | exact Or.inr rfl) (pe_op op_addA (pe_op op_mulA (pv 2) pe_int) (pe_callH h_law_draw (hr.mono (by decide)) (by rfl) (pa_cons (pv 0) (pa_cons pe_int pa_nil)))))))
  (pss_one (ps_ret (pe_op op_mod (pv 2) (pv 1)))))))) ws_law_great
/-! ## _law_number -/
def phi_law_number (ds : List PyData) (R : Rs → Prop) : Prop := ∃ m : Int, ds = [.int m] ∧ 60 ≤ m ∧ m.natAbs < 2 ^ 9000 ∧ ∀ z : Int, 0 ≤ z → z < m → R (.v (.int z))
theorem len_law_number : ∀ ds R, phi_law_number ds R → ds.length + 1 = 2 := fun ds R ⟨m, h, _⟩ => by rw [h]; rfl
theorem at4 {z : Int} (h0 : 0 ≤ z) (h1 : z < 4) : ∃ x : Int, atI [PyData.int 7, .int 7, .int 7, .int 60] z = some (.int x) ∧ 0 < x ∧ x ≤ 60 := by
  have : z = 0 ∨ z = 1 ∨ z = 2 ∨ z = 3 := by omega
  rcases this with rfl | rfl | rfl | rfl
  · exact ⟨7, rfl, by decide, by decide⟩
  · exact ⟨7, rfl, by decide, by decide⟩
  · exact ⟨7, rfl, by decide, by decide⟩
  · exact ⟨60, rfl, by decide, by decide⟩
theorem small60 {x : Int} (h : 0 < x) (h2 : x ≤ 100000) : x.natAbs < 2 ^ 9000 := Nat.lt_trans (show x.natAbs < 2 ^ 17 by omega) (by decide +kernel)
abbrev s_law_number : Stmt := topS 11
abbrev n_law_number : List Str := ["_law_pot_here", "_law_end", "_law_way"]
theorem sc_law_number : FnScope n_law_number ["_law_pot_here", "_law_end"] (defScope s_law_number) := ⟨rfl, rfl, rfl, by decide +kernel, rfl, by decide +kernel, by decide +kernel⟩
def t_law_number (K : PySem.W.Frag) : TS := (tSeq (tAsg (tCall (SpD K phi_law_draw) [] E0 (tCons (tVar 0) (tCons (tC (.int 8)) tNil))) (gName 2))
  (tSeq (tIfS (tTest (tOp (rEqD K) (tVar 2) (tC (.int 7)))) (tRet (tCall (SpD K phi_law_great) [] E0 (tCons (tVar 0) (tCons (tVar 1) tNil)))) tNext)
  (tRet (tCall (SpD K phi_law_draw) [] E0 (tCons (tVar 0) (tCons (tOp (rIx K) (tLst (tCons (tC (.int 7)) (tCons (tC (.int 7)) (tCons (tC (.int 7)) (tCons (tC (.int 60)) tNil))))) (tOp rModI (tVar 2) (tC (.int 4)))) tNil))))))
theorem ws_law_number {K : PySem.W.Frag} (p : Addr) (ds : List PyData) (R : Rs → Prop) : phi_law_number ds R → WS K (t_law_number K) (.pot p :: (ds.map Ent.val ++ List.replicate (n_law_number.length - (ds.length + 1)) .unk)) { nx := fun _ => False, rt := R, ps := [p] } := by
  rintro ⟨m, rfl, h0, h1, h⟩
  show WS K (t_law_number K) [.pot p, .val (.int m), .unk] _
  unfold t_law_number
  refine ws_seq (ws_asg (we_callD rfl (wa_cons (we_int (wa_nil ⟨8, rfl, by decide, by decide +kernel, fun way w0 w1 => ?_⟩)))))
  refine ws_seq (ws_if (wt_test (we_op (we_var rfl (we_int (rd_eqDI ⟨_, rfl, if_d (fun c => ?_) (fun c => ?_)⟩))))))
  · exact ws_ret (we_callD rfl (wa_cons (we_var rfl (wa_nil ⟨m, rfl, by omega, h1, h⟩)))) (pots_one 0 rfl)
  · refine ws_next (ws_ret (we_callD rfl (wa_cons (we_op (we_lst (wa_cons (we_int (wa_cons (we_int (wa_cons (we_int (wa_cons (we_int (wa_nil ⟨by decide, we_op (we_var rfl (we_int (rd_I (by decide) ?_)))⟩))))))))))))) (pots_one 0 rfl))
    obtain ⟨x, hx, x0, x1⟩ := at4 (z := way % 4) (Int.emod_nonneg _ (by decide)) (Int.emod_lt_of_pos _ (by decide))
    exact rd_ixAL hx (wa_nil ⟨x, rfl, x0, small60 x0 (by omega), fun z z0 z1 => h z z0 (by omega)⟩)
theorem ok_law_number {P : Program} {w : World} {K : PySem.W.Frag} {mg : Str → Option Value} {base : Heap} (D : Def K mg "_law_number" s_law_number) (h_law_draw : Has P w K mg base "_law_draw" 1 ["_law_pot_here", "_law_many"] (SpD K phi_law_draw)) (h_law_great : Has P w K mg base "_law_great" 2 ["_law_pot_here", "_law_many"] (SpD K phi_law_great)) : Has P w K mg base "_law_number" 3 ["_law_pot_here", "_law_end"] (SpD K phi_law_number) :=
  has_of D (fun _ _ F => F.binds (ps := ["_law_pot_here", "_law_end"]) fun _ _ _ _ _ _ us hl => match us, hl with | [_, _], _ => rfl) fun _ _ F => okD (x0 := "") (N := n_law_number) (t := t_law_number K) F sc_law_number (by decide) len_law_number (fun cdv A outer s H E hr =>
  (pss_cons (ps_set (i := 2) sc_law_number.nd rfl (by first | exact Or.inl rfl | exact Or.inr rfl) (pe_callH h_law_draw (hr.mono (by decide)) (by rfl) (pa_cons (pv 0) (pa_cons pe_int pa_nil))))
  (pss_cons (ps_if (pt_cmpR (op_eqD hr.units) (pv 2) pe_int (nomark _)) (pss_one (ps_ret (pe_callH h_law_great (hr.mono (by decide)) (by rfl) (pa_cons (pv 0) (pa_cons (pv 1) pa_nil))))) pss_nil)
  (pss_one (ps_ret (pe_callH h_law_draw (hr.mono (by decide)) (by rfl) (pa_cons (pv 0) (pa_cons (pe_ix ix_seq (pe_lst (pa_cons pe_int (pa_cons pe_int (pa_cons pe_int (pa_cons pe_int pa_nil))))) (pe_op op_mod (pv 2) pe_int) (fun _ _ => rfl)) pa_nil)))))))) ws_law_number
/-! ## _law_divisor -/
def phi_law_divisor (ds : List PyData) (R : Rs → Prop) : Prop := ∃ a b : Int, ds = [.int a, .int b] ∧ R (.v (.int (Int.gcd a b)))
theorem len_law_divisor : ∀ ds R, phi_law_divisor ds R → ds.length = 2 := fun ds R ⟨a, b, h, _⟩ => by rw [h]; rfl
theorem abs_cast (a : Int) : (if a < 0 then -a else a) = ((a.natAbs : Nat) : Int) := by
  split <;> omega
theorem gcd_turn (u v : Nat) : Nat.gcd v (u % v) = Nat.gcd u v := by
  rw [Nat.gcd_comm v (u % v), ← Nat.gcd_rec, Nat.gcd_comm]
abbrev s_law_divisor : Stmt := topS 9
abbrev n_law_divisor : List Str := ["_law_one", "_law_other"]
theorem sc_law_divisor : FnScope n_law_divisor ["_law_one", "_law_other"] (defScope s_law_divisor) := ⟨rfl, rfl, rfl, by decide +kernel, rfl, by decide +kernel, by decide +kernel⟩
def t_law_divisor (K : PySem.W.Frag) : TS := (tSeq (tPar 0 1 (tCons (tCB rAbs (tCons (tVar 0) tNil)) (tCons (tCB rAbs (tCons (tVar 1) tNil)) tNil)))
  (tSeq (tWhile (tTest (tOp rGtI (tVar 1) (tC (.int 0)))) (tPar 0 1 (tCons (tVar 1) (tCons (tOp rModI (tVar 0) (tVar 1)) tNil))))
  (tRet (tVar 0))))
theorem ws_law_divisor {K : PySem.W.Frag} (ds : List PyData) (R : Rs → Prop) : phi_law_divisor ds R → WS K (t_law_divisor K) (ds.map Ent.val ++ List.replicate (n_law_divisor.length - ds.length) .unk) { nx := fun _ => R (.v .none), rt := R } := by
  rintro ⟨a, b, rfl, h⟩
  show WS K (t_law_divisor K) [.val (.int a), .val (.int b)] _
  unfold t_law_divisor
  walk_at "dl"
  refine ws_while (fun m Δ => ∃ u v : Nat, Δ = [.val (.int u), .val (.int v)] ∧ Nat.gcd u v = Int.gcd a b ∧ m = v) b.natAbs ⟨a.natAbs, b.natAbs, ?_, rfl, rfl⟩ ?_
  · show [Ent.val (.int (if a < 0 then -a else a)), Ent.val (.int (if b < 0 then -b else b))] = _
    rw [abs_cast, abs_cast]
  · rintro m Δ' ⟨u, v, rfl, hg, rfl⟩
    walk_at "dl"
    refine if_d (fun c => ?_) (fun c => ?_)
    · have hv : 0 < m := by omega
      walk_at "dl"
      · omega
      · refine ⟨u % m, Nat.mod_lt _ hv, m, u % m, ?_, ?_, rfl⟩
        · rw [Int.natCast_emod]
          rfl
        · rw [gcd_turn, hg]
    · have hv : m = 0 := by omega
      subst hv
      walk_at "dl"
      rw [Nat.gcd_zero_right] at hg
      rw [hg]
      exact h
theorem ok_law_divisor {P : Program} {w : World} {K : PySem.W.Frag} {mg : Str → Option Value} {base : Heap} (D : Def K mg "_law_divisor" s_law_divisor) (m_abs : mg "abs" = none) : Has P w K mg base "_law_divisor" 1 ["_law_one", "_law_other"] (SpF K phi_law_divisor) :=
  has_of D (fun _ _ F => F.binds (ps := ["_law_one", "_law_other"]) fun _ _ _ _ _ _ us hl => match us, hl with | [_, _], _ => rfl) fun _ _ F => okF (N := n_law_divisor) (t := t_law_divisor K) F sc_law_divisor len_law_divisor (fun cdv A outer s H E hr =>
  (pss_cons (ps_par (i := 0) (j := 1) (by rfl) sc_law_divisor.nd rfl rfl (by decide) rfl rfl (pa_cons (pe_callB c_abs (by rfl) m_abs (by decide +kernel) (pa_cons (pv 0) pa_nil)) (pa_cons (pe_callB c_abs (by rfl) m_abs (by decide +kernel) (pa_cons (pv 1) pa_nil)) pa_nil)) (by rfl))
  (pss_cons (ps_while PassesOwn.never (pt_cmpR op_gt (pv 1) pe_int (nomark _)) (pss_one (ps_par (i := 0) (j := 1) (by rfl) sc_law_divisor.nd rfl rfl (by decide) rfl rfl (pa_cons (pv 1) (pa_cons (pe_op op_mod (pv 0) (pv 1)) pa_nil)) (by rfl))))
  (pss_one (ps_ret (pv 0)))))) ws_law_divisor
/-! ## _law_lowest -/
def lowF (a b : Int) : Fr := (a / (Int.gcd a b : Int), b / (Int.gcd a b : Int))
theorem gcd_pos_of {a b : Int} (hb : 0 < b) : 0 < (Int.gcd a b : Int) := by
  have : 0 < Int.gcd a b := Nat.gcd_pos_of_pos_right _ (by omega)
  omega
theorem gcd_le_of {a b : Int} (hb : 0 < b) : (Int.gcd a b : Int) ≤ b := by
  have : Int.gcd a b ≤ b.natAbs := Nat.gcd_le_right _ (by omega)
  omega
theorem natAbs_ediv_le {a g : Int} (hg : 0 < g) (hd : g ∣ a) : (a / g).natAbs ≤ a.natAbs := by
  obtain ⟨c, rfl⟩ := hd
  rw [Int.mul_ediv_cancel_left _ (by omega), Int.natAbs_mul]
  exact Nat.le_mul_of_pos_left _ (by omega)
theorem lowF_fq {a b : Int} {n : Nat} (hb : 0 < b) (h1 : a.natAbs < 2 ^ n) (h2 : b.natAbs < 2 ^ n) : Fq n (lowF a b) := by
  have hg := gcd_pos_of (a := a) hb
  have d1 : (Int.gcd a b : Int) ∣ a := Int.gcd_dvd_left ..
  have d2 : (Int.gcd a b : Int) ∣ b := Int.gcd_dvd_right ..
  refine ⟨?_, ?_, Nat.lt_of_le_of_lt (natAbs_ediv_le hg d1) h1, Nat.lt_of_le_of_lt (natAbs_ediv_le hg d2) h2⟩
  · exact Int.ediv_pos_of_pos_of_dvd hb (by omega) d2
  · have e := Int.gcd_ediv_gcd_ediv_gcd (i := a) (j := b) (by omega)
    exact e
def phi_law_lowest (ds : List PyData) (R : Rs → Prop) : Prop := ∃ a b : Int, ds = [.int a, .int b] ∧ 0 < b ∧ b.natAbs < 2 ^ 9000 ∧ a.natAbs < 2 ^ 100000 ∧ R (.v (frD (lowF a b)))
theorem len_law_lowest : ∀ ds R, phi_law_lowest ds R → ds.length = 2 := fun ds R ⟨a, b, h, _⟩ => by rw [h]; rfl
abbrev s_law_lowest : Stmt := topS 10
abbrev n_law_lowest : List Str := ["_law_top", "_law_bottom", "_law_shared", "_law_sign"]
theorem sc_law_lowest : FnScope n_law_lowest ["_law_top", "_law_bottom"] (defScope s_law_lowest) := ⟨rfl, rfl, rfl, by decide +kernel, rfl, by decide +kernel, by decide +kernel⟩
def t_law_lowest (K : PySem.W.Frag) : TS := (tSeq (tAsg (tCall (SpF K phi_law_divisor) [] E0 (tCons (tVar 0) (tCons (tVar 1) tNil))) (gName 2))
  (tSeq (tAsg (tIf (tTest (tOp rGtI (tVar 1) (tC (.int 0)))) (tC (.int 1)) (tUn rNegI (tC (.int 1)))) (gName 3))
  (tRet (tTup (tCons (tOp rFdivI (tOp rMulA (tVar 3) (tVar 0)) (tVar 2)) (tCons (tOp rFdivI (tOp rMulA (tVar 3) (tVar 1)) (tVar 2)) tNil))))))
theorem ws_law_lowest {K : PySem.W.Frag} (ds : List PyData) (R : Rs → Prop) : phi_law_lowest ds R → WS K (t_law_lowest K) (ds.map Ent.val ++ List.replicate (n_law_lowest.length - ds.length) .unk) { nx := fun _ => R (.v .none), rt := R } := by
  rintro ⟨a, b, rfl, hb, hb2, ha2, h⟩
  show WS K (t_law_lowest K) [.val (.int a), .val (.int b), .unk, .unk] _
  unfold t_law_lowest
  have hg := gcd_pos_of (a := a) hb
  have hg2 : (Int.gcd a b : Int).natAbs < 2 ^ 9000 := Nat.lt_of_le_of_lt (by have := gcd_le_of (a := a) hb; omega) hb2
  have cd : ∀ i : Int, CDivW i (Int.gcd a b : Int) := fun i => wide_div hg hg2 (by decide) (by decide)
  walk_at "dl"
  refine if_d (fun c => ?_) (fun c => absurd hb c)
  walk_at "dl"
  · exact mulx_ok (a := 1) (b := 100000) (by decide) ha2 (by decide)
  · exact cd _
  · exact mulx_ok (a := 1) (b := 9000) (by decide) hb2 (by decide)
  · exact cd _
  · refine ⟨by show 2 ≤ 100000; decide, ?_⟩
    show R (.v (.tuple [.int (1 * a / _), .int (1 * b / _)]))
    rw [Int.one_mul, Int.one_mul]
    exact h
theorem ok_law_lowest {P : Program} {w : World} {K : PySem.W.Frag} {mg : Str → Option Value} {base : Heap} (D : Def K mg "_law_lowest" s_law_lowest) (h_law_divisor : Has P w K mg base "_law_divisor" 1 ["_law_one", "_law_other"] (SpF K phi_law_divisor)) : Has P w K mg base "_law_lowest" 2 ["_law_top", "_law_bottom"] (SpF K phi_law_lowest) :=
  has_of D (fun _ _ F => F.binds (ps := ["_law_top", "_law_bottom"]) fun _ _ _ _ _ _ us hl => match us, hl with | [_, _], _ => rfl) fun _ _ F => okF (N := n_law_lowest) (t := t_law_lowest K) F sc_law_lowest len_law_lowest (fun cdv A outer s H E hr =>
  (pss_cons (ps_set (i := 2) sc_law_lowest.nd rfl (by first | exact Or.inl rfl | exact Or.inr rfl) (pe_callH h_law_divisor (hr.mono (by decide)) (by rfl) (pa_cons (pv 0) (pa_cons (pv 1) pa_nil))))
  (pss_cons (ps_set (i := 3) sc_law_lowest.nd rfl (by first | exact Or.inl rfl | exact Or.inr rfl) (pe_ifExp (pt_cmpR op_gt (pv 1) pe_int (nomark _)) pe_int (pe_un un_neg pe_int)))
  (pss_one (ps_ret (pe_tup (pa_cons (pe_op op_fdivW (pe_op op_mulA (pv 3) (pv 0)) (pv 2)) (pa_cons (pe_op op_fdivW (pe_op op_mulA (pv 3) (pv 1)) (pv 2)) pa_nil)))))))) ws_law_lowest
/-! ## _law_fraction -/
def phi_law_fraction (ds : List PyData) (R : Rs → Prop) : Prop := ds = [] ∧ ∀ x : Fr, Fq 200 x → R (.v (frD x))
theorem len_law_fraction : ∀ ds R, phi_law_fraction ds R → ds.length + 1 = 1 := fun ds R ⟨h, _⟩ => by rw [h]; rfl
theorem at2 {z a b : Int} (h0 : 0 ≤ z) (h1 : z < 2) : ∃ x : Int, atI [PyData.int a, .int b] z = some (.int x) ∧ (x = a ∨ x = b) := by
  have : z = 0 ∨ z = 1 := by omega
  rcases this with rfl | rfl
  · exact ⟨a, rfl, .inl rfl⟩
  · exact ⟨b, rfl, .inr rfl⟩
theorem p60 : ((10 : Int) ^ (60 : Int).toNat) = 1000000000000000000000000000000000000000000000000000000000000 := by decide +kernel
abbrev s_law_fraction : Stmt := topS 12
abbrev n_law_fraction : List Str := ["_law_pot_here", "_law_top", "_law_bottom"]
theorem sc_law_fraction : FnScope n_law_fraction ["_law_pot_here"] (defScope s_law_fraction) := ⟨rfl, rfl, rfl, by decide +kernel, rfl, by decide +kernel, by decide +kernel⟩
def t_law_fraction (K : PySem.W.Frag) : TS := (tSeq (tAsg (tCall (SpD K phi_law_number) [] E0 (tCons (tVar 0) (tCons (tOp rPowI (tC (.int 10)) (tC (.int 60))) tNil))) (gName 1))
  (tSeq (tAsg (tC (.int 1)) (gName 2))
  (tSeq (tIfS (tTest (tOp (rEqD K) (tCall (SpD K phi_law_draw) [] E0 (tCons (tVar 0) (tCons (tC (.int 2)) tNil))) (tC (.int 1)))) (tAsg (tOp (rAddA K) (tC (.int 1)) (tCall (SpD K phi_law_number) [] E0 (tCons (tVar 0) (tCons (tOp rSubI (tOp rPowI (tC (.int 10)) (tC (.int 60))) (tC (.int 1))) tNil)))) (gName 2)) tNext)
  (tRet (tCall (SpF K phi_law_lowest) [] E0 (tCons (tOp (rIx K) (tLst (tCons (tVar 1) (tCons (tUn rNegI (tVar 1)) tNil))) (tCall (SpD K phi_law_draw) [] E0 (tCons (tVar 0) (tCons (tC (.int 2)) tNil)))) (tCons (tVar 2) tNil)))))))
theorem ws_law_fraction {K : PySem.W.Frag} (p : Addr) (ds : List PyData) (R : Rs → Prop) : phi_law_fraction ds R → WS K (t_law_fraction K) (.pot p :: (ds.map Ent.val ++ List.replicate (n_law_fraction.length - (ds.length + 1)) .unk)) { nx := fun _ => False, rt := R, ps := [p] } := by
  rintro ⟨rfl, h⟩
  show WS K (t_law_fraction K) [.pot p, .unk, .unk] _
  unfold t_law_fraction
  have last : ∀ top bot : Int, 0 ≤ top → top < 10 ^ 60 → 0 < bot → bot ≤ 10 ^ 60 → WS K (tRet (tCall (SpF K phi_law_lowest) [] E0 (tCons (tOp (rIx K) (tLst (tCons (tVar 1) (tCons (tUn rNegI (tVar 1)) tNil))) (tCall (SpD K phi_law_draw) [] E0 (tCons (tVar 0) (tCons (tC (.int 2)) tNil)))) (tCons (tVar 2) tNil)))) [.pot p, .val (.int top), .val (.int bot)] { nx := fun _ => False, rt := R, ps := [p] } := by
    intro top bot t0 t1 b0 b1
    walk_at "dl"
    refine ⟨by show 2 ≤ 100000; decide, ?_⟩
    walk_at "dl"
    refine ⟨by decide, by decide +kernel, fun z z0 z1 => ?_⟩
    obtain ⟨x, hx, hx2⟩ := at2 (a := top) (b := -top) z0 z1
    have e60 : (10 : Int) ^ 60 = 1000000000000000000000000000000000000000000000000000000000000 := by decide +kernel
    rw [e60] at t1 b1
    have l200 : (1000000000000000000000000000000000000000000000000000000000000 : Nat) < 2 ^ 200 := by decide +kernel
    have hxa : x.natAbs < 2 ^ 200 := Nat.lt_of_le_of_lt (by omega) l200
    have hba : bot.natAbs < 2 ^ 200 := Nat.lt_of_le_of_lt (by omega) l200
    refine rd_ixAL hx ?_
    walk_at "dl"
    exact ⟨b0, Nat.lt_trans hba (by decide +kernel), Nat.lt_of_lt_of_le hxa (Nat.pow_le_pow_right (by decide) (by decide)), h _ (lowF_fq b0 hxa hba)⟩
  walk_at "dl"
  · exact ⟨by decide, by decide, by decide⟩
  refine ⟨by rw [p60]; decide, by rw [p60]; decide +kernel, fun top t0 t1 => ?_⟩
  walk_at "dl"
  refine ⟨by decide, by decide +kernel, fun z z0 z1 => ?_⟩
  walk_at "dl"
  refine if_d (fun c => ?_) (fun c => ?_)
  · walk_at "dl"
    · exact ⟨by decide, by decide, by decide⟩
    refine ⟨by rw [p60]; decide, by rw [p60]; decide +kernel, fun bot b0 b1 => rd_addI ?_⟩
    exact last top (1 + bot) t0 t1 (by omega) (by have e : (10 : Int) ^ (60 : Int).toNat = 10 ^ 60 := rfl; rw [e] at b1; omega)
  · exact ws_next (last top 1 t0 t1 (by decide) (by decide +kernel))
theorem ok_law_fraction {P : Program} {w : World} {K : PySem.W.Frag} {mg : Str → Option Value} {base : Heap} (D : Def K mg "_law_fraction" s_law_fraction) (h_law_number : Has P w K mg base "_law_number" 3 ["_law_pot_here", "_law_end"] (SpD K phi_law_number)) (h_law_draw : Has P w K mg base "_law_draw" 1 ["_law_pot_here", "_law_many"] (SpD K phi_law_draw)) (h_law_lowest : Has P w K mg base "_law_lowest" 2 ["_law_top", "_law_bottom"] (SpF K phi_law_lowest)) : Has P w K mg base "_law_fraction" 4 ["_law_pot_here"] (SpD K phi_law_fraction) :=
  has_of D (fun _ _ F => F.binds (ps := ["_law_pot_here"]) fun _ _ _ _ _ _ us hl => match us, hl with | [_], _ => rfl) fun _ _ F => okD (x0 := "") (N := n_law_fraction) (t := t_law_fraction K) F sc_law_fraction (by decide) len_law_fraction (fun cdv A outer s H E hr =>
  (pss_cons (ps_set (i := 1) sc_law_fraction.nd rfl (by first | exact Or.inl rfl | exact Or.inr rfl) (pe_callH h_law_number (hr.mono (by decide)) (by rfl) (pa_cons (pv 0) (pa_cons (pe_op op_pow pe_int pe_int) pa_nil))))
  (pss_cons (ps_set (i := 2) sc_law_fraction.nd rfl (by first | exact Or.inl rfl | exact Or.inr rfl) pe_int)
  (pss_cons (ps_if (pt_cmpR (op_eqD hr.units) (pe_callH h_law_draw (hr.mono (by decide)) (by rfl) (pa_cons (pv 0) (pa_cons pe_int pa_nil))) pe_int (nomark _)) (pss_one (ps_set (i := 2) sc_law_fraction.nd rfl (by first | exact Or.inl rfl | exact Or.inr rfl) (pe_op op_addA pe_int (pe_callH h_law_number (hr.mono (by decide)) (by rfl) (pa_cons (pv 0) (pa_cons (pe_op op_sub (pe_op op_pow pe_int pe_int) pe_int) pa_nil)))))) pss_nil)
  (pss_one (ps_ret (pe_callH h_law_lowest (hr.mono (by decide)) (by rfl) (pa_cons (pe_ix ix_seq (pe_lst (pa_cons (pv 1) (pa_cons (pe_un un_neg (pv 1)) pa_nil))) (pe_callH h_law_draw (hr.mono (by decide)) (by rfl) (pa_cons (pv 0) (pa_cons pe_int pa_nil))) (fun _ _ => rfl)) (pa_cons (pv 2) pa_nil))))))))) ws_law_fraction
/-! ## _law_some -/
def phi_law_some (ds : List PyData) (R : Rs → Prop) : Prop := ds = [] ∧ ∀ l : List Fr, 1 ≤ l.length → l.length ≤ 12 → (∀ x, x ∈ l → Fq 200 x) → R (.n (l.map frD))
theorem len_law_some : ∀ ds R, phi_law_some ds R → ds.length + 1 = 1 := fun ds R ⟨h, _⟩ => by rw [h]; rfl
abbrev s_law_some : Stmt := topS 13
abbrev n_law_some : List Str := ["_law_pot_here", "_law_found", "_law_k"]
theorem sc_law_some : FnScope n_law_some ["_law_pot_here"] (defScope s_law_some) := ⟨rfl, rfl, rfl, by decide +kernel, rfl, by decide +kernel, by decide +kernel⟩
def t_law_some (K : PySem.W.Frag) : TS := (tSeq (tAsg (tLst (tCons (tCall (SpD K phi_law_fraction) [] E0 (tCons (tVar 0) tNil)) tNil)) (gName 1))
  (tSeq (tFor (iRng1 (tCons (tCall (SpD K phi_law_draw) [] E0 (tCons (tVar 0) (tCons (tC (.int 12)) tNil))) tNil)) (gName 2) (tIfS (tTest (tOp (rEqD K) (tCall (SpD K phi_law_draw) [] E0 (tCons (tVar 0) (tCons (tC (.int 4)) tNil))) (tC (.int 3)))) (tDrop (tBM K "list" rAppend (tVar 1) (tCons (tOp (rIx K) (tVar 1) (tCall (SpD K phi_law_draw) [] E0 (tCons (tVar 0) (tCons (tCB (rLen K) (tCons (tVar 1) tNil)) tNil)))) tNil))) (tDrop (tBM K "list" rAppend (tVar 1) (tCons (tCall (SpD K phi_law_fraction) [] E0 (tCons (tVar 0) tNil)) tNil)))))
  (tRet (tVar 1))))
theorem ws_law_some {K : PySem.W.Frag} (p : Addr) (ds : List PyData) (R : Rs → Prop) : phi_law_some ds R → WS K (t_law_some K) (.pot p :: (ds.map Ent.val ++ List.replicate (n_law_some.length - (ds.length + 1)) .unk)) { nx := fun _ => False, rt := R, ps := [p] } := by
  rintro ⟨rfl, h⟩
  show WS K (t_law_some K) [.pot p, .unk, .unk] _
  unfold t_law_some
  refine ws_seq (ws_asgN ?_)
  walk_at "dl"
  refine ⟨rfl, fun x hx => ?_⟩
  walk_at "dl"
  refine ⟨by show 1 ≤ 100000; decide, _, rfl, fun l => ?_⟩
  walk_at "dl"
  refine ⟨by decide, by decide +kernel, fun n n0 n1 => ?_⟩
  walk_at "dl"
  refine ⟨by omega, by omega, fun i Δ => ∃ (fs : List Fr) (e : Ent), Δ = [.pot p, .own l (fs.map frD), e] ∧ fs.length = i + 1 ∧ (∀ x, x ∈ fs → Fq 200 x) ∧ e.ad = [], ?_, ?_, ?_⟩
  · exact ⟨[x], .unk, rfl, rfl, fun y hy => by rw [List.mem_singleton.mp hy]; exact hx, rfl⟩
  · rintro i d Δ' hd ⟨fs, e, rfl, hlen, hall, he⟩
    obtain ⟨hi, rfl⟩ := rng_get hd
    walk_at "dl"
    refine ⟨by decide, by decide +kernel, fun z z0 z1 => ?_⟩
    walk_at "dl"
    have hsz : (fs.map frD).length < 100000 := by rw [List.length_map]; omega
    refine if_d (fun c => ?_) (fun c => ?_)
    · refine ws_app rfl hsz ?_
      walk_at "dl"
      rw [List.length_map]
      refine ⟨by omega, small60 (by omega) (by omega), fun j j0 j1 => ?_⟩
      obtain ⟨y, hy, hat⟩ := at_map (f := frD) (l := fs) j0 j1 rfl
      refine ⟨j, frD y, rfl, hat, fs ++ [y], .val (.int (0 + i)), ?_, by rw [List.length_append]; simp [hlen], fun w hw => ?_, rfl⟩
      · rw [List.map_append]
        rfl
      · rcases List.mem_append.mp hw with hw | hw
        · exact hall w hw
        · rw [List.mem_singleton.mp hw]; exact hall y hy
    · refine ws_app rfl hsz ?_
      walk_at "dl"
      refine ⟨rfl, fun y hy => ⟨fs ++ [y], .val (.int (0 + i)), ?_, by rw [List.length_append]; simp [hlen], fun w hw => ?_, rfl⟩⟩
      · rw [List.map_append]
        rfl
      · rcases List.mem_append.mp hw with hw | hw
        · exact hall w hw
        · rw [List.mem_singleton.mp hw]; exact hy
  · rintro Δ' ⟨fs, e, rfl, hlen, hall, he⟩
    rw [rng_len] at hlen
    exact ws_retO rfl (pots_one 0 rfl) (h fs (by omega) (by omega) hall)
theorem ok_law_some {P : Program} {w : World} {K : PySem.W.Frag} {mg : Str → Option Value} {base : Heap} (D : Def K mg "_law_some" s_law_some) (h_law_fraction : Has P w K mg base "_law_fraction" 4 ["_law_pot_here"] (SpD K phi_law_fraction)) (h_law_draw : Has P w K mg base "_law_draw" 1 ["_law_pot_here", "_law_many"] (SpD K phi_law_draw)) (m_range : mg "range" = none) (m_len : mg "len" = none) : Has P w K mg base "_law_some" 5 ["_law_pot_here"] (SpD K phi_law_some) :=
  has_of D (fun _ _ F => F.binds (ps := ["_law_pot_here"]) fun _ _ _ _ _ _ us hl => match us, hl with | [_], _ => rfl) fun _ _ F => okD (x0 := "") (N := n_law_some) (t := t_law_some K) F sc_law_some (by decide) len_law_some (fun cdv A outer s H E hr =>
  (pss_cons (ps_set (i := 1) sc_law_some.nd rfl (by first | exact Or.inl rfl | exact Or.inr rfl) (pe_lst (pa_cons (pe_callH h_law_fraction (hr.mono (by decide)) (by rfl) (pa_cons (pv 0) pa_nil)) pa_nil)))
  (pss_cons (ps_for PassesOwn.never rfl (pi_range1 (by rfl) m_range (pa_cons (pe_callH h_law_draw (hr.mono (by decide)) (by rfl) (pa_cons (pv 0) (pa_cons pe_int pa_nil))) pa_nil)) (pg_name (i := 2) sc_law_some.nd rfl (by first | exact Or.inl rfl | exact Or.inr rfl)) (pss_one (ps_if (pt_cmpR (op_eqD hr.units) (pe_callH h_law_draw (hr.mono (by decide)) (by rfl) (pa_cons (pv 0) (pa_cons pe_int pa_nil))) pe_int (nomark _)) (pss_one (ps_expr (pe_bm PySem.F.plainAttrs_list PySem.F.slot_list_append PySem.F.type_list_append mt_append (pv 1) (pa_cons (pe_ix ix_seq (pv 1) (pe_callH h_law_draw (hr.mono (by decide)) (by rfl) (pa_cons (pv 0) (pa_cons (pe_callB c_len (by rfl) m_len (by decide +kernel) (pa_cons (pv 1) pa_nil)) pa_nil))) (fun _ _ => rfl)) pa_nil)))) (pss_one (ps_expr (pe_bm PySem.F.plainAttrs_list PySem.F.slot_list_append PySem.F.type_list_append mt_append (pv 1) (pa_cons (pe_callH h_law_fraction (hr.mono (by decide)) (by rfl) (pa_cons (pv 0) pa_nil)) pa_nil)))))))
  (pss_one (ps_ret (pv 1)))))) ws_law_some
/-! ## _law_pot -/
def phi_law_pot (ds : List PyData) (R : Rs → Prop) : Prop := ∃ c : Int, ds = [.int c] ∧ ∀ x y : Int, 0 ≤ x → 0 ≤ y → y < 2147483648 → R (.n [.int x, .int y])
theorem len_law_pot : ∀ ds R, phi_law_pot ds R → ds.length = 1 := fun ds R ⟨c, h, _⟩ => by rw [h]; rfl
abbrev s_law_pot : Stmt := topS 6
abbrev n_law_pot : List Str := ["_law_cell_here"]
theorem sc_law_pot : FnScope n_law_pot ["_law_cell_here"] (defScope s_law_pot) := ⟨rfl, rfl, rfl, by decide +kernel, rfl, by decide +kernel, by decide +kernel⟩
def t_law_pot (K : PySem.W.Frag) : TS := (tRet (tLst (tCons (tCB rMax2' (tCons (tC (.int 0)) (tCons (tOp rSubI (tVar 0) (tOp rPowI (tC (.int 10)) (tC (.int 18)))) tNil))) (tCons (tOp (rAddA K) (tOp rModI (tCB rAbs (tCons (tVar 0) tNil)) (tC (.int 2147483629))) (tC (.int 1))) tNil))))
theorem ws_law_pot {K : PySem.W.Frag} (ds : List PyData) (R : Rs → Prop) : phi_law_pot ds R → WS K (t_law_pot K) (ds.map Ent.val ++ List.replicate (n_law_pot.length - ds.length) .unk) { nx := fun _ => R (.v .none), rt := R } := by
  rintro ⟨c, rfl, h⟩
  show WS K (t_law_pot K) [.val (.int c)] _
  unfold t_law_pot
  walk_at "dl"
  · exact ⟨by decide, by decide, by decide⟩
  · show (0 : Int) < 2147483629
    decide
  · refine ⟨by show 2 ≤ 100000; decide, h _ _ ?_ ?_ ?_⟩
    · split <;> omega
    · have := Int.emod_nonneg (if c < 0 then -c else c) (show (2147483629 : Int) ≠ 0 by decide)
      omega
    · have := Int.emod_lt_of_pos (if c < 0 then -c else c) (show (0 : Int) < 2147483629 by decide)
      omega
theorem ok_law_pot {P : Program} {w : World} {K : PySem.W.Frag} {mg : Str → Option Value} {base : Heap} (D : Def K mg "_law_pot" s_law_pot) (m_abs : mg "abs" = none) (m_max : mg "max" = none) : Has P w K mg base "_law_pot" 1 ["_law_cell_here"] (SpF K phi_law_pot) :=
  has_of D (fun _ _ F => F.binds (ps := ["_law_cell_here"]) fun _ _ _ _ _ _ us hl => match us, hl with | [_], _ => rfl) fun _ _ F => okF (N := n_law_pot) (t := t_law_pot K) F sc_law_pot len_law_pot (fun cdv A outer s H E hr =>
  (pss_one (ps_ret (pe_lst (pa_cons (pe_callB (c_max2 rfl) (by rfl) m_max (by decide +kernel) (pa_cons pe_int (pa_cons (pe_op op_sub (pv 0) (pe_op op_pow pe_int pe_int)) pa_nil))) (pa_cons (pe_op op_addA (pe_op op_mod (pe_callB c_abs (by rfl) m_abs (by decide +kernel) (pa_cons (pv 0) pa_nil)) pe_int) pe_int) pa_nil)))))) ws_law_pot
/-! ## is_below -/
def phi_is_below (ds : List PyData) (R : Rs → Prop) : Prop := ∃ a b c d : Int, ds = [.tuple [.int a, .int b], .tuple [.int c, .int d]] ∧ (a.natAbs < 2 ^ 1000000 ∧ b.natAbs < 2 ^ 1000000) ∧ (c.natAbs < 2 ^ 1000000 ∧ d.natAbs < 2 ^ 1000000) ∧ R (.v (.bool (decide (ltF (a, b) (c, d)))))
theorem len_is_below : ∀ ds R, phi_is_below ds R → ds.length = 2 := fun ds R ⟨a, b, c, d, h, _⟩ => by rw [h]; rfl
abbrev s_is_below : Stmt := topS 1
abbrev n_is_below : List Str := ["one", "other"]
theorem sc_is_below : FnScope n_is_below ["one", "other"] (defScope s_is_below) := ⟨rfl, rfl, rfl, by decide +kernel, rfl, by decide +kernel, by decide +kernel⟩
def t_is_below (K : PySem.W.Frag) : TS := (tRet (tOp rLtI (tOp rMulA (tOp (rIx K) (tVar 0) (tC (.int 0))) (tOp (rIx K) (tVar 1) (tC (.int 1)))) (tOp rMulA (tOp (rIx K) (tVar 1) (tC (.int 0))) (tOp (rIx K) (tVar 0) (tC (.int 1))))))
theorem ws_is_below {K : PySem.W.Frag} (ds : List PyData) (R : Rs → Prop) : phi_is_below ds R → WS K (t_is_below K) (ds.map Ent.val ++ List.replicate (n_is_below.length - ds.length) .unk) { nx := fun _ => R (.v .none), rt := R } := by
  rintro ⟨a, b, c, d, rfl, ⟨h1, h2⟩, ⟨h3, h4⟩, h⟩
  show WS K (t_is_below K) [.val (.tuple [.int a, .int b]), .val (.tuple [.int c, .int d])] _
  unfold t_is_below
  walk_at "dl"
  · exact mulx_ok h1 h4 (by decide)
  · exact mulx_ok h3 h2 (by decide)
  · exact h
theorem ok_is_below {P : Program} {w : World} {K : PySem.W.Frag} {mg : Str → Option Value} {base : Heap} (D : Def K mg "is_below" s_is_below) : Has P w K mg base "is_below" 1 ["one", "other"] (SpF K phi_is_below) :=
  has_of D (fun _ _ F => F.binds (ps := ["one", "other"]) fun _ _ _ _ _ _ us hl => match us, hl with | [_, _], _ => rfl) fun _ _ F => okF (N := n_is_below) (t := t_is_below K) F sc_is_below len_is_below (fun cdv A outer s H E hr =>
  (pss_one (ps_ret (pe_cmpR op_lt (pe_op op_mulA (pe_ix ix_seq (pv 0) pe_int (fun _ _ => rfl)) (pe_ix ix_seq (pv 1) pe_int (fun _ _ => rfl))) (pe_op op_mulA (pe_ix ix_seq (pv 1) pe_int (fun _ _ => rfl)) (pe_ix ix_seq (pv 0) pe_int (fun _ _ => rfl))) (nomark _))))) ws_is_below
/-! ## least_of -/
def phi_least_of (ds : List PyData) (R : Rs → Prop) : Prop := ∃ l : List Fr, ds = [.list (l.map frD)] ∧ l ≠ [] ∧ (∀ x, x ∈ l → Fq 1000000 x) ∧ ∀ m, m ∈ l → (∀ x, x ∈ l → ¬ ltF x m) → R (.v (frD m))
theorem len_least_of : ∀ ds R, phi_least_of ds R → ds.length = 1 := fun ds R ⟨l, h, _⟩ => by rw [h]; rfl
theorem take_mem {α : Type} {l : List α} {i : Nat} {x y : α} (hx : l[i]? = some x) (h : y ∈ l.take (i + 1)) : y ∈ l.take i ∨ y = x := by
  rw [List.take_add_one, hx] at h
  rcases List.mem_append.mp h with h | h
  · exact .inl h
  · exact .inr (by simpa using h)
abbrev s_least_of : Stmt := topS 2
abbrev n_least_of : List Str := ["some", "found", "one"]
theorem sc_least_of : FnScope n_least_of ["some"] (defScope s_least_of) := ⟨rfl, rfl, rfl, by decide +kernel, rfl, by decide +kernel, by decide +kernel⟩
def t_least_of (K : PySem.W.Frag) : TS := (tSeq (tAsg (tOp (rIx K) (tVar 0) (tC (.int 0))) (gName 1))
  (tSeq (tFor (iSeq K (tVar 0)) (gName 2) (tIfS (tB (tCall (SpF K phi_is_below) [] E0 (tCons (tVar 2) (tCons (tVar 1) tNil)))) (tAsg (tVar 2) (gName 1)) tNext))
  (tRet (tVar 1))))
theorem ws_least_of {K : PySem.W.Frag} (ds : List PyData) (R : Rs → Prop) : phi_least_of ds R → WS K (t_least_of K) (ds.map Ent.val ++ List.replicate (n_least_of.length - ds.length) .unk) { nx := fun _ => R (.v .none), rt := R } := by
  rintro ⟨l, rfl, hne, hall, h⟩
  show WS K (t_least_of K) [.val (.list (l.map frD)), .unk, .unk] _
  unfold t_least_of
  obtain ⟨x0, r, rfl⟩ : ∃ x r, l = x :: r := by
    cases l with
    | nil => exact absurd rfl hne
    | cons x r => exact ⟨x, r, rfl⟩
  have hat : atI ((x0 :: r).map frD) 0 = some (frD x0) := atI_nat (j := 0) rfl
  walk_at "dl"
  refine rd_ixAL hat ?_
  walk_at "dl"
  generalize hl : x0 :: r = l at *
  refine ⟨fun i Δ => ∃ (m : Fr) (e : Ent), Δ = [.val (.list (l.map frD)), .val (frD m), e] ∧ m ∈ l ∧ ∀ x, x ∈ l.take i → ¬ ltF x m, ?_, ?_, ?_⟩
  · exact ⟨x0, .unk, rfl, by rw [← hl]; exact List.mem_cons_self, fun x hx => by simp at hx⟩
  · rintro i d Δ' hd ⟨m, e, rfl, hm, hmin⟩
    obtain ⟨y, hy, rfl⟩ := get_map hd
    have hyl : y ∈ l := List.mem_of_getElem? hy
    have qy := hall y hyl
    have qm := hall m hm
    walk_at "dl"
    refine ⟨y.1, y.2, m.1, m.2, rfl, ⟨qy.2.2.1, qy.2.2.2⟩, ⟨qm.2.2.1, qm.2.2.2⟩, ?_⟩
    refine ⟨_, rfl, if_d (fun c => ?_) (fun c => ?_)⟩
    · walk_at "dl"
      refine ⟨hyl, fun x hx => ?_⟩
      rcases take_mem hy hx with hx | rfl
      · have q := hall x (List.mem_of_mem_take hx)
        exact lt_trans_le (x := y) (y := m) (z := x) qy.1 qm.1 q.1 (fun c2 => by
          have c' : ltF y m := c
          unfold ltF at c2 c'
          omega) (hmin x hx)
      · exact not_lt_self _
    · refine ws_next ⟨m, .val (frD y), rfl, hm, fun x hx => ?_⟩
      rcases take_mem hy hx with hx | rfl
      · exact hmin x hx
      · exact c
  · rintro Δ' ⟨m, e, rfl, hm, hmin⟩
    walk_at "dl"
    rw [List.length_map, List.take_length] at hmin
    exact h m hm hmin
theorem ok_least_of {P : Program} {w : World} {K : PySem.W.Frag} {mg : Str → Option Value} {base : Heap} (D : Def K mg "least_of" s_least_of) (h_is_below : Has P w K mg base "is_below" 1 ["one", "other"] (SpF K phi_is_below)) : Has P w K mg base "least_of" 2 ["some"] (SpF K phi_least_of) :=
  has_of D (fun _ _ F => F.binds (ps := ["some"]) fun _ _ _ _ _ _ us hl => match us, hl with | [_], _ => rfl) fun _ _ F => okF (N := n_least_of) (t := t_least_of K) F sc_least_of len_least_of (fun cdv A outer s H E hr =>
  (pss_cons (ps_set (i := 1) sc_least_of.nd rfl (by first | exact Or.inl rfl | exact Or.inr rfl) (pe_ix ix_seq (pv 0) pe_int (fun _ _ => rfl)))
  (pss_cons (ps_for PassesOwn.never rfl (pi_seq (pv 0)) (pg_name (i := 2) sc_least_of.nd rfl (by first | exact Or.inl rfl | exact Or.inr rfl)) (pss_one (ps_if (pt_val (pe_callH h_is_below (hr.mono (by decide)) (by rfl) (pa_cons (pv 2) (pa_cons (pv 1) pa_nil)))) (pss_one (ps_set (i := 1) sc_least_of.nd rfl (by first | exact Or.inl rfl | exact Or.inr rfl) (pv 2))) pss_nil)))
  (pss_one (ps_ret (pv 1)))))) ws_least_of
/-! ## greatest_of -/
def phi_greatest_of (ds : List PyData) (R : Rs → Prop) : Prop := ∃ l : List Fr, ds = [.list (l.map frD)] ∧ l ≠ [] ∧ (∀ x, x ∈ l → Fq 1000000 x) ∧ ∀ m, m ∈ l → (∀ x, x ∈ l → ¬ ltF m x) → R (.v (frD m))
theorem len_greatest_of : ∀ ds R, phi_greatest_of ds R → ds.length = 1 := fun ds R ⟨l, h, _⟩ => by rw [h]; rfl
abbrev s_greatest_of : Stmt := topS 3
abbrev n_greatest_of : List Str := ["some", "found", "one"]
theorem sc_greatest_of : FnScope n_greatest_of ["some"] (defScope s_greatest_of) := ⟨rfl, rfl, rfl, by decide +kernel, rfl, by decide +kernel, by decide +kernel⟩
def t_greatest_of (K : PySem.W.Frag) : TS := (tSeq (tAsg (tOp (rIx K) (tVar 0) (tC (.int 0))) (gName 1))
  (tSeq (tFor (iSeq K (tVar 0)) (gName 2) (tIfS (tB (tCall (SpF K phi_is_below) [] E0 (tCons (tVar 1) (tCons (tVar 2) tNil)))) (tAsg (tVar 2) (gName 1)) tNext))
  (tRet (tVar 1))))
theorem ws_greatest_of {K : PySem.W.Frag} (ds : List PyData) (R : Rs → Prop) : phi_greatest_of ds R → WS K (t_greatest_of K) (ds.map Ent.val ++ List.replicate (n_greatest_of.length - ds.length) .unk) { nx := fun _ => R (.v .none), rt := R } := by
  rintro ⟨l, rfl, hne, hall, h⟩
  show WS K (t_greatest_of K) [.val (.list (l.map frD)), .unk, .unk] _
  unfold t_greatest_of
  obtain ⟨x0, r, rfl⟩ : ∃ x r, l = x :: r := by
    cases l with
    | nil => exact absurd rfl hne
    | cons x r => exact ⟨x, r, rfl⟩
  have hat : atI ((x0 :: r).map frD) 0 = some (frD x0) := atI_nat (j := 0) rfl
  walk_at "dl"
  refine rd_ixAL hat ?_
  walk_at "dl"
  generalize hl : x0 :: r = l at *
  refine ⟨fun i Δ => ∃ (m : Fr) (e : Ent), Δ = [.val (.list (l.map frD)), .val (frD m), e] ∧ m ∈ l ∧ ∀ x, x ∈ l.take i → ¬ ltF m x, ?_, ?_, ?_⟩
  · exact ⟨x0, .unk, rfl, by rw [← hl]; exact List.mem_cons_self, fun x hx => by simp at hx⟩
  · rintro i d Δ' hd ⟨m, e, rfl, hm, hmin⟩
    obtain ⟨y, hy, rfl⟩ := get_map hd
    have hyl : y ∈ l := List.mem_of_getElem? hy
    have qy := hall y hyl
    have qm := hall m hm
    walk_at "dl"
    refine ⟨m.1, m.2, y.1, y.2, rfl, ⟨qm.2.2.1, qm.2.2.2⟩, ⟨qy.2.2.1, qy.2.2.2⟩, ?_⟩
    refine ⟨_, rfl, if_d (fun c => ?_) (fun c => ?_)⟩
    · walk_at "dl"
      refine ⟨hyl, fun x hx => ?_⟩
      rcases take_mem hy hx with hx | rfl
      · have q := hall x (List.mem_of_mem_take hx)
        exact lt_trans_le (x := x) (y := m) (z := y) q.1 qm.1 qy.1 (hmin x hx) (fun c2 => by
          have c' : ltF m y := c
          unfold ltF at c2 c'
          omega)
      · exact not_lt_self _
    · refine ws_next ⟨m, .val (frD y), rfl, hm, fun x hx => ?_⟩
      rcases take_mem hy hx with hx | rfl
      · exact hmin x hx
      · exact c
  · rintro Δ' ⟨m, e, rfl, hm, hmin⟩
    walk_at "dl"
    rw [List.length_map, List.take_length] at hmin
    exact h m hm hmin
theorem ok_greatest_of {P : Program} {w : World} {K : PySem.W.Frag} {mg : Str → Option Value} {base : Heap} (D : Def K mg "greatest_of" s_greatest_of) (h_is_below : Has P w K mg base "is_below" 1 ["one", "other"] (SpF K phi_is_below)) : Has P w K mg base "greatest_of" 2 ["some"] (SpF K phi_greatest_of) :=
  has_of D (fun _ _ F => F.binds (ps := ["some"]) fun _ _ _ _ _ _ us hl => match us, hl with | [_], _ => rfl) fun _ _ F => okF (N := n_greatest_of) (t := t_greatest_of K) F sc_greatest_of len_greatest_of (fun cdv A outer s H E hr =>
  (pss_cons (ps_set (i := 1) sc_greatest_of.nd rfl (by first | exact Or.inl rfl | exact Or.inr rfl) (pe_ix ix_seq (pv 0) pe_int (fun _ _ => rfl)))
  (pss_cons (ps_for PassesOwn.never rfl (pi_seq (pv 0)) (pg_name (i := 2) sc_greatest_of.nd rfl (by first | exact Or.inl rfl | exact Or.inr rfl)) (pss_one (ps_if (pt_val (pe_callH h_is_below (hr.mono (by decide)) (by rfl) (pa_cons (pv 1) (pa_cons (pv 2) pa_nil)))) (pss_one (ps_set (i := 1) sc_greatest_of.nd rfl (by first | exact Or.inl rfl | exact Or.inr rfl) (pv 2))) pss_nil)))
  (pss_one (ps_ret (pv 1)))))) ws_greatest_of
/-! ## _law_is_below -/
def phi_law_is_below (ds : List PyData) (R : Rs → Prop) : Prop := ∃ a b c d : Int, ds = [.tuple [.int a, .int b], .tuple [.int c, .int d]] ∧ (a.natAbs < 2 ^ 1000000 ∧ b.natAbs < 2 ^ 1000000) ∧ (c.natAbs < 2 ^ 1000000 ∧ d.natAbs < 2 ^ 1000000) ∧ R (.v (.bool (decide (ltF (a, b) (c, d)))))
theorem len_law_is_below : ∀ ds R, phi_law_is_below ds R → ds.length = 2 := fun ds R ⟨a, b, c, d, h, _⟩ => by rw [h]; rfl
abbrev s_law_is_below : Stmt := topS 14
abbrev n_law_is_below : List Str := ["_law_one", "_law_other"]
theorem sc_law_is_below : FnScope n_law_is_below ["_law_one", "_law_other"] (defScope s_law_is_below) := ⟨rfl, rfl, rfl, by decide +kernel, rfl, by decide +kernel, by decide +kernel⟩
def t_law_is_below (K : PySem.W.Frag) : TS := (tRet (tOp rLtI (tOp rMulA (tOp (rIx K) (tVar 0) (tC (.int 0))) (tOp (rIx K) (tVar 1) (tC (.int 1)))) (tOp rMulA (tOp (rIx K) (tVar 1) (tC (.int 0))) (tOp (rIx K) (tVar 0) (tC (.int 1))))))
theorem ws_law_is_below {K : PySem.W.Frag} (ds : List PyData) (R : Rs → Prop) : phi_law_is_below ds R → WS K (t_law_is_below K) (ds.map Ent.val ++ List.replicate (n_law_is_below.length - ds.length) .unk) { nx := fun _ => R (.v .none), rt := R } := by
  rintro ⟨a, b, c, d, rfl, ⟨h1, h2⟩, ⟨h3, h4⟩, h⟩
  show WS K (t_law_is_below K) [.val (.tuple [.int a, .int b]), .val (.tuple [.int c, .int d])] _
  unfold t_law_is_below
  walk_at "dl"
  · exact mulx_ok h1 h4 (by decide)
  · exact mulx_ok h3 h2 (by decide)
  · exact h
theorem ok_law_is_below {P : Program} {w : World} {K : PySem.W.Frag} {mg : Str → Option Value} {base : Heap} (D : Def K mg "_law_is_below" s_law_is_below) : Has P w K mg base "_law_is_below" 1 ["_law_one", "_law_other"] (SpF K phi_law_is_below) :=
  has_of D (fun _ _ F => F.binds (ps := ["_law_one", "_law_other"]) fun _ _ _ _ _ _ us hl => match us, hl with | [_, _], _ => rfl) fun _ _ F => okF (N := n_law_is_below) (t := t_law_is_below K) F sc_law_is_below len_law_is_below (fun cdv A outer s H E hr =>
  (pss_one (ps_ret (pe_cmpR op_lt (pe_op op_mulA (pe_ix ix_seq (pv 0) pe_int (fun _ _ => rfl)) (pe_ix ix_seq (pv 1) pe_int (fun _ _ => rfl))) (pe_op op_mulA (pe_ix ix_seq (pv 1) pe_int (fun _ _ => rfl)) (pe_ix ix_seq (pv 0) pe_int (fun _ _ => rfl))) (nomark _))))) ws_law_is_below
/-! ## _law_ends_right -/
def phi_law_ends_right (ds : List PyData) (R : Rs → Prop) : Prop := ∃ l : List Fr, ds = [.list (l.map frD)] ∧ l ≠ [] ∧ l.length ≤ 1000 ∧ (∀ x, x ∈ l → Fq 1000000 x) ∧ R (.v (.bool true))
theorem len_law_ends_right : ∀ ds R, phi_law_ends_right ds R → ds.length = 1 := fun ds R ⟨l, h, _⟩ => by rw [h]; rfl
abbrev s_law_ends_right : Stmt := topS 15
abbrev n_law_ends_right : List Str := ["_law_some_here", "_law_kept", "_law_low", "_law_high", "_law_one"]
theorem sc_law_ends_right : FnScope n_law_ends_right ["_law_some_here"] (defScope s_law_ends_right) := ⟨rfl, rfl, rfl, by decide +kernel, rfl, by decide +kernel, by decide +kernel⟩
def t_law_ends_right (K : PySem.W.Frag) : TS := (tSeq (tAsg (tCB (rListOf K) (tCons (tVar 0) tNil)) (gName 1))
  (tSeq (tAsg (tTup (tCons (tCall (SpF K phi_least_of) [] E0 (tCons (tVar 0) tNil)) (tCons (tCall (SpF K phi_greatest_of) [] E0 (tCons (tVar 0) tNil)) tNil))) (gTup K 2 (gCons (gName 2) (gCons (gName 3) gNil))))
  (tSeq (tIfS (tOr (tTest (tOp (rNotInD K) (tVar 2) (tVar 1))) (tOr (tTest (tOp (rNotInD K) (tVar 3) (tVar 1))) (tTest (tOp (rNeD K) (tVar 0) (tVar 1))))) (tRet (tC (.bl false))) tNext)
  (tRet (tNotV (tCB (rAny K) (tCons (tLc (iSeq K (tVar 1)) (gName 4) tYes (tOrV (tCall (SpF K phi_law_is_below) [] E0 (tCons (tVar 4) (tCons (tVar 2) tNil))) (tCall (SpF K phi_law_is_below) [] E0 (tCons (tVar 3) (tCons (tVar 4) tNil)))) [4]) tNil)))))))
theorem ws_law_ends_right {K : PySem.W.Frag} (ds : List PyData) (R : Rs → Prop) : phi_law_ends_right ds R → WS K (t_law_ends_right K) (ds.map Ent.val ++ List.replicate (n_law_ends_right.length - ds.length) .unk) { nx := fun _ => R (.v .none), rt := R } := by
  rintro ⟨l, rfl, hne, hlen, hall, h⟩
  show WS K (t_law_ends_right K) [.val (.list (l.map frD)), .unk, .unk, .unk, .unk] _
  unfold t_law_ends_right
  walk_at "dl"
  refine ⟨hne, hall, fun lo hlo hlo2 => ?_⟩
  walk_at "dl"
  refine ⟨hne, hall, fun hi hhi hhi2 => ?_⟩
  walk_at "dl"
  refine ⟨by show 2 ≤ 100000; decide, ?_⟩
  walk_at "dl"
  refine rd_notInD (shaped_fr lo) (shaped_frs l) ?_
  rw [any_fr, decide_eq_true hlo]
  walk_at "dl"
  refine rd_notInD (shaped_fr hi) (shaped_frs l) ?_
  rw [any_fr, decide_eq_true hhi]
  walk_at "dl"
  refine rd_neD (shaped_frs l) (shaped_frs l) ?_
  rw [eqv_listfr, decide_eq_true rfl]
  walk_at "dl"
  refine we_lcMap (fun _ => .bool false) rfl rfl ?_
  walk_at "dl"
  refine ⟨by rw [List.length_map]; omega, fun d hd => ?_, ?_⟩
  · obtain ⟨x, hx, rfl⟩ := List.mem_map.mp hd
    have qx := hall x hx
    have ql := hall lo hlo
    have qh := hall hi hhi
    walk_at "dl"
    refine ⟨x.1, x.2, lo.1, lo.2, rfl, ⟨qx.2.2.1, qx.2.2.2⟩, ⟨ql.2.2.1, ql.2.2.2⟩, _, rfl, ?_⟩
    rw [decide_eq_false (show ¬ ltF (x.1, x.2) (lo.1, lo.2) from hlo2 x hx)]
    walk_at "dl"
    refine ⟨hi.1, hi.2, x.1, x.2, rfl, ⟨qh.2.2.1, qh.2.2.2⟩, ⟨qx.2.2.1, qx.2.2.2⟩, ?_⟩
    rw [decide_eq_false (show ¬ ltF (hi.1, hi.2) (x.1, x.2) from hhi2 x hx)]
  · walk_at "dl"
    have e : List.map (fun _ => PyData.bool false) (l.map frD) = (l.map fun _ => false).map PyData.bool := by
      rw [List.map_map, List.map_map]
      rfl
    show CD K (rAny K) [.list (List.map (fun _ => PyData.bool false) (l.map frD))] _
    rw [e]
    refine cd_any ?_
    have e2 : (l.map fun _ => false).any id = false := by
      induction l with
      | nil => rfl
      | cons x r ih => simp
    rw [e2]
    walk_at "dl"
    exact h
theorem ok_law_ends_right {P : Program} {w : World} {K : PySem.W.Frag} {mg : Str → Option Value} {base : Heap} (D : Def K mg "_law_ends_right" s_law_ends_right) (h_greatest_of : Has P w K mg base "greatest_of" 2 ["some"] (SpF K phi_greatest_of)) (h_least_of : Has P w K mg base "least_of" 2 ["some"] (SpF K phi_least_of)) (h_law_is_below : Has P w K mg base "_law_is_below" 1 ["_law_one", "_law_other"] (SpF K phi_law_is_below)) (m_list : mg "list" = none) (m_any : mg "any" = none) : Has P w K mg base "_law_ends_right" 3 ["_law_some_here"] (SpF K phi_law_ends_right) :=
  has_of D (fun _ _ F => F.binds (ps := ["_law_some_here"]) fun _ _ _ _ _ _ us hl => match us, hl with | [_], _ => rfl) fun _ _ F => okF (N := n_law_ends_right) (t := t_law_ends_right K) F sc_law_ends_right len_law_ends_right (fun cdv A outer s H E hr =>
  (pss_cons (ps_set (i := 1) sc_law_ends_right.nd rfl (by first | exact Or.inl rfl | exact Or.inr rfl) (pe_callTy c_list (by rfl) m_list (by decide +kernel) (pa_cons (pv 0) pa_nil)))
  (pss_cons (ps_asg (pe_tup (pa_cons (pe_callH h_least_of (hr.mono (by decide)) (by rfl) (pa_cons (pv 0) pa_nil)) (pa_cons (pe_callH h_greatest_of (hr.mono (by decide)) (by rfl) (pa_cons (pv 0) pa_nil)) pa_nil))) (pg_tup rfl (pgs_cons (pg_name (i := 2) sc_law_ends_right.nd rfl (by first | exact Or.inl rfl | exact Or.inr rfl)) (pgs_cons (pg_name (i := 3) sc_law_ends_right.nd rfl (by first | exact Or.inl rfl | exact Or.inr rfl)) pgs_nil))))
  (pss_cons (ps_if (PW.pt (pw_or (pt_cmpR (op_notInD (room65 hr)) (pv 2) (pv 1) (by rfl)) (pw_or (pt_cmpR (op_notInD (room65 hr)) (pv 3) (pv 1) (by rfl)) (pw_or1 (pt_cmpR (op_neD hr.units) (pv 0) (pv 1) (nomark _)))))) (pss_one (ps_ret pe_bl)) pss_nil)
  (pss_one (ps_ret (pe_not (pe_callB (cr_any rfl) (by rfl) m_any (by decide +kernel) (pa_cons (pe_lc (own := [("_law_one", 4)]) (g := (gName 4)) (tt := tYes) (by rfl) sc_law_ends_right.nd (pi_seq (pv 1)) (blkOk_by (own := [("_law_one", 4)]) (N := n_law_ends_right) (sc := defScope s_law_ends_right) (by decide +kernel)) (fun _ _ _ _ _ => (pg_name (i := 4) sc_law_ends_right.nd rfl (by first | exact Or.inl rfl | exact Or.inr rfl))) (fun _ _ _ _ _ => pts_nil) (fun _ _ _ _ _ => (pe_or (pe_callH h_law_is_below (hr.mono (by decide)) (by rfl) (pa_cons (pv 4) (pa_cons (pv 2) pa_nil))) (pe_one (pe_callH h_law_is_below (hr.mono (by decide)) (by rfl) (pa_cons (pv 3) (pa_cons (pv 4) pa_nil))))))) pa_nil))))))))) ws_law_ends_right
/-! ## law -/
abbrev s_law : Stmt := topS 16
abbrev n_law : List Str := ["_law_script", "_law_cell_here", "_law_some_here", "_law_one", "_law_other", "_law_told"]
theorem sc_law : FnScope n_law ["_law_script"] (defScope s_law) := ⟨rfl, rfl, rfl, by decide +kernel, rfl, by decide +kernel, by decide +kernel⟩
def t_law (K : PySem.W.Frag) : TS := (tSeq (tFor (iSeq K (tSl (rSlL K) (tOp (rAddA K) (tVar 0) (tLst (tCons (tC (.int 0)) tNil))) tNoPart (tPart (tC (.int 6))))) (gName 1) (tSeq (tAsg (tCall (SpD K phi_law_some) [] E0 (tCons (tCall (SpF K phi_law_pot) [] E0 (tCons (tVar 1) tNil)) tNil)) (gName 2))
  (tSeq (tFor (iSeq K (tVar 2)) (gName 3) (tFor (iSeq K (tVar 2)) (gName 4) (tSeq (tAsg (tCall (SpF K phi_is_below) [] E0 (tCons (tVar 3) (tCons (tVar 4) tNil))) (gName 5))
  (tIfS (tOr (tNot (tB (tCB (rIsi K) (tCons (tVar 5) (tCons (tC (.ty "bool")) tNil))))) (tTest (tOp (rNeD K) (tVar 5) (tCall (SpF K phi_law_is_below) [] E0 (tCons (tVar 3) (tCons (tVar 4) tNil)))))) (tRet (tC (.bl false))) tNext))))
  (tIfS (tOr (tNot (tB (tCall (SpF K phi_law_ends_right) [] E0 (tCons (tVar 2) tNil)))) (tNot (tB (tCall (SpF K phi_law_ends_right) [] E0 (tCons (tRevL K (tVar 2)) tNil))))) (tRet (tC (.bl false))) tNext))))
  (tRet (tC (.bl true))))
theorem ws_law {K : PySem.W.Frag} (ds : List PyData) (R : Rs → Prop) : phi_law ds R → WS K (t_law K) (ds.map Ent.val ++ List.replicate (n_law.length - ds.length) .unk) { nx := fun _ => R (.v .none), rt := R } := by
  rintro ⟨ns, rfl, hlen, h⟩
  show WS K (t_law K) [.val (.list (ns.map PyData.int)), .unk, .unk, .unk, .unk, .unk] _
  unfold t_law
  refine ws_seq (ws_for (wi_seq (we_cells rfl hlen fun cs hcs => ⟨_, .inl rfl, fun _ Δ => ∃ e1 e2 e3 e4 e5, Δ = [.val (.list (ns.map PyData.int)), e1, e2, e3, e4, e5], ⟨_, _, _, _, _, rfl⟩, ?_, ?_⟩)))
  · rintro i d Δ' hd ⟨e1, e2, e3, e4, e5, rfl⟩
    obtain ⟨c, hc, rfl⟩ := get_map hd
    walk_at "dl"
    intro x y hx hy hy2
    refine ⟨x, y, rfl, hx, hy, hy2, rfl, fun l l1 l2 hall => ?_⟩
    have big : ∀ x, x ∈ l → Fq 1000000 x := fun x hx => (hall x hx).mono (by decide)
    have hne : l ≠ [] := fun e => by rw [e] at l1; simp at l1
    walk_at "dl"
    refine ⟨fun _ Δ => ∃ e3 e4 e5, Δ = [.val (.list (ns.map PyData.int)), .val (.int c), .val (.list (l.map frD)), e3, e4, e5], ⟨_, _, _, rfl⟩, ?_, ?_⟩
    · rintro i1 d1 Δ1 hd1 ⟨e3, e4, e5, rfl⟩
      obtain ⟨u, hu, rfl⟩ := get_map hd1
      have qu := big u (List.mem_of_getElem? hu)
      walk_at "dl"
      refine ⟨fun _ Δ => ∃ e4 e5, Δ = [.val (.list (ns.map PyData.int)), .val (.int c), .val (.list (l.map frD)), .val (frD u), e4, e5], ⟨_, _, rfl⟩, ?_, ?_⟩
      · rintro i2 d2 Δ2 hd2 ⟨e4, e5, rfl⟩
        obtain ⟨v, hv, rfl⟩ := get_map hd2
        have qv := big v (List.mem_of_getElem? hv)
        walk_at "dl"
        refine ⟨u.1, u.2, v.1, v.2, rfl, ⟨qu.2.2.1, qu.2.2.2⟩, ⟨qv.2.2.1, qv.2.2.2⟩, ?_⟩
        walk_at "dl"
        refine ⟨u.1, u.2, v.1, v.2, rfl, ⟨qu.2.2.1, qu.2.2.2⟩, ⟨qv.2.2.1, qv.2.2.2⟩, ?_⟩
        walk_at "dl"
        rw [decide_eq_true rfl]
        walk_at "dl"
        exact ⟨_, _, rfl⟩
      · rintro Δ2 ⟨e4, e5, rfl⟩
        exact ⟨_, _, _, rfl⟩
    · rintro Δ1 ⟨e3, e4, e5, rfl⟩
      walk_at "dl"
      refine ⟨hne, by omega, big, ?_⟩
      walk_at "dl"
      rw [← List.map_reverse]
      refine ⟨l.reverse, rfl, fun e => hne (by simpa using e), by rw [List.length_reverse]; omega, fun x hx => big x (List.mem_reverse.mp hx), ?_⟩
      walk_at "dl"
      exact ⟨_, _, _, _, _, rfl⟩
  · rintro Δ' ⟨e1, e2, e3, e4, e5, rfl⟩
    walk_at "dl"
    exact h
theorem ok_law_fn {P : Program} {w : World} {K : PySem.W.Frag} {mg : Str → Option Value} {base : Heap} {f : Addr} {fd : FuncData} (F : Fun K "law" "law" s_law f fd) (h_law_some : Has P w K mg base "_law_some" 5 ["_law_pot_here"] (SpD K phi_law_some)) (h_law_pot : Has P w K mg base "_law_pot" 1 ["_law_cell_here"] (SpF K phi_law_pot)) (h_is_below : Has P w K mg base "is_below" 1 ["one", "other"] (SpF K phi_is_below)) (h_law_is_below : Has P w K mg base "_law_is_below" 1 ["_law_one", "_law_other"] (SpF K phi_law_is_below)) (h_law_ends_right : Has P w K mg base "_law_ends_right" 3 ["_law_some_here"] (SpF K phi_law_ends_right)) (m_isinstance : mg "isinstance" = none) (m_bool : mg "bool" = none) : FnOk P w K mg base CX0 6 f fd ["_law_script"] (SpF K phi_law) :=
  okF (N := n_law) (t := t_law K) F sc_law len_law (fun cdv A outer s H E hr =>
  (pss_cons (ps_for PassesOwn.never rfl (pi_seq (pe_slice sl_list (pe_op op_addA (pv 0) (pe_lst (pa_cons pe_int pa_nil))) po_none (po_some pe_int))) (pg_name (i := 1) sc_law.nd rfl (by first | exact Or.inl rfl | exact Or.inr rfl)) (pss_cons (ps_set (i := 2) sc_law.nd rfl (by first | exact Or.inl rfl | exact Or.inr rfl) (pe_callH h_law_some (hr.mono (by decide)) (by rfl) (pa_cons (pe_callH h_law_pot (hr.mono (by decide)) (by rfl) (pa_cons (pv 1) pa_nil)) pa_nil)))
  (pss_cons (ps_for PassesOwn.never rfl (pi_seq (pv 2)) (pg_name (i := 3) sc_law.nd rfl (by first | exact Or.inl rfl | exact Or.inr rfl)) (pss_one (ps_for PassesOwn.never rfl (pi_seq (pv 2)) (pg_name (i := 4) sc_law.nd rfl (by first | exact Or.inl rfl | exact Or.inr rfl)) (pss_cons (ps_set (i := 5) sc_law.nd rfl (by first | exact Or.inl rfl | exact Or.inr rfl) (pe_callH h_is_below (hr.mono (by decide)) (by rfl) (pa_cons (pv 3) (pa_cons (pv 4) pa_nil))))
  (pss_one (ps_if (PW.pt (pw_or (pt_not (pt_val (pe_callB call_isi (by rfl) m_isinstance (by decide +kernel) (pa_cons (pv 5) (pa_cons (pe_bltn (v := .ty "bool") (by rfl) m_bool (by decide +kernel) rfl) pa_nil))))) (pw_or1 (pt_cmpR (op_neD hr.units) (pv 5) (pe_callH h_law_is_below (hr.mono (by decide)) (by rfl) (pa_cons (pv 3) (pa_cons (pv 4) pa_nil))) (nomark _))))) (pss_one (ps_ret pe_bl)) pss_nil))))))
  (pss_one (ps_if (PW.pt (pw_or (pt_not (pt_val (pe_callH h_law_ends_right (hr.mono (by decide)) (by rfl) (pa_cons (pv 2) pa_nil)))) (pw_or1 (pt_not (pt_val (pe_callH h_law_ends_right (hr.mono (by decide)) (by rfl) (pa_cons (pe_revL (pv 2)) pa_nil))))))) (pss_one (ps_ret pe_bl)) pss_nil)))))
  (pss_one (ps_ret pe_bl)))) ws_law
theorem all_mk {l : PySem.W.OpenLaw} {w : World} {K : PySem.W.Frag} {h : Heap} {mg : Str → Option Value} {fa : Addr} (X : K.In h) (G : h.Ns mainGlobals mg) (hfa : mg "law" = some (.ref fa))
    {od0 an0 : Option Addr} {sl0 : Array (Option Value)} {oc0 kV0 dc0 pm0 cd0 ct0 : Value} {f0 : Addr} {od1 an1 : Option Addr} {sl1 : Array (Option Value)} {oc1 kV1 dc1 pm1 cd1 ct1 : Value} {f1 : Addr} {od2 an2 : Option Addr} {sl2 : Array (Option Value)} {oc2 kV2 dc2 pm2 cd2 ct2 : Value} {f2 : Addr} {od3 an3 : Option Addr} {sl3 : Array (Option Value)} {oc3 kV3 dc3 pm3 cd3 ct3 : Value} {f3 : Addr} {od4 an4 : Option Addr} {sl4 : Array (Option Value)} {oc4 kV4 dc4 pm4 cd4 ct4 : Value} {f4 : Addr} {od5 an5 : Option Addr} {sl5 : Array (Option Value)} {oc5 kV5 dc5 pm5 cd5 ct5 : Value} {f5 : Addr} {od6 an6 : Option Addr} {sl6 : Array (Option Value)} {oc6 kV6 dc6 pm6 cd6 ct6 : Value} {f6 : Addr} {od7 an7 : Option Addr} {sl7 : Array (Option Value)} {oc7 kV7 dc7 pm7 cd7 ct7 : Value} {f7 : Addr} {od8 an8 : Option Addr} {sl8 : Array (Option Value)} {oc8 kV8 dc8 pm8 cd8 ct8 : Value} {f8 : Addr} {od9 an9 : Option Addr} {sl9 : Array (Option Value)} {oc9 kV9 dc9 pm9 cd9 ct9 : Value} {f9 : Addr} {od10 an10 : Option Addr} {sl10 : Array (Option Value)} {oc10 kV10 dc10 pm10 cd10 ct10 : Value} {f10 : Addr} {od11 an11 : Option Addr} {sl11 : Array (Option Value)} {oc11 kV11 dc11 pm11 cd11 ct11 : Value} {f11 : Addr} {od12 an12 : Option Addr} {sl12 : Array (Option Value)} {oc12 kV12 dc12 pm12 cd12 ct12 : Value} {f12 : Addr} {od13 an13 : Option Addr} {sl13 : Array (Option Value)} {oc13 kV13 dc13 pm13 cd13 ct13 : Value} {f13 : Addr} 
    (a0 : PySem.W.nsIn K mainGlobals "_law_draw" = some (some (.ref f0))) (l0 : K.lookup f0 = some ⟨oc0, od0, .func (PySem.W.fnOf "_law_draw" "_law_draw" (defArgs s_law_draw) (defBody s_law_draw) (defScope s_law_draw) .none kV0 dc0 pm0 an0 cd0 ct0), sl0⟩) (c0 : PySem.W.codeIn K cd0 "_law_draw" = true) (k0 : PySem.W.keepIn K (.ref f0) = true) 
    (a1 : PySem.W.nsIn K mainGlobals "_law_great" = some (some (.ref f1))) (l1 : K.lookup f1 = some ⟨oc1, od1, .func (PySem.W.fnOf "_law_great" "_law_great" (defArgs s_law_great) (defBody s_law_great) (defScope s_law_great) .none kV1 dc1 pm1 an1 cd1 ct1), sl1⟩) (c1 : PySem.W.codeIn K cd1 "_law_great" = true) (k1 : PySem.W.keepIn K (.ref f1) = true) 
    (a2 : PySem.W.nsIn K mainGlobals "_law_number" = some (some (.ref f2))) (l2 : K.lookup f2 = some ⟨oc2, od2, .func (PySem.W.fnOf "_law_number" "_law_number" (defArgs s_law_number) (defBody s_law_number) (defScope s_law_number) .none kV2 dc2 pm2 an2 cd2 ct2), sl2⟩) (c2 : PySem.W.codeIn K cd2 "_law_number" = true) (k2 : PySem.W.keepIn K (.ref f2) = true) 
    (a3 : PySem.W.nsIn K mainGlobals "_law_divisor" = some (some (.ref f3))) (l3 : K.lookup f3 = some ⟨oc3, od3, .func (PySem.W.fnOf "_law_divisor" "_law_divisor" (defArgs s_law_divisor) (defBody s_law_divisor) (defScope s_law_divisor) .none kV3 dc3 pm3 an3 cd3 ct3), sl3⟩) (c3 : PySem.W.codeIn K cd3 "_law_divisor" = true) (k3 : PySem.W.keepIn K (.ref f3) = true) 
    (a4 : PySem.W.nsIn K mainGlobals "_law_lowest" = some (some (.ref f4))) (l4 : K.lookup f4 = some ⟨oc4, od4, .func (PySem.W.fnOf "_law_lowest" "_law_lowest" (defArgs s_law_lowest) (defBody s_law_lowest) (defScope s_law_lowest) .none kV4 dc4 pm4 an4 cd4 ct4), sl4⟩) (c4 : PySem.W.codeIn K cd4 "_law_lowest" = true) (k4 : PySem.W.keepIn K (.ref f4) = true) 
    (a5 : PySem.W.nsIn K mainGlobals "_law_fraction" = some (some (.ref f5))) (l5 : K.lookup f5 = some ⟨oc5, od5, .func (PySem.W.fnOf "_law_fraction" "_law_fraction" (defArgs s_law_fraction) (defBody s_law_fraction) (defScope s_law_fraction) .none kV5 dc5 pm5 an5 cd5 ct5), sl5⟩) (c5 : PySem.W.codeIn K cd5 "_law_fraction" = true) (k5 : PySem.W.keepIn K (.ref f5) = true) 
    (a6 : PySem.W.nsIn K mainGlobals "_law_some" = some (some (.ref f6))) (l6 : K.lookup f6 = some ⟨oc6, od6, .func (PySem.W.fnOf "_law_some" "_law_some" (defArgs s_law_some) (defBody s_law_some) (defScope s_law_some) .none kV6 dc6 pm6 an6 cd6 ct6), sl6⟩) (c6 : PySem.W.codeIn K cd6 "_law_some" = true) (k6 : PySem.W.keepIn K (.ref f6) = true) 
    (a7 : PySem.W.nsIn K mainGlobals "_law_pot" = some (some (.ref f7))) (l7 : K.lookup f7 = some ⟨oc7, od7, .func (PySem.W.fnOf "_law_pot" "_law_pot" (defArgs s_law_pot) (defBody s_law_pot) (defScope s_law_pot) .none kV7 dc7 pm7 an7 cd7 ct7), sl7⟩) (c7 : PySem.W.codeIn K cd7 "_law_pot" = true) (k7 : PySem.W.keepIn K (.ref f7) = true) 
    (a8 : PySem.W.nsIn K mainGlobals "is_below" = some (some (.ref f8))) (l8 : K.lookup f8 = some ⟨oc8, od8, .func (PySem.W.fnOf "is_below" "is_below" (defArgs s_is_below) (defBody s_is_below) (defScope s_is_below) .none kV8 dc8 pm8 an8 cd8 ct8), sl8⟩) (c8 : PySem.W.codeIn K cd8 "is_below" = true) (k8 : PySem.W.keepIn K (.ref f8) = true) 
    (a9 : PySem.W.nsIn K mainGlobals "least_of" = some (some (.ref f9))) (l9 : K.lookup f9 = some ⟨oc9, od9, .func (PySem.W.fnOf "least_of" "least_of" (defArgs s_least_of) (defBody s_least_of) (defScope s_least_of) .none kV9 dc9 pm9 an9 cd9 ct9), sl9⟩) (c9 : PySem.W.codeIn K cd9 "least_of" = true) (k9 : PySem.W.keepIn K (.ref f9) = true) 
    (a10 : PySem.W.nsIn K mainGlobals "greatest_of" = some (some (.ref f10))) (l10 : K.lookup f10 = some ⟨oc10, od10, .func (PySem.W.fnOf "greatest_of" "greatest_of" (defArgs s_greatest_of) (defBody s_greatest_of) (defScope s_greatest_of) .none kV10 dc10 pm10 an10 cd10 ct10), sl10⟩) (c10 : PySem.W.codeIn K cd10 "greatest_of" = true) (k10 : PySem.W.keepIn K (.ref f10) = true) 
    (a11 : PySem.W.nsIn K mainGlobals "_law_is_below" = some (some (.ref f11))) (l11 : K.lookup f11 = some ⟨oc11, od11, .func (PySem.W.fnOf "_law_is_below" "_law_is_below" (defArgs s_law_is_below) (defBody s_law_is_below) (defScope s_law_is_below) .none kV11 dc11 pm11 an11 cd11 ct11), sl11⟩) (c11 : PySem.W.codeIn K cd11 "_law_is_below" = true) (k11 : PySem.W.keepIn K (.ref f11) = true) 
    (a12 : PySem.W.nsIn K mainGlobals "_law_ends_right" = some (some (.ref f12))) (l12 : K.lookup f12 = some ⟨oc12, od12, .func (PySem.W.fnOf "_law_ends_right" "_law_ends_right" (defArgs s_law_ends_right) (defBody s_law_ends_right) (defScope s_law_ends_right) .none kV12 dc12 pm12 an12 cd12 ct12), sl12⟩) (c12 : PySem.W.codeIn K cd12 "_law_ends_right" = true) (k12 : PySem.W.keepIn K (.ref f12) = true) 
    (a13 : PySem.W.nsIn K mainGlobals "law" = some (some (.ref f13))) (l13 : K.lookup f13 = some ⟨oc13, od13, .func (PySem.W.fnOf "law" "law" (defArgs s_law) (defBody s_law) (defScope s_law) .none kV13 dc13 pm13 an13 cd13 ct13), sl13⟩) (c13 : PySem.W.codeIn K cd13 "law" = true) (k13 : PySem.W.keepIn K (.ref f13) = true) 
    (z_divmod : PySem.W.nsIn K mainGlobals "divmod" = some none) 
    (z_range : PySem.W.nsIn K mainGlobals "range" = some none) 
    (z_abs : PySem.W.nsIn K mainGlobals "abs" = some none) 
    (z_len : PySem.W.nsIn K mainGlobals "len" = some none) 
    (z_max : PySem.W.nsIn K mainGlobals "max" = some none) 
    (z_list : PySem.W.nsIn K mainGlobals "list" = some none) 
    (z_any : PySem.W.nsIn K mainGlobals "any" = some none) 
    (z_isinstance : PySem.W.nsIn K mainGlobals "isinstance" = some none) 
    (z_bool : PySem.W.nsIn K mainGlobals "bool" = some none) :
    ∃ fd : FuncData, (∀ (s : Shared) (v : Value), BindsTo s fd ⟨[v], []⟩ [("_law_script", v)]) ∧ ∀ base : Heap, K.In base → base.Ns mainGlobals mg → FnOk l.prog w K mg base CX0 6 fa fd ["_law_script"] (spLaw K) := by
  have e := hfa.symm.trans (PySem.W.mg_of X G a13)
  cases e
  have m_divmod : mg "divmod" = none := PySem.W.mg_none_of X G z_divmod
  have m_range : mg "range" = none := PySem.W.mg_none_of X G z_range
  have m_abs : mg "abs" = none := PySem.W.mg_none_of X G z_abs
  have m_len : mg "len" = none := PySem.W.mg_none_of X G z_len
  have m_max : mg "max" = none := PySem.W.mg_none_of X G z_max
  have m_list : mg "list" = none := PySem.W.mg_none_of X G z_list
  have m_any : mg "any" = none := PySem.W.mg_none_of X G z_any
  have m_isinstance : mg "isinstance" = none := PySem.W.mg_none_of X G z_isinstance
  have m_bool : mg "bool" = none := PySem.W.mg_none_of X G z_bool
  have D_law_draw : Def K mg "_law_draw" s_law_draw := ⟨f0, _, fun_mk (st := s_law_draw) l0 c0 k0, PySem.W.mg_of X G a0⟩
  have D_law_great : Def K mg "_law_great" s_law_great := ⟨f1, _, fun_mk (st := s_law_great) l1 c1 k1, PySem.W.mg_of X G a1⟩
  have D_law_number : Def K mg "_law_number" s_law_number := ⟨f2, _, fun_mk (st := s_law_number) l2 c2 k2, PySem.W.mg_of X G a2⟩
  have D_law_divisor : Def K mg "_law_divisor" s_law_divisor := ⟨f3, _, fun_mk (st := s_law_divisor) l3 c3 k3, PySem.W.mg_of X G a3⟩
  have D_law_lowest : Def K mg "_law_lowest" s_law_lowest := ⟨f4, _, fun_mk (st := s_law_lowest) l4 c4 k4, PySem.W.mg_of X G a4⟩
  have D_law_fraction : Def K mg "_law_fraction" s_law_fraction := ⟨f5, _, fun_mk (st := s_law_fraction) l5 c5 k5, PySem.W.mg_of X G a5⟩
  have D_law_some : Def K mg "_law_some" s_law_some := ⟨f6, _, fun_mk (st := s_law_some) l6 c6 k6, PySem.W.mg_of X G a6⟩
  have D_law_pot : Def K mg "_law_pot" s_law_pot := ⟨f7, _, fun_mk (st := s_law_pot) l7 c7 k7, PySem.W.mg_of X G a7⟩
  have D_is_below : Def K mg "is_below" s_is_below := ⟨f8, _, fun_mk (st := s_is_below) l8 c8 k8, PySem.W.mg_of X G a8⟩
  have D_least_of : Def K mg "least_of" s_least_of := ⟨f9, _, fun_mk (st := s_least_of) l9 c9 k9, PySem.W.mg_of X G a9⟩
  have D_greatest_of : Def K mg "greatest_of" s_greatest_of := ⟨f10, _, fun_mk (st := s_greatest_of) l10 c10 k10, PySem.W.mg_of X G a10⟩
  have D_law_is_below : Def K mg "_law_is_below" s_law_is_below := ⟨f11, _, fun_mk (st := s_law_is_below) l11 c11 k11, PySem.W.mg_of X G a11⟩
  have D_law_ends_right : Def K mg "_law_ends_right" s_law_ends_right := ⟨f12, _, fun_mk (st := s_law_ends_right) l12 c12 k12, PySem.W.mg_of X G a12⟩
  refine ⟨PySem.W.fnOf "law" "law" (defArgs s_law) (defBody s_law) (defScope s_law) .none kV13 dc13 pm13 an13 cd13 ct13, fun s v => .of_eq rfl, fun base _ _ => ?_⟩
  have h_law_draw := ok_law_draw (P := l.prog) (w := w) (base := base) D_law_draw m_divmod
  have h_law_great := ok_law_great (P := l.prog) (w := w) (base := base) D_law_great h_law_draw m_range
  have h_law_number := ok_law_number (P := l.prog) (w := w) (base := base) D_law_number h_law_draw h_law_great
  have h_law_divisor := ok_law_divisor (P := l.prog) (w := w) (base := base) D_law_divisor m_abs
  have h_law_lowest := ok_law_lowest (P := l.prog) (w := w) (base := base) D_law_lowest h_law_divisor
  have h_law_fraction := ok_law_fraction (P := l.prog) (w := w) (base := base) D_law_fraction h_law_number h_law_draw h_law_lowest
  have h_law_some := ok_law_some (P := l.prog) (w := w) (base := base) D_law_some h_law_fraction h_law_draw m_range m_len
  have h_law_pot := ok_law_pot (P := l.prog) (w := w) (base := base) D_law_pot m_abs m_max
  have h_is_below := ok_is_below (P := l.prog) (w := w) (base := base) D_is_below
  have h_least_of := ok_least_of (P := l.prog) (w := w) (base := base) D_least_of h_is_below
  have h_greatest_of := ok_greatest_of (P := l.prog) (w := w) (base := base) D_greatest_of h_is_below
  have h_law_is_below := ok_law_is_below (P := l.prog) (w := w) (base := base) D_law_is_below
  have h_law_ends_right := ok_law_ends_right (P := l.prog) (w := w) (base := base) D_law_ends_right h_greatest_of h_least_of h_law_is_below m_list m_any
  exact ok_law_fn (fun_mk (st := s_law) l13 c13 k13) h_law_some h_law_pot h_is_below h_law_is_below h_law_ends_right m_isinstance m_bool
end My
open PySem PySem.W PyProof.Rows
set_option maxRecDepth 100000 in
set_option maxHeartbeats 0 in
theorem PySem.Challenge.cw_risingmeans_k13_least_and_greatest_holds : PySem.Challenge.rw_risingmeans_k13_least_and_greatest.Holds := by
  w_on; o_law; k_head; (case hw => w_witness2)
  k_fill
  refine L2.walk_of (l := PySem.Challenge.rw_risingmeans_k13_least_and_greatest) (n := 63) (k := 6) (x := "_law_script") (CX := fun _ => L2.CX0) (sp := fun w => DL.spLaw _) rfl (by decide) rfl ⟨rfl, by decide, by decide⟩ (fun w h Y => PySem.W.kIn_of Y) ?F (fun _ H a ns hl hO hS => DL.law_start H a ns hl hS) (fun _ _ _ _ _ h => h)
  case F =>
    intro w mg fa h KX G hmg
    refine' My.all_mk KX G hmg ?a0 ?l0 ?c0 ?k0 ?a1 ?l1 ?c1 ?k1 ?a2 ?l2 ?c2 ?k2 ?a3 ?l3 ?c3 ?k3 ?a4 ?l4 ?c4 ?k4 ?a5 ?l5 ?c5 ?k5 ?a6 ?l6 ?c6 ?k6 ?a7 ?l7 ?c7 ?k7 ?a8 ?l8 ?c8 ?k8 ?a9 ?l9 ?c9 ?k9 ?a10 ?l10 ?c10 ?k10 ?a11 ?l11 ?c11 ?k11 ?a12 ?l12 ?c12 ?k12 ?a13 ?l13 ?c13 ?k13 ?z_divmod ?z_range ?z_abs ?z_len ?z_max ?z_list ?z_any ?z_isinstance ?z_bool
    (case a0 => k_is)
    (case l0 => k_is)
    (case c0 => k_is)
    (case k0 => k_is)
    (case a1 => k_is)
    (case l1 => k_is)
    (case c1 => k_is)
    (case k1 => k_is)
    (case a2 => k_is)
    (case l2 => k_is)
    (case c2 => k_is)
    (case k2 => k_is)
    (case a3 => k_is)
    (case l3 => k_is)
    (case c3 => k_is)
    (case k3 => k_is)
    (case a4 => k_is)
    (case l4 => k_is)
    (case c4 => k_is)
    (case k4 => k_is)
    (case a5 => k_is)
    (case l5 => k_is)
    (case c5 => k_is)
    (case k5 => k_is)
    (case a6 => k_is)
    (case l6 => k_is)
    (case c6 => k_is)
    (case k6 => k_is)
    (case a7 => k_is)
    (case l7 => k_is)
    (case c7 => k_is)
    (case k7 => k_is)
    (case a8 => k_is)
    (case l8 => k_is)
    (case c8 => k_is)
    (case k8 => k_is)
    (case a9 => k_is)
    (case l9 => k_is)
    (case c9 => k_is)
    (case k9 => k_is)
    (case a10 => k_is)
    (case l10 => k_is)
    (case c10 => k_is)
    (case k10 => k_is)
    (case a11 => k_is)
    (case l11 => k_is)
    (case c11 => k_is)
    (case k11 => k_is)
    (case a12 => k_is)
    (case l12 => k_is)
    (case c12 => k_is)
    (case k12 => k_is)
    (case a13 => k_is)
    (case l13 => k_is)
    (case c13 => k_is)
    (case k13 => k_is)
    (case z_divmod => k_is)
    (case z_range => k_is)
    (case z_abs => k_is)
    (case z_len => k_is)
    (case z_max => k_is)
    (case z_list => k_is)
    (case z_any => k_is)
    (case z_isinstance => k_is)
    (case z_bool => k_is)
#print axioms PySem.Challenge.cw_risingmeans_k13_least_and_greatest_holds
