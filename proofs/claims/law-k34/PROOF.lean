import PyProof.Rows.All
import Wide.All
import OpenK.AllK
import Wide.FinOn
import KE.KStateDown
import HandS.ForMost
import HandS.ForExc
import HandS.More
import HandS.Defaults
import HandS.Evl
import HandS.Flow
import HandS.Style
import HandS.IsInst
import HandS.Zip
import HandS.DictComp
import HandS.Deep
import HandS.TupLe
import HandS.TupAny
import HandS.HeadHook4
import HandS.HeadWalk
import PySem.Challenge.RW_evenlags_k34_whole_any_text
import HandS.Head0
import HandS.Head1
import HandS.Head2
import HandS.HeadEnd
import HandS.ExcField
import KE.KExcPX
import KE.KTryMore
import KE.KExcIs
import HandS.Strs
import HandS.Text
import HandS.Lambda
import KE.DataCmp
import HandS.ExcInit
import HandS.SetFor
import HandS.SortInts
import HandS.TryMany
import HandS.ExcOwn
import HandS.ExcIs
import KE.KeyNested
import HandS.TupSets
import KE.SortData
import HandS.Small
import HandS.Conv
import HandS.RaiseMore
import PyProof.ReprLen
import PyProof.ReprRoads
import HandS.EndTab
set_option Elab.async false
set_option linter.all false
set_option maxRecDepth 100000
set_option maxHeartbeats 0
namespace Ev
open PySem PySem.Spec PyProof.Rows L2 Evl
/-! ### the text by places -/
abbrev prg : Program := PySem.Challenge.pw_evenlags_k34_whole_any_text
def top (i : Nat) : Stmt := prg.main.body.getD i (.Pass ⟨0, 0, 0, 0⟩)
abbrev Kf := PySem.W.Frag
/-! ### data read in a heap stays read -/
section
variable {K : Kf} {H H' : Hp}
mutual
theorem dp_ex (e : Ex H H') : ∀ (d : PyData) (v : V), Dp K H v d → Dp K H' v d
  | .none, _, h => by cases h; exact .non
  | .bool _, _, h => by cases h; exact .bl _
  | .int _, _, h => by cases h; exact .int _
  | .str _, _, h => by cases h; exact .str _
  | .list ds, _, h => by
    cases h with
    | lst hs ha => exact .lst (ex_l e hs) (dpa_ex e ds _ ha)
  | .tuple ds, _, h => by
    cases h with
    | tup hs ha => exact .tup (ex_t e hs) (dpa_ex e ds _ ha)
  | .dict _, _, h => by cases h
theorem dpa_ex (e : Ex H H') : ∀ (ds : List PyData) (vs : List V), DpAll K H vs ds → DpAll K H' vs ds
  | [], _, h => by cases h; exact .nil
  | d :: ds, _, h => by
    cases h with
    | cons h1 h2 => exact .cons (dp_ex e d _ h1) (dpa_ex e ds _ h2)
end
theorem _root_.L2.Dp.ex {v : V} {d : PyData} (h : Dp K H v d) (e : Ex H H') : Dp K H' v d := dp_ex e d v h
theorem _root_.L2.DpAll.ex {vs : List V} {ds : List PyData} (h : DpAll K H vs ds) (e : Ex H H') : DpAll K H' vs ds := dpa_ex e ds vs h
theorem dp_non {v : V} (h : Dp K H v .none) : v = .non := by cases h; rfl
theorem dp_bl {v : V} {b : Bool} (h : Dp K H v (.bool b)) : v = .bl b := by cases h; rfl
theorem dp_int {v : V} {i : Int} (h : Dp K H v (.int i)) : v = .int i := by cases h; rfl
theorem dp_str {v : V} {x : Str} (h : Dp K H v (.str x)) : v = .str x := by cases h; rfl
theorem dp_list {v : V} {ds : List PyData} (h : Dp K H v (.list ds)) : ∃ a xs, v = .ref a ∧ SqL K H a xs ∧ DpAll K H xs ds := by
  cases h with
  | lst hs ha => exact ⟨_, _, rfl, hs, ha⟩
theorem dp_tup {v : V} {ds : List PyData} (h : Dp K H v (.tuple ds)) : ∃ a xs, v = .ref a ∧ SqT K H a xs ∧ DpAll K H xs ds := by
  cases h with
  | tup hs ha => exact ⟨_, _, rfl, hs, ha⟩
theorem dpq_len : ∀ {vs : List V} {ds : List PyData}, DpAll K H vs ds → vs.length = ds.length
  | _, [], h => by cases h; rfl
  | _, d :: ds, h => by
    cases h with
    | cons h1 h2 => rw [List.length_cons, List.length_cons, dpq_len h2]
theorem dpq_get : ∀ {ds : List PyData} {vs : List V} {i : Nat} {d : PyData}, DpAll K H vs ds → ds[i]? = some d → ∃ v, vs[i]? = some v ∧ Dp K H v d
  | [], _, _, _, _, e => by simp at e
  | d :: ds, _, 0, x, h, e => by
    cases h with
    | cons h1 h2 =>
      have e' : d = x := Option.some.inj e
      subst e'
      exact ⟨_, rfl, h1⟩
  | d :: ds, _, i + 1, x, h, e => by
    cases h with
    | cons h1 h2 =>
      obtain ⟨v, a, b⟩ := dpq_get (i := i) h2 (by simpa using e)
      exact ⟨v, by simpa using a, b⟩
theorem _root_.L2.DpAll.len {vs : List V} {ds : List PyData} (h : DpAll K H vs ds) : vs.length = ds.length := dpq_len h
theorem _root_.L2.DpAll.get {ds : List PyData} {vs : List V} {i : Nat} {d : PyData} (h : DpAll K H vs ds) (e : ds[i]? = some d) : ∃ v, vs[i]? = some v ∧ Dp K H v d := dpq_get h e
theorem _root_.L2.DpAll.getV : ∀ {ds : List PyData} {vs : List V} {i : Nat} {v : V}, DpAll K H vs ds → vs[i]? = some v → ∃ d, ds[i]? = some d ∧ Dp K H v d := by
  intro ds vs i v h e
  have hl := h.len
  have hi : i < ds.length := by
    rw [← hl]
    exact (List.getElem?_eq_some_iff.mp e).1
  obtain ⟨v', a, b⟩ := h.get (List.getElem?_eq_getElem hi)
  rw [e] at a
  cases a
  exact ⟨_, List.getElem?_eq_getElem hi, b⟩
theorem dpq_append : ∀ {ds es : List PyData} {vs ws : List V}, DpAll K H vs ds → DpAll K H ws es → DpAll K H (vs ++ ws) (ds ++ es)
  | [], _, _, _, h, g => by cases h; exact g
  | d :: ds, _, _, _, h, g => by
    cases h with
    | cons h1 h2 => exact .cons h1 (dpq_append h2 g)
theorem dpq_drop : ∀ {ds : List PyData} {vs : List V} (n : Nat), DpAll K H vs ds → DpAll K H (vs.drop n) (ds.drop n)
  | _, _, 0, h => h
  | [], _, n + 1, h => by cases h; exact .nil
  | d :: ds, _, n + 1, h => by
    cases h with
    | cons h1 h2 => exact dpq_drop n h2
theorem dpq_take : ∀ {ds : List PyData} {vs : List V} (n : Nat), DpAll K H vs ds → DpAll K H (vs.take n) (ds.take n)
  | _, _, 0, h => .nil
  | [], _, n + 1, h => by cases h; exact .nil
  | d :: ds, _, n + 1, h => by
    cases h with
    | cons h1 h2 => exact .cons h1 (dpq_take n h2)
theorem dpq_reverse : ∀ {ds : List PyData} {vs : List V}, DpAll K H vs ds → DpAll K H vs.reverse ds.reverse
  | [], _, h => by cases h; exact .nil
  | d :: ds, _, h => by
    cases h with
    | cons h1 h2 =>
      rw [List.reverse_cons, List.reverse_cons]
      exact dpq_append (dpq_reverse h2) (.cons h1 .nil)
theorem dpq_set {v : V} {d : PyData} (hd : Dp K H v d) : ∀ {ds : List PyData} {vs : List V} (n : Nat), DpAll K H vs ds → DpAll K H (vs.set n v) (ds.set n d)
  | [], _, n, h => by cases h; exact .nil
  | e :: ds, _, 0, h => by
    cases h with
    | cons h1 h2 => exact .cons hd h2
  | e :: ds, _, n + 1, h => by
    cases h with
    | cons h1 h2 => exact .cons h1 (dpq_set hd n h2)
theorem _root_.L2.DpAll.append {ds es : List PyData} {vs ws : List V} (h : DpAll K H vs ds) (g : DpAll K H ws es) : DpAll K H (vs ++ ws) (ds ++ es) := dpq_append h g
theorem _root_.L2.DpAll.drop {ds : List PyData} {vs : List V} (h : DpAll K H vs ds) (n : Nat) : DpAll K H (vs.drop n) (ds.drop n) := dpq_drop n h
theorem _root_.L2.DpAll.take {ds : List PyData} {vs : List V} (h : DpAll K H vs ds) (n : Nat) : DpAll K H (vs.take n) (ds.take n) := dpq_take n h
theorem _root_.L2.DpAll.reverse {ds : List PyData} {vs : List V} (h : DpAll K H vs ds) : DpAll K H vs.reverse ds.reverse := dpq_reverse h
theorem _root_.L2.DpAll.set {ds : List PyData} {vs : List V} {v : V} {d : PyData} (h : DpAll K H vs ds) (hd : Dp K H v d) (n : Nat) : DpAll K H (vs.set n v) (ds.set n d) := dpq_set hd n h
theorem dpa_strs : ∀ (xs : List Str), DpAll K H (xs.map V.str) (xs.map PyData.str)
  | [] => .nil
  | x :: xs => .cons (.str x) (dpa_strs xs)
theorem dpa_ints : ∀ (xs : List Int), DpAll K H (xs.map V.int) (xs.map PyData.int)
  | [] => .nil
  | x :: xs => .cons (.int x) (dpa_ints xs)
theorem dpa_strs_eq : ∀ {xs : List Str} {vs : List V}, DpAll K H vs (xs.map PyData.str) → vs = xs.map V.str
  | [], _, h => by cases h; rfl
  | x :: xs, _, h => by
    cases h with
    | cons h1 h2 => rw [dp_str h1, dpa_strs_eq h2] <;> rfl
theorem dpa_ints_eq : ∀ {xs : List Int} {vs : List V}, DpAll K H vs (xs.map PyData.int) → vs = xs.map V.int
  | [], _, h => by cases h; rfl
  | x :: xs, _, h => by
    cases h with
    | cons h1 h2 => rw [dp_int h1, dpa_ints_eq h2] <;> rfl
theorem dpa_bls_eq : ∀ {xs : List Bool} {vs : List V}, DpAll K H vs (xs.map PyData.bool) → vs = xs.map V.bl
  | [], _, h => by cases h; rfl
  | x :: xs, _, h => by
    cases h with
    | cons h1 h2 => rw [dp_bl h1, dpa_bls_eq h2] <;> rfl
/-- the type of data -/
def tyD : PyData → String
  | .none => "NoneType"
  | .bool _ => "bool"
  | .int _ => "int"
  | .str _ => "str"
  | .list _ => "list"
  | .tuple _ => "tuple"
  | .dict _ => "dict"
theorem tyx_of {v : V} {d : PyData} (h : Dp K H v d) : TyX K H v (.type (tyD d)) := by
  cases h with
  | non => exact .base .non
  | bl b => exact .base (.bl b)
  | int i => exact .base (.int i)
  | str x => exact .base (.str x)
  | lst hs ha =>
    rcases hs with (hs | ⟨o, hs⟩) | ⟨o, its, n, hk, hc, _⟩
    · exact .base (.lst hs)
    · exact .base (.frz hs)
    · exact .kList hk hc
  | tup hs ha =>
    rcases hs with (hs | ⟨o, hs⟩) | ⟨o, its, n, hk, hc, _⟩
    · exact .base (.tup hs)
    · exact .fTuple hs
    · exact .kTuple hk hc
end
/-! ### what evaluates to which data; A: the part of the heap that is known, V: the part on which the answer lives -/
/-- V lives on A and on what is new behind H -/
def Gr (A H V : Hp) : Prop := ∀ b, V b ≠ Option.none → A b ≠ Option.none ∨ H b = Option.none
def Out (K : Kf) (d : PyData) (A H : Hp) (Q : VK) : Prop := ∀ v H1 V, Ex H H1 → Ex V H1 → Gr A H V → Dp K V v d → Q v H1
def Outs (K : Kf) (ds : List PyData) (A H : Hp) (Q : List V → Hp → Prop) : Prop := ∀ vs H1 V, Ex H H1 → Ex V H1 → Gr A H V → DpAll K V vs ds → Q vs H1
def EvD (K : Kf) (te : TE) (σ : L2.St) (A : Hp) (d : PyData) : Prop := ∀ H, Ex A H → ∀ Q : VK, Out K d A H Q → te σ H Q
def EvDs (K : Kf) (ta : TA) (σ : L2.St) (A : Hp) (ds : List PyData) : Prop := ∀ H, Ex A H → ∀ Q : List V → Hp → Prop, Outs K ds A H Q → ta σ H Q
/-- both parts -/
def un (V W : Hp) : Hp := fun b => match V b with
  | some o => some o
  | Option.none => W b
theorem un_l {V W : Hp} : Ex V (un V W) := fun b o h => by
  unfold un
  rw [h]
theorem un_r {V W H : Hp} (a : Ex V H) (b : Ex W H) : Ex W (un V W) := fun c o h => by
  unfold un
  cases e : V c with
  | none => exact h
  | some u =>
    have h1 := a c u e
    have h2 := b c o h
    rw [h1] at h2
    exact h2
theorem un_ex {V W H : Hp} (a : Ex V H) (b : Ex W H) : Ex (un V W) H := fun c o h => by
  unfold un at h
  cases e : V c with
  | none =>
    rw [e] at h
    exact b c o h
  | some u =>
    rw [e] at h
    rw [← h]
    exact a c u e
theorem un_or {V W : Hp} {b : Addr} (h : un V W b ≠ Option.none) : V b ≠ Option.none ∨ W b ≠ Option.none := by
  unfold un at h
  cases e : V b with
  | none =>
    rw [e] at h
    exact .inr h
  | some u => exact .inl (by simp)
theorem none_back {H H' : Hp} {b : Addr} (e : Ex H H') (h : H' b = Option.none) : H b = Option.none := fresh_back e h
theorem ne_fwd {H H' : Hp} {b : Addr} (e : Ex H H') (h : H b ≠ Option.none) : H' b ≠ Option.none := fun z => h (none_back e z)
theorem Gr.self {A H : Hp} : Gr A H A := fun _ h => .inl h
theorem Gr.new {A H : Hp} {p : Addr} {o : HO} (hp : H p = Option.none) : Gr A H (upd A p o) := fun b hb => by
  by_cases e : b = p
  · rw [e]
    exact .inr hp
  · rw [upd_ne e] at hb
    exact .inl hb
/-- a step: the heap grows from H to H1, what is known from A to A1 -/
structure Gw (A H A1 H1 : Hp) : Prop where
  h : Ex H H1
  a : Ex A A1
  k : Ex A1 H1
  g : Gr A H A1
theorem Gw.refl {A H : Hp} (e : Ex A H) : Gw A H A H := ⟨Ex.refl _, Ex.refl _, e, .self⟩
theorem Gw.trans {A H A1 H1 A2 H2 : Hp} (x : Gw A H A1 H1) (y : Gw A1 H1 A2 H2) : Gw A H A2 H2 := ⟨x.h.trans y.h, x.a.trans y.a, y.k, fun b hb => by
  rcases y.g b hb with z | z
  · exact x.g b z
  · exact .inr (none_back x.h z)⟩
theorem Gw.grow {A H H1 : Hp} (e : Ex A H) (h : Ex H H1) : Gw A H A H1 := ⟨h, Ex.refl _, e.trans h, .self⟩
theorem Gw.new {A H : Hp} {p : Addr} {o : HO} (e : Ex A H) (hp : H p = Option.none) : Gw A H (upd A p o) (upd H p o) := ⟨Ex.new hp, Ex.new (none_back e hp), fun b u hb => by
  by_cases z : b = p
  · rw [z, upd_same] at hb ⊢
    exact hb
  · rw [upd_ne z] at hb ⊢
    exact e b u hb, Gr.new hp⟩
/-- an answer's part joined to what is known -/
theorem Gw.join {A H H1 V : Hp} (e : Ex A H) (h : Ex H H1) (hv : Ex V H1) (g : Gr A H V) : Gw A H (un A V) H1 := ⟨h, un_l, un_ex (e.trans h) hv, fun b hb => by
  rcases un_or hb with z | z
  · exact .inl z
  · exact g b z⟩
theorem Out.mono {K : Kf} {d : PyData} {A H A1 H1 : Hp} {Q : VK} (q : Out K d A H Q) (x : Gw A H A1 H1) : Out K d A1 H1 Q := fun v H2 V h hv g hd => q v H2 V (x.h.trans h) hv (fun b hb => by
  rcases g b hb with z | z
  · exact x.g b z
  · exact .inr (none_back x.h z)) hd
theorem Out.go {K : Kf} {d : PyData} {A H A1 H1 : Hp} {Q : VK} {v : V} (q : Out K d A H Q) (x : Gw A H A1 H1) (hd : Dp K A1 v d) : Q v H1 := q v H1 A1 x.h x.k x.g hd
theorem Out.of {K : Kf} {d : PyData} {A H : Hp} {Q : VK} (q : ∀ v H1, Ex H H1 → Dp K H1 v d → Q v H1) : Out K d A H Q := fun v H1 V h hv _ hd => q v H1 h (hd.ex hv)
theorem Out.use {K : Kf} {d : PyData} {A H : Hp} {Q : VK} (e : Ex A H) (q : ∀ v A1 H1, Gw A H A1 H1 → Dp K A1 v d → Q v H1) : Out K d A H Q := fun v H1 V h hv g hd => q v _ H1 (Gw.join e h hv g) (hd.ex (un_r (e.trans h) hv))
theorem Outs.use {K : Kf} {ds : List PyData} {A H : Hp} {Q : List V → Hp → Prop} (e : Ex A H) (q : ∀ vs A1 H1, Gw A H A1 H1 → DpAll K A1 vs ds → Q vs H1) : Outs K ds A H Q := fun v H1 V h hv g hd => q v _ H1 (Gw.join e h hv g) (hd.ex (un_r (e.trans h) hv))
section
variable {K : Kf} {σ : L2.St} {A A' H H' : Hp} {ta tb te tc : TE} {t u : TT} {d e : PyData} {r : R2}
/-- EvD from a known part on -/
theorem ed_mk (h : ∀ H, Ex A H → ∀ Q : VK, (∀ v A1 H1, Gw A H A1 H1 → Dp K A1 v d → Q v H1) → te σ H Q) : EvD K te σ A d := fun H a Q q => h H a Q fun v A1 H1 x hd => q v H1 A1 x.h x.k x.g hd
theorem EvD.run (h : EvD K te σ A d) (a : Ex A H) {Q : VK} (q : ∀ v A1 H1, Gw A H A1 H1 → Dp K A1 v d → Q v H1) : te σ H Q := h H a Q (Out.use a q)
theorem EvDs.run {tr : TA} {ds : List PyData} (h : EvDs K tr σ A ds) (a : Ex A H) {Q : List V → Hp → Prop} (q : ∀ vs A1 H1, Gw A H A1 H1 → DpAll K A1 vs ds → Q vs H1) : tr σ H Q := h H a Q (Outs.use a q)
theorem EvD.mono (h : EvD K te σ A d) (e : Ex A A') : EvD K te σ A' d := fun H a Q q => h H (e.trans a) Q fun v H1 V h1 hv g hd => q v H1 V h1 hv (fun b hb => by
  rcases g b hb with z | z
  · exact .inl (ne_fwd e z)
  · exact .inr z) hd
theorem EvDs.mono {tr : TA} {ds : List PyData} (h : EvDs K tr σ A ds) (e : Ex A A') : EvDs K tr σ A' ds := fun H a Q q => h H (e.trans a) Q fun v H1 V h1 hv g hd => q v H1 V h1 hv (fun b hb => by
  rcases g b hb with z | z
  · exact .inl (ne_fwd e z)
  · exact .inr z) hd
theorem EvD.is (h : EvD K te σ A d) (he : d = e) : EvD K te σ A e := he ▸ h
theorem ed_of {v : V} (h : Ev te σ A v) (hd : Dp K A v d) : EvD K te σ A d := ed_mk fun H a Q q => h H a Q fun H2 a2 => q v A H2 (Gw.grow a a2) hd
theorem EvD.int {i : Int} (h : EvD K te σ A (.int i)) : Ev te σ A (.int i) := fun H1 a Q q => h.run a fun v A1 H2 x hd => by
  rw [dp_int hd]
  exact q H2 x.h
theorem EvD.str {x : Str} (h : EvD K te σ A (.str x)) : Ev te σ A (.str x) := fun H1 a Q q => h.run a fun v A1 H2 x hd => by
  rw [dp_str hd]
  exact q H2 x.h
theorem EvD.bl {b : Bool} (h : EvD K te σ A (.bool b)) : Ev te σ A (.bl b) := fun H1 a Q q => h.run a fun v A1 H2 x hd => by
  rw [dp_bl hd]
  exact q H2 x.h
theorem EvD.non (h : EvD K te σ A .none) : Ev te σ A .non := fun H1 a Q q => h.run a fun v A1 H2 x hd => by
  rw [dp_non hd]
  exact q H2 x.h
theorem ed_var {i : Nat} {v : V} (h : σ[i]? = some (some v)) (hd : Dp K A v d) : EvD K (tVar i) σ A d := ed_of (ev_var h) hd
theorem ed_i {i : Int} : EvD K (tC (.int i)) σ A (.int i) := ed_of ev_c (.int i)
theorem ed_s {x : Str} : EvD K (tC (.str x)) σ A (.str x) := ed_of ev_c (.str x)
theorem ed_b {b : Bool} : EvD K (tC (.bl b)) σ A (.bool b) := ed_of ev_c (.bl b)
theorem ed_n : EvD K (tC .non) σ A .none := ed_of ev_c .non
/-- an operation on two pieces of data -/
def RD (K : Kf) (r : R2) (d e z : PyData) : Prop := ∀ x y A H, Ex A H → Dp K A x d → Dp K A y e → ∀ Q : VK, (∀ v A1 H1, Gw A H A1 H1 → Dp K A1 v z → Q v H1) → r x y H Q
theorem ed_op {z : PyData} (ha : EvD K ta σ A d) (hb : EvD K tb σ A e) (hr : RD K r d e z) : EvD K (tOp r ta tb) σ A z := ed_mk fun H a Q q =>
  ha.run a fun x A1 H1 w1 hx => (hb.mono w1.a).run w1.k fun y A2 H2 w2 hy => hr x y A2 H2 w2.k (hx.ex w2.a) hy Q fun v A3 H3 w3 hv => q v A3 H3 ((w1.trans w2).trans w3) hv
theorem rd_v {z : V} {zd : PyData} (hr : ∀ x y A H, Ex A H → Dp K A x d → Dp K A y e → ∀ Q : VK, Q z H → r x y H Q) (hz : ∀ A, Dp K A z zd) : RD K r d e zd := fun x y A H a hx hy Q q => hr x y A H a hx hy Q (q z A H (Gw.refl a) (hz A))
theorem rd_I0 {g : Int → Int → V} {i j : Int} {z : PyData} (hz : ∀ A, Dp K A (g i j) z) : RD K (rI0 g) (.int i) (.int j) z := rd_v (z := g i j) (fun x y A H a hx hy Q q => by
  rw [dp_int hx, dp_int hy]
  exact ⟨i, j, rfl, rfl, q⟩) hz
theorem rd_I {C : Int → Int → Prop} {g : Int → Int → V} {i j : Int} {z : PyData} (hc : C i j) (hz : ∀ A, Dp K A (g i j) z) : RD K (rI C g) (.int i) (.int j) z := rd_v (z := g i j) (fun x y A H a hx hy Q q => by
  rw [dp_int hx, dp_int hy]
  exact ⟨i, j, rfl, rfl, hc, q⟩) hz
theorem ed_add {i j : Int} (ha : EvD K ta σ A (.int i)) (hb : EvD K tb σ A (.int j)) : EvD K (tOp (rI0 fun i j => .int (i + j)) ta tb) σ A (.int (i + j)) := ed_op ha hb (rd_I0 fun _ => .int _)
theorem ed_sub {i j : Int} (ha : EvD K ta σ A (.int i)) (hb : EvD K tb σ A (.int j)) : EvD K (tOp (rI0 fun i j => .int (i - j)) ta tb) σ A (.int (i - j)) := ed_op ha hb (rd_I0 fun _ => .int _)
/-- a comparison of ints -/
theorem ed_cmp {p : Int → Int → Bool} {i j : Int} (ha : EvD K ta σ A (.int i)) (hb : EvD K tb σ A (.int j)) : EvD K (tOp (rI0 fun i j => .bl (p i j)) ta tb) σ A (.bool (p i j)) := ed_op ha hb (rd_I0 fun _ => .bl _)
theorem ed_eqI {i j : Int} (ha : EvD K ta σ A (.int i)) (hb : EvD K tb σ A (.int j)) : EvD K (tOp rEq ta tb) σ A (.bool (decide (i = j))) := ed_op ha hb (rd_v (z := .bl (decide (i = j))) (fun x y A H a hx hy Q q => by
  rw [dp_int hx, dp_int hy]
  have e : decide (V.int i = V.int j) = decide (i = j) := by simp
  exact ⟨rfl, by rw [e]; exact q⟩) fun _ => .bl _)
theorem ed_neI {i j : Int} (ha : EvD K ta σ A (.int i)) (hb : EvD K tb σ A (.int j)) : EvD K (tOp rNe ta tb) σ A (.bool (!decide (i = j))) := ed_op ha hb (rd_v (z := .bl (!decide (i = j))) (fun x y A H a hx hy Q q => by
  rw [dp_int hx, dp_int hy]
  have e : decide (V.int i = V.int j) = decide (i = j) := by simp
  exact ⟨rfl, by rw [e]; exact q⟩) fun _ => .bl _)
theorem ed_eqS {i j : Str} (ha : EvD K ta σ A (.str i)) (hb : EvD K tb σ A (.str j)) : EvD K (tOp rEq ta tb) σ A (.bool (decide (i = j))) := ed_op ha hb (rd_v (z := .bl (decide (i = j))) (fun x y A H a hx hy Q q => by
  rw [dp_str hx, dp_str hy]
  have e : decide (V.str i = V.str j) = decide (i = j) := by simp
  exact ⟨rfl, by rw [e]; exact q⟩) fun _ => .bl _)
theorem ed_neS {i j : Str} (ha : EvD K ta σ A (.str i)) (hb : EvD K tb σ A (.str j)) : EvD K (tOp rNe ta tb) σ A (.bool (!decide (i = j))) := ed_op ha hb (rd_v (z := .bl (!decide (i = j))) (fun x y A H a hx hy Q q => by
  rw [dp_str hx, dp_str hy]
  have e : decide (V.str i = V.str j) = decide (i = j) := by simp
  exact ⟨rfl, by rw [e]; exact q⟩) fun _ => .bl _)
/-- tests -/
theorem et_d {b : Bool} (h : EvD K te σ A (.bool b)) : EvT (tTest te) σ A b := et_test h.bl
theorem et_dB {b : Bool} (h : EvD K te σ A (.bool b)) : EvT (tB te) σ A b := et_B h.bl
theorem ed_and {a b : Bool} (h1 : EvD K ta σ A (.bool a)) (h2 : a = true → EvD K tb σ A (.bool b)) : EvD K (tAndV ta tb) σ A (.bool (a && b)) := ed_of (ev_andV h1.bl fun h => (h2 h).bl) (.bl _)
theorem ed_or {a b : Bool} (h1 : EvD K ta σ A (.bool a)) (h2 : a = false → EvD K tb σ A (.bool b)) : EvD K (tOrV ta tb) σ A (.bool (a || b)) := ed_of (ev_orV h1.bl fun h => (h2 h).bl) (.bl _)
theorem ed_not {a : Bool} (h1 : EvD K ta σ A (.bool a)) : EvD K (tNotV ta) σ A (.bool (!a)) := ed_of (ev_notV h1.bl) (.bl _)
theorem ed_if {b : Bool} (h : EvT t σ A b) (h1 : b = true → EvD K ta σ A d) (h2 : b = false → EvD K tb σ A d) : EvD K (tIf t ta tb) σ A d := ed_mk fun H a Q q => h H a _ fun H2 a2 => by
  cases b with
  | true =>
    show ta σ H2 Q
    exact (h1 rfl).run (a.trans a2) fun v A3 H3 w hv => q v A3 H3 ((Gw.grow a a2).trans w) hv
  | false =>
    show tb σ H2 Q
    exact (h2 rfl).run (a.trans a2) fun v A3 H3 w hv => q v A3 H3 ((Gw.grow a a2).trans w) hv
theorem ed_chain {r' : R2} {f : PyData} {k : Bool} (ha : EvD K ta σ A d) (hb : EvD K tb σ A e) (hc : EvD K tc σ A f) (hr : RD K r d e (.bool k)) (k' : Bool) (hr' : k = true → RD K r' e f (.bool k')) :
    EvD K (tChain r r' ta tb tc) σ A (.bool (k && k')) := ed_mk fun H a Q q =>
  ha.run a fun x A1 H1 w1 hx => (hb.mono w1.a).run w1.k fun y A2 H2 w2 hy => hr x y A2 H2 w2.k (hx.ex w2.a) hy _ fun v A3 H3 w3 hv => ⟨k, dp_bl hv, by
    have w13 := (w1.trans w2).trans w3
    cases k with
    | true =>
      show tc σ H3 fun w' H5 => r' y w' H5 Q
      exact (hc.mono w13.a).run w13.k fun z A4 H4 w4 hz => hr' rfl y z A4 H4 w4.k (hy.ex (w3.a.trans w4.a)) hz Q fun v A5 H5 w5 hv => q v A5 H5 ((w13.trans w4).trans w5) hv
    | false =>
      show Q (.bl false) H3
      exact q _ A3 H3 w13 (.bl _)⟩
/-- argument lists, displays -/
theorem eds_mk {tr : TA} {ds : List PyData} (h : ∀ H, Ex A H → ∀ Q : List V → Hp → Prop, (∀ vs A1 H1, Gw A H A1 H1 → DpAll K A1 vs ds → Q vs H1) → tr σ H Q) : EvDs K tr σ A ds := fun H a Q q => h H a Q fun v A1 H1 x hd => q v H1 A1 x.h x.k x.g hd
theorem eds_nil : EvDs K tNil σ A [] := eds_mk fun H a Q q => q [] A H (Gw.refl a) .nil
theorem eds_cons {tr : TA} {ds : List PyData} (h : EvD K te σ A d) (hr : EvDs K tr σ A ds) : EvDs K (tCons te tr) σ A (d :: ds) := eds_mk fun H a Q q =>
  h.run a fun v A1 H1 w1 hv => (hr.mono w1.a).run w1.k fun vs A2 H2 w2 hvs => q _ A2 H2 (w1.trans w2) (.cons (hv.ex w2.a) hvs)
theorem ed_tup {tr : TA} {ds : List PyData} (h : EvDs K tr σ A ds) (hl : ds.length ≤ 100000) : EvD K (tTup tr) σ A (.tuple ds) := ed_mk fun H a Q q =>
  h.run a fun vs A1 H1 w1 hvs => ⟨by rw [hvs.len]; exact sz_of hl, fun p hp => q _ _ _ (w1.trans (Gw.new w1.k hp)) (.tup (st_of upd_same) (hvs.ex (Ex.new (none_back w1.k hp))))⟩
theorem ed_lst {tr : TA} {ds : List PyData} (h : EvDs K tr σ A ds) (hl : ds.length ≤ 100000) : EvD K (tLst tr) σ A (.list ds) := ed_mk fun H a Q q =>
  h.run a fun vs A1 H1 w1 hvs => ⟨by rw [hvs.len]; exact sz_of hl, fun p hp => q _ _ _ (w1.trans (Gw.new w1.k hp)) (.lst (sq_of upd_same) (hvs.ex (Ex.new (none_back w1.k hp))))⟩
/-- a call: of a def by its promise on data, of a built-in -/
theorem ed_call {sp : Sp} {E : XK} {tr : TA} {ds : List PyData} (h : EvDs K tr σ A ds) (hs : ∀ vs A1 H1, Ex A A1 → Ex A1 H1 → DpAll K A1 vs ds → ∀ Q : VK, Out K d A1 H1 Q → sp vs H1 Q E) : EvD K (tCall sp [] E tr) σ A d := ed_mk fun H a Q q =>
  h.run a fun vs A1 H1 w1 hvs => by
    rw [List.append_nil]
    exact hs vs A1 H1 w1.a w1.k hvs Q (Out.use w1.k fun v A2 H2 w2 hv => q v A2 H2 (w1.trans w2) hv)
theorem ed_cb {r : List V → Hp → VK → Prop} {tr : TA} {ds : List PyData} (h : EvDs K tr σ A ds) (hs : ∀ vs A1 H1, Ex A A1 → Ex A1 H1 → DpAll K A1 vs ds → ∀ Q : VK, (∀ v A2 H2, Gw A1 H1 A2 H2 → Dp K A2 v d → Q v H2) → r vs H1 Q) : EvD K (tCB r tr) σ A d := ed_mk fun H a Q q =>
  h.run a fun vs A1 H1 w1 hvs => hs vs A1 H1 w1.a w1.k hvs Q fun v A2 H2 w2 hv => q v A2 H2 (w1.trans w2) hv
/-- one argument, two -/
theorem dpa1 {vs : List V} (h : DpAll K A vs [d]) : ∃ v, vs = [v] ∧ Dp K A v d := by
  cases h with
  | cons h1 h2 =>
    cases h2
    exact ⟨_, rfl, h1⟩
theorem dpa2 {vs : List V} (h : DpAll K A vs [d, e]) : ∃ v w, vs = [v, w] ∧ Dp K A v d ∧ Dp K A w e := by
  cases h with
  | cons h1 h2 =>
    obtain ⟨w, rfl, hw⟩ := dpa1 h2
    exact ⟨_, w, rfl, h1, hw⟩
theorem dpa3 {f : PyData} {vs : List V} (h : DpAll K A vs [d, e, f]) : ∃ v w x, vs = [v, w, x] ∧ Dp K A v d ∧ Dp K A w e ∧ Dp K A x f := by
  cases h with
  | cons h1 h2 =>
    obtain ⟨w, x, rfl, hw, hx⟩ := dpa2 h2
    exact ⟨_, w, x, rfl, h1, hw, hx⟩
theorem dpa4 {f g : PyData} {vs : List V} (h : DpAll K A vs [d, e, f, g]) : ∃ v w x y, vs = [v, w, x, y] ∧ Dp K A v d ∧ Dp K A w e ∧ Dp K A x f ∧ Dp K A y g := by
  cases h with
  | cons h1 h2 =>
    obtain ⟨w, x, y, rfl, hw, hx, hy⟩ := dpa3 h2
    exact ⟨_, w, x, y, rfl, h1, hw, hx, hy⟩
/-- subscripts -/
theorem atI_dp {xs : List V} {ds : List PyData} {i : Int} (h : DpAll K A xs ds) (ha : atI ds i = some d) : ∃ v, atI xs i = some v ∧ Dp K A v d := by
  unfold atI at ha ⊢
  rw [h.len]
  cases hj : ixN ds.length i with
  | none =>
    rw [hj] at ha
    cases ha
  | some j =>
    rw [hj] at ha
    exact h.get ha
theorem rd_ixL {ds : List PyData} {i : Int} (ha : atI ds i = some d) : RD K (rIxL K) (.list ds) (.int i) d := fun x y A H a hx hy Q q => by
  obtain ⟨p, xs, rfl, hs, hxs⟩ := dp_list hx
  obtain ⟨v, hv, hd⟩ := atI_dp hxs ha
  rw [dp_int hy]
  exact ⟨p, xs, i, v, rfl, rfl, ex_l a hs, hv, q v A H (Gw.refl a) hd⟩
theorem rd_ixT {ds : List PyData} {i : Int} (ha : atI ds i = some d) : RD K (rIxT K) (.tuple ds) (.int i) d := fun x y A H a hx hy Q q => by
  obtain ⟨p, xs, rfl, hs, hxs⟩ := dp_tup hx
  obtain ⟨v, hv, hd⟩ := atI_dp hxs ha
  rw [dp_int hy]
  exact ⟨p, xs, i, v, rfl, rfl, ex_t a hs, hv, q v A H (Gw.refl a) hd⟩
theorem ed_ixL {ds : List PyData} {i : Int} (ha : EvD K ta σ A (.list ds)) (hb : EvD K tb σ A (.int i)) (h : atI ds i = some d) : EvD K (tOp (rIxL K) ta tb) σ A d := ed_op ha hb (rd_ixL h)
theorem ed_ixT {ds : List PyData} {i : Int} (ha : EvD K ta σ A (.tuple ds)) (hb : EvD K tb σ A (.int i)) (h : atI ds i = some d) : EvD K (tOp (rIxT K) ta tb) σ A d := ed_op ha hb (rd_ixT h)
/-- the first sign of a text, any sign -/
theorem ed_ixS {z : Str} {i : Int} {c : Nat} (ha : EvD K ta σ A (.str z)) (hb : EvD K tb σ A (.int i)) (hl : z.length ≤ 100000) (h : atI z.cps.toList i = some c) : EvD K (tOp rIxS ta tb) σ A (.str ⟨#[c]⟩) := ed_op ha hb (rd_v (z := .str ⟨#[c]⟩) (fun x y A H a hx hy Q q => by
  rw [dp_str hx, dp_int hy]
  exact ⟨z, i, c, rfl, rfl, sz_of hl, h, q⟩) fun _ => .str _)
/-- len -/
abbrev rLenQ (K : Kf) : List V → Hp → VK → Prop := fun xs H Q => ∃ p ys, xs = [V.ref p] ∧ (SqL K H p ys ∨ SqT K H p ys) ∧ Q (.int ys.length) H
abbrev rLenZ : List V → Hp → VK → Prop := fun xs H Q => ∃ z, xs = [V.str z] ∧ z.length ≤ sizeLine ∧ Q (.int z.length) H
theorem ed_lenL {ds : List PyData} (ha : EvD K ta σ A (.list ds)) : EvD K (tCB (rLenQ K) (tCons ta tNil)) σ A (.int ds.length) := ed_cb (eds_cons ha eds_nil) fun vs A1 H1 a k hvs Q q => by
  obtain ⟨v, rfl, hv⟩ := dpa1 hvs
  obtain ⟨p, xs, rfl, hs, hxs⟩ := dp_list hv
  refine ⟨p, xs, rfl, .inl (ex_l k hs), ?_⟩
  rw [hxs.len]
  exact q _ A1 H1 (Gw.refl k) (.int _)
theorem ed_lenT {ds : List PyData} (ha : EvD K ta σ A (.tuple ds)) : EvD K (tCB (rLenQ K) (tCons ta tNil)) σ A (.int ds.length) := ed_cb (eds_cons ha eds_nil) fun vs A1 H1 a k hvs Q q => by
  obtain ⟨v, rfl, hv⟩ := dpa1 hvs
  obtain ⟨p, xs, rfl, hs, hxs⟩ := dp_tup hv
  refine ⟨p, xs, rfl, .inr (ex_t k hs), ?_⟩
  rw [hxs.len]
  exact q _ A1 H1 (Gw.refl k) (.int _)
theorem ed_lenS {z : Str} (ha : EvD K ta σ A (.str z)) (hl : z.length ≤ 100000) : EvD K (tCB rLenZ (tCons ta tNil)) σ A (.int z.length) := ed_cb (eds_cons ha eds_nil) fun vs A1 H1 a k hvs Q q => by
  obtain ⟨v, rfl, hv⟩ := dpa1 hvs
  rw [dp_str hv]
  exact ⟨z, rfl, sz_of hl, q _ A1 H1 (Gw.refl k) (.int _)⟩
/-- isinstance(x, T), T a built-in type -/
theorem ed_isi {T : String} {b : Bool} (ha : EvD K ta σ A d) (hk : kitB (tyD d) T = some b) : EvD K (tCB (rIsi K) (tCons ta (tCons (tC (.ty T)) tNil))) σ A (.bool b) := ed_mk fun H a Q q =>
  ha.run a fun v A2 H2 w hv => ⟨v, .ty T, .type (tyD d), .type T, b, rfl, .ty T, tyx_of (hv.ex w.k), kit_ty hk, q _ A2 H2 w (.bl b)⟩
/-- tuple(xs), list(t) -/
abbrev rTupOf (K : Kf) : List V → Hp → VK → Prop := fun xs H Q => ∃ p ys, xs = [V.ref p] ∧ ((SqL K H p ys ∧ ∀ l, H l = Option.none → Q (.ref l) (upd H l (.tup ys))) ∨ (SqT K H p ys ∧ Q (.ref p) H))
abbrev rLstOf (K : Kf) : List V → Hp → VK → Prop := fun xs H Q => ∃ p ys, xs = [V.ref p] ∧ (SqL K H p ys ∨ SqT K H p ys) ∧ ∀ l, H l = Option.none → Q (.ref l) (upd H l (.lst ys))
theorem ed_tupL {ds : List PyData} (ha : EvD K ta σ A (.list ds)) : EvD K (tCB (rTupOf K) (tCons ta tNil)) σ A (.tuple ds) := ed_cb (eds_cons ha eds_nil) fun vs A1 H1 a k hvs Q q => by
  obtain ⟨v, rfl, hv⟩ := dpa1 hvs
  obtain ⟨p, xs, rfl, hs, hxs⟩ := dp_list hv
  exact ⟨p, xs, rfl, .inl ⟨ex_l k hs, fun l hl => q _ _ _ (Gw.new k hl) (.tup (st_of upd_same) (hxs.ex (Ex.new (none_back k hl))))⟩⟩
theorem ed_lstT {ds : List PyData} (ha : EvD K ta σ A (.tuple ds)) : EvD K (tCB (rLstOf K) (tCons ta tNil)) σ A (.list ds) := ed_cb (eds_cons ha eds_nil) fun vs A1 H1 a k hvs Q q => by
  obtain ⟨v, rfl, hv⟩ := dpa1 hvs
  obtain ⟨p, xs, rfl, hs, hxs⟩ := dp_tup hv
  exact ⟨p, xs, rfl, .inr (ex_t k hs), fun l hl => q _ _ _ (Gw.new k hl) (.lst (sq_of upd_same) (hxs.ex (Ex.new (none_back k hl))))⟩
/-- all(list of bools) -/
theorem ed_all {bs : List Bool} (ha : EvD K ta σ A (.list (bs.map PyData.bool))) : EvD K (tCB (rAll K) (tCons ta tNil)) σ A (.bool (bs.all id)) := ed_cb (eds_cons ha eds_nil) fun vs A1 H1 a k hvs Q q => by
  obtain ⟨v, rfl, hv⟩ := dpa1 hvs
  obtain ⟨p, xs, rfl, hs, hxs⟩ := dp_list hv
  rw [dpa_bls_eq hxs] at hs
  exact ⟨p, bs, rfl, ex_l k hs, q _ A1 H1 (Gw.refl k) (.bl _)⟩
/-- slices -/
def cutG {α : Type} (xs : List α) (lo hi : Option Int) : List α := (xs.drop (HT.sIx xs.length 0 lo)).take (HT.sIx xs.length xs.length hi - HT.sIx xs.length 0 lo)
theorem dpa_cut {xs : List V} {ds : List PyData} (h : DpAll K A xs ds) (lo hi : Option Int) : DpAll K A (cutV xs lo hi) (cutG ds lo hi) := by
  unfold cutV cutG
  rw [h.len]
  exact (h.drop _).take _
theorem ed_slL {ds : List PyData} {tl th : TO} {lo hi : Option Int} (ha : EvD K ta σ A (.list ds)) (h1 : EvO tl σ A lo) (h2 : EvO th σ A hi) : EvD K (tSl (rSlL K) ta tl th) σ A (.list (cutG ds lo hi)) := ed_mk fun H a Q q =>
  ha.run a fun v A2 H2 w hv => h1 H2 (a.trans w.h) _ fun H3 a3 => h2 H3 ((a.trans w.h).trans a3) _ fun H4 a4 => by
    obtain ⟨p, xs, rfl, hs, hxs⟩ := dp_list hv
    have w4 := w.trans (Gw.grow w.k (a3.trans a4))
    exact ⟨p, xs, rfl, ex_l w4.k hs, fun l hl => q _ _ _ (w4.trans (Gw.new w4.k hl)) (.lst (sq_of upd_same) (dpa_cut (hxs.ex (Ex.new (none_back w4.k hl))) _ _))⟩
theorem ed_slT {ds : List PyData} {tl th : TO} {lo hi : Option Int} (ha : EvD K ta σ A (.tuple ds)) (h1 : EvO tl σ A lo) (h2 : EvO th σ A hi) (hn : ¬ (HT.sIx ds.length 0 lo = 0 ∧ HT.sIx ds.length ds.length hi = ds.length)) :
    EvD K (tSl (rSlT K) ta tl th) σ A (.tuple (cutG ds lo hi)) := ed_mk fun H a Q q =>
  ha.run a fun v A2 H2 w hv => h1 H2 (a.trans w.h) _ fun H3 a3 => h2 H3 ((a.trans w.h).trans a3) _ fun H4 a4 => by
    obtain ⟨p, xs, rfl, hs, hxs⟩ := dp_tup hv
    have w4 := w.trans (Gw.grow w.k (a3.trans a4))
    exact ⟨p, xs, rfl, ex_t w4.k hs, by rw [hxs.len]; exact hn, fun l hl => q _ _ _ (w4.trans (Gw.new w4.k hl)) (.tup (st_of upd_same) (dpa_cut (hxs.ex (Ex.new (none_back w4.k hl))) _ _))⟩
theorem eo_d {i : Int} (h : EvD K te σ A (.int i)) : EvO (tPart te) σ A (some i) := eo_some h.int
/-- == and != of data -/
theorem ed_eqD (ha : EvD K ta σ A d) (hb : EvD K tb σ A e) (sd : SeqAt.shaped d = true) (se : SeqAt.shaped e = true) : EvD K (tOp (rEqD K) ta tb) σ A (.bool (PyData.eqv d e)) := ed_op ha hb (rd_v (z := .bl (PyData.eqv d e)) (fun x y A H a hx hy Q q => ⟨d, e, hx.ex a, hy.ex a, sd, se, q⟩) fun _ => .bl _)
theorem ed_neD (ha : EvD K ta σ A d) (hb : EvD K tb σ A e) (sd : SeqAt.shaped d = true) (se : SeqAt.shaped e = true) : EvD K (tOp (rNeD K) ta tb) σ A (.bool (!PyData.eqv d e)) := ed_op ha hb (rd_v (z := .bl (!PyData.eqv d e)) (fun x y A H a hx hy Q q => ⟨d, e, hx.ex a, hy.ex a, sd, se, q⟩) fun _ => .bl _)
/-- in, not in, of a list of data -/
theorem ed_inD {ds : List PyData} (ha : EvD K ta σ A d) (hb : EvD K tb σ A (.list ds)) (sd : SeqAt.shaped d = true) (se : SeqAt.shaped (.list ds) = true) : EvD K (tOp (rInD K) ta tb) σ A (.bool (ds.any fun z => PyData.eqv z d)) := ed_op ha hb (rd_v (z := .bl (ds.any fun z => PyData.eqv z d)) (fun x y A H a hx hy Q q => ⟨d, ds, hx.ex a, hy.ex a, sd, se, q⟩) fun _ => .bl _)
theorem ed_niD {ds : List PyData} (ha : EvD K ta σ A d) (hb : EvD K tb σ A (.list ds)) (sd : SeqAt.shaped d = true) (se : SeqAt.shaped (.list ds) = true) : EvD K (tOp (rNotInD K) ta tb) σ A (.bool (!ds.any fun z => PyData.eqv z d)) := ed_op ha hb (rd_v (z := .bl (!ds.any fun z => PyData.eqv z d)) (fun x y A H a hx hy Q q => ⟨d, ds, hx.ex a, hy.ex a, sd, se, q⟩) fun _ => .bl _)
/-- a text in a written tuple of texts, a number in a list of numbers -/
theorem inV_strs (x : Str) : ∀ ys : List Str, inV (.str x) (ys.map V.str) = decide (x ∈ ys)
  | [] => by simp [inV]
  | y :: ys => by
    have h := inV_strs x ys
    unfold inV at h ⊢
    rw [List.map_cons, List.any_cons, h]
    have e : eqV (V.str y) (V.str x) = decide (y = x) := rfl
    rw [e]
    simp only [List.mem_cons, Bool.decide_or]
    congr 1
    exact decide_eq_decide.mpr ⟨Eq.symm, Eq.symm⟩
theorem inV_ints (x : Int) : ∀ ys : List Int, inV (.int x) (ys.map V.int) = decide (x ∈ ys)
  | [] => by simp [inV]
  | y :: ys => by
    have h := inV_ints x ys
    unfold inV at h ⊢
    rw [List.map_cons, List.any_cons, h]
    have e : eqV (V.int y) (V.int x) = decide (y = x) := by
      show (y == x) = decide (y = x)
      exact Bool.beq_eq_decide_eq y x
    rw [e]
    simp only [List.mem_cons, Bool.decide_or]
    congr 1
    exact decide_eq_decide.mpr ⟨Eq.symm, Eq.symm⟩
theorem flat_str (ys : List Str) : (ys.map V.str).all flatV = true := by
  rw [List.all_eq_true]
  intro x hx
  obtain ⟨y, _, rfl⟩ := List.mem_map.mp hx
  rfl
theorem flat_int (ys : List Int) : (ys.map V.int).all flatV = true := by
  rw [List.all_eq_true]
  intro x hx
  obtain ⟨y, _, rfl⟩ := List.mem_map.mp hx
  rfl
theorem ed_inST {neg : Bool} {x : Str} {ys : List Str} (ha : EvD K ta σ A (.str x)) (hb : EvD K tb σ A (.tuple (ys.map PyData.str))) : EvD K (tOp (rIn K neg) ta tb) σ A (.bool (if neg then !decide (x ∈ ys) else decide (x ∈ ys))) :=
  ed_op ha hb (rd_v (z := .bl (if neg then !decide (x ∈ ys) else decide (x ∈ ys))) (fun u y A H a hx hy Q q => by
    obtain ⟨p, xs, rfl, hs, hxs⟩ := dp_tup hy
    rw [dpa_strs_eq hxs] at hs
    rw [dp_str hx]
    refine ⟨p, _, rfl, .inr (ex_t a hs), rfl, flat_str ys, ?_⟩
    rw [inV_strs]
    exact q) fun _ => .bl _)
theorem ed_inSL {neg : Bool} {x : Str} {ys : List Str} (ha : EvD K ta σ A (.str x)) (hb : EvD K tb σ A (.list (ys.map PyData.str))) : EvD K (tOp (rIn K neg) ta tb) σ A (.bool (if neg then !decide (x ∈ ys) else decide (x ∈ ys))) :=
  ed_op ha hb (rd_v (z := .bl (if neg then !decide (x ∈ ys) else decide (x ∈ ys))) (fun u y A H a hx hy Q q => by
    obtain ⟨p, xs, rfl, hs, hxs⟩ := dp_list hy
    rw [dpa_strs_eq hxs] at hs
    rw [dp_str hx]
    refine ⟨p, _, rfl, .inl (ex_l a hs), rfl, flat_str ys, ?_⟩
    rw [inV_strs]
    exact q) fun _ => .bl _)
theorem ed_inIL {neg : Bool} {x : Int} {ys : List Int} (ha : EvD K ta σ A (.int x)) (hb : EvD K tb σ A (.list (ys.map PyData.int))) : EvD K (tOp (rIn K neg) ta tb) σ A (.bool (if neg then !decide (x ∈ ys) else decide (x ∈ ys))) :=
  ed_op ha hb (rd_v (z := .bl (if neg then !decide (x ∈ ys) else decide (x ∈ ys))) (fun u y A H a hx hy Q q => by
    obtain ⟨p, xs, rfl, hs, hxs⟩ := dp_list hy
    rw [dpa_ints_eq hxs] at hs
    rw [dp_int hx]
    refine ⟨p, _, rfl, .inl (ex_l a hs), rfl, flat_int ys, ?_⟩
    rw [inV_ints]
    exact q) fun _ => .bl _)
/-- one sign in a text -/
abbrev rSgn : R2 := fun x y H Q => ∃ (c : Nat) (z : Str), x = .str ⟨#[c]⟩ ∧ y = .str z ∧ Q (.bl (decide (c ∈ z.cps.toList))) H
abbrev rNoSgn : R2 := fun x y H Q => ∃ (c : Nat) (z : Str), x = .str ⟨#[c]⟩ ∧ y = .str z ∧ Q (.bl (!decide (c ∈ z.cps.toList))) H
theorem ed_sign {c : Nat} {z : Str} (ha : EvD K ta σ A (.str ⟨#[c]⟩)) (hb : EvD K tb σ A (.str z)) : EvD K (tOp rSgn ta tb) σ A (.bool (decide (c ∈ z.cps.toList))) := ed_op ha hb (rd_v (z := .bl (decide (c ∈ z.cps.toList))) (fun x y A H a hx hy Q q => by
  rw [dp_str hx, dp_str hy]
  exact ⟨c, z, rfl, rfl, q⟩) fun _ => .bl _)
theorem ed_nosign {c : Nat} {z : Str} (ha : EvD K ta σ A (.str ⟨#[c]⟩)) (hb : EvD K tb σ A (.str z)) : EvD K (tOp rNoSgn ta tb) σ A (.bool (!decide (c ∈ z.cps.toList))) := ed_op ha hb (rd_v (z := .bl (!decide (c ∈ z.cps.toList))) (fun x y A H a hx hy Q q => by
  rw [dp_str hx, dp_str hy]
  exact ⟨c, z, rfl, rfl, q⟩) fun _ => .bl _)
/-- is None -/
def nonD : PyData → Bool
  | .none => true
  | _ => false
abbrev rIsNo : R2 := fun x y H Q => y = .non ∧ Q (.bl (decide (x = .non))) H
theorem ed_isN (ha : EvD K ta σ A d) : EvD K (tOp rIsNo ta (tC .non)) σ A (.bool (nonD d)) := ed_op ha ed_n (rd_v (z := .bl (nonD d)) (fun x y A H a hx hy Q q => by
  rw [dp_non hy]
  have e : decide (x = V.non) = nonD d := by cases hx <;> simp [nonD]
  exact ⟨rfl, by rw [e]; exact q⟩) fun _ => .bl _)
end
/-! ### statements -/
section
variable {K : Kf} {σ : L2.St} {A H : Hp} {te : TE} {t : TT} {d : PyData} {D : Ends} {tu tw tz : TS}
theorem sd_ret (h : EvD K te σ A d) (a : Ex A H) (q : Out K d A H D.rt) : tRet te D σ H := h H a _ q
theorem sd_asg {i : Nat} (h : EvD K te σ A d) (a : Ex A H) (k : ∀ v A1 H1, Gw A H A1 H1 → Dp K A1 v d → D.nx (σ.set i (some v)) H1) : tAsg te (gName i) D σ H := h.run a k
theorem sd_if {b : Bool} (h : EvT t σ A b) (a : Ex A H) (h1 : b = true → ∀ H1, Gw A H A H1 → tu D σ H1) (h2 : b = false → ∀ H1, Gw A H A H1 → tw D σ H1) : tIfS t tu tw D σ H := h H a _ fun H1 e => by
  cases b with
  | true =>
    show tu D σ H1
    exact h1 rfl H1 (Gw.grow a e)
  | false =>
    show tw D σ H1
    exact h2 rfl H1 (Gw.grow a e)
theorem qd_asg {i : Nat} (h : EvD K te σ A d) (a : Ex A H) (k : ∀ v A1 H1, Gw A H A1 H1 → Dp K A1 v d → tz D (σ.set i (some v)) H1) : tSeq (tAsg te (gName i)) tz D σ H := sd_asg (D := { D with nx := tz D }) h a k
theorem qd_if {b : Bool} (h : EvT t σ A b) (a : Ex A H) (h1 : b = true → ∀ H1, Gw A H A H1 → tu { D with nx := tz D } σ H1) (h2 : b = false → ∀ H1, Gw A H A H1 → tw { D with nx := tz D } σ H1) : tSeq (tIfS t tu tw) tz D σ H := sd_if (D := { D with nx := tz D }) h a h1 h2
end
end Ev
namespace Ev
open PySem PySem.Spec PyProof.Rows L2 Evl
/-! ### what is looked at where the head has run -/
def xNames : List Str := ["BadNames", "BadSum", "BadHigh", "BadLags", "BadBox", "BadCable", "BadName", "BadLoop", "BadWay", "BadSlope", "BadLate", "BadMoment", "BadNumber", "BadRack", "BadRule", "BadPaper", "BadHistory", "BadText", "TooGreat", "NothingLeft"]
abbrev stI (i : Nat) : Stmt := inClass (top i) 0
abbrev stL (i : Nat) : Stmt := inClass (top 61) i
def dG (x : Str) (i : Nat) : He.DefD := ⟨(x, none), x, x, defArgs (top i), defBody (top i), defScope (top i), [], []⟩
def dM (C m q : Str) (st : Stmt) : He.DefD := ⟨(C, some m), m, q, defArgs st, defBody st, defScope st, [], []⟩
def defsG : List (Str × Nat) := ([("is_integer", 23), ("is_whole", 24), ("are_whole", 25), ("need_list", 35), ("is_cable", 36), ("order_of", 37), ("behind_of", 38), ("is_loop", 39), ("need_rack", 40), ("are_rising", 45), ("checked_rule", 46), ("number_in", 59), ("numbers_in", 60), ("read_rack", 62)] : List (Str × Nat)) ++
  ([("read_rule", 63), ("_law_begin", 65), ("_law_next", 66), ("_law_pick", 67), ("_law_some", 68), ("_law_order", 69), ("_law_lag", 70), ("_law_rack", 71), ("_law_reached", 72), ("_law_rule", 73), ("_law_is_int", 74), ("_law_is_row", 75), ("_law_is_cable", 76), ("_law_is_loop", 77)] : List (Str × Nat)) ++
  ([("_law_list_fault", 78), ("_law_has_ring", 79), ("_law_rack_fault", 80), ("_law_rack_text", 81), ("_law_rule_text", 82), ("_law_int", 83), ("_law_fault", 84), ("_law_said", 85), ("_law_numbers", 86), ("_law_line", 87), ("_law_rack_due", 88), ("_law_rule_due", 89), ("_law_bent", 90), ("law", 91)] : List (Str × Nat))
def defsM : List (Str × Nat) := [("__init__", 0), ("need", 1), ("words", 2), ("is_next", 3), ("numbers", 4), ("cable", 5), ("end", 6)]
def defsX : List (Str × Nat) := [("BadRack", 6), ("BadRule", 7), ("BadText", 18)]
def fnH : List He.DefD := defsG.map (fun q => dG q.1 q.2) ++ defsM.map (fun q => dM "Lines" q.1 ("Lines." ++ q.1) (stL q.2)) ++ defsX.map fun q => dM q.1 "__init__" (q.1 ++ ".__init__") (stI q.2)
def freeN : List Str := ["isinstance", "int", "bool", "tuple", "str", "list", "len", "all", "range", "sorted", "zip", "set", "min", "repr", "enumerate"]
def strN : List (Str × Str) := [("POST", "post"), ("PRE", "pre"), ("KNOWN", "known"), ("ALIKE", "alike"), ("BLANK", " "), ("LINE", "\n"), ("FIGURES", "0123456789"), ("NAMES", "names"), ("BOX", "box"), ("CABLE", "cable"), ("LOOP", "loop"), ("EVENED", "evened"), ("BLIND", "blind"), ("TAPS", "taps")]
def intN : List (Str × Int) := [("MOST_OWN_NAMES", 4), ("MOST_BOXES_racks", 8), ("MOST_LAG", 3), ("MOST_CABLES", 14), ("MOST_LOOPS", 3), ("MOST_TIME", 9), ("MOST_BOXES_rules", 8), ("MOST_FIGURES", 7)]
def faH : List He.Fa := defsG.map (fun q => He.Fa.glo q.1) ++ freeN.map He.Fa.free ++ strN.map (fun q => He.Fa.str q.1 q.2) ++ intN.map (fun q => He.Fa.int q.1 q.2) ++ xNames.map He.Fa.glo ++ defsM.tail.map (fun q => He.Fa.meth "Lines" q.1) ++
  [.glo "LagError", .glo "Lines", .cls "Lines", .noat "Lines" "lines", .noat "Lines" "at", .mkr "Lines"]
def tfH : List He.Defn := [("need_rack", none), ("_law_rack_fault", none), ("law", none)]
def oexB (K : Kf) (C : Addr) : Bool := match K.lookup C with
  | some ⟨.type t, _, .cls cd, sl⟩ => decide (t = "type") && (cd.hasDict && (!cd.hasDel && ((match cd.mro with
    | .ref C' :: bm => decide (C' = C) && PySem.HandSPX.refsVE bm
    | _ => false) && (match sl.toList with
    | [_, _, _, _, some (.builtin n), _] => decide (n = "ValueError.__new__")
    | _ => false))))
  | _ => false
def eqB (a b : Option Bool) : Bool := decide (a = b)
def excB (K : Kf) (x : Str) (fs : List Str) : Bool :=
  let C := He.ga K x
  oexB K C && (He.eqO (PySem.W.findIn K (.ref C) "__setattr__") (some (some (.builtin "object.__setattr__"))) && (eqB (PySem.W.subIn K (.ref C) (.type "BaseException")) (some true) && (decide (PySem.W.typeIn K (.ref C) = some (.type "type")) && (PySem.W.keepIn K (.ref C) &&
  (xfB K C && ((PySem.W.clsIn K C).isSome && (He.eqO (PySem.W.findIn K (.ref C) "__class__") (some (some (.builtin "object.__class__"))) && (eqB (PySem.W.mroIn K C (.type "object")) (some true) &&
  (He.eqO (PySem.W.findIn K (.ref C) "__init__") (some (some (.ref (He.ma K C "__init__")))) && (decide (PySem.W.typeIn K (.ref (He.ma K C "__init__")) = some (.type "function")) &&
  ((fs.all fun f => He.eqO (PySem.W.findIn K (.ref C) f) (some none)) && xNames.all fun y => eqB (PySem.W.kitOne K (.ref C) (.ref (He.ga K y))) (some (decide (y = x))) && eqB (PySem.W.exmOne K (.ref C) (.ref (He.ga K y))) (some (decide (y = x))))))))))))))
def genB (K : Kf) : Bool := He.eqO (PySem.W.specialIn K (.builtin "object.__class__") "__get__") (some (some (.builtin "getset_descriptor.__get__"))) && eqB (PySem.W.takesIn K (.builtin "object.__class__")) (some true)
def lagB (K : Kf) : Bool := He.eqO (PySem.W.specialIn K (.ref (He.ga K "LagError")) "__getattribute__") (some (some (.builtin "type.__getattribute__"))) && (PySem.W.readsIn K (He.ga K "LagError") (.type "type") && (match PySem.W.findCls K (.ref (He.ga K "LagError")) (.type "type") "__init__" with
  | some (.val (.builtin n)) => decide (n = "ValueError.__init__")
  | _ => false))
def tabsNd (K : Kf) : Bool := decide (tfH.map fun p => (He.cT K p).2).Nodup
def exH (K : Kf) : Bool := genB K && (lagB K && (excB K "BadRack" ["part", "number"] && (excB K "BadRule" ["part"] && (excB K "BadText" ["line"] && tabsNd K))))
def adrs : List Addr := ([3, 2, 6, 4, 24, 44, 63, 82, 101, 120, 139, 158, 177, 196, 215, 234, 253, 272, 291, 310, 329, 348, 367, 386, 406, 416, 423, 428, 435, 442, 447, 452, 459, 466, 471, 478, 483, 488, 545, 556] : List Addr) ++
  ([563, 570, 577, 584, 589, 596, 603, 608, 615, 620, 627, 632, 639, 646, 653, 658, 665, 670, 675, 680, 685, 692, 697, 704, 711, 716, 723, 730, 0, 23, 43, 62, 81, 100, 119, 138, 157, 176, 195, 214] : List Addr) ++
  ([233, 252, 271, 290, 309, 328, 347, 366, 385, 405, 415, 422, 427, 434, 441, 446, 451, 458, 465, 470, 477, 482, 487, 544, 555, 562, 569, 576, 583, 588, 595, 602, 607, 614, 619, 626, 631, 638, 645, 652] : List Addr) ++
  ([657, 664, 669, 674, 679, 684, 691, 696, 703, 710, 715, 722, 729, 22, 25, 41, 42, 60, 61, 79, 80, 98, 99, 117, 118, 136, 137, 155, 156, 174, 175, 193, 194, 212, 213, 231, 232, 250, 251, 269] : List Addr) ++
  ([270, 288, 289, 307, 308, 326, 327, 345, 346, 364, 365, 383, 384, 387, 403, 404, 407, 410, 412, 413, 414, 417, 419, 420, 421, 424, 426, 429, 431, 432, 433, 436, 438, 439, 440, 443, 445, 448, 450, 453] : List Addr) ++
  ([455, 456, 457, 460, 462, 463, 464, 467, 469, 472, 474, 475, 476, 479, 481, 484, 486, 500, 507, 514, 521, 528, 535, 542, 543, 546, 547, 550, 552, 553, 554, 557, 559, 560, 561, 564, 566, 567, 568, 571] : List Addr) ++
  ([573, 574, 575, 578, 580, 581, 582, 585, 587, 590, 592, 593, 594, 597, 599, 600, 601, 604, 606, 609, 611, 612, 613, 616, 618, 621, 623, 624, 625, 628, 630, 633, 635, 636, 637, 640, 642, 643, 644, 647] : List Addr) ++
  ([649, 650, 651, 654, 656, 659, 661, 662, 663, 666, 668, 671, 673, 676, 678, 681, 683, 686, 688, 689, 690, 693, 695, 698, 700, 701, 702, 705, 707, 708, 709, 712, 714, 717, 719, 720, 721, 724, 726, 727] : List Addr) ++
  ([728, 40, 59, 78, 97, 116, 135, 154, 173, 192, 211, 230, 249, 268, 287, 306, 325, 344, 363, 382, 402, 499, 506, 513, 520, 527, 534, 541] : List Addr)
def frH (g : Addr → Option Obj) : Kf := He.frT g adrs
def obsH (g : Addr → Option Obj) : He.AlX := (He.obsT faH fnH [] (frH g), exH (frH g) && He.tabsB g tfH (frH g))
theorem saysH {w : World} {h : Heap} (e : obsH h.get? = He.valX fnH [] w) : He.SaysX faH fnH [] tfH exH w h (frH h.get?) := by
  have e1 : He.obsT faH fnH [] (frH h.get?) = He.valT fnH [] w := congrArg Prod.fst e
  obtain ⟨h1, h2⟩ := He.ba (show (exH (frH h.get?) && He.tabsB h.get? tfH (frH h.get?)) = true from congrArg Prod.snd e)
  have each : ∀ p ∈ tfH, PySem.W.codeHdIn (frH h.get?) (He.cT (frH h.get?) p).1 (He.cT (frH h.get?) p).2 = true ∧ ∃ o, h.get? (He.cT (frH h.get?) p).2 = some o ∧ He.emptyTab o = true := fun p hp => by
    obtain ⟨a, b⟩ := He.ba (List.all_eq_true.mp h2 p hp)
    cases q : h.get? (He.cT (frH h.get?) p).2 with
    | some o =>
      rw [q] at b
      exact ⟨a, o, rfl, b⟩
    | none =>
      rw [q] at b
      cases b
  refine ⟨e1, h1, fun p hp => (each p hp).1, fun p hp => ?_, fun p hp => ?_⟩
  · obtain ⟨_, o, q, z⟩ := each p hp
    exact He.frT_none q z
  · obtain ⟨_, o, q, z⟩ := each p hp
    rw [q, He.emptyTab_eq z]
def hkH : PySem.W.Hook where
  α := He.AlX
  obs := fun s => obsH s.heap.get?
  val := fun w => He.valX fnH [] w
  says := fun w h => ∃ K : Kf, K.In h ∧ He.SaysX faH fnH [] tfH exH w h K
  of := fun _ _ e => ⟨_, He.frT_in, saysH e⟩
  keeps := fun _ _ _ ⟨K, hK, c⟩ k => ⟨K, PySem.W.Frag.In.keeps hK k, c.t, c.more, c.hd, c.out, fun p hp => k _ _ (c.empty p hp)⟩
abbrev RowH : PySem.W.OpenRow := PySem.W.OpenLaw.row PySem.Challenge.rw_evenlags_k34_whole_any_text
def obH (s : PySem.W.SharedT) : He.AlX := obsH (HandSHeadRun.getT s)
theorem obH_eq (s : PySem.W.SharedT) : obH s = hkH.obs s.abs := by
  have e : HandSHeadRun.getT s = s.abs.heap.get? := funext (HandSHeadRun.getT_eq s)
  unfold obH
  rw [e]
  rfl
def namesH : List Str := (prg.main.scope.names.map (·.1)).filter fun x => x ≠ "law"
theorem runH (w : World) : HandSHeadRun.RunEq RowH (PySem.W.view RowH.prog [91]) hkH obH 20000 namesH w := by
  intro os
  kernel_rfl
end Ev
namespace Ev
open PySem PySem.Spec PyProof.Rows L2 Evl
/-! ### what is known where one stands, without the state -/
structure Wd where
  P : Program
  w : World
  K : Kf
  mg : Str → Option Value
  base : Heap
structure Gm where
  W : Wd
  N : List Str
  sc : Scope
  k : Nat
  st : Str → Bool
  ew : Option XK
  px : Cx → Prop
structure Has (Γ : Gm) (X : Cx) : Prop where
  prog : X.prog = Γ.W.P
  w : X.w = Γ.W.w
  K : X.K = Γ.W.K
  mg : X.mg = Γ.W.mg
  base : X.base = Γ.W.base
  N : X.N = Γ.N
  sc : X.env.scope = Γ.sc
  calm : X.calm = true
  room : Room Γ.k X.A
  fn : ∀ x, Γ.st x = true → X.fn x = true ∨ X.env.scope.names.lookup x = some .local
  po : PassesOwn (model X.prog X.w) X.A X.env X.xe
  tk : ∀ E, Γ.ew = some E → L2.Takes X (fun c d _ H => E c d H)
  px : Γ.px X
/-- the widest readings -/
def WG (Γ : Gm) (e : Expr) : TE := fun σ H Q => ∀ X, Has Γ X → ∀ pins s, Inv X pins σ H s → wpAny (model X.prog X.w) X.A (eval e X.env) (EP X pins σ Q) X.xe s
def WGt (Γ : Gm) (e : Expr) : TT := fun σ H Q => ∀ X, Has Γ X → ∀ pins s, Inv X pins σ H s → wpAny (model X.prog X.w) X.A (isTrue e X.env (eval e X.env)) (TP X pins σ Q) X.xe s
def WGw (Γ : Gm) (e : Expr) : TT := fun σ H Q => ∀ X, Has Γ X → ∀ whole pins s, Inv X pins σ H s → wpAny (model X.prog X.w) X.A (isTrue e X.env whole) (TP X pins σ Q) X.xe s
def WGa (Γ : Gm) (es : List Expr) : TA := fun σ H Q => ∀ X, Has Γ X → ∀ pos pins s, Inv X pins σ H s → wpAny (model X.prog X.w) X.A (spliced (backTo pos (starEach es X.env))) (AP X pins σ Q) X.xe s
def WGo (Γ : Gm) (e : Option Expr) : TO := fun σ H Q => ∀ X, Has Γ X → ∀ pins s, Inv X pins σ H s → wpAny (model X.prog X.w) X.A (evalPart e X.env) (fun u s' => ∃ o H', Inv X pins σ H' s' ∧ IsPart u o ∧ Q o H') X.xe s
def WGs (Γ : Gm) (st : Stmt) : TS := fun D σ H => ∀ X, Has Γ X → ∀ pins s, Inv X pins σ H s → wpAny (model X.prog X.w) X.A (exec st X.env) (SP X pins D) X.xe s
def WGss (Γ : Gm) (st : List Stmt) : TS := fun D σ H => ∀ X, Has Γ X → ∀ pins s, Inv X pins σ H s → wpAny (model X.prog X.w) X.A (execs st X.env) (SP X pins D) X.xe s
def WGg (Γ : Gm) (tg : Expr) : TG := fun v σ H Q => ∀ X, Has Γ X → ∀ pins s u, Inv X pins σ H s → RelV v u → wpAny (model X.prog X.w) X.A (assign tg X.env u) (fun _ s' => ∃ σ' H', Inv X pins σ' H' s' ∧ Q σ' H') X.xe s
def WGgs (Γ : Gm) (tgs : List Expr) : TGs := fun vs σ H Q => ∀ X, Has Γ X → ∀ pins s us, Inv X pins σ H s → Vals vs us → wpAny (model X.prog X.w) X.A (assignInOrder ((assignEach tgs X.env).map (·.2)) us) (fun _ s' => ∃ σ' H', Inv X pins σ' H' s' ∧ Q σ' H') X.xe s
def WGi (Γ : Gm) (tg iter : Expr) : TI := fun σ H R => ∀ X, Has Γ X → ∀ pins s, Inv X pins σ H s →
  wpAny (model X.prog X.w) X.A (eval iter X.env) (fun v s1 => wpAny (model X.prog X.w) X.A (pyIter v) (PIE X pins σ tg R) X.xe s1) X.xe s
def WGts (Γ : Gm) (ifs : List Expr) : TT := fun σ H Q => ∀ X, Has Γ X → ∀ pins s, Inv X pins σ H s →
  wpAny (model X.prog X.w) X.A (forIn ifs true fun c r => if r = true then do let ok ← isTrue c X.env (eval c X.env); pure (ForInStep.yield ok) else pure (ForInStep.yield r)) (TP X pins σ Q) X.xe s
section
variable {Γ : Gm} {X : Cx} {e tg iter : Expr} {es : List Expr} {oe : Option Expr} {st : Stmt} {sts : List Stmt} {σ : L2.St} {H : Hp} {D : Ends}
theorem pe_wg (h : Has Γ X) : PE X e (WG Γ e) := ⟨fun pins s σ H Q I q => q X h pins s I⟩
theorem pt_wg (h : Has Γ X) : PT X e (WGt Γ e) := ⟨fun pins s σ H Q I q => q X h pins s I⟩
theorem pw_wg (h : Has Γ X) : PW X e (WGw Γ e) := ⟨fun wh pins s σ H Q I q => q X h wh pins s I⟩
theorem pa_wg (h : Has Γ X) : PA X es (WGa Γ es) := ⟨fun pos pins s σ H Q I q => q X h pos pins s I⟩
theorem po_wg (h : Has Γ X) : PO X oe (WGo Γ oe) := ⟨fun pins s σ H Q I q => q X h pins s I⟩
theorem ps_wg (h : Has Γ X) : PS X st (WGs Γ st) := ⟨fun pins s σ H D I q => q X h pins s I⟩
theorem pss_wg (h : Has Γ X) : PSs X sts (WGss Γ sts) := ⟨fun pins s σ H D I q => q X h pins s I⟩
theorem pg_wg (h : Has Γ X) : PG X tg (WGg Γ tg) := ⟨fun pins s σ H v u Q I r q => q X h pins s u I r⟩
theorem pgs_wg (h : Has Γ X) : PGs X es (WGgs Γ es) := ⟨fun pins s σ H vs us Q I r q => q X h pins s us I r⟩
theorem pi_wg (h : Has Γ X) : PI X tg iter (WGi Γ tg iter) := ⟨fun pins s σ H R I q => q X h pins s I⟩
theorem pts_wg (h : Has Γ X) : PTs X es (WGts Γ es) := ⟨fun pins s σ H Q I q => q X h pins s I⟩
theorem WG.of {te : TE} {Q : VK} (p : ∀ X, Has Γ X → PE X e te) (h : te σ H Q) : WG Γ e σ H Q := fun X hX pins s I => (p X hX).run pins s σ H Q I h
theorem WGt.of {te : TT} {Q : Bool → Hp → Prop} (p : ∀ X, Has Γ X → PT X e te) (h : te σ H Q) : WGt Γ e σ H Q := fun X hX pins s I => (p X hX).run pins s σ H Q I h
theorem WGw.of {te : TT} {Q : Bool → Hp → Prop} (p : ∀ X, Has Γ X → PW X e te) (h : te σ H Q) : WGw Γ e σ H Q := fun X hX wh pins s I => (p X hX).run wh pins s σ H Q I h
theorem WGa.of {te : TA} {Q : List V → Hp → Prop} (p : ∀ X, Has Γ X → PA X es te) (h : te σ H Q) : WGa Γ es σ H Q := fun X hX pos pins s I => (p X hX).run pos pins s σ H Q I h
theorem WGo.of {te : TO} {Q : Option Int → Hp → Prop} (p : ∀ X, Has Γ X → PO X oe te) (h : te σ H Q) : WGo Γ oe σ H Q := fun X hX pins s I => (p X hX).run pins s σ H Q I h
theorem WGs.of {ts : TS} (p : ∀ X, Has Γ X → PS X st ts) (h : ts D σ H) : WGs Γ st D σ H := fun X hX pins s I => (p X hX).run pins s σ H D I h
theorem WGss.of {ts : TS} (p : ∀ X, Has Γ X → PSs X sts ts) (h : ts D σ H) : WGss Γ sts D σ H := fun X hX pins s I => (p X hX).run pins s σ H D I h
theorem WGg.of {tt : TG} {v : V} {Q : L2.St → Hp → Prop} (p : ∀ X, Has Γ X → PG X tg tt) (h : tt v σ H Q) : WGg Γ tg v σ H Q := fun X hX pins s u I r => (p X hX).run pins s σ H v u Q I r h
theorem WGgs.of {tt : TGs} {v : List V} {Q : L2.St → Hp → Prop} (p : ∀ X, Has Γ X → PGs X es tt) (h : tt v σ H Q) : WGgs Γ es v σ H Q := fun X hX pins s u I r => (p X hX).run pins s σ H v u Q I r h
theorem WGi.of {wi : TI} {R : It → Hp → Prop} (p : ∀ X, Has Γ X → PI X tg iter wi) (h : wi σ H R) : WGi Γ tg iter σ H R := fun X hX pins s I => (p X hX).run pins s σ H R I h
theorem WGts.of {te : TT} {Q : Bool → Hp → Prop} (p : ∀ X, Has Γ X → PTs X es te) (h : te σ H Q) : WGts Γ es σ H Q := fun X hX pins s I => (p X hX).run pins s σ H Q I h
end
/-! ### slots -/
inductive SV where
  | d (x : PyData)
  | r (i : Nat)
  | v (x : V)
abbrev Rho := List (Option SV)
def Sl (K : Kf) (A : Hp) (σ : L2.St) (ρ : Rho) : Prop := σ.length = ρ.length ∧ ∀ (i : Nat) (x : PyData), ρ[i]? = some (some (.d x)) → ∃ v, σ[i]? = some (some v) ∧ Dp K A v x
theorem Sl.mono {K : Kf} {A A' : Hp} {σ : L2.St} {ρ : Rho} (s : Sl K A σ ρ) (e : Ex A A') : Sl K A' σ ρ := ⟨s.1, fun i x h => by
  obtain ⟨v, h1, h2⟩ := s.2 i x h
  exact ⟨v, h1, h2.ex e⟩⟩
theorem Sl.set {K : Kf} {A : Hp} {σ : L2.St} {ρ : Rho} {v : V} {d : PyData} (s : Sl K A σ ρ) (i : Nat) (hd : Dp K A v d) : Sl K A (σ.set i (some v)) (ρ.set i (some (.d d))) := ⟨by rw [List.length_set, List.length_set]; exact s.1, fun j x h => by
  by_cases e : i = j
  · subst e
    by_cases hl : i < ρ.length
    · rw [List.getElem?_set_self hl] at h
      cases h
      exact ⟨v, by rw [List.getElem?_set_self (by rw [s.1]; exact hl)], hd⟩
    · rw [List.set_eq_of_length_le (by omega), List.getElem?_eq_none (by omega)] at h
      cases h
  · rw [List.getElem?_set_ne e] at h
    rw [List.getElem?_set_ne e]
    exact s.2 j x h⟩
def wipeR (ρ : Rho) : List Nat → Rho
  | [] => ρ
  | v :: vs => (wipeR ρ vs).set v none
theorem Sl.clr {K : Kf} {A : Hp} {σ : L2.St} {ρ : Rho} (s : Sl K A σ ρ) (i : Nat) : Sl K A (σ.set i none) (ρ.set i none) := ⟨by rw [List.length_set, List.length_set]; exact s.1, fun j x h => by
  by_cases e : i = j
  · subst e
    by_cases hl : i < ρ.length
    · rw [List.getElem?_set_self hl] at h
      cases h
    · rw [List.set_eq_of_length_le (by omega), List.getElem?_eq_none (by omega)] at h
      cases h
  · rw [List.getElem?_set_ne e] at h
    rw [List.getElem?_set_ne e]
    exact s.2 j x h⟩
theorem Sl.wipe {K : Kf} {A : Hp} {σ : L2.St} {ρ : Rho} (s : Sl K A σ ρ) : ∀ vs : List Nat, Sl K A (L2.wipe σ vs) (wipeR ρ vs)
  | [] => s
  | v :: vs => (Sl.wipe s vs).clr v
/-! ### pure expressions: what they evaluate to -/
def XD (Γ : Gm) (ρ : Rho) (e : Expr) (d : PyData) : Prop := ∀ σ A, Sl Γ.W.K A σ ρ → EvD Γ.W.K (WG Γ e) σ A d
def XT (Γ : Gm) (ρ : Rho) (e : Expr) (b : Bool) : Prop := ∀ σ A, Sl Γ.W.K A σ ρ → EvT (WGt Γ e) σ A b
def XW (Γ : Gm) (ρ : Rho) (e : Expr) (b : Bool) : Prop := ∀ σ A, Sl Γ.W.K A σ ρ → EvT (WGw Γ e) σ A b
def XDs (Γ : Gm) (ρ : Rho) (es : List Expr) (ds : List PyData) : Prop := ∀ σ A, Sl Γ.W.K A σ ρ → EvDs Γ.W.K (WGa Γ es) σ A ds
def XO (Γ : Gm) (ρ : Rho) (e : Option Expr) (o : Option Int) : Prop := ∀ σ A, Sl Γ.W.K A σ ρ → EvO (WGo Γ e) σ A o
def NS (e : Expr) : Prop := ∀ es env, starEach (e :: es) env = (false, eval e env) :: starEach es env
def NSs (es : List Expr) : Prop := ∀ pos env, (backTo pos (starEach es env)).any (·.1) = false
section
variable {Γ : Gm} {K : Kf} {σ : L2.St} {A : Hp} {te : TE} {d : PyData} {e : Expr}
theorem up_d (p : ∀ X, Has Γ X → PE X e te) (h : EvD K te σ A d) : EvD K (WG Γ e) σ A d := fun H a Q q => WG.of p (h H a Q q)
theorem up_t {t : TT} {b : Bool} (p : ∀ X, Has Γ X → PT X e t) (h : EvT t σ A b) : EvT (WGt Γ e) σ A b := fun H a Q q => WGt.of p (h H a Q q)
theorem up_w {t : TT} {b : Bool} (p : ∀ X, Has Γ X → PW X e t) (h : EvT t σ A b) : EvT (WGw Γ e) σ A b := fun H a Q q => WGw.of p (h H a Q q)
theorem up_a {t : TA} {es : List Expr} {ds : List PyData} (p : ∀ X, Has Γ X → PA X es t) (h : EvDs K t σ A ds) : EvDs K (WGa Γ es) σ A ds := fun H a Q q => WGa.of p (h H a Q q)
theorem up_o {t : TO} {oe : Option Expr} {o : Option Int} (p : ∀ X, Has Γ X → PO X oe t) (h : EvO t σ A o) : EvO (WGo Γ oe) σ A o := fun H a Q q => WGo.of p (h H a Q q)
end
/-- operations on data: of an operator, a comparison, a subscript, a built-in function or type -/
def OB (Γ : Gm) (op : Operator) (d e z : PyData) : Prop := ∃ r : R2, (∀ X, Has Γ X → OpR X (binaryOp op) r) ∧ RD Γ.W.K r d e z
def OC (Γ : Gm) (op : CmpOp) (d e : PyData) (b : Bool) : Prop := ∃ r : R2, (∀ X, Has Γ X → OpR X (compareOp op) r) ∧ RD Γ.W.K r d e (.bool b)
def OI (Γ : Gm) (d e z : PyData) : Prop := ∃ r : R2, (∀ X, Has Γ X → IxR X r) ∧ RD Γ.W.K r d e z
def CRD (K : Kf) (r : List V → Hp → VK → Prop) (ds : List PyData) (d : PyData) : Prop := ∀ vs A H, Ex A H → DpAll K A vs ds → ∀ Q : VK, (∀ v A2 H2, Gw A H A2 H2 → Dp K A2 v d → Q v H2) → r vs H Q
def OF (Γ : Gm) (f : Value) (ds : List PyData) (d : PyData) : Prop := ∃ r, (∀ X, Has Γ X → CallR X f r) ∧ CRD Γ.W.K r ds d
section
variable {Γ : Gm} {ρ : Rho} {a b c e : Expr} {es rest : List Expr} {d d1 d2 d3 z : PyData} {ds : List PyData} {pos p : Pos} {x : Str} {i : Nat}
theorem XD.is (h : XD Γ ρ e d) (q : d = z) : XD Γ ρ e z := q ▸ h
theorem XT.is {k k' : Bool} (h : XT Γ ρ e k) (q : k = k') : XT Γ ρ e k' := q ▸ h
theorem xd_var (hN : Γ.N[i]? = some x) (hr : ρ[i]? = some (some (.d d))) (hv : Vis Γ.sc x := by first | exact Or.inl rfl | exact Or.inr (Or.inl rfl) | exact Or.inr (Or.inr rfl)) (hd : (x == ("__debug__" : Str)) = false := by decide) (hcd : (x == ("__classdict__" : Str)) = false := by decide) :
    XD Γ ρ (.Name x pos) d := fun σ A s => by
  obtain ⟨v, h1, h2⟩ := s.2 i d hr
  exact up_d (fun X h => pe_var (i := i) (by rw [h.N]; exact hN) (by rw [h.sc]; exact hv) hd hcd) (ed_var h1 h2)
theorem xd_i {k : Int} {j} : XD Γ ρ (.Constant (.int k) j pos) (.int k) := fun σ A s => up_d (fun X h => pe_int) ed_i
theorem xd_s {k : Str} {j} : XD Γ ρ (.Constant (.str k) j pos) (.str k) := fun σ A s => up_d (fun X h => pe_str) ed_s
theorem xd_b {k : Bool} {j} : XD Γ ρ (.Constant (.bool k) j pos) (.bool k) := fun σ A s => up_d (fun X h => pe_bl) ed_b
theorem xd_n {j} : XD Γ ρ (.Constant .none j pos) .none := fun σ A s => up_d (fun X h => pe_non) ed_n
def Glo (Γ : Gm) (x : Str) : Prop := Γ.sc.names.lookup x = some .globalImplicit
theorem gl_of {X : Cx} (h : Has Γ X) (g : Glo Γ x) : Gl X x := by
  show X.env.scope.names.lookup x = _
  rw [h.sc]
  exact g
/-- a constant of the module -/
theorem xd_gs {k : Str} {t : Tok} (hm : Γ.W.mg x = some (.str k t)) (g : Glo Γ x := by rfl) (hd : (x == ("__debug__" : Str)) = false := by decide) : XD Γ ρ (.Name x pos) (.str k) := fun σ A s => up_d (fun X h => pe_glob (v := .str k) (gl_of h g) (by rw [h.mg]; exact hm) ⟨t, rfl⟩ hd) ed_s
theorem xd_gi {k : Int} {t : Tok} (hm : Γ.W.mg x = some (.int k t)) (g : Glo Γ x := by rfl) (hd : (x == ("__debug__" : Str)) = false := by decide) : XD Γ ρ (.Name x pos) (.int k) := fun σ A s => up_d (fun X h => pe_glob (v := .int k) (gl_of h g) (by rw [h.mg]; exact hm) ⟨t, rfl⟩ hd) ed_i
theorem xd_bin {op : Operator} (ha : XD Γ ρ a d1) (hb : XD Γ ρ b d2) (ho : OB Γ op d1 d2 z) : XD Γ ρ (.BinOp a op b pos) z := fun σ A s => by
  obtain ⟨r, h1, h2⟩ := ho
  exact up_d (fun X h => pe_op (h1 X h) (pe_wg h) (pe_wg h)) (ed_op (ha σ A s) (hb σ A s) h2)
theorem xd_cmp {op : CmpOp} {k : Bool} (ha : XD Γ ρ a d1) (hb : XD Γ ρ b d2) (ho : OC Γ op d1 d2 k) (hm : behindInMarks op b = false := by first | exact nomark _ | rfl | with_unfolding_all rfl) : XD Γ ρ (.Compare a [op] [b] pos) (.bool k) := fun σ A s => by
  obtain ⟨r, h1, h2⟩ := ho
  exact up_d (fun X h => pe_cmpR (h1 X h) (pe_wg h) (pe_wg h) hm) (ed_op (ha σ A s) (hb σ A s) h2)
theorem xt_cmp {op : CmpOp} {k : Bool} (ha : XD Γ ρ a d1) (hb : XD Γ ρ b d2) (ho : OC Γ op d1 d2 k) (hm : behindInMarks op b = false := by first | exact nomark _ | rfl | with_unfolding_all rfl) : XT Γ ρ (.Compare a [op] [b] pos) k := fun σ A s => by
  obtain ⟨r, h1, h2⟩ := ho
  exact up_t (fun X h => pt_cmpR (h1 X h) (pe_wg h) (pe_wg h) hm) (et_d (ed_op (ha σ A s) (hb σ A s) h2))
theorem xd_chain {op op' : CmpOp} {k k' : Bool} (ha : XD Γ ρ a d1) (hb : XD Γ ρ b d2) (hc : XD Γ ρ c d3) (ho : OC Γ op d1 d2 k) (ho' : OC Γ op' d2 d3 k') (hm : lastMarks [op, op'] [b, c] = false := by with_unfolding_all rfl) : XD Γ ρ (.Compare a [op, op'] [b, c] pos) (.bool (k && k')) := fun σ A s => by
  obtain ⟨r, h1, h2⟩ := ho
  obtain ⟨r', h1', h2'⟩ := ho'
  exact up_d (fun X h => pe_chain (h1 X h) (h1' X h) (pe_wg h) (pe_wg h) (pe_wg h) hm) (ed_chain (ha σ A s) (hb σ A s) (hc σ A s) h2 k' fun _ => h2')
theorem xt_chain {op op' : CmpOp} {k k' : Bool} (ha : XD Γ ρ a d1) (hb : XD Γ ρ b d2) (hc : XD Γ ρ c d3) (ho : OC Γ op d1 d2 k) (ho' : OC Γ op' d2 d3 k') (hm : lastMarks [op, op'] [b, c] = false := by with_unfolding_all rfl) : XT Γ ρ (.Compare a [op, op'] [b, c] pos) (k && k') := fun σ A s => by
  obtain ⟨r, h1, h2⟩ := ho
  obtain ⟨r', h1', h2'⟩ := ho'
  exact up_t (fun X h => pt_chain (h1 X h) (h1' X h) (pe_wg h) (pe_wg h) (pe_wg h) hm) (et_d (ed_chain (ha σ A s) (hb σ A s) (hc σ A s) h2 k' fun _ => h2'))
/-- and, or, not; tests -/
theorem xt_v {k : Bool} (h : XD Γ ρ e (.bool k)) (he : ∀ env whole, isTrue e env whole = (do let v ← whole; standAt e.pos; holding [v] (truthy v)) := by intro _ _; rfl) : XT Γ ρ e k := fun σ A s =>
  up_t (fun X hX => pt_val (pe_wg hX) (he X.env)) (et_dB (h σ A s))
theorem xd_one {op} (h : XD Γ ρ a d) : XD Γ ρ (.BoolOp op [a] pos) d := fun σ A s => up_d (fun X hX => pe_one (pe_wg hX)) (h σ A s)
theorem xd_and {k k' : Bool} (h : XD Γ ρ a (.bool k)) (h' : k = true → XD Γ ρ (.BoolOp .And (b :: rest) pos) (.bool k')) : XD Γ ρ (.BoolOp .And (a :: b :: rest) pos) (.bool (k && k')) := fun σ A s =>
  up_d (fun X hX => pe_and (pe_wg hX) (pe_wg hX)) (ed_and (h σ A s) fun z => h' z σ A s)
theorem xd_or {k k' : Bool} (h : XD Γ ρ a (.bool k)) (h' : k = false → XD Γ ρ (.BoolOp .Or (b :: rest) pos) (.bool k')) : XD Γ ρ (.BoolOp .Or (a :: b :: rest) pos) (.bool (k || k')) := fun σ A s =>
  up_d (fun X hX => pe_or (pe_wg hX) (pe_wg hX)) (ed_or (h σ A s) fun z => h' z σ A s)
theorem xd_not {k : Bool} (h : XD Γ ρ a (.bool k)) : XD Γ ρ (.UnaryOp .Not a pos) (.bool (!k)) := fun σ A s => up_d (fun X hX => pe_not (pe_wg hX)) (ed_not (h σ A s))
theorem xt_not {k : Bool} (h : XT Γ ρ a k) : XT Γ ρ (.UnaryOp .Not a pos) (!k) := fun σ A s => up_t (fun X hX => pt_not (pt_wg hX)) (et_not (h σ A s))
theorem XW.t {k : Bool} (h : XW Γ ρ e k) : XT Γ ρ e k := fun σ A s => up_t (fun X hX => PW.pt (pw_wg hX)) (h σ A s)
theorem xw_and1 {k : Bool} (h : XT Γ ρ a k) : XW Γ ρ (.BoolOp .And [a] pos) k := fun σ A s => up_w (fun X hX => pw_and1 (pt_wg hX)) (h σ A s)
theorem xw_or1 {k : Bool} (h : XT Γ ρ a k) : XW Γ ρ (.BoolOp .Or [a] pos) k := fun σ A s => up_w (fun X hX => pw_or1 (pt_wg hX)) (h σ A s)
theorem xw_and {k k' : Bool} (h : XT Γ ρ a k) (h' : k = true → XW Γ ρ (.BoolOp .And (b :: rest) pos) k') : XW Γ ρ (.BoolOp .And (a :: b :: rest) pos) (k && k') := fun σ A s => up_w (fun X hX => pw_and (pt_wg hX) (pw_wg hX)) (et_and (h σ A s) fun z => h' z σ A s)
theorem xw_or {k k' : Bool} (h : XT Γ ρ a k) (h' : k = false → XW Γ ρ (.BoolOp .Or (b :: rest) pos) k') : XW Γ ρ (.BoolOp .Or (a :: b :: rest) pos) (k || k') := fun σ A s => up_w (fun X hX => pw_or (pt_wg hX) (pw_wg hX)) (et_or (h σ A s) fun z => h' z σ A s)
theorem xt_and2 {k k' : Bool} (h : XT Γ ρ a k) (h' : k = true → XT Γ ρ b k') : XT Γ ρ (.BoolOp .And [a, b] pos) (k && k') := (xw_and h fun z => xw_and1 (h' z)).t
theorem xt_or2 {k k' : Bool} (h : XT Γ ρ a k) (h' : k = false → XT Γ ρ b k') : XT Γ ρ (.BoolOp .Or [a, b] pos) (k || k') := (xw_or h fun z => xw_or1 (h' z)).t
theorem xt_or3 {k k' k'' : Bool} (h : XT Γ ρ a k) (h' : k = false → XT Γ ρ b k') (h'' : k = false → k' = false → XT Γ ρ c k'') : XT Γ ρ (.BoolOp .Or [a, b, c] pos) (k || (k' || k'')) := (xw_or h fun z => xw_or (h' z) fun y => xw_or1 (h'' z y)).t
theorem xd_and2 {k k' : Bool} (h : XD Γ ρ a (.bool k)) (h' : k = true → XD Γ ρ b (.bool k')) : XD Γ ρ (.BoolOp .And [a, b] pos) (.bool (k && k')) := xd_and h fun z => xd_one (h' z)
theorem xd_or2 {k k' : Bool} (h : XD Γ ρ a (.bool k)) (h' : k = false → XD Γ ρ b (.bool k')) : XD Γ ρ (.BoolOp .Or [a, b] pos) (.bool (k || k')) := xd_or h fun z => xd_one (h' z)
theorem xd_if {k : Bool} (h : XT Γ ρ c k) (h1 : k = true → XD Γ ρ a d) (h2 : k = false → XD Γ ρ b d) : XD Γ ρ (.IfExp c a b pos) d := fun σ A s => up_d (fun X hX => pe_ifExp (pt_wg hX) (pe_wg hX) (pe_wg hX)) (ed_if (h σ A s) (fun z => h1 z σ A s) fun z => h2 z σ A s)
/-- argument lists, displays -/
theorem xds_nil : XDs Γ ρ [] [] := fun σ A s => up_a (fun X h => pa_nil) eds_nil
theorem xds_cons (h : XD Γ ρ e d) (hr : XDs Γ ρ es ds) (n : NS e := by intro _ _; rfl) : XDs Γ ρ (e :: es) (d :: ds) := fun σ A s => up_a (fun X hX => pa_cons (pe_wg hX) (pa_wg hX) (n es X.env)) (eds_cons (h σ A s) (hr σ A s))
theorem xd_tup {x1} (h : XDs Γ ρ es ds) (hl : ds.length ≤ 100000 := by first | decide | simp) : XD Γ ρ (.Tuple es x1 pos) (.tuple ds) := fun σ A s => up_d (fun X hX => pe_tup (pa_wg hX)) (ed_tup (h σ A s) hl)
theorem xd_lst (h : XDs Γ ρ es ds) (hl : ds.length ≤ 100000 := by first | decide | simp) : XD Γ ρ (.List es pos) (.list ds) := fun σ A s => up_d (fun X hX => pe_lst (pa_wg hX)) (ed_lst (h σ A s) hl)
/-- subscripts, slices -/
theorem xd_ix (ha : XD Γ ρ a d1) (hb : XD Γ ρ b d2) (ho : OI Γ d1 d2 z) (hs : PlainIx b := by exact fun _ _ => rfl) : XD Γ ρ (.Subscript a b pos) z := fun σ A s => by
  obtain ⟨r, h1, h2⟩ := ho
  exact up_d (fun X h => pe_ix (h1 X h) (pe_wg h) (pe_wg h) hs) (ed_op (ha σ A s) (hb σ A s) h2)
theorem xo_n : XO Γ ρ none none := fun σ A s => up_o (fun X h => po_none) fun H1 a Q q => q H1 (Ex.refl _)
theorem xo_i {k : Int} (h : XD Γ ρ e (.int k)) : XO Γ ρ (some e) (some k) := fun σ A s => up_o (fun X hX => po_some (pe_wg hX)) (eo_d (h σ A s))
theorem xd_slL {lo hi : Option Expr} {l u : Option Int} {p2 : Pos} (ha : XD Γ ρ a (.list ds)) (h1 : XO Γ ρ lo l) (h2 : XO Γ ρ hi u) : XD Γ ρ (.Subscript a (.Slice lo hi none p2) pos) (.list (cutG ds l u)) := fun σ A s =>
  up_d (fun X h => pe_slice (h.K ▸ sl_list : SlR X (rSlL Γ.W.K)) (pe_wg h) (po_wg h) (po_wg h)) (ed_slL (ha σ A s) (h1 σ A s) (h2 σ A s))
theorem ed_slA {K : Kf} {σ : L2.St} {A : Hp} {ta : TE} {tl th : TO} {lo hi : Option Int} (ha : EvD K ta σ A (.tuple ds)) (h1 : EvO tl σ A lo) (h2 : EvO th σ A hi) : EvD K (tSl (rSlA K) ta tl th) σ A (.tuple (cutG ds lo hi)) := ed_mk fun H a Q q =>
  ha.run a fun v A2 H2 w hv => h1 H2 (a.trans w.h) _ fun H3 a3 => h2 H3 ((a.trans w.h).trans a3) _ fun H4 a4 => by
    obtain ⟨p, xs, rfl, hs, hxs⟩ := dp_tup hv
    have w4 := w.trans (Gw.grow w.k (a3.trans a4))
    refine ⟨p, xs, rfl, ex_t w4.k hs, fun hw => ?_, fun hn l hl => q _ _ _ (w4.trans (Gw.new w4.k hl)) (.tup (st_of upd_same) (dpa_cut (hxs.ex (Ex.new (none_back w4.k hl))) _ _))⟩
    rw [hxs.len] at hw
    have e : cutG ds lo hi = ds := by
      unfold cutG
      rw [hw.1, hw.2]
      simp
    rw [e] at q
    exact q _ _ _ w4 (.tup hs hxs)
theorem xd_slT {lo hi : Option Expr} {l u : Option Int} {p2 : Pos} (ha : XD Γ ρ a (.tuple ds)) (h1 : XO Γ ρ lo l) (h2 : XO Γ ρ hi u) : XD Γ ρ (.Subscript a (.Slice lo hi none p2) pos) (.tuple (cutG ds l u)) := fun σ A s =>
  up_d (fun X h => pe_slice (h.K ▸ sl_tupA : SlR X (rSlA Γ.W.K)) (pe_wg h) (po_wg h) (po_wg h)) (ed_slA (ha σ A s) (h1 σ A s) (h2 σ A s))
end
end Ev
namespace Ev
open PySem PySem.Spec PyProof.Rows L2 Evl
/-! ### operations on data -/
section
variable {Γ : Gm} {K : Kf} {d e z : PyData} {ds es : List PyData} {i j : Int} {x y : Str}
theorem oc_v {op : CmpOp} {b : Bool} {r : R2} (ho : ∀ X, Has Γ X → OpR X (compareOp op) r) (hr : ∀ x y A H, Ex A H → Dp Γ.W.K A x d → Dp Γ.W.K A y e → ∀ Q : VK, Q (.bl b) H → r x y H Q) : OC Γ op d e b :=
  ⟨r, ho, rd_v hr fun _ => .bl _⟩
theorem oc_is {op : CmpOp} {b b' : Bool} (h : OC Γ op d e b) (q : b = b') : OC Γ op d e b' := q ▸ h
theorem ob_add : OB Γ .Add (.int i) (.int j) (.int (i + j)) := ⟨_, fun X h => op_add, rd_I0 fun _ => .int _⟩
theorem ob_sub : OB Γ .Sub (.int i) (.int j) (.int (i - j)) := ⟨_, fun X h => op_sub, rd_I0 fun _ => .int _⟩
theorem ob_mul (hc : CMul i j) : OB Γ .Mult (.int i) (.int j) (.int (i * j)) := ⟨_, fun X h => op_mul, rd_I hc fun _ => .int _⟩
theorem ob_mod (hc : 0 < j) : OB Γ .Mod (.int i) (.int j) (.int (i % j)) := ⟨_, fun X h => op_mod, rd_I hc fun _ => .int _⟩
theorem ob_div (hc : CDiv i j) : OB Γ .FloorDiv (.int i) (.int j) (.int (i / j)) := ⟨_, fun X h => op_fdiv, rd_I hc fun _ => .int _⟩
theorem ob_addS (hz : x.length + y.length ≤ 100000) : OB Γ .Add (.str x) (.str y) (.str (x ++ y)) := ⟨_, fun X h => op_add_str, rd_v (z := .str (x ++ y)) (fun u v A H a hx hy Q q => by
  rw [dp_str hx, dp_str hy]
  exact ⟨x, y, rfl, rfl, sz_of hz, q⟩) fun _ => .str _⟩
theorem oc_lt : OC Γ .Lt (.int i) (.int j) (decide (i < j)) := ⟨_, fun X h => op_lt, rd_I0 fun _ => .bl _⟩
theorem oc_le : OC Γ .LtE (.int i) (.int j) (decide (i ≤ j)) := ⟨_, fun X h => op_le, rd_I0 fun _ => .bl _⟩
theorem oc_gt : OC Γ .Gt (.int i) (.int j) (decide (j < i)) := ⟨_, fun X h => op_gt, rd_I0 fun _ => .bl _⟩
theorem oc_ge : OC Γ .GtE (.int i) (.int j) (decide (j ≤ i)) := ⟨_, fun X h => op_ge, rd_I0 fun _ => .bl _⟩
theorem oc_eqI : OC Γ .Eq (.int i) (.int j) (decide (i = j)) := oc_v (fun X h => op_eq) fun x y A H a hx hy Q q => by
  rw [dp_int hx, dp_int hy]
  have e : decide (V.int i = V.int j) = decide (i = j) := by simp
  exact ⟨rfl, by rw [e]; exact q⟩
theorem oc_neI : OC Γ .NotEq (.int i) (.int j) (!decide (i = j)) := oc_v (fun X h => op_ne) fun x y A H a hx hy Q q => by
  rw [dp_int hx, dp_int hy]
  have e : decide (V.int i = V.int j) = decide (i = j) := by simp
  exact ⟨rfl, by rw [e]; exact q⟩
theorem oc_eqS : OC Γ .Eq (.str x) (.str y) (decide (x = y)) := oc_v (fun X h => op_eq) fun u v A H a hx hy Q q => by
  rw [dp_str hx, dp_str hy]
  have e : decide (V.str x = V.str y) = decide (x = y) := by simp
  exact ⟨rfl, by rw [e]; exact q⟩
theorem oc_neS : OC Γ .NotEq (.str x) (.str y) (!decide (x = y)) := oc_v (fun X h => op_ne) fun u v A H a hx hy Q q => by
  rw [dp_str hx, dp_str hy]
  have e : decide (V.str x = V.str y) = decide (x = y) := by simp
  exact ⟨rfl, by rw [e]; exact q⟩
theorem oc_eqD (sd : SeqAt.shaped d = true) (se : SeqAt.shaped e = true) : OC Γ .Eq d e (PyData.eqv d e) := oc_v (r := rEqD Γ.W.K) (fun X h => by have z := op_eqD (X := X) h.room.units; rw [h.K] at z; exact z) fun u v A H a hx hy Q q => ⟨d, e, hx.ex a, hy.ex a, sd, se, q⟩
theorem oc_neD (sd : SeqAt.shaped d = true) (se : SeqAt.shaped e = true) : OC Γ .NotEq d e (!PyData.eqv d e) := oc_v (r := rNeD Γ.W.K) (fun X h => by have z := op_neD (X := X) h.room.units; rw [h.K] at z; exact z) fun u v A H a hx hy Q q => ⟨d, e, hx.ex a, hy.ex a, sd, se, q⟩
theorem oc_isN : OC Γ .Is d .none (nonD d) := oc_v (fun X h => op_isN) fun x y A H a hx hy Q q => by
  rw [dp_non hy]
  have e : decide (x = V.non) = nonD d := by cases hx <;> simp [nonD]
  exact ⟨rfl, by rw [e]; exact q⟩
theorem oc_notN : OC Γ .IsNot d .none (!nonD d) := oc_v (fun X h => op_notN) fun x y A H a hx hy Q q => by
  rw [dp_non hy]
  have e : decide (x = V.non) = nonD d := by cases hx <;> simp [nonD]
  exact ⟨rfl, by rw [e]; exact q⟩
/-- in, not in: flat things in a list, a tuple of flat things -/
def flatD : PyData → Bool
  | .none => true
  | .bool _ => true
  | .int _ => true
  | .str _ => true
  | _ => false
theorem has_of {neg : Bool} {X : Cx} (h : Has Γ X) : OpR X (compareOp (if neg then .NotIn else .In)) (rIn Γ.W.K neg) := by
  cases neg with
  | true => exact h.K ▸ op_notIn_seq
  | false => exact h.K ▸ op_in_seq
theorem oc_inS {ys : List Str} : OC Γ .In (.str x) (.list (ys.map PyData.str)) (decide (x ∈ ys)) := oc_v (r := rIn Γ.W.K false) (fun X h => has_of (neg := false) h) fun u v A H a hx hy Q q => by
  obtain ⟨p, xs, rfl, hs, hxs⟩ := dp_list hy
  rw [dpa_strs_eq hxs] at hs
  rw [dp_str hx]
  refine ⟨p, _, rfl, .inl (ex_l a hs), rfl, flat_str ys, ?_⟩
  rw [inV_strs]
  exact q
theorem oc_niS {ys : List Str} : OC Γ .NotIn (.str x) (.list (ys.map PyData.str)) (!decide (x ∈ ys)) := oc_v (r := rIn Γ.W.K true) (fun X h => has_of (neg := true) h) fun u v A H a hx hy Q q => by
  obtain ⟨p, xs, rfl, hs, hxs⟩ := dp_list hy
  rw [dpa_strs_eq hxs] at hs
  rw [dp_str hx]
  refine ⟨p, _, rfl, .inl (ex_l a hs), rfl, flat_str ys, ?_⟩
  rw [inV_strs]
  exact q
theorem oc_inST {ys : List Str} : OC Γ .In (.str x) (.tuple (ys.map PyData.str)) (decide (x ∈ ys)) := oc_v (r := rIn Γ.W.K false) (fun X h => has_of (neg := false) h) fun u v A H a hx hy Q q => by
  obtain ⟨p, xs, rfl, hs, hxs⟩ := dp_tup hy
  rw [dpa_strs_eq hxs] at hs
  rw [dp_str hx]
  refine ⟨p, _, rfl, .inr (ex_t a hs), rfl, flat_str ys, ?_⟩
  rw [inV_strs]
  exact q
theorem oc_niST {ys : List Str} : OC Γ .NotIn (.str x) (.tuple (ys.map PyData.str)) (!decide (x ∈ ys)) := oc_v (r := rIn Γ.W.K true) (fun X h => has_of (neg := true) h) fun u v A H a hx hy Q q => by
  obtain ⟨p, xs, rfl, hs, hxs⟩ := dp_tup hy
  rw [dpa_strs_eq hxs] at hs
  rw [dp_str hx]
  refine ⟨p, _, rfl, .inr (ex_t a hs), rfl, flat_str ys, ?_⟩
  rw [inV_strs]
  exact q
theorem oc_inI {ys : List Int} : OC Γ .In (.int i) (.list (ys.map PyData.int)) (decide (i ∈ ys)) := oc_v (r := rIn Γ.W.K false) (fun X h => has_of (neg := false) h) fun u v A H a hx hy Q q => by
  obtain ⟨p, xs, rfl, hs, hxs⟩ := dp_list hy
  rw [dpa_ints_eq hxs] at hs
  rw [dp_int hx]
  refine ⟨p, _, rfl, .inl (ex_l a hs), rfl, flat_int ys, ?_⟩
  rw [inV_ints]
  exact q
theorem oc_niI {ys : List Int} : OC Γ .NotIn (.int i) (.list (ys.map PyData.int)) (!decide (i ∈ ys)) := oc_v (r := rIn Γ.W.K true) (fun X h => has_of (neg := true) h) fun u v A H a hx hy Q q => by
  obtain ⟨p, xs, rfl, hs, hxs⟩ := dp_list hy
  rw [dpa_ints_eq hxs] at hs
  rw [dp_int hx]
  refine ⟨p, _, rfl, .inl (ex_l a hs), rfl, flat_int ys, ?_⟩
  rw [inV_ints]
  exact q
theorem oc_inD (sd : SeqAt.shaped d = true) (se : SeqAt.shaped (.list ds) = true) : OC Γ .In d (.list ds) (ds.any fun z => PyData.eqv z d) := oc_v (r := rInD Γ.W.K) (fun X h => by have z := op_inD (X := X) (by have := h.room.un; omega); rw [h.K] at z; exact z) fun u v A H a hx hy Q q => ⟨d, ds, hx.ex a, hy.ex a, sd, se, q⟩
theorem oc_niD (sd : SeqAt.shaped d = true) (se : SeqAt.shaped (.list ds) = true) : OC Γ .NotIn d (.list ds) (!ds.any fun z => PyData.eqv z d) := oc_v (r := rNotInD Γ.W.K) (fun X h => by have z := op_notInD (X := X) (by have := h.room.un; omega); rw [h.K] at z; exact z) fun u v A H a hx hy Q q => ⟨d, ds, hx.ex a, hy.ex a, sd, se, q⟩
/-- one sign in a text -/
theorem oc_sign {c : Nat} : OC Γ .In (.str ⟨#[c]⟩) (.str y) (decide (c ∈ y.cps.toList)) := oc_v (fun X h => op_in_sign) fun u v A H a hx hy Q q => by
  rw [dp_str hx, dp_str hy]
  exact ⟨c, y, rfl, rfl, q⟩
theorem oc_nosign {c : Nat} : OC Γ .NotIn (.str ⟨#[c]⟩) (.str y) (!decide (c ∈ y.cps.toList)) := oc_v (fun X h => op_notIn_sign) fun u v A H a hx hy Q q => by
  rw [dp_str hx, dp_str hy]
  exact ⟨c, y, rfl, rfl, q⟩
/-- subscripts -/
theorem oi_L (h : atI ds i = some z) : OI Γ (.list ds) (.int i) z := ⟨rIxL Γ.W.K, fun X h => h.K ▸ ix_list, rd_ixL h⟩
theorem oi_T (h : atI ds i = some z) : OI Γ (.tuple ds) (.int i) z := ⟨rIxT Γ.W.K, fun X h => h.K ▸ ix_tup, rd_ixT h⟩
theorem oi_S {c : Nat} (hl : x.length ≤ 100000) (h : atI x.cps.toList i = some c) : OI Γ (.str x) (.int i) (.str ⟨#[c]⟩) := ⟨rIxS, fun X h => ix_str, rd_v (z := .str ⟨#[c]⟩) (fun u v A H a hx hy Q q => by
  rw [dp_str hx, dp_int hy]
  exact ⟨x, i, c, rfl, rfl, sz_of hl, h, q⟩) fun _ => .str _⟩
/-- tuple + tuple -/
theorem ob_catT (hz : ds.length + es.length ≤ 100000) : OB Γ .Add (.tuple ds) (.tuple es) (.tuple (ds ++ es)) := ⟨rCatA Γ.W.K, fun X h => h.K ▸ op_catA, fun u v A H a hx hy Q q => by
  obtain ⟨p, xs, rfl, hs, hxs⟩ := dp_tup hx
  obtain ⟨p', xs', rfl, hs', hxs'⟩ := dp_tup hy
  refine ⟨p, p', xs, xs', rfl, rfl, ex_t a hs, ex_t a hs', by rw [hxs.len, hxs'.len]; exact sz_of hz, fun z => ?_, fun _ z => ?_, fun _ _ l hl => q _ _ _ (Gw.new a hl) (.tup (st_of upd_same) ((hxs.append hxs').ex (Ex.new (none_back a hl))))⟩
  · subst z
    cases hxs
    exact q _ A H (Gw.refl a) (.tup hs' hxs')
  · subst z
    cases hxs'
    rw [List.append_nil] at q
    exact q _ A H (Gw.refl a) (.tup hs hxs)⟩
/-- list + list, wherever the two stand -/
def rCatL (K : Kf) : R2 := fun x y H Q => ∃ l b xs zs, x = .ref l ∧ y = .ref b ∧ SqL K H l xs ∧ SqL K H b zs ∧ xs.length + zs.length ≤ sizeLine ∧ ∀ p, H p = Option.none → Q (.ref p) (upd H p (.lst (xs ++ zs)))
theorem op_catL {X : Cx} : OpR X (binaryOp .Add) (rCatL X.K) := by
  intro pins s σ H x y v u Q I rx ry h
  obtain ⟨l, b, xs, zs, rfl, rfl, hH, hB, hz, q⟩ := h
  cases rx
  cases ry
  obtain ⟨is1, r1, ⟨⟨c1, d1, da1, s1⟩, n1, e1, k1, k2, k3⟩, _⟩ := I.list hH
  obtain ⟨is2, r2, ⟨⟨c2, d2, da2, s2⟩, n2, e2, m1, m2, m3⟩, _⟩ := I.list hB
  simp only at k1 k3 m1 m3
  subst k1 k3 m1 m3
  have w1 := r1.length
  have w2 := r2.length
  refine PySem.concat_meets ⟨_, e1, rfl⟩ ⟨_, e2, rfl⟩ PySem.noFill_list_add PySem.seq_list_add PySem.F.slot_list_add PySem.F.entry_list_add (PySem.F.args_list_add_2 _ _)
    (PyProof.Rows.list_addW l b is1.toArray is2.toArray n1 n2 d1 d2 s1 s2 (by rw [List.size_toArray, List.size_toArray]; omega)) ⟨e1, e2, ?_⟩
  have ea : is1.toArray ++ is2.toArray = (is1 ++ is2).toArray := by simp
  rw [ea]
  exact ⟨.ref _, _, I.lnew (t' := s.toks) (r1.append r2) (by rw [List.length_append]; omega), rfl, q _ I.fresh⟩
theorem ob_catL (hz : ds.length + es.length ≤ 100000) : OB Γ .Add (.list ds) (.list es) (.list (ds ++ es)) := ⟨rCatL Γ.W.K, fun X h => h.K ▸ op_catL, fun u v A H a hx hy Q q => by
  obtain ⟨p, xs, rfl, hs, hxs⟩ := dp_list hx
  obtain ⟨p', xs', rfl, hs', hxs'⟩ := dp_list hy
  exact ⟨p, p', xs, xs', rfl, rfl, ex_l a hs, ex_l a hs', by rw [hxs.len, hxs'.len]; exact sz_of hz, fun l hl => q _ _ _ (Gw.new a hl) (.lst (sq_of upd_same) ((hxs.append hxs').ex (Ex.new (none_back a hl))))⟩⟩
/-! ### calls of built-ins -/
variable {ρ : Rho} {e1 : Expr} {es1 : List Expr} {pos p : Pos} {f : Str}
theorem xd_callB {id : String} (hv : bootBuiltins f = some (.builtin id)) (hm : Γ.W.mg f = Option.none) (ha : XDs Γ ρ (e1 :: es1) ds) (ho : OF Γ (.builtin id) ds d) (g : Glo Γ f := by rfl) (n : NS e1 := by intro _ _; rfl) (ns : NSs es1 := by intro _ _; rfl)
    (hn : f ≠ "__name__" := by decide) (hdb : (f == ("__debug__" : Str)) = false := by decide) : XD Γ ρ (.Call (.Name f p) (e1 :: es1) [] pos) d := fun σ A s => by
  obtain ⟨r, h1, h2⟩ := ho
  exact up_d (fun X h => pe_callB (h1 X h) (gl_of h g) (by rw [h.mg]; exact hm) hv (pa_wg h) hn hdb (n es1 X.env) (ns pos X.env)) (ed_cb (ha σ A s) fun vs A1 H1 _ k hvs Q q => h2 vs A1 H1 k hvs Q q)
theorem xd_callT {T : String} (hv : bootBuiltins f = some (.type T)) (hm : Γ.W.mg f = Option.none) (ha : XDs Γ ρ (e1 :: es1) ds) (ho : OF Γ (.type T) ds d) (g : Glo Γ f := by rfl) (n : NS e1 := by intro _ _; rfl) (ns : NSs es1 := by intro _ _; rfl)
    (hn : f ≠ "__name__" := by decide) (hdb : (f == ("__debug__" : Str)) = false := by decide) : XD Γ ρ (.Call (.Name f p) (e1 :: es1) [] pos) d := fun σ A s => by
  obtain ⟨r, h1, h2⟩ := ho
  exact up_d (fun X h => pe_callTy (h1 X h) (gl_of h g) (by rw [h.mg]; exact hm) hv (pa_wg h) hn hdb (n es1 X.env) (ns pos X.env)) (ed_cb (ha σ A s) fun vs A1 H1 _ k hvs Q q => h2 vs A1 H1 k hvs Q q)
theorem of_lenL : OF Γ (.builtin "len") [.list ds] (.int ds.length) := ⟨rLenQ Γ.W.K, fun X h => h.K ▸ call_len_seq, fun vs A H a hvs Q q => by
  obtain ⟨v, rfl, hv⟩ := dpa1 hvs
  obtain ⟨p, xs, rfl, hs, hxs⟩ := dp_list hv
  refine ⟨p, xs, rfl, .inl (ex_l a hs), ?_⟩
  rw [hxs.len]
  exact q _ A H (Gw.refl a) (.int _)⟩
theorem of_lenT : OF Γ (.builtin "len") [.tuple ds] (.int ds.length) := ⟨rLenQ Γ.W.K, fun X h => h.K ▸ call_len_seq, fun vs A H a hvs Q q => by
  obtain ⟨v, rfl, hv⟩ := dpa1 hvs
  obtain ⟨p, xs, rfl, hs, hxs⟩ := dp_tup hv
  refine ⟨p, xs, rfl, .inr (ex_t a hs), ?_⟩
  rw [hxs.len]
  exact q _ A H (Gw.refl a) (.int _)⟩
theorem of_lenS (hl : x.length ≤ 100000) : OF Γ (.builtin "len") [.str x] (.int x.length) := ⟨rLenZ, fun X h => call_len_str, fun vs A H a hvs Q q => by
  obtain ⟨v, rfl, hv⟩ := dpa1 hvs
  rw [dp_str hv]
  exact ⟨x, rfl, sz_of hl, q _ A H (Gw.refl a) (.int _)⟩⟩
theorem of_tupL : OF Γ (.type "tuple") [.list ds] (.tuple ds) := ⟨rTupOf Γ.W.K, fun X h => h.K ▸ call_tuple_of, fun vs A H a hvs Q q => by
  obtain ⟨v, rfl, hv⟩ := dpa1 hvs
  obtain ⟨p, xs, rfl, hs, hxs⟩ := dp_list hv
  exact ⟨p, xs, rfl, .inl ⟨ex_l a hs, fun l hl => q _ _ _ (Gw.new a hl) (.tup (st_of upd_same) (hxs.ex (Ex.new (none_back a hl))))⟩⟩⟩
theorem of_lstT : OF Γ (.type "list") [.tuple ds] (.list ds) := ⟨rLstOf Γ.W.K, fun X h => h.K ▸ call_list_of, fun vs A H a hvs Q q => by
  obtain ⟨v, rfl, hv⟩ := dpa1 hvs
  obtain ⟨p, xs, rfl, hs, hxs⟩ := dp_tup hv
  exact ⟨p, xs, rfl, .inr (ex_t a hs), fun l hl => q _ _ _ (Gw.new a hl) (.lst (sq_of upd_same) (hxs.ex (Ex.new (none_back a hl))))⟩⟩
theorem of_lstL : OF Γ (.type "list") [.list ds] (.list ds) := ⟨rLstOf Γ.W.K, fun X h => h.K ▸ call_list_of, fun vs A H a hvs Q q => by
  obtain ⟨v, rfl, hv⟩ := dpa1 hvs
  obtain ⟨p, xs, rfl, hs, hxs⟩ := dp_list hv
  exact ⟨p, xs, rfl, .inl (ex_l a hs), fun l hl => q _ _ _ (Gw.new a hl) (.lst (sq_of upd_same) (hxs.ex (Ex.new (none_back a hl))))⟩⟩
theorem of_all {bs : List Bool} : OF Γ (.builtin "all") [.list (bs.map PyData.bool)] (.bool (bs.all id)) := ⟨rAll Γ.W.K, fun X h => h.K ▸ cr_all h.calm, fun vs A H a hvs Q q => by
  obtain ⟨v, rfl, hv⟩ := dpa1 hvs
  obtain ⟨p, xs, rfl, hs, hxs⟩ := dp_list hv
  rw [dpa_bls_eq hxs] at hs
  exact ⟨p, bs, rfl, ex_l a hs, q _ A H (Gw.refl a) (.bl _)⟩⟩
theorem of_min : OF Γ (.builtin "min") [.int i, .int j] (.int (if j < i then j else i)) := ⟨_, fun X h => call_min2 h.calm, fun vs A H a hvs Q q => by
  obtain ⟨v, w, rfl, hv, hw⟩ := dpa2 hvs
  rw [dp_int hv, dp_int hw]
  exact ⟨i, j, rfl, q _ A H (Gw.refl a) (.int _)⟩⟩
theorem of_intB {b : Bool} : OF Γ (.type "int") [.bool b] (.int (if b then 1 else 0)) := ⟨_, fun X h => call_int1, fun vs A H a hvs Q q => by
  obtain ⟨v, rfl, hv⟩ := dpa1 hvs
  rw [dp_bl hv]
  exact .inr ⟨b, rfl, q _ A H (Gw.refl a) (.int _)⟩⟩
theorem of_intS (hn : PySem.intText? x = some i) (hl : x.length ≤ 640) : OF Γ (.type "int") [.str x] (.int i) := ⟨_, fun X h => call_int_str, fun vs A H a hvs Q q => by
  obtain ⟨v, rfl, hv⟩ := dpa1 hvs
  rw [dp_str hv]
  exact ⟨x, i, rfl, hn, hl, q _ A H (Gw.refl a) (.int _)⟩⟩
theorem of_strI (hl : i.natAbs.log2 < 1920) : OF Γ (.type "str") [.int i] (.str (toString i)) := ⟨_, fun X h => call_str_int, fun vs A H a hvs Q q => by
  obtain ⟨v, rfl, hv⟩ := dpa1 hvs
  rw [dp_int hv]
  exact ⟨i, rfl, hl, q _ A H (Gw.refl a) (.str _)⟩⟩
/-- isinstance(x, T), T a built-in type that is written by its name -/
theorem xd_isi {T : String} {b : Bool} {f2 : Str} {p2 : Pos} (hm : Γ.W.mg "isinstance" = Option.none) (hm2 : Γ.W.mg f2 = Option.none) (hv2 : bootBuiltins f2 = some (.type T)) (ha : XD Γ ρ e1 d) (hk : kitB (tyD d) T = some b) (g : Glo Γ "isinstance" := by rfl) (g2 : Glo Γ f2 := by rfl) (n : NS e1 := by intro _ _; rfl)
    (hn : f2 ≠ "__name__" := by decide) (hdb : (f2 == ("__debug__" : Str)) = false := by decide) : XD Γ ρ (.Call (.Name "isinstance" p) [e1, .Name f2 p2] [] pos) (.bool b) := fun σ A s =>
  up_d (fun X h => pe_callB (h.K ▸ call_isi : CallR X _ (rIsi Γ.W.K)) (gl_of h g) (by rw [h.mg]; exact hm) boot_isinstance (pa_cons (pe_wg h) (pa_cons (pe_bltn (v := .ty T) (gl_of h g2) (by rw [h.mg]; exact hm2) hv2 rfl hn hdb) pa_nil rfl) (n _ X.env)) (by decide) (by decide) (n _ X.env) rfl) (ed_isi (ha σ A s) hk)
/-! ### calls of the text's own defs -/
/-- a def under its name: it keeps the promise -/
def Fk (W : Wd) (k : Nat) (f : Str) (ps : List Str) (sp : Sp) : Prop := ∃ a fd, W.mg f = some (.ref a) ∧ PySem.W.keepIn W.K (.ref a) = true ∧ Binds W.K fd ps [] ∧ FnOk W.P W.w W.K W.mg W.base (L2.CX W.P W.w) k a fd ps sp
/-- a promise on data -/
def spD (K : Kf) (n : Nat) (R : List PyData → PyData → Prop) : Sp := fun vs H Q _ => ∃ A ds d, ds.length = n ∧ Ex A H ∧ DpAll K A vs ds ∧ R ds d ∧ Out K d A H Q
theorem xd_call {k n : Nat} {ps : List Str} {R : List PyData → PyData → Prop} (F : Fk Γ.W k f ps (spD Γ.W.K n R)) (ha : XDs Γ ρ (e1 :: es1) ds) (hR : R ds d) (hl : ds.length = n := by rfl) (hk : Nat.ble k Γ.k = true := by rfl) (g : Glo Γ f := by rfl) (ne : NS e1 := by intro _ _; rfl) (ns : NSs es1 := by intro _ _; rfl)
    (hdb : (f == ("__debug__" : Str)) = false := by decide) : XD Γ ρ (.Call (.Name f p) (e1 :: es1) [] pos) d := fun σ A s => by
  obtain ⟨a, fd, h1, h2, h3, h4⟩ := F
  exact up_d (fun X h => by
    obtain ⟨u1, u2, u3, u4, u5⟩ : X.prog = Γ.W.P ∧ X.w = Γ.W.w ∧ X.K = Γ.W.K ∧ X.mg = Γ.W.mg ∧ X.base = Γ.W.base := ⟨h.prog, h.w, h.K, h.mg, h.base⟩
    exact pe_call (CX := L2.CX X.prog X.w) (E := E0) (dvs := []) (ds := []) (fd := fd) (ps := ps) (by rw [u1, u2, u3, u4, u5]; exact h4) (h.room.mono (Nat.le_of_ble_eq_true hk)) (gl_of h g) (by rw [u4]; exact h1) (by rw [u3]; exact h2) (by rw [u3]; exact h3) .nil passL (pa_wg h) hdb (ne es1 X.env) (ns pos X.env))
    (ed_call (sp := spD Γ.W.K n R) (ha σ A s) fun vs A1 H1 _ b hvs Q q => ⟨A1, ds, d, hl, b, hvs, hR, q⟩)
end
end Ev
namespace Ev
open PySem PySem.Spec PyProof.Rows L2 Evl
/-! ### things that change -/
inductive MO where
  | lst (ds : List PyData)
  | obj (C : Addr) (fs : List (Str × PyData))
  | dct (kvs : List (Key × PyData))
  | tab (P : Addr) (q : Str)
  | rfs (is : List Nat)
  | gone
def MoOk (K : Kf) (A H : Hp) (ps : List Addr) (p : Addr) : MO → Prop
  | .lst ds => ∃ xs, H p = some (.lst xs) ∧ DpAll K A xs ds
  | .obj C fs => ∃ dx gs, H p = some (.ins C dx gs) ∧ H dx = some (.own p) ∧ gs.map (·.1) = fs.map (·.1) ∧ DpAll K A (gs.map (·.2)) (fs.map (·.2))
  | .dct kvs => ∃ vs, H p = some (.dK vs) ∧ vs.map (·.1) = kvs.map (·.1) ∧ DpAll K A (vs.map (·.2)) (kvs.map (·.2))
  | .tab P q => p = P ∧ LamX.TabS H p q
  | .rfs is => ∃ qs : List Addr, H p = some (.lst (qs.map .ref)) ∧ is.map (fun i => ps[i]?) = qs.map some
  | .gone => ∃ xs, H p = some (.lst xs)
theorem MoOk.mono {K : Kf} {A H A1 H1 : Hp} {ps : List Addr} {p : Addr} {m : MO} (h : MoOk K A H ps p m) (a : Ex A A1) (e : Ex H H1) : MoOk K A1 H1 ps p m := by
  cases m with
  | lst ds =>
    obtain ⟨xs, h1, h2⟩ := h
    exact ⟨xs, e _ _ h1, h2.ex a⟩
  | obj C fs =>
    obtain ⟨dx, gs, h1, h2, h3, h4⟩ := h
    exact ⟨dx, gs, e _ _ h1, e _ _ h2, h3, h4.ex a⟩
  | dct kvs =>
    obtain ⟨vs, h1, h2, h3⟩ := h
    exact ⟨vs, e _ _ h1, h2, h3.ex a⟩
  | tab P q => exact ⟨h.1, LamX.TabS.ext h.2 e⟩
  | rfs is =>
    obtain ⟨qs, h1, h2⟩ := h
    exact ⟨qs, e _ _ h1, h2⟩
  | gone =>
    obtain ⟨xs, h1⟩ := h
    exact ⟨xs, e _ _ h1⟩
theorem MoOk.more {K : Kf} {A H : Hp} {ps t : List Addr} {p : Addr} {m : MO} (h : MoOk K A H ps p m) : MoOk K A H (ps ++ t) p m := by
  cases m with
  | rfs is =>
    obtain ⟨qs, h1, h2⟩ := h
    refine ⟨qs, h1, ?_⟩
    rw [← h2]
    apply List.map_congr_left
    intro i hi
    have h3 : (is.map fun i => ps[i]?) = qs.map some := h2
    have h4 : ps[i]? ∈ qs.map some := by
      rw [← h3]
      exact List.mem_map.mpr ⟨i, hi, rfl⟩
    obtain ⟨q, _, hq⟩ := List.mem_map.mp h4
    exact List.getElem?_append_left (List.getElem?_eq_some_iff.mp hq.symm).1
  | _ => exact h
/-- what stands at b is not what changes when o does -/
def noHit (o : HO) : Prop := (∀ q, o ≠ .own q) ∧ ∀ φ, o ≠ .ext φ
theorem MoOk.keep {K : Kf} {A H H' : Hp} {ps : List Addr} {p p0 : Addr} {o : HO} {m : MO} (h : MoOk K A H ps p m) (np : p ≠ p0) (k : ∀ b u, b ≠ p0 → H b = some u → H' b = some u) (h0 : H p0 = some o) (nh : noHit o) : MoOk K A H' ps p m := by
  cases m with
  | lst ds =>
    obtain ⟨xs, a1, a2⟩ := h
    exact ⟨xs, k _ _ np a1, a2⟩
  | obj C fs =>
    obtain ⟨dx, gs, a1, a2, a3, a4⟩ := h
    refine ⟨dx, gs, k _ _ np a1, k _ _ (fun e => ?_) a2, a3, a4⟩
    rw [e, h0] at a2
    exact nh.1 _ (Option.some.inj a2)
  | dct kvs =>
    obtain ⟨vs, a1, a2, a3⟩ := h
    exact ⟨vs, k _ _ np a1, a2, a3⟩
  | tab P q =>
    obtain ⟨a0, xs, a1, a2, a3⟩ := h
    refine ⟨a0, xs, k _ _ np a1, a2, fun pos cv hc => ?_⟩
    obtain ⟨c, e1, e2⟩ := a3 pos cv hc
    refine ⟨c, e1, k _ _ (fun e => ?_) e2⟩
    rw [e, h0] at e2
    exact nh.2 _ (Option.some.inj e2)
  | rfs is =>
    obtain ⟨qs, a1, a2⟩ := h
    exact ⟨qs, k _ _ np a1, a2⟩
  | gone =>
    obtain ⟨xs, a1⟩ := h
    exact ⟨xs, k _ _ np a1⟩
def isGone : MO → Bool
  | .gone => true
  | _ => false
structure Ms (K : Kf) (A H : Hp) (M : List MO) (ps : List Addr) : Prop where
  ln : M.length = ps.length
  mo : ∀ (j : Nat) (m : MO) (p : Addr), M[j]? = some m → ps[j]? = some p → H p ≠ Option.none ∧ MoOk K A H ps p m ∧ (isGone m = false → A p = Option.none)
  nd : ps.Nodup
/-- from (A, H) to (A1, H1), where only the objects at ps change -/
structure Fx (A H : Hp) (ps : List Addr) (A1 H1 : Hp) : Prop where
  ah : Ex A1 H1
  aa : Ex A A1
  gr : Gr A H A1
  hh : ∀ b o, b ∉ ps → H b = some o → H1 b = some o
  nn : ∀ b, H b ≠ Option.none → H1 b ≠ Option.none
structure Fm where
  A0 : Hp
  H0 : Hp
  ps0 : List Addr
def Rs (σ : L2.St) (ρ : Rho) (ps : List Addr) : Prop := (∀ (i j : Nat), ρ[i]? = some (some (.r j)) → ∃ p, ps[j]? = some p ∧ σ[i]? = some (some (.ref p))) ∧ ∀ (i : Nat) (x : V), ρ[i]? = some (some (.v x)) → σ[i]? = some (some x)
structure En (K : Kf) (F : Fm) (A H : Hp) (σ : L2.St) (ρ : Rho) (M : List MO) (ps : List Addr) : Prop where
  fx : Fx F.A0 F.H0 F.ps0 A H
  ms : Ms K A H M ps
  sl : Sl K A σ ρ
  rs : Rs σ ρ ps
  nw : ∃ qs, ps = F.ps0 ++ qs ∧ ∀ p ∈ qs, F.H0 p = Option.none
def Rv (K : Kf) (A : Hp) (ps : List Addr) (v : V) : SV → Prop
  | .d x => Dp K A v x
  | .r j => ∃ p, ps[j]? = some p ∧ v = .ref p
  | .v x => v = x
inductive Rvs (K : Kf) (A : Hp) (ps : List Addr) : List V → List SV → Prop
  | nil : Rvs K A ps [] []
  | cons {v : V} {vs : List V} {z : SV} {zs : List SV} : Rv K A ps v z → Rvs K A ps vs zs → Rvs K A ps (v :: vs) (z :: zs)
section
variable {K : Kf} {F : Fm} {A H A1 H1 A2 H2 : Hp} {σ : L2.St} {ρ : Rho} {M M1 : List MO} {ps : List Addr}
theorem Rv.mono {v : V} {z : SV} (h : Rv K A ps v z) (e : Ex A A1) : Rv K A1 ps v z := by
  cases z with
  | d x => exact (show Dp K A v x from h).ex e
  | r j => exact h
  | v x => exact h
theorem Rvs.len {vs : List V} {zs : List SV} (h : Rvs K A ps vs zs) : vs.length = zs.length := by
  induction h with
  | nil => rfl
  | cons _ _ ih => rw [List.length_cons, List.length_cons, ih]
theorem Rvs.mono {vs : List V} {zs : List SV} (h : Rvs K A ps vs zs) (e : Ex A A1) : Rvs K A1 ps vs zs := by
  induction h with
  | nil => exact .nil
  | cons a _ ih => exact .cons (a.mono e) ih
theorem Fx.refl (e : Ex A H) : Fx A H ps A H := ⟨e, Ex.refl _, .self, fun _ _ _ h => h, fun _ h => h⟩
theorem Fx.trans {qs : List Addr} (x : Fx A H ps A1 H1) (y : Fx A1 H1 qs A2 H2) (hq : ∀ b ∈ qs, b ∈ ps ∨ H b = Option.none) : Fx A H ps A2 H2 := ⟨y.ah, x.aa.trans y.aa, fun b hb => by
  rcases y.gr b hb with z | z
  · exact x.gr b z
  · exact .inr (Classical.byContradiction fun w => x.nn b w z), fun b o hb h => y.hh b o (fun hm => by
    rcases hq b hm with z | z
    · exact hb z
    · rw [z] at h
      cases h) (x.hh b o hb h), fun b h => y.nn b (x.nn b h)⟩
theorem Fx.of (w : Gw A H A1 H1) : Fx A H ps A1 H1 := ⟨w.k, w.a, w.g, fun b o _ h => w.h b o h, fun b h => ne_fwd w.h h⟩
theorem Ms.step (h : Ms K A H M ps) (w : Gw A H A1 H1) : Ms K A1 H1 M ps := ⟨h.ln, fun j m p hm hp => by
  obtain ⟨h1, h2, h3⟩ := h.mo j m p hm hp
  refine ⟨ne_fwd w.h h1, h2.mono w.a w.h, fun g => ?_⟩
  cases e : A1 p with
  | none => rfl
  | some o =>
    rcases w.g p (by rw [e]; simp) with z | z
    · exact absurd (h3 g) z
    · exact absurd z h1, h.nd⟩
theorem En.step (E : En K F A H σ ρ M ps) (w : Gw A H A1 H1) : En K F A1 H1 σ ρ M ps := ⟨E.fx.trans (.of (ps := []) w) (fun b h => by cases h), E.ms.step w, E.sl.mono w.a, E.rs, E.nw⟩
theorem En.ah (E : En K F A H σ ρ M ps) : Ex A H := E.fx.ah
theorem nw_mem (E : En K F A H σ ρ M ps) : ∀ b ∈ ps, b ∈ F.ps0 ∨ F.H0 b = Option.none := fun b hb => by
  obtain ⟨qs, e, h⟩ := E.nw
  rw [e] at hb
  rcases List.mem_append.mp hb with z | z
  · exact .inl z
  · exact .inr (h b z)
/-- behind a call that changes what stands at ps -/
theorem En.after (E : En K F A H σ ρ M ps) (x : Fx A H ps A1 H1) (m : Ms K A1 H1 M1 ps) : En K F A1 H1 σ ρ M1 ps := ⟨E.fx.trans x (nw_mem E), m, E.sl.mono x.aa, E.rs, E.nw⟩
theorem set_cases {ρ : Rho} {i k : Nat} {o : Option SV} {z : SV} (h : (ρ.set i o)[k]? = some (some z)) : ((i = k ∧ i < ρ.length) ∧ o = some z) ∨ (i ≠ k ∧ ρ[k]? = some (some z)) := by
  by_cases e : i = k
  · subst e
    by_cases hl : i < ρ.length
    · rw [List.getElem?_set_self hl] at h
      exact .inl ⟨⟨rfl, hl⟩, Option.some.inj h⟩
    · rw [List.set_eq_of_length_le (by omega), List.getElem?_eq_none (by omega)] at h
      cases h
  · rw [List.getElem?_set_ne e] at h
    exact .inr ⟨e, h⟩
theorem En.set {v : V} {d : PyData} (E : En K F A H σ ρ M ps) (i : Nat) (hd : Dp K A v d) : En K F A H (σ.set i (some v)) (ρ.set i (some (.d d))) M ps := ⟨E.fx, E.ms, E.sl.set i hd, ⟨fun k j h => by
  rcases set_cases h with ⟨_, e⟩ | ⟨ne, h⟩
  · cases e
  · rw [List.getElem?_set_ne ne]
    exact E.rs.1 k j h, fun k x h => by
  rcases set_cases h with ⟨_, e⟩ | ⟨ne, h⟩
  · cases e
  · rw [List.getElem?_set_ne ne]
    exact E.rs.2 k x h⟩, E.nw⟩
theorem En.setR {p : Addr} {j0 : Nat} (E : En K F A H σ ρ M ps) (i : Nat) (hp : ps[j0]? = some p) : En K F A H (σ.set i (some (.ref p))) (ρ.set i (some (.r j0))) M ps := ⟨E.fx, E.ms, ⟨by rw [List.length_set, List.length_set]; exact E.sl.1, fun k x h => by
  rcases set_cases h with ⟨_, e⟩ | ⟨ne, h⟩
  · cases e
  · rw [List.getElem?_set_ne ne]
    exact E.sl.2 k x h⟩, ⟨fun k j h => by
  rcases set_cases h with ⟨⟨rfl, hl⟩, e⟩ | ⟨ne, h⟩
  · cases e
    exact ⟨p, hp, by rw [List.getElem?_set_self (by rw [E.sl.1]; exact hl)]⟩
  · rw [List.getElem?_set_ne ne]
    exact E.rs.1 k j h, fun k x h => by
  rcases set_cases h with ⟨_, e⟩ | ⟨ne, h⟩
  · cases e
  · rw [List.getElem?_set_ne ne]
    exact E.rs.2 k x h⟩, E.nw⟩
theorem En.setX (E : En K F A H σ ρ M ps) (i : Nat) (x : V) : En K F A H (σ.set i (some x)) (ρ.set i (some (.v x))) M ps := ⟨E.fx, E.ms, ⟨by rw [List.length_set, List.length_set]; exact E.sl.1, fun k x h => by
  rcases set_cases h with ⟨_, e⟩ | ⟨ne, h⟩
  · cases e
  · rw [List.getElem?_set_ne ne]
    exact E.sl.2 k x h⟩, ⟨fun k j h => by
  rcases set_cases h with ⟨_, e⟩ | ⟨ne, h⟩
  · cases e
  · rw [List.getElem?_set_ne ne]
    exact E.rs.1 k j h, fun k x h => by
  rcases set_cases h with ⟨⟨rfl, hl⟩, e⟩ | ⟨ne, h⟩
  · cases e
    rw [List.getElem?_set_self (by rw [E.sl.1]; exact hl)]
  · rw [List.getElem?_set_ne ne]
    exact E.rs.2 k x h⟩, E.nw⟩
theorem En.setV {v : V} {z : SV} (E : En K F A H σ ρ M ps) (i : Nat) (hd : Rv K A ps v z) : En K F A H (σ.set i (some v)) (ρ.set i (some z)) M ps := by
  cases z with
  | d x => exact E.set i hd
  | r j =>
    obtain ⟨p, h1, rfl⟩ := hd
    exact E.setR i h1
  | v x =>
    have e : v = x := hd
    subst e
    exact E.setX i _
/-- a new thing that will change, at p -/
theorem En.newM {p : Addr} {o : HO} {m : MO} (E : En K F A H σ ρ M ps) (hp : H p = Option.none) (ho : MoOk K A (upd H p o) (ps ++ [p]) p m) : En K F A (upd H p o) σ ρ (M ++ [m]) (ps ++ [p]) := by
  have ap : A p = Option.none := none_back E.ah hp
  have e : Ex H (upd H p o) := Ex.new hp
  have np : p ∉ ps := fun hm => by
    obtain ⟨j, hj, e2⟩ := List.getElem_of_mem hm
    have hl : j < M.length := by rw [E.ms.ln]; exact hj
    exact (E.ms.mo j M[j] p (List.getElem?_eq_getElem hl) (by rw [List.getElem?_eq_getElem hj, e2])).1 hp
  refine ⟨E.fx.trans (ps := F.ps0) (qs := []) ⟨E.ah.trans e, Ex.refl _, .self, fun b u _ h => e b u h, fun b h => ne_fwd e h⟩ (fun b h => by cases h), ⟨by simp [E.ms.ln], fun j m' p' hm hp' => ?_, ?_⟩, E.sl, ⟨fun i j h => ?_, fun i x h => E.rs.2 i x h⟩, ?_⟩
  · by_cases hj : j < M.length
    · rw [List.getElem?_append_left hj] at hm
      rw [List.getElem?_append_left (by rw [← E.ms.ln]; exact hj)] at hp'
      obtain ⟨h1, h2, h3⟩ := E.ms.mo j m' p' hm hp'
      exact ⟨ne_fwd e h1, (h2.mono (Ex.refl _) e).more, h3⟩
    · rw [List.getElem?_append_right (by omega)] at hm
      rw [List.getElem?_append_right (by rw [← E.ms.ln]; omega), ← E.ms.ln] at hp'
      have h0 : j - M.length = 0 := by
        have := (List.getElem?_eq_some_iff.mp hm).1
        simp at this
        omega
      rw [h0] at hm hp'
      cases hm
      cases hp'
      exact ⟨by rw [upd_same]; simp, ho, fun _ => ap⟩
  · rw [List.nodup_append]
    exact ⟨E.ms.nd, by simp, fun a ha b hb e => np (by
      have : b = p := by simpa using hb
      rw [← this, ← e]
      exact ha)⟩
  · obtain ⟨q, h1, h2⟩ := E.rs.1 i j h
    exact ⟨q, by rw [List.getElem?_append_left (List.getElem?_eq_some_iff.mp h1).1]; exact h1, h2⟩
  · obtain ⟨qs, e1, e2⟩ := E.nw
    refine ⟨qs ++ [p], by rw [e1, List.append_assoc], fun b hb => ?_⟩
    rcases List.mem_append.mp hb with z | z
    · exact e2 b z
    · have : b = p := by simpa using z
      rw [this]
      exact Classical.byContradiction fun w => E.fx.nn p w hp
/-- what stands at the j-th place changes -/
theorem En.mut {p : Addr} {o : HO} {m m0 : MO} {j : Nat} (E : En K F A H σ ρ M ps) (hm0 : M[j]? = some m0) (hg : isGone m0 = false) (hp : ps[j]? = some p) {o0 : HO} (h0 : H p = some o0) (nh : noHit o0) (ho : MoOk K A (upd H p o) ps p m) : En K F A (upd H p o) σ ρ (M.set j m) ps := by
  obtain ⟨h1, h2, h3⟩ := E.ms.mo j m0 p hm0 hp
  have ap := h3 hg
  have pm : p ∈ ps := List.mem_of_getElem? hp
  have keep : ∀ b u, b ≠ p → H b = some u → upd H p o b = some u := fun b u hb h => by
    rw [upd_ne hb]
    exact h
  have nn : ∀ b, H b ≠ Option.none → upd H p o b ≠ Option.none := fun b h => by
    by_cases e : b = p
    · rw [e, upd_same]
      simp
    · rw [upd_ne e]
      exact h
  refine ⟨E.fx.trans (qs := [p]) ⟨E.ah.mut ap, Ex.refl _, .self, fun b u hb h => keep b u (fun e => hb (by simp [e])) h, nn⟩ (fun b hb => ?_), ⟨by rw [List.length_set]; exact E.ms.ln, fun i m' p' hm hp' => ?_, E.ms.nd⟩, E.sl, E.rs, E.nw⟩
  · have : b = p := by simpa using hb
    rw [this]
    exact nw_mem E p pm
  · by_cases e : j = i
    · subst e
      rw [hp] at hp'
      cases hp'
      rw [List.getElem?_set_self (List.getElem?_eq_some_iff.mp hm0).1] at hm
      cases hm
      exact ⟨by rw [upd_same]; simp, ho, fun _ => ap⟩
    · rw [List.getElem?_set_ne e] at hm
      obtain ⟨g1, g2, g3⟩ := E.ms.mo i m' p' hm hp'
      have np : p' ≠ p := fun z => e ((List.getElem?_inj (List.getElem?_eq_some_iff.mp hp).1 E.ms.nd).mp (by rw [hp, hp', z]))
      exact ⟨nn p' g1, g2.keep np keep h0 nh, g3⟩
/-- a list of one's own that does not change any more -/
theorem En.freeze {p : Addr} {ds : List PyData} {j : Nat} (E : En K F A H σ ρ M ps) (hm0 : M[j]? = some (.lst ds)) (hp : ps[j]? = some p) (hj : F.ps0.length ≤ j) : ∃ A1, Ex A A1 ∧ En K F A1 H σ ρ (M.set j .gone) ps ∧ Dp K A1 (.ref p) (.list ds) := by
  obtain ⟨h1, ⟨xs, h2, h2'⟩, h3⟩ := E.ms.mo j _ p hm0 hp
  have ap := h3 rfl
  have e : Ex A (upd A p (.lst xs)) := Ex.new ap
  have fp : F.H0 p = Option.none := by
    obtain ⟨qs, e1, e2⟩ := E.nw
    rw [e1, List.getElem?_append_right hj] at hp
    exact e2 p (List.mem_of_getElem? hp)
  have al : ∀ b, upd A p (.lst xs) b ≠ Option.none → A b ≠ Option.none ∨ b = p := fun b hb => by
    by_cases z : b = p
    · exact .inr z
    · rw [upd_ne z] at hb
      exact .inl hb
  refine ⟨upd A p (.lst xs), e, ⟨⟨fun b u hb => ?_, E.fx.aa.trans e, fun b hb => ?_, E.fx.hh, E.fx.nn⟩, ⟨by rw [List.length_set]; exact E.ms.ln, fun i m' p' hm hp' => ?_, E.ms.nd⟩, E.sl.mono e, E.rs, E.nw⟩, .lst (sq_of upd_same) (h2'.ex e)⟩
  · by_cases z : b = p
    · rw [z, upd_same] at hb
      rw [z, h2]
      exact hb
    · rw [upd_ne z] at hb
      exact E.ah b u hb
  · rcases al b hb with z | z
    · exact E.fx.gr b z
    · rw [z]
      exact .inr fp
  · by_cases z : j = i
    · subst z
      rw [List.getElem?_set_self (List.getElem?_eq_some_iff.mp hm0).1] at hm
      cases hm
      rw [hp] at hp'
      cases hp'
      exact ⟨h1, ⟨xs, h2⟩, fun g => by cases g⟩
    · rw [List.getElem?_set_ne z] at hm
      obtain ⟨g1, g2, g3⟩ := E.ms.mo i m' p' hm hp'
      have np : p' ≠ p := fun w => z ((List.getElem?_inj (List.getElem?_eq_some_iff.mp hp).1 E.ms.nd).mp (by rw [hp, hp', w]))
      exact ⟨g1, g2.mono e (Ex.refl _), fun g => by
        rw [upd_ne np]
        exact g3 g⟩
end
/-! ### expressions that read and change things -/
structure Nx (A : Hp) (ps : List Addr) (A1 : Hp) (ps1 : List Addr) : Prop where
  a : Ex A A1
  p : ∃ t, ps1 = ps ++ t
theorem Nx.refl {A : Hp} {ps : List Addr} : Nx A ps A ps := ⟨Ex.refl _, [], by simp⟩
theorem Nx.trans {A A1 A2 : Hp} {ps ps1 ps2 : List Addr} (x : Nx A ps A1 ps1) (y : Nx A1 ps1 A2 ps2) : Nx A ps A2 ps2 := ⟨x.a.trans y.a, by
  obtain ⟨t, h⟩ := x.p
  obtain ⟨u, k⟩ := y.p
  exact ⟨t ++ u, by rw [k, h, List.append_assoc]⟩⟩
theorem Nx.of {A A1 : Hp} {ps : List Addr} (e : Ex A A1) : Nx A ps A1 ps := ⟨e, [], by simp⟩
theorem Nx.at {A A1 : Hp} {ps ps1 : List Addr} (x : Nx A ps A1 ps1) {j : Nat} {p : Addr} (h : ps[j]? = some p) : ps1[j]? = some p := by
  obtain ⟨t, k⟩ := x.p
  rw [k, List.getElem?_append_left (List.getElem?_eq_some_iff.mp h).1]
  exact h
theorem Rv.nx {K : Kf} {A A1 : Hp} {ps ps1 : List Addr} {v : V} {z : SV} (h : Rv K A ps v z) (x : Nx A ps A1 ps1) : Rv K A1 ps1 v z := by
  cases z with
  | d y => exact (show Dp K A v y from h).ex x.a
  | r j =>
    obtain ⟨p, h1, h2⟩ := h
    exact ⟨p, x.at h1, h2⟩
  | v y => exact h
def DX (Γ : Gm) (F : Fm) (ρ : Rho) (M : List MO) (e : Expr) (P : SV → List MO → Prop) : Prop := ∀ A H σ ps, En Γ.W.K F A H σ ρ M ps → ∀ Q : VK, (∀ v z A1 H1 M1 ps1, Nx A ps A1 ps1 → En Γ.W.K F A1 H1 σ ρ M1 ps1 → Rv Γ.W.K A1 ps1 v z → P z M1 → Q v H1) → WG Γ e σ H Q
def DXs (Γ : Gm) (F : Fm) (ρ : Rho) (M : List MO) (es : List Expr) (P : List SV → List MO → Prop) : Prop := ∀ A H σ ps, En Γ.W.K F A H σ ρ M ps → ∀ Q : List V → Hp → Prop, (∀ v z A1 H1 M1 ps1, Nx A ps A1 ps1 → En Γ.W.K F A1 H1 σ ρ M1 ps1 → Rvs Γ.W.K A1 ps1 v z → P z M1 → Q v H1) → WGa Γ es σ H Q
def DT (Γ : Gm) (F : Fm) (ρ : Rho) (M : List MO) (e : Expr) (P : Bool → List MO → Prop) : Prop := ∀ A H σ ps, En Γ.W.K F A H σ ρ M ps → ∀ Q : Bool → Hp → Prop, (∀ b A1 H1 M1 ps1, Nx A ps A1 ps1 → En Γ.W.K F A1 H1 σ ρ M1 ps1 → P b M1 → Q b H1) → WGt Γ e σ H Q
def rhoM (ρ : Rho) (M : List MO) : Rho := ρ.map fun o => match o with
  | some (.r j) => (match M[j]? with
    | some (.lst ds) => some (.d (.list ds))
    | _ => Option.none)
  | o => o
theorem En.slH {K : Kf} {F : Fm} {A H : Hp} {σ : L2.St} {ρ : Rho} {M : List MO} {ps : List Addr} (E : En K F A H σ ρ M ps) : Sl K H σ (rhoM ρ M) := ⟨by rw [E.sl.1]; simp [rhoM], fun i x h => by
  unfold rhoM at h
  rw [List.getElem?_map] at h
  cases e : ρ[i]? with
  | none =>
    rw [e] at h
    cases h
  | some o =>
    rw [e] at h
    cases o with
    | none => cases h
    | some z =>
      cases z with
      | d y =>
        have h' : some (some (SV.d y)) = some (some (.d x)) := h
        cases h'
        obtain ⟨v, h1, h2⟩ := E.sl.2 i x e
        exact ⟨v, h1, h2.ex E.ah⟩
      | r j =>
        obtain ⟨p, h1, h2⟩ := E.rs.1 i j e
        have hj : j < M.length := by
          rw [E.ms.ln]
          exact (List.getElem?_eq_some_iff.mp h1).1
        have hm := List.getElem?_eq_getElem hj
        have h' : some (match M[j]? with
          | some (.lst ds) => some (SV.d (.list ds))
          | _ => Option.none) = some (some (.d x)) := h
        rw [hm] at h'
        obtain ⟨_, g2, _⟩ := E.ms.mo j _ p hm h1
        cases e2 : M[j] with
        | lst ds =>
          rw [e2] at h' g2
          cases h'
          obtain ⟨xs, a1, a2⟩ := g2
          exact ⟨_, h2, .lst (sq_of a1) (a2.ex E.ah)⟩
        | obj C fs =>
          rw [e2] at h'
          cases h'
        | dct kvs =>
          rw [e2] at h'
          cases h'
        | tab P q =>
          rw [e2] at h'
          cases h'
        | rfs is =>
          rw [e2] at h'
          cases h'
        | gone =>
          rw [e2] at h'
          cases h'
      | v y =>
        have h' : some (some (SV.v y)) = some (some (.d x)) := h
        cases h'⟩
theorem dp_flat {K : Kf} {A B : Hp} {v : V} {d : PyData} (h : Dp K A v d) (f : flatD d = true) : Dp K B v d := by
  cases h with
  | non => exact .non
  | bl b => exact .bl b
  | int i => exact .int i
  | str x => exact .str x
  | lst _ _ => cases f
  | tup _ _ => cases f
section
variable {Γ : Gm} {F : Fm} {ρ : Rho} {M : List MO} {e a b c : Expr} {es rest : List Expr} {d : PyData} {P : SV → List MO → Prop} {PT : Bool → List MO → Prop} {pos : Pos}
theorem dx_d (h : XD Γ ρ e d) (p : P (.d d) M) : DX Γ F ρ M e P := fun A H σ ps E Q q => (h σ A E.sl).run E.ah fun v A1 H1 w hv => q v (.d d) A1 H1 M ps (.of w.a) (E.step w) hv p
theorem dx_m (h : XD Γ (rhoM ρ M) e d) (f : flatD d = true) (p : P (.d d) M) : DX Γ F ρ M e P := fun A H σ ps E Q q => (h σ H E.slH).run (Ex.refl H) fun v A1 H1 w hv => q v (.d d) A H1 M ps .refl (E.step (Gw.grow E.ah w.h)) (dp_flat hv f) p
theorem dx_r {i j : Nat} {x : Str} (hN : Γ.N[i]? = some x) (hr : ρ[i]? = some (some (.r j))) (p : P (.r j) M) (hv : Vis Γ.sc x := by first | exact Or.inl rfl | exact Or.inr (Or.inl rfl) | exact Or.inr (Or.inr rfl)) (hd : (x == ("__debug__" : Str)) = false := by decide) (hcd : (x == ("__classdict__" : Str)) = false := by decide) :
    DX Γ F ρ M (.Name x pos) P := fun A H σ ps E Q q => by
  obtain ⟨a, h1, h2⟩ := E.rs.1 i j hr
  exact WG.of (te := tVar i) (fun X h => pe_var (by rw [h.N]; exact hN) (by rw [h.sc]; exact hv) hd hcd) ⟨_, h2, q _ (.r j) A H M ps .refl E ⟨a, h1, rfl⟩ p⟩
theorem DX.mono {P' : SV → List MO → Prop} (h : DX Γ F ρ M e P) (i : ∀ z M1, P z M1 → P' z M1) : DX Γ F ρ M e P' := fun A H σ ps E Q q => h A H σ ps E Q fun v z A1 H1 M1 ps1 a E1 r p => q v z A1 H1 M1 ps1 a E1 r (i z M1 p)
theorem DT.mono {P' : Bool → List MO → Prop} (h : DT Γ F ρ M e PT) (i : ∀ z M1, PT z M1 → P' z M1) : DT Γ F ρ M e P' := fun A H σ ps E Q q => h A H σ ps E Q fun v A1 H1 M1 ps1 a E1 p => q v A1 H1 M1 ps1 a E1 (i v M1 p)
theorem dt_t {k : Bool} (h : XT Γ ρ e k) (p : PT k M) : DT Γ F ρ M e PT := fun A H σ ps E Q q => h σ A E.sl H E.ah Q fun H1 e1 => q k A H1 M ps .refl (E.step (Gw.grow E.ah e1)) p
theorem dt_m {k : Bool} (h : XT Γ (rhoM ρ M) e k) (p : PT k M) : DT Γ F ρ M e PT := fun A H σ ps E Q q => h σ H E.slH H (Ex.refl H) Q fun H1 e1 => q k A H1 M ps .refl (E.step (Gw.grow E.ah e1)) p
theorem dt_v (h : DX Γ F ρ M e fun z M1 => ∃ k, z = .d (.bool k) ∧ PT k M1) (he : ∀ env whole, isTrue e env whole = (do let v ← whole; standAt e.pos; holding [v] (truthy v)) := by intro _ _; rfl) : DT Γ F ρ M e PT := fun A H σ ps E Q q =>
  WGt.of (te := tB (WG Γ e)) (fun X hX => pt_val (pe_wg hX) (he X.env)) (h A H σ ps E _ fun v z A1 H1 M1 ps1 a E1 r ⟨k, hk, p⟩ => ⟨k, by subst hk; exact dp_bl r, q k A1 H1 M1 ps1 a E1 p⟩)
theorem dt_not (h : DT Γ F ρ M a fun k M1 => PT (!k) M1) : DT Γ F ρ M (.UnaryOp .Not a pos) PT := fun A H σ ps E Q q => WGt.of (te := tNot (WGt Γ a)) (fun X hX => pt_not (pt_wg hX)) (h A H σ ps E _ fun k A1 H1 M1 ps1 a E1 p => q (!k) A1 H1 M1 ps1 a E1 p)
end
end Ev
namespace Ev
open PySem PySem.Spec PyProof.Rows L2 Evl
/-- the widest operations -/
def wOp (Γ : Gm) (f : Value → Value → Sem Value) : R2 := fun x y H Q => ∀ X, Has Γ X → ∀ pins s σ v u, Inv X pins σ H s → RelV x v → RelV y u → wpAny (model X.prog X.w) X.A (f v u) (EP X pins σ Q) X.xe s
theorem op_w {Γ : Gm} {X : Cx} {f : Value → Value → Sem Value} (h : Has Γ X) : OpR X f (wOp Γ f) := fun pins s σ H x y v u Q I rx ry q => q X h pins s σ v u I rx ry
theorem wOp.of {Γ : Gm} {f : Value → Value → Sem Value} {r : R2} {x y : V} {H : Hp} {Q : VK} (ho : ∀ X, Has Γ X → OpR X f r) (h : r x y H Q) : wOp Γ f x y H Q := fun X hX pins s σ v u I rx ry => ho X hX pins s σ H x y v u Q I rx ry h
def wIx (Γ : Gm) : R2 := fun x y H Q => ∀ X, Has Γ X → ∀ value slice pins s σ v u, Inv X pins σ H s → RelV x v → RelV y u → subscripted slice false v u = operate [v, u] (getItem v u) → wpAny (model X.prog X.w) X.A (subscriptTail value slice v u) (EP X pins σ Q) X.xe s
theorem ix_w {Γ : Gm} {X : Cx} (h : Has Γ X) : IxR X (wIx Γ) := fun value slice pins s σ H x y v u Q I rx ry q hs => q X h value slice pins s σ v u I rx ry hs
theorem wIx.of {Γ : Gm} {r : R2} {x y : V} {H : Hp} {Q : VK} (ho : ∀ X, Has Γ X → IxR X r) (h : r x y H Q) : wIx Γ x y H Q := fun X hX value slice pins s σ v u I rx ry hs => ho X hX value slice pins s σ H x y v u Q I rx ry h hs
def wCl (Γ : Gm) (f : Value) : List V → Hp → VK → Prop := fun xs H Q => ∀ X, Has Γ X → ∀ pins s σ us, Inv X pins σ H s → Vals xs us → wpAny (model X.prog X.w) X.A (call f us) (EP X pins σ Q) X.xe s
theorem cl_w {Γ : Gm} {X : Cx} {f : Value} (h : Has Γ X) : CallR X f (wCl Γ f) := fun pins s σ H xs us Q I r q => q X h pins s σ us I r
theorem wCl.of {Γ : Gm} {f : Value} {r : List V → Hp → VK → Prop} {xs : List V} {H : Hp} {Q : VK} (ho : ∀ X, Has Γ X → CallR X f r) (h : r xs H Q) : wCl Γ f xs H Q := fun X hX pins s σ us I rx => ho X hX pins s σ H xs us Q I rx h
section
variable {Γ : Gm} {F : Fm} {ρ : Rho} {M : List MO} {e a b c : Expr} {es rest : List Expr} {d : PyData} {P : SV → List MO → Prop} {PT : Bool → List MO → Prop} {PA : List SV → List MO → Prop} {pos p : Pos}
/-- two operands -/
theorem dx_two {R : PyData → PyData → List MO → Prop} (ha : DX Γ F ρ M a fun z M1 => ∃ d1, z = .d d1 ∧ DX Γ F ρ M1 b fun y M2 => ∃ d2, y = .d d2 ∧ R d1 d2 M2) {A H : Hp} {σ : L2.St} {ps : List Addr} (E : En Γ.W.K F A H σ ρ M ps) {Q : V → V → Hp → Prop}
    (q : ∀ x y d1 d2 A1 H1 M1 ps1, Nx A ps A1 ps1 → En Γ.W.K F A1 H1 σ ρ M1 ps1 → Dp Γ.W.K A1 x d1 → Dp Γ.W.K A1 y d2 → R d1 d2 M1 → Q x y H1) : WG Γ a σ H fun x H1 => WG Γ b σ H1 fun y H2 => Q x y H2 :=
  ha A H σ ps E _ fun x z A1 H1 M1 ps1 e1 E1 rx ⟨d1, hz, hb⟩ => hb A1 H1 σ ps1 E1 _ fun y z2 A2 H2 M2 ps2 e2 E2 ry ⟨d2, hz2, r⟩ => by
    subst hz hz2
    exact q x y d1 d2 A2 H2 M2 ps2 (e1.trans e2) E2 ((show Dp Γ.W.K A1 x d1 from rx).ex e2.a) ry r
theorem dx_rd {r : R2} {d1 d2 z : PyData} (hr : RD Γ.W.K r d1 d2 z) {x y : V} {A H : Hp} {σ : L2.St} {ps : List Addr} (E : En Γ.W.K F A H σ ρ M ps) (hx : Dp Γ.W.K A x d1) (hy : Dp Γ.W.K A y d2) {Q : VK} (q : ∀ v A1 H1, Ex A A1 → En Γ.W.K F A1 H1 σ ρ M ps → Dp Γ.W.K A1 v z → Q v H1) : r x y H Q :=
  hr x y A H E.ah hx hy Q fun v A1 H1 w hv => q v A1 H1 w.a (E.step w) hv
theorem dx_bin {op : Operator} (ha : DX Γ F ρ M a fun z M1 => ∃ d1, z = .d d1 ∧ DX Γ F ρ M1 b fun y M2 => ∃ d2, y = .d d2 ∧ ∃ z, OB Γ op d1 d2 z ∧ P (.d z) M2) : DX Γ F ρ M (.BinOp a op b pos) P := fun A H σ ps E Q q =>
  WG.of (te := tOp (wOp Γ (binaryOp op)) (WG Γ a) (WG Γ b)) (fun X h => pe_op (op_w h) (pe_wg h) (pe_wg h)) (dx_two ha E fun x y d1 d2 A1 H1 M1 ps1 e1 E1 hx hy ⟨z, ⟨r, ho, hr⟩, p⟩ => wOp.of ho (dx_rd hr E1 hx hy fun v A2 H2 e2 E2 hv => q v (.d z) A2 H2 M1 ps1 (e1.trans (.of e2)) E2 hv p))
theorem dx_cmp {op : CmpOp} (ha : DX Γ F ρ M a fun z M1 => ∃ d1, z = .d d1 ∧ DX Γ F ρ M1 b fun y M2 => ∃ d2, y = .d d2 ∧ ∃ k, OC Γ op d1 d2 k ∧ P (.d (.bool k)) M2) (hm : behindInMarks op b = false := by first | exact nomark _ | rfl | with_unfolding_all rfl) : DX Γ F ρ M (.Compare a [op] [b] pos) P := fun A H σ ps E Q q =>
  WG.of (te := tOp (wOp Γ (compareOp op)) (WG Γ a) (WG Γ b)) (fun X h => pe_cmpR (op_w h) (pe_wg h) (pe_wg h) hm) (dx_two ha E fun x y d1 d2 A1 H1 M1 ps1 e1 E1 hx hy ⟨k, ⟨r, ho, hr⟩, p⟩ => wOp.of ho (dx_rd hr E1 hx hy fun v A2 H2 e2 E2 hv => q v (.d (.bool k)) A2 H2 M1 ps1 (e1.trans (.of e2)) E2 hv p))
theorem dt_cmp {op : CmpOp} (ha : DX Γ F ρ M a fun z M1 => ∃ d1, z = .d d1 ∧ DX Γ F ρ M1 b fun y M2 => ∃ d2, y = .d d2 ∧ ∃ k, OC Γ op d1 d2 k ∧ PT k M2) (hm : behindInMarks op b = false := by first | exact nomark _ | rfl | with_unfolding_all rfl) : DT Γ F ρ M (.Compare a [op] [b] pos) PT := fun A H σ ps E Q q =>
  WGt.of (te := tTest (tOp (wOp Γ (compareOp op)) (WG Γ a) (WG Γ b))) (fun X h => pt_cmpR (op_w h) (pe_wg h) (pe_wg h) hm) (dx_two ha E fun x y d1 d2 A1 H1 M1 ps1 e1 E1 hx hy ⟨k, ⟨r, ho, hr⟩, p⟩ => wOp.of ho (dx_rd hr E1 hx hy fun v A2 H2 e2 E2 hv => ⟨k, dp_bl hv, q k A2 H2 M1 ps1 (e1.trans (.of e2)) E2 p⟩))
theorem dx_ix (ha : DX Γ F ρ M a fun z M1 => ∃ d1, z = .d d1 ∧ DX Γ F ρ M1 b fun y M2 => ∃ d2, y = .d d2 ∧ ∃ z, OI Γ d1 d2 z ∧ P (.d z) M2) (hs : PlainIx b := by exact fun _ _ => rfl) : DX Γ F ρ M (.Subscript a b pos) P := fun A H σ ps E Q q =>
  WG.of (te := tOp (wIx Γ) (WG Γ a) (WG Γ b)) (fun X h => pe_ix (ix_w h) (pe_wg h) (pe_wg h) hs) (dx_two ha E fun x y d1 d2 A1 H1 M1 ps1 e1 E1 hx hy ⟨z, ⟨r, ho, hr⟩, p⟩ => wIx.of ho (dx_rd hr E1 hx hy fun v A2 H2 e2 E2 hv => q v (.d z) A2 H2 M1 ps1 (e1.trans (.of e2)) E2 hv p))
/-- an item of a list that changes -/
theorem dx_ixM {i j : Nat} {x : Str} {px : Pos} {ds : List PyData} {k : Int} {z : PyData} (hN : Γ.N[i]? = some x) (hr : ρ[i]? = some (some (.r j))) (hb : DX Γ F ρ M b fun y M1 => ∃ k ds z, y = .d (.int k) ∧ M1[j]? = some (.lst ds) ∧ atI ds k = some z ∧ P (.d z) M1) (hs : PlainIx b := by exact fun _ _ => rfl)
    (hv : Vis Γ.sc x := by first | exact Or.inl rfl | exact Or.inr (Or.inl rfl) | exact Or.inr (Or.inr rfl)) (hd : (x == ("__debug__" : Str)) = false := by decide) (hcd : (x == ("__classdict__" : Str)) = false := by decide) : DX Γ F ρ M (.Subscript (.Name x px) b pos) P := fun A H σ ps E Q q => by
  obtain ⟨a, h1, h2⟩ := E.rs.1 i j hr
  refine WG.of (te := tOp (wIx Γ) (tVar i) (WG Γ b)) (fun X h => pe_ix (ix_w h) (pe_var (by rw [h.N]; exact hN) (by rw [h.sc]; exact hv) hd hcd) (pe_wg h) hs) ⟨_, h2, hb A H σ ps E _ fun y z1 A1 H1 M1 ps1 e1 E1 ry ⟨k, ds, z, hz, hm, hi, p⟩ => ?_⟩
  subst hz
  obtain ⟨g1, ⟨xs, g2, g3⟩, _⟩ := E1.ms.mo j _ a hm (e1.at h1)
  obtain ⟨v, hv', hd'⟩ := atI_dp g3 hi
  refine wIx.of (r := rIxL Γ.W.K) (fun X h => h.K ▸ ix_list) ⟨a, xs, k, v, rfl, dp_int ry, sq_of g2, hv', q v (.d z) A1 H1 M1 ps1 e1 E1 hd' p⟩
end
end Ev
namespace Ev
open PySem PySem.Spec PyProof.Rows L2 Evl
/-! ### exceptions as data; promises of defs that change things -/
structure Xc where
  cls : Str
  fs : List (Str × PyData)
def XcIs (W : Wd) (A H : Hp) (x : Xc) (c : Value) (d : Option Addr) : Prop := W.mg x.cls = some c ∧ ∃ dd gs, d = some dd ∧ H dd = some (.xd gs) ∧ gs.map (·.1) = x.fs.map (·.1) ∧ DpAll W.K A (gs.map (·.2)) (x.fs.map (·.2))
abbrev MR := List SV → List MO → (SV → List MO → Prop) → (Xc → List MO → Prop) → Prop
def spM (W : Wd) (n : Nat) (R : MR) : Sp := fun vs H Q E => ∃ A ps zs M P PX, zs.length = n ∧ Ex A H ∧ Ms W.K A H M ps ∧ Rvs W.K A ps vs zs ∧ R zs M P PX ∧
  (∀ v z A1 H1 M1, Fx A H ps A1 H1 → Ms W.K A1 H1 M1 ps → Rv W.K A1 ps v z → P z M1 → Q v H1) ∧
  (∀ x A1 H1 M1 c d, Fx A H ps A1 H1 → Ms W.K A1 H1 M1 ps → XcIs W A1 H1 x c d → PX x M1 → E c d H1)
section
variable {Γ : Gm} {F : Fm} {ρ : Rho} {M : List MO} {e a b c : Expr} {es rest : List Expr} {d : PyData} {P : SV → List MO → Prop} {PT : Bool → List MO → Prop} {PA : List SV → List MO → Prop} {pos p : Pos} {f : Str}
theorem dxs_nil (p : PA [] M) : DXs Γ F ρ M [] PA := fun A H σ ps E Q q => WGa.of (te := tNil) (fun X h => pa_nil) (q [] [] A H M ps .refl E .nil p)
theorem dxs_cons (h : DX Γ F ρ M e fun z M1 => DXs Γ F ρ M1 es fun zs M2 => PA (z :: zs) M2) (n : NS e := by intro _ _; rfl) : DXs Γ F ρ M (e :: es) PA := fun A H σ ps E Q q =>
  WGa.of (te := tCons (WG Γ e) (WGa Γ es)) (fun X h => pa_cons (pe_wg h) (pa_wg h) (n es X.env)) (h A H σ ps E _ fun v z A1 H1 M1 ps1 e1 E1 r hs => hs A1 H1 σ ps1 E1 _ fun vs zs A2 H2 M2 ps2 e2 E2 rs p => q _ _ A2 H2 M2 ps2 (e1.trans e2) E2 (.cons (r.nx e2) rs) p)
theorem dxs_d {ds : List PyData} (h : XDs Γ ρ es ds) (p : PA (ds.map .d) M) : DXs Γ F ρ M es PA := fun A H σ ps E Q q => (h σ A E.sl).run E.ah fun vs A1 H1 w hv => q vs _ A1 H1 M ps (.of w.a) (E.step w) (by
  clear h p q
  induction ds generalizing vs with
  | nil =>
    cases hv
    exact .nil
  | cons d ds ih =>
    cases hv with
    | cons h1 h2 => exact .cons h1 (ih _ h2)) p
theorem rvs_d {K : Kf} {A : Hp} {ps : List Addr} : ∀ {ds : List PyData} {vs : List V}, Rvs K A ps vs (ds.map .d) → DpAll K A vs ds
  | [], _, h => by
    cases h
    exact .nil
  | d :: ds, _, h => by
    cases h with
    | cons h1 h2 => exact .cons h1 (rvs_d h2)
theorem dx_callB {id : String} (hv : bootBuiltins f = some (.builtin id)) (hm : Γ.W.mg f = Option.none) (ha : DXs Γ F ρ M (e :: es) fun zs M1 => ∃ ds d, zs = ds.map .d ∧ OF Γ (.builtin id) ds d ∧ P (.d d) M1) (g : Glo Γ f := by rfl) (n : NS e := by intro _ _; rfl) (ns : NSs es := by intro _ _; rfl)
    (hn : f ≠ "__name__" := by decide) (hdb : (f == ("__debug__" : Str)) = false := by decide) : DX Γ F ρ M (.Call (.Name f p) (e :: es) [] pos) P := fun A H σ ps E Q q =>
  WG.of (te := tCB (wCl Γ (.builtin id)) (WGa Γ (e :: es))) (fun X h => pe_callB (cl_w h) (gl_of h g) (by rw [h.mg]; exact hm) hv (pa_wg h) hn hdb (n es X.env) (ns pos X.env)) (ha A H σ ps E _ fun vs zs A1 H1 M1 ps1 e1 E1 rs ⟨ds, d, hz, ⟨r, ho, hr⟩, p⟩ => by
    subst hz
    exact wCl.of ho (hr vs A1 H1 E1.ah (rvs_d rs) Q fun v A2 H2 w hv => q v (.d d) A2 H2 M1 ps1 (e1.trans (.of w.a)) (E1.step w) hv p))
theorem dx_callT {T : String} (hv : bootBuiltins f = some (.type T)) (hm : Γ.W.mg f = Option.none) (ha : DXs Γ F ρ M (e :: es) fun zs M1 => ∃ ds d, zs = ds.map .d ∧ OF Γ (.type T) ds d ∧ P (.d d) M1) (g : Glo Γ f := by rfl) (n : NS e := by intro _ _; rfl) (ns : NSs es := by intro _ _; rfl)
    (hn : f ≠ "__name__" := by decide) (hdb : (f == ("__debug__" : Str)) = false := by decide) : DX Γ F ρ M (.Call (.Name f p) (e :: es) [] pos) P := fun A H σ ps E Q q =>
  WG.of (te := tCB (wCl Γ (.type T)) (WGa Γ (e :: es))) (fun X h => pe_callTy (cl_w h) (gl_of h g) (by rw [h.mg]; exact hm) hv (pa_wg h) hn hdb (n es X.env) (ns pos X.env)) (ha A H σ ps E _ fun vs zs A1 H1 M1 ps1 e1 E1 rs ⟨ds, d, hz, ⟨r, ho, hr⟩, p⟩ => by
    subst hz
    exact wCl.of ho (hr vs A1 H1 E1.ah (rvs_d rs) Q fun v A2 H2 w hv => q v (.d d) A2 H2 M1 ps1 (e1.trans (.of w.a)) (E1.step w) hv p))
/-- a def of the text on data -/
theorem dx_callD {k n : Nat} {ps : List Str} {R : List PyData → PyData → Prop} (Fn : Fk Γ.W k f ps (spD Γ.W.K n R)) (ha : DXs Γ F ρ M (e :: es) fun zs M1 => ∃ ds d, zs = ds.map .d ∧ ds.length = n ∧ R ds d ∧ P (.d d) M1) (hk : Nat.ble k Γ.k = true := by rfl) (g : Glo Γ f := by rfl) (ne : NS e := by intro _ _; rfl) (ns : NSs es := by intro _ _; rfl)
    (hdb : (f == ("__debug__" : Str)) = false := by decide) : DX Γ F ρ M (.Call (.Name f p) (e :: es) [] pos) P := fun A H σ qs E Q q => by
  obtain ⟨a, fd, h1, h2, h3, h4⟩ := Fn
  refine WG.of (te := tCall (spD Γ.W.K n R) [] E0 (WGa Γ (e :: es))) (fun X h => by
    obtain ⟨u1, u2, u3, u4, u5⟩ : X.prog = Γ.W.P ∧ X.w = Γ.W.w ∧ X.K = Γ.W.K ∧ X.mg = Γ.W.mg ∧ X.base = Γ.W.base := ⟨h.prog, h.w, h.K, h.mg, h.base⟩
    exact pe_call (CX := L2.CX X.prog X.w) (E := E0) (dvs := []) (ds := []) (fd := fd) (ps := ps) (by rw [u1, u2, u3, u4, u5]; exact h4) (h.room.mono (Nat.le_of_ble_eq_true hk)) (gl_of h g) (by rw [u4]; exact h1) (by rw [u3]; exact h2) (by rw [u3]; exact h3) .nil passL (pa_wg h) hdb (ne es X.env) (ns pos X.env)) (ha A H σ qs E _ fun vs zs A1 H1 M1 ps1 e1 E1 rs ⟨ds, d, hz, hl, hR, p⟩ => ?_)
  subst hz
  rw [List.append_nil]
  exact ⟨A1, ds, d, hl, E1.ah, rvs_d rs, hR, Out.use E1.ah fun v A2 H2 w hv => q v (.d d) A2 H2 M1 ps1 (e1.trans (.of w.a)) (E1.step w) hv p⟩
/-- what is wanted of an exception that leaves, in data -/
def Xok (Γ : Gm) (F : Fm) (PX : Xc → List MO → Prop) : Prop := ∀ E, Γ.ew = some E → ∀ A H σ ρ M ps x c d, En Γ.W.K F A H σ ρ M ps → XcIs Γ.W A H x c d → PX x M → E c d H
/-- a def that changes things, that may raise -/
theorem dx_call {k n : Nat} {ps : List Str} {R : MR} {PX : Xc → List MO → Prop} (Fn : Fk Γ.W k f ps (spM Γ.W n R)) (hX : Γ.ew.isSome = true ∨ PX = fun _ _ => False) (hx : Xok Γ F PX) (ha : DXs Γ F ρ M (e :: es) fun zs M1 => zs.length = n ∧ R zs M1 P PX) (hk : Nat.ble k Γ.k = true := by rfl) (g : Glo Γ f := by rfl) (ne : NS e := by intro _ _; rfl) (ns : NSs es := by intro _ _; rfl)
    (hdb : (f == ("__debug__" : Str)) = false := by decide) : DX Γ F ρ M (.Call (.Name f p) (e :: es) [] pos) P := fun A H σ qs E Q q => by
  obtain ⟨a, fd, h1, h2, h3, h4⟩ := Fn
  have fin : ∀ (EX : XK), (∀ X, Has Γ X → Passes (L2.CX X.prog X.w) X EX) → (∀ A1 H1 M1 ps1 c d x, En Γ.W.K F A1 H1 σ ρ M1 ps1 → XcIs Γ.W A1 H1 x c d → PX x M1 → EX c d H1) → WG Γ (.Call (.Name f p) (e :: es) [] pos) σ H Q := fun EX pX hX => by
    refine WG.of (te := tCall (spM Γ.W n R) [] EX (WGa Γ (e :: es))) (fun X h => by
      obtain ⟨u1, u2, u3, u4, u5⟩ : X.prog = Γ.W.P ∧ X.w = Γ.W.w ∧ X.K = Γ.W.K ∧ X.mg = Γ.W.mg ∧ X.base = Γ.W.base := ⟨h.prog, h.w, h.K, h.mg, h.base⟩
      exact pe_call (CX := L2.CX X.prog X.w) (E := EX) (dvs := []) (ds := []) (fd := fd) (ps := ps) (by rw [u1, u2, u3, u4, u5]; exact h4) (h.room.mono (Nat.le_of_ble_eq_true hk)) (gl_of h g) (by rw [u4]; exact h1) (by rw [u3]; exact h2) (by rw [u3]; exact h3) .nil (pX X h) (pa_wg h) hdb (ne es X.env) (ns pos X.env)) (ha A H σ qs E _ fun vs zs A1 H1 M1 ps1 e1 E1 rs ⟨hl, hR⟩ => ?_)
    rw [List.append_nil]
    exact ⟨A1, ps1, zs, M1, P, PX, hl, E1.ah, E1.ms, rs, hR, fun v z A2 H2 M2 x m r p => q v z A2 H2 M2 ps1 (e1.trans (.of x.aa)) (E1.after x m) r p, fun x A2 H2 M2 c d fx m xi px => hX A2 H2 M2 ps1 c d x (E1.after fx m) xi px⟩
  rcases hX with hX | hX
  · obtain ⟨EX, hEX⟩ := Option.isSome_iff_exists.mp hX
    exact fin EX (fun X h => passes_call (h.tk EX hEX) fun _ _ _ _ z => z) fun A1 H1 M1 ps1 c d x E1 xi px => hx EX hEX A1 H1 σ ρ M1 ps1 x c d E1 xi px
  · subst hX
    exact fin E0 (fun X h => passL) fun _ _ _ _ _ _ _ _ _ z => z.elim
theorem dx_tup {x1} (h : DXs Γ F ρ M es fun zs M1 => ∃ ds, zs = ds.map .d ∧ ds.length ≤ 100000 ∧ P (.d (.tuple ds)) M1) : DX Γ F ρ M (.Tuple es x1 pos) P := fun A H σ ps E Q q =>
  WG.of (te := tTup (WGa Γ es)) (fun X h => pe_tup (pa_wg h)) (h A H σ ps E _ fun vs zs A1 H1 M1 ps1 e1 E1 rs ⟨ds, hz, hl, p⟩ => by
    subst hz
    have hd := rvs_d rs
    exact ⟨by rw [hd.len]; exact sz_of hl, fun l hn => q _ (.d (.tuple ds)) _ _ M1 ps1 (e1.trans (.of (Gw.new E1.ah hn).a)) (E1.step (Gw.new E1.ah hn)) (.tup (st_of upd_same) (hd.ex (Gw.new E1.ah hn).a)) p⟩)
theorem dx_lst (h : DXs Γ F ρ M es fun zs M1 => ∃ ds, zs = ds.map .d ∧ ds.length ≤ 100000 ∧ P (.d (.list ds)) M1) : DX Γ F ρ M (.List es pos) P := fun A H σ ps E Q q =>
  WG.of (te := tLst (WGa Γ es)) (fun X h => pe_lst (pa_wg h)) (h A H σ ps E _ fun vs zs A1 H1 M1 ps1 e1 E1 rs ⟨ds, hz, hl, p⟩ => by
    subst hz
    have hd := rvs_d rs
    exact ⟨by rw [hd.len]; exact sz_of hl, fun l hn => q _ (.d (.list ds)) _ _ M1 ps1 (e1.trans (.of (Gw.new E1.ah hn).a)) (E1.step (Gw.new E1.ah hn)) (.lst (sq_of upd_same) (hd.ex (Gw.new E1.ah hn).a)) p⟩)
theorem dx_if (h : DT Γ F ρ M c fun k M1 => (k = true → DX Γ F ρ M1 a P) ∧ (k = false → DX Γ F ρ M1 b P)) : DX Γ F ρ M (.IfExp c a b pos) P := fun A H σ ps E Q q =>
  WG.of (te := tIf (WGt Γ c) (WG Γ a) (WG Γ b)) (fun X h => pe_ifExp (pt_wg h) (pe_wg h) (pe_wg h)) (h A H σ ps E _ fun k A1 H1 M1 ps1 e1 E1 ⟨h1, h2⟩ => by
    cases k with
    | true => exact h1 rfl A1 H1 σ ps1 E1 Q fun v z A2 H2 M2 ps2 e2 E2 r p => q v z A2 H2 M2 ps2 (e1.trans e2) E2 r p
    | false => exact h2 rfl A1 H1 σ ps1 E1 Q fun v z A2 H2 M2 ps2 e2 E2 r p => q v z A2 H2 M2 ps2 (e1.trans e2) E2 r p)
theorem dx_and2 (h : DX Γ F ρ M a fun z M1 => ∃ k, z = .d (.bool k) ∧ (k = true → DX Γ F ρ M1 b P) ∧ (k = false → P (.d (.bool false)) M1)) : DX Γ F ρ M (.BoolOp .And [a, b] pos) P := fun A H σ ps E Q q =>
  WG.of (te := tAndV (WG Γ a) (WG Γ b)) (fun X h => pe_and (pe_wg h) (pe_one (pe_wg h))) (h A H σ ps E _ fun v z A1 H1 M1 ps1 e1 E1 r ⟨k, hz, h1, h2⟩ => ⟨k, by subst hz; exact dp_bl r, by
    cases k with
    | true => exact h1 rfl A1 H1 σ ps1 E1 Q fun v z A2 H2 M2 ps2 e2 E2 r p => q v z A2 H2 M2 ps2 (e1.trans e2) E2 r p
    | false => exact q _ (.d (.bool false)) A1 H1 M1 ps1 e1 E1 (.bl false) (h2 rfl)⟩)
theorem dx_or2 (h : DX Γ F ρ M a fun z M1 => ∃ k, z = .d (.bool k) ∧ (k = false → DX Γ F ρ M1 b P) ∧ (k = true → P (.d (.bool true)) M1)) : DX Γ F ρ M (.BoolOp .Or [a, b] pos) P := fun A H σ ps E Q q =>
  WG.of (te := tOrV (WG Γ a) (WG Γ b)) (fun X h => pe_or (pe_wg h) (pe_one (pe_wg h))) (h A H σ ps E _ fun v z A1 H1 M1 ps1 e1 E1 r ⟨k, hz, h1, h2⟩ => ⟨k, by subst hz; exact dp_bl r, by
    cases k with
    | false => exact h1 rfl A1 H1 σ ps1 E1 Q fun v z A2 H2 M2 ps2 e2 E2 r p => q v z A2 H2 M2 ps2 (e1.trans e2) E2 r p
    | true => exact q _ (.d (.bool true)) A1 H1 M1 ps1 e1 E1 (.bl true) (h2 rfl)⟩)
theorem dt_and2 (h : DT Γ F ρ M a fun k M1 => (k = true → DT Γ F ρ M1 b PT) ∧ (k = false → PT false M1)) : DT Γ F ρ M (.BoolOp .And [a, b] pos) PT := fun A H σ ps E Q q =>
  WGt.of (te := tAnd (WGt Γ a) (WGt Γ b)) (fun X h => PW.pt (pw_and (pt_wg h) (pw_and1 (pt_wg h)))) (h A H σ ps E _ fun k A1 H1 M1 ps1 e1 E1 ⟨h1, h2⟩ => by
    cases k with
    | true => exact h1 rfl A1 H1 σ ps1 E1 Q fun v A2 H2 M2 ps2 e2 E2 p => q v A2 H2 M2 ps2 (e1.trans e2) E2 p
    | false => exact q false A1 H1 M1 ps1 e1 E1 (h2 rfl))
theorem dt_or2 (h : DT Γ F ρ M a fun k M1 => (k = false → DT Γ F ρ M1 b PT) ∧ (k = true → PT true M1)) : DT Γ F ρ M (.BoolOp .Or [a, b] pos) PT := fun A H σ ps E Q q =>
  WGt.of (te := tOr (WGt Γ a) (WGt Γ b)) (fun X h => PW.pt (pw_or (pt_wg h) (pw_or1 (pt_wg h)))) (h A H σ ps E _ fun k A1 H1 M1 ps1 e1 E1 ⟨h1, h2⟩ => by
    cases k with
    | false => exact h1 rfl A1 H1 σ ps1 E1 Q fun v A2 H2 M2 ps2 e2 E2 p => q v A2 H2 M2 ps2 (e1.trans e2) E2 p
    | true => exact q true A1 H1 M1 ps1 e1 E1 (h2 rfl))
end
end Ev
namespace Ev
open PySem PySem.Spec PyProof.Rows L2 Evl
/-! ### statements -/
structure Fb (Γ : Gm) where
  F : Fm
  rt : VK
  Rt : SV → List MO → Prop
  PX : Xc → List MO → Prop
  hR : ∀ A H σ ρ M ps v z, En Γ.W.K F A H σ ρ M ps → Rv Γ.W.K A ps v z → Rt z M → rt v H
  hX : Xok Γ F PX
def DS1 (Γ : Gm) (B : Fb Γ) (ρ : Rho) (M : List MO) (st : Stmt) (N : Rho → List MO → Prop) : Prop := ∀ A H σ ps, En Γ.W.K B.F A H σ ρ M ps → ∀ D : Ends, D.rt = B.rt → (∀ A1 H1 σ1 ρ1 M1 ps1, Nx A ps A1 ps1 → En Γ.W.K B.F A1 H1 σ1 ρ1 M1 ps1 → N ρ1 M1 → D.nx σ1 H1) → WGs Γ st D σ H
def DS (Γ : Gm) (B : Fb Γ) (ρ : Rho) (M : List MO) (sts : List Stmt) (N : Rho → List MO → Prop) : Prop := ∀ A H σ ps, En Γ.W.K B.F A H σ ρ M ps → ∀ D : Ends, D.rt = B.rt → (∀ A1 H1 σ1 ρ1 M1 ps1, Nx A ps A1 ps1 → En Γ.W.K B.F A1 H1 σ1 ρ1 M1 ps1 → N ρ1 M1 → D.nx σ1 H1) → WGss Γ sts D σ H
section
variable {Γ : Gm} {B : Fb Γ} {ρ : Rho} {M : List MO} {e a b c : Expr} {es rest : List Expr} {st : Stmt} {sts sts' : List Stmt} {N : Rho → List MO → Prop} {pos p px : Pos} {x y : Str} {i j : Nat}
theorem ds_nil (h : N ρ M) : DS Γ B ρ M [] N := fun A H σ ps E D hD k => WGss.of (ts := tNext) (fun X _ => pss_nil) (k A H σ ρ M ps .refl E h)
theorem ds_cons (h : DS1 Γ B ρ M st fun ρ1 M1 => DS Γ B ρ1 M1 sts N) : DS Γ B ρ M (st :: sts) N := fun A H σ ps E D hD k =>
  WGss.of (ts := tSeq (WGs Γ st) (WGss Γ sts)) (fun X hX => pss_cons (ps_wg hX) (pss_wg hX)) (h A H σ ps E _ hD fun A1 H1 σ1 ρ1 M1 ps1 x1 E1 n => n A1 H1 σ1 ps1 E1 D hD fun A2 H2 σ2 ρ2 M2 ps2 x2 E2 n2 => k A2 H2 σ2 ρ2 M2 ps2 (x1.trans x2) E2 n2)
theorem ds_one (h : DS1 Γ B ρ M st N) : DS Γ B ρ M [st] N := ds_cons fun A H σ ps E D hD k => h A H σ ps E D hD fun A1 H1 σ1 ρ1 M1 ps1 x1 E1 n => k A1 H1 σ1 ρ1 M1 ps1 x1 E1 (ds_nil n)
theorem DS.mono {N' : Rho → List MO → Prop} (h : DS Γ B ρ M sts N) (i : ∀ ρ1 M1, N ρ1 M1 → N' ρ1 M1) : DS Γ B ρ M sts N' := fun A H σ ps E D hD k => h A H σ ps E D hD fun A1 H1 σ1 ρ1 M1 ps1 x1 E1 n => k A1 H1 σ1 ρ1 M1 ps1 x1 E1 (i _ _ n)
theorem stn_of {X : Cx} (h : Has Γ X) (hl : Loc Γ.sc x) (hs : Γ.st x = true) : Loc X.env.scope x ∧ (X.fn x = true ∨ X.env.scope.names.lookup x = some .local) := ⟨by rw [h.sc]; exact hl, h.fn x hs⟩
theorem s_asg (hN : Γ.N[i]? = some x) (h : DX Γ B.F ρ M e fun z M1 => N (ρ.set i (some z)) M1) (hl : Loc Γ.sc x := by first | exact .inl rfl | exact .inr rfl) (hs : Γ.st x = true := by rfl) (hw : ∀ env l, swapsWith e (some (.Name x px)) l env = pure false := by intro _ _; rfl) (nd : decide Γ.N.Nodup = true := by kernel_rfl) :
    DS1 Γ B ρ M (.Assign [.Name x px] e pos) N := fun A H σ ps E D hD k =>
  WGs.of (ts := tAsg (WG Γ e) (gName i)) (fun X hX => ps_set (by rw [hX.N]; exact of_decide_eq_true nd) (by rw [hX.N]; exact hN) (stn_of hX hl hs).1 (pe_wg hX) (hw X.env pos.line) (stn_of hX hl hs).2) (h A H σ ps E _ fun v z A1 H1 M1 ps1 e1 E1 r n => k A1 H1 _ _ M1 ps1 e1 (E1.setV i r) n)
theorem s_ret (h : DX Γ B.F ρ M e B.Rt) : DS1 Γ B ρ M (.Return (some e) pos) N := fun A H σ ps E D hD k =>
  WGs.of (ts := tRet (WG Γ e)) (fun X hX => ps_ret (pe_wg hX)) (h A H σ ps E _ fun v z A1 H1 M1 ps1 e1 E1 r n => by
    rw [hD]
    exact B.hR A1 H1 σ ρ M1 ps1 v z E1 r n)
theorem s_if (h : DT Γ B.F ρ M c fun k M1 => (k = true → DS Γ B ρ M1 sts N) ∧ (k = false → DS Γ B ρ M1 sts' N)) : DS1 Γ B ρ M (.If c sts sts' pos) N := fun A H σ ps E D hD k =>
  WGs.of (ts := tIfS (WGt Γ c) (WGss Γ sts) (WGss Γ sts')) (fun X hX => ps_if (pt_wg hX) (pss_wg hX) (pss_wg hX)) (h A H σ ps E _ fun v A1 H1 M1 ps1 e1 E1 ⟨h1, h2⟩ => by
    cases v with
    | true => exact h1 rfl A1 H1 σ ps1 E1 D hD fun A2 H2 σ2 ρ2 M2 ps2 x2 E2 n2 => k A2 H2 σ2 ρ2 M2 ps2 (e1.trans x2) E2 n2
    | false => exact h2 rfl A1 H1 σ ps1 E1 D hD fun A2 H2 σ2 ρ2 M2 ps2 x2 E2 n2 => k A2 H2 σ2 ρ2 M2 ps2 (e1.trans x2) E2 n2)
theorem s_expr (h : DX Γ B.F ρ M e fun z M1 => N ρ M1) (hw : ∀ env l, swapsWith e none l env = pure false := by intro _ _; rfl) : DS1 Γ B ρ M (.Expr e pos) N := fun A H σ ps E D hD k =>
  WGs.of (ts := tDrop (WG Γ e)) (fun X hX => ps_expr (pe_wg hX) (hw X.env pos.line)) (h A H σ ps E _ fun v z A1 H1 M1 ps1 e1 E1 r n => k A1 H1 _ _ M1 ps1 e1 E1 n)
/-- x.append(e) -/
theorem var_of {X : Cx} (hX : Has Γ X) (hN : Γ.N[i]? = some x) (hv : Vis Γ.sc x) (hd : (x == ("__debug__" : Str)) = false) (hcd : (x == ("__classdict__" : Str)) = false) : PE X (.Name x px) (tVar i) := pe_var (by rw [hX.N]; exact hN) (by rw [hX.sc]; exact hv) hd hcd
theorem own_ne {K : Kf} {F : Fm} {A H : Hp} {σ : L2.St} {ps : List Addr} {p : Addr} {o : HO} (h : H p = some o) (ho : ∀ q, o ≠ .own q) : ∀ b q, H b = some (.own q) → b ≠ p := fun b q hb e => by
  rw [e, h] at hb
  exact ho q (Option.some.inj hb)
theorem s_app {ap cp : Pos} (hN : Γ.N[i]? = some x) (hr : ρ[i]? = some (some (.r j))) {ds0 : List PyData} (hm : M[j]? = some (.lst ds0)) (h : DX Γ B.F ρ M e fun z M1 => ∃ ds d, z = .d d ∧ M1[j]? = some (.lst ds) ∧ ds.length < 100000 ∧ N ρ (M1.set j (.lst (ds ++ [d])))) (ne : NS e := by intro _ _; rfl)
    (hline : (ap.endLine == cp.line) = true := by rfl) (hv : Vis Γ.sc x := by first | exact Or.inl rfl | exact Or.inr (Or.inl rfl) | exact Or.inr (Or.inr rfl)) (hd : (x == ("__debug__" : Str)) = false := by decide) (hcd : (x == ("__classdict__" : Str)) = false := by decide) :
    DS1 Γ B ρ M (.Expr (.Call (.Attribute (.Name x px) "append" ap) [e] [] cp) pos) N := fun A H σ ps E D hD k => by
  obtain ⟨q, h1, h2⟩ := E.rs.1 i j hr
  obtain ⟨g1, ⟨xs, g2, g3⟩, _⟩ := E.ms.mo j _ q hm h1
  refine WGs.of (ts := tDrop (tBM Γ.W.K "list" rAppend (tVar i) (tCons (WG Γ e) tNil))) (fun X hX => ps_expr (hX.K ▸ pe_bm PySem.F.plainAttrs_list PySem.F.slot_list_append PySem.F.type_list_append mt_append (var_of hX hN hv hd hcd) (pa_cons (pe_wg hX) pa_nil (ne [] X.env)) rfl (by
    have z := ne [] X.env
    rw [z]
    rfl) hline (ne [] X.env) rfl) rfl) ⟨_, h2, .inl ⟨rfl, xs, sq_of g2⟩, h A H σ ps E _ fun v z A1 H1 M1 ps1 e1 E1 r ⟨ds, d, hz, hm1, hl, n⟩ => ?_⟩
  subst hz
  have hq := e1.at h1
  obtain ⟨g4, ⟨ys, g5, g6⟩, g7⟩ := E1.ms.mo j _ q hm1 hq
  exact ⟨q, ys, v, rfl, rfl, g5, by rw [g6.len]; exact sz_lt hl, k A1 _ σ ρ _ ps1 e1 (E1.mut (m := .lst (ds ++ [d])) hm1 rfl hq g5 ⟨(fun q z => by cases z), fun φ z => by cases z⟩ ⟨ys ++ [v], upd_same, g6.append (.cons r .nil)⟩) n⟩
/-- a list of one's own, told as data -/
theorem ds_freeze {ds : List PyData} (hr : ρ[i]? = some (some (.r j))) (hm : M[j]? = some (.lst ds)) (hj : B.F.ps0.length ≤ j) (h : DS Γ B (ρ.set i (some (.d (.list ds)))) (M.set j .gone) sts N) : DS Γ B ρ M sts N := fun A H σ ps E D hD k => by
  obtain ⟨q, h1, h2⟩ := E.rs.1 i j hr
  obtain ⟨A1, a1, E1, hd⟩ := E.freeze hm h1 hj
  have E2 := E1.set i hd
  have e : σ.set i (some (.ref q)) = σ := by
    have hl : i < σ.length := (List.getElem?_eq_some_iff.mp h2).1
    apply List.ext_getElem?
    intro n
    by_cases z : i = n
    · subst z
      rw [List.getElem?_set_self hl, h2]
    · rw [List.getElem?_set_ne z]
  rw [e] at E2
  exact h A1 H σ ps E2 D hD fun A2 H2 σ2 ρ2 M2 ps2 x2 E2 n2 => k A2 H2 σ2 ρ2 M2 ps2 ((Nx.of a1).trans x2) E2 n2
/-- two names at once -/
theorem s_par {i2 : Nat} {py pt : Pos} {kt k2 pt2} (hN : Γ.N[i]? = some x) (hN2 : Γ.N[i2]? = some y) (hij : i ≠ i2) (hx : Γ.sc.names.lookup x = some .local) (hy : Γ.sc.names.lookup y = some .local) (hsx : Γ.st x = true) (h : DXs Γ B.F ρ M [a, b] fun zs M1 => ∃ z w, zs = [z, w] ∧ N ((ρ.set i (some z)).set i2 (some w)) M1)
    (hw : ∀ X, Has Γ X → swappedStores [.Tuple [.Name x px, .Name y py] kt pt] (.Tuple [a, b] k2 pt2) X.env = pure (some [x, y])) (hs : ∀ env, swapsWithSole [.Tuple [.Name x px, .Name y py] kt pt] (.Tuple [a, b] k2 pt2) pos.line env = pure false := by intro _; rfl) (nd : decide Γ.N.Nodup = true := by kernel_rfl) :
    DS1 Γ B ρ M (.Assign [.Tuple [.Name x px, .Name y py] kt pt] (.Tuple [a, b] k2 pt2) pos) N := fun A H σ ps E D hD k =>
  WGs.of (ts := tPar i i2 (WGa Γ [a, b])) (fun X hX => ps_par hX.calm (by rw [hX.N]; exact of_decide_eq_true nd) (by rw [hX.N]; exact hN) (by rw [hX.N]; exact hN2) hij (by rw [hX.sc]; exact hx) (by rw [hX.sc]; exact hy) (pa_wg hX) (hw X hX) (hs X.env)) (h A H σ ps E _ fun vs zs A1 H1 M1 ps1 e1 E1 rs ⟨z, w, hz, n⟩ => by
    subst hz
    cases rs with
    | cons r1 rs =>
      cases rs with
      | cons r2 rs =>
        cases rs
        exact ⟨_, _, rfl, k A1 H1 _ _ M1 ps1 e1 ((E1.setV i r1).setV i2 r2) n⟩)
end
end Ev
namespace Ev
open PySem PySem.Spec PyProof.Rows L2 Evl
/-! ### what is walked -/
structure Wk (K : Kf) (J : It) (B : Hp) (ds : List PyData) : Prop where
  go : ∀ i H, Ex B H → i < ds.length → J.go i H
  yld : ∀ i d A H x H', ds[i]? = some d → Ex B A → Ex A H → J.yld i H x H' → ∃ A', Gw A H A' H' ∧ Dp K A' x d
  stop : ∀ H, Ex B H → J.stop ds.length H
def DI (Γ : Gm) (F : Fm) (ρ : Rho) (M : List MO) (tg iter : Expr) (Pi : List PyData → List MO → Prop) : Prop := ∀ A H σ ps, En Γ.W.K F A H σ ρ M ps → ∀ R : It → Hp → Prop,
  (∀ J ds A1 H1 M1 ps1, Nx A ps A1 ps1 → En Γ.W.K F A1 H1 σ ρ M1 ps1 → Wk Γ.W.K J A1 ds → Pi ds M1 → R J H1) → WGi Γ tg iter σ H R
/-- a target takes the item d: js, the slots that it sets -/
def Tg (Γ : Gm) (tg : Expr) (d : PyData) (ρ ρ' : Rho) (js : List Nat) : Prop := ∀ F A H σ M ps v, En Γ.W.K F A H σ ρ M ps → Dp Γ.W.K A v d → ∀ Q : L2.St → Hp → Prop,
  (∀ σ', En Γ.W.K F A H σ' ρ' M ps → (∀ vs : List Nat, (∀ j ∈ js, j ∈ vs) → L2.wipe σ' vs = L2.wipe σ vs) → Q σ' H) → WGg Γ tg v σ H Q
theorem wipe_get (σ : L2.St) (i : Nat) : ∀ vs : List Nat, (L2.wipe σ vs)[i]? = if i ∈ vs then (σ[i]?).map (fun _ => Option.none) else σ[i]?
  | [] => by simp [L2.wipe]
  | v :: vs => by
    have ih := wipe_get σ i vs
    unfold L2.wipe
    by_cases e : v = i
    · subst e
      rw [if_pos List.mem_cons_self]
      by_cases hl : v < (L2.wipe σ vs).length
      · rw [List.getElem?_set_self hl]
        rw [wipe_length] at hl
        rw [List.getElem?_eq_getElem hl]
        rfl
      · rw [List.getElem?_eq_none (by rw [List.length_set]; omega)]
        rw [wipe_length] at hl
        rw [List.getElem?_eq_none (by omega)]
        rfl
    · rw [List.getElem?_set_ne e, ih]
      by_cases m : i ∈ vs
      · rw [if_pos m, if_pos (List.mem_cons_of_mem _ m)]
      · rw [if_neg m, if_neg (by
          intro z
          rcases List.mem_cons.mp z with z | z
          · exact e z.symm
          · exact m z)]
theorem wipe_set {σ : L2.St} {j : Nat} {x : Option V} {vs : List Nat} (h : j ∈ vs) : L2.wipe (σ.set j x) vs = L2.wipe σ vs := by
  apply List.ext_getElem?
  intro i
  rw [wipe_get, wipe_get]
  by_cases m : i ∈ vs
  · rw [if_pos m, if_pos m]
    by_cases e : j = i
    · subst e
      by_cases hl : j < σ.length
      · rw [List.getElem?_set_self hl, List.getElem?_eq_getElem hl]
        rfl
      · rw [List.getElem?_eq_none (by rw [List.length_set]; omega), List.getElem?_eq_none (by omega)]
    · rw [List.getElem?_set_ne e]
  · rw [if_neg m, if_neg m, List.getElem?_set_ne (fun e => m (by rw [← e]; exact h))]
section
variable {Γ : Gm} {B : Fb Γ} {F : Fm} {ρ ρ' ρ'' : Rho} {M : List MO} {e a b c tg iter : Expr} {es rest : List Expr} {st : Stmt} {sts body : List Stmt} {N : Rho → List MO → Prop} {pos p px : Pos} {x y : Str} {i j : Nat} {d : PyData} {ds : List PyData} {Pi : List PyData → List MO → Prop}
theorem tg_name (hN : Γ.N[i]? = some x) (hl : Loc Γ.sc x := by first | exact .inl rfl | exact .inr rfl) (hs : Γ.st x = true := by rfl) (nd : decide Γ.N.Nodup = true := by kernel_rfl) : Tg Γ (.Name x px) d ρ (ρ.set i (some (.d d))) [i] := fun F A H σ M ps v E hd Q q =>
  WGg.of (tt := gName i) (fun X hX => pg_name (by rw [hX.N]; exact of_decide_eq_true nd) (by rw [hX.N]; exact hN) (stn_of hX hl hs).1 (stn_of hX hl hs).2) (q _ (E.set i hd) fun vs h => wipe_set (h i (by simp)))
/-- targets in a row, for the items of a tuple -/
def Tgs (Γ : Gm) (tgs : List Expr) (ds : List PyData) (ρ ρ' : Rho) (js : List Nat) : Prop := ∀ F A H σ M ps vs, En Γ.W.K F A H σ ρ M ps → DpAll Γ.W.K A vs ds → ∀ Q : L2.St → Hp → Prop,
  (∀ σ', En Γ.W.K F A H σ' ρ' M ps → (∀ vs : List Nat, (∀ j ∈ js, j ∈ vs) → L2.wipe σ' vs = L2.wipe σ vs) → Q σ' H) → WGgs Γ tgs vs σ H Q
theorem tgs_nil : Tgs Γ [] [] ρ ρ [] := fun F A H σ M ps vs E hd Q q => by
  cases hd
  exact WGgs.of (tt := gNil) (fun X hX => pgs_nil) ⟨rfl, q σ E fun _ _ => rfl⟩
theorem tgs_cons {js ks : List Nat} (h : Tg Γ tg d ρ ρ' js) (hr : Tgs Γ es ds ρ' ρ'' ks) (hs : ∀ env, (assignEach (tg :: es) env).map (·.2) = assign tg env :: (assignEach es env).map (·.2) := by intro _; rfl) : Tgs Γ (tg :: es) (d :: ds) ρ ρ'' (js ++ ks) := fun F A H σ M ps vs E hd Q q => by
  cases hd with
  | cons h1 h2 => exact WGgs.of (tt := gCons (WGg Γ tg) (WGgs Γ es)) (fun X hX => pgs_cons (pg_wg hX) (pgs_wg hX) (hs X.env)) ⟨_, _, rfl, h F A H σ M ps _ E h1 _ fun σ' E' w' => hr F A H σ' M ps _ E' h2 Q fun σ'' E'' w'' => q σ'' E'' fun vs hm => (w'' vs fun j hj => hm j (List.mem_append_right _ hj)).trans (w' vs fun j hj => hm j (List.mem_append_left _ hj))⟩
theorem tg_tup {k : Nat} {js : List Nat} (h : Tgs Γ es ds ρ ρ' js) (hn : ∀ env, (assignEach es env).length = ds.length := by intro _; rfl) (hst : ∀ env, (assignEach es env).findIdx? (·.1) = Option.none := by intro _; rfl) : Tg Γ (.Tuple es k pos) (.tuple ds) ρ ρ' js := fun F A H σ M ps v E hd Q q => by
  obtain ⟨a, xs, rfl, hs, hxs⟩ := dp_tup hd
  exact WGg.of (tt := gTup Γ.W.K ds.length (WGgs Γ es)) (fun X hX => hX.K ▸ pg_tup hX.calm (pgs_wg hX) (hn X.env) (hst X.env)) ⟨a, xs, rfl, ex_t E.ah hs, hxs.len, h F A H σ M ps xs E hxs Q q⟩
/-- what is walked: a list, a tuple, a range, a text, enumerate -/
theorem di_list (h : DX Γ F ρ M iter fun z M1 => ∃ ds, z = .d (.list ds) ∧ Pi ds M1) : DI Γ F ρ M tg iter Pi := fun A H σ ps E R q =>
  WGi.of (wi := iList Γ.W.K (WG Γ iter)) (fun X hX => hX.K ▸ pi_list (pe_wg hX)) (h A H σ ps E _ fun v z A1 H1 M1 ps1 x1 E1 r ⟨ds, hz, pi⟩ => by
    subst hz
    obtain ⟨p, xs, rfl, hs, hxs⟩ := dp_list r
    refine ⟨p, rfl, ⟨xs, ex_l E1.ah hs⟩, q _ ds A1 H1 M1 ps1 x1 E1 ⟨fun i H' e hi => ?_, fun i d A' H' x H3 hd ea eh hy => ?_, fun H' e => ⟨xs, ex_l e hs, by rw [hxs.len]; exact Nat.le_refl _⟩⟩ pi⟩
    · obtain ⟨x, hx, _⟩ := hxs.get (List.getElem?_eq_getElem hi)
      exact ⟨xs, x, ex_l e hs, hx⟩
    · obtain ⟨rfl, hy⟩ := hy
      obtain ⟨x', hx, hdp⟩ := hxs.get hd
      have e1 := hy xs (ex_l (ea.trans eh) hs)
      rw [hx] at e1
      cases e1
      exact ⟨A', Gw.refl eh, hdp.ex ea⟩)
theorem di_tup (h : DX Γ F ρ M iter fun z M1 => ∃ ds, z = .d (.tuple ds) ∧ Pi ds M1) : DI Γ F ρ M tg iter Pi := fun A H σ ps E R q =>
  WGi.of (wi := iTup Γ.W.K (WG Γ iter)) (fun X hX => hX.K ▸ pi_tup (pe_wg hX)) (h A H σ ps E _ fun v z A1 H1 M1 ps1 x1 E1 r ⟨ds, hz, pi⟩ => by
    subst hz
    obtain ⟨p, xs, rfl, hs, hxs⟩ := dp_tup r
    refine ⟨p, rfl, ⟨xs, ex_t E1.ah hs⟩, q _ ds A1 H1 M1 ps1 x1 E1 ⟨fun i H' e hi => ?_, fun i d A' H' x H3 hd ea eh hy => ?_, fun H' e => ⟨xs, ex_t e hs, by rw [hxs.len]; exact Nat.le_refl _⟩⟩ pi⟩
    · obtain ⟨x, hx, _⟩ := hxs.get (List.getElem?_eq_getElem hi)
      exact ⟨xs, x, ex_t e hs, hx⟩
    · obtain ⟨rfl, hy⟩ := hy
      obtain ⟨x', hx, hdp⟩ := hxs.get hd
      have e1 := hy xs (ex_t (ea.trans eh) hs)
      rw [hx] at e1
      cases e1
      exact ⟨A', Gw.refl eh, hdp.ex ea⟩)
theorem di_range (hm : Γ.W.mg "range" = Option.none) (h : DX Γ F ρ M e fun z M1 => ∃ n : Nat, z = .d (.int n) ∧ n ≤ 100000 ∧ Pi ((List.range n).map fun (k : Nat) => PyData.int (k : Int)) M1) (g : Glo Γ "range" := by rfl) (ne : NS e := by intro _ _; rfl) : DI Γ F ρ M tg (.Call (.Name "range" p) [e] [] pos) Pi := fun A H σ ps E R q =>
  WGi.of (wi := iRng1 (tCons (WG Γ e) tNil)) (fun X hX => pi_range1 (gl_of hX g) (by rw [hX.mg]; exact hm) (pa_cons (pe_wg hX) pa_nil (ne [] X.env)) (ne [] X.env)) (h A H σ ps E _ fun v z A1 H1 M1 ps1 x1 E1 r ⟨n, hz, hn, pi⟩ => by
    subst hz
    refine ⟨(n : Int), by rw [dp_int r], by omega, by omega, q _ _ A1 H1 M1 ps1 x1 E1 ⟨fun i H' e hi => ?_, fun i d A' H' x H3 hd ea eh hy => ?_, fun H' e => ?_⟩ pi⟩
    · rw [List.length_map, List.length_range] at hi
      show i < (n : Int).toNat
      omega
    · obtain ⟨rfl, rfl⟩ := hy
      rw [List.getElem?_map] at hd
      have hi : i < n := by
        cases e2 : (List.range n)[i]? with
        | none =>
          rw [e2] at hd
          cases hd
        | some k =>
          have := (List.getElem?_eq_some_iff.mp e2).1
          rw [List.length_range] at this
          exact this
      rw [List.getElem?_range hi] at hd
      have hd' : PyData.int (i : Int) = d := Option.some.inj hd
      subst hd'
      exact ⟨A', Gw.refl eh, by rw [Int.zero_add]; exact .int _⟩
    · rw [List.length_map, List.length_range]
      show (n : Int).toNat ≤ n
      omega)
theorem di_str (h : DX Γ F ρ M iter fun z M1 => ∃ w : Str, z = .d (.str w) ∧ Pi (w.cps.toList.map fun c => .str ⟨#[c]⟩) M1) : DI Γ F ρ M tg iter Pi := fun A H σ ps E R q =>
  WGi.of (wi := iStr (WG Γ iter)) (fun X hX => pi_str (pe_wg hX)) (h A H σ ps E _ fun v z A1 H1 M1 ps1 x1 E1 r ⟨w, hz, pi⟩ => by
    subst hz
    refine ⟨w, dp_str r, q _ _ A1 H1 M1 ps1 x1 E1 ⟨fun i H' e hi => ?_, fun i d A' H' x H3 hd ea eh hy => ?_, fun H' e => ?_⟩ pi⟩
    · rw [List.length_map, Array.length_toList] at hi
      exact hi
    · obtain ⟨rfl, c, hc, rfl⟩ := hy
      rw [List.getElem?_map, Array.getElem?_toList, hc] at hd
      have hd' : PyData.str ⟨#[c]⟩ = d := Option.some.inj hd
      subst hd'
      exact ⟨A', Gw.refl eh, .str _⟩
    · rw [List.length_map, Array.length_toList]
      exact Nat.le_refl _)
def enumD : Nat → List PyData → List PyData
  | _, [] => []
  | i, d :: ds => .tuple [.int i, d] :: enumD (i + 1) ds
theorem enumD_len : ∀ (i : Nat) (ds : List PyData), (enumD i ds).length = ds.length
  | _, [] => rfl
  | i, d :: ds => by rw [enumD, List.length_cons, List.length_cons, enumD_len (i + 1) ds]
theorem enumD_get : ∀ (ds : List PyData) (i k : Nat), (enumD i ds)[k]? = (ds[k]?).map fun d => .tuple [.int ((i + k : Nat) : Int), d]
  | [], _, _ => by simp [enumD]
  | d :: ds, i, 0 => by simp [enumD]
  | d :: ds, i, k + 1 => by
    rw [enumD, List.getElem?_cons_succ, List.getElem?_cons_succ, enumD_get ds (i + 1) k, show i + 1 + k = i + (k + 1) by omega]
theorem di_enum {tps : Pos} {elts : List Expr} {kk : Nat} (hm : Γ.W.mg "enumerate" = Option.none) (h : DX Γ F ρ M e fun z M1 => ∃ ds, z = .d (.list ds) ∧ Pi (enumD 0 ds) M1) (g : Glo Γ "enumerate" := by rfl) (ne : NS e := by intro _ _; rfl) : DI Γ F ρ M (.Tuple elts kk tps) (.Call (.Name "enumerate" p) [e] [] pos) Pi := fun A H σ ps E R q =>
  WGi.of (wi := iEnum Γ.W.K (tCons (WG Γ e) tNil)) (fun X hX => hX.K ▸ pi_enum (gl_of hX g) (by rw [hX.mg]; exact hm) (pa_cons (pe_wg hX) pa_nil (ne [] X.env)) (ne [] X.env)) (h A H σ ps E _ fun v z A1 H1 M1 ps1 x1 E1 r ⟨ds, hz, pi⟩ => by
    subst hz
    obtain ⟨p, xs, rfl, hs, hxs⟩ := dp_list r
    refine ⟨p, xs, rfl, ex_l E1.ah hs, q _ _ A1 H1 M1 ps1 x1 E1 ⟨fun i H' e hi => ?_, fun i d A' H' x H3 hd ea eh hy => ?_, fun H' e => ⟨xs, ex_l e hs, by rw [hxs.len, enumD_len]; exact Nat.le_refl _⟩⟩ pi⟩
    · rw [enumD_len] at hi
      obtain ⟨x, hx, _⟩ := hxs.get (List.getElem?_eq_getElem hi)
      exact ⟨xs, x, ex_l e hs, hx⟩
    · obtain ⟨T, x', rfl, nT, rfl, hy⟩ := hy
      rw [enumD_get, Nat.zero_add] at hd
      cases e2 : ds[i]? with
      | none =>
        rw [e2] at hd
        cases hd
      | some d0 =>
        rw [e2] at hd
        have hd' : PyData.tuple [.int (i : Int), d0] = d := Option.some.inj hd
        subst hd'
        obtain ⟨x2, hx, hdp⟩ := hxs.get e2
        have e1 := hy xs (ex_l (ea.trans eh) hs)
        rw [hx] at e1
        cases e1
        have w := Gw.new (o := .tup [.int (i : Int), x']) eh nT
        exact ⟨_, w, .tup (st_of upd_same) (.cons (.int _) (.cons (hdp.ex (ea.trans w.a)) .nil))⟩)
/-- for -/
theorem s_for (h : DI Γ B.F ρ M tg iter fun ds M1 => ∃ I : Nat → Rho → List MO → Prop, I 0 ρ M1 ∧ (∀ i d ρ1 M2, ds[i]? = some d → I i ρ1 M2 → ∃ ρ2 js, Tg Γ tg d ρ1 ρ2 js ∧ DS Γ B ρ2 M2 body (I (i + 1))) ∧ ∀ ρ1 M2, I ds.length ρ1 M2 → N ρ1 M2)
    (hs : ∀ env x, foldedSetIterable iter env x = pure x := by intro _ _; rfl) : DS1 Γ B ρ M (.For tg iter body [] pos) N := fun A H σ ps E D hD k =>
  WGs.of (ts := tFor (WGi Γ tg iter) (WGg Γ tg) (WGss Γ body)) (fun X hX => ps_for hX.po hX.calm (pi_wg hX) (pg_wg hX) (pss_wg hX) (hs X.env)) (h A H σ ps E _ fun J ds A1 H1 M1 ps1 x1 E1 wk ⟨I, h0, ht, he⟩ => by
    refine ⟨fun i m σ' H' => m = ds.length - i ∧ i ≤ ds.length ∧ ∃ A' ρ' M' ps', Nx A1 ps1 A' ps' ∧ En Γ.W.K B.F A' H' σ' ρ' M' ps' ∧ I i ρ' M', ⟨ds.length, by simp, Nat.zero_le _, A1, ρ, M1, ps1, .refl, E1, h0⟩, ?_⟩
    rintro i m σ' H' ⟨rfl, hi, A', ρ', M', ps', x', E', hI⟩
    by_cases hlt : i < ds.length
    · refine .inr ⟨wk.go i H' (x'.a.trans E'.ah) hlt, fun σ2 H2 => ∃ A2 ρ2 M2 ps2, Nx A1 ps1 A2 ps2 ∧ En Γ.W.K B.F A2 H2 σ2 ρ2 M2 ps2 ∧ I (i + 1) ρ2 M2, fun σ2 H2 hN => ⟨ds.length - (i + 1), by omega, rfl, hlt, hN⟩, fun x H2 hy => ?_⟩
      obtain ⟨A2, w, hd⟩ := wk.yld i ds[i] A' H' x H2 (List.getElem?_eq_getElem hlt) x'.a E'.ah hy
      obtain ⟨ρ2, js, tgk, hb⟩ := ht i ds[i] ρ' M' (List.getElem?_eq_getElem hlt) hI
      refine tgk B.F A2 H2 σ' M' ps' x (E'.step w) hd _ fun σ3 E3 _ => hb A2 H2 σ3 ps' E3 _ hD fun A4 H4 σ4 ρ4 M4 ps4 x4 E4 hI4 => ⟨A4, ρ4, M4, ps4, x'.trans ((Nx.of w.a).trans x4), E4, hI4⟩
    · have e : i = ds.length := by omega
      subst e
      exact .inl ⟨wk.stop H' (x'.a.trans E'.ah), k A' H' σ' ρ' M' ps' (x1.trans x') E' (he ρ' M' hI)⟩)
/-- while -/
theorem s_while (I : Nat → Rho → List MO → Prop) (m0 : Nat) (h0 : I m0 ρ M) (h : ∀ m ρ1 M1, I m ρ1 M1 → DT Γ B.F ρ1 M1 c fun k M2 => (k = true → DS Γ B ρ1 M2 body fun ρ2 M3 => ∃ m', m' < m ∧ I m' ρ2 M3) ∧ (k = false → N ρ1 M2)) : DS1 Γ B ρ M (.While c body [] pos) N := fun A H σ ps E D hD k =>
  WGs.of (ts := tWhile (WGt Γ c) (WGss Γ body)) (fun X hX => ps_while hX.po (pt_wg hX) (pss_wg hX)) (by
    refine ⟨fun m σ' H' => ∃ A' ρ' M' ps', Nx A ps A' ps' ∧ En Γ.W.K B.F A' H' σ' ρ' M' ps' ∧ I m ρ' M', ⟨m0, A, ρ, M, ps, .refl, E, h0⟩, ?_⟩
    rintro m σ' H' ⟨A', ρ', M', ps', x', E', hI⟩
    refine h m ρ' M' hI A' H' σ' ps' E' _ fun v A1 H1 M1 ps1 x1 E1 ⟨h1, h2⟩ => ?_
    cases v with
    | true => exact ⟨fun σ2 H2 => ∃ m', m' < m ∧ ∃ A2 ρ2 M2 ps2, Nx A ps A2 ps2 ∧ En Γ.W.K B.F A2 H2 σ2 ρ2 M2 ps2 ∧ I m' ρ2 M2, fun σ2 H2 hN => hN, h1 rfl A1 H1 σ' ps1 E1 _ hD fun A4 H4 σ4 ρ4 M4 ps4 x4 E4 ⟨m', hm, hI4⟩ => ⟨m', hm, A4, ρ4, M4, ps4, x'.trans (x1.trans x4), E4, hI4⟩⟩
    | false => exact k A1 H1 σ' ρ' M1 ps1 (x'.trans x1) E1 (h2 rfl))
end
end Ev
namespace Ev
open PySem PySem.Spec PyProof.Rows L2 Evl
/-! ### comprehensions -/
def inB (sc : Scope) (q : Str × NameKind) : Str × NameKind := (q.1, if (q.2 == .free && sc.kind == .function && sc.names.lookup q.1 == some .cell) = true then .cell else q.2)
def rlb (sc scope : Scope) : Scope := { scope with names := scope.names.map (inB sc) }
theorem rlb_eq (scope : Scope) (env : Env) : relabel scope env = rlb env.scope scope := by
  unfold relabel rlb
  congr 1
  apply List.map_congr_left
  intro q _
  obtain ⟨n, k⟩ := q
  show (if (k == NameKind.free && env.scope.kind == ScopeKind.function && env.scope.names.lookup n == some NameKind.cell) = true then (n, NameKind.cell) else (n, k)) = (n, if (k == NameKind.free && env.scope.kind == ScopeKind.function && env.scope.names.lookup n == some NameKind.cell) = true then NameKind.cell else k)
  split <;> rfl
def blkG (Γ : Gm) (scope : Scope) : Gm := { Γ with sc := rlb Γ.sc scope, st := fun x => scope.names.lookup x == some .cell || scope.names.lookup x == some .local, ew := Option.none, px := fun _ => True }
theorem has_blk {Γ : Gm} {X : Cx} {scope : Scope} (h : Has Γ X) (s : Shared) (H : Hp) (C : Addr) (cl : List (Str × Addr)) (fp : List Addr) : Has (blkG Γ scope) (X.blk s H scope (compEnvC scope cl C X.env) fp) where
  prog := h.prog
  w := h.w
  K := h.K
  mg := h.mg
  base := h.base
  N := h.N
  sc := by
    show relabel scope X.env = rlb Γ.sc scope
    rw [rlb_eq, h.sc]
  calm := h.calm
  room := h.room
  fn := fun x hx => by
    have hx' : (scope.names.lookup x == some .cell || scope.names.lookup x == some .local) = true := hx
    rcases (Bool.or_eq_true _ _).mp hx' with z | z
    · exact .inl z
    · exact .inr (lookup_relabel_local (by simpa using z))
  po := PassesOwn.never
  tk := fun E e => by cases e
  px := trivial
section
variable {K : Kf} {F : Fm} {A H A1 H1 : Hp} {σ σ1 : L2.St} {ρ ρ1 : Rho} {M M1 : List MO} {ps ps1 : List Addr}
def fmOf (A H : Hp) (ps : List Addr) : Fm := ⟨A, H, ps⟩
theorem En.into (E : En K F A H σ ρ M ps) : En K (fmOf A H ps) A H σ ρ M ps := ⟨.refl E.ah, E.ms, E.sl, E.rs, [], by simp [fmOf], fun p hp => by cases hp⟩
theorem En.nx (E : En K (fmOf A H ps) A1 H1 σ1 ρ1 M1 ps1) : Nx A ps A1 ps1 := ⟨E.fx.aa, by
  obtain ⟨qs, h, _⟩ := E.nw
  exact ⟨qs, h⟩⟩
theorem En.out (E : En K F A H σ ρ M ps) (E1 : En K (fmOf A H ps) A1 H1 σ1 ρ1 M1 ps1) : En K F A1 H1 σ1 ρ1 M1 ps1 := ⟨E.fx.trans E1.fx (nw_mem E), E1.ms, E1.sl, E1.rs, by
  obtain ⟨qs, h, h'⟩ := E.nw
  obtain ⟨rs, k, k'⟩ := E1.nw
  have k : ps1 = ps ++ rs := k
  refine ⟨qs ++ rs, by rw [k, h, List.append_assoc], fun p hp => ?_⟩
  rcases List.mem_append.mp hp with z | z
  · exact h' p z
  · exact Classical.byContradiction fun w => E.fx.nn p w (k' p z)⟩
/-- the slots as they stood -/
theorem En.back (E : En K F A H σ ρ M ps) (E1 : En K F A1 H1 σ1 ρ1 M1 ps1) (x : Nx A ps A1 ps1) : En K F A1 H1 σ ρ M1 ps1 := ⟨E1.fx, E1.ms, E.sl.mono x.a, ⟨fun i j h => by
  obtain ⟨p, h1, h2⟩ := E.rs.1 i j h
  exact ⟨p, x.at h1, h2⟩, E.rs.2⟩, E1.nw⟩
theorem wipeR_get (ρ : Rho) (i : Nat) : ∀ vs : List Nat, (wipeR ρ vs)[i]? = if i ∈ vs then (ρ[i]?).map (fun _ => Option.none) else ρ[i]?
  | [] => by simp [wipeR]
  | v :: vs => by
    have ih := wipeR_get ρ i vs
    have ln : ∀ ws : List Nat, (wipeR ρ ws).length = ρ.length := fun ws => by
      induction ws with
      | nil => rfl
      | cons w ws ih => unfold wipeR; rw [List.length_set, ih]
    unfold wipeR
    by_cases e : v = i
    · subst e
      rw [if_pos List.mem_cons_self]
      by_cases hl : v < (wipeR ρ vs).length
      · rw [List.getElem?_set_self hl]
        rw [ln] at hl
        rw [List.getElem?_eq_getElem hl]
        rfl
      · rw [List.getElem?_eq_none (by rw [List.length_set]; omega)]
        rw [ln] at hl
        rw [List.getElem?_eq_none (by omega)]
        rfl
    · rw [List.getElem?_set_ne e, ih]
      by_cases m : i ∈ vs
      · rw [if_pos m, if_pos (List.mem_cons_of_mem _ m)]
      · rw [if_neg m, if_neg (by
          intro z
          rcases List.mem_cons.mp z with z | z
          · exact e z.symm
          · exact m z)]
theorem wipeR_cases {ρ : Rho} {i : Nat} {vs : List Nat} {z : SV} (h : (wipeR ρ vs)[i]? = some (some z)) : i ∉ vs ∧ ρ[i]? = some (some z) := by
  rw [wipeR_get] at h
  by_cases m : i ∈ vs
  · rw [if_pos m] at h
    cases e : ρ[i]? with
    | none =>
      rw [e] at h
      cases h
    | some o =>
      rw [e] at h
      cases h
  · rw [if_neg m] at h
    exact ⟨m, h⟩
theorem En.wipe (E : En K F A H σ ρ M ps) (vs : List Nat) : En K F A H (L2.wipe σ vs) (wipeR ρ vs) M ps := ⟨E.fx, E.ms, E.sl.wipe vs, ⟨fun i j h => by
  obtain ⟨m, h⟩ := wipeR_cases h
  rw [wipe_get, if_neg m]
  exact E.rs.1 i j h, fun i x h => by
  obtain ⟨m, h⟩ := wipeR_cases h
  rw [wipe_get, if_neg m]
  exact E.rs.2 i x h⟩, E.nw⟩
/-- an object that is nobody's changes -/
theorem En.own {D : Addr} {o o0 : HO} (E : En K F A H σ ρ M ps) (hD : H D = some o0) (ho : noHit o0) (a : A D = Option.none) (f : F.H0 D = Option.none) (n : D ∉ ps) : En K F A (upd H D o) σ ρ M ps := by
  have keep : ∀ b u, b ≠ D → H b = some u → upd H D o b = some u := fun b u hb h => by
    rw [upd_ne hb]
    exact h
  have nn : ∀ b, H b ≠ Option.none → upd H D o b ≠ Option.none := fun b h => by
    by_cases e : b = D
    · rw [e, upd_same]
      simp
    · rw [upd_ne e]
      exact h
  refine ⟨⟨E.ah.mut a, E.fx.aa, E.fx.gr, fun b u hb h => keep b u (fun e => by rw [e, f] at h; cases h) (E.fx.hh b u hb h), fun b h => nn b (E.fx.nn b h)⟩, ⟨E.ms.ln, fun j m p hm hp => ?_, E.ms.nd⟩, E.sl, E.rs, E.nw⟩
  obtain ⟨g1, g2, g3⟩ := E.ms.mo j m p hm hp
  have np : p ≠ D := fun e => n (by rw [← e]; exact List.mem_of_getElem? hp)
  exact ⟨nn p g1, g2.keep np keep hD ho, g3⟩
end
def DTs (Γ : Gm) (F : Fm) (ρ : Rho) (M : List MO) (es : List Expr) (P : Bool → List MO → Prop) : Prop := ∀ A H σ ps, En Γ.W.K F A H σ ρ M ps → ∀ Q : Bool → Hp → Prop, (∀ b A1 H1 M1 ps1, Nx A ps A1 ps1 → En Γ.W.K F A1 H1 σ ρ M1 ps1 → P b M1 → Q b H1) → WGts Γ es σ H Q
section
variable {Γ : Gm} {B : Fb Γ} {F : Fm} {ρ ρ' ρ'' : Rho} {M : List MO} {e a b c tg iter elt : Expr} {ifs : List Expr} {P : SV → List MO → Prop} {PT : Bool → List MO → Prop} {pos p px : Pos} {x y : Str} {i j : Nat} {d : PyData} {ds : List PyData} {scope : Scope} {own : List (Str × Nat)}
theorem dts_nil (h : PT true M) : DTs Γ F ρ M [] PT := fun A H σ ps E Q q => WGts.of (te := tYes) (fun X hX => pts_nil) (q true A H M ps .refl E h)
theorem dts_one (h : DT Γ F ρ M c PT) : DTs Γ F ρ M [c] PT := fun A H σ ps E Q q => WGts.of (te := WGt Γ c) (fun X hX => pts_one (pt_wg hX)) (h A H σ ps E Q q)
/-- what a comprehension asks: I, by the turn and what is made so far -/
def LcOk (Γ : Gm) (ρ : Rho) (elt tg : Expr) (ifs : List Expr) (scope : Scope) (vs : List Nat) (ds : List PyData) (M1 : List MO) (Pa : List PyData → List MO → Prop) : Prop :=
  ds.length ≤ 40000 ∧ ∃ I : Nat → List PyData → List MO → Prop, I 0 [] M1 ∧
    (∀ i d acc M2, ds[i]? = some d → I i acc M2 → acc.length ≤ i → ∃ ρ2 js, (∀ j ∈ js, j ∈ vs) ∧ Tg (blkG Γ scope) tg d (wipeR ρ vs) ρ2 js ∧
      ∀ F', DTs (blkG Γ scope) F' ρ2 M2 ifs fun k M3 => (k = true → DX (blkG Γ scope) F' ρ2 M3 elt fun z M4 => ∃ y, z = .d y ∧ I (i + 1) (acc ++ [y]) M4) ∧ (k = false → I (i + 1) acc M3)) ∧
    ∀ acc M2, I ds.length acc M2 → acc.length ≤ ds.length → Pa acc M2
theorem lc_turns {J : It} {A1 H1 : Hp} {σ : L2.St} {M1 : List MO} {ps1 : List Addr} {vs : List Nat} {Q : VK} (E1 : En Γ.W.K F A1 H1 σ ρ M1 ps1) (wk : Wk Γ.W.K J A1 ds) {Pa : List PyData → List MO → Prop} (lc : LcOk Γ ρ elt tg ifs scope vs ds M1 Pa)
    (q : ∀ v acc A2 H2 M2 ps2, Nx A1 ps1 A2 ps2 → En Γ.W.K F A2 H2 σ ρ M2 ps2 → Dp Γ.W.K A2 v (.list acc) → Pa acc M2 → Q v H2) (D : Addr) (hD : H1 D = Option.none) :
    ∃ W : Nat → Nat → Hp → Prop, (∃ m, W 0 m (upd H1 D (.lst []))) ∧ ∀ i m H, W i m H →
      (J.stop i H ∧ Q (.ref D) H) ∨ (J.go i H ∧ ∃ Nn : Hp → Prop, (∀ H', Nn H' → ∃ m', m' < m ∧ W (i + 1) m' H') ∧ ∀ x H', J.yld i H x H' → WGg (blkG Γ scope) tg x (L2.wipe σ vs) H' fun σ2 H2 => L2.wipe σ2 vs = L2.wipe σ vs ∧ WGts (blkG Γ scope) ifs σ2 H2 fun b H3 =>
        if b = true then WG (blkG Γ scope) elt σ2 H3 fun y H4 => ∃ acc, H4 D = some (.lst acc) ∧ acc.length < sizeLine ∧ Nn (upd H4 D (.lst (acc ++ [y]))) else Nn H3) := by
  obtain ⟨hz, I, i0, it, ie⟩ := lc
  have f0 : F.H0 D = Option.none := Classical.byContradiction fun w => E1.fx.nn D w hD
  let St : Nat → Hp → Prop := fun i H' => i ≤ ds.length ∧ ∃ A' M' ps' acc xs, Nx A1 ps1 A' ps' ∧ En Γ.W.K F A' H' (L2.wipe σ vs) (wipeR ρ vs) M' ps' ∧ A' D = Option.none ∧ D ∉ ps' ∧ H' D = some (.lst xs) ∧ DpAll Γ.W.K A' xs acc ∧ acc.length ≤ i ∧ I i acc M'
  have np1 : D ∉ ps1 := fun hm => by
    obtain ⟨j, hj, e2⟩ := List.getElem_of_mem hm
    have hl : j < M1.length := by rw [E1.ms.ln]; exact hj
    exact (E1.ms.mo j M1[j] D (List.getElem?_eq_getElem hl) (by rw [List.getElem?_eq_getElem hj, e2])).1 hD
  refine ⟨fun i m H' => m = ds.length - i ∧ St i H', ⟨ds.length, by simp, Nat.zero_le _, A1, M1, ps1, [], [], .refl, (E1.wipe vs).step (Gw.grow E1.ah (Ex.new hD)), none_back E1.ah hD, np1, upd_same, .nil, Nat.le_refl _, i0⟩, ?_⟩
  rintro i m H' ⟨rfl, hi, A', M', ps', acc, xs, x', E', aD, nD, hD', hxs, hal, hI⟩
  by_cases hlt : i < ds.length
  · refine .inr ⟨wk.go i H' (x'.a.trans E'.ah) hlt, St (i + 1), fun H2 hN => ⟨ds.length - (i + 1), by omega, rfl, hN⟩, fun x H2 hy => ?_⟩
    obtain ⟨A2, w, hd⟩ := wk.yld i ds[i] A' H' x H2 (List.getElem?_eq_getElem hlt) x'.a E'.ah hy
    obtain ⟨ρ2, js, hjs, htg, hb⟩ := it i ds[i] acc M' (List.getElem?_eq_getElem hlt) hI hal
    have E2 := E'.step w
    have aD2 : A2 D = Option.none := by
      cases e : A2 D with
      | none => rfl
      | some o =>
        rcases w.g D (by rw [e]; simp) with z | z
        · exact absurd aD z
        · rw [z] at hD'
          cases hD'
    have hD2 := w.h D _ hD'
    refine htg F A2 H2 (L2.wipe σ vs) M' ps' x E2 hd _ fun σ3 E3 w3 => ⟨?_, ?_⟩
    · rw [w3 vs hjs]
      have := wipe_get σ
      apply List.ext_getElem?
      intro k
      rw [wipe_get, wipe_get]
      by_cases m : k ∈ vs
      · rw [if_pos m, if_pos m]
        cases σ[k]? <;> rfl
      · rw [if_neg m, if_neg m]
    -- the turn, in a frame of its own
    have out : ∀ {A4 H4 : Hp} {M4 : List MO} {ps4 : List Addr}, En Γ.W.K (fmOf A2 H2 ps') A4 H4 σ3 ρ2 M4 ps4 → En Γ.W.K F A4 H4 (L2.wipe σ vs) (wipeR ρ vs) M4 ps4 ∧ Nx A1 ps1 A4 ps4 ∧ A4 D = Option.none ∧ D ∉ ps4 ∧ H4 D = some (.lst xs) ∧ DpAll Γ.W.K A4 xs acc := fun {A4 H4 M4 ps4} E4 => by
      have E5 := E3.out E4
      refine ⟨E2.back E5 E4.nx, x'.trans ((Nx.of w.a).trans E4.nx), ?_, fun hm => ?_, E4.fx.hh D _ nD hD2, hxs.ex (w.a.trans E4.nx.a)⟩
      · cases e : A4 D with
        | none => rfl
        | some o =>
          rcases E4.fx.gr D (by rw [e]; simp) with z | z
          · exact absurd aD2 z
          · have z : H2 D = Option.none := z
            rw [hD2] at z
            cases z
      · rcases nw_mem E4 D hm with z | z
        · exact nD z
        · have z : H2 D = Option.none := z
          rw [hD2] at z
          cases z
    refine hb (fmOf A2 H2 ps') A2 H2 σ3 ps' E3.into _ fun k A3 H3 M3 ps3 x3 E4 ⟨h1, h2⟩ => ?_
    cases k with
    | false =>
      obtain ⟨g1, g2, g3, g4, g5, g6⟩ := out E4
      show St (i + 1) H3
      exact ⟨hlt, A3, M3, ps3, acc, xs, g2, g1, g3, g4, g5, g6, by omega, h2 rfl⟩
    | true =>
      refine h1 rfl A3 H3 σ3 ps3 E4 _ fun y z A4 H4 M4 ps4 x4 E5 r ⟨yd, hyz, hI4⟩ => ?_
      subst hyz
      obtain ⟨g1, g2, g3, g4, g5, g6⟩ := out E5
      refine ⟨xs, g5, sz_lt (by rw [hxs.len]; omega), hlt, A4, M4, ps4, acc ++ [yd], xs ++ [y], g2, g1.own g5 ⟨(fun q e => by cases e), fun φ e => by cases e⟩ g3 f0 g4, g3, g4, upd_same, g6.append (.cons r .nil), by rw [List.length_append, List.length_singleton]; omega, hI4⟩
  · have e : i = ds.length := by omega
    subst e
    have eA : Ex A' (upd A' D (.lst xs)) := Ex.new aD
    refine .inl ⟨wk.stop H' (x'.a.trans E'.ah), ?_⟩
    have E6 : En Γ.W.K F (upd A' D (.lst xs)) H' (L2.wipe σ vs) (wipeR ρ vs) M' ps' := by
      refine ⟨⟨fun b o hb => ?_, E'.fx.aa.trans eA, fun b hb => ?_, E'.fx.hh, E'.fx.nn⟩, ⟨E'.ms.ln, fun j m p hm hp => ?_, E'.ms.nd⟩, E'.sl.mono eA, E'.rs, E'.nw⟩
      · by_cases z : b = D
        · rw [z, upd_same] at hb
          rw [z, hD']
          exact hb
        · rw [upd_ne z] at hb
          exact E'.ah b o hb
      · by_cases z : b = D
        · rw [z]
          exact .inr f0
        · rw [upd_ne z] at hb
          exact E'.fx.gr b hb
      · obtain ⟨g1, g2, g3⟩ := E'.ms.mo j m p hm hp
        exact ⟨g1, g2.mono eA (Ex.refl _), fun g => by
          rw [upd_ne (fun e => nD (by rw [← e]; exact List.mem_of_getElem? hp))]
          exact g3 g⟩
    exact q _ acc _ H' M' ps' (x'.trans (.of eA)) (E1.back E6 (x'.trans (.of eA))) (.lst (sq_of upd_same) (hxs.ex eA)) (ie acc M' hI hal)
theorem dx_lc (h : DI Γ F ρ M tg iter fun ds M1 => LcOk Γ ρ elt tg ifs scope (own.map (·.2)) ds M1 fun acc M2 => P (.d (.list acc)) M2)
    (hs : ∀ env x, foldedSetIterable iter env x = pure x := by intro _ _; rfl) (nd : decide Γ.N.Nodup = true := by kernel_rfl) (ok : blkC Γ.N Γ.sc scope own = true := by kernel_rfl) : DX Γ F ρ M (.ListComp elt [⟨tg, iter, ifs, 0⟩] scope pos) P := fun A H σ ps E Q q =>
  WG.of (te := tLc (WGi Γ tg iter) (WGg (blkG Γ scope) tg) (WGts (blkG Γ scope) ifs) (WG (blkG Γ scope) elt) (own.map (·.2))) (fun X hX => pe_lc hX.calm (by rw [hX.N]; exact of_decide_eq_true nd) (pi_wg hX) (blkOk_by (by rw [hX.N, hX.sc]; exact ok))
    (fun s H C cl fp => pg_wg (has_blk hX s H C cl fp)) (fun s H C cl fp => pts_wg (has_blk hX s H C cl fp)) (fun s H C cl fp => pe_wg (has_blk hX s H C cl fp)) (hs X.env))
    (h A H σ ps E _ fun J ds A1 H1 M1 ps1 x1 E1 wk lc D hD => lc_turns E1 wk lc (fun v acc A2 H2 M2 ps2 x2 E2 r p => q v (.d (.list acc)) A2 H2 M2 ps2 (x1.trans x2) E2 r p) D hD)
end
end Ev
namespace Ev
open PySem PySem.Spec PyProof.Rows L2 Evl
/-! ### pure ones by the others -/
def noR (ρ : Rho) : Rho := ρ.map fun o => match o with
  | some (.r _) => Option.none
  | some (.v _) => Option.none
  | o => o
theorem noR_get {ρ : Rho} {i : Nat} {z : SV} (h : (noR ρ)[i]? = some (some z)) : ρ[i]? = some (some z) ∧ (∀ j, z ≠ .r j) ∧ ∀ x, z ≠ .v x := by
  unfold noR at h
  rw [List.getElem?_map] at h
  cases e : ρ[i]? with
  | none =>
    rw [e] at h
    cases h
  | some o =>
    rw [e] at h
    cases o with
    | none => cases h
    | some y =>
      cases y with
      | d x =>
        have h' : some (some (SV.d x)) = some (some z) := h
        cases h'
        exact ⟨rfl, fun j q => (by cases q), fun j q => (by cases q)⟩
      | r j => cases h
      | v x => cases h
theorem en_pure {K : Kf} {σ : L2.St} {A H : Hp} {ρ : Rho} (s : Sl K A σ ρ) (a : Ex A H) : En K (fmOf A H []) A H σ (noR ρ) [] [] := ⟨.refl a, ⟨rfl, (fun j m p hm => by cases hm), List.nodup_nil⟩, ⟨by rw [s.1]; simp [noR], fun i x h => s.2 i x (noR_get h).1⟩, ⟨fun i j h => absurd rfl ((noR_get h).2.1 j), fun i x h => absurd rfl ((noR_get h).2.2 x)⟩, [], rfl, fun p hp => by cases hp⟩
theorem gw_pure {K : Kf} {σ σ1 : L2.St} {A H A1 H1 : Hp} {ρ : Rho} {M1 : List MO} {ps1 : List Addr} (E : En K (fmOf A H []) A1 H1 σ ρ M1 ps1) : Gw A H A1 H1 := ⟨fun b o h => E.fx.hh b o (fun z => by cases z) h, E.fx.aa, E.fx.ah, E.fx.gr⟩
section
variable {Γ : Gm} {B : Fb Γ} {F : Fm} {ρ ρ' ρ'' : Rho} {M : List MO} {e a b c tg iter elt : Expr} {ifs : List Expr} {pos p px : Pos} {x y : Str} {i j : Nat} {d : PyData} {ds : List PyData} {scope : Scope} {own : List (Str × Nat)}
theorem xd_of (h : ∀ F, DX Γ F (noR ρ) [] e fun z _ => z = .d d) : XD Γ ρ e d := fun σ A s => ed_mk fun H a Q q => h (fmOf A H []) A H σ [] (en_pure s a) Q fun v z A1 H1 M1 ps1 x1 E1 r hz => by
  subst hz
  exact q v A1 H1 (gw_pure (σ1 := σ) E1) r
theorem xt_of {k : Bool} (h : ∀ F, DT Γ F (noR ρ) [] e fun z _ => z = k) : XT Γ ρ e k := fun σ A s H a Q q => h (fmOf A H []) A H σ [] (en_pure s a) Q fun v A1 H1 M1 ps1 x1 E1 hz => by
  subst hz
  exact q H1 (gw_pure (σ1 := σ) E1).h
def XI (Γ : Gm) (ρ : Rho) (tg iter : Expr) (ds : List PyData) : Prop := ∀ F M, DI Γ F ρ M tg iter fun ds' M' => ds' = ds ∧ M' = M
theorem xi_list (h : XD Γ ρ iter (.list ds)) : XI Γ ρ tg iter ds := fun F M => di_list (dx_d h ⟨ds, rfl, rfl, rfl⟩)
theorem xi_tup (h : XD Γ ρ iter (.tuple ds)) : XI Γ ρ tg iter ds := fun F M => di_tup (dx_d h ⟨ds, rfl, rfl, rfl⟩)
theorem xi_range {n : Nat} (hm : Γ.W.mg "range" = Option.none) (h : XD Γ ρ e (.int n)) (hn : n ≤ 100000) (g : Glo Γ "range" := by rfl) (ne : NS e := by intro _ _; rfl) : XI Γ ρ tg (.Call (.Name "range" p) [e] [] pos) ((List.range n).map fun (k : Nat) => PyData.int (k : Int)) := fun F M => di_range hm (dx_d h ⟨n, rfl, hn, rfl, rfl⟩) g ne
theorem xi_str {w : Str} (h : XD Γ ρ iter (.str w)) : XI Γ ρ tg iter (w.cps.toList.map fun c => .str ⟨#[c]⟩) := fun F M => di_str (dx_d h ⟨w, rfl, rfl, rfl⟩)
/-- a comprehension on data: f, which items are kept, r, what is made of them -/
theorem dx_lcp {P : SV → List MO → Prop} (h : XI Γ ρ tg iter ds) (hz : ds.length ≤ 40000) (f : PyData → Bool) (r : PyData → PyData)
    (turn : ∀ d, d ∈ ds → ∃ ρ2 js, (∀ j ∈ js, j ∈ own.map (·.2)) ∧ Tg (blkG Γ scope) tg d (wipeR ρ (own.map (·.2))) ρ2 js ∧ (∀ F', DTs (blkG Γ scope) F' ρ2 M ifs fun k M' => k = f d ∧ M' = M) ∧ (f d = true → XD (blkG Γ scope) ρ2 elt (r d)))
    (p : P (.d (.list ((ds.filter f).map r))) M) (hs : ∀ env x, foldedSetIterable iter env x = pure x := by intro _ _; rfl) (nd : decide Γ.N.Nodup = true := by kernel_rfl) (ok : blkC Γ.N Γ.sc scope own = true := by kernel_rfl) : DX Γ F ρ M (.ListComp elt [⟨tg, iter, ifs, 0⟩] scope pos) P := by
  refine dx_lc (nd := nd) (ok := ok) (fun A H σ ps E R q => h F M A H σ ps E R fun J ds' A1 H1 M1 ps1 x1 E1 wk hp => ?_) hs
  obtain ⟨rfl, rfl⟩ := hp
  refine q J ds' A1 H1 M1 ps1 x1 E1 wk ⟨hz, fun i acc M' => acc = ((ds'.take i).filter f).map r ∧ M' = M1, ⟨by simp, rfl⟩, fun i d acc M2 hd hI hl => ?_, fun acc M2 hI hl => ?_⟩
  · obtain ⟨rfl, rfl⟩ := hI
    obtain ⟨ρ2, js, h1, h2, h3, h4⟩ := turn d (List.mem_of_getElem? hd)
    refine ⟨ρ2, js, h1, h2, fun F' A2 H2 σ2 ps2 E2 Q2 q2 => h3 F' A2 H2 σ2 ps2 E2 Q2 fun k A3 H3 M3 ps3 x3 E3 hk => ?_⟩
    obtain ⟨rfl, rfl⟩ := hk
    refine q2 _ A3 H3 M3 ps3 x3 E3 ⟨fun hk => dx_d (h4 hk) ⟨r d, rfl, ?_, rfl⟩, fun hk => ⟨?_, rfl⟩⟩
    · rw [List.take_add_one, hd, List.filter_append, List.map_append]
      simp [hk]
    · rw [List.take_add_one, hd, List.filter_append, List.map_append]
      simp [hk]
  · obtain ⟨rfl, rfl⟩ := hI
    rw [List.take_of_length_le (Nat.le_refl _)]
    exact p
theorem xd_lcp (h : XI Γ (noR ρ) tg iter ds) (hz : ds.length ≤ 40000) (f : PyData → Bool) (r : PyData → PyData)
    (turn : ∀ d, d ∈ ds → ∃ ρ2 js, (∀ j ∈ js, j ∈ own.map (·.2)) ∧ Tg (blkG Γ scope) tg d (wipeR (noR ρ) (own.map (·.2))) ρ2 js ∧ (∀ F', DTs (blkG Γ scope) F' ρ2 [] ifs fun k M' => k = f d ∧ M' = []) ∧ (f d = true → XD (blkG Γ scope) ρ2 elt (r d)))
    (hs : ∀ env x, foldedSetIterable iter env x = pure x := by intro _ _; rfl) (nd : decide Γ.N.Nodup = true := by kernel_rfl) (ok : blkC Γ.N Γ.sc scope own = true := by kernel_rfl) : XD Γ ρ (.ListComp elt [⟨tg, iter, ifs, 0⟩] scope pos) (.list ((ds.filter f).map r)) := xd_of fun F => dx_lcp (nd := nd) (ok := ok) h hz f r turn rfl hs
/-- with a name as its target, without a test; with one test -/
theorem xd_lc0 (hN : Γ.N[j]? = some x) (h : XI Γ (noR ρ) (.Name x px) iter ds) (hz : ds.length ≤ 40000) (r : PyData → PyData)
    (turn : ∀ d, d ∈ ds → XD (blkG Γ scope) (((noR ρ).set j Option.none).set j (some (.d d))) elt (r d)) (hl : Loc (rlb Γ.sc scope) x := by first | exact .inl rfl | exact .inr rfl) (hst : (scope.names.lookup x == some .cell || scope.names.lookup x == some .local) = true := by rfl)
    (hs : ∀ env x, foldedSetIterable iter env x = pure x := by intro _ _; rfl) (nd : decide Γ.N.Nodup = true := by kernel_rfl) (ok : blkC Γ.N Γ.sc scope [(x, j)] = true := by kernel_rfl) : XD Γ ρ (.ListComp elt [⟨.Name x px, iter, [], 0⟩] scope pos) (.list (ds.map r)) :=
  (xd_lcp (own := [(x, j)]) (nd := nd) (ok := ok) h hz (fun _ => true) r (fun d hd => ⟨_, [j], fun k hk => hk, tg_name hN hl hst nd, fun F' => dts_nil ⟨rfl, rfl⟩, fun _ => turn d hd⟩) hs).is (by rw [List.filter_eq_self.mpr (fun _ _ => rfl)])
theorem xd_lc1 (hN : Γ.N[j]? = some x) (h : XI Γ (noR ρ) (.Name x px) iter ds) (hz : ds.length ≤ 40000) (f : PyData → Bool) (r : PyData → PyData)
    (test : ∀ d, d ∈ ds → XT (blkG Γ scope) (((noR ρ).set j Option.none).set j (some (.d d))) c (f d)) (turn : ∀ d, d ∈ ds → f d = true → XD (blkG Γ scope) (((noR ρ).set j Option.none).set j (some (.d d))) elt (r d))
    (hl : Loc (rlb Γ.sc scope) x := by first | exact .inl rfl | exact .inr rfl) (hst : (scope.names.lookup x == some .cell || scope.names.lookup x == some .local) = true := by rfl)
    (hs : ∀ env x, foldedSetIterable iter env x = pure x := by intro _ _; rfl) (nd : decide Γ.N.Nodup = true := by kernel_rfl) (ok : blkC Γ.N Γ.sc scope [(x, j)] = true := by kernel_rfl) : XD Γ ρ (.ListComp elt [⟨.Name x px, iter, [c], 0⟩] scope pos) (.list ((ds.filter f).map r)) :=
  xd_lcp (own := [(x, j)]) (nd := nd) (ok := ok) h hz f r (fun d hd => ⟨_, [j], fun k hk => hk, tg_name hN hl hst nd, fun F' => dts_one (dt_t (test d hd) ⟨rfl, rfl⟩), turn d hd⟩) hs
end
/-! ### defs -/
def gmPx (W : Wd) (N : List Str) (sc : Scope) (k : Nat) (E : XK) (px : Cx → Prop) : Gm := ⟨W, N, sc, k, fun _ => true, some E, px⟩
def gmOf (W : Wd) (N : List Str) (sc : Scope) (k : Nat) (E : XK) : Gm := ⟨W, N, sc, k, fun _ => true, some E, fun _ => True⟩
def startR (N : List Str) (zs : List SV) : Rho := zs.map some ++ List.replicate (N.length - zs.length) Option.none
theorem fk_mk {W : Wd} {x qual : Str} {params : Arguments} {body : List Stmt} {scope : Scope} {f : Addr} {fd : FuncData} {N ps : List Str} {k : Nat} {sp : Sp} (F : FunD W.K x qual params body scope [] [] f fd) (S : FnScope N ps scope) (hg : W.mg x = some (.ref f)) (hb : Binds W.K fd ps [])
    (len : ∀ vs H Q E, sp vs H Q E → vs.length = ps.length) (h : ∀ E vs H Q, sp vs H Q E → WGss (gmOf W N scope k E) body { nx := fun _ H' => Q .non H', rt := Q } (L2.start N vs) H) : Fk W (k + 1) x ps sp :=
  ⟨f, fd, hg, F.kp, hb, F.ok S len fun cdv A outer s H vs Q E hr hs => ⟨WGss (gmOf W N scope k E) body, pss_wg (Γ := gmOf W N scope k E) ⟨rfl, rfl, rfl, rfl, rfl, rfl, rfl, rfl, hr, fun _ _ => .inl rfl, passes_of rfl, fun E' e => by
    cases e
    exact takes_of rfl rfl rfl rfl, trivial⟩, h E vs H Q hs⟩⟩
theorem rvs_get {K : Kf} {A : Hp} {ps : List Addr} : ∀ {zs : List SV} {vs : List V} {i : Nat} {z : SV}, Rvs K A ps vs zs → zs[i]? = some z → ∃ v, vs[i]? = some v ∧ Rv K A ps v z
  | [], _, _, _, _, e => by simp at e
  | z :: zs, _, 0, z', h, e => by
    cases h with
    | cons h1 h2 =>
      have e' : z = z' := Option.some.inj e
      subst e'
      exact ⟨_, rfl, h1⟩
  | z :: zs, _, i + 1, z', h, e => by
    cases h with
    | cons h1 h2 =>
      obtain ⟨v, a, b⟩ := rvs_get (i := i) h2 (by simpa using e)
      exact ⟨v, by simpa using a, b⟩
theorem start_get {N : List Str} {zs : List SV} {i : Nat} {z : SV} (h : (startR N zs)[i]? = some (some z)) : zs[i]? = some z := by
  unfold startR at h
  by_cases hl : i < zs.length
  · rw [List.getElem?_append_left (by simpa using hl), List.getElem?_map] at h
    rw [List.getElem?_eq_getElem hl] at h ⊢
    exact Option.some.inj h
  · rw [List.getElem?_append_right (by simpa using hl), List.getElem?_replicate] at h
    split at h <;> cases h
theorem en_start {K : Kf} {A H : Hp} {N : List Str} {vs : List V} {zs : List SV} {M : List MO} {ps : List Addr} (a : Ex A H) (m : Ms K A H M ps) (r : Rvs K A ps vs zs) : En K (fmOf A H ps) A H (L2.start N vs) (startR N zs) M ps := by
  have hl := r.len
  have at_ : ∀ {i : Nat} {v : V}, vs[i]? = some v → (L2.start N vs)[i]? = some (some v) := fun {i v} h => by
    unfold L2.start
    have := (List.getElem?_eq_some_iff.mp h).1
    rw [List.getElem?_append_left (by simpa using this), List.getElem?_map, h]
    rfl
  refine ⟨.refl a, m, ⟨by simp [L2.start, startR, hl], fun i x h => ?_⟩, ⟨fun i j h => ?_, fun i x h => ?_⟩, [], by simp [fmOf], fun p hp => by cases hp⟩
  · obtain ⟨v, h1, h2⟩ := rvs_get r (start_get h)
    exact ⟨v, at_ h1, h2⟩
  · obtain ⟨v, h1, p, h2, rfl⟩ := rvs_get r (start_get h)
    exact ⟨p, h2, at_ h1⟩
  · obtain ⟨v, h1, h2⟩ := rvs_get r (start_get h)
    have e : v = x := h2
    subst e
    exact at_ h1
theorem rvs_of_d {K : Kf} {A : Hp} {ps : List Addr} : ∀ {ds : List PyData} {vs : List V}, DpAll K A vs ds → Rvs K A ps vs (ds.map .d)
  | [], _, h => by
    cases h
    exact .nil
  | d :: ds, _, h => by
    cases h with
    | cons h1 h2 => exact .cons h1 (rvs_of_d h2)
/-- what a def on data is to reach -/
def fbD (Γ : Gm) (A H : Hp) (Q : VK) (d : PyData) (q : Out Γ.W.K d A H Q) : Fb Γ where
  F := fmOf A H []
  rt := Q
  Rt := fun z _ => z = .d d
  PX := fun _ _ => False
  hR := fun A1 H1 σ ρ M ps v z E r hz => by
    subst hz
    exact q v H1 A1 (fun b o h => E.fx.hh b o (fun z => by cases z) h) E.fx.ah E.fx.gr r
  hX := fun _ _ _ _ _ _ _ _ _ _ _ _ _ z => z.elim
theorem fkD {W : Wd} {x qual : Str} {params : Arguments} {body : List Stmt} {scope : Scope} {f : Addr} {fd : FuncData} {N ps : List Str} {k n : Nat} {R : List PyData → PyData → Prop} (F : FunD W.K x qual params body scope [] [] f fd) (S : FnScope N ps scope) (hg : W.mg x = some (.ref f)) (hb : Binds W.K fd ps []) (hn : n = ps.length)
    (h : ∀ E A H Q ds d (q : Out W.K d A H Q), ds.length = n → R ds d → DS (gmOf W N scope k E) (fbD (gmOf W N scope k E) A H Q d q) (startR N (ds.map .d)) [] body fun _ _ => d = .none) : Fk W (k + 1) x ps (spD W.K n R) :=
  fk_mk F S hg hb (fun vs H Q E ⟨A, ds, d, h1, _, h2, _⟩ => by rw [h2.len, h1, hn]) fun E vs H Q ⟨A, ds, d, h1, h2, h3, h4, h5⟩ =>
    h E A H Q ds d h5 h1 h4 A H (L2.start N vs) [] (en_start (ps := []) h2 ⟨rfl, (fun j m p hm => by cases hm), List.nodup_nil⟩ (rvs_of_d h3)) _ rfl fun A1 H1 σ1 ρ1 M1 ps1 x1 E1 hd => by
      subst hd
      exact h5 .non H1 A1 (fun b o h => E1.fx.hh b o (fun z => by cases z) h) E1.fx.ah E1.fx.gr .non
/-- .. one that changes things -/
def okR (n : Nat) : SV → Prop
  | .d _ => True
  | .r j => j < n
  | .v _ => True
def okM (n : Nat) (M : List MO) : Prop := ∀ is, MO.rfs is ∈ M → ∀ i ∈ is, i < n
theorem ms_take {K : Kf} {A H A1 H1 : Hp} {σ : L2.St} {ρ : Rho} {M1 : List MO} {ps ps1 : List Addr} {n : Nat} (E : En K (fmOf A H ps) A1 H1 σ ρ M1 ps1) (hn : n = ps.length) (hw : okM n (M1.take n)) : Ms K A1 H1 (M1.take n) ps := by
  obtain ⟨qs, e, _⟩ := E.nw
  have e : ps1 = ps ++ qs := e
  subst hn
  refine ⟨by rw [List.length_take, E.ms.ln, e, List.length_append]; omega, fun j m p hm hp => ?_, ?_⟩
  · have hl := (List.getElem?_eq_some_iff.mp hp).1
    have hmm := List.mem_of_getElem? hm
    rw [List.getElem?_take_of_lt hl] at hm
    obtain ⟨g1, g2, g3⟩ := E.ms.mo j m p hm (by rw [e, List.getElem?_append_left hl]; exact hp)
    refine ⟨g1, ?_, g3⟩
    cases m with
    | rfs is =>
      obtain ⟨qs', a1, a2⟩ := g2
      refine ⟨qs', a1, ?_⟩
      rw [← a2]
      apply List.map_congr_left
      intro i hi
      rw [e, List.getElem?_append_left (hw is hmm i hi)]
    | _ => exact g2
  · have := E.ms.nd
    rw [e, List.nodup_append] at this
    exact this.1
def fbM (Γ : Gm) (A H : Hp) (Q : VK) (ps : List Addr) (n : Nat) (P : SV → List MO → Prop) (PX : Xc → List MO → Prop) (hn : n = ps.length)
    (q : ∀ v z A1 H1 M1, Fx A H ps A1 H1 → Ms Γ.W.K A1 H1 M1 ps → Rv Γ.W.K A1 ps v z → P z M1 → Q v H1)
    (qx : ∀ E, Γ.ew = some E → ∀ x A1 H1 M1 c d, Fx A H ps A1 H1 → Ms Γ.W.K A1 H1 M1 ps → XcIs Γ.W A1 H1 x c d → PX x M1 → E c d H1) : Fb Γ where
  F := fmOf A H ps
  rt := Q
  Rt := fun z M1 => okR n z ∧ okM n (M1.take n) ∧ P z (M1.take n)
  PX := fun x M1 => okM n (M1.take n) ∧ PX x (M1.take n)
  hR := fun A1 H1 σ ρ M ps1 v z E r hz => q v z A1 H1 _ E.fx (ms_take E hn hz.2.1) (by
    cases z with
    | d y => exact r
    | r j =>
      obtain ⟨p, h1, h2⟩ := r
      obtain ⟨qs, e, _⟩ := E.nw
      have e : ps1 = ps ++ qs := e
      have hj : j < n := hz.1
      exact ⟨p, by rw [e, List.getElem?_append_left (by omega)] at h1; exact h1, h2⟩
    | v x => exact r) hz.2.2
  hX := fun E he A1 H1 σ ρ M ps1 x c d En xi px => qx E he x A1 H1 _ c d En.fx (ms_take En hn px.1) xi px.2
theorem fkM {W : Wd} {x qual : Str} {params : Arguments} {body : List Stmt} {scope : Scope} {f : Addr} {fd : FuncData} {N ps : List Str} {k n : Nat} {R : MR} (F : FunD W.K x qual params body scope [] [] f fd) (S : FnScope N ps scope) (hg : W.mg x = some (.ref f)) (hb : Binds W.K fd ps []) (hn : n = ps.length)
    (h : ∀ E (B : Fb (gmOf W N scope k E)) zs M P PX, B.F.ps0.length = M.length → B.Rt = (fun z M1 => okR M.length z ∧ okM M.length (M1.take M.length) ∧ P z (M1.take M.length)) → B.PX = (fun x M1 => okM M.length (M1.take M.length) ∧ PX x (M1.take M.length)) → zs.length = n → R zs M P PX → DS (gmOf W N scope k E) B (startR N zs) M body fun _ M1 => okM M.length (M1.take M.length) ∧ P (.d .none) (M1.take M.length)) : Fk W (k + 1) x ps (spM W n R) :=
  fk_mk F S hg hb (fun vs H Q E ⟨A, qs, zs, M, P, PX, h1, _, _, h2, _⟩ => by rw [h2.len, h1, hn]) fun E vs H Q ⟨A, qs, zs, M, P, PX, h1, h2, h3, h4, h5, h6, h7⟩ =>
    h E (fbM (gmOf W N scope k E) A H Q qs M.length P PX h3.ln h6 (fun E' e => by cases e; exact h7)) zs M P PX h3.ln.symm rfl rfl h1 h5 A H (L2.start N vs) qs (en_start h2 h3 h4) _ rfl fun A1 H1 σ1 ρ1 M1 ps1 x1 E1 hd =>
      h6 .non (.d .none) A1 H1 _ E1.fx (ms_take E1 h3.ln hd.1) .non hd.2
end Ev
namespace Ev
open PySem PySem.Spec PyProof.Rows L2 Evl
/-! ### the text's defs -/
/-- the i-th statement of the text is the def x, and stands as such behind the top -/
def Dg (W : Wd) (x : Str) (i : Nat) : Prop := ∃ f fd, FunD W.K x x (defArgs (top i)) (defBody (top i)) (defScope (top i)) [] [] f fd ∧ W.mg x = some (.ref f)
theorem Dg.fd {W : Wd} {x : Str} {i k n : Nat} {N ps : List Str} {R : List PyData → PyData → Prop} (D : Dg W x i) (S : FnScope N ps (defScope (top i)))
    (hb : ∀ (kV doc pm : Value) (an : Option Addr) (cdv ct : Value) (us : List Value), us.length = ps.length → bindArgs (PySem.W.fnOf x x (defArgs (top i)) (defBody (top i)) (defScope (top i)) .none kV doc pm an cdv ct) ⟨us, []⟩ = pure (ps.zip us)) (hn : n = ps.length)
    (h : ∀ E A H Q ds d (q : Out W.K d A H Q), ds.length = n → R ds d → DS (gmOf W N (defScope (top i)) k E) (fbD (gmOf W N (defScope (top i)) k E) A H Q d q) (startR N (ds.map .d)) [] (defBody (top i)) fun _ _ => d = .none) : Fk W (k + 1) x ps (spD W.K n R) := by
  obtain ⟨f, fd, F, hg⟩ := D
  exact fkD F S hg (F.bindsN hb) hn h
def isI : PyData → Bool
  | .int _ => true
  | .bool _ => true
  | _ => false
def isB : PyData → Bool
  | .bool _ => true
  | _ => false
def isT : PyData → Bool
  | .tuple _ => true
  | _ => false
def isS : PyData → Bool
  | .str _ => true
  | _ => false
theorem kit_i : ∀ z : PyData, kitB (tyD z) "int" = some (isI z)
  | .none => (by decide +kernel : kitB "NoneType" "int" = some false)
  | .bool _ => (by decide +kernel : kitB "bool" "int" = some true)
  | .int _ => (by decide +kernel : kitB "int" "int" = some true)
  | .str _ => (by decide +kernel : kitB "str" "int" = some false)
  | .list _ => (by decide +kernel : kitB "list" "int" = some false)
  | .tuple _ => (by decide +kernel : kitB "tuple" "int" = some false)
  | .dict _ => (by decide +kernel : kitB "dict" "int" = some false)
theorem kit_b : ∀ z : PyData, kitB (tyD z) "bool" = some (isB z)
  | .none => (by decide +kernel : kitB "NoneType" "bool" = some false)
  | .bool _ => (by decide +kernel : kitB "bool" "bool" = some true)
  | .int _ => (by decide +kernel : kitB "int" "bool" = some false)
  | .str _ => (by decide +kernel : kitB "str" "bool" = some false)
  | .list _ => (by decide +kernel : kitB "list" "bool" = some false)
  | .tuple _ => (by decide +kernel : kitB "tuple" "bool" = some false)
  | .dict _ => (by decide +kernel : kitB "dict" "bool" = some false)
theorem kit_t : ∀ z : PyData, kitB (tyD z) "tuple" = some (isT z)
  | .none => (by decide +kernel : kitB "NoneType" "tuple" = some false)
  | .bool _ => (by decide +kernel : kitB "bool" "tuple" = some false)
  | .int _ => (by decide +kernel : kitB "int" "tuple" = some false)
  | .str _ => (by decide +kernel : kitB "str" "tuple" = some false)
  | .list _ => (by decide +kernel : kitB "list" "tuple" = some false)
  | .tuple _ => (by decide +kernel : kitB "tuple" "tuple" = some true)
  | .dict _ => (by decide +kernel : kitB "dict" "tuple" = some false)
theorem kit_s : ∀ z : PyData, kitB (tyD z) "str" = some (isS z)
  | .none => (by decide +kernel : kitB "NoneType" "str" = some false)
  | .bool _ => (by decide +kernel : kitB "bool" "str" = some false)
  | .int _ => (by decide +kernel : kitB "int" "str" = some false)
  | .str _ => (by decide +kernel : kitB "str" "str" = some true)
  | .list _ => (by decide +kernel : kitB "list" "str" = some false)
  | .tuple _ => (by decide +kernel : kitB "tuple" "str" = some false)
  | .dict _ => (by decide +kernel : kitB "dict" "str" = some false)
/-- the built-ins are what they were -/
structure Bl (W : Wd) : Prop where
  isinstance : W.mg "isinstance" = Option.none
  int : W.mg "int" = Option.none
  bool : W.mg "bool" = Option.none
  tuple : W.mg "tuple" = Option.none
  str : W.mg "str" = Option.none
  list : W.mg "list" = Option.none
  len : W.mg "len" = Option.none
  all : W.mg "all" = Option.none
  range : W.mg "range" = Option.none
  sorted : W.mg "sorted" = Option.none
  zip : W.mg "zip" = Option.none
  set : W.mg "set" = Option.none
  min : W.mg "min" = Option.none
  repr : W.mg "repr" = Option.none
  enumerate : W.mg "enumerate" = Option.none
theorem bt_int : bootBuiltins "int" = some (.type "int") := by decide +kernel
theorem bt_bool : bootBuiltins "bool" = some (.type "bool") := by decide +kernel
theorem bt_tuple : bootBuiltins "tuple" = some (.type "tuple") := by decide +kernel
theorem bt_str : bootBuiltins "str" = some (.type "str") := by decide +kernel
theorem bt_list : bootBuiltins "list" = some (.type "list") := by decide +kernel
section
variable {W : Wd}
def isInt : PyData → Bool
  | .int _ => true
  | _ => false
theorem isInt_eq (z : PyData) : (isI z && !isB z) = isInt z := by cases z <;> rfl
theorem ok_is_integer (b : Bl W) (t : Dg W "is_integer" 23) : Fk W 1 "is_integer" ["thing"] (spD W.K 1 fun ds d => ∃ z, ds = [z] ∧ d = .bool (isInt z)) :=
  t.fd (N := ["thing"]) ⟨rfl, rfl, rfl, by decide +kernel, rfl, by decide +kernel, by decide +kernel⟩ (fun _ _ _ _ _ _ us hl => match us, hl with | [_], _ => rfl) rfl fun E A H Q ds d q hl hR => by
    obtain ⟨z, rfl, rfl⟩ := hR
    refine ds_one (s_ret (dx_d (XD.is (xd_and2 (xd_isi b.isinstance b.int bt_int (xd_var (i := 0) rfl rfl) (kit_i z)) fun _ => xd_not (xd_isi b.isinstance b.bool bt_bool (xd_var (i := 0) rfl rfl) (kit_b z))) (congrArg PyData.bool (isInt_eq z))) rfl))
end
end Ev
namespace Ev
open PySem PySem.Spec PyProof.Rows L2 Evl
open PySem.W (alike alikeAll dataLt)
/-! ### a < b of data -/
def rLtD (K : Kf) : R2 := fun x y H Q => ∃ d e, Dp K H x d ∧ Dp K H y e ∧ alike d e = true ∧ d ≠ .none ∧ min d.depth e.depth ≤ 50 ∧ Q (.bl (dataLt d e)) H
theorem op_ltD {X : Cx} (hu : X.A.units + 64 < cLine) : OpR X (compareOp .Lt) (rLtD X.K) := by
  intro pins s σ H x y v u Q I rx ry h
  obtain ⟨d, e, hd, he, al, dn, dl, q⟩ := h
  obtain ⟨as, r1⟩ := Dp.reads I d x v hd rx
  obtain ⟨bs, r2⟩ := Dp.reads I e y u he ry
  exact PySem.W.lt_data r1 r2 al dn (by omega) ⟨.bl _, H, I, rfl, q⟩
theorem oc_ltD {Γ : Gm} {d e : PyData} (al : alike d e = true) (dn : d ≠ .none) (dl : min d.depth e.depth ≤ 50) : OC Γ .Lt d e (dataLt d e) := oc_v (r := rLtD Γ.W.K) (fun X h => by have z := op_ltD (X := X) h.room.units; rw [h.K] at z; exact z) fun u v A H a hx hy Q q => ⟨d, e, hx.ex a, hy.ex a, al, dn, dl, q⟩
/-! ### the rack's data -/
abbrev Cab := Int × Int × Str
abbrev Loo := Int × Int × List Int
def intsD (xs : List Int) : PyData := .tuple (xs.map .int)
def cabD (c : Cab) : PyData := .tuple [.int c.1, .int c.2.1, .str c.2.2]
def looD (l : Loo) : PyData := .tuple [.int l.1, .int l.2.1, intsD l.2.2]
def wholeD (z : PyData) (l m : Int) : Bool := match z with
  | .int k => decide (l ≤ k) && decide (k ≤ m)
  | _ => false
def areD (z : PyData) (n l m : Int) : Bool := match z with
  | .tuple xs => decide ((xs.length : Int) = n) && xs.all fun x => wholeD x l m
  | _ => false
def kindOk (k : Str) : Bool := decide (k = "post") || decide (k = "pre")
def cabOk (n : Int) (cs : List Cab) (i : Nat) : Bool := match cs[i]? with
  | none => false
  | some c => areD (intsD [c.1, c.2.1]) 2 0 (n - 1) && !decide (c.1 = c.2.1) && (decide (i = 0) || dataLt (cabD (cs.getD (i - 1) c)) (cabD c))
section
variable {W : Wd}
theorem ok_is_whole (b : Bl W) (t : Dg W "is_whole" 24) (f1 : Fk W 1 "is_integer" ["thing"] (spD W.K 1 fun ds d => ∃ z, ds = [z] ∧ d = .bool (isInt z))) : Fk W 2 "is_whole" ["thing", "least", "most"] (spD W.K 3 fun ds d => ∃ z l m, ds = [z, .int l, .int m] ∧ d = .bool (wholeD z l m)) :=
  t.fd (N := ["thing", "least", "most"]) ⟨rfl, rfl, rfl, by decide +kernel, rfl, by decide +kernel, by decide +kernel⟩ (fun _ _ _ _ _ _ us hl => match us, hl with | [_, _, _], _ => rfl) rfl fun E A H Q ds d q hl hR => by
    obtain ⟨z, l, m, rfl, rfl⟩ := hR
    refine ds_one (s_ret (dx_d ?_ rfl))
    cases z with
    | int k => exact XD.is (xd_and2 (xd_call f1 (xds_cons (xd_var (i := 0) rfl rfl) xds_nil) ⟨_, rfl, rfl⟩) fun _ => xd_chain (xd_var (i := 1) rfl rfl) (xd_var (i := 0) rfl rfl) (xd_var (i := 2) rfl rfl) oc_le oc_le) rfl
    | _ => exact XD.is (xd_and2 (k' := false) (xd_call f1 (xds_cons (xd_var (i := 0) rfl rfl) xds_nil) ⟨_, rfl, rfl⟩) fun h => Bool.noConfusion h) rfl
theorem ok_are_whole (b : Bl W) (t : Dg W "are_whole" 25) (f1 : Fk W 1 "is_integer" ["thing"] (spD W.K 1 fun ds d => ∃ z, ds = [z] ∧ d = .bool (isInt z))) :
    Fk W 2 "are_whole" ["thing", "many", "least", "most"] (spD W.K 4 fun ds d => ∃ xs n l m, ds = [.tuple xs, .int n, .int l, .int m] ∧ xs.length ≤ 40000 ∧ d = .bool (areD (.tuple xs) n l m)) :=
  t.fd (N := ["thing", "many", "least", "most", "item"]) ⟨rfl, rfl, rfl, by decide +kernel, rfl, by decide +kernel, by decide +kernel⟩ (fun _ _ _ _ _ _ us hl => match us, hl with | [_, _, _, _], _ => rfl) rfl fun E A H Q ds d q hl hR => by
    obtain ⟨xs, n, l, m, rfl, hz, rfl⟩ := hR
    refine ds_cons (s_if (dt_t (xt_or2 (xt_not (xt_v (xd_isi b.isinstance b.tuple bt_tuple (xd_var (i := 0) rfl rfl) (kit_t _)))) fun _ => xt_cmp (xd_callB boot_len b.len (xds_cons (xd_var (i := 0) rfl rfl) xds_nil) of_lenT) (xd_var (i := 1) rfl rfl) oc_neI) ⟨fun h => ?_, fun h => ?_⟩))
    · have h' : (!decide ((xs.length : Int) = n)) = true := h
      refine ds_one (s_ret (dx_d xd_b ?_))
      show SV.d (.bool false) = .d (.bool (decide ((xs.length : Int) = n) && _))
      rw [show decide ((xs.length : Int) = n) = false by simpa using h']
      rfl
    · have h' : (!decide ((xs.length : Int) = n)) = false := h
      refine ds_nil (ds_one (s_ret (dx_d (xd_callB boot_all b.all (xds_cons (XD.is (xd_lc0 (x := "item") (j := 4) rfl (xi_tup (xd_var (i := 0) rfl rfl)) hz (fun x => .bool (wholeD x l m)) fun x hx => ?_) (?_ : _ = PyData.list ((xs.map fun x => wholeD x l m).map PyData.bool))) xds_nil) of_all) ?_)))
      · cases x with
        | int k => exact XD.is (xd_and (xd_call f1 (xds_cons (xd_var (i := 4) rfl rfl) xds_nil) ⟨_, rfl, rfl⟩) fun _ => xd_and (xd_cmp (xd_var (i := 4) rfl rfl) (xd_var (i := 2) rfl rfl) oc_ge) fun _ => xd_one (xd_or2 (xd_cmp (xd_var (i := 3) rfl rfl) xd_n oc_isN) fun _ => xd_cmp (xd_var (i := 4) rfl rfl) (xd_var (i := 3) rfl rfl) oc_le)) (by simp [isInt, nonD, wholeD])
        | _ => exact XD.is (xd_and (k' := false) (xd_call f1 (xds_cons (xd_var (i := 4) rfl rfl) xds_nil) ⟨_, rfl, rfl⟩) fun h => Bool.noConfusion h) rfl
      · rw [List.map_map]
        rfl
      · show SV.d (.bool ((xs.map fun x => wholeD x l m).all id)) = .d (.bool (decide ((xs.length : Int) = n) && _))
        rw [show decide ((xs.length : Int) = n) = true by simpa using h', List.all_map]
        rfl
end
end Ev
namespace Ev
open PySem PySem.Spec PyProof.Rows L2 Evl
/-! ### more of what changes -/
section
variable {Γ : Gm} {B : Fb Γ} {F : Fm} {ρ ρ' ρ'' : Rho} {M : List MO} {e a b c tg iter elt kx vx : Expr} {es tgs : List Expr} {ifs : List Expr} {P : SV → List MO → Prop} {N : Rho → List MO → Prop} {pos p px : Pos} {x y : Str} {i j : Nat} {d : PyData} {ds : List PyData} {scope : Scope} {own : List (Str × Nat)} {zs : List SV} {z : SV}
theorem xv (i : Nat) (hN : Γ.N[i]? = some x) (hr : ρ[i]? = some (some (.d d))) (hv : Vis Γ.sc x := by first | exact Or.inl rfl | exact Or.inr (Or.inl rfl) | exact Or.inr (Or.inr rfl)) (hd : (x == ("__debug__" : Str)) = false := by decide) (hcd : (x == ("__classdict__" : Str)) = false := by decide) :
    XD Γ ρ (.Name x pos) d := xd_var hN hr hv hd hcd
/-- a new list that will change -/
theorem dx_newL (h : DXs Γ F ρ M es fun zs M1 => ∃ ds, zs = ds.map .d ∧ ds.length ≤ 100000 ∧ P (.r M1.length) (M1 ++ [.lst ds])) : DX Γ F ρ M (.List es pos) P := fun A H σ ps E Q q =>
  WG.of (te := tLst (WGa Γ es)) (fun X h => pe_lst (pa_wg h)) (h A H σ ps E _ fun vs zs A1 H1 M1 ps1 e1 E1 rs ⟨ds, hz, hl, p⟩ => by
    subst hz
    have hd := rvs_d rs
    refine ⟨by rw [hd.len]; exact sz_of hl, fun l hn => q _ (.r M1.length) A1 _ _ (ps1 ++ [l]) (e1.trans ⟨Ex.refl _, [l], rfl⟩) (E1.newM (m := .lst ds) hn ⟨vs, upd_same, hd⟩) ⟨l, ?_, rfl⟩ p⟩
    rw [E1.ms.ln]
    simp)
/-- a slice of a list that changes: a new list -/
theorem dx_slM {lo hi : Option Expr} {l u : Option Int} {p2 : Pos} (hN : Γ.N[i]? = some x) (hr : ρ[i]? = some (some (.r j))) (hm : M[j]? = some (.lst ds)) (h1 : XO Γ (rhoM ρ M) lo l) (h2 : XO Γ (rhoM ρ M) hi u) (p : P (.d (.list (cutG ds l u))) M)
    (hv : Vis Γ.sc x := by first | exact Or.inl rfl | exact Or.inr (Or.inl rfl) | exact Or.inr (Or.inr rfl)) (hd : (x == ("__debug__" : Str)) = false := by decide) (hcd : (x == ("__classdict__" : Str)) = false := by decide) :
    DX Γ F ρ M (.Subscript (.Name x px) (.Slice lo hi none p2) pos) P := fun A H σ ps E Q q => by
  obtain ⟨a, g1, g2⟩ := E.rs.1 i j hr
  obtain ⟨k1, ⟨xs, k2, k3⟩, _⟩ := E.ms.mo j _ a hm g1
  refine WG.of (te := tSl (rSlL Γ.W.K) (tVar i) (WGo Γ lo) (WGo Γ hi)) (fun X h => pe_slice (h.K ▸ sl_list : SlR X (rSlL Γ.W.K)) (var_of h hN hv hd hcd) (po_wg h) (po_wg h)) ⟨_, g2, h1 σ H E.slH H (Ex.refl H) _ fun H1 e1 => h2 σ H E.slH H1 e1 _ fun H2 e2 => ?_⟩
  have w := Gw.grow E.ah (e1.trans e2)
  refine ⟨a, xs, rfl, sq_of (w.h a _ k2), fun ad had => ?_⟩
  have w2 := w.trans (Gw.new (o := .lst (cutV xs l u)) w.k had)
  exact q _ (.d _) _ _ M ps (.of w2.a) (E.step w2) (.lst (sq_of upd_same) (dpa_cut (k3.ex w2.a) _ _)) p
/-- x.extend(e) -/
def rExtS (K : Kf) : V → List V → Hp → VK → Prop := fun x vs H Q => ∃ l b xs zs, x = .ref l ∧ vs = [.ref b] ∧ H l = some (.lst xs) ∧ SqL K H b zs ∧ xs.length + zs.length ≤ sizeLine ∧ Q .non (upd H l (.lst (xs ++ zs)))
theorem list_extS (l : Addr) (items : Array Value) (n : Nat) (b : Addr) (items2 : Array Value) (n2 : Nat) (dd2 : Option Addr) (sl2 : Array (Option Value)) (hc0 : ¬(!items.isEmpty && Builtin.List.listTooLong (items.size + items2.size)) = true) (hc1 : items.size ≤ sizeLine) (hs2 : items.size + items2.size ≤ sizeLine + 1) :
    Meets (Builtin.«list.extend» ⟨[.ref l, .ref b], []⟩) (fun _ R s => s.heap.get? l = some { cls := .type "list", dict := none, data := .seq items n, slots := #[] } ∧ s.heap.get? b = some { cls := .type "list", dict := dd2, data := .seq items2 n2, slots := sl2 } ∧ R (.ok (.ret Value.none)) { s with heap := s.heap.update l (Obj.mapSeq fun x => x ++ items2), toks := s.toks }) :=
  .of_wp fun prog w A R s h => by
    obtain ⟨hp, g, d, tk, os⟩ := s; obtain ⟨hl, hb, h⟩ := h
    have f1 := AutoSeq1.idx_int; have f2 := AutoSeq1.sub_tuple_tuple; have f3 := AutoSeq1.sub_list_list; have f4 := AutoSeq1.sub_tuple_list; have f5 := AutoSeq1.sub_list_tuple
    have hz' : (items ++ items2).size ≤ sizeLine + 1 := by simpa [Array.size_append] using hs2
    wp_walk using (wpAny_updateSeq hl rfl (hz := hc1) (_hz' := hz')), AutoSeq1.wpAny_loadPart' hl, AutoSeq1.wpAny_loadPart' hb; exact ⟨_, rfl, h⟩
theorem mt_extS {X : Cx} : MtR X "list.extend" (rExtS X.K) := by
  intro pins s σ H x vs v us Q I rx rv h
  obtain ⟨l, b, xs, zs, rfl, rfl, hH, hB, hz, q⟩ := h
  cases rx
  obtain ⟨u, rfl, ru⟩ := rv.one
  cases ru
  obtain ⟨z, its, n, r, hl, e⟩ := I.lstM hH
  obtain ⟨is2, r2, ⟨⟨c2, d2, da2, s2⟩, n2, e2, m1, m2, m3⟩, _⟩ := I.list hB
  simp only at m1 m3
  subst m1 m3
  have w2 := r2.length
  have hsz : its.toArray.size + is2.toArray.size ≤ sizeLine := by rw [List.size_toArray, List.size_toArray]; omega
  have hlong : ¬ (!its.toArray.isEmpty && Builtin.List.listTooLong (its.toArray.size + is2.toArray.size)) = true := by
    rw [notLongL hsz, Bool.and_false]
    simp
  refine call_meets F.slot_list_extend ⟨_, e, rfl⟩ F.entry_list_extend (F.args_list_extend_2 _ _) (list_extS l its.toArray n b is2.toArray n2 d2 s2 hlong (by rw [List.size_toArray]; omega) (by omega)) ⟨e, e2, ?_⟩
  exact ⟨.non, _, I.lset (its' := its ++ is2) hH e (by simp) (r.append r2) (by rw [List.length_append]; omega), rfl, q⟩
theorem s_ext {ap cp : Pos} (hN : Γ.N[i]? = some x) (hr : ρ[i]? = some (some (.r j))) {ds0 : List PyData} (hm : M[j]? = some (.lst ds0)) (h : DX Γ B.F ρ M e fun z M1 => ∃ ds es, z = .d (.list es) ∧ M1[j]? = some (.lst ds) ∧ ds.length + es.length ≤ 100000 ∧ N ρ (M1.set j (.lst (ds ++ es)))) (ne : NS e := by intro _ _; rfl)
    (hline : (ap.endLine == cp.line) = true := by rfl) (hv : Vis Γ.sc x := by first | exact Or.inl rfl | exact Or.inr (Or.inl rfl) | exact Or.inr (Or.inr rfl)) (hd : (x == ("__debug__" : Str)) = false := by decide) (hcd : (x == ("__classdict__" : Str)) = false := by decide) :
    DS1 Γ B ρ M (.Expr (.Call (.Attribute (.Name x px) "extend" ap) [e] [] cp) pos) N := fun A H σ ps E D hD k => by
  obtain ⟨q, h1, h2⟩ := E.rs.1 i j hr
  obtain ⟨g1, ⟨xs, g2, g3⟩, _⟩ := E.ms.mo j _ q hm h1
  refine WGs.of (ts := tDrop (tBM Γ.W.K "list" (rExtS Γ.W.K) (tVar i) (tCons (WG Γ e) tNil))) (fun X hX => ps_expr (hX.K ▸ pe_bm PySem.F.plainAttrs_list PySem.F.slot_list_extend PySem.F.type_list_extend mt_extS (var_of hX hN hv hd hcd) (pa_cons (pe_wg hX) pa_nil (ne [] X.env)) rfl (by
    have z := ne [] X.env
    rw [z]
    rfl) hline (ne [] X.env) rfl) rfl) ⟨_, h2, .inl ⟨rfl, xs, sq_of g2⟩, h A H σ ps E _ fun v z A1 H1 M1 ps1 e1 E1 r ⟨ds, es, hz, hm1, hl, n⟩ => ?_⟩
  subst hz
  obtain ⟨b, zs, rfl, hb, hzs⟩ := dp_list r
  have hq := e1.at h1
  obtain ⟨g4, ⟨ys, g5, g6⟩, g7⟩ := E1.ms.mo j _ q hm1 hq
  exact ⟨q, b, ys, zs, rfl, rfl, g5, ex_l E1.ah hb, by rw [g6.len, hzs.len]; exact sz_of hl, k A1 _ σ ρ _ ps1 e1 (E1.mut (m := .lst (ds ++ es)) hm1 rfl hq g5 ⟨(fun q z => by cases z), fun φ z => by cases z⟩ ⟨ys ++ zs, upd_same, g6.append hzs⟩) n⟩
/-- several names at once, by way of a tuple -/
def TgsV (Γ : Gm) (tgs : List Expr) (zs : List SV) (ρ ρ' : Rho) : Prop := ∀ F A H σ M ps vs, En Γ.W.K F A H σ ρ M ps → Rvs Γ.W.K A ps vs zs → ∀ Q : L2.St → Hp → Prop, (∀ σ', En Γ.W.K F A H σ' ρ' M ps → Q σ' H) → WGgs Γ tgs vs σ H Q
theorem tv_nil : TgsV Γ [] [] ρ ρ := fun F A H σ M ps vs E hd Q q => by
  cases hd
  exact WGgs.of (tt := gNil) (fun X hX => pgs_nil) ⟨rfl, q σ E⟩
theorem tv_cons (hN : Γ.N[i]? = some x) (hr : TgsV Γ es zs (ρ.set i (some z)) ρ') (hl : Loc Γ.sc x := by first | exact .inl rfl | exact .inr rfl) (hs : Γ.st x = true := by rfl) (nd : decide Γ.N.Nodup = true := by kernel_rfl)
    (ha : ∀ env, (assignEach (.Name x px :: es) env).map (·.2) = assign (.Name x px) env :: (assignEach es env).map (·.2) := by intro _; rfl) : TgsV Γ (.Name x px :: es) (z :: zs) ρ ρ' := fun F A H σ M ps vs E hd Q q => by
  cases hd with
  | cons h1 h2 => exact WGgs.of (tt := gCons (gName i) (WGgs Γ es)) (fun X hX => pgs_cons (pg_name (by rw [hX.N]; exact of_decide_eq_true nd) (by rw [hX.N]; exact hN) (stn_of hX hl hs).1 (stn_of hX hl hs).2) (pgs_wg hX) (ha X.env)) ⟨_, _, rfl, hr F A H _ M ps _ (E.setV i h1) h2 Q q⟩
theorem s_asgTup {x1 : _} {k : Nat} {pt : Pos} {pe : Pos} (h : DXs Γ B.F ρ M es fun zs M1 => zs.length ≤ 100000 ∧ zs.length = tgs.length ∧ ∃ ρ2, TgsV Γ tgs zs ρ ρ2 ∧ N ρ2 M1) (hn : ∀ env, (assignEach tgs env).length = tgs.length := by intro _; rfl) (hst : ∀ env, (assignEach tgs env).findIdx? (·.1) = Option.none := by intro _; rfl)
    (hs : ∀ env, swapsWithSole [.Tuple tgs k pt] (.Tuple es x1 pe) pos.line env = pure false := by intro _; rfl) (hw : ∀ env : Env, env.scope = Γ.sc → swappedStores [.Tuple tgs k pt] (.Tuple es x1 pe) env = pure none := by rintro ⟨⟩ h; cases h; rfl)
    (h1 : ∀ env, (assignEach [.Tuple tgs k pt] env).map (·.2) = [assign (.Tuple tgs k pt) env] := by intro _; rfl) : DS1 Γ B ρ M (.Assign [.Tuple tgs k pt] (.Tuple es x1 pe) pos) N := fun A H σ ps E D hD kk =>
  WGs.of (ts := tAsg (tTup (WGa Γ es)) (gTup Γ.W.K tgs.length (WGgs Γ tgs))) (fun X hX => ps_asg (pe_tup (pa_wg hX)) (hX.K ▸ pg_tup hX.calm (pgs_wg hX) (hn X.env) (hst X.env)) (hs X.env) (hw X.env hX.sc) (h1 X.env)) (h A H σ ps E _ fun vs zs A1 H1 M1 ps1 e1 E1 rs ⟨hl, hl2, ρ2, tv, n⟩ => by
    refine ⟨by rw [rs.len]; exact sz_of hl, fun l hn => ⟨l, vs, rfl, st_of upd_same, by rw [rs.len, hl2], ?_⟩⟩
    exact tv B.F A1 _ σ M1 ps1 vs (E1.step (Gw.grow E1.ah (Ex.new hn))) rs _ fun σ' E' => kk A1 _ σ' ρ2 M1 ps1 e1 E' n)
end
end Ev
namespace Ev
open PySem PySem.Spec PyProof.Rows L2 Evl
/-! ### sorted({k: v for ..}) -/
def keyIn (acc : List Int) (k : Int) : List Int := if k ∈ acc then acc else acc ++ [k]
theorem keyIn_nodup {acc : List Int} {k : Int} (h : acc.Nodup) : (keyIn acc k).Nodup := by
  unfold keyIn
  split
  · exact h
  · rename_i z
    rw [List.nodup_append]
    exact ⟨h, by simp, fun a ha b hb e => z (by
      have : b = k := by simpa using hb
      rw [← this, ← e]
      exact ha)⟩
theorem mem_keyIn {acc : List Int} {k x : Int} : x ∈ keyIn acc k ↔ x ∈ acc ∨ x = k := by
  unfold keyIn
  split
  · rename_i h
    constructor
    · exact .inl
    · rintro (h1 | rfl)
      · exact h1
      · exact h
  · simp
theorem keyIn_len (acc : List Int) (k : Int) : (keyIn acc k).length ≤ acc.length + 1 := by
  unfold keyIn
  split
  · omega
  · simp
theorem putK_fst (k : Int) (v : V) (acc : List Int) (kvs : List (Key × V)) (h : kvs.map (·.1) = acc.map Sum.inl) : (putK kvs (Sum.inl k) v).map (·.1) = (keyIn acc k).map Sum.inl := by
  have a : (kvs.any fun kv => decide (kv.1 = (Sum.inl k : Key))) = decide (k ∈ acc) := by
    rw [Bool.eq_iff_iff, List.any_eq_true, decide_eq_true_eq]
    have m : (Sum.inl k : Key) ∈ kvs.map (·.1) ↔ k ∈ acc := by
      rw [h, List.mem_map]
      constructor
      · rintro ⟨x, hx, e⟩
        cases e
        exact hx
      · exact fun hx => ⟨k, hx, rfl⟩
    rw [← m, List.mem_map]
    constructor
    · rintro ⟨x, hx, e⟩
      exact ⟨x, hx, of_decide_eq_true e⟩
    · rintro ⟨x, hx, e⟩
      exact ⟨x, hx, decide_eq_true e⟩
  unfold putK keyIn
  rw [a]
  by_cases m : k ∈ acc
  · rw [if_pos (decide_eq_true m), if_pos m, List.map_map, ← h]
    apply List.map_congr_left
    intro kv _
    show (if kv.1 = Sum.inl k then (kv.1, v) else kv).1 = kv.1
    split <;> rfl
  · rw [if_neg (by simpa using m), if_neg m, List.map_append, List.map_append, h]
    rfl
section
variable {Γ : Gm} {B : Fb Γ} {F : Fm} {ρ ρ' ρ'' : Rho} {M : List MO} {e a b c tg iter elt kx vx : Expr} {es tgs : List Expr} {ifs : List Expr} {P : SV → List MO → Prop} {N : Rho → List MO → Prop} {pos p px dpos : Pos} {x y : Str} {i j : Nat} {d dv : PyData} {ds : List PyData} {scope : Scope} {own : List (Str × Nat)}
theorem dx_sortDc (hm : Γ.W.mg "sorted" = Option.none) (h : XI Γ ρ tg iter ds) (hz : ds.length ≤ 60) (f : PyData → Bool) (key : PyData → Int)
    (turn : ∀ d, d ∈ ds → ∃ ρ2 js, (∀ j ∈ js, j ∈ own.map (·.2)) ∧ Tg (blkG Γ scope) tg d (wipeR ρ (own.map (·.2))) ρ2 js ∧ ∀ F', DTs (blkG Γ scope) F' ρ2 M ifs fun k M' => k = f d ∧ M' = M ∧ (k = true → DX (blkG Γ scope) F' ρ2 M kx (fun z M4 => z = .d (.int (key d)) ∧ M4 = M ∧ DX (blkG Γ scope) F' ρ2 M vx fun z M5 => M5 = M)))
    (p : ∀ ys : List Int, ys.Nodup → (∀ k, k ∈ ys ↔ k ∈ (ds.filter f).map key) → P (.d (.list (ys.map .int))) M)
    (g : Glo Γ "sorted" := by rfl) (hs : ∀ env x, foldedSetIterable iter env x = pure x := by intro _ _; rfl) (nd : decide Γ.N.Nodup = true := by kernel_rfl) (ok : blkC Γ.N Γ.sc scope own = true := by kernel_rfl) :
    DX Γ F ρ M (.Call (.Name "sorted" px) [.DictComp kx vx [⟨tg, iter, ifs, 0⟩] scope dpos] [] pos) P := fun A H σ ps E Q q => by
  refine WG.of (te := tCB (wCl Γ (.builtin "sorted")) (tCons (tDc (WGi Γ tg iter) (WGg (blkG Γ scope) tg) (WGts (blkG Γ scope) ifs) (WG (blkG Γ scope) kx) (WG (blkG Γ scope) vx) (own.map (·.2))) tNil)) (fun X hX => pe_callB (cl_w hX) (gl_of hX g) (by rw [hX.mg]; exact hm) PyProof.Rows.boot_sorted
    (pa_cons (pe_dc hX.calm (by rw [hX.N]; exact of_decide_eq_true nd) (pi_wg hX) (blkOk_by (by rw [hX.N, hX.sc]; exact ok)) (fun s H C cl fp => pg_wg (has_blk hX s H C cl fp)) (fun s H C cl fp => pts_wg (has_blk hX s H C cl fp)) (fun s H C cl fp => pe_wg (has_blk hX s H C cl fp)) (fun s H C cl fp => pe_wg (has_blk hX s H C cl fp)) (hs X.env)) pa_nil) (by decide) (by decide))
    (h F M A H σ ps E _ fun J ds' A1 H1 M1 ps1 x1 E1 wk hp => ?_)
  obtain ⟨rfl, rfl⟩ := hp
  intro D hD
  let ksOf : Nat → List Int := fun i => (((ds'.take i).filter f).map key).foldl keyIn []
  have kn : ∀ i, (ksOf i).Nodup := fun i => by
    have : ∀ (l acc : List Int), acc.Nodup → (l.foldl keyIn acc).Nodup := fun l => by
      induction l with
      | nil => exact fun acc h => h
      | cons x l ih => exact fun acc h => ih _ (keyIn_nodup h)
    exact this _ _ List.nodup_nil
  have km : ∀ i k, k ∈ ksOf i ↔ k ∈ ((ds'.take i).filter f).map key := fun i k => by
    have : ∀ (l acc : List Int), k ∈ l.foldl keyIn acc ↔ k ∈ acc ∨ k ∈ l := fun l => by
      induction l with
      | nil => simp
      | cons x l ih =>
        intro acc
        rw [List.foldl_cons, ih, mem_keyIn, List.mem_cons, or_assoc]
    rw [show ksOf i = _ from rfl, this]
    simp
  have kl : ∀ i, (ksOf i).length ≤ i := fun i => by
    have : ∀ (l acc : List Int), (l.foldl keyIn acc).length ≤ acc.length + l.length := fun l => by
      induction l with
      | nil => simp
      | cons x l ih =>
        intro acc
        rw [List.foldl_cons, List.length_cons]
        have := ih (keyIn acc x)
        have := keyIn_len acc x
        omega
    have h1 := this (((ds'.take i).filter f).map key) []
    rw [List.length_map] at h1
    have h2 := List.length_filter_le f (ds'.take i)
    have h3 := List.length_take_le i ds'
    have h4 : ([] : List Int).length = 0 := rfl
    show ((((ds'.take i).filter f).map key).foldl keyIn []).length ≤ i
    omega
  have f0 : F.H0 D = Option.none := Classical.byContradiction fun w => E1.fx.nn D w hD
  have np1 : D ∉ ps1 := fun hm => by
    obtain ⟨j, hj, e2⟩ := List.getElem_of_mem hm
    have hl : j < M1.length := by rw [E1.ms.ln]; exact hj
    exact (E1.ms.mo j M1[j] D (List.getElem?_eq_getElem hl) (by rw [List.getElem?_eq_getElem hj, e2])).1 hD
  let vs := own.map (·.2)
  let St : Nat → Hp → Prop := fun i H' => i ≤ ds'.length ∧ ∃ A' ps' kvs, Nx A1 ps1 A' ps' ∧ En Γ.W.K F A' H' (L2.wipe σ vs) (wipeR ρ vs) M1 ps' ∧ A' D = Option.none ∧ D ∉ ps' ∧ H' D = some (.dK kvs) ∧ kvs.map (·.1) = (ksOf i).map Sum.inl
  refine ⟨fun i m H' => m = ds'.length - i ∧ St i H', ⟨ds'.length, by simp, Nat.zero_le _, A1, ps1, [], .refl, (E1.wipe vs).step (Gw.grow E1.ah (Ex.new hD)), none_back E1.ah hD, np1, upd_same, by simp [ksOf]⟩, ?_⟩
  rintro i m H' ⟨rfl, hi, A', ps', kvs, x', E', aD, nD, hD', hkv⟩
  by_cases hlt : i < ds'.length
  · refine .inr ⟨wk.go i H' (x'.a.trans E'.ah) hlt, St (i + 1), fun H2 hN => ⟨ds'.length - (i + 1), by omega, rfl, hN⟩, fun x H2 hy => ?_⟩
    obtain ⟨A2, w, hd⟩ := wk.yld i ds'[i] A' H' x H2 (List.getElem?_eq_getElem hlt) x'.a E'.ah hy
    obtain ⟨ρ2, js, hjs, htg, hb⟩ := turn ds'[i] (List.getElem_mem hlt)
    have E2 := E'.step w
    have aD2 : A2 D = Option.none := by
      cases e : A2 D with
      | none => rfl
      | some o =>
        rcases w.g D (by rw [e]; simp) with z | z
        · exact absurd aD z
        · rw [z] at hD'
          cases hD'
    have hD2 := w.h D _ hD'
    have hkl : kvs.length ≤ i := by
      have e := congrArg List.length hkv
      rw [List.length_map, List.length_map] at e
      have := kl i
      omega
    have kS : f ds'[i] = true → ksOf (i + 1) = keyIn (ksOf i) (key ds'[i]) := fun z => by
      show (((ds'.take (i + 1)).filter f).map key).foldl keyIn [] = _
      rw [List.take_add_one, List.getElem?_eq_getElem hlt, List.filter_append, List.map_append, List.foldl_append]
      simp [z, ksOf]
    have kN : f ds'[i] = false → ksOf (i + 1) = ksOf i := fun z => by
      show (((ds'.take (i + 1)).filter f).map key).foldl keyIn [] = _
      rw [List.take_add_one, List.getElem?_eq_getElem hlt, List.filter_append, List.map_append, List.foldl_append]
      simp [z, ksOf]
    refine htg F A2 H2 (L2.wipe σ vs) M1 ps' x E2 hd _ fun σ3 E3 w3 => ⟨?_, ?_⟩
    · rw [w3 vs hjs]
      apply List.ext_getElem?
      intro k
      rw [wipe_get, wipe_get]
      by_cases m : k ∈ vs
      · rw [if_pos m, if_pos m]
        cases σ[k]? <;> rfl
      · rw [if_neg m, if_neg m]
    have out : ∀ {A4 H4 : Hp} {M4 : List MO} {ps4 : List Addr}, En Γ.W.K (fmOf A2 H2 ps') A4 H4 σ3 ρ2 M4 ps4 → En Γ.W.K F A4 H4 (L2.wipe σ vs) (wipeR ρ vs) M4 ps4 ∧ Nx A1 ps1 A4 ps4 ∧ A4 D = Option.none ∧ D ∉ ps4 ∧ H4 D = some (.dK kvs) := fun {A4 H4 M4 ps4} E4 => by
      have E5 := E3.out E4
      refine ⟨E2.back E5 E4.nx, x'.trans ((Nx.of w.a).trans E4.nx), ?_, fun hm => ?_, E4.fx.hh D _ nD hD2⟩
      · cases e : A4 D with
        | none => rfl
        | some o =>
          rcases E4.fx.gr D (by rw [e]; simp) with z | z
          · exact absurd aD2 z
          · have z : H2 D = Option.none := z
            rw [hD2] at z
            cases z
      · rcases nw_mem E4 D hm with z | z
        · exact nD z
        · have z : H2 D = Option.none := z
          rw [hD2] at z
          cases z
    refine hb (fmOf A2 H2 ps') A2 H2 σ3 ps' E3.into _ fun k A3 H3 M3 ps3 x3 E4 ⟨h1, h2, h3⟩ => ?_
    subst h2
    cases k with
    | false =>
      obtain ⟨g1, g2, g3, g4, g5⟩ := out E4
      show St (i + 1) H3
      exact ⟨hlt, A3, ps3, kvs, g2, g1, g3, g4, g5, by rw [kN h1.symm]; exact hkv⟩
    | true =>
      refine h3 rfl A3 H3 σ3 ps3 E4 _ fun y z A4 H4 M4 ps4 x4 E5 r ⟨hz1, hz2, hv⟩ => ?_
      subst hz1 hz2
      refine hv A4 H4 σ3 ps4 E5 _ fun y2 z2 A5 H5 M5 ps5 x5 E6 r2 hz3 => ?_
      subst hz3
      obtain ⟨g1, g2, g3, g4, g5⟩ := out E6
      refine ⟨kvs, Sum.inl (key ds'[i]), dp_int r, g5, sz_lt (by omega), hlt, A5, ps5, _, g2, g1.own g5 ⟨(fun q e => by cases e), fun φ e => by cases e⟩ g3 f0 g4, g3, g4, upd_same, ?_⟩
      rw [kS h1.symm]
      exact putK_fst _ _ _ _ hkv
  · have e : i = ds'.length := by omega
    subst e
    refine .inl ⟨wk.stop H' (x'.a.trans E'.ah), ?_⟩
    refine wCl.of (fun X hX => call_sortedDI hX.calm) ⟨D, kvs, ksOf ds'.length, rfl, .inl hD', hkv, by have := kl ds'.length; omega, fun ys l hp _ hl => ?_⟩
    have E6 : En Γ.W.K F A' H' σ ρ M1 ps' := E1.back E' x'
    have w2 := Gw.new (o := .lst (ys.map V.int)) E6.ah hl
    refine q _ (.d (.list (ys.map .int))) _ _ M1 ps' (x1.trans (x'.trans (.of w2.a))) (E6.step w2) (.lst (sq_of upd_same) (dpa_ints ys)) (p ys (hp.nodup_iff.mpr (kn _)) fun k => ?_)
    rw [hp.mem_iff, km, List.take_of_length_le (Nat.le_refl _)]
end
end Ev
namespace Ev
open PySem PySem.Spec PyProof.Rows L2 Evl
open PySem.W (alike alikeAll dataLt)
def Gs (W : Wd) (x k : Str) : Prop := ∃ t, W.mg x = some (.str k t)
def Gi (W : Wd) (x : Str) (k : Int) : Prop := ∃ t, W.mg x = some (.int k t)
theorem xgs {Γ : Gm} {ρ : Rho} {x k : Str} {pos : Pos} (h : Gs Γ.W x k) (g : Glo Γ x := by rfl) (hd : (x == ("__debug__" : Str)) = false := by decide) : XD Γ ρ (.Name x pos) (.str k) := by
  obtain ⟨t, h⟩ := h
  exact xd_gs h g hd
theorem xgi {Γ : Gm} {ρ : Rho} {x : Str} {k : Int} {pos : Pos} (h : Gi Γ.W x k) (g : Glo Γ x := by rfl) (hd : (x == ("__debug__" : Str)) = false := by decide) : XD Γ ρ (.Name x pos) (.int k) := by
  obtain ⟨t, h⟩ := h
  exact xd_gi h g hd
abbrev RArea : List PyData → PyData → Prop := fun ds d => ∃ xs n l m, ds = [.tuple xs, .int n, .int l, .int m] ∧ xs.length ≤ 40000 ∧ d = .bool (areD (.tuple xs) n l m)
abbrev RCable : List PyData → PyData → Prop := fun ds d => ∃ n cs i c, ds = [.int n, .tuple (cs.map cabD), .int ((i : Nat) : Int)] ∧ cs[i]? = some c ∧ kindOk c.2.2 = true ∧ d = .bool (cabOk n cs i)
theorem alike_cab (c e : Cab) : alike (cabD c) (cabD e) = true := rfl
theorem depth_cab (c e : Cab) : min (cabD c).depth (cabD e).depth ≤ 50 := by
  have : (cabD c).depth ≤ 50 := by simp [cabD, PyData.depth, PyData.depthAll]
  omega
theorem kind_mem {k : Str} (h : kindOk k = true) : k ∈ ([ "post", "pre" ] : List Str) := by
  unfold kindOk at h
  rcases (Bool.or_eq_true _ _).mp h with z | z
  · rw [of_decide_eq_true z]
    simp
  · rw [of_decide_eq_true z]
    simp
theorem ret_d {Γ : Gm} {A H : Hp} {Q : VK} {d d' : PyData} {q : Out Γ.W.K d A H Q} {ρ : Rho} {M : List MO} {e : Expr} {pos : Pos} {N : Rho → List MO → Prop} (h : XD Γ ρ e d') (hd : d' = d) : DS1 Γ (fbD Γ A H Q d q) ρ M (.Return (some e) pos) N := s_ret (dx_d h (by
  subst hd
  rfl))
section
variable {W : Wd}
theorem ok_is_cable (b : Bl W) (t : Dg W "is_cable" 36) (hpo : Gs W "POST" "post") (hpr : Gs W "PRE" "pre") (f2 : Fk W 2 "are_whole" ["thing", "many", "least", "most"] (spD W.K 4 RArea)) : Fk W 3 "is_cable" ["boxes", "cables", "number"] (spD W.K 3 RCable) :=
  t.fd (N := ["boxes", "cables", "number", "thing"]) ⟨rfl, rfl, rfl, by decide +kernel, rfl, by decide +kernel, by decide +kernel⟩ (fun _ _ _ _ _ _ us hl => match us, hl with | [_, _, _], _ => rfl) rfl fun E A H Q ds d q hl hR => by
    obtain ⟨n, cs, i, c, rfl, hc, hk, rfl⟩ := hR
    obtain ⟨a, e, k⟩ := c
    have hm := kind_mem hk
    refine ds_cons (s_asg (i := 3) rfl (dx_d (xd_ix (xv 1 rfl rfl) (xv 2 rfl rfl) (oi_T (atI_nat (show (cs.map cabD)[i]? = some (cabD (a, e, k)) by rw [List.getElem?_map, hc]; rfl)))) ?_))
    refine ds_cons (s_if (dt_t (XT.is (xt_or3 (xt_not (xt_v (xd_isi b.isinstance b.tuple bt_tuple (xv 3 rfl rfl) (kit_t _)))) (fun _ => xt_cmp (xd_callB boot_len b.len (xds_cons (xv 3 rfl rfl) xds_nil) of_lenT) xd_i oc_neI)
      fun _ _ => xt_not (xt_v (xd_call f2 (xds_cons (XD.is (xd_slT (xv 3 rfl rfl) xo_n (xo_i xd_i)) (rfl : _ = PyData.tuple [.int a, .int e])) (xds_cons xd_i (xds_cons xd_i (xds_cons (xd_bin (xv 0 rfl rfl) xd_i ob_sub) xds_nil)))) ⟨_, _, _, _, rfl, by simp, rfl⟩))) (rfl : _ = !areD (intsD [a, e]) 2 0 (n - 1))) ⟨fun h => ?_, fun h => ?_⟩))
    · have h' : areD (intsD [a, e]) 2 0 (n - 1) = false := by simpa using h
      refine ds_one (ret_d xd_b (congrArg PyData.bool ?_))
      rw [cabOk, hc]
      show false = (areD (intsD [a, e]) 2 0 (n - 1) && _ && _)
      rw [h']
      rfl
    · have h' : areD (intsD [a, e]) 2 0 (n - 1) = true := by simpa using h
      refine ds_nil (ds_cons (s_if (dt_t (xt_or3 (xt_cmp (xd_ix (xv 3 rfl rfl) xd_i (oi_T (atI_nat (j := 0) rfl))) (xd_ix (xv 3 rfl rfl) xd_i (oi_T (atI_nat (j := 1) rfl))) oc_eqI)
        (fun _ => xt_not (xt_v (xd_isi b.isinstance b.str bt_str (xd_ix (xv 3 rfl rfl) xd_i (oi_T (atI_nat (j := 2) rfl))) (kit_s _))))
        fun _ _ => xt_cmp (xd_ix (xv 3 rfl rfl) xd_i (oi_T (atI_nat (j := 2) rfl))) (xd_tup (xds_cons (xgs hpo) (xds_cons (xgs hpr) xds_nil))) (oc_niST (ys := ["post", "pre"]))) ⟨fun h2 => ?_, fun h2 => ?_⟩)))
      · have h2' : decide (a = e) = true := by simpa [isS, hm] using h2
        refine ds_one (ret_d xd_b (congrArg PyData.bool ?_))
        rw [cabOk, hc]
        show false = (_ && !decide (a = e) && _)
        rw [h2']
        simp
      · have h2' : decide (a = e) = false := by simpa [isS, hm] using h2
        have fin : cabOk n cs i = (decide (i = 0) || dataLt (cabD (cs.getD (i - 1) (a, e, k))) (cabD (a, e, k))) := by
          rw [cabOk, hc]
          show (areD (intsD [a, e]) 2 0 (n - 1) && !decide (a = e) && _) = _
          rw [h', h2']
          rfl
        refine ds_nil (ds_one (ret_d (xd_or2 (k' := dataLt (cabD (cs.getD (i - 1) (a, e, k))) (cabD (a, e, k))) (xd_cmp (xv 2 rfl rfl) xd_i oc_eqI) fun h0 => ?_) (congrArg PyData.bool ?_)))
        · have h0 : ¬ i = 0 := by simpa using h0
          have hi : i < cs.length := (List.getElem?_eq_some_iff.mp hc).1
          have hj : cs[i - 1]? = some (cs.getD (i - 1) (a, e, k)) := by
            rw [List.getD_eq_getElem?_getD, List.getElem?_eq_getElem (by omega : i - 1 < cs.length)]
            rfl
          have ej : ((i : Nat) : Int) - 1 = ((i - 1 : Nat) : Int) := by omega
          refine xd_cmp (xd_ix (xv 1 rfl rfl) (XD.is (xd_bin (xv 2 rfl rfl) xd_i ob_sub) (congrArg PyData.int ej)) (oi_T (atI_nat (show (cs.map cabD)[i - 1]? = some (cabD (cs.getD (i - 1) (a, e, k))) by rw [List.getElem?_map, hj]; rfl)))) (xv 3 rfl rfl) (oc_ltD (alike_cab _ _) (by intro z; cases z) (depth_cab _ _))
        · rw [fin]
          simp
end
end Ev
namespace Ev
open PySem PySem.Spec PyProof.Rows L2 Evl
theorem cut_take {α : Type} (xs : List α) (k : Nat) : cutG xs none (some (k : Int)) = xs.take k := by
  unfold cutG
  rw [HT.sIx_nat, HT.sIx_none]
  simp only [List.drop_zero, Nat.sub_zero]
  rcases Nat.le_total k xs.length with h | h
  · rw [Nat.min_eq_left h]
  · rw [Nat.min_eq_right h, List.take_of_length_le h, List.take_of_length_le (Nat.le_refl _)]
theorem cut_drop {α : Type} (xs : List α) (k : Nat) : cutG xs (some (k : Int)) none = xs.drop k := by
  unfold cutG
  rw [HT.sIx_nat, HT.sIx_none]
  rcases Nat.le_total k xs.length with h | h
  · rw [Nat.min_eq_left h, List.take_of_length_le (by rw [List.length_drop]; exact Nat.le_refl _)]
  · rw [Nat.min_eq_right h, List.drop_of_length_le (Nat.le_refl _), List.drop_of_length_le h]
    simp
/-! ### order_of -/
def readyOk (cs : List Cab) (found : List Int) (x : Int) : Bool := !decide (x ∈ found) && (cs.filter fun c => decide (c.2.1 = x)).all fun c => decide (c.1 ∈ found)
def natsI (n : Nat) : List Int := (List.range n).map fun k : Nat => (k : Int)
def readyOf (n : Nat) (cs : List Cab) (found : List Int) : List Int := (natsI n).filter (readyOk cs found)
def orderOf (n : Nat) (cs : List Cab) : Nat → List Int
  | 0 => []
  | t + 1 => orderOf n cs t ++ (readyOf n cs (orderOf n cs t)).take 1
theorem orderOf_len (n : Nat) (cs : List Cab) : ∀ t, (orderOf n cs t).length ≤ t
  | 0 => Nat.le_refl _
  | t + 1 => by
    have := orderOf_len n cs t
    rw [orderOf, List.length_append, List.length_take]
    omega
/-- of a cable's data -/
def cab0 : PyData → Int
  | .tuple (.int x :: _) => x
  | _ => 0
def cab1 : PyData → Int
  | .tuple (_ :: .int x :: _) => x
  | _ => 0
theorem filter_map_cab {β : Type} (cs : List Cab) (f : PyData → Bool) (r : PyData → β) : ((cs.map cabD).filter f).map r = (cs.filter fun c => f (cabD c)).map fun c => r (cabD c) := by
  rw [List.filter_map, List.map_map]
  rfl
abbrev ROrder : List PyData → PyData → Prop := fun ds d => ∃ (n : Nat) (cs : List Cab), ds = [.int n, .tuple (cs.map cabD)] ∧ n ≤ 8 ∧ cs.length ≤ 100 ∧ d = .list ((orderOf n cs n).map .int)
section
variable {W : Wd}
theorem nats_get {n k : Nat} {d : PyData} (h : ((List.range n).map fun (k : Nat) => PyData.int (k : Int))[k]? = some d) : k < n ∧ d = .int k := by
  rw [List.getElem?_map] at h
  cases e : (List.range n)[k]? with
  | none =>
    rw [e] at h
    cases h
  | some j =>
    have hl := (List.getElem?_eq_some_iff.mp e).1
    rw [List.length_range] at hl
    rw [List.getElem?_range hl] at e
    cases e
    rw [List.getElem?_range hl] at h
    exact ⟨hl, (Option.some.inj h).symm⟩
theorem ok_order_of (b : Bl W) (t : Dg W "order_of" 37) : Fk W 1 "order_of" ["boxes", "cables"] (spD W.K 2 ROrder) :=
  t.fd (N := ["boxes", "cables", "found", "turn", "ready", "box", "cable"]) ⟨rfl, rfl, rfl, by decide +kernel, rfl, by decide +kernel, by decide +kernel⟩ (fun _ _ _ _ _ _ us hl => match us, hl with | [_, _], _ => rfl) rfl fun E A H Q ds d q hl hR => by
    obtain ⟨n, cs, rfl, hn, hcs, rfl⟩ := hR
    refine ds_cons (s_asg (i := 2) rfl (dx_newL (dxs_nil ⟨[], rfl, by decide, ?_⟩)))
    refine ds_cons (s_for (di_range b.range (dx_d (xv 0 rfl rfl) ⟨n, rfl, by omega, fun t ρ' M' => ∃ G x3 x4 x5 x6, M' = .lst ((orderOf n cs t).map .int) :: G ∧ ρ' = [some (.d (.int n)), some (.d (.tuple (cs.map cabD))), some (.r 0), x3, x4, x5, x6], ?_, ?_, ?_⟩)))
    · exact ⟨[], _, _, _, _, rfl, rfl⟩
    · rintro t d ρ1 M2 hd ⟨G, x3, x4, x5, x6, rfl, rfl⟩
      obtain ⟨ht, rfl⟩ := nats_get hd
      refine ⟨_, _, tg_name (i := 3) rfl, ?_⟩
      generalize hf : orderOf n cs t = fnd
      have hfl : fnd.length ≤ t := hf ▸ orderOf_len n cs t
      refine ds_cons (s_asg (i := 4) rfl (dx_newL (dxs_nil ⟨[], rfl, by decide, ?_⟩)))
      refine ds_cons (s_for (di_range b.range (dx_d (xv 0 rfl rfl) ⟨n, rfl, by omega, fun k ρ' M' => ∃ x5 x6, M' = (.lst (fnd.map .int) :: G) ++ [.lst (((natsI k).filter (readyOk cs fnd)).map .int)] ∧ ρ' = [some (.d (.int n)), some (.d (.tuple (cs.map cabD))), some (.r 0), some (.d (.int t)), some (.r (G.length + 1)), x5, x6], ?_, ?_, ?_⟩)))
      · exact ⟨_, _, rfl, rfl⟩
      · rintro k d ρ1 M2 hd ⟨x5, x6, rfl, rfl⟩
        obtain ⟨hk, rfl⟩ := nats_get hd
        refine ⟨_, _, tg_name (i := 5) rfl, ?_⟩
        have hg : ((.lst (fnd.map .int) :: G) ++ [.lst (((natsI k).filter (readyOk cs fnd)).map .int)] : List MO)[G.length + 1]? = some (.lst (((natsI k).filter (readyOk cs fnd)).map .int)) := by simp
        have hs : natsI (k + 1) = natsI k ++ [(k : Int)] := by simp [natsI, List.range_succ]
        refine ds_one (s_if (dt_m (k := readyOk cs fnd k) (xt_and2 (xt_cmp (xv 5 rfl rfl) (xv 2 rfl rfl) oc_niI) fun _ => xt_v (xd_callB boot_all b.all (xds_cons (XD.is (xd_lc1 (x := "cable") (j := 6) rfl (xi_tup (xv 1 rfl rfl)) (by simpa using (by omega : cs.length ≤ 40000))
          (fun c => decide (cab1 c = (k : Int))) (fun c => .bool (decide (cab0 c ∈ fnd))) ?_ ?_) (?_ : _ = PyData.list (((cs.filter fun c => decide (c.2.1 = (k : Int))).map fun c => decide (c.1 ∈ fnd)).map .bool))) xds_nil) of_all) |>.is (by simp [readyOk])) ⟨fun h => ?_, fun h => ?_⟩))
        · intro c hc
          obtain ⟨c', _, rfl⟩ := List.mem_map.mp hc
          exact xt_cmp (xd_ix (xv 6 rfl rfl) xd_i (oi_T (atI_nat (j := 1) rfl))) (xv 5 rfl rfl) oc_eqI
        · intro c hc _
          obtain ⟨c', _, rfl⟩ := List.mem_map.mp hc
          exact xd_cmp (xd_ix (xv 6 rfl rfl) xd_i (oi_T (atI_nat (j := 0) rfl))) (xv 2 rfl rfl) oc_inI
        · rw [filter_map_cab, List.map_map]
          rfl
        · refine ds_one (s_app (i := 4) rfl rfl hg (dx_d (xv 5 rfl rfl) ⟨_, _, rfl, hg, ?_, ?_⟩))
          · rw [List.length_map]
            have := List.length_filter_le (readyOk cs fnd) (natsI k)
            have : (natsI k).length = k := by simp [natsI]
            omega
          · refine ⟨_, _, ?_, rfl⟩
            rw [hs, List.filter_append]
            simp [h]
        · refine ds_nil ⟨_, _, ?_, rfl⟩
          rw [hs, List.filter_append]
          simp [h]
      · rintro ρ1 M2 ⟨x5, x6, rfl, rfl⟩
        have hg : ((.lst (fnd.map .int) :: G) ++ [.lst (((natsI n).filter (readyOk cs fnd)).map .int)] : List MO)[G.length + 1]? = some (.lst (((natsI n).filter (readyOk cs fnd)).map .int)) := by simp
        rw [show ((List.range n).map fun (k : Nat) => PyData.int (k : Int)).length = n by simp]
        refine ds_one (s_ext (i := 2) (j := 0) rfl rfl rfl (dx_slM (i := 4) rfl rfl hg xo_n (xo_i xd_i) ⟨_, _, rfl, rfl, ?_, ?_⟩))
        · rw [List.length_map]
          have : (cutG (List.map PyData.int (List.filter (readyOk cs fnd) (natsI n))) none (some 1)).length ≤ 1 := by
            rw [show (1 : Int) = ((1 : Nat) : Int) from rfl, cut_take, List.length_take]
            omega
          omega
        · refine ⟨G ++ [.lst (((natsI n).filter (readyOk cs fnd)).map .int)], _, _, _, _, ?_, rfl⟩
          rw [show (1 : Int) = ((1 : Nat) : Int) from rfl, cut_take]
          show MO.lst _ :: (G ++ _) = MO.lst ((orderOf n cs (t + 1)).map .int) :: _
          rw [orderOf, hf, List.map_append, List.map_take]
          rfl
    · rintro ρ1 M2 ⟨G, x3, x4, x5, x6, rfl, rfl⟩
      rw [show ((List.range n).map fun (k : Nat) => PyData.int (k : Int)).length = n by simp]
      exact ds_freeze (i := 2) (j := 0) rfl rfl (Nat.zero_le _) (ds_one (ret_d (xv 2 rfl rfl) rfl))
end
end Ev
namespace Ev
open PySem PySem.Spec PyProof.Rows L2 Evl
open PySem.W (alike alikeAll dataLt)
/-! ### a def on data whose answer is told by what holds of it -/
def spN (K : Kf) (n : Nat) (Pre : List PyData → Prop) (R : List PyData → PyData → Prop) : Sp := fun vs H Q _ => ∃ A ds, ds.length = n ∧ Ex A H ∧ DpAll K A vs ds ∧ Pre ds ∧ ∀ d, R ds d → Out K d A H Q
section
variable {Γ : Gm} {F : Fm} {ρ : Rho} {M : List MO} {e a b c : Expr} {es : List Expr} {d : PyData} {P : SV → List MO → Prop} {pos p : Pos} {f : Str}
theorem dx_callN {k n : Nat} {ps : List Str} {Pre : List PyData → Prop} {R : List PyData → PyData → Prop} (Fn : Fk Γ.W k f ps (spN Γ.W.K n Pre R)) (ha : DXs Γ F ρ M (e :: es) fun zs M1 => ∃ ds, zs = ds.map .d ∧ ds.length = n ∧ Pre ds ∧ ∀ d, R ds d → P (.d d) M1) (hk : Nat.ble k Γ.k = true := by rfl) (g : Glo Γ f := by rfl) (ne : NS e := by intro _ _; rfl) (ns : NSs es := by intro _ _; rfl)
    (hdb : (f == ("__debug__" : Str)) = false := by decide) : DX Γ F ρ M (.Call (.Name f p) (e :: es) [] pos) P := fun A H σ qs E Q q => by
  obtain ⟨a, fd, h1, h2, h3, h4⟩ := Fn
  refine WG.of (te := tCall (spN Γ.W.K n Pre R) [] E0 (WGa Γ (e :: es))) (fun X h => by
    obtain ⟨u1, u2, u3, u4, u5⟩ : X.prog = Γ.W.P ∧ X.w = Γ.W.w ∧ X.K = Γ.W.K ∧ X.mg = Γ.W.mg ∧ X.base = Γ.W.base := ⟨h.prog, h.w, h.K, h.mg, h.base⟩
    exact pe_call (CX := L2.CX X.prog X.w) (E := E0) (dvs := []) (ds := []) (fd := fd) (ps := ps) (by rw [u1, u2, u3, u4, u5]; exact h4) (h.room.mono (Nat.le_of_ble_eq_true hk)) (gl_of h g) (by rw [u4]; exact h1) (by rw [u3]; exact h2) (by rw [u3]; exact h3) .nil passL (pa_wg h) hdb (ne es X.env) (ns pos X.env)) (ha A H σ qs E _ fun vs zs A1 H1 M1 ps1 e1 E1 rs ⟨ds, hz, hl, hp, hR⟩ => ?_)
  subst hz
  rw [List.append_nil]
  exact ⟨A1, ds, hl, E1.ah, rvs_d rs, hp, fun d hd => Out.use E1.ah fun v A2 H2 w hv => q v (.d d) A2 H2 M1 ps1 (e1.trans (.of w.a)) (E1.step w) hv (hR d hd)⟩
def fbN (Γ : Gm) (A H : Hp) (Q : VK) (ds : List PyData) (R : List PyData → PyData → Prop) (q : ∀ d, R ds d → Out Γ.W.K d A H Q) : Fb Γ where
  F := fmOf A H []
  rt := Q
  Rt := fun z _ => ∃ d, z = .d d ∧ R ds d
  PX := fun _ _ => False
  hR := fun A1 H1 σ ρ M ps v z E r ⟨d, hz, hd⟩ => by
    subst hz
    exact q d hd v H1 A1 (fun b o h => E.fx.hh b o (fun z => by cases z) h) E.fx.ah E.fx.gr r
  hX := fun _ _ _ _ _ _ _ _ _ _ _ _ _ z => z.elim
theorem ret_n {A H : Hp} {Q : VK} {ds : List PyData} {R : List PyData → PyData → Prop} {q : ∀ d, R ds d → Out Γ.W.K d A H Q} {N : Rho → List MO → Prop} (h : XD Γ ρ e d) (hd : R ds d) : DS1 Γ (fbN Γ A H Q ds R q) ρ M (.Return (some e) pos) N := s_ret (dx_d h ⟨d, rfl, hd⟩)
end
theorem Dg.fn {W : Wd} {x : Str} {i k n : Nat} {N ps : List Str} {Pre : List PyData → Prop} {R : List PyData → PyData → Prop} (D : Dg W x i) (S : FnScope N ps (defScope (top i)))
    (hb : ∀ (kV doc pm : Value) (an : Option Addr) (cdv ct : Value) (us : List Value), us.length = ps.length → bindArgs (PySem.W.fnOf x x (defArgs (top i)) (defBody (top i)) (defScope (top i)) .none kV doc pm an cdv ct) ⟨us, []⟩ = pure (ps.zip us)) (hn : n = ps.length)
    (h : ∀ E A H Q ds (q : ∀ d, R ds d → Out W.K d A H Q), ds.length = n → Pre ds → DS (gmOf W N (defScope (top i)) k E) (fbN (gmOf W N (defScope (top i)) k E) A H Q ds R q) (startR N (ds.map .d)) [] (defBody (top i)) fun _ _ => R ds .none) : Fk W (k + 1) x ps (spN W.K n Pre R) := by
  obtain ⟨f, fd, F, hg⟩ := D
  exact fk_mk F S hg (F.bindsN hb) (fun vs H Q E ⟨A, ds, h1, _, h2, _⟩ => by rw [h2.len, h1, hn]) fun E vs H Q ⟨A, ds, h1, h2, h3, h4, h5⟩ =>
    h E A H Q ds h5 h1 h4 A H (L2.start N vs) [] (en_start (ps := []) h2 ⟨rfl, (fun j m p hm => by cases hm), List.nodup_nil⟩ (rvs_of_d h3)) _ rfl fun A1 H1 σ1 ρ1 M1 ps1 x1 E1 hd =>
      h5 .none hd .non H1 A1 (fun b o h => E1.fx.hh b o (fun z => by cases z) h) E1.fx.ah E1.fx.gr .non
/-! ### what lies behind -/
inductive Rch (cs : List Cab) (b : Int) : Int → Prop
  | refl : Rch cs b b
  | step {y : Int} (c : Cab) : Rch cs b y → c ∈ cs → c.1 = y → Rch cs b c.2.1
theorem len_sub : ∀ {l m : List Int}, l.Nodup → (∀ x ∈ l, x ∈ m) → l.length ≤ m.length
  | [], _, _, _ => Nat.zero_le _
  | x :: l, m, hn, hs => by
    rw [List.nodup_cons] at hn
    have h1 := hs x List.mem_cons_self
    have ih := len_sub (l := l) (m := m.erase x) hn.2 fun y hy => (List.mem_erase_of_ne (fun e => hn.1 (by rw [← e]; exact hy))).mpr (hs y (List.mem_cons_of_mem _ hy))
    rw [List.length_erase_of_mem h1] at ih
    have := List.length_pos_of_mem h1
    rw [List.length_cons]
    omega
/-- from found on everything is found -/
theorem rch_closed {cs : List Cab} {b : Int} {found : List Int} (hb : b ∈ found) (hc : ∀ c ∈ cs, c.1 ∈ found → c.2.1 ∈ found) : ∀ {x : Int}, Rch cs b x → x ∈ found := fun {x} h => by
  induction h with
  | refl => exact hb
  | step c _ hm e ih => exact hc c hm (by rw [e]; exact ih)
abbrev PBehind : List PyData → Prop := fun ds => ∃ (cs : List Cab) (b : Int), ds = [.tuple (cs.map cabD), .int b] ∧ cs.length ≤ 50
abbrev RBehind : List PyData → PyData → Prop := fun ds d => ∀ (cs : List Cab) (b : Int), ds = [.tuple (cs.map cabD), .int b] → ∃ ys : List Int, d = .list (ys.map .int) ∧ ∀ k, k ∈ ys ↔ Rch cs b k
theorem cabs_inj : ∀ {cs cs' : List Cab}, cs.map cabD = cs'.map cabD → cs = cs'
  | [], [], _ => rfl
  | [], _ :: _, h => by cases h
  | _ :: _, [], h => by cases h
  | (a, e, k) :: cs, (a', e', k') :: cs', h => by
    rw [List.map_cons, List.map_cons, List.cons.injEq] at h
    obtain ⟨h1, h2⟩ := h
    cases h1
    rw [cabs_inj h2]
theorem eqv_nil (ds : List PyData) : PyData.eqv (.list ds) (.list []) = decide (ds = []) := by
  cases ds with
  | nil => rfl
  | cons x r => simp [PyData.eqv, PyData.eqvAll]
theorem shaped_ints (xs : List Int) : SeqAt.shaped (.list (xs.map .int)) = true := by
  unfold SeqAt.shaped
  rw [Bool.and_eq_true, decide_eq_true_eq]
  exact ⟨by rw [PyData.canLay0, canLayAll_ints], by rw [PyData.depth, depthAll_ints]; omega⟩
section
variable {W : Wd}
theorem ok_behind_of (b : Bl W) (t : Dg W "behind_of" 38) : Fk W 1 "behind_of" ["cables", "box"] (spN W.K 2 PBehind RBehind) :=
  t.fn (N := ["cables", "box", "found", "layer", "cable"]) ⟨rfl, rfl, rfl, by decide +kernel, rfl, by decide +kernel, by decide +kernel⟩ (fun _ _ _ _ _ _ us hl => match us, hl with | [_, _], _ => rfl) rfl fun E A H Q ds q hl hR => by
    obtain ⟨cs, x, rfl, hcs⟩ := hR
    refine ds_cons (s_asgTup (dxs_cons (dx_newL (dxs_d (xds_cons (xv 1 rfl rfl) xds_nil) ⟨_, rfl, by simp, dxs_cons (dx_d (xd_lst (xds_cons (xv 1 rfl rfl) xds_nil) (by simp)) (dxs_nil ⟨by simp, rfl, _, tv_cons (i := 2) rfl (tv_cons (i := 3) rfl tv_nil), ?_⟩))⟩))))
    -- found, layer
    refine ds_cons (s_while (fun m ρ' M' => ∃ fnd lay, M' = [.lst (fnd.map .int)] ∧ ρ' = [some (.d (.tuple (cs.map cabD))), some (.d (.int x)), some (.r 0), some (.d (.list (lay.map .int))), none] ∧ x ∈ fnd ∧ fnd.Nodup ∧ (∀ y ∈ lay, y ∈ fnd) ∧ (∀ y ∈ fnd, Rch cs x y) ∧ (∀ c ∈ cs, c.1 ∈ fnd → c.2.1 ∈ fnd ∨ c.1 ∈ lay) ∧
      m = (cs.filter fun c => !decide (c.2.1 ∈ fnd)).length + (if lay = [] then 0 else 1)) _ ⟨[x], [x], rfl, rfl, by simp, by simp, by simp, ?_, ?_, rfl⟩ ?_)
    · intro y hy
      have : y = x := by simpa using hy
      rw [this]
      exact .refl
    · intro c _ h
      exact .inr h
    rintro m ρ1 M1 ⟨fnd, lay, rfl, rfl, hx, hnd, hlf, hfr, hcl, rfl⟩
    refine dt_t (XT.is (xt_cmp (xv 3 rfl rfl) (xd_lst xds_nil (by simp)) (oc_neD (shaped_ints _) rfl)) (by rw [eqv_nil] : _ = !decide (lay.map PyData.int = []))) ⟨fun h => ?_, fun h => ?_⟩
    · have hlay : lay ≠ [] := fun e => by
        subst e
        cases h
      have sub : ∀ y ∈ fnd, y ∈ x :: cs.map (·.2.1) := fun y hy => by
        rcases hfr y hy with _ | ⟨c, _, hm, _⟩
        · exact List.mem_cons_self
        · exact List.mem_cons_of_mem _ (List.mem_map.mpr ⟨c, hm, rfl⟩)
      refine ds_cons (s_asg (i := 3) rfl (dx_sortDc (own := [("cable", 4)]) (tg := _) b.sorted (xi_tup (xv 0 rfl rfl)) (by simpa using (by omega : cs.length ≤ 60)) (fun c => decide (cab0 c ∈ lay) && !decide (cab1 c ∈ fnd)) cab1 (fun c hc => ?_) fun ys hyn hym => ?_))
      · obtain ⟨c, _, rfl⟩ := List.mem_map.mp hc
        refine ⟨_, [4], fun j hj => hj, tg_name (i := 4) rfl, fun F' => dts_one (dt_m (xt_and2 (xt_cmp (xd_ix (xv 4 rfl rfl) xd_i (oi_T (atI_nat (j := 0) rfl))) (xv 3 rfl rfl) oc_inI) fun _ => xt_cmp (xd_ix (xv 4 rfl rfl) xd_i (oi_T (atI_nat (j := 1) rfl))) (xv 2 rfl rfl) oc_niI) ⟨rfl, rfl, fun _ => dx_d (xd_ix (xv 4 rfl rfl) xd_i (oi_T (atI_nat (j := 1) rfl))) ⟨rfl, rfl, dx_d xd_b rfl⟩⟩)⟩
      · have hym' : ∀ k, k ∈ ys ↔ ∃ c ∈ cs, c.1 ∈ lay ∧ c.2.1 ∉ fnd ∧ c.2.1 = k := fun k => by
          rw [hym, filter_map_cab, List.mem_map]
          constructor
          · rintro ⟨c, hc, e⟩
            obtain ⟨hc1, hc2⟩ := List.mem_filter.mp hc
            have hc2 : (decide (c.1 ∈ lay) && !decide (c.2.1 ∈ fnd)) = true := hc2
            simp only [Bool.and_eq_true, decide_eq_true_eq, Bool.not_eq_true', decide_eq_false_iff_not] at hc2
            exact ⟨c, hc1, hc2.1, hc2.2, e⟩
          · rintro ⟨c, hc, h1, h2, e⟩
            exact ⟨c, List.mem_filter.mpr ⟨hc, by
              show (decide (c.1 ∈ lay) && !decide (c.2.1 ∈ fnd)) = true
              simp [h1, h2]⟩, e⟩
        have hys : ∀ y ∈ ys, y ∉ fnd := fun y hy => by
          obtain ⟨c, _, _, h2, e⟩ := (hym' y).mp hy
          rw [← e]
          exact h2
        have hnd' : (fnd ++ ys).Nodup := List.nodup_append.mpr ⟨hnd, hyn, fun a ha b hb e => hys b hb (by rw [← e]; exact ha)⟩
        have sub' : ∀ y ∈ fnd ++ ys, y ∈ x :: cs.map (·.2.1) := fun y hy => by
          rcases List.mem_append.mp hy with z | z
          · exact sub y z
          · obtain ⟨c, hc, _, _, e⟩ := (hym' y).mp z
            exact List.mem_cons_of_mem _ (List.mem_map.mpr ⟨c, hc, e⟩)
        have hlen := len_sub hnd' sub'
        rw [List.length_append, List.length_cons, List.length_map] at hlen
        refine ds_one (s_ext (i := 2) (j := 0) rfl rfl rfl (dx_d (xv 3 rfl rfl) ⟨_, _, rfl, rfl, by rw [List.length_map, List.length_map]; omega, ?_⟩))
        refine ⟨_, ?_, fnd ++ ys, ys, ?_, rfl, List.mem_append_left _ hx, hnd', fun y hy => List.mem_append_right _ hy, fun y hy => ?_, fun c hc h1 => ?_, rfl⟩
        · have mono : ∀ (l : List Cab), (l.filter fun c => !decide (c.2.1 ∈ fnd ++ ys)).length ≤ (l.filter fun c => !decide (c.2.1 ∈ fnd)).length := fun l => by
            induction l with
            | nil => exact Nat.le_refl _
            | cons c l ih =>
              rw [List.filter_cons, List.filter_cons]
              by_cases h1 : c.2.1 ∈ fnd
              · have h2 : c.2.1 ∈ fnd ++ ys := List.mem_append_left _ h1
                simpa [h1, h2] using ih
              · by_cases h2 : c.2.1 ∈ fnd ++ ys
                · simp only [h1, h2, decide_true, decide_false, Bool.not_true, Bool.not_false, if_true, if_false, Bool.false_eq_true, List.length_cons]
                  omega
                · simp only [h1, h2, decide_false, Bool.not_false, if_true, List.length_cons]
                  omega
          have strict : ys ≠ [] → (cs.filter fun c => !decide (c.2.1 ∈ fnd ++ ys)).length < (cs.filter fun c => !decide (c.2.1 ∈ fnd)).length := fun hne => by
            obtain ⟨y, hy⟩ := List.exists_mem_of_ne_nil ys hne
            obtain ⟨c, hc, _, h2, e⟩ := (hym' y).mp hy
            obtain ⟨l1, l2, rfl⟩ := List.append_of_mem hc
            have h3 : c.2.1 ∈ fnd ++ ys := List.mem_append_right _ (by rw [e]; exact hy)
            have m1 := mono l1
            have m2 := mono l2
            rw [List.filter_append, List.filter_append, List.filter_cons, List.filter_cons]
            simp only [h2, h3, decide_true, decide_false, Bool.not_true, Bool.not_false, if_true, if_false, Bool.false_eq_true, List.length_cons, List.length_append]
            omega
          rw [if_neg hlay]
          by_cases hy : ys = []
          · have := mono cs
            rw [if_pos hy]
            omega
          · have := strict hy
            rw [if_neg hy]
            omega
        · show [MO.lst (List.map PyData.int fnd ++ List.map PyData.int ys)] = _
          rw [List.map_append]
        · rcases List.mem_append.mp hy with z | z
          · exact hfr y z
          · obtain ⟨c, hc, h1, _, e⟩ := (hym' y).mp z
            rw [← e]
            exact .step c (hfr _ (hlf _ h1)) hc rfl
        · rcases List.mem_append.mp h1 with z | z
          · rcases hcl c hc z with w | w
            · exact .inl (List.mem_append_left _ w)
            · by_cases h2 : c.2.1 ∈ fnd
              · exact .inl (List.mem_append_left _ h2)
              · exact .inl (List.mem_append_right _ ((hym' _).mpr ⟨c, hc, w, h2, rfl⟩))
          · exact .inr z
    · have hlay : lay = [] := by
        cases lay with
        | nil => rfl
        | cons y l => cases h
      subst hlay
      refine ds_freeze (i := 2) (j := 0) rfl rfl (Nat.zero_le _) (ds_one (ret_n (xv 2 rfl rfl) fun cs' x' e => ?_))
      have e1 := (List.cons.inj e).1
      have e2 := (List.cons.inj (List.cons.inj e).2).1
      have e3 := cabs_inj (PyData.tuple.inj e1)
      have e4 := PyData.int.inj e2
      subst e3 e4
      exact ⟨fnd, rfl, fun k => ⟨hfr k, rch_closed hx fun c hc h1 => (hcl c hc h1).resolve_right (by simp)⟩⟩
end
end Ev
namespace Ev
open PySem PySem.Spec PyProof.Rows L2 Evl
open PySem.W (alike alikeAll dataLt)
/-! ### reached, by rounds -/
def reachCab (f : List Int) (c : Cab) : List Int := if (decide (c.1 ∈ f) && !decide (c.2.1 ∈ f)) = true then f ++ [c.2.1] else f
def reachRow (cs : List Cab) (f : List Int) : List Int := cs.foldl reachCab f
def reachN (cs : List Cab) (b : Int) : Nat → List Int
  | 0 => [b]
  | t + 1 => reachRow cs (reachN cs b t)
def reached (cs : List Cab) (b : Int) : List Int := reachN cs b cs.length
theorem reachCab_mem {f : List Int} {c : Cab} {x : Int} : x ∈ reachCab f c ↔ x ∈ f ∨ (c.1 ∈ f ∧ c.2.1 = x) := by
  unfold reachCab
  by_cases h1 : c.1 ∈ f <;> by_cases h2 : c.2.1 ∈ f
  · simp only [h1, h2, decide_true, Bool.not_true, Bool.and_false, Bool.false_eq_true, if_false]
    constructor
    · exact .inl
    · rintro (h | ⟨_, rfl⟩)
      · exact h
      · exact h2
  · simp only [h1, h2, decide_true, decide_false, Bool.not_false, Bool.and_self, if_true, List.mem_append, List.mem_singleton, true_and]
    constructor
    · rintro (h | h)
      · exact .inl h
      · exact .inr h.symm
    · rintro (h | h)
      · exact .inl h
      · exact .inr h.symm
  · simp [h1]
  · simp [h1]
theorem reachCab_nodup {f : List Int} {c : Cab} (h : f.Nodup) : (reachCab f c).Nodup := by
  unfold reachCab
  split
  · rename_i z
    simp only [Bool.and_eq_true, Bool.not_eq_true', decide_eq_false_iff_not, decide_eq_true_eq] at z
    rw [List.nodup_append]
    exact ⟨h, by simp, fun a ha b hb e => z.2 (by
      have : b = c.2.1 := by simpa using hb
      rw [← this, ← e]
      exact ha)⟩
  · exact h
theorem reachCab_len (f : List Int) (c : Cab) : f.length ≤ (reachCab f c).length := by
  unfold reachCab
  split
  · simp
  · exact Nat.le_refl _
theorem reachRow_len : ∀ (cs : List Cab) (f : List Int), f.length ≤ (reachRow cs f).length
  | [], f => Nat.le_refl _
  | c :: cs, f => Nat.le_trans (reachCab_len f c) (reachRow_len cs (reachCab f c))
theorem reachRow_sub : ∀ (cs : List Cab) {f : List Int} {x : Int}, x ∈ f → x ∈ reachRow cs f
  | [], _, _, h => h
  | c :: cs, f, x, h => reachRow_sub cs (reachCab_mem.mpr (.inl h))
theorem reachRow_nodup : ∀ (cs : List Cab) {f : List Int}, f.Nodup → (reachRow cs f).Nodup
  | [], _, h => h
  | c :: cs, f, h => reachRow_nodup cs (reachCab_nodup h)
theorem reachRow_step : ∀ (cs : List Cab) {f : List Int} {c : Cab}, c ∈ cs → c.1 ∈ f → c.2.1 ∈ reachRow cs f
  | e :: cs, f, c, hc, h => by
    rcases List.mem_cons.mp hc with z | z
    · subst z
      exact reachRow_sub cs (reachCab_mem.mpr (.inr ⟨h, rfl⟩))
    · exact reachRow_step cs z (reachCab_mem.mpr (.inl h))
theorem reachRow_rch {all : List Cab} {b : Int} : ∀ (cs : List Cab) {f : List Int}, (∀ c ∈ cs, c ∈ all) → (∀ y ∈ f, Rch all b y) → ∀ y ∈ reachRow cs f, Rch all b y
  | [], _, _, h => h
  | c :: cs, f, hs, h => reachRow_rch cs (fun d hd => hs d (List.mem_cons_of_mem _ hd)) fun y hy => by
    rcases reachCab_mem.mp hy with z | ⟨z, e⟩
    · exact h y z
    · rw [← e]
      exact .step c (h _ z) (hs c List.mem_cons_self) rfl
/-- a round that adds nothing: closed -/
theorem reachRow_same {cs : List Cab} {f : List Int} (h : (reachRow cs f).length = f.length) : reachRow cs f = f := by
  have key : ∀ (cs : List Cab) (f : List Int), (reachRow cs f).length = f.length → reachRow cs f = f := fun cs => by
    induction cs with
    | nil => exact fun f _ => rfl
    | cons c cs ih =>
      intro f h
      have h1 := reachCab_len f c
      have h2 := reachRow_len cs (reachCab f c)
      have h3 : (reachRow cs (reachCab f c)).length = f.length := h
      have h4 : reachCab f c = f := by
        unfold reachCab
        split
        · rename_i z
          have : (reachCab f c).length = f.length + 1 := by
            unfold reachCab
            rw [if_pos z]
            simp
          omega
        · rfl
      have h5 := ih (reachCab f c) (by rw [h4]; rw [h4] at h3; exact h3)
      show reachRow cs (reachCab f c) = f
      rw [h5, h4]
  exact key cs f h
theorem reachN_rch (cs : List Cab) (b : Int) : ∀ t, ∀ y ∈ reachN cs b t, Rch cs b y
  | 0, y, h => by
    have : y = b := by simpa [reachN] using h
    rw [this]
    exact .refl
  | t + 1, y, h => reachRow_rch cs (fun _ h => h) (reachN_rch cs b t) y h
theorem reachN_nodup (cs : List Cab) (b : Int) : ∀ t, (reachN cs b t).Nodup
  | 0 => by simp [reachN]
  | t + 1 => reachRow_nodup cs (reachN_nodup cs b t)
theorem reachN_start (cs : List Cab) (b : Int) : ∀ t, b ∈ reachN cs b t
  | 0 => by simp [reachN]
  | t + 1 => reachRow_sub cs (reachN_start cs b t)
theorem reachN_max (cs : List Cab) (b : Int) (t : Nat) : (reachN cs b t).length ≤ cs.length + 1 := by
  have := len_sub (m := b :: cs.map (·.2.1)) (reachN_nodup cs b t) fun y hy => by
    rcases reachN_rch cs b t y hy with _ | ⟨c, _, hm, _⟩
    · exact List.mem_cons_self
    · exact List.mem_cons_of_mem _ (List.mem_map.mpr ⟨c, hm, rfl⟩)
  simpa using this
/-- either a round added nothing, or each added one -/
theorem reachN_grow (cs : List Cab) (b : Int) : ∀ t, (∃ s, s < t ∧ reachN cs b (s + 1) = reachN cs b s ∧ reachN cs b t = reachN cs b s) ∨ t + 1 ≤ (reachN cs b t).length
  | 0 => .inr (by simp [reachN])
  | t + 1 => by
    rcases reachN_grow cs b t with ⟨s, h1, h2, h3⟩ | h
    · refine .inl ⟨s, by omega, h2, ?_⟩
      show reachRow cs (reachN cs b t) = _
      rw [h3]
      exact h2
    · have h1 := reachRow_len cs (reachN cs b t)
      by_cases e : (reachRow cs (reachN cs b t)).length = (reachN cs b t).length
      · exact .inl ⟨t, by omega, reachRow_same e, reachRow_same e⟩
      · refine .inr ?_
        show t + 1 + 1 ≤ (reachRow cs (reachN cs b t)).length
        omega
theorem mem_reached (cs : List Cab) (b x : Int) : x ∈ reached cs b ↔ Rch cs b x := by
  refine ⟨reachN_rch cs b _ x, rch_closed (reachN_start cs b _) fun c hc h => ?_⟩
  have h1 : c.2.1 ∈ reachRow cs (reached cs b) := reachRow_step cs hc h
  rcases reachN_grow cs b cs.length with ⟨s, h2, h3, h4⟩ | h2
  · have e : reachRow cs (reached cs b) = reached cs b := by
      show reachRow cs (reachN cs b cs.length) = reachN cs b cs.length
      rw [h4]
      exact h3
    rw [e] at h1
    exact h1
  · have h3 := reachN_max cs b (cs.length + 1)
    have h4 := reachRow_len cs (reachN cs b cs.length)
    have e : reachRow cs (reached cs b) = reached cs b := reachRow_same (by
      show (reachRow cs (reachN cs b cs.length)).length = (reachN cs b cs.length).length
      have h5 : (reachRow cs (reachN cs b cs.length)).length ≤ cs.length + 1 := h3
      omega)
    rw [e] at h1
    exact h1
theorem reached_len (cs : List Cab) (b : Int) : (reached cs b).length ≤ cs.length + 1 := reachN_max cs b _
abbrev RReach : List PyData → PyData → Prop := fun ds d => ∃ (cs : List Cab) (b : Int), ds = [.tuple (cs.map cabD), .int b] ∧ cs.length ≤ 100 ∧ d = .list ((reached cs b).map .int)
section
variable {W : Wd}
theorem ok_reached (t : Dg W "_law_reached" 72) : Fk W 1 "_law_reached" ["_law_cables", "_law_begin_here"] (spD W.K 2 RReach) :=
  t.fd (N := ["_law_cables", "_law_begin_here", "_law_found", "_law_turn", "_law_cable"]) ⟨rfl, rfl, rfl, by decide +kernel, rfl, by decide +kernel, by decide +kernel⟩ (fun _ _ _ _ _ _ us hl => match us, hl with | [_, _], _ => rfl) rfl fun E A H Q ds d q hl hR => by
    obtain ⟨cs, x, rfl, hcs, rfl⟩ := hR
    refine ds_cons (s_asg (i := 2) rfl (dx_newL (dxs_d (xds_cons (xv 1 rfl rfl) xds_nil) ⟨_, rfl, by simp, ?_⟩)))
    refine ds_cons (s_for (di_tup (dx_d (xv 0 rfl rfl) ⟨_, rfl, fun t ρ' M' => ∃ x3 x4, M' = [.lst ((reachN cs x t).map .int)] ∧ ρ' = [some (.d (.tuple (cs.map cabD))), some (.d (.int x)), some (.r 0), x3, x4], ⟨_, _, rfl, rfl⟩, ?_, ?_⟩)))
    · rintro t d ρ1 M2 hd ⟨x3, x4, rfl, rfl⟩
      refine ⟨_, _, tg_name (i := 3) rfl, ?_⟩
      refine ds_one (s_for (di_tup (dx_d (xv 0 rfl rfl) ⟨_, rfl, fun k ρ' M' => ∃ x3 x4, M' = [.lst ((reachRow (cs.take k) (reachN cs x t)).map .int)] ∧ ρ' = [some (.d (.tuple (cs.map cabD))), some (.d (.int x)), some (.r 0), x3, x4], ⟨_, _, rfl, rfl⟩, ?_, ?_⟩)))
      · rintro k d ρ1 M2 hd ⟨x3, x4, rfl, rfl⟩
        refine ⟨_, _, tg_name (i := 4) rfl, ?_⟩
        rw [List.getElem?_map] at hd
        cases hc : cs[k]? with
        | none =>
          rw [hc] at hd
          cases hd
        | some c =>
          rw [hc] at hd
          have hd' : cabD c = d := Option.some.inj hd
          subst hd'
          have hs : reachRow (cs.take (k + 1)) (reachN cs x t) = reachCab (reachRow (cs.take k) (reachN cs x t)) c := by
            unfold reachRow
            rw [List.take_add_one, hc, List.foldl_append]
            rfl
          generalize hf : reachRow (cs.take k) (reachN cs x t) = fnd at hs
          have hlen : fnd.length ≤ 90000 := by
            have h1 : fnd.length ≤ (reachRow (cs.take (k + 1)) (reachN cs x t)).length := by
              rw [hs]
              exact reachCab_len _ _
            have key : ∀ (l : List Cab) (f : List Int), (reachRow l f).length ≤ f.length + l.length := fun l => by
              induction l with
              | nil => exact fun f => Nat.le_refl _
              | cons c l ih =>
                intro f
                have h2 := ih (reachCab f c)
                have h3 : (reachCab f c).length ≤ f.length + 1 := by
                  unfold reachCab
                  split
                  · simp
                  · omega
                show (reachRow l (reachCab f c)).length ≤ f.length + (l.length + 1)
                omega
            have h2 := key (cs.take (k + 1)) (reachN cs x t)
            have h3 := reachN_max cs x t
            have h4 := List.length_take_le (k + 1) cs
            have h5 : (cs.take (k + 1)).length ≤ cs.length := by
              rw [List.length_take]
              omega
            omega
          refine ds_one (s_if (dt_m (xt_and2 (xt_cmp (xd_ix (xv 4 rfl rfl) xd_i (oi_T (atI_nat (j := 0) rfl))) (xv 2 rfl rfl) oc_inI) fun _ => xt_cmp (xd_ix (xv 4 rfl rfl) xd_i (oi_T (atI_nat (j := 1) rfl))) (xv 2 rfl rfl) oc_niI) ⟨fun h => ?_, fun h => ?_⟩))
          · refine ds_one (s_app (i := 2) (j := 0) rfl rfl rfl (dx_d (xd_ix (xv 4 rfl rfl) xd_i (oi_T (atI_nat (j := 1) rfl))) ⟨_, _, rfl, rfl, by rw [List.length_map]; omega, _, _, ?_, rfl⟩))
            rw [hs]
            have h : (decide (c.1 ∈ fnd) && !decide (c.2.1 ∈ fnd)) = true := h
            unfold reachCab
            rw [if_pos h, List.map_append]
            rfl
          · refine ds_nil ⟨_, _, ?_, rfl⟩
            rw [hs]
            have h : (decide (c.1 ∈ fnd) && !decide (c.2.1 ∈ fnd)) = false := h
            unfold reachCab
            rw [if_neg (by rw [h]; simp)]
      · rintro ρ1 M2 ⟨x3, x4, rfl, rfl⟩
        refine ⟨_, _, ?_, rfl⟩
        rw [List.length_map, List.take_of_length_le (Nat.le_refl _)]
        rfl
    · rintro ρ1 M2 ⟨x3, x4, rfl, rfl⟩
      refine ds_freeze (i := 2) (j := 0) rfl rfl (Nat.zero_le _) (ds_one (ret_d (xv 2 rfl rfl) ?_))
      rw [List.length_map]
      rfl
end
end Ev
namespace Ev
open PySem PySem.Spec PyProof.Rows L2 Evl
open PySem.W (alike alikeAll dataLt)
theorem alike_ints : ∀ xs ys : List Int, alikeAll (xs.map .int) (ys.map .int) = true
  | [], _ => rfl
  | _ :: _, [] => rfl
  | x :: xs, y :: ys => by
    rw [List.map_cons, List.map_cons, alikeAll, alike_ints xs ys]
    rfl
theorem alike_loo (c e : Loo) : alike (looD c) (looD e) = true := by
  have h := alike_ints c.2.2 e.2.2
  simp only [looD, intsD, alike, alikeAll, h, Bool.and_self]
theorem depth_loo (c e : Loo) : min (looD c).depth (looD e).depth ≤ 50 := by
  have : (looD c).depth ≤ 50 := by
    simp only [looD, intsD, PyData.depth, PyData.depthAll, depthAll_ints]
    decide
  omega
def looOk (m n : Int) (cs : List Cab) (ls : List Loo) (i : Nat) : Bool := match ls[i]? with
  | none => false
  | some l => areD (intsD [l.1, l.2.1]) 2 0 (n - 1) && (areD (intsD l.2.2) m 0 9 && (decide (l.1 ∈ reached cs l.2.1) && (decide (i = 0) || dataLt (looD (ls.getD (i - 1) l)) (looD l))))
abbrev RLoop : List PyData → PyData → Prop := fun ds d => ∃ m n cs ls i l, ds = [.int m, .int n, .tuple (cs.map cabD), .tuple (ls.map looD), .int ((i : Nat) : Int)] ∧ ls[i]? = some l ∧ l.2.2.length ≤ 40000 ∧ cs.length ≤ 50 ∧ d = .bool (looOk m n cs ls i)
abbrev RWhole : List PyData → PyData → Prop := fun ds d => ∃ z l m, ds = [z, .int l, .int m] ∧ d = .bool (wholeD z l m)
abbrev RRow : List PyData → PyData → Prop := fun ds d => ∃ xs n m, ds = [.tuple xs, .int n, .int m] ∧ xs.length ≤ 40000 ∧ d = .bool (areD (.tuple xs) n 0 m)
theorem get_prev {α : Type} {ls : List α} {i : Nat} {l : α} (hc : ls[i]? = some l) (h0 : ¬ i = 0) : ls[i - 1]? = some (ls.getD (i - 1) l) := by
  have hi : i < ls.length := (List.getElem?_eq_some_iff.mp hc).1
  rw [List.getD_eq_getElem?_getD, List.getElem?_eq_getElem (by omega : i - 1 < ls.length)]
  rfl
section
variable {W : Wd}
theorem ok_is_loop (b : Bl W) (t : Dg W "is_loop" 39) (hmt : Gi W "MOST_TIME" 9) (f2 : Fk W 2 "are_whole" ["thing", "many", "least", "most"] (spD W.K 4 RArea)) (f3 : Fk W 1 "behind_of" ["cables", "box"] (spN W.K 2 PBehind RBehind)) :
    Fk W 3 "is_loop" ["names", "boxes", "cables", "loops", "number"] (spD W.K 5 RLoop) :=
  t.fd (N := ["names", "boxes", "cables", "loops", "number", "thing"]) ⟨rfl, rfl, rfl, by decide +kernel, rfl, by decide +kernel, by decide +kernel⟩ (fun _ _ _ _ _ _ us hl => match us, hl with | [_, _, _, _, _], _ => rfl) rfl fun E A H Q ds d q hl hR => by
    obtain ⟨m, n, cs, ls, i, l, rfl, hc, hll, hcs, rfl⟩ := hR
    obtain ⟨a, e, ts⟩ := l
    refine ds_cons (s_asg (i := 5) rfl (dx_d (xd_ix (xv 3 rfl rfl) (xv 4 rfl rfl) (oi_T (atI_nat (show (ls.map looD)[i]? = some (looD (a, e, ts)) by rw [List.getElem?_map, hc]; rfl)))) ?_))
    refine ds_cons (s_if (dt_t (XT.is (xt_or3 (xt_not (xt_v (xd_isi b.isinstance b.tuple bt_tuple (xv 5 rfl rfl) (kit_t _)))) (fun _ => xt_cmp (xd_callB boot_len b.len (xds_cons (xv 5 rfl rfl) xds_nil) of_lenT) xd_i oc_neI)
      fun _ _ => xt_not (xt_v (xd_call f2 (xds_cons (XD.is (xd_slT (xv 5 rfl rfl) xo_n (xo_i xd_i)) (rfl : _ = PyData.tuple [.int a, .int e])) (xds_cons xd_i (xds_cons xd_i (xds_cons (xd_bin (xv 1 rfl rfl) xd_i ob_sub) xds_nil)))) ⟨_, _, _, _, rfl, by simp, rfl⟩))) (rfl : _ = !areD (intsD [a, e]) 2 0 (n - 1))) ⟨fun h => ?_, fun h => ?_⟩))
    · have h' : areD (intsD [a, e]) 2 0 (n - 1) = false := by simpa using h
      refine ds_one (ret_d xd_b (congrArg PyData.bool ?_))
      rw [looOk, hc]
      show false = (areD (intsD [a, e]) 2 0 (n - 1) && _)
      rw [h']
      rfl
    · have h' : areD (intsD [a, e]) 2 0 (n - 1) = true := by simpa using h
      have fin : looOk m n cs ls i = (areD (intsD ts) m 0 9 && (decide (a ∈ reached cs e) && (decide (i = 0) || dataLt (looD (ls.getD (i - 1) (a, e, ts))) (looD (a, e, ts))))) := by
        rw [looOk, hc]
        show (areD (intsD [a, e]) 2 0 (n - 1) && _) = _
        rw [h']
        rfl
      refine ds_nil (ds_cons (s_if (dt_or2 (dt_t (xt_not (xt_v (xd_call f2 (xds_cons (xd_ix (xv 5 rfl rfl) xd_i (oi_T (atI_nat (j := 2) rfl))) (xds_cons (xv 0 rfl rfl) (xds_cons xd_i (xds_cons (xgi hmt) xds_nil)))) ⟨_, _, _, _, rfl, by simpa using hll, rfl⟩)))
        ⟨fun h2 => dt_cmp (dx_d (xd_ix (xv 5 rfl rfl) xd_i (oi_T (atI_nat (j := 0) rfl))) ⟨_, rfl, dx_callN f3 (dxs_d (xds_cons (xv 2 rfl rfl) (xds_cons (xd_ix (xv 5 rfl rfl) xd_i (oi_T (atI_nat (j := 1) rfl))) xds_nil)) ⟨_, rfl, rfl, ⟨cs, e, rfl, hcs⟩, fun d hd => ?_⟩)⟩), fun h2 => ⟨fun _ => ?_, fun z => (by cases z)⟩⟩))))
      · obtain ⟨ys, rfl, hys⟩ := hd cs e rfl
        have hin : decide (a ∈ ys) = decide (a ∈ reached cs e) := decide_eq_decide.mpr ((hys a).trans (mem_reached cs e a).symm)
        have h2' : areD (intsD ts) m 0 9 = true := by simpa [intsD] using h2
        refine ⟨_, rfl, _, oc_niI, fun h3 => ?_, fun h3 => ?_⟩
        · have h3' : decide (a ∈ reached cs e) = false := by
            rw [← hin]
            simpa using h3
          refine ds_one (ret_d xd_b (congrArg PyData.bool ?_))
          rw [fin, h3']
          simp
        · have h3' : decide (a ∈ reached cs e) = true := by
            rw [← hin]
            simpa using h3
          refine ds_nil (ds_one (ret_d (xd_or2 (k' := dataLt (looD (ls.getD (i - 1) (a, e, ts))) (looD (a, e, ts))) (xd_cmp (xv 4 rfl rfl) xd_i oc_eqI) fun h0 => ?_) (congrArg PyData.bool ?_)))
          · have h0 : ¬ i = 0 := by simpa using h0
            have ej : ((i : Nat) : Int) - 1 = ((i - 1 : Nat) : Int) := by omega
            refine xd_cmp (xd_ix (xv 3 rfl rfl) (XD.is (xd_bin (xv 4 rfl rfl) xd_i ob_sub) (congrArg PyData.int ej)) (oi_T (atI_nat (show (ls.map looD)[i - 1]? = some (looD (ls.getD (i - 1) (a, e, ts))) by rw [List.getElem?_map, get_prev hc h0]; rfl)))) (xv 5 rfl rfl) (oc_ltD (alike_loo _ _) (by intro z; cases z) (depth_loo _ _))
          · rw [fin, h2', h3']
            simp
      · have h2' : areD (intsD ts) m 0 9 = false := by simpa [intsD] using h2
        refine ds_one (ret_d xd_b (congrArg PyData.bool ?_))
        rw [fin, h2']
        rfl
theorem ok_law_is_int (b : Bl W) (t : Dg W "_law_is_int" 74) : Fk W 1 "_law_is_int" ["_law_thing", "_law_least", "_law_most"] (spD W.K 3 RWhole) :=
  t.fd (N := ["_law_thing", "_law_least", "_law_most"]) ⟨rfl, rfl, rfl, by decide +kernel, rfl, by decide +kernel, by decide +kernel⟩ (fun _ _ _ _ _ _ us hl => match us, hl with | [_, _, _], _ => rfl) rfl fun E A H Q ds d q hl hR => by
    obtain ⟨z, l, m, rfl, rfl⟩ := hR
    cases hz : isInt z with
    | true =>
      cases z with
      | int k => exact ds_one (ret_d (xd_and (xd_isi b.isinstance b.int bt_int (xv 0 rfl rfl) (kit_i _)) fun _ => xd_and (xd_not (xd_isi b.isinstance b.bool bt_bool (xv 0 rfl rfl) (kit_b _))) fun _ => xd_one (xd_chain (xv 1 rfl rfl) (xv 0 rfl rfl) (xv 2 rfl rfl) oc_le oc_le)) rfl)
      | _ => cases hz
    | false =>
      have hz' : (isI z && !isB z) = false := by rw [isInt_eq]; exact hz
      refine ds_one (ret_d (xd_and (k' := false) (xd_isi b.isinstance b.int bt_int (xv 0 rfl rfl) (kit_i _)) fun h => XD.is (xd_and (k' := false) (xd_not (xd_isi b.isinstance b.bool bt_bool (xv 0 rfl rfl) (kit_b _))) fun h2 => ?_) (by simp)) (congrArg PyData.bool ?_))
      · rw [h, h2] at hz'
        cases hz'
      · cases z <;> first | rfl | cases hz | simp [wholeD]
theorem eqv_nil_one {xs : List PyData} : PyData.eqv (.list xs) (.list []) = decide (xs = []) := eqv_nil xs
theorem ok_law_is_row (b : Bl W) (t : Dg W "_law_is_row" 75) (f1 : Fk W 1 "_law_is_int" ["_law_thing", "_law_least", "_law_most"] (spD W.K 3 RWhole)) : Fk W 2 "_law_is_row" ["_law_thing", "_law_many", "_law_most"] (spD W.K 3 fun ds d => RRow ds d ∧ ∀ xs n m, ds = [.tuple xs, .int n, .int m] → SeqAt.shaped (.list xs) = true) :=
  t.fd (N := ["_law_thing", "_law_many", "_law_most", "_law_item"]) ⟨rfl, rfl, rfl, by decide +kernel, rfl, by decide +kernel, by decide +kernel⟩ (fun _ _ _ _ _ _ us hl => match us, hl with | [_, _, _], _ => rfl) rfl fun E A H Q ds d q hl hR => by
    obtain ⟨⟨xs, n, m, rfl, hz, rfl⟩, hsh⟩ := hR
    have hsh := hsh xs n m rfl
    refine ds_cons (s_if (dt_t (XT.is (xt_or2 (xt_not (xt_v (xd_isi b.isinstance b.tuple bt_tuple (xv 0 rfl rfl) (kit_t _)))) fun _ => xt_cmp (xd_callB boot_len b.len (xds_cons (xv 0 rfl rfl) xds_nil) of_lenT) (xv 1 rfl rfl) oc_neI) (rfl : _ = !decide ((xs.length : Int) = n))) ⟨fun h => ?_, fun h => ?_⟩))
    · have h' : decide ((xs.length : Int) = n) = false := by simpa using h
      refine ds_one (ret_d xd_b (congrArg PyData.bool ?_))
      show false = (decide ((xs.length : Int) = n) && _)
      rw [h']
      rfl
    · have h' : decide ((xs.length : Int) = n) = true := by simpa using h
      have hsub : SeqAt.shaped (.list (xs.filter fun x => !wholeD x 0 m)) = true := by
        unfold SeqAt.shaped at hsh ⊢
        rw [Bool.and_eq_true, decide_eq_true_eq] at hsh ⊢
        have key : ∀ ys : List PyData, PyData.canLayAll0 ys = true → PyData.canLayAll0 (ys.filter fun x => !wholeD x 0 m) = true ∧ PyData.depthAll (ys.filter fun x => !wholeD x 0 m) ≤ PyData.depthAll ys := fun ys => by
          induction ys with
          | nil => exact fun _ => ⟨rfl, Nat.le_refl _⟩
          | cons y ys ih =>
            intro h
            rw [PyData.canLayAll0, Bool.and_eq_true] at h
            obtain ⟨i1, i2⟩ := ih h.2
            rw [List.filter_cons]
            split
            · rw [PyData.canLayAll0, PyData.depthAll, PyData.depthAll, h.1, i1]
              exact ⟨rfl, by omega⟩
            · rw [PyData.depthAll]
              exact ⟨i1, by omega⟩
        rw [PyData.canLay0, PyData.depth] at hsh ⊢
        obtain ⟨k1, k2⟩ := key xs hsh.1
        exact ⟨k1, by omega⟩
      refine ds_nil (ds_one (ret_d (xd_cmp (XD.is (xd_lc1 (x := "_law_item") (j := 3) rfl (xi_tup (xv 0 rfl rfl)) hz (fun x => !wholeD x 0 m) (fun x => x) (fun x _ => xt_not (xt_v (xd_call f1 (xds_cons (xv 3 rfl rfl) (xds_cons xd_i (xds_cons (xv 2 rfl rfl) xds_nil))) ⟨_, _, _, rfl, rfl⟩))) fun x _ _ => xv 3 rfl rfl) (by rw [List.map_id'] : _ = PyData.list (xs.filter fun x => !wholeD x 0 m))) (xd_lst xds_nil (by simp)) (oc_eqD hsub rfl)) (congrArg PyData.bool ?_)))
      rw [eqv_nil]
      show _ = (decide ((xs.length : Int) = n) && xs.all fun x => wholeD x 0 m)
      rw [h', Bool.true_and, Bool.eq_iff_iff, decide_eq_true_eq, List.filter_eq_nil_iff, List.all_eq_true]
      exact ⟨fun h x hx => by simpa using h x hx, fun h x hx => by simpa using h x hx⟩
end
end Ev
namespace Ev
open PySem PySem.Spec PyProof.Rows L2 Evl
open PySem.W (alike alikeAll dataLt)
abbrev RRowS : List PyData → PyData → Prop := fun ds d => RRow ds d ∧ ∀ xs n m, ds = [.tuple xs, .int n, .int m] → SeqAt.shaped (.list xs) = true
theorem rrow_ints {xs : List Int} {n m : Int} (h : xs.length ≤ 40000) : RRowS [.tuple (xs.map .int), .int n, .int m] (.bool (areD (.tuple (xs.map .int)) n 0 m)) := ⟨⟨_, _, _, rfl, by simpa using h, rfl⟩, fun ys n m e => by
  cases e
  exact shaped_ints xs⟩
def hasRing (cs : List Cab) : Bool := cs.any fun c => decide (c.1 ∈ reached cs c.2.1)
theorem shaped_cabs (cs : List Cab) (h : ∀ c ∈ cs, kindOk c.2.2 = true) : SeqAt.shaped (.list (cs.map cabD)) = true := by
  have key : ∀ l : List Cab, (∀ c ∈ l, kindOk c.2.2 = true) → PyData.canLayAll0 (l.map cabD) = true ∧ PyData.depthAll (l.map cabD) ≤ 1 := fun l => by
    induction l with
    | nil => exact fun _ => ⟨rfl, Nat.zero_le _⟩
    | cons c l ih =>
      intro h
      obtain ⟨i1, i2⟩ := ih fun d hd => h d (List.mem_cons_of_mem _ hd)
      have hk := h c List.mem_cons_self
      have hs : PyData.strOk c.2.2 = true := by
        unfold kindOk at hk
        rcases (Bool.or_eq_true _ _).mp hk with z | z
        · rw [of_decide_eq_true z]
          decide +kernel
        · rw [of_decide_eq_true z]
          decide +kernel
      rw [List.map_cons, PyData.canLayAll0, PyData.depthAll, i1]
      simp only [cabD, PyData.canLay0, PyData.canLayAll0, PyData.depth, PyData.depthAll, hs, Bool.and_self, true_and]
      omega
  unfold SeqAt.shaped
  rw [Bool.and_eq_true, decide_eq_true_eq, PyData.canLay0, PyData.depth]
  obtain ⟨k1, k2⟩ := key cs h
  exact ⟨k1, by omega⟩
abbrev RRing : List PyData → PyData → Prop := fun ds d => ∃ cs : List Cab, ds = [.tuple (cs.map cabD)] ∧ cs.length ≤ 50 ∧ (∀ c ∈ cs, kindOk c.2.2 = true) ∧ d = .bool (hasRing cs)
section
variable {W : Wd}
theorem ok_law_is_cable (b : Bl W) (t : Dg W "_law_is_cable" 76) (f2 : Fk W 2 "_law_is_row" ["_law_thing", "_law_many", "_law_most"] (spD W.K 3 RRowS)) : Fk W 3 "_law_is_cable" ["_law_boxes", "_law_some_here", "_law_k"] (spD W.K 3 RCable) :=
  t.fd (N := ["_law_boxes", "_law_some_here", "_law_k", "_law_thing"]) ⟨rfl, rfl, rfl, by decide +kernel, rfl, by decide +kernel, by decide +kernel⟩ (fun _ _ _ _ _ _ us hl => match us, hl with | [_, _, _], _ => rfl) rfl fun E A H Q ds d q hl hR => by
    obtain ⟨n, cs, i, c, rfl, hc, hk, rfl⟩ := hR
    obtain ⟨a, e, k⟩ := c
    have hm := kind_mem hk
    refine ds_cons (s_asg (i := 3) rfl (dx_d (xd_ix (xv 1 rfl rfl) (xv 2 rfl rfl) (oi_T (atI_nat (show (cs.map cabD)[i]? = some (cabD (a, e, k)) by rw [List.getElem?_map, hc]; rfl)))) ?_))
    refine ds_cons (s_if (dt_t (XT.is (xt_or3 (xt_not (xt_v (xd_isi b.isinstance b.tuple bt_tuple (xv 3 rfl rfl) (kit_t _)))) (fun _ => xt_cmp (xd_callB boot_len b.len (xds_cons (xv 3 rfl rfl) xds_nil) of_lenT) xd_i oc_neI)
      fun _ _ => xt_not (xt_v (xd_call f2 (xds_cons (XD.is (xd_slT (xv 3 rfl rfl) xo_n (xo_i xd_i)) (rfl : _ = PyData.tuple ([a, e].map .int))) (xds_cons xd_i (xds_cons (xd_bin (xv 0 rfl rfl) xd_i ob_sub) xds_nil))) (rrow_ints (by simp))))) (rfl : _ = !areD (intsD [a, e]) 2 0 (n - 1))) ⟨fun h => ?_, fun h => ?_⟩))
    · have h' : areD (intsD [a, e]) 2 0 (n - 1) = false := by simpa using h
      refine ds_one (ret_d xd_b (congrArg PyData.bool ?_))
      rw [cabOk, hc]
      show false = (areD (intsD [a, e]) 2 0 (n - 1) && _ && _)
      rw [h']
      rfl
    · have h' : areD (intsD [a, e]) 2 0 (n - 1) = true := by simpa using h
      refine ds_nil (ds_cons (s_if (dt_t (xt_or2 (xt_cmp (xd_ix (xv 3 rfl rfl) xd_i (oi_T (atI_nat (j := 0) rfl))) (xd_ix (xv 3 rfl rfl) xd_i (oi_T (atI_nat (j := 1) rfl))) oc_eqI)
        fun _ => xt_cmp (xd_ix (xv 3 rfl rfl) xd_i (oi_T (atI_nat (j := 2) rfl))) (xd_lst (xds_cons xd_s (xds_cons xd_s xds_nil)) (by simp)) (oc_niS (ys := ["post", "pre"]))) ⟨fun h2 => ?_, fun h2 => ?_⟩)))
      · have h2' : decide (a = e) = true := by simpa [hm] using h2
        refine ds_one (ret_d xd_b (congrArg PyData.bool ?_))
        rw [cabOk, hc]
        show false = (_ && !decide (a = e) && _)
        rw [h2']
        simp
      · have h2' : decide (a = e) = false := by simpa [hm] using h2
        have fin : cabOk n cs i = (decide (i = 0) || dataLt (cabD (cs.getD (i - 1) (a, e, k))) (cabD (a, e, k))) := by
          rw [cabOk, hc]
          show (areD (intsD [a, e]) 2 0 (n - 1) && !decide (a = e) && _) = _
          rw [h', h2']
          rfl
        refine ds_nil (ds_one (ret_d (xd_or2 (k' := dataLt (cabD (cs.getD (i - 1) (a, e, k))) (cabD (a, e, k))) (xd_cmp (xv 2 rfl rfl) xd_i oc_eqI) fun h0 => ?_) (congrArg PyData.bool ?_)))
        · have h0 : ¬ i = 0 := by simpa using h0
          have ej : ((i : Nat) : Int) - 1 = ((i - 1 : Nat) : Int) := by omega
          refine xd_cmp (xd_ix (xv 1 rfl rfl) (XD.is (xd_bin (xv 2 rfl rfl) xd_i ob_sub) (congrArg PyData.int ej)) (oi_T (atI_nat (show (cs.map cabD)[i - 1]? = some (cabD (cs.getD (i - 1) (a, e, k))) by rw [List.getElem?_map, get_prev hc h0]; rfl)))) (xv 3 rfl rfl) (oc_ltD (alike_cab _ _) (by intro z; cases z) (depth_cab _ _))
        · rw [fin]
          simp
theorem ok_law_is_loop (b : Bl W) (t : Dg W "_law_is_loop" 77) (f2 : Fk W 2 "_law_is_row" ["_law_thing", "_law_many", "_law_most"] (spD W.K 3 RRowS)) (f3 : Fk W 1 "_law_reached" ["_law_cables", "_law_begin_here"] (spD W.K 2 RReach)) :
    Fk W 3 "_law_is_loop" ["_law_names", "_law_boxes", "_law_cables", "_law_some_here", "_law_k"] (spD W.K 5 RLoop) :=
  t.fd (N := ["_law_names", "_law_boxes", "_law_cables", "_law_some_here", "_law_k", "_law_thing"]) ⟨rfl, rfl, rfl, by decide +kernel, rfl, by decide +kernel, by decide +kernel⟩ (fun _ _ _ _ _ _ us hl => match us, hl with | [_, _, _, _, _], _ => rfl) rfl fun E A H Q ds d q hl hR => by
    obtain ⟨m, n, cs, ls, i, l, rfl, hc, hll, hcs, rfl⟩ := hR
    obtain ⟨a, e, ts⟩ := l
    refine ds_cons (s_asg (i := 5) rfl (dx_d (xd_ix (xv 3 rfl rfl) (xv 4 rfl rfl) (oi_T (atI_nat (show (ls.map looD)[i]? = some (looD (a, e, ts)) by rw [List.getElem?_map, hc]; rfl)))) ?_))
    refine ds_cons (s_if (dt_t (XT.is (xt_or3 (xt_not (xt_v (xd_isi b.isinstance b.tuple bt_tuple (xv 5 rfl rfl) (kit_t _)))) (fun _ => xt_cmp (xd_callB boot_len b.len (xds_cons (xv 5 rfl rfl) xds_nil) of_lenT) xd_i oc_neI)
      fun _ _ => xt_not (xt_v (xd_call f2 (xds_cons (XD.is (xd_slT (xv 5 rfl rfl) xo_n (xo_i xd_i)) (rfl : _ = PyData.tuple ([a, e].map .int))) (xds_cons xd_i (xds_cons (xd_bin (xv 1 rfl rfl) xd_i ob_sub) xds_nil))) (rrow_ints (by simp))))) (rfl : _ = !areD (intsD [a, e]) 2 0 (n - 1))) ⟨fun h => ?_, fun h => ?_⟩))
    · have h' : areD (intsD [a, e]) 2 0 (n - 1) = false := by simpa using h
      refine ds_one (ret_d xd_b (congrArg PyData.bool ?_))
      rw [looOk, hc]
      show false = (areD (intsD [a, e]) 2 0 (n - 1) && _)
      rw [h']
      rfl
    · have h' : areD (intsD [a, e]) 2 0 (n - 1) = true := by simpa using h
      have fin : looOk m n cs ls i = (areD (intsD ts) m 0 9 && (decide (a ∈ reached cs e) && (decide (i = 0) || dataLt (looD (ls.getD (i - 1) (a, e, ts))) (looD (a, e, ts))))) := by
        rw [looOk, hc]
        show (areD (intsD [a, e]) 2 0 (n - 1) && _) = _
        rw [h']
        rfl
      refine ds_nil (ds_cons (s_if (dt_t (XT.is (xt_or2 (xt_not (xt_v (xd_call f2 (xds_cons (xd_ix (xv 5 rfl rfl) xd_i (oi_T (atI_nat (j := 2) rfl))) (xds_cons (xv 0 rfl rfl) (xds_cons xd_i xds_nil))) (rrow_ints hll))))
        fun _ => xt_cmp (xd_ix (xv 5 rfl rfl) xd_i (oi_T (atI_nat (j := 0) rfl))) (xd_call f3 (xds_cons (xv 2 rfl rfl) (xds_cons (xd_ix (xv 5 rfl rfl) xd_i (oi_T (atI_nat (j := 1) rfl))) xds_nil)) ⟨cs, e, rfl, by omega, rfl⟩) oc_niI) (rfl : _ = (!areD (intsD ts) m 0 9 || !decide (a ∈ reached cs e)))) ⟨fun h3 => ?_, fun h3 => ?_⟩)))
      · refine ds_one (ret_d xd_b (congrArg PyData.bool ?_))
        rw [fin]
        cases h4 : areD (intsD ts) m 0 9 <;> cases h5 : decide (a ∈ reached cs e) <;> simp [h4, h5] at h3 ⊢
      · have h4 : areD (intsD ts) m 0 9 = true := by
          cases h4 : areD (intsD ts) m 0 9
          · rw [h4] at h3
            cases h3
          · rfl
        have h5 : decide (a ∈ reached cs e) = true := by
          rw [h4] at h3
          cases h5 : decide (a ∈ reached cs e)
          · rw [h5] at h3
            cases h3
          · rfl
        refine ds_nil (ds_one (ret_d (xd_or2 (k' := dataLt (looD (ls.getD (i - 1) (a, e, ts))) (looD (a, e, ts))) (xd_cmp (xv 4 rfl rfl) xd_i oc_eqI) fun h0 => ?_) (congrArg PyData.bool ?_)))
        · have h0 : ¬ i = 0 := by simpa using h0
          have ej : ((i : Nat) : Int) - 1 = ((i - 1 : Nat) : Int) := by omega
          refine xd_cmp (xd_ix (xv 3 rfl rfl) (XD.is (xd_bin (xv 4 rfl rfl) xd_i ob_sub) (congrArg PyData.int ej)) (oi_T (atI_nat (show (ls.map looD)[i - 1]? = some (looD (ls.getD (i - 1) (a, e, ts))) by rw [List.getElem?_map, get_prev hc h0]; rfl)))) (xv 5 rfl rfl) (oc_ltD (alike_loo _ _) (by intro z; cases z) (depth_loo _ _))
        · rw [fin, h4, h5]
          simp
theorem ok_law_has_ring (b : Bl W) (t : Dg W "_law_has_ring" 79) (f3 : Fk W 1 "_law_reached" ["_law_cables", "_law_begin_here"] (spD W.K 2 RReach)) : Fk W 2 "_law_has_ring" ["_law_cables"] (spD W.K 1 RRing) :=
  t.fd (N := ["_law_cables", "_law_cable"]) ⟨rfl, rfl, rfl, by decide +kernel, rfl, by decide +kernel, by decide +kernel⟩ (fun _ _ _ _ _ _ us hl => match us, hl with | [_], _ => rfl) rfl fun E A H Q ds d q hl hR => by
    obtain ⟨cs, rfl, hcs, hk, rfl⟩ := hR
    have hfs : SeqAt.shaped (.list ((cs.filter fun c => decide (c.1 ∈ reached cs c.2.1)).map cabD)) = true := shaped_cabs _ fun c hc => hk c (List.mem_filter.mp hc).1
    refine ds_one (ret_d (xd_cmp (XD.is (xd_lc1 (x := "_law_cable") (j := 1) rfl (xi_tup (xv 0 rfl rfl)) (by simpa using (by omega : cs.length ≤ 40000)) (fun c => decide (cab0 c ∈ reached cs (cab1 c))) (fun c => c) (fun c hc => ?_) fun c _ _ => xv 1 rfl rfl) ?_) (xd_lst xds_nil (by simp)) (oc_neD hfs rfl)) (congrArg PyData.bool ?_))
    · obtain ⟨c, _, rfl⟩ := List.mem_map.mp hc
      exact xt_cmp (xd_ix (xv 1 rfl rfl) xd_i (oi_T (atI_nat (j := 0) rfl))) (xd_call f3 (xds_cons (xv 0 rfl rfl) (xds_cons (xd_ix (xv 1 rfl rfl) xd_i (oi_T (atI_nat (j := 1) rfl))) xds_nil)) ⟨cs, c.2.1, rfl, by omega, rfl⟩) oc_inI
    · rw [filter_map_cab]
      rfl
    · rw [eqv_nil]
      unfold hasRing
      rw [Bool.eq_iff_iff, Bool.not_eq_true', decide_eq_false_iff_not, List.map_eq_nil_iff, List.filter_eq_nil_iff, List.any_eq_true]
      constructor
      · intro h
        exact Classical.byContradiction fun z => h fun c hc e => z ⟨c, hc, e⟩
      · rintro ⟨c, hc, e⟩ z
        exact z c hc e
end
end Ev
namespace Ev
open PySem PySem.Spec PyProof.Rows L2 Evl
/-! ### a lambda is made: only the table at P changes, and a code object may be new -/
section
variable {X : Cx} {pins : List (Addr × Obj)} {σ : L2.St} {H : Hp} {s : Shared}
def lamO (X : Cx) (q : Str) (params : Arguments) (body : Expr) (scope : Scope) (pm : Value) (c' : Addr) (ctv : Value) : Obj := PySem.W.kla_obj "<lambda>" q params body scope (cloFrom X.env.cells scope.names []) pm c' ctv
def LamO (f : Addr) (o : Obj) : HO := .ext fun h => h.get? f = some o
theorem lamO_ok {P : Program} {w : World} {H : Hp} {h : Heap} {f : Addr} {o : Obj} (e : h.get? f = some o) : ObjOk P w H h f (LamO f o) := ⟨e, ⟨o, e⟩, fun _ _ a st => st _ a⟩
theorem lam_make3 {c P : Addr} {q : Str} {params : Arguments} {body : Expr} {scope : Scope} {pos : Pos} {E : Value → Shared → Prop} {Q : Value → Shared → Prop} (I : Inv X pins σ H s) (TB : LamX.TabB X.base X.mg c P) (hcode : X.env.code = .ref c) (hq : X.env.qual ++ "<lambda>" = q)
    (hT : LamX.TabS H P q) (hdef : defaultsOf params X.env = ([], [])) (hfree : ∀ y ∈ scope.names, y.2 = .free → ∃ c, X.env.cells.lookup y.1 = some c)
    (h : ∀ (f c' : Addr) (pm ctv : Value) (H1 : Hp) (s' : Shared), Inv X pins σ H1 s' → (∀ b o, b ≠ P → H b = some o → H1 b = some o) → LamX.TabS H1 P q → H f = Option.none → H1 f = some (LamO f (lamO X q params body scope pm c' ctv)) → H1 c' = some (LamX.CodeO c' q) → Q (.ref f) s') :
    wpAny (model X.prog X.w) X.A (eval (.Lambda params body scope pos) X.env) Q E s := by
  subst hq
  obtain ⟨ps, tP, tOk, tIn⟩ := hT
  have atB : s.heap.BuiltinsAt X.mg P := TB.bm.keeps I.bk
  have atP : s.heap.get? P = some { cls := .none, data := .fields ps } := I.hok P _ tP
  refine PySem.W.kla_eval hdef ?_
  cases hit : codeAmong pos ps.toList with
  | some cv =>
    obtain ⟨c', rfl, hco⟩ := tIn pos cv hit
    refine PySem.W.kla_makeFunctionHit (mg := X.mg) (c := c) (P := P) (ps := ps) (closure_ok hfree) I.ok.glob (I.mod.glob.keeps I.bk) hcode (TB.code.keeps I.bk) atP tOk hit atB fun ctv hp tk keep size => ?_
    have ff : H hp.objs.size = Option.none := I.hok.fresh size
    have J := I.laid (t' := tk) (a := hp.objs.size) (o := LamO hp.objs.size (lamO X (X.env.qual ++ "<lambda>") params body scope ((X.mg "__name__").getD .none) c' ctv)) (fun b o e => Heap.get?_push_of_some _ (keep b o e)) size (lamO_ok (Heap.get?_push_size _ rfl))
    have eN := Ex.new (o := LamO hp.objs.size (lamO X (X.env.qual ++ "<lambda>") params body scope ((X.mg "__name__").getD .none) c' ctv)) ff
    exact h hp.objs.size c' _ ctv _ _ J (fun b o _ e => eN b o e) (LamX.TabS.ext ⟨ps, tP, tOk, tIn⟩ eN) ff upd_same (eN _ _ hco)
  | none =>
    refine PySem.W.kla_makeFunction (mg := X.mg) (c := c) (P := P) (ps := ps) (closure_ok hfree) I.ok.glob (I.mod.glob.keeps I.bk) hcode (TB.code.keeps I.bk) atP tOk hit TB.gP atB fun c' ctv hp tk keep size lt rec' tab => ?_
    obtain ⟨c2, oc, vs, t, eq2, g1, g2, g3⟩ := rec'
    cases eq2
    have big : s.heap.objs.size ≤ hp.objs.size := Nat.le_trans size (Nat.le_of_lt lt)
    have fc : H c' = Option.none := I.hok.fresh size
    have pc : P ≠ c' := ne_of_none tP fc
    have J0 := LamX.inv_table (t' := tk) (more := #[rawInt pos.line, rawInt pos.col, .ref c']) (q := X.env.qual ++ "<lambda>") (h' := hp) I tP keep tab size ⟨oc, vs, t, g1, g2, g3⟩
    have ff : upd (upd H P (.tbl (ps ++ #[rawInt pos.line, rawInt pos.col, .ref c']))) c' (LamX.CodeO c' (X.env.qual ++ "<lambda>")) hp.objs.size = Option.none := J0.hok.fresh (Nat.le_refl _)
    have J := J0.laid (t' := tk) (h' := hp.push (lamO X (X.env.qual ++ "<lambda>") params body scope ((X.mg "__name__").getD .none) c' ctv)) (a := hp.objs.size) (o := LamO hp.objs.size (lamO X (X.env.qual ++ "<lambda>") params body scope ((X.mg "__name__").getD .none) c' ctv)) (fun b o e => Heap.get?_push_of_some _ e) (Nat.le_refl _) (lamO_ok (Heap.get?_push_size _ rfl))
    have eN := Ex.new (o := LamO hp.objs.size (lamO X (X.env.qual ++ "<lambda>") params body scope ((X.mg "__name__").getD .none) c' ctv)) ff
    have keepH : ∀ b o, b ≠ P → H b = some o → upd (upd H P (.tbl (ps ++ #[rawInt pos.line, rawInt pos.col, .ref c']))) c' (LamX.CodeO c' (X.env.qual ++ "<lambda>")) b = some o := fun b o hb e => by
      rw [upd_ne (ne_of_none e fc), upd_ne hb]
      exact e
    have tl : (ps ++ #[rawInt pos.line, rawInt pos.col, Value.ref c']).toList = ps.toList ++ [rawInt pos.line, rawInt pos.col, .ref c'] := by simp
    refine h hp.objs.size c' _ ctv _ _ J (fun b o hb e => eN _ _ (keepH b o hb e)) (LamX.TabS.ext ⟨_, by rw [upd_ne pc, upd_same], by rw [tl]; exact PySem.TriplesOk_snoc _ _ _ _ tOk, fun p2 cv hcv => ?_⟩ eN) (I.hok.fresh big) upd_same (eN _ _ upd_same)
    rw [tl] at hcv
    rcases LamX.among_app _ tOk hcv with z | z
    · obtain ⟨d, e1, e2⟩ := tIn p2 cv z
      refine ⟨d, e1, keepH _ _ (fun e => ?_) e2⟩
      rw [e, tP] at e2
      exact LamX.codeO_ne ps (Option.some.inj e2).symm
    · exact ⟨c', z, upd_same⟩
end
/-! ### the lambda's body entered, its one parameter p in the slot j (or none) -/
structure LamS1 (sc scope : Scope) (ps : List Str) : Prop where
  kind : scope.kind = .function
  co : scope.isCoroutine = false
  gen : scope.isGenerator = false
  nocell : ∀ y ∈ scope.names, y.2 ≠ .cell
  own : ∀ y ∈ scope.names, y.2 = .local → y.1 ∈ ps
  par : ∀ p ∈ ps, scope.names.lookup p = some .local
  free : ∀ y ∈ scope.names, y.2 = .free → sc.names.lookup y.1 = some .cell ∨ sc.names.lookup y.1 = some .free
def lamS1B (sc scope : Scope) (ps : List Str) : Bool :=
  decide (scope.kind = .function) && !scope.isCoroutine && !scope.isGenerator && (ps.all fun p => decide (scope.names.lookup p = some .local)) && scope.names.all fun y => !decide (y.2 = .cell) && (!decide (y.2 = .local) || decide (y.1 ∈ ps)) && (!decide (y.2 = .free) || decide (sc.names.lookup y.1 = some .cell) || decide (sc.names.lookup y.1 = some .free))
theorem lamS1_by {sc scope : Scope} {ps : List Str} (h : lamS1B sc scope ps = true) : LamS1 sc scope ps := by
  unfold lamS1B at h
  simp only [Bool.and_eq_true, Bool.or_eq_true, Bool.not_eq_true', decide_eq_true_eq, decide_eq_false_iff_not, List.all_eq_true] at h
  obtain ⟨⟨⟨⟨h1, h2⟩, h3⟩, h4⟩, h5⟩ := h
  refine ⟨h1, h2, h3, fun y hy => (h5 y hy).1.1, fun y hy e => ?_, h4, fun y hy e => ?_⟩
  · rcases (h5 y hy).1.2 with z | z
    · exact absurd e z
    · exact z
  · rcases (h5 y hy).2 with (z | z) | z
    · exact absurd e z
    · exact .inl z
    · exact .inr z
theorem LamS1.has {X : Cx} {scope : Scope} {ps : List Str} (L : LamS1 X.env.scope scope ps) (ok : X.Ok) : ∀ y ∈ scope.names, y.2 = .free → ∃ c, X.env.cells.lookup y.1 = some c := fun y hy e => by
  rcases L.free y hy e with k | k
  · exact ok.has _ (.inl k)
  · exact ok.has _ (.inr k)
/-- the slots with the arguments put in -/
def putIn (σ : L2.St) : List Nat → List V → L2.St
  | j :: js, v :: vs => (putIn σ js vs).set j (some v)
  | _, _ => σ
theorem putIn_len (σ : L2.St) : ∀ js vs, (putIn σ js vs).length = σ.length
  | [], _ => rfl
  | _ :: _, [] => rfl
  | j :: js, v :: vs => by rw [putIn, List.length_set, putIn_len σ js vs]
section
variable {X : Cx} {pins : List (Addr × Obj)} {σ : L2.St} {H HZ : Hp} {s s1 : Shared}
theorem lam_start1 {A : Around} {outer : List Env} {E : XK} {scope : Scope} {f c' : Addr} {h₁ : Heap} {tk : Nat} {ps : List Str} {js : List Nat} {us : List Value} {vs : List V} (I : Inv X pins σ H s) (L : LamS1 X.env.scope scope ps) (e0 : Env0 X.prog X.w X.K X.mg X.base A outer s1 HZ) (hd : A.handled = Option.none)
    (un : Un (frs X.stack) [] H HZ s.heap s1.heap) (hns : h₁.Ns s1.heap.objs.size fun y => (ps.zip us).reverse.lookup y) (kp : ∀ b o, s1.heap.get? b = some o → h₁.get? b = some o)
    (hsl : ∀ (i : Nat) (y : Str) (v : V), X.N[i]? = some y → (putIn σ js vs)[i]? = some (some v) → (y ∉ ps ∧ σ[i]? = some (some v)) ∨ ∃ u, (ps.zip us).reverse.lookup y = some u ∧ RelV v u) :
    Inv (LamX.lamCx X A outer s1 HZ E scope f c') [] (putIn σ js vs) HZ { s1 with heap := h₁, toks := tk } := by
  have hfree := L.has I.ok
  have back : ∀ {y c}, (cloFrom X.env.cells scope.names []).lookup y = some c → X.env.cells.lookup y = some c := fun {y c} e => by
    rcases cloFrom_mem (PySem.mem_of_lookup e) with hm | ⟨h1, h2⟩
    · cases hm
    · obtain ⟨d, hc⟩ := hfree _ h1 rfl
      have hc : X.env.cells.lookup y = some d := hc
      have e2 : c = d := by
        rw [h2, hc] <;> rfl
      rw [e2]
      exact hc
  have fwd : ∀ {y}, scope.names.lookup y = some .free → ∃ c, (cloFrom X.env.cells scope.names []).lookup y = some c := fun {y} hl => by
    have hy : (y, NameKind.free) ∈ scope.names := PySem.mem_of_lookup hl
    exact mem_lookup (cloFrom_has (cells := X.env.cells) (acc := []) hy)
  have cellAt : ∀ {c : Addr} {v : Option Value}, H c = Option.none → s.heap.IsCell c v → h₁.IsCell c v := fun {c v} n ⟨o, ho, hdt⟩ => by
    obtain ⟨sl, q⟩ := un.any ho n (by simp)
    exact ⟨_, kp _ _ q, hdt⟩
  have noX : ∀ b : Addr, b ∉ (LamX.lamCx X A outer s1 HZ E scope f c').ex := fun b hm => absurd (show b ∈ ([] : List Addr) from hm) (by simp)
  refine ⟨⟨e0.mod, L.kind, rfl, rfl, Nat.le_refl _, fun y z c e1 e2 => I.ok.inj y z c (back e1) (back e2), fun y hy => ?_, fun y c z _ => ?_, fun _ => hd, Around.frames_deeper e0.frames, .inr ⟨rfl, rfl⟩, fun b hm => absurd hm (noX b), e0.bs, e0.bsz, fun b _ _ => noX b,
      fun b hm => absurd hm (noX b), e0.funs, e0.frf⟩,
    rfl, e0.bare, Un.kept kp, ⟨_, hns, fun i y v e1 e2 e3 => ?_⟩, fun y c e => ?_, e0.hok.fresh (Nat.le_refl _), fun y c e => ?_, fun q hq => absurd (show q ∈ ([] : List (Addr × Obj)) ++ [] from hq) (by simp), e0.hok.kept kp, by rw [putIn_len]; exact I.len⟩
  · have hy : scope.names.lookup y = some .cell ∨ scope.names.lookup y = some .free := hy
    rcases hy with hy | hy
    · exact absurd rfl (L.nocell _ (PySem.mem_of_lookup hy))
    · exact fwd hy
  · have z : false = true := z
    cases z
  · have e3 : Vis scope y := e3
    rcases hsl i y v e1 e2 with ⟨hp, e2⟩ | ⟨u, hu, ru⟩
    · rcases e3 with k | k | k
      · exact absurd (L.own _ (PySem.mem_of_lookup k) rfl) hp
      · exact absurd rfl (L.nocell _ (PySem.mem_of_lookup k))
      · obtain ⟨m, hn, hl⟩ := I.loc
        have hvis : Vis X.env.scope y := (L.free _ (PySem.mem_of_lookup k) rfl).elim (fun k => .inr (.inl k)) (fun k => .inr (.inr k))
        obtain ⟨u, r, q⟩ := hl i y v e1 e2 hvis
        obtain ⟨c2, h2⟩ := fwd k
        refine ⟨u, r, .inr ⟨.inr k, c2, h2, ?_⟩⟩
        have c1 := back h2
        rcases q with ⟨k', _⟩ | ⟨_, c3, e', z⟩
        · have k' : X.env.scope.names.lookup y = some .local := k'
          rcases L.free _ (PySem.mem_of_lookup k) rfl with k2 | k2 <;> rw [show X.env.scope.names.lookup y = _ from k2] at k' <;> cases k'
        · rw [c1] at e'
          cases e'
          exact cellAt (I.freeC y _ c1) z
    · have hm : (y, u) ∈ ps.zip us := List.mem_reverse.mp (PySem.mem_of_lookup hu)
      exact ⟨u, ru, .inl ⟨L.par y (List.of_mem_zip hm).1, hu⟩⟩
  · obtain ⟨w', z⟩ := I.cell y c (back e)
    exact ⟨w', cellAt (I.freeC y c (back e)) z⟩
  · obtain ⟨v, o, ho, hdt⟩ := I.cell y c (back e)
    exact un.free c o ho (I.freeC y c (back e)) (by simp)
end
end Ev
namespace Ev
open PySem PySem.Spec PyProof.Rows L2 Evl
section
variable {X : Cx} {pins : List (Addr × Obj)} {σ : L2.St} {H HZ : Hp} {s s1 : Shared}
/-- the slots of the lambda's body behind the binding of its one parameter -/
theorem one_slot {N : List Str} {p : Str} {j : Nat} {v : V} {u : Value} (nd : N.Nodup) (hj : N[j]? = some p) (hl : σ.length = N.length) (r : RelV v u) (i : Nat) (y : Str) (w : V) (hi : N[i]? = some y) (hw : (putIn σ [j] [v])[i]? = some (some w)) :
    (y ∉ [p] ∧ σ[i]? = some (some w)) ∨ ∃ u', (List.zip [p] [u]).reverse.lookup y = some u' ∧ RelV w u' := by
  have hjl := (List.getElem?_eq_some_iff.mp hj).1
  by_cases e : j = i
  · subst e
    rw [hj] at hi
    cases hi
    have hw : (σ.set j (some v))[j]? = some (some w) := hw
    rw [List.getElem?_set_self (by rw [hl]; exact hjl)] at hw
    cases hw
    exact .inr ⟨u, by simp [List.lookup], r⟩
  · refine .inl ⟨fun hm => e ?_, ?_⟩
    · have : y = p := by simpa using hm
      subst this
      exact (List.getElem?_inj hjl nd).mp (by rw [hj, hi])
    · have hw : (σ.set j (some v))[i]? = some (some w) := hw
      rw [List.getElem?_set_ne e] at hw
      exact hw
def oneR (R : V → Hp → Prop) : List V → Hp → Prop := fun vs H => match vs with
  | [v] => R v H
  | _ => False
theorem oneR_of {R : V → Hp → Prop} {vs : List V} {H : Hp} (h : oneR R vs H) : ∃ v, vs = [v] ∧ R v H := by
  match vs, h with
  | [v], h => exact ⟨v, rfl, h⟩
  | [], h => exact False.elim h
  | _ :: _ :: _, h => exact False.elim h
theorem pe_act1 {CXg : CXT} {Eg : XK} {Ng : List Str} {qg q : Str} {sg : Scope} {g f c' : Addr} {cdg pm ctv : Value} {params : Arguments} {body : Expr} {scope : Scope} {k i j : Nat} {a pr : Str} {W : WX} {E : XK} {te tb : TE} {e : Expr} {p1 p2 : Pos} {Z : Cx}
    (I : Inv X pins σ H s) (hZ : Z = cxOf CXg X.prog X.w X.K X.mg X.base Ng qg sg g cdg X.A X.stack s H Eg) (L : LamS1 X.env.scope scope [pr]) (hq : X.env.qual ++ "<lambda>" = q) 
    (hbind : ∀ u, bindArgs (PySem.W.kla_fn "<lambda>" q params body scope (cloFrom X.env.cells scope.names []) pm (.ref c') ctv) ⟨[u], []⟩ = pure [(pr, u)]) (nd : X.N.Nodup) (hj : X.N[j]? = some pr)
    (tk : L2.Takes Z W) (hW : ∀ cls d σ' H', E cls d H' → W cls d σ' H') (hr : Room (k + 1) (X.A.deeper (envOfC qg sg s.heap.objs.size g cdg)))
    (hbody : ∀ (A : Around) (outer : List Env) (s : Shared) (H : Hp), Room k (A.deeper (LamX.lamEnv X scope s.heap.objs.size f c')) → PE (LamX.lamCx X A outer s H E scope f c') body tb) (he : PE Z e te) (ns : NS e)
    (hN : Ng[i]? = some a) (hv : Vis sg a) (hd : (a == ("__debug__" : Str)) = false := by decide) (hcd : (a == ("__classdict__" : Str)) = false := by decide) :
    PE Z (.Call (.Name a p1) [e] [] p2) (fun σZ HZ Q => σZ[i]? = some (some (.ref f)) ∧ HZ f = some (LamO f (lamO X q params body scope pm c' ctv)) ∧ te σZ HZ fun v H1 => H1 f = some (LamO f (lamO X q params body scope pm c' ctv)) ∧ H1 c' = some (LamX.CodeO c' q) ∧ tb (putIn σ [j] [v]) H1 Q) := by
  subst hq
  refine ⟨fun pinsZ sZ σZ HZ Q IZ h => ?_⟩
  obtain ⟨hs, hl, ht⟩ := h
  have vz : PE Z (.Name a p1) (tVar i) := pe_var (by rw [hZ]; exact hN) (by rw [hZ]; exact hv) hd hcd
  refine wpAny_Call_Name_kw (thn (vz.run pinsZ sZ σZ HZ (fun v H1 => v = .ref f ∧ H1 = HZ) IZ ⟨.ref f, hs, rfl, rfl⟩) fun u s1 ⟨v, H1, I1, r1, q1⟩ => ?_)
  obtain ⟨ev, eH⟩ := q1
  subst ev
  rw [eH] at I1
  obtain rfl : u = Value.ref f := r1
  have of1 : s1.heap.get? f = some (lamO X (X.env.qual ++ "<lambda>") params body scope pm c' ctv) := (I1.hok f _ hl).1
  refine PySem.W.callWith_F ⟨_, _, _, _, of1⟩ (thn ((pa_cons he pa_nil (ns [] Z.env)).run p2 pinsZ s1 σZ HZ (oneR fun v H2 => H2 f = some (LamO f (lamO X (X.env.qual ++ "<lambda>") params body scope pm c' ctv)) ∧ H2 c' = some (LamX.CodeO c' (X.env.qual ++ "<lambda>")) ∧ tb (putIn σ [j] [v]) H2 Q) I1 ht) fun us s2 ⟨vs, H2, I2, r2, hR⟩ => ?_) (ns [] Z.env) rfl
  obtain ⟨v, rfl, hl2, hc, hb⟩ := oneR_of hR
  obtain ⟨u, rfl, ru⟩ := vals1 r2
  have of2 : s2.heap.get? f = some (lamO X (X.env.qual ++ "<lambda>") params body scope pm c' ctv) := (I2.hok f _ hl2).1
  refine ⟨⟨_, _, _, _, of2⟩, ?_⟩
  subst hZ
  have un : Un (frs X.stack) [] H H2 s.heap s2.heap := I2.base
  obtain ⟨⟨oc, xs, t, hoc, hdc, hvc⟩, _, _⟩ := I2.hok c' _ hc
  have rc : codeAny (model X.prog X.w) (X.A.deeper (envOfC qg sg s.heap.objs.size g cdg)) (.call (.ref f) ⟨[u], []⟩) (CR (L2.CX X.prog X.w) (envOfC qg sg s.heap.objs.size g cdg :: X.stack) X.prog X.w H2 s2 Q E) s2 := by
    refine PySem.W.kla_callFunE hr.depth of2 rfl L.co L.gen rfl ⟨c', oc, xs, t, rfl, hoc, hdc, hvc⟩ ?_
    rw [hbind u]
    refine wpAny_pure (wpAny_newFunctionEnv L.nocell (fun y hy => ?_) (fun h₁ hns hsb => ⟨I2.nolimit.fresh _ hsb, ?_⟩) L.kind)
    · have : y = (pr, u) := by simpa using hy
      rw [this]
      exact L.par pr (by simp)
    show codeAny _ _ (.expr body (LamX.lamEnv X scope s2.heap.objs.size f c')) _ _
    have kp : ∀ b o, s2.heap.get? b = some o → h₁.get? b = some o := fun b o e => hsb.extBut b o (Nat.ne_of_lt (Heap.lt_size e)) (Heap.get?_push_of_some _ e)
    have J : Inv (LamX.lamCx X (X.A.deeper (envOfC qg sg s.heap.objs.size g cdg)) (envOfC qg sg s.heap.objs.size g cdg :: X.stack) s2 H2 E scope f c') [] (putIn σ [j] [v]) H2 { s2 with heap := h₁, toks := s2.toks + [(pr, u)].length } :=
      lam_start1 (ps := [pr]) (us := [u]) I L I2.env0 hr.hd un hns kp (one_slot nd hj I.len ru)
    refine PySem.W.kla_codeExpr (wpAny_mono ((hbody _ _ s2 H2 (hr.deeper _)).run [] _ _ H2 Q J hb) (fun w s' hq => ?_) fun e s' hq => hq)
    obtain ⟨w', H', J', rv, q⟩ := hq
    exact ⟨w', H', J'.os, J'.bare, J'.base, J'.hok, rv, q⟩
  have hx : Passes (L2.CX X.prog X.w) (cxOf CXg X.prog X.w X.K X.mg X.base Ng qg sg g cdg X.A X.stack s H Eg) E := passes_call tk hW
  refine wpAny_call (codeAny_mono rc fun r s' hq => ?_)
  cases r with
  | error e => exact hx pinsZ σZ H2 s2 e s' I2 hq
  | ok fl =>
    cases fl with
    | ret u => exact I2.after hq
    | next => exact False.elim hq
    | brk => exact False.elim hq
    | cont => exact False.elim hq
end
end Ev
namespace Ev
open PySem PySem.Spec PyProof.Rows L2 Evl
section
variable {K : Kf} {F : Fm} {A H H2 : Hp} {σ : L2.St} {ρ : Rho} {M : List MO} {ps : List Addr}
/-- a table grows -/
theorem En.tab {P : Addr} {q : Str} {j : Nat} (E : En K F A H σ ρ M ps) (hm : M[j]? = some (.tab P q)) (k : ∀ b o, b ≠ P → H b = some o → H2 b = some o) (hT : LamX.TabS H2 P q) : En K F A H2 σ ρ M ps := by
  obtain ⟨p, hp⟩ : ∃ p, ps[j]? = some p := by
    have := (List.getElem?_eq_some_iff.mp hm).1
    exact ⟨_, List.getElem?_eq_getElem (by rw [← E.ms.ln]; exact this)⟩
  obtain ⟨h1, ⟨e0, xs, h2, h2', h2''⟩, h3⟩ := E.ms.mo j _ p hm hp
  have ap := h3 rfl
  subst e0
  have pm : p ∈ ps := List.mem_of_getElem? hp
  have nn : ∀ b, H b ≠ Option.none → H2 b ≠ Option.none := fun b h => by
    by_cases e : b = p
    · obtain ⟨ys, z, _⟩ := hT
      rw [e, z]
      simp
    · cases z : H b with
      | none => exact absurd z h
      | some o =>
        rw [k b o e z]
        simp
  have kA : Ex A H2 := fun b o hb => k b o (fun e => by
    rw [e, ap] at hb
    cases hb) (E.ah b o hb)
  refine ⟨E.fx.trans (qs := [p]) ⟨kA, Ex.refl _, .self, fun b u hb h => k b u (fun e => hb (by simp [e])) h, nn⟩ (fun b hb => ?_), ⟨E.ms.ln, fun i m' p' hm' hp' => ?_, E.ms.nd⟩, E.sl, E.rs, E.nw⟩
  · have : b = p := by simpa using hb
    rw [this]
    exact nw_mem E p pm
  · obtain ⟨g1, g2, g3⟩ := E.ms.mo i m' p' hm' hp'
    by_cases e : p' = p
    · subst e
      have : j = i := (List.getElem?_inj (List.getElem?_eq_some_iff.mp hp).1 E.ms.nd).mp (by rw [hp, hp'])
      subst this
      rw [hm] at hm'
      cases hm'
      exact ⟨nn _ g1, ⟨rfl, hT⟩, g3⟩
    · exact ⟨nn _ g1, g2.keep e k h2 ⟨(fun q z => by cases z), fun φ z => by cases z⟩, g3⟩
theorem ext_not {c' : Addr} {φ : Heap → Prop} (m : Ms K A H M ps) (h : H c' = some (.ext φ)) : c' ∉ ps := fun hm => by
  obtain ⟨j, hj, e2⟩ := List.getElem_of_mem hm
  have hl : j < M.length := by rw [m.ln]; exact hj
  obtain ⟨_, g2, _⟩ := m.mo j M[j] c' (List.getElem?_eq_getElem hl) (by rw [List.getElem?_eq_getElem hj, e2])
  cases z : M[j] with
  | lst ds =>
    rw [z] at g2
    obtain ⟨xs, a1, _⟩ := g2
    rw [h] at a1
    cases a1
  | obj C fs =>
    rw [z] at g2
    obtain ⟨dx, gs, a1, _⟩ := g2
    rw [h] at a1
    cases a1
  | dct kvs =>
    rw [z] at g2
    obtain ⟨vs, a1, _⟩ := g2
    rw [h] at a1
    cases a1
  | tab P q =>
    rw [z] at g2
    obtain ⟨_, xs, a1, _⟩ := g2
    rw [h] at a1
    cases a1
  | rfs is =>
    rw [z] at g2
    obtain ⟨qs, a1, _⟩ := g2
    rw [h] at a1
    cases a1
  | gone =>
    rw [z] at g2
    obtain ⟨xs, a1⟩ := g2
    rw [h] at a1
    cases a1
end
/-- the def that got it calls it at a: slot i holds it; good tells what it says of the numbers below n -/
def Act1 (Γ : Gm) (F : Fm) (i : Nat) (a : Str) (fl : Addr) (good : Nat → Bool) (n : Nat) : Prop := ∀ ρ M e k p1 p2 (P : SV → List MO → Prop), NS e → ρ[i]? = some (some (.v (.ref fl))) → XD Γ ρ e (.int ((k : Nat) : Int)) → k < n → P (.d (.bool (good k))) M → DX Γ F ρ M (.Call (.Name a p1) [e] [] p2) P
def lamG (Γ : Gm) (scope : Scope) (k : Nat) : Gm := ⟨Γ.W, Γ.N, scope, k, fun _ => false, Option.none, fun _ => True⟩
theorem has_lam {Γ : Gm} {X : Cx} {A : Around} {outer : List Env} {s : Shared} {H : Hp} {E : XK} {scope : Scope} {f c' : Addr} {k : Nat} {L : Addr} (h : Has Γ X) (hr : Room k (A.deeper (LamX.lamEnv X scope s.heap.objs.size f c'))) : Has (lamG Γ scope k) (LamX.lamCx X A outer s H E scope f c') where
  prog := h.prog
  w := h.w
  K := h.K
  mg := h.mg
  base := h.base
  N := h.N
  sc := rfl
  calm := rfl
  room := hr
  fn := fun x hx => by cases hx
  po := passes_of rfl
  tk := fun E e => by cases e
  px := trivial
/-! ### arguments, the last of them a lambda -/
def tAppE (Γ : Gm) : List Expr → TA → TA
  | [], t => t
  | e :: es, t => fun σ H Q => WG Γ e σ H fun x H1 => tAppE Γ es t σ H1 fun xs H2 => Q (x :: xs) H2
theorem pa_app {Γ : Gm} {X : Cx} (h : Has Γ X) {tl : List Expr} {t : TA} (ht : PA X tl t) : ∀ es : List Expr, (∀ e ∈ es, NS e) → PA X (es ++ tl) (tAppE Γ es t)
  | [], _ => ht
  | e :: es, n => pa_cons (pe_wg h) (pa_app h ht es fun e he => n e (List.mem_cons_of_mem _ he)) (n e List.mem_cons_self _ X.env)
def DXc (Γ : Gm) (F : Fm) (ρ : Rho) (M : List MO) (es : List Expr) (P : List SV → List MO → Prop) : Prop := ∀ A H σ ps, En Γ.W.K F A H σ ρ M ps → ∀ (t : TA) (Q : List V → Hp → Prop),
  (∀ v z A1 H1 M1 ps1, Nx A ps A1 ps1 → En Γ.W.K F A1 H1 σ ρ M1 ps1 → Rvs Γ.W.K A1 ps1 v z → P z M1 → t σ H1 fun ws H2 => Q (v ++ ws) H2) → tAppE Γ es t σ H Q
section
variable {Γ : Gm} {F : Fm} {ρ : Rho} {M : List MO} {e : Expr} {es : List Expr} {P : List SV → List MO → Prop}
theorem dxc_nil (p : P [] M) : DXc Γ F ρ M [] P := fun A H σ ps E t Q q => q [] [] A H M ps .refl E .nil p
theorem dxc_cons (h : DX Γ F ρ M e fun z M1 => DXc Γ F ρ M1 es fun zs M2 => P (z :: zs) M2) : DXc Γ F ρ M (e :: es) P := fun A H σ ps E t Q q =>
  h A H σ ps E _ fun v z A1 H1 M1 ps1 e1 E1 r hs => hs A1 H1 σ ps1 E1 t _ fun vs zs A2 H2 M2 ps2 e2 E2 rs p => q (v :: vs) (z :: zs) A2 H2 M2 ps2 (e1.trans e2) E2 (.cons (r.nx e2) rs) p
end
def tLamE (X : Cx) (Pt : Addr) (q : Str) (params : Arguments) (body : Expr) (scope : Scope) : TE := fun σ H Q => LamX.TabS H Pt q ∧ ∀ f c' pm ctv H1, (∀ b o, b ≠ Pt → H b = some o → H1 b = some o) → LamX.TabS H1 Pt q → H f = Option.none → H1 f = some (LamO f (lamO X q params body scope pm c' ctv)) → H1 c' = some (LamX.CodeO c' q) → Q (.ref f) H1
theorem pe_lam {X : Cx} {c Pt : Addr} {q : Str} {params : Arguments} {body : Expr} {scope : Scope} {pos : Pos} {ps : List Str} (TB : LamX.TabB X.base X.mg c Pt) (hcode : X.env.code = .ref c) (hq : X.env.qual ++ "<lambda>" = q) (hdef : defaultsOf params X.env = ([], [])) (L : LamS1 X.env.scope scope ps) :
    PE X (.Lambda params body scope pos) (tLamE X Pt q params body scope) := ⟨fun pins s σ H Q I h => lam_make3 I TB hcode hq h.1 hdef (L.has I.ok) fun f c' pm ctv H1 s' J k t n hf hc => ⟨.ref f, H1, J, rfl, h.2 f c' pm ctv H1 k t n hf hc⟩⟩
theorem rvs_app {K : Kf} {A : Hp} {ps : List Addr} {vs ws : List V} {zs ys : List SV} (h : Rvs K A ps vs zs) (g : Rvs K A ps ws ys) : Rvs K A ps (vs ++ ws) (zs ++ ys) := by
  induction h with
  | nil => exact g
  | cons a _ ih => exact .cons a ih
section
variable {Γ : Gm} {F : Fm} {ρ : Rho} {M : List MO} {es : List Expr} {P : SV → List MO → Prop} {PX : Xc → List MO → Prop} {pos p lpos : Pos} {g a pr ql : Str} {params : Arguments} {body : Expr} {scope : Scope}
/-- g(e, .., lambda pr: body): g's own body runs -/
theorem dx_lam1 {stg : Stmt} {fg c Pt : Addr} {fdg : FuncData} {Ng ps : List Str} {i j t k n : Nat} {good : Nat → Bool} {e0 : Expr} {rest0 : List Expr} (es : List Expr) (hes : es ++ [.Lambda params body scope lpos] = e0 :: rest0) (nse : ∀ e ∈ es, NS e)
    (Fg : FunD Γ.W.K g g (defArgs stg) (defBody stg) (defScope stg) [] [] fg fdg) (hg : Γ.W.mg g = some (.ref fg)) (hb : Binds Γ.W.K fdg ps []) (Sg : FnScope Ng ps (defScope stg))
    (hL : lamS1B Γ.sc scope [pr] = true) (hdef : ∀ env, defaultsOf params env = ([], [])) (hbind : ∀ q cl pm cv ctv u, bindArgs (PySem.W.kla_fn "<lambda>" q params body scope cl pm cv ctv) ⟨[u], []⟩ = pure [(pr, u)]) (hj : Γ.N[j]? = some pr) (nd : decide Γ.N.Nodup = true)
    (px : ∀ X, Γ.px X → X.env.code = .ref c ∧ X.env.qual ++ "<lambda>" = ql) (TB : LamX.TabB Γ.W.base Γ.W.mg c Pt) (hk : Nat.ble (k + 2) Γ.k = true) (hN : Ng[i]? = some a) (hva : Vis (defScope stg) a)
    (hew : ∃ EX, Γ.ew = some EX) (hx : Xok Γ F PX) (hlen : es.length + 1 = ps.length)
    (ha : DXc Γ F ρ M es fun zs M1 => zs.length = es.length ∧ M1[t]? = some (.tab Pt ql) ∧ (∀ l, l < n → XD (lamG Γ scope k) (ρ.set j (some (.d (.int ((l : Nat) : Int))))) body (.bool (good l))) ∧
      ∀ EX px' fl (B' : Fb (gmPx Γ.W Ng (defScope stg) (k + 1) EX px')), B'.F.ps0.length = M1.length → B'.Rt = (fun z M2 => okR M1.length z ∧ okM M1.length (M2.take M1.length) ∧ P z (M2.take M1.length)) → B'.PX = (fun x M2 => okM M1.length (M2.take M1.length) ∧ PX x (M2.take M1.length)) →
      Act1 (gmPx Γ.W Ng (defScope stg) (k + 1) EX px') B'.F i a fl good n → DS (gmPx Γ.W Ng (defScope stg) (k + 1) EX px') B' (startR Ng (zs ++ [.v (.ref fl)])) M1 (defBody stg) fun _ M2 => okM M1.length (M2.take M1.length) ∧ P (.d .none) (M2.take M1.length))
    (ns0 : NS e0 := by intro _ _; rfl) (nsr : NSs rest0 := by intro _ _; rfl) (hG : Glo Γ g := by rfl) (hdb : (g == ("__debug__" : Str)) = false := by decide) (hda : (a == ("__debug__" : Str)) = false := by decide) (hca : (a == ("__classdict__" : Str)) = false := by decide) :
    DX Γ F ρ M (.Call (.Name g p) (e0 :: rest0) [] pos) P := fun A H σ qs E Q q X hX pins s I => by
  have L : LamS1 X.env.scope scope [pr] := by
    rw [hX.sc]
    exact lamS1_by hL
  obtain ⟨hcode, hq⟩ := px X hX.px
  obtain ⟨EX, hEX⟩ := hew
  obtain ⟨oc, od, dV, kV, doc, pm0, an, cdv, ct, osl, rfl, lk, hcd, _, _⟩ := Fg.ex
  have TBX : LamX.TabB X.base X.mg c Pt := by
    rw [hX.base, hX.mg]
    exact TB
  refine wpAny_Call_Name_kw (ld_glob I (gl_of hX hG) (by rw [hX.mg]; exact hg) ?_ hdb)
  have pa : PA X (e0 :: rest0) (tAppE Γ es (tCons (tLamE X Pt ql params body scope) tNil)) := by
    rw [← hes]
    exact pa_app hX (pa_cons (pe_lam TBX hcode hq (hdef _) L) pa_nil) es nse
  refine PySem.W.callWith_K (h₀ := X.base) I.ok.mod.kin (by rw [hX.K]; exact Fg.kp) (thn (pa.run pos pins s σ H (fun vs H1 => ∀ us s1, Inv X pins σ H1 s1 → Vals vs us → wpAny (model X.prog X.w) X.A (call (.ref fg) us) (EP X pins σ Q) X.xe s1) I ?_) fun us s1 ⟨vs, H1, I1, r, qq⟩ => ⟨I1.kIn, qq us s1 I1 r⟩) (ns0 _ X.env) (nsr pos X.env)
  refine ha A H σ qs E _ _ fun vs zs A1 H1 M1 ps1 x1 E1 rs ⟨hzl, hm, hgood, hDS⟩ => ?_
  obtain ⟨p1, hp1⟩ : ∃ p1, ps1[t]? = some p1 := by
    have := (List.getElem?_eq_some_iff.mp hm).1
    exact ⟨_, List.getElem?_eq_getElem (by rw [← E1.ms.ln]; exact this)⟩
  obtain ⟨_, ⟨e0', tb0⟩, _⟩ := E1.ms.mo t _ p1 hm hp1
  subst e0'
  refine ⟨tb0, fun f c' pm ctv H2 keep tab nf hf hc us s2 I2 r2 => ?_⟩
  have E2 := E1.tab hm keep tab
  have fN : f ∉ ps1 := ext_not E2.ms hf
  have cN : c' ∉ ps1 := ext_not E2.ms hc
  let B' : Fb (gmPx Γ.W Ng (defScope stg) (k + 1) EX (fun Z' => Z' = cxOf (L2.CX X.prog X.w) X.prog X.w X.K X.mg X.base Ng g (defScope stg) fg cdv X.A X.stack s2 H2 EX)) :=
    fbM _ A1 H2 Q ps1 M1.length P PX E1.ms.ln (fun v z A3 H3 M3 fx m r p => q v z A3 H3 M3 ps1 (x1.trans (.of fx.aa)) (E2.after fx m) r p) (fun E' e' x A3 H3 M3 cl d fx m xi pxx => by
      cases e'
      exact hx EX hEX A3 H3 σ ρ M3 ps1 x cl d (E2.after fx m) xi pxx)
  have hl : (vs ++ [V.ref f]).length = ps.length := by rw [List.length_append, rs.len, hzl]; exact hlen
  refine wpAny_call (codeAny_mono (LamX.run_ofS (CX := L2.CX X.prog X.w) (k := k + 1) (N := Ng) (ps := ps) (args := ⟨us, []⟩) (E := EX) (Q := Q) (by rw [hX.K]; exact lk) (by rw [hX.K]; exact hcd) Sg (hX.room.mono (Nat.le_of_ble_eq_true hk)) I2.env0 (by
      have z := (hX.K ▸ hb : Binds X.K _ ps []) s2 us I2.kIn (by rw [List.append_nil, ← r2.length]; exact hl)
      rw [List.append_nil] at z
      exact z) r2 hl fun hr' => ⟨WGss _ (defBody stg), pss_wg (Γ := gmPx Γ.W Ng (defScope stg) (k + 1) EX (fun Z' => Z' = cxOf (L2.CX X.prog X.w) X.prog X.w X.K X.mg X.base Ng g (defScope stg) fg cdv X.A X.stack s2 H2 EX)) ⟨hX.prog, hX.w, hX.K, hX.mg, hX.base, rfl, rfl, rfl, hr', fun _ _ => .inl rfl, passes_of rfl, fun E' e' => by
        cases e'
        exact takes_of rfl rfl rfl rfl, rfl⟩, ?_⟩) fun r s' hq' => ?_)
  · refine hDS EX _ f B' E1.ms.ln.symm rfl rfl (fun ρ3 M3 e l p1 p2 P3 ns hslot hxd hll hp A3 H3 σ3 ps3 E3 Q3 q3 Z' hZ' pins3 s3 I3 => ?_) A1 H2 (L2.start Ng (vs ++ [.ref f])) ps1 (en_start E2.ah E2.ms (rvs_app rs (Rvs.cons (v := V.ref f) (z := .v (.ref f)) rfl .nil))) _ rfl fun A3 H3 σ3 ρ3 M3 ps3 x3 E3 ⟨w, pp⟩ => ?_
    · refine (pe_act1 (X := X) (i := i) (j := j) (k := k) I2 hZ'.px L hq (hbind _ _ _ _ _) (of_decide_eq_true (by rw [hX.N]; exact nd)) (by rw [hX.N]; exact hj) (hZ'.tk EX rfl) (E := E0) (fun _ _ _ _ z => z.elim) hr' (fun A outer s H hr => pe_wg (Γ := lamG Γ scope k) (has_lam (L := f) hX hr)) (pe_wg hZ') ns hN hva hda hca).run pins3 s3 σ3 H3 Q3 I3 ⟨E3.rs.2 _ _ hslot, E3.fx.hh f _ fN hf, (hxd σ3 A3 E3.sl).run E3.ah fun v A4 H4 w4 hv => ?_⟩
      rw [dp_int hv]
      refine ⟨w4.h f _ (E3.fx.hh f _ fN hf), w4.h c' _ (E3.fx.hh c' _ cN hc), ?_⟩
      refine (hgood l hll (σ.set j (some (.int l))) A1 (E2.sl.set j (.int _))).run ((E3.fx.aa.trans w4.a).trans w4.k) fun v5 A5 H5 w5 hv5 => ?_
      exact q3 v5 (.d (.bool (good l))) A4 H5 M3 ps3 (.of w4.a) (E3.step (w4.trans (Gw.grow w4.k w5.h))) (dp_flat hv5 rfl) hp
    · exact q .non (.d .none) A3 H3 _ ps1 (x1.trans (.of E3.fx.aa)) (E2.after E3.fx (ms_take E3 E1.ms.ln w)) .non pp
  · cases r with
    | error e => exact passes_call (hX.tk EX hEX) (fun _ _ _ _ z => z) pins σ H2 s2 e s' I2 hq'
    | ok fl =>
      cases fl with
      | ret u => exact I2.after hq'
      | next => exact False.elim hq'
      | brk => exact False.elim hq'
      | cont => exact False.elim hq'
end
end Ev
namespace Ev
open PySem PySem.Spec PyProof.Rows L2 Evl
/-! ### the text's own exceptions -/
/-- what stands of LagError, over ValueError without an __init__ of its own -/
structure LagE (W : Wd) (CL : Addr) : Prop where
  mg : W.mg "LagError" = some (.ref CL)
  ga : PySem.W.specialIn W.K (.ref CL) "__getattribute__" = some (some (.builtin "type.__getattribute__"))
  rd : PySem.W.readsIn W.K CL (.type "type") = true
  it : PySem.W.findCls W.K (.ref CL) (.type "type") "__init__" = some (.val (.builtin "ValueError.__init__"))
theorem pe_lginit {X : Cx} {CL : Addr} {e : Expr} {es : List Expr} {ta : TA} {p1 p2 pos : Pos} {pl : Sem Bool} (hg : Gl X "LagError") (hm : X.mg "LagError" = some (.ref CL)) (hga : PySem.W.specialIn X.K (.ref CL) "__getattribute__" = some (some (.builtin "type.__getattribute__")))
    (hr : PySem.W.readsIn X.K CL (.type "type") = true) (hf : PySem.W.findCls X.K (.ref CL) (.type "type") "__init__" = some (.val (.builtin "ValueError.__init__"))) (ha : PA X (e :: es) ta)
    (hc : eval (.Call (.Attribute (.Name "LagError" p1) "__init__" p2) (e :: es) [] pos) X.env = (do
      let ov ← eval (.Name "LagError" p1) X.env
      standAt p2.atName
      let (f, first) ← holding [ov] (getMethod ov "__init__" pl)
      callWith pos f first (backTo pos (starEach (e :: es) X.env)) (backToKw pos (keywordEach [] X.env))) := by rfl)
    (he : starEach (e :: es) X.env = (false, eval e X.env) :: starEach es X.env := by rfl) (hpl : (backTo pos (starEach es X.env)).any (·.1) = false := by rfl) :
    PE X (.Call (.Attribute (.Name "LagError" p1) "__init__" p2) (e :: es) [] pos) (tVeI X.K ta) := ⟨fun pins s σ H Q I h => by
  refine PySem.W.methodCall_KW (ld_glob I hg hm ?_ (by decide)) hc
  refine PySem.W.method_cls I.kIn hga (PySem.W.cls_value I.kIn hr hf rfl ?_)
  show wpAny _ _ (callWith pos (Value.builtin "ValueError.__init__") [] (backTo pos (starEach (e :: es) X.env)) []) _ _ _
  refine PyProof.Rows.callWith_method1 (thn (ha.run pos pins _ σ H _ (I.tok _) h) fun us s1 ⟨vs, H1, I1, r1, a, C, ws, ev, hl, T, ea, q⟩ => ?_) he hpl
  subst ev
  cases r1 with
  | @cons _ u0 _ ur ra rr =>
    obtain rfl : u0 = Value.ref a := ra
    have len : ur.length ≤ sizeLine := by
      rw [← Paired.length rr, sizeLine_eq]
      omega
    exact oinit_ok T I1 ea len fun s' J => ⟨.non, H1, J, rfl, q⟩⟩
/-- an __init__: from the fresh exception at its first argument to that with its fields -/
def spX (C : Addr) (fs : List Str) : Sp := fun vs H Q _ => ∃ a ys, vs = .ref a :: ys ∧ ys.length = fs.length ∧ H a = some (exo a C Option.none) ∧
  ∀ d H', H d = Option.none → d ≠ a → H' a = some (exo a C (some d)) → H' d = some (exd d (fs.zip ys).reverse) → (∀ b, b ≠ a → b ≠ d → H' b = H b) → Q .non H'
structure Xcl (W : Wd) (x : Str) (C : Addr) (k : Nat) (fs : List Str) : Prop where
  mg : W.mg x = some (.ref C)
  ox : OexC W.K C
  it : ∃ fI fd ps, PySem.W.findIn W.K (.ref C) "__init__" = some (some (.ref fI)) ∧ PySem.W.typeIn W.K (.ref fI) = some (.type "function") ∧ FnOk W.P W.w W.K W.mg W.base (L2.CX W.P W.w) k fI fd ps (spX C fs) ∧ Binds W.K fd ps []
section
variable {Γ : Gm} {B : Fb Γ} {F : Fm} {ρ : Rho} {M : List MO} {e : Expr} {es : List Expr} {N : Rho → List MO → Prop} {pos p pos2 : Pos} {x : Str}
theorem s_raise {C : Addr} {k : Nat} {fs : List Str} (T : Xcl Γ.W x C k fs) (hew : ∃ EX, Γ.ew = some EX) (ha : DXs Γ B.F ρ M (e :: es) fun zs M1 => ∃ ds, zs = ds.map .d ∧ ds.length = fs.length ∧ fs.length ≤ 5 ∧ B.PX ⟨x, (fs.zip ds).reverse⟩ M1) (hk : Nat.ble (k + 1) Γ.k = true := by rfl) (g : Glo Γ x := by rfl) (ne : NS e := by intro _ _; rfl) (ns : NSs es := by intro _ _; rfl)
    (hdb : (x == ("__debug__" : Str)) = false := by decide) : DS1 Γ B ρ M (.Raise (some (.Call (.Name x p) (e :: es) [] pos)) Option.none pos2) N := fun A H σ ps E D hD kk => by
  obtain ⟨EX, hEX⟩ := hew
  obtain ⟨fI, fd, qs, i1, i2, i3, i4⟩ := T.it
  refine WGs.of (ts := fun _ σ H => tMkO C (spX C fs) [] (WGa Γ (e :: es)) σ H fun cls d H' => EX cls d H') (fun X h => by
    obtain ⟨u1, u2, u3, u4, u5⟩ : X.prog = Γ.W.P ∧ X.w = Γ.W.w ∧ X.K = Γ.W.K ∧ X.mg = Γ.W.mg ∧ X.base = Γ.W.base := ⟨h.prog, h.w, h.K, h.mg, h.base⟩
    exact ps_raise h.calm (h.tk EX hEX) (pmk_oex (CX := L2.CX X.prog X.w) (ds := []) (dvs := []) (ps := qs) (fd := fd) (by rw [u3]; exact T.ox) (by rw [u3]; exact i1) (by rw [u3]; exact i2) (by rw [u1, u2, u3, u4, u5]; exact i3) (h.room.mono (Nat.le_of_ble_eq_true hk)) (by rw [u3]; exact i4) .nil passL (gl_of h g) (by rw [u4]; exact T.mg) (pa_wg h) hdb (ne es X.env) (ns pos X.env)))
    (ha A H σ ps E _ fun vs zs A1 H1 M1 ps1 x1 E1 rs ⟨ds, hz, hl, hl5, px⟩ => ?_)
  subst hz
  have hd := rvs_d rs
  refine ⟨by rw [hd.len]; omega, fun a na => ⟨a, vs, by rw [List.append_nil], by rw [hd.len, hl], upd_same, fun d H' nd nda ea ed ee => ?_⟩⟩
  have nd' : H1 d = Option.none := by
    rw [upd_ne nda] at nd
    exact nd
  refine ⟨rfl, d, _, ea, ed, nd', ?_⟩
  have key : ∀ b o, H1 b = some o → upd (del H' a) d (.xd (fs.zip vs).reverse) b = some o := fun b o hb => by
    have nb : b ≠ a := ne_of_none hb na
    have nb2 : b ≠ d := ne_of_none hb nd'
    rw [upd_ne nb2, del_ne nb, ee b nb nb2, upd_ne nb]
    exact hb
  refine B.hX EX hEX A1 _ σ ρ M1 ps1 _ _ _ (E1.step (Gw.grow E1.ah key)) ⟨T.mg, d, _, rfl, upd_same, ?_, ?_⟩ px
  · have : ∀ (fs : List Str) (vs : List V) (ds : List PyData), vs.length = fs.length → ds.length = fs.length → (fs.zip vs).map (·.1) = (fs.zip ds).map (·.1) := fun fs => by
      induction fs with
      | nil => simp
      | cons f fs ih =>
        intro vs ds h1 h2
        cases vs with
        | nil => simp at h1
        | cons v vs =>
          cases ds with
          | nil => simp at h2
          | cons d ds =>
            rw [List.zip_cons_cons, List.zip_cons_cons, List.map_cons, List.map_cons, ih vs ds (by simpa using h1) (by simpa using h2)]
    show List.map _ (fs.zip vs).reverse = List.map _ (fs.zip ds).reverse
    rw [List.map_reverse, List.map_reverse, this fs vs ds (by rw [hd.len, hl]) hl]
  · have : ∀ (fs : List Str) (vs : List V) (ds : List PyData), DpAll Γ.W.K A1 vs ds → ds.length = fs.length → DpAll Γ.W.K A1 ((fs.zip vs).map (·.2)) ((fs.zip ds).map (·.2)) := fun fs => by
      induction fs with
      | nil =>
        intro vs ds h _
        simp
        exact .nil
      | cons f fs ih =>
        intro vs ds h h2
        cases h with
        | nil => simp at h2
        | cons h3 h4 => exact .cons h3 (ih _ _ h4 (by simpa using h2))
    show DpAll _ _ (List.map _ (fs.zip vs).reverse) (List.map _ (fs.zip ds).reverse)
    rw [List.map_reverse, List.map_reverse]
    exact (this fs vs ds hd hl).reverse
end
section
variable {W : Wd} {CL C : Addr} {f : Addr} {fd : FuncData} {q : Str}
theorem ok_init_rule (L : LagE W CL) (T : OexC W.K C) (F : FunD W.K "__init__" q (defArgs (stI 7)) (defBody (stI 7)) (defScope (stI 7)) [] [] f fd) (hno : PySem.W.findIn W.K (.ref C) "part" = some Option.none) : FnOk W.P W.w W.K W.mg W.base (L2.CX W.P W.w) 1 f fd ["self", "part"] (spX C ["part"]) := by
  have S : FnScope ["self", "part"] ["self", "part"] (defScope (stI 7)) := ⟨rfl, rfl, rfl, by decide +kernel, rfl, by decide +kernel, by decide +kernel⟩
  refine F.ok S (fun vs H Q E ⟨a, ys, h1, h2, _⟩ => by rw [h1, List.length_cons, h2]; rfl) fun cdv A outer s H vs Q E hr h => ?_
  obtain ⟨a, ys, rfl, hl, ha, q⟩ := h
  match ys, hl with
  | [y], _ =>
    refine ⟨_, pss_cons (ps_expr (pe_lginit rfl L.mg L.ga L.rd L.it (pa_cons (pv 0) (pa_cons pe_str pa_nil)))) (pss_one (ps_ost (pv 0) (pv 1))), ?_⟩
    refine ⟨.ref a, rfl, a, C, _, rfl, by simp, T, ha, y, rfl, .ref a, rfl, a, C, rfl, T, hno, .inl ⟨ha, fun dx n ne => ?_⟩⟩
    exact q dx _ n ne upd_same (by rw [upd_ne ne, upd_same]; rfl) fun b h1 h2 => by rw [upd_ne h1, upd_ne h2]
theorem ok_init_text (L : LagE W CL) (T : OexC W.K C) (F : FunD W.K "__init__" q (defArgs (stI 18)) (defBody (stI 18)) (defScope (stI 18)) [] [] f fd) (hno : PySem.W.findIn W.K (.ref C) "line" = some Option.none) : FnOk W.P W.w W.K W.mg W.base (L2.CX W.P W.w) 1 f fd ["self", "line"] (spX C ["line"]) := by
  have S : FnScope ["self", "line"] ["self", "line"] (defScope (stI 18)) := ⟨rfl, rfl, rfl, by decide +kernel, rfl, by decide +kernel, by decide +kernel⟩
  refine F.ok S (fun vs H Q E ⟨a, ys, h1, h2, _⟩ => by rw [h1, List.length_cons, h2]; rfl) fun cdv A outer s H vs Q E hr h => ?_
  obtain ⟨a, ys, rfl, hl, ha, q⟩ := h
  match ys, hl with
  | [y], _ =>
    refine ⟨_, pss_cons (ps_expr (pe_lginit rfl L.mg L.ga L.rd L.it (pa_cons (pv 0) (pa_cons pe_str pa_nil)))) (pss_one (ps_ost (pv 0) (pv 1))), ?_⟩
    refine ⟨.ref a, rfl, a, C, _, rfl, by simp, T, ha, y, rfl, .ref a, rfl, a, C, rfl, T, hno, .inl ⟨ha, fun dx n ne => ?_⟩⟩
    exact q dx _ n ne upd_same (by rw [upd_ne ne, upd_same]; rfl) fun b h1 h2 => by rw [upd_ne h1, upd_ne h2]
theorem ok_init_rack (L : LagE W CL) (T : OexC W.K C) (F : FunD W.K "__init__" q (defArgs (stI 6)) (defBody (stI 6)) (defScope (stI 6)) [] [] f fd) (hno : PySem.W.findIn W.K (.ref C) "part" = some Option.none) (hno2 : PySem.W.findIn W.K (.ref C) "number" = some Option.none) : FnOk W.P W.w W.K W.mg W.base (L2.CX W.P W.w) 1 f fd ["self", "part", "number"] (spX C ["part", "number"]) := by
  have S : FnScope ["self", "part", "number"] ["self", "part", "number"] (defScope (stI 6)) := ⟨rfl, rfl, rfl, by decide +kernel, rfl, by decide +kernel, by decide +kernel⟩
  refine F.ok S (fun vs H Q E ⟨a, ys, h1, h2, _⟩ => by rw [h1, List.length_cons, h2]; rfl) fun cdv A outer s H vs Q E hr h => ?_
  obtain ⟨a, ys, rfl, hl, ha, q⟩ := h
  match ys, hl with
  | [y, z], _ =>
    refine ⟨_, pss_cons (ps_expr (pe_lginit rfl L.mg L.ga L.rd L.it (pa_cons (pv 0) (pa_cons pe_str pa_nil)))) (pss_cons (ps_ost (pv 0) (pv 1)) (pss_one (ps_ost (pv 0) (pv 2)))), ?_⟩
    refine ⟨.ref a, rfl, a, C, _, rfl, by simp, T, ha, y, rfl, .ref a, rfl, a, C, rfl, T, hno, .inl ⟨ha, fun dx n ne => ?_⟩⟩
    refine ⟨z, rfl, .ref a, rfl, a, C, rfl, T, hno2, .inr ⟨dx, _, upd_same, by rw [upd_ne ne, upd_same], by simp, ?_⟩⟩
    refine q dx _ n ne (by rw [upd_ne (Ne.symm ne), upd_same]) upd_same fun b h1 h2 => by rw [upd_ne h2, upd_ne h1, upd_ne h2]
end
end Ev
namespace Ev
open PySem PySem.Spec PyProof.Rows L2 Evl
/-! ### defs that change things, that make lambdas -/
theorem Dg.fm {W : Wd} {x : Str} {i k n : Nat} {N ps : List Str} {R : MR} (D : Dg W x i) (S : FnScope N ps (defScope (top i)))
    (hb : ∀ (kV doc pm : Value) (an : Option Addr) (cdv ct : Value) (us : List Value), us.length = ps.length → bindArgs (PySem.W.fnOf x x (defArgs (top i)) (defBody (top i)) (defScope (top i)) .none kV doc pm an cdv ct) ⟨us, []⟩ = pure (ps.zip us)) (hn : n = ps.length)
    (h : ∀ E (B : Fb (gmOf W N (defScope (top i)) k E)) zs M P PX, B.F.ps0.length = M.length → B.Rt = (fun z M1 => okR M.length z ∧ okM M.length (M1.take M.length) ∧ P z (M1.take M.length)) → B.PX = (fun x M1 => okM M.length (M1.take M.length) ∧ PX x (M1.take M.length)) → zs.length = n → R zs M P PX →
      DS (gmOf W N (defScope (top i)) k E) B (startR N zs) M (defBody (top i)) fun _ M1 => okM M.length (M1.take M.length) ∧ P (.d .none) (M1.take M.length)) : Fk W (k + 1) x ps (spM W n R) := by
  obtain ⟨f, fd, F, hg⟩ := D
  exact fkM F S hg (F.bindsN hb) hn h
def DgC (W : Wd) (x : Str) (i : Nat) (c Pt : Addr) : Prop := ∃ f fd, FunD W.K x x (defArgs (top i)) (defBody (top i)) (defScope (top i)) [] [] f fd ∧ W.mg x = some (.ref f) ∧ fd.code = .ref c ∧ LamX.TabB W.base W.mg c Pt
def lamQ (x : Str) : Str := x ++ ".<locals>." ++ "<lambda>"
def pxL (x : Str) (c : Addr) : Cx → Prop := fun X => X.env.code = .ref c ∧ X.env.qual ++ "<lambda>" = lamQ x
theorem DgC.fm {W : Wd} {x : Str} {i k n : Nat} {c Pt : Addr} {N ps : List Str} {R : MR} (D : DgC W x i c Pt) (S : FnScope N ps (defScope (top i)))
    (hb : ∀ (kV doc pm : Value) (an : Option Addr) (cdv ct : Value) (us : List Value), us.length = ps.length → bindArgs (PySem.W.fnOf x x (defArgs (top i)) (defBody (top i)) (defScope (top i)) .none kV doc pm an cdv ct) ⟨us, []⟩ = pure (ps.zip us)) (hn : n = ps.length)
    (h : LamX.TabB W.base W.mg c Pt → ∀ E (B : Fb (gmPx W N (defScope (top i)) k E (pxL x c))) zs M P PX, B.F.ps0.length = M.length → B.Rt = (fun z M1 => okR M.length z ∧ okM M.length (M1.take M.length) ∧ P z (M1.take M.length)) → B.PX = (fun x M1 => okM M.length (M1.take M.length) ∧ PX x (M1.take M.length)) → zs.length = n → R zs M P PX →
      DS (gmPx W N (defScope (top i)) k E (pxL x c)) B (startR N zs) M (defBody (top i)) fun _ M1 => okM M.length (M1.take M.length) ∧ P (.d .none) (M1.take M.length)) : Fk W (k + 1) x ps (spM W n R) := by
  obtain ⟨f, fd, F, hg, hcode, TB⟩ := D
  have hB := F.bindsN hb
  obtain ⟨oc, od, dV, kV, doc, pm, an, cdv, ct, osl, rfl, lk, hcd, _, _⟩ := F.ex
  have e : cdv = .ref c := hcode
  subst e
  refine ⟨f, _, hg, F.kp, hB, fn_of lk hcd S (fun vs H Q E ⟨A, qs, zs, M, P, PX, h1, _, _, h2, _⟩ => by rw [h2.len, h1, hn]) fun A outer s H vs Q E hr hs => ⟨WGss (gmPx W N (defScope (top i)) k E (pxL x c)) (defBody (top i)), pss_wg (Γ := gmPx W N (defScope (top i)) k E (pxL x c)) ⟨rfl, rfl, rfl, rfl, rfl, rfl, rfl, rfl, hr, fun _ _ => .inl rfl, passes_of rfl, fun E' e => by
    cases e
    exact takes_of rfl rfl rfl rfl, rfl, rfl⟩, ?_⟩⟩
  obtain ⟨A, qs, zs, M, P, PX, h1, h2, h3, h4, h5, h6, h7⟩ := hs
  exact h TB E (fbM (gmPx W N (defScope (top i)) k E (pxL x c)) A H Q qs M.length P PX h3.ln h6 (fun E' e => by cases e; exact h7)) zs M P PX h3.ln.symm rfl rfl h1 h5 A H (L2.start N vs) qs (en_start h2 h3 h4) _ rfl fun A1 H1 σ1 ρ1 M1 ps1 x1 E1 hd =>
    h6 .non (.d .none) A1 H1 _ E1.fx (ms_take E1 h3.ln hd.1) .non hd.2
/-! ### need_list -/
def firstBad (good : Nat → Bool) (n : Nat) : Option Nat := (List.range n).find? fun i => !good i
theorem firstBad_some {good : Nat → Bool} {n i : Nat} (hi : i < n) (hb : good i = false) (hg : ∀ j, j < i → good j = true) : firstBad good n = some i := by
  unfold firstBad
  rw [List.find?_eq_some_iff_getElem]
  refine ⟨by simp [hb], i, by simpa using hi, by simp, fun j hj => ?_⟩
  simp [hg j hj]
theorem firstBad_none {good : Nat → Bool} {n : Nat} (hg : ∀ j, j < n → good j = true) : firstBad good n = none := by
  unfold firstBad
  rw [List.find?_eq_none]
  intro x hx
  simp [hg x (List.mem_range.mp hx)]
def numD : Option Nat → PyData
  | none => .none
  | some i => .int i
def listFault (part : Str) (len : Nat) (lo hi : Int) (good : Nat → Bool) : Option (Str × Option Nat) := if (decide (lo ≤ (len : Int)) && decide ((len : Int) ≤ hi)) = true then (firstBad good len).map fun i => (part, some i) else some (part, none)
def badRack (part : Str) (num : Option Nat) : Xc := ⟨"BadRack", [("number", numD num), ("part", .str part)]⟩
section
variable {W : Wd}
theorem body_need_list (b : Bl W) {CR : Addr} (T : Xcl W "BadRack" CR 1 ["part", "number"]) {k : Nat} (hk : Nat.ble 1 k = true) {EX : XK} {px : Cx → Prop} {fl : Addr} {good : Nat → Bool} {xs : List PyData} (hz : xs.length ≤ 100000) {part : Str} {lo hi : Int} {M : List MO} {N : Rho → List MO → Prop}
    (B : Fb (gmPx W ["part", "thing", "least", "most", "is_good", "number"] (defScope (top 35)) (k + 1) EX px)) (act : Act1 (gmPx W ["part", "thing", "least", "most", "is_good", "number"] (defScope (top 35)) (k + 1) EX px) B.F 4 "is_good" fl good xs.length)
    (h1 : ∀ p n, listFault part xs.length lo hi good = some (p, n) → B.PX (badRack p n) M) (h2 : listFault part xs.length lo hi good = none → ∀ ρ, N ρ M) :
    DS (gmPx W ["part", "thing", "least", "most", "is_good", "number"] (defScope (top 35)) (k + 1) EX px) B (startR ["part", "thing", "least", "most", "is_good", "number"] ([.d (.str part), .d (.tuple xs), .d (.int lo), .d (.int hi)] ++ [.v (.ref fl)])) M (defBody (top 35)) N := by
  refine ds_cons (s_if (dt_t (XT.is (xt_or2 (xt_not (xt_v (xd_isi b.isinstance b.tuple bt_tuple (xv 1 rfl rfl) (kit_t _)))) fun _ => xt_not (xt_chain (xv 2 rfl rfl) (xd_callB boot_len b.len (xds_cons (xv 1 rfl rfl) xds_nil) of_lenT) (xv 3 rfl rfl) oc_le oc_le)) (rfl : _ = !(decide (lo ≤ (xs.length : Int)) && decide ((xs.length : Int) ≤ hi)))) ⟨fun h => ?_, fun h => ?_⟩))
  · refine ds_one (s_raise T ⟨EX, rfl⟩ (dxs_d (xds_cons (xv 0 rfl rfl) (xds_cons xd_n xds_nil)) ⟨_, rfl, rfl, by decide, ?_⟩) hk)
    refine h1 part none ?_
    unfold listFault
    rw [if_neg]
    intro z
    rw [z] at h
    cases h
  · have hin : (decide (lo ≤ (xs.length : Int)) && decide ((xs.length : Int) ≤ hi)) = true := by simpa using h
    refine ds_nil (ds_one (s_for (di_range b.range (dx_d (xd_callB boot_len b.len (xds_cons (xv 1 rfl rfl) xds_nil) of_lenT) ⟨xs.length, rfl, hz, fun i ρ' M' => ∃ x5, (∀ j, j < i → good j = true) ∧ M' = M ∧ ρ' = [some (.d (.str part)), some (.d (.tuple xs)), some (.d (.int lo)), some (.d (.int hi)), some (.v (.ref fl)), x5], ?_, ?_, ?_⟩))))
    · exact ⟨_, fun j hj => absurd hj (Nat.not_lt_zero _), rfl, rfl⟩
    · rintro i d ρ1 M2 hd ⟨x5, hg, rfl, rfl⟩
      obtain ⟨hi', rfl⟩ := nats_get hd
      refine ⟨_, _, tg_name (i := 5) rfl, ?_⟩
      refine ds_one (s_if (dt_not (dt_v (act _ _ _ i _ _ _ (by intro _ _; rfl) rfl (xv 5 rfl rfl) hi' ⟨_, rfl, fun h => ?_, fun h => ?_⟩))))
      · have hb : good i = false := by simpa using h
        refine ds_one (s_raise T ⟨EX, rfl⟩ (dxs_d (xds_cons (xv 0 rfl rfl) (xds_cons (xv 5 rfl rfl) xds_nil)) ⟨_, rfl, rfl, by decide, ?_⟩) hk)
        refine h1 part (some i) ?_
        unfold listFault
        rw [if_pos hin, firstBad_some hi' hb hg]
        rfl
      · have hb : good i = true := by simpa using h
        refine ds_nil ⟨_, fun j hj => ?_, rfl, rfl⟩
        by_cases e : j = i
        · rw [e]
          exact hb
        · exact hg j (by omega)
    · rintro ρ1 M2 ⟨x5, hg, rfl, rfl⟩
      refine h2 ?_ _
      unfold listFault
      rw [if_pos hin, firstBad_none fun j hj => hg j (by simpa using hj)]
      rfl
end
end Ev
namespace Ev
open PySem PySem.Spec PyProof.Rows L2 Evl
/-! ### need_rack -/
structure Rack where
  names : Int
  boxes : List (List Int)
  cables : List Cab
  loops : List Loo
def rackD (r : Rack) : PyData := .tuple [.int r.names, .tuple (r.boxes.map intsD), .tuple (r.cables.map cabD), .tuple (r.loops.map looD)]
def boxOk (r : Rack) (i : Nat) : Bool := areD (intsD (r.boxes.getD i [])) r.names 0 3
def orElse {α : Type} (a : Option α) (b : Option α) : Option α := match a with
  | some x => some x
  | none => b
def rackFault (r : Rack) : Option (Str × Option Nat) :=
  if wholeD (.int r.names) 1 4 = false then some ("names", none)
  else orElse (listFault "boxes" r.boxes.length 1 8 (boxOk r)) (orElse (listFault "cables" r.cables.length 0 14 (cabOk r.boxes.length r.cables))
    (if (orderOf r.boxes.length r.cables r.boxes.length).length < r.boxes.length then some ("ring", none) else listFault "loops" r.loops.length 0 3 (looOk r.names r.boxes.length r.cables r.loops)))
structure RackSz (r : Rack) : Prop where
  b : r.boxes.length ≤ 40000
  c : r.cables.length ≤ 40000
  l : r.loops.length ≤ 40000
  bb : ∀ b ∈ r.boxes, b.length ≤ 40000
  ck : ∀ c ∈ r.cables, kindOk c.2.2 = true
  ll : ∀ l ∈ r.loops, l.2.2.length ≤ 40000
theorem listFault_in {part : Str} {len : Nat} {lo hi : Int} {good : Nat → Bool} (h : listFault part len lo hi good = none) : lo ≤ (len : Int) ∧ (len : Int) ≤ hi := by
  unfold listFault at h
  split at h
  · rename_i z
    simp only [Bool.and_eq_true, decide_eq_true_eq] at z
    exact z
  · cases h
abbrev RNeed (Pt : Addr) : MR := fun zs M P PX => ∃ (r : Rack) (t : Nat), zs = [.d (rackD r)] ∧ M[t]? = some (.tab Pt (lamQ "need_rack")) ∧ okM M.length M ∧ RackSz r ∧ (∀ p n, rackFault r = some (p, n) → PX (badRack p n) M) ∧ (rackFault r = none → P (.d (rackD r)) M)
section
variable {Γ : Gm} {B : Fb Γ} {ρ : Rho} {M : List MO} {e tg : Expr} {N : Rho → List MO → Prop} {pos : Pos}
theorem s_asgTg (h : DX Γ B.F ρ M e fun z M1 => ∃ d ρ2 js, z = .d d ∧ Tg Γ tg d ρ ρ2 js ∧ N ρ2 M1) (hs : ∀ env, swapsWithSole [tg] e pos.line env = pure false := by intro _; rfl) (hw : ∀ env, swappedStores [tg] e env = pure none := by intro _; rfl) (h1 : ∀ env, (assignEach [tg] env).map (·.2) = [assign tg env] := by intro _; rfl) :
    DS1 Γ B ρ M (.Assign [tg] e pos) N := fun A H σ ps E D hD k =>
  WGs.of (ts := tAsg (WG Γ e) (WGg Γ tg)) (fun X hX => ps_asg (pe_wg hX) (pg_wg hX) (hs X.env) (hw X.env) (h1 X.env)) (h A H σ ps E _ fun v z A1 H1 M1 ps1 e1 E1 r ⟨d, ρ2, js, hz, tgk, n⟩ => by
    subst hz
    exact tgk B.F A1 H1 σ M1 ps1 v E1 r _ fun σ' E' _ => k A1 H1 σ' ρ2 M1 ps1 e1 E' n)
end
theorem okM_self {M : List MO} (h : okM M.length M) : okM M.length (M.take M.length) := by
  rw [List.take_length]
  exact h
section
variable {W : Wd}
theorem binds_of {x : Str} {i : Nat} {fd : FuncData} {f : Addr} {ps : List Str} (F : FunD W.K x x (defArgs (top i)) (defBody (top i)) (defScope (top i)) [] [] f fd)
    (hb : ∀ (kV doc pm : Value) (an : Option Addr) (cdv ct : Value) (us : List Value), us.length = ps.length → bindArgs (PySem.W.fnOf x x (defArgs (top i)) (defBody (top i)) (defScope (top i)) .none kV doc pm an cdv ct) ⟨us, []⟩ = pure (ps.zip us)) : Binds W.K fd ps [] := F.bindsN hb
theorem ns_of {es : List Expr} (h : ∀ e ∈ es, ∀ es' env, starEach (e :: es') env = (false, eval e env) :: starEach es' env) : ∀ e ∈ es, NS e := h
theorem ok_need_rack (b : Bl W) {CR c Pt : Addr} (T : Xcl W "BadRack" CR 1 ["part", "number"]) (t : DgC W "need_rack" 40 c Pt) (tl : Dg W "need_list" 35) (g1 : Gi W "MOST_OWN_NAMES" 4) (g2 : Gi W "MOST_BOXES_racks" 8) (g3 : Gi W "MOST_LAG" 3) (g4 : Gi W "MOST_CABLES" 14) (g5 : Gi W "MOST_LOOPS" 3)
    (f1 : Fk W 2 "is_whole" ["thing", "least", "most"] (spD W.K 3 RWhole)) (f2 : Fk W 2 "are_whole" ["thing", "many", "least", "most"] (spD W.K 4 RArea)) (f3 : Fk W 3 "is_cable" ["boxes", "cables", "number"] (spD W.K 3 RCable)) (f4 : Fk W 1 "order_of" ["boxes", "cables"] (spD W.K 2 ROrder)) (f5 : Fk W 3 "is_loop" ["names", "boxes", "cables", "loops", "number"] (spD W.K 5 RLoop)) :
    Fk W 6 "need_rack" ["thing"] (spM W 1 (RNeed Pt)) :=
  t.fm (N := ["thing", "boxes", "cables", "loops", "names", "number"]) ⟨rfl, rfl, rfl, by decide +kernel, rfl, by decide +kernel, by decide +kernel⟩ (fun _ _ _ _ _ _ us hl => match us, hl with | [_], _ => rfl) rfl fun TB E B zs M P PX hF hRt hPX hl hR => by
    obtain ⟨r, tt, rfl, hM, hoM, hz, hbad, hok⟩ := hR
    obtain ⟨fl, fdl, Fl, hgl⟩ := tl
    have bl : Binds W.K fdl ["part", "thing", "least", "most", "is_good"] [] := binds_of Fl (fun _ _ _ _ _ _ us hl => match us, hl with | [_, _, _, _, _], _ => rfl)
    have Sl : FnScope ["part", "thing", "least", "most", "is_good", "number"] ["part", "thing", "least", "most", "is_good"] (defScope (top 35)) := ⟨rfl, rfl, rfl, by decide +kernel, rfl, by decide +kernel, by decide +kernel⟩
    obtain ⟨m, bs, cs, ls⟩ := r
    have bad : ∀ p n, rackFault ⟨m, bs, cs, ls⟩ = some (p, n) → B.PX (badRack p n) M := fun p n h => by
      rw [hPX]
      show okM M.length (M.take M.length) ∧ PX _ (M.take M.length)
      rw [List.take_length]
      exact ⟨hoM, hbad p n h⟩
    refine ds_cons (s_if (dt_t (XT.is (xt_or2 (xt_not (xt_v (xd_isi b.isinstance b.tuple bt_tuple (xv 0 rfl rfl) (kit_t _)))) fun _ => xt_cmp (xd_callB boot_len b.len (xds_cons (xv 0 rfl rfl) xds_nil) of_lenT) xd_i oc_neI) (rfl : _ = false)) ⟨fun h => (by cases h), fun _ => ds_nil ?_⟩))
    refine ds_cons (s_asgTg (dx_d (xv 0 rfl rfl) ⟨_, _, _, rfl, tg_tup (tgs_cons (tg_name (i := 4) rfl) (tgs_cons (tg_name (i := 1) rfl) (tgs_cons (tg_name (i := 2) rfl) (tgs_cons (tg_name (i := 3) rfl) tgs_nil)))), ?_⟩))
    refine ds_cons (s_if (dt_t (xt_not (xt_v (xd_call f1 (xds_cons (xv 4 rfl rfl) (xds_cons xd_i (xds_cons (xgi g1) xds_nil))) ⟨_, _, _, rfl, rfl⟩))) ⟨fun h => ?_, fun h => ds_nil ?_⟩))
    · have h' : wholeD (.int m) 1 4 = false := by simpa using h
      refine ds_one (s_raise T ⟨E, rfl⟩ (dxs_d (xds_cons xd_s (xds_cons xd_n xds_nil)) ⟨_, rfl, rfl, by decide, bad "names" none ?_⟩))
      rw [rackFault, if_pos h']
    have hnm : wholeD (.int m) 1 4 = true := by simpa using h
    have fault1 : rackFault ⟨m, bs, cs, ls⟩ = orElse (listFault "boxes" bs.length 1 8 (boxOk ⟨m, bs, cs, ls⟩)) (orElse (listFault "cables" cs.length 0 14 (cabOk bs.length cs))
        (if (orderOf bs.length cs bs.length).length < bs.length then some ("ring", none) else listFault "loops" ls.length 0 3 (looOk m bs.length cs ls))) := by
      rw [rackFault, if_neg (by rw [hnm]; simp)]
    have stay : ∀ {Q : List MO → Prop}, Q M → okM M.length (M.take M.length) ∧ Q (M.take M.length) := fun {Q} h => by
      rw [List.take_length]
      exact ⟨hoM, h⟩
    have nse : ∀ e1 e2 e3 e4 : Expr, NS e1 → NS e2 → NS e3 → NS e4 → ∀ e ∈ [e1, e2, e3, e4], NS e := fun e1 e2 e3 e4 h1 h2 h3 h4 e he => by
      simp only [List.mem_cons, List.not_mem_nil, or_false] at he
      rcases he with rfl | rfl | rfl | rfl
      · exact h1
      · exact h2
      · exact h3
      · exact h4
    -- the boxes
    refine ds_cons (s_expr (dx_lam1 (k := 3) (i := 4) (j := 5) (t := tt) (n := bs.length) (good := boxOk ⟨m, bs, cs, ls⟩) (PX := B.PX) [_, _, _, _] rfl (nse _ _ _ _ (fun _ _ => rfl) (fun _ _ => rfl) (fun _ _ => rfl) (fun _ _ => rfl)) Fl hgl bl Sl (by kernel_rfl) (fun _ => rfl) (fun _ _ _ _ _ _ => rfl) rfl (by kernel_rfl) (fun X h => h) TB rfl rfl (.inl rfl) ⟨E, rfl⟩ B.hX rfl
      (dxc_cons (dx_d xd_s (dxc_cons (dx_d (xv 1 rfl rfl) (dxc_cons (dx_d xd_i (dxc_cons (dx_d (xgi g2) (dxc_nil ⟨rfl, hM, fun l hl => ?_, fun EX px' fv B' hF' hRt' hPX' act => body_need_list b T rfl (by rw [List.length_map]; have := hz.b; show bs.length ≤ _; exact Nat.le_trans this (by decide)) B' (by rw [List.length_map]; exact act) (fun p n h => ?_) fun h _ => stay (Q := fun M1 => DS _ B _ M1 _ _) ?_⟩)))))))))))
    · have e : (bs.map intsD)[l]? = some (intsD (bs.getD l [])) := by
        rw [List.getElem?_map, List.getD_eq_getElem?_getD, List.getElem?_eq_getElem hl]
        rfl
      have hb : (bs.getD l []).length ≤ 40000 := hz.bb _ (by
        rw [List.getD_eq_getElem?_getD, List.getElem?_eq_getElem hl]
        exact List.getElem_mem hl)
      exact XD.is (xd_call f2 (xds_cons (xd_ix (xv 1 rfl rfl) (xv 5 rfl rfl) (oi_T (atI_nat e))) (xds_cons (xv 4 rfl rfl) (xds_cons xd_i (xds_cons (xgi g3) xds_nil)))) ⟨_, _, _, _, rfl, by simpa using hb, rfl⟩) rfl
    · rw [List.length_map] at h
      rw [hPX']
      exact stay (Q := B.PX (badRack p n)) (bad p n (by rw [fault1, h]; rfl))
    rw [List.length_map] at h
    have hb8 : (1 : Int) ≤ (bs.length : Int) ∧ (bs.length : Int) ≤ 8 := listFault_in h
    have fault2 : rackFault ⟨m, bs, cs, ls⟩ = orElse (listFault "cables" cs.length 0 14 (cabOk bs.length cs)) (if (orderOf bs.length cs bs.length).length < bs.length then some ("ring", none) else listFault "loops" ls.length 0 3 (looOk m bs.length cs ls)) := by
      rw [fault1, h]
      rfl
    -- the cables
    refine ds_cons (s_expr (dx_lam1 (k := 3) (i := 4) (j := 5) (t := tt) (n := cs.length) (good := cabOk bs.length cs) (PX := B.PX) [_, _, _, _] rfl (nse _ _ _ _ (fun _ _ => rfl) (fun _ _ => rfl) (fun _ _ => rfl) (fun _ _ => rfl)) Fl hgl bl Sl (by kernel_rfl) (fun _ => rfl) (fun _ _ _ _ _ _ => rfl) rfl (by kernel_rfl) (fun X h => h) TB rfl rfl (.inl rfl) ⟨E, rfl⟩ B.hX rfl
      (dxc_cons (dx_d xd_s (dxc_cons (dx_d (xv 2 rfl rfl) (dxc_cons (dx_d xd_i (dxc_cons (dx_d (xgi g4) (dxc_nil ⟨rfl, hM, fun l hl => ?_, fun EX px' fv B' hF' hRt' hPX' act => body_need_list b T rfl (by rw [List.length_map]; have := hz.c; show cs.length ≤ _; exact Nat.le_trans this (by decide)) B' (by rw [List.length_map]; exact act) (fun p n h => ?_) fun h2 _ => stay (Q := fun M1 => DS _ B _ M1 _ _) ?_⟩)))))))))))
    · have e : cs[l]? = some cs[l] := List.getElem?_eq_getElem hl
      exact XD.is (xd_call f3 (xds_cons (XD.is (xd_callB boot_len b.len (xds_cons (xv 1 rfl rfl) xds_nil) of_lenT) (by rw [List.length_map])) (xds_cons (xv 2 rfl rfl) (xds_cons (xv 5 rfl rfl) xds_nil))) ⟨_, _, _, _, rfl, e, hz.ck _ (List.getElem_mem hl), rfl⟩) rfl
    · rw [List.length_map] at h
      rw [hPX']
      exact stay (Q := B.PX (badRack p n)) (bad p n (by rw [fault2, h]; rfl))
    rw [List.length_map] at h2
    have hc14 : (0 : Int) ≤ (cs.length : Int) ∧ (cs.length : Int) ≤ 14 := listFault_in h2
    have hn8 : bs.length ≤ 8 := by omega
    have hc50 : cs.length ≤ 50 := by omega
    have fault3 : rackFault ⟨m, bs, cs, ls⟩ = if (orderOf bs.length cs bs.length).length < bs.length then (some ("ring", none) : Option (Str × Option Nat)) else listFault "loops" ls.length 0 3 (looOk m bs.length cs ls) := by
      rw [fault2, h2]
      rfl
    -- the ring
    have lenB : ∀ {Γ : Gm} {ρ : Rho} {e : Expr}, XD Γ ρ e (.int ((bs.map intsD).length : Nat)) → XD Γ ρ e (.int (bs.length : Nat)) := fun h => XD.is h (by rw [List.length_map])
    refine ds_cons (s_if (dt_t (XT.is (xt_cmp (xd_callB boot_len b.len (xds_cons (xd_call f4 (xds_cons (lenB (xd_callB boot_len b.len (xds_cons (xv 1 rfl rfl) xds_nil) of_lenT)) (xds_cons (xv 2 rfl rfl) xds_nil)) ⟨bs.length, cs, rfl, hn8, Nat.le_trans hc50 (by decide), rfl⟩) xds_nil) of_lenL) (lenB (xd_callB boot_len b.len (xds_cons (xv 1 rfl rfl) xds_nil) of_lenT)) oc_lt)
      (?_ : _ = decide ((orderOf bs.length cs bs.length).length < bs.length))) ⟨fun h3 => ?_, fun h3 => ds_nil ?_⟩))
    · rw [List.length_map]
      exact decide_eq_decide.mpr (by
        show ((orderOf bs.length cs bs.length).length : Int) < (bs.length : Int) ↔ _
        omega)
    · have h3' := of_decide_eq_true h3
      exact ds_one (s_raise T ⟨E, rfl⟩ (dxs_d (xds_cons xd_s (xds_cons xd_n xds_nil)) ⟨_, rfl, rfl, by decide, bad "ring" none (by rw [fault3, if_pos h3'])⟩))
    have h3' := of_decide_eq_false h3
    have fault4 : rackFault ⟨m, bs, cs, ls⟩ = listFault "loops" ls.length 0 3 (looOk m bs.length cs ls) := by
      rw [fault3, if_neg h3']
    -- the loops
    refine ds_cons (s_expr (dx_lam1 (k := 3) (i := 4) (j := 5) (t := tt) (n := ls.length) (good := looOk m bs.length cs ls) (PX := B.PX) [_, _, _, _] rfl (nse _ _ _ _ (fun _ _ => rfl) (fun _ _ => rfl) (fun _ _ => rfl) (fun _ _ => rfl)) Fl hgl bl Sl (by kernel_rfl) (fun _ => rfl) (fun _ _ _ _ _ _ => rfl) rfl (by kernel_rfl) (fun X h => h) TB rfl rfl (.inl rfl) ⟨E, rfl⟩ B.hX rfl
      (dxc_cons (dx_d xd_s (dxc_cons (dx_d (xv 3 rfl rfl) (dxc_cons (dx_d xd_i (dxc_cons (dx_d (xgi g5) (dxc_nil ⟨rfl, hM, fun l hl => ?_, fun EX px' fv B' hF' hRt' hPX' act => body_need_list b T rfl (by rw [List.length_map]; have := hz.l; show ls.length ≤ _; exact Nat.le_trans this (by decide)) B' (by rw [List.length_map]; exact act) (fun p n h => ?_) fun h4 _ => stay (Q := fun M1 => DS _ B _ M1 _ _) ?_⟩)))))))))))
    · have e : ls[l]? = some ls[l] := List.getElem?_eq_getElem hl
      exact XD.is (xd_call f5 (xds_cons (xv 4 rfl rfl) (xds_cons (lenB (xd_callB boot_len b.len (xds_cons (xv 1 rfl rfl) xds_nil) of_lenT)) (xds_cons (xv 2 rfl rfl) (xds_cons (xv 3 rfl rfl) (xds_cons (xv 5 rfl rfl) xds_nil))))) ⟨_, _, _, _, _, _, rfl, e, hz.ll _ (List.getElem_mem hl), hc50, rfl⟩) rfl
    · rw [List.length_map] at h
      rw [hPX']
      exact stay (Q := B.PX (badRack p n)) (bad p n (by rw [fault4, h]))
    rw [List.length_map] at h4
    refine ds_one (s_ret (dx_d (xv 0 rfl rfl) ?_))
    rw [hRt]
    exact ⟨trivial, stay (Q := P _) (hok (by rw [fault4, h4]))⟩
end
end Ev
namespace Ev
open PySem PySem.Spec PyProof.Rows L2 Evl
/-! ### the law's own look at a rack -/
def faultD : Option (Str × Option Nat) → PyData
  | none => .none
  | some (p, n) => .tuple [.str p, numD n]
def lawFault (r : Rack) : Option (Str × Option Nat) :=
  if wholeD (.int r.names) 1 4 = false then some ("names", none)
  else orElse (listFault "boxes" r.boxes.length 1 8 (boxOk r)) (orElse (listFault "cables" r.cables.length 0 14 (cabOk r.boxes.length r.cables))
    (if hasRing r.cables = true then some ("ring", none) else listFault "loops" r.loops.length 0 3 (looOk r.names r.boxes.length r.cables r.loops)))
abbrev RFault (Pt : Addr) : MR := fun zs M P PX => ∃ (r : Rack) (t : Nat), zs = [.d (rackD r)] ∧ M[t]? = some (.tab Pt (lamQ "_law_rack_fault")) ∧ okM M.length M ∧ RackSz r ∧ P (.d (faultD (lawFault r))) M
section
variable {W : Wd}
theorem body_list_fault (b : Bl W) {k : Nat} {EX : XK} {px : Cx → Prop} {fl : Addr} {good : Nat → Bool} {xs : List PyData} (hz : xs.length ≤ 100000) {part : Str} {lo hi : Int} {M : List MO} {N : Rho → List MO → Prop}
    (B : Fb (gmPx W ["_law_part", "_law_thing", "_law_least", "_law_most", "_law_is_good", "_law_k"] (defScope (top 78)) (k + 1) EX px)) (act : Act1 (gmPx W ["_law_part", "_law_thing", "_law_least", "_law_most", "_law_is_good", "_law_k"] (defScope (top 78)) (k + 1) EX px) B.F 4 "_law_is_good" fl good xs.length)
    (h1 : B.Rt (.d (faultD (listFault part xs.length lo hi good))) M) :
    DS (gmPx W ["_law_part", "_law_thing", "_law_least", "_law_most", "_law_is_good", "_law_k"] (defScope (top 78)) (k + 1) EX px) B (startR ["_law_part", "_law_thing", "_law_least", "_law_most", "_law_is_good", "_law_k"] ([.d (.str part), .d (.tuple xs), .d (.int lo), .d (.int hi)] ++ [.v (.ref fl)])) M (defBody (top 78)) N := by
  refine ds_cons (s_if (dt_t (XT.is (xt_or2 (xt_not (xt_v (xd_isi b.isinstance b.tuple bt_tuple (xv 1 rfl rfl) (kit_t _)))) fun _ => xt_not (xt_chain (xv 2 rfl rfl) (xd_callB boot_len b.len (xds_cons (xv 1 rfl rfl) xds_nil) of_lenT) (xv 3 rfl rfl) oc_le oc_le)) (rfl : _ = !(decide (lo ≤ (xs.length : Int)) && decide ((xs.length : Int) ≤ hi)))) ⟨fun h => ?_, fun h => ?_⟩))
  · refine ds_one (s_ret (dx_d (xd_tup (xds_cons (xv 0 rfl rfl) (xds_cons xd_n xds_nil))) ?_))
    unfold listFault at h1
    rw [if_neg (by
      intro z
      rw [z] at h
      cases h)] at h1
    exact h1
  · have hin : (decide (lo ≤ (xs.length : Int)) && decide ((xs.length : Int) ≤ hi)) = true := by simpa using h
    refine ds_nil (ds_cons (s_for (di_range b.range (dx_d (xd_callB boot_len b.len (xds_cons (xv 1 rfl rfl) xds_nil) of_lenT) ⟨xs.length, rfl, hz, fun i ρ' M' => ∃ x5, (∀ j, j < i → good j = true) ∧ M' = M ∧ ρ' = [some (.d (.str part)), some (.d (.tuple xs)), some (.d (.int lo)), some (.d (.int hi)), some (.v (.ref fl)), x5], ?_, ?_, ?_⟩))))
    · exact ⟨_, fun j hj => absurd hj (Nat.not_lt_zero _), rfl, rfl⟩
    · rintro i d ρ1 M2 hd ⟨x5, hg, rfl, rfl⟩
      obtain ⟨hi', rfl⟩ := nats_get hd
      refine ⟨_, _, tg_name (i := 5) rfl, ?_⟩
      refine ds_one (s_if (dt_not (dt_v (act _ _ _ i _ _ _ (by intro _ _; rfl) rfl (xv 5 rfl rfl) hi' ⟨_, rfl, fun h => ?_, fun h => ?_⟩))))
      · have hb : good i = false := by simpa using h
        refine ds_one (s_ret (dx_d (xd_tup (xds_cons (xv 0 rfl rfl) (xds_cons (xv 5 rfl rfl) xds_nil))) ?_))
        unfold listFault at h1
        rw [if_pos hin, firstBad_some hi' hb hg] at h1
        exact h1
      · have hb : good i = true := by simpa using h
        refine ds_nil ⟨_, fun j hj => ?_, rfl, rfl⟩
        by_cases e : j = i
        · rw [e]
          exact hb
        · exact hg j (by omega)
    · rintro ρ1 M2 ⟨x5, hg, rfl, rfl⟩
      refine ds_one (s_ret (dx_d xd_n ?_))
      unfold listFault at h1
      rw [if_pos hin, firstBad_none fun j hj => hg j (by simpa using hj)] at h1
      exact h1
theorem nonD_fault (f : Option (Str × Option Nat)) : nonD (faultD f) = f.isNone := by
  cases f with
  | none => rfl
  | some x =>
    obtain ⟨p, n⟩ := x
    rfl
theorem ok_law_rack_fault (b : Bl W) {c Pt : Addr} (t : DgC W "_law_rack_fault" 80 c Pt) (tl : Dg W "_law_list_fault" 78) (f1 : Fk W 1 "_law_is_int" ["_law_thing", "_law_least", "_law_most"] (spD W.K 3 RWhole)) (f2 : Fk W 2 "_law_is_row" ["_law_thing", "_law_many", "_law_most"] (spD W.K 3 RRowS))
    (f3 : Fk W 3 "_law_is_cable" ["_law_boxes", "_law_some_here", "_law_k"] (spD W.K 3 RCable)) (f4 : Fk W 2 "_law_has_ring" ["_law_cables"] (spD W.K 1 RRing)) (f5 : Fk W 3 "_law_is_loop" ["_law_names", "_law_boxes", "_law_cables", "_law_some_here", "_law_k"] (spD W.K 5 RLoop)) :
    Fk W 6 "_law_rack_fault" ["_law_thing"] (spM W 1 (RFault Pt)) :=
  t.fm (N := ["_law_thing", "_law_found", "_law_cables", "_law_lags", "_law_loops", "_law_names", "_law_k"]) ⟨rfl, rfl, rfl, by decide +kernel, rfl, by decide +kernel, by decide +kernel⟩ (fun _ _ _ _ _ _ us hl => match us, hl with | [_], _ => rfl) rfl fun TB E B zs M P PX hF hRt hPX hl hR => by
    obtain ⟨r, tt, rfl, hM, hoM, hz, hok⟩ := hR
    obtain ⟨fl, fdl, Fl, hgl⟩ := tl
    have bl : Binds W.K fdl ["_law_part", "_law_thing", "_law_least", "_law_most", "_law_is_good"] [] := binds_of Fl (fun _ _ _ _ _ _ us hl => match us, hl with | [_, _, _, _, _], _ => rfl)
    have Sl : FnScope ["_law_part", "_law_thing", "_law_least", "_law_most", "_law_is_good", "_law_k"] ["_law_part", "_law_thing", "_law_least", "_law_most", "_law_is_good"] (defScope (top 78)) := ⟨rfl, rfl, rfl, by decide +kernel, rfl, by decide +kernel, by decide +kernel⟩
    obtain ⟨m, bs, cs, ls⟩ := r
    have stay : ∀ {Q : List MO → Prop}, Q M → okM M.length (M.take M.length) ∧ Q (M.take M.length) := fun {Q} h => by
      rw [List.take_length]
      exact ⟨hoM, h⟩
    have done : ∀ f, lawFault ⟨m, bs, cs, ls⟩ = f → B.Rt (.d (faultD f)) M := fun f e => by
      rw [hRt]
      subst e
      exact ⟨trivial, stay (Q := P _) hok⟩
    have nse : ∀ e1 e2 e3 e4 : Expr, NS e1 → NS e2 → NS e3 → NS e4 → ∀ e ∈ [e1, e2, e3, e4], NS e := fun e1 e2 e3 e4 h1 h2 h3 h4 e he => by
      simp only [List.mem_cons, List.not_mem_nil, or_false] at he
      rcases he with rfl | rfl | rfl | rfl
      · exact h1
      · exact h2
      · exact h3
      · exact h4
    refine ds_cons (s_if (dt_t (XT.is (xt_or2 (xt_not (xt_v (xd_isi b.isinstance b.tuple bt_tuple (xv 0 rfl rfl) (kit_t _)))) fun _ => xt_cmp (xd_callB boot_len b.len (xds_cons (xv 0 rfl rfl) xds_nil) of_lenT) xd_i oc_neI) (rfl : _ = false)) ⟨fun h => (by cases h), fun _ => ds_nil ?_⟩))
    refine ds_cons (s_asgTg (dx_d (xv 0 rfl rfl) ⟨_, _, _, rfl, tg_tup (tgs_cons (tg_name (i := 5) rfl) (tgs_cons (tg_name (i := 3) rfl) (tgs_cons (tg_name (i := 2) rfl) (tgs_cons (tg_name (i := 4) rfl) tgs_nil)))), ?_⟩))
    refine ds_cons (s_if (dt_t (xt_not (xt_v (xd_call f1 (xds_cons (xv 5 rfl rfl) (xds_cons xd_i (xds_cons xd_i xds_nil))) ⟨_, _, _, rfl, rfl⟩))) ⟨fun h => ?_, fun h => ds_nil ?_⟩))
    · have h' : wholeD (.int m) 1 4 = false := by simpa using h
      exact ds_one (s_ret (dx_d (xd_tup (xds_cons xd_s (xds_cons xd_n xds_nil))) (done (some ("names", none)) (by rw [lawFault, if_pos h']))))
    have hnm : wholeD (.int m) 1 4 = true := by simpa using h
    generalize hf1 : listFault "boxes" bs.length 1 8 (boxOk ⟨m, bs, cs, ls⟩) = g1
    have fault1 : lawFault ⟨m, bs, cs, ls⟩ = orElse g1 (orElse (listFault "cables" cs.length 0 14 (cabOk bs.length cs))
        (if hasRing cs = true then (some ("ring", none) : Option (Str × Option Nat)) else listFault "loops" ls.length 0 3 (looOk m bs.length cs ls))) := by
      rw [lawFault, if_neg (by rw [hnm]; simp), ← hf1]
    -- the boxes
    refine ds_cons (s_asg (i := 1) rfl (dx_lam1 (k := 3) (i := 4) (j := 6) (t := tt) (n := bs.length) (good := boxOk ⟨m, bs, cs, ls⟩) (PX := fun _ _ => False) [_, _, _, _] rfl (nse _ _ _ _ (fun _ _ => rfl) (fun _ _ => rfl) (fun _ _ => rfl) (fun _ _ => rfl)) Fl hgl bl Sl (by kernel_rfl) (fun _ => rfl) (fun _ _ _ _ _ _ => rfl) rfl (by kernel_rfl) (fun X h => h) TB rfl rfl (.inl rfl) ⟨E, rfl⟩ (fun _ _ _ _ _ _ _ _ _ _ _ _ _ z => z.elim) rfl
      (dxc_cons (dx_d xd_s (dxc_cons (dx_d (xv 3 rfl rfl) (dxc_cons (dx_d xd_i (dxc_cons (dx_d xd_i (dxc_nil ⟨rfl, hM, fun l hl => ?_, fun EX px' fv B' hF' hRt' hPX' act => body_list_fault b (by rw [List.length_map]; have := hz.b; show bs.length ≤ _; exact Nat.le_trans this (by decide)) B' (by rw [List.length_map]; exact act) ?_⟩)))))))))))
    · have e : (bs.map intsD)[l]? = some (intsD (bs.getD l [])) := by
        rw [List.getElem?_map, List.getD_eq_getElem?_getD, List.getElem?_eq_getElem hl]
        rfl
      have hb : (bs.getD l []).length ≤ 40000 := hz.bb _ (by
        rw [List.getD_eq_getElem?_getD, List.getElem?_eq_getElem hl]
        exact List.getElem_mem hl)
      exact XD.is (xd_call f2 (xds_cons (xd_ix (xv 3 rfl rfl) (xv 6 rfl rfl) (oi_T (atI_nat e))) (xds_cons (xv 5 rfl rfl) (xds_cons xd_i xds_nil))) (rrow_ints hb)) rfl
    rw [List.length_map, hf1, hRt']
    refine ⟨trivial, stay (Q := fun M1 => DS _ B _ M1 _ _) ?_⟩
    have lenB : ∀ {Γ : Gm} {ρ : Rho} {e : Expr}, XD Γ ρ e (.int ((bs.map intsD).length : Nat)) → XD Γ ρ e (.int (bs.length : Nat)) := fun h => XD.is h (by rw [List.length_map])
    -- the cables
    refine ds_cons (s_if (dt_t (XT.is (xt_cmp (xv 1 rfl rfl) xd_n oc_isN) (nonD_fault _)) ⟨fun h => ?_, fun h => ?_⟩))
    · have e1 : g1 = none := by
        cases g1 with
        | none => rfl
        | some x => cases h
      subst e1
      have hb8 : (1 : Int) ≤ (bs.length : Int) ∧ (bs.length : Int) ≤ 8 := listFault_in hf1
      generalize hf2 : listFault "cables" cs.length 0 14 (cabOk bs.length cs) = g2 at fault1
      refine ds_one (s_asg (i := 1) rfl (dx_lam1 (k := 3) (i := 4) (j := 6) (t := tt) (n := cs.length) (good := cabOk bs.length cs) (PX := fun _ _ => False) [_, _, _, _] rfl (nse _ _ _ _ (fun _ _ => rfl) (fun _ _ => rfl) (fun _ _ => rfl) (fun _ _ => rfl)) Fl hgl bl Sl (by kernel_rfl) (fun _ => rfl) (fun _ _ _ _ _ _ => rfl) rfl (by kernel_rfl) (fun X h => h) TB rfl rfl (.inl rfl) ⟨E, rfl⟩ (fun _ _ _ _ _ _ _ _ _ _ _ _ _ z => z.elim) rfl
        (dxc_cons (dx_d xd_s (dxc_cons (dx_d (xv 2 rfl rfl) (dxc_cons (dx_d xd_i (dxc_cons (dx_d xd_i (dxc_nil ⟨rfl, hM, fun l hl => ?_, fun EX px' fv B' hF' hRt' hPX' act => body_list_fault b (by rw [List.length_map]; have := hz.c; show cs.length ≤ _; exact Nat.le_trans this (by decide)) B' (by rw [List.length_map]; exact act) ?_⟩)))))))))))
      · have e : cs[l]? = some cs[l] := List.getElem?_eq_getElem hl
        exact XD.is (xd_call f3 (xds_cons (lenB (xd_callB boot_len b.len (xds_cons (xv 3 rfl rfl) xds_nil) of_lenT)) (xds_cons (xv 2 rfl rfl) (xds_cons (xv 6 rfl rfl) xds_nil))) ⟨_, _, _, _, rfl, e, hz.ck _ (List.getElem_mem hl), rfl⟩) rfl
      rw [List.length_map, hf2, hRt']
      refine ⟨trivial, stay (Q := fun M1 => DS _ B _ M1 _ _) ?_⟩
      -- the ring
      have hc14 : g2 = none → cs.length ≤ 50 := fun e => by
        rw [e] at hf2
        have := (listFault_in hf2).2
        omega
      refine ds_cons (s_if (dt_and2 (dt_t (XT.is (xt_cmp (xv 1 rfl rfl) xd_n oc_isN) (nonD_fault _)) ⟨fun h2 => ?_, fun h2 => ?_⟩)))
      · have e2 : g2 = none := by
          cases g2 with
          | none => rfl
          | some x => cases h2
        subst e2
        refine dt_t (xt_v (xd_call f4 (xds_cons (xv 2 rfl rfl) xds_nil) ⟨_, rfl, hc14 rfl, hz.ck, rfl⟩)) ⟨fun h3 => ?_, fun h3 => ?_⟩
        · have h3' : hasRing cs = true := h3
          refine ds_one (s_asg (i := 1) rfl (dx_d (xd_tup (xds_cons xd_s (xds_cons xd_n xds_nil))) ?_))
          refine ds_cons (s_if (dt_t (XT.is (xt_cmp (xv 1 rfl rfl) xd_n oc_isN) (nonD_fault (some ("ring", none)))) ⟨fun h => (by cases h), fun _ => ds_nil ?_⟩))
          exact ds_one (s_ret (dx_d (xv 1 rfl rfl) (done (some ("ring", none)) (by rw [fault1, if_pos h3']; rfl))))
        · have h3' : ¬ (hasRing cs = true) := by
            rw [show hasRing cs = false from h3]
            simp
          refine ds_nil (ds_cons (s_if (dt_t (XT.is (xt_cmp (xv 1 rfl rfl) xd_n oc_isN) (rfl : _ = true)) ⟨fun _ => ?_, fun h => (by cases h)⟩)))
          generalize hf3 : listFault "loops" ls.length 0 3 (looOk m bs.length cs ls) = g3 at fault1
          refine ds_one (s_asg (i := 1) rfl (dx_lam1 (k := 3) (i := 4) (j := 6) (t := tt) (n := ls.length) (good := looOk m bs.length cs ls) (PX := fun _ _ => False) [_, _, _, _] rfl (nse _ _ _ _ (fun _ _ => rfl) (fun _ _ => rfl) (fun _ _ => rfl) (fun _ _ => rfl)) Fl hgl bl Sl (by kernel_rfl) (fun _ => rfl) (fun _ _ _ _ _ _ => rfl) rfl (by kernel_rfl) (fun X h => h) TB rfl rfl (.inl rfl) ⟨E, rfl⟩ (fun _ _ _ _ _ _ _ _ _ _ _ _ _ z => z.elim) rfl
            (dxc_cons (dx_d xd_s (dxc_cons (dx_d (xv 4 rfl rfl) (dxc_cons (dx_d xd_i (dxc_cons (dx_d xd_i (dxc_nil ⟨rfl, hM, fun l hl => ?_, fun EX px' fv B' hF' hRt' hPX' act => body_list_fault b (by rw [List.length_map]; have := hz.l; show ls.length ≤ _; exact Nat.le_trans this (by decide)) B' (by rw [List.length_map]; exact act) ?_⟩)))))))))))
          · have e : ls[l]? = some ls[l] := List.getElem?_eq_getElem hl
            exact XD.is (xd_call f5 (xds_cons (xv 5 rfl rfl) (xds_cons (lenB (xd_callB boot_len b.len (xds_cons (xv 3 rfl rfl) xds_nil) of_lenT)) (xds_cons (xv 2 rfl rfl) (xds_cons (xv 4 rfl rfl) (xds_cons (xv 6 rfl rfl) xds_nil))))) ⟨_, _, _, _, _, _, rfl, e, hz.ll _ (List.getElem_mem hl), hc14 rfl, rfl⟩) rfl
          rw [List.length_map, hf3, hRt']
          refine ⟨trivial, stay (Q := fun M1 => DS _ B _ M1 _ _) ?_⟩
          exact ds_one (s_ret (dx_d (xv 1 rfl rfl) (done g3 (by rw [fault1, if_neg h3']; rfl))))
      · cases g2 with
        | none => cases h2
        | some x =>
          obtain ⟨p, n⟩ := x
          refine ⟨fun h => (by cases h), fun _ => ds_nil ?_⟩
          refine ds_cons (s_if (dt_t (XT.is (xt_cmp (xv 1 rfl rfl) xd_n oc_isN) (nonD_fault (some (p, n)))) ⟨fun h => (by cases h), fun _ => ds_nil ?_⟩))
          exact ds_one (s_ret (dx_d (xv 1 rfl rfl) (done (some (p, n)) (by rw [fault1]; rfl))))
    · cases g1 with
      | none => cases h
      | some x =>
        obtain ⟨p, n⟩ := x
        refine ds_nil (ds_cons (s_if (dt_and2 (dt_t (XT.is (xt_cmp (xv 1 rfl rfl) xd_n oc_isN) (nonD_fault (some (p, n)))) ⟨fun h => (by cases h), fun _ => ⟨fun h => (by cases h), fun _ => ds_nil ?_⟩⟩))))
        refine ds_cons (s_if (dt_t (XT.is (xt_cmp (xv 1 rfl rfl) xd_n oc_isN) (nonD_fault (some (p, n)))) ⟨fun h => (by cases h), fun _ => ds_nil ?_⟩))
        exact ds_one (s_ret (dx_d (xv 1 rfl rfl) (done (some (p, n)) (by rw [fault1]; rfl))))
end
end Ev
namespace Ev
open PySem PySem.Spec PyProof.Rows L2 Evl
/-! ### objects of a class of the text -/
def putD (f : Str) (v : PyData) : List (Str × PyData) → List (Str × PyData)
  | [] => [(f, v)]
  | (g, x) :: r => if g = f then (g, v) :: r else (g, x) :: putD f v r
def Par (K : Kf) (A : Hp) (gs : List (Str × V)) (fs : List (Str × PyData)) : Prop := gs.map (·.1) = fs.map (·.1) ∧ DpAll K A (gs.map (·.2)) (fs.map (·.2))
theorem par_look {K : Kf} {A : Hp} {f : Str} {d : PyData} : ∀ {gs : List (Str × V)} {fs : List (Str × PyData)}, Par K A gs fs → fs.lookup f = some d → ∃ v, gs.lookup f = some v ∧ Dp K A v d
  | [], [], _, h => by cases h
  | [], _ :: _, p, _ => by cases p.1
  | _ :: _, [], p, _ => by cases p.1
  | (g, x) :: gs, (g', y) :: fs, p, h => by
    obtain ⟨p1, p2⟩ := p
    simp only [List.map_cons, List.cons.injEq] at p1
    obtain ⟨e, p1⟩ := p1
    have e : g = g' := e
    subst e
    have p2 : DpAll K A (x :: gs.map (·.2)) (y :: fs.map (·.2)) := p2
    cases p2 with
    | cons h1 h2 =>
      rw [List.lookup_cons] at h ⊢
      cases q : f == g with
      | true =>
        rw [q] at h
        cases h
        exact ⟨x, rfl, h1⟩
      | false =>
        rw [q] at h
        exact par_look ⟨p1, h2⟩ h
theorem par_none {K : Kf} {A : Hp} {f : Str} : ∀ {gs : List (Str × V)} {fs : List (Str × PyData)}, Par K A gs fs → fs.lookup f = none → gs.lookup f = none
  | [], [], _, h => rfl
  | [], _ :: _, p, _ => by cases p.1
  | _ :: _, [], p, _ => by cases p.1
  | (g, x) :: gs, (g', y) :: fs, p, h => by
    obtain ⟨p1, p2⟩ := p
    simp only [List.map_cons, List.cons.injEq] at p1
    obtain ⟨e, p1⟩ := p1
    have e : g = g' := e
    subst e
    have p2 : DpAll K A (x :: gs.map (·.2)) (y :: fs.map (·.2)) := p2
    cases p2 with
    | cons h1 h2 =>
      rw [List.lookup_cons] at h ⊢
      cases q : f == g with
      | true =>
        rw [q] at h
        cases h
      | false =>
        rw [q] at h
        exact par_none ⟨p1, h2⟩ h
theorem par_put {K : Kf} {A : Hp} {f : Str} {d : PyData} {v : V} (hv : Dp K A v d) : ∀ {gs : List (Str × V)} {fs : List (Str × PyData)}, Par K A gs fs → Par K A (putF f v gs) (putD f d fs)
  | [], [], _ => ⟨rfl, .cons hv .nil⟩
  | [], _ :: _, p => by cases p.1
  | _ :: _, [], p => by cases p.1
  | (g, x) :: gs, (g', y) :: fs, p => by
    obtain ⟨p1, p2⟩ := p
    simp only [List.map_cons, List.cons.injEq] at p1
    obtain ⟨e, p1⟩ := p1
    have e : g = g' := e
    subst e
    have p2 : DpAll K A (x :: gs.map (·.2)) (y :: fs.map (·.2)) := p2
    cases p2 with
    | cons h1 h2 =>
      rw [putF, putD]
      by_cases q : g = f
      · rw [if_pos q, if_pos q]
        exact ⟨by simp [p1], .cons hv h2⟩
      · rw [if_neg q, if_neg q]
        obtain ⟨i1, i2⟩ := par_put hv ⟨p1, h2⟩
        exact ⟨by simp [i1], .cons h1 i2⟩
theorem Par.len {K : Kf} {A : Hp} {gs : List (Str × V)} {fs : List (Str × PyData)} (p : Par K A gs fs) : gs.length = fs.length := by
  have := congrArg List.length p.1
  simpa using this
def Mt (W : Wd) (C : Addr) (k : Nat) (m : Str) (ps : List Str) (sp : Sp) : Prop := ∃ f fd, Cls W.K C ∧ Meth W.K C m f ∧ Binds W.K fd ps [] ∧ FnOk W.P W.w W.K W.mg W.base (L2.CX W.P W.w) k f fd ps sp
def Mki (W : Wd) (x : Str) (C : Addr) (k : Nat) (ps : List Str) (sp : Sp) : Prop := ∃ f fd, W.mg x = some (.ref C) ∧ Mk W.K C f ∧ Binds W.K fd ps [] ∧ FnOk W.P W.w W.K W.mg W.base (L2.CX W.P W.w) k f fd ps sp
section
variable {Γ : Gm} {B : Fb Γ} {F : Fm} {ρ : Rho} {M : List MO} {e : Expr} {es : List Expr} {P : SV → List MO → Prop} {N : Rho → List MO → Prop} {pos p px ap tp : Pos} {x f m : Str} {i j : Nat} {C : Addr}
theorem obj_at {K : Kf} {A H : Hp} {ps : List Addr} {q : Addr} {fs : List (Str × PyData)} (h : MoOk K A H ps q (.obj C fs)) : ∃ dx gs, H q = some (.ins C dx gs) ∧ H dx = some (.own q) ∧ Par K A gs fs := by
  obtain ⟨dx, gs, h1, h2, h3, h4⟩ := h
  exact ⟨dx, gs, h1, h2, h3, h4⟩
/-- x.f -/
theorem dx_fld {fs : List (Str × PyData)} {d : PyData} (c : Cls Γ.W.K C) (na : NoAttr Γ.W.K C f) (hN : Γ.N[i]? = some x) (hr : ρ[i]? = some (some (.r j))) (hm : M[j]? = some (.obj C fs)) (hl : fs.lookup f = some d) (h : P (.d d) M)
    (hb : ∀ env, attributeBase (.Name x px) f env (eval (.Name x px) env) = eval (.Name x px) env := by intro _; rfl) (hv : Vis Γ.sc x := by first | exact Or.inl rfl | exact Or.inr (Or.inl rfl) | exact Or.inr (Or.inr rfl)) (hd : (x == ("__debug__" : Str)) = false := by decide) (hcd : (x == ("__classdict__" : Str)) = false := by decide) :
    DX Γ F ρ M (.Attribute (.Name x px) f pos) P := fun A H σ ps E Q q => by
  obtain ⟨a, h1, h2⟩ := E.rs.1 i j hr
  obtain ⟨g1, g2, g3⟩ := E.ms.mo j _ a hm h1
  obtain ⟨dx, gs, k1, k2, k3⟩ := obj_at g2
  obtain ⟨v, v1, v2⟩ := par_look k3 hl
  exact WG.of (te := tFld Γ.W.K (tVar i) f) (fun X hX => hX.K ▸ pe_fld (var_of hX hN hv hd hcd) (hb X.env)) ⟨_, h2, a, C, dx, gs, v, rfl, k1, c, na, v1, q v (.d d) A H M ps .refl E v2 h⟩
theorem noHit_ins {C dx : Addr} {gs : List (Str × V)} : noHit (.ins C dx gs) := ⟨(fun q z => by cases z), fun φ z => by cases z⟩
/-- x.f = e -/
theorem s_fld (c : Cls Γ.W.K C) (na : NoAttr Γ.W.K C f) (hN : Γ.N[i]? = some x) (hr : ρ[i]? = some (some (.r j))) (h : DX Γ B.F ρ M e fun z M1 => ∃ d fs, z = .d d ∧ M1[j]? = some (.obj C fs) ∧ fs.length < 1000 ∧ N ρ (M1.set j (.obj C (putD f d fs))))
    (hs : ∀ env, swapsWith e (some (.Attribute (.Name x px) f tp)) pos.line env = pure false := by intro _; rfl) (hv : Vis Γ.sc x := by first | exact Or.inl rfl | exact Or.inr (Or.inl rfl) | exact Or.inr (Or.inr rfl)) (hd : (x == ("__debug__" : Str)) = false := by decide) (hcd : (x == ("__classdict__" : Str)) = false := by decide) :
    DS1 Γ B ρ M (.Assign [.Attribute (.Name x px) f tp] e pos) N := fun A H σ ps E D hD k =>
  WGs.of (ts := sFld Γ.W.K (tVar i) (WG Γ e) f) (fun X hX => hX.K ▸ ps_fld (var_of hX hN hv hd hcd) (pe_wg hX) (hs X.env)) (h A H σ ps E _ fun v z A1 H1 M1 ps1 e1 E1 r ⟨d, fs, hz, hm, hl, n⟩ => by
    subst hz
    obtain ⟨a, h1, h2⟩ := E1.rs.1 i j hr
    obtain ⟨g1, g2, g3⟩ := E1.ms.mo j _ a hm h1
    obtain ⟨dx, gs, k1, k2, k3⟩ := obj_at g2
    refine ⟨_, h2, a, C, dx, gs, rfl, k1, c, na, by rw [k3.len]; exact hl, k A1 _ σ ρ _ ps1 e1 (E1.mut (m := .obj C (putD f d fs)) hm rfl h1 k1 noHit_ins ?_) n⟩
    obtain ⟨p1, p2⟩ := par_put (f := f) r k3
    refine ⟨dx, _, upd_same, ?_, p1, p2⟩
    rw [upd_ne]
    · exact k2
    · intro e
      rw [e, k1] at k2
      cases k2)
/-- x.f += k, of a whole number -/
theorem s_fldinc (c : Cls Γ.W.K C) (na : NoAttr Γ.W.K C f) (hN : Γ.N[i]? = some x) (hr : ρ[i]? = some (some (.r j))) {fs : List (Str × PyData)} {n0 n1 : Int} (hm : M[j]? = some (.obj C fs)) (hl : fs.lookup f = some (.int n0)) (he : XD Γ ρ e (.int n1)) (hz : fs.length < 1000) (h : N ρ (M.set j (.obj C (putD f (.int (n0 + n1)) fs))))
    (hv : Vis Γ.sc x := by first | exact Or.inl rfl | exact Or.inr (Or.inl rfl) | exact Or.inr (Or.inr rfl)) (hd : (x == ("__debug__" : Str)) = false := by decide) (hcd : (x == ("__classdict__" : Str)) = false := by decide) :
    DS1 Γ B ρ M (.AugAssign (.Attribute (.Name x px) f tp) .Add e pos) N := fun A H σ ps E D hD k => by
  obtain ⟨a, h1, h2⟩ := E.rs.1 i j hr
  obtain ⟨g1, g2, g3⟩ := E.ms.mo j _ a hm h1
  obtain ⟨dx, gs, k1, k2, k3⟩ := obj_at g2
  obtain ⟨v, v1, v2⟩ := par_look k3 hl
  have ev := dp_int v2
  subst ev
  refine WGs.of (ts := sFldAug Γ.W.K (tVar i) (WG Γ e) rAdd f) (fun X hX => hX.K ▸ ps_fldaug (var_of hX hN hv hd hcd) (pe_wg hX) in_add) ⟨_, h2, a, C, dx, gs, _, rfl, k1, c, na, v1, (he σ A E.sl).run E.ah fun w A1 H1 gw hw => ?_⟩
  have ew := dp_int hw
  subst ew
  have E1 := E.step gw
  obtain ⟨g4, g5, g6⟩ := E1.ms.mo j _ a hm h1
  obtain ⟨dx', gs', k4, k5, k6⟩ := obj_at g5
  refine ⟨_, _, rfl, rfl, dx', gs', k4, by rw [k6.len]; exact hz, k A1 _ σ ρ _ ps (.of gw.a) (E1.mut (m := .obj C (putD f (.int (n0 + n1)) fs)) hm rfl h1 k4 noHit_ins ?_) h⟩
  obtain ⟨p1, p2⟩ := par_put (f := f) (v := .int (n0 + n1)) (d := .int (n0 + n1)) (.int _) k6
  refine ⟨dx', _, upd_same, ?_, p1, p2⟩
  rw [upd_ne]
  · exact k5
  · intro e
    rw [e, k4] at k5
    cases k5
/-- x.m(e, ..) -/
theorem dx_meth {k n : Nat} {qs : List Str} {R : MR} {PX : Xc → List MO → Prop} {fs : List (Str × PyData)} (Fn : Mt Γ.W C k m qs (spM Γ.W (n + 1) R)) (hX : Γ.ew.isSome = true ∨ PX = fun _ _ => False) (hx : Xok Γ F PX) (hN : Γ.N[i]? = some x) (hr : ρ[i]? = some (some (.r j))) (hm : M[j]? = some (.obj C fs)) (hl : fs.lookup m = none) (ha : DXs Γ F ρ M (e :: es) fun zs M1 => zs.length = n ∧ R (.r j :: zs) M1 P PX)
    (hk : Nat.ble k Γ.k = true := by rfl) (ne : NS e := by intro _ _; rfl) (ns : NSs es := by intro _ _; rfl)
    (ht : ∀ env, ∃ pl, eval (.Call (.Attribute (.Name x px) m ap) (e :: es) [] pos) env = (do let ov ← eval (.Name x px) env; standAt ap.atName; let (f, first) ← holding [ov] (getMethod ov m pl); callWith pos f first (backTo pos (starEach (e :: es) env)) (backToKw pos (keywordEach [] env))) := by intro _; exact ⟨_, rfl⟩)
    (hv : Vis Γ.sc x := by first | exact Or.inl rfl | exact Or.inr (Or.inl rfl) | exact Or.inr (Or.inr rfl)) (hd : (x == ("__debug__" : Str)) = false := by decide) (hcd : (x == ("__classdict__" : Str)) = false := by decide) :
    DX Γ F ρ M (.Call (.Attribute (.Name x px) m ap) (e :: es) [] pos) P := fun A H σ qa E Q q => by
  obtain ⟨g, fd, h1, h2, h3, h4⟩ := Fn
  obtain ⟨a, b1, b2⟩ := E.rs.1 i j hr
  obtain ⟨c1, c2, c3⟩ := E.ms.mo j _ a hm b1
  obtain ⟨dx, gs, k1, k2, k3⟩ := obj_at c2
  have fin : ∀ (EX : XK), (∀ X, Has Γ X → Passes (L2.CX X.prog X.w) X EX) → (∀ A1 H1 M1 ps1 c d x, En Γ.W.K F A1 H1 σ ρ M1 ps1 → XcIs Γ.W A1 H1 x c d → PX x M1 → EX c d H1) → WG Γ (.Call (.Attribute (.Name x px) m ap) (e :: es) [] pos) σ H Q := fun EX pX hXX => by
    refine WG.of (te := tMeth C m (spM Γ.W (n + 1) R) [] EX (tVar i) (WGa Γ (e :: es))) (fun X h => by
      obtain ⟨u1, u2, u3, u4, u5⟩ : X.prog = Γ.W.P ∧ X.w = Γ.W.w ∧ X.K = Γ.W.K ∧ X.mg = Γ.W.mg ∧ X.base = Γ.W.base := ⟨h.prog, h.w, h.K, h.mg, h.base⟩
      obtain ⟨pl, hp⟩ := ht X.env
      exact pe_meth (pl := pl) (CX := L2.CX X.prog X.w) (E := EX) (dvs := []) (ds := []) (fd := fd) (ps := qs) (var_of h hN hv hd hcd) (by rw [u3]; exact h1) (by rw [u3]; exact h2) (by rw [u1, u2, u3, u4, u5]; exact h4) (h.room.mono (Nat.le_of_ble_eq_true hk)) (by rw [u3]; exact h3) .nil (pX X h) (pa_wg h) (ne es X.env) (ns pos X.env) hp) ⟨_, b2, a, dx, gs, rfl, k1, par_none k3 hl, ha A H σ qa E _ fun vs zs A1 H1 M1 ps1 e1 E1 rs ⟨hl, hR⟩ => ?_⟩
    rw [List.append_nil]
    exact ⟨A1, ps1, .r j :: zs, M1, P, PX, by rw [List.length_cons, hl], E1.ah, E1.ms, .cons ⟨a, e1.at b1, rfl⟩ rs, hR, fun v z A2 H2 M2 x m r p => q v z A2 H2 M2 ps1 (e1.trans (.of x.aa)) (E1.after x m) r p, fun x A2 H2 M2 c d fx m xi px => hXX A2 H2 M2 ps1 c d x (E1.after fx m) xi px⟩
  rcases hX with hX | hX
  · obtain ⟨EX, hEX⟩ := Option.isSome_iff_exists.mp hX
    exact fin EX (fun X h => passes_call (h.tk EX hEX) fun _ _ _ _ z => z) fun A1 H1 M1 ps1 c d x E1 xi px => hx EX hEX A1 H1 σ ρ M1 ps1 x c d E1 xi px
  · subst hX
    exact fin E0 (fun X h => passL) fun _ _ _ _ _ _ _ _ _ z => z.elim
/-- x.m() -/
theorem dx_meth0 {k : Nat} {qs : List Str} {R : MR} {PX : Xc → List MO → Prop} {fs : List (Str × PyData)} (Fn : Mt Γ.W C k m qs (spM Γ.W 1 R)) (hX : Γ.ew.isSome = true ∨ PX = fun _ _ => False) (hx : Xok Γ F PX) (hN : Γ.N[i]? = some x) (hr : ρ[i]? = some (some (.r j))) (hm : M[j]? = some (.obj C fs)) (hl : fs.lookup m = none) (ha : R [.r j] M P PX)
    (hk : Nat.ble k Γ.k = true := by rfl)
    (ht : ∀ env, ∃ pl, eval (.Call (.Attribute (.Name x px) m ap) [] [] pos) env = (do let ov ← eval (.Name x px) env; standAt ap.atName; let (f, first) ← holding [ov] (getMethod ov m pl); callWith pos f first (backTo pos (starEach [] env)) (backToKw pos (keywordEach [] env))) := by intro _; exact ⟨_, rfl⟩)
    (hv : Vis Γ.sc x := by first | exact Or.inl rfl | exact Or.inr (Or.inl rfl) | exact Or.inr (Or.inr rfl)) (hd : (x == ("__debug__" : Str)) = false := by decide) (hcd : (x == ("__classdict__" : Str)) = false := by decide) :
    DX Γ F ρ M (.Call (.Attribute (.Name x px) m ap) [] [] pos) P := fun A H σ qa E Q q => by
  obtain ⟨g, fd, h1, h2, h3, h4⟩ := Fn
  obtain ⟨a, b1, b2⟩ := E.rs.1 i j hr
  obtain ⟨c1, c2, c3⟩ := E.ms.mo j _ a hm b1
  obtain ⟨dx, gs, k1, k2, k3⟩ := obj_at c2
  have fin : ∀ (EX : XK), (∀ X, Has Γ X → Passes (L2.CX X.prog X.w) X EX) → (∀ A1 H1 M1 ps1 c d x, En Γ.W.K F A1 H1 σ ρ M1 ps1 → XcIs Γ.W A1 H1 x c d → PX x M1 → EX c d H1) → WG Γ (.Call (.Attribute (.Name x px) m ap) [] [] pos) σ H Q := fun EX pX hXX => by
    refine WG.of (te := tMeth C m (spM Γ.W 1 R) [] EX (tVar i) tNil) (fun X h => by
      obtain ⟨u1, u2, u3, u4, u5⟩ : X.prog = Γ.W.P ∧ X.w = Γ.W.w ∧ X.K = Γ.W.K ∧ X.mg = Γ.W.mg ∧ X.base = Γ.W.base := ⟨h.prog, h.w, h.K, h.mg, h.base⟩
      obtain ⟨pl, hp⟩ := ht X.env
      exact pe_meth0 (pl := pl) (CX := L2.CX X.prog X.w) (E := EX) (dvs := []) (ds := []) (fd := fd) (ps := qs) (var_of h hN hv hd hcd) (by rw [u3]; exact h1) (by rw [u3]; exact h2) (by rw [u1, u2, u3, u4, u5]; exact h4) (h.room.mono (Nat.le_of_ble_eq_true hk)) (by rw [u3]; exact h3) .nil (pX X h) hp) ⟨_, b2, a, dx, gs, rfl, k1, par_none k3 hl, ?_⟩
    exact ⟨A, qa, [.r j], M, P, PX, rfl, E.ah, E.ms, .cons ⟨a, b1, rfl⟩ .nil, ha, fun v z A2 H2 M2 x m r p => q v z A2 H2 M2 qa (.of x.aa) (E.after x m) r p, fun x A2 H2 M2 c d fx m xi px => hXX A2 H2 M2 qa c d x (E.after fx m) xi px⟩
  rcases hX with hX | hX
  · obtain ⟨EX, hEX⟩ := Option.isSome_iff_exists.mp hX
    exact fin EX (fun X h => passes_call (h.tk EX hEX) fun _ _ _ _ z => z) fun A1 H1 M1 ps1 c d x E1 xi px => hx EX hEX A1 H1 σ ρ M1 ps1 x c d E1 xi px
  · subst hX
    exact fin E0 (fun X h => passL) fun _ _ _ _ _ _ _ _ _ z => z.elim
/-- C(e, ..) -/
theorem dx_make {k n : Nat} {qs : List Str} {R : MR} {PX : Xc → List MO → Prop} (Fn : Mki Γ.W f C k qs (spM Γ.W (n + 1) R)) (hX : Γ.ew.isSome = true ∨ PX = fun _ _ => False) (hx : Xok Γ F PX) (ha : DXs Γ F ρ M (e :: es) fun zs M1 => zs.length = n ∧ R (.r M1.length :: zs) (M1 ++ [.obj C []]) (fun z M2 => z = .d .none ∧ P (.r M1.length) M2) PX)
    (hk : Nat.ble (k + 1) Γ.k = true := by rfl) (g : Glo Γ f := by rfl) (ne : NS e := by intro _ _; rfl) (ns : NSs es := by intro _ _; rfl)
    (hdb : (f == ("__debug__" : Str)) = false := by decide) : DX Γ F ρ M (.Call (.Name f p) (e :: es) [] pos) P := fun A H σ qa E Q q => by
  obtain ⟨gf, fd, h1, h2, h3, h4⟩ := Fn
  have fin : ∀ (EX : XK), (∀ X, Has Γ X → Passes (L2.CX X.prog X.w) X EX) → (∀ A1 H1 M1 ps1 c d x, En Γ.W.K F A1 H1 σ ρ M1 ps1 → XcIs Γ.W A1 H1 x c d → PX x M1 → EX c d H1) → WG Γ (.Call (.Name f p) (e :: es) [] pos) σ H Q := fun EX pX hXX => by
    refine WG.of (te := tMake C (spM Γ.W (n + 1) R) [] EX (WGa Γ (e :: es))) (fun X h => by
      obtain ⟨u1, u2, u3, u4, u5⟩ : X.prog = Γ.W.P ∧ X.w = Γ.W.w ∧ X.K = Γ.W.K ∧ X.mg = Γ.W.mg ∧ X.base = Γ.W.base := ⟨h.prog, h.w, h.K, h.mg, h.base⟩
      exact pe_make (CX := L2.CX X.prog X.w) (E := EX) (dvs := []) (ds := []) (fd := fd) (ps := qs) (by rw [u3]; exact h2) (by rw [u1, u2, u3, u4, u5]; exact h4) (h.room.mono (Nat.le_of_ble_eq_true hk)) (gl_of h g) (by rw [u4]; exact h1) (by rw [u3]; exact h3) .nil (pX X h) (pa_wg h) hdb (ne es X.env) (ns pos X.env)) (ha A H σ qa E _ fun vs zs A1 H1 M1 ps1 e1 E1 rs ⟨hl, hR⟩ => fun a dx na nd nad => ?_)
    rw [List.append_nil]
    have e2 : Ex H1 (upd H1 dx (.own a)) := Ex.new nd
    have na2 : upd H1 dx (.own a) a = none := by
      rw [upd_ne (Ne.symm nad)]
      exact na
    have E2 := (E1.step (Gw.grow E1.ah e2)).newM (m := .obj C []) na2 ⟨dx, [], upd_same, by rw [upd_ne nad, upd_same], rfl, .nil⟩
    have hp : (ps1 ++ [a])[M1.length]? = some a := by
      rw [E1.ms.ln, List.getElem?_append_right (Nat.le_refl _), Nat.sub_self]
      rfl
    have nx : Nx A1 ps1 A1 (ps1 ++ [a]) := ⟨Ex.refl _, [a], rfl⟩
    refine ⟨A1, ps1 ++ [a], .r M1.length :: zs, M1 ++ [.obj C []], _, PX, by rw [List.length_cons, hl], E2.ah, E2.ms, .cons ⟨a, hp, rfl⟩ ?_, hR, fun v z A2 H2 M2 x m r p => ?_, fun x A2 H2 M2 c d fx m xi px => hXX A2 H2 M2 _ c d x (E2.after fx m) xi px⟩
    · have : ∀ {vs : List V} {zs : List SV}, Rvs Γ.W.K A1 ps1 vs zs → Rvs Γ.W.K A1 (ps1 ++ [a]) vs zs := fun h => by
        induction h with
        | nil => exact .nil
        | cons r _ ih => exact .cons (r.nx nx) ih
      exact this rs
    · obtain ⟨ez, p⟩ := p
      subst ez
      have ev : v = .non := dp_non r
      exact ⟨ev, q (.ref a) (.r M1.length) A2 H2 M2 (ps1 ++ [a]) (e1.trans ⟨x.aa, [a], rfl⟩) (E2.after x m) ⟨a, hp, rfl⟩ p⟩
  rcases hX with hX | hX
  · obtain ⟨EX, hEX⟩ := Option.isSome_iff_exists.mp hX
    exact fin EX (fun X h => passes_call (h.tk EX hEX) fun _ _ _ _ z => z) fun A1 H1 M1 ps1 c d x E1 xi px => hx EX hEX A1 H1 σ ρ M1 ps1 x c d E1 xi px
  · subst hX
    exact fin E0 (fun X h => passL) fun _ _ _ _ _ _ _ _ _ z => z.elim
end
end Ev
namespace Ev
open PySem PySem.Spec PyProof.Rows L2 Evl
open PySem.NumText (AllDigits digitsVal)
/-! ### words -/
structure TOk (w : Str) : Prop where
  len : w.length ≤ 40000
  ok : PyData.strOk w = true
def isDig (c : Nat) : Bool := decide (c ∈ ("0123456789" : Str).cps.toList)
def figs (w : Str) : Bool := (decide ((1 : Int) ≤ (w.length : Int)) && decide ((w.length : Int) ≤ 7)) && w.cps.toList.all isDig
def bare (w : Str) : Bool := decide (w = "0") || !decide (w.cps.toList.head? = some 48)
def numIn (w : Str) : Option Nat := if figs w = true then (if bare w = true then some (digitsVal w.cps.toList) else none) else none
theorem digs_eq : ("0123456789" : Str).cps.toList = [48, 49, 50, 51, 52, 53, 54, 55, 56, 57] := by decide +kernel
theorem isDig_iff (c : Nat) : isDig c = true ↔ 48 ≤ c ∧ c ≤ 57 := by
  unfold isDig
  rw [digs_eq, decide_eq_true_eq]
  simp only [List.mem_cons, List.not_mem_nil, or_false]
  omega
theorem figs_len {w : Str} (h : figs w = true) : 1 ≤ w.length ∧ w.length ≤ 7 := by
  unfold figs at h
  simp only [Bool.and_eq_true, decide_eq_true_eq] at h
  omega
theorem figs_all {w : Str} (h : figs w = true) : AllDigits w.cps.toList := fun c hc => by
  unfold figs at h
  simp only [Bool.and_eq_true] at h
  exact (isDig_iff c).mp (List.all_eq_true.mp h.2 c hc)
theorem figs_ne {w : Str} (h : figs w = true) : w.cps.toList ≠ [] := fun e => by
  have := (figs_len h).1
  have l : w.length = w.cps.toList.length := by simp [Str.length]
  rw [l, e] at this
  simp at this
theorem figs_int {w : Str} (h : figs w = true) : intText? w = some ((digitsVal w.cps.toList : Nat) : Int) := intText_digits (figs_all h) (figs_ne h) (by have := (figs_len h).2; omega)
theorem numD_of (w : Str) : numD (numIn w) = if figs w = true then (if bare w = true then .int ((digitsVal w.cps.toList : Nat) : Int) else .none) else .none := by
  unfold numIn
  split
  · split <;> rfl
  · rfl
/-- the tens -/
theorem tens_lt : ∀ (cs : List Nat) (a k : Nat), AllDigits cs → a < 10 ^ k → cs.foldl (fun acc c => acc * 10 + (c - 48)) a < 10 ^ (k + cs.length)
  | [], a, k, _, h => h
  | c :: cs, a, k, hc, h => by
    have h1 := hc.head
    have := tens_lt cs (a * 10 + (c - 48)) (k + 1) hc.tail (by
      rw [Nat.pow_succ]
      omega)
    have e : k + 1 + cs.length = k + (c :: cs).length := by rw [List.length_cons]; omega
    rw [e] at this
    exact this
theorem figs_lt {w : Str} (h : figs w = true) : digitsVal w.cps.toList < 10000000 := by
  have := tens_lt w.cps.toList 0 0 (figs_all h) (by decide)
  have l : w.length = w.cps.toList.length := by simp [Str.length]
  have l7 := (figs_len h).2
  rw [l] at l7
  refine Nat.lt_of_lt_of_le this ?_
  exact Nat.pow_le_pow_right (n := 10) (by decide) (by omega : 0 + w.cps.toList.length ≤ 7)
/-- a number told again is the word that told it -/
theorem back_eq {w : Str} (h : figs w = true) : decide (Str.ofString (toString ((digitsVal w.cps.toList : Nat) : Int)) = w) = bare w := by
  have hd := figs_all h
  have hl : w.length = w.cps.toList.length := by simp [Str.length]
  obtain ⟨h1, h7⟩ := figs_len h
  have key : (Str.ofString (toString ((digitsVal w.cps.toList : Nat) : Int)) = w) ↔ Nat.toDigits 10 (digitsVal w.cps.toList) = w.cps.toList.map Char.ofNat := by
    have e := TL.tl_num (digitsVal w.cps.toList)
    have inv : ∀ c ∈ w.cps.toList, (Char.ofNat c).toNat = c := fun c hc => by
      have := hd c hc
      have q : ∀ c : Fin 58, (Char.ofNat c).toNat = c := by decide +kernel
      exact q ⟨c, by omega⟩
    have mm : (w.cps.toList.map Char.ofNat).map Char.toNat = w.cps.toList := by
      rw [List.map_map]
      calc w.cps.toList.map (Char.toNat ∘ Char.ofNat) = w.cps.toList.map id := List.map_congr_left inv
        _ = _ := List.map_id _
    constructor
    · intro q
      have z : TL.numL (digitsVal w.cps.toList) = w.cps.toList := by rw [← e, q]
      have z2 : (Nat.toDigits 10 (digitsVal w.cps.toList)).map Char.toNat = (w.cps.toList.map Char.ofNat).map Char.toNat := by
        rw [mm]
        exact z
      have inj : Function.Injective Char.toNat := fun a b q => Char.ext (UInt32.toNat_inj.mp q)
      exact (List.map_inj_right (fun a b q => inj q)).mp z2
    · intro q
      refine TL.ext_tl ?_
      rw [e]
      show (Nat.toDigits 10 (digitsVal w.cps.toList)).map Char.toNat = _
      rw [q, mm]
  obtain ⟨c, r, ew⟩ : ∃ c r, w.cps.toList = c :: r := by
    cases q : w.cps.toList with
    | nil =>
      rw [hl, q] at h1
      simp at h1
    | cons c r => exact ⟨c, r, rfl⟩
  have w0 : w = "0" ↔ w.cps.toList = [48] := ⟨fun e => by rw [e]; decide +kernel, fun e => TL.ext_tl (by
    show w.cps.toList = _
    rw [e]
    decide +kernel)⟩
  have hc := hd c (by rw [ew]; simp)
  unfold bare
  by_cases c48 : c = 48
  · subst c48
    have hh : decide (w.cps.toList.head? = some 48) = true := by
      rw [ew]
      rfl
    rw [hh]
    by_cases r0 : r = []
    · subst r0
      have : decide (w = "0") = true := decide_eq_true (w0.mpr ew)
      rw [this]
      refine decide_eq_true (key.mpr ?_)
      rw [ew]
      decide +kernel
    · have : decide (w = "0") = false := decide_eq_false fun e => r0 (by
        have := w0.mp e
        rw [ew] at this
        cases this
        rfl)
      rw [this]
      refine decide_eq_false fun q => ?_
      have q := key.mp q
      rw [PySem.NumText.toDigits_all _ hd, ew] at q
      have dl : (List.dropWhile (fun x => x == 48) r).length ≤ r.length := (List.dropWhile_sublist _).length_le
      have dw : List.dropWhile (fun x => x == 48) (48 :: r) = List.dropWhile (fun x => x == 48) r := by rw [List.dropWhile_cons]; rfl
      rw [dw] at q
      have rl : 0 < r.length := by
        cases r with
        | nil => exact absurd rfl r0
        | cons _ _ => simp
      cases q2 : List.dropWhile (fun x => x == 48) r with
      | nil =>
        rw [q2] at q
        have q : ['0'] = (48 :: r).map Char.ofNat := q
        have := congrArg List.length q
        rw [List.length_map, List.length_cons, List.length_cons, List.length_nil] at this
        omega
      | cons a b =>
        rw [q2] at q dl
        have q : (a :: b).map Char.ofNat = (48 :: r).map Char.ofNat := q
        have := congrArg List.length q
        rw [List.length_map, List.length_map, List.length_cons, List.length_cons] at this
        rw [List.length_cons] at dl
        omega
  · have hh : decide (w.cps.toList.head? = some 48) = false := by
      rw [ew]
      simp [c48]
    rw [hh]
    have : (decide (w = "0") || !false) = true := by simp
    rw [this]
    refine decide_eq_true (key.mpr ?_)
    have := PySem.NumText.toDigits_digitsVal r.length (c :: r) rfl (by rw [← ew]; exact hd) (.inr ⟨c, r, rfl, by omega⟩)
    rw [ew]
    exact this
abbrev RNumIn : List PyData → PyData → Prop := fun ds d => ∃ w, ds = [.str w] ∧ TOk w ∧ d = numD (numIn w)
def optL : Option Nat → PyData
  | none => .list []
  | some i => .list [.int i]
abbrev RInt : List PyData → PyData → Prop := fun ds d => ∃ w, ds = [.str w] ∧ TOk w ∧ d = optL (numIn w)
theorem TOk.cp {w : Str} (h : TOk w) {c : Nat} (hc : c ∈ w.cps.toList) : PyData.strOk ⟨#[c]⟩ = true := by
  have := h.ok
  unfold PyData.strOk at this ⊢
  rw [Array.all_eq_true'] at this
  have := this c (by simpa using hc)
  simpa using this
theorem shaped_strs {ws : List Str} (h : ∀ w ∈ ws, PyData.strOk w = true) : SeqAt.shaped (.list (ws.map .str)) = true := by
  have key : ∀ l : List Str, (∀ c ∈ l, PyData.strOk c = true) → PyData.canLayAll0 (l.map .str) = true ∧ PyData.depthAll (l.map .str) = 0 := fun l => by
    induction l with
    | nil => exact fun _ => ⟨rfl, rfl⟩
    | cons c l ih =>
      intro h
      obtain ⟨i1, i2⟩ := ih fun d hd => h d (List.mem_cons_of_mem _ hd)
      rw [List.map_cons, PyData.canLayAll0, PyData.depthAll, i1, i2]
      simp only [PyData.canLay0, PyData.depth, h c List.mem_cons_self, Bool.and_self, true_and, Nat.max_self]
  unfold SeqAt.shaped
  rw [Bool.and_eq_true, decide_eq_true_eq, PyData.canLay0, PyData.depth]
  obtain ⟨k1, k2⟩ := key ws h
  exact ⟨k1, by omega⟩
section
variable {W : Wd}
theorem head_at {w : Str} (h : figs w = true) : ∃ c, atI w.cps.toList 0 = some c ∧ decide ((⟨#[c]⟩ : Str) = "0") = decide (w.cps.toList.head? = some 48) := by
  cases q : w.cps.toList with
  | nil => exact absurd q (figs_ne h)
  | cons c r =>
    refine ⟨c, atI_nat (j := 0) rfl, ?_⟩
    have z : ((⟨#[c]⟩ : Str) = "0") ↔ (c :: r).head? = some 48 := ⟨fun e => by
      have e2 : (⟨#[c]⟩ : Str).cps.toList = ("0" : Str).cps.toList := by rw [e]
      have e3 : ("0" : Str).cps.toList = [48] := by decide +kernel
      rw [e3] at e2
      have e4 : [c] = [48] := e2
      cases e4
      rfl, fun e => by
      have e : some c = some 48 := e
      cases e
      decide +kernel⟩
    simp only [z]
theorem ok_number_in (b : Bl W) (t : Dg W "number_in" 59) (g1 : Gi W "MOST_FIGURES" 7) (g2 : Gs W "FIGURES" "0123456789") : Fk W 1 "number_in" ["word"] (spD W.K 1 RNumIn) :=
  t.fd (N := ["word", "sign"]) ⟨rfl, rfl, rfl, by decide +kernel, rfl, by decide +kernel, by decide +kernel⟩ (fun _ _ _ _ _ _ us hl => match us, hl with | [_], _ => rfl) rfl fun E A H Q ds d q hl hR => by
    obtain ⟨w, rfl, hw, rfl⟩ := hR
    refine ds_cons (s_if (dt_t (XT.is (xt_or2 (xt_not (xt_chain xd_i (xd_callB boot_len b.len (xds_cons (xv 0 rfl rfl) xds_nil) (of_lenS (Nat.le_trans hw.len (by decide)))) (xgi g1) oc_le oc_le)) fun h => xt_not (xt_v (xd_callB boot_all b.all (xds_cons (XD.is (xd_lc0 (x := "sign") (j := 1) rfl (xi_str (xv 0 rfl rfl)) (by
        rw [List.length_map]
        have := hw.len
        have l : w.length = w.cps.toList.length := by simp [Str.length]
        omega) (fun d => .bool (match d with | .str s => isDig (s.cps.toList.headD 0) | _ => false)) fun d hd => ?_) (?_ : _ = PyData.list ((w.cps.toList.map isDig).map PyData.bool))) xds_nil) of_all))) (?_ : _ = !figs w)) ⟨fun h => ?_, fun h => ?_⟩))
    · obtain ⟨c, hc, rfl⟩ := List.mem_map.mp hd
      exact xd_cmp (xv 1 rfl rfl) (xgs g2) oc_sign
    · rw [List.map_map, List.map_map]
      rfl
    · unfold figs
      rw [Bool.not_and, Bool.not_and, List.all_map]
      have e : ∀ a b c : Bool, ((!(a && b)) || !c) = (!a || !b || !c) := by decide
      have e2 : w.cps.toList.all (id ∘ isDig) = w.cps.toList.all isDig := rfl
      rw [e, e2]
    · have hf : figs w = false := by simpa using h
      refine ds_one (ret_d xd_n ?_)
      rw [numD_of, hf]
      rfl
    · have hf : figs w = true := by simpa using h
      obtain ⟨c, hc, hc2⟩ := head_at hf
      refine ds_nil (ds_one (ret_d (xd_if (k := bare w) (XT.is (xt_or2 (xt_cmp (xv 0 rfl rfl) xd_s oc_eqS) fun _ => xt_cmp (xd_ix (xv 0 rfl rfl) xd_i (oi_S (Nat.le_trans hw.len (by decide)) hc)) xd_s oc_neS) (?_ : _ = bare w)) (fun hb => XD.is (xd_callT bt_int b.int (xds_cons (xv 0 rfl rfl) xds_nil) (of_intS (figs_int hf) (by have := (figs_len hf).2; omega))) ?_) fun hb => XD.is xd_n ?_) rfl))
      · unfold bare
        rw [hc2]
      · rw [numD_of, hf, hb]
        rfl
      · rw [numD_of, hf, hb]
        rfl
theorem ok_law_int (b : Bl W) (t : Dg W "_law_int" 83) : Fk W 1 "_law_int" ["_law_word"] (spD W.K 1 RInt) :=
  t.fd (N := ["_law_word", "_law_sign"]) ⟨rfl, rfl, rfl, by decide +kernel, rfl, by decide +kernel, by decide +kernel⟩ (fun _ _ _ _ _ _ us hl => match us, hl with | [_], _ => rfl) rfl fun E A H Q ds d q hl hR => by
    obtain ⟨w, rfl, hw, rfl⟩ := hR
    have hl40 : (w.cps.toList.map fun c => PyData.str ⟨#[c]⟩).length ≤ 40000 := by
      rw [List.length_map]
      have := hw.len
      have l : w.length = w.cps.toList.length := by simp [Str.length]
      omega
    have fo : ∀ w, numIn w = if figs w = true then (if bare w = true then some (digitsVal w.cps.toList) else none) else none := fun _ => rfl
    have sg : SeqAt.shaped (.list ((w.cps.toList.map fun c => PyData.str ⟨#[c]⟩).filter fun d => !(match d with | .str s => isDig (s.cps.toList.headD 0) | _ => false))) = true := by
      have e : ((w.cps.toList.map fun c => PyData.str ⟨#[c]⟩).filter fun d => !(match d with | .str s => isDig (s.cps.toList.headD 0) | _ => false)) = ((w.cps.toList.filter fun c => !isDig c).map fun c => (⟨#[c]⟩ : Str)).map .str := by
        rw [List.filter_map, List.map_map]
        rfl
      rw [e]
      refine shaped_strs fun z hz => ?_
      obtain ⟨c, hc, rfl⟩ := List.mem_map.mp hz
      exact hw.cp (List.mem_filter.mp hc).1
    refine ds_cons (s_if (dt_t (XT.is (xt_or2 (xt_not (xt_chain xd_i (xd_callB boot_len b.len (xds_cons (xv 0 rfl rfl) xds_nil) (of_lenS (Nat.le_trans hw.len (by decide)))) xd_i oc_le oc_le)) fun h => xt_cmp (XD.is (xd_lc1 (x := "_law_sign") (j := 1) rfl (xi_str (xv 0 rfl rfl)) hl40 (fun d => !(match d with | .str s => isDig (s.cps.toList.headD 0) | _ => false)) (fun d => d) (fun d hd => ?_) fun d hd _ => xv 1 rfl rfl) (by rw [List.map_id'] : _ = PyData.list ((w.cps.toList.map fun c => PyData.str ⟨#[c]⟩).filter fun d => !(match d with | .str s => isDig (s.cps.toList.headD 0) | _ => false)))) (xd_lst xds_nil (by simp)) (oc_neD sg rfl)) (?_ : _ = !figs w)) ⟨fun h => ?_, fun h => ?_⟩))
    · obtain ⟨c, hc, rfl⟩ := List.mem_map.mp hd
      exact xt_cmp (xv 1 rfl rfl) xd_s oc_nosign
    · unfold figs
      have e : ∀ l : List Nat, decide (((l.map fun c => PyData.str ⟨#[c]⟩).filter fun d => !(match d with | .str s => isDig (s.cps.toList.headD 0) | _ => false)) = []) = l.all isDig := fun l => by
        induction l with
        | nil => rfl
        | cons c l ih =>
          rw [List.map_cons, List.filter_cons, List.all_cons, ← ih]
          have e0 : (!(match PyData.str ⟨#[c]⟩ with | .str s => isDig (s.cps.toList.headD 0) | _ => false)) = !isDig c := rfl
          rw [e0]
          cases isDig c
          · rfl
          · rfl
      rw [eqv_nil, e]
      simp only [Bool.not_and]
    · have hf : figs w = false := by simpa using h
      refine ds_one (ret_d (xd_lst xds_nil (by simp)) ?_)
      rw [fo, hf]
      rfl
    · have hf : figs w = true := by simpa using h
      refine ds_nil (ds_one (ret_d (xd_if (k := bare w) (XT.is (xt_cmp (xd_callT bt_str b.str (xds_cons (xd_callT bt_int b.int (xds_cons (xv 0 rfl rfl) xds_nil) (of_intS (figs_int hf) (by have := (figs_len hf).2; omega))) xds_nil) (of_strI ?_)) (xv 0 rfl rfl) oc_eqS) ?_) (fun hb => XD.is (xd_lst (xds_cons (xd_callT bt_int b.int (xds_cons (xv 0 rfl rfl) xds_nil) (of_intS (figs_int hf) (by have := (figs_len hf).2; omega))) xds_nil) (by simp)) ?_) fun hb => XD.is (xd_lst xds_nil (by simp)) ?_) rfl))
      · have := figs_lt hf
        rw [Int.natAbs_natCast]
        by_cases z : digitsVal w.cps.toList = 0
        · rw [z]
          decide
        · rw [Nat.log2_lt z]
          exact Nat.lt_of_lt_of_le this (Nat.le_trans (show 10000000 ≤ 2 ^ 24 by decide) (Nat.pow_le_pow_right (by decide) (by decide)))
      · exact back_eq hf
      · rw [fo, hf, hb]
        rfl
      · rw [fo, hf, hb]
        rfl
end
end Ev
namespace Ev
open PySem PySem.Spec PyProof.Rows L2 Evl
/-! ### x = [..] -/
section
variable {Γ : Gm} {B : Fb Γ} {ρ : Rho} {M : List MO} {tg iter elt : Expr} {ifs : List Expr} {N : Rho → List MO → Prop} {pos spos px pz : Pos} {x z : Str} {i j : Nat} {ds : List PyData} {scope : Scope} {own : List (Str × Nat)}
theorem s_asgLc (hN : Γ.N[i]? = some x) (h : DI Γ B.F ρ M tg iter fun ds M1 => LcOk Γ ρ elt tg ifs scope (own.map (·.2)) ds M1 fun acc M2 => N (ρ.set i (some (.d (.list acc)))) M2) (hyl : Γ.sc.names.lookup x = some .local := by rfl) (hk : Γ.sc.kind = .function := by rfl) (hl : (px.line == pos.line) = true := by rfl)
    (ha : (scope.names.any fun (n, k) => n == x && (k == .local || k == .cell)) = false := by decide +kernel) (hs : ∀ env x, foldedSetIterable iter env x = pure x := by intro _ _; rfl) (nd : decide Γ.N.Nodup = true := by kernel_rfl) (ok : blkC Γ.N Γ.sc scope own = true := by kernel_rfl) :
    DS1 Γ B ρ M (.Assign [.Name x px] (.ListComp elt [⟨tg, iter, ifs, 0⟩] scope pos) spos) N := fun A H σ ps E D hD k =>
  WGs.of (ts := tAsg (tLc (WGi Γ tg iter) (WGg (blkG Γ scope) tg) (WGts (blkG Γ scope) ifs) (WG (blkG Γ scope) elt) (own.map Prod.snd)) (gName i)) (fun X hX => ps_setLc hX.calm (by rw [hX.N]; exact of_decide_eq_true nd) (by rw [hX.N]; exact hN) (by rw [hX.sc]; exact hyl) (sw_true (by rw [hX.sc]; exact hk) (by rw [hX.sc]; exact hyl) hl ha) (pi_wg hX) (blkOk_by (by rw [hX.N, hX.sc]; exact ok))
    (fun s H C cl fp => pg_wg (has_blk hX s H C cl fp)) (fun s H C cl fp => pts_wg (has_blk hX s H C cl fp)) (fun s H C cl fp => pe_wg (has_blk hX s H C cl fp)) (hs X.env))
    (h A H σ ps E _ fun J ds A1 H1 M1 ps1 x1 E1 wk lc D2 hD2 => lc_turns (Q := fun v H => gName i v σ H D.nx) E1 wk lc (fun v acc A2 H2 M2 ps2 x2 E2 r n => k A2 H2 _ _ M2 ps2 (x1.trans x2) (E2.setV (z := .d (.list acc)) i r) n) D2 hD2)
theorem s_asgLcp (hN : Γ.N[i]? = some x) (h : XI Γ ρ tg iter ds) (hz : ds.length ≤ 40000) (f : PyData → Bool) (r : PyData → PyData)
    (turn : ∀ d, d ∈ ds → ∃ ρ2 js, (∀ j ∈ js, j ∈ own.map (·.2)) ∧ Tg (blkG Γ scope) tg d (wipeR ρ (own.map (·.2))) ρ2 js ∧ (∀ F', DTs (blkG Γ scope) F' ρ2 M ifs fun k M' => k = f d ∧ M' = M) ∧ (f d = true → XD (blkG Γ scope) ρ2 elt (r d)))
    (p : N (ρ.set i (some (.d (.list ((ds.filter f).map r))))) M) (hyl : Γ.sc.names.lookup x = some .local := by rfl) (hk : Γ.sc.kind = .function := by rfl) (hl : (px.line == pos.line) = true := by rfl)
    (ha : (scope.names.any fun (n, k) => n == x && (k == .local || k == .cell)) = false := by decide +kernel) (hs : ∀ env x, foldedSetIterable iter env x = pure x := by intro _ _; rfl) (nd : decide Γ.N.Nodup = true := by kernel_rfl) (ok : blkC Γ.N Γ.sc scope own = true := by kernel_rfl) :
    DS1 Γ B ρ M (.Assign [.Name x px] (.ListComp elt [⟨tg, iter, ifs, 0⟩] scope pos) spos) N := by
  refine s_asgLc (nd := nd) (ok := ok) hN (fun A H σ ps E R q => h B.F M A H σ ps E R fun J ds' A1 H1 M1 ps1 x1 E1 wk hp => ?_) hyl hk hl ha hs
  obtain ⟨rfl, rfl⟩ := hp
  refine q J ds' A1 H1 M1 ps1 x1 E1 wk ⟨hz, fun i acc M' => acc = ((ds'.take i).filter f).map r ∧ M' = M1, ⟨by simp, rfl⟩, fun i d acc M2 hd hI hl => ?_, fun acc M2 hI hl => ?_⟩
  · obtain ⟨rfl, rfl⟩ := hI
    obtain ⟨ρ2, js, h1, h2, h3, h4⟩ := turn d (List.mem_of_getElem? hd)
    refine ⟨ρ2, js, h1, h2, fun F' A2 H2 σ2 ps2 E2 Q2 q2 => h3 F' A2 H2 σ2 ps2 E2 Q2 fun k A3 H3 M3 ps3 x3 E3 hk => ?_⟩
    obtain ⟨rfl, rfl⟩ := hk
    refine q2 _ A3 H3 M3 ps3 x3 E3 ⟨fun hk => dx_d (h4 hk) ⟨r d, rfl, ?_, rfl⟩, fun hk => ⟨?_, rfl⟩⟩
    · rw [List.take_add_one, hd, List.filter_append, List.map_append]
      simp [hk]
    · rw [List.take_add_one, hd, List.filter_append, List.map_append]
      simp [hk]
  · obtain ⟨rfl, rfl⟩ := hI
    rw [List.take_of_length_le (Nat.le_refl _)]
    exact p
theorem s_asgLc0 (hN : Γ.N[i]? = some x) (hj : Γ.N[j]? = some z) (h : XI Γ ρ (.Name z pz) iter ds) (hz : ds.length ≤ 40000) (r : PyData → PyData)
    (turn : ∀ d, d ∈ ds → XD (blkG Γ scope) ((ρ.set j Option.none).set j (some (.d d))) elt (r d)) (p : N (ρ.set i (some (.d (.list (ds.map r))))) M) (hll : Loc (rlb Γ.sc scope) z := by first | exact .inl rfl | exact .inr rfl) (hst : (scope.names.lookup z == some .cell || scope.names.lookup z == some .local) = true := by rfl)
    (hyl : Γ.sc.names.lookup x = some .local := by rfl) (hk : Γ.sc.kind = .function := by rfl) (hl : (px.line == pos.line) = true := by rfl)
    (ha : (scope.names.any fun (n, k) => n == x && (k == .local || k == .cell)) = false := by decide +kernel) (hs : ∀ env x, foldedSetIterable iter env x = pure x := by intro _ _; rfl) (nd : decide Γ.N.Nodup = true := by kernel_rfl) (ok : blkC Γ.N Γ.sc scope [(z, j)] = true := by kernel_rfl) :
    DS1 Γ B ρ M (.Assign [.Name x px] (.ListComp elt [⟨.Name z pz, iter, [], 0⟩] scope pos) spos) N :=
  s_asgLcp (own := [(z, j)]) (nd := nd) (ok := ok) hN h hz (fun _ => true) r (fun d hd => ⟨_, [j], fun k hk => hk, tg_name hj hll hst nd, fun F' => dts_nil ⟨rfl, rfl⟩, fun _ => turn d hd⟩) (by rw [List.filter_eq_self.mpr (fun _ _ => rfl)]; exact p) hyl hk hl ha hs
end
/-! ### rows of words -/
def strsD (ws : List Str) : PyData := .list (ws.map .str)
def natsD (l : List Nat) : List PyData := l.map fun n => .int ((n : Nat) : Int)
def WsOk (ws : List Str) : Prop := ws.length ≤ 40000 ∧ ∀ w ∈ ws, TOk w
def numsIn : List Str → Option (List Nat)
  | [] => some []
  | w :: ws => match numIn w, numsIn ws with
    | some a, some l => some (a :: l)
    | _, _ => none
theorem numsIn_any : ∀ ws : List Str, ((ws.map fun w => numD (numIn w)).any fun z => PyData.eqv z .none) = (numsIn ws).isNone
  | [] => rfl
  | w :: ws => by
    rw [List.map_cons, List.any_cons, numsIn_any ws, numsIn]
    cases numIn w with
    | none => rfl
    | some a =>
      have e : PyData.eqv (numD (some a)) .none = false := rfl
      rw [e]
      cases numsIn ws <;> rfl
theorem numsIn_some : ∀ {ws : List Str} {l : List Nat}, numsIn ws = some l → ws.map numIn = l.map some
  | [], l, h => by
    have h : some [] = some l := h
    cases h
    rfl
  | w :: ws, l, h => by
    rw [numsIn] at h
    cases q : numIn w with
    | none =>
      rw [q] at h
      cases h
    | some a =>
      rw [q] at h
      cases q2 : numsIn ws with
      | none =>
        rw [q2] at h
        cases h
      | some l' =>
        rw [q2] at h
        cases h
        rw [List.map_cons, List.map_cons, q, numsIn_some q2]
theorem numsIn_len {ws : List Str} {l : List Nat} (h : numsIn ws = some l) : l.length = ws.length := by
  have := congrArg List.length (numsIn_some h)
  simpa using this.symm
def tupO : Option (List Nat) → PyData
  | none => .none
  | some l => .tuple (natsD l)
abbrev RNums : List PyData → PyData → Prop := fun ds d => ∃ ws, ds = [strsD ws] ∧ WsOk ws ∧ d = tupO (numsIn ws)
def numsAt (ws : List Str) (least : Nat) : Option (List Nat) := match numsIn ws with
  | some l => if least ≤ l.length then some l else none
  | none => none
def lstO : Option (List Nat) → PyData
  | none => .list []
  | some l => .list [.tuple (natsD l)]
abbrev RNumsL : List PyData → PyData → Prop := fun ds d => ∃ (ws : List Str) (least : Nat), ds = [strsD ws, .int (least : Int)] ∧ WsOk ws ∧ d = lstO (numsAt ws least)
theorem shaped_opts (l : List (Option Nat)) : SeqAt.shaped (.list (l.map numD)) = true := by
  have key : ∀ l : List (Option Nat), PyData.canLayAll0 (l.map numD) = true ∧ PyData.depthAll (l.map numD) = 0 := fun l => by
    induction l with
    | nil => exact ⟨rfl, rfl⟩
    | cons c l ih =>
      obtain ⟨i1, i2⟩ := ih
      rw [List.map_cons, PyData.canLayAll0, PyData.depthAll, i1, i2]
      cases c <;> exact ⟨rfl, rfl⟩
  unfold SeqAt.shaped
  rw [Bool.and_eq_true, decide_eq_true_eq, PyData.canLay0, PyData.depth]
  obtain ⟨k1, k2⟩ := key l
  exact ⟨k1, by omega⟩
theorem shaped_optLs (l : List (Option Nat)) : SeqAt.shaped (.list (l.map optL)) = true := by
  have key : ∀ l : List (Option Nat), PyData.canLayAll0 (l.map optL) = true ∧ PyData.depthAll (l.map optL) ≤ 1 := fun l => by
    induction l with
    | nil => exact ⟨rfl, by decide⟩
    | cons c l ih =>
      obtain ⟨i1, i2⟩ := ih
      rw [List.map_cons, PyData.canLayAll0, PyData.depthAll, i1]
      cases c with
      | none => exact ⟨rfl, by
        have : (optL none).depth = 1 := rfl
        rw [this]
        omega⟩
      | some a => exact ⟨rfl, by
        have : (optL (some a)).depth = 1 := rfl
        rw [this]
        omega⟩
  unfold SeqAt.shaped
  rw [Bool.and_eq_true, decide_eq_true_eq, PyData.canLay0, PyData.depth]
  obtain ⟨k1, k2⟩ := key l
  exact ⟨k1, by omega⟩
theorem numsIn_anyL : ∀ ws : List Str, ((ws.map fun w => optL (numIn w)).any fun z => PyData.eqv z (.list [])) = (numsIn ws).isNone
  | [] => rfl
  | w :: ws => by
    rw [List.map_cons, List.any_cons, numsIn_anyL ws, numsIn]
    cases numIn w with
    | none => rfl
    | some a =>
      have e : PyData.eqv (optL (some a)) (.list []) = false := rfl
      rw [e]
      cases numsIn ws <;> rfl
section
variable {W : Wd}
theorem ok_numbers_in (b : Bl W) (t : Dg W "numbers_in" 60) (f1 : Fk W 1 "number_in" ["word"] (spD W.K 1 RNumIn)) : Fk W 2 "numbers_in" ["words"] (spD W.K 1 RNums) :=
  t.fd (N := ["words", "found", "word"]) ⟨rfl, rfl, rfl, by decide +kernel, rfl, by decide +kernel, by decide +kernel⟩ (fun _ _ _ _ _ _ us hl => match us, hl with | [_], _ => rfl) rfl fun E A H Q ds d q hl hR => by
    obtain ⟨ws, rfl, hw, rfl⟩ := hR
    have hm : (ws.map PyData.str).map (fun d => match d with | .str s => numD (numIn s) | _ => PyData.none) = (ws.map numIn).map numD := by
      rw [List.map_map, List.map_map]
      rfl
    have hm2 : (ws.map numIn).map numD = ws.map fun w => numD (numIn w) := by
      rw [List.map_map]
      rfl
    refine ds_cons (s_asgLc0 (i := 1) (j := 2) (x := "found") (z := "word") rfl rfl (xi_list (xv 0 rfl rfl)) (by rw [List.length_map]; exact hw.1) (fun d => match d with | .str s => numD (numIn s) | _ => .none) (fun d hd => ?_) ?_)
    · obtain ⟨w, hw', rfl⟩ := List.mem_map.mp hd
      exact xd_call f1 (xds_cons (xv 2 rfl rfl) xds_nil) ⟨w, rfl, hw.2 w hw', rfl⟩
    · rw [hm]
      refine ds_one (ret_d (xd_if (k := !(numsIn ws).isNone) (XT.is (xt_cmp xd_n (xv 1 rfl rfl) (oc_niD rfl (shaped_opts _))) (by rw [hm2, numsIn_any])) (fun hb => XD.is (xd_callT bt_tuple b.tuple (xds_cons (xv 1 rfl rfl) xds_nil) of_tupL) ?_) fun hb => XD.is xd_n ?_) rfl)
      · cases e : numsIn ws with
        | none =>
          rw [e] at hb
          cases hb
        | some l =>
          rw [numsIn_some e, List.map_map]
          rfl
      · cases e : numsIn ws with
        | none => rfl
        | some l =>
          rw [e] at hb
          cases hb
theorem ok_law_numbers (b : Bl W) (t : Dg W "_law_numbers" 86) (f1 : Fk W 1 "_law_int" ["_law_word"] (spD W.K 1 RInt)) : Fk W 2 "_law_numbers" ["_law_words", "_law_least"] (spD W.K 2 RNumsL) :=
  t.fd (N := ["_law_words", "_law_least", "_law_found", "_law_word", "_law_own"]) ⟨rfl, rfl, rfl, by decide +kernel, rfl, by decide +kernel, by decide +kernel⟩ (fun _ _ _ _ _ _ us hl => match us, hl with | [_, _], _ => rfl) rfl fun E A H Q ds d q hl hR => by
    obtain ⟨ws, least, rfl, hw, rfl⟩ := hR
    have hm : (ws.map PyData.str).map (fun d => match d with | .str s => optL (numIn s) | _ => PyData.none) = (ws.map numIn).map optL := by
      rw [List.map_map, List.map_map]
      rfl
    have hm2 : (ws.map numIn).map optL = ws.map fun w => optL (numIn w) := by
      rw [List.map_map]
      rfl
    refine ds_cons (s_asgLc0 (i := 2) (j := 3) (x := "_law_found") (z := "_law_word") rfl rfl (xi_list (xv 0 rfl rfl)) (by rw [List.length_map]; exact hw.1) (fun d => match d with | .str s => optL (numIn s) | _ => .none) (fun d hd => ?_) ?_)
    · obtain ⟨w, hw', rfl⟩ := List.mem_map.mp hd
      exact xd_call f1 (xds_cons (xv 3 rfl rfl) xds_nil) ⟨w, rfl, hw.2 w hw', rfl⟩
    · rw [hm]
      refine ds_one (ret_d (xd_if (k := !(numsIn ws).isNone && decide (least ≤ ws.length)) (XT.is (xt_and2 (xt_cmp (xd_lst xds_nil (by simp)) (xv 2 rfl rfl) (oc_niD rfl (shaped_optLs _))) fun _ => xt_cmp (xd_callB boot_len b.len (xds_cons (xv 2 rfl rfl) xds_nil) of_lenL) (xv 1 rfl rfl) oc_ge) ?_) (fun hb => ?_) fun hb => XD.is (xd_lst xds_nil (by simp)) ?_) rfl)
      · rw [hm2, numsIn_anyL, List.length_map]
        simp
      · have hb := (Bool.and_eq_true _ _).mp hb
        cases e : numsIn ws with
        | none =>
          rw [e] at hb
          cases hb.1
        | some l =>
          have hll := numsIn_len e
          have hle : least ≤ l.length := by
            rw [hll]
            exact of_decide_eq_true hb.2
          have ee : numsAt ws least = some l := by
            unfold numsAt
            rw [e]
            exact if_pos hle
          rw [ee]
          refine xd_lst (xds_cons (xd_callT bt_tuple b.tuple (xds_cons (XD.is (xd_lc0 (x := "_law_own") (j := 4) rfl (xi_list (xv 2 rfl rfl)) (by rw [List.length_map, List.length_map]; exact hw.1) (fun d => match d with | .list (x :: _) => x | _ => .none) fun d hd => ?_) (?_ : _ = PyData.list (natsD l))) xds_nil) of_tupL) xds_nil) (by simp)
          · rw [numsIn_some e, List.map_map] at hd
            obtain ⟨n, hn, rfl⟩ := List.mem_map.mp hd
            exact xd_ix (xv 4 rfl rfl) xd_i (oi_L (atI_nat (j := 0) rfl))
          · rw [numsIn_some e, List.map_map, List.map_map]
            rfl
      · cases e : numsIn ws with
        | none =>
          unfold numsAt
          rw [e]
          rfl
        | some l =>
          have hll := numsIn_len e
          rw [e] at hb
          have hb : decide (least ≤ ws.length) = false := by simpa using hb
          have hle : ¬ least ≤ l.length := by
            rw [hll]
            exact of_decide_eq_false hb
          unfold numsAt
          rw [e]
          show _ = lstO (if least ≤ l.length then some l else none)
          rw [if_neg hle]
          rfl
end
end Ev
namespace Ev
open PySem PySem.Spec PyProof.Rows L2 Evl
/-! ### split -/
theorem spl_ok (S : List Nat) : ∀ (l : List Nat) (k : Nat) (acc : List Nat), TL.spl S k acc l ≠ [] ∧ ∀ p ∈ TL.spl S k acc l, p.length ≤ acc.length + l.length ∧ ∀ c ∈ p, c ∈ acc ∨ c ∈ l
  | [], k, acc => by
    rw [TL.spl_nil]
    exact ⟨by simp, fun p hp => by
      have e : p = acc := by simpa using hp
      subst e
      exact ⟨by simp, fun c hc => .inl hc⟩⟩
  | c :: r, 0, acc => by
    show (if TL.pre S (c :: r) = true then acc :: TL.spl S (S.length - 1) [] r else TL.spl S 0 (acc ++ [c]) r) ≠ [] ∧ ∀ p ∈ (if TL.pre S (c :: r) = true then acc :: TL.spl S (S.length - 1) [] r else TL.spl S 0 (acc ++ [c]) r), _
    split
    · obtain ⟨i1, i2⟩ := spl_ok S r (S.length - 1) []
      refine ⟨by simp, fun p hp => ?_⟩
      rcases List.mem_cons.mp hp with e | hp
      · subst e
        exact ⟨by omega, fun c hc => .inl hc⟩
      · obtain ⟨h1, h2⟩ := i2 p hp
        refine ⟨by rw [List.length_cons]; simp at h1; omega, fun d hd => ?_⟩
        rcases h2 d hd with z | z
        · cases z
        · exact .inr (List.mem_cons_of_mem _ z)
    · obtain ⟨i1, i2⟩ := spl_ok S r 0 (acc ++ [c])
      refine ⟨i1, fun p hp => ?_⟩
      obtain ⟨h1, h2⟩ := i2 p hp
      rw [List.length_append, List.length_singleton] at h1
      refine ⟨by rw [List.length_cons]; omega, fun d hd => ?_⟩
      rcases h2 d hd with z | z
      · rcases List.mem_append.mp z with z | z
        · exact .inl z
        · rw [List.mem_singleton.mp z]
          exact .inr List.mem_cons_self
      · exact .inr (List.mem_cons_of_mem _ z)
  | c :: r, k + 1, acc => by
    show TL.spl S k acc r ≠ [] ∧ ∀ p ∈ TL.spl S k acc r, _
    obtain ⟨i1, i2⟩ := spl_ok S r k acc
    refine ⟨i1, fun p hp => ?_⟩
    obtain ⟨h1, h2⟩ := i2 p hp
    refine ⟨by rw [List.length_cons]; omega, fun d hd => ?_⟩
    rcases h2 d hd with z | z
    · exact .inl z
    · exact .inr (List.mem_cons_of_mem _ z)
/-- a sign that parts a text -/
structure SepOk (y : Str) : Prop where
  ne : TL.tl y ≠ []
  k : y.cps.all (· < 256) = true
theorem sep_line : SepOk "\n" := ⟨by decide +kernel, by decide +kernel⟩
theorem sep_blank : SepOk " " := ⟨by decide +kernel, by decide +kernel⟩
structure TxOk (w : Str) : Prop where
  len : w.length ≤ 4000
  ok : PyData.strOk w = true
theorem TxOk.tok {w : Str} (h : TxOk w) : TOk w := ⟨Nat.le_trans h.len (by decide), h.ok⟩
theorem split_ok {x y : Str} (hx : TxOk x) (hy : SepOk y) : Txt.split x y ≠ [] ∧ (Txt.split x y).length ≤ 40000 ∧ ∀ w ∈ Txt.split x y, TxOk w := by
  have e := TL.split_spl x y hy.ne (TL.kind_ok hy.k)
  obtain ⟨h1, h2⟩ := spl_ok (TL.tl y) (TL.tl x) 0 []
  rw [← e] at h1 h2
  refine ⟨fun z => h1 (by rw [z]; rfl), Nat.le_trans (split_le x y) (by have := hx.len; omega), fun w hw => ?_⟩
  obtain ⟨k1, k2⟩ := h2 _ (List.mem_map.mpr ⟨w, hw, rfl⟩)
  refine ⟨?_, ?_⟩
  · rw [← TL.len_tl, ← TL.len_tl, List.length_nil, Nat.zero_add] at k1
    exact Nat.le_trans k1 hx.len
  · have hok := hx.ok
    unfold PyData.strOk at hok ⊢
    rw [Array.all_eq_true'] at hok ⊢
    intro c hc
    rcases k2 c (by simpa using hc) with z | z
    · cases z
    · exact hok c (by simpa using z)
section
variable {Γ : Gm} {ρ : Rho} {a b : Expr} {pos ap : Pos}
theorem xd_split {s sep : Str} (ho : XD Γ ρ a (.str s)) (he : XD Γ ρ b (.str sep)) (hz : s.length ≤ 40000) (hn : (sep.length == 0) = false) (ne : ∀ env, starEach [b] env = [(false, eval b env)] := by intro _; rfl) (hb : ∀ env, attributeBase a "split" env (eval a env) = eval a env := by intro _; rfl) (hl : (ap.endLine == pos.line) = true := by rfl) :
    XD Γ ρ (.Call (.Attribute a "split" ap) [b] [] pos) (strsD (Txt.split s sep)) := fun σ A sl => up_d (fun X hX => pe_split (pe_wg hX) (pe_wg hX) (ne X.env) (hb X.env) hl) (ed_mk fun H a Q q =>
  (ho σ A sl).run a fun v A2 H2 w hv => by
    have ev := dp_str hv
    subst ev
    refine ⟨⟨s, rfl⟩, (he σ A2 (sl.mono w.a)).run w.k fun u A3 H3 w3 hu => ?_⟩
    have eu := dp_str hu
    subst eu
    have w4 := w.trans w3
    refine ⟨s, sep, rfl, rfl, hn, by rw [sizeLine_eq]; omega, fun p hp => q _ _ _ (w4.trans (Gw.new w4.k hp)) (.lst (sq_of upd_same) ?_)⟩
    have : ∀ l : List Str, DpAll Γ.W.K (upd A3 p (.lst ((Txt.split s sep).map V.str))) (l.map V.str) (l.map .str) := fun l => by
      induction l with
      | nil => exact .nil
      | cons x l ih => exact .cons (.str x) ih
    exact this _)
end
/-! ### the lines of a text -/
def linesOf (s : Str) : List (List Str) := (Txt.split s "\n").map fun l => Txt.split l " "
def linesD (L : List (List Str)) : PyData := .list (L.map strsD)
structure LsOk (L : List (List Str)) : Prop where
  len : L.length ≤ 40000
  ws : ∀ ws ∈ L, ws ≠ [] ∧ WsOk ws
theorem lines_ok {s : Str} (h : TxOk s) : LsOk (linesOf s) := by
  obtain ⟨h1, h2, h3⟩ := split_ok h sep_line
  refine ⟨by unfold linesOf; rw [List.length_map]; exact h2, fun ws hw => ?_⟩
  obtain ⟨l, hl, rfl⟩ := List.mem_map.mp hw
  obtain ⟨k1, k2, k3⟩ := split_ok (h3 l hl) sep_blank
  exact ⟨k1, k2, fun w hw => (k3 w hw).tok⟩
def wordsAt (L : List (List Str)) (n : Nat) (word : Str) : Option (List Str) := match L[n]? with
  | some (w :: ws) => if w = word then some ws else none
  | _ => none
def lnM (C : Addr) (L : List (List Str)) (n : Nat) : MO := .obj C [("lines", linesD L), ("at", .int ((n : Nat) : Int))]
def badText (n : Int) : Xc := ⟨"BadText", [("line", .int n)]⟩
structure LnC (W : Wd) (C : Addr) : Prop where
  c : Cls W.K C
  nl : NoAttr W.K C "lines"
  na : NoAttr W.K C "at"
def DgM (W : Wd) (C : Addr) (m q : Str) (st : Stmt) : Prop := ∃ f fd, Cls W.K C ∧ Meth W.K C m f ∧ FunD W.K m q (defArgs st) (defBody st) (defScope st) [] [] f fd
def DgI (W : Wd) (x : Str) (C : Addr) (q : Str) (st : Stmt) : Prop := ∃ f fd, W.mg x = some (.ref C) ∧ Mk W.K C f ∧ FunD W.K "__init__" q (defArgs st) (defBody st) (defScope st) [] [] f fd
theorem fnM {W : Wd} {x qual : Str} {params : Arguments} {body : List Stmt} {scope : Scope} {f : Addr} {fd : FuncData} {N ps : List Str} {k n : Nat} {R : MR} (F : FunD W.K x qual params body scope [] [] f fd) (S : FnScope N ps scope) (hn : n = ps.length)
    (h : ∀ E (B : Fb (gmOf W N scope k E)) zs M P PX, B.F.ps0.length = M.length → B.Rt = (fun z M1 => okR M.length z ∧ okM M.length (M1.take M.length) ∧ P z (M1.take M.length)) → B.PX = (fun x M1 => okM M.length (M1.take M.length) ∧ PX x (M1.take M.length)) → zs.length = n → R zs M P PX → DS (gmOf W N scope k E) B (startR N zs) M body fun _ M1 => okM M.length (M1.take M.length) ∧ P (.d .none) (M1.take M.length)) :
    FnOk W.P W.w W.K W.mg W.base (L2.CX W.P W.w) (k + 1) f fd ps (spM W n R) :=
  F.ok S (fun vs H Q E ⟨A, qs, zs, M, P, PX, h1, _, _, h2, _⟩ => by rw [h2.len, h1, hn]) fun cdv A outer s H vs Q E hr ⟨A', qs, zs, M, P, PX, h1, h2, h3, h4, h5, h6, h7⟩ => ⟨WGss (gmOf W N scope k E) body, pss_wg (Γ := gmOf W N scope k E) ⟨rfl, rfl, rfl, rfl, rfl, rfl, rfl, rfl, hr, fun _ _ => .inl rfl, passes_of rfl, fun E' e => by
    cases e
    exact takes_of rfl rfl rfl rfl, trivial⟩,
    h E (fbM (gmOf W N scope k E) A' H Q qs M.length P PX h3.ln h6 (fun E' e => by cases e; exact h7)) zs M P PX h3.ln.symm rfl rfl h1 h5 A' H (L2.start N vs) qs (en_start h2 h3 h4) _ rfl fun A1 H1 σ1 ρ1 M1 ps1 x1 E1 hd =>
      h6 .non (.d .none) A1 H1 _ E1.fx (ms_take E1 h3.ln hd.1) .non hd.2⟩
theorem DgM.mt {W : Wd} {C : Addr} {m q : Str} {st : Stmt} {k n : Nat} {N ps : List Str} {R : MR} (D : DgM W C m q st) (S : FnScope N ps (defScope st))
    (hb : ∀ (kV doc pm : Value) (an : Option Addr) (cdv ct : Value) (us : List Value), us.length = ps.length → bindArgs (PySem.W.fnOf m q (defArgs st) (defBody st) (defScope st) .none kV doc pm an cdv ct) ⟨us, []⟩ = pure (ps.zip us)) (hn : n = ps.length)
    (h : ∀ E (B : Fb (gmOf W N (defScope st) k E)) zs M P PX, B.F.ps0.length = M.length → B.Rt = (fun z M1 => okR M.length z ∧ okM M.length (M1.take M.length) ∧ P z (M1.take M.length)) → B.PX = (fun x M1 => okM M.length (M1.take M.length) ∧ PX x (M1.take M.length)) → zs.length = n → R zs M P PX →
      DS (gmOf W N (defScope st) k E) B (startR N zs) M (defBody st) fun _ M1 => okM M.length (M1.take M.length) ∧ P (.d .none) (M1.take M.length)) : Mt W C (k + 1) m ps (spM W n R) := by
  obtain ⟨f, fd, h1, h2, F⟩ := D
  exact ⟨f, fd, h1, h2, F.bindsN hb, fnM F S hn h⟩
theorem DgI.mk {W : Wd} {x : Str} {C : Addr} {q : Str} {st : Stmt} {k n : Nat} {N ps : List Str} {R : MR} (D : DgI W x C q st) (S : FnScope N ps (defScope st))
    (hb : ∀ (kV doc pm : Value) (an : Option Addr) (cdv ct : Value) (us : List Value), us.length = ps.length → bindArgs (PySem.W.fnOf "__init__" q (defArgs st) (defBody st) (defScope st) .none kV doc pm an cdv ct) ⟨us, []⟩ = pure (ps.zip us)) (hn : n = ps.length)
    (h : ∀ E (B : Fb (gmOf W N (defScope st) k E)) zs M P PX, B.F.ps0.length = M.length → B.Rt = (fun z M1 => okR M.length z ∧ okM M.length (M1.take M.length) ∧ P z (M1.take M.length)) → B.PX = (fun x M1 => okM M.length (M1.take M.length) ∧ PX x (M1.take M.length)) → zs.length = n → R zs M P PX →
      DS (gmOf W N (defScope st) k E) B (startR N zs) M (defBody st) fun _ M1 => okM M.length (M1.take M.length) ∧ P (.d .none) (M1.take M.length)) : Mki W x C (k + 1) ps (spM W n R) := by
  obtain ⟨f, fd, h1, h2, F⟩ := D
  exact ⟨f, fd, h1, h2, F.bindsN hb, fnM F S hn h⟩
end Ev
namespace Ev
open PySem PySem.Spec PyProof.Rows L2 Evl
/-! ### the class of lines -/
theorem fin_ok {n : Nat} {M1 : List MO} {Q : List MO → Prop} (hl : M1.length = n) (ho : okM n M1) (h : Q M1) : okM n (M1.take n) ∧ Q (M1.take n) := by
  rw [List.take_of_length_le (by omega)]
  exact ⟨ho, h⟩
theorem okM_set {n j : Nat} {M : List MO} {m : MO} (h : okM n M) (hm : ∀ is, m ≠ .rfs is) : okM n (M.set j m) := fun is hi => by
  rcases List.mem_or_eq_of_mem_set hi with z | z
  · exact h is z
  · exact absurd z.symm (hm is)
def headIs (ws : List Str) (word : Str) : Bool := match ws with
  | w :: _ => decide (w = word)
  | [] => false
theorem wordsAt_none {L : List (List Str)} {n : Nat} {word : Str} (h : ¬ n < L.length) : wordsAt L n word = none := by
  unfold wordsAt
  rw [List.getElem?_eq_none (by omega)]
theorem wordsAt_head {L : List (List Str)} {n : Nat} {w word : Str} {ws : List Str} (h : L[n]? = some (w :: ws)) : wordsAt L n word = if w = word then some ws else none := by
  unfold wordsAt
  rw [h]
theorem wordsAt_row {L : List (List Str)} {n : Nat} {word : Str} {ws : List Str} (h : wordsAt L n word = some ws) : L[n]? = some (word :: ws) := by
  unfold wordsAt at h
  cases q : L[n]? with
  | none =>
    rw [q] at h
    cases h
  | some l =>
    rw [q] at h
    cases l with
    | nil => cases h
    | cons w r =>
      have h : (if w = word then some r else none) = some ws := h
      by_cases e : w = word
      · rw [if_pos e] at h
        cases h
        rw [e]
      · rw [if_neg e] at h
        cases h
theorem LsOk.row {L : List (List Str)} {n : Nat} (h : LsOk L) (hn : n < L.length) : ∃ w ws, L[n]? = some (w :: ws) ∧ WsOk (w :: ws) := by
  have e := List.getElem?_eq_getElem hn
  obtain ⟨h1, h2⟩ := h.ws _ (List.getElem_mem hn)
  cases q : L[n] with
  | nil => exact absurd q h1
  | cons w ws =>
    rw [q] at e h2
    exact ⟨w, ws, e, h2⟩
section
variable {Γ : Gm} {F : Fm} {ρ : Rho} {M : List MO} {P : SV → List MO → Prop} {j : Nat} {C : Addr} {L : List (List Str)} {n : Nat}
theorem dx_at (lc : LnC Γ.W C) {p px : Pos} (hN : Γ.N[0]? = some ("self" : Str)) (hr : ρ[0]? = some (some (.r j))) (hm : M[j]? = some (lnM C L n)) (h : P (.d (.int ((n : Nat) : Int))) M) (hv : Vis Γ.sc "self" := by first | exact Or.inl rfl | exact Or.inr (Or.inl rfl) | exact Or.inr (Or.inr rfl)) : DX Γ F ρ M (.Attribute (.Name "self" px) "at" p) P :=
  dx_fld lc.c lc.na hN hr hm (by kernel_rfl) h (by intro _; rfl) hv (by decide) (by decide)
theorem dx_lines (lc : LnC Γ.W C) {p px : Pos} (hN : Γ.N[0]? = some ("self" : Str)) (hr : ρ[0]? = some (some (.r j))) (hm : M[j]? = some (lnM C L n)) (h : P (.d (linesD L)) M) (hv : Vis Γ.sc "self" := by first | exact Or.inl rfl | exact Or.inr (Or.inl rfl) | exact Or.inr (Or.inr rfl)) : DX Γ F ρ M (.Attribute (.Name "self" px) "lines" p) P :=
  dx_fld lc.c lc.nl hN hr hm (by kernel_rfl) h (by intro _; rfl) hv (by decide) (by decide)
theorem dx_isn (b : Bl Γ.W) (lc : LnC Γ.W C) {word : Str} {k : Nat} {p1 p2 p3 p4 p5 p6 p7 p8 p9 p10 p11 p12 p13 p14 p15 p16 pos : Pos} (hN : Γ.N[0]? = some ("self" : Str)) (hN1 : Γ.N[1]? = some ("word" : Str)) (hr : ρ[0]? = some (some (.r j))) (hr1 : ρ[1]? = some (some (.d (.str word)))) (hm : M[j]? = some (lnM C L n)) (hL : LsOk L)
    (h : P (.d (.bool (wordsAt L n word).isSome)) M) (g : Glo Γ "len" := by rfl) (hv : Vis Γ.sc "self" := by first | exact Or.inl rfl | exact Or.inr (Or.inl rfl) | exact Or.inr (Or.inr rfl)) (hv1 : Vis Γ.sc "word" := by first | exact Or.inl rfl | exact Or.inr (Or.inl rfl) | exact Or.inr (Or.inr rfl)) :
    DX Γ F ρ M (.BoolOp .And [.Compare (.Attribute (.Name "self" p1) "at" p2) [.Lt] [.Call (.Name "len" p3) [.Attribute (.Name "self" p4) "lines" p5] [] p6] p7, .Compare (.Subscript (.Subscript (.Attribute (.Name "self" p8) "lines" p9) (.Attribute (.Name "self" p10) "at" p11) p12) (.Constant (.int 0) k p13) p14) [.Eq] [.Name "word" p15] p16] pos) P := by
  refine dx_and2 (dx_cmp (dx_at lc hN hr hm ⟨_, rfl, dx_callB boot_len b.len (dxs_cons (dx_lines lc hN hr hm (dxs_nil ⟨[linesD L], _, rfl, of_lenL, ⟨_, rfl, _, oc_lt, ⟨_, rfl, fun hk => ?_, fun hk => ?_⟩⟩⟩) hv) (by intro _ _; rfl)) g⟩ hv))
  · have hk : n < L.length := by
      have := of_decide_eq_true hk
      rw [List.length_map] at this
      omega
    obtain ⟨w, ws, hw, hws⟩ := hL.row hk
    refine dx_cmp (dx_ix (dx_ix (dx_lines lc hN hr hm ⟨_, rfl, dx_at lc hN hr hm ⟨_, rfl, strsD (w :: ws), oi_L (atI_nat (j := n) (by rw [List.getElem?_map, hw]; rfl)), ⟨_, rfl, dx_d xd_i ⟨_, rfl, .str w, oi_L (atI_nat (j := 0) rfl), ⟨_, rfl, dx_d (xd_var hN1 hr1 hv1 (by decide) (by decide)) ⟨_, rfl, _, oc_eqS, ?_⟩⟩⟩⟩⟩ hv⟩ hv)))
    rw [wordsAt_head hw] at h
    by_cases e : w = word
    · rw [if_pos e] at h
      rw [decide_eq_true e]
      exact h
    · rw [if_neg e] at h
      rw [decide_eq_false e]
      exact h
  · rw [wordsAt_none (fun z => by
      have := of_decide_eq_false hk
      rw [List.length_map] at this
      omega)] at h
    exact h
end
theorem lnM_put {C : Addr} {L : List (List Str)} {n : Nat} : MO.obj C (putD "at" (.int (((n : Nat) : Int) + 1)) [("lines", linesD L), ("at", .int ((n : Nat) : Int))]) = lnM C L (n + 1) := by
  rw [putD, if_neg (by decide +kernel), putD, if_pos rfl]
  rfl
theorem dx_slL {Γ : Gm} {F : Fm} {ρ : Rho} {M : List MO} {P : SV → List MO → Prop} {a : Expr} {pos p2 : Pos} {lo hi : Option Expr} {l u : Option Int} (ha : DX Γ F ρ M a fun z M1 => ∃ ds, z = .d (.list ds) ∧ P (.d (.list (cutG ds l u))) M1) (h1 : XO Γ ρ lo l) (h2 : XO Γ ρ hi u) : DX Γ F ρ M (.Subscript a (.Slice lo hi none p2) pos) P := fun A H σ ps E Q q =>
  WG.of (te := tSl (rSlL Γ.W.K) (WG Γ a) (WGo Γ lo) (WGo Γ hi)) (fun X h => pe_slice (h.K ▸ sl_list : SlR X (rSlL Γ.W.K)) (pe_wg h) (po_wg h) (po_wg h)) (ha A H σ ps E _ fun v z A1 H1 M1 ps1 e1 E1 r ⟨ds, hz, p⟩ => h1 σ A1 E1.sl H1 E1.ah _ fun H2 e2 => h2 σ A1 E1.sl H2 (E1.ah.trans e2) _ fun H3 e3 => by
    subst hz
    obtain ⟨a, xs, rfl, hs, hxs⟩ := dp_list r
    have w := Gw.grow E1.ah (e2.trans e3)
    refine ⟨a, xs, rfl, ex_l w.k hs, fun ad had => ?_⟩
    have w2 := w.trans (Gw.new (o := .lst (cutV xs l u)) w.k had)
    exact q _ (.d _) _ _ M1 ps1 (e1.trans (.of w2.a)) (E1.step w2) (.lst (sq_of upd_same) (dpa_cut (hxs.ex w2.a) _ _)) p)
def numbersAt (L : List (List Str)) (n : Nat) (word : Str) (least : Nat) : Option (List Nat) := match wordsAt L n word with
  | some ws => numsAt ws least
  | none => none
def cabOf (ws : List Str) : Option Cab := match ws with
  | [a, b, k] => match numIn a, numIn b with
    | some x, some y => if kindOk k = true then some ((x : Int), (y : Int), k) else none
    | _, _ => none
  | _ => none
def cableAt (L : List (List Str)) (n : Nat) : Option Cab := match wordsAt L n "cable" with
  | some ws => cabOf ws
  | none => none
abbrev RLneed (C : Addr) : MR := fun zs M P PX => ∃ (j : Nat) (L : List (List Str)) (n : Nat) (g : Bool), zs = [.r j, .d (.bool g)] ∧ M[j]? = some (lnM C L n) ∧ okM M.length M ∧ (g = false → PX (badText n) M) ∧ (g = true → P (.d .none) M)
abbrev RLwords (C : Addr) : MR := fun zs M P PX => ∃ (j : Nat) (L : List (List Str)) (n : Nat) (word : Str), zs = [.r j, .d (.str word)] ∧ M[j]? = some (lnM C L n) ∧ okM M.length M ∧ LsOk L ∧ (wordsAt L n word = none → PX (badText n) M) ∧ ∀ ws, wordsAt L n word = some ws → P (.d (strsD ws)) (M.set j (lnM C L (n + 1)))
abbrev RLnext (C : Addr) : MR := fun zs M P PX => ∃ (j : Nat) (L : List (List Str)) (n : Nat) (word : Str), zs = [.r j, .d (.str word)] ∧ M[j]? = some (lnM C L n) ∧ okM M.length M ∧ LsOk L ∧ P (.d (.bool (wordsAt L n word).isSome)) M
abbrev RLend (C : Addr) : MR := fun zs M P PX => ∃ (j : Nat) (L : List (List Str)) (n : Nat), zs = [.r j] ∧ M[j]? = some (lnM C L n) ∧ okM M.length M ∧ (n < L.length → PX (badText n) M) ∧ (L.length ≤ n → P (.d .none) M)
abbrev RLinit (C : Addr) : MR := fun zs M P PX => ∃ (j : Nat) (d : PyData), zs = [.r j, .d d] ∧ M[j]? = some (.obj C []) ∧ okM M.length M ∧ (∀ s, d = .str s → TxOk s ∧ P (.d .none) (M.set j (lnM C (linesOf s) 0))) ∧ ((∀ s, d ≠ .str s) → PX (badText (-1)) M)
section
variable {W : Wd} {C : Addr}
theorem ok_need (lc : LnC W C) {CT : Addr} (T : Xcl W "BadText" CT 1 ["line"]) (t : DgM W C "need" "Lines.need" (stL 1)) : Mt W C 3 "need" ["self", "is_good"] (spM W 2 (RLneed C)) :=
  t.mt (N := ["self", "is_good"]) ⟨rfl, rfl, rfl, by decide +kernel, rfl, by decide +kernel, by decide +kernel⟩ (fun _ _ _ _ _ _ us hl => match us, hl with | [_, _], _ => rfl) rfl fun E B zs M P PX hF hRt hPX hl hR => by
    obtain ⟨j, L, n, g, rfl, hm, ho, hb, hk⟩ := hR
    refine ds_one (s_if (dt_t (xt_not (xt_v (xv 1 rfl rfl))) ⟨fun h => ds_one (s_raise T ⟨_, rfl⟩ (dxs_cons (dx_at lc rfl rfl hm (dxs_nil ⟨[.int n], rfl, rfl, by decide, ?_⟩)))), fun h => ds_nil ?_⟩))
    · rw [hPX]
      exact fin_ok rfl ho (hb (by simpa using h))
    · exact fin_ok (Q := P (.d .none)) rfl ho (hk (by simpa using h))
theorem ok_words (b : Bl W) (lc : LnC W C) (t : DgM W C "words" "Lines.words" (stL 2)) (f1 : Mt W C 3 "need" ["self", "is_good"] (spM W 2 (RLneed C))) : Mt W C 4 "words" ["self", "word"] (spM W 2 (RLwords C)) :=
  t.mt (N := ["self", "word"]) ⟨rfl, rfl, rfl, by decide +kernel, rfl, by decide +kernel, by decide +kernel⟩ (fun _ _ _ _ _ _ us hl => match us, hl with | [_, _], _ => rfl) rfl fun E B zs M P PX hF hRt hPX hl hR => by
    obtain ⟨j, L, n, word, rfl, hm, ho, hL, hb, hk⟩ := hR
    have hj : j < M.length := (List.getElem?_eq_some_iff.mp hm).1
    refine ds_cons (s_expr (dx_meth (PX := B.PX) f1 (.inl rfl) B.hX (i := 0) rfl rfl hm (by kernel_rfl) (dxs_cons (dx_isn b lc rfl rfl rfl rfl hm hL (dxs_nil ⟨rfl, j, L, n, _, rfl, hm, ho, fun h => ?_, fun h => ?_⟩)))))
    · rw [hPX]
      refine fin_ok rfl ho (hb ?_)
      cases q : wordsAt L n word with
      | none => rfl
      | some x =>
        rw [q] at h
        cases h
    · cases q : wordsAt L n word with
      | none =>
        rw [q] at h
        cases h
      | some ws =>
        have hrow := wordsAt_row q
        refine ds_cons (s_fldinc (n0 := ((n : Nat) : Int)) (n1 := 1) lc.c lc.na (i := 0) rfl rfl hm (by kernel_rfl) xd_i (by show (2 : Nat) < 1000; decide) ?_)
        rw [lnM_put]
        have hm2 : (M.set j (lnM C L (n + 1)))[j]? = some (lnM C L (n + 1)) := List.getElem?_set_self hj
        have hn : n < L.length := (List.getElem?_eq_some_iff.mp hrow).1
        refine ds_one (s_ret (dx_slL (dx_ix (dx_lines lc rfl rfl hm2 ⟨_, rfl, dx_bin (dx_at lc rfl rfl hm2 ⟨_, rfl, dx_d xd_i ⟨_, rfl, _, ob_sub, ⟨_, rfl, strsD (word :: ws), ?_, ⟨_, rfl, ?_⟩⟩⟩⟩)⟩)) (xo_i xd_i) xo_n))
        · rw [show (((n + 1 : Nat) : Int) - 1) = ((n : Nat) : Int) by omega]
          exact oi_L (atI_nat (j := n) (by rw [List.getElem?_map, hrow]; rfl))
        · rw [show (1 : Int) = ((1 : Nat) : Int) from rfl, cut_drop, hRt]
          refine ⟨trivial, fin_ok (Q := fun M1 => P _ M1) (by rw [List.length_set]) (okM_set ho fun _ z => by cases z) ?_⟩
          exact hk ws q
abbrev RLnums (C : Addr) : MR := fun zs M P PX => ∃ (j : Nat) (L : List (List Str)) (n : Nat) (word : Str) (least : Nat), zs = [.r j, .d (.str word), .d (.int (least : Int))] ∧ M[j]? = some (lnM C L n) ∧ okM M.length M ∧ LsOk L ∧ (numbersAt L n word least = none → PX (badText n) M ∧ PX (badText n) (M.set j (lnM C L (n + 1)))) ∧ ∀ l, numbersAt L n word least = some l → P (.d (.tuple (natsD l))) (M.set j (lnM C L (n + 1)))
abbrev RLcable (C : Addr) : MR := fun zs M P PX => ∃ (j : Nat) (L : List (List Str)) (n : Nat), zs = [.r j] ∧ M[j]? = some (lnM C L n) ∧ okM M.length M ∧ LsOk L ∧ (cableAt L n = none → PX (badText n) M ∧ PX (badText n) (M.set j (lnM C L (n + 1)))) ∧ ∀ c, cableAt L n = some c → P (.d (cabD c)) (M.set j (lnM C L (n + 1)))
theorem wsOk_tail {w : Str} {ws : List Str} (h : WsOk (w :: ws)) : WsOk ws := ⟨by have := h.1; rw [List.length_cons] at this; omega, fun x hx => h.2 x (List.mem_cons_of_mem _ hx)⟩
theorem LsOk.tail {L : List (List Str)} {n : Nat} {w : Str} {ws : List Str} (h : LsOk L) (e : L[n]? = some (w :: ws)) : WsOk ws := wsOk_tail (h.ws _ (List.mem_of_getElem? e)).2
theorem ok_is_next (b : Bl W) (lc : LnC W C) (t : DgM W C "is_next" "Lines.is_next" (stL 3)) : Mt W C 1 "is_next" ["self", "word"] (spM W 2 (RLnext C)) :=
  t.mt (N := ["self", "word"]) ⟨rfl, rfl, rfl, by decide +kernel, rfl, by decide +kernel, by decide +kernel⟩ (fun _ _ _ _ _ _ us hl => match us, hl with | [_, _], _ => rfl) rfl fun E B zs M P PX hF hRt hPX hl hR => by
    obtain ⟨j, L, n, word, rfl, hm, ho, hL, hk⟩ := hR
    refine ds_one (s_ret (dx_isn b lc rfl rfl rfl rfl hm hL ?_))
    rw [hRt]
    exact ⟨trivial, fin_ok (Q := fun M1 => P _ M1) rfl ho hk⟩
theorem ok_end (b : Bl W) (lc : LnC W C) (t : DgM W C "end" "Lines.end" (stL 6)) (f1 : Mt W C 3 "need" ["self", "is_good"] (spM W 2 (RLneed C))) : Mt W C 4 "end" ["self"] (spM W 1 (RLend C)) :=
  t.mt (N := ["self"]) ⟨rfl, rfl, rfl, by decide +kernel, rfl, by decide +kernel, by decide +kernel⟩ (fun _ _ _ _ _ _ us hl => match us, hl with | [_], _ => rfl) rfl fun E B zs M P PX hF hRt hPX hl hR => by
    obtain ⟨j, L, n, rfl, hm, ho, hb, hk⟩ := hR
    refine ds_one (s_expr (dx_meth (PX := B.PX) f1 (.inl rfl) B.hX (i := 0) rfl rfl hm (by kernel_rfl) (dxs_cons (dx_cmp (dx_at lc rfl rfl hm ⟨_, rfl, dx_callB boot_len b.len (dxs_cons (dx_lines lc rfl rfl hm (dxs_nil ⟨[linesD L], _, rfl, of_lenL, ⟨_, rfl, _, oc_ge, dxs_nil ⟨rfl, j, L, n, _, rfl, hm, ho, fun h => ?_, fun h => ?_⟩⟩⟩)))⟩)))))
    · rw [hPX]
      refine fin_ok rfl ho (hb ?_)
      have := of_decide_eq_false h
      rw [List.length_map] at this
      omega
    · refine fin_ok (Q := fun M1 => P _ M1) rfl ho (hk ?_)
      have := of_decide_eq_true h
      rw [List.length_map] at this
      omega
theorem ok_numbers (b : Bl W) (lc : LnC W C) {CT : Addr} (T : Xcl W "BadText" CT 1 ["line"]) (t : DgM W C "numbers" "Lines.numbers" (stL 4)) (f1 : Mt W C 4 "words" ["self", "word"] (spM W 2 (RLwords C))) (f2 : Fk W 2 "numbers_in" ["words"] (spD W.K 1 RNums)) : Mt W C 5 "numbers" ["self", "word", "least"] (spM W 3 (RLnums C)) :=
  t.mt (N := ["self", "word", "least", "found"]) ⟨rfl, rfl, rfl, by decide +kernel, rfl, by decide +kernel, by decide +kernel⟩ (fun _ _ _ _ _ _ us hl => match us, hl with | [_, _, _], _ => rfl) rfl fun E B zs M P PX hF hRt hPX hl hR => by
    obtain ⟨j, L, n, word, least, rfl, hm, ho, hL, hb, hk⟩ := hR
    have hj : j < M.length := (List.getElem?_eq_some_iff.mp hm).1
    refine ds_cons (s_asg (i := 3) rfl (dx_callD f2 (dxs_cons (dx_meth (PX := B.PX) f1 (.inl rfl) B.hX (i := 0) rfl rfl hm (by kernel_rfl) (dxs_cons (dx_d (xv 1 rfl rfl) (dxs_nil ⟨rfl, j, L, n, word, rfl, hm, ho, hL, fun h => ?_, fun ws h => dxs_nil ⟨[_], _, rfl, rfl, ⟨ws, rfl, hL.tail (wordsAt_row h), rfl⟩, ?_⟩⟩)))))))
    · rw [hPX]
      exact fin_ok rfl ho (hb (by unfold numbersAt; rw [h])).1
    · have hm2 : (M.set j (lnM C L (n + 1)))[j]? = some (lnM C L (n + 1)) := List.getElem?_set_self hj
      have ho2 : okM M.length (M.set j (lnM C L (n + 1))) := okM_set ho fun _ z => by cases z
      have hna : numbersAt L n word least = numsAt ws least := by
        unfold numbersAt
        rw [h]
      have bad : numsAt ws least = none → B.PX (badText n) (M.set j (lnM C L (n + 1))) := fun e => by
        rw [hPX]
        exact fin_ok (by rw [List.length_set]) ho2 (hb (by rw [hna, e])).2
      have e1 : (((n + 1 : Nat) : Int) - 1) = ((n : Nat) : Int) := by omega
      have bad' : numsAt ws least = none → B.PX (badText (((n + 1 : Nat) : Int) - 1)) (M.set j (lnM C L (n + 1))) := fun e => by
        rw [e1]
        exact bad e
      cases e : numsIn ws with
      | none =>
        have en : numsAt ws least = none := by
          unfold numsAt
          rw [e]
        refine ds_cons (s_if (dt_t (XT.is (xt_or2 (k' := true) (xt_cmp (xv 3 rfl rfl) xd_n oc_isN) fun h => (by cases h)) (rfl : _ = true)) ⟨fun _ => ?_, fun h => (by cases h)⟩))
        · exact ds_one (s_raise T ⟨_, rfl⟩ (dxs_cons (dx_bin (dx_at lc rfl rfl hm2 ⟨_, rfl, dx_d xd_i ⟨_, rfl, _, ob_sub, dxs_nil ⟨[_], rfl, rfl, by decide, bad' en⟩⟩⟩))))
      | some l =>
        have en : numsAt ws least = if least ≤ l.length then some l else none := by
          unfold numsAt
          rw [e]
        refine ds_cons (s_if (dt_t (XT.is (xt_or2 (xt_cmp (xv 3 rfl rfl) xd_n oc_isN) fun h => xt_cmp (xd_callB boot_len b.len (xds_cons (xv 3 rfl rfl) xds_nil) of_lenT) (xv 2 rfl rfl) oc_lt) (?_ : _ = decide (l.length < least))) ⟨fun h => ?_, fun h => ds_nil ?_⟩))
        · show (false || decide (((natsD l).length : Int) < (least : Int))) = _
          unfold natsD
          rw [List.length_map, Bool.false_or]
          simp only [Int.ofNat_lt]
        · have h := of_decide_eq_true h
          exact ds_one (s_raise T ⟨_, rfl⟩ (dxs_cons (dx_bin (dx_at lc rfl rfl hm2 ⟨_, rfl, dx_d xd_i ⟨_, rfl, _, ob_sub, dxs_nil ⟨[_], rfl, rfl, by decide, bad' (by rw [en, if_neg (by omega)])⟩⟩⟩))))
        · have h := of_decide_eq_false h
          refine ds_one (s_ret (dx_d (xv 3 rfl rfl) ?_))
          rw [hRt]
          exact ⟨trivial, fin_ok (Q := fun M1 => P _ M1) (by rw [List.length_set]) ho2 (hk l (by rw [hna, en, if_pos (by omega)]))⟩
theorem ok_cable (b : Bl W) (lc : LnC W C) {CT : Addr} (T : Xcl W "BadText" CT 1 ["line"]) (t : DgM W C "cable" "Lines.cable" (stL 5)) (g1 : Gs W "CABLE" "cable") (g2 : Gs W "POST" "post") (g3 : Gs W "PRE" "pre") (f1 : Mt W C 4 "words" ["self", "word"] (spM W 2 (RLwords C))) (f2 : Fk W 2 "numbers_in" ["words"] (spD W.K 1 RNums)) : Mt W C 5 "cable" ["self"] (spM W 1 (RLcable C)) :=
  t.mt (N := ["self", "words", "found"]) ⟨rfl, rfl, rfl, by decide +kernel, rfl, by decide +kernel, by decide +kernel⟩ (fun _ _ _ _ _ _ us hl => match us, hl with | [_], _ => rfl) rfl fun E B zs M P PX hF hRt hPX hl hR => by
    obtain ⟨j, L, n, rfl, hm, ho, hL, hb, hk⟩ := hR
    have hj : j < M.length := (List.getElem?_eq_some_iff.mp hm).1
    refine ds_cons (s_asg (i := 1) rfl (dx_meth (PX := B.PX) f1 (.inl rfl) B.hX (i := 0) rfl rfl hm (by kernel_rfl) (dxs_cons (dx_d (xgs g1) (dxs_nil ⟨rfl, j, L, n, "cable", rfl, hm, ho, hL, fun h => ?_, fun ws h => ?_⟩)))))
    · rw [hPX]
      exact fin_ok rfl ho (hb (by unfold cableAt; rw [h])).1
    · have hm2 : (M.set j (lnM C L (n + 1)))[j]? = some (lnM C L (n + 1)) := List.getElem?_set_self hj
      have ho2 : okM M.length (M.set j (lnM C L (n + 1))) := okM_set ho fun _ z => by cases z
      have hws := hL.tail (wordsAt_row h)
      have hca : cableAt L n = cabOf ws := by
        unfold cableAt
        rw [h]
      have e1 : (((n + 1 : Nat) : Int) - 1) = ((n : Nat) : Int) := by omega
      have bad : cabOf ws = none → B.PX (badText (((n + 1 : Nat) : Int) - 1)) (M.set j (lnM C L (n + 1))) := fun e => by
        rw [e1, hPX]
        exact fin_ok (by rw [List.length_set]) ho2 (hb (by rw [hca, e])).2
      have ht2 : WsOk (ws.take 2) := ⟨Nat.le_trans (List.length_take_le _ _) (by decide), fun w hw => hws.2 w (List.mem_of_mem_take hw)⟩
      refine ds_cons (s_asg (i := 2) rfl (dx_d (XD.is (xd_call f2 (xds_cons (XD.is (xd_slL (xv 1 rfl rfl) xo_n (xo_i xd_i)) (?_ : _ = strsD (ws.take 2))) xds_nil) ⟨_, rfl, ht2, rfl⟩) rfl) ?_))
      · rw [show (2 : Int) = ((2 : Nat) : Int) from rfl, cut_take, ← List.map_take]
        rfl
      by_cases l3 : ws.length = 3
      · obtain ⟨x, y, k, rfl⟩ : ∃ x y k, ws = [x, y, k] := by
          match ws, l3 with
          | [x, y, k], _ => exact ⟨x, y, k, rfl⟩
        have n2 : numsIn [x, y] = match numIn x, numIn y with
            | some a, some c => some [a, c]
            | _, _ => none := by
          simp only [numsIn]
          cases numIn x with
          | none => rfl
          | some a => cases numIn y <;> rfl
        cases e : numsIn [x, y] with
        | none =>
          have en : cabOf [x, y, k] = none := by
            rw [e] at n2
            simp only [cabOf]
            cases q : numIn x with
            | none => rfl
            | some a =>
              cases q2 : numIn y with
              | none => rfl
              | some c =>
                rw [q, q2] at n2
                cases n2
          have e' : numsIn ([x, y, k].take 2) = none := e
          rw [e']
          refine ds_cons (s_if (dt_t (XT.is (xt_or3 (k'' := true) (xt_cmp (xd_callB boot_len b.len (xds_cons (xv 1 rfl rfl) xds_nil) of_lenL) xd_i oc_neI) (fun _ => xt_cmp (xv 2 rfl rfl) xd_n oc_isN) fun _ h => (by cases h)) (rfl : _ = true)) ⟨fun _ => ?_, fun h => (by cases h)⟩))
          · exact ds_one (s_raise T ⟨_, rfl⟩ (dxs_cons (dx_bin (dx_at lc rfl rfl hm2 ⟨_, rfl, dx_d xd_i ⟨_, rfl, _, ob_sub, dxs_nil ⟨[_], rfl, rfl, by decide, bad en⟩⟩⟩))))
        | some l =>
          obtain ⟨a, c, q, q2, rfl⟩ : ∃ a c, numIn x = some a ∧ numIn y = some c ∧ l = [a, c] := by
            rw [e] at n2
            cases q : numIn x with
            | none =>
              rw [q] at n2
              cases n2
            | some a =>
              cases q2 : numIn y with
              | none =>
                rw [q, q2] at n2
                cases n2
              | some c =>
                rw [q, q2] at n2
                cases n2
                exact ⟨a, c, rfl, rfl, rfl⟩
          have en : cabOf [x, y, k] = if kindOk k = true then some ((a : Int), (c : Int), k) else none := by
            simp only [cabOf, q, q2]
          have kk : decide (k ∈ (["post", "pre"] : List Str)) = kindOk k := by
            unfold kindOk
            simp
          have e' : numsIn ([x, y, k].take 2) = some [a, c] := e
          rw [e']
          refine ds_cons (s_if (dt_t (XT.is (xt_or3 (xt_cmp (xd_callB boot_len b.len (xds_cons (xv 1 rfl rfl) xds_nil) of_lenL) xd_i oc_neI) (fun _ => xt_cmp (xv 2 rfl rfl) xd_n oc_isN) fun _ _ => xt_cmp (xd_ix (xv 1 rfl rfl) xd_i (oi_L (atI_nat (j := 2) rfl))) (xd_tup (xds_cons (xgs g2) (xds_cons (xgs g3) xds_nil))) (oc_niST (ys := ["post", "pre"]))) (?_ : _ = !kindOk k)) ⟨fun h => ?_, fun h => ds_nil ?_⟩))
          · rw [kk]
            rfl
          · have h : kindOk k = false := by simpa using h
            exact ds_one (s_raise T ⟨_, rfl⟩ (dxs_cons (dx_bin (dx_at lc rfl rfl hm2 ⟨_, rfl, dx_d xd_i ⟨_, rfl, _, ob_sub, dxs_nil ⟨[_], rfl, rfl, by decide, bad (by rw [en, h]; rfl)⟩⟩⟩))))
          · have h : kindOk k = true := by simpa using h
            refine ds_one (s_ret (dx_d (xd_bin (xv 2 rfl rfl) (xd_tup (xds_cons (xd_ix (xv 1 rfl rfl) xd_i (oi_L (atI_nat (j := 2) rfl))) xds_nil)) (ob_catT (by simp [natsD]))) ?_))
            rw [hRt]
            exact ⟨trivial, fin_ok (Q := fun M1 => P _ M1) (by rw [List.length_set]) ho2 (hk ((a : Int), (c : Int), k) (by rw [hca, en, if_pos h]))⟩
      · have en : cabOf ws = none := by
          unfold cabOf
          split
          · exact absurd rfl l3
          · rfl
        refine ds_cons (s_if (dt_t (XT.is (xt_or3 (k' := true) (k'' := true) (XT.is (xt_cmp (xd_callB boot_len b.len (xds_cons (xv 1 rfl rfl) xds_nil) of_lenL) xd_i oc_neI) (?_ : _ = true)) (fun h => (by cases h)) fun h => (by cases h)) (rfl : _ = true)) ⟨fun _ => ?_, fun h => (by cases h)⟩))
        · rw [List.length_map]
          have : ¬ ((ws.length : Nat) : Int) = 3 := by omega
          rw [decide_eq_false this]
          rfl
        · exact ds_one (s_raise T ⟨_, rfl⟩ (dxs_cons (dx_bin (dx_at lc rfl rfl hm2 ⟨_, rfl, dx_d xd_i ⟨_, rfl, _, ob_sub, dxs_nil ⟨[_], rfl, rfl, by decide, bad en⟩⟩⟩))))
end
end Ev
namespace Ev
open PySem PySem.Spec PyProof.Rows L2 Evl
/-! ### Lines(text) -/
section
variable {Γ : Gm} {ρ : Rho} {a : Expr} {pos : Pos}
theorem xd_neg {i : Int} (h : XD Γ ρ a (.int i)) : XD Γ ρ (.UnaryOp .USub a pos) (.int (-i)) := fun σ A s => up_d (fun X hX => pe_un un_neg (pe_wg hX)) (ed_mk fun H a Q q => (h σ A s).run a fun v A2 H2 w hv => by
  have ev := dp_int hv
  subst ev
  exact ⟨i, rfl, q _ _ _ w (.int _)⟩)
end
section
variable {W : Wd} {C : Addr}
theorem ok_init_lines (b : Bl W) (lc : LnC W C) {CT : Addr} (T : Xcl W "BadText" CT 1 ["line"]) (t : DgI W "Lines" C "Lines.__init__" (stL 0)) (g1 : Gs W "BLANK" " ") (g2 : Gs W "LINE" "\n") : Mki W "Lines" C 3 ["self", "text"] (spM W 2 (RLinit C)) :=
  t.mk (N := ["self", "text", "line"]) ⟨rfl, rfl, rfl, by decide +kernel, rfl, by decide +kernel, by decide +kernel⟩ (fun _ _ _ _ _ _ us hl => match us, hl with | [_, _], _ => rfl) rfl fun E B zs M P PX hF hRt hPX hl hR => by
    obtain ⟨j, d, rfl, hm, ho, hk, hb⟩ := hR
    have hj : j < M.length := (List.getElem?_eq_some_iff.mp hm).1
    refine ds_cons (s_if (dt_t (xt_not (xt_v (xd_isi b.isinstance b.str bt_str (xv 1 rfl rfl) (kit_s _)))) ⟨fun h => ?_, fun h => ds_nil ?_⟩))
    · refine ds_one (s_raise T ⟨_, rfl⟩ (dxs_d (xds_cons (xd_neg xd_i) xds_nil) ⟨[_], rfl, rfl, by decide, ?_⟩))
      rw [hPX]
      exact fin_ok rfl ho (hb fun s e => by
        subst e
        cases h)
    · obtain ⟨s, rfl⟩ : ∃ s, d = .str s := by
        cases d with
        | str s => exact ⟨s, rfl⟩
        | _ => cases h
      obtain ⟨hs, hp⟩ := hk s rfl
      obtain ⟨h1, h2, h3⟩ := split_ok hs sep_line
      refine ds_cons (s_fld lc.c lc.nl (i := 0) rfl rfl (dx_d (XD.is (xd_lc0 (x := "line") (j := 2) rfl (xi_list (xd_split (xv 1 rfl rfl) (xgs g2) hs.tok.len (by decide +kernel))) (by rw [List.length_map]; exact h2) (fun d => match d with | .str l => strsD (Txt.split l " ") | _ => .none) fun d hd => ?_) (?_ : _ = linesD (linesOf s))) ⟨_, [], rfl, hm, by decide, ?_⟩))
      · obtain ⟨l, hl', rfl⟩ := List.mem_map.mp hd
        exact xd_split (xv 2 rfl rfl) (xgs g1) (h3 l hl').tok.len (by decide +kernel)
      · unfold linesD linesOf
        rw [List.map_map, List.map_map]
        rfl
      · refine ds_one (s_fld lc.c lc.na (i := 0) rfl rfl (dx_d xd_i ⟨_, _, rfl, List.getElem?_set_self hj, (by show (1 : Nat) < 1000; decide), ?_⟩))
        rw [List.set_set]
        have e : MO.obj C (putD "at" (.int 0) (putD "lines" (linesD (linesOf s)) [])) = lnM C (linesOf s) 0 := by
          rw [putD, putD, if_neg (by decide +kernel), putD]
          rfl
        rw [e]
        exact fin_ok (Q := P _) (by rw [List.length_set]) (okM_set ho fun _ z => by cases z) hp
end
end Ev
namespace Ev
open PySem PySem.Spec PyProof.Rows L2 Evl
/-! ### how lines are told, row by row -/
inductive Row where
  | names (m : Nat)
  | box (l : List Nat)
  | cable (c : Cab)
  | loop (a b : Nat) (l : List Nat)
def tell (ws : List Str) : Option Row := match ws with
  | [] => none
  | w :: r => if w = "cable" then (cabOf r).map .cable
    else if w = "names" then (match numsAt r 1 with
      | some [m] => some (.names m)
      | _ => none)
    else if w = "box" then (numsAt r 1).map .box
    else if w = "loop" then (match numsAt r 3 with
      | some (a :: b :: l) => some (.loop a b l)
      | _ => none)
    else none
def goes : Nat → Row → Bool
  | 0, .names _ => true
  | 1, .box _ => true
  | 2, .box _ => true
  | 2, .cable _ => true
  | 2, .loop _ _ _ => true
  | 3, .cable _ => true
  | 3, .loop _ _ _ => true
  | 4, .loop _ _ _ => true
  | _, _ => false
def nxt : Row → Nat
  | .names _ => 1
  | .box _ => 2
  | .cable _ => 3
  | .loop _ _ _ => 4
def toI (l : List Nat) : List Int := l.map fun n => ((n : Nat) : Int)
def addR (r : Rack) : Row → Rack
  | .names m => { r with names := m }
  | .box l => { r with boxes := r.boxes ++ [toI l] }
  | .cable c => { r with cables := r.cables ++ [c] }
  | .loop a b l => { r with loops := r.loops ++ [((a : Int), (b : Int), toI l)] }
def run : List (List Str) → Nat → Nat → Rack → Nat ⊕ Rack
  | [], st, k, r => if st = 1 then .inl k else .inr r
  | ws :: rest, st, k, r => match tell ws with
    | some row => if goes st row = true then run rest (nxt row) (k + 1) (addR r row) else .inl k
    | none => .inl k
def noRack : Rack := ⟨0, [], [], []⟩
def readRack (L : List (List Str)) : Nat ⊕ Rack := run L 0 0 noRack
theorem natsD_eq (l : List Nat) : PyData.tuple (natsD l) = intsD (toI l) := by
  unfold natsD intsD toI
  rw [List.map_map]
  rfl
structure SzB (r : Rack) (n : Nat) : Prop where
  b : r.boxes.length ≤ n
  c : r.cables.length ≤ n
  l : r.loops.length ≤ n
  bb : ∀ b ∈ r.boxes, b.length ≤ 40000
  ck : ∀ c ∈ r.cables, kindOk c.2.2 = true
  ll : ∀ l ∈ r.loops, l.2.2.length ≤ 40000
theorem SzB.sz {r : Rack} {n : Nat} (h : SzB r n) (hn : n ≤ 40000) : RackSz r := ⟨Nat.le_trans h.b hn, Nat.le_trans h.c hn, Nat.le_trans h.l hn, h.bb, h.ck, h.ll⟩
/-- n rows are read -/
structure At (L : List (List Str)) (st n : Nat) (r : Rack) : Prop where
  le : n ≤ L.length
  eq : readRack L = run (L.drop n) st n r
  sz : SzB r n
theorem at_zero (L : List (List Str)) : At L 0 0 noRack := ⟨Nat.zero_le _, rfl, ⟨Nat.le_refl _, Nat.le_refl _, Nat.le_refl _, fun _ h => (by cases h), fun _ h => (by cases h), fun _ h => (by cases h)⟩⟩
theorem drop_row {L : List (List Str)} {n : Nat} {ws : List Str} (h : L[n]? = some ws) : L.drop n = ws :: L.drop (n + 1) := by
  obtain ⟨hn, e⟩ := List.getElem?_eq_some_iff.mp h
  rw [List.drop_eq_getElem_cons hn, e]
theorem At.bad {L : List (List Str)} {st n : Nat} {r : Rack} {ws : List Str} (a : At L st n r) (h : L[n]? = some ws) (hb : ∀ row, tell ws = some row → goes st row = false) : readRack L = .inl n := by
  rw [a.eq, drop_row h, run]
  cases q : tell ws with
  | none => rfl
  | some row =>
    show (if goes st row = true then _ else _) = _
    rw [hb row q]
    rfl
theorem At.fin {L : List (List Str)} {st n : Nat} {r : Rack} (a : At L st n r) (h : L.length ≤ n) : readRack L = if st = 1 then .inl n else .inr r := by
  rw [a.eq, List.drop_eq_nil_of_le h, run]
theorem At.step {L : List (List Str)} {st n : Nat} {r : Rack} {ws : List Str} {row : Row} (a : At L st n r) (h : L[n]? = some ws) (ht : tell ws = some row) (hg : goes st row = true) (hs : SzB (addR r row) (n + 1)) : At L (nxt row) (n + 1) (addR r row) := by
  refine ⟨(List.getElem?_eq_some_iff.mp h).1, ?_, hs⟩
  rw [a.eq, drop_row h, run, ht]
  show (if goes st row = true then _ else _) = _
  rw [if_pos hg]
theorem nums_len {ws : List Str} {least : Nat} {l : List Nat} (h : numsAt ws least = some l) : l.length = ws.length ∧ least ≤ l.length := by
  unfold numsAt at h
  cases q : numsIn ws with
  | none =>
    rw [q] at h
    cases h
  | some l' =>
    rw [q] at h
    have h : (if least ≤ l'.length then some l' else none) = some l := h
    by_cases e : least ≤ l'.length
    · rw [if_pos e] at h
      cases h
      exact ⟨numsIn_len q, e⟩
    · rw [if_neg e] at h
      cases h
section
variable {L : List (List Str)} {n : Nat} {ws : List Str}
theorem names_iff {m : Nat} (h : L[n]? = some ws) : tell ws = some (.names m) ↔ numbersAt L n "names" 1 = some [m] := by
  unfold numbersAt wordsAt tell
  rw [h]
  cases ws with
  | nil => simp
  | cons w r =>
    simp only
    by_cases e : w = "names"
    · subst e
      rw [if_neg (by decide +kernel : ¬ ("names" : Str) = "cable"), if_pos rfl, if_pos rfl]
      simp only
      cases numsAt r 1 with
      | none => simp
      | some l =>
        match l with
        | [] => simp
        | [a] => simp
        | a :: b :: l => simp
    · rw [if_neg e, if_neg e]
      split
      · cases cabOf r <;> simp
      · split
        · cases numsAt r 1 <;> simp
        · split
          · split <;> simp
          · simp
theorem box_iff {l : List Nat} (h : L[n]? = some ws) : tell ws = some (.box l) ↔ numbersAt L n "box" 1 = some l := by
  unfold numbersAt wordsAt tell
  rw [h]
  cases ws with
  | nil => simp
  | cons w r =>
    simp only
    by_cases e : w = "box"
    · subst e
      rw [if_neg (by decide +kernel : ¬ ("box" : Str) = "cable"), if_neg (by decide +kernel : ¬ ("box" : Str) = "names"), if_pos rfl, if_pos rfl]
      simp only
      cases numsAt r 1 <;> simp
    · rw [if_neg e, if_neg e]
      split
      · cases cabOf r <;> simp
      · split
        · split <;> simp
        · split
          · split <;> simp
          · simp
theorem cable_iff {c : Cab} (h : L[n]? = some ws) : tell ws = some (.cable c) ↔ cableAt L n = some c := by
  unfold cableAt wordsAt tell
  rw [h]
  cases ws with
  | nil => simp
  | cons w r =>
    simp only
    by_cases e : w = "cable"
    · subst e
      rw [if_pos rfl, if_pos rfl]
      simp only
      cases cabOf r <;> simp
    · rw [if_neg e, if_neg e]
      split
      · split <;> simp
      · split
        · cases numsAt r 1 <;> simp
        · split
          · split <;> simp
          · simp
theorem loop_iff {a b : Nat} {l : List Nat} (h : L[n]? = some ws) : tell ws = some (.loop a b l) ↔ numbersAt L n "loop" 3 = some (a :: b :: l) := by
  unfold numbersAt wordsAt tell
  rw [h]
  cases ws with
  | nil => simp
  | cons w r =>
    simp only
    by_cases e : w = "loop"
    · subst e
      rw [if_neg (by decide +kernel : ¬ ("loop" : Str) = "cable"), if_neg (by decide +kernel : ¬ ("loop" : Str) = "names"), if_neg (by decide +kernel : ¬ ("loop" : Str) = "box"), if_pos rfl, if_pos rfl]
      simp only
      cases numsAt r 3 with
      | none => simp
      | some l =>
        match l with
        | [] => simp
        | [a] => simp
        | a :: b :: l => simp
    · rw [if_neg e, if_neg e]
      split
      · cases cabOf r <;> simp
      · split
        · split <;> simp
        · split
          · cases numsAt r 1 <;> simp
          · simp
end
/-! ### three names at once -/
section
variable {Γ : Gm} {B : Fb Γ} {ρ : Rho} {M : List MO} {a b c : Expr} {N : Rho → List MO → Prop} {pos px py pz pt pt2 : Pos} {x y z : Str} {i j l : Nat}
theorem s_par3 {kt k2} (hN : Γ.N[i]? = some x) (hN2 : Γ.N[j]? = some y) (hN3 : Γ.N[l]? = some z) (h : DXs Γ B.F ρ M [a, b, c] fun zs M1 => ∃ u v w, zs = [u, v, w] ∧ N (((ρ.set i (some u)).set j (some v)).set l (some w)) M1)
    (hij : i ≠ j := by decide) (hil : i ≠ l := by decide) (hjl : j ≠ l := by decide) (hx : Γ.sc.names.lookup x = some .local := by rfl) (hy : Γ.sc.names.lookup y = some .local := by rfl) (hz : Γ.sc.names.lookup z = some .local := by rfl)
    (hw : ∀ env : Env, env.scope = Γ.sc → swappedStores [.Tuple [.Name x px, .Name y py, .Name z pz] kt pt] (.Tuple [a, b, c] k2 pt2) env = pure (some [x, y, z]) := by rintro ⟨⟩ h; cases h; rfl) (hs : ∀ env, swapsWithSole [.Tuple [.Name x px, .Name y py, .Name z pz] kt pt] (.Tuple [a, b, c] k2 pt2) pos.line env = pure false := by intro _; rfl) (nd : decide Γ.N.Nodup = true := by kernel_rfl) :
    DS1 Γ B ρ M (.Assign [.Tuple [.Name x px, .Name y py, .Name z pz] kt pt] (.Tuple [a, b, c] k2 pt2) pos) N := fun A H σ ps E D hD k =>
  WGs.of (ts := tPar3 i j l (WGa Γ [a, b, c])) (fun X hX => ps_par3 hX.calm (by rw [hX.N]; exact of_decide_eq_true nd) (by rw [hX.N]; exact hN) (by rw [hX.N]; exact hN2) (by rw [hX.N]; exact hN3) hij hil hjl (by rw [hX.sc]; exact hx) (by rw [hX.sc]; exact hy) (by rw [hX.sc]; exact hz) (pa_wg hX) (hw X.env hX.sc) (hs X.env)) (h A H σ ps E _ fun vs zs A1 H1 M1 ps1 e1 E1 rs ⟨u, v, w, hz, n⟩ => by
    subst hz
    cases rs with
    | cons r1 rs =>
      cases rs with
      | cons r2 rs =>
        cases rs with
        | cons r3 rs =>
          cases rs
          exact ⟨_, _, _, rfl, k A1 H1 _ _ M1 ps1 e1 (((E1.setV i r1).setV j r2).setV l r3) n⟩)
end
end Ev
namespace Ev
open PySem PySem.Spec PyProof.Rows L2 Evl
/-! ### read_rack -/
def stM (C : Addr) (L : List (List Str)) (n : Nat) (r : Rack) : List MO := [lnM C L n, .lst (r.boxes.map intsD), .lst (r.cables.map cabD), .lst (r.loops.map looD)]
theorem ap_get {M : List MO} {xs : List MO} (i : Nat) {x : MO} (h : xs[i]? = some x) : (M ++ xs)[M.length + i]? = some x := by
  rw [List.getElem?_append_right (by omega), Nat.add_sub_cancel_left]
  exact h
theorem ap_get0 {M : List MO} {xs : List MO} {x : MO} (h : xs[0]? = some x) : (M ++ xs)[M.length]? = some x := ap_get 0 h
theorem ap_set {M : List MO} {xs : List MO} (i : Nat) {x : MO} : (M ++ xs).set (M.length + i) x = M ++ xs.set i x := by
  rw [List.set_append_right _ _ (by omega), Nat.add_sub_cancel_left]
theorem ap_set0 {M : List MO} {xs : List MO} {x : MO} : (M ++ xs).set M.length x = M ++ xs.set 0 x := ap_set 0
def noRfs (m : MO) : Bool := match m with
  | .rfs _ => false
  | _ => true
theorem okM_app {M xs : List MO} (h : okM M.length M) (hx : xs.all noRfs = true) : okM (M ++ xs).length (M ++ xs) := fun is hi j hj => by
  rcases List.mem_append.mp hi with z | z
  · have := h is z j hj
    rw [List.length_append]
    omega
  · have := List.all_eq_true.mp hx _ z
    cases this
theorem okM_back {M xs : List MO} (h : okM M.length M) : okM M.length ((M ++ xs).take M.length) := by
  rw [List.take_left]
  exact h
theorem lines_ne {s : Str} (h : TxOk s) : linesOf s ≠ [] := fun e => (split_ok h sep_line).1 (by
  unfold linesOf at e
  exact List.map_eq_nil_iff.mp e)
abbrev RRead (Pt : Addr) : MR := fun zs M P PX => ∃ (d : PyData) (t : Nat), zs = [.d d] ∧ M[t]? = some (.tab Pt (lamQ "need_rack")) ∧ okM M.length M ∧
  (∀ s, d = .str s → TxOk s ∧ (∀ n, readRack (linesOf s) = .inl n → PX (badText n) M) ∧ ∀ r, readRack (linesOf s) = .inr r → (∀ p n, rackFault r = some (p, n) → PX (badRack p n) M) ∧ (rackFault r = none → P (.d (rackD r)) M)) ∧ ((∀ s, d ≠ .str s) → PX (badText (-1)) M)
theorem _root_.Ev.DS.re {Γ : Gm} {B : Fb Γ} {ρ ρ' : Rho} {M M' : List MO} {sts : List Stmt} {N : Rho → List MO → Prop} (h : DS Γ B ρ' M' sts N) (e1 : ρ = ρ') (e2 : M = M') : DS Γ B ρ M sts N := by
  subst e1
  subst e2
  exact h
def kindW : Row → Str
  | .names _ => "names"
  | .box _ => "box"
  | .cable _ => "cable"
  | .loop _ _ _ => "loop"
theorem tell_head {w : Str} {ws : List Str} {row : Row} (h : tell (w :: ws) = some row) : w = kindW row := by
  unfold tell at h
  simp only at h
  split at h
  · rename_i e
    cases q : cabOf ws with
    | none =>
      rw [q] at h
      cases h
    | some c =>
      rw [q] at h
      cases h
      exact e
  · split at h
    · rename_i e
      split at h
      · cases h
        exact e
      · cases h
    · split at h
      · rename_i e
        cases q : numsAt ws 1 with
        | none =>
          rw [q] at h
          cases h
        | some c =>
          rw [q] at h
          cases h
          exact e
      · split at h
        · rename_i e
          split at h
          · cases h
            exact e
          · cases h
        · cases h
theorem kind_box {row : Row} (h : kindW row = "box") : ∃ l, row = .box l := by
  cases row with
  | box l => exact ⟨l, rfl⟩
  | names m => exact absurd (show ("names" : Str) = "box" from h) (by decide +kernel)
  | cable c => exact absurd (show ("cable" : Str) = "box" from h) (by decide +kernel)
  | loop a b l => exact absurd (show ("loop" : Str) = "box" from h) (by decide +kernel)
theorem kind_cable {row : Row} (h : kindW row = "cable") : ∃ l, row = .cable l := by
  cases row with
  | cable l => exact ⟨l, rfl⟩
  | names m => exact absurd (show ("names" : Str) = "cable" from h) (by decide +kernel)
  | box c => exact absurd (show ("box" : Str) = "cable" from h) (by decide +kernel)
  | loop a b l => exact absurd (show ("loop" : Str) = "cable" from h) (by decide +kernel)
theorem kind_loop {row : Row} (h : kindW row = "loop") : ∃ a b l, row = .loop a b l := by
  cases row with
  | loop a b l => exact ⟨a, b, l, rfl⟩
  | names m => exact absurd (show ("names" : Str) = "loop" from h) (by decide +kernel)
  | box c => exact absurd (show ("box" : Str) = "loop" from h) (by decide +kernel)
  | cable l => exact absurd (show ("cable" : Str) = "loop" from h) (by decide +kernel)
theorem not_word {L : List (List Str)} {n : Nat} {word : Str} {ws : List Str} {row : Row} (h : wordsAt L n word = none) (hr : L[n]? = some ws) (ht : tell ws = some row) : kindW row ≠ word := fun e => by
  cases ws with
  | nil => cases ht
  | cons w r =>
    have := tell_head ht
    rw [wordsAt_head hr, this, if_pos e] at h
    cases h
theorem nums_at_len {L : List (List Str)} {n : Nat} {word : Str} {least : Nat} {l : List Nat} (hL : LsOk L) (h : numbersAt L n word least = some l) : l.length ≤ 40000 := by
  unfold numbersAt at h
  cases q : wordsAt L n word with
  | none =>
    rw [q] at h
    cases h
  | some ws =>
    rw [q] at h
    have h : numsAt ws least = some l := h
    rw [(nums_len h).1]
    exact (hL.tail (wordsAt_row q)).1
theorem cab_kind {L : List (List Str)} {n : Nat} {c : Cab} (h : cableAt L n = some c) : kindOk c.2.2 = true := by
  unfold cableAt at h
  cases q : wordsAt L n "cable" with
  | none =>
    rw [q] at h
    cases h
  | some ws =>
    rw [q] at h
    have h : cabOf ws = some c := h
    unfold cabOf at h
    split at h
    · split at h
      · split at h
        · rename_i e
          cases h
          exact e
        · cases h
      · cases h
    · cases h
theorem toI_len (l : List Nat) : (toI l).length = l.length := by
  unfold toI
  rw [List.length_map]
theorem SzB.box {r : Rack} {n : Nat} {l : List Nat} (h : SzB r n) (hl : l.length ≤ 40000) : SzB (addR r (.box l)) (n + 1) := ⟨by
  show (r.boxes ++ [toI l]).length ≤ _
  rw [List.length_append]
  exact Nat.succ_le_succ h.b, Nat.le_succ_of_le h.c, Nat.le_succ_of_le h.l, fun b hb => by
  rcases List.mem_append.mp hb with z | z
  · exact h.bb b z
  · rw [List.mem_singleton.mp z, toI_len]
    exact hl, h.ck, h.ll⟩
theorem SzB.cable {r : Rack} {n : Nat} {c : Cab} (h : SzB r n) (hl : kindOk c.2.2 = true) : SzB (addR r (.cable c)) (n + 1) := ⟨Nat.le_succ_of_le h.b, by
  show (r.cables ++ [c]).length ≤ _
  rw [List.length_append]
  exact Nat.succ_le_succ h.c, Nat.le_succ_of_le h.l, h.bb, fun b hb => by
  rcases List.mem_append.mp hb with z | z
  · exact h.ck b z
  · rw [List.mem_singleton.mp z]
    exact hl, h.ll⟩
theorem SzB.loop {r : Rack} {n a b : Nat} {l : List Nat} (h : SzB r n) (hl : l.length ≤ 40000) : SzB (addR r (.loop a b l)) (n + 1) := ⟨Nat.le_succ_of_le h.b, Nat.le_succ_of_le h.c, by
  show (r.loops ++ [((a : Int), (b : Int), toI l)]).length ≤ _
  rw [List.length_append]
  exact Nat.succ_le_succ h.l, h.bb, h.ck, fun c hb => by
  rcases List.mem_append.mp hb with z | z
  · exact h.ll c z
  · rw [List.mem_singleton.mp z]
    show (toI l).length ≤ _
    rw [toI_len]
    exact hl⟩
def rhoR (s : Str) (m k : Nat) (x : Option SV) : Rho := [some (.d (.str s)), some (.r k), some (.d (.tuple (natsD [m]))), some (.r (k + 1)), some (.r (k + 2)), some (.r (k + 3)), x]
section
variable {W : Wd} {C : Addr}
theorem ok_read_rack (b : Bl W) {CT : Addr} (T : Xcl W "BadText" CT 1 ["line"]) {Pt : Addr} (t : Dg W "read_rack" 62) (g1 : Gs W "NAMES" "names") (g2 : Gs W "BOX" "box") (g3 : Gs W "CABLE" "cable") (g4 : Gs W "LOOP" "loop")
    (fI : Mki W "Lines" C 3 ["self", "text"] (spM W 2 (RLinit C))) (fN : Mt W C 5 "numbers" ["self", "word", "least"] (spM W 3 (RLnums C))) (fX : Mt W C 1 "is_next" ["self", "word"] (spM W 2 (RLnext C))) (fC : Mt W C 5 "cable" ["self"] (spM W 1 (RLcable C))) (fE : Mt W C 4 "end" ["self"] (spM W 1 (RLend C))) (fR : Fk W 6 "need_rack" ["thing"] (spM W 1 (RNeed Pt))) :
    Fk W 7 "read_rack" ["text"] (spM W 1 (RRead Pt)) :=
  t.fm (N := ["text", "lines", "names", "boxes", "cables", "loops", "row"]) ⟨rfl, rfl, rfl, by decide +kernel, rfl, by decide +kernel, by decide +kernel⟩ (fun _ _ _ _ _ _ us hl => match us, hl with | [_], _ => rfl) rfl fun E B zs M P PX hF hRt hPX hl hR => by
    obtain ⟨d, tt, rfl, hM, ho, hs, hb⟩ := hR
    have httl : tt < M.length := (List.getElem?_eq_some_iff.mp hM).1
    have badX : ∀ (x : Xc) (xs : List MO), PX x M → B.PX x (M ++ xs) := fun x xs h => by
      rw [hPX]
      refine ⟨okM_back ho, ?_⟩
      show PX x ((M ++ xs).take M.length)
      rw [List.take_left]
      exact h
    refine ds_cons (s_asg (i := 1) rfl (dx_make (PX := B.PX) fI (.inl rfl) B.hX (dxs_cons (dx_d (xv 0 rfl rfl) (dxs_nil ⟨rfl, M.length, d, rfl, ap_get0 rfl, okM_app ho rfl, fun s e => ?_, fun hn => badX _ _ (hb hn)⟩)))))
    subst e
    obtain ⟨hx, hbad, hgood⟩ := hs s rfl
    refine ⟨hx, rfl, ?_⟩
    rw [ap_set0]
    have hL := lines_ok hx
    have hne := lines_ne hx
    generalize linesOf s = L at hL hne hbad hgood
    have bad : ∀ (n : Nat) (xs : List MO), readRack L = .inl n → B.PX (badText n) (M ++ xs) := fun n xs h => badX _ xs (hbad n h)
    have row0 : ∃ ws, L[0]? = some ws := by
      cases L with
      | nil => exact absurd rfl hne
      | cons ws L => exact ⟨ws, rfl⟩
    obtain ⟨ws0, hws0⟩ := row0
    have a0 := at_zero L
    have g0 : ∀ row, goes 0 row = true → ∃ m, row = .names m := fun row h => by
      cases row with
      | names m => exact ⟨m, rfl⟩
      | _ => cases h
    have g1' : ∀ row, goes 1 row = true → ∃ l, row = .box l := fun row h => by
      cases row with
      | box l => exact ⟨l, rfl⟩
      | _ => cases h
    refine ds_cons (s_asg (i := 2) rfl (dx_meth (PX := B.PX) fN (.inl rfl) B.hX (i := 1) rfl rfl (ap_get0 rfl) (by kernel_rfl) (dxs_d (xds_cons (xgs g1) (xds_cons xd_i xds_nil)) ⟨rfl, M.length, L, 0, "names", 1, rfl, ap_get0 rfl, okM_app ho rfl, hL, fun h => ?_, fun l h => ?_⟩)))
    · have hh : readRack L = .inl 0 := a0.bad hws0 fun row hr => by
        cases q : goes 0 row with
        | false => rfl
        | true =>
          obtain ⟨m, rfl⟩ := g0 row q
          rw [(names_iff hws0).mp hr] at h
          cases h
      rw [ap_set0]
      exact ⟨bad 0 _ hh, bad 0 _ hh⟩
    · rw [ap_set0]
      by_cases l1 : l.length = 1
      · obtain ⟨m, rfl⟩ : ∃ m, l = [m] := by
          match l, l1 with
          | [m], _ => exact ⟨m, rfl⟩
        refine ds_cons (s_if (dt_t (XT.is (xt_cmp (xd_callB boot_len b.len (xds_cons (xv 2 rfl rfl) xds_nil) of_lenT) xd_i oc_neI) (rfl : _ = false)) ⟨fun h => (by cases h), fun _ => ds_nil ?_⟩))
        have a1 : At L 1 1 (addR noRack (.names m)) := a0.step hws0 ((names_iff hws0).mpr h) rfl ⟨Nat.zero_le _, Nat.zero_le _, Nat.zero_le _, fun _ h => (by cases h), fun _ h => (by cases h), fun _ h => (by cases h)⟩
        refine ds_cons (s_par3 (i := 3) (j := 4) (l := 5) rfl rfl rfl (dxs_cons (dx_newL (dxs_cons (dx_meth (PX := B.PX) fN (.inl rfl) B.hX (i := 1) rfl rfl (ap_get0 rfl) (by kernel_rfl) (dxs_d (xds_cons (xgs g2) (xds_cons xd_i xds_nil)) ⟨rfl, M.length, L, 1, "box", 1, rfl, ap_get0 rfl, okM_app ho rfl, hL, fun h => ?_, fun l h => dxs_nil ⟨[_], rfl, by simp, dxs_cons (dx_newL (dxs_nil ⟨[], rfl, by simp, dxs_cons (dx_newL (dxs_nil ⟨[], rfl, by simp, dxs_nil ⟨_, _, _, rfl, ?_⟩⟩))⟩))⟩⟩))))))
        · have hh : readRack L = .inl 1 := by
            cases q1 : L[1]? with
            | none =>
              rw [a1.fin (List.getElem?_eq_none_iff.mp q1)]
              rfl
            | some ws =>
              refine a1.bad q1 fun row hr => ?_
              cases q : goes 1 row with
              | false => rfl
              | true =>
                obtain ⟨l, rfl⟩ := g1' row q
                rw [(box_iff q1).mp hr] at h
                cases h
          rw [ap_set0]
          exact ⟨bad 1 _ hh, bad 1 _ hh⟩
        · rw [ap_set0]
          have a2 : At L 2 2 (addR (addR noRack (.names m)) (.box l)) := by
            have h1 : wordsAt L 1 "box" ≠ none := fun e => by
              unfold numbersAt at h
              rw [e] at h
              cases h
            obtain ⟨ws, hw⟩ := Option.ne_none_iff_exists'.mp h1
            have hrow := wordsAt_row hw
            exact a1.step hrow ((box_iff hrow).mpr h) rfl (a1.sz.box (nums_at_len hL h))
          refine DS.re (ρ' := rhoR s m M.length none) (M' := M ++ stM C L 2 (addR (addR noRack (.names m)) (.box l))) ?_ (by simp [startR, rhoR]) (by simp [stM, addR, noRack, natsD_eq])
          -- the boxes
          refine ds_cons (s_while (fun μ ρ' M' => ∃ n r, μ = L.length - n ∧ At L 2 n r ∧ r.names = (m : Int) ∧ M' = M ++ stM C L n r ∧ ρ' = rhoR s m M.length none) (L.length - 2) ⟨2, _, rfl, a2, rfl, rfl, rfl⟩ ?_)
          rintro μ ρ1 M1 ⟨n, r, rfl, an, hn, rfl, rfl⟩
          refine dt_v (dx_meth (PX := B.PX) fX (.inl rfl) B.hX (i := 1) rfl rfl (ap_get0 rfl) (by kernel_rfl) (dxs_d (xds_cons (xgs g2) xds_nil) ⟨rfl, M.length, L, n, "box", rfl, ap_get0 rfl, okM_app ho rfl, hL, ⟨_, rfl, fun hk => ?_, fun hk => ?_⟩⟩))
          · obtain ⟨ws, hw⟩ := Option.isSome_iff_exists.mp hk
            have hrow := wordsAt_row hw
            have hnl := (List.getElem?_eq_some_iff.mp hrow).1
            refine ds_one (s_app (i := 3) (j := M.length + 1) rfl rfl (ap_get 1 rfl) (dx_meth (PX := B.PX) fN (.inl rfl) B.hX (i := 1) rfl rfl (ap_get0 rfl) (by kernel_rfl) (dxs_d (xds_cons (xgs g2) (xds_cons xd_i xds_nil)) ⟨rfl, M.length, L, n, "box", 1, rfl, ap_get0 rfl, okM_app ho rfl, hL, fun h => ?_, fun l h => ⟨r.boxes.map intsD, _, rfl, ?_, ?_, ?_⟩⟩)))
            · have hh : readRack L = .inl n := an.bad hrow fun row hr => by
                obtain ⟨l, rfl⟩ := kind_box (tell_head hr).symm
                rw [(box_iff hrow).mp hr] at h
                cases h
              rw [ap_set0]
              exact ⟨bad n _ hh, bad n _ hh⟩
            · rw [ap_set0]
              exact ap_get 1 rfl
            · rw [List.length_map]
              have := an.sz.b
              have := hL.len
              omega
            · refine ⟨L.length - (n + 1), by omega, n + 1, addR r (.box l), rfl, an.step hrow ((box_iff hrow).mpr h) rfl (an.sz.box (nums_at_len hL h)), hn, ?_, rfl⟩
              rw [ap_set0, ap_set 1]
              simp [stM, addR, natsD_eq]
          -- the cables
          have hnb : wordsAt L n "box" = none := by
            cases q : wordsAt L n "box" with
            | none => rfl
            | some x =>
              rw [q] at hk
              cases hk
          refine ds_cons (s_while (fun μ ρ' M' => ∃ st n r, μ = L.length - n ∧ At L st n r ∧ (st = 2 ∨ st = 3) ∧ (∀ ws row, L[n]? = some ws → tell ws = some row → goes st row = true → kindW row = "cable" ∨ kindW row = "loop") ∧ r.names = (m : Int) ∧ M' = M ++ stM C L n r ∧ ρ' = rhoR s m M.length none) (L.length - n) ⟨2, n, r, rfl, an, .inl rfl, fun ws row hw ht hg => ?_, hn, rfl, rfl⟩ ?_)
          · have := not_word hnb hw ht
            cases row with
            | box l => exact absurd rfl this
            | names m => cases hg
            | cable c => exact .inl rfl
            | loop a b l => exact .inr rfl
          clear hnb hk an hn
          rintro μ ρ1 M1 ⟨st, n, r, rfl, an, hst, hgo, hn, rfl, rfl⟩
          refine dt_v (dx_meth (PX := B.PX) fX (.inl rfl) B.hX (i := 1) rfl rfl (ap_get0 rfl) (by kernel_rfl) (dxs_d (xds_cons (xgs g3) xds_nil) ⟨rfl, M.length, L, n, "cable", rfl, ap_get0 rfl, okM_app ho rfl, hL, ⟨_, rfl, fun hk => ?_, fun hk => ?_⟩⟩))
          · obtain ⟨ws, hw⟩ := Option.isSome_iff_exists.mp hk
            have hrow := wordsAt_row hw
            have hnl := (List.getElem?_eq_some_iff.mp hrow).1
            refine ds_one (s_app (i := 4) (j := M.length + 2) rfl rfl (ap_get 2 rfl) (dx_meth0 (PX := B.PX) fC (.inl rfl) B.hX (i := 1) rfl rfl (ap_get0 rfl) (by kernel_rfl) ⟨M.length, L, n, rfl, ap_get0 rfl, okM_app ho rfl, hL, fun h => ?_, fun c h => ⟨r.cables.map cabD, _, rfl, ?_, ?_, ?_⟩⟩))
            · have hh : readRack L = .inl n := an.bad hrow fun row hr => by
                obtain ⟨l, rfl⟩ := kind_cable (tell_head hr).symm
                rw [(cable_iff hrow).mp hr] at h
                cases h
              rw [ap_set0]
              exact ⟨bad n _ hh, bad n _ hh⟩
            · rw [ap_set0]
              exact ap_get 2 rfl
            · rw [List.length_map]
              have := an.sz.c
              have := hL.len
              omega
            · refine ⟨L.length - (n + 1), by omega, 3, n + 1, addR r (.cable c), rfl, an.step hrow ((cable_iff hrow).mpr h) (by rcases hst with rfl | rfl <;> rfl) (an.sz.cable (cab_kind h)), .inr rfl, fun ws row _ _ hg => ?_, hn, ?_, rfl⟩
              · cases row with
                | box l => cases hg
                | names m => cases hg
                | cable c => exact .inl rfl
                | loop a b l => exact .inr rfl
              · rw [ap_set0, ap_set 2]
                simp [stM, addR]
          -- the loops
          have hnc : wordsAt L n "cable" = none := by
            cases q : wordsAt L n "cable" with
            | none => rfl
            | some x =>
              rw [q] at hk
              cases hk
          refine ds_cons (s_while (fun μ ρ' M' => ∃ st n r x, μ = L.length - n ∧ At L st n r ∧ (st = 2 ∨ st = 3 ∨ st = 4) ∧ (∀ ws row, L[n]? = some ws → tell ws = some row → goes st row = true → kindW row = "loop") ∧ r.names = (m : Int) ∧ M' = M ++ stM C L n r ∧ ρ' = rhoR s m M.length x) (L.length - n) ⟨st, n, r, none, rfl, an, by rcases hst with rfl | rfl <;> simp, fun ws row hw ht hg => ?_, hn, rfl, rfl⟩ ?_)
          · rcases hgo ws row hw ht hg with z | z
            · exact absurd z (not_word hnc hw ht)
            · exact z
          clear hnc hk an hn hgo hst
          rintro μ ρ1 M1 ⟨st, n, r, x6, rfl, an, hst, hgo, hn, rfl, rfl⟩
          refine dt_v (dx_meth (PX := B.PX) fX (.inl rfl) B.hX (i := 1) rfl rfl (ap_get0 rfl) (by kernel_rfl) (dxs_d (xds_cons (xgs g4) xds_nil) ⟨rfl, M.length, L, n, "loop", rfl, ap_get0 rfl, okM_app ho rfl, hL, ⟨_, rfl, fun hk => ?_, fun hk => ?_⟩⟩))
          · obtain ⟨ws, hw⟩ := Option.isSome_iff_exists.mp hk
            have hrow := wordsAt_row hw
            have hnl := (List.getElem?_eq_some_iff.mp hrow).1
            refine ds_cons (s_asg (i := 6) rfl (dx_meth (PX := B.PX) fN (.inl rfl) B.hX (i := 1) rfl rfl (ap_get0 rfl) (by kernel_rfl) (dxs_d (xds_cons (xgs g4) (xds_cons xd_i xds_nil)) ⟨rfl, M.length, L, n, "loop", 3, rfl, ap_get0 rfl, okM_app ho rfl, hL, fun h => ?_, fun l h => ?_⟩)))
            · have hh : readRack L = .inl n := an.bad hrow fun row hr => by
                obtain ⟨a, c, l, rfl⟩ := kind_loop (tell_head hr).symm
                rw [(loop_iff hrow).mp hr] at h
                cases h
              rw [ap_set0]
              exact ⟨bad n _ hh, bad n _ hh⟩
            · obtain ⟨a, c, l, rfl⟩ : ∃ a c l', l = a :: c :: l' := by
                have h3 : 3 ≤ l.length := by
                  unfold numbersAt at h
                  rw [hw] at h
                  exact (nums_len h).2
                match l, h3 with
                | a :: c :: l', _ => exact ⟨a, c, l', rfl⟩
              have hl40 := nums_at_len hL h
              rw [ap_set0]
              refine ds_one (s_app (i := 5) (j := M.length + 3) rfl rfl (ap_get 3 rfl) (dx_d (xd_bin (XD.is (xd_slT (xv 6 rfl rfl) xo_n (xo_i xd_i)) (?_ : _ = PyData.tuple [.int (a : Int), .int (c : Int)])) (xd_tup (xds_cons (XD.is (xd_slT (xv 6 rfl rfl) (xo_i xd_i) xo_n) (?_ : _ = intsD (toI l))) xds_nil)) (ob_catT (by simp))) ⟨r.loops.map looD, _, rfl, ap_get 3 rfl, ?_, ?_⟩))
              · rw [show (2 : Int) = ((2 : Nat) : Int) from rfl, cut_take]
                rfl
              · rw [show (2 : Int) = ((2 : Nat) : Int) from rfl, cut_drop, ← natsD_eq]
                rfl
              · rw [List.length_map]
                have := an.sz.l
                have := hL.len
                omega
              · refine ⟨L.length - (n + 1), by omega, 4, n + 1, addR r (.loop a c l), _, rfl, an.step hrow ((loop_iff hrow).mpr h) (by rcases hst with rfl | rfl | rfl <;> rfl) (an.sz.loop (by simp only [List.length_cons] at hl40; omega)), .inr (.inr rfl), fun ws row _ _ hg => ?_, hn, ?_, rfl⟩
                · cases row with
                  | box l => cases hg
                  | names m => cases hg
                  | cable c => cases hg
                  | loop a b l => rfl
                · rw [ap_set 3]
                  simp [stM, addR, looD]
          -- the end
          have hnl : wordsAt L n "loop" = none := by
            cases q : wordsAt L n "loop" with
            | none => rfl
            | some x =>
              rw [q] at hk
              cases hk
          have st1 : st ≠ 1 := by rcases hst with rfl | rfl | rfl <;> decide
          refine ds_cons (s_expr (dx_meth0 (PX := B.PX) fE (.inl rfl) B.hX (i := 1) rfl rfl (ap_get0 rfl) (by kernel_rfl) ⟨M.length, L, n, rfl, ap_get0 rfl, okM_app ho rfl, fun h => ?_, fun h => ?_⟩))
          · refine bad n _ ?_
            have hrow := List.getElem?_eq_getElem h
            refine an.bad hrow fun row hr => ?_
            cases q : goes st row with
            | false => rfl
            | true => exact absurd (hgo _ _ hrow hr q) (not_word hnl hrow hr)
          · have hrr : readRack L = .inr r := by
              rw [an.fin h, if_neg st1]
            obtain ⟨hg1, hg2⟩ := hgood r hrr
            refine ds_freeze (i := 3) (j := M.length + 1) (ds := r.boxes.map intsD) rfl (ap_get 1 rfl) (by omega) ?_
            rw [ap_set 1]
            refine ds_freeze (i := 4) (j := M.length + 2) (ds := r.cables.map cabD) rfl (ap_get 2 rfl) (by omega) ?_
            rw [ap_set 2]
            refine ds_freeze (i := 5) (j := M.length + 3) (ds := r.loops.map looD) rfl (ap_get 3 rfl) (by omega) ?_
            rw [ap_set 3]
            have hres : PyData.tuple [.int (m : Int), .tuple (r.boxes.map intsD), .tuple (r.cables.map cabD), .tuple (r.loops.map looD)] = rackD r := by
              unfold rackD
              rw [hn]
            refine ds_one (s_ret (dx_call (PX := B.PX) fR (.inl rfl) B.hX (dxs_d (xds_cons (XD.is (xd_tup (xds_cons (xd_ix (xv 2 rfl rfl) xd_i (oi_T (atI_nat (j := 0) rfl))) (xds_cons (xd_callT bt_tuple b.tuple (xds_cons (xv 3 rfl rfl) xds_nil) of_tupL) (xds_cons (xd_callT bt_tuple b.tuple (xds_cons (xv 4 rfl rfl) xds_nil) of_tupL) (xds_cons (xd_callT bt_tuple b.tuple (xds_cons (xv 5 rfl rfl) xds_nil) of_tupL) xds_nil))))) hres) xds_nil) ⟨rfl, r, tt, rfl, ?_, okM_app ho rfl, an.sz.sz (Nat.le_trans an.le hL.len), fun p k e => badX _ _ (hg1 p k e), fun e => ?_⟩)))
            · rw [List.getElem?_append_left httl]
              exact hM
            · rw [hRt]
              refine ⟨trivial, okM_back ho, ?_⟩
              show P _ ((M ++ _).take M.length)
              rw [List.take_left]
              exact hg2 e
      · refine ds_cons (s_if (dt_t (XT.is (xt_cmp (xd_callB boot_len b.len (xds_cons (xv 2 rfl rfl) xds_nil) of_lenT) xd_i oc_neI) (?_ : _ = true)) ⟨fun _ => ds_one (s_raise T ⟨_, rfl⟩ (dxs_d (xds_cons xd_i xds_nil) ⟨[_], rfl, rfl, by decide, ?_⟩)), fun h => (by cases h)⟩))
        · unfold natsD
          rw [List.length_map]
          have : ¬ ((l.length : Nat) : Int) = 1 := by omega
          rw [decide_eq_false this]
          rfl
        · refine bad 0 _ (a0.bad hws0 fun row hr => ?_)
          cases q : goes 0 row with
          | false => rfl
          | true =>
            obtain ⟨m, rfl⟩ := g0 row q
            rw [(names_iff hws0).mp hr] at h
            cases h
            exact absurd rfl l1
end
end Ev
namespace Ev
open PySem PySem.Spec PyProof.Rows L2 Evl
/-! ### zip -/
def zipD (xs ys : List PyData) : List PyData := (xs.zip ys).map fun p => .tuple [p.1, p.2]
section
variable {Γ : Gm} {F : Fm} {ρ : Rho} {M : List MO} {e e2 : Expr} {pos p tps : Pos} {elts : List Expr} {kk : Nat} {Pi : List PyData → List MO → Prop} {ds es : List PyData}
theorem di_zipT (hm : Γ.W.mg "zip" = Option.none) (h1 : XD Γ ρ e (.tuple ds)) (h2 : XD Γ ρ e2 (.tuple es)) (hp : Pi (zipD ds es) M) (g : Glo Γ "zip" := by rfl) (ne : NS e := by intro _ _; rfl) (ne2 : NS e2 := by intro _ _; rfl) (ns : NSs [e2] := by intro _ _; rfl) : DI Γ F ρ M (.Tuple elts kk tps) (.Call (.Name "zip" p) [e, e2] [] pos) Pi := fun A H σ ps E R q =>
  WGi.of (wi := RZ.iZipA Γ.W.K (WGa Γ [e, e2])) (fun X hX => hX.K ▸ RZ.pi_zipA (gl_of hX g) (by rw [hX.mg]; exact hm) (pa_wg hX) (ne [e2] X.env) (ns pos X.env)) ((xds_cons h1 (xds_cons h2 xds_nil ne2) ne σ A E.sl).run E.ah fun vs A1 H1 w hv => by
    cases hv with
    | cons r1 hv =>
      cases hv with
      | cons r2 hv =>
        cases hv
        obtain ⟨a, xs, rfl, hs, hxs⟩ := dp_tup r1
        obtain ⟨b, ys, rfl, hs2, hys⟩ := dp_tup r2
        refine ⟨a, b, xs, ys, rfl, .inr ⟨ex_t w.k hs, ex_t w.k hs2, q _ _ A1 H1 M ps (.of w.a) (E.step w) ⟨fun i H' e hi => ?_, fun i d A' H' x H3 hd ea eh hy => ?_, fun H' e => ?_⟩ hp⟩⟩
        · unfold zipD at hi
          rw [List.length_map, List.length_zip] at hi
          obtain ⟨x, hx, _⟩ := hxs.get (List.getElem?_eq_getElem (by omega : i < ds.length))
          obtain ⟨y, hy, _⟩ := hys.get (List.getElem?_eq_getElem (by omega : i < es.length))
          exact ⟨xs, ys, x, y, ex_t e hs, ex_t e hs2, hx, hy⟩
        · obtain ⟨T, x1, y1, rfl, nT, rfl, hy1, hy2⟩ := hy
          unfold zipD at hd
          rw [List.getElem?_map] at hd
          cases e3 : (ds.zip es)[i]? with
          | none =>
            rw [e3] at hd
            cases hd
          | some pr =>
            rw [e3] at hd
            have hd' : PyData.tuple [pr.1, pr.2] = d := Option.some.inj hd
            subst hd'
            rw [List.getElem?_zip_eq_some] at e3
            obtain ⟨x2, hx, hdx⟩ := hxs.get e3.1
            obtain ⟨y2, hyy, hdy⟩ := hys.get e3.2
            have ex1 := hy1 xs (ex_t (ea.trans eh) hs)
            have ex2 := hy2 ys (ex_t (ea.trans eh) hs2)
            rw [hx] at ex1
            rw [hyy] at ex2
            cases ex1
            cases ex2
            have w2 := Gw.new (o := .tup [x1, y1]) eh nT
            exact ⟨_, w2, .tup (st_of upd_same) (.cons (hdx.ex (ea.trans w2.a)) (.cons (hdy.ex (ea.trans w2.a)) .nil))⟩
        · unfold zipD
          rw [List.length_map, List.length_zip]
          exact ⟨xs, ys, ex_t e hs, ex_t e hs2, by rw [hxs.len, hys.len]; omega⟩)
theorem xi_zipT {ρ : Rho} (hm : Γ.W.mg "zip" = Option.none) (h1 : XD Γ ρ e (.tuple ds)) (h2 : XD Γ ρ e2 (.tuple es)) (g : Glo Γ "zip" := by rfl) (ne : NS e := by intro _ _; rfl) (ne2 : NS e2 := by intro _ _; rfl) (ns : NSs [e2] := by intro _ _; rfl) : XI Γ ρ (.Tuple elts kk tps) (.Call (.Name "zip" p) [e, e2] [] pos) (zipD ds es) := fun F M => di_zipT hm h1 h2 ⟨rfl, rfl⟩ g ne ne2 ns
end
/-! ### rules -/
def riseOk (l : List Nat) (m : Int) : Bool := (l.all fun x => wholeD (.int (x : Int)) 0 (m - 1)) && (l.zip l.tail).all fun p => decide ((p.1 : Int) < (p.2 : Int))
theorem zip_nats (l l' : List Nat) : zipD (natsD l) (natsD l') = (l.zip l').map fun p => .tuple [.int (p.1 : Int), .int (p.2 : Int)] := by
  unfold zipD natsD
  rw [List.zip_map, List.map_map]
  rfl
abbrev RRise : List PyData → PyData → Prop := fun ds d => ∃ l m, ds = [.tuple (natsD l), .int m] ∧ l.length ≤ 40000 ∧ d = .bool (riseOk l m)
section
variable {W : Wd}
theorem ok_are_rising (b : Bl W) (t : Dg W "are_rising" 45) (f1 : Fk W 2 "is_whole" ["thing", "least", "most"] (spD W.K 3 RWhole)) : Fk W 3 "are_rising" ["thing", "many"] (spD W.K 2 RRise) :=
  t.fd (N := ["thing", "many", "item", "other"]) ⟨rfl, rfl, rfl, by decide +kernel, rfl, by decide +kernel, by decide +kernel⟩ (fun _ _ _ _ _ _ us hl => match us, hl with | [_, _], _ => rfl) rfl fun E A H Q ds d q hl hR => by
    obtain ⟨l, m, rfl, hz, rfl⟩ := hR
    have hz1 : (natsD l).length ≤ 40000 := by
      unfold natsD
      rw [List.length_map]
      exact hz
    refine ds_cons (s_if (dt_t (XT.is (xt_or2 (xt_not (xt_v (xd_isi b.isinstance b.tuple bt_tuple (xv 0 rfl rfl) (kit_t _)))) fun _ => xt_not (xt_v (xd_callB boot_all b.all (xds_cons (XD.is (xd_lc0 (x := "item") (j := 2) rfl (xi_tup (xv 0 rfl rfl)) hz1 (fun x => .bool (wholeD x 0 (m - 1))) fun x hx => ?_) (?_ : _ = PyData.list ((l.map fun x => wholeD (.int ((x : Nat) : Int)) 0 (m - 1)).map PyData.bool))) xds_nil) of_all))) (?_ : _ = !(l.all fun x => wholeD (.int (x : Int)) 0 (m - 1)))) ⟨fun h => ?_, fun h => ds_nil ?_⟩))
    · exact xd_call f1 (xds_cons (xv 2 rfl rfl) (xds_cons xd_i (xds_cons (xd_bin (xv 1 rfl rfl) xd_i ob_sub) xds_nil))) ⟨_, _, _, rfl, rfl⟩
    · unfold natsD
      rw [List.map_map, List.map_map]
      rfl
    · rw [List.all_map]
      rfl
    · refine ds_one (ret_d xd_b (congrArg PyData.bool ?_))
      unfold riseOk
      have h : (l.all fun x => wholeD (.int (x : Int)) 0 (m - 1)) = false := by simpa using h
      rw [h]
      rfl
    · have h : (l.all fun x => wholeD (.int (x : Int)) 0 (m - 1)) = true := by simpa using h
      have hzl : (zipD (natsD l) (natsD l.tail)).length ≤ 40000 := by
        unfold zipD natsD
        rw [List.length_map, List.length_zip, List.length_map]
        omega
      refine ds_one (ret_d (xd_callB boot_all b.all (xds_cons (XD.is (xd_lcp (own := [("item", 2), ("other", 3)]) (xi_zipT b.zip (xv 0 rfl rfl) (XD.is (xd_slT (xv 0 rfl rfl) (xo_i xd_i) xo_n) (?_ : _ = PyData.tuple (natsD l.tail)))) hzl (fun _ => true) (fun d => match d with | .tuple [.int a, .int c] => .bool (decide (a < c)) | _ => .none) fun d hd => ?_) (?_ : _ = PyData.list (((l.zip l.tail).map fun p => decide ((p.1 : Int) < (p.2 : Int))).map PyData.bool))) xds_nil) of_all) (congrArg PyData.bool ?_))
      · rw [show (1 : Int) = ((1 : Nat) : Int) from rfl, cut_drop]
        unfold natsD
        rw [← List.map_drop, List.drop_one]
      · rw [zip_nats] at hd
        obtain ⟨pr, hpr, rfl⟩ := List.mem_map.mp hd
        exact ⟨_, _, fun k hk => hk, tg_tup (tgs_cons (tg_name (i := 2) rfl) (tgs_cons (tg_name (i := 3) rfl) tgs_nil)), fun F' => dts_nil ⟨rfl, rfl⟩, fun _ => xd_cmp (xv 2 rfl rfl) (xv 3 rfl rfl) oc_lt⟩
      · rw [zip_nats, List.filter_eq_self.mpr (fun _ _ => rfl), List.map_map, List.map_map]
        rfl
      · unfold riseOk
        rw [h, List.all_map]
        rfl
end
end Ev
namespace Ev
open PySem PySem.Spec PyProof.Rows L2 Evl
/-! ### checked_rule, read_rule -/
def tapOk (k : Str) : Bool := decide (k ∈ (["known", "alike"] : List Str))
structure Rul where
  up : List Nat
  bl : List Nat
  tap : Str
def ruleD (r : Rul) : PyData := .tuple [.tuple (natsD r.up), .tuple (natsD r.bl), .str r.tap]
def badRule (part : Str) : Xc := ⟨"BadRule", [("part", .str part)]⟩
def ruleFault (r : Rul) : Option Str := if riseOk r.up 8 = false then some "evened" else if riseOk r.bl 8 = false then some "blind" else none
abbrev RCheck : MR := fun zs M P PX => ∃ (r : Rul), zs = [.d (ruleD r), .d (.int 8)] ∧ okM M.length M ∧ tapOk r.tap = true ∧ r.up.length ≤ 40000 ∧ r.bl.length ≤ 40000 ∧ (∀ p, ruleFault r = some p → PX (badRule p) M) ∧ (ruleFault r = none → P (.d (ruleD r)) M)
def readRule (L : List (List Str)) : Nat ⊕ Rul := match numbersAt L 0 "evened" 0 with
  | none => .inl 0
  | some e => match numbersAt L 1 "blind" 0 with
    | none => .inl 1
    | some b => match wordsAt L 2 "taps" with
      | some [k] => if tapOk k = true then (if 3 < L.length then .inl 3 else .inr ⟨e, b, k⟩) else .inl 2
      | _ => .inl 2
abbrev RReadR : MR := fun zs M P PX => ∃ (d : PyData), zs = [.d d] ∧ okM M.length M ∧
  (∀ s, d = .str s → TxOk s ∧ (∀ n, readRule (linesOf s) = .inl n → PX (badText n) M) ∧ ∀ r, readRule (linesOf s) = .inr r → (∀ p, ruleFault r = some p → PX (badRule p) M) ∧ (ruleFault r = none → P (.d (ruleD r)) M)) ∧ ((∀ s, d ≠ .str s) → PX (badText (-1)) M)
section
variable {W : Wd} {C : Addr}
theorem ok_checked_rule (b : Bl W) {CT : Addr} (T : Xcl W "BadRule" CT 1 ["part"]) (t : Dg W "checked_rule" 46) (g1 : Gs W "KNOWN" "known") (g2 : Gs W "ALIKE" "alike") (f1 : Fk W 3 "are_rising" ["thing", "many"] (spD W.K 2 RRise)) : Fk W 4 "checked_rule" ["thing", "many"] (spM W 2 RCheck) :=
  t.fm (N := ["thing", "many", "part", "boxes"]) ⟨rfl, rfl, rfl, by decide +kernel, rfl, by decide +kernel, by decide +kernel⟩ (fun _ _ _ _ _ _ us hl => match us, hl with | [_, _], _ => rfl) rfl fun E B zs M P PX hF hRt hPX hl hR => by
    obtain ⟨r, rfl, ho, htap, hu, hbl, hb, hk⟩ := hR
    have bad : ∀ p, ruleFault r = some p → B.PX (badRule p) M := fun p e => by
      rw [hPX]
      exact fin_ok rfl ho (hb p e)
    refine ds_cons (s_if (dt_t (XT.is (xt_or2 (xt_not (xt_v (xd_isi b.isinstance b.tuple bt_tuple (xv 0 rfl rfl) (kit_t _)))) fun _ => xt_cmp (xd_callB boot_len b.len (xds_cons (xv 0 rfl rfl) xds_nil) of_lenT) xd_i oc_neI) (rfl : _ = false)) ⟨fun h => (by cases h), fun _ => ds_nil ?_⟩))
    refine ds_cons (s_for (di_tup (dx_d (xd_tup (xds_cons (xd_tup (xds_cons xd_s (xds_cons (xd_ix (xv 0 rfl rfl) xd_i (oi_T (atI_nat (j := 0) rfl))) xds_nil))) (xds_cons (xd_tup (xds_cons xd_s (xds_cons (xd_ix (xv 0 rfl rfl) xd_i (oi_T (atI_nat (j := 1) rfl))) xds_nil))) xds_nil))) ⟨_, rfl, fun i ρ' M' => (∃ x2 x3, ρ' = [some (.d (ruleD r)), some (.d (.int 8)), x2, x3]) ∧ M' = M ∧ (1 ≤ i → riseOk r.up 8 = true) ∧ (2 ≤ i → riseOk r.bl 8 = true), ?_, ?_, ?_⟩)))
    · exact ⟨⟨none, none, rfl⟩, rfl, fun h => absurd h (by decide), fun h => absurd h (by decide)⟩
    · rintro i d ρ1 M2 hd ⟨⟨x2, x3, rfl⟩, rfl, h1, h2⟩
      match i, hd with
      | 0, hd =>
        cases hd
        refine ⟨_, _, tg_tup (tgs_cons (tg_name (i := 2) rfl) (tgs_cons (tg_name (i := 3) rfl) tgs_nil)), ?_⟩
        refine ds_one (s_if (dt_t (xt_not (xt_v (xd_call f1 (xds_cons (xv 3 rfl rfl) (xds_cons (xv 1 rfl rfl) xds_nil)) ⟨_, _, rfl, hu, rfl⟩))) ⟨fun h => ?_, fun h => ds_nil ⟨⟨_, _, rfl⟩, rfl, fun _ => by simpa using h, fun h => absurd h (by decide)⟩⟩))
        refine ds_one (s_raise T ⟨_, rfl⟩ (dxs_d (xds_cons (xv 2 rfl rfl) xds_nil) ⟨[_], rfl, rfl, by decide, bad "evened" ?_⟩))
        have h : riseOk r.up 8 = false := by simpa using h
        unfold ruleFault
        rw [if_pos h]
      | 1, hd =>
        cases hd
        have h1 := h1 (by decide)
        refine ⟨_, _, tg_tup (tgs_cons (tg_name (i := 2) rfl) (tgs_cons (tg_name (i := 3) rfl) tgs_nil)), ?_⟩
        refine ds_one (s_if (dt_t (xt_not (xt_v (xd_call f1 (xds_cons (xv 3 rfl rfl) (xds_cons (xv 1 rfl rfl) xds_nil)) ⟨_, _, rfl, hbl, rfl⟩))) ⟨fun h => ?_, fun h => ds_nil ⟨⟨_, _, rfl⟩, rfl, fun _ => h1, fun _ => by simpa using h⟩⟩))
        refine ds_one (s_raise T ⟨_, rfl⟩ (dxs_d (xds_cons (xv 2 rfl rfl) xds_nil) ⟨[_], rfl, rfl, by decide, bad "blind" ?_⟩))
        have h : riseOk r.bl 8 = false := by simpa using h
        unfold ruleFault
        rw [if_neg (by rw [h1]; simp), if_pos h]
      | i + 2, hd => simp at hd
    · rintro ρ1 M2 ⟨⟨x2, x3, rfl⟩, rfl, h1, h2⟩
      have h1 := h1 (by show 1 ≤ 2; decide)
      have h2 := h2 (by show 2 ≤ 2; decide)
      refine ds_cons (s_if (dt_t (XT.is (xt_or2 (xt_not (xt_v (xd_isi b.isinstance b.str bt_str (xd_ix (xv 0 rfl rfl) xd_i (oi_T (atI_nat (j := 2) rfl))) (kit_s _)))) fun _ => xt_cmp (xd_ix (xv 0 rfl rfl) xd_i (oi_T (atI_nat (j := 2) rfl))) (xd_tup (xds_cons (xgs g1) (xds_cons (xgs g2) xds_nil))) (oc_niST (ys := ["known", "alike"]))) (?_ : _ = false)) ⟨fun h => (by cases h), fun _ => ds_nil ?_⟩))
      · show (false || !tapOk r.tap) = false
        rw [htap]
        rfl
      · refine ds_one (s_ret (dx_d (xv 0 rfl rfl) ?_))
        rw [hRt]
        refine ⟨trivial, fin_ok (Q := fun M1 => P _ M1) rfl ho (hk ?_)⟩
        unfold ruleFault
        rw [if_neg (by rw [h1]; simp), if_neg (by rw [h2]; simp)]
theorem ok_read_rule (b : Bl W) {CT : Addr} (T : Xcl W "BadText" CT 1 ["line"]) (t : Dg W "read_rule" 63) (g1 : Gs W "EVENED" "evened") (g2 : Gs W "BLIND" "blind") (g3 : Gs W "TAPS" "taps") (g4 : Gs W "KNOWN" "known") (g5 : Gs W "ALIKE" "alike") (g6 : Gi W "MOST_BOXES_rules" 8)
    (fI : Mki W "Lines" C 3 ["self", "text"] (spM W 2 (RLinit C))) (fN : Mt W C 5 "numbers" ["self", "word", "least"] (spM W 3 (RLnums C))) (fW : Mt W C 4 "words" ["self", "word"] (spM W 2 (RLwords C))) (fE : Mt W C 4 "end" ["self"] (spM W 1 (RLend C))) (fR : Fk W 4 "checked_rule" ["thing", "many"] (spM W 2 RCheck)) :
    Fk W 6 "read_rule" ["text"] (spM W 1 RReadR) :=
  t.fm (N := ["text", "lines", "evened", "blind", "taps"]) ⟨rfl, rfl, rfl, by decide +kernel, rfl, by decide +kernel, by decide +kernel⟩ (fun _ _ _ _ _ _ us hl => match us, hl with | [_], _ => rfl) rfl fun E B zs M P PX hF hRt hPX hl hR => by
    obtain ⟨d, rfl, ho, hs, hb⟩ := hR
    have badX : ∀ (x : Xc) (xs : List MO), PX x M → B.PX x (M ++ xs) := fun x xs h => by
      rw [hPX]
      refine ⟨okM_back ho, ?_⟩
      show PX x ((M ++ xs).take M.length)
      rw [List.take_left]
      exact h
    refine ds_cons (s_asg (i := 1) rfl (dx_make (PX := B.PX) fI (.inl rfl) B.hX (dxs_cons (dx_d (xv 0 rfl rfl) (dxs_nil ⟨rfl, M.length, d, rfl, ap_get0 rfl, okM_app ho rfl, fun s e => ?_, fun hn => badX _ _ (hb hn)⟩)))))
    subst e
    obtain ⟨hx, hbad, hgood⟩ := hs s rfl
    refine ⟨hx, rfl, ?_⟩
    rw [ap_set0]
    have hL := lines_ok hx
    generalize linesOf s = L at hL hbad hgood
    have bad : ∀ (n : Nat) (xs : List MO), readRule L = .inl n → B.PX (badText n) (M ++ xs) := fun n xs h => badX _ xs (hbad n h)
    refine ds_cons (s_par3 (i := 2) (j := 3) (l := 4) rfl rfl rfl (dxs_cons (dx_meth (PX := B.PX) fN (.inl rfl) B.hX (i := 1) rfl rfl (ap_get0 rfl) (by kernel_rfl) (dxs_d (xds_cons (xgs g1) (xds_cons xd_i xds_nil)) ⟨rfl, M.length, L, 0, "evened", 0, rfl, ap_get0 rfl, okM_app ho rfl, hL, fun h => ?_, fun le he => ?_⟩))))
    · have hh : readRule L = .inl 0 := by
        unfold readRule
        rw [h]
      rw [ap_set0]
      exact ⟨bad 0 _ hh, bad 0 _ hh⟩
    rw [ap_set0]
    refine dxs_cons (dx_meth (PX := B.PX) fN (.inl rfl) B.hX (i := 1) rfl rfl (ap_get0 rfl) (by kernel_rfl) (dxs_d (xds_cons (xgs g2) (xds_cons xd_i xds_nil)) ⟨rfl, M.length, L, 1, "blind", 0, rfl, ap_get0 rfl, okM_app ho rfl, hL, fun h => ?_, fun lb hb2 => ?_⟩))
    · have hh : readRule L = .inl 1 := by
        unfold readRule
        simp only [he, h]
      rw [ap_set0]
      exact ⟨bad 1 _ hh, bad 1 _ hh⟩
    rw [ap_set0]
    refine dxs_cons (dx_meth (PX := B.PX) fW (.inl rfl) B.hX (i := 1) rfl rfl (ap_get0 rfl) (by kernel_rfl) (dxs_d (xds_cons (xgs g3) xds_nil) ⟨rfl, M.length, L, 2, "taps", rfl, ap_get0 rfl, okM_app ho rfl, hL, fun h => ?_, fun ws hw => dxs_nil ⟨_, _, _, rfl, ?_⟩⟩))
    · have hh : readRule L = .inl 2 := by
        unfold readRule
        simp only [he, hb2, h]
      exact bad 2 _ hh
    rw [ap_set0]
    by_cases l1 : ws.length = 1
    · obtain ⟨k, rfl⟩ : ∃ k, ws = [k] := by
        match ws, l1 with
        | [k], _ => exact ⟨k, rfl⟩
      have hrr : readRule L = if tapOk k = true then (if 3 < L.length then .inl 3 else .inr ⟨le, lb, k⟩) else .inl 2 := by
        unfold readRule
        simp only [he, hb2, hw]
      refine ds_cons (s_if (dt_t (XT.is (xt_or2 (xt_cmp (xd_callB boot_len b.len (xds_cons (xv 4 rfl rfl) xds_nil) of_lenL) xd_i oc_neI) fun _ => xt_cmp (xd_ix (xv 4 rfl rfl) xd_i (oi_L (atI_nat (j := 0) rfl))) (xd_tup (xds_cons (xgs g4) (xds_cons (xgs g5) xds_nil))) (oc_niST (ys := ["known", "alike"]))) (rfl : _ = !tapOk k)) ⟨fun h => ds_one (s_raise T ⟨_, rfl⟩ (dxs_d (xds_cons xd_i xds_nil) ⟨[_], rfl, rfl, by decide, bad 2 _ ?_⟩)), fun h => ds_nil ?_⟩))
      · have h : tapOk k = false := by simpa using h
        rw [hrr, h]
        rfl
      · have h : tapOk k = true := by simpa using h
        rw [if_pos h] at hrr
        refine ds_cons (s_expr (dx_meth0 (PX := B.PX) fE (.inl rfl) B.hX (i := 1) rfl rfl (ap_get0 rfl) (by kernel_rfl) ⟨M.length, L, 3, rfl, ap_get0 rfl, okM_app ho rfl, fun h3 => bad 3 _ (by rw [hrr, if_pos h3]), fun h3 => ?_⟩))
        rw [if_neg (by omega)] at hrr
        obtain ⟨hg1, hg2⟩ := hgood _ hrr
        refine ds_one (s_ret (dx_call (PX := B.PX) fR (.inl rfl) B.hX (dxs_d (xds_cons (XD.is (xd_tup (xds_cons (xv 2 rfl rfl) (xds_cons (xv 3 rfl rfl) (xds_cons (xd_ix (xv 4 rfl rfl) xd_i (oi_L (atI_nat (j := 0) rfl))) xds_nil)))) (rfl : _ = ruleD ⟨le, lb, k⟩)) (xds_cons (xgi g6) xds_nil)) ⟨rfl, ⟨le, lb, k⟩, rfl, okM_app ho rfl, h, nums_at_len hL he, nums_at_len hL hb2, fun p e => badX _ _ (hg1 p e), fun e => ?_⟩)))
        rw [hRt]
        refine ⟨trivial, okM_back ho, ?_⟩
        show P _ ((M ++ _).take M.length)
        rw [List.take_left]
        exact hg2 e
    · have hh : readRule L = .inl 2 := by
        unfold readRule
        simp only [he, hb2, hw]
        split
        · rename_i e
          cases e
          exact absurd rfl l1
        · rfl
      refine ds_cons (s_if (dt_t (XT.is (xt_or2 (k' := true) (XT.is (xt_cmp (xd_callB boot_len b.len (xds_cons (xv 4 rfl rfl) xds_nil) of_lenL) xd_i oc_neI) (?_ : _ = true)) fun h => (by cases h)) (rfl : _ = true)) ⟨fun _ => ds_one (s_raise T ⟨_, rfl⟩ (dxs_d (xds_cons xd_i xds_nil) ⟨[_], rfl, rfl, by decide, bad 2 _ hh⟩)), fun h => (by cases h)⟩))
      rw [List.length_map]
      have : ¬ ((ws.length : Nat) : Int) = 1 := by omega
      rw [decide_eq_false this]
      rfl
end
end Ev
namespace Ev
open PySem PySem.Spec PyProof.Rows L2 Evl
/-! ### the law's own reading of a line -/
theorem cut_mid {α : Type} (xs : List α) (a b : Nat) : cutG xs (some (a : Int)) (some (b : Int)) = (xs.drop a).take (b - a) := by
  unfold cutG
  rw [HT.sIx_nat, HT.sIx_nat]
  rcases Nat.le_total a xs.length with h | h
  · rw [Nat.min_eq_left h]
    rcases Nat.le_total b xs.length with h2 | h2
    · rw [Nat.min_eq_left h2]
    · rw [Nat.min_eq_right h2, List.take_of_length_le (by rw [List.length_drop]; exact Nat.le_refl _), List.take_of_length_le (by rw [List.length_drop]; omega)]
  · rw [Nat.min_eq_right h, List.drop_of_length_le (Nat.le_refl _), List.drop_of_length_le h]
    simp
theorem shaped_lstO (o : Option (List Nat)) : SeqAt.shaped (lstO o) = true := by
  cases o with
  | none => rfl
  | some l =>
    have key : ∀ l : List Nat, PyData.canLayAll0 (natsD l) = true ∧ PyData.depthAll (natsD l) = 0 := fun l => by
      unfold natsD
      induction l with
      | nil => exact ⟨rfl, rfl⟩
      | cons c l ih =>
        obtain ⟨i1, i2⟩ := ih
        rw [List.map_cons, PyData.canLayAll0, PyData.depthAll, i1, i2]
        exact ⟨rfl, rfl⟩
    obtain ⟨k1, k2⟩ := key l
    unfold SeqAt.shaped lstO
    rw [Bool.and_eq_true, decide_eq_true_eq, PyData.canLay0, PyData.depth]
    simp only [PyData.canLayAll0, PyData.canLay0, PyData.depthAll, PyData.depth, k1, k2]
    exact ⟨rfl, by omega⟩
def rowD : Row → PyData
  | .names m => .int ((m : Nat) : Int)
  | .box l => .tuple (natsD l)
  | .cable c => cabD c
  | .loop a b l => .tuple [.int ((a : Nat) : Int), .int ((b : Nat) : Int), .tuple (natsD l)]
def toldD : Option Row → PyData
  | none => .list []
  | some row => .list [.tuple [.str (kindW row), rowD row]]
abbrev RLine : List PyData → PyData → Prop := fun ds d => ∃ w ws, ds = [strsD (w :: ws)] ∧ WsOk (w :: ws) ∧ d = toldD (tell (w :: ws))
def lstN (o : Option (List Nat)) : Bool := o.isNone
theorem eqv_lstO (o : Option (List Nat)) : PyData.eqv (lstO o) (.list []) = o.isNone := by
  cases o with
  | none => rfl
  | some l =>
    unfold lstO
    rw [eqv_nil]
    rfl
theorem wsOk_take {ws : List Str} (h : WsOk ws) (k : Nat) : WsOk (ws.take k) := ⟨Nat.le_trans (by rw [List.length_take]; omega) h.1, fun w hw => h.2 w (List.mem_of_mem_take hw)⟩
theorem not_f {b : Bool} (h : (!b) = false) : b = true := by
  cases b with
  | true => rfl
  | false => cases h
theorem tell_cable (r : List Str) : tell ("cable" :: r) = (cabOf r).map .cable := by
  simp only [tell, if_true]
theorem tell_names (r : List Str) : tell ("names" :: r) = match numsAt r 1 with
      | some [m] => some (.names m)
      | _ => none := by
  have n1 : ¬ ("names" : Str) = "cable" := by decide +kernel
  simp only [tell, n1, if_true, if_false] <;> rfl
theorem tell_box (r : List Str) : tell ("box" :: r) = (numsAt r 1).map .box := by
  have n1 : ¬ ("box" : Str) = "cable" := by decide +kernel
  have n2 : ¬ ("box" : Str) = "names" := by decide +kernel
  simp only [tell, n1, n2, if_true, if_false]
theorem tell_loop (r : List Str) : tell ("loop" :: r) = match numsAt r 3 with
      | some (a :: b :: l) => some (.loop a b l)
      | _ => none := by
  have n1 : ¬ ("loop" : Str) = "cable" := by decide +kernel
  have n2 : ¬ ("loop" : Str) = "names" := by decide +kernel
  have n3 : ¬ ("loop" : Str) = "box" := by decide +kernel
  simp only [tell, n1, n2, n3, if_true, if_false] <;> rfl
theorem nums2 (x y : Str) : numsAt [x, y] 2 = match numIn x, numIn y with
    | some a, some c => some [a, c]
    | _, _ => none := by
  unfold numsAt
  simp only [numsIn]
  cases numIn x with
  | none => rfl
  | some a => cases numIn y <;> rfl
theorem cab_nums (x y k : Str) : cabOf [x, y, k] = match numsAt [x, y] 2 with
    | some [a, c] => if kindOk k = true then some ((a : Int), (c : Int), k) else none
    | _ => none := by
  rw [nums2]
  simp only [cabOf]
  cases numIn x with
  | none => rfl
  | some a => cases numIn y <;> rfl
section
variable {W : Wd}
theorem ok_law_line (b : Bl W) (t : Dg W "_law_line" 87) (f1 : Fk W 2 "_law_numbers" ["_law_words", "_law_least"] (spD W.K 2 RNumsL)) : Fk W 3 "_law_line" ["_law_words"] (spD W.K 1 RLine) :=
  t.fd (N := ["_law_words", "_law_found", "_law_thing", "_law_good"]) ⟨rfl, rfl, rfl, by decide +kernel, rfl, by decide +kernel, by decide +kernel⟩ (fun _ _ _ _ _ _ us hl => match us, hl with | [_], _ => rfl) rfl fun E A H Q ds d q hl hR => by
    obtain ⟨w, r, rfl, hw, hd⟩ := hR
    have hr := wsOk_tail hw
    refine ds_cons (s_if (dt_t (xt_cmp (xd_ix (xv 0 rfl rfl) xd_i (oi_L (atI_nat (j := 0) rfl))) xd_s oc_eqS) ⟨fun h => ?_, fun h => ds_nil ?_⟩))
    · have h := of_decide_eq_true h
      subst h
      rw [tell_cable] at hd
      refine ds_cons (s_asg (i := 1) rfl (dx_d (xd_call f1 (xds_cons (XD.is (xd_slL (xv 0 rfl rfl) (xo_i xd_i) (xo_i xd_i)) (?_ : _ = strsD (r.take 2))) (xds_cons xd_i xds_nil)) ⟨r.take 2, 2, rfl, wsOk_take hr 2, rfl⟩) ?_))
      · rw [show (1 : Int) = ((1 : Nat) : Int) from rfl, show (3 : Int) = ((3 : Nat) : Int) from rfl, cut_mid]
        unfold strsD
        rw [List.map_take]
        rfl
      by_cases l3 : r.length = 3
      · obtain ⟨x, y, k, rfl⟩ : ∃ x y k, r = [x, y, k] := by
          match r, l3 with
          | [x, y, k], _ => exact ⟨x, y, k, rfl⟩
        have hc := cab_nums x y k
        have kk : decide (k ∈ (["post", "pre"] : List Str)) = kindOk k := by
          unfold kindOk
          simp
        have tk : ([x, y, k] : List Str).take 2 = [x, y] := rfl
        rw [tk]
        cases e : numsAt [x, y] 2 with
        | none =>
          rw [e] at hc
          refine ds_cons (s_asg (i := 3) rfl (dx_d (XD.is (xd_and (xd_cmp (xd_callB boot_len b.len (xds_cons (xv 0 rfl rfl) xds_nil) of_lenL) xd_i oc_eqI) fun _ => xd_and2 (k' := false) (xd_cmp (xv 1 rfl rfl) (xd_lst xds_nil (by simp)) (oc_neD (shaped_lstO _) rfl)) fun h => (by
            rw [eqv_lstO] at h
            cases h)) (?_ : _ = PyData.bool false)) ?_))
          · rw [eqv_lstO]
            rfl
          · refine ds_one (ret_d (xd_if (k := false) (xt_v (xv 3 rfl rfl)) (fun h => (by cases h)) fun _ => xd_lst xds_nil (by simp)) ?_)
            rw [hd, hc]
            rfl
        | some l =>
          rw [e] at hc
          obtain ⟨a, c, rfl⟩ : ∃ a c, l = [a, c] := by
            have := (nums_len e).1
            match l, this with
            | [a, c], _ => exact ⟨a, c, rfl⟩
          have hc : cabOf [x, y, k] = if kindOk k = true then some ((a : Int), (c : Int), k) else none := hc
          refine ds_cons (s_asg (i := 3) rfl (dx_d (XD.is (xd_and (xd_cmp (xd_callB boot_len b.len (xds_cons (xv 0 rfl rfl) xds_nil) of_lenL) xd_i oc_eqI) fun _ => xd_and2 (xd_cmp (xv 1 rfl rfl) (xd_lst xds_nil (by simp)) (oc_neD (shaped_lstO _) rfl)) fun _ => xd_cmp (xd_ix (xv 0 rfl rfl) xd_i (oi_L (atI_nat (j := 3) rfl))) (xd_tup (xds_cons xd_s (xds_cons xd_s xds_nil))) (oc_inST (ys := ["post", "pre"]))) (?_ : _ = PyData.bool (kindOk k))) ?_))
          · rw [eqv_lstO, kk]
            rfl
          · refine ds_one (ret_d (xd_if (k := kindOk k) (xt_v (xv 3 rfl rfl)) (fun h => XD.is (xd_lst (xds_cons (xd_tup (xds_cons xd_s (xds_cons (xd_bin (xd_ix (xv 1 rfl rfl) xd_i (oi_L (atI_nat (j := 0) rfl))) (xd_tup (xds_cons (xd_ix (xv 0 rfl rfl) xd_i (oi_L (atI_nat (j := 3) rfl))) xds_nil)) (ob_catT (by simp [natsD]))) xds_nil))) xds_nil) (by simp)) ?_) fun h => XD.is (xd_lst xds_nil (by simp)) ?_) rfl)
            · rw [hd, hc, if_pos h]
              rfl
            · rw [hd, hc, if_neg (by rw [h]; simp)]
              rfl
      · have hc : cabOf r = none := by
          unfold cabOf
          split
          · exact absurd rfl l3
          · rfl
        refine ds_cons (s_asg (i := 3) rfl (dx_d (XD.is (xd_and (k := false) (k' := true) (XD.is (xd_cmp (xd_callB boot_len b.len (xds_cons (xv 0 rfl rfl) xds_nil) of_lenL) xd_i oc_eqI) (?_ : _ = PyData.bool false)) fun h => (by cases h)) (rfl : _ = PyData.bool false)) ?_))
        · rw [List.length_map, List.length_cons]
          have : ¬ (((r.length + 1 : Nat)) : Int) = 4 := by omega
          rw [decide_eq_false this]
        · refine ds_one (ret_d (xd_if (k := false) (xt_v (xv 3 rfl rfl)) (fun h => (by cases h)) fun _ => xd_lst xds_nil (by simp)) ?_)
          rw [hd, hc]
          rfl
    · have hcab := of_decide_eq_false h
      refine ds_cons (s_if (dt_t (xt_cmp (xd_ix (xv 0 rfl rfl) xd_i (oi_L (atI_nat (j := 0) rfl))) (xd_tup (xds_cons xd_s (xds_cons xd_s (xds_cons xd_s xds_nil)))) (oc_niST (ys := ["names", "box", "loop"]))) ⟨fun h => ?_, fun h => ds_nil ?_⟩))
      · have h : ¬ (w ∈ (["names", "box", "loop"] : List Str)) := by simpa using h
        refine ds_one (ret_d (xd_lst xds_nil (by simp)) ?_)
        simp only [List.mem_cons, List.not_mem_nil, or_false, not_or] at h
        obtain ⟨h1, h2, h3⟩ := h
        rw [hd]
        simp only [tell, hcab, h1, h2, h3, if_false]
        rfl
      · have h : w ∈ (["names", "box", "loop"] : List Str) := of_decide_eq_true (not_f h)
        refine ds_cons (s_asg (i := 1) rfl (dx_d (xd_call f1 (xds_cons (XD.is (xd_slL (xv 0 rfl rfl) (xo_i xd_i) xo_n) (?_ : _ = strsD r)) (xds_cons (xd_if (k := decide (w = "loop")) (xt_cmp (xd_ix (xv 0 rfl rfl) xd_i (oi_L (atI_nat (j := 0) rfl))) xd_s oc_eqS) (d := .int (((if w = "loop" then 3 else 1 : Nat)) : Int)) (fun h => XD.is xd_i ?_) fun h => XD.is xd_i ?_) xds_nil)) ⟨r, (if w = "loop" then 3 else 1), rfl, hr, rfl⟩) ?_))
        · rw [show (1 : Int) = ((1 : Nat) : Int) from rfl, cut_drop]
          rfl
        · rw [if_pos (of_decide_eq_true h)]
          rfl
        · rw [if_neg (of_decide_eq_false h)]
          rfl
        simp only [List.mem_cons, List.not_mem_nil, or_false] at h
        rcases h with rfl | rfl | rfl
        · -- names
          rw [tell_names] at hd
          rw [if_neg (by decide +kernel)]
          cases e : numsAt r 1 with
          | none =>
            rw [e] at hd
            refine ds_cons (s_if (dt_t (XT.is (xt_or2 (k' := true) (xt_cmp (xv 1 rfl rfl) (xd_lst xds_nil (by simp)) (oc_eqD (shaped_lstO _) rfl)) fun h => (by
              rw [eqv_lstO] at h
              cases h)) (by rw [eqv_lstO]; rfl : _ = true)) ⟨fun _ => ds_one (ret_d (xd_lst xds_nil (by simp)) hd.symm), fun h => (by cases h)⟩))
          | some l =>
            rw [e] at hd
            by_cases l1 : l.length = 1
            · obtain ⟨m, rfl⟩ : ∃ m, l = [m] := by
                match l, l1 with
                | [m], _ => exact ⟨m, rfl⟩
              refine ds_cons (s_if (dt_t (XT.is (xt_or2 (xt_cmp (xv 1 rfl rfl) (xd_lst xds_nil (by simp)) (oc_eqD (shaped_lstO _) rfl)) fun h => xt_and2 (xt_cmp (xd_ix (xv 0 rfl rfl) xd_i (oi_L (atI_nat (j := 0) rfl))) xd_s oc_eqS) fun _ => xt_cmp (xd_callB boot_len b.len (xds_cons (xd_ix (xv 1 rfl rfl) xd_i (oi_L (atI_nat (j := 0) rfl))) xds_nil) of_lenT) xd_i oc_neI) (by rw [eqv_lstO]; rfl : _ = false)) ⟨fun h => (by cases h), fun _ => ds_nil ?_⟩))
              refine ds_cons (s_asg (i := 2) rfl (dx_d (xd_if (k := false) (XT.is (xt_cmp (xd_ix (xv 0 rfl rfl) xd_i (oi_L (atI_nat (j := 0) rfl))) xd_s oc_eqS) (by decide +kernel)) (fun h => (by cases h)) fun _ => xd_ix (xd_ix (xv 1 rfl rfl) xd_i (oi_L (atI_nat (j := 0) rfl))) xd_i (oi_T (atI_nat (j := 0) rfl))) ?_))
              exact ds_one (ret_d (xd_lst (xds_cons (xd_tup (xds_cons (xd_ix (xv 0 rfl rfl) xd_i (oi_L (atI_nat (j := 0) rfl))) (xds_cons (xd_if (k := false) (XT.is (xt_cmp (xd_ix (xv 0 rfl rfl) xd_i (oi_L (atI_nat (j := 0) rfl))) xd_s oc_eqS) (by decide +kernel)) (fun h => (by cases h)) fun _ => xv 2 rfl rfl) xds_nil))) xds_nil) (by simp)) hd.symm)
            · refine ds_cons (s_if (dt_t (XT.is (xt_or2 (xt_cmp (xv 1 rfl rfl) (xd_lst xds_nil (by simp)) (oc_eqD (shaped_lstO _) rfl)) fun h => xt_and2 (xt_cmp (xd_ix (xv 0 rfl rfl) xd_i (oi_L (atI_nat (j := 0) rfl))) xd_s oc_eqS) fun _ => xt_cmp (xd_callB boot_len b.len (xds_cons (xd_ix (xv 1 rfl rfl) xd_i (oi_L (atI_nat (j := 0) rfl))) xds_nil) of_lenT) xd_i oc_neI) (?_ : _ = true)) ⟨fun _ => ds_one (ret_d (xd_lst xds_nil (by simp)) ?_), fun h => (by cases h)⟩))
              · have : ¬ (((natsD l).length : Nat) : Int) = 1 := by
                  unfold natsD
                  rw [List.length_map]
                  omega
                rw [eqv_lstO, decide_eq_false this, decide_eq_true rfl]
                rfl
              · rw [hd]
                match l, l1 with
                | [], _ => rfl
                | a :: c :: l, _ => rfl
                | [a], h => exact absurd rfl h
        · -- box
          rw [tell_box] at hd
          rw [if_neg (by decide +kernel)]
          cases e : numsAt r 1 with
          | none =>
            rw [e] at hd
            refine ds_cons (s_if (dt_t (XT.is (xt_or2 (k' := true) (xt_cmp (xv 1 rfl rfl) (xd_lst xds_nil (by simp)) (oc_eqD (shaped_lstO _) rfl)) fun h => (by
              rw [eqv_lstO] at h
              cases h)) (by rw [eqv_lstO]; rfl : _ = true)) ⟨fun _ => ds_one (ret_d (xd_lst xds_nil (by simp)) hd.symm), fun h => (by cases h)⟩))
          | some l =>
            rw [e] at hd
            refine ds_cons (s_if (dt_t (XT.is (xt_or2 (xt_cmp (xv 1 rfl rfl) (xd_lst xds_nil (by simp)) (oc_eqD (shaped_lstO _) rfl)) fun h => xt_and2 (k := false) (k' := true) (XT.is (xt_cmp (xd_ix (xv 0 rfl rfl) xd_i (oi_L (atI_nat (j := 0) rfl))) xd_s oc_eqS) (by decide +kernel)) fun h => (by cases h)) (by rw [eqv_lstO]; rfl : _ = false)) ⟨fun h => (by cases h), fun _ => ds_nil ?_⟩))
            refine ds_cons (s_asg (i := 2) rfl (dx_d (xd_if (k := true) (XT.is (xt_cmp (xd_ix (xv 0 rfl rfl) xd_i (oi_L (atI_nat (j := 0) rfl))) xd_s oc_eqS) (by decide +kernel)) (fun _ => xd_ix (xv 1 rfl rfl) xd_i (oi_L (atI_nat (j := 0) rfl))) fun h => (by cases h)) ?_))
            exact ds_one (ret_d (xd_lst (xds_cons (xd_tup (xds_cons (xd_ix (xv 0 rfl rfl) xd_i (oi_L (atI_nat (j := 0) rfl))) (xds_cons (xd_if (k := false) (XT.is (xt_cmp (xd_ix (xv 0 rfl rfl) xd_i (oi_L (atI_nat (j := 0) rfl))) xd_s oc_eqS) (by decide +kernel)) (fun h => (by cases h)) fun _ => xv 2 rfl rfl) xds_nil))) xds_nil) (by simp)) hd.symm)
        · -- loop
          rw [tell_loop] at hd
          rw [if_pos rfl]
          cases e : numsAt r 3 with
          | none =>
            rw [e] at hd
            refine ds_cons (s_if (dt_t (XT.is (xt_or2 (k' := true) (xt_cmp (xv 1 rfl rfl) (xd_lst xds_nil (by simp)) (oc_eqD (shaped_lstO _) rfl)) fun h => (by
              rw [eqv_lstO] at h
              cases h)) (by rw [eqv_lstO]; rfl : _ = true)) ⟨fun _ => ds_one (ret_d (xd_lst xds_nil (by simp)) hd.symm), fun h => (by cases h)⟩))
          | some l =>
            rw [e] at hd
            obtain ⟨a, c, l, rfl⟩ : ∃ a c l', l = a :: c :: l' := by
              have h3 := (nums_len e).2
              match l, h3 with
              | a :: c :: l', _ => exact ⟨a, c, l', rfl⟩
            refine ds_cons (s_if (dt_t (XT.is (xt_or2 (xt_cmp (xv 1 rfl rfl) (xd_lst xds_nil (by simp)) (oc_eqD (shaped_lstO _) rfl)) fun h => xt_and2 (k := false) (k' := true) (XT.is (xt_cmp (xd_ix (xv 0 rfl rfl) xd_i (oi_L (atI_nat (j := 0) rfl))) xd_s oc_eqS) (by decide +kernel)) fun h => (by cases h)) (by rw [eqv_lstO]; rfl : _ = false)) ⟨fun h => (by cases h), fun _ => ds_nil ?_⟩))
            refine ds_cons (s_asg (i := 2) rfl (dx_d (xd_if (k := false) (XT.is (xt_cmp (xd_ix (xv 0 rfl rfl) xd_i (oi_L (atI_nat (j := 0) rfl))) xd_s oc_eqS) (by decide +kernel)) (fun h => (by cases h)) fun _ => xd_ix (xd_ix (xv 1 rfl rfl) xd_i (oi_L (atI_nat (j := 0) rfl))) xd_i (oi_T (atI_nat (j := 0) rfl))) ?_))
            refine ds_one (ret_d (xd_lst (xds_cons (xd_tup (xds_cons (xd_ix (xv 0 rfl rfl) xd_i (oi_L (atI_nat (j := 0) rfl))) (xds_cons (xd_if (k := true) (XT.is (xt_cmp (xd_ix (xv 0 rfl rfl) xd_i (oi_L (atI_nat (j := 0) rfl))) xd_s oc_eqS) (by decide +kernel)) (fun _ => xd_tup (xds_cons (xd_ix (xd_ix (xv 1 rfl rfl) xd_i (oi_L (atI_nat (j := 0) rfl))) xd_i (oi_T (atI_nat (j := 0) rfl))) (xds_cons (xd_ix (xd_ix (xv 1 rfl rfl) xd_i (oi_L (atI_nat (j := 0) rfl))) xd_i (oi_T (atI_nat (j := 1) rfl))) (xds_cons (XD.is (xd_slT (xd_ix (xv 1 rfl rfl) xd_i (oi_L (atI_nat (j := 0) rfl))) (xo_i xd_i) xo_n) (?_ : _ = PyData.tuple (natsD l))) xds_nil)))) fun h => (by cases h)) xds_nil))) xds_nil) (by simp)) hd.symm)
            rw [show (2 : Int) = ((2 : Nat) : Int) from rfl, cut_drop]
            rfl
end
end Ev
namespace Ev
open PySem PySem.Spec PyProof.Rows L2 Evl
/-! ### lists of lists that change -/
theorem rvs_refs {K : Kf} {A : Hp} {ps : List Addr} : ∀ {is : List Nat} {vs : List V}, Rvs K A ps vs (is.map .r) → ∃ qs : List Addr, vs = qs.map .ref ∧ is.map (fun i => ps[i]?) = qs.map some
  | [], _, h => by
    cases h
    exact ⟨[], rfl, rfl⟩
  | i :: is, _, h => by
    cases h with
    | cons h1 h2 =>
      obtain ⟨p, e1, e2⟩ := h1
      obtain ⟨qs, e3, e4⟩ := rvs_refs h2
      subst e2 e3
      exact ⟨p :: qs, rfl, by rw [List.map_cons, List.map_cons, e1, e4]⟩
theorem dpa_strsV {K : Kf} {A : Hp} : ∀ {ws : List Str} {xs : List V}, DpAll K A xs (ws.map .str) → xs = ws.map V.str
  | [], _, h => by
    cases h
    rfl
  | w :: ws, _, h => by
    cases h with
    | cons a1 a2 => rw [dp_str a1, dpa_strsV a2, List.map_cons]
section
variable {Γ : Gm} {B : Fb Γ} {F : Fm} {ρ : Rho} {M : List MO} {a b e o : Expr} {es : List Expr} {P : SV → List MO → Prop} {N : Rho → List MO → Prop} {pos p ap cp : Pos}
theorem dx_newRfs (h : DXs Γ F ρ M es fun zs M1 => ∃ is, zs = is.map .r ∧ is.length ≤ 100000 ∧ P (.r M1.length) (M1 ++ [.rfs is])) : DX Γ F ρ M (.List es pos) P := fun A H σ ps E Q q =>
  WG.of (te := tLst (WGa Γ es)) (fun X h => pe_lst (pa_wg h)) (h A H σ ps E _ fun vs zs A1 H1 M1 ps1 e1 E1 rs ⟨is, hz, hl, p⟩ => by
    subst hz
    have hlen := rs.len
    obtain ⟨qs, e2, e3⟩ := rvs_refs rs
    subst e2
    refine ⟨by rw [hlen, List.length_map]; exact sz_of hl, fun l hn => q _ (.r M1.length) A1 _ _ (ps1 ++ [l]) (e1.trans ⟨Ex.refl _, [l], rfl⟩) (E1.newM (m := .rfs is) hn (MoOk.more (m := .rfs is) ⟨qs, upd_same, e3⟩)) ⟨l, ?_, rfl⟩ p⟩
    rw [E1.ms.ln]
    simp)
/-- an item of such a list -/
theorem dx_ixF (ha : DX Γ F ρ M a fun z M1 => ∃ j, z = .r j ∧ DX Γ F ρ M1 b fun y M2 => ∃ k is j', y = .d (.int k) ∧ M2[j]? = some (.rfs is) ∧ atI is k = some j' ∧ P (.r j') M2) (hs : PlainIx b := by exact fun _ _ => rfl) : DX Γ F ρ M (.Subscript a b pos) P := fun A H σ ps E Q q =>
  WG.of (te := tOp (wIx Γ) (WG Γ a) (WG Γ b)) (fun X h => pe_ix (ix_w h) (pe_wg h) (pe_wg h) hs) (ha A H σ ps E _ fun v z A1 H1 M1 ps1 e1 E1 r ⟨j, hz, hb⟩ => by
    subst hz
    obtain ⟨pj, hp, rfl⟩ := r
    refine hb A1 H1 σ ps1 E1 _ fun y z2 A2 H2 M2 ps2 e2 E2 r2 ⟨k, is, j', hz2, hm, hi, p⟩ => ?_
    subst hz2
    obtain ⟨g1, ⟨qs, g2, g3⟩, _⟩ := E2.ms.mo j _ pj hm (e2.at hp)
    have hlen : is.length = qs.length := by
      have := congrArg List.length g3
      simpa using this
    unfold atI at hi
    rw [hlen] at hi
    cases e3 : ixN qs.length k with
    | none =>
      rw [e3] at hi
      cases hi
    | some jj =>
      rw [e3] at hi
      have hi : is[jj]? = some j' := hi
      have e4 : (is.map fun i => ps2[i]?)[jj]? = some ps2[j']? := by
        rw [List.getElem?_map, hi]
        rfl
      rw [g3, List.getElem?_map] at e4
      cases e5 : qs[jj]? with
      | none =>
        rw [e5] at e4
        cases e4
      | some q0 =>
        rw [e5] at e4
        have e4 : some q0 = ps2[j']? := Option.some.inj e4
        refine wIx.of (r := rIxL Γ.W.K) (fun X h => h.K ▸ ix_list) ⟨pj, qs.map V.ref, k, .ref q0, rfl, dp_int r2, sq_of g2, ?_, q _ (.r j') A2 H2 M2 ps2 (e1.trans e2) E2 ⟨q0, e4.symm, rfl⟩ p⟩
        unfold atI
        rw [List.length_map, e3]
        show (qs.map V.ref)[jj]? = _
        rw [List.getElem?_map, e5]
        rfl)
theorem dx_ixN (ha : DX Γ F ρ M a fun z M1 => ∃ j, z = .r j ∧ DX Γ F ρ M1 b fun y M2 => ∃ k ds d, y = .d (.int k) ∧ M2[j]? = some (.lst ds) ∧ atI ds k = some d ∧ P (.d d) M2) (hs : PlainIx b := by exact fun _ _ => rfl) : DX Γ F ρ M (.Subscript a b pos) P := fun A H σ ps E Q q =>
  WG.of (te := tOp (wIx Γ) (WG Γ a) (WG Γ b)) (fun X h => pe_ix (ix_w h) (pe_wg h) (pe_wg h) hs) (ha A H σ ps E _ fun v z A1 H1 M1 ps1 e1 E1 r ⟨j, hz, hb⟩ => by
    subst hz
    obtain ⟨pj, hp, rfl⟩ := r
    refine hb A1 H1 σ ps1 E1 _ fun y z2 A2 H2 M2 ps2 e2 E2 r2 ⟨k, ds, d, hz2, hm, hi, p⟩ => ?_
    subst hz2
    obtain ⟨g1, ⟨xs, g2, g3⟩, _⟩ := E2.ms.mo j _ pj hm (e2.at hp)
    obtain ⟨v, hv', hd'⟩ := atI_dp g3 hi
    exact wIx.of (r := rIxL Γ.W.K) (fun X h => h.K ▸ ix_list) ⟨pj, xs, k, v, rfl, dp_int r2, sq_of g2, hv', q v (.d d) A2 H2 M2 ps2 (e1.trans e2) E2 hd' p⟩)
/-- tuple(x) of a list that changes -/
theorem dx_tupM (hm : Γ.W.mg "tuple" = Option.none) (h : DX Γ F ρ M e fun z M1 => ∃ j ds, z = .r j ∧ M1[j]? = some (.lst ds) ∧ P (.d (.tuple ds)) M1) (g : Glo Γ "tuple" := by rfl) (n : NS e := by intro _ _; rfl) : DX Γ F ρ M (.Call (.Name "tuple" p) [e] [] pos) P := fun A H σ ps E Q q =>
  WG.of (te := tCB (wCl Γ (.type "tuple")) (tCons (WG Γ e) tNil)) (fun X h => pe_callTy (cl_w h) (gl_of h g) (by rw [h.mg]; exact hm) bt_tuple (pa_cons (pe_wg h) pa_nil (n [] X.env)) (by decide) (by decide) (n [] X.env) rfl) (h A H σ ps E _ fun v z A1 H1 M1 ps1 e1 E1 r ⟨j, ds, hz, hm, p⟩ => by
    subst hz
    obtain ⟨pj, hp, rfl⟩ := r
    obtain ⟨g1, ⟨xs, g2, g3⟩, _⟩ := E1.ms.mo j _ pj hm hp
    refine wCl.of (fun X h => h.K ▸ call_tuple_of) ⟨pj, xs, rfl, .inl ⟨sq_of g2, fun l hn => ?_⟩⟩
    have w := Gw.new (o := .tup xs) E1.ah hn
    exact q _ (.d (.tuple ds)) _ _ M1 ps1 (e1.trans (.of w.a)) (E1.step w) (.tup (st_of upd_same) (g3.ex w.a)) p)
/-- o.append(e) -/
theorem s_appE (ho : DX Γ B.F ρ M o fun z M1 => ∃ j ds0, z = .r j ∧ M1[j]? = some (.lst ds0) ∧ DX Γ B.F ρ M1 e fun z M2 => ∃ ds d, z = .d d ∧ M2[j]? = some (.lst ds) ∧ ds.length < 100000 ∧ N ρ (M2.set j (.lst (ds ++ [d])))) (ne : NS e := by intro _ _; rfl) (hb : ∀ env, attributeBase o "append" env (eval o env) = eval o env := by intro _; rfl)
    (hline : (ap.endLine == cp.line) = true := by rfl) : DS1 Γ B ρ M (.Expr (.Call (.Attribute o "append" ap) [e] [] cp) pos) N := fun A H σ ps E D hD k => by
  refine WGs.of (ts := tDrop (tBM Γ.W.K "list" rAppend (WG Γ o) (tCons (WG Γ e) tNil))) (fun X hX => ps_expr (hX.K ▸ pe_bm PySem.F.plainAttrs_list PySem.F.slot_list_append PySem.F.type_list_append mt_append (pe_wg hX) (pa_cons (pe_wg hX) pa_nil (ne [] X.env)) (hb X.env) (by
    have z := ne [] X.env
    rw [z]
    rfl) hline (ne [] X.env) rfl) rfl) (ho A H σ ps E _ fun v z A1 H1 M1 ps1 e1 E1 r ⟨j, ds0, hz, hm, he⟩ => ?_)
  subst hz
  obtain ⟨pj, hp, rfl⟩ := r
  obtain ⟨g1, ⟨xs, g2, g3⟩, _⟩ := E1.ms.mo j _ pj hm hp
  refine ⟨.inl ⟨rfl, xs, sq_of g2⟩, he A1 H1 σ ps1 E1 _ fun v z A2 H2 M2 ps2 e2 E2 r ⟨ds, d, hz, hm1, hl, n⟩ => ?_⟩
  subst hz
  have hq := e2.at hp
  obtain ⟨g4, ⟨ys, g5, g6⟩, g7⟩ := E2.ms.mo j _ pj hm1 hq
  exact ⟨pj, ys, v, rfl, rfl, g5, by rw [g6.len]; exact sz_lt hl, k A2 _ σ ρ _ ps2 (e1.trans e2) (E2.mut (m := .lst (ds ++ [d])) hm1 rfl hq g5 ⟨(fun q z => by cases z), fun φ z => by cases z⟩ ⟨ys ++ [v], upd_same, g6.append (.cons r .nil)⟩) n⟩
/-- x.index(e) of a list of texts -/
theorem xd_index {ws : List Str} {w : Str} {k : Nat} (ho : XD Γ ρ o (strsD ws)) (he : XD Γ ρ e (.str w)) (h1 : ws[k]? = some w) (h2 : ∀ m z, m < k → ws[m]? = some z → z ≠ w) (ne : NS e := by intro _ _; rfl) (hb : ∀ env, attributeBase o "index" env (eval o env) = eval o env := by intro _; rfl)
    (hline : (ap.endLine == cp.line) = true := by rfl) : XD Γ ρ (.Call (.Attribute o "index" ap) [e] [] cp) (.int ((k : Nat) : Int)) := fun σ A s => up_d (te := tBM Γ.W.K "list" (rIndex Γ.W.K) (WG Γ o) (tCons (WG Γ e) tNil)) (fun X hX => hX.K ▸ pe_bm PySem.F.plainAttrs_list PySem.F.slot_list_index PySem.F.type_list_index mt_index (pe_wg hX) (pa_cons (pe_wg hX) pa_nil (ne [] X.env)) (hb X.env) (by
    have z := ne [] X.env
    rw [z]
    rfl) hline (ne [] X.env) rfl) (ed_mk fun H a Q q => (ho σ A s).run a fun v A2 H2 w2 hv => by
  obtain ⟨p, xs, rfl, hs, hxs⟩ := dp_list hv
  refine ⟨.inl ⟨rfl, xs, ex_l w2.k hs⟩, (he σ A2 (s.mono w2.a)).run w2.k fun u A3 H3 w3 hu => ?_⟩
  have eu := dp_str hu
  subst eu
  have exs : xs = ws.map V.str := dpa_strsV hxs
  subst exs
  refine ⟨p, ws.map V.str, .str w, k, .str w, rfl, rfl, ex_l (w3.a.trans w3.k) hs, rfl, ?_, ?_, ?_, fun m z hm hz => ?_, q _ _ _ (w2.trans w3) (.int _)⟩
  · rw [List.all_map, List.all_eq_true]
    exact fun _ _ => rfl
  · rw [List.getElem?_map, h1]
    rfl
  · show (w == w) = true
    exact beq_self_eq_true _
  · rw [List.getElem?_map] at hz
    cases e : ws[m]? with
    | none =>
      rw [e] at hz
      cases hz
    | some x =>
      rw [e] at hz
      cases hz
      have := h2 m x hm e
      show (x == w) = false
      exact beq_false_of_ne this)
end
end Ev
namespace Ev
open PySem PySem.Spec PyProof.Rows L2 Evl
/-! ### what the law asks of a text of a rack -/
def rackDue (L : List (List Str)) : PyData := match readRack L with
  | .inl n => .tuple [.str "text", .int ((n : Nat) : Int)]
  | .inr r => match lawFault r with
    | none => .list [rackD r]
    | some (p, n) => .tuple [.str "rack", .str p, numD n]
abbrev RDue (Pt : Addr) : MR := fun zs M P PX => ∃ (d : PyData) (t : Nat), zs = [.d d] ∧ M[t]? = some (.tab Pt (lamQ "_law_rack_fault")) ∧ okM M.length M ∧ (∀ s, d = .str s → TxOk s ∧ P (.d (rackDue (linesOf s))) M) ∧ ((∀ s, d ≠ .str s) → P (.d (.tuple [.str "text", .int (-1)])) M)
def kindI : Row → Nat
  | .names _ => 0
  | .box _ => 1
  | .cable _ => 2
  | .loop _ _ _ => 3
def partsM (m st : Nat) (r : Rack) : List MO := [.lst (if st = 0 then [] else [.int r.names]), .lst (r.boxes.map intsD), .lst (r.cables.map cabD), .lst (r.loops.map looD), .rfs [m, m + 1, m + 2, m + 3]]
theorem okM_parts {M : List MO} {st : Nat} {r : Rack} (h : okM M.length M) : okM (M ++ partsM M.length st r).length (M ++ partsM M.length st r) := fun is hi j hj => by
  rw [List.length_append]
  show j < M.length + 5
  rcases List.mem_append.mp hi with z | z
  · have := h is z j hj
    omega
  · unfold partsM at z
    simp only [List.mem_cons, List.not_mem_nil, or_false] at z
    rcases z with z | z | z | z | z
    · cases z
    · cases z
    · cases z
    · cases z
    · cases z
      simp only [List.mem_cons, List.not_mem_nil, or_false] at hj
      omega
theorem tell_cab {ws : List Str} {c : Cab} (h : tell ws = some (.cable c)) : kindOk c.2.2 = true := by
  have e : ([ws] : List (List Str))[0]? = some ws := rfl
  exact cab_kind ((cable_iff e).mp h)
theorem shaped_told {ws : List Str} : SeqAt.shaped (toldD (tell ws)) = true := by
  have key : ∀ l : List Nat, PyData.canLayAll0 (natsD l) = true ∧ PyData.depthAll (natsD l) = 0 := fun l => by
    unfold natsD
    induction l with
    | nil => exact ⟨rfl, rfl⟩
    | cons c l ih =>
      obtain ⟨i1, i2⟩ := ih
      rw [List.map_cons, PyData.canLayAll0, PyData.depthAll, i1, i2]
      exact ⟨rfl, rfl⟩
  cases h : tell ws with
  | none => rfl
  | some row =>
    have sk : PyData.strOk (kindW row) = true := by
      cases row with
      | names _ => exact (by decide +kernel : PyData.strOk ("names" : Str) = true)
      | box _ => exact (by decide +kernel : PyData.strOk ("box" : Str) = true)
      | cable _ => exact (by decide +kernel : PyData.strOk ("cable" : Str) = true)
      | loop _ _ _ => exact (by decide +kernel : PyData.strOk ("loop" : Str) = true)
    unfold SeqAt.shaped toldD
    rw [Bool.and_eq_true, decide_eq_true_eq, PyData.canLay0, PyData.depth]
    cases row with
    | names m =>
      simp only [PyData.canLayAll0, PyData.canLay0, PyData.depthAll, PyData.depth, rowD, sk]
      exact ⟨rfl, by omega⟩
    | box l =>
      obtain ⟨k1, k2⟩ := key l
      simp only [PyData.canLayAll0, PyData.canLay0, PyData.depthAll, PyData.depth, rowD, sk, k1, k2]
      exact ⟨rfl, by omega⟩
    | cable c =>
      have hk := tell_cab h
      have hs : PyData.strOk c.2.2 = true := by
        unfold kindOk at hk
        rcases (Bool.or_eq_true _ _).mp hk with z | z
        · rw [of_decide_eq_true z]
          decide +kernel
        · rw [of_decide_eq_true z]
          decide +kernel
      simp only [PyData.canLayAll0, PyData.canLay0, PyData.depthAll, PyData.depth, rowD, cabD, sk, hs]
      exact ⟨rfl, by omega⟩
    | loop a b l =>
      obtain ⟨k1, k2⟩ := key l
      simp only [PyData.canLayAll0, PyData.canLay0, PyData.depthAll, PyData.depth, rowD, sk, k1, k2]
      exact ⟨rfl, by omega⟩
theorem kinds_at (row : Row) : (["names", "box", "cable", "loop"] : List Str)[kindI row]? = some (kindW row) := by cases row <;> rfl
theorem kinds_no (row : Row) (m : Nat) (z : Str) (hm : m < kindI row) (hz : (["names", "box", "cable", "loop"] : List Str)[m]? = some z) : z ≠ kindW row := by
  have n1 : ("names" : Str) ≠ "box" := by decide +kernel
  have n2 : ("names" : Str) ≠ "cable" := by decide +kernel
  have n3 : ("names" : Str) ≠ "loop" := by decide +kernel
  have n4 : ("box" : Str) ≠ "cable" := by decide +kernel
  have n5 : ("box" : Str) ≠ "loop" := by decide +kernel
  have n6 : ("cable" : Str) ≠ "loop" := by decide +kernel
  cases row with
  | names _ => exact absurd hm (Nat.not_lt_zero _)
  | box _ =>
    match m, hm with
    | 0, _ =>
      cases hz
      exact n1
  | cable _ =>
    match m, hm with
    | 0, _ =>
      cases hz
      exact n2
    | 1, _ =>
      cases hz
      exact n4
  | loop _ _ _ =>
    match m, hm with
    | 0, _ =>
      cases hz
      exact n3
    | 1, _ =>
      cases hz
      exact n5
    | 2, _ =>
      cases hz
      exact n6
def farB (a st : Int) : Bool := decide (st + 1 < a) && (decide (st < 1) || decide (a < 2))
def badB (a st : Int) : Bool := decide (a = -1) || (decide (a < st) || (farB a st || (decide (a = 0) && decide (st = 0))))
theorem bad_goes {st : Nat} (h : st ≤ 4) (row : Row) : badB ((kindI row : Nat) : Int) ((st : Int) - 1) = !goes st row := by
  match st, h with
  | 0, _ => cases row <;> rfl
  | 1, _ => cases row <;> rfl
  | 2, _ => cases row <;> rfl
  | 3, _ => cases row <;> rfl
  | 4, _ => cases row <;> rfl
theorem nxt_kind (row : Row) : ((nxt row : Nat) : Int) - 1 = ((kindI row : Nat) : Int) := by cases row <;> rfl
theorem nxt_le (row : Row) : nxt row ≤ 4 ∧ 1 ≤ nxt row := by cases row <;> simp [nxt]
def lstOf (st : Nat) (r : Rack) : Row → List PyData
  | .names _ => if st = 0 then [] else [.int r.names]
  | .box _ => r.boxes.map intsD
  | .cable _ => r.cables.map cabD
  | .loop _ _ _ => r.loops.map looD
theorem parts_at (m st : Nat) (r : Rack) (row : Row) : (partsM m st r)[kindI row]? = some (.lst (lstOf st r row)) := by cases row <;> rfl
theorem parts_step (m st : Nat) (r : Rack) (row : Row) (h : goes st row = true) : (partsM m st r).set (kindI row) (.lst (lstOf st r row ++ [rowD row])) = partsM m (nxt row) (addR r row) := by
  cases row with
  | names k =>
    have h0 : st = 0 := by
      match st, h with
      | 0, _ => rfl
      | 1, h => cases h
      | 2, h => cases h
      | 3, h => cases h
      | 4, h => cases h
      | n + 5, h => cases h
    subst h0
    simp [partsM, kindI, lstOf, rowD, nxt, addR]
  | box l =>
    have h0 : ¬ st = 0 := fun e => by
      subst e
      cases h
    simp [partsM, kindI, lstOf, rowD, nxt, addR, h0, natsD_eq]
  | cable c =>
    have h0 : ¬ st = 0 := fun e => by
      subst e
      cases h
    simp [partsM, kindI, lstOf, rowD, nxt, addR, h0]
  | loop a b l =>
    have h0 : ¬ st = 0 := fun e => by
      subst e
      cases h
    simp [partsM, kindI, lstOf, rowD, nxt, addR, h0, natsD_eq, looD]
theorem lst_len {L : List (List Str)} {st n : Nat} {r : Rack} (hL : LsOk L) (a : At L st n r) (row : Row) : (lstOf st r row).length < 100000 := by
  have h1 := a.sz.b
  have h2 := a.sz.c
  have h3 := a.sz.l
  have h4 := a.le
  have h5 := hL.len
  cases row with
  | names k =>
    show (if st = 0 then ([] : List PyData) else [.int r.names]).length < 100000
    split <;> simp
  | box l =>
    show (r.boxes.map intsD).length < 100000
    rw [List.length_map]
    omega
  | cable l =>
    show (r.cables.map cabD).length < 100000
    rw [List.length_map]
    omega
  | loop a b l =>
    show (r.loops.map looD).length < 100000
    rw [List.length_map]
    omega
theorem sz_row {L : List (List Str)} {n : Nat} {r : Rack} {ws : List Str} {row : Row} (hL : LsOk L) (h : SzB r n) (hr : L[n]? = some ws) (ht : tell ws = some row) : SzB (addR r row) (n + 1) := by
  cases row with
  | names k => exact ⟨Nat.le_succ_of_le h.b, Nat.le_succ_of_le h.c, Nat.le_succ_of_le h.l, h.bb, h.ck, h.ll⟩
  | box l => exact h.box (nums_at_len hL ((box_iff hr).mp ht))
  | cable c => exact h.cable (tell_cab ht)
  | loop a b l =>
    have := nums_at_len hL ((loop_iff hr).mp ht)
    simp only [List.length_cons] at this
    exact h.loop (by omega)
theorem kinds_ix (m : Nat) (row : Row) : atI [m, m + 1, m + 2, m + 3] ((kindI row : Nat) : Int) = some (m + kindI row) := by cases row <;> exact atI_nat rfl
section
variable {Γ : Gm} {ρ : Rho} {a b c d : Expr} {pos : Pos}
theorem xt_or4 {k1 k2 k3 k4 : Bool} (h1 : XT Γ ρ a k1) (h2 : XT Γ ρ b k2) (h3 : XT Γ ρ c k3) (h4 : XT Γ ρ d k4) : XT Γ ρ (.BoolOp .Or [a, b, c, d] pos) (k1 || (k2 || (k3 || k4))) := (xw_or h1 fun _ => xw_or h2 fun _ => xw_or h3 fun _ => xw_or1 h4).t
end
section
variable {W : Wd}
theorem ok_law_rack_due (b : Bl W) {Pt : Addr} (t : Dg W "_law_rack_due" 88) (fL : Fk W 3 "_law_line" ["_law_words"] (spD W.K 1 RLine)) (fF : Fk W 6 "_law_rack_fault" ["_law_thing"] (spM W 1 (RFault Pt))) :
    Fk W 7 "_law_rack_due" ["_law_text"] (spM W 1 (RDue Pt)) :=
  t.fm (N := ["_law_text", "_law_kinds", "_law_stage", "_law_parts", "_law_k", "_law_line_here", "_law_told", "_law_at", "_law_is_far", "_law_rack_here", "_law_fault_here"]) ⟨rfl, rfl, rfl, by decide +kernel, rfl, by decide +kernel, by decide +kernel⟩ (fun _ _ _ _ _ _ us hl => match us, hl with | [_], _ => rfl) rfl fun E B zs M P PX hF hRt hPX hl hR => by
    obtain ⟨d, tt, rfl, hM, ho, hs, hb⟩ := hR
    have httl : tt < M.length := (List.getElem?_eq_some_iff.mp hM).1
    have done : ∀ (z : PyData) (xs : List MO), P (.d z) M → B.Rt (.d z) (M ++ xs) := fun z xs h => by
      rw [hRt]
      refine ⟨trivial, okM_back ho, ?_⟩
      show P _ ((M ++ xs).take M.length)
      rw [List.take_left]
      exact h
    have done0 : ∀ (z : PyData), P (.d z) M → B.Rt (.d z) M := fun z h => by
      have := done z [] h
      rw [List.append_nil] at this
      exact this
    refine ds_cons (s_if (dt_t (xt_not (xt_v (xd_isi b.isinstance b.str bt_str (xv 0 rfl rfl) (kit_s _)))) ⟨fun h => ?_, fun h => ds_nil ?_⟩))
    · refine ds_one (s_ret (dx_d (xd_tup (xds_cons xd_s (xds_cons (xd_neg xd_i) xds_nil))) (done0 _ (hb fun s e => ?_))))
      subst e
      cases h
    · obtain ⟨s, rfl⟩ : ∃ s, d = .str s := by
        cases d with
        | str s => exact ⟨s, rfl⟩
        | _ => cases h
      obtain ⟨hx, hok⟩ := hs s rfl
      obtain ⟨sp1, sp2, sp3⟩ := split_ok hx sep_line
      have hL := lines_ok hx
      have hll : (linesOf s).length = (Txt.split s "\n").length := by
        unfold linesOf
        rw [List.length_map]
      have hne : 1 ≤ (linesOf s).length := by
        have := lines_ne hx
        cases q : linesOf s with
        | nil => exact absurd q this
        | cons _ _ => simp
      refine ds_cons (s_par3 (i := 1) (j := 2) (l := 3) rfl rfl rfl (dxs_cons (dx_d (xd_lst (xds_cons xd_s (xds_cons xd_s (xds_cons xd_s (xds_cons xd_s xds_nil)))) (by simp)) (dxs_cons (dx_d (xd_neg xd_i) (dxs_cons (dx_newRfs (dxs_cons (dx_newL (dxs_nil ⟨[], rfl, by simp, dxs_cons (dx_newL (dxs_nil ⟨[], rfl, by simp, dxs_cons (dx_newL (dxs_nil ⟨[], rfl, by simp, dxs_cons (dx_newL (dxs_nil ⟨[], rfl, by simp, dxs_nil ⟨[_, _, _, _], rfl, by simp, dxs_nil ⟨_, _, _, rfl, ?_⟩⟩⟩))⟩))⟩))⟩))))))))))
      refine DS.re (ρ' := [some (.d (.str s)), some (.d (strsD ["names", "box", "cable", "loop"])), some (.d (.int (((0 : Nat) : Int) - 1))), some (.r (M.length + 4)), none, none, none, none, none, none, none]) (M' := M ++ partsM M.length 0 noRack) ?_ (by simp [startR, strsD]) (by simp [partsM, noRack])
      refine ds_cons (s_for (di_enum b.enumerate (dx_d (xd_split (xv 0 rfl rfl) xd_s hx.tok.len (by decide +kernel)) ⟨_, rfl, fun i ρ' M' => ∃ st r x4 x5 x6 x7 x8, At (linesOf s) st i r ∧ st ≤ 4 ∧ (1 ≤ i → 1 ≤ st) ∧ M' = M ++ partsM M.length st r ∧ ρ' = [some (.d (.str s)), some (.d (strsD ["names", "box", "cable", "loop"])), some (.d (.int ((st : Int) - 1))), some (.r (M.length + 4)), x4, x5, x6, x7, x8, none, none], ?_, ?_, ?_⟩)))
      · exact ⟨0, noRack, none, none, none, none, none, at_zero _, by decide, fun h => absurd h (by decide), rfl, rfl⟩
      · rintro i d ρ1 M2 hd ⟨st, r, x4, x5, x6, x7, x8, an, hst, hi1, rfl, rfl⟩
        rw [enumD_get, List.getElem?_map] at hd
        cases hl2 : (Txt.split s "\n")[i]? with
        | none =>
          rw [hl2] at hd
          cases hd
        | some l =>
          rw [hl2] at hd
          rw [Nat.zero_add] at hd
          have hd : PyData.tuple [.int ((i : Nat) : Int), .str l] = d := Option.some.inj hd
          subst hd
          have hrow0 : (linesOf s)[i]? = some (Txt.split l " ") := by
            unfold linesOf
            rw [List.getElem?_map, hl2]
            rfl
          obtain ⟨hne0, hws⟩ := hL.ws _ (List.mem_of_getElem? hrow0)
          obtain ⟨w, ws, hsp⟩ : ∃ w ws, Txt.split l " " = w :: ws := by
            cases q : Txt.split l " " with
            | nil => exact absurd q hne0
            | cons w ws => exact ⟨w, ws, rfl⟩
          have hrow := hrow0
          rw [hsp] at hrow hws
          have bad : (∀ row, tell (w :: ws) = some row → goes st row = false) → ∀ xs, B.Rt (.d (.tuple [.str "text", .int ((i : Nat) : Int)])) (M ++ xs) := fun hg xs => done _ xs (by
            have := an.bad hrow hg
            unfold rackDue at hok
            rw [this] at hok
            exact hok)
          refine ⟨_, _, tg_tup (tgs_cons (tg_name (i := 4) rfl) (tgs_cons (tg_name (i := 5) rfl) tgs_nil)), ?_⟩
          refine ds_cons (s_asg (i := 6) rfl (dx_d (xd_call fL (xds_cons (XD.is (xd_split (xv 5 rfl rfl) xd_s (sp3 l (List.mem_of_getElem? hl2)).tok.len (by decide +kernel)) (by rw [hsp] : _ = strsD (w :: ws))) xds_nil) ⟨w, ws, rfl, hws, rfl⟩) ?_))
          have sht := shaped_told (ws := w :: ws)
          cases ht : tell (w :: ws) with
          | none =>
            rw [ht] at sht bad
            refine ds_cons (s_asg (i := 7) rfl (dx_d (xd_if (k := false) (d := .int (-1)) (XT.is (xt_cmp (xv 6 rfl rfl) (xd_lst xds_nil (by simp)) (oc_neD sht rfl)) rfl) (fun h => (by cases h)) fun _ => xd_neg xd_i) ?_))
            refine ds_cons (s_asg (i := 8) rfl (dx_d (XD.is (xd_and2 (xd_cmp (xv 7 rfl rfl) (xd_bin (xv 2 rfl rfl) xd_i ob_add) oc_gt) fun _ => xd_or2 (xd_cmp (xv 2 rfl rfl) xd_i oc_lt) fun _ => xd_cmp (xv 7 rfl rfl) xd_i oc_lt) (rfl : _ = PyData.bool (farB (-1) ((st : Int) - 1)))) ?_))
            refine ds_cons (s_if (dt_t (XT.is (xt_or4 (xt_cmp (xv 7 rfl rfl) (xd_neg xd_i) oc_eqI) (xt_cmp (xv 7 rfl rfl) (xv 2 rfl rfl) oc_lt) (xt_v (xv 8 rfl rfl)) (xt_and2 (xt_cmp (xv 7 rfl rfl) xd_i oc_eqI) fun _ => xt_cmp (xv 2 rfl rfl) xd_i oc_eqI)) (?_ : _ = true)) ⟨fun _ => ?_, fun h => (by cases h)⟩))
            · rw [decide_eq_true (rfl : (-1 : Int) = -1)]
              rfl
            · exact ds_one (s_ret (dx_d (xd_tup (xds_cons xd_s (xds_cons (xv 4 rfl rfl) xds_nil))) (bad (fun row h => by cases h) _)))
          | some row =>
            rw [ht] at sht bad
            refine ds_cons (s_asg (i := 7) rfl (dx_d (xd_if (k := true) (d := .int ((kindI row : Nat) : Int)) (XT.is (xt_cmp (xv 6 rfl rfl) (xd_lst xds_nil (by simp)) (oc_neD sht rfl)) rfl) (fun _ => xd_index (xv 1 rfl rfl) (xd_ix (xd_ix (xv 6 rfl rfl) xd_i (oi_L (atI_nat (j := 0) rfl))) xd_i (oi_T (atI_nat (j := 0) rfl))) (kinds_at row) (kinds_no row)) fun h => (by cases h)) ?_))
            refine ds_cons (s_asg (i := 8) rfl (dx_d (XD.is (xd_and2 (xd_cmp (xv 7 rfl rfl) (xd_bin (xv 2 rfl rfl) xd_i ob_add) oc_gt) fun _ => xd_or2 (xd_cmp (xv 2 rfl rfl) xd_i oc_lt) fun _ => xd_cmp (xv 7 rfl rfl) xd_i oc_lt) (rfl : _ = PyData.bool (farB ((kindI row : Nat) : Int) ((st : Int) - 1)))) ?_))
            refine ds_cons (s_if (dt_t (XT.is (xt_or4 (xt_cmp (xv 7 rfl rfl) (xd_neg xd_i) oc_eqI) (xt_cmp (xv 7 rfl rfl) (xv 2 rfl rfl) oc_lt) (xt_v (xv 8 rfl rfl)) (xt_and2 (xt_cmp (xv 7 rfl rfl) xd_i oc_eqI) fun _ => xt_cmp (xv 2 rfl rfl) xd_i oc_eqI)) (bad_goes hst row)) ⟨fun h => ?_, fun h => ds_nil ?_⟩))
            · have h : goes st row = false := by simpa using h
              exact ds_one (s_ret (dx_d (xd_tup (xds_cons xd_s (xds_cons (xv 4 rfl rfl) xds_nil))) (bad (fun row' e => by
                cases e
                exact h) _)))
            · have h : goes st row = true := not_f h
              refine ds_cons (s_asg (i := 2) rfl (dx_d (xv 7 rfl rfl) ?_))
              refine ds_one (s_appE (dx_ixF (dx_r (i := 3) rfl rfl ⟨_, rfl, dx_d (xv 7 rfl rfl) ⟨_, _, M.length + kindI row, rfl, ap_get 4 rfl, kinds_ix _ _, ⟨_, _, rfl, ap_get (kindI row) (parts_at _ _ _ row), dx_d (xd_ix (xd_ix (xv 6 rfl rfl) xd_i (oi_L (atI_nat (j := 0) rfl))) xd_i (oi_T (atI_nat (j := 1) rfl))) ⟨_, _, rfl, ap_get (kindI row) (parts_at _ _ _ row), lst_len hL an row, ?_⟩⟩⟩⟩)))
              refine ⟨nxt row, addR r row, some (.d (.int ((i : Nat) : Int))), some (.d (.str l)), some (.d (toldD (some row))), some (.d (.int ((kindI row : Nat) : Int))), some (.d (.bool (farB ((kindI row : Nat) : Int) ((st : Int) - 1)))), an.step hrow ht h (sz_row hL an.sz hrow ht), (nxt_le row).1, fun _ => (nxt_le row).2, ?_, ?_⟩
              · rw [ap_set, parts_step _ _ _ _ h]
              · rw [nxt_kind]
                rfl
      · rintro ρ1 M2 ⟨st, r, x4, x5, x6, x7, x8, an, hst, hi1, rfl, rfl⟩
        have hlen : (enumD 0 (List.map PyData.str (Txt.split s "\n"))).length = (linesOf s).length := by
          rw [enumD_len, List.length_map, hll]
        rw [hlen] at an hi1
        have hst1 := hi1 hne
        have hfin := an.fin (Nat.le_refl _)
        refine ds_cons (s_if (dt_t (xt_cmp (xv 2 rfl rfl) xd_i oc_eqI) ⟨fun h => ?_, fun h => ds_nil ?_⟩))
        · have h := of_decide_eq_true h
          rw [if_pos (by omega)] at hfin
          refine ds_one (s_ret (dx_d (xd_tup (xds_cons xd_s (xds_cons (xd_callB boot_len b.len (xds_cons (xd_split (xv 0 rfl rfl) xd_s hx.tok.len (by decide +kernel)) xds_nil) of_lenL) xds_nil))) (done _ _ ?_)))
          rw [List.length_map, ← hll]
          unfold rackDue at hok
          rw [hfin] at hok
          exact hok
        · have h := of_decide_eq_false h
          rw [if_neg (by omega)] at hfin
          have h0 : ¬ st = 0 := by omega
          have hnl : (partsM M.length st r)[0]? = some (.lst [.int r.names]) := by
            unfold partsM
            rw [if_neg h0]
            rfl
          refine ds_cons (s_asg (i := 9) rfl (dx_tup (dxs_cons (dx_ixN (dx_ixF (dx_r (i := 3) rfl rfl ⟨_, rfl, dx_d xd_i ⟨_, _, M.length, rfl, ap_get 4 rfl, atI_nat (j := 0) rfl, ⟨_, rfl, dx_d xd_i ⟨_, _, _, rfl, ap_get0 hnl, atI_nat (j := 0) rfl, dxs_cons (dx_tupM b.tuple (dx_ixF (dx_r (i := 3) rfl rfl ⟨_, rfl, dx_d xd_i ⟨_, _, M.length + 1, rfl, ap_get 4 rfl, atI_nat (j := 1) rfl, ⟨_, _, rfl, ap_get 1 rfl, dxs_cons (dx_tupM b.tuple (dx_ixF (dx_r (i := 3) rfl rfl ⟨_, rfl, dx_d xd_i ⟨_, _, M.length + 2, rfl, ap_get 4 rfl, atI_nat (j := 2) rfl, ⟨_, _, rfl, ap_get 2 rfl, dxs_cons (dx_tupM b.tuple (dx_ixF (dx_r (i := 3) rfl rfl ⟨_, rfl, dx_d xd_i ⟨_, _, M.length + 3, rfl, ap_get 4 rfl, atI_nat (j := 3) rfl, ⟨_, _, rfl, ap_get 3 rfl, dxs_nil ⟨[_, _, _, _], rfl, by simp, ?_⟩⟩⟩⟩)))⟩⟩⟩)))⟩⟩⟩)))⟩⟩⟩⟩))))))
          refine ds_cons (s_asg (i := 10) rfl (dx_call (PX := fun _ _ => False) fF (.inr rfl) (fun _ _ _ _ _ _ _ _ _ _ _ _ _ z => z.elim) (dxs_d (xds_cons (xv 9 rfl rfl) xds_nil) ⟨rfl, r, tt, rfl, ?_, okM_parts ho, an.sz.sz (Nat.le_trans an.le hL.len), ?_⟩)))
          · rw [List.getElem?_append_left httl]
            exact hM
          · unfold rackDue at hok
            rw [hfin] at hok
            have hok : P (.d (match lawFault r with
              | none => .list [rackD r]
              | some (p, n) => .tuple [.str "rack", .str p, numD n])) M := hok
            cases hf : lawFault r with
            | none =>
              rw [hf] at hok
              exact ds_one (s_ret (dx_d (xd_if (k := true) (XT.is (xt_cmp (xv 10 rfl rfl) xd_n oc_isN) rfl) (fun _ => xd_lst (xds_cons (xv 9 rfl rfl) xds_nil) (by simp)) fun h => (by cases h)) (done _ _ hok)))
            | some x =>
              obtain ⟨p, n⟩ := x
              rw [hf] at hok
              exact ds_one (s_ret (dx_d (xd_if (k := false) (XT.is (xt_cmp (xv 10 rfl rfl) xd_n oc_isN) rfl) (fun h => (by cases h)) fun _ => xd_bin (xd_tup (xds_cons xd_s xds_nil)) (xv 10 rfl rfl) (ob_catT (by simp))) (done _ _ hok)))
end
end Ev
namespace Ev
open PySem PySem.Spec PyProof.Rows L2 Evl
/-! ### sorted(set(t)) of whole numbers, more than 63 of them as well -/
theorem sorted_wide {P : Program} {w : World} {A : Around} {E : Value → Shared → Prop} {s : Shared} {a : Addr} {S : Int → Bool} {n : Nat} {Q : Value → Shared → Prop} (R : SetR w s.heap a S n) (quiet : A.handled = none) (few : n < 4096)
    (fin : ∀ s2 p (out : Array Value) (c : Nat) (zs : List Int), (∀ b u, s.heap.get? b = some u → s2.heap.get? b = some u) → s2.gens = s.gens → s2.os = s.os → s.heap.objs.size ≤ p → s2.heap.get? p = some (seqObj "list" out c) → IntsAre out.toList zs → zs.Pairwise (· < ·) → (∀ k, k ∈ zs ↔ S k = true) → zs.length = n → Q (.ref p) s2) :
    wpAny (model P w) A (call (.builtin "sorted") [.ref a]) Q E s := by
  obtain ⟨ob, es, ep, tb, h1, h2, h3, good, nodup, mem, h7, h8, size, h10, h11⟩ := R
  refine Calls.call_function_entry kind_sorted plain_sorted entry_sorted (args_sorted1 _) (by
    unfold Builtin.«sorted»
    refine wpAny_bind (m := checkCount "sorted" 1 1 _) (wpAny_pure (wpAny_bind (collect_set (A := A.in1) quiet ⟨ob, h1, h2.1, h3⟩ h8 h7 h10 h11 fun s1 vs keep1 grow gens1 os1 perm => ?_)))
    have len : vs.length = n := (perm.length_eq.trans (by rw [List.length_map, Array.length_toList])).trans size
    have hI : IntsAre vs (vs.map Builtin.Re.reRawOf) := ints_of vs fun v hv => (by
      obtain ⟨x, hx, e⟩ := List.mem_map.mp (perm.mem_iff.mp hv)
      obtain ⟨k, tk, e1, _⟩ := good x hx
      exact ⟨k, tk, e ▸ e1⟩)
    have keys : (vs.map Builtin.Re.reRawOf).Perm (es.toList.map keyOf) := (by
      have := perm.map Builtin.Re.reRawOf
      rwa [List.map_map] at this)
    have line : vs.length ≤ sizeLine := (by rw [len, sizeLine_eq]; omega)
    refine wpAny_bind (wpAny_newList ?_ line)
    have new : (s1.heap.push (seqObj "list" vs.toArray 0)).get? s1.heap.objs.size = some (seqObj "list" vs.toArray 0) := Heap.get?_push_size _ rfl
    refine wpAny_bind (wpAny_holding (wpAny_call_entry slot_list_sort ⟨_, new, rfl⟩ entry_list_sort (SrtO.list_sort_ord SrtO.swo_int new line (fun two => SrtO.ints_sortable hI two) fun out hs hb => ⟨_, rfl, ?_⟩) (args_list_sort _)))
    obtain ⟨k1, k2, k3⟩ := SrtO.ints_out hI hs hb
    obtain ⟨c, hc⟩ := sortedHeap_at (vs := vs) (out := out.toArray) new
    have all := k2.trans keys
    refine wpAny_pure ⟨_, rfl, fin _ s1.heap.objs.size out.toArray c (out.map SrtO.iv) (fun b u e => ?_) gens1 os1 grow hc k1 (lt_of_le_nodup _ k3 (all.nodup_iff.mpr nodup)) (fun k => (all.mem_iff).trans (mem k).symm) ((all.length_eq.trans (by rw [List.length_map, Array.length_toList])).trans size)⟩
    have old := keep1 b u e
    have lt := Heap.lt_size old
    show (sortedHeap (s1.heap.push (seqObj "list" vs.toArray 0)) s1.heap.objs.size vs out.toArray).get? b = some u
    exact (sortedHeap_old (Nat.ne_of_lt lt) (by rw [size_push']; exact Nat.lt_succ_of_lt lt)).trans (Heap.get?_push_of_some _ old))
def rSortW (w : World) : List V → Hp → VK → Prop := fun vs H Q => ∃ (a : Addr) (S : Int → Bool) (n : Nat), vs = [V.ref a] ∧ H a = some (SetO w a S n) ∧ n < 4096 ∧ ∀ (zs : List Int) (p : Addr), zs.Pairwise (· < ·) → (∀ k : Int, k ∈ zs ↔ S k = true) → H p = none → Q (.ref p) (upd H p (.lst (zs.map V.int)))
theorem cr_sortW {X : Cx} (calm : X.calm = true) : CallR X (.builtin "sorted") (rSortW X.w) := fun pins s σ H vs us Q I r ⟨a, S, n, e, ha, few, q⟩ => by
  subst e
  rw [Vals.ref1 r]
  refine sorted_wide (setO_get I ha) (I.ok.hd calm) few fun s2 p out c zs keep gens os1 hp hg hi hs hm hl => ?_
  have free : H p = none := I.hok.fresh hp
  have J : Inv X pins σ (upd H p (.lst (zs.map V.int))) ⟨s2.heap, s2.gens, s2.drawn, s2.toks, s.os⟩ :=
    I.call (ch := []) (Un.laid keep hp free) (I.hok.laid keep hp ⟨by rw [List.length_map, hl, sizeLine_eq]; omega, out.toList, c, vals_of_ints hi, hg⟩) (by rw [gens]; exact I.bare) (fun _ z => nomatch z)
  have same : s2 = ⟨s2.heap, s2.gens, s2.drawn, s2.toks, s.os⟩ := by rw [← os1]
  rw [same]
  exact ⟨.ref p, _, J, rfl, q zs p hs hm free⟩
def rSetW (K : Kf) (w : World) : List V → Hp → VK → Prop := fun vs H Q => ∃ (p : Addr) (zs : List Int), vs = [V.ref p] ∧ SqT K H p (zs.map V.int) ∧ zs.length + 1 < 4096 ∧ ∀ (a : Addr) (n : Nat), H a = none → n ≤ zs.length → Q (.ref a) (upd H a (SetO w a (fun j => decide (j ∈ zs)) n))
theorem cr_setW {X : Cx} (calm : X.calm = true) : CallR X (.type "set") (rSetW X.K X.w) := fun pins s σ H vs us Q I r ⟨p, zs, e, ht, few, q⟩ => by
  subst e
  rw [Vals.ref1 r]
  obtain ⟨its, rv, tup, hz⟩ := I.tuple ht
  refine call_set_tupI zs (I.ok.hd calm) (show s.heap.IsTuple p its.toArray from tup) (ints_of_vals rv) (by unfold scanBound; omega) fun h2 tk c R1 hc keep => ?_
  have free : H s.heap.objs.size = none := I.hok.fresh (Nat.le_refl _)
  have J : Inv X pins σ (upd H s.heap.objs.size (SetO X.w s.heap.objs.size (fun j => decide (j ∈ zs)) c)) { s with heap := h2, toks := tk } :=
    I.call (ch := []) (Un.laid keep (Nat.le_refl _) free) (I.hok.laid keep (Nat.le_refl _) (setO_new R1)) I.bare (fun _ z => nomatch z)
  exact ⟨.ref _, _, J, rfl, q _ _ free hc⟩
theorem up_ext : ∀ {xs ys : List Int}, xs.Pairwise (· < ·) → ys.Pairwise (· < ·) → (∀ k, k ∈ xs ↔ k ∈ ys) → xs = ys
  | [], [], _, _, _ => rfl
  | [], y :: ys, _, _, h => by
    have := (h y).mpr List.mem_cons_self
    cases this
  | x :: xs, [], _, _, h => by
    have := (h x).mp List.mem_cons_self
    cases this
  | x :: xs, y :: ys, hx, hy, h => by
    rw [List.pairwise_cons] at hx hy
    have e : x = y := by
      rcases List.mem_cons.mp ((h x).mp List.mem_cons_self) with e | m
      · exact e
      · rcases List.mem_cons.mp ((h y).mpr List.mem_cons_self) with e | m2
        · exact e.symm
        · have := hy.1 x m
          have := hx.1 y m2
          omega
    subst e
    rw [up_ext hx.2 hy.2 fun k => ⟨fun m => by
      rcases List.mem_cons.mp ((h k).mp (List.mem_cons_of_mem _ m)) with e | q
      · have := hx.1 k m
        omega
      · exact q, fun m => by
      rcases List.mem_cons.mp ((h k).mpr (List.mem_cons_of_mem _ m)) with e | q
      · have := hy.1 k m
        omega
      · exact q⟩]
def topN (l : List Nat) : Nat := l.foldr max 0
theorem topN_le : ∀ {l : List Nat} {k : Nat}, k ∈ l → k ≤ topN l
  | x :: l, k, h => by
    show k ≤ max x (topN l)
    rcases List.mem_cons.mp h with e | m
    · omega
    · have := topN_le m
      omega
/-- the numbers of a list, each once, rising -/
def srtN (l : List Nat) : List Nat := (List.range (topN l + 1)).filter fun x => decide (x ∈ l)
theorem srtN_up (l : List Nat) : (srtN l).Pairwise (· < ·) := List.pairwise_lt_range.filter _
theorem srtN_mem (l : List Nat) (k : Nat) : k ∈ srtN l ↔ k ∈ l := by
  unfold srtN
  rw [List.mem_filter, List.mem_range, decide_eq_true_eq]
  exact ⟨fun h => h.2, fun h => ⟨Nat.lt_succ_of_le (topN_le h), h⟩⟩
theorem toI_up {l : List Nat} (h : l.Pairwise (· < ·)) : (toI l).Pairwise (· < ·) := by
  unfold toI
  rw [List.pairwise_map]
  exact h.imp fun h => by omega
theorem toI_mem {l : List Nat} {k : Int} : k ∈ toI l ↔ ∃ n ∈ l, ((n : Nat) : Int) = k := by
  unfold toI
  exact List.mem_map
theorem srt_is {l : List Nat} {zs : List Int} (h : zs.Pairwise (· < ·)) (hm : ∀ k : Int, k ∈ zs ↔ decide (k ∈ toI l) = true) : zs = toI (srtN l) := up_ext h (toI_up (srtN_up l)) fun k => by
  rw [hm k, decide_eq_true_eq, toI_mem, toI_mem]
  exact ⟨fun ⟨n, a, b⟩ => ⟨n, (srtN_mem l n).mpr a, b⟩, fun ⟨n, a, b⟩ => ⟨n, (srtN_mem l n).mp a, b⟩⟩
theorem dpa_intsV {K : Kf} {A : Hp} : ∀ {l : List Nat} {xs : List V}, DpAll K A xs (natsD l) → xs = (toI l).map V.int
  | [], _, h => by
    cases h
    rfl
  | n :: l, _, h => by
    have h : DpAll K A _ (.int ((n : Nat) : Int) :: natsD l) := h
    cases h with
    | cons a1 a2 =>
      rw [dp_int a1, dpa_intsV a2]
      rfl
section
variable {Γ : Gm} {ρ : Rho} {e : Expr} {p1 p2 p3 p4 : Pos}
theorem xd_sortSet {l : List Nat} (hm1 : Γ.W.mg "sorted" = Option.none) (hm2 : Γ.W.mg "set" = Option.none) (h : XD Γ ρ e (.tuple (natsD l))) (hz : l.length + 1 < 4096) (g1 : Glo Γ "sorted" := by rfl) (g2 : Glo Γ "set" := by rfl) (n : NS e := by intro _ _; rfl) :
    XD Γ ρ (.Call (.Name "sorted" p1) [.Call (.Name "set" p2) [e] [] p3] [] p4) (.list (natsD (srtN l))) := fun σ A s =>
  up_d (te := tCB (wCl Γ (.builtin "sorted")) (tCons (tCB (wCl Γ (.type "set")) (tCons (WG Γ e) tNil)) tNil)) (fun X hX => pe_callB (cl_w hX) (gl_of hX g1) (by rw [hX.mg]; exact hm1) PyProof.Rows.boot_sorted (pa_cons (pe_callTy (cl_w hX) (gl_of hX g2) (by rw [hX.mg]; exact hm2) PyProof.Rows.boot_set (pa_cons (pe_wg hX) pa_nil (n [] X.env)) (by decide) (by decide) (n [] X.env) rfl) pa_nil rfl) (by decide) (by decide) rfl rfl)
    (ed_mk fun H a Q q => (h σ A s).run a fun v A2 H2 w hv => by
      obtain ⟨p, xs, rfl, hs, hxs⟩ := dp_tup hv
      have ex := dpa_intsV hxs
      subst ex
      refine wCl.of (r := rSetW Γ.W.K Γ.W.w) (fun X hX => hX.K ▸ hX.w ▸ cr_setW hX.calm) ⟨p, toI l, rfl, ex_t w.k hs, by rw [toI_len]; exact hz, fun b c hb hc => ?_⟩
      refine wCl.of (r := rSortW Γ.W.w) (fun X hX => hX.w ▸ cr_sortW hX.calm) ⟨b, _, c, rfl, upd_same, by rw [toI_len] at hc; omega, fun zs p2 hup hmem hp2 => ?_⟩
      have ez := srt_is hup hmem
      subst ez
      have w2 := w.trans (Gw.grow w.k (Ex.new (o := SetO Γ.W.w b (fun j => decide (j ∈ toI l)) c) hb))
      have w3 := w2.trans (Gw.new (o := .lst ((toI (srtN l)).map V.int)) w2.k hp2)
      refine q _ _ _ w3 (.lst (sq_of upd_same) ?_)
      have : ∀ (B : Hp) (m : List Nat), DpAll Γ.W.K B ((toI m).map V.int) (natsD m) := fun B m => by
        induction m with
        | nil => exact .nil
        | cons x m ih => exact .cons (.int _) ih
      exact this _ _)
end
end Ev
namespace Ev
open PySem PySem.Spec PyProof.Rows L2 Evl
/-! ### what the law asks of a text of a rule -/
theorem split_few {x : Str} (y : Str) (hx : TxOk x) : (Txt.split x y).length ≤ 4002 := Nat.le_trans (split_le x y) (by have := hx.len; omega)
theorem rows_few {s : Str} (h : TxOk s) : ∀ ws ∈ linesOf s, ws.length ≤ 4002 := fun ws hw => by
  obtain ⟨l, hl, rfl⟩ := List.mem_map.mp hw
  exact split_few _ ((split_ok h sep_line).2.2 l hl)
def ruleDue (L : List (List Str)) : PyData := match readRule L with
  | .inl n => .tuple [.str "text", .int ((n : Nat) : Int)]
  | .inr r => match ruleFault r with
    | none => .list [ruleD r]
    | some p => .tuple [.str "rule", .str p]
abbrev RRuleDue : List PyData → PyData → Prop := fun ds z => ∃ d, ds = [d] ∧ (∀ s, d = .str s → TxOk s ∧ z = ruleDue (linesOf s)) ∧ ((∀ s, d ≠ .str s) → z = .tuple [.str "text", .int (-1)])
def RSt (L : List (List Str)) : Nat → List PyData → Prop
  | 0, f => f = []
  | 1, f => ∃ e, numbersAt L 0 "evened" 0 = some e ∧ f = [.tuple (natsD e)]
  | 2, f => ∃ e b, numbersAt L 0 "evened" 0 = some e ∧ numbersAt L 1 "blind" 0 = some b ∧ f = [.tuple (natsD e), .tuple (natsD b)]
  | 3, f => ∃ e b k, numbersAt L 0 "evened" 0 = some e ∧ numbersAt L 1 "blind" 0 = some b ∧ wordsAt L 2 "taps" = some [k] ∧ tapOk k = true ∧ f = [.tuple (natsD e), .tuple (natsD b), .str k]
  | _, _ => False
def ruleW : Nat → Str
  | 0 => "evened"
  | 1 => "blind"
  | _ => "taps"
def rowAt (L : List (List Str)) (k : Nat) : List Str := (L[k]?).getD []
theorem rowAt_words {L : List (List Str)} {k : Nat} {word : Str} (hL : LsOk L) : PyData.eqv (strsD (rowAt L k)) (.list []) = true ∧ wordsAt L k word = none ∨ ∃ w ws, rowAt L k = w :: ws ∧ L[k]? = some (w :: ws) := by
  by_cases h : k < L.length
  · obtain ⟨w, ws, e, _⟩ := hL.row h
    exact .inr ⟨w, ws, by unfold rowAt; rw [e]; rfl, e⟩
  · left
    have e : L[k]? = none := List.getElem?_eq_none (by omega)
    refine ⟨?_, wordsAt_none h⟩
    unfold rowAt
    rw [e]
    rfl
theorem bad_words {L : List (List Str)} {i : Nat} {f : List PyData} (hi : i < 3) (hs : RSt L i f) (h : wordsAt L i (ruleW i) = none) : readRule L = .inl i := by
  match i, hi with
  | 0, _ =>
    have h : wordsAt L 0 "evened" = none := h
    unfold readRule
    have : numbersAt L 0 "evened" 0 = none := by
      unfold numbersAt
      rw [h]
    rw [this]
  | 1, _ =>
    obtain ⟨e, he, _⟩ := hs
    have h : wordsAt L 1 "blind" = none := h
    have : numbersAt L 1 "blind" 0 = none := by
      unfold numbersAt
      rw [h]
    unfold readRule
    simp only [he, this]
  | 2, _ =>
    obtain ⟨e, b, he, hb, _⟩ := hs
    have h : wordsAt L 2 "taps" = none := h
    unfold readRule
    simp only [he, hb, h]
theorem strs_ok {ws : List Str} (h : WsOk ws) : SeqAt.shaped (strsD ws) = true := shaped_strs fun w hw => (h.2 w hw).ok
theorem nums_all {ws : List Str} : numsAt ws 0 = numsIn ws := by
  unfold numsAt
  cases numsIn ws with
  | none => rfl
  | some l => exact if_pos (Nat.zero_le _)
def lstL (o : Option (List Nat)) : List PyData := match o with
  | none => []
  | some l => [.tuple (natsD l)]
theorem nums_few {L : List (List Str)} {n m : Nat} {word : Str} {least : Nat} {l : List Nat} (hL : ∀ ws ∈ L, ws.length ≤ m) (h : numbersAt L n word least = some l) : l.length ≤ m := by
  unfold numbersAt at h
  cases q : wordsAt L n word with
  | none =>
    rw [q] at h
    cases h
  | some ws =>
    rw [q] at h
    have h : numsAt ws least = some l := h
    rw [(nums_len h).1]
    have := hL _ (List.mem_of_getElem? (wordsAt_row q))
    rw [List.length_cons] at this
    omega
theorem shaped_nats (l : List Nat) : SeqAt.shaped (.list (natsD l)) = true := by
  have e : natsD l = (toI l).map .int := by
    unfold natsD toI
    rw [List.map_map]
    rfl
  rw [e]
  exact shaped_ints _
def bigD (d : PyData) : Bool := match d with
  | .int n => decide (7 < n)
  | _ => false
theorem big_nats (l : List Nat) : ((natsD l).filter bigD).map (fun d => d) = natsD (l.filter fun n => decide (7 < ((n : Nat) : Int))) := by
  unfold natsD
  rw [List.map_id', List.filter_map]
  rfl
theorem shaped_big (l : List Nat) : SeqAt.shaped (.list (((natsD l).filter bigD).map fun d => d)) = true := by
  rw [big_nats]
  exact shaped_nats _
theorem eqv_nats (l m : List Nat) : PyData.eqv (.list (natsD l)) (.list (natsD m)) = decide (l = m) := by
  have key : ∀ l m : List Nat, PyData.eqvAll (natsD l) (natsD m) = decide (l = m) := fun l => by
    induction l with
    | nil =>
      intro m
      cases m <;> rfl
    | cons x l ih =>
      intro m
      cases m with
      | nil => rfl
      | cons y m =>
        show (PyData.eqv (.int x) (.int y) && PyData.eqvAll (natsD l) (natsD m)) = _
        rw [ih]
        have e : PyData.eqv (.int (x : Int)) (.int (y : Int)) = decide (x = y) := by
          show ((x : Int) == (y : Int)) = _
          by_cases q : x = y
          · rw [q, decide_eq_true rfl]
            exact beq_self_eq_true _
          · rw [decide_eq_false q]
            exact beq_false_of_ne (by omega)
        rw [e]
        by_cases q : x = y
        · by_cases q2 : l = m <;> simp [q, q2]
        · simp [q]
  exact key l m
theorem adj_up : ∀ l : List Nat, ((l.zip l.tail).all fun p => decide ((p.1 : Int) < (p.2 : Int))) = true ↔ l.Pairwise (· < ·)
  | [] => by simp
  | [a] => by simp
  | a :: b :: r => by
    have ih := adj_up (b :: r)
    have e : ((a :: b :: r).zip (a :: b :: r).tail) = (a, b) :: ((b :: r).zip (b :: r).tail) := rfl
    rw [e, List.all_cons, Bool.and_eq_true, ih, decide_eq_true_eq, List.pairwise_cons (a := a)]
    constructor
    · rintro ⟨h1, h2⟩
      refine ⟨fun c hc => ?_, h2⟩
      rcases List.mem_cons.mp hc with e | m
      · omega
      · have := (List.pairwise_cons.mp h2).1 c m
        omega
    · rintro ⟨h1, h2⟩
      have := h1 b List.mem_cons_self
      exact ⟨by omega, h2⟩
theorem srt_iff (l : List Nat) : l = srtN l ↔ l.Pairwise (· < ·) := by
  constructor
  · intro h
    rw [h]
    exact srtN_up l
  · intro h
    have := srt_is (l := l) (toI_up h) (fun k => by rw [decide_eq_true_eq])
    unfold toI at this
    exact (List.map_inj_right (fun a b e => by omega)).mp this
theorem rise_law (l : List Nat) : (!(PyData.eqv (.list (natsD l)) (.list (natsD (srtN l)))) || !(PyData.eqv (.list (((natsD l).filter bigD).map fun d => d)) (.list []))) = !riseOk l 8 := by
  rw [eqv_nats, eqv_nil, big_nats, ← Bool.not_and]
  congr 1
  unfold riseOk
  have e1 : decide (l = srtN l) = ((l.zip l.tail).all fun p => decide ((p.1 : Int) < (p.2 : Int))) := by
    rw [Bool.eq_iff_iff, decide_eq_true_eq, srt_iff, adj_up]
  have e2 : decide (natsD (l.filter fun n => decide (7 < ((n : Nat) : Int))) = []) = l.all fun x => wholeD (.int (x : Int)) 0 (8 - 1) := by
    rw [Bool.eq_iff_iff, decide_eq_true_eq, List.all_eq_true]
    unfold natsD
    rw [List.map_eq_nil_iff, List.filter_eq_nil_iff]
    refine forall_congr' fun x => forall_congr' fun hx => ?_
    simp only [wholeD, Bool.and_eq_true, decide_eq_true_eq]
    omega
  rw [e1, e2, Bool.and_comm]
theorem lstO_list (o : Option (List Nat)) : PyData.list (lstL o) = lstO o := by cases o <;> rfl
theorem lstO_one (o : Option (List Nat)) : (lstL o).length ≤ 1 := by
  cases o with
  | none => exact Nat.zero_le _
  | some l => exact Nat.le_refl _
theorem lstO_len (o : Option (List Nat)) : 0 + (lstL o).length ≤ 100000 := by
  have := lstO_one o
  omega
section
variable {Γ : Gm} {B : Fb Γ} {ρ : Rho} {M : List MO} {a b : Expr} {N : Rho → List MO → Prop} {pos px py pt pt2 : Pos} {x y : Str} {i j : Nat}
theorem s_par2 {kt k2} (hN : Γ.N[i]? = some x) (hN2 : Γ.N[j]? = some y) (h : DXs Γ B.F ρ M [a, b] fun zs M1 => ∃ z w, zs = [z, w] ∧ N ((ρ.set i (some z)).set j (some w)) M1) (hij : i ≠ j := by decide) (hx : Γ.sc.names.lookup x = some .local := by rfl) (hy : Γ.sc.names.lookup y = some .local := by rfl) (hsx : Γ.st x = true := by rfl)
    (hw : ∀ env : Env, env.scope = Γ.sc → swappedStores [.Tuple [.Name x px, .Name y py] kt pt] (.Tuple [a, b] k2 pt2) env = pure (some [x, y]) := by rintro ⟨⟩ h; cases h; rfl) (hs : ∀ env, swapsWithSole [.Tuple [.Name x px, .Name y py] kt pt] (.Tuple [a, b] k2 pt2) pos.line env = pure false := by intro _; rfl) (nd : decide Γ.N.Nodup = true := by kernel_rfl) :
    DS1 Γ B ρ M (.Assign [.Tuple [.Name x px, .Name y py] kt pt] (.Tuple [a, b] k2 pt2) pos) N := s_par hN hN2 hij hx hy hsx h (fun X hX => hw X.env hX.sc) hs nd
end
section
variable {W : Wd}
theorem ok_law_rule_due (b : Bl W) (t : Dg W "_law_rule_due" 89) (fN : Fk W 2 "_law_numbers" ["_law_words", "_law_least"] (spD W.K 2 RNumsL)) : Fk W 3 "_law_rule_due" ["_law_text"] (spD W.K 1 RRuleDue) :=
  t.fd (N := ["_law_text", "_law_lines", "_law_found", "_law_k", "_law_word", "_law_words", "_law_last", "_law_part", "_law_is_up", "_law_own", "_law_item"]) ⟨rfl, rfl, rfl, by decide +kernel, rfl, by decide +kernel, by decide +kernel⟩ (fun _ _ _ _ _ _ us hl => match us, hl with | [_], _ => rfl) rfl fun E A H Q ds z q hl hR => by
    obtain ⟨d, rfl, hs, hb⟩ := hR
    refine ds_cons (s_if (dt_t (xt_not (xt_v (xd_isi b.isinstance b.str bt_str (xv 0 rfl rfl) (kit_s _)))) ⟨fun h => ?_, fun h => ds_nil ?_⟩))
    · refine ds_one (ret_d (xd_tup (xds_cons xd_s (xds_cons (xd_neg xd_i) xds_nil))) (hb fun s e => ?_).symm)
      subst e
      cases h
    · obtain ⟨s, rfl⟩ : ∃ s, d = .str s := by
        cases d with
        | str s => exact ⟨s, rfl⟩
        | _ => cases h
      obtain ⟨hx, hz⟩ := hs s rfl
      obtain ⟨sp1, sp2, sp3⟩ := split_ok hx sep_line
      have hL := lines_ok hx
      have hfew := rows_few hx
      have hll : (linesOf s).length = (Txt.split s "\n").length := by
        unfold linesOf
        rw [List.length_map]
      have due : ∀ n, readRule (linesOf s) = .inl n → PyData.tuple [.str "text", .int ((n : Nat) : Int)] = z := fun n e => by
        rw [hz]
        unfold ruleDue
        rw [e]
      refine ds_cons (s_par2 (i := 1) (j := 2) rfl rfl (dxs_cons (dx_d (xd_split (xv 0 rfl rfl) xd_s hx.tok.len (by decide +kernel)) (dxs_cons (dx_d (xd_lst xds_nil (by simp)) (dxs_nil ⟨_, _, rfl, ?_⟩))))))
      refine ds_cons (s_for (di_enum b.enumerate (dx_d (xd_lst (xds_cons xd_s (xds_cons xd_s (xds_cons xd_s xds_nil))) (by simp)) ⟨_, rfl, fun i ρ' M' => ∃ f x3 x4 x5 x6 x7 x8 x9 x10, RSt (linesOf s) i f ∧ M' = [] ∧ ρ' = [some (.d (.str s)), some (.d (strsD (Txt.split s "\n"))), some (.d (.list f)), x3, x4, x5, x6, x7, x8, x9, x10], ?_, ?_, ?_⟩)))
      · exact ⟨[], none, none, none, none, none, none, none, none, rfl, rfl, rfl⟩
      · rintro i d ρ1 M2 hd ⟨f, x3, x4, x5, x6, x7, x8, x9, x10, hst, rfl, rfl⟩
        have hi3 : i < 3 := by
          have := (List.getElem?_eq_some_iff.mp hd).1
          rw [enumD_len] at this
          exact this
        have hdd : d = .tuple [.int ((i : Nat) : Int), .str (ruleW i)] := by
          match i, hi3, hd with
          | 0, _, hd =>
            cases hd
            rfl
          | 1, _, hd =>
            cases hd
            rfl
          | 2, _, hd =>
            cases hd
            rfl
        subst hdd
        clear hd
        refine ⟨_, _, tg_tup (tgs_cons (tg_name (i := 3) rfl) (tgs_cons (tg_name (i := 4) rfl) tgs_nil)), ?_⟩
        refine ds_cons (s_asg (i := 5) rfl (dx_d (xd_if (d := strsD (rowAt (linesOf s) i)) (xt_cmp (xv 3 rfl rfl) (xd_callB boot_len b.len (xds_cons (xv 1 rfl rfl) xds_nil) of_lenL) oc_lt) (fun hk => ?_) fun hk => ?_) ?_))
        · have hk : i < (Txt.split s "\n").length := by
            have := of_decide_eq_true hk
            rw [List.length_map] at this
            omega
          have e := List.getElem?_eq_getElem hk
          refine XD.is (xd_split (xd_ix (xv 1 rfl rfl) (xv 3 rfl rfl) (oi_L (atI_nat (j := i) (by rw [List.getElem?_map, e]; rfl)))) xd_s (sp3 _ (List.getElem_mem hk)).tok.len (by decide +kernel)) ?_
          unfold rowAt linesOf
          rw [List.getElem?_map, e]
          rfl
        · have hk : ¬ i < (Txt.split s "\n").length := by
            have := of_decide_eq_false hk
            rw [List.length_map] at this
            omega
          refine XD.is (xd_lst xds_nil (by simp)) ?_
          unfold rowAt
          rw [List.getElem?_eq_none (by omega)]
          rfl
        · have hrl : ∀ r, rowAt (linesOf s) i = r → WsOk r := fun r e => by
            subst e
            unfold rowAt
            cases q : (linesOf s)[i]? with
            | none => exact ⟨Nat.zero_le _, fun w h => (by cases h)⟩
            | some r => exact (hL.ws r (List.mem_of_getElem? q)).2
          have hsh := strs_ok (hrl _ rfl)
          rcases rowAt_words (k := i) (word := ruleW i) hL with ⟨h1, h2⟩ | ⟨w, ws, h1, h2⟩
          · refine ds_cons (s_if (dt_t (XT.is (xt_or2 (k' := true) (xt_cmp (xv 5 rfl rfl) (xd_lst xds_nil (by simp)) (oc_eqD hsh rfl)) fun h => (by
              rw [h1] at h
              cases h)) (by rw [h1]; rfl : _ = true)) ⟨fun _ => ?_, fun h => (by cases h)⟩))
            exact ds_one (ret_d (xd_tup (xds_cons xd_s (xds_cons (xv 3 rfl rfl) xds_nil))) (due i (bad_words hi3 hst h2)))
          · have hww := hrl _ h1
            rw [h1] at hsh ⊢
            have hwa := wordsAt_head (word := ruleW i) h2
            refine ds_cons (s_if (dt_t (XT.is (xt_or2 (xt_cmp (xv 5 rfl rfl) (xd_lst xds_nil (by simp)) (oc_eqD hsh rfl)) fun h => xt_cmp (xd_ix (xv 5 rfl rfl) xd_i (oi_L (atI_nat (j := 0) rfl))) (xv 4 rfl rfl) oc_neS) (?_ : _ = !decide (w = ruleW i))) ⟨fun h => ?_, fun h => ds_nil ?_⟩))
            · unfold strsD
              rw [eqv_nil]
              rfl
            · have h : decide (w = ruleW i) = false := by simpa using h
              exact ds_one (ret_d (xd_tup (xds_cons xd_s (xds_cons (xv 3 rfl rfl) xds_nil))) (due i (bad_words hi3 hst (by rw [hwa, if_neg (of_decide_eq_false h)]))))
            · have h := of_decide_eq_true (not_f h)
              rw [if_pos h] at hwa
              have hcut : cutG ((w :: ws).map PyData.str) (some 1) (some 2) = (ws.take 1).map .str := by
                rw [show (1 : Int) = ((1 : Nat) : Int) from rfl, show (2 : Int) = ((2 : Nat) : Int) from rfl, cut_mid, ← List.map_drop, ← List.map_take]
                rfl
              refine ds_cons (s_asgLcp (i := 6) (own := [("_law_own", 9)]) rfl (xi_list (XD.is (xd_slL (xv 5 rfl rfl) (xo_i xd_i) (xo_i xd_i)) (congrArg PyData.list hcut))) (by rw [List.length_map, List.length_take]; omega) (fun _ => decide (ws.length = 1)) (fun d => d) (fun d hd => ⟨_, [9], fun k hk => hk, tg_name (i := 9) rfl, fun F' => dts_one (dt_t (XT.is (xt_cmp (xd_callB boot_len b.len (xds_cons (xv 5 rfl rfl) xds_nil) of_lenL) xd_i oc_eqI) (?_ : _ = decide (ws.length = 1))) ⟨rfl, rfl⟩), fun _ => xv 9 rfl rfl⟩) ?_)
              · rw [List.length_map, List.length_cons]
                by_cases l1 : ws.length = 1
                · rw [decide_eq_true l1]
                  exact decide_eq_true (by omega)
                · rw [decide_eq_false l1]
                  exact decide_eq_false (by omega)
              rw [List.map_id']
              have htl := wsOk_tail hww
              have tailD : strsD ws = .list (cutG ((w :: ws).map PyData.str) (some 1) none) := by
                rw [show (1 : Int) = ((1 : Nat) : Int) from rfl, cut_drop]
                rfl
              match i, hi3 with
              | 0, _ =>
                have hf : f = [] := hst
                subst hf
                have hn : numbersAt (linesOf s) 0 "evened" 0 = numsAt ws 0 := by
                  have hwa : wordsAt (linesOf s) 0 "evened" = some ws := hwa
                  unfold numbersAt
                  rw [hwa]
                refine ds_cons (s_asg (i := 2) rfl (dx_d (xd_bin (xv 2 rfl rfl) (xd_if (k := true) (XT.is (xt_cmp (xv 3 rfl rfl) xd_i oc_lt) rfl) (fun _ => xd_call fN (xds_cons (XD.is (xd_slL (xv 5 rfl rfl) (xo_i xd_i) xo_n) tailD.symm) (xds_cons xd_i xds_nil)) ⟨ws, 0, rfl, htl, lstO_list _⟩) fun h => (by cases h)) (ob_catL (by rw [List.length_nil]; exact lstO_len _))) ?_))
                cases e : numsAt ws 0 with
                | none =>
                  refine ds_cons (s_if (dt_t (XT.is (xt_or2 (k' := true) (xt_cmp (xd_callB boot_len b.len (xds_cons (xv 2 rfl rfl) xds_nil) of_lenL) (xd_bin (xv 3 rfl rfl) xd_i ob_add) oc_neI) fun h => (by cases h)) (rfl : _ = true)) ⟨fun _ => ?_, fun h => (by cases h)⟩))
                  refine ds_one (ret_d (xd_tup (xds_cons xd_s (xds_cons (xv 3 rfl rfl) xds_nil))) (due 0 ?_))
                  unfold readRule
                  rw [hn, e]
                | some l =>
                  refine ds_one (s_if (dt_t (XT.is (xt_or2 (k' := false) (xt_cmp (xd_callB boot_len b.len (xds_cons (xv 2 rfl rfl) xds_nil) of_lenL) (xd_bin (xv 3 rfl rfl) xd_i ob_add) oc_neI) fun h => xt_and2 (k := false) (k' := true) (XT.is (xt_cmp (xv 3 rfl rfl) xd_i oc_eqI) rfl) fun h => (by cases h)) (rfl : _ = false)) ⟨fun h => (by cases h), fun _ => ds_nil ?_⟩))
                  exact ⟨[.tuple (natsD l)], _, _, _, _, _, _, _, _, ⟨l, by rw [hn, e], rfl⟩, rfl, rfl⟩
              | 1, _ =>
                obtain ⟨l0, he0, hf⟩ := hst
                subst hf
                have hn : numbersAt (linesOf s) 1 "blind" 0 = numsAt ws 0 := by
                  have hwa : wordsAt (linesOf s) 1 "blind" = some ws := hwa
                  unfold numbersAt
                  rw [hwa]
                refine ds_cons (s_asg (i := 2) rfl (dx_d (xd_bin (xv 2 rfl rfl) (xd_if (k := true) (XT.is (xt_cmp (xv 3 rfl rfl) xd_i oc_lt) rfl) (fun _ => xd_call fN (xds_cons (XD.is (xd_slL (xv 5 rfl rfl) (xo_i xd_i) xo_n) tailD.symm) (xds_cons xd_i xds_nil)) ⟨ws, 0, rfl, htl, lstO_list _⟩) fun h => (by cases h)) (ob_catL (by have := lstO_len (numsAt ws 0); simp only [List.length_cons, List.length_nil]; have := lstO_one (numsAt ws 0); omega))) ?_))
                cases e : numsAt ws 0 with
                | none =>
                  refine ds_cons (s_if (dt_t (XT.is (xt_or2 (k' := true) (xt_cmp (xd_callB boot_len b.len (xds_cons (xv 2 rfl rfl) xds_nil) of_lenL) (xd_bin (xv 3 rfl rfl) xd_i ob_add) oc_neI) fun h => (by cases h)) (rfl : _ = true)) ⟨fun _ => ?_, fun h => (by cases h)⟩))
                  refine ds_one (ret_d (xd_tup (xds_cons xd_s (xds_cons (xv 3 rfl rfl) xds_nil))) (due 1 ?_))
                  unfold readRule
                  simp only [he0, hn, e]
                | some l =>
                  refine ds_one (s_if (dt_t (XT.is (xt_or2 (k' := false) (xt_cmp (xd_callB boot_len b.len (xds_cons (xv 2 rfl rfl) xds_nil) of_lenL) (xd_bin (xv 3 rfl rfl) xd_i ob_add) oc_neI) fun h => xt_and2 (k := false) (k' := true) (XT.is (xt_cmp (xv 3 rfl rfl) xd_i oc_eqI) rfl) fun h => (by cases h)) (rfl : _ = false)) ⟨fun h => (by cases h), fun _ => ds_nil ?_⟩))
                  exact ⟨[.tuple (natsD l0), .tuple (natsD l)], _, _, _, _, _, _, _, _, ⟨l0, l, he0, by rw [hn, e], rfl⟩, rfl, rfl⟩
              | 2, _ =>
                obtain ⟨l0, l1, he0, he1, hf⟩ := hst
                subst hf
                have hwa : wordsAt (linesOf s) 2 "taps" = some ws := hwa
                by_cases l1' : ws.length = 1
                · obtain ⟨k, rfl⟩ : ∃ k, ws = [k] := by
                    match ws, l1' with
                    | [k], _ => exact ⟨k, rfl⟩
                  have hfl : (([k].take 1).map PyData.str).filter (fun _ => decide ([k].length = 1)) = [.str k] := rfl
                  rw [hfl]
                  have hrr : tapOk k = false → readRule (linesOf s) = .inl 2 := fun hk => by
                    unfold readRule
                    simp only [he0, he1, hwa, hk]
                    rfl
                  refine ds_cons (s_asg (i := 2) rfl (dx_d (xd_bin (xv 2 rfl rfl) (xd_if (k := false) (XT.is (xt_cmp (xv 3 rfl rfl) xd_i oc_lt) rfl) (fun h => (by cases h)) fun _ => xv 6 rfl rfl) (ob_catL (by simp))) ?_))
                  refine ds_one (s_if (dt_t (XT.is (xt_or2 (xt_cmp (xd_callB boot_len b.len (xds_cons (xv 2 rfl rfl) xds_nil) of_lenL) (xd_bin (xv 3 rfl rfl) xd_i ob_add) oc_neI) fun h => xt_and2 (xt_cmp (xv 3 rfl rfl) xd_i oc_eqI) fun _ => xt_cmp (xd_ix (xv 2 rfl rfl) xd_i (oi_L (atI_nat (j := 2) rfl))) (xd_tup (xds_cons xd_s (xds_cons xd_s xds_nil))) (oc_niST (ys := ["known", "alike"]))) (rfl : _ = !tapOk k)) ⟨fun h => ?_, fun h => ds_nil ?_⟩))
                  · have h : tapOk k = false := by simpa using h
                    exact ds_one (ret_d (xd_tup (xds_cons xd_s (xds_cons (xv 3 rfl rfl) xds_nil))) (due 2 (hrr h)))
                  · exact ⟨[.tuple (natsD l0), .tuple (natsD l1), .str k], _, _, _, _, _, _, _, _, ⟨l0, l1, k, he0, he1, hwa, not_f h, rfl⟩, rfl, rfl⟩
                · have hfl : ((ws.take 1).map PyData.str).filter (fun _ => decide (ws.length = 1)) = [] := by
                    rw [decide_eq_false l1']
                    simp
                  rw [hfl]
                  have hrr : readRule (linesOf s) = .inl 2 := by
                    unfold readRule
                    simp only [he0, he1, hwa]
                    split
                    · rename_i e
                      cases e
                      exact absurd rfl l1'
                    · rfl
                  refine ds_cons (s_asg (i := 2) rfl (dx_d (xd_bin (xv 2 rfl rfl) (xd_if (k := false) (XT.is (xt_cmp (xv 3 rfl rfl) xd_i oc_lt) rfl) (fun h => (by cases h)) fun _ => xv 6 rfl rfl) (ob_catL (by simp))) ?_))
                  refine ds_cons (s_if (dt_t (XT.is (xt_or2 (k' := true) (xt_cmp (xd_callB boot_len b.len (xds_cons (xv 2 rfl rfl) xds_nil) of_lenL) (xd_bin (xv 3 rfl rfl) xd_i ob_add) oc_neI) fun h => (by cases h)) (rfl : _ = true)) ⟨fun _ => ?_, fun h => (by cases h)⟩))
                  exact ds_one (ret_d (xd_tup (xds_cons xd_s (xds_cons (xv 3 rfl rfl) xds_nil))) (due 2 hrr))
      · rintro ρ1 M2 ⟨f, x3, x4, x5, x6, x7, x8, x9, x10, hst, rfl, rfl⟩
        obtain ⟨l0, l1, k, he0, he1, hwa, hk, hf⟩ : RSt (linesOf s) 3 f := hst
        subst hf
        have hrr : readRule (linesOf s) = if 3 < (linesOf s).length then .inl 3 else .inr ⟨l0, l1, k⟩ := by
          unfold readRule
          simp only [he0, he1, hwa, hk, if_true]
        have f0 := nums_few hfew he0
        have f1 := nums_few hfew he1
        refine ds_cons (s_if (dt_t (xt_cmp (xd_callB boot_len b.len (xds_cons (xv 1 rfl rfl) xds_nil) of_lenL) xd_i oc_gt) ⟨fun h => ?_, fun h => ds_nil ?_⟩))
        · have h := of_decide_eq_true h
          rw [List.length_map, ← hll] at h
          rw [if_pos (by omega)] at hrr
          exact ds_one (ret_d (xd_tup (xds_cons xd_s (xds_cons xd_i xds_nil))) (due 3 hrr))
        · have h := of_decide_eq_false h
          rw [List.length_map, ← hll] at h
          rw [if_neg (by omega)] at hrr
          have hz2 : z = match ruleFault ⟨l0, l1, k⟩ with
              | none => .list [ruleD ⟨l0, l1, k⟩]
              | some p => .tuple [.str "rule", .str p] := by
            rw [hz]
            unfold ruleDue
            rw [hrr]
          refine ds_cons (s_for (di_enum b.enumerate (dx_d (xd_lst (xds_cons xd_s (xds_cons xd_s xds_nil)) (by simp)) ⟨_, rfl, fun i ρ' M' => ∃ x3 x4 x5 x6 x7 x8 x9 x10, (1 ≤ i → riseOk l0 8 = true) ∧ (2 ≤ i → riseOk l1 8 = true) ∧ M' = [] ∧ ρ' = [some (.d (.str s)), some (.d (strsD (Txt.split s "\n"))), some (.d (.list [.tuple (natsD l0), .tuple (natsD l1), .str k])), x3, x4, x5, x6, x7, x8, x9, x10], ?_, ?_, ?_⟩)))
          · exact ⟨_, _, _, _, _, _, _, _, fun h => absurd h (by decide), fun h => absurd h (by decide), rfl, rfl⟩
          · rintro i d ρ1 M2 hd ⟨x3, x4, x5, x6, x7, x8, x9, x10, h1, h2, rfl, rfl⟩
            match i, hd with
            | 0, hd =>
              cases hd
              refine ⟨_, _, tg_tup (tgs_cons (tg_name (i := 3) rfl) (tgs_cons (tg_name (i := 7) rfl) tgs_nil)), ?_⟩
              refine ds_cons (s_asg (i := 8) rfl (dx_d (xd_cmp (xd_callT bt_list b.list (xds_cons (xd_ix (xv 2 rfl rfl) (xv 3 rfl rfl) (oi_L (atI_nat (j := 0) rfl))) xds_nil) of_lstT) (xd_sortSet b.sorted b.set (xd_ix (xv 2 rfl rfl) (xv 3 rfl rfl) (oi_L (atI_nat (j := 0) rfl))) (by omega)) (oc_eqD (shaped_nats _) (shaped_nats _))) ?_))
              refine ds_one (s_if (dt_t (XT.is (xt_or2 (xt_not (xt_v (xv 8 rfl rfl))) fun _ => xt_cmp (xd_lc1 (x := "_law_item") (j := 10) rfl (xi_tup (xd_ix (xv 2 rfl rfl) (xv 3 rfl rfl) (oi_L (atI_nat (j := 0) rfl)))) (by unfold natsD; rw [List.length_map]; omega) bigD (fun d => d) (fun d hd => ?_) fun d _ _ => xv 10 rfl rfl) (xd_lst xds_nil (by simp)) (oc_neD (shaped_big _) rfl)) (rise_law l0)) ⟨fun h => ?_, fun h => ds_nil ?_⟩))
              · obtain ⟨n, hn, rfl⟩ := List.mem_map.mp hd
                exact xt_cmp (xv 10 rfl rfl) xd_i oc_gt
              · have h : riseOk l0 8 = false := by simpa using h
                refine ds_one (ret_d (xd_tup (xds_cons xd_s (xds_cons (xv 7 rfl rfl) xds_nil))) ?_)
                rw [hz2]
                unfold ruleFault
                rw [if_pos h]
              · exact ⟨_, _, _, _, _, _, _, _, fun _ => not_f h, fun h => absurd h (by decide), rfl, rfl⟩
            | 1, hd =>
              cases hd
              have h1 := h1 (by decide)
              refine ⟨_, _, tg_tup (tgs_cons (tg_name (i := 3) rfl) (tgs_cons (tg_name (i := 7) rfl) tgs_nil)), ?_⟩
              refine ds_cons (s_asg (i := 8) rfl (dx_d (xd_cmp (xd_callT bt_list b.list (xds_cons (xd_ix (xv 2 rfl rfl) (xv 3 rfl rfl) (oi_L (atI_nat (j := 1) rfl))) xds_nil) of_lstT) (xd_sortSet b.sorted b.set (xd_ix (xv 2 rfl rfl) (xv 3 rfl rfl) (oi_L (atI_nat (j := 1) rfl))) (by omega)) (oc_eqD (shaped_nats _) (shaped_nats _))) ?_))
              refine ds_one (s_if (dt_t (XT.is (xt_or2 (xt_not (xt_v (xv 8 rfl rfl))) fun _ => xt_cmp (xd_lc1 (x := "_law_item") (j := 10) rfl (xi_tup (xd_ix (xv 2 rfl rfl) (xv 3 rfl rfl) (oi_L (atI_nat (j := 1) rfl)))) (by unfold natsD; rw [List.length_map]; omega) bigD (fun d => d) (fun d hd => ?_) fun d _ _ => xv 10 rfl rfl) (xd_lst xds_nil (by simp)) (oc_neD (shaped_big _) rfl)) (rise_law l1)) ⟨fun h => ?_, fun h => ds_nil ?_⟩))
              · obtain ⟨n, hn, rfl⟩ := List.mem_map.mp hd
                exact xt_cmp (xv 10 rfl rfl) xd_i oc_gt
              · have h : riseOk l1 8 = false := by simpa using h
                refine ds_one (ret_d (xd_tup (xds_cons xd_s (xds_cons (xv 7 rfl rfl) xds_nil))) ?_)
                rw [hz2]
                unfold ruleFault
                rw [if_neg (by rw [h1]; simp), if_pos h]
              · exact ⟨_, _, _, _, _, _, _, _, fun _ => h1, fun _ => not_f h, rfl, rfl⟩
            | i + 2, hd => simp [enumD] at hd
          · rintro ρ1 M2 ⟨x3, x4, x5, x6, x7, x8, x9, x10, h1, h2, rfl, rfl⟩
            have h1 := h1 (by show 1 ≤ 2; decide)
            have h2 := h2 (by show 2 ≤ 2; decide)
            refine ds_one (ret_d (xd_lst (xds_cons (xd_callT bt_tuple b.tuple (xds_cons (xv 2 rfl rfl) xds_nil) of_tupL) xds_nil) (by simp)) ?_)
            rw [hz2]
            unfold ruleFault
            rw [if_neg (by rw [h1]; simp), if_neg (by rw [h2]; simp)]
            rfl
end
end Ev
namespace Ev
open PySem PySem.Spec PyProof.Rows L2 Evl
/-! ### no order of all boxes iff a ring -/
structure InN (n : Nat) (cs : List Cab) : Prop where
  a : ∀ c ∈ cs, c.1 ∈ natsI n
  e : ∀ c ∈ cs, c.2.1 ∈ natsI n
theorem ready_of {n : Nat} {cs : List Cab} {f : List Int} {x : Int} (h : x ∈ readyOf n cs f) : x ∈ natsI n ∧ x ∉ f ∧ ∀ c ∈ cs, c.2.1 = x → c.1 ∈ f := by
  unfold readyOf at h
  obtain ⟨h1, h2⟩ := List.mem_filter.mp h
  unfold readyOk at h2
  rw [Bool.and_eq_true, List.all_eq_true] at h2
  refine ⟨h1, by simpa using h2.1, fun c hc e => ?_⟩
  have := h2.2 c (List.mem_filter.mpr ⟨hc, by simpa using e⟩)
  simpa using this
theorem ord_new {n : Nat} {cs : List Cab} {t : Nat} {x : Int} (h : x ∈ orderOf n cs (t + 1)) : x ∈ orderOf n cs t ∨ x ∈ readyOf n cs (orderOf n cs t) := by
  rw [orderOf] at h
  rcases List.mem_append.mp h with z | z
  · exact .inl z
  · exact .inr (List.mem_of_mem_take z)
theorem ord_in {n : Nat} {cs : List Cab} : ∀ t, ∀ x ∈ orderOf n cs t, x ∈ natsI n
  | 0, _, h => by cases h
  | t + 1, x, h => by
    rcases ord_new h with z | z
    · exact ord_in t x z
    · exact (ready_of z).1
theorem ord_nodup {n : Nat} {cs : List Cab} : ∀ t, (orderOf n cs t).Nodup
  | 0 => List.nodup_nil
  | t + 1 => by
    rw [orderOf, List.nodup_append]
    refine ⟨ord_nodup t, ?_, fun a ha b hb e => ?_⟩
    · cases q : readyOf n cs (orderOf n cs t) with
      | nil => exact List.nodup_nil
      | cons x r =>
        show [x].Nodup
        simp
    · subst e
      exact (ready_of (List.mem_of_mem_take hb)).2.1 ha
theorem ord_back {n : Nat} {cs : List Cab} : ∀ t, ∀ c ∈ cs, c.2.1 ∈ orderOf n cs t → c.1 ∈ orderOf n cs t
  | 0, _, _, h => by cases h
  | t + 1, c, hc, h => by
    have old : ∀ x, x ∈ orderOf n cs t → x ∈ orderOf n cs (t + 1) := fun x hx => by
      rw [orderOf]
      exact List.mem_append_left _ hx
    rcases ord_new h with z | z
    · exact old _ (ord_back t c hc z)
    · exact old _ ((ready_of z).2.2 c hc rfl)
theorem ord_rch {n : Nat} {cs : List Cab} {t : Nat} {y x : Int} (h : Rch cs y x) : x ∈ orderOf n cs t → y ∈ orderOf n cs t := by
  induction h with
  | refl => exact id
  | step c _ hc e ih => exact fun hx => ih (e ▸ ord_back t c hc hx)
theorem ord_ring {n : Nat} {cs : List Cab} {c : Cab} (hc : c ∈ cs) (h : Rch cs c.2.1 c.1) : ∀ t, c.2.1 ∉ orderOf n cs t
  | 0 => fun h => by cases h
  | t + 1 => fun hm => by
    rcases ord_new hm with z | z
    · exact ord_ring hc h t z
    · exact ord_ring hc h t (ord_rch h ((ready_of z).2.2 c hc rfl))
theorem natsI_len (n : Nat) : (natsI n).length = n := by
  unfold natsI
  rw [List.length_map, List.length_range]
theorem short_of_ring {n : Nat} {cs : List Cab} (hn : InN n cs) (h : hasRing cs = true) : (orderOf n cs n).length < n := by
  unfold hasRing at h
  obtain ⟨c, hc, hr⟩ := List.any_eq_true.mp h
  have hr := (mem_reached cs c.2.1 c.1).mp (of_decide_eq_true hr)
  have hno := ord_ring (n := n) hc hr n
  have he := hn.e c hc
  have := len_sub (l := orderOf n cs n) (m := (natsI n).erase c.2.1) (ord_nodup n) fun x hx => (List.mem_erase_of_ne fun e => hno (by rw [← e]; exact hx)).mpr (ord_in n x hx)
  rw [List.length_erase_of_mem he, natsI_len] at this
  have hp := List.length_pos_of_mem he
  rw [natsI_len] at hp
  omega
theorem rch_front {cs : List Cab} {a x : Int} {c : Cab} (hc : c ∈ cs) (ha : c.1 = a) (h : Rch cs c.2.1 x) : Rch cs a x := by
  induction h with
  | refl => exact .step c .refl hc ha
  | step d _ hd e ih => exact .step d ih hd e
/-- where nothing is ready, nothing is left, but for a ring -/
theorem stuck {n : Nat} {cs : List Cab} (hn : InN n cs) {f : List Int} (he : readyOf n cs f = []) (hr : hasRing cs = false) : ∀ k u, u ∈ natsI n → u ∉ f → cs.length + 2 ≤ (reached cs u).length + k → False
  | 0, u, _, _, h => by
    have := reached_len cs u
    omega
  | k + 1, u, hu, hf, h => by
    have nr : readyOk cs f u = false := by
      cases q : readyOk cs f u with
      | false => rfl
      | true =>
        have : u ∈ readyOf n cs f := List.mem_filter.mpr ⟨hu, q⟩
        rw [he] at this
        cases this
    unfold readyOk at nr
    have h0 : (!decide (u ∈ f)) = true := by simpa using hf
    rw [h0, Bool.true_and] at nr
    obtain ⟨c, hc, h1⟩ := List.all_eq_false.mp nr
    obtain ⟨hc, h2⟩ := List.mem_filter.mp hc
    have h2 := of_decide_eq_true h2
    have h1 : c.1 ∉ f := by simpa using h1
    have hring : c.1 ∉ reached cs u := fun hm => by
      unfold hasRing at hr
      have := List.any_eq_false.mp hr c hc
      rw [h2] at this
      exact this (decide_eq_true hm)
    refine stuck hn he hr k c.1 (hn.a c hc) h1 ?_
    have := len_sub (l := c.1 :: reached cs u) (m := reached cs c.1) (by
      rw [List.nodup_cons]
      exact ⟨hring, reachN_nodup cs u _⟩) fun x hx => by
        rcases List.mem_cons.mp hx with e | m
        · rw [e]
          exact (mem_reached cs c.1 c.1).mpr .refl
        · refine (mem_reached cs c.1 x).mpr (rch_front hc rfl ?_)
          rw [h2]
          exact (mem_reached cs u x).mp m
    rw [List.length_cons] at this
    omega
theorem ord_grow {n : Nat} {cs : List Cab} (h : ∀ t, t < n → readyOf n cs (orderOf n cs t) ≠ []) : ∀ t, t ≤ n → (orderOf n cs t).length = t
  | 0, _ => rfl
  | t + 1, ht => by
    rw [orderOf, List.length_append, ord_grow h t (by omega)]
    cases q : readyOf n cs (orderOf n cs t) with
    | nil => exact absurd q (h t (by omega))
    | cons x r => rfl
theorem long_of_none {n : Nat} {cs : List Cab} (hn : InN n cs) (h : hasRing cs = false) : (orderOf n cs n).length = n := by
  refine ord_grow (fun t ht he => ?_) n (Nat.le_refl _)
  have : ∃ u ∈ natsI n, u ∉ orderOf n cs t := Classical.byContradiction fun w => by
    have := len_sub (l := natsI n) (m := orderOf n cs t) (by
      unfold natsI
      exact List.pairwise_map.mpr ((List.nodup_range (n := n)).imp fun h e => h (by omega))) fun x hx => Classical.byContradiction fun z => w ⟨x, hx, z⟩
    rw [natsI_len] at this
    have := orderOf_len n cs t
    omega
  obtain ⟨u, hu, hf⟩ := this
  exact stuck hn he h (cs.length + 2) u hu hf (by omega)
theorem ring_iff {n : Nat} {cs : List Cab} (hn : InN n cs) : (orderOf n cs n).length < n ↔ hasRing cs = true := by
  constructor
  · intro h
    cases q : hasRing cs with
    | true => rfl
    | false =>
      have := long_of_none hn q
      omega
  · exact short_of_ring hn
theorem natsI_mem {n : Nat} {x : Int} (h0 : 0 ≤ x) (h1 : x ≤ (n : Int) - 1) : x ∈ natsI n := by
  unfold natsI
  rw [List.mem_map]
  exact ⟨x.toNat, List.mem_range.mpr (by omega), by omega⟩
theorem in_of_cabs {n : Nat} {cs : List Cab} (h : ∀ i, i < cs.length → cabOk n cs i = true) : InN n cs := by
  have key : ∀ c ∈ cs, c.1 ∈ natsI n ∧ c.2.1 ∈ natsI n := fun c hc => by
    obtain ⟨i, hi, e⟩ := List.getElem_of_mem hc
    have := h i hi
    unfold cabOk at this
    rw [List.getElem?_eq_getElem hi, e] at this
    have this : (areD (intsD [c.1, c.2.1]) 2 0 ((n : Int) - 1) && !decide (c.1 = c.2.1) && (decide (i = 0) || PySem.W.dataLt (cabD (cs.getD (i - 1) c)) (cabD c))) = true := this
    rw [Bool.and_eq_true, Bool.and_eq_true] at this
    have h1 := this.1.1
    simp only [areD, intsD, List.map_cons, List.map_nil, List.all_cons, List.all_nil, wholeD, Bool.and_eq_true, decide_eq_true_eq] at h1
    exact ⟨natsI_mem h1.2.1.1 h1.2.1.2, natsI_mem h1.2.2.1.1 h1.2.2.1.2⟩
  exact ⟨fun c hc => (key c hc).1, fun c hc => (key c hc).2⟩
theorem listFault_good {part : Str} {len : Nat} {lo hi : Int} {good : Nat → Bool} (h : listFault part len lo hi good = none) : ∀ i, i < len → good i = true := by
  unfold listFault at h
  split at h
  · intro i hi
    have h : firstBad good len = none := by
      cases q : firstBad good len with
      | none => rfl
      | some x =>
        rw [q] at h
        cases h
    unfold firstBad at h
    have := List.find?_eq_none.mp h i (List.mem_range.mpr hi)
    simpa using this
  · cases h
theorem faults_eq (r : Rack) : rackFault r = lawFault r := by
  unfold rackFault lawFault
  split
  · rfl
  · cases listFault "boxes" r.boxes.length 1 8 (boxOk r) with
    | some x => rfl
    | none =>
      cases q : listFault "cables" r.cables.length 0 14 (cabOk r.boxes.length r.cables) with
      | some x => rfl
      | none =>
        have hn : InN r.boxes.length r.cables := in_of_cabs (listFault_good q)
        show (if (orderOf r.boxes.length r.cables r.boxes.length).length < r.boxes.length then _ else _) = (if hasRing r.cables = true then _ else _)
        by_cases h : hasRing r.cables = true
        · rw [if_pos h, if_pos ((ring_iff hn).mpr h)]
        · rw [if_neg h, if_neg fun z => h ((ring_iff hn).mp z)]
end Ev
namespace Ev
open PySem PySem.Spec PyProof.Rows L2 Evl
open PySem.W (exmAny exmOne exmAny_cons exm_cls Looks)
/-! ### except (A, B, ..): any number of classes -/
section
variable {M : Model} {K : PySem.W.Frag}
theorem exm_loop1 {A : Around} {E : Value → Shared → Prop} {s : Shared} : ∀ {cs : List Value} {Q : PUnit → Shared → Prop}, (∀ c ∈ cs, ∀ {Q : Bool → Shared → Prop}, Q true s → wpAny M A (isExcClass c) Q E s) → Q ⟨⟩ s →
    wpAny M A (forIn cs PUnit.unit fun c _ => do
      let z ← isExcClass c
      if (!z) = true then do
          rule "try.except-non-exception-class"
          raiseErrorWords "TypeError" "catching classes that do not inherit from BaseException is not allowed"
          pure (ForInStep.yield PUnit.unit)
        else pure (ForInStep.yield PUnit.unit)) Q E s
  | [], Q, _, q => by
    rw [List.forIn_nil]
    exact wpAny_pure q
  | c :: cs, Q, h, q => by
    rw [List.forIn_cons]
    refine wpAny_bind (wpAny_bind (h c List.mem_cons_self ?_))
    rw [if_neg (by decide)]
    exact wpAny_pure (exm_loop1 (fun d hd => h d (List.mem_cons_of_mem _ hd)) q)
theorem exm_loop2 {A : Around} {E : Value → Shared → Prop} {s : Shared} {cls : Value} {fb : Value → Bool} : ∀ {cs : List Value} {Q : Option Bool × Unit → Shared → Prop}, (∀ c ∈ cs, ∀ {Q : Bool → Shared → Prop}, Q (fb c) s → wpAny M A (isSubtype cls c) Q E s) → (∀ r, (cs.any fb = true → r = (some true, ())) → (cs.any fb = false → r = (none, ())) → Q r s) →
    wpAny M A (forIn cs ((none, ()) : Option Bool × Unit) fun c _ => do
      let z ← isSubtype cls c
      if z = true then pure (ForInStep.done (some true, ())) else pure (ForInStep.yield (none, ()))) Q E s
  | [], Q, _, q => by
    rw [List.forIn_nil]
    exact wpAny_pure (q _ (fun z => by cases z) fun _ => rfl)
  | c :: cs, Q, h, q => by
    rw [List.forIn_cons]
    refine wpAny_bind (wpAny_bind (h c List.mem_cons_self ?_))
    cases e : fb c with
    | true =>
      rw [if_pos rfl]
      exact wpAny_pure (wpAny_pure (q _ (fun _ => rfl) fun z => by rw [List.any_cons, e] at z; cases z))
    | false =>
      rw [if_neg (by decide)]
      exact wpAny_pure (exm_loop2 (fun d hd => h d (List.mem_cons_of_mem _ hd)) fun r h1 h2 => q r (fun z => h1 (by rw [List.any_cons, e, Bool.false_or] at z; exact z)) fun z => h2 (by rw [List.any_cons, e, Bool.false_or] at z; exact z))
theorem exm_all {cls : Value} : ∀ {cs : List Value} {b : Bool}, exmAny K cls cs = some b → (∀ c ∈ cs, ∃ v, exmOne K cls c = some v) ∧ b = cs.any fun c => (exmOne K cls c).getD false
  | [], b, h => by
    cases h
    exact ⟨fun c hc => (by cases hc), rfl⟩
  | c :: cs, b, h => by
    obtain ⟨b1, d1, h1, h2, rfl⟩ := exmAny_cons h
    obtain ⟨i1, i2⟩ := exm_all h2
    refine ⟨fun d hd => ?_, ?_⟩
    · rcases List.mem_cons.mp hd with e | m
      · exact ⟨b1, e ▸ h1⟩
      · exact i1 d m
    · rw [List.any_cons, h1, i2]
      rfl
theorem exm_tupN {cs : List Value} {cls : Value} {tp e : Addr} {b : Bool} {h : Heap} (X : K.In h) (LT : Looks M h (typeOf (.ref e)) cls) (hp : h.get? tp = some { cls := .type "tuple", data := .seq cs.toArray }) (hx : exmAny K cls cs = some b) : Looks M h (excMatches (.ref e) (.ref tp)) b := by
  intro A Q E s k0 q
  obtain ⟨hh, g, d, tk, os⟩ := s
  have k : ∀ b o, h.get? b = some o → hh.get? b = some o := k0
  have isT : Looks M h (isInstance (.ref tp) (.type "tuple")) true := ((Looks.ld hp).andThen .now).andThen (Looks.of_pure isSubtype_tuple_tuple)
  have hp2 := k _ _ hp
  obtain ⟨each, hb⟩ := exm_all hx
  unfold excMatches
  refine wpAny_bind ((isT.keeps k).at ?_)
  dsimp only
  rw [if_pos rfl]
  refine wpAny_bind (wpAny_seqItems hp2 rfl ?_)
  dsimp only [Option.getD_some, Option.getD]
  refine wpAny_bind (wpAny_pure ?_)
  refine wpAny_bind (exm_loop1 (fun c hc Q' q' => ?_) ?_)
  · obtain ⟨v, hv⟩ := each c (by simpa using hc)
    exact ((exm_cls (M := M) X hv).1.keeps k).at q'
  refine wpAny_bind ((LT.keeps k).at ?_)
  refine wpAny_bind (exm_loop2 (fb := fun c => (exmOne K cls c).getD false) (fun c hc Q' q' => ?_) fun r h1 h2 => ?_)
  · obtain ⟨v, hv⟩ := each c (by simpa using hc)
    rw [hv] at q'
    exact ((exm_cls (M := M) X hv).2.keeps k).at q'
  · cases b with
    | true =>
      rw [h1 hb.symm]
      exact wpAny_pure q
    | false =>
      rw [h2 hb.symm]
      exact wpAny_pure q
end
end Ev
namespace Ev
open PySem PySem.Spec PyProof.Rows L2 Evl
open PySem.W (exmAny exmOne exmAny_cons exm_cls Looks)
/-! ### a tuple of the module's names, evaluated -/
inductive NmAre (X : Cx) : List (Str × Pos) → List Value → Prop
  | nil : NmAre X [] []
  | cons {x : Str} {p : Pos} {v : Value} {ns : List (Str × Pos)} {vs : List Value} : Gl X x → X.mg x = some v → (x == ("__debug__" : Str)) = false → NmAre X ns vs → NmAre X ((x, p) :: ns) (v :: vs)
def nmE (q : Str × Pos) : Expr := .Name q.1 q.2
theorem nm_spliced {X : Cx} {pins : List (Addr × Obj)} {σ : L2.St} {H : Hp} {s : Shared} {E : Value → Shared → Prop} (I : Inv X pins σ H s) (pos : Pos) : ∀ {ns : List (Str × Pos)} {vs : List Value} {Q : List Value → Shared → Prop}, NmAre X ns vs → Q vs s → wpAny (model X.prog X.w) X.A (spliced (backTo pos (starEach (ns.map nmE) X.env))) Q E s
  | _, _, Q, .nil, q => Calls.spliced_nil q
  | (x, p) :: ns, v :: vs, Q, .cons g m d r, q => by
    show wpAny _ _ (spliced ((false, eval (.Name x p) X.env) :: backTo pos (starEach (ns.map nmE) X.env))) Q E s
    exact Calls.spliced_cons (ld_glob I g m (nm_spliced I pos r q) d)
theorem nm_tuple {X : Cx} {pins : List (Addr × Obj)} {σ : L2.St} {H : Hp} {s : Shared} {E : Value → Shared → Prop} {ns : List (Str × Pos)} {vs : List Value} {k : Nat} {pos : Pos} {Q : Value → Shared → Prop} (I : Inv X pins σ H s) (h : NmAre X ns vs) (hl : vs.length ≤ sizeLine)
    (q : ∀ s1, s1.heap.get? s.heap.objs.size = some { cls := .type "tuple", data := .seq vs.toArray } → (∀ b o, s.heap.get? b = some o → s1.heap.get? b = some o) → s1.os = s.os → s1.gens = s.gens → Q (.ref s.heap.objs.size) s1) :
    wpAny (model X.prog X.w) X.A (eval (.Tuple (ns.map nmE) k pos) X.env) Q E s :=
  wpAny_Tuple_spliced (nm_spliced I pos h ⟨hl, q _ (Heap.get?_push_size _ rfl) (fun b u e => Heap.get?_push_of_some _ e) rfl rfl⟩)
/-! ### an exception in flight, in a heap that grew -/
theorem frames_grow {h h2 base : Heap} (k : ∀ b o, h.get? b = some o → h2.get? b = some o) : ∀ {l : List Env}, h.FunFrames base l → h2.FunFrames base l
  | [], _ => trivial
  | _ :: _, ⟨hk, ⟨L, o, hf, hb, ho, hd⟩, hr⟩ => ⟨hk, ⟨L, o, hf, hb, k _ _ ho, hd⟩, frames_grow k hr⟩
theorem fly_grow {B : Heap} {l : List Env} {a : Addr} {Z : Obj → Prop} {h h2 : Heap} (f : HandSPX.FlyingZ B l a Z h) (k : ∀ b o, h.get? b = some o → h2.get? b = some o) : HandSPX.FlyingZ B l a Z h2 := by
  obtain ⟨f1, f2, f3, oe, vs, T, oT, ts, e1, e2, e3, e4, e5, e6, e7, e8, e9⟩ := f
  exact ⟨fun b o e => k b o (f1 b o e), f2, frames_grow k f3, oe, vs, T, oT, ts, k _ _ e1, e2, e3, e4, e5, e6, k _ _ e7, e8, e9⟩
theorem up_grow {h0 h h2 : Heap} (u : h0.UpToSlots h) (k : ∀ b o, h.get? b = some o → h2.get? b = some o) : h0.UpToSlots h2 := fun b o e n => by
  obtain ⟨sl, q⟩ := u b o e n
  exact ⟨sl, k _ _ q⟩
def ExV (cls : Value) (d : Option Addr) (a : Addr) : HO := .ext fun h => ∃ (oe : Obj) (vs : Array Value), h.get? a = some oe ∧ Zc cls d oe ∧ oe.data = .fields vs
theorem exV_ok {P : Program} {w : World} {H : Hp} {h : Heap} {a : Addr} {cls : Value} {d : Option Addr} {oe : Obj} {vs : Array Value} (e : h.get? a = some oe) (z : Zc cls d oe) (f : oe.data = .fields vs) : ObjOk P w H h a (ExV cls d a) :=
  ⟨⟨oe, vs, e, z, f⟩, ⟨oe, e⟩, fun _ _ ⟨o, v, q, r⟩ k => ⟨o, v, k o q, r⟩⟩
theorem inv_track {X : Cx} {pins : List (Addr × Obj)} {σ : L2.St} {H : Hp} {s : Shared} {a : Addr} {oe : Obj} {vs : Array Value} {cls : Value} {d : Option Addr} (I : Inv X ((a, oe) :: pins) σ H s) (z : Zc cls d oe) (f : oe.data = .fields vs) (fresh : ∀ o, X.s_0.heap.get? a = some o → X.H_0 a ≠ none) (apart : ∀ p ∈ X.pn ++ pins, p.1 ≠ a) : Inv X pins σ (upd H a (ExV cls d a)) s := by
  obtain ⟨ha, na, nL, nF, nC⟩ := I.pin (a, oe) (List.mem_append_right _ List.mem_cons_self)
  have na : H a = none := na
  have ha : s.heap.get? a = some oe := ha
  refine ⟨I.ok, I.os, I.bare, ⟨I.base.keep, I.base.slot, fun b o e hn hx => ?_, I.base.there, fun b xs e => ?_, fun b o xs e => ?_, fun b ps e => ?_⟩, I.loc, I.cell, ?_, fun x c e => ?_, fun p hp => ?_, ?_, I.len⟩
  · rw [upd_ne (fun q => by rw [q] at e hn; exact fresh o e hn)]
    exact I.base.free b o e hn hx
  · have q := I.base.tups b xs e
    rw [upd_ne (ne_of_none q na)]
    exact q
  · have q := I.base.frzs b o xs e
    rw [upd_ne (ne_of_none q na)]
    exact q
  · obtain ⟨m, q⟩ := I.base.tbls b ps e
    exact ⟨m, by rw [upd_ne (ne_of_none q na)]; exact q⟩
  · rw [upd_ne (Ne.symm nL)]
    exact I.free
  · have q := I.freeC x c e
    have ca : c ≠ a := fun w => by
      obtain ⟨v, o, ho, hd⟩ := I.cell x c e
      rw [w, ha] at ho
      cases ho
      exact nC v hd
    rw [upd_ne ca]
    exact q
  · have q := I.pin p (by
      rcases List.mem_append.mp hp with z | z
      · exact List.mem_append_left _ z
      · exact List.mem_append_right _ (List.mem_cons_of_mem _ z))
    exact ⟨q.1, by rw [upd_ne (apart p hp)]; exact q.2.1, q.2.2⟩
  · intro b u e
    by_cases hb : b = a
    · subst hb
      rw [upd_same] at e
      cases e
      exact exV_ok ha z f
    · rw [upd_ne hb] at e
      exact (I.hok b u e).stay (fun c v _ q => q) (fun c q => by
        rw [upd_ne (ne_of_none q na)]
        exact q) (fun c xs q => by
        rw [upd_ne (ne_of_none q na)]
        exact q)
/-! ### try .. except (A, B, ..) as n: .. -/
abbrev HTS := Addr → Value → Option Addr → TS
def endsN (D : Ends) (i : Nat) (a : Addr) (cls : Value) (d : Option Addr) : Ends := { nx := fun σ H => D.nx (σ.set i none) (upd H a (ExV cls d a)), rt := fun v H => D.rt v (upd H a (ExV cls d a)), bk := fun σ H => D.bk (σ.set i none) (upd H a (ExV cls d a)), ct := fun σ H => D.ct (σ.set i none) (upd H a (ExV cls d a)) }
def wTups (K : Kf) (Wout : WX) (D : Ends) (i : Nat) : List (List Value × HTS) → WX
  | [] => Wout
  | (cs, ts) :: r => fun cls d σ H => ∃ b, exmAny K cls cs = some b ∧ (b = true → ∀ a, H a = none → ts a cls d (endsN D i a cls d) (σ.set i (some (.ref a))) H) ∧ (b = false → wTups K Wout D i r cls d σ H)
inductive HdsT (X : Cx) (n : Str) : List ExceptHandler → List (List Value × HTS) → Prop
  | nil : HdsT X n [] []
  | cons {ns : List (Str × Pos)} {cs : List Value} {ts : HTS} {b0 : Stmt} {suite : List Stmt} {k : Nat} {tp pos : Pos} {hds : List ExceptHandler} {l : List (List Value × HTS)} : NmAre X ns cs → cs.length ≤ sizeLine →
      (∀ (a : Addr) (oe : Obj) (cls : Value) (d : Option Addr) (pn : List (Addr × Obj)), Zc cls d oe → (∃ vs, oe.data = .fields vs) → (∀ o, X.s_0.heap.get? a = some o → X.H_0 a ≠ none) → PSs (X.suite a ((a, oe) :: pn)) (b0 :: suite) (ts a cls d)) → HdsT X n hds l →
      HdsT X n (.ExceptHandler (some (.Tuple (ns.map nmE) k tp)) (some n) (b0 :: suite) pos :: hds) ((cs, ts) :: l)
section
variable {X : Cx} {n : Str} {i : Nat} {body : List Stmt} {h0 : ExceptHandler} {hds : List ExceptHandler} {l : List (List Value × HTS)} {pos : Pos} {tb : WX → TS} {Wout : WX}
theorem nm_suite {X : Cx} {a : Addr} {pn : List (Addr × Obj)} : ∀ {ns : List (Str × Pos)} {cs : List Value}, NmAre X ns cs → NmAre (X.suite a pn) ns cs
  | _, _, .nil => .nil
  | _, _, .cons g m d r => .cons g m d (nm_suite r)
theorem unsuiteK {X : Cx} {pins : List (Addr × Obj)} {σ : L2.St} {H : Hp} {s : Shared} {a : Addr} {q : Addr × Obj} {pn' : List (Addr × Obj)} (I : Inv (X.suite a (q :: (X.pn ++ pins))) pn' σ H s) (ok : X.Ok) : Inv X (q :: pins) σ H s :=
  ⟨ok, I.os, I.bare, I.base, I.loc, I.cell, I.free, I.freeC, fun p hp => I.pin p (List.mem_append_left _ (by
    rcases List.mem_append.mp hp with z | z
    · exact List.mem_cons_of_mem _ (List.mem_append_left _ z)
    · rcases List.mem_cons.mp z with e | z
      · rw [e]
        exact List.mem_cons_self
      · exact List.mem_cons_of_mem _ (List.mem_append_right _ z))), I.hok, I.len⟩
theorem ps_try_tups (hs : X.stack = X.env :: X.outer) (hf : X.env.frame = some X.env.locals) (hex : X.ex = []) (hN : X.N.Nodup) (hi : X.N[i]? = some n) (hln : X.env.kindOf n = some .local) (tk : L2.Takes X Wout)
    (hb : ∀ (W : WX) (pn : List (Addr × Obj)) (xe : Value → Shared → Prop), L2.Takes (X.tr pn xe) W → PassesOwn (model X.prog X.w) X.A X.env xe → PSs (X.tr pn xe) body (tb W)) (hh : HdsT X n (h0 :: hds) l) :
    PS X (.Try body (h0 :: hds) [] [] pos) (fun D σ H => tb (wTups X.K Wout D i l) D σ H) := ⟨fun pins s σ H D I h => by
  have ok := I.ok
  have hfr : X.A.frames = some (X.env :: X.outer) := by rw [ok.frames, hs]
  have hloc : Loc X.env.scope n := .inl hln
  refine wpAny_Try_except (wpAny_mono ((hb (wTups X.K Wout D i l) (X.pn ++ pins) (fun e s₁ => wpAny (model X.prog X.w) X.A (noteFrame e X.env) (fun _ s₂ => wpAny (model X.prog X.w) X.A (setFlight e none) (fun _ s₃ =>
    wpAny (model X.prog X.w) X.A (handleBy e X.env (h0 :: hds)) (SP X pins D) X.xe s₃) X.xe s₂) X.xe s₁) (fun u s2 xx => ?_) PassesOwn.looking).run [] s σ H D (I.toTry _) h) (fun f s1 hsp => ?_) fun e s1 he => he)
  · obtain ⟨a, B, sI, pins2, σ2, H2, cls, d, rfl, J0, nb, up, sky, na, os, ag, w⟩ := xx
    have J : Inv X pins σ2 H2 sI := J0.ofTry ok
    show wpAny (model X.prog X.w) X.A (noteFrame (.ref a) X.env) _ _ _
    refine Sky.land Zc.steady hfr hf (by rw [← hs]; exact sky : Sky B (X.env :: X.outer) a (Zc cls d) X.env.locals s2.heap) fun h3 fl3 up3 => ?_
    have fresh : ∀ o, X.s_0.heap.get? a = some o → X.H_0 a ≠ none := fun o e hn => by
      have ba : B.get? a = none := fl3.2.1
      have hm : a ∉ frs X.stack := fun hm => by
        obtain ⟨oe, vs, he, hz, hd⟩ := fl3.there
        rw [hs] at hm
        obtain ⟨_, o', e', hnf⟩ := fl3.2.2.1.mem hm
        rw [he] at e'
        cases e'
        exact hnf _ hd
      have := J.base.keep a o e hn (fun z => hm (by first | exact z | exact List.mem_of_mem_tail z | (rw [hs]; exact List.mem_filterMap.mpr (by
        obtain ⟨x, h1, h2⟩ := List.mem_filterMap.mp z
        exact ⟨x, List.mem_cons_of_mem _ h1, h2⟩)))) (by rw [hex]; exact fun z => nomatch z)
      rw [nb a o this hm] at ba
      cases ba
    have pinA : ∀ p ∈ X.pn ++ pins, p.1 ≠ a := fun p hp e => by
      have ba : B.get? a = none := fl3.2.1
      have q := J.pin p hp
      have nm : p.1 ∉ frs X.stack := fun hm => by
        rw [hs] at hm
        obtain ⟨x, h1, h2⟩ := List.mem_filterMap.mp hm
        rcases List.mem_cons.mp h1 with z | z
        · rw [z, hf] at h2
          exact q.2.2.1 (Option.some.inj h2).symm
        · exact q.2.2.2.1 (List.mem_filterMap.mpr ⟨x, z, h2⟩)
      have := nb p.1 p.2 q.1 nm
      rw [e, ba] at this
      cases this
    have go : ∀ {hds2 : List ExceptHandler} {l2 : List (List Value × HTS)}, HdsT X n hds2 l2 → wTups X.K Wout D i l2 cls d σ2 H2 → ∀ s4 : Shared, HandSPX.FlyingZ B (X.env :: X.outer) a (Zc cls d) s4.heap → sI.heap.UpToSlots s4.heap → s4.os = sI.os → AllBare s4.gens →
        wpAny (model X.prog X.w) X.A (handleBy (.ref a) X.env hds2) (SP X pins D) X.xe s4 := by
      intro hds2 l2 hk
      induction hk with
      | nil =>
        intro w s4 fl4 up4 os4 ag4
        refine wpAny_handleBy_nil ?_
        obtain ⟨_, _, _, oe, vs, T, oT, ts', he, hz, hd, h1, hr⟩ := id fl4
        unfold PySem.passOn
        refine wpAny_bind (wpAny_field he hd h1 ?_)
        rw [if_neg (show ¬ ((Value.ref T == Value.none) = true) from by simp)]
        have fin : wpAny (model X.prog X.w) X.A (setFlight (.ref a) X.env.frame) (fun _ s5 => wpAny (model X.prog X.w) X.A (throw (.ref a) : Sem Flow) (SP X pins D) X.xe s5) X.xe s4 := by
          rw [hf]
          exact HandSPX.setFlight_upZ fl4 fun h5 hh5 up5 => wpAny_throw (tk _ _ ⟨a, B, sI, pins, σ2, H2, cls, d, rfl, J, nb, up4.trans up5, .inr (.inr (by rw [hs]; exact hh5)), na, os4, ag4, w⟩)
        first
          | exact wpAny_bind (wpAny_pure (wpAny_bind fin))
          | exact wpAny_bind fin
      | @cons ns cs ts b0 suite k tp pos2 hds2 l2 hnm hcl hsu r ih =>
        intro w s4 fl4 up4 os4 ag4
        obtain ⟨b, hb1, hyes, hno⟩ := w
        have J4 : Inv X pins σ2 H2 s4 := J.landed nb fl4.1 up4 os4 ag4
        have apart : ∀ {h : Heap}, HandSPX.FlyingZ B (X.env :: X.outer) a (Zc cls d) h → a ≠ X.env.locals ∧ a ∉ X.fs := fun {h} fl => by
          obtain ⟨oe, vs, he, hz, hd⟩ := fl.there
          have nfr : a ∉ frs (X.env :: X.outer) := fun hm => by
            obtain ⟨_, o', e', hnf⟩ := fl.2.2.1.mem hm
            rw [he] at e'
            cases e'
            exact hnf _ hd
          exact ⟨fun z => nfr (List.mem_filterMap.mpr ⟨X.env, List.mem_cons_self, by rw [hf, z]⟩), fun hm => by
            obtain ⟨e, he2, q⟩ := List.mem_filterMap.mp hm
            exact nfr (List.mem_filterMap.mpr ⟨e, List.mem_cons_of_mem _ he2, q⟩)⟩
        obtain ⟨oe4, vs4, he4, hz4, hd4⟩ := fl4.there
        obtain ⟨nL, nF⟩ := apart fl4
        have S4 := J4.suite he4 hd4 na nL nF
        refine wpAny_handleBy_cons (codeAny_handlers_test ?_) (by intro q; cases q)
        refine nm_tuple (X := X.suite a ((a, oe4) :: (X.pn ++ pins))) S4 (nm_suite hnm) hcl fun s5 hget keep os5 gens5 => ?_
        have fl5 := fly_grow fl4 keep
        have up5 := up_grow up4 keep
        have os5' : s5.os = sI.os := os5.trans os4
        have ag5 : AllBare s5.gens := by rw [gens5]; exact ag4
        have J5 : Inv X pins σ2 H2 s5 := J.landed nb fl5.1 up5 os5' ag5
        have LT : PySem.W.Looks (model X.prog X.w) s5.heap (typeOf (.ref a)) cls := fun A Q E s k q => wpAny_typeOf_ref (k _ _ (keep _ _ he4)) (by rw [hz4.1]; exact q)
        refine (exm_tupN (M := model X.prog X.w) J5.kIn LT hget hb1).here ?_
        cases b with
        | true =>
          refine codeAny_handlers_suite_as ?_
          refine HandSPX.lands_againZ fl5 fun h6 fl6 up6 => ?_
          have J6 : Inv X pins σ2 H2 { s5 with heap := h6 } := J.landed nb fl6.1 (up5.trans up6) os5' ag5
          obtain ⟨oe6, vs6, he6, hz6, hd6⟩ := fl6.there
          have S6 := J6.suite he6 hd6 na nL nF
          refine store_ok (X := X.suite a ((a, oe6) :: (X.pn ++ pins))) (v := .ref a) S6 hN hi hloc rfl (fun s7 S7 => ?_) (.inr hln)
          refine wpAny_mono ((hsu a oe6 cls d (X.pn ++ pins) hz6 ⟨_, hd6⟩ fresh).run [] s7 _ H2 _ S7 (hyes rfl a na)) (fun f s8 hsp => ?_) (fun _ _ z => False.elim z)
          have end_ : ∀ {σ8 : L2.St} {H8 : Hp} {Q : Shared → Prop}, Inv (X.suite a ((a, oe6) :: (X.pn ++ pins))) [] σ8 H8 s8 → (∀ s9, Inv X pins (σ8.set i none) (upd H8 a (ExV cls d a)) s9 → Q s9) →
              wpAny (model X.prog X.w) X.A (do bindName X.env n .none; unbindBehindTheSuite X.env n pos2) (fun _ s9 => Q s9) X.xe s8 := fun {σ8 H8 Q} S8 hq => gone_ok (unsuiteK S8 ok) hN hi hln fun s9 J9 => hq s9 (inv_track J9 hz6 hd6 fresh pinA)
          cases f with
          | next =>
            obtain ⟨σ8, H8, S8, q8⟩ := hsp
            exact end_ S8 fun s9 J9 => ⟨_, _, J9, q8⟩
          | brk =>
            obtain ⟨σ8, H8, S8, q8⟩ := hsp
            exact end_ S8 fun s9 J9 => ⟨_, _, J9, q8⟩
          | cont =>
            obtain ⟨σ8, H8, S8, q8⟩ := hsp
            exact end_ S8 fun s9 J9 => ⟨_, _, J9, q8⟩
          | ret u =>
            obtain ⟨v8, σ8, H8, S8, r8, q8⟩ := hsp
            exact end_ S8 fun s9 J9 => ⟨_, _, _, J9, r8, q8⟩
        | false =>
          show wpAny _ X.A (handleBy (.ref a) X.env hds2) _ _ _
          exact ih (hno rfl) s5 fl5 up5 os5' ag5
    exact go hh w _ fl3 (up.trans up3) os ag
  · cases f with
    | next =>
      obtain ⟨σ', H', J', q⟩ := hsp
      exact wpAny_execs_nil ⟨σ', H', J'.ofTry ok, q⟩
    | brk =>
      obtain ⟨σ', H', J', q⟩ := hsp
      exact ⟨σ', H', J'.ofTry ok, q⟩
    | cont =>
      obtain ⟨σ', H', J', q⟩ := hsp
      exact ⟨σ', H', J'.ofTry ok, q⟩
    | ret u =>
      obtain ⟨v, σ', H', J', r, q⟩ := hsp
      exact ⟨v, σ', H', J'.ofTry ok, r, q⟩⟩
end
end Ev
namespace Ev
open PySem PySem.Spec PyProof.Rows L2 Evl
/-! ### a lambda without a parameter, called in a try -/
section
variable {X : Cx} {pins : List (Addr × Obj)} {σ : L2.St} {H HZ : Hp} {s s1 : Shared}
theorem pe_act0 {CXg : CXT} {Eg : XK} {Ng : List Str} {qg q : Str} {sg : Scope} {g f c' : Addr} {cdg pm ctv : Value} {params : Arguments} {body : Expr} {scope : Scope} {k i : Nat} {a : Str} {W : WX} {tb : XK → TE} {p1 p2 : Pos} {Z Z0 : Cx} {pn : List (Addr × Obj)} {xe : Value → Shared → Prop}
    (I : Inv X pins σ H s) (hZ0 : Z0 = cxOf CXg X.prog X.w X.K X.mg X.base Ng qg sg g cdg X.A X.stack s H Eg) (hZ : Z = Z0.tr pn xe) (L : LamS1 X.env.scope scope []) (hq : X.env.qual ++ "<lambda>" = q)
    (hbind : bindArgs (PySem.W.kla_fn "<lambda>" q params body scope (cloFrom X.env.cells scope.names []) pm (.ref c') ctv) ⟨[], []⟩ = pure [])
    (tk : L2.Takes Z W) (hr : Room (k + 1) (X.A.deeper (envOfC qg sg s.heap.objs.size g cdg)))
    (hbody : ∀ (E : XK) (A : Around) (outer : List Env) (s : Shared) (H : Hp), Room k (A.deeper (LamX.lamEnv X scope s.heap.objs.size f c')) → PE (LamX.lamCx X A outer s H E scope f c') body (tb E))
    (hN : Ng[i]? = some a) (hv : Vis sg a) (hd : (a == ("__debug__" : Str)) = false := by decide) (hcd : (a == ("__classdict__" : Str)) = false := by decide) :
    PE Z (.Call (.Name a p1) [] [] p2) (fun σZ HZ Q => σZ[i]? = some (some (.ref f)) ∧ HZ f = some (LamO f (lamO X q params body scope pm c' ctv)) ∧ HZ c' = some (LamX.CodeO c' q) ∧ tb (WE W σZ) σ HZ Q) := by
  subst hq
  subst hZ
  refine ⟨fun pinsZ sZ σZ HZ Q IZ h => ?_⟩
  obtain ⟨hs, hl, hc, hb⟩ := h
  have vz : PE (Z0.tr pn xe) (.Name a p1) (tVar i) := pe_var (by rw [hZ0]; exact hN) (by rw [hZ0]; exact hv) hd hcd
  refine wpAny_Call_Name_kw (thn (vz.run pinsZ sZ σZ HZ (fun v H1 => v = .ref f ∧ H1 = HZ) IZ ⟨.ref f, hs, rfl, rfl⟩) fun u s1 ⟨v, H1, I1, r1, q1⟩ => ?_)
  obtain ⟨ev, eH⟩ := q1
  subst ev
  rw [eH] at I1
  obtain rfl : u = Value.ref f := r1
  have of1 : s1.heap.get? f = some (lamO X (X.env.qual ++ "<lambda>") params body scope pm c' ctv) := (I1.hok f _ hl).1
  refine PySem.W.callWith_F0 ⟨_, _, _, _, of1⟩ ?_
  subst hZ0
  have un : Un (frs X.stack) [] H HZ s.heap s1.heap := I1.base
  obtain ⟨⟨oc, xs, t, hoc, hdc, hvc⟩, _, _⟩ := I1.hok c' _ hc
  have rc : codeAny (model X.prog X.w) (X.A.deeper (envOfC qg sg s.heap.objs.size g cdg)) (.call (.ref f) ⟨[], []⟩) (CR (L2.CX X.prog X.w) (envOfC qg sg s.heap.objs.size g cdg :: X.stack) X.prog X.w HZ s1 Q (WE W σZ)) s1 := by
    refine PySem.W.kla_callFunE hr.depth of1 rfl L.co L.gen rfl ⟨c', oc, xs, t, rfl, hoc, hdc, hvc⟩ ?_
    rw [hbind]
    refine wpAny_pure (wpAny_newFunctionEnv L.nocell (fun y hy => absurd hy (by simp)) (fun h₁ hns hsb => ⟨I1.nolimit.fresh _ hsb, ?_⟩) L.kind)
    show codeAny _ _ (.expr body (LamX.lamEnv X scope s1.heap.objs.size f c')) _ _
    have kp : ∀ b o, s1.heap.get? b = some o → h₁.get? b = some o := fun b o e => hsb.extBut b o (Nat.ne_of_lt (Heap.lt_size e)) (Heap.get?_push_of_some _ e)
    have J : Inv (LamX.lamCx X (X.A.deeper (envOfC qg sg s.heap.objs.size g cdg)) (envOfC qg sg s.heap.objs.size g cdg :: X.stack) s1 HZ (WE W σZ) scope f c') [] σ HZ { s1 with heap := h₁, toks := s1.toks + ([] : List (Str × Value)).length } :=
      lam_start1 (ps := []) (us := []) (js := []) (vs := []) I L I1.env0 hr.hd un hns kp (fun i y v h1 h2 => .inl ⟨by simp, h2⟩)
    refine PySem.W.kla_codeExpr (wpAny_mono ((hbody (WE W σZ) _ _ s1 HZ (hr.deeper _)).run [] _ _ HZ Q J hb) (fun w s' hq => ?_) fun e s' hq => hq)
    obtain ⟨w', H', J', rv, q⟩ := hq
    exact ⟨w', H', J'.os, J'.bare, J'.base, J'.hok, rv, q⟩
  have hx : PassesAt (L2.CX X.prog X.w) ((cxOf CXg X.prog X.w X.K X.mg X.base Ng qg sg g cdg X.A X.stack s H Eg).tr pn xe) σZ (WE W σZ) := passAt tk σZ
  refine wpAny_call (codeAny_mono rc fun r s' hq => ?_)
  cases r with
  | error e => exact hx pinsZ HZ s1 e s' I1 hq
  | ok fl =>
    cases fl with
    | ret u => exact I1.after hq
    | next => exact False.elim hq
    | brk => exact False.elim hq
    | cont => exact False.elim hq
end
end Ev
namespace Ev
open PySem PySem.Spec PyProof.Rows L2 Evl
/-! ### an exception kept as a value: behind the handler, in a def -/
/-- what is known of an own exception's class -/
structure ExcK (K : Kf) (C : Addr) : Prop where
  x : XfC K C
  cl : (PySem.W.clsIn K C).isSome = true
  ha : PySem.W.findIn K (.ref C) "__class__" = some (some (.builtin "object.__class__"))
  hn : PySem.W.specialIn K (.builtin "object.__class__") "__get__" = some (some (.builtin "getset_descriptor.__get__"))
  htk : PySem.W.takesIn K (.builtin "object.__class__") = some true
  hm : PySem.W.mroIn K C (.type "object") = some true
def rXisX (K : Kf) (C : Addr) : List V → Hp → VK → Prop := fun xs H Q => ∃ (a dd : Addr) (fs : List (Str × V)) (c : V) (cv : Value) (b : Bool), xs = [.ref a, c] ∧ (∀ u, RelV c u → u = cv) ∧ H a = some (ExV (.ref C) (some dd) a) ∧ H dd = some (.xd fs) ∧ PySem.W.kitOne K (.ref C) cv = some b ∧ Q (.bl b) H
theorem inst_of {X : Cx} {pins : List (Addr × Obj)} {σ : L2.St} {H : Hp} {s : Shared} {a dd C : Addr} {fs : List (Str × V)} (I : Inv X pins σ H s) (ha : H a = some (ExV (.ref C) (some dd) a)) (hd : H dd = some (.xd fs)) : ∃ oe od, PySem.W.InstAt s.heap a oe C (some od) ∧ ∃ mA : Str → Option Value, (∀ n, PySem.W.lookIn n od = some (mA n)) ∧ ∀ f, RelO (fs.lookup f) (mA f) := by
  obtain ⟨⟨oe, vs, e, z, f⟩, _, _⟩ := I.hok a _ ha
  obtain ⟨mA, hns, hr⟩ := (show ObjOk X.prog X.w H s.heap dd (.xd fs) from I.hok dd _ hd)
  obtain ⟨od, ho, hl⟩ := lookIn_ns hns
  exact ⟨oe, od, ⟨e, z.1, by unfold PySem.W.notCls; rw [f] <;> rfl, by rw [z.2]; exact ho⟩, mA, hl, hr⟩
theorem call_isX {X : Cx} {C : Addr} (T : ExcK X.K C) : CallR X (.builtin "isinstance") (rXisX X.K C) := fun pins s σ H xs us Q I r ⟨a, dd, fs, c, cv, b, e, hc, ha, hd, hk, q⟩ => by
  subst e
  cases r with
  | cons rx rr =>
    cases rr with
    | cons rt rr =>
      cases rr
      cases rx
      have ec := hc _ rt
      subst ec
      obtain ⟨oe, od, J, _⟩ := inst_of I ha hd
      exact PySem.W.kia_one (PySem.W.kitx_exc T.cl T.x.ga T.x.gg T.x.exC T.ha T.hn T.htk T.hm) I.kIn J hk (fun z => nomatch z) fun tk => ⟨.bl b, H, I.tok _, rfl, q⟩
def tXfV (C : Addr) (f : Str) (te : TE) : TE := fun σ H Q => te σ H fun x H1 => ∃ (a dd : Addr) (fs : List (Str × V)) (v : V), x = .ref a ∧ H1 a = some (ExV (.ref C) (some dd) a) ∧ H1 dd = some (.xd fs) ∧ fs.lookup f = some v ∧ Q v H1
theorem pe_xfV {X : Cx} {C : Addr} {e : Expr} {te : TE} {pos : Pos} {n : Str} (T : ExcK X.K C) (hno : PySem.W.findIn X.K (.ref C) n = some none) (he : PE X e te) (hb : attributeBase e n X.env (eval e X.env) = eval e X.env := by rfl) : PE X (.Attribute e n pos) (tXfV C n te) := ⟨fun pins s σ H Q I h => by
  refine attr_of hb (thn (he.run pins s σ H _ I h) fun u s1 hh => ?_)
  obtain ⟨x, H1, I1, rx, a, dd, fs, v, ex, ha, hd, l, q⟩ := hh
  subst ex
  obtain rfl : u = Value.ref a := rx
  obtain ⟨oe, od, J, mA, hl, hr⟩ := inst_of I1 ha hd
  obtain ⟨u, hu, ru⟩ := RelO.some_of (v := v) (o := mA n) (by rw [← l]; exact hr n)
  exact HandSPX.exc_get I1.kIn J T.x.ga T.x.gg T.x.exC (PySem.W.findObj_own T.x.hdC hno rfl (by rw [hl, hu])) (handed_of ru) ⟨v, H1, I1.tok _, ru, q⟩⟩
end Ev
namespace Ev
open PySem PySem.Spec PyProof.Rows L2 Evl
section
variable {Γ : Gm} {F : Fm} {ρ : Rho} {M : List MO} {a b : Expr} {P : SV → List MO → Prop} {pos : Pos}
/-- a + b of lists: a list that will change -/
theorem dx_catM (ha : DX Γ F ρ M a fun z M1 => ∃ ds, z = .d (.list ds) ∧ DX Γ F ρ M1 b fun y M2 => ∃ es, y = .d (.list es) ∧ ds.length + es.length ≤ 100000 ∧ P (.r M2.length) (M2 ++ [.lst (ds ++ es)])) : DX Γ F ρ M (.BinOp a .Add b pos) P := fun A H σ ps E Q q =>
  WG.of (te := tOp (rCatL Γ.W.K) (WG Γ a) (WG Γ b)) (fun X h => pe_op (h.K ▸ op_catL : OpR X (binaryOp .Add) (rCatL Γ.W.K)) (pe_wg h) (pe_wg h)) (ha A H σ ps E _ fun v z A1 H1 M1 ps1 e1 E1 r ⟨ds, hz, hb⟩ => by
    subst hz
    refine hb A1 H1 σ ps1 E1 _ fun y z2 A2 H2 M2 ps2 e2 E2 r2 ⟨es, hz2, hl, p⟩ => ?_
    subst hz2
    obtain ⟨l, xs, rfl, hs, hxs⟩ := dp_list (r.nx e2 : Rv Γ.W.K A2 ps2 v (.d (.list ds)))
    obtain ⟨l2, ys, rfl, hs2, hys⟩ := dp_list r2
    refine ⟨l, l2, xs, ys, rfl, rfl, ex_l E2.ah hs, ex_l E2.ah hs2, by rw [hxs.len, hys.len]; exact sz_of hl, fun n hn => q _ (.r M2.length) A2 _ _ (ps2 ++ [n]) ((e1.trans e2).trans ⟨Ex.refl _, [n], rfl⟩) (E2.newM (m := .lst (ds ++ es)) hn ⟨xs ++ ys, upd_same, hxs.append hys⟩) ⟨n, ?_, rfl⟩ p⟩
    rw [E2.ms.ln]
    simp)
/-- isinstance(err, Cls), err.f of a kept exception -/
theorem dx_isx {a dd C D : Addr} {fs : List (Str × V)} {i : Nat} {x y : Str} {b : Bool} {p p1 p2 : Pos} (T : ExcK Γ.W.K C) (h1 : F.H0 a = some (ExV (.ref C) (some dd) a)) (h2 : F.H0 dd = some (.xd fs)) (hN : Γ.N[i]? = some x) (hr : ρ[i]? = some (some (.v (.ref a)))) (hm : Γ.W.mg "isinstance" = Option.none) (hy : Γ.W.mg y = some (.ref D)) (hk : PySem.W.kitOne Γ.W.K (.ref C) (.ref D) = some b) (h : P (.d (.bool b)) M)
    (g : Glo Γ "isinstance" := by rfl) (gy : Glo Γ y := by rfl) (hv : Vis Γ.sc x := by first | exact Or.inl rfl | exact Or.inr (Or.inl rfl) | exact Or.inr (Or.inr rfl)) (hd : (x == ("__debug__" : Str)) = false := by decide) (hcd : (x == ("__classdict__" : Str)) = false := by decide) (hdy : (y == ("__debug__" : Str)) = false := by decide) (n1 : a ∉ F.ps0 := by exact List.not_mem_nil) (n2 : dd ∉ F.ps0 := by exact List.not_mem_nil) :
    DX Γ F ρ M (.Call (.Name "isinstance" p) [.Name x p1, .Name y p2] [] pos) P := fun A H σ ps E Q q =>
  WG.of (te := tCB (rXisX Γ.W.K C) (tCons (tVar i) (tCons (tC (.ref D)) tNil))) (fun X hX => pe_callB (hX.K ▸ call_isX (by rw [hX.K]; exact T) : CallR X _ (rXisX Γ.W.K C)) (gl_of hX g) (by rw [hX.mg]; exact hm) boot_isinstance (pa_cons (var_of hX hN hv hd hcd) (pa_cons (pe_glob (v := .ref D) (gl_of hX gy) (by rw [hX.mg]; exact hy) rfl hdy) pa_nil rfl) rfl) (by decide) (by decide) rfl rfl)
    ⟨_, E.rs.2 i _ hr, a, dd, fs, .ref D, .ref D, b, rfl, fun u hu => hu, E.fx.hh _ _ n1 h1, E.fx.hh _ _ n2 h2, hk, q (.bl b) (.d (.bool b)) A H M ps .refl E (.bl b) h⟩
theorem dx_fldx {a dd C : Addr} {fs : List (Str × V)} {i : Nat} {x f : Str} {v : V} {d : PyData} {px : Pos} (T : ExcK Γ.W.K C) (hno : PySem.W.findIn Γ.W.K (.ref C) f = some none) (h1 : F.H0 a = some (ExV (.ref C) (some dd) a)) (h2 : F.H0 dd = some (.xd fs)) (hN : Γ.N[i]? = some x) (hr : ρ[i]? = some (some (.v (.ref a)))) (hl : fs.lookup f = some v) (hdv : Dp Γ.W.K F.A0 v d) (h : P (.d d) M)
    (hb : ∀ env, attributeBase (.Name x px) f env (eval (.Name x px) env) = eval (.Name x px) env := by intro _; rfl) (hv : Vis Γ.sc x := by first | exact Or.inl rfl | exact Or.inr (Or.inl rfl) | exact Or.inr (Or.inr rfl)) (hd : (x == ("__debug__" : Str)) = false := by decide) (hcd : (x == ("__classdict__" : Str)) = false := by decide) (n1 : a ∉ F.ps0 := by exact List.not_mem_nil) (n2 : dd ∉ F.ps0 := by exact List.not_mem_nil) :
    DX Γ F ρ M (.Attribute (.Name x px) f pos) P := fun A H σ ps E Q q =>
  WG.of (te := tXfV C f (tVar i)) (fun X hX => pe_xfV (by rw [hX.K]; exact T) (by rw [hX.K]; exact hno) (var_of hX hN hv hd hcd) (hb X.env))
    ⟨_, E.rs.2 i _ hr, a, dd, fs, v, rfl, E.fx.hh _ _ n1 h1, E.fx.hh _ _ n2 h2, hl, q v (.d d) A H M ps .refl E (hdv.ex E.fx.aa) h⟩
end
end Ev
namespace Ev
open PySem PySem.Spec PyProof.Rows L2 Evl
/-- a list of one's own that stands already is told as one that changes -/
theorem En.adopt {K : Kf} {F : Fm} {A H : Hp} {σ : L2.St} {ρ : Rho} {M : List MO} {ps : List Addr} {D : Addr} {xs : List V} {acc : List PyData} (E : En K F A H σ ρ M ps) (hD : H D = some (.lst xs)) (aD : A D = Option.none) (f0 : F.H0 D = Option.none) (nD : D ∉ ps) (hx : DpAll K A xs acc) : En K F A H σ ρ (M ++ [.lst acc]) (ps ++ [D]) := by
  refine ⟨E.fx, ⟨by simp [E.ms.ln], fun j m p hm hp => ?_, ?_⟩, E.sl, ⟨fun i j h => ?_, fun i x h => E.rs.2 i x h⟩, ?_⟩
  · by_cases hj : j < M.length
    · rw [List.getElem?_append_left hj] at hm
      rw [List.getElem?_append_left (by rw [← E.ms.ln]; exact hj)] at hp
      obtain ⟨h1, h2, h3⟩ := E.ms.mo j m p hm hp
      exact ⟨h1, h2.more, h3⟩
    · rw [List.getElem?_append_right (by omega)] at hm
      rw [List.getElem?_append_right (by rw [← E.ms.ln]; omega), ← E.ms.ln] at hp
      have h0 : j - M.length = 0 := by
        have := (List.getElem?_eq_some_iff.mp hm).1
        simp at this
        omega
      rw [h0] at hm hp
      cases hm
      cases hp
      exact ⟨by rw [hD]; simp, ⟨xs, hD, hx⟩, fun _ => aD⟩
  · rw [List.nodup_append]
    exact ⟨E.ms.nd, by simp, fun a ha b hb e => nD (by
      have : b = D := by simpa using hb
      rw [← this, ← e]
      exact ha)⟩
  · obtain ⟨q, h1, h2⟩ := E.rs.1 i j h
    exact ⟨q, by rw [List.getElem?_append_left (List.getElem?_eq_some_iff.mp h1).1]; exact h1, h2⟩
  · obtain ⟨qs, e1, e2⟩ := E.nw
    refine ⟨qs ++ [D], by rw [e1, List.append_assoc], fun b hb => ?_⟩
    rcases List.mem_append.mp hb with z | z
    · exact e2 b z
    · have : b = D := by simpa using z
      rw [this]
      exact f0
section
variable {Γ : Gm} {B : Fb Γ} {F : Fm} {ρ ρ' ρ'' : Rho} {M : List MO} {e a b c tg iter elt : Expr} {ifs : List Expr} {N : Rho → List MO → Prop} {pos spos p px : Pos} {x y : Str} {i j : Nat} {d : PyData} {ds : List PyData} {scope : Scope} {own : List (Str × Nat)}
theorem lc_turnsM {J : It} {A1 H1 : Hp} {σ : L2.St} {M1 : List MO} {ps1 : List Addr} {vs : List Nat} {Q : VK} (E1 : En Γ.W.K F A1 H1 σ ρ M1 ps1) (wk : Wk Γ.W.K J A1 ds) {Pa : List PyData → List MO → Prop} (lc : LcOk Γ ρ elt tg ifs scope vs ds M1 Pa)
    (q : ∀ D acc A2 H2 M2 ps2, Nx A1 ps1 A2 (ps2 ++ [D]) → En Γ.W.K F A2 H2 σ ρ (M2 ++ [.lst acc]) (ps2 ++ [D]) → Pa acc M2 → Q (.ref D) H2) (D : Addr) (hD : H1 D = Option.none) :
    ∃ W : Nat → Nat → Hp → Prop, (∃ m, W 0 m (upd H1 D (.lst []))) ∧ ∀ i m H, W i m H →
      (J.stop i H ∧ Q (.ref D) H) ∨ (J.go i H ∧ ∃ Nn : Hp → Prop, (∀ H', Nn H' → ∃ m', m' < m ∧ W (i + 1) m' H') ∧ ∀ x H', J.yld i H x H' → WGg (blkG Γ scope) tg x (L2.wipe σ vs) H' fun σ2 H2 => L2.wipe σ2 vs = L2.wipe σ vs ∧ WGts (blkG Γ scope) ifs σ2 H2 fun b H3 =>
        if b = true then WG (blkG Γ scope) elt σ2 H3 fun y H4 => ∃ acc, H4 D = some (.lst acc) ∧ acc.length < sizeLine ∧ Nn (upd H4 D (.lst (acc ++ [y]))) else Nn H3) := by
  obtain ⟨hz, I, i0, it, ie⟩ := lc
  have f0 : F.H0 D = Option.none := Classical.byContradiction fun w => E1.fx.nn D w hD
  let St : Nat → Hp → Prop := fun i H' => i ≤ ds.length ∧ ∃ A' M' ps' acc xs, Nx A1 ps1 A' ps' ∧ En Γ.W.K F A' H' (L2.wipe σ vs) (wipeR ρ vs) M' ps' ∧ A' D = Option.none ∧ D ∉ ps' ∧ H' D = some (.lst xs) ∧ DpAll Γ.W.K A' xs acc ∧ acc.length ≤ i ∧ I i acc M'
  have np1 : D ∉ ps1 := fun hm => by
    obtain ⟨j, hj, e2⟩ := List.getElem_of_mem hm
    have hl : j < M1.length := by rw [E1.ms.ln]; exact hj
    exact (E1.ms.mo j M1[j] D (List.getElem?_eq_getElem hl) (by rw [List.getElem?_eq_getElem hj, e2])).1 hD
  refine ⟨fun i m H' => m = ds.length - i ∧ St i H', ⟨ds.length, by simp, Nat.zero_le _, A1, M1, ps1, [], [], .refl, (E1.wipe vs).step (Gw.grow E1.ah (Ex.new hD)), none_back E1.ah hD, np1, upd_same, .nil, Nat.le_refl _, i0⟩, ?_⟩
  rintro i m H' ⟨rfl, hi, A', M', ps', acc, xs, x', E', aD, nD, hD', hxs, hal, hI⟩
  by_cases hlt : i < ds.length
  · refine .inr ⟨wk.go i H' (x'.a.trans E'.ah) hlt, St (i + 1), fun H2 hN => ⟨ds.length - (i + 1), by omega, rfl, hN⟩, fun x H2 hy => ?_⟩
    obtain ⟨A2, w, hd⟩ := wk.yld i ds[i] A' H' x H2 (List.getElem?_eq_getElem hlt) x'.a E'.ah hy
    obtain ⟨ρ2, js, hjs, htg, hb⟩ := it i ds[i] acc M' (List.getElem?_eq_getElem hlt) hI hal
    have E2 := E'.step w
    have aD2 : A2 D = Option.none := by
      cases e : A2 D with
      | none => rfl
      | some o =>
        rcases w.g D (by rw [e]; simp) with z | z
        · exact absurd aD z
        · rw [z] at hD'
          cases hD'
    have hD2 := w.h D _ hD'
    refine htg F A2 H2 (L2.wipe σ vs) M' ps' x E2 hd _ fun σ3 E3 w3 => ⟨?_, ?_⟩
    · rw [w3 vs hjs]
      have := wipe_get σ
      apply List.ext_getElem?
      intro k
      rw [wipe_get, wipe_get]
      by_cases m : k ∈ vs
      · rw [if_pos m, if_pos m]
        cases σ[k]? <;> rfl
      · rw [if_neg m, if_neg m]
    -- the turn, in a frame of its own
    have out : ∀ {A4 H4 : Hp} {M4 : List MO} {ps4 : List Addr}, En Γ.W.K (fmOf A2 H2 ps') A4 H4 σ3 ρ2 M4 ps4 → En Γ.W.K F A4 H4 (L2.wipe σ vs) (wipeR ρ vs) M4 ps4 ∧ Nx A1 ps1 A4 ps4 ∧ A4 D = Option.none ∧ D ∉ ps4 ∧ H4 D = some (.lst xs) ∧ DpAll Γ.W.K A4 xs acc := fun {A4 H4 M4 ps4} E4 => by
      have E5 := E3.out E4
      refine ⟨E2.back E5 E4.nx, x'.trans ((Nx.of w.a).trans E4.nx), ?_, fun hm => ?_, E4.fx.hh D _ nD hD2, hxs.ex (w.a.trans E4.nx.a)⟩
      · cases e : A4 D with
        | none => rfl
        | some o =>
          rcases E4.fx.gr D (by rw [e]; simp) with z | z
          · exact absurd aD2 z
          · have z : H2 D = Option.none := z
            rw [hD2] at z
            cases z
      · rcases nw_mem E4 D hm with z | z
        · exact nD z
        · have z : H2 D = Option.none := z
          rw [hD2] at z
          cases z
    refine hb (fmOf A2 H2 ps') A2 H2 σ3 ps' E3.into _ fun k A3 H3 M3 ps3 x3 E4 ⟨h1, h2⟩ => ?_
    cases k with
    | false =>
      obtain ⟨g1, g2, g3, g4, g5, g6⟩ := out E4
      show St (i + 1) H3
      exact ⟨hlt, A3, M3, ps3, acc, xs, g2, g1, g3, g4, g5, g6, by omega, h2 rfl⟩
    | true =>
      refine h1 rfl A3 H3 σ3 ps3 E4 _ fun y z A4 H4 M4 ps4 x4 E5 r ⟨yd, hyz, hI4⟩ => ?_
      subst hyz
      obtain ⟨g1, g2, g3, g4, g5, g6⟩ := out E5
      refine ⟨xs, g5, sz_lt (by rw [hxs.len]; omega), hlt, A4, M4, ps4, acc ++ [yd], xs ++ [y], g2, g1.own g5 ⟨(fun q e => by cases e), fun φ e => by cases e⟩ g3 f0 g4, g3, g4, upd_same, g6.append (.cons r .nil), by rw [List.length_append, List.length_singleton]; omega, hI4⟩
  · have e : i = ds.length := by omega
    subst e
    have E6 := E'.adopt hD' aD f0 nD hxs
    have x6 : Nx A1 ps1 A' (ps' ++ [D]) := x'.trans ⟨Ex.refl _, [D], rfl⟩
    exact .inl ⟨wk.stop H' (x'.a.trans E'.ah), q D acc A' H' M' ps' x6 (E1.back E6 x6) (ie acc M' hI hal)⟩
/-- x = [..], a list that will change -/
theorem s_asgLcM (hN : Γ.N[i]? = some x) (h : DI Γ B.F ρ M tg iter fun ds M1 => LcOk Γ ρ elt tg ifs scope (own.map (·.2)) ds M1 fun acc M2 => N (ρ.set i (some (.r M2.length))) (M2 ++ [.lst acc])) (hyl : Γ.sc.names.lookup x = some .local := by rfl) (hk : Γ.sc.kind = .function := by rfl) (hl : (px.line == pos.line) = true := by rfl)
    (ha : (scope.names.any fun (n, k) => n == x && (k == .local || k == .cell)) = false := by decide +kernel) (hs : ∀ env x, foldedSetIterable iter env x = pure x := by intro _ _; rfl) (nd : decide Γ.N.Nodup = true := by kernel_rfl) (ok : blkC Γ.N Γ.sc scope own = true := by kernel_rfl) :
    DS1 Γ B ρ M (.Assign [.Name x px] (.ListComp elt [⟨tg, iter, ifs, 0⟩] scope pos) spos) N := fun A H σ ps E D hD k =>
  WGs.of (ts := tAsg (tLc (WGi Γ tg iter) (WGg (blkG Γ scope) tg) (WGts (blkG Γ scope) ifs) (WG (blkG Γ scope) elt) (own.map Prod.snd)) (gName i)) (fun X hX => ps_setLc hX.calm (by rw [hX.N]; exact of_decide_eq_true nd) (by rw [hX.N]; exact hN) (by rw [hX.sc]; exact hyl) (sw_true (by rw [hX.sc]; exact hk) (by rw [hX.sc]; exact hyl) hl ha) (pi_wg hX) (blkOk_by (by rw [hX.N, hX.sc]; exact ok))
    (fun s H C cl fp => pg_wg (has_blk hX s H C cl fp)) (fun s H C cl fp => pts_wg (has_blk hX s H C cl fp)) (fun s H C cl fp => pe_wg (has_blk hX s H C cl fp)) (hs X.env))
    (h A H σ ps E _ fun J ds A1 H1 M1 ps1 x1 E1 wk lc D2 hD2 => lc_turnsM (Q := fun v H => gName i v σ H D.nx) E1 wk lc (fun D3 acc A2 H2 M2 ps2 x2 E2 n => k A2 H2 _ _ _ (ps2 ++ [D3]) (x1.trans x2) (E2.setV (z := .r M2.length) i ⟨D3, by
      have := E2.ms.ln
      rw [List.length_append, List.length_append] at this
      have e : M2.length = ps2.length := by simpa using this
      rw [e]
      simp, rfl⟩) n) D2 hD2)
end
end Ev
namespace Ev
open PySem PySem.Spec PyProof.Rows L2 Evl
/-! ### _law_fault -/
/-- the class C is called x, and no other of the twenty -/
structure XOf (W : Wd) (x : Str) (C : Addr) : Prop where
  k : ExcK W.K C
  is : ∀ y ∈ xNames, ∃ D, W.mg y = some (.ref D) ∧ PySem.W.kitOne W.K (.ref C) (.ref D) = some (decide (y = x)) ∧ PySem.W.exmOne W.K (.ref C) (.ref D) = some (decide (y = x))
def lookD (fs : List (Str × PyData)) (f : Str) : PyData := (fs.lookup f).getD .none
def faultXD (x : Xc) : PyData :=
  if x.cls = "BadRack" then .tuple [.str "rack", lookD x.fs "part", lookD x.fs "number"]
  else if x.cls = "BadRule" then .tuple [.str "rule", lookD x.fs "part"]
  else .tuple [.str "text", lookD x.fs "line"]
def spF (W : Wd) : Sp := fun vs H Q _ => ∃ (A : Hp) (a dd C : Addr) (gs : List (Str × V)) (x : Xc), vs = [.ref a] ∧ Ex A H ∧ H a = some (ExV (.ref C) (some dd) a) ∧ H dd = some (.xd gs) ∧ Par W.K A gs x.fs ∧ XOf W x.cls C ∧
  ((∃ p n, x = badRack p n) ∨ (∃ p, x = badRule p) ∨ ∃ n, x = badText n) ∧ (∀ f, PySem.W.findIn W.K (.ref C) f = some none ∨ f ∉ x.fs.map (·.1)) ∧ Out W.K (faultXD x) A H Q
def prD (w : Str) (b : Bool) : PyData := .tuple [.str w, .bool b]
section
variable {Γ : Gm} {F : Fm} {ρ : Rho} {M : List MO} {P : SV → List MO → Prop}
/-- one pair of a word and an isinstance -/
theorem dx_pr {a dd C D : Addr} {fs : List (Str × V)} {w y : Str} {b : Bool} {j kk : Nat} {p p1 p2 p3 p4 p5 : Pos} (T : ExcK Γ.W.K C) (h1 : F.H0 a = some (ExV (.ref C) (some dd) a)) (h2 : F.H0 dd = some (.xd fs)) (hN : Γ.N[0]? = some ("_law_error" : Str)) (hr : ρ[0]? = some (some (.v (.ref a)))) (hm : Γ.W.mg "isinstance" = Option.none) (hy : Γ.W.mg y = some (.ref D)) (hk : PySem.W.kitOne Γ.W.K (.ref C) (.ref D) = some b) (h : P (.d (prD w b)) M)
    (g : Glo Γ "isinstance" := by rfl) (gy : Glo Γ y := by rfl) (hv : Vis Γ.sc "_law_error" := by first | exact Or.inl rfl | exact Or.inr (Or.inl rfl) | exact Or.inr (Or.inr rfl)) (hdy : (y == ("__debug__" : Str)) = false := by decide) (n1 : a ∉ F.ps0 := by exact List.not_mem_nil) (n2 : dd ∉ F.ps0 := by exact List.not_mem_nil) :
    DX Γ F ρ M (.Tuple [.Constant (.str w) j p4, .Call (.Name "isinstance" p) [.Name "_law_error" p1, .Name y p2] [] p3] kk p5) P :=
  dx_tup (dxs_cons (dx_d xd_s (dxs_cons (dx_isx T h1 h2 hN hr hm hy hk (dxs_nil ⟨[_, _], rfl, by simp, h⟩) g gy hv (by decide) (by decide) hdy n1 n2))))
/-- if isinstance(err, Cls): .. -/
theorem s_isN {a dd C D : Addr} {fs : List (Str × V)} {y : Str} {p p1 p2 p3 pos : Pos} {B : Fb Γ} {sts : List Stmt} {N : Rho → List MO → Prop} (T : ExcK Γ.W.K C) (h1 : B.F.H0 a = some (ExV (.ref C) (some dd) a)) (h2 : B.F.H0 dd = some (.xd fs)) (hN : Γ.N[0]? = some ("_law_error" : Str)) (hr : ρ[0]? = some (some (.v (.ref a)))) (hm : Γ.W.mg "isinstance" = Option.none) (hy : Γ.W.mg y = some (.ref D)) (hk : PySem.W.kitOne Γ.W.K (.ref C) (.ref D) = some false) (h : N ρ M)
    (g : Glo Γ "isinstance" := by rfl) (gy : Glo Γ y := by rfl) (hv : Vis Γ.sc "_law_error" := by first | exact Or.inl rfl | exact Or.inr (Or.inl rfl) | exact Or.inr (Or.inr rfl)) (hdy : (y == ("__debug__" : Str)) = false := by decide) (n1 : a ∉ B.F.ps0 := by exact List.not_mem_nil) (n2 : dd ∉ B.F.ps0 := by exact List.not_mem_nil) :
    DS1 Γ B ρ M (.If (.Call (.Name "isinstance" p) [.Name "_law_error" p1, .Name y p2] [] p3) sts [] pos) N := s_if (dt_v (dx_isx T h1 h2 hN hr hm hy hk ⟨false, rfl, (fun z => by cases z), fun _ => ds_nil h⟩ g gy hv (by decide) (by decide) hdy n1 n2))
theorem s_isY {a dd C D : Addr} {fs : List (Str × V)} {y : Str} {p p1 p2 p3 pos : Pos} {B : Fb Γ} {sts : List Stmt} {N : Rho → List MO → Prop} (T : ExcK Γ.W.K C) (h1 : B.F.H0 a = some (ExV (.ref C) (some dd) a)) (h2 : B.F.H0 dd = some (.xd fs)) (hN : Γ.N[0]? = some ("_law_error" : Str)) (hr : ρ[0]? = some (some (.v (.ref a)))) (hm : Γ.W.mg "isinstance" = Option.none) (hy : Γ.W.mg y = some (.ref D)) (hk : PySem.W.kitOne Γ.W.K (.ref C) (.ref D) = some true) (h : DS Γ B ρ M sts N)
    (g : Glo Γ "isinstance" := by rfl) (gy : Glo Γ y := by rfl) (hv : Vis Γ.sc "_law_error" := by first | exact Or.inl rfl | exact Or.inr (Or.inl rfl) | exact Or.inr (Or.inr rfl)) (hdy : (y == ("__debug__" : Str)) = false := by decide) (n1 : a ∉ B.F.ps0 := by exact List.not_mem_nil) (n2 : dd ∉ B.F.ps0 := by exact List.not_mem_nil) :
    DS1 Γ B ρ M (.If (.Call (.Name "isinstance" p) [.Name "_law_error" p1, .Name y p2] [] p3) sts [] pos) N := s_if (dt_v (dx_isx T h1 h2 hN hr hm hy hk ⟨true, rfl, (fun _ => h), fun z => by cases z⟩ g gy hv (by decide) (by decide) hdy n1 n2))
end
theorem Par.get {K : Kf} {A : Hp} {gs : List (Str × V)} {fs : List (Str × PyData)} {f : Str} {d : PyData} (p : Par K A gs fs) (h : fs.lookup f = some d) : ∃ v, gs.lookup f = some v ∧ Dp K A v d := par_look p h
section
variable {W : Wd}
theorem ok_law_fault (b : Bl W) (t : Dg W "_law_fault" 84) : Fk W 1 "_law_fault" ["_law_error"] (spF W) := by
  obtain ⟨f, fd, F, hg⟩ := t
  have S : FnScope ["_law_error", "_law_some_here", "_law_found", "_law_word", "_law_is_so"] ["_law_error"] (defScope (top 84)) := ⟨rfl, rfl, rfl, by decide +kernel, rfl, by decide +kernel, by decide +kernel⟩
  refine fk_mk F S hg (F.bindsN (fun _ _ _ _ _ _ us hl => match us, hl with | [_], _ => rfl)) (fun vs H Q E ⟨A, a, dd, C, gs, x, h1, _⟩ => by rw [h1]; rfl) fun E vs H Q ⟨A, a, dd, C, gs, x, h1, h2, h3, h4, h5, h6, h7, h8, h9⟩ => ?_
  subst h1
  have go : DS (gmOf W ["_law_error", "_law_some_here", "_law_found", "_law_word", "_law_is_so"] (defScope (top 84)) 0 E) (fbD (gmOf W ["_law_error", "_law_some_here", "_law_found", "_law_word", "_law_is_so"] (defScope (top 84)) 0 E) A H Q _ h9) (startR ["_law_error", "_law_some_here", "_law_found", "_law_word", "_law_is_so"] [.v (.ref a)]) [] (defBody (top 84)) fun _ _ => faultXD x = .none := by
    have isf : ∀ y ∈ xNames, y ≠ x.cls → ∃ D, W.mg y = some (.ref D) ∧ PySem.W.kitOne W.K (.ref C) (.ref D) = some false := fun y hy hne => by
      obtain ⟨D, e1, e2, _⟩ := h6.is y hy
      exact ⟨D, e1, by rw [e2, decide_eq_false hne]⟩
    have F0a : (fbD (gmOf W ["_law_error", "_law_some_here", "_law_found", "_law_word", "_law_is_so"] (defScope (top 84)) 0 E) A H Q _ h9).F.H0 a = some (ExV (.ref C) (some dd) a) := h3
    have F0d : (fbD (gmOf W ["_law_error", "_law_some_here", "_law_found", "_law_word", "_law_is_so"] (defScope (top 84)) 0 E) A H Q _ h9).F.H0 dd = some (.xd gs) := h4
    have h13 : ∀ y ∈ (["BadNames", "BadSum", "BadHigh", "BadLags", "BadBox", "BadCable", "BadName", "BadLoop", "BadWay", "BadSlope", "BadLate", "BadMoment", "BadNumber"] : List Str), y ∈ xNames ∧ y ≠ x.cls := by
      rcases h7 with ⟨p, n, rfl⟩ | ⟨p, rfl⟩ | ⟨n, rfl⟩
      · show ∀ y ∈ (["BadNames", "BadSum", "BadHigh", "BadLags", "BadBox", "BadCable", "BadName", "BadLoop", "BadWay", "BadSlope", "BadLate", "BadMoment", "BadNumber"] : List Str), y ∈ xNames ∧ y ≠ ("BadRack" : Str)
        decide +kernel
      · show ∀ y ∈ (["BadNames", "BadSum", "BadHigh", "BadLags", "BadBox", "BadCable", "BadName", "BadLoop", "BadWay", "BadSlope", "BadLate", "BadMoment", "BadNumber"] : List Str), y ∈ xNames ∧ y ≠ ("BadRule" : Str)
        decide +kernel
      · show ∀ y ∈ (["BadNames", "BadSum", "BadHigh", "BadLags", "BadBox", "BadCable", "BadName", "BadLoop", "BadWay", "BadSlope", "BadLate", "BadMoment", "BadNumber"] : List Str), y ∈ xNames ∧ y ≠ ("BadText" : Str)
        decide +kernel
    have is13 : ∀ y ∈ (["BadNames", "BadSum", "BadHigh", "BadLags", "BadBox", "BadCable", "BadName", "BadLoop", "BadWay", "BadSlope", "BadLate", "BadMoment", "BadNumber"] : List Str), ∃ D, W.mg y = some (.ref D) ∧ PySem.W.kitOne W.K (.ref C) (.ref D) = some false := fun y hy => isf y (h13 y hy).1 (h13 y hy).2
    obtain ⟨D1, m1, k1⟩ := is13 "BadNames" (by decide +kernel)
    obtain ⟨D2, m2, k2⟩ := is13 "BadSum" (by decide +kernel)
    obtain ⟨D3, m3, k3⟩ := is13 "BadHigh" (by decide +kernel)
    obtain ⟨D4, m4, k4⟩ := is13 "BadLags" (by decide +kernel)
    obtain ⟨D5, m5, k5⟩ := is13 "BadBox" (by decide +kernel)
    obtain ⟨D6, m6, k6⟩ := is13 "BadCable" (by decide +kernel)
    obtain ⟨D7, m7, k7⟩ := is13 "BadName" (by decide +kernel)
    obtain ⟨D8, m8, k8⟩ := is13 "BadLoop" (by decide +kernel)
    obtain ⟨D9, m9, k9⟩ := is13 "BadWay" (by decide +kernel)
    obtain ⟨D10, m10, k10⟩ := is13 "BadSlope" (by decide +kernel)
    obtain ⟨D11, m11, k11⟩ := is13 "BadLate" (by decide +kernel)
    obtain ⟨D12, m12, k12⟩ := is13 "BadMoment" (by decide +kernel)
    obtain ⟨D13, m13, k13⟩ := is13 "BadNumber" (by decide +kernel)
    refine ds_cons (s_asg (i := 1) rfl (dx_lst (dxs_cons (dx_pr h6.k F0a F0d rfl rfl b.isinstance m1 k1 (dxs_cons (dx_pr h6.k F0a F0d rfl rfl b.isinstance m2 k2 (dxs_nil ⟨[_, _], rfl, by simp, ?_⟩)))))))
    refine ds_cons (s_asg (i := 1) rfl (dx_bin (dx_d (xv 1 rfl rfl) ⟨_, rfl, dx_lst (dxs_cons (dx_pr h6.k F0a F0d rfl rfl b.isinstance m3 k3 (dxs_cons (dx_pr h6.k F0a F0d rfl rfl b.isinstance m4 k4 (dxs_nil ⟨[_, _], rfl, by simp, ⟨_, rfl, _, ob_catL (by simp), ?_⟩⟩)))))⟩)))
    refine ds_cons (s_asg (i := 1) rfl (dx_bin (dx_d (xv 1 rfl rfl) ⟨_, rfl, dx_lst (dxs_cons (dx_pr h6.k F0a F0d rfl rfl b.isinstance m5 k5 (dxs_cons (dx_pr h6.k F0a F0d rfl rfl b.isinstance m6 k6 (dxs_nil ⟨[_, _], rfl, by simp, ⟨_, rfl, _, ob_catL (by simp), ?_⟩⟩)))))⟩)))
    refine ds_cons (s_asg (i := 1) rfl (dx_bin (dx_d (xv 1 rfl rfl) ⟨_, rfl, dx_lst (dxs_cons (dx_pr h6.k F0a F0d rfl rfl b.isinstance m7 k7 (dxs_cons (dx_pr h6.k F0a F0d rfl rfl b.isinstance m8 k8 (dxs_nil ⟨[_, _], rfl, by simp, ⟨_, rfl, _, ob_catL (by simp), ?_⟩⟩)))))⟩)))
    refine ds_cons (s_asg (i := 1) rfl (dx_bin (dx_d (xv 1 rfl rfl) ⟨_, rfl, dx_lst (dxs_cons (dx_pr h6.k F0a F0d rfl rfl b.isinstance m9 k9 (dxs_cons (dx_pr h6.k F0a F0d rfl rfl b.isinstance m10 k10 (dxs_nil ⟨[_, _], rfl, by simp, ⟨_, rfl, _, ob_catL (by simp), ?_⟩⟩)))))⟩)))
    refine ds_cons (s_asg (i := 1) rfl (dx_catM (dx_d (xv 1 rfl rfl) ⟨_, rfl, dx_lst (dxs_cons (dx_pr h6.k F0a F0d rfl rfl b.isinstance m11 k11 (dxs_cons (dx_pr h6.k F0a F0d rfl rfl b.isinstance m12 k12 (dxs_nil ⟨[_, _], rfl, by simp, ⟨_, rfl, by simp, ?_⟩⟩)))))⟩)))
    refine ds_cons (s_app (i := 1) (j := 0) rfl rfl rfl (dx_pr h6.k F0a F0d rfl rfl b.isinstance m13 k13 ⟨_, _, rfl, rfl, by simp, ?_⟩))
    refine ds_freeze (i := 1) (j := 0) rfl rfl (Nat.zero_le _) ?_
    refine ds_cons (s_asgLcM (i := 2) (own := [("_law_word", 3), ("_law_is_so", 4)]) rfl (di_list (dx_d (xv 1 rfl rfl) ⟨_, rfl, by simp, fun _ acc M' => acc = [] ∧ M' = [.gone], ⟨rfl, rfl⟩, fun i d acc M2 hd hI _ => ?_, fun acc M2 hI _ => ?_⟩)))
    · obtain ⟨rfl, rfl⟩ := hI
      obtain ⟨w, rfl⟩ : ∃ w : Str, d = prD w false := by
        have hm := List.mem_of_getElem? hd
        simp only [List.cons_append, List.nil_append, List.mem_cons, List.not_mem_nil, or_false] at hm
        rcases hm with e | e | e | e | e | e | e | e | e | e | e | e | e <;> exact ⟨_, e⟩
      refine ⟨_, _, ?_, tg_tup (tgs_cons (tg_name (i := 3) rfl) (tgs_cons (tg_name (i := 4) rfl) tgs_nil)), fun F' => dts_one (dt_t (xt_v (xv 4 rfl rfl)) ⟨fun h => (by cases h), fun _ => ⟨rfl, rfl⟩⟩)⟩
      decide
    · obtain ⟨rfl, rfl⟩ := hI
      rcases h7 with ⟨p, n, rfl⟩ | ⟨p, rfl⟩ | ⟨n, rfl⟩
      · obtain ⟨vp, p1, p2⟩ := h5.get (f := "part") (d := .str p) rfl
        obtain ⟨vn, n1, n2⟩ := h5.get (f := "number") (d := numD n) rfl
        obtain ⟨Y, y1, y2, _⟩ := h6.is "BadRack" (by decide +kernel)
        obtain ⟨D14, m14, k14⟩ := isf "BadRule" (by decide +kernel) (show ("BadRule" : Str) ≠ "BadRack" by decide +kernel)
        obtain ⟨D15, m15, k15⟩ := isf "BadPaper" (by decide +kernel) (show ("BadPaper" : Str) ≠ "BadRack" by decide +kernel)
        obtain ⟨D16, m16, k16⟩ := isf "BadHistory" (by decide +kernel) (show ("BadHistory" : Str) ≠ "BadRack" by decide +kernel)
        obtain ⟨D17, m17, k17⟩ := isf "BadText" (by decide +kernel) (show ("BadText" : Str) ≠ "BadRack" by decide +kernel)
        obtain ⟨D18, m18, k18⟩ := isf "TooGreat" (by decide +kernel) (show ("TooGreat" : Str) ≠ "BadRack" by decide +kernel)
        obtain ⟨D19, m19, k19⟩ := isf "NothingLeft" (by decide +kernel) (show ("NothingLeft" : Str) ≠ "BadRack" by decide +kernel)
        have q1 : PySem.W.findIn W.K (.ref C) "part" = some none := (h8 "part").resolve_right fun z => z (by show ("part" : Str) ∈ (["number", "part"] : List Str); decide +kernel)
        have q2 : PySem.W.findIn W.K (.ref C) "number" = some none := (h8 "number").resolve_right fun z => z (by show ("number" : Str) ∈ (["number", "part"] : List Str); decide +kernel)
        refine ds_cons (s_isY h6.k F0a F0d rfl rfl b.isinstance y1 (y2.trans rfl) (ds_one (s_app (i := 2) (j := 1) rfl rfl rfl (dx_tup (dxs_cons (dx_d xd_s (dxs_cons (dx_fldx (i := 0) h6.k q1 F0a F0d rfl rfl p1 p2 (dxs_cons (dx_fldx (i := 0) h6.k q2 F0a F0d rfl rfl n1 n2 (dxs_nil ⟨[_, _, _], rfl, by simp, ⟨_, _, rfl, rfl, by simp, ?_⟩⟩)))))))))))
        refine ds_cons (s_isN h6.k F0a F0d rfl rfl b.isinstance m14 k14 ?_)
        refine ds_cons (s_isN h6.k F0a F0d rfl rfl b.isinstance m15 k15 ?_)
        refine ds_cons (s_isN h6.k F0a F0d rfl rfl b.isinstance m16 k16 ?_)
        refine ds_cons (s_isN h6.k F0a F0d rfl rfl b.isinstance m17 k17 ?_)
        refine ds_cons (s_isN h6.k F0a F0d rfl rfl b.isinstance m18 k18 ?_)
        refine ds_cons (s_isN h6.k F0a F0d rfl rfl b.isinstance m19 k19 ?_)
        exact ds_freeze (i := 2) (j := 1) rfl rfl (Nat.zero_le _) (ds_one (ret_d (xd_if (k := true) (XT.is (xt_cmp (xd_callB boot_len b.len (xds_cons (xv 2 rfl rfl) xds_nil) of_lenL) xd_i oc_eqI) rfl) (fun _ => xd_ix (xv 2 rfl rfl) xd_i (oi_L (atI_nat (j := 0) rfl))) fun h => (by cases h)) rfl))
      · obtain ⟨vp, p1, p2⟩ := h5.get (f := "part") (d := .str p) rfl
        obtain ⟨Y, y1, y2, _⟩ := h6.is "BadRule" (by decide +kernel)
        obtain ⟨D14, m14, k14⟩ := isf "BadRack" (by decide +kernel) (show ("BadRack" : Str) ≠ "BadRule" by decide +kernel)
        obtain ⟨D15, m15, k15⟩ := isf "BadPaper" (by decide +kernel) (show ("BadPaper" : Str) ≠ "BadRule" by decide +kernel)
        obtain ⟨D16, m16, k16⟩ := isf "BadHistory" (by decide +kernel) (show ("BadHistory" : Str) ≠ "BadRule" by decide +kernel)
        obtain ⟨D17, m17, k17⟩ := isf "BadText" (by decide +kernel) (show ("BadText" : Str) ≠ "BadRule" by decide +kernel)
        obtain ⟨D18, m18, k18⟩ := isf "TooGreat" (by decide +kernel) (show ("TooGreat" : Str) ≠ "BadRule" by decide +kernel)
        obtain ⟨D19, m19, k19⟩ := isf "NothingLeft" (by decide +kernel) (show ("NothingLeft" : Str) ≠ "BadRule" by decide +kernel)
        have q1 : PySem.W.findIn W.K (.ref C) "part" = some none := (h8 "part").resolve_right fun z => z (by show ("part" : Str) ∈ (["part"] : List Str); decide +kernel)
        refine ds_cons (s_isN h6.k F0a F0d rfl rfl b.isinstance m14 k14 ?_)
        refine ds_cons (s_isY h6.k F0a F0d rfl rfl b.isinstance y1 (y2.trans rfl) (ds_one (s_app (i := 2) (j := 1) rfl rfl rfl (dx_tup (dxs_cons (dx_d xd_s (dxs_cons (dx_fldx (i := 0) h6.k q1 F0a F0d rfl rfl p1 p2 (dxs_nil ⟨[_, _], rfl, by simp, ⟨_, _, rfl, rfl, by simp, ?_⟩⟩)))))))))
        refine ds_cons (s_isN h6.k F0a F0d rfl rfl b.isinstance m15 k15 ?_)
        refine ds_cons (s_isN h6.k F0a F0d rfl rfl b.isinstance m16 k16 ?_)
        refine ds_cons (s_isN h6.k F0a F0d rfl rfl b.isinstance m17 k17 ?_)
        refine ds_cons (s_isN h6.k F0a F0d rfl rfl b.isinstance m18 k18 ?_)
        refine ds_cons (s_isN h6.k F0a F0d rfl rfl b.isinstance m19 k19 ?_)
        exact ds_freeze (i := 2) (j := 1) rfl rfl (Nat.zero_le _) (ds_one (ret_d (xd_if (k := true) (XT.is (xt_cmp (xd_callB boot_len b.len (xds_cons (xv 2 rfl rfl) xds_nil) of_lenL) xd_i oc_eqI) rfl) (fun _ => xd_ix (xv 2 rfl rfl) xd_i (oi_L (atI_nat (j := 0) rfl))) fun h => (by cases h)) rfl))
      · obtain ⟨vp, p1, p2⟩ := h5.get (f := "line") (d := .int n) rfl
        obtain ⟨Y, y1, y2, _⟩ := h6.is "BadText" (by decide +kernel)
        obtain ⟨D14, m14, k14⟩ := isf "BadRack" (by decide +kernel) (show ("BadRack" : Str) ≠ "BadText" by decide +kernel)
        obtain ⟨D15, m15, k15⟩ := isf "BadRule" (by decide +kernel) (show ("BadRule" : Str) ≠ "BadText" by decide +kernel)
        obtain ⟨D16, m16, k16⟩ := isf "BadPaper" (by decide +kernel) (show ("BadPaper" : Str) ≠ "BadText" by decide +kernel)
        obtain ⟨D17, m17, k17⟩ := isf "BadHistory" (by decide +kernel) (show ("BadHistory" : Str) ≠ "BadText" by decide +kernel)
        obtain ⟨D18, m18, k18⟩ := isf "TooGreat" (by decide +kernel) (show ("TooGreat" : Str) ≠ "BadText" by decide +kernel)
        obtain ⟨D19, m19, k19⟩ := isf "NothingLeft" (by decide +kernel) (show ("NothingLeft" : Str) ≠ "BadText" by decide +kernel)
        have q1 : PySem.W.findIn W.K (.ref C) "line" = some none := (h8 "line").resolve_right fun z => z (by show ("line" : Str) ∈ (["line"] : List Str); decide +kernel)
        refine ds_cons (s_isN h6.k F0a F0d rfl rfl b.isinstance m14 k14 ?_)
        refine ds_cons (s_isN h6.k F0a F0d rfl rfl b.isinstance m15 k15 ?_)
        refine ds_cons (s_isN h6.k F0a F0d rfl rfl b.isinstance m16 k16 ?_)
        refine ds_cons (s_isN h6.k F0a F0d rfl rfl b.isinstance m17 k17 ?_)
        refine ds_cons (s_isY h6.k F0a F0d rfl rfl b.isinstance y1 (y2.trans rfl) (ds_one (s_app (i := 2) (j := 1) rfl rfl rfl (dx_tup (dxs_cons (dx_d xd_s (dxs_cons (dx_fldx (i := 0) h6.k q1 F0a F0d rfl rfl p1 p2 (dxs_nil ⟨[_, _], rfl, by simp, ⟨_, _, rfl, rfl, by simp, ?_⟩⟩)))))))))
        refine ds_cons (s_isN h6.k F0a F0d rfl rfl b.isinstance m18 k18 ?_)
        refine ds_cons (s_isN h6.k F0a F0d rfl rfl b.isinstance m19 k19 ?_)
        exact ds_freeze (i := 2) (j := 1) rfl rfl (Nat.zero_le _) (ds_one (ret_d (xd_if (k := true) (XT.is (xt_cmp (xd_callB boot_len b.len (xds_cons (xv 2 rfl rfl) xds_nil) of_lenL) xd_i oc_eqI) rfl) (fun _ => xd_ix (xv 2 rfl rfl) xd_i (oi_L (atI_nat (j := 0) rfl))) fun h => (by cases h)) rfl))
  exact go A H (L2.start _ [.ref a]) [] (en_start (ps := []) h2 ⟨rfl, (fun j m p hm => by cases hm), List.nodup_nil⟩ (.cons (v := V.ref a) (z := .v (.ref a)) rfl .nil)) _ rfl fun A1 H1 σ1 ρ1 M1 ps1 x1 E1 hd => by
    have h9' : Out W.K (faultXD x) A H Q := h9
    rw [hd] at h9'
    exact h9' .non H1 A1 (fun b o h => E1.fx.hh b o (fun z => by cases z) h) E1.fx.ah E1.fx.gr .non
end
end Ev
namespace Ev
open PySem PySem.Spec PyProof.Rows L2 Evl
open PySem.W (exmAny exmOne exmAny_cons exm_cls Looks)
/-! ### _law_said -/
def lamGE (Γ : Gm) (scope : Scope) (k : Nat) (E : XK) : Gm := ⟨Γ.W, Γ.N, scope, k, fun _ => false, some E, fun _ => True⟩
theorem has_lamE {Γ : Gm} {X : Cx} {A : Around} {outer : List Env} {s : Shared} {H : Hp} {E : XK} {scope : Scope} {f c' : Addr} {k : Nat} (h : Has Γ X) (hr : Room k (A.deeper (LamX.lamEnv X scope s.heap.objs.size f c'))) : Has (lamGE Γ scope k E) (LamX.lamCx X A outer s H E scope f c') where
  prog := h.prog
  w := h.w
  K := h.K
  mg := h.mg
  base := h.base
  N := h.N
  sc := rfl
  calm := rfl
  room := hr
  fn := fun x hx => by cases hx
  po := passes_of rfl
  tk := fun E' e => by
    cases e
    exact takes_of rfl rfl rfl rfl
  px := trivial
/-- the names of a handler's classes -/
def hdNs : ExceptHandler → List (Str × Pos)
  | .ExceptHandler (some (.Tuple es _ _)) _ _ _ => es.filterMap fun e => match e with
    | .Name x p => some (x, p)
    | _ => none
  | _ => []
def tryHd (i : Nat) : Stmt → List (Str × Pos)
  | .Try _ hds _ _ _ => match hds[i]? with
    | some h => hdNs h
    | none => []
  | _ => []
def stT : Stmt := (defBody (top 85)).getD 1 (.Pass ⟨0, 0, 0, 0⟩)
def clsOf (W : Wd) (y : Str) : Value := (W.mg y).getD .none
def X20 (W : Wd) : Prop := ∀ y ∈ xNames, ∃ D, W.mg y = some (.ref D)
theorem nm_of {Γ : Gm} {X : Cx} (h : Has Γ X) (hy : X20 Γ.W) : ∀ ns : List (Str × Pos), (∀ q ∈ ns, q.1 ∈ xNames) → (ns.all fun q => decide (Γ.sc.names.lookup q.1 = some .globalImplicit) && !(q.1 == ("__debug__" : Str))) = true → NmAre X ns (ns.map fun q => clsOf Γ.W q.1)
  | [], _, _ => .nil
  | (x, p) :: ns, hm, ha => by
    rw [List.all_cons, Bool.and_eq_true] at ha
    have h1 := (Bool.and_eq_true _ _).mp ha.1
    obtain ⟨D, hD⟩ := hy x (hm (x, p) List.mem_cons_self)
    have hgl := of_decide_eq_true h1.1
    refine .cons (gl_of h hgl) ?_ (by simpa using h1.2) (nm_of h hy ns (fun q hq => hm q (List.mem_cons_of_mem _ hq)) ha.2)
    rw [h.mg]
    show Γ.W.mg x = some ((Γ.W.mg x).getD .none)
    rw [hD]
    rfl
theorem exm_of {W : Wd} {x : Str} {C : Addr} (h : XOf W x C) : ∀ ns : List (Str × Pos), (∀ q ∈ ns, q.1 ∈ xNames) → exmAny W.K (.ref C) (ns.map fun q => clsOf W q.1) = some (ns.any fun q => decide (q.1 = x))
  | [], _ => rfl
  | (y, p) :: ns, hm => by
    obtain ⟨D, h1, _, h2⟩ := h.is y (hm (y, p) List.mem_cons_self)
    have ih := exm_of h ns fun q hq => hm q (List.mem_cons_of_mem _ hq)
    have e : clsOf W y = .ref D := by
      unfold clsOf
      rw [h1]
      rfl
    rw [List.map_cons, exmAny, ih]
    show (match exmOne W.K (.ref C) (clsOf W y), some (ns.any fun q => decide (q.1 = x)) with
      | some b, some d => some (b || d)
      | _, _ => none) = _
    rw [e, h2]
    rfl
theorem En.cut {K : Kf} {F : Fm} {A H : Hp} {σ : L2.St} {ρ : Rho} {M M1 : List MO} {ps : List Addr} (E : En K F A H σ ρ M ps) (no : ∀ i j : Nat, ρ[i]? ≠ some (some (SV.r j))) (m : Ms K A H M1 F.ps0) : En K F A H σ ρ M1 F.ps0 := ⟨E.fx, m, E.sl, ⟨fun i j h => absurd h (no i j), E.rs.2⟩, [], by simp, fun p h => by cases h⟩
theorem xd_not_in {K : Kf} {A H : Hp} {M : List MO} {ps : List Addr} {c' : Addr} {fs : List (Str × V)} (m : Ms K A H M ps) (h : H c' = some (.xd fs)) : c' ∉ ps := fun hm => by
  obtain ⟨j, hj, e2⟩ := List.getElem_of_mem hm
  have hl : j < M.length := by rw [m.ln]; exact hj
  obtain ⟨_, g2, _⟩ := m.mo j M[j] c' (List.getElem?_eq_getElem hl) (by rw [List.getElem?_eq_getElem hj, e2])
  cases z : M[j] with
  | lst ds =>
    rw [z] at g2
    obtain ⟨xs, a1, _⟩ := g2
    rw [h] at a1
    cases a1
  | obj C fs =>
    rw [z] at g2
    obtain ⟨dx, gs, a1, _⟩ := g2
    rw [h] at a1
    cases a1
  | dct kvs =>
    rw [z] at g2
    obtain ⟨vs, a1, _⟩ := g2
    rw [h] at a1
    cases a1
  | tab P q =>
    rw [z] at g2
    obtain ⟨_, xs, a1, _⟩ := g2
    rw [h] at a1
    cases a1
  | rfs is =>
    rw [z] at g2
    obtain ⟨qs, a1, _⟩ := g2
    rw [h] at a1
    cases a1
  | gone =>
    rw [z] at g2
    obtain ⟨xs, a1⟩ := g2
    rw [h] at a1
    cases a1
theorem none_not_in {K : Kf} {A H : Hp} {M : List MO} {ps : List Addr} {c' : Addr} (m : Ms K A H M ps) (h : H c' = Option.none) : c' ∉ ps := fun hm => by
  obtain ⟨j, hj, e2⟩ := List.getElem_of_mem hm
  have hl : j < M.length := by rw [m.ln]; exact hj
  exact (m.mo j M[j] c' (List.getElem?_eq_getElem hl) (by rw [List.getElem?_eq_getElem hj, e2])).1 h
section
variable {Γ : Gm} {F : Fm} {ρ : Rho} {M : List MO} {P : SV → List MO → Prop} {PT : Bool → List MO → Prop} {pos p p1 : Pos} {x : Str} {i : Nat}
/-- x is None, of a raw value -/
theorem dt_isV {v : V} {j} (hN : Γ.N[i]? = some x) (hr : ρ[i]? = some (some (.v v))) (h : PT (decide (v = .non)) M)
    (hv : Vis Γ.sc x := by first | exact Or.inl rfl | exact Or.inr (Or.inl rfl) | exact Or.inr (Or.inr rfl)) (hd : (x == ("__debug__" : Str)) = false := by decide) (hcd : (x == ("__classdict__" : Str)) = false := by decide) :
    DT Γ F ρ M (.Compare (.Name x p) [.Is] [.Constant .none j p1] pos) PT := fun A H σ ps E Q q =>
  WGt.of (te := tTest (tOp (fun x y H Q => y = .non ∧ Q (.bl (decide (x = .non))) H) (tVar i) (tC .non))) (fun X hX => pt_cmpR op_isN (var_of hX hN hv hd hcd) pe_non (by rfl)) ⟨v, E.rs.2 i _ hr, rfl, _, rfl, q _ A H M ps .refl E h⟩
/-- what is known of a caught exception -/
structure Xk (W : Wd) (F : Fm) (x : Xc) (a dd C : Addr) (gs : List (Str × V)) : Prop where
  ha : F.H0 a = some (ExV (.ref C) (some dd) a)
  hd : F.H0 dd = some (.xd gs)
  na : a ∉ F.ps0
  nd : dd ∉ F.ps0
  par : Par W.K F.A0 gs x.fs
  of : XOf W x.cls C
  one : (∃ p n, x = badRack p n) ∨ (∃ p, x = badRule p) ∨ ∃ n, x = badText n
  no : ∀ f, PySem.W.findIn W.K (.ref C) f = some none ∨ f ∉ x.fs.map (·.1)
theorem dx_fault {e : Xc} {a dd C : Addr} {gs : List (Str × V)} (f : Fk Γ.W 1 "_law_fault" ["_law_error"] (spF Γ.W)) (k : Xk Γ.W F e a dd C gs) (hN : Γ.N[i]? = some x) (hr : ρ[i]? = some (some (.v (.ref a)))) (h : P (.d (faultXD e)) M) (hk : Nat.ble 1 Γ.k = true) (g : Glo Γ "_law_fault" := by rfl)
    (hv : Vis Γ.sc x := by first | exact Or.inl rfl | exact Or.inr (Or.inl rfl) | exact Or.inr (Or.inr rfl)) (hd : (x == ("__debug__" : Str)) = false := by decide) (hcd : (x == ("__classdict__" : Str)) = false := by decide) :
    DX Γ F ρ M (.Call (.Name "_law_fault" p) [.Name x p1] [] pos) P := fun A H σ ps E Q q => by
  obtain ⟨fa, fd, h1, h2, h3, h4⟩ := f
  refine WG.of (te := tCall (spF Γ.W) [] E0 (tCons (tVar i) tNil)) (fun X hX => by
    obtain ⟨u1, u2, u3, u4, u5⟩ : X.prog = Γ.W.P ∧ X.w = Γ.W.w ∧ X.K = Γ.W.K ∧ X.mg = Γ.W.mg ∧ X.base = Γ.W.base := ⟨hX.prog, hX.w, hX.K, hX.mg, hX.base⟩
    exact pe_call (CX := L2.CX X.prog X.w) (E := E0) (dvs := []) (ds := []) (fd := fd) (ps := ["_law_error"]) (by rw [u1, u2, u3, u4, u5]; exact h4) (hX.room.mono (Nat.le_of_ble_eq_true hk)) (gl_of hX g) (by rw [u4]; exact h1) (by rw [u3]; exact h2) (by rw [u3]; exact h3) .nil passL (pa_cons (var_of hX hN hv hd hcd) pa_nil rfl) (by decide) rfl rfl) ⟨_, E.rs.2 i _ hr, ?_⟩
  exact ⟨A, a, dd, C, gs, e, rfl, E.ah, E.fx.hh _ _ k.na k.ha, E.fx.hh _ _ k.nd k.hd, ⟨k.par.1, k.par.2.ex E.fx.aa⟩, k.of, k.one, k.no, Out.use E.ah fun v A2 H2 w hv => q v (.d (faultXD e)) A2 H2 M ps (.of w.a) (E.step w) hv h⟩
end
end Ev
namespace Ev
open PySem PySem.Spec PyProof.Rows L2 Evl
def saidD : PyData ⊕ Xc → PyData
  | .inl d => .list [d]
  | .inr x => faultXD x
abbrev nsS : List Str := ["_law_call", "_law_caught", "_law_found", "e"]
def asgTs : HTS := fun _ _ _ => tAsg (tVar 3) (gName 1)
abbrev hdS (i : Nat) : List (Str × Pos) := tryHd i stT
abbrev lS (W : Wd) : List (List Value × HTS) := [((hdS 0).map fun q => clsOf W q.1, asgTs), ((hdS 1).map fun q => clsOf W q.1, asgTs), ((hdS 2).map fun q => clsOf W q.1, asgTs)]
def inX (ns : List (Str × Pos)) : Bool := ns.all fun q => decide (q.1 ∈ xNames)
theorem inX_of {ns : List (Str × Pos)} (h : inX ns = true) : ∀ q ∈ ns, q.1 ∈ xNames := fun q hq => of_decide_eq_true (List.all_eq_true.mp h q hq)
theorem hd0 : inX (hdS 0) = true := by decide +kernel
theorem hd1 : inX (hdS 1) = true := by decide +kernel
theorem hd2 : inX (hdS 2) = true := by decide +kernel
theorem suite_ps {Z : Cx} (hN : Z.N = nsS) (hsc : Z.env.scope = defScope (top 85)) (a : Addr) (pn : List (Addr × Obj)) {px pe pos : Pos} : PSs (Z.suite a pn) [.Assign [.Name "_law_caught" px] (.Name "e" pe) pos] (tAsg (tVar 3) (gName 1)) :=
  pss_one (ps_set (X := Z.suite a pn) (by show Z.N.Nodup; rw [hN]; decide +kernel) (by show Z.N[1]? = _; rw [hN]; rfl) (by show Loc Z.env.scope _; rw [hsc]; exact .inl rfl) (pe_var (by show Z.N[3]? = _; rw [hN]; rfl) (by show Vis Z.env.scope _; rw [hsc]; exact .inl rfl)) rfl (by right; show Z.env.scope.names.lookup _ = _; rw [hsc]; rfl))
theorem ps_stT {Γ : Gm} {Z : Cx} {Wout : WX} {tl : WX → TE} (h : Has Γ Z) (hN : Γ.N = nsS) (hsc : Γ.sc = defScope (top 85)) (hy : X20 Γ.W) (hs : Z.stack = Z.env :: Z.outer) (hf : Z.env.frame = some Z.env.locals) (hex : Z.ex = []) (tk : L2.Takes Z Wout)
    (hcall : ∀ (W : WX) (pn : List (Addr × Obj)) (xe : Value → Shared → Prop) (p1 p2 : Pos), L2.Takes (Z.tr pn xe) W → PE (Z.tr pn xe) (.Call (.Name "_law_call" p1) [] [] p2) (tl W)) :
    PS Z stT (fun D σ H => tAsg (tl (wTups Γ.W.K Wout D 3 (lS Γ.W))) (gName 2) D σ H) := by
  have zN : Z.N = nsS := h.N.trans hN
  have zS : Z.env.scope = defScope (top 85) := h.sc.trans hsc
  have key : PS Z stT (fun D σ H => (fun W => tAsg (tl W) (gName 2)) (wTups Z.K Wout D 3 (lS Γ.W)) D σ H) := by
    refine ps_try_tups (n := "e") (i := 3) (tb := fun W => tAsg (tl W) (gName 2)) hs hf hex (by rw [zN]; decide +kernel) (by rw [zN]; rfl) (by show Z.env.kindOf _ = _; unfold Env.kindOf; rw [zS]; rfl) tk (fun W pn xe tkW _ => ?_) ?_
    · exact pss_one (ps_set (X := Z.tr pn xe) (by show Z.N.Nodup; rw [zN]; decide +kernel) (by show Z.N[2]? = _; rw [zN]; rfl) (by show Loc Z.env.scope _; rw [zS]; exact .inl rfl) (hcall W pn xe _ _ tkW) rfl (by right; show Z.env.scope.names.lookup _ = _; rw [zS]; rfl))
    · refine .cons (ns := hdS 0) (nm_of h hy (hdS 0) (inX_of hd0) (by rw [hsc]; decide +kernel)) (by rw [List.length_map]; decide +kernel) (fun a oe cls d pn _ _ _ => suite_ps zN zS a _) (.cons (ns := hdS 1) (nm_of h hy (hdS 1) (inX_of hd1) (by rw [hsc]; decide +kernel)) (by rw [List.length_map]; decide +kernel) (fun a oe cls d pn _ _ _ => suite_ps zN zS a _) (.cons (ns := hdS 2) (nm_of h hy (hdS 2) (inX_of hd2) (by rw [hsc]; decide +kernel)) (by rw [List.length_map]; decide +kernel) (fun a oe cls d pn _ _ _ => suite_ps zN zS a _) .nil))
  rw [← h.K]
  exact key
end Ev
namespace Ev
open PySem PySem.Spec PyProof.Rows L2 Evl
abbrev stS (i : Nat) : Stmt := (defBody (top 85)).getD i (.Pass ⟨0, 0, 0, 0⟩)
/-- how an outcome is told: what an exception must be -/
structure XSaid (W : Wd) (x : Xc) : Prop where
  c : ∃ C, W.mg x.cls = some (.ref C) ∧ XOf W x.cls C ∧ ∀ f, PySem.W.findIn W.K (.ref C) f = some none ∨ f ∉ x.fs.map (·.1)
  one : (∃ p n, x = badRack p n) ∨ (∃ p, x = badRule p) ∨ ∃ n, x = badText n
theorem in_second {x : Xc} (h : (∃ p n, x = badRack p n) ∨ (∃ p, x = badRule p) ∨ ∃ n, x = badText n) : ((hdS 1).any fun q => decide (q.1 = x.cls)) = true := by
  rcases h with ⟨p, n, rfl⟩ | ⟨p, rfl⟩ | ⟨n, rfl⟩
  · show ((hdS 1).any fun q => decide (q.1 = ("BadRack" : Str))) = true
    decide +kernel
  · show ((hdS 1).any fun q => decide (q.1 = ("BadRule" : Str))) = true
    decide +kernel
  · show ((hdS 1).any fun q => decide (q.1 = ("BadText" : Str))) = true
    decide +kernel
section
variable {Γ : Gm} {F : Fm} {ρ : Rho} {M : List MO} {P : SV → List MO → Prop} {pos p lpos : Pos} {ql : Str} {params : Arguments} {body : Expr} {scope : Scope}
theorem dx_said {fg c Pt : Addr} {fdg : FuncData} {t k : Nat} {o : PyData ⊕ Xc}
    (Fg : FunD Γ.W.K "_law_said" "_law_said" (defArgs (top 85)) (defBody (top 85)) (defScope (top 85)) [] [] fg fdg) (hg : Γ.W.mg "_law_said" = some (.ref fg)) (hb : Binds Γ.W.K fdg ["_law_call"] []) (hF : Fk Γ.W 1 "_law_fault" ["_law_error"] (spF Γ.W)) (hy : X20 Γ.W) (ho : ∀ x, o = .inr x → XSaid Γ.W x)
    (hL : lamS1B Γ.sc scope [] = true) (hdef : ∀ env, defaultsOf params env = ([], [])) (hbind : ∀ q cl pm cv ctv, bindArgs (PySem.W.kla_fn "<lambda>" q params body scope cl pm cv ctv) ⟨[], []⟩ = pure [])
    (px : ∀ X, Γ.px X → X.env.code = .ref c ∧ X.env.qual ++ "<lambda>" = ql) (TB : LamX.TabB Γ.W.base Γ.W.mg c Pt) (hk : Nat.ble (k + 2) Γ.k = true) (hew : ∃ EX, Γ.ew = some EX) (hm : M[t]? = some (.tab Pt ql)) (hoM : okM M.length M)
    (hbody : ∀ E F', (∀ A H σ ρ' ps x cl d, En Γ.W.K F' A H σ ρ' M ps → XcIs Γ.W A H x cl d → o = .inr x → E cl d H) → DX (lamGE Γ scope k E) F' ρ M body fun z M' => M' = M ∧ ∃ d, o = .inl d ∧ z = .d d)
    (hp : P (.d (saidD o)) M) (hG : Glo Γ "_law_said" := by rfl) :
    DX Γ F ρ M (.Call (.Name "_law_said" p) [.Lambda params body scope lpos] [] pos) P := fun A H σ0 qs E Q q X hX pins s I => by
  have L : LamS1 X.env.scope scope [] := by
    rw [hX.sc]
    exact lamS1_by hL
  obtain ⟨hcode, hq⟩ := px X hX.px
  obtain ⟨EX, hEX⟩ := hew
  obtain ⟨oc, od, dV, kV, doc, pm0, an, cdv, ct, osl, rfl, lk, hcd, _, _⟩ := Fg.ex
  have TBX : LamX.TabB X.base X.mg c Pt := by
    rw [hX.base, hX.mg]
    exact TB
  have Sg : FnScope nsS ["_law_call"] (defScope (top 85)) := ⟨rfl, rfl, rfl, by decide +kernel, rfl, by decide +kernel, by decide +kernel⟩
  refine wpAny_Call_Name_kw (ld_glob I (gl_of hX hG) (by rw [hX.mg]; exact hg) ?_ (by decide))
  have pa : PA X [.Lambda params body scope lpos] (tCons (tLamE X Pt ql params body scope) tNil) := pa_cons (pe_lam TBX hcode hq (hdef _) L) pa_nil
  refine PySem.W.callWith_K (h₀ := X.base) I.ok.mod.kin (by rw [hX.K]; exact Fg.kp) (thn (pa.run pos pins s σ0 H (fun vs H1 => ∀ us s1, Inv X pins σ0 H1 s1 → Vals vs us → wpAny (model X.prog X.w) X.A (call (.ref fg) us) (EP X pins σ0 Q) X.xe s1) I ?_) fun us s1 ⟨vs, H1, I1, r, qq⟩ => ⟨I1.kIn, qq us s1 I1 r⟩) rfl rfl
  obtain ⟨p1, hp1⟩ : ∃ p1, qs[t]? = some p1 := by
    have := (List.getElem?_eq_some_iff.mp hm).1
    exact ⟨_, List.getElem?_eq_getElem (by rw [← E.ms.ln]; exact this)⟩
  obtain ⟨_, ⟨e0', tb0⟩, _⟩ := E.ms.mo t _ p1 hm hp1
  subst e0'
  refine ⟨tb0, fun f c' pm ctv H2 keep tab nf hf hc us s2 I2 r2 => ?_⟩
  have E2 := E.tab hm keep tab
  have fN : f ∉ qs := ext_not E2.ms hf
  have cN : c' ∉ qs := ext_not E2.ms hc
  let Γs : Gm := gmPx Γ.W nsS (defScope (top 85)) (k + 1) EX (fun Z' => Z' = cxOf (L2.CX X.prog X.w) X.prog X.w X.K X.mg X.base nsS "_law_said" (defScope (top 85)) fg cdv X.A X.stack s2 H2 EX)
  have qB : ∀ v z A3 H3 M3, Fx A H2 qs A3 H3 → Ms Γ.W.K A3 H3 M3 qs → Rv Γ.W.K A3 qs v z → P z M3 → Q v H3 := fun v z A3 H3 M3 fx m r p => q v z A3 H3 M3 qs (.of fx.aa) (E2.after fx m) r p
  refine wpAny_call (codeAny_mono (LamX.run_ofS (CX := L2.CX X.prog X.w) (k := k + 1) (N := nsS) (ps := ["_law_call"]) (args := ⟨us, []⟩) (E := EX) (Q := Q) (by rw [hX.K]; exact lk) (by rw [hX.K]; exact hcd) Sg (hX.room.mono (Nat.le_of_ble_eq_true hk)) I2.env0 (by
      have z := (hX.K ▸ hb : Binds X.K _ ["_law_call"] []) s2 us I2.kIn (by rw [List.append_nil, ← r2.length]; rfl)
      rw [List.append_nil] at z
      exact z) r2 rfl fun hr' => ⟨WGss Γs (defBody (top 85)), pss_wg (Γ := Γs) ⟨hX.prog, hX.w, hX.K, hX.mg, hX.base, rfl, rfl, rfl, hr', fun _ _ => .inl rfl, passes_of rfl, fun E' e' => by
        cases e'
        exact takes_of rfl rfl rfl rfl, rfl⟩, ?_⟩) fun r s' hq' => ?_)
  · have E0 : En Γ.W.K (fmOf A H2 qs) A H2 (L2.start nsS [.ref f]) (startR nsS [.v (.ref f)]) M qs := en_start E2.ah E2.ms (.cons (v := V.ref f) (z := .v (.ref f)) rfl .nil)
    have stq : okM M.length (M.take M.length) := by
      rw [List.take_length]
      exact hoM
    have hpq : P (.d (saidD o)) (M.take M.length) := by
      rw [List.take_length]
      exact hp
    let B : Fb Γs := fbM Γs A H2 Q qs M.length P (fun _ _ => False) E2.ms.ln qB (fun _ _ _ _ _ _ _ _ _ _ _ z => z.elim)
    have st1 : DS1 Γs B (startR nsS [.v (.ref f)]) M (stS 0) (fun ρ3 M3 => ρ3 = [some (.v (.ref f)), some (.d .none), some (.d .none), none] ∧ M3 = M) := s_asgTup (dxs_cons (dx_d xd_n (dxs_cons (dx_d xd_n (dxs_nil ⟨by simp, rfl, _, tv_cons (i := 1) rfl (tv_cons (i := 2) rfl tv_nil), rfl, rfl⟩)))))
    refine WGss.of (sts := [stS 0, stT, stS 2]) (ts := tSeq (WGs Γs (stS 0)) (WGss Γs [stT, stS 2])) (fun Z hZ => pss_cons (ps_wg hZ) (pss_wg hZ)) (st1 A H2 _ qs E0 _ rfl fun A3 H3 σ3 ρ3 M3 ps3 x3 E3 n3 => ?_)
    obtain ⟨rfl, rfl⟩ := n3
    have m3 : Ms Γ.W.K A3 H3 M3 qs := by
      have := ms_take E3 E2.ms.ln (by rw [List.take_length]; exact hoM)
      rw [List.take_length] at this
      exact this
    have E3' : En Γ.W.K (fmOf A H2 qs) A3 H3 σ3 _ M3 qs := E3.cut (fun i j h => by
      match i, h with
      | 0, h => cases h
      | 1, h => cases h
      | 2, h => cases h
      | 3, h => cases h
      | n + 4, h => cases h) m3
    have E4 : En Γ.W.K F A3 H3 σ0 ρ M3 qs := E2.after E3.fx m3
    let tl : WX → TE := fun W σZ HZ Q => σZ[0]? = some (some (.ref f)) ∧ HZ f = some (LamO f (lamO X ql params body scope pm c' ctv)) ∧ HZ c' = some (LamX.CodeO c' ql) ∧ WG (lamGE Γ scope k (WE W σZ)) body σ0 HZ Q
    refine WGss.of (sts := [stT, stS 2]) (ts := tSeq (fun D σ H => tAsg (tl (wTups Γ.W.K (fun cl d _ H => EX cl d H) D 3 (lS Γ.W))) (gName 2) D σ H) (WGss Γs [stS 2])) (fun Z hZ => pss_cons (ps_stT (Γ := Γs) (tl := tl) hZ rfl rfl hy ?_ ?_ ?_ (hZ.tk EX rfl) fun W pn xe p1 p2 tkW => ?_) (pss_wg hZ)) ?_
    · rw [show Z = _ from hZ.px]
      rfl
    · rw [show Z = _ from hZ.px]
      rfl
    · rw [show Z = _ from hZ.px]
      rfl
    · exact pe_act0 (X := X) (Z := Z.tr pn xe) (Z0 := Z) (tb := fun E => WG (lamGE Γ scope k E) body) (i := 0) (k := k) I2 hZ.px rfl L hq (hbind _ _ _ _ _) tkW hr' (fun E A outer s H hr => pe_wg (has_lamE hX hr)) rfl (.inl rfl)
    · refine ⟨E3.rs.2 0 _ rfl, E3.fx.hh f _ fN hf, E3.fx.hh c' _ cN hc, ?_⟩
      refine hbody _ (fmOf A3 H3 qs) (fun A5 H5 σ5 ρ5 ps5 x cl d E5 xi ox => ?_) A3 H3 σ0 qs E4.into _ (fun v z A5 H5 M5 ps5 x5 E5 r hz => ?_)
      · have m5 : Ms Γ.W.K A5 H5 M3 qs := by
          have := ms_take E5 E2.ms.ln (by rw [List.take_length]; exact hoM)
          rw [List.take_length] at this
          exact this
        obtain ⟨⟨C, mC, xof, no⟩, one⟩ := ho x ox
        obtain ⟨mg, dd, gs, rfl, hdd, g1, g2⟩ := xi
        have ec : cl = .ref C := Option.some.inj (mg.symm.trans mC)
        subst ec
        have hlen : σ3.length = 4 := E3.sl.1
        have land : ∀ a, H5 a = Option.none → WGss Γs [stS 2] { nx := fun _ H' => Q .non H', rt := Q } (((σ3.set 3 (some (.ref a))).set 1 (some (.ref a))).set 3 none) (upd H5 a (ExV (.ref C) (some dd) a)) := fun a na => by
          have E6 := (((((E3'.after E5.fx m5).step (Gw.grow (E3'.after E5.fx m5).ah (Ex.new (o := ExV (.ref C) (some dd) a) na))).setX 3 (.ref a)).setX 1 (.ref a)).wipe [3])
          have E7 := E6.into
          let B7 : Fb Γs := fbM Γs A5 (upd H5 a (ExV (.ref C) (some dd) a)) Q qs M3.length P (fun _ _ => False) E2.ms.ln (fun v z A8 H8 M8 fx m r p => qB v z A8 H8 M8 (E6.fx.trans fx fun b hb => .inl hb) m r p) (fun _ _ _ _ _ _ _ _ _ _ _ z => z.elim)
          have xk : Xk Γ.W B7.F x a dd C gs := ⟨upd_same, by
            show upd H5 a _ dd = _
            rw [upd_ne (ne_of_none hdd na)]
            exact hdd, none_not_in m5 na, xd_not_in m5 hdd, ⟨g1, g2⟩, xof, one, no⟩
          have ret : DS Γs B7 (wipeR ((([some (.v (.ref f)), some (.d .none), some (.d .none), none] : Rho).set 3 (some (.v (.ref a)))).set 1 (some (.v (.ref a)))) [3]) M3 [stS 2] fun _ _ => False := ds_one (s_ret (dx_if (dt_isV (i := 1) rfl rfl ⟨(fun h => absurd (of_decide_eq_true h) fun z => by cases z), fun _ => dx_fault (i := 1) hF xk rfl rfl ⟨trivial, stq, by rw [ox] at hpq; exact hpq⟩ rfl⟩)))
          exact ret A5 _ _ qs E7 _ rfl fun _ _ _ _ _ _ _ _ z => z.elim
        have step : ∀ a, H5 a = Option.none → asgTs a (.ref C) (some dd) (endsN { nx := fun σ H => WGss Γs [stS 2] { nx := fun _ H' => Q .non H', rt := Q } σ H, rt := Q } 3 a (.ref C) (some dd)) (σ3.set 3 (some (.ref a))) H5 := fun a na => ⟨.ref a, List.getElem?_set_self (by rw [hlen]; decide), land a na⟩
        exact ⟨_, exm_of xof (hdS 0) (inX_of hd0), fun _ a na => step a na, fun _ => ⟨_, exm_of xof (hdS 1) (inX_of hd1), fun _ a na => step a na, fun hb => absurd ((in_second one).symm.trans hb) (by decide)⟩⟩
      · obtain ⟨rfl, d, ox, rfl⟩ := hz
        have m5 : Ms Γ.W.K A5 H5 M5 qs := by
          have := ms_take E5 E2.ms.ln (by rw [List.take_length]; exact hoM)
          rw [List.take_length] at this
          exact this
        have E6 := (E3'.after E5.fx m5).setV (z := .d d) (v := v) 2 r
        have ret : DS Γs B (([some (.v (.ref f)), some (.d .none), some (.d .none), none] : Rho).set 2 (some (.d d))) M5 [stS 2] fun _ _ => False := ds_one (s_ret (dx_d (xd_if (k := true) (XT.is (xt_cmp (xv 1 rfl rfl) xd_n oc_isN) rfl) (fun _ => xd_lst (xds_cons (xv 2 rfl rfl) xds_nil)) fun h => (by cases h)) ⟨trivial, stq, by rw [ox] at hpq; exact hpq⟩))
        exact ret A5 H5 _ qs E6 _ rfl fun _ _ _ _ _ _ _ _ z => z.elim
  · cases r with
    | error e => exact passes_call (hX.tk EX hEX) (fun _ _ _ _ z => z) pins σ0 H2 s2 e s' I2 hq'
    | ok fl =>
      cases fl with
      | ret u => exact I2.after hq'
      | next => exact False.elim hq'
      | brk => exact False.elim hq'
      | cont => exact False.elim hq'
end
end Ev
namespace Ev
open PySem PySem.Spec PyProof.Rows L2 Evl
/-! ### nested keys: two more questions of a set -/
section
variable {P : Program} {w : World}
/-- asked, m answers b and changes nothing -/
def Says (P : Program) (w : World) (s : Shared) (m : Sem Bool) (b : Bool) : Prop := ∀ (A : Around) (E : Value → Shared → Prop) (Q : Bool → Shared → Prop), Q b s → wpAny (model P w) A m Q E s
mutual
/-- whether the hash is one by value -/
def hbv : NestedKey → Bool
  | .none => true
  | .num _ => true
  | .text _ => false
  | .tup ks => hbvs ks
def hbvs : List NestedKey → Bool
  | [] => true
  | k :: ks => hbv k && hbvs ks
end
mutual
theorem hbv_key : ∀ (k : NestedKey) (v : Value) (n : Nat) (s : Shared), NestedIs s.heap k v → k.depth ≤ n → Says P w s (hashByValue n v) (hbv k)
  | .none, _, n, s, x, _ => by
    cases x
    intro A E Q q
    cases n <;> exact wpAny_pure q
  | .num i, _, n, s, x, _ => by
    cases x <;> (intro A E Q q; cases n <;> exact wpAny_pure q)
  | .text y, _, n, s, x, _ => by
    cases x
    intro A E Q q
    cases n <;> exact wpAny_pure q
  | .tup ks, _, n, s, x, hn => by
    cases x with
    | @tup a o vs m _ hg hc hd hk =>
      simp only [NestedKey.depth] at hn
      cases n with
      | zero => omega
      | succ n =>
        intro A E Q q
        have isT : s.TypeIs (.ref a) "tuple" := ⟨o, hg, hc⟩
        unfold hashByValue
        refine wpAny_bind (wpAny_specialOf isT F.slot_tuple_hash.lookup ?_)
        show wpAny _ _ (seqItems? (.ref a) >>= _) _ _ s
        refine wpAny_bind (wpAny_seqItems hg hd ?_)
        refine wpAny_bind ?_
        show wpAny _ _ (forIn vs _ _) _ _ s
        rw [← Array.forIn_toList]
        have items := hbv_keys ks vs.toList n s hk (by omega)
        refine wpAny_forIn_list _ (fun l r s2 => r.1 = none ∧ s2 = s ∧ ∃ js, hbvs js = hbvs ks ∧ PySem.Paired (fun v k => Says P w s (hashByValue n v) (hbv k)) l js) _ ?_ ?_ _ _ ⟨rfl, rfl, ks, rfl, items⟩
        · rintro v l r s2 ⟨hr, rfl, js, hj, e⟩
          cases e with
          | @cons _ j _ js e1 e2 =>
            refine wpAny_bind (e1 _ _ _ ?_)
            rw [hbvs] at hj
            cases hb : hbv j with
            | true =>
              rw [hb, Bool.true_and] at hj
              simp only [Bool.not_true, Bool.false_eq_true, if_false]
              exact wpAny_pure ⟨rfl, rfl, js, hj, e2⟩
            | false =>
              rw [hb, Bool.false_and] at hj
              simp only [Bool.not_false, if_true]
              have q' : Q false s2 := by
                rw [hj]
                exact q
              first
                | exact wpAny_bind (wpAny_pure (wpAny_pure (wpAny_pure q')))
                | exact wpAny_pure (wpAny_pure q')
        · rintro ⟨r1, r2⟩ s2 ⟨hr, rfl, js, hj, e⟩
          simp only at hr
          subst hr
          cases e
          have q' : Q true s2 := by
            have : hbvs [] = true := rfl
            rw [← this, hj]
            exact q
          exact wpAny_pure q'
theorem hbv_keys : ∀ (ks : List NestedKey) (vs : List Value) (n : Nat) (s : Shared), NestedAll s.heap ks vs → NestedKey.depthAll ks ≤ n → PySem.Paired (fun v k => Says P w s (hashByValue n v) (hbv k)) vs ks
  | [], _, n, s, x, _ => by
    cases x
    exact .nil
  | k :: ks, _, n, s, x, hn => by
    cases x with
    | cons x1 x2 =>
      simp only [NestedKey.depthAll] at hn
      exact .cons (hbv_key k _ n s x1 (by omega)) (hbv_keys ks _ n s x2 (by omega))
end
mutual
theorem ofa_key : ∀ (k : NestedKey) (v : Value) (n : Nat) (s : Shared), NestedIs s.heap k v → k.depth ≤ n → Says P w s (ofAClassStatement n v) false
  | .none, _, n, s, x, _ => by
    cases x
    intro A E Q q
    cases n <;> exact wpAny_pure q
  | .num i, _, n, s, x, _ => by
    cases x <;> (intro A E Q q; cases n <;> exact wpAny_pure q)
  | .text y, _, n, s, x, _ => by
    cases x
    intro A E Q q
    cases n <;> exact wpAny_pure q
  | .tup ks, _, n, s, x, hn => by
    cases x with
    | @tup a o vs m _ hg hc hd hk =>
      simp only [NestedKey.depth] at hn
      cases n with
      | zero => omega
      | succ n =>
        intro A E Q q
        have isT : s.TypeIs (.ref a) "tuple" := ⟨o, hg, hc⟩
        unfold ofAClassStatement
        refine wpAny_bind (wpAny_typeOf isT ?_)
        dsimp only
        have e : (("tuple" : String) == "tuple") = true := by decide
        simp only [e, if_true, Bool.not_true, Bool.false_eq_true, if_false]
        try refine wpAny_bind (wpAny_pure ?_)
        try simp only [Bool.not_true, Bool.false_eq_true, if_false]
        show wpAny _ _ (seqItems? (.ref a) >>= _) _ _ s
        refine wpAny_bind (wpAny_seqItems hg hd ?_)
        dsimp only
        refine wpAny_bind ?_
        show wpAny _ _ (forIn vs _ _) _ _ s
        rw [← Array.forIn_toList]
        refine wpAny_forIn_list _ (fun l r s2 => r.1 = none ∧ s2 = s ∧ ∀ v ∈ l, Says P w s (ofAClassStatement n v) false) _ ?_ ?_ _ _ ⟨rfl, rfl, ofa_keys ks vs.toList n s hk (by omega)⟩
        · rintro v l r s2 ⟨hr, rfl, al⟩
          refine wpAny_bind (al v List.mem_cons_self _ _ _ ?_)
          simp only [Bool.false_eq_true, if_false]
          exact wpAny_pure ⟨rfl, rfl, fun u hu => al u (List.mem_cons_of_mem _ hu)⟩
        · rintro ⟨r1, r2⟩ s2 ⟨hr, rfl, _⟩
          simp only at hr
          subst hr
          exact wpAny_pure q
theorem ofa_keys : ∀ (ks : List NestedKey) (vs : List Value) (n : Nat) (s : Shared), NestedAll s.heap ks vs → NestedKey.depthAll ks ≤ n → ∀ v ∈ vs, Says P w s (ofAClassStatement n v) false
  | [], _, n, s, x, _, v, hv => by
    cases x
    cases hv
  | k :: ks, _, n, s, x, hn, v, hv => by
    cases x with
    | cons x1 x2 =>
      simp only [NestedKey.depthAll] at hn
      rcases List.mem_cons.mp hv with e | m
      · rw [e]
        exact ofa_key k _ n s x1 (by omega)
      · exact ofa_keys ks _ n s x2 (by omega) v m
end
/-- a tuple that is a key -/
def KeyV (h : Heap) (v : Value) (k : NestedKey) : Prop := NestedIs h k v ∧ k.depth ≤ 7 ∧ ∃ b, v = .ref b
theorem seen_key {s : Shared} {x : Value} {k : NestedKey} (hx : KeyV s.heap x k) {ys : List Value} (hy : ∀ y ∈ ys, ∃ j, KeyV s.heap y j) : Says P w s (searchCouldBeSeen x ys) false := by
  intro A E Q q
  obtain ⟨x1, x2, xa, rfl⟩ := hx
  unfold searchCouldBeSeen
  refine wpAny_bind ?_
  refine wpAny_forIn_list _ (fun l r s2 => r.1 = none ∧ s2 = s ∧ ∀ y ∈ l, ∃ j, KeyV s.heap y j) _ ?_ ?_ _ _ ⟨rfl, rfl, hy⟩
  · rintro v l r s2 ⟨hr, rfl, al⟩
    have more : ∀ y ∈ l, ∃ j, KeyV s2.heap y j := fun u hu => al u (List.mem_cons_of_mem _ hu)
    obtain ⟨j, y1, y2, ya, rfl⟩ := al v List.mem_cons_self
    dsimp only
    by_cases same : (xa == ya || (carriedByValue (.ref xa) && carriedByValue (.ref ya))) = true
    · refine wp_if_pos same ?_
      exact wpAny_pure ⟨rfl, rfl, more⟩
    · refine wp_if_neg same ?_
      refine wpAny_bind (quiet_key k _ 8 s2 x1 (by omega) A E _ ?_)
      simp only [Bool.not_true, Bool.false_eq_true, if_false]
      refine wpAny_bind (quiet_key j _ 8 s2 y1 (by omega) A E _ ?_)
      simp only [Bool.not_true, Bool.false_eq_true, if_false]
      refine wpAny_bind (ofa_key k _ 8 s2 x1 (by omega) A E _ ?_)
      simp only [Bool.false_eq_true, if_false]
      refine wpAny_bind (ofa_key j _ 8 s2 y1 (by omega) A E _ ?_)
      simp only [Bool.false_eq_true, if_false]
      exact wpAny_pure ⟨rfl, rfl, more⟩
  · rintro ⟨r1, r2⟩ s2 ⟨hr, rfl, _⟩
    simp only at hr
    subst hr
    exact wpAny_pure q
end
end Ev
namespace Ev
open PySem PySem.Spec PyProof.Rows L2 Evl
/-! ### a set's table whose rows are keys -/
structure TbR (w : World) (h : Heap) (a : Addr) (es : Array (Int × Value)) (ep : Nat) (t : SetTable) : Prop where
  ob : ∃ o, h.get? a = some o ∧ o.ExactSet ∧ o.data = .set es ep t
  tab : TabOk t (es.toList.map (·.1))
  key : ∀ e ∈ es.toList, ∃ k, KeyV h e.2 k ∧ e.1 = k.hash w
  led : w.params.followText "set-order" = true ∨ t.led = true
  room : es.size * 5 < t.mask * 3
  few : es.size < 64
section
variable {P : Program} {w : World} {A : Around} {E : Value → Shared → Prop} {s : Shared} {a : Addr} {es : Array (Int × Value)} {ep : Nat} {t : SetTable}
theorem TbR.psz (R : TbR w s.heap a es ep t) : t.place.size = es.size := by
  have := R.tab.sz
  rw [List.length_map, Array.length_toList] at this
  exact this
theorem TbR.fits (R : TbR w s.heap a es ep t) : t.fits es.size = true := by
  have h1 := R.psz
  have h2 := R.room
  unfold SetTable.fits SetTable.fill
  rw [R.tab.dm, Bool.and_eq_true, beq_iff_eq, decide_eq_true_eq]
  exact ⟨h1, by show t.place.size + 0 ≤ t.mask; omega⟩
theorem TbR.steady (R : TbR w s.heap a es ep t) : ¬ t.gaveWay = true := by
  unfold SetTable.gaveWay
  rw [mask_odd R.tab.mok]
  decide
abbrev startAt (m : Nat) (g : Int) : SetTable.Probe := runAt m (SetTable.bits g % (m + 1)) (SetTable.bits g)
theorem nth_dummy (m : Nat) : ∀ (n : Nat) (p : SetTable.Probe), p.dummy = none → (nth m p n).dummy = none
  | 0, p, h => h
  | n + 1, p, h => nth_dummy m n (adv m p) (by
    unfold adv
    split <;> exact h)
/-- the search from the c-th step on: met, or the first empty slot -/
theorem find_from (R : TbR w s.heap a es ep t) {x : Value} {k : NestedKey} (hx : KeyV s.heap x k) (hu : A.units + 8 < cLine) {g : Int} (hg : g = k.hash w) {K : Nat} (far : K < 10 * SetTable.turns t.mask) (empty : way t.mask g K ∉ t.place.toList) (full : ∀ c, c < K → way t.mask g c ∈ t.place.toList)
    {Q : SetFound → Shared → Prop} (met : Q (.there none) s) (free : Q (.free (way t.mask g K) false) s) : ∀ (f c : Nat) (st : Option SetTable.Probe), st.getD (t.probeStart g) = nth t.mask (startAt t.mask g) c → c ≤ K → K - c < f → wpAny (model P w) A (setSearchFrom a x g true f st) Q E s
  | 0, c, st, _, _, hf => absurd hf (Nat.not_lt_zero _)
  | f + 1, c, st, hst, hc, hf => by
    obtain ⟨o, ho, hex, hd⟩ := R.ob
    rw [setSearchFrom_succ]
    refine wpAny_bind (wpAny_setState_of ho hd R.fits ?_)
    dsimp only
    refine wp_if_neg R.steady ?_
    try refine wpAny_bind (wpAny_pure ?_)
    have shift : ∀ q, nth t.mask (nth t.mask (startAt t.mask g) c) q = nth t.mask (startAt t.mask g) (c + q) := fun q => (nth_add t.mask c _ q).symm
    have slotAt : ∀ q, (nth t.mask (nth t.mask (startAt t.mask g) c) q).j = way t.mask g (c + q) := fun q => congrArg SetTable.Probe.j (shift q)
    rcases go_spec t R.tab.ris R.tab.dm (fun i => (es[i]?.map (·.1)).getD 0) g (10 * SetTable.turns t.mask) (K - c) _ (nth_dummy t.mask c (startAt t.mask g) rfl) (by omega) (fun q hq => by rw [slotAt]; exact full (c + q) (by omega)) (by rw [slotAt, show c + (K - c) = K by omega]; exact empty) with ⟨q, i, hq, hi, _, _, pr⟩ | ⟨_, pr⟩
    · have pr2 : t.probe (fun i => (es[i]?.map (·.1)).getD 0) g (st.getD (t.probeStart g)) = some (.candidate (way t.mask g (c + q)) i (nth t.mask (startAt t.mask g) (c + (q + 1)))) := by
        rw [hst, ← slotAt, ← shift]
        exact pr
      rw [pr2]
      dsimp only
      rw [slotAt] at hi
      have hil : i < es.size := by
        have := (List.getElem?_eq_some_iff.mp hi).1
        rw [Array.length_toList, R.psz] at this
        exact this
      obtain ⟨e, he⟩ : ∃ e, es[i]? = some e := ⟨_, Array.getElem?_eq_getElem hil⟩
      obtain ⟨g1, y⟩ := e
      have hmem : (g1, y) ∈ es.toList := by
        rw [← Array.getElem?_toList] at he
        exact List.mem_of_getElem? he
      obtain ⟨j, hj, _⟩ := R.key _ hmem
      obtain ⟨j1, j2, yb, ey⟩ := hj
      obtain ⟨k1, k2, xb, ex⟩ := hx
      have ey : y = .ref yb := ey
      subst ey ex
      have go : wpAny (model P w) A (searchRest a (.ref xb) g true f es t (way t.mask g (c + q)) i (nth t.mask (startAt t.mask g) (c + (q + 1)))) Q E s := by
        unfold searchRest
        rw [he]
        dsimp only
        refine wpAny_bind (wpAny_holding ((nestedKind P w).eqBool hu ⟨j1, by omega⟩ ⟨k1, by omega⟩ ?_))
        refine wpAny_bind (wpAny_setState_of ho hd R.fits ?_)
        dsimp only
        by_cases eq : j = k
        · refine wp_if_pos (by simp [eq]) ?_
          exact wpAny_pure met
        · refine wp_if_neg (by simp [eq]) ?_
          try refine wpAny_bind (wpAny_pure ?_)
          rw [L2.sameMem]
          dsimp only
          have sl : t.slot (way t.mask g (c + q)) = .live i := slot_live R.tab.ris hi
          simp only [if_true, sl, he]
          refine wpAny_bind (wpAny_isSame_ref_self (wpAny_bind (wpAny_pure ?_)))
          simp only [if_true]
          refine wp_if_neg (by simp [eq]) ?_
          exact find_from R ⟨k1, k2, xb, rfl⟩ hu hg far empty full met free f (c + (q + 1)) _ rfl (by omega) (by omega)
      by_cases hl : t.led = true
      · refine wp_if_neg (by simp [hl]) ?_
        try refine wpAny_bind (wpAny_pure ?_)
        exact go
      · refine wp_if_pos (by simp [hl]) ?_
        refine wpAny_bind (seen_key ⟨k1, k2, xb, rfl⟩ (fun v hv => ?_) A E _ ?_)
        · obtain ⟨e2, he2, ev⟩ := List.mem_map.mp hv
          have m2 : e2 ∈ es.toList := by
            have : e2 ∈ es ∧ e2.1 = g := by simpa using he2
            simpa using this.1
          obtain ⟨j', hj', _⟩ := R.key e2 m2
          exact ⟨j', ev ▸ hj'⟩
        · refine wp_if_neg (by decide) ?_
          try refine wpAny_bind (wpAny_pure ?_)
          exact go
    · have pr2 : t.probe (fun i => (es[i]?.map (·.1)).getD 0) g (st.getD (t.probeStart g)) = some (.empty (way t.mask g K) none) := by
        have : way t.mask g K = (nth t.mask (nth t.mask (startAt t.mask g) c) (K - c)).j := by rw [slotAt, show c + (K - c) = K by omega]
        rw [hst, this]
        exact pr
      rw [pr2]
      dsimp only
      exact wpAny_pure free
theorem find_at (R : TbR w s.heap a es ep t) {x : Value} {k : NestedKey} (hx : KeyV s.heap x k) (hu : A.units + 8 < cLine) {Q : SetFound → Shared → Prop} (met : Q (.there none) s)
    (free : ∀ K, way t.mask (k.hash w) K ∉ t.place.toList → (∀ c, c < K → way t.mask (k.hash w) c ∈ t.place.toList) → Q (.free (way t.mask (k.hash w) K) false) s) : wpAny (model P w) A (setSearch a x (k.hash w) true) Q E s := by
  have room := R.room
  obtain ⟨K, far, empty, full⟩ := R.tab.first (by rw [List.length_map, Array.length_toList]; omega) (k.hash w)
  have small : K < 100000 := by
    have : 10 * SetTable.turns t.mask ≤ 1420 := by
      unfold SetTable.turns
      rcases R.tab.mok with e | e | e <;> omega
    omega
  unfold setSearch
  exact find_from R hx hu rfl far empty full met (free K empty full) 100000 0 none rfl (Nat.zero_le _) (by omega)
end
end Ev
namespace Ev
open PySem PySem.Spec PyProof.Rows L2 Evl
theorem fm_map {es : Array (Int × Value)} : ∀ {l : List Nat}, (∀ i ∈ l, i < es.size) → (l.filterMap fun i => es[i]?).map (·.1) = l.map fun i => (es.map (·.1)).getD i 0
  | [], _ => rfl
  | i :: l, h => by
    have hi := h i List.mem_cons_self
    rw [List.filterMap_cons_some (Array.getElem?_eq_getElem hi), List.map_cons, List.map_cons, fm_map fun j hj => h j (List.mem_cons_of_mem _ hj)]
    have e : (es.map (·.1)).getD i 0 = es[i].1 := by
      have : (es.map (·.1))[i]? = some es[i].1 := by rw [Array.getElem?_map, Array.getElem?_eq_getElem hi] <;> rfl
      simp [Array.getD_eq_getD_getElem?, this]
    rw [e]
theorem fm_range {α : Type} : ∀ (l : List α), (List.range l.length).filterMap (fun i => l[i]?) = l
  | [] => rfl
  | x :: l => by
    rw [List.length_cons, List.range_succ_eq_map, List.filterMap_cons_some (f := fun i => (x :: l)[i]?) (a := 0) (b := x) rfl, List.filterMap_map]
    have : ((fun i => (x :: l)[i]?) ∘ Nat.succ) = fun i => l[i]? := by
      funext i
      simp
    rw [this, fm_range l]
section
variable {P : Program} {w : World} {A : Around} {E : Value → Shared → Prop} {s : Shared} {a : Addr} {es : Array (Int × Value)} {ep : Nat} {t : SetTable}
theorem KeyV.same {h h' : Heap} {v : Value} {k : NestedKey} {o : Obj} (x : KeyV h v k) (ho : h.get? a = some o) (hd : o.data = .set es ep t) (hs : Heap.SameBut a h h') : KeyV h' v k := ⟨NestedIs.at (fun b u vs n hb hc => by
  refine (hs.2 b fun e => ?_).trans hb
  subst e
  rw [ho] at hb
  cases hb
  rw [hd] at hc
  cases hc) k v x.1, x.2⟩
/-- the table laid anew -/
theorem relay_row {o : Obj} (ho : s.heap.get? a = some o) (hex : o.ExactSet) (hd : o.data = .set es ep t) (hsz : t.place.size = es.size) (hdm : t.dummies = #[]) (hfl : es.size ≤ t.mask) (key : ∀ e ∈ es.toList, ∃ k, KeyV s.heap e.2 k ∧ e.1 = k.hash w)
    (ld : w.params.followText "set-order" = true ∨ t.led = true) (few : es.size < 64) {wanted m : Nat} (hw : SetTable.sizeAbove wanted - 1 = m) (hm : MaskOk m) (hw2 : SetTable.sizeAbove wanted ≤ 128) (hn : es.size * 5 < m * 3) {Q : Unit → Shared → Prop}
    (hQ : ∀ h' es' ep' t', Heap.SameBut a s.heap h' → TbR w h' a es' ep' t' → es'.toList.Perm es.toList → Q () { s with heap := h' }) : wpAny (model P w) A (setRelay a wanted) Q E s := by
  have hfits : t.fits es.size = true := by
    unfold SetTable.fits SetTable.fill
    rw [hdm, Bool.and_eq_true, beq_iff_eq, decide_eq_true_eq]
    exact ⟨hsz, by show t.place.size + 0 ≤ t.mask; omega⟩
  obtain ⟨t2, order, e, hp, T, em, el, _, _⟩ := relaid_ok t (hs := es.map (·.1)) (wanted := wanted) hw hm (by rw [Array.size_map]; omega)
  rw [Array.size_map] at hp
  have inn : ∀ i ∈ order.toList, i < es.size := fun i hi => List.mem_range.mp (hp.mem_iff.mp hi)
  have el2 : (order.filterMap (es[·]?)).toList = order.toList.filterMap fun i => es[i]? := by
    first
      | exact Array.toList_filterMap
      | simp
  have pm : (order.filterMap (es[·]?)).toList.Perm es.toList := by
    rw [el2]
    refine (hp.filterMap _).trans ?_
    have := fm_range es.toList
    rw [Array.length_toList] at this
    have e2 : (fun (i : Nat) => es[i]?) = fun (i : Nat) => es.toList[i]? := by
      funext i
      rw [Array.getElem?_toList]
    rw [e2, this]
  have hs2 : (order.filterMap (es[·]?)).size = es.size := by
    have := pm.length_eq
    rw [Array.length_toList, Array.length_toList] at this
    exact this
  have T2 : TabOk t2 ((order.filterMap (es[·]?)).toList.map (·.1)) := by
    rw [el2, fm_map inn]
    exact T
  rw [L2.setRelay_eq]
  refine wpAny_bind (wpAny_setState_of ho hd hfits ?_)
  dsimp only
  refine wp_if_neg (by rw [sizeLine_eq]; omega) ?_
  try refine wpAny_bind (wpAny_pure ?_)
  rw [e]
  dsimp only
  refine wpAny_bind ?_
  refine wp_if_neg (by rw [hs2]; simp) ?_
  try refine wpAny_bind (wpAny_pure ?_)
  refine wpAny_pure ?_
  dsimp only
  refine wpAny_storeSet_of ho hd ?_ (by rw [hs2, sizeLine_eq]; omega)
  have sb : Heap.SameBut a s.heap (s.heap.update a (Obj.putSet (order.filterMap (es[·]?)) t2)) := Heap.SameBut.update ..
  exact hQ _ (order.filterMap (es[·]?)) (ep + 1) t2 sb ⟨⟨_, store_at ho hd, ⟨hex.1, hex.2.1, hex.2.2⟩, rfl⟩, T2, fun u hu => by
    obtain ⟨k, k1, k2⟩ := key u (pm.mem_iff.mp hu)
    exact ⟨k, k1.same ho hd sb, k2⟩, by rw [el]; exact ld, by rw [hs2, em]; exact hn, by rw [hs2]; exact few⟩ pm
theorem TabOk.unplain {t : SetTable} {hs : List Int} (T : TabOk t hs) (b : Bool) : TabOk (if b = true then t else { t with plain := false }) hs := by
  cases b with
  | true => exact T
  | false => exact ⟨T.ris, T.dm, T.sz, T.mok, T.bd, T.reach⟩
/-- one row more, or none -/
theorem put_row (R : TbR w s.heap a es ep t) {x : Value} {k : NestedKey} (hx : KeyV s.heap x k) (hu : A.units + 8 < cLine) (hfew : es.size + 1 < 64) {Q : Bool → Shared → Prop}
    (hQ : ∀ b h' es' ep' t', Heap.SameBut a s.heap h' → TbR w h' a es' ep' t' → (∀ e ∈ es'.toList, e ∈ es.toList ∨ e = (k.hash w, x)) → es'.size ≤ es.size + 1 → Q b { s with heap := h' }) : wpAny (model P w) A (setAddHashed a x (k.hash w)) Q E s := by
  obtain ⟨o, ho, hex, hd⟩ := R.ob
  have room := R.room
  have hx0 := hx
  obtain ⟨x1, x2, xb, rfl⟩ := hx
  unfold setAddHashed
  refine wpAny_holding ?_
  rw [show (100000 : Nat) = 99999 + 1 from rfl, L2.setAddHashedIn_succ]
  refine wpAny_bind (wpAny_setState_of ho hd R.fits ?_)
  dsimp only
  refine wp_if_neg (by simp [byScan, Value.scannable]) ?_
  try refine wpAny_bind (wpAny_pure ?_)
  refine wpAny_bind (find_at R hx0 hu ?_ fun K empty full => ?_)
  · dsimp only
    exact wpAny_pure (hQ false s.heap es ep t (Heap.SameBut.refl a s.heap) R (fun e he => .inl he) (Nat.le_succ _))
  dsimp only
  refine wpAny_bind (wpAny_setState_of ho hd R.fits ?_)
  dsimp only
  obtain ⟨q1, q2, q3, q4, q5, q6, q7, q8, q9⟩ := R.tab.put empty full
  rw [← List.map_take, ← List.map_drop] at q3
  have hrow : (es.toList.take (SetTable.below t.place (way t.mask (k.hash w) K)) ++ (k.hash w, Value.ref xb) :: es.toList.drop (SetTable.below t.place (way t.mask (k.hash w) K))).map (·.1) = (es.toList.take (SetTable.below t.place (way t.mask (k.hash w) K))).map (·.1) ++ k.hash w :: (es.toList.drop (SetTable.below t.place (way t.mask (k.hash w) K))).map (·.1) := by
    rw [List.map_append, List.map_cons]
  rw [← hrow] at q3
  rw [List.length_map, Array.length_toList] at q9
  generalize t.put (way t.mask (k.hash w) K) = pt at q1 q3 q4 q5 q9 ⊢
  obtain ⟨t1, p⟩ := pt
  dsimp only at q1 q3 q4 q5 q9 ⊢
  subst q1
  have byV : ∃ b : Bool, ∀ rest : Bool → Sem Bool, wpAny (model P w) A (rest b) Q E s → wpAny (model P w) A (if t1.plain = true then hashByValue 8 (.ref xb) >>= rest else pure true >>= rest) Q E s := by
    by_cases pl : t1.plain = true
    · exact ⟨hbv k, fun rest q => wp_if_pos pl (wpAny_bind (hbv_key k _ 8 s x1 (by omega) A E _ q))⟩
    · exact ⟨true, fun rest q => wp_if_neg pl (wpAny_bind (wpAny_pure q))⟩
  obtain ⟨b, hb⟩ := byV
  refine hb _ ?_
  have hin : (SetTable.insertAt es (SetTable.below t.place (way t.mask (k.hash w) K)) (k.hash w, Value.ref xb)).toList = es.toList.take (SetTable.below t.place (way t.mask (k.hash w) K)) ++ (k.hash w, Value.ref xb) :: es.toList.drop (SetTable.below t.place (way t.mask (k.hash w) K)) := SetTable.toList_insertAt ..
  generalize SetTable.below t.place (way t.mask (k.hash w) K) = p at q2 q3 hin ⊢
  generalize SetTable.insertAt es p (k.hash w, Value.ref xb) = es1 at hin ⊢
  rw [← hin] at q3
  have mem1 : ∀ e, e ∈ es1.toList → e ∈ es.toList ∨ e = (k.hash w, Value.ref xb) := fun e he => by
    rw [hin] at he
    rcases List.mem_append.mp he with m | m
    · exact .inl (List.mem_of_mem_take m)
    · rcases List.mem_cons.mp m with m | m
      · exact .inr m
      · exact .inl (List.mem_of_mem_drop m)
  have sz1 : es1.size = es.size + 1 := by
    have := congrArg List.length hin
    rw [Array.length_toList, List.length_append, List.length_cons, List.length_take, List.length_drop, Array.length_toList] at this
    rw [List.length_map, Array.length_toList] at q2
    omega
  have q3 := TabOk.unplain q3 b
  have q4 : (if b = true then t1 else { t1 with plain := false }).mask = t.mask := by cases b <;> exact q4
  have q5 : (if b = true then t1 else { t1 with plain := false }).led = t.led := by cases b <;> exact q5
  have q9 : (if b = true then t1 else { t1 with plain := false }).fill = es.size + 1 := by cases b <;> exact q9
  generalize (if b = true then t1 else { t1 with plain := false }) = t2 at q3 q4 q5 q9 ⊢
  refine wpAny_bind (wpAny_storeSet_of ho hd ?_ (by rw [sz1, sizeLine_eq]; omega))
  have sb : Heap.SameBut a s.heap (s.heap.update a (Obj.putSet es1 t2)) := Heap.SameBut.update ..
  have ho1 := store_at (es' := es1) (t' := t2) ho hd
  generalize s.heap.update a (Obj.putSet es1 t2) = h1 at sb ho1 ⊢
  have key1 : ∀ e ∈ es1.toList, ∃ j, KeyV h1 e.2 j ∧ e.1 = j.hash w := fun e he => by
    rcases mem1 e he with m | m
    · obtain ⟨j, j1, j2⟩ := R.key e m
      exact ⟨j, j1.same ho hd sb, j2⟩
    · subst m
      exact ⟨k, hx0.same ho hd sb, rfl⟩
  have ld1 : w.params.followText "set-order" = true ∨ t2.led = true := by rw [q5]; exact R.led
  by_cases hf : t2.tooFull = true
  · have hfull : (es.size + 1) * 5 ≥ t2.mask * 3 := by
      have h := hf
      unfold SetTable.tooFull at h
      rw [decide_eq_true_eq, q9] at h
      exact h
    have psz : t2.place.size = es1.size := by
      have := q3.sz
      rw [List.length_map, Array.length_toList] at this
      exact this
    have two : (t.mask = 7 ∧ es.size = 4) ∨ (t.mask = 31 ∧ es.size = 18) := by
      rcases R.tab.mok with e | e | e
      · left; rw [q4, e] at hfull; rw [e] at room; exact ⟨e, by omega⟩
      · right; rw [q4, e] at hfull; rw [e] at room; exact ⟨e, by omega⟩
      · exfalso; rw [q4, e] at hfull; omega
    have again_ : ∀ m, SetTable.sizeAbove (SetTable.grown (es.size + 1)) - 1 = m → MaskOk m → SetTable.sizeAbove (SetTable.grown (es.size + 1)) ≤ 128 → (es.size + 1) * 5 < m * 3 →
        wpAny (model P w) A (setRelay a (SetTable.grown (es.size + 1))) (fun _ s' => wpAny (model P w) A (pure true) Q E s') E { s with heap := h1 } := fun m c1 c2 c3 c4 =>
      relay_row (s := { s with heap := h1 }) ho1 ⟨hex.1, hex.2.1, hex.2.2⟩ rfl psz q3.dm (by rw [sz1, q4]; rcases two with ⟨e, e2⟩ | ⟨e, e2⟩ <;> omega) key1 ld1 (by rw [sz1]; exact hfew) c1 c2 c3 (by rw [sz1]; exact c4) fun h2 es2 ep2 t3 sb2 R2 pm2 =>
        wpAny_pure (hQ true h2 es2 ep2 t3 (sb.trans sb2) R2 (fun e he => mem1 e (pm2.mem_iff.mp he)) (by
          have := pm2.length_eq
          rw [Array.length_toList, Array.length_toList] at this
          omega))
    first
      | (refine wpAny_bind ?_; refine wp_if_pos (by simp [hf]) ?_)
      | (refine wp_if_pos (by simp [hf]) ?_; refine wpAny_bind ?_)
    rcases two with ⟨_, e2⟩ | ⟨_, e2⟩
    · exact again_ 31 (by rw [e2, size_20]) (.inr (.inl rfl)) (by rw [e2, size_20]; decide) (by omega)
    · exact again_ 127 (by rw [e2, size_76]) (.inr (.inr rfl)) (by rw [e2, size_76]; decide) (by omega)
  · first
      | refine wp_if_neg (by simp [hf]) ?_
      | (refine wpAny_bind ?_; refine wp_if_neg (by simp [hf]) ?_; refine wpAny_pure ?_)
    refine wpAny_pure (hQ true h1 es1 (ep + 1) t2 sb ⟨⟨_, ho1, ⟨hex.1, hex.2.1, hex.2.2⟩, rfl⟩, q3, key1, ld1, ?_, by rw [sz1]; exact hfew⟩ mem1 (by omega))
    have h := hf
    unfold SetTable.tooFull at h
    rw [decide_eq_true_eq, q9] at h
    omega
end
end Ev
namespace Ev
open PySem PySem.Spec PyProof.Rows L2 Evl
section
variable {P : Program} {w : World} {A : Around} {E : Value → Shared → Prop} {s : Shared}
theorem KeyV.grow {h h' : Heap} {v : Value} {k : NestedKey} (x : KeyV h v k) (g : ∀ b o, h.get? b = some o → h'.get? b = some o) : KeyV h' v k := ⟨NestedIs.at (fun b u vs n hb _ => g b u hb) k v x.1, x.2⟩
theorem TbR.grow {h h' : Heap} {a : Addr} {es : Array (Int × Value)} {ep : Nat} {t : SetTable} (R : TbR w h a es ep t) (ga : ∀ o, h.get? a = some o → h'.get? a = some o) (gk : ∀ e ∈ es.toList, ∃ k, KeyV h' e.2 k ∧ e.1 = k.hash w) : TbR w h' a es ep t := by
  obtain ⟨o, ho, r⟩ := R.ob
  exact ⟨⟨o, ga o ho, r⟩, R.tab, gk, R.led, R.room, R.few⟩
def emptySet (w : World) : Obj := { cls := .type "set", dict := none, data := .set #[] 0 (.fresh 0 0 (!w.params.followText "set-order")) }
theorem tbR_empty {h : Heap} {a : Addr} (ho : h.get? a = some (emptySet w)) : TbR w h a #[] 0 (.fresh 0 0 (!w.params.followText "set-order")) where
  ob := ⟨_, ho, ⟨rfl, rfl, rfl⟩, rfl⟩
  tab := ⟨List.Pairwise.nil, rfl, rfl, .inl rfl, fun x hx => (by cases hx), fun i h j hi => (by simp at hi)⟩
  key := fun e he => (by simp at he)
  led := by
    show _ ∨ (!w.params.followText "set-order") = true
    cases w.params.followText "set-order"
    · exact .inr rfl
    · exact .inl rfl
  room := by
    show 0 * 5 < 7 * 3
    decide
  few := by
    show 0 < 64
    decide
/-- every item goes in -/
theorem fill_loop {I : Addr} {fp wr : List Addr} {G : Array GenState → Array GenState → Prop} {n : Nat} {Pv : Nat → Value → Prop} {St : Nat → Shared → Prop} {R : Result → Shared → Prop} (W : WalksS P w A.in1 I fp wr G n Pv St) (S : Addr) (hSf : S ∉ fp) (vs : List Value) (few : n < 64)
    (hval : ∀ i v, Pv i v → v ∈ vs) (h0 : Heap) (hk : ∀ v ∈ vs, ∃ k, KeyV h0 v k) (hS0 : h0.get? S = none) (hw0 : ∀ b ∈ wr, h0.get? b = none) (hu : A.in1.units + 8 < cLine) :
    ∀ (left i : Nat) (s : Shared), n - i = left → i ≤ n → St i s → (∀ b o, h0.get? b = some o → s.heap.get? b = some o) → (∃ es ep t, TbR w s.heap S es ep t ∧ (∀ e ∈ es.toList, e.2 ∈ vs) ∧ es.size ≤ i) →
      (∀ s' es ep t, Moved (S :: wr) G s s' → TbR w s'.heap S es ep t → (∀ e ∈ es.toList, e.2 ∈ vs) → es.size ≤ n → (∀ b o, h0.get? b = some o → s'.heap.get? b = some o) → R (.ok (.ret .none)) s') → codeAny (model P w) A (.builtin "set.update.loop" ⟨[.ref S, .ref I], []⟩) R s := by
  have apart : S ∉ wr := fun m => hSf (W.sub _ m)
  have more : ∀ b ∈ wr, b ∈ S :: wr := fun b hb => List.mem_cons_of_mem _ hb
  have stays : ∀ {s1 s2 : Shared}, Moved wr G s1 s2 → (∀ b o, h0.get? b = some o → s1.heap.get? b = some o) → ∀ b o, h0.get? b = some o → s2.heap.get? b = some o := fun m g b o e =>
    m.heap b o (fun hb => by rw [hw0 b hb] at e; cases e) (g b o e)
  intro left
  induction left with
  | zero =>
    intro i s hl hi hst g ⟨es, ep, t, T, sub, sz⟩ fin
    have ei : i = n := by omega
    subst ei
    refine codeAny_builtin F.entry_set_update_loop ?_
    rw [Around.under_plainId F.plain_set_update_loop _]
    show wpAny _ A.in1 (pyNext (.ref I) >>= _) _ _ s
    refine wpAny_bind (W.done s _ _ hst fun s2 m => ?_)
    show wpAny _ A.in1 (ret Value.none) _ _ s2
    have g2 := stays m g
    exact wpAny_pure (fin s2 es ep t (m.mono more) (T.grow (fun o e => m.heap S o apart e) fun e he => by
      obtain ⟨k, k1⟩ := hk _ (sub e he)
      obtain ⟨j, j1, j2⟩ := T.key e he
      have := NestedIs.inj _ _ _ j1.1 (k1.grow g).1
      exact ⟨k, k1.grow g2, by rw [j2, this]⟩) sub sz g2)
  | succ left ih =>
    intro i s hl hi hst g ⟨es, ep, t, T, sub, sz⟩ fin
    have lt : i < n := by omega
    refine codeAny_builtin F.entry_set_update_loop ?_
    rw [Around.under_plainId F.plain_set_update_loop _]
    show wpAny _ A.in1 (pyNext (.ref I) >>= _) _ _ s
    refine wpAny_bind (W.item i s _ _ lt hst fun v s2 hP hst2 m => ?_)
    have g2 := stays m g
    have T2 : TbR w s2.heap S es ep t := T.grow (fun o e => m.heap S o apart e) fun e he => by
      obtain ⟨k, k1⟩ := hk _ (sub e he)
      obtain ⟨j, j1, j2⟩ := T.key e he
      have := NestedIs.inj _ _ _ j1.1 (k1.grow g).1
      exact ⟨k, k1.grow g2, by rw [j2, this]⟩
    have hm := hval i v hP
    obtain ⟨k, k0⟩ := hk v hm
    have kv := k0.grow g2
    show wpAny _ A.in1 (holding [v] (setAdd S v) >>= _) _ _ s2
    refine wpAny_bind (wpAny_holding ?_)
    unfold setAdd
    refine wpAny_holding ?_
    refine wpAny_bind (pyHash_key k v A.in1 s2 _ kv.1 (by have := kv.2.1; omega) ?_)
    refine put_row (s := { s2 with toks := s2.toks + k.draws }) T2 kv hu (by omega) fun b h' es2 ep2 t2 sb T3 sub2 sz2 => ?_
    have g3 : ∀ b o, h0.get? b = some o → h'.get? b = some o := fun b o e => (sb.2 b (fun z => by rw [z, hS0] at e; cases e)).trans (g2 b o e)
    have sub3 : ∀ e ∈ es2.toList, e.2 ∈ vs := fun e he => by
      rcases sub2 e he with m2 | m2
      · exact sub e m2
      · subst m2
        exact hm
    refine wpAny_pure ⟨plainId_quiet F.plain_set_update_loop _, ih (i + 1) _ (by omega) lt (W.frame _ s2 _ _ hst2 (Nat.le_add_right _ _) fun b hb o e => ?_) g3 ⟨es2, ep2, t2, T3, sub3, by omega⟩ fun s4 es4 ep4 t4 m4 T4 sub4 sz4 g4 => ?_⟩
    · rw [sb.2 b (fun z : b = S => hSf (by rw [← z]; exact hb))]
      exact e
    · refine fin s4 es4 ep4 t4 (Moved.trans W.gtrans ((m.mono more).then_heap (Nat.le_add_right _ _) fun b o hb e => ?_) m4) T4 sub4 sz4 g4
      rw [sb.2 b (fun z : b = S => hb (by rw [z]; exact List.mem_cons_self))]
      exact e
end
end Ev
namespace Ev
open PySem PySem.Spec PyProof.Rows L2 Evl
section
variable {P : Program} {w : World} {A : Around} {E : Value → Shared → Prop} {s : Shared}
/-- set(xs), xs a list of keys -/
theorem call_set_keys {l : Addr} {items : Array Value} {Q : Value → Shared → Prop} (calm : A.handled = none) (hl : s.heap.IsList l items) (keys : ∀ v ∈ items.toList, ∃ k, KeyV s.heap v k) (few : items.size < 64) (hu : A.units + 16 < cLine)
    (fin : ∀ (h' : Heap) (tk : Nat) es ep t, TbR w h' s.heap.objs.size es ep t → (∀ e ∈ es.toList, e.2 ∈ items.toList) → es.size ≤ items.size → (∀ b o, s.heap.get? b = some o → h'.get? b = some o) → Q (.ref s.heap.objs.size) { s with heap := h', toks := tk }) :
    wpAny (model P w) A (call (.type "set") [.ref l]) Q E s := by
  obtain ⟨c, tl, hmro⟩ := F.called_set.mro
  have hmade := F.called_set.made
  have hsub := F.called_set.sub
  refine wpAny_call (codeAny_of_tree ?_)
  show wpAny _ _ (callAny (.type "set") _) _ _ _
  refine wpAny_pure ⟨Code.quiet_builtin _ (by decide +kernel), codeAny_builtin F.entry_type_call ?_⟩
  rw [Around.under_plain (weight_type_call_type "set" [.ref l] []) rfl]
  have h1 := F.called_set.notType
  have h2 := F.called_set.canCreate
  have hct := F.typeCall_set_1 (.ref l)
  repeat (any_goals (first | assumption | wp_step))
  refine codeAny_mono (code_set_led1 (.ref l) (E := E) (Q₁ := fun v s1 => v = .ref s.heap.objs.size ∧ s1 = { s with heap := s.heap.push (emptySet w) }) ⟨rfl, rfl⟩) fun r s1 hr => ?_
  cases r with
  | error e => exact hr
  | ok fl =>
    cases fl with
    | ret obj =>
      obtain ⟨rfl, rfl⟩ := hr
      have hS : (s.heap.push (emptySet w)).get? s.heap.objs.size = some (emptySet w) := Heap.get?_push_size _ rfl
      have hT : Shared.TypeIs { s with heap := s.heap.push (emptySet w) } (.ref s.heap.objs.size) "set" := ⟨_, hS, rfl⟩
      have hli := F.called_set.init.lookup
      have hbi := F.called_set.init.bind (.ref s.heap.objs.size)
      repeat (any_goals (first | assumption | wp_step))
      refine codeAny_mono (codeAny_call_builtin (R := wants (fun r s2 => r = .none ∧ ∃ h' tk es ep t, s2 = { s with heap := h', toks := tk } ∧ TbR w h' s.heap.objs.size es ep t ∧ (∀ e ∈ es.toList, e.2 ∈ items.toList) ∧ es.size ≤ items.size ∧ (∀ b o, s.heap.get? b = some o → h'.get? b = some o)) E)
        F.called_set.init.plain F.entry_set_init (check_set_init_1 hT ?_)) fun r2 s2 hr2 => ?_
      · obtain ⟨ol, hol, hcl, nl, hdl⟩ := hl
        obtain ⟨ocls, odict, odata, oslots⟩ := ol
        simp only at hcl hdl
        subst hcl; subst hdl
        have hol2 : (s.heap.push (emptySet w)).get? l = some { cls := .type "list", dict := odict, data := .seq items nl, slots := oslots } := Heap.get?_push_of_some _ hol
        have hsls := F.sub_list_set
        have hslf := F.sub_list_frozenset
        have hne : (Value.type "list" == Value.type "dict") = false := by decide
        have hl1 : (s.heap.push (emptySet w)).IsList l items := ⟨_, hol2, rfl, nl, rfl⟩
        unfold Builtin.«set.__init__» noKeywords Builtin.Frozenset.updateFrom
        generalize hPI : pyIter = PI
        wp_walk
        subst hPI
        refine wpAny_pyIter_list hl1 ?_
        refine wpAny_bind (wpAny_runValue ?_)
        have hlS : l < s.heap.objs.size := Heap.lt_size hol
        have calm3 : A.in1.in1.in1.handled = none := by simp [calm]
        have hneI : l ≠ (s.heap.push (emptySet w)).objs.size := by
          rw [Heap.size_push]
          exact Nat.ne_of_lt (Nat.lt_succ_of_lt hlS)
        have hSf : s.heap.objs.size ∉ [(s.heap.push (emptySet w)).objs.size, l] := by
          rw [Heap.size_push]
          simp only [List.mem_cons, List.mem_singleton, List.not_mem_nil, or_false, not_or]
          exact ⟨Nat.ne_of_lt (Nat.lt_succ_self _), Nat.ne_of_gt hlS⟩
        have nothing : ∀ b, s.heap.objs.size ≤ b → s.heap.get? b = none := fun b hb => by
          cases q : s.heap.get? b with
          | none => rfl
          | some o => exact absurd (Nat.lt_of_lt_of_le (Heap.lt_size q) hb) (Nat.lt_irrefl _)
        refine fill_loop ((Walks.list calm3 _ l hneI items).toS) s.heap.objs.size hSf items.toList few (fun i v hv => by
            have : items.toList[i]? = some v := by rw [Array.getElem?_toList]; exact hv
            exact List.mem_of_getElem? this) s.heap keys (nothing _ (Nat.le_refl _)) (fun b hb => nothing b (by
            rw [List.mem_singleton.mp hb, Heap.size_push]
            exact Nat.le_succ _)) (by
            simp only [Around.in1_units]
            omega) (items.size - 0) 0 _ (by omega) (Nat.zero_le _)
          ⟨⟨_, Heap.get?_push_size _ rfl, rfl, rfl⟩, (hl1.push _)⟩ (fun b o e => Heap.get?_push_of_some _ (Heap.get?_push_of_some _ e)) ?hS0 ?hR
        case hS0 =>
          exact ⟨#[], 0, _, tbR_empty (Heap.get?_push_of_some _ hS), fun e he => (by simp at he), Nat.le_refl _⟩
        case hR =>
          intro s' es ep t hm hS' sub sz g
          obtain ⟨h', g2, d', tk', os'⟩ := s'
          have eg : g2 = s.gens := hm.gens
          have ed : d' = s.drawn := hm.drawn
          have eo : os' = s.os := hm.os
          subst eg; subst ed; subst eo
          show wpAny _ _ _ _ _ _
          refine wpAny_pure ?_
          show wpAny _ _ (ret Value.none) _ _ _
          exact wpAny_pure ⟨rfl, h', tk', es, ep, t, rfl, hS', sub, sz, g⟩
      · cases r2 with
        | error e => exact hr2
        | ok fl2 =>
          cases fl2 with
          | ret r =>
            obtain ⟨rfl, h', tk, es, ep, t, rfl, hS', sub, sz, g⟩ := hr2
            repeat (any_goals (first | assumption | wp_step))
            exact fin _ _ _ _ _ hS' sub sz g
          | _ => exact hr2.elim
    | _ => exact hr.elim
end
end Ev
namespace Ev
open PySem PySem.Spec PyProof.Rows L2 Evl
/-! ### data that can be keys -/
mutual
def keyOk : PyData → Bool
  | .int _ => true
  | .str _ => true
  | .tuple ds => keysOk ds
  | _ => false
def keysOk : List PyData → Bool
  | [] => true
  | d :: ds => keyOk d && keysOk ds
end
mutual
def nk : PyData → NestedKey
  | .int i => .num i
  | .str x => .text x
  | .tuple ds => .tup (nks ds)
  | _ => .none
def nks : List PyData → List NestedKey
  | [] => []
  | d :: ds => nk d :: nks ds
end
mutual
theorem nk_reads {h : Heap} : ∀ (d : PyData) (v : Value) (as : List Addr), keyOk d = true → Reads h v d as → NestedIs h (nk d) v
  | .int i, _, _, _, r => by
    cases r
    exact .int _ _
  | .str x, _, _, _, r => by
    cases r
    exact .text _ _
  | .tuple ds, _, _, k, r => by
    cases r with
    | tuple h1 h2 h3 h4 =>
      rw [keyOk] at k
      exact .tup h1 h2 h3 (nks_reads ds _ _ k h4)
  | .none, _, _, k, _ => by cases k
  | .bool _, _, _, k, _ => by cases k
  | .list _, _, _, k, _ => by cases k
  | .dict _, _, _, k, _ => by cases k
theorem nks_reads {h : Heap} : ∀ (ds : List PyData) (vs : List Value) (as : List Addr), keysOk ds = true → ReadsAll h vs ds as → NestedAll h (nks ds) vs
  | [], _, _, _, r => by
    cases r
    exact .nil
  | d :: ds, _, _, k, r => by
    rw [keysOk, Bool.and_eq_true] at k
    cases r with
    | cons r1 r2 => exact .cons (nk_reads d _ _ k.1 r1) (nks_reads ds _ _ k.2 r2)
end
mutual
theorem nk_depth : ∀ d : PyData, keyOk d = true → (nk d).depth ≤ d.depth
  | .int i, _ => Nat.zero_le _
  | .str x, _ => Nat.zero_le _
  | .tuple ds, k => by
    rw [keyOk] at k
    have := nks_depth ds k
    rw [nk, NestedKey.depth, PyData.depth]
    omega
  | .none, k => by cases k
  | .bool _, k => by cases k
  | .list _, k => by cases k
  | .dict _, k => by cases k
theorem nks_depth : ∀ ds : List PyData, keysOk ds = true → NestedKey.depthAll (nks ds) ≤ PyData.depthAll ds
  | [], _ => Nat.zero_le _
  | d :: ds, k => by
    rw [keysOk, Bool.and_eq_true] at k
    have h1 := nk_depth d k.1
    have h2 := nks_depth ds k.2
    rw [nks, NestedKey.depthAll, PyData.depthAll]
    omega
end
/-! ### the set as a thing of the heap: its members are among xs -/
def SetK0 (w : World) (h : Heap) (a : Addr) (vs : List Value) : Prop := ∃ (es : Array (Int × Value)) (ep : Nat) (t : SetTable), SetAt h a es ep t ∧ t.fits es.size = true ∧ es.size < 64 ∧ Ris t.place.toList ∧ (w.params.followText "set-order" = true ∨ t.led = true) ∧ (∀ e ∈ es.toList, e.2 ∈ vs) ∧ es.size ≤ vs.length
def SetKO (w : World) (a : Addr) (vs : List Value) : HO := .ext fun h => SetK0 w h a vs
theorem setKO_ok {P : Program} {w : World} {H : Hp} {h : Heap} {a : Addr} {vs : List Value} (R : SetK0 w h a vs) : ObjOk P w H h a (SetKO w a vs) := by
  have ⟨es, ep, t, ⟨o, ho, r⟩, q⟩ := R
  refine ⟨R, ⟨o, ho⟩, fun h1 h2 p k => ?_⟩
  have ⟨es', ep', t', ⟨o', ho', r'⟩, q'⟩ := (show SetK0 w h1 a vs from p)
  exact ⟨es', ep', t', ⟨o', k o' ho', r'⟩, q'⟩
end Ev
namespace Ev
open PySem PySem.Spec PyProof.Rows L2 Evl
open PySem.W (AllAlike Sortable EachIs)
mutual
theorem nk_as {h : Heap} : ∀ (d : PyData) (v : Value) (as : List Addr), keyOk d = true → Reads h v d as → as = []
  | .int i, _, _, _, r => by
    cases r
    rfl
  | .str x, _, _, _, r => by
    cases r
    rfl
  | .tuple ds, _, _, k, r => by
    cases r with
    | tuple h1 h2 h3 h4 =>
      rw [keyOk] at k
      exact nks_as ds _ _ k h4
  | .none, _, _, k, _ => by cases k
  | .bool _, _, _, k, _ => by cases k
  | .list _, _, _, k, _ => by cases k
  | .dict _, _, _, k, _ => by cases k
theorem nks_as {h : Heap} : ∀ (ds : List PyData) (vs : List Value) (as : List Addr), keysOk ds = true → ReadsAll h vs ds as → as = []
  | [], _, _, _, r => by
    cases r
    rfl
  | d :: ds, _, _, k, r => by
    rw [keysOk, Bool.and_eq_true] at k
    cases r with
    | cons r1 r2 => rw [nk_as d _ _ k.1 r1, nks_as ds _ _ k.2 r2] <;> rfl
end
theorem each_self {α : Type} : ∀ l : List α, EachIs Eq l l
  | [] => .nil
  | _ :: l => .cons rfl (each_self l)
theorem each_eq {α : Type} : ∀ {l m : List α}, EachIs Eq l m → l = m
  | _, _, .nil => rfl
  | _, _, .cons e r => by rw [e, each_eq r]
theorem each_of {α β : Type} {R : α → β → Prop} {f : α → β} : ∀ {l : List α}, (∀ x ∈ l, R x (f x)) → EachIs R l (l.map f)
  | [], _ => .nil
  | x :: l, h => .cons (h x List.mem_cons_self) (each_of fun y hy => h y (List.mem_cons_of_mem _ hy))
theorem each_on {α : Type} {R : α → α → Prop} : ∀ {l : List α}, (∀ x ∈ l, R x x) → EachIs R l l
  | [], _ => .nil
  | x :: l, h => .cons (h x List.mem_cons_self) (each_on fun y hy => h y (List.mem_cons_of_mem _ hy))
section
variable {P : Program} {w : World} {A : Around} {E : Value → Shared → Prop} {s : Shared}
theorem sorted_keys {a : Addr} {vs : List Value} {f : Value → PyData} {Q : Value → Shared → Prop} (R : SetK0 w s.heap a vs) (calm : A.handled = none) (hf : ∀ v ∈ vs, keyOk (f v) = true ∧ ∃ as, Reads s.heap v (f v) as) (hal : AllAlike (vs.map f)) (hs : Sortable (vs.map f)) (hu : ∀ v ∈ vs, A.units + 8 + (f v).depth < cLine)
    (fin : ∀ s2 p (out : List Value) (c : Nat), (∀ b u, s.heap.get? b = some u → s2.heap.get? b = some u) → s2.gens = s.gens → s2.os = s.os → s.heap.objs.size ≤ p → s2.heap.get? p = some (seqObj "list" out.toArray c) → (∀ v ∈ out, v ∈ vs) → out.length ≤ vs.length → Q (.ref p) s2) :
    wpAny (model P w) A (call (.builtin "sorted") [.ref a]) Q E s := by
  obtain ⟨es, ep, t, ha, hfit, few, ris, led, sub, sz⟩ := R
  refine Calls.call_function_entry kind_sorted plain_sorted entry_sorted (args_sorted1 _) (by
    unfold Builtin.«sorted»
    refine wpAny_bind (m := checkCount "sorted" 1 1 _) (wpAny_pure (wpAny_bind (collect_set (A := A.in1) calm ha hfit (by unfold scanBound; omega) ris led fun s1 us keep1 grow gens1 os1 perm => ?_)))
    have len : us.length = es.size := perm.length_eq.trans (by rw [List.length_map, Array.length_toList])
    have mem : ∀ v ∈ us, v ∈ vs := fun v hv => by
      obtain ⟨e, he, ev⟩ := List.mem_map.mp (perm.mem_iff.mp hv)
      rw [← ev]
      exact sub e he
    have line : us.length ≤ sizeLine := (by rw [len, sizeLine_eq]; omega)
    refine wpAny_bind (wpAny_newList ?_ line)
    have new : (s1.heap.push (seqObj "list" us.toArray 0)).get? s1.heap.objs.size = some (seqObj "list" us.toArray 0) := Heap.get?_push_size _ rfl
    have rd : ∀ v ∈ us, ∃ as, Reads (s1.heap.push (seqObj "list" us.toArray 0)) v (f v) as ∧ s1.heap.objs.size ∉ as := fun v hv => by
      obtain ⟨k, as, r⟩ := hf v (mem v hv)
      have e := nk_as _ _ _ k r
      subst e
      exact ⟨[], Reads.keeps (fun b o e => Heap.get?_push_of_some _ (keep1 b o e)) r, by simp⟩
    have sub2 : ∀ d, d ∈ us.map f → d ∈ vs.map f := fun d hd => by
      obtain ⟨v, hv, e⟩ := List.mem_map.mp hd
      exact List.mem_map.mpr ⟨v, mem v hv, e⟩
    have hal2 : AllAlike (us.map f) := fun d hd d' hd' => hal d (sub2 d hd) d' (sub2 d' hd')
    have hs2 : Sortable (us.map f) := by
      rcases hs with z | z
      · exact .inl fun d hd => z d (sub2 d hd)
      · exact .inr fun d hd => z d (sub2 d hd)
    refine wpAny_bind (wpAny_holding (PySem.W.list_sort_data (s := { s1 with heap := s1.heap.push (seqObj "list" us.toArray 0) }) (R := Eq) (enc := f) (bs := us) new (each_self us) (each_on rd) hal2 hs2 line (fun v hv => by have := hu v (mem v hv); simp only [Around.in1_units]; omega) fun out hl ho => ?_))
    have eo := each_eq ho
    obtain ⟨c, hc⟩ := sortedHeap_at (vs := us) (out := out.toArray) new
    refine wpAny_pure ⟨_, rfl, fin _ s1.heap.objs.size out c (fun b u e => ?_) gens1 os1 grow hc (fun v hv => ?_) (by rw [hl, len]; exact sz)⟩
    · have old := keep1 b u e
      have lt := Heap.lt_size old
      show (sortedHeap (s1.heap.push (seqObj "list" us.toArray 0)) s1.heap.objs.size us out.toArray).get? b = some u
      exact (sortedHeap_old (Nat.ne_of_lt lt) (by rw [size_push']; exact Nat.lt_succ_of_lt lt)).trans (Heap.get?_push_of_some _ old)
    · rw [eo] at hv
      exact mem v ((List.mergeSort_perm us _).mem_iff.mp hv))
end
end Ev
namespace Ev
open PySem PySem.Spec PyProof.Rows L2 Evl
open PySem.W (AllAlike Sortable EachIs)
/-- tuples that can stand in a set and be sorted -/
structure KeyL (ds : List PyData) : Prop where
  few : ds.length < 64
  key : ∀ d ∈ ds, keyOk d = true ∧ d.depth ≤ 7 ∧ ∃ x r, d = .tuple (x :: r)
  al : AllAlike ds
theorem KeyL.sortable {ds : List PyData} (h : KeyL ds) : Sortable ds := .inl fun d hd => (h.key d hd).2.2
def rv : V → Value
  | .ref a => .ref a
  | _ => .none
def vr : Value → V
  | .ref a => .ref a
  | _ => .non
theorem dpa_mem {K : Kf} {H : Hp} : ∀ {ds : List PyData} {vs : List V}, DpAll K H vs ds → ∀ v ∈ vs, ∃ d ∈ ds, Dp K H v d
  | [], _, h, v, hv => by
    cases h
    cases hv
  | d :: ds, _, h, v, hv => by
    cases h with
    | cons h1 h2 =>
      rcases List.mem_cons.mp hv with e | m
      · rw [e]
        exact ⟨d, List.mem_cons_self, h1⟩
      · obtain ⟨d', m', h'⟩ := dpa_mem h2 v m
        exact ⟨d', List.mem_cons_of_mem _ m', h'⟩
theorem dpa_sub {K : Kf} {H : Hp} {ds : List PyData} {vs : List V} (h : DpAll K H vs ds) : ∀ {ys : List V}, (∀ y ∈ ys, y ∈ vs) → ∃ es, DpAll K H ys es ∧ (∀ e ∈ es, e ∈ ds) ∧ es.length = ys.length
  | [], _ => ⟨[], .nil, (fun e he => by cases he), rfl⟩
  | y :: ys, hs => by
    obtain ⟨d, m, hd⟩ := dpa_mem h y (hs y List.mem_cons_self)
    obtain ⟨es, h1, h2, h3⟩ := dpa_sub h fun z hz => hs z (List.mem_cons_of_mem _ hz)
    refine ⟨d :: es, .cons hd h1, fun e he => ?_, by rw [List.length_cons, List.length_cons, h3]⟩
    rcases List.mem_cons.mp he with e1 | m1
    · rw [e1]
      exact m
    · exact h2 e m1
theorem dp_tup_ref {K : Kf} {H : Hp} {v : V} {xs : List PyData} (h : Dp K H v (.tuple xs)) : ∃ a, v = .ref a := by
  obtain ⟨a, _, e, _⟩ := dp_tup h
  exact ⟨a, e⟩
theorem vals_refs : ∀ {xs : List V} {us : List Value}, (∀ x ∈ xs, ∃ a, x = .ref a) → Vals xs us → us = xs.map rv
  | _, _, _, .nil => rfl
  | x :: xs, _, h, .cons r t => by
    obtain ⟨a, e⟩ := h x List.mem_cons_self
    subst e
    cases r
    rw [List.map_cons, vals_refs (fun y hy => h y (List.mem_cons_of_mem _ hy)) t] <;> rfl
def rSetKq (K : Kf) (w : World) : List V → Hp → VK → Prop := fun vs H Q => ∃ (l : Addr) (xs : List V) (ds : List PyData), vs = [V.ref l] ∧ SqL K H l xs ∧ DpAll K H xs ds ∧ KeyL ds ∧ ∀ a : Addr, H a = none → Q (.ref a) (upd H a (SetKO w a (xs.map rv)))
theorem cr_setK {X : Cx} (calm : X.calm = true) (hu : X.A.units + 16 < cLine) : CallR X (.type "set") (rSetKq X.K X.w) := fun pins s σ H vs us Q I r ⟨l, xs, ds, e, hl, hd, hk, q⟩ => by
  subst e
  rw [Vals.ref1 r]
  obtain ⟨its, rvs, pl, _⟩ := I.list hl
  have refs : ∀ x ∈ xs, ∃ a, x = .ref a := fun x hx => by
    obtain ⟨d, m, hdp⟩ := dpa_mem hd x hx
    obtain ⟨_, _, y, t, ed⟩ := hk.key d m
    subst ed
    exact dp_tup_ref hdp
  have ei := vals_refs refs rvs
  subst ei
  refine call_set_keys (I.ok.hd calm) pl.isList (fun v hv => ?_) (by rw [List.size_toArray, List.length_map, hd.len]; exact hk.few) hu fun h2 tk es ep t T sub sz keep => ?_
  · have hv : v ∈ xs.map rv := by simpa using hv
    obtain ⟨x, hx, ev⟩ := List.mem_map.mp hv
    obtain ⟨d, m, hdp⟩ := dpa_mem hd x hx
    obtain ⟨k1, k2, _⟩ := hk.key d m
    obtain ⟨a, ea⟩ := refs x hx
    subst ea ev
    obtain ⟨as, rd⟩ := Dp.reads I d _ (rv (.ref a)) hdp rfl
    exact ⟨nk d, nk_reads d _ as k1 rd, Nat.le_trans (nk_depth d k1) k2, a, rfl⟩
  · have free : H s.heap.objs.size = none := I.hok.fresh (Nat.le_refl _)
    obtain ⟨o, ho, hex, hdd⟩ := T.ob
    have R1 : SetK0 X.w h2 s.heap.objs.size (xs.map rv) := ⟨es, ep, t, ⟨o, ho, hex.1, hdd⟩, TbR.fits (s := { s with heap := h2 }) T, T.few, T.tab.ris, T.led, fun e he => by simpa using sub e he, by simpa using sz⟩
    have J : Inv X pins σ (upd H s.heap.objs.size (SetKO X.w s.heap.objs.size (xs.map rv))) { s with heap := h2, toks := tk } :=
      I.call (ch := []) (Un.laid keep (Nat.le_refl _) free) (I.hok.laid keep (Nat.le_refl _) (setKO_ok R1)) I.bare (fun _ z => nomatch z)
    exact ⟨.ref _, _, J, rfl, q _ free⟩
def rSortKq (K : Kf) (w : World) : List V → Hp → VK → Prop := fun vs H Q => ∃ (a : Addr) (xs : List V) (ds : List PyData), vs = [V.ref a] ∧ H a = some (SetKO w a (xs.map rv)) ∧ DpAll K H xs ds ∧ KeyL ds ∧ ∀ (ys : List V) (p : Addr), (∀ y ∈ ys, y ∈ xs) → ys.length ≤ xs.length → H p = none → Q (.ref p) (upd H p (.lst ys))
theorem cr_sortK {X : Cx} (calm : X.calm = true) (hu : X.A.units + 16 < cLine) : CallR X (.builtin "sorted") (rSortKq X.K X.w) := fun pins s σ H vs us Q I r ⟨a, xs, ds, e, ha, hd, hk, q⟩ => by
  subst e
  rw [Vals.ref1 r]
  have R : SetK0 X.w s.heap a (xs.map rv) := (I.hok a _ ha).1
  have rd : ∀ v ∈ xs.map rv, ∃ d, d ∈ ds ∧ ∃ as, Reads s.heap v d as := fun v hv => by
    obtain ⟨x, hx, ev⟩ := List.mem_map.mp hv
    obtain ⟨d, m, hdp⟩ := dpa_mem hd x hx
    obtain ⟨_, _, y, t, ed⟩ := hk.key d m
    subst ed
    obtain ⟨b, eb⟩ := dp_tup_ref hdp
    subst eb ev
    obtain ⟨as, r⟩ := Dp.reads I _ _ (rv (.ref b)) hdp rfl
    exact ⟨_, m, as, r⟩
  let f : Value → PyData := fun v => open Classical in if h : ∃ d, d ∈ ds ∧ ∃ as, Reads s.heap v d as then h.choose else .none
  have fs : ∀ v ∈ xs.map rv, f v ∈ ds ∧ ∃ as, Reads s.heap v (f v) as := fun v hv => by
    have h := rd v hv
    have e : f v = h.choose := dif_pos h
    rw [e]
    exact h.choose_spec
  have sub : ∀ d, d ∈ (xs.map rv).map f → d ∈ ds := fun d hd => by
    obtain ⟨v, hv, e⟩ := List.mem_map.mp hd
    rw [← e]
    exact (fs v hv).1
  refine sorted_keys R (I.ok.hd calm) (f := f) (fun v hv => ⟨(hk.key _ (fs v hv).1).1, (fs v hv).2⟩) (fun d h1 d' h2 => hk.al d (sub d h1) d' (sub d' h2)) (.inl fun d hd => (hk.key d (sub d hd)).2.2) (fun v hv => by
    have := (hk.key _ (fs v hv).1).2.1
    omega) fun s2 p out c keep gens os1 hp hg hm hl => ?_
  have free : H p = none := I.hok.fresh hp
  have mem : ∀ y ∈ out.map vr, y ∈ xs := fun y hy => by
    obtain ⟨v, hv, ey⟩ := List.mem_map.mp hy
    obtain ⟨x, hx, ev⟩ := List.mem_map.mp (hm v hv)
    obtain ⟨d, m, hdp⟩ := dpa_mem hd x hx
    obtain ⟨_, _, y', t, ed⟩ := hk.key d m
    subst ed
    obtain ⟨b, eb⟩ := dp_tup_ref hdp
    subst eb
    rw [← ey, ← ev]
    exact hx
  have vals : ∀ l : List Value, (∀ v ∈ l, v ∈ xs.map rv) → Vals (l.map vr) l := fun l => by
    induction l with
    | nil => intro _; exact .nil
    | cons v l ih =>
      intro h
      refine .cons ?_ (ih fun u hu => h u (List.mem_cons_of_mem _ hu))
      obtain ⟨x, hx, ev⟩ := List.mem_map.mp (h v List.mem_cons_self)
      obtain ⟨d, m, hdp⟩ := dpa_mem hd x hx
      obtain ⟨_, _, y', t, ed⟩ := hk.key d m
      subst ed
      obtain ⟨b, eb⟩ := dp_tup_ref hdp
      subst eb ev
      rfl
  have hlen : (out.map vr).length ≤ xs.length := by rw [List.length_map]; rw [List.length_map] at hl; exact hl
  have J : Inv X pins σ (upd H p (.lst (out.map vr))) ⟨s2.heap, s2.gens, s2.drawn, s2.toks, s.os⟩ :=
    I.call (ch := []) (Un.laid keep hp free) (I.hok.laid keep hp ⟨by
      have := hk.few
      rw [← hd.len] at this
      rw [sizeLine_eq]
      omega, out, c, vals out hm, hg⟩) (by rw [gens]; exact I.bare) (fun _ z => nomatch z)
  have same : s2 = ⟨s2.heap, s2.gens, s2.drawn, s2.toks, s.os⟩ := by rw [← os1]
  rw [same]
  exact ⟨.ref p, _, J, rfl, q _ p mem hlen free⟩
/-- a list, data or one that changes -/
def LstV (z : SV) (M : List MO) (ds : List PyData) : Prop := z = .d (.list ds) ∨ ∃ j, z = .r j ∧ M[j]? = some (.lst ds)
section
variable {Γ : Gm} {F : Fm} {ρ : Rho} {M : List MO} {e : Expr} {P : SV → List MO → Prop} {p1 p2 p3 p4 : Pos}
theorem lst_at {K : Kf} {F : Fm} {A H : Hp} {σ : L2.St} {ρ : Rho} {M : List MO} {ps : List Addr} {v : V} {z : SV} {ds : List PyData} (E : En K F A H σ ρ M ps) (r : Rv K A ps v z) (h : LstV z M ds) : ∃ l xs, v = .ref l ∧ SqL K H l xs ∧ DpAll K A xs ds := by
  rcases h with h | ⟨j, h, hm⟩
  · subst h
    obtain ⟨l, xs, e, hs, hx⟩ := dp_list r
    exact ⟨l, xs, e, ex_l E.ah hs, hx⟩
  · subst h
    obtain ⟨p, hp, e⟩ := r
    obtain ⟨_, ⟨xs, h2, h3⟩, _⟩ := E.ms.mo j _ p hm hp
    exact ⟨p, xs, e, sq_of h2, h3⟩
theorem dx_sortSetK (hm1 : Γ.W.mg "sorted" = Option.none) (hm2 : Γ.W.mg "set" = Option.none) (h : DX Γ F ρ M e fun z M1 => ∃ ds, LstV z M1 ds ∧ KeyL ds ∧ ∀ es, (∀ d ∈ es, d ∈ ds) → es.length ≤ ds.length → P (.d (.list es)) M1) (g1 : Glo Γ "sorted" := by rfl) (g2 : Glo Γ "set" := by rfl) (n : NS e := by intro _ _; rfl) :
    DX Γ F ρ M (.Call (.Name "sorted" p1) [.Call (.Name "set" p2) [e] [] p3] [] p4) P := fun A H σ ps E Q q =>
  WG.of (te := tCB (wCl Γ (.builtin "sorted")) (tCons (tCB (wCl Γ (.type "set")) (tCons (WG Γ e) tNil)) tNil)) (fun X hX => pe_callB (cl_w hX) (gl_of hX g1) (by rw [hX.mg]; exact hm1) PyProof.Rows.boot_sorted (pa_cons (pe_callTy (cl_w hX) (gl_of hX g2) (by rw [hX.mg]; exact hm2) PyProof.Rows.boot_set (pa_cons (pe_wg hX) pa_nil (n [] X.env)) (by decide) (by decide) (n [] X.env) rfl) pa_nil rfl) (by decide) (by decide) rfl rfl)
    (h A H σ ps E _ fun v z A1 H1 M1 ps1 x1 E1 r ⟨ds, hl, hk, p⟩ => by
      obtain ⟨l, xs, rfl, hs, hx⟩ := lst_at E1 r hl
      refine wCl.of (r := rSetKq Γ.W.K Γ.W.w) (fun X hX => hX.K ▸ hX.w ▸ cr_setK hX.calm (by have := hX.room.units; omega)) ⟨l, xs, ds, rfl, hs, hx.ex E1.ah, hk, fun a ha => ?_⟩
      have g := Ex.new (o := SetKO Γ.W.w a (xs.map rv)) ha
      have E2 := E1.step (Gw.grow E1.ah g)
      refine wCl.of (r := rSortKq Γ.W.K Γ.W.w) (fun X hX => hX.K ▸ hX.w ▸ cr_sortK hX.calm (by have := hX.room.units; omega)) ⟨a, xs, ds, rfl, upd_same, hx.ex E2.ah, hk, fun ys p2 hy hyl hp2 => ?_⟩
      obtain ⟨es, e1, e2, e3⟩ := dpa_sub hx hy
      have w := Gw.new (o := .lst ys) E2.ah hp2
      exact q _ (.d (.list es)) _ _ M1 ps1 (x1.trans (.of w.a)) (E2.step w) (.lst (sq_of upd_same) (e1.ex w.a)) (p es e2 (by rw [e3, ← hx.len]; exact hyl)))
end
end Ev
namespace Ev
open PySem PySem.Spec PyProof.Rows L2 Evl
/-! ### a dict that changes -/
def lookK (kvs : List (Key × PyData)) (k : Key) : Option PyData := (kvs.find? fun kv => decide (kv.1 = k)).map (·.2)
def putKD (kvs : List (Key × PyData)) (k : Key) (d : PyData) : List (Key × PyData) := if (kvs.any fun kv => decide (kv.1 = k)) = true then kvs.map (fun kv => if kv.1 = k then (kv.1, d) else kv) else kvs ++ [(k, d)]
def ParK (K : Kf) (A : Hp) (vs : List (Key × V)) (kvs : List (Key × PyData)) : Prop := vs.map (·.1) = kvs.map (·.1) ∧ DpAll K A (vs.map (·.2)) (kvs.map (·.2))
theorem parK_look {K : Kf} {A : Hp} {k : Key} {d : PyData} : ∀ {vs : List (Key × V)} {kvs : List (Key × PyData)}, ParK K A vs kvs → lookK kvs k = some d → ∃ v, valV vs k = some v ∧ Dp K A v d
  | [], [], _, h => by cases h
  | [], _ :: _, p, _ => by cases p.1
  | _ :: _, [], p, _ => by cases p.1
  | (g, x) :: vs, (g', y) :: kvs, p, h => by
    obtain ⟨p1, p2⟩ := p
    simp only [List.map_cons, List.cons.injEq] at p1
    obtain ⟨e, p1⟩ := p1
    have e : g = g' := e
    subst e
    have p2 : DpAll K A (x :: vs.map (·.2)) (y :: kvs.map (·.2)) := p2
    cases p2 with
    | cons h1 h2 =>
      by_cases q : g = k
      · have e1 : lookK ((g, y) :: kvs) k = some y := by simp [lookK, List.find?_cons, q]
        rw [e1] at h
        cases h
        exact ⟨x, valV_pos q, h1⟩
      · have e1 : lookK ((g, y) :: kvs) k = lookK kvs k := by simp [lookK, List.find?_cons, q]
        rw [e1] at h
        obtain ⟨v, a1, a2⟩ := parK_look ⟨p1, h2⟩ h
        exact ⟨v, (valV_neg q).trans a1, a2⟩
theorem parK_any {K : Kf} {A : Hp} {k : Key} {vs : List (Key × V)} {kvs : List (Key × PyData)} (p : ParK K A vs kvs) : (vs.any fun kv => decide (kv.1 = k)) = kvs.any fun kv => decide (kv.1 = k) := by
  have e1 : (vs.any fun kv => decide (kv.1 = k)) = (vs.map (·.1)).any fun g => decide (g = k) := by rw [List.any_map] <;> rfl
  have e2 : (kvs.any fun kv => decide (kv.1 = k)) = (kvs.map (·.1)).any fun g => decide (g = k) := by rw [List.any_map] <;> rfl
  rw [e1, e2, p.1]
theorem parK_map {K : Kf} {A : Hp} {k : Key} {d : PyData} {v : V} (hv : Dp K A v d) : ∀ {vs : List (Key × V)} {kvs : List (Key × PyData)}, ParK K A vs kvs → ParK K A (vs.map fun kv => if kv.1 = k then (kv.1, v) else kv) (kvs.map fun kv => if kv.1 = k then (kv.1, d) else kv)
  | [], [], _ => ⟨rfl, .nil⟩
  | [], _ :: _, p => by cases p.1
  | _ :: _, [], p => by cases p.1
  | (g, x) :: vs, (g', y) :: kvs, p => by
    obtain ⟨p1, p2⟩ := p
    simp only [List.map_cons, List.cons.injEq] at p1
    obtain ⟨e, p1⟩ := p1
    have e : g = g' := e
    subst e
    have p2 : DpAll K A (x :: vs.map (·.2)) (y :: kvs.map (·.2)) := p2
    cases p2 with
    | cons h1 h2 =>
      obtain ⟨i1, i2⟩ := parK_map (k := k) hv ⟨p1, h2⟩
      by_cases q : g = k
      · refine ⟨?_, ?_⟩
        · rw [List.map_cons, List.map_cons, List.map_cons, List.map_cons, i1, if_pos q, if_pos q]
        · rw [List.map_cons, List.map_cons, List.map_cons, List.map_cons, if_pos q, if_pos q]
          exact .cons hv i2
      · refine ⟨?_, ?_⟩
        · rw [List.map_cons, List.map_cons, List.map_cons, List.map_cons, i1, if_neg q, if_neg q]
        · rw [List.map_cons, List.map_cons, List.map_cons, List.map_cons, if_neg q, if_neg q]
          exact .cons h1 i2
theorem parK_put {K : Kf} {A : Hp} {k : Key} {d : PyData} {v : V} (hv : Dp K A v d) {vs : List (Key × V)} {kvs : List (Key × PyData)} (p : ParK K A vs kvs) : ParK K A (putK vs k v) (putKD kvs k d) := by
  unfold putK putKD
  rw [parK_any p]
  split
  · exact parK_map hv p
  · obtain ⟨p1, p2⟩ := p
    exact ⟨by rw [List.map_append, List.map_append, p1] <;> rfl, by
      rw [List.map_append, List.map_append]
      exact p2.append (.cons hv .nil)⟩
theorem ParK.len {K : Kf} {A : Hp} {vs : List (Key × V)} {kvs : List (Key × PyData)} (p : ParK K A vs kvs) : vs.length = kvs.length := by
  have := congrArg List.length p.1
  simpa using this
theorem noHit_dK {vs : List (Key × V)} : noHit (.dK vs) := ⟨(fun q z => by cases z), fun φ z => by cases z⟩
section
variable {Γ : Gm} {B : Fb Γ} {F : Fm} {ρ : Rho} {M : List MO} {a b e : Expr} {P : SV → List MO → Prop} {N : Rho → List MO → Prop} {pos px pk pd p2 p3 p4 p5 tp : Pos} {x y : Str} {i j l : Nat} {jj : Nat} {k : Str} {kvs : List (Key × PyData)} {d : PyData}
/-- x["k"] -/
theorem dx_dget (hN : Γ.N[i]? = some x) (hr : ρ[i]? = some (some (.r j))) (hm : M[j]? = some (.dct kvs)) (hl : lookK kvs (.inr k) = some d) (h : P (.d d) M) (hv : Vis Γ.sc x := by first | exact Or.inl rfl | exact Or.inr (Or.inl rfl) | exact Or.inr (Or.inr rfl)) (hd : (x == ("__debug__" : Str)) = false := by decide) (hcd : (x == ("__classdict__" : Str)) = false := by decide) :
    DX Γ F ρ M (.Subscript (.Name x px) (.Constant (.str k) jj pk) pos) P := fun A H σ ps E Q q => by
  obtain ⟨p, h1, h2⟩ := E.rs.1 i j hr
  obtain ⟨_, ⟨vs, k1, k2, k3⟩, _⟩ := E.ms.mo j _ p hm h1
  obtain ⟨v, v1, v2⟩ := parK_look (k := .inr k) ⟨k2, k3⟩ hl
  exact WG.of (te := tDGet (tVar i) (tC (.str k))) (fun X hX => pe_dget (by have := hX.room.units; omega) (var_of hX hN hv hd hcd) pe_str fun _ _ => rfl) ⟨_, h2, p, v, rfl, v1 ▸ DGet.k (k := .inr k) k1, q v (.d d) A H M ps .refl E v2 h⟩
/-- x["k"] = e -/
theorem s_dput (hN : Γ.N[i]? = some x) (hr : ρ[i]? = some (some (.r j))) (h : DX Γ B.F ρ M e fun z M1 => ∃ d kvs, z = .d d ∧ M1[j]? = some (.dct kvs) ∧ kvs.length < 1000 ∧ N ρ (M1.set j (.dct (putKD kvs (.inr k) d))))
    (hs : ∀ env, swapsWith e (some (.Subscript (.Name x px) (.Constant (.str k) jj pk) tp)) pos.line env = pure false := by intro _; rfl) (hv : Vis Γ.sc x := by first | exact Or.inl rfl | exact Or.inr (Or.inl rfl) | exact Or.inr (Or.inr rfl)) (hd : (x == ("__debug__" : Str)) = false := by decide) (hcd : (x == ("__classdict__" : Str)) = false := by decide) :
    DS1 Γ B ρ M (.Assign [.Subscript (.Name x px) (.Constant (.str k) jj pk) tp] e pos) N := fun A H σ ps E D hD kk =>
  WGs.of (ts := sDPut (tVar i) (tC (.str k)) (WG Γ e)) (fun X hX => ps_dput (by have := hX.room.units; omega) (var_of hX hN hv hd hcd) pe_str (pe_wg hX) (hs X.env)) (h A H σ ps E _ fun v z A1 H1 M1 ps1 e1 E1 r ⟨d, kvs, hz, hm, hl, n⟩ => by
    subst hz
    obtain ⟨p, h1, h2⟩ := E1.rs.1 i j hr
    obtain ⟨_, ⟨vs, k1, k2, k3⟩, _⟩ := E1.ms.mo j _ p hm h1
    have pk : ParK Γ.W.K A1 vs kvs := ⟨k2, k3⟩
    refine ⟨_, h2, p, _, rfl, DPut.k (k := .inr k) k1 (by rw [pk.len, sizeLine_eq]; omega), kk A1 _ σ ρ _ ps1 e1 (E1.mut (m := .dct (putKD kvs (.inr k) d)) hm rfl h1 k1 noHit_dK ?_) n⟩
    obtain ⟨q1, q2⟩ := parK_put (k := .inr k) (v := v) (d := d) r pk
    exact ⟨_, upd_same, q1, q2⟩)
/-- y, x["k"] = a, b -/
theorem s_parD {kt k2 : Nat} {pt pt2 : Pos} (hN : Γ.N[i]? = some x) (hNy : Γ.N[l]? = some y) (hr : ρ[i]? = some (some (.r j))) (hil : l ≠ i) (h : DXs Γ B.F ρ M [a, b] fun zs M1 => ∃ d1 d2 kvs, zs = [.d d1, .d d2] ∧ M1[j]? = some (.dct kvs) ∧ kvs.length < 1000 ∧ N (ρ.set l (some (.d d1))) (M1.set j (.dct (putKD kvs (.inr k) d2))))
    (hly : Loc Γ.sc y := by first | exact .inl rfl | exact .inr rfl) (hsy : Γ.st y = true := by rfl) (nd : decide Γ.N.Nodup = true := by kernel_rfl)
    (hs : ∀ env, swapsWithSole [.Tuple [.Name y pd, .Subscript (.Name x px) (.Constant (.str k) jj pk) tp] kt pt] (.Tuple [a, b] k2 pt2) pos.line env = pure false := by intro _; rfl)
    (hw : ∀ env : Env, env.scope = Γ.sc → swappedStores [.Tuple [.Name y pd, .Subscript (.Name x px) (.Constant (.str k) jj pk) tp] kt pt] (.Tuple [a, b] k2 pt2) env = pure none := by rintro ⟨⟩ h; cases h; rfl)
    (h1 : ∀ env, (assignEach [.Tuple [.Name y pd, .Subscript (.Name x px) (.Constant (.str k) jj pk) tp] kt pt] env).map (·.2) = [assign (.Tuple [.Name y pd, .Subscript (.Name x px) (.Constant (.str k) jj pk) tp] kt pt) env] := by intro _; rfl)
    (hn : ∀ env, (assignEach [.Name y pd, .Subscript (.Name x px) (.Constant (.str k) jj pk) tp] env).length = 2 := by intro _; rfl) (hst : ∀ env, (assignEach [.Name y pd, .Subscript (.Name x px) (.Constant (.str k) jj pk) tp] env).findIdx? (·.1) = Option.none := by intro _; rfl)
    (ha1 : ∀ env, (assignEach [.Name y pd, .Subscript (.Name x px) (.Constant (.str k) jj pk) tp] env).map (·.2) = assign (.Name y pd) env :: (assignEach [.Subscript (.Name x px) (.Constant (.str k) jj pk) tp] env).map (·.2) := by intro _; rfl)
    (ha2 : ∀ env, (assignEach [.Subscript (.Name x px) (.Constant (.str k) jj pk) tp] env).map (·.2) = assign (.Subscript (.Name x px) (.Constant (.str k) jj pk) tp) env :: (assignEach [] env).map (·.2) := by intro _; rfl)
    (hv : Vis Γ.sc x := by first | exact Or.inl rfl | exact Or.inr (Or.inl rfl) | exact Or.inr (Or.inr rfl)) (hd : (x == ("__debug__" : Str)) = false := by decide) (hcd : (x == ("__classdict__" : Str)) = false := by decide) :
    DS1 Γ B ρ M (.Assign [.Tuple [.Name y pd, .Subscript (.Name x px) (.Constant (.str k) jj pk) tp] kt pt] (.Tuple [a, b] k2 pt2) pos) N := fun A H σ ps E D hD kk =>
  WGs.of (ts := tAsg (tTup (WGa Γ [a, b])) (gTup Γ.W.K 2 (gCons (gName l) (gCons (gSub (tVar i) (tC (.str k)) rSetD) gNil)))) (fun X hX => ps_asg (pe_tup (pa_wg hX)) (hX.K ▸ pg_tup hX.calm (pgs_cons (pg_name (by rw [hX.N]; exact of_decide_eq_true nd) (by rw [hX.N]; exact hNy) (stn_of hX hly hsy).1 (stn_of hX hly hsy).2) (pgs_cons (pg_sub (var_of hX hN hv hd hcd) pe_str (set_dict (by have := hX.room.units; omega))) pgs_nil (ha2 X.env)) (ha1 X.env)) (hn X.env) (hst X.env)) (hs X.env) (hw X.env hX.sc) (h1 X.env))
    (h A H σ ps E _ fun vs zs A1 H1 M1 ps1 e1 E1 rs ⟨d1, d2, kvs, hz, hm, hlk, n⟩ => by
      subst hz
      cases rs with
      | @cons v1 _ _ _ r1 rs =>
        cases rs with
        | @cons v2 _ _ _ r2 rs =>
          cases rs
          refine ⟨by rw [sizeLine_eq]; simp, fun t ht => ⟨t, _, rfl, st_of upd_same, rfl, _, _, rfl, _, _, rfl, ?_⟩⟩
          have w := Gw.grow E1.ah (Ex.new (o := HO.tup [v1, v2]) ht)
          have E2 := (E1.step w).set l r1
          obtain ⟨p, g1, g2⟩ := E2.rs.1 i j (by rw [List.getElem?_set_ne hil]; exact hr)
          obtain ⟨_, ⟨vs, k1, k2, k3⟩, _⟩ := E2.ms.mo j _ p hm g1
          have pk : ParK Γ.W.K A1 vs kvs := ⟨k2, k3⟩
          refine ⟨_, g2, p, _, rfl, DPut.k (k := .inr k) k1 (by rw [pk.len, sizeLine_eq]; omega), rfl, kk A1 _ _ _ _ ps1 e1 (E2.mut (m := .dct (putKD kvs (.inr k) d2)) hm rfl g1 k1 noHit_dK ?_) n⟩
          obtain ⟨q1, q2⟩ := parK_put (k := .inr k) (v := v2) (d := d2) r2 pk
          exact ⟨_, upd_same, q1, q2⟩)
end
end Ev
namespace Ev
open PySem PySem.Spec PyProof.Rows L2 Evl
/-! ### drawing -/
def drawK (cs : List Int) (a l u : Int) : List (Key × PyData) := [(.inr "cells", .list (cs.map .int)), (.inr "at", .int a), (.inr "left", .int l), (.inr "used", .int u)]
def drawM (cs : List Int) (a l u : Int) : MO := .dct (drawK cs a l u)
theorem dk_cells {cs : List Int} {a l u : Int} : lookK (drawK cs a l u) (.inr "cells") = some (.list (cs.map .int)) := by kernel_rfl
theorem dk_at {cs : List Int} {a l u : Int} : lookK (drawK cs a l u) (.inr "at") = some (.int a) := by kernel_rfl
theorem dk_left {cs : List Int} {a l u : Int} : lookK (drawK cs a l u) (.inr "left") = some (.int l) := by kernel_rfl
theorem dk_used {cs : List Int} {a l u : Int} : lookK (drawK cs a l u) (.inr "used") = some (.int u) := by kernel_rfl
theorem dp_at {cs : List Int} {a l u x : Int} : MO.dct (putKD (drawK cs a l u) (.inr "at") (.int x)) = drawM cs x l u := by kernel_rfl
theorem dp_left {cs : List Int} {a l u x : Int} : MO.dct (putKD (drawK cs a l u) (.inr "left") (.int x)) = drawM cs a x u := by kernel_rfl
theorem dp_used {cs : List Int} {a l u x : Int} : MO.dct (putKD (drawK cs a l u) (.inr "used") (.int x)) = drawM cs a l x := by kernel_rfl
theorem dk_len {cs : List Int} {a l u : Int} : (drawK cs a l u).length < 1000 := by simp [drawK]
structure DrawOk (B : Nat) (m : MO) : Prop where
  ex : ∃ (cs : List Int) (a l u : Int), m = drawM cs a l u ∧ 0 < cs.length ∧ cs.length ≤ 1000 ∧ 0 ≤ u ∧ u ≤ B
theorem DrawOk.mono {B C : Nat} {m : MO} (h : DrawOk B m) (le : B ≤ C) : DrawOk C m := by
  obtain ⟨cs, a, l, u, h1, h2, h3, h4, h5⟩ := h.ex
  exact ⟨cs, a, l, u, h1, h2, h3, h4, by omega⟩
theorem DrawOk.nrf {B : Nat} {m : MO} (h : DrawOk B m) : ∀ is, m ≠ .rfs is := fun is e => by
  obtain ⟨cs, a, l, u, h1, _⟩ := h.ex
  rw [h1] at e
  cases e
abbrev RNext : MR := fun zs M P PX => ∃ (j many B : Nat) (m : MO), zs = [.r j, .d (.int (many : Nat))] ∧ M[j]? = some m ∧ DrawOk B m ∧ B < 1000000000 ∧ 1 ≤ many ∧ many ≤ 100000 ∧ okM M.length M ∧ ∀ (n : Nat) (m' : MO), n < many → DrawOk (B + 1) m' → P (.d (.int (n : Nat))) (M.set j m')
theorem ob_pow {Γ : Gm} {i j : Int} (h : CPow i j) : OB Γ .Pow (.int i) (.int j) (.int (i ^ j.toNat)) := ⟨_, fun X h => op_pow, rd_I h fun _ => .int _⟩
theorem emod_nat {i : Int} {n : Nat} (h : 1 ≤ n) : ∃ k : Nat, k < n ∧ i % (n : Int) = (k : Nat) := by
  have h1 := Int.emod_nonneg i (b := (n : Int)) (by omega)
  have h2 := Int.emod_lt_of_pos i (b := (n : Int)) (by omega)
  exact ⟨(i % (n : Int)).toNat, by omega, by omega⟩
section
variable {W : Wd}
theorem ok_law_next (b : Bl W) (t : Dg W "_law_next" 66) : Fk W 1 "_law_next" ["_law_draw", "_law_many"] (spM W 2 RNext) := by
  obtain ⟨f, fd, F, hg⟩ := t
  have S : FnScope ["_law_draw", "_law_many", "_law_cell", "_law_cells", "_law_number", "_law_k"] ["_law_draw", "_law_many"] (defScope (top 66)) := ⟨rfl, rfl, rfl, by decide +kernel, rfl, by decide +kernel, by decide +kernel⟩
  refine fkM F S hg (F.bindsN (fun _ _ _ _ _ _ us hl => match us, hl with | [_, _], _ => rfl)) rfl fun E B zs M P PX hF hRt hPX hl hR => ?_
  obtain ⟨j, many, D, m, rfl, hm, hd, hD, h1, h2, ho, hP⟩ := hR
  obtain ⟨cs, a, l, u, rfl, c1, c2, c3, c4⟩ := hd.ex
  have jl : j < M.length := (List.getElem?_eq_some_iff.mp hm).1
  have at_ : ∀ x, (M.set j x)[j]? = some x := fun x => List.getElem?_set_self jl
  have fin : ∀ (i a' l' u' : Int), 0 ≤ u' → u' ≤ (D + 1 : Nat) → B.Rt (.d (.int (i % (many : Nat)))) (M.set j (drawM cs a' l' u')) := fun i a' l' u' g1 g2 => by
    rw [hRt]
    obtain ⟨k, k1, k2⟩ := emod_nat (i := i) h1
    rw [k2]
    exact ⟨trivial, fin_ok (by rw [List.length_set]) (okM_set ho fun is e => by cases e) (hP k _ k1 ⟨cs, a', l', u', rfl, c1, c2, g1, g2⟩)⟩
  have mpos : (0 : Int) < (many : Nat) := by omega
  have mdiv : ∀ i : Int, CDiv i (many : Nat) := fun i => ⟨mpos, by omega⟩
  have tail : ∀ (c l' : Int), DS (gmOf W ["_law_draw", "_law_many", "_law_cell", "_law_cells", "_law_number", "_law_k"] (defScope (top 66)) 0 E) B [some (.r j), some (.d (.int (many : Nat))), some (.d (.int c)), some (.d (.list (cs.map .int))), none, none] (M.set j (drawM cs (a + 1) l' u)) ((defBody (top 66)).drop 5) fun _ M1 => okM M.length (M1.take M.length) ∧ P (.d .none) (M1.take M.length) := fun c l' => by
    have back : ∀ x y, (M.set j x).set j y = M.set j y := fun x y => List.set_set ..
    have hm1 := at_ (drawM cs (a + 1) l' u)
    refine ds_cons (s_dput (i := 0) rfl rfl (dx_bin (dx_dget (i := 0) rfl rfl hm1 dk_used ⟨_, rfl, dx_d xd_i ⟨_, rfl, _, ob_add, ⟨_, _, rfl, hm1, dk_len, ?_⟩⟩⟩)))
    rw [dp_used, back]
    have hm2 := at_ (drawM cs (a + 1) l' (u + 1))
    refine ds_cons (s_asg (i := 4) rfl (dx_bin (dx_d (xd_bin (xv 2 rfl rfl) xd_i (ob_mod (by decide))) ⟨_, rfl, dx_bin (dx_bin (dx_d xd_i ⟨_, rfl, dx_dget (i := 0) rfl rfl hm2 dk_used ⟨_, rfl, _, ob_mul (.inl (by decide)), ⟨_, rfl, dx_dget (i := 0) rfl rfl hm2 dk_used ⟨_, rfl, _, ob_mul (.inr (by omega)), ⟨_, rfl, _, ob_add, ?_⟩⟩⟩⟩⟩))⟩)))
    refine ds_cons (s_for (di_tup (dx_tup (dxs_cons (dx_dget (i := 0) rfl rfl hm2 dk_at (dxs_cons (dx_dget (i := 0) rfl rfl hm2 dk_used (dxs_nil ⟨[_, _], rfl, by simp, ⟨_, rfl, fun _ ρ1 M1 => M1 = M.set j (drawM cs (a + 1) l' (u + 1)) ∧ ∃ (x : Int) (o : Option SV), ρ1 = [some (.r j), some (.d (.int (many : Nat))), some (.d (.int c)), some (.d (.list (cs.map .int))), some (.d (.int x)), o], ⟨rfl, _, _, rfl⟩, fun i d ρ1 M2 hd hI => ?_, fun ρ1 M2 hI => ?_⟩⟩))))))))
    · obtain ⟨rfl, x, o, rfl⟩ := hI
      obtain ⟨n, rfl⟩ : ∃ n : Int, d = .int n := by
        have hm := List.mem_of_getElem? hd
        simp only [List.mem_cons, List.not_mem_nil, or_false] at hm
        rcases hm with e | e <;> exact ⟨_, e⟩
      refine ⟨_, _, tg_name (i := 5) rfl, ds_cons (s_asg (i := 4) rfl (dx_d (xd_bin (xd_bin (xd_bin (xd_bin (xv 4 rfl rfl) (xd_bin xd_i (xv 5 rfl rfl) (ob_mul (.inl (by decide)))) ob_add) xd_i ob_add) xd_i (ob_mul (.inr (by decide)))) xd_i (ob_mod (by decide))) ?_))⟩
      exact ds_one (s_asg (i := 4) rfl (dx_d (xd_bin (xd_bin (xv 4 rfl rfl) (xd_bin xd_i (xd_bin xd_i (xd_bin (xv 5 rfl rfl) xd_i (ob_mod (by decide))) (ob_mul (.inl (by decide)))) ob_add) (ob_mul (.inr (by omega)))) xd_i (ob_mod (by decide))) ⟨rfl, _, _, rfl⟩))
    · obtain ⟨rfl, x, o, rfl⟩ := hI
      exact ds_one (s_ret (dx_d (xd_bin (xd_bin (xv 4 rfl rfl) xd_i (ob_div ⟨by decide, by decide⟩)) (xv 1 rfl rfl) (ob_mod mpos)) (fin _ _ _ _ (by omega) (by omega))))
  refine ds_cons (s_if (dt_cmp (dx_dget (i := 0) rfl rfl hm dk_left ⟨_, rfl, dx_d xd_i ⟨_, rfl, _, oc_gt, fun _ => ?_, fun _ => ds_nil ?_⟩⟩)))
  · refine ds_cons (s_parD (i := 0) (l := 2) rfl rfl rfl (by decide) (dxs_cons (dx_dget (i := 0) rfl rfl hm dk_left (dxs_cons (dx_bin (dx_dget (i := 0) rfl rfl hm dk_left ⟨_, rfl, dx_d (xv 1 rfl rfl) ⟨_, rfl, _, ob_div (mdiv _), dxs_nil ⟨_, _, _, rfl, hm, dk_len, ?_⟩⟩⟩))))))
    rw [dp_left]
    exact ds_one (s_ret (dx_d (xd_bin (xv 2 rfl rfl) (xv 1 rfl rfl) (ob_mod mpos)) (fin _ _ _ _ c3 (by omega))))
  refine ds_cons (s_asg (i := 3) rfl (dx_dget (i := 0) rfl rfl hm dk_cells ?_))
  obtain ⟨k, k1, k2⟩ := emod_nat (i := a) (n := cs.length) c1
  have hk : atI (cs.map PyData.int) ((k : Nat) : Int) = some (.int cs[k]) := atI_nat (by rw [List.getElem?_map, List.getElem?_eq_getElem k1]; rfl)
  refine ds_cons (s_asg (i := 2) rfl (dx_ix (dx_d (xv 3 rfl rfl) ⟨_, rfl, dx_bin (dx_dget (i := 0) rfl rfl hm dk_at ⟨_, rfl, dx_d (xd_callB boot_len b.len (xds_cons (xv 3 rfl rfl) xds_nil) of_lenL) ⟨_, rfl, _, ob_mod (by rw [List.length_map]; omega), ⟨_, rfl, .int cs[k], ?_, ?_⟩⟩⟩)⟩)))
  · rw [List.length_map, k2]
    exact oi_L hk
  refine ds_cons (s_dput (i := 0) rfl rfl (dx_bin (dx_dget (i := 0) rfl rfl hm dk_at ⟨_, rfl, dx_d xd_i ⟨_, rfl, _, ob_add, ⟨_, _, rfl, hm, dk_len, ?_⟩⟩⟩)))
  rw [dp_at]
  have hm1 := at_ (drawM cs (a + 1) l u)
  have back : ∀ x y, (M.set j x).set j y = M.set j y := fun x y => List.set_set ..
  refine ds_cons (s_if (dt_and2 (dt_t (xt_cmp (xv 2 rfl rfl) (xd_bin xd_i xd_i (ob_pow ⟨by decide, by decide, by decide⟩)) oc_ge) ⟨fun _ => dt_cmp (dx_dget (i := 0) rfl rfl hm1 dk_at ⟨_, rfl, dx_d (xd_callB boot_len b.len (xds_cons (xv 3 rfl rfl) xds_nil) of_lenL) ⟨_, rfl, _, oc_le, fun _ => ?_, fun _ => ds_nil ?_⟩⟩), fun _ => ⟨fun z => (by cases z), fun _ => ds_nil ?_⟩⟩)))
  · refine ds_cons (s_dput (i := 0) rfl rfl (dx_d (xd_bin (xv 2 rfl rfl) (xv 1 rfl rfl) (ob_div (mdiv _))) ⟨_, _, rfl, hm1, dk_len, ?_⟩))
    rw [dp_left, back]
    exact ds_one (s_ret (dx_d (xd_bin (xv 2 rfl rfl) (xv 1 rfl rfl) (ob_mod mpos)) (fin _ _ _ _ c3 (by omega))))
  · exact tail _ _
  · exact tail _ _
end
end Ev
namespace Ev
open PySem PySem.Spec PyProof.Rows L2 Evl
theorem set_same {α : Type} {M : List α} {j : Nat} {m : α} (h : M[j]? = some m) : M.set j m = M := by
  apply List.ext_getElem?
  intro i
  by_cases e : j = i
  · subst e
    rw [List.getElem?_set_self (List.getElem?_eq_some_iff.mp h).1, h]
  · rw [List.getElem?_set_ne e]
abbrev FNext (W : Wd) : Prop := Fk W 1 "_law_next" ["_law_draw", "_law_many"] (spM W 2 RNext)
section
variable {Γ : Gm} {F : Fm} {ρ : Rho} {M : List MO} {e : Expr} {P : SV → List MO → Prop} {p p1 p2 : Pos} {i j : Nat}
theorem dx_next (fN : FNext Γ.W) (hN : Γ.N[i]? = some ("_law_draw" : Str)) (hr : ρ[i]? = some (some (.r j))) (he : DX Γ F ρ M e fun z M1 => ∃ (many B : Nat) (m : MO), z = .d (.int (many : Nat)) ∧ M1[j]? = some m ∧ DrawOk B m ∧ B < 1000000000 ∧ 1 ≤ many ∧ many ≤ 100000 ∧ okM M1.length M1 ∧ ∀ (n : Nat) (m' : MO), n < many → DrawOk (B + 1) m' → P (.d (.int (n : Nat))) (M1.set j m'))
    (hk : Nat.ble 1 Γ.k = true := by rfl) (g : Glo Γ "_law_next" := by rfl) (ns : NSs [e] := by intro _ _; rfl) (ne : NS e := by intro _ _; rfl) (hv : Vis Γ.sc "_law_draw" := by first | exact Or.inl rfl | exact Or.inr (Or.inl rfl) | exact Or.inr (Or.inr rfl)) :
    DX Γ F ρ M (.Call (.Name "_law_next" p) [.Name "_law_draw" p1, e] [] p2) P :=
  dx_call (PX := fun _ _ => False) fN (.inr rfl) (fun _ _ _ _ _ _ _ _ _ _ _ _ _ z => z.elim) (dxs_cons (dx_r hN hr (dxs_cons (he.mono fun z M1 ⟨many, B, m, hz, h1, h2, h3, h4, h5, h6, h7⟩ => dxs_nil ⟨rfl, j, many, B, m, by rw [hz], h1, h2, h3, h4, h5, h6, h7⟩) ne) hv)) hk g (by intro _ _; rfl) ns
end
/-- the things of a list or a tuple -/
def seqD (c : PyData) (ds : List PyData) : Prop := c = .list ds ∨ c = .tuple ds
abbrev RPick : MR := fun zs M P PX => ∃ (j B : Nat) (m : MO) (c : PyData) (ds : List PyData), zs = [.r j, .d c] ∧ seqD c ds ∧ 1 ≤ ds.length ∧ ds.length ≤ 1000 ∧ M[j]? = some m ∧ DrawOk B m ∧ B < 1000000000 ∧ okM M.length M ∧ ∀ (d : PyData) (m' : MO), d ∈ ds → DrawOk (B + 1) m' → P (.d d) (M.set j m')
abbrev FPick (W : Wd) : Prop := Fk W 2 "_law_pick" ["_law_draw", "_law_some_here"] (spM W 2 RPick)
section
variable {W : Wd}
theorem ok_law_pick (b : Bl W) (t : Dg W "_law_pick" 67) (fN : FNext W) : FPick W := by
  obtain ⟨f, fd, F, hg⟩ := t
  have S : FnScope ["_law_draw", "_law_some_here"] ["_law_draw", "_law_some_here"] (defScope (top 67)) := ⟨rfl, rfl, rfl, by decide +kernel, rfl, by decide +kernel, by decide +kernel⟩
  refine fkM F S hg (F.bindsN (fun _ _ _ _ _ _ us hl => match us, hl with | [_, _], _ => rfl)) rfl fun E B zs M P PX hF hRt hPX hl hR => ?_
  obtain ⟨j, D, m, c, ds, rfl, hc, h1, h2, hm, hd, hD, ho, hP⟩ := hR
  have hlen : ∀ p1 p2 p3 : Pos, XD (gmOf W ["_law_draw", "_law_some_here"] (defScope (top 67)) 1 E) (startR ["_law_draw", "_law_some_here"] [.r j, .d c]) (.Call (.Name "len" p1) [.Name "_law_some_here" p2] [] p3) (.int (ds.length : Nat)) := fun p1 p2 p3 => by
    rcases hc with rfl | rfl
    · exact xd_callB boot_len b.len (xds_cons (xv 1 rfl rfl) xds_nil) of_lenL
    · exact xd_callB boot_len b.len (xds_cons (xv 1 rfl rfl) xds_nil) of_lenT
  refine ds_one (s_ret (dx_ix (dx_d (xv 1 rfl rfl) ⟨_, rfl, dx_next (i := 0) fN rfl rfl (dx_d ?_ ⟨ds.length, D, m, rfl, hm, hd, hD, h1, by omega, ho, fun n m' hn hd' => ?_⟩)⟩)))
  · exact hlen _ _ _
  · refine ⟨_, rfl, ds[n], ?_, ?_⟩
    · have e := atI_nat (xs := ds) (j := n) (List.getElem?_eq_getElem hn)
      rcases hc with rfl | rfl
      · exact oi_L e
      · exact oi_T e
    · rw [hRt]
      exact ⟨trivial, fin_ok (by rw [List.length_set]) (okM_set ho hd'.nrf) (hP _ m' (List.getElem_mem hn) hd')⟩
/-- a small number -/
def SmI (n : Nat) (d : PyData) : Prop := ∃ k : Nat, d = .int (k : Nat) ∧ k < n
abbrev RSome : MR := fun zs M P PX => ∃ (j many B : Nat) (m : MO), zs = [.r j, .d (.int (many : Nat))] ∧ many ≤ 100 ∧ M[j]? = some m ∧ DrawOk B m ∧ B < 999999000 ∧ okM M.length M ∧ ∀ (ds : List PyData) (m' : MO), (∀ d ∈ ds, SmI many d) → ds.length ≤ many → DrawOk (B + many) m' → P (.d (.tuple ds)) (M.set j m')
abbrev FSome (W : Wd) : Prop := Fk W 2 "_law_some" ["_law_draw", "_law_many"] (spM W 2 RSome)
theorem range_at {n i : Nat} {d : PyData} (h : ((List.range n).map fun (k : Nat) => PyData.int (k : Int))[i]? = some d) : i < n ∧ d = .int (i : Nat) := by
  rw [List.getElem?_map] at h
  by_cases hi : i < n
  · rw [List.getElem?_range hi] at h
    exact ⟨hi, (Option.some.inj h).symm⟩
  · rw [List.getElem?_eq_none (by rw [List.length_range]; omega)] at h
    cases h
theorem range_len {n : Nat} : ((List.range n).map fun (k : Nat) => PyData.int (k : Int)).length = n := by rw [List.length_map, List.length_range]
theorem ok_law_some (b : Bl W) (t : Dg W "_law_some" 68) (fN : FNext W) : FSome W := by
  obtain ⟨f, fd, F, hg⟩ := t
  have S : FnScope ["_law_draw", "_law_many", "_law_k"] ["_law_draw", "_law_many"] (defScope (top 68)) := ⟨rfl, rfl, rfl, by decide +kernel, rfl, by decide +kernel, by decide +kernel⟩
  refine fkM F S hg (F.bindsN (fun _ _ _ _ _ _ us hl => match us, hl with | [_, _], _ => rfl)) rfl fun E B zs M P PX hF hRt hPX hl hR => ?_
  obtain ⟨j, many, D, m, rfl, h1, hm, hd, hD, ho, hP⟩ := hR
  have jl : j < M.length := (List.getElem?_eq_some_iff.mp hm).1
  refine ds_one (s_ret (dx_callT bt_tuple b.tuple (dxs_cons (dx_lc (own := [("_law_k", 2)]) (di_range b.range (dx_d (xv 1 rfl rfl) ⟨many, rfl, by omega, ⟨by rw [range_len]; omega, fun i acc M' => ∃ m', M' = M.set j m' ∧ DrawOk (D + i) m' ∧ ∀ d ∈ acc, SmI many d, ⟨m, (set_same hm).symm, hd, fun d z => (by cases z)⟩, fun i d acc M' hi hI hl => ?_, fun acc M' hI hl => ?_⟩⟩))))))
  · obtain ⟨m', rfl, hd', ha⟩ := hI
    obtain ⟨hin, rfl⟩ := range_at hi
    refine ⟨_, _, fun k hk => hk, tg_name (i := 2) rfl, fun F' => dts_one (dt_cmp (dx_next (i := 0) fN rfl rfl (dx_d xd_i ⟨2, _, m', rfl, List.getElem?_set_self jl, hd', by omega, by decide, by decide, by rw [List.length_set]; exact okM_set ho hd'.nrf, fun n m2 _ hd2 => ⟨_, rfl, dx_d xd_i ⟨_, rfl, _, oc_eqI, fun _ => dx_d (xv 2 rfl rfl) ⟨_, rfl, m2, ?_, hd2, ?_⟩, fun _ => ⟨m2, ?_, hd2, ha⟩⟩⟩⟩)))⟩
    · rw [List.set_set]
    · intro d hd
      rcases List.mem_append.mp hd with z | z
      · exact ha d z
      · rw [List.mem_singleton.mp z]
        exact ⟨i, rfl, hin⟩
    · rw [List.set_set]
  · obtain ⟨m', rfl, hd', ha⟩ := hI
    rw [range_len] at hd' hl
    refine dxs_nil ⟨[_], _, rfl, of_tupL, ?_⟩
    rw [hRt]
    exact ⟨trivial, fin_ok (by rw [List.length_set]) (okM_set ho hd'.nrf) (hP acc m' ha hl hd')⟩
end
end Ev
namespace Ev
open PySem PySem.Spec PyProof.Rows L2 Evl
/-! ### more of lists and texts -/
def rngD (n : Nat) : List PyData := (List.range n).map fun (k : Nat) => PyData.int (k : Int)
theorem dpa_rg {K : Kf} {A : Hp} (n : Nat) : DpAll K A (rgV 0 (n : Int)) (rngD n) := by
  have e : ((n : Int) - 0).toNat = n := by omega
  unfold rgV rngD
  rw [e]
  have : ∀ l : List Nat, DpAll K A (l.map fun (i : Nat) => V.int (0 + (i : Int))) (l.map fun (k : Nat) => PyData.int (k : Int)) := fun l => by
    induction l with
    | nil => exact .nil
    | cons k l ih => exact .cons (by show Dp K A (V.int (0 + (k : Int))) (.int (k : Int)); rw [Int.zero_add]; exact .int _) ih
  exact this _
theorem dpa_erase {K : Kf} {A : Hp} : ∀ {ds : List PyData} {xs : List V} (k : Nat), DpAll K A xs ds → DpAll K A (xs.eraseIdx k) (ds.eraseIdx k)
  | [], _, k, h => by
    cases h
    exact .nil
  | d :: ds, _, 0, h => by
    cases h with
    | cons h1 h2 => exact h2
  | d :: ds, _, k + 1, h => by
    cases h with
    | cons h1 h2 => exact .cons h1 (dpa_erase k h2)
theorem dpa_rep {K : Kf} {A : Hp} {ds : List PyData} {xs : List V} (h : DpAll K A xs ds) : ∀ k : Nat, DpAll K A (List.replicate k xs).flatten (List.replicate k ds).flatten
  | 0 => .nil
  | k + 1 => by
    rw [List.replicate_succ, List.replicate_succ, List.flatten_cons, List.flatten_cons]
    exact h.append (dpa_rep h k)
theorem noHit_lst {xs : List V} : noHit (.lst xs) := ⟨(fun q z => by cases z), fun φ z => by cases z⟩
theorem at_end {α : Type} {M : List α} {n : Nat} {x : α} (h : n = M.length) : (M ++ [x])[n]? = some x := by
  subst h
  simp
section
variable {Γ : Gm} {B : Fb Γ} {F : Fm} {ρ : Rho} {M : List MO} {a b e o : Expr} {P : SV → List MO → Prop} {N : Rho → List MO → Prop} {p p1 p2 p3 pos px tp ap cp : Pos} {x : Str} {i j : Nat}
/-- list(range(e)), tuple(range(e)) -/
theorem dx_listRg (hl : Γ.W.mg "list" = Option.none) (hr : Γ.W.mg "range" = Option.none) (h : DX Γ F ρ M e fun z M1 => ∃ n : Nat, z = .d (.int (n : Nat)) ∧ n ≤ 100000 ∧ P (.r M1.length) (M1 ++ [.lst (rngD n)])) (g1 : Glo Γ "list" := by rfl) (g2 : Glo Γ "range" := by rfl) (n : NS e := by intro _ _; rfl) :
    DX Γ F ρ M (.Call (.Name "list" p) [.Call (.Name "range" p1) [e] [] p2] [] p3) P := fun A H σ ps E Q q =>
  WG.of (te := tLstRg (tRg1 (WG Γ e))) (fun X hX => pe_listRg hX.calm (gl_of hX g1) (by rw [hX.mg]; exact hl) (prg_1 (gl_of hX g2) (by rw [hX.mg]; exact hr) (pe_wg hX) (n [] X.env))) (h A H σ ps E _ fun v z A1 H1 M1 ps1 x1 E1 r ⟨k, hz, hk, hp⟩ => by
    subst hz
    refine ⟨(k : Int), dp_int r, RgOk.of_le (by omega) (by omega) (by omega) (by omega), fun l hn => q _ (.r M1.length) A1 _ _ (ps1 ++ [l]) (x1.trans ⟨Ex.refl _, [l], rfl⟩) (E1.newM (m := .lst (rngD k)) hn ⟨_, upd_same, dpa_rg k⟩) ⟨l, at_end E1.ms.ln, rfl⟩ hp⟩)
theorem dx_tupRg (hl : Γ.W.mg "tuple" = Option.none) (hr : Γ.W.mg "range" = Option.none) (h : DX Γ F ρ M e fun z M1 => ∃ n : Nat, z = .d (.int (n : Nat)) ∧ n ≤ 100000 ∧ P (.d (.tuple (rngD n))) M1) (g1 : Glo Γ "tuple" := by rfl) (g2 : Glo Γ "range" := by rfl) (n : NS e := by intro _ _; rfl) :
    DX Γ F ρ M (.Call (.Name "tuple" p) [.Call (.Name "range" p1) [e] [] p2] [] p3) P := fun A H σ ps E Q q =>
  WG.of (te := tTupRg (tRg1 (WG Γ e))) (fun X hX => pe_tupRg hX.calm (gl_of hX g1) (by rw [hX.mg]; exact hl) (prg_1 (gl_of hX g2) (by rw [hX.mg]; exact hr) (pe_wg hX) (n [] X.env))) (h A H σ ps E _ fun v z A1 H1 M1 ps1 x1 E1 r ⟨k, hz, hk, hp⟩ => by
    subst hz
    refine ⟨(k : Int), dp_int r, RgOk.of_le (by omega) (by omega) (by omega) (by omega), fun l hn => ?_⟩
    have w := Gw.new (o := .tup (rgV 0 (k : Int))) E1.ah hn
    exact q _ (.d (.tuple (rngD k))) _ _ M1 ps1 (x1.trans (.of w.a)) (E1.step w) (.tup (st_of upd_same) (dpa_rg k)) hp)
/-- x.pop(e) -/
theorem dx_popAt (hN : Γ.N[i]? = some x) (hr : ρ[i]? = some (some (.r j))) {ds0 : List PyData} (hm : M[j]? = some (.lst ds0)) (h : DX Γ F ρ M e fun z M1 => ∃ (k : Nat) (ds : List PyData) (d : PyData), z = .d (.int (k : Nat)) ∧ M1[j]? = some (.lst ds) ∧ ds[k]? = some d ∧ ds.length ≤ 100000 ∧ P (.d d) (M1.set j (.lst (ds.eraseIdx k)))) (ne : NS e := by intro _ _; rfl)
    (hline : (ap.endLine == cp.line) = true := by rfl) (hv : Vis Γ.sc x := by first | exact Or.inl rfl | exact Or.inr (Or.inl rfl) | exact Or.inr (Or.inr rfl)) (hd : (x == ("__debug__" : Str)) = false := by decide) (hcd : (x == ("__classdict__" : Str)) = false := by decide) :
    DX Γ F ρ M (.Call (.Attribute (.Name x px) "pop" ap) [e] [] cp) P := fun A H σ ps E Q q => by
  obtain ⟨l, h1, h2⟩ := E.rs.1 i j hr
  obtain ⟨g1, ⟨xs, g2, g3⟩, _⟩ := E.ms.mo j _ l hm h1
  refine WG.of (te := tBM Γ.W.K "list" rPopAt (tVar i) (tCons (WG Γ e) tNil)) (fun X hX => hX.K ▸ pe_bm PySem.F.plainAttrs_list PySem.F.slot_list_pop PySem.F.type_list_pop mt_popAt (var_of hX hN hv hd hcd) (pa_cons (pe_wg hX) pa_nil (ne [] X.env)) rfl (by
    have z := ne [] X.env
    rw [z]
    rfl) hline (ne [] X.env) rfl) ⟨_, h2, .inl ⟨rfl, xs, sq_of g2⟩, h A H σ ps E _ fun v z A1 H1 M1 ps1 e1 E1 r ⟨k, ds, d, hz, hm1, hk, hl, hp⟩ => ?_⟩
  subst hz
  have hq := e1.at h1
  obtain ⟨g4, ⟨ys, g5, g6⟩, g7⟩ := E1.ms.mo j _ l hm1 hq
  obtain ⟨y, hy, hyd⟩ := g6.get hk
  have kl : k < ys.length := (List.getElem?_eq_some_iff.mp hy).1
  have yl : ys.length ≤ 100000 := by rw [g6.len]; exact hl
  refine ⟨l, ys, (k : Int), k, y, rfl, by rw [dp_int r], g5, by omega, by omega, ?_, hy, q y (.d d) A1 _ _ ps1 e1 (E1.mut (m := .lst (ds.eraseIdx k)) hm1 rfl hq g5 noHit_lst ⟨_, upd_same, dpa_erase k g6⟩) hyd hp⟩
  unfold seqIndex?
  have c1 : ¬ (k : Int) < 0 := by omega
  have c2 : (decide (0 ≤ (k : Int)) && decide ((k : Int) < (ys.length : Int))) = true := by simp; omega
  simp only [if_neg c1, c2, if_true, Int.toNat_natCast]
/-- a * k of a list -/
theorem dx_rep (ha : DX Γ F ρ M a fun z M1 => ∃ (j : Nat) (ds : List PyData), z = .r j ∧ DX Γ F ρ M1 b fun y M2 => ∃ k : Nat, y = .d (.int (k : Nat)) ∧ M2[j]? = some (.lst ds) ∧ ds.length * k ≤ 100000 ∧ k ≤ 100000 ∧ P (.r M2.length) (M2 ++ [.lst (List.replicate k ds).flatten])) : DX Γ F ρ M (.BinOp a .Mult b pos) P := fun A H σ ps E Q q =>
  WG.of (te := tOp rRep (WG Γ a) (WG Γ b)) (fun X h => pe_op op_rep (pe_wg h) (pe_wg h)) (ha A H σ ps E _ fun v z A1 H1 M1 ps1 e1 E1 r ⟨j, ds, hz, hb⟩ => by
    subst hz
    obtain ⟨l, hl, rfl⟩ := r
    refine hb A1 H1 σ ps1 E1 _ fun y z2 A2 H2 M2 ps2 e2 E2 r2 ⟨k, hz2, hm, h1, h2, hp⟩ => ?_
    subst hz2
    obtain ⟨_, ⟨xs, g2, g3⟩, _⟩ := E2.ms.mo j _ l hm (e2.at hl)
    refine ⟨l, (k : Int), xs, rfl, dp_int r2, g2, by omega, by omega, by rw [g3.len, Int.toNat_natCast]; exact sz_of h1, fun n hn => ?_⟩
    rw [Int.toNat_natCast]
    exact q _ (.r M2.length) A2 _ _ (ps2 ++ [n]) ((e1.trans e2).trans ⟨Ex.refl _, [n], rfl⟩) (E2.newM (m := .lst (List.replicate k ds).flatten) hn ⟨_, upd_same, dpa_rep g3 k⟩) ⟨n, at_end E2.ms.ln, rfl⟩ hp)
/-- x[b] = e -/
theorem s_setIx (hN : Γ.N[i]? = some x) (hr : ρ[i]? = some (some (.r j))) {k : Nat} (hb : XD Γ ρ b (.int (k : Nat))) (h : DX Γ B.F ρ M e fun z M1 => ∃ (ds : List PyData) (d : PyData), z = .d d ∧ M1[j]? = some (.lst ds) ∧ k < ds.length ∧ N ρ (M1.set j (.lst (ds.set k d))))
    (hs : ∀ env, swapsWithSole [.Subscript (.Name x px) b tp] e pos.line env = pure false := by intro _; rfl) (hw : ∀ env, swappedStores [.Subscript (.Name x px) b tp] e env = pure none := by intro _; rfl) (h1 : ∀ env, (assignEach [.Subscript (.Name x px) b tp] env).map (·.2) = [assign (.Subscript (.Name x px) b tp) env] := by intro _; rfl)
    (ha : ∀ env v, assign (.Subscript (.Name x px) b tp) env v = (do
      let ov ← holding [v] (eval (.Name x px) env)
      let iv ← holding [v, ov] (eval b env)
      standAt tp
      holding [v, ov, iv] (setItem ov iv v)
      release [v, ov, iv] []) := by intro _ _; rfl)
    (hv : Vis Γ.sc x := by first | exact Or.inl rfl | exact Or.inr (Or.inl rfl) | exact Or.inr (Or.inr rfl)) (hd : (x == ("__debug__" : Str)) = false := by decide) (hcd : (x == ("__classdict__" : Str)) = false := by decide) :
    DS1 Γ B ρ M (.Assign [.Subscript (.Name x px) b tp] e pos) N := fun A H σ ps E D hD kk =>
  WGs.of (ts := tAsg (WG Γ e) (gSub (tVar i) (WG Γ b) rSetL)) (fun X hX => ps_asg (pe_wg hX) (pg_sub (var_of hX hN hv hd hcd) (pe_wg hX) set_list (ha X.env)) (hs X.env) (hw X.env) (h1 X.env)) (h A H σ ps E _ fun v z A1 H1 M1 ps1 e1 E1 r ⟨ds, d, hz, hm, hk, n⟩ => by
    subst hz
    obtain ⟨l, g1, g2⟩ := E1.rs.1 i j hr
    refine ⟨_, g2, (hb σ A1 E1.sl).run E1.ah fun y A2 H2 w hy => ?_⟩
    have E2 := E1.step w
    obtain ⟨_, ⟨xs, k1, k2⟩, _⟩ := E2.ms.mo j _ l hm g1
    have kl : k < xs.length := by rw [k2.len]; exact hk
    refine ⟨l, xs, (k : Int), k, rfl, dp_int hy, k1, ?_, kk A2 _ σ ρ _ ps1 (e1.trans (.of w.a)) (E2.mut (m := .lst (ds.set k d)) hm rfl g1 k1 noHit_lst ⟨_, upd_same, k2.set (Dp.ex r w.a) k⟩) n⟩
    unfold ixN
    rw [if_pos (by omega), if_pos (by omega), Int.toNat_natCast])
/-- sorted(e) of whole numbers -/
theorem dx_sortI (hm : Γ.W.mg "sorted" = Option.none) (h : DX Γ F ρ M e fun z M1 => ∃ is : List Int, z = .d (.list (is.map .int)) ∧ ∀ js : List Int, js.Perm is → P (.d (.list (js.map .int))) M1) (g : Glo Γ "sorted" := by rfl) (n : NS e := by intro _ _; rfl) : DX Γ F ρ M (.Call (.Name "sorted" p) [e] [] pos) P := fun A H σ ps E Q q =>
  WG.of (te := tCB (wCl Γ (.builtin "sorted")) (tCons (WG Γ e) tNil)) (fun X hX => pe_callB (cl_w hX) (gl_of hX g) (by rw [hX.mg]; exact hm) PyProof.Rows.boot_sorted (pa_cons (pe_wg hX) pa_nil (n [] X.env)) (by decide) (by decide) (n [] X.env) rfl) (h A H σ ps E _ fun v z A1 H1 M1 ps1 x1 E1 r ⟨is, hz, hp⟩ => by
    subst hz
    obtain ⟨l, xs, rfl, hs, hx⟩ := dp_list r
    have ex := dpa_ints_eq hx
    subst ex
    refine wCl.of (r := rSortedI Γ.W.K) (fun X hX => hX.K ▸ cr_sortedI) ⟨l, is, rfl, ex_l E1.ah hs, fun js p2 hj _ hn => ?_⟩
    have w := Gw.new (o := .lst (js.map V.int)) E1.ah hn
    exact q _ (.d (.list (js.map .int))) _ _ M1 ps1 (x1.trans (.of w.a)) (E1.step w) (.lst (sq_of upd_same) (dpa_ints js)) (hp js hj))
/-- o.join(e) -/
theorem xd_join {sep : Str} {ys : List Str} (ho : XD Γ ρ o (.str sep)) (he : XD Γ ρ e (strsD ys)) (hz : (ys.map (·.length)).sum + ys.length * sep.length ≤ 100000) (ne : ∀ env, starEach [e] env = [(false, eval e env)] := by intro _; rfl) (hb : ∀ env, attributeBase o "join" env (eval o env) = eval o env := by intro _; rfl) (hl : (ap.endLine == pos.line) = true := by rfl) :
    XD Γ ρ (.Call (.Attribute o "join" ap) [e] [] pos) (.str (Txt.join sep ys)) := fun σ A sl => up_d (te := tM1 (fun x xs H Q => ∃ a p, ∃ ys : List Str, x = .str a ∧ xs = [.ref p] ∧ (SqL Γ.W.K H p (ys.map V.str) ∨ SqT Γ.W.K H p (ys.map V.str)) ∧ (ys.map (·.length)).sum + ys.length * a.length ≤ 16777216 ∧ Q (.str (Txt.join a ys)) H) (WG Γ o) (WG Γ e)) (fun X hX => by
    have z := pe_join (X := X) (pos := pos) (apos := ap) (pe_wg (e := o) hX) (pe_wg (e := e) hX) (ne X.env) (hb X.env) hl
    rw [hX.K] at z
    exact z) (ed_mk fun H a Q q =>
  (ho σ A sl).run a fun v A2 H2 w hv => by
    have ev := dp_str hv
    subst ev
    refine ⟨⟨sep, rfl⟩, (he σ A2 (sl.mono w.a)).run w.k fun u A3 H3 w3 hu => ?_⟩
    obtain ⟨l, xs, rfl, hs, hx⟩ := dp_list hu
    have ex := dpa_strs_eq hx
    subst ex
    exact ⟨sep, l, ys, rfl, rfl, .inl (ex_l w3.k hs), by omega, q _ A3 H3 (w.trans w3) (.str _)⟩)
theorem of_strS {w : Str} : OF Γ (.type "str") [.str w] (.str w) := ⟨_, fun X h => SkE.call_str_str, fun vs A H a hvs Q q => by
  obtain ⟨v, rfl, hv⟩ := dpa1 hvs
  rw [dp_str hv]
  exact ⟨w, rfl, q _ A H (Gw.refl a) (.str _)⟩⟩
end
end Ev
namespace Ev
open PySem PySem.Spec PyProof.Rows L2 Evl
theorem fin2 {n : Nat} {M' xs : List MO} {Q : List MO → Prop} (hl : M'.length = n) (ho : okM n M') (h : Q M') : okM n ((M' ++ xs).take n) ∧ Q ((M' ++ xs).take n) := by
  have e : (M' ++ xs).take n = M' := by
    rw [← hl]
    exact List.take_left
  rw [e]
  exact ⟨ho, h⟩
theorem g1 {M' : List MO} {n : Nat} {a b : MO} (hl : M'.length = n) : (M' ++ [a, b])[n]? = some a := by
  subst hl
  simp
theorem g2 {M' : List MO} {n : Nat} {a b : MO} (hl : M'.length = n) : (M' ++ [a, b])[n + 1]? = some b := by
  subst hl
  simp
theorem gl {M' xs : List MO} {n j : Nat} {m : MO} (hl : M'.length = n) (hj : j < n) (h : M'[j]? = some m) : (M' ++ xs)[j]? = some m := by
  rw [List.getElem?_append_left (by omega)]
  exact h
theorem t1 {M' : List MO} {n : Nat} {a b c : MO} (hl : M'.length = n) : (M' ++ [a, b]).set n c = M' ++ [c, b] := by
  subst hl
  simp
theorem t2 {M' : List MO} {n : Nat} {a b c : MO} (hl : M'.length = n) : (M' ++ [a, b]).set (n + 1) c = M' ++ [a, c] := by
  subst hl
  simp
theorem tl {M' xs : List MO} {n j : Nat} {m : MO} (hl : M'.length = n) (hj : j < n) : (M' ++ xs).set j m = M'.set j m ++ xs := by
  rw [List.set_append_left _ _ (by omega)]
theorem okM_app' {n : Nat} {M' xs : List MO} (hl : M'.length = n) (h : okM n M') (hx : xs.all noRfs = true) : okM (M' ++ xs).length (M' ++ xs) := by
  subst hl
  exact okM_app h hx
theorem canLay_sm {n : Nat} : ∀ {ds : List PyData}, (∀ d ∈ ds, SmI n d) → PyData.canLayAll0 ds = true ∧ PyData.depthAll ds = 0
  | [], _ => ⟨rfl, rfl⟩
  | d :: ds, h => by
    obtain ⟨k, rfl, _⟩ := h d List.mem_cons_self
    obtain ⟨i1, i2⟩ := canLay_sm fun e he => h e (List.mem_cons_of_mem _ he)
    rw [PyData.canLayAll0, PyData.depthAll, i1, i2]
    exact ⟨rfl, rfl⟩
theorem shaped_sm {n : Nat} {ds : List PyData} (h : ∀ d ∈ ds, SmI n d) : SeqAt.shaped (.list ds) = true := by
  obtain ⟨i1, i2⟩ := canLay_sm h
  unfold SeqAt.shaped
  rw [Bool.and_eq_true, decide_eq_true_eq, PyData.canLay0, PyData.depth]
  exact ⟨i1, by omega⟩
theorem eqv_nilB : ∀ ds : List PyData, PyData.eqv (.list ds) (.list []) = ds.isEmpty
  | [] => rfl
  | _ :: _ => rfl
theorem sm_erase {n : Nat} {ds : List PyData} {k : Nat} (h : ∀ d ∈ ds, SmI n d) : ∀ d ∈ ds.eraseIdx k, SmI n d := fun d hd => h d (List.mem_of_mem_eraseIdx hd)
theorem sm_rng (n : Nat) : ∀ d ∈ rngD n, SmI n d := fun d hd => by
  obtain ⟨k, hk, rfl⟩ := List.mem_map.mp hd
  exact ⟨k, rfl, List.mem_range.mp hk⟩
theorem rng_len (n : Nat) : (rngD n).length = n := by simp [rngD]
abbrev RLOrder : MR := fun zs M P PX => ∃ (j many B : Nat) (m : MO), zs = [.r j, .d (.int (many : Nat))] ∧ many ≤ 100 ∧ M[j]? = some m ∧ DrawOk B m ∧ B < 999999000 ∧ okM M.length M ∧ ∀ (ds : List PyData) (m' : MO), (∀ d ∈ ds, SmI many d) → ds.length = many → DrawOk (B + many) m' → P (.d (.tuple ds)) (M.set j m')
abbrev FLOrder (W : Wd) : Prop := Fk W 2 "_law_order" ["_law_draw", "_law_many"] (spM W 2 RLOrder)
section
variable {W : Wd}
theorem ok_law_order (b : Bl W) (t : Dg W "_law_order" 69) (fN : FNext W) : FLOrder W := by
  obtain ⟨f, fd, F, hg⟩ := t
  have S : FnScope ["_law_draw", "_law_many", "_law_found", "_law_some_here"] ["_law_draw", "_law_many"] (defScope (top 69)) := ⟨rfl, rfl, rfl, by decide +kernel, rfl, by decide +kernel, by decide +kernel⟩
  refine fkM F S hg (F.bindsN (fun _ _ _ _ _ _ us hl => match us, hl with | [_, _], _ => rfl)) rfl fun E B zs M P PX hF hRt hPX hl hR => ?_
  obtain ⟨j, many, D, m, rfl, h1, hm, hd, hD, ho, hP⟩ := hR
  have jl : j < M.length := (List.getElem?_eq_some_iff.mp hm).1
  refine ds_cons (s_par2 (i := 2) (j := 3) rfl rfl (dxs_cons (dx_newL (dxs_nil ⟨[], rfl, by simp, dxs_cons (dx_listRg b.list b.range (dx_d (xv 1 rfl rfl) ⟨many, rfl, by omega, dxs_nil ⟨_, _, rfl, ?_⟩⟩))⟩))))
  have e1 : (M ++ [MO.lst []]).length = M.length + 1 := by simp
  have e2 : (M ++ [MO.lst []]) ++ [MO.lst (rngD many)] = M ++ [MO.lst [], MO.lst (rngD many)] := by simp
  rw [e1, e2]
  refine ds_cons (s_while (fun k ρ1 M1 => ∃ (m' : MO) (M' : List MO) (fs ss : List PyData), M' = M.set j m' ∧ ρ1 = [some (.r j), some (.d (.int (many : Nat))), some (.r M.length), some (.r (M.length + 1))] ∧ M1 = M' ++ [.lst fs, .lst ss] ∧ k = ss.length ∧ fs.length + ss.length = many ∧ (∀ d ∈ fs, SmI many d) ∧ (∀ d ∈ ss, SmI many d) ∧ DrawOk (D + fs.length) m') many
    ⟨m, M, [], rngD many, (set_same hm).symm, rfl, rfl, (rng_len many).symm, by rw [rng_len]; simp, (fun d z => by cases z), sm_rng many, hd⟩ fun k ρ1 M1 hI => ?_)
  obtain ⟨m', M', fs, ss, rfl, rfl, rfl, rfl, hlen, hfs, hss, hd'⟩ := hI
  have ml : (M.set j m').length = M.length := List.length_set
  have oM : okM M.length (M.set j m') := okM_set ho hd'.nrf
  have jm : (M.set j m')[j]? = some m' := List.getElem?_set_self jl
  have gr : (rhoM [some (.r j), some (.d (.int (many : Nat))), some (.r M.length), some (.r (M.length + 1))] (M.set j m' ++ [.lst fs, .lst ss]))[3]? = some (some (.d (.list ss))) := by
    show some (match (M.set j m' ++ [MO.lst fs, MO.lst ss])[M.length + 1]? with
      | some (.lst ds) => some (SV.d (.list ds))
      | _ => none) = _
    rw [g2 ml]
  refine dt_m (k := !ss.isEmpty) (XT.is (xt_cmp (xv 3 rfl gr) (xd_lst xds_nil (by simp)) (oc_neD (shaped_sm hss) rfl)) (by rw [eqv_nilB])) ⟨fun hk => ?_, fun hk => ?_⟩
  · have ne : 1 ≤ ss.length := by
      cases ss with
      | nil => cases hk
      | cons _ _ => simp
    refine ds_one (s_app (i := 2) (j := M.length) rfl rfl (g1 ml) (dx_popAt (i := 3) (j := M.length + 1) rfl rfl (g2 ml) (dx_next (i := 0) fN rfl rfl (dx_m (d := .int (ss.length : Nat)) (xd_callB boot_len b.len (xds_cons (xv 3 rfl gr) xds_nil) of_lenL) rfl ⟨ss.length, _, m', rfl, gl ml jl jm, hd', by omega, ne, by omega, okM_app' ml oM rfl, fun n m2 hn hd2 => ?_⟩))))
    have ml2 : (M.set j m2).length = M.length := List.length_set
    rw [tl ml jl, List.set_set]
    refine ⟨n, ss, ss[n], rfl, g2 ml2, List.getElem?_eq_getElem hn, by omega, ?_⟩
    rw [t2 ml2]
    refine ⟨fs, _, rfl, g1 ml2, by omega, ?_⟩
    rw [t1 ml2]
    exact ⟨ss.length - 1, by omega, m2, _, fs ++ [ss[n]], ss.eraseIdx n, rfl, rfl, rfl, by rw [List.length_eraseIdx_of_lt hn], by rw [List.length_append, List.length_eraseIdx_of_lt hn, List.length_singleton]; omega, fun d hd => by
      rcases List.mem_append.mp hd with z | z
      · exact hfs d z
      · rw [List.mem_singleton.mp z]
        exact hss _ (List.getElem_mem hn), sm_erase hss, by rw [List.length_append]; exact hd2⟩
  · have e : ss = [] := by
      cases ss with
      | nil => rfl
      | cons _ _ => cases hk
    subst e
    have hlf : fs.length = many := by simpa using hlen
    refine ds_one (s_ret (dx_tupM b.tuple (dx_r (i := 2) rfl rfl ⟨M.length, fs, rfl, g1 ml, ?_⟩)))
    rw [hRt]
    exact ⟨trivial, fin2 ml oM (hP fs m' hfs hlf (by rw [← hlf]; exact hd'))⟩
end
end Ev
namespace Ev
open PySem PySem.Spec PyProof.Rows L2 Evl
abbrev RLLag : MR := fun zs M P PX => ∃ (j names B : Nat) (m : MO), zs = [.r j, .d (.int (names : Nat))] ∧ 1 ≤ names ∧ names ≤ 100 ∧ M[j]? = some m ∧ DrawOk B m ∧ B < 999999000 ∧ okM M.length M ∧ ∀ (ds : List PyData) (m' : MO), (∀ d ∈ ds, SmI 4 d) → ds.length = names → DrawOk (B + 5) m' → P (.d (.tuple ds)) (M.set j m')
abbrev FLLag (W : Wd) : Prop := Fk W 2 "_law_lag" ["_law_draw", "_law_names"] (spM W 2 RLLag)
theorem sm_min {x y : Nat} : SmI 4 (.int (if (((x : Nat) : Int) + 1 + (y : Nat)) < 3 then ((x : Nat) : Int) + 1 + (y : Nat) else 3)) := by
  by_cases h : (((x : Nat) : Int) + 1 + (y : Nat)) < 3
  · rw [if_pos h]
    exact ⟨x + 1 + y, rfl, by omega⟩
  · rw [if_neg h]
    exact ⟨3, rfl, by omega⟩
theorem sm_set {n k : Nat} {ds : List PyData} {e : PyData} (h : ∀ d ∈ ds, SmI n d) (he : SmI n e) : ∀ d ∈ ds.set k e, SmI n d := fun d hd => by
  rcases List.mem_or_eq_of_mem_set hd with z | z
  · exact h d z
  · rw [z]
    exact he
section
variable {W : Wd}
theorem ok_law_lag (b : Bl W) (t : Dg W "_law_lag" 70) (fN : FNext W) : FLLag W := by
  obtain ⟨f, fd, F, hg⟩ := t
  have S : FnScope ["_law_draw", "_law_names", "_law_found", "_law_k", "_law_at"] ["_law_draw", "_law_names"] (defScope (top 70)) := ⟨rfl, rfl, rfl, by decide +kernel, rfl, by decide +kernel, by decide +kernel⟩
  refine fkM F S hg (F.bindsN (fun _ _ _ _ _ _ us hl => match us, hl with | [_, _], _ => rfl)) rfl fun E B zs M P PX hF hRt hPX hl hR => ?_
  obtain ⟨j, names, D, m, rfl, h0, h1, hm, hd, hD, ho, hP⟩ := hR
  have jl : j < M.length := (List.getElem?_eq_some_iff.mp hm).1
  have e2 : (M ++ [MO.lst [.int 0]]) ++ [MO.lst (List.replicate names [PyData.int 0]).flatten] = M ++ [MO.lst [.int 0], MO.lst (List.replicate names [PyData.int 0]).flatten] := by simp
  have e1 : (M ++ [MO.lst [PyData.int 0]]).length = M.length + 1 := by simp
  have zl : (List.replicate names [PyData.int 0]).flatten.length = names := by simp
  have zs : ∀ d ∈ (List.replicate names [PyData.int 0]).flatten, SmI 4 d := fun d hd => by
    obtain ⟨l, hl, hdl⟩ := List.mem_flatten.mp hd
    rw [(List.mem_replicate.mp hl).2] at hdl
    rw [List.mem_singleton.mp hdl]
    exact ⟨0, rfl, by omega⟩
  refine ds_cons (s_asg (i := 2) rfl (dx_rep (dx_newL (dxs_d (xds_cons xd_i xds_nil) ⟨[.int 0], rfl, by simp, M.length, _, rfl, dx_d (xv 1 rfl rfl) ⟨names, rfl, at_end rfl, by simp; omega, by omega, ?_⟩⟩))))
  rw [e1, e2]
  refine ds_cons (s_for (di_range b.range (dx_next (i := 0) fN rfl rfl (dx_d xd_i ⟨3, _, m, rfl, gl rfl jl hm, hd, by omega, by omega, by omega, okM_app' rfl ho rfl, fun n m1 hn hd1 => ⟨n, rfl, by omega, fun i ρ1 M1 => ∃ (m' : MO) (fs : List PyData) (o1 o2 : Option SV), ρ1 = [some (.r j), some (.d (.int (names : Nat))), some (.r (M.length + 1)), o1, o2] ∧ M1 = M.set j m' ++ [.lst [.int 0], .lst fs] ∧ fs.length = names ∧ (∀ d ∈ fs, SmI 4 d) ∧ DrawOk (D + 1 + 2 * i) m', ?_, fun i d ρ1 M1 hi hI => ?_, fun ρ1 M1 hI => ?_⟩⟩))))
  · rw [tl rfl jl]
    exact ⟨m1, _, _, _, rfl, rfl, zl, zs, hd1⟩
  · obtain ⟨m', fs, o1, o2, rfl, rfl, hfl, hfs, hd'⟩ := hI
    obtain ⟨hin, rfl⟩ := range_at hi
    have ml : (M.set j m').length = M.length := List.length_set
    refine ⟨_, _, tg_name (i := 3) rfl, ds_cons (s_asg (i := 4) rfl (dx_next (i := 0) fN rfl rfl (dx_d (xv 1 rfl rfl) ⟨names, _, m', rfl, gl ml jl (List.getElem?_set_self jl), hd', by omega, h0, by omega, okM_app' ml (okM_set ho hd'.nrf) rfl, fun a m2 ha hd2 => ?_⟩)))⟩
    have ml2 : (M.set j m2).length = M.length := List.length_set
    rw [tl ml jl, List.set_set]
    have hx : fs[a]? = some fs[a] := List.getElem?_eq_getElem (by omega)
    obtain ⟨x, hx1, hx2⟩ := hfs fs[a] (List.getElem_mem _)
    rw [hx1] at hx
    refine ds_one (s_setIx (i := 2) (j := M.length + 1) (k := a) rfl rfl (xv 4 rfl rfl) (dx_callB boot_min b.min (dxs_cons (dx_d xd_i (dxs_cons (dx_bin (dx_bin (dx_ixM (i := 2) (ds := fs) (k := (a : Nat)) (z := .int x) rfl rfl (dx_d (xv 4 rfl rfl) ⟨(a : Nat), fs, .int (x : Nat), rfl, g2 ml2, atI_nat hx, ⟨_, rfl, dx_d xd_i ⟨_, rfl, _, ob_add, ⟨_, rfl, dx_next (i := 0) fN rfl rfl (dx_d xd_i ⟨2, _, m2, rfl, gl ml2 jl (List.getElem?_set_self jl), hd2, by omega, by omega, by omega, okM_app' ml2 (okM_set ho hd2.nrf) rfl, fun y m3 hy hd3 => ⟨_, rfl, _, ob_add, dxs_nil ⟨[_, _], _, rfl, of_min, ?_⟩⟩⟩)⟩⟩⟩⟩)))))))))
    have ml3 : (M.set j m3).length = M.length := List.length_set
    rw [tl ml2 jl, List.set_set]
    refine ⟨fs, _, rfl, g2 ml3, by omega, ?_⟩
    rw [t2 ml3]
    exact ⟨m3, _, _, _, rfl, rfl, by rw [List.length_set]; exact hfl, sm_set hfs sm_min, by
      have e : D + 1 + 2 * i + 1 + 1 = D + 1 + 2 * (i + 1) := by omega
      rw [← e]
      exact hd3⟩
  · obtain ⟨m', fs, o1, o2, rfl, rfl, hfl, hfs, hd'⟩ := hI
    rw [range_len] at hd'
    have ml : (M.set j m').length = M.length := List.length_set
    refine ds_one (s_ret (dx_tupM b.tuple (dx_r (i := 2) rfl rfl ⟨M.length + 1, fs, rfl, g2 ml, ?_⟩)))
    rw [hRt]
    exact ⟨trivial, fin2 ml (okM_set ho hd'.nrf) (hP fs m' hfs hfl (hd'.mono (by omega)))⟩
end
end Ev
namespace Ev
open PySem PySem.Spec PyProof.Rows L2 Evl
open PySem.W (AllAlike Sortable alike alikeAll)
/-! ### what is drawn as a rack -/
def TupSm (n len : Nat) (d : PyData) : Prop := ∃ xs, d = .tuple xs ∧ xs.length = len ∧ ∀ x ∈ xs, SmI n x
def CabW (d : PyData) : Prop := ∃ (a b : Nat) (s : Str), d = .tuple [.int (a : Nat), .int (b : Nat), .str s] ∧ a < 4 ∧ b < 4 ∧ (s = "post" ∨ s = "pre")
def LpW (nm : Nat) (d : PyData) : Prop := ∃ (a b : Nat) (xs : List PyData), d = .tuple [.int (a : Nat), .int (b : Nat), .tuple xs] ∧ a < 4 ∧ b < 4 ∧ xs.length = nm ∧ ∀ x ∈ xs, SmI 5 x
structure RackW (d : PyData) : Prop where
  ex : ∃ (nm : Nat) (lags cabs lps : List PyData), d = .tuple [.int (nm : Nat), .tuple lags, .tuple cabs, .tuple lps] ∧ 1 ≤ nm ∧ nm ≤ 3 ∧ 1 ≤ lags.length ∧ lags.length ≤ 4 ∧ (∀ d ∈ lags, TupSm 4 nm d) ∧ cabs.length ≤ 5 ∧ (∀ d ∈ cabs, CabW d) ∧ lps.length ≤ 2 ∧ ∀ d ∈ lps, LpW nm d
theorem sm_keys {n : Nat} : ∀ {xs : List PyData}, (∀ x ∈ xs, SmI n x) → keysOk xs = true ∧ PyData.depthAll xs = 0
  | [], _ => ⟨rfl, rfl⟩
  | x :: xs, h => by
    obtain ⟨k, rfl, _⟩ := h x List.mem_cons_self
    obtain ⟨i1, i2⟩ := sm_keys fun y hy => h y (List.mem_cons_of_mem _ hy)
    rw [keysOk, PyData.depthAll, i1, i2]
    exact ⟨rfl, rfl⟩
theorem sm_alike {n m : Nat} : ∀ {xs ys : List PyData}, (∀ x ∈ xs, SmI n x) → (∀ y ∈ ys, SmI m y) → alikeAll xs ys = true
  | [], _, _, _ => by simp [alikeAll]
  | _ :: _, [], _, _ => by simp [alikeAll]
  | x :: xs, y :: ys, h, g => by
    obtain ⟨k, rfl, _⟩ := h x List.mem_cons_self
    obtain ⟨l, rfl, _⟩ := g y List.mem_cons_self
    rw [alikeAll, sm_alike (fun z hz => h z (List.mem_cons_of_mem _ hz)) fun z hz => g z (List.mem_cons_of_mem _ hz)]
    simp [alike]
theorem keyL_cabs {ds : List PyData} (h : ∀ d ∈ ds, CabW d) (hl : ds.length < 64) : KeyL ds := ⟨hl, fun d hd => by
  obtain ⟨a, b, s, rfl, _⟩ := h d hd
  exact ⟨rfl, by simp [PyData.depth, PyData.depthAll], _, _, rfl⟩, fun d hd d' hd' => by
  obtain ⟨a, b, s, rfl, _⟩ := h d hd
  obtain ⟨a', b', s', rfl, _⟩ := h d' hd'
  simp [alike, alikeAll]⟩
theorem keyL_lps {nm : Nat} {ds : List PyData} (h : ∀ d ∈ ds, LpW nm d) (hl : ds.length < 64) : KeyL ds := ⟨hl, fun d hd => by
  obtain ⟨a, b, xs, rfl, _, _, _, hx⟩ := h d hd
  obtain ⟨i1, i2⟩ := sm_keys hx
  refine ⟨?_, ?_, _, _, rfl⟩
  · simp [keyOk, keysOk, i1]
  · simp [PyData.depth, PyData.depthAll, i2], fun d hd d' hd' => by
  obtain ⟨a, b, xs, rfl, _, _, _, hx⟩ := h d hd
  obtain ⟨a', b', xs', rfl, _, _, _, hx'⟩ := h d' hd'
  simp [alike, alikeAll, sm_alike hx hx']⟩
theorem cabs_of : ∀ {ds : List PyData}, (∀ d ∈ ds, CabW d) → ∃ cs : List Cab, ds = cs.map cabD ∧ ∀ c ∈ cs, ∃ k : Nat, c.2.1 = (k : Nat) ∧ k < 4
  | [], _ => ⟨[], rfl, fun c hc => by cases hc⟩
  | d :: ds, h => by
    obtain ⟨a, b, s, rfl, _, hb, _⟩ := h d List.mem_cons_self
    obtain ⟨cs, e, hc⟩ := cabs_of fun x hx => h x (List.mem_cons_of_mem _ hx)
    refine ⟨((a : Int), (b : Int), s) :: cs, by rw [e]; rfl, fun c m => ?_⟩
    rcases List.mem_cons.mp m with z | z
    · rw [z]
      exact ⟨b, rfl, hb⟩
    · exact hc c z
theorem reachRow_mem {x : Int} : ∀ (cs : List Cab) (f : List Int), x ∈ reachRow cs f → x ∈ f ∨ ∃ c ∈ cs, c.2.1 = x
  | [], f, h => .inl h
  | c :: cs, f, h => by
    have h : x ∈ reachRow cs (reachCab f c) := h
    rcases reachRow_mem cs _ h with z | ⟨d, hd, e⟩
    · rcases reachCab_mem.mp z with y | ⟨_, e⟩
      · exact .inl y
      · exact .inr ⟨c, List.mem_cons_self, e⟩
    · exact .inr ⟨d, List.mem_cons_of_mem _ hd, e⟩
theorem reachRow_lenW : ∀ (cs : List Cab) (f : List Int), f.length ≤ (reachRow cs f).length ∧ (reachRow cs f).length ≤ f.length + cs.length
  | [], f => ⟨Nat.le_refl _, Nat.le_refl _⟩
  | c :: cs, f => by
    obtain ⟨i1, i2⟩ := reachRow_lenW cs (reachCab f c)
    have e : f.length ≤ (reachCab f c).length ∧ (reachCab f c).length ≤ f.length + 1 := by
      unfold reachCab
      split
      · rw [List.length_append, List.length_singleton]
        omega
      · omega
    have e2 : reachRow (c :: cs) f = reachRow cs (reachCab f c) := rfl
    rw [e2, List.length_cons]
    omega
theorem reached_ok {cs : List Cab} {b : Int} : (∀ x ∈ reached cs b, x = b ∨ ∃ c ∈ cs, c.2.1 = x) ∧ 1 ≤ (reached cs b).length ∧ (reached cs b).length ≤ 1 + cs.length * cs.length := by
  have key : ∀ t : Nat, (∀ x ∈ reachN cs b t, x = b ∨ ∃ c ∈ cs, c.2.1 = x) ∧ 1 ≤ (reachN cs b t).length ∧ (reachN cs b t).length ≤ 1 + t * cs.length := fun t => by
    induction t with
    | zero => exact ⟨fun x hx => .inl (List.mem_singleton.mp hx), Nat.le_refl _, by simp [reachN]⟩
    | succ t ih =>
      obtain ⟨i1, i2, i3⟩ := ih
      obtain ⟨k1, k2⟩ := reachRow_lenW cs (reachN cs b t)
      refine ⟨fun x hx => ?_, ?_, ?_⟩
      · rcases reachRow_mem cs _ hx with z | z
        · exact i1 x z
        · exact .inr z
      · exact Nat.le_trans i2 k1
      · have e : (t + 1) * cs.length = t * cs.length + cs.length := Nat.succ_mul t cs.length
        have e2 : reachN cs b (t + 1) = reachRow cs (reachN cs b t) := rfl
        rw [e2, e]
        omega
  exact key cs.length
theorem g0 {M' : List MO} {n : Nat} {a : MO} (hl : M'.length = n) : (M' ++ [a])[n]? = some a := by
  subst hl
  simp
theorem t0 {M' : List MO} {n : Nat} {a c : MO} (hl : M'.length = n) : (M' ++ [a]).set n c = M' ++ [c] := by
  subst hl
  simp
abbrev szD : PyData := .tuple [.int 3, .int 4, .int 5]
abbrev RLRack : MR := fun zs M P PX => ∃ (j B : Nat) (m : MO), zs = [.r j, .d szD] ∧ M[j]? = some m ∧ DrawOk B m ∧ B < 999990000 ∧ okM M.length M ∧ ∀ (d : PyData) (m' : MO), RackW d → DrawOk (B + 60) m' → P (.d d) (M.set j m')
abbrev FLRack (W : Wd) : Prop := Fk W 3 "_law_rack" ["_law_draw", "_law_sizes"] (spM W 2 RLRack)
end Ev
namespace Ev
open PySem PySem.Spec PyProof.Rows L2 Evl
abbrev nsRk : List Str := ["_law_draw", "_law_sizes", "_law_names", "_law_boxes", "_law_k", "_law_lags", "_law_order_here", "_law_cables", "_law_end", "_law_loops", "_law_begin_here", "_law_at"]
abbrev noX {Γ : Gm} {F : Fm} : Xok Γ F (fun _ _ => False) := fun _ _ _ _ _ _ _ _ _ _ _ _ _ z => z.elim
abbrev FReach (W : Wd) : Prop := Fk W 1 "_law_reached" ["_law_cables", "_law_begin_here"] (spD W.K 2 RReach)
section
variable {W : Wd}
theorem ok_law_rack (b : Bl W) (t : Dg W "_law_rack" 71) (fN : FNext W) (fP : FPick W) (fO : FLOrder W) (fL : FLLag W) (fR : FReach W) : FLRack W := by
  obtain ⟨f, fd, F, hg⟩ := t
  have S : FnScope nsRk ["_law_draw", "_law_sizes"] (defScope (top 71)) := ⟨rfl, rfl, rfl, by decide +kernel, rfl, by decide +kernel, by decide +kernel⟩
  refine fkM F S hg (F.bindsN (fun _ _ _ _ _ _ us hl => match us, hl with | [_, _], _ => rfl)) rfl fun E B zs M P PX hF hRt hPX hl hR => ?_
  obtain ⟨j, D, m, rfl, hm, hd, hD, ho, hP⟩ := hR
  have jl : j < M.length := (List.getElem?_eq_some_iff.mp hm).1
  have back : ∀ x y, (M.set j x).set j y = M.set j y := fun x y => List.set_set ..
  have ml : ∀ x, (M.set j x).length = M.length := fun x => List.length_set
  have at_ : ∀ x, (M.set j x)[j]? = some x := fun x => List.getElem?_set_self jl
  have oM : ∀ {C : Nat} {x : MO}, DrawOk C x → okM (M.set j x).length (M.set j x) := fun {C x} h => by
    rw [ml]
    exact okM_set ho h.nrf
  refine ds_cons (s_asgTup (dxs_cons (dx_bin (dx_d xd_i ⟨_, rfl, dx_next (i := 0) fN rfl rfl (dx_d (xd_ix (xv 1 rfl rfl) xd_i (oi_T (atI_nat (j := 0) rfl))) ⟨3, _, m, rfl, hm, hd, by omega, by omega, by omega, ho, fun n m1 hn hd1 => ⟨_, rfl, _, ob_add,
    dxs_cons (dx_bin (dx_d xd_i ⟨_, rfl, dx_next (i := 0) fN rfl rfl (dx_d (xd_ix (xv 1 rfl rfl) xd_i (oi_T (atI_nat (j := 1) rfl))) ⟨4, _, m1, rfl, at_ m1, hd1, by omega, by omega, by omega, oM hd1, fun b0 m2 hb hd2 => ⟨_, rfl, _, ob_add, dxs_nil ⟨by simp, rfl, _, tv_cons (i := 2) rfl (tv_cons (i := 3) rfl tv_nil), ?_⟩⟩⟩)⟩))⟩⟩)⟩))))
  rw [back, show (1 : Int) + ((n : Nat) : Int) = ((n + 1 : Nat) : Int) by omega, show (1 : Int) + ((b0 : Nat) : Int) = ((b0 + 1 : Nat) : Int) by omega]
  obtain ⟨nm, hnm⟩ : ∃ nm, nm = n + 1 := ⟨_, rfl⟩
  obtain ⟨bx, hbx⟩ : ∃ bx, bx = b0 + 1 := ⟨_, rfl⟩
  rw [← hnm, ← hbx]
  refine ds_cons (s_par3 (i := 5) (j := 6) (l := 7) rfl rfl rfl (dxs_cons (dx_callT bt_tuple b.tuple (dxs_cons (dx_lc (own := [("_law_k", 4)]) (di_range b.range (dx_d (xv 3 rfl rfl) ⟨bx, rfl, by omega, by rw [range_len]; omega, fun i acc M' => ∃ m', M' = M.set j m' ∧ DrawOk (D + 2 + 5 * i) m' ∧ acc.length = i ∧ ∀ d ∈ acc, TupSm 4 nm d, ⟨m2, rfl, hd2, rfl, fun d z => by cases z⟩, fun i d acc M' hi hI hl => ?_, fun lags M' hI hl => ?_⟩)))))))
  · obtain ⟨m', rfl, hd', hal, ha⟩ := hI
    obtain ⟨hin, rfl⟩ := range_at hi
    refine ⟨_, _, fun k hk => hk, tg_name (i := 4) rfl, fun F' => dts_nil ⟨fun _ => dx_call (PX := fun _ _ => False) fL (.inr rfl) noX (dxs_cons (dx_r (i := 0) rfl rfl (dxs_d (xds_cons (xv 2 rfl rfl) xds_nil) ⟨rfl, j, nm, _, m', rfl, by omega, by omega, at_ m', hd', by omega, oM hd', fun ds m3 h1 h2 h3 => ⟨_, rfl, m3, back _ _, h3, by simp [hal], fun d hd => ?_⟩⟩))), fun z => by cases z⟩⟩
    rcases List.mem_append.mp hd with z | z
    · exact ha d z
    · exact ⟨ds, List.mem_singleton.mp z, h2, h1⟩
  obtain ⟨m', rfl, hd', hal, ha⟩ := hI
  rw [range_len] at hal hd'
  refine dxs_nil ⟨[_], _, rfl, of_tupL, dxs_cons (dx_call (PX := fun _ _ => False) fO (.inr rfl) noX (dxs_cons (dx_r (i := 0) rfl rfl (dxs_d (xds_cons (xv 3 rfl rfl) xds_nil) ⟨rfl, j, bx, _, m', rfl, by omega, at_ m', hd', by omega, oM hd', fun os m3 ho1 ho2 hd3 => dxs_cons (dx_newL (dxs_nil ⟨[], rfl, by simp, dxs_nil ⟨_, _, _, rfl, ?_⟩⟩))⟩))))⟩
  rw [back, ml]
  have hbx : 1 ≤ bx ∧ bx ≤ 4 := by omega
  have hnm3 : 1 ≤ nm ∧ nm ≤ 3 := by omega
  have gr : ∀ {x : MO} {xs : List MO}, (M.set j x ++ xs)[j]? = some x := fun {x xs} => gl (ml x) jl (at_ x)
  have sr : ∀ {x y : MO} {xs : List MO}, (M.set j x ++ xs).set j y = M.set j y ++ xs := fun {x y xs} => by rw [tl (ml x) jl, back]
  have oA : ∀ {C : Nat} {x : MO} {xs : List MO}, DrawOk C x → xs.all noRfs = true → okM (M.set j x ++ xs).length (M.set j x ++ xs) := fun {C x xs} h hx => okM_app (oM h) hx
  have osm : ∀ q, q < bx → ∃ a : Nat, os[q]? = some (.int (a : Nat)) ∧ a < 4 := fun q hq => by
    have hx : os[q]? = some os[q] := List.getElem?_eq_getElem (by omega)
    obtain ⟨a, h1, h2⟩ := ho1 os[q] (List.getElem_mem _)
    exact ⟨a, by rw [hx, h1], by omega⟩
  refine ds_cons (s_for (di_range b.range (DX.mono (P := fun z M1 => ∃ (c : Nat) (m' : MO), z = .d (.int (c : Nat)) ∧ c ≤ 5 ∧ (c = 0 ∨ 2 ≤ bx) ∧ M1 = M.set j m' ++ [.lst []] ∧ DrawOk (D + 27) m')
    (dx_if (dt_t (xt_cmp (xv 3 rfl rfl) xd_i oc_gt) ⟨fun h => dx_next (i := 0) fN rfl rfl (dx_d (xd_bin (xd_ix (xv 1 rfl rfl) xd_i (oi_T (atI_nat (j := 2) rfl))) xd_i ob_add) ⟨6, _, m3, rfl, gr, hd3, by omega, by omega, by omega, oA hd3 rfl, fun c m4 hc hd4 => ⟨c, m4, rfl, by omega, .inr (by have := of_decide_eq_true h; omega), sr, hd4.mono (by omega)⟩⟩), fun h => dx_d xd_i ⟨0, m3, rfl, by omega, .inl rfl, rfl, hd3.mono (by omega)⟩⟩))
    fun z M1 ⟨c, m4, hz, hc, hcb, hM1, hd4⟩ => ⟨c, hz, by omega, fun i ρ1 M1 => ∃ (m' : MO) (cs : List PyData) (o4 o8 : Option SV), ρ1 = [some (.r j), some (.d szD), some (.d (.int (nm : Nat))), some (.d (.int (bx : Nat))), o4, some (.d (.tuple lags)), some (.d (.tuple os)), some (.r M.length), o8, none, none, none] ∧ M1 = M.set j m' ++ [.lst cs] ∧ cs.length ≤ i ∧ (∀ d ∈ cs, CabW d) ∧ DrawOk (D + 27 + 3 * i) m',
      ⟨m4, [], _, _, rfl, hM1, Nat.le_refl _, (fun d z => by cases z), hd4⟩, fun i d ρ1 M1 hi hI => ?_, fun ρ1 M1 hI => ?_⟩)))
  · obtain ⟨m', cs, o4, o8, rfl, rfl, hcl, hcs, hd5⟩ := hI
    obtain ⟨hin, rfl⟩ := range_at hi
    have hb2 : 2 ≤ bx := by omega
    refine ⟨_, _, tg_name (i := 4) rfl, ds_cons (s_asg (i := 8) rfl (dx_bin (dx_d xd_i ⟨_, rfl, dx_next (i := 0) fN rfl rfl (dx_d (XD.is (xd_bin (xv 3 rfl rfl) xd_i ob_sub) (by rw [show ((bx : Nat) : Int) - 1 = ((bx - 1 : Nat) : Int) by omega])) ⟨bx - 1, _, m', rfl, gr, hd5, by omega, by omega, by omega, oA hd5 rfl, fun e m6 he hd6 => ⟨_, rfl, _, ob_add, ?_⟩⟩)⟩)))⟩
    rw [sr, show (1 : Int) + ((e : Nat) : Int) = ((e + 1 : Nat) : Int) by omega]
    obtain ⟨b1, hb1, hb1l⟩ := osm (e + 1) (by omega)
    refine ds_one (s_app (i := 7) (j := M.length) rfl rfl (g0 (ml _)) (dx_tup (dxs_cons (dx_ix (dx_d (xv 6 rfl rfl) ⟨_, rfl, dx_next (i := 0) fN rfl rfl (dx_d (xv 8 rfl rfl) ⟨e + 1, _, m6, rfl, gr, hd6, by omega, by omega, by omega, oA hd6 rfl, fun q m7 hq hd7 => ?_⟩)⟩)))))
    rw [sr]
    obtain ⟨a1, ha1, ha1l⟩ := osm q (by omega)
    refine ⟨_, rfl, _, oi_T (atI_nat ha1), dxs_cons (dx_d (xd_ix (xv 6 rfl rfl) (xv 8 rfl rfl) (oi_T (atI_nat hb1))) (dxs_cons (dx_call (PX := fun _ _ => False) fP (.inr rfl) noX (dxs_cons (dx_r (i := 0) rfl rfl (dxs_d (xds_cons (xd_lst (xds_cons xd_s (xds_cons xd_s (xds_cons xd_s xds_nil)))) xds_nil) ⟨rfl, j, _, m7, _, _, rfl, .inl rfl, by simp, by simp, gr, hd7, by omega, oA hd7 rfl, fun d m8 hdm hd8 => dxs_nil ⟨[_, _, _], rfl, by simp, ?_⟩⟩))))))⟩
    rw [sr]
    refine ⟨cs, _, rfl, g0 (ml _), by omega, ?_⟩
    rw [t0 (ml _)]
    refine ⟨m8, _, _, _, rfl, rfl, by rw [List.length_append, List.length_singleton]; omega, fun x hx => ?_, hd8.mono (by omega)⟩
    rcases List.mem_append.mp hx with z | z
    · exact hcs x z
    · rw [List.mem_singleton.mp z]
      simp only [List.mem_cons, List.not_mem_nil, or_false] at hdm
      rcases hdm with rfl | rfl | rfl
      · exact ⟨a1, b1, "post", rfl, ha1l, hb1l, .inl rfl⟩
      · exact ⟨a1, b1, "post", rfl, ha1l, hb1l, .inl rfl⟩
      · exact ⟨a1, b1, "pre", rfl, ha1l, hb1l, .inr rfl⟩
  obtain ⟨m5, cs, o4, o8, rfl, rfl, hcl, hcs, hd5⟩ := hI
  rw [range_len] at hcl hd5
  refine ds_cons (s_asg (i := 7) rfl (dx_callT bt_tuple b.tuple (dxs_cons (dx_sortSetK b.sorted b.set (dx_r (i := 7) rfl rfl ⟨cs, .inr ⟨M.length, rfl, g0 (ml _)⟩, keyL_cabs hcs (by omega), fun es he1 he2 => dxs_nil ⟨[_], _, rfl, of_tupL, ?_⟩⟩)))))
  refine ds_cons (s_asg (i := 9) rfl (dx_newL (dxs_nil ⟨[], rfl, by simp, ?_⟩)))
  have eM : (M.set j m5 ++ [MO.lst cs]).length = M.length + 1 := by rw [List.length_append, ml] <;> rfl
  have eM2 : (M.set j m5 ++ [MO.lst cs]) ++ [MO.lst []] = M.set j m5 ++ [MO.lst cs, MO.lst []] := by simp
  rw [eM, eM2]
  obtain ⟨cabs, rfl, hcabs⟩ := cabs_of fun d hd => hcs d (he1 d hd)
  have hcabl : cabs.length ≤ 5 := by
    rw [List.length_map] at he2
    omega
  refine ds_cons (s_for (di_range b.range (dx_next (i := 0) fN rfl rfl (dx_d xd_i ⟨3, _, m5, rfl, gr, hd5, by omega, by omega, by omega, oA hd5 rfl, fun c2 m6 hc2 hd6 => ⟨c2, rfl, by omega, fun i ρ1 M1 => ∃ (m' : MO) (ls : List PyData) (o4 o8 o10 : Option SV), ρ1 = [some (.r j), some (.d szD), some (.d (.int (nm : Nat))), some (.d (.int (bx : Nat))), o4, some (.d (.tuple lags)), some (.d (.tuple os)), some (.d (.tuple (cabs.map cabD))), o8, some (.r (M.length + 1)), o10, none] ∧ M1 = M.set j m' ++ [.lst cs, .lst ls] ∧ ls.length ≤ i ∧ (∀ d ∈ ls, LpW nm d) ∧ DrawOk (D + 43 + 5 * i) m', ?_, fun i d ρ1 M1 hi hI => ?_, fun ρ1 M1 hI => ?_⟩⟩))))
  · rw [sr]
    exact ⟨m6, [], _, _, _, rfl, rfl, Nat.le_refl _, (fun d z => by cases z), hd6.mono (by omega)⟩
  · obtain ⟨m', ls, o4, o8, o10, rfl, rfl, hll, hls, hd7⟩ := hI
    obtain ⟨hin, rfl⟩ := range_at hi
    refine ⟨_, _, tg_name (i := 4) rfl, ds_cons (s_asg (i := 8) rfl (dx_next (i := 0) fN rfl rfl (dx_d (xv 3 rfl rfl) ⟨bx, _, m', rfl, gr, hd7, by omega, by omega, by omega, oA hd7 rfl, fun e m8 he hd8 => ?_⟩)))⟩
    rw [sr]
    obtain ⟨rk1, rk2, rk3⟩ := reached_ok (cs := cabs) (b := ((e : Nat) : Int))
    have rsm : ∀ x ∈ reached cabs ((e : Nat) : Int), ∃ k : Nat, x = (k : Nat) ∧ k < 4 := fun x hx => by
      rcases rk1 x hx with z | ⟨c, hc, z⟩
      · exact ⟨e, z, by omega⟩
      · obtain ⟨k, k1, k2⟩ := hcabs c hc
        exact ⟨k, by rw [← z, k1], k2⟩
    have rlen : (reached cabs ((e : Nat) : Int)).length ≤ 26 := by
      have : cabs.length * cabs.length ≤ 5 * 5 := Nat.mul_le_mul hcabl hcabl
      omega
    refine ds_cons (s_asg (i := 10) rfl (dx_call (PX := fun _ _ => False) fP (.inr rfl) noX (dxs_cons (dx_r (i := 0) rfl rfl (dxs_cons (dx_sortI b.sorted (dx_d (xd_call fR (xds_cons (xv 7 rfl rfl) (xds_cons (xv 8 rfl rfl) xds_nil)) ⟨cabs, _, rfl, by omega, rfl⟩) ⟨_, rfl, fun js pj => dxs_nil ⟨rfl, j, _, m8, _, _, rfl, .inl rfl, ?_, ?_, gr, hd8, by omega, oA hd8 rfl, fun d m9 hdm hd9 => ?_⟩⟩)))))))
    · rw [List.length_map, pj.length_eq]
      exact rk2
    · rw [List.length_map, pj.length_eq]
      omega
    rw [sr]
    obtain ⟨x, hx, rfl⟩ := List.mem_map.mp hdm
    obtain ⟨k, rfl, hk⟩ := rsm x (pj.mem_iff.mp hx)
    refine ds_one (s_app (i := 9) (j := M.length + 1) rfl rfl (g2 (ml _)) (dx_tup (dxs_cons (dx_d (xv 10 rfl rfl) (dxs_cons (dx_d (xv 8 rfl rfl) (dxs_cons (dx_callT bt_tuple b.tuple (dxs_cons (dx_lc (own := [("_law_at", 11)]) (di_range b.range (dx_d (xv 2 rfl rfl) ⟨nm, rfl, by omega, by rw [range_len]; omega, fun i2 acc M' => ∃ m', M' = M.set j m' ++ [.lst cs, .lst ls] ∧ DrawOk (D + 43 + 5 * i + 2 + i2) m' ∧ acc.length = i2 ∧ ∀ d ∈ acc, SmI 5 d, ⟨m9, rfl, hd9, rfl, fun d z => by cases z⟩, fun i2 d acc M' hi2 hI hl => ?_, fun xs M' hI hl => ?_⟩))))))))))))
    · obtain ⟨m', rfl, hd', hal, ha⟩ := hI
      refine ⟨_, _, fun k hk => hk, tg_name (i := 11) rfl, fun F' => dts_nil ⟨fun _ => dx_next (i := 0) fN rfl rfl (dx_d xd_i ⟨5, _, m', rfl, gr, hd', by have := (range_at hi2).1; omega, by omega, by omega, oA hd' rfl, fun q mq hq hdq => ⟨_, rfl, mq, sr, hdq, by rw [List.length_append, hal]; rfl, fun x hx => ?_⟩⟩), fun z => by cases z⟩⟩
      rcases List.mem_append.mp hx with z | z
      · exact ha x z
      · exact ⟨q, List.mem_singleton.mp z, hq⟩
    · obtain ⟨m', rfl, hd', hal, ha⟩ := hI
      rw [range_len] at hal hd'
      refine dxs_nil ⟨[_], _, rfl, of_tupL, dxs_nil ⟨[_, _, _], rfl, by simp, ls, _, rfl, g2 (ml _), by omega, ?_⟩⟩
      rw [t2 (ml _)]
      refine ⟨m', _, _, _, _, rfl, rfl, by rw [List.length_append, List.length_singleton]; omega, fun x hx => ?_, hd'.mono (by omega)⟩
      rcases List.mem_append.mp hx with z | z
      · exact hls x z
      · exact ⟨k, e, xs, List.mem_singleton.mp z, hk, by omega, hal, ha⟩
  · obtain ⟨m', ls, o4, o8, o10, rfl, rfl, hll, hls, hd7⟩ := hI
    rw [range_len] at hll hd7
    refine ds_one (s_ret (dx_tup (dxs_cons (dx_d (xv 2 rfl rfl) (dxs_cons (dx_d (xv 5 rfl rfl) (dxs_cons (dx_d (xv 7 rfl rfl) (dxs_cons (dx_callT bt_tuple b.tuple (dxs_cons (dx_sortSetK b.sorted b.set (dx_r (i := 9) rfl rfl ⟨ls, .inr ⟨M.length + 1, rfl, g2 (ml _)⟩, keyL_lps hls (by omega), fun es2 hf1 hf2 => dxs_nil ⟨[_], _, rfl, of_tupL, dxs_nil ⟨[_, _, _, _], rfl, by simp, ?_⟩⟩⟩)))))))))))))
    rw [hRt]
    exact ⟨trivial, fin2 (ml _) (okM_set ho hd7.nrf) (hP _ m' ⟨nm, lags, _, es2, rfl, by omega, by omega, by omega, by omega, ha, by rw [List.length_map]; omega, fun d hd => hcs d (he1 d hd), by omega, fun d hd => hls d (hf1 d hd)⟩ (hd7.mono (by omega)))⟩
end
end Ev
namespace Ev
open PySem PySem.Spec PyProof.Rows L2 Evl
structure RuleW (d : PyData) : Prop where
  ex : ∃ (es bs : List PyData) (t : Str), d = .tuple [.tuple es, .tuple bs, .str t] ∧ es.length ≤ 4 ∧ (∀ e ∈ es, SmI 4 e) ∧ bs.length ≤ 4 ∧ (∀ e ∈ bs, SmI 4 e) ∧ (t = "known" ∨ t = "alike")
theorem SmI.up {n k : Nat} {d : PyData} (h : SmI n d) (le : n ≤ k) : SmI k d := by
  obtain ⟨a, h1, h2⟩ := h
  exact ⟨a, h1, by omega⟩
abbrev RLRule : MR := fun zs M P PX => ∃ (j B : Nat) (m : MO) (d : PyData), zs = [.r j, .d d] ∧ RackW d ∧ M[j]? = some m ∧ DrawOk B m ∧ B < 999990000 ∧ okM M.length M ∧ ∀ (r : PyData) (m' : MO), RuleW r → DrawOk (B + 20) m' → P (.d r) (M.set j m')
abbrev FLRule (W : Wd) : Prop := Fk W 3 "_law_rule" ["_law_draw", "_law_rack_here"] (spM W 2 RLRule)
abbrev nsRu : List Str := ["_law_draw", "_law_rack_here", "_law_boxes", "_law_way", "_law_evened", "_law_blind", "_law_taps", "_law_k"]
section
variable {W : Wd}
theorem ok_law_rule (b : Bl W) (t : Dg W "_law_rule" 73) (fN : FNext W) (fP : FPick W) (fS : FSome W) : FLRule W := by
  obtain ⟨f, fd, F, hg⟩ := t
  have S : FnScope nsRu ["_law_draw", "_law_rack_here"] (defScope (top 73)) := ⟨rfl, rfl, rfl, by decide +kernel, rfl, by decide +kernel, by decide +kernel⟩
  refine fkM F S hg (F.bindsN (fun _ _ _ _ _ _ us hl => match us, hl with | [_, _], _ => rfl)) rfl fun E B zs M P PX hF hRt hPX hl hR => ?_
  obtain ⟨j, D, m, d, rfl, ⟨nm, lags, cabs, lps, rfl, _, _, l1, l2, _⟩, hm, hd, hD, ho, hP⟩ := hR
  have jl : j < M.length := (List.getElem?_eq_some_iff.mp hm).1
  have back : ∀ x y, (M.set j x).set j y = M.set j y := fun x y => List.set_set ..
  have ml : ∀ x, (M.set j x).length = M.length := fun x => List.length_set
  have at_ : ∀ x, (M.set j x)[j]? = some x := fun x => List.getElem?_set_self jl
  have oM : ∀ {C : Nat} {x : MO}, DrawOk C x → okM (M.set j x).length (M.set j x) := fun {C x} h => by
    rw [ml]
    exact okM_set ho h.nrf
  obtain ⟨rk, hrk⟩ : ∃ rk, rk = PyData.tuple [.int (nm : Nat), .tuple lags, .tuple cabs, .tuple lps] := ⟨_, rfl⟩
  obtain ⟨bx, hbx⟩ : ∃ bx, bx = lags.length := ⟨_, rfl⟩
  -- the end
  have e4 : ∀ (w : Nat) (es bs : List PyData) (tp : Str) (m' : MO) (o7 : Option SV), es.length ≤ 4 → (∀ e ∈ es, SmI 4 e) → bs.length ≤ 4 → (∀ e ∈ bs, SmI 4 e) → (tp = "known" ∨ tp = "alike") → DrawOk (D + 20) m' →
      DS (gmOf W nsRu (defScope (top 73)) 2 E) B [some (.r j), some (.d rk), some (.d (.int (bx : Nat))), some (.d (.int (w : Nat))), some (.d (.tuple es)), some (.d (.tuple bs)), some (.d (.str tp)), o7] (M.set j m') ((defBody (top 73)).drop 5) fun _ M1 => okM M.length (M1.take M.length) ∧ P (.d .none) (M1.take M.length) := fun w es bs tp m' o7 h1 h2 h3 h4 h5 h6 => by
    refine ds_one (s_ret (dx_d (xd_tup (xds_cons (xv 4 rfl rfl) (xds_cons (xv 5 rfl rfl) (xds_cons (xv 6 rfl rfl) xds_nil)))) ?_))
    rw [hRt]
    exact ⟨trivial, fin_ok (ml _) (okM_set ho h6.nrf) (hP _ m' ⟨es, bs, tp, rfl, h1, h2, h3, h4, h5⟩ h6)⟩
  have e3 : ∀ (w : Nat) (es bs : List PyData) (m' : MO) (o7 : Option SV), es.length ≤ 4 → (∀ e ∈ es, SmI 4 e) → bs.length ≤ 4 → (∀ e ∈ bs, SmI 4 e) → DrawOk (D + 19) m' →
      DS (gmOf W nsRu (defScope (top 73)) 2 E) B [some (.r j), some (.d rk), some (.d (.int (bx : Nat))), some (.d (.int (w : Nat))), some (.d (.tuple es)), some (.d (.tuple bs)), some (.d (.str "known")), o7] (M.set j m') ((defBody (top 73)).drop 4) fun _ M1 => okM M.length (M1.take M.length) ∧ P (.d .none) (M1.take M.length) := fun w es bs m' o7 h1 h2 h3 h4 h6 => by
    refine ds_cons (s_if (dt_t (xt_or2 (xt_cmp (xv 3 rfl rfl) xd_i oc_eqI) fun _ => xt_cmp (xv 3 rfl rfl) xd_i oc_eqI) ⟨fun _ => ?_, fun _ => ds_nil (e4 w es bs "known" m' o7 h1 h2 h3 h4 (.inl rfl) (h6.mono (by omega)))⟩))
    refine ds_one (s_asg (i := 6) rfl (dx_call (PX := fun _ _ => False) fP (.inr rfl) noX (dxs_cons (dx_r (i := 0) rfl rfl (dxs_d (xds_cons (xd_lst (xds_cons xd_s (xds_cons xd_s xds_nil))) xds_nil) ⟨rfl, j, _, m', _, _, rfl, .inl rfl, by simp, by simp, at_ m', h6, by omega, oM h6, fun d m8 hdm hd8 => ?_⟩)))))
    rw [back]
    simp only [List.mem_cons, List.not_mem_nil, or_false] at hdm
    rcases hdm with rfl | rfl
    · exact e4 w es bs _ m8 o7 h1 h2 h3 h4 (.inl rfl) (hd8.mono (by omega))
    · exact e4 w es bs _ m8 o7 h1 h2 h3 h4 (.inr rfl) (hd8.mono (by omega))
  have e2 : ∀ (w : Nat) (es : List PyData) (m' : MO), es.length ≤ 4 → (∀ e ∈ es, SmI 4 e) → DrawOk (D + 10) m' →
      DS (gmOf W nsRu (defScope (top 73)) 2 E) B [some (.r j), some (.d rk), some (.d (.int (bx : Nat))), some (.d (.int (w : Nat))), some (.d (.tuple es)), some (.d (.tuple [])), some (.d (.str "known")), none] (M.set j m') ((defBody (top 73)).drop 3) fun _ M1 => okM M.length (M1.take M.length) ∧ P (.d .none) (M1.take M.length) := fun w es m' h1 h2 h6 => by
    refine ds_cons (s_if (dt_t (xt_or2 (xt_cmp (xv 3 rfl rfl) xd_i oc_eqI) fun _ => xt_cmp (xv 3 rfl rfl) xd_i oc_eqI) ⟨fun _ => ?_, fun _ => ds_nil (e3 w es [] m' none h1 h2 (by simp) (fun e z => by cases z) (h6.mono (by omega)))⟩))
    refine ds_one (s_asg (i := 5) rfl (dx_callT bt_tuple b.tuple (dxs_cons (dx_lc (own := [("_law_k", 7)]) (di_range b.range (dx_d (xv 2 rfl rfl) ⟨bx, rfl, by omega, by rw [range_len]; omega, fun i acc M' => ∃ m2, M' = M.set j m2 ∧ DrawOk (D + 10 + i) m2 ∧ ∀ d ∈ acc, SmI 4 d, ⟨m', rfl, h6, fun d z => by cases z⟩, fun i d acc M' hi hI hl => ?_, fun acc M' hI hl => ?_⟩))))))
    · obtain ⟨m2, rfl, hd', ha⟩ := hI
      obtain ⟨hin, rfl⟩ := range_at hi
      refine ⟨_, _, fun k hk => hk, tg_name (i := 7) rfl, fun F' => dts_one (dt_cmp (dx_next (i := 0) fN rfl rfl (dx_d xd_i ⟨3, _, m2, rfl, at_ m2, hd', by omega, by decide, by decide, oM hd', fun n m3 _ hd3 => ⟨_, rfl, dx_d xd_i ⟨_, rfl, _, oc_eqI, fun _ => dx_d (xv 7 rfl rfl) ⟨_, rfl, m3, back _ _, hd3, fun d hd => ?_⟩, fun _ => ⟨m3, back _ _, hd3, ha⟩⟩⟩⟩)))⟩
      rcases List.mem_append.mp hd with z | z
      · exact ha d z
      · exact ⟨i, List.mem_singleton.mp z, by omega⟩
    · obtain ⟨m2, rfl, hd', ha⟩ := hI
      rw [range_len] at hd' hl
      exact dxs_nil ⟨[_], _, rfl, of_tupL, e3 w es acc m2 _ h1 h2 (by omega) ha (hd'.mono (by omega))⟩
  have len1 : ∀ p1 p2 p3 p4 : Pos, ∀ q, XD (gmOf W nsRu (defScope (top 73)) 2 E) (startR nsRu [.r j, .d rk]) (.Call (.Name "len" p1) [.Subscript (.Name "_law_rack_here" p2) (.Constant (.int 1) q p3) p4] [] p1) (.int (bx : Nat)) := fun p1 p2 p3 p4 q => by
    rw [hbx, hrk]
    exact xd_callB boot_len b.len (xds_cons (xd_ix (xv 1 rfl rfl) xd_i (oi_T (atI_nat (j := 1) rfl))) xds_nil) of_lenT
  rw [← hrk]
  refine ds_cons (s_par2 (i := 2) (j := 3) rfl rfl (dxs_cons (dx_d (d := .int (bx : Nat)) ?_ (dxs_cons (dx_next (i := 0) fN rfl rfl (dx_d xd_i ⟨5, _, m, rfl, hm, hd, by omega, by omega, by omega, ho, fun w m1 hw hd1 => dxs_nil ⟨_, _, rfl, ?_⟩⟩))))))
  · rw [hbx, hrk]
    exact xd_callB boot_len b.len (xds_cons (xd_ix (xv 1 rfl rfl) xd_i (oi_T (atI_nat (j := 1) rfl))) xds_nil) of_lenT
  refine ds_cons (s_par3 (i := 4) (j := 5) (l := 6) rfl rfl rfl (dxs_cons (dx_tupRg b.tuple b.range (dx_d (xv 2 rfl rfl) ⟨bx, rfl, by omega, dxs_d (xds_cons (xd_tup xds_nil) (xds_cons xd_s xds_nil)) ⟨_, _, _, rfl, ?_⟩⟩))))
  refine ds_cons (s_if (dt_t (xt_or2 (xt_cmp (xv 3 rfl rfl) xd_i oc_eqI) fun _ => xt_cmp (xv 3 rfl rfl) xd_i oc_eqI) ⟨fun _ => ?_, fun _ => ds_nil (e2 w (rngD bx) m1 (by rw [rng_len]; omega) (fun e he => (sm_rng bx e he).up (by omega)) (hd1.mono (by omega)))⟩))
  refine ds_one (s_asg (i := 4) rfl (dx_call (PX := fun _ _ => False) fS (.inr rfl) noX (dxs_cons (dx_r (i := 0) rfl rfl (dxs_d (xds_cons (xv 2 rfl rfl) xds_nil) ⟨rfl, j, bx, _, m1, rfl, by omega, at_ m1, hd1, by omega, oM hd1, fun ds m8 g1 g2 hd8 => ?_⟩)))))
  rw [back]
  exact e2 w ds m8 (by omega) (fun e he => (g1 e he).up (by omega)) (hd8.mono (by omega))
end
end Ev
namespace Ev
open PySem PySem.Spec PyProof.Rows L2 Evl
/-! ### texts of words -/
def sumL (ws : List Str) : Nat := (ws.map fun w => w.length + 1).sum
theorem sumL_cons (w : Str) (ws : List Str) : sumL (w :: ws) = w.length + 1 + sumL ws := rfl
theorem sumL_app (a b : List Str) : sumL (a ++ b) = sumL a + sumL b := by
  unfold sumL
  rw [List.map_append, List.sum_append]
theorem sumL_eq (ws : List Str) : (ws.map (·.length)).sum + ws.length = sumL ws := by
  induction ws with
  | nil => rfl
  | cons w ws ih =>
    rw [sumL_cons, ← ih, List.map_cons, List.sum_cons, List.length_cons]
    omega
theorem len_le_sumL (ws : List Str) : ws.length ≤ sumL ws := by
  have := sumL_eq ws
  omega
theorem strOk_app {x y : Str} (hx : PyData.strOk x = true) (hy : PyData.strOk y = true) : PyData.strOk (x ++ y) = true := by
  unfold PyData.strOk at hx hy ⊢
  rw [Str.cps_append, Array.all_append, hx, hy]
  rfl
theorem strOk_join {sep : Str} (hs : PyData.strOk sep = true) : ∀ {ws : List Str}, (∀ w ∈ ws, PyData.strOk w = true) → PyData.strOk (Txt.join sep ws) = true := fun {ws} h => by
  rw [TL.join_eq]
  induction ws with
  | nil =>
    show PyData.strOk Str.empty = true
    decide +kernel
  | cons x r ih =>
    cases r with
    | nil => exact h x List.mem_cons_self
    | cons y r => exact strOk_app (strOk_app (h x List.mem_cons_self) hs) (ih fun w hw => h w (List.mem_cons_of_mem _ hw))
theorem join_le {sep : Str} (hs : sep.length = 1) (ws : List Str) : (Txt.join sep ws).length ≤ sumL ws := by
  rw [TL.join_eq]
  have h := StrLaws.join_length_le sep ws
  rw [hs, Nat.mul_one, sumL_eq] at h
  exact h
theorem spl_sum (S : List Nat) : ∀ (l : List Nat) (k : Nat) (acc : List Nat), ((TL.spl S k acc l).map fun p => p.length + 1).sum ≤ acc.length + l.length + 1
  | [], k, acc => by
    rw [TL.spl_nil]
    simp
  | c :: r, 0, acc => by
    show ((if TL.pre S (c :: r) = true then acc :: TL.spl S (S.length - 1) [] r else TL.spl S 0 (acc ++ [c]) r).map fun p => p.length + 1).sum ≤ _
    split
    · have := spl_sum S r (S.length - 1) []
      rw [List.map_cons, List.sum_cons, List.length_cons]
      simp only [List.length_nil, Nat.zero_add] at this
      omega
    · have := spl_sum S r 0 (acc ++ [c])
      rw [List.length_append, List.length_singleton] at this
      rw [List.length_cons]
      omega
  | c :: r, k + 1, acc => by
    show ((TL.spl S k acc r).map fun p => p.length + 1).sum ≤ _
    have := spl_sum S r k acc
    rw [List.length_cons]
    omega
theorem split_sum {x y : Str} (hy : SepOk y) : sumL (Txt.split x y) ≤ x.length + 1 := by
  have e := TL.split_spl x y hy.ne (TL.kind_ok hy.k)
  have h := spl_sum (TL.tl y) (TL.tl x) 0 []
  rw [← e, List.map_map, List.length_nil, Nat.zero_add, ← TL.len_tl] at h
  have e2 : ((fun p : List Nat => p.length + 1) ∘ TL.tl) = fun w : Str => w.length + 1 := by
    funext w
    show (TL.tl w).length + 1 = w.length + 1
    rw [← TL.len_tl]
  rw [e2] at h
  exact h
/-- a text of at most n signs -/
structure TxB (n : Nat) (w : Str) : Prop where
  len : w.length ≤ n
  ok : PyData.strOk w = true
theorem TxB.up {n k : Nat} {w : Str} (h : TxB n w) (le : n ≤ k) : TxB k w := ⟨Nat.le_trans h.len le, h.ok⟩
theorem TxB.tx {w : Str} (h : TxB 4000 w) : TxOk w := ⟨h.len, h.ok⟩
def listOf : PyData → List PyData
  | .list l => l
  | .tuple l => l
  | _ => []
def wordStr : PyData → Str
  | .int k => toString k
  | .str w => w
  | _ => ""
def rowStr (r : PyData) : Str := Txt.join " " ((listOf r).map wordStr)
def rowsStr (rs : List PyData) : Str := Txt.join "\n" (rs.map rowStr)
def kws : List Str := ["names", "box", "cable", "loop", "post", "pre", "evened", "blind", "taps", "known", "alike"]
def WordOk (d : PyData) : Prop := (∃ k : Nat, d = .int (k : Nat) ∧ k < 8) ∨ ∃ w ∈ kws, d = .str w
theorem small_str : ((List.range 8).all fun k => decide ((toString ((k : Nat) : Int) : Str).length ≤ 6) && PyData.strOk (toString ((k : Nat) : Int) : Str)) = true := by decide +kernel
theorem kws_str : (kws.all fun w => decide (w.length ≤ 6) && PyData.strOk w) = true := by decide +kernel
theorem word_ok {d : PyData} (h : WordOk d) : TxB 6 (wordStr d) := by
  rcases h with ⟨k, rfl, hk⟩ | ⟨w, hw, rfl⟩
  · have := List.all_eq_true.mp small_str k (List.mem_range.mpr hk)
    have := (Bool.and_eq_true _ _).mp this
    exact ⟨of_decide_eq_true this.1, this.2⟩
  · have := List.all_eq_true.mp kws_str w hw
    have := (Bool.and_eq_true _ _).mp this
    exact ⟨of_decide_eq_true this.1, this.2⟩
def RowOk (r : PyData) : Prop := ∃ ws, r = .list ws ∧ ws.length ≤ 6 ∧ ∀ w ∈ ws, WordOk w
theorem sum_le {n : Nat} : ∀ {ws : List Str}, (∀ w ∈ ws, w.length ≤ n) → sumL ws ≤ ws.length * (n + 1)
  | [], _ => Nat.zero_le _
  | w :: ws, h => by
    have h1 := h w List.mem_cons_self
    have h2 := sum_le fun v hv => h v (List.mem_cons_of_mem _ hv)
    rw [sumL_cons, List.length_cons, Nat.succ_mul]
    omega
theorem row_ok {r : PyData} (h : RowOk r) : TxB 42 (rowStr r) := by
  obtain ⟨ws, rfl, hl, hw⟩ := h
  have h1 : ∀ w ∈ ws.map wordStr, TxB 6 w := fun w hm => by
    obtain ⟨d, hd, rfl⟩ := List.mem_map.mp hm
    exact word_ok (hw d hd)
  refine ⟨?_, strOk_join (by decide +kernel) fun w hm => (h1 w hm).ok⟩
  have a := join_le (sep := " ") (by decide +kernel) (ws.map wordStr)
  have c := sum_le fun w hm => (h1 w hm).len
  rw [List.length_map] at c
  have : ws.length * (6 + 1) ≤ 6 * 7 := Nat.mul_le_mul hl (Nat.le_refl _)
  show (Txt.join " " (ws.map wordStr)).length ≤ 42
  omega
theorem rows_ok {rs : List PyData} (h : ∀ r ∈ rs, RowOk r) (hl : rs.length ≤ 12) : TxB 520 (rowsStr rs) := by
  have h1 : ∀ w ∈ rs.map rowStr, TxB 42 w := fun w hm => by
    obtain ⟨d, hd, rfl⟩ := List.mem_map.mp hm
    exact row_ok (h d hd)
  refine ⟨?_, strOk_join (by decide +kernel) fun w hm => (h1 w hm).ok⟩
  have a := join_le (sep := "\n") (by decide +kernel) (rs.map rowStr)
  have c := sum_le fun w hm => (h1 w hm).len
  rw [List.length_map] at c
  have : rs.length * (42 + 1) ≤ 12 * 43 := Nat.mul_le_mul hl (Nat.le_refl _)
  show (Txt.join "\n" (rs.map rowStr)).length ≤ 520
  omega
end Ev
namespace Ev
open PySem PySem.Spec PyProof.Rows L2 Evl
def boxRow (l : PyData) : PyData := .list (.str "box" :: listOf l)
def cabRow (c : PyData) : PyData := .list (.str "cable" :: listOf c)
def lpRow : PyData → PyData
  | .tuple [a, b, t] => .list (.str "loop" :: a :: b :: listOf t)
  | _ => .none
def rackRows : PyData → List PyData
  | .tuple [nm, lags, cabs, lps] => [.list [.str "names", nm]] ++ (listOf lags).map boxRow ++ (listOf cabs).map cabRow ++ (listOf lps).map lpRow
  | _ => []
def ruleRows : PyData → List PyData
  | .tuple [es, bs, t] => [.list (.str "evened" :: listOf es), .list (.str "blind" :: listOf bs), .list [.str "taps", t]]
  | _ => []
theorem word_sm {n : Nat} {d : PyData} (h : SmI n d) (hn : n ≤ 8) : WordOk d := by
  obtain ⟨k, h1, h2⟩ := h
  exact .inl ⟨k, h1, by omega⟩
theorem word_kw {w : Str} (h : w ∈ kws) : WordOk (.str w) := .inr ⟨w, h, rfl⟩
theorem words_cons {w : PyData} {ws : List PyData} (h : WordOk w) (g : ∀ v ∈ ws, WordOk v) : ∀ v ∈ w :: ws, WordOk v := fun v hv => by
  rcases List.mem_cons.mp hv with e | m
  · rw [e]
    exact h
  · exact g v m
theorem words_nil : ∀ v ∈ ([] : List PyData), WordOk v := fun v hv => by cases hv
theorem rackRows_ok {d : PyData} (h : RackW d) : (∀ r ∈ rackRows d, RowOk r) ∧ (rackRows d).length ≤ 12 := by
  obtain ⟨nm, lags, cabs, lps, rfl, a1, a2, l1, l2, hl, c1, hc, p1, hp⟩ := h.ex
  refine ⟨fun r hr => ?_, ?_⟩
  · have hr : r ∈ [PyData.list [.str "names", .int (nm : Nat)]] ++ lags.map boxRow ++ cabs.map cabRow ++ lps.map lpRow := hr
    rcases List.mem_append.mp hr with hr | hr
    · rcases List.mem_append.mp hr with hr | hr
      · rcases List.mem_append.mp hr with hr | hr
        · rw [List.mem_singleton.mp hr]
          exact ⟨_, rfl, by simp, words_cons (word_kw (by decide +kernel)) (words_cons (.inl ⟨nm, rfl, by omega⟩) words_nil)⟩
        · obtain ⟨x, hx, rfl⟩ := List.mem_map.mp hr
          obtain ⟨xs, rfl, hxl, hxs⟩ := hl x hx
          exact ⟨_, rfl, by show (xs.length + 1) ≤ 6; omega, words_cons (word_kw (by decide +kernel)) fun v hv => word_sm (hxs v hv) (by omega)⟩
      · obtain ⟨x, hx, rfl⟩ := List.mem_map.mp hr
        obtain ⟨a, c, s, rfl, ha, hb, hs⟩ := hc x hx
        refine ⟨_, rfl, by simp [listOf], words_cons (word_kw (by decide +kernel)) (words_cons (.inl ⟨a, rfl, by omega⟩) (words_cons (.inl ⟨c, rfl, by omega⟩) (words_cons (word_kw ?_) words_nil)))⟩
        rcases hs with rfl | rfl <;> decide +kernel
    · obtain ⟨x, hx, rfl⟩ := List.mem_map.mp hr
      obtain ⟨a, c, xs, rfl, ha, hb, hxl, hxs⟩ := hp x hx
      exact ⟨_, rfl, by show (xs.length + 1 + 1 + 1) ≤ 6; omega, words_cons (word_kw (by decide +kernel)) (words_cons (.inl ⟨a, rfl, by omega⟩) (words_cons (.inl ⟨c, rfl, by omega⟩) fun v hv => word_sm (hxs v hv) (by omega)))⟩
  · show ([PyData.list [.str "names", .int (nm : Nat)]] ++ lags.map boxRow ++ cabs.map cabRow ++ lps.map lpRow).length ≤ 12
    simp only [List.length_append, List.length_map, List.length_singleton]
    omega
theorem ruleRows_ok {d : PyData} (h : RuleW d) : (∀ r ∈ ruleRows d, RowOk r) ∧ (ruleRows d).length ≤ 12 := by
  obtain ⟨es, bs, t, rfl, a1, a2, b1, b2, ht⟩ := h.ex
  refine ⟨fun r hr => ?_, by simp [ruleRows]⟩
  have hr : r ∈ [PyData.list (.str "evened" :: es), .list (.str "blind" :: bs), .list [.str "taps", .str t]] := hr
  simp only [List.mem_cons, List.not_mem_nil, or_false] at hr
  rcases hr with rfl | rfl | rfl
  · exact ⟨_, rfl, by show (es.length + 1) ≤ 6; omega, words_cons (word_kw (by decide +kernel)) fun v hv => word_sm (a2 v hv) (by omega)⟩
  · exact ⟨_, rfl, by show (bs.length + 1) ≤ 6; omega, words_cons (word_kw (by decide +kernel)) fun v hv => word_sm (b2 v hv) (by omega)⟩
  · refine ⟨_, rfl, by simp, words_cons (word_kw (by decide +kernel)) (words_cons (word_kw ?_) words_nil)⟩
    rcases ht with rfl | rfl <;> decide +kernel
abbrev RRackT : List PyData → PyData → Prop := fun ds z => ∃ d, ds = [d] ∧ RackW d ∧ z = .str (rowsStr (rackRows d))
abbrev RRuleT : List PyData → PyData → Prop := fun ds z => ∃ d, ds = [d] ∧ RuleW d ∧ z = .str (rowsStr (ruleRows d))
theorem small_log {k : Nat} (h : k < 8) : ((k : Nat) : Int).natAbs.log2 < 1920 := by
  rw [Int.natAbs_natCast]
  have : k.log2 ≤ k := Nat.log2_le_self k
  omega
section
variable {Γ : Gm} {ρ : Rho} {e : Expr} {d : PyData} {p pos : Pos}
theorem xd_strW (hm : Γ.W.mg "str" = Option.none) (h : XD Γ ρ e d) (hd : WordOk d) (g : Glo Γ "str" := by rfl) (n : NS e := by intro _ _; rfl) : XD Γ ρ (.Call (.Name "str" p) [e] [] pos) (.str (wordStr d)) := by
  rcases hd with ⟨k, rfl, hk⟩ | ⟨w, _, rfl⟩
  · exact xd_callT bt_str hm (xds_cons h xds_nil n) (of_strI (small_log hk)) g n
  · exact xd_callT bt_str hm (xds_cons h xds_nil n) of_strS g n
end
theorem strs_map {α : Type} (f : α → Str) (l : List α) : PyData.list (l.map fun d => .str (f d)) = strsD (l.map f) := by
  unfold strsD
  rw [List.map_map]
  rfl
theorem row_sum {r : PyData} (h : RowOk r) : (((listOf r).map wordStr).map (·.length)).sum + ((listOf r).map wordStr).length * (" " : Str).length ≤ 100000 := by
  obtain ⟨ws, rfl, hl, hw⟩ := h
  have h1 : ∀ w ∈ ws.map wordStr, w.length ≤ 6 := fun w hm => by
    obtain ⟨d, hd, rfl⟩ := List.mem_map.mp hm
    exact (word_ok (hw d hd)).len
  have c := sum_le h1
  have e : (" " : Str).length = 1 := by decide +kernel
  rw [e, Nat.mul_one, sumL_eq]
  rw [List.length_map] at c
  have : ws.length * (6 + 1) ≤ 6 * 7 := Nat.mul_le_mul hl (Nat.le_refl _)
  show sumL (ws.map wordStr) ≤ 100000
  omega
theorem rows_sum {rs : List PyData} (h : ∀ r ∈ rs, RowOk r) (hl : rs.length ≤ 12) : ((rs.map rowStr).map (·.length)).sum + (rs.map rowStr).length * ("\n" : Str).length ≤ 100000 := by
  have h1 : ∀ w ∈ rs.map rowStr, w.length ≤ 42 := fun w hm => by
    obtain ⟨d, hd, rfl⟩ := List.mem_map.mp hm
    exact (row_ok (h d hd)).len
  have c := sum_le h1
  have e : ("\n" : Str).length = 1 := by decide +kernel
  rw [e, Nat.mul_one, sumL_eq]
  rw [List.length_map] at c
  have : rs.length * (42 + 1) ≤ 12 * 43 := Nat.mul_le_mul hl (Nat.le_refl _)
  omega
section
variable {W : Wd}
theorem ok_law_rack_text (b : Bl W) (t : Dg W "_law_rack_text" 81) : Fk W 1 "_law_rack_text" ["_law_rack_here"] (spD W.K 1 RRackT) :=
  t.fd (N := ["_law_rack_here", "_law_rows", "_law_lag_here", "_law_cable", "_law_begin_here", "_law_end", "_law_time", "_law_row", "_law_word"]) ⟨rfl, rfl, rfl, by decide +kernel, rfl, by decide +kernel, by decide +kernel⟩ (fun _ _ _ _ _ _ us hl => match us, hl with | [_], _ => rfl) rfl fun E A H Q ds d q hl hR => by
    obtain ⟨d0, rfl, hW, rfl⟩ := hR
    obtain ⟨hrows, hrl⟩ := rackRows_ok hW
    obtain ⟨nm, lags, cabs, lps, rfl, a1, a2, l1, l2, hlg, c1, hc, p1, hp⟩ := hW.ex
    refine ds_cons (s_asg (i := 1) rfl (dx_d (xd_bin (xd_lst (xds_cons (xd_lst (xds_cons xd_s (xds_cons (xd_ix (xv 0 rfl rfl) xd_i (oi_T (atI_nat (j := 0) rfl))) xds_nil))) xds_nil)) (xd_lc0 (j := 2) (x := "_law_lag_here") rfl (xi_tup (xd_ix (xv 0 rfl rfl) xd_i (oi_T (atI_nat (j := 1) rfl)))) (by omega) boxRow fun d hd => ?_) (ob_catL (by rw [List.length_map]; simp; omega))) ?_))
    · obtain ⟨xs, rfl, hxl, _⟩ := hlg d hd
      exact xd_bin (xd_lst (xds_cons xd_s xds_nil)) (xd_callT bt_list b.list (xds_cons (xv 2 rfl rfl) xds_nil) of_lstT) (ob_catL (by simp; omega))
    refine ds_cons (s_asg (i := 1) rfl (dx_d (xd_bin (xv 1 rfl rfl) (xd_lc0 (j := 3) (x := "_law_cable") rfl (xi_tup (xd_ix (xv 0 rfl rfl) xd_i (oi_T (atI_nat (j := 2) rfl)))) (by omega) cabRow fun d hd => ?_) (ob_catL (by simp; omega))) ?_))
    · obtain ⟨x, y, s, rfl, _⟩ := hc d hd
      exact xd_bin (xd_lst (xds_cons xd_s xds_nil)) (xd_callT bt_list b.list (xds_cons (xv 3 rfl rfl) xds_nil) of_lstT) (ob_catL (by simp))
    refine ds_cons (s_asg (i := 1) rfl (dx_d (xd_bin (xv 1 rfl rfl) (XD.is (xd_lcp (own := [("_law_begin_here", 4), ("_law_end", 5), ("_law_time", 6)]) (xi_tup (xd_ix (xv 0 rfl rfl) xd_i (oi_T (atI_nat (j := 3) rfl)))) (by omega) (fun _ => true) lpRow fun d hd => ?_) (by rw [List.filter_eq_self.mpr (fun _ _ => rfl)])) (ob_catL (by simp; omega))) ?_))
    · obtain ⟨x, y, xs, rfl, _, _, hxl, _⟩ := hp d hd
      exact ⟨_, _, by decide, tg_tup (tgs_cons (tg_name (i := 4) rfl) (tgs_cons (tg_name (i := 5) rfl) (tgs_cons (tg_name (i := 6) rfl) tgs_nil))), fun F' => dts_nil ⟨rfl, rfl⟩, fun _ => xd_bin (xd_lst (xds_cons xd_s (xds_cons (xv 4 rfl rfl) (xds_cons (xv 5 rfl rfl) xds_nil)))) (xd_callT bt_list b.list (xds_cons (xv 6 rfl rfl) xds_nil) of_lstT) (ob_catL (by simp; omega))⟩
    refine ds_one (ret_d (xd_join xd_s (XD.is (xd_lc0 (j := 7) (x := "_law_row") rfl (xi_list (xv 1 rfl rfl)) ?_ (fun d => .str (rowStr d)) fun d hd => ?_) (strs_map rowStr _)) (rows_sum (rs := rackRows (.tuple [.int (nm : Nat), .tuple lags, .tuple cabs, .tuple lps])) hrows hrl)) rfl)
    · exact Nat.le_trans hrl (by decide)
    · obtain ⟨ws, rfl, hwl, hw⟩ := hrows d hd
      exact xd_join xd_s (XD.is (xd_lc0 (j := 8) (x := "_law_word") rfl (xi_list (xv 7 rfl rfl)) (by omega) (fun d => .str (wordStr d)) fun w hw' => xd_strW b.str (xv 8 rfl rfl) (hw w hw')) (strs_map wordStr _)) (row_sum ⟨ws, rfl, hwl, hw⟩)
theorem ok_law_rule_text (b : Bl W) (t : Dg W "_law_rule_text" 82) : Fk W 1 "_law_rule_text" ["_law_rule_here"] (spD W.K 1 RRuleT) :=
  t.fd (N := ["_law_rule_here", "_law_rows", "_law_row", "_law_word"]) ⟨rfl, rfl, rfl, by decide +kernel, rfl, by decide +kernel, by decide +kernel⟩ (fun _ _ _ _ _ _ us hl => match us, hl with | [_], _ => rfl) rfl fun E A H Q ds d q hl hR => by
    obtain ⟨d0, rfl, hW, rfl⟩ := hR
    obtain ⟨hrows, hrl⟩ := ruleRows_ok hW
    obtain ⟨es, bs, tp, rfl, a1, a2, b1, b2, ht⟩ := hW.ex
    refine ds_cons (s_asg (i := 1) rfl (dx_d (xd_lst (xds_cons (xd_bin (xd_lst (xds_cons xd_s xds_nil)) (xd_callT bt_list b.list (xds_cons (xd_ix (xv 0 rfl rfl) xd_i (oi_T (atI_nat (j := 0) rfl))) xds_nil) of_lstT) (ob_catL (es := es) (by show 1 + es.length ≤ 100000; omega))) (xds_cons (xd_bin (xd_lst (xds_cons xd_s xds_nil)) (xd_callT bt_list b.list (xds_cons (xd_ix (xv 0 rfl rfl) xd_i (oi_T (atI_nat (j := 1) rfl))) xds_nil) of_lstT) (ob_catL (es := bs) (by show 1 + bs.length ≤ 100000; omega))) (xds_cons (xd_lst (xds_cons xd_s (xds_cons (xd_ix (xv 0 rfl rfl) xd_i (oi_T (atI_nat (j := 2) rfl))) xds_nil))) xds_nil)))) ?_))
    refine ds_one (ret_d (xd_join xd_s (XD.is (xd_lc0 (j := 2) (x := "_law_row") rfl (xi_list (xv 1 rfl rfl)) (Nat.le_trans hrl (by decide)) (fun d => .str (rowStr d)) fun d hd => ?_) (strs_map rowStr _)) (rows_sum (rs := ruleRows (.tuple [.tuple es, .tuple bs, .str tp])) hrows hrl)) rfl)
    obtain ⟨ws, rfl, hwl, hw⟩ := hrows d hd
    exact xd_join xd_s (XD.is (xd_lc0 (j := 3) (x := "_law_word") rfl (xi_list (xv 2 rfl rfl)) (by omega) (fun d => .str (wordStr d)) fun w hw' => xd_strW b.str (xv 3 rfl rfl) (hw w hw')) (strs_map wordStr _)) (row_sum ⟨ws, rfl, hwl, hw⟩)
end
end Ev
namespace Ev
open PySem PySem.Spec PyProof.Rows L2 Evl
/-! ### rows of a text that change -/
theorem sumL_take_drop (k : Nat) (ws : List Str) : sumL (ws.take k) + sumL (ws.drop k) = sumL ws := by
  rw [← sumL_app, List.take_append_drop]
theorem sumL_rev : ∀ ws : List Str, sumL ws.reverse = sumL ws
  | [] => rfl
  | w :: ws => by
    rw [List.reverse_cons, sumL_app, sumL_rev ws, sumL_cons, sumL_cons]
    show _ + (w.length + 1 + 0) = _
    omega
theorem sumL_set {ws : List Str} {k : Nat} {w x : Str} (h : ws[k]? = some x) : sumL (ws.set k w) + x.length = sumL ws + w.length := by
  induction ws generalizing k with
  | nil => cases h
  | cons v ws ih =>
    cases k with
    | zero =>
      cases h
      show w.length + 1 + sumL ws + x.length = x.length + 1 + sumL ws + w.length
      omega
    | succ k =>
      have := ih (k := k) h
      show v.length + 1 + sumL (ws.set k w) + x.length = v.length + 1 + sumL ws + w.length
      omega
theorem sumL_mem {ws : List Str} {k : Nat} {x : Str} (h : ws[k]? = some x) : x.length + 1 ≤ sumL ws := by
  have := sumL_set (w := "") h
  have e : ("" : Str).length = 0 := by decide +kernel
  rw [e] at this
  have h2 : ws.length ≤ sumL (ws.set k "") := by
    have := len_le_sumL (ws.set k "")
    rw [List.length_set] at this
    exact this
  have h3 : 1 ≤ ws.length := by
    have := (List.getElem?_eq_some_iff.mp h).1
    omega
  omega
/-- rows that join to at most n signs -/
structure RwB (n : Nat) (ws : List Str) : Prop where
  sum : sumL ws ≤ n
  ok : ∀ w ∈ ws, PyData.strOk w = true
theorem RwB.join {n : Nat} {ws : List Str} (h : RwB n ws) {sep : Str} (hs : sep.length = 1) (ho : PyData.strOk sep = true) : TxB n (Txt.join sep ws) := ⟨Nat.le_trans (join_le hs ws) h.sum, strOk_join ho h.ok⟩
theorem RwB.size {n : Nat} {ws : List Str} (h : RwB n ws) (hn : n ≤ 100000) {sep : Str} (hs : sep.length = 1) : (ws.map (·.length)).sum + ws.length * sep.length ≤ 100000 := by
  rw [hs, Nat.mul_one, sumL_eq]
  exact Nat.le_trans h.sum hn
theorem RwB.split {n : Nat} {w y : Str} (h : TxB n w) (hn : n ≤ 4000) (hy : SepOk y) : RwB (n + 1) (Txt.split w y) := ⟨Nat.le_trans (split_sum hy) (by have := h.len; omega), fun v hv => ((split_ok ⟨Nat.le_trans h.len hn, h.ok⟩ hy).2.2 v hv).ok⟩
theorem RwB.app {n k : Nat} {a b : List Str} (h : RwB n a) (g : RwB k b) : RwB (n + k) (a ++ b) := ⟨by rw [sumL_app]; have := h.sum; have := g.sum; omega, fun w hw => by
  rcases List.mem_append.mp hw with z | z
  · exact h.ok w z
  · exact g.ok w z⟩
theorem RwB.one {n : Nat} {w : Str} (h : TxB n w) : RwB (n + 1) [w] := ⟨by show w.length + 1 + 0 ≤ n + 1; have := h.len; omega, fun v hv => by rw [List.mem_singleton.mp hv]; exact h.ok⟩
theorem RwB.at {n k : Nat} {ws : List Str} {w : Str} (h : RwB n ws) (e : ws[k]? = some w) : TxB (n - 1) w := ⟨by have := sumL_mem e; have := h.sum; omega, h.ok w (List.mem_of_getElem? e)⟩
theorem RwB.take {n k : Nat} {ws : List Str} (h : RwB n ws) : RwB n (ws.take k) := ⟨by have := sumL_take_drop k ws; have := h.sum; omega, fun w hw => h.ok w (List.mem_of_mem_take hw)⟩
theorem RwB.drop {n k : Nat} {ws : List Str} (h : RwB n ws) : RwB n (ws.drop k) := ⟨by have := sumL_take_drop k ws; have := h.sum; omega, fun w hw => h.ok w (List.mem_of_mem_drop hw)⟩
theorem RwB.cut {n a c : Nat} {ws : List Str} (h : RwB n ws) (le : a ≤ c) : RwB n (ws.take a ++ ws.drop c) := ⟨by
  rw [sumL_app]
  have h1 := sumL_take_drop a ws
  have h2 := sumL_take_drop (c - a) (ws.drop a)
  rw [List.drop_drop, show a + (c - a) = c by omega] at h2
  have := h.sum
  omega, fun w hw => by
  rcases List.mem_append.mp hw with z | z
  · exact h.ok w (List.mem_of_mem_take z)
  · exact h.ok w (List.mem_of_mem_drop z)⟩
theorem RwB.mid {n k : Nat} {a : Nat} {ws mid : List Str} {c : Nat} (h : RwB n ws) (le : a ≤ c) (g : RwB k mid) : RwB (n + k) (ws.take a ++ mid ++ ws.drop c) := ⟨by
  have h1 := (h.cut le).sum
  have h2 := g.sum
  rw [sumL_app] at h1
  rw [sumL_app, sumL_app]
  omega, fun w hw => by
  rcases List.mem_append.mp hw with z | z
  · rcases List.mem_append.mp z with z | z
    · exact h.ok w (List.mem_of_mem_take z)
    · exact g.ok w z
  · exact h.ok w (List.mem_of_mem_drop z)⟩
theorem RwB.rev {n : Nat} {k : Nat} {ws : List Str} (h : RwB n ws) : RwB n (ws.take k ++ (ws.drop k).reverse) := ⟨by
  rw [sumL_app, sumL_rev, sumL_take_drop]
  exact h.sum, fun w hw => by
  rcases List.mem_append.mp hw with z | z
  · exact h.ok w (List.mem_of_mem_take z)
  · exact h.ok w (List.mem_of_mem_drop (List.mem_reverse.mp z))⟩
theorem RwB.set {n k m : Nat} {ws : List Str} {w x : Str} (h : RwB n ws) (e : ws[k]? = some x) (g : TxB (x.length + m) w) : RwB (n + m) (ws.set k w) := ⟨by
  have h1 := sumL_set (w := w) e
  have := h.sum
  have := g.len
  omega, fun v hv => by
  rcases List.mem_or_eq_of_mem_set hv with z | z
  · exact h.ok v z
  · rw [z]
    exact g.ok⟩
section
variable {Γ : Gm} {F : Fm} {ρ : Rho} {M : List MO} {a b e o : Expr} {P : SV → List MO → Prop} {p p1 p2 p3 pos ap : Pos}
/-- a.split(b): a list that will change -/
theorem dx_splitM {s sep : Str} (ho : XD Γ ρ a (.str s)) (he : XD Γ ρ b (.str sep)) (hz : s.length ≤ 40000) (hn : (sep.length == 0) = false) (h : P (.r M.length) (M ++ [.lst ((Txt.split s sep).map .str)])) (ne : ∀ env, starEach [b] env = [(false, eval b env)] := by intro _; rfl) (hb : ∀ env, attributeBase a "split" env (eval a env) = eval a env := by intro _; rfl) (hl : (ap.endLine == pos.line) = true := by rfl) :
    DX Γ F ρ M (.Call (.Attribute a "split" ap) [b] [] pos) P := fun A H σ ps E Q q =>
  WG.of (fun X hX => pe_split (pe_wg hX) (pe_wg hX) (ne X.env) (hb X.env) hl) ((ho σ A E.sl).run E.ah fun v A2 H2 w hv => by
    have ev := dp_str hv
    subst ev
    refine ⟨⟨s, rfl⟩, (he σ A2 (E.sl.mono w.a)).run w.k fun u A3 H3 w3 hu => ?_⟩
    have eu := dp_str hu
    subst eu
    have w4 := w.trans w3
    have E4 := E.step w4
    refine ⟨s, sep, rfl, rfl, hn, by rw [sizeLine_eq]; omega, fun l hnl => q _ (.r M.length) A3 _ _ (ps ++ [l]) ⟨w4.a, [l], rfl⟩ (E4.newM (m := .lst ((Txt.split s sep).map .str)) hnl ⟨_, upd_same, dpa_strs _⟩) ⟨l, at_end E.ms.ln, rfl⟩ h⟩)
/-- sep.join(e) -/
theorem dx_join {sep : Str} (ho : XD Γ ρ o (.str sep)) (he : DX Γ F ρ M e fun z M1 => ∃ ys : List Str, z = .d (strsD ys) ∧ (ys.map (·.length)).sum + ys.length * sep.length ≤ 100000 ∧ P (.d (.str (Txt.join sep ys))) M1) (ne : ∀ env, starEach [e] env = [(false, eval e env)] := by intro _; rfl) (hb : ∀ env, attributeBase o "join" env (eval o env) = eval o env := by intro _; rfl) (hl : (ap.endLine == pos.line) = true := by rfl) :
    DX Γ F ρ M (.Call (.Attribute o "join" ap) [e] [] pos) P := fun A H σ ps E Q q =>
  WG.of (te := tM1 (fun x xs H Q => ∃ a p, ∃ ys : List Str, x = .str a ∧ xs = [.ref p] ∧ (SqL Γ.W.K H p (ys.map V.str) ∨ SqT Γ.W.K H p (ys.map V.str)) ∧ (ys.map (·.length)).sum + ys.length * a.length ≤ 16777216 ∧ Q (.str (Txt.join a ys)) H) (WG Γ o) (WG Γ e)) (fun X hX => by
    have z := pe_join (X := X) (pos := pos) (apos := ap) (pe_wg (e := o) hX) (pe_wg (e := e) hX) (ne X.env) (hb X.env) hl
    rw [hX.K] at z
    exact z) ((ho σ A E.sl).run E.ah fun v A2 H2 w hv => by
    have ev := dp_str hv
    subst ev
    refine ⟨⟨sep, rfl⟩, he A2 H2 σ ps (E.step w) _ fun u z A3 H3 M3 ps3 x3 E3 r ⟨ys, hz, hl, hp⟩ => ?_⟩
    subst hz
    obtain ⟨l, xs, rfl, hs, hx⟩ := dp_list r
    have ex := dpa_strs_eq hx
    subst ex
    exact ⟨sep, l, ys, rfl, rfl, .inl (ex_l E3.ah hs), by omega, q _ (.d (.str (Txt.join sep ys))) A3 H3 M3 ps3 ((Nx.of w.a).trans x3) E3 (.str _) hp⟩)
/-- a[::-1] -/
theorem xd_rev {k : Nat} {ds : List PyData} (h : XD Γ ρ a (.list ds)) : XD Γ ρ (.Subscript a (.Slice none none (some (.UnaryOp .USub (.Constant (.int 1) k p1) p2)) p3) pos) (.list ds.reverse) := fun σ A s =>
  up_d (te := tRevL Γ.W.K (WG Γ a)) (fun X hX => hX.K ▸ pe_revL (pe_wg hX)) (ed_mk fun H ah Q q => (h σ A s).run ah fun v A2 H2 w hv => by
    obtain ⟨l, xs, rfl, hs, hx⟩ := dp_list hv
    refine ⟨l, xs, rfl, ex_l w.k hs, fun n hn => ?_⟩
    have w2 := Gw.new (o := .lst xs.reverse) w.k hn
    exact q _ _ _ (w.trans w2) (.lst (sq_of upd_same) (hx.reverse.ex w2.a)))
end
section
variable {Γ : Gm} {F : Fm} {ρ : Rho} {M : List MO} {a b e o : Expr} {P : SV → List MO → Prop} {p p1 p2 p3 pos ap : Pos}
/-- a.split(b), a read out of what changes -/
theorem dx_splitD {sep : Str} (ho : DX Γ F ρ M a fun z M1 => ∃ s : Str, z = .d (.str s) ∧ s.length ≤ 40000 ∧ P (.d (strsD (Txt.split s sep))) M1) (he : XD Γ ρ b (.str sep)) (hn : (sep.length == 0) = false) (ne : ∀ env, starEach [b] env = [(false, eval b env)] := by intro _; rfl) (hb : ∀ env, attributeBase a "split" env (eval a env) = eval a env := by intro _; rfl) (hl : (ap.endLine == pos.line) = true := by rfl) :
    DX Γ F ρ M (.Call (.Attribute a "split" ap) [b] [] pos) P := fun A H σ ps E Q q =>
  WG.of (fun X hX => pe_split (pe_wg hX) (pe_wg hX) (ne X.env) (hb X.env) hl) (ho A H σ ps E _ fun v z A1 H1 M1 ps1 x1 E1 r ⟨s, hz, hlen, hp⟩ => by
    subst hz
    have ev := dp_str r
    subst ev
    refine ⟨⟨s, rfl⟩, (he σ A1 E1.sl).run E1.ah fun u A3 H3 w3 hu => ?_⟩
    have eu := dp_str hu
    subst eu
    refine ⟨s, sep, rfl, rfl, hn, by rw [sizeLine_eq]; omega, fun l hnl => ?_⟩
    have w4 := w3.trans (Gw.new (o := .lst ((Txt.split s sep).map V.str)) w3.k hnl)
    exact q _ (.d (strsD (Txt.split s sep))) _ _ M1 ps1 (x1.trans (.of w4.a)) (E1.step w4) (.lst (sq_of upd_same) (dpa_strs _)) hp)
end
theorem cut_strs {ws : List Str} {k : Nat} : cutG (ws.map PyData.str) none (some (k : Int)) = (ws.take k).map .str := by
  rw [cut_take, List.map_take]
theorem cut_strsD {ws : List Str} {k : Nat} : cutG (ws.map PyData.str) (some (k : Int)) none = (ws.drop k).map .str := by
  rw [cut_drop, List.map_drop]
section
variable {Γ : Gm} {ρ : Rho} {a b e : Expr} {xs ys : List Str} {k : Nat} {p2 pos : Pos}
theorem xd_tk (h : XD Γ ρ a (strsD xs)) (he : XD Γ ρ e (.int (k : Nat))) : XD Γ ρ (.Subscript a (.Slice none (some e) none p2) pos) (strsD (xs.take k)) := XD.is (xd_slL h xo_n (xo_i he)) (congrArg PyData.list cut_strs)
theorem xd_dr (h : XD Γ ρ a (strsD xs)) (he : XD Γ ρ e (.int (k : Nat))) : XD Γ ρ (.Subscript a (.Slice (some e) none none p2) pos) (strsD (xs.drop k)) := XD.is (xd_slL h (xo_i he) xo_n) (congrArg PyData.list cut_strsD)
theorem xd_cat (h : XD Γ ρ a (strsD xs)) (g : XD Γ ρ b (strsD ys)) (hz : xs.length + ys.length ≤ 100000) : XD Γ ρ (.BinOp a .Add b pos) (strsD (xs ++ ys)) := XD.is (xd_bin h g (ob_catL (by rw [List.length_map, List.length_map]; exact hz))) (congrArg PyData.list List.map_append.symm)
end
end Ev
namespace Ev
open PySem PySem.Spec PyProof.Rows L2 Evl
abbrev nsB : List Str := ["_law_draw", "_law_text", "_law_rows", "_law_way", "_law_k", "_law_some_here", "_law_words", "_law_at", "_law_more"]
abbrev RLBent : MR := fun zs M P PX => ∃ (j B n : Nat) (m : MO) (w : Str), zs = [.r j, .d (.str w)] ∧ TxB n w ∧ n ≤ 1500 ∧ M[j]? = some m ∧ DrawOk B m ∧ B < 999990000 ∧ okM M.length M ∧ ∀ (w' : Str) (m' : MO), TxB (2 * n + 40) w' → DrawOk (B + 10) m' → P (.d (.str w')) (M.set j m')
abbrev FLBent (W : Wd) : Prop := Fk W 3 "_law_bent" ["_law_draw", "_law_text"] (spM W 2 RLBent)
def someS : List Str := (["names 1", "box 0", "cable 0 1 post", "loop 0 0 1"] : List Str) ++ (["evened", "blind 0", "taps known", "", " "] : List Str)
def moreS : List Str := (["0", "1", "7", "8", "01", "-1", "x", "", "post", "pre"] : List Str) ++ (["known", "12345678", "1234567", "3", "box", "+1"] : List Str)
theorem some_tx : ∀ d ∈ someS.map PyData.str, ∃ s, d = .str s ∧ TxB 16 s := fun d hd => by
  obtain ⟨s, hs, rfl⟩ := List.mem_map.mp hd
  have h : (someS.all fun s => decide (s.length ≤ 16) && PyData.strOk s) = true := by decide +kernel
  have := (Bool.and_eq_true _ _).mp (List.all_eq_true.mp h s hs)
  exact ⟨s, rfl, of_decide_eq_true this.1, this.2⟩
theorem more_tx : ∀ d ∈ moreS.map PyData.str, ∃ s, d = .str s ∧ TxB 8 s := fun d hd => by
  obtain ⟨s, hs, rfl⟩ := List.mem_map.mp hd
  have h : (moreS.all fun s => decide (s.length ≤ 8) && PyData.strOk s) = true := by decide +kernel
  have := (Bool.and_eq_true _ _).mp (List.all_eq_true.mp h s hs)
  exact ⟨s, rfl, of_decide_eq_true this.1, this.2⟩
def ifB (i : Nat) : List Stmt := match (defBody (top 90)).getD i (.Pass ⟨0, 0, 0, 0⟩) with
  | .If _ b _ _ => b
  | _ => []
structure BtC {W : Wd} {E : XK} (B : Fb (gmOf W nsB (defScope (top 90)) 2 E)) (M : List MO) (j n D : Nat) : Prop where
  jl : j < M.length
  ho : okM M.length M
  hps : B.F.ps0.length ≤ M.length
  fin : ∀ {w' : Str} {m' : MO} {X : List MO}, TxB (2 * n + 40) w' → DrawOk (D + 10) m' → B.Rt (.d (.str w')) (M.set j m' ++ X)
  hn : n ≤ 1500
  hD : D < 999990000
abbrev rhB (j : Nat) (w : Str) (p : Nat) (wy k : Nat) : Rho := [some (.r j), some (.d (.str w)), some (.r p), some (.d (.int (wy : Nat))), some (.d (.int (k : Nat))), none, none, none, none]
abbrev rhF (j : Nat) (w : Str) (rows : List Str) (wy k : Nat) : Rho := [some (.r j), some (.d (.str w)), some (.d (strsD rows)), some (.d (.int (wy : Nat))), some (.d (.int (k : Nat))), none, none, none, none]
theorem nl1 : ("\n" : Str).length = 1 := by decide +kernel
theorem bl1 : (" " : Str).length = 1 := by decide +kernel
theorem nlo : PyData.strOk "\n" = true := by decide +kernel
theorem blo : PyData.strOk " " = true := by decide +kernel
section
variable {W : Wd} {E : XK} {B : Fb (gmOf W nsB (defScope (top 90)) 2 E)} {M : List MO} {j n D : Nat} {N : Rho → List MO → Prop} {m2 : MO} {w : Str} {wy k : Nat} {rows : List Str}
theorem BtC.frz (C : BtC B M j n D) {sts : List Stmt} (h : DS (gmOf W nsB (defScope (top 90)) 2 E) B (rhF j w rows wy k) (M.set j m2 ++ [.gone]) sts N) : DS (gmOf W nsB (defScope (top 90)) 2 E) B (rhB j w M.length wy k) (M.set j m2 ++ [.lst (rows.map .str)]) sts N := by
  refine ds_freeze (i := 2) (j := M.length) rfl (g0 List.length_set) C.hps ?_
  rw [t0 List.length_set]
  exact h
theorem rows_len (rw0 : RwB (n + 1) rows) (hn : n ≤ 1500) : rows.length ≤ 1501 := by
  have := len_le_sumL rows
  have := rw0.sum
  omega
theorem bt0 (C : BtC B M j n D) (rw0 : RwB (n + 1) rows) (hk : k < rows.length) (hd2 : DrawOk (D + 2) m2) : DS (gmOf W nsB (defScope (top 90)) 2 E) B (rhB j w M.length wy k) (M.set j m2 ++ [.lst (rows.map .str)]) (ifB 2) N := by
  have rl := rows_len rw0 C.hn
  have hn := C.hn
  refine C.frz ?_
  exact ds_one (s_ret (dx_d (xd_join xd_s (xd_cat (xd_tk (xs := rows) (xv 2 rfl rfl) (xv 4 rfl rfl)) (xd_dr (xs := rows) (k := k + 1) (xv 2 rfl rfl) (xd_bin (xv 4 rfl rfl) xd_i ob_add)) (by rw [List.length_take, List.length_drop]; omega)) ((rw0.cut (Nat.le_succ k)).size (by omega) nl1)) (C.fin (((rw0.cut (Nat.le_succ k)).join nl1 nlo).up (by omega)) (hd2.mono (by omega)))))
theorem bt1 (C : BtC B M j n D) (rw0 : RwB (n + 1) rows) (hk : k < rows.length) (hd2 : DrawOk (D + 2) m2) : DS (gmOf W nsB (defScope (top 90)) 2 E) B (rhB j w M.length wy k) (M.set j m2 ++ [.lst (rows.map .str)]) (ifB 3) N := by
  have rl := rows_len rw0 C.hn
  have hn := C.hn
  have hrk : rows[k]? = some rows[k] := List.getElem?_eq_getElem hk
  have rkB := rw0.at hrk
  have hr := rw0.mid (a := k) (c := k) (Nat.le_refl k) (RwB.one rkB)
  refine C.frz ?_
  exact ds_one (s_ret (dx_d (xd_join xd_s (xd_cat (xd_cat (ys := [rows[k]]) (xd_tk (xs := rows) (xv 2 rfl rfl) (xv 4 rfl rfl)) (xd_lst (xds_cons (xd_ix (xv 2 rfl rfl) (xv 4 rfl rfl) (oi_L (atI_nat (by rw [List.getElem?_map, hrk]; rfl)))) xds_nil)) (by rw [List.length_take]; simp; omega)) (xd_dr (xs := rows) (k := k) (xv 2 rfl rfl) (xv 4 rfl rfl)) (by rw [List.length_append, List.length_take, List.length_drop]; simp; omega)) (hr.size (by omega) nl1)) (C.fin ((hr.join nl1 nlo).up (by omega)) (hd2.mono (by omega)))))
theorem bt2 (C : BtC B M j n D) (rw0 : RwB (n + 1) rows) (hk : k < rows.length) (hd2 : DrawOk (D + 2) m2) : DS (gmOf W nsB (defScope (top 90)) 2 E) B (rhB j w M.length wy k) (M.set j m2 ++ [.lst (rows.map .str)]) (ifB 4) N := by
  have rl := rows_len rw0 C.hn
  have hn := C.hn
  have hr := rw0.rev (k := k)
  refine C.frz ?_
  exact ds_one (s_ret (dx_d (xd_join xd_s (xd_cat (ys := (rows.drop k).reverse) (xd_tk (xs := rows) (xv 2 rfl rfl) (xv 4 rfl rfl)) (XD.is (xd_rev (xd_dr (xs := rows) (k := k) (xv 2 rfl rfl) (xv 4 rfl rfl))) (congrArg PyData.list List.map_reverse.symm)) (by rw [List.length_take, List.length_reverse, List.length_drop]; omega)) (hr.size (by omega) nl1)) (C.fin ((hr.join nl1 nlo).up (by omega)) (hd2.mono (by omega)))))
theorem BtC.gr (C : BtC B M j n D) {x : MO} {xs : List MO} : (M.set j x ++ xs)[j]? = some x := gl List.length_set C.jl (List.getElem?_set_self C.jl)
theorem BtC.sr (C : BtC B M j n D) {x y : MO} {xs : List MO} : (M.set j x ++ xs).set j y = M.set j y ++ xs := by rw [tl List.length_set C.jl, List.set_set]
theorem BtC.oA (C : BtC B M j n D) {K : Nat} {x : MO} {xs : List MO} (h : DrawOk K x) (hx : xs.all noRfs = true) : okM (M.set j x ++ xs).length (M.set j x ++ xs) := okM_app (by rw [List.length_set]; exact okM_set C.ho h.nrf) hx
theorem bt3 (C : BtC B M j n D) (fP : FPick W) (rw0 : RwB (n + 1) rows) (hk : k < rows.length) (hd2 : DrawOk (D + 2) m2) : DS (gmOf W nsB (defScope (top 90)) 2 E) B (rhB j w M.length wy k) (M.set j m2 ++ [.lst (rows.map .str)]) (ifB 5) N := by
  have rl := rows_len rw0 C.hn
  have hn := C.hn
  have hD := C.hD
  refine C.frz ?_
  refine ds_cons (s_asg (i := 5) rfl (dx_d (xd_lst (xds_cons xd_s (xds_cons xd_s (xds_cons xd_s (xds_cons xd_s xds_nil))))) ?_))
  refine ds_cons (s_asg (i := 5) rfl (dx_d (d := .list (someS.map .str)) (xd_bin (xv 5 rfl rfl) (xd_lst (xds_cons xd_s (xds_cons xd_s (xds_cons xd_s (xds_cons xd_s (xds_cons xd_s xds_nil)))))) (ob_catL (by simp))) ?_))
  refine ds_one (s_ret (dx_join xd_s (dx_bin (dx_bin (dx_d (xd_tk (xs := rows) (xv 2 rfl rfl) (xv 4 rfl rfl)) ⟨_, rfl, dx_lst (dxs_cons (dx_call (PX := fun _ _ => False) fP (.inr rfl) noX (dxs_cons (dx_r (i := 0) rfl rfl (dxs_d (xds_cons (xv 5 rfl rfl) xds_nil) ⟨rfl, j, _, m2, _, someS.map .str, rfl, .inl rfl, by decide, by decide, C.gr, hd2, by omega, C.oA hd2 rfl, fun d m3 hdm hd3 => ?_⟩)))))⟩)))))
  rw [C.sr]
  obtain ⟨s, rfl, hs⟩ := some_tx d hdm
  have hr := rw0.mid (a := k) (c := k) (Nat.le_refl k) (RwB.one hs)
  refine dxs_nil ⟨[_], rfl, by simp, ⟨_, rfl, _, ob_catL (by rw [List.length_map, List.length_take]; simp; omega), ⟨_, rfl, dx_d (xd_dr (xs := rows) (k := k) (xv 2 rfl rfl) (xv 4 rfl rfl)) ⟨_, rfl, _, ob_catL (by rw [List.length_append, List.length_map, List.length_map, List.length_take, List.length_drop]; simp; omega), ⟨rows.take k ++ [s] ++ rows.drop k, ?_, hr.size (by omega) nl1, C.fin ((hr.join nl1 nlo).up (by omega)) (hd3.mono (by omega))⟩⟩⟩⟩⟩
  unfold strsD
  rw [List.map_append, List.map_append]
  rfl
end
end Ev
namespace Ev
open PySem PySem.Spec PyProof.Rows L2 Evl
def strsOf : List Expr → Option (List Str)
  | [] => some []
  | .Constant (.str k) _ _ :: r => (strsOf r).map (k :: ·)
  | _ => none
theorem xds_strB {Γ : Gm} {ρ : Rho} : ∀ {es : List Expr} {ws : List Str}, strsOf es = some ws → XDs Γ ρ es (ws.map .str)
  | [], ws, h => by
    cases h
    exact xds_nil
  | .Constant (.str k) _ _ :: r, ws, h => by
    obtain ⟨vs, h1, h2⟩ := Option.map_eq_some_iff.mp (show (strsOf r).map (k :: ·) = some ws from h)
    subst h2
    exact xds_cons xd_s (xds_strB h1)
section
variable {W : Wd} {E : XK} {B : Fb (gmOf W nsB (defScope (top 90)) 2 E)} {M : List MO} {j n D : Nat} {m2 m4 : MO} {w r : Str} {wy k a : Nat} {rows ws2 : List Str} {o8 : Option SV}
theorem pick_words (hw2 : RwB (r.length + 10) ws2) (rlen : r.length ≤ n) (hn : n ≤ 1500) (q : Bool) : TxB (r.length + 10) (Txt.join " " (if q = true then ws2 else ws2.take a)) ∧ ((if q = true then ws2 else ws2.take a).map (·.length)).sum + (if q = true then ws2 else ws2.take a).length * (" " : Str).length ≤ 100000 := by
  cases q with
  | true => exact ⟨hw2.join bl1 blo, hw2.size (by omega) bl1⟩
  | false => exact ⟨(hw2.take (k := a)).join bl1 blo, (hw2.take (k := a)).size (by omega) bl1⟩
theorem bt5 (C : BtC B M j n D) (rw0 : RwB (n + 1) rows) (hrk : rows[k]? = some r) (rlen : r.length ≤ n) (hw2 : RwB (r.length + 10) ws2) (hd4 : DrawOk (D + 4) m4) :
    DS (gmOf W nsB (defScope (top 90)) 2 E) B [some (.r j), some (.d (.str w)), some (.r M.length), some (.d (.int (wy : Nat))), some (.d (.int (k : Nat))), none, some (.d (strsD ws2)), some (.d (.int (a : Nat))), o8] (M.set j m4 ++ [.lst (rows.map .str)]) ((defBody (top 90)).drop 11) fun _ M1 => False := by
  have hn := C.hn
  have hk := (List.getElem?_eq_some_iff.mp hrk).1
  obtain ⟨hj, hjs⟩ := pick_words (a := a) hw2 rlen hn (decide (((wy : Nat) : Int) < 8))
  refine ds_cons (s_setIx (i := 2) (j := M.length) (k := k) rfl rfl (xv 4 rfl rfl) (dx_d (xd_join xd_s (xd_if (k := decide (((wy : Nat) : Int) < 8)) (xt_cmp (xv 3 rfl rfl) xd_i oc_lt) (fun h => ?_) fun h => ?_) hjs) ⟨_, _, rfl, g0 List.length_set, by rw [List.length_map]; exact hk, ?_⟩))
  · rw [h, if_pos rfl]
    exact xv 6 rfl rfl
  · rw [h, if_neg (by decide)]
    exact xd_tk (xs := ws2) (xv 6 rfl rfl) (xv 7 rfl rfl)
  rw [t0 List.length_set]
  refine ds_freeze (i := 2) (j := M.length) rfl (g0 List.length_set) C.hps ?_
  rw [t0 List.length_set]
  have hr2 := rw0.set hrk hj
  have e7 : (rows.map PyData.str).set k (.str (Txt.join " " (if decide (((wy : Nat) : Int) < 8) = true then ws2 else ws2.take a))) = (rows.set k (Txt.join " " (if decide (((wy : Nat) : Int) < 8) = true then ws2 else ws2.take a))).map PyData.str := List.map_set.symm
  rw [e7]
  exact ds_one (s_ret (dx_d (xd_join xd_s (xv 2 rfl rfl) (hr2.size (by omega) nl1)) (C.fin ((hr2.join nl1 nlo).up (by omega)) (hd4.mono (by omega)))))
theorem bt4 (b : Bl W) (C : BtC B M j n D) (fN : FNext W) (fP : FPick W) (rw0 : RwB (n + 1) rows) (hk : k < rows.length) (hd2 : DrawOk (D + 2) m2) : DS (gmOf W nsB (defScope (top 90)) 2 E) B (rhB j w M.length wy k) (M.set j m2 ++ [.lst (rows.map .str)]) ((defBody (top 90)).drop 6) fun _ M1 => False := by
  have rl := rows_len rw0 C.hn
  have hn := C.hn
  have hD := C.hD
  have hrk0 : rows[k]? = some rows[k] := List.getElem?_eq_getElem hk
  obtain ⟨r, hrk⟩ : ∃ r, rows[k]? = some r := ⟨_, hrk0⟩
  have rkB := rw0.at hrk
  have rB : TxB r.length r := ⟨Nat.le_refl _, rkB.ok⟩
  have rlen : r.length ≤ n := by
    have := rkB.len
    omega
  obtain ⟨ws, hws⟩ : ∃ ws, ws = Txt.split r " " := ⟨_, rfl⟩
  have wB : RwB (r.length + 1) ws := by
    rw [hws]
    exact RwB.split rB (by omega) sep_blank
  have wl : ws.length ≤ 1501 := by
    have := len_le_sumL ws
    have := wB.sum
    omega
  refine ds_cons (s_asg (i := 6) rfl (dx_splitD (sep := " ") (dx_ixM (i := 2) (ds := rows.map .str) (k := (k : Nat)) (z := .str r) rfl rfl (dx_d (xv 4 rfl rfl) ⟨(k : Nat), rows.map .str, .str r, rfl, g0 List.length_set, atI_nat (by rw [List.getElem?_map, hrk]; rfl), ⟨_, rfl, by omega, ?_⟩⟩)) xd_s (by decide +kernel)))
  rw [← hws]
  refine ds_cons (s_asg (i := 7) rfl (dx_next (i := 0) fN rfl rfl (dx_d (XD.is (xd_bin (xd_callB boot_len b.len (xds_cons (xv 6 rfl rfl) xds_nil) of_lenL) xd_i ob_add) (by rw [List.length_map, show ((ws.length : Nat) : Int) + 1 = ((ws.length + 1 : Nat) : Int) by omega])) ⟨ws.length + 1, _, m2, rfl, C.gr, hd2, by omega, by omega, by omega, C.oA hd2 rfl, fun a m3 ha hd3 => ?_⟩)))
  rw [C.sr]
  refine @ds_cons _ _ _ _ _ _ _ ?_
  refine @s_asg _ _ _ _ _ _ _ _ _ 8 rfl ?_ (.inl rfl) rfl ?_ (by kernel_rfl)
  rotate_left
  · exact fun _ _ => by kernel_rfl
  refine @dx_d _ _ _ _ _ (.list ((["0", "1", "7", "8", "01", "-1", "x", "", "post", "pre"] : List Str).map .str)) _ ?_ ?_
  · refine @xd_lst _ _ _ _ _ ?_ ?_
    · refine @xds_strB _ _ _ _ ?_
      kernel_rfl
    · simp
  refine ds_cons (s_asg (i := 8) rfl (dx_d (d := .list (moreS.map .str)) (xd_bin (xv 8 rfl rfl) (xd_lst (xds_cons xd_s (xds_cons xd_s (xds_cons xd_s (xds_cons xd_s (xds_cons xd_s (xds_cons xd_s xds_nil))))))) (ob_catL (by simp))) ?_))
  obtain ⟨c, hc⟩ : ∃ c : Nat, c = a + (if decide ((5 : Int) < (wy : Nat)) then 1 else 0) := ⟨_, rfl⟩
  have hac : a ≤ c := by omega
  refine ds_cons (s_asg (i := 6) rfl (dx_bin (dx_bin (dx_d (xd_tk (xs := ws) (xv 6 rfl rfl) (xv 7 rfl rfl)) ⟨_, rfl, dx_lst (dxs_cons (dx_call (PX := fun _ _ => False) fP (.inr rfl) noX (dxs_cons (dx_r (i := 0) rfl rfl (dxs_d (xds_cons (xv 8 rfl rfl) xds_nil) ⟨rfl, j, _, m3, _, moreS.map .str, rfl, .inl rfl, by decide, by decide, C.gr, hd3, by omega, C.oA hd3 rfl, fun d m4 hdm hd4 => ?_⟩)))))⟩))))
  rw [C.sr]
  obtain ⟨s, rfl, hs⟩ := more_tx d hdm
  have hw2 := wB.mid (a := a) (c := c) hac (RwB.one hs)
  refine dxs_nil ⟨[_], rfl, by simp, ⟨_, rfl, _, ob_catL (by rw [List.length_map, List.length_take]; simp; omega), ⟨_, rfl, dx_d (xd_dr (xs := ws) (k := c) (xv 6 rfl rfl) (XD.is (xd_bin (xv 7 rfl rfl) (xd_callT bt_int b.int (xds_cons (xd_cmp (xv 3 rfl rfl) xd_i oc_gt) xds_nil) of_intB) ob_add) (by rw [hc]; split <;> simp))) ⟨_, rfl, _, ob_catL (by rw [List.length_append, List.length_map, List.length_map, List.length_take, List.length_drop]; simp; omega), ?_⟩⟩⟩⟩
  have e6 : PyData.list (List.map PyData.str (List.take a ws) ++ [PyData.str s] ++ List.map PyData.str (List.drop c ws)) = strsD (ws.take a ++ [s] ++ ws.drop c) := by
    unfold strsD
    rw [List.map_append, List.map_append]
    rfl
  rw [e6]
  exact bt5 C rw0 hrk rlen ⟨by have := hw2.sum; omega, hw2.ok⟩ (hd4.mono (by omega))
theorem ok_law_bent (b : Bl W) (t : Dg W "_law_bent" 90) (fN : FNext W) (fP : FPick W) : FLBent W := by
  obtain ⟨f, fd, F, hg⟩ := t
  have S : FnScope nsB ["_law_draw", "_law_text"] (defScope (top 90)) := ⟨rfl, rfl, rfl, by decide +kernel, rfl, by decide +kernel, by decide +kernel⟩
  refine fkM F S hg (F.bindsN (fun _ _ _ _ _ _ us hl => match us, hl with | [_, _], _ => rfl)) rfl fun E B zs M P PX hF hRt hPX hl hR => ?_
  obtain ⟨j, D, n, m, w, rfl, hw, hn, hm, hd, hD, ho, hP⟩ := hR
  have jl : j < M.length := (List.getElem?_eq_some_iff.mp hm).1
  have C : BtC B M j n D := ⟨jl, ho, Nat.le_of_eq hF, fun {w' m' X} h1 h2 => by
    rw [hRt]
    exact ⟨trivial, fin2 List.length_set (okM_set ho h2.nrf) (hP _ m' h1 h2)⟩, hn, hD⟩
  have rw0 : RwB (n + 1) (Txt.split w "\n") := RwB.split hw (by omega) sep_line
  have rne : 1 ≤ (Txt.split w "\n").length := by
    have := (split_ok (x := w) ⟨Nat.le_trans hw.len (by omega), hw.ok⟩ sep_line).1
    cases e : Txt.split w "\n" with
    | nil => exact absurd e this
    | cons _ _ => simp
  refine ds_cons (s_par2 (i := 2) (j := 3) rfl rfl (dxs_cons (dx_splitM (xv 1 rfl rfl) xd_s (Nat.le_trans hw.len (by omega)) (by decide +kernel) (dxs_cons (dx_next (i := 0) fN rfl rfl (dx_d xd_i ⟨9, _, m, rfl, gl rfl jl hm, hd, by omega, by omega, by omega, okM_app' rfl ho rfl, fun wy m1 hwy hd1 => dxs_nil ⟨_, _, rfl, ?_⟩⟩))))))
  rw [tl rfl jl]
  obtain ⟨rows, hrows⟩ : ∃ rows, rows = Txt.split w "\n" := ⟨_, rfl⟩
  rw [← hrows] at rw0 rne ⊢
  have rl := rows_len rw0 hn
  have gq : ∀ (x : MO) (o4 o5 o6 o7 o8 : Option SV), (rhoM [some (.r j), some (.d (.str w)), some (.r M.length), some (.d (.int (wy : Nat))), o4, o5, o6, o7, o8] (M.set j x ++ [.lst (rows.map .str)]))[2]? = some (some (.d (.list (rows.map .str)))) := fun x o4 o5 o6 o7 o8 => by
    show some (match (M.set j x ++ [MO.lst (rows.map .str)])[M.length]? with
      | some (.lst ds) => some (SV.d (.list ds))
      | _ => none) = _
    rw [g0 List.length_set]
  refine ds_cons (s_asg (i := 4) rfl (dx_next (i := 0) fN rfl rfl (dx_m (d := .int ((rows.map PyData.str).length : Nat)) (xd_callB boot_len b.len (xds_cons (xv 2 rfl (gq m1 none none none none none)) xds_nil) of_lenL) rfl ⟨(rows.map PyData.str).length, _, m1, rfl, C.gr, hd1, by omega, by rw [List.length_map]; exact rne, by rw [List.length_map]; omega, C.oA hd1 rfl, fun k m2 hk hd2 => ?_⟩)))
  rw [C.sr]
  rw [List.length_map] at hk
  refine ds_cons (s_if (dt_t (xt_cmp (xv 3 rfl rfl) xd_i oc_eqI) ⟨fun _ => bt0 C rw0 hk hd2, fun _ => ds_nil ?_⟩))
  refine ds_cons (s_if (dt_t (xt_cmp (xv 3 rfl rfl) xd_i oc_eqI) ⟨fun _ => bt1 C rw0 hk hd2, fun _ => ds_nil ?_⟩))
  refine ds_cons (s_if (dt_t (xt_cmp (xv 3 rfl rfl) xd_i oc_eqI) ⟨fun _ => bt2 C rw0 hk hd2, fun _ => ds_nil ?_⟩))
  refine ds_cons (s_if (dt_t (xt_cmp (xv 3 rfl rfl) xd_i oc_eqI) ⟨fun _ => bt3 C fP rw0 hk hd2, fun _ => ds_nil ?_⟩))
  exact (bt4 b C fN fP rw0 hk hd2).mono fun _ _ z => z.elim
end
end Ev
namespace Ev
open PySem PySem.Spec PyProof.Rows L2 Evl
/-! ### a dict that is laid new -/
section
variable {Γ : Gm} {F : Fm} {ρ : Rho} {M : List MO} {e1 e2 e3 e4 : Expr} {d1 d2 d3 d4 : PyData} {k1 k2 k3 k4 : Str} {j1 j2 j3 j4 : Nat} {P : SV → List MO → Prop} {pos q1 q2 q3 q4 : Pos}
theorem dx_disp4 (h1 : XD Γ ρ e1 d1) (h2 : XD Γ ρ e2 d2) (h3 : XD Γ ρ e3 d3) (h4 : XD Γ ρ e4 d4)
    (p : P (.r M.length) (M ++ [.dct (putKD (putKD (putKD (putKD [] (.inr k1) d1) (.inr k2) d2) (.inr k3) d3) (.inr k4) d4)])) :
    DX Γ F ρ M (.Dict [some (.Constant (.str k1) j1 q1), some (.Constant (.str k2) j2 q2), some (.Constant (.str k3) j3 q3), some (.Constant (.str k4) j4 q4)] [e1, e2, e3, e4] pos) P := fun A H σ ps E Q q =>
  WG.of (te := tDisp [(tC (.str k1), WG Γ e1), (tC (.str k2), WG Γ e2), (tC (.str k3), WG Γ e3), (tC (.str k4), WG Γ e4)]) (fun X hX => pe_disp (pps_cons pe_str (pe_wg hX) (pps_cons pe_str (pe_wg hX) (pps_cons pe_str (pe_wg hX) (pps_cons pe_str (pe_wg hX) pps_nil)))) rfl rfl (by simp) (by simp)) fun p0 hp => by
    have e0 : Ex H (upd H p0 (.dK [])) := Ex.new hp
    have a0 : A p0 = Option.none := none_back E.ah hp
    refine (h1 σ A E.sl).run (E.ah.trans e0) fun v1 A1 H1 w1 r1 => ?_
    refine (h2 σ A1 (E.sl.mono w1.a)).run w1.k fun v2 A2 H2 w2 r2 => ?_
    refine (h3 σ A2 ((E.sl.mono w1.a).mono w2.a)).run w2.k fun v3 A3 H3 w3 r3 => ?_
    refine (h4 σ A3 (((E.sl.mono w1.a).mono w2.a).mono w3.a)).run w3.k fun v4 A4 H4 w4 r4 => ?_
    have w : Gw A (upd H p0 (.dK [])) A4 H4 := w1.trans (w2.trans (w3.trans w4))
    have h4p : H4 p0 = some (.dK []) := w.h _ _ upd_same
    refine ⟨h4p, [(.inr k1, v1), (.inr k2, v2), (.inr k3, v3), (.inr k4, v4)], rfl, by simp, ?_⟩
    have E1 := (E.newM (p := p0) (o := .dK []) (m := .dct []) hp ⟨[], upd_same, rfl, .nil⟩).step w
    have hl : ps[M.length]? = Option.none := List.getElem?_eq_none (by rw [← E.ms.ln]; exact Nat.le_refl _)
    have hm : (M ++ [MO.dct []])[M.length]? = some (.dct []) := by rw [List.getElem?_append_right (Nat.le_refl _)]; simp
    have hps : (ps ++ [p0])[M.length]? = some p0 := by rw [E.ms.ln, List.getElem?_append_right (Nat.le_refl _)]; simp
    have pk : ParK Γ.W.K A4 (mergeK [] [(.inr k1, v1), (.inr k2, v2), (.inr k3, v3), (.inr k4, v4)]) (putKD (putKD (putKD (putKD [] (.inr k1) d1) (.inr k2) d2) (.inr k3) d3) (.inr k4) d4) :=
      parK_put r4 (parK_put (r3.ex w4.a) (parK_put ((r2.ex w3.a).ex w4.a) (parK_put (((r1.ex w2.a).ex w3.a).ex w4.a) ⟨rfl, .nil⟩)))
    have E2 := E1.mut (m := .dct (putKD (putKD (putKD (putKD [] (.inr k1) d1) (.inr k2) d2) (.inr k3) d3) (.inr k4) d4)) hm rfl hps h4p noHit_dK (o := .dK (mergeK [] [(.inr k1, v1), (.inr k2, v2), (.inr k3, v3), (.inr k4, v4)])) ⟨_, upd_same, pk.1, pk.2⟩
    have es : (M ++ [MO.dct []]).set M.length (.dct (putKD (putKD (putKD (putKD [] (.inr k1) d1) (.inr k2) d2) (.inr k3) d3) (.inr k4) d4)) = M ++ [.dct (putKD (putKD (putKD (putKD [] (.inr k1) d1) (.inr k2) d2) (.inr k3) d3) (.inr k4) d4)] := by
      rw [List.set_append_right _ _ (Nat.le_refl _)]
      simp
    rw [es] at E2
    exact q (.ref p0) (.r M.length) A4 _ _ (ps ++ [p0]) ⟨w.a, [p0], rfl⟩ E2 ⟨p0, hps, rfl⟩ p
end
/-- a def that gives a dict of its own -/
def spB (K : Kf) (n : Nat) (R : List PyData → List (Key × PyData) → Prop) : Sp := fun vs H Q _ => ∃ A ds kvs, ds.length = n ∧ Ex A H ∧ DpAll K A vs ds ∧ R ds kvs ∧
  ∀ p A1 H1, Gw A H A1 H1 → H p = Option.none → A1 p = Option.none → MoOk K A1 H1 [] p (.dct kvs) → Q (.ref p) H1
theorem dx_callBg {Γ : Gm} {F : Fm} {ρ : Rho} {M : List MO} {e : Expr} {es : List Expr} {P : SV → List MO → Prop} {pos p : Pos} {f : Str} {k n : Nat} {ps : List Str} {R : List PyData → List (Key × PyData) → Prop} (Fn : Fk Γ.W k f ps (spB Γ.W.K n R)) (ha : DXs Γ F ρ M (e :: es) fun zs M1 => ∃ ds kvs, zs = ds.map .d ∧ ds.length = n ∧ R ds kvs ∧ P (.r M1.length) (M1 ++ [.dct kvs])) (hk : Nat.ble k Γ.k = true := by rfl) (g : Glo Γ f := by rfl) (ne : NS e := by intro _ _; rfl) (ns : NSs es := by intro _ _; rfl)
    (hdb : (f == ("__debug__" : Str)) = false := by decide) : DX Γ F ρ M (.Call (.Name f p) (e :: es) [] pos) P := fun A H σ qs E Q q => by
  obtain ⟨a, fd, h1, h2, h3, h4⟩ := Fn
  refine WG.of (te := tCall (spB Γ.W.K n R) [] E0 (WGa Γ (e :: es))) (fun X h => by
    obtain ⟨u1, u2, u3, u4, u5⟩ : X.prog = Γ.W.P ∧ X.w = Γ.W.w ∧ X.K = Γ.W.K ∧ X.mg = Γ.W.mg ∧ X.base = Γ.W.base := ⟨h.prog, h.w, h.K, h.mg, h.base⟩
    exact pe_call (CX := L2.CX X.prog X.w) (E := E0) (dvs := []) (ds := []) (fd := fd) (ps := ps) (by rw [u1, u2, u3, u4, u5]; exact h4) (h.room.mono (Nat.le_of_ble_eq_true hk)) (gl_of h g) (by rw [u4]; exact h1) (by rw [u3]; exact h2) (by rw [u3]; exact h3) .nil passL (pa_wg h) hdb (ne es X.env) (ns pos X.env)) (ha A H σ qs E _ fun vs zs A1 H1 M1 ps1 e1 E1 rs ⟨ds, kvs, hz, hl, hR, pp⟩ => ?_)
  subst hz
  rw [List.append_nil]
  refine ⟨A1, ds, kvs, hl, E1.ah, rvs_d rs, hR, fun p0 A2 H2 w hp ap mo => ?_⟩
  have E2 := E1.step w
  obtain ⟨vs0, hv, m1, m2⟩ := mo
  have np : p0 ∉ ps1 := fun z => by
    obtain ⟨j, hj⟩ := List.mem_iff_getElem?.mp z
    have hjl : j < M1.length := by rw [E1.ms.ln]; exact (List.getElem?_eq_some_iff.mp hj).1
    exact (E1.ms.mo j _ p0 (List.getElem?_eq_getElem hjl) hj).1 hp
  have f0 : F.H0 p0 = Option.none := by
    cases e : F.H0 p0 with
    | none => rfl
    | some o => exact absurd hp (E1.fx.nn p0 (by rw [e]; simp))
  refine q (.ref p0) (.r M1.length) A2 H2 (M1 ++ [.dct kvs]) (ps1 ++ [p0]) (e1.trans ⟨w.a, [p0], rfl⟩) ?_ ⟨p0, by rw [E1.ms.ln, List.getElem?_append_right (Nat.le_refl _)]; simp, rfl⟩ pp
  refine ⟨E2.fx, ⟨by simp [E2.ms.ln], fun j m p hm hp => ?_, ?_⟩, E2.sl, ⟨fun i j h => ?_, fun i x h => E2.rs.2 i x h⟩, ?_⟩
  · by_cases hj : j < M1.length
    · rw [List.getElem?_append_left hj] at hm
      rw [List.getElem?_append_left (by rw [← E2.ms.ln]; exact hj)] at hp
      obtain ⟨h1, h2, h3⟩ := E2.ms.mo j m p hm hp
      exact ⟨h1, h2.more, h3⟩
    · rw [List.getElem?_append_right (by omega)] at hm
      rw [List.getElem?_append_right (by rw [← E2.ms.ln]; omega), ← E2.ms.ln] at hp
      have h0 : j - M1.length = 0 := by
        have := (List.getElem?_eq_some_iff.mp hm).1
        simp at this
        omega
      rw [h0] at hm hp
      cases hm
      cases hp
      exact ⟨by rw [hv]; simp, ⟨vs0, hv, m1, m2⟩, fun _ => ap⟩
  · rw [List.nodup_append]
    exact ⟨E2.ms.nd, by simp, fun a ha b hb e => np (by
      have : b = p0 := by simpa using hb
      rw [← this, ← e]
      exact ha)⟩
  · obtain ⟨q, h1, h2⟩ := E2.rs.1 i j h
    exact ⟨q, by rw [List.getElem?_append_left (List.getElem?_eq_some_iff.mp h1).1]; exact h1, h2⟩
  · obtain ⟨qs, e1, e2⟩ := E2.nw
    refine ⟨qs ++ [p0], by rw [e1, List.append_assoc], fun b hb => ?_⟩
    rcases List.mem_append.mp hb with z | z
    · exact e2 b z
    · have : b = p0 := by simpa using z
      rw [this]
      exact f0
def fbB (Γ : Gm) (A H : Hp) (Q : VK) (kvs : List (Key × PyData)) (q : ∀ p A1 H1, Gw A H A1 H1 → H p = Option.none → A1 p = Option.none → MoOk Γ.W.K A1 H1 [] p (.dct kvs) → Q (.ref p) H1) : Fb Γ where
  F := fmOf A H []
  rt := Q
  Rt := fun z M1 => z = .r 0 ∧ M1[0]? = some (.dct kvs)
  PX := fun _ _ => False
  hR := fun A1 H1 σ ρ M ps v z E r ⟨hz, hm⟩ => by
    subst hz
    obtain ⟨p, hp, e⟩ := r
    subst e
    obtain ⟨h1, h2, h3⟩ := E.ms.mo 0 _ p hm hp
    obtain ⟨qs, e1, e2⟩ := E.nw
    have hp0 : H p = Option.none := e2 p (by
      have e1 : ps = [] ++ qs := e1
      rw [List.nil_append] at e1
      rw [← e1]
      exact List.mem_of_getElem? hp)
    exact q p A1 H1 (gw_pure (σ := σ) (σ1 := σ) E) hp0 (h3 rfl) h2
  hX := fun _ _ _ _ _ _ _ _ _ _ _ _ _ z => z.elim
def drawL (ds : List PyData) : List (Key × PyData) := [(.inr "cells", .list ds), (.inr "at", .int 0), (.inr "left", .int 0), (.inr "used", .int 0)]
theorem bg_put (ds : List PyData) : putKD (putKD (putKD (putKD [] (.inr "cells") (.list ds)) (.inr "at") (.int 0)) (.inr "left") (.int 0)) (.inr "used") (.int 0) = drawL ds := by kernel_rfl
def RBegin : List PyData → List (Key × PyData) → Prop := fun ds kvs => ∃ ns : List Int, ds = [.list (ns.map .int)] ∧ ns.length ≤ 1000 ∧ kvs = drawK (ns ++ [0]) 0 0 0
theorem ok_law_begin {W : Wd} (t : Dg W "_law_begin" 65) : Fk W 1 "_law_begin" ["_law_script"] (spB W.K 1 RBegin) := by
  obtain ⟨f, fd, F, hg⟩ := t
  have S : FnScope ["_law_script"] ["_law_script"] (defScope (top 65)) := ⟨rfl, rfl, rfl, by decide +kernel, rfl, by decide +kernel, by decide +kernel⟩
  refine fk_mk F S hg (F.bindsN (fun _ _ _ _ _ _ us hl => match us, hl with | [_], _ => rfl)) (fun vs H Q E ⟨A, ds, kvs, h1, _, h2, _⟩ => by rw [h2.len, h1]; rfl) fun E vs H Q ⟨A, ds, kvs, h1, h2, h3, h4, h5⟩ => ?_
  obtain ⟨ns, rfl, hn, rfl⟩ := h4
  refine (?_ : DS (gmOf W ["_law_script"] (defScope (top 65)) 0 E) (fbB (gmOf W ["_law_script"] (defScope (top 65)) 0 E) A H Q (drawK (ns ++ [0]) 0 0 0) h5) (startR ["_law_script"] ([PyData.list (ns.map .int)].map .d)) [] (defBody (top 65)) fun _ _ => False) A H (L2.start ["_law_script"] vs) [] (en_start (ps := []) h2 ⟨rfl, (fun j m p hm => by cases hm), List.nodup_nil⟩ (rvs_of_d h3)) _ rfl fun A1 H1 σ1 ρ1 M1 ps1 x1 E1 hd => hd.elim
  refine ds_one (s_ret (dx_disp4 (xd_bin (xv 0 rfl rfl) (xd_lst (xds_cons xd_i xds_nil)) (ob_catL (by simp; omega))) xd_i xd_i xd_i ⟨rfl, ?_⟩))
  have e : drawK (ns ++ [0]) 0 0 0 = drawL (ns.map .int ++ [.int 0]) := by
    unfold drawK
    rw [List.map_append]
    rfl
  rw [e]
  exact congrArg (fun k => some (MO.dct k)) (bg_put _)
end Ev
namespace Ev
open PySem PySem.Spec PyProof.Rows L2 Evl
/-! ### what repr shows is not too long -/
structure Fine (k n : Nat) (d : PyData) : Prop where
  sh : d.showable = true
  nd : d.hasDict = false
  ls : d.leavesShort 13 = true
  wt : d.weight ≤ n
  dp : d.depth ≤ k
theorem Fine.mono {k k' n n' : Nat} {d : PyData} (h : Fine k n d) (hk : k ≤ k') (hn : n ≤ n') : Fine k' n' d := ⟨h.sh, h.nd, h.ls, Nat.le_trans h.wt hn, Nat.le_trans h.dp hk⟩
theorem Fine.fits {k n : Nat} {d : PyData} (h : Fine k n d) (hn : n ≤ 2 ^ 20) : d.shown.length ≤ sizeLine := PyData.shown_fits (by decide) (by decide) h.ls (Nat.le_trans h.wt hn)
theorem fine_none : Fine 0 41 .none := ⟨rfl, rfl, rfl, by simp [PyData.weight], by simp [PyData.depth]⟩
theorem fine_int {i : Int} (h : i.natAbs < 10 ^ 12) : Fine 0 41 (.int i) := by
  have h1 : i.natAbs.log2 < 40 := by
    by_cases z : i.natAbs = 0
    · rw [z]; decide
    · have := Nat.log2_lt z (k := 40)
      rw [this]
      omega
  refine ⟨?_, rfl, ?_, ?_, by simp [PyData.depth]⟩
  · simp only [PyData.showable, decide_eq_true_eq]; omega
  · simp only [PyData.leavesShort, decide_eq_true_eq]; exact PyData.shown_int_le h
  · simp only [PyData.weight]
    split <;> omega
theorem fine_str {x : Str} {n : Nat} (h : x.length ≤ n) (ok : (x.cps.toList.all fun c => decide (c < 16 ^ 8)) = true) : Fine 0 n (.str x) := ⟨rfl, rfl, by simpa only [PyData.leavesShort] using ok, by simp only [PyData.weight]; exact h, by simp [PyData.depth]⟩
theorem fine_all {k n : Nat} : ∀ {xs : List PyData}, (∀ x ∈ xs, Fine k n x) → PyData.showableAll xs = true ∧ PyData.hasDictAll xs = false ∧ PyData.leavesShortAll 13 xs = true ∧ PyData.weightAll xs ≤ xs.length * (n + 1) ∧ PyData.depthAll xs ≤ k
  | [], _ => ⟨rfl, rfl, rfl, by simp [PyData.weightAll], by simp [PyData.depthAll]⟩
  | x :: xs, h => by
    have hx := h x List.mem_cons_self
    obtain ⟨h1, h2, h3, h4, h5⟩ := fine_all (xs := xs) fun y hy => h y (List.mem_cons_of_mem _ hy)
    refine ⟨?_, ?_, ?_, ?_, ?_⟩
    · simp only [PyData.showableAll, hx.sh, h1, Bool.and_self]
    · simp only [PyData.hasDictAll, hx.nd, h2, Bool.or_self]
    · simp only [PyData.leavesShortAll, hx.ls, h3, Bool.and_self]
    · simp only [PyData.weightAll, List.length_cons, Nat.add_mul, Nat.one_mul]
      have := hx.wt
      omega
    · simp only [PyData.depthAll]
      have := hx.dp
      omega
theorem fine_tup {k n m : Nat} {xs : List PyData} (h : ∀ x ∈ xs, Fine k n x) (hm : xs.length ≤ m) : Fine (k + 1) (m * (n + 1)) (.tuple xs) := by
  obtain ⟨h1, h2, h3, h4, h5⟩ := fine_all h
  exact ⟨by simpa only [PyData.showable] using h1, by simpa only [PyData.hasDict] using h2, by simpa only [PyData.leavesShort] using h3, by simpa only [PyData.weight] using Nat.le_trans h4 (Nat.mul_le_mul_right _ hm), by simp only [PyData.depth]; omega⟩
theorem fine_lst {k n m : Nat} {xs : List PyData} (h : ∀ x ∈ xs, Fine k n x) (hm : xs.length ≤ m) : Fine (k + 1) (m * (n + 1)) (.list xs) := by
  obtain ⟨h1, h2, h3, h4, h5⟩ := fine_all h
  exact ⟨by simpa only [PyData.showable] using h1, by simpa only [PyData.hasDict] using h2, by simpa only [PyData.leavesShort] using h3, by simpa only [PyData.weight] using Nat.le_trans h4 (Nat.mul_le_mul_right _ hm), by simp only [PyData.depth]; omega⟩
theorem wholeD_int {x l m : Int} (h : wholeD (.int x) l m = true) : l ≤ x ∧ x ≤ m := by
  unfold wholeD at h
  simpa using h
theorem areD_ints {xs : List Int} {n l m : Int} (h : areD (intsD xs) n l m = true) : (xs.length : Int) = n ∧ ∀ x ∈ xs, l ≤ x ∧ x ≤ m := by
  unfold areD intsD at h
  simp only [Bool.and_eq_true, decide_eq_true_eq, List.length_map, List.all_map, List.all_eq_true] at h
  exact ⟨h.1, fun x hx => wholeD_int (h.2 x hx)⟩
theorem fine_ints {xs : List Int} {m : Nat} (hm : xs.length ≤ m) (h : ∀ x ∈ xs, 0 ≤ x ∧ x ≤ 100) : Fine 1 (m * 42) (intsD xs) := fine_tup (k := 0) (n := 41) (fun d hd => by
  obtain ⟨x, hx, rfl⟩ := List.mem_map.mp hd
  obtain ⟨h1, h2⟩ := h x hx
  exact fine_int (by omega)) (by rw [List.length_map]; exact hm)
theorem lf_none {part : Str} {len : Nat} {lo hi : Int} {good : Nat → Bool} (h : listFault part len lo hi good = none) : ((len : Nat) : Int) ≤ hi ∧ ∀ i, i < len → good i = true := by
  refine ⟨(listFault_in h).2, fun i hi' => ?_⟩
  unfold listFault at h
  split at h
  · have h : (firstBad good len).map (fun i => (part, some i)) = none := h
    rw [Option.map_eq_none_iff] at h
    unfold firstBad at h
    rw [List.find?_eq_none] at h
    have := h i (List.mem_range.mpr hi')
    simpa using this
  · cases h
theorem lf_some {part p : Str} {len : Nat} {lo hi : Int} {good : Nat → Bool} {n : Option Nat} (h : listFault part len lo hi good = some (p, n)) : p = part ∧ ∀ i, n = some i → ((i : Nat) : Int) < hi := by
  unfold listFault at h
  split at h
  · rename_i z
    simp only [Bool.and_eq_true, decide_eq_true_eq] at z
    have h : (firstBad good len).map (fun i => (part, some i)) = some (p, n) := h
    obtain ⟨i, e1, e2⟩ := Option.map_eq_some_iff.mp h
    cases e2
    refine ⟨rfl, fun j e => ?_⟩
    cases e
    unfold firstBad at e1
    have := List.mem_range.mp (List.mem_of_find?_eq_some e1)
    omega
  · cases h
    exact ⟨rfl, fun i e => by cases e⟩
def parts : List Str := ["names", "boxes", "cables", "ring", "loops"]
theorem parts_ok : (parts.all fun p => decide (p.length ≤ 41) && p.cps.toList.all fun c => decide (c < 16 ^ 8)) = true := by decide +kernel
theorem rackFault_some {r : Rack} {p : Str} {n : Option Nat} (h : rackFault r = some (p, n)) : p ∈ parts ∧ ∀ i, n = some i → i < 15 := by
  have pm : ∀ q : Str, decide (q ∈ parts) = true → q ∈ parts := fun q e => of_decide_eq_true e
  have or_ : ∀ {a b : Option (Str × Option Nat)} {z}, orElse a b = some z → a = some z ∨ (a = none ∧ b = some z) := fun {a b z} e => by
    cases a with
    | none => exact .inr ⟨rfl, e⟩
    | some x => exact .inl e
  have fin : ∀ {q : Str} {hi : Int} {len lo good}, listFault q len lo hi good = some (p, n) → q ∈ parts → hi ≤ 15 → p ∈ parts ∧ ∀ i, n = some i → i < 15 := fun e hq hh => by
    obtain ⟨e1, e2⟩ := lf_some e
    subst e1
    exact ⟨hq, fun i ei => by have := e2 i ei; omega⟩
  unfold rackFault at h
  split at h
  · cases h
    exact ⟨pm _ (by decide +kernel), fun i e => by cases e⟩
  · rcases or_ h with h | ⟨_, h⟩
    · exact fin h (pm _ (by decide +kernel)) (by decide)
    · rcases or_ h with h | ⟨_, h⟩
      · exact fin h (pm _ (by decide +kernel)) (by decide)
      · split at h
        · cases h
          exact ⟨pm _ (by decide +kernel), fun i e => by cases e⟩
        · exact fin h (pm _ (by decide +kernel)) (by decide)
theorem fine_part {p : Str} (h : p ∈ parts) : Fine 0 41 (.str p) := by
  have := List.all_eq_true.mp parts_ok p h
  simp only [Bool.and_eq_true, decide_eq_true_eq] at this
  exact fine_str this.1 this.2
theorem fine_num {n : Option Nat} (h : ∀ i, n = some i → i < 15) : Fine 0 41 (numD n) := by
  cases n with
  | none => exact fine_none
  | some i => exact fine_int (by have := h i rfl; simp; omega)
theorem fine_kind {k : Str} (h : kindOk k = true) : Fine 0 41 (.str k) := by
  unfold kindOk at h
  simp only [Bool.or_eq_true, decide_eq_true_eq] at h
  rcases h with rfl | rfl
  · exact fine_str (by decide +kernel) (by decide +kernel)
  · exact fine_str (by decide +kernel) (by decide +kernel)
theorem fine_rack {r : Rack} (ck : ∀ c ∈ r.cables, kindOk c.2.2 = true) (h : rackFault r = none) : Fine 4 10000 (rackD r) := by
  have or_ : ∀ {a b : Option (Str × Option Nat)}, orElse a b = none → a = none ∧ b = none := fun {a b} e => by
    cases a with
    | none => exact ⟨rfl, e⟩
    | some x => cases e
  unfold rackFault at h
  split at h
  · cases h
  · rename_i hn
    have hn := wholeD_int (by simpa using hn : wholeD (.int r.names) 1 4 = true)
    obtain ⟨hb, h⟩ := or_ h
    obtain ⟨hc, h⟩ := or_ h
    split at h
    · cases h
    · obtain ⟨b1, b2⟩ := lf_none hb
      obtain ⟨c1, c2⟩ := lf_none hc
      obtain ⟨l1, l2⟩ := lf_none h
      have f2 : Fine 3 2499 (.tuple (r.boxes.map intsD)) := (fine_tup (k := 1) (n := 4 * 42) (m := 8) (fun d hd => by
        obtain ⟨x, hx, rfl⟩ := List.mem_map.mp hd
        obtain ⟨i, hi, e⟩ := List.mem_iff_getElem.mp hx
        have g := b2 i hi
        unfold boxOk at g
        rw [List.getD_eq_getElem?_getD, List.getElem?_eq_getElem hi, e, Option.getD_some] at g
        obtain ⟨g1, g2⟩ := areD_ints g
        exact fine_ints (by omega) fun y hy => by have := g2 y hy; omega) (by rw [List.length_map]; omega)).mono (by decide) (by decide)
      have f3 : Fine 3 2499 (.tuple (r.cables.map cabD)) := (fine_tup (k := 1) (n := 3 * 42) (m := 14) (fun d hd => by
        obtain ⟨x, hx, rfl⟩ := List.mem_map.mp hd
        obtain ⟨i, hi, e⟩ := List.mem_iff_getElem.mp hx
        have g := c2 i hi
        unfold cabOk at g
        rw [List.getElem?_eq_getElem hi, e] at g
        simp only [Bool.and_eq_true] at g
        obtain ⟨g1, g2⟩ := areD_ints g.1.1
        have y1 := g2 x.1 (by simp)
        have y2 := g2 x.2.1 (by simp)
        refine fine_tup (k := 0) (n := 41) (fun d hd => ?_) (by simp)
        simp only [List.mem_cons, List.not_mem_nil, or_false] at hd
        rcases hd with rfl | rfl | rfl
        · exact fine_int (by omega)
        · exact fine_int (by omega)
        · exact fine_kind (ck x hx)) (by rw [List.length_map]; omega)).mono (by decide) (by decide)
      have f4 : Fine 3 2499 (.tuple (r.loops.map looD)) := (fine_tup (k := 2) (n := 3 * 169) (m := 3) (fun d hd => by
        obtain ⟨x, hx, rfl⟩ := List.mem_map.mp hd
        obtain ⟨i, hi, e⟩ := List.mem_iff_getElem.mp hx
        have g := l2 i hi
        unfold looOk at g
        rw [List.getElem?_eq_getElem hi, e] at g
        simp only [Bool.and_eq_true] at g
        obtain ⟨g1, g2⟩ := areD_ints g.1
        have y1 := g2 x.1 (by simp)
        have y2 := g2 x.2.1 (by simp)
        obtain ⟨t1, t2⟩ := areD_ints g.2.1
        refine fine_tup (k := 1) (n := 168) (fun d hd => ?_) (by simp)
        simp only [List.mem_cons, List.not_mem_nil, or_false] at hd
        rcases hd with rfl | rfl | rfl
        · exact (fine_int (by omega)).mono (by decide) (by decide)
        · exact (fine_int (by omega)).mono (by decide) (by decide)
        · exact (fine_ints (m := 4) (by omega) fun y hy => by have := t2 y hy; omega)) (by rw [List.length_map]; omega)).mono (by decide) (by decide)
      refine (fine_tup (k := 3) (n := 2499) (m := 4) (fun d hd => ?_) (by simp)).mono (by decide) (by decide)
      simp only [List.mem_cons, List.not_mem_nil, or_false] at hd
      rcases hd with rfl | rfl | rfl | rfl
      · exact (fine_int (by omega)).mono (by decide) (by decide)
      · exact f2.mono (by decide) (by decide)
      · exact f3.mono (by decide) (by decide)
      · exact f4.mono (by decide) (by decide)
theorem rise_ints {l : List Nat} (h : riseOk l 8 = true) : ∀ x ∈ l, x < 8 := fun x hx => by
  unfold riseOk at h
  simp only [Bool.and_eq_true, List.all_eq_true] at h
  have := wholeD_int (h.1 x hx)
  omega
theorem fine_nats {l : List Nat} {m : Nat} (h : ∀ x ∈ l, x < 8) (hm : l.length ≤ m) : Fine 1 (m * 42) (.tuple (natsD l)) := by
  rw [natsD_eq]
  exact fine_ints (by rw [toI, List.length_map]; exact hm) fun x hx => by
    obtain ⟨y, hy, rfl⟩ := List.mem_map.mp hx
    have := h y hy
    omega
theorem fine_rule {r : Rul} (h : ruleFault r = none) (ht : tapOk r.tap = true) (h1 : r.up.length ≤ 4002) (h2 : r.bl.length ≤ 4002) : Fine 2 600000 (ruleD r) := by
  unfold ruleFault at h
  split at h
  · cases h
  · rename_i a
    split at h
    · cases h
    · rename_i b
      refine (fine_tup (k := 1) (n := 4002 * 42) (m := 3) (fun d hd => ?_) (by simp)).mono (by decide) (by decide)
      simp only [List.mem_cons, List.not_mem_nil, or_false] at hd
      rcases hd with rfl | rfl | rfl
      · exact fine_nats (rise_ints (by simpa using a)) h1
      · exact fine_nats (rise_ints (by simpa using b)) h2
      · unfold tapOk at ht
        have ht := of_decide_eq_true ht
        simp only [List.mem_cons, List.not_mem_nil, or_false] at ht
        rcases ht with e | e
        · rw [e]; exact (fine_str (n := 41) (by decide +kernel) (by decide +kernel)).mono (by decide) (by decide)
        · rw [e]; exact (fine_str (n := 41) (by decide +kernel) (by decide +kernel)).mono (by decide) (by decide)
/-! ### how texts are told, both sides -/
theorem run_inl : ∀ {L : List (List Str)} {st k n : Nat} {r : Rack}, run L st k r = .inl n → n ≤ k + L.length
  | [], st, k, n, r, h => by
    rw [run] at h
    split at h
    · cases h
      simp
    · cases h
  | ws :: rest, st, k, n, r, h => by
    rw [run] at h
    rw [List.length_cons]
    split at h
    · split at h
      · have := run_inl h
        omega
      · cases h
        omega
    · cases h
      omega
theorem run_kind : ∀ {L : List (List Str)} {st k : Nat} {r r1 : Rack}, run L st k r = .inr r1 → (∀ c ∈ r.cables, kindOk c.2.2 = true) → ∀ c ∈ r1.cables, kindOk c.2.2 = true
  | [], st, k, r, r1, h, hk => by
    rw [run] at h
    split at h
    · cases h
    · cases h
      exact hk
  | ws :: rest, st, k, r, r1, h, hk => by
    rw [run] at h
    split at h
    · rename_i row ht
      split at h
      · refine run_kind h fun c hc => ?_
        cases row with
        | names m => exact hk c hc
        | box l => exact hk c hc
        | loop a b l => exact hk c hc
        | cable c0 =>
          rcases List.mem_append.mp hc with z | z
          · exact hk c z
          · have ec : c = c0 := by simpa using z
            subst ec
            cases ws with
            | nil => cases ht
            | cons w ws =>
              unfold tell at ht
              simp only at ht
              split at ht
              · obtain ⟨c1, e1, e2⟩ := Option.map_eq_some_iff.mp ht
                cases e2
                unfold cabOf at e1
                split at e1
                · split at e1
                  · split at e1
                    · rename_i g
                      cases e1
                      exact g
                    · cases e1
                  · cases e1
                · cases e1
              · split at ht
                · split at ht <;> cases ht
                · split at ht
                  · obtain ⟨_, _, e2⟩ := Option.map_eq_some_iff.mp ht
                    cases e2
                  · split at ht
                    · split at ht <;> cases ht
                    · cases ht
      · cases h
    · cases h
theorem rule_inr {L : List (List Str)} {r : Rul} (h : readRule L = .inr r) (hL : ∀ ws ∈ L, ws.length ≤ 4002) : tapOk r.tap = true ∧ r.up.length ≤ 4002 ∧ r.bl.length ≤ 4002 := by
  have num : ∀ {n : Nat} {w : Str} {e : List Nat}, numbersAt L n w 0 = some e → e.length ≤ 4002 := fun {n w e} h => by
    unfold numbersAt wordsAt at h
    cases q : L[n]? with
    | none => rw [q] at h; cases h
    | some row =>
      have hr := hL row (List.mem_of_getElem? q)
      rw [q] at h
      cases row with
      | nil => cases h
      | cons w0 ws =>
        simp only at h
        split at h
        · rename_i ws1 e1
          split at e1
          · cases e1
            have := (nums_len h).1
            rw [List.length_cons] at hr
            omega
          · cases e1
        · cases h
  unfold readRule at h
  split at h
  · cases h
  · rename_i e h1
    split at h
    · cases h
    · rename_i b h2
      split at h
      · split at h
        · rename_i k _ ht
          split at h
          · cases h
          · cases h
            exact ⟨ht, num h1, num h2⟩
        · cases h
      · cases h
theorem rule_inl {L : List (List Str)} {n : Nat} (h : readRule L = .inl n) : n ≤ 3 := by
  unfold readRule at h
  split at h
  · cases h; omega
  · split at h
    · cases h; omega
    · split at h
      · split at h
        · split at h
          · cases h; omega
          · cases h
        · cases h; omega
      · cases h; omega
def rackOut : PyData → PyData ⊕ Xc
  | .str s => match readRack (linesOf s) with
    | .inl n => .inr (badText ((n : Nat) : Int))
    | .inr r => match rackFault r with
      | none => .inl (rackD r)
      | some (p, n) => .inr (badRack p n)
  | _ => .inr (badText (-1))
def ruleOut : PyData → PyData ⊕ Xc
  | .str s => match readRule (linesOf s) with
    | .inl n => .inr (badText ((n : Nat) : Int))
    | .inr r => match ruleFault r with
      | none => .inl (ruleD r)
      | some p => .inr (badRule p)
  | _ => .inr (badText (-1))
def rackDueD : PyData → PyData
  | .str s => rackDue (linesOf s)
  | _ => .tuple [.str "text", .int (-1)]
def ruleDueD : PyData → PyData
  | .str s => ruleDue (linesOf s)
  | _ => .tuple [.str "text", .int (-1)]
theorem said_text (n : Int) : saidD (.inr (badText n)) = .tuple [.str "text", .int n] := by
  show faultXD (badText n) = _
  unfold faultXD
  have h1 : ¬ (badText n).cls = "BadRack" := (by decide +kernel : ¬ ("BadText" : Str) = "BadRack")
  have h2 : ¬ (badText n).cls = "BadRule" := (by decide +kernel : ¬ ("BadText" : Str) = "BadRule")
  rw [if_neg h1, if_neg h2]
  rfl
theorem said_rack (p : Str) (n : Option Nat) : saidD (.inr (badRack p n)) = .tuple [.str "rack", .str p, numD n] := by
  show faultXD (badRack p n) = _
  unfold faultXD
  have h1 : (badRack p n).cls = "BadRack" := rfl
  rw [if_pos h1]
  have e1 : lookD (badRack p n).fs "part" = .str p := by kernel_rfl
  have e2 : lookD (badRack p n).fs "number" = numD n := by kernel_rfl
  rw [e1, e2]
theorem said_rule (p : Str) : saidD (.inr (badRule p)) = .tuple [.str "rule", .str p] := by
  show faultXD (badRule p) = _
  unfold faultXD
  have h1 : ¬ (badRule p).cls = "BadRack" := (by decide +kernel : ¬ ("BadRule" : Str) = "BadRack")
  have h2 : (badRule p).cls = "BadRule" := rfl
  rw [if_neg h1, if_pos h2]
  have e1 : lookD (badRule p).fs "part" = .str p := by kernel_rfl
  rw [e1]
theorem rack_same (d : PyData) : saidD (rackOut d) = rackDueD d := by
  cases d with
  | str s =>
    unfold rackOut rackDueD rackDue
    simp only
    cases readRack (linesOf s) with
    | inl n => exact said_text _
    | inr r =>
      simp only
      rw [← faults_eq]
      cases rackFault r with
      | none => rfl
      | some q => exact said_rack _ _
  | _ => exact said_text _
theorem rule_same (d : PyData) : saidD (ruleOut d) = ruleDueD d := by
  cases d with
  | str s =>
    unfold ruleOut ruleDueD ruleDue
    simp only
    cases readRule (linesOf s) with
    | inl n => exact said_text _
    | inr r =>
      simp only
      cases ruleFault r with
      | none => rfl
      | some q => exact said_rule _
  | _ => exact said_text _
theorem fine_text {n : Int} (h : n.natAbs < 10 ^ 12) : Fine 6 1000000 (.tuple [.str "text", .int n]) := (fine_tup (k := 0) (n := 41) (m := 2) (fun d hd => by
  simp only [List.mem_cons, List.not_mem_nil, or_false] at hd
  rcases hd with rfl | rfl
  · exact fine_str (by decide +kernel) (by decide +kernel)
  · exact fine_int h) (by simp)).mono (by decide) (by decide)
theorem lines_few {s : Str} (h : TxOk s) : (linesOf s).length ≤ 4002 := by
  unfold linesOf
  rw [List.length_map]
  exact split_few _ h
theorem fine_rackDue {d : PyData} (h : ∀ s, d = .str s → TxOk s) : Fine 6 1000000 (rackDueD d) := by
  cases d with
  | str s =>
    have ht := h s rfl
    rw [← rack_same]
    unfold rackOut
    simp only
    cases e : readRack (linesOf s) with
    | inl n =>
      have := run_inl e
      have := lines_few ht
      simp only
      rw [said_text]
      exact fine_text (by omega)
    | inr r =>
      simp only
      cases q : rackFault r with
      | none => exact (fine_lst (k := 4) (n := 10000) (m := 1) (fun d hd => by
          have : d = rackD r := by simpa using hd
          rw [this]
          exact fine_rack (run_kind e fun c hc => by cases hc) q) (by simp)).mono (by decide) (by decide)
      | some z =>
        obtain ⟨p, n⟩ := z
        obtain ⟨h1, h2⟩ := rackFault_some q
        simp only
        rw [said_rack]
        refine (fine_tup (k := 0) (n := 41) (m := 3) (fun d hd => ?_) (by simp)).mono (by decide) (by decide)
        simp only [List.mem_cons, List.not_mem_nil, or_false] at hd
        rcases hd with rfl | rfl | rfl
        · exact fine_str (by decide +kernel) (by decide +kernel)
        · exact fine_part h1
        · exact fine_num h2
  | _ => exact fine_text (by decide)
theorem fine_ruleDue {d : PyData} (h : ∀ s, d = .str s → TxOk s) : Fine 6 1000000 (ruleDueD d) := by
  cases d with
  | str s =>
    have ht := h s rfl
    unfold ruleDueD ruleDue
    simp only
    cases e : readRule (linesOf s) with
    | inl n =>
      have := rule_inl e
      exact fine_text (by omega)
    | inr r =>
      obtain ⟨h1, h2, h3⟩ := rule_inr e (rows_few ht)
      simp only
      cases q : ruleFault r with
      | none => exact (fine_lst (k := 2) (n := 600000) (m := 1) (fun d hd => by
          have : d = ruleD r := by simpa using hd
          rw [this]
          exact fine_rule q h1 h2 h3) (by simp)).mono (by decide) (by decide)
      | some p =>
        simp only
        refine (fine_tup (k := 0) (n := 41) (m := 2) (fun d hd => ?_) (by simp)).mono (by decide) (by decide)
        have hp : p = "evened" ∨ p = "blind" := by
          unfold ruleFault at q
          split at q
          · cases q; exact .inl rfl
          · split at q
            · cases q; exact .inr rfl
            · cases q
        simp only [List.mem_cons, List.not_mem_nil, or_false] at hd
        rcases hd with rfl | rfl
        · exact fine_str (by decide +kernel) (by decide +kernel)
        · rcases hp with rfl | rfl
          · exact fine_str (by decide +kernel) (by decide +kernel)
          · exact fine_str (by decide +kernel) (by decide +kernel)
  | _ => exact fine_text (by decide)
end Ev
namespace Ev
open PySem PySem.Spec PyProof.Rows L2 Evl
/-! ### repr of data, where no guard stands below -/
def isSq : PyData → Bool
  | .list _ => true
  | .tuple _ => true
  | _ => false
def rRepr (K : Kf) : List V → Hp → VK → Prop := fun vs H Q => ∃ v d, vs = [v] ∧ Dp K H v d ∧ isSq d = true ∧ Fine 6 1000000 d ∧ Q (.str d.shown) H
theorem cr_repr {X : Cx} (hg : X.A.guards = some []) (hu : X.A.units + 16 < cLine) : CallR X (.builtin "repr") (rRepr X.K) := fun pins s σ H vs us Q I r ⟨v, d, e, hd, hs, hf, q⟩ => by
  subst e
  obtain ⟨a, rfl⟩ : ∃ a, v = .ref a := by
    cases d with
    | list xs =>
      obtain ⟨a, _, e, _⟩ := dp_list hd
      exact ⟨a, e⟩
    | tuple xs =>
      obtain ⟨a, _, e, _⟩ := dp_tup hd
      exact ⟨a, e⟩
    | _ => cases hs
  obtain rfl := Vals.ref1 r
  obtain ⟨as, rd⟩ := Dp.reads I d _ (Value.ref a) hd rfl
  refine repr_of_reads' rd hf.sh (fun h => by rw [hf.nd] at h; cases h) hg (by have := hf.dp; omega) (fun b o e => e) (fun h' u tk keep => ?_) (hf.fits (by decide))
  exact ⟨.str d.shown, H, I.kept keep, ⟨_, rfl⟩, q⟩
theorem of_repr {Γ : Gm} {d : PyData} (hg : ∀ X, Γ.px X → X.A.guards = some []) (hs : isSq d = true) (hf : Fine 6 1000000 d) : OF Γ (.builtin "repr") [d] (.str d.shown) := ⟨rRepr Γ.W.K, fun X hX => hX.K ▸ cr_repr (hg X hX.px) (by have := hX.room.un; omega), fun vs A H a hvs Q q => by
  obtain ⟨v, rfl, hv⟩ := dpa1 hvs
  exact ⟨v, d, rfl, hv.ex a, hs, hf, q _ A H (Gw.refl a) (.str _)⟩⟩
end Ev
namespace Ev
open PySem PySem.Spec PyProof.Rows L2 Evl
/-! ### the end, where the run is asked of the caller's own state alone -/
abbrev TabO (h : Heap) (q : Addr) : Prop := h.get? q = some { cls := .none, data := .fields #[] }
/-- a run of the law's def from the caller's state -/
abbrev RunC (P : Program) (w : World) (K : Kf) (mg : Str → Option Value) (bh : Heap) (CX : CXT) (f : Addr) (fd : FuncData) (x : Str) (sp : Sp) : Prop :=
  ∀ (s : Shared) (H : Hp) (u : Value) (v : V) (Q : VK) (E : XK), Env0 P w K mg bh callerA [] s H → BindsTo s fd ⟨[u], []⟩ [(x, u)] → RelV v u → sp [v] H Q E → codeAny (model P w) callerA (.call (.ref f) ⟨[u], []⟩) (CR CX [] P w H s Q E) s
section
variable {P : Program} {w : World} {K : Kf} {mg mb : Str → Option Value} {CX : CXT} {f a : Addr} {cs : List (Addr × Addr)} {fd : FuncData} {x : Str} {sp : Sp} {s : Shared} {xs : List Value} {ns : List Int}
/-- the tables and maybe the script are all that is tracked -/
structure Trk (P : Program) (w : World) (K : Kf) (cs : List (Addr × Addr)) (a : Addr) (ns : List Int) (s : Shared) (H : Hp) : Prop where
  tb : ∀ p ∈ cs, H p.2 = some (.tbl #[])
  im : ∀ b, H b = Option.none ∨ b ∈ cs.map (·.2) ∨ ∃ o ys, H b = some (.frz o (.lst ys))
  sq : SqL K H a (ns.map V.int)
  ok : HOk P w H s.heap
  at_ : ∀ b, H b ≠ Option.none → b = a ∨ b ∈ cs.map (·.2)
  nk : H a ≠ Option.none → K.lookup a = Option.none
structure Gnd (K : Kf) (mg mb : Str → Option Value) (cs : List (Addr × Addr)) (a : Addr) (xs : List Value) (s : Shared) : Prop where
  kin : K.In s.heap
  gl : s.heap.Ns mainGlobals mg
  bl : s.heap.Ns builtinsNs mb
  bb : ∀ y : Str, y ≠ "__name__" → mb y = bootBuiltins y
  nl : s.heap.NoLimit
  ge : s.gens = #[]
  ht : ∀ p ∈ cs, TabO s.heap p.2
  nt : ∀ p ∈ cs, K.lookup p.2 = Option.none
  cd : ∀ p ∈ cs, PySem.W.CodeHd s.heap p.1 p.2
  bm : ∃ (m : Addr) (o : Obj), mg "__builtins__" = some (.ref m) ∧ m ≠ builtinsNs ∧ s.heap.get? m = some o ∧ o.cls = .type "module" ∧ o.dict = some builtinsNs ∧ o.data = .plain
  ob : s.heap.get? a = some { cls := .type "list", data := .seq xs.toArray }
theorem Gnd.tabAt (g : Gnd K mg mb cs a xs s) {b : Addr} (hb : b ∈ cs.map (·.2)) : TabO s.heap b := by
  obtain ⟨p, m, rfl⟩ := List.mem_map.mp hb
  exact g.ht p m
theorem Gnd.notTab (g : Gnd K mg mb cs a xs s) : a ∉ cs.map (·.2) := fun m => by
  have q : _ = _ := (g.ob.symm.trans (g.tabAt m))
  have q2 : Data.seq xs.toArray _ = Data.fields #[] := congrArg Obj.data (Option.some.inj q)
  cases q2
/-- what stands in the heap and is neither a list nor an empty table is not tracked -/
theorem Gnd.off {H : Hp} (g : Gnd K mg mb cs a xs s) (t : Trk P w K cs a ns s H) {b : Addr} {o : Obj} (e : s.heap.get? b = some o) (n1 : ∀ ys n, o.data ≠ .seq ys n) (n2 : o.data ≠ .fields #[]) : H b = Option.none :=
  Classical.byContradiction fun hb => by
    rcases t.at_ b hb with rfl | m
    · have q := e.symm.trans g.ob
      cases q
      exact n1 _ _ rfl
    · have q := e.symm.trans (g.tabAt m)
      cases q
      exact n2 rfl
theorem Gnd.nsB {H : Hp} (g : Gnd K mg mb cs a xs s) (t : Trk P w K cs a ns s H) {b : Addr} {m : Str → Option Value} (h : s.heap.Ns b m) : (hidT s.heap H).Ns b m := by
  obtain ⟨o, es, ep, e, d, r⟩ := h
  exact ⟨o, es, ep, hidT_get e (g.off t e (fun ys n z => by rw [d] at z; cases z) fun z => by rw [d] at z; cases z), d, r⟩
theorem Gnd.kB {H : Hp} (g : Gnd K mg mb cs a xs s) (t : Trk P w K cs a ns s H) : K.In (hidT s.heap H) := fun b o e => hidT_get (g.kin b o e) (Classical.byContradiction fun hb => by
  rcases t.at_ b hb with rfl | m
  · rw [t.nk hb] at e
    cases e
  · obtain ⟨p, hp, rfl⟩ := List.mem_map.mp m
    rw [g.nt p hp] at e
    cases e)
theorem Gnd.tabs {H : Hp} (g : Gnd K mg mb cs a xs s) (t : Trk P w K cs a ns s H) : ∀ p ∈ cs, LamX.TabB (hidT s.heap H) mg p.1 p.2 := fun p hp => by
  have hTp := g.ht p hp
  have z0 : p.2 ≠ mainGlobals := fun z => by
    obtain ⟨o, es, ep, e, d, _⟩ := g.gl
    rw [← z, hTp] at e
    cases e
    cases d
  refine ⟨?_, ?_, z0.symm⟩
  · obtain ⟨o, us, file, tf, flags, tg, inF, text, tt, c1, c2, c3, c4⟩ := g.cd p hp
    refine ⟨o, us, file, tf, flags, tg, inF, text, tt, hidT_get c1 (g.off t c1 (fun ys n z => ?_) fun z => ?_), c2, c3, c4⟩
    · rw [c3] at z
      cases z
    · rw [c3] at z
      cases z
      simp at c4
  · obtain ⟨m, o, m1, m2, m3, m4, m5, m6⟩ := g.bm
    refine ⟨m, o, m1, m2, fun z => ?_, fun z => ?_, hidT_get m3 (g.off t m3 (fun ys n z => ?_) fun z => ?_), m4, m5, m6⟩
    · obtain ⟨o1, es, ep, e, d, _⟩ := g.gl
      rw [← z, m3] at e
      cases e
      rw [m6] at d
      cases d
    · rw [z, hTp] at m3
      cases m3
      cases m6
    · rw [m6] at z
      cases z
    · rw [m6] at z
      cases z
abbrev Good (P : Program) (w : World) (f a : Addr) (s : Shared) : Prop := codeAny (model P w) callerA (.call (.ref f) ⟨[.ref a], []⟩) (fun r s' => r = .ok (.ret (.bool true)) ∧ OldK s.heap s'.heap ∧ s'.os = s.os ∧ AllBare s'.gens) s
theorem law_of {H : Hp} (g : Gnd K mg mb cs a xs s) (t : Trk P w K cs a ns s H)
    (F : ∀ bh : Heap, K.In bh → bh.Ns mainGlobals mg → (∀ p ∈ cs, LamX.TabB bh mg p.1 p.2) → RunC P w K mg bh CX f fd x sp) (hb : BindsTo s fd ⟨[.ref a], []⟩ [(x, .ref a)])
    (hs : sp [.ref a] H (fun v _ => v = .bl true) fun _ _ _ => False) (hX : ∀ H e z, CX [] H s (fun _ _ _ => False) e z → False) : Good P w f a s := by
  have mo : L2.Mod K mg (hidT s.heap H) := ⟨g.kB t, g.nsB t g.gl, ⟨mb, g.nsB t g.bl, g.bb⟩, by
    obtain ⟨mc, l1, l2⟩ := g.nl
    exact ⟨mc, g.nsB t l1, l2⟩⟩
  have e0 : Env0 P w K mg (hidT s.heap H) callerA [] s H := ⟨rfl, mo, fun b o e => of_hidT e, Nat.le_of_eq (hidT_size _ _), trivial, (fun b m => by cases m), t.ok, .of_eq g.ge⟩
  refine codeAny_mono (F _ (g.kB t) (g.nsB t g.gl) (g.tabs t) s H (.ref a) (.ref a) _ _ e0 hb rfl hs) fun r z h => ?_
  match r, h with
  | .error e, h => exact (hX H e z h).elim
  | .ok .next, h => exact False.elim h
  | .ok .brk, h => exact False.elim h
  | .ok .cont, h => exact False.elim h
  | .ok (.ret u), h =>
    obtain ⟨v, H1, os, ba, un, ok1, rv, ev⟩ := h
    have ev : v = .bl true := ev
    subst ev
    have eu : u = Value.bool true := rv
    subst eu
    have stay : ∀ b o, b ∉ cs.map (·.2) → s.heap.get? b = some o → z.heap.get? b = some o := fun b o nb e => by
      rcases t.im b with q | q | ⟨ob, ys, q⟩
      · exact un.keep b o e q (fun m => by cases m) (by simp)
      · exact absurd q nb
      · have e1 := (t.ok b _ q).1
        have e2 := (ok1 b _ (un.frzs b ob _ q)).1
        rw [e] at e1
        cases e1
        exact e2
    have grow : ∀ p ∈ cs, ∃ mo : Array Value, z.heap.get? p.2 = some { cls := .none, data := .fields mo } := fun p hp => by
      obtain ⟨mo, q⟩ := un.tbls p.2 #[] (t.tb p hp)
      exact ⟨_, ok1 p.2 _ q⟩
    refine ⟨rfl, ⟨fun b o e => ?_, fun b o e => ?_⟩, os, ba⟩
    · by_cases m : b ∈ cs.map (·.2)
      · obtain ⟨p, hp, rfl⟩ := List.mem_map.mp m
        obtain ⟨mo, q⟩ := grow p hp
        have e1 := e.symm.trans (g.ht p hp)
        cases e1
        exact .inr (.inl ⟨((g.cd p hp).tab (g.ht p hp)).isCodeTable, rfl, #[], mo, rfl, by rw [Array.empty_append]; exact q⟩)
      · exact .inl (stay b o m e)
    · by_cases m : b ∈ cs.map (·.2)
      · obtain ⟨p, hp, rfl⟩ := List.mem_map.mp m
        obtain ⟨mo, q⟩ := grow p hp
        exact ⟨_, q⟩
      · exact ⟨o, stay b o m e⟩
def trkH (cs : List (Addr × Addr)) (b : Addr) : Option HO := if b ∈ cs.map (·.2) then some (.tbl #[]) else Option.none
theorem trkH_in {b : Addr} (h : b ∈ cs.map (·.2)) : trkH cs b = some (.tbl #[]) := if_pos h
theorem trkH_out {b : Addr} (h : b ∉ cs.map (·.2)) : trkH cs b = Option.none := if_neg h
theorem trkH_ok (g : Gnd K mg mb cs a xs s) {b : Addr} {o : HO} (e : trkH cs b = some o) : ObjOk P w H s.heap b o := by
  by_cases m : b ∈ cs.map (·.2)
  · rw [trkH_in m] at e
    cases e
    exact g.tabAt m
  · rw [trkH_out m] at e
    cases e
theorem trk_ex (g : Gnd K mg mb cs a xs s) (hi : IntsAre xs ns) (hl : ns.length ≤ sizeLine) : ∃ H, Trk P w K cs a ns s H := by
  have rv := vals_ints hi
  have tm : ∀ p ∈ cs, p.2 ∈ cs.map (·.2) := fun p hp => List.mem_map.mpr ⟨p, hp, rfl⟩
  cases hk : K.lookup a with
  | some o =>
    have e : o = _ := Option.some.inj ((g.kin a o hk).symm.trans g.ob)
    subst e
    refine ⟨trkH cs, fun p hp => trkH_in (tm p hp), fun b => ?_, .inr ⟨_, xs.toArray, _, hk, rfl, rfl, rfl, by rw [List.size_toArray, hi.length]; exact hl, by simpa using rv⟩, fun b u z => trkH_ok g z, fun b z => ?_, fun z => absurd (trkH_out g.notTab) z⟩
    · by_cases m : b ∈ cs.map (·.2)
      · exact .inr (.inl m)
      · exact .inl (trkH_out m)
    · by_cases m : b ∈ cs.map (·.2)
      · exact .inr m
      · exact absurd (trkH_out m) z
  | none =>
    have ne : ∀ p ∈ cs, p.2 ≠ a := fun p hp z => g.notTab (z ▸ tm p hp)
    refine ⟨upd (trkH cs) a (.frz { cls := .type "list", data := .seq xs.toArray } (.lst (ns.map V.int))), fun p hp => (upd_ne (ne p hp)).trans (trkH_in (tm p hp)), fun b => ?_, .inl (.inr ⟨_, upd_same⟩), fun b u z => ?_, fun b z => ?_, fun _ => hk⟩
    · by_cases q : b = a
      · rw [q]
        exact .inr (.inr ⟨_, _, upd_same⟩)
      · rw [upd_ne q]
        by_cases m : b ∈ cs.map (·.2)
        · exact .inr (.inl m)
        · exact .inl (trkH_out m)
    · by_cases q : b = a
      · rw [q] at z ⊢
        rw [upd_same] at z
        cases z
        exact ⟨g.ob, by rw [List.length_map]; exact hl, xs, _, rv, g.ob⟩
      · rw [upd_ne q] at z
        exact trkH_ok g z
    · by_cases q : b = a
      · exact .inl q
      · rw [upd_ne q] at z
        by_cases m : b ∈ cs.map (·.2)
        · exact .inr m
        · exact absurd (trkH_out m) z
end
end Ev
namespace Ev
open PySem PySem.Spec PyProof.Rows L2 Evl
/-! ### the law: the texts that are drawn -/
abbrev nsW : List Str := ["_law_script", "_law_draw", "_law_some_here", "_law_turn", "_law_rack_here", "_law_k", "_law_bent_here", "_law_text"]
def lawS (i : Nat) : Stmt := (defBody (top 91)).getD i (.Pass ⟨0, 0, 0, 0⟩)
def frB : Stmt → List Stmt
  | .For _ _ b _ _ => b
  | _ => []
def turnB : List Stmt := frB (lawS 7)
def midB : List Stmt := frB (turnB.getD 1 (.Pass ⟨0, 0, 0, 0⟩))
def innB : List Stmt := frB (midB.getD 0 (.Pass ⟨0, 0, 0, 0⟩))
def lastB : List Stmt := frB (lawS 8)
structure LawF (W : Wd) (P1 P2 : Addr) : Prop where
  b : Bl W
  bg : Fk W 1 "_law_begin" ["_law_script"] (spB W.K 1 RBegin)
  rk : FLRack W
  rt : Fk W 1 "_law_rack_text" ["_law_rack_here"] (spD W.K 1 RRackT)
  ru : FLRule W
  ut : Fk W 1 "_law_rule_text" ["_law_rule_here"] (spD W.K 1 RRuleT)
  bt : FLBent W
  rr : Fk W 7 "read_rack" ["text"] (spM W 1 (RRead P1))
  dr : Fk W 7 "_law_rack_due" ["_law_text"] (spM W 1 (RDue P2))
  ur : Fk W 6 "read_rule" ["text"] (spM W 1 RReadR)
  du : Fk W 3 "_law_rule_due" ["_law_text"] (spD W.K 1 RRuleDue)
  ft : Fk W 1 "_law_fault" ["_law_error"] (spF W)
  x20 : X20 W
  x1 : ∀ p n, XSaid W (badRack p n)
  x2 : ∀ p, XSaid W (badRule p)
  x3 : ∀ n, XSaid W (badText n)
  sd : ∃ fg fdg, FunD W.K "_law_said" "_law_said" (defArgs (top 85)) (defBody (top 85)) (defScope (top 85)) [] [] fg fdg ∧ W.mg "_law_said" = some (.ref fg) ∧ Binds W.K fdg ["_law_call"] []
def tab3 (P1 P2 P3 : Addr) : List MO := [.tab P1 (lamQ "need_rack"), .tab P2 (lamQ "_law_rack_fault"), .tab P3 (lamQ "law")]
def lwM (P1 P2 P3 : Addr) (m : MO) : List MO := [.tab P1 (lamQ "need_rack"), .tab P2 (lamQ "_law_rack_fault"), .tab P3 (lamQ "law"), m]
theorem lw_ok {P1 P2 P3 : Addr} {m : MO} {B : Nat} (h : DrawOk B m) : okM (lwM P1 P2 P3 m).length (lwM P1 P2 P3 m) := fun is hi => by
  unfold lwM at hi
  simp only [List.mem_cons, List.not_mem_nil, or_false] at hi
  rcases hi with e | e | e | e
  · cases e
  · cases e
  · cases e
  · exact absurd e.symm (h.nrf is)
structure LOk (n : Nat) (L : List PyData) : Prop where
  len : L.length ≤ n
  tx : ∀ d ∈ L, ∀ s, d = .str s → TxOk s
theorem LOk.add {n : Nat} {L : List PyData} {u v : Str} (h : LOk n L) (hu : TxOk u) (hv : TxOk v) : LOk (n + 2) (L ++ [.str u, .str v]) := ⟨by rw [List.length_append]; have := h.len; simp; omega, fun d hd s e => by
  rcases List.mem_append.mp hd with z | z
  · exact h.tx d z s e
  · simp only [List.mem_cons, List.not_mem_nil, or_false] at z
    rcases z with z | z
    · rw [e] at z
      cases z
      exact hu
    · rw [e] at z
      cases z
      exact hv⟩
section
variable {W : Wd} {P1 P2 P3 : Addr} {E : XK} {px : Cx → Prop}
abbrev gW (W : Wd) (E : XK) (px : Cx → Prop) : Gm := gmPx W nsW (defScope (top 91)) 9 E px
/-- one more pair of bent texts -/
theorem law_in (L : LawF W P1 P2) (B : Fb (gW W E px)) {sc rk tn k : SV} {o6 : Option SV} {m : MO} {D n : Nat} {w : Str} {xs : List PyData} (hw : TxB 520 w) (hd : DrawOk D m) (hD : D < 900000000) (hx : LOk n xs) (hn : n < 90000) :
    DS (gW W E px) B [some sc, some (.r 3), some (.d (.list xs)), some tn, some rk, some k, o6, some (.d (.str w))] (lwM P1 P2 P3 m) innB fun ρ1 M1 => ∃ o6 m1 ys, ρ1 = [some sc, some (.r 3), some (.d (.list ys)), some tn, some rk, some k, o6, some (.d (.str w))] ∧ M1 = lwM P1 P2 P3 m1 ∧ DrawOk (D + 20) m1 ∧ LOk (n + 2) ys := by
  refine ds_cons (s_asg (i := 6) rfl (dx_call (PX := fun _ _ => False) L.bt (.inr rfl) noX (dxs_cons (dx_r (i := 1) rfl rfl (dxs_d (xds_cons (xv 7 rfl rfl) xds_nil) ⟨rfl, 3, D, 520, m, w, rfl, hw, by decide, rfl, hd, by omega, lw_ok hd, fun w1 m1 hw1 hd1 => ?_⟩)))))
  refine ds_one (s_asg (i := 2) rfl (dx_bin (dx_d (xv 2 rfl rfl) ⟨_, rfl, dx_lst (dxs_cons (dx_d (xv 6 rfl rfl) (dxs_cons (dx_call (PX := fun _ _ => False) L.bt (.inr rfl) noX (dxs_cons (dx_r (i := 1) rfl rfl (dxs_d (xds_cons (xv 6 rfl rfl) xds_nil) ⟨rfl, 3, D + 10, 2 * 520 + 40, m1, w1, rfl, hw1, by decide, rfl, hd1, by omega, lw_ok hd1, fun w2 m2 hw2 hd2 => ?_⟩)))))))⟩)))
  refine dxs_nil ⟨[_, _], rfl, by simp, _, rfl, _, ob_catL (by have := hx.len; simp; omega), ?_⟩
  exact ⟨_, m2, _, rfl, rfl, hd2, hx.add (hw1.up (by decide)).tx (hw2.up (by decide)).tx⟩
end
end Ev
namespace Ev
open PySem PySem.Spec PyProof.Rows L2 Evl
section
variable {W : Wd} {P1 P2 P3 : Addr} {E : XK} {px : Cx → Prop}
/-- seven pairs from one text -/
theorem law_mid (L : LawF W P1 P2) (B : Fb (gW W E px)) {sc rk tn : SV} {o5 o6 : Option SV} {m : MO} {D n : Nat} {w : Str} {xs : List PyData} (hw : TxB 520 w) (hd : DrawOk D m) (hD : D < 800000000) (hx : LOk n xs) (hn : n < 80000) :
    DS (gW W E px) B [some sc, some (.r 3), some (.d (.list xs)), some tn, some rk, o5, o6, some (.d (.str w))] (lwM P1 P2 P3 m) midB fun ρ1 M1 => ∃ o5 o6 m1 ys, ρ1 = [some sc, some (.r 3), some (.d (.list ys)), some tn, some rk, o5, o6, some (.d (.str w))] ∧ M1 = lwM P1 P2 P3 m1 ∧ DrawOk (D + 140) m1 ∧ LOk (n + 14) ys := by
  refine ds_one (s_for (di_range L.b.range (dx_d xd_i ⟨7, rfl, by decide, fun t ρ1 M1 => ∃ o5 o6 m1 ys, ρ1 = [some sc, some (.r 3), some (.d (.list ys)), some tn, some rk, o5, o6, some (.d (.str w))] ∧ M1 = lwM P1 P2 P3 m1 ∧ DrawOk (D + 20 * t) m1 ∧ LOk (n + 2 * t) ys, ?_, ?_, ?_⟩)))
  · exact ⟨o5, o6, m, xs, rfl, rfl, hd, hx⟩
  · rintro t d ρ1 M1 ht ⟨o5, o6, m1, ys, rfl, rfl, h1, h2⟩
    obtain ⟨hi, rfl⟩ := nats_get ht
    refine ⟨_, _, tg_name (i := 5) rfl, ?_⟩
    exact (law_in L B hw h1 (by omega) h2 (by omega)).mono fun ρ2 M2 ⟨o6, m2, zs, e1, e2, e3, e4⟩ => ⟨_, o6, m2, zs, e1, e2, e3.mono (by omega), e4⟩
  · rintro ρ1 M1 ⟨o5, o6, m1, ys, rfl, rfl, h1, h2⟩
    rw [List.length_map, List.length_range] at h1 h2
    exact ⟨o5, o6, m1, ys, rfl, rfl, h1, h2⟩
/-- one turn: a rack and a rule are drawn -/
theorem law_turn (L : LawF W P1 P2) (B : Fb (gW W E px)) {sc tn : SV} {o4 o5 o6 o7 : Option SV} {m : MO} {D n : Nat} {xs : List PyData} (hd : DrawOk D m) (hD : D < 700000000) (hx : LOk n xs) (hn : n < 70000) :
    DS (gW W E px) B [some sc, some (.r 3), some (.d (.list xs)), some tn, o4, o5, o6, o7] (lwM P1 P2 P3 m) turnB fun ρ1 M1 => ∃ o4 o5 o6 o7 m1 ys, ρ1 = [some sc, some (.r 3), some (.d (.list ys)), some tn, o4, o5, o6, o7] ∧ M1 = lwM P1 P2 P3 m1 ∧ DrawOk (D + 360) m1 ∧ LOk (n + 28) ys := by
  refine ds_cons (s_asg (i := 4) rfl (dx_call (PX := fun _ _ => False) L.rk (.inr rfl) noX (dxs_cons (dx_r (i := 1) rfl rfl (dxs_d (xds_cons (xd_tup (xds_cons xd_i (xds_cons xd_i (xds_cons xd_i xds_nil)))) xds_nil) ⟨rfl, 3, D, m, rfl, rfl, hd, by omega, lw_ok hd, fun r m1 hr h1 => ?_⟩)))))
  refine ds_one (s_for (di_tup (dx_tup (dxs_cons (dx_d (xd_call L.rt (xds_cons (xv 4 rfl rfl) xds_nil) ⟨r, rfl, hr, rfl⟩) (dxs_cons (dx_callD L.ut (dxs_cons (dx_call (PX := fun _ _ => False) L.ru (.inr rfl) noX (dxs_cons (dx_r (i := 1) rfl rfl (dxs_d (xds_cons (xv 4 rfl rfl) xds_nil) ⟨rfl, 3, D + 60, m1, r, rfl, hr, rfl, h1, by omega, lw_ok h1, fun u m2 hu h2 => ?_⟩))))))))))))
  refine dxs_nil ⟨[u], _, rfl, rfl, ⟨u, rfl, hu, rfl⟩, dxs_nil ⟨[_, _], rfl, by simp, _, rfl, fun t ρ1 M1 => ∃ o5 o6 o7 m3 ys, ρ1 = [some sc, some (.r 3), some (.d (.list ys)), some tn, some (.d r), o5, o6, o7] ∧ M1 = lwM P1 P2 P3 m3 ∧ DrawOk (D + 80 + 140 * t) m3 ∧ LOk (n + 14 * t) ys, ?_, ?_, ?_⟩⟩
  · exact ⟨_, _, _, m2, xs, rfl, rfl, h2, hx⟩
  · rintro t d ρ1 M1 ht ⟨o5, o6, o7, m3, ys, rfl, rfl, g1, g2⟩
    have t2 : t < 2 := by simpa using (List.getElem?_eq_some_iff.mp ht).1
    have hs : ∃ w, d = .str w ∧ TxB 520 w := by
      have hm := List.mem_of_getElem? ht
      simp only [List.mem_cons, List.not_mem_nil, or_false] at hm
      rcases hm with e | e
      · exact ⟨_, e, rows_ok (rackRows_ok hr).1 (rackRows_ok hr).2⟩
      · exact ⟨_, e, rows_ok (ruleRows_ok hu).1 (ruleRows_ok hu).2⟩
    obtain ⟨w, rfl, hw⟩ := hs
    refine ⟨_, _, tg_name (i := 7) rfl, ?_⟩
    exact (law_mid L B hw g1 (by omega) g2 (by omega)).mono fun ρ2 M2 ⟨o5, o6, m4, zs, e1, e2, e3, e4⟩ => ⟨o5, o6, _, m4, zs, e1, e2, e3.mono (by omega), e4⟩
  · rintro ρ1 M1 ⟨o5, o6, o7, m3, ys, rfl, rfl, g1, g2⟩
    exact ⟨_, o5, o6, o7, m3, ys, rfl, rfl, g1.mono (by simp), g2⟩
end
end Ev
namespace Ev
open PySem PySem.Spec PyProof.Rows L2 Evl
theorem sq_rack (d : PyData) : isSq (rackDueD d) = true := by
  cases d with
  | str s =>
    unfold rackDueD rackDue
    simp only
    split
    · rfl
    · split <;> rfl
  | _ => rfl
theorem sq_rule (d : PyData) : isSq (ruleDueD d) = true := by
  cases d with
  | str s =>
    unfold ruleDueD ruleDue
    simp only
    split
    · rfl
    · split <;> rfl
  | _ => rfl
theorem rdue_of {d : PyData} {P : SV → List MO → Prop} {M : List MO} (ht : ∀ s, d = .str s → TxOk s) (q : P (.d (rackDueD d)) M) : (∀ s, d = .str s → TxOk s ∧ P (.d (rackDue (linesOf s))) M) ∧ ((∀ s, d ≠ .str s) → P (.d (.tuple [.str "text", .int (-1)])) M) := by
  cases d with
  | str s => exact ⟨fun s' e => by cases e; exact ⟨ht s rfl, q⟩, fun h => absurd rfl (h s)⟩
  | _ => exact ⟨fun s' e => (by cases e), fun _ => q⟩
theorem udue_of (d : PyData) (ht : ∀ s, d = .str s → TxOk s) : (∀ s, d = .str s → TxOk s ∧ ruleDueD d = ruleDue (linesOf s)) ∧ ((∀ s, d ≠ .str s) → ruleDueD d = .tuple [.str "text", .int (-1)]) := by
  cases d with
  | str s => exact ⟨fun s' e => by cases e; exact ⟨ht s rfl, rfl⟩, fun h => absurd rfl (h s)⟩
  | _ => exact ⟨fun s' e => (by cases e), fun _ => rfl⟩
theorem rackOut_of {d : PyData} {M : List MO} (ht : ∀ s, d = .str s → TxOk s) :
    (∀ s, d = .str s → TxOk s ∧ (∀ n, readRack (linesOf s) = .inl n → M = M ∧ rackOut d = .inr (badText ((n : Nat) : Int))) ∧ ∀ r, readRack (linesOf s) = .inr r → (∀ p n, rackFault r = some (p, n) → M = M ∧ rackOut d = .inr (badRack p n)) ∧ (rackFault r = none → M = M ∧ ∃ d', rackOut d = .inl d' ∧ SV.d (rackD r) = .d d')) ∧ ((∀ s, d ≠ .str s) → M = M ∧ rackOut d = .inr (badText (-1))) := by
  cases d with
  | str s => exact ⟨fun s' e => by
      cases e
      refine ⟨ht s rfl, fun n hn => ⟨rfl, ?_⟩, fun r hr => ⟨fun p n hf => ⟨rfl, ?_⟩, fun hf => ⟨rfl, _, ?_, rfl⟩⟩⟩
      · unfold rackOut
        simp only [hn]
      · unfold rackOut
        simp only [hr, hf]
      · unfold rackOut
        simp only [hr, hf], fun h => absurd rfl (h s)⟩
  | _ => exact ⟨fun s' e => (by cases e), fun _ => ⟨rfl, rfl⟩⟩
theorem ruleOut_of {d : PyData} {M : List MO} (ht : ∀ s, d = .str s → TxOk s) :
    (∀ s, d = .str s → TxOk s ∧ (∀ n, readRule (linesOf s) = .inl n → M = M ∧ ruleOut d = .inr (badText ((n : Nat) : Int))) ∧ ∀ r, readRule (linesOf s) = .inr r → (∀ p, ruleFault r = some p → M = M ∧ ruleOut d = .inr (badRule p)) ∧ (ruleFault r = none → M = M ∧ ∃ d', ruleOut d = .inl d' ∧ SV.d (ruleD r) = .d d')) ∧ ((∀ s, d ≠ .str s) → M = M ∧ ruleOut d = .inr (badText (-1))) := by
  cases d with
  | str s => exact ⟨fun s' e => by
      cases e
      refine ⟨ht s rfl, fun n hn => ⟨rfl, ?_⟩, fun r hr => ⟨fun p hf => ⟨rfl, ?_⟩, fun hf => ⟨rfl, _, ?_, rfl⟩⟩⟩
      · unfold ruleOut
        simp only [hn]
      · unfold ruleOut
        simp only [hr, hf]
      · unfold ruleOut
        simp only [hr, hf], fun h => absurd rfl (h s)⟩
  | _ => exact ⟨fun s' e => (by cases e), fun _ => ⟨rfl, rfl⟩⟩
theorem rackOut_x {W : Wd} {P1 P2 : Addr} (L : LawF W P1 P2) (d : PyData) : ∀ x, rackOut d = .inr x → XSaid W x := fun x h => by
  cases d with
  | str s =>
    unfold rackOut at h
    simp only at h
    split at h
    · cases h
      exact L.x3 _
    · split at h
      · cases h
      · cases h
        exact L.x1 _ _
  | _ =>
    cases h
    exact L.x3 _
theorem ruleOut_x {W : Wd} {P1 P2 : Addr} (L : LawF W P1 P2) (d : PyData) : ∀ x, ruleOut d = .inr x → XSaid W x := fun x h => by
  cases d with
  | str s =>
    unfold ruleOut at h
    simp only at h
    split at h
    · cases h
      exact L.x3 _
    · split at h
      · cases h
      · cases h
        exact L.x2 _
  | _ =>
    cases h
    exact L.x3 _
abbrev pxG (c : Addr) : Cx → Prop := fun X => pxL "law" c X ∧ X.A.guards = some []
theorem dx_rdue {Γ : Gm} {F : Fm} {ρ : Rho} {M : List MO} {e : Expr} {d : PyData} {P : SV → List MO → Prop} {pos p : Pos} {P2 : Addr} {t : Nat} (Fn : Fk Γ.W 7 "_law_rack_due" ["_law_text"] (spM Γ.W 1 (RDue P2))) (h : XD Γ ρ e d) (hm : M[t]? = some (.tab P2 (lamQ "_law_rack_fault"))) (ho : okM M.length M) (ht : ∀ s, d = .str s → TxOk s) (q : P (.d (rackDueD d)) M) (hk : Nat.ble 7 Γ.k = true := by rfl) (g : Glo Γ "_law_rack_due" := by rfl) (ne : NS e := by intro _ _; rfl) : DX Γ F ρ M (.Call (.Name "_law_rack_due" p) [e] [] pos) P :=
  dx_call (PX := fun _ _ => False) Fn (.inr rfl) noX (dxs_d (xds_cons h xds_nil ne) ⟨rfl, d, t, rfl, hm, ho, rdue_of ht q⟩) hk g ne
section
variable {W : Wd} {P1 P2 P3 c : Addr} {E : XK}
theorem law_last (L : LawF W P1 P2) (TB : LamX.TabB W.base W.mg c P3) (B : Fb (gW W E (pxG c))) {sc s2 : SV} {o3 o4 o5 o6 : Option SV} {m : MO} {D : Nat} {d : PyData} (hd : DrawOk D m) (ht : ∀ s, d = .str s → TxOk s) :
    DS (gW W E (pxG c)) B [some sc, some (.r 3), some s2, o3, o4, o5, o6, some (.d d)] (lwM P1 P2 P3 m) lastB fun ρ1 M1 => ρ1 = [some sc, some (.r 3), some s2, o3, o4, o5, o6, some (.d d)] ∧ M1 = lwM P1 P2 P3 m := by
  obtain ⟨fg, fdg, Fg, hg, hb⟩ := L.sd
  have hok := lw_ok (P1 := P1) (P2 := P2) (P3 := P3) hd
  have f1 : Fine 6 1000000 (rackDueD d) := fine_rackDue ht
  have f2 : Fine 6 1000000 (ruleDueD d) := fine_ruleDue ht
  refine ds_cons (s_if (dt_cmp (dx_callB boot_repr L.b.repr (dxs_cons (dx_said (o := rackOut d) (t := 2) (k := 7) Fg hg hb L.ft L.x20 (rackOut_x L d) (by kernel_rfl) (fun _ => rfl) (fun _ _ _ _ _ => rfl) (fun X h => h.1) TB rfl ⟨E, rfl⟩ rfl hok
    (fun E' F' hx => dx_call (PX := fun x M' => M' = lwM P1 P2 P3 m ∧ rackOut d = .inr x) L.rr (.inl rfl) (fun E1 e1 A H σ ρ' M ps x cl dd En xi px => by
      cases e1
      obtain ⟨rfl, ho⟩ := px
      exact hx A H σ ρ' ps x cl dd En xi ho) (dxs_d (xds_cons (xv 7 rfl rfl) xds_nil) ⟨rfl, d, 0, rfl, rfl, hok, rackOut_of ht⟩))
    ?_)))))
  rw [rack_same]
  refine dxs_nil ⟨[_], _, rfl, of_repr (fun X h => h.2) (sq_rack d) f1, _, rfl, ?_⟩
  refine dx_callB boot_repr L.b.repr (dxs_cons (dx_rdue (t := 1) L.dr (xv 7 rfl rfl) rfl hok ht ?_))
  refine dxs_nil ⟨[_], _, rfl, of_repr (fun X h => h.2) (sq_rack d) f1, _, rfl, _, oc_neS, fun h => ?_, fun _ => ds_nil ?_⟩
  · simp at h
  refine ds_one (s_if (dt_cmp (dx_callB boot_repr L.b.repr (dxs_cons (dx_said (o := ruleOut d) (t := 2) (k := 7) Fg hg hb L.ft L.x20 (ruleOut_x L d) (by kernel_rfl) (fun _ => rfl) (fun _ _ _ _ _ => rfl) (fun X h => h.1) TB rfl ⟨E, rfl⟩ rfl hok
    (fun E' F' hx => dx_call (PX := fun x M' => M' = lwM P1 P2 P3 m ∧ ruleOut d = .inr x) L.ur (.inl rfl) (fun E1 e1 A H σ ρ' M ps x cl dd En xi px => by
      cases e1
      obtain ⟨rfl, ho⟩ := px
      exact hx A H σ ρ' ps x cl dd En xi ho) (dxs_d (xds_cons (xv 7 rfl rfl) xds_nil) ⟨rfl, d, rfl, hok, ruleOut_of ht⟩))
    ?_)))))
  rw [rule_same]
  refine dxs_nil ⟨[_], _, rfl, of_repr (fun X h => h.2) (sq_rule d) f2, _, rfl, ?_⟩
  refine dx_d (xd_callB boot_repr L.b.repr (xds_cons (xd_call L.du (xds_cons (xv 7 rfl rfl) xds_nil) ⟨d, rfl, udue_of d ht⟩) xds_nil) (of_repr (fun X h => h.2) (sq_rule d) f2)) ⟨_, rfl, _, oc_neS, fun h => ?_, fun _ => ds_nil ⟨rfl, rfl⟩⟩
  simp at h
end
end Ev
namespace Ev
open PySem PySem.Spec PyProof.Rows L2 Evl
def sL (ws : List Str) : List PyData := ws.map .str
def startL : List PyData := sL ["", "names 1", "names 1 2\nbox 0", "names 1\nbox", "names 1\nbox 0\n"] ++ sL ["names 0\nbox 0", "names 2\nbox 0"] ++ sL ["names 1\nbox 0\nloop 0 0", "names 1\ncable 0 1 post"] ++ (sL ["evened", "evened\nblind", "taps known"] ++ [.none, .int 5]) ++
  sL ["evened 1 0\nblind\ntaps known", "evened\nblind 8\ntaps alike"] ++ [.str "evened\nblind\ntaps known\n", .list [.str "x"]]
def txB (d : PyData) : Bool := match d with
  | .str s => decide (s.length ≤ 4000) && PyData.strOk s
  | _ => true
theorem startL_tx : (startL.all txB) = true := by decide +kernel
theorem startL_ok : LOk 20 startL := ⟨by decide +kernel, fun d hd s e => by
  have h := List.all_eq_true.mp startL_tx d hd
  rw [e] at h
  have h : (decide (s.length ≤ 4000) && PyData.strOk s) = true := h
  simp only [Bool.and_eq_true, decide_eq_true_eq] at h
  exact ⟨h.1, h.2⟩⟩
section
variable {W : Wd} {P1 P2 P3 c : Addr} {E : XK}
theorem law_body (L : LawF W P1 P2) (TB : LamX.TabB W.base W.mg c P3) (B : Fb (gW W E (pxG c))) (hRt : ∀ M1, B.Rt (.d (.bool true)) M1) {ns : List Int} (hn : ns.length ≤ 900) :
    DS (gW W E (pxG c)) B (startR nsW [.d (.list (ns.map .int))]) (tab3 P1 P2 P3) (defBody (top 91)) fun _ _ => False := by
  refine ds_cons (s_asg (i := 1) rfl (dx_callBg L.bg (dxs_d (xds_cons (xv 0 rfl rfl) xds_nil) ⟨_, _, rfl, rfl, ⟨ns, rfl, by omega, rfl⟩, ?_⟩)))
  have d0 : DrawOk 0 (drawM (ns ++ [0]) 0 0 0) := ⟨_, 0, 0, 0, rfl, by simp, by rw [List.length_append, List.length_singleton]; omega, by decide, by decide⟩
  obtain ⟨m, hm⟩ : ∃ m, m = drawM (ns ++ [0]) 0 0 0 := ⟨_, rfl⟩
  have em : tab3 P1 P2 P3 ++ [.dct (drawK (ns ++ [0]) 0 0 0)] = lwM P1 P2 P3 m := by rw [hm]; rfl
  rw [← hm] at d0
  rw [em]
  refine ds_cons (s_asg (i := 2) rfl (dx_d (xd_lst (xds_cons xd_s (xds_cons xd_s (xds_cons xd_s (xds_cons xd_s (xds_cons xd_s xds_nil)))))) ?_))
  refine ds_cons (s_asg (i := 2) rfl (dx_d (xd_bin (xv 2 rfl rfl) (xd_lst (xds_cons xd_s (xds_cons xd_s xds_nil))) (ob_catL (by simp))) ?_))
  refine ds_cons (s_asg (i := 2) rfl (dx_d (xd_bin (xv 2 rfl rfl) (xd_lst (xds_cons xd_s (xds_cons xd_s xds_nil))) (ob_catL (by simp))) ?_))
  refine ds_cons (s_asg (i := 2) rfl (dx_d (xd_bin (xv 2 rfl rfl) (xd_lst (xds_cons xd_s (xds_cons xd_s (xds_cons xd_s (xds_cons xd_n (xds_cons xd_i xds_nil)))))) (ob_catL (by simp))) ?_))
  refine ds_cons (s_asg (i := 2) rfl (dx_d (xd_bin (xv 2 rfl rfl) (xd_lst (xds_cons xd_s (xds_cons xd_s xds_nil))) (ob_catL (by simp))) ?_))
  refine ds_cons (s_asg (i := 2) rfl (dx_d (d := .list startL) (xd_bin (xv 2 rfl rfl) (xd_lst (xds_cons xd_s (xds_cons (xd_lst (xds_cons xd_s xds_nil)) xds_nil))) (ob_catL (by simp))) ?_))
  refine ds_cons (s_for (di_range L.b.range (dx_d xd_i ⟨6, rfl, by decide, fun t ρ1 M1 => (∃ o3 o4 o5 o6 o7 m1 ys, ρ1 = [some (.d (.list (ns.map .int))), some (.r 3), some (.d (.list ys)), o3, o4, o5, o6, o7] ∧ M1 = lwM P1 P2 P3 m1 ∧ DrawOk (360 * t) m1 ∧ LOk (20 + 28 * t) ys), ?_, ?_, ?_⟩)))
  · exact ⟨_, _, _, _, _, m, startL, rfl, rfl, d0, startL_ok⟩
  · rintro t d ρ1 M1 ht ⟨o3, o4, o5, o6, o7, m1, ys, rfl, rfl, h1, h2⟩
    obtain ⟨hi, rfl⟩ := nats_get ht
    refine ⟨_, _, tg_name (i := 3) rfl, ?_⟩
    exact (law_turn L B h1 (by omega) h2 (by omega)).mono fun ρ2 M2 ⟨o4, o5, o6, o7, m2, zs, e1, e2, e3, e4⟩ => ⟨_, o4, o5, o6, o7, m2, zs, e1, e2, e3.mono (by omega), e4⟩
  · rintro ρ1 M1 ⟨o3, o4, o5, o6, o7, m1, ys, rfl, rfl, h1, h2⟩
    refine ds_cons (s_for (di_list (dx_d (xv 2 rfl rfl) ⟨ys, rfl, fun t ρ1 M1 => (∃ o7, ρ1 = [some (.d (.list (ns.map .int))), some (.r 3), some (.d (.list ys)), o3, o4, o5, o6, o7] ∧ M1 = lwM P1 P2 P3 m1), ?_, ?_, ?_⟩)))
    · exact ⟨o7, rfl, rfl⟩
    · rintro t d ρ2 M2 ht ⟨o7, rfl, rfl⟩
      refine ⟨_, _, tg_name (i := 7) rfl, ?_⟩
      exact (law_last L TB B h1 (h2.tx d (List.mem_of_getElem? ht))).mono fun ρ3 M3 ⟨e1, e2⟩ => ⟨_, e1, e2⟩
    · rintro ρ2 M2 ⟨o7, rfl, rfl⟩
      exact ds_one (s_ret (dx_d xd_b (hRt _)))
def spLaw (K : Kf) (P1 P2 P3 : Addr) : Sp := fun vs H Q _ => ∃ (A : Hp) (v : V) (ns : List Int), vs = [v] ∧ Ex A H ∧ Ms K A H (tab3 P1 P2 P3) [P1, P2, P3] ∧ Dp K A v (.list (ns.map .int)) ∧ ns.length ≤ 900 ∧ ∀ H1, Q (.bl true) H1
def fbW (Γ : Gm) (A H : Hp) (Q : VK) (ps : List Addr) (q : ∀ H1, Q (.bl true) H1) : Fb Γ where
  F := fmOf A H ps
  rt := Q
  Rt := fun z _ => z = .d (.bool true)
  PX := fun _ _ => False
  hR := fun A1 H1 σ ρ M ps1 v z E r hz => by
    subst hz
    have r : Dp Γ.W.K A1 v (.bool true) := r
    cases r
    exact q H1
  hX := fun _ _ _ _ _ _ _ _ _ _ _ _ _ z => z.elim
theorem law_run (L : LawF W P1 P2) {f : Addr} {fd : FuncData} (F : FunD W.K "law" "law" (defArgs (top 91)) (defBody (top 91)) (defScope (top 91)) [] [] f fd) (hc : fd.code = .ref c) (TB : LamX.TabB W.base W.mg c P3) (hr : Room 10 callerA) : RunC W.P W.w W.K W.mg W.base (L2.CX W.P W.w) f fd "_law_script" (spLaw W.K P1 P2 P3) := fun s H u v Q E e0 hb r hs => by
  obtain ⟨A, v0, ns, ev, h1, h2, h3, h4, h5⟩ := hs
  cases ev
  obtain ⟨oc, od, dV, kV, doc, pm, an, cdv, ct, osl, rfl, lk, hcd, _, _⟩ := F.ex
  have e : cdv = .ref c := hc
  subst e
  have S : FnScope nsW ["_law_script"] (defScope (top 91)) := ⟨rfl, rfl, rfl, by decide +kernel, rfl, by decide +kernel, by decide +kernel⟩
  refine LamX.run_ofS (k := 9) (N := nsW) (ps := ["_law_script"]) (us := [u]) lk hcd S hr e0 hb (.cons r .nil) rfl fun hr' => ⟨WGss (gW W E (pxG c)) (defBody (top 91)), pss_wg (Γ := gW W E (pxG c)) ⟨rfl, rfl, rfl, rfl, rfl, rfl, rfl, rfl, hr', fun _ _ => .inl rfl, passes_of rfl, fun E' e' => by
    cases e'
    exact takes_of rfl rfl rfl rfl, ⟨rfl, rfl⟩, rfl⟩, ?_⟩
  exact law_body L TB (fbW (gW W E (pxG c)) A H Q [P1, P2, P3] h5) (fun _ => rfl) h4 A H (L2.start nsW [v]) [P1, P2, P3] (en_start h1 h2 (.cons (z := .d (.list (ns.map .int))) h3 .nil)) _ rfl fun A1 H1 σ1 ρ1 M1 ps1 x1 E1 hd => hd.elim
end
end Ev
namespace Ev
open PySem PySem.Spec PyProof.Rows L2 Evl
/-! ### facts of the head -/
theorem oexB_ok {K : Kf} {C : Addr} (h : oexB K C = true) : ∃ nm q N bs bm sn sub ab col dd k0 k1 k2 k3 k5, K.lookup C = some (excClassObj nm q C N bs bm true sn sub ab col dd k0 k1 k2 k3 k5 "ValueError.__new__") ∧ PySem.HandSPX.refsVE bm = true := by
  unfold oexB at h
  split at h
  · rename_i t dd cd sl e
    simp only [Bool.and_eq_true, decide_eq_true_eq, Bool.not_eq_true'] at h
    obtain ⟨rfl, h2, h3, h4, h5⟩ := h
    obtain ⟨nm, bs, mro, N, qn, hd, sn, sub, ab, col, del⟩ := cd
    have h2 : hd = true := h2
    have h3 : del = false := h3
    subst h2 h3
    obtain ⟨sl⟩ := sl
    match mro, h4 with
    | .ref C' :: bm, h4 =>
      have h4 : (decide (C' = C) && PySem.HandSPX.refsVE bm) = true := h4
      obtain ⟨h6, h7⟩ := He.ba h4
      have h6 : C' = C := of_decide_eq_true h6
      subst h6
      match sl, h5 with
      | [k0, k1, k2, k3, some (.builtin n), k5], h5 =>
        have h5 : n = "ValueError.__new__" := of_decide_eq_true h5
        subst h5
        exact ⟨nm, qn, N, bs, bm, sn, sub, ab, col, dd, k0, k1, k2, k3, k5, e, h7⟩
  · cases h
structure ExcF (K : Kf) (x : Str) (fs : List Str) : Prop where
  ox : OexC K (He.ga K x)
  k : ExcK K (He.ga K x)
  i1 : PySem.W.findIn K (.ref (He.ga K x)) "__init__" = some (some (.ref (He.ma K (He.ga K x) "__init__")))
  i2 : PySem.W.typeIn K (.ref (He.ma K (He.ga K x) "__init__")) = some (.type "function")
  no : ∀ f ∈ fs, PySem.W.findIn K (.ref (He.ga K x)) f = some none
  is : ∀ y ∈ xNames, PySem.W.kitOne K (.ref (He.ga K x)) (.ref (He.ga K y)) = some (decide (y = x)) ∧ PySem.W.exmOne K (.ref (He.ga K x)) (.ref (He.ga K y)) = some (decide (y = x))
theorem eqB_ok {a b : Option Bool} (h : eqB a b = true) : a = b := of_decide_eq_true h
theorem excB_ok {K : Kf} {x : Str} {fs : List Str} (g : genB K = true) (h : excB K x fs = true) : ExcF K x fs := by
  obtain ⟨g1, g2⟩ := He.ba g
  obtain ⟨h1, h⟩ := He.ba h
  obtain ⟨h2, h⟩ := He.ba h
  obtain ⟨h3, h⟩ := He.ba h
  obtain ⟨h4, h⟩ := He.ba h
  obtain ⟨h5, h⟩ := He.ba h
  obtain ⟨h6, h⟩ := He.ba h
  obtain ⟨h7, h⟩ := He.ba h
  obtain ⟨h8, h⟩ := He.ba h
  obtain ⟨h9, h⟩ := He.ba h
  obtain ⟨h10, h⟩ := He.ba h
  obtain ⟨h11, h⟩ := He.ba h
  obtain ⟨h12, h13⟩ := He.ba h
  exact ⟨⟨oexB_ok h1, He.eqO_ok h2, eqB_ok h3, of_decide_eq_true h4, h5⟩, ⟨xfB_ok h6, h7, He.eqO_ok h8, He.eqO_ok g1, eqB_ok g2, eqB_ok h9⟩, He.eqO_ok h10, of_decide_eq_true h11, fun f hf => He.eqO_ok (List.all_eq_true.mp h12 f hf), fun y hy => by
    obtain ⟨a, b⟩ := He.ba (List.all_eq_true.mp h13 y hy)
    exact ⟨eqB_ok a, eqB_ok b⟩⟩
end Ev
namespace Ev
open PySem PySem.Spec PyProof.Rows L2 Evl
structure Fcts (W : Wd) : Prop where
  sd : He.SaysD faH fnH W.K
  ex : exH W.K = true
  hX : W.K.In W.base
  hG : W.base.Ns mainGlobals W.mg
  tb : ∀ p ∈ tfH, LamX.TabB W.base W.mg (He.cT W.K p).1 (He.cT W.K p).2
section
variable {W : Wd}
theorem Fcts.fa (F : Fcts W) {f : He.Fa} (h : f ∈ faH) : f.ok W.K = true := F.sd.facts h
theorem in_glo {x : Str} {i : Nat} (h : (x, i) ∈ defsG) : He.Fa.glo x ∈ faH := by
  unfold faH
  simp only [List.mem_append]
  exact .inl (.inl (.inl (.inl (.inl (.inl (List.mem_map.mpr ⟨_, h, rfl⟩))))))
theorem in_free {x : Str} (h : x ∈ freeN) : He.Fa.free x ∈ faH := by
  unfold faH
  simp only [List.mem_append]
  exact .inl (.inl (.inl (.inl (.inl (.inr (List.mem_map.mpr ⟨_, h, rfl⟩))))))
theorem in_str {x k : Str} (h : (x, k) ∈ strN) : He.Fa.str x k ∈ faH := by
  unfold faH
  simp only [List.mem_append]
  exact .inl (.inl (.inl (.inl (.inr (List.mem_map.mpr ⟨_, h, rfl⟩)))))
theorem in_int {x : Str} {k : Int} (h : (x, k) ∈ intN) : He.Fa.int x k ∈ faH := by
  unfold faH
  simp only [List.mem_append]
  exact .inl (.inl (.inl (.inr (List.mem_map.mpr ⟨_, h, rfl⟩))))
theorem in_xn {x : Str} (h : x ∈ xNames) : He.Fa.glo x ∈ faH := by
  unfold faH
  simp only [List.mem_append]
  exact .inl (.inl (.inr (List.mem_map.mpr ⟨_, h, rfl⟩)))
theorem in_meth {x : Str} {i : Nat} (h : (x, i) ∈ defsM.tail) : He.Fa.meth "Lines" x ∈ faH := by
  unfold faH
  simp only [List.mem_append]
  exact .inl (.inr (List.mem_map.mpr ⟨_, h, rfl⟩))
theorem in_last {f : He.Fa} (h : f ∈ ([.glo "LagError", .glo "Lines", .cls "Lines", .noat "Lines" "lines", .noat "Lines" "at", .mkr "Lines"] : List He.Fa)) : f ∈ faH := by
  unfold faH
  exact List.mem_append_right _ h
theorem Fcts.dg (F : Fcts W) {x : Str} {i : Nat} (h : decide ((x, i) ∈ defsG) = true := by decide +kernel) : Dg W x i := by
  have h := of_decide_eq_true h
  obtain ⟨fd, k⟩ := F.sd.defs (d := dG x i) (by
    unfold fnH
    simp only [List.mem_append]
    exact .inl (.inl (List.mem_map.mpr ⟨_, h, rfl⟩)))
  exact ⟨_, fd, k, He.glo_ok F.hX F.hG (F.fa (in_glo h))⟩
theorem Fcts.dgc (F : Fcts W) {x : Str} {i : Nat} (h : decide ((x, i) ∈ defsG) = true := by decide +kernel) (ht : decide ((x, none) ∈ tfH) = true := by decide +kernel) : DgC W x i (He.cT W.K (x, none)).1 (He.cT W.K (x, none)).2 := by
  obtain ⟨f, fd, k, hg⟩ := F.dg h
  have hf : f = He.ga W.K x := by
    have e := hg.symm.trans (He.glo_ok F.hX F.hG (F.fa (in_glo (of_decide_eq_true h))))
    cases e
    rfl
  subst hf
  refine ⟨_, fd, k, hg, ?_, F.tb _ (of_decide_eq_true ht)⟩
  obtain ⟨oc, od, dV, kV, doc, pm, an, cdv, ct, osl, e, lk, hcd, _, _⟩ := k.ex
  obtain ⟨c, hc⟩ := He.codeIn_ref hcd
  subst e
  show cdv = _
  rw [hc]
  exact congrArg Value.ref (He.codeOf_eq (p := (x, none)) lk hc).symm
theorem Fcts.fr (F : Fcts W) {x : Str} (h : decide (x ∈ freeN) = true := by decide +kernel) : W.mg x = Option.none := He.free_ok F.hX F.hG (F.fa (in_free (of_decide_eq_true h)))
theorem Fcts.gs (F : Fcts W) {x k : Str} (h : decide ((x, k) ∈ strN) = true := by decide +kernel) : Gs W x k := He.str_ok F.hX F.hG (F.fa (in_str (of_decide_eq_true h)))
theorem Fcts.gi (F : Fcts W) {x : Str} {k : Int} (h : decide ((x, k) ∈ intN) = true := by decide +kernel) : Gi W x k := He.int_ok F.hX F.hG (F.fa (in_int (of_decide_eq_true h)))
theorem Fcts.xn (F : Fcts W) {x : Str} (h : x ∈ xNames) : W.mg x = some (.ref (He.ga W.K x)) := He.glo_ok F.hX F.hG (F.fa (in_xn h))
theorem Fcts.bl (F : Fcts W) : Bl W := ⟨F.fr, F.fr, F.fr, F.fr, F.fr, F.fr, F.fr, F.fr, F.fr, F.fr, F.fr, F.fr, F.fr, F.fr, F.fr⟩
theorem Fcts.lnc (F : Fcts W) : LnC W (He.ga W.K "Lines") := ⟨He.cls_ok (F.fa (in_last (by simp))), He.noat_ok (F.fa (in_last (by simp))), He.noat_ok (F.fa (in_last (by simp)))⟩
theorem Fcts.dgm (F : Fcts W) {m q : Str} {i : Nat} (h : decide ((m, i) ∈ defsM.tail) = true := by decide +kernel) (hq : q = "Lines." ++ m := by decide +kernel) : DgM W (He.ga W.K "Lines") m q (stL i) := by
  subst hq
  have h := of_decide_eq_true h
  obtain ⟨fd, k⟩ := F.sd.defs (d := dM "Lines" m ("Lines." ++ m) (stL i)) (by
    unfold fnH
    simp only [List.mem_append]
    exact .inl (.inr (List.mem_map.mpr ⟨(m, i), List.mem_of_mem_tail h, rfl⟩)))
  exact ⟨_, fd, F.lnc.c, He.meth_ok (F.fa (in_meth h)), k⟩
theorem Fcts.dgi (F : Fcts W) : DgI W "Lines" (He.ga W.K "Lines") "Lines.__init__" (stL 0) := by
  obtain ⟨fd, k⟩ := F.sd.defs (d := dM "Lines" "__init__" "Lines.__init__" (stL 0)) (by
    unfold fnH
    simp only [List.mem_append]
    refine .inl (.inr (List.mem_map.mpr ⟨("__init__", 0), by simp [defsM], ?_⟩))
    have e : ("Lines." : Str) ++ "__init__" = "Lines.__init__" := by decide +kernel
    show dM "Lines" "__init__" ("Lines." ++ "__init__") (stL 0) = _
    rw [e])
  exact ⟨_, fd, He.glo_ok F.hX F.hG (F.fa (in_last (by simp))), He.mkr_ok (F.fa (in_last (by simp))), k⟩
structure ExPs (K : Kf) : Prop where
  g : genB K = true
  l : lagB K = true
  a : ExcF K "BadRack" ["part", "number"]
  u : ExcF K "BadRule" ["part"]
  t : ExcF K "BadText" ["line"]
  n : (tfH.map fun p => (He.cT K p).2).Nodup
theorem exPs_of {K : Kf} (h : exH K = true) : ExPs K := by
  obtain ⟨h1, h⟩ := He.ba h
  obtain ⟨h2, h⟩ := He.ba h
  obtain ⟨h3, h⟩ := He.ba h
  obtain ⟨h4, h⟩ := He.ba h
  obtain ⟨h5, h6⟩ := He.ba h
  exact ⟨h1, h2, excB_ok h1 h3, excB_ok h1 h4, excB_ok h1 h5, of_decide_eq_true h6⟩
theorem Fcts.lag (F : Fcts W) : LagE W (He.ga W.K "LagError") := by
  obtain ⟨h1, h⟩ := He.ba (exPs_of F.ex).l
  obtain ⟨h2, h3⟩ := He.ba h
  refine ⟨He.glo_ok F.hX F.hG (F.fa (in_last (by simp))), He.eqO_ok h1, h2, ?_⟩
  split at h3
  · rename_i n e
    have h3 := of_decide_eq_true h3
    rw [e, h3]
  · cases h3
theorem Fcts.dgx (F : Fcts W) {x : Str} {i : Nat} (h : (x, i) ∈ defsX) : ∃ fd, FunD W.K "__init__" (x ++ ".__init__") (defArgs (stI i)) (defBody (stI i)) (defScope (stI i)) [] [] (He.ma W.K (He.ga W.K x) "__init__") fd := by
  obtain ⟨fd, k⟩ := F.sd.defs (d := dM x "__init__" (x ++ ".__init__") (stI i)) (by
    unfold fnH
    simp only [List.mem_append]
    exact .inr (List.mem_map.mpr ⟨(x, i), h, rfl⟩))
  exact ⟨fd, k⟩
theorem Fcts.xa (F : Fcts W) : Xcl W "BadRack" (He.ga W.K "BadRack") 1 ["part", "number"] := by
  have e := (exPs_of F.ex).a
  obtain ⟨fd, k⟩ := F.dgx (x := "BadRack") (i := 6) (by simp [defsX])
  exact ⟨F.xn (of_decide_eq_true (by decide +kernel : decide (("BadRack" : Str) ∈ xNames) = true)), e.ox, _, fd, _, e.i1, e.i2, ok_init_rack F.lag e.ox k (e.no _ (by simp)) (e.no _ (by simp)), k.bindsN (fun _ _ _ _ _ _ us hl => match us, hl with | [_, _, _], _ => rfl)⟩
theorem Fcts.xu (F : Fcts W) : Xcl W "BadRule" (He.ga W.K "BadRule") 1 ["part"] := by
  have e := (exPs_of F.ex).u
  obtain ⟨fd, k⟩ := F.dgx (x := "BadRule") (i := 7) (by simp [defsX])
  exact ⟨F.xn (of_decide_eq_true (by decide +kernel : decide (("BadRule" : Str) ∈ xNames) = true)), e.ox, _, fd, _, e.i1, e.i2, ok_init_rule F.lag e.ox k (e.no _ (by simp)), k.bindsN (fun _ _ _ _ _ _ us hl => match us, hl with | [_, _], _ => rfl)⟩
theorem Fcts.xt (F : Fcts W) : Xcl W "BadText" (He.ga W.K "BadText") 1 ["line"] := by
  have e := (exPs_of F.ex).t
  obtain ⟨fd, k⟩ := F.dgx (x := "BadText") (i := 18) (by simp [defsX])
  exact ⟨F.xn (of_decide_eq_true (by decide +kernel : decide (("BadText" : Str) ∈ xNames) = true)), e.ox, _, fd, _, e.i1, e.i2, ok_init_text F.lag e.ox k (e.no _ (by simp)), k.bindsN (fun _ _ _ _ _ _ us hl => match us, hl with | [_, _], _ => rfl)⟩
theorem Fcts.said (F : Fcts W) {x : Xc} {fs : List Str} (e : ExcF W.K x.cls fs) (hx : x.cls ∈ xNames) (one : (∃ p n, x = badRack p n) ∨ (∃ p, x = badRule p) ∨ ∃ n, x = badText n) (hf : ∀ f, f ∈ fs ∨ f ∉ x.fs.map (·.1)) : XSaid W x :=
  ⟨⟨_, F.xn hx, ⟨e.k, fun y hy => ⟨_, F.xn hy, e.is y hy⟩⟩, fun f => (hf f).imp (e.no f) id⟩, one⟩
theorem fields_in {fs gs : List Str} (h : (gs.all fun g => decide (g ∈ fs)) = true) (f : Str) : f ∈ fs ∨ f ∉ gs := by
  by_cases m : f ∈ gs
  · exact .inl (of_decide_eq_true (List.all_eq_true.mp h f m))
  · exact .inr m
end
end Ev
namespace Ev
open PySem PySem.Spec PyProof.Rows L2 Evl
section
variable {W : Wd}
abbrev tbA (W : Wd) : Addr := (He.cT W.K ("need_rack", none)).2
abbrev tbB (W : Wd) : Addr := (He.cT W.K ("_law_rack_fault", none)).2
abbrev tbC (W : Wd) : Addr := (He.cT W.K ("law", none)).2
theorem mk_rack (F : Fcts W) : Fk W 6 "need_rack" ["thing"] (spM W 1 (RNeed (tbA W))) := by
  have b := F.bl
  have i1 := ok_is_integer b F.dg
  have i2 := ok_is_whole b F.dg i1
  have i3 := ok_are_whole b F.dg i1
  exact ok_need_rack b F.xa F.dgc F.dg F.gi F.gi F.gi F.gi F.gi i2 i3 (ok_is_cable b F.dg F.gs F.gs i3) (ok_order_of b F.dg) (ok_is_loop b F.dg F.gi i3 (ok_behind_of b F.dg))
theorem mk_reach (F : Fcts W) : FReach W := ok_reached F.dg
theorem mk_fault (F : Fcts W) : Fk W 6 "_law_rack_fault" ["_law_thing"] (spM W 1 (RFault (tbB W))) := by
  have b := F.bl
  have i1 := ok_law_is_int b F.dg
  have i2 := ok_law_is_row b F.dg i1
  have r := mk_reach F
  exact ok_law_rack_fault b F.dgc F.dg i1 i2 (ok_law_is_cable b F.dg i2) (ok_law_has_ring b F.dg r) (ok_law_is_loop b F.dg i2 r)
theorem mk_nums (F : Fcts W) : Fk W 2 "numbers_in" ["words"] (spD W.K 1 RNums) := ok_numbers_in F.bl F.dg (ok_number_in F.bl F.dg F.gi F.gs)
theorem mk_lnums (F : Fcts W) : Fk W 2 "_law_numbers" ["_law_words", "_law_least"] (spD W.K 2 RNumsL) := ok_law_numbers F.bl F.dg (ok_law_int F.bl F.dg)
theorem mk_need (F : Fcts W) : Mt W (He.ga W.K "Lines") 3 "need" ["self", "is_good"] (spM W 2 (RLneed (He.ga W.K "Lines"))) := ok_need F.lnc F.xt F.dgm
theorem mk_words (F : Fcts W) : Mt W (He.ga W.K "Lines") 4 "words" ["self", "word"] (spM W 2 (RLwords (He.ga W.K "Lines"))) := ok_words F.bl F.lnc F.dgm (mk_need F)
theorem mk_numbers (F : Fcts W) : Mt W (He.ga W.K "Lines") 5 "numbers" ["self", "word", "least"] (spM W 3 (RLnums (He.ga W.K "Lines"))) := ok_numbers F.bl F.lnc F.xt F.dgm (mk_words F) (mk_nums F)
theorem mk_init (F : Fcts W) : Mki W "Lines" (He.ga W.K "Lines") 3 ["self", "text"] (spM W 2 (RLinit (He.ga W.K "Lines"))) := ok_init_lines F.bl F.lnc F.xt F.dgi F.gs F.gs
theorem mk_end (F : Fcts W) : Mt W (He.ga W.K "Lines") 4 "end" ["self"] (spM W 1 (RLend (He.ga W.K "Lines"))) := ok_end F.bl F.lnc F.dgm (mk_need F)
theorem mk_read (F : Fcts W) : Fk W 7 "read_rack" ["text"] (spM W 1 (RRead (tbA W))) :=
  ok_read_rack F.bl F.xt F.dg F.gs F.gs F.gs F.gs (mk_init F) (mk_numbers F) (ok_is_next F.bl F.lnc F.dgm) (ok_cable F.bl F.lnc F.xt F.dgm F.gs F.gs F.gs (mk_words F) (mk_nums F)) (mk_end F) (mk_rack F)
theorem mk_readR (F : Fcts W) : Fk W 6 "read_rule" ["text"] (spM W 1 RReadR) := by
  have b := F.bl
  have i1 := ok_is_integer b F.dg
  have i2 := ok_is_whole b F.dg i1
  exact ok_read_rule b F.xt F.dg F.gs F.gs F.gs F.gs F.gs F.gi (mk_init F) (mk_numbers F) (mk_words F) (mk_end F) (ok_checked_rule b F.xu F.dg F.gs F.gs (ok_are_rising b F.dg i2))
theorem mkLaw (F : Fcts W) : LawF W (tbA W) (tbB W) := by
  have b := F.bl
  have n := ok_law_next b F.dg
  have p := ok_law_pick b F.dg n
  obtain ⟨fg, fdg, k, hg⟩ : Dg W "_law_said" 85 := F.dg
  have mem : ∀ {x : Str}, decide (x ∈ xNames) = true → x ∈ xNames := fun h => of_decide_eq_true h
  exact {
    b := b
    bg := ok_law_begin F.dg
    rk := ok_law_rack b F.dg n p (ok_law_order b F.dg n) (ok_law_lag b F.dg n) (mk_reach F)
    rt := ok_law_rack_text b F.dg
    ru := ok_law_rule b F.dg n p (ok_law_some b F.dg n)
    ut := ok_law_rule_text b F.dg
    bt := ok_law_bent b F.dg n p
    rr := mk_read F
    dr := ok_law_rack_due b F.dg (ok_law_line b F.dg (mk_lnums F)) (mk_fault F)
    ur := mk_readR F
    du := ok_law_rule_due b F.dg (mk_lnums F)
    ft := ok_law_fault b F.dg
    x20 := fun y hy => ⟨_, F.xn hy⟩
    x1 := fun q i => F.said (x := badRack q i) (exPs_of F.ex).a (mem (by decide +kernel : decide (("BadRack" : Str) ∈ xNames) = true)) (.inl ⟨q, i, rfl⟩) (fields_in (by decide +kernel : ((["number", "part"] : List Str).all fun g => decide (g ∈ (["part", "number"] : List Str))) = true))
    x2 := fun q => F.said (x := badRule q) (exPs_of F.ex).u (mem (by decide +kernel : decide (("BadRule" : Str) ∈ xNames) = true)) (.inr (.inl ⟨q, rfl⟩)) (fields_in (by decide +kernel : ((["part"] : List Str).all fun g => decide (g ∈ (["part"] : List Str))) = true))
    x3 := fun i => F.said (x := badText i) (exPs_of F.ex).t (mem (by decide +kernel : decide (("BadText" : Str) ∈ xNames) = true)) (.inr (.inr ⟨i, rfl⟩)) (fields_in (by decide +kernel : ((["line"] : List Str).all fun g => decide (g ∈ (["line"] : List Str))) = true))
    sd := ⟨fg, fdg, k, hg, k.bindsN (fun _ _ _ _ _ _ us hl => match us, hl with | [_], _ => rfl)⟩ }
end
end Ev
namespace Ev
open PySem PySem.Spec PyProof.Rows L2 Evl
theorem sp_law {K : Kf} {P : Program} {w : World} {cs : List (Addr × Addr)} {a : Addr} {ns : List Int} {s : Shared} {H : Hp} {c1 c2 c3 P1 P2 P3 : Addr} (ec : cs = [(c1, P1), (c2, P2), (c3, P3)]) (t : Trk P w K cs a ns s H) (nd : [P1, P2, P3].Nodup) (hl : ns.length ≤ 63) :
    spLaw K P1 P2 P3 [.ref a] H (fun v _ => v = .bl true) fun _ _ _ => False := by
  subst ec
  have q1 : H P1 = some (.tbl #[]) := t.tb (c1, P1) (by simp)
  have q2 : H P2 = some (.tbl #[]) := t.tb (c2, P2) (by simp)
  have q3 : H P3 = some (.tbl #[]) := t.tb (c3, P3) (by simp)
  have key : ∀ A : Hp, Ex A H → SqL K A a (ns.map V.int) → (∀ p, H p = some (.tbl #[]) → A p = Option.none) → spLaw K P1 P2 P3 [.ref a] H (fun v _ => v = .bl true) fun _ _ _ => False := fun A e sq n => by
    refine ⟨A, .ref a, ns, rfl, e, ⟨rfl, fun j m p hm hp => ?_, nd⟩, .lst sq (dpa_ints ns), by omega, fun _ => rfl⟩
    have one : ∀ {p : Addr} {q : Str}, H p = some (.tbl #[]) → H p ≠ Option.none ∧ MoOk K A H [P1, P2, P3] p (.tab p q) ∧ (isGone (.tab p q) = false → A p = Option.none) := fun {p q} hq => ⟨by rw [hq]; simp, ⟨rfl, LamX.TabS.nil hq⟩, fun _ => n p hq⟩
    match j, hm, hp with
    | 0, hm, hp =>
      cases hm
      cases hp
      exact one q1
    | 1, hm, hp =>
      cases hm
      cases hp
      exact one q2
    | 2, hm, hp =>
      cases hm
      cases hp
      exact one q3
    | j + 3, hm, hp => cases hm
  rcases t.sq with h | h
  · have at_ : ∀ b, b = a → (fun b => if b = a then H b else Option.none : Hp) b = H b := fun b e => if_pos e
    have off : ∀ b, ¬ b = a → (fun b => if b = a then H b else Option.none : Hp) b = Option.none := fun b e => if_neg e
    refine key (fun b => if b = a then H b else Option.none) (fun b o hb => ?_) (.inl ?_) fun p hp => ?_
    · by_cases e : b = a
      · rw [at_ b e] at hb
        exact hb
      · rw [off b e] at hb
        cases hb
    · rcases h with h | ⟨o, h⟩
      · exact .inl (by rw [at_ a rfl]; exact h)
      · exact .inr ⟨o, by rw [at_ a rfl]; exact h⟩
    · by_cases e : p = a
      · subst e
        rcases h with h | ⟨o, h⟩
        · rw [hp] at h
          cases h
        · rw [hp] at h
          cases h
      · exact if_neg e
  · exact key (fun _ => Option.none) (fun b o hb => by cases hb) (.inr h) fun _ _ => rfl
theorem code_of {K : Kf} {x q : Str} {ps : Arguments} {body : List Stmt} {sc : Scope} {fd : FuncData} (k : FunD K x q ps body sc [] [] (He.fAd K (x, none)) fd) : fd.code = .ref (He.cT K (x, none)).1 := by
  obtain ⟨oc, od, dV, kV, doc, pm, an, cdv, ct, osl, e, lk, hcd, _, _⟩ := k.ex
  obtain ⟨c, hc⟩ := He.codeIn_ref hcd
  subst e
  show cdv = _
  rw [hc]
  exact congrArg Value.ref (He.codeOf_eq (p := (x, none)) lk hc).symm
theorem run_law {w : World} {K : Kf} {mg : Str → Option Value} {h : Heap} {fd : FuncData} (c : He.SaysX faH fnH [] tfH exH w h K) (k : FunD K "law" "law" (defArgs (top 91)) (defBody (top 91)) (defScope (top 91)) [] [] (He.fAd K ("law", none)) fd) (bh : Heap) (hX : K.In bh) (hG : bh.Ns mainGlobals mg)
    (hT : ∀ p ∈ tfH.map (He.cT K), LamX.TabB bh mg p.1 p.2) : RunC prg w K mg bh (L2.CX prg w) (He.fAd K ("law", none)) fd "_law_script" (spLaw K (He.cT K ("need_rack", none)).2 (He.cT K ("_law_rack_fault", none)).2 (He.cT K ("law", none)).2) := by
  have F : Fcts ⟨prg, w, K, mg, bh⟩ := ⟨c.t.d, c.more, hX, hG, fun p hp => hT _ (List.mem_map.mpr ⟨p, hp, rfl⟩)⟩
  exact law_run (W := ⟨prg, w, K, mg, bh⟩) (mkLaw F) k (code_of k) (F.tb ("law", none) (by simp [tfH])) ⟨rfl, by decide, by decide⟩
end Ev
open PySem PySem.W PySem.Calls PyProof.Rows
theorem PySem.Challenge.cw_evenlags_k34_whole_any_text_holds : PySem.Challenge.rw_evenlags_k34_whole_any_text.Holds := by
  w_on; o_law
  refine HandSHeadRun.head_any (r := Ev.RowH) (q := view Ev.RowH.prog [91]) (H := Ev.hkH) (ob := Ev.obH) (M := 20000) (loose := Ev.namesH) (d := HandSHeadRun.topDef Ev.RowH.prog 91) (kwd := []) Ev.obH_eq
    (by kernel_rfl) (fun s => by kernel_rfl) Ev.runH (by kernel_rfl) (by kernel_rfl) (by kernel_rfl) (by rfl) (by first | assumption | decide +kernel) (by decide +kernel) ⟨rfl, rfl, rfl, rfl, rfl, by decide +kernel⟩ ?hw ?hc
  case hw => w_witness2
  case hc =>
    refine Att.attach_callB (l := PySem.Challenge.rw_evenlags_k34_whole_any_text) (n := 63) rfl (by kernel_rfl) fun w s₀ s₁ mg mb fa o pm cd doc a vs ns G Y ho hd hcd hmg hobj hints hlen hbits hg => ?_
    obtain ⟨K, KX, c⟩ := Y
    have hmg : mg "law" = some (.ref fa) := hmg
    have e := Ev.exPs_of c.more
    obtain ⟨fd, k⟩ := c.t.d.defs (d := Ev.dG "law" 91) (by
      unfold Ev.fnH
      simp only [List.mem_append]
      exact .inl (.inl (List.mem_map.mpr ⟨("law", 91), of_decide_eq_true (by decide +kernel : decide (((("law" : Str), 91) : Str × Nat) ∈ Ev.defsG) = true), rfl⟩)))
    have ha : fa = He.ga K "law" := by
      have e1 := hmg.symm.trans (He.glo_ok KX G.T.g (c.t.d.facts (Ev.in_glo (x := "law") (i := 91) (of_decide_eq_true (by decide +kernel)))))
      cases e1
      rfl
    have g : Ev.Gnd K mg mb (Ev.tfH.map (He.cT K)) a vs s₁ := ⟨KX, G.T.g, G.T.b, G.T.builtins, G.T.nolimit, hg, fun p hp => by
      obtain ⟨q, hq, rfl⟩ := List.mem_map.mp hp
      exact c.empty q hq, fun p hp => by
      obtain ⟨q, hq, rfl⟩ := List.mem_map.mp hp
      exact c.out q hq, fun p hp => by
      obtain ⟨q, hq, rfl⟩ := List.mem_map.mp hp
      exact codeHd_of_K KX (c.hd q hq), G.T.bmain, hobj⟩
    obtain ⟨H, t⟩ := Ev.trk_ex (P := Ev.prg) (w := w) g hints (Nat.le_trans hlen (by rw [sizeLine_eq]; omega))
    have hbn : L2.Binds K fd ["_law_script"] [] := L2.FunD.bindsN (x := "law") (qual := "law") (kws := []) k (fun _ _ _ _ _ _ us hl => match us, hl with | [_], _ => rfl)
    subst ha
    exact Ev.law_of (CX := L2.CX Ev.prg w) (x := "_law_script") g t (fun bh hX hG hT => Ev.run_law c k bh hX hG hT) (hbn s₁ [.ref a] KX rfl) (Ev.sp_law rfl t e.n hlen) fun H e z ⟨_, _, _, _, _, _, _, _, _, _, _, _, h⟩ => h
