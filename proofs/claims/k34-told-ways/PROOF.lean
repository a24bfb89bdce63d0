import PyProof.Rows.All
import Wide.All
import OpenK.AllK
import Wide.FinOn
import HandS.ForMost
import HandS.Flow
import HandS.Nested
import HandS.Zip
import HandS.IsInst
import HandS.TupAny
import HandS.Wide
import HandS.Defaults
import PyProof.ListMulRoad
import PyProof.FactsAll.tuple_2
import HandS.TupMul
import HandS.Codes
import PySem.Challenge.RW_sharesuntold_k34_whole_told_hours_and_wa
import KE.KSortKey
import HandS.SortOrd
import PyProof.EnumMake
import PyProof.Draws
import KE.GoesMore
import HandS.Exc
import HandS.ExcOwn
import HandS.WordsExc
import HandS.TryOnly
import HandS.Style
import HandS.Star
import HandS.SetFor
import HandS.Strs
import HandS.ExcIs
import KE.KStateDown
import HandS.Ends
import HandS.Head0
import HandS.Head1
import HandS.Head2
import HandS.HeadEnd
import HandS.HeadHook1
import HandS.HeadHook2
import HandS.HeadHook3
import HandS.HeadHook4
import HandS.HeadWalk
import HandS.NestedK
set_option Elab.async false
set_option linter.all false
-- Sh0
set_option maxRecDepth 100000
set_option maxHeartbeats 4000000
/-! a layer of data over the hand layer: frozen heap G within the whole heap H; data by Dp -/
namespace Sh
open PySem PySem.Spec PyProof.Rows L2

abbrev DD := PySem.PyData
abbrev Dl := List (Option DD)

theorem seq_l {K : PySem.W.Frag} {H H' : Hp} {a : Addr} {xs : List V} (e : Same H H') (h : SqL K H a xs) : SqL K H' a xs := e.seq h
theorem seq_t {K : PySem.W.Frag} {H H' : Hp} {a : Addr} {xs : List V} (e : Same H H') (h : SqT K H a xs) : SqT K H' a xs := by
  rcases h with (h | ⟨o, h⟩) | h
  · exact .inl (.inl (e _ _ h))
  · exact .inl (.inr ⟨o, e _ _ h⟩)
  · exact .inr h
mutual
/-- the value is this data; every list and tuple of it stands in G -/
inductive Dq (G : Hp) : V → DD → Prop
  | non : Dq G .non .none
  | bl (b : Bool) : Dq G (.bl b) (.bool b)
  | int (i : Int) : Dq G (.int i) (.int i)
  | str (x : Str) : Dq G (.str x) (.str x)
  | lst {a : Addr} {xs : List V} {ds : List DD} : G a = some (.lst xs) → DqAll G xs ds → Dq G (.ref a) (.list ds)
  | tup {a : Addr} {xs : List V} {ds : List DD} : G a = some (.tup xs) → DqAll G xs ds → Dq G (.ref a) (.tuple ds)
inductive DqAll (G : Hp) : List V → List DD → Prop
  | nil : DqAll G [] []
  | cons {v : V} {vs : List V} {d : DD} {ds : List DD} : Dq G v d → DqAll G vs ds → DqAll G (v :: vs) (d :: ds)
end
mutual
theorem dq_mono {H H' : Hp} (e : Same H H') : ∀ (d : DD) (v : V), Dq H v d → Dq H' v d
  | .none, _, h => by cases h; exact .non
  | .bool b, _, h => by cases h; exact .bl b
  | .int i, _, h => by cases h; exact .int i
  | .str x, _, h => by cases h; exact .str x
  | .list ds, _, h => by
    cases h with
    | lst hs ha => exact .lst (e _ _ hs) (dqa_mono e ds _ ha)
  | .tuple ds, _, h => by
    cases h with
    | tup hs ha => exact .tup (e _ _ hs) (dqa_mono e ds _ ha)
  | .dict _, _, h => by cases h
theorem dqa_mono {H H' : Hp} (e : Same H H') : ∀ (ds : List DD) (vs : List V), DqAll H vs ds → DqAll H' vs ds
  | [], _, h => by cases h; exact .nil
  | d :: ds, _, h => by
    cases h with
    | cons h1 h2 => exact .cons (dq_mono e d _ h1) (dqa_mono e ds _ h2)
end
mutual
theorem dq_dp {K : PySem.W.Frag} {H : Hp} : ∀ (d : DD) (v : V), Dq H v d → Dp K H v d
  | .none, _, h => by cases h; exact .non
  | .bool b, _, h => by cases h; exact .bl b
  | .int i, _, h => by cases h; exact .int i
  | .str x, _, h => by cases h; exact .str x
  | .list ds, _, h => by
    cases h with
    | lst hs ha => exact .lst (SqL.of hs) (dqa_dp ds _ ha)
  | .tuple ds, _, h => by
    cases h with
    | tup hs ha => exact .tup (SqT.of hs) (dqa_dp ds _ ha)
  | .dict _, _, h => by cases h
theorem dqa_dp {K : PySem.W.Frag} {H : Hp} : ∀ (ds : List DD) (vs : List V), DqAll H vs ds → DpAll K H vs ds
  | [], _, h => by cases h; exact .nil
  | d :: ds, _, h => by
    cases h with
    | cons h1 h2 => exact .cons (dq_dp d _ h1) (dqa_dp ds _ h2)
end
theorem dqa_len {H : Hp} : ∀ {vs : List V} {ds : List DD}, DqAll H vs ds → vs.length = ds.length
  | _, _, .nil => rfl
  | _, _, .cons _ t => by rw [List.length_cons, List.length_cons, dqa_len t]
theorem dqa_get {H : Hp} : ∀ {vs : List V} {ds : List DD} {i : Nat} {v : V}, DqAll H vs ds → vs[i]? = some v → ∃ d, ds[i]? = some d ∧ Dq H v d
  | _, _, _, _, .nil, e => by simp at e
  | _, _, 0, _, .cons h _, e => by simp at e; subst e; exact ⟨_, rfl, h⟩
  | _, _, i + 1, v, .cons _ t, e => by
    obtain ⟨d, h1, h2⟩ := dqa_get (i := i) (v := v) t (by simpa using e)
    exact ⟨d, by simpa using h1, h2⟩
theorem dqa_get2 {H : Hp} : ∀ {vs : List V} {ds : List DD} {i : Nat} {d : DD}, DqAll H vs ds → ds[i]? = some d → ∃ v, vs[i]? = some v ∧ Dq H v d
  | _, _, _, _, .nil, e => by simp at e
  | _, _, 0, _, .cons h _, e => by simp at e; subst e; exact ⟨_, rfl, h⟩
  | _, _, i + 1, d, .cons _ t, e => by
    obtain ⟨v, h1, h2⟩ := dqa_get2 (i := i) (d := d) t (by simpa using e)
    exact ⟨v, by simpa using h1, h2⟩
theorem dqa_app {H : Hp} : ∀ {vs ws : List V} {ds es : List DD}, DqAll H vs ds → DqAll H ws es → DqAll H (vs ++ ws) (ds ++ es)
  | _, _, _, _, .nil, t => t
  | _, _, _, _, .cons h t, u => .cons h (dqa_app t u)
theorem dqa_take {H : Hp} : ∀ {vs : List V} {ds : List DD} (n : Nat), DqAll H vs ds → DqAll H (vs.take n) (ds.take n)
  | _, _, 0, _ => .nil
  | _, _, _ + 1, .nil => .nil
  | _, _, n + 1, .cons h t => .cons h (dqa_take n t)
theorem dqa_drop {H : Hp} : ∀ {vs : List V} {ds : List DD} (n : Nat), DqAll H vs ds → DqAll H (vs.drop n) (ds.drop n)
  | _, _, 0, h => h
  | _, _, _ + 1, .nil => .nil
  | _, _, n + 1, .cons _ t => dqa_drop n t
theorem dqa_ints {H : Hp} : ∀ (r : List Int), DqAll H (r.map V.int) (r.map PyData.int)
  | [] => .nil
  | x :: r => .cons (.int x) (dqa_ints r)
theorem dqa_ints_inv {H : Hp} : ∀ {r : List Int} {vs : List V}, DqAll H vs (r.map PyData.int) → vs = r.map V.int
  | [], _, h => by cases h; rfl
  | x :: r, _, h => by
    cases h with
    | cons h1 h2 =>
      cases h1
      rw [dqa_ints_inv h2]
      rfl
theorem dqa_bools_inv {H : Hp} : ∀ {r : List Bool} {vs : List V}, DqAll H vs (r.map PyData.bool) → vs = r.map V.bl
  | [], _, h => by cases h; rfl
  | x :: r, _, h => by
    cases h with
    | cons h1 h2 =>
      cases h1
      rw [dqa_bools_inv h2]
      rfl
/-- an environment of data -/
def EnvD (G : Hp) (σ : L2.St) (δ : Dl) : Prop := σ.length = δ.length ∧ ∀ (i : Nat) (d : DD), δ[i]? = some (some d) → ∃ v, σ[i]? = some (some v) ∧ Dq G v d
theorem EnvD.mono {G G' : Hp} {σ : L2.St} {δ : Dl} (e : Same G G') (h : EnvD G σ δ) : EnvD G' σ δ :=
  ⟨h.1, fun i d hd => let ⟨v, h1, h2⟩ := h.2 i d hd; ⟨v, h1, dq_mono e d v h2⟩⟩
theorem EnvD.set {G : Hp} {σ : L2.St} {δ : Dl} {v : V} {d : DD} (h : EnvD G σ δ) (i : Nat) (hv : Dq G v d) : EnvD G (σ.set i (some v)) (δ.set i (some d)) := by
  refine ⟨by simpa using h.1, fun j e he => ?_⟩
  by_cases hj : i = j
  · subst hj
    have hl : i < δ.length := by
      rcases Nat.lt_or_ge i δ.length with z | z
      · exact z
      · rw [List.getElem?_eq_none (by simpa using z)] at he
        cases he
    rw [List.getElem?_set_self hl] at he
    cases he
    exact ⟨v, List.getElem?_set_self (by rw [h.1]; exact hl), hv⟩
  · rw [List.getElem?_set_ne hj] at he
    obtain ⟨u, h1, h2⟩ := h.2 j e he
    exact ⟨u, by rw [List.getElem?_set_ne hj]; exact h1, h2⟩
def wipeD (δ : Dl) : List Nat → Dl
  | [] => δ
  | v :: vs => (wipeD δ vs).set v none
theorem EnvD.forget {G : Hp} {σ : L2.St} {δ : Dl} (h : EnvD G σ δ) (i : Nat) : EnvD G (σ.set i none) (δ.set i none) := by
  refine ⟨by simpa using h.1, fun j e he => ?_⟩
  by_cases hj : i = j
  · subst hj
    rcases Nat.lt_or_ge i δ.length with z | z
    · rw [List.getElem?_set_self z] at he
      cases he
    · rw [List.getElem?_eq_none (by simpa using z)] at he
      cases he
  · rw [List.getElem?_set_ne hj] at he
    obtain ⟨u, h1, h2⟩ := h.2 j e he
    exact ⟨u, by rw [List.getElem?_set_ne hj]; exact h1, h2⟩
theorem EnvD.wipe {G : Hp} {σ : L2.St} {δ : Dl} (h : EnvD G σ δ) : ∀ vs, EnvD G (wipe σ vs) (wipeD δ vs)
  | [] => h
  | v :: vs => (EnvD.wipe h vs).forget v
/-- fewer things known -/
theorem EnvD.weak {G : Hp} {σ : L2.St} {δ δ' : Dl} (h : EnvD G σ δ) (hl : δ'.length = δ.length) (w : ∀ (i : Nat) (d : DD), δ'[i]? = some (some d) → δ[i]? = some (some d)) : EnvD G σ δ' :=
  ⟨h.1.trans hl.symm, fun i d hd => h.2 i d (w i d hd)⟩

/-! ### the steps of the heap -/
abbrev Tb := List NdefX.NTab
structure Step (T : Tb) (G H G2 H2 : Hp) : Prop where
  gg : Same G G2
  gh : Same G2 H2
  hh : LamX.ExtN H H2
  nn : ∀ b, H2 b = none → H b = none
  fr : ∀ b o, G2 b = some o → G b = none → H b = none
  tt : NdefX.TabsN T H → NdefX.TabsN T H2
  nt : ∀ b ps, G2 b = some (.tbl ps) → G b = some (.tbl ps)
section
variable {T : Tb} {G H G1 H1 G2 H2 : Hp} {p : Addr} {o : HO}
theorem Step.refl (s : Same G H) : Step T G H G H := ⟨Same.refl _, s, LamX.ExtN.refl _, fun _ h => h, fun _ _ h h' => (by rw [h'] at h; cases h), fun h => h, fun _ _ h => h⟩
theorem Step.trans (a : Step T G H G1 H1) (b : Step T G1 H1 G2 H2) : Step T G H G2 H2 := by
  refine ⟨a.gg.trans b.gg, b.gh, a.hh.trans b.hh, fun c h => a.nn c (b.nn c h), fun c o h h' => ?_, fun h => b.tt (a.tt h), fun c ps h => a.nt c ps (b.nt c ps h)⟩
  cases q : G1 c with
  | some u => exact a.fr c u q h'
  | none => exact a.nn c (b.fr c o h q)
theorem upd_not {H : Hp} {p b : Addr} {o : HO} (h : upd H p o b = none) : H b = none := NdefX.upd_none h
/-- a new frozen object -/
theorem Step.new (s : Same G H) (hp : H p = none) (ho : ∀ ps, o ≠ .tbl ps := by intro ps z; cases z) : Step T G H (upd G p o) (upd H p o) := by
  have gp : G p = none := s.free hp
  refine ⟨fun b u e => (by rw [upd_ne (ne_of_none e gp)]; exact e), fun b u e => ?_, LamX.ExtN.of fun b u e => (by rw [upd_ne (ne_of_none e hp)]; exact e), fun b h => upd_not h, fun b u e n => ?_, fun h => h.ext fun b u e => (by rw [upd_ne (ne_of_none e hp)]; exact e), fun b ps e => ?_⟩
  · by_cases hb : b = p
    · subst hb
      rw [upd_same] at e ⊢
      exact e
    · rw [upd_ne hb] at e ⊢
      exact s b u e
  · by_cases hb : b = p
    · subst hb
      exact hp
    · rw [upd_ne hb] at e
      rw [n] at e
      cases e
  · by_cases hb : b = p
    · subst hb
      rw [upd_same] at e
      exact absurd (Option.some.inj e) (ho ps)
    · rw [upd_ne hb] at e
      exact e
/-- a new object that may change -/
theorem Step.newM (s : Same G H) (hp : H p = none) : Step T G H G (upd H p o) := by
  have e1 : Same H (upd H p o) := fun b u e => by rw [upd_ne (ne_of_none e hp)]; exact e
  exact ⟨Same.refl _, s.trans e1, LamX.ExtN.of e1, fun b h => upd_not h, fun _ _ h h' => (by rw [h'] at h; cases h), fun h => h.ext e1, fun _ _ h => h⟩
end
end Sh
-- Sh1
set_option maxRecDepth 100000
set_option maxHeartbeats 4000000
/-! readings at data -/
namespace Sh
open PySem PySem.Spec PyProof.Rows L2

structure Ok (T : Tb) (σ : L2.St) (δ : Dl) (G H : Hp) : Prop where
  s : Same G H
  t : NdefX.TabsN T H
  e : EnvD G σ δ
  nt : ∀ b ps, G b ≠ some (.tbl ps)
theorem Ok.step {T : Tb} {σ : L2.St} {δ : Dl} {G H G2 H2 : Hp} (o : Ok T σ δ G H) (st : Step T G H G2 H2) : Ok T σ δ G2 H2 := ⟨st.gh, st.tt o.t, o.e.mono st.gg, fun b ps h => o.nt b ps (st.nt b ps h)⟩

def EW (T : Tb) (te : TE) (δ : Dl) (post : DD → Prop) : Prop :=
  ∀ (σ : L2.St) (G H : Hp), Ok T σ δ G H → ∀ Q : VK, (∀ (d : DD) (v : V) (G2 H2 : Hp), post d → Step T G H G2 H2 → Dq G2 v d → Q v H2) → te σ H Q
def ED (T : Tb) (te : TE) (δ : Dl) (d : DD) : Prop :=
  ∀ (σ : L2.St) (G H : Hp), Ok T σ δ G H → ∀ Q : VK, (∀ (v : V) (G2 H2 : Hp), Step T G H G2 H2 → Dq G2 v d → Q v H2) → te σ H Q
def ET (T : Tb) (tt : TT) (δ : Dl) (b : Bool) : Prop :=
  ∀ (σ : L2.St) (G H : Hp), Ok T σ δ G H → ∀ Q : Bool → Hp → Prop, (∀ (G2 H2 : Hp), Step T G H G2 H2 → Q b H2) → tt σ H Q
def EA (T : Tb) (ta : TA) (δ : Dl) (ds : List DD) : Prop :=
  ∀ (σ : L2.St) (G H : Hp), Ok T σ δ G H → ∀ Q : List V → Hp → Prop, (∀ (vs : List V) (G2 H2 : Hp), Step T G H G2 H2 → DqAll G2 vs ds → Q vs H2) → ta σ H Q
def EO (T : Tb) (to : TO) (δ : Dl) (o : Option Int) : Prop :=
  ∀ (σ : L2.St) (G H : Hp), Ok T σ δ G H → ∀ Q : Option Int → Hp → Prop, (∀ (G2 H2 : Hp), Step T G H G2 H2 → Q o H2) → to σ H Q
def RD (T : Tb) (r : R2) (d e f : DD) : Prop :=
  ∀ (G H : Hp) (x y : V), Same G H → NdefX.TabsN T H → Dq G x d → Dq G y e → ∀ Q : VK, (∀ (v : V) (G2 H2 : Hp), Step T G H G2 H2 → Dq G2 v f → Q v H2) → r x y H Q
def RU (T : Tb) (r : V → Hp → VK → Prop) (d f : DD) : Prop :=
  ∀ (G H : Hp) (x : V), Same G H → NdefX.TabsN T H → Dq G x d → ∀ Q : VK, (∀ (v : V) (G2 H2 : Hp), Step T G H G2 H2 → Dq G2 v f → Q v H2) → r x H Q
def RC (T : Tb) (r : List V → Hp → VK → Prop) (ds : List DD) (f : DD) : Prop :=
  ∀ (G H : Hp) (xs : List V), Same G H → NdefX.TabsN T H → DqAll G xs ds → ∀ Q : VK, (∀ (v : V) (G2 H2 : Hp), Step T G H G2 H2 → Dq G2 v f → Q v H2) → r xs H Q

section
variable {T : Tb} {δ : Dl} {te ta tb tc : TE} {t u : TT} {d e f : DD} {r : R2} {i : Nat}
theorem ED.ew (h : ED T te δ d) : EW T te δ (fun x => x = d) := fun σ G H o Q q => h σ G H o Q fun v G2 H2 st dv => q d v G2 H2 rfl st dv
theorem ed_var (h : δ[i]? = some (some d)) : ED T (tVar i) δ d := fun σ G H o Q q => by
  obtain ⟨v, h1, h2⟩ := o.e.2 i d h
  exact ⟨v, h1, q v G H (Step.refl o.s) h2⟩
theorem ed_int {k : Int} : ED T (tC (.int k)) δ (.int k) := fun σ G H o Q q => q _ G H (Step.refl o.s) (.int k)
theorem ed_bl {b : Bool} : ED T (tC (.bl b)) δ (.bool b) := fun σ G H o Q q => q _ G H (Step.refl o.s) (.bl b)
theorem ed_non : ED T (tC .non) δ .none := fun σ G H o Q q => q _ G H (Step.refl o.s) .non
theorem ed_str {x : Str} : ED T (tC (.str x)) δ (.str x) := fun σ G H o Q q => q _ G H (Step.refl o.s) (.str x)
theorem ed_op (ha : ED T ta δ d) (hb : ED T tb δ e) (hr : RD T r d e f) : ED T (tOp r ta tb) δ f := fun σ G H o Q q =>
  ha σ G H o _ fun v G1 H1 s1 d1 => hb σ G1 H1 (o.step s1) _ fun w G2 H2 s2 d2 =>
    hr G2 H2 v w s2.gh (s2.tt (s1.tt o.t)) (dq_mono s2.gg _ _ d1) d2 Q fun z G3 H3 s3 d3 => q z G3 H3 ((s1.trans s2).trans s3) d3
theorem ed_un {r : V → Hp → VK → Prop} (ha : ED T ta δ d) (hr : RU T r d f) : ED T (tUn r ta) δ f := fun σ G H o Q q =>
  ha σ G H o _ fun v G1 H1 s1 d1 => hr G1 H1 v s1.gh (s1.tt o.t) d1 Q fun z G3 H3 s3 d3 => q z G3 H3 (s1.trans s3) d3
theorem ea_nil : EA T tNil δ [] := fun σ G H o Q q => q [] G H (Step.refl o.s) .nil
theorem ea_cons {tr : TA} {ds : List DD} (ha : ED T ta δ d) (hr : EA T tr δ ds) : EA T (tCons ta tr) δ (d :: ds) := fun σ G H o Q q =>
  ha σ G H o _ fun v G1 H1 s1 d1 => hr σ G1 H1 (o.step s1) _ fun vs G2 H2 s2 d2 => q (v :: vs) G2 H2 (s1.trans s2) (.cons (dq_mono s2.gg _ _ d1) d2)
theorem ed_cb {tr : TA} {ds : List DD} {r : List V → Hp → VK → Prop} (ha : EA T tr δ ds) (hr : RC T r ds f) : ED T (tCB r tr) δ f := fun σ G H o Q q =>
  ha σ G H o _ fun vs G1 H1 s1 d1 => hr G1 H1 vs s1.gh (s1.tt o.t) d1 Q fun z G3 H3 s3 d3 => q z G3 H3 (s1.trans s3) d3
theorem ed_tup {tr : TA} {ds : List DD} (ha : EA T tr δ ds) (hl : ds.length ≤ 1000000) : ED T (tTup tr) δ (.tuple ds) := fun σ G H o Q q =>
  ha σ G H o _ fun vs G1 H1 s1 d1 => ⟨by rw [dqa_len d1]; exact Nat.le_trans hl (by decide), fun p hp => q _ _ _ (s1.trans (Step.new s1.gh hp)) (.tup upd_same (dqa_mono (Step.new (T := T) s1.gh hp).gg _ _ d1))⟩
theorem ed_lst {tr : TA} {ds : List DD} (ha : EA T tr δ ds) (hl : ds.length ≤ 1000000) : ED T (tLst tr) δ (.list ds) := fun σ G H o Q q =>
  ha σ G H o _ fun vs G1 H1 s1 d1 => ⟨by rw [dqa_len d1]; exact Nat.le_trans hl (by decide), fun p hp => q _ _ _ (s1.trans (Step.new s1.gh hp)) (.lst upd_same (dqa_mono (Step.new (T := T) s1.gh hp).gg _ _ d1))⟩
theorem ed_if {b : Bool} (ht : ET T t δ b) (h1 : b = true → ED T ta δ d) (h2 : b = false → ED T tb δ d) : ED T (tIf t ta tb) δ d := fun σ G H o Q q =>
  ht σ G H o _ fun G1 H1 s1 => by
    cases b with
    | true => exact h1 rfl σ G1 H1 (o.step s1) Q fun v G2 H2 s2 d2 => q v G2 H2 (s1.trans s2) d2
    | false => exact h2 rfl σ G1 H1 (o.step s1) Q fun v G2 H2 s2 d2 => q v G2 H2 (s1.trans s2) d2
theorem et_B {b : Bool} (h : ED T te δ (.bool b)) : ET T (tB te) δ b := fun σ G H o Q q =>
  h σ G H o _ fun v G1 H1 s1 d1 => by cases d1; exact ⟨b, rfl, q G1 H1 s1⟩
theorem et_test {b : Bool} (h : ED T te δ (.bool b)) : ET T (tTest te) δ b := fun σ G H o Q q =>
  h σ G H o _ fun v G1 H1 s1 d1 => by cases d1; exact ⟨b, rfl, q G1 H1 s1⟩
theorem et_yes : ET T tYes δ true := fun σ G H o Q q => q G H (Step.refl o.s)
theorem et_and {a b : Bool} (h1 : ET T t δ a) (h2 : a = true → ET T u δ b) : ET T (tAnd t u) δ (a && b) := fun σ G H o Q q =>
  h1 σ G H o _ fun G1 H1 s1 => by
    cases a with
    | true =>
      show u σ H1 Q
      exact h2 rfl σ G1 H1 (o.step s1) Q fun G2 H2 s2 => q G2 H2 (s1.trans s2)
    | false =>
      show Q false H1
      exact q G1 H1 s1
theorem et_or {a b : Bool} (h1 : ET T t δ a) (h2 : a = false → ET T u δ b) : ET T (tOr t u) δ (a || b) := fun σ G H o Q q =>
  h1 σ G H o _ fun G1 H1 s1 => by
    cases a with
    | true =>
      show Q true H1
      exact q G1 H1 s1
    | false =>
      show u σ H1 Q
      exact h2 rfl σ G1 H1 (o.step s1) Q fun G2 H2 s2 => q G2 H2 (s1.trans s2)
theorem et_not {a : Bool} (h1 : ET T t δ a) : ET T (tNot t) δ (!a) := fun σ G H o Q q => h1 σ G H o _ fun G1 H1 s1 => q G1 H1 s1
theorem ed_andV {a b : Bool} (h1 : ED T ta δ (.bool a)) (h2 : a = true → ED T tb δ (.bool b)) : ED T (tAndV ta tb) δ (.bool (a && b)) := fun σ G H o Q q =>
  h1 σ G H o _ fun v G1 H1 s1 d1 => by
    cases d1
    refine ⟨a, rfl, ?_⟩
    cases a with
    | true => exact h2 rfl σ G1 H1 (o.step s1) Q fun w G2 H2 s2 d2 => q w G2 H2 (s1.trans s2) d2
    | false => exact q _ G1 H1 s1 (.bl false)
theorem ed_orV {a b : Bool} (h1 : ED T ta δ (.bool a)) (h2 : a = false → ED T tb δ (.bool b)) : ED T (tOrV ta tb) δ (.bool (a || b)) := fun σ G H o Q q =>
  h1 σ G H o _ fun v G1 H1 s1 d1 => by
    cases d1
    refine ⟨a, rfl, ?_⟩
    cases a with
    | true => exact q _ G1 H1 s1 (.bl true)
    | false => exact h2 rfl σ G1 H1 (o.step s1) Q fun w G2 H2 s2 d2 => q w G2 H2 (s1.trans s2) d2
theorem ed_notV {a : Bool} (h1 : ED T ta δ (.bool a)) : ED T (tNotV ta) δ (.bool (!a)) := fun σ G H o Q q =>
  h1 σ G H o _ fun v G1 H1 s1 d1 => by
    cases d1
    exact ⟨a, rfl, q _ G1 H1 s1 (.bl _)⟩
theorem ed_isN {b : Bool} (h : ED T ta δ d) (hb : b = (match d with | .none => true | _ => false)) : ED T (tIsN ta) δ (.bool b) := fun σ G H o Q q =>
  h σ G H o _ fun v G1 H1 s1 d1 => q _ G1 H1 s1 (by subst hb; cases d1 <;> exact .bl _)
theorem ed_notN {b : Bool} (h : ED T ta δ d) (hb : b = (match d with | .none => false | _ => true)) : ED T (tNotN ta) δ (.bool b) := fun σ G H o Q q =>
  h σ G H o _ fun v G1 H1 s1 d1 => q _ G1 H1 s1 (by subst hb; cases d1 <;> exact .bl _)
theorem ed_is (h : ED T te δ d) (e1 : d = e) : ED T te δ e := by rw [← e1]; exact h
theorem et_is {a b : Bool} (h : ET T t δ a) (e1 : a = b) : ET T t δ b := by rw [← e1]; exact h
theorem new_l {ds : List DD} {xs : List V} {p : Addr} {G H : Hp} {Q : VK} (s : Same G H) (hn : H p = none) (hd : DqAll G xs ds) (q : ∀ (v : V) (G2 H2 : Hp), Step T G H G2 H2 → Dq G2 v (.list ds) → Q v H2) : Q (.ref p) (upd H p (.lst xs)) :=
  q _ _ _ (Step.new s hn) (.lst upd_same (dqa_mono (Step.new (T := T) s hn).gg _ _ hd))
theorem new_t {ds : List DD} {xs : List V} {p : Addr} {G H : Hp} {Q : VK} (s : Same G H) (hn : H p = none) (hd : DqAll G xs ds) (q : ∀ (v : V) (G2 H2 : Hp), Step T G H G2 H2 → Dq G2 v (.tuple ds) → Q v H2) : Q (.ref p) (upd H p (.tup xs)) :=
  q _ _ _ (Step.new s hn) (.tup upd_same (dqa_mono (Step.new (T := T) s hn).gg _ _ hd))
/-! ### operators -/
theorem rd_I0 {g : Int → Int → Int} {i j : Int} : RD T (rI0 fun i j => .int (g i j)) (.int i) (.int j) (.int (g i j)) := fun G H x y s _ dx dy Q q => by
  cases dx; cases dy
  exact ⟨i, j, rfl, rfl, q _ G H (Step.refl s) (.int _)⟩
theorem rd_B0 {g : Int → Int → Bool} {i j : Int} : RD T (rI0 fun i j => .bl (g i j)) (.int i) (.int j) (.bool (g i j)) := fun G H x y s _ dx dy Q q => by
  cases dx; cases dy
  exact ⟨i, j, rfl, rfl, q _ G H (Step.refl s) (.bl _)⟩
theorem rd_I {C : Int → Int → Prop} {g : Int → Int → Int} {i j : Int} (hc : C i j) : RD T (rI C fun i j => .int (g i j)) (.int i) (.int j) (.int (g i j)) := fun G H x y s _ dx dy Q q => by
  cases dx; cases dy
  exact ⟨i, j, rfl, rfl, hc, q _ G H (Step.refl s) (.int _)⟩
theorem ru_I {g : Int → Int} {i : Int} : RU T (rU fun i => .int (g i)) (.int i) (.int (g i)) := fun G H x s _ dx Q q => by
  cases dx
  exact ⟨i, rfl, q _ G H (Step.refl s) (.int _)⟩
theorem rd_eqI {i j : Int} : RD T rEq (.int i) (.int j) (.bool (decide (i = j))) := fun G H x y s _ dx dy Q q => by
  cases dx; cases dy
  refine ⟨rfl, ?_⟩
  have e : decide (V.int i = V.int j) = decide (i = j) := by simp
  rw [e]
  exact q _ G H (Step.refl s) (.bl _)
theorem rd_neI {i j : Int} : RD T rNe (.int i) (.int j) (.bool (!decide (i = j))) := fun G H x y s _ dx dy Q q => by
  cases dx; cases dy
  refine ⟨rfl, ?_⟩
  have e : decide (V.int i = V.int j) = decide (i = j) := by simp
  rw [e]
  exact q _ G H (Step.refl s) (.bl _)
theorem rd_eqD {K : PySem.W.Frag} {b : Bool} (h1 : SeqAt.shaped d = true) (h2 : SeqAt.shaped e = true) (hb : PyData.eqv d e = b) : RD T (rEqD K) d e (.bool b) := fun G H x y s _ dx dy Q q =>
  ⟨d, e, dq_dp _ _ (dq_mono s _ _ dx), dq_dp _ _ (dq_mono s _ _ dy), h1, h2, q _ G H (Step.refl s) (by rw [hb]; exact .bl _)⟩
theorem rd_neD {K : PySem.W.Frag} {b : Bool} (h1 : SeqAt.shaped d = true) (h2 : SeqAt.shaped e = true) (hb : (!PyData.eqv d e) = b) : RD T (rNeD K) d e (.bool b) := fun G H x y s _ dx dy Q q =>
  ⟨d, e, dq_dp _ _ (dq_mono s _ _ dx), dq_dp _ _ (dq_mono s _ _ dy), h1, h2, q _ G H (Step.refl s) (by rw [hb]; exact .bl _)⟩
theorem ix_map {vs : List V} {ds : List DD} {G : Hp} {k : Int} (h : DqAll G vs ds) (ha : atI ds k = some d) : ∃ v, atI vs k = some v ∧ Dq G v d := by
  unfold atI at ha ⊢
  rw [dqa_len h]
  cases e : ixN ds.length k with
  | none => rw [e] at ha; cases ha
  | some j =>
    rw [e] at ha
    exact dqa_get2 h (show ds[j]? = some d from ha)
theorem rd_ixL {K : PySem.W.Frag} {ds : List DD} {k : Int} (ha : atI ds k = some d) : RD T (rIxL K) (.list ds) (.int k) d := fun G H x y s _ dx dy Q q => by
  cases dy
  cases dx with
  | lst hp hd =>
    obtain ⟨v, hv, dv⟩ := ix_map hd ha
    exact ⟨_, _, k, v, rfl, rfl, SqL.of (s _ _ hp), hv, q v G H (Step.refl s) dv⟩
theorem rd_ixT {K : PySem.W.Frag} {ds : List DD} {k : Int} (ha : atI ds k = some d) : RD T (rIxT K) (.tuple ds) (.int k) d := fun G H x y s _ dx dy Q q => by
  cases dy
  cases dx with
  | tup hp hd =>
    obtain ⟨v, hv, dv⟩ := ix_map hd ha
    exact ⟨_, _, k, v, rfl, rfl, SqT.of (s _ _ hp), hv, q v G H (Step.refl s) dv⟩
/-- a place of a list or a tuple -/
theorem rd_ix_l {K : PySem.W.Frag} {ds : List DD} {k : Int} (ha : atI ds k = some d) : RD T (rIx K) (.list ds) (.int k) d := fun G H x y s t dx dy Q q => .inl (rd_ixL ha G H x y s t dx dy Q q)
theorem rd_ix_t {K : PySem.W.Frag} {ds : List DD} {k : Int} (ha : atI ds k = some d) : RD T (rIx K) (.tuple ds) (.int k) d := fun G H x y s t dx dy Q q => .inr (.inl (rd_ixT ha G H x y s t dx dy Q q))
theorem rd_cat {ds es : List DD} (hl : ds.length + es.length ≤ 1000000) : RD T rCat (.list ds) (.list es) (.list (ds ++ es)) := fun G H x y s _ dx dy Q q => by
  cases dx with
  | lst hp hd =>
    cases dy with
    | lst hp' he =>
      refine ⟨_, _, _, _, rfl, rfl, s _ _ hp, s _ _ hp', by rw [dqa_len hd, dqa_len he]; exact Nat.le_trans hl (by decide), fun p hn => ?_⟩
      exact new_l s hn (dqa_app hd he) q
theorem rd_catT {K : PySem.W.Frag} {ds es : List DD} (hl : ds.length + es.length ≤ 1000000) : RD T (rCatA K) (.tuple ds) (.tuple es) (.tuple (ds ++ es)) := fun G H x y s _ dx dy Q q => by
  cases dx with
  | @tup a xs _ hp hd =>
    cases dy with
    | @tup b ys _ hp' he =>
      refine ⟨a, b, xs, ys, rfl, rfl, SqT.of (s _ _ hp), SqT.of (s _ _ hp'), by rw [dqa_len hd, dqa_len he]; exact Nat.le_trans hl (by decide), fun h0 => ?_, fun h0 h1 => ?_, fun _ _ p hn => ?_⟩
      · subst h0
        cases hd
        exact q _ G H (Step.refl s) (.tup hp' he)
      · subst h1
        cases he
        rw [List.append_nil] at q
        exact q _ G H (Step.refl s) (.tup hp hd)
      · exact new_t s hn (dqa_app hd he) q
/-! ### slices -/
theorem eo_none : EO T tNoPart δ none := fun σ G H o Q q => q G H (Step.refl o.s)
theorem eo_some {k : Int} (h : ED T te δ (.int k)) : EO T (tPart te) δ (some k) := fun σ G H o Q q =>
  h σ G H o _ fun v G1 H1 s1 d1 => by cases d1; exact ⟨k, rfl, q G1 H1 s1⟩
def RS (T : Tb) (r : V → Option Int → Option Int → Hp → VK → Prop) (d : DD) (lo hi : Option Int) (f : DD) : Prop :=
  ∀ (G H : Hp) (x : V), Same G H → NdefX.TabsN T H → Dq G x d → ∀ Q : VK, (∀ (v : V) (G2 H2 : Hp), Step T G H G2 H2 → Dq G2 v f → Q v H2) → r x lo hi H Q
theorem ed_sl {r : V → Option Int → Option Int → Hp → VK → Prop} {tl th : TO} {lo hi : Option Int} (h : ED T te δ d) (hl : EO T tl δ lo) (hh : EO T th δ hi) (hr : RS T r d lo hi f) : ED T (tSl r te tl th) δ f := fun σ G H o Q q =>
  h σ G H o _ fun v G1 H1 s1 d1 => hl σ G1 H1 (o.step s1) _ fun G2 H2 s2 => hh σ G2 H2 ((o.step s1).step s2) _ fun G3 H3 s3 =>
    hr G3 H3 v s3.gh (s3.tt (s2.tt (s1.tt o.t))) (dq_mono (s2.gg.trans s3.gg) _ _ d1) Q fun w G4 H4 s4 d4 => q w G4 H4 (((s1.trans s2).trans s3).trans s4) d4
def cutD (xs : List DD) (lo hi : Option Int) : List DD := (xs.drop (HT.sIx xs.length 0 lo)).take (HT.sIx xs.length xs.length hi - HT.sIx xs.length 0 lo)
theorem dqa_cut {G : Hp} {vs : List V} {ds : List DD} {lo hi : Option Int} (h : DqAll G vs ds) : DqAll G (cutV vs lo hi) (cutD ds lo hi) := by
  unfold cutV cutD
  rw [dqa_len h]
  exact dqa_take _ (dqa_drop _ h)
theorem rs_l {K : PySem.W.Frag} {ds : List DD} {lo hi : Option Int} : RS T (rSlL K) (.list ds) lo hi (.list (cutD ds lo hi)) := fun G H x s _ dx Q q => by
  cases dx with
  | lst hp hd =>
    refine ⟨_, _, rfl, SqL.of (s _ _ hp), fun p hn => ?_⟩
    exact new_l s hn (dqa_cut hd) q
theorem rs_t {K : PySem.W.Frag} {ds : List DD} {lo hi : Option Int} : RS T (rSlA K) (.tuple ds) lo hi (.tuple (cutD ds lo hi)) := fun G H x s _ dx Q q => by
  cases dx with
  | @tup a xs _ hp hd =>
    refine ⟨_, _, rfl, SqT.of (s _ _ hp), fun ⟨h0, h1⟩ => ?_, fun _ p hn => ?_⟩
    · refine q _ G H (Step.refl s) (.tup hp ?_)
      have e : cutD ds lo hi = ds := by
        unfold cutD
        rw [← dqa_len hd, h0, h1, List.drop_zero, Nat.sub_zero, dqa_len hd, List.take_length]
      rw [e]
      exact hd
    · exact new_t s hn (dqa_cut hd) q
/-! ### calls of built-ins -/
theorem rc_sum {K : PySem.W.Frag} {ns : List Int} : RC T (rSum K) [.list (ns.map PyData.int)] (.int ns.sum) := fun G H xs s _ dx Q q => by
  cases dx with
  | cons h t =>
    cases t
    cases h with
    | lst hp hd =>
      have e := dqa_ints_inv hd
      subst e
      exact ⟨_, ns, rfl, SqL.of (s _ _ hp), q _ G H (Step.refl s) (.int _)⟩
theorem rc_all {K : PySem.W.Frag} {bs : List Bool} : RC T (rAll K) [.list (bs.map PyData.bool)] (.bool (bs.all id)) := fun G H xs s _ dx Q q => by
  cases dx with
  | cons h t =>
    cases t
    cases h with
    | lst hp hd =>
      have e := dqa_bools_inv hd
      subst e
      exact ⟨_, bs, rfl, SqL.of (s _ _ hp), q _ G H (Step.refl s) (.bl _)⟩
theorem rc_any {K : PySem.W.Frag} {bs : List Bool} : RC T (rAny K) [.list (bs.map PyData.bool)] (.bool (bs.any id)) := fun G H xs s _ dx Q q => by
  cases dx with
  | cons h t =>
    cases t
    cases h with
    | lst hp hd =>
      have e := dqa_bools_inv hd
      subst e
      exact ⟨_, bs, rfl, SqL.of (s _ _ hp), q _ G H (Step.refl s) (.bl _)⟩
def rTupOf (K : PySem.W.Frag) : List V → Hp → VK → Prop := fun xs H Q => ∃ p ys, xs = [.ref p] ∧ ((SqL K H p ys ∧ ∀ l, H l = none → Q (.ref l) (upd H l (.tup ys))) ∨ (SqT K H p ys ∧ Q (.ref p) H))
def rLstOf (K : PySem.W.Frag) : List V → Hp → VK → Prop := fun xs H Q => ∃ p ys, xs = [.ref p] ∧ (SqL K H p ys ∨ SqT K H p ys) ∧ ∀ l, H l = none → Q (.ref l) (upd H l (.lst ys))
def rLenOf (K : PySem.W.Frag) : List V → Hp → VK → Prop := fun xs H Q => ∃ p ys, xs = [.ref p] ∧ (SqL K H p ys ∨ SqT K H p ys) ∧ Q (.int ys.length) H
theorem cr_tup {X : Cx} : CallR X (.type "tuple") (rTupOf X.K) := call_tuple_of
theorem cr_lst {X : Cx} : CallR X (.type "list") (rLstOf X.K) := call_list_of
theorem cr_len {X : Cx} : CallR X (.builtin "len") (rLenOf X.K) := call_len_seq
theorem rc_tupL {K : PySem.W.Frag} {ds : List DD} : RC T (rTupOf K) [.list ds] (.tuple ds) := fun G H xs s _ dx Q q => by
  cases dx with
  | cons h t =>
    cases t
    cases h with
    | lst hp hd =>
      refine ⟨_, _, rfl, .inl ⟨SqL.of (s _ _ hp), fun l hn => ?_⟩⟩
      exact new_t s hn hd q
theorem rc_tupT {K : PySem.W.Frag} {ds : List DD} : RC T (rTupOf K) [.tuple ds] (.tuple ds) := fun G H xs s _ dx Q q => by
  cases dx with
  | cons h t =>
    cases t
    cases h with
    | tup hp hd => exact ⟨_, _, rfl, .inr ⟨SqT.of (s _ _ hp), q _ G H (Step.refl s) (.tup hp hd)⟩⟩
theorem rc_lstL {K : PySem.W.Frag} {ds : List DD} : RC T (rLstOf K) [.list ds] (.list ds) := fun G H xs s _ dx Q q => by
  cases dx with
  | cons h t =>
    cases t
    cases h with
    | lst hp hd =>
      refine ⟨_, _, rfl, .inl (SqL.of (s _ _ hp)), fun l hn => ?_⟩
      exact new_l s hn hd q
theorem rc_lstT {K : PySem.W.Frag} {ds : List DD} : RC T (rLstOf K) [.tuple ds] (.list ds) := fun G H xs s _ dx Q q => by
  cases dx with
  | cons h t =>
    cases t
    cases h with
    | tup hp hd =>
      refine ⟨_, _, rfl, .inr (SqT.of (s _ _ hp)), fun l hn => ?_⟩
      exact new_l s hn hd q
theorem rc_lenL {K : PySem.W.Frag} {ds : List DD} : RC T (rLenOf K) [.list ds] (.int ds.length) := fun G H xs s _ dx Q q => by
  cases dx with
  | cons h t =>
    cases t
    cases h with
    | lst hp hd => exact ⟨_, _, rfl, .inl (SqL.of (s _ _ hp)), q _ G H (Step.refl s) (by rw [dqa_len hd]; exact .int _)⟩
theorem rc_lenT {K : PySem.W.Frag} {ds : List DD} : RC T (rLenOf K) [.tuple ds] (.int ds.length) := fun G H xs s _ dx Q q => by
  cases dx with
  | cons h t =>
    cases t
    cases h with
    | tup hp hd => exact ⟨_, _, rfl, .inr (SqT.of (s _ _ hp)), q _ G H (Step.refl s) (by rw [dqa_len hd]; exact .int _)⟩
def rAbsI : List V → Hp → VK → Prop := fun xs H Q => ∃ i, xs = [.int i] ∧ Q (.int (if i < 0 then -i else i)) H
theorem cr_abs {X : Cx} : CallR X (.builtin "abs") rAbsI := call_abs
theorem rc_abs {i : Int} : RC T rAbsI [.int i] (.int (i.natAbs : Int)) := fun G H xs s _ dx Q q => by
  cases dx with
  | cons h t =>
    cases t
    cases h
    have e : (if i < 0 then -i else i) = (i.natAbs : Int) := by split <;> omega
    exact ⟨i, rfl, by rw [e]; exact q _ G H (Step.refl s) (.int _)⟩
def rIntOf : List V → Hp → VK → Prop := fun xs H Q => (∃ i, xs = [.int i] ∧ Q (.int i) H) ∨ ∃ k, xs = [.bl k] ∧ Q (.int (if k then 1 else 0)) H
theorem cr_int {X : Cx} : CallR X (.type "int") rIntOf := call_int1
theorem rc_intI {i : Int} : RC T rIntOf [.int i] (.int i) := fun G H xs s _ dx Q q => by
  cases dx with
  | cons h t =>
    cases t
    cases h
    exact .inl ⟨i, rfl, q _ G H (Step.refl s) (.int _)⟩
theorem rc_intB {b : Bool} : RC T rIntOf [.bool b] (.int (if b then 1 else 0)) := fun G H xs s _ dx Q q => by
  cases dx with
  | cons h t =>
    cases t
    cases h
    exact .inr ⟨b, rfl, q _ G H (Step.refl s) (.int _)⟩
end
end Sh
-- Sh2
set_option maxRecDepth 100000
set_option maxHeartbeats 4000000
/-! what is walked, comprehensions, targets, statements, promises, at data -/
namespace Sh
open PySem PySem.Spec PyProof.Rows L2 RZ

theorem tabs_mut {T : Tb} {H : Hp} {p : Addr} {xs ys : List V} (t : NdefX.TabsN T H) (h : H p = some (.lst xs)) : NdefX.TabsN T (upd H p (.lst ys)) := fun q hq => by
  obtain ⟨ps, h1, h2, h3⟩ := t q hq
  have ne : q.1 ≠ p := ne_of h1 h (fun z => by cases z)
  refine ⟨ps, by rw [upd_ne ne]; exact h1, h2, fun pos cv hc => ?_⟩
  obtain ⟨c, e1, e2⟩ := h3 pos cv hc
  have ne2 : c ≠ p := ne_of e2 h (fun z => by cases z) 
  exact ⟨c, e1, by rw [upd_ne ne2]; exact e2⟩
section
variable {T : Tb} {G H G1 H1 : Hp} {p : Addr}
/-- a list that began behind H changes -/
theorem Step.mutL {xs ys : List V} (st : Step T G H G1 H1) (hp : H1 p = some (.lst xs)) (gp : G1 p = none) (h0 : H p = none) : Step T G H G1 (upd H1 p (.lst ys)) := by
  refine ⟨st.gg, fun b o e => ?_, fun b o e n => ?_, fun b e => st.nn b (upd_not e), st.fr, fun t => tabs_mut (st.tt t) hp, st.nt⟩
  · rw [upd_ne (ne_of_none e gp)]
    exact st.gh b o e
  · rw [upd_ne (ne_of_none e h0)]
    exact st.hh b o e n
/-- from now on it stands still -/
theorem Step.freeze {o : HO} (st : Step T G H G1 H1) (hp : H1 p = some o) (gp : G1 p = none) (h0 : H p = none) (ho : ∀ ps, o ≠ .tbl ps := by intro ps z; cases z) : Step T G H (upd G1 p o) H1 := by
  refine ⟨fun b u e => ?_, fun b u e => ?_, st.hh, st.nn, fun b u e n => ?_, st.tt, fun b ps e => ?_⟩
  · rw [upd_ne (ne_of_none (st.gg b u e) gp)]
    exact st.gg b u e
  · by_cases hb : b = p
    · subst hb
      rw [upd_same] at e
      rw [hp]
      exact e
    · rw [upd_ne hb] at e
      exact st.gh b u e
  · by_cases hb : b = p
    · subst hb
      exact h0
    · rw [upd_ne hb] at e
      exact st.fr b u e n
  · by_cases hb : b = p
    · subst hb
      rw [upd_same] at e
      exact absurd (Option.some.inj e) (ho ps)
    · rw [upd_ne hb] at e
      exact st.nt b ps e
theorem Step.keepN (st : Step T G H G1 H1) {o : HO} (gp : G p = none) (hp : H p = some o) : G1 p = none := by
  cases e : G1 p with
  | none => rfl
  | some u =>
    have q := st.fr p u e gp
    rw [hp] at q
    cases q
theorem Step.keepL (st : Step T G H G1 H1) {xs : List V} (hp : H p = some (.lst xs)) : H1 p = some (.lst xs) := st.hh p _ hp (fun ps z => by cases z)
theorem sub_upd {o : HO} (s : Same G H) (gp : G p = none) : Same G (upd H p o) := fun b u e => by
  rw [upd_ne (ne_of_none e gp)]
  exact s b u e
end
/-! ### what is walked -/
def ItD (T : Tb) (J : It) (ds : List DD) (G0 : Hp) : Prop := ∀ (i : Nat) (G H : Hp), Same G0 G → Same G H → NdefX.TabsN T H →
  (∀ d, ds[i]? = some d → J.go i H ∧ ∀ (x : V) (H' : Hp), J.yld i H x H' → ∃ G', Step T G H G' H' ∧ Dq G' x d) ∧ (i = ds.length → J.stop i H)
def ID (T : Tb) (wi : TI) (δ : Dl) (ds : List DD) : Prop := ∀ (σ : L2.St) (G H : Hp), Ok T σ δ G H → ∀ R : It → Hp → Prop, (∀ (J : It) (G2 H2 : Hp), Step T G H G2 H2 → ItD T J ds G2 → R J H2) → wi σ H R
section
variable {T : Tb} {δ δ' : Dl} {te ta tb : TE} {K : PySem.W.Frag} {ds es : List DD}
theorem lst_inj {H : Hp} {a : Addr} {xs ys : List V} (h : H a = some (.lst xs)) (h' : H a = some (.lst ys)) : xs = ys := by
  rw [h] at h'
  injection h' with h'
  injection h'
theorem id_list (h : ED T te δ (.list ds)) : ID T (iList K te) δ ds := fun σ G H o R r =>
  h σ G H o _ fun v G1 H1 s1 d1 => by
    cases d1 with
    | @lst a xs _ hp hd =>
      refine ⟨a, rfl, ⟨xs, SqL.of (s1.gh _ _ hp)⟩, r _ G1 H1 s1 fun i G' H' g gh t => ⟨fun d e => ?_, fun e => ?_⟩⟩
      · have ha : H' a = some (.lst xs) := gh _ _ (g _ _ hp)
        obtain ⟨v, e1, e2⟩ := dqa_get2 hd e
        refine ⟨⟨xs, v, SqL.of ha, e1⟩, fun x H2 hy => ⟨G', ?_, ?_⟩⟩
        · rw [hy.1]
          exact Step.refl gh
        · have q := hy.2 xs (SqL.of ha)
          rw [e1] at q
          cases q
          exact dq_mono g _ _ e2
      · have ha : H' a = some (.lst xs) := gh _ _ (g _ _ hp)
        exact ⟨xs, SqL.of ha, by rw [dqa_len hd]; omega⟩
theorem id_tup (h : ED T te δ (.tuple ds)) : ID T (iTup K te) δ ds := fun σ G H o R r =>
  h σ G H o _ fun v G1 H1 s1 d1 => by
    cases d1 with
    | @tup a xs _ hp hd =>
      refine ⟨a, rfl, ⟨xs, SqT.of (s1.gh _ _ hp)⟩, r _ G1 H1 s1 fun i G' H' g gh t => ⟨fun d e => ?_, fun e => ?_⟩⟩
      · have ha : H' a = some (.tup xs) := gh _ _ (g _ _ hp)
        obtain ⟨v, e1, e2⟩ := dqa_get2 hd e
        refine ⟨⟨xs, v, SqT.of ha, e1⟩, fun x H2 hy => ⟨G', ?_, ?_⟩⟩
        · rw [hy.1]
          exact Step.refl gh
        · have q := hy.2 xs (SqT.of ha)
          rw [e1] at q
          cases q
          exact dq_mono g _ _ e2
      · have ha : H' a = some (.tup xs) := gh _ _ (g _ _ hp)
        exact ⟨xs, SqT.of ha, by rw [dqa_len hd]; omega⟩
def rgD (lo : Int) (n : Nat) : List DD := (List.range n).map fun i => PyData.int (lo + (i : Nat))
theorem itd_range {lo : Int} {n : Nat} {G0 : Hp} : ItD T (Itr lo n) (rgD lo n) G0 := fun i G H g gh t => by
  unfold rgD
  refine ⟨fun d e => ?_, fun e => ?_⟩
  · rw [List.getElem?_map] at e
    cases q : (List.range n)[i]? with
    | none => rw [q] at e; cases e
    | some j =>
      rw [q] at e
      cases e
      obtain ⟨h1, h2⟩ := List.getElem?_eq_some_iff.mp q
      rw [List.getElem_range] at h2
      subst h2
      refine ⟨(show i < n by simpa using h1), fun x H' hy => ⟨G, ?_, ?_⟩⟩
      · rw [hy.1]
        exact Step.refl gh
      · rw [hy.2]
        exact .int _
  · rw [e]
    simp [Itr]
theorem id_range1 {ta : TA} {n : Int} (h : EA T ta δ [.int n]) (h1 : -(2 ^ 62) ≤ n) (h2 : n < 2 ^ 62) : ID T (iRng1 ta) δ (rgD 0 n.toNat) := fun σ G H o R r =>
  h σ G H o _ fun vs G1 H1 s1 d1 => by
    cases d1 with
    | cons a b =>
      cases b
      cases a
      exact ⟨n, rfl, h1, h2, r _ G1 H1 s1 itd_range⟩
theorem id_range2 {ta : TA} {m n : Int} (h : EA T ta δ [.int m, .int n]) (h1 : -(2 ^ 62) ≤ m ∧ m < 2 ^ 62 ∧ -(2 ^ 62) ≤ n ∧ n < 2 ^ 62) : ID T (iRng2 ta) δ (rgD m (n - m).toNat) := fun σ G H o R r =>
  h σ G H o _ fun vs G1 H1 s1 d1 => by
    cases d1 with
    | cons a b =>
      cases b with
      | cons b c =>
        cases c
        cases a
        cases b
        exact ⟨m, n, rfl, h1, r _ G1 H1 s1 itd_range⟩
def zipD (ds es : List DD) : List DD := (ds.zip es).map fun p => PyData.tuple [p.1, p.2]
theorem zipD_get {i : Nat} {d : DD} (e : (zipD ds es)[i]? = some d) : ∃ a b, ds[i]? = some a ∧ es[i]? = some b ∧ d = .tuple [a, b] := by
  unfold zipD at e
  rw [List.getElem?_map] at e
  cases q : (ds.zip es)[i]? with
  | none => rw [q] at e; cases e
  | some p =>
    rw [q] at e
    cases e
    obtain ⟨h1, h2⟩ := List.getElem?_zip_eq_some.mp q
    exact ⟨_, _, h1, h2, rfl⟩
theorem zipD_end {i : Nat} (e : i = (zipD ds es).length) : ds.length ≤ i ∨ es.length ≤ i := by
  unfold zipD at e
  rw [List.length_map, List.length_zip] at e
  omega
theorem pair_new {G H : Hp} {q : Addr} {x y : V} {a b : DD} (gh : Same G H) (hn : H q = none) (hx : Dq G x a) (hy : Dq G y b) : ∃ G', Step T G H G' (upd H q (.tup [x, y])) ∧ Dq G' (.ref q) (.tuple [a, b]) :=
  ⟨_, Step.new gh hn, .tup upd_same (.cons (dq_mono (Step.new (T := T) gh hn).gg _ _ hx) (.cons (dq_mono (Step.new (T := T) gh hn).gg _ _ hy) .nil))⟩
theorem id_zipL {ta : TA} (h : EA T ta δ [.list ds, .list es]) : ID T (iZipA K ta) δ (zipD ds es) := fun σ G H o R r =>
  h σ G H o _ fun vs G1 H1 s1 d1 => by
    cases d1 with
    | cons u w =>
      cases w with
      | cons w z =>
        cases z
        cases u with
        | @lst a xs _ hp hd =>
          cases w with
          | @lst b ys _ hq he =>
            refine ⟨a, b, xs, ys, rfl, .inl ⟨SqL.of (s1.gh _ _ hp), SqL.of (s1.gh _ _ hq), r _ G1 H1 s1 fun i G' H' g gh t => ?_⟩⟩
            have ha : SqL K H' a xs := SqL.of (gh _ _ (g _ _ hp))
            have hb : SqL K H' b ys := SqL.of (gh _ _ (g _ _ hq))
            refine ⟨fun d e => ?_, fun e => ⟨xs, ys, ha, hb, by rw [dqa_len hd, dqa_len he]; exact zipD_end e⟩⟩
            obtain ⟨da, db, e1, e2, rfl⟩ := zipD_get e
            obtain ⟨x, f1, f2⟩ := dqa_get2 hd e1
            obtain ⟨y, f3, f4⟩ := dqa_get2 he e2
            refine ⟨⟨xs, ys, x, y, ha, hb, f1, f3⟩, fun v H2 hy => ?_⟩
            obtain ⟨Q, x1, y1, rfl, nQ, rfl, g1, g2⟩ := hy
            have q1 := g1 xs ha
            have q2 := g2 ys hb
            rw [f1] at q1
            rw [f3] at q2
            cases q1
            cases q2
            exact pair_new gh nQ (dq_mono g _ _ f2) (dq_mono g _ _ f4)
theorem id_zipT {ta : TA} (h : EA T ta δ [.tuple ds, .tuple es]) : ID T (iZipA K ta) δ (zipD ds es) := fun σ G H o R r =>
  h σ G H o _ fun vs G1 H1 s1 d1 => by
    cases d1 with
    | cons u w =>
      cases w with
      | cons w z =>
        cases z
        cases u with
        | @tup a xs _ hp hd =>
          cases w with
          | @tup b ys _ hq he =>
            refine ⟨a, b, xs, ys, rfl, .inr ⟨SqT.of (s1.gh _ _ hp), SqT.of (s1.gh _ _ hq), r _ G1 H1 s1 fun i G' H' g gh t => ?_⟩⟩
            have ha : SqT K H' a xs := SqT.of (gh _ _ (g _ _ hp))
            have hb : SqT K H' b ys := SqT.of (gh _ _ (g _ _ hq))
            refine ⟨fun d e => ?_, fun e => ⟨xs, ys, ha, hb, by rw [dqa_len hd, dqa_len he]; exact zipD_end e⟩⟩
            obtain ⟨da, db, e1, e2, rfl⟩ := zipD_get e
            obtain ⟨x, f1, f2⟩ := dqa_get2 hd e1
            obtain ⟨y, f3, f4⟩ := dqa_get2 he e2
            refine ⟨⟨xs, ys, x, y, ha, hb, f1, f3⟩, fun v H2 hy => ?_⟩
            obtain ⟨Q, x1, y1, rfl, nQ, rfl, g1, g2⟩ := hy
            have q1 := g1 xs ha
            have q2 := g2 ys hb
            rw [f1] at q1
            rw [f3] at q2
            cases q1
            cases q2
            exact pair_new gh nQ (dq_mono g _ _ f2) (dq_mono g _ _ f4)
def enD (ds : List DD) : List DD := ds.mapIdx fun i d => PyData.tuple [.int (i : Nat), d]
theorem id_enumL {ta : TA} (h : EA T ta δ [.list ds]) : ID T (iEnum K ta) δ (enD ds) := fun σ G H o R r =>
  h σ G H o _ fun vs G1 H1 s1 d1 => by
    cases d1 with
    | cons u w =>
      cases w
      cases u with
      | @lst a xs _ hp hd =>
        refine ⟨a, xs, rfl, SqL.of (s1.gh _ _ hp), r _ G1 H1 s1 fun i G' H' g gh t => ?_⟩
        have ha : SqL K H' a xs := SqL.of (gh _ _ (g _ _ hp))
        refine ⟨fun d e => ?_, fun e => ⟨xs, ha, ?_⟩⟩
        · unfold enD at e
          rw [List.getElem?_mapIdx] at e
          cases q : ds[i]? with
          | none => rw [q] at e; cases e
          | some z =>
            rw [q] at e
            cases e
            obtain ⟨x, f1, f2⟩ := dqa_get2 hd q
            refine ⟨⟨xs, x, ha, f1⟩, fun v H2 hy => ?_⟩
            obtain ⟨Q, x1, rfl, nQ, rfl, g1⟩ := hy
            have q1 := g1 xs ha
            rw [f1] at q1
            cases q1
            exact pair_new gh nQ (.int _) (dq_mono g _ _ f2)
        · unfold enD at e
          rw [List.length_mapIdx] at e
          rw [dqa_len hd]
          omega
/-! ### targets -/
/-- the target takes d: the slots tch change -/
def TgD (T : Tb) (g : TG) (d : DD) (tch : List Nat) (δ δ' : Dl) : Prop := ∀ (v : V) (σ : L2.St) (G H : Hp), Ok T σ δ G H → Dq G v d → ∀ Q : L2.St → Hp → Prop,
  (∀ σ', Ok T σ' δ' G H → (∀ vs, (∀ i ∈ tch, i ∈ vs) → wipe σ' vs = wipe σ vs) → Q σ' H) → g v σ H Q
theorem wipe_at {σ : L2.St} {i : Nat} {x : Option V} : ∀ {vs : List Nat}, i ∈ vs → wipe (σ.set i x) vs = wipe σ vs
  | v :: vs, h => by
    unfold wipe
    by_cases hv : i ∈ vs
    · rw [wipe_at hv]
    · have e : i = v := by simpa [hv] using h
      subst e
      have key : ∀ ws : List Nat, (wipe (σ.set i x) ws).set i none = (wipe σ ws).set i none := by
        intro ws
        induction ws with
        | nil => unfold wipe; rw [List.set_set]
        | cons w ws ih =>
          unfold wipe
          by_cases hw : w = i
          · subst hw
            rw [List.set_set, List.set_set]
            exact ih
          · rw [List.set_comm _ _ hw, ih, List.set_comm _ _ hw]
      exact key vs
theorem wipe_idem (σ : L2.St) (vs : List Nat) : wipe (wipe σ vs) vs = wipe σ vs := by
  have key : ∀ ws : List Nat, (∀ i ∈ ws, i ∈ vs) → wipe (wipe σ ws) vs = wipe σ vs := by
    intro ws
    induction ws with
    | nil => intro _; rfl
    | cons w ws ih =>
      intro h
      show wipe ((wipe σ ws).set w none) vs = _
      rw [wipe_at (h w (List.mem_cons_self ..))]
      exact ih fun i hi => h i (List.mem_cons_of_mem _ hi)
  exact key vs fun _ h => h
theorem tg_name {i : Nat} {d : DD} : TgD T (gName i) d [i] δ (δ.set i (some d)) := fun v σ G H o dv Q q =>
  q _ ⟨o.s, o.t, o.e.set i dv, o.nt⟩ fun vs h => wipe_at (h i (List.mem_singleton.mpr rfl))
theorem tg_pair {i j : Nat} {a b : DD} : TgD T (gTup K 2 (gCons (gName i) (gCons (gName j) gNil))) (.tuple [a, b]) [i, j] δ ((δ.set i (some a)).set j (some b)) := fun v σ G H o dv Q q => by
  cases dv with
  | tup hp hd =>
    cases hd with
    | cons h1 h2 =>
      cases h2 with
      | cons h2 h3 =>
        cases h3
        refine ⟨_, _, rfl, SqT.of (o.s _ _ hp), rfl, _, _, rfl, _, _, rfl, rfl, ?_⟩
        exact q _ ⟨o.s, o.t, (o.e.set i h1).set j h2, o.nt⟩ fun vs h => by
          rw [wipe_at (h j (by simp)), wipe_at (h i (by simp))]
/-! ### list comprehensions -/
/-- makes a new list: no one holds it yet -/
def NL (T : Tb) (te : TE) (δ : Dl) (ds : List DD) : Prop := ∀ (σ : L2.St) (G H : Hp), Ok T σ δ G H → ∀ Q : VK,
  (∀ (p : Addr) (vs : List V) (G2 H2 : Hp), Step T G H G2 H2 → H p = none → G2 p = none → H2 p = some (.lst vs) → DqAll G2 vs ds → Q (.ref p) H2) → te σ H Q
theorem NL.ed (h : NL T te δ ds) : ED T te δ (.list ds) := fun σ G H o Q q => h σ G H o Q fun p vs G2 H2 st hp gp h2 hd =>
  q _ _ _ (st.freeze h2 gp hp) (.lst upd_same (dqa_mono (fun b u e => by rw [upd_ne (ne_of_none e gp)]; exact e) _ _ hd))
theorem nl_lcJ {α : Type} {J : It} {g : TG} {tt : TT} {vs : List Nat} (xs : List α) (enc : α → DD) (p0 : α → Bool) (F : α → DD) {σ : L2.St} {G1 H1 : Hp} (o1 : Ok T σ δ G1 H1) (it : ItD T J (xs.map enc) G1) (hl : xs.length ≤ 1000000)
    (ht : ∀ x ∈ xs, ∃ (tch : List Nat) (δ' : Dl), (∀ i ∈ tch, i ∈ vs) ∧ TgD T g (enc x) tch (wipeD δ vs) δ' ∧ ET T tt δ' (p0 x) ∧ (p0 x = true → ED T te δ' (F x))) 
    {Q : VK} (q : ∀ (p : Addr) (vs : List V) (G2 H2 : Hp), Step T G1 H1 G2 H2 → H1 p = none → G2 p = none → H2 p = some (.lst vs) → DqAll G2 vs ((xs.filter p0).map F) → Q (.ref p) H2) : tLc (fun _ H R => R J H) g tt te vs σ H1 Q := fun D hD => by
    have gD : G1 D = none := o1.s.free hD
    refine ⟨fun i m H' => m = xs.length - i ∧ i ≤ xs.length ∧ ∃ G' acc, Step T G1 H1 G' H' ∧ H' D = some (.lst acc) ∧ G' D = none ∧ DqAll G' acc (((xs.take i).filter p0).map F),
      ⟨xs.length, by simp, Nat.zero_le _, G1, [], Step.newM o1.s hD, upd_same, gD, by simpa using DqAll.nil⟩, ?_⟩
    rintro i m H' ⟨rfl, hi', G', acc, st, hDl, gDn, hacc⟩
    have itI := it i G' H' st.gg st.gh (st.tt o1.t)
    by_cases hlt : i < xs.length
    · have ex : (xs.map enc)[i]? = some (enc xs[i]) := by rw [List.getElem?_map, List.getElem?_eq_getElem hlt]; rfl
      obtain ⟨go, yl⟩ := itI.1 _ ex
      refine .inr ⟨go, fun H'' => i + 1 ≤ xs.length ∧ ∃ G' acc, Step T G1 H1 G' H'' ∧ H'' D = some (.lst acc) ∧ G' D = none ∧ DqAll G' acc (((xs.take (i + 1)).filter p0).map F), fun H'' hN => ⟨xs.length - (i + 1), by omega, rfl, hN.1, hN.2⟩, fun x H2 hy => ?_⟩
      obtain ⟨G2, st2, dx⟩ := yl x H2 hy
      obtain ⟨tch, δ', hsub, tg, tst, elt⟩ := ht xs[i] (List.getElem_mem hlt)
      have o2 : Ok T (wipe σ vs) (wipeD δ vs) G2 H2 := ⟨st2.gh, st2.tt (st.tt o1.t), ((o1.e.mono st.gg).mono st2.gg).wipe vs, ((o1.step st).step st2).nt⟩
      have etake : xs.take (i + 1) = xs.take i ++ [xs[i]] := by rw [List.take_add_one, List.getElem?_eq_getElem hlt]; rfl
      refine tg x _ G2 H2 o2 dx _ fun σ2 o3 hw => ⟨by rw [hw vs hsub, wipe_idem], ?_⟩
      refine tst σ2 G2 H2 o3 _ fun G3 H3 st3 => ?_
      have s13 := (st.trans st2).trans st3
      have hD3 : H3 D = some (.lst acc) := st3.keepL (st2.keepL hDl)
      have gD3 : G3 D = none := st3.keepN (st2.keepN gDn hDl) (st2.keepL hDl)
      cases hp : p0 xs[i] with
      | false =>
        rw [if_neg (by decide)]
        refine ⟨hlt, G3, acc, s13, hD3, gD3, ?_⟩
        rw [etake, List.filter_append, List.filter_cons, hp]
        simp only [Bool.false_eq_true, if_false, List.filter_nil, List.append_nil]
        exact dqa_mono (st2.gg.trans st3.gg) _ _ hacc
      | true =>
        rw [if_pos rfl]
        refine elt hp σ2 G3 H3 (o3.step st3) _ fun y G4 H4 st4 dy => ?_
        have hD4 : H4 D = some (.lst acc) := st4.keepL hD3
        have gD4 : G4 D = none := st4.keepN gD3 hD3
        have hal : acc.length ≤ i := by
          rw [dqa_len hacc, List.length_map]
          exact Nat.le_trans (List.length_filter_le _ _) (by rw [List.length_take]; exact Nat.min_le_left _ _)
        refine ⟨acc, hD4, Nat.lt_of_le_of_lt (Nat.le_trans hal (Nat.le_trans hi' hl)) (by decide), hlt, G4, acc ++ [y], (s13.trans st4).mutL hD4 gD4 hD, upd_same, gD4, ?_⟩
        rw [etake, List.filter_append, List.filter_cons, hp]
        simp only [if_true, List.filter_nil, List.map_append, List.map_cons, List.map_nil]
        exact dqa_app (dqa_mono ((st2.gg.trans st3.gg).trans st4.gg) _ _ hacc) (.cons dy .nil)
    · have e : i = xs.length := by omega
      subst e
      refine .inl ⟨itI.2 (by rw [List.length_map]), ?_⟩
      rw [List.take_length] at hacc
      exact q D acc _ _ st hD gDn hDl hacc
theorem nl_lc {α : Type} {wi : TI} {g : TG} {tt : TT} {vs : List Nat} (xs : List α) (enc : α → DD) (p : α → Bool) (F : α → DD) (hi : ID T wi δ (xs.map enc)) (hl : xs.length ≤ 1000000)
    (ht : ∀ x ∈ xs, ∃ (tch : List Nat) (δ' : Dl), (∀ i ∈ tch, i ∈ vs) ∧ TgD T g (enc x) tch (wipeD δ vs) δ' ∧ ET T tt δ' (p x) ∧ (p x = true → ED T te δ' (F x))) : NL T (tLc wi g tt te vs) δ ((xs.filter p).map F) := fun σ G H o Q q =>
  hi σ G H o _ fun J G1 H1 s1 it => nl_lcJ (Q := Q) xs enc p F (o.step s1) it hl ht fun p vs G2 H2 st hn => q p vs G2 H2 (s1.trans st) (s1.nn _ hn)
theorem ed_lc {α : Type} {wi : TI} {g : TG} {tt : TT} {vs : List Nat} (xs : List α) (enc : α → DD) (p : α → Bool) (F : α → DD) (hi : ID T wi δ (xs.map enc)) (hl : xs.length ≤ 1000000)
    (ht : ∀ x ∈ xs, ∃ (tch : List Nat) (δ' : Dl), (∀ i ∈ tch, i ∈ vs) ∧ TgD T g (enc x) tch (wipeD δ vs) δ' ∧ ET T tt δ' (p x) ∧ (p x = true → ED T te δ' (F x))) : ED T (tLc wi g tt te vs) δ (.list ((xs.filter p).map F)) := (nl_lc xs enc p F hi hl ht).ed
/-- without a test -/
theorem ed_lc1 {α : Type} {wi : TI} {g : TG} {vs : List Nat} (xs : List α) (enc : α → DD) (F : α → DD) (hi : ID T wi δ (xs.map enc)) (hl : xs.length ≤ 1000000)
    (ht : ∀ x ∈ xs, ∃ (tch : List Nat) (δ' : Dl), (∀ i ∈ tch, i ∈ vs) ∧ TgD T g (enc x) tch (wipeD δ vs) δ' ∧ ED T te δ' (F x)) : ED T (tLc wi g tYes te vs) δ (.list (xs.map F)) := by
  have h := ed_lc (te := te) (tt := tYes) xs enc (fun _ => true) F hi hl fun x hx => by
    obtain ⟨tch, δ', h1, h2, h3⟩ := ht x hx
    exact ⟨tch, δ', h1, h2, et_yes, fun _ => h3⟩
  rw [List.filter_eq_self.mpr (fun _ _ => rfl)] at h
  exact h
theorem nl_lc1 {α : Type} {wi : TI} {g : TG} {vs : List Nat} (xs : List α) (enc : α → DD) (F : α → DD) (hi : ID T wi δ (xs.map enc)) (hl : xs.length ≤ 1000000)
    (ht : ∀ x ∈ xs, ∃ (tch : List Nat) (δ' : Dl), (∀ i ∈ tch, i ∈ vs) ∧ TgD T g (enc x) tch (wipeD δ vs) δ' ∧ ED T te δ' (F x)) : NL T (tLc wi g tYes te vs) δ (xs.map F) := by
  have h := nl_lc (te := te) (tt := tYes) xs enc (fun _ => true) F hi hl fun x hx => by
    obtain ⟨tch, δ', h1, h2, h3⟩ := ht x hx
    exact ⟨tch, δ', h1, h2, et_yes, fun _ => h3⟩
  rw [List.filter_eq_self.mpr (fun _ _ => rfl)] at h
  exact h
theorem nl_lst {tr : TA} (ha : EA T tr δ ds) (hl : ds.length ≤ 1000000) : NL T (tLst tr) δ ds := fun σ G H o Q q =>
  ha σ G H o _ fun vs G1 H1 s1 d1 => ⟨by rw [dqa_len d1]; exact Nat.le_trans hl (by decide), fun p hp => q p vs G1 _ (s1.trans (Step.newM s1.gh hp)) (s1.nn _ hp) (s1.gh.free hp) upd_same d1⟩
theorem nl_cat (ha : ED T te δ (.list ds)) (hb : ED T tb δ (.list es)) (hl : ds.length + es.length ≤ 1000000) : NL T (tOp rCat te tb) δ (ds ++ es) := fun σ G H o Q q =>
  ha σ G H o _ fun v G1 H1 s1 d1 => hb σ G1 H1 (o.step s1) _ fun w G2 H2 s2 d2 => by
    have d1 := dq_mono s2.gg _ _ d1
    cases d1 with
    | lst hp hd =>
      cases d2 with
      | lst hp' he =>
        have st := s1.trans s2
        refine ⟨_, _, _, _, rfl, rfl, st.gh _ _ hp, st.gh _ _ hp', by rw [dqa_len hd, dqa_len he]; exact Nat.le_trans hl (by decide), fun p hn => ?_⟩
        exact q p _ G2 _ (st.trans (Step.newM st.gh hn)) (st.nn _ hn) (st.gh.free hn) upd_same (dqa_app hd he)
end
end Sh
-- Sh3
set_option maxRecDepth 100000
set_option maxHeartbeats 4000000
/-! statements, promises, at data -/
namespace Sh
open PySem PySem.Spec PyProof.Rows L2 RZ

/-- a statement's reading from data to data -/
def SD (T : Tb) (ts : TS) (δ : Dl) (nx : Dl → Prop) (rt : DD → Prop) : Prop := ∀ (σ : L2.St) (G H : Hp), Ok T σ δ G H → ∀ D : Ends,
  (∀ (σ' : L2.St) (δ' : Dl) (G2 H2 : Hp), nx δ' → Step T G H G2 H2 → Ok T σ' δ' G2 H2 → D.nx σ' H2) →
  (∀ (d : DD) (v : V) (G2 H2 : Hp), rt d → Step T G H G2 H2 → Dq G2 v d → D.rt v H2) → ts D σ H
section
variable {T : Tb} {δ δ' : Dl} {te ta : TE} {t u : TS} {nx nx' : Dl → Prop} {rt : DD → Prop} {d e : DD} {g : TG} {tch : List Nat}
theorem SD.mono (h : SD T t δ nx rt) (hn : ∀ δ', nx δ' → nx' δ') : SD T t δ nx' rt := fun σ G H o D hx hr => h σ G H o D (fun σ' δ' G2 H2 n st ok => hx σ' δ' G2 H2 (hn _ n) st ok) hr
theorem sd_next (h : nx δ) : SD T tNext δ nx rt := fun σ G H o D hx hr => hx σ δ G H h (Step.refl o.s) o
theorem sd_seq (h : SD T t δ (fun δ' => SD T u δ' nx rt) rt) : SD T (tSeq t u) δ nx rt := fun σ G H o D hx hr =>
  h σ G H o { D with nx := u D } (fun σ' δ' G2 H2 hu st ok => hu σ' G2 H2 ok D (fun σ'' δ'' G3 H3 n s3 ok3 => hx σ'' δ'' G3 H3 n (st.trans s3) ok3) fun d v G3 H3 r s3 dv => hr d v G3 H3 r (st.trans s3) dv) hr
theorem sw_asg {post : DD → Prop} (h : EW T te δ post) (hn : ∀ d, post d → ∃ tch δ', TgD T g d tch δ δ' ∧ nx δ') : SD T (tAsg te g) δ nx rt := fun σ G H o D hx hr =>
  h σ G H o _ fun d v G1 H1 hp s1 d1 => by
    obtain ⟨tch, δ', tg, n⟩ := hn d hp
    exact tg v σ G1 H1 (o.step s1) d1 _ fun σ' o' _ => hx σ' δ' G1 H1 n s1 o'
theorem sd_asg (h : ED T te δ d) (tg : TgD T g d tch δ δ') (n : nx δ') : SD T (tAsg te g) δ nx rt := sw_asg h.ew fun d' e' => ⟨tch, δ', by rw [e']; exact tg, n⟩
theorem sd_set {i : Nat} (h : ED T te δ d) (n : nx (δ.set i (some d))) : SD T (tAsg te (gName i)) δ nx rt := sd_asg h tg_name n
theorem sd_par {i j : Nat} {ta : TA} (h : EA T ta δ [d, e]) (n : nx ((δ.set i (some d)).set j (some e))) : SD T (tPar i j ta) δ nx rt := fun σ G H o D hx hr =>
  h σ G H o _ fun vs G1 H1 s1 d1 => by
    cases d1 with
    | cons h1 h2 =>
      cases h2 with
      | cons h2 h3 =>
        cases h3
        exact ⟨_, _, rfl, hx _ _ G1 H1 n s1 ⟨s1.gh, s1.tt o.t, ((o.e.mono s1.gg).set i h1).set j h2, (o.step s1).nt⟩⟩
theorem sw_ret {post : DD → Prop} (h : EW T te δ post) (n : ∀ d, post d → rt d) : SD T (tRet te) δ nx rt := fun σ G H o D hx hr => h σ G H o _ fun d v G1 H1 hp s1 d1 => hr d v G1 H1 (n d hp) s1 d1
theorem sd_ret (h : ED T te δ d) (n : rt d) : SD T (tRet te) δ nx rt := sw_ret h.ew fun d' e' => by rw [e']; exact n
theorem sd_drop (h : ED T te δ d) (n : nx δ) : SD T (tDrop te) δ nx rt := fun σ G H o D hx hr => h σ G H o _ fun v G1 H1 s1 d1 => hx σ δ G1 H1 n s1 (o.step s1)
theorem sd_if {c : TT} {b : Bool} (hc : ET T c δ b) (h1 : b = true → SD T t δ nx rt) (h2 : b = false → SD T u δ nx rt) : SD T (tIfS c t u) δ nx rt := fun σ G H o D hx hr =>
  hc σ G H o _ fun G1 H1 s1 => by
    cases b with
    | true => exact h1 rfl σ G1 H1 (o.step s1) D (fun σ' δ' G2 H2 n s2 ok => hx σ' δ' G2 H2 n (s1.trans s2) ok) fun d v G2 H2 r s2 dv => hr d v G2 H2 r (s1.trans s2) dv
    | false => exact h2 rfl σ G1 H1 (o.step s1) D (fun σ' δ' G2 H2 n s2 ok => hx σ' δ' G2 H2 n (s1.trans s2) ok) fun d v G2 H2 r s2 dv => hr d v G2 H2 r (s1.trans s2) dv
theorem sd_aug {i : Nat} {ti : TIp} {f : DD} (hv : δ[i]? = some (some d)) (h : ED T te δ e) (hr0 : RD T ti d e f) (n : nx (δ.set i (some f))) : SD T (tAug i te ti) δ nx rt := fun σ G H o D hx hr => by
  obtain ⟨x, h1, h2⟩ := o.e.2 i d hv
  refine ⟨x, h1, h σ G H o _ fun y G1 H1 s1 d1 => ?_⟩
  refine hr0 G1 H1 x y s1.gh (s1.tt o.t) (dq_mono s1.gg _ _ h2) d1 _ fun z G2 H2 s2 d2 => ?_
  exact hx _ _ G2 H2 n (s1.trans s2) ⟨s2.gh, s2.tt (s1.tt o.t), ((o.e.mono s1.gg).mono s2.gg).set i d2, ((o.step s1).step s2).nt⟩
/-- for, over known items -/
theorem sd_for {α : Type} {wi : TI} {tb : TS} (xs : List α) (enc : α → DD) (hi : ID T wi δ (xs.map enc)) (Iv : Nat → Dl → Prop) (h0 : Iv 0 δ)
    (hs : ∀ (i : Nat) (x : α) (δ1 : Dl), xs[i]? = some x → Iv i δ1 → ∃ tch δ2, TgD T g (enc x) tch δ1 δ2 ∧ SD T tb δ2 (Iv (i + 1)) rt) (hd : ∀ δ1, Iv xs.length δ1 → nx δ1) : SD T (tFor wi g tb) δ nx rt := fun σ G H o D hx hr =>
  hi σ G H o _ fun J G1 H1 s1 it => by
    have o1 := o.step s1
    refine ⟨fun i m σ' H' => m = xs.length - i ∧ i ≤ xs.length ∧ ∃ G' δ', Step T G1 H1 G' H' ∧ Ok T σ' δ' G' H' ∧ Iv i δ', ⟨xs.length, by simp, Nat.zero_le _, G1, δ, Step.refl s1.gh, o1, h0⟩, ?_⟩
    rintro i m σ' H' ⟨rfl, hi', G', δ', st, ok, iv⟩
    have itI := it i G' H' st.gg st.gh ok.t
    by_cases hlt : i < xs.length
    · have ex : (xs.map enc)[i]? = some (enc xs[i]) := by rw [List.getElem?_map, List.getElem?_eq_getElem hlt]; rfl
      obtain ⟨go, yl⟩ := itI.1 _ ex
      refine .inr ⟨go, fun σ'' H'' => i + 1 ≤ xs.length ∧ ∃ G' δ', Step T G1 H1 G' H'' ∧ Ok T σ'' δ' G' H'' ∧ Iv (i + 1) δ', fun σ'' H'' hN => ⟨xs.length - (i + 1), by omega, rfl, hN.1, hN.2⟩, fun x H2 hy => ?_⟩
      obtain ⟨G2, st2, dx⟩ := yl x H2 hy
      obtain ⟨tch, δ2, tg, sb⟩ := hs i xs[i] δ' (List.getElem?_eq_getElem hlt) iv
      refine tg x σ' G2 H2 (ok.step st2) dx _ fun σ2 o2 _ => ?_
      refine sb σ2 G2 H2 o2 _ (fun σ3 δ3 G3 H3 n s3 ok3 => ⟨hlt, G3, δ3, (st.trans st2).trans s3, ok3, n⟩) fun d v G3 H3 r s3 dv => ?_
      exact hr d v G3 H3 r (((s1.trans st).trans st2).trans s3) dv
    · have e : i = xs.length := by omega
      subst e
      exact .inl ⟨itI.2 (by rw [List.length_map]), hx σ' δ' G' H' (hd δ' iv) (s1.trans st) ok⟩
/-- while, by a measure -/
theorem sd_while {c : TT} {tb : TS} (Iv : Nat → Dl → Prop) (m0 : Nat) (h0 : Iv m0 δ)
    (hs : ∀ (m : Nat) (δ1 : Dl), Iv m δ1 → ∃ b, ET T c δ1 b ∧ (b = true → SD T tb δ1 (fun δ2 => ∃ m', m' < m ∧ Iv m' δ2) rt) ∧ (b = false → nx δ1)) : SD T (tWhile c tb) δ nx rt := fun σ G H o D hx hr => by
  refine ⟨fun m σ' H' => ∃ G' δ', Step T G H G' H' ∧ Ok T σ' δ' G' H' ∧ Iv m δ', ⟨m0, G, δ, Step.refl o.s, o, h0⟩, ?_⟩
  rintro m σ' H' ⟨G', δ', st, ok, iv⟩
  obtain ⟨b, hc, h1, h2⟩ := hs m δ' iv
  refine hc σ' G' H' ok _ fun G1 H1 s1 => ?_
  cases b with
  | true =>
    rw [if_pos rfl]
    refine ⟨fun σ2 H2 => ∃ m', m' < m ∧ ∃ G' δ', Step T G H G' H2 ∧ Ok T σ2 δ' G' H2 ∧ Iv m' δ', fun σ2 H2 ⟨m', hm, w⟩ => ⟨m', hm, w⟩, ?_⟩
    refine h1 rfl σ' G1 H1 (ok.step s1) _ (fun σ3 δ3 G3 H3 n s3 ok3 => ?_) fun d v G3 H3 r s3 dv => hr d v G3 H3 r ((st.trans s1).trans s3) dv
    obtain ⟨m', hm, iv'⟩ := n
    exact ⟨m', hm, G3, δ3, (st.trans s1).trans s3, ok3, iv'⟩
  | false =>
    rw [if_neg (by decide)]
    exact hx σ' δ' G1 H1 (h2 rfl) (st.trans s1) (ok.step s1)
end
/-! ### promises -/
/-- called with such data; what is promised of the answer -/
def spD (T : Tb) (R : List DD → (DD → Prop) → Prop) : Sp := fun vs H Q _ => ∃ (G : Hp) (ds : List DD) (post : DD → Prop), Same G H ∧ NdefX.TabsN T H ∧ (∀ b ps, G b ≠ some (.tbl ps)) ∧ DqAll G vs ds ∧ R ds post ∧
  ∀ (d : DD) (v : V) (G2 H2 : Hp), post d → Step T G H G2 H2 → Dq G2 v d → Q v H2
section
variable {T : Tb} {δ : Dl} {ta : TA} {ds : List DD} {d : DD} {R : List DD → (DD → Prop) → Prop} {post : DD → Prop} {E : XK}
theorem ew_call (h : EA T ta δ ds) (hr : R ds post) : EW T (tCall (spD T R) [] E ta) δ post := fun σ G H o Q q =>
  h σ G H o _ fun vs G1 H1 s1 d1 => ⟨G1, ds, post, s1.gh, s1.tt o.t, (o.step s1).nt, by rw [List.append_nil]; exact d1, hr, fun d v G2 H2 hp s2 d2 => q d v G2 H2 hp (s1.trans s2) d2⟩
theorem ed_call (h : EA T ta δ ds) (hr : R ds (fun x => x = d)) : ED T (tCall (spD T R) [] E ta) δ d := fun σ G H o Q q =>
  ew_call h hr σ G H o Q fun d' v G2 H2 e st dv => q v G2 H2 st (by rw [← e]; exact dv)
end
def startD (N : List Str) (ds : List DD) : Dl := ds.map some ++ List.replicate (N.length - ds.length) none
theorem startD_ok {G : Hp} {N : List Str} {vs : List V} {ds : List DD} (h : DqAll G vs ds) : EnvD G (start N vs) (startD N ds) := by
  have hl := dqa_len h
  refine ⟨by unfold L2.start startD; simp [hl], fun i d e => ?_⟩
  unfold startD at e
  by_cases hi : i < ds.length
  · rw [List.getElem?_append_left (by simpa using hi), List.getElem?_map] at e
    cases q : ds[i]? with
    | none => rw [q] at e; cases e
    | some d' =>
      rw [q] at e
      cases e
      obtain ⟨v, h1, h2⟩ := dqa_get2 h q
      refine ⟨v, ?_, h2⟩
      unfold L2.start
      rw [List.getElem?_append_left (by simpa [hl] using hi), List.getElem?_map, h1]
      rfl
  · rw [List.getElem?_append_right (by simpa using hi), List.getElem?_replicate] at e
    split at e <;> cases e
/-- a def of the text by its number: its name, itself -/
abbrev FnP (K : PySem.W.Frag) (x : Str) (st : Stmt) (f : Addr) (fd : FuncData) : Prop := FunD K x x (defArgs st) (defBody st) (defScope st) [] [] f fd
/-- THE RULE: a def that raises nothing, by its body's reading at data -/
theorem fn_d {P : Program} {w : World} {K : PySem.W.Frag} {mg : Str → Option Value} {base : Heap} {T : Tb} {x : Str} {st : Stmt} {f : Addr} {fd : FuncData} {N ps : List Str} {k : Nat} {R : List DD → (DD → Prop) → Prop}
    (F : FnP K x st f fd) (S : FnScope N ps (defScope st)) (hl : ∀ ds post, R ds post → ds.length = ps.length)
    (hb : ∀ (cdv : Value) (A : Around) (outer : List Env) (s : Shared) (H : Hp) (E : XK), Room k (A.deeper (envOfC x (defScope st) s.heap.objs.size f cdv)) →
      ∃ t, PSs (cxOf CX0 P w K mg base N x (defScope st) f cdv A outer s H E).nox (defBody st) t ∧ ∀ ds post, R ds post → SD T t (startD N ds) (fun _ => post .none) post) :
    FnOk P w K mg base CX0 (k + 1) f fd ps (spD T R) := by
  refine F.ok S (fun vs H Q E h => ?_) (fun cdv A outer s H vs Q E hr h => ?_)
  · obtain ⟨G, ds, post, _, _, _, hd, hR, _⟩ := h
    rw [dqa_len hd]
    exact hl ds post hR
  · obtain ⟨G, ds, post, hs, ht, hnt, hd, hR, q⟩ := h
    obtain ⟨t, h1, h2⟩ := hb cdv A outer s H E hr
    refine ⟨t, PSs.nox h1, h2 ds post hR _ G H ⟨hs, ht, startD_ok hd, hnt⟩ _ (fun σ' δ' G2 H2 hp s2 ok => ?_) fun d v G2 H2 hp s2 dv => ?_⟩
    · exact q .none .non G2 H2 hp s2 .non
    · exact q d v G2 H2 hp s2 dv
end Sh
-- Sh4
set_option maxRecDepth 100000
set_option maxHeartbeats 4000000
/-! own rules of operators; the row's text; a def known by name -/
namespace Sh
open PySem PySem.Spec PyProof.Rows L2 RZ
open C8 (Cal pe_c)

def top (i : Nat) : Stmt := PySem.Challenge.pw_sharesuntold_k34_whole_told_hours_and_wa.main.body.getD i (.Pass ⟨0, 0, 0, 0⟩)
/-- a divisor that is not nothing, below 2 ^ 9000 -/
def CDivB (_ j : Int) : Prop := j ≠ 0 ∧ j.natAbs.log2 < 9000
section
variable {X : Cx}
theorem op_mulB : OpR X (binaryOp .Mult) (rI IntMulOk fun i j => .int (i * j)) := opI fun _ _ _ _ _ _ _ hc q => mul_int q hc
theorem iop_mulB : OpR X (inplaceOp .Mult) (rI IntMulOk fun i j => .int (i * j)) := opI fun _ _ _ _ _ _ _ hc q => imul_int q hc
theorem op_fdivB : OpR X (binaryOp .FloorDiv) (rI CDivB fun i j => .int (i.fdiv j)) := opI fun _ _ _ _ _ _ _ hc q => floordiv_int hc.1 q (.inl (PyProof.noPylong_of_log2 hc.2))
def rDvm : List V → Hp → VK → Prop := fun xs H Q => ∃ i j, xs = [.int i, .int j] ∧ CDivB i j ∧ ∀ p, H p = none → Q (.ref p) (upd H p (.tup [.int (i.fdiv j), .int (i.fmod j)]))
theorem cr_divmod : CallR X (.builtin "divmod") rDvm := by
  intro pins s σ H xs us Q I r h
  obtain ⟨i, j, rfl, ⟨h1, h2⟩, q⟩ := h
  obtain ⟨u, w', rfl, ⟨t, rfl⟩, ⟨t', rfl⟩⟩ := vals2 r
  refine divmod_int h1 ?_ (.inl (PyProof.noPylong_of_log2 h2))
  have hn : H s.heap.objs.size = none := I.hok.fresh (Nat.le_refl _)
  refine ⟨.ref s.heap.objs.size, _, ?_, rfl, q _ hn⟩
  refine I.laid (fun b o e => Heap.get?_push_of_some _ e) (Nat.le_refl _) ⟨by simp only [List.length_cons, List.length_nil]; rw [sizeLine_eq]; decide, [.int (i.fdiv j) s.toks, .int (i.fmod j) (s.toks + 1)], .cons ⟨_, rfl⟩ (.cons ⟨_, rfl⟩ .nil), ?_⟩
  exact ⟨_, Heap.get?_push_size s.heap rfl, rfl, 0, rfl⟩
/-- a tuple times 1 is itself -/
theorem tuple_mul1 (l : Addr) (items : Array Value) (n : Nat) (dd : Option Addr) (sl : Array (Option Value)) (u : Tok) :
    Meets (Builtin.«tuple.__mul__» ⟨[.ref l, .int 1 u], []⟩) (fun _ R s => s.heap.get? l = some { cls := .type "tuple", dict := dd, data := .seq items n, slots := sl } ∧ R (.ok (.ret (Value.ref l))) s) :=
  .of_wp fun prog w A R s h => by
    obtain ⟨hp, g, d, tk, os⟩ := s
    obtain ⟨hl, h⟩ := h
    have f1 := AutoSeq1.idx_int
    have c1 : (items.isEmpty || (1 : Int) == 1) = true := by simp
    wp_walk using wpAny_loadPart' hl
    repeat (first
      | (refine wpAny_ite_true (decide_eq_true c1) ?_; wp_walk using wpAny_loadPart' hl)
      | (refine wpAny_ite_false (decide_eq_false (by decide)) ?_; wp_walk using wpAny_loadPart' hl))
    exact ⟨_, rfl, h⟩
def rRepZ (K : PySem.W.Frag) : R2 := fun x y H Q => ∃ l k xs, x = .ref l ∧ y = .int k ∧ SqT K H l xs ∧ xs ≠ [] ∧ 1 ≤ k ∧ k ≤ 1000 ∧ xs.length ≤ 1000 ∧ (k = 1 → Q (.ref l) H) ∧ (2 ≤ k → ∀ p, H p = none → Q (.ref p) (upd H p (.tup (List.replicate k.toNat xs).flatten)))
theorem op_repZ : OpR X (binaryOp .Mult) (rRepZ X.K) := by
  intro pins s σ H x y v u Q I rx ry h
  obtain ⟨l, k, xs, rfl, rfl, hT, hne, h1, h2, hz, q1, q2⟩ := h
  by_cases hk : k = 1
  · subst hk
    cases rx
    obtain ⟨t, rfl⟩ := ry
    obtain ⟨its, r, ⟨⟨cls, dd, data, sl⟩, ho, hc, n, hd⟩, hs⟩ := I.tuple hT
    simp only at hc hd
    subst hc hd
    refine wpAny_binaryOp_repeat_ref (T := "tuple") (U := "int") (by decide) ⟨_, ho, rfl⟩ (fun s' => typeIs_int s' 1 t) noFill_tuple_mul F.fills_int_mul F.slot_int_rmul repeat_tuple F.slot_int_index.lookup
      (call_meets F.slot_int_rmul (typeIs_int s 1 t) F.entry_int_rmul (F.args_int_rmul_2 _ _) (int_rmul_tuple 1 t l its.toArray n dd sl)
        ⟨ho, rfl, ⟨_, ho, rfl⟩, call_meets F.slot_tuple_mul ⟨_, ho, rfl⟩ F.entry_tuple_mul (F.args_tuple_mul_2 _ _) (tuple_mul1 l its.toArray n dd sl t) ⟨ho, ?_⟩⟩)
    exact ⟨.ref l, H, I, rfl, q1 rfl⟩
  · exact op_repT pins s σ H _ _ v u Q I rx ry ⟨l, k, xs, rfl, rfl, hT, hne, by omega, h2, hz, q2 (by omega)⟩
end
section
variable {T : Tb} {K : PySem.W.Frag}
theorem rd_repZ {n : Int} (h1 : 1 ≤ n) (h2 : n ≤ 1000) : RD T (rRepZ K) (.tuple [.int 0]) (.int n) (.tuple ((List.replicate n.toNat (0 : Int)).map PyData.int)) := fun G H x y s _ dx dy Q q => by
  cases dy
  cases dx with
  | tup hp hd =>
    cases hd with
    | cons a b =>
      cases b
      cases a
      refine ⟨_, n, _, rfl, rfl, SqT.of (s _ _ hp), by simp, h1, h2, by simp, fun e => ?_, fun _ p hn => ?_⟩
      · subst e
        exact q _ G H (Step.refl s) (.tup hp (.cons (.int 0) .nil))
      · have e : (List.replicate n.toNat [V.int 0]).flatten = (List.replicate n.toNat (0 : Int)).map V.int := by
          generalize n.toNat = m
          induction m with
          | zero => rfl
          | succ m ih =>
            rw [List.replicate_succ, List.flatten_cons, ih, List.replicate_succ]
            rfl
        rw [e]
        exact new_t s hn (dqa_ints _) q
theorem rc_dvm {i j : Int} (h : CDivB i j) : RC T rDvm [.int i, .int j] (.tuple [.int (i.fdiv j), .int (i.fmod j)]) := fun G H xs s _ dx Q q => by
  cases dx with
  | cons a b =>
    cases b with
    | cons b c =>
      cases c
      cases a
      cases b
      exact ⟨i, j, rfl, h, fun p hn => new_t s hn (.cons (.int _) (.cons (.int _) .nil)) q⟩
end
/-! ### the rules that name K, with K told -/
section
variable {X : Cx} {K : PySem.W.Frag}
theorem k_ix (hK : X.K = K) : IxR X (rIx K) := by subst hK; exact ix_seq
theorem k_sll (hK : X.K = K) : SlR X (rSlL K) := by subst hK; exact sl_list
theorem k_slt (hK : X.K = K) : SlR X (rSlA K) := by subst hK; exact sl_tupA
theorem k_catT (hK : X.K = K) : OpR X (binaryOp .Add) (rCatA K) := by subst hK; exact op_catA
theorem k_rep (hK : X.K = K) : OpR X (binaryOp .Mult) (rRepZ K) := by subst hK; exact op_repZ
theorem k_eqD (hK : X.K = K) (hu : X.A.units + 64 < cLine) : OpR X (compareOp .Eq) (rEqD K) := by subst hK; exact op_eqD hu
theorem k_neD (hK : X.K = K) (hu : X.A.units + 64 < cLine) : OpR X (compareOp .NotEq) (rNeD K) := by subst hK; exact op_neD hu
theorem k_tupOf (hK : X.K = K) : CallR X (.type "tuple") (rTupOf K) := by subst hK; exact cr_tup
theorem k_lstOf (hK : X.K = K) : CallR X (.type "list") (rLstOf K) := by subst hK; exact cr_lst
theorem k_len (hK : X.K = K) : CallR X (.builtin "len") (rLenOf K) := by subst hK; exact cr_len
theorem k_sum (hK : X.K = K) (hc : X.calm = true) : CallR X (.builtin "sum") (rSum K) := by subst hK; exact cr_sum hc
theorem k_all (hK : X.K = K) (hc : X.calm = true) : CallR X (.builtin "all") (rAll K) := by subst hK; exact cr_all hc
theorem k_any (hK : X.K = K) (hc : X.calm = true) : CallR X (.builtin "any") (rAny K) := by subst hK; exact cr_any hc
theorem k_isi (hK : X.K = K) : CallR X (.builtin "isinstance") (rIsi K) := by subst hK; exact call_isi
theorem k_isiT (hK : X.K = K) : CallR X (.builtin "isinstance") (rIsiT K) := by subst hK; exact call_isiT
theorem k_list {tg l : Expr} {tl : TE} (hK : X.K = K) (hl : PE X l tl) : PI X tg l (iList K tl) := by subst hK; exact pi_list hl
theorem k_tup {tg l : Expr} {tl : TE} (hK : X.K = K) (hl : PE X l tl) : PI X tg l (iTup K tl) := by subst hK; exact pi_tup hl
theorem k_zip {e e2 : Expr} {ta : TA} {p pos tpos : Pos} {elts : List Expr} {kk : Nat} (hK : X.K = K) (hg : Gl X "zip") (hm : X.mg "zip" = none) (ha : PA X [e, e2] ta)
    (hs : starEach [e, e2] X.env = (false, eval e X.env) :: starEach [e2] X.env := by rfl) (hpl : (backTo pos (starEach [e2] X.env)).any (·.1) = false := by rfl) :
    PI X (.Tuple elts kk tpos) (.Call (.Name "zip" p) [e, e2] [] pos) (iZipA K ta) := by subst hK; exact pi_zipA hg hm ha hs hpl
theorem k_enumL {e : Expr} {ta : TA} {p pos tpos : Pos} {elts : List Expr} {kk : Nat} (hK : X.K = K) (hg : Gl X "enumerate") (hm : X.mg "enumerate" = none) (ha : PA X [e] ta) (hs : starEach [e] X.env = [(false, eval e X.env)] := by rfl) :
    PI X (.Tuple elts kk tpos) (.Call (.Name "enumerate" p) [e] [] pos) (iEnum K ta) := by subst hK; exact pi_enum hg hm ha hs
theorem k_gtup {es : List Expr} {k : Nat} {t : TGs} {n : Nat} {pos : Pos} (hK : X.K = K) (hc : X.calm = true) (h : PGs X es t)
    (hn : (assignEach es X.env).length = n := by rfl) (hst : (assignEach es X.env).findIdx? (·.1) = none := by rfl) : PG X (.Tuple es k pos) (gTup K n t) := by subst hK; exact pg_tup hc h hn hst
end
/-! ### a def by its name -/
structure DefAt (K : PySem.W.Frag) (mg : Str → Option Value) (x : Str) (st : Stmt) : Prop where
  ex : ∃ (f : Addr) (fd : FuncData), FnP K x st f fd ∧ mg x = some (.ref f)
/-- THE RULE: a def that raises nothing, by its body's reading at data -/
theorem cal_d {P : Program} {w : World} {K : PySem.W.Frag} {mg : Str → Option Value} {base : Heap} {T : Tb} {x : Str} {st : Stmt} {N ps : List Str} {k : Nat} {R : List DD → (DD → Prop) → Prop}
    (D : DefAt K mg x st) (S : FnScope N ps (defScope st))
    (hbind : ∀ (kV doc pm : Value) (an : Option Addr) (cdv ct : Value) (us : List Value), us.length = ps.length → bindArgs (PySem.W.fnOf x x (defArgs st) (defBody st) (defScope st) .none kV doc pm an cdv ct) ⟨us, []⟩ = pure (ps.zip us))
    (hl : ∀ ds post, R ds post → ds.length = ps.length)
    (hb : ∀ (f : Addr) (cdv : Value) (A : Around) (outer : List Env) (s : Shared) (H : Hp) (E : XK), Room k (A.deeper (envOfC x (defScope st) s.heap.objs.size f cdv)) → ∀ ds post, R ds post →
      ∃ t, PSs (cxOf C8.CX0 P w K mg base N x (defScope st) f cdv A outer s H E).nox (defBody st) t ∧ SD T t (startD N ds) (fun _ => post .none) post) :
    Cal P w K mg base (k + 1) x (spD T R) [] := by
  obtain ⟨f, fd, F, hm⟩ := D.ex
  refine ⟨f, fd, ps, [], ?_, hm, F.kp, F.bindsN hbind, .nil⟩
  refine F.ok S (fun vs H Q E h => ?_) (fun cdv A outer s H vs Q E hr h => ?_)
  · obtain ⟨G, ds, post, _, _, _, hd, hR, _⟩ := h
    rw [dqa_len hd]
    exact hl ds post hR
  · obtain ⟨G, ds, post, hs, ht, hnt, hd, hR, q⟩ := h
    obtain ⟨t, h1, h2⟩ := hb f cdv A outer s H E hr ds post hR
    refine ⟨t, PSs.nox h1, h2 _ G H ⟨hs, ht, startD_ok hd, hnt⟩ _ (fun σ' δ' G2 H2 hp s2 ok => ?_) fun d v G2 H2 hp s2 dv => ?_⟩
    · exact q .none .non G2 H2 hp s2 .non
    · exact q d v G2 H2 hp s2 dv
end Sh
-- M1
set_option maxHeartbeats 1000000
/-! spans of rows of whole numbers; one round of a column's clearing; how great numbers get. Core Lean alone. -/
namespace Mx
abbrev Row := List Int
def at_ (r : Row) (p : Nat) : Int := r.getD p 0
def addR (a b : Row) : Row := (a.zip b).map fun p => p.1 + p.2
def lessR (a b : Row) : Row := (a.zip b).map fun p => p.1 - p.2
def timesR (a : Row) (k : Int) : Row := a.map fun x => x * k
theorem len_addR (a b : Row) : (addR a b).length = min a.length b.length := by unfold addR; simp
theorem len_lessR (a b : Row) : (lessR a b).length = min a.length b.length := by unfold lessR; simp
theorem len_timesR (a : Row) (k : Int) : (timesR a k).length = a.length := by unfold timesR; simp
theorem at_lt {r : Row} {j : Nat} (h : j < r.length) : at_ r j = r[j] := by unfold at_; simp [List.getD, h]
theorem at_ge {r : Row} {j : Nat} (h : r.length ≤ j) : at_ r j = 0 := by unfold at_; simp [List.getD, h]
theorem at_timesR (a : Row) (k : Int) (j : Nat) : at_ (timesR a k) j = at_ a j * k := by
  by_cases h : j < a.length
  · rw [at_lt (by rw [len_timesR]; exact h), at_lt h]
    unfold timesR
    simp
  · rw [at_ge (by rw [len_timesR]; omega), at_ge (by omega)]
    simp
theorem at_addR {a b : Row} (hl : a.length = b.length) (j : Nat) : at_ (addR a b) j = at_ a j + at_ b j := by
  by_cases h : j < a.length
  · rw [at_lt (by rw [len_addR]; omega), at_lt h, at_lt (by omega)]
    unfold addR
    simp
  · rw [at_ge (by rw [len_addR]; omega), at_ge (by omega), at_ge (by omega)]
    simp
theorem at_lessR {a b : Row} (hl : a.length = b.length) (j : Nat) : at_ (lessR a b) j = at_ a j - at_ b j := by
  by_cases h : j < a.length
  · rw [at_lt (by rw [len_lessR]; omega), at_lt h, at_lt (by omega)]
    unfold lessR
    simp
  · rw [at_ge (by rw [len_lessR]; omega), at_ge (by omega), at_ge (by omega)]
    simp
/-! ### spans -/
inductive Sp (S : (Nat → Int) → Prop) : (Nat → Int) → Prop
  | mem {f} : S f → Sp S f
  | zero : Sp S (fun _ => 0)
  | add {f g} : Sp S f → Sp S g → Sp S (fun j => f j + g j)
  | mul {f} (k : Int) : Sp S f → Sp S (fun j => k * f j)
theorem Sp.sub {S S' : (Nat → Int) → Prop} (h : ∀ f, S f → Sp S' f) : ∀ {f}, Sp S f → Sp S' f := by
  intro f hf
  induction hf with
  | mem h1 => exact h _ h1
  | zero => exact .zero
  | add _ _ a b => exact .add a b
  | mul k _ a => exact .mul k a
def InR (rows : List Row) (f : Nat → Int) : Prop := ∃ r ∈ rows, f = at_ r
abbrev SpR (rows : List Row) (f : Nat → Int) : Prop := Sp (InR rows) f
theorem sp_row {rows : List Row} {r : Row} (h : r ∈ rows) : SpR rows (at_ r) := .mem ⟨r, h, rfl⟩
/-- the rows are made of one another -/
def SpEq (a b : List Row) : Prop := ∀ f, SpR a f ↔ SpR b f
theorem SpEq.of {a b : List Row} (h1 : ∀ r ∈ a, SpR b (at_ r)) (h2 : ∀ r ∈ b, SpR a (at_ r)) : SpEq a b := fun f =>
  ⟨Sp.sub fun g ⟨r, hr, e⟩ => by rw [e]; exact h1 r hr, Sp.sub fun g ⟨r, hr, e⟩ => by rw [e]; exact h2 r hr⟩
theorem SpEq.refl (a : List Row) : SpEq a a := fun _ => Iff.rfl
theorem SpEq.trans {a b c : List Row} (h : SpEq a b) (k : SpEq b c) : SpEq a c := fun f => (h f).trans (k f)
theorem SpEq.symm {a b : List Row} (h : SpEq a b) : SpEq b a := fun f => (h f).symm
theorem SpEq.mems {a b : List Row} (h : ∀ r, r ∈ a ↔ r ∈ b) : SpEq a b := .of (fun r hr => sp_row ((h r).mp hr)) fun r hr => sp_row ((h r).mpr hr)
/-- something linear that is so of the rows is so of all that they make -/
theorem sp_lin {rows : List Row} {P : (Nat → Int) → Prop} (h0 : P fun _ => 0) (ha : ∀ f g, P f → P g → P fun j => f j + g j) (hm : ∀ (k : Int) f, P f → P fun j => k * f j) (h : ∀ r ∈ rows, P (at_ r)) : ∀ {f}, SpR rows f → P f := by
  intro f hf
  induction hf with
  | mem h1 => obtain ⟨r, hr, rfl⟩ := h1; exact h r hr
  | zero => exact h0
  | add _ _ a b => exact ha _ _ a b
  | mul k _ a => exact hm k _ a
/-- a row less so many times another -/
def red (p : Nat) (h r : Row) : Row := lessR r (timesR h ((at_ r p).fdiv (at_ h p)))
theorem len_red {p : Nat} {h r : Row} (e : r.length = h.length) : (red p h r).length = r.length := by
  unfold red
  rw [len_lessR, len_timesR]
  omega
theorem at_red {p : Nat} {h r : Row} (e : r.length = h.length) (j : Nat) : at_ (red p h r) j = at_ r j - at_ h j * (at_ r p).fdiv (at_ h p) := by
  unfold red
  rw [at_lessR (by rw [len_timesR]; exact e), at_timesR]
theorem sp_red {rows : List Row} {p : Nat} {h r : Row} (e : r.length = h.length) (hh : SpR rows (at_ h)) (hr : SpR rows (at_ r)) : SpR rows (at_ (red p h r)) := by
  have k := Sp.add hr (Sp.mul (-((at_ r p).fdiv (at_ h p))) hh)
  have e2 : at_ (red p h r) = fun j => at_ r j + -((at_ r p).fdiv (at_ h p)) * at_ h j := by
    funext j
    rw [at_red e, Int.neg_mul, Int.mul_comm (at_ h j)]
    omega
  rw [e2]
  exact k
theorem sp_unred {rows : List Row} {p : Nat} {h r : Row} (e : r.length = h.length) (hh : SpR rows (at_ h)) (hr : SpR rows (at_ (red p h r))) : SpR rows (at_ r) := by
  have k := Sp.add hr (Sp.mul ((at_ r p).fdiv (at_ h p)) hh)
  have e2 : at_ r = fun j => at_ (red p h r) j + (at_ r p).fdiv (at_ h p) * at_ h j := by
    funext j
    rw [at_red e, Int.mul_comm ((at_ r p).fdiv (at_ h p))]
    omega
  rw [e2]
  exact k
/-! ### floor and rest -/
theorem fdm (x y : Int) : x - y * x.fdiv y = x.fmod y := by
  have := Int.mul_fdiv_add_fmod x y
  omega
theorem fmod_lt {x y : Int} (h : y ≠ 0) : (x.fmod y).natAbs < y.natAbs := by
  rcases Int.lt_or_gt_of_ne h with hy | hy
  · have e : x.fmod y = -((-x).fmod (-y)) := by rw [Int.neg_fmod_neg] <;> omega
    have h1 := Int.fmod_nonneg_of_pos (-x) (b := -y) (by omega)
    have h2 := Int.fmod_lt_of_pos (-x) (b := -y) (by omega)
    omega
  · have h1 := Int.fmod_nonneg_of_pos x hy
    have h2 := Int.fmod_lt_of_pos x hy
    omega
end Mx
-- M2
set_option maxHeartbeats 1000000
namespace Mx
/-! ### one number -/
theorem fm_sign {x y : Int} (h : y ≠ 0) : (0 < y → 0 ≤ x.fmod y) ∧ (y < 0 → x.fmod y ≤ 0) := by
  refine ⟨fun hy => Int.fmod_nonneg_of_pos x hy, fun hy => ?_⟩
  have e : x.fmod y = -((-x).fmod (-y)) := by rw [Int.neg_fmod_neg] <;> omega
  have h1 := Int.fmod_nonneg_of_pos (-x) (b := -y) (by omega)
  omega
theorem q_abs (x y : Int) : (y * x.fdiv y).natAbs = (x.fdiv y).natAbs * y.natAbs := by rw [Int.natAbs_mul, Nat.mul_comm]
theorem q_gen {x y : Int} (h : y ≠ 0) : (x.fdiv y).natAbs * y.natAbs ≤ x.natAbs + (x.fmod y).natAbs := by
  rw [← q_abs]
  have := fdm x y
  omega
theorem q_same {x y : Int} (h : (0 < x ∧ 0 < y) ∨ (x < 0 ∧ y < 0)) : (x.fdiv y).natAbs * y.natAbs + (x.fmod y).natAbs = x.natAbs := by
  rw [← q_abs]
  have h1 := fdm x y
  have h0 : y ≠ 0 := by omega
  obtain ⟨s1, s2⟩ := fm_sign (x := x) h0
  have h2 := fmod_lt (x := x) h0
  -- the product has x's sign or is nothing
  have h3 : (0 < y → 0 ≤ x.fdiv y) ∧ (y < 0 → 0 ≤ x.fdiv y) := by
    rcases h with ⟨a, b⟩ | ⟨a, b⟩
    · exact ⟨fun _ => Int.fdiv_nonneg (by omega) (by omega), fun z => by omega⟩
    · refine ⟨fun z => by omega, fun _ => ?_⟩
      have e : x.fdiv y = (-x).fdiv (-y) := by rw [Int.neg_fdiv_neg]
      rw [e]
      exact Int.fdiv_nonneg (by omega) (by omega)
  rcases h with ⟨a, b⟩ | ⟨a, b⟩
  · have q0 := h3.1 b
    have p0 : 0 ≤ y * x.fdiv y := Int.mul_nonneg (by omega) q0
    have := s1 b
    omega
  · have q0 := h3.2 b
    have p0 : y * x.fdiv y ≤ 0 := Int.mul_nonpos_of_nonpos_of_nonneg (by omega) q0
    have := s2 b
    omega
def wgt (v : Nat) : Nat := if v = 0 then 1 else 2 * v
theorem wgt_pos (v : Nat) : 0 < wgt v := by unfold wgt; split <;> omega
theorem wgt_mono {v v' : Nat} (h : v' ≤ v) (h0 : 0 < v) : wgt v' ≤ wgt v := by unfold wgt; split <;> split <;> omega
theorem one_same {x y : Int} (h : (0 < x ∧ 0 < y) ∨ (x < 0 ∧ y < 0)) (hl : y.natAbs ≤ x.natAbs) : (1 + (x.fdiv y).natAbs) * wgt (x.fmod y).natAbs ≤ wgt x.natAbs := by
  have h0 : y ≠ 0 := by omega
  have e := q_same h
  have lt := fmod_lt (x := x) h0
  generalize (x.fdiv y).natAbs = q at e ⊢
  generalize (x.fmod y).natAbs = m at e lt ⊢
  have hx : 0 < x.natAbs := by omega
  have ha : 0 < y.natAbs := by omega
  generalize x.natAbs = v at e hl hx ⊢
  generalize y.natAbs = a at e hl ha lt ⊢
  unfold wgt
  rw [if_neg (by omega : ¬ v = 0)]
  by_cases hm : m = 0
  · rw [if_pos hm]
    have h1 : q ≤ q * a := Nat.le_mul_of_pos_right q ha
    have : 0 < q := by
      rcases Nat.eq_zero_or_pos q with z | z
      · subst z; omega
      · exact z
    omega
  · rw [if_neg hm]
    have h1 : q * m ≤ q * a := Nat.mul_le_mul_left q (by omega)
    have e2 : (1 + q) * (2 * m) = 2 * (m + q * m) := by
      rw [Nat.add_mul, Nat.one_mul, Nat.mul_add, Nat.mul_left_comm]
    rw [e2]
    omega
theorem one_gen {x y : Int} (h0 : y ≠ 0) (hl : y.natAbs ≤ x.natAbs) : (1 + (x.fdiv y).natAbs) * wgt (x.fmod y).natAbs ≤ 3 * wgt x.natAbs := by
  have e := q_gen (x := x) h0
  have lt := fmod_lt (x := x) h0
  generalize (x.fdiv y).natAbs = q at e ⊢
  generalize (x.fmod y).natAbs = m at e lt ⊢
  have ha : 0 < y.natAbs := by omega
  generalize x.natAbs = v at e hl ⊢
  generalize y.natAbs = a at e hl ha lt ⊢
  unfold wgt
  rw [if_neg (by omega : ¬ v = 0)]
  by_cases hm : m = 0
  · rw [if_pos hm]
    have h1 : q ≤ q * a := Nat.le_mul_of_pos_right q ha
    omega
  · rw [if_neg hm]
    have h1 : q * m ≤ q * a := Nat.mul_le_mul_left q (by omega)
    have e2 : (1 + q) * (2 * m) = 2 * (m + q * m) := by
      rw [Nat.add_mul, Nat.one_mul, Nat.mul_add, Nat.mul_left_comm]
    rw [e2]
    omega
/-! ### weights of rows at a place -/
def wt (p : Nat) : List Row → Nat
  | [] => 1
  | r :: rs => wgt (at_ r p).natAbs * wt p rs
theorem wt_pos (p : Nat) : ∀ rs, 0 < wt p rs
  | [] => Nat.one_pos
  | r :: rs => Nat.mul_pos (wgt_pos _) (wt_pos p rs)
theorem wt_app (p : Nat) : ∀ (a b : List Row), wt p (a ++ b) = wt p a * wt p b
  | [], b => by simp [wt]
  | r :: a, b => by
    show wgt _ * wt p (a ++ b) = wgt _ * wt p a * wt p b
    rw [wt_app p a b, Nat.mul_assoc]
theorem wt_perm (p : Nat) {a b : List Row} (h : a.Perm b) : wt p a = wt p b := by
  induction h with
  | nil => rfl
  | cons x _ ih => show wgt _ * _ = wgt _ * _; rw [ih]
  | swap x y l => show wgt _ * (wgt _ * _) = wgt _ * (wgt _ * _); rw [Nat.mul_left_comm]
  | trans _ _ a b => exact a.trans b
theorem wt_filter (p : Nat) : ∀ rs : List Row, wt p (rs.filter fun r => !decide (at_ r p = 0)) = wt p rs
  | [] => rfl
  | r :: rs => by
    by_cases h : at_ r p = 0
    · rw [List.filter_cons_of_neg (by simp [h]), wt_filter p rs]
      show _ = wgt _ * _
      rw [h]
      simp [wgt]
    · rw [List.filter_cons_of_pos (by simp [h])]
      show wgt _ * _ = wgt _ * _
      rw [wt_filter p rs]
theorem wt_le_pow (p : Nat) (M : Nat) : ∀ rs : List Row, (∀ r ∈ rs, (at_ r p).natAbs ≤ M) → 1 ≤ M → wt p rs ≤ (2 * M) ^ rs.length
  | [], _, _ => Nat.le_refl _
  | r :: rs, h, hM => by
    have h1 := wt_le_pow p M rs (fun x hx => h x (List.mem_cons_of_mem _ hx)) hM
    have h2 := h r (List.mem_cons_self ..)
    have h3 : wgt (at_ r p).natAbs ≤ 2 * M := by unfold wgt; split <;> omega
    show wgt _ * _ ≤ _
    rw [List.length_cons, Nat.pow_succ, Nat.mul_comm]
    exact Nat.mul_le_mul h1 h3
/-- of one sign at a place, none nothing -/
def SS (p : Nat) (rs : List Row) : Prop := (∀ r ∈ rs, 0 < at_ r p) ∨ (∀ r ∈ rs, at_ r p < 0)
def qq (p : Nat) (h r : Row) : Nat := ((at_ r p).fdiv (at_ h p)).natAbs
theorem at_red_p {p : Nat} {h r : Row} (e : r.length = h.length) : at_ (red p h r) p = (at_ r p).fmod (at_ h p) := by rw [at_red e, fdm]
theorem wt_red_le {p : Nat} {h : Row} (h0 : at_ h p ≠ 0) : ∀ {os : List Row}, (∀ r ∈ os, r.length = h.length ∧ (at_ h p).natAbs ≤ (at_ r p).natAbs) → wt p (os.map (red p h)) ≤ wt p os
  | [], _ => Nat.le_refl _
  | r :: os, hs => by
    have h1 := hs r (List.mem_cons_self ..)
    have lt := fmod_lt (x := at_ r p) h0
    show wgt _ * wt p (os.map (red p h)) ≤ wgt _ * wt p os
    rw [at_red_p h1.1]
    exact Nat.mul_le_mul (wgt_mono (by omega) (by omega)) (wt_red_le h0 fun x hx => hs x (List.mem_cons_of_mem _ hx))
theorem wt_red_one {p s : Nat} {h : Row} (h0 : at_ h p ≠ 0) : ∀ {os : List Row} {r : Row}, r ∈ os → (∀ r ∈ os, r.length = h.length ∧ (at_ h p).natAbs ≤ (at_ r p).natAbs) →
    (∀ r ∈ os, (1 + qq p h r) * wgt ((at_ r p).fmod (at_ h p)).natAbs ≤ s * wgt (at_ r p).natAbs) → (1 + qq p h r) * wt p (os.map (red p h)) ≤ s * wt p os
  | o :: os, r, hr, hs, hk => by
    have ho := hs o (List.mem_cons_self ..)
    have hs' : ∀ r ∈ os, r.length = h.length ∧ (at_ h p).natAbs ≤ (at_ r p).natAbs := fun x hx => hs x (List.mem_cons_of_mem _ hx)
    show (1 + qq p h r) * (wgt _ * wt p (os.map (red p h))) ≤ s * (wgt _ * wt p os)
    rw [at_red_p ho.1]
    rcases List.mem_cons.mp hr with e | hr'
    · subst e
      rw [← Nat.mul_assoc, ← Nat.mul_assoc]
      exact Nat.mul_le_mul (hk r (List.mem_cons_self ..)) (wt_red_le h0 hs')
    · have ih := wt_red_one h0 hr' hs' fun x hx => hk x (List.mem_cons_of_mem _ hx)
      have lt := fmod_lt (x := at_ o p) h0
      have w1 : wgt ((at_ o p).fmod (at_ h p)).natAbs ≤ wgt (at_ o p).natAbs := wgt_mono (by omega) (by omega)
      rw [Nat.mul_left_comm, Nat.mul_left_comm s]
      exact Nat.mul_le_mul w1 ih
/-- the greatest of the quotients -/
def qmax (p : Nat) (h : Row) : List Row → Nat
  | [] => 0
  | r :: rs => max (qq p h r) (qmax p h rs)
theorem qmax_le {p : Nat} {h : Row} : ∀ {os : List Row} {r : Row}, r ∈ os → qq p h r ≤ qmax p h os
  | o :: os, r, hr => by
    show _ ≤ max _ _
    rcases List.mem_cons.mp hr with e | hr'
    · subst e; exact Nat.le_max_left _ _
    · exact Nat.le_trans (qmax_le hr') (Nat.le_max_right _ _)
theorem qmax_mem {p : Nat} {h : Row} : ∀ {os : List Row}, os ≠ [] → ∃ r ∈ os, qmax p h os = qq p h r
  | [o], _ => ⟨o, List.mem_cons_self .., by simp [qmax]⟩
  | o :: o2 :: os, _ => by
    obtain ⟨r, hr, e⟩ := qmax_mem (p := p) (h := h) (os := o2 :: os) (by simp)
    by_cases hq : qmax p h (o2 :: os) ≤ qq p h o
    · exact ⟨o, List.mem_cons_self .., by show max _ _ = _; exact Nat.max_eq_left hq⟩
    · exact ⟨r, List.mem_cons_of_mem _ hr, by show max _ _ = _; rw [← e]; exact Nat.max_eq_right (by omega)⟩
theorem wt_round {p s : Nat} {h : Row} {os : List Row} (h0 : at_ h p ≠ 0) (hn : os ≠ []) (hs : ∀ r ∈ os, r.length = h.length ∧ (at_ h p).natAbs ≤ (at_ r p).natAbs)
    (hk : ∀ r ∈ os, (1 + qq p h r) * wgt ((at_ r p).fmod (at_ h p)).natAbs ≤ s * wgt (at_ r p).natAbs) (M : Nat) : (M * (1 + qmax p h os)) * wt p (h :: os.map (red p h)) ≤ s * (M * wt p (h :: os)) := by
  obtain ⟨r, hr, e⟩ := qmax_mem (p := p) (h := h) hn
  have k := wt_red_one h0 hr hs hk
  rw [e]
  show M * (1 + qq p h r) * (wgt _ * wt p (os.map (red p h))) ≤ s * (M * (wgt _ * wt p os))
  have e1 : M * (1 + qq p h r) * (wgt (at_ h p).natAbs * wt p (os.map (red p h))) = (M * wgt (at_ h p).natAbs) * ((1 + qq p h r) * wt p (os.map (red p h))) := by
    simp only [Nat.mul_assoc, Nat.mul_left_comm]
  have e2 : s * (M * (wgt (at_ h p).natAbs * wt p os)) = (M * wgt (at_ h p).natAbs) * (s * wt p os) := by
    simp only [Nat.mul_assoc, Nat.mul_left_comm]
  rw [e1, e2]
  exact Nat.mul_le_mul_left _ k
/-- all numbers of rows are at most M -/
def Bd (M : Nat) (rs : List Row) : Prop := ∀ r ∈ rs, ∀ x ∈ r, x.natAbs ≤ M
theorem Bd.at_ {M : Nat} {rs : List Row} (b : Bd M rs) {r : Row} (hr : r ∈ rs) (j : Nat) : (Mx.at_ r j).natAbs ≤ M := by
  by_cases h : j < r.length
  · rw [at_lt h]
    exact b r hr _ (List.getElem_mem h)
  · rw [at_ge (by omega)]
    simp
theorem Bd.mono {M M' : Nat} {rs rs' : List Row} (b : Bd M rs) (h : M ≤ M') (hs : ∀ r ∈ rs', r ∈ rs) : Bd M' rs' := fun r hr x hx => Nat.le_trans (b r (hs r hr) x hx) h
theorem bd_red {M q : Nat} {p : Nat} {h r : Row} (hh : ∀ x ∈ h, x.natAbs ≤ M) (hr : ∀ x ∈ r, x.natAbs ≤ M) (hq : qq p h r ≤ q) : ∀ x ∈ red p h r, x.natAbs ≤ M * (1 + q) := by
  intro x hx
  unfold red lessR timesR at hx
  obtain ⟨y, hy, rfl⟩ := List.mem_map.mp hx
  obtain ⟨h1, h2⟩ := List.of_mem_zip (a := y.1) (b := y.2) hy
  obtain ⟨z, hz, e⟩ := List.mem_map.mp h2
  have a1 := hr _ h1
  have a2 := hh z hz
  rw [← e]
  have a3 : (z * (Mx.at_ r p).fdiv (Mx.at_ h p)).natAbs ≤ M * q := by
    rw [Int.natAbs_mul]
    exact Nat.mul_le_mul a2 hq
  rw [Nat.mul_add, Nat.mul_one]
  omega
end Mx
-- M3
set_option maxHeartbeats 1000000
namespace Mx
theorem SpEq.left {a b c : List Row} (h : SpEq a b) : SpEq (a ++ c) (b ++ c) := by
  have mono : ∀ {x y : List Row}, (∀ r, r ∈ x → r ∈ y) → ∀ {f}, SpR x f → SpR y f := fun hs => Sp.sub fun g ⟨r, hr, e⟩ => by rw [e]; exact sp_row (hs r hr)
  refine .of (fun r hr => ?_) fun r hr => ?_
  · rcases List.mem_append.mp hr with k | k
    · exact mono (fun x hx => List.mem_append_left _ hx) ((h _).mp (sp_row k))
    · exact sp_row (List.mem_append_right _ k)
  · rcases List.mem_append.mp hr with k | k
    · exact mono (fun x hx => List.mem_append_left _ hx) ((h _).mpr (sp_row k))
    · exact sp_row (List.mem_append_right _ k)
theorem SpEq.right {a b c : List Row} (h : SpEq a b) : SpEq (c ++ a) (c ++ b) := by
  have k := h.left (c := c)
  exact (SpEq.mems fun r => by simp [or_comm]).trans (k.trans (SpEq.mems fun r => by simp [or_comm]))
theorem sp_mono {x y : List Row} (hs : ∀ r, r ∈ x → r ∈ y) {f : Nat → Int} (h : SpR x f) : SpR y f := Sp.sub (fun g ⟨r, hr, e⟩ => by rw [e]; exact sp_row (hs r hr)) h
abbrev nz (p : Nat) (r : Row) : Bool := !decide (at_ r p = 0)
abbrev iz (p : Nat) (r : Row) : Bool := decide (at_ r p = 0)
theorem nz_iff {p : Nat} {r : Row} : nz p r = true ↔ at_ r p ≠ 0 := by simp [nz]
theorem iz_iff {p : Nat} {r : Row} : iz p r = true ↔ at_ r p = 0 := by simp [iz]
theorem fil_len (p : Nat) : ∀ l : List Row, (l.filter (nz p)).length + (l.filter (iz p)).length = l.length
  | [] => rfl
  | r :: l => by
    have ih := fil_len p l
    by_cases h : at_ r p = 0
    · rw [List.filter_cons_of_neg (by simp [nz, h]), List.filter_cons_of_pos (by simp [iz, h]), List.length_cons, List.length_cons]
      omega
    · rw [List.filter_cons_of_pos (by simp [nz, h]), List.filter_cons_of_neg (by simp [iz, h]), List.length_cons, List.length_cons]
      omega
/-! ### within a column -/
structure Inn (p w C M0 : Nat) (S sm rest : List Row) : Prop where
  wd : ∀ r ∈ sm ++ rest, r.length = w
  sp : SpEq (sm ++ rest) S
  z0 : ∀ r ∈ sm ++ rest, ∀ j, j < p → at_ r j = 0
  n1 : ∀ r ∈ sm, at_ r p ≠ 0
  n2 : ∀ r ∈ rest, at_ r p = 0
  cnt : sm.length + rest.length = S.length
  pb : ∀ r ∈ sm, (at_ r p).natAbs ≤ M0
  bd : ∃ M, 1 ≤ M ∧ Bd M (sm ++ rest) ∧ ((SS p sm ∧ M * wt p sm ≤ C) ∨ 3 * (M * wt p sm) ≤ C)
def msr (p : Nat) : List Row → Nat
  | [] => 0
  | r :: rs => (at_ r p).natAbs + msr p rs
theorem msr_perm (p : Nat) {a b : List Row} (h : a.Perm b) : msr p a = msr p b := by
  induction h with
  | nil => rfl
  | cons x _ ih => show _ + _ = _ + _; rw [ih]
  | swap x y l => show _ + (_ + _) = _ + (_ + _); omega
  | trans _ _ a b => exact a.trans b
theorem msr_filter (p : Nat) : ∀ rs : List Row, msr p (rs.filter (nz p)) = msr p rs
  | [] => rfl
  | r :: rs => by
    by_cases h : at_ r p = 0
    · rw [List.filter_cons_of_neg (by simp [nz, h]), msr_filter p rs]
      show _ = _ + _
      rw [h]
      simp
    · rw [List.filter_cons_of_pos (by simp [nz, h])]
      show _ + _ = _ + _
      rw [msr_filter p rs]
theorem msr_red_le {p : Nat} {h : Row} (h0 : at_ h p ≠ 0) : ∀ {os : List Row}, (∀ r ∈ os, r.length = h.length ∧ (at_ h p).natAbs ≤ (at_ r p).natAbs) → msr p (os.map (red p h)) + os.length ≤ msr p os
  | [], _ => Nat.le_refl _
  | r :: os, hs => by
    have h1 := hs r (List.mem_cons_self ..)
    have ih := msr_red_le h0 (os := os) fun x hx => hs x (List.mem_cons_of_mem _ hx)
    have lt := fmod_lt (x := at_ r p) h0
    show (at_ (red p h r) p).natAbs + msr p (os.map (red p h)) + (os.length + 1) ≤ (at_ r p).natAbs + msr p os
    rw [at_red_p h1.1]
    omega
theorem inn_start {p w M0 : Nat} {S : List Row} (wd : ∀ r ∈ S, r.length = w) (z0 : ∀ r ∈ S, ∀ j, j < p → at_ r j = 0) (hM : 1 ≤ M0) (hb : Bd M0 S) :
    Inn p w (3 * (M0 * (2 * M0) ^ S.length)) M0 S (S.filter (nz p)) (S.filter (iz p)) := by
  have hm : ∀ r, r ∈ S.filter (nz p) ++ S.filter (iz p) ↔ r ∈ S := fun r => by
    rw [List.mem_append, List.mem_filter, List.mem_filter, nz_iff, iz_iff]
    constructor
    · rintro (h | h) <;> exact h.1
    · intro h
      by_cases z : at_ r p = 0
      · exact .inr ⟨h, z⟩
      · exact .inl ⟨h, z⟩
  refine ⟨fun r hr => wd r ((hm r).mp hr), .mems hm, fun r hr => z0 r ((hm r).mp hr), fun r hr => nz_iff.mp (List.mem_filter.mp hr).2, fun r hr => iz_iff.mp (List.mem_filter.mp hr).2, fil_len p S,
    fun r hr => hb.at_ (List.mem_filter.mp hr).1 p, M0, hM, hb.mono (Nat.le_refl _) fun r hr => (hm r).mp hr, .inr ?_⟩
  refine Nat.mul_le_mul_left _ (Nat.mul_le_mul_left _ (Nat.le_trans (wt_le_pow p M0 _ (fun r hr => hb.at_ (List.mem_filter.mp hr).1 p) hM) ?_))
  exact Nat.pow_le_pow_right (by omega) (List.length_filter_le _ _)
/-- one round: srt is sm in order by how great they are at p -/
theorem inn_round {p w C M0 : Nat} {S sm rest os : List Row} {h : Row} (I : Inn p w C M0 S sm rest) (hp : (h :: os).Perm sm) (ho : (h :: os).Pairwise fun x y => (at_ x p).natAbs ≤ (at_ y p).natAbs) (hn : os ≠ []) :
    Inn p w C M0 S ((h :: os.map (red p h)).filter (nz p)) (rest ++ (h :: os.map (red p h)).filter (iz p)) ∧ msr p ((h :: os.map (red p h)).filter (nz p)) < msr p sm := by
  have memS : ∀ r ∈ h :: os, r ∈ sm := fun r hr => hp.mem_iff.mp hr
  have hh : h ∈ sm := memS h (List.mem_cons_self ..)
  have h0 : at_ h p ≠ 0 := I.n1 h hh
  have hw : h.length = w := I.wd h (List.mem_append_left _ hh)
  have hos : ∀ r ∈ os, r.length = h.length ∧ (at_ h p).natAbs ≤ (at_ r p).natAbs := fun r hr =>
    ⟨by rw [hw]; exact I.wd r (List.mem_append_left _ (memS r (List.mem_cons_of_mem _ hr))), (List.pairwise_cons.mp ho).1 r hr⟩
  have mem1 : ∀ r ∈ h :: os.map (red p h), r = h ∨ ∃ o ∈ os, r = red p h o := fun r hr => by
    rcases List.mem_cons.mp hr with e | hr
    · exact .inl e
    · obtain ⟨o, h1, h2⟩ := List.mem_map.mp hr
      exact .inr ⟨o, h1, h2.symm⟩
  have len1 : ∀ r ∈ h :: os.map (red p h), r.length = w := fun r hr => by
    rcases mem1 r hr with e | ⟨o, ho1, e⟩
    · rw [e]; exact hw
    · rw [e, len_red (hos o ho1).1, (hos o ho1).1, hw]
  have z1 : ∀ r ∈ h :: os.map (red p h), ∀ j, j < p → at_ r j = 0 := fun r hr j hj => by
    rcases mem1 r hr with e | ⟨o, ho1, e⟩
    · rw [e]; exact I.z0 h (List.mem_append_left _ hh) j hj
    · rw [e, at_red (hos o ho1).1, I.z0 h (List.mem_append_left _ hh) j hj, I.z0 o (List.mem_append_left _ (memS o (List.mem_cons_of_mem _ ho1))) j hj]
      simp
  have hm : ∀ r, r ∈ (h :: os.map (red p h)).filter (nz p) ++ (rest ++ (h :: os.map (red p h)).filter (iz p)) ↔ r ∈ (h :: os.map (red p h)) ++ rest := fun r => by
    rw [List.mem_append, List.mem_append, List.mem_append, List.mem_filter, List.mem_filter, nz_iff, iz_iff]
    constructor
    · rintro (k | k | k)
      · exact .inl k.1
      · exact .inr k
      · exact .inl k.1
    · rintro (k | k)
      · by_cases z : at_ r p = 0
        · exact .inr (.inr ⟨k, z⟩)
        · exact .inl ⟨k, z⟩
      · exact .inr (.inl k)
  have sp1 : SpEq (h :: os.map (red p h)) (h :: os) := by
    refine .of (fun r hr => ?_) fun r hr => ?_
    · rcases mem1 r hr with e | ⟨o, ho1, e⟩
      · rw [e]; exact sp_row (List.mem_cons_self ..)
      · rw [e]; exact sp_red (hos o ho1).1 (sp_row (List.mem_cons_self ..)) (sp_row (List.mem_cons_of_mem _ ho1))
    · rcases List.mem_cons.mp hr with e | hr
      · rw [e]; exact sp_row (List.mem_cons_self ..)
      · exact sp_unred (hos r hr).1 (sp_row (List.mem_cons_self ..)) (sp_row (List.mem_cons_of_mem _ (List.mem_map.mpr ⟨r, hr, rfl⟩)))
  have lt1 : ∀ r ∈ h :: os.map (red p h), (at_ r p).natAbs ≤ (at_ h p).natAbs := fun r hr => by
    rcases mem1 r hr with e | ⟨o, ho1, e⟩
    · rw [e]; exact Nat.le_refl _
    · rw [e, at_red_p (hos o ho1).1]
      exact Nat.le_of_lt (fmod_lt h0)
  refine ⟨⟨fun r hr => ?_, ?_, fun r hr => ?_, fun r hr => nz_iff.mp (List.mem_filter.mp hr).2, fun r hr => ?_, ?_, fun r hr => ?_, ?_⟩, ?_⟩
  · rcases List.mem_append.mp ((hm r).mp hr) with k | k
    · exact len1 r k
    · exact I.wd r (List.mem_append_right _ k)
  · refine (SpEq.mems hm).trans ((sp1.left).trans ((SpEq.mems fun r => ?_).trans I.sp))
    rw [List.mem_append, List.mem_append, hp.mem_iff]
  · rcases List.mem_append.mp ((hm r).mp hr) with k | k
    · exact z1 r k
    · exact I.z0 r (List.mem_append_right _ k)
  · rcases List.mem_append.mp hr with k | k
    · exact I.n2 r k
    · exact iz_iff.mp (List.mem_filter.mp k).2
  · have e := fil_len p (h :: os.map (red p h))
    have e2 := hp.length_eq
    have e3 := I.cnt
    rw [List.length_append]
    rw [List.length_cons, List.length_map] at e
    rw [List.length_cons] at e2
    omega
  · exact Nat.le_trans (lt1 r (List.mem_filter.mp hr).1) (I.pb h hh)
  · obtain ⟨M, hM, hB, hor⟩ := I.bd
    have hq : 1 ≤ 1 + qmax p h os := by omega
    refine ⟨M * (1 + qmax p h os), Nat.le_trans hM (Nat.le_mul_of_pos_right M hq), fun r hr => ?_, .inl ?_⟩
    · rcases List.mem_append.mp ((hm r).mp hr) with k | k
      · rcases mem1 r k with e | ⟨o, ho1, e⟩
        · rw [e]
          exact fun x hx => Nat.le_trans (hB h (List.mem_append_left _ hh) x hx) (Nat.le_mul_of_pos_right M hq)
        · rw [e]
          exact bd_red (hB h (List.mem_append_left _ hh)) (hB o (List.mem_append_left _ (memS o (List.mem_cons_of_mem _ ho1)))) (qmax_le ho1)
      · exact fun x hx => Nat.le_trans (hB r (List.mem_append_right _ k) x hx) (Nat.le_mul_of_pos_right M hq)
    · refine ⟨?_, ?_⟩
      · obtain ⟨f1, f2⟩ : (0 < at_ h p ∨ at_ h p < 0) ∧ True := ⟨by omega, trivial⟩
        rcases f1 with hs | hs
        · refine .inl fun r hr => ?_
          obtain ⟨k1, k2⟩ := List.mem_filter.mp hr
          have k2 := nz_iff.mp k2
          rcases mem1 r k1 with e | ⟨o, ho1, e⟩
          · rw [e]; exact hs
          · rw [e, at_red_p (hos o ho1).1] at k2 ⊢
            have := (fm_sign (x := at_ o p) h0).1 hs
            omega
        · refine .inr fun r hr => ?_
          obtain ⟨k1, k2⟩ := List.mem_filter.mp hr
          have k2 := nz_iff.mp k2
          rcases mem1 r k1 with e | ⟨o, ho1, e⟩
          · rw [e]; exact hs
          · rw [e, at_red_p (hos o ho1).1] at k2 ⊢
            have := (fm_sign (x := at_ o p) h0).2 hs
            omega
      · rw [wt_filter]
        have ew : wt p (h :: os) = wt p sm := wt_perm p hp
        rcases hor with ⟨ss, hC⟩ | hC
        · have k := wt_round (s := 1) h0 hn hos (fun r hr => ?_) M
          · rw [ew] at k
            omega
          · rw [Nat.one_mul]
            refine one_same ?_ (hos r hr).2
            have hr' := memS r (List.mem_cons_of_mem _ hr)
            rcases ss with z | z
            · exact .inl ⟨z r hr', z h hh⟩
            · exact .inr ⟨z r hr', z h hh⟩
        · have k := wt_round (s := 3) h0 hn hos (fun r hr => one_gen h0 (hos r hr).2) M
          rw [ew] at k
          omega
  · rw [msr_filter, ← msr_perm p hp]
    show (at_ h p).natAbs + msr p (os.map (red p h)) < (at_ h p).natAbs + msr p os
    have k := msr_red_le h0 hos
    have : 0 < os.length := (List.length_pos_iff.mpr hn)
    omega
/-- its numbers -/
theorem inn_bd {p w C M0 : Nat} {S sm rest : List Row} (I : Inn p w C M0 S sm rest) : Bd C (sm ++ rest) := by
  obtain ⟨M, hM, hB, hor⟩ := I.bd
  refine hB.mono ?_ fun _ h => h
  have w1 := wt_pos p sm
  have : M ≤ M * wt p sm := Nat.le_mul_of_pos_right M w1
  rcases hor with ⟨_, h⟩ | h <;> omega
end Mx
-- M4
set_option maxHeartbeats 1000000
namespace Mx
/-- rows in steps: each begins, with a number above nothing, behind the one before -/
def Ech (B hi : Nat) : Nat → List Row → Prop
  | _, [] => True
  | lo, r :: rs => ∃ l, lo ≤ l ∧ l < hi ∧ (∀ j, j < l → at_ r j = 0) ∧ 0 < at_ r l ∧ (at_ r l).natAbs ≤ B ∧ Ech B hi (l + 1) rs
theorem Ech.mono {B B' hi hi' : Nat} (hB : B ≤ B') (hh : hi ≤ hi') : ∀ {rs : List Row} {lo : Nat}, Ech B hi lo rs → Ech B' hi' lo rs
  | [], _, _ => trivial
  | r :: rs, lo, ⟨l, h1, h2, h3, h4, h5, h6⟩ => ⟨l, h1, by omega, h3, h4, by omega, Ech.mono hB hh h6⟩
theorem Ech.snoc {B p : Nat} {h : Row} (z : ∀ j, j < p → at_ h j = 0) (h0 : 0 < at_ h p) (hB : (at_ h p).natAbs ≤ B) : ∀ {rs : List Row} {lo : Nat}, lo ≤ p → Ech B p lo rs → Ech B (p + 1) lo (rs ++ [h])
  | [], lo, hl, _ => ⟨p, hl, by omega, z, h0, hB, trivial⟩
  | r :: rs, lo, hl, ⟨l, h1, h2, h3, h4, h5, h6⟩ => ⟨l, h1, by omega, h3, h4, h5, Ech.snoc z h0 hB (by omega) h6⟩
theorem Ech.red {B p : Nat} {h : Row} (z : ∀ j, j < p → at_ h j = 0) : ∀ {rs : List Row} {lo : Nat}, (∀ r ∈ rs, r.length = h.length) → Ech B p lo rs → Ech B p lo (rs.map (red p h))
  | [], lo, _, _ => trivial
  | r :: rs, lo, hw, ⟨l, h1, h2, h3, h4, h5, h6⟩ => by
    have e : ∀ j, j < p → at_ (Mx.red p h r) j = at_ r j := fun j hj => by rw [at_red (hw r (List.mem_cons_self ..)), z j hj]; simp
    refine ⟨l, h1, h2, fun j hj => by rw [e j (by omega)]; exact h3 j hj, by rw [e l h2]; exact h4, by rw [e l h2]; exact h5, ?_⟩
    exact Ech.red z (fun x hx => hw x (List.mem_cons_of_mem _ hx)) h6
theorem Ech.len {B hi : Nat} : ∀ {rs : List Row} {lo : Nat}, Ech B hi lo rs → rs ≠ [] → lo + rs.length ≤ hi
  | [r], lo, ⟨l, h1, h2, _⟩, _ => by simp; omega
  | r :: r2 :: rs, lo, ⟨l, h1, h2, _, _, _, h6⟩, _ => by
    have := Ech.len h6 (by simp)
    simp only [List.length_cons] at this ⊢
    omega
/-- where the outer loop stands, before place p -/
structure Stp (p w B F M0 : Nat) (S0 found left : List Row) : Prop where
  wf : ∀ r ∈ found, r.length = w
  wl : ∀ r ∈ left, r.length = w
  sp : SpEq (found ++ left) S0
  z0 : ∀ r ∈ left, ∀ j, j < p → at_ r j = 0
  ech : Ech B p 0 found
  fb : Bd F found
  lb : Bd M0 left
  cnt : left.length ≤ S0.length
theorem bdh {F : Nat} {l : List Row} {h : Row} (hb : Bd F l) (hh : h ∈ l) : ∀ x ∈ h, x.natAbs ≤ F := hb h hh
theorem qq_le {p : Nat} {h r : Row} (h0 : at_ h p ≠ 0) : qq p h r ≤ (at_ r p).natAbs := by
  unfold qq
  have h1 := q_gen (x := at_ r p) h0
  have h2 := fmod_lt (x := at_ r p) h0
  generalize ((at_ r p).fdiv (at_ h p)).natAbs = q at *
  generalize ((at_ r p).fmod (at_ h p)).natAbs = m at *
  generalize (at_ h p).natAbs = a at *
  generalize (at_ r p).natAbs = x at *
  rcases Nat.lt_or_ge x q with hlt | hge
  · have e : (x + 1) * a ≤ q * a := Nat.mul_le_mul_right a hlt
    rw [Nat.add_mul, Nat.one_mul] at e
    have : x ≤ x * a := Nat.le_mul_of_pos_right x (by omega)
    omega
  · exact hge
theorem stp_none {p w B F M0 C : Nat} {S0 found left rest : List Row} (s : Stp p w B F M0 S0 found left) (I : Inn p w C M0 left [] rest) : Stp (p + 1) w B F C S0 found rest := by
  have hb := inn_bd I
  refine ⟨s.wf, fun r hr => I.wd r (by simpa using hr), ?_, fun r hr j hj => ?_, s.ech.mono (Nat.le_refl _) (by omega), s.fb, hb.mono (Nat.le_refl _) (by simp), ?_⟩
  · have e : SpEq rest left := by simpa using I.sp
    exact e.right.trans s.sp
  · rcases Nat.lt_or_ge j p with h | h
    · exact I.z0 r (by simpa using hr) j h
    · have : j = p := by omega
      subst this
      exact I.n2 r hr
  · have := I.cnt
    have := s.cnt
    simp at *
    omega
/-- a row, its number at p made positive -/
def pos (p : Nat) (h : Row) : Row := if 0 < at_ h p then h else timesR h (-1)
theorem len_pos (p : Nat) (h : Row) : (pos p h).length = h.length := by unfold pos; split <;> simp [len_timesR]
theorem pos_at (p : Nat) (h : Row) : (∀ j, at_ (pos p h) j = at_ h j) ∨ (∀ j, at_ (pos p h) j = -at_ h j) := by
  unfold pos
  split
  · exact .inl fun j => rfl
  · exact .inr fun j => by rw [at_timesR]; omega
theorem pos_lead {p : Nat} {h : Row} (h0 : at_ h p ≠ 0) : 0 < at_ (pos p h) p := by
  unfold pos
  split
  · assumption
  · rw [at_timesR]; omega
theorem bd_pos {p M : Nat} {h : Row} (hb : ∀ x ∈ h, x.natAbs ≤ M) : ∀ x ∈ pos p h, x.natAbs ≤ M := by
  unfold pos
  split
  · exact hb
  · intro x hx
    unfold timesR at hx
    obtain ⟨y, hy, rfl⟩ := List.mem_map.mp hx
    have := hb y hy
    omega
theorem sp_neg {rows : List Row} {p : Nat} {h : Row} (hh : SpR rows (at_ h)) : SpR rows (at_ (pos p h)) := by
  rcases pos_at p h with e | e
  · have : at_ (pos p h) = at_ h := funext e
    rw [this]
    exact hh
  · have k := Sp.mul (-1) hh
    have : at_ (pos p h) = fun j => -1 * at_ h j := funext fun j => by rw [e]; omega
    rw [this]
    exact k
theorem sp_neg2 {rows : List Row} {p : Nat} {h : Row} (hh : SpR rows (at_ (pos p h))) : SpR rows (at_ h) := by
  rcases pos_at p h with e | e
  · have : at_ h = at_ (pos p h) := funext fun j => (e j).symm
    rw [this]
    exact hh
  · have k := Sp.mul (-1) hh
    have : at_ h = fun j => -1 * at_ (pos p h) j := funext fun j => by rw [e]; omega
    rw [this]
    exact k
theorem stp_one {p w B F M0 C : Nat} {S0 found left rest : List Row} {h : Row} (s : Stp p w B F M0 S0 found left) (I : Inn p w C M0 left [h] rest) (hB : M0 ≤ B) :
    Stp (p + 1) w B ((F + C) * (1 + F)) C S0 (found.map (red p (pos p h)) ++ [pos p h]) rest := by
  have hb := inn_bd I
  have hw : h.length = w := I.wd h (by simp)
  have h0 : at_ h p ≠ 0 := I.n1 h (by simp)
  have hz : ∀ j, j < p → at_ (pos p h) j = 0 := fun j hj => by
    have e := I.z0 h (by simp) j hj
    rcases pos_at p h with k | k
    · rw [k, e]
    · rw [k, e]; rfl
  have hl : ∀ r ∈ found, r.length = (pos p h).length := fun r hr => by rw [len_pos, hw]; exact s.wf r hr
  have hhb : ∀ x ∈ pos p h, x.natAbs ≤ C := bd_pos (hb h (by simp))
  have h1 : 0 < at_ (pos p h) p := pos_lead h0
  refine ⟨fun r hr => ?_, fun r hr => I.wd r (by simp [hr]), ?_, fun r hr j hj => ?_, ?_, fun r hr => ?_, hb.mono (Nat.le_refl _) (fun r hr => List.mem_append_right _ hr), ?_⟩
  · rcases List.mem_append.mp hr with k | k
    · obtain ⟨r', h2, rfl⟩ := List.mem_map.mp k
      rw [len_red (hl r' h2)]
      exact s.wf r' h2
    · rw [List.mem_singleton.mp k, len_pos, hw]
  · refine SpEq.trans ?_ s.sp
    have e1 : SpEq (found ++ ([h] ++ rest)) (found ++ left) := I.sp.right
    refine SpEq.trans (.of (fun r hr => ?_) fun r hr => ?_) e1
    · have hh : SpR (found ++ ([h] ++ rest)) (at_ (pos p h)) := sp_neg (sp_row (by simp))
      rcases List.mem_append.mp hr with k | k
      · rcases List.mem_append.mp k with k | k
        · obtain ⟨r', h2, rfl⟩ := List.mem_map.mp k
          exact sp_red (hl r' h2) hh (sp_row (by simp [h2]))
        · rw [List.mem_singleton.mp k]
          exact hh
      · exact sp_row (by simp [k])
    · have hh : SpR (found.map (red p (pos p h)) ++ [pos p h] ++ rest) (at_ (pos p h)) := sp_row (by simp)
      rcases List.mem_append.mp hr with k | k
      · exact sp_unred (hl r k) hh (sp_row (List.mem_append_left _ (List.mem_append_left _ (List.mem_map.mpr ⟨r, k, rfl⟩))))
      · rcases List.mem_append.mp k with k | k
        · rw [List.mem_singleton.mp k]
          exact sp_neg2 hh
        · exact sp_row (by simp [k])
  · rcases Nat.lt_or_ge j p with k | k
    · exact I.z0 r (by simp [hr]) j k
    · have : j = p := by omega
      subst this
      exact I.n2 r hr
  · refine Ech.snoc hz h1 ?_ (Nat.zero_le _) (Ech.red hz hl s.ech)
    have k := I.pb h (by simp)
    rcases pos_at p h with e | e
    · rw [e]; omega
    · rw [e]; omega
  · have key : ∀ a : Nat, a ≤ F + C → a ≤ (F + C) * (1 + F) := fun a ha => Nat.le_trans ha (Nat.le_mul_of_pos_right _ (by omega))
    rcases List.mem_append.mp hr with k | k
    · obtain ⟨r', h2, rfl⟩ := List.mem_map.mp k
      refine bd_red (fun x hx => ?_) (fun x hx => ?_) ?_
      · have := hhb x hx; omega
      · have := s.fb r' h2 x hx; omega
      · exact Nat.le_trans (qq_le (by omega)) (s.fb.at_ h2 p)
    · rw [List.mem_singleton.mp k]
      exact fun x hx => key _ (by have := hhb x hx; omega)
  · have := I.cnt
    have := s.cnt
    simp at *
    omega
/-! ### how great, in bits -/
def bL : Nat → Nat | 0 => 8 | p + 1 => 7 * bL p + 8
def bF : Nat → Nat | 0 => 0 | p + 1 => bF p + bL (p + 1) + 2
abbrev StpN (p w : Nat) (S0 found left : List Row) : Prop := Stp p w (2 ^ 3200) (2 ^ bF p) (2 ^ bL p) S0 found left
theorem c_le {p k : Nat} (hk : k ≤ 6) : 3 * (2 ^ bL p * (2 * 2 ^ bL p) ^ k) ≤ 2 ^ bL (p + 1) := by
  have h1 : (2 * 2 ^ bL p) ^ k ≤ (2 * 2 ^ bL p) ^ 6 := Nat.pow_le_pow_right (Nat.mul_pos (by decide) (Nat.two_pow_pos _)) hk
  have e : (2 * 2 ^ bL p) ^ 6 = 2 ^ (6 * (bL p + 1)) := by
    rw [Nat.mul_comm 6, Nat.pow_mul, Nat.pow_succ 2 (bL p), Nat.mul_comm 2]
  rw [e] at h1
  have e2 : bL (p + 1) = 2 + (bL p + 6 * (bL p + 1)) := by show 7 * bL p + 8 = _; omega
  rw [e2, Nat.pow_add, Nat.pow_add]
  exact Nat.mul_le_mul (by decide) (Nat.mul_le_mul_left _ h1)
theorem f_le {p : Nat} : (2 ^ bF p + 2 ^ bL (p + 1)) * (1 + 2 ^ bF p) ≤ 2 ^ bF (p + 1) := by
  have e : bF (p + 1) = (bF p + bL (p + 1)) + 2 := rfl
  have a1 : 1 ≤ 2 ^ bF p := Nat.two_pow_pos _
  have a2 : 1 ≤ 2 ^ bL (p + 1) := Nat.two_pow_pos _
  rw [e]
  cases hp : p with
  | zero =>
    show (1 + 2 ^ 64) * (1 + 1) ≤ 2 ^ 66
    decide
  | succ q =>
    rw [← hp]
    have hle : bF p + 2 ≤ bL (p + 1) := by
      have k : ∀ n, bF n + 2 ≤ bL (n + 1) := by
        intro n
        induction n with
        | zero => decide
        | succ n ih => show bF n + bL (n + 1) + 2 + 2 ≤ 7 * bL (n + 1) + 8; omega
      exact k p
    have h1 : 2 ^ bF p ≤ 2 ^ bL (p + 1) := Nat.pow_le_pow_right (by decide) (by omega)
    have e3 : 2 ^ (bF p + bL (p + 1) + 2) = (2 * 2 ^ bL (p + 1)) * (2 * 2 ^ bF p) := by
      rw [Nat.pow_add, Nat.pow_add]
      generalize 2 ^ bF p = x
      generalize 2 ^ bL (p + 1) = y
      show x * y * (2 * 2) = _
      simp only [Nat.mul_assoc, Nat.mul_left_comm, Nat.mul_comm]
    rw [e3]
    exact Nat.mul_le_mul (by omega) (by omega)
theorem bL_le {p : Nat} (h : p ≤ 3) : bL p ≤ 3200 := by
  match p, h with
  | 0, _ => decide
  | 1, _ => decide
  | 2, _ => decide
  | 3, _ => decide
theorem bL_le4 {p : Nat} (h : p ≤ 4) : bL p ≤ 22408 := by
  match p, h with
  | 0, _ => decide
  | 1, _ => decide
  | 2, _ => decide
  | 3, _ => decide
  | 4, _ => decide
theorem bF_le {p : Nat} (h : p ≤ 4) : bF p ≤ 26136 := by
  match p, h with
  | 0, _ => decide
  | 1, _ => decide
  | 2, _ => decide
  | 3, _ => decide
  | 4, _ => decide
theorem Stp.up {p w B F F' M M' : Nat} {S0 found left : List Row} (s : Stp p w B F M S0 found left) (hF : F ≤ F') (hM : M ≤ M') : Stp p w B F' M' S0 found left :=
  ⟨s.wf, s.wl, s.sp, s.z0, s.ech, s.fb.mono hF fun _ h => h, s.lb.mono hM fun _ h => h, s.cnt⟩
/-- within a column, from where the outer loop stands -/
abbrev InnN (p w : Nat) (left sm rest : List Row) : Prop := Inn p w (3 * (2 ^ bL p * (2 * 2 ^ bL p) ^ left.length)) (2 ^ bL p) left sm rest
theorem stpN_start {w : Nat} {S : List Row} (hw : ∀ r ∈ S, r.length = w) (hb : Bd (2 ^ 8) S) : StpN 0 w S [] S :=
  ⟨by simp, hw, .refl _, fun _ _ _ h => absurd h (by omega), trivial, by intro r hr; simp at hr, hb, Nat.le_refl _⟩
theorem innN_start {p w : Nat} {S0 found left : List Row} (s : StpN p w S0 found left) : InnN p w left (left.filter (nz p)) (left.filter (iz p)) := inn_start s.wl s.z0 (Nat.two_pow_pos _) s.lb
theorem stpN_none {p w : Nat} {S0 found left rest : List Row} (s : StpN p w S0 found left) (hk : S0.length ≤ 6) (I : InnN p w left [] rest) : StpN (p + 1) w S0 found rest :=
  (stp_none s I).up (Nat.pow_le_pow_right (by decide) (by show bF p ≤ bF p + _ + 2; omega)) (c_le (Nat.le_trans s.cnt hk))
theorem stpN_one {p w : Nat} {S0 found left rest : List Row} {h : Row} (s : StpN p w S0 found left) (hp : p ≤ 3) (hk : S0.length ≤ 6) (I : InnN p w left [h] rest) : StpN (p + 1) w S0 (found.map (red p (pos p h)) ++ [pos p h]) rest := by
  have c := c_le (p := p) (k := left.length) (Nat.le_trans s.cnt hk)
  refine (stp_one s I (Nat.pow_le_pow_right (by decide) (bL_le hp))).up (Nat.le_trans ?_ f_le) c
  exact Nat.mul_le_mul_right _ (by omega)
end Mx
-- M5
set_option maxHeartbeats 1000000
namespace Mx
def dot (a b : List Int) : Int := ((a.zip b).map fun p => p.1 * p.2).sum
def unitR (p n : Nat) : Row := (List.range n).map fun s => if s = p then 1 else 0
def unitsR (n : Nat) : List Row := (List.range n).map fun p => unitR p n
theorem len_unitR (p n : Nat) : (unitR p n).length = n := by unfold unitR; simp
theorem len_unitsR (n : Nat) : (unitsR n).length = n := by unfold unitsR; simp
theorem at_unitR {p n j : Nat} (hj : j < n) : at_ (unitR p n) j = if j = p then 1 else 0 := by
  rw [at_lt (by rw [len_unitR]; exact hj)]
  unfold unitR
  simp
theorem at_app_l {a b : Row} {j : Nat} (h : j < a.length) : at_ (a ++ b) j = at_ a j := by
  rw [at_lt (by simp; omega), at_lt h, List.getElem_append_left h]
theorem at_app_r {a b : Row} {j : Nat} : at_ (a ++ b) (a.length + j) = at_ b j := by
  by_cases h : j < b.length
  · rw [at_lt (by simp; omega), at_lt h, List.getElem_append_right (by omega)]
    congr 1
    omega
  · rw [at_ge (by simp; omega), at_ge (by omega)]
theorem at_take {a : Row} {n j : Nat} (h : j < n) : at_ (a.take n) j = at_ a j := by
  by_cases h2 : j < a.length
  · rw [at_lt (by simp; omega), at_lt h2, List.getElem_take]
  · rw [at_ge (by simp; omega), at_ge (by omega)]
theorem at_drop {a : Row} {n j : Nat} : at_ (a.drop n) j = at_ a (n + j) := by
  by_cases h2 : n + j < a.length
  · rw [at_lt (by simp; omega), at_lt h2, List.getElem_drop]
  · rw [at_ge (by simp; omega), at_ge (by omega)]
theorem row_ext {a b : Row} (hl : a.length = b.length) (h : ∀ j, j < a.length → at_ a j = at_ b j) : a = b := by
  refine List.ext_getElem hl fun j h1 h2 => ?_
  have := h j h1
  rwa [at_lt h1, at_lt h2] at this
theorem at_zero {n j : Nat} : at_ (List.replicate n 0) j = 0 := by
  by_cases h : j < n
  · rw [at_lt (by simpa using h)]; simp
  · rw [at_ge (by simp; omega)]
/-! ### sums of rows -/
def lc (f : Nat → Int) : List Row → Nat → Int
  | [], _ => 0
  | r :: rs, j => f 0 * at_ r j + lc (fun i => f (i + 1)) rs j
theorem lc_congr {f g : Nat → Int} : ∀ {rs : List Row} {j : Nat}, (∀ i, i < rs.length → f i = g i) → lc f rs j = lc g rs j
  | [], _, _ => rfl
  | r :: rs, j, h => by
    show f 0 * _ + _ = g 0 * _ + _
    rw [h 0 (by simp), lc_congr fun i hi => h (i + 1) (by simp; omega)]
theorem lc_add (f g : Nat → Int) : ∀ (rs : List Row) (j : Nat), lc (fun i => f i + g i) rs j = lc f rs j + lc g rs j
  | [], _ => rfl
  | r :: rs, j => by
    show (f 0 + g 0) * _ + _ = f 0 * _ + _ + (g 0 * _ + _)
    rw [lc_add (fun i => f (i + 1)) (fun i => g (i + 1)) rs j, Int.add_mul]
    omega
theorem lc_mul (k : Int) (f : Nat → Int) : ∀ (rs : List Row) (j : Nat), lc (fun i => k * f i) rs j = k * lc f rs j
  | [], _ => by simp [lc]
  | r :: rs, j => by
    show k * f 0 * _ + _ = k * (f 0 * _ + _)
    rw [lc_mul k (fun i => f (i + 1)) rs j, Int.mul_add, Int.mul_assoc]
theorem lc_zero : ∀ (rs : List Row) (j : Nat), lc (fun _ => 0) rs j = 0
  | [], _ => rfl
  | r :: rs, j => by
    show 0 * _ + _ = _
    rw [lc_zero rs j]
    omega
theorem lc_unit : ∀ (rs : List Row) (k j : Nat), k < rs.length → lc (fun i => if i = k then 1 else 0) rs j = at_ (rs.getD k []) j
  | r :: rs, 0, j, _ => by
    show (if 0 = 0 then 1 else 0) * at_ r j + lc (fun i => if i + 1 = 0 then 1 else 0) rs j = at_ r j
    have e : (fun i : Nat => if i + 1 = 0 then (1 : Int) else 0) = fun _ => 0 := by funext i; simp
    rw [e, lc_zero]
    simp
  | r :: rs, k + 1, j, h => by
    show (if 0 = k + 1 then 1 else 0) * at_ r j + lc (fun i => if i + 1 = k + 1 then 1 else 0) rs j = at_ (rs.getD k []) j
    have e : (fun i : Nat => if i + 1 = k + 1 then (1 : Int) else 0) = fun i => if i = k then 1 else 0 := by funext i; simp
    rw [e, lc_unit rs k j (by simpa using h)]
    simp
theorem lc_sp (f : Nat → Int) (rs : List Row) : SpR rs (fun j => lc f rs j) := by
  induction rs generalizing f with
  | nil => exact .zero
  | cons r rs ih =>
    have h := ih fun i => f (i + 1)
    exact .add (.mul (f 0) (sp_row (List.mem_cons_self ..))) (sp_mono (fun x hx => List.mem_cons_of_mem _ hx) h)
/-- a row made of rows -/
def InS (rows : List Row) (long : Nat) (row : Row) : Prop := ∃ u : Nat → Int, ∀ j, j < long → at_ row j = lc u rows j
/-! ### rows with their units -/
def augs (rows : List Row) : List Row := (rows.zip (unitsR rows.length)).map fun p => p.1 ++ p.2
theorem len_augs (rows : List Row) : (augs rows).length = rows.length := by unfold augs; simp [len_unitsR]
theorem augs_get {rows : List Row} {k : Nat} (h : k < rows.length) : (augs rows)[k]? = some (rows.getD k [] ++ unitR k rows.length) := by
  unfold augs
  rw [List.getElem?_map]
  have e : (rows.zip (unitsR rows.length))[k]? = some (rows.getD k [], unitR k rows.length) := by
    rw [List.getElem?_zip_eq_some]
    refine ⟨by rw [List.getElem?_eq_getElem h]; simp [List.getD, h], ?_⟩
    unfold unitsR
    rw [List.getElem?_map, List.getElem?_range h]
    rfl
  rw [e]
  rfl
theorem augs_mem {rows : List Row} {r : Row} (h : r ∈ augs rows) : ∃ k, k < rows.length ∧ r = rows.getD k [] ++ unitR k rows.length := by
  obtain ⟨k, hk, e⟩ := List.getElem_of_mem h
  rw [len_augs] at hk
  refine ⟨k, hk, ?_⟩
  have := augs_get hk
  rw [List.getElem?_eq_getElem (by rw [len_augs]; exact hk)] at this
  rw [← e]
  exact Option.some.inj this
/-- the tail of a vector tells how its head is made -/
def Rel (rows : List Row) (long : Nat) (f : Nat → Int) : Prop := ∀ j, j < long → f j = lc (fun i => f (long + i)) rows j
theorem rel_sp {rows : List Row} {long : Nat} (hw : ∀ r ∈ rows, r.length = long) {f : Nat → Int} (h : SpR (augs rows) f) : Rel rows long f := by
  refine sp_lin (P := Rel rows long) (fun j _ => (lc_zero rows j).symm) (fun f g hf hg j hj => ?_) (fun k f hf j hj => ?_) (fun r hr j hj => ?_) h
  · show f j + g j = lc (fun i => f (long + i) + g (long + i)) rows j
    rw [lc_add, hf j hj, hg j hj]
  · show k * f j = lc (fun i => k * f (long + i)) rows j
    rw [lc_mul, hf j hj]
  · obtain ⟨k, hk, rfl⟩ := augs_mem hr
    have hl : (rows.getD k []).length = long := by
      have : rows.getD k [] = rows[k] := by simp [List.getD, hk]
      rw [this]
      exact hw _ (List.getElem_mem hk)
    rw [at_app_l (by omega)]
    have e : lc (fun i => at_ (rows.getD k [] ++ unitR k rows.length) (long + i)) rows j = lc (fun i => if i = k then 1 else 0) rows j := by
      refine lc_congr fun i hi => ?_
      rw [← hl, at_app_r, at_unitR hi]
    rw [e, lc_unit rows k j hk]
theorem ins_sp {rows : List Row} {long : Nat} (hw : ∀ r ∈ rows, r.length = long) {row : Row} (h : InS rows long row) : ∃ f, SpR (augs rows) f ∧ ∀ j, j < long → f j = at_ row j := by
  obtain ⟨u, hu⟩ := h
  refine ⟨_, lc_sp u (augs rows), fun j hj => ?_⟩
  rw [hu j hj]
  have key : ∀ (rs : List Row) (us : List Row) (u : Nat → Int), (∀ r ∈ rs, r.length = long) → rs.length = us.length → lc u ((rs.zip us).map fun p => p.1 ++ p.2) j = lc u rs j := by
    intro rs
    induction rs with
    | nil => intro us u _ _; rfl
    | cons r rs ih =>
      intro us u hw hl
      cases us with
      | nil => simp at hl
      | cons x us =>
        show u 0 * at_ (r ++ x) j + _ = u 0 * at_ r j + _
        rw [at_app_l (by rw [hw r (List.mem_cons_self ..)]; exact hj)]
        have := ih us (fun i => u (i + 1)) (fun r hr => hw r (List.mem_cons_of_mem _ hr)) (by simpa using hl)
        rw [← this]
        rfl
  exact key rows (unitsR rows.length) u hw (by rw [len_unitsR])
/-! ### taking from the left -/
theorem sp_cons {r : Row} {rs : List Row} {f : Nat → Int} (h : SpR (r :: rs) f) : ∃ (c : Int) (g : Nat → Int), SpR rs g ∧ ∀ j, f j = c * at_ r j + g j := by
  induction h with
  | mem h1 =>
    obtain ⟨x, hx, rfl⟩ := h1
    rcases List.mem_cons.mp hx with e | hx
    · subst e
      exact ⟨1, _, .zero, fun j => by show _ = 1 * _ + (0 : Int); omega⟩
    · exact ⟨0, _, sp_row hx, fun j => by omega⟩
  | zero => exact ⟨0, _, .zero, fun j => by show (0 : Int) = 0 * at_ r j + 0; omega⟩
  | add _ _ a b =>
    obtain ⟨c, g, h1, h2⟩ := a
    obtain ⟨c', g', h1', h2'⟩ := b
    exact ⟨c + c', _, .add h1 h1', fun j => by show _ + _ = _ + (_ + _); rw [h2, h2', Int.add_mul]; omega⟩
  | mul k _ a =>
    obtain ⟨c, g, h1, h2⟩ := a
    exact ⟨k * c, _, .mul k h1, fun j => by show k * _ = _ + k * _; rw [h2, Int.mul_add, Int.mul_assoc]⟩
theorem ech_zero {B hi : Nat} : ∀ {rs : List Row} {lo : Nat}, Ech B hi lo rs → ∀ r ∈ rs, ∀ j, j < lo → at_ r j = 0
  | r :: rs, lo, ⟨l, h1, h2, h3, _, _, h6⟩, x, hx, j, hj => by
    rcases List.mem_cons.mp hx with e | hx
    · subst e
      exact h3 j (by omega)
    · exact ech_zero h6 x hx j (by omega)
theorem sp_zero {rs : List Row} {j : Nat} (h : ∀ r ∈ rs, at_ r j = 0) {f : Nat → Int} (hf : SpR rs f) : f j = 0 := by
  refine sp_lin (P := fun f => f j = 0) rfl (fun f g a b => ?_) (fun k f a => ?_) h hf
  · show f j + g j = 0
    omega
  · show k * f j = 0
    rw [a]
    omega
/-- where times_for's loop stands -/
structure Tk (long many : Nat) (rows : List Row) (row : Row) (todo extra : List Row) (lo M : Nat) (left made : Row) : Prop where
  ll : left.length = long
  lm : made.length = many
  rel : ∀ j, j < long → at_ row j - at_ left j = lc (at_ made) rows j
  ech : Ech (2 ^ 3200) long lo todo
  relT : ∀ r ∈ todo, Rel rows long (at_ r)
  wT : ∀ r ∈ todo, r.length = long + many
  bT : Bd (2 ^ 26136) todo
  zx : ∀ r ∈ extra, ∀ j, j < long → at_ r j = 0
  comp : InS rows long row → ∃ f, SpR (todo ++ extra) f ∧ ∀ j, j < long → f j = at_ left j
  bl : ∀ x ∈ left, x.natAbs ≤ 2 ^ M
  bm : ∀ x ∈ made, x.natAbs ≤ 2 ^ M
theorem tk_start {long many : Nat} {rows found extra : List Row} {row : Row} (hl : long ≤ 4) (hm : rows.length = many) (hw : ∀ r ∈ rows, r.length = long) (hr : row.length = long) (hb : ∀ x ∈ row, x.natAbs ≤ 2 ^ 8)
    (st : StpN long (long + many) (augs rows) found extra) : Tk long many rows row found extra 0 8 row (List.replicate many 0) := by
  subst hm
  refine ⟨hr, by simp, fun j hj => ?_, st.ech, fun r h => rel_sp hw ((st.sp _).mp (sp_row (List.mem_append_left _ h))), st.wf, st.fb.mono (Nat.pow_le_pow_right (by decide) (bF_le hl)) fun _ h => h, st.z0, fun h => ?_, hb, fun x hx => ?_⟩
  · have e : lc (at_ (List.replicate rows.length 0)) rows j = lc (fun _ => 0) rows j := lc_congr fun i _ => at_zero
    rw [e, lc_zero]
    omega
  · obtain ⟨f, h1, h2⟩ := ins_sp hw h
    exact ⟨f, (st.sp f).mpr h1, h2⟩
  · rw [List.eq_of_mem_replicate hx]
    simp
def takeR (long : Nat) (left own : Row) (often : Int) : Row := lessR left (timesR (own.take long) often)
def giveR (long many : Nat) (made own : Row) (often : Int) : Row := addR (addR (List.replicate many 0) (timesR made 1)) (timesR (own.drop long) often)
theorem bd_less {M N : Nat} {a b : Row} (ha : ∀ x ∈ a, x.natAbs ≤ M) (hb : ∀ x ∈ b, x.natAbs ≤ N) : ∀ x ∈ lessR a b, x.natAbs ≤ M + N := by
  intro x hx
  unfold lessR at hx
  obtain ⟨y, hy, rfl⟩ := List.mem_map.mp hx
  obtain ⟨h1, h2⟩ := List.of_mem_zip (a := y.1) (b := y.2) hy
  have := ha _ h1
  have := hb _ h2
  omega
theorem bd_add {M N : Nat} {a b : Row} (ha : ∀ x ∈ a, x.natAbs ≤ M) (hb : ∀ x ∈ b, x.natAbs ≤ N) : ∀ x ∈ addR a b, x.natAbs ≤ M + N := by
  intro x hx
  unfold addR at hx
  obtain ⟨y, hy, rfl⟩ := List.mem_map.mp hx
  obtain ⟨h1, h2⟩ := List.of_mem_zip (a := y.1) (b := y.2) hy
  have := ha _ h1
  have := hb _ h2
  omega
theorem bd_times {M N : Nat} {a : Row} {k : Int} (ha : ∀ x ∈ a, x.natAbs ≤ M) (hk : k.natAbs ≤ N) : ∀ x ∈ timesR a k, x.natAbs ≤ M * N := by
  intro x hx
  unfold timesR at hx
  obtain ⟨y, hy, rfl⟩ := List.mem_map.mp hx
  rw [Int.natAbs_mul]
  exact Nat.mul_le_mul (ha _ hy) hk
theorem fdiv_le {x y : Int} (h0 : y ≠ 0) : (x.fdiv y).natAbs ≤ x.natAbs := by
  have := qq_le (p := 0) (h := [y]) (r := [x]) (by simpa [at_] using h0)
  simpa [qq, at_] using this
theorem natAbs_le_of_at {M : Nat} {a : Row} (h : ∀ x ∈ a, x.natAbs ≤ M) (j : Nat) : (at_ a j).natAbs ≤ M := by
  by_cases hj : j < a.length
  · rw [at_lt hj]; exact h _ (List.getElem_mem hj)
  · rw [at_ge (by omega)]; simp
theorem tk_lead {long many lo M : Nat} {rows todo extra : List Row} {row left made own : Row} (t : Tk long many rows row (own :: todo) extra lo M left made) :
    ∃ l, l < long ∧ (∀ j, j < l → at_ own j = 0) ∧ 0 < at_ own l ∧ (at_ own l).natAbs ≤ 2 ^ 3200 ∧
    ((at_ left l).fmod (at_ own l) ≠ 0 → ¬ InS rows long row) ∧
    ((at_ left l).fmod (at_ own l) = 0 → ∃ lo', Tk long many rows row todo extra lo' (M + 26137) (takeR long left own ((at_ left l).fdiv (at_ own l))) (giveR long many made own ((at_ left l).fdiv (at_ own l)))) := by
  obtain ⟨l, h1, h2, h3, h4, h5, h6⟩ := t.ech
  have hz : ∀ r ∈ todo ++ extra, at_ r l = 0 := fun r hr => by
    rcases List.mem_append.mp hr with k | k
    · exact ech_zero h6 r k l (by omega)
    · exact t.zx r k l h2
  have key : InS rows long row → ∃ (c : Int) (g : Nat → Int), SpR (todo ++ extra) g ∧ (∀ j, j < long → c * at_ own j + g j = at_ left j) ∧ at_ left l = c * at_ own l := fun h => by
    obtain ⟨f, f1, f2⟩ := t.comp h
    obtain ⟨c, g, g1, g2⟩ := sp_cons f1
    refine ⟨c, g, g1, fun j hj => by rw [← f2 j hj, g2 j], ?_⟩
    rw [← f2 l h2, g2 l, sp_zero hz g1]
    omega
  refine ⟨l, h2, h3, h4, h5, fun hn h => ?_, fun h0 => ?_⟩
  · obtain ⟨c, g, _, _, e⟩ := key h
    rw [e] at hn
    exact hn (Int.mul_fmod_left ..)
  · have ho : own ∈ own :: todo := List.mem_cons_self ..
    have hlo : own.length = long + many := t.wT own ho
    have hom : ((at_ left l).fdiv (at_ own l)).natAbs ≤ 2 ^ M := Nat.le_trans (fdiv_le (by omega)) (natAbs_le_of_at t.bl l)
    generalize ho : (at_ left l).fdiv (at_ own l) = often at hom ⊢
    have hb1 : ∀ x ∈ timesR (own.take long) often, x.natAbs ≤ 2 ^ 26136 * 2 ^ M := bd_times (fun x hx => t.bT own (List.mem_cons_self ..) x (List.mem_of_mem_take hx)) hom
    have hb2 : ∀ x ∈ timesR (own.drop long) often, x.natAbs ≤ 2 ^ 26136 * 2 ^ M := bd_times (fun x hx => t.bT own (List.mem_cons_self ..) x (List.mem_of_mem_drop hx)) hom
    have el : ∀ j, j < long → at_ (takeR long left own often) j = at_ left j - at_ own j * often := fun j hj => by
      unfold takeR
      rw [at_lessR (by rw [len_timesR, t.ll]; simp; omega), at_timesR, at_take hj]
    have em : ∀ i, at_ (giveR long many made own often) i = at_ made i + at_ own (long + i) * often := fun i => by
      unfold giveR
      rw [at_addR (by rw [len_addR, len_timesR, len_timesR, t.lm]; simp; omega), at_addR (by rw [len_timesR, t.lm]; simp), at_timesR, at_timesR, at_zero, at_drop]
      omega
    have hbig : ∀ y : Nat, y ≤ 2 ^ M + 2 ^ 26136 * 2 ^ M → y ≤ 2 ^ (M + 26137) := fun y hy => by
      have e : 2 ^ (M + 26137) = 2 ^ 26136 * 2 ^ M + 2 ^ 26136 * 2 ^ M := by
        rw [show M + 26137 = 26136 + M + 1 by omega, Nat.pow_succ 2 (26136 + M), Nat.pow_add]
        generalize 2 ^ 26136 * 2 ^ M = z
        omega
      have e2 : 1 * 2 ^ M ≤ 2 ^ 26136 * 2 ^ M := Nat.mul_le_mul_right _ (Nat.two_pow_pos _)
      rw [e]
      generalize 2 ^ 26136 * 2 ^ M = z at *
      omega
    refine ⟨l + 1, ⟨?_, ?_, fun j hj => ?_, h6, fun r hr => t.relT r (List.mem_cons_of_mem _ hr), fun r hr => t.wT r (List.mem_cons_of_mem _ hr), t.bT.mono (Nat.le_refl _) fun r hr => List.mem_cons_of_mem _ hr, t.zx, fun h => ?_, fun x hx => ?_, fun x hx => ?_⟩⟩
    · unfold takeR
      rw [len_lessR, len_timesR, t.ll]
      simp
      omega
    · unfold giveR
      rw [len_addR, len_addR, len_timesR, len_timesR, t.lm]
      simp
      omega
    · rw [el j hj]
      have e : lc (at_ (giveR long many made own often)) rows j = lc (fun i => at_ made i + often * at_ own (long + i)) rows j := lc_congr fun i _ => by rw [em, Int.mul_comm often]
      rw [e, lc_add, lc_mul, ← t.rel j hj, ← t.relT own (List.mem_cons_self ..) j hj, Int.mul_comm often]
      omega
    · obtain ⟨c, g, g1, g2, e⟩ := key h
      have ec : c = often := by
        rw [← ho, e, Int.mul_fdiv_cancel _ (by omega)]
      refine ⟨g, g1, fun j hj => ?_⟩
      rw [el j hj, ← g2 j hj, ec, Int.mul_comm (at_ own j)]
      omega
    · exact hbig _ (bd_less t.bl hb1 x hx)
    · refine hbig _ (bd_add (M := 2 ^ M) (fun y hy => ?_) hb2 x hx)
      have := bd_add (M := 0) (N := 2 ^ M * 1) (fun z hz => by rw [List.eq_of_mem_replicate hz]; simp) (bd_times (k := 1) t.bm (by simp)) y hy
      omega
theorem tk_end {long many lo M : Nat} {rows extra : List Row} {row left made : Row} (t : Tk long many rows row [] extra lo M left made) :
    (left = List.replicate long 0 → ∀ j, j < long → at_ row j = lc (at_ made) rows j) ∧ (left ≠ List.replicate long 0 → ¬ InS rows long row) := by
  refine ⟨fun e j hj => ?_, fun hn h => ?_⟩
  · have := t.rel j hj
    rw [e, at_zero] at this
    omega
  · obtain ⟨f, f1, f2⟩ := t.comp h
    refine hn (row_ext (by rw [t.ll]; simp) fun j hj => ?_)
    rw [t.ll] at hj
    rw [← f2 j hj, at_zero]
    exact sp_zero (fun r hr => t.zx r (by simpa using hr) j hj) f1
end Mx
-- Sd1
set_option maxRecDepth 100000
set_option maxHeartbeats 4000000
/-! the defs of plain.py -/
namespace Sh
open PySem PySem.Spec PyProof.Rows L2 RZ
open C8 (Cal pe_c)
open Mx

/-- the built-in names that the text leaves as they are -/
structure Bl (mg : Str → Option Value) : Prop where
  isinstance : mg "isinstance" = none
  list : mg "list" = none
  tuple : mg "tuple" = none
  int : mg "int" = none
  sum : mg "sum" = none
  zip : mg "zip" = none
  range : mg "range" = none
  len : mg "len" = none
  abs : mg "abs" = none
  sorted : mg "sorted" = none
  enumerate : mg "enumerate" = none
  divmod : mg "divmod" = none
  any : mg "any" = none
  all : mg "all" = none
  set : mg "set" = none
  bool : mg "bool" = none
  str : mg "str" = none
  ValueError : mg "ValueError" = none

def pR (r : List Int) : DD := .tuple (r.map PyData.int)
def pT (t : List (List Int)) : DD := .tuple (t.map pR)
def pLR (t : List (List Int)) : DD := .list (t.map pR)

section
variable {P : Program} {w : World} {K : PySem.W.Frag} {mg : Str → Option Value} {base : Heap} {T : Tb}
/-! ### nothing -/
abbrev s_nothing : Stmt := top 5
abbrev N_nothing : List Str := ["size"]
theorem sc_nothing : FnScope N_nothing ["size"] (defScope s_nothing) := ⟨rfl, rfl, rfl, by decide +kernel, rfl, by decide +kernel, by decide +kernel⟩
def R_nothing (ds : List DD) (post : DD → Prop) : Prop := ∃ n : Nat, ds = [.int n] ∧ 1 ≤ n ∧ n ≤ 1000 ∧ post (pR (List.replicate n 0))
theorem cal_nothing (D : DefAt K mg "nothing" s_nothing) : Cal P w K mg base 1 "nothing" (spD T R_nothing) [] := by
  refine cal_d D sc_nothing (fun _ _ _ _ _ _ us hl => match us, hl with | [_], _ => rfl) (fun ds post h => ?_) (fun f cdv A outer s H E hr ds post h => ?_)
  · obtain ⟨n, rfl, _⟩ := h
    rfl
  · obtain ⟨n, rfl, h1, h2, hp⟩ := h
    refine ⟨_, (pss_one (ps_ret (pe_op (k_rep (K := K) rfl) (pe_tup (pa_cons pe_int pa_nil)) (pv 0)))), ?_⟩
    exact sd_ret (ed_op (ed_tup (ea_cons ed_int ea_nil) (by decide)) (ed_var rfl) (rd_repZ (by omega) (by omega))) hp
/-! ### unit, units -/
theorem rgD_nat (n : Nat) : rgD 0 n = (List.range n).map fun i => PyData.int (i : Nat) := by
  unfold rgD
  refine List.map_congr_left fun i _ => ?_
  rw [Int.zero_add]
abbrev s_unit : Stmt := top 6
abbrev N_unit : List Str := ["place", "size", "spot"]
theorem sc_unit : FnScope N_unit ["place", "size"] (defScope s_unit) := ⟨rfl, rfl, rfl, by decide +kernel, rfl, by decide +kernel, by decide +kernel⟩
def R_unit (ds : List DD) (post : DD → Prop) : Prop := ∃ p n : Nat, ds = [.int p, .int n] ∧ n ≤ 1000 ∧ post (pR (unitR p n))
theorem cal_unit (E : Bl mg) (D : DefAt K mg "unit" s_unit) : Cal P w K mg base 1 "unit" (spD T R_unit) [] := by
  refine cal_d D sc_unit (fun _ _ _ _ _ _ us hl => match us, hl with | [_, _], _ => rfl) (fun ds post h => ?_) (fun f cdv A outer s H E0 hr ds post h => ?_)
  · obtain ⟨p, n, rfl, _⟩ := h
    rfl
  · obtain ⟨p, n, rfl, h1, hp⟩ := h
    refine ⟨_, (pss_one (ps_ret (pe_callTy (k_tupOf (K := K) rfl) (by rfl) E.tuple (by decide +kernel) (pa_cons (pe_lc (own := [("spot", 2)]) rfl sc_unit.nd (pi_range1 (by rfl) E.range (pa_cons (pv 1) pa_nil)) (blkOk_by (own := [("spot", 2)]) (N := N_unit) (sc := (defScope s_unit)) (by decide +kernel)) (fun _ _ _ _ _ => (pg_name (i := 2) sc_unit.nd rfl (Or.inl rfl) (Or.inr rfl))) (fun _ _ _ _ _ => pts_nil) (fun _ _ _ _ _ => (pe_callTy cr_int (by rfl) E.int (by decide +kernel) (pa_cons (pe_cmpR op_eq (pv 2) (pv 0) (nomark _)) pa_nil)))) pa_nil)))), ?_⟩
    refine sd_ret (ed_cb (ea_cons (ed_lc1 (List.range n) (fun i => PyData.int (i : Nat)) (fun s => PyData.int (if s = p then 1 else 0)) ?_ ?_ fun x hx => ⟨_, _, ?_, tg_name, ?_⟩) ea_nil) rc_tupL) ?_
    · rw [← rgD_nat]
      exact id_range1 (n := (n : Int)) (ea_cons (ed_var rfl) ea_nil) (by omega) (by omega)
    · simp; omega
    · simp
    · refine ed_is (ed_cb (ea_cons (ed_op (ed_var rfl) (ed_var rfl) rd_eqI) ea_nil) rc_intB) ?_
      by_cases hxp : x = p
      · subst hxp; simp
      · have : ¬ ((x : Int) = (p : Int)) := by omega
        simp [hxp, this]
    · have e : pR (unitR p n) = .tuple ((List.range n).map fun s => PyData.int (if s = p then 1 else 0)) := by
        unfold pR unitR
        rw [List.map_map]
        rfl
      rw [← e]
      exact hp
abbrev s_units : Stmt := top 7
abbrev N_units : List Str := ["size", "place"]
theorem sc_units : FnScope N_units ["size"] (defScope s_units) := ⟨rfl, rfl, rfl, by decide +kernel, rfl, by decide +kernel, by decide +kernel⟩
def R_units (ds : List DD) (post : DD → Prop) : Prop := ∃ n : Nat, ds = [.int n] ∧ n ≤ 1000 ∧ post (pT (unitsR n))
theorem cal_units (E : Bl mg) (c_unit : Cal P w K mg base 1 "unit" (spD T R_unit) []) (D : DefAt K mg "units" s_units) : Cal P w K mg base 2 "units" (spD T R_units) [] := by
  refine cal_d D sc_units (fun _ _ _ _ _ _ us hl => match us, hl with | [_], _ => rfl) (fun ds post h => ?_) (fun f cdv A outer s H E0 hr ds post h => ?_)
  · obtain ⟨n, rfl, _⟩ := h
    rfl
  · obtain ⟨n, rfl, h1, hp⟩ := h
    refine ⟨_, (pss_one (ps_ret (pe_callTy (k_tupOf (K := K) rfl) (by rfl) E.tuple (by decide +kernel) (pa_cons (pe_lc (own := [("place", 1)]) rfl sc_units.nd (pi_range1 (by rfl) E.range (pa_cons (pv 0) pa_nil)) (blkOk_by (own := [("place", 1)]) (N := N_units) (sc := (defScope s_units)) (by decide +kernel)) (fun _ _ _ _ _ => (pg_name (i := 1) sc_units.nd rfl (Or.inl rfl) (Or.inr rfl))) (fun _ _ _ _ _ => pts_nil) (fun _ _ _ _ _ => (pe_c c_unit hr (by omega) (by rfl) (pa_cons (pv 1) (pa_cons (pv 0) pa_nil))))) pa_nil)))), ?_⟩
    refine sd_ret (ed_cb (ea_cons (ed_lc1 (List.range n) (fun i => PyData.int (i : Nat)) (fun p => pR (unitR p n)) ?_ ?_ fun x hx => ⟨_, _, ?_, tg_name, ?_⟩) ea_nil) rc_tupL) ?_
    · rw [← rgD_nat]
      exact id_range1 (n := (n : Int)) (ea_cons (ed_var rfl) ea_nil) (by omega) (by omega)
    · simp; omega
    · simp
    · exact ed_call (ea_cons (ed_var rfl) (ea_cons (ed_var rfl) ea_nil)) ⟨x, n, rfl, h1, rfl⟩
    · have e : pT (unitsR n) = .tuple ((List.range n).map fun p => pR (unitR p n)) := by
        unfold pT unitsR
        rw [List.map_map]
        rfl
      rw [← e]
      exact hp
/-! ### shown, rows_plus, rows_less, row_times -/
theorem zipD_map {α β : Type} (f : α → DD) (g : β → DD) (a : List α) (b : List β) : zipD (a.map f) (b.map g) = (a.zip b).map fun p => PyData.tuple [f p.1, g p.2] := by
  unfold zipD
  rw [List.zip_map, List.map_map]
  rfl
abbrev s_shown : Stmt := top 8
abbrev N_shown : List Str := ["row", "other", "bit", "its"]
theorem sc_shown : FnScope N_shown ["row", "other"] (defScope s_shown) := ⟨rfl, rfl, rfl, by decide +kernel, rfl, by decide +kernel, by decide +kernel⟩
def R_shown (ds : List DD) (post : DD → Prop) : Prop := ∃ a b : List Int, ds = [pR a, pR b] ∧ a.length ≤ 1000 ∧ (∀ p ∈ a.zip b, IntMulOk p.1 p.2) ∧ post (.int (dot a b))
theorem cal_shown (E : Bl mg) (D : DefAt K mg "shown" s_shown) : Cal P w K mg base 1 "shown" (spD T R_shown) [] := by
  refine cal_d D sc_shown (fun _ _ _ _ _ _ us hl => match us, hl with | [_, _], _ => rfl) (fun ds post h => ?_) (fun f cdv A outer s H E0 hr ds post h => ?_)
  · obtain ⟨a, b, rfl, _⟩ := h
    rfl
  · obtain ⟨a, b, rfl, h1, h2, hp⟩ := h
    refine ⟨_, (pss_one (ps_ret (pe_callB (k_sum (K := K) rfl rfl) (by rfl) E.sum (by decide +kernel) (pa_cons (pe_lc (own := [("bit", 2), ("its", 3)]) rfl sc_shown.nd (k_zip (K := K) rfl (by rfl) E.zip (pa_cons (pv 0) (pa_cons (pv 1) pa_nil))) (blkOk_by (own := [("bit", 2), ("its", 3)]) (N := N_shown) (sc := (defScope s_shown)) (by decide +kernel)) (fun _ _ _ _ _ => (k_gtup (K := K) (n := 2) rfl rfl (pgs_cons (pg_name (i := 2) sc_shown.nd rfl (Or.inl rfl) (Or.inr rfl)) (pgs_cons (pg_name (i := 3) sc_shown.nd rfl (Or.inl rfl) (Or.inr rfl)) pgs_nil)))) (fun _ _ _ _ _ => pts_nil) (fun _ _ _ _ _ => (pe_op op_mulB (pv 2) (pv 3)))) pa_nil)))), ?_⟩
    refine sd_ret (ed_cb (ea_cons (ed_is (ed_lc1 (a.zip b) (fun p => PyData.tuple [.int p.1, .int p.2]) (fun p => PyData.int (p.1 * p.2)) ?_ ?_ fun x hx => ⟨_, _, ?_, tg_pair, ?_⟩) ?_) ea_nil) (rc_sum (ns := (a.zip b).map fun (p : Int × Int) => p.1 * p.2))) hp
    · rw [← zipD_map]
      exact id_zipT (ea_cons (ed_var rfl) (ea_cons (ed_var rfl) ea_nil))
    · rw [List.length_zip]; omega
    · simp
    · exact ed_op (ed_var rfl) (ed_var rfl) (rd_I (h2 x hx))
    · rw [List.map_map]
      rfl
abbrev s_rows_plus : Stmt := top 9
abbrev N_rows_plus : List Str := ["one", "other", "bit", "its"]
theorem sc_rows_plus : FnScope N_rows_plus ["one", "other"] (defScope s_rows_plus) := ⟨rfl, rfl, rfl, by decide +kernel, rfl, by decide +kernel, by decide +kernel⟩
def R_rows_plus (ds : List DD) (post : DD → Prop) : Prop := ∃ a b : List Int, ds = [pR a, pR b] ∧ a.length ≤ 1000 ∧ post (pR (addR a b))
theorem cal_rows_plus (E : Bl mg) (D : DefAt K mg "rows_plus" s_rows_plus) : Cal P w K mg base 1 "rows_plus" (spD T R_rows_plus) [] := by
  refine cal_d D sc_rows_plus (fun _ _ _ _ _ _ us hl => match us, hl with | [_, _], _ => rfl) (fun ds post h => ?_) (fun f cdv A outer s H E0 hr ds post h => ?_)
  · obtain ⟨a, b, rfl, _⟩ := h
    rfl
  · obtain ⟨a, b, rfl, h1, hp⟩ := h
    refine ⟨_, (pss_one (ps_ret (pe_callTy (k_tupOf (K := K) rfl) (by rfl) E.tuple (by decide +kernel) (pa_cons (pe_lc (own := [("bit", 2), ("its", 3)]) rfl sc_rows_plus.nd (k_zip (K := K) rfl (by rfl) E.zip (pa_cons (pv 0) (pa_cons (pv 1) pa_nil))) (blkOk_by (own := [("bit", 2), ("its", 3)]) (N := N_rows_plus) (sc := (defScope s_rows_plus)) (by decide +kernel)) (fun _ _ _ _ _ => (k_gtup (K := K) (n := 2) rfl rfl (pgs_cons (pg_name (i := 2) sc_rows_plus.nd rfl (Or.inl rfl) (Or.inr rfl)) (pgs_cons (pg_name (i := 3) sc_rows_plus.nd rfl (Or.inl rfl) (Or.inr rfl)) pgs_nil)))) (fun _ _ _ _ _ => pts_nil) (fun _ _ _ _ _ => (pe_op op_add (pv 2) (pv 3)))) pa_nil)))), ?_⟩
    refine sd_ret (ed_cb (ea_cons (ed_is (ed_lc1 (a.zip b) (fun p => PyData.tuple [.int p.1, .int p.2]) (fun p => PyData.int (p.1 + p.2)) ?_ ?_ fun x hx => ⟨_, _, ?_, tg_pair, ?_⟩) (e := .list ((addR a b).map PyData.int)) ?_) ea_nil) rc_tupL) hp
    · rw [← zipD_map]
      exact id_zipT (ea_cons (ed_var rfl) (ea_cons (ed_var rfl) ea_nil))
    · rw [List.length_zip]; omega
    · simp
    · exact ed_op (ed_var rfl) (ed_var rfl) rd_I0
    · unfold addR
      rw [List.map_map]
      rfl
abbrev s_rows_less : Stmt := top 10
abbrev N_rows_less : List Str := ["one", "other", "bit", "its"]
theorem sc_rows_less : FnScope N_rows_less ["one", "other"] (defScope s_rows_less) := ⟨rfl, rfl, rfl, by decide +kernel, rfl, by decide +kernel, by decide +kernel⟩
def R_rows_less (ds : List DD) (post : DD → Prop) : Prop := ∃ a b : List Int, ds = [pR a, pR b] ∧ a.length ≤ 1000 ∧ post (pR (lessR a b))
theorem cal_rows_less (E : Bl mg) (D : DefAt K mg "rows_less" s_rows_less) : Cal P w K mg base 1 "rows_less" (spD T R_rows_less) [] := by
  refine cal_d D sc_rows_less (fun _ _ _ _ _ _ us hl => match us, hl with | [_, _], _ => rfl) (fun ds post h => ?_) (fun f cdv A outer s H E0 hr ds post h => ?_)
  · obtain ⟨a, b, rfl, _⟩ := h
    rfl
  · obtain ⟨a, b, rfl, h1, hp⟩ := h
    refine ⟨_, (pss_one (ps_ret (pe_callTy (k_tupOf (K := K) rfl) (by rfl) E.tuple (by decide +kernel) (pa_cons (pe_lc (own := [("bit", 2), ("its", 3)]) rfl sc_rows_less.nd (k_zip (K := K) rfl (by rfl) E.zip (pa_cons (pv 0) (pa_cons (pv 1) pa_nil))) (blkOk_by (own := [("bit", 2), ("its", 3)]) (N := N_rows_less) (sc := (defScope s_rows_less)) (by decide +kernel)) (fun _ _ _ _ _ => (k_gtup (K := K) (n := 2) rfl rfl (pgs_cons (pg_name (i := 2) sc_rows_less.nd rfl (Or.inl rfl) (Or.inr rfl)) (pgs_cons (pg_name (i := 3) sc_rows_less.nd rfl (Or.inl rfl) (Or.inr rfl)) pgs_nil)))) (fun _ _ _ _ _ => pts_nil) (fun _ _ _ _ _ => (pe_op op_sub (pv 2) (pv 3)))) pa_nil)))), ?_⟩
    refine sd_ret (ed_cb (ea_cons (ed_is (ed_lc1 (a.zip b) (fun p => PyData.tuple [.int p.1, .int p.2]) (fun p => PyData.int (p.1 - p.2)) ?_ ?_ fun x hx => ⟨_, _, ?_, tg_pair, ?_⟩) (e := .list ((lessR a b).map PyData.int)) ?_) ea_nil) rc_tupL) hp
    · rw [← zipD_map]
      exact id_zipT (ea_cons (ed_var rfl) (ea_cons (ed_var rfl) ea_nil))
    · rw [List.length_zip]; omega
    · simp
    · exact ed_op (ed_var rfl) (ed_var rfl) rd_I0
    · unfold lessR
      rw [List.map_map]
      rfl
abbrev s_row_times : Stmt := top 11
abbrev N_row_times : List Str := ["row", "times", "bit"]
theorem sc_row_times : FnScope N_row_times ["row", "times"] (defScope s_row_times) := ⟨rfl, rfl, rfl, by decide +kernel, rfl, by decide +kernel, by decide +kernel⟩
def R_row_times (ds : List DD) (post : DD → Prop) : Prop := ∃ (a : List Int) (k : Int), ds = [pR a, .int k] ∧ a.length ≤ 1000 ∧ (∀ x ∈ a, IntMulOk x k) ∧ post (pR (timesR a k))
theorem cal_row_times (E : Bl mg) (D : DefAt K mg "row_times" s_row_times) : Cal P w K mg base 1 "row_times" (spD T R_row_times) [] := by
  refine cal_d D sc_row_times (fun _ _ _ _ _ _ us hl => match us, hl with | [_, _], _ => rfl) (fun ds post h => ?_) (fun f cdv A outer s H E0 hr ds post h => ?_)
  · obtain ⟨a, b, rfl, _⟩ := h
    rfl
  · obtain ⟨a, k, rfl, h1, h2, hp⟩ := h
    refine ⟨_, (pss_one (ps_ret (pe_callTy (k_tupOf (K := K) rfl) (by rfl) E.tuple (by decide +kernel) (pa_cons (pe_lc (own := [("bit", 2)]) rfl sc_row_times.nd (k_tup (K := K) rfl (pv 0)) (blkOk_by (own := [("bit", 2)]) (N := N_row_times) (sc := (defScope s_row_times)) (by decide +kernel)) (fun _ _ _ _ _ => (pg_name (i := 2) sc_row_times.nd rfl (Or.inl rfl) (Or.inr rfl))) (fun _ _ _ _ _ => pts_nil) (fun _ _ _ _ _ => (pe_op op_mulB (pv 2) (pv 1)))) pa_nil)))), ?_⟩
    refine sd_ret (ed_cb (ea_cons (ed_is (ed_lc1 a PyData.int (fun x => PyData.int (x * k)) ?_ ?_ fun x hx => ⟨_, _, ?_, tg_name, ?_⟩) (e := .list ((timesR a k).map PyData.int)) ?_) ea_nil) rc_tupL) hp
    · exact id_tup (ed_var rfl)
    · omega
    · simp
    · exact ed_op (ed_var rfl) (ed_var rfl) (rd_I (h2 x hx))
    · unfold timesR
      rw [List.map_map]
      rfl
/-! ### rows_added -/
def addedR (ks : List Int) (t : List (List Int)) (n : Nat) : List Int := (ks.zip t).foldl (fun acc p => addR acc (timesR p.2 p.1)) (List.replicate n 0)
abbrev s_rows_added : Stmt := top 12
abbrev N_rows_added : List Str := ["times", "rows", "size", "found", "many", "row"]
theorem sc_rows_added : FnScope N_rows_added ["times", "rows", "size"] (defScope s_rows_added) := ⟨rfl, rfl, rfl, by decide +kernel, rfl, by decide +kernel, by decide +kernel⟩
def R_rows_added (ds : List DD) (post : DD → Prop) : Prop := ∃ (ks : List Int) (t : List (List Int)) (n : Nat), ds = [pR ks, pT t, .int n] ∧ 1 ≤ n ∧ n ≤ 1000 ∧ ks.length ≤ 1000 ∧ (∀ r ∈ t, r.length ≤ 1000) ∧ (∀ p ∈ ks.zip t, ∀ x ∈ p.2, IntMulOk x p.1) ∧ post (pR (addedR ks t n))
theorem cal_rows_added (E : Bl mg) (c_nothing : Cal P w K mg base 1 "nothing" (spD T R_nothing) []) (c_rows_plus : Cal P w K mg base 1 "rows_plus" (spD T R_rows_plus) []) (c_row_times : Cal P w K mg base 1 "row_times" (spD T R_row_times) [])
    (D : DefAt K mg "rows_added" s_rows_added) : Cal P w K mg base 2 "rows_added" (spD T R_rows_added) [] := by
  refine cal_d D sc_rows_added (fun _ _ _ _ _ _ us hl => match us, hl with | [_, _, _], _ => rfl) (fun ds post h => ?_) (fun f cdv A outer s H E0 hr ds post h => ?_)
  · obtain ⟨a, b, c, rfl, _⟩ := h
    rfl
  · obtain ⟨ks, t, n, rfl, h1, h2, h3, h4, h5, hp⟩ := h
    refine ⟨_, (pss_cons (ps_set (i := 3) sc_rows_added.nd rfl (Or.inl rfl) (pe_c c_nothing hr (by omega) (by rfl) (pa_cons (pv 2) pa_nil))) (pss_cons (ps_for PassesOwn.never rfl (k_zip (K := K) rfl (by rfl) E.zip (pa_cons (pv 0) (pa_cons (pv 1) pa_nil))) (k_gtup (K := K) (n := 2) rfl rfl (pgs_cons (pg_name (i := 4) sc_rows_added.nd rfl (Or.inl rfl) (Or.inl rfl)) (pgs_cons (pg_name (i := 5) sc_rows_added.nd rfl (Or.inl rfl) (Or.inl rfl)) pgs_nil))) (pss_one (ps_set (i := 3) sc_rows_added.nd rfl (Or.inl rfl) (pe_c c_rows_plus hr (by omega) (by rfl) (pa_cons (pv 3) (pa_cons (pe_c c_row_times hr (by omega) (by rfl) (pa_cons (pv 5) (pa_cons (pv 4) pa_nil))) pa_nil)))))) (pss_one (ps_ret (pv 3))))), ?_⟩
    refine sd_seq (sd_set (ed_call (ea_cons (ed_var rfl) ea_nil) ⟨n, rfl, h1, h2, rfl⟩) ?_)
    refine sd_seq (sd_for (ks.zip t) (fun p => PyData.tuple [.int p.1, pR p.2]) ?_ (fun i δ => ∃ a b, ((((ks.zip t).take i).foldl (fun acc p => addR acc (timesR p.2 p.1)) (List.replicate n 0)).length ≤ n) ∧
      δ = [some (pR ks), some (pT t), some (.int n), some (pR (((ks.zip t).take i).foldl (fun acc p => addR acc (timesR p.2 p.1)) (List.replicate n 0))), a, b]) ⟨_, _, by simp, rfl⟩ ?_ ?_)
    · rw [← zipD_map]
      exact id_zipT (ea_cons (ed_var rfl) (ea_cons (ed_var rfl) ea_nil))
    · rintro i p δ1 hx ⟨a, b, hlen, rfl⟩
      have hm : p ∈ ks.zip t := List.mem_of_getElem? hx
      have hlt : p.2.length ≤ 1000 := h4 _ (List.of_mem_zip hm).2
      refine ⟨_, _, tg_pair, sd_set (ed_call (ea_cons (ed_var rfl) (ea_cons (ed_call (ea_cons (ed_var rfl) (ea_cons (ed_var rfl) ea_nil)) ⟨p.2, p.1, rfl, hlt, h5 p hm, rfl⟩) ea_nil)) ⟨_, _, rfl, Nat.le_trans hlen h2, rfl⟩) ?_⟩
      have e : (ks.zip t).take (i + 1) = (ks.zip t).take i ++ [p] := by rw [List.take_add_one, hx]; rfl
      rw [e, List.foldl_append]
      refine ⟨_, _, ?_, rfl⟩
      show (addR _ _).length ≤ n
      rw [len_addR]
      omega
    · rintro δ1 ⟨a, b, _, rfl⟩
      rw [List.take_length]
      exact sd_ret (ed_var rfl) hp
/-! ### columns, of tuples of tuples or lists of lists -/
def colsR (t : List (List Int)) (n : Nat) : List (List Int) := (List.range n).map fun p => t.map fun r => r.getD p 0
def pLL (t : List (List Int)) : DD := .list (t.map fun r => .list (r.map PyData.int))
abbrev s_columns : Stmt := top 13
abbrev N_columns : List Str := ["rows", "size", "place", "row"]
theorem sc_columns : FnScope N_columns ["rows", "size"] (defScope s_columns) := ⟨rfl, rfl, rfl, by decide +kernel, rfl, by decide +kernel, by decide +kernel⟩
def R_columns (ds : List DD) (post : DD → Prop) : Prop := ∃ (t : List (List Int)) (n : Nat), (ds = [pT t, .int n] ∨ ds = [pLL t, .int n]) ∧ n ≤ 1000 ∧ t.length ≤ 1000 ∧ (∀ r ∈ t, n ≤ r.length) ∧ post (pT (colsR t n))
theorem at_int {r : List Int} {p : Nat} (h : p < r.length) : atI (r.map PyData.int) (p : Int) = some (PyData.int (r.getD p 0)) := by
  refine atI_nat ?_
  rw [List.getElem?_map, List.getElem?_eq_getElem h]
  simp [List.getD, h]
theorem pT_cols (t : List (List Int)) (n : Nat) : pT (colsR t n) = .tuple ((List.range n).map fun p => pR (t.map fun r => r.getD p 0)) := by
  unfold pT colsR
  rw [List.map_map]
  rfl
theorem cal_columns (E : Bl mg) (D : DefAt K mg "columns" s_columns) : Cal P w K mg base 1 "columns" (spD T R_columns) [] := by
  refine cal_d D sc_columns (fun _ _ _ _ _ _ us hl => match us, hl with | [_, _], _ => rfl) (fun ds post h => ?_) (fun f cdv A outer s H E0 hr ds post h => ?_)
  · obtain ⟨a, b, rfl | rfl, _⟩ := h <;> rfl
  · obtain ⟨t, n, hds, h1, h2, h3, hp⟩ := h
    rw [pT_cols] at hp
    rcases hds with rfl | rfl
    · refine ⟨_, (pss_one (ps_ret (pe_callTy (k_tupOf (K := K) rfl) (by rfl) E.tuple (by decide +kernel) (pa_cons (pe_lc (own := [("place", 2)]) rfl sc_columns.nd (pi_range1 (by rfl) E.range (pa_cons (pv 1) pa_nil)) (blkOk_by (own := [("place", 2)]) (N := N_columns) (sc := (defScope s_columns)) (by decide +kernel)) (fun _ _ _ _ _ => (pg_name (i := 2) sc_columns.nd rfl (Or.inr rfl) (Or.inl rfl))) (fun _ _ _ _ _ => pts_nil) (fun _ _ _ _ _ => (pe_callTy (k_tupOf (K := K) rfl) (by rfl) E.tuple (by decide +kernel) (pa_cons (pe_lc (own := [("row", 3)]) rfl sc_columns.nd (k_tup (K := K) rfl (pv 0)) (blkOk_by (own := [("row", 3)]) (by kernel_rfl)) (fun _ _ _ _ _ => (pg_name (i := 3) sc_columns.nd rfl (Or.inl rfl) (Or.inr rfl))) (fun _ _ _ _ _ => pts_nil) (fun _ _ _ _ _ => (pe_ix (k_ix (K := K) rfl) (pv 3) (pv 2) (fun _ _ => rfl)))) pa_nil)))) pa_nil)))), ?_⟩
      refine sd_ret (ed_cb (ea_cons (ed_lc1 (List.range n) (fun i => PyData.int (i : Nat)) (fun p => pR (t.map fun r => r.getD p 0)) ?_ ?_ fun p hx => ⟨_, _, ?_, tg_name, ?_⟩) ea_nil) rc_tupL) hp
      · rw [← rgD_nat]
        exact id_range1 (n := (n : Int)) (ea_cons (ed_var rfl) ea_nil) (by omega) (by omega)
      · simp; omega
      · simp
      · refine ed_cb (ea_cons (ed_is (ed_lc1 t pR (fun r => PyData.int (r.getD p 0)) (id_tup (ed_var rfl)) (by omega) fun r hr => ⟨_, _, ?_, tg_name, ?_⟩) (e := .list ((t.map fun r => r.getD p 0).map PyData.int)) ?_) ea_nil) rc_tupL
        · simp
        · exact ed_op (ed_var rfl) (ed_var rfl) (rd_ix_t (at_int (Nat.lt_of_lt_of_le (List.mem_range.mp hx) (h3 r hr))))
        · rw [List.map_map]
          rfl
    · refine ⟨_, (pss_one (ps_ret (pe_callTy (k_tupOf (K := K) rfl) (by rfl) E.tuple (by decide +kernel) (pa_cons (pe_lc (own := [("place", 2)]) rfl sc_columns.nd (pi_range1 (by rfl) E.range (pa_cons (pv 1) pa_nil)) (blkOk_by (own := [("place", 2)]) (N := N_columns) (sc := (defScope s_columns)) (by decide +kernel)) (fun _ _ _ _ _ => (pg_name (i := 2) sc_columns.nd rfl (Or.inr rfl) (Or.inl rfl))) (fun _ _ _ _ _ => pts_nil) (fun _ _ _ _ _ => (pe_callTy (k_tupOf (K := K) rfl) (by rfl) E.tuple (by decide +kernel) (pa_cons (pe_lc (own := [("row", 3)]) rfl sc_columns.nd (k_list (K := K) rfl (pv 0)) (blkOk_by (own := [("row", 3)]) (by kernel_rfl)) (fun _ _ _ _ _ => (pg_name (i := 3) sc_columns.nd rfl (Or.inl rfl) (Or.inr rfl))) (fun _ _ _ _ _ => pts_nil) (fun _ _ _ _ _ => (pe_ix (k_ix (K := K) rfl) (pv 3) (pv 2) (fun _ _ => rfl)))) pa_nil)))) pa_nil)))), ?_⟩
      refine sd_ret (ed_cb (ea_cons (ed_lc1 (List.range n) (fun i => PyData.int (i : Nat)) (fun p => pR (t.map fun r => r.getD p 0)) ?_ ?_ fun p hx => ⟨_, _, ?_, tg_name, ?_⟩) ea_nil) rc_tupL) hp
      · rw [← rgD_nat]
        exact id_range1 (n := (n : Int)) (ea_cons (ed_var rfl) ea_nil) (by omega) (by omega)
      · simp; omega
      · simp
      · refine ed_cb (ea_cons (ed_is (ed_lc1 t (fun r => PyData.list (r.map PyData.int)) (fun r => PyData.int (r.getD p 0)) (id_list (ed_var rfl)) (by omega) fun r hr => ⟨_, _, ?_, tg_name, ?_⟩) (e := .list ((t.map fun r => r.getD p 0).map PyData.int)) ?_) ea_nil) rc_tupL
        · simp
        · exact ed_op (ed_var rfl) (ed_var rfl) (rd_ix_l (at_int (Nat.lt_of_lt_of_le (List.mem_range.mp hx) (h3 r hr))))
        · rw [List.map_map]
          rfl
end
end Sh
-- Sk1
set_option maxRecDepth 100000
set_option maxHeartbeats 4000000
/-! led_by: a def that hands back a closure; the closure's own promise -/
namespace Sh
open PySem PySem.Spec PyProof.Rows L2 RZ
open C8 (Cal pe_c)

abbrev s_led : Stmt := top 16
abbrev s_far : Stmt := (defBody s_led).getD 0 (.Pass ⟨0, 0, 0, 0⟩)
abbrev q_far : Str := ("led_by" : Str) ++ ".<locals>." ++ "far_off"
theorem sc_led : FnScope ["place", "far_off"] ["place"] (defScope s_led) := ⟨rfl, rfl, rfl, by decide +kernel, rfl, by decide +kernel, by decide +kernel⟩
theorem sc_far : NdefX.NScope ["row", "place"] ["row"] ["place"] (defScope s_far) := NdefX.nscope_by (by decide +kernel)
/-- the closure over the cell -/
def mkF (cell : Addr) (c' : Addr) : NdefX.NF := ⟨"far_off", q_far, defArgs s_far, defBody s_far, defScope s_far, [("place", cell)], c'⟩
section
variable {P : Program} {w : World} {K : PySem.W.Frag} {mg : Str → Option Value} {base : Heap}
/-! ### the closure's promise -/
def spFar (K : PySem.W.Frag) : List (Option V) → Sp := fun ws vs H Q _ => ∃ (t : Addr) (r : List Int) (p z : Int), vs = [.ref t] ∧ SqT K H t (r.map V.int) ∧ ws = [some (.int p)] ∧ atI r p = some z ∧ Q (.int (z.natAbs : Int)) H
theorem at_map {r : List Int} {p z : Int} (h : atI r p = some z) : atI (r.map V.int) p = some (V.int z) := by
  unfold atI at h ⊢
  rw [List.length_map]
  cases e : ixN r.length p with
  | none => rw [e] at h; cases h
  | some j =>
    rw [e] at h
    have h : r[j]? = some z := h
    show (r.map V.int)[j]? = some (V.int z)
    rw [List.getElem?_map, h]
    rfl
theorem ok_far (hm : mg "abs" = none) {fz cell c' : Addr} : NdefX.NOk P w K mg base CX0 1 fz (mkF cell c') ["row"] ["place"] (spFar K) := by
  refine NdefX.nok_of (N := ["row", "place"]) sc_far (fun _ _ _ us hl => match us, hl with | [_], _ => rfl) (fun ws vs H Q E h => ?_) (fun A outer s H vs ws Q E hr hf hc hl h => ?_)
  · obtain ⟨t, r, p, z, rfl, _⟩ := h
    rfl
  · obtain ⟨t, r, p, z, rfl, hT, rfl, ha, q⟩ := h
    refine ⟨_, PSs.nox (pss_one (ps_ret (pe_callB cr_abs (by rfl) hm (by decide +kernel) (pa_cons (pe_ix ix_seq (pv 0) (pv 1) (fun _ _ => rfl)) pa_nil)))), ?_⟩
    refine ⟨.ref t, rfl, .int p, rfl, .inr (.inl ⟨t, _, p, .int z, rfl, rfl, hT, at_map ha, z, rfl, ?_⟩)⟩
    have e : (if z < 0 then -z else z) = (z.natAbs : Int) := by split <;> omega
    rw [e]
    exact q
/-! ### the def that makes it -/
/-- its end -/
def LedEnd (T : Tb) (outer : List Env) (P : Program) (w : World) (H : Hp) (s : Shared) (p : Int) (u : Value) (s' : Shared) : Prop :=
  ∃ (fz c' cell : Addr) (u0 : Value) (H' : Hp), u = .ref fz ∧ s'.os = s.os ∧ AllBare s'.gens ∧ Un (frs outer) [] H H' s.heap s'.heap ∧ HOk P w H' s'.heap ∧ LamX.ExtN H H' ∧ (∀ b, H' b = none → H b = none) ∧ NdefX.TabsN T H' ∧
    H' fz = some (NdefX.FnO fz (mkF cell c')) ∧ H' c' = some (LamX.CodeO c' q_far) ∧ H' cell = none ∧ s'.heap.IsCell cell (some u0) ∧ RelV (.int p) u0 ∧ s.heap.objs.size ≤ cell
theorem led_run {T : Tb} {f c Pt : Addr} {fd : FuncData} {nm : Nat → Nat → Str} (F : FnP K "led_by" s_led f fd) (hcode : ∀ fd' : FuncData, (∃ oc od sl, K.lookup f = some ⟨oc, od, .func fd', sl⟩) → fd'.code = .ref c) (TB : LamX.TabB base mg c Pt)
    (hm : (Pt, nm) ∈ T) (hnm : ∀ i j, nm i j = q_far) (hu : ∀ p ∈ T, p.1 = Pt → p.2 = nm)
    {A : Around} {outer : List Env} {s : Shared} {H : Hp} {u : Value} {p : Int} (hr : Room 1 A) (e0 : Env0 P w K mg base A outer s H) (ru : RelV (.int p) u) (hT : NdefX.TabsN T H) :
    codeAny (model P w) A (.call (.ref f) ⟨[u], []⟩) (fun r s' => ∃ u', r = .ok (.ret u') ∧ LedEnd T outer P w H s p u' s') s := by
  obtain ⟨oc, od, dV, kV, doc, pm, an, cdv, ct, osl, rfl, lk, hcd, hD, _⟩ := F.ex
  have ec : cdv = .ref c := hcode _ ⟨_, _, _, lk⟩
  subst ec
  have dn : dV = .none := by
    rcases hD with ⟨_, z⟩ | ⟨z, _⟩
    · exact z
    · exact absurd rfl z
  subst dn
  have KX : K.In s.heap := e0.mod.kin.keeps fun b o e => (e0.bs b o e).1
  have lim : s.heap.NoLimit := e0.mod.nolimit.keeps fun b o e => (e0.bs b o e).1
  have rv : Vals [V.int p] [u] := .cons ru .nil
  have hkind : ∀ y ∈ (["place"] : List Str).zip [u], (defScope s_led).names.lookup y.1 = some .local ∨ ((defScope s_led).names.lookup y.1 = some .cell ∧ ((cellsFrom (s.heap.objs.size + 1) (defScope s_led).names []).lookup y.1).isSome = true) := fun ⟨n, v⟩ hy => by
    rcases sc_led.par n (List.of_mem_zip hy).1 with q | q
    · exact .inl q
    · exact .inr ⟨q, PySem.W.cellsFrom_some _ _ _ (.inl q)⟩
  refine codeAny_call_function hr.depth (KX _ _ lk) rfl sc_led.co sc_led.gen rfl (PySem.W.codeRec_of KX hcd) ?_
  have hbind : bindArgs (PySem.W.fnOf "led_by" "led_by" (defArgs s_led) (defBody s_led) (defScope s_led) .none kV doc pm an (.ref c) ct) ⟨[u], []⟩ = pure ((["place"] : List Str).zip [u]) := rfl
  rw [hbind]
  refine wpAny_pure ?_
  refine wpAny_newFunctionEnv_cells sc_led.kind hkind fun env he s1 x => ?_
  subst he
  refine ⟨lim.keeps x.toInCall.keep, codeAny_func ?_⟩
  have I : Inv (cxOf CX0 P w K mg base ["place", "far_off"] "led_by" (defScope s_led) f (.ref c) A outer s H (fun _ _ _ => False)) [] (start ["place", "far_off"] [V.int p]) H s1 := inv_start sc_led hr.hd e0 rfl rv x
  have I' := I.wish fun _ _ => False
  have h1 := NdefX.ps_ndefMS (X := (cxOf CX0 P w K mg base ["place", "far_off"] "led_by" (defScope s_led) f (.ref c) A outer s H (fun _ _ _ => False)).nox) (st := s_far) (T := T) (nm := nm) (c := c) (P := Pt) (i := 1) (name := "far_off") (pos := ⟨38, 4, 39, 30⟩) rfl TB rfl hm (hnm _ _) hu
    (NdefX.ndef_free (sc := defScope s_led) (nsc := defScope s_far) (fr := ["place"]) (by decide +kernel)) rfl rfl rfl sc_led.nd rfl (.inl rfl) (.inr rfl)
  have run := h1.run [] s1 (start ["place", "far_off"] [V.int p]) H { nx := fun σ' H' => ∃ fz c', σ' = [some (.int p), some (.ref fz)] ∧ LamX.ExtN H H' ∧ (∀ b, H' b = none → H b = none) ∧ NdefX.TabsN T H' ∧ H' fz = some (NdefX.FnO fz (mkF ((cellsFrom (s.heap.objs.size + 1) (defScope s_led).names []).lookup ("place" : Str) |>.getD 0) c')) ∧ H' c' = some (LamX.CodeO c' q_far), rt := fun _ _ => False } I'
    ⟨hT, fun fz c' H1 e1 e2 e3 e4 e5 e6 => ⟨fz, c', rfl, e1, e2, e3, e5, e6⟩⟩
  refine wpAny_mono (Q := fun fl s' => ∃ u', fl = .ret u' ∧ LedEnd T outer P w H s p u' s') (E := fun _ _ => False) ?_ (fun fl s' ⟨u', e, z⟩ => ?_) (fun _ _ z => False.elim z)
  · show wpAny _ _ (execs (s_far :: [.Return (some (.Name "far_off" ⟨40, 11, 40, 18⟩)) ⟨40, 4, 40, 18⟩]) _) _ _ _
    refine wpAny_execs_cons (thn run fun fl s2 q => ?_)
    cases fl with
    | ret _ => obtain ⟨_, _, _, _, _, z⟩ := q; exact z.elim
    | brk => obtain ⟨_, _, _, z⟩ := q; exact z.elim
    | cont => obtain ⟨_, _, _, z⟩ := q; exact z.elim
    | next =>
      obtain ⟨σ', H', J, fz, c', rfl, x1, x2, x3, x4, x5⟩ := q
      refine wpAny_execs_cons (wpAny_Return_some (thn ((pv (X := (cxOf CX0 P w K mg base ["place", "far_off"] "led_by" (defScope s_led) f (.ref c) A outer s H (fun _ _ _ => False)).nox) 1 (x := "far_off")).run [] s2 _ H' (fun v H2 => v = .ref fz ∧ H2 = H') J ⟨_, rfl, rfl, rfl⟩) fun uu s3 q3 => ?_))
      obtain ⟨v, H2, J3, rv3, rfl, rfl⟩ := q3
      obtain ⟨m, hn, hl⟩ := J3.loc
      obtain ⟨u0, r0, l0⟩ := hl 0 "place" (.int p) rfl rfl (.inr (.inl rfl))
      rcases l0 with ⟨k0, _⟩ | ⟨_, cell, hcl, hcell⟩
      · have z : (some NameKind.cell : Option NameKind) = some .local := k0
        cases z
      · have ecl : (List.lookup ("place" : Str) (cellsFrom (s.heap.objs.size + 1) (defScope s_led).names [])) = some cell := hcl
        rw [ecl] at x4
        exact ⟨uu, rfl, fz, c', cell, u0, H2, rv3, J3.os, J3.bare, J3.base, J3.hok, x1, x2, x3, x4, x5, J3.freeC _ _ hcl, hcell, r0, J3.ok.cab _ _ rfl hcl⟩
  · subst e
    exact ⟨u', rfl, z⟩
end
end Sh
-- Sk2
set_option maxRecDepth 100000
set_option maxHeartbeats 4000000
/-! sorted(xs, key=led_by(place)) -/
namespace Sh
open PySem PySem.Spec PyProof.Rows L2 RZ
open C8 (Cal pe_c)

/-! ### the context within a built-in -/
abbrev inB (X : Cx) : Cx := { X with A := X.A.in1.in1 }
theorem ok_inB {X : Cx} (ok : X.Ok) : (inB X).Ok :=
  ⟨ok.mod, ok.kind, ok.glob, ok.blt, ok.above, ok.inj, ok.has, ok.cab, ok.hd, ok.frames, ok.stk, ok.exf, ok.bs, ok.bsz, ok.noex, ok.exfs, ok.funs, ok.frf⟩
theorem ok_outB {X : Cx} (h : X.Ok) (ok : (inB X).Ok) : X.Ok := h
section
variable {X : Cx} {pins : List (Addr × Obj)} {σ : L2.St} {H : Hp} {s : Shared}
theorem Inv_inB (I : Inv X pins σ H s) : Inv (inB X) pins σ H s := ⟨ok_inB I.ok, I.os, I.bare, I.base, I.loc, I.cell, I.free, I.freeC, I.pin, I.hok, I.len⟩
theorem Inv_outB (h : X.Ok) (I : Inv (inB X) pins σ H s) : Inv X pins σ H s := ⟨h, I.os, I.bare, I.base, I.loc, I.cell, I.free, I.freeC, I.pin, I.hok, I.len⟩
theorem room_inB {k : Nat} {A : Around} (r : Room (k + 2) A) : Room k A.in1.in1 := r.in1.in1
/-- the closure is called; what stood untracked (no frame) stands -/
theorem far_turn {fz cell c' t : Addr} {u0 : Value} {p z : Int} {r : List Int} (hm : X.mg "abs" = none) (hr : Room 1 X.A) (I : Inv X pins σ H s) (hf : H fz = some (NdefX.FnO fz (mkF cell c'))) (hc : H c' = some (LamX.CodeO c' q_far)) (hn : H cell = none)
    (ic : s.heap.IsCell cell (some u0)) (r0 : RelV (.int p) u0) (hT : SqT X.K H t (r.map V.int)) (ha : atI r p = some z) :
    wpAny (model X.prog X.w) X.A (call (.ref fz) [.ref t]) (fun u s' => (∃ tk, u = .int (z.natAbs : Int) tk) ∧ Inv X pins σ H s' ∧ ∀ b o, s.heap.get? b = some o → H b = none → b ∉ frs X.stack → s'.heap.get? b = some o) (fun _ _ => False) s := by
  have C : NdefX.CellsAt (mkF cell c').cl ["place"] [some (.int p)] s.heap H := by
    refine ⟨rfl, fun y c e => ?_, fun x y c e1 e2 => ?_, fun i y e => ?_⟩
    · have e : List.lookup y [(("place" : Str), cell)] = some c := e
      have key : c = cell := by
        rw [List.lookup_cons] at e
        split at e
        · exact (Option.some.inj e).symm
        · cases e
      rw [key]
      exact ⟨hn, _, ic⟩
    · have f1 : List.lookup x [(("place" : Str), cell)] = some c := e1
      have f2 : List.lookup y [(("place" : Str), cell)] = some c := e2
      have k : ∀ {v : Str}, List.lookup v [(("place" : Str), cell)] = some c → v = "place" := fun {v} f => by
        rw [List.lookup_cons] at f
        split at f
        · rename_i h; exact beq_iff_eq.mp h
        · cases f
      rw [k f1, k f2]
    · cases i with
      | succ i => simp at e
      | zero =>
        have e : ("place" : Str) = y := by simpa using e
        subst e
        refine ⟨cell, ?_, fun v hv => ⟨u0, ?_, ic⟩⟩
        · show List.lookup ("place" : Str) [(("place" : Str), cell)] = some cell
          rw [List.lookup_cons]
          simp
        · have e : V.int p = v := by simpa using hv
          rw [← e]
          exact r0
  refine wpAny_call (codeAny_mono ((ok_far (P := X.prog) (w := X.w) (K := X.K) (base := X.base) hm (fz := fz) (cell := cell) (c' := c')).run X.A X.stack s H [.ref t] [.ref t] [some (.int p)] (fun v H' => v = .int (z.natAbs : Int) ∧ H' = H) (fun _ _ _ => False) hr I.env0 hf hc C (.cons rfl .nil)
    ⟨t, r, p, z, rfl, hT, rfl, ha, rfl, rfl⟩) fun rs s' hq => ?_)
  cases rs with
  | error e => exact False.elim hq
  | ok fl =>
    cases fl with
    | ret u =>
      have hq' := hq
      obtain ⟨v, H', os, bare, un, hok, rv, ev, eH⟩ := hq'
      subst eH
      obtain ⟨v2, H2, I2, rv2, ev2, eH2⟩ := I.after hq
      subst eH2
      rw [ev] at rv
      refine ⟨rv, I2, fun b o e n nb => un.keep b o e n nb (by simp)⟩
    | next => exact False.elim hq
    | brk => exact False.elim hq
    | cont => exact False.elim hq
end
/-! ### the sort itself -/
section
variable {prog : Program} {w : World} {A : Around} {E : Value → Shared → Prop} {s : Shared} {a kS : Addr} {vs : List Value} {kz : List Int} {keys : Array Value} {e e1 : Nat} {P : PySem.Fin → Shared → Prop}
/-- the heap behind it -/
abbrev srtHeap (h : Heap) (kS a : Addr) (out : Array Value) : Heap := (h.update kS (Obj.mapSeq fun _ => (#[] : Array Value))).update a (Obj.mapSeq fun _ => out)
theorem sk_tail {st : SortSt} (nk : s.heap.get? kS = some (seqObj "list" keys e)) (na : s.heap.get? a = some (seqObj "list" #[] e1)) (hka : kS ≠ a)
    (hk : IntsAre keys.toList kz) (hlen : kz.length = vs.length) (h64 : vs.length < 64) (hp : (arrOf st).Perm (keys.zip vs.toArray)) (hs : SortedTo (arrOf st) (arrOf st).size) (hfl : failedOf st = none)
    (h : ∀ out : Array Value, KskOut false kz vs out.toList → out.size = vs.length → P (.done (.ret .none)) { s with heap := srtHeap s.heap kS a out }) :
    wpAny (model prog w) A (ksk_tail a false e1 (.ref kS) st) P E s := by
  have hsz : keys.size = vs.length := by
    have h1 := hk.length
    rw [Array.length_toList] at h1
    omega
  have hsz2 : (arrOf st).size = vs.length := by rw [hp.size_eq, Array.size_zip, hsz, List.size_toArray, Nat.min_self]
  have hout : ((arrOf st).map (·.2)).size = vs.length := by simp only [Array.size_map]; exact hsz2
  have s1 := Heap.SameBut.update s.heap kS (Obj.mapSeq fun _ => (#[] : Array Value))
  have na1 : (s.heap.update kS (Obj.mapSeq fun _ => (#[] : Array Value))).get? a = some (seqObj "list" #[] e1) := (s1.2 a hka.symm).trans na
  unfold ksk_tail
  try dsimp only
  refine wpAny_bind (listUpdate_at nk rfl ?_ (by rw [hsz, sizeLine_eq]; omega) (Nat.zero_le _))
  refine wpAny_bind (wpAny_letGo ?_)
  refine wpAny_bind (seqEpoch_at na1 rfl ?_)
  refine wpAny_bind (listUpdate_at na1 rfl ?_ (Nat.zero_le _) (Nat.le_trans (Nat.le_of_eq (by simpa using hout)) (by rw [sizeLine_eq]; omega)))
  rw [hfl]
  simp only [bne_self_eq_false, Bool.false_eq_true, if_false]
  have ko := ksk_out (b := false) hk hp hs
  simp only [Bool.false_eq_true, if_false] at ko
  exact wpAny_pure (h _ ko hout)
theorem sk_end (nk : s.heap.get? kS = some (seqObj "list" keys e)) (na : s.heap.get? a = some (seqObj "list" #[] e1)) (hka : kS ≠ a)
    (hk : IntsAre keys.toList kz) (hlen : kz.length = vs.length) (h64 : vs.length < 64)
    (h : ∀ out : Array Value, KskOut false kz vs out.toList → out.size = vs.length → P (.done (.ret .none)) { s with heap := srtHeap s.heap kS a out }) :
    wpAny (model prog w) A (ksk_end a false vs.toArray e1 (.ref kS) keys) P E s := by
  have hsz : keys.size = vs.length := by
    have h1 := hk.length
    rw [Array.length_toList] at h1
    omega
  have hzs : (keys.zip vs.toArray).size = vs.length := by rw [Array.size_zip, hsz, List.size_toArray, Nat.min_self]
  unfold ksk_end
  try dsimp only
  simp only [Bool.false_eq_true, if_false]
  by_cases h2 : vs.toArray.size < 2
  · rw [if_pos h2, if_pos h2]
    refine wpAny_bind (wpAny_pure ?_)
    rw [StateT.run_pure]
    refine wpAny_bind (wpAny_pure ?_)
    try dsimp only
    refine sk_tail (st := SortSt.mk' general' (keys.zip vs.toArray) #[] 7 none) nk na hka hk hlen h64 (Array.Perm.refl _) ?_ rfl h
    intro i j hij hj
    have hj2 : j < (keys.zip vs.toArray).size := hj
    rw [hzs] at hj2
    rw [List.size_toArray] at h2
    have : i = j := by omega
    subst this
    exact Int.le_refl _
  · rw [if_neg h2, if_neg h2]
    rw [List.size_toArray] at h2
    rw [ksk_kind hk (by rw [hsz]; omega)]
    refine wpAny_bind (wpAny_pure ?_)
    refine wpAny_bind (wpAny_mono (wpS_sortRuns (a₀ := keys.zip vs.toArray) (st := SortSt.mk' oneType' (keys.zip vs.toArray) #[] 7 none)
      (Q := fun _ st' => (arrOf st').Perm (keys.zip vs.toArray) ∧ failedOf st' = none ∧ SortedTo (arrOf st') (keys.zip vs.toArray).size)
      (ksk_intKeys hk) ⟨Array.Perm.refl _, rfl, rfl, rfl⟩ (by rw [hzs]; omega) (by rw [hzs]; exact h64) fun st' a1 a2 a3 => ⟨a1, a2, a3⟩) ?_ fun _ _ e => e)
    rintro ⟨⟨⟩, st'⟩ s' ⟨rfl, hp, hf, hs⟩
    try dsimp only
    exact sk_tail nk na hka hk hlen h64 hp (by rw [hp.size_eq]; exact hs) hf h
end
end Sh
-- Sk3
set_option maxRecDepth 100000
set_option maxHeartbeats 4000000
/-! sorted(xs, key=led_by(place)): the run -/
namespace Sh
open PySem PySem.Spec PyProof.Rows L2 RZ
open C8 (Cal pe_c)
section
variable {X : Cx} {pins : List (Addr × Obj)} {σ : L2.St} {H : Hp} {s : Shared}
/-- a record of ours that nobody tracked is written and tracked from now on -/
theorem inv_adopt {a : Addr} {xs : List V} {out : List Value} {e1 : Nat} (I : Inv X pins σ H s) (ha : s.heap.get? a = some (seqObj "list" #[] e1)) (hn : H a = none) (h1 : X.s_0.heap.objs.size ≤ a) (h2 : a ≠ X.env.locals) (h3 : ∀ x c, X.env.cells.lookup x = some c → c ≠ a)
    (h4 : ∀ p ∈ X.pn ++ pins, p.1 ≠ a) (h5 : a ∉ X.fs) (rv : Vals xs out) (hz : xs.length ≤ sizeLine) : Inv X pins σ (upd H a (.lst xs)) { s with heap := s.heap.update a (Obj.mapSeq fun _ => out.toArray) } := by
  have sb := Heap.SameBut.update s.heap a (Obj.mapSeq fun _ => out.toArray)
  have key : ∀ b o, b ≠ a → s.heap.get? b = some o → (s.heap.update a (Obj.mapSeq fun _ => out.toArray)).get? b = some o := fun b o hb e => (sb.2 b hb).trans e
  obtain ⟨c2, hc2⟩ : ∃ c2, (s.heap.update a (Obj.mapSeq fun _ => out.toArray)).get? a = some (seqObj "list" out.toArray c2) := ⟨_, get?_update_seq ha fun _ => out.toArray⟩
  have nu : ∀ b u, H b = some u → b ≠ a := fun b u e z => by rw [z, hn] at e; cases e
  refine I.step (g' := s.gens) (t' := s.toks) (d' := s.drawn) (ch := [a]) (fun b hb => ?_) (fun b o _ _ hb e _ => key b o (fun z => hb (by simp [z])) e) (fun b o _ _ hb e _ => ⟨o.slots, key b o (fun z => hb (by simp [z])) e⟩)
    (fun b o hb e n => ?_) (fun b o hb e => ⟨o, key b o (fun z => hb (by simp [z])) e⟩) (fun b xs e => by rw [upd_ne (nu b _ e)]; exact e) (fun b o u e => by rw [upd_ne (nu b _ e)]; exact e) (fun b ps e => ⟨#[], by rw [upd_ne (nu b _ e), e]; simp⟩)
    (fun m hm => ?_) (fun b u e => ?_) I.bare
  · have e : b = a := by simpa using hb
    subst e
    exact ⟨.inr h1, h2, h3, h4⟩
  · have hb' : b ≠ a := fun z => hb (by simp [z])
    rw [upd_ne hb']
    exact n
  · obtain ⟨o, es, ep, ho, r⟩ := hm
    exact ⟨o, es, ep, key _ o (Ne.symm h2) ho, r⟩
  · by_cases hb : b = a
    · subst hb
      rw [upd_same] at e
      cases e
      exact ⟨hz, out, c2, rv, hc2⟩
    · rw [upd_ne hb] at e
      refine (I.hok b u e).stay (fun c v hc q => key c v ?_ q) (fun c q => by rw [upd_ne (nu c _ q)]; exact q) fun c xs q => by rw [upd_ne (nu c _ q)]; exact q
      rcases hc with z | z
      · rw [z]; exact hb
      · exact nu c _ z
theorem frs_lt (I : Inv X pins σ H s) {b : Addr} (hb : b ∈ frs X.stack) : b < s.heap.objs.size := by
  obtain ⟨_, o, ho, _⟩ := I.stack.mem hb
  exact Heap.lt_size ho
/-- what the sort gives -/
def SrtOut (keys : List Int) (ts out : List V) : Prop := ∃ ps : List (Int × V), ps.Perm (keys.zip ts) ∧ out = ps.map Prod.snd ∧ ps.Pairwise fun x y => x.1 ≤ y.1
theorem sorted_far {l fz cell c' : Addr} {u0 : Value} {p : Int} {ts : List V} {keys : List Int} {Q : VK} (hm : X.mg "abs" = none) (hr : Room 3 X.A) (I : Inv X pins σ H s) (hl : H l = some (.lst ts)) (hf : H fz = some (NdefX.FnO fz (mkF cell c'))) (hc : H c' = some (LamX.CodeO c' q_far)) (hn : H cell = none)
    (ic : s.heap.IsCell cell (some u0)) (r0 : RelV (.int p) u0) (cf : cell ∉ frs X.stack) (h64 : ts.length < 64) (hkl : keys.length = ts.length)
    (hk : ∀ (i : Nat) (t : V) (k : Int), ts[i]? = some t → keys[i]? = some k → ∃ (a : Addr) (r : List Int) (z : Int), t = .ref a ∧ SqT X.K H a (r.map V.int) ∧ atI r p = some z ∧ k = z.natAbs)
    (q : ∀ (D : Addr) (H3 : Hp) (out : List V), H D = none → H3 D = some (.lst out) → Same H H3 → SrtOut keys ts out → Q (.ref D) H3) :
    wpAny (model X.prog X.w) X.A (call (.builtin "sorted") [.ref l] [(Str.ofString "key", .ref fz)]) (EP X pins σ Q) X.xe s := by
  obtain ⟨its, rv, hpl, hz⟩ := I.list (SqL.of hl)
  have hli := hpl.isList
  have hil : its.length = ts.length := rv.length.symm
  have hz' : its.toArray.size ≤ sizeLine := by rw [List.size_toArray, hil]; exact hz
  have hI0 := I
  refine call_function_entry_kw kind_sorted plain_sorted entry_sorted (ksk_s1 _ _) ?_
  unfold Builtin.«sorted»
  refine wpAny_bind (m := checkCount "sorted" 1 1 _) (wpAny_pure ?_)
  refine wpAny_bind (collect_list hli ?_ (by rw [List.size_toArray] at hz'; exact hz'))
  refine wpAny_bind (wpAny_newList ?_ (by rw [List.size_toArray] at hz'; exact hz'))
  have hsz : ((s.heap.push (seqObj "list" #[] 0)).update s.heap.objs.size (Obj.mapSeq (· ++ its.toArray))).objs.size = s.heap.objs.size + 1 := by
    rw [Heap.size_update, size_push']
  obtain ⟨a, ea⟩ : ∃ a, a = s.heap.objs.size + 1 := ⟨_, rfl⟩
  have hoL : (((s.heap.push (seqObj "list" #[] 0)).update s.heap.objs.size (Obj.mapSeq (· ++ its.toArray))).push (seqObj "list" its.toArray 0)).get? a = some (seqObj "list" its.toArray 0) := by
    rw [ea, ← hsz]; exact Heap.get?_push_size _ rfl
  have keep1 : ∀ b o, s.heap.get? b = some o → b ≠ a ∧ (((s.heap.push (seqObj "list" #[] 0)).update s.heap.objs.size (Obj.mapSeq (· ++ its.toArray))).push (seqObj "list" its.toArray 0)).get? b = some o := fun b o q => by
    have hlt : b < s.heap.objs.size := Heap.lt_size q
    refine ⟨by rw [ea]; exact Nat.ne_of_lt (Nat.lt_succ_of_lt hlt), Heap.get?_push_of_some _ ?_⟩
    rw [Heap.get?_update_ne _ _ _ _ (Nat.ne_of_lt hlt)]
    exact Heap.get?_push_of_some _ q
  show wpAny _ _ _ _ _ { s with heap := ((s.heap.push (seqObj "list" #[] 0)).update s.heap.objs.size (Obj.mapSeq (· ++ its.toArray))).push (seqObj "list" its.toArray 0) }
  rw [hsz, ← ea]
  generalize hh1 : ((s.heap.push (seqObj "list" #[] 0)).update s.heap.objs.size (Obj.mapSeq (· ++ its.toArray))).push (seqObj "list" its.toArray 0) = h1 at hoL keep1
  have hale : s.heap.objs.size ≤ a := by rw [ea]; exact Nat.le_succ _
  clear hh1 hsz ea
  refine wpAny_bind (wpAny_holding (wpAny_call_entry_kw slot_list_sort ⟨_, hoL, rfl⟩ entry_list_sort ?body (ksk_l1 _ _)))
  rw [ksk_t1]
  have s1 := Heap.SameBut.update h1 a (Obj.mapSeq fun _ => (#[] : Array Value))
  obtain ⟨e1, ho1⟩ : ∃ e1, (h1.update a (Obj.mapSeq fun _ => (#[] : Array Value))).get? a = some (seqObj "list" #[] e1) := ⟨_, get?_update_seq hoL fun _ => #[]⟩
  unfold ksk_tree
  refine wpAny_bind (listItems_at hoL rfl ?_)
  refine wpAny_bind (listUpdate_at hoL rfl ?_ hz' (Nat.zero_le _))
  refine wpAny_bind (seqEpoch_at ho1 rfl ?_)
  refine wpAny_bind (wpAny_newTuple ?_ (by show its.length ≤ _; rw [hil]; exact hz))
  refine wpAny_bind (wpAny_newList ?_ (Nat.zero_le _))
  refine wpAny_holding ?_
  -- the heap with the emptied list, the held tuple, the keys' list
  have keep2 : ∀ b o, s.heap.get? b = some o → ((h1.update a (Obj.mapSeq fun _ => (#[] : Array Value))).push (seqObj "tuple" its.toArray 0)).get? b = some o := fun b o e =>
    Heap.get?_push_of_some _ ((s1.2 b (keep1 b o e).1).trans (keep1 b o e).2)
  have ha3 : ((h1.update a (Obj.mapSeq fun _ => (#[] : Array Value))).push (seqObj "tuple" its.toArray 0)).get? a = some (seqObj "list" #[] e1) := Heap.get?_push_of_some _ ho1
  show wpAny _ _ (ksk_rest a (.ref fz) false its.toArray e1 (.ref ((h1.update a (Obj.mapSeq fun _ => (#[] : Array Value))).push (seqObj "tuple" its.toArray 0)).objs.size)) _ _ { s with heap := ((h1.update a (Obj.mapSeq fun _ => (#[] : Array Value))).push (seqObj "tuple" its.toArray 0)).push (seqObj "list" #[] 0) }
  generalize ((h1.update a (Obj.mapSeq fun _ => (#[] : Array Value))).push (seqObj "tuple" its.toArray 0)) = h3 at keep2 ha3
  obtain ⟨kS, ekS⟩ : ∃ kS, kS = h3.objs.size := ⟨_, rfl⟩
  rw [← ekS]
  have hnA : H a = none := I.hok.fresh hale
  have I3 : Inv (inB X) pins σ H { s with heap := h3 } := (Inv_inB I).kept (t' := s.toks) keep2
  have hnK : H kS = none := I3.hok.fresh (by rw [ekS]; exact Nat.le_refl _)
  have hka : kS ≠ a := by rw [ekS]; exact Nat.ne_of_gt (Heap.lt_size ha3)
  have hkSle : s.heap.objs.size ≤ kS := Nat.le_trans hale (by rw [ekS]; exact Nat.le_of_lt (Heap.lt_size ha3))
  have I4 : Inv (inB X) pins σ (upd H kS (.lst [])) { s with heap := h3.push (seqObj "list" #[] 0) } :=
    I3.laid (t' := s.toks) (fun b u e => Heap.get?_push_of_some _ e) (by show h3.objs.size ≤ kS; rw [ekS]; exact Nat.le_refl _) ⟨Nat.zero_le _, [], 0, .nil, by rw [ekS]; exact Heap.get?_push_size _ rfl⟩
  have ha4 : (h3.push (seqObj "list" #[] 0)).get? a = some (seqObj "list" #[] e1) := Heap.get?_push_of_some _ ha3
  have ic4 : (h3.push (seqObj "list" #[] 0)).IsCell cell (some u0) := by
    obtain ⟨o, ho, hd⟩ := ic
    exact ⟨o, Heap.get?_push_of_some _ (keep2 _ _ ho), hd⟩
  have nA : a ∉ frs X.stack := fun z => absurd (Nat.lt_of_lt_of_le (frs_lt I z) hale) (Nat.lt_irrefl _)
  have nfk : ∀ b o, H b = some o → b ≠ kS := fun b o e => ne_of_none e hnK
  have hcellK : cell ≠ kS := by
    obtain ⟨o, ho, _⟩ := ic
    exact Nat.ne_of_lt (Nat.lt_of_lt_of_le (Heap.lt_size ho) hkSle)
  unfold ksk_rest
  refine wpAny_bind (wpAny_rule ?_)
  rw [List.forIn_toArray]
  refine wpAny_bind (ksk_fold (fun i s' => Inv (inB X) pins σ (upd H kS (.lst ((keys.take i).map V.int))) s' ∧ s'.heap.get? a = some (seqObj "list" #[] e1) ∧ s'.heap.IsCell cell (some u0)) its 0 _ ⟨by simpa using I4, ha4, ic4⟩ ?step ?done)
  case step =>
    rintro j x s' hx ⟨J, ja, jc⟩
    simp only [Nat.zero_add] at J ⊢
    have hj : j < its.length := (List.getElem?_eq_some_iff.mp hx).1
    obtain ⟨k, hkj⟩ : ∃ k, keys[j]? = some k := ⟨_, List.getElem?_eq_getElem (by omega)⟩
    obtain ⟨t, htj⟩ : ∃ t, ts[j]? = some t := ⟨_, List.getElem?_eq_getElem (by omega)⟩
    obtain ⟨ta, r, z, rfl, hT, haz, rfl⟩ := hk j t k htj hkj
    obtain ⟨u, hu, ru⟩ := rv.get htj
    rw [hx] at hu
    cases hu
    obtain rfl : x = Value.ref ta := ru
    have sm : Same H (upd H kS (.lst ((keys.take j).map V.int))) := fun b o e => by rw [upd_ne (nfk b o e)]; exact e
    refine wpAny_bind (wpAny_attempt (wpAny_mono (far_turn (X := inB X) hm (room_inB hr) J (sm _ _ hf) (sm _ _ hc) (by rw [upd_ne hcellK]; exact hn) jc r0 (seq_t sm hT) haz) (fun v s'' he => ?_) fun _ _ hF => hF.elim))
    obtain ⟨⟨tk, rfl⟩, J2, kp⟩ := he
    try dsimp only
    have ja2 := kp a _ ja (by rw [upd_ne (Ne.symm hka)]; exact hnA) nA
    obtain ⟨oc, hoc, hdc⟩ := jc
    have jc2 := kp cell _ hoc (by rw [upd_ne hcellK]; exact hn) cf
    obtain ⟨hzK, kA, eK, rK, hK⟩ := J2.hok kS _ upd_same
    have s2 := Heap.SameBut.update s''.heap kS (Obj.mapSeq (·.push (.int (z.natAbs : Int) tk)))
    obtain ⟨c2, hc2⟩ : ∃ c2, (s''.heap.update kS (Obj.mapSeq (·.push (.int (z.natAbs : Int) tk)))).get? kS = some (seqObj "list" (kA.toArray.push (.int (z.natAbs : Int) tk)) c2) := ⟨_, get?_update_seq hK (·.push (.int (z.natAbs : Int) tk))⟩
    have hkAl : kA.toArray.size ≤ its.length := by
      have e := rK.length
      rw [List.length_map, List.length_take] at e
      rw [List.size_toArray]
      omega
    refine wpAny_bind (listUpdate_at hK rfl ?_ (Nat.le_trans hkAl (by rw [hil]; exact hz)) (Nat.le_trans (Nat.le_of_eq (Array.size_push ..)) (by rw [sizeLine_eq]; omega)))
    have ek : (keys.take (j + 1)).map V.int = (keys.take j).map V.int ++ [V.int (z.natAbs : Int)] := by rw [List.take_add_one, hkj]; simp
    have W := J2.write (x := kS) (e := kS) (o := .lst ((keys.take (j + 1)).map V.int)) (h' := s''.heap.update kS (Obj.mapSeq (·.push (.int (z.natAbs : Int) tk)))) (t' := s''.toks) (by rw [upd_same]; trivial) (.inl rfl) (fun b u hb e => (s2.2 b hb).trans e) ⟨_, hc2⟩
      ⟨by rw [List.length_map, List.length_take, sizeLine_eq]; omega, kA ++ [.int (z.natAbs : Int) tk], c2, by rw [ek]; exact rK.append (.cons ⟨tk, rfl⟩ .nil), by rw [hc2]; simp⟩
    rw [upd_upd] at W
    exact wpAny_pure ⟨rfl, W, (s2.2 a (Ne.symm hka)).trans ja2, oc, (s2.2 cell hcellK).trans jc2, hdc⟩
  case done =>
    rintro s' ⟨J, ja, jc⟩
    rw [Nat.zero_add, List.take_of_length_le (by omega)] at J
    obtain ⟨hzK, kA, eK, rK, hK⟩ := J.hok kS _ upd_same
    have hki : IntsAre kA keys := rK.ints
    try dsimp only
    refine wpAny_bind (listItems_at hK rfl ?_)
    refine sk_end (keys := kA.toArray) (kz := keys) hK ja hka (by simpa using hki) (by omega) (by omega) fun out ko ho => ?_
    refine ⟨_, rfl, wpAny_pure ⟨_, rfl, ?_⟩⟩
    -- the keys' list emptied, the list filled
    have s2 := Heap.SameBut.update s'.heap kS (Obj.mapSeq fun _ => (#[] : Array Value))
    obtain ⟨c2, hc2⟩ : ∃ c2, (s'.heap.update kS (Obj.mapSeq fun _ => (#[] : Array Value))).get? kS = some (seqObj "list" #[] c2) := ⟨_, get?_update_seq hK fun _ => #[]⟩
    have W := J.write (x := kS) (e := kS) (o := .lst []) (h' := s'.heap.update kS (Obj.mapSeq fun _ => (#[] : Array Value))) (t' := s'.toks) (by rw [upd_same]; trivial) (.inl rfl) (fun b u hb e => (s2.2 b hb).trans e) ⟨_, hc2⟩ ⟨Nat.zero_le _, [], c2, .nil, hc2⟩
    rw [upd_upd] at W
    obtain ⟨ps, hp, hout, hso⟩ := ko
    have hrefs : ∀ x ∈ ts, ∃ b, x = V.ref b := fun x hx => by
      obtain ⟨i, hi⟩ := List.mem_iff_getElem?.mp hx
      have hil2 : i < ts.length := (List.getElem?_eq_some_iff.mp hi).1
      obtain ⟨b, _, _, e, _⟩ := hk i x _ hi (List.getElem?_eq_getElem (by omega))
      exact ⟨b, e⟩
    obtain ⟨et, hall⟩ := refs_back rv hrefs
    have hmem : ∀ v ∈ out.toList, ∃ b, v = Value.ref b := fun v hv => by
      rw [hout] at hv
      obtain ⟨y, hy, rfl⟩ := List.mem_map.mp hv
      exact hall _ (List.of_mem_zip (a := y.1) (b := y.2) (hp.mem_iff.mp hy)).2
    have rvo := vals_back hmem
    have hlo : (out.toList.map backV).length = ts.length := by rw [List.length_map, Array.length_toList, ho, hil]
    have W2 := inv_adopt (X := inB X) W ((s2.2 a (Ne.symm hka)).trans ja) (by rw [upd_ne (Ne.symm hka)]; exact hnA) (Nat.le_trans I.sz hale) (Nat.ne_of_gt (Nat.lt_of_lt_of_le I.lt hale))
      (fun x c e z => by
        obtain ⟨v, o, ho, _⟩ := I.cell x c e
        exact absurd (Nat.lt_of_lt_of_le (Heap.lt_size ho) hale) (by rw [z]; exact Nat.lt_irrefl _))
      (fun q hq z => absurd (Nat.lt_of_lt_of_le (Heap.lt_size (I.pin q hq).1) hale) (by rw [z]; exact Nat.lt_irrefl _)) (I.nofs hale) rvo (by rw [hlo]; exact hz)
    have W3 := Inv_outB I.ok W2
    rw [Array.toArray_toList] at W3
    refine ⟨.ref a, _, W3, rfl, q a _ (out.toList.map backV) hnA upd_same (fun b o e => ?_) ⟨ps.map fun y => (y.1, backV y.2), ?_, ?_, ?_⟩⟩
    · rw [upd_ne (ne_of_none e hnA), upd_ne (nfk b o e)]
      exact e
    · have h1 := hp.map (fun y : Int × Value => (y.1, backV y.2))
      have e2 : (keys.zip its).map (fun y : Int × Value => (y.1, backV y.2)) = keys.zip ts := by
        rw [et, List.zip_map_right]
        rfl
      rw [e2] at h1
      exact h1
    · rw [hout, List.map_map, List.map_map]
      rfl
    · rw [List.pairwise_map]
      exact hso.imp fun h => by simpa using h
end
end Sh
-- Sk4
set_option maxRecDepth 100000
set_option maxHeartbeats 4000000
/-! sorted(xs, key=led_by(place)): the rule, at data -/
namespace Sh
open PySem PySem.Spec PyProof.Rows L2 RZ
open C8 (Cal pe_c)
/-- what is known of led_by: its code object, its table -/
structure LedAt (K : PySem.W.Frag) (mg : Str → Option Value) (base : Heap) (T : Tb) : Prop where
  ex : ∃ (f c Pt : Addr) (fd : FuncData) (nm : Nat → Nat → Str), FnP K "led_by" s_led f fd ∧ mg "led_by" = some (.ref f) ∧ (∀ fd' : FuncData, (∃ oc od sl, K.lookup f = some ⟨oc, od, .func fd', sl⟩) → fd'.code = .ref c) ∧ LamX.TabB base mg c Pt ∧
    (Pt, nm) ∈ T ∧ (∀ i j, nm i j = q_far) ∧ ∀ p ∈ T, p.1 = Pt → p.2 = nm
def srtPost (K : PySem.W.Frag) (T : Tb) (Q : VK) (v k : V) (H2 : Hp) : Prop := ∃ (l : Addr) (ts : List V) (p : Int) (keys : List Int), v = .ref l ∧ k = .int p ∧ H2 l = some (.lst ts) ∧ NdefX.TabsN T H2 ∧ ts.length < 64 ∧ keys.length = ts.length ∧
  (∀ (i : Nat) (t : V) (k : Int), ts[i]? = some t → keys[i]? = some k → ∃ (a : Addr) (r : List Int) (z : Int), t = .ref a ∧ SqT K H2 a (r.map V.int) ∧ atI r p = some z ∧ k = z.natAbs) ∧
  ∀ (D : Addr) (H3 : Hp) (out : List V), H2 D = none → H3 D = some (.lst out) → LamX.ExtN H2 H3 → (∀ b, H3 b = none → H2 b = none) → NdefX.TabsN T H3 → SrtOut keys ts out → Q (.ref D) H3
def tSrt (K : PySem.W.Frag) (T : Tb) (ta tb : TE) : TE := fun σ H Q => ta σ H fun v H1 => tb σ H1 fun k H2 => srtPost K T Q v k H2
section
variable {X : Cx} {K : PySem.W.Frag} {T : Tb} {ta tb : TE} {e e2 : Expr} {p p2 pos pos2 kp : Pos}
theorem pe_srt (hK : X.K = K) (L : LedAt X.K X.mg X.base T) (hr : Room 4 X.A) (hm : X.mg "abs" = none) (hg : Gl X "sorted") (hms : X.mg "sorted" = none) (hgl : Gl X "led_by") (ha : PE X e ta) (hb : PE X e2 tb)
    (sa : starEach [e] X.env = (false, eval e X.env) :: starEach [] X.env := by rfl) (sb : starEach [e2] X.env = (false, eval e2 X.env) :: starEach [] X.env := by rfl)
    (he : backTo pos (starEach [e] X.env) = (false, eval e X.env) :: backTo pos (starEach [] X.env) := by rfl) (hpl : (backTo pos (starEach [e] X.env)).any (·.1) = false := by rfl) (hpl2 : (backTo pos2 (starEach [] X.env)).any (·.1) = false := by rfl)
    (hall : (backToKw pos (keywordEach [⟨some "key", .Call (.Name "led_by" p2) [e2] [] pos2, kp⟩] X.env)).all (·.1.isSome) = true := by rfl) (hnone : (backToKw pos (keywordEach [⟨some "key", .Call (.Name "led_by" p2) [e2] [] pos2, kp⟩] X.env)).any (·.1.isNone) = false := by rfl)
    (hks : (backToKw pos (keywordEach [⟨some "key", .Call (.Name "led_by" p2) [e2] [] pos2, kp⟩] X.env)).filterMap (·.1) = [Str.ofString "key"] := by rfl) :
    PE X (.Call (.Name "sorted" p) [e] [⟨some "key", .Call (.Name "led_by" p2) [e2] [] pos2, kp⟩] pos) (tSrt K T ta tb) := by
  subst hK
  obtain ⟨f, c, Pt, fd, nm, F, hmf, hcode, TB, hm1, hm2, hm3⟩ := L.ex
  refine ⟨fun pins s σ H Q I h => ?_⟩
  refine wpAny_Call_Name_kw (ld_blt I hg hms PyProof.Rows.boot_sorted ?_)
  have hpa : PA X [e] (tCons ta tNil) := pa_cons ha pa_nil sa
  have hpb : PA X [e2] (tCons tb tNil) := pa_cons hb pa_nil sb
  refine PyProof.Rows.callWith_kw (thn (hpa.run pos pins s σ H (fun vs H1 => match vs with | [v] => tb σ H1 (fun k H2 => srtPost X.K T Q v k H2) | _ => False) I h) fun us s1 ⟨vs, H1, I1, r1, q1⟩ => ?_) he hpl hall hnone
  obtain ⟨v, rfl⟩ : ∃ v, vs = [v] := by
    cases vs with
    | nil => exact q1.elim
    | cons v r => cases r with
      | nil => exact ⟨v, rfl⟩
      | cons => exact q1.elim
  have q1 : tb σ H1 (fun k H2 => srtPost X.K T Q v k H2) := q1
  obtain ⟨u1, rfl, ru1⟩ := vals1 r1
  rw [hks]
  show wpAny _ _ (evalAll ((do let v ← eval (.Call (.Name "led_by" p2) [e2] [] pos2) X.env; standAt pos; pure v) :: [])) _ _ s1
  refine wpAny_evalAll_cons (wpAny_bind ?_)
  refine wpAny_Call_Name_kw (ld_glob I1 hgl hmf ?_)
  refine PySem.W.callWith_K (h₀ := X.base) I1.ok.mod.kin F.kp (thn (hpb.run pos2 pins s1 σ H1 (fun ks H2 => match ks with | [k] => srtPost X.K T Q v k H2 | _ => False) I1 q1) fun ws s2 ⟨ks, H2, I2, r2, q2⟩ => ⟨I2.kIn, ?_⟩) sb hpl2
  obtain ⟨k, rfl⟩ : ∃ k, ks = [k] := by
    cases ks with
    | nil => exact q2.elim
    | cons v r => cases r with
      | nil => exact ⟨v, rfl⟩
      | cons => exact q2.elim
  have q2 : srtPost X.K T Q v k H2 := q2
  obtain ⟨u2, rfl, ru2⟩ := vals1 r2
  obtain ⟨l, ts, pl, keys, rfl, rfl, hl, hT, h64, hkl, hk, q⟩ := q2
  obtain rfl : u1 = Value.ref l := ru1
  refine wpAny_call (codeAny_mono (led_run F hcode TB hm1 hm2 hm3 (hr.mono (by decide)) I2.env0 ru2 hT) fun r s3 ⟨u', er, z⟩ => ?_)
  subst er
  obtain ⟨fz, c', cell, u0, H3, rfl, zos, zb, zun, zok, zx, zn, zt, zf, zc, znc, zic, zr, zs⟩ := z
  obtain ⟨v3, H3', I3, _, e3, eH3⟩ := I2.after (Q := fun v H' => v = .ref fz ∧ H' = H3) ⟨.ref fz, H3, zos, zb, zun, zok, rfl, rfl, rfl⟩
  subst eH3
  refine wpAny_bind (wpAny_standAt (wpAny_pure (wpAny_evalAll_nil ?_)))
  show wpAny _ _ (call (.builtin "sorted") [.ref l] [(Str.ofString "key", .ref fz)]) _ _ _
  have cf : cell ∉ frs X.stack := fun y => absurd (Nat.lt_of_lt_of_le (frs_lt I2 y) zs) (Nat.lt_irrefl _)
  have seqx : ∀ {a : Addr} {xs : List V}, SqT X.K H2 a xs → SqT X.K H3' a xs := fun {a xs} h => by
    rcases h with (h | ⟨o, h⟩) | h
    · exact .inl (.inl (zx _ _ h (fun _ y => by cases y)))
    · exact .inl (.inr ⟨o, zx _ _ h (fun _ y => by cases y)⟩)
    · exact .inr h
  refine sorted_far hm (hr.mono (by decide)) I3 (zx _ _ hl (fun _ y => by cases y)) zf zc znc zic zr cf h64 hkl (fun i t k h1 h2 => ?_) fun D H4 out d1 d2 d3 d4 => ?_
  · obtain ⟨a, r, y, e1, e2, e3, e4⟩ := hk i t k h1 h2
    exact ⟨a, r, y, e1, seqx e2, e3, e4⟩
  · exact q D H4 out (zn D d1) d2 (zx.trans (LamX.ExtN.of d3)) (fun b hb => zn b (d3.free hb)) (zt.ext d3) d4
end
/-! ### at data -/
theorem zip_get {α β : Type} {xs : List α} {ys : List β} {p : α × β} (h : p ∈ xs.zip ys) : ∃ i : Nat, xs[i]? = some p.1 ∧ ys[i]? = some p.2 := by
  obtain ⟨i, hi⟩ := List.mem_iff_getElem?.mp h
  obtain ⟨h1, h2⟩ := List.getElem?_zip_eq_some.mp hi
  exact ⟨i, h1, h2⟩
theorem perm_map_inv {α β : Type} (f : α → β) {l m : List β} (h : l.Perm m) : ∀ Z : List α, Z.map f = m → ∃ Z' : List α, Z'.Perm Z ∧ Z'.map f = l := by
  induction h with
  | nil => exact fun Z e => ⟨Z, .refl _, e⟩
  | @cons x l m h ih =>
    intro Z e
    cases Z with
    | nil => cases e
    | cons z Z =>
      rw [List.map_cons] at e
      injection e with e1 e2
      obtain ⟨Z', p, q⟩ := ih Z e2
      exact ⟨z :: Z', p.cons z, by rw [List.map_cons, e1, q]⟩
  | swap x y l =>
    intro Z e
    cases Z with
    | nil => cases e
    | cons z Z =>
      cases Z with
      | nil =>
        rw [List.map_cons] at e
        injection e with _ e
        cases e
      | cons z2 Z =>
        rw [List.map_cons, List.map_cons] at e
        injection e with e1 e2
        injection e2 with e2 e3
        exact ⟨z2 :: z :: Z, .swap _ _ _, by rw [List.map_cons, List.map_cons, e1, e2, e3]⟩
  | trans h1 h2 ih1 ih2 =>
    intro Z e
    obtain ⟨Z1, p1, q1⟩ := ih2 Z e
    obtain ⟨Z2, p2, q2⟩ := ih1 Z1 q1
    exact ⟨Z2, p2.trans p1, q2⟩
theorem dqa_of {G : Hp} {α : Type} (f : α → V) (g : α → DD) : ∀ {l : List α}, (∀ x ∈ l, Dq G (f x) (g x)) → DqAll G (l.map f) (l.map g)
  | [], _ => .nil
  | x :: l, h => .cons (h x (List.mem_cons_self ..)) (dqa_of f g fun y hy => h y (List.mem_cons_of_mem _ hy))
/-- rows in order by how great they are at a place -/
def SrtBy (p : Nat) (rs out : List (List Int)) : Prop := out.Perm rs ∧ out.Pairwise fun x y => (x.getD p 0).natAbs ≤ (y.getD p 0).natAbs
section
variable {K : PySem.W.Frag} {T : Tb} {δ : Dl} {ta tb : TE}
theorem dqa_rows {G : Hp} : ∀ {rs : List (List Int)} {vs : List V}, DqAll G vs (rs.map pR) → ∃ ads : List Addr, vs = ads.map V.ref ∧ ads.length = rs.length ∧ ∀ (i : Nat) (a : Addr) (r : List Int), ads[i]? = some a → rs[i]? = some r → G a = some (.tup (r.map V.int))
  | [], _, h => by
    cases h
    exact ⟨[], rfl, rfl, fun i a r e => by simp at e⟩
  | r :: rs, _, h => by
    cases h with
    | cons h1 h2 =>
      cases h1 with
      | @tup a xs _ hp hd =>
        obtain ⟨ads, e1, e2, e3⟩ := dqa_rows h2
        refine ⟨a :: ads, by rw [e1]; rfl, by simp [e2], fun i b r' x y => ?_⟩
        cases i with
        | zero =>
          have x : a = b := by simpa using x
          have y : r = r' := by simpa using y
          subst x
          subst y
          rw [hp, dqa_ints_inv hd]
        | succ i => exact e3 i b r' (by simpa using x) (by simpa using y)
theorem ew_srt {rs : List (List Int)} {p : Nat} (h : ED T ta δ (pLR rs)) (hb : ED T tb δ (.int p)) (hl : rs.length < 64) (hp : ∀ r ∈ rs, p < r.length) :
    EW T (tSrt K T ta tb) δ (fun d => ∃ out, d = pLR out ∧ SrtBy p rs out) := fun σ G H o Q q =>
  h σ G H o _ fun v G1 H1 s1 d1 => hb σ G1 H1 (o.step s1) _ fun k G2 H2 s2 d2 => by
    cases d2
    have d1 := dq_mono s2.gg _ _ d1
    have d1 : Dq G2 v (.list (rs.map pR)) := d1
    cases d1 with
    | @lst l ts _ hpl hd =>
      have o2 := (o.step s1).step s2
      obtain ⟨ads, rfl, hal, hat⟩ := dqa_rows hd
      refine ⟨l, _, (p : Int), rs.map fun r => ((r.getD p 0).natAbs : Int), rfl, rfl, s2.gh _ _ hpl, o2.t, by simpa [hal] using hl, by simp [hal], fun i t k e1 e2 => ?_, fun D H3 out n1 n2 n3 n4 n5 n6 => ?_⟩
      · rw [List.getElem?_map] at e1 e2
        cases ea : ads[i]? with
        | none => rw [ea] at e1; cases e1
        | some a =>
          rw [ea] at e1
          cases e1
          cases er : rs[i]? with
          | none => rw [er] at e2; cases e2
          | some r =>
            rw [er] at e2
            cases e2
            have hlt := hp r (List.mem_of_getElem? er)
            refine ⟨a, r, r.getD p 0, rfl, SqT.of (s2.gh _ _ (hat i a r ea er)), atI_nat ?_, rfl⟩
            rw [List.getElem?_eq_getElem hlt]
            simp [List.getD, hlt]
      · -- the pairs, with their rows
        have gD : G2 D = none := s2.gh.free n1
        obtain ⟨ps, p1, p2, p3⟩ := n6
        have st : Step T G2 H2 (upd G2 D (.lst out)) H3 := by
          refine ⟨fun b u e => (by rw [upd_ne (ne_of_none e gD)]; exact e), fun b u e => ?_, n3, n4, fun b u e n => ?_, fun _ => n5, fun b ps e => ?_⟩
          · by_cases hb : b = D
            · subst hb
              rw [upd_same] at e
              rw [n2]
              exact e
            · rw [upd_ne hb] at e
              exact n3 b u (s2.gh b u e) fun ps z => by
                subst z
                exact o2.nt b ps e
          · by_cases hb : b = D
            · subst hb
              exact n1
            · rw [upd_ne hb, n] at e
              cases e
          · by_cases hb : b = D
            · subst hb
              rw [upd_same] at e
              cases e
            · rw [upd_ne hb] at e
              exact e
        -- rows of the pairs
        have key : ∃ rows : List (List Int), rows.Perm rs ∧ rows.Pairwise (fun x y => (x.getD p 0).natAbs ≤ (y.getD p 0).natAbs) ∧ DqAll G2 out (rows.map pR) := by
          have ez : ((rs.zip ads).map fun y => (((y.1.getD p 0).natAbs : Int), V.ref y.2)) = (rs.map fun r => ((r.getD p 0).natAbs : Int)).zip (ads.map V.ref) := by
            rw [List.zip_map]
            rfl
          obtain ⟨Z, z1, z2⟩ := perm_map_inv _ p1 (rs.zip ads) ez
          refine ⟨Z.map Prod.fst, ?_, ?_, ?_⟩
          · have e := z1.map Prod.fst
            rw [List.map_fst_zip (by omega)] at e
            exact e
          · rw [List.pairwise_map]
            rw [← z2, List.pairwise_map] at p3
            exact p3.imp fun h => by simpa using h
          · rw [p2, ← z2, List.map_map, List.map_map]
            refine dqa_of _ _ fun y hy => ?_
            obtain ⟨i, h1, h2⟩ := zip_get (z1.mem_iff.mp hy)
            exact .tup (hat i y.2 y.1 h2 h1) (dqa_ints _)
        obtain ⟨rows, k1, k2, k3⟩ := key
        exact q _ _ _ _ ⟨rows, rfl, k1, k2⟩ ((s1.trans s2).trans st) (.lst upd_same (dqa_mono st.gg _ _ k3))
end
end Sh
-- Sd2
set_option maxRecDepth 100000
set_option maxHeartbeats 4000000
/-! common_divisor, stepped -/
namespace Sh
open PySem PySem.Spec PyProof.Rows L2 RZ
open C8 (Cal pe_c)
open Mx
theorem mul_ok {x y : Int} {a b : Nat} (hx : x.natAbs ≤ 2 ^ a) (hy : y.natAbs ≤ 2 ^ b) (h : a + b ≤ 999000) : IntMulOk x y := by
  refine (wide_mul (a := a + 1) (b := b + 1) ?_ ?_ (by omega) (by omega) (by omega)).ok
  · exact Nat.lt_of_le_of_lt hx (Nat.pow_lt_pow_right (by decide) (by omega))
  · exact Nat.lt_of_le_of_lt hy (Nat.pow_lt_pow_right (by decide) (by omega))
theorem div_ok {x y : Int} (h0 : y ≠ 0) (hy : y.natAbs ≤ 2 ^ 3200) : CDivB x y := by
  refine ⟨h0, ?_⟩
  have h : y.natAbs ≠ 0 := by omega
  rw [Nat.log2_lt h]
  exact Nat.lt_of_le_of_lt hy (Nat.pow_lt_pow_right (by decide) (by omega))
theorem cut_1 {x : DD} {xs : List DD} : cutD (x :: xs) (some 1) none = xs := by
  unfold cutD
  rw [HT.sIx_none, show (1 : Int) = ((1 : Nat) : Int) from rfl, HT.sIx_nat]
  have e : min 1 (x :: xs).length = 1 := by simp
  rw [e]
  simp
theorem at0 {x : DD} {xs : List DD} : atI (x :: xs) 0 = some x := atI_nat (j := 0) rfl
section
variable {P : Program} {w : World} {K : PySem.W.Frag} {mg : Str → Option Value} {base : Heap} {T : Tb}
abbrev s_common_divisor : Stmt := top 14
abbrev N_common_divisor : List Str := ["one", "other"]
theorem sc_common_divisor : FnScope N_common_divisor ["one", "other"] (defScope s_common_divisor) := ⟨rfl, rfl, rfl, by decide +kernel, rfl, by decide +kernel, by decide +kernel⟩
def R_common_divisor (ds : List DD) (post : DD → Prop) : Prop := ∃ a b : Int, ds = [.int a, .int b] ∧ post (.int (Int.gcd a b))
theorem cal_common_divisor (E : Bl mg) (D : DefAt K mg "common_divisor" s_common_divisor) : Cal P w K mg base 1 "common_divisor" (spD T R_common_divisor) [] := by
  refine cal_d D sc_common_divisor (fun _ _ _ _ _ _ us hl => match us, hl with | [_, _], _ => rfl) (fun ds post h => ?_) (fun f cdv A outer s H E0 hr ds post h => ?_)
  · obtain ⟨a, b, rfl, _⟩ := h
    rfl
  · obtain ⟨a, b, rfl, hp⟩ := h
    refine ⟨_, (pss_cons (ps_par (i := 0) (j := 1) rfl sc_common_divisor.nd rfl rfl (by decide) rfl rfl (pa_cons (pe_callB cr_abs (by rfl) E.abs (by decide +kernel) (pa_cons (pv 0) pa_nil)) (pa_cons (pe_callB cr_abs (by rfl) E.abs (by decide +kernel) (pa_cons (pv 1) pa_nil)) pa_nil)) (by rfl)) (pss_cons (ps_while PassesOwn.never (pt_cmpR op_gt (pv 1) pe_int (nomark _)) (pss_one (ps_par (i := 0) (j := 1) rfl sc_common_divisor.nd rfl rfl (by decide) rfl rfl (pa_cons (pv 1) (pa_cons (pe_op op_modN (pv 0) (pv 1)) pa_nil)) (by rfl)))) (pss_one (ps_ret (pv 0))))), ?_⟩
    refine sd_seq (sd_par (ea_cons (ed_cb (ea_cons (ed_var rfl) ea_nil) rc_abs) (ea_cons (ed_cb (ea_cons (ed_var rfl) ea_nil) rc_abs) ea_nil)) ?_)
    refine sd_seq (sd_while (fun m δ => ∃ x y : Nat, Nat.gcd x y = Int.gcd a b ∧ m = y ∧ δ = [some (.int x), some (.int y)]) b.natAbs ⟨a.natAbs, b.natAbs, rfl, rfl, rfl⟩ ?_)
    rintro m δ1 ⟨x, y, hg, rfl, rfl⟩
    refine ⟨_, et_test (ed_op (ed_var rfl) ed_int rd_B0), fun hb => ?_, fun hb => ?_⟩
    · have hy : 0 < m := by simpa using hb
      refine sd_par (ea_cons (ed_var rfl) (ea_cons (ed_op (ed_var rfl) (ed_var rfl) (rd_I (by omega))) ea_nil)) ?_
      refine ⟨x % m, Nat.mod_lt _ hy, m, x % m, ?_, rfl, ?_⟩
      · rw [← hg, Nat.gcd_comm m, ← Nat.gcd_rec, Nat.gcd_comm]
      · have e : (x : Int).fmod (m : Int) = ((x % m : Nat) : Int) := by rw [Int.fmod_eq_emod_of_nonneg _ (by omega)]; rfl
        rw [e]
        rfl
    · have hy : m = 0 := by simpa using hb
      subst hy
      refine sd_ret (ed_var rfl) ?_
      rw [Nat.gcd_zero_right] at hg
      rw [hg]
      exact hp
abbrev s_stepped : Stmt := top 17
abbrev N_stepped : List Str := ["rows", "long", "found", "left", "place", "some", "rest", "head", "row"]
theorem sc_stepped : FnScope N_stepped ["rows", "long"] (defScope s_stepped) := ⟨rfl, rfl, rfl, by decide +kernel, rfl, by decide +kernel, by decide +kernel⟩
def R_stepped (ds : List DD) (post : DD → Prop) : Prop := ∃ (S : List Mx.Row) (w long : Nat), ds = [pLR S, .int long] ∧ S.length ≤ 6 ∧ long ≤ 4 ∧ long ≤ w ∧ w ≤ 1000 ∧ (∀ r ∈ S, r.length = w) ∧ Bd (2 ^ 8) S ∧
  ∀ found left, StpN long w S found left → found.length ≤ long → post (.tuple [pLR found, pLR left])
theorem cal_stepped (E : Bl mg) (L : LedAt K mg base T) (c_rows_less : Cal P w K mg base 1 "rows_less" (spD T R_rows_less) []) (c_row_times : Cal P w K mg base 1 "row_times" (spD T R_row_times) []) (D : DefAt K mg "stepped" s_stepped) :
    Cal P w K mg base 5 "stepped" (spD T R_stepped) [] := by
  refine cal_d D sc_stepped (fun _ _ _ _ _ _ us hl => match us, hl with | [_, _], _ => rfl) (fun ds post h => ?_) (fun f cdv A outer s H E0 hr ds post h => ?_)
  · obtain ⟨S, w, long, rfl, _⟩ := h
    rfl
  · obtain ⟨S, w, long, rfl, hS, hl4, hlw, hw1, hw, hbd, hp⟩ := h
    refine ⟨_, (pss_cons (ps_par (i := 2) (j := 3) rfl sc_stepped.nd rfl rfl (by decide) rfl rfl (pa_cons (pe_lst pa_nil) (pa_cons (pe_lc (own := [("row", 8)]) rfl sc_stepped.nd (k_list (K := K) rfl (pv 0)) (blkOk_by (own := [("row", 8)]) (N := N_stepped) (sc := (defScope s_stepped)) (by decide +kernel)) (fun _ _ _ _ _ => (pg_name (i := 8) sc_stepped.nd rfl (Or.inl rfl) (Or.inr rfl))) (fun _ _ _ _ _ => pts_nil) (fun _ _ _ _ _ => (pe_callTy (k_tupOf (K := K) rfl) (by rfl) E.tuple (by decide +kernel) (pa_cons (pv 8) pa_nil)))) pa_nil)) (by rfl)) (pss_cons (ps_for PassesOwn.never rfl (pi_range1 (by rfl) E.range (pa_cons (pv 1) pa_nil)) (pg_name (i := 4) sc_stepped.nd rfl (Or.inr rfl) (Or.inl rfl)) (pss_cons (ps_par (i := 5) (j := 6) rfl sc_stepped.nd rfl rfl (by decide) rfl rfl (pa_cons (pe_lc (own := [("row", 8)]) rfl sc_stepped.nd (k_list (K := K) rfl (pv 3)) (blkOk_by (own := [("row", 8)]) (N := N_stepped) (sc := (defScope s_stepped)) (by decide +kernel)) (fun _ _ _ _ _ => (pg_name (i := 8) sc_stepped.nd rfl (Or.inl rfl) (Or.inr rfl))) (fun _ _ _ _ _ => (pts_one (pt_cmpR op_ne (pe_ix (k_ix (K := K) rfl) (pv 8) (pv 4) (fun _ _ => rfl)) pe_int (nomark _)))) (fun _ _ _ _ _ => (pv 8))) (pa_cons (pe_lc (own := [("row", 8)]) rfl sc_stepped.nd (k_list (K := K) rfl (pv 3)) (blkOk_by (own := [("row", 8)]) (N := N_stepped) (sc := (defScope s_stepped)) (by decide +kernel)) (fun _ _ _ _ _ => (pg_name (i := 8) sc_stepped.nd rfl (Or.inl rfl) (Or.inr rfl))) (fun _ _ _ _ _ => (pts_one (pt_cmpR op_eq (pe_ix (k_ix (K := K) rfl) (pv 8) (pv 4) (fun _ _ => rfl)) pe_int (nomark _)))) (fun _ _ _ _ _ => (pv 8))) pa_nil)) (by rfl)) (pss_cons (ps_while PassesOwn.never (pt_cmpR op_gt (pe_callB (k_len (K := K) rfl) (by rfl) E.len PySem.boot_len (pa_cons (pv 5) pa_nil)) pe_int (nomark _)) (pss_cons (ps_set (i := 5) sc_stepped.nd rfl (Or.inl rfl) (pe_srt (K := K) (T := T) rfl L (hr.mono (by decide)) E.abs (by rfl) E.sorted (by rfl) (pv 5) (pv 4))) (pss_cons (ps_set (i := 7) sc_stepped.nd rfl (Or.inr rfl) (pe_ix (k_ix (K := K) rfl) (pv 5) pe_int (fun _ _ => rfl))) (pss_cons (ps_set (i := 5) sc_stepped.nd rfl (Or.inl rfl) (pe_op op_cat (pe_lst (pa_cons (pv 7) pa_nil)) (pe_lc (own := [("row", 8)]) rfl sc_stepped.nd (k_list (K := K) rfl (pe_slice (k_sll (K := K) rfl) (pv 5) (po_some pe_int) po_none)) (blkOk_by (own := [("row", 8)]) (N := N_stepped) (sc := (defScope s_stepped)) (by decide +kernel)) (fun _ _ _ _ _ => (pg_name (i := 8) sc_stepped.nd rfl (Or.inl rfl) (Or.inr rfl))) (fun _ _ _ _ _ => pts_nil) (fun _ _ _ _ _ => (pe_c c_rows_less hr (by omega) (by rfl) (pa_cons (pv 8) (pa_cons (pe_c c_row_times hr (by omega) (by rfl) (pa_cons (pv 7) (pa_cons (pe_op op_fdivB (pe_ix (k_ix (K := K) rfl) (pv 8) (pv 4) (fun _ _ => rfl)) (pe_ix (k_ix (K := K) rfl) (pv 7) (pv 4) (fun _ _ => rfl))) pa_nil))) pa_nil))))))) (pss_cons (ps_set (i := 6) sc_stepped.nd rfl (Or.inl rfl) (pe_op op_cat (pv 6) (pe_lc (own := [("row", 8)]) rfl sc_stepped.nd (k_list (K := K) rfl (pv 5)) (blkOk_by (own := [("row", 8)]) (N := N_stepped) (sc := (defScope s_stepped)) (by decide +kernel)) (fun _ _ _ _ _ => (pg_name (i := 8) sc_stepped.nd rfl (Or.inl rfl) (Or.inr rfl))) (fun _ _ _ _ _ => (pts_one (pt_cmpR op_eq (pe_ix (k_ix (K := K) rfl) (pv 8) (pv 4) (fun _ _ => rfl)) pe_int (nomark _)))) (fun _ _ _ _ _ => (pv 8))))) (pss_one (ps_setLc (i := 5) (own := [("row", 8)]) rfl sc_stepped.nd rfl rfl (sw_true rfl rfl rfl (by decide +kernel)) (k_list (K := K) rfl (pv 5)) (blkOk_by (own := [("row", 8)]) (N := N_stepped) (sc := (defScope s_stepped)) (by decide +kernel)) (fun _ _ _ _ _ => (pg_name (i := 8) sc_stepped.nd rfl (Or.inl rfl) (Or.inr rfl))) (fun _ _ _ _ _ => (pts_one (pt_cmpR op_ne (pe_ix (k_ix (K := K) rfl) (pv 8) (pv 4) (fun _ _ => rfl)) pe_int (nomark _)))) (fun _ _ _ _ _ => (pv 8))))))))) (pss_cons (ps_set (i := 3) sc_stepped.nd rfl (Or.inl rfl) (pv 6)) (pss_one (ps_if (pt_cmpR op_eq (pe_callB (k_len (K := K) rfl) (by rfl) E.len PySem.boot_len (pa_cons (pv 5) pa_nil)) pe_int (nomark _)) (pss_cons (ps_set (i := 7) sc_stepped.nd rfl (Or.inr rfl) (pe_ifExp (pt_cmpR op_gt (pe_ix (k_ix (K := K) rfl) (pe_ix (k_ix (K := K) rfl) (pv 5) pe_int (fun _ _ => rfl)) (pv 4) (fun _ _ => rfl)) pe_int (nomark _)) (pe_ix (k_ix (K := K) rfl) (pv 5) pe_int (fun _ _ => rfl)) (pe_c c_row_times hr (by omega) (by rfl) (pa_cons (pe_ix (k_ix (K := K) rfl) (pv 5) pe_int (fun _ _ => rfl)) (pa_cons (pe_un un_neg pe_int) pa_nil))))) (pss_one (ps_set (i := 2) sc_stepped.nd rfl (Or.inl rfl) (pe_op op_cat (pe_lc (own := [("row", 8)]) rfl sc_stepped.nd (k_list (K := K) rfl (pv 2)) (blkOk_by (own := [("row", 8)]) (N := N_stepped) (sc := (defScope s_stepped)) (by decide +kernel)) (fun _ _ _ _ _ => (pg_name (i := 8) sc_stepped.nd rfl (Or.inl rfl) (Or.inr rfl))) (fun _ _ _ _ _ => pts_nil) (fun _ _ _ _ _ => (pe_c c_rows_less hr (by omega) (by rfl) (pa_cons (pv 8) (pa_cons (pe_c c_row_times hr (by omega) (by rfl) (pa_cons (pv 7) (pa_cons (pe_op op_fdivB (pe_ix (k_ix (K := K) rfl) (pv 8) (pv 4) (fun _ _ => rfl)) (pe_ix (k_ix (K := K) rfl) (pv 7) (pv 4) (fun _ _ => rfl))) pa_nil))) pa_nil))))) (pe_lst (pa_cons (pv 7) pa_nil)))))) pss_nil)))))) (pss_one (ps_ret (pe_tup (pa_cons (pv 2) (pa_cons (pv 3) pa_nil))))))), ?_⟩
    refine sd_seq (sd_par (e := pLR S) (ea_cons (ed_lst ea_nil (by decide)) (ea_cons (ed_lc1 S pR pR (id_list (ed_var rfl)) (by omega) fun r hr => ⟨_, _, by simp, tg_name, ed_cb (ea_cons (ed_var rfl) ea_nil) rc_tupT⟩) ea_nil)) ?_)
    refine sd_seq (sd_for (List.range long) (fun i => PyData.int (i : Nat)) ?_ (fun i δ => ∃ found left a4 a5 a6 a7, StpN i w S found left ∧ found.length ≤ i ∧ δ = [some (pLR S), some (.int long), some (pLR found), some (pLR left), a4, a5, a6, a7, none])
      ⟨[], S, none, none, none, none, stpN_start hw hbd, Nat.le_refl _, rfl⟩ ?_ ?_)
    · rw [← rgD_nat]
      exact id_range1 (n := (long : Int)) (ea_cons (ed_var rfl) ea_nil) (by omega) (by omega)
    · rintro i x δ1 hx ⟨found, left, a4, a5, a6, a7, st, hfl, rfl⟩
      obtain ⟨hi, hxi⟩ := List.getElem?_eq_some_iff.mp hx
      rw [List.getElem_range] at hxi
      rw [List.length_range] at hi
      subst hxi
      have hle : left.length ≤ 6 := Nat.le_trans st.cnt hS
      have hiw : i < w := by omega
      have hat : ∀ r : Mx.Row, r.length = w → atI (r.map PyData.int) (i : Int) = some (PyData.int (at_ r i)) := fun r h => at_int (by omega)
      refine ⟨_, _, tg_name, ?_⟩
      refine sd_seq (sd_par (d := pLR (left.filter (nz i))) (e := pLR (left.filter (iz i))) (ea_cons (ed_lc left pR (nz i) pR (id_list (ed_var rfl)) (by omega) fun r hr => ⟨_, _, by simp, tg_name, ?_, fun _ => ed_var rfl⟩)
        (ea_cons (ed_lc left pR (iz i) pR (id_list (ed_var rfl)) (by omega) fun r hr => ⟨_, _, by simp, tg_name, ?_, fun _ => ed_var rfl⟩) ea_nil)) ?_)
      · exact et_test (ed_op (ed_op (ed_var rfl) (ed_var rfl) (rd_ix_t (hat r (st.wl r hr)))) ed_int rd_neI)
      · exact et_test (ed_op (ed_op (ed_var rfl) (ed_var rfl) (rd_ix_t (hat r (st.wl r hr)))) ed_int rd_eqI)
      refine sd_seq (sd_while (fun m δ => ∃ sm rest a7, InnN i w left sm rest ∧ m = msr i sm ∧ δ = [some (pLR S), some (.int long), some (pLR found), some (pLR left), some (.int i), some (pLR sm), some (pLR rest), a7, none]) (msr i (left.filter (nz i)))
        ⟨_, _, a7, innN_start st, rfl, rfl⟩ ?_)
      rintro m δ1 ⟨sm, rest, a7, I, rfl, rfl⟩
      have hcnt := I.cnt
      have hB : Bd (2 ^ 22408) (sm ++ rest) := (inn_bd I).mono (Nat.le_trans (c_le hle) (Nat.pow_le_pow_right (by decide) (bL_le4 (by omega)))) fun _ h => h
      have hbL : 2 ^ bL i ≤ 2 ^ 3200 := Nat.pow_le_pow_right (by decide) (bL_le (by omega))
      refine ⟨_, et_test (ed_op (ed_cb (ea_cons (ed_var rfl) ea_nil) rc_lenL) ed_int rd_B0), fun hb => ?_, fun hb => ?_⟩
      · have h2 : 1 < sm.length := by
          have : (1 : Int) < sm.length := by simpa using hb
          omega
        refine sd_seq (sw_asg (ew_srt (p := i) (ed_var rfl) (ed_var rfl) (by omega) fun r hr => by rw [I.wd r (List.mem_append_left _ hr)]; exact hiw) ?_)
        rintro d ⟨out, rfl, hperm, hpw⟩
        refine ⟨_, _, tg_name, ?_⟩
        obtain ⟨h, os, rfl⟩ : ∃ h os, out = h :: os := by
          cases out with
          | nil => have := hperm.length_eq; simp at this; omega
          | cons h os => exact ⟨h, os, rfl⟩
        have hos : os ≠ [] := by
          rintro rfl
          have := hperm.length_eq
          simp at this
          omega
        have mem : ∀ r ∈ h :: os, r ∈ sm := fun r hr => hperm.mem_iff.mp hr
        have wd : ∀ r ∈ h :: os, r.length = w := fun r hr => I.wd r (List.mem_append_left _ (mem r hr))
        have hh : h ∈ h :: os := List.mem_cons_self ..
        have h0 : at_ h i ≠ 0 := I.n1 h (mem h hh)
        obtain ⟨I2, hms⟩ := inn_round I hperm hpw hos
        refine sd_seq (sd_set (ed_op (ed_var rfl) ed_int (rd_ix_l at0)) ?_)
        refine sd_seq (sd_set (d := pLR (h :: os.map (red i h))) (ed_is (ed_op (ed_lst (ea_cons (ed_var rfl) ea_nil) (by simp)) (ed_lc1 os pR (fun r => pR (red i h r)) (id_list (ed_is (ed_sl (ed_var rfl) (eo_some ed_int) eo_none rs_l) ?_)) ?_ fun r hr => ⟨_, _, by simp, tg_name, ?_⟩) (rd_cat ?_)) ?_) ?_)
        · show PyData.list (cutD (pR h :: os.map pR) (some 1) none) = _
          rw [cut_1]
        · have := hperm.length_eq
          simp at this
          omega
        · have hr' := List.mem_cons_of_mem h hr
          refine ed_call (ea_cons (ed_var rfl) (ea_cons (ed_call (ea_cons (ed_var rfl) (ea_cons (ed_op (ed_op (ed_var rfl) (ed_var rfl) (rd_ix_t (hat r (wd r hr')))) (ed_op (ed_var rfl) (ed_var rfl) (rd_ix_t (hat h (wd h hh)))) (rd_I (C := CDivB) ?_)) ea_nil))
            ⟨h, (at_ r i).fdiv (at_ h i), rfl, ?_, ?_, rfl⟩) ea_nil)) ⟨r, _, rfl, ?_, rfl⟩
          · exact div_ok h0 (Nat.le_trans (I.pb h (mem h hh)) hbL)
          · rw [wd h hh]; exact hw1
          · intro x hx
            refine mul_ok (a := 22408) (b := 3200) (hB h (List.mem_append_left _ (mem h hh)) x hx) ?_ (by decide)
            exact Nat.le_trans (qq_le h0) (Nat.le_trans (I.pb r (mem r hr')) hbL)
          · rw [wd r hr']; exact hw1
        · have := hperm.length_eq
          simp at this ⊢
          omega
        · show PyData.list _ = PyData.list _
          rw [List.map_cons, List.map_map]
          rfl
        refine sd_seq (sd_set (d := pLR (rest ++ (h :: os.map (red i h)).filter (iz i))) (ed_is (ed_op (ed_var rfl) (ed_lc (h :: os.map (red i h)) pR (iz i) pR (id_list (ed_var rfl)) ?_ fun r hr => ⟨_, _, by simp, tg_name, ?_, fun _ => ed_var rfl⟩) (rd_cat ?_)) ?_) ?_)
        · have := hperm.length_eq
          simp at this ⊢
          omega
        · refine et_test (ed_op (ed_op (ed_var rfl) (ed_var rfl) (rd_ix_t (hat r ?_))) ed_int rd_eqI)
          rcases List.mem_cons.mp hr with e | hr
          · rw [e]; exact wd h hh
          · obtain ⟨o, ho, rfl⟩ := List.mem_map.mp hr
            rw [len_red (by rw [wd o (List.mem_cons_of_mem _ ho), wd h hh]), wd o (List.mem_cons_of_mem _ ho)]
        · have := hperm.length_eq
          have f := List.length_filter_le (iz i) (h :: os.map (red i h))
          simp only [List.length_map, List.length_cons] at this f ⊢
          omega
        · show PyData.list _ = PyData.list _
          rw [List.map_append]
        refine sd_asg (d := pLR ((h :: os.map (red i h)).filter (nz i))) (ed_lc (h :: os.map (red i h)) pR (nz i) pR (id_list (ed_var rfl)) ?_ fun r hr => ⟨_, _, by simp, tg_name, ?_, fun _ => ed_var rfl⟩) tg_name ⟨_, hms, _, _, _, I2, rfl, rfl⟩
        · have := hperm.length_eq
          simp at this ⊢
          omega
        · refine et_test (ed_op (ed_op (ed_var rfl) (ed_var rfl) (rd_ix_t (hat r ?_))) ed_int rd_neI)
          rcases List.mem_cons.mp hr with e | hr
          · rw [e]; exact wd h hh
          · obtain ⟨o, ho, rfl⟩ := List.mem_map.mp hr
            rw [len_red (by rw [wd o (List.mem_cons_of_mem _ ho), wd h hh]), wd o (List.mem_cons_of_mem _ ho)]
      · have h2 : sm.length ≤ 1 := by
          have : (sm.length : Int) ≤ 1 := by simpa using hb
          omega
        refine sd_seq (sd_set (ed_var rfl) ?_)
        refine sd_if (et_test (ed_op (ed_cb (ea_cons (ed_var rfl) ea_nil) rc_lenL) ed_int rd_eqI)) (fun hb1 => ?_) fun hb1 => ?_
        · have h1 : sm.length = 1 := by
            have : ((sm.map pR).length : Int) = 1 := by simpa using hb1
            simp at this
            omega
          obtain ⟨h, rfl⟩ : ∃ h, sm = [h] := List.length_eq_one_iff.mp h1
          have hlh : h.length = w := I.wd h (by simp)
          have h0 : at_ h i ≠ 0 := I.n1 h (by simp)
          have st2 := stpN_one st (by omega) hS I
          refine sd_seq (sd_set (d := pR (pos i h)) (ed_if (b := decide (0 < at_ h i)) (et_is (et_test (ed_op (ed_op (ed_op (ed_var rfl) ed_int (rd_ix_l at0)) (ed_var rfl) (rd_ix_t (hat h hlh))) ed_int rd_B0)) rfl) (fun hb => ed_is (ed_op (ed_var rfl) ed_int (rd_ix_l at0)) ?_)
            fun hb => ed_is (ed_call (ea_cons (ed_op (ed_var rfl) ed_int (rd_ix_l at0)) (ea_cons (ed_un ed_int ru_I) ea_nil)) ⟨h, -1, rfl, by omega, ?_, rfl⟩) ?_) ?_)
          · unfold pos
            rw [if_pos (by simpa using hb)]
          · intro x hx
            exact mul_ok (a := 22408) (b := 0) (hB h (by simp) x hx) (by decide) (by decide)
          · unfold pos
            rw [if_neg (by simpa using hb)]
          have hq0 : at_ (pos i h) i ≠ 0 := by have := pos_lead h0; omega
          have hqb : (at_ (pos i h) i).natAbs ≤ 2 ^ 3200 := by
            have k := I.pb h (by simp)
            rcases pos_at i h with e | e
            · rw [e]; omega
            · rw [e]; omega
          have hlp : (pos i h).length = w := by rw [len_pos, hlh]
          refine sd_set (d := pLR (found.map (red i (pos i h)) ++ [pos i h])) (ed_is (ed_op (ed_lc1 found pR (fun r => pR (red i (pos i h) r)) (id_list (ed_var rfl)) (by omega) fun r hr => ⟨_, _, by simp, tg_name, ?_⟩) (ed_lst (ea_cons (ed_var rfl) ea_nil) (by simp)) (rd_cat ?_)) ?_) ?_
          · refine ed_call (ea_cons (ed_var rfl) (ea_cons (ed_call (ea_cons (ed_var rfl) (ea_cons (ed_op (ed_op (ed_var rfl) (ed_var rfl) (rd_ix_t (hat r (st.wf r hr)))) (ed_op (ed_var rfl) (ed_var rfl) (rd_ix_t (hat _ hlp))) (rd_I (C := CDivB) ?_)) ea_nil))
              ⟨pos i h, (at_ r i).fdiv (at_ (pos i h) i), rfl, ?_, ?_, rfl⟩) ea_nil)) ⟨r, _, rfl, ?_, rfl⟩
            · exact div_ok hq0 hqb
            · rw [hlp]; exact hw1
            · intro x hx
              refine mul_ok (a := 22408) (b := 26136) (bd_pos (hB h (by simp)) x hx) ?_ (by decide)
              exact Nat.le_trans (qq_le hq0) (Nat.le_trans (st.fb.at_ hr i) (Nat.pow_le_pow_right (by decide) (bF_le (by omega))))
            · rw [st.wf r hr]; exact hw1
          · simp; omega
          · show PyData.list _ = PyData.list _
            rw [List.map_append, List.map_map]
            rfl
          · exact ⟨_, _, _, _, _, _, st2, by simp; omega, rfl⟩
        · have h1 : sm = [] := by
            have : ¬ ((sm.map pR).length : Int) = 1 := by simpa using hb1
            simp at this
            exact List.length_eq_zero_iff.mp (by omega)
          subst h1
          exact sd_next ⟨_, _, _, _, _, _, stpN_none st hS I, by omega, rfl⟩
    · rintro δ1 ⟨found, left, a4, a5, a6, a7, st, hfl, rfl⟩
      rw [List.length_range] at st hfl
      exact sd_ret (ed_tup (ea_cons (ed_var rfl) (ea_cons (ed_var rfl) ea_nil)) (by simp)) (hp _ _ st hfl)
end
end Sh
-- Se
set_option maxRecDepth 100000
set_option maxHeartbeats 4000000
/-! enumerate of a tuple -/
namespace Sh
open PySem PySem.Spec PyProof.Rows L2 RZ
open AutoSeq1 (wpAny_loadPart')
theorem meets_enum_t (l : Addr) (items : Array Value) (n : Nat) (dct : Option Addr) (sl : Array (Option Value)) :
    Meets (Builtin.«enumerate.__new__» ⟨[.type "enumerate", .ref l], []⟩) (fun _ R s => s.heap.get? l = some { cls := .type "tuple", dict := dct, data := .seq items n, slots := sl } ∧
      R (.ok (.ret (.ref (s.heap.push { cls := .type "tuple_iterator", data := .fields #[.ref l, .int 0 0] }).objs.size)))
        { s with heap := (s.heap.push { cls := .type "tuple_iterator", data := .fields #[.ref l, .int 0 0] }).push { cls := .type "enumerate", data := .fields #[.none, .bool false, .ref s.heap.objs.size, rawInt 0, .none, .none] } }) :=
  .of_wp fun prog w A R s h => by
    obtain ⟨hp, g, d, tk, os⟩ := s; obtain ⟨hl, h⟩ := h
    have hsub := sub_enumerate
    have hL : Heap.IsTuple (Shared.heap ⟨hp, g, d, tk, os⟩) l items := ⟨_, hl, rfl, n, rfl⟩
    wp_walk using wpAny_loadPart' hl
    refine wpAny_stack_any fun st => wpAny_pure ?_
    split
    · rename_i c _ _ _ _ _
      cases (c == Value.type "enumerate")
      · wp_walk using wpAny_loadPart' hl, wpAny_pyIter_tuple hL
        exact ⟨_, rfl, h⟩
      · wp_walk using wpAny_loadPart' hl, wpAny_pyIter_tuple hL
        exact ⟨_, rfl, h⟩
    · wp_walk using wpAny_loadPart' hl, wpAny_pyIter_tuple hL
      exact ⟨_, rfl, h⟩
theorem call_enum_t {prog : Program} {w : World} {A : Around} {E : Value → Shared → Prop} {s : Shared} {l : Addr} {items : Array Value} {Q : Value → Shared → Prop} (hL : s.heap.IsTuple l items)
    (h : ∀ h', IsEnum h' (s.heap.objs.size + 1) s.heap.objs.size 0 .none → h'.IsTupleIter s.heap.objs.size l 0 → h'.objs.size = s.heap.objs.size + 2 →
      (∀ b o, s.heap.get? b = some o → h'.get? b = some o) → Q (.ref (s.heap.objs.size + 1)) { s with heap := h' }) :
    wpAny (model prog w) A (call (.type "enumerate") [.ref l]) Q E s := by
  obtain ⟨⟨c, dct, dt, sl⟩, hl, hc, n, hd⟩ := hL
  replace hc : c = .type "tuple" := hc
  replace hd : dt = .seq items n := hd
  subst hc hd
  refine callType_new F.called_enumerate (by decide) (F.typeCall_enumerate_1 _) (F.newCall_enumerate_1 _) (fun obj => F.args_object_init_2 obj _) F.entry_enumerate_new
    (meets_enum_t l items n dct sl) ⟨hl, ?_⟩
  have hz : (s.heap.push { cls := .type "tuple_iterator", data := .fields #[.ref l, .int 0 0] }).objs.size = s.heap.objs.size + 1 := Heap.size_push ..
  show _ ∧ _
  rw [hz]
  have he : IsEnum ((s.heap.push { cls := .type "tuple_iterator", data := .fields #[.ref l, .int 0 0] }).push
      { cls := .type "enumerate", data := .fields #[.none, .bool false, .ref s.heap.objs.size, rawInt 0, .none, .none] }) (s.heap.objs.size + 1) s.heap.objs.size 0 .none := by
    have := Heap.get?_push_size (s.heap.push { cls := .type "tuple_iterator", data := .fields #[.ref l, .int 0 0] })
      (o := { cls := .type "enumerate", data := .fields #[.none, .bool false, .ref s.heap.objs.size, rawInt 0, .none, .none] }) rfl
    rw [hz] at this; exact this
  refine ⟨⟨_, he, rfl⟩, h _ he ⟨_, Heap.get?_push_of_some _ (Heap.get?_push_size _ rfl), rfl, rfl⟩ (by rw [Heap.size_push, hz]) fun b o x => Heap.get?_push_of_some _ (Heap.get?_push_of_some _ x)⟩
def IteT (K : PySem.W.Frag) (a : Addr) : It :=
  ⟨fun i H => ∃ (xs : List V) (x : V), SqT K H a xs ∧ xs[i]? = some x, fun i H v H' => ∃ T x, v = .ref T ∧ H T = none ∧ H' = upd H T (.tup [.int (i : Nat), x]) ∧ ∀ xs, SqT K H a xs → xs[i]? = some x, fun i H => ∃ xs : List V, SqT K H a xs ∧ xs.length ≤ i⟩
theorem next_enum_end_t {prog : Program} {w : World} {A : Around} {E : Value → Shared → Prop} {s : Shared} {e it l : Addr} {i : Nat} {items : Array Value} {old : Value} {Q : Option Value → Shared → Prop} (hh : A.handled = none)
    (he : IsEnum s.heap e it i old) (hit : s.heap.IsTupleIter it l i) (hl : s.heap.IsTuple l items) (hx : items[i]? = none)
    (hQ : ∀ h', Heap.ExtBut it s.heap h' → Q none { s with heap := h' }) : wpAny (model prog w) A (pyNext (.ref e)) Q E s := by
  have hT : s.TypeIs (.ref e) "enumerate" := ⟨_, he, rfl⟩
  unfold pyNext
  refine wpAny_bind (wpAny_attempt (wpAny_callSpecial?_slot (name := Str.ofString "__next__") hT F.slot_enumerate_next
    (wpAny_call_entry F.slot_enumerate_next hT F.entry_enumerate_next ?_ (F.args_enumerate_next_1 _))))
  show wpAny _ _ (field (.ref e) 2 >>= _) _ _ _
  refine wpAny_bind (wpAny_field he rfl (x := .ref it) rfl ?_)
  refine wpAny_bind (wpAny_nextOf_tuple_end hh hit hl hx fun h' x he' hx' => ?_)
  obtain ⟨o, ho, hc⟩ := hx'
  refine wpAny_bind (wpAny_isInstance (T := "StopIteration") (b := true) ⟨o, ho, hc⟩ isSubtype_stop ?_)
  exact wpAny_pure (hQ _ he')
theorem turn_enum_t {P : Program} {w : World} {K : PySem.W.Frag} {elts : List Expr} {kk : Nat} {tpos : Pos} (a e it : Addr) (hne0 : a ≠ it) (hae : e ≠ a) :
    Turn P w K (.Tuple elts kk tpos) (IteT K a) [e, it] e (fun i h => (∃ old, IsEnum h e it ((i : Nat) : Int) old) ∧ h.IsTupleIter it a i ∧ e ≠ it) where
  mem := by simp
  obj := fun i h st b hb => by
    obtain ⟨⟨old, he⟩, ⟨o, ho, hc, hd⟩, _⟩ := st
    have e' : b = e ∨ b = it := by simpa using hb
    rcases e' with z | z
    · rw [z]; exact ⟨_, he, fun v q => nomatch q⟩
    · rw [z]; exact ⟨o, ho, fun v q => by rw [hd] at q; cases q⟩
  keep := fun i h h' st k => let ⟨⟨old, he⟩, hi, hne⟩ := st; ⟨⟨old, k e (by simp) _ he⟩, hi.at fun o q => k it (by simp) o q, hne⟩
  item := by
    intro X hP hw hK hc i pins s σ H E I hf st hg
    subst hP hw hK
    obtain ⟨⟨old, he⟩, hit, hne⟩ := st
    obtain ⟨xs, x, hq, hx⟩ := hg
    obtain ⟨its, rv, ⟨o0, ho0, hc0, n0, hd0⟩, hs0⟩ := I.tuple hq
    have hT0 : s.heap.IsTuple a its.toArray := ⟨o0, ho0, hc0, n0, hd0⟩
    obtain ⟨u, hu, ru⟩ := rv.get hx
    have hel : e < s.heap.objs.size := Heap.lt_size he
    have hil : it < s.heap.objs.size := by obtain ⟨_, q, _⟩ := hit; exact Heap.lt_size q
    have hlt : i < its.toArray.size := by simpa using (List.getElem?_eq_some_iff.mp hu).1
    refine wpAny_pyNext_enum_itemD (Draws.tuple (A := X.A.in1) (I.ok.hd hc) it a hne0 its.toArray) he ⟨hit, hT0⟩ hlt hne (by simp [hne, hae]) fun x' h' tk hP ho hst hT hsz hk => ?_
    have ex' : x' = u := by
      have : its.toArray[i]? = some u := by simpa using hu
      rw [this] at hP
      exact (Option.some.inj hP).symm
    subst ex'
    refine ⟨_, rfl, wpAny_letOwnedTupleGo_enum (s := { s with heap := h', toks := tk + 1 }) ho fun h'' he' sb => ?_⟩
    have hT2 : h''.get? s.heap.objs.size = some { cls := .type "tuple", data := .seq #[.int i tk, x'] } := (sb.2 _ (Nat.ne_of_gt hel)).trans hT
    have new : ObjOk X.prog X.w (upd H s.heap.objs.size (.tup [.int (i : Nat), x])) h'' s.heap.objs.size (.tup [.int (i : Nat), x]) :=
      ⟨by show 2 ≤ sizeLine; decide, [.int i tk, x'], .cons ⟨_, rfl⟩ (.cons ru .nil), ⟨_, hT2, rfl, _, rfl⟩⟩
    have I1 : Inv X pins σ (upd H s.heap.objs.size (.tup [.int (i : Nat), x])) { s with heap := h'', toks := tk + 1 } :=
      I.turnedNew (t' := tk + 1) (ch := [e, it]) (fun b ob hb q => (sb.2 b (fun z => hb (by simp [z]))).trans (hk b ob (fun z => hb (by simp [z])) (fun z => hb (by simp [z])) q)) hf (Nat.le_refl _) new
    refine ⟨.ref s.heap.objs.size, _, I1, rfl, ⟨_, x, rfl, I.hok.fresh (Nat.le_refl _), rfl, fun ys hy => by rw [I.tuple_inj hy hq]; exact hx⟩, ⟨⟨x', ?_⟩, hst.1.at fun o q => (sb.2 it (Ne.symm hne)).trans q, hne⟩, fun b hb => ?_⟩
    · have e1 : ((i + 1 : Nat) : Int) = (i : Int) + 1 := by omega
      rw [e1]; exact he'
    · have hb' : b < s.heap.objs.size := by
        have e' : b = e ∨ b = it := by simpa using hb
        rcases e' with z | z
        · rw [z]; exact hel
        · rw [z]; exact hil
      rw [upd_ne (Nat.ne_of_lt hb')]
      exact (hf b hb).1
  done := by
    intro X hP hw hK hc i pins s σ H E I hf st hg
    subst hP hw hK
    obtain ⟨⟨old, he⟩, hit, hne⟩ := st
    obtain ⟨xs, hq, hx⟩ := hg
    obtain ⟨its, rv, ⟨o0, ho0, hc0, n0, hd0⟩, hs0⟩ := I.tuple hq
    have hT0 : s.heap.IsTuple a its.toArray := ⟨o0, ho0, hc0, n0, hd0⟩
    obtain ⟨f0, f1, f2, f3, f4, f5⟩ := hf it (by simp)
    have hl := rv.length
    refine next_enum_end_t (I.ok.hd hc) he hit hT0 (by simp; omega) fun h' eb => ⟨rfl, I.turned (t' := s.toks) (fun b o hb q => eb b o hb q) f0 f1 f3 f4 f5⟩
  self := fun A i s Q E st h => let ⟨⟨_, he⟩, _⟩ := st; wpAny_pyIter_enum he h
def iEnumT (K : PySem.W.Frag) (ta : TA) : TI := fun σ H R => ta σ H fun vs H1 => ∃ a xs, vs = [.ref a] ∧ SqT K H1 a xs ∧ R (IteT K a) H1
theorem pi_enum_t {X : Cx} {e : Expr} {ta : TA} {p pos tpos : Pos} {elts : List Expr} {kk : Nat} (hg : Gl X "enumerate") (hm : X.mg "enumerate" = none) (ha : PA X [e] ta) (hs : starEach [e] X.env = [(false, eval e X.env)] := by rfl) :
    PI X (.Tuple elts kk tpos) (.Call (.Name "enumerate" p) [e] [] pos) (iEnumT X.K ta) := by
  refine ⟨fun pins s σ H R I h => ?_⟩
  refine Call_ (ld_blt I hg hm boot_enumerate (PyProof.Rows.callWith_type1 (thn (ha.run pos pins s σ H _ I h) fun us s1 ⟨vs, H1, I1, r1, q1⟩ => ?_) hs rfl))
  obtain ⟨a, xs, ex, hq, q⟩ := q1
  subst ex
  cases r1 with
  | cons r rr =>
    cases rr
    cases r
    obtain ⟨its, rv, ⟨o0, ho0, hc0, n0, hd0⟩, hs0⟩ := I1.tuple hq
    have hT0 : s1.heap.IsTuple a its.toArray := ⟨o0, ho0, hc0, n0, hd0⟩
    have hla : a < s1.heap.objs.size := Heap.lt_size ho0
    refine call_enum_t hT0 fun h' he hit hsz hk => wpAny_pyIter_enum he ?_
    have I2 : Inv X pins σ H1 { s1 with heap := h' } := I1.kept (t' := s1.toks) hk
    refine ⟨s1.heap.objs.size + 1, [s1.heap.objs.size + 1, s1.heap.objs.size], _, _, H1, rfl, I2, turn_enum_t a (s1.heap.objs.size + 1) s1.heap.objs.size (Nat.ne_of_lt hla) (fun z => Nat.lt_irrefl _ (Nat.lt_trans (Nat.lt_succ_self _) (z ▸ hla))), ⟨⟨.none, he⟩, hit, Nat.succ_ne_self _⟩, fun b hb => ?_, q⟩
    have e' : b = s1.heap.objs.size + 1 ∨ b = s1.heap.objs.size := by simpa using hb
    have hle : s1.heap.objs.size ≤ b := by
      rcases e' with z | z
      · rw [z]; exact Nat.le_add_right _ _
      · rw [z]; exact Nat.le_refl _
    exact I1.fpOk hle (I1.hok.fresh hle)
theorem k_enumT {X : Cx} {K : PySem.W.Frag} {e : Expr} {ta : TA} {p pos tpos : Pos} {elts : List Expr} {kk : Nat} (hK : X.K = K) (hg : Gl X "enumerate") (hm : X.mg "enumerate" = none) (ha : PA X [e] ta) (hs : starEach [e] X.env = [(false, eval e X.env)] := by rfl) :
    PI X (.Tuple elts kk tpos) (.Call (.Name "enumerate" p) [e] [] pos) (iEnumT K ta) := by subst hK; exact pi_enum_t hg hm ha hs
theorem id_enumT {T : Tb} {δ : Dl} {K : PySem.W.Frag} {ds : List DD} {ta : TA} (h : EA T ta δ [.tuple ds]) : ID T (iEnumT K ta) δ (enD ds) := fun σ G H o R r =>
  h σ G H o _ fun vs G1 H1 s1 d1 => by
    cases d1 with
    | cons u w =>
      cases w
      cases u with
      | @tup a xs _ hp hd =>
        refine ⟨a, xs, rfl, SqT.of (s1.gh _ _ hp), r _ G1 H1 s1 fun i G' H' g gh t => ?_⟩
        have ha : SqT K H' a xs := SqT.of (gh _ _ (g _ _ hp))
        refine ⟨fun d e => ?_, fun e => ⟨xs, ha, ?_⟩⟩
        · unfold enD at e
          rw [List.getElem?_mapIdx] at e
          cases q : ds[i]? with
          | none => rw [q] at e; cases e
          | some z =>
            rw [q] at e
            cases e
            obtain ⟨x, f1, f2⟩ := dqa_get2 hd q
            refine ⟨⟨xs, x, ha, f1⟩, fun v H2 hy => ?_⟩
            obtain ⟨Q, x1, rfl, nQ, rfl, g1⟩ := hy
            have q1 := g1 xs ha
            rw [f1] at q1
            cases q1
            exact pair_new gh nQ (.int _) (dq_mono g _ _ f2)
        · unfold enD at e
          rw [List.length_mapIdx] at e
          rw [dqa_len hd]
          omega
end Sh
-- Sf
set_option maxRecDepth 100000
set_option maxHeartbeats 4000000
/-! isinstance, equality, at data -/
namespace Sh
open PySem PySem.Spec PyProof.Rows L2 RZ
def tyD : DD → String
  | .none => "NoneType" | .bool _ => "bool" | .int _ => "int" | .str _ => "str" | .list _ => "list" | .tuple _ => "tuple" | .dict _ => "dict"
theorem dq_ty {K : PySem.W.Frag} {G H : Hp} {v : V} {d : DD} (s : Same G H) (h : Dq G v d) : TyX K H v (.type (tyD d)) := by
  cases h with
  | non => exact .base .non
  | bl b => exact .base (.bl b)
  | int i => exact .base (.int i)
  | str x => exact .base (.str x)
  | lst hp _ => exact .base (.lst (s _ _ hp))
  | tup hp _ => exact .base (.tup (s _ _ hp))
section
variable {T : Tb} {δ : Dl} {te : TE} {K : PySem.W.Frag} {d : DD} {c : String} {b : Bool}
theorem ed_isi (h : ED T te δ d) (hb : PySem.W.kitOne K (.type (tyD d)) (.type c) = some b) : ED T (tCB (rIsi K) (tCons te (tCons (tC (.ty c)) tNil))) δ (.bool b) := fun σ G H o Q q =>
  h σ G H o _ fun v G1 H1 s1 d1 => ⟨v, .ty c, _, _, b, rfl, .ty c, dq_ty s1.gh d1, hb, q _ G1 H1 s1 (.bl b)⟩
theorem ed_isiT {c' : String} (h : ED T te δ d) (hb : PySem.W.kitAny K (.type (tyD d)) [.type c, .type c'] = some b) :
    ED T (tCB (rIsiT K) (tCons te (tCons (tTup (tCons (tC (.ty c)) (tCons (tC (.ty c')) tNil))) tNil))) δ (.bool b) := fun σ G H o Q q =>
  h σ G H o _ fun v G1 H1 s1 d1 => ⟨by show 2 ≤ sizeLine; decide, fun p hp => by
    have st := (Step.newM (T := T) (o := .tup [.ty c, .ty c']) s1.gh hp)
    exact ⟨v, p, _, _, _, b, rfl, upd_same, .cons (.ty c) (.cons (.ty c') .nil), dq_ty st.gh d1, hb, q _ G1 _ (s1.trans st) (.bl b)⟩⟩
end
example (K : PySem.W.Frag) (i : Int) : PySem.W.kitAny K (.type (tyD (.int i))) [.type "list", .type "tuple"] = some false := rfl
example (K : PySem.W.Frag) (i : List DD) : PySem.W.kitAny K (.type (tyD (.tuple i))) [.type "list", .type "tuple"] = some true := rfl
example (K : PySem.W.Frag) (i : Bool) : PySem.W.kitOne K (.type (tyD (.bool i))) (.type "int") = some true := rfl
/-! ### equality of rows -/
theorem eqv_ints : ∀ (a b : List Int), PyData.eqvAll (a.map PyData.int) (b.map PyData.int) = decide (a = b)
  | [], [] => by simp [PyData.eqvAll]
  | [], _ :: _ => by simp [PyData.eqvAll]
  | _ :: _, [] => by simp [PyData.eqvAll]
  | x :: a, y :: b => by
    simp only [List.map_cons, PyData.eqvAll, PyData.eqv]
    rw [eqv_ints a b]
    by_cases h : x = y <;> by_cases h2 : a = b <;> simp [h, h2]
theorem shaped_ints (a : List Int) : SeqAt.shaped (.tuple (a.map PyData.int)) = true := by
  have h1 : ∀ a : List Int, PyData.canLayAll0 (a.map PyData.int) = true := by
    intro a
    induction a with
    | nil => rfl
    | cons x a ih => simp only [List.map_cons, PyData.canLayAll0, PyData.canLay0, ih, Bool.and_self]
  have h2 : ∀ a : List Int, PyData.depthAll (a.map PyData.int) = 0 := by
    intro a
    induction a with
    | nil => rfl
    | cons x a ih => simp only [List.map_cons, PyData.depthAll, PyData.depth, ih]; rfl
  unfold SeqAt.shaped
  simp [PyData.canLay0, PyData.depth, h1, h2]
theorem shaped_rows (t : List (List Int)) : SeqAt.shaped (.tuple (t.map fun r => .tuple (r.map PyData.int))) = true := by
  have h1 : ∀ a : List Int, PyData.canLayAll0 (a.map PyData.int) = true := by
    intro a
    induction a with
    | nil => rfl
    | cons x a ih => simp only [List.map_cons, PyData.canLayAll0, PyData.canLay0, ih, Bool.and_self]
  have h2 : ∀ a : List Int, PyData.depthAll (a.map PyData.int) = 0 := by
    intro a
    induction a with
    | nil => rfl
    | cons x a ih => simp only [List.map_cons, PyData.depthAll, PyData.depth, ih]; rfl
  have h3 : ∀ t : List (List Int), PyData.canLayAll0 (t.map fun r => .tuple (r.map PyData.int)) = true := by
    intro a
    induction a with
    | nil => rfl
    | cons x a ih => simp only [List.map_cons, PyData.canLayAll0, PyData.canLay0, ih, h1, Bool.and_self]
  have h4 : ∀ t : List (List Int), PyData.depthAll (t.map fun r => .tuple (r.map PyData.int)) ≤ 1 := by
    intro a
    induction a with
    | nil => exact Nat.zero_le _
    | cons x a ih => simp only [List.map_cons, PyData.depthAll, PyData.depth, h2]; omega
  unfold SeqAt.shaped
  have h5 := h4 t
  simp only [PyData.canLay0, PyData.depth, h3, Bool.true_and, decide_eq_true_eq]
  exact decide_eq_true (Nat.le_trans (Nat.succ_le_succ h5) (show Nat.succ 1 ≤ 64 by decide))
end Sh
-- Sd3
set_option maxRecDepth 100000
set_option maxHeartbeats 4000000
/-! tupled, whole_lead, times_for -/
namespace Sh
open PySem PySem.Spec PyProof.Rows L2 RZ
open C8 (Cal pe_c)
open Mx
mutual
/-- lists made tuples -/
def tupD : DD → DD
  | .list xs => .tuple (tupAll xs)
  | .tuple xs => .tuple (tupAll xs)
  | .int i => .int i
  | .none => .none
  | .bool b => .bool b
  | .str x => .str x
  | .dict k => .dict k
def tupAll : List DD → List DD
  | [] => []
  | x :: xs => tupD x :: tupAll xs
end
theorem tupAll_map : ∀ xs : List DD, tupAll xs = xs.map tupD
  | [] => by rw [tupAll]; rfl
  | x :: xs => by rw [tupAll, tupAll_map xs]; rfl
/-- of depth at most n, no part long -/
def Flat : Nat → DD → Prop
  | _, .int _ => True
  | _, .none => True
  | _, .bool _ => True
  | n + 1, .list xs => xs.length ≤ 1000 ∧ ∀ x ∈ xs, Flat n x
  | n + 1, .tuple xs => xs.length ≤ 1000 ∧ ∀ x ∈ xs, Flat n x
  | _, _ => False
/-! ### not wholly known answers -/
section
variable {T : Tb} {δ : Dl} {te ta tb : TE} {e : DD} {r : R2}
theorem ew_op {pa post : DD → Prop} (ha : EW T ta δ pa) (hb : ED T tb δ e) (hr : ∀ d, pa d → ∃ f, RD T r d e f ∧ post f) : EW T (tOp r ta tb) δ post := fun σ G H o Q q =>
  ha σ G H o _ fun d v G1 H1 hd s1 d1 => hb σ G1 H1 (o.step s1) _ fun w G2 H2 s2 d2 => by
    obtain ⟨f, h1, h2⟩ := hr d hd
    exact h1 G2 H2 v w s2.gh (s2.tt (s1.tt o.t)) (dq_mono s2.gg _ _ d1) d2 Q fun z G3 H3 s3 d3 => q f z G3 H3 h2 ((s1.trans s2).trans s3) d3
theorem EW.imp {pa post : DD → Prop} (h : EW T te δ pa) (hp : ∀ d, pa d → post d) : EW T te δ post := fun σ G H o Q q => h σ G H o Q fun d v G2 H2 hd => q d v G2 H2 (hp d hd)
theorem ew_notN {pa post : DD → Prop} (h : EW T ta δ pa) (hp : ∀ d, pa d → post (.bool (match d with | .none => false | _ => true))) : EW T (tNotN ta) δ post := fun σ G H o Q q =>
  h σ G H o _ fun d v G1 H1 hd s1 d1 => q _ _ G1 H1 (hp d hd) s1 (by cases d1 <;> exact .bl _)
theorem ew_orF {post : DD → Prop} (h1 : ED T ta δ (.bool false)) (h2 : EW T tb δ post) : EW T (tOrV ta tb) δ post := fun σ G H o Q q =>
  h1 σ G H o _ fun v G1 H1 s1 d1 => by
    cases d1
    exact ⟨false, rfl, h2 σ G1 H1 (o.step s1) Q fun d w G2 H2 hd s2 d2 => q d w G2 H2 hd (s1.trans s2) d2⟩
theorem et_testW {pa : DD → Prop} {b : Bool} (h : EW T te δ pa) (hp : ∀ d, pa d → d = .bool b) : ET T (tTest te) δ b := fun σ G H o Q q =>
  h σ G H o _ fun d v G1 H1 hd s1 d1 => by
    rw [hp d hd] at d1
    cases d1
    exact ⟨b, rfl, q G1 H1 s1⟩
def IW (T : Tb) (wi : TI) (δ : Dl) (post : List DD → Prop) : Prop := ∀ (σ : L2.St) (G H : Hp), Ok T σ δ G H → ∀ R : It → Hp → Prop, (∀ (J : It) (ds : List DD) (G2 H2 : Hp), post ds → Step T G H G2 H2 → ItD T J ds G2 → R J H2) → wi σ H R
theorem iw_list {K : PySem.W.Frag} {pa : DD → Prop} {post : List DD → Prop} (h : EW T te δ pa) (hp : ∀ d, pa d → ∃ ds, d = .list ds ∧ post ds) : IW T (iList K te) δ post := fun σ G H o R r =>
  h σ G H o _ fun d v G1 H1 hd s1 d1 => by
    obtain ⟨ds, rfl, hds⟩ := hp d hd
    have k := id_list (T := T) (K := K) (δ := [some (.list ds)]) (te := tVar 0) (ds := ds) (ed_var rfl) [some v] G1 H1 ⟨s1.gh, s1.tt o.t, ⟨rfl, fun i d e => by
      cases i with
      | zero => cases e; exact ⟨v, rfl, d1⟩
      | succ i => cases e⟩, (o.step s1).nt⟩ R fun J G2 H2 s2 it => r J ds G2 H2 hds (s1.trans s2) it
    obtain ⟨v', e, k⟩ := k
    cases e
    exact k
/-- for, over items of which only so much is known -/
theorem sw_for {α : Type} {wi : TI} {g : TG} {tb : TS} {nx : Dl → Prop} {rt : DD → Prop} (enc : α → DD) (post : List α → Prop) (hi : IW T wi δ (fun ds => ∃ xs, ds = xs.map enc ∧ post xs))
    (hall : ∀ xs, post xs → ∃ Iv : Nat → Dl → Prop, Iv 0 δ ∧ (∀ (i : Nat) (x : α) (δ1 : Dl), xs[i]? = some x → Iv i δ1 → ∃ tch δ2, TgD T g (enc x) tch δ1 δ2 ∧ SD T tb δ2 (Iv (i + 1)) rt) ∧ ∀ δ1, Iv xs.length δ1 → nx δ1) : SD T (tFor wi g tb) δ nx rt := fun σ G H o D hx hr =>
  hi σ G H o _ fun J ds G1 H1 hds s1 it => by
    obtain ⟨xs, rfl, hxs⟩ := hds
    obtain ⟨Iv, h0, hs, hd⟩ := hall xs hxs
    have o1 := o.step s1
    refine ⟨fun i m σ' H' => m = xs.length - i ∧ i ≤ xs.length ∧ ∃ G' δ', Step T G1 H1 G' H' ∧ Ok T σ' δ' G' H' ∧ Iv i δ', ⟨xs.length, by simp, Nat.zero_le _, G1, δ, Step.refl s1.gh, o1, h0⟩, ?_⟩
    rintro i m σ' H' ⟨rfl, hi', G', δ', st, ok, iv⟩
    have itI := it i G' H' st.gg st.gh ok.t
    by_cases hlt : i < xs.length
    · have ex : (xs.map enc)[i]? = some (enc xs[i]) := by rw [List.getElem?_map, List.getElem?_eq_getElem hlt]; rfl
      obtain ⟨go, yl⟩ := itI.1 _ ex
      refine .inr ⟨go, fun σ'' H'' => i + 1 ≤ xs.length ∧ ∃ G' δ', Step T G1 H1 G' H'' ∧ Ok T σ'' δ' G' H'' ∧ Iv (i + 1) δ', fun σ'' H'' hN => ⟨xs.length - (i + 1), by omega, rfl, hN.1, hN.2⟩, fun x H2 hy => ?_⟩
      obtain ⟨G2, st2, dx⟩ := yl x H2 hy
      obtain ⟨tch, δ2, tg, sb⟩ := hs i xs[i] δ' (List.getElem?_eq_getElem hlt) iv
      refine tg x σ' G2 H2 (ok.step st2) dx _ fun σ2 o2 _ => ?_
      refine sb σ2 G2 H2 o2 _ (fun σ3 δ3 G3 H3 n s3 ok3 => ⟨hlt, G3, δ3, (st.trans st2).trans s3, ok3, n⟩) fun d v G3 H3 r s3 dv => ?_
      exact hr d v G3 H3 r (((s1.trans st).trans st2).trans s3) dv
    · have e : i = xs.length := by omega
      subst e
      exact .inl ⟨itI.2 (by rw [List.length_map]), hx σ' δ' G' H' (hd δ' iv) (s1.trans st) ok⟩
end
section
variable {P : Program} {w : World} {K : PySem.W.Frag} {mg : Str → Option Value} {base : Heap} {T : Tb}
abbrev s_tupled : Stmt := top 4
abbrev N_tupled : List Str := ["matter", "bit"]
theorem sc_tupled : FnScope N_tupled ["matter"] (defScope s_tupled) := ⟨rfl, rfl, rfl, by decide +kernel, rfl, by decide +kernel, by decide +kernel⟩
def R_tupled (n : Nat) (ds : List DD) (post : DD → Prop) : Prop := ∃ d, ds = [d] ∧ Flat n d ∧ post (tupD d)
theorem cal_tupled0 (E : Bl mg) (D : DefAt K mg "tupled" s_tupled) : Cal P w K mg base 1 "tupled" (spD T (fun _ _ => False)) [] := by
  refine cal_d D sc_tupled (fun _ _ _ _ _ _ us hl => match us, hl with | [_], _ => rfl) (fun ds post h => h.elim) (fun f cdv A outer s H E0 hr ds post h => h.elim)
theorem cal_tupledS (E : Bl mg) (D : DefAt K mg "tupled" s_tupled) (R : List DD → (DD → Prop) → Prop) (k : Nat) (c_tupled : Cal P w K mg base k "tupled" (spD T R) []) (n : Nat)
    (hR : ∀ m, n = m + 1 → R = R_tupled m) : Cal P w K mg base (k + 1) "tupled" (spD T (R_tupled n)) [] := by
  refine cal_d D sc_tupled (fun _ _ _ _ _ _ us hl => match us, hl with | [_], _ => rfl) (fun ds post h => ?_) (fun f cdv A outer s H E0 hr ds post h => ?_)
  · obtain ⟨d, rfl, _⟩ := h
    rfl
  · obtain ⟨d, rfl, hf, hp⟩ := h
    have flat : ∀ b, PySem.W.kitAny K (.type (tyD d)) [.type "list", .type "tuple"] = some b → b = false → tupD d = d → ∃ t, PSs (cxOf C8.CX0 P w K mg base N_tupled "tupled" (defScope s_tupled) f cdv A outer s H E0).nox (defBody s_tupled) t ∧ SD T t (startD N_tupled [d]) (fun _ => post .none) post := fun b hb e1 e2 => by
      refine ⟨_, (pss_one (ps_ret (pe_ifExp (pt_val (pe_callB (k_isiT (K := K) rfl) (by rfl) E.isinstance (by decide +kernel) (pa_cons (pv 0) (pa_cons (pe_tup (pa_cons (pe_bltn (v := .ty "list") (u := .type "list") (by rfl) E.list (by decide +kernel) rfl) (pa_cons (pe_bltn (v := .ty "tuple") (u := .type "tuple") (by rfl) E.tuple (by decide +kernel) rfl) pa_nil))) pa_nil)))) (pe_callTy (k_tupOf (K := K) rfl) (by rfl) E.tuple (by decide +kernel) (pa_cons (pe_lc (own := [("bit", 1)]) rfl sc_tupled.nd (k_tup (K := K) rfl (pv 0)) (blkOk_by (own := [("bit", 1)]) (N := N_tupled) (sc := (defScope s_tupled)) (by decide +kernel)) (fun _ _ _ _ _ => (pg_name (i := 1) sc_tupled.nd rfl (Or.inl rfl) (Or.inr rfl))) (fun _ _ _ _ _ => pts_nil) (fun _ _ _ _ _ => (pe_c c_tupled hr (by omega) (by rfl) (pa_cons (pv 1) pa_nil)))) pa_nil)) (pv 0)))), ?_⟩
      refine sd_ret (ed_if (et_test (ed_isiT (ed_var rfl) hb)) (fun e => ?_) fun _ => ed_var rfl) (by rw [← e2]; exact hp)
      rw [e1] at e
      cases e
    cases d with
    | int i => exact flat _ rfl rfl (by rw [tupD])
    | none => exact flat _ rfl rfl (by rw [tupD])
    | bool b => exact flat _ rfl rfl (by rw [tupD])
    | str x => cases n <;> exact hf.elim
    | dict x => cases n <;> exact hf.elim
    | list xs =>
      cases n with
      | zero => exact hf.elim
      | succ m =>
        cases hR m rfl
        refine ⟨_, (pss_one (ps_ret (pe_ifExp (pt_val (pe_callB (k_isiT (K := K) rfl) (by rfl) E.isinstance (by decide +kernel) (pa_cons (pv 0) (pa_cons (pe_tup (pa_cons (pe_bltn (v := .ty "list") (u := .type "list") (by rfl) E.list (by decide +kernel) rfl) (pa_cons (pe_bltn (v := .ty "tuple") (u := .type "tuple") (by rfl) E.tuple (by decide +kernel) rfl) pa_nil))) pa_nil)))) (pe_callTy (k_tupOf (K := K) rfl) (by rfl) E.tuple (by decide +kernel) (pa_cons (pe_lc (own := [("bit", 1)]) rfl sc_tupled.nd (k_list (K := K) rfl (pv 0)) (blkOk_by (own := [("bit", 1)]) (N := N_tupled) (sc := (defScope s_tupled)) (by decide +kernel)) (fun _ _ _ _ _ => (pg_name (i := 1) sc_tupled.nd rfl (Or.inl rfl) (Or.inr rfl))) (fun _ _ _ _ _ => pts_nil) (fun _ _ _ _ _ => (pe_c c_tupled hr (by omega) (by rfl) (pa_cons (pv 1) pa_nil)))) pa_nil)) (pv 0)))), ?_⟩
        refine sd_ret (ed_if (et_test (ed_isiT (b := true) (ed_var rfl) rfl)) (fun _ => ed_cb (ea_cons (ed_lc1 xs (fun x => x) tupD (by rw [List.map_id']; exact id_list (ed_var rfl)) (by have := hf.1; omega) fun x hx => ⟨_, _, by simp, tg_name, ?_⟩) ea_nil) rc_tupL) fun e => by cases e) ?_
        · exact ed_call (ea_cons (ed_var rfl) ea_nil) ⟨x, rfl, hf.2 x hx, rfl⟩
        · rw [tupD, tupAll_map] at hp
          exact hp
    | tuple xs =>
      cases n with
      | zero => exact hf.elim
      | succ m =>
        cases hR m rfl
        refine ⟨_, (pss_one (ps_ret (pe_ifExp (pt_val (pe_callB (k_isiT (K := K) rfl) (by rfl) E.isinstance (by decide +kernel) (pa_cons (pv 0) (pa_cons (pe_tup (pa_cons (pe_bltn (v := .ty "list") (u := .type "list") (by rfl) E.list (by decide +kernel) rfl) (pa_cons (pe_bltn (v := .ty "tuple") (u := .type "tuple") (by rfl) E.tuple (by decide +kernel) rfl) pa_nil))) pa_nil)))) (pe_callTy (k_tupOf (K := K) rfl) (by rfl) E.tuple (by decide +kernel) (pa_cons (pe_lc (own := [("bit", 1)]) rfl sc_tupled.nd (k_tup (K := K) rfl (pv 0)) (blkOk_by (own := [("bit", 1)]) (N := N_tupled) (sc := (defScope s_tupled)) (by decide +kernel)) (fun _ _ _ _ _ => (pg_name (i := 1) sc_tupled.nd rfl (Or.inl rfl) (Or.inr rfl))) (fun _ _ _ _ _ => pts_nil) (fun _ _ _ _ _ => (pe_c c_tupled hr (by omega) (by rfl) (pa_cons (pv 1) pa_nil)))) pa_nil)) (pv 0)))), ?_⟩
        refine sd_ret (ed_if (et_test (ed_isiT (b := true) (ed_var rfl) rfl)) (fun _ => ed_cb (ea_cons (ed_lc1 xs (fun x => x) tupD (by rw [List.map_id']; exact id_tup (ed_var rfl)) (by have := hf.1; omega) fun x hx => ⟨_, _, by simp, tg_name, ?_⟩) ea_nil) rc_tupL) fun e => by cases e) ?_
        · exact ed_call (ea_cons (ed_var rfl) ea_nil) ⟨x, rfl, hf.2 x hx, rfl⟩
        · rw [tupD, tupAll_map] at hp
          exact hp
theorem cal_tupled (E : Bl mg) (D : DefAt K mg "tupled" s_tupled) : ∀ n, Cal P w K mg base (n + 2) "tupled" (spD T (R_tupled n)) []
  | 0 => cal_tupledS E D _ 1 (cal_tupled0 E D) 0 fun m h => by cases h
  | n + 1 => cal_tupledS E D _ (n + 2) (cal_tupled E D n) (n + 1) fun m h => by cases h; rfl
theorem tupD_pR (r : List Int) : tupD (pR r) = pR r := by
  unfold pR
  rw [tupD, tupAll_map, List.map_map]
  refine congrArg PyData.tuple ?_
  exact List.map_congr_left fun x _ => by show tupD (.int x) = _; rw [tupD]
theorem flat_pR {n : Nat} {r : List Int} (h : r.length ≤ 1000) : Flat (n + 1) (pR r) := by
  refine ⟨by simpa using h, fun x hx => ?_⟩
  obtain ⟨y, _, rfl⟩ := List.mem_map.mp hx
  cases n <;> trivial
theorem tupD_pT (t : List (List Int)) : tupD (pT t) = pT t := by
  unfold pT
  rw [tupD, tupAll_map, List.map_map]
  refine congrArg PyData.tuple ?_
  exact List.map_congr_left fun x _ => tupD_pR x
theorem flat_pT {n : Nat} {t : List (List Int)} (h : t.length ≤ 1000) (h2 : ∀ r ∈ t, r.length ≤ 1000) : Flat (n + 2) (pT t) := by
  refine ⟨by simpa using h, fun x hx => ?_⟩
  obtain ⟨y, hy, rfl⟩ := List.mem_map.mp hx
  exact flat_pR (h2 y hy)
/-! ### whole_lead -/
abbrev s_whole_lead : Stmt := top 18
abbrev N_whole_lead : List Str := ["row", "place", "number"]
theorem sc_whole_lead : FnScope N_whole_lead ["row"] (defScope s_whole_lead) := ⟨rfl, rfl, rfl, by decide +kernel, rfl, by decide +kernel, by decide +kernel⟩
def R_whole_lead (ds : List DD) (post : DD → Prop) : Prop := ∃ (r : List Int) (l : Nat), ds = [pR r] ∧ r.length ≤ 1000 ∧ l < r.length ∧ (∀ j, j < l → at_ r j = 0) ∧ at_ r l ≠ 0 ∧ post (.int l)
theorem cal_whole_lead (E : Bl mg) (D : DefAt K mg "whole_lead" s_whole_lead) : Cal P w K mg base 1 "whole_lead" (spD T R_whole_lead) [] := by
  refine cal_d D sc_whole_lead (fun _ _ _ _ _ _ us hl => match us, hl with | [_], _ => rfl) (fun ds post h => ?_) (fun f cdv A outer s H E0 hr ds post h => ?_)
  · obtain ⟨a, b, rfl, _⟩ := h
    rfl
  · obtain ⟨r, l, rfl, h1, h2, h3, h4, hp⟩ := h
    refine ⟨_, (pss_one (ps_ret (pe_ix (k_ix (K := K) rfl) (pe_lc (own := [("place", 1), ("number", 2)]) rfl sc_whole_lead.nd (k_enumT (K := K) rfl (by rfl) E.enumerate (pa_cons (pv 0) pa_nil)) (blkOk_by (own := [("place", 1), ("number", 2)]) (N := N_whole_lead) (sc := (defScope s_whole_lead)) (by decide +kernel)) (fun _ _ _ _ _ => (k_gtup (K := K) (n := 2) rfl rfl (pgs_cons (pg_name (i := 1) sc_whole_lead.nd rfl (Or.inl rfl) (Or.inr rfl)) (pgs_cons (pg_name (i := 2) sc_whole_lead.nd rfl (Or.inl rfl) (Or.inr rfl)) pgs_nil)))) (fun _ _ _ _ _ => (pts_one (pt_cmpR op_ne (pv 2) pe_int (nomark _)))) (fun _ _ _ _ _ => (pv 1))) pe_int (fun _ _ => rfl)))), ?_⟩
    refine sd_ret (d := .int l) (ed_op (ed_lc (List.range r.length) (fun i => PyData.tuple [.int (i : Nat), .int (at_ r i)]) (fun i => !decide (at_ r i = 0)) (fun i => PyData.int (i : Nat)) ?_ ?_ fun i hi => ⟨_, _, ?_, tg_pair, ?_, fun _ => ed_var rfl⟩) ed_int (rd_ix_l ?_)) hp
    · have e : ((List.range r.length).map fun i => PyData.tuple [.int (i : Nat), .int (at_ r i)]) = enD (r.map PyData.int) := by
        unfold enD
        refine List.ext_getElem (by simp) fun j a b => ?_
        have hj : j < r.length := by simpa using a
        simp [at_lt hj]
      rw [e]
      exact id_enumT (ea_cons (ed_var rfl) ea_nil)
    · simp; omega
    · simp
    · exact et_test (ed_op (ed_var rfl) ed_int rd_neI)
    · have e : (List.range r.length).filter (fun i => !decide (at_ r i = 0)) = l :: ((List.range r.length).filter (fun i => !decide (at_ r i = 0))).drop 1 := by
        have e1 : List.range r.length = List.range l ++ (l :: (List.range r.length).drop (l + 1)) := by
          refine List.ext_getElem? fun j => ?_
          rcases Nat.lt_trichotomy j l with hj | hj | hj
          · rw [List.getElem?_append_left (by simpa using hj)]
            simp [List.getElem?_range hj, List.getElem?_range (Nat.lt_trans hj h2)]
          · subst hj
            rw [List.getElem?_append_right (by simp)]
            simp [List.getElem?_range h2]
          · rw [List.getElem?_append_right (by simp; omega), List.length_range]
            obtain ⟨k, hk⟩ : ∃ k, j - l = k + 1 := ⟨j - l - 1, by omega⟩
            rw [hk, List.getElem?_cons_succ, List.getElem?_drop]
            congr 1
            omega
        have e2 : (List.range l).filter (fun i => !decide (at_ r i = 0)) = [] := by
          rw [List.filter_eq_nil_iff]
          intro i hi
          simp [h3 i (by simpa using hi)]
        rw [e1, List.filter_append, e2, List.nil_append, List.filter_cons_of_pos (by simp [h4])]
        rfl
      rw [e]
      exact at0
/-! ### times_for -/
abbrev s_times_for : Stmt := top 19
abbrev N_times_for : List Str := ["rows", "row", "long", "many", "made", "left", "own", "place", "often", "rest", "near", "unit"]
theorem sc_times_for : FnScope N_times_for ["rows", "row"] (defScope s_times_for) := ⟨rfl, rfl, rfl, by decide +kernel, rfl, by decide +kernel, by decide +kernel⟩
def R_times_for (ds : List DD) (post : DD → Prop) : Prop := ∃ (rows : List Mx.Row) (row : Mx.Row), ds = [pT rows, pR row] ∧ rows.length ≤ 6 ∧ 1 ≤ rows.length ∧ 1 ≤ row.length ∧ row.length ≤ 4 ∧ (∀ r ∈ rows, r.length = row.length) ∧
  Bd (2 ^ 8) rows ∧ (∀ x ∈ row, x.natAbs ≤ 2 ^ 8) ∧ (¬ InS rows row.length row → post .none) ∧
  ∀ m : Mx.Row, m.length = rows.length → (∀ x ∈ m, x.natAbs ≤ 2 ^ 200000) → (∀ j, j < row.length → at_ row j = lc (at_ m) rows j) → post (pR m)
theorem cut_to {k n : Nat} {xs : List DD} (hn : k ≤ xs.length) : cutD xs none (some (k : Int)) = xs.take k := by
  unfold cutD
  rw [HT.sIx_none, HT.sIx_nat, Nat.min_eq_left hn]
  simp
theorem cut_from {k n : Nat} {xs : List DD} (hn : k ≤ xs.length) : cutD xs (some (k : Int)) none = xs.drop k := by
  unfold cutD
  rw [HT.sIx_none, HT.sIx_nat, Nat.min_eq_left hn]
  rw [List.take_of_length_le (by simp)]
theorem bd_augs {rows : List Mx.Row} (h : Bd (2 ^ 8) rows) : Bd (2 ^ 8) (augs rows) := by
  intro r hr x hx
  unfold augs at hr
  obtain ⟨p, hp, rfl⟩ := List.mem_map.mp hr
  obtain ⟨h1, h2⟩ := List.of_mem_zip (a := p.1) (b := p.2) hp
  rcases List.mem_append.mp hx with k | k
  · exact h _ h1 x k
  · unfold unitsR at h2
    obtain ⟨i, _, e⟩ := List.mem_map.mp h2
    rw [← e] at k
    unfold unitR at k
    obtain ⟨j, _, rfl⟩ := List.mem_map.mp k
    split <;> decide
theorem cal_times_for (E : Bl mg) (c_nothing : Cal P w K mg base 1 "nothing" (spD T R_nothing) []) (c_units : Cal P w K mg base 2 "units" (spD T R_units) []) (c_rows_less : Cal P w K mg base 1 "rows_less" (spD T R_rows_less) [])
    (c_row_times : Cal P w K mg base 1 "row_times" (spD T R_row_times) []) (c_rows_added : Cal P w K mg base 2 "rows_added" (spD T R_rows_added) []) (c_whole_lead : Cal P w K mg base 1 "whole_lead" (spD T R_whole_lead) [])
    (c_stepped : Cal P w K mg base 5 "stepped" (spD T R_stepped) []) (D : DefAt K mg "times_for" s_times_for) : Cal P w K mg base 6 "times_for" (spD T R_times_for) [] := by
  refine cal_d D sc_times_for (fun _ _ _ _ _ _ us hl => match us, hl with | [_, _], _ => rfl) (fun ds post h => ?_) (fun f cdv A outer s H E0 hr ds post h => ?_)
  · obtain ⟨a, b, rfl, _⟩ := h
    rfl
  · obtain ⟨rows, row, rfl, hr6, hr1, hl1, hl4, hw, hbd, hbr, hpN, hpS⟩ := h
    refine ⟨_, (pss_cons (ps_par (i := 2) (j := 3) rfl sc_times_for.nd rfl rfl (by decide) rfl rfl (pa_cons (pe_callB (k_len (K := K) rfl) (by rfl) E.len PySem.boot_len (pa_cons (pv 1) pa_nil)) (pa_cons (pe_callB (k_len (K := K) rfl) (by rfl) E.len PySem.boot_len (pa_cons (pv 0) pa_nil)) pa_nil)) (by rfl)) (pss_cons (ps_par (i := 4) (j := 5) rfl sc_times_for.nd rfl rfl (by decide) rfl rfl (pa_cons (pe_c c_nothing hr (by omega) (by rfl) (pa_cons (pv 3) pa_nil)) (pa_cons (pv 1) pa_nil)) (by rfl)) (pss_cons (ps_for PassesOwn.never rfl (k_list (K := K) rfl (pe_ix (k_ix (K := K) rfl) (pe_c c_stepped hr (by omega) (by rfl) (pa_cons (pe_lc (own := [("near", 10), ("unit", 11)]) rfl sc_times_for.nd (k_zip (K := K) rfl (by rfl) E.zip (pa_cons (pv 0) (pa_cons (pe_c c_units hr (by omega) (by rfl) (pa_cons (pv 3) pa_nil)) pa_nil))) (blkOk_by (own := [("near", 10), ("unit", 11)]) (N := N_times_for) (sc := (defScope s_times_for)) (by decide +kernel)) (fun _ _ _ _ _ => (k_gtup (K := K) (n := 2) rfl rfl (pgs_cons (pg_name (i := 10) sc_times_for.nd rfl (Or.inl rfl) (Or.inr rfl)) (pgs_cons (pg_name (i := 11) sc_times_for.nd rfl (Or.inl rfl) (Or.inr rfl)) pgs_nil)))) (fun _ _ _ _ _ => pts_nil) (fun _ _ _ _ _ => (pe_op (k_catT (K := K) rfl) (pv 10) (pv 11)))) (pa_cons (pv 2) pa_nil))) pe_int (fun _ _ => rfl))) (pg_name (i := 6) sc_times_for.nd rfl (Or.inl rfl) (Or.inl rfl)) (pss_cons (ps_set (i := 7) sc_times_for.nd rfl (Or.inl rfl) (pe_c c_whole_lead hr (by omega) (by rfl) (pa_cons (pv 6) pa_nil))) (pss_cons (ps_asg (pe_callB cr_divmod (by rfl) E.divmod (by decide +kernel) (pa_cons (pe_ix (k_ix (K := K) rfl) (pv 5) (pv 7) (fun _ _ => rfl)) (pa_cons (pe_ix (k_ix (K := K) rfl) (pv 6) (pv 7) (fun _ _ => rfl)) pa_nil))) (k_gtup (K := K) (n := 2) rfl rfl (pgs_cons (pg_name (i := 8) sc_times_for.nd rfl (Or.inl rfl) (Or.inl rfl)) (pgs_cons (pg_name (i := 9) sc_times_for.nd rfl (Or.inl rfl) (Or.inl rfl)) pgs_nil)))) (pss_cons (ps_if (pt_cmpR op_ne (pv 9) pe_int (nomark _)) (pss_one (ps_ret pe_non)) pss_nil) (pss_cons (ps_set (i := 5) sc_times_for.nd rfl (Or.inl rfl) (pe_c c_rows_less hr (by omega) (by rfl) (pa_cons (pv 5) (pa_cons (pe_c c_row_times hr (by omega) (by rfl) (pa_cons (pe_slice (k_slt (K := K) rfl) (pv 6) po_none (po_some (pv 2))) (pa_cons (pv 8) pa_nil))) pa_nil)))) (pss_one (ps_set (i := 4) sc_times_for.nd rfl (Or.inl rfl) (pe_c c_rows_added hr (by omega) (by rfl) (pa_cons (pe_tup (pa_cons pe_int (pa_cons (pv 8) pa_nil))) (pa_cons (pe_tup (pa_cons (pv 4) (pa_cons (pe_slice (k_slt (K := K) rfl) (pv 6) (po_some (pv 2)) po_none) pa_nil))) (pa_cons (pv 3) pa_nil))))))))))) (pss_one (ps_ret (pe_ifExp (pt_cmpR (k_eqD (K := K) rfl hr.units) (pv 5) (pe_c c_nothing hr (by omega) (by rfl) (pa_cons (pv 2) pa_nil)) (nomark _)) (pv 4) pe_non)))))), ?_⟩
    generalize hlong : row.length = long at *
    generalize hmany : rows.length = many at *
    have hwa : ∀ r ∈ augs rows, r.length = long + many := fun r hr => by
      obtain ⟨k, hk, rfl⟩ := augs_mem hr
      have : rows.getD k [] = rows[k] := by simp [List.getD, hk]
      rw [List.length_append, len_unitR, this, hw _ (List.getElem_mem hk), hmany]
    refine sd_seq (sd_par (d := .int long) (e := .int many) (ea_cons (ed_is (ed_cb (ea_cons (ed_var rfl) ea_nil) rc_lenT) (by rw [List.length_map, hlong])) (ea_cons (ed_is (ed_cb (ea_cons (ed_var rfl) ea_nil) rc_lenT) (by rw [List.length_map, hmany])) ea_nil)) ?_)
    refine sd_seq (sd_par (ea_cons (ed_call (ea_cons (ed_var rfl) ea_nil) ⟨many, rfl, hr1, by omega, rfl⟩) (ea_cons (ed_var rfl) ea_nil)) ?_)
    refine sd_seq (sw_for pR (fun found => ∃ extra, StpN long (long + many) (augs rows) found extra ∧ found.length ≤ long) (iw_list (pa := fun d => ∃ found extra, StpN long (long + many) (augs rows) found extra ∧ found.length ≤ long ∧ d = pLR found) ?_ ?_) ?_)
    · refine ew_op (pa := fun d => ∃ found extra, StpN long (long + many) (augs rows) found extra ∧ found.length ≤ long ∧ d = .tuple [pLR found, pLR extra]) ?_ ed_int ?_
      · refine ew_call (ea_cons ?_ (ea_cons (ed_var rfl) ea_nil)) ⟨augs rows, long + many, long, rfl, ?_, hl4, by omega, by omega, hwa, bd_augs hbd, fun found left h1 h2 => ⟨_, _, h1, h2, rfl⟩⟩
        · refine ed_is (ed_lc1 (rows.zip (unitsR many)) (fun p => PyData.tuple [pR p.1, pR p.2]) (fun p => pR (p.1 ++ p.2)) ?_ ?_ fun x hx => ⟨_, _, by simp, tg_pair, ?_⟩) ?_
          · rw [← zipD_map]
            exact id_zipT (ea_cons (ed_var rfl) (ea_cons (ed_call (ea_cons (ed_var rfl) ea_nil) ⟨many, rfl, by omega, rfl⟩) ea_nil))
          · rw [List.length_zip]; omega
          · refine ed_is (ed_op (ed_var rfl) (ed_var rfl) (rd_catT ?_)) ?_
            · obtain ⟨k1, k2⟩ := List.of_mem_zip (a := x.1) (b := x.2) hx
              have := hw _ k1
              unfold unitsR at k2
              obtain ⟨i, _, e⟩ := List.mem_map.mp k2
              have := len_unitR i many
              rw [e] at this
              simp only [List.length_map]
              omega
            · unfold pR
              rw [List.map_append]
          · unfold augs pLR
            rw [List.map_map, hmany]
            rfl
        · rw [len_augs]; omega
      · rintro d ⟨found, extra, h1, h2, rfl⟩
        exact ⟨_, rd_ix_t at0, found, extra, h1, h2, rfl⟩
    · rintro d ⟨found, extra, h1, h2, rfl⟩
      exact ⟨_, rfl, found, rfl, extra, h1, h2⟩
    · rintro found ⟨extra, st, hfl⟩
      refine ⟨fun i δ => ∃ lo left made a6 a7 a8 a9, Tk long many rows row (found.drop i) extra lo (8 + 26137 * i) left made ∧ δ = [some (pT rows), some (pR row), some (.int long), some (.int many), some (pR made), some (pR left), a6, a7, a8, a9, none, none],
        ⟨0, row, List.replicate many 0, none, none, none, none, tk_start hl4 hmany hw hlong hbr st, rfl⟩, ?_, ?_⟩
      · rintro i own δ1 hx ⟨lo, left, made, a6, a7, a8, a9, tk, rfl⟩
        obtain ⟨hi, hoi⟩ := List.getElem?_eq_some_iff.mp hx
        have ed : found.drop i = own :: found.drop (i + 1) := by rw [← hoi]; exact List.drop_eq_getElem_cons hi
        rw [ed] at tk
        have hM : 8 + 26137 * i ≤ 104556 := by omega
        obtain ⟨l, k1, k2, k3, k4, k5, k6⟩ := tk_lead tk
        have hlo : own.length = long + many := tk.wT own (List.mem_cons_self ..)
        refine ⟨_, _, tg_name, ?_⟩
        refine sd_seq (sd_set (ed_call (ea_cons (ed_var rfl) ea_nil) ⟨own, l, rfl, by omega, by omega, k2, by omega, rfl⟩) ?_)
        refine sd_seq (sd_asg (ed_cb (ea_cons (ed_op (ed_var rfl) (ed_var rfl) (rd_ix_t (at_int (by rw [tk.ll]; exact k1)))) (ea_cons (ed_op (ed_var rfl) (ed_var rfl) (rd_ix_t (at_int (by omega)))) ea_nil)) (rc_dvm (div_ok (y := at_ own l) (by omega) k4))) tg_pair ?_)
        refine sd_seq (sd_if (et_test (ed_op (ed_var rfl) ed_int rd_neI)) (fun hb => sd_ret ed_non (hpN (k5 (by have hb : (!decide ((at_ left l).fmod (at_ own l) = 0)) = true := hb; simpa using hb)))) fun hb => sd_next ?_)
        have hz : (at_ left l).fmod (at_ own l) = 0 := by
          have hb : (!decide ((at_ left l).fmod (at_ own l) = 0)) = false := hb
          simpa using hb
        obtain ⟨lo', tk'⟩ := k6 hz
        have hoft : ((at_ left l).fdiv (at_ own l)).natAbs ≤ 2 ^ 104556 := Nat.le_trans (fdiv_le (by omega)) (Nat.le_trans (natAbs_le_of_at tk.bl l) (Nat.pow_le_pow_right (by decide) hM))
        have hob : ∀ x ∈ own, x.natAbs ≤ 2 ^ 26136 := tk.bT own (List.mem_cons_self ..)
        have hmb : ∀ x ∈ made, x.natAbs ≤ 2 ^ 104556 := fun x hx => Nat.le_trans (tk.bm x hx) (Nat.pow_le_pow_right (by decide) hM)
        refine sd_seq (sd_set (d := pR (takeR long left own ((at_ left l).fdiv (at_ own l)))) (ed_call (ea_cons (ed_var rfl) (ea_cons (ed_call (ea_cons (ed_is (ed_sl (ed_var rfl) eo_none (eo_some (ed_var rfl)) rs_t) (e := pR (own.take long)) ?_) (ea_cons (ed_var rfl) ea_nil)) ⟨own.take long, (at_ left l).fdiv (at_ own l), rfl, by simp; omega, fun x hx => ?_, rfl⟩) ea_nil))
          ⟨left, _, rfl, by rw [tk.ll]; omega, rfl⟩) ?_)
        · rw [cut_to (n := 0) (by simp; omega), ← List.map_take]
          rfl
        · exact mul_ok (hob x (List.mem_of_mem_take hx)) hoft (by decide)
        refine sd_set (d := pR (giveR long many made own ((at_ left l).fdiv (at_ own l)))) (ed_call (ea_cons (ed_tup (ea_cons ed_int (ea_cons (ed_var rfl) ea_nil)) (by simp)) (ea_cons (ed_tup (ea_cons (ed_var rfl) (ea_cons (ed_is (ed_sl (ed_var rfl) (eo_some (ed_var rfl)) eo_none rs_t) (e := pR (own.drop long)) ?_) ea_nil)) (by simp)) (ea_cons (ed_var rfl) ea_nil)))
          ⟨[1, (at_ left l).fdiv (at_ own l)], [made, own.drop long], many, rfl, hr1, by omega, by simp, ?_, ?_, rfl⟩) ⟨lo', _, _, _, _, _, _, tk', rfl⟩
        · rw [cut_from (n := 0) (by simp; omega), ← List.map_drop]
          rfl
        · intro r hr
          rcases List.mem_cons.mp hr with e | hr
          · rw [e, tk.lm]; omega
          · rw [List.mem_singleton.mp hr]; simp; omega
        · intro p hp x hx
          simp only [List.zip_cons_cons, List.zip_nil_left, List.mem_cons, List.not_mem_nil, or_false] at hp
          rcases hp with e | e
          · subst e
            exact mul_ok (y := 1) (b := 0) (hmb x hx) (by decide) (by decide)
          · subst e
            exact mul_ok (hob x (List.mem_of_mem_drop hx)) hoft (by decide)
      · rintro δ1 ⟨lo, left, made, a6, a7, a8, a9, tk, rfl⟩
        rw [List.drop_length] at tk
        obtain ⟨k1, k2⟩ := tk_end tk
        by_cases hz : left = List.replicate long 0
        · refine sd_ret (d := pR made) (ed_if (b := true) (et_is (et_test (ed_op (ed_var rfl) (ed_call (ea_cons (ed_var rfl) ea_nil) ⟨long, rfl, hl1, by omega, rfl⟩) (rd_eqD (shaped_ints _) (shaped_ints _) rfl))) ?_) (fun _ => ed_var rfl) fun e => by cases e) (hpS made tk.lm (fun x hx => Nat.le_trans (tk.bm x hx) (Nat.pow_le_pow_right (by decide) (by omega))) (k1 hz))
          unfold pR
          rw [PyData.eqv, eqv_ints]
          simp [hz]
        · refine sd_ret (d := .none) (ed_if (b := false) (et_is (et_test (ed_op (ed_var rfl) (ed_call (ea_cons (ed_var rfl) ea_nil) ⟨long, rfl, hl1, by omega, rfl⟩) (rd_eqD (shaped_ints _) (shaped_ints _) rfl))) ?_) (fun e => by cases e) fun _ => ed_non) (hpN (k2 hz))
          unfold pR
          rw [PyData.eqv, eqv_ints]
          simp [hz]
end
end Sh
-- Sx
set_option maxRecDepth 100000
set_option maxHeartbeats 4000000
/-! defs that raise -/
namespace Sh
open PySem PySem.Spec PyProof.Rows L2 RZ
open C8 (Cal pe_c)
abbrev veB : List Value := [.type "ValueError", .type "Exception", .type "BaseException", .type "object"]
/-- an own error of the text: a class over ValueError, empty -/
structure OwnX (K : PySem.W.Frag) (mg : Str → Option Value) (x : Str) (C : Addr) : Prop where
  xP : PySem.W.excIn K C veB "ValueError.__new__" = true
  gC : mg x = some (.ref C)
  kC : PySem.W.keepIn K (.ref C) = true
  bP : PySem.W.subIn K (.ref C) (.type "BaseException") = some true
  tP : PySem.W.typeIn K (.ref C) = some (.type "type")
  eP : PySem.W.exmOne K (.ref C) (.ref C) = some true
section
variable {X : Cx} {pos : Pos}
theorem pmk_own0 {C : Addr} {bmB : List Value} {B newId initId : String} {x : Str} {p : Pos} (F : ExcBaseFacts B newId initId bmB) (q : PySem.W.excIn X.K C bmB newId = true) (gC : X.mg x = some (.ref C))
    (kC : PySem.W.keepIn X.K (.ref C) = true) (r : Raises X (.ref C)) (hg : Gl X x) (hdb : (x == ("__debug__" : Str)) = false := by decide) :
    PMk X (.Call (.Name x p) [] [] pos) (fun σ H Q => Q (.ref C) none H) := by
  intro pins s σ H Q I h
  refine wpAny_Call_Name_kw (ld_glob I hg gC ?_ hdb)
  refine PySem.W.callWith_K0 I.kIn kC ?_
  show wpAny _ _ (call (.ref C) []) _ _ _
  obtain ⟨bm, N, nm, qn, bs, hdct, sn, sub, ab, col, dd, k0, k1, k2, k3, k5, mN, hC, hN, hni, T⟩ := exc_obj I.kIn q
  obtain ⟨hp1, g1, d1, tk1, os1⟩ := s
  refine wpAny_call_exc_subT F T hC hN hni (fun h' e hm => ?_) (by show 0 ≤ sizeLine; omega)
  exact mk_of I hm r h (I.hok.gone hm.new)
/-- raise X() -/
theorem ps_own0 {W : WX} {C : Addr} {x : Str} {p pos' : Pos} (hc : X.calm = true) (tk : Takes X W) (O : OwnX X.K X.mg x C) (hg : Gl X x) (hdb : (x == ("__debug__" : Str)) = false := by decide) :
    PS X (.Raise (some (.Call (.Name x p) [] [] pos)) none pos') (fun _ σ H => W (.ref C) none σ H) :=
  ps_raise hc tk (pmk_own0 PySem.F.excBase_ValueError O.xP O.gC O.kC (raises_own O.bP O.tP) hg hdb)
end
/-- a def that may be called by its name and may raise -/
structure CalX (P : Program) (w : World) (K : PySem.W.Frag) (mg : Str → Option Value) (base : Heap) (k : Nat) (x : Str) (sp : Sp) : Prop where
  ex : ∃ (f : Addr) (fd : FuncData) (ps : List Str), FnOk P w K mg base (L2.CX P w) k f fd ps sp ∧ mg x = some (.ref f) ∧ PySem.W.keepIn K (.ref f) = true ∧ Binds K fd ps []
theorem pe_cx {X : Cx} {k j : Nat} {x : Str} {sp : Sp} {p pos : Pos} {e : Expr} {es : List Expr} {t : TA} {W : WX} (c : CalX X.prog X.w X.K X.mg X.base k x sp) (tk : Takes X W) (hr : Room j X.A) (hk : k ≤ j) (hg : Gl X x) (ha : PA X (e :: es) t)
    (hdb : (x == ("__debug__" : Str)) = false := by decide) (he : starEach (e :: es) X.env = (false, eval e X.env) :: starEach es X.env := by rfl) (hpl : (backTo pos (starEach es X.env)).any (·.1) = false := by rfl) :
    PE X (.Call (.Name x p) (e :: es) [] pos) (tCallS sp (WE W) t) := by
  obtain ⟨f, fd, ps, F, hm, kp, b⟩ := c.ex
  exact pe_callS F (hr.mono hk) hg hm kp b (fun σ => passAt tk σ) ha hdb he hpl
/-- with such data; what is promised of the answer; which classes are raised -/
def spX (T : Tb) (R : List DD → (DD → Prop) → (Value → Prop) → Prop) : Sp := fun vs H Q E => ∃ (G : Hp) (ds : List DD) (post : DD → Prop) (er : Value → Prop), Same G H ∧ NdefX.TabsN T H ∧ (∀ b ps, G b ≠ some (.tbl ps)) ∧ DqAll G vs ds ∧ R ds post er ∧
  (∀ (d : DD) (v : V) (G2 H2 : Hp), post d → Step T G H G2 H2 → Dq G2 v d → Q v H2) ∧ ∀ (c : Value) (G2 H2 : Hp), er c → Step T G H G2 H2 → E c none H2
/-- a statement within a def that may raise, at what stood at its start -/
def SX (T : Tb) (G0 H0 : Hp) (ts : TS) (δ : Dl) (nx : Dl → Prop) (rt : DD → Prop) : Prop := ∀ (σ : L2.St) (G H : Hp), Ok T σ δ G H → Step T G0 H0 G H → ∀ D : Ends,
  (∀ (σ' : L2.St) (δ' : Dl) (G2 H2 : Hp), nx δ' → Step T G0 H0 G2 H2 → Ok T σ' δ' G2 H2 → D.nx σ' H2) →
  (∀ (d : DD) (v : V) (G2 H2 : Hp), rt d → Step T G0 H0 G2 H2 → Dq G2 v d → D.rt v H2) → ts D σ H
section
variable {T : Tb} {G0 H0 : Hp} {δ : Dl} {t u : TS} {nx : Dl → Prop} {rt : DD → Prop} {ta : TA} {ds : List DD} {R : List DD → (DD → Prop) → (Value → Prop) → Prop} {post : DD → Prop} {er : Value → Prop}
theorem sx_of (h : SD T t δ nx rt) : SX T G0 H0 t δ nx rt := fun σ G H o st D hx hr =>
  h σ G H o D (fun σ' δ' G2 H2 n s2 ok => hx σ' δ' G2 H2 n (st.trans s2) ok) fun d v G2 H2 r s2 dv => hr d v G2 H2 r (st.trans s2) dv
theorem sx_next (h : nx δ) : SX T G0 H0 tNext δ nx rt := sx_of (sd_next h)
theorem sx_seq (h : SX T G0 H0 t δ (fun δ' => SX T G0 H0 u δ' nx rt) rt) : SX T G0 H0 (tSeq t u) δ nx rt := fun σ G H o st D hx hr =>
  h σ G H o st { D with nx := u D } (fun σ' δ' G2 H2 hu s2 ok => hu σ' G2 H2 ok s2 D hx hr) hr
theorem sx_if {c : TT} {b : Bool} (hc : ET T c δ b) (h1 : b = true → SX T G0 H0 t δ nx rt) (h2 : b = false → SX T G0 H0 u δ nx rt) : SX T G0 H0 (tIfS c t u) δ nx rt := fun σ G H o st D hx hr =>
  hc σ G H o _ fun G1 H1 s1 => by
    cases b with
    | true => exact h1 rfl σ G1 H1 (o.step s1) (st.trans s1) D hx hr
    | false => exact h2 rfl σ G1 H1 (o.step s1) (st.trans s1) D hx hr
theorem sx_raise {F : XK} {c : Value} (h : ∀ G2 H2, Step T G0 H0 G2 H2 → F c none H2) : SX T G0 H0 (fun _ _ H => F c none H) δ nx rt := fun σ G H o st D hx hr => h G H st
/-- try: a = f(..) except X: suite -/
theorem sx_try {K : PySem.W.Frag} {cx : Value} {ts : Addr → Value → Option Addr → TS} {Wout : WX} {i : Nat} (h : EA T ta δ ds) (hr : R ds post er) (hn : ∀ d, post d → nx (δ.set i (some d)))
    (he : ∀ c, er c → PySem.W.exmOne K c cx = some true ∧ ∀ a, SX T G0 H0 (ts a c none) δ nx rt) :
    SX T G0 H0 (fun D σ H => tAsg (tCallS (spX T R) (WE (wOnly K cx ts Wout D)) ta) (gName i) D σ H) δ nx rt := fun σ G H o st D hx hrt =>
  h σ G H o _ fun vs G1 H1 s1 d1 => ⟨G1, ds, post, er, s1.gh, s1.tt o.t, (o.step s1).nt, d1, hr, fun d v G2 H2 hp s2 d2 => by
    have o2 := (o.step s1).step s2
    exact hx _ _ G2 H2 (hn d hp) ((st.trans s1).trans s2) ⟨o2.s, o2.t, o2.e.set i d2, o2.nt⟩, fun c G2 H2 hc s2 => by
    obtain ⟨h1, h2⟩ := he c hc
    exact ⟨true, h1, fun _ a ha => h2 a σ G2 H2 ((o.step s1).step s2) ((st.trans s1).trans s2) D hx hrt, fun e => by cases e⟩⟩
theorem et_nF {t : TT} (h : ET T t δ true) : ET T (tNot t) δ false := et_not h
theorem et_nT {t : TT} (h : ET T t δ false) : ET T (tNot t) δ true := et_not h
/-- a = f(..), f may raise; what the raising way needs is told where it is -/
theorem sx_call {W : WX} {i : Nat} (h : EA T ta δ ds) (hr : R ds post er) (hn : ∀ d, post d → nx (δ.set i (some d))) (he : ∀ c σ G2 H2, er c → Ok T σ δ G2 H2 → Step T G0 H0 G2 H2 → W c none σ H2) :
    SX T G0 H0 (tAsg (tCallS (spX T R) (WE W) ta) (gName i)) δ nx rt := fun σ G H o st D hx hrt =>
  h σ G H o _ fun vs G1 H1 s1 d1 => ⟨G1, ds, post, er, s1.gh, s1.tt o.t, (o.step s1).nt, d1, hr, fun d v G2 H2 hp s2 d2 => by
    have o2 := (o.step s1).step s2
    exact hx _ _ G2 H2 (hn d hp) ((st.trans s1).trans s2) ⟨o2.s, o2.t, o2.e.set i d2, o2.nt⟩, fun c G2 H2 hc s2 => he c σ G2 H2 hc ((o.step s1).step s2) ((st.trans s1).trans s2)⟩
/-- f(..) where f does not raise at these -/
theorem ew_callX {W : WX} (h : EA T ta δ ds) (hr : R ds post (fun _ => False)) : EW T (tCallS (spX T R) (WE W) ta) δ post := fun σ G H o Q q =>
  h σ G H o _ fun vs G1 H1 s1 d1 => ⟨G1, ds, post, _, s1.gh, s1.tt o.t, (o.step s1).nt, d1, hr, fun d v G2 H2 hp s2 d2 => q d v G2 H2 hp (s1.trans s2) d2, fun _ _ _ z => z.elim⟩
end
/-- THE RULE: a def that may raise -/
theorem cal_x {P : Program} {w : World} {K : PySem.W.Frag} {mg : Str → Option Value} {base : Heap} {T : Tb} {x : Str} {st : Stmt} {N ps : List Str} {k : Nat} {R : List DD → (DD → Prop) → (Value → Prop) → Prop}
    (D : DefAt K mg x st) (S : FnScope N ps (defScope st))
    (hbind : ∀ (kV doc pm : Value) (an : Option Addr) (cdv ct : Value) (us : List Value), us.length = ps.length → bindArgs (PySem.W.fnOf x x (defArgs st) (defBody st) (defScope st) .none kV doc pm an cdv ct) ⟨us, []⟩ = pure (ps.zip us))
    (hl : ∀ ds post er, R ds post er → ds.length = ps.length)
    (hb : ∀ (f : Addr) (cdv : Value) (A : Around) (outer : List Env) (s : Shared) (H : Hp) (E : XK), Room k (A.deeper (envOfC x (defScope st) s.heap.objs.size f cdv)) → ∀ ds post er, R ds post er → ∀ G0, (∀ c G2 H2, er c → Step T G0 H G2 H2 → E c none H2) →
      ∃ t, PSs (cxOf (L2.CX P w) P w K mg base N x (defScope st) f cdv A outer s H E) (defBody st) t ∧ SX T G0 H t (startD N ds) (fun _ => post .none) post) :
    CalX P w K mg base (k + 1) x (spX T R) := by
  obtain ⟨f, fd, F, hm⟩ := D.ex
  refine ⟨f, fd, ps, ?_, hm, F.kp, F.bindsN hbind⟩
  refine F.ok S (fun vs H Q E h => ?_) (fun cdv A outer s H vs Q E hr h => ?_)
  · obtain ⟨G, ds, post, er, _, _, _, hd, hR, _⟩ := h
    rw [dqa_len hd]
    exact hl ds post er hR
  · obtain ⟨G, ds, post, er, hs, ht, hnt, hd, hR, q, qe⟩ := h
    obtain ⟨t, h1, h2⟩ := hb f cdv A outer s H E hr ds post er hR G qe
    refine ⟨t, h1, h2 _ G H ⟨hs, ht, startD_ok hd, hnt⟩ (Step.refl hs) _ (fun σ' δ' G2 H2 hp s2 ok => ?_) fun d v G2 H2 hp s2 dv => ?_⟩
    · exact q .none .non G2 H2 hp s2 .non
    · exact q d v G2 H2 hp s2 dv
end Sh
-- Sd4
set_option maxRecDepth 100000
set_option maxHeartbeats 4000000
/-! is_made, made_by, halves_of, rounds, asked_of, fits_size, told_hour -/
namespace Sh
open PySem PySem.Spec PyProof.Rows L2 RZ
open C8 (Cal pe_c)
open Mx
/-- what times_for wishes of its rows and its row -/
structure RwOk (rows : List Mx.Row) (row : Mx.Row) : Prop where
  h6 : rows.length ≤ 6
  h1 : 1 ≤ rows.length
  l1 : 1 ≤ row.length
  l4 : row.length ≤ 4
  wd : ∀ r ∈ rows, r.length = row.length
  bd : Bd (2 ^ 8) rows
  br : ∀ x ∈ row, x.natAbs ≤ 2 ^ 8
/-- how a row is made -/
def Makes (rows : List Mx.Row) (row m : Mx.Row) : Prop := m.length = rows.length ∧ (∀ x ∈ m, x.natAbs ≤ 2 ^ 200000) ∧ ∀ j, j < row.length → at_ row j = lc (at_ m) rows j
theorem Makes.ins {rows : List Mx.Row} {row m : Mx.Row} (h : Makes rows row m) : InS rows row.length row := ⟨at_ m, h.2.2⟩
theorem RwOk.tf {rows : List Mx.Row} {row : Mx.Row} (o : RwOk rows row) {post : DD → Prop} (hN : ¬ InS rows row.length row → post .none) (hS : ∀ m, Makes rows row m → post (pR m)) : R_times_for [pT rows, pR row] post :=
  ⟨rows, row, rfl, o.h6, o.h1, o.l1, o.l4, o.wd, o.bd, o.br, hN, fun m a b c => hS m ⟨a, b, c⟩⟩
abbrev Sgt := List (Mx.Row × Int)
def pS (S : Sgt) : DD := .tuple (S.map fun p => .tuple [pR p.1, .int p.2])
def rowsS (S : Sgt) : List Mx.Row := S.map Prod.fst
def hrsS (S : Sgt) : Mx.Row := S.map Prod.snd
def roundsR (size : Int) (n : Nat) : List Mx.Row := (unitsR n).map fun r => timesR r size
structure SgOk (n : Nat) (size : Int) (S : Sgt) : Prop where
  n1 : 1 ≤ n
  n2 : n ≤ 2
  l4 : S.length ≤ 4
  wd : ∀ p ∈ S, p.1.length = n
  bd : ∀ p ∈ S, ∀ x ∈ p.1, x.natAbs ≤ 2 ^ 8
  bh : ∀ p ∈ S, p.2.natAbs ≤ 2 ^ 8
  z1 : 1 ≤ size
  z2 : size ≤ 256
/-- such data tell such sights -/
def IsS (d : DD) (S : Sgt) : Prop := Flat 3 d ∧ tupD d = pS S
def IsR (d : DD) (r : Mx.Row) : Prop := Flat 3 d ∧ tupD d = pR r
def Fits (n : Nat) (S : Sgt) (size : Int) : Prop := S = [] ∨ InS (colsR (rowsS S) n ++ roundsR size S.length) S.length (hrsS S)
section
variable {P : Program} {w : World} {K : PySem.W.Frag} {mg : Str → Option Value} {base : Heap} {T : Tb}
abbrev s_is_made : Stmt := top 20
abbrev N_is_made : List Str := ["rows", "row"]
theorem sc_is_made : FnScope N_is_made ["rows", "row"] (defScope s_is_made) := ⟨rfl, rfl, rfl, by decide +kernel, rfl, by decide +kernel, by decide +kernel⟩
def R_is_made (ds : List DD) (post : DD → Prop) : Prop := ∃ rows row, ds = [pT rows, pR row] ∧ RwOk rows row ∧ ∀ b : Bool, (b = true ↔ InS rows row.length row) → post (.bool b)
theorem cal_is_made (E : Bl mg) (c_tupled : Cal P w K mg base 5 "tupled" (spD T (R_tupled 3)) []) (c_times_for : Cal P w K mg base 6 "times_for" (spD T R_times_for) []) (D : DefAt K mg "is_made" s_is_made) : Cal P w K mg base 7 "is_made" (spD T R_is_made) [] := by
  refine cal_d D sc_is_made (fun _ _ _ _ _ _ us hl => match us, hl with | [_, _], _ => rfl) (fun ds post h => ?_) (fun f cdv A outer s H E0 hr ds post h => ?_)
  · obtain ⟨a, b, rfl, _⟩ := h
    rfl
  · obtain ⟨rows, row, rfl, o, hp⟩ := h
    refine ⟨_, (pss_one (ps_ret (pe_cmp (pc_notN (pe_c c_times_for hr (by omega) (by rfl) (pa_cons (pe_c c_tupled hr (by omega) (by rfl) (pa_cons (pv 0) pa_nil)) (pa_cons (pe_c c_tupled hr (by omega) (by rfl) (pa_cons (pv 1) pa_nil)) pa_nil)))) rfl))), ?_⟩
    have a1 : rows.length ≤ 1000 := by have := o.h6; omega
    have a2 : row.length ≤ 1000 := by have := o.l4; omega
    refine sw_ret (post := fun d => ∃ b : Bool, d = .bool b ∧ (b = true ↔ InS rows row.length row)) (ew_notN (ew_call (ea_cons (ed_call (ea_cons (ed_var rfl) ea_nil) ⟨_, rfl, flat_pT a1 fun r hr => by rw [o.wd r hr]; exact a2, rfl⟩) (ea_cons (ed_call (ea_cons (ed_var rfl) ea_nil) ⟨_, rfl, flat_pR a2, rfl⟩) ea_nil))
      (post := fun d => (d = .none ∧ ¬ InS rows row.length row) ∨ ((∃ m, d = pR m) ∧ InS rows row.length row)) ?_) ?_) ?_
    · rw [tupD_pT, tupD_pR]
      exact o.tf (fun h => .inl ⟨rfl, h⟩) fun m h => .inr ⟨⟨m, rfl⟩, h.ins⟩
    · rintro d (⟨rfl, h⟩ | ⟨⟨m, rfl⟩, h⟩)
      · exact ⟨false, rfl, by simp [h]⟩
      · exact ⟨true, rfl, by simp [h]⟩
    · rintro d ⟨b, rfl, h⟩
      exact hp b h
abbrev s_made_by : Stmt := top 21
abbrev N_made_by : List Str := ["rows", "row", "found"]
theorem sc_made_by : FnScope N_made_by ["rows", "row"] (defScope s_made_by) := ⟨rfl, rfl, rfl, by decide +kernel, rfl, by decide +kernel, by decide +kernel⟩
def R_made_by (CN : Addr) (ds : List DD) (post : DD → Prop) (er : Value → Prop) : Prop := ∃ rows row, ds = [pT rows, pR row] ∧ RwOk rows row ∧ (¬ InS rows row.length row → er (.ref CN)) ∧ ∀ m, Makes rows row m → post (pR m)
theorem cal_made_by (E : Bl mg) {CN : Addr} (ONoPaper : OwnX K mg "NoPaper" CN) (c_tupled : Cal P w K mg base 5 "tupled" (spD T (R_tupled 3)) []) (c_times_for : Cal P w K mg base 6 "times_for" (spD T R_times_for) []) (D : DefAt K mg "made_by" s_made_by) :
    CalX P w K mg base 7 "made_by" (spX T (R_made_by CN)) := by
  refine cal_x D sc_made_by (fun _ _ _ _ _ _ us hl => match us, hl with | [_, _], _ => rfl) (fun ds post er h => ?_) (fun f cdv A outer s H E0 hr ds post er h G0 hE => ?_)
  · obtain ⟨a, b, rfl, _⟩ := h
    rfl
  · obtain ⟨rows, row, rfl, o, hN, hp⟩ := h
    refine ⟨_, (pss_cons (ps_set (i := 2) sc_made_by.nd rfl (Or.inl rfl) (pe_c c_times_for hr (by omega) (by rfl) (pa_cons (pe_c c_tupled hr (by omega) (by rfl) (pa_cons (pv 0) pa_nil)) (pa_cons (pe_c c_tupled hr (by omega) (by rfl) (pa_cons (pv 1) pa_nil)) pa_nil)))) (pss_cons (ps_if (pt_cmp (pc_isN (pv 2)) (by rfl)) (pss_one (ps_own0 rfl (takes_of rfl rfl rfl rfl) ONoPaper (by rfl))) pss_nil) (pss_one (ps_ret (pv 2))))), ?_⟩
    have a1 : rows.length ≤ 1000 := by have := o.h6; omega
    have a2 : row.length ≤ 1000 := by have := o.l4; omega
    refine sx_seq (sx_of (sw_asg (ew_call (ea_cons (ed_call (ea_cons (ed_var rfl) ea_nil) ⟨_, rfl, flat_pT a1 fun r hr => by rw [o.wd r hr]; exact a2, rfl⟩) (ea_cons (ed_call (ea_cons (ed_var rfl) ea_nil) ⟨_, rfl, flat_pR a2, rfl⟩) ea_nil))
      (post := fun d => (d = .none ∧ ¬ InS rows row.length row) ∨ (∃ m, d = pR m ∧ Makes rows row m)) ?_) ?_))
    · rw [tupD_pT, tupD_pR]
      exact o.tf (fun h => .inl ⟨rfl, h⟩) fun m h => .inr ⟨m, rfl, h⟩
    · rintro d (⟨rfl, h⟩ | ⟨m, rfl, h⟩)
      · refine ⟨_, _, tg_name, sx_seq (sx_if (et_B (ed_isN (ed_var rfl) rfl)) (fun _ => sx_raise fun G2 H2 st => hE _ G2 H2 (hN h) st) fun e => by cases e)⟩
      · exact ⟨_, _, tg_name, sx_seq (sx_if (et_B (ed_isN (ed_var rfl) rfl)) (fun e => by cases e) fun _ => sx_next (sx_of (sd_ret (ed_var rfl) (hp m h))))⟩
abbrev s_halves_of : Stmt := top 32
abbrev N_halves_of : List Str := ["sights", "own", "row", "_", "hour"]
theorem sc_halves_of : FnScope N_halves_of ["sights"] (defScope s_halves_of) := ⟨rfl, rfl, rfl, by decide +kernel, rfl, by decide +kernel, by decide +kernel⟩
def R_halves_of (ds : List DD) (post : DD → Prop) : Prop := ∃ d S, ds = [d] ∧ IsS d S ∧ S.length ≤ 1000 ∧ post (.tuple [pT (rowsS S), pR (hrsS S)])
theorem cal_halves_of (E : Bl mg) (c_tupled : Cal P w K mg base 5 "tupled" (spD T (R_tupled 3)) []) (D : DefAt K mg "halves_of" s_halves_of) : Cal P w K mg base 6 "halves_of" (spD T R_halves_of) [] := by
  refine cal_d D sc_halves_of (fun _ _ _ _ _ _ us hl => match us, hl with | [_], _ => rfl) (fun ds post h => ?_) (fun f cdv A outer s H E0 hr ds post h => ?_)
  · obtain ⟨a, b, rfl, _⟩ := h
    rfl
  · obtain ⟨d, S, rfl, ⟨h1, h2⟩, h3, hp⟩ := h
    refine ⟨_, (pss_cons (ps_set (i := 1) sc_halves_of.nd rfl (Or.inl rfl) (pe_c c_tupled hr (by omega) (by rfl) (pa_cons (pv 0) pa_nil))) (pss_one (ps_ret (pe_tup (pa_cons (pe_callTy (k_tupOf (K := K) rfl) (by rfl) E.tuple (by decide +kernel) (pa_cons (pe_lc (own := [("row", 2), ("_", 3)]) rfl sc_halves_of.nd (k_tup (K := K) rfl (pv 1)) (blkOk_by (own := [("row", 2), ("_", 3)]) (N := N_halves_of) (sc := (defScope s_halves_of)) (by decide +kernel)) (fun _ _ _ _ _ => (k_gtup (K := K) (n := 2) rfl rfl (pgs_cons (pg_name (i := 2) sc_halves_of.nd rfl (Or.inl rfl) (Or.inr rfl)) (pgs_cons (pg_name (i := 3) sc_halves_of.nd rfl (Or.inl rfl) (Or.inr rfl)) pgs_nil)))) (fun _ _ _ _ _ => pts_nil) (fun _ _ _ _ _ => (pv 2))) pa_nil)) (pa_cons (pe_callTy (k_tupOf (K := K) rfl) (by rfl) E.tuple (by decide +kernel) (pa_cons (pe_lc (own := [("_", 3), ("hour", 4)]) rfl sc_halves_of.nd (k_tup (K := K) rfl (pv 1)) (blkOk_by (own := [("_", 3), ("hour", 4)]) (N := N_halves_of) (sc := (defScope s_halves_of)) (by decide +kernel)) (fun _ _ _ _ _ => (k_gtup (K := K) (n := 2) rfl rfl (pgs_cons (pg_name (i := 3) sc_halves_of.nd rfl (Or.inl rfl) (Or.inr rfl)) (pgs_cons (pg_name (i := 4) sc_halves_of.nd rfl (Or.inl rfl) (Or.inr rfl)) pgs_nil)))) (fun _ _ _ _ _ => pts_nil) (fun _ _ _ _ _ => (pv 4))) pa_nil)) pa_nil)))))), ?_⟩
    refine sd_seq (sd_set (d := pS S) (ed_call (ea_cons (ed_var rfl) ea_nil) ⟨d, rfl, h1, h2⟩) ?_)
    refine sd_ret (ed_tup (ea_cons (ed_is (ed_cb (ea_cons (ed_lc1 S (fun p => PyData.tuple [pR p.1, .int p.2]) (fun p => pR p.1) (id_tup (ed_var rfl)) (by omega) fun x hx => ⟨_, _, by simp, tg_pair, ed_var rfl⟩) ea_nil) rc_tupL) ?_)
      (ea_cons (ed_is (ed_cb (ea_cons (ed_lc1 S (fun p => PyData.tuple [pR p.1, .int p.2]) (fun p => PyData.int p.2) (id_tup (ed_var rfl)) (by omega) fun x hx => ⟨_, _, by simp, tg_pair, ed_var rfl⟩) ea_nil) rc_tupL) ?_) ea_nil)) (by simp)) hp
    · unfold pT rowsS
      rw [List.map_map]
      rfl
    · unfold pR hrsS
      rw [List.map_map]
      rfl
abbrev s_rounds : Stmt := top 33
abbrev N_rounds : List Str := ["size", "long", "row"]
theorem sc_rounds : FnScope N_rounds ["size", "long"] (defScope s_rounds) := ⟨rfl, rfl, rfl, by decide +kernel, rfl, by decide +kernel, by decide +kernel⟩
def R_rounds (ds : List DD) (post : DD → Prop) : Prop := ∃ (size : Int) (n : Nat), ds = [.int size, .int n] ∧ n ≤ 1000 ∧ size.natAbs ≤ 256 ∧ post (pT (roundsR size n))
theorem bd_unit {p n : Nat} : ∀ x ∈ unitR p n, x.natAbs ≤ 1 := by
  intro x hx
  unfold unitR at hx
  obtain ⟨j, _, rfl⟩ := List.mem_map.mp hx
  split <;> decide
theorem cal_rounds (E : Bl mg) (c_units : Cal P w K mg base 2 "units" (spD T R_units) []) (c_row_times : Cal P w K mg base 1 "row_times" (spD T R_row_times) []) (D : DefAt K mg "rounds" s_rounds) : Cal P w K mg base 3 "rounds" (spD T R_rounds) [] := by
  refine cal_d D sc_rounds (fun _ _ _ _ _ _ us hl => match us, hl with | [_, _], _ => rfl) (fun ds post h => ?_) (fun f cdv A outer s H E0 hr ds post h => ?_)
  · obtain ⟨a, b, rfl, _⟩ := h
    rfl
  · obtain ⟨size, n, rfl, h1, h2, hp⟩ := h
    refine ⟨_, (pss_one (ps_ret (pe_callTy (k_tupOf (K := K) rfl) (by rfl) E.tuple (by decide +kernel) (pa_cons (pe_lc (own := [("row", 2)]) rfl sc_rounds.nd (k_tup (K := K) rfl (pe_c c_units hr (by omega) (by rfl) (pa_cons (pv 1) pa_nil))) (blkOk_by (own := [("row", 2)]) (N := N_rounds) (sc := (defScope s_rounds)) (by decide +kernel)) (fun _ _ _ _ _ => (pg_name (i := 2) sc_rounds.nd rfl (Or.inl rfl) (Or.inr rfl))) (fun _ _ _ _ _ => pts_nil) (fun _ _ _ _ _ => (pe_c c_row_times hr (by omega) (by rfl) (pa_cons (pv 2) (pa_cons (pv 0) pa_nil))))) pa_nil)))), ?_⟩
    refine sd_ret (ed_is (ed_cb (ea_cons (ed_lc1 (unitsR n) pR (fun r => pR (timesR r size)) (id_tup (ed_call (ea_cons (ed_var rfl) ea_nil) ⟨n, rfl, h1, rfl⟩)) (by rw [len_unitsR]; omega) fun x hx => ⟨_, _, by simp, tg_name, ?_⟩) ea_nil) rc_tupL) ?_) hp
    · unfold unitsR at hx
      obtain ⟨p, _, rfl⟩ := List.mem_map.mp hx
      refine ed_call (ea_cons (ed_var rfl) (ea_cons (ed_var rfl) ea_nil)) ⟨unitR p n, size, rfl, by rw [len_unitR]; exact h1, fun y hy => ?_, rfl⟩
      exact mul_ok (a := 0) (b := 8) (bd_unit y hy) (by omega) (by decide)
    · unfold pT roundsR
      rw [List.map_map]
      rfl
abbrev s_asked_of : Stmt := top 34
abbrev N_asked_of : List Str := ["rows", "n", "size"]
theorem sc_asked_of : FnScope N_asked_of ["rows", "n", "size"] (defScope s_asked_of) := ⟨rfl, rfl, rfl, by decide +kernel, rfl, by decide +kernel, by decide +kernel⟩
def R_asked_of (ds : List DD) (post : DD → Prop) : Prop := ∃ (rows : List Mx.Row) (n : Nat) (size : Int), ds = [pT rows, .int n, .int size] ∧ n ≤ 1000 ∧ rows.length ≤ 1000 ∧ (∀ r ∈ rows, n ≤ r.length) ∧ size.natAbs ≤ 256 ∧ post (pT (colsR rows n ++ roundsR size rows.length))
theorem len_roundsR (size : Int) (n : Nat) : (roundsR size n).length = n := by unfold roundsR; rw [List.length_map, len_unitsR]
theorem len_colsR (t : List Mx.Row) (n : Nat) : (colsR t n).length = n := by unfold colsR; simp
theorem cal_asked_of (E : Bl mg) (c_columns : Cal P w K mg base 1 "columns" (spD T R_columns) []) (c_rounds : Cal P w K mg base 3 "rounds" (spD T R_rounds) []) (D : DefAt K mg "asked_of" s_asked_of) : Cal P w K mg base 4 "asked_of" (spD T R_asked_of) [] := by
  refine cal_d D sc_asked_of (fun _ _ _ _ _ _ us hl => match us, hl with | [_, _, _], _ => rfl) (fun ds post h => ?_) (fun f cdv A outer s H E0 hr ds post h => ?_)
  · obtain ⟨a, b, c, rfl, _⟩ := h
    rfl
  · obtain ⟨rows, n, size, rfl, h1, h2, h3, h4, hp⟩ := h
    refine ⟨_, (pss_one (ps_ret (pe_op (k_catT (K := K) rfl) (pe_c c_columns hr (by omega) (by rfl) (pa_cons (pv 0) (pa_cons (pv 1) pa_nil))) (pe_c c_rounds hr (by omega) (by rfl) (pa_cons (pv 2) (pa_cons (pe_callB (k_len (K := K) rfl) (by rfl) E.len PySem.boot_len (pa_cons (pv 0) pa_nil)) pa_nil)))))), ?_⟩
    refine sd_ret (ed_is (ed_op (ed_call (ea_cons (ed_var rfl) (ea_cons (ed_var rfl) ea_nil)) ⟨rows, n, .inl rfl, h1, h2, h3, rfl⟩) (ed_call (ea_cons (ed_var rfl) (ea_cons (ed_is (ed_cb (ea_cons (ed_var rfl) ea_nil) rc_lenT) (e := .int rows.length) ?_) ea_nil)) ⟨size, rows.length, rfl, h2, h4, rfl⟩) (rd_catT ?_)) ?_) hp
    · rw [List.length_map]
    · rw [List.length_map, List.length_map, len_roundsR, len_colsR]; omega
    · unfold pT
      rw [List.map_append]
abbrev s_fits_size : Stmt := top 35
abbrev N_fits_size : List Str := ["n", "sights", "size", "rows", "hours"]
theorem sc_fits_size : FnScope N_fits_size ["n", "sights", "size"] (defScope s_fits_size) := ⟨rfl, rfl, rfl, by decide +kernel, rfl, by decide +kernel, by decide +kernel⟩
def R_fits_size (ds : List DD) (post : DD → Prop) : Prop := ∃ (n : Nat) (d : DD) (S : Sgt) (size : Int), ds = [.int n, d, .int size] ∧ IsS d S ∧ SgOk n size S ∧ ∀ b : Bool, (b = true ↔ Fits n S size) → post (.bool b)
theorem asked_ok {n : Nat} {size : Int} {S : Sgt} (o : SgOk n size S) (hS : S ≠ []) : RwOk (colsR (rowsS S) n ++ roundsR size S.length) (hrsS S) := by
  have l0 : 0 < S.length := List.length_pos_iff.mpr hS
  have lh : (hrsS S).length = S.length := by unfold hrsS; simp
  have := o.l4
  have := o.n2
  refine ⟨by rw [List.length_append, len_colsR, len_roundsR]; omega, by rw [List.length_append, len_colsR, len_roundsR]; omega, by omega, by omega, fun r hr => ?_, fun r hr x hx => ?_, fun x hx => ?_⟩
  · rw [lh]
    rcases List.mem_append.mp hr with k | k
    · unfold colsR at k
      obtain ⟨p, _, rfl⟩ := List.mem_map.mp k
      unfold rowsS
      simp
    · unfold roundsR unitsR at k
      obtain ⟨y, hy, rfl⟩ := List.mem_map.mp k
      obtain ⟨p, _, rfl⟩ := List.mem_map.mp hy
      rw [len_timesR, len_unitR]
  · rcases List.mem_append.mp hr with k | k
    · unfold colsR at k
      obtain ⟨p, _, rfl⟩ := List.mem_map.mp k
      obtain ⟨y, hy, rfl⟩ := List.mem_map.mp hx
      unfold rowsS at hy
      obtain ⟨q, hq, rfl⟩ := List.mem_map.mp hy
      exact natAbs_le_of_at (o.bd q hq) p
    · unfold roundsR unitsR at k
      obtain ⟨y, hy, rfl⟩ := List.mem_map.mp k
      obtain ⟨p, _, rfl⟩ := List.mem_map.mp hy
      have := bd_times (k := size) (N := 256) (bd_unit (p := p) (n := S.length)) (by have := o.z1; have := o.z2; omega) x hx
      omega
  · unfold hrsS at hx
    obtain ⟨q, hq, rfl⟩ := List.mem_map.mp hx
    exact o.bh q hq
theorem cal_fits_size (E : Bl mg) (c_halves_of : Cal P w K mg base 6 "halves_of" (spD T R_halves_of) []) (c_asked_of : Cal P w K mg base 4 "asked_of" (spD T R_asked_of) []) (c_is_made : Cal P w K mg base 7 "is_made" (spD T R_is_made) [])
    (D : DefAt K mg "fits_size" s_fits_size) : Cal P w K mg base 8 "fits_size" (spD T R_fits_size) [] := by
  refine cal_d D sc_fits_size (fun _ _ _ _ _ _ us hl => match us, hl with | [_, _, _], _ => rfl) (fun ds post h => ?_) (fun f cdv A outer s H E0 hr ds post h => ?_)
  · obtain ⟨a, b, c, d, rfl, _⟩ := h
    rfl
  · obtain ⟨n, d, S, size, rfl, hS, o, hp⟩ := h
    refine ⟨_, (pss_cons (ps_asg (pe_c c_halves_of hr (by omega) (by rfl) (pa_cons (pv 1) pa_nil)) (k_gtup (K := K) (n := 2) rfl rfl (pgs_cons (pg_name (i := 3) sc_fits_size.nd rfl (Or.inl rfl) (Or.inl rfl)) (pgs_cons (pg_name (i := 4) sc_fits_size.nd rfl (Or.inl rfl) (Or.inl rfl)) pgs_nil)))) (pss_one (ps_ret (pe_or (pe_cmpR (k_eqD (K := K) rfl hr.units) (pv 3) (pe_tup pa_nil) (nomark _)) (pe_one (pe_c c_is_made hr (by omega) (by rfl) (pa_cons (pe_c c_asked_of hr (by omega) (by rfl) (pa_cons (pv 3) (pa_cons (pv 0) (pa_cons (pv 2) pa_nil)))) (pa_cons (pv 4) pa_nil)))))))), ?_⟩
    have := o.l4
    refine sd_seq (sd_asg (ed_call (ea_cons (ed_var rfl) ea_nil) ⟨d, S, rfl, hS, by omega, rfl⟩) tg_pair ?_)
    by_cases h0 : S = []
    · subst h0
      refine sd_ret (ed_orV (a := true) (b := true) (ed_op (ed_var rfl) (ed_tup ea_nil (by decide)) (rd_eqD (by decide) (by decide) rfl)) fun e => by cases e) (hp _ (by simp [Fits]))
    · have lr : (rowsS S).length = S.length := by unfold rowsS; simp
      have e1 : PyData.eqv (pT (rowsS S)) (.tuple []) = false := by
        cases S with
        | nil => exact absurd rfl h0
        | cons p S => unfold rowsS pT; simp [PyData.eqv, PyData.eqvAll]
      refine sw_ret (ew_orF (ed_op (ed_var rfl) (ed_tup ea_nil (by decide)) (rd_eqD ?_ (by decide) e1)) (ew_call (ea_cons (ed_call (ea_cons (ed_var rfl) (ea_cons (ed_var rfl) (ea_cons (ed_var rfl) ea_nil))) ⟨rowsS S, n, size, rfl, by have := o.n2; omega, by omega, ?_, ?_, rfl⟩) (ea_cons (ed_var rfl) ea_nil))
        ⟨_, _, rfl, by rw [lr]; exact asked_ok o h0, fun b hb => ?_⟩)) (post := fun d => ∃ b : Bool, d = .bool b ∧ (b = true ↔ Fits n S size)) ?_
      · exact shaped_rows _
      · intro r hr
        unfold rowsS at hr
        obtain ⟨q, hq, rfl⟩ := List.mem_map.mp hr
        rw [o.wd q hq]
        exact Nat.le_refl _
      · have := o.z1; have := o.z2; omega
      · refine ⟨b, rfl, hb.trans ?_⟩
        have lh : (hrsS S).length = S.length := by unfold hrsS; simp
        unfold Fits
        rw [lr, lh]
        simp [h0]
      · rintro d ⟨b, rfl, h⟩
        exact hp b h
/-! ### told_hour -/
abbrev s_told_hour : Stmt := top 36
abbrev N_told_hour : List Str := ["n", "sights", "size", "row", "rows", "hours", "found"]
theorem sc_told_hour : FnScope N_told_hour ["n", "sights", "size", "row"] (defScope s_told_hour) := ⟨rfl, rfl, rfl, by decide +kernel, rfl, by decide +kernel, by decide +kernel⟩
def R_told_hour (CU : Addr) (ds : List DD) (post : DD → Prop) (er : Value → Prop) : Prop := ∃ (n : Nat) (d : DD) (S : Sgt) (size : Int) (dr : DD) (row : Mx.Row), ds = [.int n, d, .int size, dr] ∧ IsS d S ∧ SgOk n size S ∧ IsR dr row ∧ row.length = n ∧ (∀ x ∈ row, x.natAbs ≤ 2 ^ 8) ∧
  (¬ Fits n S size → er (.ref CU)) ∧ (Fits n S size → (¬ InS (rowsS S ++ roundsR size n) n row → post .none) ∧ ∀ m, Makes (rowsS S ++ roundsR size n) row m → post (.int ((dot (m.take S.length) (hrsS S)).fmod size)))
theorem told_ok {n : Nat} {size : Int} {S : Sgt} (o : SgOk n size S) {row : Mx.Row} (hl : row.length = n) (hb : ∀ x ∈ row, x.natAbs ≤ 2 ^ 8) : RwOk (rowsS S ++ roundsR size n) row := by
  have lr : (rowsS S).length = S.length := by unfold rowsS; simp
  have := o.l4
  have := o.n2
  have := o.n1
  refine ⟨by rw [List.length_append, lr, len_roundsR]; omega, by rw [List.length_append, lr, len_roundsR]; omega, by omega, by omega, fun r hr => ?_, fun r hr x hx => ?_, hb⟩
  · rw [hl]
    rcases List.mem_append.mp hr with k | k
    · unfold rowsS at k
      obtain ⟨q, hq, rfl⟩ := List.mem_map.mp k
      exact o.wd q hq
    · unfold roundsR unitsR at k
      obtain ⟨y, hy, rfl⟩ := List.mem_map.mp k
      obtain ⟨p, _, rfl⟩ := List.mem_map.mp hy
      rw [len_timesR, len_unitR]
  · rcases List.mem_append.mp hr with k | k
    · unfold rowsS at k
      obtain ⟨q, hq, rfl⟩ := List.mem_map.mp k
      exact o.bd q hq x hx
    · unfold roundsR unitsR at k
      obtain ⟨y, hy, rfl⟩ := List.mem_map.mp k
      obtain ⟨p, _, rfl⟩ := List.mem_map.mp hy
      have := bd_times (k := size) (N := 256) (bd_unit (p := p) (n := n)) (by have := o.z1; have := o.z2; omega) x hx
      omega
theorem cal_told_hour (E : Bl mg) {CN CU : Addr} (ONoPaper : OwnX K mg "NoPaper" CN) (OUnfit : OwnX K mg "Unfit" CU) (c_tupled : Cal P w K mg base 5 "tupled" (spD T (R_tupled 3)) []) (c_halves_of : Cal P w K mg base 6 "halves_of" (spD T R_halves_of) [])
    (c_rounds : Cal P w K mg base 3 "rounds" (spD T R_rounds) []) (c_shown : Cal P w K mg base 1 "shown" (spD T R_shown) []) (c_fits_size : Cal P w K mg base 8 "fits_size" (spD T R_fits_size) []) (c_made_by : CalX P w K mg base 7 "made_by" (spX T (R_made_by CN)))
    (D : DefAt K mg "told_hour" s_told_hour) : CalX P w K mg base 9 "told_hour" (spX T (R_told_hour CU)) := by
  refine cal_x D sc_told_hour (fun _ _ _ _ _ _ us hl => match us, hl with | [_, _, _, _], _ => rfl) (fun ds post er h => ?_) (fun f cdv A outer s H E0 hr ds post er h G0 hE => ?_)
  · obtain ⟨a, b, c, d, e, g, rfl, _⟩ := h
    rfl
  · obtain ⟨n, d, S, size, dr, row, rfl, hS, o, hR, hl, hb, hU, hF⟩ := h
    refine ⟨_, (pss_cons (ps_if (pt_not (pt_val (pe_c c_fits_size hr (by omega) (by rfl) (pa_cons (pv 0) (pa_cons (pv 1) (pa_cons (pv 2) pa_nil)))))) (pss_one (ps_own0 rfl (takes_of rfl rfl rfl rfl) OUnfit (by rfl))) pss_nil) (pss_cons (ps_asg (pe_c c_halves_of hr (by omega) (by rfl) (pa_cons (pv 1) pa_nil)) (k_gtup (K := K) (n := 2) rfl rfl (pgs_cons (pg_name (i := 4) sc_told_hour.nd rfl (Or.inl rfl) (Or.inl rfl)) (pgs_cons (pg_name (i := 5) sc_told_hour.nd rfl (Or.inl rfl) (Or.inl rfl)) pgs_nil)))) (pss_cons (ps_try_only rfl rfl ⟨by rfl, by decide, .inl ONoPaper.gC⟩ (takes_of rfl rfl rfl rfl) (fun W pn xe tk _ => (pss_one (ps_set (i := 6) sc_told_hour.nd rfl (Or.inl rfl) (pe_cx c_made_by tk hr (by omega) (by rfl) (pa_cons (pe_op (k_catT (K := K) rfl) (pv 4) (pe_c c_rounds hr (by omega) (by rfl) (pa_cons (pv 2) (pa_cons (pv 0) pa_nil)))) (pa_cons (pe_c c_tupled hr (by omega) (by rfl) (pa_cons (pv 3) pa_nil)) pa_nil)))))) (fun a oe cls d pn _ _ => (pss_one (ps_ret pe_non)))) (pss_one (ps_ret (pe_op op_modN (pe_c c_shown hr (by omega) (by rfl) (pa_cons (pe_slice (k_slt (K := K) rfl) (pv 6) po_none (po_some (pe_callB (k_len (K := K) rfl) (by rfl) E.len PySem.boot_len (pa_cons (pv 4) pa_nil)))) (pa_cons (pv 5) pa_nil))) (pv 2))))))), ?_⟩
    have o4 := o.l4
    have o2 := o.n2
    have lr : (rowsS S).length = S.length := by unfold rowsS; simp
    have lh : (hrsS S).length = S.length := by unfold hrsS; simp
    by_cases hf : Fits n S size
    · obtain ⟨hN, hP⟩ := hF hf
      refine sx_seq (sx_if (et_nF (et_testW (ew_call (ea_cons (ed_var rfl) (ea_cons (ed_var rfl) (ea_cons (ed_var rfl) ea_nil))) (post := fun d => d = .bool true) ?_) fun d e => e)) (fun e => by cases e) fun _ => sx_next ?_)
      · exact ⟨n, d, S, size, rfl, hS, o, fun b hb => by rw [hb.mpr hf]⟩
      refine sx_seq (sx_of (sd_asg (ed_call (ea_cons (ed_var rfl) ea_nil) ⟨d, S, rfl, hS, by omega, rfl⟩) tg_pair ?_))
      refine sx_seq ?_
      have tr := told_ok o hl hb
      refine sx_try (i := 6) (ds := [pT (rowsS S ++ roundsR size n), pR row]) (post := fun d => ∃ m, d = pR m ∧ Makes (rowsS S ++ roundsR size n) row m) (er := fun c => c = .ref CN ∧ ¬ InS (rowsS S ++ roundsR size n) n row) (ea_cons (ed_is (ed_op (ed_var rfl) (ed_call (ea_cons (ed_var rfl) (ea_cons (ed_var rfl) ea_nil)) ⟨size, n, rfl, by omega, ?_, rfl⟩) (rd_catT ?_)) ?_) (ea_cons (ed_call (ea_cons (ed_var rfl) ea_nil) ⟨dr, rfl, hR.1, hR.2⟩) ea_nil))
        ⟨_, _, rfl, tr, fun h => ⟨rfl, by rw [hl] at h; exact h⟩, fun m hm => ⟨m, rfl, hm⟩⟩ ?_ ?_
      · have := o.z1; have := o.z2; omega
      · rw [List.length_map, List.length_map, lr, len_roundsR]; omega
      · unfold pT
        rw [List.map_append]
      · rintro d ⟨m, rfl, hm⟩
        refine sx_of (sd_ret (ed_op (ed_call (ea_cons (ed_is (ed_sl (ed_var rfl) eo_none (eo_some (ed_is (ed_cb (ea_cons (ed_var rfl) ea_nil) rc_lenT) (e := .int S.length) ?_)) rs_t) (e := pR (m.take S.length)) ?_) (ea_cons (ed_var rfl) ea_nil)) ⟨m.take S.length, hrsS S, rfl, ?_, ?_, rfl⟩) (ed_var rfl) (rd_I ?_)) (hP m hm))
        · rw [List.length_map, lr]
        · have : S.length ≤ m.length := by rw [hm.1, List.length_append, lr]; omega
          rw [cut_to (n := 0) (by simpa using this), ← List.map_take]
          rfl
        · simp; omega
        · intro p hp
          obtain ⟨k1, k2⟩ := List.of_mem_zip (a := p.1) (b := p.2) hp
          refine mul_ok (a := 200000) (b := 8) (hm.2.1 _ (List.mem_of_mem_take k1)) ?_ (by decide)
          unfold hrsS at k2
          obtain ⟨q, hq, e⟩ := List.mem_map.mp k2
          rw [← e]
          exact o.bh q hq
        · have := o.z1; omega
      · rintro c ⟨rfl, hn⟩
        exact ⟨ONoPaper.eP, fun a => sx_of (sd_ret ed_non (hN hn))⟩
    · refine sx_seq (sx_if (et_nT (et_testW (ew_call (ea_cons (ed_var rfl) (ea_cons (ed_var rfl) (ea_cons (ed_var rfl) ea_nil))) (post := fun d => d = .bool false) ?_) fun d e => e)) (fun _ => sx_raise fun G2 H2 st => hE _ G2 H2 (hU hf) st) fun e => by cases e)
      exact ⟨n, d, S, size, rfl, hS, o, fun b hb => by rw [show b = false by simpa [hf] using hb]⟩
end
end Sh
-- Sm
set_option maxRecDepth 100000
set_option maxHeartbeats 4000000
/-! lists that change: a table of contents over the frozen heap -/
namespace Sh
open PySem PySem.Spec PyProof.Rows L2 RZ
open C8 (Cal pe_c)
inductive MD where
  | d (x : DD)
  | m (a : Addr)
abbrev Ml := List (Option MD)
abbrev Mu := Addr → Option (List DD)
def updM (μ : Mu) (a : Addr) (ds : List DD) : Mu := fun b => if b = a then some ds else μ b
theorem updM_same {μ : Mu} {a : Addr} {ds : List DD} : updM μ a ds a = some ds := by unfold updM; simp
theorem updM_ne {μ : Mu} {a b : Addr} {ds : List DD} (h : b ≠ a) : updM μ a ds b = μ b := by unfold updM; simp [h]
theorem dqa_set {G : Hp} {v : V} {d : DD} : ∀ {vs : List V} {ds : List DD} (n : Nat), Dq G v d → DqAll G vs ds → DqAll G (vs.set n v) (ds.set n d)
  | _, _, _, _, .nil => .nil
  | _, _, 0, h, .cons _ t => .cons h t
  | _, _, n + 1, h, .cons h' t => .cons h' (dqa_set n h t)
structure MuOk (μ : Mu) (G H : Hp) : Prop where
  at_ : ∀ a ds, μ a = some ds → G a = none ∧ ∃ vs, H a = some (.lst vs) ∧ DqAll G vs ds
def VM (G : Hp) (v : V) : MD → Prop
  | .d x => Dq G v x
  | .m a => v = .ref a
theorem VM.mono {G G' : Hp} (e : Same G G') {v : V} : ∀ {r : MD}, VM G v r → VM G' v r
  | .d x, h => dq_mono e x v h
  | .m a, h => h
def EnvM (G : Hp) (σ : L2.St) (ε : Ml) : Prop := σ.length = ε.length ∧ ∀ (i : Nat) (r : MD), ε[i]? = some (some r) → ∃ v, σ[i]? = some (some v) ∧ VM G v r
theorem EnvM.mono {G G' : Hp} {σ : L2.St} {ε : Ml} (e : Same G G') (h : EnvM G σ ε) : EnvM G' σ ε := ⟨h.1, fun i r hr => let ⟨v, h1, h2⟩ := h.2 i r hr; ⟨v, h1, h2.mono e⟩⟩
theorem EnvM.set {G : Hp} {σ : L2.St} {ε : Ml} {v : V} {r : MD} (h : EnvM G σ ε) (i : Nat) (hv : VM G v r) : EnvM G (σ.set i (some v)) (ε.set i (some r)) := by
  refine ⟨by simpa using h.1, fun j e he => ?_⟩
  by_cases hj : i = j
  · subst hj
    have hl : i < ε.length := by
      rcases Nat.lt_or_ge i ε.length with z | z
      · exact z
      · rw [List.getElem?_eq_none (by simpa using z)] at he
        cases he
    rw [List.getElem?_set_self hl] at he
    cases he
    exact ⟨v, List.getElem?_set_self (by rw [h.1]; exact hl), hv⟩
  · rw [List.getElem?_set_ne hj] at he
    obtain ⟨u, h1, h2⟩ := h.2 j e he
    exact ⟨u, by rw [List.getElem?_set_ne hj]; exact h1, h2⟩
structure OkM (T : Tb) (σ : L2.St) (ε : Ml) (μ : Mu) (G H : Hp) : Prop where
  s : Same G H
  t : NdefX.TabsN T H
  e : EnvM G σ ε
  nt : ∀ b ps, G b ≠ some (.tbl ps)
  mu : MuOk μ G H
structure StM (T : Tb) (μ : Mu) (G H : Hp) (μ2 : Mu) (G2 H2 : Hp) : Prop where
  gg : Same G G2
  gh : Same G2 H2
  hh : ∀ b o, μ b = none → H b = some o → (∀ ps, o ≠ .tbl ps) → H2 b = some o
  nn : ∀ b, H2 b = none → H b = none
  fr : ∀ b o, G2 b = some o → G b = none → H b = none
  tt : NdefX.TabsN T H → NdefX.TabsN T H2
  nt : ∀ b ps, G2 b = some (.tbl ps) → G b = some (.tbl ps)
  mu : MuOk μ2 G2 H2
  dom : ∀ a, μ2 a = none → μ a = none
  new : ∀ a, μ2 a ≠ none → μ a = none → H a = none
section
variable {T : Tb} {σ : L2.St} {ε : Ml} {μ μ1 μ2 : Mu} {G H G1 H1 G2 H2 : Hp}
theorem MuOk.step (m : MuOk μ G H) (st : Step T G H G2 H2) : MuOk μ G2 H2 := ⟨fun a ds e => by
  obtain ⟨h1, vs, h2, h3⟩ := m.at_ a ds e
  refine ⟨?_, vs, st.hh a _ h2 (fun ps z => nomatch z), dqa_mono st.gg _ _ h3⟩
  cases q : G2 a with
  | none => rfl
  | some o => rw [st.fr a o q h1] at h2; cases h2⟩
theorem StM.of (st : Step T G H G2 H2) (m : MuOk μ G H) : StM T μ G H μ G2 H2 :=
  ⟨st.gg, st.gh, fun b o _ e n => st.hh b o e n, st.nn, st.fr, st.tt, st.nt, m.step st, fun _ h => h, fun a h h' => absurd h' h⟩
theorem StM.refl (s : Same G H) (m : MuOk μ G H) : StM T μ G H μ G H := .of (.refl s) m
theorem StM.trans (a : StM T μ G H μ1 G1 H1) (b : StM T μ1 G1 H1 μ2 G2 H2) : StM T μ G H μ2 G2 H2 := by
  refine ⟨a.gg.trans b.gg, b.gh, fun c o hm hc n => ?_, fun c h => a.nn c (b.nn c h), fun c o h h' => ?_, fun h => b.tt (a.tt h), fun c ps h => a.nt c ps (b.nt c ps h), b.mu, fun c h => a.dom c (b.dom c h), fun c h h' => ?_⟩
  · refine b.hh c o ?_ (a.hh c o hm hc n) n
    cases q : μ1 c with
    | none => rfl
    | some ds => rw [a.new c (by rw [q]; intro z; cases z) hm] at hc; cases hc
  · cases q : G1 c with
    | some u => exact a.fr c u q h'
    | none => exact a.nn c (b.fr c o h q)
  · cases q : μ1 c with
    | none => exact a.nn c (b.new c h q)
    | some ds => exact a.new c (by rw [q]; intro z; cases z) h'
theorem OkM.step (o : OkM T σ ε μ G H) (st : StM T μ G H μ2 G2 H2) : OkM T σ ε μ2 G2 H2 := ⟨st.gh, st.tt o.t, o.e.mono st.gg, fun b ps h => o.nt b ps (st.nt b ps h), st.mu⟩
/-- a list of the table changes -/
theorem StM.set {a : Addr} {ds ds' : List DD} {vs' : List V} (s : Same G H) (m : MuOk μ G H) (ha : μ a = some ds) (hd : DqAll G vs' ds') : StM T μ G H (updM μ a ds') G (upd H a (.lst vs')) := by
  obtain ⟨g1, vs, h1, h2⟩ := m.at_ a ds ha
  refine ⟨.refl _, fun b o e => ?_, fun b o hb e n => ?_, fun b e => upd_not e, fun b o e e' => absurd e (by rw [e']; intro z; cases z), fun t => tabs_mut t h1, fun b ps e => e, ⟨fun b es e => ?_⟩, fun b e => ?_, fun b e e' => ?_⟩
  · rw [upd_ne (ne_of_none e g1)]
    exact s b o e
  · have : b ≠ a := by rintro rfl; rw [ha] at hb; cases hb
    rw [upd_ne this]
    exact e
  · by_cases hb : b = a
    · subst hb
      rw [updM_same] at e
      cases e
      exact ⟨g1, vs', upd_same, hd⟩
    · rw [updM_ne hb] at e
      obtain ⟨q1, ws, q2, q3⟩ := m.at_ b es e
      exact ⟨q1, ws, by rw [upd_ne hb]; exact q2, q3⟩
  · by_cases hb : b = a
    · subst hb
      rw [updM_same] at e
      cases e
    · rw [updM_ne hb] at e
      exact e
  · exfalso
    by_cases hb : b = a
    · subst hb
      rw [ha] at e'
      cases e'
    · rw [updM_ne hb] at e
      exact e e'
/-- a new list of the table -/
theorem StM.fresh {p : Addr} {vs : List V} {ds : List DD} (st : Step T G H G2 H2) (m : MuOk μ G H) (hp : H p = none) (gp : G2 p = none) (h2 : H2 p = some (.lst vs)) (hd : DqAll G2 vs ds) : StM T μ G H (updM μ p ds) G2 H2 := by
  have m2 := m.step st
  have hmp : μ p = none := by
    cases q : μ p with
    | none => rfl
    | some es => obtain ⟨_, ws, e, _⟩ := m.at_ p es q; rw [hp] at e; cases e
  refine ⟨st.gg, st.gh, fun b o _ e n => st.hh b o e n, st.nn, st.fr, st.tt, st.nt, ⟨fun b es e => ?_⟩, fun b e => ?_, fun b e e' => ?_⟩
  · by_cases hb : b = p
    · subst hb
      rw [updM_same] at e
      cases e
      exact ⟨gp, vs, h2, hd⟩
    · rw [updM_ne hb] at e
      exact m2.at_ b es e
  · by_cases hb : b = p
    · subst hb
      rw [updM_same] at e
      cases e
    · rw [updM_ne hb] at e
      exact e
  · by_cases hb : b = p
    · subst hb
      exact hp
    · rw [updM_ne hb] at e
      exact absurd e' e
theorem MuOk.none (m : MuOk μ G H) {p : Addr} (hp : H p = none) : μ p = none := by
  cases q : μ p with
  | none => rfl
  | some es => obtain ⟨_, ws, e, _⟩ := m.at_ p es q; rw [hp] at e; cases e
end
/-! ### the table seen as frozen -/
def frz (μ : Mu) (G H : Hp) : Hp := fun b => if (μ b).isSome then H b else G b
def unf (μ : Mu) (G : Hp) : Hp := fun b => if (μ b).isSome then none else G b
def seen (μ : Mu) : Option MD → Option DD
  | some (.d x) => some x
  | some (.m a) => (μ a).map .list
  | none => none
def vw (ε : Ml) (μ : Mu) : Dl := ε.map (seen μ)
section
variable {T : Tb} {σ : L2.St} {ε : Ml} {μ μ1 μ2 : Mu} {G H G1 H1 G2 H2 : Hp}
theorem frz_some {a : Addr} {ds : List DD} (h : μ a = some ds) : frz μ G H a = H a := by unfold frz; simp [h]
theorem frz_none {a : Addr} (h : μ a = none) : frz μ G H a = G a := by unfold frz; simp [h]
theorem unf_some {a : Addr} {ds : List DD} (h : μ a = some ds) : unf μ G a = none := by unfold unf; simp [h]
theorem unf_none {a : Addr} (h : μ a = none) : unf μ G a = G a := by unfold unf; simp [h]
theorem frz_same (m : MuOk μ G H) : Same G (frz μ G H) := fun b u e => by
  cases q : μ b with
  | none => rw [frz_none q]; exact e
  | some ds => rw [(m.at_ b ds q).1] at e; cases e
theorem OkM.view (o : OkM T σ ε μ G H) : Ok T σ (vw ε μ) (frz μ G H) H := by
  refine ⟨fun b u e => ?_, o.t, ⟨by unfold vw; simpa using o.e.1, fun i d e => ?_⟩, fun b ps e => ?_⟩
  · cases q : μ b with
    | none => rw [frz_none q] at e; exact o.s b u e
    | some ds => rw [frz_some q] at e; exact e
  · unfold vw at e
    rw [List.getElem?_map] at e
    cases q : ε[i]? with
    | none => rw [q] at e; cases e
    | some r =>
      rw [q] at e
      cases r with
      | none => cases e
      | some r =>
        obtain ⟨v, h1, h2⟩ := o.e.2 i r q
        refine ⟨v, h1, ?_⟩
        cases r with
        | d x =>
          cases e
          exact dq_mono (frz_same o.mu) _ _ h2
        | m a =>
          have e : (μ a).map PyData.list = some d := by simpa [seen] using e
          cases qa : μ a with
          | none => rw [qa] at e; cases e
          | some ds =>
            rw [qa] at e
            cases e
            cases h2
            obtain ⟨_, vs, k1, k2⟩ := o.mu.at_ a ds qa
            exact .lst (by rw [frz_some qa]; exact k1) (dqa_mono (frz_same o.mu) _ _ k2)
  · cases q : μ b with
    | none => rw [frz_none q] at e; exact o.nt b ps e
    | some ds =>
      rw [frz_some q] at e
      obtain ⟨_, vs, k1, _⟩ := o.mu.at_ b ds q
      rw [k1] at e
      cases e
theorem unf_step (m : MuOk μ G H) (st : Step T (frz μ G H) H G2 H2) : Step T G H (unf μ G2) H2 := by
  refine ⟨fun b u e => ?_, fun b u e => ?_, st.hh, st.nn, fun b u e e' => ?_, st.tt, fun b ps e => ?_⟩
  · cases q : μ b with
    | none => rw [unf_none q]; exact st.gg b u (by rw [frz_none q]; exact e)
    | some ds => rw [(m.at_ b ds q).1] at e; cases e
  · cases q : μ b with
    | none => rw [unf_none q] at e; exact st.gh b u e
    | some ds => rw [unf_some q] at e; cases e
  · cases q : μ b with
    | none => rw [unf_none q] at e; exact st.fr b u e (by rw [frz_none q]; exact e')
    | some ds => rw [unf_some q] at e; cases e
  · cases q : μ b with
    | none => rw [unf_none q] at e; have := st.nt b ps e; rw [frz_none q] at this; exact this
    | some ds => rw [unf_some q] at e; cases e
/-- the data alone -/
def pd : Option MD → Option DD
  | some (.d x) => some x
  | _ => none
theorem OkM.pure (o : OkM T σ ε μ G H) : Ok T σ (ε.map pd) G H := by
  refine ⟨o.s, o.t, ⟨by simpa using o.e.1, fun i d e => ?_⟩, o.nt⟩
  rw [List.getElem?_map] at e
  cases q : ε[i]? with
  | none => rw [q] at e; cases e
  | some r =>
    rw [q] at e
    cases r with
    | none => cases e
    | some r =>
      cases r with
      | d x =>
        cases e
        exact o.e.2 i _ q
      | m a => cases e
mutual
/-- holds no list -/
def LF : DD → Bool
  | .list _ => false
  | .dict _ => false
  | .tuple xs => LFA xs
  | .int _ => true
  | .none => true
  | .bool _ => true
  | .str _ => true
def LFA : List DD → Bool
  | [] => true
  | x :: xs => LF x && LFA xs
end
mutual
theorem dq_lf (h : ∀ b xs, G b = some (.tup xs) → G2 b = some (.tup xs)) : ∀ (d : DD) (v : V), LF d = true → Dq G v d → Dq G2 v d
  | .none, _, _, h => by cases h; exact .non
  | .bool b, _, _, h => by cases h; exact .bl b
  | .int i, _, _, h => by cases h; exact .int i
  | .str x, _, _, h => by cases h; exact .str x
  | .list ds, _, l, h => by rw [LF] at l; cases l
  | .tuple ds, _, l, q => by
    rw [LF] at l
    cases q with
    | tup hs ha => exact .tup (h _ _ hs) (dqa_lf h ds _ l ha)
  | .dict _, _, _, h => by cases h
theorem dqa_lf (h : ∀ b xs, G b = some (.tup xs) → G2 b = some (.tup xs)) : ∀ (ds : List DD) (vs : List V), LFA ds = true → DqAll G vs ds → DqAll G2 vs ds
  | [], _, _, h => by cases h; exact .nil
  | d :: ds, _, l, q => by
    rw [LFA, Bool.and_eq_true] at l
    cases q with
    | cons h1 h2 => exact .cons (dq_lf h d _ l.1 h1) (dqa_lf h ds _ l.2 h2)
end
theorem unf_tup (m : MuOk μ G H) (st : Step T (frz μ G H) H G2 H2) (b : Addr) (xs : List V) (e : G2 b = some (.tup xs)) : unf μ G2 b = some (.tup xs) := by
  cases q : μ b with
  | none => rw [unf_none q]; exact e
  | some ds =>
    obtain ⟨_, vs, k1, _⟩ := m.at_ b ds q
    have := st.gg b _ (by rw [frz_some q]; exact k1)
    rw [e] at this
    cases this
theorem lf_ints (r : List Int) : LFA (r.map PyData.int) = true := by
  induction r with
  | nil => rfl
  | cons x r ih => simp only [List.map_cons, LFA, LF, ih, Bool.and_self]
theorem lf_pR (r : List Int) : LF (pR r) = true := by unfold pR; rw [LF, lf_ints]
end
/-! ### readings that change nothing of the table -/
def EM (T : Tb) (te : TE) (ε : Ml) (μ : Mu) (d : DD) : Prop := ∀ (σ : L2.St) (G H : Hp), OkM T σ ε μ G H → ∀ Q : VK, (∀ (v : V) (G2 H2 : Hp), Step T G H G2 H2 → Dq G2 v d → Q v H2) → te σ H Q
/-- readings that may -/
def XM (T : Tb) (te : TE) (ε : Ml) (μ : Mu) (post : MD → Mu → Prop) : Prop := ∀ (σ : L2.St) (G H : Hp), OkM T σ ε μ G H → ∀ Q : VK,
  (∀ (r : MD) (v : V) (μ2 : Mu) (G2 H2 : Hp), post r μ2 → StM T μ G H μ2 G2 H2 → VM G2 v r → Q v H2) → te σ H Q
def XA (T : Tb) (ta : TA) (ε : Ml) (μ : Mu) (post : List MD → Mu → Prop) : Prop := ∀ (σ : L2.St) (G H : Hp), OkM T σ ε μ G H → ∀ Q : List V → Hp → Prop,
  (∀ (rs : List MD) (vs : List V) (μ2 : Mu) (G2 H2 : Hp), post rs μ2 → StM T μ G H μ2 G2 H2 → Paired (VM G2) vs rs → Q vs H2) → ta σ H Q
def XT (T : Tb) (tt : TT) (ε : Ml) (μ : Mu) (post : Bool → Mu → Prop) : Prop := ∀ (σ : L2.St) (G H : Hp), OkM T σ ε μ G H → ∀ Q : Bool → Hp → Prop, (∀ (b : Bool) (μ2 : Mu) (G2 H2 : Hp), post b μ2 → StM T μ G H μ2 G2 H2 → Q b H2) → tt σ H Q
section
variable {T : Tb} {ε : Ml} {μ : Mu} {te ta tb : TE} {d e f : DD} {post : MD → Mu → Prop} {a : Addr} {ds es : List DD} {i : Nat} {K : PySem.W.Frag} {r : R2}
theorem em_lf (h : ED T te (vw ε μ) d) (l : LF d = true) : EM T te ε μ d := fun σ G H o Q q => h σ _ H o.view Q fun v G2 H2 st dv => q v _ H2 (unf_step o.mu st) (dq_lf (unf_tup o.mu st) d v l dv)
theorem em_new (h : NL T te (vw ε μ) ds) (l : LFA ds = true) : EM T te ε μ (.list ds) := fun σ G H o Q q => h σ _ H o.view Q fun p vs G2 H2 st hp gp h2 hd => by
  have st' := unf_step o.mu st
  have gp' : unf μ G2 p = none := by
    rw [unf_none (o.mu.none hp)]
    exact gp
  have hd' := dqa_lf (unf_tup o.mu st) _ _ l hd
  exact q _ _ _ (st'.freeze h2 gp' hp) (.lst upd_same (dqa_mono (fun b u e => by rw [upd_ne (ne_of_none e gp')]; exact e) _ _ hd'))
theorem em_var (h : ε[i]? = some (some (.d d))) : EM T (tVar i) ε μ d := fun σ G H o Q q => by
  obtain ⟨v, h1, h2⟩ := o.e.2 i _ h
  exact ⟨v, h1, q v G H (.refl o.s) h2⟩
/-- a place of a list of the table -/
theorem em_item {k : Int} (ha : ε[i]? = some (some (.m a))) (hm : μ a = some ds) (hk : ED T te (vw ε μ) (.int k)) (hd : atI ds k = some d) : EM T (tOp (rIx K) (tVar i) te) ε μ d := fun σ G H o Q q => by
  obtain ⟨v, h1, h2⟩ := o.e.2 i _ ha
  cases h2
  refine ⟨_, h1, em_lf hk rfl σ G H o _ fun w G2 H2 st dw => ?_⟩
  cases dw
  obtain ⟨g1, vs, k1, k2⟩ := (o.mu.step st).at_ a ds hm
  obtain ⟨x, hx, dx⟩ := ix_map k2 hd
  exact .inl ⟨_, _, k, x, rfl, rfl, SqL.of k1, hx, q x G2 H2 st dx⟩
theorem em_data (h : ED T te (ε.map pd) d) : EM T te ε μ d := fun σ G H o Q q => h σ G H o.pure Q q
theorem xm_dataW {pa : DD → Prop} (h : EW T te (ε.map pd) pa) (hp : ∀ d, pa d → post (.d d) μ) : XM T te ε μ post := fun σ G H o Q q => h σ G H o.pure Q fun d v G2 H2 hd st dv => q (.d d) v μ G2 H2 (hp d hd) (.of st o.mu) dv
theorem em_is (h : EM T te ε μ d) (e1 : d = e) : EM T te ε μ e := by rw [← e1]; exact h
theorem em_int {k : Int} : EM T (tC (.int k)) ε μ (.int k) := em_lf ed_int rfl
theorem EM.xm (h : EM T te ε μ d) : XM T te ε μ (fun r μ2 => r = .d d ∧ μ2 = μ) := fun σ G H o Q q => h σ G H o Q fun v G2 H2 st dv => q (.d d) v μ G2 H2 ⟨rfl, rfl⟩ (.of st o.mu) dv
theorem xm_of (h : EM T te ε μ d) (hp : post (.d d) μ) : XM T te ε μ post := fun σ G H o Q q => h σ G H o Q fun v G2 H2 st dv => q (.d d) v μ G2 H2 hp (.of st o.mu) dv
theorem xm_lfW {pa : DD → Prop} (h : EW T te (vw ε μ) pa) (hp : ∀ d, pa d → LF d = true ∧ post (.d d) μ) : XM T te ε μ post := fun σ G H o Q q => h σ _ H o.view Q fun d v G2 H2 hd st dv =>
  q (.d d) v μ _ H2 (hp d hd).2 (.of (unf_step o.mu st) o.mu) (dq_lf (unf_tup o.mu st) d v (hp d hd).1 dv)
theorem xm_new (h : NL T te (vw ε μ) ds) (l : LFA ds = true) (hp : ∀ p, μ p = none → post (.m p) (updM μ p ds)) : XM T te ε μ post := fun σ G H o Q q => h σ _ H o.view Q fun p vs G2 H2 st hn gp h2 hd => by
  have st' := unf_step o.mu st
  have gp' : unf μ G2 p = none := by
    rw [unf_none (o.mu.none hn)]
    exact gp
  have hd' := dqa_lf (unf_tup o.mu st) _ _ l hd
  exact q (.m p) _ _ _ _ (hp p (o.mu.none hn)) (.fresh st' o.mu hn gp' h2 hd') rfl
theorem xm_ptr (h : ε[i]? = some (some (.m a))) (hp : post (.m a) μ) : XM T (tVar i) ε μ post := fun σ G H o Q q => by
  obtain ⟨v, h1, h2⟩ := o.e.2 i _ h
  exact ⟨v, h1, q (.m a) v μ G H hp (.refl o.s o.mu) h2⟩
theorem xm_imp {p2 : MD → Mu → Prop} (h : XM T te ε μ p2) (hp : ∀ r μ2, p2 r μ2 → post r μ2) : XM T te ε μ post := fun σ G H o Q q => h σ G H o Q fun r v μ2 G2 H2 hr => q r v μ2 G2 H2 (hp r μ2 hr)
theorem xm_op {pa : MD → Mu → Prop} (ha : XM T ta ε μ pa) (hb : ∀ x μ1, pa x μ1 → ∃ d, x = .d d ∧ XM T tb ε μ1 (fun y μ2 => ∃ e f, y = .d e ∧ RD T r d e f ∧ post (.d f) μ2)) : XM T (tOp r ta tb) ε μ post := fun σ G H o Q q =>
  ha σ G H o _ fun x v μ1 G1 H1 hx s1 d1 => by
    obtain ⟨d, rfl, hb⟩ := hb x μ1 hx
    refine hb σ G1 H1 (o.step s1) _ fun y w μ2 G2 H2 hy s2 d2 => ?_
    obtain ⟨e, f, rfl, hr, hp⟩ := hy
    have d1 : Dq G1 v d := d1
    have d2 : Dq G2 w e := d2
    exact hr G2 H2 v w s2.gh (s2.tt (s1.tt o.t)) (dq_mono s2.gg _ _ d1) d2 Q fun z G3 H3 s3 d3 => q (.d f) z μ2 G3 H3 hp ((s1.trans s2).trans (.of s3 s2.mu)) d3
theorem xa_nil {pa : List MD → Mu → Prop} (h : pa [] μ) : XA T tNil ε μ pa := fun σ G H o Q q => q [] [] μ G H h (.refl o.s o.mu) .nil
theorem pair_mono {G1 G2 : Hp} (g : Same G1 G2) : ∀ {vs : List V} {rs : List MD}, Paired (VM G1) vs rs → Paired (VM G2) vs rs
  | _, _, .nil => .nil
  | _, _, .cons h t => .cons (h.mono g) (pair_mono g t)
theorem xa_cons {tr : TA} {pa : MD → Mu → Prop} {pr : List MD → Mu → Prop} (ha : XM T ta ε μ pa) (hr : ∀ x μ1, pa x μ1 → XA T tr ε μ1 (fun rs μ2 => pr (x :: rs) μ2)) : XA T (tCons ta tr) ε μ pr := fun σ G H o Q q =>
  ha σ G H o _ fun x v μ1 G1 H1 hx s1 d1 => hr x μ1 hx σ G1 H1 (o.step s1) _ fun rs vs μ2 G2 H2 hrs s2 d2 => q (x :: rs) (v :: vs) μ2 G2 H2 hrs (s1.trans s2) (.cons (d1.mono s2.gg) d2)
/-- pure arguments, and lists of the table -/
theorem xa_d {tr : TA} {pr : List MD → Mu → Prop} (ha : EM T ta ε μ d) (hr : XA T tr ε μ (fun rs μ2 => pr (.d d :: rs) μ2)) : XA T (tCons ta tr) ε μ pr := xa_cons ha.xm fun x μ1 ⟨e1, e2⟩ => by subst e1 e2; exact hr
theorem xa_m {tr : TA} {pr : List MD → Mu → Prop} (h : ε[i]? = some (some (.m a))) (hr : XA T tr ε μ (fun rs μ2 => pr (.m a :: rs) μ2)) : XA T (tCons (tVar i) tr) ε μ pr :=
  xa_cons (xm_ptr (post := fun x μ1 => x = .m a ∧ μ1 = μ) h ⟨rfl, rfl⟩) fun x μ1 ⟨e1, e2⟩ => by subst e1 e2; exact hr
theorem dqa_of_pair {G : Hp} : ∀ {vs : List V} {ds : List DD}, Paired (VM G) vs (ds.map MD.d) → DqAll G vs ds
  | _, [], h => by cases h; exact .nil
  | _, d :: ds, h => by
    cases h with
    | cons h t => exact .cons h (dqa_of_pair t)
/-- a tuple of data -/
theorem xm_tup {tr : TA} (h : XA T tr ε μ (fun rs μ2 => ∃ ds : List DD, rs = ds.map MD.d ∧ ds.length ≤ 1000000 ∧ post (.d (.tuple ds)) μ2)) : XM T (tTup tr) ε μ post := fun σ G H o Q q =>
  h σ G H o _ fun rs vs μ2 G2 H2 hr s2 d2 => by
    obtain ⟨ds, rfl, hl, hp⟩ := hr
    have dd := dqa_of_pair d2
    exact ⟨by rw [dqa_len dd]; exact Nat.le_trans hl (by decide), fun p hn => q (.d (.tuple ds)) _ μ2 _ _ hp (s2.trans (.of (Step.new s2.gh hn) s2.mu)) (.tup upd_same (dqa_mono (Step.new (T := T) s2.gh hn).gg _ _ dd))⟩
/-- a call of a built-in with data -/
theorem xm_cb {tr : TA} {rc : List V → Hp → VK → Prop} (h : XA T tr ε μ (fun rs μ2 => ∃ (ds : List DD) (f : DD), rs = ds.map MD.d ∧ RC T rc ds f ∧ post (.d f) μ2)) : XM T (tCB rc tr) ε μ post := fun σ G H o Q q =>
  h σ G H o _ fun rs vs μ2 G2 H2 hr s2 d2 => by
    obtain ⟨ds, f, rfl, hrc, hp⟩ := hr
    exact hrc G2 H2 vs s2.gh (s2.tt o.t) (dqa_of_pair d2) Q fun z G3 H3 s3 d3 => q (.d f) z μ2 G3 H3 hp (s2.trans (.of s3 s2.mu)) d3
theorem xt_of {tt : TT} {b : Bool} {pt : Bool → Mu → Prop} (h : ET T tt (vw ε μ) b) (hp : pt b μ) : XT T tt ε μ pt := fun σ G H o Q q => h σ _ H o.view Q fun G2 H2 st => q b μ _ H2 hp (.of (unf_step o.mu st) o.mu)
theorem xt_test {pt : Bool → Mu → Prop} (h : XM T te ε μ (fun r μ2 => ∃ b, r = .d (.bool b) ∧ pt b μ2)) : XT T (tTest te) ε μ pt := fun σ G H o Q q =>
  h σ G H o _ fun r v μ2 G2 H2 hr st dv => by
    obtain ⟨b, rfl, hp⟩ := hr
    have dv : Dq G2 v (.bool b) := dv
    cases dv
    exact ⟨b, rfl, q b μ2 G2 H2 hp st⟩
theorem xt_and {t u : TT} {p1 pt : Bool → Mu → Prop} (h1 : XT T t ε μ p1) (h2 : ∀ μ1, p1 true μ1 → XT T u ε μ1 pt) (h3 : ∀ μ1, p1 false μ1 → pt false μ1) : XT T (tAnd t u) ε μ pt := fun σ G H o Q q =>
  h1 σ G H o _ fun b μ1 G1 H1 hb s1 => by
    cases b with
    | true =>
      show u σ H1 Q
      exact h2 μ1 hb σ G1 H1 (o.step s1) Q fun b μ2 G2 H2 hp s2 => q b μ2 G2 H2 hp (s1.trans s2)
    | false =>
      show Q false H1
      exact q false μ1 G1 H1 (h3 μ1 hb) s1
theorem xm_if {t : TT} {pt : Bool → Mu → Prop} (ht : XT T t ε μ pt) (h1 : ∀ μ1, pt true μ1 → XM T ta ε μ1 post) (h2 : ∀ μ1, pt false μ1 → XM T tb ε μ1 post) : XM T (tIf t ta tb) ε μ post := fun σ G H o Q q =>
  ht σ G H o _ fun b μ1 G1 H1 hb s1 => by
    cases b with
    | true => exact h1 μ1 hb σ G1 H1 (o.step s1) Q fun r v μ2 G2 H2 hp s2 d2 => q r v μ2 G2 H2 hp (s1.trans s2) d2
    | false => exact h2 μ1 hb σ G1 H1 (o.step s1) Q fun r v μ2 G2 H2 hp s2 d2 => q r v μ2 G2 H2 hp (s1.trans s2) d2
end
/-! ### promises -/
def spM (T : Tb) (R : List MD → Mu → (MD → Mu → Prop) → Prop) : Sp := fun vs H Q _ => ∃ (G : Hp) (rs : List MD) (μ : Mu) (post : MD → Mu → Prop), Same G H ∧ NdefX.TabsN T H ∧ (∀ b ps, G b ≠ some (.tbl ps)) ∧ MuOk μ G H ∧ Paired (VM G) vs rs ∧ R rs μ post ∧
  ∀ (r : MD) (v : V) (μ2 : Mu) (G2 H2 : Hp), post r μ2 → StM T μ G H μ2 G2 H2 → VM G2 v r → Q v H2
theorem xm_call {T : Tb} {ε : Ml} {μ : Mu} {ta : TA} {R : List MD → Mu → (MD → Mu → Prop) → Prop} {post : MD → Mu → Prop} {E : XK} (h : XA T ta ε μ (fun rs μ2 => R rs μ2 post)) : XM T (tCall (spM T R) [] E ta) ε μ post := fun σ G H o Q q =>
  h σ G H o _ fun rs vs μ2 G2 H2 hr s2 d2 => ⟨G2, rs, μ2, post, s2.gh, s2.tt o.t, (o.step s2).nt, s2.mu, by rw [List.append_nil]; exact d2, hr, fun r v μ3 G3 H3 hp s3 d3 => q r v μ3 G3 H3 hp (s2.trans s3) d3⟩
/-! ### statements -/
def SM (T : Tb) (ts : TS) (ε : Ml) (μ : Mu) (nx : Ml → Mu → Prop) (rt : MD → Mu → Prop) : Prop := ∀ (σ : L2.St) (G H : Hp), OkM T σ ε μ G H → ∀ D : Ends,
  (∀ (σ' : L2.St) (ε' : Ml) (μ2 : Mu) (G2 H2 : Hp), nx ε' μ2 → StM T μ G H μ2 G2 H2 → OkM T σ' ε' μ2 G2 H2 → D.nx σ' H2) →
  (∀ (r : MD) (v : V) (μ2 : Mu) (G2 H2 : Hp), rt r μ2 → StM T μ G H μ2 G2 H2 → VM G2 v r → D.rt v H2) → ts D σ H
/-- a target takes d -/
def TM (T : Tb) (g : TG) (d : DD) (ε : Ml) (μ : Mu) (post : Ml → Mu → Prop) : Prop := ∀ (v : V) (σ : L2.St) (G H : Hp), OkM T σ ε μ G H → Dq G v d → ∀ Q : L2.St → Hp → Prop,
  (∀ (σ' : L2.St) (ε' : Ml) (μ2 : Mu) (G2 H2 : Hp), post ε' μ2 → StM T μ G H μ2 G2 H2 → OkM T σ' ε' μ2 G2 H2 → Q σ' H2) → g v σ H Q
def TMs (T : Tb) (g : TGs) (ds : List DD) (ε : Ml) (μ : Mu) (post : Ml → Mu → Prop) : Prop := ∀ (vs : List V) (σ : L2.St) (G H : Hp), OkM T σ ε μ G H → DqAll G vs ds → ∀ Q : L2.St → Hp → Prop,
  (∀ (σ' : L2.St) (ε' : Ml) (μ2 : Mu) (G2 H2 : Hp), post ε' μ2 → StM T μ G H μ2 G2 H2 → OkM T σ' ε' μ2 G2 H2 → Q σ' H2) → g vs σ H Q
section
variable {T : Tb} {ε : Ml} {μ : Mu} {te ta tb : TE} {t u : TS} {nx : Ml → Mu → Prop} {rt : MD → Mu → Prop} {d e : DD} {i j : Nat} {a : Addr} {ds es : List DD} {K : PySem.W.Frag} {post : MD → Mu → Prop} {pe : Ml → Mu → Prop}
theorem OkM.put {σ : L2.St} {G H : Hp} {v : V} {r : MD} (o : OkM T σ ε μ G H) (i : Nat) (h : VM G v r) : OkM T (σ.set i (some v)) (ε.set i (some r)) μ G H := ⟨o.s, o.t, o.e.set i h, o.nt, o.mu⟩
theorem tm_name (h : pe (ε.set i (some (.d d))) μ) : TM T (gName i) d ε μ pe := fun v σ G H o dv Q q => q _ _ μ G H h (.refl o.s o.mu) (o.put i dv)
theorem tm_sub {tk : TE} {k : Int} {n : Nat} (ha : ε[i]? = some (some (.m a))) (hm : μ a = some ds) (hk : ED T tk (vw ε μ) (.int k)) (hn : ixN ds.length k = some n) (hp : pe ε (updM μ a (ds.set n d))) : TM T (gSub (tVar i) tk rSetL) d ε μ pe := fun v σ G H o dv Q q => by
  obtain ⟨x, h1, h2⟩ := o.e.2 i _ ha
  cases h2
  refine ⟨_, h1, em_lf hk rfl σ G H o _ fun w G2 H2 st dw => ?_⟩
  cases dw
  have s1 := StM.of st o.mu
  have o1 := o.step s1
  obtain ⟨g1, vs, k1, k2⟩ := o1.mu.at_ a ds hm
  have s2 := StM.set (T := T) o1.s o1.mu hm (dqa_set n (dq_mono st.gg _ _ dv) k2)
  refine ⟨a, vs, k, n, rfl, rfl, k1, by rw [dqa_len k2]; exact hn, ?_⟩
  exact q σ ε _ G2 _ hp (s1.trans s2) (o1.step s2)
theorem tms_nil (h : pe ε μ) : TMs T gNil [] ε μ pe := fun vs σ G H o dv Q q => by cases dv; exact ⟨rfl, q _ _ μ G H h (.refl o.s o.mu) o⟩
theorem tms_cons {g : TG} {gs : TGs} {p1 : Ml → Mu → Prop} (h : TM T g d ε μ p1) (hs : ∀ ε1 μ1, p1 ε1 μ1 → TMs T gs ds ε1 μ1 pe) : TMs T (gCons g gs) (d :: ds) ε μ pe := fun vs σ G H o dv Q q => by
  cases dv with
  | cons h1 h2 => exact ⟨_, _, rfl, h _ σ G H o h1 _ fun σ1 ε1 μ1 G1 H1 p s1 o1 => hs ε1 μ1 p _ σ1 G1 H1 o1 (dqa_mono s1.gg _ _ h2) Q fun σ2 ε2 μ2 G2 H2 p2 s2 o2 => q σ2 ε2 μ2 G2 H2 p2 (s1.trans s2) o2⟩
theorem tm_tup {gs : TGs} {n : Nat} (h : TMs T gs ds ε μ pe) (hn : ds.length = n) : TM T (gTup K n gs) (.tuple ds) ε μ pe := fun v σ G H o dv Q q => by
  cases dv with
  | tup hp hd => exact ⟨_, _, rfl, SqT.of (o.s _ _ hp), by rw [dqa_len hd, hn], h _ σ G H o hd Q q⟩
theorem tm_pair {x y : DD} (h : pe ((ε.set i (some (.d x))).set j (some (.d y))) μ) : TM T (gTup K 2 (gCons (gName i) (gCons (gName j) gNil))) (.tuple [x, y]) ε μ pe :=
  tm_tup (tms_cons (p1 := fun ε1 μ1 => ε1 = ε.set i (some (.d x)) ∧ μ1 = μ) (tm_name ⟨rfl, rfl⟩) fun ε1 μ1 ⟨e1, e2⟩ => by
    subst e1 e2
    exact tms_cons (p1 := fun ε2 μ2 => ε2 = (ε.set i (some (.d x))).set j (some (.d y)) ∧ μ2 = μ1) (tm_name ⟨rfl, rfl⟩) fun ε2 μ2 ⟨e1, e2⟩ => by subst e1 e2; exact tms_nil h) rfl
theorem sm_par3 {ta : TA} {k : Nat} (h : XA T ta ε μ (fun rs μ2 => ∃ r1 r2 r3, rs = [r1, r2, r3] ∧ nx (((ε.set i (some r1)).set j (some r2)).set k (some r3)) μ2)) : SM T (tPar3 i j k ta) ε μ nx rt := fun σ G H o D hx hr =>
  h σ G H o _ fun rs vs μ2 G2 H2 hp s2 d2 => by
    obtain ⟨r1, r2, r3, rfl, n⟩ := hp
    cases d2 with
    | cons h1 d2 =>
      cases d2 with
      | cons h2 d2 =>
        cases d2 with
        | cons h3 d2 =>
          cases d2
          exact ⟨_, _, _, rfl, hx _ _ μ2 G2 H2 n s2 ((((o.step s2).put i h1).put j h2).put k h3)⟩
theorem et_BW {δ : Dl} {pa : DD → Prop} {b : Bool} (h : EW T te δ pa) (hp : ∀ d, pa d → d = .bool b) : ET T (tB te) δ b := fun σ G H o Q q =>
  h σ G H o _ fun d v G1 H1 hd s1 d1 => by
    rw [hp d hd] at d1
    cases d1
    exact ⟨b, rfl, q G1 H1 s1⟩
theorem sm_next (h : nx ε μ) : SM T tNext ε μ nx rt := fun σ G H o D hx hr => hx σ ε μ G H h (.refl o.s o.mu) o
theorem sm_seq (h : SM T t ε μ (fun ε' μ2 => SM T u ε' μ2 nx rt) rt) : SM T (tSeq t u) ε μ nx rt := fun σ G H o D hx hr =>
  h σ G H o { D with nx := u D } (fun σ' ε' μ2 G2 H2 hu st ok => hu σ' G2 H2 ok D (fun σ'' ε'' μ3 G3 H3 n s3 ok3 => hx σ'' ε'' μ3 G3 H3 n (st.trans s3) ok3) fun r v μ3 G3 H3 hr3 s3 dv => hr r v μ3 G3 H3 hr3 (st.trans s3) dv) hr
theorem sm_set (h : XM T te ε μ (fun r μ2 => nx (ε.set i (some r)) μ2)) : SM T (tAsg te (gName i)) ε μ nx rt := fun σ G H o D hx hr =>
  h σ G H o _ fun r v μ2 G2 H2 hp s2 d2 => hx _ _ μ2 G2 H2 hp s2 ((o.step s2).put i d2)
theorem sm_asg {g : TG} (h : XM T te ε μ (fun r μ2 => ∃ d, r = .d d ∧ TM T g d ε μ2 nx)) : SM T (tAsg te g) ε μ nx rt := fun σ G H o D hx hr =>
  h σ G H o _ fun r v μ2 G2 H2 hp s2 d2 => by
    obtain ⟨d, rfl, tm⟩ := hp
    exact tm v σ G2 H2 (o.step s2) d2 _ fun σ' ε' μ3 G3 H3 p s3 o3 => hx σ' ε' μ3 G3 H3 p (s2.trans s3) o3
theorem sm_par {ta : TA} (h : XA T ta ε μ (fun rs μ2 => ∃ r1 r2, rs = [r1, r2] ∧ nx ((ε.set i (some r1)).set j (some r2)) μ2)) : SM T (tPar i j ta) ε μ nx rt := fun σ G H o D hx hr =>
  h σ G H o _ fun rs vs μ2 G2 H2 hp s2 d2 => by
    obtain ⟨r1, r2, rfl, n⟩ := hp
    cases d2 with
    | cons h1 h2 =>
      cases h2 with
      | cons h2 h3 =>
        cases h3
        exact ⟨_, _, rfl, hx _ _ μ2 G2 H2 n s2 (((o.step s2).put i h1).put j h2)⟩
theorem sm_ret (h : XM T te ε μ rt) : SM T (tRet te) ε μ nx rt := fun σ G H o D hx hr => h σ G H o _ fun r v μ2 G2 H2 hp s2 d2 => hr r v μ2 G2 H2 hp s2 d2
theorem sm_drop (h : XM T te ε μ (fun _ μ2 => nx ε μ2)) : SM T (tDrop te) ε μ nx rt := fun σ G H o D hx hr => h σ G H o _ fun r v μ2 G2 H2 hp s2 d2 => hx σ ε μ2 G2 H2 hp s2 (o.step s2)
theorem sm_if {c : TT} {pt : Bool → Mu → Prop} (hc : XT T c ε μ pt) (h1 : ∀ μ1, pt true μ1 → SM T t ε μ1 nx rt) (h2 : ∀ μ1, pt false μ1 → SM T u ε μ1 nx rt) : SM T (tIfS c t u) ε μ nx rt := fun σ G H o D hx hr =>
  hc σ G H o _ fun b μ1 G1 H1 hb s1 => by
    cases b with
    | true => exact h1 μ1 hb σ G1 H1 (o.step s1) D (fun σ' ε' μ2 G2 H2 n s2 ok => hx σ' ε' μ2 G2 H2 n (s1.trans s2) ok) fun r v μ2 G2 H2 q s2 dv => hr r v μ2 G2 H2 q (s1.trans s2) dv
    | false => exact h2 μ1 hb σ G1 H1 (o.step s1) D (fun σ' ε' μ2 G2 H2 n s2 ok => hx σ' ε' μ2 G2 H2 n (s1.trans s2) ok) fun r v μ2 G2 H2 q s2 dv => hr r v μ2 G2 H2 q (s1.trans s2) dv
theorem sm_ifB {c : TT} {b : Bool} (hc : ET T c (vw ε μ) b) (h1 : b = true → SM T t ε μ nx rt) (h2 : b = false → SM T u ε μ nx rt) : SM T (tIfS c t u) ε μ nx rt :=
  sm_if (xt_of (pt := fun b' μ1 => b' = b ∧ μ1 = μ) hc ⟨rfl, rfl⟩) (fun μ1 ⟨e1, e2⟩ => by subst e2; exact h1 e1.symm) fun μ1 ⟨e1, e2⟩ => by subst e2; exact h2 e1.symm
theorem sm_aug {ti : TIp} (hv : ε[i]? = some (some (.d d))) (h : XM T te ε μ (fun r μ2 => ∃ e f, r = .d e ∧ RD T ti d e f ∧ nx (ε.set i (some (.d f))) μ2)) : SM T (tAug i te ti) ε μ nx rt := fun σ G H o D hx hr => by
  obtain ⟨x, h1, h2⟩ := o.e.2 i _ hv
  refine ⟨x, h1, h σ G H o _ fun r y μ1 G1 H1 hp s1 d1 => ?_⟩
  obtain ⟨e, f, rfl, hrd, n⟩ := hp
  have h2 : Dq G x d := h2
  have d1 : Dq G1 y e := d1
  refine hrd G1 H1 x y s1.gh (s1.tt o.t) (dq_mono s1.gg _ _ h2) d1 _ fun z G2 H2 s2 d2 => ?_
  have st := s1.trans (.of s2 s1.mu)
  exact hx _ _ μ1 G2 H2 n st ((o.step st).put i d2)
/-- for, over items that do not change -/
theorem sm_for {α : Type} {wi : TI} {g : TG} (enc : α → DD) (pi : List α → Mu → Prop)
    (hi : ∀ (σ : L2.St) (G H : Hp), OkM T σ ε μ G H → ∀ R : It → Hp → Prop, (∀ (J : It) (xs : List α) (μ1 : Mu) (G2 H2 : Hp), pi xs μ1 → StM T μ G H μ1 G2 H2 → ItD T J (xs.map enc) G2 → R J H2) → wi σ H R)
    (hall : ∀ xs μ1, pi xs μ1 → ∃ Iv : Nat → Ml → Mu → Prop, Iv 0 ε μ1 ∧
      (∀ (i : Nat) (x : α) (ε1 : Ml) (μ2 : Mu), xs[i]? = some x → Iv i ε1 μ2 → TM T g (enc x) ε1 μ2 (fun ε2 μ3 => SM T t ε2 μ3 (Iv (i + 1)) rt)) ∧ ∀ ε1 μ2, Iv xs.length ε1 μ2 → nx ε1 μ2) : SM T (tFor wi g t) ε μ nx rt := fun σ G H o D hx hr =>
  hi σ G H o _ fun J xs μ1 G1 H1 hxs s1 it => by
    obtain ⟨Iv, h0, hs, hd⟩ := hall xs μ1 hxs
    have o1 := o.step s1
    refine ⟨fun i m σ' H' => m = xs.length - i ∧ i ≤ xs.length ∧ ∃ G' ε' μ', StM T μ1 G1 H1 μ' G' H' ∧ OkM T σ' ε' μ' G' H' ∧ Iv i ε' μ', ⟨xs.length, by simp, Nat.zero_le _, G1, ε, μ1, .refl o1.s o1.mu, o1, h0⟩, ?_⟩
    rintro i m σ' H' ⟨rfl, hi', G', ε', μ', st, ok, iv⟩
    have itI := it i G' H' st.gg st.gh ok.t
    by_cases hlt : i < xs.length
    · have ex : (xs.map enc)[i]? = some (enc xs[i]) := by rw [List.getElem?_map, List.getElem?_eq_getElem hlt]; rfl
      obtain ⟨go, yl⟩ := itI.1 _ ex
      refine .inr ⟨go, fun σ'' H'' => i + 1 ≤ xs.length ∧ ∃ G' ε' μ', StM T μ1 G1 H1 μ' G' H'' ∧ OkM T σ'' ε' μ' G' H'' ∧ Iv (i + 1) ε' μ', fun σ'' H'' hN => ⟨xs.length - (i + 1), by omega, rfl, hN.1, hN.2⟩, fun x H2 hy => ?_⟩
      obtain ⟨G2, st2, dx⟩ := yl x H2 hy
      have st2 := StM.of st2 ok.mu
      refine hs i xs[i] ε' μ' (List.getElem?_eq_getElem hlt) iv x σ' G2 H2 (ok.step st2) dx _ fun σ2 ε2 μ2 G3 H3 sb s3 o3 => ?_
      have s13 := (st.trans st2).trans s3
      refine sb σ2 G3 H3 o3 _ (fun σ4 ε4 μ4 G4 H4 n s4 ok4 => ⟨hlt, G4, ε4, μ4, s13.trans s4, ok4, n⟩) fun r v μ4 G4 H4 q s4 dv => ?_
      exact hr r v μ4 G4 H4 q ((s1.trans s13).trans s4) dv
    · have e : i = xs.length := by omega
      subst e
      exact .inl ⟨itI.2 (by rw [List.length_map]), hx σ' ε' μ' G' H' (hd ε' μ' iv) (s1.trans st) ok⟩
theorem for_data {α : Type} {wi : TI} {xs : List α} {enc : α → DD} (h : ID T wi (ε.map pd) (xs.map enc)) (σ : L2.St) (G H : Hp) (o : OkM T σ ε μ G H) (R : It → Hp → Prop)
    (q : ∀ (J : It) (ys : List α) (μ1 : Mu) (G2 H2 : Hp), (ys = xs ∧ μ1 = μ) → StM T μ G H μ1 G2 H2 → ItD T J (ys.map enc) G2 → R J H2) : wi σ H R :=
  h σ G H o.pure R fun J G2 H2 st it => q J xs μ G2 H2 ⟨rfl, rfl⟩ (.of st o.mu) it
/-- range(n), range(m, n) -/
theorem for_rng1 {ta : TA} (n : Nat) (h : XA T ta ε μ (fun rs μ1 => rs = [.d (.int n)] ∧ μ1 = μ)) (hn : (n : Int) < 2 ^ 62) (σ : L2.St) (G H : Hp) (o : OkM T σ ε μ G H) (R : It → Hp → Prop)
    (q : ∀ (J : It) (ys : List Nat) (μ1 : Mu) (G2 H2 : Hp), (ys = List.range n ∧ μ1 = μ) → StM T μ G H μ1 G2 H2 → ItD T J (ys.map fun i => PyData.int (i : Nat)) G2 → R J H2) : iRng1 ta σ H R :=
  h σ G H o _ fun rs vs μ1 G2 H2 hr st dv => by
    obtain ⟨rfl, rfl⟩ := hr
    cases dv with
    | cons a b =>
      cases b
      have a : Dq G2 _ (.int n) := a
      cases a
      refine ⟨n, rfl, by omega, hn, q _ _ _ G2 H2 ⟨rfl, rfl⟩ st ?_⟩
      rw [Int.toNat_natCast, ← rgD_nat]
      exact itd_range
theorem for_rng2 {ta : TA} (m n : Nat) (h : XA T ta ε μ (fun rs μ1 => rs = [.d (.int m), .d (.int n)] ∧ μ1 = μ)) (hm : (m : Int) < 2 ^ 62) (hn : (n : Int) < 2 ^ 62) (σ : L2.St) (G H : Hp) (o : OkM T σ ε μ G H) (R : It → Hp → Prop)
    (q : ∀ (J : It) (ys : List Nat) (μ1 : Mu) (G2 H2 : Hp), (ys = (List.range (n - m)).map (m + ·) ∧ μ1 = μ) → StM T μ G H μ1 G2 H2 → ItD T J (ys.map fun i => PyData.int (i : Nat)) G2 → R J H2) : iRng2 ta σ H R :=
  h σ G H o _ fun rs vs μ1 G2 H2 hr st dv => by
    obtain ⟨rfl, rfl⟩ := hr
    cases dv with
    | cons a b =>
      cases b with
      | cons b c =>
        cases c
        have a : Dq G2 _ (.int m) := a
        have b : Dq G2 _ (.int n) := b
        cases a
        cases b
        refine ⟨m, n, rfl, ⟨by omega, hm, by omega, hn⟩, q _ _ _ G2 H2 ⟨rfl, rfl⟩ st ?_⟩
        have e : ((List.range (n - m)).map (m + ·)).map (fun i => PyData.int (i : Nat)) = rgD m ((n : Int) - m).toNat := by
          unfold rgD
          rw [List.map_map]
          have : ((n : Int) - m).toNat = n - m := by omega
          rw [this]
          refine List.map_congr_left fun i _ => ?_
          simp
        rw [e]
        exact itd_range
/-- while, by a measure -/
theorem sm_while {c : TT} (Iv : Nat → Ml → Mu → Prop) (m0 : Nat) (h0 : Iv m0 ε μ)
    (hs : ∀ (m : Nat) (ε1 : Ml) (μ1 : Mu), Iv m ε1 μ1 → ∃ b, ET T c (vw ε1 μ1) b ∧ (b = true → SM T t ε1 μ1 (fun ε2 μ2 => ∃ m', m' < m ∧ Iv m' ε2 μ2) rt) ∧ (b = false → nx ε1 μ1)) : SM T (tWhile c t) ε μ nx rt := fun σ G H o D hx hr => by
  refine ⟨fun m σ' H' => ∃ G' ε' μ', StM T μ G H μ' G' H' ∧ OkM T σ' ε' μ' G' H' ∧ Iv m ε' μ', ⟨m0, G, ε, μ, .refl o.s o.mu, o, h0⟩, ?_⟩
  rintro m σ' H' ⟨G', ε', μ', st, ok, iv⟩
  obtain ⟨b, hc, h1, h2⟩ := hs m ε' μ' iv
  refine hc σ' _ H' ok.view _ fun G1 H1 s1 => ?_
  have s1 := StM.of (unf_step ok.mu s1) ok.mu
  cases b with
  | true =>
    rw [if_pos rfl]
    refine ⟨fun σ2 H2 => ∃ m', m' < m ∧ ∃ G' ε' μ', StM T μ G H μ' G' H2 ∧ OkM T σ2 ε' μ' G' H2 ∧ Iv m' ε' μ', fun σ2 H2 ⟨m', hm, w⟩ => ⟨m', hm, w⟩, ?_⟩
    refine h1 rfl σ' _ H1 (ok.step s1) _ (fun σ3 ε3 μ3 G3 H3 n s3 ok3 => ?_) fun r v μ3 G3 H3 q s3 dv => hr r v μ3 G3 H3 q ((st.trans s1).trans s3) dv
    obtain ⟨m', hm, iv'⟩ := n
    exact ⟨m', hm, G3, ε3, μ3, (st.trans s1).trans s3, ok3, iv'⟩
  | false =>
    rw [if_neg (by decide)]
    exact hx σ' ε' μ' _ H1 (h2 rfl) (st.trans s1) (ok.step s1)
end
def startM (N : List Str) (rs : List MD) : Ml := rs.map some ++ List.replicate (N.length - rs.length) none
theorem pair_get {G : Hp} : ∀ {vs : List V} {rs : List MD} {i : Nat} {r : MD}, Paired (VM G) vs rs → rs[i]? = some r → ∃ v, vs[i]? = some v ∧ VM G v r
  | _, _, _, _, .nil, e => by simp at e
  | _, _, 0, _, .cons h _, e => by simp at e; subst e; exact ⟨_, rfl, h⟩
  | _, _, i + 1, d, .cons _ t, e => by
    obtain ⟨v, h1, h2⟩ := pair_get (i := i) (r := d) t (by simpa using e)
    exact ⟨v, by simpa using h1, h2⟩
theorem startM_ok {G : Hp} {N : List Str} {vs : List V} {rs : List MD} (h : Paired (VM G) vs rs) : EnvM G (start N vs) (startM N rs) := by
  have hl := Paired.length h
  refine ⟨by unfold L2.start startM; simp [hl], fun i d e => ?_⟩
  unfold startM at e
  by_cases hi : i < rs.length
  · rw [List.getElem?_append_left (by simpa using hi), List.getElem?_map] at e
    cases q : rs[i]? with
    | none => rw [q] at e; cases e
    | some d' =>
      rw [q] at e
      cases e
      obtain ⟨v, h1, h2⟩ := pair_get h q
      refine ⟨v, ?_, h2⟩
      unfold L2.start
      rw [List.getElem?_append_left (by simpa [hl] using hi), List.getElem?_map, h1]
      rfl
  · rw [List.getElem?_append_right (by simpa using hi), List.getElem?_replicate] at e
    split at e <;> cases e
/-- THE RULE: a def that may change lists -/
theorem cal_m {P : Program} {w : World} {K : PySem.W.Frag} {mg : Str → Option Value} {base : Heap} {T : Tb} {x : Str} {st : Stmt} {N ps : List Str} {k : Nat} {R : List MD → Mu → (MD → Mu → Prop) → Prop}
    (D : DefAt K mg x st) (S : FnScope N ps (defScope st))
    (hbind : ∀ (kV doc pm : Value) (an : Option Addr) (cdv ct : Value) (us : List Value), us.length = ps.length → bindArgs (PySem.W.fnOf x x (defArgs st) (defBody st) (defScope st) .none kV doc pm an cdv ct) ⟨us, []⟩ = pure (ps.zip us))
    (hl : ∀ rs μ post, R rs μ post → rs.length = ps.length)
    (hb : ∀ (f : Addr) (cdv : Value) (A : Around) (outer : List Env) (s : Shared) (H : Hp) (E : XK), Room k (A.deeper (envOfC x (defScope st) s.heap.objs.size f cdv)) → ∀ rs μ post, R rs μ post →
      ∃ t, PSs (cxOf C8.CX0 P w K mg base N x (defScope st) f cdv A outer s H E).nox (defBody st) t ∧ SM T t (startM N rs) μ (fun _ μ2 => post (.d .none) μ2) post) :
    Cal P w K mg base (k + 1) x (spM T R) [] := by
  obtain ⟨f, fd, F, hm⟩ := D.ex
  refine ⟨f, fd, ps, [], ?_, hm, F.kp, F.bindsN hbind, .nil⟩
  refine F.ok S (fun vs H Q E h => ?_) (fun cdv A outer s H vs Q E hr h => ?_)
  · obtain ⟨G, rs, μ, post, _, _, _, _, hd, hR, _⟩ := h
    rw [Paired.length hd]
    exact hl rs μ post hR
  · obtain ⟨G, rs, μ, post, hs, ht, hnt, hmu, hd, hR, q⟩ := h
    obtain ⟨t, h1, h2⟩ := hb f cdv A outer s H E hr rs μ post hR
    refine ⟨t, PSs.nox h1, h2 _ G H ⟨hs, ht, startM_ok hd, hnt, hmu⟩ _ (fun σ' ε' μ2 G2 H2 hp s2 ok => ?_) fun r v μ2 G2 H2 hp s2 dv => ?_⟩
    · exact q (.d .none) .non μ2 G2 H2 hp s2 .non
    · exact q r v μ2 G2 H2 hp s2 dv
end Sh
namespace Sh
open PySem PySem.Spec PyProof.Rows L2 RZ
open C8 (Cal pe_c)
def IM (T : Tb) (wi : TI) (ε : Ml) (μ : Mu) (ds : List DD) : Prop := ∀ (σ : L2.St) (G H : Hp), OkM T σ ε μ G H → ∀ R : It → Hp → Prop, (∀ (J : It) (G2 H2 : Hp), Step T G H G2 H2 → ItD T J ds G2 → R J H2) → wi σ H R
def MA (T : Tb) (ta : TA) (ε : Ml) (μ : Mu) (ds : List DD) : Prop := ∀ (σ : L2.St) (G H : Hp), OkM T σ ε μ G H → ∀ Q : List V → Hp → Prop, (∀ (vs : List V) (G2 H2 : Hp), Step T G H G2 H2 → DqAll G2 vs ds → Q vs H2) → ta σ H Q
section
variable {T : Tb} {ε : Ml} {μ : Mu} {te ta tb : TE} {tr : TA} {d e f : DD} {post : MD → Mu → Prop} {a : Addr} {ds es : List DD} {i : Nat} {K : PySem.W.Frag} {r : R2} {wi : TI}
theorem OkM.st {σ : L2.St} {G H G2 H2 : Hp} (o : OkM T σ ε μ G H) (st : Step T G H G2 H2) : OkM T σ ε μ G2 H2 := o.step (.of st o.mu)
theorem ma_nil : MA T tNil ε μ [] := fun σ G H o Q q => q [] G H (.refl o.s) .nil
theorem ma_cons (ha : EM T ta ε μ d) (hr : MA T tr ε μ ds) : MA T (tCons ta tr) ε μ (d :: ds) := fun σ G H o Q q =>
  ha σ G H o _ fun v G1 H1 s1 d1 => hr σ G1 H1 (o.st s1) _ fun vs G2 H2 s2 d2 => q (v :: vs) G2 H2 (s1.trans s2) (.cons (dq_mono s2.gg _ _ d1) d2)
theorem em_tup (h : MA T tr ε μ ds) (hl : ds.length ≤ 1000000) : EM T (tTup tr) ε μ (.tuple ds) := fun σ G H o Q q =>
  h σ G H o _ fun vs G1 H1 s1 d1 => ⟨by rw [dqa_len d1]; exact Nat.le_trans hl (by decide), fun p hp => q _ _ _ (s1.trans (Step.new s1.gh hp)) (.tup upd_same (dqa_mono (Step.new (T := T) s1.gh hp).gg _ _ d1))⟩
theorem em_op (ha : EM T ta ε μ d) (hb : EM T tb ε μ e) (hr : RD T r d e f) : EM T (tOp r ta tb) ε μ f := fun σ G H o Q q =>
  ha σ G H o _ fun v G1 H1 s1 d1 => hb σ G1 H1 (o.st s1) _ fun w G2 H2 s2 d2 => hr G2 H2 v w s2.gh (s2.tt (s1.tt o.t)) (dq_mono s2.gg _ _ d1) d2 Q fun z G3 H3 s3 d3 => q z G3 H3 ((s1.trans s2).trans s3) d3
theorem em_cb {rc : List V → Hp → VK → Prop} (ha : MA T tr ε μ ds) (hr : RC T rc ds f) : EM T (tCB rc tr) ε μ f := fun σ G H o Q q =>
  ha σ G H o _ fun vs G1 H1 s1 d1 => hr G1 H1 vs s1.gh (s1.tt o.t) d1 Q fun z G3 H3 s3 d3 => q z G3 H3 (s1.trans s3) d3
theorem xm_callD {R : List DD → (DD → Prop) → Prop} {pd' : DD → Prop} {E : XK} (h : MA T tr ε μ ds) (hr : R ds pd') (hp : ∀ d, pd' d → post (.d d) μ) : XM T (tCall (spD T R) [] E tr) ε μ post := fun σ G H o Q q =>
  h σ G H o _ fun vs G1 H1 s1 d1 => ⟨G1, ds, pd', s1.gh, s1.tt o.t, (o.st s1).nt, by rw [List.append_nil]; exact d1, hr, fun d v G2 H2 hd s2 d2 => q (.d d) v μ G2 H2 (hp d hd) (.of (s1.trans s2) o.mu) d2⟩
theorem em_call {R : List DD → (DD → Prop) → Prop} {E : XK} (h : MA T tr ε μ ds) (hr : R ds (fun x => x = d)) : EM T (tCall (spD T R) [] E tr) ε μ d := fun σ G H o Q q =>
  h σ G H o _ fun vs G1 H1 s1 d1 => ⟨G1, ds, _, s1.gh, s1.tt o.t, (o.st s1).nt, by rw [List.append_nil]; exact d1, hr, fun x v G2 H2 hd s2 d2 => q v G2 H2 (s1.trans s2) (by rw [← hd]; exact d2)⟩
theorem env1 {σ : L2.St} {G H : Hp} {v : V} (o : OkM T σ ε μ G H) (h : Dq G v d) : Ok T [some v] [some d] G H := ⟨o.s, o.t, ⟨rfl, fun i d e => by
  cases i with
  | zero => cases e; exact ⟨v, rfl, h⟩
  | succ i => cases e⟩, o.nt⟩
theorem im_data (h : ID T wi (ε.map pd) ds) : IM T wi ε μ ds := fun σ G H o R r => h σ G H o.pure R r
theorem im_list (h : EM T te ε μ (.list ds)) : IM T (iList K te) ε μ ds := fun σ G H o R r =>
  h σ G H o _ fun v G1 H1 s1 d1 => by
    obtain ⟨v', e, k⟩ := id_list (T := T) (K := K) (te := tVar 0) (ds := ds) (ed_var rfl) [some v] G1 H1 (env1 (o.st s1) d1) R fun J G2 H2 s2 it => r J G2 H2 (s1.trans s2) it
    cases e
    exact k
theorem im_tup (h : EM T te ε μ (.tuple ds)) : IM T (iTup K te) ε μ ds := fun σ G H o R r =>
  h σ G H o _ fun v G1 H1 s1 d1 => by
    obtain ⟨v', e, k⟩ := id_tup (T := T) (K := K) (te := tVar 0) (ds := ds) (ed_var rfl) [some v] G1 H1 (env1 (o.st s1) d1) R fun J G2 H2 s2 it => r J G2 H2 (s1.trans s2) it
    cases e
    exact k
theorem im_zipL (h : MA T tr ε μ [.list ds, .list es]) : IM T (iZipA K tr) ε μ (zipD ds es) := fun σ G H o R r =>
  h σ G H o _ fun vs G1 H1 s1 d1 => by
    cases d1 with
    | @cons v _ _ _ dv d1 =>
      cases d1 with
      | @cons w _ _ _ dw d1 =>
        cases d1
        have ok : Ok T [some v, some w] [some (.list ds), some (.list es)] G1 H1 := ⟨s1.gh, s1.tt o.t, ⟨rfl, fun i d e => by
          match i, e with
          | 0, e => cases e; exact ⟨v, rfl, dv⟩
          | 1, e => cases e; exact ⟨w, rfl, dw⟩⟩, (o.st s1).nt⟩
        obtain ⟨v', e1, w', e2, k⟩ := id_zipL (T := T) (K := K) (ta := tCons (tVar 0) (tCons (tVar 1) tNil)) (ea_cons (ed_var rfl) (ea_cons (ed_var rfl) ea_nil)) _ G1 H1 ok R fun J G2 H2 s2 it => r J G2 H2 (s1.trans s2) it
        cases e1
        cases e2
        exact k
theorem xm_lcN {α : Type} {g : TG} {vs : List Nat} (xs : List α) (enc F : α → DD) (hi : IM T wi ε μ (xs.map enc)) (hl : xs.length ≤ 1000000)
    (ht : ∀ x ∈ xs, ∃ (tch : List Nat) (δ' : Dl), (∀ i ∈ tch, i ∈ vs) ∧ TgD T g (enc x) tch (wipeD (ε.map pd) vs) δ' ∧ ED T te δ' (F x)) (hp : ∀ p, μ p = none → post (.m p) (updM μ p (xs.map F))) : XM T (tLc wi g tYes te vs) ε μ post := fun σ G H o Q q =>
  hi σ G H o _ fun J G1 H1 s1 it => by
    refine nl_lcJ (Q := Q) (J := J) (te := te) (tt := tYes) xs enc (fun _ => true) F (o.st s1).pure it hl (fun x hx => ?_) fun p vs G2 H2 st hn gp h2 hd => ?_
    · obtain ⟨tch, δ', h1, h2, h3⟩ := ht x hx
      exact ⟨tch, δ', h1, h2, et_yes, fun _ => h3⟩
    · rw [List.filter_eq_self.mpr (fun _ _ => rfl)] at hd
      have hH : H p = none := s1.nn _ hn
      exact q (.m p) _ _ _ _ (hp p (o.mu.none hH)) (.fresh (s1.trans st) o.mu hH gp h2 hd) rfl
theorem em_lc {α : Type} {g : TG} {vs : List Nat} (xs : List α) (enc F : α → DD) (hi : IM T wi ε μ (xs.map enc)) (hl : xs.length ≤ 1000000)
    (ht : ∀ x ∈ xs, ∃ (tch : List Nat) (δ' : Dl), (∀ i ∈ tch, i ∈ vs) ∧ TgD T g (enc x) tch (wipeD (ε.map pd) vs) δ' ∧ ED T te δ' (F x)) : EM T (tLc wi g tYes te vs) ε μ (.list (xs.map F)) := fun σ G H o Q q =>
  hi σ G H o _ fun J G1 H1 s1 it => by
    refine nl_lcJ (Q := Q) (J := J) (te := te) (tt := tYes) xs enc (fun _ => true) F (o.st s1).pure it hl (fun x hx => ?_) fun p vs G2 H2 st hn gp h2 hd => ?_
    · obtain ⟨tch, δ', h1, h2, h3⟩ := ht x hx
      exact ⟨tch, δ', h1, h2, et_yes, fun _ => h3⟩
    · rw [List.filter_eq_self.mpr (fun _ _ => rfl)] at hd
      have hH : H p = none := s1.nn _ hn
      exact q _ _ _ ((s1.trans st).freeze h2 gp hH) (.lst upd_same (dqa_mono (fun b u e => by rw [upd_ne (ne_of_none e gp)]; exact e) _ _ hd))
/-- l.append(e) -/
theorem xm_append {ds0 : List DD} (ha : ε[i]? = some (some (.m a))) (hm : μ a = some ds0) (h : XM T te ε μ (fun r μ2 => ∃ d ds, r = .d d ∧ μ2 a = some ds ∧ ds.length < 1000000 ∧ post (.d .none) (updM μ2 a (ds ++ [d])))) : XM T (tBM K "list" rAppend (tVar i) (tCons te tNil)) ε μ post := fun σ G H o Q q => by
  obtain ⟨x, h1, h2⟩ := o.e.2 i _ ha
  cases h2
  obtain ⟨g0, vs0, k0, _⟩ := o.mu.at_ a ds0 hm
  refine ⟨_, h1, .inl ⟨rfl, vs0, SqL.of k0⟩, h σ G H o _ fun r y μ2 G2 H2 hr st dy => ?_⟩
  obtain ⟨d, ds, rfl, hm2, hl, hp⟩ := hr
  obtain ⟨g2, vs, k1, k2⟩ := st.mu.at_ a ds hm2
  have dy : Dq G2 y d := dy
  have s2 := StM.set (T := T) (vs' := vs ++ [y]) st.gh st.mu hm2 (dqa_app k2 (.cons dy .nil))
  refine ⟨a, vs, y, rfl, rfl, k1, by rw [dqa_len k2]; exact Nat.lt_of_lt_of_le hl (by decide), ?_⟩
  exact q (.d .none) .non _ G2 _ hp (st.trans s2) .non
/-- l.extend(a list) -/
theorem xm_extend {ds0 es : List DD} (ha : ε[i]? = some (some (.m a))) (hm : μ a = some ds0) (h : EM T te ε μ (.list es)) (hl : ds0.length + es.length ≤ 1000000) (hp : post (.d .none) (updM μ a (ds0 ++ es))) : XM T (tBM K "list" rExtend (tVar i) (tCons te tNil)) ε μ post := fun σ G H o Q q => by
  obtain ⟨x, h1, h2⟩ := o.e.2 i _ ha
  cases h2
  obtain ⟨g0, vs0, k0, _⟩ := o.mu.at_ a ds0 hm
  refine ⟨_, h1, .inl ⟨rfl, vs0, SqL.of k0⟩, h σ G H o _ fun y G2 H2 st dy => ?_⟩
  have st := StM.of st o.mu
  obtain ⟨g2, vs, k1, k2⟩ := st.mu.at_ a ds0 hm
  cases dy with
  | @lst b zs _ hb hd =>
    have s2 := StM.set (T := T) (vs' := vs ++ zs) st.gh st.mu hm (dqa_app k2 hd)
    refine ⟨a, b, vs, zs, rfl, rfl, k1, st.gh _ _ hb, by rw [dqa_len k2, dqa_len hd]; exact Nat.le_trans hl (by decide), ?_⟩
    exact q (.d .none) .non _ G2 _ hp (st.trans s2) .non
end
end Sh
-- M6
set_option maxHeartbeats 1000000
namespace Mx
def ent (M : List Row) (i j : Nat) : Int := at_ (M.getD i []) j
theorem getD_lt {M : List Row} {i : Nat} (h : i < M.length) : M.getD i [] = M[i] := by simp [List.getD, h]
theorem getD_ge {M : List Row} {i : Nat} (h : M.length ≤ i) : M.getD i [] = [] := by simp [List.getD, h]
/-- near - often * far -/
def tkR (often : Int) (r h : Row) : Row := (r.zip h).map fun p => p.1 - often * p.2
theorem len_tkR (o : Int) (r h : Row) : (tkR o r h).length = min r.length h.length := by unfold tkR; simp
theorem at_tkR {o : Int} {r h : Row} (hl : r.length = h.length) (j : Nat) : at_ (tkR o r h) j = at_ r j - o * at_ h j := by
  by_cases k : j < r.length
  · rw [at_lt (by rw [len_tkR]; omega), at_lt k, at_lt (by omega)]
    unfold tkR
    simp
  · rw [at_ge (by rw [len_tkR]; omega), at_ge (by omega), at_ge (by omega)]
    simp
/-- rows from behind at up to t less so many times row at -/
def clrQ (q : Nat → Int) (B : List Row) (at' t : Nat) : List Row := B.mapIdx fun i r => if at' < i ∧ i < t then tkR (q i) r (B.getD at' []) else r
theorem len_clrQ (q : Nat → Int) (B : List Row) (a t : Nat) : (clrQ q B a t).length = B.length := by unfold clrQ; simp
theorem clr_get {q : Nat → Int} {B : List Row} {a t i : Nat} (h : i < B.length) : (clrQ q B a t).getD i [] = if a < i ∧ i < t then tkR (q i) (B.getD i []) (B.getD a []) else B.getD i [] := by
  rw [getD_lt (by rw [len_clrQ]; exact h), getD_lt h]
  unfold clrQ
  simp
theorem clr_0 (q : Nat → Int) (B : List Row) (a : Nat) : clrQ q B a (a + 1) = B := by
  refine List.ext_getElem (len_clrQ ..) fun i h1 h2 => ?_
  have := clr_get (q := q) (a := a) (t := a + 1) h2
  rw [getD_lt h1, getD_lt h2, if_neg (by omega)] at this
  exact this
theorem clr_step {q : Nat → Int} {B : List Row} {a t : Nat} (h1 : a < t) (h2 : t < B.length) : (clrQ q B a t).set t (tkR (q t) (B.getD t []) (B.getD a [])) = clrQ q B a (t + 1) := by
  refine List.ext_getElem (by rw [List.length_set, len_clrQ, len_clrQ]) fun i k1 k2 => ?_
  have hi : i < B.length := by rw [len_clrQ] at k2; exact k2
  have e2 := clr_get (q := q) (a := a) (t := t + 1) hi
  rw [getD_lt k2] at e2
  rw [e2, List.getElem_set]
  by_cases e : t = i
  · subst e
    rw [if_pos rfl, if_pos ⟨h1, by omega⟩]
  · rw [if_neg e]
    have e1 := clr_get (q := q) (a := a) (t := t) hi
    rw [getD_lt (by rw [len_clrQ]; exact hi)] at e1
    rw [e1]
    by_cases c : a < i ∧ i < t
    · rw [if_pos c, if_pos ⟨c.1, by omega⟩]
    · rw [if_neg c, if_neg (by omega)]
def qOf (M : List Row) (a : Nat) (i : Nat) : Int := (ent M i a).fdiv (ent M a a)
def clr (M : List Row) (a : Nat) : List Row := clrQ (qOf M a) M a M.length
def zeroB (M : List Row) (a : Nat) : Bool := (M.drop (a + 1)).all fun r => decide (at_ r a = 0)
def swp (M : List Row) (i j : Nat) : List Row := (M.set i (M.getD j [])).set j (M.getD i [])
def takeF (M : List Row) (a fr : Nat) (o : Int) : List Row := M.set fr (tkR o (M.getD fr []) (M.getD a []))
def colsM (t : List Row) (n : Nat) : List Row := (List.range n).map fun p => t.map fun r => at_ r p
/-- what least_spot tells -/
structure Spot (M : List Row) (a : Nat) (i j : Nat) : Prop where
  ai : a ≤ i
  aj : a ≤ j
  il : i < M.length
  jl : j < (M.getD i []).length
  nz : ent M i j ≠ 0
  le : ∀ i' j', a ≤ i' → a ≤ j' → ent M i' j' ≠ 0 → (ent M i j).natAbs ≤ (ent M i' j').natAbs
  fst : ent M a a ≠ 0 → (ent M a a).natAbs = (ent M i j).natAbs → i = a ∧ j = a
/-- so far: rows before i0, and of row i0 the places before j0 -/
structure Scan (M : List Row) (a i0 j0 : Nat) (o : Option (Nat × Nat)) : Prop where
  non : o = none → ∀ i j, a ≤ i → a ≤ j → (i < i0 ∨ (i = i0 ∧ j < j0)) → ent M i j = 0
  som : ∀ i j, o = some (i, j) → a ≤ i ∧ a ≤ j ∧ i < M.length ∧ j < (M.getD i []).length ∧ ent M i j ≠ 0 ∧ (∀ i' j', a ≤ i' → a ≤ j' → (i' < i0 ∨ (i' = i0 ∧ j' < j0)) → ent M i' j' ≠ 0 → (ent M i j).natAbs ≤ (ent M i' j').natAbs) ∧
    ((a < i0 ∨ (a = i0 ∧ a < j0)) ∧ (ent M a a ≠ 0 → (ent M a a).natAbs = (ent M i j).natAbs → i = a ∧ j = a))
theorem scan_0 (M : List Row) (a : Nat) : Scan M a 0 0 none := ⟨fun _ i j _ _ h => by omega, fun i j e => by cases e⟩
theorem scan_row {M : List Row} {a i0 n : Nat} {o : Option (Nat × Nat)} (s : Scan M a i0 n o) (hn : (M.getD i0 []).length ≤ n) : Scan M a (i0 + 1) 0 o := by
  have key : ∀ i j, (i < i0 + 1 ∨ (i = i0 + 1 ∧ j < 0)) → ent M i j ≠ 0 → (i < i0 ∨ (i = i0 ∧ j < n)) := fun i j h hz => by
    rcases Nat.lt_or_ge i i0 with k | k
    · exact .inl k
    · have e : i = i0 := by omega
      refine .inr ⟨e, ?_⟩
      subst e
      rcases Nat.lt_or_ge j n with q | q
      · exact q
      · exact absurd (at_ge (r := M.getD i []) (by omega)) hz
  refine ⟨fun e i j h1 h2 h3 => ?_, fun i j e => ?_⟩
  · by_cases hz : ent M i j = 0
    · exact hz
    · exact s.non e i j h1 h2 (key i j h3 hz)
  · obtain ⟨a1, a2, a3, a4, a5, a6, a7, a8⟩ := s.som i j e
    refine ⟨a1, a2, a3, a4, a5, fun i' j' b1 b2 b3 b4 => a6 i' j' b1 b2 (key i' j' b3 b4) b4, ?_, a8⟩
    omega
theorem scan_skip {M : List Row} {a i0 j0 : Nat} {o : Option (Nat × Nat)} (s : Scan M a i0 j0 o) (h : ¬ (a ≤ i0 ∧ a ≤ j0 ∧ ent M i0 j0 ≠ 0 ∧ (o = none ∨ ∃ i j, o = some (i, j) ∧ (ent M i0 j0).natAbs < (ent M i j).natAbs))) : Scan M a i0 (j0 + 1) o := by
  refine ⟨fun e i j h1 h2 h3 => ?_, fun i j e => ?_⟩
  · by_cases q : i < i0 ∨ (i = i0 ∧ j < j0)
    · exact s.non e i j h1 h2 q
    · have e1 : i = i0 := by omega
      have e2 : j = j0 := by omega
      subst e1 e2
      by_cases hz : ent M i j = 0
      · exact hz
      · exact absurd ⟨h1, h2, hz, .inl e⟩ h
  · obtain ⟨a1, a2, a3, a4, a5, a6, a7, a8⟩ := s.som i j e
    refine ⟨a1, a2, a3, a4, a5, fun i' j' b1 b2 b3 b4 => ?_, by omega, a8⟩
    by_cases q : i' < i0 ∨ (i' = i0 ∧ j' < j0)
    · exact a6 i' j' b1 b2 q b4
    · have e1 : i' = i0 := by omega
      have e2 : j' = j0 := by omega
      subst e1 e2
      rcases Nat.lt_or_ge (ent M i' j').natAbs (ent M i j).natAbs with k | k
      · exact absurd ⟨b1, b2, b4, .inr ⟨i, j, e, k⟩⟩ h
      · exact k
theorem scan_take {M : List Row} {a i0 j0 : Nat} {o : Option (Nat × Nat)} (s : Scan M a i0 j0 o) (hi : i0 < M.length) (hj : j0 < (M.getD i0 []).length) (h1 : a ≤ i0) (h2 : a ≤ j0) (h3 : ent M i0 j0 ≠ 0) (h4 : o = none ∨ ∃ i j, o = some (i, j) ∧ (ent M i0 j0).natAbs < (ent M i j).natAbs) : Scan M a i0 (j0 + 1) (some (i0, j0)) := by
  refine ⟨fun e => (nomatch e), fun i j e => ?_⟩
  cases e
  refine ⟨h1, h2, hi, hj, h3, fun i' j' b1 b2 b3 b4 => ?_, by omega, fun z1 z2 => ?_⟩
  · by_cases q : i' < i0 ∨ (i' = i0 ∧ j' < j0)
    · rcases h4 with e | ⟨i, j, e, k⟩
      · exact absurd (s.non e i' j' b1 b2 q) b4
      · have := (s.som i j e).2.2.2.2.2.1 i' j' b1 b2 q b4
        omega
    · have e1 : i' = i0 := by omega
      have e2 : j' = j0 := by omega
      subst e1 e2
      exact Nat.le_refl _
  · by_cases q : a < i0 ∨ (a = i0 ∧ a < j0)
    · rcases h4 with e | ⟨i, j, e, k⟩
      · exact absurd (s.non e a a (Nat.le_refl _) (Nat.le_refl _) q) z1
      · have := (s.som i j e).2.2.2.2.2.1 a a (Nat.le_refl _) (Nat.le_refl _) q z1
        omega
    · omega
theorem scan_end {M : List Row} {a : Nat} {o : Option (Nat × Nat)} (s : Scan M a M.length 0 o) : (o = none → ∀ i j, a ≤ i → a ≤ j → ent M i j = 0) ∧ ∀ i j, o = some (i, j) → Spot M a i j := by
  have key : ∀ i j, ent M i j ≠ 0 → i < M.length := fun i j hz => by
    rcases Nat.lt_or_ge i M.length with k | k
    · exact k
    · exact absurd (by unfold ent; rw [getD_ge k]; rfl) hz
  refine ⟨fun e i j h1 h2 => ?_, fun i j e => ?_⟩
  · by_cases hz : ent M i j = 0
    · exact hz
    · exact s.non e i j h1 h2 (.inl (key i j hz))
  · obtain ⟨a1, a2, a3, a4, a5, a6, a7, a8⟩ := s.som i j e
    exact ⟨a1, a2, a3, a4, a5, fun i' j' b1 b2 b4 => a6 i' j' b1 b2 (.inl (key i' j' b4)) b4, a8⟩
end Mx
-- Sd5
set_option maxRecDepth 100000
set_option maxHeartbeats 4000000
/-! turned_about, least_spot, exchanged, taken_from, cleared, first_odd -/
namespace Sh
open PySem PySem.Spec PyProof.Rows L2 RZ
open C8 (Cal pe_c)
open Mx
def pL (r : List Int) : DD := .list (r.map PyData.int)
def pM (M : List (List Int)) : List DD := M.map pL
theorem atI_M {M : List Mx.Row} {i : Nat} (h : i < M.length) : atI (pM M) (i : Int) = some (pL (M.getD i [])) := by
  refine atI_nat ?_
  unfold pM
  rw [List.getElem?_map, List.getElem?_eq_getElem h, getD_lt h]
  rfl
theorem colsM_R (t : List Mx.Row) (n : Nat) : colsR t n = colsM t n := rfl
theorem ix_nat {n i : Nat} (h : i < n) : ixN n (i : Int) = some i := by
  have := atI_nat (xs := List.range n) (j := i) (v := i) (List.getElem?_range h)
  unfold atI at this
  rw [List.length_range] at this
  cases e : ixN n (i : Int) with
  | none => rw [e] at this; cases this
  | some j =>
    rw [e] at this
    have h2 : (List.range n)[j]? = some i := this
    obtain ⟨a, b⟩ := List.getElem?_eq_some_iff.mp h2
    rw [List.getElem_range] at b
    rw [b]
section
variable {P : Program} {w : World} {K : PySem.W.Frag} {mg : Str → Option Value} {base : Heap} {T : Tb}
abbrev s_turned_about : Stmt := top 22
abbrev N_turned_about : List Str := ["rows", "size", "column"]
theorem sc_turned_about : FnScope N_turned_about ["rows", "size"] (defScope s_turned_about) := ⟨rfl, rfl, rfl, by decide +kernel, rfl, by decide +kernel, by decide +kernel⟩
def R_turned_about (rs : List MD) (μ : Mu) (post : MD → Mu → Prop) : Prop := ∃ (a : Addr) (M : List Mx.Row) (n : Nat), rs = [.m a, .d (.int n)] ∧ μ a = some (pM M) ∧ n ≤ 1000 ∧ M.length ≤ 1000 ∧ (∀ r ∈ M, n ≤ r.length) ∧ ∀ p, μ p = none → post (.m p) (updM μ p (pM (colsM M n)))
theorem cal_turned_about (E : Bl mg) (c_columns : Cal P w K mg base 1 "columns" (spD T R_columns) []) (D : DefAt K mg "turned_about" s_turned_about) : Cal P w K mg base 2 "turned_about" (spM T R_turned_about) [] := by
  refine cal_m D sc_turned_about (fun _ _ _ _ _ _ us hl => match us, hl with | [_, _], _ => rfl) (fun rs μ post h => ?_) (fun f cdv A outer s H E0 hr rs μ post h => ?_)
  · obtain ⟨a, b, c, rfl, _⟩ := h
    rfl
  · obtain ⟨a, M, n, rfl, hm, h1, h2, h3, hp⟩ := h
    refine ⟨_, (pss_one (ps_ret (pe_lc (own := [("column", 2)]) rfl sc_turned_about.nd (k_tup (K := K) rfl (pe_c c_columns hr (by omega) (by rfl) (pa_cons (pv 0) (pa_cons (pv 1) pa_nil)))) (blkOk_by (own := [("column", 2)]) (N := N_turned_about) (sc := (defScope s_turned_about)) (by decide +kernel)) (fun _ _ _ _ _ => (pg_name (i := 2) sc_turned_about.nd rfl (Or.inl rfl) (Or.inr rfl))) (fun _ _ _ _ _ => pts_nil) (fun _ _ _ _ _ => (pe_callTy (k_lstOf (K := K) rfl) (by rfl) E.list (by decide +kernel) (pa_cons (pv 2) pa_nil)))))), ?_⟩
    refine sm_ret (xm_lcN (colsM M n) pR pL (im_tup (em_lf (ed_call (ea_cons (ed_var (d := .list (pM M)) ?_) (ea_cons (ed_var rfl) ea_nil)) ⟨M, n, .inr rfl, h1, h2, h3, rfl⟩) ?_)) ?_ (fun x hx => ⟨_, _, by simp, tg_name, ed_cb (ea_cons (ed_var rfl) ea_nil) rc_lstT⟩) hp)
    · show some (seen μ (some (.m a))) = _
      simp [seen, hm]
    · show LF (.tuple ((colsM M n).map pR)) = true
      rw [LF]
      generalize colsM M n = t
      induction t with
      | nil => rfl
      | cons r t ih => rw [List.map_cons, LFA, lf_pR, ih]; rfl
    · unfold colsM
      simp
      omega
abbrev s_exchanged : Stmt := top 24
abbrev N_exchanged : List Str := ["rows", "one", "other"]
theorem sc_exchanged : FnScope N_exchanged ["rows", "one", "other"] (defScope s_exchanged) := ⟨rfl, rfl, rfl, by decide +kernel, rfl, by decide +kernel, by decide +kernel⟩
def R_exchanged (rs : List MD) (μ : Mu) (post : MD → Mu → Prop) : Prop := ∃ (a : Addr) (M : List Mx.Row) (i j : Nat), rs = [.m a, .d (.int i), .d (.int j)] ∧ μ a = some (pM M) ∧ i < M.length ∧ j < M.length ∧ post (.d .none) (updM μ a (pM (swp M i j)))
theorem updM_upd {μ : Mu} {a : Addr} {x y : List DD} : updM (updM μ a x) a y = updM μ a y := by
  funext b
  unfold updM
  split <;> rfl
theorem cal_exchanged (E : Bl mg) (D : DefAt K mg "exchanged" s_exchanged) : Cal P w K mg base 1 "exchanged" (spM T R_exchanged) [] := by
  refine cal_m D sc_exchanged (fun _ _ _ _ _ _ us hl => match us, hl with | [_, _, _], _ => rfl) (fun rs μ post h => ?_) (fun f cdv A outer s H E0 hr rs μ post h => ?_)
  · obtain ⟨a, b, c, d, rfl, _⟩ := h
    rfl
  · obtain ⟨a, M, i, j, rfl, hm, h1, h2, hp⟩ := h
    refine ⟨_, (pss_one (ps_asg (pe_tup (pa_cons (pe_ix (k_ix (K := K) rfl) (pv 0) (pv 2) (fun _ _ => rfl)) (pa_cons (pe_ix (k_ix (K := K) rfl) (pv 0) (pv 1) (fun _ _ => rfl)) pa_nil))) (k_gtup (K := K) (n := 2) rfl rfl (pgs_cons (pg_sub (pv 0) (pv 1) set_list) (pgs_cons (pg_sub (pv 0) (pv 2) set_list) pgs_nil))))), ?_⟩
    refine sm_asg (xm_of (em_tup (ma_cons (em_item rfl hm (ed_var rfl) (atI_M h2)) (ma_cons (em_item rfl hm (ed_var rfl) (atI_M h1)) ma_nil)) (by simp)) ⟨_, rfl, tm_tup (tms_cons (p1 := fun ε1 μ1 => ε1 = startM N_exchanged [.m a, .d (.int i), .d (.int j)] ∧ μ1 = updM μ a (pM (M.set i (M.getD j [])))) (tm_sub rfl hm (ed_var rfl) (ix_nat (n := (pM M).length) (by unfold pM; simpa using h1)) ⟨rfl, ?_⟩) ?_) rfl⟩)
    · unfold pM
      rw [List.map_set]
    · rintro ε1 μ1 ⟨rfl, rfl⟩
      refine tms_cons (p1 := fun ε1 μ1 => μ1 = updM μ a (pM (swp M i j))) (tm_sub rfl updM_same (ed_var rfl) (ix_nat (n := (pM (M.set i (M.getD j []))).length) (by unfold pM; simpa using h2)) ?_) ?_
      · rw [updM_upd]
        congr 1
        unfold pM swp
        rw [List.map_set, List.map_set, List.map_set]
      · rintro ε1 μ1 rfl
        exact tms_nil hp
abbrev s_taken_from : Stmt := top 25
abbrev N_taken_from : List Str := ["rows", "at", "from_row", "often", "near", "far"]
theorem sc_taken_from : FnScope N_taken_from ["rows", "at", "from_row", "often"] (defScope s_taken_from) := ⟨rfl, rfl, rfl, by decide +kernel, rfl, by decide +kernel, by decide +kernel⟩
def R_taken_from (rs : List MD) (μ : Mu) (post : MD → Mu → Prop) : Prop := ∃ (a : Addr) (M : List Mx.Row) (i j : Nat) (o : Int), rs = [.m a, .d (.int i), .d (.int j), .d (.int o)] ∧ μ a = some (pM M) ∧ i < M.length ∧ j < M.length ∧ o.natAbs < 2 ^ 64 ∧ (M.getD j []).length ≤ 1000 ∧ post (.d .none) (updM μ a (pM (takeF M i j o)))
theorem mul_small {o x : Int} (h : o.natAbs < 2 ^ 64) : IntMulOk o x := IntMulOk.of_left (intBits_le_64 (by omega) (by omega))
theorem cal_taken_from (E : Bl mg) (D : DefAt K mg "taken_from" s_taken_from) : Cal P w K mg base 1 "taken_from" (spM T R_taken_from) [] := by
  refine cal_m D sc_taken_from (fun _ _ _ _ _ _ us hl => match us, hl with | [_, _, _, _], _ => rfl) (fun rs μ post h => ?_) (fun f cdv A outer s H E0 hr rs μ post h => ?_)
  · obtain ⟨a, b, c, d, e, rfl, _⟩ := h
    rfl
  · obtain ⟨a, M, i, j, o, rfl, hm, h1, h2, h3, h4, hp⟩ := h
    refine ⟨_, (pss_one (ps_asg (pe_lc (own := [("near", 4), ("far", 5)]) rfl sc_taken_from.nd (k_zip (K := K) rfl (by rfl) E.zip (pa_cons (pe_ix (k_ix (K := K) rfl) (pv 0) (pv 2) (fun _ _ => rfl)) (pa_cons (pe_ix (k_ix (K := K) rfl) (pv 0) (pv 1) (fun _ _ => rfl)) pa_nil))) (blkOk_by (own := [("near", 4), ("far", 5)]) (N := N_taken_from) (sc := (defScope s_taken_from)) (by decide +kernel)) (fun _ _ _ _ _ => (k_gtup (K := K) (n := 2) rfl rfl (pgs_cons (pg_name (i := 4) sc_taken_from.nd rfl (Or.inl rfl) (Or.inr rfl)) (pgs_cons (pg_name (i := 5) sc_taken_from.nd rfl (Or.inl rfl) (Or.inr rfl)) pgs_nil)))) (fun _ _ _ _ _ => pts_nil) (fun _ _ _ _ _ => (pe_op op_sub (pv 4) (pe_op op_mulB (pv 3) (pv 5))))) (pg_sub (pv 0) (pv 2) set_list))), ?_⟩
    refine sm_asg (xm_of (d := pL (tkR o (M.getD j []) (M.getD i []))) ?_ ⟨_, rfl, tm_sub rfl hm (ed_var rfl) (ix_nat (n := (pM M).length) (by unfold pM; simpa using h2)) ?_⟩)
    · have e : pL (tkR o (M.getD j []) (M.getD i [])) = .list (((M.getD j []).zip (M.getD i [])).map fun p => PyData.int (p.1 - o * p.2)) := by
        unfold pL tkR
        rw [List.map_map]
        rfl
      rw [e]
      refine em_lc ((M.getD j []).zip (M.getD i [])) (fun p => PyData.tuple [.int p.1, .int p.2]) (fun p => PyData.int (p.1 - o * p.2)) ?_ ?_ fun x hx => ⟨_, _, by simp, tg_pair, ?_⟩
      · rw [← zipD_map]
        exact im_zipL (ma_cons (em_item rfl hm (ed_var rfl) (atI_M h2)) (ma_cons (em_item rfl hm (ed_var rfl) (atI_M h1)) ma_nil))
      · rw [List.length_zip]; omega
      · exact ed_op (ed_var rfl) (ed_op (ed_var rfl) (ed_var rfl) (rd_I (mul_small h3))) rd_I0
    · have e : updM μ a ((pM M).set j (pL (tkR o (M.getD j []) (M.getD i [])))) = updM μ a (pM (takeF M i j o)) := by
        congr 1
        unfold pM takeF
        rw [List.map_set]
      rw [e]
      exact hp
abbrev s_cleared : Stmt := top 26
abbrev N_cleared : List Str := ["rows", "beside", "at", "number", "often", "row"]
theorem sc_cleared : FnScope N_cleared ["rows", "beside", "at"] (defScope s_cleared) := ⟨rfl, rfl, rfl, by decide +kernel, rfl, by decide +kernel, by decide +kernel⟩
def R_cleared (rs : List MD) (μ : Mu) (post : MD → Mu → Prop) : Prop := ∃ (a b : Addr) (M B : List Mx.Row) (i v : Nat), rs = [.m a, .m b, .d (.int i)] ∧ a ≠ b ∧ μ a = some (pM M) ∧ μ b = some (pM B) ∧ B.length = M.length ∧ M.length ≤ 1000 ∧ i < M.length ∧
  (∀ r ∈ M, i < r.length ∧ r.length ≤ 1000) ∧ (v ≤ 1000 ∧ ∀ r ∈ B, r.length = v) ∧ ent M i i ≠ 0 ∧ (ent M i i).natAbs ≤ 2 ^ 3200 ∧ (∀ k, i < k → k < M.length → (qOf M i k).natAbs < 2 ^ 64) ∧
  ∀ B', B'.length = B.length → (∀ r ∈ B', r.length = v) → post (.d (.bool (zeroB (clr M i) i))) (updM (updM μ a (pM (clr M i))) b (pM B'))
theorem cal_cleared (E : Bl mg) (c_taken_from : Cal P w K mg base 1 "taken_from" (spM T R_taken_from) []) (D : DefAt K mg "cleared" s_cleared) : Cal P w K mg base 2 "cleared" (spM T R_cleared) [] := by
  refine cal_m D sc_cleared (fun _ _ _ _ _ _ us hl => match us, hl with | [_, _, _], _ => rfl) (fun rs μ post h => ?_) (fun f cdv A outer s H E0 hr rs μ post h => ?_)
  · obtain ⟨a, b, c, d, e, _, rfl, _⟩ := h
    rfl
  · obtain ⟨a, b, M, B, i, v, rfl, hab, hma, hmb, hBM, hM, hi, hrM, ⟨hv, hrB⟩, h0, hdv, hq, hp⟩ := h
    refine ⟨_, (pss_cons (ps_for PassesOwn.never rfl (pi_range2 (by rfl) E.range (pa_cons (pe_op op_add (pv 2) pe_int) (pa_cons (pe_callB (k_len (K := K) rfl) (by rfl) E.len PySem.boot_len (pa_cons (pv 0) pa_nil)) pa_nil))) (pg_name (i := 3) sc_cleared.nd rfl (Or.inl rfl) (Or.inl rfl)) (pss_cons (ps_set (i := 4) sc_cleared.nd rfl (Or.inl rfl) (pe_op op_fdivB (pe_ix (k_ix (K := K) rfl) (pe_ix (k_ix (K := K) rfl) (pv 0) (pv 3) (fun _ _ => rfl)) (pv 2) (fun _ _ => rfl)) (pe_ix (k_ix (K := K) rfl) (pe_ix (k_ix (K := K) rfl) (pv 0) (pv 2) (fun _ _ => rfl)) (pv 2) (fun _ _ => rfl)))) (pss_cons (ps_expr (pe_c c_taken_from hr (by omega) (by rfl) (pa_cons (pv 0) (pa_cons (pv 2) (pa_cons (pv 3) (pa_cons (pv 4) pa_nil)))))) (pss_one (ps_expr (pe_c c_taken_from hr (by omega) (by rfl) (pa_cons (pv 1) (pa_cons (pv 2) (pa_cons (pv 3) (pa_cons (pv 4) pa_nil)))))))))) (pss_one (ps_ret (pe_callB (k_all (K := K) rfl rfl) (by rfl) E.all (by decide +kernel) (pa_cons (pe_lc (own := [("row", 5)]) rfl sc_cleared.nd (k_list (K := K) rfl (pe_slice (k_sll (K := K) rfl) (pv 0) (po_some (pe_op op_add (pv 2) pe_int)) po_none)) (blkOk_by (own := [("row", 5)]) (N := N_cleared) (sc := (defScope s_cleared)) (by decide +kernel)) (fun _ _ _ _ _ => (pg_name (i := 5) sc_cleared.nd rfl (Or.inl rfl) (Or.inr rfl))) (fun _ _ _ _ _ => pts_nil) (fun _ _ _ _ _ => (pe_cmpR op_eq (pe_ix (k_ix (K := K) rfl) (pv 5) (pv 2) (fun _ _ => rfl)) pe_int (nomark _)))) pa_nil))))), ?_⟩
    have hlen : ∀ t, (pM (clrQ (qOf M i) M i t)).length = M.length := fun t => by unfold pM; rw [List.length_map, len_clrQ]
    have hseen : ∀ (M' : List Mx.Row) (B' : List Mx.Row), seen (updM (updM μ a (pM M')) b (pM B')) (some (.m a)) = some (.list (pM M')) := fun M' B' => by
      show Option.map PyData.list (updM (updM μ a (pM M')) b (pM B') a) = _
      rw [updM_ne hab, updM_same]
      rfl
    have hrow : ∀ t j, j < M.length → i < ((clrQ (qOf M i) M i t).getD j []).length ∧ ((clrQ (qOf M i) M i t).getD j []).length ≤ 1000 := fun t j hj => by
      have r1 := hrM _ (getD_lt hj ▸ List.getElem_mem hj)
      have r2 := hrM _ (getD_lt hi ▸ List.getElem_mem hi)
      rw [clr_get hj]
      split
      · rw [len_tkR]; omega
      · exact r1
    have h0eq : updM (updM μ a (pM M)) b (pM B) = μ := by
      funext c
      unfold updM
      by_cases h1 : c = b
      · subst h1; rw [if_pos rfl, hmb]
      · rw [if_neg h1]
        by_cases h2 : c = a
        · subst h2; rw [if_pos rfl, hma]
        · rw [if_neg h2]
    refine sm_seq (sm_for (fun i : Nat => PyData.int (i : Nat)) (fun ys μ1 => ys = (List.range (M.length - (i + 1))).map (i + 1 + ·) ∧ μ1 = μ) (for_rng2 (i + 1) M.length (xa_d (em_data (ed_op (ed_var rfl) ed_int rd_I0)) (xa_d (em_lf (ed_cb (ea_cons (ed_var (d := .list (pM M)) ?_) ea_nil) rc_lenL) rfl) (xa_nil ⟨?_, rfl⟩))) (by omega) (by omega)) ?_)
    · show some (seen μ (some (.m a))) = _
      simp [seen, hma]
    · simp [pM]
    · rintro xs μ1 ⟨rfl, e1⟩
      rw [e1]
      refine ⟨fun t ε1 μ1 => ∃ B' a3 a4, B'.length = B.length ∧ (∀ r ∈ B', r.length = v) ∧ μ1 = updM (updM μ a (pM (clrQ (qOf M i) M i (i + 1 + t)))) b (pM B') ∧ ε1 = [some (.m a), some (.m b), some (.d (.int i)), a3, a4, none], ⟨B, none, none, rfl, hrB, ?_, rfl⟩, ?_, ?_⟩
      · rw [Nat.add_zero, clr_0, h0eq]
      · rintro t x ε1 μ2 hx ⟨B', a3, a4, hB', hrB', rfl, rfl⟩
        obtain ⟨ht, hxt⟩ := List.getElem?_eq_some_iff.mp hx
        rw [List.getElem_map, List.getElem_range] at hxt
        rw [List.length_map, List.length_range] at ht
        subst hxt
        have hx1 : i + 1 + t < M.length := by omega
        have gx : (clrQ (qOf M i) M i (i + 1 + t)).getD (i + 1 + t) [] = M.getD (i + 1 + t) [] := by rw [clr_get hx1, if_neg (by omega)]
        have gi : (clrQ (qOf M i) M i (i + 1 + t)).getD i [] = M.getD i [] := by rw [clr_get hi, if_neg (by omega)]
        refine tm_name ?_
        refine sm_seq (sm_set (xm_of (d := .int (qOf M i (i + 1 + t))) (em_lf (ed_op (ed_op (ed_op (ed_var (d := .list (pM (clrQ (qOf M i) M i (i + 1 + t)))) ?_) (ed_var rfl) (rd_ix_l (atI_M (by rw [len_clrQ]; exact hx1)))) (ed_var rfl) (rd_ix_l (at_int (hrow _ _ hx1).1)))
          (ed_op (ed_op (ed_var (d := .list (pM (clrQ (qOf M i) M i (i + 1 + t)))) ?_) (ed_var rfl) (rd_ix_l (atI_M (by rw [len_clrQ]; exact hi)))) (ed_var rfl) (rd_ix_l (at_int (hrow _ _ hi).1))) ?_) rfl) ?_))
        · exact congrArg some (hseen _ _)
        · exact congrArg some (hseen _ _)
        · rw [gx, gi]
          exact rd_I (C := CDivB) (div_ok h0 hdv)
        refine sm_seq (sm_drop (xm_call (xa_m rfl (xa_d (em_var rfl) (xa_d (em_var rfl) (xa_d (em_var rfl) (xa_nil ⟨a, clrQ (qOf M i) M i (i + 1 + t), i, i + 1 + t, qOf M i (i + 1 + t), rfl, ?_, ?_, ?_, hq _ (by omega) hx1, (hrow _ _ hx1).2, ?_⟩)))))))
        · rw [updM_ne hab, updM_same]
        · rw [len_clrQ]; exact hi
        · rw [len_clrQ]; exact hx1
        refine sm_drop (xm_call (xa_m rfl (xa_d (em_var rfl) (xa_d (em_var rfl) (xa_d (em_var rfl) (xa_nil ⟨b, B', i, i + 1 + t, qOf M i (i + 1 + t), rfl, ?_, by omega, by omega, hq _ (by omega) hx1, ?_, ?_⟩))))))
        · rw [updM_ne (Ne.symm hab), updM_same]
        · rw [hrB' _ (getD_lt (M := B') (i := i + 1 + t) (by omega) ▸ List.getElem_mem _)]; exact hv
        refine ⟨takeF B' i (i + 1 + t) (qOf M i (i + 1 + t)), _, _, by unfold takeF; simpa using hB', fun r hr => ?_, ?_, rfl⟩
        · unfold takeF at hr
          rcases List.mem_or_eq_of_mem_set hr with k | k
          · exact hrB' r k
          · rw [k, len_tkR, hrB' _ (getD_lt (M := B') (i := i + 1 + t) (by omega) ▸ List.getElem_mem _), hrB' _ (getD_lt (M := B') (i := i) (by omega) ▸ List.getElem_mem _)]
            omega
        · have e : takeF (clrQ (qOf M i) M i (i + 1 + t)) i (i + 1 + t) (qOf M i (i + 1 + t)) = clrQ (qOf M i) M i (i + 1 + (t + 1)) := by
            unfold takeF
            rw [gx, gi]
            exact clr_step (by omega) hx1
          rw [e]
          funext c
          by_cases h1 : c = b
          · simp [updM, h1]
          · by_cases h2 : c = a
            · simp [updM, h1, h2, hab]
            · simp [updM, h1, h2]
      · rintro ε1 μ2 ⟨B', a3, a4, hB', hrB', rfl, rfl⟩
        rw [List.length_map, List.length_range] at *
        have ek : i + 1 + (M.length - (i + 1)) = M.length := by omega
        rw [ek]
        have ecl : clrQ (qOf M i) M i M.length = clr M i := rfl
        rw [ecl]
        refine sm_ret (xm_of (d := .bool (zeroB (clr M i) i)) (em_lf (ed_is (ed_cb (ea_cons (ed_is (ed_lc1 ((clr M i).drop (i + 1)) pL (fun r => PyData.bool (decide (at_ r i = 0))) (id_list (ed_is (ed_sl (ed_var (d := .list (pM (clr M i))) ?_) (eo_some (ed_op (ed_var rfl) ed_int rd_I0)) eo_none rs_l) ?_)) ?_ fun r hr => ⟨_, _, by simp, tg_name, ?_⟩)
          (e := .list (((((clr M i).drop (i + 1)).map fun r => decide (at_ r i = 0))).map PyData.bool)) ?_) ea_nil) rc_all) ?_) rfl) (hp B' hB' hrB'))
        · exact congrArg some (hseen _ _)
        · have e2 : (i : Int) + 1 = ((i + 1 : Nat) : Int) := by omega
          rw [e2, cut_from (n := 0) (by unfold pM clr; rw [List.length_map, len_clrQ]; omega)]
          unfold pM
          rw [List.map_drop]
        · rw [List.length_drop]; unfold clr; rw [len_clrQ]; omega
        · refine ed_op (ed_op (ed_var rfl) (ed_var rfl) (rd_ix_l (at_int ?_))) ed_int rd_eqI
          obtain ⟨j, hj, e⟩ := List.getElem_of_mem (List.mem_of_mem_drop hr)
          have hj2 : j < M.length := by unfold clr at hj; rw [len_clrQ] at hj; exact hj
          have := (hrow M.length j hj2).1
          have e3 : (clrQ (qOf M i) M i M.length).getD j [] = r := by rw [getD_lt (by rw [len_clrQ]; exact hj2)]; exact e
          rw [e3] at this
          exact this
        · rw [List.map_map]
          rfl
        · unfold zeroB
          rw [List.all_map]
          rfl
abbrev s_first_odd : Stmt := top 27
abbrev N_first_odd : List Str := ["rows", "at", "number", "bit"]
theorem sc_first_odd : FnScope N_first_odd ["rows", "at"] (defScope s_first_odd) := ⟨rfl, rfl, rfl, by decide +kernel, rfl, by decide +kernel, by decide +kernel⟩
def R_first_odd (ds : List DD) (post : DD → Prop) : Prop := ∃ (M : List Mx.Row) (i : Nat), ds = [.list (pM M), .int i] ∧ M.length ≤ 1000 ∧ i < M.length ∧ (∀ r ∈ M, i < r.length ∧ r.length ≤ 1000) ∧ ent M i i ≠ 0 ∧
  ((∀ k j, i < k → k < M.length → (ent M k j).fmod (ent M i i) = 0) → post .none) ∧ ∀ k j, i < k → k < M.length → j < (M.getD k []).length → (ent M k j).fmod (ent M i i) ≠ 0 → post (.int k)
theorem cal_first_odd (E : Bl mg) (D : DefAt K mg "first_odd" s_first_odd) : Cal P w K mg base 1 "first_odd" (spD T R_first_odd) [] := by
  refine cal_d D sc_first_odd (fun _ _ _ _ _ _ us hl => match us, hl with | [_, _], _ => rfl) (fun ds post h => ?_) (fun f cdv A outer s H E0 hr ds post h => ?_)
  · obtain ⟨a, b, rfl, _⟩ := h
    rfl
  · obtain ⟨M, i, rfl, hM, hi, hrM, h0, hpN, hpS⟩ := h
    refine ⟨_, (pss_cons (ps_for PassesOwn.never rfl (pi_range2 (by rfl) E.range (pa_cons (pe_op op_add (pv 1) pe_int) (pa_cons (pe_callB (k_len (K := K) rfl) (by rfl) E.len PySem.boot_len (pa_cons (pv 0) pa_nil)) pa_nil))) (pg_name (i := 2) sc_first_odd.nd rfl (Or.inl rfl) (Or.inl rfl)) (pss_one (ps_if (pt_val (pe_callB (k_any (K := K) rfl rfl) (by rfl) E.any (by decide +kernel) (pa_cons (pe_lc (own := [("bit", 3)]) rfl sc_first_odd.nd (k_list (K := K) rfl (pe_ix (k_ix (K := K) rfl) (pv 0) (pv 2) (fun _ _ => rfl))) (blkOk_by (own := [("bit", 3)]) (N := N_first_odd) (sc := (defScope s_first_odd)) (by decide +kernel)) (fun _ _ _ _ _ => (pg_name (i := 3) sc_first_odd.nd rfl (Or.inl rfl) (Or.inr rfl))) (fun _ _ _ _ _ => pts_nil) (fun _ _ _ _ _ => (pe_cmpR op_ne (pe_op op_modN (pv 3) (pe_ix (k_ix (K := K) rfl) (pe_ix (k_ix (K := K) rfl) (pv 0) (pv 1) (fun _ _ => rfl)) (pv 1) (fun _ _ => rfl))) pe_int (nomark _)))) pa_nil))) (pss_one (ps_ret (pv 2))) pss_nil))) (pss_one (ps_ret pe_non))), ?_⟩
    refine sd_seq (sd_for ((List.range (M.length - (i + 1))).map (i + 1 + ·)) (fun i => PyData.int (i : Nat)) ?_ (fun t δ => ∃ a2, (∀ k j, i < k → k < i + 1 + t → (ent M k j).fmod (ent M i i) = 0) ∧ δ = [some (.list (pM M)), some (.int i), a2, none]) ⟨none, fun k j h1 h2 => by omega, rfl⟩ ?_ ?_)
    · have e : ((List.range (M.length - (i + 1))).map (i + 1 + ·)).map (fun i => PyData.int (i : Nat)) = rgD ((i : Int) + 1) (((pM M).length : Int) - ((i : Int) + 1)).toNat := by
        unfold rgD pM
        rw [List.map_map, List.length_map]
        have : ((M.length : Int) - ((i : Int) + 1)).toNat = M.length - (i + 1) := by omega
        rw [this]
        refine List.map_congr_left fun i _ => ?_
        simp
      rw [e]
      exact id_range2 (ea_cons (ed_op (ed_var rfl) ed_int rd_I0) (ea_cons (ed_cb (ea_cons (ed_var rfl) ea_nil) rc_lenL) ea_nil)) (by unfold pM; rw [List.length_map]; omega)
    · rintro t x δ1 hx ⟨a2, hz, rfl⟩
      obtain ⟨ht, hxt⟩ := List.getElem?_eq_some_iff.mp hx
      rw [List.getElem_map, List.getElem_range] at hxt
      rw [List.length_map, List.length_range] at ht
      subst hxt
      have hx1 : i + 1 + t < M.length := by omega
      have r1 := hrM _ (getD_lt hx1 ▸ List.getElem_mem hx1)
      have r2 := hrM _ (getD_lt hi ▸ List.getElem_mem hi)
      refine ⟨_, _, tg_name, ?_⟩
      refine sd_if (b := (M.getD (i + 1 + t) []).any fun y => !decide (y.fmod (ent M i i) = 0)) (et_is (et_test (ed_cb (ea_cons (ed_is (ed_lc1 (M.getD (i + 1 + t) []) PyData.int (fun y => PyData.bool (!decide (y.fmod (ent M i i) = 0))) (id_list (ed_op (ed_var rfl) (ed_var rfl) (rd_ix_l (atI_M hx1)))) (by omega) fun y hy => ⟨_, _, by simp, tg_name, ?_⟩)
        (e := .list (((M.getD (i + 1 + t) []).map fun y => !decide (y.fmod (ent M i i) = 0)).map PyData.bool)) ?_) ea_nil) rc_any)) ?_) (fun hb => ?_) fun hb => ?_
      · exact ed_op (ed_op (ed_var rfl) (ed_op (ed_op (ed_var rfl) (ed_var rfl) (rd_ix_l (atI_M hi))) (ed_var rfl) (rd_ix_l (at_int r2.1))) (rd_I h0)) ed_int rd_neI
      · rw [List.map_map]
        rfl
      · rw [List.any_map]
        rfl
      · obtain ⟨y, hy, hyn⟩ := List.any_eq_true.mp hb
        obtain ⟨j, hj, e⟩ := List.getElem_of_mem hy
        refine sd_ret (ed_var rfl) (hpS (i + 1 + t) j (by omega) hx1 hj ?_)
        have : ent M (i + 1 + t) j = y := by unfold ent; rw [at_lt hj, e]
        rw [this]
        simpa using hyn
      · refine sd_next ⟨_, fun k j h1 h2 => ?_, rfl⟩
        rcases Nat.lt_or_ge k (i + 1 + t) with q | q
        · exact hz k j h1 q
        · have e : k = i + 1 + t := by omega
          subst e
          rw [List.any_eq_false] at hb
          by_cases hj : j < (M.getD (i + 1 + t) []).length
          · have := hb _ (List.getElem_mem hj)
            have e : ent M (i + 1 + t) j = (M.getD (i + 1 + t) [])[j] := by unfold ent; rw [at_lt hj]
            rw [e]
            simpa using this
          · have e : ent M (i + 1 + t) j = 0 := by unfold ent; rw [at_ge (by omega)]
            rw [e]
            exact Int.zero_fmod _
    · rintro δ1 ⟨a2, hz, rfl⟩
      refine sd_ret ed_non (hpN fun k j h1 h2 => hz k j h1 ?_)
      rw [List.length_map, List.length_range]
      omega
/-! ### least_spot -/
abbrev s_least_spot : Stmt := top 23
abbrev N_least_spot : List Str := ["rows", "at", "found", "near", "row", "far", "number"]
theorem sc_least_spot : FnScope N_least_spot ["rows", "at"] (defScope s_least_spot) := ⟨rfl, rfl, rfl, by decide +kernel, rfl, by decide +kernel, by decide +kernel⟩
def pO (M : List Mx.Row) : Option (Nat × Nat) → DD
  | none => .none
  | some (i, j) => .tuple [.int ((ent M i j).natAbs : Int), .int i, .int j]
def ltO (M : List Mx.Row) (i j : Nat) : Option (Nat × Nat) → Bool
  | none => true
  | some (i', j') => decide ((ent M i j).natAbs < (ent M i' j').natAbs)
def pSpot : Option (Nat × Nat) → DD
  | none => .none
  | some (i, j) => .tuple [.int i, .int j]
def R_least_spot (ds : List DD) (post : DD → Prop) : Prop := ∃ (M : List Mx.Row) (a : Nat), ds = [.list (pM M), .int a] ∧ M.length ≤ 1000 ∧ (∀ r ∈ M, r.length ≤ 1000) ∧ ∀ o, Scan M a M.length 0 o → post (pSpot o)
theorem enD_pM (M : List Mx.Row) : enD (pM M) = (List.range M.length).map fun i => PyData.tuple [.int (i : Nat), pL (M.getD i [])] := by
  unfold enD pM
  refine List.ext_getElem (by simp) fun j a b => ?_
  have hj : j < M.length := by simpa using a
  simp [hj]
theorem enD_row (r : Mx.Row) : enD (r.map PyData.int) = (List.range r.length).map fun i => PyData.tuple [.int (i : Nat), .int (at_ r i)] := by
  unfold enD
  refine List.ext_getElem (by simp) fun j a b => ?_
  have hj : j < r.length := by simpa using a
  simp [at_lt hj]
theorem cal_least_spot (E : Bl mg) (D : DefAt K mg "least_spot" s_least_spot) : Cal P w K mg base 1 "least_spot" (spD T R_least_spot) [] := by
  refine cal_d D sc_least_spot (fun _ _ _ _ _ _ us hl => match us, hl with | [_, _], _ => rfl) (fun ds post h => ?_) (fun f cdv A outer s H E0 hr ds post h => ?_)
  · obtain ⟨a, b, rfl, _⟩ := h
    rfl
  · obtain ⟨M, a, rfl, hM, hrM, hp⟩ := h
    refine ⟨_, (pss_cons (ps_set (i := 2) sc_least_spot.nd rfl (Or.inl rfl) pe_non) (pss_cons (ps_for PassesOwn.never rfl (k_enumL (K := K) rfl (by rfl) E.enumerate (pa_cons (pv 0) pa_nil)) (k_gtup (K := K) (n := 2) rfl rfl (pgs_cons (pg_name (i := 3) sc_least_spot.nd rfl (Or.inl rfl) (Or.inl rfl)) (pgs_cons (pg_name (i := 4) sc_least_spot.nd rfl (Or.inl rfl) (Or.inl rfl)) pgs_nil))) (pss_one (ps_for PassesOwn.never rfl (k_enumL (K := K) rfl (by rfl) E.enumerate (pa_cons (pv 4) pa_nil)) (k_gtup (K := K) (n := 2) rfl rfl (pgs_cons (pg_name (i := 5) sc_least_spot.nd rfl (Or.inl rfl) (Or.inl rfl)) (pgs_cons (pg_name (i := 6) sc_least_spot.nd rfl (Or.inl rfl) (Or.inl rfl)) pgs_nil))) (pss_one (ps_if (PW.pt (pw_and (pt_cmpR op_ge (pv 3) (pv 1) (nomark _)) (pw_and (pt_cmpR op_ge (pv 5) (pv 1) (nomark _)) (pw_and (pt_cmpR op_ne (pv 6) pe_int (nomark _)) (pw_and1 (PW.pt (pw_or (pt_cmp (pc_isN (pv 2)) (by rfl)) (pw_or1 (pt_cmpR op_lt (pe_callB cr_abs (by rfl) E.abs (by decide +kernel) (pa_cons (pv 6) pa_nil)) (pe_ix (k_ix (K := K) rfl) (pv 2) pe_int (fun _ _ => rfl)) (nomark _)))))))))) (pss_one (ps_set (i := 2) sc_least_spot.nd rfl (Or.inl rfl) (pe_tup (pa_cons (pe_callB cr_abs (by rfl) E.abs (by decide +kernel) (pa_cons (pv 6) pa_nil)) (pa_cons (pv 3) (pa_cons (pv 5) pa_nil)))))) pss_nil))))) (pss_one (ps_ret (pe_ifExp (pt_cmp (pc_isN (pv 2)) (by rfl)) pe_non (pe_slice (k_slt (K := K) rfl) (pv 2) (po_some pe_int) po_none)))))), ?_⟩
    refine sd_seq (sd_set ed_non ?_)
    refine sd_seq (sd_for (List.range M.length) (fun i => PyData.tuple [.int (i : Nat), pL (M.getD i [])]) ?_ (fun t δ => ∃ o a3 a4 a5 a6, Scan M a t 0 o ∧ δ = [some (.list (pM M)), some (.int a), some (pO M o), a3, a4, a5, a6]) ⟨none, none, none, none, none, scan_0 M a, rfl⟩ ?_ ?_)
    · rw [← enD_pM]
      exact id_enumL (ea_cons (ed_var rfl) ea_nil)
    · rintro i x δ1 hx ⟨o, a3, a4, a5, a6, sc, rfl⟩
      obtain ⟨hi, hxi⟩ := List.getElem?_eq_some_iff.mp hx
      rw [List.getElem_range] at hxi
      rw [List.length_range] at hi
      subst hxi
      have r1 := hrM _ (getD_lt hi ▸ List.getElem_mem hi)
      refine ⟨_, _, tg_pair, ?_⟩
      refine sd_for (List.range (M.getD i []).length) (fun j => PyData.tuple [.int (j : Nat), .int (at_ (M.getD i []) j)]) ?_ (fun t δ => ∃ o a5 a6, Scan M a i t o ∧ δ = [some (.list (pM M)), some (.int a), some (pO M o), some (.int i), some (pL (M.getD i [])), a5, a6]) ⟨o, a5, a6, sc, rfl⟩ ?_ ?_
      · rw [← enD_row]
        exact id_enumL (ea_cons (ed_var rfl) ea_nil)
      · rintro j x δ1 hx ⟨o, a5, a6, sc, rfl⟩
        obtain ⟨hj, hxj⟩ := List.getElem?_eq_some_iff.mp hx
        rw [List.getElem_range] at hxj
        rw [List.length_range] at hj
        subst hxj
        refine ⟨_, _, tg_pair, ?_⟩
        refine sd_if (et_and (et_test (ed_op (ed_var rfl) (ed_var rfl) rd_B0)) fun _ => et_and (et_test (ed_op (ed_var rfl) (ed_var rfl) rd_B0)) fun _ => et_and (et_test (ed_op (ed_var rfl) ed_int rd_neI)) fun _ =>
          et_or (a := o.isNone) (b := ltO M i j o) (et_B (ed_isN (ed_var rfl) ?_)) fun h => ?_) (fun hb => ?_) fun hb => ?_
        · cases o <;> rfl
        · cases o with
          | none => cases h
          | some q =>
            obtain ⟨i', j'⟩ := q
            refine et_is (et_test (ed_op (ed_cb (ea_cons (ed_var rfl) ea_nil) rc_abs) (ed_op (ed_var rfl) ed_int (rd_ix_t at0)) rd_B0)) ?_
            show decide (((at_ (M.getD i []) j).natAbs : Int) < ((ent M i' j').natAbs : Int)) = decide ((ent M i j).natAbs < (ent M i' j').natAbs)
            unfold ent
            by_cases h : (at_ (M.getD i []) j).natAbs < (at_ (M.getD i' []) j').natAbs
            · rw [decide_eq_true h, decide_eq_true (by omega)]
            · rw [decide_eq_false h, decide_eq_false (by omega)]
        · simp only [Bool.and_eq_true, decide_eq_true_eq, Bool.not_eq_true', decide_eq_false_iff_not, Bool.or_eq_true] at hb
          obtain ⟨b1, b2, b3, b4⟩ := hb
          refine sd_set (d := pO M (some (i, j))) (ed_tup (ea_cons (ed_cb (ea_cons (ed_var rfl) ea_nil) rc_abs) (ea_cons (ed_var rfl) (ea_cons (ed_var rfl) ea_nil))) (by simp)) ⟨some (i, j), _, _, scan_take sc hi hj (by omega) (by omega) b3 ?_, rfl⟩
          cases o with
          | none => exact .inl rfl
          | some q =>
            obtain ⟨i', j'⟩ := q
            rcases b4 with z | z
            · cases z
            · exact .inr ⟨i', j', rfl, of_decide_eq_true z⟩
        · refine sd_next ⟨o, _, _, scan_skip sc fun ⟨h1, h2, h3, h4⟩ => ?_, rfl⟩
          have h3 : ¬ at_ (M.getD i []) j = 0 := h3
          have e1 : decide ((i : Int) ≥ (a : Int)) = true := decide_eq_true (by omega)
          have e2 : decide ((j : Int) ≥ (a : Int)) = true := decide_eq_true (by omega)
          have e3 : (!decide (at_ (M.getD i []) j = 0)) = true := by rw [decide_eq_false h3]; rfl
          rw [e1, e2, e3] at hb
          simp only [Bool.true_and, Bool.or_eq_false_iff] at hb
          rcases h4 with z | ⟨i', j', z, k⟩
          · subst z
            cases hb.1
          · subst z
            have hb2 : decide ((ent M i j).natAbs < (ent M i' j').natAbs) = false := hb.2
            rw [decide_eq_true k] at hb2
            cases hb2
      · rintro δ1 ⟨o, a5, a6, sc, rfl⟩
        rw [List.length_range] at sc
        exact ⟨o, _, _, _, _, scan_row sc (Nat.le_refl _), rfl⟩
    · rintro δ1 ⟨o, a3, a4, a5, a6, sc, rfl⟩
      rw [List.length_range] at sc
      have hp := hp o sc
      cases o with
      | none => exact sd_ret (ed_if (b := true) (et_B (ed_isN (ed_var rfl) rfl)) (fun _ => ed_non) fun e => by cases e) hp
      | some q =>
        obtain ⟨i, j⟩ := q
        refine sd_ret (d := .tuple [.int i, .int j]) (ed_if (b := false) (et_B (ed_isN (ed_var rfl) rfl)) (fun e => by cases e) fun _ => ed_is (ed_sl (ed_var rfl) (eo_some ed_int) eo_none rs_t) ?_) hp
        rw [cut_1]
end
end Sh
-- M7
set_option maxHeartbeats 1000000
namespace Mx
structure Dm (k w : Nat) (M : List Row) : Prop where
  h : M.length = k
  wd : ∀ r ∈ M, r.length = w
theorem Dm.get {k w : Nat} {M : List Row} (d : Dm k w M) {i : Nat} (hi : i < k) : (M.getD i []).length = w := by
  rw [getD_lt (by rw [d.h]; exact hi)]
  exact d.wd _ (List.getElem_mem _)
theorem ent_ge {M : List Row} {i j : Nat} (h : M.length ≤ i) : ent M i j = 0 := by unfold ent; rw [getD_ge h]; rfl
theorem ent_wide {k w : Nat} {M : List Row} (d : Dm k w M) {i j : Nat} (h : w ≤ j) : ent M i j = 0 := by
  rcases Nat.lt_or_ge i k with q | q
  · unfold ent
    rw [at_ge (by rw [d.get q]; exact h)]
  · exact ent_ge (by rw [d.h]; exact q)
theorem mat_ext {k w : Nat} {M N : List Row} (d : Dm k w M) (e : Dm k w N) (h : ∀ i j, ent M i j = ent N i j) : M = N := by
  refine List.ext_getElem (by rw [d.h, e.h]) fun i h1 h2 => ?_
  refine row_ext (by rw [d.wd _ (List.getElem_mem h1), e.wd _ (List.getElem_mem h2)]) fun j _ => ?_
  have := h i j
  unfold ent at this
  rw [getD_lt h1, getD_lt h2] at this
  exact this
def sg (i j p : Nat) : Nat := if p = j then i else if p = i then j else p
theorem sg_lt {i j p k : Nat} (hi : i < k) (hj : j < k) (hp : p < k) : sg i j p < k := by unfold sg; split; exact hi; split; exact hj; exact hp
theorem sg_sg (i j p : Nat) : sg i j (sg i j p) = p := by
  unfold sg
  by_cases h1 : p = j
  · rw [if_pos h1]
    by_cases h2 : i = j
    · rw [if_pos h2]; omega
    · rw [if_neg h2, if_pos rfl]; omega
  · rw [if_neg h1]
    by_cases h2 : p = i
    · rw [if_pos h2, if_pos rfl]; omega
    · rw [if_neg h2, if_neg h1, if_neg h2]
theorem len_swp (M : List Row) (i j : Nat) : (swp M i j).length = M.length := by unfold swp; simp
theorem swp_get {M : List Row} {i j p : Nat} (hi : i < M.length) (hj : j < M.length) : (swp M i j).getD p [] = M.getD (sg i j p) [] := by
  unfold sg
  by_cases hp : p < M.length
  · rw [getD_lt (by rw [len_swp]; exact hp)]
    unfold swp
    rw [List.getElem_set]
    by_cases h1 : p = j
    · rw [if_pos h1.symm, if_pos h1]
    · rw [if_neg (Ne.symm h1), if_neg h1, List.getElem_set]
      by_cases h2 : p = i
      · rw [if_pos h2.symm, if_pos h2]
      · rw [if_neg (Ne.symm h2), if_neg h2, getD_lt hp]
  · rw [if_neg (by omega), if_neg (by omega), getD_ge (by rw [len_swp]; omega), getD_ge (by omega)]
theorem ent_swp {M : List Row} {i j : Nat} (hi : i < M.length) (hj : j < M.length) (p c : Nat) : ent (swp M i j) p c = ent M (sg i j p) c := by unfold ent; rw [swp_get hi hj]
theorem Dm.swp {k w : Nat} {M : List Row} (d : Dm k w M) {i j : Nat} (hi : i < k) (hj : j < k) : Dm k w (swp M i j) := by
  refine ⟨by rw [len_swp, d.h], fun r hr => ?_⟩
  obtain ⟨p, hp, rfl⟩ := List.getElem_of_mem hr
  have hp2 : p < k := by rw [len_swp, d.h] at hp; exact hp
  have e := swp_get (M := M) (i := i) (j := j) (p := p) (by rw [d.h]; exact hi) (by rw [d.h]; exact hj)
  rw [getD_lt hp] at e
  rw [e]
  exact d.get (sg_lt hi hj hp2)
theorem Dm.cols {k w : Nat} {M : List Row} (d : Dm k w M) : Dm w k (colsM M w) := by
  refine ⟨by unfold colsM; simp, fun r hr => ?_⟩
  unfold colsM at hr
  obtain ⟨p, _, rfl⟩ := List.mem_map.mp hr
  rw [List.length_map, d.h]
theorem ent_cols {k w : Nat} {M : List Row} (d : Dm k w M) (p c : Nat) : ent (colsM M w) p c = ent M c p := by
  by_cases hp : p < w
  · have e : (colsM M w).getD p [] = M.map fun r => at_ r p := by
      rw [getD_lt (by rw [d.cols.h]; exact hp)]
      unfold colsM
      simp
    unfold ent
    rw [e]
    by_cases hc : c < k
    · have hc2 : c < M.length := by rw [d.h]; exact hc
      rw [at_lt (by simpa using hc2), getD_lt hc2]
      simp
    · rw [at_ge (by rw [List.length_map, d.h]; omega), getD_ge (by rw [d.h]; omega)]
      rfl
  · rw [ent_ge (by rw [d.cols.h]; omega), ent_wide d (by omega)]
theorem cols_cols {k w : Nat} {M : List Row} (d : Dm k w M) : colsM (colsM M w) k = M := mat_ext d.cols.cols d fun i j => by rw [ent_cols d.cols, ent_cols d]
theorem len_clr (M : List Row) (a : Nat) : (clr M a).length = M.length := len_clrQ ..
theorem clr_row {k w : Nat} {M : List Row} (d : Dm k w M) {a p : Nat} (ha : a < k) (hp : p < k) : (clr M a).getD p [] = if a < p then tkR (qOf M a p) (M.getD p []) (M.getD a []) else M.getD p [] := by
  unfold clr
  rw [clr_get (by rw [d.h]; exact hp)]
  by_cases h : a < p
  · rw [if_pos h, if_pos ⟨h, by rw [d.h]; exact hp⟩]
  · rw [if_neg h, if_neg (by omega)]
theorem Dm.clr {k w : Nat} {M : List Row} (d : Dm k w M) {a : Nat} (ha : a < k) : Dm k w (clr M a) := by
  refine ⟨by rw [len_clr, d.h], fun r hr => ?_⟩
  obtain ⟨p, hp, rfl⟩ := List.getElem_of_mem hr
  have hp2 : p < k := by rw [len_clr, d.h] at hp; exact hp
  have e := clr_row d ha hp2
  rw [getD_lt hp] at e
  rw [e]
  split
  · rw [len_tkR, d.get hp2, d.get ha]; omega
  · exact d.get hp2
theorem ent_clr {k w : Nat} {M : List Row} (d : Dm k w M) {a : Nat} (ha : a < k) (p c : Nat) : ent (clr M a) p c = if a < p then ent M p c - qOf M a p * ent M a c else ent M p c := by
  by_cases hp : p < k
  · unfold ent
    rw [clr_row d ha hp]
    split
    · rw [at_tkR (by rw [d.get hp, d.get ha])]
    · rfl
  · have e1 : ent M p c = 0 := ent_ge (by rw [d.h]; omega)
    have e2 : qOf M a p = 0 := by unfold qOf; rw [ent_ge (by rw [d.h]; omega)]; exact Int.zero_fdiv _
    rw [ent_ge (by rw [len_clr, d.h]; omega), e1, e2]
    split <;> simp
theorem Dm.take {k w : Nat} {M : List Row} (d : Dm k w M) {a f : Nat} (ha : a < k) (hf : f < k) (o : Int) : Dm k w (takeF M a f o) := by
  refine ⟨by unfold takeF; rw [List.length_set, d.h], fun r hr => ?_⟩
  unfold takeF at hr
  rcases List.mem_or_eq_of_mem_set hr with q | q
  · exact d.wd r q
  · rw [q, len_tkR, d.get ha, d.get hf]; omega
theorem ent_take {k w : Nat} {M : List Row} (d : Dm k w M) {a f : Nat} (ha : a < k) (hf : f < k) (o : Int) (p c : Nat) : ent (takeF M a f o) p c = if p = f then ent M f c - o * ent M a c else ent M p c := by
  unfold ent takeF
  by_cases hp : p < k
  · have hp2 : p < M.length := by rw [d.h]; exact hp
    rw [getD_lt (by rw [List.length_set]; exact hp2), List.getElem_set]
    by_cases h : p = f
    · rw [if_pos h.symm, if_pos h, at_tkR (by rw [d.get ha, d.get hf])]
    · rw [if_neg (Ne.symm h), if_neg h, getD_lt hp2]
  · rw [if_neg (by omega), getD_ge (by rw [List.length_set, d.h]; omega), getD_ge (by rw [d.h]; omega)]
theorem zeroB_iff {k w : Nat} {M : List Row} (d : Dm k w M) {a : Nat} : zeroB M a = true ↔ ∀ i, a < i → ent M i a = 0 := by
  unfold zeroB
  rw [List.all_eq_true]
  constructor
  · intro h i hi
    by_cases hk : i < k
    · have hk2 : i < M.length := by rw [d.h]; exact hk
      have hm : M[i] ∈ M.drop (a + 1) := by
        refine List.mem_iff_getElem.mpr ⟨i - (a + 1), by rw [List.length_drop]; omega, ?_⟩
        rw [List.getElem_drop]
        congr 1
        omega
      have := of_decide_eq_true (h _ hm)
      unfold ent
      rw [getD_lt hk2]
      exact this
    · exact ent_ge (by rw [d.h]; omega)
  · intro h r hr
    obtain ⟨i, hi, e⟩ := List.getElem_of_mem hr
    rw [List.length_drop] at hi
    rw [List.getElem_drop] at e
    have := h (a + 1 + i) (by omega)
    unfold ent at this
    rw [getD_lt (by omega), e] at this
    exact decide_eq_true this
/-! ### the rows' common zeros, and what keeps them -/
/-- zeros of all rows, at two places -/
def Kr (s : Int) (M : List Row) (x y : Int) : Prop := ∀ i, s ∣ ent M i 0 * x + ent M i 1 * y
theorem kr_swp {k w : Nat} {M : List Row} (d : Dm k w M) {i j : Nat} (hi : i < k) (hj : j < k) (s x y : Int) : Kr s (swp M i j) x y ↔ Kr s M x y := by
  constructor
  · intro h p
    have := h (sg i j p)
    rw [ent_swp (by rw [d.h]; exact hi) (by rw [d.h]; exact hj), ent_swp (by rw [d.h]; exact hi) (by rw [d.h]; exact hj), sg_sg] at this
    exact this
  · intro h p
    rw [ent_swp (by rw [d.h]; exact hi) (by rw [d.h]; exact hj), ent_swp (by rw [d.h]; exact hi) (by rw [d.h]; exact hj)]
    exact h _
theorem lin_sub (a b c d q x y : Int) : (a - q * c) * x + (b - q * d) * y = (a * x + b * y) - q * (c * x + d * y) := by
  rw [Int.sub_mul, Int.sub_mul, Int.mul_add, Int.mul_assoc, Int.mul_assoc]
  omega
theorem kr_clr {k w : Nat} {M : List Row} (d : Dm k w M) {a : Nat} (ha : a < k) (s x y : Int) : Kr s (clr M a) x y ↔ Kr s M x y := by
  constructor
  · intro h p
    have h0 := h a
    have hp := h p
    rw [ent_clr d ha, ent_clr d ha, if_neg (by omega), if_neg (by omega)] at h0
    rw [ent_clr d ha, ent_clr d ha] at hp
    by_cases q : a < p
    · rw [if_pos q, if_pos q, lin_sub] at hp
      have := Int.dvd_add hp (Int.dvd_mul_of_dvd_right (b := qOf M a p) h0)
      have e : ent M p 0 * x + ent M p 1 * y - qOf M a p * (ent M a 0 * x + ent M a 1 * y) + qOf M a p * (ent M a 0 * x + ent M a 1 * y) = ent M p 0 * x + ent M p 1 * y := by omega
      rw [e] at this
      exact this
    · rw [if_neg q, if_neg q] at hp
      exact hp
  · intro h p
    rw [ent_clr d ha, ent_clr d ha]
    by_cases q : a < p
    · rw [if_pos q, if_pos q, lin_sub]
      exact Int.dvd_sub (h p) (Int.dvd_mul_of_dvd_right (h a))
    · rw [if_neg q, if_neg q]
      exact h p
theorem kr_take {k w : Nat} {M : List Row} (d : Dm k w M) {a f : Nat} (ha : a < k) (hf : f < k) (hne : a ≠ f) (o s x y : Int) : Kr s (takeF M a f o) x y ↔ Kr s M x y := by
  constructor
  · intro h p
    have h0 := h a
    have hp := h p
    rw [ent_take d ha hf, ent_take d ha hf, if_neg hne, if_neg hne] at h0
    rw [ent_take d ha hf, ent_take d ha hf] at hp
    by_cases q : p = f
    · subst q
      rw [if_pos rfl, if_pos rfl, lin_sub] at hp
      have := Int.dvd_add hp (Int.dvd_mul_of_dvd_right (b := o) h0)
      have e : ent M p 0 * x + ent M p 1 * y - o * (ent M a 0 * x + ent M a 1 * y) + o * (ent M a 0 * x + ent M a 1 * y) = ent M p 0 * x + ent M p 1 * y := by omega
      rw [e] at this
      exact this
    · rw [if_neg q, if_neg q] at hp
      exact hp
  · intro h p
    rw [ent_take d ha hf, ent_take d ha hf]
    by_cases q : p = f
    · subst q
      rw [if_pos rfl, if_pos rfl, lin_sub]
      exact Int.dvd_sub (h p) (Int.dvd_mul_of_dvd_right (h a))
    · rw [if_neg q, if_neg q]
      exact h p
/-! ### sums over a round -/
def sm (s : Nat) (f : Int → Nat) : Nat := ((List.range s).map fun i : Nat => f i).sum
theorem sm_succ (s : Nat) (f : Int → Nat) : sm (s + 1) f = sm s f + f s := by unfold sm; rw [List.range_succ, List.map_append, List.sum_append]; simp
theorem sm_congr {s : Nat} {f g : Int → Nat} (h : ∀ x : Int, 0 ≤ x → x < s → f x = g x) : sm s f = sm s g := by
  unfold sm
  congr 1
  refine List.map_congr_left fun i hi => h i (by omega) ?_
  have := List.mem_range.mp hi
  omega
theorem sm_add (s : Nat) (f g : Int → Nat) : sm s (fun x => f x + g x) = sm s f + sm s g := by
  induction s with
  | zero => rfl
  | succ s ih => rw [sm_succ, sm_succ, sm_succ, ih]; omega
theorem sm_mul (s : Nat) (f : Int → Nat) (c : Nat) : sm s (fun x => f x * c) = sm s f * c := by
  induction s with
  | zero => simp [sm]
  | succ s ih => rw [sm_succ, sm_succ, ih, Nat.add_mul]
theorem sm_const (s c : Nat) : sm s (fun _ => c) = s * c := by
  induction s with
  | zero => simp [sm]
  | succ s ih => rw [sm_succ, ih, Nat.add_mul, Nat.one_mul]
theorem sm_swap (s t : Nat) (f : Int → Int → Nat) : sm s (fun y => sm t fun x => f x y) = sm t fun x => sm s fun y => f x y := by
  induction s with
  | zero => show 0 = _; rw [show (fun x => sm 0 fun y => f x y) = fun _ => 0 from rfl, sm_const]; omega
  | succ s ih =>
    rw [sm_succ, ih, ← sm_add]
    exact sm_congr fun x _ _ => (sm_succ s fun y => f x y).symm
theorem sm_shift1 {s : Nat} {f : Int → Nat} (h : f s = f 0) : sm s (fun x => f (x + 1)) = sm s f := by
  have key : ∀ n : Nat, sm n (fun x => f (x + 1)) + f 0 = sm n f + f n := by
    intro n
    induction n with
    | zero => rfl
    | succ n ih =>
      rw [sm_succ, sm_succ]
      have e : f ((n : Int) + 1) = f ((n + 1 : Nat) : Int) := by congr 1
      omega
  have := key s
  omega
theorem sm_shiftN {s : Nat} : ∀ (n : Nat) {f : Int → Nat}, (∀ x, f (x + s) = f x) → sm s (fun x => f (x + n)) = sm s f
  | 0, f, h => sm_congr fun x _ _ => by congr 1; omega
  | n + 1, f, h => by
    have e1 := sm_shiftN n (f := fun x => f (x + 1)) fun x => by
      show f (x + s + 1) = f (x + 1)
      rw [← h (x + 1)]
      congr 1
      omega
    have e2 := sm_shift1 (s := s) (f := f) (by have := h 0; rw [Int.zero_add] at this; exact this)
    rw [← e2, ← e1]
    exact sm_congr fun x _ _ => by show f _ = f _; congr 1; omega
theorem per_mul {s : Nat} {f : Int → Nat} (h : ∀ x, f (x + s) = f x) (x : Int) : ∀ n : Nat, f (x + s * n) = f x
  | 0 => by congr 1; simp
  | n + 1 => by
    rw [← per_mul h x n, ← h (x + s * n)]
    congr 1
    rw [show ((n + 1 : Nat) : Int) = (n : Int) + 1 from rfl, Int.mul_add]
    omega
theorem sm_shift {s : Nat} {f : Int → Nat} (h : ∀ x, f (x + s) = f x) (t : Int) : sm s (fun x => f (x + t)) = sm s f := by
  rcases Int.le_total 0 t with ht | ht
  · have e : t = (t.toNat : Int) := by omega
    rw [e]
    exact sm_shiftN t.toNat h
  · by_cases hs : s = 0
    · subst hs; rfl
    · have hn : 0 ≤ t + s * (-t).toNat := by
        have : ((-t).toNat : Int) = -t := by omega
        rw [this]
        have h1 : (1 : Int) ≤ s := by omega
        have : 1 * -t ≤ (s : Int) * -t := Int.mul_le_mul_of_nonneg_right h1 (by omega)
        omega
      have e : sm s (fun x => f (x + t)) = sm s (fun x => f (x + ((t + s * (-t).toNat).toNat : Nat))) := by
        refine sm_congr fun x _ _ => ?_
        rw [← per_mul h (x + t) (-t).toNat]
        congr 1
        omega
      rw [e]
      exact sm_shiftN _ h
end Mx
-- M8
set_option maxHeartbeats 1000000
namespace Mx
def kb (s : Nat) (M : List Row) (x y : Int) : Bool := M.all fun r => decide ((at_ r 0 * x + at_ r 1 * y) % (s : Int) = 0)
def ib (b : Bool) : Nat := if b then 1 else 0
def cnt (w s : Nat) (M : List Row) : Nat := if w = 1 then sm s fun x => ib (kb s M x 0) else sm s fun y => sm s fun x => ib (kb s M x y)
theorem kb_iff {s : Nat} {M : List Row} {x y : Int} : kb s M x y = true ↔ Kr s M x y := by
  unfold kb Kr
  rw [List.all_eq_true]
  constructor
  · intro h i
    by_cases hi : i < M.length
    · have := of_decide_eq_true (h _ (List.getElem_mem hi))
      unfold ent
      rw [getD_lt hi]
      exact Int.dvd_of_emod_eq_zero this
    · rw [ent_ge (by omega), ent_ge (by omega)]
      exact ⟨0, by omega⟩
  · intro h r hr
    obtain ⟨i, hi, e⟩ := List.getElem_of_mem hr
    have := h i
    unfold ent at this
    rw [getD_lt hi, e] at this
    exact decide_eq_true (Int.emod_eq_zero_of_dvd this)
theorem bool_eq {a b : Bool} (h : a = true ↔ b = true) : a = b := by cases a <;> cases b <;> simp_all
def KE (w : Nat) (M N : List Row) : Prop := ∀ s, cnt w s N = cnt w s M
theorem KE.refl (w : Nat) (M : List Row) : KE w M M := fun _ => rfl
theorem KE.trans {w : Nat} {M N O : List Row} (a : KE w M N) (b : KE w N O) : KE w M O := fun s => (b s).trans (a s)
theorem ke_kr {w : Nat} {M N : List Row} (h : ∀ s x y, Kr s N x y ↔ Kr s M x y) : KE w M N := fun s => by
  have e : ∀ x y, kb s N x y = kb s M x y := fun x y => bool_eq (kb_iff.trans ((h s x y).trans kb_iff.symm))
  unfold cnt
  simp only [e]
theorem ke_flip {M N : List Row} (h : ∀ i, ent N i 0 = ent M i 1 ∧ ent N i 1 = ent M i 0) : KE 2 M N := fun s => by
  have e : ∀ x y, kb s N x y = kb s M y x := fun x y => bool_eq (kb_iff.trans (Iff.trans ⟨fun k i => by have := k i; rw [(h i).1, (h i).2] at this; rw [Int.add_comm]; exact this, fun k i => by have := k i; rw [(h i).1, (h i).2, Int.add_comm]; exact this⟩ kb_iff.symm))
  unfold cnt
  rw [if_neg (by decide), if_neg (by decide)]
  simp only [e]
  exact sm_swap s s fun x y => ib (kb s M y x)
theorem kb_per (s : Nat) (M : List Row) (x y : Int) : kb s M (x + s) y = kb s M x y := by
  refine bool_eq (kb_iff.trans (Iff.trans ⟨fun k i => ?_, fun k i => ?_⟩ kb_iff.symm))
  · have := Int.dvd_sub (k i) (Int.dvd_mul_left (ent M i 0) (s : Int))
    have e : ent M i 0 * (x + s) + ent M i 1 * y - ent M i 0 * s = ent M i 0 * x + ent M i 1 * y := by rw [Int.mul_add]; omega
    rw [e] at this
    exact this
  · have := Int.dvd_add (k i) (Int.dvd_mul_left (ent M i 0) (s : Int))
    have e : ent M i 0 * x + ent M i 1 * y + ent M i 0 * s = ent M i 0 * (x + s) + ent M i 1 * y := by rw [Int.mul_add]; omega
    rw [e] at this
    exact this
theorem ke_shear {M N : List Row} {q : Int} (h : ∀ i, ent N i 0 = ent M i 0 ∧ ent N i 1 = ent M i 1 - q * ent M i 0) : KE 2 M N := fun s => by
  have e : ∀ x y, kb s N x y = kb s M (x + -(q * y)) y := fun x y => bool_eq (kb_iff.trans (Iff.trans (by
    refine forall_congr' fun i => ?_
    rw [(h i).1, (h i).2]
    have e : ent M i 0 * x + (ent M i 1 - q * ent M i 0) * y = ent M i 0 * (x + -(q * y)) + ent M i 1 * y := by
      rw [Int.sub_mul, Int.mul_add, Int.mul_neg, Int.mul_left_comm (ent M i 0) q y, Int.mul_assoc q]
      omega
    rw [e]) kb_iff.symm))
  unfold cnt
  rw [if_neg (by decide), if_neg (by decide)]
  simp only [e]
  exact sm_congr fun y _ _ => sm_shift (f := fun x => ib (kb s M x y)) (fun x => by show ib _ = ib _; rw [kb_per]) _
/-! ### a matrix with nothing off its diagonal -/
theorem sm_mult {s' : Nat} (h : 0 < s') : ∀ g : Nat, sm (s' * g) (fun x => ib (decide (x % (s' : Int) = 0))) = g := by
  have one : ∀ n : Nat, n ≤ s' → sm n (fun x => ib (decide (x % (s' : Int) = 0))) = if n = 0 then 0 else 1 := by
    intro n
    induction n with
    | zero => intro _; rfl
    | succ n ih =>
      intro hn
      rw [sm_succ, ih (by omega)]
      by_cases h0 : n = 0
      · subst h0
        simp [ib]
      · have e : ((n : Int) % (s' : Int)) = n := Int.emod_eq_of_lt (by omega) (by omega)
        rw [e, if_neg h0, if_neg (by omega)]
        have : ¬ ((n : Int) = 0) := by omega
        have e2 : decide ((n : Int) = 0) = false := decide_eq_false this
        rw [e2]
        rfl
  have per : ∀ g n : Nat, sm (s' * g + n) (fun x => ib (decide (x % (s' : Int) = 0))) = sm (s' * g) (fun x => ib (decide (x % (s' : Int) = 0))) + sm n (fun x => ib (decide (x % (s' : Int) = 0))) := by
    intro g n
    induction n with
    | zero => rfl
    | succ n ih =>
      rw [show s' * g + (n + 1) = (s' * g + n) + 1 by omega, sm_succ, sm_succ, ih]
      have e : (((s' * g + n : Nat) : Int) % (s' : Int)) = ((n : Int) % (s' : Int)) := by
        rw [show ((s' * g + n : Nat) : Int) = (n : Int) + (s' : Int) * (g : Int) by simp; omega]
        exact Int.add_mul_emod_self_left ..
      rw [e]
      omega
  intro g
  induction g with
  | zero => rfl
  | succ g ih =>
    rw [Nat.mul_succ, per g s', ih, one s' (Nat.le_refl _), if_neg (by omega)]
theorem sm_gcd {s : Nat} (hs : 0 < s) (d : Int) : sm s (fun x => ib (decide (d * x % (s : Int) = 0))) = Int.gcd d s := by
  have hg : 0 < Int.gcd d s := Int.gcd_pos_of_ne_zero_right d (by omega)
  have hgs : Int.gcd d s ∣ s := by have := Int.gcd_dvd_right (a := d) (b := (s : Int)); exact Int.natCast_dvd_natCast.mp this
  obtain ⟨s', hs'⟩ := hgs
  have hs0 : 0 < s' := by
    rcases Nat.eq_zero_or_pos s' with z | z
    · subst z; omega
    · exact z
  obtain ⟨d', hd'⟩ := Int.gcd_dvd_left (a := d) (b := (s : Int))
  have key : ∀ x : Int, (d * x % (s : Int) = 0) ↔ (x % (s' : Int) = 0) := by
    intro x
    have cop : Int.gcd d' s' = 1 := by
      have h1 : Int.gcd d s = Int.gcd d s * Int.gcd d' s' := by
        have e1 : (s : Int) = (Int.gcd d s : Int) * (s' : Int) := by
          have := congrArg (fun n : Nat => (n : Int)) hs'
          simpa using this
        have e2 : Int.gcd ((Int.gcd d s : Int) * d') ((Int.gcd d s : Int) * (s' : Int)) = Int.gcd d s * Int.gcd d' s' := by
          rw [Int.gcd_mul_left]; rfl
        rw [← hd', ← e1] at e2
        exact e2
      have : Int.gcd d s * 1 = Int.gcd d s * Int.gcd d' s' := by omega
      exact (Nat.eq_of_mul_eq_mul_left hg this).symm
    have e1 : (s : Int) = (Int.gcd d s : Int) * (s' : Int) := by
      have := congrArg (fun n : Nat => (n : Int)) hs'
      simpa using this
    constructor
    · intro h
      have h2 := Int.dvd_of_emod_eq_zero h
      rw [e1] at h2
      have e3 : d * x = (Int.gcd d s : Int) * (d' * x) := by
        rw [← Int.mul_assoc, ← hd']
      rw [e3] at h2
      have h3 : (s' : Int) ∣ d' * x := Int.dvd_of_mul_dvd_mul_left (by omega) h2
      have h4 : (s' : Int) ∣ x := by
        rw [← Int.natAbs_dvd_natAbs] at h3 ⊢
        rw [Int.natAbs_mul] at h3
        refine Nat.Coprime.dvd_of_dvd_mul_left (m := d'.natAbs) ?_ h3
        unfold Nat.Coprime
        rw [Nat.gcd_comm]
        exact cop
      exact Int.emod_eq_zero_of_dvd h4
    · intro h
      obtain ⟨y, hy⟩ := Int.dvd_of_emod_eq_zero h
      refine Int.emod_eq_zero_of_dvd ⟨d' * y, ?_⟩
      rw [hy, e1]
      have e3 : d * ((s' : Int) * y) = (Int.gcd d s : Int) * d' * ((s' : Int) * y) := by rw [← hd']
      rw [e3]
      simp only [Int.mul_assoc, Int.mul_left_comm]
  have e : (fun x : Int => ib (decide (d * x % (s : Int) = 0))) = fun x : Int => ib (decide (x % (s' : Int) = 0)) := by
    funext x
    have : decide (d * x % (s : Int) = 0) = decide (x % (s' : Int) = 0) := by rw [Bool.eq_iff_iff, decide_eq_true_iff, decide_eq_true_iff]; exact key x
    rw [this]
  rw [e]
  have e2 : s = s' * Int.gcd d s := by rw [Nat.mul_comm]; exact hs'
  have := sm_mult hs0 (Int.gcd d s)
  rw [← e2] at this
  exact this
theorem cnt_diag1 {s : Nat} (hs : 0 < s) {M : List Row} (h : ∀ i j, i ≠ j → ent M i j = 0) : cnt 1 s M = Int.gcd (ent M 0 0) s := by
  unfold cnt
  rw [if_pos rfl, ← sm_gcd hs]
  refine sm_congr fun x _ _ => ?_
  congr 1
  refine bool_eq (kb_iff.trans (Iff.trans ⟨fun k => ?_, fun k i => ?_⟩ decide_eq_true_iff.symm))
  · have := k 0
    rw [Int.mul_zero, Int.add_zero] at this
    exact Int.emod_eq_zero_of_dvd this
  · rw [Int.mul_zero, Int.add_zero]
    by_cases hi : i = 0
    · subst hi
      exact Int.dvd_of_emod_eq_zero k
    · rw [h i 0 hi]
      exact ⟨0, by omega⟩
theorem cnt_diag2 {s : Nat} (hs : 0 < s) {M : List Row} (h : ∀ i j, i ≠ j → ent M i j = 0) : cnt 2 s M = Int.gcd (ent M 0 0) s * Int.gcd (ent M 1 1) s := by
  unfold cnt
  rw [if_neg (by decide), ← sm_gcd hs (ent M 0 0), ← sm_gcd hs (ent M 1 1), Nat.mul_comm, ← sm_mul]
  refine sm_congr fun y _ _ => ?_
  rw [Nat.mul_comm, ← sm_mul]
  refine sm_congr fun x _ _ => ?_
  have e : kb s M x y = (decide (ent M 0 0 * x % (s : Int) = 0) && decide (ent M 1 1 * y % (s : Int) = 0)) := by
    refine bool_eq (kb_iff.trans ?_)
    rw [Bool.and_eq_true, decide_eq_true_iff, decide_eq_true_iff]
    constructor
    · intro k
      have k0 := k 0
      have k1 := k 1
      rw [h 0 1 (by decide), Int.zero_mul, Int.add_zero] at k0
      rw [h 1 0 (by decide), Int.zero_mul, Int.zero_add] at k1
      exact ⟨Int.emod_eq_zero_of_dvd k0, Int.emod_eq_zero_of_dvd k1⟩
    · rintro ⟨k0, k1⟩ i
      by_cases h0 : i = 0
      · subst h0
        rw [h 0 1 (by decide), Int.zero_mul, Int.add_zero]
        exact Int.dvd_of_emod_eq_zero k0
      · by_cases h1 : i = 1
        · subst h1
          rw [h 1 0 (by decide), Int.zero_mul, Int.zero_add]
          exact Int.dvd_of_emod_eq_zero k1
        · rw [h i 0 h0, h i 1 h1]
          exact ⟨0, by omega⟩
  rw [e]
  cases decide (ent M 0 0 * x % (s : Int) = 0) <;> cases decide (ent M 1 1 * y % (s : Int) = 0) <;> rfl
end Mx
-- M9
set_option maxHeartbeats 1000000
namespace Mx
def Dg (a : Nat) (M : List Row) : Prop := ∀ i j, (i < a ∨ j < a) → i ≠ j → ent M i j = 0
/-- one column left: its numbers, and one of them that is small -/
def One (a m : Nat) (M : List Row) : Prop := (∀ i, (ent M i a).natAbs ≤ 2 ^ 60) ∧ ∃ i, a ≤ i ∧ ent M i a ≠ 0 ∧ (ent M i a).natAbs ≤ m
/-- two columns left -/
def Two (m : Nat) (M : List Row) : Prop := m ≤ 13 ∧ (∃ c, c < 2 ∧ ∀ i, (ent M i c).natAbs ≤ 6) ∧ (∀ i j, (ent M i j).natAbs ≤ 2 ^ (4 + 4 * (13 - m))) ∧
  ((∃ i j, ent M i j ≠ 0 ∧ 2 * (ent M i j).natAbs + 1 ≤ m) ∨ (ent M 0 0 ≠ 0 ∧ 2 * (ent M 0 0).natAbs ≤ m ∧ (ent M 0 1).fmod (ent M 0 0) ≠ 0))
structure LI (k w a m : Nat) (M : List Row) : Prop where
  d : Dm k w M
  ak : a < k
  dg : Dg a M
  one : w = a + 1 → One a m M
  two : w = a + 2 → a = 0 ∧ Two m M
  cas : w = a + 1 ∨ w = a + 2
/-- the rows turned, their columns changed, before the columns are cleared -/
def tur (M : List Row) (w a i f : Nat) : List Row := swp (colsM (swp M a i) w) a f
def turB (M : List Row) (k w a i f : Nat) : List Row := colsM (clr (tur M w a i f) a) k
section
variable {k w a m i f : Nat} {M : List Row}
theorem LI.aw (l : LI k w a m M) : a < w := by rcases l.cas with h | h <;> omega
theorem Spot.ik (s : Spot M a i f) (l : LI k w a m M) : i < k := by have := s.il; rw [l.d.h] at this; exact this
theorem Spot.fw (s : Spot M a i f) (l : LI k w a m M) : f < w := by have := s.jl; rw [l.d.get (s.ik l)] at this; exact this
theorem tur_d (l : LI k w a m M) (s : Spot M a i f) : Dm w k (tur M w a i f) := ((l.d.swp l.ak (s.ik l)).cols).swp l.aw (s.fw l)
theorem ent_tur (l : LI k w a m M) (s : Spot M a i f) (c p : Nat) : ent (tur M w a i f) c p = ent M (sg a i p) (sg a f c) := by
  have d1 := l.d.swp l.ak (s.ik l)
  unfold tur
  rw [ent_swp (by rw [d1.cols.h]; exact l.aw) (by rw [d1.cols.h]; exact s.fw l), ent_cols d1, ent_swp (by rw [l.d.h]; exact l.ak) (by rw [l.d.h]; exact s.ik l)]
theorem sg_a (i : Nat) : sg a i a = i := by unfold sg; split <;> simp_all
theorem tur_aa (l : LI k w a m M) (s : Spot M a i f) : ent (tur M w a i f) a a = ent M i f := by rw [ent_tur l s, sg_a, sg_a]
theorem turB_d (l : LI k w a m M) (s : Spot M a i f) : Dm k w (turB M k w a i f) := ((tur_d l s).clr l.aw).cols
theorem ent_turB (l : LI k w a m M) (s : Spot M a i f) (p c : Nat) : ent (turB M k w a i f) p c = if a < c then ent M (sg a i p) (sg a f c) - qOf (tur M w a i f) a c * ent M (sg a i p) f else ent M (sg a i p) (sg a f c) := by
  unfold turB
  rw [ent_cols ((tur_d l s).clr l.aw), ent_clr (tur_d l s) l.aw, ent_tur l s, ent_tur l s, sg_a]
theorem turB_aa (l : LI k w a m M) (s : Spot M a i f) : ent (turB M k w a i f) a a = ent M i f := by rw [ent_turB l s, if_neg (by omega), sg_a, sg_a]
def stp (M : List Row) (k w a i f : Nat) : List Row := clr (turB M k w a i f) a
theorem stp_d (l : LI k w a m M) (s : Spot M a i f) : Dm k w (stp M k w a i f) := (turB_d l s).clr l.ak
theorem ent_stp (l : LI k w a m M) (s : Spot M a i f) (p c : Nat) : ent (stp M k w a i f) p c = if a < p then ent (turB M k w a i f) p c - qOf (turB M k w a i f) a p * ent (turB M k w a i f) a c else ent (turB M k w a i f) p c := ent_clr (turB_d l s) l.ak p c
theorem stp_aa (l : LI k w a m M) (s : Spot M a i f) : ent (stp M k w a i f) a a = ent M i f := by rw [ent_stp l s, if_neg (by omega), turB_aa l s]
theorem stp_col (l : LI k w a m M) (s : Spot M a i f) {p : Nat} (hp : a < p) : ent (stp M k w a i f) p a = (ent (turB M k w a i f) p a).fmod (ent M i f) := by
  rw [ent_stp l s, if_pos hp, turB_aa l s]
  unfold qOf
  rw [turB_aa l s, Int.mul_comm, fdm]
/-- one column: turning changes nothing -/
theorem one_turB (l : LI k w a m M) (s : Spot M a i f) (hw : w = a + 1) : f = a ∧ ∀ p c, ent (turB M k w a i f) p c = ent M (sg a i p) c := by
  have hf : f = a := by have := s.fw l; have := s.aj; omega
  subst hf
  refine ⟨rfl, fun p c => ?_⟩
  have sgff : ∀ c, sg f f c = c := fun c => by
    unfold sg
    by_cases h : c = f
    · rw [if_pos h]; omega
    · rw [if_neg h, if_neg h]
  by_cases hc : f < c
  · have z : ∀ q, ent M q c = 0 := fun q => ent_wide l.d (by omega)
    rw [ent_wide (turB_d l s) (by omega), z]
  · rw [ent_turB l s, if_neg hc, sgff]
theorem one_bes (l : LI k w a m M) (s : Spot M a i f) (hw : w = a + 1) : zeroB (clr (tur M w a i f) a) a = true := by
  rw [zeroB_iff ((tur_d l s).clr l.aw)]
  intro c hc
  exact ent_ge (by rw [len_clr, (tur_d l s).h]; omega)
theorem sg_ge {p : Nat} (hai : a ≤ i) (hp : a ≤ p) : a ≤ sg a i p := by unfold sg; split; omega; split <;> omega
theorem sg_lta {p : Nat} (hai : a ≤ i) (hp : p < a) : sg a i p = p := by unfold sg; rw [if_neg (by omega), if_neg (by omega)]
theorem one_dg (l : LI k w a m M) (s : Spot M a i f) (hw : w = a + 1) : Dg a (stp M k w a i f) := by
  obtain ⟨hf, e⟩ := one_turB l s hw
  subst hf
  have d1 : Dg f (turB M k w f i f) := fun p c h hne => by
    rw [e]
    rcases h with h | h
    · rw [sg_lta s.ai h]
      exact l.dg p c (.inl h) hne
    · by_cases hp : p < f
      · rw [sg_lta s.ai hp]
        exact l.dg p c (.inr h) hne
      · have := sg_ge (a := f) (i := i) s.ai (p := p) (by omega)
        exact l.dg _ c (.inr h) (by omega)
  intro p c h hne
  rw [ent_stp l s]
  split
  · rcases h with h | h
    · omega
    · rw [d1 p c (.inr h) hne, d1 f c (.inr h) (by omega)]
      simp
  · exact d1 p c h hne
theorem dg_up (hd : Dg a M) (h1 : ∀ p, a < p → ent M p a = 0) (h2 : ∀ c, a < c → ent M a c = 0) : Dg (a + 1) M := fun p c h hne => by
  by_cases hp : p < a
  · exact hd p c (.inl hp) hne
  · by_cases hc : c < a
    · exact hd p c (.inr hc) hne
    · by_cases e1 : p = a
      · subst e1
        exact h2 c (by omega)
      · have : c = a := by omega
        subst this
        exact h1 p (by omega)
/-! ### the spot is small -/
theorem two_small (l : LI k w a m M) (s : Spot M a i f) (hw : w = a + 2) : (ent M i f).natAbs ≤ 6 ∧ 2 * (ent M i f).natAbs ≤ m ∧
    ((2 * (ent M i f).natAbs + 1 ≤ m) ∨ (i = 0 ∧ f = 0 ∧ (ent M 0 1).fmod (ent M 0 0) ≠ 0)) := by
  obtain ⟨rfl, h1, _, _, h4⟩ := l.two hw
  rcases h4 with ⟨p, c, z, hz⟩ | ⟨z, hz, hx⟩
  · have := s.le p c (Nat.zero_le _) (Nat.zero_le _) z
    omega
  · have := s.le 0 0 (Nat.le_refl _) (Nat.le_refl _) z
    refine ⟨by omega, by omega, ?_⟩
    by_cases e : (ent M i f).natAbs = (ent M 0 0).natAbs
    · obtain ⟨e1, e2⟩ := s.fst z e.symm
      exact .inr ⟨e1, e2, hx⟩
    · left; omega
theorem one_small (l : LI k w a m M) (s : Spot M a i f) (hw : w = a + 1) : (ent M i f).natAbs ≤ 2 ^ 60 ∧ (ent M i f).natAbs ≤ m := by
  obtain ⟨h1, p, h2, h3, h4⟩ := l.one hw
  have := s.le p a h2 (Nat.le_refl _) h3
  obtain ⟨hf, _⟩ := one_turB l s hw
  subst hf
  exact ⟨h1 i, by omega⟩
theorem has_spot (l : LI k w a m M) : ∃ p c, a ≤ p ∧ a ≤ c ∧ ent M p c ≠ 0 := by
  rcases l.cas with h | h
  · obtain ⟨_, p, h2, h3, _⟩ := l.one h
    exact ⟨p, a, h2, Nat.le_refl _, h3⟩
  · obtain ⟨rfl, _, _, _, h4⟩ := l.two h
    rcases h4 with ⟨p, c, z, _⟩ | ⟨z, _⟩
    · exact ⟨p, c, Nat.zero_le _, Nat.zero_le _, z⟩
    · exact ⟨0, 0, Nat.zero_le _, Nat.zero_le _, z⟩
theorem spot_small (l : LI k w a m M) (s : Spot M a i f) : (ent M i f).natAbs ≤ 2 ^ 60 := by
  rcases l.cas with h | h
  · exact (one_small l s h).1
  · exact Nat.le_trans (two_small l s h).1 (by decide)
/-! ### what the zeros keep -/
theorem ke_tur (l : LI k w a m M) (s : Spot M a i f) : KE w M (turB M k w a i f) := by
  have hk1 : KE w M (swp M a i) := ke_kr fun t x y => kr_swp l.d l.ak (s.ik l) t x y
  have d1 := l.d.swp l.ak (s.ik l)
  rcases l.cas with hw | hw
  · obtain ⟨hf, e⟩ := one_turB l s hw
    refine hk1.trans (ke_kr fun t x y => ?_)
    have : turB M k w a i f = swp M a i := mat_ext (turB_d l s) d1 fun p c => by rw [e, ent_swp (by rw [l.d.h]; exact l.ak) (by rw [l.d.h]; exact s.ik l)]
    rw [this]
  · obtain ⟨ha0, hT⟩ := l.two hw
    clear hT
    subst ha0
    have hw2 : w = 2 := hw
    subst hw2
    refine hk1.trans ?_
    have hf := s.fw l
    have e1 : ∀ p c, ent (swp M 0 i) p c = ent M (sg 0 i p) c := ent_swp (by rw [l.d.h]; exact l.ak) (by rw [l.d.h]; exact s.ik l)
    have e2 := ent_turB l s
    by_cases h0 : f = 0
    · subst h0
      refine ke_shear (q := qOf (tur M 2 0 i 0) 0 1) fun p => ⟨?_, ?_⟩
      · rw [e2, e1, if_neg (by decide)]; rfl
      · rw [e2, e1, e1, if_pos (by decide)]; rfl
    · have h1 : f = 1 := by omega
      subst h1
      have d2 : Dm k 2 ((swp M 0 i).map fun r => [at_ r 1, at_ r 0]) := ⟨by rw [List.length_map, d1.h], fun r hr => by obtain ⟨q, _, rfl⟩ := List.mem_map.mp hr; rfl⟩
      have e3 : ∀ p, ent ((swp M 0 i).map fun r => [at_ r 1, at_ r 0]) p 0 = ent (swp M 0 i) p 1 ∧ ent ((swp M 0 i).map fun r => [at_ r 1, at_ r 0]) p 1 = ent (swp M 0 i) p 0 := fun p => by
        by_cases hp : p < k
        · have hp1 : p < (swp M 0 i).length := by rw [d1.h]; exact hp
          unfold ent
          rw [getD_lt (by rw [List.length_map]; exact hp1), getD_lt hp1]
          simp [at_]
        · rw [ent_ge (by rw [d2.h]; omega), ent_ge (by rw [d1.h]; omega), ent_ge (by rw [d2.h]; omega), ent_ge (by rw [d1.h]; omega)]
          exact ⟨rfl, rfl⟩
      refine (ke_flip e3).trans (ke_shear (q := qOf (tur M 2 0 i 1) 0 1) fun p => ⟨?_, ?_⟩)
      · rw [e2, (e3 p).1, e1, if_neg (by decide)]; rfl
      · rw [e2, (e3 p).1, (e3 p).2, e1, e1, if_pos (by decide)]; rfl
theorem ke_stp (l : LI k w a m M) (s : Spot M a i f) : KE w M (stp M k w a i f) := (ke_tur l s).trans (ke_kr fun t x y => kr_clr (turB_d l s) l.ak t x y)
/-! ### how great -/
theorem fmod_sm {x y : Int} (h : y ≠ 0) : (x.fmod y).natAbs < y.natAbs := fmod_lt h
theorem natAbs_sub (x y : Int) : (x - y).natAbs ≤ x.natAbs + y.natAbs := by omega
/-- the parts of a turn with two columns -/
structure Parts (k m i f : Nat) (M : List Row) where
  bes : ent (turB M k 2 0 i f) 0 1 = (ent M i (1 - f)).fmod (ent M i f)
  c0 : ∀ p, ent (turB M k 2 0 i f) p 0 = ent M (sg 0 i p) f
  b1 : ∀ p, (ent (stp M k 2 0 i f) p 0).natAbs ≤ 6
  b2 : ∀ p c, (ent (stp M k 2 0 i f) p c).natAbs ≤ 2 ^ (4 + 4 * (13 - m)) * 16
  q1 : (qOf (tur M 2 0 i f) 0 1).natAbs ≤ 2 ^ 56
  q2 : ∀ p, (qOf (turB M k 2 0 i f) 0 p).natAbs ≤ 2 ^ 56
theorem parts (l : LI k 2 0 m M) (s : Spot M 0 i f) : Parts k m i f M := by
  obtain ⟨_, hm, ⟨c, hc, hsm⟩, hbig, _⟩ := l.two rfl
  have hp := (two_small l s rfl).1
  have hf := s.fw l
  have nz := s.nz
  have hE : 2 ^ (4 + 4 * (13 - m)) ≤ 2 ^ 56 := Nat.pow_le_pow_right (by decide) (by omega)
  have hE16 : 16 ≤ 2 ^ (4 + 4 * (13 - m)) := Nat.le_trans (by decide : 16 ≤ 2 ^ 4) (Nat.pow_le_pow_right (by decide) (by omega))
  have sg1 : sg 0 f 1 = 1 - f := by unfold sg; split; omega; split <;> omega
  have sg0 : sg 0 f 0 = f := sg_a f
  have eq1 : qOf (tur M 2 0 i f) 0 1 = (ent M i (1 - f)).fdiv (ent M i f) := by
    unfold qOf
    rw [tur_aa l s, ent_tur l s, sg_a, sg1]
  have c0 : ∀ p, ent (turB M k 2 0 i f) p 0 = ent M (sg 0 i p) f := fun p => by rw [ent_turB l s, if_neg (by decide), sg0]
  have c1 : ∀ p, ent (turB M k 2 0 i f) p 1 = ent M (sg 0 i p) (1 - f) - (ent M i (1 - f)).fdiv (ent M i f) * ent M (sg 0 i p) f := fun p => by rw [ent_turB l s, if_pos (by decide), sg1, eq1]
  have bes : ent (turB M k 2 0 i f) 0 1 = (ent M i (1 - f)).fmod (ent M i f) := by rw [c1, sg_a, Int.mul_comm, fdm]
  have bes_s : (ent (turB M k 2 0 i f) 0 1).natAbs ≤ 6 := by rw [bes]; have := fmod_sm (x := ent M i (1 - f)) nz; omega
  have eq2 : ∀ p, qOf (turB M k 2 0 i f) 0 p = (ent M (sg 0 i p) f).fdiv (ent M i f) := fun p => by unfold qOf; rw [turB_aa l s, c0]
  have hq1 : ((ent M i (1 - f)).fdiv (ent M i f)).natAbs ≤ (ent M i (1 - f)).natAbs := fdiv_le nz
  have hq2 : ∀ p, ((ent M (sg 0 i p) f).fdiv (ent M i f)).natAbs ≤ (ent M (sg 0 i p) f).natAbs := fun p => fdiv_le nz
  have b1 : ∀ p, (ent (stp M k 2 0 i f) p 0).natAbs ≤ 6 := fun p => by
    by_cases h : 0 < p
    · rw [stp_col l s h]
      have := fmod_sm (x := ent (turB M k 2 0 i f) p 0) nz
      omega
    · have : p = 0 := by omega
      subst this
      rw [stp_aa l s]
      exact hp
  refine ⟨bes, c0, b1, fun p cc => ?_, ?_, fun p => ?_⟩
  · by_cases hcc : cc = 0
    · subst hcc
      have := b1 p
      omega
    · by_cases hc2 : 2 ≤ cc
      · rw [ent_wide (stp_d l s) hc2]
        simp
      · have : cc = 1 := by omega
        subst this
        -- the other column
        have key : (ent M (sg 0 i p) (1 - f)).natAbs + ((ent M i (1 - f)).fdiv (ent M i f)).natAbs * (ent M (sg 0 i p) f).natAbs + ((ent M (sg 0 i p) f).fdiv (ent M i f)).natAbs * 6 ≤ 2 ^ (4 + 4 * (13 - m)) * 16 := by
          by_cases hcf : c = f
          · subst hcf
            have a1 := hsm (sg 0 i p)
            have a2 := hbig (sg 0 i p) (1 - c)
            have a3 := hbig i (1 - c)
            have a4 := hq2 p
            have a5 := Nat.mul_le_mul (Nat.le_trans hq1 a3) a1
            have a6 := Nat.mul_le_mul_right 6 (Nat.le_trans a4 a1)
            omega
          · have e : c = 1 - f := by omega
            subst e
            have a1 := hsm (sg 0 i p)
            have a2 := hbig (sg 0 i p) f
            have a3 := hsm i
            have a5 := Nat.mul_le_mul (Nat.le_trans hq1 a3) a2
            have a6 := Nat.mul_le_mul_right 6 (Nat.le_trans (hq2 p) a2)
            omega
        have t1 : (ent (turB M k 2 0 i f) p 1).natAbs ≤ (ent M (sg 0 i p) (1 - f)).natAbs + ((ent M i (1 - f)).fdiv (ent M i f)).natAbs * (ent M (sg 0 i p) f).natAbs := by
          rw [c1, ← Int.natAbs_mul]
          exact natAbs_sub _ _
        rw [ent_stp l s]
        split
        · have t2 := natAbs_sub (ent (turB M k 2 0 i f) p 1) (qOf (turB M k 2 0 i f) 0 p * ent (turB M k 2 0 i f) 0 1)
          rw [Int.natAbs_mul, eq2] at t2
          have t3 := Nat.mul_le_mul_left ((ent M (sg 0 i p) f).fdiv (ent M i f)).natAbs bes_s
          rw [eq2]
          omega
        · omega
  · rw [eq1]
    exact Nat.le_trans hq1 (Nat.le_trans (hbig _ _) hE)
  · rw [eq2]
    exact Nat.le_trans (hq2 p) (Nat.le_trans (hbig _ _) hE)
/-- the quotients fit -/
theorem tur_q (l : LI k w a m M) (s : Spot M a i f) {c : Nat} (h1 : a < c) (h2 : c < w) : (qOf (tur M w a i f) a c).natAbs < 2 ^ 64 := by
  rcases l.cas with hw | hw
  · omega
  · obtain ⟨ha0, hT⟩ := l.two hw
    clear hT
    subst ha0
    have hw2 : w = 2 := hw
    subst hw2
    have : c = 1 := by omega
    subst this
    exact Nat.lt_of_le_of_lt (parts l s).q1 (by decide)
theorem turB_q (l : LI k w a m M) (s : Spot M a i f) {p : Nat} (h1 : a < p) : (qOf (turB M k w a i f) a p).natAbs < 2 ^ 64 := by
  rcases l.cas with hw | hw
  · obtain ⟨hf, e⟩ := one_turB l s hw
    unfold qOf
    rw [turB_aa l s, e]
    exact Nat.lt_of_le_of_lt (Nat.le_trans (fdiv_le s.nz) ((l.one hw).1 _)) (by decide)
  · obtain ⟨ha0, hT⟩ := l.two hw
    clear hT
    subst ha0
    have hw2 : w = 2 := hw
    subst hw2
    exact Nat.lt_of_le_of_lt ((parts l s).q2 p) (by decide)
theorem stp_dg (l : LI k w a m M) (s : Spot M a i f) : Dg a (stp M k w a i f) := by
  rcases l.cas with hw | hw
  · exact one_dg l s hw
  · obtain ⟨rfl, _⟩ := l.two hw
    exact fun p c h => by omega
/-- a turn that left something -/
theorem li_left (l : LI k w a m M) (s : Spot M a i f) (h : ¬ (zeroB (clr (turB M k w a i f) a) a = true ∧ zeroB (clr (tur M w a i f) a) a = true)) : ∃ m', m' < m ∧ LI k w a m' (stp M k w a i f) := by
  rcases l.cas with hw | hw
  · have h1 : ¬ zeroB (clr (turB M k w a i f) a) a = true := fun z => h ⟨z, one_bes l s hw⟩
    rw [zeroB_iff ((turB_d l s).clr l.ak)] at h1
    obtain ⟨p, hp⟩ : ∃ p, ¬ (a < p → ent (stp M k w a i f) p a = 0) := by
      apply Classical.byContradiction
      intro hc
      exact h1 fun p => Classical.byContradiction fun hn => hc ⟨p, hn⟩
    have hap : a < p := Classical.byContradiction fun hn => hp fun z => absurd z hn
    have hne : ent (stp M k w a i f) p a ≠ 0 := fun z => hp fun _ => z
    have small := one_small l s hw
    have lt := fmod_sm (x := ent (turB M k w a i f) p a) s.nz
    rw [← stp_col l s hap] at lt
    refine ⟨(ent (stp M k w a i f) p a).natAbs, by omega, stp_d l s, l.ak, stp_dg l s, fun _ => ⟨fun q => ?_, p, by omega, hne, Nat.le_refl _⟩, fun z => by omega, .inl hw⟩
    by_cases hq : a < q
    · have := fmod_sm (x := ent (turB M k w a i f) q a) s.nz
      rw [← stp_col l s hq] at this
      omega
    · rw [ent_stp l s, if_neg hq]
      obtain ⟨hf, e⟩ := one_turB l s hw
      rw [e]
      exact (l.one hw).1 _
  · obtain ⟨ha0, hm, hT⟩ := l.two hw
    clear hT
    subst ha0
    have hw2 : w = 2 := hw
    subst hw2
    have P := parts l s
    obtain ⟨s1, s2, s3⟩ := two_small l s rfl
    -- a rest
    have hrest : ∃ p c, ent (stp M k 2 0 i f) p c ≠ 0 ∧ (ent (stp M k 2 0 i f) p c).natAbs < (ent M i f).natAbs := by
      by_cases hb : ent (turB M k 2 0 i f) 0 1 = 0
      · have hz : zeroB (clr (tur M 2 0 i f) 0) 0 = true := by
          rw [zeroB_iff ((tur_d l s).clr l.aw)]
          intro c hc
          have e : ent (clr (tur M 2 0 i f) 0) c 0 = ent (turB M k 2 0 i f) 0 c := by unfold turB; rw [ent_cols ((tur_d l s).clr l.aw)]
          rw [e]
          by_cases h1 : c = 1
          · subst h1; exact hb
          · exact ent_wide (turB_d l s) (by omega)
        have h1 : ¬ zeroB (clr (turB M k 2 0 i f) 0) 0 = true := fun z => h ⟨z, hz⟩
        rw [zeroB_iff ((turB_d l s).clr l.ak)] at h1
        obtain ⟨p, hp⟩ : ∃ p, ¬ (0 < p → ent (stp M k 2 0 i f) p 0 = 0) := by
          apply Classical.byContradiction
          intro hc
          exact h1 fun p => Classical.byContradiction fun hn => hc ⟨p, hn⟩
        have hap : 0 < p := Classical.byContradiction fun hn => hp fun z => absurd z hn
        have hne : ent (stp M k 2 0 i f) p 0 ≠ 0 := fun z => hp fun _ => z
        refine ⟨p, 0, hne, ?_⟩
        rw [stp_col l s hap]
        exact fmod_sm s.nz
      · refine ⟨0, 1, ?_, ?_⟩
        · rw [ent_stp l s, if_neg (by decide)]
          exact hb
        · rw [ent_stp l s, if_neg (by decide), P.bes]
          exact fmod_sm s.nz
    obtain ⟨p, c, h1, h2⟩ := hrest
    have hm' : 2 * (ent (stp M k 2 0 i f) p c).natAbs + 1 < m := by omega
    refine ⟨2 * (ent (stp M k 2 0 i f) p c).natAbs + 1, hm', stp_d l s, l.ak, fun _ _ h => by omega, fun z => by omega, fun _ => ⟨rfl, by omega, ⟨0, by decide, P.b1⟩, fun q d => Nat.le_trans (P.b2 q d) ?_, .inl ⟨p, c, h1, Nat.le_refl _⟩⟩, .inr rfl⟩
    have e : 2 ^ (4 + 4 * (13 - m)) * 16 = 2 ^ (4 + 4 * (13 - m) + 4) := (Nat.pow_add 2 (4 + 4 * (13 - m)) 4).symm
    rw [e]
    exact Nat.pow_le_pow_right (by decide) (by omega)
/-- a turn that left nothing -/
theorem stp_up (l : LI k w a m M) (s : Spot M a i f) (h1 : zeroB (clr (turB M k w a i f) a) a = true) (h2 : zeroB (clr (tur M w a i f) a) a = true) : Dg (a + 1) (stp M k w a i f) := by
  rw [zeroB_iff ((turB_d l s).clr l.ak)] at h1
  rw [zeroB_iff ((tur_d l s).clr l.aw)] at h2
  refine dg_up (stp_dg l s) h1 fun c hc => ?_
  rw [ent_stp l s, if_neg (by omega)]
  have := h2 c hc
  unfold turB
  rw [ent_cols ((tur_d l s).clr l.aw)]
  exact this
/-- .. but some row is odd -/
theorem li_odd (l : LI k w a m M) (s : Spot M a i f) (h1 : zeroB (clr (turB M k w a i f) a) a = true) (h2 : zeroB (clr (tur M w a i f) a) a = true) {p c : Nat} (hp : a < p) (hk : p < k) (ho : (ent (stp M k w a i f) p c).fmod (ent (stp M k w a i f) a a) ≠ 0) :
    ∃ m', m' < m ∧ LI k w a m' (takeF (stp M k w a i f) p a (-1)) := by
  have up := stp_up l s h1 h2
  have d3 := stp_d l s
  have nc : c ≠ a := by
    rintro rfl
    rw [up p c (.inr (by omega)) (by omega), Int.zero_fmod] at ho
    exact ho rfl
  rcases l.cas with hw | hw
  · exfalso
    by_cases hca : c < a
    · rw [up p c (.inr (by omega)) (by omega), Int.zero_fmod] at ho
      exact ho rfl
    · rw [ent_wide d3 (by omega), Int.zero_fmod] at ho
      exact ho rfl
  · obtain ⟨ha0, hm, hT⟩ := l.two hw
    clear hT
    subst ha0
    have hw2 : w = 2 := hw
    subst hw2
    have P := parts l s
    obtain ⟨s1, s2, s3⟩ := two_small l s rfl
    have hc1 : c = 1 := by
      by_cases h : 2 ≤ c
      · rw [ent_wide d3 h, Int.zero_fmod] at ho
        exact absurd rfl ho
      · omega
    subst hc1
    have et := ent_take d3 hk l.ak (-1)
    have e00 : ent (takeF (stp M k 2 0 i f) p 0 (-1)) 0 0 = ent M i f := by
      rw [et, if_pos rfl, up p 0 (.inr (by decide)) (by omega), stp_aa l s]
      omega
    have e01 : ent (takeF (stp M k 2 0 i f) p 0 (-1)) 0 1 = ent (stp M k 2 0 i f) p 1 := by
      rw [et, if_pos rfl, up 0 1 (.inl (by decide)) (by decide)]
      omega
    have hm' : 2 * (ent M i f).natAbs < m := by
      rcases s3 with h | ⟨ei, ef, hx⟩
      · omega
      · exfalso
        subst ei ef
        have hb : ent (turB M k 2 0 0 0) 0 1 = 0 := by
          have := up 0 1 (.inl (by decide)) (by decide)
          rw [ent_stp l s, if_neg (by decide)] at this
          exact this
        rw [P.bes] at hb
        exact hx hb
    refine ⟨2 * (ent M i f).natAbs, hm', d3.take hk l.ak (-1), l.ak, fun _ _ h => by omega, fun z => by omega, fun _ => ⟨rfl, by omega, ⟨0, by decide, fun q => ?_⟩, fun q d => ?_, .inr ⟨by rw [e00]; exact s.nz, by rw [e00]; exact Nat.le_refl _, ?_⟩⟩, .inr rfl⟩
    · by_cases hq : q = 0
      · subst hq
        rw [e00]
        exact s1
      · rw [et, if_neg hq]
        exact P.b1 q
    · have hb : 2 ^ (4 + 4 * (13 - m)) * 16 ≤ 2 ^ (4 + 4 * (13 - 2 * (ent M i f).natAbs)) := by
        have e : 2 ^ (4 + 4 * (13 - m)) * 16 = 2 ^ (4 + 4 * (13 - m) + 4) := (Nat.pow_add 2 (4 + 4 * (13 - m)) 4).symm
        rw [e]
        exact Nat.pow_le_pow_right (by decide) (by omega)
      by_cases hq : q = 0
      · subst hq
        by_cases hd : d = 0
        · subst hd
          rw [e00]
          have : 6 ≤ 2 ^ (4 + 4 * (13 - 2 * (ent M i f).natAbs)) := Nat.le_trans (by decide : 6 ≤ 2 ^ 4) (Nat.pow_le_pow_right (by decide) (by omega))
          omega
        · by_cases hd1 : d = 1
          · subst hd1
            rw [e01]
            exact Nat.le_trans (P.b2 p 1) hb
          · rw [ent_wide (d3.take hk l.ak (-1)) (by omega)]
            exact Nat.zero_le _
      · rw [et, if_neg hq]
        exact Nat.le_trans (P.b2 q d) hb
    · rw [e01, e00, ← stp_aa l s]
      exact ho
theorem ke_odd (l : LI k w a m M) (s : Spot M a i f) {p : Nat} (hp : a < p) (hk : p < k) : KE w M (takeF (stp M k w a i f) p a (-1)) :=
  (ke_stp l s).trans (ke_kr fun t x y => kr_take (stp_d l s) hk l.ak (by omega) (-1) t x y)
end
end Mx
-- Sd6
set_option maxRecDepth 100000
set_option maxHeartbeats 4000000
/-! corner_made -/
namespace Sh
open PySem PySem.Spec PyProof.Rows L2 RZ
open C8 (Cal pe_c)
open Mx
structure MuS (k w : Nat) (μ : Mu) (p : Addr) (M : List Mx.Row) (l : Addr) (B : List Mx.Row) (r : Addr) (C : List Mx.Row) : Prop where
  mp : μ p = some (pM M)
  ml : μ l = some (pM B)
  mr : μ r = some (pM C)
  pl : p ≠ l
  pr : p ≠ r
  lr : l ≠ r
  hb : B.length = k
  hc : C.length = w
  rb : ∀ x ∈ B, x.length = k
  rc : ∀ x ∈ C, x.length = w
section
variable {k w : Nat} {μ : Mu} {p l r : Addr} {M M' B B' C C' : List Mx.Row}
theorem MuS.sp (s : MuS k w μ p M l B r C) : MuS k w (updM μ p (pM M')) p M' l B r C := ⟨updM_same, by rw [updM_ne (Ne.symm s.pl)]; exact s.ml, by rw [updM_ne (Ne.symm s.pr)]; exact s.mr, s.pl, s.pr, s.lr, s.hb, s.hc, s.rb, s.rc⟩
theorem MuS.sl (s : MuS k w μ p M l B r C) (h : B'.length = k) (h2 : ∀ x ∈ B', x.length = k) : MuS k w (updM μ l (pM B')) p M l B' r C := ⟨by rw [updM_ne s.pl]; exact s.mp, updM_same, by rw [updM_ne (Ne.symm s.lr)]; exact s.mr, s.pl, s.pr, s.lr, h, s.hc, h2, s.rc⟩
theorem MuS.sr (s : MuS k w μ p M l B r C) (h : C'.length = w) (h2 : ∀ x ∈ C', x.length = w) : MuS k w (updM μ r (pM C')) p M l B r C' := ⟨by rw [updM_ne s.pr]; exact s.mp, by rw [updM_ne s.lr]; exact s.ml, updM_same, s.pl, s.pr, s.lr, s.hb, h, s.rb, h2⟩
theorem MuS.new (s : MuS k w μ p M l B r C) {q : Addr} (h : μ q = none) : MuS k w (updM μ q (pM M')) q M' l B r C := by
  have h1 : q ≠ l := by rintro rfl; rw [s.ml] at h; cases h
  have h2 : q ≠ r := by rintro rfl; rw [s.mr] at h; cases h
  exact ⟨updM_same, by rw [updM_ne (Ne.symm h1)]; exact s.ml, by rw [updM_ne (Ne.symm h2)]; exact s.mr, h1, h2, s.lr, s.hb, s.hc, s.rb, s.rc⟩
theorem swp_rows {B : List Mx.Row} {i j : Nat} (hi : i < B.length) (hj : j < B.length) {v : Nat} (h : ∀ x ∈ B, x.length = v) : ∀ x ∈ swp B i j, x.length = v := fun x hx => by
  obtain ⟨q, hq, rfl⟩ := List.getElem_of_mem hx
  have e := swp_get (p := q) hi hj
  rw [getD_lt hq] at e
  rw [e]
  have hl : sg i j q < B.length := sg_lt hi hj (by rw [len_swp] at hq; exact hq)
  rw [getD_lt hl]
  exact h _ (List.getElem_mem hl)
theorem take_rows {B : List Mx.Row} {i j v : Nat} {o : Int} (hi : i < B.length) (hj : j < B.length) (h : ∀ x ∈ B, x.length = v) : ∀ x ∈ takeF B i j o, x.length = v := fun x hx => by
  unfold takeF at hx
  rcases List.mem_or_eq_of_mem_set hx with q | q
  · exact h x q
  · rw [q, len_tkR, h _ (getD_lt hj ▸ List.getElem_mem hj), h _ (getD_lt hi ▸ List.getElem_mem hi)]
    omega
end
section
variable {P : Program} {w : World} {K : PySem.W.Frag} {mg : Str → Option Value} {base : Heap} {T : Tb}
abbrev s_corner_made : Stmt := top 28
abbrev N_corner_made : List Str := ["rows", "left", "right", "at", "wide", "near", "far", "beside", "odd"]
theorem sc_corner_made : FnScope N_corner_made ["rows", "left", "right", "at"] (defScope s_corner_made) := ⟨rfl, rfl, rfl, by decide +kernel, rfl, by decide +kernel, by decide +kernel⟩
def R_corner_made (rs : List MD) (μ : Mu) (post : MD → Mu → Prop) : Prop := ∃ (p l r : Addr) (M B C : List Mx.Row) (k w a m : Nat), rs = [.m p, .m l, .m r, .d (.int a)] ∧ MuS k w μ p M l B r C ∧ k ≤ 1000 ∧ w ≤ 2 ∧ LI k w a m M ∧
  ∀ (q : Addr) (μ2 : Mu) (M' B' C' : List Mx.Row), MuS k w μ2 q M' l B' r C' → Dm k w M' → KE w M M' → Dg (a + 1) M' → ent M' a a ≠ 0 → (w = a + 2 → ∀ i j, (ent M' i j).natAbs ≤ 2 ^ 60) → post (.m q) μ2
theorem seen_m {μ : Mu} {p : Addr} {ds : List DD} (h : μ p = some ds) : seen μ (some (.m p)) = some (.list ds) := by simp [seen, h]
theorem stp_bd {k w a m i f : Nat} {M : List Mx.Row} (l : LI k w a m M) (s : Spot M a i f) (hw : w = a + 2) (p c : Nat) : (ent (stp M k w a i f) p c).natAbs ≤ 2 ^ 60 := by
  obtain ⟨ha, hm, _⟩ := l.two hw
  subst ha
  have hw2 : w = 2 := hw
  subst hw2
  refine Nat.le_trans ((parts l s).b2 p c) ?_
  rw [show 2 ^ (4 + 4 * (13 - m)) * 16 = 2 ^ (4 + 4 * (13 - m) + 4) from (Nat.pow_add 2 _ 4).symm]
  exact Nat.pow_le_pow_right (by decide) (by omega)
theorem cal_corner_made (E : Bl mg) (c_least_spot : Cal P w K mg base 1 "least_spot" (spD T R_least_spot) []) (c_exchanged : Cal P w K mg base 1 "exchanged" (spM T R_exchanged) []) (c_turned_about : Cal P w K mg base 2 "turned_about" (spM T R_turned_about) [])
    (c_cleared : Cal P w K mg base 2 "cleared" (spM T R_cleared) []) (c_first_odd : Cal P w K mg base 1 "first_odd" (spD T R_first_odd) []) (c_taken_from : Cal P w K mg base 1 "taken_from" (spM T R_taken_from) []) (D : DefAt K mg "corner_made" s_corner_made) :
    Cal P w K mg base 3 "corner_made" (spM T R_corner_made) [] := by
  refine cal_m D sc_corner_made (fun _ _ _ _ _ _ us hl => match us, hl with | [_, _, _, _], _ => rfl) (fun rs μ post h => ?_) (fun f cdv A outer s H E0 hr rs μ post h => ?_)
  · obtain ⟨_, _, _, _, _, _, _, _, _, _, rfl, _⟩ := h
    rfl
  · obtain ⟨p0, l, r, M0, B0, C0, k, w, a, m0, rfl, S0, hk, hw2, L0, hp⟩ := h
    refine ⟨_, (pss_cons (ps_set (i := 4) sc_corner_made.nd rfl (Or.inl rfl) (pe_callB (k_len (K := K) rfl) (by rfl) E.len PySem.boot_len (pa_cons (pe_ix (k_ix (K := K) rfl) (pv 0) pe_int (fun _ _ => rfl)) pa_nil))) (pss_one (ps_while PassesOwn.never (pt_val pe_bl) (pss_cons (ps_asg (pe_c c_least_spot hr (by omega) (by rfl) (pa_cons (pv 0) (pa_cons (pv 3) pa_nil))) (k_gtup (K := K) (n := 2) rfl rfl (pgs_cons (pg_name (i := 5) sc_corner_made.nd rfl (Or.inl rfl) (Or.inl rfl)) (pgs_cons (pg_name (i := 6) sc_corner_made.nd rfl (Or.inl rfl) (Or.inl rfl)) pgs_nil)))) (pss_cons (ps_expr (pe_c c_exchanged hr (by omega) (by rfl) (pa_cons (pv 0) (pa_cons (pv 3) (pa_cons (pv 5) pa_nil))))) (pss_cons (ps_expr (pe_c c_exchanged hr (by omega) (by rfl) (pa_cons (pv 1) (pa_cons (pv 3) (pa_cons (pv 5) pa_nil))))) (pss_cons (ps_set (i := 0) sc_corner_made.nd rfl (Or.inl rfl) (pe_c c_turned_about hr (by omega) (by rfl) (pa_cons (pv 0) (pa_cons (pv 4) pa_nil)))) (pss_cons (ps_expr (pe_c c_exchanged hr (by omega) (by rfl) (pa_cons (pv 0) (pa_cons (pv 3) (pa_cons (pv 6) pa_nil))))) (pss_cons (ps_expr (pe_c c_exchanged hr (by omega) (by rfl) (pa_cons (pv 2) (pa_cons (pv 3) (pa_cons (pv 6) pa_nil))))) (pss_cons (ps_set (i := 7) sc_corner_made.nd rfl (Or.inl rfl) (pe_c c_cleared hr (by omega) (by rfl) (pa_cons (pv 0) (pa_cons (pv 2) (pa_cons (pv 3) pa_nil))))) (pss_cons (ps_set (i := 0) sc_corner_made.nd rfl (Or.inl rfl) (pe_c c_turned_about hr (by omega) (by rfl) (pa_cons (pv 0) (pa_cons (pe_callB (k_len (K := K) rfl) (by rfl) E.len PySem.boot_len (pa_cons (pv 1) pa_nil)) pa_nil)))) (pss_one (ps_if (PW.pt (pw_and (pt_val (pe_c c_cleared hr (by omega) (by rfl) (pa_cons (pv 0) (pa_cons (pv 1) (pa_cons (pv 3) pa_nil))))) (pw_and1 (pt_val (pv 7))))) (pss_cons (ps_set (i := 8) sc_corner_made.nd rfl (Or.inl rfl) (pe_c c_first_odd hr (by omega) (by rfl) (pa_cons (pv 0) (pa_cons (pv 3) pa_nil)))) (pss_cons (ps_if (pt_cmp (pc_isN (pv 8)) (by rfl)) (pss_one (ps_ret (pv 0))) pss_nil) (pss_cons (ps_expr (pe_c c_taken_from hr (by omega) (by rfl) (pa_cons (pv 0) (pa_cons (pv 8) (pa_cons (pv 3) (pa_cons (pe_un un_neg pe_int) pa_nil)))))) (pss_one (ps_expr (pe_c c_taken_from hr (by omega) (by rfl) (pa_cons (pv 1) (pa_cons (pv 8) (pa_cons (pv 3) (pa_cons (pe_un un_neg pe_int) pa_nil)))))))))) pss_nil))))))))))))), ?_⟩
    have hk0 : 0 < k := by have := L0.ak; omega
    refine sm_seq (sm_set (xm_of (d := .int w) (em_lf (ed_is (ed_cb (ea_cons (ed_op (ed_var (d := .list (pM M0)) (congrArg some (seen_m S0.mp))) ed_int (rd_ix_l (atI_M (i := 0) (by rw [L0.d.h]; exact hk0)))) ea_nil) rc_lenL) ?_) rfl) ?_))
    · rw [List.length_map, L0.d.get hk0]
    refine sm_while (fun m ε μ => ∃ p M B C a5 a6 a7 a8, MuS k w μ p M l B r C ∧ LI k w a m M ∧ KE w M0 M ∧ ε = [some (.m p), some (.m l), some (.m r), some (.d (.int a)), some (.d (.int w)), a5, a6, a7, a8]) m0 ⟨p0, M0, B0, C0, none, none, none, none, S0, L0, .refl _ _, rfl⟩ ?_
    rintro m ε1 μ1 ⟨p, M, B, C, a5, a6, a7, a8, S, L, ke, rfl⟩
    refine ⟨true, et_test ed_bl, fun _ => ?_, fun e => by cases e⟩
    have hak := L.ak
    have haw := L.aw
    have hMl := L.d.h
    refine sm_seq (sm_asg (xm_lfW (pa := fun d => ∃ i f, d = .tuple [.int (i : Nat), .int (f : Nat)] ∧ Spot M a i f) (ew_call (ea_cons (ed_var (d := .list (pM M)) (congrArg some (seen_m S.mp))) (ea_cons (ed_var rfl) ea_nil)) ⟨M, a, rfl, by omega, fun x hx => by rw [L.d.wd x hx]; omega, fun o sc => ?_⟩) ?_))
    · obtain ⟨e1, e2⟩ := scan_end sc
      cases o with
      | none =>
        obtain ⟨x, y, h1, h2, h3⟩ := has_spot L
        exact absurd (e1 rfl x y h1 h2) h3
      | some q => exact ⟨q.1, q.2, rfl, e2 q.1 q.2 rfl⟩
    rintro d ⟨i, f, rfl, sp⟩
    refine ⟨rfl, _, rfl, tm_pair ?_⟩
    have hik := sp.ik L
    have hfw := sp.fw L
    refine sm_seq (sm_drop (xm_call (xa_m rfl (xa_d (em_var rfl) (xa_d (em_var rfl) (xa_nil ⟨p, M, a, i, rfl, S.mp, by omega, by omega, ?_⟩))))))
    have S1 := S.sp (M' := swp M a i)
    refine sm_seq (sm_drop (xm_call (xa_m rfl (xa_d (em_var rfl) (xa_d (em_var rfl) (xa_nil ⟨l, B, a, i, rfl, S1.ml, by rw [S.hb]; exact hak, by rw [S.hb]; exact hik, ?_⟩))))))
    have S2 := S1.sl (B' := swp B a i) (by rw [len_swp]; exact S.hb) (swp_rows (by rw [S.hb]; exact hak) (by rw [S.hb]; exact hik) S.rb)
    have d1 := L.d.swp hak hik
    refine sm_seq (sm_set (xm_call (xa_m rfl (xa_d (em_var rfl) (xa_nil ⟨p, swp M a i, w, rfl, S2.mp, by omega, by rw [d1.h]; exact hk, fun x hx => by rw [d1.wd x hx]; exact Nat.le_refl _, fun q hq => ?_⟩)))))
    have S3 := S2.new (M' := colsM (swp M a i) w) hq
    have d2 := d1.cols
    refine sm_seq (sm_drop (xm_call (xa_m rfl (xa_d (em_var rfl) (xa_d (em_var rfl) (xa_nil ⟨q, colsM (swp M a i) w, a, f, rfl, S3.mp, by rw [d2.h]; exact haw, by rw [d2.h]; exact hfw, ?_⟩))))))
    have S4 := S3.sp (M' := tur M w a i f)
    refine sm_seq (sm_drop (xm_call (xa_m rfl (xa_d (em_var rfl) (xa_d (em_var rfl) (xa_nil ⟨r, C, a, f, rfl, S4.mr, by rw [S.hc]; exact haw, by rw [S.hc]; exact hfw, ?_⟩))))))
    have S5 := S4.sr (C' := swp C a f) (by rw [len_swp]; exact S.hc) (swp_rows (by rw [S.hc]; exact haw) (by rw [S.hc]; exact hfw) S.rc)
    have dt := tur_d L sp
    have hnz : ent (tur M w a i f) a a ≠ 0 := by rw [tur_aa L sp]; exact sp.nz
    have hsm : (ent M i f).natAbs ≤ 2 ^ 3200 := Nat.le_trans (spot_small L sp) (Nat.pow_le_pow_right (by decide) (by decide))
    refine sm_seq (sm_set (xm_call (xa_m rfl (xa_m rfl (xa_d (em_var rfl) (xa_nil ⟨q, r, tur M w a i f, swp C a f, a, w, rfl, S5.pr, S5.mp, S5.mr, by rw [S5.hc, dt.h], by rw [dt.h]; omega, by rw [dt.h]; exact haw, fun x hx => by rw [dt.wd x hx]; exact ⟨hak, hk⟩, ⟨by omega, S5.rc⟩, hnz, by rw [tur_aa L sp]; exact hsm,
      fun c h1 h2 => tur_q L sp h1 (by rw [dt.h] at h2; exact h2), fun C2 hC2 hC2r => ?_⟩))))))
    have S6 := (S5.sp (M' := clr (tur M w a i f) a)).sr (C' := C2) (by rw [hC2]; exact S5.hc) hC2r
    have dc := dt.clr haw
    refine sm_seq (sm_set (xm_call (xa_m rfl (xa_d (em_lf (ed_is (ed_cb (ea_cons (ed_var (d := .list (pM (swp B a i))) (congrArg some (seen_m S6.ml))) ea_nil) rc_lenL) (e := .int k) ?_) rfl) (xa_nil ⟨q, clr (tur M w a i f) a, k, rfl, S6.mp, hk, by rw [dc.h]; omega, fun x hx => by rw [dc.wd x hx]; exact Nat.le_refl _, fun q2 hq2 => ?_⟩)))))
    · unfold pM
      rw [List.length_map, len_swp, S.hb]
    have S7 := S6.new (M' := turB M k w a i f) hq2
    have db := turB_d L sp
    have hnz2 : ent (turB M k w a i f) a a ≠ 0 := by rw [turB_aa L sp]; exact sp.nz
    refine sm_if (pt := fun b μ2 => ∃ B2, MuS k w μ2 q2 (stp M k w a i f) l B2 r C2 ∧ b = (zeroB (clr (turB M k w a i f) a) a && zeroB (clr (tur M w a i f) a) a)) (xt_and (p1 := fun b μ2 => ∃ B2, MuS k w μ2 q2 (stp M k w a i f) l B2 r C2 ∧ b = zeroB (clr (turB M k w a i f) a) a)
      (xt_test (xm_call (xa_m rfl (xa_m rfl (xa_d (em_var rfl) (xa_nil ⟨q2, l, turB M k w a i f, swp B a i, a, k, rfl, S7.pl, S7.mp, S7.ml, by rw [S7.hb, db.h], by rw [db.h]; exact hk, by rw [db.h]; exact hak, fun x hx => by rw [db.wd x hx]; exact ⟨haw, by omega⟩, ⟨hk, S7.rb⟩, hnz2, by rw [turB_aa L sp]; exact hsm,
      fun c h1 h2 => turB_q L sp h1, fun B2 hB2 hB2r => ⟨_, rfl, B2, (S7.sp (M' := stp M k w a i f)).sl (by rw [hB2]; exact S7.hb) hB2r, rfl⟩⟩))))))
      (fun μ2 ⟨B2, S8, e⟩ => xt_of (et_test (ed_var rfl)) ⟨B2, S8, by rw [← e]; rfl⟩) fun μ2 ⟨B2, S8, e⟩ => ⟨B2, S8, by rw [← e]; rfl⟩) ?_ ?_
    · rintro μ2 ⟨B2, S8, e⟩
      obtain ⟨z1, z2⟩ := Bool.and_eq_true_iff.mp e.symm
      have d3 := stp_d L sp
      have up := stp_up L sp z1 z2
      have hnz3 : ent (stp M k w a i f) a a ≠ 0 := by rw [stp_aa L sp]; exact sp.nz
      refine sm_seq (sm_set (xm_lfW (pa := fun d => d = .none ∨ ∃ o c, d = .int (o : Nat) ∧ a < o ∧ o < k ∧ (ent (stp M k w a i f) o c).fmod (ent (stp M k w a i f) a a) ≠ 0) (ew_call (ea_cons (ed_var (d := .list (pM (stp M k w a i f))) (congrArg some (seen_m S8.mp))) (ea_cons (ed_var rfl) ea_nil)) ⟨stp M k w a i f, a, rfl, by rw [d3.h]; exact hk, by rw [d3.h]; exact hak,
        fun x hx => by rw [d3.wd x hx]; exact ⟨haw, by omega⟩, hnz3, fun _ => .inl rfl, fun o c h1 h2 _ h4 => .inr ⟨o, c, rfl, h1, by rw [d3.h] at h2; exact h2, h4⟩⟩) ?_))
      rintro d (rfl | ⟨o, c, rfl, h1, h2, h3⟩)
      · refine ⟨rfl, sm_seq (sm_ifB (et_B (ed_isN (ed_var rfl) rfl)) (fun _ => sm_ret (xm_ptr rfl ?_)) fun e => by cases e)⟩
        exact hp q2 μ2 _ B2 C2 S8 d3 (ke.trans (ke_stp L sp)) up hnz3 fun hw => stp_bd L sp hw
      · refine ⟨rfl, sm_seq (sm_ifB (et_B (ed_isN (ed_var rfl) rfl)) (fun e => by cases e) fun _ => sm_next ?_)⟩
        refine sm_seq (sm_drop (xm_call (xa_m rfl (xa_d (em_var rfl) (xa_d (em_var rfl) (xa_d (em_data (ed_un ed_int ru_I)) (xa_nil ⟨q2, stp M k w a i f, o, a, -1, rfl, S8.mp, by rw [d3.h]; exact h2, by rw [d3.h]; exact hak, by decide, by rw [d3.get hak]; omega, ?_⟩)))))))
        have S9 := S8.sp (M' := takeF (stp M k w a i f) o a (-1))
        refine sm_drop (xm_call (xa_m rfl (xa_d (em_var rfl) (xa_d (em_var rfl) (xa_d (em_data (ed_un ed_int ru_I)) (xa_nil ⟨l, B2, o, a, -1, rfl, S9.ml, by rw [S9.hb]; exact h2, by rw [S9.hb]; exact hak, by decide, ?_, ?_⟩))))))
        · have hl : a < B2.length := by rw [S9.hb]; exact hak
          rw [S9.rb _ (getD_lt hl ▸ List.getElem_mem hl)]
          exact hk
        obtain ⟨m', hm', L'⟩ := li_odd L sp z1 z2 h1 h2 h3
        exact ⟨m', hm', q2, _, _, _, _, _, _, _, S9.sl (B' := takeF B2 o a (-1)) (by unfold takeF; rw [List.length_set]; exact S9.hb) (take_rows (by rw [S9.hb]; exact h2) (by rw [S9.hb]; exact hak) S9.rb), L', ke.trans (ke_odd L sp h1 h2), rfl⟩
    · rintro μ2 ⟨B2, S8, e⟩
      obtain ⟨m', hm', L'⟩ := li_left L sp fun ⟨z1, z2⟩ => by rw [z1, z2] at e; cases e
      exact sm_next ⟨m', hm', q2, _, _, _, _, _, _, _, S8, L', ke.trans (ke_stp L sp), rfl⟩
end
end Sh
-- M10
set_option maxHeartbeats 1000000
namespace Mx
def negR (M : List Row) (a : Nat) : List Row := M.set a ((M.getD a []).map fun x => -x)
section
variable {k w a : Nat} {M : List Row}
theorem at_neg (r : Row) (j : Nat) : at_ (r.map fun x => -x) j = -at_ r j := by
  by_cases h : j < r.length
  · rw [at_lt (by simpa using h), at_lt h]; simp
  · rw [at_ge (by simp; omega), at_ge (by omega)]; rfl
theorem Dm.neg (d : Dm k w M) (ha : a < k) : Dm k w (negR M a) := by
  refine ⟨by unfold negR; rw [List.length_set, d.h], fun r hr => ?_⟩
  unfold negR at hr
  rcases List.mem_or_eq_of_mem_set hr with q | q
  · exact d.wd r q
  · rw [q, List.length_map, d.get ha]
theorem ent_neg (d : Dm k w M) (ha : a < k) (p c : Nat) : ent (negR M a) p c = if p = a then -ent M p c else ent M p c := by
  unfold ent negR
  by_cases hp : p < k
  · have hp2 : p < M.length := by rw [d.h]; exact hp
    rw [getD_lt (by rw [List.length_set]; exact hp2), List.getElem_set]
    by_cases h : a = p
    · subst h
      rw [if_pos rfl, if_pos rfl, at_neg]
    · rw [if_neg h, if_neg (Ne.symm h), getD_lt hp2]
  · rw [if_neg (by omega), getD_ge (by rw [List.length_set, d.h]; omega), getD_ge (by rw [d.h]; omega)]
theorem ke_neg (d : Dm k w M) (ha : a < k) : KE w M (negR M a) := ke_kr fun s x y => by
  refine forall_congr' fun i => ?_
  rw [ent_neg d ha, ent_neg d ha]
  by_cases h : i = a
  · rw [if_pos h, if_pos h]
    have e : -ent M i 0 * x + -ent M i 1 * y = -(ent M i 0 * x + ent M i 1 * y) := by rw [Int.neg_mul, Int.neg_mul]; omega
    rw [e, Int.dvd_neg]
  · rw [if_neg h, if_neg h]
theorem dg_neg (d : Dm k w M) (ha : a < k) {b : Nat} (h : Dg b M) : Dg b (negR M a) := fun p c hh hne => by
  rw [ent_neg d ha]
  split
  · rw [h p c hh hne]; rfl
  · exact h p c hh hne
/-- at the start -/
theorem li_start1 (d : Dm k 1 M) (hk : 0 < k) (hb : ∀ i j, (ent M i j).natAbs ≤ 6) (hn : ∃ i j, ent M i j ≠ 0) : LI k 1 0 6 M := by
  obtain ⟨i, j, h⟩ := hn
  refine ⟨d, hk, fun _ _ h => by omega, fun _ => ⟨fun i => Nat.le_trans (hb i 0) (by decide), i, Nat.zero_le _, ?_, hb i 0⟩, fun h => by omega, .inl rfl⟩
  by_cases hj : j = 0
  · subst hj; exact h
  · exact absurd (ent_wide d (by omega)) h
theorem li_start2 (d : Dm k 2 M) (hk : 0 < k) (hb : ∀ i j, (ent M i j).natAbs ≤ 6) (hn : ∃ i j, ent M i j ≠ 0) : LI k 2 0 13 M := by
  obtain ⟨i, j, h⟩ := hn
  refine ⟨d, hk, fun _ _ h => by omega, fun h => by omega, fun _ => ⟨rfl, Nat.le_refl _, ⟨0, by decide, fun i => hb i 0⟩, fun i j => Nat.le_trans (hb i j) (by decide), .inl ⟨i, j, h, by have := hb i j; omega⟩⟩, .inr rfl⟩
theorem li_next (d : Dm k 2 M) (hk : 1 < k) (hd : Dg 1 M) (hb : ∀ i j, (ent M i j).natAbs ≤ 2 ^ 60) (hn : ∃ i j, 1 ≤ i ∧ 1 ≤ j ∧ ent M i j ≠ 0) : ∃ m, LI k 2 1 m M := by
  obtain ⟨i, j, h1, h2, h⟩ := hn
  have hj : j = 1 := by
    by_cases h3 : 2 ≤ j
    · exact absurd (ent_wide d h3) h
    · omega
  subst hj
  exact ⟨_, d, hk, hd, fun _ => ⟨fun i => hb i 1, i, h1, h, Nat.le_refl _⟩, fun h => by omega, .inl rfl⟩
/-- at the end -/
theorem cnt_end {s : Nat} (hs : 0 < s) (hw : w = 1 ∨ w = 2) {N : List Row} (ke : KE w M N) (h : ∀ i j, i ≠ j → ent N i j = 0) (hz : ∀ i, a ≤ i → ent N i i = 0) (haw : a ≤ w) :
    ((List.range a).map fun i => Int.gcd (ent N i i) s).foldl (· * ·) 1 * s ^ (w - a) = cnt w s M := by
  rw [← ke s]
  have g0 : Int.gcd 0 (s : Int) = s := by simp [Int.gcd]
  rcases hw with rfl | rfl
  · rw [cnt_diag1 hs h]
    match a, haw with
    | 0, _ => rw [hz 0 (by omega), g0]; simp
    | 1, _ => simp [List.range_succ]
  · rw [cnt_diag2 hs h]
    match a, haw with
    | 0, _ => rw [hz 0 (by omega), hz 1 (by omega), g0]; simp [Nat.pow_succ]
    | 1, _ => rw [hz 1 (by omega), g0]; simp [List.range_succ]
    | 2, _ => simp [List.range_succ]
end
end Mx
-- Sd7
set_option maxRecDepth 100000
set_option maxHeartbeats 4000000
/-! diagonal, steps_of, silent_on -/
namespace Sh
open PySem PySem.Spec PyProof.Rows L2 RZ
open C8 (Cal pe_c)
open Mx
theorem sw_par {T : Tb} {δ : Dl} {te1 te2 : TE} {i j : Nat} {d : DD} {post : DD → Prop} {nx : Dl → Prop} {rt : DD → Prop} (h1 : ED T te1 δ d) (h2 : EW T te2 δ post) (n : ∀ e, post e → nx ((δ.set i (some d)).set j (some e))) : SD T (tPar i j (tCons te1 (tCons te2 tNil))) δ nx rt := fun σ G H o D hx hr =>
  h1 σ G H o _ fun v G1 H1 s1 d1 => h2 σ G1 H1 (o.step s1) _ fun e w G2 H2 he s2 d2 => by
    have o2 := (o.step s1).step s2
    exact ⟨v, w, rfl, hx _ _ G2 H2 (n e he) (s1.trans s2) ⟨o2.s, o2.t, (o2.e.set i (dq_mono s2.gg _ _ d1)).set j d2, o2.nt⟩⟩
theorem ew_ifT {T : Tb} {δ : Dl} {c : TT} {ta tb : TE} {b : Bool} {post : DD → Prop} (hc : ET T c δ b) (h1 : b = true → EW T ta δ post) (h2 : b = false → EW T tb δ post) : EW T (tIf c ta tb) δ post := fun σ G H o Q q =>
  hc σ G H o _ fun G1 H1 s1 => by
    cases b with
    | true => exact h1 rfl σ G1 H1 (o.step s1) Q fun d v G2 H2 hd s2 d2 => q d v G2 H2 hd (s1.trans s2) d2
    | false => exact h2 rfl σ G1 H1 (o.step s1) Q fun d v G2 H2 hd s2 d2 => q d v G2 H2 hd (s1.trans s2) d2
/-- a def that may change lists, called where none are known -/
theorem ew_callM {T : Tb} {δ : Dl} {ta : TA} {ds : List DD} {R : List MD → Mu → (MD → Mu → Prop) → Prop} {pm : MD → Mu → Prop} {post : DD → Prop} {E : XK} (h : EA T ta δ ds) (hr : R (ds.map MD.d) (fun _ => none) pm) (hp : ∀ r μ2, pm r μ2 → ∃ d, r = .d d ∧ post d) :
    EW T (tCall (spM T R) [] E ta) δ post := fun σ G H o Q q =>
  h σ G H o _ fun vs G1 H1 s1 d1 => by
    have hp2 : ∀ {vs : List V} {ds : List DD}, DqAll G1 vs ds → Paired (VM G1) vs (ds.map MD.d) := by
      intro vs ds
      induction ds generalizing vs with
      | nil => intro h; cases h; exact .nil
      | cons d ds ih =>
        intro h
        cases h with
        | cons h t => exact .cons h (ih t)
    refine ⟨G1, _, fun _ => none, pm, s1.gh, s1.tt o.t, (o.step s1).nt, ⟨fun a ds e => by cases e⟩, by rw [List.append_nil]; exact hp2 d1, hr, fun r v μ2 G2 H2 hr2 s2 d2 => ?_⟩
    obtain ⟨d, rfl, hd⟩ := hp r μ2 hr2
    exact q d v G2 H2 hd (s1.trans ⟨s2.gg, s2.gh, fun b o e n => s2.hh b o rfl e n, s2.nn, s2.fr, s2.tt, s2.nt⟩) d2
theorem lf_pT (t : List (List Int)) : LF (pT t) = true := by
  unfold pT
  rw [LF]
  induction t with
  | nil => rfl
  | cons r t ih => rw [List.map_cons, LFA, lf_pR, ih]; rfl
theorem tupD_pM (t : List (List Int)) : tupD (.list (pM t)) = pT t := by
  unfold pT pM
  rw [tupD, tupAll_map, List.map_map]
  refine congrArg PyData.tuple ?_
  refine List.map_congr_left fun r _ => ?_
  show tupD (pL r) = pR r
  unfold pL pR
  rw [tupD, tupAll_map, List.map_map]
  refine congrArg PyData.tuple ?_
  exact List.map_congr_left fun x _ => by show tupD (.int x) = _; rw [tupD]
theorem flat_pM {n : Nat} {t : List (List Int)} (h : t.length ≤ 1000) (h2 : ∀ r ∈ t, r.length ≤ 1000) : Flat (n + 2) (.list (pM t)) := by
  refine ⟨by unfold pM; simpa using h, fun x hx => ?_⟩
  unfold pM at hx
  obtain ⟨y, hy, rfl⟩ := List.mem_map.mp hx
  refine ⟨by simpa using h2 y hy, fun x hx => ?_⟩
  obtain ⟨z, _, rfl⟩ := List.mem_map.mp hx
  cases n <;> trivial
section
variable {P : Program} {w : World} {K : PySem.W.Frag} {mg : Str → Option Value} {base : Heap} {T : Tb}
abbrev s_diagonal : Stmt := top 29
abbrev N_diagonal : List Str := ["table", "rows", "many", "wide", "left", "right", "at", "row", "bit", "place"]
theorem sc_diagonal : FnScope N_diagonal ["table"] (defScope s_diagonal) := ⟨rfl, rfl, rfl, by decide +kernel, rfl, by decide +kernel, by decide +kernel⟩
def R_diagonal (rs : List MD) (μ : Mu) (post : MD → Mu → Prop) : Prop := ∃ (M : List Mx.Row) (k w : Nat), rs = [.d (pT M)] ∧ Dm k w M ∧ 1 ≤ k ∧ k ≤ 6 ∧ (w = 1 ∨ w = 2) ∧ (∀ i j, (ent M i j).natAbs ≤ 6) ∧
  ∀ (N B C : List Mx.Row) (a : Nat) (μ2 : Mu), a ≤ w → KE w M N → (∀ i j, i ≠ j → ent N i j = 0) → (∀ i, a ≤ i → ent N i i = 0) → post (.d (.tuple [pT B, pR ((List.range a).map fun i => ent N i i), pT C])) μ2
theorem rows_units {n : Nat} : ∀ x ∈ unitsR n, x.length = n := fun x hx => by
  unfold unitsR at hx
  obtain ⟨p, _, rfl⟩ := List.mem_map.mp hx
  rw [len_unitR]
theorem cal_diagonal (E : Bl mg) (c_tupled : Cal P w K mg base 5 "tupled" (spD T (R_tupled 3)) []) (c_units : Cal P w K mg base 2 "units" (spD T R_units) []) (c_columns : Cal P w K mg base 1 "columns" (spD T R_columns) []) (c_least_spot : Cal P w K mg base 1 "least_spot" (spD T R_least_spot) [])
    (c_corner_made : Cal P w K mg base 3 "corner_made" (spM T R_corner_made) []) (D : DefAt K mg "diagonal" s_diagonal) : Cal P w K mg base 6 "diagonal" (spM T R_diagonal) [] := by
  refine cal_m D sc_diagonal (fun _ _ _ _ _ _ us hl => match us, hl with | [_], _ => rfl) (fun rs μ post h => ?_) (fun f cdv A outer s H E0 hr rs μ post h => ?_)
  · obtain ⟨_, _, _, rfl, _⟩ := h
    rfl
  · obtain ⟨M, k, w, rfl, d, hk1, hk6, hw, hb, hp⟩ := h
    refine ⟨_, (pss_cons (ps_set (i := 1) sc_diagonal.nd rfl (Or.inr rfl) (pe_lc (own := [("row", 7)]) rfl sc_diagonal.nd (k_tup (K := K) rfl (pv 0)) (blkOk_by (own := [("row", 7)]) (N := N_diagonal) (sc := (defScope s_diagonal)) (by decide +kernel)) (fun _ _ _ _ _ => (pg_name (i := 7) sc_diagonal.nd rfl (Or.inl rfl) (Or.inr rfl))) (fun _ _ _ _ _ => pts_nil) (fun _ _ _ _ _ => (pe_callTy (k_lstOf (K := K) rfl) (by rfl) E.list (by decide +kernel) (pa_cons (pv 7) pa_nil))))) (pss_cons (ps_par (i := 2) (j := 3) rfl sc_diagonal.nd rfl rfl (by decide) rfl rfl (pa_cons (pe_callB (k_len (K := K) rfl) (by rfl) E.len PySem.boot_len (pa_cons (pv 1) pa_nil)) (pa_cons (pe_callB (k_len (K := K) rfl) (by rfl) E.len PySem.boot_len (pa_cons (pe_ix (k_ix (K := K) rfl) (pv 1) pe_int (fun _ _ => rfl)) pa_nil)) pa_nil)) (by rfl)) (pss_cons (ps_par3 (i := 4) (j := 5) (l := 6) rfl sc_diagonal.nd rfl rfl rfl (by decide) (by decide) (by decide) rfl rfl rfl (pa_cons (pe_lc (own := [("row", 7)]) rfl sc_diagonal.nd (k_tup (K := K) rfl (pe_c c_units hr (by omega) (by rfl) (pa_cons (pv 2) pa_nil))) (blkOk_by (own := [("row", 7)]) (N := N_diagonal) (sc := (defScope s_diagonal)) (by decide +kernel)) (fun _ _ _ _ _ => (pg_name (i := 7) sc_diagonal.nd rfl (Or.inl rfl) (Or.inr rfl))) (fun _ _ _ _ _ => pts_nil) (fun _ _ _ _ _ => (pe_callTy (k_lstOf (K := K) rfl) (by rfl) E.list (by decide +kernel) (pa_cons (pv 7) pa_nil)))) (pa_cons (pe_lc (own := [("row", 7)]) rfl sc_diagonal.nd (k_tup (K := K) rfl (pe_c c_units hr (by omega) (by rfl) (pa_cons (pv 3) pa_nil))) (blkOk_by (own := [("row", 7)]) (N := N_diagonal) (sc := (defScope s_diagonal)) (by decide +kernel)) (fun _ _ _ _ _ => (pg_name (i := 7) sc_diagonal.nd rfl (Or.inl rfl) (Or.inr rfl))) (fun _ _ _ _ _ => pts_nil) (fun _ _ _ _ _ => (pe_callTy (k_lstOf (K := K) rfl) (by rfl) E.list (by decide +kernel) (pa_cons (pv 7) pa_nil)))) (pa_cons pe_int pa_nil))) (by rfl)) (pss_cons (ps_while PassesOwn.never (PW.pt (pw_and (pt_cmpR op_lt (pv 6) (pv 2) (nomark _)) (pw_and (pt_cmpR op_lt (pv 6) (pv 3) (nomark _)) (pw_and1 (pt_cmp (pc_notN (pe_c c_least_spot hr (by omega) (by rfl) (pa_cons (pv 1) (pa_cons (pv 6) pa_nil)))) (by rfl)))))) (pss_cons (ps_set (i := 1) sc_diagonal.nd rfl (Or.inr rfl) (pe_c c_corner_made hr (by omega) (by rfl) (pa_cons (pv 1) (pa_cons (pv 4) (pa_cons (pv 5) (pa_cons (pv 6) pa_nil)))))) (pss_cons (ps_if (pt_cmpR op_lt (pe_ix (k_ix (K := K) rfl) (pe_ix (k_ix (K := K) rfl) (pv 1) (pv 6) (fun _ _ => rfl)) (pv 6) (fun _ _ => rfl)) pe_int (nomark _)) (pss_one (ps_asg (pe_tup (pa_cons (pe_lc (own := [("bit", 8)]) rfl sc_diagonal.nd (k_list (K := K) rfl (pe_ix (k_ix (K := K) rfl) (pv 1) (pv 6) (fun _ _ => rfl))) (blkOk_by (own := [("bit", 8)]) (N := N_diagonal) (sc := (defScope s_diagonal)) (by decide +kernel)) (fun _ _ _ _ _ => (pg_name (i := 8) sc_diagonal.nd rfl (Or.inl rfl) (Or.inr rfl))) (fun _ _ _ _ _ => pts_nil) (fun _ _ _ _ _ => (pe_un un_neg (pv 8)))) (pa_cons (pe_lc (own := [("bit", 8)]) rfl sc_diagonal.nd (k_list (K := K) rfl (pe_ix (k_ix (K := K) rfl) (pv 4) (pv 6) (fun _ _ => rfl))) (blkOk_by (own := [("bit", 8)]) (N := N_diagonal) (sc := (defScope s_diagonal)) (by decide +kernel)) (fun _ _ _ _ _ => (pg_name (i := 8) sc_diagonal.nd rfl (Or.inl rfl) (Or.inr rfl))) (fun _ _ _ _ _ => pts_nil) (fun _ _ _ _ _ => (pe_un un_neg (pv 8)))) pa_nil))) (k_gtup (K := K) (n := 2) rfl rfl (pgs_cons (pg_sub (pv 1) (pv 6) set_list) (pgs_cons (pg_sub (pv 4) (pv 6) set_list) pgs_nil))))) pss_nil) (pss_one (ps_aug (i := 6) sc_diagonal.nd rfl (Or.inl rfl) pe_int ip_add))))) (pss_one (ps_ret (pe_tup (pa_cons (pe_c c_tupled hr (by omega) (by rfl) (pa_cons (pv 4) pa_nil)) (pa_cons (pe_callTy (k_tupOf (K := K) rfl) (by rfl) E.tuple (by decide +kernel) (pa_cons (pe_lc (own := [("place", 9)]) rfl sc_diagonal.nd (pi_range1 (by rfl) E.range (pa_cons (pv 6) pa_nil)) (blkOk_by (own := [("place", 9)]) (N := N_diagonal) (sc := (defScope s_diagonal)) (by decide +kernel)) (fun _ _ _ _ _ => (pg_name (i := 9) sc_diagonal.nd rfl (Or.inl rfl) (Or.inr rfl))) (fun _ _ _ _ _ => pts_nil) (fun _ _ _ _ _ => (pe_ix (k_ix (K := K) rfl) (pe_ix (k_ix (K := K) rfl) (pv 1) (pv 9) (fun _ _ => rfl)) (pv 9) (fun _ _ => rfl)))) pa_nil)) (pa_cons (pe_c c_columns hr (by omega) (by rfl) (pa_cons (pv 5) (pa_cons (pv 3) pa_nil))) pa_nil)))))))))), ?_⟩
    have hMl := d.h
    have hw2 : w ≤ 2 := by omega
    have hw1 : 1 ≤ w := by omega
    refine sm_seq (sm_set (xm_lcN M pR pL (im_tup (em_var rfl)) (by omega) (fun x hx => ⟨_, _, by simp, tg_name, ed_cb (ea_cons (ed_var rfl) ea_nil) rc_lstT⟩) fun p hpn => ?_))
    refine sm_seq (sm_par (xa_d (d := .int k) (em_lf (ed_is (ed_cb (ea_cons (ed_var (d := .list (pM M)) (congrArg some (seen_m updM_same))) ea_nil) rc_lenL) ?_) rfl) (xa_d (d := .int w) (em_lf (ed_is (ed_cb (ea_cons (ed_op (ed_var (d := .list (pM M)) (congrArg some (seen_m updM_same))) ed_int (rd_ix_l (atI_M (i := 0) (by omega)))) ea_nil) rc_lenL) ?_) rfl) (xa_nil ⟨_, _, rfl, ?_⟩))))
    · unfold pM
      rw [List.length_map, hMl]
    · rw [List.length_map, d.get (by omega)]
    refine sm_seq (sm_par3 (xa_cons (pa := fun x μ1 => ∃ l, x = .m l ∧ μ1 = updM (updM μ p (pM M)) l (pM (unitsR k)) ∧ l ≠ p) (xm_lcN (unitsR k) pR pL (im_tup (em_call (ma_cons (em_var rfl) ma_nil) ⟨k, rfl, by omega, rfl⟩)) (by rw [len_unitsR]; omega) (fun x hx => ⟨_, _, by simp, tg_name, ed_cb (ea_cons (ed_var rfl) ea_nil) rc_lstT⟩) fun l hl => ⟨l, rfl, rfl, fun e => by rw [e, updM_same] at hl; cases hl⟩) ?_))
    rintro x μ1 ⟨l, rfl, rfl, hlp⟩
    refine xa_cons (pa := fun x μ1 => ∃ r, x = .m r ∧ μ1 = updM (updM (updM μ p (pM M)) l (pM (unitsR k))) r (pM (unitsR w)) ∧ r ≠ p ∧ r ≠ l) (xm_lcN (unitsR w) pR pL (im_tup (em_call (ma_cons (em_var rfl) ma_nil) ⟨w, rfl, by omega, rfl⟩)) (by rw [len_unitsR]; omega) (fun x hx => ⟨_, _, by simp, tg_name, ed_cb (ea_cons (ed_var rfl) ea_nil) rc_lstT⟩) fun r hr => ⟨r, rfl, rfl, (fun e => by rw [e, updM_ne (Ne.symm hlp), updM_same] at hr; cases hr), (fun e => by rw [e, updM_same] at hr; cases hr)⟩) ?_
    rintro x μ1 ⟨r, rfl, rfl, hrp, hrl⟩
    refine xa_d em_int (xa_nil ⟨_, _, _, rfl, ?_⟩)
    have S0 : MuS k w (updM (updM (updM μ p (pM M)) l (pM (unitsR k))) r (pM (unitsR w))) p M l (unitsR k) r (unitsR w) :=
      ⟨by rw [updM_ne (Ne.symm hrp), updM_ne (Ne.symm hlp), updM_same], by rw [updM_ne (Ne.symm hrl), updM_same], updM_same, Ne.symm hlp, Ne.symm hrp, Ne.symm hrl, len_unitsR k, len_unitsR w, rows_units, rows_units⟩
    refine sm_seq (sm_while (fun m ε μ => ∃ a p N B C, m = w - a ∧ a ≤ w ∧ a ≤ k ∧ Dm k w N ∧ KE w M N ∧ Dg a N ∧ (a = 0 → ∀ i j, (ent N i j).natAbs ≤ 6) ∧ (a = 1 → w = 2 → ∀ i j, (ent N i j).natAbs ≤ 2 ^ 60) ∧ MuS k w μ p N l B r C ∧
      ε = [some (.d (pT M)), some (.m p), some (.d (.int k)), some (.d (.int w)), some (.m l), some (.m r), some (.d (.int a)), none, none, none]) (w - 0) ⟨0, p, M, _, _, rfl, Nat.zero_le _, Nat.zero_le _, d, .refl _ _, fun _ _ h => by omega, fun _ => hb, fun h => by omega, S0, rfl⟩ ?_)
    rintro m ε1 μ1 ⟨a, p, N, B, C, rfl, haw, hak, dN, ke, dg, b0, b1, S, rfl⟩
    have nzb : ∃ b : Bool, (b = true ↔ ∃ i j, a ≤ i ∧ a ≤ j ∧ ent N i j ≠ 0) := by
      by_cases h : ∃ i j, a ≤ i ∧ a ≤ j ∧ ent N i j ≠ 0
      · exact ⟨true, fun _ => h, fun _ => rfl⟩
      · exact ⟨false, (fun z => by cases z), fun z => absurd z h⟩
    obtain ⟨nz, hnz⟩ := nzb
    refine ⟨_, et_and (et_test (ed_op (ed_var rfl) (ed_var rfl) rd_B0)) fun _ => et_and (et_test (ed_op (ed_var rfl) (ed_var rfl) rd_B0)) fun _ => et_BW (b := nz) (pa := fun d => d = .bool nz) (ew_notN (pa := fun d => ∃ o, Scan N a N.length 0 o ∧ d = pSpot o) (ew_call (ea_cons (ed_var (d := .list (pM N)) (congrArg some (seen_m S.mp))) (ea_cons (ed_var rfl) ea_nil)) ⟨N, a, rfl, by rw [dN.h]; omega, fun x hx => by rw [dN.wd x hx]; omega, fun o sc => ⟨o, sc, rfl⟩⟩) ?_) fun d e => e, fun hbt => ?_, fun hbf => ?_⟩
    · rintro d ⟨o, sc, rfl⟩
      obtain ⟨e1, e2⟩ := scan_end sc
      cases o with
      | none =>
        have : nz = false := by
          cases nz with
          | false => rfl
          | true => obtain ⟨i, j, h1, h2, h3⟩ := hnz.mp rfl; exact absurd (e1 rfl i j h1 h2) h3
        rw [this]
        rfl
      | some q =>
        have sp := e2 q.1 q.2 rfl
        have : nz = true := hnz.mpr ⟨q.1, q.2, sp.ai, sp.aj, sp.nz⟩
        rw [this]
        rfl
    · have hbt : (decide ((a : Int) < (k : Int)) && (decide ((a : Int) < (w : Int)) && nz)) = true := hbt
      simp only [Bool.and_eq_true, decide_eq_true_eq] at hbt
      obtain ⟨h1, h2, h3⟩ := hbt
      have hak2 : a < k := by omega
      have haw2 : a < w := by omega
      have hli : ∃ m, LI k w a m N := by
        obtain ⟨i, j, g1, g2, g3⟩ := hnz.mp h3
        rcases hw with rfl | rfl
        · have : a = 0 := by omega
          subst this
          exact ⟨6, li_start1 dN hak2 (b0 rfl) ⟨i, j, g3⟩⟩
        · by_cases h0 : a = 0
          · subst h0
            exact ⟨13, li_start2 dN hak2 (b0 rfl) ⟨i, j, g3⟩⟩
          · have : a = 1 := by omega
            subst this
            exact li_next dN hak2 dg (b1 rfl rfl) ⟨i, j, g1, g2, g3⟩
      obtain ⟨m, L⟩ := hli
      refine sm_seq (sm_set (xm_call (xa_m rfl (xa_m rfl (xa_m rfl (xa_d (em_var rfl) (xa_nil ⟨p, l, r, N, B, C, k, w, a, m, rfl, S, by omega, hw2, L, fun q μ2 N' B' C' S' d' ke' dg' nz' bd' => ?_⟩)))))))
      have hN'l : a < N'.length := by rw [d'.h]; exact hak2
      have hB'l : a < B'.length := by rw [S'.hb]; exact hak2
      refine sm_seq (sm_ifB (et_test (ed_op (ed_op (ed_op (ed_var (d := .list (pM N')) (congrArg some (seen_m S'.mp))) (ed_var rfl) (rd_ix_l (atI_M hN'l))) (ed_var rfl) (rd_ix_l (at_int (by rw [d'.get hak2]; exact haw2)))) ed_int rd_B0)) (fun _ => ?_) fun _ => sm_next ?_)
      · refine sm_asg (xm_of (em_tup (ma_cons (em_lc (N'.getD a []) PyData.int (fun x => PyData.int (-x)) (im_list (em_item rfl S'.mp (ed_var rfl) (atI_M hN'l))) (by rw [d'.get hak2]; omega) fun x hx => ⟨_, _, by simp, tg_name, ed_un (ed_var rfl) ru_I⟩)
          (ma_cons (em_lc (B'.getD a []) PyData.int (fun x => PyData.int (-x)) (im_list (em_item rfl S'.ml (ed_var rfl) (atI_M hB'l))) (by have := S'.rb _ (getD_lt hB'l ▸ List.getElem_mem hB'l); omega) fun x hx => ⟨_, _, by simp, tg_name, ed_un (ed_var rfl) ru_I⟩) ma_nil)) (by simp)) ⟨_, rfl, tm_tup (tms_cons (p1 := fun ε1 μ1 => ε1 = [some (.d (pT M)), some (.m q), some (.d (.int k)), some (.d (.int w)), some (.m l), some (.m r), some (.d (.int a)), none, none, none] ∧ μ1 = updM μ2 q (pM (negR N' a))) (tm_sub rfl S'.mp (ed_var rfl) (ix_nat (n := (pM N').length) (by unfold pM; simpa using hN'l)) ⟨rfl, ?_⟩) ?_) rfl⟩)
        · congr 1
          unfold pM negR
          rw [List.map_set]
          congr 1
          unfold pL
          rw [List.map_map]
          rfl
        · rintro ε1 μ1 ⟨rfl, rfl⟩
          have S2 := S'.sp (M' := negR N' a)
          refine tms_cons (p1 := fun ε1 μ1 => ε1 = [some (.d (pT M)), some (.m q), some (.d (.int k)), some (.d (.int w)), some (.m l), some (.m r), some (.d (.int a)), none, none, none] ∧ μ1 = updM (updM μ2 q (pM (negR N' a))) l (pM (negR B' a))) (tm_sub rfl S2.ml (ed_var rfl) (ix_nat (n := (pM B').length) (by unfold pM; simpa using hB'l)) ⟨rfl, ?_⟩) ?_
          · congr 1
            unfold pM negR
            rw [List.map_set]
            congr 1
            unfold pL
            rw [List.map_map]
            rfl
          · rintro ε1 μ1 ⟨rfl, rfl⟩
            have S3 := S2.sl (B' := negR B' a) (by unfold negR; rw [List.length_set]; exact S'.hb) (fun x hx => by
              unfold negR at hx
              rcases List.mem_or_eq_of_mem_set hx with z | z
              · exact S'.rb x z
              · rw [z, List.length_map]; exact S'.rb _ (getD_lt hB'l ▸ List.getElem_mem hB'l))
            refine tms_nil (sm_aug rfl (xm_of em_int ⟨_, _, rfl, rd_I0, ?_⟩))
            refine ⟨w - (a + 1), by omega, a + 1, q, negR N' a, _, _, rfl, by omega, by omega, d'.neg hak2, (ke.trans ke').trans (ke_neg d' hak2), dg_neg d' hak2 dg', fun h => by omega, fun h1 h2 i j => ?_, S3, rfl⟩
            rw [ent_neg d' hak2]
            have := bd' (by omega) i j
            split <;> omega
      · refine sm_aug rfl (xm_of em_int ⟨_, _, rfl, rd_I0, ?_⟩)
        exact ⟨w - (a + 1), by omega, a + 1, q, N', _, _, rfl, by omega, by omega, d', ke.trans ke', dg', fun h => by omega, fun h1 h2 => bd' (by omega), S', rfl⟩
    · have hbf : (decide ((a : Int) < (k : Int)) && (decide ((a : Int) < (w : Int)) && nz)) = false := hbf
      have hz : ∀ i j, a ≤ i → a ≤ j → ent N i j = 0 := fun i j h1 h2 => by
        by_cases q1 : a < k
        · by_cases q2 : a < w
          · rw [decide_eq_true (by omega), decide_eq_true (by omega), Bool.true_and, Bool.true_and] at hbf
            by_cases q3 : ent N i j = 0
            · exact q3
            · have := hnz.mpr ⟨i, j, h1, h2, q3⟩
              rw [hbf] at this
              cases this
          · exact ent_wide dN (by omega)
        · exact ent_ge (by rw [dN.h]; omega)
      have hoff : ∀ i j, i ≠ j → ent N i j = 0 := fun i j hne => by
        by_cases q : i < a ∨ j < a
        · exact dg i j q hne
        · exact hz i j (by omega) (by omega)
      have fin := hp N B (colsM C w) a μ1 haw ke hoff fun i h => hz i i h h
      refine sm_ret (xm_of (em_tup (ma_cons (em_lf (ed_is (ed_call (ea_cons (ed_var (d := .list (pM B)) (congrArg some (seen_m S.ml))) ea_nil) ⟨.list (pM B), rfl, flat_pM (by rw [S.hb]; omega) (fun x hx => by rw [S.rb x hx]; omega), rfl⟩) (tupD_pM B)) (lf_pT B)) (ma_cons (em_lf (d := pR ((List.range a).map fun i => ent N i i)) ?_ (lf_pR _)) (ma_cons (em_lf (d := pT (colsM C w)) ?_ (lf_pT _)) ma_nil))) (by simp)) fin)
      · refine ed_is (ed_cb (ea_cons (ed_lc1 (List.range a) (fun i => PyData.int (i : Nat)) (fun i => PyData.int (ent N i i)) ?_ (by rw [List.length_range]; omega) fun i hi => ⟨_, _, by simp, tg_name, ?_⟩) ea_nil) rc_tupL) ?_
        · rw [← rgD_nat]
          exact id_range1 (n := (a : Int)) (ea_cons (ed_var rfl) ea_nil) (by omega) (by omega)
        · have hia := List.mem_range.mp hi
          refine ed_op (ed_op (ed_var (d := .list (pM N)) ?_) (ed_var rfl) (rd_ix_l (atI_M (by rw [dN.h]; omega)))) (ed_var rfl) (rd_ix_l (at_int (by rw [dN.get (by omega)]; omega)))
          exact congrArg some (seen_m S.mp)
        · unfold pR
          rw [List.map_map]
          rfl
      · refine ed_call (ea_cons (ed_var (d := .list (pM C)) (congrArg some (seen_m S.mr))) (ea_cons (ed_var rfl) ea_nil)) ⟨C, w, .inr rfl, by omega, by rw [S.hc]; omega, fun x hx => by rw [S.rc x hx]; exact Nat.le_refl _, rfl⟩
abbrev s_steps_of : Stmt := top 30
abbrev N_steps_of : List Str := ["table"]
theorem sc_steps_of : FnScope N_steps_of ["table"] (defScope s_steps_of) := ⟨rfl, rfl, rfl, by decide +kernel, rfl, by decide +kernel, by decide +kernel⟩
/-- rows of small numbers -/
structure SmM (k w : Nat) (M : List Mx.Row) : Prop where
  d : Dm k w M
  k6 : k ≤ 6
  w12 : w = 1 ∨ w = 2
  b : ∀ i j, (ent M i j).natAbs ≤ 6
def Steps (w : Nat) (M : List Mx.Row) (st : List Int) : Prop := st.length ≤ w ∧ ∀ s : Nat, 0 < s → (st.map fun d => Int.gcd d s).foldl (· * ·) 1 * s ^ (w - st.length) = cnt w s M
def R_steps_of (ds : List DD) (post : DD → Prop) : Prop := ∃ (M : List Mx.Row) (k w : Nat), ds = [pT M] ∧ SmM k w M ∧ 1 ≤ k ∧ ∀ st, Steps w M st → post (pR st)
theorem cal_steps_of (E : Bl mg) (c_diagonal : Cal P w K mg base 6 "diagonal" (spM T R_diagonal) []) (D : DefAt K mg "steps_of" s_steps_of) : Cal P w K mg base 7 "steps_of" (spD T R_steps_of) [] := by
  refine cal_d D sc_steps_of (fun _ _ _ _ _ _ us hl => match us, hl with | [_], _ => rfl) (fun ds post h => ?_) (fun f cdv A outer s H E0 hr ds post h => ?_)
  · obtain ⟨_, _, _, rfl, _⟩ := h
    rfl
  · obtain ⟨M, k, w, rfl, hM, hk, hp⟩ := h
    refine ⟨_, (pss_one (ps_ret (pe_ix (k_ix (K := K) rfl) (pe_c c_diagonal hr (by omega) (by rfl) (pa_cons (pv 0) pa_nil)) pe_int (fun _ _ => rfl)))), ?_⟩
    refine sw_ret (post := fun d => ∃ st, Steps w M st ∧ d = pR st) (ew_op (ew_callM (pm := fun r _ => ∃ st B C, Steps w M st ∧ r = .d (.tuple [B, pR st, C])) (post := fun d => ∃ st B C, Steps w M st ∧ d = .tuple [B, pR st, C]) (ea_cons (ed_var rfl) ea_nil) ⟨M, k, w, rfl, hM.d, hk, hM.k6, hM.w12, hM.b, fun N B C a μ2 ha ke h1 h2 => ?_⟩ ?_) ed_int ?_) ?_
    · refine ⟨_, _, _, ⟨by rw [List.length_map, List.length_range]; exact ha, fun s hs => ?_⟩, rfl⟩
      rw [List.length_map, List.length_range, List.map_map]
      exact cnt_end hs hM.w12 ke h1 h2 ha
    · rintro r μ2 ⟨st, B, C, h, rfl⟩
      exact ⟨_, rfl, st, B, C, h, rfl⟩
    · rintro d ⟨st, B, C, h, rfl⟩
      exact ⟨_, rd_ix_t (k := 1) rfl, st, h, rfl⟩
    · rintro d ⟨st, h, rfl⟩
      exact hp st h
abbrev s_silent_on : Stmt := top 37
abbrev N_silent_on : List Str := ["table", "long", "size", "found", "steps", "step", "_"]
theorem sc_silent_on : FnScope N_silent_on ["table", "long", "size"] (defScope s_silent_on) := ⟨rfl, rfl, rfl, by decide +kernel, rfl, by decide +kernel, by decide +kernel⟩
def R_silent_on (ds : List DD) (post : DD → Prop) : Prop := ∃ (M : List Mx.Row) (k w s : Nat), ds = [pT M, .int w, .int s] ∧ SmM k w M ∧ 1 ≤ s ∧ s ≤ 256 ∧ post (.int (cnt w s M))
theorem fold_le {s : Nat} (hs : 1 ≤ s) : ∀ (l : List Int) (x : Nat), (l.map fun d => Int.gcd d s).foldl (· * ·) x ≤ x * s ^ l.length
  | [], x => by simp
  | d :: l, x => by
    have h1 : Int.gcd d s ≤ s := Nat.le_of_dvd hs (by have := Int.gcd_dvd_right (a := d) (b := (s : Int)); exact Int.natCast_dvd_natCast.mp this)
    have h2 := fold_le hs l (x * Int.gcd d s)
    rw [List.map_cons, List.foldl_cons, List.length_cons, Nat.pow_succ]
    refine Nat.le_trans h2 ?_
    rw [Nat.mul_assoc]
    refine Nat.mul_le_mul_left _ ?_
    rw [Nat.mul_comm]
    exact Nat.mul_le_mul_left _ h1
theorem steps_nil {w s : Nat} (hs : 0 < s) (hw : w = 1 ∨ w = 2) : (([] : List Int).map fun d => Int.gcd d s).foldl (· * ·) 1 * s ^ (w - 0) = cnt w s [] := by
  have hz : ∀ i j, ent ([] : List Mx.Row) i j = 0 := fun i j => ent_ge (Nat.zero_le _)
  have := cnt_end (a := 0) hs hw (KE.refl w []) (fun i j _ => hz i j) (fun i _ => hz i i) (Nat.zero_le _)
  exact this
theorem cal_silent_on (E : Bl mg) (c_common_divisor : Cal P w K mg base 1 "common_divisor" (spD T R_common_divisor) []) (c_steps_of : Cal P w K mg base 7 "steps_of" (spD T R_steps_of) []) (D : DefAt K mg "silent_on" s_silent_on) : Cal P w K mg base 8 "silent_on" (spD T R_silent_on) [] := by
  refine cal_d D sc_silent_on (fun _ _ _ _ _ _ us hl => match us, hl with | [_, _, _], _ => rfl) (fun ds post h => ?_) (fun f cdv A outer s H E0 hr ds post h => ?_)
  · obtain ⟨_, _, _, _, rfl, _⟩ := h
    rfl
  · obtain ⟨M, k, w, s, rfl, hM, hs1, hs2, hp⟩ := h
    refine ⟨_, (pss_cons (ps_par (i := 3) (j := 4) rfl sc_silent_on.nd rfl rfl (by decide) rfl rfl (pa_cons pe_int (pa_cons (pe_ifExp (PW.pt (pw_and (pt_cmpR op_gt (pe_callB (k_len (K := K) rfl) (by rfl) E.len PySem.boot_len (pa_cons (pv 0) pa_nil)) pe_int (nomark _)) (pw_and1 (pt_cmpR op_gt (pv 1) pe_int (nomark _))))) (pe_c c_steps_of hr (by omega) (by rfl) (pa_cons (pv 0) pa_nil)) (pe_tup pa_nil)) pa_nil)) (by rfl)) (pss_cons (ps_for PassesOwn.never rfl (k_tup (K := K) rfl (pv 4)) (pg_name (i := 5) sc_silent_on.nd rfl (Or.inl rfl) (Or.inl rfl)) (pss_one (ps_aug (i := 3) sc_silent_on.nd rfl (Or.inl rfl) (pe_c c_common_divisor hr (by omega) (by rfl) (pa_cons (pv 5) (pa_cons (pv 2) pa_nil))) iop_mulB))) (pss_cons (ps_for PassesOwn.never rfl (pi_range1 (by rfl) E.range (pa_cons (pe_op op_sub (pv 1) (pe_callB (k_len (K := K) rfl) (by rfl) E.len PySem.boot_len (pa_cons (pv 4) pa_nil))) pa_nil)) (pg_name (i := 6) sc_silent_on.nd rfl (Or.inl rfl) (Or.inl rfl)) (pss_one (ps_aug (i := 3) sc_silent_on.nd rfl (Or.inl rfl) (pv 2) iop_mulB))) (pss_one (ps_ret (pv 3)))))), ?_⟩
    have hw1 : 1 ≤ w := by have := hM.w12; omega
    have hw2 : w ≤ 2 := by have := hM.w12; omega
    have hlen := hM.d.h
    have hk6 := hM.k6
    refine sd_seq (sw_par (post := fun d => ∃ st, Steps w M st ∧ d = pR st) ed_int ?_ ?_)
    · by_cases h0 : M = []
      · subst h0
        refine ew_ifT (b := false) (et_is (et_and (a := false) (b := false) (et_is (et_test (ed_op (ed_cb (ea_cons (ed_var rfl) ea_nil) rc_lenT) ed_int rd_B0)) rfl) fun e => by cases e) rfl) (fun e => by cases e) fun _ => (ed_tup ea_nil (by decide)).ew.imp ?_
        rintro d rfl
        exact ⟨[], ⟨Nat.zero_le _, fun s hs => steps_nil hs hM.w12⟩, rfl⟩
      · have hl : 0 < M.length := List.length_pos_iff.mpr h0
        refine ew_ifT (b := true) (et_is (et_and (a := true) (b := true) (et_is (et_test (ed_op (ed_cb (ea_cons (ed_var rfl) ea_nil) rc_lenT) ed_int rd_B0)) ?_) fun e => et_is (et_test (ed_op (ed_var rfl) ed_int rd_B0)) ?_) rfl) (fun _ => ew_call (ea_cons (ed_var rfl) ea_nil) ⟨M, k, w, rfl, hM, by omega, fun st h => ⟨st, h, rfl⟩⟩) fun e => by cases e
        · rw [List.length_map]; exact decide_eq_true (by omega)
        · exact decide_eq_true (by omega)
    rintro e ⟨st, ⟨hst, hcnt⟩, rfl⟩
    have big : ∀ (l : List Int), l.length ≤ w → (((l.map fun d => Int.gcd d s).foldl (· * ·) 1 : Nat) : Int).natAbs ≤ 65536 := fun l hl => by
      have h1 := fold_le hs1 l 1
      have h2 : s ^ l.length ≤ 256 ^ 2 := Nat.le_trans (Nat.pow_le_pow_left hs2 _) (Nat.pow_le_pow_right (by decide) (by omega))
      omega
    refine sd_seq (sd_for st PyData.int (id_tup (ed_var rfl)) (fun i δ => ∃ a5, δ = [some (pT M), some (.int w), some (.int s), some (.int (((st.take i).map fun d => Int.gcd d s).foldl (· * ·) 1 : Nat)), some (pR st), a5, none]) ⟨none, rfl⟩ ?_ ?_)
    · rintro i d δ1 hx ⟨a5, rfl⟩
      refine ⟨_, _, tg_name, ?_⟩
      have e : st.take (i + 1) = st.take i ++ [d] := by rw [List.take_add_one, hx]; rfl
      refine sd_aug rfl (ed_call (ea_cons (ed_var rfl) (ea_cons (ed_var rfl) ea_nil)) ⟨d, s, rfl, rfl⟩) (rd_I (mul_small ?_)) ⟨some (.int d), ?_⟩
      · have := big (st.take i) (by rw [List.length_take]; omega)
        omega
      · rw [e, List.map_append, List.foldl_append]
        simp
    · rintro δ1 ⟨a5, rfl⟩
      rw [List.take_length]
      generalize hF : (st.map fun d => Int.gcd d s).foldl (· * ·) 1 = F at *
      have hFb : F ≤ 65536 := by have := big st hst; rw [hF] at this; omega
      refine sd_seq (sd_for (List.range (w - st.length)) (fun i => PyData.int (i : Nat)) ?_ (fun i δ => ∃ a5 a6, δ = [some (pT M), some (.int w), some (.int s), some (.int ((F * s ^ i : Nat) : Int)), some (pR st), a5, a6]) ⟨a5, none, by rw [Nat.pow_zero, Nat.mul_one]⟩ ?_ ?_)
      · rw [← rgD_nat]
        have e : (w - st.length : Nat) = (((w : Int) - ((st.map PyData.int).length : Int))).toNat := by rw [List.length_map]; omega
        rw [e]
        exact id_range1 (ea_cons (ed_op (ed_var rfl) (ed_cb (ea_cons (ed_var rfl) ea_nil) rc_lenT) rd_I0) ea_nil) (by rw [List.length_map]; omega) (by rw [List.length_map]; omega)
      · rintro i d δ1 hx ⟨a5, a6, rfl⟩
        obtain ⟨hi, hxi⟩ := List.getElem?_eq_some_iff.mp hx
        rw [List.length_range] at hi
        refine ⟨_, _, tg_name, ?_⟩
        refine sd_aug rfl (ed_var rfl) (rd_I (mul_small ?_)) ⟨a5, some (.int d), ?_⟩
        · have h2 : s ^ i ≤ 256 ^ 2 := Nat.le_trans (Nat.pow_le_pow_left hs2 _) (Nat.pow_le_pow_right (by decide) (by omega))
          have := Nat.mul_le_mul hFb h2
          show (F * s ^ i) < 2 ^ 64
          omega
        · rw [Nat.pow_succ, ← Nat.mul_assoc]
          simp
      · rintro δ1 ⟨a5, a6, rfl⟩
        have hc := hcnt s hs1
        rw [hF] at hc
        rw [List.length_range, hc]
        exact sd_ret (ed_var rfl) hp
end
end Sh
-- Sd8
set_option maxRecDepth 100000
set_option maxHeartbeats 4000000
/-! lots_of, ways_on, least_size -/
namespace Sh
open PySem PySem.Spec PyProof.Rows L2 RZ
open C8 (Cal pe_c)
open Mx
theorem k_star {X : Cx} {K : PySem.W.Frag} {e : Expr} {es : List Expr} {te : TE} {t : TA} {p : Pos} (hK : X.K = K) (he : PE X e te) (hr : PA X es t) (hs : starEach (.Starred e p :: es) X.env = (true, eval e X.env) :: starEach es X.env := by rfl) : PA X (.Starred e p :: es) (StX.tStar K te t) := by subst hK; exact StX.pa_star he hr hs
theorem ea_star {T : Tb} {δ : Dl} {te : TE} {ta : TA} {K : PySem.W.Frag} {ds es : List DD} (h : ED T te δ (.tuple ds)) (hr : EA T ta δ es) : EA T (StX.tStar K te ta) δ (ds ++ es) := fun σ G H o Q q =>
  h σ G H o _ fun v G1 H1 s1 d1 => by
    cases d1 with
    | @tup p xs _ hp hd =>
      exact ⟨p, xs, rfl, .inl (SqT.of (s1.gh _ _ hp)), hr σ G1 H1 (o.step s1) _ fun vs G2 H2 s2 d2 => q _ G2 H2 (s1.trans s2) (dqa_app (dqa_mono s2.gg _ _ hd) d2)⟩
/-- a def that hands a list of its own back -/
theorem ew_callP {T : Tb} {δ : Dl} {ta : TA} {ds : List DD} {R : List MD → Mu → (MD → Mu → Prop) → Prop} {pm : MD → Mu → Prop} {post : DD → Prop} {E : XK} (h : EA T ta δ ds) (hr : R (ds.map MD.d) (fun _ => none) pm) (hp : ∀ r μ2, pm r μ2 → ∃ a es, r = .m a ∧ μ2 a = some es ∧ post (.list es)) :
    EW T (tCall (spM T R) [] E ta) δ post := fun σ G H o Q q =>
  h σ G H o _ fun vs G1 H1 s1 d1 => by
    have hp2 : ∀ {vs : List V} {ds : List DD}, DqAll G1 vs ds → Paired (VM G1) vs (ds.map MD.d) := by
      intro vs ds
      induction ds generalizing vs with
      | nil => intro h; cases h; exact .nil
      | cons d ds ih =>
        intro h
        cases h with
        | cons h t => exact .cons h (ih t)
    refine ⟨G1, _, fun _ => none, pm, s1.gh, s1.tt o.t, (o.step s1).nt, ⟨fun a ds e => by cases e⟩, by rw [List.append_nil]; exact hp2 d1, hr, fun r v μ2 G2 H2 hr2 s2 d2 => ?_⟩
    obtain ⟨a, es, rfl, hm, hd⟩ := hp r μ2 hr2
    cases d2
    obtain ⟨g2, ws, k1, k2⟩ := s2.mu.at_ a es hm
    have hH : H1 a = none := s2.new a (by rw [hm]; intro z; cases z) rfl
    have st : Step T G1 H1 G2 H2 := ⟨s2.gg, s2.gh, fun b o e n => s2.hh b o rfl e n, s2.nn, s2.fr, s2.tt, s2.nt⟩
    exact q (.list es) _ _ _ hd (s1.trans (st.freeze k1 g2 hH)) (.lst upd_same (dqa_mono (fun b u e => by rw [upd_ne (ne_of_none e g2)]; exact e) _ _ k2))
def lotsR (S : Sgt) : List (Sgt × Int) := S.foldl (fun f t => f ++ f.map fun p => (p.1 ++ [t], -p.2)) [([], 1)]
def pG (p : Mx.Row × Int) : DD := .tuple [pR p.1, .int p.2]
theorem pS_eq (S : Sgt) : pS S = .tuple (S.map pG) := rfl
def pLot (p : Sgt × Int) : DD := .tuple [pS p.1, .int p.2]
theorem lf_pS (S : Sgt) : LF (pS S) = true := by
  unfold pS
  rw [LF]
  induction S with
  | nil => rfl
  | cons p S ih =>
    rw [List.map_cons, LFA, ih]
    simp only [LF, LFA, lf_pR, Bool.and_self]
theorem tupD_pS (S : Sgt) : tupD (pS S) = pS S := by
  unfold pS
  rw [tupD, tupAll_map, List.map_map]
  refine congrArg PyData.tuple ?_
  refine List.map_congr_left fun p _ => ?_
  show tupD (.tuple [pR p.1, .int p.2]) = _
  rw [tupD, tupAll, tupAll, tupAll, tupD_pR, tupD]
theorem flat_pS {S : Sgt} (h : S.length ≤ 1000) (h2 : ∀ p ∈ S, p.1.length ≤ 1000) : Flat 3 (pS S) := by
  refine ⟨by simpa using h, fun x hx => ?_⟩
  obtain ⟨p, hp, rfl⟩ := List.mem_map.mp hx
  refine ⟨by simp, fun x hx => ?_⟩
  simp only [List.mem_cons, List.not_mem_nil, or_false] at hx
  rcases hx with rfl | rfl
  · exact flat_pR (h2 p hp)
  · trivial
theorem isS_pS {S : Sgt} (h : S.length ≤ 1000) (h2 : ∀ p ∈ S, p.1.length ≤ 1000) : IsS (pS S) S := ⟨flat_pS h h2, tupD_pS S⟩
section
variable {P : Program} {w : World} {K : PySem.W.Frag} {mg : Str → Option Value} {base : Heap} {T : Tb}
abbrev s_lots_of : Stmt := top 38
abbrev N_lots_of : List Str := ["things", "found", "thing", "lot", "sign"]
theorem sc_lots_of : FnScope N_lots_of ["things"] (defScope s_lots_of) := ⟨rfl, rfl, rfl, by decide +kernel, rfl, by decide +kernel, by decide +kernel⟩
def R_lots_of (rs : List MD) (μ : Mu) (post : MD → Mu → Prop) : Prop := ∃ S : Sgt, rs = [.d (pS S)] ∧ S.length ≤ 8 ∧ ∀ p μ2, μ2 p = some ((lotsR S).map pLot) → post (.m p) μ2
theorem lots_len (S : Sgt) : ∀ f : List (Sgt × Int), (S.foldl (fun f t => f ++ f.map fun p => (p.1 ++ [t], -p.2)) f).length = f.length * 2 ^ S.length := by
  induction S with
  | nil => intro f; simp
  | cons t S ih =>
    intro f
    rw [List.foldl_cons, ih, List.length_append, List.length_map, List.length_cons, Nat.pow_succ, Nat.mul_comm (2 ^ S.length), ← Nat.mul_assoc]
    congr 1
    omega
theorem lots_sz : ∀ (S : Sgt) (f : List (Sgt × Int)) (n : Nat), (∀ p ∈ f, p.1.length ≤ n) → ∀ p ∈ S.foldl (fun f t => f ++ f.map fun p => (p.1 ++ [t], -p.2)) f, p.1.length ≤ n + S.length
  | [], f, n, h, p, hp => h p hp
  | t :: S, f, n, h, p, hp => by
    have := lots_sz S (f ++ f.map fun p => (p.1 ++ [t], -p.2)) (n + 1) (fun p hp => by
      rcases List.mem_append.mp hp with q | q
      · have := h p q; omega
      · obtain ⟨x, hx, rfl⟩ := List.mem_map.mp q
        have := h x hx
        simp
        exact this) p hp
    rw [List.length_cons]
    omega
theorem cal_lots_of (E : Bl mg) (D : DefAt K mg "lots_of" s_lots_of) : Cal P w K mg base 1 "lots_of" (spM T R_lots_of) [] := by
  refine cal_m D sc_lots_of (fun _ _ _ _ _ _ us hl => match us, hl with | [_], _ => rfl) (fun rs μ post h => ?_) (fun f cdv A outer s H E0 hr rs μ post h => ?_)
  · obtain ⟨_, rfl, _⟩ := h
    rfl
  · obtain ⟨S, rfl, hS, hp⟩ := h
    refine ⟨_, (pss_cons (ps_set (i := 1) sc_lots_of.nd rfl (Or.inl rfl) (pe_lst (pa_cons (pe_tup (pa_cons (pe_tup pa_nil) (pa_cons pe_int pa_nil))) pa_nil))) (pss_cons (ps_for PassesOwn.never rfl (k_tup (K := K) rfl (pv 0)) (pg_name (i := 2) sc_lots_of.nd rfl (Or.inr rfl) (Or.inl rfl)) (pss_one (ps_expr (pe_bm PySem.F.plainAttrs_list PySem.F.slot_list_extend PySem.F.type_list_extend mt_extend (pv 1) (pa_cons (pe_lc (own := [("lot", 3), ("sign", 4)]) rfl sc_lots_of.nd (k_list (K := K) rfl (pv 1)) (blkOk_by (own := [("lot", 3), ("sign", 4)]) (N := N_lots_of) (sc := (defScope s_lots_of)) (by decide +kernel)) (fun _ _ _ _ _ => (k_gtup (K := K) (n := 2) rfl rfl (pgs_cons (pg_name (i := 3) sc_lots_of.nd rfl (Or.inl rfl) (Or.inr rfl)) (pgs_cons (pg_name (i := 4) sc_lots_of.nd rfl (Or.inl rfl) (Or.inr rfl)) pgs_nil)))) (fun _ _ _ _ _ => pts_nil) (fun _ _ _ _ _ => (pe_tup (pa_cons (pe_tup (k_star (K := K) rfl (pv 3) (pa_cons (pv 2) pa_nil))) (pa_cons (pe_un un_neg (pv 4)) pa_nil))))) pa_nil))))) (pss_one (ps_ret (pv 1))))), ?_⟩
    refine sm_seq (sm_set (xm_new (ds := [pLot ([], 1)]) (nl_lst (ea_cons (ed_tup (ea_cons (ed_tup ea_nil (by decide)) (ea_cons ed_int ea_nil)) (by simp)) ea_nil) (by simp)) rfl fun p hpn => ?_))
    have tk : ∀ i, i ≤ S.length → ((lotsR (S.take i)).length ≤ 256 ∧ ∀ q ∈ lotsR (S.take i), q.1.length ≤ 8) := fun i hi => by
      have e := lots_len (S.take i) [([], 1)]
      rw [List.length_take, Nat.min_eq_left hi] at e
      refine ⟨?_, fun q hq => ?_⟩
      · unfold lotsR
        rw [e]
        have : 2 ^ i ≤ 2 ^ 8 := Nat.pow_le_pow_right (by decide) (by omega)
        simp
        exact this
      · have := lots_sz (S.take i) [([], 1)] 0 (fun p hp => by rw [List.mem_singleton.mp hp]; exact Nat.le_refl _) q hq
        rw [List.length_take] at this
        omega
    refine sm_seq (sm_for pG (fun ys μ1 => ys = S ∧ μ1 = updM μ p [pLot ([], 1)]) (for_data (id_tup (ed_var rfl))) ?_)
    rintro xs μ1 ⟨rfl, rfl⟩
    refine ⟨fun i ε μ1 => ∃ a2, μ1 = updM μ p ((lotsR (xs.take i)).map pLot) ∧ ε = [some (.d (pS xs)), some (.m p), a2, none, none], ⟨none, rfl, rfl⟩, ?_, ?_⟩
    · rintro i t ε1 μ2 hx ⟨a2, rfl, rfl⟩
      obtain ⟨hi, _⟩ := List.getElem?_eq_some_iff.mp hx
      obtain ⟨t1, t2⟩ := tk i (by omega)
      refine tm_name ?_
      refine sm_drop (xm_extend (es := ((lotsR (xs.take i)).map fun q => pLot (q.1 ++ [t], -q.2))) rfl updM_same (em_new (nl_lc1 (lotsR (xs.take i)) pLot (fun q => pLot (q.1 ++ [t], -q.2)) (id_list (ed_var ?_)) (by omega) fun q hq => ⟨_, _, by simp, tg_pair, ?_⟩) ?_) (by simp; omega) ⟨_, ?_, rfl⟩)
      · exact congrArg some (seen_m updM_same)
      · refine ed_tup (ea_cons (ed_is (ed_tup (ea_star (ed_var (d := .tuple (q.1.map pG)) rfl) (ea_cons (ed_var rfl) ea_nil)) ?_) ?_) (ea_cons (ed_un (ed_var rfl) ru_I) ea_nil)) (by simp)
        · have := t2 q hq
          simp
          omega
        · show PyData.tuple (q.1.map pG ++ [pG t]) = .tuple ((q.1 ++ [t]).map pG)
          rw [List.map_append]
          rfl
      · generalize lotsR (xs.take i) = L
        induction L with
        | nil => rfl
        | cons q L ih =>
          rw [List.map_cons, LFA, ih]
          unfold pLot
          simp only [LF, LFA, lf_pS, Bool.and_self]
      · rw [updM_upd]
        have e : xs.take (i + 1) = xs.take i ++ [t] := by rw [List.take_add_one, hx]; rfl
        congr 1
        rw [e]
        unfold lotsR
        rw [List.foldl_append, List.foldl_cons, List.foldl_nil, List.map_append, List.map_map]
        rfl
    · rintro ε1 μ2 ⟨a2, rfl, rfl⟩
      rw [List.take_length]
      exact sm_ret (xm_ptr rfl (hp p _ updM_same))
/-! ### ways_on -/
noncomputable def fitsB (n : Nat) (S : Sgt) (size : Int) : Bool := @decide (Fits n S size) (Classical.propDecidable _)
theorem fitsB_iff {n : Nat} {S : Sgt} {size : Int} : fitsB n S size = true ↔ Fits n S size := by unfold fitsB; exact @decide_eq_true_iff _ (Classical.propDecidable _)
/-- what one choice of denials adds -/
noncomputable def part (n : Nat) (S : Sgt) (s : Nat) (p : Sgt × Int) : Int := if fitsB n (S ++ p.1) s then p.2 * (cnt n s (rowsS (S ++ p.1)) : Int) else 0
noncomputable def waysI (n : Nat) (S N : Sgt) (s : Nat) : Int := ((lotsR N).map (part n S s)).sum
/-- sights of small numbers -/
structure Small (n : Nat) (S : Sgt) : Prop where
  wd : ∀ p ∈ S, p.1.length = n
  bd : ∀ p ∈ S, ∀ x ∈ p.1, x.natAbs ≤ 6
  bh : ∀ p ∈ S, p.2.natAbs ≤ 2 ^ 8
theorem Small.ok {n : Nat} {S : Sgt} {s : Nat} (h : Small n S) (n1 : 1 ≤ n) (n2 : n ≤ 2) (l : S.length ≤ 4) (s1 : 1 ≤ s) (s2 : s ≤ 256) : SgOk n s S :=
  ⟨n1, n2, l, h.wd, fun p hp x hx => Nat.le_trans (h.bd p hp x hx) (by decide), h.bh, by omega, by omega⟩
theorem Small.sm {n : Nat} {S : Sgt} (h : Small n S) (n1 : 1 ≤ n) (n2 : n ≤ 2) (l : S.length ≤ 4) : SmM S.length n (rowsS S) := by
  refine ⟨⟨by unfold rowsS; simp, fun r hr => ?_⟩, by omega, by omega, fun i j => ?_⟩
  · unfold rowsS at hr
    obtain ⟨p, hp, rfl⟩ := List.mem_map.mp hr
    exact h.wd p hp
  · unfold ent
    refine natAbs_le_of_at (fun x hx => ?_) j
    by_cases hi : i < (rowsS S).length
    · rw [getD_lt hi] at hx
      have hm := List.getElem_mem hi
      unfold rowsS at hm
      obtain ⟨p, hp, e⟩ := List.mem_map.mp hm
      have hx : x ∈ (rowsS S)[i] := hx
      unfold rowsS at hx
      rw [← e] at hx
      exact h.bd p hp x hx
    · rw [getD_ge (by omega)] at hx
      simp at hx
theorem lots_mem : ∀ (N : Sgt) (f : List (Sgt × Int)) (P : Mx.Row × Int → Prop), (∀ p ∈ f, (∀ q ∈ p.1, P q) ∧ p.2.natAbs = 1) → (∀ t ∈ N, P t) → ∀ p ∈ N.foldl (fun f t => f ++ f.map fun p => (p.1 ++ [t], -p.2)) f, (∀ q ∈ p.1, P q) ∧ p.2.natAbs = 1
  | [], f, P, h, _, p, hp => h p hp
  | t :: N, f, P, h, hN, p, hp => by
    refine lots_mem N (f ++ f.map fun p => (p.1 ++ [t], -p.2)) P (fun p hp => ?_) (fun t ht => hN t (List.mem_cons_of_mem _ ht)) p hp
    rcases List.mem_append.mp hp with q | q
    · exact h p q
    · obtain ⟨x, hx, rfl⟩ := List.mem_map.mp q
      obtain ⟨h1, h2⟩ := h x hx
      refine ⟨fun q hq => ?_, ?_⟩
      · rcases List.mem_append.mp hq with z | z
        · exact h1 q z
        · rw [List.mem_singleton.mp z]
          exact hN t (List.mem_cons_self ..)
      · show (-x.2).natAbs = 1
        rw [Int.natAbs_neg]
        exact h2
theorem Small.app {n : Nat} {S N : Sgt} (h : Small n S) (k : Small n N) : Small n (S ++ N) := by
  refine ⟨fun p hp => ?_, fun p hp => ?_, fun p hp => ?_⟩ <;> rcases List.mem_append.mp hp with q | q
  · exact h.wd p q
  · exact k.wd p q
  · exact h.bd p q
  · exact k.bd p q
  · exact h.bh p q
  · exact k.bh p q
theorem Small.lot {n : Nat} {N : Sgt} (h : Small n N) {p : Sgt × Int} (hp : p ∈ lotsR N) : Small n p.1 ∧ p.1.length ≤ N.length ∧ p.2.natAbs = 1 := by
  have h1 := lots_mem N [([], 1)] (fun q => q.1.length = n ∧ (∀ x ∈ q.1, x.natAbs ≤ 6) ∧ q.2.natAbs ≤ 2 ^ 8) (fun p hp => by rw [List.mem_singleton.mp hp]; exact ⟨fun q hq => by simp at hq, rfl⟩) (fun t ht => ⟨h.wd t ht, h.bd t ht, h.bh t ht⟩) p hp
  have h2 := lots_sz N [([], 1)] 0 (fun p hp => by rw [List.mem_singleton.mp hp]; exact Nat.le_refl _) p hp
  exact ⟨⟨fun q hq => (h1.1 q hq).1, fun q hq => (h1.1 q hq).2.1, fun q hq => (h1.1 q hq).2.2⟩, by omega, h1.2⟩
abbrev s_ways_on : Stmt := top 39
abbrev N_ways_on : List Str := ["n", "sights", "nots", "size", "own", "total", "lot", "sign"]
theorem sc_ways_on : FnScope N_ways_on ["n", "sights", "nots", "size"] (defScope s_ways_on) := ⟨rfl, rfl, rfl, by decide +kernel, rfl, by decide +kernel, by decide +kernel⟩
def R_ways_on (ds : List DD) (post : DD → Prop) : Prop := ∃ (n s : Nat) (d dn : DD) (S N : Sgt), ds = [.int n, d, dn, .int s] ∧ IsS d S ∧ IsS dn N ∧ Small n S ∧ Small n N ∧ 1 ≤ n ∧ n ≤ 2 ∧ S.length + N.length ≤ 4 ∧ 1 ≤ s ∧ s ≤ 256 ∧ post (.int (waysI n S N s))
theorem cal_ways_on (E : Bl mg) (c_tupled : Cal P w K mg base 5 "tupled" (spD T (R_tupled 3)) []) (c_lots_of : Cal P w K mg base 1 "lots_of" (spM T R_lots_of) []) (c_fits_size : Cal P w K mg base 8 "fits_size" (spD T R_fits_size) [])
    (c_silent_on : Cal P w K mg base 8 "silent_on" (spD T R_silent_on) []) (c_halves_of : Cal P w K mg base 6 "halves_of" (spD T R_halves_of) []) (D : DefAt K mg "ways_on" s_ways_on) : Cal P w K mg base 9 "ways_on" (spD T R_ways_on) [] := by
  refine cal_d D sc_ways_on (fun _ _ _ _ _ _ us hl => match us, hl with | [_, _, _, _], _ => rfl) (fun ds post h => ?_) (fun f cdv A outer s H E0 hr ds post h => ?_)
  · obtain ⟨_, _, _, _, _, _, rfl, _⟩ := h
    rfl
  · obtain ⟨n, s, d, dn, S, N, rfl, hS, hN, sS, sN, n1, n2, hl, s1, s2, hp⟩ := h
    refine ⟨_, (pss_cons (ps_par (i := 4) (j := 5) rfl sc_ways_on.nd rfl rfl (by decide) rfl rfl (pa_cons (pe_c c_tupled hr (by omega) (by rfl) (pa_cons (pv 1) pa_nil)) (pa_cons pe_int pa_nil)) (by rfl)) (pss_cons (ps_for PassesOwn.never rfl (k_list (K := K) rfl (pe_c c_lots_of hr (by omega) (by rfl) (pa_cons (pe_c c_tupled hr (by omega) (by rfl) (pa_cons (pv 2) pa_nil)) pa_nil))) (k_gtup (K := K) (n := 2) rfl rfl (pgs_cons (pg_name (i := 6) sc_ways_on.nd rfl (Or.inl rfl) (Or.inl rfl)) (pgs_cons (pg_name (i := 7) sc_ways_on.nd rfl (Or.inl rfl) (Or.inl rfl)) pgs_nil))) (pss_one (ps_if (pt_val (pe_c c_fits_size hr (by omega) (by rfl) (pa_cons (pv 0) (pa_cons (pe_op (k_catT (K := K) rfl) (pv 4) (pv 6)) (pa_cons (pv 3) pa_nil))))) (pss_one (ps_aug (i := 5) sc_ways_on.nd rfl (Or.inl rfl) (pe_op op_mulB (pv 7) (pe_c c_silent_on hr (by omega) (by rfl) (pa_cons (pe_ix (k_ix (K := K) rfl) (pe_c c_halves_of hr (by omega) (by rfl) (pa_cons (pe_op (k_catT (K := K) rfl) (pv 4) (pv 6)) pa_nil)) pe_int (fun _ _ => rfl)) (pa_cons (pv 0) (pa_cons (pv 3) pa_nil))))) ip_add)) pss_nil))) (pss_one (ps_ret (pv 5))))), ?_⟩
    refine sd_seq (sd_par (d := pS S) (ea_cons (ed_call (ea_cons (ed_var rfl) ea_nil) ⟨d, rfl, hS.1, hS.2⟩) (ea_cons ed_int ea_nil)) ?_)
    refine sd_seq (sw_for pLot (fun xs => xs = lotsR N) (iw_list (pa := fun d => d = .list ((lotsR N).map pLot)) ?_ ?_) ?_)
    · refine ew_callP (pm := fun r μ2 => ∃ p, r = .m p ∧ μ2 p = some ((lotsR N).map pLot)) (ea_cons (ed_call (ea_cons (ed_var rfl) ea_nil) ⟨dn, rfl, hN.1, hN.2⟩) ea_nil) ⟨N, rfl, by omega, fun p μ2 h => ⟨p, rfl, h⟩⟩ ?_
      rintro r μ2 ⟨p, rfl, h⟩
      exact ⟨p, _, rfl, h, rfl⟩
    · rintro d rfl
      exact ⟨_, rfl, _, rfl, rfl⟩
    · rintro xs rfl
      refine ⟨fun i δ => ∃ a6 a7, δ = [some (.int n), some d, some dn, some (.int s), some (pS S), some (.int (((lotsR N).take i).map (part n S s)).sum), a6, a7], ⟨none, none, rfl⟩, ?_, ?_⟩
      · rintro i p δ1 hx ⟨a6, a7, rfl⟩
        have hm := List.mem_of_getElem? hx
        obtain ⟨sp, hpl, hp1⟩ := sN.lot hm
        have e : (lotsR N).take (i + 1) = (lotsR N).take i ++ [p] := by rw [List.take_add_one, hx]; rfl
        have sm := sS.app sp
        have hl4 : (S ++ p.1).length ≤ 4 := by rw [List.length_append]; omega
        have cat : ∀ {δ : Dl}, δ[4]? = some (some (pS S)) → δ[6]? = some (some (pS p.1)) → ED T (tOp (rCatA K) (tVar 4) (tVar 6)) δ (pS (S ++ p.1)) := fun h4 h6 => ed_is (ed_op (ed_var h4) (ed_var h6) (rd_catT (by simp; omega))) (by unfold pS; rw [List.map_append])
        have iss : IsS (pS (S ++ p.1)) (S ++ p.1) := isS_pS (by omega) fun q hq => by rw [sm.wd q hq]; omega
        refine ⟨_, _, tg_pair, ?_⟩
        refine sd_if (b := fitsB n (S ++ p.1) s) (et_testW (ew_call (ea_cons (ed_var rfl) (ea_cons (cat rfl rfl) (ea_cons (ed_var rfl) ea_nil))) (post := fun d => d = .bool (fitsB n (S ++ p.1) s)) ?_) fun d e => e) (fun hb => ?_) fun hb => sd_next ⟨some (pS p.1), some (.int p.2), ?_⟩
        · exact ⟨n, _, _, s, rfl, iss, sm.ok n1 n2 hl4 s1 s2, fun b hb => by rw [bool_eq (hb.trans fitsB_iff.symm)]⟩
        · refine sd_aug rfl (ed_op (ed_var rfl) (ed_call (ea_cons (ed_op (ed_call (ea_cons (cat rfl rfl) ea_nil) ⟨_, _, rfl, iss, by omega, rfl⟩) ed_int (rd_ix_t at0)) (ea_cons (ed_var rfl) (ea_cons (ed_var rfl) ea_nil))) ⟨rowsS (S ++ p.1), _, n, s, rfl, sm.sm n1 n2 hl4, s1, s2, rfl⟩) (rd_I (mul_small (by omega)))) rd_I0 ⟨some (pS p.1), some (.int p.2), ?_⟩
          rw [e, List.map_append, List.sum_append]
          show _ = [_, _, _, _, _, some (PyData.int (_ + (part n S s p + 0))), _, _]
          unfold part
          rw [if_pos hb, Int.add_zero]
          rfl
        · rw [e, List.map_append, List.sum_append]
          have : part n S s p = 0 := by unfold part; rw [hb]; rfl
          simp [this]
      · rintro δ1 ⟨a6, a7, rfl⟩
        rw [List.take_length]
        exact sd_ret (ed_var rfl) hp
abbrev s_least_size : Stmt := top 40
abbrev N_least_size : List Str := ["n", "sights", "nots", "most", "size"]
theorem sc_least_size : FnScope N_least_size ["n", "sights", "nots", "most"] (defScope s_least_size) := ⟨rfl, rfl, rfl, by decide +kernel, rfl, by decide +kernel, by decide +kernel⟩
def R_least_size (ds : List DD) (post : DD → Prop) : Prop := ∃ (n most : Nat) (d dn : DD) (S N : Sgt), ds = [.int n, d, dn, .int most] ∧ IsS d S ∧ IsS dn N ∧ Small n S ∧ Small n N ∧ 1 ≤ n ∧ n ≤ 2 ∧ S.length + N.length ≤ 4 ∧ most ≤ 256 ∧
  (∀ s : Nat, 1 ≤ s → s ≤ most → 0 < waysI n S N s → (∀ t : Nat, 1 ≤ t → t < s → ¬ 0 < waysI n S N t) → post (.int s)) ∧ ((∀ t : Nat, 1 ≤ t → t ≤ most → ¬ 0 < waysI n S N t) → post .none)
theorem cal_least_size (E : Bl mg) (c_ways_on : Cal P w K mg base 9 "ways_on" (spD T R_ways_on) []) (D : DefAt K mg "least_size" s_least_size) : Cal P w K mg base 10 "least_size" (spD T R_least_size) [] := by
  refine cal_d D sc_least_size (fun _ _ _ _ _ _ us hl => match us, hl with | [_, _, _, _], _ => rfl) (fun ds post h => ?_) (fun f cdv A outer s H E0 hr ds post h => ?_)
  · obtain ⟨_, _, _, _, _, _, rfl, _⟩ := h
    rfl
  · obtain ⟨n, most, d, dn, S, N, rfl, hS, hN, sS, sN, n1, n2, hl, hm, hp1, hp2⟩ := h
    refine ⟨_, (pss_cons (ps_for PassesOwn.never rfl (pi_range2 (by rfl) E.range (pa_cons pe_int (pa_cons (pe_op op_add (pv 3) pe_int) pa_nil))) (pg_name (i := 4) sc_least_size.nd rfl (Or.inl rfl) (Or.inl rfl)) (pss_one (ps_if (pt_cmpR op_gt (pe_c c_ways_on hr (by omega) (by rfl) (pa_cons (pv 0) (pa_cons (pv 1) (pa_cons (pv 2) (pa_cons (pv 4) pa_nil))))) pe_int (nomark _)) (pss_one (ps_ret (pv 4))) pss_nil))) (pss_one (ps_ret pe_non))), ?_⟩
    refine sd_seq (sd_for ((List.range most).map (1 + ·)) (fun i => PyData.int (i : Nat)) ?_ (fun i δ => ∃ a4, (∀ t : Nat, 1 ≤ t → t ≤ i → ¬ 0 < waysI n S N t) ∧ δ = [some (.int n), some d, some dn, some (.int most), a4]) ⟨none, fun t h1 h2 => by omega, rfl⟩ ?_ ?_)
    · have e : ((List.range most).map (1 + ·)).map (fun i => PyData.int (i : Nat)) = rgD 1 (((most : Int) + 1) - 1).toNat := by
        unfold rgD
        rw [List.map_map]
        have : (((most : Int) + 1) - 1).toNat = most := by omega
        rw [this]
        refine List.map_congr_left fun i _ => ?_
        simp
      rw [e]
      exact id_range2 (ea_cons ed_int (ea_cons (ed_op (ed_var rfl) ed_int rd_I0) ea_nil)) (by omega)
    · rintro i x δ1 hx ⟨a4, hz, rfl⟩
      obtain ⟨hi, hxi⟩ := List.getElem?_eq_some_iff.mp hx
      rw [List.getElem_map, List.getElem_range] at hxi
      rw [List.length_map, List.length_range] at hi
      subst hxi
      refine ⟨_, _, tg_name, ?_⟩
      refine sd_if (et_test (ed_op (ed_call (ea_cons (ed_var rfl) (ea_cons (ed_var rfl) (ea_cons (ed_var rfl) (ea_cons (ed_var rfl) ea_nil)))) ⟨n, 1 + i, d, dn, S, N, rfl, hS, hN, sS, sN, n1, n2, hl, by omega, by omega, rfl⟩) ed_int rd_B0)) (fun hb => ?_) fun hb => sd_next ⟨_, fun t h1 h2 => ?_, rfl⟩
      · exact sd_ret (ed_var rfl) (hp1 (1 + i) (by omega) (by omega) (by simpa using hb) fun t h1 h2 => hz t h1 (by omega))
      · by_cases q : t ≤ i
        · exact hz t h1 q
        · have e : t = 1 + i := by omega
          subst e
          have := of_decide_eq_false hb
          exact this
    · rintro δ1 ⟨a4, hz, rfl⟩
      rw [List.length_map, List.length_range] at hz
      exact sd_ret ed_non (hp2 hz)
end
end Sh
-- Ss
set_option maxRecDepth 100000
set_option maxHeartbeats 4000000
/-! sorted(set(a list of whole numbers)) -/
namespace L2
open PySem PySem.Spec PyProof.Rows
section
variable {P : Program} {w : World} {A : Around} {E : Value → Shared → Prop} {s : Shared}
theorem call_set_lstI {l : Addr} {items : Array Value} (ns : List Int) {Q : Value → Shared → Prop} (hh : A.handled = none) (hl : s.heap.IsList l items) (hit : IntsAre items.toList ns) (hb : ns.length + 1 < scanBound)
    (h : ∀ (h' : Heap) (tk c : Nat), SetR w h' s.heap.objs.size (fun j => decide (j ∈ ns)) c → c ≤ ns.length → (∀ b o, s.heap.get? b = some o → h'.get? b = some o) → Q (.ref s.heap.objs.size) { s with heap := h', toks := tk }) :
    wpAny (model P w) A (call (.type "set") [.ref l]) Q E s := by
  have hisz : items.size = ns.length := by
    have q := IntsAre.length hit
    rw [Array.length_toList] at q
    exact q
  obtain ⟨c, tl, hmro⟩ := F.called_set.mro
  have hmade := F.called_set.made
  have hsub := F.called_set.sub
  refine wpAny_call (codeAny_of_tree ?_)
  show wpAny _ _ (callAny (.type "set") _) _ _ _
  refine wpAny_pure ⟨Code.quiet_builtin _ (by decide +kernel), codeAny_builtin F.entry_type_call ?_⟩
  rw [Around.under_plain (weight_type_call_type "set" [.ref l] []) rfl]
  have h1 := F.called_set.notType
  have h2 := F.called_set.canCreate
  have hct := F.typeCall_set_1 (.ref l)
  repeat (any_goals (first | assumption | wp_step))

  refine codeAny_mono (code_set_led1 (.ref l) (E := E) (Q₁ := fun obj s₁ => obj = .ref s.heap.objs.size ∧ s₁ = { s with heap := s.heap.push { cls := .type "set", dict := none, data := .set #[] 0 (.fresh 0 0 (!w.params.followText "set-order")) } }) ⟨rfl, rfl⟩) fun r s₁ hr => ?_
  cases r with
  | error e => exact hr
  | ok fl =>
    cases fl with
    | ret obj =>
      obtain ⟨rfl, rfl⟩ := hr
      have hS : (s.heap.push { cls := .type "set", dict := none, data := .set #[] 0 (.fresh 0 0 (!w.params.followText "set-order")) }).get? s.heap.objs.size = some { cls := .type "set", dict := none, data := .set #[] 0 (.fresh 0 0 (!w.params.followText "set-order")) } := Heap.get?_push_size _ rfl
      have hT : Shared.TypeIs { s with heap := s.heap.push { cls := .type "set", dict := none, data := .set #[] 0 (.fresh 0 0 (!w.params.followText "set-order")) } } (.ref s.heap.objs.size) "set" := ⟨_, hS, rfl⟩
      have hli := F.called_set.init.lookup
      have hbi := F.called_set.init.bind (.ref s.heap.objs.size)
      repeat (any_goals (first | assumption | wp_step))

      refine codeAny_mono (codeAny_call_builtin (R := wants (fun r s₂ => r = .none ∧ ∃ h' tk c, s₂ = { s with heap := h', toks := tk } ∧ SetR w h' s.heap.objs.size (fun j => decide (j ∈ ns)) c ∧ c ≤ ns.length ∧
          (∀ b o, s.heap.get? b = some o → h'.get? b = some o)) E) F.called_set.init.plain F.entry_set_init (check_set_init_1 hT ?_)) fun r₂ s₂ hr₂ => ?_
      · obtain ⟨ol, hol, hcl, nl, hdl⟩ := hl
        obtain ⟨ocls, odict, odata, oslots⟩ := ol
        simp only at hcl hdl
        subst hcl; subst hdl
        have hol' : (s.heap.push { cls := .type "set", dict := none, data := .set #[] 0 (.fresh 0 0 (!w.params.followText "set-order")) }).get? l = some { cls := .type "list", dict := odict, data := .seq items nl, slots := oslots } := Heap.get?_push_of_some _ hol
        have hsls := F.sub_list_set
        have hslf := F.sub_list_frozenset
        have hne : (Value.type "list" == Value.type "dict") = false := by decide
        have hl1 : (s.heap.push { cls := .type "set", dict := none, data := .set #[] 0 (.fresh 0 0 (!w.params.followText "set-order")) }).IsList l items := ⟨_, hol', rfl, nl, rfl⟩
        unfold Builtin.«set.__init__» noKeywords Builtin.Frozenset.updateFrom
        generalize hPI : pyIter = PI
        wp_walk
        subst hPI

        refine wpAny_pyIter_list hl1 ?_
        refine wpAny_bind (wpAny_runValue ?_)
        have hlS : l < s.heap.objs.size := Heap.lt_size hol
        have hh3 : A.in1.in1.in1.handled = none := by simp [hh]
        have hz1 : (s.heap.push { cls := .type "set", dict := none, data := .set #[] 0 (.fresh 0 0 (!w.params.followText "set-order")) }).objs.size = s.heap.objs.size + 1 := Heap.size_push ..
        have hneI : l ≠ (s.heap.push { cls := .type "set", dict := none, data := .set #[] 0 (.fresh 0 0 (!w.params.followText "set-order")) }).objs.size := by
          rw [Heap.size_push]; exact Nat.ne_of_lt (Nat.lt_succ_of_lt hlS)
        have hSf : s.heap.objs.size ∉ [(s.heap.push { cls := .type "set", dict := none, data := .set #[] 0 (.fresh 0 0 (!w.params.followText "set-order")) }).objs.size, l] := by
          rw [Heap.size_push]; simp only [List.mem_cons, List.mem_singleton, List.not_mem_nil, or_false, not_or]
          exact ⟨Nat.ne_of_lt (Nat.lt_succ_self _), Nat.ne_of_gt hlS⟩
        have hval : ∀ (i : Nat) (v : Value), items[i]? = some v → ∃ k t, ns[i]? = some k ∧ v = .int k t := fun i v hv => by
          have hi : i < ns.length := by rw [← hisz]; exact (Array.getElem?_eq_some_iff.mp hv).1
          obtain ⟨t, e⟩ := PyProof.Rows.IntsAre.int_at hit i v (by rw [Array.getElem?_toList]; exact hv)
          refine ⟨ns[i], t, List.getElem?_eq_getElem hi, ?_⟩
          rw [e, List.getD_eq_getElem?_getD, List.getElem?_eq_getElem hi] <;> rfl
        refine set_update_ints ((Walks.list hh3 _ l hneI items).toS) s.heap.objs.size
          hSf ns hisz hb hval (items.size - 0) 0 _ (by omega) (Nat.zero_le _)
          ⟨⟨_, Heap.get?_push_size _ rfl, rfl, rfl⟩, (hl1.push _)⟩ ?hS0 ?hR
        case hS0 =>
          have hget : ((s.heap.push { cls := .type "set", dict := none, data := .set #[] 0 (.fresh 0 0 (!w.params.followText "set-order")) }).push { cls := .type "list_iterator", data := .fields #[.ref l, .int 0 0] }).get? s.heap.objs.size
              = some { cls := .type "set", dict := none, data := .set #[] 0 (.fresh 0 0 (!w.params.followText "set-order")) } := Heap.get?_push_of_some _ hS
          exact ⟨0, Nat.le_refl 0, setR_new_at hget⟩
        case hR =>
          intro s' c' hm hc' hS'
          obtain ⟨h', g2, d', tk', os'⟩ := s'
          have eg : g2 = s.gens := hm.gens
          have ed : d' = s.drawn := hm.drawn
          have eo : os' = s.os := hm.os
          subst eg; subst ed; subst eo
          show wpAny _ _ _ _ _ _
          refine wpAny_pure ?_
          show wpAny _ _ (ret Value.none) _ _ _
          rw [hisz] at hc'
          refine wpAny_pure ⟨rfl, h', tk', c', rfl, hS', hc', fun b o e => ?_⟩
          have hb0 : b < s.heap.objs.size := Heap.lt_size e
          have hb1 : b ≠ s.heap.objs.size := Nat.ne_of_lt hb0
          have hb2 : b ≠ (s.heap.push { cls := .type "set", dict := none, data := .set #[] 0 (.fresh 0 0 (!w.params.followText "set-order")) }).objs.size := by
            rw [Heap.size_push]; exact Nat.ne_of_lt (Nat.lt_succ_of_lt hb0)
          exact hm.heap b o (by simp only [List.mem_cons, List.mem_singleton, List.not_mem_nil, or_false, not_or]; exact ⟨hb1, hb2⟩) (Heap.get?_push_of_some _ (Heap.get?_push_of_some _ e))

      · cases r₂ with
        | error e => exact hr₂
        | ok fl₂ =>
          cases fl₂ with
          | ret r =>
            obtain ⟨rfl, h', tk, c', rfl, hS', hc', hk'⟩ := hr₂
            repeat (any_goals (first | assumption | wp_step))
            exact h _ _ _ hS' hc' hk'
          | _ => exact hr₂.elim
    | _ => exact hr.elim

end
end L2
namespace Sh
open PySem PySem.Spec PyProof.Rows L2 RZ
theorem nodup_le : ∀ (m : Nat) (l : List Int), l.Nodup → (∀ x ∈ l, 0 ≤ x ∧ x < m) → l.length ≤ m
  | 0, l, _, h => by
    cases l with
    | nil => exact Nat.le_refl _
    | cons x l => have := h x (List.mem_cons_self ..); omega
  | m + 1, l, hn, h => by
    have h1 := nodup_le m (l.filter fun x => !decide (x = (m : Int))) (hn.filter _) (fun x hx => by
      obtain ⟨a, b⟩ := List.mem_filter.mp hx
      have := h x a
      have : ¬ x = (m : Int) := by simpa using b
      omega)
    have h2 : (l.filter fun x => decide (x = (m : Int))).length ≤ 1 := by
      have := List.nodup_iff_count.mp hn (m : Int)
      rw [List.count_eq_length_filter] at this
      have e : (fun x : Int => x == (m : Int)) = fun x => decide (x = (m : Int)) := by funext x; rfl
      rw [e] at this
      exact this
    have h3 : l.length = (l.filter fun x => decide (x = (m : Int))).length + (l.filter fun x => !decide (x = (m : Int))).length := by
      clear h1 h2 hn h
      induction l with
      | nil => rfl
      | cons x l ih =>
        by_cases hx : x = (m : Int)
        · rw [List.filter_cons_of_pos (by simp [hx]), List.filter_cons_of_neg (by simp [hx]), List.length_cons, List.length_cons, ih]; omega
        · rw [List.filter_cons_of_neg (by simp [hx]), List.filter_cons_of_pos (by simp [hx]), List.length_cons, List.length_cons, ih]; omega
    omega
def rSetL (K : PySem.W.Frag) (w : World) : List V → Hp → VK → Prop := fun xs H Q => ∃ (l : Addr) (ns : List Int) (m : Nat), xs = [.ref l] ∧ SqL K H l (ns.map V.int) ∧ ns.length ≤ 1000 ∧ (∀ k ∈ ns, 0 ≤ k ∧ k < m) ∧
  ∀ p c, H p = none → c ≤ m → Q (.ref p) (upd H p (SetO w p (fun j => decide (j ∈ ns)) c))
theorem cr_setL {X : Cx} (hc : X.calm = true) : CallR X (.type "set") (rSetL X.K X.w) := by
  intro pins s σ H xs us Q I r h
  obtain ⟨l, ns, m, rfl, hl, hn, hm, q⟩ := h
  obtain rfl := Vals.ref1 r
  obtain ⟨its, rv, pl, hz⟩ := I.list hl
  refine call_set_lstI ns (I.ok.hd hc) pl.isList (by simpa using intsAre_vals rv) (by unfold scanBound; omega) fun h' tk c R hc' hk => ?_
  have hcm : c ≤ m := by
    obtain ⟨o, es, ep, t, ho, h1, h2, h3, h4, h5, h6, h7, h8, _⟩ := R
    have := nodup_le m (es.toList.map keyOf) h4 fun x hx => hm x (of_decide_eq_true ((h5 x).mpr hx))
    rw [List.length_map, Array.length_toList, h8] at this
    exact this
  exact ⟨.ref _, upd H s.heap.objs.size (SetO X.w s.heap.objs.size (fun j => decide (j ∈ ns)) c), I.laid (t' := tk) hk (Nat.le_refl _) (setO_new R), rfl, q _ c (I.hok.fresh (Nat.le_refl _)) hcm⟩
theorem ew_srtset {T : Tb} {δ : Dl} {te : TE} {K : PySem.W.Frag} {w : World} {ns : List Int} {m : Nat} (h : ED T te δ (.list (ns.map PyData.int))) (hn : ns.length ≤ 1000) (hm : ∀ k ∈ ns, 0 ≤ k ∧ k < m) (hm64 : m < 64) :
    EW T (tCB (rSortedSet w) (tCons (tCB (rSetL K w) (tCons te tNil)) tNil)) δ (fun d => ∃ out : List Int, d = .list (out.map PyData.int) ∧ out.Pairwise (· < ·) ∧ ∀ k, k ∈ out ↔ k ∈ ns) := fun σ G H o Q q =>
  h σ G H o _ fun v G1 H1 s1 d1 => by
    cases d1 with
    | @lst l xs _ hp hd =>
      have e := dqa_ints_inv hd
      subst e
      refine ⟨l, ns, m, rfl, SqL.of (s1.gh _ _ hp), hn, hm, fun p c hpn hc => ?_⟩
      have st : ∀ ob, Step T G1 H1 G1 (upd H1 p ob) := fun ob => Step.newM s1.gh hpn
      refine ⟨p, _, c, rfl, upd_same, by omega, fun out p2 h1 h2 h3 hn2 => ?_⟩
      exact new_l (T := T) (st _).gh hn2 (dqa_ints out) fun v G2 H2 s2 d2 => q _ v G2 H2 ⟨out, rfl, h1, fun k => (h2 k).trans decide_eq_true_iff⟩ ((s1.trans (st _)).trans s2) d2
end Sh
-- M11
set_option maxHeartbeats 1000000
namespace Mx
abbrev Sg := List (Row × Int)
/-- all rows of m hours below s -/
def allH (s : Nat) : Nat → List Row
  | 0 => [[]]
  | m + 1 => (allH s m).flatMap fun r => (List.range s).map fun k : Nat => r ++ [(k : Int)]
def showB (S : Sg) (s : Int) (x : Row) : Bool := S.all fun p => decide ((dot p.1 x - p.2).fmod s = 0)
def thatShow (n : Nat) (S : Sg) (s : Nat) : List Row := (allH s n).filter (showB S s)
def thatFit (n : Nat) (S N : Sg) (s : Nat) : List Row := (thatShow n S s).filter fun x => N.all fun q => !showB [q] s x
theorem allH_len (s : Nat) : ∀ m, (allH s m).length = s ^ m
  | 0 => rfl
  | m + 1 => by
    have key : ∀ l : List Row, (l.flatMap fun r => (List.range s).map fun k : Nat => r ++ [(k : Int)]).length = l.length * s := by
      intro l
      induction l with
      | nil => simp
      | cons r l ih => rw [List.flatMap_cons, List.length_append, ih, List.length_map, List.length_range, List.length_cons, Nat.add_mul]; omega
    show ((allH s m).flatMap _).length = _
    rw [key, allH_len s m, Nat.pow_succ]
theorem allH_mem {s : Nat} : ∀ {m : Nat} {x : Row}, x ∈ allH s m → x.length = m ∧ ∀ y ∈ x, 0 ≤ y ∧ y < s
  | 0, x, h => by
    rw [List.mem_singleton.mp h]
    exact ⟨rfl, fun y hy => by simp at hy⟩
  | m + 1, x, h => by
    obtain ⟨r, hr, hx⟩ := List.mem_flatMap.mp h
    obtain ⟨k, hk, rfl⟩ := List.mem_map.mp hx
    obtain ⟨h1, h2⟩ := allH_mem hr
    refine ⟨by simp [h1], fun y hy => ?_⟩
    rcases List.mem_append.mp hy with q | q
    · exact h2 y q
    · rw [List.mem_singleton.mp q]
      have := List.mem_range.mp hk
      omega
end Mx
-- Sl1
set_option maxRecDepth 100000
set_option maxHeartbeats 4000000
/-! the law's own defs: lists, sameness, hours by count -/
namespace Sh
open PySem PySem.Spec PyProof.Rows L2 RZ
open C8 (Cal pe_c)
open Mx
mutual
/-- tuples made lists -/
def lstD : DD → DD
  | .list xs => .list (lstAll xs)
  | .tuple xs => .list (lstAll xs)
  | .int i => .int i
  | .none => .none
  | .bool b => .bool b
  | .str x => .str x
  | .dict k => .dict k
def lstAll : List DD → List DD
  | [] => []
  | x :: xs => lstD x :: lstAll xs
end
theorem lstAll_map : ∀ xs : List DD, lstAll xs = xs.map lstD
  | [] => by rw [lstAll]; rfl
  | x :: xs => by rw [lstAll, lstAll_map xs]; rfl
theorem shaped_intsL (a : List Int) : SeqAt.shaped (.list (a.map PyData.int)) = true := by
  have h1 : ∀ a : List Int, PyData.canLayAll0 (a.map PyData.int) = true := by
    intro a
    induction a with
    | nil => rfl
    | cons x a ih => simp only [List.map_cons, PyData.canLayAll0, PyData.canLay0, ih, Bool.and_self]
  have h2 : ∀ a : List Int, PyData.depthAll (a.map PyData.int) = 0 := by
    intro a
    induction a with
    | nil => rfl
    | cons x a ih => simp only [List.map_cons, PyData.depthAll, PyData.depth, ih]; rfl
  unfold SeqAt.shaped
  simp [PyData.canLay0, PyData.depth, h1, h2]
theorem rd_neBl {T : Tb} {i j : Bool} : RD T rNe (.bool i) (.bool j) (.bool (!decide (i = j))) := fun G H x y s _ dx dy Q q => by
  cases dx; cases dy
  refine ⟨rfl, ?_⟩
  have e : decide (V.bl i = V.bl j) = decide (i = j) := by simp
  rw [e]
  exact q _ G H (Step.refl s) (.bl _)
theorem rd_eqBl {T : Tb} {i j : Bool} : RD T rEq (.bool i) (.bool j) (.bool (decide (i = j))) := fun G H x y s _ dx dy Q q => by
  cases dx; cases dy
  refine ⟨rfl, ?_⟩
  have e : decide (V.bl i = V.bl j) = decide (i = j) := by simp
  rw [e]
  exact q _ G H (Step.refl s) (.bl _)
section
variable {P : Program} {w : World} {K : PySem.W.Frag} {mg : Str → Option Value} {base : Heap} {T : Tb}
abbrev s_law_lists : Stmt := top 46
abbrev N_law_lists : List Str := ["_law_matter", "_law_bit"]
theorem sc_law_lists : FnScope N_law_lists ["_law_matter"] (defScope s_law_lists) := ⟨rfl, rfl, rfl, by decide +kernel, rfl, by decide +kernel, by decide +kernel⟩
def R_law_lists (n : Nat) (ds : List DD) (post : DD → Prop) : Prop := ∃ d, ds = [d] ∧ Flat n d ∧ post (lstD d)
theorem cal_law_lists0 (E : Bl mg) (D : DefAt K mg "_law_lists" s_law_lists) : Cal P w K mg base 1 "_law_lists" (spD T (fun _ _ => False)) [] := by
  refine cal_d D sc_law_lists (fun _ _ _ _ _ _ us hl => match us, hl with | [_], _ => rfl) (fun ds post h => h.elim) (fun f cdv A outer s H E0 hr ds post h => h.elim)
theorem cal_law_listsS (E : Bl mg) (D : DefAt K mg "_law_lists" s_law_lists) (R : List DD → (DD → Prop) → Prop) (k : Nat) (c_law_lists : Cal P w K mg base k "_law_lists" (spD T R) []) (n : Nat)
    (hR : ∀ m, n = m + 1 → R = R_law_lists m) : Cal P w K mg base (k + 1) "_law_lists" (spD T (R_law_lists n)) [] := by
  refine cal_d D sc_law_lists (fun _ _ _ _ _ _ us hl => match us, hl with | [_], _ => rfl) (fun ds post h => ?_) (fun f cdv A outer s H E0 hr ds post h => ?_)
  · obtain ⟨d, rfl, _⟩ := h
    rfl
  · obtain ⟨d, rfl, hf, hp⟩ := h
    have flat : ∀ b, PySem.W.kitAny K (.type (tyD d)) [.type "list", .type "tuple"] = some b → b = false → lstD d = d → ∃ t, PSs (cxOf C8.CX0 P w K mg base N_law_lists "_law_lists" (defScope s_law_lists) f cdv A outer s H E0).nox (defBody s_law_lists) t ∧ SD T t (startD N_law_lists [d]) (fun _ => post .none) post := fun b hb e1 e2 => by
      refine ⟨_, (pss_one (ps_ret (pe_ifExp (pt_val (pe_callB (k_isiT (K := K) rfl) (by rfl) E.isinstance (by decide +kernel) (pa_cons (pv 0) (pa_cons (pe_tup (pa_cons (pe_bltn (v := .ty "list") (u := .type "list") (by rfl) E.list (by decide +kernel) rfl) (pa_cons (pe_bltn (v := .ty "tuple") (u := .type "tuple") (by rfl) E.tuple (by decide +kernel) rfl) pa_nil))) pa_nil)))) (pe_lc (own := [("_law_bit", 1)]) rfl sc_law_lists.nd (k_tup (K := K) rfl (pv 0)) (blkOk_by (own := [("_law_bit", 1)]) (N := N_law_lists) (sc := (defScope s_law_lists)) (by decide +kernel)) (fun _ _ _ _ _ => (pg_name (i := 1) sc_law_lists.nd rfl (Or.inl rfl) (Or.inr rfl))) (fun _ _ _ _ _ => pts_nil) (fun _ _ _ _ _ => (pe_c c_law_lists hr (by omega) (by rfl) (pa_cons (pv 1) pa_nil)))) (pv 0)))), ?_⟩
      refine sd_ret (ed_if (et_test (ed_isiT (ed_var rfl) hb)) (fun e => ?_) fun _ => ed_var rfl) (by rw [← e2]; exact hp)
      rw [e1] at e
      cases e
    cases d with
    | int i => exact flat _ rfl rfl (by rw [lstD])
    | none => exact flat _ rfl rfl (by rw [lstD])
    | bool b => exact flat _ rfl rfl (by rw [lstD])
    | str x => cases n <;> exact hf.elim
    | dict x => cases n <;> exact hf.elim
    | list xs =>
      cases n with
      | zero => exact hf.elim
      | succ m =>
        cases hR m rfl
        refine ⟨_, (pss_one (ps_ret (pe_ifExp (pt_val (pe_callB (k_isiT (K := K) rfl) (by rfl) E.isinstance (by decide +kernel) (pa_cons (pv 0) (pa_cons (pe_tup (pa_cons (pe_bltn (v := .ty "list") (u := .type "list") (by rfl) E.list (by decide +kernel) rfl) (pa_cons (pe_bltn (v := .ty "tuple") (u := .type "tuple") (by rfl) E.tuple (by decide +kernel) rfl) pa_nil))) pa_nil)))) (pe_lc (own := [("_law_bit", 1)]) rfl sc_law_lists.nd (k_list (K := K) rfl (pv 0)) (blkOk_by (own := [("_law_bit", 1)]) (N := N_law_lists) (sc := (defScope s_law_lists)) (by decide +kernel)) (fun _ _ _ _ _ => (pg_name (i := 1) sc_law_lists.nd rfl (Or.inl rfl) (Or.inr rfl))) (fun _ _ _ _ _ => pts_nil) (fun _ _ _ _ _ => (pe_c c_law_lists hr (by omega) (by rfl) (pa_cons (pv 1) pa_nil)))) (pv 0)))), ?_⟩
        refine sd_ret (ed_if (et_test (ed_isiT (b := true) (ed_var rfl) rfl)) (fun _ => ed_lc1 xs (fun x => x) lstD (by rw [List.map_id']; exact id_list (ed_var rfl)) (by have := hf.1; omega) fun x hx => ⟨_, _, by simp, tg_name, ?_⟩) fun e => by cases e) ?_
        · exact ed_call (ea_cons (ed_var rfl) ea_nil) ⟨x, rfl, hf.2 x hx, rfl⟩
        · rw [lstD, lstAll_map] at hp
          exact hp
    | tuple xs =>
      cases n with
      | zero => exact hf.elim
      | succ m =>
        cases hR m rfl
        refine ⟨_, (pss_one (ps_ret (pe_ifExp (pt_val (pe_callB (k_isiT (K := K) rfl) (by rfl) E.isinstance (by decide +kernel) (pa_cons (pv 0) (pa_cons (pe_tup (pa_cons (pe_bltn (v := .ty "list") (u := .type "list") (by rfl) E.list (by decide +kernel) rfl) (pa_cons (pe_bltn (v := .ty "tuple") (u := .type "tuple") (by rfl) E.tuple (by decide +kernel) rfl) pa_nil))) pa_nil)))) (pe_lc (own := [("_law_bit", 1)]) rfl sc_law_lists.nd (k_tup (K := K) rfl (pv 0)) (blkOk_by (own := [("_law_bit", 1)]) (N := N_law_lists) (sc := (defScope s_law_lists)) (by decide +kernel)) (fun _ _ _ _ _ => (pg_name (i := 1) sc_law_lists.nd rfl (Or.inl rfl) (Or.inr rfl))) (fun _ _ _ _ _ => pts_nil) (fun _ _ _ _ _ => (pe_c c_law_lists hr (by omega) (by rfl) (pa_cons (pv 1) pa_nil)))) (pv 0)))), ?_⟩
        refine sd_ret (ed_if (et_test (ed_isiT (b := true) (ed_var rfl) rfl)) (fun _ => ed_lc1 xs (fun x => x) lstD (by rw [List.map_id']; exact id_tup (ed_var rfl)) (by have := hf.1; omega) fun x hx => ⟨_, _, by simp, tg_name, ?_⟩) fun e => by cases e) ?_
        · exact ed_call (ea_cons (ed_var rfl) ea_nil) ⟨x, rfl, hf.2 x hx, rfl⟩
        · rw [lstD, lstAll_map] at hp
          exact hp
theorem cal_law_lists (E : Bl mg) (D : DefAt K mg "_law_lists" s_law_lists) : ∀ n, Cal P w K mg base (n + 2) "_law_lists" (spD T (R_law_lists n)) []
  | 0 => cal_law_listsS E D _ 1 (cal_law_lists0 E D) 0 fun m h => by cases h
  | n + 1 => cal_law_listsS E D _ (n + 2) (cal_law_lists E D n) (n + 1) fun m h => by cases h; rfl
/-! ### rows -/
abbrev s_law_dot : Stmt := top 48
abbrev N_law_dot : List Str := ["_law_one_so", "_law_two_so", "_law_bit", "_law_its"]
theorem sc_law_dot : FnScope N_law_dot ["_law_one_so", "_law_two_so"] (defScope s_law_dot) := ⟨rfl, rfl, rfl, by decide +kernel, rfl, by decide +kernel, by decide +kernel⟩
def R_law_dot (ds : List DD) (post : DD → Prop) : Prop := ∃ a b : List Int, ds = [pR a, pR b] ∧ a.length ≤ 1000 ∧ (∀ x ∈ a, x.natAbs < 2 ^ 64) ∧ post (.int (dot a b))
theorem cal_law_dot (E : Bl mg) (D : DefAt K mg "_law_dot" s_law_dot) : Cal P w K mg base 1 "_law_dot" (spD T R_law_dot) [] := by
  refine cal_d D sc_law_dot (fun _ _ _ _ _ _ us hl => match us, hl with | [_, _], _ => rfl) (fun ds post h => ?_) (fun f cdv A outer s H E0 hr ds post h => ?_)
  · obtain ⟨a, b, rfl, _⟩ := h
    rfl
  · obtain ⟨a, b, rfl, h1, h2, hp⟩ := h
    refine ⟨_, (pss_one (ps_ret (pe_callB (k_sum (K := K) rfl rfl) (by rfl) E.sum (by decide +kernel) (pa_cons (pe_lc (own := [("_law_bit", 2), ("_law_its", 3)]) rfl sc_law_dot.nd (k_zip (K := K) rfl (by rfl) E.zip (pa_cons (pv 0) (pa_cons (pv 1) pa_nil))) (blkOk_by (own := [("_law_bit", 2), ("_law_its", 3)]) (N := N_law_dot) (sc := (defScope s_law_dot)) (by decide +kernel)) (fun _ _ _ _ _ => (k_gtup (K := K) (n := 2) rfl rfl (pgs_cons (pg_name (i := 2) sc_law_dot.nd rfl (Or.inl rfl) (Or.inr rfl)) (pgs_cons (pg_name (i := 3) sc_law_dot.nd rfl (Or.inl rfl) (Or.inr rfl)) pgs_nil)))) (fun _ _ _ _ _ => pts_nil) (fun _ _ _ _ _ => (pe_op op_mulB (pv 2) (pv 3)))) pa_nil)))), ?_⟩
    refine sd_ret (ed_cb (ea_cons (ed_is (ed_lc1 (a.zip b) (fun p => PyData.tuple [.int p.1, .int p.2]) (fun p => PyData.int (p.1 * p.2)) ?_ ?_ fun x hx => ⟨_, _, ?_, tg_pair, ?_⟩) ?_) ea_nil) (rc_sum (ns := (a.zip b).map fun (p : Int × Int) => p.1 * p.2))) hp
    · rw [← zipD_map]
      exact id_zipT (ea_cons (ed_var rfl) (ea_cons (ed_var rfl) ea_nil))
    · rw [List.length_zip]; omega
    · simp
    · exact ed_op (ed_var rfl) (ed_var rfl) (rd_I (mul_small (h2 _ (List.of_mem_zip (a := x.1) (b := x.2) hx).1)))
    · rw [List.map_map]
      rfl
abbrev s_law_plus : Stmt := top 49
abbrev N_law_plus : List Str := ["_law_one_so", "_law_two_so", "_law_bit", "_law_its"]
theorem sc_law_plus : FnScope N_law_plus ["_law_one_so", "_law_two_so"] (defScope s_law_plus) := ⟨rfl, rfl, rfl, by decide +kernel, rfl, by decide +kernel, by decide +kernel⟩
def R_law_plus (ds : List DD) (post : DD → Prop) : Prop := ∃ a b : List Int, ds = [pR a, pR b] ∧ a.length ≤ 1000 ∧ post (pR (addR a b))
theorem cal_law_plus (E : Bl mg) (D : DefAt K mg "_law_plus" s_law_plus) : Cal P w K mg base 1 "_law_plus" (spD T R_law_plus) [] := by
  refine cal_d D sc_law_plus (fun _ _ _ _ _ _ us hl => match us, hl with | [_, _], _ => rfl) (fun ds post h => ?_) (fun f cdv A outer s H E0 hr ds post h => ?_)
  · obtain ⟨a, b, rfl, _⟩ := h
    rfl
  · obtain ⟨a, b, rfl, h1, hp⟩ := h
    refine ⟨_, (pss_one (ps_ret (pe_callTy (k_tupOf (K := K) rfl) (by rfl) E.tuple (by decide +kernel) (pa_cons (pe_lc (own := [("_law_bit", 2), ("_law_its", 3)]) rfl sc_law_plus.nd (k_zip (K := K) rfl (by rfl) E.zip (pa_cons (pv 0) (pa_cons (pv 1) pa_nil))) (blkOk_by (own := [("_law_bit", 2), ("_law_its", 3)]) (N := N_law_plus) (sc := (defScope s_law_plus)) (by decide +kernel)) (fun _ _ _ _ _ => (k_gtup (K := K) (n := 2) rfl rfl (pgs_cons (pg_name (i := 2) sc_law_plus.nd rfl (Or.inl rfl) (Or.inr rfl)) (pgs_cons (pg_name (i := 3) sc_law_plus.nd rfl (Or.inl rfl) (Or.inr rfl)) pgs_nil)))) (fun _ _ _ _ _ => pts_nil) (fun _ _ _ _ _ => (pe_op op_add (pv 2) (pv 3)))) pa_nil)))), ?_⟩
    refine sd_ret (ed_cb (ea_cons (ed_is (ed_lc1 (a.zip b) (fun p => PyData.tuple [.int p.1, .int p.2]) (fun p => PyData.int (p.1 + p.2)) ?_ ?_ fun x hx => ⟨_, _, ?_, tg_pair, ?_⟩) (e := .list ((addR a b).map PyData.int)) ?_) ea_nil) rc_tupL) hp
    · rw [← zipD_map]
      exact id_zipT (ea_cons (ed_var rfl) (ea_cons (ed_var rfl) ea_nil))
    · rw [List.length_zip]; omega
    · simp
    · exact ed_op (ed_var rfl) (ed_var rfl) rd_I0
    · unfold addR
      rw [List.map_map]
      rfl
abbrev s_law_many : Stmt := top 50
abbrev N_law_many : List Str := ["_law_row_so", "_law_times_so", "_law_bit"]
theorem sc_law_many : FnScope N_law_many ["_law_row_so", "_law_times_so"] (defScope s_law_many) := ⟨rfl, rfl, rfl, by decide +kernel, rfl, by decide +kernel, by decide +kernel⟩
def R_law_many (ds : List DD) (post : DD → Prop) : Prop := ∃ (a : List Int) (k : Int), ds = [pR a, .int k] ∧ a.length ≤ 1000 ∧ (∀ x ∈ a, x.natAbs < 2 ^ 64) ∧ post (pR (timesR a k))
theorem cal_law_many (E : Bl mg) (D : DefAt K mg "_law_many" s_law_many) : Cal P w K mg base 1 "_law_many" (spD T R_law_many) [] := by
  refine cal_d D sc_law_many (fun _ _ _ _ _ _ us hl => match us, hl with | [_, _], _ => rfl) (fun ds post h => ?_) (fun f cdv A outer s H E0 hr ds post h => ?_)
  · obtain ⟨a, b, rfl, _⟩ := h
    rfl
  · obtain ⟨a, k, rfl, h1, h2, hp⟩ := h
    refine ⟨_, (pss_one (ps_ret (pe_callTy (k_tupOf (K := K) rfl) (by rfl) E.tuple (by decide +kernel) (pa_cons (pe_lc (own := [("_law_bit", 2)]) rfl sc_law_many.nd (k_tup (K := K) rfl (pv 0)) (blkOk_by (own := [("_law_bit", 2)]) (N := N_law_many) (sc := (defScope s_law_many)) (by decide +kernel)) (fun _ _ _ _ _ => (pg_name (i := 2) sc_law_many.nd rfl (Or.inl rfl) (Or.inr rfl))) (fun _ _ _ _ _ => pts_nil) (fun _ _ _ _ _ => (pe_op op_mulB (pv 2) (pv 1)))) pa_nil)))), ?_⟩
    refine sd_ret (ed_cb (ea_cons (ed_is (ed_lc1 a PyData.int (fun x => PyData.int (x * k)) ?_ ?_ fun x hx => ⟨_, _, ?_, tg_name, ?_⟩) (e := .list ((timesR a k).map PyData.int)) ?_) ea_nil) rc_tupL) hp
    · exact id_tup (ed_var rfl)
    · omega
    · simp
    · exact ed_op (ed_var rfl) (ed_var rfl) (rd_I (mul_small (h2 x hx)))
    · unfold timesR
      rw [List.map_map]
      rfl
abbrev s_law_unit : Stmt := top 51
abbrev N_law_unit : List Str := ["_law_place_so", "_law_size_so", "_law_k"]
theorem sc_law_unit : FnScope N_law_unit ["_law_place_so", "_law_size_so"] (defScope s_law_unit) := ⟨rfl, rfl, rfl, by decide +kernel, rfl, by decide +kernel, by decide +kernel⟩
def R_law_unit (ds : List DD) (post : DD → Prop) : Prop := ∃ p n : Nat, ds = [.int p, .int n] ∧ n ≤ 1000 ∧ post (pR (unitR p n))
theorem cal_law_unit (E : Bl mg) (D : DefAt K mg "_law_unit" s_law_unit) : Cal P w K mg base 1 "_law_unit" (spD T R_law_unit) [] := by
  refine cal_d D sc_law_unit (fun _ _ _ _ _ _ us hl => match us, hl with | [_, _], _ => rfl) (fun ds post h => ?_) (fun f cdv A outer s H E0 hr ds post h => ?_)
  · obtain ⟨p, n, rfl, _⟩ := h
    rfl
  · obtain ⟨p, n, rfl, h1, hp⟩ := h
    refine ⟨_, (pss_one (ps_ret (pe_callTy (k_tupOf (K := K) rfl) (by rfl) E.tuple (by decide +kernel) (pa_cons (pe_lc (own := [("_law_k", 2)]) rfl sc_law_unit.nd (pi_range1 (by rfl) E.range (pa_cons (pv 1) pa_nil)) (blkOk_by (own := [("_law_k", 2)]) (N := N_law_unit) (sc := (defScope s_law_unit)) (by decide +kernel)) (fun _ _ _ _ _ => (pg_name (i := 2) sc_law_unit.nd rfl (Or.inl rfl) (Or.inr rfl))) (fun _ _ _ _ _ => pts_nil) (fun _ _ _ _ _ => (pe_callTy cr_int (by rfl) E.int (by decide +kernel) (pa_cons (pe_cmpR op_eq (pv 2) (pv 0) (nomark _)) pa_nil)))) pa_nil)))), ?_⟩
    refine sd_ret (ed_cb (ea_cons (ed_lc1 (List.range n) (fun i => PyData.int (i : Nat)) (fun s => PyData.int (if s = p then 1 else 0)) ?_ ?_ fun x hx => ⟨_, _, ?_, tg_name, ?_⟩) ea_nil) rc_tupL) ?_
    · rw [← rgD_nat]
      exact id_range1 (n := (n : Int)) (ea_cons (ed_var rfl) ea_nil) (by omega) (by omega)
    · simp; omega
    · simp
    · refine ed_is (ed_cb (ea_cons (ed_op (ed_var rfl) (ed_var rfl) rd_eqI) ea_nil) rc_intB) ?_
      by_cases hxp : x = p
      · subst hxp; simp
      · have : ¬ ((x : Int) = (p : Int)) := by omega
        simp [hxp, this]
    · have e : pR (unitR p n) = .tuple ((List.range n).map fun s => PyData.int (if s = p then 1 else 0)) := by
        unfold pR unitR
        rw [List.map_map]
        rfl
      rw [← e]
      exact hp
/-! ### hours by count -/
abbrev s_law_all_hours : Stmt := top 52
abbrev N_law_all_hours : List Str := ["_law_size_so", "_law_many_so", "_law_found", "_law_lap", "_law_longer_so", "_law_row_so", "_law_k"]
theorem sc_law_all_hours : FnScope N_law_all_hours ["_law_size_so", "_law_many_so"] (defScope s_law_all_hours) := ⟨rfl, rfl, rfl, by decide +kernel, rfl, by decide +kernel, by decide +kernel⟩
def R_law_all_hours (ds : List DD) (post : DD → Prop) : Prop := ∃ s m : Nat, ds = [.int s, .int m] ∧ s ≤ 12 ∧ m ≤ 2 ∧ post (pLR (allH s m))
theorem cal_law_all_hours (E : Bl mg) (D : DefAt K mg "_law_all_hours" s_law_all_hours) : Cal P w K mg base 1 "_law_all_hours" (spD T R_law_all_hours) [] := by
  refine cal_d D sc_law_all_hours (fun _ _ _ _ _ _ us hl => match us, hl with | [_, _], _ => rfl) (fun ds post h => ?_) (fun f cdv A outer s H E0 hr ds post h => ?_)
  · obtain ⟨p, n, rfl, _⟩ := h
    rfl
  · obtain ⟨s, m, rfl, hs, hm, hp⟩ := h
    refine ⟨_, (pss_cons (ps_set (i := 2) sc_law_all_hours.nd rfl (Or.inl rfl) (pe_lst (pa_cons (pe_tup pa_nil) pa_nil))) (pss_cons (ps_for PassesOwn.never rfl (pi_range1 (by rfl) E.range (pa_cons (pv 1) pa_nil)) (pg_name (i := 3) sc_law_all_hours.nd rfl (Or.inl rfl) (Or.inl rfl)) (pss_cons (ps_set (i := 4) sc_law_all_hours.nd rfl (Or.inl rfl) (pe_lst pa_nil)) (pss_cons (ps_for PassesOwn.never rfl (k_list (K := K) rfl (pv 2)) (pg_name (i := 5) sc_law_all_hours.nd rfl (Or.inr rfl) (Or.inl rfl)) (pss_one (ps_set (i := 4) sc_law_all_hours.nd rfl (Or.inl rfl) (pe_op op_cat (pv 4) (pe_lc (own := [("_law_k", 6)]) rfl sc_law_all_hours.nd (pi_range1 (by rfl) E.range (pa_cons (pv 0) pa_nil)) (blkOk_by (own := [("_law_k", 6)]) (N := N_law_all_hours) (sc := (defScope s_law_all_hours)) (by decide +kernel)) (fun _ _ _ _ _ => (pg_name (i := 6) sc_law_all_hours.nd rfl (Or.inl rfl) (Or.inr rfl))) (fun _ _ _ _ _ => pts_nil) (fun _ _ _ _ _ => (pe_op (k_catT (K := K) rfl) (pv 5) (pe_tup (pa_cons (pv 6) pa_nil))))))))) (pss_one (ps_set (i := 2) sc_law_all_hours.nd rfl (Or.inl rfl) (pv 4)))))) (pss_one (ps_ret (pv 2))))), ?_⟩
    have big : ∀ i, i ≤ m → (allH s i).length ≤ 144 := fun i hi => by
      rw [allH_len]
      exact Nat.le_trans (Nat.pow_le_pow_left hs _) (Nat.le_trans (Nat.pow_le_pow_right (by decide) (by omega : i ≤ 2)) (by decide))
    refine sd_seq (sd_set (d := pLR (allH s 0)) (ed_lst (ea_cons (ed_tup ea_nil (by decide)) ea_nil) (by simp [allH])) ?_)
    refine sd_seq (sd_for (List.range m) (fun i => PyData.int (i : Nat)) ?_ (fun i δ => ∃ a3 a4 a5, δ = [some (.int s), some (.int m), some (pLR (allH s i)), a3, a4, a5, none]) ⟨none, none, none, rfl⟩ ?_ ?_)
    · rw [← rgD_nat]
      exact id_range1 (n := (m : Int)) (ea_cons (ed_var rfl) ea_nil) (by omega) (by omega)
    · rintro i x δ1 hx ⟨a3, a4, a5, rfl⟩
      obtain ⟨hi, _⟩ := List.getElem?_eq_some_iff.mp hx
      rw [List.length_range] at hi
      have hbi := big i (by omega)
      refine ⟨_, _, tg_name, ?_⟩
      refine sd_seq (sd_set (d := pLR []) (ed_lst ea_nil (by decide)) ?_)
      refine sd_seq (sd_for (allH s i) pR (id_list (ed_var rfl)) (fun j δ => ∃ a5, δ = [some (.int s), some (.int m), some (pLR (allH s i)), some (.int (x : Nat)), some (pLR (((allH s i).take j).flatMap fun r => (List.range s).map fun k : Nat => r ++ [(k : Int)])), a5, none]) ⟨a5, rfl⟩ ?_ ?_)
      · rintro j r δ1 hx2 ⟨a5, rfl⟩
        obtain ⟨hj, hjr⟩ := List.getElem?_eq_some_iff.mp hx2
        have hrm := allH_mem (hjr ▸ List.getElem_mem hj)
        have e : (allH s i).take (j + 1) = (allH s i).take j ++ [r] := by rw [List.take_add_one, hx2]; rfl
        have hlen : (((allH s i).take j).flatMap fun r => (List.range s).map fun k : Nat => r ++ [(k : Int)]).length ≤ 144 * 12 := by
          have key : ∀ l : List Mx.Row, (l.flatMap fun r => (List.range s).map fun k : Nat => r ++ [(k : Int)]).length = l.length * s := by
            intro l
            induction l with
            | nil => simp
            | cons r l ih => rw [List.flatMap_cons, List.length_append, ih, List.length_map, List.length_range, List.length_cons, Nat.add_mul]; omega
          rw [key, List.length_take]
          exact Nat.mul_le_mul (by omega) hs
        refine ⟨_, _, tg_name, ?_⟩
        refine sd_set (d := pLR (((allH s i).take (j + 1)).flatMap fun r => (List.range s).map fun k : Nat => r ++ [(k : Int)])) (ed_is (ed_op (ed_var rfl) (ed_lc1 (List.range s) (fun i => PyData.int (i : Nat)) (fun k : Nat => pR (r ++ [(k : Int)])) ?_ ?_ fun k hk => ⟨_, _, by simp, tg_name, ?_⟩) (rd_cat ?_)) ?_) ⟨_, rfl⟩
        · rw [← rgD_nat]
          exact id_range1 (n := (s : Int)) (ea_cons (ed_var rfl) ea_nil) (by omega) (by omega)
        · simp; omega
        · refine ed_is (ed_op (ed_var rfl) (ed_tup (ea_cons (ed_var rfl) ea_nil) (by simp)) (rd_catT ?_)) ?_
          · simp
            omega
          · unfold pR
            rw [List.map_append]
            rfl
        · rw [List.length_map, List.length_map, List.length_range]
          omega
        · show PyData.list _ = PyData.list _
          rw [e, List.flatMap_append, List.map_append]
          simp [List.flatMap_cons]
      · rintro δ1 ⟨a5, rfl⟩
        rw [List.take_length]
        exact sd_set (ed_var rfl) ⟨_, _, _, rfl⟩
    · rintro δ1 ⟨a3, a4, a5, rfl⟩
      rw [List.length_range]
      exact sd_ret (ed_var rfl) hp
/-- sights that can be shown -/
def ShOk (S : Sgt) (s : Nat) : Prop := S.length ≤ 4 ∧ (∀ p ∈ S, p.1.length ≤ 1000 ∧ ∀ x ∈ p.1, x.natAbs ≤ 6) ∧ 1 ≤ s
abbrev s_law_show : Stmt := top 57
abbrev N_law_show : List Str := ["_law_sights_so", "_law_size_so", "_law_hours_so", "_law_row_so", "_law_hour_so"]
theorem sc_law_show : FnScope N_law_show ["_law_sights_so", "_law_size_so", "_law_hours_so"] (defScope s_law_show) := ⟨rfl, rfl, rfl, by decide +kernel, rfl, by decide +kernel, by decide +kernel⟩
def R_law_show (ds : List DD) (post : DD → Prop) : Prop := ∃ (S : Sgt) (s : Nat) (x : Mx.Row), ds = [pS S, .int s, pR x] ∧ ShOk S s ∧ post (.bool (showB S s x))
theorem emp_all {α : Type} (p : α → Bool) (l : List α) : (((l.filter p).map fun _ => (1 : Int)).map PyData.int).isEmpty = l.all fun x => !p x := by
  induction l with
  | nil => rfl
  | cons x l ih =>
    rw [List.all_cons, List.filter_cons]
    cases h : p x with
    | true => simp
    | false => simpa using ih
theorem eqv_nilL (xs : List DD) : PyData.eqv (.list xs) (.list []) = xs.isEmpty := by
  cases xs with
  | nil => rfl
  | cons x xs => simp [PyData.eqv, PyData.eqvAll]
theorem cal_law_show (E : Bl mg) (c_law_dot : Cal P w K mg base 1 "_law_dot" (spD T R_law_dot) []) (D : DefAt K mg "_law_show" s_law_show) : Cal P w K mg base 2 "_law_show" (spD T R_law_show) [] := by
  refine cal_d D sc_law_show (fun _ _ _ _ _ _ us hl => match us, hl with | [_, _, _], _ => rfl) (fun ds post h => ?_) (fun f cdv A outer s H E0 hr ds post h => ?_)
  · obtain ⟨_, _, _, rfl, _⟩ := h
    rfl
  · obtain ⟨S, s, x, rfl, ⟨h4, hS, hs⟩, hp⟩ := h
    refine ⟨_, (pss_one (ps_ret (pe_cmpR (k_eqD (K := K) rfl hr.units) (pe_lc (own := [("_law_row_so", 3), ("_law_hour_so", 4)]) rfl sc_law_show.nd (k_tup (K := K) rfl (pv 0)) (blkOk_by (own := [("_law_row_so", 3), ("_law_hour_so", 4)]) (N := N_law_show) (sc := (defScope s_law_show)) (by decide +kernel)) (fun _ _ _ _ _ => (k_gtup (K := K) (n := 2) rfl rfl (pgs_cons (pg_name (i := 3) sc_law_show.nd rfl (Or.inl rfl) (Or.inr rfl)) (pgs_cons (pg_name (i := 4) sc_law_show.nd rfl (Or.inl rfl) (Or.inr rfl)) pgs_nil)))) (fun _ _ _ _ _ => (pts_one (pt_cmpR op_ne (pe_op op_modN (pe_op op_sub (pe_c c_law_dot hr (by omega) (by rfl) (pa_cons (pv 3) (pa_cons (pv 2) pa_nil))) (pv 4)) (pv 1)) pe_int (nomark _)))) (fun _ _ _ _ _ => pe_int)) (pe_lst pa_nil) (nomark _)))), ?_⟩
    refine sd_ret (ed_is (ed_op (ed_is (ed_lc S pG (fun p => !decide ((dot p.1 x - p.2).fmod s = 0)) (fun _ => PyData.int 1) (id_tup (ed_var rfl)) (by omega) fun p hpm => ⟨_, _, by simp, tg_pair, ?_, fun _ => ed_int⟩) (e := .list (((S.filter fun p => !decide ((dot p.1 x - p.2).fmod s = 0)).map fun _ => (1 : Int)).map PyData.int)) ?_) (ed_lst ea_nil (by decide)) (rd_eqD (shaped_intsL _) (by decide) (eqv_nilL _))) ?_) hp
    · refine et_test (ed_op (ed_op (ed_op (ed_call (ea_cons (ed_var rfl) (ea_cons (ed_var rfl) ea_nil)) ⟨p.1, x, rfl, (hS p hpm).1, fun y hy => ?_, rfl⟩) (ed_var rfl) rd_I0) (ed_var rfl) (rd_I (by omega))) ed_int rd_neI)
      have := (hS p hpm).2 y hy
      omega
    · rw [List.map_map]
      rfl
    · congr 1
      unfold showB
      clear hp hS h4
      induction S with
      | nil => rfl
      | cons p S ih =>
        rw [List.all_cons]
        by_cases h : (dot p.1 x - p.2).fmod s = 0
        · rw [List.filter_cons_of_neg (by simp [h]), ih]; simp [h]
        · rw [List.filter_cons_of_pos (by simp [h])]; simp [h]
abbrev s_law_all_that_show : Stmt := top 58
abbrev N_law_all_that_show : List Str := ["_law_n_so", "_law_sights_so", "_law_size_so", "_law_own"]
theorem sc_law_all_that_show : FnScope N_law_all_that_show ["_law_n_so", "_law_sights_so", "_law_size_so"] (defScope s_law_all_that_show) := ⟨rfl, rfl, rfl, by decide +kernel, rfl, by decide +kernel, by decide +kernel⟩
def R_law_all_that_show (ds : List DD) (post : DD → Prop) : Prop := ∃ (n : Nat) (S : Sgt) (s : Nat), ds = [.int n, pS S, .int s] ∧ ShOk S s ∧ s ≤ 12 ∧ n ≤ 2 ∧ post (pLR (thatShow n S s))
theorem cal_law_all_that_show (E : Bl mg) (c_law_all_hours : Cal P w K mg base 1 "_law_all_hours" (spD T R_law_all_hours) []) (c_law_show : Cal P w K mg base 2 "_law_show" (spD T R_law_show) []) (D : DefAt K mg "_law_all_that_show" s_law_all_that_show) : Cal P w K mg base 3 "_law_all_that_show" (spD T R_law_all_that_show) [] := by
  refine cal_d D sc_law_all_that_show (fun _ _ _ _ _ _ us hl => match us, hl with | [_, _, _], _ => rfl) (fun ds post h => ?_) (fun f cdv A outer s H E0 hr ds post h => ?_)
  · obtain ⟨_, _, _, rfl, _⟩ := h
    rfl
  · obtain ⟨n, S, s, rfl, hS, hs, hn, hp⟩ := h
    refine ⟨_, (pss_one (ps_ret (pe_lc (own := [("_law_own", 3)]) rfl sc_law_all_that_show.nd (k_list (K := K) rfl (pe_c c_law_all_hours hr (by omega) (by rfl) (pa_cons (pv 2) (pa_cons (pv 0) pa_nil)))) (blkOk_by (own := [("_law_own", 3)]) (N := N_law_all_that_show) (sc := (defScope s_law_all_that_show)) (by decide +kernel)) (fun _ _ _ _ _ => (pg_name (i := 3) sc_law_all_that_show.nd rfl (Or.inl rfl) (Or.inr rfl))) (fun _ _ _ _ _ => (pts_one (pt_val (pe_c c_law_show hr (by omega) (by rfl) (pa_cons (pv 1) (pa_cons (pv 2) (pa_cons (pv 3) pa_nil))))))) (fun _ _ _ _ _ => (pv 3))))), ?_⟩
    have big : (allH s n).length ≤ 144 := by
      rw [allH_len]
      exact Nat.le_trans (Nat.pow_le_pow_left hs _) (Nat.le_trans (Nat.pow_le_pow_right (by decide) hn) (by decide))
    refine sd_ret (ed_lc (allH s n) pR (showB S s) pR (id_list (ed_call (ea_cons (ed_var rfl) (ea_cons (ed_var rfl) ea_nil)) ⟨s, n, rfl, hs, hn, rfl⟩)) (by omega) fun x hx => ⟨_, _, by simp, tg_name, ?_, fun _ => ed_var rfl⟩) hp
    exact et_test (ed_call (ea_cons (ed_var rfl) (ea_cons (ed_var rfl) (ea_cons (ed_var rfl) ea_nil))) ⟨S, s, x, rfl, hS, rfl⟩)
abbrev s_law_that_fit : Stmt := top 59
abbrev N_law_that_fit : List Str := ["_law_n_so", "_law_sights_so", "_law_nots_so", "_law_size_so", "_law_all_so", "_law_own", "_law_sight_so"]
theorem sc_law_that_fit : FnScope N_law_that_fit ["_law_n_so", "_law_sights_so", "_law_nots_so", "_law_size_so"] (defScope s_law_that_fit) := ⟨rfl, rfl, rfl, by decide +kernel, rfl, by decide +kernel, by decide +kernel⟩
def R_law_that_fit (ds : List DD) (post : DD → Prop) : Prop := ∃ (n : Nat) (S N : Sgt) (s : Nat), ds = [.int n, pS S, pS N, .int s] ∧ ShOk S s ∧ ShOk N s ∧ s ≤ 12 ∧ n ≤ 2 ∧ post (pLR (thatFit n S N s))
theorem cal_law_that_fit (E : Bl mg) (c_law_all_that_show : Cal P w K mg base 3 "_law_all_that_show" (spD T R_law_all_that_show) []) (c_law_show : Cal P w K mg base 2 "_law_show" (spD T R_law_show) []) (D : DefAt K mg "_law_that_fit" s_law_that_fit) : Cal P w K mg base 4 "_law_that_fit" (spD T R_law_that_fit) [] := by
  refine cal_d D sc_law_that_fit (fun _ _ _ _ _ _ us hl => match us, hl with | [_, _, _, _], _ => rfl) (fun ds post h => ?_) (fun f cdv A outer s H E0 hr ds post h => ?_)
  · obtain ⟨_, _, _, _, rfl, _⟩ := h
    rfl
  · obtain ⟨n, S, N, s, rfl, hS, hN, hs, hn, hp⟩ := h
    refine ⟨_, (pss_cons (ps_set (i := 4) sc_law_that_fit.nd rfl (Or.inl rfl) (pe_c c_law_all_that_show hr (by omega) (by rfl) (pa_cons (pv 0) (pa_cons (pv 1) (pa_cons (pv 3) pa_nil))))) (pss_one (ps_ret (pe_lc (own := [("_law_own", 5)]) rfl sc_law_that_fit.nd (k_list (K := K) rfl (pv 4)) (blkOk_by (own := [("_law_own", 5)]) (N := N_law_that_fit) (sc := (defScope s_law_that_fit)) (by decide +kernel)) (fun _ _ _ _ _ => (pg_name (i := 5) sc_law_that_fit.nd rfl (Or.inr rfl) (Or.inl rfl))) (fun _ _ _ _ _ => (pts_one (pt_cmpR (k_eqD (K := K) rfl hr.units) (pe_lc (own := [("_law_sight_so", 6)]) rfl sc_law_that_fit.nd (k_tup (K := K) rfl (pv 2)) (blkOk_by (own := [("_law_sight_so", 6)]) (by kernel_rfl)) (fun _ _ _ _ _ => (pg_name (i := 6) sc_law_that_fit.nd rfl (Or.inl rfl) (Or.inr rfl))) (fun _ _ _ _ _ => (pts_one (pt_val (pe_c c_law_show hr (by omega) (by rfl) (pa_cons (pe_tup (pa_cons (pv 6) pa_nil)) (pa_cons (pv 3) (pa_cons (pv 5) pa_nil))))))) (fun _ _ _ _ _ => pe_int)) (pe_lst pa_nil) (nomark _)))) (fun _ _ _ _ _ => (pv 5)))))), ?_⟩
    have big : (thatShow n S s).length ≤ 144 := by
      refine Nat.le_trans (List.length_filter_le _ _) ?_
      rw [allH_len]
      exact Nat.le_trans (Nat.pow_le_pow_left hs _) (Nat.le_trans (Nat.pow_le_pow_right (by decide) hn) (by decide))
    refine sd_seq (sd_set (ed_call (ea_cons (ed_var rfl) (ea_cons (ed_var rfl) (ea_cons (ed_var rfl) ea_nil))) ⟨n, S, s, rfl, hS, hs, hn, rfl⟩) ?_)
    refine sd_ret (ed_lc (thatShow n S s) pR (fun x => N.all fun q => !showB [q] s x) pR (id_list (ed_var rfl)) (by omega) fun x hx => ⟨_, _, by simp, tg_name, ?_, fun _ => ed_var rfl⟩) hp
    refine et_is (et_test (ed_op (ed_is (ed_lc N pG (fun q => showB [q] s x) (fun _ => PyData.int 1) (id_tup (ed_var rfl)) (by have := hN.1; omega) fun q hq => ⟨_, _, by simp, tg_name, ?_, fun _ => ed_int⟩) (e := .list (((N.filter fun q => showB [q] s x).map fun _ => (1 : Int)).map PyData.int)) ?_) (ed_lst ea_nil (by decide)) (rd_eqD (shaped_intsL _) (by decide) (eqv_nilL _)))) ?_
    · refine et_test (ed_call (ea_cons (ed_tup (ea_cons (ed_var rfl) ea_nil) (by simp)) (ea_cons (ed_var rfl) (ea_cons (ed_var rfl) ea_nil))) ⟨[q], s, x, rfl, ⟨by simp, fun p hp => ?_, hN.2.2⟩, rfl⟩)
      rw [List.mem_singleton.mp hp]
      exact hN.2.1 q hq
    · rw [List.map_map]
      rfl
    · exact emp_all (fun q => showB [q] s x) N
end
end Sh
-- Sl2
set_option maxRecDepth 100000
set_option maxHeartbeats 4000000
/-! sameness -/
namespace Sh
open PySem PySem.Spec PyProof.Rows L2 RZ
open C8 (Cal pe_c)
open Mx
/-- of depth at most n, no part long; short texts may stand in it -/
def FlatQ : Nat → DD → Prop
  | _, .int _ => True
  | _, .none => True
  | _, .bool _ => True
  | _, .str x => SeqAt.shaped (.str x) = true
  | n + 1, .list xs => xs.length ≤ 1000 ∧ ∀ x ∈ xs, FlatQ n x
  | n + 1, .tuple xs => xs.length ≤ 1000 ∧ ∀ x ∈ xs, FlatQ n x
  | _, _ => False
theorem eqv_str (x : Str) : PyData.eqv (.str x) (.str x) = true := by simp [PyData.eqv]
theorem zipD_self (xs : List DD) : zipD xs xs = xs.map fun x => PyData.tuple [x, x] := by
  unfold zipD
  induction xs with
  | nil => rfl
  | cons x xs ih => rw [List.zip_cons_cons, List.map_cons, List.map_cons, ih]
section
variable {P : Program} {w : World} {K : PySem.W.Frag} {mg : Str → Option Value} {base : Heap} {T : Tb}
abbrev s_law_same : Stmt := top 47
abbrev N_law_same : List Str := ["_law_got", "_law_due", "_law_mine", "_law_its"]
theorem sc_law_same : FnScope N_law_same ["_law_got", "_law_due"] (defScope s_law_same) := ⟨rfl, rfl, rfl, by decide +kernel, rfl, by decide +kernel, by decide +kernel⟩
def R_law_same (n : Nat) (ds : List DD) (post : DD → Prop) : Prop := ∃ d, ds = [d, d] ∧ FlatQ n d ∧ post (.bool true)
theorem cal_law_same0 (E : Bl mg) (D : DefAt K mg "_law_same" s_law_same) : Cal P w K mg base 1 "_law_same" (spD T (fun _ _ => False)) [] := by
  refine cal_d D sc_law_same (fun _ _ _ _ _ _ us hl => match us, hl with | [_, _], _ => rfl) (fun ds post h => h.elim) (fun f cdv A outer s H E0 hr ds post h => h.elim)
theorem cal_law_sameS (E : Bl mg) (D : DefAt K mg "_law_same" s_law_same) (R : List DD → (DD → Prop) → Prop) (k : Nat) (c_law_same : Cal P w K mg base k "_law_same" (spD T R) []) (n : Nat)
    (hR : ∀ m, n = m + 1 → R = R_law_same m) : Cal P w K mg base (k + 1) "_law_same" (spD T (R_law_same n)) [] := by
  refine cal_d D sc_law_same (fun _ _ _ _ _ _ us hl => match us, hl with | [_, _], _ => rfl) (fun ds post h => ?_) (fun f cdv A outer s H E0 hr ds post h => ?_)
  · obtain ⟨d, rfl, _⟩ := h
    rfl
  · obtain ⟨d, rfl, hf, hp⟩ := h
    cases d with
    | dict x => cases n <;> exact hf.elim
    | int i =>
      refine ⟨_, (pss_cons (ps_if (pt_val (pe_callB (k_isiT (K := K) rfl) (by rfl) E.isinstance (by decide +kernel) (pa_cons (pv 1) (pa_cons (pe_tup (pa_cons (pe_bltn (v := .ty "list") (u := .type "list") (by rfl) E.list (by decide +kernel) rfl) (pa_cons (pe_bltn (v := .ty "tuple") (u := .type "tuple") (by rfl) E.tuple (by decide +kernel) rfl) pa_nil))) pa_nil)))) (pss_cons (ps_if (PW.pt (pw_or (pt_cmpR op_ne (pe_callB (k_isi (K := K) rfl) (by rfl) E.isinstance (by decide +kernel) (pa_cons (pv 0) (pa_cons (pe_bltn (v := .ty "list") (u := .type "list") (by rfl) E.list (by decide +kernel) rfl) pa_nil))) (pe_callB (k_isi (K := K) rfl) (by rfl) E.isinstance (by decide +kernel) (pa_cons (pv 1) (pa_cons (pe_bltn (v := .ty "list") (u := .type "list") (by rfl) E.list (by decide +kernel) rfl) pa_nil))) (nomark _)) (pw_or1 (pt_cmpR op_ne (pe_callB (k_isi (K := K) rfl) (by rfl) E.isinstance (by decide +kernel) (pa_cons (pv 0) (pa_cons (pe_bltn (v := .ty "tuple") (u := .type "tuple") (by rfl) E.tuple (by decide +kernel) rfl) pa_nil))) (pe_callB (k_isi (K := K) rfl) (by rfl) E.isinstance (by decide +kernel) (pa_cons (pv 1) (pa_cons (pe_bltn (v := .ty "tuple") (u := .type "tuple") (by rfl) E.tuple (by decide +kernel) rfl) pa_nil))) (nomark _))))) (pss_one (ps_ret pe_bl)) pss_nil) (pss_one (ps_ret (pe_and (pe_cmpR op_eq (pe_callB (k_len (K := K) rfl) (by rfl) E.len PySem.boot_len (pa_cons (pv 0) pa_nil)) (pe_callB (k_len (K := K) rfl) (by rfl) E.len PySem.boot_len (pa_cons (pv 1) pa_nil)) (nomark _)) (pe_one (pe_callB (k_all (K := K) rfl rfl) (by rfl) E.all (by decide +kernel) (pa_cons (pe_lc (own := [("_law_mine", 2), ("_law_its", 3)]) rfl sc_law_same.nd (k_zip (K := K) rfl (by rfl) E.zip (pa_cons (pv 0) (pa_cons (pv 1) pa_nil))) (blkOk_by (own := [("_law_mine", 2), ("_law_its", 3)]) (N := N_law_same) (sc := (defScope s_law_same)) (by decide +kernel)) (fun _ _ _ _ _ => (k_gtup (K := K) (n := 2) rfl rfl (pgs_cons (pg_name (i := 2) sc_law_same.nd rfl (Or.inl rfl) (Or.inr rfl)) (pgs_cons (pg_name (i := 3) sc_law_same.nd rfl (Or.inl rfl) (Or.inr rfl)) pgs_nil)))) (fun _ _ _ _ _ => pts_nil) (fun _ _ _ _ _ => (pe_c c_law_same hr (by omega) (by rfl) (pa_cons (pv 2) (pa_cons (pv 3) pa_nil))))) pa_nil))))))) pss_nil) (pss_cons (ps_if (PW.pt (pw_or (pt_cmp (pc_isN (pv 1)) (by rfl)) (pw_or1 (pt_val (pe_callB (k_isiT (K := K) rfl) (by rfl) E.isinstance (by decide +kernel) (pa_cons (pv 1) (pa_cons (pe_tup (pa_cons (pe_bltn (v := .ty "bool") (u := .type "bool") (by rfl) E.bool (by decide +kernel) rfl) (pa_cons (pe_bltn (v := .ty "str") (u := .type "str") (by rfl) E.str (by decide +kernel) rfl) pa_nil))) pa_nil))))))) (pss_one (ps_ret (pe_and (pe_cmpR (k_eqD (K := K) rfl hr.units) (pv 0) (pv 1) (nomark _)) (pe_and (pe_cmpR op_eq (pe_callB (k_isi (K := K) rfl) (by rfl) E.isinstance (by decide +kernel) (pa_cons (pv 0) (pa_cons (pe_bltn (v := .ty "bool") (u := .type "bool") (by rfl) E.bool (by decide +kernel) rfl) pa_nil))) (pe_callB (k_isi (K := K) rfl) (by rfl) E.isinstance (by decide +kernel) (pa_cons (pv 1) (pa_cons (pe_bltn (v := .ty "bool") (u := .type "bool") (by rfl) E.bool (by decide +kernel) rfl) pa_nil))) (nomark _)) (pe_one (pe_cmpR op_eq (pe_cmp (pc_isN (pv 0)) rfl) (pe_cmp (pc_isN (pv 1)) rfl) (nomark _))))))) pss_nil) (pss_one (ps_ret (pe_and (pe_callB (k_isi (K := K) rfl) (by rfl) E.isinstance (by decide +kernel) (pa_cons (pv 0) (pa_cons (pe_bltn (v := .ty "int") (u := .type "int") (by rfl) E.int (by decide +kernel) rfl) pa_nil))) (pe_and (pe_not (pe_callB (k_isi (K := K) rfl) (by rfl) E.isinstance (by decide +kernel) (pa_cons (pv 0) (pa_cons (pe_bltn (v := .ty "bool") (u := .type "bool") (by rfl) E.bool (by decide +kernel) rfl) pa_nil)))) (pe_one (pe_cmpR (k_eqD (K := K) rfl hr.units) (pv 0) (pv 1) (nomark _))))))))), ?_⟩
      refine sd_seq (sd_if (et_test (ed_isiT (b := false) (ed_var rfl) rfl)) (fun e => by cases e) fun _ => sd_next ?_)
      refine sd_seq (sd_if (b := false) (et_or (a := false) (b := false) (et_B (ed_isN (ed_var rfl) rfl)) fun _ => et_test (ed_isiT (b := false) (ed_var rfl) rfl)) (fun e => by cases e) fun _ => sd_next ?_)
      exact sd_ret (ed_andV (a := true) (b := true) (ed_isi (ed_var rfl) rfl) fun _ => ed_andV (a := true) (b := true) (ed_notV (a := false) (ed_isi (ed_var rfl) rfl)) fun _ => ed_op (ed_var rfl) (ed_var rfl) (rd_eqD (by rfl) (by rfl) (by simp [PyData.eqv]))) hp
    | none =>
      refine ⟨_, (pss_cons (ps_if (pt_val (pe_callB (k_isiT (K := K) rfl) (by rfl) E.isinstance (by decide +kernel) (pa_cons (pv 1) (pa_cons (pe_tup (pa_cons (pe_bltn (v := .ty "list") (u := .type "list") (by rfl) E.list (by decide +kernel) rfl) (pa_cons (pe_bltn (v := .ty "tuple") (u := .type "tuple") (by rfl) E.tuple (by decide +kernel) rfl) pa_nil))) pa_nil)))) (pss_cons (ps_if (PW.pt (pw_or (pt_cmpR op_ne (pe_callB (k_isi (K := K) rfl) (by rfl) E.isinstance (by decide +kernel) (pa_cons (pv 0) (pa_cons (pe_bltn (v := .ty "list") (u := .type "list") (by rfl) E.list (by decide +kernel) rfl) pa_nil))) (pe_callB (k_isi (K := K) rfl) (by rfl) E.isinstance (by decide +kernel) (pa_cons (pv 1) (pa_cons (pe_bltn (v := .ty "list") (u := .type "list") (by rfl) E.list (by decide +kernel) rfl) pa_nil))) (nomark _)) (pw_or1 (pt_cmpR op_ne (pe_callB (k_isi (K := K) rfl) (by rfl) E.isinstance (by decide +kernel) (pa_cons (pv 0) (pa_cons (pe_bltn (v := .ty "tuple") (u := .type "tuple") (by rfl) E.tuple (by decide +kernel) rfl) pa_nil))) (pe_callB (k_isi (K := K) rfl) (by rfl) E.isinstance (by decide +kernel) (pa_cons (pv 1) (pa_cons (pe_bltn (v := .ty "tuple") (u := .type "tuple") (by rfl) E.tuple (by decide +kernel) rfl) pa_nil))) (nomark _))))) (pss_one (ps_ret pe_bl)) pss_nil) (pss_one (ps_ret (pe_and (pe_cmpR op_eq (pe_callB (k_len (K := K) rfl) (by rfl) E.len PySem.boot_len (pa_cons (pv 0) pa_nil)) (pe_callB (k_len (K := K) rfl) (by rfl) E.len PySem.boot_len (pa_cons (pv 1) pa_nil)) (nomark _)) (pe_one (pe_callB (k_all (K := K) rfl rfl) (by rfl) E.all (by decide +kernel) (pa_cons (pe_lc (own := [("_law_mine", 2), ("_law_its", 3)]) rfl sc_law_same.nd (k_zip (K := K) rfl (by rfl) E.zip (pa_cons (pv 0) (pa_cons (pv 1) pa_nil))) (blkOk_by (own := [("_law_mine", 2), ("_law_its", 3)]) (N := N_law_same) (sc := (defScope s_law_same)) (by decide +kernel)) (fun _ _ _ _ _ => (k_gtup (K := K) (n := 2) rfl rfl (pgs_cons (pg_name (i := 2) sc_law_same.nd rfl (Or.inl rfl) (Or.inr rfl)) (pgs_cons (pg_name (i := 3) sc_law_same.nd rfl (Or.inl rfl) (Or.inr rfl)) pgs_nil)))) (fun _ _ _ _ _ => pts_nil) (fun _ _ _ _ _ => (pe_c c_law_same hr (by omega) (by rfl) (pa_cons (pv 2) (pa_cons (pv 3) pa_nil))))) pa_nil))))))) pss_nil) (pss_cons (ps_if (PW.pt (pw_or (pt_cmp (pc_isN (pv 1)) (by rfl)) (pw_or1 (pt_val (pe_callB (k_isiT (K := K) rfl) (by rfl) E.isinstance (by decide +kernel) (pa_cons (pv 1) (pa_cons (pe_tup (pa_cons (pe_bltn (v := .ty "bool") (u := .type "bool") (by rfl) E.bool (by decide +kernel) rfl) (pa_cons (pe_bltn (v := .ty "str") (u := .type "str") (by rfl) E.str (by decide +kernel) rfl) pa_nil))) pa_nil))))))) (pss_one (ps_ret (pe_and (pe_cmpR (k_eqD (K := K) rfl hr.units) (pv 0) (pv 1) (nomark _)) (pe_and (pe_cmpR op_eq (pe_callB (k_isi (K := K) rfl) (by rfl) E.isinstance (by decide +kernel) (pa_cons (pv 0) (pa_cons (pe_bltn (v := .ty "bool") (u := .type "bool") (by rfl) E.bool (by decide +kernel) rfl) pa_nil))) (pe_callB (k_isi (K := K) rfl) (by rfl) E.isinstance (by decide +kernel) (pa_cons (pv 1) (pa_cons (pe_bltn (v := .ty "bool") (u := .type "bool") (by rfl) E.bool (by decide +kernel) rfl) pa_nil))) (nomark _)) (pe_one (pe_cmpR op_eq (pe_cmp (pc_isN (pv 0)) rfl) (pe_cmp (pc_isN (pv 1)) rfl) (nomark _))))))) pss_nil) (pss_one (ps_ret (pe_and (pe_callB (k_isi (K := K) rfl) (by rfl) E.isinstance (by decide +kernel) (pa_cons (pv 0) (pa_cons (pe_bltn (v := .ty "int") (u := .type "int") (by rfl) E.int (by decide +kernel) rfl) pa_nil))) (pe_and (pe_not (pe_callB (k_isi (K := K) rfl) (by rfl) E.isinstance (by decide +kernel) (pa_cons (pv 0) (pa_cons (pe_bltn (v := .ty "bool") (u := .type "bool") (by rfl) E.bool (by decide +kernel) rfl) pa_nil)))) (pe_one (pe_cmpR (k_eqD (K := K) rfl hr.units) (pv 0) (pv 1) (nomark _))))))))), ?_⟩
      refine sd_seq (sd_if (et_test (ed_isiT (b := false) (ed_var rfl) rfl)) (fun e => by cases e) fun _ => sd_next ?_)
      refine sd_seq (sd_if (b := true) (et_or (a := true) (b := false) (et_B (ed_isN (ed_var rfl) rfl)) fun e => by cases e) (fun _ => ?_) fun e => by cases e)
      exact sd_ret (ed_andV (a := true) (b := true) (ed_op (ed_var rfl) (ed_var rfl) (rd_eqD (by rfl) (by rfl) (by simp [PyData.eqv]))) fun _ => ed_andV (a := true) (b := true) (ed_op (ed_isi (b := false) (ed_var rfl) rfl) (ed_isi (b := false) (ed_var rfl) rfl) rd_eqBl) fun _ => ed_op (ed_isN (ed_var rfl) rfl) (ed_isN (ed_var rfl) rfl) rd_eqBl) hp
    | bool b =>
      refine ⟨_, (pss_cons (ps_if (pt_val (pe_callB (k_isiT (K := K) rfl) (by rfl) E.isinstance (by decide +kernel) (pa_cons (pv 1) (pa_cons (pe_tup (pa_cons (pe_bltn (v := .ty "list") (u := .type "list") (by rfl) E.list (by decide +kernel) rfl) (pa_cons (pe_bltn (v := .ty "tuple") (u := .type "tuple") (by rfl) E.tuple (by decide +kernel) rfl) pa_nil))) pa_nil)))) (pss_cons (ps_if (PW.pt (pw_or (pt_cmpR op_ne (pe_callB (k_isi (K := K) rfl) (by rfl) E.isinstance (by decide +kernel) (pa_cons (pv 0) (pa_cons (pe_bltn (v := .ty "list") (u := .type "list") (by rfl) E.list (by decide +kernel) rfl) pa_nil))) (pe_callB (k_isi (K := K) rfl) (by rfl) E.isinstance (by decide +kernel) (pa_cons (pv 1) (pa_cons (pe_bltn (v := .ty "list") (u := .type "list") (by rfl) E.list (by decide +kernel) rfl) pa_nil))) (nomark _)) (pw_or1 (pt_cmpR op_ne (pe_callB (k_isi (K := K) rfl) (by rfl) E.isinstance (by decide +kernel) (pa_cons (pv 0) (pa_cons (pe_bltn (v := .ty "tuple") (u := .type "tuple") (by rfl) E.tuple (by decide +kernel) rfl) pa_nil))) (pe_callB (k_isi (K := K) rfl) (by rfl) E.isinstance (by decide +kernel) (pa_cons (pv 1) (pa_cons (pe_bltn (v := .ty "tuple") (u := .type "tuple") (by rfl) E.tuple (by decide +kernel) rfl) pa_nil))) (nomark _))))) (pss_one (ps_ret pe_bl)) pss_nil) (pss_one (ps_ret (pe_and (pe_cmpR op_eq (pe_callB (k_len (K := K) rfl) (by rfl) E.len PySem.boot_len (pa_cons (pv 0) pa_nil)) (pe_callB (k_len (K := K) rfl) (by rfl) E.len PySem.boot_len (pa_cons (pv 1) pa_nil)) (nomark _)) (pe_one (pe_callB (k_all (K := K) rfl rfl) (by rfl) E.all (by decide +kernel) (pa_cons (pe_lc (own := [("_law_mine", 2), ("_law_its", 3)]) rfl sc_law_same.nd (k_zip (K := K) rfl (by rfl) E.zip (pa_cons (pv 0) (pa_cons (pv 1) pa_nil))) (blkOk_by (own := [("_law_mine", 2), ("_law_its", 3)]) (N := N_law_same) (sc := (defScope s_law_same)) (by decide +kernel)) (fun _ _ _ _ _ => (k_gtup (K := K) (n := 2) rfl rfl (pgs_cons (pg_name (i := 2) sc_law_same.nd rfl (Or.inl rfl) (Or.inr rfl)) (pgs_cons (pg_name (i := 3) sc_law_same.nd rfl (Or.inl rfl) (Or.inr rfl)) pgs_nil)))) (fun _ _ _ _ _ => pts_nil) (fun _ _ _ _ _ => (pe_c c_law_same hr (by omega) (by rfl) (pa_cons (pv 2) (pa_cons (pv 3) pa_nil))))) pa_nil))))))) pss_nil) (pss_cons (ps_if (PW.pt (pw_or (pt_cmp (pc_isN (pv 1)) (by rfl)) (pw_or1 (pt_val (pe_callB (k_isiT (K := K) rfl) (by rfl) E.isinstance (by decide +kernel) (pa_cons (pv 1) (pa_cons (pe_tup (pa_cons (pe_bltn (v := .ty "bool") (u := .type "bool") (by rfl) E.bool (by decide +kernel) rfl) (pa_cons (pe_bltn (v := .ty "str") (u := .type "str") (by rfl) E.str (by decide +kernel) rfl) pa_nil))) pa_nil))))))) (pss_one (ps_ret (pe_and (pe_cmpR (k_eqD (K := K) rfl hr.units) (pv 0) (pv 1) (nomark _)) (pe_and (pe_cmpR op_eq (pe_callB (k_isi (K := K) rfl) (by rfl) E.isinstance (by decide +kernel) (pa_cons (pv 0) (pa_cons (pe_bltn (v := .ty "bool") (u := .type "bool") (by rfl) E.bool (by decide +kernel) rfl) pa_nil))) (pe_callB (k_isi (K := K) rfl) (by rfl) E.isinstance (by decide +kernel) (pa_cons (pv 1) (pa_cons (pe_bltn (v := .ty "bool") (u := .type "bool") (by rfl) E.bool (by decide +kernel) rfl) pa_nil))) (nomark _)) (pe_one (pe_cmpR op_eq (pe_cmp (pc_isN (pv 0)) rfl) (pe_cmp (pc_isN (pv 1)) rfl) (nomark _))))))) pss_nil) (pss_one (ps_ret (pe_and (pe_callB (k_isi (K := K) rfl) (by rfl) E.isinstance (by decide +kernel) (pa_cons (pv 0) (pa_cons (pe_bltn (v := .ty "int") (u := .type "int") (by rfl) E.int (by decide +kernel) rfl) pa_nil))) (pe_and (pe_not (pe_callB (k_isi (K := K) rfl) (by rfl) E.isinstance (by decide +kernel) (pa_cons (pv 0) (pa_cons (pe_bltn (v := .ty "bool") (u := .type "bool") (by rfl) E.bool (by decide +kernel) rfl) pa_nil)))) (pe_one (pe_cmpR (k_eqD (K := K) rfl hr.units) (pv 0) (pv 1) (nomark _))))))))), ?_⟩
      refine sd_seq (sd_if (et_test (ed_isiT (b := false) (ed_var rfl) rfl)) (fun e => by cases e) fun _ => sd_next ?_)
      refine sd_seq (sd_if (b := true) (et_or (a := false) (b := true) (et_B (ed_isN (ed_var rfl) rfl)) fun _ => et_test (ed_isiT (b := true) (ed_var rfl) rfl)) (fun _ => ?_) fun e => by cases e)
      exact sd_ret (ed_andV (a := true) (b := true) (ed_op (ed_var rfl) (ed_var rfl) (rd_eqD (by rfl) (by rfl) (by simp [PyData.eqv]))) fun _ => ed_andV (a := true) (b := true) (ed_op (ed_isi (b := true) (ed_var rfl) rfl) (ed_isi (b := true) (ed_var rfl) rfl) rd_eqBl) fun _ => ed_op (ed_isN (ed_var rfl) rfl) (ed_isN (ed_var rfl) rfl) rd_eqBl) hp
    | str x =>
      have hx : SeqAt.shaped (.str x) = true := by cases n <;> exact hf
      refine ⟨_, (pss_cons (ps_if (pt_val (pe_callB (k_isiT (K := K) rfl) (by rfl) E.isinstance (by decide +kernel) (pa_cons (pv 1) (pa_cons (pe_tup (pa_cons (pe_bltn (v := .ty "list") (u := .type "list") (by rfl) E.list (by decide +kernel) rfl) (pa_cons (pe_bltn (v := .ty "tuple") (u := .type "tuple") (by rfl) E.tuple (by decide +kernel) rfl) pa_nil))) pa_nil)))) (pss_cons (ps_if (PW.pt (pw_or (pt_cmpR op_ne (pe_callB (k_isi (K := K) rfl) (by rfl) E.isinstance (by decide +kernel) (pa_cons (pv 0) (pa_cons (pe_bltn (v := .ty "list") (u := .type "list") (by rfl) E.list (by decide +kernel) rfl) pa_nil))) (pe_callB (k_isi (K := K) rfl) (by rfl) E.isinstance (by decide +kernel) (pa_cons (pv 1) (pa_cons (pe_bltn (v := .ty "list") (u := .type "list") (by rfl) E.list (by decide +kernel) rfl) pa_nil))) (nomark _)) (pw_or1 (pt_cmpR op_ne (pe_callB (k_isi (K := K) rfl) (by rfl) E.isinstance (by decide +kernel) (pa_cons (pv 0) (pa_cons (pe_bltn (v := .ty "tuple") (u := .type "tuple") (by rfl) E.tuple (by decide +kernel) rfl) pa_nil))) (pe_callB (k_isi (K := K) rfl) (by rfl) E.isinstance (by decide +kernel) (pa_cons (pv 1) (pa_cons (pe_bltn (v := .ty "tuple") (u := .type "tuple") (by rfl) E.tuple (by decide +kernel) rfl) pa_nil))) (nomark _))))) (pss_one (ps_ret pe_bl)) pss_nil) (pss_one (ps_ret (pe_and (pe_cmpR op_eq (pe_callB (k_len (K := K) rfl) (by rfl) E.len PySem.boot_len (pa_cons (pv 0) pa_nil)) (pe_callB (k_len (K := K) rfl) (by rfl) E.len PySem.boot_len (pa_cons (pv 1) pa_nil)) (nomark _)) (pe_one (pe_callB (k_all (K := K) rfl rfl) (by rfl) E.all (by decide +kernel) (pa_cons (pe_lc (own := [("_law_mine", 2), ("_law_its", 3)]) rfl sc_law_same.nd (k_zip (K := K) rfl (by rfl) E.zip (pa_cons (pv 0) (pa_cons (pv 1) pa_nil))) (blkOk_by (own := [("_law_mine", 2), ("_law_its", 3)]) (N := N_law_same) (sc := (defScope s_law_same)) (by decide +kernel)) (fun _ _ _ _ _ => (k_gtup (K := K) (n := 2) rfl rfl (pgs_cons (pg_name (i := 2) sc_law_same.nd rfl (Or.inl rfl) (Or.inr rfl)) (pgs_cons (pg_name (i := 3) sc_law_same.nd rfl (Or.inl rfl) (Or.inr rfl)) pgs_nil)))) (fun _ _ _ _ _ => pts_nil) (fun _ _ _ _ _ => (pe_c c_law_same hr (by omega) (by rfl) (pa_cons (pv 2) (pa_cons (pv 3) pa_nil))))) pa_nil))))))) pss_nil) (pss_cons (ps_if (PW.pt (pw_or (pt_cmp (pc_isN (pv 1)) (by rfl)) (pw_or1 (pt_val (pe_callB (k_isiT (K := K) rfl) (by rfl) E.isinstance (by decide +kernel) (pa_cons (pv 1) (pa_cons (pe_tup (pa_cons (pe_bltn (v := .ty "bool") (u := .type "bool") (by rfl) E.bool (by decide +kernel) rfl) (pa_cons (pe_bltn (v := .ty "str") (u := .type "str") (by rfl) E.str (by decide +kernel) rfl) pa_nil))) pa_nil))))))) (pss_one (ps_ret (pe_and (pe_cmpR (k_eqD (K := K) rfl hr.units) (pv 0) (pv 1) (nomark _)) (pe_and (pe_cmpR op_eq (pe_callB (k_isi (K := K) rfl) (by rfl) E.isinstance (by decide +kernel) (pa_cons (pv 0) (pa_cons (pe_bltn (v := .ty "bool") (u := .type "bool") (by rfl) E.bool (by decide +kernel) rfl) pa_nil))) (pe_callB (k_isi (K := K) rfl) (by rfl) E.isinstance (by decide +kernel) (pa_cons (pv 1) (pa_cons (pe_bltn (v := .ty "bool") (u := .type "bool") (by rfl) E.bool (by decide +kernel) rfl) pa_nil))) (nomark _)) (pe_one (pe_cmpR op_eq (pe_cmp (pc_isN (pv 0)) rfl) (pe_cmp (pc_isN (pv 1)) rfl) (nomark _))))))) pss_nil) (pss_one (ps_ret (pe_and (pe_callB (k_isi (K := K) rfl) (by rfl) E.isinstance (by decide +kernel) (pa_cons (pv 0) (pa_cons (pe_bltn (v := .ty "int") (u := .type "int") (by rfl) E.int (by decide +kernel) rfl) pa_nil))) (pe_and (pe_not (pe_callB (k_isi (K := K) rfl) (by rfl) E.isinstance (by decide +kernel) (pa_cons (pv 0) (pa_cons (pe_bltn (v := .ty "bool") (u := .type "bool") (by rfl) E.bool (by decide +kernel) rfl) pa_nil)))) (pe_one (pe_cmpR (k_eqD (K := K) rfl hr.units) (pv 0) (pv 1) (nomark _))))))))), ?_⟩
      refine sd_seq (sd_if (et_test (ed_isiT (b := false) (ed_var rfl) rfl)) (fun e => by cases e) fun _ => sd_next ?_)
      refine sd_seq (sd_if (b := true) (et_or (a := false) (b := true) (et_B (ed_isN (ed_var rfl) rfl)) fun _ => et_test (ed_isiT (b := true) (ed_var rfl) rfl)) (fun _ => ?_) fun e => by cases e)
      exact sd_ret (ed_andV (a := true) (b := true) (ed_op (ed_var rfl) (ed_var rfl) (rd_eqD hx hx (eqv_str x))) fun _ => ed_andV (a := true) (b := true) (ed_op (ed_isi (b := false) (ed_var rfl) rfl) (ed_isi (b := false) (ed_var rfl) rfl) rd_eqBl) fun _ => ed_op (ed_isN (ed_var rfl) rfl) (ed_isN (ed_var rfl) rfl) rd_eqBl) hp
    | list xs =>
      cases n with
      | zero => exact hf.elim
      | succ m =>
        cases hR m rfl
        refine ⟨_, (pss_cons (ps_if (pt_val (pe_callB (k_isiT (K := K) rfl) (by rfl) E.isinstance (by decide +kernel) (pa_cons (pv 1) (pa_cons (pe_tup (pa_cons (pe_bltn (v := .ty "list") (u := .type "list") (by rfl) E.list (by decide +kernel) rfl) (pa_cons (pe_bltn (v := .ty "tuple") (u := .type "tuple") (by rfl) E.tuple (by decide +kernel) rfl) pa_nil))) pa_nil)))) (pss_cons (ps_if (PW.pt (pw_or (pt_cmpR op_ne (pe_callB (k_isi (K := K) rfl) (by rfl) E.isinstance (by decide +kernel) (pa_cons (pv 0) (pa_cons (pe_bltn (v := .ty "list") (u := .type "list") (by rfl) E.list (by decide +kernel) rfl) pa_nil))) (pe_callB (k_isi (K := K) rfl) (by rfl) E.isinstance (by decide +kernel) (pa_cons (pv 1) (pa_cons (pe_bltn (v := .ty "list") (u := .type "list") (by rfl) E.list (by decide +kernel) rfl) pa_nil))) (nomark _)) (pw_or1 (pt_cmpR op_ne (pe_callB (k_isi (K := K) rfl) (by rfl) E.isinstance (by decide +kernel) (pa_cons (pv 0) (pa_cons (pe_bltn (v := .ty "tuple") (u := .type "tuple") (by rfl) E.tuple (by decide +kernel) rfl) pa_nil))) (pe_callB (k_isi (K := K) rfl) (by rfl) E.isinstance (by decide +kernel) (pa_cons (pv 1) (pa_cons (pe_bltn (v := .ty "tuple") (u := .type "tuple") (by rfl) E.tuple (by decide +kernel) rfl) pa_nil))) (nomark _))))) (pss_one (ps_ret pe_bl)) pss_nil) (pss_one (ps_ret (pe_and (pe_cmpR op_eq (pe_callB (k_len (K := K) rfl) (by rfl) E.len PySem.boot_len (pa_cons (pv 0) pa_nil)) (pe_callB (k_len (K := K) rfl) (by rfl) E.len PySem.boot_len (pa_cons (pv 1) pa_nil)) (nomark _)) (pe_one (pe_callB (k_all (K := K) rfl rfl) (by rfl) E.all (by decide +kernel) (pa_cons (pe_lc (own := [("_law_mine", 2), ("_law_its", 3)]) rfl sc_law_same.nd (k_zip (K := K) rfl (by rfl) E.zip (pa_cons (pv 0) (pa_cons (pv 1) pa_nil))) (blkOk_by (own := [("_law_mine", 2), ("_law_its", 3)]) (N := N_law_same) (sc := (defScope s_law_same)) (by decide +kernel)) (fun _ _ _ _ _ => (k_gtup (K := K) (n := 2) rfl rfl (pgs_cons (pg_name (i := 2) sc_law_same.nd rfl (Or.inl rfl) (Or.inr rfl)) (pgs_cons (pg_name (i := 3) sc_law_same.nd rfl (Or.inl rfl) (Or.inr rfl)) pgs_nil)))) (fun _ _ _ _ _ => pts_nil) (fun _ _ _ _ _ => (pe_c c_law_same hr (by omega) (by rfl) (pa_cons (pv 2) (pa_cons (pv 3) pa_nil))))) pa_nil))))))) pss_nil) (pss_cons (ps_if (PW.pt (pw_or (pt_cmp (pc_isN (pv 1)) (by rfl)) (pw_or1 (pt_val (pe_callB (k_isiT (K := K) rfl) (by rfl) E.isinstance (by decide +kernel) (pa_cons (pv 1) (pa_cons (pe_tup (pa_cons (pe_bltn (v := .ty "bool") (u := .type "bool") (by rfl) E.bool (by decide +kernel) rfl) (pa_cons (pe_bltn (v := .ty "str") (u := .type "str") (by rfl) E.str (by decide +kernel) rfl) pa_nil))) pa_nil))))))) (pss_one (ps_ret (pe_and (pe_cmpR (k_eqD (K := K) rfl hr.units) (pv 0) (pv 1) (nomark _)) (pe_and (pe_cmpR op_eq (pe_callB (k_isi (K := K) rfl) (by rfl) E.isinstance (by decide +kernel) (pa_cons (pv 0) (pa_cons (pe_bltn (v := .ty "bool") (u := .type "bool") (by rfl) E.bool (by decide +kernel) rfl) pa_nil))) (pe_callB (k_isi (K := K) rfl) (by rfl) E.isinstance (by decide +kernel) (pa_cons (pv 1) (pa_cons (pe_bltn (v := .ty "bool") (u := .type "bool") (by rfl) E.bool (by decide +kernel) rfl) pa_nil))) (nomark _)) (pe_one (pe_cmpR op_eq (pe_cmp (pc_isN (pv 0)) rfl) (pe_cmp (pc_isN (pv 1)) rfl) (nomark _))))))) pss_nil) (pss_one (ps_ret (pe_and (pe_callB (k_isi (K := K) rfl) (by rfl) E.isinstance (by decide +kernel) (pa_cons (pv 0) (pa_cons (pe_bltn (v := .ty "int") (u := .type "int") (by rfl) E.int (by decide +kernel) rfl) pa_nil))) (pe_and (pe_not (pe_callB (k_isi (K := K) rfl) (by rfl) E.isinstance (by decide +kernel) (pa_cons (pv 0) (pa_cons (pe_bltn (v := .ty "bool") (u := .type "bool") (by rfl) E.bool (by decide +kernel) rfl) pa_nil)))) (pe_one (pe_cmpR (k_eqD (K := K) rfl hr.units) (pv 0) (pv 1) (nomark _))))))))), ?_⟩
        refine sd_seq (sd_if (et_test (ed_isiT (b := true) (ed_var rfl) rfl)) (fun _ => ?_) fun e => by cases e)
        refine sd_seq (sd_if (b := false) (et_or (a := false) (b := false) (et_test (ed_op (ed_isi (b := true) (ed_var rfl) rfl) (ed_isi (b := true) (ed_var rfl) rfl) rd_neBl)) fun _ => et_test (ed_op (ed_isi (b := false) (ed_var rfl) rfl) (ed_isi (b := false) (ed_var rfl) rfl) rd_neBl)) (fun e => by cases e) fun _ => sd_next ?_)
        refine sd_ret (ed_andV (a := true) (b := true) (ed_is (ed_op (ed_cb (ea_cons (ed_var rfl) ea_nil) rc_lenL) (ed_cb (ea_cons (ed_var rfl) ea_nil) rc_lenL) rd_eqI) ?_) fun _ => ed_is (ed_cb (ea_cons (ed_is (ed_lc1 xs (fun x => PyData.tuple [x, x]) (fun _ => PyData.bool true) ?_ (by have := hf.1; omega) fun x hx => ⟨_, _, by simp, tg_pair, ?_⟩) (e := .list ((xs.map fun _ => true).map PyData.bool)) ?_) ea_nil) rc_all) ?_) hp
        · simp
        · rw [← zipD_self]
          exact id_zipL (ea_cons (ed_var rfl) (ea_cons (ed_var rfl) ea_nil))
        · exact ed_call (ea_cons (ed_var rfl) (ea_cons (ed_var rfl) ea_nil)) ⟨x, rfl, hf.2 x hx, rfl⟩
        · rw [List.map_map]
          rfl
        · simp
    | tuple xs =>
      cases n with
      | zero => exact hf.elim
      | succ m =>
        cases hR m rfl
        refine ⟨_, (pss_cons (ps_if (pt_val (pe_callB (k_isiT (K := K) rfl) (by rfl) E.isinstance (by decide +kernel) (pa_cons (pv 1) (pa_cons (pe_tup (pa_cons (pe_bltn (v := .ty "list") (u := .type "list") (by rfl) E.list (by decide +kernel) rfl) (pa_cons (pe_bltn (v := .ty "tuple") (u := .type "tuple") (by rfl) E.tuple (by decide +kernel) rfl) pa_nil))) pa_nil)))) (pss_cons (ps_if (PW.pt (pw_or (pt_cmpR op_ne (pe_callB (k_isi (K := K) rfl) (by rfl) E.isinstance (by decide +kernel) (pa_cons (pv 0) (pa_cons (pe_bltn (v := .ty "list") (u := .type "list") (by rfl) E.list (by decide +kernel) rfl) pa_nil))) (pe_callB (k_isi (K := K) rfl) (by rfl) E.isinstance (by decide +kernel) (pa_cons (pv 1) (pa_cons (pe_bltn (v := .ty "list") (u := .type "list") (by rfl) E.list (by decide +kernel) rfl) pa_nil))) (nomark _)) (pw_or1 (pt_cmpR op_ne (pe_callB (k_isi (K := K) rfl) (by rfl) E.isinstance (by decide +kernel) (pa_cons (pv 0) (pa_cons (pe_bltn (v := .ty "tuple") (u := .type "tuple") (by rfl) E.tuple (by decide +kernel) rfl) pa_nil))) (pe_callB (k_isi (K := K) rfl) (by rfl) E.isinstance (by decide +kernel) (pa_cons (pv 1) (pa_cons (pe_bltn (v := .ty "tuple") (u := .type "tuple") (by rfl) E.tuple (by decide +kernel) rfl) pa_nil))) (nomark _))))) (pss_one (ps_ret pe_bl)) pss_nil) (pss_one (ps_ret (pe_and (pe_cmpR op_eq (pe_callB (k_len (K := K) rfl) (by rfl) E.len PySem.boot_len (pa_cons (pv 0) pa_nil)) (pe_callB (k_len (K := K) rfl) (by rfl) E.len PySem.boot_len (pa_cons (pv 1) pa_nil)) (nomark _)) (pe_one (pe_callB (k_all (K := K) rfl rfl) (by rfl) E.all (by decide +kernel) (pa_cons (pe_lc (own := [("_law_mine", 2), ("_law_its", 3)]) rfl sc_law_same.nd (k_zip (K := K) rfl (by rfl) E.zip (pa_cons (pv 0) (pa_cons (pv 1) pa_nil))) (blkOk_by (own := [("_law_mine", 2), ("_law_its", 3)]) (N := N_law_same) (sc := (defScope s_law_same)) (by decide +kernel)) (fun _ _ _ _ _ => (k_gtup (K := K) (n := 2) rfl rfl (pgs_cons (pg_name (i := 2) sc_law_same.nd rfl (Or.inl rfl) (Or.inr rfl)) (pgs_cons (pg_name (i := 3) sc_law_same.nd rfl (Or.inl rfl) (Or.inr rfl)) pgs_nil)))) (fun _ _ _ _ _ => pts_nil) (fun _ _ _ _ _ => (pe_c c_law_same hr (by omega) (by rfl) (pa_cons (pv 2) (pa_cons (pv 3) pa_nil))))) pa_nil))))))) pss_nil) (pss_cons (ps_if (PW.pt (pw_or (pt_cmp (pc_isN (pv 1)) (by rfl)) (pw_or1 (pt_val (pe_callB (k_isiT (K := K) rfl) (by rfl) E.isinstance (by decide +kernel) (pa_cons (pv 1) (pa_cons (pe_tup (pa_cons (pe_bltn (v := .ty "bool") (u := .type "bool") (by rfl) E.bool (by decide +kernel) rfl) (pa_cons (pe_bltn (v := .ty "str") (u := .type "str") (by rfl) E.str (by decide +kernel) rfl) pa_nil))) pa_nil))))))) (pss_one (ps_ret (pe_and (pe_cmpR (k_eqD (K := K) rfl hr.units) (pv 0) (pv 1) (nomark _)) (pe_and (pe_cmpR op_eq (pe_callB (k_isi (K := K) rfl) (by rfl) E.isinstance (by decide +kernel) (pa_cons (pv 0) (pa_cons (pe_bltn (v := .ty "bool") (u := .type "bool") (by rfl) E.bool (by decide +kernel) rfl) pa_nil))) (pe_callB (k_isi (K := K) rfl) (by rfl) E.isinstance (by decide +kernel) (pa_cons (pv 1) (pa_cons (pe_bltn (v := .ty "bool") (u := .type "bool") (by rfl) E.bool (by decide +kernel) rfl) pa_nil))) (nomark _)) (pe_one (pe_cmpR op_eq (pe_cmp (pc_isN (pv 0)) rfl) (pe_cmp (pc_isN (pv 1)) rfl) (nomark _))))))) pss_nil) (pss_one (ps_ret (pe_and (pe_callB (k_isi (K := K) rfl) (by rfl) E.isinstance (by decide +kernel) (pa_cons (pv 0) (pa_cons (pe_bltn (v := .ty "int") (u := .type "int") (by rfl) E.int (by decide +kernel) rfl) pa_nil))) (pe_and (pe_not (pe_callB (k_isi (K := K) rfl) (by rfl) E.isinstance (by decide +kernel) (pa_cons (pv 0) (pa_cons (pe_bltn (v := .ty "bool") (u := .type "bool") (by rfl) E.bool (by decide +kernel) rfl) pa_nil)))) (pe_one (pe_cmpR (k_eqD (K := K) rfl hr.units) (pv 0) (pv 1) (nomark _))))))))), ?_⟩
        refine sd_seq (sd_if (et_test (ed_isiT (b := true) (ed_var rfl) rfl)) (fun _ => ?_) fun e => by cases e)
        refine sd_seq (sd_if (b := false) (et_or (a := false) (b := false) (et_test (ed_op (ed_isi (b := false) (ed_var rfl) rfl) (ed_isi (b := false) (ed_var rfl) rfl) rd_neBl)) fun _ => et_test (ed_op (ed_isi (b := true) (ed_var rfl) rfl) (ed_isi (b := true) (ed_var rfl) rfl) rd_neBl)) (fun e => by cases e) fun _ => sd_next ?_)
        refine sd_ret (ed_andV (a := true) (b := true) (ed_is (ed_op (ed_cb (ea_cons (ed_var rfl) ea_nil) rc_lenT) (ed_cb (ea_cons (ed_var rfl) ea_nil) rc_lenT) rd_eqI) ?_) fun _ => ed_is (ed_cb (ea_cons (ed_is (ed_lc1 xs (fun x => PyData.tuple [x, x]) (fun _ => PyData.bool true) ?_ (by have := hf.1; omega) fun x hx => ⟨_, _, by simp, tg_pair, ?_⟩) (e := .list ((xs.map fun _ => true).map PyData.bool)) ?_) ea_nil) rc_all) ?_) hp
        · simp
        · rw [← zipD_self]
          exact id_zipT (ea_cons (ed_var rfl) (ea_cons (ed_var rfl) ea_nil))
        · exact ed_call (ea_cons (ed_var rfl) (ea_cons (ed_var rfl) ea_nil)) ⟨x, rfl, hf.2 x hx, rfl⟩
        · rw [List.map_map]
          rfl
        · simp
theorem cal_law_same (E : Bl mg) (D : DefAt K mg "_law_same" s_law_same) : ∀ n, Cal P w K mg base (n + 2) "_law_same" (spD T (R_law_same n)) []
  | 0 => cal_law_sameS E D _ 1 (cal_law_same0 E D) 0 fun m h => by cases h
  | n + 1 => cal_law_sameS E D _ (n + 2) (cal_law_same E D n) (n + 1) fun m h => by cases h; rfl
end
end Sh
-- Sl3
set_option maxRecDepth 100000
set_option maxHeartbeats 4000000
/-! what is heard: told_hour's answer or its error -/
namespace Sh
open PySem PySem.Spec PyProof.Rows L2 RZ
open C8 (Cal pe_c)
open Mx
/-- a suite's reading for errors of one class alone -/
def tsX (D : Addr) (ts : Addr → TS) : Addr → Value → Option Addr → TS := fun a cls d En σ H => cls = .ref D ∧ d = none ∧ ts a En σ H
theorem ps_try_is {X : Cx} {x n : Str} {c : Value} {i : Nat} {body suite : List Stmt} {b₀ : Stmt} {np pos pos' : Pos} {tb : WX → TS} {ts : Addr → TS} {Wout : WX} {D : Addr} (hs : X.stack = X.env :: X.outer) (hf : X.env.frame = some X.env.locals) (hN : X.N.Nodup) (hi : X.N[i]? = some n) (hln : X.env.kindOf n = some .local) (hc : Names X x c) (tk : Takes X Wout)
    (hb : ∀ (W : WX) (pn : List (Addr × Obj)) (xe : Value → Shared → Prop), Takes (X.tr pn xe) W → PassesOwn (model X.prog X.w) X.A X.env xe → PSs (X.tr pn xe) body (tb W))
    (hsu : ∀ (a : Addr) (oe : Obj) (pn : List (Addr × Obj)), Zc (.ref D) none oe → (∃ vs, oe.data = .fields vs) → PSs (X.suite a ((a, oe) :: pn)) (b₀ :: suite) (ts a)) :
    PS X (.Try body [.ExceptHandler (some (.Name x np)) (some n) (b₀ :: suite) pos'] [] [] pos) (fun En σ H => tb (wAs X.K c i (tsX D ts) Wout En) En σ H) :=
  ps_try_as hs hf hN hi hln hc tk hb fun a oe cls d pn hz hf => ⟨fun pins s σ H En I h => by
    obtain ⟨rfl, rfl, h⟩ := h
    exact (hsu a oe pn hz hf).run pins s σ H En I h⟩
theorem EnvD.blur {G : Hp} {σ : L2.St} {δ : Dl} {x : Option V} (h : EnvD G σ δ) (i : Nat) : EnvD G (σ.set i x) (δ.set i none) := by
  refine ⟨by simpa using h.1, fun j e he => ?_⟩
  by_cases hj : i = j
  · subst hj
    rcases Nat.lt_or_ge i δ.length with z | z
    · rw [List.getElem?_set_self z] at he
      cases he
    · rw [List.getElem?_eq_none (by simpa using z)] at he
      cases he
  · rw [List.getElem?_set_ne hj] at he
    obtain ⟨u, h1, h2⟩ := h.2 j e he
    exact ⟨u, by rw [List.getElem?_set_ne hj]; exact h1, h2⟩
/-- try: a = f(..) except X as e: a = ['m', isinstance(e, T)] -/
theorem sx_tryAs {T : Tb} {G0 H0 : Hp} {δ : Dl} {nx : Dl → Prop} {rt : DD → Prop} {ta : TA} {ds : List DD} {R : List DD → (DD → Prop) → (Value → Prop) → Prop} {post : DD → Prop} {er : Value → Prop} {K : PySem.W.Frag} {cx : Value} {D : Addr} {Wout : WX} {i j : Nat} {m : Str} {tn : String}
    (h : EA T ta δ ds) (hr : R ds post er) (hi : i < δ.length) (hn : ∀ d, post d → nx (δ.set j (some d))) (he : ∀ c, er c → c = .ref D) (h1 : PySem.W.exmOne K (.ref D) cx = some true) (h2 : PySem.W.kitOne K (.ref D) (.type tn) = some true)
    (hn2 : ∀ c, er c → nx (((δ.set i none).set j (some (.list [.str m, .bool true]))).set i none)) :
    SX T G0 H0 (fun En σ H => tAsg (tCallS (spX T R) (WE (wAs K cx i (tsX D fun a => tAsg (tLst (tCons (tC (.str m)) (tCons (tCB (rIsE K D a) (tCons (tVar i) (tCons (tC (.ty tn)) tNil))) tNil))) (gName j)) Wout En)) ta) (gName j) En σ H) δ nx rt := fun σ G H o st En hx hrt =>
  h σ G H o _ fun vs G1 H1 s1 d1 => ⟨G1, ds, post, er, s1.gh, s1.tt o.t, (o.step s1).nt, d1, hr, fun d v G2 H2 hp s2 d2 => by
    have o2 := (o.step s1).step s2
    exact hx _ _ G2 H2 (hn d hp) ((st.trans s1).trans s2) ⟨o2.s, o2.t, o2.e.set j d2, o2.nt⟩, fun c G2 H2 hc s2 => by
    have ec := he c hc
    subst ec
    have o2 := (o.step s1).step s2
    refine ⟨true, h1, fun _ a ha => ⟨rfl, rfl, ?_⟩, fun e => by cases e⟩
    have hlen : i < σ.length := by rw [o.e.1]; exact hi
    refine ⟨.ref a, List.getElem?_set_self hlen, ?_⟩
    refine ⟨.ty tn, .type tn, true, rfl, fun u r => r, h2, by show 2 ≤ sizeLine; decide, fun p hpn => ?_⟩
    have s3 := Step.new (T := T) (o := .lst [.str m, .bl true]) o2.s hpn
    have o3 := o2.step s3
    refine hx _ _ _ _ (hn2 _ hc) (((st.trans s1).trans s2).trans s3) ⟨o3.s, o3.t, ?_, o3.nt⟩
    exact ((o3.e.blur i).set j (.lst upd_same (.cons (.str m) (.cons (.bl true) .nil)))).blur i⟩
/-- THE RULE: a def that raises nothing, with a try in it -/
theorem cal_t {P : Program} {w : World} {K : PySem.W.Frag} {mg : Str → Option Value} {base : Heap} {T : Tb} {x : Str} {st : Stmt} {N ps : List Str} {k : Nat} {R : List DD → (DD → Prop) → Prop}
    (D : DefAt K mg x st) (S : FnScope N ps (defScope st))
    (hbind : ∀ (kV doc pm : Value) (an : Option Addr) (cdv ct : Value) (us : List Value), us.length = ps.length → bindArgs (PySem.W.fnOf x x (defArgs st) (defBody st) (defScope st) .none kV doc pm an cdv ct) ⟨us, []⟩ = pure (ps.zip us))
    (hl : ∀ ds post, R ds post → ds.length = ps.length)
    (hb : ∀ (f : Addr) (cdv : Value) (A : Around) (outer : List Env) (s : Shared) (H : Hp) (E : XK), Room k (A.deeper (envOfC x (defScope st) s.heap.objs.size f cdv)) → ∀ ds post, R ds post → ∀ G0,
      ∃ t, PSs (cxOf C8.CX0 P w K mg base N x (defScope st) f cdv A outer s H E) (defBody st) t ∧ SX T G0 H t (startD N ds) (fun _ => post .none) post) :
    Cal P w K mg base (k + 1) x (spD T R) [] := by
  obtain ⟨f, fd, F, hm⟩ := D.ex
  refine ⟨f, fd, ps, [], ?_, hm, F.kp, F.bindsN hbind, .nil⟩
  refine F.ok S (fun vs H Q E h => ?_) (fun cdv A outer s H vs Q E hr h => ?_)
  · obtain ⟨G, ds, post, _, _, _, hd, hR, _⟩ := h
    rw [dqa_len hd]
    exact hl ds post hR
  · obtain ⟨G, ds, post, hs, ht, hnt, hd, hR, q⟩ := h
    obtain ⟨t, h1, h2⟩ := hb f cdv A outer s H E hr ds post hR G
    refine ⟨t, h1, h2 _ G H ⟨hs, ht, startD_ok hd, hnt⟩ (Step.refl hs) _ (fun σ' δ' G2 H2 hp s2 ok => ?_) fun d v G2 H2 hp s2 dv => ?_⟩
    · exact q .none .non G2 H2 hp s2 .non
    · exact q d v G2 H2 hp s2 dv
/-- what isinstance asks of the class Unfit -/
structure UnfIs (K : PySem.W.Frag) (CU : Addr) : Prop where
  C : ExcC K CU
  ve : PySem.W.kitOne K (.ref CU) (.type "ValueError") = some true
section
variable {P : Program} {w : World} {K : PySem.W.Frag} {mg : Str → Option Value} {base : Heap} {T : Tb}
abbrev s_law_heard : Stmt := top 60
abbrev N_law_heard : List Str := ["_law_n_so", "_law_sights_so", "_law_size_so", "_law_row_so", "_law_told_so", "error_so"]
theorem sc_law_heard : FnScope N_law_heard ["_law_n_so", "_law_sights_so", "_law_size_so", "_law_row_so"] (defScope s_law_heard) := ⟨rfl, rfl, rfl, by decide +kernel, rfl, by decide +kernel, by decide +kernel⟩
def unfD : DD := .list [.str "unfit", .bool true]
def R_law_heard (ds : List DD) (post : DD → Prop) : Prop := ∃ (n : Nat) (d : DD) (S : Sgt) (size : Int) (dr : DD) (row : Mx.Row), ds = [.int n, d, .int size, dr] ∧ IsS d S ∧ SgOk n size S ∧ IsR dr row ∧ row.length = n ∧ (∀ x ∈ row, x.natAbs ≤ 2 ^ 8) ∧
  (¬ Fits n S size → post unfD) ∧ (Fits n S size → (¬ InS (rowsS S ++ roundsR size n) n row → post .none) ∧ ∀ m, Makes (rowsS S ++ roundsR size n) row m → post (.int ((dot (m.take S.length) (hrsS S)).fmod size)))
theorem cal_law_heard (E : Bl mg) {CU : Addr} (OUnfit : OwnX K mg "Unfit" CU) (U : UnfIs K CU) (c_told_hour : CalX P w K mg base 9 "told_hour" (spX T (R_told_hour CU))) (D : DefAt K mg "_law_heard" s_law_heard) : Cal P w K mg base 10 "_law_heard" (spD T R_law_heard) [] := by
  refine cal_t D sc_law_heard (fun _ _ _ _ _ _ us hl => match us, hl with | [_, _, _, _], _ => rfl) (fun ds post h => ?_) (fun f cdv A outer s H E0 hr ds post h G0 => ?_)
  · obtain ⟨_, _, _, _, _, _, rfl, _⟩ := h
    rfl
  · obtain ⟨n, d, S, size, dr, row, rfl, hS, o, hR, hl, hb, hU, hF⟩ := h
    refine ⟨_, (pss_cons (ps_set (i := 4) sc_law_heard.nd rfl (Or.inl rfl) pe_str) (pss_cons (ps_try_is (i := 5) rfl rfl sc_law_heard.nd rfl rfl ⟨by rfl, by decide, .inl OUnfit.gC⟩ L2.takes0 (fun W pn xe tk _ => (pss_one (ps_set (i := 4) sc_law_heard.nd rfl (Or.inl rfl) (pe_cx c_told_hour tk hr (by omega) (by rfl) (pa_cons (pv 0) (pa_cons (pv 1) (pa_cons (pv 2) (pa_cons (pv 3) pa_nil)))))))) (fun a oe pn hz hf => (pss_one (ps_set (i := 4) sc_law_heard.nd rfl (Or.inl rfl) (pe_lst (pa_cons pe_str (pa_cons (pe_callB (call_isE U.C hz hf) (by rfl) E.isinstance (by decide +kernel) (pa_cons (pv 5) (pa_cons (pe_bltn (v := .ty "ValueError") (u := .type "ValueError") (by rfl) E.ValueError (by decide +kernel) rfl) pa_nil))) pa_nil))))))) (pss_one (ps_ret (pv 4))))), ?_⟩
    refine sx_seq (sx_of (sd_set ed_str ?_))
    refine sx_seq (sx_tryAs (ds := [.int n, d, .int size, dr]) (post := post) (er := fun c => c = .ref CU ∧ ¬ Fits n S size) (ea_cons (ed_var rfl) (ea_cons (ed_var rfl) (ea_cons (ed_var rfl) (ea_cons (ed_var rfl) ea_nil)))) ⟨n, d, S, size, dr, row, rfl, hS, o, hR, hl, hb, fun h => ⟨rfl, h⟩, hF⟩ (show 5 < 6 by decide) (fun d hd => sx_of (sd_ret (ed_var rfl) hd)) (fun c h => h.1) OUnfit.eP U.ve fun c h => sx_of (sd_ret (ed_var rfl) (hU h.2)))
end
end Sh
-- Sl4
set_option maxRecDepth 100000
set_option maxHeartbeats 4000000
/-! what is drawn -/
namespace Sh
open PySem PySem.Spec PyProof.Rows L2 RZ
open C8 (Cal pe_c)
open Mx
theorem mul_smallR {o x : Int} (h : x.natAbs < 2 ^ 64) : IntMulOk o x := IntMulOk.of_right (intBits_le_64 (by omega) (by omega))
/-- the purse of draws -/
def Tin (k : Nat) (ds : List DD) : Prop := ∃ x y c : Int, ds = [.int x, .int y, .int c] ∧ 0 ≤ x ∧ 0 ≤ y ∧ y < 2 ^ 62 ∧ 0 ≤ c ∧ c ≤ k
section
variable {P : Program} {w : World} {K : PySem.W.Frag} {mg : Str → Option Value} {base : Heap} {T : Tb}
abbrev s_law_take : Stmt := top 43
abbrev N_law_take : List Str := ["_law_tin", "_law_below_so", "_law_drawn", "_law_once_so", "_law_wide_so", "_law_twice_so"]
theorem sc_law_take : FnScope N_law_take ["_law_tin", "_law_below_so"] (defScope s_law_take) := ⟨rfl, rfl, rfl, by decide +kernel, rfl, by decide +kernel, by decide +kernel⟩
def R_law_take (rs : List MD) (μ : Mu) (post : MD → Mu → Prop) : Prop := ∃ (a : Addr) (ds : List DD) (k b : Nat), rs = [.m a, .d (.int b)] ∧ μ a = some ds ∧ Tin k ds ∧ k ≤ 1000 ∧ 1 ≤ b ∧ b ≤ 1000 ∧ ∀ (v : Nat) (ds' : List DD), v < b → Tin (k + 1) ds' → post (.d (.int v)) (updM μ a ds')
theorem fmod_nat {x : Int} {b : Nat} (hb : 1 ≤ b) : ∃ v : Nat, x.fmod b = v ∧ v < b := by
  have h1 := Int.fmod_nonneg_of_pos x (b := (b : Int)) (by omega)
  have h2 := Int.fmod_lt_of_pos x (b := (b : Int)) (by omega)
  exact ⟨(x.fmod b).toNat, by omega, by omega⟩
theorem cal_law_take (E : Bl mg) (D : DefAt K mg "_law_take" s_law_take) : Cal P w K mg base 1 "_law_take" (spM T R_law_take) [] := by
  refine cal_m D sc_law_take (fun _ _ _ _ _ _ us hl => match us, hl with | [_, _], _ => rfl) (fun rs μ post h => ?_) (fun f cdv A outer s H E0 hr rs μ post h => ?_)
  · obtain ⟨_, _, _, _, rfl, _⟩ := h
    rfl
  · obtain ⟨a, ds, k, b, rfl, hm, ⟨x, y, c, rfl, x0, y0, y1, c0, c1⟩, hk, b1, b2, hp⟩ := h
    refine ⟨_, (pss_cons (ps_if (pt_cmpR op_gt (pe_ix (k_ix (K := K) rfl) (pv 0) pe_int (fun _ _ => rfl)) pe_int (nomark _)) (pss_cons (ps_set (i := 2) sc_law_take.nd rfl (Or.inl rfl) (pe_op op_modN (pe_callTy cr_int (by rfl) E.int (by decide +kernel) (pa_cons (pe_ix (k_ix (K := K) rfl) (pv 0) pe_int (fun _ _ => rfl)) pa_nil)) (pv 1))) (pss_cons (ps_asg (pe_op op_fdivB (pe_ix (k_ix (K := K) rfl) (pv 0) pe_int (fun _ _ => rfl)) (pv 1)) (pg_sub (pv 0) pe_int set_list)) (pss_one (ps_ret (pv 2))))) pss_nil) (pss_cons (ps_asg (pe_op op_add (pe_ix (k_ix (K := K) rfl) (pv 0) pe_int (fun _ _ => rfl)) pe_int) (pg_sub (pv 0) pe_int set_list)) (pss_cons (ps_set (i := 3) sc_law_take.nd rfl (Or.inl rfl) (pe_op op_modN (pe_callTy cr_int (by rfl) E.int (by decide +kernel) (pa_cons (pe_op op_mulB (pe_op op_add (pe_ix (k_ix (K := K) rfl) (pv 0) pe_int (fun _ _ => rfl)) (pe_op op_mulB pe_int (pe_ix (k_ix (K := K) rfl) (pv 0) pe_int (fun _ _ => rfl)))) (pe_op op_add pe_int (pe_ix (k_ix (K := K) rfl) (pv 0) pe_int (fun _ _ => rfl)))) pa_nil)) pe_int)) (pss_cons (ps_set (i := 4) sc_law_take.nd rfl (Or.inl rfl) (pe_op op_add (pe_op op_modN (pe_callTy cr_int (by rfl) E.int (by decide +kernel) (pa_cons (pv 3) pa_nil)) pe_int) pe_int)) (pss_cons (ps_set (i := 5) sc_law_take.nd rfl (Or.inl rfl) (pe_op op_modN (pe_callTy cr_int (by rfl) E.int (by decide +kernel) (pa_cons (pe_op op_mulB (pe_op op_add (pe_op op_add (pv 3) (pe_ix (k_ix (K := K) rfl) (pv 0) pe_int (fun _ _ => rfl))) (pe_op op_fdivB (pe_ix (k_ix (K := K) rfl) (pv 0) pe_int (fun _ _ => rfl)) pe_int)) (pv 4)) pa_nil)) pe_int)) (pss_one (ps_ret (pe_op op_modN (pe_callTy cr_int (by rfl) E.int (by decide +kernel) (pa_cons (pe_op op_fdivB (pe_op op_modN (pe_callTy cr_int (by rfl) E.int (by decide +kernel) (pa_cons (pe_op op_add (pe_op op_mulB (pv 5) pe_int) (pv 3)) pa_nil)) pe_int) pe_int) pa_nil)) (pv 1))))))))), ?_⟩
    have hb0 : (b : Int) ≠ 0 := by omega
    refine sm_seq (sm_ifB (et_test (ed_op (ed_op (ed_var (d := .list [.int x, .int y, .int c]) (congrArg some (seen_m hm))) ed_int (rd_ix_l (k := 0) rfl)) ed_int rd_B0)) (fun _ => ?_) fun _ => sm_next ?_)
    · obtain ⟨v, hv1, hv2⟩ := fmod_nat (x := x) b1
      refine sm_seq (sm_set (xm_of (em_lf (ed_op (ed_cb (ea_cons (ed_op (ed_var (d := .list [.int x, .int y, .int c]) (congrArg some (seen_m hm))) ed_int (rd_ix_l (k := 0) rfl)) ea_nil) rc_intI) (ed_var rfl) (rd_I hb0)) rfl) ?_))
      refine sm_seq (sm_asg (xm_of (em_lf (ed_op (ed_op (ed_var (d := .list [.int x, .int y, .int c]) (congrArg some (seen_m hm))) ed_int (rd_ix_l (k := 0) rfl)) (ed_var rfl) (rd_I (C := CDivB) (div_ok hb0 (Nat.le_trans (by omega : (b : Int).natAbs ≤ 2 ^ 10) (Nat.pow_le_pow_right (by decide) (by decide)))))) rfl) ⟨_, rfl, tm_sub rfl hm ed_int (ix_nat (n := 3) (i := 0) (by decide)) ?_⟩))
      refine sm_ret (xm_of (em_var rfl) ?_)
      rw [hv1]
      refine hp v _ hv2 ⟨x.fdiv b, y, c, rfl, Int.fdiv_nonneg x0 (by omega), y0, y1, c0, by omega⟩
    · refine sm_seq (sm_asg (xm_of (em_lf (ed_op (ed_op (ed_var (d := .list [.int x, .int y, .int c]) (congrArg some (seen_m hm))) ed_int (rd_ix_l (k := 2) rfl)) ed_int rd_I0) rfl) ⟨_, rfl, tm_sub rfl hm ed_int (ix_nat (n := 3) (i := 2) (by decide)) ?_⟩))
      have hm2 : updM μ a [.int x, .int y, .int (c + 1)] a = some [.int x, .int y, .int (c + 1)] := updM_same
      have sn := seen_m hm2
      obtain ⟨o, ho1, ho2⟩ := fmod_nat (x := (y + 48271 * (c + 1)) * (39373 + (c + 1))) (b := 2147483647) (by decide)
      refine sm_seq (sm_set (xm_of (d := .int o) (em_lf (ed_is (ed_op (ed_cb (ea_cons (ed_op (ed_op (ed_op (ed_var (d := .list [.int x, .int y, .int (c + 1)]) (congrArg some sn)) ed_int (rd_ix_l (k := 1) rfl)) (ed_op ed_int (ed_op (ed_var (d := .list [.int x, .int y, .int (c + 1)]) (congrArg some sn)) ed_int (rd_ix_l (k := 2) rfl)) (rd_I (mul_small (by decide)))) rd_I0)
        (ed_op ed_int (ed_op (ed_var (d := .list [.int x, .int y, .int (c + 1)]) (congrArg some sn)) ed_int (rd_ix_l (k := 2) rfl)) rd_I0) (rd_I (mul_smallR (by omega)))) ea_nil) rc_intI) ed_int (rd_I (by decide))) (by rw [← ho1]; rfl)) rfl) ?_))
      obtain ⟨u, hu1, hu2⟩ := fmod_nat (x := (o : Int)) (b := 40009) (by decide)
      refine sm_seq (sm_set (xm_of (d := .int (u + 7)) (em_lf (ed_is (ed_op (ed_op (ed_cb (ea_cons (ed_var rfl) ea_nil) rc_intI) ed_int (rd_I (by decide))) ed_int rd_I0) (by rw [← hu1]; rfl)) rfl) ?_))
      obtain ⟨q, hq1, hq2⟩ := fmod_nat (x := ((o : Int) + (c + 1) + y.fdiv 1000003) * (u + 7)) (b := 2147483629) (by decide)
      refine sm_seq (sm_set (xm_of (d := .int q) (em_lf (ed_is (ed_op (ed_cb (ea_cons (ed_op (ed_op (ed_op (ed_var rfl) (ed_op (ed_var (d := .list [.int x, .int y, .int (c + 1)]) (congrArg some sn)) ed_int (rd_ix_l (k := 2) rfl)) rd_I0) (ed_op (ed_op (ed_var (d := .list [.int x, .int y, .int (c + 1)]) (congrArg some sn)) ed_int (rd_ix_l (k := 1) rfl)) ed_int (rd_I (C := CDivB) ⟨by decide, by decide⟩)) rd_I0)
        (ed_var rfl) (rd_I (mul_smallR (by omega)))) ea_nil) rc_intI) ed_int (rd_I (by decide))) (by rw [← hq1]; rfl)) rfl) ?_))
      obtain ⟨v, hv1, hv2⟩ := fmod_nat (x := (((q : Int) * 48271 + o).fmod 2147483587).fdiv 64) b1
      refine sm_ret (xm_of (d := .int v) (em_lf (ed_is (ed_op (ed_cb (ea_cons (ed_op (ed_op (ed_cb (ea_cons (ed_op (ed_op (ed_var rfl) ed_int (rd_I (mul_smallR (by decide)))) (ed_var rfl) rd_I0) ea_nil) rc_intI) ed_int (rd_I (by decide))) ed_int (rd_I (C := CDivB) ⟨by decide, by decide⟩)) ea_nil) rc_intI) (ed_var rfl) (rd_I hb0)) (by rw [← hv1])) rfl) ?_)
      exact hp v _ hv2 ⟨x, y, c + 1, rfl, x0, y0, y1, by omega, by omega⟩
/-- one of such numbers -/
def goods (l : List Int) : DD := .list (l.map PyData.int)
abbrev s_law_of : Stmt := top 45
abbrev N_law_of : List Str := ["_law_tin", "_law_goods_so"]
theorem sc_law_of : FnScope N_law_of ["_law_tin", "_law_goods_so"] (defScope s_law_of) := ⟨rfl, rfl, rfl, by decide +kernel, rfl, by decide +kernel, by decide +kernel⟩
def R_law_of (rs : List MD) (μ : Mu) (post : MD → Mu → Prop) : Prop := ∃ (a : Addr) (ds : List DD) (k : Nat) (l : List Int), rs = [.m a, .d (goods l)] ∧ μ a = some ds ∧ Tin k ds ∧ k ≤ 1000 ∧ 1 ≤ l.length ∧ l.length ≤ 1000 ∧ ∀ (v : Int) (ds' : List DD), v ∈ l → Tin (k + 1) ds' → post (.d (.int v)) (updM μ a ds')
theorem cal_law_of (E : Bl mg) (c_law_take : Cal P w K mg base 1 "_law_take" (spM T R_law_take) []) (D : DefAt K mg "_law_of" s_law_of) : Cal P w K mg base 2 "_law_of" (spM T R_law_of) [] := by
  refine cal_m D sc_law_of (fun _ _ _ _ _ _ us hl => match us, hl with | [_, _], _ => rfl) (fun rs μ post h => ?_) (fun f cdv A outer s H E0 hr rs μ post h => ?_)
  · obtain ⟨_, _, _, _, rfl, _⟩ := h
    rfl
  · obtain ⟨a, ds, k, l, rfl, hm, ht, hk, l1, l2, hp⟩ := h
    refine ⟨_, (pss_one (ps_ret (pe_ix (k_ix (K := K) rfl) (pv 1) (pe_c c_law_take hr (by omega) (by rfl) (pa_cons (pv 0) (pa_cons (pe_callB (k_len (K := K) rfl) (by rfl) E.len PySem.boot_len (pa_cons (pv 1) pa_nil)) pa_nil))) (fun _ _ => rfl)))), ?_⟩
    refine sm_ret (xm_op (pa := fun r μ1 => r = .d (goods l) ∧ μ1 = μ) (xm_of (em_var rfl) ⟨rfl, rfl⟩) ?_)
    rintro x μ1 ⟨rfl, rfl⟩
    refine ⟨_, rfl, xm_call (xa_m rfl (xa_d (d := .int l.length) (em_is (em_cb (ma_cons (em_var (d := goods l) rfl) ma_nil) rc_lenL) (by rw [List.length_map])) (xa_nil ⟨a, ds, k, l.length, rfl, hm, ht, hk, l1, l2, fun v ds' hv ht' => ?_⟩)))⟩
    refine ⟨_, .int (l[v]), rfl, rd_ix_l (atI_nat ?_), hp _ _ (List.getElem_mem hv) ht'⟩
    rw [List.getElem?_map, List.getElem?_eq_getElem hv]
    rfl
end
end Sh
-- Sl5
set_option maxRecDepth 100000
set_option maxHeartbeats 4000000
/-! rows and sights that are drawn -/
namespace Sh
open PySem PySem.Spec PyProof.Rows L2 RZ
open C8 (Cal pe_c)
open Mx
theorem EnvM.drop {G : Hp} {σ : L2.St} {ε : Ml} (h : EnvM G σ ε) (i : Nat) : EnvM G (σ.set i none) (ε.set i none) := by
  refine ⟨by simpa using h.1, fun j e he => ?_⟩
  by_cases hj : i = j
  · subst hj
    rcases Nat.lt_or_ge i ε.length with z | z
    · rw [List.getElem?_set_self z] at he
      cases he
    · rw [List.getElem?_eq_none (by simpa using z)] at he
      cases he
  · rw [List.getElem?_set_ne hj] at he
    obtain ⟨u, h1, h2⟩ := h.2 j e he
    exact ⟨u, by rw [List.getElem?_set_ne hj]; exact h1, h2⟩
theorem tYes_of {σ : L2.St} {H : Hp} {k : Bool → Hp → Prop} (h : k true H) : tYes σ H k := h
/-- a list of what changes the table while it is made -/
theorem xm_lcE {T : Tb} {ε : Ml} {μ : Mu} {wi : TI} {te : TE} {j : Nat} {post : MD → Mu → Prop} {α : Type} (xs : List α) (enc : α → DD) (hi : IM T wi ε μ (xs.map enc)) (hl : xs.length ≤ 1000000) (Iv : Nat → List DD → Mu → Prop) (h0 : Iv 0 [] μ)
    (hs : ∀ (i : Nat) (x : α) (acc : List DD) (μ1 : Mu), xs[i]? = some x → acc.length = i → Iv i acc μ1 → XM T te ((ε.set j none).set j (some (.d (enc x)))) μ1 (fun r μ2 => ∃ d, r = .d d ∧ Iv (i + 1) (acc ++ [d]) μ2))
    (hp : ∀ acc μ1, acc.length = xs.length → Iv xs.length acc μ1 → post (.d (.list acc)) μ1) : XM T (tLc wi (gName j) tYes te [j]) ε μ post := fun σ G H o Q q =>
  hi σ G H o _ fun J G1 H1 s1 it => fun D hD => by
    have o1 := o.st s1
    have gD : G1 D = none := o1.s.free hD
    have mD : μ D = none := o1.mu.none hD
    have n1 : StM T μ G1 H1 μ G1 (upd H1 D (.lst [])) := .of (Step.newM o1.s hD) o1.mu
    refine ⟨fun i m H' => m = xs.length - i ∧ i ≤ xs.length ∧ ∃ G' μ' acc ds, StM T μ G1 H1 μ' G' H' ∧ H' D = some (.lst acc) ∧ G' D = none ∧ μ' D = none ∧ DqAll G' acc ds ∧ ds.length = i ∧ Iv i ds μ',
      ⟨xs.length, by simp, Nat.zero_le _, G1, μ, [], [], n1, upd_same, gD, mD, .nil, rfl, h0⟩, ?_⟩
    rintro i m H' ⟨rfl, hi', G', μ', acc, ds, st, hDl, gDn, mDn, hacc, hds, iv⟩
    have itI := it i G' H' st.gg st.gh (st.tt o1.t)
    by_cases hlt : i < xs.length
    · have ex : (xs.map enc)[i]? = some (enc xs[i]) := by rw [List.getElem?_map, List.getElem?_eq_getElem hlt]; rfl
      obtain ⟨go, yl⟩ := itI.1 _ ex
      refine .inr ⟨go, fun H'' => i + 1 ≤ xs.length ∧ ∃ G' μ' acc ds, StM T μ G1 H1 μ' G' H'' ∧ H'' D = some (.lst acc) ∧ G' D = none ∧ μ' D = none ∧ DqAll G' acc ds ∧ ds.length = i + 1 ∧ Iv (i + 1) ds μ', fun H'' hN => ⟨xs.length - (i + 1), by omega, rfl, hN.1, hN.2⟩, fun x H2 hy => ?_⟩
      obtain ⟨G2, st2, dx⟩ := yl x H2 hy
      have st2' := StM.of st2 st.mu
      have o2 := (o1.step st).step st2'
      have hD2 : H2 D = some (.lst acc) := st2.hh _ _ hDl (fun ps z => nomatch z)
      have gD2 : G2 D = none := by
        cases z : G2 D with
        | none => rfl
        | some u => rw [st2.fr D u z gDn] at hDl; cases hDl
      show wipe ((wipe σ [j]).set j (some x)) [j] = wipe σ [j] ∧ tYes _ H2 _
      refine ⟨by rw [wipe_at (List.mem_singleton.mpr rfl), wipe_idem], ?_⟩
      have oE : OkM T ((wipe σ [j]).set j (some x)) ((ε.set j none).set j (some (.d (enc xs[i])))) μ' G2 H2 := ⟨o2.s, o2.t, (o2.e.drop j).set j dx, o2.nt, o2.mu⟩
      refine tYes_of ?_
      rw [if_pos rfl]
      refine hs i xs[i] ds μ' (List.getElem?_eq_getElem hlt) hds iv _ G2 H2 oE _ fun r y μ3 G3 H3 hr s3 dy => ?_
      obtain ⟨d, rfl, iv3⟩ := hr
      have dy : Dq G3 y d := dy
      have hD3 : H3 D = some (.lst acc) := s3.hh D _ mDn hD2 (fun ps z => nomatch z)
      have gD3 : G3 D = none := by
        cases z : G3 D with
        | none => rfl
        | some u => rw [s3.fr D u z gD2] at hD2; cases hD2
      have mD3 : μ3 D = none := by
        cases z : μ3 D with
        | none => rfl
        | some u => have := s3.new D (by rw [z]; intro w; cases w) mDn; rw [this] at hD2; cases hD2
      have sT := (st.trans st2').trans s3
      refine ⟨acc, hD3, ?_, hlt, G3, μ3, acc ++ [y], ds ++ [d], ?_, upd_same, gD3, mD3, dqa_app (dqa_mono (st2.gg.trans s3.gg) _ _ hacc) (.cons dy .nil), by simp [hds], iv3⟩
      · rw [dqa_len hacc, hds]
        exact Nat.lt_of_lt_of_le (Nat.lt_of_lt_of_le hlt hl) (by decide)
      · refine ⟨sT.gg, fun b u e => ?_, fun b u hb e n => ?_, fun b e => sT.nn b (upd_not e), sT.fr, fun t => tabs_mut (sT.tt t) hD3, sT.nt, ⟨fun b es e => ?_⟩, sT.dom, sT.new⟩
        · rw [upd_ne (ne_of_none e gD3)]
          exact sT.gh b u e
        · rw [upd_ne (ne_of_none e hD)]
          exact sT.hh b u hb e n
        · obtain ⟨k1, vs, k2, k3⟩ := sT.mu.at_ b es e
          have : b ≠ D := by rintro rfl; rw [mD3] at e; cases e
          exact ⟨k1, vs, by rw [upd_ne this]; exact k2, k3⟩
    · have e : i = xs.length := by omega
      subst e
      refine .inl ⟨itI.2 (by rw [List.length_map]), ?_⟩
      have sT := (StM.of s1 o.mu).trans st
      have hHD : H D = none := s1.nn _ hD
      -- the list stands still from now on
      have fz : StM T μ G H μ' (upd G' D (.lst acc)) H' := by
        refine ⟨fun b u e => ?_, fun b u e => ?_, sT.hh, sT.nn, fun b u e e' => ?_, sT.tt, fun b ps e => ?_, ⟨fun b es e => ?_⟩, sT.dom, sT.new⟩
        · rw [upd_ne (ne_of_none (sT.gg b u e) gDn)]
          exact sT.gg b u e
        · by_cases hb : b = D
          · subst hb
            rw [upd_same] at e
            rw [hDl]
            exact e
          · rw [upd_ne hb] at e
            exact sT.gh b u e
        · by_cases hb : b = D
          · subst hb
            exact hHD
          · rw [upd_ne hb] at e
            exact sT.fr b u e e'
        · by_cases hb : b = D
          · subst hb
            rw [upd_same] at e
            cases e
          · rw [upd_ne hb] at e
            exact sT.nt b ps e
        · obtain ⟨k1, vs, k2, k3⟩ := sT.mu.at_ b es e
          have hb : b ≠ D := by rintro rfl; rw [mDn] at e; cases e
          exact ⟨by rw [upd_ne hb]; exact k1, vs, k2, dqa_mono (fun c u e => by rw [upd_ne (ne_of_none e gDn)]; exact e) _ _ k3⟩
      exact q (.d (.list ds)) (.ref D) μ' _ H' (hp ds μ' hds iv) fz (.lst upd_same (dqa_mono (fun b u e => by rw [upd_ne (ne_of_none e gDn)]; exact e) _ _ hacc))
/-- range(n), n drawn -/
theorem for_rngE {T : Tb} {ε : Ml} {μ : Mu} {ta : TA} {pi : List Nat → Mu → Prop} (pn : Nat → Mu → Prop) (h : XA T ta ε μ (fun rs μ1 => ∃ n : Nat, rs = [.d (.int n)] ∧ n ≤ 1000 ∧ pn n μ1)) (hp : ∀ n μ1, pn n μ1 → pi (List.range n) μ1) (σ : L2.St) (G H : Hp) (o : OkM T σ ε μ G H) (R : It → Hp → Prop)
    (q : ∀ (J : It) (ys : List Nat) (μ1 : Mu) (G2 H2 : Hp), pi ys μ1 → StM T μ G H μ1 G2 H2 → ItD T J (ys.map fun i => PyData.int (i : Nat)) G2 → R J H2) : iRng1 ta σ H R :=
  h σ G H o _ fun rs vs μ1 G2 H2 hr st dv => by
    obtain ⟨n, rfl, hn, hpn⟩ := hr
    cases dv with
    | cons a b =>
      cases b
      have a : Dq G2 _ (.int n) := a
      cases a
      refine ⟨n, rfl, by omega, by omega, q _ _ _ G2 H2 (hp n μ1 hpn) st ?_⟩
      rw [Int.toNat_natCast, ← rgD_nat]
      exact itd_range
section
variable {P : Program} {w : World} {K : PySem.W.Frag} {mg : Str → Option Value} {base : Heap} {T : Tb}
def numsL : List Int := [0, 1, 2, -1, 3, 0, 4, -2, 6, 1]
def hrsL : List Int := [0, 1, 2, -3, 4, 6, 0, 9]
abbrev s_law_number : Stmt := top 53
abbrev N_law_number : List Str := ["_law_tin"]
theorem sc_law_number : FnScope N_law_number ["_law_tin"] (defScope s_law_number) := ⟨rfl, rfl, rfl, by decide +kernel, rfl, by decide +kernel, by decide +kernel⟩
def R_law_number (rs : List MD) (μ : Mu) (post : MD → Mu → Prop) : Prop := ∃ (a : Addr) (ds : List DD) (k : Nat), rs = [.m a] ∧ μ a = some ds ∧ Tin k ds ∧ k ≤ 1000 ∧ ∀ (v : Int) (ds' : List DD), v ∈ numsL → Tin (k + 1) ds' → post (.d (.int v)) (updM μ a ds')
theorem cal_law_number (E : Bl mg) (c_law_of : Cal P w K mg base 2 "_law_of" (spM T R_law_of) []) (D : DefAt K mg "_law_number" s_law_number) : Cal P w K mg base 3 "_law_number" (spM T R_law_number) [] := by
  refine cal_m D sc_law_number (fun _ _ _ _ _ _ us hl => match us, hl with | [_], _ => rfl) (fun rs μ post h => ?_) (fun f cdv A outer s H E0 hr rs μ post h => ?_)
  · obtain ⟨_, _, _, rfl, _⟩ := h
    rfl
  · obtain ⟨a, ds, k, rfl, hm, ht, hk, hp⟩ := h
    refine ⟨_, (pss_one (ps_ret (pe_c c_law_of hr (by omega) (by rfl) (pa_cons (pv 0) (pa_cons (pe_lst (pa_cons pe_int (pa_cons pe_int (pa_cons pe_int (pa_cons (pe_un un_neg pe_int) (pa_cons pe_int (pa_cons pe_int (pa_cons pe_int (pa_cons (pe_un un_neg pe_int) (pa_cons pe_int (pa_cons pe_int pa_nil))))))))))) pa_nil))))), ?_⟩
    refine sm_ret (xm_call (xa_m rfl (xa_d (d := goods numsL) (em_data (ed_lst (ea_cons ed_int (ea_cons ed_int (ea_cons ed_int (ea_cons (ed_un ed_int ru_I) (ea_cons ed_int (ea_cons ed_int (ea_cons ed_int (ea_cons (ed_un ed_int ru_I) (ea_cons ed_int (ea_cons ed_int ea_nil)))))))))) (by decide))) (xa_nil ⟨a, ds, k, numsL, rfl, hm, ht, hk, by decide, by decide, hp⟩))))
abbrev s_law_row : Stmt := top 54
abbrev N_law_row : List Str := ["_law_tin", "_law_size_so", "_law_k"]
theorem sc_law_row : FnScope N_law_row ["_law_tin", "_law_size_so"] (defScope s_law_row) := ⟨rfl, rfl, rfl, by decide +kernel, rfl, by decide +kernel, by decide +kernel⟩
def R_law_row (rs : List MD) (μ : Mu) (post : MD → Mu → Prop) : Prop := ∃ (a : Addr) (ds : List DD) (k n : Nat), rs = [.m a, .d (.int n)] ∧ μ a = some ds ∧ Tin k ds ∧ n ≤ 2 ∧ k + n ≤ 1000 ∧ ∀ (r : Mx.Row) (ds' : List DD), r.length = n → (∀ x ∈ r, x ∈ numsL) → Tin (k + n) ds' → post (.d (pR r)) (updM μ a ds')
theorem cal_law_row (E : Bl mg) (c_law_number : Cal P w K mg base 3 "_law_number" (spM T R_law_number) []) (D : DefAt K mg "_law_row" s_law_row) : Cal P w K mg base 4 "_law_row" (spM T R_law_row) [] := by
  refine cal_m D sc_law_row (fun _ _ _ _ _ _ us hl => match us, hl with | [_, _], _ => rfl) (fun rs μ post h => ?_) (fun f cdv A outer s H E0 hr rs μ post h => ?_)
  · obtain ⟨_, _, _, _, rfl, _⟩ := h
    rfl
  · obtain ⟨a, ds, k, n, rfl, hm, ht, hn, hk, hp⟩ := h
    refine ⟨_, (pss_one (ps_ret (pe_callTy (k_tupOf (K := K) rfl) (by rfl) E.tuple (by decide +kernel) (pa_cons (pe_lc (own := [("_law_k", 2)]) rfl sc_law_row.nd (pi_range1 (by rfl) E.range (pa_cons (pv 1) pa_nil)) (blkOk_by (own := [("_law_k", 2)]) (N := N_law_row) (sc := (defScope s_law_row)) (by decide +kernel)) (fun _ _ _ _ _ => (pg_name (i := 2) sc_law_row.nd rfl (Or.inl rfl) (Or.inr rfl))) (fun _ _ _ _ _ => pts_nil) (fun _ _ _ _ _ => (pe_c c_law_number hr (by omega) (by rfl) (pa_cons (pv 0) pa_nil)))) pa_nil)))), ?_⟩
    refine sm_ret (xm_cb (xa_cons (pa := fun x μ1 => ∃ (r : Mx.Row) (ds' : List DD), x = .d (.list (r.map PyData.int)) ∧ μ1 = updM μ a ds' ∧ r.length = n ∧ (∀ x ∈ r, x ∈ numsL) ∧ Tin (k + n) ds') (xm_lcE (List.range n) (fun i => PyData.int (i : Nat)) (im_data ?_) ?_
      (fun i acc μ1 => ∃ (r : Mx.Row) (ds' : List DD), acc = r.map PyData.int ∧ μ1 = updM μ a ds' ∧ (∀ x ∈ r, x ∈ numsL) ∧ Tin (k + i) ds') ⟨[], ds, rfl, ?_, by simp, ht⟩ ?_ ?_) ?_))
    · rw [← rgD_nat]
      exact id_range1 (n := (n : Int)) (ea_cons (ed_var rfl) ea_nil) (by omega) (by omega)
    · simp; omega
    · funext b
      unfold updM
      split
      · next h => rw [h, hm]
      · rfl
    · rintro i x acc μ1 hx hacc ⟨r, ds', rfl, rfl, hr1, hr2⟩
      obtain ⟨hi, _⟩ := List.getElem?_eq_some_iff.mp hx
      rw [List.length_range] at hi
      refine xm_call (xa_m rfl (xa_nil ⟨a, ds', k + i, rfl, updM_same, hr2, by omega, fun v ds2 hv ht2 => ?_⟩))
      refine ⟨_, rfl, r ++ [v], ds2, by rw [List.map_append]; rfl, by rw [updM_upd], fun x hx => ?_, ht2⟩
      rcases List.mem_append.mp hx with z | z
      · exact hr1 x z
      · rw [List.mem_singleton.mp z]; exact hv
    · rintro acc μ1 hacc ⟨r, ds', rfl, rfl, hr1, hr2⟩
      rw [List.length_map, List.length_range] at hacc
      rw [List.length_range] at hr2
      exact ⟨r, ds', rfl, rfl, hacc, hr1, hr2⟩
    · rintro x μ1 ⟨r, ds', rfl, rfl, h1, h2, h3⟩
      exact xa_nil ⟨[.list (r.map PyData.int)], _, rfl, rc_tupL, hp r ds' h1 h2 h3⟩
/-- sights that are drawn -/
def DrS (n : Nat) (S : Sgt) : Prop := ∀ p ∈ S, p.1.length = n ∧ (∀ x ∈ p.1, x ∈ numsL) ∧ p.2 ∈ hrsL
abbrev s_law_sights : Stmt := top 56
abbrev N_law_sights : List Str := ["_law_tin", "_law_size_so", "_law_most_so", "_law_found", "_law_lap"]
theorem sc_law_sights : FnScope N_law_sights ["_law_tin", "_law_size_so", "_law_most_so"] (defScope s_law_sights) := ⟨rfl, rfl, rfl, by decide +kernel, rfl, by decide +kernel, by decide +kernel⟩
def R_law_sights (rs : List MD) (μ : Mu) (post : MD → Mu → Prop) : Prop := ∃ (a : Addr) (ds : List DD) (k n most : Nat), rs = [.m a, .d (.int n), .d (.int most)] ∧ μ a = some ds ∧ Tin k ds ∧ n ≤ 2 ∧ most ≤ 3 ∧ k + 10 ≤ 1000 ∧
  ∀ (S : Sgt) (ds' : List DD) (μ2 : Mu), S.length ≤ most → DrS n S → Tin (k + 10) ds' → μ2 a = some ds' → post (.d (pS S)) μ2
theorem Tin.mono {k k' : Nat} {ds : List DD} (h : Tin k ds) (hk : k ≤ k') : Tin k' ds := by
  obtain ⟨x, y, c, e, h1, h2, h3, h4, h5⟩ := h
  exact ⟨x, y, c, e, h1, h2, h3, h4, by omega⟩
theorem cal_law_sights (E : Bl mg) (c_law_take : Cal P w K mg base 1 "_law_take" (spM T R_law_take) []) (c_law_of : Cal P w K mg base 2 "_law_of" (spM T R_law_of) []) (c_law_row : Cal P w K mg base 4 "_law_row" (spM T R_law_row) []) (D : DefAt K mg "_law_sights" s_law_sights) : Cal P w K mg base 5 "_law_sights" (spM T R_law_sights) [] := by
  refine cal_m D sc_law_sights (fun _ _ _ _ _ _ us hl => match us, hl with | [_, _, _], _ => rfl) (fun rs μ post h => ?_) (fun f cdv A outer s H E0 hr rs μ post h => ?_)
  · obtain ⟨_, _, _, _, _, rfl, _⟩ := h
    rfl
  · obtain ⟨a, ds, k, n, most, rfl, hm, ht, hn, hmo, hk, hp⟩ := h
    refine ⟨_, (pss_cons (ps_set (i := 3) sc_law_sights.nd rfl (Or.inl rfl) (pe_lst pa_nil)) (pss_cons (ps_for PassesOwn.never rfl (pi_range1 (by rfl) E.range (pa_cons (pe_c c_law_take hr (by omega) (by rfl) (pa_cons (pv 0) (pa_cons (pe_op op_add (pv 2) pe_int) pa_nil))) pa_nil)) (pg_name (i := 4) sc_law_sights.nd rfl (Or.inl rfl) (Or.inl rfl)) (pss_one (ps_expr (pe_bm PySem.F.plainAttrs_list PySem.F.slot_list_append PySem.F.type_list_append mt_append (pv 3) (pa_cons (pe_tup (pa_cons (pe_c c_law_row hr (by omega) (by rfl) (pa_cons (pv 0) (pa_cons (pv 1) pa_nil))) (pa_cons (pe_c c_law_of hr (by omega) (by rfl) (pa_cons (pv 0) (pa_cons (pe_lst (pa_cons pe_int (pa_cons pe_int (pa_cons pe_int (pa_cons (pe_un un_neg pe_int) (pa_cons pe_int (pa_cons pe_int (pa_cons pe_int (pa_cons pe_int pa_nil))))))))) pa_nil))) pa_nil))) pa_nil))))) (pss_one (ps_ret (pe_callTy (k_tupOf (K := K) rfl) (by rfl) E.tuple (by decide +kernel) (pa_cons (pv 3) pa_nil)))))), ?_⟩
    refine sm_seq (sm_set (xm_new (ds := []) (nl_lst ea_nil (by decide)) rfl fun p hpn => ?_))
    have hap : a ≠ p := by rintro rfl; rw [hm] at hpn; cases hpn
    refine sm_seq (sm_for (fun i : Nat => PyData.int (i : Nat)) (fun ys μ1 => ∃ v ds', ys = List.range v ∧ v ≤ most ∧ Tin (k + 1) ds' ∧ μ1 = updM (updM μ p []) a ds') (for_rngE (fun v μ1 => v ≤ most ∧ ∃ ds', Tin (k + 1) ds' ∧ μ1 = updM (updM μ p []) a ds') (xa_cons (pa := fun x μ1 => ∃ v : Nat, x = .d (.int v) ∧ v ≤ most ∧ ∃ ds', Tin (k + 1) ds' ∧ μ1 = updM (updM μ p []) a ds')
      (xm_call (xa_m rfl (xa_d (em_data (ed_op (ed_var rfl) ed_int rd_I0)) (xa_nil ⟨a, ds, k, most + 1, rfl, by rw [updM_ne hap]; exact hm, ht, by omega, by omega, by omega, fun v ds' hv ht' => ⟨v, rfl, by omega, ds', ht', rfl⟩⟩)))) fun x μ1 ⟨v, e, h1, h2⟩ => by
        subst e
        exact xa_nil ⟨v, rfl, by omega, h1, h2⟩) fun v μ1 ⟨h1, ds', h2, h3⟩ => ⟨v, ds', rfl, h1, h2, h3⟩) ?_)
    rintro xs μ1 ⟨v, ds1, rfl, hv, ht1, rfl⟩
    refine ⟨fun i ε μ' => ∃ (S : Sgt) (ds' : List DD) (a4 : Option MD), S.length = i ∧ i ≤ v ∧ DrS n S ∧ Tin (k + 1 + 3 * i) ds' ∧ μ' a = some ds' ∧ μ' p = some (S.map pG) ∧ ε = [some (.m a), some (.d (.int n)), some (.d (.int most)), some (.m p), a4], ⟨[], ds1, none, rfl, Nat.zero_le _, by intro p hp; simp at hp, ht1, updM_same, by rw [updM_ne (Ne.symm hap), updM_same]; rfl, rfl⟩, ?_, ?_⟩
    · rintro i x ε1 μ2 hx ⟨S, ds', a4, hSi, hiv, hD, ht', hma, hmp, rfl⟩
      obtain ⟨hi, _⟩ := List.getElem?_eq_some_iff.mp hx
      rw [List.length_range] at hi
      refine tm_name (sm_drop (xm_append rfl hmp (xm_tup (xa_cons (pa := fun y μ3 => ∃ (r : Mx.Row) (ds2 : List DD), y = .d (pR r) ∧ r.length = n ∧ (∀ x ∈ r, x ∈ numsL) ∧ Tin (k + 1 + 3 * i + n) ds2 ∧ μ3 = updM μ2 a ds2) (xm_call (xa_m rfl (xa_d (em_var rfl) (xa_nil ⟨a, ds', k + 1 + 3 * i, n, rfl, hma, ht', hn, by omega, fun r ds2 h1 h2 h3 => ⟨r, ds2, rfl, h1, h2, h3, rfl⟩⟩)))) ?_))))
      rintro y μ3 ⟨r, ds2, rfl, h1, h2, h3, rfl⟩
      refine xa_cons (pa := fun y μ4 => ∃ (z : Int) (ds3 : List DD), y = .d (.int z) ∧ z ∈ hrsL ∧ Tin (k + 1 + 3 * i + n + 1) ds3 ∧ μ4 = updM (updM μ2 a ds2) a ds3) (xm_call (xa_m rfl (xa_d (d := goods hrsL) (em_data (ed_lst (ea_cons ed_int (ea_cons ed_int (ea_cons ed_int (ea_cons (ed_un ed_int ru_I) (ea_cons ed_int (ea_cons ed_int (ea_cons ed_int (ea_cons ed_int ea_nil)))))))) (by decide))) (xa_nil ⟨a, ds2, k + 1 + 3 * i + n, hrsL, rfl, updM_same, h3, by omega, by decide, by decide, fun z ds3 g1 g2 => ⟨z, ds3, rfl, g1, g2, rfl⟩⟩)))) ?_
      rintro y μ4 ⟨z, ds3, rfl, g1, g2, rfl⟩
      refine xa_nil ⟨[pR r, .int z], rfl, by simp, _, S.map pG, rfl, ?_, ?_, S ++ [(r, z)], ds3, _, by simp [hSi], by omega, fun q hq => ?_, g2.mono (by omega), ?_, ?_, rfl⟩
      · rw [updM_ne (Ne.symm hap), updM_ne (Ne.symm hap)]
        exact hmp
      · rw [List.length_map]; omega
      · rcases List.mem_append.mp hq with w | w
        · exact hD q w
        · rw [List.mem_singleton.mp w]
          exact ⟨h1, h2, g1⟩
      · rw [updM_ne hap, updM_same]
      · rw [updM_same, List.map_append]
        rfl
    · rintro ε1 μ2 ⟨S, ds', a4, hSi, hiv, hD, ht', hma, hmp, rfl⟩
      rw [List.length_range] at hSi ht'
      exact sm_ret (xm_of (em_lf (ed_cb (ea_cons (ed_var (d := .list (S.map pG)) (congrArg some (seen_m hmp))) ea_nil) rc_tupL) (lf_pS S)) (hp S ds' μ2 (by omega) hD (ht'.mono (by omega)) hma))
end
end Sh
-- Sl6
set_option maxRecDepth 100000
set_option maxHeartbeats 4000000
/-! the purse from the script -/
namespace Sh
open PySem PySem.Spec PyProof.Rows L2 RZ
open C8 (Cal pe_c)
open Mx
theorem pe_c0 {X : Cx} {k j : Nat} {x : Str} {sp : Sp} {p pos : Pos} (c : Cal X.prog X.w X.K X.mg X.base k x sp []) (hr : Room j X.A) (hk : k ≤ j) (hg : Gl X x) (hdb : (x == ("__debug__" : Str)) = false := by decide) : PE X (.Call (.Name x p) [] [] pos) (tCall sp [] C8.E0 tNil) := by
  obtain ⟨f, fd, ps, ds, F, hm, kp, b, d⟩ := c.ex
  exact pe_call0 F (hr.mono hk) hg hm kp b d C8.pass0 hdb
theorem k_orT {X : Cx} {K : PySem.W.Frag} {a b : Expr} {ta tb : TE} {rest : List Expr} {pos : Pos} (hK : X.K = K) (ha : PE X a ta) (hb : PE X (.BoolOp .Or (b :: rest) pos) tb) : PE X (.BoolOp .Or (a :: b :: rest) pos) (tOrT K ta tb) := by subst hK; exact pe_orT ha hb
theorem nl_lstL {T : Tb} {δ : Dl} {te : TE} {K : PySem.W.Frag} {ds : List DD} (h : ED T te δ (.list ds)) : NL T (tCB (rLstOf K) (tCons te tNil)) δ ds := fun σ G H o Q q =>
  h σ G H o _ fun v G1 H1 s1 d1 => by
    cases d1 with
    | @lst a xs _ hp hd =>
      refine ⟨a, xs, rfl, .inl (SqL.of (s1.gh _ _ hp)), fun l hn => ?_⟩
      exact q l xs G1 _ (s1.trans (Step.newM s1.gh hn)) (s1.nn _ hn) (s1.gh.free hn) upd_same hd
theorem xm_orT {T : Tb} {ε : Ml} {μ : Mu} {ta tb : TE} {K : PySem.W.Frag} {post : MD → Mu → Prop} (ha : XM T ta ε μ (fun r μ1 => ∃ p ds, r = .m p ∧ μ1 p = some ds ∧ (ds ≠ [] → post (.m p) μ1) ∧ (ds = [] → XM T tb ε μ1 post))) : XM T (tOrT K ta tb) ε μ post := fun σ G H o Q q =>
  ha σ G H o _ fun r v μ1 G1 H1 hr s1 d1 => by
    obtain ⟨p, ds, rfl, hm, h1, h2⟩ := hr
    cases d1
    obtain ⟨g1, vs, k1, k2⟩ := s1.mu.at_ p ds hm
    have hlen := dqa_len k2
    refine ⟨!vs.isEmpty, ?_, ?_⟩
    · exact .inl ⟨vs, SqL.of k1, rfl⟩
    · cases ds with
      | nil =>
        cases k2
        rw [if_neg (by simp)]
        exact h2 rfl σ G1 H1 (o.step s1) Q fun r v μ2 G2 H2 hp s2 d2 => q r v μ2 G2 H2 hp (s1.trans s2) d2
      | cons d ds =>
        cases vs with
        | nil => cases hlen
        | cons x vs =>
          rw [if_pos (by simp)]
          exact q (.m p) _ μ1 G1 H1 (h1 (by simp)) s1 rfl
def cutI (ns : List Int) : List Int := (ns.drop (HT.sIx ns.length 0 (some 1))).take (HT.sIx ns.length ns.length (some 63) - HT.sIx ns.length 0 (some 1))
theorem cutI_eq (ns : List Int) : cutD (ns.map PyData.int) (some 1) (some 63) = (cutI ns).map PyData.int := by
  unfold cutD cutI
  rw [List.length_map, List.map_take, List.map_drop]
section
variable {P : Program} {w : World} {K : PySem.W.Frag} {mg : Str → Option Value} {base : Heap} {T : Tb}
abbrev s_law_box : Stmt := top 42
abbrev N_law_box : List Str := ["_law_script", "_law_k", "_law_cell_so"]
theorem sc_law_box : FnScope N_law_box ["_law_script", "_law_k"] (defScope s_law_box) := ⟨rfl, rfl, rfl, by decide +kernel, rfl, by decide +kernel, by decide +kernel⟩
def R_law_box (rs : List MD) (μ : Mu) (post : MD → Mu → Prop) : Prop := ∃ (p : Addr) (z : Int), rs = [.m p, .d (.int 0)] ∧ μ p = some [.int z] ∧ ∀ q ds μ2, Tin 0 ds → μ2 q = some ds → post (.m q) μ2
theorem cal_law_box (E : Bl mg) (D : DefAt K mg "_law_box" s_law_box) : Cal P w K mg base 1 "_law_box" (spM T R_law_box) [] := by
  refine cal_m D sc_law_box (fun _ _ _ _ _ _ us hl => match us, hl with | [_, _], _ => rfl) (fun rs μ post h => ?_) (fun f cdv A outer s H E0 hr rs μ post h => ?_)
  · obtain ⟨_, _, rfl, _⟩ := h
    rfl
  · obtain ⟨p, z, rfl, hm, hp⟩ := h
    refine ⟨_, (pss_cons (ps_set (i := 2) sc_law_box.nd rfl (Or.inl rfl) (pe_ifExp (pt_cmpR op_lt (pv 1) (pe_callB (k_len (K := K) rfl) (by rfl) E.len PySem.boot_len (pa_cons (pv 0) pa_nil)) (nomark _)) (pe_ix (k_ix (K := K) rfl) (pv 0) (pv 1) (fun _ _ => rfl)) pe_int)) (pss_one (ps_ret (pe_lst (pa_cons (pe_op op_mulB (pe_callB cr_abs (by rfl) E.abs (by decide +kernel) (pa_cons (pv 2) pa_nil)) (pe_callTy cr_int (by rfl) E.int (by decide +kernel) (pa_cons (pe_cmpR op_ge (pe_callB cr_abs (by rfl) E.abs (by decide +kernel) (pa_cons (pv 2) pa_nil)) (pe_op op_pow pe_int pe_int) (nomark _)) pa_nil))) (pa_cons (pe_op op_add (pe_op op_add (pe_op op_modN (pe_callTy cr_int (by rfl) E.int (by decide +kernel) (pa_cons (pv 2) pa_nil)) pe_int) (pe_op op_mulB pe_int (pv 1))) pe_int) (pa_cons pe_int pa_nil))))))), ?_⟩
    have sn := seen_m hm
    refine sm_seq (sm_set (xm_of (d := .int z) (em_lf (ed_if (b := true) (et_is (et_test (ed_op (ed_var rfl) (ed_cb (ea_cons (ed_var (d := .list [.int z]) (congrArg some sn)) ea_nil) rc_lenL) rd_B0)) (by simp)) (fun _ => ed_op (ed_var (d := .list [.int z]) (congrArg some sn)) (ed_var rfl) (rd_ix_l (k := 0) rfl)) fun e => by cases e) rfl) ?_))
    refine sm_ret (xm_new (nl_lst (ea_cons (ed_op (ed_cb (ea_cons (ed_var rfl) ea_nil) rc_abs) (ed_cb (ea_cons (ed_op (ed_cb (ea_cons (ed_var rfl) ea_nil) rc_abs) (ed_op ed_int ed_int (rd_I ⟨by decide, by decide, by decide⟩)) rd_B0) ea_nil) rc_intB) (rd_I (mul_smallR (by split <;> decide)))) (ea_cons (ed_op (ed_op (ed_op (ed_cb (ea_cons (ed_var rfl) ea_nil) rc_intI) ed_int (rd_I (by decide))) (ed_op ed_int (ed_var rfl) (rd_I (mul_small (by decide)))) rd_I0) ed_int rd_I0) (ea_cons ed_int ea_nil))) (by simp)) rfl fun q hq => hp q _ _ ⟨_, _, 0, rfl, ?_, ?_, ?_, by omega, by omega⟩ updM_same)
    · refine Int.mul_nonneg (by omega) ?_
      split <;> omega
    · have := Int.fmod_nonneg_of_pos z (b := 2305843009213693951) (by decide)
      omega
    · have := Int.fmod_lt_of_pos z (b := 2305843009213693951) (by decide)
      omega
abbrev s_law_cells : Stmt := top 44
abbrev N_law_cells : List Str := ["_law_script", "_law_most_so", "_law_cells_so", "_law_k", "_law_cell_so", "_law_at_so"]
theorem sc_law_cells : FnScope N_law_cells ["_law_script", "_law_most_so"] (defScope s_law_cells) := ⟨rfl, rfl, rfl, by decide +kernel, rfl, by decide +kernel, by decide +kernel⟩
def R_law_cells (rs : List MD) (μ : Mu) (post : MD → Mu → Prop) : Prop := ∃ ns : List Int, rs = [.d (.list (ns.map PyData.int)), .d (.int 1)] ∧ ns.length ≤ 1000 ∧ ∀ q z μ2, μ2 q = some [.int z] → post (.m q) μ2
theorem cal_law_cells (E : Bl mg) (D : DefAt K mg "_law_cells" s_law_cells) : Cal P w K mg base 1 "_law_cells" (spM T R_law_cells) [] := by
  refine cal_m D sc_law_cells (fun _ _ _ _ _ _ us hl => match us, hl with | [_, _], _ => rfl) (fun rs μ post h => ?_) (fun f cdv A outer s H E0 hr rs μ post h => ?_)
  · obtain ⟨_, rfl, _⟩ := h
    rfl
  · obtain ⟨ns, rfl, hl, hp⟩ := h
    refine ⟨_, (pss_cons (ps_set (i := 2) sc_law_cells.nd rfl (Or.inl rfl) (k_orT (K := K) rfl (pe_callTy (k_lstOf (K := K) rfl) (by rfl) E.list (by decide +kernel) (pa_cons (pe_slice (k_sll (K := K) rfl) (pv 0) po_none (po_some (pv 1))) pa_nil)) (pe_one (pe_lst (pa_cons pe_int pa_nil))))) (pss_cons (ps_for PassesOwn.never rfl (k_enumL (K := K) rfl (by rfl) E.enumerate (pa_cons (pe_slice (k_sll (K := K) rfl) (pv 0) (po_some (pv 1)) (po_some pe_int)) pa_nil)) (k_gtup (K := K) (n := 2) rfl rfl (pgs_cons (pg_name (i := 3) sc_law_cells.nd rfl (Or.inl rfl) (Or.inl rfl)) (pgs_cons (pg_name (i := 4) sc_law_cells.nd rfl (Or.inl rfl) (Or.inl rfl)) pgs_nil))) (pss_cons (ps_set (i := 5) sc_law_cells.nd rfl (Or.inl rfl) (pe_op op_modN (pe_callTy cr_int (by rfl) E.int (by decide +kernel) (pa_cons (pv 3) pa_nil)) (pv 1))) (pss_one (ps_asg (pe_op op_add (pe_ix (k_ix (K := K) rfl) (pv 2) (pv 5) (fun _ _ => rfl)) (pe_op op_mulB (pv 4) (pe_op op_add (pv 3) pe_int))) (pg_sub (pv 2) (pv 5) set_list))))) (pss_one (ps_ret (pv 2))))), ?_⟩
    refine sm_seq (sm_set (xm_imp (p2 := fun r μ1 => ∃ p z, r = .m p ∧ μ1 p = some [.int z]) (xm_orT (xm_new (nl_lstL (ed_sl (ed_var rfl) eo_none (eo_some (ed_var rfl)) rs_l)) ?_ fun p hpn => ⟨p, _, rfl, updM_same, fun hne => ⟨p, ns.getD 0 0, rfl, ?_⟩, fun hemp => xm_new (nl_lst (ea_cons ed_int ea_nil) (by simp)) rfl fun q hq => ⟨q, 0, rfl, updM_same⟩⟩)) ?_))
    · cases ns with
      | nil => rfl
      | cons n ns =>
        rw [show (1 : Int) = ((1 : Nat) : Int) from rfl, cut_to (n := 0) (by simp)]
        rfl
    · cases ns with
      | nil => exact absurd rfl hne
      | cons n ns =>
        rw [updM_same, show (1 : Int) = ((1 : Nat) : Int) from rfl, cut_to (n := 0) (by simp)]
        rfl
    · rintro r μ1 ⟨p, z, rfl, hm⟩
      refine sm_seq (sm_for (fun i : Nat => PyData.tuple [.int (i : Nat), .int (at_ (cutI ns) i)]) (fun ys μ2 => ys = List.range (cutI ns).length ∧ μ2 = μ1) (for_data ?_) ?_)
      · rw [← enD_row, ← cutI_eq]
        exact id_enumL (ea_cons (ed_sl (ed_var rfl) (eo_some (ed_var rfl)) (eo_some ed_int) rs_l) ea_nil)
      · rintro xs μ2 ⟨rfl, e⟩
        rw [e]
        refine ⟨fun i ε μ' => ∃ z a3 a4 a5, μ' p = some [.int z] ∧ ε = [some (.d (.list (ns.map PyData.int))), some (.d (.int 1)), some (.m p), a3, a4, a5], ⟨z, none, none, none, hm, rfl⟩, ?_, ?_⟩
        · rintro i x ε1 μ3 hx ⟨z, a3, a4, a5, hm3, rfl⟩
          obtain ⟨hi, hxi⟩ := List.getElem?_eq_some_iff.mp hx
          rw [List.getElem_range] at hxi
          rw [List.length_range] at hi
          subst hxi
          have hlc : (cutI ns).length ≤ ns.length := by unfold cutI; rw [List.length_take, List.length_drop]; omega
          have sn := seen_m hm3
          refine tm_pair ?_
          refine sm_seq (sm_set (xm_of (d := .int 0) (em_lf (ed_is (ed_op (ed_cb (ea_cons (ed_var rfl) ea_nil) rc_intI) (ed_var rfl) (rd_I (by decide))) ?_) rfl) ?_))
          · congr 1
            have h1 := Int.fmod_nonneg_of_pos (i : Int) (b := 1) (by decide)
            have h2 := Int.fmod_lt_of_pos (i : Int) (b := 1) (by decide)
            omega
          refine sm_asg (xm_of (em_lf (ed_op (ed_op (ed_var (d := .list [.int z]) (congrArg some sn)) (ed_var rfl) (rd_ix_l (k := 0) rfl)) (ed_op (ed_var rfl) (ed_op (ed_var rfl) ed_int rd_I0) (rd_I (mul_smallR (by omega)))) rd_I0) rfl) ⟨_, rfl, tm_sub rfl hm3 (ed_var rfl) (ix_nat (n := 1) (i := 0) (by decide)) ⟨_, _, _, _, updM_same, rfl⟩⟩)
        · rintro ε1 μ3 ⟨z, a3, a4, a5, hm3, rfl⟩
          exact sm_ret (xm_ptr rfl (hp p z μ3 hm3))
end
end Sh
-- M12
set_option maxHeartbeats 1000000
namespace Mx
/-! ### hours mod s -/
theorem dot_nil (x : Row) : dot [] x = 0 := rfl
theorem dot_cons (a : Int) (r : Row) (b : Int) (x : Row) : dot (a :: r) (b :: x) = a * b + dot r x := by
  unfold dot
  rw [List.zip_cons_cons, List.map_cons, List.sum_cons]
theorem dot1 (r : Row) (h : r.length = 1) (x : Int) : dot r [x] = at_ r 0 * x := by
  match r, h with
  | [a], _ => simp [dot, at_]
theorem dot2 (r : Row) (h : r.length = 2) (x y : Int) : dot r [x, y] = at_ r 0 * x + at_ r 1 * y := by
  match r, h with
  | [a, b], _ => simp [dot, at_]
/-- such hours show such sights, mod s -/
def Sol (S : Sg) (s : Int) (x y : Int) : Prop := ∀ p ∈ S, s ∣ at_ p.1 0 * x + at_ p.1 1 * y - p.2
theorem fmod_dvd {a s : Int} (hs : 0 < s) : (a.fmod s = 0) ↔ s ∣ a := by
  rw [Int.fmod_eq_emod_of_nonneg _ (by omega)]
  exact ⟨Int.dvd_of_emod_eq_zero, Int.emod_eq_zero_of_dvd⟩
theorem sol_mod {S : Sg} {s : Int} {x y x' y' : Int} (hx : s ∣ x' - x) (hy : s ∣ y' - y) (h : Sol S s x y) : Sol S s x' y' := fun p hp => by
  obtain ⟨a, ha⟩ := hx
  obtain ⟨b, hb⟩ := hy
  obtain ⟨c, hc⟩ := h p hp
  refine ⟨at_ p.1 0 * a + at_ p.1 1 * b + c, ?_⟩
  have e1 : x' = x + s * a := by omega
  have e2 : y' = y + s * b := by omega
  rw [e1, e2, Int.mul_add, Int.mul_add, Int.mul_add, Int.mul_add, Int.mul_left_comm, Int.mul_left_comm (at_ p.1 1)]
  omega
theorem emod_dvd_sub (a s : Int) : s ∣ a % s - a := by
  refine ⟨-(a / s), ?_⟩
  have := Int.mul_ediv_add_emod a s
  rw [Int.mul_neg]
  omega
theorem lc_app (f : Nat → Int) (j : Nat) : ∀ (a b : List Row), lc f (a ++ b) j = lc f a j + lc (fun i => f (a.length + i)) b j
  | [], b => by
    show lc f b j = 0 + _
    have : (fun i => f (([] : List Row).length + i)) = f := by funext i; simp
    rw [this]
    omega
  | r :: a, b => by
    show f 0 * at_ r j + lc (fun i => f (i + 1)) (a ++ b) j = f 0 * at_ r j + lc (fun i => f (i + 1)) a j + _
    rw [lc_app (fun i => f (i + 1)) j a b]
    have : (fun i => f (a.length + i + 1)) = fun i => f ((r :: a).length + i) := by funext i; congr 1; simp; omega
    rw [this]
    omega
theorem lc_none {j : Nat} : ∀ {rs : List Row} (f : Nat → Int), (∀ r ∈ rs, at_ r j = 0) → lc f rs j = 0
  | [], _, _ => rfl
  | r :: rs, f, h => by
    show f 0 * at_ r j + _ = 0
    rw [h r (List.mem_cons_self ..), lc_none _ fun x hx => h x (List.mem_cons_of_mem _ hx)]
    simp
def roundsM (s : Int) (n : Nat) : List Row := (unitsR n).map fun r => timesR r s
theorem lc_rounds (f : Nat → Int) (s : Int) {n j : Nat} (hj : j < n) : lc f (roundsM s n) j = f j * s := by
  have e : roundsM s n = (List.range j).map (fun i => timesR (unitR i n) s) ++ (timesR (unitR j n) s :: ((List.range n).drop (j + 1)).map fun i => timesR (unitR i n) s) := by
    unfold roundsM unitsR
    rw [List.map_map]
    have e1 : List.range n = List.range j ++ (j :: (List.range n).drop (j + 1)) := by
      refine List.ext_getElem? fun k => ?_
      rcases Nat.lt_trichotomy k j with h | h | h
      · rw [List.getElem?_append_left (by simpa using h)]
        simp [List.getElem?_range h, List.getElem?_range (Nat.lt_trans h hj)]
      · subst h
        rw [List.getElem?_append_right (by simp)]
        simp [List.getElem?_range hj]
      · rw [List.getElem?_append_right (by simp; omega), List.length_range]
        obtain ⟨m, hm⟩ : ∃ m, k - j = m + 1 := ⟨k - j - 1, by omega⟩
        rw [hm, List.getElem?_cons_succ, List.getElem?_drop]
        congr 1
        omega
    conv => lhs; rw [e1]
    rw [List.map_append, List.map_cons]
    rfl
  have z : ∀ i, i ≠ j → at_ (timesR (unitR i n) s) j = 0 := fun i hi => by rw [at_timesR, at_unitR hj, if_neg (Ne.symm hi)]; simp
  rw [e, lc_app, lc_none f (fun r hr => by
    obtain ⟨i, hi, rfl⟩ := List.mem_map.mp hr
    have := List.mem_range.mp hi
    exact z i (by omega))]
  show 0 + (f (((List.range j).map fun i => timesR (unitR i n) s).length + 0) * at_ (timesR (unitR j n) s) j + lc _ _ j) = _
  rw [lc_none _ (fun r hr => by
    obtain ⟨i, hi, rfl⟩ := List.mem_map.mp hr
    obtain ⟨k, hk, e⟩ := List.getElem_of_mem hi
    rw [List.getElem_drop, List.getElem_range] at e
    exact z i (by omega)), at_timesR, at_unitR hj, if_pos rfl]
  simp
end Mx
-- M13
set_option maxHeartbeats 1000000
namespace Mx
def FitsM (n : Nat) (S : Sg) (s : Int) : Prop := S = [] ∨ InS (colsM (S.map Prod.fst) n ++ roundsM s S.length) S.length (S.map Prod.snd)
theorem at_mapat (rows : List Row) (p j : Nat) : at_ (rows.map fun r => at_ r p) j = ent rows j p := by
  by_cases h : j < rows.length
  · unfold ent
    rw [at_lt (by simpa using h), getD_lt h]
    simp
  · rw [at_ge (by simp; omega), ent_ge (by omega)]
theorem lc_cols1 (u : Nat → Int) (rows : List Row) (j : Nat) : lc u (colsM rows 1) j = u 0 * ent rows j 0 := by
  show u 0 * at_ (rows.map fun r => at_ r 0) j + 0 = _
  rw [at_mapat]
  omega
theorem lc_cols2 (u : Nat → Int) (rows : List Row) (j : Nat) : lc u (colsM rows 2) j = u 0 * ent rows j 0 + u 1 * ent rows j 1 := by
  show u 0 * at_ (rows.map fun r => at_ r 0) j + (u 1 * at_ (rows.map fun r => at_ r 1) j + 0) = _
  rw [at_mapat, at_mapat]
  omega
theorem S_ent {S : Sg} {j : Nat} (hj : j < S.length) (p : Nat) : ent (S.map Prod.fst) j p = at_ S[j].1 p := by
  unfold ent
  rw [getD_lt (by simpa using hj)]
  simp
theorem S_hr {S : Sg} {j : Nat} (hj : j < S.length) : at_ (S.map Prod.snd) j = S[j].2 := by
  rw [at_lt (by simpa using hj)]
  simp
theorem len_colsM (rows : List Row) (n : Nat) : (colsM rows n).length = n := by unfold colsM; simp
theorem fits_iff {n : Nat} {S : Sg} {s : Int} (hn : n = 1 ∨ n = 2) (hw : ∀ p ∈ S, p.1.length = n) : FitsM n S s ↔ ∃ x y, Sol S s x y := by
  have one : n = 1 → ∀ p ∈ S, at_ p.1 1 = 0 := fun h p hp => at_ge (by rw [hw p hp]; omega)
  constructor
  · rintro (h | ⟨u, hu⟩)
    · subst h
      exact ⟨0, 0, fun p hp => by simp at hp⟩
    · refine ⟨u 0, u 1, fun p hp => ?_⟩
      obtain ⟨j, hj, rfl⟩ := List.getElem_of_mem hp
      have := hu j hj
      rw [lc_app, lc_rounds _ _ hj, S_hr hj, len_colsM] at this
      refine ⟨-(u (n + j)), ?_⟩
      rcases hn with rfl | rfl
      · rw [lc_cols1, S_ent hj] at this
        rw [this, one rfl _ hp, Int.mul_neg, Int.mul_comm (u 0), Int.mul_comm s]
        omega
      · rw [lc_cols2, S_ent hj, S_ent hj] at this
        rw [this, Int.mul_neg, Int.mul_comm (u 0), Int.mul_comm (u 1), Int.mul_comm s]
        omega
  · rintro ⟨x, y, h⟩
    refine .inr ⟨fun i => if i < n then (if i = 0 then x else y) else -((ent (S.map Prod.fst) (i - n) 0 * x + ent (S.map Prod.fst) (i - n) 1 * y - at_ (S.map Prod.snd) (i - n)) / s), fun j hj => ?_⟩
    have hp := List.getElem_mem hj
    have hd := Int.ediv_mul_cancel (h S[j] hp)
    rw [lc_app, lc_rounds _ _ hj, len_colsM, if_neg (by omega), show n + j - n = j by omega, S_ent hj, S_ent hj, S_hr hj]
    rw [Int.neg_mul, hd]
    rcases hn with rfl | rfl
    · rw [lc_cols1, S_ent hj, if_pos (by decide), if_pos rfl, one rfl _ hp, Int.mul_comm x]
      omega
    · rw [lc_cols2, S_ent hj, S_ent hj, if_pos (by decide), if_pos rfl, if_pos (by decide), if_neg (by decide), Int.mul_comm x, Int.mul_comm y]
      omega
end Mx
-- M14
set_option maxHeartbeats 1000000
namespace Mx
theorem least {P : Nat → Prop} (h : ∃ n, P n) : ∃ n, P n ∧ ∀ m, m < n → ¬ P m := by
  obtain ⟨n, hn⟩ := h
  induction n using Nat.strongRecOn with
  | ind n ih =>
    by_cases q : ∃ m, m < n ∧ P m
    · obtain ⟨m, h1, h2⟩ := q
      exact ih m h1 h2
    · exact ⟨n, hn, fun m h1 h2 => q ⟨m, h1, h2⟩⟩
/-- whole numbers closed under sums and multiples -/
theorem one_gen' {A : Int → Prop} (ha : ∀ x y, A x → A y → A (x + y)) (hm : ∀ k x, A x → A (k * x)) {s : Int} (hs : 0 < s) (hA : A s) : ∃ d : Int, 0 < d ∧ A d ∧ ∀ q, A q → d ∣ q := by
  have hsn : ((s.toNat : Nat) : Int) = s := by omega
  obtain ⟨n, ⟨h1, h2⟩, h3⟩ := least (P := fun n : Nat => 0 < n ∧ A (n : Int)) ⟨s.toNat, by omega, by rw [hsn]; exact hA⟩
  refine ⟨n, by omega, h2, fun q hq => ?_⟩
  have e := Int.mul_ediv_add_emod q n
  have r0 := Int.emod_nonneg q (b := (n : Int)) (by omega)
  have r1 := Int.emod_lt_of_pos q (b := (n : Int)) (by omega)
  have hr : A (q % n) := by
    have := ha _ _ hq (hm (-(q / n)) _ h2)
    have e2 : q + -(q / n) * n = q % n := by rw [Int.neg_mul, Int.mul_comm (q / n)]; omega
    rw [e2] at this
    exact this
  by_cases z : q % n = 0
  · exact Int.dvd_of_emod_eq_zero z
  · exfalso
    refine h3 (q % n).toNat (by omega) ⟨by omega, ?_⟩
    have : (((q % n).toNat : Nat) : Int) = q % n := by omega
    rw [this]
    exact hr
/-- what is not made of L is told apart by hours that L does not see -/
theorem dual {L : Int → Int → Prop} (ha : ∀ p q p' q', L p q → L p' q' → L (p + p') (q + q')) (hm : ∀ k p q, L p q → L (k * p) (k * q)) {s : Int} (hs : 0 < s) (h1 : L s 0) (h2 : L 0 s) {u v : Int} (hn : ¬ L u v) :
    ∃ a b, (∀ p q, L p q → s ∣ p * a + q * b) ∧ ¬ s ∣ u * a + v * b := by
  obtain ⟨d, d0, hd, hd2⟩ := one_gen' (A := fun q => L 0 q) (fun x y hx hy => by have := ha _ _ _ _ hx hy; rw [Int.add_zero] at this; exact this) (fun k x hx => by have := hm k _ _ hx; rw [Int.mul_zero] at this; exact this) hs h2
  obtain ⟨c, c0, ⟨b0, hb⟩, hc2⟩ := one_gen' (A := fun p => ∃ q, L p q) (fun x y ⟨q, hx⟩ ⟨q', hy⟩ => ⟨_, ha _ _ _ _ hx hy⟩) (fun k x ⟨q, hx⟩ => ⟨_, hm k _ _ hx⟩) hs ⟨0, h1⟩
  obtain ⟨sd, hsd⟩ := hd2 s h2
  obtain ⟨sc, hsc⟩ := hc2 s ⟨0, h1⟩
  have hz : L 0 (sc * b0) := by
    have := ha _ _ _ _ (hm sc _ _ hb) (hm (-1) _ _ h1)
    have e1 : sc * c + -1 * s = 0 := by rw [hsc, Int.mul_comm c]; omega
    have e2 : sc * b0 + -1 * 0 = sc * b0 := by omega
    rw [e1, e2] at this
    exact this
  obtain ⟨β, hβ⟩ := hd2 _ hz
  -- b0 * sd = c * β
  have key : b0 * sd = c * β := by
    have e1 : d * (b0 * sd) = d * (c * β) := by
      have : d * (b0 * sd) = b0 * s := by rw [hsd, Int.mul_left_comm]
      rw [this, hsc, Int.mul_left_comm d c β, ← hβ, Int.mul_left_comm, Int.mul_comm b0 sc]
    exact Int.eq_of_mul_eq_mul_left (by omega) e1
  by_cases q1 : s ∣ u * sc + v * 0
  · refine ⟨-β, sd, fun p q hpq => ?_, fun q2 => hn ?_⟩
    · obtain ⟨k, rfl⟩ := hc2 p ⟨q, hpq⟩
      have hq := ha _ _ _ _ hpq (hm (-k) _ _ hb)
      have e1 : c * k + -k * c = 0 := by rw [Int.neg_mul, Int.mul_comm c]; omega
      rw [e1] at hq
      obtain ⟨t, ht⟩ := hd2 _ hq
      refine ⟨t, ?_⟩
      have e2 : q = k * b0 + d * t := by rw [Int.neg_mul] at ht; omega
      rw [e2, Int.add_mul, Int.mul_assoc k, key, Int.mul_neg, Int.mul_assoc c k, Int.mul_left_comm k c β, hsd, Int.mul_right_comm d t sd]
      omega
    · obtain ⟨k, hk⟩ := q1
      have e1 : u = c * k := by
        have hsc0 : sc ≠ 0 := by
          rintro rfl
          omega
        rw [Int.mul_zero, Int.add_zero, hsc, Int.mul_assoc, Int.mul_comm sc k, ← Int.mul_assoc] at hk
        exact Int.eq_of_mul_eq_mul_right hsc0 hk
      subst e1
      obtain ⟨t, ht⟩ := q2
      have hsd0 : sd ≠ 0 := by
        rintro rfl
        omega
      have e2 : v - k * b0 = d * t := by
        have : (v - k * b0) * sd = (d * t) * sd := by
          rw [Int.sub_mul, Int.mul_assoc k, key, Int.mul_right_comm d t sd, ← hsd]
          have e3 : c * k * -β + v * sd = s * t := ht
          rw [Int.mul_neg, Int.mul_assoc c k, Int.mul_left_comm c k] at e3
          omega
        exact Int.eq_of_mul_eq_mul_right hsd0 this
      have := ha _ _ _ _ (hm k _ _ hb) (hm t _ _ hd)
      have e4 : k * c + t * 0 = c * k := by rw [Int.mul_comm k]; omega
      have e5 : k * b0 + t * d = v := by rw [Int.mul_comm t]; omega
      rw [e4, e5] at this
      exact this
  · refine ⟨sc, 0, fun p q hpq => ?_, q1⟩
    obtain ⟨k, rfl⟩ := hc2 p ⟨q, hpq⟩
    exact ⟨k, by rw [hsc, Int.mul_zero, Int.add_zero, Int.mul_right_comm]⟩
end Mx
-- M15
set_option maxHeartbeats 1000000
namespace Mx
abbrev madeOf (n : Nat) (S : Sg) (s : Int) : List Row := S.map Prod.fst ++ roundsM s n
theorem len_roundsM (s : Int) (n : Nat) : (roundsM s n).length = n := by unfold roundsM; rw [List.length_map, len_unitsR]
theorem made_get {n : Nat} {S : Sg} {s : Int} {i : Nat} (hi : i < n) : (madeOf n S s).getD (S.length + i) [] = timesR (unitR i n) s := by
  have h1 : S.length + i < (madeOf n S s).length := by rw [List.length_append, List.length_map, len_roundsM]; omega
  rw [getD_lt h1, List.getElem_append_right (by simp)]
  unfold roundsM unitsR
  simp
theorem hsum_lin {s : Int} (x y : Int) : ∀ (S : Sg) (f : Nat → Int), (∀ p ∈ S, s ∣ at_ p.1 0 * x + at_ p.1 1 * y - p.2) → ∀ m : Row, S.length ≤ m.length → (∀ i, i < S.length → f i = at_ m i) →
    s ∣ lc f (S.map Prod.fst) 0 * x + lc f (S.map Prod.fst) 1 * y - dot (m.take S.length) (S.map Prod.snd)
  | [], f, _, m, _, _ => by
    refine ⟨0, ?_⟩
    show 0 * x + 0 * y - dot (m.take 0) [] = _
    simp [dot]
  | p :: S, f, h, m, hm, hf => by
    match m, hm with
    | k :: m, hm =>
      have ih := hsum_lin x y S (fun i => f (i + 1)) (fun q hq => h q (List.mem_cons_of_mem _ hq)) m (by simpa using hm) (fun i hi => by
        have := hf (i + 1) (by simp; omega)
        rw [this]
        rfl)
      have h0 : f 0 = k := hf 0 (by simp)
      obtain ⟨c, hc⟩ := h p (List.mem_cons_self ..)
      obtain ⟨e, he⟩ := ih
      refine ⟨k * c + e, ?_⟩
      show (f 0 * at_ p.1 0 + lc (fun i => f (i + 1)) (S.map Prod.fst) 0) * x + (f 0 * at_ p.1 1 + lc (fun i => f (i + 1)) (S.map Prod.fst) 1) * y - dot (k :: m.take S.length) (p.2 :: S.map Prod.snd) = s * (k * c + e)
      rw [dot_cons, h0, Int.mul_add s, Int.mul_left_comm s k, ← hc, ← he, Int.add_mul, Int.add_mul, Int.mul_sub, Int.mul_add, Int.mul_assoc, Int.mul_assoc]
      omega
/-- one value alone -/
theorem told_val {n : Nat} {S : Sg} {s : Int} {row m : Row} (hn : n = 1 ∨ n = 2) (hw : ∀ p ∈ S, p.1.length = n) (hr : row.length = n) (hm : m.length = (madeOf n S s).length) (hmk : ∀ j, j < n → at_ row j = lc (at_ m) (madeOf n S s) j) {x y : Int} (h : Sol S s x y) :
    s ∣ at_ row 0 * x + at_ row 1 * y - dot (m.take S.length) (S.map Prod.snd) := by
  have hlen : S.length ≤ m.length := by rw [hm, List.length_append, List.length_map]; omega
  obtain ⟨e, he⟩ := hsum_lin x y S (at_ m) h m hlen fun _ _ => rfl
  have e0 := hmk 0 (by omega)
  rw [lc_app, lc_rounds _ _ (by omega), List.length_map] at e0
  rcases hn with rfl | rfl
  · have z : at_ row 1 = 0 := at_ge (by omega)
    have z1 : lc (at_ m) (S.map Prod.fst) 1 = 0 := lc_none _ fun r hr => by
      obtain ⟨p, hp, rfl⟩ := List.mem_map.mp hr
      exact at_ge (by rw [hw p hp]; omega)
    rw [z1] at he
    refine ⟨at_ m (S.length + 0) * x + e, ?_⟩
    rw [z, e0, Int.mul_add, ← he, Int.add_mul, Int.mul_right_comm, Int.mul_comm s (at_ m (S.length + 0) * x)]
    omega
  · have e1 := hmk 1 (by omega)
    rw [lc_app, lc_rounds _ _ (by omega), List.length_map] at e1
    refine ⟨at_ m (S.length + 0) * x + at_ m (S.length + 1) * y + e, ?_⟩
    rw [e0, e1, Int.mul_add, Int.mul_add, ← he, Int.add_mul, Int.add_mul, Int.mul_right_comm, Int.mul_right_comm (at_ m (S.length + 1)), Int.mul_comm s (at_ m (S.length + 0) * x), Int.mul_comm s (at_ m (S.length + 1) * y)]
    omega
/-- not made: some other hours show too, and tell another value -/
theorem told_two {n : Nat} {S : Sg} {s : Int} {row : Row} (hs : 0 < s) (hn : n = 1 ∨ n = 2) (hw : ∀ p ∈ S, p.1.length = n) (hr : row.length = n) (hni : ¬ InS (madeOf n S s) n row) {x y : Int} (h : Sol S s x y) :
    ∃ x' y', Sol S s x' y' ∧ ¬ s ∣ (at_ row 0 * x' + at_ row 1 * y') - (at_ row 0 * x + at_ row 1 * y) := by
  have key : ∃ a b, (∀ p ∈ S, s ∣ at_ p.1 0 * a + at_ p.1 1 * b) ∧ ¬ s ∣ at_ row 0 * a + at_ row 1 * b := by
    have g1 : ∃ u : Nat → Int, s = lc u (madeOf n S s) 0 ∧ (n = 2 → 0 = lc u (madeOf n S s) 1) := by
      have hi : S.length + 0 < (madeOf n S s).length := by rw [List.length_append, List.length_map, len_roundsM]; omega
      refine ⟨fun i => if i = S.length + 0 then 1 else 0, ?_, fun z => ?_⟩
      · rw [lc_unit _ _ _ hi, made_get (by omega), at_timesR, at_unitR (by omega)]
        simp
      · rw [lc_unit _ _ _ hi, made_get (by omega), at_timesR, at_unitR (by omega)]
        simp
    have g2 : ∃ u : Nat → Int, 0 = lc u (madeOf n S s) 0 ∧ (n = 2 → s = lc u (madeOf n S s) 1) := by
      rcases hn with rfl | rfl
      · exact ⟨fun _ => 0, (lc_zero _ _).symm, fun z => by omega⟩
      · have hi : S.length + 1 < (madeOf 2 S s).length := by rw [List.length_append, List.length_map, len_roundsM]; omega
        refine ⟨fun i => if i = S.length + 1 then 1 else 0, ?_, fun z => ?_⟩
        · rw [lc_unit _ _ _ hi, made_get (by omega), at_timesR, at_unitR (by omega)]
          simp
        · rw [lc_unit _ _ _ hi, made_get (by omega), at_timesR, at_unitR (by omega)]
          simp
    have g3 : ¬ ∃ u : Nat → Int, at_ row 0 = lc u (madeOf n S s) 0 ∧ (n = 2 → at_ row 1 = lc u (madeOf n S s) 1) := by
      rintro ⟨u, e1, e2⟩
      refine hni ⟨u, fun j hj => ?_⟩
      by_cases h0 : j = 0
      · subst h0; exact e1
      · have : j = 1 := by omega
        subst this
        exact e2 (by omega)
    obtain ⟨a, b, h1, h2⟩ := dual (L := fun p q => ∃ u : Nat → Int, p = lc u (madeOf n S s) 0 ∧ (n = 2 → q = lc u (madeOf n S s) 1)) (fun p q p' q' ⟨u, e1, e2⟩ ⟨u', e1', e2'⟩ => ⟨fun i => u i + u' i, by rw [lc_add, e1, e1'], fun z => by rw [lc_add, e2 z, e2' z]⟩)
      (fun k p q ⟨u, e1, e2⟩ => ⟨fun i => k * u i, by rw [lc_mul, e1], fun z => by rw [lc_mul, e2 z]⟩) hs (u := at_ row 0) (v := at_ row 1) g1 g2 g3
    refine ⟨a, b, fun p hp => h1 _ _ ?_, h2⟩
    obtain ⟨j, hj, rfl⟩ := List.getElem_of_mem hp
    have hjm : j < (madeOf n S s).length := by rw [List.length_append, List.length_map]; omega
    have hg : (madeOf n S s).getD j [] = S[j].1 := by
      rw [getD_lt hjm, List.getElem_append_left (by simpa using hj)]
      simp
    exact ⟨fun i => if i = j then 1 else 0, by rw [lc_unit _ _ _ hjm, hg], fun _ => by rw [lc_unit _ _ _ hjm, hg]⟩
  obtain ⟨a, b, h1, h2⟩ := key
  refine ⟨x + a, y + b, fun p hp => ?_, fun hd => h2 ?_⟩
  · have := Int.dvd_add (h p hp) (h1 p hp)
    have e : at_ p.1 0 * x + at_ p.1 1 * y - p.2 + (at_ p.1 0 * a + at_ p.1 1 * b) = at_ p.1 0 * (x + a) + at_ p.1 1 * (y + b) - p.2 := by rw [Int.mul_add, Int.mul_add]; omega
    rw [e] at this
    exact this
  · have e : at_ row 0 * (x + a) + at_ row 1 * (y + b) - (at_ row 0 * x + at_ row 1 * y) = at_ row 0 * a + at_ row 1 * b := by rw [Int.mul_add, Int.mul_add]; omega
    rw [e] at hd
    exact hd
end Mx
-- M16
set_option maxHeartbeats 1000000
namespace Mx
/-! ### brute hours: members and number -/
theorem allH1 {s : Nat} {x : Row} : x ∈ allH s 1 ↔ ∃ a : Nat, a < s ∧ x = [(a : Int)] := by
  show x ∈ ([[]] : List Row).flatMap _ ↔ _
  simp only [List.flatMap_cons, List.flatMap_nil, List.append_nil, List.mem_map, List.mem_range, List.nil_append]
  exact ⟨fun ⟨a, h, e⟩ => ⟨a, h, e.symm⟩, fun ⟨a, h, e⟩ => ⟨a, h, e.symm⟩⟩
theorem allH2 {s : Nat} {x : Row} : x ∈ allH s 2 ↔ ∃ a b : Nat, a < s ∧ b < s ∧ x = [(a : Int), (b : Int)] := by
  show x ∈ (allH s 1).flatMap _ ↔ _
  rw [List.mem_flatMap]
  constructor
  · rintro ⟨r, hr, hx⟩
    obtain ⟨a, ha, rfl⟩ := allH1.mp hr
    obtain ⟨b, hb, rfl⟩ := List.mem_map.mp hx
    exact ⟨a, b, ha, List.mem_range.mp hb, rfl⟩
  · rintro ⟨a, b, ha, hb, rfl⟩
    exact ⟨[(a : Int)], allH1.mpr ⟨a, ha, rfl⟩, List.mem_map.mpr ⟨b, List.mem_range.mpr hb, rfl⟩⟩
theorem showB1 {S : Sg} {s : Nat} (hs : 0 < s) (hw : ∀ p ∈ S, p.1.length = 1) (x y : Int) : showB S s [x] = true ↔ Sol S s x y := by
  unfold showB Sol
  rw [List.all_eq_true]
  refine forall_congr' fun p => forall_congr' fun hp => ?_
  rw [decide_eq_true_iff, fmod_dvd (by omega), dot1 _ (hw p hp), at_ge (r := p.1) (j := 1) (by rw [hw p hp]; omega)]
  have e : at_ p.1 0 * x + 0 * y - p.2 = at_ p.1 0 * x - p.2 := by omega
  rw [e]
theorem showB2 {S : Sg} {s : Nat} (hs : 0 < s) (hw : ∀ p ∈ S, p.1.length = 2) (x y : Int) : showB S s [x, y] = true ↔ Sol S s x y := by
  unfold showB Sol
  rw [List.all_eq_true]
  refine forall_congr' fun p => forall_congr' fun hp => ?_
  rw [decide_eq_true_iff, fmod_dvd (by omega), dot2 _ (hw p hp)]
end Mx
-- M17
set_option maxHeartbeats 1000000
namespace Mx
def lotsM (N : Sg) : List (Sg × Int) := N.foldl (fun f t => f ++ f.map fun p => (p.1 ++ [t], -p.2)) [([], 1)]
def ii (b : Bool) : Int := if b then 1 else 0
theorem showB_app (A B : Sg) (s : Int) (x : Row) : showB (A ++ B) s x = (showB A s x && showB B s x) := by unfold showB; rw [List.all_append]
theorem ii_and (a b : Bool) : ii (a && b) = ii a * ii b := by cases a <;> cases b <;> rfl
theorem ii_not (a : Bool) : ii (!a) = 1 - ii a := by cases a <;> rfl
def tot (S : Sg) (s : Int) (x : Row) (f : List (Sg × Int)) : Int := (f.map fun p => p.2 * ii (showB (S ++ p.1) s x)).sum
theorem tot_step (S : Sg) (s : Int) (x : Row) (t : Row × Int) : ∀ f : List (Sg × Int), tot S s x (f ++ f.map fun p => (p.1 ++ [t], -p.2)) = tot S s x f * (1 - ii (showB [t] s x)) := by
  have app : ∀ a b : List (Sg × Int), tot S s x (a ++ b) = tot S s x a + tot S s x b := fun a b => by unfold tot; rw [List.map_append, List.sum_append]
  have neg : ∀ f : List (Sg × Int), tot S s x (f.map fun p => (p.1 ++ [t], -p.2)) = -(tot S s x f * ii (showB [t] s x)) := by
    intro f
    induction f with
    | nil => simp [tot]
    | cons p f ih =>
      have e1 : tot S s x (p :: f) = p.2 * ii (showB (S ++ p.1) s x) + tot S s x f := by unfold tot; rw [List.map_cons, List.sum_cons]
      have e2 : tot S s x ((p :: f).map fun p => (p.1 ++ [t], -p.2)) = -p.2 * ii (showB (S ++ (p.1 ++ [t])) s x) + tot S s x (f.map fun p => (p.1 ++ [t], -p.2)) := by unfold tot; rw [List.map_cons, List.map_cons, List.sum_cons]
      rw [e1, e2, ih, ← List.append_assoc, showB_app (S ++ p.1), ii_and, Int.add_mul, Int.neg_mul, Int.mul_assoc]
      omega
  intro f
  rw [app, neg, Int.mul_sub, Int.mul_one]
  omega
theorem tot_all (S : Sg) (s : Int) (x : Row) : ∀ (N : Sg) (f : List (Sg × Int)), tot S s x (N.foldl (fun f t => f ++ f.map fun p => (p.1 ++ [t], -p.2)) f) = tot S s x f * ii (N.all fun q => !showB [q] s x)
  | [], f => by simp [ii]
  | t :: N, f => by
    rw [List.foldl_cons, tot_all S s x N, tot_step, List.all_cons, ii_and, ii_not, Int.mul_assoc]
/-- with and without -/
theorem tot_lots (S N : Sg) (s : Int) (x : Row) : tot S s x (lotsM N) = ii (showB S s x && N.all fun q => !showB [q] s x) := by
  unfold lotsM
  rw [tot_all, ii_and]
  congr 1
  simp [tot]
end Mx
-- M18
set_option maxHeartbeats 1000000
namespace Mx
theorem fil_sum {α : Type} (p : α → Bool) (l : List α) : ((l.filter p).length : Int) = (l.map fun x => ii (p x)).sum := by
  induction l with
  | nil => rfl
  | cons x l ih =>
    rw [List.map_cons, List.sum_cons, ← ih, List.filter_cons]
    cases p x with
    | true => simp [ii]; omega
    | false => simp [ii]
theorem sum_add {α : Type} (f g : α → Int) (l : List α) : (l.map fun x => f x + g x).sum = (l.map f).sum + (l.map g).sum := by
  induction l with
  | nil => rfl
  | cons x l ih => rw [List.map_cons, List.sum_cons, List.map_cons, List.sum_cons, List.map_cons, List.sum_cons, ih]; omega
theorem sum_mul {α : Type} (c : Int) (f : α → Int) (l : List α) : (l.map fun x => c * f x).sum = c * (l.map f).sum := by
  induction l with
  | nil => simp
  | cons x l ih => rw [List.map_cons, List.sum_cons, List.map_cons, List.sum_cons, ih, Int.mul_add]
theorem sum_swap {α β : Type} (f : α → β → Int) (l : List α) (m : List β) : (l.map fun x => (m.map fun y => f x y).sum).sum = (m.map fun y => (l.map fun x => f x y).sum).sum := by
  induction l with
  | nil =>
    show 0 = _
    induction m with
    | nil => rfl
    | cons y m ih => rw [List.map_cons, List.sum_cons, ← ih]; rfl
  | cons x l ih =>
    rw [List.map_cons, List.sum_cons, ih, ← sum_add]
    congr 1
    
theorem fit_lots (n : Nat) (S N : Sg) (s : Nat) : ((thatFit n S N s).length : Int) = ((lotsM N).map fun p => p.2 * ((allH s n).map fun x => ii (showB (S ++ p.1) s x)).sum).sum := by
  unfold thatFit thatShow
  rw [List.filter_filter, fil_sum]
  have e : ((allH s n).map fun x => ii ((N.all fun q => !showB [q] s x) && showB S s x)) = (allH s n).map fun x => ((lotsM N).map fun p => p.2 * ii (showB (S ++ p.1) s x)).sum := by
    refine List.map_congr_left fun x _ => ?_
    have := tot_lots S N s x
    unfold tot at this
    rw [this, Bool.and_comm]
  rw [e, sum_swap]
  congr 1
  refine List.map_congr_left fun p _ => ?_
  exact sum_mul _ _ _
/-! ### the number of hours that show -/
theorem sm_list (s : Nat) (f : Int → Bool) : ((List.range s).map fun k : Nat => ii (f k)).sum = ((sm s fun x => ib (f x) : Nat) : Int) := by
  induction s with
  | zero => rfl
  | succ s ih =>
    rw [List.range_succ, List.map_append, List.sum_append, ih, sm_succ]
    cases h : f s <;> simp [ii, ib, h]
theorem num1 (S : Sg) (s : Nat) : ((allH s 1).map fun x => ii (showB S s x)).sum = ((sm s fun x => ib (showB S s [x]) : Nat) : Int) := by
  rw [← sm_list s fun x => showB S s [x]]
  show ((([[]] : List Row).flatMap fun r => (List.range s).map fun k : Nat => r ++ [(k : Int)]).map _).sum = _
  rw [List.flatMap_cons, List.flatMap_nil, List.append_nil, List.map_map]
  rfl
theorem num2 (S : Sg) (s : Nat) : ((allH s 2).map fun x => ii (showB S s x)).sum = ((sm s fun x => sm s fun y => ib (showB S s [x, y]) : Nat) : Int) := by
  show (((allH s 1).flatMap fun r => (List.range s).map fun k : Nat => r ++ [(k : Int)]).map _).sum = _
  have e : allH s 1 = (List.range s).map fun k : Nat => [(k : Int)] := by
    show (([[]] : List Row).flatMap fun r => (List.range s).map fun k : Nat => r ++ [(k : Int)]) = _
    rw [List.flatMap_cons, List.flatMap_nil, List.append_nil]
    rfl
  rw [e]
  have key : ∀ t : Nat, ((((List.range t).map fun k : Nat => [(k : Int)]).flatMap fun r => (List.range s).map fun k : Nat => r ++ [(k : Int)]).map fun x => ii (showB S s x)).sum = ((sm t fun x => sm s fun y => ib (showB S s [x, y]) : Nat) : Int) := by
    intro t
    induction t with
    | zero => rfl
    | succ t ih =>
      rw [List.range_succ, List.map_append, List.flatMap_append, List.map_append, List.sum_append, ih, sm_succ, Int.natCast_add]
      congr 1
      show ((([[(t : Int)]] : List Row).flatMap fun r => (List.range s).map fun k : Nat => r ++ [(k : Int)]).map _).sum = _
      rw [List.flatMap_cons, List.flatMap_nil, List.append_nil, List.map_map, ← sm_list s fun y => showB S s [(t : Int), y]]
      rfl
  exact key s
/-- shown hours are one of them and what no row sees -/
theorem sol_kr {T : Sg} {s x0 y0 : Int} (h0 : Sol T s x0 y0) (x y : Int) : Sol T s x y ↔ Kr s (T.map Prod.fst) (x - x0) (y - y0) := by
  constructor
  · intro h i
    by_cases hi : i < T.length
    · rw [S_ent hi, S_ent hi]
      have := Int.dvd_sub (h T[i] (List.getElem_mem hi)) (h0 T[i] (List.getElem_mem hi))
      have e : at_ T[i].1 0 * x + at_ T[i].1 1 * y - T[i].2 - (at_ T[i].1 0 * x0 + at_ T[i].1 1 * y0 - T[i].2) = at_ T[i].1 0 * (x - x0) + at_ T[i].1 1 * (y - y0) := by rw [Int.mul_sub, Int.mul_sub]; omega
      rw [e] at this
      exact this
    · rw [ent_ge (by simp; omega), ent_ge (by simp; omega)]
      exact ⟨0, by omega⟩
  · intro h p hp
    obtain ⟨i, hi, rfl⟩ := List.getElem_of_mem hp
    have := h i
    rw [S_ent hi, S_ent hi] at this
    have := Int.dvd_add this (h0 T[i] hp)
    have e : at_ T[i].1 0 * (x - x0) + at_ T[i].1 1 * (y - y0) + (at_ T[i].1 0 * x0 + at_ T[i].1 1 * y0 - T[i].2) = at_ T[i].1 0 * x + at_ T[i].1 1 * y - T[i].2 := by rw [Int.mul_sub, Int.mul_sub]; omega
    rw [e] at this
    exact this
theorem kb_perY (s : Nat) (M : List Row) (x y : Int) : kb s M x (y + s) = kb s M x y := by
  refine bool_eq (kb_iff.trans (Iff.trans ⟨fun k i => ?_, fun k i => ?_⟩ kb_iff.symm))
  · have := Int.dvd_sub (k i) (Int.dvd_mul_left (ent M i 1) (s : Int))
    have e : ent M i 0 * x + ent M i 1 * (y + s) - ent M i 1 * s = ent M i 0 * x + ent M i 1 * y := by rw [Int.mul_add]; omega
    rw [e] at this
    exact this
  · have := Int.dvd_add (k i) (Int.dvd_mul_left (ent M i 1) (s : Int))
    have e : ent M i 0 * x + ent M i 1 * y + ent M i 1 * s = ent M i 0 * x + ent M i 1 * (y + s) := by rw [Int.mul_add]; omega
    rw [e] at this
    exact this
theorem num_sol {n : Nat} {T : Sg} {s : Nat} (hs : 0 < s) (hn : n = 1 ∨ n = 2) (hw : ∀ p ∈ T, p.1.length = n) : (FitsM n T s → ((allH s n).map fun x => ii (showB T s x)).sum = (cnt n s (T.map Prod.fst) : Int)) ∧ (¬ FitsM n T s → ((allH s n).map fun x => ii (showB T s x)).sum = 0) := by
  rw [fits_iff hn hw]
  rcases hn with rfl | rfl
  · rw [num1]
    refine ⟨fun ⟨x0, y0, h0⟩ => ?_, fun h => ?_⟩
    · congr 1
      have e : ∀ x, showB T s [x] = kb s (T.map Prod.fst) (x + -x0) 0 := fun x => bool_eq ((showB1 hs hw x y0).trans ((sol_kr h0 x y0).trans (by rw [kb_iff, Int.sub_self]; exact Iff.rfl)))
      unfold cnt
      rw [if_pos rfl]
      simp only [e]
      exact sm_shift (f := fun x => ib (kb s (T.map Prod.fst) x 0)) (fun x => by show ib _ = ib _; rw [kb_per]) (-x0)
    · have e : ∀ x, showB T s [x] = false := fun x => by
        cases q : showB T s [x] with
        | false => rfl
        | true => exact absurd ⟨x, 0, (showB1 hs hw x 0).mp q⟩ h
      simp only [e]
      show ((sm s fun _ => 0 : Nat) : Int) = 0
      rw [sm_const]
      simp
  · rw [num2]
    refine ⟨fun ⟨x0, y0, h0⟩ => ?_, fun h => ?_⟩
    · congr 1
      have e : ∀ x y, showB T s [x, y] = kb s (T.map Prod.fst) (x + -x0) (y + -y0) := fun x y => bool_eq ((showB2 hs hw x y).trans ((sol_kr h0 x y).trans (by rw [kb_iff]; exact Iff.rfl)))
      unfold cnt
      rw [if_neg (by decide)]
      simp only [e]
      rw [← sm_swap s s fun x y => ib (kb s (T.map Prod.fst) (x + -x0) (y + -y0))]
      have e1 : (sm s fun y => sm s fun x => ib (kb s (T.map Prod.fst) (x + -x0) (y + -y0))) = sm s fun y => sm s fun x => ib (kb s (T.map Prod.fst) x (y + -y0)) :=
        sm_congr fun y _ _ => sm_shift (f := fun x => ib (kb s (T.map Prod.fst) x (y + -y0))) (fun x => by show ib _ = ib _; rw [kb_per]) (-x0)
      rw [e1]
      exact sm_shift (f := fun y => sm s fun x => ib (kb s (T.map Prod.fst) x y)) (fun y => by
        show sm s _ = sm s _
        refine sm_congr fun x _ _ => ?_
        rw [kb_perY]) (-y0)
    · have e : ∀ x y, showB T s [x, y] = false := fun x y => by
        cases q : showB T s [x, y] with
        | false => rfl
        | true => exact absurd ⟨x, y, (showB2 hs hw x y).mp q⟩ h
      simp only [e]
      show ((sm s fun _ => sm s fun _ => 0 : Nat) : Int) = 0
      rw [sm_const, sm_const]
      simp
end Mx
-- M19
set_option maxHeartbeats 1000000
namespace Mx
theorem fm_eq {a b s : Int} (hs : 0 < s) : a.fmod s = b.fmod s ↔ s ∣ a - b := by
  rw [Int.fmod_eq_emod_of_nonneg _ (by omega), Int.fmod_eq_emod_of_nonneg _ (by omega)]
  constructor
  · intro h
    exact Int.dvd_of_emod_eq_zero (Int.emod_eq_emod_iff_emod_sub_eq_zero.mp h)
  · intro h
    exact Int.emod_eq_emod_iff_emod_sub_eq_zero.mpr (Int.emod_eq_zero_of_dvd h)
section
variable {n : Nat} {S : Sg} {s : Nat} {row : Row}
theorem shown_sol (hs : 0 < s) (hn : n = 1 ∨ n = 2) (hw : ∀ p ∈ S, p.1.length = n) (hr : row.length = n) {r : Row} (h : r ∈ thatShow n S s) : ∃ x y, Sol S s x y ∧ dot row r = at_ row 0 * x + at_ row 1 * y := by
  obtain ⟨h1, h2⟩ := List.mem_filter.mp h
  rcases hn with rfl | rfl
  · obtain ⟨a, ha, rfl⟩ := allH1.mp h1
    refine ⟨a, 0, (showB1 hs hw a 0).mp h2, ?_⟩
    rw [dot1 _ hr]
    omega
  · obtain ⟨a, b, ha, hb, rfl⟩ := allH2.mp h1
    exact ⟨a, b, (showB2 hs hw a b).mp h2, dot2 _ hr _ _⟩
theorem sol_shown (hs : 0 < s) (hn : n = 1 ∨ n = 2) (hw : ∀ p ∈ S, p.1.length = n) (hr : row.length = n) {x y : Int} (h : Sol S s x y) : ∃ r ∈ thatShow n S s, (s : Int) ∣ dot row r - (at_ row 0 * x + at_ row 1 * y) := by
  have x0 := Int.emod_nonneg x (b := (s : Int)) (by omega)
  have x1 := Int.emod_lt_of_pos x (b := (s : Int)) (by omega)
  have y0 := Int.emod_nonneg y (b := (s : Int)) (by omega)
  have y1 := Int.emod_lt_of_pos y (b := (s : Int)) (by omega)
  have hx : (((x % s).toNat : Nat) : Int) = x % s := by omega
  have hy : (((y % s).toNat : Nat) : Int) = y % s := by omega
  have h' := sol_mod (emod_dvd_sub x s) (emod_dvd_sub y s) h
  obtain ⟨c, hc⟩ := emod_dvd_sub x s
  obtain ⟨d, hd⟩ := emod_dvd_sub y s
  rcases hn with rfl | rfl
  · refine ⟨[((x % s).toNat : Int)], List.mem_filter.mpr ⟨allH1.mpr ⟨_, by omega, rfl⟩, ?_⟩, at_ row 0 * c, ?_⟩
    · rw [hx]
      exact (showB1 hs hw _ (y % s)).mpr h'
    · rw [dot1 _ hr, hx, at_ge (r := row) (j := 1) (by omega)]
      have e : x % s = x + s * c := by omega
      rw [e, Int.mul_add, Int.mul_left_comm]
      omega
  · refine ⟨[((x % s).toNat : Int), ((y % s).toNat : Int)], List.mem_filter.mpr ⟨allH2.mpr ⟨_, _, by omega, by omega, rfl⟩, ?_⟩, at_ row 0 * c + at_ row 1 * d, ?_⟩
    · rw [hx, hy]
      exact (showB2 hs hw _ _).mpr h'
    · rw [dot2 _ hr, hx, hy]
      have e : x % s = x + s * c := by omega
      have e2 : y % s = y + s * d := by omega
      rw [e, e2, Int.mul_add, Int.mul_add, Int.mul_add, Int.mul_left_comm, Int.mul_left_comm (at_ row 1)]
      omega
def valsOf (n : Nat) (S : Sg) (s : Nat) (row : Row) : List Int := (thatShow n S s).map fun x => (dot row x).fmod s
/-- told by count: three ways -/
theorem told_none (hs : 0 < s) (hn : n = 1 ∨ n = 2) (hw : ∀ p ∈ S, p.1.length = n) (hf : ¬ FitsM n S s) : thatShow n S s = [] := by
  cases q : thatShow n S s with
  | nil => rfl
  | cons r l =>
    exfalso
    obtain ⟨x, y, h, _⟩ := shown_sol (row := List.replicate n 0) hs hn hw (by simp) (r := r) (by rw [q]; exact List.mem_cons_self ..)
    exact hf ((fits_iff hn hw).mpr ⟨x, y, h⟩)
theorem told_one (hs : 0 < s) (hn : n = 1 ∨ n = 2) (hw : ∀ p ∈ S, p.1.length = n) (hr : row.length = n) (hf : FitsM n S s) {m : Row} (hm : m.length = (madeOf n S s).length) (hmk : ∀ j, j < n → at_ row j = lc (at_ m) (madeOf n S s) j) :
    ∀ v, v ∈ valsOf n S s row ↔ v = (dot (m.take S.length) (S.map Prod.snd)).fmod s := by
  intro v
  unfold valsOf
  rw [List.mem_map]
  constructor
  · rintro ⟨r, h, rfl⟩
    obtain ⟨x, y, h1, h2⟩ := shown_sol hs hn hw hr h
    rw [fm_eq (by omega), h2]
    exact told_val hn hw hr hm hmk h1
  · rintro rfl
    obtain ⟨x, y, h⟩ := (fits_iff hn hw).mp hf
    obtain ⟨r, h1, h2⟩ := sol_shown hs hn hw hr h
    refine ⟨r, h1, ?_⟩
    rw [fm_eq (by omega)]
    have := Int.dvd_add h2 (told_val hn hw hr hm hmk h)
    have e : dot row r - (at_ row 0 * x + at_ row 1 * y) + (at_ row 0 * x + at_ row 1 * y - dot (m.take S.length) (S.map Prod.snd)) = dot row r - dot (m.take S.length) (S.map Prod.snd) := by omega
    rw [e] at this
    exact this
theorem told_many (hs : 0 < s) (hn : n = 1 ∨ n = 2) (hw : ∀ p ∈ S, p.1.length = n) (hr : row.length = n) (hf : FitsM n S s) (hni : ¬ InS (madeOf n S s) n row) : ∃ v v', v ∈ valsOf n S s row ∧ v' ∈ valsOf n S s row ∧ v ≠ v' := by
  obtain ⟨x, y, h⟩ := (fits_iff hn hw).mp hf
  obtain ⟨x', y', h', hd⟩ := told_two (by omega) hn hw hr hni h
  obtain ⟨r, h1, h2⟩ := sol_shown hs hn hw hr h
  obtain ⟨r', h1', h2'⟩ := sol_shown hs hn hw hr h'
  refine ⟨_, _, List.mem_map.mpr ⟨r, h1, rfl⟩, List.mem_map.mpr ⟨r', h1', rfl⟩, fun e => hd ?_⟩
  have h3 := (fm_eq (by omega)).mp e.symm
  have := Int.dvd_add (Int.dvd_sub h3 h2') h2
  have e2 : dot row r' - dot row r - (dot row r' - (at_ row 0 * x' + at_ row 1 * y')) + (dot row r - (at_ row 0 * x + at_ row 1 * y)) = at_ row 0 * x' + at_ row 1 * y' - (at_ row 0 * x + at_ row 1 * y) := by omega
  rw [e2] at this
  exact this
end
end Mx
-- Sl7
set_option maxRecDepth 100000
set_option maxHeartbeats 4000000
/-! what is told is what is counted -/
namespace Sh
open PySem PySem.Spec PyProof.Rows L2 RZ
open C8 (Cal pe_c)
open Mx
theorem fits_M (n : Nat) (S : Sgt) (s : Int) : Fits n S s ↔ FitsM n S s := Iff.rfl
theorem ways_fit {n : Nat} {S N : Sgt} {s : Nat} (hs : 0 < s) (hn : n = 1 ∨ n = 2) (hS : ∀ p ∈ S, p.1.length = n) (hN : ∀ p ∈ N, p.1.length = n) : waysI n S N s = ((thatFit n S N s).length : Int) := by
  rw [fit_lots]
  unfold waysI
  congr 1
  refine List.map_congr_left fun p hp => ?_
  have hw : ∀ q ∈ S ++ p.1, q.1.length = n := fun q hq => by
    rcases List.mem_append.mp hq with z | z
    · exact hS q z
    · have := lots_mem N [([], 1)] (fun q => q.1.length = n) (fun p hp => by rw [List.mem_singleton.mp hp]; exact ⟨fun q hq => by simp at hq, rfl⟩) hN p hp
      exact this.1 q z
  obtain ⟨h1, h2⟩ := num_sol (T := S ++ p.1) hs hn hw
  unfold part
  by_cases hf : Fits n (S ++ p.1) s
  · rw [if_pos (fitsB_iff.mpr hf), h1 hf]
    rfl
  · rw [if_neg (fun z => hf (fitsB_iff.mp z)), h2 hf, Int.mul_zero]
theorem out_nil {out : List Int} (h : ∀ v, v ∉ out) : out = [] := by
  cases out with
  | nil => rfl
  | cons x l => exact absurd (List.mem_cons_self ..) (h x)
theorem out_one {out : List Int} (hp : out.Pairwise (· < ·)) {v : Int} (h : ∀ x, x ∈ out ↔ x = v) : out = [v] := by
  match out, hp with
  | [], _ => exact absurd ((h v).mpr rfl) (by simp)
  | [x], _ => rw [(h x).mp (by simp)]
  | x :: y :: l, hp =>
    have h1 := (h x).mp (by simp)
    have h2 := (h y).mp (by simp)
    have := (List.pairwise_cons.mp hp).1 y (by simp)
    omega
theorem out_two {out : List Int} {v w : Int} (h1 : v ∈ out) (h2 : w ∈ out) (hne : v ≠ w) : ∃ x y l, out = x :: y :: l := by
  match out with
  | [] => simp at h1
  | [x] =>
    rw [List.mem_singleton.mp h1, List.mem_singleton.mp h2] at hne
    exact absurd rfl hne
  | x :: y :: l => exact ⟨x, y, l, rfl⟩
theorem lstD_pR (r : List Int) : lstD (pR r) = .list (r.map PyData.int) := by
  unfold pR
  rw [lstD, lstAll_map, List.map_map]
  refine congrArg PyData.list ?_
  exact List.map_congr_left fun x _ => by show lstD (.int x) = _; rw [lstD]
theorem lstD_pS (S : Sgt) : lstD (pS S) = .list (S.map fun p => .list [.list (p.1.map PyData.int), .int p.2]) := by
  unfold pS
  rw [lstD, lstAll_map, List.map_map]
  refine congrArg PyData.list ?_
  refine List.map_congr_left fun p _ => ?_
  show lstD (.tuple [pR p.1, .int p.2]) = _
  rw [lstD, lstAll, lstAll, lstAll, lstD_pR, lstD]
theorem isR_list {r : Mx.Row} (h : r.length ≤ 1000) : IsR (.list (r.map PyData.int)) r := by
  refine ⟨⟨by simpa using h, fun x hx => ?_⟩, ?_⟩
  · obtain ⟨y, _, rfl⟩ := List.mem_map.mp hx
    trivial
  · rw [tupD, tupAll_map, List.map_map]
    refine congrArg PyData.tuple ?_
    exact List.map_congr_left fun x _ => by show tupD (.int x) = _; rw [tupD]
theorem isR_pR {r : Mx.Row} (h : r.length ≤ 1000) : IsR (pR r) r := ⟨flat_pR h, tupD_pR r⟩
theorem isS_lst {S : Sgt} (h : S.length ≤ 1000) (h2 : ∀ p ∈ S, p.1.length ≤ 1000) : IsS (lstD (pS S)) S := by
  rw [lstD_pS]
  refine ⟨⟨by simpa using h, fun x hx => ?_⟩, ?_⟩
  · obtain ⟨p, hp, rfl⟩ := List.mem_map.mp hx
    refine ⟨by simp, fun x hx => ?_⟩
    simp only [List.mem_cons, List.not_mem_nil, or_false] at hx
    rcases hx with rfl | rfl
    · refine ⟨by simpa using h2 p hp, fun x hx => ?_⟩
      obtain ⟨y, _, rfl⟩ := List.mem_map.mp hx
      trivial
    · trivial
  · unfold pS
    rw [tupD, tupAll_map, List.map_map]
    refine congrArg PyData.tuple ?_
    refine List.map_congr_left fun p hp => ?_
    show tupD (.list [.list (p.1.map PyData.int), .int p.2]) = _
    rw [tupD, tupAll, tupAll, tupAll, (isR_list (h2 p hp)).2, tupD]
section
variable {P : Program} {w : World} {K : PySem.W.Frag} {mg : Str → Option Value} {base : Heap} {T : Tb}
/-- the hour's due answer -/
def Due (n : Nat) (S : Sgt) (s : Nat) (row : Mx.Row) (due : DD) : Prop := (¬ Fits n S s → unfD = due) ∧ (Fits n S s → (¬ InS (rowsS S ++ roundsR s n) n row → PyData.none = due) ∧ ∀ m, Makes (rowsS S ++ roundsR s n) row m → PyData.int ((dot (m.take S.length) (hrsS S)).fmod s) = due)
theorem due_of {n : Nat} {S : Sgt} {s : Nat} {row : Mx.Row} (hs : 0 < s) (hn : n = 1 ∨ n = 2) (hw : ∀ p ∈ S, p.1.length = n) (hr : row.length = n) {out : List Int} (hp : out.Pairwise (· < ·)) (hm : ∀ k, k ∈ out ↔ k ∈ valsOf n S s row) :
    (out = [] ∧ Due n S s row unfD) ∨ (∃ v, out = [v] ∧ Due n S s row (.int v)) ∨ (∃ x y l, out = x :: y :: l ∧ Due n S s row .none) := by
  by_cases hf : Fits n S s
  · by_cases hi : InS (rowsS S ++ roundsR s n) n row
    · obtain ⟨u, hu⟩ := hi
      have hL : (madeOf n S s).length = S.length + n := by rw [List.length_append, List.length_map, len_roundsM]
      have hmk : ∀ j, j < n → at_ row j = lc (at_ ((List.range (S.length + n)).map u)) (madeOf n S s) j := fun j hj => by
        rw [hu j hj]
        refine lc_congr (rs := madeOf n S s) fun i hi => ?_
        rw [hL] at hi
        rw [at_lt (by simpa using hi)]
        simp
      have one := told_one hs hn hw hr hf (m := (List.range (S.length + n)).map u) (by rw [hL]; simp) hmk
      refine .inr (.inl ⟨_, out_one hp fun x => (hm x).trans (one x), fun h => absurd hf h, fun _ => ⟨fun h => absurd ⟨u, hu⟩ h, fun m mk => ?_⟩⟩)
      have one' := told_one hs hn hw hr hf mk.1 (fun j hj => mk.2.2 j (by rw [hr]; exact hj))
      exact congrArg PyData.int (((one _).mp ((one' _).mpr rfl)))
    · obtain ⟨v, v', h1, h2, h3⟩ := told_many hs hn hw hr hf hi
      obtain ⟨x, y, l, e⟩ := out_two ((hm v).mpr h1) ((hm v').mpr h2) h3
      refine .inr (.inr ⟨x, y, l, e, fun h => absurd hf h, fun _ => ⟨fun _ => rfl, fun m mk => ?_⟩⟩)
      have := mk.ins
      rw [hr] at this
      exact absurd this hi
  · refine .inl ⟨out_nil fun v hv => ?_, fun _ => rfl, fun h => absurd h hf⟩
    have := (hm v).mp hv
    unfold valsOf at this
    rw [told_none hs hn hw hf] at this
    simp at this
abbrev s_law_hour_right : Stmt := top 61
abbrev N_law_hour_right : List Str := ["_law_n_so", "_law_sights_so", "_law_size_so", "_law_row_so", "_law_hours_so", "_law_due", "_law_own"]
theorem sc_law_hour_right : FnScope N_law_hour_right ["_law_n_so", "_law_sights_so", "_law_size_so", "_law_row_so"] (defScope s_law_hour_right) := ⟨rfl, rfl, rfl, by decide +kernel, rfl, by decide +kernel, by decide +kernel⟩
def R_law_hour_right (ds : List DD) (post : DD → Prop) : Prop := ∃ (n : Nat) (S : Sgt) (s : Nat) (row : Mx.Row), ds = [.int n, pS S, .int s, pR row] ∧ (n = 1 ∨ n = 2) ∧ Small n S ∧ S.length ≤ 3 ∧ 1 ≤ s ∧ s ≤ 12 ∧ row.length = n ∧ (∀ x ∈ row, x.natAbs ≤ 2 ^ 8) ∧ post (.bool true)
theorem cal_law_hour_right (E : Bl mg) (c_law_all_that_show : Cal P w K mg base 3 "_law_all_that_show" (spD T R_law_all_that_show) []) (c_law_dot : Cal P w K mg base 1 "_law_dot" (spD T R_law_dot) []) (c_law_same : Cal P w K mg base 5 "_law_same" (spD T (R_law_same 3)) [])
    (c_law_heard : Cal P w K mg base 10 "_law_heard" (spD T R_law_heard) []) (c_law_lists : Cal P w K mg base 5 "_law_lists" (spD T (R_law_lists 3)) []) (D : DefAt K mg "_law_hour_right" s_law_hour_right) : Cal P w K mg base 11 "_law_hour_right" (spD T R_law_hour_right) [] := by
  refine cal_d D sc_law_hour_right (fun _ _ _ _ _ _ us hl => match us, hl with | [_, _, _, _], _ => rfl) (fun ds post h => ?_) (fun f cdv A outer s H E0 hr ds post h => ?_)
  · obtain ⟨_, _, _, _, rfl, _⟩ := h
    rfl
  · obtain ⟨n, S, s, row, rfl, hn, sS, hl, s1, s2, hrl, hrb, hp⟩ := h
    refine ⟨_, (pss_cons (ps_set (i := 4) sc_law_hour_right.nd rfl (Or.inl rfl) (pe_callB (cr_sortedSet rfl) (by rfl) E.sorted (by decide +kernel) (pa_cons (pe_callTy (cr_setL rfl) (by rfl) E.set (by decide +kernel) (pa_cons (pe_lc (own := [("_law_own", 6)]) rfl sc_law_hour_right.nd (k_list (K := K) rfl (pe_c c_law_all_that_show hr (by omega) (by rfl) (pa_cons (pv 0) (pa_cons (pv 1) (pa_cons (pv 2) pa_nil))))) (blkOk_by (own := [("_law_own", 6)]) (N := N_law_hour_right) (sc := (defScope s_law_hour_right)) (by decide +kernel)) (fun _ _ _ _ _ => (pg_name (i := 6) sc_law_hour_right.nd rfl (Or.inl rfl) (Or.inr rfl))) (fun _ _ _ _ _ => pts_nil) (fun _ _ _ _ _ => (pe_op op_modN (pe_c c_law_dot hr (by omega) (by rfl) (pa_cons (pv 3) (pa_cons (pv 6) pa_nil))) (pv 2)))) pa_nil)) pa_nil))) (pss_cons (ps_set (i := 5) sc_law_hour_right.nd rfl (Or.inl rfl) (pe_ifExp (pt_cmpR (k_eqD (K := K) rfl hr.units) (pv 4) (pe_lst pa_nil) (nomark _)) (pe_lst (pa_cons pe_str (pa_cons pe_bl pa_nil))) (pe_ifExp (pt_cmpR op_eq (pe_callB (k_len (K := K) rfl) (by rfl) E.len PySem.boot_len (pa_cons (pv 4) pa_nil)) pe_int (nomark _)) (pe_ix (k_ix (K := K) rfl) (pv 4) pe_int (fun _ _ => rfl)) pe_non))) (pss_one (ps_ret (pe_c c_law_same hr (by omega) (by rfl) (pa_cons (pe_lst (pa_cons (pe_c c_law_heard hr (by omega) (by rfl) (pa_cons (pv 0) (pa_cons (pv 1) (pa_cons (pv 2) (pa_cons (pv 3) pa_nil))))) (pa_cons (pe_c c_law_heard hr (by omega) (by rfl) (pa_cons (pv 0) (pa_cons (pe_c c_law_lists hr (by omega) (by rfl) (pa_cons (pv 1) pa_nil)) (pa_cons (pv 2) (pa_cons (pe_callTy (k_lstOf (K := K) rfl) (by rfl) E.list (by decide +kernel) (pa_cons (pv 3) pa_nil)) pa_nil))))) pa_nil))) (pa_cons (pe_lst (pa_cons (pv 5) (pa_cons (pv 5) pa_nil))) pa_nil))))))), ?_⟩
    have n2 : n ≤ 2 := by omega
    have sh : ShOk S s := ⟨by omega, fun p hp => ⟨by rw [sS.wd p hp]; omega, sS.bd p hp⟩, s1⟩
    have big : (thatShow n S s).length ≤ 144 := by
      refine Nat.le_trans (List.length_filter_le _ _) ?_
      rw [allH_len]
      exact Nat.le_trans (Nat.pow_le_pow_left s2 _) (Nat.le_trans (Nat.pow_le_pow_right (by decide) n2) (by decide))
    refine sd_seq (sw_asg (ew_srtset (ns := valsOf n S s row) (m := s) (ed_is (ed_lc1 (thatShow n S s) pR (fun x => PyData.int ((dot row x).fmod s)) (id_list (ed_call (ea_cons (ed_var rfl) (ea_cons (ed_var rfl) (ea_cons (ed_var rfl) ea_nil))) ⟨n, S, s, rfl, sh, s2, n2, rfl⟩)) (by omega) fun x hx => ⟨_, _, by simp, tg_name, ?_⟩) ?_) ?_ ?_ (by omega)) ?_)
    · exact ed_op (ed_call (ea_cons (ed_var rfl) (ea_cons (ed_var rfl) ea_nil)) ⟨row, x, rfl, by omega, fun y hy => Nat.lt_of_le_of_lt (hrb y hy) (by decide), rfl⟩) (ed_var rfl) (rd_I (by omega))
    · unfold valsOf
      rw [List.map_map]
      rfl
    · unfold valsOf
      rw [List.length_map]
      omega
    · intro k hk
      unfold valsOf at hk
      obtain ⟨x, _, rfl⟩ := List.mem_map.mp hk
      exact ⟨Int.fmod_nonneg_of_pos _ (by omega), Int.fmod_lt_of_pos _ (by omega)⟩
    rintro d ⟨out, rfl, ho1, ho2⟩
    refine ⟨_, _, tg_name, ?_⟩
    have wlen : ∀ p ∈ S, p.1.length ≤ 1000 := fun p hp => by rw [sS.wd p hp]; omega
    refine sd_seq (sw_asg (post := fun d => Due n S s row d ∧ FlatQ 2 d) ?_ ?_)
    · rcases due_of s1 hn sS.wd hrl ho1 ho2 with ⟨rfl, hd⟩ | ⟨v, rfl, hd⟩ | ⟨x, y, l, rfl, hd⟩
      · refine (ed_if (d := unfD) (b := true) (et_is (et_test (ed_op (ed_var rfl) (ed_lst ea_nil (by decide)) (rd_eqD (shaped_intsL _) (by decide) (eqv_nilL _)))) rfl) (fun _ => ed_lst (ea_cons ed_str (ea_cons ed_bl ea_nil)) (by simp)) fun e => by cases e).ew.imp ?_
        rintro d rfl
        refine ⟨hd, by simp, fun x hx => ?_⟩
        simp only [List.mem_cons, List.not_mem_nil, or_false] at hx
        rcases hx with rfl | rfl
        · show SeqAt.shaped (.str _) = true
          decide +kernel
        · trivial
      · refine (ed_if (d := .int v) (b := false) (et_is (et_test (ed_op (ed_var rfl) (ed_lst ea_nil (by decide)) (rd_eqD (shaped_intsL _) (by decide) (eqv_nilL _)))) rfl) (fun e => by cases e) fun _ => ed_if (b := true) (et_is (et_test (ed_op (ed_cb (ea_cons (ed_var rfl) ea_nil) rc_lenL) ed_int rd_eqI)) (by simp)) (fun _ => ed_op (ed_var rfl) ed_int (rd_ix_l at0)) fun e => by cases e).ew.imp ?_
        rintro d rfl
        exact ⟨hd, trivial⟩
      · refine (ed_if (d := .none) (b := false) (et_is (et_test (ed_op (ed_var rfl) (ed_lst ea_nil (by decide)) (rd_eqD (shaped_intsL _) (by decide) (eqv_nilL _)))) rfl) (fun e => by cases e) fun _ => ed_if (b := false) (et_is (et_test (ed_op (ed_cb (ea_cons (ed_var rfl) ea_nil) rc_lenL) ed_int rd_eqI)) (by simp; omega)) (fun e => by cases e) fun _ => ed_non).ew.imp ?_
        rintro d rfl
        exact ⟨hd, trivial⟩
    · rintro due ⟨hd, hq⟩
      refine ⟨_, _, tg_name, ?_⟩
      refine sd_ret (ed_call (ea_cons (ed_lst (ea_cons (ed_call (d := due) (ea_cons (ed_var rfl) (ea_cons (ed_var rfl) (ea_cons (ed_var rfl) (ea_cons (ed_var rfl) ea_nil)))) ?_) (ea_cons (ed_call (d := due) (ea_cons (ed_var rfl) (ea_cons (ed_call (d := lstD (pS S)) (ea_cons (ed_var rfl) ea_nil) ?_) (ea_cons (ed_var rfl) (ea_cons (ed_cb (ea_cons (ed_var rfl) ea_nil) rc_lstT) ea_nil)))) ?_) ea_nil)) (by simp))
        (ea_cons (ed_lst (ea_cons (ed_var rfl) (ea_cons (ed_var rfl) ea_nil)) (by simp)) ea_nil)) ⟨.list [due, due], rfl, ⟨by simp, fun x hx => by simp at hx; rw [hx]; exact hq⟩, rfl⟩) hp
      · exact ⟨n, pS S, S, s, pR row, row, rfl, isS_pS (by omega) wlen, sS.ok (by omega) n2 (by omega) s1 (by omega), isR_pR (by omega), hrl, hrb, hd.1, hd.2⟩
      · exact ⟨pS S, rfl, flat_pS (by omega) wlen, rfl⟩
      · exact ⟨n, lstD (pS S), S, s, _, row, rfl, isS_lst (by omega) wlen, sS.ok (by omega) n2 (by omega) s1 (by omega), isR_list (by omega), hrl, hrb, hd.1, hd.2⟩
end
end Sh
-- Sl8
set_option maxRecDepth 100000
set_option maxHeartbeats 4000000
/-! the least size that fits -/
namespace Sh
open PySem PySem.Spec PyProof.Rows L2 RZ
open C8 (Cal pe_c)
open Mx
theorem shaped_lst {t : List (List Int)} : SeqAt.shaped (.list (t.map fun r => .tuple (r.map PyData.int))) = true := by
  have h := shaped_rows t
  unfold SeqAt.shaped at h ⊢
  simp only [PyData.canLay0, PyData.depth] at h ⊢
  exact h
theorem filter_first {α : Type} (p : α → Bool) : ∀ (l : List α), (l.filter p = [] ∧ ∀ x ∈ l, p x = false) ∨ ∃ (i : Nat) (x : α) (r : List α), l.filter p = x :: r ∧ l[i]? = some x ∧ p x = true ∧ ∀ (j : Nat) (y : α), j < i → l[j]? = some y → p y = false
  | [] => .inl ⟨rfl, by simp⟩
  | x :: l => by
    by_cases h : p x = true
    · exact .inr ⟨0, x, l.filter p, by rw [List.filter_cons_of_pos h], rfl, h, fun j y hj => by omega⟩
    · have h : p x = false := by simpa using h
      rcases filter_first p l with ⟨h1, h2⟩ | ⟨i, y, r, h1, h2, h3, h4⟩
      · refine .inl ⟨by rw [List.filter_cons_of_neg (by simp [h]), h1], fun z hz => ?_⟩
        rcases List.mem_cons.mp hz with e | hz
        · rw [e]; exact h
        · exact h2 z hz
      · refine .inr ⟨i + 1, y, r, by rw [List.filter_cons_of_neg (by simp [h]), h1], by simpa using h2, h3, fun j z hj hz => ?_⟩
        cases j with
        | zero => simp at hz; rw [← hz]; exact h
        | succ j => exact h4 j z (by omega) (by simpa using hz)
section
variable {P : Program} {w : World} {K : PySem.W.Frag} {mg : Str → Option Value} {base : Heap} {T : Tb}
abbrev s_law_least_right : Stmt := top 62
abbrev N_law_least_right : List Str := ["_law_n_so", "_law_sights_so", "_law_nots_so", "_law_found", "_law_size_so"]
theorem sc_law_least_right : FnScope N_law_least_right ["_law_n_so", "_law_sights_so", "_law_nots_so"] (defScope s_law_least_right) := ⟨rfl, rfl, rfl, by decide +kernel, rfl, by decide +kernel, by decide +kernel⟩
def R_law_least_right (ds : List DD) (post : DD → Prop) : Prop := ∃ (n : Nat) (S N : Sgt), ds = [.int n, pS S, pS N] ∧ (n = 1 ∨ n = 2) ∧ Small n S ∧ Small n N ∧ S.length ≤ 2 ∧ N.length ≤ 2 ∧ post (.bool true)
theorem cal_law_least_right (E : Bl mg) (c_law_that_fit : Cal P w K mg base 4 "_law_that_fit" (spD T R_law_that_fit) []) (c_law_same : Cal P w K mg base 5 "_law_same" (spD T (R_law_same 3)) []) (c_least_size : Cal P w K mg base 10 "least_size" (spD T R_least_size) [])
    (D : DefAt K mg "_law_least_right" s_law_least_right) : Cal P w K mg base 11 "_law_least_right" (spD T R_law_least_right) [] := by
  refine cal_d D sc_law_least_right (fun _ _ _ _ _ _ us hl => match us, hl with | [_, _, _], _ => rfl) (fun ds post h => ?_) (fun f cdv A outer s H E0 hr ds post h => ?_)
  · obtain ⟨_, _, _, rfl, _⟩ := h
    rfl
  · obtain ⟨n, S, N, rfl, hn, sS, sN, lS, lN, hp⟩ := h
    refine ⟨_, (pss_cons (ps_setLc (i := 3) (own := [("_law_size_so", 4)]) rfl sc_law_least_right.nd rfl rfl (sw_true rfl rfl rfl (by decide +kernel)) (pi_range2 (by rfl) E.range (pa_cons pe_int (pa_cons pe_int pa_nil))) (blkOk_by (own := [("_law_size_so", 4)]) (N := N_law_least_right) (sc := (defScope s_law_least_right)) (by decide +kernel)) (fun _ _ _ _ _ => (pg_name (i := 4) sc_law_least_right.nd rfl (Or.inl rfl) (Or.inr rfl))) (fun _ _ _ _ _ => (pts_one (pt_cmpR (k_neD (K := K) rfl hr.units) (pe_c c_law_that_fit hr (by omega) (by rfl) (pa_cons (pv 0) (pa_cons (pv 1) (pa_cons (pv 2) (pa_cons (pv 4) pa_nil))))) (pe_lst pa_nil) (nomark _)))) (fun _ _ _ _ _ => (pv 4))) (pss_one (ps_ret (pe_c c_law_same hr (by omega) (by rfl) (pa_cons (pe_c c_least_size hr (by omega) (by rfl) (pa_cons (pv 0) (pa_cons (pv 1) (pa_cons (pv 2) (pa_cons pe_int pa_nil))))) (pa_cons (pe_ifExp (pt_cmpR (k_neD (K := K) rfl hr.units) (pv 3) (pe_lst pa_nil) (nomark _)) (pe_ix (k_ix (K := K) rfl) (pv 3) pe_int (fun _ _ => rfl)) pe_non) pa_nil)))))), ?_⟩
    have n2 : n ≤ 2 := by omega
    have wS : ∀ p ∈ S, p.1.length ≤ 1000 := fun p hp => by rw [sS.wd p hp]; omega
    have wN : ∀ p ∈ N, p.1.length ≤ 1000 := fun p hp => by rw [sN.wd p hp]; omega
    let fb : Nat → Bool := fun s => !(thatFit n S N s).isEmpty
    have hw : ∀ s : Nat, 1 ≤ s → (fb s = true ↔ 0 < waysI n S N s) := fun s hs => by
      rw [ways_fit hs hn sS.wd sN.wd]
      show (!(thatFit n S N s).isEmpty) = true ↔ _
      cases thatFit n S N s with
      | nil => simp
      | cons x l => simp
    refine sd_seq (sd_asg (d := .list ((((List.range 6).map (1 + ·)).filter fb).map fun i : Nat => PyData.int (i : Nat))) (ed_lc ((List.range 6).map (1 + ·)) (fun i => PyData.int (i : Nat)) fb (fun i => PyData.int (i : Nat)) ?_ (by simp) fun i hi => ⟨_, _, by simp, tg_name, ?_, fun _ => ed_var rfl⟩) tg_name ?_)
    · have e : ((List.range 6).map (1 + ·)).map (fun i => PyData.int (i : Nat)) = rgD 1 ((7 : Int) - 1).toNat := rfl
      rw [e]
      exact id_range2 (ea_cons ed_int (ea_cons ed_int ea_nil)) (by omega)
    · obtain ⟨k, hk, rfl⟩ := List.mem_map.mp hi
      have hk6 := List.mem_range.mp hk
      refine et_test (ed_op (ed_call (ea_cons (ed_var rfl) (ea_cons (ed_var rfl) (ea_cons (ed_var rfl) (ea_cons (ed_var rfl) ea_nil)))) ⟨n, S, N, 1 + k, rfl, ⟨by omega, fun p hp => ⟨wS p hp, sS.bd p hp⟩, by omega⟩, ⟨by omega, fun p hp => ⟨wN p hp, sN.bd p hp⟩, by omega⟩, by omega, n2, rfl⟩) (ed_lst ea_nil (by decide)) (rd_neD shaped_lst (by decide) ?_))
      show (!PyData.eqv (.list ((thatFit n S N (1 + k)).map pR)) (.list [])) = fb (1 + k)
      rw [eqv_nilL]
      show (!((thatFit n S N (1 + k)).map pR).isEmpty) = !(thatFit n S N (1 + k)).isEmpty
      cases thatFit n S N (1 + k) <;> rfl
    have nilD : PyData.eqv (.list ((((List.range 6).map (1 + ·)).filter fb).map fun i : Nat => PyData.int (i : Nat))) (.list []) = (((List.range 6).map (1 + ·)).filter fb).isEmpty := by
      rw [eqv_nilL]
      cases ((List.range 6).map (1 + ·)).filter fb <;> rfl
    have shp : SeqAt.shaped (.list ((((List.range 6).map (1 + ·)).filter fb).map fun i : Nat => PyData.int (i : Nat))) = true := by
      have := shaped_intsL ((((List.range 6).map (1 + ·)).filter fb).map fun i : Nat => (i : Int))
      rw [List.map_map] at this
      exact this
    have get : ∀ (i x : Nat), ((List.range 6).map (1 + ·))[i]? = some x → x = 1 + i ∧ i < 6 := fun i x h => by
      obtain ⟨h1, h2⟩ := List.getElem?_eq_some_iff.mp h
      rw [List.getElem_map, List.getElem_range] at h2
      rw [List.length_map, List.length_range] at h1
      exact ⟨h2.symm, h1⟩
    have at_i : ∀ i, i < 6 → ((List.range 6).map (1 + ·))[i]? = some (1 + i) := fun i hi => by
      rw [List.getElem?_map, List.getElem?_range hi]
      rfl
    have iS := isS_pS (by omega) wS
    have iN := isS_pS (by omega) wN
    have six : ∀ {δ : Dl}, ED T (tC (.int 6)) δ (.int ((6 : Nat) : Int)) := ed_int
    rcases filter_first fb ((List.range 6).map (1 + ·)) with ⟨h1, h2⟩ | ⟨i, x, r, h1, h2, h3, h4⟩
    · rw [h1] at nilD shp ⊢
      refine sd_ret (ed_call (ea_cons (ed_call (d := .none) (ea_cons (ed_var rfl) (ea_cons (ed_var rfl) (ea_cons (ed_var rfl) (ea_cons six ea_nil)))) ?_) (ea_cons (ed_if (d := .none) (b := false) (et_is (et_test (ed_op (ed_var rfl) (ed_lst ea_nil (by decide)) (rd_neD shp (by decide) rfl))) (by rw [nilD]; rfl)) (fun e => by cases e) fun _ => ed_non) ea_nil)) ⟨.none, rfl, trivial, rfl⟩) hp
      refine ⟨n, 6, pS S, pS N, S, N, rfl, iS, iN, sS, sN, by omega, n2, by omega, by omega, fun s s1 s2 s3 _ => ?_, fun _ => rfl⟩
      have := h2 s (List.mem_map.mpr ⟨s - 1, List.mem_range.mpr (by omega), by omega⟩)
      rw [(hw s s1).mpr s3] at this
      cases this
    · obtain ⟨e, hi⟩ := get i x h2
      subst e
      rw [h1] at nilD shp ⊢
      refine sd_ret (ed_call (ea_cons (ed_call (d := .int ((1 + i : Nat) : Int)) (ea_cons (ed_var rfl) (ea_cons (ed_var rfl) (ea_cons (ed_var rfl) (ea_cons six ea_nil)))) ?_) (ea_cons (ed_if (d := .int ((1 + i : Nat) : Int)) (b := true) (et_is (et_test (ed_op (ed_var rfl) (ed_lst ea_nil (by decide)) (rd_neD shp (by decide) rfl))) (by rw [nilD]; rfl)) (fun _ => ed_op (ed_var rfl) ed_int (rd_ix_l at0)) fun e => by cases e) ea_nil)) ⟨.int _, rfl, trivial, rfl⟩) hp
      refine ⟨n, 6, pS S, pS N, S, N, rfl, iS, iN, sS, sN, by omega, n2, by omega, by omega, fun s s1 s2 s3 s4 => ?_, fun hz => ?_⟩
      · have e : s = 1 + i := by
          rcases Nat.lt_trichotomy s (1 + i) with q | q | q
          · have := h4 (s - 1) s (by omega) (by rw [at_i (s - 1) (by omega)]; congr 1; omega)
            rw [(hw s s1).mpr s3] at this
            cases this
          · exact q
          · exact absurd ((hw (1 + i) (by omega)).mp h3) (s4 (1 + i) (by omega) q)
        rw [e]
      · exact absurd ((hw (1 + i) (by omega)).mp h3) (hz (1 + i) (by omega) (by omega))
end
end Sh
-- Sl9
set_option maxRecDepth 100000
set_option maxHeartbeats 4000000
/-! one draw is right -/
namespace Sh
open PySem PySem.Spec PyProof.Rows L2 RZ
open C8 (Cal pe_c)
open Mx
theorem nums_le {x : Int} (h : x ∈ numsL) : x.natAbs ≤ 6 := by
  simp only [numsL, List.mem_cons, List.not_mem_nil, or_false] at h
  omega
theorem hrs_le {x : Int} (h : x ∈ hrsL) : x.natAbs ≤ 2 ^ 8 := by
  simp only [hrsL, List.mem_cons, List.not_mem_nil, or_false] at h
  omega
theorem DrS.small {n : Nat} {S : Sgt} (h : DrS n S) : Small n S := ⟨fun p hp => (h p hp).1, fun p hp x hx => nums_le ((h p hp).2.1 x hx), fun p hp => hrs_le (h p hp).2.2⟩
theorem sm_mid {T : Tb} {ε : Ml} {μ : Mu} {t u : TS} {nx : Ml → Mu → Prop} {rt : MD → Mu → Prop} {mid : Ml → Mu → Prop} (h : SM T t ε μ mid rt) (k : ∀ ε' μ', mid ε' μ' → SM T u ε' μ' nx rt) : SM T (tSeq t u) ε μ nx rt :=
  sm_seq fun σ G H o D hx hr => h σ G H o D (fun σ' ε' μ2 G2 H2 n => hx σ' ε' μ2 G2 H2 (k ε' μ2 n)) hr
theorem shaped_pS (S : Sgt) : SeqAt.shaped (pS S) = true := by
  have h1 : ∀ a : List Int, PyData.canLayAll0 (a.map PyData.int) = true := by
    intro a
    induction a with
    | nil => rfl
    | cons x a ih => simp only [List.map_cons, PyData.canLayAll0, PyData.canLay0, ih, Bool.and_self]
  have h2 : ∀ a : List Int, PyData.depthAll (a.map PyData.int) = 0 := by
    intro a
    induction a with
    | nil => rfl
    | cons x a ih => simp only [List.map_cons, PyData.depthAll, PyData.depth, ih]; rfl
  have h3 : ∀ S : Sgt, PyData.canLayAll0 (S.map pG) = true := by
    intro S
    induction S with
    | nil => rfl
    | cons p S ih =>
      rw [List.map_cons, PyData.canLayAll0, ih]
      simp only [pG, pR, PyData.canLay0, PyData.canLayAll0, h1, Bool.and_self]
  have h4 : ∀ S : Sgt, PyData.depthAll (S.map pG) ≤ 2 := by
    intro S
    induction S with
    | nil => exact Nat.zero_le _
    | cons p S ih =>
      rw [List.map_cons, PyData.depthAll]
      have : PyData.depth (pG p) ≤ 2 := by
        simp only [pG, pR, PyData.depth, PyData.depthAll, h2]
        decide
      omega
  rw [pS_eq]
  unfold SeqAt.shaped
  simp only [PyData.canLay0, PyData.depth, h3, Bool.true_and]
  exact decide_eq_true (Nat.le_trans (Nat.succ_le_succ (h4 S)) (by decide))
section
variable {P : Program} {w : World} {K : PySem.W.Frag} {mg : Str → Option Value} {base : Heap} {T : Tb}
abbrev s_law_right : Stmt := top 64
abbrev N_law_right : List Str := ["_law_tin", "_law_n_so", "_law_kind_so", "_law_sights_so", "_law_nots_so", "_law_size_so", "_law_row_so", "_law_due"]
theorem sc_law_right : FnScope N_law_right ["_law_tin"] (defScope s_law_right) := ⟨rfl, rfl, rfl, by decide +kernel, rfl, by decide +kernel, by decide +kernel⟩
def R_law_right (rs : List MD) (μ : Mu) (post : MD → Mu → Prop) : Prop := ∃ (a : Addr) (ds : List DD), rs = [.m a] ∧ μ a = some ds ∧ Tin 0 ds ∧ ∀ μ2, post (.d (.bool true)) μ2
theorem cal_law_right (E : Bl mg) (c_law_take : Cal P w K mg base 1 "_law_take" (spM T R_law_take) []) (c_law_sights : Cal P w K mg base 5 "_law_sights" (spM T R_law_sights) []) (c_law_row : Cal P w K mg base 4 "_law_row" (spM T R_law_row) [])
    (c_law_plus : Cal P w K mg base 1 "_law_plus" (spD T R_law_plus) []) (c_law_many : Cal P w K mg base 1 "_law_many" (spD T R_law_many) []) (c_law_unit : Cal P w K mg base 1 "_law_unit" (spD T R_law_unit) [])
    (c_law_hour_right : Cal P w K mg base 11 "_law_hour_right" (spD T R_law_hour_right) []) (c_law_least_right : Cal P w K mg base 11 "_law_least_right" (spD T R_law_least_right) []) (c_law_that_fit : Cal P w K mg base 4 "_law_that_fit" (spD T R_law_that_fit) [])
    (c_law_same : Cal P w K mg base 5 "_law_same" (spD T (R_law_same 3)) []) (c_ways_on : Cal P w K mg base 9 "ways_on" (spD T R_ways_on) []) (c_law_lists : Cal P w K mg base 5 "_law_lists" (spD T (R_law_lists 3)) []) (D : DefAt K mg "_law_right" s_law_right) :
    Cal P w K mg base 12 "_law_right" (spM T R_law_right) [] := by
  refine cal_m D sc_law_right (fun _ _ _ _ _ _ us hl => match us, hl with | [_], _ => rfl) (fun rs μ post h => ?_) (fun f cdv A outer s H E0 hr rs μ post h => ?_)
  · obtain ⟨_, _, rfl, _⟩ := h
    rfl
  · obtain ⟨a, ds0, rfl, hm0, ht0, hp⟩ := h
    refine ⟨_, (pss_cons (ps_par (i := 1) (j := 2) rfl sc_law_right.nd rfl rfl (by decide) rfl rfl (pa_cons (pe_op op_add pe_int (pe_c c_law_take hr (by omega) (by rfl) (pa_cons (pv 0) (pa_cons pe_int pa_nil)))) (pa_cons (pe_c c_law_take hr (by omega) (by rfl) (pa_cons (pv 0) (pa_cons pe_int pa_nil))) pa_nil)) (by rfl)) (pss_cons (ps_par (i := 3) (j := 4) rfl sc_law_right.nd rfl rfl (by decide) rfl rfl (pa_cons (pe_c c_law_sights hr (by omega) (by rfl) (pa_cons (pv 0) (pa_cons (pv 1) (pa_cons (pe_ifExp (pt_cmpR op_gt (pv 2) pe_int (nomark _)) pe_int pe_int) pa_nil)))) (pa_cons (pe_c c_law_sights hr (by omega) (by rfl) (pa_cons (pv 0) (pa_cons (pv 1) (pa_cons pe_int pa_nil)))) pa_nil)) (by rfl)) (pss_cons (ps_set (i := 5) sc_law_right.nd rfl (Or.inl rfl) (pe_op op_add pe_int (pe_c c_law_take hr (by omega) (by rfl) (pa_cons (pv 0) (pa_cons (pe_ifExp (pt_cmpR op_eq (pv 1) pe_int (nomark _)) pe_int pe_int) pa_nil))))) (pss_cons (ps_if (pt_cmpR op_eq (pv 2) pe_int (nomark _)) (pss_cons (ps_set (i := 6) sc_law_right.nd rfl (Or.inl rfl) (pe_c c_law_row hr (by omega) (by rfl) (pa_cons (pv 0) (pa_cons (pv 1) pa_nil)))) (pss_cons (ps_if (PW.pt (pw_and (pt_cmpR (k_neD (K := K) rfl hr.units) (pv 3) (pe_tup pa_nil) (nomark _)) (pw_and1 (pt_cmpR op_eq (pe_c c_law_take hr (by omega) (by rfl) (pa_cons (pv 0) (pa_cons pe_int pa_nil))) pe_int (nomark _))))) (pss_one (ps_set (i := 6) sc_law_right.nd rfl (Or.inl rfl) (pe_c c_law_plus hr (by omega) (by rfl) (pa_cons (pe_ix (k_ix (K := K) rfl) (pe_ix (k_ix (K := K) rfl) (pv 3) pe_int (fun _ _ => rfl)) pe_int (fun _ _ => rfl)) (pa_cons (pe_c c_law_many hr (by omega) (by rfl) (pa_cons (pe_c c_law_unit hr (by omega) (by rfl) (pa_cons pe_int (pa_cons (pv 1) pa_nil))) (pa_cons (pv 5) pa_nil))) pa_nil))))) pss_nil) (pss_one (ps_ret (pe_c c_law_hour_right hr (by omega) (by rfl) (pa_cons (pv 1) (pa_cons (pv 3) (pa_cons (pv 5) (pa_cons (pv 6) pa_nil))))))))) pss_nil) (pss_cons (ps_if (pt_cmpR op_eq (pv 2) pe_int (nomark _)) (pss_one (ps_ret (pe_c c_law_least_right hr (by omega) (by rfl) (pa_cons (pv 1) (pa_cons (pv 3) (pa_cons (pv 4) pa_nil)))))) pss_nil) (pss_cons (ps_set (i := 7) sc_law_right.nd rfl (Or.inl rfl) (pe_callB (k_len (K := K) rfl) (by rfl) E.len PySem.boot_len (pa_cons (pe_c c_law_that_fit hr (by omega) (by rfl) (pa_cons (pv 1) (pa_cons (pv 3) (pa_cons (pv 4) (pa_cons (pv 5) pa_nil))))) pa_nil))) (pss_one (ps_ret (pe_c c_law_same hr (by omega) (by rfl) (pa_cons (pe_lst (pa_cons (pe_c c_ways_on hr (by omega) (by rfl) (pa_cons (pv 1) (pa_cons (pv 3) (pa_cons (pv 4) (pa_cons (pv 5) pa_nil))))) (pa_cons (pe_c c_ways_on hr (by omega) (by rfl) (pa_cons (pv 1) (pa_cons (pe_c c_law_lists hr (by omega) (by rfl) (pa_cons (pv 3) pa_nil)) (pa_cons (pe_c c_law_lists hr (by omega) (by rfl) (pa_cons (pv 4) pa_nil)) (pa_cons (pv 5) pa_nil))))) pa_nil))) (pa_cons (pe_lst (pa_cons (pv 7) (pa_cons (pv 7) pa_nil))) pa_nil))))))))))), ?_⟩
    -- n, kind
    refine sm_seq (sm_par (xa_cons (pa := fun x μ1 => ∃ (v : Nat) (ds : List DD), x = .d (.int ((1 + v : Nat) : Int)) ∧ v < 2 ∧ Tin 1 ds ∧ μ1 = updM μ a ds) (xm_op (pa := fun x μ1 => x = .d (.int 1) ∧ μ1 = μ) (xm_of em_int ⟨rfl, rfl⟩) ?_) ?_))
    · rintro x μ1 ⟨rfl, rfl⟩
      exact ⟨_, rfl, xm_call (xa_m rfl (xa_d em_int (xa_nil ⟨a, ds0, 0, 2, rfl, hm0, ht0, by decide, by decide, by decide, fun v ds hv ht => ⟨.int v, _, rfl, rd_I0, v, ds, rfl, hv, ht, rfl⟩⟩)))⟩
    rintro x μ1 ⟨v, ds1, rfl, hv, ht1, rfl⟩
    refine xa_cons (pa := fun x μ1 => ∃ (q : Nat) (ds : List DD), x = .d (.int q) ∧ q < 3 ∧ Tin 2 ds ∧ μ1 = updM (updM μ a ds1) a ds) (xm_call (xa_m rfl (xa_d em_int (xa_nil ⟨a, ds1, 1, 3, rfl, updM_same, ht1, by decide, by decide, by decide, fun q ds hq ht => ⟨q, ds, rfl, hq, ht, rfl⟩⟩)))) ?_
    rintro x μ1 ⟨q, ds2, rfl, hq, ht2, rfl⟩
    refine xa_nil ⟨_, _, rfl, ?_⟩
    have hn : 1 + v = 1 ∨ 1 + v = 2 := by omega
    generalize 1 + v = n at hn
    have n2 : n ≤ 2 := by omega
    rw [updM_upd]
    -- sights, nots
    refine sm_seq (sm_par (xa_cons (pa := fun x μ1 => ∃ (S : Sgt) (ds : List DD), x = .d (pS S) ∧ S.length ≤ (if 0 < q then 2 else 3) ∧ DrS n S ∧ Tin 12 ds ∧ μ1 a = some ds) (xm_call (xa_m rfl (xa_d (em_var rfl) (xa_d (d := .int ((if 0 < q then 2 else 3 : Nat) : Int)) (em_data (ed_if (b := decide (0 < q)) (et_is (et_test (ed_op (ed_var rfl) ed_int rd_B0)) ?_) (fun h => ed_is ed_int ?_) fun h => ed_is ed_int ?_)) (xa_nil ⟨a, ds2, 2, n, (if 0 < q then 2 else 3), rfl, updM_same, ht2, n2, by split <;> decide, by decide, fun S ds μ2 h1 h2 h3 h4 => ⟨S, ds, rfl, h1, h2, h3, h4⟩⟩))))) ?_))
    · by_cases h : 0 < q
      · rw [decide_eq_true h, decide_eq_true (by omega)]
      · rw [decide_eq_false h, decide_eq_false (by omega)]
    · rw [if_pos (of_decide_eq_true h)]
      rfl
    · rw [if_neg (of_decide_eq_false h)]
      rfl
    rintro x μ1 ⟨S, ds3, rfl, hS, dS, ht3, hm3⟩
    refine xa_cons (pa := fun x μ1 => ∃ (N : Sgt) (ds : List DD), x = .d (pS N) ∧ N.length ≤ 2 ∧ DrS n N ∧ Tin 22 ds ∧ μ1 a = some ds) (xm_call (xa_m rfl (xa_d (em_var rfl) (xa_d em_int (xa_nil ⟨a, ds3, 12, n, 2, rfl, hm3, ht3, n2, by decide, by decide, fun N ds μ2 h1 h2 h3 h4 => ⟨N, ds, rfl, h1, h2, h3, h4⟩⟩))))) ?_
    rintro x μ2 ⟨N, ds4, rfl, hN, dN, ht4, hm4⟩
    refine xa_nil ⟨_, _, rfl, ?_⟩
    have sS := dS.small
    have sN := dN.small
    have wS : ∀ p ∈ S, p.1.length ≤ 1000 := fun p hp => by rw [sS.wd p hp]; omega
    have wN : ∀ p ∈ N, p.1.length ≤ 1000 := fun p hp => by rw [sN.wd p hp]; omega
    have hS3 : S.length ≤ 3 := by split at hS <;> omega
    -- size
    refine sm_seq (sm_set (xm_op (pa := fun x μ1 => x = .d (.int 1) ∧ μ1 = μ2) (xm_of em_int ⟨rfl, rfl⟩) ?_))
    rintro x μ1 ⟨rfl, rfl⟩
    refine ⟨_, rfl, xm_call (xa_m rfl (xa_d (d := .int ((if n = 1 then 12 else 8 : Nat) : Int)) (em_data (ed_if (b := decide (n = 1)) (et_is (et_test (ed_op (ed_var rfl) ed_int rd_eqI)) ?_) (fun h => ed_is ed_int ?_) fun h => ed_is ed_int ?_)) (xa_nil ⟨a, ds4, 22, (if n = 1 then 12 else 8), rfl, hm4, ht4, by decide, by split <;> decide, by split <;> decide, fun z ds5 hz ht5 => ?_⟩)))⟩
    · by_cases h : n = 1
      · rw [decide_eq_true h, decide_eq_true (by omega)]
      · rw [decide_eq_false h, decide_eq_false (by omega)]
    · rw [if_pos (of_decide_eq_true h)]
      rfl
    · rw [if_neg (of_decide_eq_false h)]
      rfl
    refine ⟨.int z, .int ((1 + z : Nat) : Int), rfl, rd_I0, ?_⟩
    have hz12 : 1 + z ≤ 12 := by split at hz <;> omega
    have hz1 : 1 ≤ 1 + z := by omega
    generalize 1 + z = sz at hz12 hz1
    refine sm_seq (sm_ifB (et_test (ed_op (ed_var rfl) ed_int rd_eqI)) (fun hb => ?_) fun hb => sm_next ?_)
    · -- told hours
      refine sm_seq (sm_set (xm_call (xa_m rfl (xa_d (em_var rfl) (xa_nil ⟨a, ds5, 23, n, rfl, updM_same, ht5, n2, by omega, fun r ds6 r1 r2 ht6 => ?_⟩)))))
      rw [updM_upd]
      refine sm_mid (mid := fun ε _ => ∃ row : Mx.Row, row.length = n ∧ (∀ x ∈ row, x.natAbs ≤ 2 ^ 8) ∧ ε = [some (.m a), some (.d (.int n)), some (.d (.int q)), some (.d (pS S)), some (.d (pS N)), some (.d (.int sz)), some (.d (pR row)), none]) (sm_if (pt := fun b _ => b = true → S ≠ []) (xt_and (p1 := fun b μ1 => b = !S.isEmpty ∧ μ1 a = some ds6) (xt_of (et_test (ed_op (ed_var rfl) (ed_tup ea_nil (by decide)) (rd_neD (shaped_pS S) (by decide) (b := !S.isEmpty) ?_))) ⟨rfl, updM_same⟩) ?_ ?_) ?_ ?_) ?_
      · cases S with
        | nil => rfl
        | cons p S => simp [pS, PyData.eqv, PyData.eqvAll]
      · rintro μ3 ⟨e, hm6⟩
        refine xt_test (xm_op (pa := fun x _ => ∃ v : Nat, x = .d (.int v)) (xm_call (xa_m rfl (xa_d em_int (xa_nil ⟨a, ds6, 23 + n, 2, rfl, hm6, ht6, by omega, by decide, by decide, fun v ds7 _ _ => ⟨v, rfl⟩⟩)))) ?_)
        rintro x μ4 ⟨v, rfl⟩
        refine ⟨_, rfl, xm_of em_int ⟨_, _, rfl, rd_eqI, _, rfl, fun _ h0 => ?_⟩⟩
        rw [h0] at e
        cases e
      · rintro μ3 ⟨e, hm6⟩ h0
        cases h0
      · rintro μ3 h0
        have h0 := h0 rfl
        obtain ⟨p, S', rfl⟩ : ∃ p S', S = p :: S' := by
          cases S with
          | nil => exact absurd rfl h0
          | cons p S' => exact ⟨p, S', rfl⟩
        have pl := sS.wd p (List.mem_cons_self ..)
        refine sm_set (xm_of (em_data (ed_call (ea_cons (ed_op (ed_op (ed_var rfl) ed_int (rd_ix_t at0)) ed_int (rd_ix_t at0)) (ea_cons (ed_call (ea_cons (ed_call (d := pR (unitR 0 n)) (ea_cons ed_int (ea_cons (ed_var rfl) ea_nil)) ⟨0, n, rfl, by omega, rfl⟩) (ea_cons (ed_var rfl) ea_nil)) ⟨unitR 0 n, sz, rfl, by rw [len_unitR]; omega, fun x hx => by have := bd_unit x hx; omega, rfl⟩) ea_nil)) ⟨p.1, _, rfl, by omega, rfl⟩)) ⟨_, ?_, ?_, rfl⟩)
        · rw [len_addR, len_timesR, len_unitR, pl]
          exact Nat.min_self _
        · intro x hx
          have := bd_add (M := 6) (N := 1 * 12) (fun y hy => sS.bd p (List.mem_cons_self ..) y hy) (bd_times (k := (sz : Int)) (fun y hy => bd_unit y hy) (by omega)) x hx
          omega
      · rintro μ3 h0
        exact sm_next ⟨r, r1, fun x hx => Nat.le_trans (nums_le (r2 x hx)) (by decide), rfl⟩
      · rintro ε3 μ3 ⟨row, hr1, hr2, rfl⟩
        exact sm_ret (xm_of (em_data (ed_call (ea_cons (ed_var rfl) (ea_cons (ed_var rfl) (ea_cons (ed_var rfl) (ea_cons (ed_var rfl) ea_nil)))) ⟨n, S, sz, row, rfl, hn, sS, hS3, hz1, hz12, hr1, hr2, rfl⟩)) (hp _))
    · have hq0 : 0 < q := by
        rcases Nat.eq_zero_or_pos q with z | z
        · subst z; cases hb
        · exact z
      have hS2 : S.length ≤ 2 := by rw [if_pos hq0] at hS; exact hS
      refine sm_seq (sm_ifB (et_test (ed_op (ed_var rfl) ed_int rd_eqI)) (fun _ => ?_) fun _ => sm_next ?_)
      · exact sm_ret (xm_of (em_data (ed_call (ea_cons (ed_var rfl) (ea_cons (ed_var rfl) (ea_cons (ed_var rfl) ea_nil))) ⟨n, S, N, rfl, hn, sS, sN, hS2, hN, rfl⟩)) (hp _))
      have shS : ShOk S sz := ⟨by omega, fun p hp => ⟨wS p hp, sS.bd p hp⟩, hz1⟩
      have shN : ShOk N sz := ⟨by omega, fun p hp => ⟨wN p hp, sN.bd p hp⟩, hz1⟩
      have wf := ways_fit hz1 hn sS.wd sN.wd
      refine sm_seq (sm_set (xm_of (d := .int (waysI n S N sz)) (em_data (ed_is (ed_cb (ea_cons (ed_call (ea_cons (ed_var rfl) (ea_cons (ed_var rfl) (ea_cons (ed_var rfl) (ea_cons (ed_var rfl) ea_nil)))) ⟨n, S, N, sz, rfl, shS, shN, hz12, n2, rfl⟩) ea_nil) rc_lenL) ?_)) ?_))
      · rw [List.length_map, wf]
      have n1 : 1 ≤ n := by omega
      refine sm_ret (xm_of (d := .bool true) (em_data (ed_call (ea_cons (ed_lst (ea_cons (ed_call (d := .int (waysI n S N sz)) (ea_cons (ed_var rfl) (ea_cons (ed_var rfl) (ea_cons (ed_var rfl) (ea_cons (ed_var rfl) ea_nil)))) ?_) (ea_cons (ed_call (d := .int (waysI n S N sz)) (ea_cons (ed_var rfl) (ea_cons (ed_call (d := lstD (pS S)) (ea_cons (ed_var rfl) ea_nil) ?_) (ea_cons (ed_call (d := lstD (pS N)) (ea_cons (ed_var rfl) ea_nil) ?_) (ea_cons (ed_var rfl) ea_nil)))) ?_) ea_nil)) (by simp))
        (ea_cons (ed_lst (ea_cons (ed_var rfl) (ea_cons (ed_var rfl) ea_nil)) (by simp)) ea_nil)) ⟨.list [.int (waysI n S N sz), .int (waysI n S N sz)], rfl, ⟨by simp, fun x hx => by simp at hx; rw [hx]; trivial⟩, rfl⟩)) (hp _))
      · exact ⟨n, sz, pS S, pS N, S, N, rfl, isS_pS (by omega) wS, isS_pS (by omega) wN, sS, sN, n1, n2, by omega, hz1, by omega, rfl⟩
      · exact ⟨pS S, rfl, flat_pS (by omega) wS, rfl⟩
      · exact ⟨pS N, rfl, flat_pS (by omega) wN, rfl⟩
      · exact ⟨n, sz, lstD (pS S), lstD (pS N), S, N, rfl, isS_lst (by omega) wS, isS_lst (by omega) wN, sS, sN, n1, n2, by omega, hz1, by omega, rfl⟩
end
end Sh
-- Sl10
set_option maxRecDepth 100000
set_option maxHeartbeats 4000000
/-! the part by hand -/
namespace Sh
open PySem PySem.Spec PyProof.Rows L2 RZ
open C8 (Cal pe_c)
open Mx
/-! ### what is due -/
def clockS : Sgt := [([2], 5), ([3], 1)]
def evenS : Sgt := [([2, 0], 0)]
def sA : Sgt := [([1, 1], 0)]
def nA : Sgt := [([1, 0], 0), ([0, 1], 0)]
def nB : Sgt := [([1], 2), ([1], 6)]
def sC : Sgt := [([4], 0)]
def nC : Sgt := [([2], 0)]
def nD : Sgt := [([1], 9)]
theorem sm_clock : Small 1 clockS := ⟨by decide, by decide, by decide⟩
theorem sm_even : Small 2 evenS := ⟨by decide, by decide, by decide⟩
theorem sm_sA : Small 2 sA := ⟨by decide, by decide, by decide⟩
theorem sm_nA : Small 2 nA := ⟨by decide, by decide, by decide⟩
theorem sm_nB : Small 1 nB := ⟨by decide, by decide, by decide⟩
theorem sm_sC : Small 1 sC := ⟨by decide, by decide, by decide⟩
theorem sm_nC : Small 1 nC := ⟨by decide, by decide, by decide⟩
theorem sm_nD : Small 1 nD := ⟨by decide, by decide, by decide⟩
theorem sm_nil {n : Nat} : Small n [] := ⟨by simp, by simp, by simp⟩
theorem due1 : Due 1 clockS 13 [2] (.int 5) := by
  have e : valsOf 1 clockS 13 [2] = [5] := by decide +kernel
  rcases due_of (n := 1) (S := clockS) (s := 13) (row := [2]) (by decide) (.inl rfl) (by decide) rfl (out := [5]) (by simp) (fun k => by rw [e]) with ⟨h, _⟩ | ⟨v, h, hd⟩ | ⟨x, y, l, h, _⟩
  · cases h
  · cases h; exact hd
  · cases h
theorem due2 : Due 2 evenS 4 [1, 0] .none := by
  have e : valsOf 2 evenS 4 [1, 0] = [0, 0, 0, 0, 2, 2, 2, 2] := by decide +kernel
  rcases due_of (n := 2) (S := evenS) (s := 4) (row := [1, 0]) (by decide) (.inr rfl) (by decide) rfl (out := [0, 2]) (by simp) (fun k => by rw [e]; simp) with ⟨h, _⟩ | ⟨v, h, hd⟩ | ⟨x, y, l, h, hd⟩
  · cases h
  · cases h
  · exact hd
theorem due3 : Due 2 evenS 4 [2, 0] (.int 0) := by
  have e : valsOf 2 evenS 4 [2, 0] = [0, 0, 0, 0, 0, 0, 0, 0] := by decide +kernel
  rcases due_of (n := 2) (S := evenS) (s := 4) (row := [2, 0]) (by decide) (.inr rfl) (by decide) rfl (out := [0]) (by simp) (fun k => by rw [e]; simp) with ⟨h, _⟩ | ⟨v, h, hd⟩ | ⟨x, y, l, h, _⟩
  · cases h
  · cases h; exact hd
  · cases h
theorem due4 : Due 2 evenS 9 [1, 0] (.int 0) := by
  have e : valsOf 2 evenS 9 [1, 0] = [0, 0, 0, 0, 0, 0, 0, 0, 0] := by decide +kernel
  rcases due_of (n := 2) (S := evenS) (s := 9) (row := [1, 0]) (by decide) (.inr rfl) (by decide) rfl (out := [0]) (by simp) (fun k => by rw [e]; simp) with ⟨h, _⟩ | ⟨v, h, hd⟩ | ⟨x, y, l, h, _⟩
  · cases h
  · cases h; exact hd
  · cases h
theorem due5 : Due 1 clockS 5 [1] unfD := by
  have e : valsOf 1 clockS 5 [1] = [] := by decide +kernel
  rcases due_of (n := 1) (S := clockS) (s := 5) (row := [1]) (by decide) (.inl rfl) (by decide) rfl (out := []) (by simp) (fun k => by rw [e]) with ⟨h, hd⟩ | ⟨v, h, hd⟩ | ⟨x, y, l, h, _⟩
  · exact hd
  · cases h
  · cases h
theorem fitA : (thatFit 2 sA nA 6).length = 5 := by decide +kernel
theorem ways1 : waysI 2 sA nA 6 = 5 := by rw [ways_fit (by decide) (.inr rfl) (by decide) (by decide), fitA]; rfl
theorem ways2 : waysI 2 evenS [] 4 = 8 := by rw [ways_fit (by decide) (.inr rfl) (by decide) (by decide)]; decide +kernel
theorem ways3 : waysI 1 [] nB 4 = 3 := by rw [ways_fit (by decide) (.inl rfl) (by decide) (by decide)]; decide +kernel
theorem ways4 (s : Nat) (h : 1 ≤ s) : waysI 1 sC nC s = ((thatFit 1 sC nC s).length : Int) := ways_fit h (.inl rfl) (by decide) (by decide)
theorem ways5 (s : Nat) (h : 1 ≤ s) : waysI 1 clockS nD s = ((thatFit 1 clockS nD s).length : Int) := ways_fit h (.inl rfl) (by decide) (by decide)
theorem fit_none : ∀ s, s < 200 → (thatFit 1 clockS nD (1 + s)).length = 0 := by decide +kernel
theorem fit_four : (thatFit 1 sC nC 1).length = 0 ∧ (thatFit 1 sC nC 2).length = 0 ∧ (thatFit 1 sC nC 3).length = 0 ∧ (thatFit 1 sC nC 4).length = 2 := by decide +kernel
theorem told_R {CU : Addr} {n s : Nat} {d dr : DD} {S : Sgt} {row : Mx.Row} {due : DD} (hd : Due n S s row due) (hne : unfD ≠ due) (iS : IsS d S) (o : SgOk n s S) (iR : IsR dr row) (hl : row.length = n) (hb : ∀ x ∈ row, x.natAbs ≤ 2 ^ 8) :
    R_told_hour CU [.int n, d, .int s, dr] (fun x => x = due) (fun _ => False) := ⟨n, d, S, s, dr, row, rfl, iS, o, iR, hl, hb, fun h => hne (hd.1 h), hd.2⟩
theorem least4 {d dn : DD} (iS : IsS d sC) (iN : IsS dn nC) : R_least_size [.int 1, d, dn, .int 50] (fun x => x = .int 4) := by
  obtain ⟨f1, f2, f3, f4⟩ := fit_four
  have w4 : 0 < waysI 1 sC nC 4 := by rw [ways4 4 (by decide), f4]; decide
  refine ⟨1, 50, d, dn, sC, nC, rfl, iS, iN, sm_sC, sm_nC, by decide, by decide, by decide, by decide, fun s s1 s2 s3 s4 => ?_, fun h => absurd w4 (h 4 (by decide) (by decide))⟩
  have e : s = 4 := by
    rcases Nat.lt_trichotomy s 4 with q | q | q
    · rw [ways4 s s1] at s3
      have hs : s = 1 ∨ s = 2 ∨ s = 3 := by omega
      rcases hs with rfl | rfl | rfl
      · rw [f1] at s3; exact absurd s3 (by decide)
      · rw [f2] at s3; exact absurd s3 (by decide)
      · rw [f3] at s3; exact absurd s3 (by decide)
    · exact q
    · exact absurd w4 (s4 4 (by decide) q)
  subst e
  rfl
theorem least5 {d dn : DD} (iS : IsS d clockS) (iN : IsS dn nD) : R_least_size [.int 1, d, dn, .int 200] (fun x => x = .none) := by
  have z : ∀ t : Nat, 1 ≤ t → t ≤ 200 → ¬ 0 < waysI 1 clockS nD t := fun t t1 t2 => by
    rw [ways5 t t1]
    have := fit_none (t - 1) (by omega)
    rw [show 1 + (t - 1) = t by omega] at this
    rw [this]
    decide
  exact ⟨1, 200, d, dn, clockS, nD, rfl, iS, iN, sm_clock, sm_nD, by decide, by decide, by decide, by decide, fun s s1 s2 s3 _ => absurd s3 (z s s1 s2), fun _ => rfl⟩
/-! ### readings -/
theorem ed_callX {T : Tb} {δ : Dl} {ta : TA} {ds : List DD} {d : DD} {R : List DD → (DD → Prop) → (Value → Prop) → Prop} {W : WX} (h : EA T ta δ ds) (hr : R ds (fun x => x = d) (fun _ => False)) : ED T (tCallS (spX T R) (WE W) ta) δ d := fun σ G H o Q q =>
  ew_callX h hr σ G H o Q fun x v G2 H2 e st dv => q v G2 H2 st (by rw [← e]; exact dv)
theorem xm_newP {T : Tb} {ε : Ml} {μ : Mu} {te : TE} {ds : List DD} {post : MD → Mu → Prop} (h : NL T te (ε.map pd) ds) (hp : ∀ p, μ p = none → post (.m p) (updM μ p ds)) : XM T te ε μ post := fun σ G H o Q q => h σ G H o.pure Q fun p vs G2 H2 st hn gp h2 hd =>
  q (.m p) _ _ _ _ (hp p (o.mu.none hn)) (.fresh st o.mu hn gp h2 hd) rfl
theorem em_catM {T : Tb} {ε : Ml} {μ : Mu} {tb : TE} {i : Nat} {a : Addr} {ds es : List DD} (ha : ε[i]? = some (some (.m a))) (hm : μ a = some ds) (hb : EM T tb ε μ (.list es)) (hl : ds.length + es.length ≤ 1000000) : EM T (tOp rCat (tVar i) tb) ε μ (.list (ds ++ es)) := fun σ G H o Q q => by
  obtain ⟨v, h1, h2⟩ := o.e.2 i _ ha
  cases h2
  refine ⟨_, h1, hb σ G H o _ fun w G2 H2 st dw => ?_⟩
  obtain ⟨g1, vs, k1, k2⟩ := (o.mu.step st).at_ a ds hm
  cases dw with
  | @lst b ws _ hpb hd =>
    refine ⟨a, b, vs, ws, rfl, rfl, k1, st.gh _ _ hpb, by rw [dqa_len k2, dqa_len hd]; exact Nat.le_trans hl (by decide), fun p hn => ?_⟩
    exact new_l st.gh hn (dqa_app k2 hd) fun v G3 H3 s3 d3 => q v G3 H3 (st.trans s3) d3
section
variable {P : Program} {w : World} {K : PySem.W.Frag} {mg : Str → Option Value} {base : Heap} {T : Tb}
abbrev s_law_clock : Stmt := top 55
abbrev N_law_clock : List Str := []
theorem sc_law_clock : FnScope N_law_clock [] (defScope s_law_clock) := ⟨rfl, rfl, rfl, by decide +kernel, rfl, by decide +kernel, by decide +kernel⟩
def R_law_clock (ds : List DD) (post : DD → Prop) : Prop := ds = [] ∧ post (pS clockS)
theorem cal_law_clock (D : DefAt K mg "_law_clock" s_law_clock) : Cal P w K mg base 1 "_law_clock" (spD T R_law_clock) [] := by
  refine cal_d D sc_law_clock (fun _ _ _ _ _ _ us hl => match us, hl with | [], _ => rfl) (fun ds post h => ?_) (fun f cdv A outer s H E0 hr ds post h => ?_)
  · rw [h.1]
    rfl
  · obtain ⟨rfl, hp⟩ := h
    refine ⟨_, (pss_one (ps_ret (pe_tup (pa_cons (pe_tup (pa_cons (pe_tup (pa_cons pe_int pa_nil)) (pa_cons pe_int pa_nil))) (pa_cons (pe_tup (pa_cons (pe_tup (pa_cons pe_int pa_nil)) (pa_cons pe_int pa_nil))) pa_nil))))), ?_⟩
    exact sd_ret (d := pS clockS) (ed_tup (ea_cons (ed_tup (ea_cons (ed_tup (ea_cons ed_int ea_nil) (by decide)) (ea_cons ed_int ea_nil)) (by decide)) (ea_cons (ed_tup (ea_cons (ed_tup (ea_cons ed_int ea_nil) (by decide)) (ea_cons ed_int ea_nil)) (by decide)) ea_nil)) (by decide)) hp
abbrev s_law_by_hand_right : Stmt := top 63
abbrev N_law_by_hand_right : List Str := ["_law_clock_so", "_law_even_so", "_law_got", "_law_due"]
theorem sc_law_by_hand_right : FnScope N_law_by_hand_right [] (defScope s_law_by_hand_right) := ⟨rfl, rfl, rfl, by decide +kernel, rfl, by decide +kernel, by decide +kernel⟩
def R_law_by_hand_right (rs : List MD) (μ : Mu) (post : MD → Mu → Prop) : Prop := rs = [] ∧ ∀ μ2, post (.d (.bool true)) μ2
theorem cal_law_by_hand_right (E : Bl mg) {CU : Addr} (c_law_clock : Cal P w K mg base 1 "_law_clock" (spD T R_law_clock) []) (c_told_hour : CalX P w K mg base 9 "told_hour" (spX T (R_told_hour CU))) (c_law_heard : Cal P w K mg base 10 "_law_heard" (spD T R_law_heard) [])
    (c_ways_on : Cal P w K mg base 9 "ways_on" (spD T R_ways_on) []) (c_least_size : Cal P w K mg base 10 "least_size" (spD T R_least_size) []) (c_law_that_fit : Cal P w K mg base 4 "_law_that_fit" (spD T R_law_that_fit) [])
    (c_law_same : Cal P w K mg base 5 "_law_same" (spD T (R_law_same 3)) []) (D : DefAt K mg "_law_by_hand_right" s_law_by_hand_right) : Cal P w K mg base 11 "_law_by_hand_right" (spM T R_law_by_hand_right) [] := by
  refine cal_m D sc_law_by_hand_right (fun _ _ _ _ _ _ us hl => match us, hl with | [], _ => rfl) (fun rs μ post h => ?_) (fun f cdv A outer s H E0 hr rs μ post h => ?_)
  · rw [h.1]
    rfl
  · obtain ⟨rfl, hp⟩ := h
    refine ⟨_, (pss_cons (ps_par (i := 0) (j := 1) rfl sc_law_by_hand_right.nd rfl rfl (by decide) rfl rfl (pa_cons (pe_c0 c_law_clock hr (by omega) (by rfl)) (pa_cons (pe_tup (pa_cons (pe_tup (pa_cons (pe_tup (pa_cons pe_int (pa_cons pe_int pa_nil))) (pa_cons pe_int pa_nil))) pa_nil)) pa_nil)) (by rfl)) (pss_cons (ps_set (i := 2) sc_law_by_hand_right.nd rfl (Or.inl rfl) (pe_lst (pa_cons (pe_cx c_told_hour L2.takes0 hr (by omega) (by rfl) (pa_cons pe_int (pa_cons (pv 0) (pa_cons pe_int (pa_cons (pe_tup (pa_cons pe_int pa_nil)) pa_nil))))) (pa_cons (pe_cx c_told_hour L2.takes0 hr (by omega) (by rfl) (pa_cons pe_int (pa_cons (pv 1) (pa_cons pe_int (pa_cons (pe_tup (pa_cons pe_int (pa_cons pe_int pa_nil))) pa_nil))))) (pa_cons (pe_cx c_told_hour L2.takes0 hr (by omega) (by rfl) (pa_cons pe_int (pa_cons (pv 1) (pa_cons pe_int (pa_cons (pe_tup (pa_cons pe_int (pa_cons pe_int pa_nil))) pa_nil))))) (pa_cons (pe_cx c_told_hour L2.takes0 hr (by omega) (by rfl) (pa_cons pe_int (pa_cons (pv 1) (pa_cons pe_int (pa_cons (pe_tup (pa_cons pe_int (pa_cons pe_int pa_nil))) pa_nil))))) (pa_cons (pe_c c_law_heard hr (by omega) (by rfl) (pa_cons pe_int (pa_cons (pv 0) (pa_cons pe_int (pa_cons (pe_tup (pa_cons pe_int pa_nil)) pa_nil))))) pa_nil))))))) (pss_cons (ps_set (i := 3) sc_law_by_hand_right.nd rfl (Or.inl rfl) (pe_lst (pa_cons pe_int (pa_cons pe_non (pa_cons pe_int (pa_cons pe_int (pa_cons (pe_lst (pa_cons pe_str (pa_cons pe_bl pa_nil))) pa_nil))))))) (pss_cons (ps_set (i := 2) sc_law_by_hand_right.nd rfl (Or.inl rfl) (pe_op op_cat (pv 2) (pe_lst (pa_cons (pe_c c_ways_on hr (by omega) (by rfl) (pa_cons pe_int (pa_cons (pe_tup (pa_cons (pe_tup (pa_cons (pe_tup (pa_cons pe_int (pa_cons pe_int pa_nil))) (pa_cons pe_int pa_nil))) pa_nil)) (pa_cons (pe_tup (pa_cons (pe_tup (pa_cons (pe_tup (pa_cons pe_int (pa_cons pe_int pa_nil))) (pa_cons pe_int pa_nil))) (pa_cons (pe_tup (pa_cons (pe_tup (pa_cons pe_int (pa_cons pe_int pa_nil))) (pa_cons pe_int pa_nil))) pa_nil))) (pa_cons pe_int pa_nil))))) (pa_cons (pe_c c_ways_on hr (by omega) (by rfl) (pa_cons pe_int (pa_cons (pv 1) (pa_cons (pe_tup pa_nil) (pa_cons pe_int pa_nil))))) (pa_cons (pe_c c_ways_on hr (by omega) (by rfl) (pa_cons pe_int (pa_cons (pe_tup pa_nil) (pa_cons (pe_tup (pa_cons (pe_tup (pa_cons (pe_tup (pa_cons pe_int pa_nil)) (pa_cons pe_int pa_nil))) (pa_cons (pe_tup (pa_cons (pe_tup (pa_cons pe_int pa_nil)) (pa_cons pe_int pa_nil))) pa_nil))) (pa_cons pe_int pa_nil))))) (pa_cons (pe_c c_least_size hr (by omega) (by rfl) (pa_cons pe_int (pa_cons (pe_tup (pa_cons (pe_tup (pa_cons (pe_tup (pa_cons pe_int pa_nil)) (pa_cons pe_int pa_nil))) pa_nil)) (pa_cons (pe_tup (pa_cons (pe_tup (pa_cons (pe_tup (pa_cons pe_int pa_nil)) (pa_cons pe_int pa_nil))) pa_nil)) (pa_cons pe_int pa_nil))))) (pa_cons (pe_c c_least_size hr (by omega) (by rfl) (pa_cons pe_int (pa_cons (pv 0) (pa_cons (pe_tup (pa_cons (pe_tup (pa_cons (pe_tup (pa_cons pe_int pa_nil)) (pa_cons pe_int pa_nil))) pa_nil)) (pa_cons pe_int pa_nil))))) pa_nil)))))))) (pss_cons (ps_set (i := 3) sc_law_by_hand_right.nd rfl (Or.inl rfl) (pe_op op_cat (pv 3) (pe_lst (pa_cons pe_int (pa_cons pe_int (pa_cons pe_int (pa_cons pe_int (pa_cons pe_non pa_nil)))))))) (pss_cons (ps_expr (pe_bm PySem.F.plainAttrs_list PySem.F.slot_list_append PySem.F.type_list_append mt_append (pv 2) (pa_cons (pe_callB (k_len (K := K) rfl) (by rfl) E.len PySem.boot_len (pa_cons (pe_c c_law_that_fit hr (by omega) (by rfl) (pa_cons pe_int (pa_cons (pe_tup (pa_cons (pe_tup (pa_cons (pe_tup (pa_cons pe_int (pa_cons pe_int pa_nil))) (pa_cons pe_int pa_nil))) pa_nil)) (pa_cons (pe_tup (pa_cons (pe_tup (pa_cons (pe_tup (pa_cons pe_int (pa_cons pe_int pa_nil))) (pa_cons pe_int pa_nil))) (pa_cons (pe_tup (pa_cons (pe_tup (pa_cons pe_int (pa_cons pe_int pa_nil))) (pa_cons pe_int pa_nil))) pa_nil))) (pa_cons pe_int pa_nil))))) pa_nil)) pa_nil))) (pss_cons (ps_set (i := 2) sc_law_by_hand_right.nd rfl (Or.inl rfl) (pe_op op_cat (pv 2) (pe_lst (pa_cons (pe_cx c_told_hour L2.takes0 hr (by omega) (by rfl) (pa_cons pe_int (pa_cons (pe_tup (pa_cons (pe_lst (pa_cons (pe_tup (pa_cons pe_int (pa_cons pe_int pa_nil))) (pa_cons pe_int pa_nil))) pa_nil)) (pa_cons pe_int (pa_cons (pe_lst (pa_cons pe_int (pa_cons pe_int pa_nil))) pa_nil))))) (pa_cons (pe_c c_ways_on hr (by omega) (by rfl) (pa_cons pe_int (pa_cons (pe_tup (pa_cons (pe_tup (pa_cons (pe_lst (pa_cons pe_int (pa_cons pe_int pa_nil))) (pa_cons pe_int pa_nil))) pa_nil)) (pa_cons (pe_tup (pa_cons (pe_tup (pa_cons (pe_tup (pa_cons pe_int (pa_cons pe_int pa_nil))) (pa_cons pe_int pa_nil))) (pa_cons (pe_lst (pa_cons (pe_tup (pa_cons pe_int (pa_cons pe_int pa_nil))) (pa_cons pe_int pa_nil))) pa_nil))) (pa_cons pe_int pa_nil))))) (pa_cons (pe_c c_least_size hr (by omega) (by rfl) (pa_cons pe_int (pa_cons (pe_tup (pa_cons (pe_tup (pa_cons (pe_lst (pa_cons pe_int pa_nil)) (pa_cons pe_int pa_nil))) pa_nil)) (pa_cons (pe_tup (pa_cons (pe_lst (pa_cons (pe_tup (pa_cons pe_int pa_nil)) (pa_cons pe_int pa_nil))) pa_nil)) (pa_cons pe_int pa_nil))))) pa_nil)))))) (pss_one (ps_ret (pe_c c_law_same hr (by omega) (by rfl) (pa_cons (pv 2) (pa_cons (pe_op op_cat (pv 3) (pe_lst (pa_cons pe_int (pa_cons pe_int (pa_cons pe_int (pa_cons pe_int pa_nil)))))) pa_nil)))))))))))), ?_⟩
    refine sm_seq (sm_par (xa_d (d := pS clockS) (em_data (ed_call ea_nil ⟨rfl, rfl⟩)) (xa_d (d := pS evenS) (em_data (ed_tup (ea_cons (ed_tup (ea_cons (ed_tup (ea_cons ed_int (ea_cons ed_int ea_nil)) (by decide)) (ea_cons ed_int ea_nil)) (by decide)) ea_nil) (by decide))) (xa_nil ⟨_, _, rfl, ?_⟩))))
    refine sm_seq (sm_set (xm_of (d := .list [.int 5, .none, .int 0, .int 0, unfD]) (em_data (ed_lst (ea_cons ?_ (ea_cons ?_ (ea_cons ?_ (ea_cons ?_ (ea_cons ?_ ea_nil))))) (by simp))) ?_))
    · exact ed_callX (ds := [.int ((1 : Nat) : Int), pS clockS, .int ((13 : Nat) : Int), pR [2]]) (ea_cons ed_int (ea_cons (ed_var rfl) (ea_cons ed_int (ea_cons (ed_tup (ea_cons ed_int ea_nil) (by decide)) ea_nil)))) (told_R due1 (by unfold unfD; intro z; cases z) (isS_pS (by decide) (by decide)) (sm_clock.ok (by decide) (by decide) (by decide) (by decide) (by decide)) (isR_pR (by decide)) rfl (by decide))
    · exact ed_callX (ds := [.int ((2 : Nat) : Int), pS evenS, .int ((4 : Nat) : Int), pR [1, 0]]) (ea_cons ed_int (ea_cons (ed_var rfl) (ea_cons ed_int (ea_cons (ed_tup (ea_cons ed_int (ea_cons ed_int ea_nil)) (by decide)) ea_nil)))) (told_R due2 (by unfold unfD; intro z; cases z) (isS_pS (by decide) (by decide)) (sm_even.ok (by decide) (by decide) (by decide) (by decide) (by decide)) (isR_pR (by decide)) rfl (by decide))
    · exact ed_callX (ds := [.int ((2 : Nat) : Int), pS evenS, .int ((4 : Nat) : Int), pR [2, 0]]) (ea_cons ed_int (ea_cons (ed_var rfl) (ea_cons ed_int (ea_cons (ed_tup (ea_cons ed_int (ea_cons ed_int ea_nil)) (by decide)) ea_nil)))) (told_R due3 (by unfold unfD; intro z; cases z) (isS_pS (by decide) (by decide)) (sm_even.ok (by decide) (by decide) (by decide) (by decide) (by decide)) (isR_pR (by decide)) rfl (by decide))
    · exact ed_callX (ds := [.int ((2 : Nat) : Int), pS evenS, .int ((9 : Nat) : Int), pR [1, 0]]) (ea_cons ed_int (ea_cons (ed_var rfl) (ea_cons ed_int (ea_cons (ed_tup (ea_cons ed_int (ea_cons ed_int ea_nil)) (by decide)) ea_nil)))) (told_R due4 (by unfold unfD; intro z; cases z) (isS_pS (by decide) (by decide)) (sm_even.ok (by decide) (by decide) (by decide) (by decide) (by decide)) (isR_pR (by decide)) rfl (by decide))
    · exact ed_call (ds := [.int ((1 : Nat) : Int), pS clockS, .int ((5 : Nat) : Int), pR [1]]) (ea_cons ed_int (ea_cons (ed_var rfl) (ea_cons ed_int (ea_cons (ed_tup (ea_cons ed_int ea_nil) (by decide)) ea_nil)))) ⟨1, pS clockS, clockS, (5 : Nat), pR [1], [1], rfl, isS_pS (by decide) (by decide), sm_clock.ok (by decide) (by decide) (by decide) (by decide) (by decide), isR_pR (by decide), rfl, by decide, due5.1, due5.2⟩
    refine sm_seq (sm_set (xm_of (d := .list [.int 5, .none, .int 0, .int 0, unfD]) (em_data (ed_lst (ea_cons ed_int (ea_cons ed_non (ea_cons ed_int (ea_cons ed_int (ea_cons (ed_lst (ea_cons ed_str (ea_cons ed_bl ea_nil)) (by simp)) ea_nil))))) (by simp))) ?_))
    refine sm_seq (sm_set (xm_newP (ds := [.int 5, .none, .int 0, .int 0, unfD] ++ [.int 5, .int 8, .int 3, .int 4, .none]) (nl_cat (ed_var rfl) (ed_lst (ea_cons ?_ (ea_cons ?_ (ea_cons ?_ (ea_cons ?_ (ea_cons ?_ ea_nil))))) (by simp)) (by simp)) fun p hpn => ?_))
    · exact ed_call (ds := [.int ((2 : Nat) : Int), pS sA, pS nA, .int ((6 : Nat) : Int)]) (ea_cons ed_int (ea_cons (ed_tup (ea_cons (ed_tup (ea_cons (ed_tup (ea_cons ed_int (ea_cons ed_int ea_nil)) (by decide)) (ea_cons ed_int ea_nil)) (by decide)) ea_nil) (by decide)) (ea_cons (ed_tup (ea_cons (ed_tup (ea_cons (ed_tup (ea_cons ed_int (ea_cons ed_int ea_nil)) (by decide)) (ea_cons ed_int ea_nil)) (by decide)) (ea_cons (ed_tup (ea_cons (ed_tup (ea_cons ed_int (ea_cons ed_int ea_nil)) (by decide)) (ea_cons ed_int ea_nil)) (by decide)) ea_nil)) (by decide)) (ea_cons ed_int ea_nil)))) ⟨2, 6, pS sA, pS nA, sA, nA, rfl, isS_pS (by decide) (by decide), isS_pS (by decide) (by decide), sm_sA, sm_nA, by decide, by decide, by decide, by decide, by decide, congrArg PyData.int ways1⟩
    · exact ed_call (ds := [.int ((2 : Nat) : Int), pS evenS, pS [], .int ((4 : Nat) : Int)]) (ea_cons ed_int (ea_cons (ed_var rfl) (ea_cons (ed_tup ea_nil (by decide)) (ea_cons ed_int ea_nil)))) ⟨2, 4, pS evenS, pS [], evenS, [], rfl, isS_pS (by decide) (by decide), isS_pS (by decide) (by decide), sm_even, sm_nil, by decide, by decide, by decide, by decide, by decide, congrArg PyData.int ways2⟩
    · exact ed_call (ds := [.int ((1 : Nat) : Int), pS [], pS nB, .int ((4 : Nat) : Int)]) (ea_cons ed_int (ea_cons (ed_tup ea_nil (by decide)) (ea_cons (ed_tup (ea_cons (ed_tup (ea_cons (ed_tup (ea_cons ed_int ea_nil) (by decide)) (ea_cons ed_int ea_nil)) (by decide)) (ea_cons (ed_tup (ea_cons (ed_tup (ea_cons ed_int ea_nil) (by decide)) (ea_cons ed_int ea_nil)) (by decide)) ea_nil)) (by decide)) (ea_cons ed_int ea_nil)))) ⟨1, 4, pS [], pS nB, [], nB, rfl, isS_pS (by decide) (by decide), isS_pS (by decide) (by decide), sm_nil, sm_nB, by decide, by decide, by decide, by decide, by decide, congrArg PyData.int ways3⟩
    · exact ed_call (ds := [.int 1, pS sC, pS nC, .int 50]) (ea_cons ed_int (ea_cons (ed_tup (ea_cons (ed_tup (ea_cons (ed_tup (ea_cons ed_int ea_nil) (by decide)) (ea_cons ed_int ea_nil)) (by decide)) ea_nil) (by decide)) (ea_cons (ed_tup (ea_cons (ed_tup (ea_cons (ed_tup (ea_cons ed_int ea_nil) (by decide)) (ea_cons ed_int ea_nil)) (by decide)) ea_nil) (by decide)) (ea_cons ed_int ea_nil)))) (least4 (isS_pS (by decide) (by decide)) (isS_pS (by decide) (by decide)))
    · exact ed_call (ds := [.int 1, pS clockS, pS nD, .int 200]) (ea_cons ed_int (ea_cons (ed_var rfl) (ea_cons (ed_tup (ea_cons (ed_tup (ea_cons (ed_tup (ea_cons ed_int ea_nil) (by decide)) (ea_cons ed_int ea_nil)) (by decide)) ea_nil) (by decide)) (ea_cons ed_int ea_nil)))) (least5 (isS_pS (by decide) (by decide)) (isS_pS (by decide) (by decide)))
    refine sm_seq (sm_set (xm_of (d := .list ([.int 5, .none, .int 0, .int 0, unfD] ++ [.int 5, .int 8, .int 3, .int 4, .none])) (em_data (ed_op (ed_var rfl) (ed_lst (ea_cons ed_int (ea_cons ed_int (ea_cons ed_int (ea_cons ed_int (ea_cons ed_non ea_nil))))) (by decide)) (rd_cat (by simp)))) ?_))
    refine sm_seq (sm_drop (xm_append (a := p) rfl updM_same (xm_of (d := .int 5) (em_data (ed_is (ed_cb (ea_cons (ed_call (ds := [.int ((2 : Nat) : Int), pS sA, pS nA, .int ((6 : Nat) : Int)]) (ea_cons ed_int (ea_cons (ed_tup (ea_cons (ed_tup (ea_cons (ed_tup (ea_cons ed_int (ea_cons ed_int ea_nil)) (by decide)) (ea_cons ed_int ea_nil)) (by decide)) ea_nil) (by decide)) (ea_cons (ed_tup (ea_cons (ed_tup (ea_cons (ed_tup (ea_cons ed_int (ea_cons ed_int ea_nil)) (by decide)) (ea_cons ed_int ea_nil)) (by decide)) (ea_cons (ed_tup (ea_cons (ed_tup (ea_cons ed_int (ea_cons ed_int ea_nil)) (by decide)) (ea_cons ed_int ea_nil)) (by decide)) ea_nil)) (by decide)) (ea_cons ed_int ea_nil)))) ⟨2, sA, nA, 6, rfl, ⟨by decide, by decide, by decide⟩, ⟨by decide, by decide, by decide⟩, by decide, by decide, rfl⟩) ea_nil) rc_lenL) ?_)) ⟨_, _, rfl, updM_same, by simp, ?_⟩)))
    · rw [List.length_map, fitA]
      rfl
    refine sm_seq (sm_set (xm_of (em_catM (a := p) (es := [.int 0, .int 5, .int 4]) rfl updM_same (em_data (ed_lst (ea_cons ?_ (ea_cons ?_ (ea_cons ?_ ea_nil))) (by simp))) (by simp)) ?_))
    · exact ed_callX (ds := [.int ((2 : Nat) : Int), .tuple [.list [.tuple [.int 2, .int 0], .int 0]], .int ((4 : Nat) : Int), .list ([2, 0].map PyData.int)]) (ea_cons ed_int (ea_cons (ed_tup (ea_cons (ed_lst (ea_cons (ed_tup (ea_cons ed_int (ea_cons ed_int ea_nil)) (by decide)) (ea_cons ed_int ea_nil)) (by decide)) ea_nil) (by decide)) (ea_cons ed_int (ea_cons (ed_lst (ea_cons ed_int (ea_cons ed_int ea_nil)) (by decide)) ea_nil)))) (told_R due3 (by unfold unfD; intro z; cases z) ⟨by simp [Flat], by simp [tupD, tupAll, pS, pR, evenS]⟩ (sm_even.ok (by decide) (by decide) (by decide) (by decide) (by decide)) (isR_list (by decide)) rfl (by decide))
    · exact ed_call (ds := [.int ((2 : Nat) : Int), .tuple [.tuple [.list [.int 1, .int 1], .int 0]], .tuple [.tuple [.tuple [.int 1, .int 0], .int 0], .list [.tuple [.int 0, .int 1], .int 0]], .int ((6 : Nat) : Int)]) (ea_cons ed_int (ea_cons (ed_tup (ea_cons (ed_tup (ea_cons (ed_lst (ea_cons ed_int (ea_cons ed_int ea_nil)) (by decide)) (ea_cons ed_int ea_nil)) (by decide)) ea_nil) (by decide)) (ea_cons (ed_tup (ea_cons (ed_tup (ea_cons (ed_tup (ea_cons ed_int (ea_cons ed_int ea_nil)) (by decide)) (ea_cons ed_int ea_nil)) (by decide)) (ea_cons (ed_lst (ea_cons (ed_tup (ea_cons ed_int (ea_cons ed_int ea_nil)) (by decide)) (ea_cons ed_int ea_nil)) (by decide)) ea_nil)) (by decide)) (ea_cons ed_int ea_nil))))
        ⟨2, 6, _, _, sA, nA, rfl, ⟨by simp [Flat], by simp [tupD, tupAll, pS, pR, sA]⟩, ⟨by simp [Flat], by simp [tupD, tupAll, pS, pR, nA]⟩, sm_sA, sm_nA, by decide, by decide, by decide, by decide, by decide, congrArg PyData.int ways1⟩
    · exact ed_call (ds := [.int 1, .tuple [.tuple [.list [.int 4], .int 0]], .tuple [.list [.tuple [.int 2], .int 0]], .int 50]) (ea_cons ed_int (ea_cons (ed_tup (ea_cons (ed_tup (ea_cons (ed_lst (ea_cons ed_int ea_nil) (by decide)) (ea_cons ed_int ea_nil)) (by decide)) ea_nil) (by decide)) (ea_cons (ed_tup (ea_cons (ed_lst (ea_cons (ed_tup (ea_cons ed_int ea_nil) (by decide)) (ea_cons ed_int ea_nil)) (by decide)) ea_nil) (by decide)) (ea_cons ed_int ea_nil)))) (least4 ⟨by simp [Flat], by simp [tupD, tupAll, pS, pR, sC]⟩ ⟨by simp [Flat], by simp [tupD, tupAll, pS, pR, nC]⟩)
    refine sm_ret (xm_of (d := .bool true) (em_data (ed_call (ea_cons (ed_var rfl) (ea_cons (ed_op (ed_var rfl) (ed_lst (ea_cons ed_int (ea_cons ed_int (ea_cons ed_int (ea_cons ed_int ea_nil)))) (by decide)) (rd_cat (by simp))) ea_nil)) ⟨_, rfl, ?_, rfl⟩)) (hp _))
    simp only [FlatQ, unfD, List.cons_append, List.nil_append, List.mem_cons, List.not_mem_nil, or_false, forall_eq_or_imp, forall_eq]
    refine ⟨by simp, ?_⟩
    have us : SeqAt.shaped (.str "unfit") = true := by decide +kernel
    simp [us, FlatQ]
end
end Sh
-- Sl11
set_option maxRecDepth 100000
set_option maxHeartbeats 4000000
/-! the script's list, held from outside; the law -/
namespace Sh
open PySem PySem.Spec PyProof.Rows L2 RZ
open C8 (Cal pe_c)
open Mx
/-- a list that the text does not change -/
def Out (K : PySem.W.Frag) (a : Addr) (xs : List V) (μ : Mu) (H : Hp) : Prop :=
  (Rd H a (.lst xs) ∧ μ a = none) ∨ ∃ (o : Obj) (its : Array Value) (n : Nat), K.lookup a = some o ∧ o.cls = .type "list" ∧ o.dict = none ∧ o.data = .seq its n ∧ its.size ≤ sizeLine ∧ Vals xs its.toList
section
variable {T : Tb} {K : PySem.W.Frag} {a : Addr} {xs : List V} {μ μ2 : Mu} {G H G2 H2 : Hp}
theorem Out.sq (h : Out K a xs μ H) : SqL K H a xs := by
  rcases h with h | h
  · exact .inl h.1
  · exact .inr h
theorem Out.step (o : Out K a xs μ H) (st : StM T μ G H μ2 G2 H2) : Out K a xs μ2 H2 := by
  rcases o with ⟨h, hm⟩ | h
  · have m2 : ∀ ob, H a = some ob → μ2 a = none := fun ob e => by
      cases q : μ2 a with
      | none => rfl
      | some ds =>
        have := st.new a (by rw [q]; intro z; cases z) hm
        rw [e] at this
        cases this
    rcases h with h | ⟨ob, h⟩
    · exact .inl ⟨.inl (st.hh a _ hm h (fun ps z => nomatch z)), m2 _ h⟩
    · exact .inl ⟨.inr ⟨ob, st.hh a _ hm h (fun ps z => nomatch z)⟩, m2 _ h⟩
  · exact .inr h
theorem sq_ext (st : Step T G H G2 H2) (h : SqL K H a xs) : SqL K H2 a xs := by
  rcases h with (h | ⟨ob, h⟩) | h
  · exact .inl (.inl (st.hh a _ h (fun ps z => nomatch z)))
  · exact .inl (.inr ⟨ob, st.hh a _ h (fun ps z => nomatch z)⟩)
  · exact .inr h
end
def cutN (ns : List Int) (lo hi : Option Int) : List Int := (ns.drop (HT.sIx ns.length 0 lo)).take (HT.sIx ns.length ns.length hi - HT.sIx ns.length 0 lo)
theorem cutV_ints (ns : List Int) (lo hi : Option Int) : cutV (ns.map V.int) lo hi = (cutN ns lo hi).map V.int := by
  unfold cutV cutN
  rw [List.length_map, List.map_take, List.map_drop]
/-- a slice of it, where it stands -/
def tGd (K : PySem.W.Frag) (i : Nat) (a : Addr) (ns : List Int) (te : TE) : TE := fun σ H Q => σ[i]? = some (some (.ref a)) → SqL K H a (ns.map V.int) → te σ H Q
theorem ed_cutO {T : Tb} {δ : Dl} {K : PySem.W.Frag} {ns : List Int} {a : Addr} {i : Nat} {tl th : TO} {lo hi : Option Int} (hl : EO T tl δ lo) (hh : EO T th δ hi) :
    ED T (tGd K i a ns (tSl (rSlL K) (tVar i) tl th)) δ (.list ((cutN ns lo hi).map PyData.int)) := fun σ G H o Q q h0 hS => by
  refine ⟨.ref a, h0, ?_⟩
  refine hl σ G H o _ fun G2 H2 s2 => hh σ G2 H2 (o.step s2) _ fun G3 H3 s3 => ?_
  refine ⟨a, ns.map V.int, rfl, sq_ext (s2.trans s3) hS, fun p hn => ?_⟩
  rw [cutV_ints]
  exact new_l s3.gh hn (dqa_ints _) fun v G4 H4 s4 d4 => q v G4 H4 ((s2.trans s3).trans s4) d4
/-! ### statements, values, with such a list at slot 0 -/
def SMo (T : Tb) (K : PySem.W.Frag) (a : Addr) (ns : List Int) (ts : TS) (ε : Ml) (μ : Mu) (nx : Ml → Mu → Prop) (rt : MD → Mu → Prop) : Prop := ∀ (σ : L2.St) (G H : Hp), OkM T σ ε μ G H → σ[0]? = some (some (.ref a)) → Out K a (ns.map V.int) μ H → ∀ D : Ends,
  (∀ (σ' : L2.St) (ε' : Ml) (μ2 : Mu) (G2 H2 : Hp), nx ε' μ2 → StM T μ G H μ2 G2 H2 → OkM T σ' ε' μ2 G2 H2 → D.nx σ' H2) →
  (∀ (r : MD) (v : V) (μ2 : Mu) (G2 H2 : Hp), rt r μ2 → StM T μ G H μ2 G2 H2 → VM G2 v r → D.rt v H2) → ts D σ H
def XMo (T : Tb) (K : PySem.W.Frag) (a : Addr) (ns : List Int) (te : TE) (ε : Ml) (μ : Mu) (post : MD → Mu → Prop) : Prop := ∀ (σ : L2.St) (G H : Hp), OkM T σ ε μ G H → σ[0]? = some (some (.ref a)) → Out K a (ns.map V.int) μ H → ∀ Q : VK,
  (∀ (r : MD) (v : V) (μ2 : Mu) (G2 H2 : Hp), post r μ2 → StM T μ G H μ2 G2 H2 → VM G2 v r → Q v H2) → te σ H Q
def XAo (T : Tb) (K : PySem.W.Frag) (a : Addr) (ns : List Int) (ta : TA) (ε : Ml) (μ : Mu) (post : List MD → Mu → Prop) : Prop := ∀ (σ : L2.St) (G H : Hp), OkM T σ ε μ G H → σ[0]? = some (some (.ref a)) → Out K a (ns.map V.int) μ H → ∀ Q : List V → Hp → Prop,
  (∀ (rs : List MD) (vs : List V) (μ2 : Mu) (G2 H2 : Hp), post rs μ2 → StM T μ G H μ2 G2 H2 → Paired (VM G2) vs rs → Q vs H2) → ta σ H Q
section
variable {T : Tb} {K : PySem.W.Frag} {a : Addr} {ns : List Int} {ε : Ml} {μ : Mu} {t t2 u : TS} {ta tb : TE} {tr : TA} {nx mid : Ml → Mu → Prop} {rt : MD → Mu → Prop} {post : MD → Mu → Prop}
theorem smo_of (h : SM T t2 ε μ nx rt) (e : ∀ D σ H, σ[0]? = some (some (.ref a)) → SqL K H a (ns.map V.int) → t2 D σ H → t D σ H) : SMo T K a ns t ε μ nx rt := fun σ G H o h0 ho D hx hr => e D σ H h0 ho.sq (h σ G H o D hx hr)
theorem smo_seq (h : SMo T K a ns t ε μ mid rt) (k : ∀ ε' μ', mid ε' μ' → ε'[0]? = some (some (.m a)) ∧ SMo T K a ns u ε' μ' nx rt) : SMo T K a ns (tSeq t u) ε μ nx rt := fun σ G H o h0 ho D hx hr =>
  h σ G H o h0 ho { D with nx := u D } (fun σ' ε' μ2 G2 H2 m st ok => by
    obtain ⟨e0, hk⟩ := k ε' μ2 m
    obtain ⟨v, h1, h2⟩ := ok.e.2 0 _ e0
    cases h2
    exact hk σ' G2 H2 ok h1 (ho.step st) D (fun σ'' ε'' μ3 G3 H3 n s3 ok3 => hx σ'' ε'' μ3 G3 H3 n (st.trans s3) ok3) fun r v μ3 G3 H3 q s3 dv => hr r v μ3 G3 H3 q (st.trans s3) dv) hr
theorem smo_ret (h : XMo T K a ns ta ε μ rt) : SMo T K a ns (tRet ta) ε μ nx rt := fun σ G H o h0 ho D hx hr => h σ G H o h0 ho _ fun r v μ2 G2 H2 hp s2 d2 => hr r v μ2 G2 H2 hp s2 d2
theorem xmo_and (ha : XM T ta ε μ (fun r _ => r = .d (.bool true))) (hb : ∀ μ', XMo T K a ns tb ε μ' post) : XMo T K a ns (tAndV ta tb) ε μ post := fun σ G H o h0 ho Q q =>
  ha σ G H o _ fun r v μ1 G1 H1 hr s1 d1 => by
    subst hr
    have d1 : Dq G1 v (.bool true) := d1
    cases d1
    refine ⟨true, rfl, ?_⟩
    rw [if_pos rfl]
    exact hb μ1 σ G1 H1 (o.step s1) h0 (ho.step s1) Q fun r v μ2 G2 H2 hp s2 d2 => q r v μ2 G2 H2 hp (s1.trans s2) d2
theorem xmo_call {R : List MD → Mu → (MD → Mu → Prop) → Prop} {E : XK} (h : XAo T K a ns tr ε μ (fun rs μ2 => R rs μ2 post)) : XMo T K a ns (tCall (spM T R) [] E tr) ε μ post := fun σ G H o h0 ho Q q =>
  h σ G H o h0 ho _ fun rs vs μ2 G2 H2 hr s2 d2 => ⟨G2, rs, μ2, post, s2.gh, s2.tt o.t, (o.step s2).nt, s2.mu, by rw [List.append_nil]; exact d2, hr, fun r v μ3 G3 H3 hp s3 d3 => q r v μ3 G3 H3 hp (s2.trans s3) d3⟩
theorem xao_cons {pa : MD → Mu → Prop} {pr : List MD → Mu → Prop} (ha : XMo T K a ns ta ε μ pa) (hr : ∀ x μ1, pa x μ1 → XA T tr ε μ1 (fun rs μ2 => pr (x :: rs) μ2)) : XAo T K a ns (tCons ta tr) ε μ pr := fun σ G H o h0 ho Q q =>
  ha σ G H o h0 ho _ fun x v μ1 G1 H1 hx s1 d1 => hr x μ1 hx σ G1 H1 (o.step s1) _ fun rs vs μ2 G2 H2 hrs s2 d2 => q (x :: rs) (v :: vs) μ2 G2 H2 hrs (s1.trans s2) (.cons (d1.mono s2.gg) d2)
end
/-! ### the promise -/
def spO (T : Tb) (K : PySem.W.Frag) (tl : List V) (R : (MD → Mu → Prop) → Prop) : Sp := fun vs H Q _ => ∃ (G : Hp) (μ : Mu) (a : Addr) (ns : List Int) (post : MD → Mu → Prop), Same G H ∧ NdefX.TabsN T H ∧ (∀ b ps, G b ≠ some (.tbl ps)) ∧ MuOk μ G H ∧ vs = .ref a :: tl ∧ Out K a (ns.map V.int) μ H ∧
  ns.length ≤ 1000 ∧ R post ∧ ∀ (r : MD) (v : V) (μ2 : Mu) (G2 H2 : Hp), post r μ2 → StM T μ G H μ2 G2 H2 → VM G2 v r → Q v H2
theorem fn_o {P : Program} {w : World} {K : PySem.W.Frag} {mg : Str → Option Value} {base : Heap} {T : Tb} {x : Str} {st : Stmt} {N ps : List Str} {k : Nat} {f : Addr} {fd : FuncData} {tl : List V} {tlD : List MD} {R : (MD → Mu → Prop) → Prop}
    (F : FnP K x st f fd) (S : FnScope N ps (defScope st)) (hl : ps.length = tl.length + 1) (htl : ∀ G, Paired (VM G) tl tlD)
    (hb : ∀ (cdv : Value) (A : Around) (outer : List Env) (s : Shared) (H : Hp) (E : XK), Room k (A.deeper (envOfC x (defScope st) s.heap.objs.size f cdv)) → ∀ (a : Addr) (ns : List Int) (post : MD → Mu → Prop), ns.length ≤ 1000 → R post →
      ∃ t, PSs (cxOf C8.CX0 P w K mg base N x (defScope st) f cdv A outer s H E).nox (defBody st) t ∧ ∀ μ, SMo T K a ns t (startM N (.m a :: tlD)) μ (fun _ μ2 => post (.d .none) μ2) post) :
    FnOk P w K mg base C8.CX0 (k + 1) f fd ps (spO T K tl R) := by
  refine F.ok S (fun vs H Q E h => ?_) (fun cdv A outer s H vs Q E hr h => ?_)
  · obtain ⟨G, μ, a, ns, post, _, _, _, _, rfl, _⟩ := h
    rw [hl]
    rfl
  · obtain ⟨G, μ, a, ns, post, hs, ht, hnt, hmu, rfl, ho, hn, hR, q⟩ := h
    obtain ⟨t, h1, h2⟩ := hb cdv A outer s H E hr a ns post hn hR
    have pr : Paired (VM G) (V.ref a :: tl) (.m a :: tlD) := .cons rfl (htl G)
    refine ⟨t, PSs.nox h1, h2 μ _ G H ⟨hs, ht, startM_ok pr, hnt, hmu⟩ rfl ho _ (fun σ' ε' μ2 G2 H2 hp s2 ok => ?_) fun r v μ2 G2 H2 hp s2 dv => ?_⟩
    · exact q (.d .none) .non μ2 G2 H2 hp s2 .non
    · exact q r v μ2 G2 H2 hp s2 dv
theorem xmo_o {T : Tb} {K : PySem.W.Frag} {a : Addr} {ns : List Int} {ε : Ml} {μ : Mu} {R : (MD → Mu → Prop) → Prop} {post : MD → Mu → Prop} {E : XK} {k : Int} (hn : ns.length ≤ 1000) (hR : R post) : XMo T K a ns (tCall (spO T K [.int k] R) [] E (tCons (tVar 0) (tCons (tC (.int k)) tNil))) ε μ post := fun σ G H o h0 ho Q q =>
  ⟨.ref a, h0, G, μ, a, ns, post, o.s, o.t, o.nt, o.mu, rfl, ho, hn, hR, q⟩
section
variable {P : Program} {w : World} {K : PySem.W.Frag} {mg : Str → Option Value} {base : Heap} {T : Tb}
/-! ### the purse from the script, again -/
def R_cells (post : MD → Mu → Prop) : Prop := ∀ q z μ2, μ2 q = some [.int z] → post (.m q) μ2
theorem cal_cells (E : Bl mg) (D : DefAt K mg "_law_cells" s_law_cells) : Cal P w K mg base 1 "_law_cells" (spO T K [.int 1] R_cells) [] := by
  obtain ⟨f, fd, F, hm⟩ := D.ex
  refine ⟨f, fd, ["_law_script", "_law_most_so"], [], ?_, hm, F.kp, F.bindsN (fun _ _ _ _ _ _ us hl => match us, hl with | [_, _], _ => rfl), .nil⟩
  refine fn_o (tlD := [.d (.int 1)]) F sc_law_cells rfl (fun G => .cons (.int 1) .nil) (fun cdv A outer s H E0 hr a ns post hl hp => ?_)
  refine ⟨_, (pss_cons (ps_set (i := 2) sc_law_cells.nd rfl (Or.inl rfl) (k_orT (K := K) rfl (pe_callTy (k_lstOf (K := K) rfl) (by rfl) E.list (by decide +kernel) (pa_cons (pe_slice (k_sll (K := K) rfl) (pv 0) po_none (po_some (pv 1))) pa_nil)) (pe_one (pe_lst (pa_cons pe_int pa_nil))))) (pss_cons (ps_for PassesOwn.never rfl (k_enumL (K := K) rfl (by rfl) E.enumerate (pa_cons (pe_slice (k_sll (K := K) rfl) (pv 0) (po_some (pv 1)) (po_some pe_int)) pa_nil)) (k_gtup (K := K) (n := 2) rfl rfl (pgs_cons (pg_name (i := 3) sc_law_cells.nd rfl (Or.inl rfl) (Or.inl rfl)) (pgs_cons (pg_name (i := 4) sc_law_cells.nd rfl (Or.inl rfl) (Or.inl rfl)) pgs_nil))) (pss_cons (ps_set (i := 5) sc_law_cells.nd rfl (Or.inl rfl) (pe_op op_modN (pe_callTy cr_int (by rfl) E.int (by decide +kernel) (pa_cons (pv 3) pa_nil)) (pv 1))) (pss_one (ps_asg (pe_op op_add (pe_ix (k_ix (K := K) rfl) (pv 2) (pv 5) (fun _ _ => rfl)) (pe_op op_mulB (pv 4) (pe_op op_add (pv 3) pe_int))) (pg_sub (pv 2) (pv 5) set_list))))) (pss_one (ps_ret (pv 2))))), fun μ => ?_⟩
  refine smo_seq (mid := fun ε μ1 => ∃ p z, ε = [some (.m a), some (.d (.int 1)), some (.m p), none, none, none] ∧ μ1 p = some [.int z]) (smo_of (t2 := tAsg (tOrT K (tCB (rLstOf K) (tCons (tGd K 0 a ns (tSl (rSlL K) (tVar 0) tNoPart (tPart (tVar 1)))) tNil)) (tLst (tCons (tC (.int 0)) tNil))) (gName 2))
    (sm_set (xm_imp (p2 := fun r μ1 => ∃ p z, r = .m p ∧ μ1 p = some [.int z]) (xm_orT (xm_new (nl_lstL (ed_cutO eo_none (eo_some (ed_var rfl)))) (lf_ints _) fun p hpn => ⟨p, _, rfl, updM_same, fun hne => ⟨p, ns.getD 0 0, rfl, ?_⟩, fun hemp => xm_new (nl_lst (ea_cons ed_int ea_nil) (by simp)) rfl fun q hq => ⟨q, 0, rfl, updM_same⟩⟩)) ?_)) (fun D σ H h0 hS h => h h0 hS)) ?_
  · cases ns with
    | nil => exact absurd rfl hne
    | cons n ns =>
      rw [updM_same]
      have e : cutN (n :: ns) none (some 1) = [n] := by
        unfold cutN
        simp [HT.sIx]
      rw [e]
      rfl
  · rintro r μ1 ⟨p, z, rfl, hm⟩
    exact ⟨p, z, rfl, hm⟩
  · rintro ε μ1 ⟨p, z, rfl, hm⟩
    refine ⟨rfl, ?_⟩
    refine smo_seq (mid := fun ε μ1 => ∃ z a3 a4 a5, μ1 p = some [.int z] ∧ ε = [some (.m a), some (.d (.int 1)), some (.m p), a3, a4, a5]) (smo_of (t2 := tFor (iEnum K (tCons (tGd K 0 a ns (tSl (rSlL K) (tVar 0) (tPart (tVar 1)) (tPart (tC (.int 63))))) tNil)) _ _)
      (sm_for (fun i : Nat => PyData.tuple [.int (i : Nat), .int (at_ (cutN ns (some 1) (some 63)) i)]) (fun ys μ2 => ys = List.range (cutN ns (some 1) (some 63)).length ∧ μ2 = μ1) (for_data ?_) ?_) (fun D σ H h0 hS h => h h0 hS)) ?_
    · rw [← enD_row]
      exact id_enumL (ea_cons (ed_cutO (eo_some (ed_var rfl)) (eo_some ed_int)) ea_nil)
    · rintro xs μ2 ⟨rfl, e⟩
      rw [e]
      refine ⟨fun i ε μ' => ∃ z a3 a4 a5, μ' p = some [.int z] ∧ ε = [some (.m a), some (.d (.int 1)), some (.m p), a3, a4, a5], ⟨z, none, none, none, hm, rfl⟩, ?_, fun ε1 μ3 h => h⟩
      rintro i x ε1 μ3 hx ⟨z, a3, a4, a5, hm3, rfl⟩
      obtain ⟨hi, hxi⟩ := List.getElem?_eq_some_iff.mp hx
      rw [List.getElem_range] at hxi
      rw [List.length_range] at hi
      subst hxi
      have hlc : (cutN ns (some 1) (some 63)).length ≤ ns.length := by unfold cutN; rw [List.length_take, List.length_drop]; omega
      have sn := seen_m hm3
      refine tm_pair ?_
      refine sm_seq (sm_set (xm_of (d := .int 0) (em_lf (ed_is (ed_op (ed_cb (ea_cons (ed_var rfl) ea_nil) rc_intI) (ed_var rfl) (rd_I (by decide))) ?_) rfl) ?_))
      · congr 1
        have h1 := Int.fmod_nonneg_of_pos (i : Int) (b := 1) (by decide)
        have h2 := Int.fmod_lt_of_pos (i : Int) (b := 1) (by decide)
        omega
      refine sm_asg (xm_of (em_lf (ed_op (ed_op (ed_var (d := .list [.int z]) (congrArg some sn)) (ed_var rfl) (rd_ix_l (k := 0) rfl)) (ed_op (ed_var rfl) (ed_op (ed_var rfl) ed_int rd_I0) (rd_I (mul_smallR (by omega)))) rd_I0) rfl) ⟨_, rfl, tm_sub rfl hm3 (ed_var rfl) (ix_nat (n := 1) (i := 0) (by decide)) ⟨_, _, _, _, updM_same, rfl⟩⟩)
    · rintro ε1 μ3 ⟨z, a3, a4, a5, hm3, rfl⟩
      exact ⟨rfl, smo_of (sm_ret (xm_ptr rfl (hp p z μ3 hm3))) fun D σ H _ _ h => h⟩
/-! ### the law -/
abbrev s_law : Stmt := top 65
abbrev N_law : List Str := ["_law_script"]
theorem sc_law : FnScope N_law ["_law_script"] (defScope s_law) := ⟨rfl, rfl, rfl, by decide +kernel, rfl, by decide +kernel, by decide +kernel⟩
def R_law (post : MD → Mu → Prop) : Prop := ∀ μ2, post (.d (.bool true)) μ2
theorem ok_law {f : Addr} {fd : FuncData} (F : FnP K "law" s_law f fd) (c_law_by_hand_right : Cal P w K mg base 11 "_law_by_hand_right" (spM T R_law_by_hand_right) []) (c_law_right : Cal P w K mg base 12 "_law_right" (spM T R_law_right) [])
    (c_law_box : Cal P w K mg base 1 "_law_box" (spM T R_law_box) []) (c_law_cells : Cal P w K mg base 1 "_law_cells" (spO T K [.int 1] R_cells) []) : FnOk P w K mg base C8.CX0 13 f fd ["_law_script"] (spO T K [] R_law) := by
  refine fn_o (tlD := []) F sc_law rfl (fun G => .nil) (fun cdv A outer s H E0 hr a ns post hl hp => ?_)
  refine ⟨_, (pss_one (ps_ret (pe_and (pe_c0 c_law_by_hand_right hr (by omega) (by rfl)) (pe_one (pe_c c_law_right hr (by omega) (by rfl) (pa_cons (pe_c c_law_box hr (by omega) (by rfl) (pa_cons (pe_c c_law_cells hr (by omega) (by rfl) (pa_cons (pv 0) (pa_cons pe_int pa_nil))) (pa_cons pe_int pa_nil))) pa_nil)))))), fun μ => ?_⟩
  refine smo_ret (xmo_and (xm_call (xa_nil ⟨rfl, fun _ => rfl⟩)) fun μ1 => ?_)
  refine xmo_call (xao_cons (pa := fun x μ1 => ∃ q ds, x = .m q ∧ μ1 q = some ds ∧ Tin 0 ds) (xmo_call (xao_cons (pa := fun x μ1 => ∃ q z, x = .m q ∧ μ1 q = some [.int z]) (xmo_o hl fun q z μ2 h => ⟨q, z, rfl, h⟩) ?_)) ?_)
  · rintro x μ2 ⟨q, z, rfl, hm⟩
    exact xa_d em_int (xa_nil ⟨q, z, rfl, hm, fun q ds μ3 ht hm => ⟨q, ds, rfl, hm, ht⟩⟩)
  · rintro x μ2 ⟨q, ds, rfl, hm, ht⟩
    exact xa_nil ⟨q, ds, rfl, hm, ht, hp⟩
end
end Sh
-- Hd
set_option maxRecDepth 100000
set_option maxHeartbeats 0
namespace Sh
open PySem PySem.Spec PyProof.Rows L2
/-! the head: the facts by names, the run -/
def dfn (x : Str) (st : Stmt) : He.DefD := ⟨(x, none), x, x, defArgs st, defBody st, defScope st, [], []⟩
def fn0 : List He.DefD := [dfn "tupled" (top 4), dfn "nothing" (top 5), dfn "unit" (top 6), dfn "units" (top 7), dfn "shown" (top 8), dfn "rows_plus" (top 9), dfn "rows_less" (top 10), dfn "row_times" (top 11), dfn "rows_added" (top 12), dfn "columns" (top 13), dfn "common_divisor" (top 14), dfn "led_by" (top 16), dfn "stepped" (top 17), dfn "whole_lead" (top 18), dfn "times_for" (top 19), dfn "is_made" (top 20), dfn "made_by" (top 21), dfn "turned_about" (top 22), dfn "least_spot" (top 23), dfn "exchanged" (top 24)]
def fn1 : List He.DefD := [dfn "taken_from" (top 25), dfn "cleared" (top 26), dfn "first_odd" (top 27), dfn "corner_made" (top 28), dfn "diagonal" (top 29), dfn "steps_of" (top 30), dfn "halves_of" (top 32), dfn "rounds" (top 33), dfn "asked_of" (top 34), dfn "fits_size" (top 35), dfn "told_hour" (top 36), dfn "silent_on" (top 37), dfn "lots_of" (top 38), dfn "ways_on" (top 39), dfn "least_size" (top 40), dfn "_law_box" (top 42), dfn "_law_take" (top 43), dfn "_law_cells" (top 44), dfn "_law_of" (top 45), dfn "_law_lists" (top 46)]
def fn2 : List He.DefD := [dfn "_law_same" (top 47), dfn "_law_dot" (top 48), dfn "_law_plus" (top 49), dfn "_law_many" (top 50), dfn "_law_unit" (top 51), dfn "_law_all_hours" (top 52), dfn "_law_number" (top 53), dfn "_law_row" (top 54), dfn "_law_clock" (top 55), dfn "_law_sights" (top 56), dfn "_law_show" (top 57), dfn "_law_all_that_show" (top 58), dfn "_law_that_fit" (top 59), dfn "_law_heard" (top 60), dfn "_law_hour_right" (top 61), dfn "_law_least_right" (top 62), dfn "_law_by_hand_right" (top 63), dfn "_law_right" (top 64), dfn "law" (top 65)]
def fn : List He.DefD := fn0 ++ fn1 ++ fn2
def fa0 : List He.Fa := [.glo "tupled", .glo "nothing", .glo "unit", .glo "units", .glo "shown", .glo "rows_plus", .glo "rows_less", .glo "row_times", .glo "rows_added", .glo "columns", .glo "common_divisor", .glo "led_by", .glo "stepped", .glo "whole_lead", .glo "times_for", .glo "is_made", .glo "made_by", .glo "turned_about", .glo "least_spot", .glo "exchanged"]
def fa1 : List He.Fa := [.glo "taken_from", .glo "cleared", .glo "first_odd", .glo "corner_made", .glo "diagonal", .glo "steps_of", .glo "halves_of", .glo "rounds", .glo "asked_of", .glo "fits_size", .glo "told_hour", .glo "silent_on", .glo "lots_of", .glo "ways_on", .glo "least_size", .glo "_law_box", .glo "_law_take", .glo "_law_cells", .glo "_law_of", .glo "_law_lists"]
def fa2 : List He.Fa := [.glo "_law_same", .glo "_law_dot", .glo "_law_plus", .glo "_law_many", .glo "_law_unit", .glo "_law_all_hours", .glo "_law_number", .glo "_law_row", .glo "_law_clock", .glo "_law_sights", .glo "_law_show", .glo "_law_all_that_show", .glo "_law_that_fit", .glo "_law_heard", .glo "_law_hour_right", .glo "_law_least_right", .glo "_law_by_hand_right", .glo "_law_right", .glo "law"]
def fb : List He.Fa := [.free "isinstance", .free "list", .free "tuple", .free "int", .free "sum", .free "zip", .free "range", .free "len", .free "abs", .free "sorted", .free "enumerate", .free "divmod", .free "any", .free "all", .free "set", .free "bool", .free "str", .free "ValueError", .glo "Unfit", .glo "NoPaper", .exc "Unfit", .exc "NoPaper", .exm "Unfit" "Unfit" true, .exm "NoPaper" "NoPaper" true]
def fa : List He.Fa := fa0 ++ fa1 ++ fa2 ++ fb
def lo0 : List Str := ["Unfit", "NoPaper", "tupled", "nothing", "unit", "units", "shown", "rows_plus", "rows_less", "row_times", "rows_added", "columns", "common_divisor", "led_by", "stepped", "whole_lead", "times_for", "is_made", "made_by", "turned_about"]
def lo1 : List Str := ["least_spot", "exchanged", "taken_from", "cleared", "first_odd", "corner_made", "diagonal", "steps_of", "halves_of", "rounds", "asked_of", "fits_size", "told_hour", "silent_on", "lots_of", "ways_on", "least_size", "_law_box", "_law_take", "_law_cells"]
def lo2 : List Str := ["_law_of", "_law_lists", "_law_same", "_law_dot", "_law_plus", "_law_many", "_law_unit", "_law_all_hours", "_law_number", "_law_row", "_law_clock", "_law_sights", "_law_show", "_law_all_that_show", "_law_that_fit", "_law_heard", "_law_hour_right", "_law_least_right", "_law_by_hand_right", "_law_right"]
def loose : List Str := lo0 ++ lo1 ++ lo2
abbrev Rw : PySem.W.OpenRow := PySem.W.OpenLaw.row PySem.Challenge.rw_sharesuntold_k34_whole_told_hours_and_wa
def tf : List He.Defn := [("led_by", none)]
/-- what isinstance asks of Unfit -/
def ex (K : PySem.W.Frag) : Bool :=
  He.eqO (PySem.W.findIn K (.ref (He.ga K "Unfit")) "__getattribute__") (some (some (.builtin "BaseException.__getattribute__"))) && (He.eqO (PySem.W.findIn K (.ref (He.ga K "Unfit")) "__getattr__") (some none) && (PySem.W.hasDictIn K (He.ga K "Unfit") &&
  (He.eqO (PySem.W.findIn K (.ref (He.ga K "Unfit")) "__class__") (some (some (.builtin "object.__class__"))) && (He.eqO (PySem.W.specialIn K (.builtin "object.__class__") "__get__") (some (some (.builtin "getset_descriptor.__get__"))) &&
  (decide (PySem.W.takesIn K (.builtin "object.__class__") = some true) && (decide (PySem.W.mroIn K (He.ga K "Unfit") (.type "object") = some true) && decide (PySem.W.kitOne K (.ref (He.ga K "Unfit")) (.type "ValueError") = some true)))))))
abbrev hk : PySem.W.Hook := He.hookX 4 fa fn [] tf ex
def ob (s : PySem.W.SharedT) : He.AlX := He.obsX 4 fa fn [] tf ex (HandSHeadRun.getT s)
theorem ob_eq (s : PySem.W.SharedT) : ob s = hk.obs s.abs := He.obsX_eq (HandSHeadRun.getT_eq s)
theorem run (w : World) : HandSHeadRun.RunEq Rw (PySem.W.view Rw.prog [65]) hk ob 4000 loose w := by
  intro os
  kernel_rfl
end Sh
-- Jn
set_option maxRecDepth 100000
set_option maxHeartbeats 0
namespace Sh
open PySem PySem.Spec PyProof.Rows L2
open C8 (Cal)
/-! the join -/
section
variable {P : Program} {w : World} {K : PySem.W.Frag} {mg : Str → Option Value} {base h : Heap} {T : Tb} {CN CU : Addr}
structure Ds (K : PySem.W.Frag) (mg : Str → Option Value) : Prop where
  tupled : DefAt K mg "tupled" s_tupled
  whole_lead : DefAt K mg "whole_lead" s_whole_lead
  nothing : DefAt K mg "nothing" s_nothing
  unit : DefAt K mg "unit" s_unit
  units : DefAt K mg "units" s_units
  rows_less : DefAt K mg "rows_less" s_rows_less
  row_times : DefAt K mg "row_times" s_row_times
  rows_plus : DefAt K mg "rows_plus" s_rows_plus
  rows_added : DefAt K mg "rows_added" s_rows_added
  stepped : DefAt K mg "stepped" s_stepped
  times_for : DefAt K mg "times_for" s_times_for
  is_made : DefAt K mg "is_made" s_is_made
  made_by : DefAt K mg "made_by" s_made_by
  halves_of : DefAt K mg "halves_of" s_halves_of
  rounds : DefAt K mg "rounds" s_rounds
  columns : DefAt K mg "columns" s_columns
  asked_of : DefAt K mg "asked_of" s_asked_of
  fits_size : DefAt K mg "fits_size" s_fits_size
  shown : DefAt K mg "shown" s_shown
  told_hour : DefAt K mg "told_hour" s_told_hour
  common_divisor : DefAt K mg "common_divisor" s_common_divisor
  law_all_hours : DefAt K mg "_law_all_hours" s_law_all_hours
  law_dot : DefAt K mg "_law_dot" s_law_dot
  law_show : DefAt K mg "_law_show" s_law_show
  law_all_that_show : DefAt K mg "_law_all_that_show" s_law_all_that_show
  law_that_fit : DefAt K mg "_law_that_fit" s_law_that_fit
  law_same : DefAt K mg "_law_same" s_law_same
  lots_of : DefAt K mg "lots_of" s_lots_of
  least_spot : DefAt K mg "least_spot" s_least_spot
  exchanged : DefAt K mg "exchanged" s_exchanged
  turned_about : DefAt K mg "turned_about" s_turned_about
  taken_from : DefAt K mg "taken_from" s_taken_from
  cleared : DefAt K mg "cleared" s_cleared
  first_odd : DefAt K mg "first_odd" s_first_odd
  corner_made : DefAt K mg "corner_made" s_corner_made
  diagonal : DefAt K mg "diagonal" s_diagonal
  steps_of : DefAt K mg "steps_of" s_steps_of
  silent_on : DefAt K mg "silent_on" s_silent_on
  ways_on : DefAt K mg "ways_on" s_ways_on
  least_size : DefAt K mg "least_size" s_least_size
  law_least_right : DefAt K mg "_law_least_right" s_law_least_right
  law_take : DefAt K mg "_law_take" s_law_take
  law_of : DefAt K mg "_law_of" s_law_of
  law_number : DefAt K mg "_law_number" s_law_number
  law_row : DefAt K mg "_law_row" s_law_row
  law_sights : DefAt K mg "_law_sights" s_law_sights
  law_plus : DefAt K mg "_law_plus" s_law_plus
  law_many : DefAt K mg "_law_many" s_law_many
  law_unit : DefAt K mg "_law_unit" s_law_unit
  law_heard : DefAt K mg "_law_heard" s_law_heard
  law_lists : DefAt K mg "_law_lists" s_law_lists
  law_hour_right : DefAt K mg "_law_hour_right" s_law_hour_right
  law_right : DefAt K mg "_law_right" s_law_right
  law_box : DefAt K mg "_law_box" s_law_box
  law_clock : DefAt K mg "_law_clock" s_law_clock
  law_by_hand_right : DefAt K mg "_law_by_hand_right" s_law_by_hand_right
  law_cells : DefAt K mg "_law_cells" s_law_cells
theorem joined (E : Bl mg) (L : LedAt K mg base T) (ON : OwnX K mg "NoPaper" CN) (OU : OwnX K mg "Unfit" CU) (U : UnfIs K CU) (D : Ds K mg) {f : Addr} {fd : FuncData} (F : FnP K "law" s_law f fd) : FnOk P w K mg base C8.CX0 13 f fd ["_law_script"] (spO T K [] R_law) := by
  have c_tupled : Cal P w K mg base 5 "tupled" (spD T (R_tupled 3)) [] := cal_tupled E D.tupled 3
  have c_whole_lead : Cal P w K mg base 1 "whole_lead" (spD T R_whole_lead) [] := cal_whole_lead E D.whole_lead
  have c_nothing : Cal P w K mg base 1 "nothing" (spD T R_nothing) [] := cal_nothing D.nothing
  have c_unit : Cal P w K mg base 1 "unit" (spD T R_unit) [] := cal_unit E D.unit
  have c_units : Cal P w K mg base 2 "units" (spD T R_units) [] := cal_units E c_unit D.units
  have c_rows_less : Cal P w K mg base 1 "rows_less" (spD T R_rows_less) [] := cal_rows_less E D.rows_less
  have c_row_times : Cal P w K mg base 1 "row_times" (spD T R_row_times) [] := cal_row_times E D.row_times
  have c_rows_plus : Cal P w K mg base 1 "rows_plus" (spD T R_rows_plus) [] := cal_rows_plus E D.rows_plus
  have c_rows_added : Cal P w K mg base 2 "rows_added" (spD T R_rows_added) [] := cal_rows_added E c_nothing c_rows_plus c_row_times D.rows_added
  have c_stepped : Cal P w K mg base 5 "stepped" (spD T R_stepped) [] := cal_stepped E L c_rows_less c_row_times D.stepped
  have c_times_for : Cal P w K mg base 6 "times_for" (spD T R_times_for) [] := cal_times_for E c_nothing c_units c_rows_less c_row_times c_rows_added c_whole_lead c_stepped D.times_for
  have c_is_made : Cal P w K mg base 7 "is_made" (spD T R_is_made) [] := cal_is_made E c_tupled c_times_for D.is_made
  have c_made_by : CalX P w K mg base 7 "made_by" (spX T (R_made_by CN)) := cal_made_by E ON c_tupled c_times_for D.made_by
  have c_halves_of : Cal P w K mg base 6 "halves_of" (spD T R_halves_of) [] := cal_halves_of E c_tupled D.halves_of
  have c_rounds : Cal P w K mg base 3 "rounds" (spD T R_rounds) [] := cal_rounds E c_units c_row_times D.rounds
  have c_columns : Cal P w K mg base 1 "columns" (spD T R_columns) [] := cal_columns E D.columns
  have c_asked_of : Cal P w K mg base 4 "asked_of" (spD T R_asked_of) [] := cal_asked_of E c_columns c_rounds D.asked_of
  have c_fits_size : Cal P w K mg base 8 "fits_size" (spD T R_fits_size) [] := cal_fits_size E c_halves_of c_asked_of c_is_made D.fits_size
  have c_shown : Cal P w K mg base 1 "shown" (spD T R_shown) [] := cal_shown E D.shown
  have c_told_hour : CalX P w K mg base 9 "told_hour" (spX T (R_told_hour CU)) := cal_told_hour E ON OU c_tupled c_halves_of c_rounds c_shown c_fits_size c_made_by D.told_hour
  have c_common_divisor : Cal P w K mg base 1 "common_divisor" (spD T R_common_divisor) [] := cal_common_divisor E D.common_divisor
  have c_law_all_hours : Cal P w K mg base 1 "_law_all_hours" (spD T R_law_all_hours) [] := cal_law_all_hours E D.law_all_hours
  have c_law_dot : Cal P w K mg base 1 "_law_dot" (spD T R_law_dot) [] := cal_law_dot E D.law_dot
  have c_law_show : Cal P w K mg base 2 "_law_show" (spD T R_law_show) [] := cal_law_show E c_law_dot D.law_show
  have c_law_all_that_show : Cal P w K mg base 3 "_law_all_that_show" (spD T R_law_all_that_show) [] := cal_law_all_that_show E c_law_all_hours c_law_show D.law_all_that_show
  have c_law_that_fit : Cal P w K mg base 4 "_law_that_fit" (spD T R_law_that_fit) [] := cal_law_that_fit E c_law_all_that_show c_law_show D.law_that_fit
  have c_law_same : Cal P w K mg base 5 "_law_same" (spD T (R_law_same 3)) [] := cal_law_same E D.law_same 3
  have c_lots_of : Cal P w K mg base 1 "lots_of" (spM T R_lots_of) [] := cal_lots_of E D.lots_of
  have c_least_spot : Cal P w K mg base 1 "least_spot" (spD T R_least_spot) [] := cal_least_spot E D.least_spot
  have c_exchanged : Cal P w K mg base 1 "exchanged" (spM T R_exchanged) [] := cal_exchanged E D.exchanged
  have c_turned_about : Cal P w K mg base 2 "turned_about" (spM T R_turned_about) [] := cal_turned_about E c_columns D.turned_about
  have c_taken_from : Cal P w K mg base 1 "taken_from" (spM T R_taken_from) [] := cal_taken_from E D.taken_from
  have c_cleared : Cal P w K mg base 2 "cleared" (spM T R_cleared) [] := cal_cleared E c_taken_from D.cleared
  have c_first_odd : Cal P w K mg base 1 "first_odd" (spD T R_first_odd) [] := cal_first_odd E D.first_odd
  have c_corner_made : Cal P w K mg base 3 "corner_made" (spM T R_corner_made) [] := cal_corner_made E c_least_spot c_exchanged c_turned_about c_cleared c_first_odd c_taken_from D.corner_made
  have c_diagonal : Cal P w K mg base 6 "diagonal" (spM T R_diagonal) [] := cal_diagonal E c_tupled c_units c_columns c_least_spot c_corner_made D.diagonal
  have c_steps_of : Cal P w K mg base 7 "steps_of" (spD T R_steps_of) [] := cal_steps_of E c_diagonal D.steps_of
  have c_silent_on : Cal P w K mg base 8 "silent_on" (spD T R_silent_on) [] := cal_silent_on E c_common_divisor c_steps_of D.silent_on
  have c_ways_on : Cal P w K mg base 9 "ways_on" (spD T R_ways_on) [] := cal_ways_on E c_tupled c_lots_of c_fits_size c_silent_on c_halves_of D.ways_on
  have c_least_size : Cal P w K mg base 10 "least_size" (spD T R_least_size) [] := cal_least_size E c_ways_on D.least_size
  have c_law_least_right : Cal P w K mg base 11 "_law_least_right" (spD T R_law_least_right) [] := cal_law_least_right E c_law_that_fit c_law_same c_least_size D.law_least_right
  have c_law_take : Cal P w K mg base 1 "_law_take" (spM T R_law_take) [] := cal_law_take E D.law_take
  have c_law_of : Cal P w K mg base 2 "_law_of" (spM T R_law_of) [] := cal_law_of E c_law_take D.law_of
  have c_law_number : Cal P w K mg base 3 "_law_number" (spM T R_law_number) [] := cal_law_number E c_law_of D.law_number
  have c_law_row : Cal P w K mg base 4 "_law_row" (spM T R_law_row) [] := cal_law_row E c_law_number D.law_row
  have c_law_sights : Cal P w K mg base 5 "_law_sights" (spM T R_law_sights) [] := cal_law_sights E c_law_take c_law_of c_law_row D.law_sights
  have c_law_plus : Cal P w K mg base 1 "_law_plus" (spD T R_law_plus) [] := cal_law_plus E D.law_plus
  have c_law_many : Cal P w K mg base 1 "_law_many" (spD T R_law_many) [] := cal_law_many E D.law_many
  have c_law_unit : Cal P w K mg base 1 "_law_unit" (spD T R_law_unit) [] := cal_law_unit E D.law_unit
  have c_law_heard : Cal P w K mg base 10 "_law_heard" (spD T R_law_heard) [] := cal_law_heard E OU U c_told_hour D.law_heard
  have c_law_lists : Cal P w K mg base 5 "_law_lists" (spD T (R_law_lists 3)) [] := cal_law_lists E D.law_lists 3
  have c_law_hour_right : Cal P w K mg base 11 "_law_hour_right" (spD T R_law_hour_right) [] := cal_law_hour_right E c_law_all_that_show c_law_dot c_law_same c_law_heard c_law_lists D.law_hour_right
  have c_law_right : Cal P w K mg base 12 "_law_right" (spM T R_law_right) [] := cal_law_right E c_law_take c_law_sights c_law_row c_law_plus c_law_many c_law_unit c_law_hour_right c_law_least_right c_law_that_fit c_law_same c_ways_on c_law_lists D.law_right
  have c_law_box : Cal P w K mg base 1 "_law_box" (spM T R_law_box) [] := cal_law_box E D.law_box
  have c_law_clock : Cal P w K mg base 1 "_law_clock" (spD T R_law_clock) [] := cal_law_clock D.law_clock
  have c_law_by_hand_right : Cal P w K mg base 11 "_law_by_hand_right" (spM T R_law_by_hand_right) [] := cal_law_by_hand_right E c_law_clock c_told_hour c_law_heard c_ways_on c_least_size c_law_that_fit c_law_same D.law_by_hand_right
  have c_law_cells : Cal P w K mg base 1 "_law_cells" (spO T K [.int 1] R_cells) [] := cal_cells E D.law_cells
  exact ok_law F c_law_by_hand_right c_law_right c_law_box c_law_cells
/-! ### what the head tells -/
theorem defAt_of {fs : List He.Fa} {ds : List He.DefD} (c : He.SaysD fs ds K) (X : K.In h) (G : h.Ns mainGlobals mg) {x : Str} {st : Stmt} (i j : Nat) (h1 : ds[i]? = some (dfn x st)) (h2 : fs[j]? = some (.glo x)) : DefAt K mg x st := by
  obtain ⟨fd, F⟩ := c.def_ i h1
  exact ⟨⟨_, fd, F, He.glo_ok X G (c.fact j h2)⟩⟩
theorem ds_of (c : He.SaysD fa fn K) (X : K.In h) (G : h.Ns mainGlobals mg) : Ds K mg := ⟨defAt_of c X G 0 0 rfl rfl, defAt_of c X G 13 13 rfl rfl, defAt_of c X G 1 1 rfl rfl, defAt_of c X G 2 2 rfl rfl, defAt_of c X G 3 3 rfl rfl, defAt_of c X G 6 6 rfl rfl, defAt_of c X G 7 7 rfl rfl, defAt_of c X G 5 5 rfl rfl, defAt_of c X G 8 8 rfl rfl, defAt_of c X G 12 12 rfl rfl, defAt_of c X G 14 14 rfl rfl, defAt_of c X G 15 15 rfl rfl, defAt_of c X G 16 16 rfl rfl, defAt_of c X G 26 26 rfl rfl, defAt_of c X G 27 27 rfl rfl, defAt_of c X G 9 9 rfl rfl, defAt_of c X G 28 28 rfl rfl, defAt_of c X G 29 29 rfl rfl, defAt_of c X G 4 4 rfl rfl, defAt_of c X G 30 30 rfl rfl, defAt_of c X G 10 10 rfl rfl, defAt_of c X G 45 45 rfl rfl, defAt_of c X G 41 41 rfl rfl, defAt_of c X G 50 50 rfl rfl, defAt_of c X G 51 51 rfl rfl, defAt_of c X G 52 52 rfl rfl, defAt_of c X G 40 40 rfl rfl, defAt_of c X G 32 32 rfl rfl, defAt_of c X G 18 18 rfl rfl, defAt_of c X G 19 19 rfl rfl, defAt_of c X G 17 17 rfl rfl, defAt_of c X G 20 20 rfl rfl, defAt_of c X G 21 21 rfl rfl, defAt_of c X G 22 22 rfl rfl, defAt_of c X G 23 23 rfl rfl, defAt_of c X G 24 24 rfl rfl, defAt_of c X G 25 25 rfl rfl, defAt_of c X G 31 31 rfl rfl, defAt_of c X G 33 33 rfl rfl, defAt_of c X G 34 34 rfl rfl, defAt_of c X G 55 55 rfl rfl, defAt_of c X G 36 36 rfl rfl, defAt_of c X G 38 38 rfl rfl, defAt_of c X G 46 46 rfl rfl, defAt_of c X G 47 47 rfl rfl, defAt_of c X G 49 49 rfl rfl, defAt_of c X G 42 42 rfl rfl, defAt_of c X G 43 43 rfl rfl, defAt_of c X G 44 44 rfl rfl, defAt_of c X G 53 53 rfl rfl, defAt_of c X G 39 39 rfl rfl, defAt_of c X G 54 54 rfl rfl, defAt_of c X G 57 57 rfl rfl, defAt_of c X G 35 35 rfl rfl, defAt_of c X G 48 48 rfl rfl, defAt_of c X G 56 56 rfl rfl, defAt_of c X G 37 37 rfl rfl⟩
theorem bl_of (c : He.SaysD fa fn K) (X : K.In h) (G : h.Ns mainGlobals mg) : Bl mg := ⟨He.free_ok X G (c.fact 59 (f := .free "isinstance") rfl), He.free_ok X G (c.fact 60 (f := .free "list") rfl), He.free_ok X G (c.fact 61 (f := .free "tuple") rfl), He.free_ok X G (c.fact 62 (f := .free "int") rfl), He.free_ok X G (c.fact 63 (f := .free "sum") rfl), He.free_ok X G (c.fact 64 (f := .free "zip") rfl), He.free_ok X G (c.fact 65 (f := .free "range") rfl), He.free_ok X G (c.fact 66 (f := .free "len") rfl), He.free_ok X G (c.fact 67 (f := .free "abs") rfl), He.free_ok X G (c.fact 68 (f := .free "sorted") rfl), He.free_ok X G (c.fact 69 (f := .free "enumerate") rfl), He.free_ok X G (c.fact 70 (f := .free "divmod") rfl), He.free_ok X G (c.fact 71 (f := .free "any") rfl), He.free_ok X G (c.fact 72 (f := .free "all") rfl), He.free_ok X G (c.fact 73 (f := .free "set") rfl), He.free_ok X G (c.fact 74 (f := .free "bool") rfl), He.free_ok X G (c.fact 75 (f := .free "str") rfl), He.free_ok X G (c.fact 76 (f := .free "ValueError") rfl)⟩
theorem own_Unfit (c : He.SaysD fa fn K) (X : K.In h) (G : h.Ns mainGlobals mg) : OwnX K mg "Unfit" (He.ga K "Unfit") := by
  obtain ⟨e1, e2, e3, e4⟩ := He.exc_ok (c.fact 79 (f := .exc "Unfit") rfl)
  exact ⟨e1, He.glo_ok X G (c.fact 77 (f := .glo "Unfit") rfl), e2, e3, e4, He.exm_ok (c.fact 81 (f := .exm "Unfit" "Unfit" true) rfl)⟩
theorem own_NoPaper (c : He.SaysD fa fn K) (X : K.In h) (G : h.Ns mainGlobals mg) : OwnX K mg "NoPaper" (He.ga K "NoPaper") := by
  obtain ⟨e1, e2, e3, e4⟩ := He.exc_ok (c.fact 80 (f := .exc "NoPaper") rfl)
  exact ⟨e1, He.glo_ok X G (c.fact 78 (f := .glo "NoPaper") rfl), e2, e3, e4, He.exm_ok (c.fact 82 (f := .exm "NoPaper" "NoPaper" true) rfl)⟩
theorem unf_of (c : He.SaysD fa fn K) (m : ex K = true) : UnfIs K (He.ga K "Unfit") := by
  obtain ⟨e1, e2, e3, e4⟩ := He.exc_ok (c.fact 79 (f := .exc "Unfit") rfl)
  obtain ⟨m1, m⟩ := He.ba m
  obtain ⟨m2, m⟩ := He.ba m
  obtain ⟨m3, m⟩ := He.ba m
  obtain ⟨m4, m⟩ := He.ba m
  obtain ⟨m5, m⟩ := He.ba m
  obtain ⟨m6, m⟩ := He.ba m
  obtain ⟨m7, m8⟩ := He.ba m
  exact ⟨⟨He.eqO_ok m1, He.eqO_ok m2, e3, m3, He.eqO_ok m4, He.eqO_ok m5, of_decide_eq_true m6, of_decide_eq_true m7⟩, of_decide_eq_true m8⟩
abbrev pLed : He.Defn := ("led_by", none)
def tabT (K : PySem.W.Frag) : Tb := [((He.cT K pLed).2, fun _ _ => q_far)]
theorem led_of (c : He.SaysD fa fn K) (X : K.In h) (G : h.Ns mainGlobals mg) (TB : LamX.TabB base mg (He.cT K pLed).1 (He.cT K pLed).2) : LedAt K mg base (tabT K) := by
  obtain ⟨fd, F⟩ := c.def_ 11 (d := dfn "led_by" s_led) rfl
  refine ⟨⟨He.ga K "led_by", (He.cT K pLed).1, (He.cT K pLed).2, fd, fun _ _ => q_far, F, He.glo_ok X G (c.fact 11 (f := .glo "led_by") rfl), ?_, TB, List.mem_cons_self .., fun _ _ => rfl, fun p hp _ => by rw [List.mem_singleton.mp hp]⟩⟩
  obtain ⟨oc, od, dV, kV, doc, pm, an, cdv, ct, osl, rfl, lk, hcd, _, _⟩ := F.ex
  rintro fd' ⟨oc', od', sl', lk'⟩
  obtain ⟨c0, rfl⟩ := He.codeIn_ref hcd
  have e : He.codeOf K pLed = c0 := He.codeOf_eq lk rfl
  have lk2 : K.lookup (He.fAd K (dfn "led_by" s_led).at_) = some ⟨oc', od', .func fd', sl'⟩ := lk'
  rw [lk] at lk2
  cases lk2
  show Value.ref c0 = .ref (He.codeOf K pLed)
  rw [e]
theorem law_of {l : PySem.W.OpenLaw} {f : Addr} (c : He.SaysX fa fn [] tf ex w h K) (X : K.In h) (G : h.Ns mainGlobals mg) (hf : mg ("law" : Str) = some (.ref f)) : LamX.LawAtS l w K C8.CX0 13 63 "_law_script" mg f h := by
  have d := c.t.d
  obtain ⟨fd, F⟩ := d.def_ 58 (d := dfn "law" s_law) rfl
  have e := hf.symm.trans (He.glo_ok X G (d.fact 58 (f := .glo "law") rfl))
  cases e
  have b := FunD.bindsA (ps := ["_law_script"]) F fun _ _ _ _ _ _ us hl => match us, hl with | [_], _ => rfl
  have one : ∀ p ∈ [He.cT K pLed], p = He.cT K pLed := fun p hp => List.mem_singleton.mp hp
  refine ⟨fd, [He.cT K pLed], spO (tabT K) K [] R_law, fun p hp => ?_, fun p hp => ?_, fun p hp => ?_, fun s v => b s [v] rfl, fun H a ns hl _ hH hS => ?_, fun base kb nb hT => ?_⟩
  · rw [one p hp]
    exact c.empty pLed (List.mem_cons_self ..)
  · rw [one p hp]
    exact c.out pLed (List.mem_cons_self ..)
  · rw [one p hp]
    exact PySem.W.codeHd_of_K X (c.hd pLed (List.mem_cons_self ..))
  · refine ⟨fun _ => none, fun _ => none, a, ns, fun r _ => r = .d (.bool true), (fun b u e => nomatch e), fun p hp => ?_, (fun b ps e => nomatch e), ⟨fun a ds e => nomatch e⟩, rfl, ?_, Nat.le_trans hl (by decide), fun _ => rfl, fun r v μ2 G2 H2 hp _ hv => ?_⟩
    · rw [List.mem_singleton.mp hp]
      exact NdefX.TabN.nil (hH _ (List.mem_cons_self ..))
    · rcases hS with hS | hS
      · exact .inl ⟨hS, rfl⟩
      · exact .inr hS
    · subst hp
      have hv : Dq G2 v (.bool true) := hv
      cases hv
      rfl
  · exact joined (bl_of d kb nb) (led_of d kb nb (hT _ (List.mem_cons_self ..))) (own_NoPaper d kb nb) (own_Unfit d kb nb) (unf_of d c.more) (ds_of d kb nb) F
end
end Sh
open PySem PySem.W PySem.Calls PyProof.Rows
theorem PySem.Challenge.cw_sharesuntold_k34_whole_told_hours_and_wa_holds : PySem.Challenge.rw_sharesuntold_k34_whole_told_hours_and_wa.Holds := by
  w_on; o_law
  refine HandSHeadRun.head_any (r := OpenLaw.row PySem.Challenge.rw_sharesuntold_k34_whole_told_hours_and_wa) (q := view (OpenLaw.row PySem.Challenge.rw_sharesuntold_k34_whole_told_hours_and_wa).prog [65]) (H := Sh.hk) (ob := Sh.ob) (M := 4000) (loose := Sh.loose) (d := HandSHeadRun.topDef (OpenLaw.row PySem.Challenge.rw_sharesuntold_k34_whole_told_hours_and_wa).prog 65) (kwd := []) Sh.ob_eq
    (by kernel_rfl) (fun s => by kernel_rfl) Sh.run (by kernel_rfl) (by kernel_rfl) (by kernel_rfl) (by rfl) (by first | assumption | decide +kernel) (by decide +kernel) ⟨rfl, rfl, rfl, rfl, rfl, by decide +kernel⟩ ?hw ?hc
  case hw => w_witness2
  case hc =>
    refine LamX.walk_ofTsE (l := PySem.Challenge.rw_sharesuntold_k34_whole_told_hours_and_wa) (n := 63) (k := 13) (x := "_law_script") (CX := fun _ => C8.CX0) rfl (by decide) (by kernel_rfl) ⟨rfl, by decide, by decide⟩ ?F (fun _ _ _ _ _ z => z)
    intro w mg fa h Y G hmg0
    obtain ⟨K, KX, c⟩ := Y
    have hmg : mg ("law" : PySem.Str) = some (.ref fa) := by
      have e : (HandSHeadRun.topDef (OpenLaw.row PySem.Challenge.rw_sharesuntold_k34_whole_told_hours_and_wa).prog 65).name = ("law" : PySem.Str) := by kernel_rfl
      rw [← e]
      exact hmg0
    exact ⟨K, KX, Sh.law_of c KX G hmg⟩
