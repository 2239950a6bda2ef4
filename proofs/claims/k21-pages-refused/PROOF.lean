import PyProof.Rows.All
import Wide.All
import OpenK.AllK
import Wide.FinOn
import HandS.ForMost
import HandS.Walk
import HandS.IsInst
import HandS.Zip
import HandS.Wide
import HandS.TupMul
import HandS.Lambda
import HandS.HotCalls
import HandS.ExcIs
import HandS.Flow
import HandS.StrMore
import HandS.Defaults
import HandS.ExcCtx
import HandS.HeadHook1
import KE.GoesMore
import KE.GoesComp
import HandS.EndTab
import HandS.HeadWalk
import HandS.HeadHook4
import KE.KStateDown
import Lean
import HandS.Head0
import HandS.Head1
import HandS.Head2
import HandS.HeadEnd
import PySem.Challenge.RW_steerscreen_k21_pages_refused
set_option Elab.async false
set_option linter.all false
set_option maxRecDepth 100000
set_option maxHeartbeats 4000000
namespace Sc
open PySem PySem.Spec PyProof.Rows L2

/-! ### data in the abstract heap: lists stand in it, tuples stand in it or in the written part -/
mutual
def Da (K : PySem.W.Frag) (H : Hp) : PyData → V → Prop
  | .none, v => v = .non
  | .bool b, v => v = .bl b
  | .int i, v => v = .int i
  | .str x, v => v = .str x
  | .list ds, v => ∃ a xs, v = .ref a ∧ H a = some (.lst xs) ∧ DaL K H ds xs
  | .tuple ds, v => ∃ a xs, v = .ref a ∧ SqT K H a xs ∧ DaL K H ds xs
  | .dict _, _ => False
def DaL (K : PySem.W.Frag) (H : Hp) : List PyData → List V → Prop
  | [], vs => vs = []
  | d :: ds, vs => ∃ w r, vs = w :: r ∧ Da K H d w ∧ DaL K H ds r
end
/-- all that is no table stays -/
abbrev Xt := LamX.ExtN
theorem xt_sqT {K : PySem.W.Frag} {H H' : Hp} {a : Addr} {xs : List V} (e : Xt H H') (h : SqT K H a xs) : SqT K H' a xs := by
  rcases h with (h | ⟨o, h⟩) | h
  · exact .inl (.inl (e _ _ h fun ps z => by cases z))
  · exact .inl (.inr ⟨o, e _ _ h fun ps z => by cases z⟩)
  · exact .inr h
theorem xt_sqL {K : PySem.W.Frag} {H H' : Hp} {a : Addr} {xs : List V} (e : Xt H H') (h : SqL K H a xs) : SqL K H' a xs := by
  rcases h with (h | ⟨o, h⟩) | h
  · exact .inl (.inl (e _ _ h fun ps z => by cases z))
  · exact .inl (.inr ⟨o, e _ _ h fun ps z => by cases z⟩)
  · exact .inr h
mutual
theorem Da.mono {K : PySem.W.Frag} {H H' : Hp} (e : Xt H H') : ∀ {d : PyData} {v : V}, Da K H d v → Da K H' d v
  | .none, _, h => h
  | .bool _, _, h => h
  | .int _, _, h => h
  | .str _, _, h => h
  | .list ds, _, h => by
    obtain ⟨a, xs, h1, h2, h3⟩ := h
    exact ⟨a, xs, h1, e _ _ h2 (fun ps z => by cases z), DaL.mono e h3⟩
  | .tuple ds, _, h => by
    obtain ⟨a, xs, h1, h2, h3⟩ := h
    exact ⟨a, xs, h1, xt_sqT e h2, DaL.mono e h3⟩
  | .dict _, _, h => h
theorem DaL.mono {K : PySem.W.Frag} {H H' : Hp} (e : Xt H H') : ∀ {ds : List PyData} {vs : List V}, DaL K H ds vs → DaL K H' ds vs
  | [], _, h => h
  | d :: ds, _, h => by
    obtain ⟨w, r, h1, h2, h3⟩ := h
    exact ⟨w, r, h1, Da.mono e h2, DaL.mono e h3⟩
end
mutual
theorem Da.dp {K : PySem.W.Frag} {H : Hp} : ∀ {d : PyData} {v : V}, Da K H d v → Dp K H v d
  | .none, _, h => by cases h; exact .non
  | .bool _, _, h => by cases h; exact .bl _
  | .int _, _, h => by cases h; exact .int _
  | .str _, _, h => by cases h; exact .str _
  | .list ds, _, h => by
    obtain ⟨a, xs, h1, h2, h3⟩ := h
    cases h1
    exact .lst (SqL.of h2) (DaL.dp h3)
  | .tuple ds, _, h => by
    obtain ⟨a, xs, h1, h2, h3⟩ := h
    cases h1
    exact .tup h2 (DaL.dp h3)
  | .dict _, _, h => h.elim
theorem DaL.dp {K : PySem.W.Frag} {H : Hp} : ∀ {ds : List PyData} {vs : List V}, DaL K H ds vs → DpAll K H vs ds
  | [], _, h => by cases h; exact .nil
  | d :: ds, _, h => by
    obtain ⟨w, r, h1, h2, h3⟩ := h
    cases h1
    exact .cons (Da.dp h2) (DaL.dp h3)
end
theorem DaL.length {K : PySem.W.Frag} {H : Hp} : ∀ {ds : List PyData} {vs : List V}, DaL K H ds vs → vs.length = ds.length
  | [], _, h => by cases h; rfl
  | d :: ds, _, h => by
    obtain ⟨w, r, h1, _, h3⟩ := h
    cases h1
    exact congrArg Nat.succ (DaL.length h3)
theorem DaL.get {K : PySem.W.Frag} {H : Hp} : ∀ {ds : List PyData} {vs : List V} {i : Nat} {d : PyData}, DaL K H ds vs → ds[i]? = some d → ∃ v, vs[i]? = some v ∧ Da K H d v
  | [], _, _, _, _, e => by simp at e
  | d :: ds, _, 0, _, h, e => by
    obtain ⟨w, r, h1, h2, h3⟩ := h
    cases h1
    have e' : d = _ := Option.some.inj e
    subst e'
    exact ⟨w, rfl, h2⟩
  | d :: ds, _, i + 1, _, h, e => by
    obtain ⟨w, r, h1, h2, h3⟩ := h
    cases h1
    exact DaL.get (i := i) h3 e
theorem DaL.get' {K : PySem.W.Frag} {H : Hp} : ∀ {ds : List PyData} {vs : List V} {i : Nat} {v : V}, DaL K H ds vs → vs[i]? = some v → ∃ d, ds[i]? = some d ∧ Da K H d v
  | [], _, _, _, h, e => by cases h; simp at e
  | d :: ds, _, 0, _, h, e => by
    obtain ⟨w, r, h1, h2, h3⟩ := h
    cases h1
    have e' : w = _ := Option.some.inj e
    subst e'
    exact ⟨d, rfl, h2⟩
  | d :: ds, _, i + 1, _, h, e => by
    obtain ⟨w, r, h1, h2, h3⟩ := h
    cases h1
    exact DaL.get' (i := i) h3 e
theorem DaL.append {K : PySem.W.Frag} {H : Hp} : ∀ {ds es : List PyData} {vs us : List V}, DaL K H ds vs → DaL K H es us → DaL K H (ds ++ es) (vs ++ us)
  | [], _, _, _, h, g => by cases h; exact g
  | d :: ds, _, _, _, h, g => by
    obtain ⟨w, r, h1, h2, h3⟩ := h
    cases h1
    exact ⟨w, _, rfl, h2, DaL.append h3 g⟩
theorem DaL.snoc {K : PySem.W.Frag} {H : Hp} {ds : List PyData} {d : PyData} {vs : List V} {v : V} (h : DaL K H ds vs) (g : Da K H d v) : DaL K H (ds ++ [d]) (vs ++ [v]) := h.append ⟨v, [], rfl, g, rfl⟩
theorem DaL.take {K : PySem.W.Frag} {H : Hp} : ∀ (n : Nat) {ds : List PyData} {vs : List V}, DaL K H ds vs → DaL K H (ds.take n) (vs.take n)
  | 0, _, _, _ => rfl
  | n + 1, [], _, h => by cases h; rfl
  | n + 1, d :: ds, _, h => by
    obtain ⟨w, r, h1, h2, h3⟩ := h
    cases h1
    exact ⟨w, _, rfl, h2, DaL.take n h3⟩
theorem DaL.drop {K : PySem.W.Frag} {H : Hp} : ∀ (n : Nat) {ds : List PyData} {vs : List V}, DaL K H ds vs → DaL K H (ds.drop n) (vs.drop n)
  | 0, _, _, h => h
  | n + 1, [], _, h => by cases h; rfl
  | n + 1, d :: ds, _, h => by
    obtain ⟨w, r, h1, h2, h3⟩ := h
    cases h1
    exact DaL.drop n h3
theorem DaL.set {K : PySem.W.Frag} {H : Hp} {d : PyData} {v : V} (g : Da K H d v) : ∀ (n : Nat) {ds : List PyData} {vs : List V}, DaL K H ds vs → DaL K H (ds.set n d) (vs.set n v)
  | _, [], _, h => by cases h; rfl
  | 0, _ :: ds, _, h => by
    obtain ⟨w, r, h1, h2, h3⟩ := h
    cases h1
    exact ⟨v, r, rfl, g, h3⟩
  | n + 1, _ :: ds, _, h => by
    obtain ⟨w, r, h1, h2, h3⟩ := h
    cases h1
    exact ⟨w, _, rfl, h2, DaL.set g n h3⟩
theorem DaL.rep {K : PySem.W.Frag} {H : Hp} {ds : List PyData} {vs : List V} (h : DaL K H ds vs) : ∀ k : Nat, DaL K H (List.replicate k ds).flatten (List.replicate k vs).flatten
  | 0 => rfl
  | k + 1 => by
    rw [List.replicate_succ, List.replicate_succ, List.flatten_cons, List.flatten_cons]
    exact h.append (DaL.rep h k)
theorem DaL.ints {K : PySem.W.Frag} {H : Hp} : ∀ (ns : List Int), DaL K H (ns.map PyData.int) (ns.map V.int)
  | [] => rfl
  | n :: ns => ⟨.int n, _, rfl, rfl, DaL.ints ns⟩
theorem DaL.bools {K : PySem.W.Frag} {H : Hp} : ∀ {bs : List Bool} {vs : List V}, DaL K H (bs.map PyData.bool) vs → vs = bs.map V.bl
  | [], _, h => h
  | b :: bs, _, h => by
    obtain ⟨w, r, h1, h2, h3⟩ := h
    have h2 : w = V.bl b := h2
    rw [h1, h2, DaL.bools h3]
    rfl

/-! ### the heap without an owner's own things -/
def hid (F : List Addr) (H : Hp) : Hp := fun b => if b ∈ F then none else H b
theorem hid_in {F : List Addr} {H : Hp} {b : Addr} (h : b ∈ F) : hid F H b = none := if_pos h
theorem hid_out {F : List Addr} {H : Hp} {b : Addr} (h : b ∉ F) : hid F H b = H b := if_neg h
theorem hid_nil (H : Hp) : hid [] H = H := funext fun b => if_neg (by simp)
theorem hid_le {F : List Addr} {H : Hp} {b : Addr} {o : HO} (h : hid F H b = some o) : H b = some o ∧ b ∉ F := by
  by_cases hb : b ∈ F
  · rw [hid_in hb] at h; cases h
  · rw [hid_out hb] at h; exact ⟨h, hb⟩
theorem hid_xt {F : List Addr} {H H' : Hp} (e : Xt H H') : Xt (hid F H) (hid F H') := fun b o h n => by
  obtain ⟨h1, h2⟩ := hid_le h
  rw [hid_out h2]
  exact e b o h1 n
theorem hid_sub {F G : List Addr} {H : Hp} (h : ∀ b ∈ F, b ∈ G) : Xt (hid G H) (hid F H) := fun b o e _ => by
  obtain ⟨h1, h2⟩ := hid_le e
  rw [hid_out fun z => h2 (h b z)]
  exact h1
theorem xt_hid {F : List Addr} {H : Hp} : Xt (hid F H) H := fun b o e _ => (hid_le e).1
/-- the owner's things are there, and are no tables -/
def Fd (F : List Addr) (H : Hp) : Prop := ∀ a ∈ F, ∃ o, H a = some o ∧ ∀ ps, o ≠ .tbl ps
theorem Fd.nil {H : Hp} : Fd [] H := fun a h => nomatch h
theorem Fd.mono {F : List Addr} {H H' : Hp} (e : Xt H H') (h : Fd F H) : Fd F H' := fun a ha => let ⟨o, h1, h2⟩ := h a ha; ⟨o, e a o h1 h2, h2⟩
theorem Fd.new {F : List Addr} {H : Hp} (h : Fd F H) {p : Addr} (hp : H p = none) : p ∉ F := fun z => by
  obtain ⟨o, e, _⟩ := h p z
  rw [hp] at e; cases e
theorem Fd.cons {F : List Addr} {H : Hp} {p : Addr} {o : HO} (h : Fd F H) (hp : H p = some o) (hn : ∀ ps, o ≠ .tbl ps) : Fd (p :: F) H := fun a ha => by
  rcases List.mem_cons.mp ha with e | e
  · rw [e]; exact ⟨o, hp, hn⟩
  · exact h a e
theorem hid_upd {F : List Addr} {H : Hp} {p : Addr} {o : HO} (h : p ∉ F) : hid F (upd H p o) = upd (hid F H) p o := by
  funext b
  by_cases hb : b ∈ F
  · have hne : b ≠ p := fun z => h (by rw [← z]; exact hb)
    rw [hid_in hb, upd_ne hne, hid_in hb]
  · rw [hid_out hb]
    unfold upd
    rw [hid_out hb]
theorem same_new {H : Hp} {p : Addr} {o : HO} (h : H p = none) : Same H (upd H p o) := fun b u e => by
  rw [upd_ne (ne_of_none e h)]
  exact e
theorem xt_of {H H' : Hp} (s : Same H H') : Xt H H' := fun b o h _ => s b o h

/-! ### how heaps go on -/
class ROk (R : Hp → Hp → Prop) : Prop where
  refl : ∀ H, R H H
  trans : ∀ {H1 H2 H3}, R H1 H2 → R H2 H3 → R H1 H3
  same : ∀ {H H'}, Same H H' → R H H'
  ext : ∀ {H H'}, R H H' → Xt H H'
  chg : ∀ {H H'} {p : Addr} {xs ys : List V}, H p = none → H' p = some (.lst xs) → R H H' → R H (upd H' p (.lst ys))
instance rok_same : ROk Same := ⟨Same.refl, Same.trans, id, xt_of, fun hp _ s b o e => by
  rw [upd_ne (ne_of_none e hp)]
  exact s b o e⟩

/-! ### what evaluates to what: R how heaps go on, F the owner's things; from every later heap -/
section
variable (R : Hp → Hp → Prop) (K : PySem.W.Frag) (F : List Addr)
def DV (te : TE) (σ : L2.St) (H : Hp) (d : PyData) : Prop := ∀ H1, R H H1 → Fd F H1 → ∀ Q : VK, (∀ v H2, R H1 H2 → Da K (hid F H2) d v → Q v H2) → te σ H1 Q
def VV (te : TE) (σ : L2.St) (H : Hp) (v : V) : Prop := ∀ H1, R H H1 → Fd F H1 → ∀ Q : VK, (∀ H2, R H1 H2 → Q v H2) → te σ H1 Q
def DT (tt : TT) (σ : L2.St) (H : Hp) (b : Bool) : Prop := ∀ H1, R H H1 → Fd F H1 → ∀ Q : Bool → Hp → Prop, (∀ H2, R H1 H2 → Q b H2) → tt σ H1 Q
def DA (ta : TA) (σ : L2.St) (H : Hp) (ds : List PyData) : Prop := ∀ H1, R H H1 → Fd F H1 → ∀ Q : List V → Hp → Prop, (∀ vs H2, R H1 H2 → DaL K (hid F H2) ds vs → Q vs H2) → ta σ H1 Q
def DO (to : TO) (σ : L2.St) (H : Hp) (o : Option Int) : Prop := ∀ H1, R H H1 → Fd F H1 → ∀ Q : Option Int → Hp → Prop, (∀ H2, R H1 H2 → Q o H2) → to σ H1 Q
/-- a def's promise: of these data that datum -/
def SD (sp : Sp) (ds : List PyData) (d : PyData) : Prop := ∀ (F : List Addr) (vs : List V) (H : Hp), Fd F H → DaL K (hid F H) ds vs → ∀ (Q : VK) (E : XK), (∀ v H', Same H H' → Da K (hid F H') d v → Q v H') → sp vs H Q E
end
section
variable {R : Hp → Hp → Prop} [ROk R] {K : PySem.W.Frag} {F : List Addr} {σ : L2.St} {H H' : Hp} {ta tb te : TE} {d : PyData} {v : V}
theorem r_refl (H : Hp) : R H H := ROk.refl H
theorem r_da {d : PyData} {v : V} (r : R H H') (h : Da K (hid F H) d v) : Da K (hid F H') d v := h.mono (hid_xt (ROk.ext r))
theorem r_dal {ds : List PyData} {vs : List V} (r : R H H') (h : DaL K (hid F H) ds vs) : DaL K (hid F H') ds vs := h.mono (hid_xt (ROk.ext r))
theorem r_fd (r : R H H') (h : Fd F H) : Fd F H' := h.mono (ROk.ext r)
theorem r_new {H : Hp} {p : Addr} {o : HO} (h : H p = none) : R H (upd H p o) := ROk.same (same_new h)
theorem DV.mono (r : R H H') (h : DV R K F te σ H d) : DV R K F te σ H' d := fun H1 a => h H1 (ROk.trans r a)
theorem DA.mono {ta : TA} {ds : List PyData} (r : R H H') (h : DA R K F ta σ H ds) : DA R K F ta σ H' ds := fun H1 a => h H1 (ROk.trans r a)
theorem DT.mono {t : TT} {b : Bool} (r : R H H') (h : DT R F t σ H b) : DT R F t σ H' b := fun H1 a => h H1 (ROk.trans r a)
theorem VV.mono (r : R H H') (h : VV R F te σ H v) : VV R F te σ H' v := fun H1 a => h H1 (ROk.trans r a)
/-- a datum that is its value -/
def sclV : PyData → Option V
  | .none => some .non
  | .bool b => some (.bl b)
  | .int i => some (.int i)
  | .str x => some (.str x)
  | _ => none
theorem scl_eq {H : Hp} (h : sclV d = some v) {w : V} : Da K H d w ↔ w = v := by
  cases d <;> simp only [sclV] at h <;> cases h <;> exact Iff.rfl
theorem VV.dv (h : VV R F te σ H v) (e : sclV d = some v) : DV R K F te σ H d := fun H1 a f Q q => h H1 a f Q fun H2 r => q v H2 r ((scl_eq e).mpr rfl)
theorem DV.vv (h : DV R K F te σ H d) (e : sclV d = some v) : VV R F te σ H v := fun H1 a f Q q => h H1 a f Q fun w H2 r z => by
  rw [(scl_eq e).mp z]
  exact q H2 r
/-- a value that is known -/
theorem VV.da (h : VV R F te σ H v) (e : Da K (hid F H) d v) : DV R K F te σ H d := fun H1 a f Q q => h H1 a f Q fun H2 r => q v H2 r (r_da (ROk.trans a r) e)
theorem vv_var {i : Nat} (h : σ[i]? = some (some v)) : VV R F (tVar i) σ H v := fun H1 _ _ _ q => ⟨v, h, q H1 (r_refl H1)⟩
theorem vv_c : VV R F (tC v) σ H v := fun H1 _ _ _ q => q H1 (r_refl H1)
theorem dv_var {i : Nat} (h : σ[i]? = some (some v)) (e : Da K (hid F H) d v) : DV R K F (tVar i) σ H d := (vv_var h).da e
theorem dv_c (e : Da K (hid F H) d v) : DV R K F (tC v) σ H d := vv_c.da e
theorem dv_int {i : Int} : DV R K F (tC (.int i)) σ H (.int i) := vv_c.dv rfl
theorem dv_str {x : Str} : DV R K F (tC (.str x)) σ H (.str x) := vv_c.dv rfl
theorem dv_bl {b : Bool} : DV R K F (tC (.bl b)) σ H (.bool b) := vv_c.dv rfl
theorem dv_non : DV R K F (tC .non) σ H .none := vv_c.dv rfl
/-! arguments, displays -/
theorem da_nil : DA R K F tNil σ H [] := fun H1 _ _ _ q => q [] H1 (r_refl H1) rfl
theorem da_cons {tr : TA} {ds : List PyData} (h : DV R K F ta σ H d) (hr : DA R K F tr σ H ds) : DA R K F (tCons ta tr) σ H (d :: ds) := fun H1 a f _ q =>
  h H1 a f _ fun v H2 r2 hv => hr H2 (ROk.trans a r2) (r_fd r2 f) _ fun vs H3 r3 hvs => q (v :: vs) H3 (ROk.trans r2 r3) ⟨v, vs, rfl, r_da r3 hv, hvs⟩
theorem da_new {H : Hp} {p : Addr} {ds : List PyData} {vs : List V} (f : Fd F H) (hp : H p = none) (h : DaL K (hid F H) ds vs) : Da K (hid F (upd H p (.lst vs))) (.list ds) (.ref p) :=
  ⟨p, vs, rfl, by rw [hid_upd (f.new hp), upd_same], h.mono (hid_xt (xt_of (same_new hp)))⟩
theorem da_newT {H : Hp} {p : Addr} {ds : List PyData} {vs : List V} (f : Fd F H) (hp : H p = none) (h : DaL K (hid F H) ds vs) : Da K (hid F (upd H p (.tup vs))) (.tuple ds) (.ref p) :=
  ⟨p, vs, rfl, SqT.of (by rw [hid_upd (f.new hp), upd_same]), h.mono (hid_xt (xt_of (same_new hp)))⟩
theorem dv_tup {ta : TA} {ds : List PyData} (h : DA R K F ta σ H ds) (hl : ds.length ≤ sizeLine) : DV R K F (tTup ta) σ H (.tuple ds) := fun H1 a f _ q =>
  h H1 a f _ fun vs H2 r2 hv => ⟨by rw [hv.length]; exact hl, fun p hp => q _ _ (ROk.trans r2 (r_new hp)) (da_newT (r_fd r2 f) hp hv)⟩
theorem dv_lst {ta : TA} {ds : List PyData} (h : DA R K F ta σ H ds) (hl : ds.length ≤ sizeLine) : DV R K F (tLst ta) σ H (.list ds) := fun H1 a f _ q =>
  h H1 a f _ fun vs H2 r2 hv => ⟨by rw [hv.length]; exact hl, fun p hp => q _ _ (ROk.trans r2 (r_new hp)) (da_new (r_fd r2 f) hp hv)⟩
/-! operators -/
theorem dv_op2 {r : R2} {d1 d2 : PyData} (ha : DV R K F ta σ H d1) (hb : DV R K F tb σ H d2)
    (hr : ∀ x y H1 Q, R H H1 → Fd F H1 → Da K (hid F H1) d1 x → Da K (hid F H1) d2 y → (∀ v H2, R H1 H2 → Da K (hid F H2) d v → Q v H2) → r x y H1 Q) : DV R K F (tOp r ta tb) σ H d := fun H1 a f Q q =>
  ha H1 a f _ fun x H2 r2 hx => hb H2 (ROk.trans a r2) (r_fd r2 f) _ fun y H3 r3 hy => hr x y H3 Q (ROk.trans a (ROk.trans r2 r3)) (r_fd r3 (r_fd r2 f)) (r_da r3 hx) hy fun v H4 r4 hv => q v H4 (ROk.trans (ROk.trans r2 r3) r4) hv
/-- an operation on values that leaves the heap -/
theorem dv_op {r : R2} {d1 d2 : PyData} {x y z : V} (ha : DV R K F ta σ H d1) (hb : DV R K F tb σ H d2) (e1 : sclV d1 = some x) (e2 : sclV d2 = some y) (e : sclV d = some z) (hr : ∀ H1 (Q : VK), Q z H1 → r x y H1 Q) : DV R K F (tOp r ta tb) σ H d :=
  dv_op2 ha hb fun x' y' H1 Q _ f hx hy q => by
    rw [(scl_eq e1).mp hx, (scl_eq e2).mp hy]
    exact hr H1 Q (q z H1 (r_refl H1) ((scl_eq e).mpr rfl))
/-! + - * // % -/
def rPlus (K : PySem.W.Frag) : R2 := fun x y H Q => rI0 (fun i j => V.int (i + j)) x y H Q ∨ (∃ i j, x = .str i ∧ y = .str j ∧ i.length + j.length ≤ sizeLine ∧ Q (.str (i ++ j)) H) ∨ rCat x y H Q ∨ rCatT K x y H Q
def rTimes (K : PySem.W.Frag) : R2 := fun x y H Q => rI CMul (fun i j => V.int (i * j)) x y H Q ∨ rI CMulW (fun i j => V.int (i * j)) x y H Q ∨ rRep x y H Q ∨ rRepT K x y H Q
def rLeq : R2 := fun x y H Q => rI0 (fun i j => V.bl (decide (i ≤ j))) x y H Q ∨ (∃ i j, x = .str i ∧ y = .str j ∧ Q (.bl (!decide (j.cps.toList < i.cps.toList))) H)
theorem dv_addI {i j : Int} (ha : DV R K F ta σ H (.int i)) (hb : DV R K F tb σ H (.int j)) : DV R K F (tOp (rPlus K) ta tb) σ H (.int (i + j)) :=
  dv_op ha hb rfl rfl rfl fun H1 Q q => .inl ⟨i, j, rfl, rfl, q⟩
theorem dv_addS {x y : Str} (ha : DV R K F ta σ H (.str x)) (hb : DV R K F tb σ H (.str y)) (hl : x.length + y.length ≤ sizeLine) : DV R K F (tOp (rPlus K) ta tb) σ H (.str (x ++ y)) :=
  dv_op ha hb rfl rfl rfl fun H1 Q q => .inr (.inl ⟨x, y, rfl, rfl, hl, q⟩)
theorem dv_addL {ds es : List PyData} (ha : DV R K F ta σ H (.list ds)) (hb : DV R K F tb σ H (.list es)) (hl : ds.length + es.length ≤ sizeLine) : DV R K F (tOp (rPlus K) ta tb) σ H (.list (ds ++ es)) :=
  dv_op2 ha hb fun x y H1 Q _ f ⟨a, xs, e1, h1, l1⟩ ⟨b, ys, e2, h2, l2⟩ q => .inr (.inr (.inl ⟨a, b, xs, ys, e1, e2, (hid_le h1).1, (hid_le h2).1, by rw [l1.length, l2.length]; exact hl, fun p hp => q _ _ (r_new hp) (da_new f hp (l1.append l2))⟩))
theorem dv_subI {i j : Int} (ha : DV R K F ta σ H (.int i)) (hb : DV R K F tb σ H (.int j)) : DV R K F (tOp (rI0 fun i j => V.int (i - j)) ta tb) σ H (.int (i - j)) :=
  dv_op ha hb rfl rfl rfl fun H1 Q q => ⟨i, j, rfl, rfl, q⟩
theorem dv_mulI {i j : Int} (ha : DV R K F ta σ H (.int i)) (hb : DV R K F tb σ H (.int j)) (hc : CMul i j ∨ CMulW i j) : DV R K F (tOp (rTimes K) ta tb) σ H (.int (i * j)) :=
  dv_op ha hb rfl rfl rfl fun H1 Q q => hc.elim (fun c => .inl ⟨i, j, rfl, rfl, c, q⟩) fun c => .inr (.inl ⟨i, j, rfl, rfl, c, q⟩)
theorem dv_repL {ds : List PyData} {k : Int} (ha : DV R K F ta σ H (.list ds)) (hb : DV R K F tb σ H (.int k)) (h0 : -(2 ^ 63) ≤ k) (h1 : k < 2 ^ 63) (hl : ds.length * k.toNat ≤ sizeLine) : DV R K F (tOp (rTimes K) ta tb) σ H (.list (List.replicate k.toNat ds).flatten) :=
  dv_op2 ha hb fun x y H1 Q _ f ⟨a, xs, e1, g1, l1⟩ e2 q => .inr (.inr (.inl ⟨a, k, xs, e1, e2, (hid_le g1).1, h0, h1, by rw [l1.length]; exact hl, fun p hp => q _ _ (r_new hp) (da_new f hp (l1.rep _))⟩))
theorem dv_repT {ds : List PyData} {k : Int} (ha : DV R K F ta σ H (.tuple ds)) (hb : DV R K F tb σ H (.int k)) (hd : ds ≠ []) (h0 : 2 ≤ k) (h1 : k ≤ 1000) (hl : ds.length ≤ 1000) : DV R K F (tOp (rTimes K) ta tb) σ H (.tuple (List.replicate k.toNat ds).flatten) :=
  dv_op2 ha hb fun x y H1 Q _ f ⟨a, xs, e1, g1, l1⟩ e2 q => .inr (.inr (.inr ⟨a, k, xs, e1, e2, xt_sqT xt_hid g1, fun z => hd (List.length_eq_zero_iff.mp (by rw [← l1.length, z]; rfl)), h0, h1, by rw [l1.length]; exact hl, fun p hp => q _ _ (r_new hp) (da_newT f hp (l1.rep _))⟩))
theorem dv_mod {i j : Int} (ha : DV R K F ta σ H (.int i)) (hb : DV R K F tb σ H (.int j)) (hc : 0 < j) : DV R K F (tOp (rI (fun _ j => 0 < j) fun i j => V.int (i % j)) ta tb) σ H (.int (i % j)) :=
  dv_op ha hb rfl rfl rfl fun H1 Q q => ⟨i, j, rfl, rfl, hc, q⟩
theorem dv_div {i j : Int} (ha : DV R K F ta σ H (.int i)) (hb : DV R K F tb σ H (.int j)) (hc : CDivW i j) : DV R K F (tOp (rI CDivW fun i j => V.int (i / j)) ta tb) σ H (.int (i / j)) :=
  dv_op ha hb rfl rfl rfl fun H1 Q q => ⟨i, j, rfl, rfl, hc, q⟩
theorem dv_neg {i : Int} (ha : DV R K F ta σ H (.int i)) : DV R K F (tUn (rU fun i => V.int (-i)) ta) σ H (.int (-i)) := fun H1 a f Q q =>
  ha H1 a f _ fun v H2 r hv => ⟨i, hv, q _ H2 r rfl⟩
/-! comparisons -/
theorem dv_lt {i j : Int} (ha : DV R K F ta σ H (.int i)) (hb : DV R K F tb σ H (.int j)) : DV R K F (tOp (rI0 fun i j => V.bl (decide (i < j))) ta tb) σ H (.bool (decide (i < j))) :=
  dv_op ha hb rfl rfl rfl fun H1 Q q => ⟨i, j, rfl, rfl, q⟩
theorem dv_gt {i j : Int} (ha : DV R K F ta σ H (.int i)) (hb : DV R K F tb σ H (.int j)) : DV R K F (tOp (rI0 fun i j => V.bl (decide (j < i))) ta tb) σ H (.bool (decide (j < i))) :=
  dv_op ha hb rfl rfl rfl fun H1 Q q => ⟨i, j, rfl, rfl, q⟩
theorem dv_ge {i j : Int} (ha : DV R K F ta σ H (.int i)) (hb : DV R K F tb σ H (.int j)) : DV R K F (tOp (rI0 fun i j => V.bl (decide (j ≤ i))) ta tb) σ H (.bool (decide (j ≤ i))) :=
  dv_op ha hb rfl rfl rfl fun H1 Q q => ⟨i, j, rfl, rfl, q⟩
theorem dv_le {i j : Int} (ha : DV R K F ta σ H (.int i)) (hb : DV R K F tb σ H (.int j)) : DV R K F (tOp rLeq ta tb) σ H (.bool (decide (i ≤ j))) :=
  dv_op ha hb rfl rfl rfl fun H1 Q q => .inl ⟨i, j, rfl, rfl, q⟩
theorem dv_leS {x y : Str} (ha : DV R K F ta σ H (.str x)) (hb : DV R K F tb σ H (.str y)) : DV R K F (tOp rLeq ta tb) σ H (.bool (!decide (y.cps.toList < x.cps.toList))) :=
  dv_op ha hb rfl rfl rfl fun H1 Q q => .inr ⟨x, y, rfl, rfl, q⟩
def rEqA (K : PySem.W.Frag) : R2 := fun x y H Q => rEq x y H Q ∨ rEqD K x y H Q
def rNeA (K : PySem.W.Frag) : R2 := fun x y H Q => rNe x y H Q ∨ rNeD K x y H Q
theorem dv_eqI {i j : Int} (ha : DV R K F ta σ H (.int i)) (hb : DV R K F tb σ H (.int j)) : DV R K F (tOp (rEqA K) ta tb) σ H (.bool (decide (i = j))) :=
  dv_op ha hb rfl rfl rfl fun H1 Q q => .inl ⟨rfl, by
    show Q (.bl (decide (V.int i = V.int j))) H1
    rw [dec_int, Bool.beq_eq_decide_eq]
    exact q⟩
theorem dv_eqS {i j : Str} (ha : DV R K F ta σ H (.str i)) (hb : DV R K F tb σ H (.str j)) : DV R K F (tOp (rEqA K) ta tb) σ H (.bool (decide (i = j))) :=
  dv_op ha hb rfl rfl rfl fun H1 Q q => .inl ⟨rfl, by
    show Q (.bl (decide (V.str i = V.str j))) H1
    rw [dec_str, Bool.beq_eq_decide_eq]
    exact q⟩
theorem dv_neI {i j : Int} (ha : DV R K F ta σ H (.int i)) (hb : DV R K F tb σ H (.int j)) : DV R K F (tOp (rNeA K) ta tb) σ H (.bool (!decide (i = j))) :=
  dv_op ha hb rfl rfl rfl fun H1 Q q => .inl ⟨rfl, by
    show Q (.bl (!decide (V.int i = V.int j))) H1
    rw [dec_int, Bool.beq_eq_decide_eq]
    exact q⟩
theorem dv_neS {i j : Str} (ha : DV R K F ta σ H (.str i)) (hb : DV R K F tb σ H (.str j)) : DV R K F (tOp (rNeA K) ta tb) σ H (.bool (!decide (i = j))) :=
  dv_op ha hb rfl rfl rfl fun H1 Q q => .inl ⟨rfl, by
    show Q (.bl (!decide (V.str i = V.str j))) H1
    rw [dec_str, Bool.beq_eq_decide_eq]
    exact q⟩
theorem dv_eq {d1 d2 : PyData} (ha : DV R K F ta σ H d1) (hb : DV R K F tb σ H d2) (s1 : SeqAt.shaped d1 = true) (s2 : SeqAt.shaped d2 = true) : DV R K F (tOp (rEqA K) ta tb) σ H (.bool (PyData.eqv d1 d2)) :=
  dv_op2 ha hb fun x y H1 Q _ f hx hy q => .inr ⟨d1, d2, (hx.mono xt_hid).dp, (hy.mono xt_hid).dp, s1, s2, q _ H1 (r_refl H1) rfl⟩
theorem dv_ne {d1 d2 : PyData} (ha : DV R K F ta σ H d1) (hb : DV R K F tb σ H d2) (s1 : SeqAt.shaped d1 = true) (s2 : SeqAt.shaped d2 = true) : DV R K F (tOp (rNeA K) ta tb) σ H (.bool (!PyData.eqv d1 d2)) :=
  dv_op2 ha hb fun x y H1 Q _ f hx hy q => .inr ⟨d1, d2, (hx.mono xt_hid).dp, (hy.mono xt_hid).dp, s1, s2, q _ H1 (r_refl H1) rfl⟩
/-- a chain a <= b <= c, by values -/
theorem dv_chain {tc : TE} {r r' : R2} {d1 d2 d3 : PyData} {x y z : V} {b1 b2 : Bool} (ha : DV R K F ta σ H d1) (hb : DV R K F tb σ H d2) (hc : b1 = true → DV R K F tc σ H d3) (e1 : sclV d1 = some x) (e2 : sclV d2 = some y) (e3 : sclV d3 = some z)
    (h1 : ∀ H1 (Q : VK), Q (.bl b1) H1 → r x y H1 Q) (h2 : b1 = true → ∀ H1 (Q : VK), Q (.bl b2) H1 → r' y z H1 Q) : DV R K F (tChain r r' ta tb tc) σ H (.bool (b1 && b2)) := fun H1 a f Q q =>
  ha H1 a f _ fun x' H2 r2 hx => hb H2 (ROk.trans a r2) (r_fd r2 f) _ fun y' H3 r3 hy => by
    rw [(scl_eq e1).mp hx, (scl_eq e2).mp hy]
    refine h1 H3 _ ⟨b1, rfl, ?_⟩
    cases b1 with
    | false => exact q _ H3 (ROk.trans r2 r3) rfl
    | true =>
      refine hc rfl H3 (ROk.trans a (ROk.trans r2 r3)) (r_fd r3 (r_fd r2 f)) _ fun w H4 r4 hw => ?_
      rw [(scl_eq e3).mp hw]
      exact h2 rfl H4 _ (q _ H4 (ROk.trans (ROk.trans r2 r3) r4) rfl)
theorem dv_chLe {tc : TE} {i j k : Int} (ha : DV R K F ta σ H (.int i)) (hb : DV R K F tb σ H (.int j)) (hc : DV R K F tc σ H (.int k)) : DV R K F (tChain rLeq rLeq ta tb tc) σ H (.bool (decide (i ≤ j) && decide (j ≤ k))) :=
  dv_chain ha hb (fun _ => hc) rfl rfl rfl (fun _ _ q => .inl ⟨i, j, rfl, rfl, q⟩) fun _ _ _ q => .inl ⟨j, k, rfl, rfl, q⟩
theorem dv_chLeS {tc : TE} {i j k : Str} (ha : DV R K F ta σ H (.str i)) (hb : DV R K F tb σ H (.str j)) (hc : DV R K F tc σ H (.str k)) : DV R K F (tChain rLeq rLeq ta tb tc) σ H (.bool (!decide (j.cps.toList < i.cps.toList) && !decide (k.cps.toList < j.cps.toList))) :=
  dv_chain ha hb (fun _ => hc) rfl rfl rfl (fun _ _ q => .inr ⟨i, j, rfl, rfl, q⟩) fun _ _ _ q => .inr ⟨j, k, rfl, rfl, q⟩
/-! subscripts, slices, len -/
theorem dv_ixL {ds : List PyData} {i : Int} (ha : DV R K F ta σ H (.list ds)) (hb : DV R K F tb σ H (.int i)) (he : atI ds i = some d) : DV R K F (tOp (rIx K) ta tb) σ H d :=
  dv_op2 ha hb fun x y H1 Q _ f ⟨a, xs, e1, g1, l1⟩ e2 q => by
    obtain ⟨j, h1, h2⟩ : ∃ j, ixN ds.length i = some j ∧ ds[j]? = some d := by
      unfold atI at he
      cases e : ixN ds.length i with
      | none => rw [e] at he; cases he
      | some j => rw [e] at he; exact ⟨j, rfl, he⟩
    obtain ⟨v, g2, g3⟩ := l1.get h2
    exact .inl ⟨a, xs, i, v, e1, e2, SqL.of (hid_le g1).1, by unfold atI; rw [l1.length, h1]; exact g2, q v H1 (r_refl H1) g3⟩
theorem dv_ixT {ds : List PyData} {i : Int} (ha : DV R K F ta σ H (.tuple ds)) (hb : DV R K F tb σ H (.int i)) (he : atI ds i = some d) : DV R K F (tOp (rIx K) ta tb) σ H d :=
  dv_op2 ha hb fun x y H1 Q _ f ⟨a, xs, e1, g1, l1⟩ e2 q => by
    obtain ⟨j, h1, h2⟩ : ∃ j, ixN ds.length i = some j ∧ ds[j]? = some d := by
      unfold atI at he
      cases e : ixN ds.length i with
      | none => rw [e] at he; cases he
      | some j => rw [e] at he; exact ⟨j, rfl, he⟩
    obtain ⟨v, g2, g3⟩ := l1.get h2
    exact .inr (.inl ⟨a, xs, i, v, e1, e2, xt_sqT xt_hid g1, by unfold atI; rw [l1.length, h1]; exact g2, q v H1 (r_refl H1) g3⟩)
theorem dv_ixS {x : Str} {i : Int} {c : Nat} (ha : DV R K F ta σ H (.str x)) (hb : DV R K F tb σ H (.int i)) (hl : x.length ≤ sizeLine) (he : atI x.cps.toList i = some c) : DV R K F (tOp (rIx K) ta tb) σ H (.str ⟨#[c]⟩) :=
  dv_op ha hb rfl rfl rfl fun H1 Q q => .inr (.inr ⟨x, i, c, rfl, rfl, hl, he, q⟩)
theorem do_none : DO R F tNoPart σ H none := fun H1 _ _ _ q => q H1 (r_refl H1)
theorem do_some {i : Int} (h : DV R K F te σ H (.int i)) : DO R F (tPart te) σ H (some i) := fun H1 a f _ q => h H1 a f _ fun v H2 r hv => ⟨i, hv, q H2 r⟩
def rSli (K : PySem.W.Frag) : V → Option Int → Option Int → Hp → VK → Prop := fun x lo hi H Q => rSlL K x lo hi H Q ∨ rSlS x lo hi H Q ∨ rSlT K x lo hi H Q
/-- the items of ds[lo:hi] -/
def cutD (ds : List PyData) (lo hi : Option Int) : List PyData := (ds.drop (HT.sIx ds.length 0 lo)).take (HT.sIx ds.length ds.length hi - HT.sIx ds.length 0 lo)
theorem dal_cut {H : Hp} {ds : List PyData} {vs : List V} (h : DaL K H ds vs) (lo hi : Option Int) : DaL K H (cutD ds lo hi) (cutV vs lo hi) := by
  unfold cutD cutV
  rw [h.length]
  exact (h.drop _).take _
theorem dv_slL {tl th : TO} {ds : List PyData} {lo hi : Option Int} (h : DV R K F te σ H (.list ds)) (h1 : DO R F tl σ H lo) (h2 : DO R F th σ H hi) : DV R K F (tSl (rSli K) te tl th) σ H (.list (cutD ds lo hi)) := fun H1 a f Q q =>
  h H1 a f _ fun x H2 r2 hx => h1 H2 (ROk.trans a r2) (r_fd r2 f) _ fun H3 r3 => h2 H3 (ROk.trans (ROk.trans a r2) r3) (r_fd r3 (r_fd r2 f)) _ fun H4 r4 => by
    obtain ⟨b, xs, e1, g1, l1⟩ := r_da (ROk.trans r3 r4) hx
    exact .inl ⟨b, xs, e1, SqL.of (hid_le g1).1, fun p hp => q _ _ (ROk.trans (ROk.trans r2 (ROk.trans r3 r4)) (r_new hp)) (da_new (r_fd r4 (r_fd r3 (r_fd r2 f))) hp (dal_cut l1 lo hi))⟩
theorem dv_slS {tl th : TO} {x : Str} {lo hi : Option Int} (h : DV R K F te σ H (.str x)) (h1 : DO R F tl σ H lo) (h2 : DO R F th σ H hi) (hl : x.length ≤ sizeLine) : DV R K F (tSl (rSli K) te tl th) σ H (.str (cutS x lo hi)) := fun H1 a f Q q =>
  h H1 a f _ fun v H2 r2 hx => h1 H2 (ROk.trans a r2) (r_fd r2 f) _ fun H3 r3 => h2 H3 (ROk.trans (ROk.trans a r2) r3) (r_fd r3 (r_fd r2 f)) _ fun H4 r4 =>
    .inr (.inl ⟨x, hx, hl, q _ H4 (ROk.trans r2 (ROk.trans r3 r4)) rfl⟩)
def rLn (K : PySem.W.Frag) : List V → Hp → VK → Prop := fun xs H Q => ∃ x n, xs = [x] ∧ LenV K x H n ∧ Q (.int n) H
theorem dv_cb {r : List V → Hp → VK → Prop} {ta : TA} {ds : List PyData} (h : DA R K F ta σ H ds) (hr : ∀ vs H1 (Q : VK), R H H1 → Fd F H1 → DaL K (hid F H1) ds vs → (∀ v H2, R H1 H2 → Da K (hid F H2) d v → Q v H2) → r vs H1 Q) : DV R K F (tCB r ta) σ H d := fun H1 a f Q q =>
  h H1 a f _ fun vs H2 r2 hv => hr vs H2 Q (ROk.trans a r2) (r_fd r2 f) hv fun v H3 r3 g => q v H3 (ROk.trans r2 r3) g
theorem dal1 {H : Hp} {vs : List V} (h : DaL K H [d] vs) : ∃ v, vs = [v] ∧ Da K H d v := by
  obtain ⟨w, r, h1, h2, h3⟩ := h
  exact ⟨w, by rw [h1, show r = [] from h3], h2⟩
theorem dal2 {H : Hp} {d2 : PyData} {vs : List V} (h : DaL K H [d, d2] vs) : ∃ v u, vs = [v, u] ∧ Da K H d v ∧ Da K H d2 u := by
  obtain ⟨w, r, h1, h2, h3⟩ := h
  obtain ⟨u, e, h4⟩ := dal1 h3
  exact ⟨w, u, by rw [h1, e], h2, h4⟩
theorem dv_lenL {ds : List PyData} (h : DV R K F ta σ H (.list ds)) : DV R K F (tCB (rLn K) (tCons ta tNil)) σ H (.int ds.length) :=
  dv_cb (da_cons h da_nil) fun vs H1 Q _ f hv q => by
    obtain ⟨v, rfl, a, xs, rfl, g, l⟩ := dal1 hv
    exact ⟨_, xs.length, rfl, .inl ⟨xs, SqL.of (hid_le g).1, rfl⟩, q _ H1 (r_refl H1) (by rw [l.length]; rfl)⟩
theorem dv_lenT {ds : List PyData} (h : DV R K F ta σ H (.tuple ds)) : DV R K F (tCB (rLn K) (tCons ta tNil)) σ H (.int ds.length) :=
  dv_cb (da_cons h da_nil) fun vs H1 Q _ f hv q => by
    obtain ⟨v, rfl, a, xs, rfl, g, l⟩ := dal1 hv
    exact ⟨_, xs.length, rfl, .inr ⟨xs, xt_sqT xt_hid g, rfl⟩, q _ H1 (r_refl H1) (by rw [l.length]; rfl)⟩
theorem dv_lenS {x : Str} (h : DV R K F ta σ H (.str x)) (hl : x.length ≤ sizeLine) : DV R K F (tCB (rLn K) (tCons ta tNil)) σ H (.int x.length) :=
  dv_cb (da_cons h da_nil) fun vs H1 Q _ f hv q => by
    obtain ⟨v, rfl, e⟩ := dal1 hv
    have e : v = .str x := e
    subst e
    exact ⟨_, x.length, rfl, ⟨hl, rfl⟩, q _ H1 (r_refl H1) rfl⟩
/-! tests -/
theorem dt_test {b : Bool} (h : DV R K F te σ H (.bool b)) : DT R F (tTest te) σ H b := fun H1 a f _ q => h H1 a f _ fun v H2 r hv => ⟨b, hv, q H2 r⟩
theorem dt_B {b : Bool} (h : DV R K F te σ H (.bool b)) : DT R F (tB te) σ H b := fun H1 a f _ q => h H1 a f _ fun v H2 r hv => ⟨b, hv, q H2 r⟩
theorem dt_and {t u : TT} {a b : Bool} (h1 : DT R F t σ H a) (h2 : a = true → DT R F u σ H b) : DT R F (tAnd t u) σ H (a && b) := fun H1 e f Q q => h1 H1 e f _ fun H2 r2 => by
  cases a with
  | true => exact h2 rfl H2 (ROk.trans e r2) (r_fd r2 f) Q fun H3 r3 => q H3 (ROk.trans r2 r3)
  | false => exact q H2 r2
theorem dt_or {t u : TT} {a b : Bool} (h1 : DT R F t σ H a) (h2 : a = false → DT R F u σ H b) : DT R F (tOr t u) σ H (a || b) := fun H1 e f Q q => h1 H1 e f _ fun H2 r2 => by
  cases a with
  | false => exact h2 rfl H2 (ROk.trans e r2) (r_fd r2 f) Q fun H3 r3 => q H3 (ROk.trans r2 r3)
  | true => exact q H2 r2
theorem dt_not {t : TT} {a : Bool} (h : DT R F t σ H a) : DT R F (tNot t) σ H (!a) := fun H1 e f _ q => h H1 e f _ q
theorem dt_is {t : TT} {a b : Bool} (h : DT R F t σ H a) (e : a = b) : DT R F t σ H b := e ▸ h
theorem dv_is {d' : PyData} (h : DV R K F te σ H d) (e : d = d') : DV R K F te σ H d' := e ▸ h
theorem dv_and {a b : Bool} (h1 : DV R K F ta σ H (.bool a)) (h2 : a = true → DV R K F tb σ H (.bool b)) : DV R K F (tAndV ta tb) σ H (.bool (a && b)) := fun H1 e f Q q => h1 H1 e f _ fun v H2 r2 hv => ⟨a, hv, by
  cases a with
  | true => exact h2 rfl H2 (ROk.trans e r2) (r_fd r2 f) Q fun w H3 r3 => q w H3 (ROk.trans r2 r3)
  | false => exact q _ H2 r2 rfl⟩
theorem dv_or {a b : Bool} (h1 : DV R K F ta σ H (.bool a)) (h2 : a = false → DV R K F tb σ H (.bool b)) : DV R K F (tOrV ta tb) σ H (.bool (a || b)) := fun H1 e f Q q => h1 H1 e f _ fun v H2 r2 hv => ⟨a, hv, by
  cases a with
  | false => exact h2 rfl H2 (ROk.trans e r2) (r_fd r2 f) Q fun w H3 r3 => q w H3 (ROk.trans r2 r3)
  | true => exact q _ H2 r2 rfl⟩
theorem dv_not {a : Bool} (h : DV R K F ta σ H (.bool a)) : DV R K F (tNotV ta) σ H (.bool (!a)) := fun H1 e f _ q => h H1 e f _ fun v H2 r hv => ⟨a, hv, q _ H2 r rfl⟩
theorem dv_if {t : TT} {b : Bool} (h : DT R F t σ H b) (h1 : b = true → DV R K F ta σ H d) (h2 : b = false → DV R K F tb σ H d) : DV R K F (tIf t ta tb) σ H d := fun H1 e f Q q => h H1 e f _ fun H2 r2 => by
  cases b with
  | true => exact h1 rfl H2 (ROk.trans e r2) (r_fd r2 f) Q fun w H3 r3 => q w H3 (ROk.trans r2 r3)
  | false => exact h2 rfl H2 (ROk.trans e r2) (r_fd r2 f) Q fun w H3 r3 => q w H3 (ROk.trans r2 r3)
/-! a def's call -/
theorem dv_call {sp : Sp} {E : XK} {ta : TA} {ds : List PyData} (h : DA R K F ta σ H ds) (hs : SD K sp ds d) : DV R K F (tCall sp [] E ta) σ H d := fun H1 e f Q q =>
  h H1 e f _ fun vs H2 r2 hv => by
    rw [List.append_nil]
    exact hs F vs H2 (r_fd r2 f) hv Q E fun v H3 s3 g => q v H3 (ROk.trans r2 (ROk.same s3)) g
end
end Sc

namespace Sc
open PySem PySem.Spec PyProof.Rows L2
open RZ (ItzT iZipA)
/-! ### shapes that == takes: no dicts, not deep -/
def Sh (n : Nat) (d : PyData) : Prop := d.canLay0 = true ∧ d.depth ≤ n
def ShL (n : Nat) (ds : List PyData) : Prop := PyData.canLayAll0 ds = true ∧ PyData.depthAll ds ≤ n
theorem Sh.s {n : Nat} {d : PyData} (h : Sh n d) (hn : n ≤ 64 := by decide) : SeqAt.shaped d = true := by
  unfold SeqAt.shaped
  rw [h.1, decide_eq_true (Nat.le_trans h.2 hn)]
  rfl
theorem Sh.mono {n m : Nat} {d : PyData} (h : Sh n d) (hn : n ≤ m) : Sh m d := ⟨h.1, Nat.le_trans h.2 hn⟩
theorem ShL.mono {n m : Nat} {d : List PyData} (h : ShL n d) (hn : n ≤ m) : ShL m d := ⟨h.1, Nat.le_trans h.2 hn⟩
theorem sh_none {n : Nat} : Sh n .none := ⟨rfl, Nat.zero_le _⟩
theorem sh_bool {n : Nat} {b : Bool} : Sh n (.bool b) := ⟨rfl, Nat.zero_le _⟩
theorem sh_int {n : Nat} {i : Int} : Sh n (.int i) := ⟨rfl, Nat.zero_le _⟩
theorem sh_str {n : Nat} {x : Str} (h : PyData.strOk x = true) : Sh n (.str x) := ⟨h, Nat.zero_le _⟩
theorem shl_nil {n : Nat} : ShL n [] := ⟨rfl, Nat.zero_le _⟩
theorem shl_cons {n : Nat} {d : PyData} {ds : List PyData} (h : Sh n d) (hs : ShL n ds) : ShL n (d :: ds) := by
  refine ⟨?_, ?_⟩
  · show (d.canLay0 && PyData.canLayAll0 ds) = true
    rw [h.1, hs.1]
    rfl
  · show max d.depth (PyData.depthAll ds) ≤ n
    exact Nat.max_le.mpr ⟨h.2, hs.2⟩
theorem sh_list {n : Nat} {ds : List PyData} (h : ShL n ds) : Sh (n + 1) (.list ds) := ⟨h.1, by show PyData.depthAll ds + 1 ≤ n + 1; exact Nat.succ_le_succ h.2⟩
theorem sh_tuple {n : Nat} {ds : List PyData} (h : ShL n ds) : Sh (n + 1) (.tuple ds) := ⟨h.1, by show PyData.depthAll ds + 1 ≤ n + 1; exact Nat.succ_le_succ h.2⟩
theorem shl_all {n : Nat} : ∀ {ds : List PyData}, (∀ d ∈ ds, Sh n d) → ShL n ds
  | [], _ => shl_nil
  | d :: ds, h => shl_cons (h d List.mem_cons_self) (shl_all fun e he => h e (List.mem_cons_of_mem _ he))
theorem shaped_int (i : Int) : SeqAt.shaped (.int i) = true := sh_int.s (n := 0)
/-! ### kinds -/
def tyD : PyData → String
  | .none => "NoneType"
  | .bool _ => "bool"
  | .int _ => "int"
  | .str _ => "str"
  | .list _ => "list"
  | .tuple _ => "tuple"
  | .dict _ => "dict"
theorem ty_of {K : PySem.W.Frag} {H : Hp} : ∀ {d : PyData} {v : V}, Da K H d v → TyX K H v (.type (tyD d))
  | .none, _, h => by cases h; exact .base .non
  | .bool _, _, h => by cases h; exact .base (.bl _)
  | .int _, _, h => by cases h; exact .base (.int _)
  | .str _, _, h => by cases h; exact .base (.str _)
  | .list ds, _, h => by
    obtain ⟨a, xs, h1, h2, h3⟩ := h
    cases h1
    exact .base (.lst h2)
  | .tuple ds, _, h => by
    obtain ⟨a, xs, h1, h2, h3⟩ := h
    cases h1
    rcases h2 with (h | ⟨o, h⟩) | ⟨o, its, n, h, c, _⟩
    · exact .base (.tup h)
    · exact .fTuple h
    · exact .kTuple h c
  | .dict _, _, h => h.elim
def isStr : PyData → Bool
  | .str _ => true
  | _ => false
def isTup : PyData → Bool
  | .tuple _ => true
  | _ => false
def isLst : PyData → Bool
  | .list _ => true
  | _ => false
def isBool : PyData → Bool
  | .bool _ => true
  | _ => false
def isInt : PyData → Bool
  | .int _ => true
  | .bool _ => true
  | _ => false
theorem kit_str : ∀ d, kitB (tyD d) "str" = some (isStr d) := by intro d; cases d <;> (simp only [tyD, isStr, isTup, isLst, isBool, isInt]; decide +kernel)
theorem kit_tup : ∀ d, kitB (tyD d) "tuple" = some (isTup d) := by intro d; cases d <;> (simp only [tyD, isStr, isTup, isLst, isBool, isInt]; decide +kernel)
theorem kit_lst : ∀ d, kitB (tyD d) "list" = some (isLst d) := by intro d; cases d <;> (simp only [tyD, isStr, isTup, isLst, isBool, isInt]; decide +kernel)
theorem kit_bool : ∀ d, kitB (tyD d) "bool" = some (isBool d) := by intro d; cases d <;> (simp only [tyD, isStr, isTup, isLst, isBool, isInt]; decide +kernel)
theorem kit_int : ∀ d, kitB (tyD d) "int" = some (isInt d) := by intro d; cases d <;> (simp only [tyD, isStr, isTup, isLst, isBool, isInt]; decide +kernel)
section
variable {R : Hp → Hp → Prop} [ROk R] {K : PySem.W.Frag} {F : List Addr} {σ : L2.St} {H H' : Hp} {ta tb te : TE} {d : PyData} {v : V}
theorem dv_isi {c : String} {b : Bool} (h : DV R K F ta σ H d) (hk : kitB (tyD d) c = some b) : DV R K F (tCB (rIsi K) (tCons ta (tCons (tC (.ty c)) tNil))) σ H (.bool b) := fun H1 a f Q q =>
  h H1 a f _ fun v H2 r2 hv => ⟨v, .ty c, _, _, b, rfl, .ty c, ty_of (hv.mono xt_hid), kit_ty hk, q _ H2 r2 rfl⟩
theorem dv_isStr (h : DV R K F ta σ H d) : DV R K F (tCB (rIsi K) (tCons ta (tCons (tC (.ty "str")) tNil))) σ H (.bool (isStr d)) := dv_isi h (kit_str d)
theorem dv_isTup (h : DV R K F ta σ H d) : DV R K F (tCB (rIsi K) (tCons ta (tCons (tC (.ty "tuple")) tNil))) σ H (.bool (isTup d)) := dv_isi h (kit_tup d)
theorem dv_isLst (h : DV R K F ta σ H d) : DV R K F (tCB (rIsi K) (tCons ta (tCons (tC (.ty "list")) tNil))) σ H (.bool (isLst d)) := dv_isi h (kit_lst d)
theorem dv_isBool (h : DV R K F ta σ H d) : DV R K F (tCB (rIsi K) (tCons ta (tCons (tC (.ty "bool")) tNil))) σ H (.bool (isBool d)) := dv_isi h (kit_bool d)
theorem dv_isInt (h : DV R K F ta σ H d) : DV R K F (tCB (rIsi K) (tCons ta (tCons (tC (.ty "int")) tNil))) σ H (.bool (isInt d)) := dv_isi h (kit_int d)
/-! ### in -/
def rMem (K : PySem.W.Frag) : R2 := fun x y H Q => rIn K false x y H Q ∨ (∃ (c : Nat) (z : Str), x = .str ⟨#[c]⟩ ∧ y = .str z ∧ Q (.bl (decide (c ∈ z.cps.toList))) H)
def rNotMem (K : PySem.W.Frag) : R2 := fun x y H Q => rIn K true x y H Q ∨ (∃ (c : Nat) (z : Str), x = .str ⟨#[c]⟩ ∧ y = .str z ∧ Q (.bl (!decide (c ∈ z.cps.toList))) H)
theorem dv_inS {c : Nat} {z : Str} (ha : DV R K F ta σ H (.str ⟨#[c]⟩)) (hb : DV R K F tb σ H (.str z)) : DV R K F (tOp (rMem K) ta tb) σ H (.bool (decide (c ∈ z.cps.toList))) :=
  dv_op ha hb rfl rfl rfl fun H1 Q q => .inr ⟨c, z, rfl, rfl, q⟩
theorem dal_strs {H : Hp} : ∀ {xs : List Str} {vs : List V}, DaL K H (xs.map PyData.str) vs → vs = xs.map V.str
  | [], _, h => h
  | b :: bs, _, h => by
    obtain ⟨w, r, h1, h2, h3⟩ := h
    have h2 : w = V.str b := h2
    rw [h1, h2, dal_strs h3]
    rfl
theorem inV_strs (x : Str) (xs : List Str) : inV (.str x) (xs.map V.str) = decide (x ∈ xs) := by
  induction xs with
  | nil => rfl
  | cons y r ih =>
    show (eqV (V.str y) (V.str x) || inV (.str x) (r.map V.str)) = _
    rw [ih]
    show ((y == x) || decide (x ∈ r)) = _
    by_cases e : y = x
    · simp [e]
    · have e2 : ¬ x = y := fun z => e z.symm
      simp [e, e2]
theorem flat_strs (xs : List Str) : (xs.map V.str).all flatV = true := by
  induction xs with
  | nil => rfl
  | cons y r ih =>
    show (flatV (V.str y) && (r.map V.str).all flatV) = true
    rw [ih]
    rfl
theorem dv_inT {x : Str} {xs : List Str} (ha : DV R K F ta σ H (.str x)) (hb : DV R K F tb σ H (.tuple (xs.map PyData.str))) : DV R K F (tOp (rMem K) ta tb) σ H (.bool (decide (x ∈ xs))) :=
  dv_op2 ha hb fun u y H1 Q _ f e1 ⟨a, vs, e2, g, l⟩ q => by
    have e1 : u = .str x := e1
    have l := dal_strs l
    subst e1 l
    refine .inl ⟨a, _, e2, .inr (xt_sqT xt_hid g), rfl, flat_strs xs, ?_⟩
    rw [if_neg Bool.false_ne_true, inV_strs]
    exact q _ H1 (r_refl H1) rfl
theorem dv_ninT {x : Str} {xs : List Str} (ha : DV R K F ta σ H (.str x)) (hb : DV R K F tb σ H (.tuple (xs.map PyData.str))) : DV R K F (tOp (rNotMem K) ta tb) σ H (.bool (!decide (x ∈ xs))) :=
  dv_op2 ha hb fun u y H1 Q _ f e1 ⟨a, vs, e2, g, l⟩ q => by
    have e1 : u = .str x := e1
    have l := dal_strs l
    subst e1 l
    refine .inl ⟨a, _, e2, .inr (xt_sqT xt_hid g), rfl, flat_strs xs, ?_⟩
    rw [if_pos rfl, inV_strs]
    exact q _ H1 (r_refl H1) rfl
theorem dv_ord {c : Nat} (h : DV R K F ta σ H (.str ⟨#[c]⟩)) : DV R K F (tCB (fun xs H Q => ∃ x, xs = [V.str x] ∧ x.length = 1 ∧ Q (V.int ((x.cps.getD 0 0 : Nat) : Int)) H) (tCons ta tNil)) σ H (.int (c : Int)) :=
  dv_cb (da_cons h da_nil) fun vs H1 Q _ f hv q => by
    obtain ⟨v, rfl, e⟩ := dal1 hv
    have e : v = .str ⟨#[c]⟩ := e
    subst e
    exact ⟨_, rfl, rfl, q _ H1 (r_refl H1) rfl⟩
/-! ### all -/
theorem dv_all {bs : List Bool} (h : DV R K F ta σ H (.list (bs.map PyData.bool))) : DV R K F (tCB (rAll K) (tCons ta tNil)) σ H (.bool (bs.all id)) :=
  dv_cb (da_cons h da_nil) fun vs H1 Q _ f hv q => by
    obtain ⟨v, rfl, a, xs, rfl, g, l⟩ := dal1 hv
    have l := DaL.bools l
    subst l
    exact ⟨a, bs, rfl, SqL.of (hid_le g).1, q _ H1 (r_refl H1) rfl⟩
/-! ### comprehensions: the new list at D is the comprehension's own -/
/-- the world within: the outer data are there, F' besides -/
structure Wi (R : Hp → Hp → Prop) (F : List Addr) (H : Hp) (F' : List Addr) (H1 : Hp) : Prop where
  r : R H H1
  x : Xt (hid F H) (hid F' H1)
  f : Fd F' H1
theorem Wi.da {F' : List Addr} {H1 : Hp} (w : Wi R F H F' H1) (h : Da K (hid F H) d v) : Da K (hid F' H1) d v := h.mono w.x
theorem lc_gen {J : It} {n : Nat} {G : Hp → Prop} {Y : Nat → Hp → V → Hp → Prop} (w : Walk J n G Y) {g : TG} {te : TE} {vs : List Nat} {H2 : Hp} {D : Addr} {Q : VK} {gs : List PyData}
    (f : Fd F H2) (hD : H2 D = none) (hn : n = gs.length) (hl : gs.length ≤ sizeLine) (hG : ∀ H1, R H2 H1 → G H1)
    (hs : ∀ i x H1 H1' e, gs[i]? = some e → Wi R F H2 (D :: F) H1 → Y i H1 x H1' → ∀ Q' : VK, (∀ y H3, Wi R F H2 (D :: F) H3 → (∀ acc, H1 D = some (.lst acc) → H3 D = some (.lst acc)) → Xt (hid (D :: F) H1) (hid (D :: F) H3) → Da K (hid (D :: F) H3) e y → Q' y H3) → g x (wipe σ vs) H1' fun σ2 H3 => wipe σ2 vs = wipe σ vs ∧ te σ2 H3 Q')
    (hq : ∀ H3, R H2 H3 → Da K (hid F H3) (.list gs) (.ref D) → Q (.ref D) H3) :
    ∃ W : Nat → Nat → Hp → Prop, (∃ m, W 0 m (upd H2 D (.lst []))) ∧ ∀ i m H, W i m H →
      (J.stop i H ∧ Q (.ref D) H) ∨ (J.go i H ∧ ∃ Nx : Hp → Prop, (∀ H', Nx H' → ∃ m', m' < m ∧ W (i + 1) m' H') ∧ ∀ x H', J.yld i H x H' → g x (wipe σ vs) H' fun σ2 H2 => wipe σ2 vs = wipe σ vs ∧ tYes σ2 H2 fun b H3 =>
        if b = true then te σ2 H3 fun y H4 => ∃ acc, H4 D = some (.lst acc) ∧ acc.length < sizeLine ∧ Nx (upd H4 D (.lst (acc ++ [y]))) else Nx H3) := by
  have nD : D ∉ F := f.new hD
  have wi : ∀ H1, R H2 H1 → Fd (D :: F) H1 → Wi R F H2 (D :: F) H1 := fun H1 r f1 => ⟨r, fun b o e nt => by
    obtain ⟨e1, e2⟩ := hid_le e
    rw [hid_out (by
      intro z
      rcases List.mem_cons.mp z with z | z
      · rw [z, hD] at e1; cases e1
      · exact e2 z)]
    exact ROk.ext r b o e1 nt, f1⟩
  refine lc_it w (fun i H1 => R H2 H1 ∧ Fd F H1 ∧ ∃ acc, H1 D = some (.lst acc) ∧ DaL K (hid (D :: F) H1) (gs.take i) acc) ?_ ?_ ?_ ?_
  · exact ⟨r_new hD, r_fd (r_new (R := R) hD) f, [], upd_same, by rw [List.take_zero]; rfl⟩
  · exact fun i H1 _ h => hG H1 h.1
  · rintro i x H1 H1' hi ⟨r1, f1, acc, hacc, l⟩ y
    have hig : i < gs.length := by omega
    obtain ⟨e, he⟩ : ∃ e, gs[i]? = some e := ⟨gs[i], by simp [hig]⟩
    have f1' : Fd (D :: F) H1 := f1.cons hacc fun ps z => by cases z
    refine hs i x H1 H1' e he (wi H1 r1 f1') y _ fun y H3 w3 hk x3 hy => ?_
    refine ⟨acc, hk acc hacc, ?_, ?_⟩
    · have := l.length
      rw [List.length_take] at this
      omega
    · have r4 : R H2 (upd H3 D (.lst (acc ++ [y]))) := ROk.chg hD (hk acc hacc) w3.r
      have hx : Xt (hid (D :: F) H3) (hid (D :: F) (upd H3 D (.lst (acc ++ [y])))) := fun b o e nt => by
        obtain ⟨e1, e2⟩ := hid_le e
        rw [hid_out e2, upd_ne fun z => e2 (by rw [z]; exact List.mem_cons_self)]
        exact e1
      refine ⟨r4, r_fd r4 f, _, upd_same, ?_⟩
      have et : gs.take (i + 1) = gs.take i ++ [e] := by
        rw [List.take_succ, he]
        rfl
      rw [et]
      exact ((l.mono x3).mono hx).snoc (hy.mono hx)
  · rintro H1 ⟨r1, f1, acc, hacc, l⟩
    rw [hn, List.take_length] at l
    refine hq H1 r1 ⟨D, acc, rfl, by rw [hid_out nD]; exact hacc, l.mono (hid_sub fun b hb => List.mem_cons_of_mem _ hb)⟩
/-- [e for x in l], l a list -/
theorem dv_lcL {i : Nat} {ds gs : List PyData} (h : DV R K F ta σ H (.list ds)) (hn : gs.length = ds.length) (hl : ds.length ≤ sizeLine) (hi : ∀ v : V, wipe ((wipe σ [i]).set i (some v)) [i] = wipe σ [i])
    (hb : ∀ (F' : List Addr) (H1 : Hp) (v : V) (j : Nat) (d e : PyData), Wi R F H F' H1 → ds[j]? = some d → gs[j]? = some e → Da K (hid F' H1) d v → DV R K F' te ((wipe σ [i]).set i (some v)) H1 e) :
    DV R K F (tLc (iList K ta) (gName i) tYes te [i]) σ H (.list gs) := fun H1 a f Q q =>
  h H1 a f _ fun v H2 r2 hv => by
    obtain ⟨b, xs, e1, g, l⟩ := hv
    refine ⟨b, e1, ⟨xs, SqL.of (hid_le g).1⟩, fun D hD => ?_⟩
    have f2 := r_fd r2 f
    refine lc_gen (R := R) (K := K) (F := F) (gs := gs) (walk_list (xs := xs)) f2 hD (by rw [l.length, hn]) (by rw [hn]; exact hl) (fun H3 r3 => xt_sqL (ROk.ext r3) (SqL.of (hid_le g).1)) ?_ fun H3 r3 hd => q _ H3 (ROk.trans r2 r3) hd
    rintro j x H3 H3' e he w3 ⟨rfl, hx⟩ Q' q'
    obtain ⟨d, hd, hdv⟩ := l.get' hx
    refine ⟨hi x, ?_⟩
    have w0 : Wi R F H (D :: F) H3' := ⟨ROk.trans (ROk.trans a r2) w3.r, fun b o e nt => w3.x b o (hid_xt (ROk.ext (ROk.trans a r2)) b o e nt) nt, w3.f⟩
    refine hb (D :: F) H3' x j d e w0 hd he (hdv.mono w3.x) H3' (r_refl H3') w3.f Q' fun y H4 r4 hy => ?_
    exact q' y H4 ⟨ROk.trans w3.r r4, fun b o e nt => hid_xt (ROk.ext r4) b o (w3.x b o e nt) nt, r_fd r4 w3.f⟩ (fun acc hacc => ROk.ext r4 _ _ hacc fun ps z => by cases z) (hid_xt (ROk.ext r4)) hy
/-- [e for x in t], t a tuple -/
theorem dv_lcT {i : Nat} {ds gs : List PyData} (h : DV R K F ta σ H (.tuple ds)) (hn : gs.length = ds.length) (hl : ds.length ≤ sizeLine) (hi : ∀ v : V, wipe ((wipe σ [i]).set i (some v)) [i] = wipe σ [i])
    (hb : ∀ (F' : List Addr) (H1 : Hp) (v : V) (j : Nat) (d e : PyData), Wi R F H F' H1 → ds[j]? = some d → gs[j]? = some e → Da K (hid F' H1) d v → DV R K F' te ((wipe σ [i]).set i (some v)) H1 e) :
    DV R K F (tLc (iTup K ta) (gName i) tYes te [i]) σ H (.list gs) := fun H1 a f Q q =>
  h H1 a f _ fun v H2 r2 hv => by
    obtain ⟨b, xs, e1, g, l⟩ := hv
    refine ⟨b, e1, ⟨xs, xt_sqT xt_hid g⟩, fun D hD => ?_⟩
    have f2 := r_fd r2 f
    refine lc_gen (R := R) (K := K) (F := F) (gs := gs) (walk_tup (xs := xs)) f2 hD (by rw [l.length, hn]) (by rw [hn]; exact hl) (fun H3 r3 => xt_sqT (ROk.ext r3) (xt_sqT xt_hid g)) ?_ fun H3 r3 hd => q _ H3 (ROk.trans r2 r3) hd
    rintro j x H3 H3' e he w3 ⟨rfl, hx⟩ Q' q'
    obtain ⟨d, hd, hdv⟩ := l.get' hx
    refine ⟨hi x, ?_⟩
    have w0 : Wi R F H (D :: F) H3' := ⟨ROk.trans (ROk.trans a r2) w3.r, fun b o e nt => w3.x b o (hid_xt (ROk.ext (ROk.trans a r2)) b o e nt) nt, w3.f⟩
    refine hb (D :: F) H3' x j d e w0 hd he (hdv.mono w3.x) H3' (r_refl H3') w3.f Q' fun y H4 r4 hy => ?_
    exact q' y H4 ⟨ROk.trans w3.r r4, fun b o e nt => hid_xt (ROk.ext r4) b o (w3.x b o e nt) nt, r_fd r4 w3.f⟩ (fun acc hacc => ROk.ext r4 _ _ hacc fun ps z => by cases z) (hid_xt (ROk.ext r4)) hy
/-- [e for x in range(n)] -/
theorem dv_lcR {i : Nat} {n : Int} {gs : List PyData} (h : DV R K F ta σ H (.int n)) (hn : gs.length = n.toNat) (hl : n ≤ 1000000) (h0 : -1000000 ≤ n) (hi : ∀ v : V, wipe ((wipe σ [i]).set i (some v)) [i] = wipe σ [i])
    (hb : ∀ (F' : List Addr) (H1 : Hp) (j : Nat) (e : PyData), Wi R F H F' H1 → gs[j]? = some e → DV R K F' te ((wipe σ [i]).set i (some (.int (j : Int)))) H1 e) :
    DV R K F (tLc (iRng1 (tCons ta tNil)) (gName i) tYes te [i]) σ H (.list gs) := fun H1 a f Q q =>
  h H1 a f _ fun v H2 r2 hv => by
    have hv : v = .int n := hv
    subst hv
    refine ⟨n, rfl, by omega, by omega, fun D hD => ?_⟩
    have f2 := r_fd r2 f
    refine lc_gen (R := R) (K := K) (F := F) (gs := gs) (walk_range (lo := 0) (n := n.toNat)) f2 hD hn.symm (by rw [hn, sizeLine_eq]; omega) (fun H3 r3 => True.intro) ?_ fun H3 r3 hd => q _ H3 (ROk.trans r2 r3) hd
    rintro j x H3 H3' e he w3 ⟨rfl, hx⟩ Q' q'
    have hx : x = .int (j : Int) := by
      rw [hx]
      show V.int (0 + (j : Int)) = _
      rw [Int.zero_add]
    subst hx
    refine ⟨hi _, ?_⟩
    have w0 : Wi R F H (D :: F) H3' := ⟨ROk.trans (ROk.trans a r2) w3.r, fun b o e nt => w3.x b o (hid_xt (ROk.ext (ROk.trans a r2)) b o e nt) nt, w3.f⟩
    refine hb (D :: F) H3' j e w0 he H3' (r_refl H3') w3.f Q' fun y H4 r4 hy => ?_
    exact q' y H4 ⟨ROk.trans w3.r r4, fun b o e nt => hid_xt (ROk.ext r4) b o (w3.x b o e nt) nt, r_fd r4 w3.f⟩ (fun acc hacc => ROk.ext r4 _ _ hacc fun ps z => by cases z) (hid_xt (ROk.ext r4)) hy
/-- zip of two tuples -/
theorem walk_zipT {a b : Addr} {xs ys : List V} {n : Nat} (hn : n = min xs.length ys.length) : Walk (ItzT K a b) n (fun H => SqT K H a xs ∧ SqT K H b ys) (YPair (fun i => xs[i]?) (fun i => ys[i]?)) := by
  subst hn
  refine ⟨fun i _ hi q => ?_, fun _ q => ⟨xs, ys, q.1, q.2, by omega⟩, fun i H v H' _ q y => ?_⟩
  · have h1 : i < xs.length := by omega
    have h2 : i < ys.length := by omega
    exact ⟨xs, ys, xs[i], ys[i], q.1, q.2, by simp [h1], by simp [h2]⟩
  · obtain ⟨T, x, z, h1, h2, h3, h4, h5⟩ := y
    exact ⟨T, x, z, h1, h2, h3, h4 xs q.1, h5 ys q.2⟩
/-- [e for x, y in zip(t, u)], tuples of one length -/
theorem dv_lcZ {i j : Nat} {ds es gs : List PyData} (h : DV R K F ta σ H (.tuple ds)) (h' : DV R K F tb σ H (.tuple es)) (hn : gs.length = ds.length) (hm : es.length = ds.length) (hl : ds.length ≤ sizeLine)
    (hi : ∀ v u : V, wipe (((wipe σ [i, j]).set i (some v)).set j (some u)) [i, j] = wipe σ [i, j])
    (hb : ∀ (F' : List Addr) (H1 : Hp) (v u : V) (n : Nat) (d d' e : PyData), Wi R F H F' H1 → ds[n]? = some d → es[n]? = some d' → gs[n]? = some e → Da K (hid F' H1) d v → Da K (hid F' H1) d' u → DV R K F' te (((wipe σ [i, j]).set i (some v)).set j (some u)) H1 e) :
    DV R K F (tLc (iZipA K (tCons ta (tCons tb tNil))) (gTup K 2 (gCons (gName i) (gCons (gName j) gNil))) tYes te [i, j]) σ H (.list gs) := fun H1 a f Q q =>
  h H1 a f _ fun v H2' r2' hv => h' H2' (ROk.trans a r2') (r_fd r2' f) _ fun u H2 r2 hu => by
    obtain ⟨c, xs, e1, g, l⟩ := r_da r2 hv
    obtain ⟨c', ys, e1', g', l'⟩ := hu
    subst e1 e1'
    have r2 : R H1 H2 := ROk.trans r2' r2
    have f2 := r_fd r2 f
    refine ⟨c, c', xs, ys, rfl, .inr ⟨xt_sqT xt_hid g, xt_sqT xt_hid g', fun D hD => ?_⟩⟩
    refine lc_gen (R := R) (K := K) (F := F) (gs := gs) (walk_zipT (xs := xs) (ys := ys) (n := gs.length) (by rw [l.length, l'.length, hn, hm, Nat.min_self])) f2 hD rfl (by rw [hn]; exact hl) (fun H3 r3 => ⟨xt_sqT (ROk.ext r3) (xt_sqT xt_hid g), xt_sqT (ROk.ext r3) (xt_sqT xt_hid g')⟩) ?_ fun H3 r3 hd => q _ H3 (ROk.trans r2 r3) hd
    rintro n x H3 H3' e he w3 ⟨T, x1, x2, rfl, hT, rfl, hx1, hx2⟩ Q' q'
    obtain ⟨d, hd, hdv⟩ := l.get' hx1
    obtain ⟨d', hd', hdv'⟩ := l'.get' hx2
    refine ⟨T, [x1, x2], rfl, SqT.of upd_same, rfl, x1, [x2], rfl, x2, [], rfl, rfl, hi x1 x2, ?_⟩
    have rn : R H3 (upd H3 T (.tup [x1, x2])) := r_new hT
    have w4 : Wi R F H2 (D :: F) (upd H3 T (.tup [x1, x2])) := ⟨ROk.trans w3.r rn, fun b o e nt => hid_xt (ROk.ext rn) b o (w3.x b o e nt) nt, r_fd rn w3.f⟩
    have w0 : Wi R F H (D :: F) (upd H3 T (.tup [x1, x2])) := ⟨ROk.trans (ROk.trans a r2) w4.r, fun b o e nt => w4.x b o (hid_xt (ROk.ext (ROk.trans a r2)) b o e nt) nt, w4.f⟩
    refine hb (D :: F) _ x1 x2 n d d' e w0 hd hd' he (hdv.mono w4.x) (hdv'.mono w4.x) _ (r_refl _) w4.f Q' fun y H4 r4 hy => ?_
    have r34 : R H3 H4 := ROk.trans rn r4
    exact q' y H4 ⟨ROk.trans w3.r r34, fun b o e nt => hid_xt (ROk.ext r34) b o (w3.x b o e nt) nt, r_fd r34 w3.f⟩ (fun acc hacc => ROk.ext r34 _ _ hacc fun ps z => by cases z) (hid_xt (ROk.ext r34)) hy
end
end Sc

namespace Sc
open PySem PySem.Spec PyProof.Rows L2
section
variable {X : Cx}
theorem op_plus : OpR X (binaryOp .Add) (rPlus X.K) := op_add.or (op_add_str.or (op_cat.or op_catT))
theorem op_times : OpR X (binaryOp .Mult) (rTimes X.K) := op_mul.or (op_mulW.or (op_rep.or op_repT))
theorem op_eqA (hu : X.A.units + 64 < cLine) : OpR X (compareOp .Eq) (rEqA X.K) := op_eq.or (op_eqD hu)
theorem op_neA (hu : X.A.units + 64 < cLine) : OpR X (compareOp .NotEq) (rNeA X.K) := op_ne.or (op_neD hu)
theorem op_leq : OpR X (compareOp .LtE) rLeq := op_le.or op_le_str
theorem op_mem : OpR X (compareOp .In) (rMem X.K) := op_in_seq.or op_in_sign
theorem op_notmem : OpR X (compareOp .NotIn) (rNotMem X.K) := op_notIn_seq.or op_notIn_sign
theorem sl_any : SlR X (rSli X.K) := sl_list.or (sl_str.or sl_tup)
theorem cr_len : CallR X (.builtin "len") (rLn X.K) := call_len
/-! the same with the written part as a letter of its own -/
theorem kplus (K : PySem.W.Frag) (hK : X.K = K := by rfl) : OpR X (binaryOp .Add) (rPlus K) := by subst hK; exact op_plus
theorem ktimes (K : PySem.W.Frag) (hK : X.K = K := by rfl) : OpR X (binaryOp .Mult) (rTimes K) := by subst hK; exact op_times
theorem keq (K : PySem.W.Frag) (hu : X.A.units + 64 < cLine) (hK : X.K = K := by rfl) : OpR X (compareOp .Eq) (rEqA K) := by subst hK; exact op_eqA hu
theorem kne (K : PySem.W.Frag) (hu : X.A.units + 64 < cLine) (hK : X.K = K := by rfl) : OpR X (compareOp .NotEq) (rNeA K) := by subst hK; exact op_neA hu
theorem kmem (K : PySem.W.Frag) (hK : X.K = K := by rfl) : OpR X (compareOp .In) (rMem K) := by subst hK; exact op_mem
theorem knotmem (K : PySem.W.Frag) (hK : X.K = K := by rfl) : OpR X (compareOp .NotIn) (rNotMem K) := by subst hK; exact op_notmem
theorem ksl (K : PySem.W.Frag) (hK : X.K = K := by rfl) : SlR X (rSli K) := by subst hK; exact sl_any
theorem kix (K : PySem.W.Frag) (hK : X.K = K := by rfl) : IxR X (rIx K) := by subst hK; exact ix_seq
theorem klen (K : PySem.W.Frag) (hK : X.K = K := by rfl) : CallR X (.builtin "len") (rLn K) := by subst hK; exact cr_len
theorem kisi (K : PySem.W.Frag) (hK : X.K = K := by rfl) : CallR X (.builtin "isinstance") (rIsi K) := by subst hK; exact call_isi
theorem kall (K : PySem.W.Frag) (hc : X.calm = true := by rfl) (hK : X.K = K := by rfl) : CallR X (.builtin "all") (rAll K) := by subst hK; exact cr_all hc
theorem ksum (K : PySem.W.Frag) (hc : X.calm = true := by rfl) (hK : X.K = K := by rfl) : CallR X (.builtin "sum") (rSum K) := by subst hK; exact cr_sum hc
def rListOf (K : PySem.W.Frag) : List V → Hp → VK → Prop := fun xs H Q => ∃ p ys, xs = [.ref p] ∧ (SqL K H p ys ∨ SqT K H p ys) ∧ ∀ l, H l = none → Q (.ref l) (upd H l (.lst ys))
def rTupOf (K : PySem.W.Frag) : List V → Hp → VK → Prop := fun xs H Q => ∃ p ys, xs = [.ref p] ∧ ((SqL K H p ys ∧ ∀ l, H l = none → Q (.ref l) (upd H l (.tup ys))) ∨ (SqT K H p ys ∧ Q (.ref p) H))
theorem klist (K : PySem.W.Frag) (hK : X.K = K := by rfl) : CallR X (.type "list") (rListOf K) := by subst hK; exact call_list_of
theorem ktuple (K : PySem.W.Frag) (hK : X.K = K := by rfl) : CallR X (.type "tuple") (rTupOf K) := by subst hK; exact call_tuple_of
theorem ki_list (K : PySem.W.Frag) {tg l : Expr} {tl : TE} (hl : PE X l tl) (hK : X.K = K := by rfl) : PI X tg l (iList K tl) := by subst hK; exact pi_list hl
theorem ki_tup (K : PySem.W.Frag) {tg l : Expr} {tl : TE} (hl : PE X l tl) (hK : X.K = K := by rfl) : PI X tg l (iTup K tl) := by subst hK; exact pi_tup hl
theorem ki_zip (K : PySem.W.Frag) {e e2 : Expr} {ta : TA} {p pos tpos : Pos} {elts : List Expr} {kk : Nat} (hm : X.mg "zip" = none) (ha : PA X [e, e2] ta) (hg : Gl X "zip" := by rfl) (hK : X.K = K := by rfl)
    (hs : starEach [e, e2] X.env = (false, eval e X.env) :: starEach [e2] X.env := by rfl) (hpl : (backTo pos (starEach [e2] X.env)).any (·.1) = false := by rfl) :
    PI X (.Tuple elts kk tpos) (.Call (.Name "zip" p) [e, e2] [] pos) (RZ.iZipA K ta) := by subst hK; exact RZ.pi_zipA hg hm ha hs hpl
theorem kg_tup (K : PySem.W.Frag) (n : Nat) {es : List Expr} {k : Nat} {t : TGs} {pos : Pos} (h : PGs X es t) (hc : X.calm = true := by rfl) (hK : X.K = K := by rfl)
    (hn : (assignEach es X.env).length = n := by rfl) (hst : (assignEach es X.env).findIdx? (·.1) = none := by rfl) : PG X (.Tuple es k pos) (gTup K n t) := by subst hK; exact pg_tup hc h hn hst
theorem kfld (K : PySem.W.Frag) {e : Expr} {f : Str} {ta : TE} {pos : Pos} (he : PE X e ta) (hb : attributeBase e f X.env (eval e X.env) = eval e X.env := by rfl) (hK : X.K = K := by rfl) : PE X (.Attribute e f pos) (tFld K ta f) := by subst hK; exact pe_fld he hb
theorem ks_fld (K : PySem.W.Frag) {o value : Expr} {f : Str} {ta tv : TE} {pos pos' : Pos} (ha : PE X o ta) (hv : PE X value tv) (hs : swapsWith value (some (.Attribute o f pos')) pos.line X.env = pure false := by rfl) (hK : X.K = K := by rfl) :
    PS X (.Assign [.Attribute o f pos'] value pos) (sFld K ta tv f) := by subst hK; exact ps_fld ha hv hs
theorem kbm0 (K : PySem.W.Frag) {o : Expr} {to : TE} {name : Str} {apos cpos : Pos} {T id : String} {r : V → List V → Hp → VK → Prop} (pa : PlainAttrs T) (slot : Slot T name id) (hty : typeOf (.builtin id) = pure (.type "method_descriptor")) (hm : MtR X id r) (ho : PE X o to)
    (hK : X.K = K := by rfl) (hbase : attributeBase o name X.env (eval o X.env) = eval o X.env := by rfl) (hline : (apos.endLine == cpos.line) = true := by rfl) : PE X (.Call (.Attribute o name apos) [] [] cpos) (tBM0 K T r to) := by
  subst hK; exact pe_bm0 pa slot hty hm ho hbase hline
theorem kbm (K : PySem.W.Frag) {o e : Expr} {es : List Expr} {to : TE} {t : TA} {name : Str} {apos cpos : Pos} {T id : String} {r : V → List V → Hp → VK → Prop} (pa : PlainAttrs T) (slot : Slot T name id) (hty : typeOf (.builtin id) = pure (.type "method_descriptor")) (hm : MtR X id r) (ho : PE X o to) (ha : PA X (e :: es) t)
    (hK : X.K = K := by rfl) (hbase : attributeBase o name X.env (eval o X.env) = eval o X.env := by rfl)
    (hfew : ((backTo cpos (starEach (e :: es) X.env)).all (fun x => !x.1) && (backToKw cpos (keywordEach [] X.env)).all (fun x => x.1.isSome)
      && decide ((e :: es).length + ([] : List Keyword).length + (if ([] : List Keyword).isEmpty then 0 else 1) < 30)) = true := by rfl)
    (hline : (apos.endLine == cpos.line) = true := by rfl) (hs : starEach (e :: es) X.env = (false, eval e X.env) :: starEach es X.env := by rfl) (hplain : (backTo cpos (starEach es X.env)).any (·.1) = false := by rfl) :
    PE X (.Call (.Attribute o name apos) (e :: es) [] cpos) (tBM K T r to t) := by subst hK; exact pe_bm pa slot hty hm ho ha hbase hfew hline hs hplain
theorem pe_gi {x : Str} {i : Int} {pos : Pos} (hg : Gl X x) (h : ∃ t, X.mg x = some (.int i t)) (hd : (x == ("__debug__" : Str)) = false := by decide) : PE X (.Name x pos) (tC (.int i)) := by
  obtain ⟨t, h⟩ := h
  exact pe_glob hg h ⟨t, rfl⟩ hd
theorem pe_gs {x z : Str} {pos : Pos} (hg : Gl X x) (h : ∃ t, X.mg x = some (.str z t)) (hd : (x == ("__debug__" : Str)) = false := by decide) : PE X (.Name x pos) (tC (.str z)) := by
  obtain ⟨t, h⟩ := h
  exact pe_glob hg h ⟨t, rfl⟩ hd
/-- name = value; the name's place -/
theorem pS (i : Nat) {x : Str} {e : Expr} {te : TE} {pos pos' : Pos} (hN : X.N.Nodup) (he : PE X e te) (hi : X.N[i]? = some x := by rfl) (hx : Loc X.env.scope x := by first | exact Or.inl rfl | exact Or.inr rfl)
    (hs : swapsWith e (some (.Name x pos')) pos.line X.env = pure false := by rfl) (hf : X.fn x = true ∨ X.env.scope.names.lookup x = some .local := by first | exact .inl rfl | exact .inr rfl) :
    PS X (.Assign [.Name x pos'] e pos) (tAsg te (gName i)) := ps_set hN hi hx he hs hf
theorem pG (i : Nat) {x : Str} {pos : Pos} (hN : X.N.Nodup) (hi : X.N[i]? = some x := by rfl) (hx : Loc X.env.scope x := by first | exact Or.inl rfl | exact Or.inr rfl)
    (hf : X.fn x = true ∨ X.env.scope.names.lookup x = some .local := by first | exact .inl rfl | exact .inr rfl) : PG X (.Name x pos) (gName i) := pg_name hN hi hx hf
end
/-! ### a def that may be called by its name -/
structure Cal (P : Program) (w : World) (K : PySem.W.Frag) (mg : Str → Option Value) (base : Heap) (CX : CXT) (k : Nat) (x : Str) (ps : List Str) (sp : Sp) : Prop where
  ex : ∃ f fd, mg x = some (.ref f) ∧ PySem.W.keepIn K (.ref f) = true ∧ Binds K fd ps [] ∧ FnOk P w K mg base CX k f fd ps sp
theorem Cal.mono {P : Program} {w : World} {K : PySem.W.Frag} {mg : Str → Option Value} {base : Heap} {CX : CXT} {j k : Nat} {x : Str} {ps : List Str} {sp : Sp} (c : Cal P w K mg base CX j x ps sp) (h : j ≤ k) : Cal P w K mg base CX k x ps sp :=
  let ⟨f, fd, h1, h2, h3, h4⟩ := c.ex
  ⟨f, fd, h1, h2, h3, h4.mono h⟩
theorem pe_cal {X : Cx} {CX : CXT} {k : Nat} {x : Str} {ps : List Str} {sp : Sp} {E : XK} {e : Expr} {es : List Expr} {t : TA} {p pos : Pos} (C : Cal X.prog X.w X.K X.mg X.base CX k x ps sp) (hr : Room k X.A) (hx : Passes CX X E) (ha : PA X (e :: es) t) (hg : Gl X x := by rfl)
    (hdb : (x == ("__debug__" : Str)) = false := by decide) (he : starEach (e :: es) X.env = (false, eval e X.env) :: starEach es X.env := by rfl) (hpl : (backTo pos (starEach es X.env)).any (·.1) = false := by rfl) :
    PE X (.Call (.Name x p) (e :: es) [] pos) (tCall sp [] E t) := by
  obtain ⟨f, fd, h1, h2, h3, h4⟩ := C.ex
  exact pe_call h4 hr hg h1 h2 h3 .nil hx ha hdb he hpl
theorem pe_cal0 {X : Cx} {CX : CXT} {k : Nat} {x : Str} {ps : List Str} {sp : Sp} {E : XK} {p pos : Pos} (C : Cal X.prog X.w X.K X.mg X.base CX k x ps sp) (hr : Room k X.A) (hx : Passes CX X E) (hg : Gl X x := by rfl)
    (hdb : (x == ("__debug__" : Str)) = false := by decide) :
    PE X (.Call (.Name x p) [] [] pos) (tCall sp [] E tNil) := by
  obtain ⟨f, fd, h1, h2, h3, h4⟩ := C.ex
  exact pe_call0 h4 hr hg h1 h2 h3 .nil hx hdb
/-- the exceptions that a def of ours lets out -/
abbrev XC (P : Program) (w : World) : CXT := L2N.CX P w
theorem passX {X : Cx} {E : XK} (hs : X.stack = X.env :: X.outer) (hf : X.env.frame = some X.env.locals) (hex : X.ex = []) {E₁ : Value → Shared → Prop}
    (hx : X.xe = fun e s' => wpAny (model X.prog X.w) X.A (leaving X.env e) (fun _ s'' => L2N.CX X.prog X.w X.outer X.H_0 X.s_0 E e s'') E₁ s') : Passes (L2N.CX X.prog X.w) X E :=
  L2N.passes_call (L2N.takes_of hs hf hex hx) fun _ _ _ _ h => h
/-- promises by a relation between data -/
def spF (K : PySem.W.Frag) (n : Nat) (A : List PyData → PyData → Prop) : Sp := fun vs H Q _ => ∃ F ds d, Fd F H ∧ DaL K (hid F H) ds vs ∧ ds.length = n ∧ A ds d ∧ ∀ v H', Same H H' → Da K (hid F H') d v → Q v H'
def spG (K : PySem.W.Frag) (n : Nat) (A : List PyData → Except Str PyData → Prop) : Sp := fun vs H Q E => ∃ F ds r, Fd F H ∧ DaL K (hid F H) ds vs ∧ ds.length = n ∧ A ds r ∧
  (∀ d, r = .ok d → ∀ v H', Same H H' → Da K (hid F H') d v → Q v H') ∧ (∀ c, r = .error c → ∀ H', Same H H' → E (.ref (He.ga K c)) none H')
theorem spF.len {K : PySem.W.Frag} {n : Nat} {A : List PyData → PyData → Prop} {vs : List V} {H : Hp} {Q : VK} {E : XK} (h : spF K n A vs H Q E) : vs.length = n := by
  obtain ⟨F, ds, d, _, h1, h2, _⟩ := h
  rw [h1.length, h2]
theorem spG.len {K : PySem.W.Frag} {n : Nat} {A : List PyData → Except Str PyData → Prop} {vs : List V} {H : Hp} {Q : VK} {E : XK} (h : spG K n A vs H Q E) : vs.length = n := by
  obtain ⟨F, ds, d, _, h1, h2, _⟩ := h
  rw [h1.length, h2]
theorem sd_F {K : PySem.W.Frag} {n : Nat} {A : List PyData → PyData → Prop} {ds : List PyData} {d : PyData} (h : A ds d) (hn : ds.length = n) : SD K (spF K n A) ds d := fun F vs H f l Q E k => ⟨F, ds, d, f, l, hn, h, k⟩
abbrev FnD (K : PySem.W.Frag) (x : Str) (st : Stmt) : Prop := ∃ fd, FunD K x x (defArgs st) (defBody st) (defScope st) [] [] (He.ga K x) fd
section
variable {P : Program} {w : World} {K : PySem.W.Frag} {mg : Str → Option Value} {base : Heap}
/-- THE RULE for a pure def -/
theorem cal_F {x : Str} {st : Stmt} {N ps : List Str} {k n : Nat} {A : List PyData → PyData → Prop} (FD : FnD K x st) (gx : mg x = some (.ref (He.ga K x))) (S : FnScope N ps (defScope st)) (hn : n = ps.length)
    (hb : ∀ (kV doc pm : Value) (an : Option Addr) (cdv ct : Value) (us : List Value), us.length = ps.length → bindArgs (PySem.W.fnOf x x (defArgs st) (defBody st) (defScope st) .none kV doc pm an cdv ct) ⟨us, []⟩ = pure (ps.zip us))
    (hbody : ∀ (f : Addr) (cdv : Value) (A' : Around) (outer : List Env) (s : Shared) (H : Hp) (vs : List V) (Q : VK) (E : XK) (F : List Addr) (ds : List PyData) (d : PyData), Room k (A'.deeper (envOfC x (defScope st) s.heap.objs.size f cdv)) → Fd F H → DaL K (hid F H) ds vs → A ds d → (∀ v H', Same H H' → Da K (hid F H') d v → Q v H') →
      ∃ t, PSs (cxOf CX0 P w K mg base N x (defScope st) f cdv A' outer s H E).nox (defBody st) t ∧ t { nx := fun _ H' => Q .non H', rt := Q } (start N vs) H) : Cal P w K mg base CX0 (k + 1) x ps (spF K n A) := by
  obtain ⟨fd, FD⟩ := FD
  refine ⟨_, fd, gx, FD.kp, FD.bindsN hb, FD.ok S (fun vs H Q E h => hn ▸ h.len) fun cdv A' outer s H vs Q E hr h => ?_⟩
  obtain ⟨F, ds, d, f, l, _, a, q⟩ := h
  obtain ⟨t, h1, h2⟩ := hbody _ cdv A' outer s H vs Q E F ds d hr f l a q
  exact ⟨t, h1.nox, h2⟩
/-- .. for one that may raise -/
theorem cal_G {x : Str} {st : Stmt} {N ps : List Str} {k n : Nat} {A : List PyData → Except Str PyData → Prop} (FD : FnD K x st) (gx : mg x = some (.ref (He.ga K x))) (S : FnScope N ps (defScope st)) (hn : n = ps.length)
    (hb : ∀ (kV doc pm : Value) (an : Option Addr) (cdv ct : Value) (us : List Value), us.length = ps.length → bindArgs (PySem.W.fnOf x x (defArgs st) (defBody st) (defScope st) .none kV doc pm an cdv ct) ⟨us, []⟩ = pure (ps.zip us))
    (hbody : ∀ (f : Addr) (cdv : Value) (A' : Around) (outer : List Env) (s : Shared) (H : Hp) (vs : List V) (Q : VK) (E : XK) (F : List Addr) (ds : List PyData) (r : Except Str PyData), Room k (A'.deeper (envOfC x (defScope st) s.heap.objs.size f cdv)) → Fd F H → DaL K (hid F H) ds vs → A ds r →
      (∀ d, r = .ok d → ∀ v H', Same H H' → Da K (hid F H') d v → Q v H') → (∀ c, r = .error c → ∀ H', Same H H' → E (.ref (He.ga K c)) none H') →
      ∃ t, PSs (cxOf (XC P w) P w K mg base N x (defScope st) f cdv A' outer s H E) (defBody st) t ∧ t { nx := fun _ H' => Q .non H', rt := Q } (start N vs) H) : Cal P w K mg base (XC P w) (k + 1) x ps (spG K n A) := by
  obtain ⟨fd, FD⟩ := FD
  refine ⟨_, fd, gx, FD.kp, FD.bindsN hb, FD.ok S (fun vs H Q E h => hn ▸ h.len) fun cdv A' outer s H vs Q E hr h => ?_⟩
  obtain ⟨F, ds, r, f, l, _, a, q1, q2⟩ := h
  exact hbody _ cdv A' outer s H vs Q E F ds r hr f l a q1 q2
end
/-! ### statements -/
theorem s_next {nx : L2.St → Hp → Prop} {rt : VK} {bk ct : L2.St → Hp → Prop} {σ : L2.St} {H : Hp} (h : nx σ H) : tNext ⟨nx, rt, bk, ct⟩ σ H := h
theorem s_seq {t u : TS} {D : Ends} {σ : L2.St} {H : Hp} (h : t ⟨u D, D.rt, D.bk, D.ct⟩ σ H) : tSeq t u D σ H := h
section
variable {R : Hp → Hp → Prop} [ROk R] {K : PySem.W.Frag} {F : List Addr} {σ : L2.St} {H H' : Hp} {ta tb te : TE} {d : PyData} {v : V} {D : Ends} {nx bk ct : L2.St → Hp → Prop} {rt : VK} {t u : TS} {c : TT}
theorem s_set {i : Nat} (h : DV R K F te σ H d) (f : Fd F H) (k : ∀ v H1, R H H1 → Da K (hid F H1) d v → nx (σ.set i (some v)) H1) : tAsg te (gName i) ⟨nx, rt, bk, ct⟩ σ H := h H (r_refl H) f _ k
theorem s_ret (h : DV R K F te σ H d) (f : Fd F H) (k : ∀ v H1, R H H1 → Da K (hid F H1) d v → rt v H1) : tRet te ⟨nx, rt, bk, ct⟩ σ H := h H (r_refl H) f _ k
theorem s_drop (h : DV R K F te σ H d) (f : Fd F H) (k : ∀ H1, R H H1 → nx σ H1) : tDrop te ⟨nx, rt, bk, ct⟩ σ H := h H (r_refl H) f _ fun _ H1 r _ => k H1 r
theorem s_if {b : Bool} (h : DT R F c σ H b) (f : Fd F H) (h1 : b = true → ∀ H1, R H H1 → t D σ H1) (h2 : b = false → ∀ H1, R H H1 → u D σ H1) : tIfS c t u D σ H := h H (r_refl H) f _ fun H1 r => by
  cases b with
  | true => exact h1 rfl H1 r
  | false => exact h2 rfl H1 r
/-- a call of a def that may raise, its value dropped -/
theorem s_call {n : Nat} {A : List PyData → Except Str PyData → Prop} {E : XK} {tr : TA} {ds : List PyData} {r : Except Str PyData} (h : DA R K F tr σ H ds) (f : Fd F H) (ha : A ds r) (hn : ds.length = n)
    (k1 : ∀ d, r = .ok d → ∀ H1, R H H1 → nx σ H1) (k2 : ∀ c, r = .error c → ∀ H1, R H H1 → E (.ref (He.ga K c)) none H1) : tDrop (tCall (spG K n A) [] E tr) ⟨nx, rt, bk, ct⟩ σ H :=
  h H (r_refl H) f _ fun vs H1 r1 l => by
    rw [List.append_nil]
    exact ⟨F, ds, r, r_fd r1 f, l, hn, ha, fun d e v H2 s2 _ => k1 d e H2 (ROk.trans r1 (ROk.same s2)), fun c e H2 s2 => k2 c e H2 (ROk.trans r1 (ROk.same s2))⟩
/-- l.append(e), l the owner's -/
theorem s_append {i : Nat} {l : Addr} {xs : List V} (hσ : σ[i]? = some (some (.ref l))) (hl : H l = some (.lst xs)) (f : Fd F H) (h : DV R K (l :: F) te σ H d) (hz : xs.length < sizeLine)
    (k : ∀ v H1, R H H1 → Da K (hid (l :: F) H1) d v → nx σ (upd H1 l (.lst (xs ++ [v])))) : tDrop (tBM K "list" rAppend (tVar i) (tCons te tNil)) ⟨nx, rt, bk, ct⟩ σ H := by
  refine ⟨_, hσ, Or.inl ⟨rfl, _, SqL.of hl⟩, ?_⟩
  refine h H (r_refl H) (f.cons hl fun ps z => by cases z) _ fun v H1 r1 hv => ?_
  exact ⟨l, xs, v, rfl, rfl, ROk.ext r1 _ _ hl (fun ps z => by cases z), hz, k v H1 r1 hv⟩
/-- an owner's list changed: what is not the owner's stays -/
theorem hid_chg {l : Addr} {H1 : Hp} {o : HO} : Xt (hid (l :: F) H1) (hid (l :: F) (upd H1 l o)) := fun b u e nt => by
  obtain ⟨e1, e2⟩ := hid_le e
  rw [hid_out e2, upd_ne fun z => e2 (by rw [z]; exact List.mem_cons_self)]
  exact e1
/-- for x in l: a list that stays, as all that is not the owner's -/
theorem s_forL {i : Nat} {ds : List PyData} {tb : TS} (h : DV R K F ta σ H (.list ds)) (f : Fd F H)
    (k : ∀ H1, R H H1 → Fd F H1 → ∃ Pv : Nat → L2.St → Hp → Prop, Pv 0 σ H1 ∧ (∀ j σ' H', Pv j σ' H' → Xt (hid F H1) (hid F H')) ∧
      (∀ j σ' H' d v, ds[j]? = some d → Pv j σ' H' → Da K (hid F H') d v → tb ⟨Pv (j + 1), rt, nx, Pv (j + 1)⟩ (σ'.set i (some v)) H') ∧ (∀ σ' H', Pv ds.length σ' H' → nx σ' H')) :
    tFor (iList K ta) (gName i) tb ⟨nx, rt, bk, ct⟩ σ H := h H (r_refl H) f _ fun v H1 r1 hv => by
  obtain ⟨a, xs, e1, g, l⟩ := hv
  obtain ⟨Pv, p0, px, ps, pd⟩ := k H1 r1 (r_fd r1 f)
  refine ⟨a, e1, ⟨xs, SqL.of (hid_le g).1⟩, for_list (K := K) (a := a) (xs := xs) (D := ⟨nx, rt, bk, ct⟩) Pv p0 (fun j σ' H' _ p => ?_) (fun j x σ' H' hx p => ?_) (fun σ' H' p => pd σ' H' (by rw [← l.length]; exact p))⟩
  · exact SqL.of (hid_le (px j σ' H' p a _ g fun ps z => by cases z)).1
  · obtain ⟨d, hd1, hdv⟩ := l.get' hx
    exact ps j σ' H' d x hd1 p (hdv.mono (px j σ' H' p))
/-- for x in range(n) -/
theorem s_forR {i : Nat} {n : Int} {tb : TS} (h : DV R K F ta σ H (.int n)) (f : Fd F H) (h0 : -1000000 ≤ n) (h1 : n ≤ 1000000)
    (k : ∀ H1, R H H1 → Fd F H1 → ∃ Pv : Nat → L2.St → Hp → Prop, Pv 0 σ H1 ∧
      (∀ (j : Nat) σ' H', (j : Int) < n → Pv j σ' H' → tb ⟨Pv (j + 1), rt, nx, Pv (j + 1)⟩ (σ'.set i (some (.int (j : Int)))) H') ∧ (∀ σ' H', Pv n.toNat σ' H' → nx σ' H')) :
    tFor (iRng1 (tCons ta tNil)) (gName i) tb ⟨nx, rt, bk, ct⟩ σ H := h H (r_refl H) f _ fun v H1 r1 hv => by
  have hv : v = .int n := hv
  subst hv
  obtain ⟨Pv, p0, ps, pd⟩ := k H1 r1 (r_fd r1 f)
  refine ⟨n, rfl, by omega, by omega, for_range (lo := 0) (n := n.toNat) (D := ⟨nx, rt, bk, ct⟩) Pv p0 (fun j σ' H' hj p => ?_) pd⟩
  have e : (0 : Int) + (j : Int) = (j : Int) := Int.zero_add _
  rw [e]
  exact ps j σ' H' (by omega) p
end
end Sc

namespace Sc
open PySem PySem.Spec PyProof.Rows L2
/-! ### lists walked while an exception is handled -/
section
variable {prog : Program} {w : World} {A : Around} {E : Value → Shared → Prop} {s : Shared}
theorem hot_end {it l x1 : Addr} {i : Nat} {its : Array Value} {Q : Option Value → Shared → Prop} (hot : HotX.HotAt A x1 s.heap) (nx : x1 ≠ it) (hi : s.heap.IsListIter it l i) (hl : s.heap.IsList l its) (he : its[i]? = none)
    (k : ∀ h', (∀ b o, b ≠ it → s.heap.get? b = some o → h'.get? b = some o) → Q none { s with heap := h' }) : wpAny (model prog w) A (pyNext (.ref it)) Q E s := by
  obtain ⟨hh, o1, vs1, g1, d1, c1⟩ := hot
  obtain ⟨oi, gi, ci, di⟩ := id hi
  obtain ⟨ol, gl, _, nl, dl⟩ := hl
  unfold pyNext
  refine wpAny_bind (wpAny_attempt (wpAny_callSpecial?_slot (name := Str.ofString "__next__") hi.typeIs slot_listiter_next (wpAny_call_entry slot_listiter_next hi.typeIs entry_listiter_next ?_ (args_listiter_next _))))
  show wpAny _ _ (field (.ref it) 0 >>= _) _ _ s; refine wpAny_bind (wpAny_field gi di (x := .ref l) rfl ?_)
  show wpAny _ _ (if (Value.ref l == Value.none) = true then _ else _) _ _ s; rw [if_neg (show ¬ ((Value.ref l == Value.none) = true) from Bool.false_ne_true)]
  show wpAny _ _ (field (.ref it) 1 >>= _) _ _ s; refine wpAny_bind (wpAny_field gi di (x := .int i 0) rfl ?_)
  show wpAny _ _ (seqItems? (.ref l) >>= _) _ _ s; refine wpAny_bind (wpAny_seqItems gl dl ?_)
  simp only [Int.toNat_natCast, he]
  refine wpAny_bind (wpAny_rule (wpAny_bind (wpAny_setField gi di (by simp) ?_)))
  generalize hg : s.heap.update it _ = hA
  have gA : ∀ b o, b ≠ it → s.heap.get? b = some o → hA.get? b = some o := fun b o hb e => by rw [← hg]; exact (Heap.get?_update_other _ _ (Ne.symm hb)).trans e
  show wpAny _ _ (newExc (.type "StopIteration") [] >>= _) _ _ _; refine wpAny_bind ?_; simp only [newExc, newTuple]
  refine wpAny_bind (wpAny_newObj_type ?_ (by size_fits)); refine wpAny_bind (m := firstArgMember _ _) (wpAny_of_eq (a := Value.none) (by first | rfl | (simp only [firstArgMember]; rfl)) ?_); refine wpAny_newObj_type ?_ (by size_fits)
  have g2 := gA x1 o1 nx g1
  refine HotX.raiseNew_hot ⟨hh, o1, vs1, Heap.get?_push_of_some _ (Heap.get?_push_of_some _ g2), d1, c1⟩ (Nat.ne_of_lt (Heap.lt_size (Heap.get?_push_of_some _ g2))) (Heap.get?_push_size _ rfl) rfl (by first | (simp; done) | (simp; omega)) ?_
  refine wpAny_bind (wpAny_isInstance (T := "StopIteration") (b := true) ⟨_, Heap.get?_update_self _ (Heap.get?_push_size _ rfl) rfl, rfl⟩ isSubtype_stop ?_)
  refine wpAny_pure (k _ fun b o hb e => ?_)
  rw [Heap.get?_update_other _ _ (Nat.ne_of_gt (Heap.lt_size (Heap.get?_push_of_some _ (gA b o hb e))))]
  exact Heap.get?_push_of_some _ (Heap.get?_push_of_some _ (gA b o hb e))
/-- the handled exception's object, as it stands -/
def HotO (x1 : Addr) (h : Heap) : Prop := ∃ (o : Obj) (vs : Array Value), h.get? x1 = some o ∧ o.data = .fields vs ∧ vs[2]? = some .none
theorem HotO.at {x1 : Addr} {h h' : Heap} (x : HotO x1 h) (e : ∀ o, h.get? x1 = some o → h'.get? x1 = some o) : HotO x1 h' := let ⟨o, vs, g, d, c⟩ := x; ⟨o, vs, e o g, d, c⟩
theorem walks_hot {x1 : Addr} (hh : A.handled = some (.ref x1)) (I ax : Addr) (hne : ax ≠ I) (hnx : x1 ≠ I) (its : Array Value) :
    Walks prog w A I [I, ax, x1] [I] its.size (fun i v => its[i]? = some v) (fun i h => h.IsListIter I ax i ∧ h.IsList ax its ∧ HotO x1 h) where
  sub := fun b hb => by
    have e : b = I := by simpa using hb
    simp [e]
  frame := fun _ _ _ st hk => ⟨st.1.at fun o e => hk I (by simp) o e, st.2.1.at fun o e => hk ax (by simp) o e, st.2.2.at fun o e => hk x1 (by simp) o e⟩
  item := fun i s Q E hi st hQ => wpAny_pyNext_list_item st.1 st.2.1 (x := its[i]) (by simp [hi]) fun h' hit' hs' =>
    hQ _ h' s.toks (by simp [hi]) ⟨hit', st.2.1.extBut hs'.extBut hne, st.2.2.at fun o e => hs'.extBut _ o hnx e⟩ fun b o hb e => hs'.extBut b o (fun z => hb (by simp [z])) e
  done := fun s Q E st hQ => by
    obtain ⟨o, vs, g, d, c⟩ := st.2.2
    exact hot_end ⟨hh, o, vs, g, d, c⟩ hnx st.1 st.2.1 (by simp) fun h' k => hQ h' s.toks fun b o hb e => k b o (fun z => hb (by simp [z])) e
  self := fun _ _ _ _ st hQ => wpAny_pyIter_listiter st.1 hQ
/-- sum of a list of ints there -/
theorem hot_sum {x1 l : Addr} {its : List Value} {ns : List Int} {Q : Value → Shared → Prop} (hh : A.handled = some (.ref x1)) (hx : HotO x1 s.heap) (hl : s.heap.IsList l its.toArray) (hi : IntsAre its ns)
    (k : ∀ h' tk t', (∀ b o, s.heap.get? b = some o → h'.get? b = some o) → Q (.int ns.sum t') { s with heap := h', toks := tk }) : wpAny (model prog w) A (call (.builtin "sum") [.ref l]) Q E s := by
  obtain ⟨xs, e⟩ := hi.allInts.items
  have hn : numsOf (intItems xs).toList = ns := by rw [← e]; exact hi.numsOf
  rw [nums_intItems] at hn
  rw [e] at hl
  have hxl : x1 < s.heap.objs.size := by obtain ⟨o, _, g, _⟩ := hx; exact Heap.lt_size g
  refine call_sum_walkG (iter_intList hl fun s2 e2 st hfp hlI => ?_)
  subst e2
  refine ⟨_, _, _, _, _, _, numAt xs, rfl, walks_hot (A := A.in1) hh _ l hlI (Nat.ne_of_lt hxl) (intItems xs), ⟨st.1, st.2, hx.at fun o g => Heap.get?_push_of_some _ g⟩, fun b hb => ?_, fun _ _ => intItems_at, fun h' tk t' hk => ?_⟩
  · rcases List.mem_cons.mp hb with z | z
    · exact hfp b (by simp [z])
    · rcases List.mem_cons.mp z with z | z
      · exact hfp b (by simp [z])
      · have z : b = x1 := by simpa using z
        rw [z]
        show x1 < (s.heap.push _).objs.size
        rw [Heap.size_push]
        exact Nat.lt_succ_of_lt hxl
  · have z := k h' tk t' (old_kept hk)
    rw [← hn, ← List.take_of_length_le (l := xs.toList.map (·.1)) (i := xs.size) (by simp), ← preSum_eq] at z
    simpa [intItems] using z
end
end Sc

namespace Sc
open PySem PySem.Spec PyProof.Rows L2
theorem boot_int : bootBuiltins "int" = some (.type "int") := by decide +kernel
theorem a_lt {b l x N : Nat} (h1 : l < N) (h2 : x < N) (h : b = N ∨ b = l ∨ b = x) : b < N + 1 := by omega
theorem a_off {b N C D : Nat} (hb : b < N ∨ b = C) (hC : N + 1 ≤ C) (hD : N + 1 ≤ D) (h : D ≠ C) : ¬ (b = D ∨ b = N) := by omega
theorem a_ne {b N C : Nat} (hb : b < N + 1) (hC : N + 1 ≤ C) : b ≠ C := by omega
theorem vals_bools : ∀ {bs : List Bool} {us : List Value}, Vals (bs.map V.bl) us → us = bs.map Value.bool
  | [], us, r => by cases r; rfl
  | b :: bs, us, r => by
    cases r with
    | cons r1 rr =>
      have e : _ = Value.bool b := r1
      rw [e, vals_bools rr]
      rfl
abbrev b2i (b : Bool) : Int := if b then 1 else 0
abbrev flagsE (scope : Scope) (pa p1 p2 p3 pi pos : Pos) : Expr := .ListComp (.Call (.Name "int" p1) [.Name "flag" p2] [] p3) [⟨.Name "flag" pa, .Name "flags" pi, [], 0⟩] scope pos
theorem nums_of {bs : List Bool} {us : List Value} (h : Paired (fun (b : Bool) (u : Value) => ∃ t, u = .int (b2i b) t) bs us) : Vals (bs.map fun b => V.int (b2i b)) us := by
  induction h with
  | nil => exact .nil
  | cons a _ ih =>
    obtain ⟨t, e⟩ := a
    exact .cons ⟨t, e⟩ ih
/-- [int(flag) for flag in flags], while an exception is handled -/
theorem pe_flags0 {X : Cx} {i : Nat} {scope : Scope} {cl : List (Str × Addr)} {pa p1 p2 p3 pi pos : Pos} (hot : L2H.HotC X) (hmI : X.mg "int" = none) (hi : X.N[i]? = some ("flags" : Str)) (hv : Vis X.env.scope "flags")
    (hclos : closureFor scope X.env = pure cl) (hcell : ∀ y ∈ scope.names, y.2 ≠ .cell) (hkind : scope.kind = .function) (hnames : ∀ y ∈ scope.names, y.2 = .local → scope.names.lookup y.1 = some .local)
    (hx : scope.names.lookup ("flag" : Str) = some .local) (hI : ∀ C, (compEnvC scope cl C X.env).kindOf "int" = some .globalImplicit) (hs : ∀ x, foldedSetIterable (.Name "flags" pi) X.env x = pure x := by intro _; rfl) :
    PE X (flagsE scope pa p1 p2 p3 pi pos) (fun σ H Q => ∃ (l : Addr) (bs : List Bool), σ[i]? = some (some (.ref l)) ∧ H l = some (.lst (bs.map V.bl)) ∧ ∀ D, H D = none → Q (.ref D) (upd H D (.lst (bs.map fun b => V.int (b2i b))))) := by
  refine ⟨fun pins s σ H Q I h => ?_⟩
  obtain ⟨l, bs, hσ, hl, q⟩ := h
  obtain ⟨p, ⟨hh, v1, e1, c1⟩, hp⟩ := hot
  refine ListComp_goes hclos hcell hkind hnames ?_ hs
  refine thn ((pe_var (pos := pi) (i := i) hi hv).run pins s σ H (fun v H1 => v = .ref l ∧ H1 = H) I ⟨.ref l, hσ, rfl, rfl⟩) fun u s1 hu => ?_
  obtain ⟨v, H1, I1, rv, rfl, rfl⟩ := hu
  obtain rfl : u = Value.ref l := rv
  have P1 := I1.pin p (List.mem_append_left _ hp)
  obtain ⟨hz, its, n0, rits, gl⟩ := I1.hok l _ hl
  have eits := vals_bools rits
  subst eits
  have hz : bs.length ≤ sizeLine := by simpa using hz
  have il : s1.heap.IsList l (bs.map Value.bool).toArray := ⟨_, gl, rfl, _, rfl⟩
  have hlt : l < s1.heap.objs.size := Heap.lt_size gl
  have hxlt : p.1 < s1.heap.objs.size := Heap.lt_size P1.1
  have hxo : HotO p.1 s1.heap := ⟨p.2, v1, P1.1, e1, c1⟩
  refine wpAny_pyIter_list il ?_
  have nx : p.1 ≠ s1.heap.objs.size := Nat.ne_of_lt hxlt
  refine ⟨s1.heap.objs.size, _, _, _, _, _, rfl, Goes.ofWalks (walks_hot hh s1.heap.objs.size l (Nat.ne_of_lt hlt) nx (bs.map Value.bool).toArray) (fun i v s Q E st q => ?_), ?_, ⟨⟨_, Heap.get?_push_size _ rfl, rfl, rfl⟩, il.push _, hxo.at fun o g => Heap.get?_push_of_some _ g⟩, ?_, fun D C s3 hB => ?_⟩
  · obtain ⟨o, ho, hc, hd⟩ := st.1
    exact letGo_of_cls ho hc hd (by decide) q
  · simpa using hz
  · intro b hb
    show b < (s1.heap.push _).objs.size
    rw [Heap.size_push]
    exact a_lt hlt hxlt (by simpa using hb)
  · obtain ⟨⟨h3, tk3, rfl⟩, old, nD, nC, hDC, hnm⟩ := hB
    have nC' : s1.heap.objs.size + 1 ≤ C := by
      have q : (s1.heap.push { cls := .type "list_iterator", data := .fields #[.ref l, .int 0 0] }).objs.size ≤ C := nC
      rw [Heap.size_push] at q
      exact q
    have nD' : s1.heap.objs.size + 1 ≤ D := by
      have q : (s1.heap.push { cls := .type "list_iterator", data := .fields #[.ref l, .int 0 0] }).objs.size ≤ D := nD
      rw [Heap.size_push] at q
      exact q
    have kx : (compEnvC scope cl C X.env).kindOf "flag" = some .local := lookup_relabel_local hx
    have hpp : ((compEnvC scope cl C X.env).scope.kind == .class || ((compEnvC scope cl C X.env).scope.kind == .module && (compEnvC scope cl C X.env).locals != (compEnvC scope cl C X.env).globals)) = false := by
      show (scope.kind == .class || (scope.kind == .module && _)) = false
      rw [hkind]; rfl
    refine ⟨fun i vs s2 => ∃ h' tk m, s2 = { s1 with heap := h', toks := tk } ∧ h'.Ns C m ∧ Paired (fun (b : Bool) (u : Value) => ∃ t, u = .int (b2i b) t) (bs.take i) vs ∧ ∀ b o, s1.heap.get? b = some o → h'.get? b = some o,
      ⟨h3, tk3, _, rfl, hnm, by simpa using Paired.nil, fun b o e => old b o (Heap.get?_push_of_some _ e)⟩, ?_, ?_, ?_⟩
    · rintro i vs s2 h' tk ⟨h4, tk4, m, rfl, n4, e4, k4⟩ hk' _
      have off : ∀ b : Addr, (b < s1.heap.objs.size ∨ b = C) → b ∉ D :: [s1.heap.objs.size] := fun b hb hm => a_off hb nC' nD' hDC (by simpa using hm)
      exact ⟨h', tk, m, rfl, n4.at' fun o e => hk' _ o (off _ (.inr rfl)) e, e4, fun b o e => hk' b o (off _ (.inl (Heap.lt_size e))) (k4 b o e)⟩
    · rintro i v vs s2 hi2 hv2 st ⟨h4, tk4, m, rfl, n4, e4, k4⟩ hpl
      have hv3 : (bs.map Value.bool)[i]? = some v := by simpa using hv2
      rw [List.getElem?_map] at hv3
      obtain ⟨b, hb, rfl⟩ := Option.map_eq_some_iff.mp hv3
      refine wpAny_assign_Name (wpAny_storeName_local kx n4 (fun h5 n5 s5 => ?_) hpp)
      refine wpAny_tests_nil ?_
      have offC : ∀ b : Addr, b < s1.heap.objs.size + 1 → b ≠ C := fun b hb => a_ne hb nC'
      have k5 : ∀ b o, s1.heap.get? b = some o → h5.get? b = some o := fun b o e => s5.extBut b o (offC b (Nat.lt_succ_of_lt (Heap.lt_size e))) (k4 b o e)
      show wpAny _ _ (eval (.Call (.Name "int" p1) [.Name "flag" p2] [] p3) (compEnvC scope cl C X.env)) _ _ _
      obtain ⟨mb, hb1, hb2⟩ := I1.mod.blt
      have I5 : Inv X pins σ H1 { s1 with heap := h5, toks := tk4 } := I1.kept k5
      refine wpAny_Call_Name_kw (Calls.Name_function_global hkind (hI C) (Calls.loadGlobal_builtin (mg := X.mg) (by show h5.Ns X.env.globals X.mg; rw [I1.ok.glob]; exact I5.mod.glob.keeps I5.bk) hmI (by show h5.Ns X.env.builtins mb; rw [I1.ok.blt]; exact hb1.keeps I5.bk) ((hb2 "int" (by decide)).trans boot_int) ?_) (by decide))
      refine PyProof.Rows.callWith_type1 ?_ rfl rfl
      show wpAny _ _ (spliced ((false, eval (.Name "flag" p2) (compEnvC scope cl C X.env)) :: backTo p3 (starEach [] (compEnvC scope cl C X.env)))) _ _ _
      refine Calls.spliced_cons ?_
      rw [eval_Name _ _ _ (by decide)]
      refine wpAny_bind (wpAny_standAt (wpAny_loadName_local hkind kx n5 (v := .bool b) (if_pos rfl) ?_))
      refine Calls.spliced_nil (call_int_bool ⟨⟨h5, _, _, rfl, n5, ?_, k5⟩, ⟨st.1.at fun o e => s5.extBut _ o (offC _ (Nat.lt_succ_self _)) e, st.2.1.at fun o e => s5.extBut _ o (offC _ (Nat.lt_succ_of_lt hlt)) e, st.2.2.at fun o e => s5.extBut _ o (offC _ (Nat.lt_succ_of_lt hxlt)) e⟩, hpl.at fun o e => s5.extBut _ o hDC e⟩)
      rw [List.take_add_one, hb]
      exact Paired.snoc e4 ⟨_, rfl⟩
    · rintro vs s2 ⟨h4, tk4, m, rfl, n4, e4, k4⟩ hpl
      refine ⟨m, n4, fun h' hs' => ?_⟩
      have k6 : ∀ b o, s1.heap.get? b = some o → h'.get? b = some o := fun b o e => hs'.extBut b o (a_ne (Nat.lt_succ_of_lt (Heap.lt_size e)) nC') (k4 b o e)
      have hpl' := hpl.extBut hs'.extBut hDC
      obtain ⟨n9, g9⟩ := hpl'
      have nH : H1 D = none := I1.hok.fresh (Nat.le_of_succ_le nD')
      have e5 : Vals (bs.map fun b => V.int (b2i b)) vs := by
        have := nums_of e4
        rwa [List.take_of_length_le (by simp)] at this
      exact ⟨.ref D, upd H1 D (.lst (bs.map fun b => V.int (b2i b))), I1.laid k6 (Nat.le_of_succ_le nD') ⟨by simpa using hz, vs, n9, e5, g9⟩, rfl, q D nH⟩

def flagsOk (scope : Scope) : Bool := decide (scope.kind = .function) && (scope.names.lookup ("flag" : Str) == some .local) && scope.names.all fun y => !decide (y.2 = .free) && !decide (y.2 = .cell) && (!decide (y.2 = .local) || scope.names.lookup y.1 == some .local)
theorem pe_flags {X : Cx} (i : Nat) {scope : Scope} {pa p1 p2 p3 pi pos : Pos} (hot : L2H.HotC X) (hmI : X.mg "int" = none) (hs : flagsOk scope = true) (hv : Vis X.env.scope "flags") (hi : X.N[i]? = some ("flags" : Str) := by rfl)
    (hI : ∀ C, (compEnvC scope (cloFrom X.env.cells scope.names []) C X.env).kindOf "int" = some .globalImplicit := by intro _; rfl) :
    PE X (flagsE scope pa p1 p2 p3 pi pos) (fun σ H Q => ∃ (l : Addr) (bs : List Bool), σ[i]? = some (some (.ref l)) ∧ H l = some (.lst (bs.map V.bl)) ∧ ∀ D, H D = none → Q (.ref D) (upd H D (.lst (bs.map fun b => V.int (b2i b))))) := by
  unfold flagsOk at hs
  simp only [Bool.and_eq_true, Bool.or_eq_true, Bool.not_eq_true', decide_eq_true_eq, decide_eq_false_iff_not, List.all_eq_true, beq_iff_eq] at hs
  obtain ⟨⟨h1, h2⟩, h3⟩ := hs
  exact pe_flags0 hot hmI hi hv (closure_ok fun y hy e => absurd e (h3 y hy).1.1) (fun y hy => (h3 y hy).1.2) h1 (fun y hy e => (h3 y hy).2.resolve_left fun z => z e) h2 hI
theorem _root_.L2H.RoomH.units {k : Nat} {A : Around} (r : L2H.RoomH k A) : A.units + 64 < cLine := by have := r.un; omega
theorem ints_are : ∀ {ns : List Int} {us : List Value}, Vals (ns.map V.int) us → IntsAre us ns
  | [], us, r => by cases r; exact .nil
  | n :: ns, us, r => by
    cases r with
    | cons r1 rr =>
      obtain ⟨t, e⟩ := r1
      subst e
      exact .cons _ _ (ints_are rr)
/-- sum of a list of ints there -/
def rSumH : List V → Hp → VK → Prop := fun xs H Q => ∃ (l : Addr) (ns : List Int), xs = [.ref l] ∧ H l = some (.lst (ns.map V.int)) ∧ Q (.int ns.sum) H
theorem cr_sumH {X : Cx} (hot : L2H.HotC X) : CallR X (.builtin "sum") rSumH := by
  intro pins s σ H xs us Q I r h
  obtain ⟨l, ns, rfl, hl, q⟩ := h
  cases r with
  | cons rx rr =>
    cases rr
    cases rx
    obtain ⟨p, ⟨hh, v1, e1, c1⟩, hp⟩ := hot
    have P1 := I.pin p (List.mem_append_left _ hp)
    obtain ⟨hz, its, n0, rits, gl⟩ := I.hok l _ hl
    exact hot_sum hh ⟨p.2, v1, P1.1, e1, c1⟩ ⟨_, gl, rfl, _, rfl⟩ (ints_are rits) fun h' tk t' k => ⟨.int ns.sum, H, I.kept k, ⟨t', rfl⟩, q⟩
/-- isinstance(e, c), e a pinned error of the class D -/
theorem cr_isH {X : Cx} {a D : Addr} {oe : Obj} (C : ExcC X.K D) (hz : Zc (.ref D) none oe) (hf : ∃ vs, oe.data = .fields vs) (hp : (a, oe) ∈ X.pn) : CallR X (.builtin "isinstance") (rIsE X.K D a) := by
  intro pins s σ H xs us Q I r h
  obtain ⟨c, cv, b, rfl, hcv, e, q⟩ := h
  cases r with
  | cons rx rr =>
    cases rr with
    | cons rt rr =>
      cases rr
      cases rx
      have ec := hcv _ rt
      subst ec
      obtain ⟨hget, _⟩ := I.pin (a, oe) (List.mem_append_left _ hp)
      obtain ⟨vs, hv⟩ := hf
      have J : PySem.W.InstAt s.heap a oe D none := by
        cases oe
        obtain ⟨h1, h2⟩ := hz
        dsimp only at h1 h2 hv
        subst h1 h2 hv
        exact ⟨hget, rfl, rfl, trivial⟩
      exact PySem.W.kia_one (PySem.W.handS_kitx_exc C.hg C.hk C.hs C.hd C.ha C.hn C.ht C.hm) I.kIn J e (fun z => nomatch z) fun tk => ⟨.bl b, H, I.kept (t' := tk) fun _ _ z => z, rfl, q⟩
/-! ### the def that gets the handled exception -/
section
variable {P : Program} {w : World} {K : PySem.W.Frag} {mg : Str → Option Value} {base : Heap} {k : Nat} {f : Addr} {N : List Str} {x y : Str} {st : Stmt} {fd : FuncData}
theorem hot_run {A : Around} {outer : List Env} {s : Shared} {H : Hp} {a : Addr} {oe : Obj} {Q : VK} {E : XK} (FD : FunD K x x (defArgs st) (defBody st) (defScope st) [] [] f fd) (S : FnScope N [y] (defScope st))
    (hb : ∀ (kV doc pm : Value) (an : Option Addr) (cdv ct : Value) (us : List Value), us.length = 1 → bindArgs (PySem.W.fnOf x x (defArgs st) (defBody st) (defScope st) .none kV doc pm an cdv ct) ⟨us, []⟩ = pure ([y].zip us))
    (hr : L2H.RoomH (k + 1) A) (pin : L2H.PinOk outer H s (a, oe)) (e0 : Env0 P w K mg base A outer s H)
    (hbody : ∀ cdv, L2H.RoomH k (A.deeper (envOfC x (defScope st) s.heap.objs.size f cdv)) → ∃ t, PSs (L2H.cxH CX0 P w K mg base N x (defScope st) f cdv A outer s H E (a, oe)) (defBody st) t ∧ t { nx := fun _ H' => Q .non H', rt := Q } (L2.start N [.ref a]) H) :
    codeAny (model P w) A (.call (.ref f) ⟨[.ref a], []⟩) (CR CX0 outer P w H s Q E) s := by
  have bd := FD.bindsA (ps := [y]) hb s [.ref a] rfl
  obtain ⟨oc, od, dV, kV, doc, pm, an, cdv, ct, osl, rfl, lk, hcd, _, _⟩ := FD.ex
  have kin : K.In s.heap := e0.mod.kin.keeps fun b o e => (e0.bs b o e).1
  have nlm : s.heap.NoLimit := e0.mod.nolimit.keeps fun b o e => (e0.bs b o e).1
  refine codeAny_call_function hr.depth (kin _ _ lk) rfl S.co S.gen rfl (PySem.W.codeRec_of kin hcd) (bd _ _ _ _ ?_)
  refine wpAny_newFunctionEnv_cells S.kind (fun ⟨n, v⟩ hy => ?_) fun env he s1 xx => ?_
  · exact (S.par n (List.of_mem_zip hy).1).imp id fun q => ⟨q, PySem.W.cellsFrom_some _ _ _ (.inl q)⟩
  subst he
  refine ⟨nlm.keeps xx.toInCall.keep, codeAny_func ?_⟩
  obtain ⟨t, ht, hq⟩ := hbody cdv (hr.deeper _)
  have J : Inv (L2H.cxH CX0 P w K mg base N x (defScope st) f cdv A outer s H E (a, oe)) [] (L2.start N [.ref a]) H s1 := L2H.inv_startH S pin e0 rfl (.cons rfl .nil) xx
  refine wpAny_mono (ht.run [] s1 _ H _ J hq) (fun fl s2 h2 => ?_) fun e s2 h2 => h2
  cases fl with
  | next =>
    obtain ⟨σ2, H2, J2, q2⟩ := h2
    exact ⟨.non, H2, J2.os, J2.bare, J2.base, J2.hok, rfl, q2⟩
  | ret u =>
    obtain ⟨v2, σ2, H2, J2, r2, q2⟩ := h2
    exact ⟨v2, H2, J2.os, J2.bare, J2.base, J2.hok, r2, q2⟩
  | brk =>
    obtain ⟨_, _, _, q2⟩ := h2
    exact q2.elim
  | cont =>
    obtain ⟨_, _, _, q2⟩ := h2
    exact q2.elim
end
/-- f(e): what a def makes of a state, of the exception at a -/
structure HotFn (P : Program) (w : World) (K : PySem.W.Frag) (mg : Str → Option Value) (base : Heap) (k : Nat) (x : Str) (r : Addr → Obj → Hp → VK → Prop) : Prop where
  ex : ∃ g, mg x = some (.ref g) ∧ PySem.W.keepIn K (.ref g) = true ∧ ∀ (A : Around) (outer : List Env) (s : Shared) (H : Hp) (a : Addr) (oe : Obj) (Q : VK), L2H.RoomH k A → L2H.Hot1 A (a, oe) → L2H.PinOk outer H s (a, oe) → Env0 P w K mg base A outer s H → r a oe H Q →
    codeAny (model P w) A (.call (.ref g) ⟨[.ref a], []⟩) (CR CX0 outer P w H s Q C8.E0) s
theorem pe_hotcall {X : Cx} {k i : Nat} {x y : Str} {r : Addr → Obj → Hp → VK → Prop} {a : Addr} {oe : Obj} {p p2 pos : Pos} (hp : (a, oe) ∈ X.pn) (hot : L2H.Hot1 X.A (a, oe)) (C : HotFn X.prog X.w X.K X.mg X.base k x r) (hr : L2H.RoomH k X.A) (hi : X.N[i]? = some y) (hv : Vis X.env.scope y) (hg : Gl X x)
    (hdb : (x == ("__debug__" : Str)) = false) (hdy : (y == ("__debug__" : Str)) = false) (hcy : (y == ("__classdict__" : Str)) = false)
    (he : starEach [.Name y p2] X.env = (false, eval (.Name y p2) X.env) :: starEach [] X.env := by rfl) :
    PE X (.Call (.Name x p) [.Name y p2] [] pos) (fun σ H Q => σ[i]? = some (some (.ref a)) ∧ r a oe H Q) := by
  refine ⟨fun pins s σ H Q I h => ?_⟩
  obtain ⟨hσ, h⟩ := h
  obtain ⟨g, hm, hk, run⟩ := C.ex
  refine wpAny_Call_Name_kw (ld_glob I hg hm ?_ hdb)
  have ha : PA X [.Name y p2] (tCons (tVar i) tNil) := pa_cons (pe_var hi hv hdy hcy) pa_nil
  refine PySem.W.callWith_K (h₀ := X.base) I.ok.mod.kin hk (thn (ha.run pos pins s σ H (fun vs H1 => vs = [V.ref a] ∧ H1 = H) I ⟨_, hσ, rfl, rfl⟩) fun us s1 ⟨vs, H1, I1, r1, q1⟩ => ⟨I1.kIn, ?_⟩) he rfl
  obtain ⟨rfl, rfl⟩ := q1
  cases r1 with
  | cons ru rn =>
    cases rn
    cases ru
    have P1 := I1.pin (a, oe) (List.mem_append_left _ hp)
    have hpin : L2H.PinOk X.stack H1 s1 (a, oe) := ⟨P1.1, P1.2.1, fun hm => (List.mem_cons.mp (I1.stkSub a hm)).elim P1.2.2.1 P1.2.2.2.1, P1.2.2.2.2⟩
    refine wpAny_call (codeAny_mono (run X.A X.stack s1 H1 a oe Q hr hot hpin I1.env0 h) fun r s' hq => ?_)
    cases r with
    | error e => exact (show False from hq).elim
    | ok fl =>
      cases fl with
      | ret u => exact I1.after hq
      | next => exact False.elim hq
      | brk => exact False.elim hq
      | cont => exact False.elim hq
end Sc

namespace Sc
open PySem PySem.Spec PyProof.Rows L2
/-! ### classes of errors -/
structure WordF (K : PySem.W.Frag) (CL : List Str) : Prop where
  ec : ∀ c ∈ CL, ExcC K (He.ga K c)
  ki : ∀ c ∈ CL, ∀ c' ∈ CL, PySem.W.kitOne K (.ref (He.ga K c)) (.ref (He.ga K c')) = some (decide (c = c'))
  ve : ∀ c ∈ CL, PySem.W.kitOne K (.ref (He.ga K c)) (.type "ValueError") = some true
def excCB (K : PySem.W.Frag) (D : Addr) : Bool :=
  (PySem.W.findIn K (.ref D) "__getattribute__" == some (some (.builtin "BaseException.__getattribute__"))) && (PySem.W.findIn K (.ref D) "__getattr__" == some none) && (PySem.W.subIn K (.ref D) (.type "BaseException") == some true) && PySem.W.hasDictIn K D
  && (PySem.W.findIn K (.ref D) "__class__" == some (some (.builtin "object.__class__"))) && (PySem.W.specialIn K (.builtin "object.__class__") "__get__" == some (some (.builtin "getset_descriptor.__get__"))) && (PySem.W.takesIn K (.builtin "object.__class__") == some true) && (PySem.W.mroIn K D (.type "object") == some true)
theorem excCB_of {K : PySem.W.Frag} {D : Addr} (h : excCB K D = true) : ExcC K D := by
  unfold excCB at h
  simp only [Bool.and_eq_true, beq_iff_eq] at h
  obtain ⟨⟨⟨⟨⟨⟨⟨h1, h2⟩, h3⟩, h4⟩, h5⟩, h6⟩, h7⟩, h8⟩ := h
  exact ⟨h1, h2, h3, h4, h5, h6, h7, h8⟩
def wordB (CL : List Str) (K : PySem.W.Frag) : Bool := CL.all fun c => excCB K (He.ga K c) && (PySem.W.kitOne K (.ref (He.ga K c)) (.type "ValueError") == some true) && CL.all fun c' => PySem.W.kitOne K (.ref (He.ga K c)) (.ref (He.ga K c')) == some (decide (c = c'))
theorem wordB_of {K : PySem.W.Frag} {CL : List Str} (h : wordB CL K = true) : WordF K CL := by
  unfold wordB at h
  simp only [List.all_eq_true, Bool.and_eq_true, beq_iff_eq] at h
  exact ⟨fun c hc => excCB_of (h c hc).1.1, fun c hc c' hc' => (h c hc).2 c' hc', fun c hc => (h c hc).1.2⟩
/-- what `_law_word` makes of an error -/
def rWord (K : PySem.W.Frag) (CL : List Str) (a : Addr) (oe : Obj) (H : Hp) (Q : VK) : Prop :=
  ∃ c ∈ CL, L2N.Zn (.ref (He.ga K c)) none oe ∧ (∃ vs, oe.data = .fields vs) ∧ ∀ l H', Same H H' → H l = none → H' l = some (.tup [.str "refused", .str c]) → Q (.ref l) H'
/-! ### a lambda's body, its exceptions with no context -/
section
variable {X : Cx} {pins : List (Addr × Obj)} {σ : L2.St} {H HZ : Hp} {s s1 : Shared}
/-- the context of the lambda's body -/
def lamN (X : Cx) (A : Around) (outer : List Env) (s : Shared) (H : Hp) (E : XK) (scope : Scope) (f c' : Addr) : Cx :=
  { LamX.lamCx X A outer s H E scope f c' with xe := fun e s' => wpAny (model X.prog X.w) (A.deeper (LamX.lamEnv X scope s.heap.objs.size f c')) (leaving (LamX.lamEnv X scope s.heap.objs.size f c') e) (fun _ s'' => L2N.CX X.prog X.w outer H s E e s'') (fun e' s'' => L2N.CX X.prog X.w outer H s E e' s'') s' }
theorem lamN_start {A : Around} {outer : List Env} {E : XK} {scope : Scope} {f c' : Addr} {h₁ : Heap} {tk : Nat} (I : Inv X pins σ H s) (L : LamX.LamS X.env.scope scope) (e0 : Env0 X.prog X.w X.K X.mg X.base A outer s1 HZ) (hd : A.handled = none)
    (un : Un (frs X.stack) [] H HZ s.heap s1.heap) (hns : h₁.Ns s1.heap.objs.size fun y => ([] : List (Str × Value)).reverse.lookup y) (kp : ∀ b o, s1.heap.get? b = some o → h₁.get? b = some o) :
    Inv (lamN X A outer s1 HZ E scope f c') [] σ HZ { s1 with heap := h₁, toks := tk } := by
  have J := LamX.lam_start2 (E := E) (f := f) (c' := c') (tk := tk) I L e0 hd un hns kp
  exact J.wish _

abbrev clos (X : Cx) (scope : Scope) : List (Str × Addr) := cloFrom X.env.cells scope.names []
abbrev lq (X : Cx) : Str := X.env.qual ++ "<lambda>"
abbrev oLam (X : Cx) (params : Arguments) (body : Expr) (scope : Scope) (pm : Value) (c' : Addr) (ctv : Value) : Obj := PySem.W.kla_obj "<lambda>" (lq X) params body scope (clos X scope) pm c' ctv
/-- the context of the def that got the lambda -/
abbrev toldCx (X : Cx) (N : List Str) (x : Str) (sg : Scope) (g : Addr) (cdg : Value) (s : Shared) (H : Hp) : Cx := (cxOf CX0 X.prog X.w X.K X.mg X.base N x sg g cdg X.A X.stack s H E0).nox
/-- deed(), in the def that got the lambda -/
theorem pe_deed {N : List Str} {x a : Str} {sg : Scope} {g f c' : Addr} {cdg pm ctv : Value} {params : Arguments} {body : Expr} {scope : Scope} {k i : Nat} {pn : List (Addr × Obj)} {xe : Value → Shared → Prop} {W : WX} {E : XK} {tb : TE} {p1 p2 : Pos}
    (I : Inv X pins σ H s) (L : LamX.LamS X.env.scope scope) (hf : s.heap.get? f = some (oLam X params body scope pm c' ctv)) (hfn : H f = none) (hfr : f ∉ frs X.stack)
    (hbind : bindArgs (PySem.W.kla_fn "<lambda>" (lq X) params body scope (clos X scope) pm (.ref c') ctv) ⟨[], []⟩ = pure [])
    (tk : L2N.Takes ((toldCx X N x sg g cdg s H).tr pn xe) W) (hW : ∀ cls d σ' H', E cls d H' → W cls d σ' H') (hr : Room (k + 1) (X.A.deeper (envOfC x sg s.heap.objs.size g cdg)))
    (hbody : ∀ (A : Around) (outer : List Env) (s : Shared) (H : Hp), Room k (A.deeper (LamX.lamEnv X scope s.heap.objs.size f c')) → PE (lamN X A outer s H E scope f c') body tb)
    (hN : N[i]? = some a) (hv : Vis sg a) (hd : (a == ("__debug__" : Str)) = false) (hcd : (a == ("__classdict__" : Str)) = false) :
    PE ((toldCx X N x sg g cdg s H).tr pn xe) (.Call (.Name a p1) [] [] p2) (fun σZ HZ Q => σZ[i]? = some (some (.ref f)) ∧ HZ c' = some (LamX.CodeO c' (lq X)) ∧ tb σ HZ Q) := by
  constructor
  rintro pinsZ sZ σZ HZ Q IZ ⟨hs, hc, ht⟩
  refine wpAny_Call_Name_kw (thn ((pe_var (pos := p1) (i := i) hN hv hd hcd).run pinsZ sZ σZ HZ (fun v H1 => v = .ref f ∧ H1 = HZ) IZ ⟨.ref f, hs, rfl, rfl⟩) ?_)
  rintro u s1 ⟨v, H1, I1, r1, rfl, rfl⟩
  obtain rfl : u = Value.ref f := r1
  have of1 : s1.heap.get? f = some (oLam X params body scope pm c' ctv) := I1.base.keep f _ hf hfn hfr fun z => nomatch (show f ∈ ([] : List Addr) from z)
  refine PySem.W.callWith_F0 ⟨_, _, _, _, of1⟩ ?_
  have un : Un (frs X.stack) [] H H1 s.heap s1.heap := I1.base
  obtain ⟨⟨oc, vs, t, hoc, hdc, hvc⟩, _, _⟩ := I1.hok c' _ hc
  have rc : codeAny (model X.prog X.w) (X.A.deeper (envOfC x sg s.heap.objs.size g cdg)) (.call (.ref f) ⟨[], []⟩) (CR (L2N.CX X.prog X.w) (envOfC x sg s.heap.objs.size g cdg :: X.stack) X.prog X.w H1 s1 Q E) s1 := by
    refine PySem.W.kla_callFunE hr.depth of1 rfl L.co L.gen rfl ⟨c', oc, vs, t, rfl, hoc, hdc, hvc⟩ ?_
    rw [hbind]
    refine wpAny_pure (wpAny_newFunctionEnv (fun y hy => (L.own y hy).2) (fun y hy => absurd hy (by simp)) (fun h₁ hns hsb => ⟨I1.nolimit.fresh _ hsb, ?_⟩) L.kind)
    show codeAny _ _ (.expr body (LamX.lamEnv X scope s1.heap.objs.size f c')) _ _
    have kp : ∀ b o, s1.heap.get? b = some o → h₁.get? b = some o := fun b o e => hsb.extBut b o (Nat.ne_of_lt (Heap.lt_size e)) (Heap.get?_push_of_some _ e)
    have J := lamN_start (E := E) (f := f) (c' := c') (tk := s1.toks + ([] : List (Str × Value)).length) I L I1.env0 hr.hd un hns kp
    refine PySem.W.kla_codeExpr (wpAny_mono ((hbody _ _ s1 H1 (hr.deeper _)).run [] _ _ H1 Q J ht) ?_ fun e s' hq => hq)
    rintro v s' ⟨w', H', J', rv, q⟩
    exact ⟨w', H', J'.os, J'.bare, J'.base, J'.hok, rv, q⟩
  refine wpAny_call (codeAny_mono rc ?_)
  rintro (e | fl) s' hq
  · exact L2N.passes_call tk hW pinsZ σZ H1 s1 e s' I1 hq
  · cases fl with
    | ret u => exact I1.after hq
    | next => exact hq.elim
    | brk => exact hq.elim
    | cont => exact hq.elim
/-- x(lambda: body): where an error of the body goes -/
def eTold (K : PySem.W.Frag) (CL : List Str) (Q : VK) : XK := fun cls d H => ∃ c ∈ CL, cls = .ref (He.ga K c) ∧ d = none ∧ ∀ l H', Same H H' → H l = none → H' l = some (.tup [.str "refused", .str c]) → Q (.ref l) H'
def tTold (T : List (Addr × Str)) (K : PySem.W.Frag) (CL : List Str) (t : XK → TE) : TE := fun σ H Q => LamX.Tabs T H ∧ ∀ H1, LamX.ExtN H H1 → LamX.Tabs T H1 → t (eTold K CL Q) σ H1 Q
/-- the def `told` -/
abbrev toldBody (a e n wd : Str) (p1 p2 p3 p4 p5 p6 p7 p8 p9 p0 : Pos) : List Stmt :=
  [.Try [.Return (some (.Call (.Name a p1) [] [] p2)) p3] [.ExceptHandler (some (.Name e p4)) (some n) [.Return (some (.Call (.Name wd p5) [.Name n p6] [] p7)) p8] p9] [] [] p0]
theorem ps_ret_of {X : Cx} {e : Expr} {te : TE} {ts : TS} {pos : Pos} (he : PE X e te) (h : ∀ D σ H, σ.length = X.N.length → ts D σ H → te σ H D.rt) : PSs X [.Return (some e) pos] ts := by
  refine ⟨fun pins s σ H D I hq => ?_⟩
  exact (pss_one (ps_ret (pos := pos) he)).run pins s σ H D I (h D σ H I.len hq)
theorem takesN {X : Cx} : L2N.Takes X (fun _ _ _ _ => False) := fun _ _ ⟨_, _, _, _, _, _, _, _, _, _, _, _, _, _, _, _, z⟩ => z.elim
theorem told_body {N : List Str} {x a e n wd : Str} {sg : Scope} {g f c' : Addr} {cdg : Value} {CL : List Str} {q : Str} {Q : VK} {tl : XK → Hp → VK → Prop} {k : Nat} {p1 p2 p3 p4 p5 p6 p7 p8 p9 p0 : Pos}
    (act : ∀ (W : WX) (pn : List (Addr × Obj)) (xe : Value → Shared → Prop) (E : XK), L2N.Takes ((toldCx X N x sg g cdg s H).tr pn xe) W → (∀ cls d σ' H', E cls d H' → W cls d σ' H') →
      PE ((toldCx X N x sg g cdg s H).tr pn xe) (.Call (.Name a p1) [] [] p2) (fun σZ HZ Q => σZ[0]? = some (some (.ref f)) ∧ HZ c' = some (LamX.CodeO c' q) ∧ tl E HZ Q))
    (hc : H c' = some (LamX.CodeO c' q)) (ht : tl (eTold X.K CL Q) H Q) (nd : N.Nodup) (hN : N = [a, n]) (hn : sg.names.lookup n = some .local) (hdn : (n == ("__debug__" : Str)) = false) (hcn : (n == ("__classdict__" : Str)) = false)
    (hge : sg.names.lookup e = some .globalImplicit) (hme : X.mg e = some (.ref (He.ga X.K e))) (hde : (e == ("__debug__" : Str)) = false) (hex : ∀ c ∈ CL, PySem.W.exmOne X.K (.ref (He.ga X.K c)) (.ref (He.ga X.K e)) = some true)
    (hgw : sg.names.lookup wd = some .globalImplicit) (hdw : (wd == ("__debug__" : Str)) = false) (hw : HotFn X.prog X.w X.K X.mg X.base k wd (rWord X.K CL)) (hr : Room k (X.A.deeper (envOfC x sg s.heap.objs.size g cdg))) :
    ∃ t, PSs (toldCx X N x sg g cdg s H) (toldBody a e n wd p1 p2 p3 p4 p5 p6 p7 p8 p9 p0) t ∧ t { nx := fun _ H' => Q .non H', rt := Q } (L2.start N [.ref f]) H := by
  subst hN
  refine ⟨_, pss_one (L2N.ps_try_as (X := toldCx X [a, n] x sg g cdg s H) (i := 1) (c := .ref (He.ga X.K e))
      (tb := fun W D σ H => ∃ Ech : XK, (∀ cls d σ' H', Ech cls d H' → W cls d σ' H') ∧ σ[0]? = some (some (.ref f)) ∧ H c' = some (LamX.CodeO c' q) ∧ tl Ech H D.rt)
      (ts := fun a cls d D σ H => (∃ σ0 : L2.St, σ = σ0.set 1 (some (.ref a))) ∧ ∃ c ∈ CL, cls = .ref (He.ga X.K c) ∧ d = none ∧ ∀ l H', Same H H' → H l = none → H' l = some (.tup [.str "refused", .str c]) → D.rt (.ref l) H')
      rfl rfl nd rfl hn ⟨hge, hde, .inl hme⟩ takesN (fun W pn xe tk _ => ?_) fun a2 oe cls d pn hz hv => ?_), ?_⟩
  · refine ⟨fun pins s' σ H' D I h' => ?_⟩
    obtain ⟨Ech, hW, h1, h2, h3⟩ := h'
    exact (pss_one (ps_ret (pos := p3) (act W pn xe Ech tk hW))).run pins s' σ H' D I ⟨h1, h2, h3⟩
  · refine ps_ret_of (pe_hotcall (i := 1) (k := k) (r := rWord X.K CL) (a := a2) (oe := oe) List.mem_cons_self ⟨rfl, ?_⟩ hw ⟨hr.dp, hr.un⟩ rfl (.inl hn) hgw hdw hdn hcn) ?_
    · obtain ⟨vs, e1⟩ := hv
      exact ⟨vs, e1, hz.2.2 vs e1⟩
    · rintro D σ H' hl ⟨⟨σ0, rfl⟩, c, hc1, rfl, rfl, h2⟩
      refine ⟨?_, c, hc1, hz, hv, h2⟩
      have hl : σ0.length = 2 := by rw [List.length_set] at hl; exact hl
      rw [List.getElem?_set_self (by omega)]
  · refine ⟨eTold X.K CL Q, ?_, rfl, hc, ht⟩
    rintro cls d σ' H' ⟨c, hc1, rfl, rfl, h2⟩
    refine ⟨true, hex c hc1, fun _ a2 ha2 => ⟨⟨σ', rfl⟩, c, hc1, rfl, rfl, h2⟩, fun z => nomatch z⟩
/-- told(lambda: body) -/
theorem pe_told {T : List (Addr × Str)} {CL N : List Str} {x a e n wd : Str} {c P : Addr} {k kw : Nat} {st : Stmt} {params : Arguments} {body : Expr} {scope : Scope} {t : XK → TE} {p lpos pos : Pos}
    (FD : FnD X.K x st) (gx : X.mg x = some (.ref (He.ga X.K x))) (S : FnScope N [a] (defScope st)) (hN : N = [a, n])
    (hb : ∀ (kV doc pm : Value) (an : Option Addr) (cdv ct : Value) (us : List Value), us.length = 1 → bindArgs (PySem.W.fnOf x x (defArgs st) (defBody st) (defScope st) .none kV doc pm an cdv ct) ⟨us, []⟩ = pure ([a].zip us))
    (hbd : ∃ p1 p2 p3 p4 p5 p6 p7 p8 p9 p0, defBody st = toldBody a e n wd p1 p2 p3 p4 p5 p6 p7 p8 p9 p0)
    (hn : (defScope st).names.lookup n = some .local) (hva : Vis (defScope st) a) (hge : (defScope st).names.lookup e = some .globalImplicit) (hgw : (defScope st).names.lookup wd = some .globalImplicit)
    (hd : [x, a, e, n, wd].all (fun y => !(y == ("__debug__" : Str)) && !(y == ("__classdict__" : Str))) = true)
    (hme : X.mg e = some (.ref (He.ga X.K e))) (hex : ∀ c ∈ CL, PySem.W.exmOne X.K (.ref (He.ga X.K c)) (.ref (He.ga X.K e)) = some true) (hw : HotFn X.prog X.w X.K X.mg X.base kw wd (rWord X.K CL)) (hkw : kw ≤ k + 1)
    (TB : LamX.TabB X.base X.mg c P) (hcode : X.env.code = .ref c) (hmT : (P, lq X) ∈ T) (hu : ∀ p ∈ T, p.1 = P → p.2 = lq X) (hr : Room (k + 2) X.A) (hg : Gl X x) (L : LamX.LamS X.env.scope scope) (hdef : defaultsOf params X.env = ([], []))
    (hbind : ∀ (q : Str) (cl : List (Str × Addr)) (pm cv ctv : Value), bindArgs (PySem.W.kla_fn "<lambda>" q params body scope cl pm cv ctv) ⟨[], []⟩ = pure [])
    (hbody : ∀ (A : Around) (outer : List Env) (s : Shared) (H : Hp) (E : XK) (f c' : Addr), Room k (A.deeper (LamX.lamEnv X scope s.heap.objs.size f c')) → PE (lamN X A outer s H E scope f c') body (t E)) :
    PE X (.Call (.Name x p) [.Lambda params body scope lpos] [] pos) (tTold T X.K CL t) := by
  simp only [List.all_cons, List.all_nil, Bool.and_eq_true, Bool.not_eq_true', Bool.and_true] at hd
  obtain ⟨⟨d1, _⟩, ⟨d2, e2⟩, ⟨d3, _⟩, ⟨d4, e4⟩, d5, _⟩ := hd
  obtain ⟨fd, FD⟩ := FD
  obtain ⟨p1, p2, p3, p4, p5, p6, p7, p8, p9, p0, hbd⟩ := hbd
  constructor
  rintro pins s σ H Q I ⟨hT, h⟩
  refine wpAny_Call_Name_kw (ld_glob I hg gx ?_ d1)
  refine PySem.W.callWith_K (h₀ := X.base) I.ok.mod.kin FD.kp ?_ (by rfl) (by rfl)
  show wpAny _ _ (spliced ((false, eval (.Lambda params body scope lpos) X.env) :: backTo pos (starEach [] X.env))) _ _ s
  refine Calls.spliced_cons (LamX.lam_make2 I TB hcode hmT hu hT hdef (L.has I.ok) ?_)
  intro f c' pm' ctv H1 s' I1 eN T1 hf hfn hfr hco
  refine Calls.spliced_nil ⟨I1.kIn, ?_⟩
  have bd := FD.bindsA (ps := [a]) hb s' [.ref f] rfl
  obtain ⟨oc, od, dV, kV, doc, pm, an, cdv, ct, osl, rfl, lk, hcd, _, _⟩ := FD.ex
  have rc : codeAny (model X.prog X.w) X.A (.call (.ref (He.ga X.K x)) ⟨[.ref f], []⟩) (CR CX0 X.stack X.prog X.w H1 s' Q E0) s' := by
    refine LamX.run_ofS (N := N) (ps := [a]) (us := [.ref f]) (vs := [.ref f]) lk hcd S hr I1.env0 bd (.cons rfl .nil) rfl fun hr' => ?_
    rw [hbd]
    obtain ⟨t', ht', hq'⟩ := told_body (X := X) (s := s') (H := H1) (N := N) (x := x) (a := a) (e := e) (n := n) (wd := wd) (sg := defScope st) (g := He.ga X.K x) (cdg := cdv) (CL := CL) (q := lq X) (Q := Q) (k := kw) (p1 := p1) (p2 := p2) (p3 := p3) (p4 := p4) (p5 := p5) (p6 := p6) (p7 := p7) (p8 := p8) (p9 := p9) (p0 := p0) (tl := fun E H' Q' => t E σ H' Q')
      (fun W pn xe E tk hW => pe_deed (i := 0) (k := k) I1 L hf hfn hfr (hbind _ _ _ _ _) tk hW hr' (fun A outer s H hr2 => hbody A outer s H E f c' hr2) (by rw [hN]; rfl) hva d2 e2) hco (h H1 eN T1) S.nd hN hn d4 e4 hge hme d3 hex hgw d5 hw (hr'.mono hkw)
    exact ⟨t', ht'.nox, hq'⟩
  refine wpAny_call (codeAny_mono rc ?_)
  rintro (e | fl) s2 hq
  · exact (show False from hq).elim
  · cases fl with
    | ret u => exact I1.after hq
    | next => exact hq.elim
    | brk => exact hq.elim
    | cont => exact hq.elim
end
end Sc

namespace Sc
open PySem PySem.Spec PyProof.Rows L2
/-! ### heaps go on, tables of code objects too -/
def RT (T : List (Addr × Str)) (H H' : Hp) : Prop := Xt H H' ∧ (LamX.Tabs T H → LamX.Tabs T H')
instance rok_rt {T : List (Addr × Str)} : ROk (RT T) where
  refl := fun H => ⟨LamX.ExtN.refl H, id⟩
  trans := fun a b => ⟨a.1.trans b.1, fun t => b.2 (a.2 t)⟩
  same := fun s => ⟨xt_of s, fun t => t.ext s⟩
  ext := fun r => r.1
  chg := fun {H H' p xs ys} hn hl r => by
    refine ⟨fun b o e n => ?_, fun t q hq => ?_⟩
    · rw [upd_ne (ne_of_none e hn)]
      exact r.1 b o e n
    · obtain ⟨ps, h1, h2, h3⟩ := r.2 t q hq
      have ne : ∀ {b o}, H' b = some o → (∀ zs, o ≠ .lst zs) → b ≠ p := fun e n z => by
        rw [z, hl] at e
        exact n _ (Option.some.inj e).symm
      refine ⟨ps, by rw [upd_ne (ne h1 fun zs z => by cases z)]; exact h1, h2, fun pos cv hc => ?_⟩
      obtain ⟨c, e1, e2⟩ := h3 pos cv hc
      exact ⟨c, e1, by rw [upd_ne (ne e2 fun zs z => by unfold LamX.CodeO at z; cases z)]; exact e2⟩
/-- a lambda's body: a datum, or an error -/
def DX (R : Hp → Hp → Prop) (K : PySem.W.Frag) (F : List Addr) (tb : XK → TE) (σ : L2.St) (H : Hp) (r : Except Str PyData) : Prop := ∀ H1, R H H1 → Fd F H1 → ∀ (Q : VK) (E : XK),
  (∀ d, r = .ok d → ∀ v H2, R H1 H2 → Da K (hid F H2) d v → Q v H2) → (∀ c, r = .error c → ∀ H2, R H1 H2 → E (.ref (He.ga K c)) none H2) → tb E σ H1 Q
def tellOf : Except Str PyData → PyData
  | .ok d => d
  | .error c => .tuple [.str "refused", .str c]
section
variable {R : Hp → Hp → Prop} [ROk R] {T : List (Addr × Str)} {K : PySem.W.Frag} {F : List Addr} {σ : L2.St} {H H' : Hp} {r : Except Str PyData}
theorem dx_call {n : Nat} {A : List PyData → Except Str PyData → Prop} {tr : TA} {ds : List PyData} (h : DA R K F tr σ H ds) (ha : A ds r) (hn : ds.length = n) : DX R K F (fun E => tCall (spG K n A) [] E tr) σ H r :=
  fun H1 r1 f1 Q E k1 k2 => h H1 r1 f1 _ fun vs H2 r2 l => by
    rw [List.append_nil]
    exact ⟨F, ds, r, r_fd r2 f1, l, hn, ha, fun d e v H3 s3 g => k1 d e v H3 (ROk.trans r2 (ROk.same s3)) g, fun c e H3 s3 => k2 c e H3 (ROk.trans r2 (ROk.same s3))⟩
theorem dx_ok {te : TE} {d : PyData} (h : DV R K F te σ H d) : DX R K F (fun _ => te) σ H (.ok d) := fun H1 r1 f1 Q E k1 _ => h H1 r1 f1 Q fun v H2 r2 g => k1 d rfl v H2 r2 g
theorem dv_told {CL : List Str} {tb : XK → TE} (hT : LamX.Tabs T H) (h : DX (RT T) K F tb σ H r) (hc : ∀ c, r = .error c → c ∈ CL) : DV (RT T) K F (tTold T K CL tb) σ H (tellOf r) := fun H1 r1 f1 Q q => by
  refine ⟨r1.2 hT, fun H2 x2 T2 => ?_⟩
  have r2 : RT T H1 H2 := ⟨x2, fun _ => T2⟩
  have f2 := r_fd r2 f1
  refine h H2 (ROk.trans r1 r2) f2 Q _ (fun d e v H3 r3 g => ?_) fun c e H3 r3 => ⟨c, hc c e, rfl, rfl, fun l H4 s4 hl g4 => ?_⟩
  · subst e
    exact q v H3 (ROk.trans r2 r3) g
  · subst e
    refine q _ H4 (ROk.trans r2 (ROk.trans r3 (ROk.same s4))) ⟨l, _, rfl, ?_, _, _, rfl, rfl, _, _, rfl, rfl, rfl⟩
    have nl : l ∉ F := (r_fd r3 f2).new hl
    exact SqT.of (by rw [hid_out nl]; exact g4)
end
end Sc

namespace Sc
open PySem PySem.Spec PyProof.Rows L2
/-- the law's promise -/
def spLaw (K : PySem.W.Frag) (Ts : List (Addr × Str)) : Sp := fun vs H Q _ => ∃ (a : Addr) (ns : List Int), vs = [.ref a] ∧ SqL K H a (ns.map V.int) ∧ ns.length ≤ 63 ∧ (∀ z ∈ ns, Builtin.Int.intBits z ≤ 1048576) ∧ LamX.Tabs Ts H ∧ ∀ H', Q (.bl true) H'
section
variable {P : Program} {w : World} {K : PySem.W.Frag} {mg : Str → Option Value} {base : Heap}
abbrev lawA (K : PySem.W.Frag) : Addr := He.fAd K ("law", none)
abbrev lawC (K : PySem.W.Frag) (x : Str) : Addr := (He.cT K (x, none)).1
abbrev lawP (K : PySem.W.Frag) (x : Str) : Addr := (He.cT K (x, none)).2
/-- the context of the def x, which makes lambdas -/
abbrev lawCx (P : Program) (w : World) (K : PySem.W.Frag) (mg : Str → Option Value) (base : Heap) (N : List Str) (x : Str) (sc : Scope) (A : Around) (outer : List Env) (s : Shared) (H : Hp) : Cx := (cxOf CX0 P w K mg base N x sc (He.fAd K (x, none)) (.ref (lawC K x)) A outer s H E0).nox
theorem fn_lam {x : Str} {st : Stmt} {N ps : List Str} {k : Nat} {sp : Sp} {fd : FuncData} (FD : FunD K x x (defArgs st) (defBody st) (defScope st) [] [] (He.fAd K (x, none)) fd) (S : FnScope N ps (defScope st)) (len : ∀ vs H Q E, sp vs H Q E → vs.length = ps.length) (hE : ∀ vs H Q E, sp vs H Q E → sp vs H Q E0)
    (hbody : ∀ (A : Around) (outer : List Env) (s : Shared) (H : Hp) (vs : List V) (Q : VK), Room k (A.deeper (envOfC x (defScope st) s.heap.objs.size (He.fAd K (x, none)) (.ref (lawC K x)))) → sp vs H Q E0 →
      ∃ t, PSs (lawCx P w K mg base N x (defScope st) A outer s H) (defBody st) t ∧ t { nx := fun _ H' => Q .non H', rt := Q } (start N vs) H) : FnOk P w K mg base CX0 (k + 1) (He.fAd K (x, none)) fd ps sp := by
  obtain ⟨oc, od, dV, kV, doc, pm, an, cdv, ct, osl, rfl, lk, hcd, _, _⟩ := FD.ex
  obtain ⟨c, rfl⟩ := He.codeIn_ref hcd
  have ec : lawC K x = c := He.codeOf_eq lk rfl
  subst ec
  refine fn_of lk hcd S len fun A outer s H vs Q E hr hsp => ?_
  obtain ⟨t, ht, hq⟩ := hbody A outer s H vs Q hr (hE _ _ _ _ hsp)
  exact ⟨t, ht.nox, hq⟩
end
section
variable {R : Hp → Hp → Prop} [ROk R] {K : PySem.W.Frag} {F : List Addr} {σ : L2.St} {H H' : Hp} {ta tb te : TE} {d : PyData} {v : V} {D : Ends} {nx bk ct : L2.St → Hp → Prop} {rt : VK} {t u : TS} {c : TT}
/-- x = [..]: a new list, the owner's -/
theorem s_list {i : Nat} {tr : TA} {ds : List PyData} (h : DA R K F tr σ H ds) (f : Fd F H) (hl : ds.length ≤ sizeLine) (k : ∀ l vs H1, R H H1 → H1 l = none → DaL K (hid F H1) ds vs → nx (σ.set i (some (.ref l))) (upd H1 l (.lst vs))) : tAsg (tLst tr) (gName i) ⟨nx, rt, bk, ct⟩ σ H :=
  h H (r_refl H) f _ fun vs H1 r1 l1 => ⟨by rw [l1.length]; exact hl, fun l hl => k l vs H1 r1 hl l1⟩
/-- what is known goes on behind a new list, seen by the owner -/
theorem hid_new {l : Addr} {o : HO} (hl : H l = none) : Xt (hid F H) (hid (l :: F) (upd H l o)) := fun b u e nt => by
  obtain ⟨e1, e2⟩ := hid_le e
  have ne : b ≠ l := ne_of_none e1 hl
  rw [hid_out (by intro z; rcases List.mem_cons.mp z with z | z; exact ne z; exact e2 z), upd_ne ne]
  exact e1
theorem hid_cons {l : Addr} : Xt (hid (l :: F) H) (hid F H) := hid_sub fun b hb => List.mem_cons_of_mem _ hb
/-- a, b = x, y -/
theorem s_par {i j : Nat} {tr : TA} {d1 d2 : PyData} (h : DA R K F tr σ H [d1, d2]) (f : Fd F H) (k : ∀ v w H1, R H H1 → Da K (hid F H1) d1 v → Da K (hid F H1) d2 w → nx ((σ.set i (some v)).set j (some w)) H1) : tPar i j tr ⟨nx, rt, bk, ct⟩ σ H :=
  h H (r_refl H) f _ fun vs H1 r1 l1 => by
    obtain ⟨v, _, rfl, h1, w, _, rfl, h2, rfl⟩ := l1
    exact ⟨v, w, rfl, k v w H1 r1 h1 h2⟩
theorem dv_max {i j : Int} (ha : DV R K F ta σ H (.int i)) (hb : DV R K F tb σ H (.int j)) : DV R K F (tCB (fun xs H Q => ∃ i j, xs = [V.int i, V.int j] ∧ Q (V.int (if j > i then j else i)) H) (tCons ta (tCons tb tNil))) σ H (.int (max i j)) :=
  dv_cb (da_cons ha (da_cons hb da_nil)) fun vs H1 Q r1 f1 l1 q => by
    obtain ⟨v, _, rfl, h1, w, _, rfl, h2, rfl⟩ := l1
    have h1 : v = .int i := h1
    have h2 : w = .int j := h2
    subst h1 h2
    refine ⟨i, j, rfl, ?_⟩
    have e : (if j > i then j else i) = max i j := by split <;> omega
    rw [e]
    exact q _ H1 (r_refl _) rfl
theorem dv_min {i j : Int} (ha : DV R K F ta σ H (.int i)) (hb : DV R K F tb σ H (.int j)) : DV R K F (tCB (fun xs H Q => ∃ i j, xs = [V.int i, V.int j] ∧ Q (V.int (if j < i then j else i)) H) (tCons ta (tCons tb tNil))) σ H (.int (min i j)) :=
  dv_cb (da_cons ha (da_cons hb da_nil)) fun vs H1 Q r1 f1 l1 q => by
    obtain ⟨v, _, rfl, h1, w, _, rfl, h2, rfl⟩ := l1
    have h1 : v = .int i := h1
    have h2 : w = .int j := h2
    subst h1 h2
    refine ⟨i, j, rfl, ?_⟩
    have e : (if j < i then j else i) = min i j := by split <;> omega
    rw [e]
    exact q _ H1 (r_refl _) rfl
/-- len(script) -/
theorem dv_lenSc {i : Nat} {a : Addr} {xs : List V} (h : σ[i]? = some (some (.ref a))) (hs : SqL K H a xs) : DV R K F (tCB (rLn K) (tCons (tVar i) tNil)) σ H (.int xs.length) := fun H1 r1 f1 Q q =>
  ⟨_, h, _, xs.length, rfl, .inl ⟨_, xt_sqL (ROk.ext r1) hs, rfl⟩, q _ H1 (r_refl _) rfl⟩
/-- a list of the owner's, made behind H0 -/
structure Own (R : Hp → Hp → Prop) (K : PySem.W.Frag) (F : List Addr) (H0 H : Hp) (l : Addr) (ds : List PyData) : Prop where
  new : H0 l = none
  fd : Fd F H0
  r : R H0 H
  at_ : ∃ xs, H l = some (.lst xs) ∧ DaL K (hid (l :: F) H) ds xs
theorem Own.out {H0 : Hp} {l : Addr} {ds : List PyData} (o : Own R K F H0 H l ds) : l ∉ F := o.fd.new o.new
theorem Own.fd1 {H0 : Hp} {l : Addr} {ds : List PyData} (o : Own R K F H0 H l ds) : Fd F H := r_fd o.r o.fd
theorem Own.fd2 {H0 : Hp} {l : Addr} {ds : List PyData} (o : Own R K F H0 H l ds) : Fd (l :: F) H := by
  obtain ⟨xs, h, _⟩ := o.at_
  exact o.fd1.cons h fun ps z => by cases z
theorem Own.da {H0 : Hp} {l : Addr} {ds : List PyData} (o : Own R K F H0 H l ds) : Da K (hid F H) (.list ds) (.ref l) := by
  obtain ⟨xs, h, g⟩ := o.at_
  exact ⟨l, xs, rfl, by rw [hid_out o.out]; exact h, g.mono hid_cons⟩
theorem Own.mono {H0 : Hp} {l : Addr} {ds : List PyData} (o : Own R K F H0 H l ds) (e : R H H') : Own R K F H0 H' l ds := by
  obtain ⟨xs, h, g⟩ := o.at_
  exact ⟨o.new, o.fd, ROk.trans o.r e, xs, ROk.ext e _ _ h (fun ps z => by cases z), g.mono (hid_xt (ROk.ext e))⟩
/-- x = [..] -/
theorem s_own {i : Nat} {tr : TA} {ds : List PyData} (h : DA R K F tr σ H ds) (f : Fd F H) (hl : ds.length ≤ sizeLine) (k : ∀ l H0 H', R H H0 → Own R K F H0 H' l ds → Xt (hid F H0) (hid (l :: F) H') → nx (σ.set i (some (.ref l))) H') : tAsg (tLst tr) (gName i) ⟨nx, rt, bk, ct⟩ σ H :=
  s_list h f hl fun l vs H1 r1 hn g => k l H1 _ r1 ⟨hn, r_fd r1 f, r_new hn, vs, upd_same, g.mono (hid_new hn)⟩ (hid_new hn)
/-- x.append(..) -/
theorem s_push {i : Nat} {l : Addr} {H0 : Hp} {ds : List PyData} (o : Own R K F H0 H l ds) (hσ : σ[i]? = some (some (.ref l))) (h : DV R K (l :: F) te σ H d) (hz : ds.length < sizeLine)
    (k : ∀ H', Own R K F H0 H' l (ds ++ [d]) → Xt (hid (l :: F) H) (hid (l :: F) H') → nx σ H') : tDrop (tBM K "list" rAppend (tVar i) (tCons te tNil)) ⟨nx, rt, bk, ct⟩ σ H := by
  obtain ⟨xs, hx, g⟩ := o.at_
  refine s_append (R := R) (K := K) (F := F) hσ hx o.fd1 h (by rw [g.length]; exact hz) fun v H1 r1 hv => ?_
  have hx1 : H1 l = some (.lst xs) := ROk.ext r1 _ _ hx fun ps z => by cases z
  have x1 : Xt (hid (l :: F) H) (hid (l :: F) (upd H1 l (.lst (xs ++ [v])))) := (hid_xt (ROk.ext r1)).trans hid_chg
  exact k _ ⟨o.new, o.fd, ROk.chg o.new hx1 (ROk.trans o.r r1), xs ++ [v], upd_same, (g.mono x1).snoc (hv.mono hid_chg)⟩ x1
end
end Sc

namespace Sc
open PySem PySem.Spec PyProof.Rows L2
def top (i : Nat) : Stmt := PySem.Challenge.pw_steerscreen_k21_pages_refused.main.body.getD i (.Pass ⟨0, 0, 0, 0⟩)
abbrev s_is_sign : Stmt := top 9
abbrev s_is_count : Stmt := top 13
abbrev s_need : Stmt := top 14
abbrev s_is_pen : Stmt := top 15
abbrev s_is_cell : Stmt := top 16
abbrev s_need_page : Stmt := top 17
abbrev s_page_texts : Stmt := top 18
abbrev s_changes : Stmt := top 19
abbrev s_is_change : Stmt := top 20
abbrev s_painted : Stmt := top 21
abbrev s__law_cell : Stmt := top 23
abbrev s__law_drawn : Stmt := top 24
abbrev s__law_word : Stmt := top 25
abbrev s__law_told : Stmt := top 26
abbrev s__law_cell_drawn : Stmt := top 27
abbrev s__law_page : Stmt := top 28
abbrev s__law_no_pages : Stmt := top 29
abbrev s_law : Stmt := top 30
structure GT (K : PySem.W.Frag) (mg : Str → Option Value) : Prop where
  g_ScreenError : mg "ScreenError" = some (.ref (He.ga K "ScreenError"))
  g_BadText : mg "BadText" = some (.ref (He.ga K "BadText"))
  g_BadSize : mg "BadSize" = some (.ref (He.ga K "BadSize"))
  g_BadPlace : mg "BadPlace" = some (.ref (He.ga K "BadPlace"))
  g_BadPage : mg "BadPage" = some (.ref (He.ga K "BadPage"))
  i_BARRED : ∃ t, mg "BARRED" = some (.int (37) t)
  t_GAP : ∃ t, mg "GAP" = some (.str "\n" t)
  g_is_sign : mg "is_sign" = some (.ref (He.ga K "is_sign"))
  i_MOST_COLOUR : ∃ t, mg "MOST_COLOUR" = some (.int (7) t)
  i_MOST_MARKS : ∃ t, mg "MOST_MARKS" = some (.int (3) t)
  g_is_count : mg "is_count" = some (.ref (He.ga K "is_count"))
  g_need : mg "need" = some (.ref (He.ga K "need"))
  g_is_pen : mg "is_pen" = some (.ref (He.ga K "is_pen"))
  g_is_cell : mg "is_cell" = some (.ref (He.ga K "is_cell"))
  g_need_page : mg "need_page" = some (.ref (He.ga K "need_page"))
  g_page_texts : mg "page_texts" = some (.ref (He.ga K "page_texts"))
  g_changes : mg "changes" = some (.ref (He.ga K "changes"))
  g_is_change : mg "is_change" = some (.ref (He.ga K "is_change"))
  g_painted : mg "painted" = some (.ref (He.ga K "painted"))
  g__law_cell : mg "_law_cell" = some (.ref (He.ga K "_law_cell"))
  g__law_drawn : mg "_law_drawn" = some (.ref (He.ga K "_law_drawn"))
  g__law_word : mg "_law_word" = some (.ref (He.ga K "_law_word"))
  g__law_told : mg "_law_told" = some (.ref (He.ga K "_law_told"))
  g__law_cell_drawn : mg "_law_cell_drawn" = some (.ref (He.ga K "_law_cell_drawn"))
  g__law_page : mg "_law_page" = some (.ref (He.ga K "_law_page"))
  g__law_no_pages : mg "_law_no_pages" = some (.ref (He.ga K "_law_no_pages"))
  g_law : mg "law" = some (.ref (He.ga K "law"))
  z_ValueError : mg "ValueError" = none
  z_all : mg "all" = none
  z_enumerate : mg "enumerate" = none
  z_range : mg "range" = none
  z_isinstance : mg "isinstance" = none
  z_int : mg "int" = none
  z_list : mg "list" = none
  z_max : mg "max" = none
  z_bool : mg "bool" = none
  z_tuple : mg "tuple" = none
  z_len : mg "len" = none
  z_str : mg "str" = none
  z_sum : mg "sum" = none
  z_min : mg "min" = none
  z_ord : mg "ord" = none
  z_zip : mg "zip" = none
  x_ScreenError : PySem.W.excIn K (He.ga K "ScreenError") He.veBase "ValueError.__new__" = true ∧ PySem.W.keepIn K (.ref (He.ga K "ScreenError")) = true ∧ PySem.W.subIn K (.ref (He.ga K "ScreenError")) (.type "BaseException") = some true ∧ PySem.W.typeIn K (.ref (He.ga K "ScreenError")) = some (.type "type")
  xm_ScreenError : PySem.W.exmOne K (.ref (He.ga K "ScreenError")) (.ref (He.ga K "ScreenError")) = some true
  x_BadText : PySem.W.excIn K (He.ga K "BadText") He.veBase "ValueError.__new__" = true ∧ PySem.W.keepIn K (.ref (He.ga K "BadText")) = true ∧ PySem.W.subIn K (.ref (He.ga K "BadText")) (.type "BaseException") = some true ∧ PySem.W.typeIn K (.ref (He.ga K "BadText")) = some (.type "type")
  xm_BadText : PySem.W.exmOne K (.ref (He.ga K "BadText")) (.ref (He.ga K "ScreenError")) = some true
  x_BadSize : PySem.W.excIn K (He.ga K "BadSize") He.veBase "ValueError.__new__" = true ∧ PySem.W.keepIn K (.ref (He.ga K "BadSize")) = true ∧ PySem.W.subIn K (.ref (He.ga K "BadSize")) (.type "BaseException") = some true ∧ PySem.W.typeIn K (.ref (He.ga K "BadSize")) = some (.type "type")
  xm_BadSize : PySem.W.exmOne K (.ref (He.ga K "BadSize")) (.ref (He.ga K "ScreenError")) = some true
  x_BadPlace : PySem.W.excIn K (He.ga K "BadPlace") He.veBase "ValueError.__new__" = true ∧ PySem.W.keepIn K (.ref (He.ga K "BadPlace")) = true ∧ PySem.W.subIn K (.ref (He.ga K "BadPlace")) (.type "BaseException") = some true ∧ PySem.W.typeIn K (.ref (He.ga K "BadPlace")) = some (.type "type")
  xm_BadPlace : PySem.W.exmOne K (.ref (He.ga K "BadPlace")) (.ref (He.ga K "ScreenError")) = some true
  x_BadPage : PySem.W.excIn K (He.ga K "BadPage") He.veBase "ValueError.__new__" = true ∧ PySem.W.keepIn K (.ref (He.ga K "BadPage")) = true ∧ PySem.W.subIn K (.ref (He.ga K "BadPage")) (.type "BaseException") = some true ∧ PySem.W.typeIn K (.ref (He.ga K "BadPage")) = some (.type "type")
  xm_BadPage : PySem.W.exmOne K (.ref (He.ga K "BadPage")) (.ref (He.ga K "ScreenError")) = some true
  f_is_sign : ∃ fd, FunD K "is_sign" "is_sign" (defArgs s_is_sign) (defBody s_is_sign) (defScope s_is_sign) [] [] (He.fAd K ("is_sign", none)) fd
  f_is_count : ∃ fd, FunD K "is_count" "is_count" (defArgs s_is_count) (defBody s_is_count) (defScope s_is_count) [] [] (He.fAd K ("is_count", none)) fd
  f_need : ∃ fd, FunD K "need" "need" (defArgs s_need) (defBody s_need) (defScope s_need) [] [] (He.fAd K ("need", none)) fd
  f_is_pen : ∃ fd, FunD K "is_pen" "is_pen" (defArgs s_is_pen) (defBody s_is_pen) (defScope s_is_pen) [] [] (He.fAd K ("is_pen", none)) fd
  f_is_cell : ∃ fd, FunD K "is_cell" "is_cell" (defArgs s_is_cell) (defBody s_is_cell) (defScope s_is_cell) [] [] (He.fAd K ("is_cell", none)) fd
  f_need_page : ∃ fd, FunD K "need_page" "need_page" (defArgs s_need_page) (defBody s_need_page) (defScope s_need_page) [] [] (He.fAd K ("need_page", none)) fd
  f_page_texts : ∃ fd, FunD K "page_texts" "page_texts" (defArgs s_page_texts) (defBody s_page_texts) (defScope s_page_texts) [] [] (He.fAd K ("page_texts", none)) fd
  f_changes : ∃ fd, FunD K "changes" "changes" (defArgs s_changes) (defBody s_changes) (defScope s_changes) [] [] (He.fAd K ("changes", none)) fd
  f_is_change : ∃ fd, FunD K "is_change" "is_change" (defArgs s_is_change) (defBody s_is_change) (defScope s_is_change) [] [] (He.fAd K ("is_change", none)) fd
  f_painted : ∃ fd, FunD K "painted" "painted" (defArgs s_painted) (defBody s_painted) (defScope s_painted) [] [] (He.fAd K ("painted", none)) fd
  f__law_cell : ∃ fd, FunD K "_law_cell" "_law_cell" (defArgs s__law_cell) (defBody s__law_cell) (defScope s__law_cell) [] [] (He.fAd K ("_law_cell", none)) fd
  f__law_drawn : ∃ fd, FunD K "_law_drawn" "_law_drawn" (defArgs s__law_drawn) (defBody s__law_drawn) (defScope s__law_drawn) [] [] (He.fAd K ("_law_drawn", none)) fd
  f__law_word : ∃ fd, FunD K "_law_word" "_law_word" (defArgs s__law_word) (defBody s__law_word) (defScope s__law_word) [] [] (He.fAd K ("_law_word", none)) fd
  f__law_told : ∃ fd, FunD K "_law_told" "_law_told" (defArgs s__law_told) (defBody s__law_told) (defScope s__law_told) [] [] (He.fAd K ("_law_told", none)) fd
  f__law_cell_drawn : ∃ fd, FunD K "_law_cell_drawn" "_law_cell_drawn" (defArgs s__law_cell_drawn) (defBody s__law_cell_drawn) (defScope s__law_cell_drawn) [] [] (He.fAd K ("_law_cell_drawn", none)) fd
  f__law_page : ∃ fd, FunD K "_law_page" "_law_page" (defArgs s__law_page) (defBody s__law_page) (defScope s__law_page) [] [] (He.fAd K ("_law_page", none)) fd
  f__law_no_pages : ∃ fd, FunD K "_law_no_pages" "_law_no_pages" (defArgs s__law_no_pages) (defBody s__law_no_pages) (defScope s__law_no_pages) [] [] (He.fAd K ("_law_no_pages", none)) fd
  f_law : ∃ fd, FunD K "law" "law" (defArgs s_law) (defBody s_law) (defScope s_law) [] [] (He.fAd K ("law", none)) fd
  w : WordF K ["BadPage", "BadPlace", "BadSize", "BadText"]
end Sc
local macro_rules | `(tactic| walk_at "dv") => `(tactic| first
  | exact Sc.dv_int | exact Sc.dv_str | exact Sc.dv_bl | exact Sc.dv_non
  | (refine Sc.dv_var rfl ?_; assumption)
  | (refine Sc.dv_tup ?_ ?_; (walk_at "da"); (exact Nat.le_of_ble_eq_true rfl))
  | (refine Sc.dv_lst ?_ ?_; (walk_at "da"); (exact Nat.le_of_ble_eq_true rfl))
  | (refine Sc.dv_neg ?_; (walk_at "dv"))
  | (refine Sc.dv_addI ?_ ?_; (walk_at "dv"); (walk_at "dv"))
  | (refine Sc.dv_subI ?_ ?_; (walk_at "dv"); (walk_at "dv"))
  | (refine Sc.dv_addL ?_ ?_ ?_; (walk_at "dv"); (walk_at "dv"); (exact Nat.le_of_ble_eq_true rfl)))
local macro_rules | `(tactic| walk_at "da") => `(tactic| first | exact Sc.da_nil | (refine Sc.da_cons ?_ ?_; (walk_at "dv"); (walk_at "da")))
namespace Sc
open PySem PySem.Spec PyProof.Rows L2
def isSign (c : Nat) : Bool := decide (c = 10) || (decide (32 ≤ c) && decide (c ≤ 126) && !decide (c = 37))
def A_is_sign (ds : List PyData) (d : PyData) : Prop := ∃ c : Nat, ds = [.str ⟨#[c]⟩] ∧ d = .bool (isSign c)
theorem sign_lt (a c : Nat) : decide (([c] : List Nat) < [a]) = decide (c < a) := by
  by_cases h : c < a
  · rw [decide_eq_true h]; exact decide_eq_true (List.Lex.rel h)
  · rw [decide_eq_false h]
    refine decide_eq_false fun z => ?_
    cases z with
    | rel z => exact h z
    | cons z => cases z
theorem sign_eq (a c : Nat) : ((⟨#[c]⟩ : Str) == ⟨#[a]⟩) = decide (c = a) := by
  by_cases h : c = a
  · subst h; simp
  · rw [decide_eq_false h]
    refine beq_eq_false_iff_ne.mpr fun z => h ?_
    have z1 := congrArg (fun s : Str => s.cps.toList) z
    simpa using z1
theorem isSign_eq (c : Nat) : (decide ((⟨#[c]⟩ : Str) = Str.ofString "\n") || ((!decide (([c] : List Nat) < [32]) && !decide (([126] : List Nat) < [c])) && !decide (((c : Nat) : Int) = 37))) = isSign c := by
  have e1 : decide ((⟨#[c]⟩ : Str) = Str.ofString "\n") = decide (c = 10) := by
    rw [show Str.ofString "\n" = ⟨#[10]⟩ by decide +kernel, ← Bool.beq_eq_decide_eq, sign_eq]
  have e2 : decide (((c : Nat) : Int) = 37) = decide (c = 37) := by
    by_cases h : c = 37
    · subst h; rfl
    · rw [decide_eq_false h]; exact decide_eq_false (by omega)
  rw [e1, e2, sign_lt, sign_lt]
  unfold isSign
  have e3 : (!decide (c < 32)) = decide (32 ≤ c) := by
    by_cases h : c < 32
    · rw [decide_eq_true h, decide_eq_false (by omega : ¬ 32 ≤ c)]; rfl
    · rw [decide_eq_false h, decide_eq_true (by omega : 32 ≤ c)]; rfl
  have e4 : (!decide (126 < c)) = decide (c ≤ 126) := by
    by_cases h : 126 < c
    · rw [decide_eq_true h, decide_eq_false (by omega : ¬ c ≤ 126)]; rfl
    · rw [decide_eq_false h, decide_eq_true (by omega : c ≤ 126)]; rfl
  rw [e3, e4]
section
variable {P : Program} {w : World} {K : PySem.W.Frag} {mg : Str → Option Value} {base : Heap}
theorem sc_is_sign : FnScope ["sign"] ["sign"] (defScope s_is_sign) := ⟨rfl, rfl, rfl, by decide +kernel, rfl, by decide +kernel, by decide +kernel⟩
theorem c_is_sign (T : GT K mg) : Cal P w K mg base CX0 1 "is_sign" ["sign"] (spF K 1 A_is_sign) := by
  refine cal_F T.f_is_sign T.g_is_sign sc_is_sign rfl (fun _ _ _ _ _ _ us hl => match us, hl with | [_], _ => rfl) fun f cdv A' outer s H vs Q E F ds d hr hf hl ha q => ?_
  obtain ⟨c, rfl, rfl⟩ := ha
  obtain ⟨v, rfl, hv⟩ := dal1 hl
  refine ⟨_, (pss_one (ps_ret (pe_or (pe_cmpR (keq K hr.units) (pv 0) (pe_gs (by rfl) T.t_GAP) (nomark _)) (pe_one (pe_and (pe_chain op_leq op_leq pe_str (pv 0) pe_str) (pe_one (pe_cmpR (kne K hr.units) (pe_callB call_ord (by rfl) T.z_ord (by decide +kernel) (pa_cons (pv 0) pa_nil)) (pe_gi (by rfl) T.i_BARRED) (nomark _)))))))), ?_⟩
  refine s_ret (R := Same) (K := K) (F := F) (dv_is (dv_or (dv_eqS (dv_var rfl hv) dv_str) fun _ => dv_and (dv_chLeS dv_str (dv_var rfl hv) dv_str) fun _ => dv_neI (dv_ord (dv_var rfl hv)) dv_int) (congrArg PyData.bool (isSign_eq c))) hf q
end
end Sc

namespace Sc
open PySem PySem.Spec PyProof.Rows L2
def isCount : PyData → Int → Int → Bool
  | .int i, lo, hi => decide (lo ≤ i) && decide (i ≤ hi)
  | _, _, _ => false
def A_is_count (ds : List PyData) (d : PyData) : Prop := ∃ (e : PyData) (lo hi : Int), ds = [e, .int lo, .int hi] ∧ d = .bool (isCount e lo hi)
theorem isCount_not {e : PyData} {lo hi : Int} (h : ∀ i, e ≠ .int i) : isCount e lo hi = false := by
  cases e with
  | int i => exact absurd rfl (h i)
  | _ => rfl
section
variable {P : Program} {w : World} {K : PySem.W.Frag} {mg : Str → Option Value} {base : Heap}
theorem sc_is_count : FnScope ["thing", "least", "most"] ["thing", "least", "most"] (defScope s_is_count) := ⟨rfl, rfl, rfl, by decide +kernel, rfl, by decide +kernel, by decide +kernel⟩
theorem c_is_count (T : GT K mg) : Cal P w K mg base CX0 1 "is_count" ["thing", "least", "most"] (spF K 3 A_is_count) := by
  refine cal_F T.f_is_count T.g_is_count sc_is_count rfl (fun _ _ _ _ _ _ us hl => match us, hl with | [_, _, _], _ => rfl) fun f cdv A' outer s H vs Q E F ds d hr hf hl ha q => ?_
  obtain ⟨e, lo, hi, rfl, rfl⟩ := ha
  obtain ⟨v, _, rfl, hv, v2, _, rfl, hv2, v3, _, rfl, hv3, rfl⟩ := hl
  refine ⟨_, (pss_one (ps_ret (pe_and (pe_callB (kisi K) (by rfl) T.z_isinstance (by decide +kernel) (pa_cons (pv 0) (pa_cons (pe_bltn (v := .ty "int") (by rfl) T.z_int (by decide +kernel) rfl) pa_nil))) (pe_and (pe_not (pe_callB (kisi K) (by rfl) T.z_isinstance (by decide +kernel) (pa_cons (pv 0) (pa_cons (pe_bltn (v := .ty "bool") (by rfl) T.z_bool (by decide +kernel) rfl) pa_nil)))) (pe_one (pe_chain op_leq op_leq (pv 1) (pv 0) (pv 2))))))), ?_⟩
  by_cases hi' : ∃ i, e = .int i
  · obtain ⟨i, rfl⟩ := hi'
    refine s_ret (R := Same) (K := K) (F := F) (dv_is (dv_and (dv_isInt (dv_var rfl hv)) fun _ => dv_and (dv_not (dv_isBool (dv_var rfl hv))) fun _ => dv_chLe (dv_var rfl hv2) (dv_var rfl hv) (dv_var rfl hv3)) rfl) hf q
  · rw [isCount_not fun i z => hi' ⟨i, z⟩] at q
    have e1 : (isInt e && (!isBool e && false)) = false := by cases e <;> rfl
    refine s_ret (R := Same) (K := K) (F := F) (dv_is (dv_and (dv_isInt (dv_var rfl hv)) fun h1 => dv_and (dv_not (dv_isBool (dv_var rfl hv))) fun h2 => ?_) (congrArg PyData.bool e1)) hf q
    exfalso
    cases e with
    | int i => exact hi' ⟨i, rfl⟩
    | bool b => cases h2
    | _ => cases h1
end
end Sc

namespace Sc
open PySem PySem.Spec PyProof.Rows L2
def okIf (b : Bool) (c : Str) : Except Str PyData := if b = true then .ok .none else .error c
def A_need (ds : List PyData) (r : Except Str PyData) : Prop := ∃ b : Bool, ds = [.bool b] ∧ r = okIf b "BadPage"
section
variable {P : Program} {w : World} {K : PySem.W.Frag} {mg : Str → Option Value} {base : Heap}
theorem sc_need : FnScope ["good"] ["good"] (defScope s_need) := ⟨rfl, rfl, rfl, by decide +kernel, rfl, by decide +kernel, by decide +kernel⟩
theorem c_need (T : GT K mg) : Cal P w K mg base (XC P w) 1 "need" ["good"] (spG K 1 A_need) := by
  refine cal_G T.f_need T.g_need sc_need rfl (fun _ _ _ _ _ _ us hl => match us, hl with | [_], _ => rfl) fun f cdv A' outer s H vs Q E F ds r hr hf hl ha q1 q2 => ?_
  obtain ⟨b, rfl, rfl⟩ := ha
  obtain ⟨v, rfl, hv⟩ := dal1 hl
  refine ⟨_, (pss_one (ps_if (pt_not (pt_val (pv 0))) (pss_one (L2N.ps_raise rfl (L2N.takes_of rfl rfl rfl rfl) (L2N.pmk_own PySem.F.excBase_ValueError T.x_BadPage.1 T.g_BadPage T.x_BadPage.2.1 (raises_own T.x_BadPage.2.2.1 T.x_BadPage.2.2.2) rfl))) pss_nil)), ?_⟩
  refine s_if (R := Same) (F := F) (dt_not (dt_B (K := K) (dv_var rfl hv))) hf (fun e H1 s1 => ?_) fun e H1 s1 => ?_
  · cases b with
    | true => cases e
    | false => exact q2 _ rfl H1 s1
  · cases b with
    | true => exact q1 _ rfl .non H1 s1 rfl
    | false => cases e
end
end Sc

namespace Sc
open PySem PySem.Spec PyProof.Rows L2
def isPen : PyData → Bool
  | .tuple [a, b, c] => isCount a 0 7 && (isCount b 0 7 && isCount c 0 3)
  | _ => false
def A_is_pen (ds : List PyData) (d : PyData) : Prop := ∃ e : PyData, ds = [e] ∧ d = .bool (isPen e)
theorem isPen_len {ds : List PyData} (h : ds.length ≠ 3) : isPen (.tuple ds) = false := by
  match ds with
  | [] => rfl
  | [_] => rfl
  | [_, _] => rfl
  | [_, _, _] => exact absurd rfl h
  | _ :: _ :: _ :: _ :: _ => rfl
section
variable {P : Program} {w : World} {K : PySem.W.Frag} {mg : Str → Option Value} {base : Heap}
theorem sc_is_pen : FnScope ["thing", "one", "most"] ["thing"] (defScope s_is_pen) := ⟨rfl, rfl, rfl, by decide +kernel, rfl, by decide +kernel, by decide +kernel⟩
theorem c_is_pen (T : GT K mg) : Cal P w K mg base CX0 2 "is_pen" ["thing"] (spF K 1 A_is_pen) := by
  refine cal_F T.f_is_pen T.g_is_pen sc_is_pen rfl (fun _ _ _ _ _ _ us hl => match us, hl with | [_], _ => rfl) fun f cdv A' outer s H vs Q E F ds d hr hf hl ha q => ?_
  obtain ⟨e, rfl, rfl⟩ := ha
  obtain ⟨v, rfl, hv⟩ := dal1 hl
  refine ⟨_, (pss_cons (ps_if (PW.pt (pw_or (pt_not (pt_val (pe_callB (kisi K) (by rfl) T.z_isinstance (by decide +kernel) (pa_cons (pv 0) (pa_cons (pe_bltn (v := .ty "tuple") (by rfl) T.z_tuple (by decide +kernel) rfl) pa_nil))))) (pw_or1 (pt_cmpR (kne K hr.units) (pe_callB (klen K) (by rfl) T.z_len (by decide +kernel) (pa_cons (pv 0) pa_nil)) pe_int (nomark _))))) (pss_one (ps_ret pe_bl)) pss_nil)
      (pss_one (ps_ret (pe_callB (kall K) (by rfl) T.z_all (by decide +kernel) (pa_cons (pe_lc (own := [("one", 1), ("most", 2)]) rfl sc_is_pen.nd (ki_zip K T.z_zip (pa_cons (pv 0) (pa_cons (pe_tup (pa_cons (pe_gi (by rfl) T.i_MOST_COLOUR) (pa_cons (pe_gi (by rfl) T.i_MOST_COLOUR) (pa_cons (pe_gi (by rfl) T.i_MOST_MARKS) pa_nil)))) pa_nil))) (blkOk_by (own := [("one", 1), ("most", 2)]) (N := ["thing", "one", "most"]) (sc := defScope s_is_pen) (by decide +kernel)) (fun _ _ _ _ _ => by exact (kg_tup K 2 (pgs_cons (pG 1 sc_is_pen.nd) (pgs_cons (pG 2 sc_is_pen.nd) pgs_nil)))) (fun _ _ _ _ _ => by exact pts_nil) (fun _ _ _ _ _ => by exact (pe_cal (c_is_count T) (hr.mono (by decide)) pass0 (pa_cons (pv 1) (pa_cons pe_int (pa_cons (pv 2) pa_nil)))))) pa_nil))))), ?_⟩
  by_cases ht : ∃ es, e = .tuple es
  · obtain ⟨es, rfl⟩ := ht
    refine s_if (R := Same) (F := F) (dt_or (dt_not (dt_B (K := K) (dv_isTup (dv_var rfl hv)))) fun _ => dt_test (dv_neI (dv_lenT (dv_var rfl hv)) dv_int)) hf (fun e H1 s1 => ?_) fun e H1 s1 => ?_
    · have hn : es.length ≠ 3 := by
        intro z
        rw [z] at e
        cases e
      rw [isPen_len hn] at q
      exact s_ret (R := Same) (K := K) (F := F) dv_bl (hf.mono (xt_of s1)) fun v H2 s2 h => q v H2 (s1.trans s2) h
    · have hn : es.length = 3 := by
        have e' : decide ((es.length : Int) = 3) = true := by simpa [isTup] using e
        have := of_decide_eq_true e'
        omega
      match es, hn with
      | [a, b, c], _ =>
        have hv1 := r_da (R := Same) s1 hv
        refine s_next ?_
        refine s_ret (R := Same) (K := K) (F := F) (d := .bool (isPen (.tuple [a, b, c]))) ?_ (hf.mono (xt_of s1)) fun v H2 s2 h => q v H2 (s1.trans s2) h
        refine dv_is (dv_all (bs := [isCount a 0 7, isCount b 0 7, isCount c 0 3]) (dv_lcZ (ds := [a, b, c]) (es := [.int 7, .int 7, .int 3]) (dv_var rfl hv1) (dv_tup (da_cons dv_int (da_cons dv_int (da_cons dv_int da_nil))) (by decide)) rfl rfl (by show 3 ≤ sizeLine; decide) (fun _ _ => rfl) fun F' H2 v u n d d' e w h1 h2 h3 g1 g2 => ?_)) (by simp [isPen, Bool.and_assoc])
        refine dv_call (da_cons (dv_var rfl g1) (da_cons dv_int (da_cons (dv_var rfl g2) da_nil))) (sd_F ?_ rfl)
        match n, h1, h2, h3 with
        | 0, h1, h2, h3 => cases h1; cases h2; cases h3; exact ⟨_, _, _, rfl, rfl⟩
        | 1, h1, h2, h3 => cases h1; cases h2; cases h3; exact ⟨_, _, _, rfl, rfl⟩
        | 2, h1, h2, h3 => cases h1; cases h2; cases h3; exact ⟨_, _, _, rfl, rfl⟩
  · have e1 : isTup e = false := by
      cases e with
      | tuple es => exact absurd ⟨es, rfl⟩ ht
      | _ => rfl
    have e2 : isPen e = false := by
      cases e with
      | tuple es => exact absurd ⟨es, rfl⟩ ht
      | _ => rfl
    rw [e2] at q
    refine s_if (R := Same) (F := F) (b := true) (dt_is (dt_or (b := true) (dt_not (dt_B (K := K) (dv_isTup (dv_var rfl hv)))) fun h => absurd h (by rw [e1]; decide)) (by rw [e1]; rfl)) hf (fun e H1 s1 => ?_) fun e H1 s1 => nomatch e
    exact s_ret (R := Same) (K := K) (F := F) dv_bl (hf.mono (xt_of s1)) fun v H2 s2 h => q v H2 (s1.trans s2) h
end
end Sc

namespace Sc
open PySem PySem.Spec PyProof.Rows L2
def isCell : PyData → Bool
  | .tuple [.str x, p] => decide (x.length = 1) && (!decide (x = "\n") && (isSign (x.cps.getD 0 0) && isPen p))
  | _ => false
/-- texts within that are no longer than may be asked -/
def cellSm : PyData → Prop
  | .tuple [.str x, _] => x.length ≤ sizeLine
  | _ => True
def A_is_cell (ds : List PyData) (d : PyData) : Prop := ∃ e : PyData, ds = [e] ∧ cellSm e ∧ d = .bool (isCell e)
theorem isCell_len {ds : List PyData} (h : ds.length ≠ 2) : isCell (.tuple ds) = false := by
  match ds with
  | [] => rfl
  | [a] => cases a <;> rfl
  | [_, _] => exact absurd rfl h
  | a :: _ :: _ :: _ => cases a <;> rfl
theorem isCell_no {a p : PyData} (h : isStr a = false) : isCell (.tuple [a, p]) = false := by
  cases a with
  | str x => cases h
  | _ => rfl
theorem one_sign {x : Str} (h : x.length = 1) : x = ⟨#[x.cps.getD 0 0]⟩ := by
  obtain ⟨⟨l⟩⟩ := x
  have h : l.length = 1 := h
  match l, h with
  | [c], _ => rfl
section
variable {P : Program} {w : World} {K : PySem.W.Frag} {mg : Str → Option Value} {base : Heap}
theorem sc_is_cell : FnScope ["thing"] ["thing"] (defScope s_is_cell) := ⟨rfl, rfl, rfl, by decide +kernel, rfl, by decide +kernel, by decide +kernel⟩
theorem c_is_cell (T : GT K mg) : Cal P w K mg base CX0 3 "is_cell" ["thing"] (spF K 1 A_is_cell) := by
  refine cal_F T.f_is_cell T.g_is_cell sc_is_cell rfl (fun _ _ _ _ _ _ us hl => match us, hl with | [_], _ => rfl) fun f cdv A' outer s H vs Q E F ds d hr hf hl ha q => ?_
  obtain ⟨e, rfl, sm, rfl⟩ := ha
  obtain ⟨v, rfl, hv⟩ := dal1 hl
  refine ⟨_, (pss_cons (ps_if (PW.pt (pw_or (pt_not (pt_val (pe_callB (kisi K) (by rfl) T.z_isinstance (by decide +kernel) (pa_cons (pv 0) (pa_cons (pe_bltn (v := .ty "tuple") (by rfl) T.z_tuple (by decide +kernel) rfl) pa_nil))))) (pw_or (pt_cmpR (kne K hr.units) (pe_callB (klen K) (by rfl) T.z_len (by decide +kernel) (pa_cons (pv 0) pa_nil)) pe_int (nomark _)) (pw_or (pt_not (pt_val (pe_callB (kisi K) (by rfl) T.z_isinstance (by decide +kernel) (pa_cons (pe_ix (kix K) (pv 0) pe_int (fun _ _ => rfl)) (pa_cons (pe_bltn (v := .ty "str") (by rfl) T.z_str (by decide +kernel) rfl) pa_nil))))) (pw_or1 (pt_cmpR (kne K hr.units) (pe_callB (klen K) (by rfl) T.z_len (by decide +kernel) (pa_cons (pe_ix (kix K) (pv 0) pe_int (fun _ _ => rfl)) pa_nil)) pe_int (nomark _))))))) (pss_one (ps_ret pe_bl)) pss_nil)
      (pss_one (ps_ret (pe_and (pe_cmpR (kne K hr.units) (pe_ix (kix K) (pv 0) pe_int (fun _ _ => rfl)) (pe_gs (by rfl) T.t_GAP) (nomark _)) (pe_and (pe_cal (c_is_sign T) (hr.mono (by decide)) pass0 (pa_cons (pe_ix (kix K) (pv 0) pe_int (fun _ _ => rfl)) pa_nil)) (pe_one (pe_cal (c_is_pen T) (hr.mono (by decide)) pass0 (pa_cons (pe_ix (kix K) (pv 0) pe_int (fun _ _ => rfl)) pa_nil)))))))), ?_⟩
  -- the test, and its answer
  have ret0 : ∀ H1, Same H H1 → (isCell e = false) → tRet (tC (V.bl false)) { nx := fun _ H' => Q .non H', rt := Q } (L2.start ["thing"] [v]) H1 := fun H1 s1 z => by
    rw [z] at q
    exact s_ret (R := Same) (K := K) (F := F) dv_bl (hf.mono (xt_of s1)) fun v H2 s2 h => q v H2 (s1.trans s2) h
  by_cases ht : ∃ es, e = .tuple es
  · obtain ⟨es, rfl⟩ := ht
    by_cases hn : es.length = 2
    · match es, hn with
      | [a, p], _ =>
        by_cases hs : ∃ x, a = .str x
        · obtain ⟨x, rfl⟩ := hs
          have sm : x.length ≤ sizeLine := sm
          refine s_if (R := Same) (F := F) (b := !decide (x.length = 1)) (dt_is (dt_or (dt_not (dt_B (K := K) (dv_isTup (dv_var rfl hv)))) fun _ => dt_or (dt_test (dv_neI (dv_lenT (dv_var rfl hv)) dv_int)) fun _ => dt_or (dt_not (dt_B (K := K) (dv_isStr (dv_ixT (dv_var rfl hv) dv_int rfl)))) fun _ =>
            dt_test (dv_neI (dv_lenS (dv_ixT (dv_var rfl hv) dv_int rfl) sm) dv_int)) ?_) hf (fun e H1 s1 => ret0 H1 s1 ?_) fun e H1 s1 => ?_
          · have e1 : decide ((x.length : Int) = 1) = decide (x.length = 1) := by
              by_cases h : x.length = 1
              · rw [decide_eq_true h, h]; rfl
              · rw [decide_eq_false h]; exact decide_eq_false (by omega)
            show (!true || (!decide (((2 : Nat) : Int) = 2) || (!true || !decide ((x.length : Int) = 1)))) = _
            rw [e1]
            rfl
          · show (decide (x.length = 1) && _) = false
            cases h : decide (x.length = 1) with
            | false => rfl
            | true => rw [h] at e; cases e
          · have h1 : x.length = 1 := by
              cases h : decide (x.length = 1) with
              | true => exact of_decide_eq_true h
              | false => rw [h] at e; cases e
            have hv1 := r_da (R := Same) s1 hv
            have hx := one_sign h1
            refine s_next ?_
            refine s_ret (R := Same) (K := K) (F := F) (dv_is (dv_and (dv_neS (dv_ixT (dv_var rfl hv1) dv_int rfl) dv_str) fun _ => dv_and (dv_call (da_cons (dv_ixT (dv_var rfl hv1) dv_int rfl) da_nil) (sd_F ⟨x.cps.getD 0 0, by rw [← hx], rfl⟩ rfl)) fun _ => dv_call (da_cons (dv_ixT (dv_var rfl hv1) dv_int rfl) da_nil) (sd_F ⟨p, rfl, rfl⟩ rfl)) ?_) (hf.mono (xt_of s1)) fun v H2 s2 h => q v H2 (s1.trans s2) h
            show _ = PyData.bool (decide (x.length = 1) && _)
            rw [decide_eq_true h1]
            rfl
        · have e1 : isStr a = false := by
            cases a with
            | str x => exact absurd ⟨x, rfl⟩ hs
            | _ => rfl
          refine s_if (R := Same) (F := F) (b := true) (dt_is (dt_or (dt_not (dt_B (K := K) (dv_isTup (dv_var rfl hv)))) fun _ => dt_or (dt_test (dv_neI (dv_lenT (dv_var rfl hv)) dv_int)) fun _ => dt_or (b := true) (dt_not (dt_B (K := K) (dv_isStr (dv_ixT (dv_var rfl hv) dv_int rfl)))) fun h => absurd h (by rw [e1]; decide)) (by rw [e1]; rfl)) hf (fun e H1 s1 => ret0 H1 s1 (isCell_no e1)) fun e H1 s1 => nomatch e
    · refine s_if (R := Same) (F := F) (b := true) (dt_is (dt_or (dt_not (dt_B (K := K) (dv_isTup (dv_var rfl hv)))) fun _ => dt_or (b := true) (dt_test (dv_neI (dv_lenT (dv_var rfl hv)) dv_int)) fun h => absurd h (by rw [decide_eq_false (show ¬ (es.length : Int) = 2 by omega)]; decide)) (by rw [decide_eq_false (show ¬ (es.length : Int) = 2 by omega)]; rfl)) hf (fun e H1 s1 => ret0 H1 s1 (isCell_len hn)) fun e H1 s1 => nomatch e
  · have e1 : isTup e = false := by
      cases e with
      | tuple es => exact absurd ⟨es, rfl⟩ ht
      | _ => rfl
    have e2 : isCell e = false := by
      cases e with
      | tuple es => exact absurd ⟨es, rfl⟩ ht
      | _ => rfl
    refine s_if (R := Same) (F := F) (b := true) (dt_is (dt_or (b := true) (dt_not (dt_B (K := K) (dv_isTup (dv_var rfl hv)))) fun h => absurd h (by rw [e1]; decide)) (by rw [e1]; rfl)) hf (fun e H1 s1 => ret0 H1 s1 e2) fun e H1 s1 => nomatch e
end
end Sc

namespace Sc
open PySem PySem.Spec PyProof.Rows L2
def items : PyData → List PyData
  | .list xs => xs
  | _ => []
def isPage : PyData → Bool
  | .list rows => (decide (0 < rows.length) && rows.all isLst) && ((decide (0 < (items (rows.headD .none)).length) && rows.all fun r => decide ((items r).length = (items (rows.headD .none)).length)) && rows.all fun r => (items r).all isCell)
  | _ => false
/-- sizes that may be asked -/
def pageSm : PyData → Prop
  | .list rows => rows.length ≤ sizeLine ∧ ∀ r ∈ rows, (items r).length ≤ sizeLine ∧ ∀ c ∈ items r, cellSm c
  | _ => True
def A_need_page (ds : List PyData) (r : Except Str PyData) : Prop := ∃ e : PyData, ds = [e] ∧ pageSm e ∧ r = okIf (isPage e) "BadPage"
theorem lst_items {d : PyData} (h : isLst d = true) : d = .list (items d) := by
  cases d with
  | list xs => rfl
  | _ => cases h
theorem all_map {α : Type} (f : α → Bool) (l : List α) : (l.map f).all id = l.all f := by
  induction l with
  | nil => rfl
  | cons a l ih => simp
theorem okIf_ok {b : Bool} {c : Str} {d : PyData} (h : okIf b c = .ok d) : b = true ∧ d = .none := by
  cases b with
  | true => exact ⟨rfl, by cases h; rfl⟩
  | false => cases h
theorem okIf_err {b : Bool} {c c' : Str} (h : okIf b c = .error c') : b = false ∧ c' = c := by
  cases b with
  | true => cases h
  | false => exact ⟨rfl, by cases h; rfl⟩
theorem pos_int (n : Nat) : decide ((0 : Int) < (n : Int)) = decide (0 < n) := by
  by_cases h : 0 < n
  · rw [decide_eq_true h]; exact decide_eq_true (by omega)
  · rw [decide_eq_false h]; exact decide_eq_false (by omega)
theorem eq_int (n m : Nat) : decide ((n : Int) = (m : Int)) = decide (n = m) := by
  by_cases h : n = m
  · rw [decide_eq_true h]; exact decide_eq_true (by omega)
  · rw [decide_eq_false h]; exact decide_eq_false (by omega)
theorem get_map {α β : Type} {f : α → β} {l : List α} {j : Nat} {a : α} {b : β} (h1 : l[j]? = some a) (h2 : (l.map f)[j]? = some b) : b = f a := by
  rw [List.getElem?_map, h1] at h2
  exact (Option.some.inj h2).symm
section
variable {P : Program} {w : World} {K : PySem.W.Frag} {mg : Str → Option Value} {base : Heap}
theorem sc_need_page : FnScope ["page", "row", "cell"] ["page"] (defScope s_need_page) := ⟨rfl, rfl, rfl, by decide +kernel, rfl, by decide +kernel, by decide +kernel⟩
theorem c_need_page (T : GT K mg) : Cal P w K mg base (XC P w) 4 "need_page" ["page"] (spG K 1 A_need_page) := by
  refine cal_G T.f_need_page T.g_need_page sc_need_page rfl (fun _ _ _ _ _ _ us hl => match us, hl with | [_], _ => rfl) fun f cdv A' outer s H vs Q E F ds r hr hf hl ha q1 q2 => ?_
  obtain ⟨e, rfl, sm, rfl⟩ := ha
  obtain ⟨v, rfl, hv⟩ := dal1 hl
  refine ⟨_, (pss_cons (ps_expr (pe_cal (c_need T) (hr.mono (by decide)) (passX rfl rfl rfl rfl) (pa_cons (pe_and (pe_callB (kisi K) (by rfl) T.z_isinstance (by decide +kernel) (pa_cons (pv 0) (pa_cons (pe_bltn (v := .ty "list") (by rfl) T.z_list (by decide +kernel) rfl) pa_nil))) (pe_and (pe_cmpR op_gt (pe_callB (klen K) (by rfl) T.z_len (by decide +kernel) (pa_cons (pv 0) pa_nil)) pe_int (nomark _)) (pe_one (pe_callB (kall K) (by rfl) T.z_all (by decide +kernel) (pa_cons (pe_lc (own := [("row", 1)]) rfl sc_need_page.nd (ki_list K (pv 0)) (blkOk_by (own := [("row", 1)]) (N := ["page", "row", "cell"]) (sc := defScope s_need_page) (by decide +kernel)) (fun _ _ _ _ _ => by exact (pG 1 sc_need_page.nd)) (fun _ _ _ _ _ => by exact pts_nil) (fun _ _ _ _ _ => by exact (pe_callB (kisi K) (by rfl) T.z_isinstance (by decide +kernel) (pa_cons (pv 1) (pa_cons (pe_bltn (v := .ty "list") (by rfl) T.z_list (by decide +kernel) rfl) pa_nil))))) pa_nil))))) pa_nil)))
      (pss_cons (ps_expr (pe_cal (c_need T) (hr.mono (by decide)) (passX rfl rfl rfl rfl) (pa_cons (pe_and (pe_cmpR op_gt (pe_callB (klen K) (by rfl) T.z_len (by decide +kernel) (pa_cons (pe_ix (kix K) (pv 0) pe_int (fun _ _ => rfl)) pa_nil)) pe_int (nomark _)) (pe_one (pe_callB (kall K) (by rfl) T.z_all (by decide +kernel) (pa_cons (pe_lc (own := [("row", 1)]) rfl sc_need_page.nd (ki_list K (pv 0)) (blkOk_by (own := [("row", 1)]) (N := ["page", "row", "cell"]) (sc := defScope s_need_page) (by decide +kernel)) (fun _ _ _ _ _ => by exact (pG 1 sc_need_page.nd)) (fun _ _ _ _ _ => by exact pts_nil) (fun _ _ _ _ _ => by exact (pe_cmpR (keq K hr.units) (pe_callB (klen K) (by rfl) T.z_len (by decide +kernel) (pa_cons (pv 1) pa_nil)) (pe_callB (klen K) (by rfl) T.z_len (by decide +kernel) (pa_cons (pe_ix (kix K) (pv 0) pe_int (fun _ _ => rfl)) pa_nil)) (nomark _)))) pa_nil)))) pa_nil)))
      (pss_one (ps_for (passes_of rfl) rfl (ki_list K (pv 0)) (pG 1 sc_need_page.nd) (pss_one (ps_expr (pe_cal (c_need T) (hr.mono (by decide)) (passX rfl rfl rfl rfl) (pa_cons (pe_callB (kall K) (by rfl) T.z_all (by decide +kernel) (pa_cons (pe_lc (own := [("cell", 2)]) rfl sc_need_page.nd (ki_list K (pv 1)) (blkOk_by (own := [("cell", 2)]) (N := ["page", "row", "cell"]) (sc := defScope s_need_page) (by decide +kernel)) (fun _ _ _ _ _ => by exact (pG 2 sc_need_page.nd)) (fun _ _ _ _ _ => by exact pts_nil) (fun _ _ _ _ _ => by exact (pe_cal (c_is_cell T) (hr.mono (by decide)) pass0 (pa_cons (pv 2) pa_nil)))) pa_nil)) pa_nil)))))))), ?_⟩
  have bad : ∀ H1, isPage e = false → Same H H1 → E (.ref (He.ga K "BadPage")) none H1 := fun H1 z s1 => q2 "BadPage" (by rw [z]; rfl) H1 s1
  by_cases ht : ∃ rows, e = .list rows
  · obtain ⟨rows, rfl⟩ := ht
    obtain ⟨sm1, sm2⟩ := sm
    refine s_seq (s_call (R := Same) (K := K) (F := F) (r := okIf (decide (0 < rows.length) && rows.all isLst) "BadPage") (da_cons (dv_is (dv_and (dv_isLst (dv_var rfl hv)) fun _ => dv_and (dv_gt (dv_lenL (dv_var rfl hv)) dv_int) fun _ => dv_all (bs := rows.map isLst)
      (dv_lcL (gs := (rows.map isLst).map PyData.bool) (dv_var rfl hv) (by rw [List.length_map, List.length_map]) sm1 (fun _ => rfl) fun F' H1 u j d e' w h1 h2 g => dv_is (dv_isLst (dv_var rfl g)) (by rw [List.map_map] at h2; exact (get_map h1 h2).symm))) rfl) da_nil) hf ⟨_, rfl, ?_⟩ rfl ?_ ?_)
    · show _ = okIf (true && (decide ((0 : Int) < (rows.length : Int)) && (rows.map isLst).all id)) _
      rw [pos_int, all_map]
      rfl
    · intro d hd H1 s1
      obtain ⟨hb, rfl⟩ := okIf_ok hd
      obtain ⟨h0, hL⟩ := Bool.and_eq_true_iff.mp hb
      have h0 : 0 < rows.length := of_decide_eq_true h0
      have hL : ∀ r ∈ rows, isLst r = true := fun r hr => List.all_eq_true.mp hL r hr
      match rows, h0 with
      | r0 :: rs, h0 =>
      have hl0 : r0 = .list (items r0) := lst_items (hL r0 List.mem_cons_self)
      have hv1 := r_da (R := Same) s1 hv
      have f1 := r_fd (R := Same) s1 hf
      have at0 : atI (r0 :: rs) 0 = some (.list (items r0)) := by rw [← hl0]; exact atI_nat (j := 0) rfl
      refine s_seq (s_call (R := Same) (K := K) (F := F) (r := okIf (decide (0 < (items r0).length) && (r0 :: rs).all fun r => decide ((items r).length = (items r0).length)) "BadPage") (da_cons (dv_is (dv_and (dv_gt (dv_lenL (dv_ixL (dv_var rfl hv1) dv_int at0)) dv_int) fun _ => dv_all (bs := (r0 :: rs).map fun r => decide ((items r).length = (items r0).length))
        (dv_lcL (gs := ((r0 :: rs).map fun r => decide ((items r).length = (items r0).length)).map PyData.bool) (dv_var rfl hv1) (by rw [List.length_map, List.length_map]) sm1 (fun _ => rfl) fun F' H2 u j d e' w h1 h2 g => ?_)) rfl) da_nil) f1 ⟨_, rfl, ?_⟩ rfl ?_ ?_)
      · have hd : d = .list (items d) := lst_items (hL d (List.mem_of_getElem? h1))
        rw [hd] at g
        refine dv_is (dv_eqI (dv_lenL (dv_var rfl g)) (dv_lenL (dv_ixL (dv_var rfl (w.da hv1)) dv_int at0))) ?_
        rw [List.map_map] at h2
        rw [get_map h1 h2, eq_int]
        rfl
      · show _ = okIf (decide ((0 : Int) < ((items r0).length : Int)) && (List.map (fun r => decide ((items r).length = (items r0).length)) (r0 :: rs)).all id) _
        rw [pos_int, all_map]
      · intro d hd2 H2 s2
        obtain ⟨hb2, rfl⟩ := okIf_ok hd2
        have hv2 := r_da (R := Same) s2 hv1
        have f2 := r_fd (R := Same) s2 f1
        refine s_forL (R := Same) (K := K) (F := F) (dv_var rfl hv2) f2 fun H3 s3 f3 => ⟨fun j σ' H' => Same H3 H' ∧ (∃ o, σ' = [some v, o, none]) ∧ ∀ i r, i < j → (r0 :: rs)[i]? = some r → (items r).all isCell = true, ⟨Same.refl _, ⟨none, rfl⟩, fun i r hi => absurd hi (Nat.not_lt_zero _)⟩, fun j σ' H' p => hid_xt (xt_of p.1), ?_, ?_⟩
        · rintro j σ' H' d u hd ⟨s4, ⟨o, rfl⟩, hall⟩ hu
          have hdl : d = .list (items d) := lst_items (hL d (List.mem_of_getElem? hd))
          obtain ⟨smr, smc⟩ := sm2 d (List.mem_of_getElem? hd)
          have hu' := hu
          rw [hdl] at hu'
          have f4 := r_fd (R := Same) s4 f3
          refine s_call (R := Same) (K := K) (F := F) (r := okIf ((items d).all isCell) "BadPage") (da_cons (dv_all (bs := (items d).map isCell) (dv_lcL (gs := ((items d).map isCell).map PyData.bool) (dv_var rfl hu') (by rw [List.length_map, List.length_map]) smr (fun _ => rfl) fun F' H2 u2 j2 d2 e2 w2 h1 h2 g => ?_)) da_nil) f4 ⟨_, rfl, ?_⟩ rfl ?_ ?_
          · rw [List.map_map] at h2
            rw [get_map h1 h2]
            exact dv_call (da_cons (dv_var rfl g) da_nil) (sd_F ⟨d2, rfl, smc d2 (List.mem_of_getElem? h1), rfl⟩ rfl)
          · rw [all_map]
          · intro x hx H5 s5
            obtain ⟨hc, rfl⟩ := okIf_ok hx
            refine ⟨s4.trans s5, ⟨_, rfl⟩, fun i r hi hr => ?_⟩
            by_cases hij : i < j
            · exact hall i r hij hr
            · have : i = j := by omega
              subst this
              rw [hd] at hr
              cases hr
              exact hc
          · intro c hc H5 s5
            obtain ⟨hb3, rfl⟩ := okIf_err hc
            refine bad H5 ?_ ((s1.trans (s2.trans s3)).trans (s4.trans s5))
            show (_ && (_ && List.all (r0 :: rs) fun r => (items r).all isCell)) = false
            have hx : (List.all (r0 :: rs) fun r => (items r).all isCell) = false := by
              cases hz : (List.all (r0 :: rs) fun r => (items r).all isCell) with
              | false => rfl
              | true =>
                have := List.all_eq_true.mp hz d (List.mem_of_getElem? hd)
                rw [hb3] at this
                cases this
            rw [hx, Bool.and_false, Bool.and_false]
        · rintro σ' H' ⟨s4, _, hall⟩
          refine q1 .none ?_ .non H' ((s1.trans s2).trans (s3.trans s4)) rfl
          have hx : (List.all (r0 :: rs) fun r => (items r).all isCell) = true := List.all_eq_true.mpr fun r hr => by
            obtain ⟨i, hi, hir⟩ := List.mem_iff_getElem.mp hr
            exact hall i r hi (by rw [List.getElem?_eq_getElem hi, hir])
          have hz : isPage (.list (r0 :: rs)) = true := by
            show ((decide (0 < (r0 :: rs).length) && (r0 :: rs).all isLst) && ((decide (0 < (items r0).length) && (r0 :: rs).all fun r => decide ((items r).length = (items r0).length)) && _)) = true
            rw [hx, hb2, hb]
            rfl
          rw [hz]
          rfl
      · intro c hc H2 s2
        obtain ⟨hb2, rfl⟩ := okIf_err hc
        refine bad H2 ?_ (s1.trans s2)
        show (_ && ((decide (0 < (items r0).length) && (r0 :: rs).all fun r => decide ((items r).length = (items r0).length)) && _)) = false
        rw [hb2, Bool.false_and, Bool.and_false]
    · intro c hc H1 s1
      obtain ⟨hb, rfl⟩ := okIf_err hc
      refine bad H1 ?_ s1
      show ((decide (0 < rows.length) && rows.all isLst) && _) = false
      rw [hb]
      rfl
  · have e1 : isLst e = false := by
      cases e with
      | list rows => exact absurd ⟨rows, rfl⟩ ht
      | _ => rfl
    have e2 : isPage e = false := by
      cases e with
      | list rows => exact absurd ⟨rows, rfl⟩ ht
      | _ => rfl
    refine s_seq (s_call (R := Same) (K := K) (F := F) (r := .error "BadPage") (da_cons (dv_is (d' := .bool false) (dv_and (b := true) (dv_isLst (dv_var rfl hv)) fun h => absurd h (by rw [e1]; decide)) (by rw [e1]; rfl)) da_nil) hf ⟨false, rfl, rfl⟩ rfl ?_ ?_)
    · intro d h
      cases h
    · intro c h H1 s1
      cases h
      exact bad H1 e2 s1
end
end Sc

namespace Sc
open PySem PySem.Spec PyProof.Rows L2
def tupItems : PyData → List PyData
  | .tuple xs => xs
  | _ => []
def intOf : PyData → Int
  | .int i => i
  | _ => 0
/-- a stretch of cells of a page so high and wide -/
def isChange (h w : Nat) : PyData → Bool
  | .tuple [a, b, c] => isCount a 0 ((h : Int) - 1) && ((isCount b 0 ((w : Int) - 1) && isTup c) && ((decide ((1 : Int) ≤ ((tupItems c).length : Int)) && decide (((tupItems c).length : Int) ≤ (w : Int) - intOf b)) && (tupItems c).all isCell))
  | _ => false
def chgSm : PyData → Prop
  | .tuple [_, _, c] => (tupItems c).length ≤ sizeLine ∧ ∀ x ∈ tupItems c, cellSm x
  | _ => True
def A_is_change (ds : List PyData) (d : PyData) : Prop := ∃ (c0 rs : List PyData) (e : PyData), ds = [.list (.list c0 :: rs), e] ∧ chgSm e ∧ d = .bool (isChange (rs.length + 1) c0.length e)
theorem isChange_len {h w : Nat} {ds : List PyData} (hn : ds.length ≠ 3) : isChange h w (.tuple ds) = false := by
  match ds with
  | [] => rfl
  | [_] => rfl
  | [_, _] => rfl
  | [_, _, _] => exact absurd rfl hn
  | _ :: _ :: _ :: _ :: _ => rfl
theorem count_int {d : PyData} {lo hi : Int} (h : isCount d lo hi = true) : d = .int (intOf d) := by
  cases d with
  | int i => rfl
  | _ => cases h
theorem tup_items {d : PyData} (h : isTup d = true) : d = .tuple (tupItems d) := by
  cases d with
  | tuple xs => rfl
  | _ => cases h
section
variable {P : Program} {w : World} {K : PySem.W.Frag} {mg : Str → Option Value} {base : Heap}
theorem sc_is_change : FnScope ["page", "thing", "cell"] ["page", "thing"] (defScope s_is_change) := ⟨rfl, rfl, rfl, by decide +kernel, rfl, by decide +kernel, by decide +kernel⟩
theorem c_is_change (T : GT K mg) : Cal P w K mg base CX0 4 "is_change" ["page", "thing"] (spF K 2 A_is_change) := by
  refine cal_F T.f_is_change T.g_is_change sc_is_change rfl (fun _ _ _ _ _ _ us hl => match us, hl with | [_, _], _ => rfl) fun f cdv A' outer s H vs Q E F ds d hr hf hl ha q => ?_
  obtain ⟨c0, rs, e, rfl, sm, rfl⟩ := ha
  obtain ⟨v, v2, rfl, hp, hv⟩ := dal2 hl
  refine ⟨_, (pss_cons (ps_if (PW.pt (pw_or (pt_not (pt_val (pe_callB (kisi K) (by rfl) T.z_isinstance (by decide +kernel) (pa_cons (pv 1) (pa_cons (pe_bltn (v := .ty "tuple") (by rfl) T.z_tuple (by decide +kernel) rfl) pa_nil))))) (pw_or (pt_cmpR (kne K hr.units) (pe_callB (klen K) (by rfl) T.z_len (by decide +kernel) (pa_cons (pv 1) pa_nil)) pe_int (nomark _)) (pw_or1 (pt_not (pt_val (pe_cal (c_is_count T) (hr.mono (by decide)) pass0 (pa_cons (pe_ix (kix K) (pv 1) pe_int (fun _ _ => rfl)) (pa_cons pe_int (pa_cons (pe_op op_sub (pe_callB (klen K) (by rfl) T.z_len (by decide +kernel) (pa_cons (pv 0) pa_nil)) pe_int) pa_nil)))))))))) (pss_one (ps_ret pe_bl)) pss_nil)
      (pss_cons (ps_if (PW.pt (pw_or (pt_not (pt_val (pe_cal (c_is_count T) (hr.mono (by decide)) pass0 (pa_cons (pe_ix (kix K) (pv 1) pe_int (fun _ _ => rfl)) (pa_cons pe_int (pa_cons (pe_op op_sub (pe_callB (klen K) (by rfl) T.z_len (by decide +kernel) (pa_cons (pe_ix (kix K) (pv 0) pe_int (fun _ _ => rfl)) pa_nil)) pe_int) pa_nil)))))) (pw_or1 (pt_not (pt_val (pe_callB (kisi K) (by rfl) T.z_isinstance (by decide +kernel) (pa_cons (pe_ix (kix K) (pv 1) pe_int (fun _ _ => rfl)) (pa_cons (pe_bltn (v := .ty "tuple") (by rfl) T.z_tuple (by decide +kernel) rfl) pa_nil)))))))) (pss_one (ps_ret pe_bl)) pss_nil)
      (pss_one (ps_ret (pe_and (pe_chain op_leq op_leq pe_int (pe_callB (klen K) (by rfl) T.z_len (by decide +kernel) (pa_cons (pe_ix (kix K) (pv 1) pe_int (fun _ _ => rfl)) pa_nil)) (pe_op op_sub (pe_callB (klen K) (by rfl) T.z_len (by decide +kernel) (pa_cons (pe_ix (kix K) (pv 0) pe_int (fun _ _ => rfl)) pa_nil)) (pe_ix (kix K) (pv 1) pe_int (fun _ _ => rfl)))) (pe_one (pe_callB (kall K) (by rfl) T.z_all (by decide +kernel) (pa_cons (pe_lc (own := [("cell", 2)]) rfl sc_is_change.nd (ki_tup K (pe_ix (kix K) (pv 1) pe_int (fun _ _ => rfl))) (blkOk_by (own := [("cell", 2)]) (N := ["page", "thing", "cell"]) (sc := defScope s_is_change) (by decide +kernel)) (fun _ _ _ _ _ => by exact (pG 2 sc_is_change.nd)) (fun _ _ _ _ _ => by exact pts_nil) (fun _ _ _ _ _ => by exact (pe_cal (c_is_cell T) (hr.mono (by decide)) pass0 (pa_cons (pv 2) pa_nil)))) pa_nil)))))))), ?_⟩
  have at0 : atI (PyData.list c0 :: rs) 0 = some (.list c0) := atI_nat (j := 0) rfl
  have ret0 : ∀ H1, Same H H1 → (isChange (rs.length + 1) c0.length e = false) → tRet (tC (V.bl false)) { nx := fun _ H' => Q .non H', rt := Q } (L2.start ["page", "thing", "cell"] [v, v2]) H1 := fun H1 s1 z => by
    rw [z] at q
    exact s_ret (R := Same) (K := K) (F := F) dv_bl (hf.mono (xt_of s1)) fun v H2 s2 h => q v H2 (s1.trans s2) h
  by_cases ht : ∃ es, e = .tuple es
  · obtain ⟨es, rfl⟩ := ht
    by_cases hn : es.length = 3
    · match es, hn with
      | [a, b, c], _ =>
        obtain ⟨sm1, sm2⟩ := sm
        refine s_seq (s_if (R := Same) (F := F) (b := !isCount a 0 (((rs.length + 1 : Nat) : Int) - 1)) (dt_is (dt_or (dt_not (dt_B (K := K) (dv_isTup (dv_var rfl hv)))) fun _ => dt_or (dt_test (dv_neI (dv_lenT (dv_var rfl hv)) dv_int)) fun _ =>
          dt_not (dt_B (K := K) (dv_call (da_cons (dv_ixT (dv_var rfl hv) dv_int rfl) (da_cons dv_int (da_cons (dv_subI (dv_lenL (dv_var rfl hp)) dv_int) da_nil))) (sd_F ⟨_, _, _, rfl, rfl⟩ rfl)))) rfl) hf (fun e1 H1 s1 => ret0 H1 s1 ?_) fun e1 H1 s1 => ?_)
        · show (isCount a 0 (((rs.length + 1 : Nat) : Int) - 1) && _) = false
          cases h : isCount a 0 (((rs.length + 1 : Nat) : Int) - 1) with
          | false => rfl
          | true => rw [h] at e1; cases e1
        · have ea : isCount a 0 (((rs.length + 1 : Nat) : Int) - 1) = true := by
            cases h : isCount a 0 (((rs.length + 1 : Nat) : Int) - 1) with
            | true => rfl
            | false => rw [h] at e1; cases e1
          have hp1 := r_da (R := Same) s1 hp
          have hv1 := r_da (R := Same) s1 hv
          have f1 := r_fd (R := Same) s1 hf
          refine s_next (s_seq (s_if (R := Same) (F := F) (b := !(isCount b 0 ((c0.length : Int) - 1) && isTup c)) (dt_is (dt_or (dt_not (dt_B (K := K) (dv_call (da_cons (dv_ixT (dv_var rfl hv1) dv_int rfl) (da_cons dv_int (da_cons (dv_subI (dv_lenL (dv_ixL (dv_var rfl hp1) dv_int at0)) dv_int) da_nil))) (sd_F ⟨_, _, _, rfl, rfl⟩ rfl)))) fun _ =>
            dt_not (dt_B (K := K) (dv_isTup (dv_ixT (dv_var rfl hv1) dv_int rfl)))) (by rw [Bool.not_and])) f1 (fun e2 H2 s2 => ret0 H2 (s1.trans s2) ?_) fun e2 H2 s2 => ?_))
          · show (_ && ((isCount b 0 ((c0.length : Int) - 1) && isTup c) && _)) = false
            cases h : (isCount b 0 ((c0.length : Int) - 1) && isTup c) with
            | false => rw [Bool.false_and, Bool.and_false]
            | true => rw [h] at e2; cases e2
          · have eb : (isCount b 0 ((c0.length : Int) - 1) && isTup c) = true := by
              cases h : (isCount b 0 ((c0.length : Int) - 1) && isTup c) with
              | true => rfl
              | false => rw [h] at e2; cases e2
            obtain ⟨eb1, ec1⟩ := Bool.and_eq_true_iff.mp eb
            have hp2 := r_da (R := Same) s2 hp1
            have hv2 := r_da (R := Same) s2 hv1
            have f2 := r_fd (R := Same) s2 f1
            have at1 : atI [a, b, c] 1 = some (.int (intOf b)) := by rw [← count_int eb1]; rfl
            have at2 : atI [a, b, c] 2 = some (.tuple (tupItems c)) := by rw [← tup_items ec1]; rfl
            refine s_next (s_ret (R := Same) (K := K) (F := F) (dv_is (dv_and (dv_chLe dv_int (dv_lenT (dv_ixT (dv_var rfl hv2) dv_int at2)) (dv_subI (dv_lenL (dv_ixL (dv_var rfl hp2) dv_int at0)) (dv_ixT (dv_var rfl hv2) dv_int at1))) fun _ =>
              dv_all (bs := (tupItems c).map isCell) (dv_lcT (gs := ((tupItems c).map isCell).map PyData.bool) (dv_ixT (dv_var rfl hv2) dv_int at2) (by rw [List.length_map, List.length_map]) sm1 (fun _ => rfl) fun F' H3 u j d e' w h1 h2 g => ?_)) ?_) f2 fun v H3 s3 h => q v H3 ((s1.trans s2).trans s3) h)
            · rw [List.map_map] at h2
              rw [get_map h1 h2]
              exact dv_call (da_cons (dv_var rfl g) da_nil) (sd_F ⟨d, rfl, sm2 d (List.mem_of_getElem? h1), rfl⟩ rfl)
            · show _ = PyData.bool (isCount a 0 (((rs.length + 1 : Nat) : Int) - 1) && ((isCount b 0 ((c0.length : Int) - 1) && isTup c) && _))
              rw [ea, eb, all_map]
              rfl
    · refine s_seq (s_if (R := Same) (F := F) (b := true) (dt_is (dt_or (dt_not (dt_B (K := K) (dv_isTup (dv_var rfl hv)))) fun _ => dt_or (b := true) (dt_test (dv_neI (dv_lenT (dv_var rfl hv)) dv_int)) fun h => absurd h (by rw [decide_eq_false (show ¬ (es.length : Int) = 3 by omega)]; decide)) (by rw [decide_eq_false (show ¬ (es.length : Int) = 3 by omega)]; rfl)) hf (fun e H1 s1 => ret0 H1 s1 (isChange_len hn)) fun e H1 s1 => nomatch e)
  · have e1 : isTup e = false := by
      cases e with
      | tuple es => exact absurd ⟨es, rfl⟩ ht
      | _ => rfl
    have e2 : isChange (rs.length + 1) c0.length e = false := by
      cases e with
      | tuple es => exact absurd ⟨es, rfl⟩ ht
      | _ => rfl
    refine s_seq (s_if (R := Same) (F := F) (b := true) (dt_is (dt_or (b := true) (dt_not (dt_B (K := K) (dv_isTup (dv_var rfl hv)))) fun h => absurd h (by rw [e1]; decide)) (by rw [e1]; rfl)) hf (fun e H1 s1 => ret0 H1 s1 e2) fun e H1 s1 => nomatch e)
end
end Sc

namespace Sc
open PySem PySem.Spec PyProof.Rows L2
/-- how wide a page is -/
def wideOf (d : PyData) : Nat := (items ((items d).headD .none)).length
def A_changes_bad (ds : List PyData) (r : Except Str PyData) : Prop := ∃ a b : PyData, ds = [a, b] ∧ pageSm a ∧ pageSm b ∧ (isPage a && (isPage b && (decide ((items a).length = (items b).length) && decide (wideOf a = wideOf b)))) = false ∧ r = .error "BadPage"
def A_painted_bad (ds : List PyData) (r : Except Str PyData) : Prop := ∃ a b : PyData, ds = [a, b] ∧ pageSm a ∧ ((items b).length ≤ sizeLine ∧ ∀ x ∈ items b, chgSm x) ∧ (isPage a && (isLst b && (items b).all (isChange (items a).length (wideOf a)))) = false ∧ r = .error "BadPage"
def A_texts_bad (ds : List PyData) (r : Except Str PyData) : Prop := ∃ a : PyData, ds = [a] ∧ pageSm a ∧ isPage a = false ∧ r = .error "BadPage"
/-- what a page is made of -/
theorem page_form {d : PyData} (h : isPage d = true) : ∃ c0 rs, d = .list (.list c0 :: rs) ∧ 0 < c0.length ∧ ∀ r ∈ (.list c0 :: rs : List PyData), isLst r = true ∧ (items r).length = c0.length ∧ (items r).all isCell = true := by
  cases d with
  | list rows =>
    obtain ⟨h1, h2⟩ := Bool.and_eq_true_iff.mp (show ((decide (0 < rows.length) && rows.all isLst) && ((decide (0 < (items (rows.headD .none)).length) && rows.all fun r => decide ((items r).length = (items (rows.headD .none)).length)) && rows.all fun r => (items r).all isCell)) = true from h)
    obtain ⟨h3, h4⟩ := Bool.and_eq_true_iff.mp h1
    obtain ⟨h5, h6⟩ := Bool.and_eq_true_iff.mp h2
    obtain ⟨h7, h8⟩ := Bool.and_eq_true_iff.mp h5
    match rows with
    | [] => cases h3
    | r0 :: rs =>
      have hl0 := lst_items (List.all_eq_true.mp h4 r0 List.mem_cons_self)
      refine ⟨items r0, rs, by rw [← hl0], of_decide_eq_true h7, fun r hr => ?_⟩
      rw [← hl0] at hr
      exact ⟨List.all_eq_true.mp h4 r hr, of_decide_eq_true (List.all_eq_true.mp h8 r hr), List.all_eq_true.mp h6 r hr⟩
  | _ => cases h
section
variable {P : Program} {w : World} {K : PySem.W.Frag} {mg : Str → Option Value} {base : Heap}
theorem sc_changes : FnScope ["page", "other", "found", "at", "row", "column", "end"] ["page", "other"] (defScope s_changes) := ⟨rfl, rfl, rfl, by decide +kernel, rfl, by decide +kernel, by decide +kernel⟩
theorem c_changes (T : GT K mg) : Cal P w K mg base (XC P w) 5 "changes" ["page", "other"] (spG K 2 A_changes_bad) := by
  refine cal_G T.f_changes T.g_changes sc_changes rfl (fun _ _ _ _ _ _ us hl => match us, hl with | [_, _], _ => rfl) fun f cdv A' outer s H vs Q E F ds r hr hf hl ha q1 q2 => ?_
  obtain ⟨a, b, rfl, sa, sb, hb, rfl⟩ := ha
  obtain ⟨v, u, rfl, hv, hu⟩ := dal2 hl
  refine ⟨_, (pss_cons (ps_expr (pe_cal (c_need_page T) (hr.mono (by decide)) (passX rfl rfl rfl rfl) (pa_cons (pv 0) pa_nil))) (pss_cons (ps_expr (pe_cal (c_need_page T) (hr.mono (by decide)) (passX rfl rfl rfl rfl) (pa_cons (pv 1) pa_nil))) (pss_cons (ps_expr (pe_cal (c_need T) (hr.mono (by decide)) (passX rfl rfl rfl rfl) (pa_cons (pe_and (pe_cmpR (keq K hr.units) (pe_callB (klen K) (by rfl) T.z_len (by decide +kernel) (pa_cons (pv 0) pa_nil)) (pe_callB (klen K) (by rfl) T.z_len (by decide +kernel) (pa_cons (pv 1) pa_nil)) (nomark _)) (pe_one (pe_cmpR (keq K hr.units) (pe_callB (klen K) (by rfl) T.z_len (by decide +kernel) (pa_cons (pe_ix (kix K) (pv 0) pe_int (fun _ _ => rfl)) pa_nil)) (pe_callB (klen K) (by rfl) T.z_len (by decide +kernel) (pa_cons (pe_ix (kix K) (pv 1) pe_int (fun _ _ => rfl)) pa_nil)) (nomark _)))) pa_nil))) pss_never))), ?_⟩
  have bad : ∀ H1, Same H H1 → E (.ref (He.ga K "BadPage")) none H1 := fun H1 s1 => q2 "BadPage" rfl H1 s1
  refine s_seq (s_call (R := Same) (K := K) (F := F) (da_cons (dv_var rfl hv) da_nil) hf ⟨a, rfl, sa, rfl⟩ rfl (fun d hd H1 s1 => ?_) fun c hc H1 s1 => ?_)
  · obtain ⟨ha, rfl⟩ := okIf_ok hd
    refine s_seq (s_call (R := Same) (K := K) (F := F) (da_cons (dv_var rfl (r_da (R := Same) s1 hu)) da_nil) (r_fd (R := Same) s1 hf) ⟨b, rfl, sb, rfl⟩ rfl (fun d hd H2 s2 => ?_) fun c hc H2 s2 => ?_)
    · obtain ⟨hbb, rfl⟩ := okIf_ok hd
      rw [ha, hbb, Bool.true_and, Bool.true_and] at hb
      obtain ⟨c0, rs, rfl, _, _⟩ := page_form ha
      obtain ⟨d0, ss, rfl, _, _⟩ := page_form hbb
      have hv2 := r_da (R := Same) (s1.trans s2) hv
      have hu2 := r_da (R := Same) (s1.trans s2) hu
      have a0 : atI (PyData.list c0 :: rs) 0 = some (.list c0) := atI_nat (j := 0) rfl
      have b0 : atI (PyData.list d0 :: ss) 0 = some (.list d0) := atI_nat (j := 0) rfl
      refine s_seq (s_call (R := Same) (K := K) (F := F) (r := .error "BadPage") (da_cons (dv_is (d' := .bool false) (dv_and (dv_eqI (dv_lenL (dv_var rfl hv2)) (dv_lenL (dv_var rfl hu2))) fun _ => dv_eqI (dv_lenL (dv_ixL (dv_var rfl hv2) dv_int a0)) (dv_lenL (dv_ixL (dv_var rfl hu2) dv_int b0))) ?_) da_nil) (r_fd (R := Same) (s1.trans s2) hf) ⟨false, rfl, rfl⟩ rfl (fun d hd => nomatch hd) fun c hc H3 s3 => ?_)
      · rw [eq_int, eq_int]
        exact congrArg PyData.bool hb
      · cases hc
        exact bad H3 ((s1.trans s2).trans s3)
    · obtain ⟨_, rfl⟩ := okIf_err hc
      exact bad H2 (s1.trans s2)
  · obtain ⟨_, rfl⟩ := okIf_err hc
    exact bad H1 s1
theorem sc_painted : FnScope ["page", "some", "found", "at", "column", "cells", "row", "one"] ["page", "some"] (defScope s_painted) := ⟨rfl, rfl, rfl, by decide +kernel, rfl, by decide +kernel, by decide +kernel⟩
theorem c_painted (T : GT K mg) : Cal P w K mg base (XC P w) 5 "painted" ["page", "some"] (spG K 2 A_painted_bad) := by
  refine cal_G T.f_painted T.g_painted sc_painted rfl (fun _ _ _ _ _ _ us hl => match us, hl with | [_, _], _ => rfl) fun f cdv A' outer s H vs Q E F ds r hr hf hl ha q1 q2 => ?_
  obtain ⟨a, b, rfl, sa, ⟨sb, sc⟩, hb, rfl⟩ := ha
  obtain ⟨v, u, rfl, hv, hu⟩ := dal2 hl
  refine ⟨_, (pss_cons (ps_expr (pe_cal (c_need_page T) (hr.mono (by decide)) (passX rfl rfl rfl rfl) (pa_cons (pv 0) pa_nil))) (pss_cons (ps_expr (pe_cal (c_need T) (hr.mono (by decide)) (passX rfl rfl rfl rfl) (pa_cons (pe_and (pe_callB (kisi K) (by rfl) T.z_isinstance (by decide +kernel) (pa_cons (pv 1) (pa_cons (pe_bltn (v := .ty "list") (by rfl) T.z_list (by decide +kernel) rfl) pa_nil))) (pe_one (pe_callB (kall K) (by rfl) T.z_all (by decide +kernel) (pa_cons (pe_lc (own := [("one", 7)]) rfl sc_painted.nd (ki_list K (pv 1)) (blkOk_by (own := [("one", 7)]) (N := ["page", "some", "found", "at", "column", "cells", "row", "one"]) (sc := defScope s_painted) (by decide +kernel)) (fun _ _ _ _ _ => by exact (pG 7 sc_painted.nd)) (fun _ _ _ _ _ => by exact pts_nil) (fun _ _ _ _ _ => by exact (pe_cal (c_is_change T) (hr.mono (by decide)) pass0 (pa_cons (pv 0) (pa_cons (pv 7) pa_nil))))) pa_nil)))) pa_nil))) pss_never)), ?_⟩
  have bad : ∀ H1, Same H H1 → E (.ref (He.ga K "BadPage")) none H1 := fun H1 s1 => q2 "BadPage" rfl H1 s1
  refine s_seq (s_call (R := Same) (K := K) (F := F) (da_cons (dv_var rfl hv) da_nil) hf ⟨a, rfl, sa, rfl⟩ rfl (fun d hd H1 s1 => ?_) fun c hc H1 s1 => ?_)
  · obtain ⟨ha, rfl⟩ := okIf_ok hd
    rw [ha, Bool.true_and] at hb
    obtain ⟨c0, rs, rfl, _, _⟩ := page_form ha
    have hv1 := r_da (R := Same) s1 hv
    have hu1 := r_da (R := Same) s1 hu
    have f1 := r_fd (R := Same) s1 hf
    have fin : ∀ {H2}, Same H1 H2 → E (.ref (He.ga K "BadPage")) none H2 := fun s2 => bad _ (s1.trans s2)
    by_cases hL : isLst b = true
    · have hbl := lst_items hL
      rw [hL, Bool.true_and] at hb
      rw [hbl] at hu1
      refine s_seq (s_call (R := Same) (K := K) (F := F) (r := .error "BadPage") (da_cons (dv_is (d' := .bool false) (dv_and (dv_isLst (dv_var rfl hu1)) fun _ => dv_all (bs := (items b).map (isChange (rs.length + 1) c0.length))
        (dv_lcL (gs := ((items b).map (isChange (rs.length + 1) c0.length)).map PyData.bool) (dv_var rfl hu1) (by rw [List.length_map, List.length_map]) sb (fun _ => rfl) fun F' H2 x j d e w h1 h2 g => ?_)) ?_) da_nil) f1 ⟨false, rfl, rfl⟩ rfl (fun d hd => nomatch hd) fun c hc H3 s3 => ?_)
      · rw [List.map_map] at h2
        rw [get_map h1 h2]
        exact dv_call (da_cons (dv_var rfl (w.da hv1)) (da_cons (dv_var rfl g) da_nil)) (sd_F ⟨c0, rs, d, rfl, sc d (List.mem_of_getElem? h1), rfl⟩ rfl)
      · rw [all_map]
        exact congrArg PyData.bool hb
      · cases hc
        exact fin s3
    · have hL : isLst b = false := by
        cases h : isLst b with
        | true => exact absurd h hL
        | false => rfl
      refine s_seq (s_call (R := Same) (K := K) (F := F) (r := .error "BadPage") (da_cons (dv_is (d' := .bool false) (dv_and (b := true) (dv_isLst (dv_var rfl hu1)) fun h => absurd h (by rw [hL]; decide)) (by rw [hL]; rfl)) da_nil) f1 ⟨false, rfl, rfl⟩ rfl (fun d hd => nomatch hd) fun c hc H3 s3 => ?_)
      cases hc
      exact fin s3
  · obtain ⟨_, rfl⟩ := okIf_err hc
    exact bad H1 s1
theorem sc_page_texts : FnScope ["page", "row", "cell"] ["page"] (defScope s_page_texts) := ⟨rfl, rfl, rfl, by decide +kernel, rfl, by decide +kernel, by decide +kernel⟩
theorem c_page_texts (T : GT K mg) : Cal P w K mg base (XC P w) 5 "page_texts" ["page"] (spG K 1 A_texts_bad) := by
  refine cal_G T.f_page_texts T.g_page_texts sc_page_texts rfl (fun _ _ _ _ _ _ us hl => match us, hl with | [_], _ => rfl) fun f cdv A' outer s H vs Q E F ds r hr hf hl ha q1 q2 => ?_
  obtain ⟨a, rfl, sa, hb, rfl⟩ := ha
  obtain ⟨v, rfl, hv⟩ := dal1 hl
  refine ⟨_, (pss_cons (ps_expr (pe_cal (c_need_page T) (hr.mono (by decide)) (passX rfl rfl rfl rfl) (pa_cons (pv 0) pa_nil))) pss_never), ?_⟩
  refine s_seq (s_call (R := Same) (K := K) (F := F) (da_cons (dv_var rfl hv) da_nil) hf ⟨a, rfl, sa, rfl⟩ rfl (fun d hd H1 s1 => ?_) fun c hc H1 s1 => ?_)
  · obtain ⟨ha, rfl⟩ := okIf_ok hd
    rw [hb] at ha
    cases ha
  · obtain ⟨_, rfl⟩ := okIf_err hc
    exact q2 "BadPage" rfl H1 s1
end
end Sc

namespace Sc
open PySem PySem.Spec PyProof.Rows L2
/-- a cell of the script -/
def cellOf (ns : List Int) (k : Nat) : Int := if ns = [] then (k : Int) * 7919 else ns.getD (k % ns.length) 0 + ((k / ns.length : Nat) : Int) * 104729
def drawn1 (c k : Int) : Int := (c * 6364136223846793005 + (k + 1) * 1442695040888963407) % 340282366920938463463374607431768211507
def drawn2 (x : Int) : Int := x * x % 340282366920938463463374607431768211297
def drawn3 (x : Int) : Int := (x % 18446744073709551557 + 1) * (x / 18446744073709551557 + 1) * x
/-- the law's great number -/
def drawn (c k : Int) : Int := drawn3 (drawn2 (drawn1 c k)) % 340282366920938463463374607431768211507
theorem drawn1_b (c k : Int) : 0 ≤ drawn1 c k ∧ drawn1 c k < 340282366920938463463374607431768211507 := ⟨Int.emod_nonneg _ (by decide), Int.emod_lt_of_pos _ (by decide)⟩
theorem drawn2_b (x : Int) : 0 ≤ drawn2 x ∧ drawn2 x < 340282366920938463463374607431768211297 := ⟨Int.emod_nonneg _ (by decide), Int.emod_lt_of_pos _ (by decide)⟩
theorem drawn_b (c k : Int) : 0 ≤ drawn c k ∧ drawn c k < 340282366920938463463374607431768211507 := ⟨Int.emod_nonneg _ (by decide), Int.emod_lt_of_pos _ (by decide)⟩
theorem nat129 {x : Int} (h0 : 0 ≤ x) (h1 : x < 340282366920938463463374607431768211507) : x.natAbs < 2 ^ 129 := by
  have e : (2 : Nat) ^ 129 = 680564733841876926926749214863536422912 := by decide
  rw [e]
  omega
theorem mulW {x y : Int} {a b : Nat} (hx : x.natAbs < 2 ^ a) (hy : y.natAbs < 2 ^ b) (ha : 0 < a) (hb : 0 < b) (h : a + b ≤ 1000000) : CMulW x y := wide_mul hx hy ha hb h
def A_law_drawn (ds : List PyData) (d : PyData) : Prop := ∃ c k : Int, ds = [.int c, .int k] ∧ d = .int (drawn c k)
section
variable {P : Program} {w : World} {K : PySem.W.Frag} {mg : Str → Option Value} {base : Heap}
theorem sc__law_drawn : FnScope ["cell", "k", "more"] ["cell", "k"] (defScope s__law_drawn) := ⟨rfl, rfl, rfl, by decide +kernel, rfl, by decide +kernel, by decide +kernel⟩
theorem c__law_drawn (T : GT K mg) : Cal P w K mg base CX0 1 "_law_drawn" ["cell", "k"] (spF K 2 A_law_drawn) := by
  refine cal_F T.f__law_drawn T.g__law_drawn sc__law_drawn rfl (fun _ _ _ _ _ _ us hl => match us, hl with | [_, _], _ => rfl) fun f cdv A' outer s H vs Q E F ds d hr hf hl ha q => ?_
  obtain ⟨c, k, rfl, rfl⟩ := ha
  obtain ⟨v, u, rfl, hv, hu⟩ := dal2 hl
  refine ⟨_, (pss_cons (pS 2 sc__law_drawn.nd (pe_op op_mod (pe_op (kplus K) (pe_op (ktimes K) (pv 0) pe_int) (pe_op (ktimes K) (pe_op (kplus K) (pv 1) pe_int) pe_int)) pe_int))
      (pss_cons (pS 2 sc__law_drawn.nd (pe_op op_mod (pe_op (ktimes K) (pv 2) (pv 2)) pe_int))
      (pss_cons (pS 2 sc__law_drawn.nd (pe_op (ktimes K) (pe_op (ktimes K) (pe_op (kplus K) (pe_op op_mod (pv 2) pe_int) pe_int) (pe_op (kplus K) (pe_op op_fdivW (pv 2) pe_int) pe_int)) (pv 2)))
      (pss_one (ps_ret (pe_op op_mod (pv 2) pe_int)))))), ?_⟩
  have hv : v = .int c := hv
  have hu : u = .int k := hu
  subst hv hu
  have b1 := drawn1_b c k
  have b2 := drawn2_b (drawn1 c k)
  generalize e1 : drawn1 c k = x1 at b1 b2
  generalize e2 : drawn2 x1 = x2 at b2
  refine s_seq (s_set (R := Same) (K := K) (F := F) (d := .int x1) (dv_is (dv_mod (dv_addI (dv_mulI (dv_var rfl (show Da K _ (.int c) _ from rfl)) dv_int (.inl (.inr ⟨by decide, by decide⟩))) (dv_mulI (dv_addI (dv_var rfl (show Da K _ (.int k) _ from rfl)) dv_int) dv_int (.inl (.inr ⟨by decide, by decide⟩)))) dv_int (by decide)) (congrArg PyData.int e1)) hf fun v1 H1 s1 g1 => ?_)
  have f1 := r_fd (R := Same) s1 hf
  refine s_seq (s_set (R := Same) (K := K) (F := F) (d := .int x2) (dv_is (dv_mod (dv_mulI (dv_var rfl g1) (dv_var rfl g1) (.inr (mulW (nat129 b1.1 b1.2) (nat129 b1.1 b1.2) (by decide) (by decide) (by decide)))) dv_int (by decide)) (congrArg PyData.int e2)) f1 fun v2 H2 s2 g2 => ?_)
  have f2 := r_fd (R := Same) s2 f1
  have hd : 0 ≤ x2 / 18446744073709551557 ∧ x2 / 18446744073709551557 < 36893488147419103000 := by omega
  have hm : 0 ≤ x2 % 18446744073709551557 ∧ x2 % 18446744073709551557 < 18446744073709551557 := ⟨Int.emod_nonneg _ (by decide), Int.emod_lt_of_pos _ (by decide)⟩
  have hp : ((x2 % 18446744073709551557 + 1) * (x2 / 18446744073709551557 + 1)).natAbs < 2 ^ 140 := by
    rw [Int.natAbs_mul]
    have h1 : (x2 % 18446744073709551557 + 1).natAbs < 2 ^ 65 := by
      rw [show (2 : Nat) ^ 65 = 36893488147419103232 by decide]
      omega
    have h2 : (x2 / 18446744073709551557 + 1).natAbs < 2 ^ 65 := by
      rw [show (2 : Nat) ^ 65 = 36893488147419103232 by decide]
      omega
    refine Nat.lt_of_lt_of_le (Nat.mul_lt_mul_of_lt_of_le h1 (Nat.le_of_lt h2) (Nat.two_pow_pos _)) ?_
    rw [← Nat.pow_add]
    exact Nat.pow_le_pow_right (by decide) (by decide)
  refine s_seq (s_set (R := Same) (K := K) (F := F) (d := .int (drawn3 x2)) (dv_mulI (dv_mulI (dv_addI (dv_mod (dv_var rfl g2) dv_int (by decide)) dv_int) (dv_addI (dv_div (dv_var rfl g2) dv_int ⟨by decide, by decide⟩) dv_int) (.inl (.inl ⟨by omega, by omega⟩))) (dv_var rfl g2) (.inr (mulW hp (nat129 b2.1 (by omega)) (by decide) (by decide) (by decide)))) f2 fun v3 H3 s3 g3 => ?_)
  refine s_ret (R := Same) (K := K) (F := F) (dv_is (dv_mod (dv_var rfl g3) dv_int (by decide)) ?_) (r_fd (R := Same) s3 f2) fun v4 H4 s4 g4 => q v4 H4 (((s1.trans s2).trans s3).trans s4) g4
  show _ = PyData.int (drawn3 (drawn2 (drawn1 c k)) % 340282366920938463463374607431768211507)
  rw [e1, e2]
end
end Sc

namespace Sc
open PySem PySem.Spec PyProof.Rows L2
/-- the script as it stands, a place -/
def spLCell (K : PySem.W.Frag) : Sp := fun vs H Q _ => ∃ (a : Addr) (ns : List Int) (k : Nat), vs = [.ref a, .int (k : Int)] ∧ SqL K H a (ns.map V.int) ∧ k ≤ 63 ∧ ns.length ≤ 63 ∧ ∀ H', Same H H' → Q (.int (cellOf ns k)) H'
theorem dpAll_ints {K : PySem.W.Frag} {H : Hp} : ∀ ns : List Int, DpAll K H (ns.map V.int) (ns.map PyData.int)
  | [] => .nil
  | n :: ns => .cons (.int n) (dpAll_ints ns)
theorem shl_ints (ns : List Int) : ShL 0 (ns.map PyData.int) := shl_all fun d hd => by
  obtain ⟨n, _, rfl⟩ := List.mem_map.mp hd
  exact sh_int
theorem eqv_nil (ns : List Int) : PyData.eqv (.list (ns.map PyData.int)) (.list []) = decide (ns = []) := by
  cases ns with
  | nil => rfl
  | cons n ns => rfl
section
variable {P : Program} {w : World} {K : PySem.W.Frag} {mg : Str → Option Value} {base : Heap}
theorem sc__law_cell : FnScope ["script", "k"] ["script", "k"] (defScope s__law_cell) := ⟨rfl, rfl, rfl, by decide +kernel, rfl, by decide +kernel, by decide +kernel⟩
theorem c__law_cell (T : GT K mg) : Cal P w K mg base CX0 1 "_law_cell" ["script", "k"] (spLCell K) := by
  obtain ⟨fd, FD⟩ := T.f__law_cell
  refine ⟨_, fd, T.g__law_cell, FD.kp, FD.bindsN (fun _ _ _ _ _ _ us hl => match us, hl with | [_, _], _ => rfl), FD.ok sc__law_cell (fun vs H Q E h => ?_) fun cdv A' outer s H vs Q E hr h => ?_⟩
  · obtain ⟨a, ns, k, rfl, _⟩ := h
    rfl
  obtain ⟨a, ns, k, rfl, hS, hk, hn, q⟩ := h
  refine ⟨_, (pss_cons (ps_if (pt_cmpR (keq K hr.units) (pv 0) (pe_lst pa_nil) (nomark _)) (pss_one (ps_ret (pe_op (ktimes K) (pv 1) pe_int))) pss_nil)
      (pss_one (ps_ret (pe_op (kplus K) (pe_ix (kix K) (pv 0) (pe_op op_mod (pv 1) (pe_callB (klen K) (by rfl) T.z_len (by decide +kernel) (pa_cons (pv 0) pa_nil))) (fun _ _ => rfl)) (pe_op (ktimes K) (pe_op op_fdivW (pv 1) (pe_callB (klen K) (by rfl) T.z_len (by decide +kernel) (pa_cons (pv 0) pa_nil))) pe_int))))), ?_⟩
  -- script == []
  refine s_seq ?_
  refine ⟨_, rfl, (by show 0 ≤ sizeLine; decide), fun p hp => ?_⟩
  have s1 : Same H (upd H p (.lst [])) := same_new hp
  refine .inr ⟨.list (ns.map PyData.int), .list [], .lst (s1.seq hS) (dpAll_ints ns), .lst (SqL.of upd_same) .nil, (sh_list (shl_ints ns)).s, (sh_list shl_nil).s (n := 1), _, rfl, ?_⟩
  rw [eqv_nil]
  by_cases he : ns = []
  · rw [decide_eq_true he]
    refine iteT ?_
    refine s_ret (R := Same) (K := K) (F := []) (dv_is (dv_mulI (dv_var rfl (show Da K _ (.int (k : Int)) _ from rfl)) dv_int (.inl (.inr ⟨by decide, by decide⟩))) rfl) Fd.nil fun v H2 s2 g => ?_
    have g : v = .int ((k : Int) * 7919) := g
    subst g
    have e : cellOf ns k = (k : Int) * 7919 := if_pos he
    rw [← e]
    exact q H2 (s1.trans s2)
  · rw [decide_eq_false he]
    refine iteF (s_next ?_)
    have hpos : 0 < ns.length := List.length_pos_iff.mpr he
    have hlt : k % ns.length < ns.length := Nat.mod_lt _ hpos
    have em : (k : Int) % (ns.length : Int) = ((k % ns.length : Nat) : Int) := by omega
    have ed : (k : Int) / (ns.length : Int) = ((k / ns.length : Nat) : Int) := by omega
    have hdv : k / ns.length ≤ 63 := Nat.le_trans (Nat.div_le_self _ _) hk
    have el : (ns.map V.int).length = ns.length := List.length_map _
    have ix : atI (ns.map V.int) ((k : Int) % (ns.length : Int)) = some (.int (ns.getD (k % ns.length) 0)) := by
      rw [em]
      refine atI_nat ?_
      rw [List.getElem?_map, List.getElem?_eq_getElem hlt, List.getD_eq_getElem?_getD, List.getElem?_eq_getElem hlt]
      rfl
    -- script[k % len(script)] + k // len(script) * 104729
    refine ⟨_, rfl, _, rfl, _, rfl, _, ns.length, rfl, .inl ⟨_, s1.seq hS, el.symm⟩, ?_⟩
    refine ⟨_, _, rfl, rfl, by omega, .inl ⟨a, _, _, _, rfl, rfl, s1.seq hS, ix, ?_⟩⟩
    refine ⟨_, rfl, _, rfl, _, ns.length, rfl, .inl ⟨_, s1.seq hS, el.symm⟩, ?_⟩
    refine ⟨_, _, rfl, rfl, ⟨by omega, ?_⟩, .inl ⟨_, _, rfl, rfl, .inr ⟨by decide, by decide⟩, .inl ⟨_, _, rfl, rfl, ?_⟩⟩⟩
    · have : (ns.length : Int).natAbs = ns.length := by omega
      rw [this]
      exact Nat.lt_of_le_of_lt (Nat.log2_le_self _) (by omega)
    · have e : cellOf ns k = ns.getD (k % ns.length) 0 + (k : Int) / (ns.length : Int) * 104729 := by
        unfold cellOf
        rw [if_neg he, ed]
      have q := q _ s1
      rw [e] at q
      exact q
/-- _law_cell(script, k) -/
theorem dv_lawcell {R : Hp → Hp → Prop} [ROk R] {F : List Addr} {σ : L2.St} {H : Hp} {tb : TE} {E : XK} {i : Nat} {a : Addr} {ns : List Int} {k : Nat} (h : σ[i]? = some (some (.ref a))) (hs : SqL K H a (ns.map V.int)) (hb : DV R K F tb σ H (.int (k : Int))) (hk : k ≤ 63) (hn : ns.length ≤ 63) :
    DV R K F (tCall (spLCell K) [] E (tCons (tVar i) (tCons tb tNil))) σ H (.int (cellOf ns k)) := fun H1 r1 f1 Q q => by
  refine ⟨_, h, hb H1 r1 f1 _ fun v H2 r2 g => ?_⟩
  have g : v = .int (k : Int) := g
  subst g
  exact ⟨a, ns, k, rfl, xt_sqL (ROk.ext (ROk.trans r1 r2)) hs, hk, hn, fun H3 s3 => q _ H3 (ROk.trans r2 (ROk.same s3)) rfl⟩
end
end Sc

namespace Sc
open PySem PySem.Spec PyProof.Rows L2
abbrev pen3 (a b c : Int) : PyData := .tuple [.int a, .int b, .int c]
def penMenu : List PyData := [pen3 0 0 0, pen3 1 0 0, pen3 7 7 3, pen3 0 2 1]
def signMenu : List Nat := [97, 98, 32, 46, 126]
def cellDrawn (m : Int) : PyData := if m % 3 = 0 then .tuple [.str " ", pen3 0 0 0] else .tuple [.str ⟨#[signMenu.getD (m / 8 % 5).toNat 0]⟩, penMenu.getD (m / 64 % 4).toNat .none]
def pageRow (m : Int) (wide r : Nat) : PyData := .list ((List.range wide).map fun c : Nat => cellDrawn (drawn m (100 * (r : Int) + (c : Int))))
def lawPage (m : Int) (wide high : Nat) : PyData := .list ((List.range high).map (pageRow m wide))
def A_cell_drawn (ds : List PyData) (d : PyData) : Prop := ∃ m : Int, ds = [.int m] ∧ d = cellDrawn m
def A_law_page (ds : List PyData) (d : PyData) : Prop := ∃ (m : Int) (w h : Nat), ds = [.int m, .int (w : Int), .int (h : Int)] ∧ w ≤ 100 ∧ h ≤ 100 ∧ d = lawPage m w h
theorem mod_nat {x n : Int} (h : 0 < n) : ((x % n).toNat : Int) = x % n ∧ (x % n).toNat < n.toNat := by
  have h1 := Int.emod_nonneg x (show n ≠ 0 by omega)
  have h2 := Int.emod_lt_of_pos x h
  omega
theorem at_mod {α : Type} {l : List α} {x n : Int} (d : α) (h : 0 < n) (hl : l.length = n.toNat) : atI l (x % n) = some (l.getD (x % n).toNat d) := by
  obtain ⟨h1, h2⟩ := mod_nat (x := x) h
  rw [← h1]
  refine atI_nat ?_
  rw [List.getD_eq_getElem?_getD, Int.toNat_natCast, List.getElem?_eq_getElem (by omega)]
  rfl
section
variable {P : Program} {w : World} {K : PySem.W.Frag} {mg : Str → Option Value} {base : Heap}
theorem sc__law_cell_drawn : FnScope ["more"] ["more"] (defScope s__law_cell_drawn) := ⟨rfl, rfl, rfl, by decide +kernel, rfl, by decide +kernel, by decide +kernel⟩
theorem c__law_cell_drawn (T : GT K mg) : Cal P w K mg base CX0 1 "_law_cell_drawn" ["more"] (spF K 1 A_cell_drawn) := by
  refine cal_F T.f__law_cell_drawn T.g__law_cell_drawn sc__law_cell_drawn rfl (fun _ _ _ _ _ _ us hl => match us, hl with | [_], _ => rfl) fun f cdv A' outer s H vs Q E F ds d hr hf hl ha q => ?_
  obtain ⟨m, rfl, rfl⟩ := ha
  obtain ⟨v, rfl, hv⟩ := dal1 hl
  refine ⟨_, (pss_cons (ps_if (pt_cmpR (keq K hr.units) (pe_op op_mod (pv 0) pe_int) pe_int (nomark _)) (pss_one (ps_ret (pe_tup (pa_cons pe_str (pa_cons (pe_tup (pa_cons pe_int (pa_cons pe_int (pa_cons pe_int pa_nil)))) pa_nil))))) pss_nil)
      (pss_one (ps_ret (pe_tup (pa_cons (pe_ix (kix K) pe_str (pe_op op_mod (pe_op op_fdivW (pv 0) pe_int) pe_int) (fun _ _ => rfl)) (pa_cons (pe_ix (kix K) (pe_lst (pa_cons (pe_tup (pa_cons pe_int (pa_cons pe_int (pa_cons pe_int pa_nil)))) (pa_cons (pe_tup (pa_cons pe_int (pa_cons pe_int (pa_cons pe_int pa_nil)))) (pa_cons (pe_tup (pa_cons pe_int (pa_cons pe_int (pa_cons pe_int pa_nil)))) (pa_cons (pe_tup (pa_cons pe_int (pa_cons pe_int (pa_cons pe_int pa_nil)))) pa_nil))))) (pe_op op_mod (pe_op op_fdivW (pv 0) pe_int) pe_int) (fun _ _ => rfl)) pa_nil)))))), ?_⟩
  refine s_seq (s_if (R := Same) (F := F) (dt_test (K := K) (dv_eqI (dv_mod (dv_var rfl hv) dv_int (by decide)) dv_int)) hf (fun e H1 s1 => ?_) fun e H1 s1 => ?_)
  · have e0 : m % 3 = 0 := of_decide_eq_true e
    refine s_ret (R := Same) (K := K) (F := F) (d := cellDrawn m) ?_ (r_fd (R := Same) s1 hf) fun v H2 s2 h => q v H2 (s1.trans s2) h
    unfold cellDrawn
    rw [if_pos e0]
    walk_at "dv"
  · have e0 : ¬ m % 3 = 0 := of_decide_eq_false e
    have hv1 := r_da (R := Same) s1 hv
    refine s_next (s_ret (R := Same) (K := K) (F := F) (d := cellDrawn m) ?_ (r_fd (R := Same) s1 hf) fun v H2 s2 h => q v H2 (s1.trans s2) h)
    unfold cellDrawn
    rw [if_neg e0]
    refine dv_tup (da_cons (dv_ixS dv_str (dv_mod (dv_div (dv_var rfl hv1) dv_int ⟨by decide, by decide⟩) dv_int (by decide)) (by decide +kernel) ?_) (da_cons (dv_ixL (ds := penMenu) (by unfold penMenu; walk_at "dv") (dv_mod (dv_div (dv_var rfl hv1) dv_int ⟨by decide, by decide⟩) dv_int (by decide)) (at_mod _ (by decide) rfl)) da_nil)) (by show 2 ≤ sizeLine; decide)
    rw [show (Str.ofString "ab .~").cps.toList = signMenu by decide +kernel]
    exact at_mod _ (by decide) rfl
theorem sc__law_page : FnScope ["more", "wide", "high", "found", "row", "column"] ["more", "wide", "high"] (defScope s__law_page) := ⟨rfl, rfl, rfl, by decide +kernel, rfl, by decide +kernel, by decide +kernel⟩
theorem c__law_page (T : GT K mg) : Cal P w K mg base CX0 2 "_law_page" ["more", "wide", "high"] (spF K 3 A_law_page) := by
  refine cal_F T.f__law_page T.g__law_page sc__law_page rfl (fun _ _ _ _ _ _ us hl => match us, hl with | [_, _, _], _ => rfl) fun f cdv A' outer s H vs Q E F ds d hr hf hl ha q => ?_
  obtain ⟨m, w, h, rfl, hw, hh, rfl⟩ := ha
  obtain ⟨v1, _, rfl, h1, v2, _, rfl, h2, v3, _, rfl, h3, rfl⟩ := hl
  have h1 : v1 = .int m := h1
  have h2 : v2 = .int (w : Int) := h2
  have h3 : v3 = .int (h : Int) := h3
  subst h1 h2 h3
  refine ⟨_, (pss_cons (pS 3 sc__law_page.nd (pe_lst pa_nil))
      (pss_cons (ps_for PassesOwn.never rfl (pi_range1 (by rfl) T.z_range (pa_cons (pv 2) pa_nil)) (pG 4 sc__law_page.nd) (pss_one (ps_expr (kbm K PySem.F.plainAttrs_list PySem.F.slot_list_append PySem.F.type_list_append mt_append (pv 3) (pa_cons (pe_lc (own := [("column", 5)]) rfl sc__law_page.nd (pi_range1 (by rfl) T.z_range (pa_cons (pv 1) pa_nil)) (blkOk_by (own := [("column", 5)]) (N := ["more", "wide", "high", "found", "row", "column"]) (sc := defScope s__law_page) (by decide +kernel)) (fun _ _ _ _ _ => by exact (pG 5 sc__law_page.nd)) (fun _ _ _ _ _ => by exact pts_nil) (fun _ _ _ _ _ => by exact (pe_cal (c__law_cell_drawn T) (hr.mono (by decide)) pass0 (pa_cons (pe_cal (c__law_drawn T) (hr.mono (by decide)) pass0 (pa_cons (pv 0) (pa_cons (pe_op (kplus K) (pe_op (ktimes K) pe_int (pv 4)) (pv 5)) pa_nil))) pa_nil)))) pa_nil)))))
      (pss_one (ps_ret (pv 3))))), ?_⟩
  -- found = []
  refine s_seq ⟨by show 0 ≤ sizeLine; decide, fun l hl => ?_⟩
  have s0 : Same H (upd H l (.lst [])) := same_new hl
  have nl : l ∉ F := hf.new hl
  refine s_seq (s_forR (R := Same) (K := K) (F := F) (dv_var rfl (show Da K _ (.int (h : Int)) _ from rfl)) (r_fd (R := Same) s0 hf) (by omega) (by omega) fun H1 s1 f1 =>
    ⟨fun j σ' H' => Same H H' ∧ (∃ o, σ' = [some (.int m), some (.int (w : Int)), some (.int (h : Int)), some (.ref l), o, none]) ∧ ∃ xs, H' l = some (.lst xs) ∧ DaL K (hid (l :: F) H') ((List.range j).map (pageRow m w)) xs, ⟨s0.trans s1, ⟨none, rfl⟩, [], s1 _ _ upd_same, rfl⟩, ?_, ?_⟩)
  · rintro j σ' H' hj ⟨s2, ⟨o, rfl⟩, xs, hx, hd⟩
    have f2 := r_fd (R := Same) s2 hf
    have hlen : xs.length = j := by rw [hd.length, List.length_map, List.length_range]
    refine s_append (R := Same) (K := K) (F := F) (d := pageRow m w j) rfl hx f2 ?_ (by rw [hlen, sizeLine_eq]; omega) fun v H3 s3 hv => ?_
    · refine dv_lcR (dv_var rfl (show Da K _ (.int (w : Int)) _ from rfl)) (by rw [List.length_map, List.length_range]; rfl) (by omega) (by omega) (fun _ => rfl) fun F' H4 c e wi he => ?_
      have ec : e = cellDrawn (drawn m (100 * (j : Int) + (c : Int))) := by
        rw [List.getElem?_map] at he
        cases hr : (List.range w)[c]? with
        | none => rw [hr] at he; cases he
        | some c' =>
          rw [hr] at he
          have := List.getElem?_range (n := w) (i := c) (by
            have := (List.getElem?_eq_some_iff.mp hr).1
            simpa using this)
          rw [this] at hr
          cases hr
          exact (Option.some.inj he).symm
      subst ec
      refine dv_call (da_cons (dv_call (da_cons (dv_var rfl (show Da K _ (.int m) _ from rfl)) (da_cons (dv_addI (dv_mulI dv_int (dv_var rfl (show Da K _ (.int (j : Int)) _ from rfl)) (.inl (.inl ⟨by decide, by decide⟩))) (dv_var rfl (show Da K _ (.int (c : Int)) _ from rfl))) da_nil)) (sd_F ⟨_, _, rfl, rfl⟩ rfl)) da_nil) (sd_F ⟨_, rfl, rfl⟩ rfl)
    · refine ⟨fun b o e => ?_, ⟨_, rfl⟩, xs ++ [v], upd_same, ?_⟩
      · rw [upd_ne (ne_of_none e hl)]
        exact s3 _ _ (s2 _ _ e)
      · rw [List.range_succ, List.map_append]
        exact ((hd.mono (hid_xt (xt_of s3))).mono hid_chg).snoc (hv.mono hid_chg)
  · rintro σ' H' ⟨s2, ⟨o, rfl⟩, xs, hx, hd⟩
    refine ⟨_, rfl, q _ H' s2 ⟨l, xs, rfl, by rw [hid_out nl]; exact hx, ?_⟩⟩
    rw [show ((h : Nat) : Int).toNat = h from rfl] at hd
    exact hd.mono (hid_sub fun b hb => List.mem_cons_of_mem _ hb)
end
end Sc

namespace Sc
open PySem PySem.Spec PyProof.Rows L2
abbrev celA : PyData := .tuple [.str "a", pen3 0 0 0]
def noPages1 : List PyData := [.none, .list [], .list [.list []], .list [.list [celA], .list []], .list [.list [celA], .list [celA, celA]], .tuple [.list [celA]], .list [.tuple [celA]]]
def noPages2 : List PyData := [.list [.list [.none]], .list [.list [.str "a"]], .list [.list [.tuple [.str "ab", pen3 0 0 0]]]]
def noPages3 : List PyData := [.list [.list [.tuple [.str "", pen3 0 0 0]]], .list [.list [.tuple [.str "\n", pen3 0 0 0]]], .list [.list [.tuple [.str "a", pen3 8 0 0]]]]
def noPages4 : List PyData := [.list [.list [.tuple [.str "a", pen3 0 0 4]]], .list [.list [.tuple [.str "a", .tuple [.int 0, .int 0]]]]]
def noPages5 : List PyData := [.list [.list [.tuple [.str "a", pen3 0 (-1) 0]]], .list [.list [.tuple [.str "a", .tuple [.int 0, .bool true, .int 0]]]], .list [.list [.list [.str "a", pen3 0 0 0]]]]
def noPages6 : List PyData := [.list [.list [.tuple [.str "a", .list [.int 0, .int 0, .int 0]]]], .list [.list [.tuple [.str "\t", pen3 0 0 0]]]]
def noPages : List PyData := noPages1 ++ noPages2 ++ noPages3 ++ noPages4 ++ noPages5 ++ noPages6
def A_no_pages (ds : List PyData) (d : PyData) : Prop := ds = [] ∧ d = .list noPages
section
variable {P : Program} {w : World} {K : PySem.W.Frag} {mg : Str → Option Value} {base : Heap}
theorem sc__law_no_pages : FnScope ["cell", "found"] [] (defScope s__law_no_pages) := ⟨rfl, rfl, rfl, by decide +kernel, rfl, by decide +kernel, by decide +kernel⟩
theorem c__law_no_pages (T : GT K mg) : Cal P w K mg base CX0 1 "_law_no_pages" [] (spF K 0 A_no_pages) := by
  refine cal_F T.f__law_no_pages T.g__law_no_pages sc__law_no_pages rfl (fun _ _ _ _ _ _ us hl => match us, hl with | [], _ => rfl) fun f cdv A' outer s H vs Q E F ds d hr hf hl ha q => ?_
  obtain ⟨rfl, rfl⟩ := ha
  have hl : vs = [] := hl
  subst hl
  refine ⟨_, (pss_cons (pS 0 sc__law_no_pages.nd (pe_tup (pa_cons pe_str (pa_cons (pe_tup (pa_cons pe_int (pa_cons pe_int (pa_cons pe_int pa_nil)))) pa_nil))))
      (pss_cons (pS 1 sc__law_no_pages.nd (pe_lst (pa_cons pe_non (pa_cons (pe_lst pa_nil) (pa_cons (pe_lst (pa_cons (pe_lst pa_nil) pa_nil)) (pa_cons (pe_lst (pa_cons (pe_lst (pa_cons (pv 0) pa_nil)) (pa_cons (pe_lst pa_nil) pa_nil))) (pa_cons (pe_lst (pa_cons (pe_lst (pa_cons (pv 0) pa_nil)) (pa_cons (pe_lst (pa_cons (pv 0) (pa_cons (pv 0) pa_nil))) pa_nil))) (pa_cons (pe_tup (pa_cons (pe_lst (pa_cons (pv 0) pa_nil)) pa_nil)) (pa_cons (pe_lst (pa_cons (pe_tup (pa_cons (pv 0) pa_nil)) pa_nil)) pa_nil)))))))))
      (pss_cons (pS 1 sc__law_no_pages.nd (pe_op (kplus K) (pv 1) (pe_lst (pa_cons (pe_lst (pa_cons (pe_lst (pa_cons pe_non pa_nil)) pa_nil)) (pa_cons (pe_lst (pa_cons (pe_lst (pa_cons pe_str pa_nil)) pa_nil)) (pa_cons (pe_lst (pa_cons (pe_lst (pa_cons (pe_tup (pa_cons pe_str (pa_cons (pe_tup (pa_cons pe_int (pa_cons pe_int (pa_cons pe_int pa_nil)))) pa_nil))) pa_nil)) pa_nil)) pa_nil))))))
      (pss_cons (pS 1 sc__law_no_pages.nd (pe_op (kplus K) (pv 1) (pe_lst (pa_cons (pe_lst (pa_cons (pe_lst (pa_cons (pe_tup (pa_cons pe_str (pa_cons (pe_tup (pa_cons pe_int (pa_cons pe_int (pa_cons pe_int pa_nil)))) pa_nil))) pa_nil)) pa_nil)) (pa_cons (pe_lst (pa_cons (pe_lst (pa_cons (pe_tup (pa_cons pe_str (pa_cons (pe_tup (pa_cons pe_int (pa_cons pe_int (pa_cons pe_int pa_nil)))) pa_nil))) pa_nil)) pa_nil)) (pa_cons (pe_lst (pa_cons (pe_lst (pa_cons (pe_tup (pa_cons pe_str (pa_cons (pe_tup (pa_cons pe_int (pa_cons pe_int (pa_cons pe_int pa_nil)))) pa_nil))) pa_nil)) pa_nil)) pa_nil))))))
      (pss_cons (pS 1 sc__law_no_pages.nd (pe_op (kplus K) (pv 1) (pe_lst (pa_cons (pe_lst (pa_cons (pe_lst (pa_cons (pe_tup (pa_cons pe_str (pa_cons (pe_tup (pa_cons pe_int (pa_cons pe_int (pa_cons pe_int pa_nil)))) pa_nil))) pa_nil)) pa_nil)) (pa_cons (pe_lst (pa_cons (pe_lst (pa_cons (pe_tup (pa_cons pe_str (pa_cons (pe_tup (pa_cons pe_int (pa_cons pe_int pa_nil))) pa_nil))) pa_nil)) pa_nil)) pa_nil)))))
      (pss_cons (pS 1 sc__law_no_pages.nd (pe_op (kplus K) (pv 1) (pe_lst (pa_cons (pe_lst (pa_cons (pe_lst (pa_cons (pe_tup (pa_cons pe_str (pa_cons (pe_tup (pa_cons pe_int (pa_cons (pe_un un_neg pe_int) (pa_cons pe_int pa_nil)))) pa_nil))) pa_nil)) pa_nil)) (pa_cons (pe_lst (pa_cons (pe_lst (pa_cons (pe_tup (pa_cons pe_str (pa_cons (pe_tup (pa_cons pe_int (pa_cons pe_bl (pa_cons pe_int pa_nil)))) pa_nil))) pa_nil)) pa_nil)) (pa_cons (pe_lst (pa_cons (pe_lst (pa_cons (pe_lst (pa_cons pe_str (pa_cons (pe_tup (pa_cons pe_int (pa_cons pe_int (pa_cons pe_int pa_nil)))) pa_nil))) pa_nil)) pa_nil)) pa_nil))))))
      (pss_one (ps_ret (pe_op (kplus K) (pv 1) (pe_lst (pa_cons (pe_lst (pa_cons (pe_lst (pa_cons (pe_tup (pa_cons pe_str (pa_cons (pe_lst (pa_cons pe_int (pa_cons pe_int (pa_cons pe_int pa_nil)))) pa_nil))) pa_nil)) pa_nil)) (pa_cons (pe_lst (pa_cons (pe_lst (pa_cons (pe_tup (pa_cons pe_str (pa_cons (pe_tup (pa_cons pe_int (pa_cons pe_int (pa_cons pe_int pa_nil)))) pa_nil))) pa_nil)) pa_nil)) pa_nil)))))))))))), ?_⟩
  refine s_seq (s_set (R := Same) (K := K) (F := F) (d := celA) (by walk_at "dv") hf fun v0 H0 s0 g0 => ?_)
  have f0 := r_fd (R := Same) s0 hf
  refine s_seq (s_set (R := Same) (K := K) (F := F) (d := .list noPages1) (by unfold noPages1; walk_at "dv") f0 fun v1 H1 s1 g1 => ?_)
  have g0 := r_da (R := Same) s1 g0
  have f1 := r_fd (R := Same) s1 f0
  refine s_seq (s_set (R := Same) (K := K) (F := F) (d := .list (noPages1 ++ noPages2)) (dv_addL (dv_var rfl g1) (by unfold noPages2; walk_at "dv") (Nat.le_of_ble_eq_true rfl)) f1 fun v2 H2 s2 g2 => ?_)
  have g0 := r_da (R := Same) s2 g0
  have f2 := r_fd (R := Same) s2 f1
  refine s_seq (s_set (R := Same) (K := K) (F := F) (d := .list (noPages1 ++ noPages2 ++ noPages3)) (dv_addL (dv_var rfl g2) (by unfold noPages3; walk_at "dv") (Nat.le_of_ble_eq_true rfl)) f2 fun v3 H3 s3 g3 => ?_)
  have f3 := r_fd (R := Same) s3 f2
  refine s_seq (s_set (R := Same) (K := K) (F := F) (d := .list (noPages1 ++ noPages2 ++ noPages3 ++ noPages4)) (dv_addL (dv_var rfl g3) (by unfold noPages4; walk_at "dv") (Nat.le_of_ble_eq_true rfl)) f3 fun v4 H4 s4 g4 => ?_)
  have f4 := r_fd (R := Same) s4 f3
  refine s_seq (s_set (R := Same) (K := K) (F := F) (d := .list (noPages1 ++ noPages2 ++ noPages3 ++ noPages4 ++ noPages5)) (dv_addL (dv_var rfl g4) (by unfold noPages5; walk_at "dv") (Nat.le_of_ble_eq_true rfl)) f4 fun v5 H5 s5 g5 => ?_)
  refine s_ret (R := Same) (K := K) (F := F) (d := .list noPages) (dv_addL (dv_var rfl g5) (by unfold noPages6; walk_at "dv") (Nat.le_of_ble_eq_true rfl)) (r_fd (R := Same) s5 f4) fun v6 H6 s6 g6 => q v6 H6 (((s0.trans s1).trans (s2.trans s3)).trans ((s4.trans s5).trans s6)) g6
end
end Sc

namespace Sc
open PySem PySem.Spec PyProof.Rows L2
abbrev CL : List Str := ["BadPage", "BadPlace", "BadSize", "BadText"]
def word (c : Str) : List V := CL.map fun c' => V.bl (decide (c = c'))
theorem wSum : ∀ c ∈ CL, (CL.map fun c' => b2i (decide (c = c'))).sum = 1 := by decide +kernel
def wIx (c : Str) : Nat := CL.idxOf c
theorem wAt : ∀ c ∈ CL, (CL.map fun c' => decide (c = c'))[wIx c]? = some true ∧ ((CL.map fun c' => decide (c = c')).take (wIx c)).all (fun b => !b) = true ∧ CL[wIx c]? = some c := by decide +kernel
section
variable {P : Program} {w : World} {K : PySem.W.Frag} {mg : Str → Option Value} {base : Heap}
theorem sc__law_word : FnScope ["e", "flags", "flag"] ["e"] (defScope s__law_word) := ⟨rfl, rfl, rfl, by decide +kernel, rfl, by decide +kernel, by decide +kernel⟩
theorem c__law_word (T : GT K mg) : HotFn P w K mg base 2 "_law_word" (rWord K CL) := by
  obtain ⟨fd, FD⟩ := T.f__law_word
  refine ⟨_, T.g__law_word, FD.kp, fun A outer s H a oe Q hr hot pin e0 h => ?_⟩
  obtain ⟨c, hc, hz, hf, q⟩ := h
  refine hot_run (k := 1) FD sc__law_word (fun _ _ _ _ _ _ us hl => match us, hl with | [_], _ => rfl) hr pin e0 fun cdv hr => ?_
  have C := T.w.ec c hc
  have hp : (a, oe) ∈ [(a, oe)] := List.mem_cons_self
  have hot : L2H.HotC (L2H.cxH CX0 P w K mg base ["e", "flags", "flag"] "_law_word" (defScope s__law_word) (He.ga K "_law_word") cdv A outer s H C8.E0 (a, oe)) := ⟨(a, oe), hot, hp⟩
  refine ⟨_, (pss_cons (pS 1 sc__law_word.nd (pe_lst (pa_cons (pe_callB (cr_isH C hz.zc hf hp) (by rfl) T.z_isinstance (by decide +kernel) (pa_cons (pv 0) (pa_cons (pe_glob (v := .ref (He.ga K "BadPage")) (by rfl) T.g_BadPage rfl) pa_nil))) (pa_cons (pe_callB (cr_isH C hz.zc hf hp) (by rfl) T.z_isinstance (by decide +kernel) (pa_cons (pv 0) (pa_cons (pe_glob (v := .ref (He.ga K "BadPlace")) (by rfl) T.g_BadPlace rfl) pa_nil))) (pa_cons (pe_callB (cr_isH C hz.zc hf hp) (by rfl) T.z_isinstance (by decide +kernel) (pa_cons (pv 0) (pa_cons (pe_glob (v := .ref (He.ga K "BadSize")) (by rfl) T.g_BadSize rfl) pa_nil))) (pa_cons (pe_callB (cr_isH C hz.zc hf hp) (by rfl) T.z_isinstance (by decide +kernel) (pa_cons (pv 0) (pa_cons (pe_glob (v := .ref (He.ga K "BadText")) (by rfl) T.g_BadText rfl) pa_nil))) pa_nil))))))
      (pss_cons (ps_if (PW.pt (pw_or (pt_cmpR (kne K hr.units) (pe_callB (cr_sumH hot) (by rfl) T.z_sum (by decide +kernel) (pa_cons (pe_flags 1 hot T.z_int (by decide +kernel) (.inl rfl)) pa_nil)) pe_int (nomark _)) (pw_or1 (pt_not (pt_val (pe_callB (cr_isH C hz.zc hf hp) (by rfl) T.z_isinstance (by decide +kernel) (pa_cons (pv 0) (pa_cons (pe_bltn (v := .ty "ValueError") (by rfl) T.z_ValueError (by decide +kernel) rfl) pa_nil)))))))) (pss_one (ps_ret (pe_tup (pa_cons pe_str (pa_cons pe_str pa_nil))))) pss_nil)
      (pss_one (ps_ret (pe_tup (pa_cons pe_str (pa_cons (pe_ix (kix K) (pe_lst (pa_cons pe_str (pa_cons pe_str (pa_cons pe_str (pa_cons pe_str pa_nil))))) (kbm K PySem.F.plainAttrs_list PySem.F.slot_list_index PySem.F.type_list_index mt_index (pv 1) (pa_cons pe_bl pa_nil)) (fun _ _ => rfl)) pa_nil))))))), ?_⟩
  refine s_seq ?_
  iterate 4 refine ⟨_, rfl, ⟨_, _, _, rfl, fun u r => r, T.w.ki c hc _ (by decide), ?_⟩⟩
  refine ⟨Nat.le_of_ble_eq_true rfl, fun l hl => ?_⟩
  have s1 : Same H (upd H l (.lst (word c))) := same_new hl
  refine s_seq ?_
  refine ⟨l, CL.map fun c' => decide (c = c'), rfl, upd_same, fun D hD => ?_⟩
  refine ⟨D, CL.map fun c' => b2i (decide (c = c')), rfl, upd_same, ?_⟩
  have e1 : (CL.map fun c' => b2i (decide (c = c'))).sum = 1 := wSum c hc
  rw [e1]
  refine .inl ⟨rfl, _, rfl, iteF ?_⟩
  refine ⟨_, rfl, _, _, _, rfl, fun u r => r, T.w.ve c hc, ?_⟩
  refine ⟨_, rfl, iteF (s_next ?_)⟩
  have s2 : Same (upd H l (.lst (word c))) (upd (upd H l (.lst (word c))) D (.lst (CL.map fun c' => V.int (b2i (decide (c = c')))))) := same_new hD
  have gl2 := s2 _ _ (upd_same (H := H) (a := l) (o := .lst (word c)))
  refine ⟨Nat.le_of_ble_eq_true rfl, fun D2 hD2 => ?_⟩
  have s3 := same_new (o := .lst (CL.map V.str)) hD2
  obtain ⟨w1, w2, w3⟩ := wAt c hc
  refine ⟨_, rfl, .inl ⟨rfl, _, SqL.of (s3 _ _ gl2)⟩, ?_⟩
  refine ⟨l, word c, .bl true, wIx c, .bl true, rfl, rfl, SqL.of (s3 _ _ gl2), rfl, ?_, ?_, rfl, ?_, ?_⟩
  · rfl
  · show ((CL.map fun c' => decide (c = c')).map V.bl)[wIx c]? = _
    rw [List.getElem?_map, w1]
    rfl
  · intro m z hm hz
    have hz : ((CL.map fun c' => decide (c = c')).map V.bl)[m]? = some z := hz
    rw [List.getElem?_map] at hz
    obtain ⟨b, hb, rfl⟩ := Option.map_eq_some_iff.mp hz
    have hm2 : b ∈ (CL.map fun c' => decide (c = c')).take (wIx c) := List.mem_of_getElem? (i := m) (by rw [List.getElem?_take_of_lt hm]; exact hb)
    have := List.all_eq_true.mp w2 b hm2
    cases b with
    | true => cases this
    | false => rfl
  · refine .inl ⟨D2, CL.map V.str, _, .str c, rfl, rfl, SqL.of upd_same, atI_nat (by rw [List.getElem?_map, w3]; rfl), ?_⟩
    refine ⟨Nat.le_of_ble_eq_true rfl, fun D3 hD3 => ?_⟩
    have s4 := ((s1.trans s2).trans s3).trans (same_new (o := .tup [.str "refused", .str c]) hD3)
    refine q D3 _ s4 ?_ upd_same
    cases h9 : H D3 with
    | none => rfl
    | some o =>
      cases hD3.symm.trans (((s1.trans s2).trans s3) _ _ h9)
end
end Sc

namespace Sc
open PySem PySem.Spec PyProof.Rows L2
theorem sc__law_told : FnScope ["deed", "e"] ["deed"] (defScope s__law_told) := ⟨rfl, rfl, rfl, by decide +kernel, rfl, by decide +kernel, by decide +kernel⟩
theorem told_scr (K : PySem.W.Frag) (mg : Str → Option Value) (T : GT K mg) : ∀ c ∈ CL, PySem.W.exmOne K (.ref (He.ga K c)) (.ref (He.ga K "ScreenError")) = some true := by
  intro c hc
  simp only [List.mem_cons, List.not_mem_nil, or_false] at hc
  rcases hc with rfl | rfl | rfl | rfl
  · exact T.xm_BadPage
  · exact T.xm_BadPlace
  · exact T.xm_BadSize
  · exact T.xm_BadText
theorem told_at {X : Cx} (T : GT X.K X.mg) {Ts : List (Addr × Str)} {c P : Addr} {k : Nat} {params : Arguments} {body : Expr} {scope : Scope} {t : XK → TE} {p lpos pos : Pos}
    (TB : LamX.TabB X.base X.mg c P) (hcode : X.env.code = .ref c) (hmT : (P, lq X) ∈ Ts) (hu : ∀ p ∈ Ts, p.1 = P → p.2 = lq X) (hr : Room (k + 2) X.A) (hk : 1 ≤ k) (hg : Gl X "_law_told") (L : LamX.lamSB X.env.scope scope = true) (hdef : defaultsOf params X.env = ([], []))
    (hbind : ∀ (q : Str) (cl : List (Str × Addr)) (pm cv ctv : Value), bindArgs (PySem.W.kla_fn "<lambda>" q params body scope cl pm cv ctv) ⟨[], []⟩ = pure [])
    (hbody : ∀ (A : Around) (outer : List Env) (s : Shared) (H : Hp) (E : XK) (f c' : Addr), Room k (A.deeper (LamX.lamEnv X scope s.heap.objs.size f c')) → PE (lamN X A outer s H E scope f c') body (t E)) :
    PE X (.Call (.Name "_law_told" p) [.Lambda params body scope lpos] [] pos) (tTold Ts X.K CL t) :=
  pe_told (kw := 2) (a := "deed") (e := "ScreenError") (n := "e") (wd := "_law_word") (st := s__law_told) T.f__law_told T.g__law_told sc__law_told rfl (fun _ _ _ _ _ _ us hl => match us, hl with | [_], _ => rfl) ⟨_, _, _, _, _, _, _, _, _, _, rfl⟩ rfl (.inl rfl) rfl rfl (by decide +kernel) T.g_ScreenError (told_scr X.K X.mg T) (c__law_word T) (by omega) TB hcode hmT hu hr hg (LamX.lamS_by L) hdef hbind hbody
end Sc

namespace Sc
open PySem PySem.Spec PyProof.Rows L2
/-! ### drawn pages are pages -/
def cellSmB : PyData → Bool
  | .tuple [.str x, _] => decide (x.length ≤ 1000)
  | _ => true
theorem cellSm_of {d : PyData} (h : cellSmB d = true) : cellSm d := by
  unfold cellSmB at h
  unfold cellSm
  split at h
  · rename_i x p
    have : x.length ≤ 1000 := of_decide_eq_true h
    show x.length ≤ sizeLine
    rw [sizeLine_eq]
    omega
  · rename_i hn
    first
      | trivial
      | (split
         · rename_i x p
           exact absurd rfl (hn x p)
         · trivial)
def pageSmB : PyData → Bool
  | .list rows => decide (rows.length ≤ 1000) && rows.all fun r => decide ((items r).length ≤ 1000) && (items r).all cellSmB
  | _ => true
theorem le_size {n : Nat} (h : n ≤ 1000) : n ≤ sizeLine := by
  rw [sizeLine_eq]
  omega
theorem pageSm_of {d : PyData} (h : pageSmB d = true) : pageSm d := by
  cases d with
  | list rows =>
    have h : (decide (rows.length ≤ 1000) && rows.all fun r => decide ((items r).length ≤ 1000) && (items r).all cellSmB) = true := h
    simp only [Bool.and_eq_true, decide_eq_true_eq, List.all_eq_true] at h
    exact ⟨le_size h.1, fun r hr => ⟨le_size (h.2 r hr).1, fun c hc => cellSm_of ((h.2 r hr).2 c hc)⟩⟩
  | _ => trivial
theorem drawn_menu : ∀ i ∈ List.range 5, ∀ j ∈ List.range 4, isCell (.tuple [.str ⟨#[signMenu.getD i 0]⟩, penMenu.getD j .none]) = true := by decide +kernel
theorem cellDrawn_cell (m : Int) : isCell (cellDrawn m) = true ∧ cellSmB (cellDrawn m) = true := by
  unfold cellDrawn
  split
  · exact ⟨by decide +kernel, by decide +kernel⟩
  · exact ⟨drawn_menu _ (List.mem_range.mpr (mod_nat (n := 5) (by decide)).2) _ (List.mem_range.mpr (mod_nat (n := 4) (by decide)).2), rfl⟩
theorem row_items (m : Int) (w r : Nat) : (items (pageRow m w r)).length = w := by
  show ((List.range w).map _).length = w
  rw [List.length_map, List.length_range]
theorem row_cells {m : Int} {w r : Nat} {c : PyData} (h : c ∈ items (pageRow m w r)) : isCell c = true ∧ cellSmB c = true := by
  obtain ⟨k, _, rfl⟩ := List.mem_map.mp (show c ∈ (List.range w).map _ from h)
  exact cellDrawn_cell _
theorem page_high (m : Int) (w h : Nat) : (items (lawPage m w h)).length = h := by
  show ((List.range h).map _).length = h
  rw [List.length_map, List.length_range]
theorem page_head {m : Int} {w h : Nat} (hh : 0 < h) : (items (lawPage m w h)).headD .none = pageRow m w 0 := by
  obtain ⟨n, rfl⟩ : ∃ n, h = n + 1 := ⟨h - 1, by omega⟩
  show ((List.range (n + 1)).map (pageRow m w)).headD .none = _
  rw [List.range_succ_eq_map]
  rfl
theorem page_wide {m : Int} {w h : Nat} (hh : 0 < h) : wideOf (lawPage m w h) = w := by
  unfold wideOf
  rw [page_head hh, row_items]
theorem lawPage_page {m : Int} {w h : Nat} (hw : 0 < w) (hh : 0 < h) : isPage (lawPage m w h) = true := by
  have e1 : (items (lawPage m w h)) = (List.range h).map (pageRow m w) := rfl
  have hd : ((List.range h).map (pageRow m w)).headD .none = pageRow m w 0 := page_head hh
  show ((decide (0 < ((List.range h).map (pageRow m w)).length) && ((List.range h).map (pageRow m w)).all isLst) && ((decide (0 < (items (((List.range h).map (pageRow m w)).headD .none)).length) && ((List.range h).map (pageRow m w)).all fun r => decide ((items r).length = (items (((List.range h).map (pageRow m w)).headD .none)).length)) && ((List.range h).map (pageRow m w)).all fun r => (items r).all isCell)) = true
  rw [hd, row_items]
  simp only [Bool.and_eq_true, decide_eq_true_eq, List.all_eq_true, List.mem_map, List.mem_range]
  refine ⟨⟨by rw [List.length_map, List.length_range]; exact hh, ?_⟩, ⟨hw, ?_⟩, ?_⟩
  · rintro x ⟨r, _, rfl⟩
    rfl
  · rintro x ⟨r, _, rfl⟩
    exact row_items m w r
  · rintro x ⟨r, _, rfl⟩ c hc
    exact (row_cells hc).1
theorem lawPage_sm {m : Int} {w h : Nat} (hw : w ≤ 100) (hh : h ≤ 100) : pageSm (lawPage m w h) := by
  refine ⟨by rw [List.length_map, List.length_range]; exact le_size (by omega), fun r hr => ?_⟩
  obtain ⟨k, _, rfl⟩ := List.mem_map.mp hr
  exact ⟨by rw [row_items]; exact le_size (by omega), fun c hc => cellSm_of (row_cells hc).2⟩
end Sc

namespace Sc
open PySem PySem.Spec PyProof.Rows L2
theorem noPages_no : ∀ d ∈ noPages, isPage d = false := by decide +kernel
theorem noPages_sm : ∀ d ∈ noPages, pageSmB d = true := by decide +kernel
abbrev repC (k : Nat) : PyData := .tuple (List.replicate k [celA]).flatten
abbrev chg (a b : Int) (c : PyData) : PyData := .tuple [.int a, .int b, c]
def none1 (h w : Nat) : List PyData := [.none, .tuple [], .tuple [.int 0, .int 0], chg 0 0 (.tuple []), chg 0 0 (.list [celA]), chg h 0 (.tuple [celA])]
def none2 (h w : Nat) : List PyData := [chg 0 w (.tuple [celA]), chg (-1) 0 (.tuple [celA])]
def none3 (h w : Nat) : List PyData := [chg 0 0 (repC (w + 1)), chg 0 1 (repC w), chg 0 0 (.tuple [.none])]
def none4 (h w : Nat) : List PyData := [.tuple [.bool true, .int 0, .tuple [celA]]]
def none5 (h w : Nat) : List PyData := [.list [.int 0, .int 0, .tuple [celA]], chg 0 (-1) (.tuple [celA])]
def noneAll (h w : Nat) : List PyData := none1 h w ++ none2 h w ++ none3 h w ++ none4 h w ++ none5 h w
def chgSmB : PyData → Bool
  | .tuple [_, _, c] => decide ((tupItems c).length ≤ 1000) && (tupItems c).all cellSmB
  | _ => true
theorem chgSm_of {d : PyData} (h : chgSmB d = true) : chgSm d := by
  unfold chgSmB at h
  unfold chgSm
  split at h
  · rename_i a b c
    simp only [Bool.and_eq_true, decide_eq_true_eq, List.all_eq_true] at h
    exact ⟨le_size h.1, fun x hx => cellSm_of (h.2 x hx)⟩
  · rename_i hn
    first
      | trivial
      | (split
         · rename_i a b c
           exact absurd rfl (hn a b c)
         · trivial)
theorem none_no0 : ∀ h ∈ List.range 6, ∀ w ∈ List.range 7, (decide (2 ≤ h) && decide (2 ≤ w)) = true → ∀ x ∈ noneAll h w, isChange h w x = false := by decide +kernel
theorem none_sm0 : ∀ h ∈ List.range 6, ∀ w ∈ List.range 7, ∀ x ∈ noneAll h w, chgSmB x = true := by decide +kernel
theorem none_no {h w : Nat} (h1 : 2 ≤ h) (h2 : h < 6) (w1 : 2 ≤ w) (w2 : w < 7) {x : PyData} (hx : x ∈ noneAll h w) : isChange h w x = false ∧ chgSm x :=
  ⟨none_no0 h (List.mem_range.mpr h2) w (List.mem_range.mpr w2) (by rw [decide_eq_true h1, decide_eq_true w1]; rfl) x hx, chgSm_of (none_sm0 h (List.mem_range.mpr h2) w (List.mem_range.mpr w2) x hx)⟩
end Sc

namespace Sc
open PySem PySem.Spec PyProof.Rows L2
abbrev lamQ (x : Str) : Str := (x ++ ".<locals>.") ++ "<lambda>"
abbrev lawDs : List He.Defn := [("law", none)]
abbrev lawTs (K : PySem.W.Frag) : List (Addr × Str) := lawDs.map fun p => ((He.cT K p).2, lamQ p.1)
abbrev TabsB (K : PySem.W.Frag) (base : Heap) (mg : Str → Option Value) : Prop := ∀ p ∈ lawDs, LamX.TabB base mg (He.cT K p).1 (He.cT K p).2
theorem law_in : (("law", none) : He.Defn) ∈ lawDs := by decide
abbrev refB : PyData := .tuple [.str "refused", .str "BadPage"]
section
variable {P : Program} {w : World} {K : PySem.W.Frag} {mg : Str → Option Value} {base : Heap}
theorem sc_law : FnScope ["script", "k", "more", "wide", "high", "page", "cell", "j", "here", "bad", "some", "other", "none", "one"] ["script"] (defScope s_law) := ⟨rfl, rfl, rfl, by decide +kernel, rfl, by decide +kernel, by decide +kernel⟩
theorem c_law (T : GT K mg) (TBs : TabsB K base mg) {fd : FuncData} (FD : FunD K "law" "law" (defArgs s_law) (defBody s_law) (defScope s_law) [] [] (lawA K) fd) : FnOk P w K mg base CX0 9 (lawA K) fd ["script"] (spLaw K (lawTs K)) := by
  refine fn_lam FD sc_law (fun vs H Q E h => ?_) (fun vs H Q E h => h) fun A outer s H vs Q hr h => ?_
  · obtain ⟨a, ns, rfl, _⟩ := h
    rfl
  obtain ⟨a, ns, rfl, hS, hlen, hbits, hT, q⟩ := h
  have TB := TBs _ law_in
  have hmT : (lawP K "law", lamQ "law") ∈ lawTs K := List.mem_cons_self
  have hu : ∀ p ∈ lawTs K, p.1 = lawP K "law" → p.2 = lamQ "law" := fun p hp _ => by
    rw [List.mem_singleton.mp hp]
  refine ⟨_, (pss_cons (ps_for PassesOwn.never rfl (pi_range1 (by rfl) T.z_range (pa_cons (pe_callB (call_max2 rfl) (by rfl) T.z_max (by decide +kernel) (pa_cons pe_int (pa_cons (pe_callB (call_min2 rfl) (by rfl) T.z_min (by decide +kernel) (pa_cons pe_int (pa_cons (pe_callB (klen K) (by rfl) T.z_len (by decide +kernel) (pa_cons (pv 0) pa_nil)) pa_nil))) pa_nil))) pa_nil)) (pG 1 sc_law.nd) (pss_cons (pS 2 sc_law.nd (pe_cal (c__law_drawn T) (hr.mono (by decide)) pass0 (pa_cons (pe_cal (c__law_cell T) (hr.mono (by decide)) pass0 (pa_cons (pv 0) (pa_cons (pv 1) pa_nil))) (pa_cons (pv 1) pa_nil))))
      (pss_cons (ps_par (i := 3) (j := 4) rfl sc_law.nd rfl rfl (by decide) rfl rfl (pa_cons (pe_op (kplus K) pe_int (pe_op op_mod (pv 2) pe_int)) (pa_cons (pe_op (kplus K) pe_int (pe_op op_mod (pe_op op_fdivW (pv 2) pe_int) pe_int)) pa_nil)) rfl)
      (pss_cons (pS 5 sc_law.nd (pe_cal (c__law_page T) (hr.mono (by decide)) pass0 (pa_cons (pe_cal (c__law_drawn T) (hr.mono (by decide)) pass0 (pa_cons (pv 2) (pa_cons pe_int pa_nil))) (pa_cons (pv 3) (pa_cons (pv 4) pa_nil)))))
      (pss_cons (pS 6 sc_law.nd (pe_tup (pa_cons pe_str (pa_cons (pe_tup (pa_cons pe_int (pa_cons pe_int (pa_cons pe_int pa_nil)))) pa_nil))))
      (pss_one (ps_for PassesOwn.never rfl (pi_range1 (by rfl) T.z_range (pa_cons pe_int pa_nil)) (pG 7 sc_law.nd) (pss_cons (pS 8 sc_law.nd (pe_cal (c__law_drawn T) (hr.mono (by decide)) pass0 (pa_cons (pv 2) (pa_cons (pv 7) pa_nil))))
      (pss_cons (pS 9 sc_law.nd (pe_ix (kix K) (pe_cal0 (c__law_no_pages T) (hr.mono (by decide)) pass0) (pe_op op_mod (pv 8) (pe_callB (klen K) (by rfl) T.z_len (by decide +kernel) (pa_cons (pe_cal0 (c__law_no_pages T) (hr.mono (by decide)) pass0) pa_nil))) (fun _ _ => rfl)))
      (pss_cons (pS 10 sc_law.nd (pe_lst (pa_cons (told_at T (k := 5) TB rfl hmT hu (hr.mono (by decide)) (by decide) (by rfl) (by show LamX.lamSB (defScope s_law) _ = true; decide +kernel) rfl (fun _ _ _ _ _ => rfl) (fun A' outer s H E f c' hr => by exact (pe_cal (c_changes T) (hr.mono (by decide)) (passX rfl rfl rfl rfl) (pa_cons (pv 9) (pa_cons (pv 5) pa_nil))))) pa_nil)))
      (pss_cons (ps_expr (kbm K PySem.F.plainAttrs_list PySem.F.slot_list_append PySem.F.type_list_append mt_append (pv 10) (pa_cons (told_at T (k := 5) TB rfl hmT hu (hr.mono (by decide)) (by decide) (by rfl) (by show LamX.lamSB (defScope s_law) _ = true; decide +kernel) rfl (fun _ _ _ _ _ => rfl) (fun A' outer s H E f c' hr => by exact (pe_cal (c_changes T) (hr.mono (by decide)) (passX rfl rfl rfl rfl) (pa_cons (pv 5) (pa_cons (pv 9) pa_nil))))) pa_nil)))
      (pss_cons (ps_expr (kbm K PySem.F.plainAttrs_list PySem.F.slot_list_append PySem.F.type_list_append mt_append (pv 10) (pa_cons (told_at T (k := 5) TB rfl hmT hu (hr.mono (by decide)) (by decide) (by rfl) (by show LamX.lamSB (defScope s_law) _ = true; decide +kernel) rfl (fun _ _ _ _ _ => rfl) (fun A' outer s H E f c' hr => by exact (pe_cal (c_painted T) (hr.mono (by decide)) (passX rfl rfl rfl rfl) (pa_cons (pv 9) (pa_cons (pe_lst pa_nil) pa_nil))))) pa_nil)))
      (pss_cons (ps_expr (kbm K PySem.F.plainAttrs_list PySem.F.slot_list_append PySem.F.type_list_append mt_append (pv 10) (pa_cons (told_at T (k := 5) TB rfl hmT hu (hr.mono (by decide)) (by decide) (by rfl) (by show LamX.lamSB (defScope s_law) _ = true; decide +kernel) rfl (fun _ _ _ _ _ => rfl) (fun A' outer s H E f c' hr => by exact (pe_cal (c_page_texts T) (hr.mono (by decide)) (passX rfl rfl rfl rfl) (pa_cons (pv 9) pa_nil)))) pa_nil)))
      (pss_cons (pS 11 sc_law.nd (pe_cal (c__law_page T) (hr.mono (by decide)) pass0 (pa_cons (pv 8) (pa_cons (pe_op (kplus K) (pv 3) (pe_op op_mod (pe_op op_fdivW (pv 8) pe_int) pe_int)) (pa_cons (pe_op op_sub (pe_op (kplus K) (pv 4) pe_int) (pe_op op_mod (pe_op op_fdivW (pv 8) pe_int) pe_int)) pa_nil)))))
      (pss_cons (ps_expr (kbm K PySem.F.plainAttrs_list PySem.F.slot_list_append PySem.F.type_list_append mt_append (pv 10) (pa_cons (told_at T (k := 5) TB rfl hmT hu (hr.mono (by decide)) (by decide) (by rfl) (by show LamX.lamSB (defScope s_law) _ = true; decide +kernel) rfl (fun _ _ _ _ _ => rfl) (fun A' outer s H E f c' hr => by exact (pe_cal (c_changes T) (hr.mono (by decide)) (passX rfl rfl rfl rfl) (pa_cons (pv 5) (pa_cons (pv 11) pa_nil))))) pa_nil)))
      (pss_cons (ps_if (pt_cmpR (kne K hr.units) (pv 10) (pe_op (ktimes K) (pe_lst (pa_cons (pe_tup (pa_cons pe_str (pa_cons pe_str pa_nil))) pa_nil)) pe_int) (nomark _)) (pss_one (ps_ret pe_bl)) pss_nil)
      (pss_cons (pS 12 sc_law.nd (pe_lst (pa_cons pe_non (pa_cons (pe_tup pa_nil) (pa_cons (pe_tup (pa_cons pe_int (pa_cons pe_int pa_nil))) (pa_cons (pe_tup (pa_cons pe_int (pa_cons pe_int (pa_cons (pe_tup pa_nil) pa_nil)))) (pa_cons (pe_tup (pa_cons pe_int (pa_cons pe_int (pa_cons (pe_lst (pa_cons (pv 6) pa_nil)) pa_nil)))) (pa_cons (pe_tup (pa_cons (pv 4) (pa_cons pe_int (pa_cons (pe_tup (pa_cons (pv 6) pa_nil)) pa_nil)))) pa_nil))))))))
      (pss_cons (pS 12 sc_law.nd (pe_op (kplus K) (pv 12) (pe_lst (pa_cons (pe_tup (pa_cons pe_int (pa_cons (pv 3) (pa_cons (pe_tup (pa_cons (pv 6) pa_nil)) pa_nil)))) (pa_cons (pe_tup (pa_cons (pe_un un_neg pe_int) (pa_cons pe_int (pa_cons (pe_tup (pa_cons (pv 6) pa_nil)) pa_nil)))) pa_nil)))))
      (pss_cons (pS 12 sc_law.nd (pe_op (kplus K) (pv 12) (pe_lst (pa_cons (pe_tup (pa_cons pe_int (pa_cons pe_int (pa_cons (pe_op (ktimes K) (pe_tup (pa_cons (pv 6) pa_nil)) (pe_op (kplus K) (pv 3) pe_int)) pa_nil)))) (pa_cons (pe_tup (pa_cons pe_int (pa_cons pe_int (pa_cons (pe_op (ktimes K) (pe_tup (pa_cons (pv 6) pa_nil)) (pv 3)) pa_nil)))) (pa_cons (pe_tup (pa_cons pe_int (pa_cons pe_int (pa_cons (pe_tup (pa_cons pe_non pa_nil)) pa_nil)))) pa_nil))))))
      (pss_cons (pS 12 sc_law.nd (pe_op (kplus K) (pv 12) (pe_lst (pa_cons (pe_tup (pa_cons pe_bl (pa_cons pe_int (pa_cons (pe_tup (pa_cons (pv 6) pa_nil)) pa_nil)))) pa_nil))))
      (pss_cons (pS 12 sc_law.nd (pe_op (kplus K) (pv 12) (pe_lst (pa_cons (pe_lst (pa_cons pe_int (pa_cons pe_int (pa_cons (pe_tup (pa_cons (pv 6) pa_nil)) pa_nil)))) (pa_cons (pe_tup (pa_cons pe_int (pa_cons (pe_un un_neg pe_int) (pa_cons (pe_tup (pa_cons (pv 6) pa_nil)) pa_nil)))) pa_nil)))))
      (pss_cons (pS 13 sc_law.nd (pe_ix (kix K) (pv 12) (pe_op op_mod (pe_op op_fdivW (pv 8) pe_int) (pe_callB (klen K) (by rfl) T.z_len (by decide +kernel) (pa_cons (pv 12) pa_nil))) (fun _ _ => rfl)))
      (pss_cons (pS 10 sc_law.nd (pe_lst (pa_cons (told_at T (k := 5) TB rfl hmT hu (hr.mono (by decide)) (by decide) (by rfl) (by show LamX.lamSB (defScope s_law) _ = true; decide +kernel) rfl (fun _ _ _ _ _ => rfl) (fun A' outer s H E f c' hr => by exact (pe_cal (c_painted T) (hr.mono (by decide)) (passX rfl rfl rfl rfl) (pa_cons (pv 5) (pa_cons (pe_lst (pa_cons (pe_tup (pa_cons pe_int (pa_cons pe_int (pa_cons (pe_tup (pa_cons (pv 6) pa_nil)) pa_nil)))) (pa_cons (pv 13) pa_nil))) pa_nil))))) pa_nil)))
      (pss_cons (ps_expr (kbm K PySem.F.plainAttrs_list PySem.F.slot_list_append PySem.F.type_list_append mt_append (pv 10) (pa_cons (told_at T (k := 5) TB rfl hmT hu (hr.mono (by decide)) (by decide) (by rfl) (by show LamX.lamSB (defScope s_law) _ = true; decide +kernel) rfl (fun _ _ _ _ _ => rfl) (fun A' outer s H E f c' hr => by exact (pe_cal (c_painted T) (hr.mono (by decide)) (passX rfl rfl rfl rfl) (pa_cons (pv 5) (pa_cons pe_non pa_nil))))) pa_nil)))
      (pss_cons (ps_expr (kbm K PySem.F.plainAttrs_list PySem.F.slot_list_append PySem.F.type_list_append mt_append (pv 10) (pa_cons (told_at T (k := 5) TB rfl hmT hu (hr.mono (by decide)) (by decide) (by rfl) (by show LamX.lamSB (defScope s_law) _ = true; decide +kernel) rfl (fun _ _ _ _ _ => rfl) (fun A' outer s H E f c' hr => by exact (pe_cal (c_painted T) (hr.mono (by decide)) (passX rfl rfl rfl rfl) (pa_cons (pv 5) (pa_cons (pe_tup (pa_cons (pe_tup (pa_cons pe_int (pa_cons pe_int (pa_cons (pe_tup (pa_cons (pv 6) pa_nil)) pa_nil)))) pa_nil)) pa_nil))))) pa_nil)))
      (pss_one (ps_if (pt_cmpR (kne K hr.units) (pv 10) (pe_op (ktimes K) (pe_lst (pa_cons (pe_tup (pa_cons pe_str (pa_cons pe_str pa_nil))) pa_nil)) pe_int) (nomark _)) (pss_one (ps_ret pe_bl)) pss_nil)))))))))))))))))))))))))))
      (pss_one (ps_ret pe_bl))), ?_⟩
  have hS' : ∀ {H'}, RT (lawTs K) H H' → SqL K H' a (ns.map V.int) := fun r => xt_sqL r.1 hS
  have fn : ∀ {H'}, Fd [] H' := Fd.nil
  refine s_seq (s_forR (R := RT (lawTs K)) (K := K) (F := []) (dv_max dv_int (dv_min dv_int (dv_lenSc rfl hS))) fn (by omega) (by omega) fun H0 r0 _ =>
    ⟨fun j σ' H' => RT (lawTs K) H H' ∧ ∃ o1 o2 o3 o4 o5 o6 o7 o8 o9 oa ob oc od, σ' = [some (.ref a), o1, o2, o3, o4, o5, o6, o7, o8, o9, oa, ob, oc, od], ⟨r0, _, _, _, _, _, _, _, _, _, _, _, _, _, rfl⟩, ?_, ?_⟩)
  · rintro k σ' H1 hk ⟨r1, o1, o2, o3, o4, o5, o6, o7, o8, o9, oa, ob, oc, od, rfl⟩
    have hk63 : k ≤ 63 := by omega
    have hT1 := r1.2 hT
    -- more
    refine s_seq (s_set (R := RT (lawTs K)) (K := K) (F := []) (d := .int (drawn (cellOf ns k) k)) (dv_call (da_cons (dv_lawcell rfl (hS' r1) (dv_var rfl (show Da K _ (.int (k : Int)) _ from rfl)) hk63 hlen) (da_cons (dv_var rfl (show Da K _ (.int (k : Int)) _ from rfl)) da_nil)) (sd_F ⟨_, _, rfl, rfl⟩ rfl)) fn fun v H2 r2 g => ?_)
    have g : v = .int (drawn (cellOf ns k) k) := g
    subst g
    obtain ⟨m, hm⟩ : ∃ m, m = drawn (cellOf ns k) k := ⟨_, rfl⟩
    rw [← hm]
    obtain ⟨eW, _⟩ := mod_nat (x := m) (n := 5) (by decide)
    obtain ⟨eH, _⟩ := mod_nat (x := m / 8) (n := 4) (by decide)
    obtain ⟨W, hW⟩ : ∃ W : Nat, (W : Int) = 2 + m % 5 := ⟨(m % 5).toNat + 2, by omega⟩
    obtain ⟨Y, hY⟩ : ∃ Y : Nat, (Y : Int) = 2 + m / 8 % 4 := ⟨(m / 8 % 4).toNat + 2, by omega⟩
    have W1 : 2 ≤ W ∧ W < 7 := by omega
    have Y1 : 2 ≤ Y ∧ Y < 6 := by omega
    -- wide, high
    refine s_seq (s_par (R := RT (lawTs K)) (K := K) (F := []) (d1 := .int (W : Int)) (d2 := .int (Y : Int)) (da_cons (dv_is (dv_addI dv_int (dv_mod (dv_var rfl (show Da K _ (.int m) _ from rfl)) dv_int (by decide))) (by rw [hW])) (da_cons (dv_is (dv_addI dv_int (dv_mod (dv_div (dv_var rfl (show Da K _ (.int m) _ from rfl)) dv_int ⟨by decide, by decide⟩) dv_int (by decide))) (by rw [hY])) da_nil)) fn fun v w H3 r3 g1 g2 => ?_)
    have g1 : v = .int (W : Int) := g1
    have g2 : w = .int (Y : Int) := g2
    subst g1 g2
    -- page
    refine s_seq (s_set (R := RT (lawTs K)) (K := K) (F := []) (d := lawPage (drawn m 1) W Y) (dv_call (da_cons (dv_call (da_cons (dv_var rfl (show Da K _ (.int m) _ from rfl)) (da_cons dv_int da_nil)) (sd_F ⟨_, _, rfl, rfl⟩ rfl)) (da_cons (dv_var rfl (show Da K _ (.int (W : Int)) _ from rfl)) (da_cons (dv_var rfl (show Da K _ (.int (Y : Int)) _ from rfl)) da_nil))) (sd_F ⟨_, W, Y, rfl, by omega, by omega, rfl⟩ rfl)) fn fun vp H4 r4 gp => ?_)
    -- cell
    refine s_seq (s_set (R := RT (lawTs K)) (K := K) (F := []) (d := celA) (by walk_at "dv") fn fun vc H5 r5 gc => ?_)
    have gp5 := r_da r5 gp
    have r15 : RT (lawTs K) H H5 := ROk.trans (ROk.trans (ROk.trans r1 r2) (ROk.trans r3 r4)) r5
    have pg1 : isPage (lawPage (drawn m 1) W Y) = true := lawPage_page (by omega) (by omega)
    have pg2 : pageSm (lawPage (drawn m 1) W Y) := lawPage_sm (by omega) (by omega)
    refine s_forR (R := RT (lawTs K)) (K := K) (F := []) dv_int fn (by omega) (by omega) fun H6 r6 _ =>
      ⟨fun j σ' H' => RT (lawTs K) H5 H' ∧ ∃ o7 o8 o9 oa ob oc od, σ' = [some (.ref a), some (.int (k : Int)), some (.int m), some (.int (W : Int)), some (.int (Y : Int)), some vp, some vc, o7, o8, o9, oa, ob, oc, od], ⟨r6, _, _, _, _, _, _, _, rfl⟩, ?_, ?_⟩
    · clear o7 o8 o9 oa ob oc od
      rintro j σ' H7 hj ⟨r7, o7, o8, o9, oa, ob, oc, od, rfl⟩
      have gp7 := r_da r7 gp5
      have gc7 := r_da r7 gc
      have hT7 := r7.2 (r15.2 hT)
      -- here
      refine s_seq (s_set (R := RT (lawTs K)) (K := K) (F := []) (d := .int (drawn m j)) (dv_call (da_cons (dv_var rfl (show Da K _ (.int m) _ from rfl)) (da_cons (dv_var rfl (show Da K _ (.int (j : Int)) _ from rfl)) da_nil)) (sd_F ⟨_, _, rfl, rfl⟩ rfl)) fn fun v H8 r8 g => ?_)
      have g : v = .int (drawn m j) := g
      subst g
      obtain ⟨he, hhe⟩ : ∃ he, he = drawn m j := ⟨_, rfl⟩
      rw [← hhe]
      -- bad
      obtain ⟨_, eb⟩ := mod_nat (x := he) (n := 20) (by decide)
      obtain ⟨bd, hbd⟩ : ∃ bd, bd = noPages.getD (he % 20).toNat .none := ⟨_, rfl⟩
      have bdm : bd ∈ noPages := by
        rw [hbd, List.getD_eq_getElem?_getD, List.getElem?_eq_getElem (show (he % 20).toNat < noPages.length from eb)]
        exact List.getElem_mem _
      refine s_seq (s_set (R := RT (lawTs K)) (K := K) (F := []) (d := bd) (dv_ixL (ds := noPages) (dv_call da_nil (sd_F ⟨rfl, rfl⟩ rfl)) (dv_mod (j := 20) (dv_var rfl (show Da K _ (.int he) _ from rfl)) (dv_lenL (ds := noPages) (dv_call da_nil (sd_F ⟨rfl, rfl⟩ rfl))) (by decide)) (by rw [hbd]; exact at_mod _ (by decide) rfl)) fn fun vb H9 r9 gb => ?_)
      have r79 : RT (lawTs K) H7 H9 := ROk.trans r8 r9
      have gp9 := r_da r79 gp7
      have gc9 := r_da r79 gc7
      have hT9 := r79.2 hT7
      have bd1 := noPages_no bd bdm
      have bd2 := pageSm_of (noPages_sm bd bdm)
      -- some = [told(changes(bad, page))]
      refine s_seq (s_own (R := RT (lawTs K)) (K := K) (F := []) (ds := [refB]) (da_cons (dv_told (r := .error "BadPage") hT9 (dx_call (da_cons (dv_var rfl gb) (da_cons (dv_var rfl gp9) da_nil)) ⟨_, _, rfl, bd2, pg2, by rw [bd1]; rfl, rfl⟩ rfl) (fun c hc => by cases hc; decide)) da_nil) fn (by decide) fun l HA HB rA own1 xA => ?_)
      have gpB := (r_da rA gp9).mono xA
      have gbB := (r_da rA gb).mono xA
      have gcB := (r_da rA gc9).mono xA
      have tabB := own1.r.2 (rA.2 hT9)
      refine s_seq (s_push own1 rfl (dv_told (r := .error "BadPage") tabB (dx_call (da_cons (dv_var rfl gpB) (da_cons (dv_var rfl gbB) da_nil)) ⟨_, _, rfl, pg2, bd2, by rw [bd1, Bool.false_and, Bool.and_false], rfl⟩ rfl) (fun c hc => by cases hc; decide)) (by decide) fun HC own2 x2 => ?_)
      have gpC := gpB.mono x2
      have gbC := gbB.mono x2
      have gcC := gcB.mono x2
      have tabC := own2.r.2 (rA.2 hT9)
      refine s_seq (s_push own2 rfl (dv_told (r := .error "BadPage") tabC (dx_call (da_cons (dv_var rfl gbC) (da_cons (dv_lst da_nil (by decide)) da_nil)) ⟨_, _, rfl, bd2, ⟨Nat.le_of_ble_eq_true rfl, fun x hx => nomatch hx⟩, by rw [bd1]; rfl, rfl⟩ rfl) (fun c hc => by cases hc; decide)) (by decide) fun HD own3 x3 => ?_)
      have gpD := gpC.mono x3
      have gbD := gbC.mono x3
      have gcD := gcC.mono x3
      have tabD := own3.r.2 (rA.2 hT9)
      refine s_seq (s_push own3 rfl (dv_told (r := .error "BadPage") tabD (dx_call (da_cons (dv_var rfl gbD) da_nil) ⟨_, rfl, bd2, bd1, rfl⟩ rfl) (fun c hc => by cases hc; decide)) (by decide) fun HE own4 x4 => ?_)
      have gpE := gpD.mono x4
      have gcE := gcD.mono x4
      have tabE := own4.r.2 (rA.2 hT9)
      -- other
      have e64 : he / 64 % 2 = 0 ∨ he / 64 % 2 = 1 := by omega
      obtain ⟨W2, hW2⟩ : ∃ W2 : Nat, (W2 : Int) = W + he / 64 % 2 := ⟨W + (he / 64 % 2).toNat, by omega⟩
      obtain ⟨Y2, hY2⟩ : ∃ Y2 : Nat, (Y2 : Int) = Y + 1 - he / 64 % 2 := ⟨Y + 1 - (he / 64 % 2).toNat, by omega⟩
      have d64 : ∀ {H'}, DV (RT (lawTs K)) K [l] (tOp (rI (fun _ j => 0 < j) fun i j => V.int (i % j)) (tOp (rI CDivW fun i j => V.int (i / j)) (tVar 8) (tC (V.int 64))) (tC (V.int 2))) [some (.ref a), some (.int (k : Int)), some (.int m), some (.int (W : Int)), some (.int (Y : Int)), some vp, some vc, some (.int (j : Int)), some (.int he), some vb, some (.ref l), ob, oc, od] H' (.int (he / 64 % 2)) := fun {H'} => dv_mod (dv_div (dv_var rfl (show Da K _ (.int he) _ from rfl)) dv_int ⟨by decide, by decide⟩) dv_int (by decide)
      refine s_seq (s_set (R := RT (lawTs K)) (K := K) (F := [l]) (d := lawPage he W2 Y2) (dv_call (da_cons (dv_var rfl (show Da K _ (.int he) _ from rfl)) (da_cons (dv_is (dv_addI (dv_var rfl (show Da K _ (.int (W : Int)) _ from rfl)) d64) (by rw [hW2])) (da_cons (dv_is (dv_subI (dv_addI (dv_var rfl (show Da K _ (.int (Y : Int)) _ from rfl)) dv_int) d64) (by rw [hY2])) da_nil))) (sd_F ⟨_, W2, Y2, rfl, by omega, by omega, rfl⟩ rfl)) own4.fd2 fun vo HF rF go => ?_)
      have gpF := r_da rF gpE
      have gcF := r_da rF gcE
      have own4 := own4.mono rF
      have tabF := own4.r.2 (rA.2 hT9)
      refine s_seq (s_push own4 rfl (dv_told (r := .error "BadPage") tabF (dx_call (da_cons (dv_var rfl gpF) (da_cons (dv_var rfl go) da_nil)) ⟨_, _, rfl, pg2, lawPage_sm (by omega) (by omega), ?_, rfl⟩ rfl) (fun c hc => by cases hc; decide)) (by decide) fun HG own5 x5 => ?_)
      · rw [page_high, page_high, page_wide (by omega), page_wide (by omega)]
        have z : (decide (Y = Y2) && decide (W = W2)) = false := by
          by_cases h1 : Y = Y2
          · rw [decide_eq_false (show ¬ W = W2 by omega), Bool.and_false]
          · rw [decide_eq_false h1, Bool.false_and]
        rw [z, Bool.and_false, Bool.and_false]
      have gpG := gpF.mono x5
      have gcG := gcF.mono x5
      -- if some != ..
      refine s_seq (s_if (R := RT (lawTs K)) (F := []) (dt_is (dt_test (K := K) (dv_ne (dv_var rfl own5.da) (dv_repL (ds := [refB]) (by walk_at "dv") dv_int (by decide) (by decide) (by decide)) (by decide +kernel) (by decide +kernel))) (b := false) (by decide +kernel)) fn (fun z => nomatch z) fun _ HH rH => s_next ?_)
      have rAll : RT (lawTs K) H9 HH := ROk.trans rA (ROk.trans own5.r rH)
      have gpH := r_da rAll gp9
      have gcH := r_da rAll gc9
      have tabH := rAll.2 hT9
      refine s_seq (s_set (R := RT (lawTs K)) (K := K) (F := []) (d := .list (none1 Y W)) (by unfold none1; walk_at "dv") fn fun w1 HI rI1 g1 => ?_)
      refine s_seq (s_set (R := RT (lawTs K)) (K := K) (F := []) (d := .list (none1 Y W ++ none2 Y W)) (dv_addL (dv_var rfl g1) (by have gcH := r_da rI1 gcH; unfold none2; walk_at "dv") (Nat.le_of_ble_eq_true rfl)) fn fun w2 HJ rJ g2 => ?_)
      have gcJ := r_da (ROk.trans rI1 rJ) gcH
      have rp1 : DV (RT (lawTs K)) K [] (tOp (rTimes K) (tTup (tCons (tVar 6) tNil)) (tOp (rPlus K) (tVar 3) (tC (V.int 1)))) [some (.ref a), some (.int (k : Int)), some (.int m), some (.int (W : Int)), some (.int (Y : Int)), some vp, some vc, some (.int (j : Int)), some (.int he), some vb, some (.ref l), some vo, some w2, od] HJ (repC (W + 1)) :=
        dv_repT (ds := [celA]) (k := (W : Int) + 1) (by walk_at "dv") (dv_addI (dv_var rfl (show Da K _ (.int (W : Int)) _ from rfl)) dv_int) (by simp) (by omega) (by omega) (by decide)
      have rp2 : DV (RT (lawTs K)) K [] (tOp (rTimes K) (tTup (tCons (tVar 6) tNil)) (tVar 3)) [some (.ref a), some (.int (k : Int)), some (.int m), some (.int (W : Int)), some (.int (Y : Int)), some vp, some vc, some (.int (j : Int)), some (.int he), some vb, some (.ref l), some vo, some w2, od] HJ (repC W) :=
        dv_repT (ds := [celA]) (k := (W : Int)) (by walk_at "dv") (dv_var rfl (show Da K _ (.int (W : Int)) _ from rfl)) (by simp) (by omega) (by omega) (by decide)
      refine s_seq (s_set (R := RT (lawTs K)) (K := K) (F := []) (d := .list (none1 Y W ++ none2 Y W ++ none3 Y W)) (dv_addL (dv_var rfl g2) (by unfold none3; exact dv_lst (da_cons (dv_tup (da_cons dv_int (da_cons dv_int (da_cons rp1 da_nil))) (Nat.le_of_ble_eq_true rfl)) (da_cons (dv_tup (da_cons dv_int (da_cons dv_int (da_cons rp2 da_nil))) (Nat.le_of_ble_eq_true rfl)) (da_cons (by walk_at "dv") da_nil))) (Nat.le_of_ble_eq_true rfl)) (Nat.le_of_ble_eq_true rfl)) fn fun w3 HK rK g3 => ?_)
      have gcK := r_da rK gcJ
      refine s_seq (s_set (R := RT (lawTs K)) (K := K) (F := []) (d := .list (none1 Y W ++ none2 Y W ++ none3 Y W ++ none4 Y W)) (dv_addL (dv_var rfl g3) (by unfold none4; walk_at "dv") (Nat.le_of_ble_eq_true rfl)) fn fun w4 HL rL g4 => ?_)
      have gcL := r_da rL gcK
      refine s_seq (s_set (R := RT (lawTs K)) (K := K) (F := []) (d := .list (noneAll Y W)) (dv_addL (dv_var rfl g4) (by unfold none5; walk_at "dv") (Nat.le_of_ble_eq_true rfl)) fn fun w5 HM rM g5 => ?_)
      have rHM : RT (lawTs K) HH HM := ROk.trans (ROk.trans rI1 rJ) (ROk.trans rK (ROk.trans rL rM))
      -- one
      obtain ⟨on, hon⟩ : ∃ on, on = (noneAll Y W).getD (he / 4096 % 14).toNat .none := ⟨_, rfl⟩
      have onm : on ∈ noneAll Y W := by
        rw [hon, List.getD_eq_getElem?_getD, List.getElem?_eq_getElem (show (he / 4096 % 14).toNat < (noneAll Y W).length from (mod_nat (n := 14) (by decide)).2)]
        exact List.getElem_mem _
      refine s_seq (s_set (R := RT (lawTs K)) (K := K) (F := []) (d := on) (dv_ixL (ds := noneAll Y W) (dv_var rfl g5) (dv_mod (j := 14) (dv_div (dv_var rfl (show Da K _ (.int he) _ from rfl)) dv_int ⟨by decide, by decide⟩) (dv_lenL (ds := noneAll Y W) (dv_var rfl g5)) (by decide)) (by rw [hon]; exact at_mod _ (by decide) rfl)) fn fun vn HN rN gn => ?_)
      have rHN := ROk.trans rHM rN
      have gpN := r_da rHN gpH
      have gcN := r_da rHN gcH
      have tabN := rHN.2 tabH
      obtain ⟨on1, on2⟩ := none_no Y1.1 Y1.2 W1.1 W1.2 onm
      -- some = [told(painted(page, [.., one]))]
      refine s_seq (s_own (R := RT (lawTs K)) (K := K) (F := []) (ds := [refB]) (da_cons (dv_told (r := .error "BadPage") tabN (dx_call (ds := [lawPage (drawn m 1) W Y, .list [chg 0 0 (.tuple [celA]), on]]) (da_cons (dv_var rfl gpN) (da_cons (dv_lst (da_cons (by walk_at "dv") (da_cons (dv_var rfl gn) da_nil)) (Nat.le_of_ble_eq_true rfl)) da_nil)) ⟨_, _, rfl, pg2, ⟨Nat.le_of_ble_eq_true rfl, fun x hx => ?_⟩, ?_, rfl⟩ rfl) (fun c hc => by cases hc; decide)) da_nil) fn (by decide) fun l2 HO HP rO own6 xO => ?_)
      · rcases List.mem_cons.mp hx with z | z
        · rw [z]
          exact chgSm_of (by decide +kernel)
        · rw [List.mem_singleton.mp z]
          exact on2
      · rw [page_high, page_wide (by omega)]
        show (_ && (true && (isChange Y W (chg 0 0 (.tuple [celA])) && (isChange Y W on && true)))) = false
        rw [on1, Bool.false_and, Bool.and_false, Bool.and_false, Bool.and_false]
      have gpP := (r_da rO gpN).mono xO
      have gcP := (r_da rO gcN).mono xO
      have tabP := own6.r.2 (rO.2 tabN)
      refine s_seq (s_push own6 rfl (dv_told (r := .error "BadPage") tabP (dx_call (da_cons (dv_var rfl gpP) (da_cons dv_non da_nil)) ⟨_, _, rfl, pg2, ⟨Nat.le_of_ble_eq_true rfl, fun x hx => nomatch hx⟩, by rw [Bool.and_eq_false_imp]; exact fun _ => rfl, rfl⟩ rfl) (fun c hc => by cases hc; decide)) (by decide) fun HQ own7 x7 => ?_)
      have gpQ := gpP.mono x7
      have gcQ := gcP.mono x7
      have tabQ := own7.r.2 (rO.2 tabN)
      refine s_seq (s_push own7 rfl (dv_told (r := .error "BadPage") tabQ (dx_call (ds := [lawPage (drawn m 1) W Y, .tuple [chg 0 0 (.tuple [celA])]]) (da_cons (dv_var rfl gpQ) (da_cons (by walk_at "dv") da_nil)) ⟨_, _, rfl, pg2, ⟨Nat.le_of_ble_eq_true rfl, fun x hx => nomatch hx⟩, by rw [Bool.and_eq_false_imp]; exact fun _ => rfl, rfl⟩ rfl) (fun c hc => by cases hc; decide)) (by decide) fun HR own8 x8 => ?_)
      refine s_if (R := RT (lawTs K)) (F := []) (dt_is (dt_test (K := K) (dv_ne (dv_var rfl own8.da) (dv_repL (ds := [refB]) (by walk_at "dv") dv_int (by decide) (by decide) (by decide)) (by decide +kernel) (by decide +kernel))) (b := false) (by decide +kernel)) fn (fun z => nomatch z) fun _ HS rS => s_next ?_
      exact ⟨ROk.trans (ROk.trans r7 r79) (ROk.trans rAll (ROk.trans rHN (ROk.trans rO (ROk.trans own8.r rS)))), _, _, _, _, _, _, _, rfl⟩
    · rintro σ' H7 ⟨r7, p7, p8, p9, pa, pb, pc, pd, rfl⟩
      exact ⟨ROk.trans r15 r7, _, _, _, _, _, _, _, _, _, _, _, _, _, rfl⟩
  · rintro σ' H1 ⟨r1, o1, o2, o3, o4, o5, o6, o7, o8, o9, oa, ob, oc, od, rfl⟩
    exact q _
end
end Sc

namespace Sc
open PySem PySem.Spec PyProof.Rows L2
def d_is_sign : He.DefD := ⟨("is_sign", none), "is_sign", "is_sign", defArgs s_is_sign, defBody s_is_sign, defScope s_is_sign, [], []⟩
def d_is_count : He.DefD := ⟨("is_count", none), "is_count", "is_count", defArgs s_is_count, defBody s_is_count, defScope s_is_count, [], []⟩
def d_need : He.DefD := ⟨("need", none), "need", "need", defArgs s_need, defBody s_need, defScope s_need, [], []⟩
def d_is_pen : He.DefD := ⟨("is_pen", none), "is_pen", "is_pen", defArgs s_is_pen, defBody s_is_pen, defScope s_is_pen, [], []⟩
def d_is_cell : He.DefD := ⟨("is_cell", none), "is_cell", "is_cell", defArgs s_is_cell, defBody s_is_cell, defScope s_is_cell, [], []⟩
def d_need_page : He.DefD := ⟨("need_page", none), "need_page", "need_page", defArgs s_need_page, defBody s_need_page, defScope s_need_page, [], []⟩
def d_page_texts : He.DefD := ⟨("page_texts", none), "page_texts", "page_texts", defArgs s_page_texts, defBody s_page_texts, defScope s_page_texts, [], []⟩
def d_changes : He.DefD := ⟨("changes", none), "changes", "changes", defArgs s_changes, defBody s_changes, defScope s_changes, [], []⟩
def d_is_change : He.DefD := ⟨("is_change", none), "is_change", "is_change", defArgs s_is_change, defBody s_is_change, defScope s_is_change, [], []⟩
def d_painted : He.DefD := ⟨("painted", none), "painted", "painted", defArgs s_painted, defBody s_painted, defScope s_painted, [], []⟩
def d__law_cell : He.DefD := ⟨("_law_cell", none), "_law_cell", "_law_cell", defArgs s__law_cell, defBody s__law_cell, defScope s__law_cell, [], []⟩
def d__law_drawn : He.DefD := ⟨("_law_drawn", none), "_law_drawn", "_law_drawn", defArgs s__law_drawn, defBody s__law_drawn, defScope s__law_drawn, [], []⟩
def d__law_word : He.DefD := ⟨("_law_word", none), "_law_word", "_law_word", defArgs s__law_word, defBody s__law_word, defScope s__law_word, [], []⟩
def d__law_told : He.DefD := ⟨("_law_told", none), "_law_told", "_law_told", defArgs s__law_told, defBody s__law_told, defScope s__law_told, [], []⟩
def d__law_cell_drawn : He.DefD := ⟨("_law_cell_drawn", none), "_law_cell_drawn", "_law_cell_drawn", defArgs s__law_cell_drawn, defBody s__law_cell_drawn, defScope s__law_cell_drawn, [], []⟩
def d__law_page : He.DefD := ⟨("_law_page", none), "_law_page", "_law_page", defArgs s__law_page, defBody s__law_page, defScope s__law_page, [], []⟩
def d__law_no_pages : He.DefD := ⟨("_law_no_pages", none), "_law_no_pages", "_law_no_pages", defArgs s__law_no_pages, defBody s__law_no_pages, defScope s__law_no_pages, [], []⟩
def d_law : He.DefD := ⟨("law", none), "law", "law", defArgs s_law, defBody s_law, defScope s_law, [], []⟩
def fn0 : List He.DefD := [d_is_sign, d_is_count, d_need, d_is_pen, d_is_cell, d_need_page, d_page_texts, d_changes, d_is_change, d_painted, d__law_cell, d__law_drawn, d__law_word, d__law_told, d__law_cell_drawn, d__law_page, d__law_no_pages, d_law]
def fn : List He.DefD := fn0
def fa0 : List He.Fa := [.glo "ScreenError", .glo "BadText", .glo "BadSize", .glo "BadPlace", .glo "BadPage", .int "BARRED" 37, .str "GAP" "\n", .glo "is_sign", .int "MOST_COLOUR" 7, .int "MOST_MARKS" 3, .glo "is_count", .glo "need", .glo "is_pen", .glo "is_cell", .glo "need_page", .glo "page_texts", .glo "changes", .glo "is_change", .glo "painted", .glo "_law_cell", .glo "_law_drawn", .glo "_law_word", .glo "_law_told", .glo "_law_cell_drawn", .glo "_law_page"]
def fa1 : List He.Fa := [.glo "_law_no_pages", .glo "law", .free "ValueError", .free "all", .free "enumerate", .free "range", .free "isinstance", .free "int", .free "list", .free "max", .free "bool", .free "tuple", .free "len", .free "str", .free "sum", .free "min", .free "ord", .free "zip", .exc "ScreenError", .exm "ScreenError" "ScreenError" true, .exc "BadText", .exm "BadText" "ScreenError" true, .exc "BadSize", .exm "BadSize" "ScreenError" true, .exc "BadPlace"]
def fa2 : List He.Fa := [.exm "BadPlace" "ScreenError" true, .exc "BadPage", .exm "BadPage" "ScreenError" true]
def fa : List He.Fa := fa0 ++ fa1 ++ fa2
def loose0 : List Str := ["ScreenError", "BadText", "BadSize", "BadPlace", "BadPage", "BARRED", "GAP", "is_sign", "MOST_COLOUR", "MOST_MARKS", "is_count", "need", "is_pen", "is_cell", "need_page", "page_texts", "changes", "is_change", "painted", "_law_cell", "_law_drawn", "_law_word", "_law_told", "_law_cell_drawn", "_law_page"]
def loose1 : List Str := ["_law_no_pages"]
def loose : List Str := loose0 ++ loose1
def tf : List He.Defn := [("law", none)]
def ex (K : PySem.W.Frag) : Bool := wordB ["BadPage", "BadPlace", "BadSize", "BadText"] K
abbrev RR : PySem.W.OpenRow := PySem.W.OpenLaw.row PySem.Challenge.rw_steerscreen_k21_pages_refused
abbrev hk : PySem.W.Hook := He.hookX 5 fa fn [] tf ex
def ob (s : PySem.W.SharedT) : He.AlX := He.obsX 5 fa fn [] tf ex (HandSHeadRun.getT s)
theorem ob_eq (s : PySem.W.SharedT) : ob s = hk.obs s.abs := He.obsX_eq (HandSHeadRun.getT_eq s)
theorem run (w : World) : HandSHeadRun.RunEq RR (PySem.W.view RR.prog [30]) hk ob 20000 loose w := by
  intro os
  kernel_rfl
theorem gt_of {w : World} {h : Heap} {K : PySem.W.Frag} {mg : Str → Option Value} (X : K.In h) (G : h.Ns mainGlobals mg) (c : He.SaysX fa fn [] tf ex w h K) : GT K mg :=
  ⟨He.glo_ok X G (c.t.d.fact 0 (f := .glo "ScreenError") rfl),
   He.glo_ok X G (c.t.d.fact 1 (f := .glo "BadText") rfl),
   He.glo_ok X G (c.t.d.fact 2 (f := .glo "BadSize") rfl),
   He.glo_ok X G (c.t.d.fact 3 (f := .glo "BadPlace") rfl),
   He.glo_ok X G (c.t.d.fact 4 (f := .glo "BadPage") rfl),
   He.int_ok X G (c.t.d.fact 5 (f := .int "BARRED" 37) rfl),
   He.str_ok X G (c.t.d.fact 6 (f := .str "GAP" "\n") rfl),
   He.glo_ok X G (c.t.d.fact 7 (f := .glo "is_sign") rfl),
   He.int_ok X G (c.t.d.fact 8 (f := .int "MOST_COLOUR" 7) rfl),
   He.int_ok X G (c.t.d.fact 9 (f := .int "MOST_MARKS" 3) rfl),
   He.glo_ok X G (c.t.d.fact 10 (f := .glo "is_count") rfl),
   He.glo_ok X G (c.t.d.fact 11 (f := .glo "need") rfl),
   He.glo_ok X G (c.t.d.fact 12 (f := .glo "is_pen") rfl),
   He.glo_ok X G (c.t.d.fact 13 (f := .glo "is_cell") rfl),
   He.glo_ok X G (c.t.d.fact 14 (f := .glo "need_page") rfl),
   He.glo_ok X G (c.t.d.fact 15 (f := .glo "page_texts") rfl),
   He.glo_ok X G (c.t.d.fact 16 (f := .glo "changes") rfl),
   He.glo_ok X G (c.t.d.fact 17 (f := .glo "is_change") rfl),
   He.glo_ok X G (c.t.d.fact 18 (f := .glo "painted") rfl),
   He.glo_ok X G (c.t.d.fact 19 (f := .glo "_law_cell") rfl),
   He.glo_ok X G (c.t.d.fact 20 (f := .glo "_law_drawn") rfl),
   He.glo_ok X G (c.t.d.fact 21 (f := .glo "_law_word") rfl),
   He.glo_ok X G (c.t.d.fact 22 (f := .glo "_law_told") rfl),
   He.glo_ok X G (c.t.d.fact 23 (f := .glo "_law_cell_drawn") rfl),
   He.glo_ok X G (c.t.d.fact 24 (f := .glo "_law_page") rfl),
   He.glo_ok X G (c.t.d.fact 25 (f := .glo "_law_no_pages") rfl),
   He.glo_ok X G (c.t.d.fact 26 (f := .glo "law") rfl),
   He.free_ok X G (c.t.d.fact 27 (f := .free "ValueError") rfl),
   He.free_ok X G (c.t.d.fact 28 (f := .free "all") rfl),
   He.free_ok X G (c.t.d.fact 29 (f := .free "enumerate") rfl),
   He.free_ok X G (c.t.d.fact 30 (f := .free "range") rfl),
   He.free_ok X G (c.t.d.fact 31 (f := .free "isinstance") rfl),
   He.free_ok X G (c.t.d.fact 32 (f := .free "int") rfl),
   He.free_ok X G (c.t.d.fact 33 (f := .free "list") rfl),
   He.free_ok X G (c.t.d.fact 34 (f := .free "max") rfl),
   He.free_ok X G (c.t.d.fact 35 (f := .free "bool") rfl),
   He.free_ok X G (c.t.d.fact 36 (f := .free "tuple") rfl),
   He.free_ok X G (c.t.d.fact 37 (f := .free "len") rfl),
   He.free_ok X G (c.t.d.fact 38 (f := .free "str") rfl),
   He.free_ok X G (c.t.d.fact 39 (f := .free "sum") rfl),
   He.free_ok X G (c.t.d.fact 40 (f := .free "min") rfl),
   He.free_ok X G (c.t.d.fact 41 (f := .free "ord") rfl),
   He.free_ok X G (c.t.d.fact 42 (f := .free "zip") rfl),
   He.exc_ok (c.t.d.fact 43 (f := .exc "ScreenError") rfl),
   He.exm_ok (c.t.d.fact 44 (f := .exm "ScreenError" "ScreenError" true) rfl),
   He.exc_ok (c.t.d.fact 45 (f := .exc "BadText") rfl),
   He.exm_ok (c.t.d.fact 46 (f := .exm "BadText" "ScreenError" true) rfl),
   He.exc_ok (c.t.d.fact 47 (f := .exc "BadSize") rfl),
   He.exm_ok (c.t.d.fact 48 (f := .exm "BadSize" "ScreenError" true) rfl),
   He.exc_ok (c.t.d.fact 49 (f := .exc "BadPlace") rfl),
   He.exm_ok (c.t.d.fact 50 (f := .exm "BadPlace" "ScreenError" true) rfl),
   He.exc_ok (c.t.d.fact 51 (f := .exc "BadPage") rfl),
   He.exm_ok (c.t.d.fact 52 (f := .exm "BadPage" "ScreenError" true) rfl),
   c.t.d.def_ 0 (d := d_is_sign) rfl,
   c.t.d.def_ 1 (d := d_is_count) rfl,
   c.t.d.def_ 2 (d := d_need) rfl,
   c.t.d.def_ 3 (d := d_is_pen) rfl,
   c.t.d.def_ 4 (d := d_is_cell) rfl,
   c.t.d.def_ 5 (d := d_need_page) rfl,
   c.t.d.def_ 6 (d := d_page_texts) rfl,
   c.t.d.def_ 7 (d := d_changes) rfl,
   c.t.d.def_ 8 (d := d_is_change) rfl,
   c.t.d.def_ 9 (d := d_painted) rfl,
   c.t.d.def_ 10 (d := d__law_cell) rfl,
   c.t.d.def_ 11 (d := d__law_drawn) rfl,
   c.t.d.def_ 12 (d := d__law_word) rfl,
   c.t.d.def_ 13 (d := d__law_told) rfl,
   c.t.d.def_ 14 (d := d__law_cell_drawn) rfl,
   c.t.d.def_ 15 (d := d__law_page) rfl,
   c.t.d.def_ 16 (d := d__law_no_pages) rfl,
   c.t.d.def_ 17 (d := d_law) rfl,
   wordB_of c.more⟩
end Sc
namespace Sc
open PySem PySem.Spec PyProof.Rows L2
theorem facts {w : World} {K : PySem.W.Frag} {h : Heap} {mg : Str → Option Value} {f : Addr} (X : K.In h) (G : h.Ns mainGlobals mg) (hfa : mg ("law" : Str) = some (.ref f)) (c : He.SaysX fa fn [] tf ex w h K) : LamX.LawAtS PySem.Challenge.rw_steerscreen_k21_pages_refused w K CX0 9 63 "script" mg f h := by
  have T := gt_of X G c
  obtain ⟨fd, FD⟩ := T.f_law
  have e := hfa.symm.trans T.g_law
  cases e
  have one : ∀ p ∈ lawDs, p ∈ tf := fun p hp => hp
  refine ⟨fd, lawDs.map (He.cT K), spLaw K (lawTs K), fun p hp => ?_, fun p hp => ?_, fun p hp => ?_, fun s u => FD.bindsA (ps := ["script"]) (fun _ _ _ _ _ _ us hl => match us, hl with | [_], _ => rfl) s [u] rfl, fun H a ns hl hb hH hS => ⟨a, ns, rfl, hS, hl, hb, fun p hp => ?_, fun _ => rfl⟩, fun base _ _ hTB => c_law T (fun p hp => hTB _ (List.mem_map.mpr ⟨p, hp, rfl⟩)) FD⟩
  · obtain ⟨d, hd, rfl⟩ := List.mem_map.mp hp
    exact c.empty d (one d hd)
  · obtain ⟨d, hd, rfl⟩ := List.mem_map.mp hp
    exact c.out d (one d hd)
  · obtain ⟨d, hd, rfl⟩ := List.mem_map.mp hp
    exact PySem.W.codeHd_of_K X (c.hd d (one d hd))
  · obtain ⟨d, hd, rfl⟩ := List.mem_map.mp hp
    exact LamX.TabS.nil (hH _ (List.mem_map.mpr ⟨d, hd, rfl⟩))
end Sc
open PySem PySem.W PySem.Calls PyProof.Rows
theorem PySem.Challenge.cw_steerscreen_k21_pages_refused_holds : PySem.Challenge.rw_steerscreen_k21_pages_refused.Holds := by
  w_on; o_law
  refine HandSHeadRun.head_any (r := Sc.RR) (q := view Sc.RR.prog [30]) (H := Sc.hk) (ob := Sc.ob) (M := 20000) (loose := Sc.loose) (d := HandSHeadRun.topDef Sc.RR.prog 30) (kwd := []) Sc.ob_eq
    (by kernel_rfl) (fun s => by kernel_rfl) Sc.run (by kernel_rfl) (by kernel_rfl) (by kernel_rfl) (by rfl) (by first | assumption | decide +kernel) (by decide +kernel) ⟨rfl, rfl, rfl, rfl, rfl, by decide +kernel⟩ ?hw ?hc
  case hw => w_witness2
  case hc =>
    refine LamX.walk_ofTsE (l := PySem.Challenge.rw_steerscreen_k21_pages_refused) (n := 63) (k := 9) (x := "script") (CX := fun _ => L2.CX0) rfl (by decide) (by kernel_rfl) ⟨rfl, by decide, by decide⟩ ?F (fun _ _ _ _ _ z => z)
    intro w mg fa h Y G hmg0
    obtain ⟨K, KX, c⟩ := Y
    have hmg : mg ("law" : PySem.Str) = some (.ref fa) := by
      have e : (HandSHeadRun.topDef Sc.RR.prog 30).name = ("law" : PySem.Str) := by kernel_rfl
      rw [← e]
      exact hmg0
    exact ⟨K, KX, Sc.facts KX G hmg c⟩
