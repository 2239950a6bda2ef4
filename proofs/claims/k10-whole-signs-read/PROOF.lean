import PyProof.Rows.All
import Wide.All
import OpenK.AllK
import Wide.FinOn
import HandS.ForMost
import HandS.Walk
import HandS.IsInst
import HandS.Zip
import HandS.Wide
import HandS.TupMul
import HandS.Lambda
import HandS.HotCalls
import HandS.ExcIs
import HandS.Flow
import HandS.StrMore
import HandS.Defaults
import HandS.ExcCtx
import HandS.HeadHook1
import KE.GoesMore
import KE.GoesComp
import HandS.EndTab
import HandS.HeadWalk
import HandS.HeadHook4
import HandS.Text
import HandS.ReplaceLit
import HandS.ReplaceList
import KE.IntTextLaws
import KE.IntTextText
import HandS.Dict
import KE.KStateDown
import Lean
import HandS.Head0
import HandS.Head1
import HandS.Head2
import HandS.HeadEnd
import PySem.Challenge.RW_steerscreen_k10_whole_signs_read
set_option Elab.async false
set_option linter.all false
set_option maxRecDepth 100000
set_option maxHeartbeats 4000000
namespace Sc
open PySem PySem.Spec PyProof.Rows L2

/-! ### data in the abstract heap: lists stand in it, tuples stand in it or in the written part -/
mutual
def Da (K : PySem.W.Frag) (H : Hp) : PyData → V → Prop
  | .none, v => v = .non
  | .bool b, v => v = .bl b
  | .int i, v => v = .int i
  | .str x, v => v = .str x
  | .list ds, v => ∃ a xs, v = .ref a ∧ H a = some (.lst xs) ∧ DaL K H ds xs
  | .tuple ds, v => ∃ a xs, v = .ref a ∧ SqT K H a xs ∧ DaL K H ds xs
  | .dict _, _ => False
def DaL (K : PySem.W.Frag) (H : Hp) : List PyData → List V → Prop
  | [], vs => vs = []
  | d :: ds, vs => ∃ w r, vs = w :: r ∧ Da K H d w ∧ DaL K H ds r
end
/-- all that is no table stays -/
abbrev Xt := LamX.ExtN
theorem xt_sqT {K : PySem.W.Frag} {H H' : Hp} {a : Addr} {xs : List V} (e : Xt H H') (h : SqT K H a xs) : SqT K H' a xs := by
  rcases h with (h | ⟨o, h⟩) | h
  · exact .inl (.inl (e _ _ h fun ps z => by cases z))
  · exact .inl (.inr ⟨o, e _ _ h fun ps z => by cases z⟩)
  · exact .inr h
theorem xt_sqL {K : PySem.W.Frag} {H H' : Hp} {a : Addr} {xs : List V} (e : Xt H H') (h : SqL K H a xs) : SqL K H' a xs := by
  rcases h with (h | ⟨o, h⟩) | h
  · exact .inl (.inl (e _ _ h fun ps z => by cases z))
  · exact .inl (.inr ⟨o, e _ _ h fun ps z => by cases z⟩)
  · exact .inr h
mutual
theorem Da.mono {K : PySem.W.Frag} {H H' : Hp} (e : Xt H H') : ∀ {d : PyData} {v : V}, Da K H d v → Da K H' d v
  | .none, _, h => h
  | .bool _, _, h => h
  | .int _, _, h => h
  | .str _, _, h => h
  | .list ds, _, h => by
    obtain ⟨a, xs, h1, h2, h3⟩ := h
    exact ⟨a, xs, h1, e _ _ h2 (fun ps z => by cases z), DaL.mono e h3⟩
  | .tuple ds, _, h => by
    obtain ⟨a, xs, h1, h2, h3⟩ := h
    exact ⟨a, xs, h1, xt_sqT e h2, DaL.mono e h3⟩
  | .dict _, _, h => h
theorem DaL.mono {K : PySem.W.Frag} {H H' : Hp} (e : Xt H H') : ∀ {ds : List PyData} {vs : List V}, DaL K H ds vs → DaL K H' ds vs
  | [], _, h => h
  | d :: ds, _, h => by
    obtain ⟨w, r, h1, h2, h3⟩ := h
    exact ⟨w, r, h1, Da.mono e h2, DaL.mono e h3⟩
end
mutual
theorem Da.dp {K : PySem.W.Frag} {H : Hp} : ∀ {d : PyData} {v : V}, Da K H d v → Dp K H v d
  | .none, _, h => by cases h; exact .non
  | .bool _, _, h => by cases h; exact .bl _
  | .int _, _, h => by cases h; exact .int _
  | .str _, _, h => by cases h; exact .str _
  | .list ds, _, h => by
    obtain ⟨a, xs, h1, h2, h3⟩ := h
    cases h1
    exact .lst (SqL.of h2) (DaL.dp h3)
  | .tuple ds, _, h => by
    obtain ⟨a, xs, h1, h2, h3⟩ := h
    cases h1
    exact .tup h2 (DaL.dp h3)
  | .dict _, _, h => h.elim
theorem DaL.dp {K : PySem.W.Frag} {H : Hp} : ∀ {ds : List PyData} {vs : List V}, DaL K H ds vs → DpAll K H vs ds
  | [], _, h => by cases h; exact .nil
  | d :: ds, _, h => by
    obtain ⟨w, r, h1, h2, h3⟩ := h
    cases h1
    exact .cons (Da.dp h2) (DaL.dp h3)
end
theorem DaL.length {K : PySem.W.Frag} {H : Hp} : ∀ {ds : List PyData} {vs : List V}, DaL K H ds vs → vs.length = ds.length
  | [], _, h => by cases h; rfl
  | d :: ds, _, h => by
    obtain ⟨w, r, h1, _, h3⟩ := h
    cases h1
    exact congrArg Nat.succ (DaL.length h3)
theorem DaL.get {K : PySem.W.Frag} {H : Hp} : ∀ {ds : List PyData} {vs : List V} {i : Nat} {d : PyData}, DaL K H ds vs → ds[i]? = some d → ∃ v, vs[i]? = some v ∧ Da K H d v
  | [], _, _, _, _, e => by simp at e
  | d :: ds, _, 0, _, h, e => by
    obtain ⟨w, r, h1, h2, h3⟩ := h
    cases h1
    have e' : d = _ := Option.some.inj e
    subst e'
    exact ⟨w, rfl, h2⟩
  | d :: ds, _, i + 1, _, h, e => by
    obtain ⟨w, r, h1, h2, h3⟩ := h
    cases h1
    exact DaL.get (i := i) h3 e
theorem DaL.get' {K : PySem.W.Frag} {H : Hp} : ∀ {ds : List PyData} {vs : List V} {i : Nat} {v : V}, DaL K H ds vs → vs[i]? = some v → ∃ d, ds[i]? = some d ∧ Da K H d v
  | [], _, _, _, h, e => by cases h; simp at e
  | d :: ds, _, 0, _, h, e => by
    obtain ⟨w, r, h1, h2, h3⟩ := h
    cases h1
    have e' : w = _ := Option.some.inj e
    subst e'
    exact ⟨d, rfl, h2⟩
  | d :: ds, _, i + 1, _, h, e => by
    obtain ⟨w, r, h1, h2, h3⟩ := h
    cases h1
    exact DaL.get' (i := i) h3 e
theorem DaL.append {K : PySem.W.Frag} {H : Hp} : ∀ {ds es : List PyData} {vs us : List V}, DaL K H ds vs → DaL K H es us → DaL K H (ds ++ es) (vs ++ us)
  | [], _, _, _, h, g => by cases h; exact g
  | d :: ds, _, _, _, h, g => by
    obtain ⟨w, r, h1, h2, h3⟩ := h
    cases h1
    exact ⟨w, _, rfl, h2, DaL.append h3 g⟩
theorem DaL.snoc {K : PySem.W.Frag} {H : Hp} {ds : List PyData} {d : PyData} {vs : List V} {v : V} (h : DaL K H ds vs) (g : Da K H d v) : DaL K H (ds ++ [d]) (vs ++ [v]) := h.append ⟨v, [], rfl, g, rfl⟩
theorem DaL.take {K : PySem.W.Frag} {H : Hp} : ∀ (n : Nat) {ds : List PyData} {vs : List V}, DaL K H ds vs → DaL K H (ds.take n) (vs.take n)
  | 0, _, _, _ => rfl
  | n + 1, [], _, h => by cases h; rfl
  | n + 1, d :: ds, _, h => by
    obtain ⟨w, r, h1, h2, h3⟩ := h
    cases h1
    exact ⟨w, _, rfl, h2, DaL.take n h3⟩
theorem DaL.drop {K : PySem.W.Frag} {H : Hp} : ∀ (n : Nat) {ds : List PyData} {vs : List V}, DaL K H ds vs → DaL K H (ds.drop n) (vs.drop n)
  | 0, _, _, h => h
  | n + 1, [], _, h => by cases h; rfl
  | n + 1, d :: ds, _, h => by
    obtain ⟨w, r, h1, h2, h3⟩ := h
    cases h1
    exact DaL.drop n h3
theorem DaL.set {K : PySem.W.Frag} {H : Hp} {d : PyData} {v : V} (g : Da K H d v) : ∀ (n : Nat) {ds : List PyData} {vs : List V}, DaL K H ds vs → DaL K H (ds.set n d) (vs.set n v)
  | _, [], _, h => by cases h; rfl
  | 0, _ :: ds, _, h => by
    obtain ⟨w, r, h1, h2, h3⟩ := h
    cases h1
    exact ⟨v, r, rfl, g, h3⟩
  | n + 1, _ :: ds, _, h => by
    obtain ⟨w, r, h1, h2, h3⟩ := h
    cases h1
    exact ⟨w, _, rfl, h2, DaL.set g n h3⟩
theorem DaL.rep {K : PySem.W.Frag} {H : Hp} {ds : List PyData} {vs : List V} (h : DaL K H ds vs) : ∀ k : Nat, DaL K H (List.replicate k ds).flatten (List.replicate k vs).flatten
  | 0 => rfl
  | k + 1 => by
    rw [List.replicate_succ, List.replicate_succ, List.flatten_cons, List.flatten_cons]
    exact h.append (DaL.rep h k)
theorem DaL.ints {K : PySem.W.Frag} {H : Hp} : ∀ (ns : List Int), DaL K H (ns.map PyData.int) (ns.map V.int)
  | [] => rfl
  | n :: ns => ⟨.int n, _, rfl, rfl, DaL.ints ns⟩
theorem DaL.bools {K : PySem.W.Frag} {H : Hp} : ∀ {bs : List Bool} {vs : List V}, DaL K H (bs.map PyData.bool) vs → vs = bs.map V.bl
  | [], _, h => h
  | b :: bs, _, h => by
    obtain ⟨w, r, h1, h2, h3⟩ := h
    have h2 : w = V.bl b := h2
    rw [h1, h2, DaL.bools h3]
    rfl

/-! ### the heap without an owner's own things -/
def hid (F : List Addr) (H : Hp) : Hp := fun b => if b ∈ F then none else H b
theorem hid_in {F : List Addr} {H : Hp} {b : Addr} (h : b ∈ F) : hid F H b = none := if_pos h
theorem hid_out {F : List Addr} {H : Hp} {b : Addr} (h : b ∉ F) : hid F H b = H b := if_neg h
theorem hid_nil (H : Hp) : hid [] H = H := funext fun b => if_neg (by simp)
theorem hid_le {F : List Addr} {H : Hp} {b : Addr} {o : HO} (h : hid F H b = some o) : H b = some o ∧ b ∉ F := by
  by_cases hb : b ∈ F
  · rw [hid_in hb] at h; cases h
  · rw [hid_out hb] at h; exact ⟨h, hb⟩
theorem hid_xt {F : List Addr} {H H' : Hp} (e : Xt H H') : Xt (hid F H) (hid F H') := fun b o h n => by
  obtain ⟨h1, h2⟩ := hid_le h
  rw [hid_out h2]
  exact e b o h1 n
theorem hid_sub {F G : List Addr} {H : Hp} (h : ∀ b ∈ F, b ∈ G) : Xt (hid G H) (hid F H) := fun b o e _ => by
  obtain ⟨h1, h2⟩ := hid_le e
  rw [hid_out fun z => h2 (h b z)]
  exact h1
theorem xt_hid {F : List Addr} {H : Hp} : Xt (hid F H) H := fun b o e _ => (hid_le e).1
/-- what may change -/
def isMut : HO → Prop
  | .lst _ => True
  | .ins _ _ _ => True
  | .dK _ => True
  | .dT _ => True
  | _ => False
theorem isMut.no {o : HO} (h : isMut o) (ps : Array Value) : o ≠ .tbl ps := fun z => by rw [z] at h; exact h
/-- the owner's things are there, and may change -/
def Fd (F : List Addr) (H : Hp) : Prop := ∀ a ∈ F, ∃ o, H a = some o ∧ isMut o
theorem Fd.nil {H : Hp} : Fd [] H := fun a h => nomatch h
theorem Fd.mono {F : List Addr} {H H' : Hp} (e : Xt H H') (h : Fd F H) : Fd F H' := fun a ha => let ⟨o, h1, h2⟩ := h a ha; ⟨o, e a o h1 h2.no, h2⟩
theorem Fd.new {F : List Addr} {H : Hp} (h : Fd F H) {p : Addr} (hp : H p = none) : p ∉ F := fun z => by
  obtain ⟨o, e, _⟩ := h p z
  rw [hp] at e; cases e
theorem Fd.cons {F : List Addr} {H : Hp} {p : Addr} {xs : List V} (h : Fd F H) (hp : H p = some (.lst xs)) (hn : ∀ ps, HO.lst xs ≠ .tbl ps) : Fd (p :: F) H := fun a ha => by
  rcases List.mem_cons.mp ha with e | e
  · rw [e]; exact ⟨_, hp, trivial⟩
  · exact h a e
theorem hid_upd {F : List Addr} {H : Hp} {p : Addr} {o : HO} (h : p ∉ F) : hid F (upd H p o) = upd (hid F H) p o := by
  funext b
  by_cases hb : b ∈ F
  · have hne : b ≠ p := fun z => h (by rw [← z]; exact hb)
    rw [hid_in hb, upd_ne hne, hid_in hb]
  · rw [hid_out hb]
    unfold upd
    rw [hid_out hb]
theorem same_new {H : Hp} {p : Addr} {o : HO} (h : H p = none) : Same H (upd H p o) := fun b u e => by
  rw [upd_ne (ne_of_none e h)]
  exact e
theorem xt_of {H H' : Hp} (s : Same H H') : Xt H H' := fun b o h _ => s b o h

/-! ### how heaps go on -/
class ROk (R : Hp → Hp → Prop) : Prop where
  refl : ∀ H, R H H
  trans : ∀ {H1 H2 H3}, R H1 H2 → R H2 H3 → R H1 H3
  same : ∀ {H H'}, Same H H' → R H H'
  ext : ∀ {H H'}, R H H' → Xt H H'
  chg : ∀ {H H'} {p : Addr} {xs ys : List V}, H p = none → H' p = some (.lst xs) → R H H' → R H (upd H' p (.lst ys))
instance rok_same : ROk Same := ⟨Same.refl, Same.trans, id, xt_of, fun hp _ s b o e => by
  rw [upd_ne (ne_of_none e hp)]
  exact s b o e⟩

/-! ### what evaluates to what: R how heaps go on, F the owner's things; from every later heap -/
section
variable (R : Hp → Hp → Prop) (K : PySem.W.Frag) (F : List Addr)
def DV (te : TE) (σ : L2.St) (H : Hp) (d : PyData) : Prop := ∀ H1, R H H1 → Fd F H1 → ∀ Q : VK, (∀ v H2, R H1 H2 → Da K (hid F H2) d v → Q v H2) → te σ H1 Q
def VV (te : TE) (σ : L2.St) (H : Hp) (v : V) : Prop := ∀ H1, R H H1 → Fd F H1 → ∀ Q : VK, (∀ H2, R H1 H2 → Q v H2) → te σ H1 Q
def DT (tt : TT) (σ : L2.St) (H : Hp) (b : Bool) : Prop := ∀ H1, R H H1 → Fd F H1 → ∀ Q : Bool → Hp → Prop, (∀ H2, R H1 H2 → Q b H2) → tt σ H1 Q
def DA (ta : TA) (σ : L2.St) (H : Hp) (ds : List PyData) : Prop := ∀ H1, R H H1 → Fd F H1 → ∀ Q : List V → Hp → Prop, (∀ vs H2, R H1 H2 → DaL K (hid F H2) ds vs → Q vs H2) → ta σ H1 Q
def DO (to : TO) (σ : L2.St) (H : Hp) (o : Option Int) : Prop := ∀ H1, R H H1 → Fd F H1 → ∀ Q : Option Int → Hp → Prop, (∀ H2, R H1 H2 → Q o H2) → to σ H1 Q
/-- a def's promise: of these data that datum -/
def SD (sp : Sp) (ds : List PyData) (d : PyData) : Prop := ∀ (F : List Addr) (vs : List V) (H : Hp), Fd F H → DaL K (hid F H) ds vs → ∀ (Q : VK) (E : XK), (∀ v H', Same H H' → Da K (hid F H') d v → Q v H') → sp vs H Q E
end
section
variable {R : Hp → Hp → Prop} [ROk R] {K : PySem.W.Frag} {F : List Addr} {σ : L2.St} {H H' : Hp} {ta tb te : TE} {d : PyData} {v : V}
theorem r_refl (H : Hp) : R H H := ROk.refl H
theorem r_da {d : PyData} {v : V} (r : R H H') (h : Da K (hid F H) d v) : Da K (hid F H') d v := h.mono (hid_xt (ROk.ext r))
theorem r_dal {ds : List PyData} {vs : List V} (r : R H H') (h : DaL K (hid F H) ds vs) : DaL K (hid F H') ds vs := h.mono (hid_xt (ROk.ext r))
theorem r_fd (r : R H H') (h : Fd F H) : Fd F H' := h.mono (ROk.ext r)
theorem r_new {H : Hp} {p : Addr} {o : HO} (h : H p = none) : R H (upd H p o) := ROk.same (same_new h)
theorem DV.mono (r : R H H') (h : DV R K F te σ H d) : DV R K F te σ H' d := fun H1 a => h H1 (ROk.trans r a)
theorem DA.mono {ta : TA} {ds : List PyData} (r : R H H') (h : DA R K F ta σ H ds) : DA R K F ta σ H' ds := fun H1 a => h H1 (ROk.trans r a)
theorem DT.mono {t : TT} {b : Bool} (r : R H H') (h : DT R F t σ H b) : DT R F t σ H' b := fun H1 a => h H1 (ROk.trans r a)
theorem VV.mono (r : R H H') (h : VV R F te σ H v) : VV R F te σ H' v := fun H1 a => h H1 (ROk.trans r a)
/-- a datum that is its value -/
def sclV : PyData → Option V
  | .none => some .non
  | .bool b => some (.bl b)
  | .int i => some (.int i)
  | .str x => some (.str x)
  | _ => none
theorem scl_eq {H : Hp} (h : sclV d = some v) {w : V} : Da K H d w ↔ w = v := by
  cases d <;> simp only [sclV] at h <;> cases h <;> exact Iff.rfl
theorem VV.dv (h : VV R F te σ H v) (e : sclV d = some v) : DV R K F te σ H d := fun H1 a f Q q => h H1 a f Q fun H2 r => q v H2 r ((scl_eq e).mpr rfl)
theorem DV.vv (h : DV R K F te σ H d) (e : sclV d = some v) : VV R F te σ H v := fun H1 a f Q q => h H1 a f Q fun w H2 r z => by
  rw [(scl_eq e).mp z]
  exact q H2 r
/-- a value that is known -/
theorem VV.da (h : VV R F te σ H v) (e : Da K (hid F H) d v) : DV R K F te σ H d := fun H1 a f Q q => h H1 a f Q fun H2 r => q v H2 r (r_da (ROk.trans a r) e)
theorem vv_var {i : Nat} (h : σ[i]? = some (some v)) : VV R F (tVar i) σ H v := fun H1 _ _ _ q => ⟨v, h, q H1 (r_refl H1)⟩
theorem vv_c : VV R F (tC v) σ H v := fun H1 _ _ _ q => q H1 (r_refl H1)
theorem dv_var {i : Nat} (h : σ[i]? = some (some v)) (e : Da K (hid F H) d v) : DV R K F (tVar i) σ H d := (vv_var h).da e
theorem dv_c (e : Da K (hid F H) d v) : DV R K F (tC v) σ H d := vv_c.da e
theorem dv_int {i : Int} : DV R K F (tC (.int i)) σ H (.int i) := vv_c.dv rfl
theorem dv_str {x : Str} : DV R K F (tC (.str x)) σ H (.str x) := vv_c.dv rfl
theorem dv_bl {b : Bool} : DV R K F (tC (.bl b)) σ H (.bool b) := vv_c.dv rfl
theorem dv_non : DV R K F (tC .non) σ H .none := vv_c.dv rfl
/-! arguments, displays -/
theorem da_nil : DA R K F tNil σ H [] := fun H1 _ _ _ q => q [] H1 (r_refl H1) rfl
theorem da_cons {tr : TA} {ds : List PyData} (h : DV R K F ta σ H d) (hr : DA R K F tr σ H ds) : DA R K F (tCons ta tr) σ H (d :: ds) := fun H1 a f _ q =>
  h H1 a f _ fun v H2 r2 hv => hr H2 (ROk.trans a r2) (r_fd r2 f) _ fun vs H3 r3 hvs => q (v :: vs) H3 (ROk.trans r2 r3) ⟨v, vs, rfl, r_da r3 hv, hvs⟩
theorem da_new {H : Hp} {p : Addr} {ds : List PyData} {vs : List V} (f : Fd F H) (hp : H p = none) (h : DaL K (hid F H) ds vs) : Da K (hid F (upd H p (.lst vs))) (.list ds) (.ref p) :=
  ⟨p, vs, rfl, by rw [hid_upd (f.new hp), upd_same], h.mono (hid_xt (xt_of (same_new hp)))⟩
theorem da_newT {H : Hp} {p : Addr} {ds : List PyData} {vs : List V} (f : Fd F H) (hp : H p = none) (h : DaL K (hid F H) ds vs) : Da K (hid F (upd H p (.tup vs))) (.tuple ds) (.ref p) :=
  ⟨p, vs, rfl, SqT.of (by rw [hid_upd (f.new hp), upd_same]), h.mono (hid_xt (xt_of (same_new hp)))⟩
theorem dv_tup {ta : TA} {ds : List PyData} (h : DA R K F ta σ H ds) (hl : ds.length ≤ sizeLine) : DV R K F (tTup ta) σ H (.tuple ds) := fun H1 a f _ q =>
  h H1 a f _ fun vs H2 r2 hv => ⟨by rw [hv.length]; exact hl, fun p hp => q _ _ (ROk.trans r2 (r_new hp)) (da_newT (r_fd r2 f) hp hv)⟩
theorem dv_lst {ta : TA} {ds : List PyData} (h : DA R K F ta σ H ds) (hl : ds.length ≤ sizeLine) : DV R K F (tLst ta) σ H (.list ds) := fun H1 a f _ q =>
  h H1 a f _ fun vs H2 r2 hv => ⟨by rw [hv.length]; exact hl, fun p hp => q _ _ (ROk.trans r2 (r_new hp)) (da_new (r_fd r2 f) hp hv)⟩
/-! operators -/
theorem dv_op2 {r : R2} {d1 d2 : PyData} (ha : DV R K F ta σ H d1) (hb : DV R K F tb σ H d2)
    (hr : ∀ x y H1 Q, R H H1 → Fd F H1 → Da K (hid F H1) d1 x → Da K (hid F H1) d2 y → (∀ v H2, R H1 H2 → Da K (hid F H2) d v → Q v H2) → r x y H1 Q) : DV R K F (tOp r ta tb) σ H d := fun H1 a f Q q =>
  ha H1 a f _ fun x H2 r2 hx => hb H2 (ROk.trans a r2) (r_fd r2 f) _ fun y H3 r3 hy => hr x y H3 Q (ROk.trans a (ROk.trans r2 r3)) (r_fd r3 (r_fd r2 f)) (r_da r3 hx) hy fun v H4 r4 hv => q v H4 (ROk.trans (ROk.trans r2 r3) r4) hv
/-- an operation on values that leaves the heap -/
theorem dv_op {r : R2} {d1 d2 : PyData} {x y z : V} (ha : DV R K F ta σ H d1) (hb : DV R K F tb σ H d2) (e1 : sclV d1 = some x) (e2 : sclV d2 = some y) (e : sclV d = some z) (hr : ∀ H1 (Q : VK), Q z H1 → r x y H1 Q) : DV R K F (tOp r ta tb) σ H d :=
  dv_op2 ha hb fun x' y' H1 Q _ f hx hy q => by
    rw [(scl_eq e1).mp hx, (scl_eq e2).mp hy]
    exact hr H1 Q (q z H1 (r_refl H1) ((scl_eq e).mpr rfl))
/-! + - * // % -/
def rPlus (K : PySem.W.Frag) : R2 := fun x y H Q => rI0 (fun i j => V.int (i + j)) x y H Q ∨ (∃ i j, x = .str i ∧ y = .str j ∧ i.length + j.length ≤ sizeLine ∧ Q (.str (i ++ j)) H) ∨ rCat x y H Q ∨ rCatT K x y H Q
def rTimes (K : PySem.W.Frag) : R2 := fun x y H Q => rI CMul (fun i j => V.int (i * j)) x y H Q ∨ rI CMulW (fun i j => V.int (i * j)) x y H Q ∨ rRep x y H Q ∨ rRepT K x y H Q
def rLeq : R2 := fun x y H Q => rI0 (fun i j => V.bl (decide (i ≤ j))) x y H Q ∨ (∃ i j, x = .str i ∧ y = .str j ∧ Q (.bl (!decide (j.cps.toList < i.cps.toList))) H)
theorem dv_addI {i j : Int} (ha : DV R K F ta σ H (.int i)) (hb : DV R K F tb σ H (.int j)) : DV R K F (tOp (rPlus K) ta tb) σ H (.int (i + j)) :=
  dv_op ha hb rfl rfl rfl fun H1 Q q => .inl ⟨i, j, rfl, rfl, q⟩
theorem dv_addS {x y : Str} (ha : DV R K F ta σ H (.str x)) (hb : DV R K F tb σ H (.str y)) (hl : x.length + y.length ≤ sizeLine) : DV R K F (tOp (rPlus K) ta tb) σ H (.str (x ++ y)) :=
  dv_op ha hb rfl rfl rfl fun H1 Q q => .inr (.inl ⟨x, y, rfl, rfl, hl, q⟩)
theorem dv_addL {ds es : List PyData} (ha : DV R K F ta σ H (.list ds)) (hb : DV R K F tb σ H (.list es)) (hl : ds.length + es.length ≤ sizeLine) : DV R K F (tOp (rPlus K) ta tb) σ H (.list (ds ++ es)) :=
  dv_op2 ha hb fun x y H1 Q _ f ⟨a, xs, e1, h1, l1⟩ ⟨b, ys, e2, h2, l2⟩ q => .inr (.inr (.inl ⟨a, b, xs, ys, e1, e2, (hid_le h1).1, (hid_le h2).1, by rw [l1.length, l2.length]; exact hl, fun p hp => q _ _ (r_new hp) (da_new f hp (l1.append l2))⟩))
theorem dv_subI {i j : Int} (ha : DV R K F ta σ H (.int i)) (hb : DV R K F tb σ H (.int j)) : DV R K F (tOp (rI0 fun i j => V.int (i - j)) ta tb) σ H (.int (i - j)) :=
  dv_op ha hb rfl rfl rfl fun H1 Q q => ⟨i, j, rfl, rfl, q⟩
theorem dv_mulI {i j : Int} (ha : DV R K F ta σ H (.int i)) (hb : DV R K F tb σ H (.int j)) (hc : CMul i j ∨ CMulW i j) : DV R K F (tOp (rTimes K) ta tb) σ H (.int (i * j)) :=
  dv_op ha hb rfl rfl rfl fun H1 Q q => hc.elim (fun c => .inl ⟨i, j, rfl, rfl, c, q⟩) fun c => .inr (.inl ⟨i, j, rfl, rfl, c, q⟩)
theorem dv_repL {ds : List PyData} {k : Int} (ha : DV R K F ta σ H (.list ds)) (hb : DV R K F tb σ H (.int k)) (h0 : -(2 ^ 63) ≤ k) (h1 : k < 2 ^ 63) (hl : ds.length * k.toNat ≤ sizeLine) : DV R K F (tOp (rTimes K) ta tb) σ H (.list (List.replicate k.toNat ds).flatten) :=
  dv_op2 ha hb fun x y H1 Q _ f ⟨a, xs, e1, g1, l1⟩ e2 q => .inr (.inr (.inl ⟨a, k, xs, e1, e2, (hid_le g1).1, h0, h1, by rw [l1.length]; exact hl, fun p hp => q _ _ (r_new hp) (da_new f hp (l1.rep _))⟩))
theorem dv_repT {ds : List PyData} {k : Int} (ha : DV R K F ta σ H (.tuple ds)) (hb : DV R K F tb σ H (.int k)) (hd : ds ≠ []) (h0 : 2 ≤ k) (h1 : k ≤ 1000) (hl : ds.length ≤ 1000) : DV R K F (tOp (rTimes K) ta tb) σ H (.tuple (List.replicate k.toNat ds).flatten) :=
  dv_op2 ha hb fun x y H1 Q _ f ⟨a, xs, e1, g1, l1⟩ e2 q => .inr (.inr (.inr ⟨a, k, xs, e1, e2, xt_sqT xt_hid g1, fun z => hd (List.length_eq_zero_iff.mp (by rw [← l1.length, z]; rfl)), h0, h1, by rw [l1.length]; exact hl, fun p hp => q _ _ (r_new hp) (da_newT f hp (l1.rep _))⟩))
theorem dv_mod {i j : Int} (ha : DV R K F ta σ H (.int i)) (hb : DV R K F tb σ H (.int j)) (hc : 0 < j) : DV R K F (tOp (rI (fun _ j => 0 < j) fun i j => V.int (i % j)) ta tb) σ H (.int (i % j)) :=
  dv_op ha hb rfl rfl rfl fun H1 Q q => ⟨i, j, rfl, rfl, hc, q⟩
theorem dv_div {i j : Int} (ha : DV R K F ta σ H (.int i)) (hb : DV R K F tb σ H (.int j)) (hc : CDivW i j) : DV R K F (tOp (rI CDivW fun i j => V.int (i / j)) ta tb) σ H (.int (i / j)) :=
  dv_op ha hb rfl rfl rfl fun H1 Q q => ⟨i, j, rfl, rfl, hc, q⟩
theorem dv_neg {i : Int} (ha : DV R K F ta σ H (.int i)) : DV R K F (tUn (rU fun i => V.int (-i)) ta) σ H (.int (-i)) := fun H1 a f Q q =>
  ha H1 a f _ fun v H2 r hv => ⟨i, hv, q _ H2 r rfl⟩
/-! comparisons -/
theorem dv_lt {i j : Int} (ha : DV R K F ta σ H (.int i)) (hb : DV R K F tb σ H (.int j)) : DV R K F (tOp (rI0 fun i j => V.bl (decide (i < j))) ta tb) σ H (.bool (decide (i < j))) :=
  dv_op ha hb rfl rfl rfl fun H1 Q q => ⟨i, j, rfl, rfl, q⟩
theorem dv_gt {i j : Int} (ha : DV R K F ta σ H (.int i)) (hb : DV R K F tb σ H (.int j)) : DV R K F (tOp (rI0 fun i j => V.bl (decide (j < i))) ta tb) σ H (.bool (decide (j < i))) :=
  dv_op ha hb rfl rfl rfl fun H1 Q q => ⟨i, j, rfl, rfl, q⟩
theorem dv_ge {i j : Int} (ha : DV R K F ta σ H (.int i)) (hb : DV R K F tb σ H (.int j)) : DV R K F (tOp (rI0 fun i j => V.bl (decide (j ≤ i))) ta tb) σ H (.bool (decide (j ≤ i))) :=
  dv_op ha hb rfl rfl rfl fun H1 Q q => ⟨i, j, rfl, rfl, q⟩
theorem dv_le {i j : Int} (ha : DV R K F ta σ H (.int i)) (hb : DV R K F tb σ H (.int j)) : DV R K F (tOp rLeq ta tb) σ H (.bool (decide (i ≤ j))) :=
  dv_op ha hb rfl rfl rfl fun H1 Q q => .inl ⟨i, j, rfl, rfl, q⟩
theorem dv_leS {x y : Str} (ha : DV R K F ta σ H (.str x)) (hb : DV R K F tb σ H (.str y)) : DV R K F (tOp rLeq ta tb) σ H (.bool (!decide (y.cps.toList < x.cps.toList))) :=
  dv_op ha hb rfl rfl rfl fun H1 Q q => .inr ⟨x, y, rfl, rfl, q⟩
def rEqA (K : PySem.W.Frag) : R2 := fun x y H Q => rEq x y H Q ∨ rEqD K x y H Q
def rNeA (K : PySem.W.Frag) : R2 := fun x y H Q => rNe x y H Q ∨ rNeD K x y H Q
theorem dv_eqI {i j : Int} (ha : DV R K F ta σ H (.int i)) (hb : DV R K F tb σ H (.int j)) : DV R K F (tOp (rEqA K) ta tb) σ H (.bool (decide (i = j))) :=
  dv_op ha hb rfl rfl rfl fun H1 Q q => .inl ⟨rfl, by
    show Q (.bl (decide (V.int i = V.int j))) H1
    rw [dec_int, Bool.beq_eq_decide_eq]
    exact q⟩
theorem dv_eqS {i j : Str} (ha : DV R K F ta σ H (.str i)) (hb : DV R K F tb σ H (.str j)) : DV R K F (tOp (rEqA K) ta tb) σ H (.bool (decide (i = j))) :=
  dv_op ha hb rfl rfl rfl fun H1 Q q => .inl ⟨rfl, by
    show Q (.bl (decide (V.str i = V.str j))) H1
    rw [dec_str, Bool.beq_eq_decide_eq]
    exact q⟩
theorem dv_neI {i j : Int} (ha : DV R K F ta σ H (.int i)) (hb : DV R K F tb σ H (.int j)) : DV R K F (tOp (rNeA K) ta tb) σ H (.bool (!decide (i = j))) :=
  dv_op ha hb rfl rfl rfl fun H1 Q q => .inl ⟨rfl, by
    show Q (.bl (!decide (V.int i = V.int j))) H1
    rw [dec_int, Bool.beq_eq_decide_eq]
    exact q⟩
theorem dv_neS {i j : Str} (ha : DV R K F ta σ H (.str i)) (hb : DV R K F tb σ H (.str j)) : DV R K F (tOp (rNeA K) ta tb) σ H (.bool (!decide (i = j))) :=
  dv_op ha hb rfl rfl rfl fun H1 Q q => .inl ⟨rfl, by
    show Q (.bl (!decide (V.str i = V.str j))) H1
    rw [dec_str, Bool.beq_eq_decide_eq]
    exact q⟩
theorem dv_eq {d1 d2 : PyData} (ha : DV R K F ta σ H d1) (hb : DV R K F tb σ H d2) (s1 : SeqAt.shaped d1 = true) (s2 : SeqAt.shaped d2 = true) : DV R K F (tOp (rEqA K) ta tb) σ H (.bool (PyData.eqv d1 d2)) :=
  dv_op2 ha hb fun x y H1 Q _ f hx hy q => .inr ⟨d1, d2, (hx.mono xt_hid).dp, (hy.mono xt_hid).dp, s1, s2, q _ H1 (r_refl H1) rfl⟩
theorem dv_ne {d1 d2 : PyData} (ha : DV R K F ta σ H d1) (hb : DV R K F tb σ H d2) (s1 : SeqAt.shaped d1 = true) (s2 : SeqAt.shaped d2 = true) : DV R K F (tOp (rNeA K) ta tb) σ H (.bool (!PyData.eqv d1 d2)) :=
  dv_op2 ha hb fun x y H1 Q _ f hx hy q => .inr ⟨d1, d2, (hx.mono xt_hid).dp, (hy.mono xt_hid).dp, s1, s2, q _ H1 (r_refl H1) rfl⟩
/-- a chain a <= b <= c, by values -/
theorem dv_chain {tc : TE} {r r' : R2} {d1 d2 d3 : PyData} {x y z : V} {b1 b2 : Bool} (ha : DV R K F ta σ H d1) (hb : DV R K F tb σ H d2) (hc : b1 = true → DV R K F tc σ H d3) (e1 : sclV d1 = some x) (e2 : sclV d2 = some y) (e3 : sclV d3 = some z)
    (h1 : ∀ H1 (Q : VK), Q (.bl b1) H1 → r x y H1 Q) (h2 : b1 = true → ∀ H1 (Q : VK), Q (.bl b2) H1 → r' y z H1 Q) : DV R K F (tChain r r' ta tb tc) σ H (.bool (b1 && b2)) := fun H1 a f Q q =>
  ha H1 a f _ fun x' H2 r2 hx => hb H2 (ROk.trans a r2) (r_fd r2 f) _ fun y' H3 r3 hy => by
    rw [(scl_eq e1).mp hx, (scl_eq e2).mp hy]
    refine h1 H3 _ ⟨b1, rfl, ?_⟩
    cases b1 with
    | false => exact q _ H3 (ROk.trans r2 r3) rfl
    | true =>
      refine hc rfl H3 (ROk.trans a (ROk.trans r2 r3)) (r_fd r3 (r_fd r2 f)) _ fun w H4 r4 hw => ?_
      rw [(scl_eq e3).mp hw]
      exact h2 rfl H4 _ (q _ H4 (ROk.trans (ROk.trans r2 r3) r4) rfl)
theorem dv_chLe {tc : TE} {i j k : Int} (ha : DV R K F ta σ H (.int i)) (hb : DV R K F tb σ H (.int j)) (hc : DV R K F tc σ H (.int k)) : DV R K F (tChain rLeq rLeq ta tb tc) σ H (.bool (decide (i ≤ j) && decide (j ≤ k))) :=
  dv_chain ha hb (fun _ => hc) rfl rfl rfl (fun _ _ q => .inl ⟨i, j, rfl, rfl, q⟩) fun _ _ _ q => .inl ⟨j, k, rfl, rfl, q⟩
theorem dv_chLeS {tc : TE} {i j k : Str} (ha : DV R K F ta σ H (.str i)) (hb : DV R K F tb σ H (.str j)) (hc : DV R K F tc σ H (.str k)) : DV R K F (tChain rLeq rLeq ta tb tc) σ H (.bool (!decide (j.cps.toList < i.cps.toList) && !decide (k.cps.toList < j.cps.toList))) :=
  dv_chain ha hb (fun _ => hc) rfl rfl rfl (fun _ _ q => .inr ⟨i, j, rfl, rfl, q⟩) fun _ _ _ q => .inr ⟨j, k, rfl, rfl, q⟩
/-! subscripts, slices, len -/
theorem dv_ixL {ds : List PyData} {i : Int} (ha : DV R K F ta σ H (.list ds)) (hb : DV R K F tb σ H (.int i)) (he : atI ds i = some d) : DV R K F (tOp (rIx K) ta tb) σ H d :=
  dv_op2 ha hb fun x y H1 Q _ f ⟨a, xs, e1, g1, l1⟩ e2 q => by
    obtain ⟨j, h1, h2⟩ : ∃ j, ixN ds.length i = some j ∧ ds[j]? = some d := by
      unfold atI at he
      cases e : ixN ds.length i with
      | none => rw [e] at he; cases he
      | some j => rw [e] at he; exact ⟨j, rfl, he⟩
    obtain ⟨v, g2, g3⟩ := l1.get h2
    exact .inl ⟨a, xs, i, v, e1, e2, SqL.of (hid_le g1).1, by unfold atI; rw [l1.length, h1]; exact g2, q v H1 (r_refl H1) g3⟩
theorem dv_ixT {ds : List PyData} {i : Int} (ha : DV R K F ta σ H (.tuple ds)) (hb : DV R K F tb σ H (.int i)) (he : atI ds i = some d) : DV R K F (tOp (rIx K) ta tb) σ H d :=
  dv_op2 ha hb fun x y H1 Q _ f ⟨a, xs, e1, g1, l1⟩ e2 q => by
    obtain ⟨j, h1, h2⟩ : ∃ j, ixN ds.length i = some j ∧ ds[j]? = some d := by
      unfold atI at he
      cases e : ixN ds.length i with
      | none => rw [e] at he; cases he
      | some j => rw [e] at he; exact ⟨j, rfl, he⟩
    obtain ⟨v, g2, g3⟩ := l1.get h2
    exact .inr (.inl ⟨a, xs, i, v, e1, e2, xt_sqT xt_hid g1, by unfold atI; rw [l1.length, h1]; exact g2, q v H1 (r_refl H1) g3⟩)
theorem dv_ixS {x : Str} {i : Int} {c : Nat} (ha : DV R K F ta σ H (.str x)) (hb : DV R K F tb σ H (.int i)) (hl : x.length ≤ sizeLine) (he : atI x.cps.toList i = some c) : DV R K F (tOp (rIx K) ta tb) σ H (.str ⟨#[c]⟩) :=
  dv_op ha hb rfl rfl rfl fun H1 Q q => .inr (.inr ⟨x, i, c, rfl, rfl, hl, he, q⟩)
theorem do_none : DO R F tNoPart σ H none := fun H1 _ _ _ q => q H1 (r_refl H1)
theorem do_some {i : Int} (h : DV R K F te σ H (.int i)) : DO R F (tPart te) σ H (some i) := fun H1 a f _ q => h H1 a f _ fun v H2 r hv => ⟨i, hv, q H2 r⟩
def rSli (K : PySem.W.Frag) : V → Option Int → Option Int → Hp → VK → Prop := fun x lo hi H Q => rSlL K x lo hi H Q ∨ rSlS x lo hi H Q ∨ rSlT K x lo hi H Q
/-- the items of ds[lo:hi] -/
def cutD (ds : List PyData) (lo hi : Option Int) : List PyData := (ds.drop (HT.sIx ds.length 0 lo)).take (HT.sIx ds.length ds.length hi - HT.sIx ds.length 0 lo)
theorem dal_cut {H : Hp} {ds : List PyData} {vs : List V} (h : DaL K H ds vs) (lo hi : Option Int) : DaL K H (cutD ds lo hi) (cutV vs lo hi) := by
  unfold cutD cutV
  rw [h.length]
  exact (h.drop _).take _
theorem dv_slL {tl th : TO} {ds : List PyData} {lo hi : Option Int} (h : DV R K F te σ H (.list ds)) (h1 : DO R F tl σ H lo) (h2 : DO R F th σ H hi) : DV R K F (tSl (rSli K) te tl th) σ H (.list (cutD ds lo hi)) := fun H1 a f Q q =>
  h H1 a f _ fun x H2 r2 hx => h1 H2 (ROk.trans a r2) (r_fd r2 f) _ fun H3 r3 => h2 H3 (ROk.trans (ROk.trans a r2) r3) (r_fd r3 (r_fd r2 f)) _ fun H4 r4 => by
    obtain ⟨b, xs, e1, g1, l1⟩ := r_da (ROk.trans r3 r4) hx
    exact .inl ⟨b, xs, e1, SqL.of (hid_le g1).1, fun p hp => q _ _ (ROk.trans (ROk.trans r2 (ROk.trans r3 r4)) (r_new hp)) (da_new (r_fd r4 (r_fd r3 (r_fd r2 f))) hp (dal_cut l1 lo hi))⟩
theorem dv_slS {tl th : TO} {x : Str} {lo hi : Option Int} (h : DV R K F te σ H (.str x)) (h1 : DO R F tl σ H lo) (h2 : DO R F th σ H hi) (hl : x.length ≤ sizeLine) : DV R K F (tSl (rSli K) te tl th) σ H (.str (cutS x lo hi)) := fun H1 a f Q q =>
  h H1 a f _ fun v H2 r2 hx => h1 H2 (ROk.trans a r2) (r_fd r2 f) _ fun H3 r3 => h2 H3 (ROk.trans (ROk.trans a r2) r3) (r_fd r3 (r_fd r2 f)) _ fun H4 r4 =>
    .inr (.inl ⟨x, hx, hl, q _ H4 (ROk.trans r2 (ROk.trans r3 r4)) rfl⟩)
def rLn (K : PySem.W.Frag) : List V → Hp → VK → Prop := fun xs H Q => ∃ x n, xs = [x] ∧ LenV K x H n ∧ Q (.int n) H
theorem dv_cb {r : List V → Hp → VK → Prop} {ta : TA} {ds : List PyData} (h : DA R K F ta σ H ds) (hr : ∀ vs H1 (Q : VK), R H H1 → Fd F H1 → DaL K (hid F H1) ds vs → (∀ v H2, R H1 H2 → Da K (hid F H2) d v → Q v H2) → r vs H1 Q) : DV R K F (tCB r ta) σ H d := fun H1 a f Q q =>
  h H1 a f _ fun vs H2 r2 hv => hr vs H2 Q (ROk.trans a r2) (r_fd r2 f) hv fun v H3 r3 g => q v H3 (ROk.trans r2 r3) g
theorem dal1 {H : Hp} {vs : List V} (h : DaL K H [d] vs) : ∃ v, vs = [v] ∧ Da K H d v := by
  obtain ⟨w, r, h1, h2, h3⟩ := h
  exact ⟨w, by rw [h1, show r = [] from h3], h2⟩
theorem dal2 {H : Hp} {d2 : PyData} {vs : List V} (h : DaL K H [d, d2] vs) : ∃ v u, vs = [v, u] ∧ Da K H d v ∧ Da K H d2 u := by
  obtain ⟨w, r, h1, h2, h3⟩ := h
  obtain ⟨u, e, h4⟩ := dal1 h3
  exact ⟨w, u, by rw [h1, e], h2, h4⟩
theorem dv_lenL {ds : List PyData} (h : DV R K F ta σ H (.list ds)) : DV R K F (tCB (rLn K) (tCons ta tNil)) σ H (.int ds.length) :=
  dv_cb (da_cons h da_nil) fun vs H1 Q _ f hv q => by
    obtain ⟨v, rfl, a, xs, rfl, g, l⟩ := dal1 hv
    exact ⟨_, xs.length, rfl, .inl ⟨xs, SqL.of (hid_le g).1, rfl⟩, q _ H1 (r_refl H1) (by rw [l.length]; rfl)⟩
theorem dv_lenT {ds : List PyData} (h : DV R K F ta σ H (.tuple ds)) : DV R K F (tCB (rLn K) (tCons ta tNil)) σ H (.int ds.length) :=
  dv_cb (da_cons h da_nil) fun vs H1 Q _ f hv q => by
    obtain ⟨v, rfl, a, xs, rfl, g, l⟩ := dal1 hv
    exact ⟨_, xs.length, rfl, .inr ⟨xs, xt_sqT xt_hid g, rfl⟩, q _ H1 (r_refl H1) (by rw [l.length]; rfl)⟩
theorem dv_lenS {x : Str} (h : DV R K F ta σ H (.str x)) (hl : x.length ≤ sizeLine) : DV R K F (tCB (rLn K) (tCons ta tNil)) σ H (.int x.length) :=
  dv_cb (da_cons h da_nil) fun vs H1 Q _ f hv q => by
    obtain ⟨v, rfl, e⟩ := dal1 hv
    have e : v = .str x := e
    subst e
    exact ⟨_, x.length, rfl, ⟨hl, rfl⟩, q _ H1 (r_refl H1) rfl⟩
/-! tests -/
theorem dt_test {b : Bool} (h : DV R K F te σ H (.bool b)) : DT R F (tTest te) σ H b := fun H1 a f _ q => h H1 a f _ fun v H2 r hv => ⟨b, hv, q H2 r⟩
theorem dt_B {b : Bool} (h : DV R K F te σ H (.bool b)) : DT R F (tB te) σ H b := fun H1 a f _ q => h H1 a f _ fun v H2 r hv => ⟨b, hv, q H2 r⟩
theorem dt_and {t u : TT} {a b : Bool} (h1 : DT R F t σ H a) (h2 : a = true → DT R F u σ H b) : DT R F (tAnd t u) σ H (a && b) := fun H1 e f Q q => h1 H1 e f _ fun H2 r2 => by
  cases a with
  | true => exact h2 rfl H2 (ROk.trans e r2) (r_fd r2 f) Q fun H3 r3 => q H3 (ROk.trans r2 r3)
  | false => exact q H2 r2
theorem dt_or {t u : TT} {a b : Bool} (h1 : DT R F t σ H a) (h2 : a = false → DT R F u σ H b) : DT R F (tOr t u) σ H (a || b) := fun H1 e f Q q => h1 H1 e f _ fun H2 r2 => by
  cases a with
  | false => exact h2 rfl H2 (ROk.trans e r2) (r_fd r2 f) Q fun H3 r3 => q H3 (ROk.trans r2 r3)
  | true => exact q H2 r2
theorem dt_not {t : TT} {a : Bool} (h : DT R F t σ H a) : DT R F (tNot t) σ H (!a) := fun H1 e f _ q => h H1 e f _ q
theorem dt_is {t : TT} {a b : Bool} (h : DT R F t σ H a) (e : a = b) : DT R F t σ H b := e ▸ h
theorem dv_is {d' : PyData} (h : DV R K F te σ H d) (e : d = d') : DV R K F te σ H d' := e ▸ h
theorem dv_and {a b : Bool} (h1 : DV R K F ta σ H (.bool a)) (h2 : a = true → DV R K F tb σ H (.bool b)) : DV R K F (tAndV ta tb) σ H (.bool (a && b)) := fun H1 e f Q q => h1 H1 e f _ fun v H2 r2 hv => ⟨a, hv, by
  cases a with
  | true => exact h2 rfl H2 (ROk.trans e r2) (r_fd r2 f) Q fun w H3 r3 => q w H3 (ROk.trans r2 r3)
  | false => exact q _ H2 r2 rfl⟩
theorem dv_or {a b : Bool} (h1 : DV R K F ta σ H (.bool a)) (h2 : a = false → DV R K F tb σ H (.bool b)) : DV R K F (tOrV ta tb) σ H (.bool (a || b)) := fun H1 e f Q q => h1 H1 e f _ fun v H2 r2 hv => ⟨a, hv, by
  cases a with
  | false => exact h2 rfl H2 (ROk.trans e r2) (r_fd r2 f) Q fun w H3 r3 => q w H3 (ROk.trans r2 r3)
  | true => exact q _ H2 r2 rfl⟩
theorem dv_not {a : Bool} (h : DV R K F ta σ H (.bool a)) : DV R K F (tNotV ta) σ H (.bool (!a)) := fun H1 e f _ q => h H1 e f _ fun v H2 r hv => ⟨a, hv, q _ H2 r rfl⟩
theorem dv_if {t : TT} {b : Bool} (h : DT R F t σ H b) (h1 : b = true → DV R K F ta σ H d) (h2 : b = false → DV R K F tb σ H d) : DV R K F (tIf t ta tb) σ H d := fun H1 e f Q q => h H1 e f _ fun H2 r2 => by
  cases b with
  | true => exact h1 rfl H2 (ROk.trans e r2) (r_fd r2 f) Q fun w H3 r3 => q w H3 (ROk.trans r2 r3)
  | false => exact h2 rfl H2 (ROk.trans e r2) (r_fd r2 f) Q fun w H3 r3 => q w H3 (ROk.trans r2 r3)
/-! a def's call -/
theorem dv_call {sp : Sp} {E : XK} {ta : TA} {ds : List PyData} (h : DA R K F ta σ H ds) (hs : SD K sp ds d) : DV R K F (tCall sp [] E ta) σ H d := fun H1 e f Q q =>
  h H1 e f _ fun vs H2 r2 hv => by
    rw [List.append_nil]
    exact hs F vs H2 (r_fd r2 f) hv Q E fun v H3 s3 g => q v H3 (ROk.trans r2 (ROk.same s3)) g
end
end Sc

namespace Sc
open PySem PySem.Spec PyProof.Rows L2
open RZ (ItzT iZipA)
/-! ### shapes that == takes: no dicts, not deep -/
def Sh (n : Nat) (d : PyData) : Prop := d.canLay0 = true ∧ d.depth ≤ n
def ShL (n : Nat) (ds : List PyData) : Prop := PyData.canLayAll0 ds = true ∧ PyData.depthAll ds ≤ n
theorem Sh.s {n : Nat} {d : PyData} (h : Sh n d) (hn : n ≤ 64 := by decide) : SeqAt.shaped d = true := by
  unfold SeqAt.shaped
  rw [h.1, decide_eq_true (Nat.le_trans h.2 hn)]
  rfl
theorem Sh.mono {n m : Nat} {d : PyData} (h : Sh n d) (hn : n ≤ m) : Sh m d := ⟨h.1, Nat.le_trans h.2 hn⟩
theorem ShL.mono {n m : Nat} {d : List PyData} (h : ShL n d) (hn : n ≤ m) : ShL m d := ⟨h.1, Nat.le_trans h.2 hn⟩
theorem sh_none {n : Nat} : Sh n .none := ⟨rfl, Nat.zero_le _⟩
theorem sh_bool {n : Nat} {b : Bool} : Sh n (.bool b) := ⟨rfl, Nat.zero_le _⟩
theorem sh_int {n : Nat} {i : Int} : Sh n (.int i) := ⟨rfl, Nat.zero_le _⟩
theorem sh_str {n : Nat} {x : Str} (h : PyData.strOk x = true) : Sh n (.str x) := ⟨h, Nat.zero_le _⟩
theorem shl_nil {n : Nat} : ShL n [] := ⟨rfl, Nat.zero_le _⟩
theorem shl_cons {n : Nat} {d : PyData} {ds : List PyData} (h : Sh n d) (hs : ShL n ds) : ShL n (d :: ds) := by
  refine ⟨?_, ?_⟩
  · show (d.canLay0 && PyData.canLayAll0 ds) = true
    rw [h.1, hs.1]
    rfl
  · show max d.depth (PyData.depthAll ds) ≤ n
    exact Nat.max_le.mpr ⟨h.2, hs.2⟩
theorem sh_list {n : Nat} {ds : List PyData} (h : ShL n ds) : Sh (n + 1) (.list ds) := ⟨h.1, by show PyData.depthAll ds + 1 ≤ n + 1; exact Nat.succ_le_succ h.2⟩
theorem sh_tuple {n : Nat} {ds : List PyData} (h : ShL n ds) : Sh (n + 1) (.tuple ds) := ⟨h.1, by show PyData.depthAll ds + 1 ≤ n + 1; exact Nat.succ_le_succ h.2⟩
theorem shl_all {n : Nat} : ∀ {ds : List PyData}, (∀ d ∈ ds, Sh n d) → ShL n ds
  | [], _ => shl_nil
  | d :: ds, h => shl_cons (h d List.mem_cons_self) (shl_all fun e he => h e (List.mem_cons_of_mem _ he))
theorem shaped_int (i : Int) : SeqAt.shaped (.int i) = true := sh_int.s (n := 0)
/-! ### kinds -/
def tyD : PyData → String
  | .none => "NoneType"
  | .bool _ => "bool"
  | .int _ => "int"
  | .str _ => "str"
  | .list _ => "list"
  | .tuple _ => "tuple"
  | .dict _ => "dict"
theorem ty_of {K : PySem.W.Frag} {H : Hp} : ∀ {d : PyData} {v : V}, Da K H d v → TyX K H v (.type (tyD d))
  | .none, _, h => by cases h; exact .base .non
  | .bool _, _, h => by cases h; exact .base (.bl _)
  | .int _, _, h => by cases h; exact .base (.int _)
  | .str _, _, h => by cases h; exact .base (.str _)
  | .list ds, _, h => by
    obtain ⟨a, xs, h1, h2, h3⟩ := h
    cases h1
    exact .base (.lst h2)
  | .tuple ds, _, h => by
    obtain ⟨a, xs, h1, h2, h3⟩ := h
    cases h1
    rcases h2 with (h | ⟨o, h⟩) | ⟨o, its, n, h, c, _⟩
    · exact .base (.tup h)
    · exact .fTuple h
    · exact .kTuple h c
  | .dict _, _, h => h.elim
def isStr : PyData → Bool
  | .str _ => true
  | _ => false
def isTup : PyData → Bool
  | .tuple _ => true
  | _ => false
def isLst : PyData → Bool
  | .list _ => true
  | _ => false
def isBool : PyData → Bool
  | .bool _ => true
  | _ => false
def isInt : PyData → Bool
  | .int _ => true
  | .bool _ => true
  | _ => false
theorem kit_str : ∀ d, kitB (tyD d) "str" = some (isStr d) := by intro d; cases d <;> (simp only [tyD, isStr, isTup, isLst, isBool, isInt]; decide +kernel)
theorem kit_tup : ∀ d, kitB (tyD d) "tuple" = some (isTup d) := by intro d; cases d <;> (simp only [tyD, isStr, isTup, isLst, isBool, isInt]; decide +kernel)
theorem kit_lst : ∀ d, kitB (tyD d) "list" = some (isLst d) := by intro d; cases d <;> (simp only [tyD, isStr, isTup, isLst, isBool, isInt]; decide +kernel)
theorem kit_bool : ∀ d, kitB (tyD d) "bool" = some (isBool d) := by intro d; cases d <;> (simp only [tyD, isStr, isTup, isLst, isBool, isInt]; decide +kernel)
theorem kit_int : ∀ d, kitB (tyD d) "int" = some (isInt d) := by intro d; cases d <;> (simp only [tyD, isStr, isTup, isLst, isBool, isInt]; decide +kernel)
section
variable {R : Hp → Hp → Prop} [ROk R] {K : PySem.W.Frag} {F : List Addr} {σ : L2.St} {H H' : Hp} {ta tb te : TE} {d : PyData} {v : V}
theorem dv_isi {c : String} {b : Bool} (h : DV R K F ta σ H d) (hk : kitB (tyD d) c = some b) : DV R K F (tCB (rIsi K) (tCons ta (tCons (tC (.ty c)) tNil))) σ H (.bool b) := fun H1 a f Q q =>
  h H1 a f _ fun v H2 r2 hv => ⟨v, .ty c, _, _, b, rfl, .ty c, ty_of (hv.mono xt_hid), kit_ty hk, q _ H2 r2 rfl⟩
theorem dv_isStr (h : DV R K F ta σ H d) : DV R K F (tCB (rIsi K) (tCons ta (tCons (tC (.ty "str")) tNil))) σ H (.bool (isStr d)) := dv_isi h (kit_str d)
theorem dv_isTup (h : DV R K F ta σ H d) : DV R K F (tCB (rIsi K) (tCons ta (tCons (tC (.ty "tuple")) tNil))) σ H (.bool (isTup d)) := dv_isi h (kit_tup d)
theorem dv_isLst (h : DV R K F ta σ H d) : DV R K F (tCB (rIsi K) (tCons ta (tCons (tC (.ty "list")) tNil))) σ H (.bool (isLst d)) := dv_isi h (kit_lst d)
theorem dv_isBool (h : DV R K F ta σ H d) : DV R K F (tCB (rIsi K) (tCons ta (tCons (tC (.ty "bool")) tNil))) σ H (.bool (isBool d)) := dv_isi h (kit_bool d)
theorem dv_isInt (h : DV R K F ta σ H d) : DV R K F (tCB (rIsi K) (tCons ta (tCons (tC (.ty "int")) tNil))) σ H (.bool (isInt d)) := dv_isi h (kit_int d)
/-! ### in -/
def rMem (K : PySem.W.Frag) : R2 := fun x y H Q => rIn K false x y H Q ∨ (∃ (c : Nat) (z : Str), x = .str ⟨#[c]⟩ ∧ y = .str z ∧ Q (.bl (decide (c ∈ z.cps.toList))) H)
def rNotMem (K : PySem.W.Frag) : R2 := fun x y H Q => rIn K true x y H Q ∨ (∃ (c : Nat) (z : Str), x = .str ⟨#[c]⟩ ∧ y = .str z ∧ Q (.bl (!decide (c ∈ z.cps.toList))) H)
theorem dv_inS {c : Nat} {z : Str} (ha : DV R K F ta σ H (.str ⟨#[c]⟩)) (hb : DV R K F tb σ H (.str z)) : DV R K F (tOp (rMem K) ta tb) σ H (.bool (decide (c ∈ z.cps.toList))) :=
  dv_op ha hb rfl rfl rfl fun H1 Q q => .inr ⟨c, z, rfl, rfl, q⟩
theorem dal_strs {H : Hp} : ∀ {xs : List Str} {vs : List V}, DaL K H (xs.map PyData.str) vs → vs = xs.map V.str
  | [], _, h => h
  | b :: bs, _, h => by
    obtain ⟨w, r, h1, h2, h3⟩ := h
    have h2 : w = V.str b := h2
    rw [h1, h2, dal_strs h3]
    rfl
theorem inV_strs (x : Str) (xs : List Str) : inV (.str x) (xs.map V.str) = decide (x ∈ xs) := by
  induction xs with
  | nil => rfl
  | cons y r ih =>
    show (eqV (V.str y) (V.str x) || inV (.str x) (r.map V.str)) = _
    rw [ih]
    show ((y == x) || decide (x ∈ r)) = _
    by_cases e : y = x
    · simp [e]
    · have e2 : ¬ x = y := fun z => e z.symm
      simp [e, e2]
theorem flat_strs (xs : List Str) : (xs.map V.str).all flatV = true := by
  induction xs with
  | nil => rfl
  | cons y r ih =>
    show (flatV (V.str y) && (r.map V.str).all flatV) = true
    rw [ih]
    rfl
theorem dv_inT {x : Str} {xs : List Str} (ha : DV R K F ta σ H (.str x)) (hb : DV R K F tb σ H (.tuple (xs.map PyData.str))) : DV R K F (tOp (rMem K) ta tb) σ H (.bool (decide (x ∈ xs))) :=
  dv_op2 ha hb fun u y H1 Q _ f e1 ⟨a, vs, e2, g, l⟩ q => by
    have e1 : u = .str x := e1
    have l := dal_strs l
    subst e1 l
    refine .inl ⟨a, _, e2, .inr (xt_sqT xt_hid g), rfl, flat_strs xs, ?_⟩
    rw [if_neg Bool.false_ne_true, inV_strs]
    exact q _ H1 (r_refl H1) rfl
theorem dv_ninT {x : Str} {xs : List Str} (ha : DV R K F ta σ H (.str x)) (hb : DV R K F tb σ H (.tuple (xs.map PyData.str))) : DV R K F (tOp (rNotMem K) ta tb) σ H (.bool (!decide (x ∈ xs))) :=
  dv_op2 ha hb fun u y H1 Q _ f e1 ⟨a, vs, e2, g, l⟩ q => by
    have e1 : u = .str x := e1
    have l := dal_strs l
    subst e1 l
    refine .inl ⟨a, _, e2, .inr (xt_sqT xt_hid g), rfl, flat_strs xs, ?_⟩
    rw [if_pos rfl, inV_strs]
    exact q _ H1 (r_refl H1) rfl
theorem dv_ord {c : Nat} (h : DV R K F ta σ H (.str ⟨#[c]⟩)) : DV R K F (tCB (fun xs H Q => ∃ x, xs = [V.str x] ∧ x.length = 1 ∧ Q (V.int ((x.cps.getD 0 0 : Nat) : Int)) H) (tCons ta tNil)) σ H (.int (c : Int)) :=
  dv_cb (da_cons h da_nil) fun vs H1 Q _ f hv q => by
    obtain ⟨v, rfl, e⟩ := dal1 hv
    have e : v = .str ⟨#[c]⟩ := e
    subst e
    exact ⟨_, rfl, rfl, q _ H1 (r_refl H1) rfl⟩
/-! ### all -/
theorem dv_all {bs : List Bool} (h : DV R K F ta σ H (.list (bs.map PyData.bool))) : DV R K F (tCB (rAll K) (tCons ta tNil)) σ H (.bool (bs.all id)) :=
  dv_cb (da_cons h da_nil) fun vs H1 Q _ f hv q => by
    obtain ⟨v, rfl, a, xs, rfl, g, l⟩ := dal1 hv
    have l := DaL.bools l
    subst l
    exact ⟨a, bs, rfl, SqL.of (hid_le g).1, q _ H1 (r_refl H1) rfl⟩
/-! ### comprehensions: the new list at D is the comprehension's own -/
/-- the world within: the outer data are there, F' besides -/
structure Wi (R : Hp → Hp → Prop) (F : List Addr) (H : Hp) (F' : List Addr) (H1 : Hp) : Prop where
  r : R H H1
  x : Xt (hid F H) (hid F' H1)
  f : Fd F' H1
theorem Wi.da {F' : List Addr} {H1 : Hp} (w : Wi R F H F' H1) (h : Da K (hid F H) d v) : Da K (hid F' H1) d v := h.mono w.x
theorem lc_gen {J : It} {n : Nat} {G : Hp → Prop} {Y : Nat → Hp → V → Hp → Prop} (w : Walk J n G Y) {g : TG} {te : TE} {vs : List Nat} {H2 : Hp} {D : Addr} {Q : VK} {gs : List PyData}
    (f : Fd F H2) (hD : H2 D = none) (hn : n = gs.length) (hl : gs.length ≤ sizeLine) (hG : ∀ H1, R H2 H1 → G H1)
    (hs : ∀ i x H1 H1' e, gs[i]? = some e → Wi R F H2 (D :: F) H1 → Y i H1 x H1' → ∀ Q' : VK, (∀ y H3, Wi R F H2 (D :: F) H3 → (∀ acc, H1 D = some (.lst acc) → H3 D = some (.lst acc)) → Xt (hid (D :: F) H1) (hid (D :: F) H3) → Da K (hid (D :: F) H3) e y → Q' y H3) → g x (wipe σ vs) H1' fun σ2 H3 => wipe σ2 vs = wipe σ vs ∧ te σ2 H3 Q')
    (hq : ∀ H3, R H2 H3 → Da K (hid F H3) (.list gs) (.ref D) → Q (.ref D) H3) :
    ∃ W : Nat → Nat → Hp → Prop, (∃ m, W 0 m (upd H2 D (.lst []))) ∧ ∀ i m H, W i m H →
      (J.stop i H ∧ Q (.ref D) H) ∨ (J.go i H ∧ ∃ Nx : Hp → Prop, (∀ H', Nx H' → ∃ m', m' < m ∧ W (i + 1) m' H') ∧ ∀ x H', J.yld i H x H' → g x (wipe σ vs) H' fun σ2 H2 => wipe σ2 vs = wipe σ vs ∧ tYes σ2 H2 fun b H3 =>
        if b = true then te σ2 H3 fun y H4 => ∃ acc, H4 D = some (.lst acc) ∧ acc.length < sizeLine ∧ Nx (upd H4 D (.lst (acc ++ [y]))) else Nx H3) := by
  have nD : D ∉ F := f.new hD
  have wi : ∀ H1, R H2 H1 → Fd (D :: F) H1 → Wi R F H2 (D :: F) H1 := fun H1 r f1 => ⟨r, fun b o e nt => by
    obtain ⟨e1, e2⟩ := hid_le e
    rw [hid_out (by
      intro z
      rcases List.mem_cons.mp z with z | z
      · rw [z, hD] at e1; cases e1
      · exact e2 z)]
    exact ROk.ext r b o e1 nt, f1⟩
  refine lc_it w (fun i H1 => R H2 H1 ∧ Fd F H1 ∧ ∃ acc, H1 D = some (.lst acc) ∧ DaL K (hid (D :: F) H1) (gs.take i) acc) ?_ ?_ ?_ ?_
  · exact ⟨r_new hD, r_fd (r_new (R := R) hD) f, [], upd_same, by rw [List.take_zero]; rfl⟩
  · exact fun i H1 _ h => hG H1 h.1
  · rintro i x H1 H1' hi ⟨r1, f1, acc, hacc, l⟩ y
    have hig : i < gs.length := by omega
    obtain ⟨e, he⟩ : ∃ e, gs[i]? = some e := ⟨gs[i], by simp [hig]⟩
    have f1' : Fd (D :: F) H1 := f1.cons hacc fun ps z => by cases z
    refine hs i x H1 H1' e he (wi H1 r1 f1') y _ fun y H3 w3 hk x3 hy => ?_
    refine ⟨acc, hk acc hacc, ?_, ?_⟩
    · have := l.length
      rw [List.length_take] at this
      omega
    · have r4 : R H2 (upd H3 D (.lst (acc ++ [y]))) := ROk.chg hD (hk acc hacc) w3.r
      have hx : Xt (hid (D :: F) H3) (hid (D :: F) (upd H3 D (.lst (acc ++ [y])))) := fun b o e nt => by
        obtain ⟨e1, e2⟩ := hid_le e
        rw [hid_out e2, upd_ne fun z => e2 (by rw [z]; exact List.mem_cons_self)]
        exact e1
      refine ⟨r4, r_fd r4 f, _, upd_same, ?_⟩
      have et : gs.take (i + 1) = gs.take i ++ [e] := by
        rw [List.take_succ, he]
        rfl
      rw [et]
      exact ((l.mono x3).mono hx).snoc (hy.mono hx)
  · rintro H1 ⟨r1, f1, acc, hacc, l⟩
    rw [hn, List.take_length] at l
    refine hq H1 r1 ⟨D, acc, rfl, by rw [hid_out nD]; exact hacc, l.mono (hid_sub fun b hb => List.mem_cons_of_mem _ hb)⟩
/-- [e for x in l], l a list -/
theorem dv_lcL {i : Nat} {ds gs : List PyData} (h : DV R K F ta σ H (.list ds)) (hn : gs.length = ds.length) (hl : ds.length ≤ sizeLine) (hi : ∀ v : V, wipe ((wipe σ [i]).set i (some v)) [i] = wipe σ [i])
    (hb : ∀ (F' : List Addr) (H1 : Hp) (v : V) (j : Nat) (d e : PyData), Wi R F H F' H1 → ds[j]? = some d → gs[j]? = some e → Da K (hid F' H1) d v → DV R K F' te ((wipe σ [i]).set i (some v)) H1 e) :
    DV R K F (tLc (iList K ta) (gName i) tYes te [i]) σ H (.list gs) := fun H1 a f Q q =>
  h H1 a f _ fun v H2 r2 hv => by
    obtain ⟨b, xs, e1, g, l⟩ := hv
    refine ⟨b, e1, ⟨xs, SqL.of (hid_le g).1⟩, fun D hD => ?_⟩
    have f2 := r_fd r2 f
    refine lc_gen (R := R) (K := K) (F := F) (gs := gs) (walk_list (xs := xs)) f2 hD (by rw [l.length, hn]) (by rw [hn]; exact hl) (fun H3 r3 => xt_sqL (ROk.ext r3) (SqL.of (hid_le g).1)) ?_ fun H3 r3 hd => q _ H3 (ROk.trans r2 r3) hd
    rintro j x H3 H3' e he w3 ⟨rfl, hx⟩ Q' q'
    obtain ⟨d, hd, hdv⟩ := l.get' hx
    refine ⟨hi x, ?_⟩
    have w0 : Wi R F H (D :: F) H3' := ⟨ROk.trans (ROk.trans a r2) w3.r, fun b o e nt => w3.x b o (hid_xt (ROk.ext (ROk.trans a r2)) b o e nt) nt, w3.f⟩
    refine hb (D :: F) H3' x j d e w0 hd he (hdv.mono w3.x) H3' (r_refl H3') w3.f Q' fun y H4 r4 hy => ?_
    exact q' y H4 ⟨ROk.trans w3.r r4, fun b o e nt => hid_xt (ROk.ext r4) b o (w3.x b o e nt) nt, r_fd r4 w3.f⟩ (fun acc hacc => ROk.ext r4 _ _ hacc fun ps z => by cases z) (hid_xt (ROk.ext r4)) hy
/-- [e for x in t], t a tuple -/
theorem dv_lcT {i : Nat} {ds gs : List PyData} (h : DV R K F ta σ H (.tuple ds)) (hn : gs.length = ds.length) (hl : ds.length ≤ sizeLine) (hi : ∀ v : V, wipe ((wipe σ [i]).set i (some v)) [i] = wipe σ [i])
    (hb : ∀ (F' : List Addr) (H1 : Hp) (v : V) (j : Nat) (d e : PyData), Wi R F H F' H1 → ds[j]? = some d → gs[j]? = some e → Da K (hid F' H1) d v → DV R K F' te ((wipe σ [i]).set i (some v)) H1 e) :
    DV R K F (tLc (iTup K ta) (gName i) tYes te [i]) σ H (.list gs) := fun H1 a f Q q =>
  h H1 a f _ fun v H2 r2 hv => by
    obtain ⟨b, xs, e1, g, l⟩ := hv
    refine ⟨b, e1, ⟨xs, xt_sqT xt_hid g⟩, fun D hD => ?_⟩
    have f2 := r_fd r2 f
    refine lc_gen (R := R) (K := K) (F := F) (gs := gs) (walk_tup (xs := xs)) f2 hD (by rw [l.length, hn]) (by rw [hn]; exact hl) (fun H3 r3 => xt_sqT (ROk.ext r3) (xt_sqT xt_hid g)) ?_ fun H3 r3 hd => q _ H3 (ROk.trans r2 r3) hd
    rintro j x H3 H3' e he w3 ⟨rfl, hx⟩ Q' q'
    obtain ⟨d, hd, hdv⟩ := l.get' hx
    refine ⟨hi x, ?_⟩
    have w0 : Wi R F H (D :: F) H3' := ⟨ROk.trans (ROk.trans a r2) w3.r, fun b o e nt => w3.x b o (hid_xt (ROk.ext (ROk.trans a r2)) b o e nt) nt, w3.f⟩
    refine hb (D :: F) H3' x j d e w0 hd he (hdv.mono w3.x) H3' (r_refl H3') w3.f Q' fun y H4 r4 hy => ?_
    exact q' y H4 ⟨ROk.trans w3.r r4, fun b o e nt => hid_xt (ROk.ext r4) b o (w3.x b o e nt) nt, r_fd r4 w3.f⟩ (fun acc hacc => ROk.ext r4 _ _ hacc fun ps z => by cases z) (hid_xt (ROk.ext r4)) hy
/-- [e for x in range(n)] -/
theorem dv_lcR {i : Nat} {n : Int} {gs : List PyData} (h : DV R K F ta σ H (.int n)) (hn : gs.length = n.toNat) (hl : n ≤ 1000000) (h0 : -1000000 ≤ n) (hi : ∀ v : V, wipe ((wipe σ [i]).set i (some v)) [i] = wipe σ [i])
    (hb : ∀ (F' : List Addr) (H1 : Hp) (j : Nat) (e : PyData), Wi R F H F' H1 → gs[j]? = some e → DV R K F' te ((wipe σ [i]).set i (some (.int (j : Int)))) H1 e) :
    DV R K F (tLc (iRng1 (tCons ta tNil)) (gName i) tYes te [i]) σ H (.list gs) := fun H1 a f Q q =>
  h H1 a f _ fun v H2 r2 hv => by
    have hv : v = .int n := hv
    subst hv
    refine ⟨n, rfl, by omega, by omega, fun D hD => ?_⟩
    have f2 := r_fd r2 f
    refine lc_gen (R := R) (K := K) (F := F) (gs := gs) (walk_range (lo := 0) (n := n.toNat)) f2 hD hn.symm (by rw [hn, sizeLine_eq]; omega) (fun H3 r3 => True.intro) ?_ fun H3 r3 hd => q _ H3 (ROk.trans r2 r3) hd
    rintro j x H3 H3' e he w3 ⟨rfl, hx⟩ Q' q'
    have hx : x = .int (j : Int) := by
      rw [hx]
      show V.int (0 + (j : Int)) = _
      rw [Int.zero_add]
    subst hx
    refine ⟨hi _, ?_⟩
    have w0 : Wi R F H (D :: F) H3' := ⟨ROk.trans (ROk.trans a r2) w3.r, fun b o e nt => w3.x b o (hid_xt (ROk.ext (ROk.trans a r2)) b o e nt) nt, w3.f⟩
    refine hb (D :: F) H3' j e w0 he H3' (r_refl H3') w3.f Q' fun y H4 r4 hy => ?_
    exact q' y H4 ⟨ROk.trans w3.r r4, fun b o e nt => hid_xt (ROk.ext r4) b o (w3.x b o e nt) nt, r_fd r4 w3.f⟩ (fun acc hacc => ROk.ext r4 _ _ hacc fun ps z => by cases z) (hid_xt (ROk.ext r4)) hy
/-- zip of two tuples -/
theorem walk_zipT {a b : Addr} {xs ys : List V} {n : Nat} (hn : n = min xs.length ys.length) : Walk (ItzT K a b) n (fun H => SqT K H a xs ∧ SqT K H b ys) (YPair (fun i => xs[i]?) (fun i => ys[i]?)) := by
  subst hn
  refine ⟨fun i _ hi q => ?_, fun _ q => ⟨xs, ys, q.1, q.2, by omega⟩, fun i H v H' _ q y => ?_⟩
  · have h1 : i < xs.length := by omega
    have h2 : i < ys.length := by omega
    exact ⟨xs, ys, xs[i], ys[i], q.1, q.2, by simp [h1], by simp [h2]⟩
  · obtain ⟨T, x, z, h1, h2, h3, h4, h5⟩ := y
    exact ⟨T, x, z, h1, h2, h3, h4 xs q.1, h5 ys q.2⟩
/-- [e for x, y in zip(t, u)], tuples of one length -/
theorem dv_lcZ {i j : Nat} {ds es gs : List PyData} (h : DV R K F ta σ H (.tuple ds)) (h' : DV R K F tb σ H (.tuple es)) (hn : gs.length = ds.length) (hm : es.length = ds.length) (hl : ds.length ≤ sizeLine)
    (hi : ∀ v u : V, wipe (((wipe σ [i, j]).set i (some v)).set j (some u)) [i, j] = wipe σ [i, j])
    (hb : ∀ (F' : List Addr) (H1 : Hp) (v u : V) (n : Nat) (d d' e : PyData), Wi R F H F' H1 → ds[n]? = some d → es[n]? = some d' → gs[n]? = some e → Da K (hid F' H1) d v → Da K (hid F' H1) d' u → DV R K F' te (((wipe σ [i, j]).set i (some v)).set j (some u)) H1 e) :
    DV R K F (tLc (iZipA K (tCons ta (tCons tb tNil))) (gTup K 2 (gCons (gName i) (gCons (gName j) gNil))) tYes te [i, j]) σ H (.list gs) := fun H1 a f Q q =>
  h H1 a f _ fun v H2' r2' hv => h' H2' (ROk.trans a r2') (r_fd r2' f) _ fun u H2 r2 hu => by
    obtain ⟨c, xs, e1, g, l⟩ := r_da r2 hv
    obtain ⟨c', ys, e1', g', l'⟩ := hu
    subst e1 e1'
    have r2 : R H1 H2 := ROk.trans r2' r2
    have f2 := r_fd r2 f
    refine ⟨c, c', xs, ys, rfl, .inr ⟨xt_sqT xt_hid g, xt_sqT xt_hid g', fun D hD => ?_⟩⟩
    refine lc_gen (R := R) (K := K) (F := F) (gs := gs) (walk_zipT (xs := xs) (ys := ys) (n := gs.length) (by rw [l.length, l'.length, hn, hm, Nat.min_self])) f2 hD rfl (by rw [hn]; exact hl) (fun H3 r3 => ⟨xt_sqT (ROk.ext r3) (xt_sqT xt_hid g), xt_sqT (ROk.ext r3) (xt_sqT xt_hid g')⟩) ?_ fun H3 r3 hd => q _ H3 (ROk.trans r2 r3) hd
    rintro n x H3 H3' e he w3 ⟨T, x1, x2, rfl, hT, rfl, hx1, hx2⟩ Q' q'
    obtain ⟨d, hd, hdv⟩ := l.get' hx1
    obtain ⟨d', hd', hdv'⟩ := l'.get' hx2
    refine ⟨T, [x1, x2], rfl, SqT.of upd_same, rfl, x1, [x2], rfl, x2, [], rfl, rfl, hi x1 x2, ?_⟩
    have rn : R H3 (upd H3 T (.tup [x1, x2])) := r_new hT
    have w4 : Wi R F H2 (D :: F) (upd H3 T (.tup [x1, x2])) := ⟨ROk.trans w3.r rn, fun b o e nt => hid_xt (ROk.ext rn) b o (w3.x b o e nt) nt, r_fd rn w3.f⟩
    have w0 : Wi R F H (D :: F) (upd H3 T (.tup [x1, x2])) := ⟨ROk.trans (ROk.trans a r2) w4.r, fun b o e nt => w4.x b o (hid_xt (ROk.ext (ROk.trans a r2)) b o e nt) nt, w4.f⟩
    refine hb (D :: F) _ x1 x2 n d d' e w0 hd hd' he (hdv.mono w4.x) (hdv'.mono w4.x) _ (r_refl _) w4.f Q' fun y H4 r4 hy => ?_
    have r34 : R H3 H4 := ROk.trans rn r4
    exact q' y H4 ⟨ROk.trans w3.r r34, fun b o e nt => hid_xt (ROk.ext r34) b o (w3.x b o e nt) nt, r_fd r34 w3.f⟩ (fun acc hacc => ROk.ext r34 _ _ hacc fun ps z => by cases z) (hid_xt (ROk.ext r34)) hy
end
end Sc

namespace Sc
open PySem PySem.Spec PyProof.Rows L2
section
variable {X : Cx}
theorem op_plus : OpR X (binaryOp .Add) (rPlus X.K) := op_add.or (op_add_str.or (op_cat.or op_catT))
theorem op_times : OpR X (binaryOp .Mult) (rTimes X.K) := op_mul.or (op_mulW.or (op_rep.or op_repT))
theorem op_eqA (hu : X.A.units + 64 < cLine) : OpR X (compareOp .Eq) (rEqA X.K) := op_eq.or (op_eqD hu)
theorem op_neA (hu : X.A.units + 64 < cLine) : OpR X (compareOp .NotEq) (rNeA X.K) := op_ne.or (op_neD hu)
theorem op_leq : OpR X (compareOp .LtE) rLeq := op_le.or op_le_str
theorem op_mem : OpR X (compareOp .In) (rMem X.K) := op_in_seq.or op_in_sign
theorem op_notmem : OpR X (compareOp .NotIn) (rNotMem X.K) := op_notIn_seq.or op_notIn_sign
theorem sl_any : SlR X (rSli X.K) := sl_list.or (sl_str.or sl_tup)
theorem cr_len : CallR X (.builtin "len") (rLn X.K) := call_len
/-! the same with the written part as a letter of its own -/
theorem kplus (K : PySem.W.Frag) (hK : X.K = K := by rfl) : OpR X (binaryOp .Add) (rPlus K) := by subst hK; exact op_plus
theorem ktimes (K : PySem.W.Frag) (hK : X.K = K := by rfl) : OpR X (binaryOp .Mult) (rTimes K) := by subst hK; exact op_times
theorem keq (K : PySem.W.Frag) (hu : X.A.units + 64 < cLine) (hK : X.K = K := by rfl) : OpR X (compareOp .Eq) (rEqA K) := by subst hK; exact op_eqA hu
theorem kne (K : PySem.W.Frag) (hu : X.A.units + 64 < cLine) (hK : X.K = K := by rfl) : OpR X (compareOp .NotEq) (rNeA K) := by subst hK; exact op_neA hu
theorem kmem (K : PySem.W.Frag) (hK : X.K = K := by rfl) : OpR X (compareOp .In) (rMem K) := by subst hK; exact op_mem
theorem knotmem (K : PySem.W.Frag) (hK : X.K = K := by rfl) : OpR X (compareOp .NotIn) (rNotMem K) := by subst hK; exact op_notmem
theorem ksl (K : PySem.W.Frag) (hK : X.K = K := by rfl) : SlR X (rSli K) := by subst hK; exact sl_any
theorem kix (K : PySem.W.Frag) (hK : X.K = K := by rfl) : IxR X (rIx K) := by subst hK; exact ix_seq
theorem klen (K : PySem.W.Frag) (hK : X.K = K := by rfl) : CallR X (.builtin "len") (rLn K) := by subst hK; exact cr_len
theorem kisi (K : PySem.W.Frag) (hK : X.K = K := by rfl) : CallR X (.builtin "isinstance") (rIsi K) := by subst hK; exact call_isi
theorem kall (K : PySem.W.Frag) (hc : X.calm = true := by rfl) (hK : X.K = K := by rfl) : CallR X (.builtin "all") (rAll K) := by subst hK; exact cr_all hc
theorem ksum (K : PySem.W.Frag) (hc : X.calm = true := by rfl) (hK : X.K = K := by rfl) : CallR X (.builtin "sum") (rSum K) := by subst hK; exact cr_sum hc
def rListOf (K : PySem.W.Frag) : List V → Hp → VK → Prop := fun xs H Q => ∃ p ys, xs = [.ref p] ∧ (SqL K H p ys ∨ SqT K H p ys) ∧ ∀ l, H l = none → Q (.ref l) (upd H l (.lst ys))
def rTupOf (K : PySem.W.Frag) : List V → Hp → VK → Prop := fun xs H Q => ∃ p ys, xs = [.ref p] ∧ ((SqL K H p ys ∧ ∀ l, H l = none → Q (.ref l) (upd H l (.tup ys))) ∨ (SqT K H p ys ∧ Q (.ref p) H))
theorem klist (K : PySem.W.Frag) (hK : X.K = K := by rfl) : CallR X (.type "list") (rListOf K) := by subst hK; exact call_list_of
theorem ktuple (K : PySem.W.Frag) (hK : X.K = K := by rfl) : CallR X (.type "tuple") (rTupOf K) := by subst hK; exact call_tuple_of
theorem ki_list (K : PySem.W.Frag) {tg l : Expr} {tl : TE} (hl : PE X l tl) (hK : X.K = K := by rfl) : PI X tg l (iList K tl) := by subst hK; exact pi_list hl
theorem ki_tup (K : PySem.W.Frag) {tg l : Expr} {tl : TE} (hl : PE X l tl) (hK : X.K = K := by rfl) : PI X tg l (iTup K tl) := by subst hK; exact pi_tup hl
theorem ki_zip (K : PySem.W.Frag) {e e2 : Expr} {ta : TA} {p pos tpos : Pos} {elts : List Expr} {kk : Nat} (hm : X.mg "zip" = none) (ha : PA X [e, e2] ta) (hg : Gl X "zip" := by rfl) (hK : X.K = K := by rfl)
    (hs : starEach [e, e2] X.env = (false, eval e X.env) :: starEach [e2] X.env := by rfl) (hpl : (backTo pos (starEach [e2] X.env)).any (·.1) = false := by rfl) :
    PI X (.Tuple elts kk tpos) (.Call (.Name "zip" p) [e, e2] [] pos) (RZ.iZipA K ta) := by subst hK; exact RZ.pi_zipA hg hm ha hs hpl
theorem kg_tup (K : PySem.W.Frag) (n : Nat) {es : List Expr} {k : Nat} {t : TGs} {pos : Pos} (h : PGs X es t) (hc : X.calm = true := by rfl) (hK : X.K = K := by rfl)
    (hn : (assignEach es X.env).length = n := by rfl) (hst : (assignEach es X.env).findIdx? (·.1) = none := by rfl) : PG X (.Tuple es k pos) (gTup K n t) := by subst hK; exact pg_tup hc h hn hst
theorem kfld (K : PySem.W.Frag) {e : Expr} {f : Str} {ta : TE} {pos : Pos} (he : PE X e ta) (hb : attributeBase e f X.env (eval e X.env) = eval e X.env := by rfl) (hK : X.K = K := by rfl) : PE X (.Attribute e f pos) (tFld K ta f) := by subst hK; exact pe_fld he hb
theorem ks_fld (K : PySem.W.Frag) {o value : Expr} {f : Str} {ta tv : TE} {pos pos' : Pos} (ha : PE X o ta) (hv : PE X value tv) (hs : swapsWith value (some (.Attribute o f pos')) pos.line X.env = pure false := by rfl) (hK : X.K = K := by rfl) :
    PS X (.Assign [.Attribute o f pos'] value pos) (sFld K ta tv f) := by subst hK; exact ps_fld ha hv hs
theorem kbm0 (K : PySem.W.Frag) {o : Expr} {to : TE} {name : Str} {apos cpos : Pos} {T id : String} {r : V → List V → Hp → VK → Prop} (pa : PlainAttrs T) (slot : Slot T name id) (hty : typeOf (.builtin id) = pure (.type "method_descriptor")) (hm : MtR X id r) (ho : PE X o to)
    (hK : X.K = K := by rfl) (hbase : attributeBase o name X.env (eval o X.env) = eval o X.env := by rfl) (hline : (apos.endLine == cpos.line) = true := by rfl) : PE X (.Call (.Attribute o name apos) [] [] cpos) (tBM0 K T r to) := by
  subst hK; exact pe_bm0 pa slot hty hm ho hbase hline
theorem kbm (K : PySem.W.Frag) {o e : Expr} {es : List Expr} {to : TE} {t : TA} {name : Str} {apos cpos : Pos} {T id : String} {r : V → List V → Hp → VK → Prop} (pa : PlainAttrs T) (slot : Slot T name id) (hty : typeOf (.builtin id) = pure (.type "method_descriptor")) (hm : MtR X id r) (ho : PE X o to) (ha : PA X (e :: es) t)
    (hK : X.K = K := by rfl) (hbase : attributeBase o name X.env (eval o X.env) = eval o X.env := by rfl)
    (hfew : ((backTo cpos (starEach (e :: es) X.env)).all (fun x => !x.1) && (backToKw cpos (keywordEach [] X.env)).all (fun x => x.1.isSome)
      && decide ((e :: es).length + ([] : List Keyword).length + (if ([] : List Keyword).isEmpty then 0 else 1) < 30)) = true := by rfl)
    (hline : (apos.endLine == cpos.line) = true := by rfl) (hs : starEach (e :: es) X.env = (false, eval e X.env) :: starEach es X.env := by rfl) (hplain : (backTo cpos (starEach es X.env)).any (·.1) = false := by rfl) :
    PE X (.Call (.Attribute o name apos) (e :: es) [] cpos) (tBM K T r to t) := by subst hK; exact pe_bm pa slot hty hm ho ha hbase hfew hline hs hplain
theorem pe_gi {x : Str} {i : Int} {pos : Pos} (hg : Gl X x) (h : ∃ t, X.mg x = some (.int i t)) (hd : (x == ("__debug__" : Str)) = false := by decide) : PE X (.Name x pos) (tC (.int i)) := by
  obtain ⟨t, h⟩ := h
  exact pe_glob hg h ⟨t, rfl⟩ hd
theorem pe_gs {x z : Str} {pos : Pos} (hg : Gl X x) (h : ∃ t, X.mg x = some (.str z t)) (hd : (x == ("__debug__" : Str)) = false := by decide) : PE X (.Name x pos) (tC (.str z)) := by
  obtain ⟨t, h⟩ := h
  exact pe_glob hg h ⟨t, rfl⟩ hd
/-- name = value; the name's place -/
theorem pS (i : Nat) {x : Str} {e : Expr} {te : TE} {pos pos' : Pos} (hN : X.N.Nodup) (he : PE X e te) (hi : X.N[i]? = some x := by rfl) (hx : Loc X.env.scope x := by first | exact Or.inl rfl | exact Or.inr rfl)
    (hs : swapsWith e (some (.Name x pos')) pos.line X.env = pure false := by rfl) (hf : X.fn x = true ∨ X.env.scope.names.lookup x = some .local := by first | exact .inl rfl | exact .inr rfl) :
    PS X (.Assign [.Name x pos'] e pos) (tAsg te (gName i)) := ps_set hN hi hx he hs hf
theorem pG (i : Nat) {x : Str} {pos : Pos} (hN : X.N.Nodup) (hi : X.N[i]? = some x := by rfl) (hx : Loc X.env.scope x := by first | exact Or.inl rfl | exact Or.inr rfl)
    (hf : X.fn x = true ∨ X.env.scope.names.lookup x = some .local := by first | exact .inl rfl | exact .inr rfl) : PG X (.Name x pos) (gName i) := pg_name hN hi hx hf
end
/-! ### a def that may be called by its name -/
structure Cal (P : Program) (w : World) (K : PySem.W.Frag) (mg : Str → Option Value) (base : Heap) (CX : CXT) (k : Nat) (x : Str) (ps : List Str) (sp : Sp) : Prop where
  ex : ∃ f fd, mg x = some (.ref f) ∧ PySem.W.keepIn K (.ref f) = true ∧ Binds K fd ps [] ∧ FnOk P w K mg base CX k f fd ps sp
theorem Cal.mono {P : Program} {w : World} {K : PySem.W.Frag} {mg : Str → Option Value} {base : Heap} {CX : CXT} {j k : Nat} {x : Str} {ps : List Str} {sp : Sp} (c : Cal P w K mg base CX j x ps sp) (h : j ≤ k) : Cal P w K mg base CX k x ps sp :=
  let ⟨f, fd, h1, h2, h3, h4⟩ := c.ex
  ⟨f, fd, h1, h2, h3, h4.mono h⟩
theorem pe_cal {X : Cx} {CX : CXT} {k : Nat} {x : Str} {ps : List Str} {sp : Sp} {E : XK} {e : Expr} {es : List Expr} {t : TA} {p pos : Pos} (C : Cal X.prog X.w X.K X.mg X.base CX k x ps sp) (hr : Room k X.A) (hx : Passes CX X E) (ha : PA X (e :: es) t) (hg : Gl X x := by rfl)
    (hdb : (x == ("__debug__" : Str)) = false := by decide) (he : starEach (e :: es) X.env = (false, eval e X.env) :: starEach es X.env := by rfl) (hpl : (backTo pos (starEach es X.env)).any (·.1) = false := by rfl) :
    PE X (.Call (.Name x p) (e :: es) [] pos) (tCall sp [] E t) := by
  obtain ⟨f, fd, h1, h2, h3, h4⟩ := C.ex
  exact pe_call h4 hr hg h1 h2 h3 .nil hx ha hdb he hpl
theorem pe_cal0 {X : Cx} {CX : CXT} {k : Nat} {x : Str} {ps : List Str} {sp : Sp} {E : XK} {p pos : Pos} (C : Cal X.prog X.w X.K X.mg X.base CX k x ps sp) (hr : Room k X.A) (hx : Passes CX X E) (hg : Gl X x := by rfl)
    (hdb : (x == ("__debug__" : Str)) = false := by decide) :
    PE X (.Call (.Name x p) [] [] pos) (tCall sp [] E tNil) := by
  obtain ⟨f, fd, h1, h2, h3, h4⟩ := C.ex
  exact pe_call0 h4 hr hg h1 h2 h3 .nil hx hdb
/-- the exceptions that a def of ours lets out -/
abbrev XC (P : Program) (w : World) : CXT := L2N.CX P w
theorem passX {X : Cx} {E : XK} (hs : X.stack = X.env :: X.outer) (hf : X.env.frame = some X.env.locals) (hex : X.ex = []) {E₁ : Value → Shared → Prop}
    (hx : X.xe = fun e s' => wpAny (model X.prog X.w) X.A (leaving X.env e) (fun _ s'' => L2N.CX X.prog X.w X.outer X.H_0 X.s_0 E e s'') E₁ s') : Passes (L2N.CX X.prog X.w) X E :=
  L2N.passes_call (L2N.takes_of hs hf hex hx) fun _ _ _ _ h => h
/-- promises by a relation between data -/
def spF (K : PySem.W.Frag) (n : Nat) (A : List PyData → PyData → Prop) : Sp := fun vs H Q _ => ∃ F ds d, Fd F H ∧ DaL K (hid F H) ds vs ∧ ds.length = n ∧ A ds d ∧ ∀ v H', Same H H' → Da K (hid F H') d v → Q v H'
def spG (K : PySem.W.Frag) (n : Nat) (A : List PyData → Except Str PyData → Prop) : Sp := fun vs H Q E => ∃ F ds r, Fd F H ∧ DaL K (hid F H) ds vs ∧ ds.length = n ∧ A ds r ∧
  (∀ d, r = .ok d → ∀ v H', Same H H' → Da K (hid F H') d v → Q v H') ∧ (∀ c, r = .error c → ∀ H', Same H H' → E (.ref (He.ga K c)) none H')
theorem spF.len {K : PySem.W.Frag} {n : Nat} {A : List PyData → PyData → Prop} {vs : List V} {H : Hp} {Q : VK} {E : XK} (h : spF K n A vs H Q E) : vs.length = n := by
  obtain ⟨F, ds, d, _, h1, h2, _⟩ := h
  rw [h1.length, h2]
theorem spG.len {K : PySem.W.Frag} {n : Nat} {A : List PyData → Except Str PyData → Prop} {vs : List V} {H : Hp} {Q : VK} {E : XK} (h : spG K n A vs H Q E) : vs.length = n := by
  obtain ⟨F, ds, d, _, h1, h2, _⟩ := h
  rw [h1.length, h2]
theorem sd_F {K : PySem.W.Frag} {n : Nat} {A : List PyData → PyData → Prop} {ds : List PyData} {d : PyData} (h : A ds d) (hn : ds.length = n) : SD K (spF K n A) ds d := fun F vs H f l Q E k => ⟨F, ds, d, f, l, hn, h, k⟩
abbrev FnD (K : PySem.W.Frag) (x : Str) (st : Stmt) : Prop := ∃ fd, FunD K x x (defArgs st) (defBody st) (defScope st) [] [] (He.ga K x) fd
section
variable {P : Program} {w : World} {K : PySem.W.Frag} {mg : Str → Option Value} {base : Heap}
/-- THE RULE for a pure def -/
theorem cal_F {x : Str} {st : Stmt} {N ps : List Str} {k n : Nat} {A : List PyData → PyData → Prop} (FD : FnD K x st) (gx : mg x = some (.ref (He.ga K x))) (S : FnScope N ps (defScope st)) (hn : n = ps.length)
    (hb : ∀ (kV doc pm : Value) (an : Option Addr) (cdv ct : Value) (us : List Value), us.length = ps.length → bindArgs (PySem.W.fnOf x x (defArgs st) (defBody st) (defScope st) .none kV doc pm an cdv ct) ⟨us, []⟩ = pure (ps.zip us))
    (hbody : ∀ (f : Addr) (cdv : Value) (A' : Around) (outer : List Env) (s : Shared) (H : Hp) (vs : List V) (Q : VK) (E : XK) (F : List Addr) (ds : List PyData) (d : PyData), Room k (A'.deeper (envOfC x (defScope st) s.heap.objs.size f cdv)) → Fd F H → DaL K (hid F H) ds vs → A ds d → (∀ v H', Same H H' → Da K (hid F H') d v → Q v H') →
      ∃ t, PSs (cxOf CX0 P w K mg base N x (defScope st) f cdv A' outer s H E).nox (defBody st) t ∧ t { nx := fun _ H' => Q .non H', rt := Q } (start N vs) H) : Cal P w K mg base CX0 (k + 1) x ps (spF K n A) := by
  obtain ⟨fd, FD⟩ := FD
  refine ⟨_, fd, gx, FD.kp, FD.bindsN hb, FD.ok S (fun vs H Q E h => hn ▸ h.len) fun cdv A' outer s H vs Q E hr h => ?_⟩
  obtain ⟨F, ds, d, f, l, _, a, q⟩ := h
  obtain ⟨t, h1, h2⟩ := hbody _ cdv A' outer s H vs Q E F ds d hr f l a q
  exact ⟨t, h1.nox, h2⟩
/-- .. for one that may raise -/
theorem cal_G {x : Str} {st : Stmt} {N ps : List Str} {k n : Nat} {A : List PyData → Except Str PyData → Prop} (FD : FnD K x st) (gx : mg x = some (.ref (He.ga K x))) (S : FnScope N ps (defScope st)) (hn : n = ps.length)
    (hb : ∀ (kV doc pm : Value) (an : Option Addr) (cdv ct : Value) (us : List Value), us.length = ps.length → bindArgs (PySem.W.fnOf x x (defArgs st) (defBody st) (defScope st) .none kV doc pm an cdv ct) ⟨us, []⟩ = pure (ps.zip us))
    (hbody : ∀ (f : Addr) (cdv : Value) (A' : Around) (outer : List Env) (s : Shared) (H : Hp) (vs : List V) (Q : VK) (E : XK) (F : List Addr) (ds : List PyData) (r : Except Str PyData), Room k (A'.deeper (envOfC x (defScope st) s.heap.objs.size f cdv)) → Fd F H → DaL K (hid F H) ds vs → A ds r →
      (∀ d, r = .ok d → ∀ v H', Same H H' → Da K (hid F H') d v → Q v H') → (∀ c, r = .error c → ∀ H', Same H H' → E (.ref (He.ga K c)) none H') →
      ∃ t, PSs (cxOf (XC P w) P w K mg base N x (defScope st) f cdv A' outer s H E) (defBody st) t ∧ t { nx := fun _ H' => Q .non H', rt := Q } (start N vs) H) : Cal P w K mg base (XC P w) (k + 1) x ps (spG K n A) := by
  obtain ⟨fd, FD⟩ := FD
  refine ⟨_, fd, gx, FD.kp, FD.bindsN hb, FD.ok S (fun vs H Q E h => hn ▸ h.len) fun cdv A' outer s H vs Q E hr h => ?_⟩
  obtain ⟨F, ds, r, f, l, _, a, q1, q2⟩ := h
  exact hbody _ cdv A' outer s H vs Q E F ds r hr f l a q1 q2
end
/-! ### statements -/
theorem s_next {nx : L2.St → Hp → Prop} {rt : VK} {bk ct : L2.St → Hp → Prop} {σ : L2.St} {H : Hp} (h : nx σ H) : tNext ⟨nx, rt, bk, ct⟩ σ H := h
theorem s_seq {t u : TS} {D : Ends} {σ : L2.St} {H : Hp} (h : t ⟨u D, D.rt, D.bk, D.ct⟩ σ H) : tSeq t u D σ H := h
section
variable {R : Hp → Hp → Prop} [ROk R] {K : PySem.W.Frag} {F : List Addr} {σ : L2.St} {H H' : Hp} {ta tb te : TE} {d : PyData} {v : V} {D : Ends} {nx bk ct : L2.St → Hp → Prop} {rt : VK} {t u : TS} {c : TT}
theorem s_set {i : Nat} (h : DV R K F te σ H d) (f : Fd F H) (k : ∀ v H1, R H H1 → Da K (hid F H1) d v → nx (σ.set i (some v)) H1) : tAsg te (gName i) ⟨nx, rt, bk, ct⟩ σ H := h H (r_refl H) f _ k
theorem s_ret (h : DV R K F te σ H d) (f : Fd F H) (k : ∀ v H1, R H H1 → Da K (hid F H1) d v → rt v H1) : tRet te ⟨nx, rt, bk, ct⟩ σ H := h H (r_refl H) f _ k
theorem s_drop (h : DV R K F te σ H d) (f : Fd F H) (k : ∀ H1, R H H1 → nx σ H1) : tDrop te ⟨nx, rt, bk, ct⟩ σ H := h H (r_refl H) f _ fun _ H1 r _ => k H1 r
theorem s_if {b : Bool} (h : DT R F c σ H b) (f : Fd F H) (h1 : b = true → ∀ H1, R H H1 → t D σ H1) (h2 : b = false → ∀ H1, R H H1 → u D σ H1) : tIfS c t u D σ H := h H (r_refl H) f _ fun H1 r => by
  cases b with
  | true => exact h1 rfl H1 r
  | false => exact h2 rfl H1 r
/-- a call of a def that may raise, its value dropped -/
theorem s_call {n : Nat} {A : List PyData → Except Str PyData → Prop} {E : XK} {tr : TA} {ds : List PyData} {r : Except Str PyData} (h : DA R K F tr σ H ds) (f : Fd F H) (ha : A ds r) (hn : ds.length = n)
    (k1 : ∀ d, r = .ok d → ∀ H1, R H H1 → nx σ H1) (k2 : ∀ c, r = .error c → ∀ H1, R H H1 → E (.ref (He.ga K c)) none H1) : tDrop (tCall (spG K n A) [] E tr) ⟨nx, rt, bk, ct⟩ σ H :=
  h H (r_refl H) f _ fun vs H1 r1 l => by
    rw [List.append_nil]
    exact ⟨F, ds, r, r_fd r1 f, l, hn, ha, fun d e v H2 s2 _ => k1 d e H2 (ROk.trans r1 (ROk.same s2)), fun c e H2 s2 => k2 c e H2 (ROk.trans r1 (ROk.same s2))⟩
/-- l.append(e), l the owner's -/
theorem s_append {i : Nat} {l : Addr} {xs : List V} (hσ : σ[i]? = some (some (.ref l))) (hl : H l = some (.lst xs)) (f : Fd F H) (h : DV R K (l :: F) te σ H d) (hz : xs.length < sizeLine)
    (k : ∀ v H1, R H H1 → Da K (hid (l :: F) H1) d v → nx σ (upd H1 l (.lst (xs ++ [v])))) : tDrop (tBM K "list" rAppend (tVar i) (tCons te tNil)) ⟨nx, rt, bk, ct⟩ σ H := by
  refine ⟨_, hσ, Or.inl ⟨rfl, _, SqL.of hl⟩, ?_⟩
  refine h H (r_refl H) (f.cons hl fun ps z => by cases z) _ fun v H1 r1 hv => ?_
  exact ⟨l, xs, v, rfl, rfl, ROk.ext r1 _ _ hl (fun ps z => by cases z), hz, k v H1 r1 hv⟩
/-- an owner's list changed: what is not the owner's stays -/
theorem hid_chg {l : Addr} {H1 : Hp} {o : HO} : Xt (hid (l :: F) H1) (hid (l :: F) (upd H1 l o)) := fun b u e nt => by
  obtain ⟨e1, e2⟩ := hid_le e
  rw [hid_out e2, upd_ne fun z => e2 (by rw [z]; exact List.mem_cons_self)]
  exact e1
/-- for x in l: a list that stays, as all that is not the owner's -/
theorem s_forL {i : Nat} {ds : List PyData} {tb : TS} (h : DV R K F ta σ H (.list ds)) (f : Fd F H)
    (k : ∀ H1, R H H1 → Fd F H1 → ∃ Pv : Nat → L2.St → Hp → Prop, Pv 0 σ H1 ∧ (∀ j σ' H', Pv j σ' H' → Xt (hid F H1) (hid F H')) ∧
      (∀ j σ' H' d v, ds[j]? = some d → Pv j σ' H' → Da K (hid F H') d v → tb ⟨Pv (j + 1), rt, nx, Pv (j + 1)⟩ (σ'.set i (some v)) H') ∧ (∀ σ' H', Pv ds.length σ' H' → nx σ' H')) :
    tFor (iList K ta) (gName i) tb ⟨nx, rt, bk, ct⟩ σ H := h H (r_refl H) f _ fun v H1 r1 hv => by
  obtain ⟨a, xs, e1, g, l⟩ := hv
  obtain ⟨Pv, p0, px, ps, pd⟩ := k H1 r1 (r_fd r1 f)
  refine ⟨a, e1, ⟨xs, SqL.of (hid_le g).1⟩, for_list (K := K) (a := a) (xs := xs) (D := ⟨nx, rt, bk, ct⟩) Pv p0 (fun j σ' H' _ p => ?_) (fun j x σ' H' hx p => ?_) (fun σ' H' p => pd σ' H' (by rw [← l.length]; exact p))⟩
  · exact SqL.of (hid_le (px j σ' H' p a _ g fun ps z => by cases z)).1
  · obtain ⟨d, hd1, hdv⟩ := l.get' hx
    exact ps j σ' H' d x hd1 p (hdv.mono (px j σ' H' p))
/-- for x in range(n) -/
theorem s_forR {i : Nat} {n : Int} {tb : TS} (h : DV R K F ta σ H (.int n)) (f : Fd F H) (h0 : -1000000 ≤ n) (h1 : n ≤ 1000000)
    (k : ∀ H1, R H H1 → Fd F H1 → ∃ Pv : Nat → L2.St → Hp → Prop, Pv 0 σ H1 ∧
      (∀ (j : Nat) σ' H', (j : Int) < n → Pv j σ' H' → tb ⟨Pv (j + 1), rt, nx, Pv (j + 1)⟩ (σ'.set i (some (.int (j : Int)))) H') ∧ (∀ σ' H', Pv n.toNat σ' H' → nx σ' H')) :
    tFor (iRng1 (tCons ta tNil)) (gName i) tb ⟨nx, rt, bk, ct⟩ σ H := h H (r_refl H) f _ fun v H1 r1 hv => by
  have hv : v = .int n := hv
  subst hv
  obtain ⟨Pv, p0, ps, pd⟩ := k H1 r1 (r_fd r1 f)
  refine ⟨n, rfl, by omega, by omega, for_range (lo := 0) (n := n.toNat) (D := ⟨nx, rt, bk, ct⟩) Pv p0 (fun j σ' H' hj p => ?_) pd⟩
  have e : (0 : Int) + (j : Int) = (j : Int) := Int.zero_add _
  rw [e]
  exact ps j σ' H' (by omega) p
end
end Sc

namespace Sc
open PySem PySem.Spec PyProof.Rows L2
/-! ### lists walked while an exception is handled -/
section
variable {prog : Program} {w : World} {A : Around} {E : Value → Shared → Prop} {s : Shared}
theorem hot_end {it l x1 : Addr} {i : Nat} {its : Array Value} {Q : Option Value → Shared → Prop} (hot : HotX.HotAt A x1 s.heap) (nx : x1 ≠ it) (hi : s.heap.IsListIter it l i) (hl : s.heap.IsList l its) (he : its[i]? = none)
    (k : ∀ h', (∀ b o, b ≠ it → s.heap.get? b = some o → h'.get? b = some o) → Q none { s with heap := h' }) : wpAny (model prog w) A (pyNext (.ref it)) Q E s := by
  obtain ⟨hh, o1, vs1, g1, d1, c1⟩ := hot
  obtain ⟨oi, gi, ci, di⟩ := id hi
  obtain ⟨ol, gl, _, nl, dl⟩ := hl
  unfold pyNext
  refine wpAny_bind (wpAny_attempt (wpAny_callSpecial?_slot (name := Str.ofString "__next__") hi.typeIs slot_listiter_next (wpAny_call_entry slot_listiter_next hi.typeIs entry_listiter_next ?_ (args_listiter_next _))))
  show wpAny _ _ (field (.ref it) 0 >>= _) _ _ s; refine wpAny_bind (wpAny_field gi di (x := .ref l) rfl ?_)
  show wpAny _ _ (if (Value.ref l == Value.none) = true then _ else _) _ _ s; rw [if_neg (show ¬ ((Value.ref l == Value.none) = true) from Bool.false_ne_true)]
  show wpAny _ _ (field (.ref it) 1 >>= _) _ _ s; refine wpAny_bind (wpAny_field gi di (x := .int i 0) rfl ?_)
  show wpAny _ _ (seqItems? (.ref l) >>= _) _ _ s; refine wpAny_bind (wpAny_seqItems gl dl ?_)
  simp only [Int.toNat_natCast, he]
  refine wpAny_bind (wpAny_rule (wpAny_bind (wpAny_setField gi di (by simp) ?_)))
  generalize hg : s.heap.update it _ = hA
  have gA : ∀ b o, b ≠ it → s.heap.get? b = some o → hA.get? b = some o := fun b o hb e => by rw [← hg]; exact (Heap.get?_update_other _ _ (Ne.symm hb)).trans e
  show wpAny _ _ (newExc (.type "StopIteration") [] >>= _) _ _ _; refine wpAny_bind ?_; simp only [newExc, newTuple]
  refine wpAny_bind (wpAny_newObj_type ?_ (by size_fits)); refine wpAny_bind (m := firstArgMember _ _) (wpAny_of_eq (a := Value.none) (by first | rfl | (simp only [firstArgMember]; rfl)) ?_); refine wpAny_newObj_type ?_ (by size_fits)
  have g2 := gA x1 o1 nx g1
  refine HotX.raiseNew_hot ⟨hh, o1, vs1, Heap.get?_push_of_some _ (Heap.get?_push_of_some _ g2), d1, c1⟩ (Nat.ne_of_lt (Heap.lt_size (Heap.get?_push_of_some _ g2))) (Heap.get?_push_size _ rfl) rfl (by first | (simp; done) | (simp; omega)) ?_
  refine wpAny_bind (wpAny_isInstance (T := "StopIteration") (b := true) ⟨_, Heap.get?_update_self _ (Heap.get?_push_size _ rfl) rfl, rfl⟩ isSubtype_stop ?_)
  refine wpAny_pure (k _ fun b o hb e => ?_)
  rw [Heap.get?_update_other _ _ (Nat.ne_of_gt (Heap.lt_size (Heap.get?_push_of_some _ (gA b o hb e))))]
  exact Heap.get?_push_of_some _ (Heap.get?_push_of_some _ (gA b o hb e))
/-- the handled exception's object, as it stands -/
def HotO (x1 : Addr) (h : Heap) : Prop := ∃ (o : Obj) (vs : Array Value), h.get? x1 = some o ∧ o.data = .fields vs ∧ vs[2]? = some .none
theorem HotO.at {x1 : Addr} {h h' : Heap} (x : HotO x1 h) (e : ∀ o, h.get? x1 = some o → h'.get? x1 = some o) : HotO x1 h' := let ⟨o, vs, g, d, c⟩ := x; ⟨o, vs, e o g, d, c⟩
theorem walks_hot {x1 : Addr} (hh : A.handled = some (.ref x1)) (I ax : Addr) (hne : ax ≠ I) (hnx : x1 ≠ I) (its : Array Value) :
    Walks prog w A I [I, ax, x1] [I] its.size (fun i v => its[i]? = some v) (fun i h => h.IsListIter I ax i ∧ h.IsList ax its ∧ HotO x1 h) where
  sub := fun b hb => by
    have e : b = I := by simpa using hb
    simp [e]
  frame := fun _ _ _ st hk => ⟨st.1.at fun o e => hk I (by simp) o e, st.2.1.at fun o e => hk ax (by simp) o e, st.2.2.at fun o e => hk x1 (by simp) o e⟩
  item := fun i s Q E hi st hQ => wpAny_pyNext_list_item st.1 st.2.1 (x := its[i]) (by simp [hi]) fun h' hit' hs' =>
    hQ _ h' s.toks (by simp [hi]) ⟨hit', st.2.1.extBut hs'.extBut hne, st.2.2.at fun o e => hs'.extBut _ o hnx e⟩ fun b o hb e => hs'.extBut b o (fun z => hb (by simp [z])) e
  done := fun s Q E st hQ => by
    obtain ⟨o, vs, g, d, c⟩ := st.2.2
    exact hot_end ⟨hh, o, vs, g, d, c⟩ hnx st.1 st.2.1 (by simp) fun h' k => hQ h' s.toks fun b o hb e => k b o (fun z => hb (by simp [z])) e
  self := fun _ _ _ _ st hQ => wpAny_pyIter_listiter st.1 hQ
/-- sum of a list of ints there -/
theorem hot_sum {x1 l : Addr} {its : List Value} {ns : List Int} {Q : Value → Shared → Prop} (hh : A.handled = some (.ref x1)) (hx : HotO x1 s.heap) (hl : s.heap.IsList l its.toArray) (hi : IntsAre its ns)
    (k : ∀ h' tk t', (∀ b o, s.heap.get? b = some o → h'.get? b = some o) → Q (.int ns.sum t') { s with heap := h', toks := tk }) : wpAny (model prog w) A (call (.builtin "sum") [.ref l]) Q E s := by
  obtain ⟨xs, e⟩ := hi.allInts.items
  have hn : numsOf (intItems xs).toList = ns := by rw [← e]; exact hi.numsOf
  rw [nums_intItems] at hn
  rw [e] at hl
  have hxl : x1 < s.heap.objs.size := by obtain ⟨o, _, g, _⟩ := hx; exact Heap.lt_size g
  refine call_sum_walkG (iter_intList hl fun s2 e2 st hfp hlI => ?_)
  subst e2
  refine ⟨_, _, _, _, _, _, numAt xs, rfl, walks_hot (A := A.in1) hh _ l hlI (Nat.ne_of_lt hxl) (intItems xs), ⟨st.1, st.2, hx.at fun o g => Heap.get?_push_of_some _ g⟩, fun b hb => ?_, fun _ _ => intItems_at, fun h' tk t' hk => ?_⟩
  · rcases List.mem_cons.mp hb with z | z
    · exact hfp b (by simp [z])
    · rcases List.mem_cons.mp z with z | z
      · exact hfp b (by simp [z])
      · have z : b = x1 := by simpa using z
        rw [z]
        show x1 < (s.heap.push _).objs.size
        rw [Heap.size_push]
        exact Nat.lt_succ_of_lt hxl
  · have z := k h' tk t' (old_kept hk)
    rw [← hn, ← List.take_of_length_le (l := xs.toList.map (·.1)) (i := xs.size) (by simp), ← preSum_eq] at z
    simpa [intItems] using z
end
end Sc

namespace Sc
open PySem PySem.Spec PyProof.Rows L2
theorem boot_int : bootBuiltins "int" = some (.type "int") := by decide +kernel
theorem a_lt {b l x N : Nat} (h1 : l < N) (h2 : x < N) (h : b = N ∨ b = l ∨ b = x) : b < N + 1 := by omega
theorem a_off {b N C D : Nat} (hb : b < N ∨ b = C) (hC : N + 1 ≤ C) (hD : N + 1 ≤ D) (h : D ≠ C) : ¬ (b = D ∨ b = N) := by omega
theorem a_ne {b N C : Nat} (hb : b < N + 1) (hC : N + 1 ≤ C) : b ≠ C := by omega
theorem vals_bools : ∀ {bs : List Bool} {us : List Value}, Vals (bs.map V.bl) us → us = bs.map Value.bool
  | [], us, r => by cases r; rfl
  | b :: bs, us, r => by
    cases r with
    | cons r1 rr =>
      have e : _ = Value.bool b := r1
      rw [e, vals_bools rr]
      rfl
abbrev b2i (b : Bool) : Int := if b then 1 else 0
abbrev flagsE (scope : Scope) (pa p1 p2 p3 pi pos : Pos) : Expr := .ListComp (.Call (.Name "int" p1) [.Name "flag" p2] [] p3) [⟨.Name "flag" pa, .Name "flags" pi, [], 0⟩] scope pos
theorem nums_of {bs : List Bool} {us : List Value} (h : Paired (fun (b : Bool) (u : Value) => ∃ t, u = .int (b2i b) t) bs us) : Vals (bs.map fun b => V.int (b2i b)) us := by
  induction h with
  | nil => exact .nil
  | cons a _ ih =>
    obtain ⟨t, e⟩ := a
    exact .cons ⟨t, e⟩ ih
/-- [int(flag) for flag in flags], while an exception is handled -/
theorem pe_flags0 {X : Cx} {i : Nat} {scope : Scope} {cl : List (Str × Addr)} {pa p1 p2 p3 pi pos : Pos} (hot : L2H.HotC X) (hmI : X.mg "int" = none) (hi : X.N[i]? = some ("flags" : Str)) (hv : Vis X.env.scope "flags")
    (hclos : closureFor scope X.env = pure cl) (hcell : ∀ y ∈ scope.names, y.2 ≠ .cell) (hkind : scope.kind = .function) (hnames : ∀ y ∈ scope.names, y.2 = .local → scope.names.lookup y.1 = some .local)
    (hx : scope.names.lookup ("flag" : Str) = some .local) (hI : ∀ C, (compEnvC scope cl C X.env).kindOf "int" = some .globalImplicit) (hs : ∀ x, foldedSetIterable (.Name "flags" pi) X.env x = pure x := by intro _; rfl) :
    PE X (flagsE scope pa p1 p2 p3 pi pos) (fun σ H Q => ∃ (l : Addr) (bs : List Bool), σ[i]? = some (some (.ref l)) ∧ H l = some (.lst (bs.map V.bl)) ∧ ∀ D, H D = none → Q (.ref D) (upd H D (.lst (bs.map fun b => V.int (b2i b))))) := by
  refine ⟨fun pins s σ H Q I h => ?_⟩
  obtain ⟨l, bs, hσ, hl, q⟩ := h
  obtain ⟨p, ⟨hh, v1, e1, c1⟩, hp⟩ := hot
  refine ListComp_goes hclos hcell hkind hnames ?_ hs
  refine thn ((pe_var (pos := pi) (i := i) hi hv).run pins s σ H (fun v H1 => v = .ref l ∧ H1 = H) I ⟨.ref l, hσ, rfl, rfl⟩) fun u s1 hu => ?_
  obtain ⟨v, H1, I1, rv, rfl, rfl⟩ := hu
  obtain rfl : u = Value.ref l := rv
  have P1 := I1.pin p (List.mem_append_left _ hp)
  obtain ⟨hz, its, n0, rits, gl⟩ := I1.hok l _ hl
  have eits := vals_bools rits
  subst eits
  have hz : bs.length ≤ sizeLine := by simpa using hz
  have il : s1.heap.IsList l (bs.map Value.bool).toArray := ⟨_, gl, rfl, _, rfl⟩
  have hlt : l < s1.heap.objs.size := Heap.lt_size gl
  have hxlt : p.1 < s1.heap.objs.size := Heap.lt_size P1.1
  have hxo : HotO p.1 s1.heap := ⟨p.2, v1, P1.1, e1, c1⟩
  refine wpAny_pyIter_list il ?_
  have nx : p.1 ≠ s1.heap.objs.size := Nat.ne_of_lt hxlt
  refine ⟨s1.heap.objs.size, _, _, _, _, _, rfl, Goes.ofWalks (walks_hot hh s1.heap.objs.size l (Nat.ne_of_lt hlt) nx (bs.map Value.bool).toArray) (fun i v s Q E st q => ?_), ?_, ⟨⟨_, Heap.get?_push_size _ rfl, rfl, rfl⟩, il.push _, hxo.at fun o g => Heap.get?_push_of_some _ g⟩, ?_, fun D C s3 hB => ?_⟩
  · obtain ⟨o, ho, hc, hd⟩ := st.1
    exact letGo_of_cls ho hc hd (by decide) q
  · simpa using hz
  · intro b hb
    show b < (s1.heap.push _).objs.size
    rw [Heap.size_push]
    exact a_lt hlt hxlt (by simpa using hb)
  · obtain ⟨⟨h3, tk3, rfl⟩, old, nD, nC, hDC, hnm⟩ := hB
    have nC' : s1.heap.objs.size + 1 ≤ C := by
      have q : (s1.heap.push { cls := .type "list_iterator", data := .fields #[.ref l, .int 0 0] }).objs.size ≤ C := nC
      rw [Heap.size_push] at q
      exact q
    have nD' : s1.heap.objs.size + 1 ≤ D := by
      have q : (s1.heap.push { cls := .type "list_iterator", data := .fields #[.ref l, .int 0 0] }).objs.size ≤ D := nD
      rw [Heap.size_push] at q
      exact q
    have kx : (compEnvC scope cl C X.env).kindOf "flag" = some .local := lookup_relabel_local hx
    have hpp : ((compEnvC scope cl C X.env).scope.kind == .class || ((compEnvC scope cl C X.env).scope.kind == .module && (compEnvC scope cl C X.env).locals != (compEnvC scope cl C X.env).globals)) = false := by
      show (scope.kind == .class || (scope.kind == .module && _)) = false
      rw [hkind]; rfl
    refine ⟨fun i vs s2 => ∃ h' tk m, s2 = { s1 with heap := h', toks := tk } ∧ h'.Ns C m ∧ Paired (fun (b : Bool) (u : Value) => ∃ t, u = .int (b2i b) t) (bs.take i) vs ∧ ∀ b o, s1.heap.get? b = some o → h'.get? b = some o,
      ⟨h3, tk3, _, rfl, hnm, by simpa using Paired.nil, fun b o e => old b o (Heap.get?_push_of_some _ e)⟩, ?_, ?_, ?_⟩
    · rintro i vs s2 h' tk ⟨h4, tk4, m, rfl, n4, e4, k4⟩ hk' _
      have off : ∀ b : Addr, (b < s1.heap.objs.size ∨ b = C) → b ∉ D :: [s1.heap.objs.size] := fun b hb hm => a_off hb nC' nD' hDC (by simpa using hm)
      exact ⟨h', tk, m, rfl, n4.at' fun o e => hk' _ o (off _ (.inr rfl)) e, e4, fun b o e => hk' b o (off _ (.inl (Heap.lt_size e))) (k4 b o e)⟩
    · rintro i v vs s2 hi2 hv2 st ⟨h4, tk4, m, rfl, n4, e4, k4⟩ hpl
      have hv3 : (bs.map Value.bool)[i]? = some v := by simpa using hv2
      rw [List.getElem?_map] at hv3
      obtain ⟨b, hb, rfl⟩ := Option.map_eq_some_iff.mp hv3
      refine wpAny_assign_Name (wpAny_storeName_local kx n4 (fun h5 n5 s5 => ?_) hpp)
      refine wpAny_tests_nil ?_
      have offC : ∀ b : Addr, b < s1.heap.objs.size + 1 → b ≠ C := fun b hb => a_ne hb nC'
      have k5 : ∀ b o, s1.heap.get? b = some o → h5.get? b = some o := fun b o e => s5.extBut b o (offC b (Nat.lt_succ_of_lt (Heap.lt_size e))) (k4 b o e)
      show wpAny _ _ (eval (.Call (.Name "int" p1) [.Name "flag" p2] [] p3) (compEnvC scope cl C X.env)) _ _ _
      obtain ⟨mb, hb1, hb2⟩ := I1.mod.blt
      have I5 : Inv X pins σ H1 { s1 with heap := h5, toks := tk4 } := I1.kept k5
      refine wpAny_Call_Name_kw (Calls.Name_function_global hkind (hI C) (Calls.loadGlobal_builtin (mg := X.mg) (by show h5.Ns X.env.globals X.mg; rw [I1.ok.glob]; exact I5.mod.glob.keeps I5.bk) hmI (by show h5.Ns X.env.builtins mb; rw [I1.ok.blt]; exact hb1.keeps I5.bk) ((hb2 "int" (by decide)).trans boot_int) ?_) (by decide))
      refine PyProof.Rows.callWith_type1 ?_ rfl rfl
      show wpAny _ _ (spliced ((false, eval (.Name "flag" p2) (compEnvC scope cl C X.env)) :: backTo p3 (starEach [] (compEnvC scope cl C X.env)))) _ _ _
      refine Calls.spliced_cons ?_
      rw [eval_Name _ _ _ (by decide)]
      refine wpAny_bind (wpAny_standAt (wpAny_loadName_local hkind kx n5 (v := .bool b) (if_pos rfl) ?_))
      refine Calls.spliced_nil (call_int_bool ⟨⟨h5, _, _, rfl, n5, ?_, k5⟩, ⟨st.1.at fun o e => s5.extBut _ o (offC _ (Nat.lt_succ_self _)) e, st.2.1.at fun o e => s5.extBut _ o (offC _ (Nat.lt_succ_of_lt hlt)) e, st.2.2.at fun o e => s5.extBut _ o (offC _ (Nat.lt_succ_of_lt hxlt)) e⟩, hpl.at fun o e => s5.extBut _ o hDC e⟩)
      rw [List.take_add_one, hb]
      exact Paired.snoc e4 ⟨_, rfl⟩
    · rintro vs s2 ⟨h4, tk4, m, rfl, n4, e4, k4⟩ hpl
      refine ⟨m, n4, fun h' hs' => ?_⟩
      have k6 : ∀ b o, s1.heap.get? b = some o → h'.get? b = some o := fun b o e => hs'.extBut b o (a_ne (Nat.lt_succ_of_lt (Heap.lt_size e)) nC') (k4 b o e)
      have hpl' := hpl.extBut hs'.extBut hDC
      obtain ⟨n9, g9⟩ := hpl'
      have nH : H1 D = none := I1.hok.fresh (Nat.le_of_succ_le nD')
      have e5 : Vals (bs.map fun b => V.int (b2i b)) vs := by
        have := nums_of e4
        rwa [List.take_of_length_le (by simp)] at this
      exact ⟨.ref D, upd H1 D (.lst (bs.map fun b => V.int (b2i b))), I1.laid k6 (Nat.le_of_succ_le nD') ⟨by simpa using hz, vs, n9, e5, g9⟩, rfl, q D nH⟩

def flagsOk (scope : Scope) : Bool := decide (scope.kind = .function) && (scope.names.lookup ("flag" : Str) == some .local) && scope.names.all fun y => !decide (y.2 = .free) && !decide (y.2 = .cell) && (!decide (y.2 = .local) || scope.names.lookup y.1 == some .local)
theorem pe_flags {X : Cx} (i : Nat) {scope : Scope} {pa p1 p2 p3 pi pos : Pos} (hot : L2H.HotC X) (hmI : X.mg "int" = none) (hs : flagsOk scope = true) (hv : Vis X.env.scope "flags") (hi : X.N[i]? = some ("flags" : Str) := by rfl)
    (hI : ∀ C, (compEnvC scope (cloFrom X.env.cells scope.names []) C X.env).kindOf "int" = some .globalImplicit := by intro _; rfl) :
    PE X (flagsE scope pa p1 p2 p3 pi pos) (fun σ H Q => ∃ (l : Addr) (bs : List Bool), σ[i]? = some (some (.ref l)) ∧ H l = some (.lst (bs.map V.bl)) ∧ ∀ D, H D = none → Q (.ref D) (upd H D (.lst (bs.map fun b => V.int (b2i b))))) := by
  unfold flagsOk at hs
  simp only [Bool.and_eq_true, Bool.or_eq_true, Bool.not_eq_true', decide_eq_true_eq, decide_eq_false_iff_not, List.all_eq_true, beq_iff_eq] at hs
  obtain ⟨⟨h1, h2⟩, h3⟩ := hs
  exact pe_flags0 hot hmI hi hv (closure_ok fun y hy e => absurd e (h3 y hy).1.1) (fun y hy => (h3 y hy).1.2) h1 (fun y hy e => (h3 y hy).2.resolve_left fun z => z e) h2 hI
theorem _root_.L2H.RoomH.units {k : Nat} {A : Around} (r : L2H.RoomH k A) : A.units + 64 < cLine := by have := r.un; omega
theorem ints_are : ∀ {ns : List Int} {us : List Value}, Vals (ns.map V.int) us → IntsAre us ns
  | [], us, r => by cases r; exact .nil
  | n :: ns, us, r => by
    cases r with
    | cons r1 rr =>
      obtain ⟨t, e⟩ := r1
      subst e
      exact .cons _ _ (ints_are rr)
/-- sum of a list of ints there -/
def rSumH : List V → Hp → VK → Prop := fun xs H Q => ∃ (l : Addr) (ns : List Int), xs = [.ref l] ∧ H l = some (.lst (ns.map V.int)) ∧ Q (.int ns.sum) H
theorem cr_sumH {X : Cx} (hot : L2H.HotC X) : CallR X (.builtin "sum") rSumH := by
  intro pins s σ H xs us Q I r h
  obtain ⟨l, ns, rfl, hl, q⟩ := h
  cases r with
  | cons rx rr =>
    cases rr
    cases rx
    obtain ⟨p, ⟨hh, v1, e1, c1⟩, hp⟩ := hot
    have P1 := I.pin p (List.mem_append_left _ hp)
    obtain ⟨hz, its, n0, rits, gl⟩ := I.hok l _ hl
    exact hot_sum hh ⟨p.2, v1, P1.1, e1, c1⟩ ⟨_, gl, rfl, _, rfl⟩ (ints_are rits) fun h' tk t' k => ⟨.int ns.sum, H, I.kept k, ⟨t', rfl⟩, q⟩
/-- isinstance(e, c), e a pinned error of the class D -/
theorem cr_isH {X : Cx} {a D : Addr} {oe : Obj} (C : ExcC X.K D) (hz : Zc (.ref D) none oe) (hf : ∃ vs, oe.data = .fields vs) (hp : (a, oe) ∈ X.pn) : CallR X (.builtin "isinstance") (rIsE X.K D a) := by
  intro pins s σ H xs us Q I r h
  obtain ⟨c, cv, b, rfl, hcv, e, q⟩ := h
  cases r with
  | cons rx rr =>
    cases rr with
    | cons rt rr =>
      cases rr
      cases rx
      have ec := hcv _ rt
      subst ec
      obtain ⟨hget, _⟩ := I.pin (a, oe) (List.mem_append_left _ hp)
      obtain ⟨vs, hv⟩ := hf
      have J : PySem.W.InstAt s.heap a oe D none := by
        cases oe
        obtain ⟨h1, h2⟩ := hz
        dsimp only at h1 h2 hv
        subst h1 h2 hv
        exact ⟨hget, rfl, rfl, trivial⟩
      exact PySem.W.kia_one (PySem.W.handS_kitx_exc C.hg C.hk C.hs C.hd C.ha C.hn C.ht C.hm) I.kIn J e (fun z => nomatch z) fun tk => ⟨.bl b, H, I.kept (t' := tk) fun _ _ z => z, rfl, q⟩
/-! ### the def that gets the handled exception -/
section
variable {P : Program} {w : World} {K : PySem.W.Frag} {mg : Str → Option Value} {base : Heap} {k : Nat} {f : Addr} {N : List Str} {x y : Str} {st : Stmt} {fd : FuncData}
theorem hot_run {A : Around} {outer : List Env} {s : Shared} {H : Hp} {a : Addr} {oe : Obj} {Q : VK} {E : XK} (FD : FunD K x x (defArgs st) (defBody st) (defScope st) [] [] f fd) (S : FnScope N [y] (defScope st))
    (hb : ∀ (kV doc pm : Value) (an : Option Addr) (cdv ct : Value) (us : List Value), us.length = 1 → bindArgs (PySem.W.fnOf x x (defArgs st) (defBody st) (defScope st) .none kV doc pm an cdv ct) ⟨us, []⟩ = pure ([y].zip us))
    (hr : L2H.RoomH (k + 1) A) (pin : L2H.PinOk outer H s (a, oe)) (e0 : Env0 P w K mg base A outer s H)
    (hbody : ∀ cdv, L2H.RoomH k (A.deeper (envOfC x (defScope st) s.heap.objs.size f cdv)) → ∃ t, PSs (L2H.cxH CX0 P w K mg base N x (defScope st) f cdv A outer s H E (a, oe)) (defBody st) t ∧ t { nx := fun _ H' => Q .non H', rt := Q } (L2.start N [.ref a]) H) :
    codeAny (model P w) A (.call (.ref f) ⟨[.ref a], []⟩) (CR CX0 outer P w H s Q E) s := by
  have bd := FD.bindsA (ps := [y]) hb s [.ref a] rfl
  obtain ⟨oc, od, dV, kV, doc, pm, an, cdv, ct, osl, rfl, lk, hcd, _, _⟩ := FD.ex
  have kin : K.In s.heap := e0.mod.kin.keeps fun b o e => (e0.bs b o e).1
  have nlm : s.heap.NoLimit := e0.mod.nolimit.keeps fun b o e => (e0.bs b o e).1
  refine codeAny_call_function hr.depth (kin _ _ lk) rfl S.co S.gen rfl (PySem.W.codeRec_of kin hcd) (bd _ _ _ _ ?_)
  refine wpAny_newFunctionEnv_cells S.kind (fun ⟨n, v⟩ hy => ?_) fun env he s1 xx => ?_
  · exact (S.par n (List.of_mem_zip hy).1).imp id fun q => ⟨q, PySem.W.cellsFrom_some _ _ _ (.inl q)⟩
  subst he
  refine ⟨nlm.keeps xx.toInCall.keep, codeAny_func ?_⟩
  obtain ⟨t, ht, hq⟩ := hbody cdv (hr.deeper _)
  have J : Inv (L2H.cxH CX0 P w K mg base N x (defScope st) f cdv A outer s H E (a, oe)) [] (L2.start N [.ref a]) H s1 := L2H.inv_startH S pin e0 rfl (.cons rfl .nil) xx
  refine wpAny_mono (ht.run [] s1 _ H _ J hq) (fun fl s2 h2 => ?_) fun e s2 h2 => h2
  cases fl with
  | next =>
    obtain ⟨σ2, H2, J2, q2⟩ := h2
    exact ⟨.non, H2, J2.os, J2.bare, J2.base, J2.hok, rfl, q2⟩
  | ret u =>
    obtain ⟨v2, σ2, H2, J2, r2, q2⟩ := h2
    exact ⟨v2, H2, J2.os, J2.bare, J2.base, J2.hok, r2, q2⟩
  | brk =>
    obtain ⟨_, _, _, q2⟩ := h2
    exact q2.elim
  | cont =>
    obtain ⟨_, _, _, q2⟩ := h2
    exact q2.elim
end
/-- f(e): what a def makes of a state, of the exception at a -/
structure HotFn (P : Program) (w : World) (K : PySem.W.Frag) (mg : Str → Option Value) (base : Heap) (k : Nat) (x : Str) (r : Addr → Obj → Hp → VK → Prop) : Prop where
  ex : ∃ g, mg x = some (.ref g) ∧ PySem.W.keepIn K (.ref g) = true ∧ ∀ (A : Around) (outer : List Env) (s : Shared) (H : Hp) (a : Addr) (oe : Obj) (Q : VK), L2H.RoomH k A → L2H.Hot1 A (a, oe) → L2H.PinOk outer H s (a, oe) → Env0 P w K mg base A outer s H → r a oe H Q →
    codeAny (model P w) A (.call (.ref g) ⟨[.ref a], []⟩) (CR CX0 outer P w H s Q C8.E0) s
theorem pe_hotcall {X : Cx} {k i : Nat} {x y : Str} {r : Addr → Obj → Hp → VK → Prop} {a : Addr} {oe : Obj} {p p2 pos : Pos} (hp : (a, oe) ∈ X.pn) (hot : L2H.Hot1 X.A (a, oe)) (C : HotFn X.prog X.w X.K X.mg X.base k x r) (hr : L2H.RoomH k X.A) (hi : X.N[i]? = some y) (hv : Vis X.env.scope y) (hg : Gl X x)
    (hdb : (x == ("__debug__" : Str)) = false) (hdy : (y == ("__debug__" : Str)) = false) (hcy : (y == ("__classdict__" : Str)) = false)
    (he : starEach [.Name y p2] X.env = (false, eval (.Name y p2) X.env) :: starEach [] X.env := by rfl) :
    PE X (.Call (.Name x p) [.Name y p2] [] pos) (fun σ H Q => σ[i]? = some (some (.ref a)) ∧ r a oe H Q) := by
  refine ⟨fun pins s σ H Q I h => ?_⟩
  obtain ⟨hσ, h⟩ := h
  obtain ⟨g, hm, hk, run⟩ := C.ex
  refine wpAny_Call_Name_kw (ld_glob I hg hm ?_ hdb)
  have ha : PA X [.Name y p2] (tCons (tVar i) tNil) := pa_cons (pe_var hi hv hdy hcy) pa_nil
  refine PySem.W.callWith_K (h₀ := X.base) I.ok.mod.kin hk (thn (ha.run pos pins s σ H (fun vs H1 => vs = [V.ref a] ∧ H1 = H) I ⟨_, hσ, rfl, rfl⟩) fun us s1 ⟨vs, H1, I1, r1, q1⟩ => ⟨I1.kIn, ?_⟩) he rfl
  obtain ⟨rfl, rfl⟩ := q1
  cases r1 with
  | cons ru rn =>
    cases rn
    cases ru
    have P1 := I1.pin (a, oe) (List.mem_append_left _ hp)
    have hpin : L2H.PinOk X.stack H1 s1 (a, oe) := ⟨P1.1, P1.2.1, fun hm => (List.mem_cons.mp (I1.stkSub a hm)).elim P1.2.2.1 P1.2.2.2.1, P1.2.2.2.2⟩
    refine wpAny_call (codeAny_mono (run X.A X.stack s1 H1 a oe Q hr hot hpin I1.env0 h) fun r s' hq => ?_)
    cases r with
    | error e => exact (show False from hq).elim
    | ok fl =>
      cases fl with
      | ret u => exact I1.after hq
      | next => exact False.elim hq
      | brk => exact False.elim hq
      | cont => exact False.elim hq
end Sc

namespace Sc
open PySem PySem.Spec PyProof.Rows L2
/-! ### classes of errors -/
structure WordF (K : PySem.W.Frag) (CL : List Str) : Prop where
  ec : ∀ c ∈ CL, ExcC K (He.ga K c)
  ki : ∀ c ∈ CL, ∀ c' ∈ CL, PySem.W.kitOne K (.ref (He.ga K c)) (.ref (He.ga K c')) = some (decide (c = c'))
  ve : ∀ c ∈ CL, PySem.W.kitOne K (.ref (He.ga K c)) (.type "ValueError") = some true
def excCB (K : PySem.W.Frag) (D : Addr) : Bool :=
  (PySem.W.findIn K (.ref D) "__getattribute__" == some (some (.builtin "BaseException.__getattribute__"))) && (PySem.W.findIn K (.ref D) "__getattr__" == some none) && (PySem.W.subIn K (.ref D) (.type "BaseException") == some true) && PySem.W.hasDictIn K D
  && (PySem.W.findIn K (.ref D) "__class__" == some (some (.builtin "object.__class__"))) && (PySem.W.specialIn K (.builtin "object.__class__") "__get__" == some (some (.builtin "getset_descriptor.__get__"))) && (PySem.W.takesIn K (.builtin "object.__class__") == some true) && (PySem.W.mroIn K D (.type "object") == some true)
theorem excCB_of {K : PySem.W.Frag} {D : Addr} (h : excCB K D = true) : ExcC K D := by
  unfold excCB at h
  simp only [Bool.and_eq_true, beq_iff_eq] at h
  obtain ⟨⟨⟨⟨⟨⟨⟨h1, h2⟩, h3⟩, h4⟩, h5⟩, h6⟩, h7⟩, h8⟩ := h
  exact ⟨h1, h2, h3, h4, h5, h6, h7, h8⟩
def wordB (CL : List Str) (K : PySem.W.Frag) : Bool := CL.all fun c => excCB K (He.ga K c) && (PySem.W.kitOne K (.ref (He.ga K c)) (.type "ValueError") == some true) && CL.all fun c' => PySem.W.kitOne K (.ref (He.ga K c)) (.ref (He.ga K c')) == some (decide (c = c'))
theorem wordB_of {K : PySem.W.Frag} {CL : List Str} (h : wordB CL K = true) : WordF K CL := by
  unfold wordB at h
  simp only [List.all_eq_true, Bool.and_eq_true, beq_iff_eq] at h
  exact ⟨fun c hc => excCB_of (h c hc).1.1, fun c hc c' hc' => (h c hc).2 c' hc', fun c hc => (h c hc).1.2⟩
/-- what `_law_word` makes of an error -/
def rWord (K : PySem.W.Frag) (CL : List Str) (a : Addr) (oe : Obj) (H : Hp) (Q : VK) : Prop :=
  ∃ c ∈ CL, L2N.Zn (.ref (He.ga K c)) none oe ∧ (∃ vs, oe.data = .fields vs) ∧ ∀ l H', Same H H' → H l = none → H' l = some (.tup [.str "refused", .str c]) → Q (.ref l) H'
/-! ### a lambda's body, its exceptions with no context -/
section
variable {X : Cx} {pins : List (Addr × Obj)} {σ : L2.St} {H HZ : Hp} {s s1 : Shared}
/-- the context of the lambda's body -/
def lamN (X : Cx) (A : Around) (outer : List Env) (s : Shared) (H : Hp) (E : XK) (scope : Scope) (f c' : Addr) : Cx :=
  { LamX.lamCx X A outer s H E scope f c' with xe := fun e s' => wpAny (model X.prog X.w) (A.deeper (LamX.lamEnv X scope s.heap.objs.size f c')) (leaving (LamX.lamEnv X scope s.heap.objs.size f c') e) (fun _ s'' => L2N.CX X.prog X.w outer H s E e s'') (fun e' s'' => L2N.CX X.prog X.w outer H s E e' s'') s' }
theorem lamN_start {A : Around} {outer : List Env} {E : XK} {scope : Scope} {f c' : Addr} {h₁ : Heap} {tk : Nat} (I : Inv X pins σ H s) (L : LamX.LamS X.env.scope scope) (e0 : Env0 X.prog X.w X.K X.mg X.base A outer s1 HZ) (hd : A.handled = none)
    (un : Un (frs X.stack) [] H HZ s.heap s1.heap) (hns : h₁.Ns s1.heap.objs.size fun y => ([] : List (Str × Value)).reverse.lookup y) (kp : ∀ b o, s1.heap.get? b = some o → h₁.get? b = some o) :
    Inv (lamN X A outer s1 HZ E scope f c') [] σ HZ { s1 with heap := h₁, toks := tk } := by
  have J := LamX.lam_start2 (E := E) (f := f) (c' := c') (tk := tk) I L e0 hd un hns kp
  exact J.wish _

abbrev clos (X : Cx) (scope : Scope) : List (Str × Addr) := cloFrom X.env.cells scope.names []
abbrev lq (X : Cx) : Str := X.env.qual ++ "<lambda>"
abbrev oLam (X : Cx) (params : Arguments) (body : Expr) (scope : Scope) (pm : Value) (c' : Addr) (ctv : Value) : Obj := PySem.W.kla_obj "<lambda>" (lq X) params body scope (clos X scope) pm c' ctv
/-- the context of the def that got the lambda -/
abbrev toldCx (X : Cx) (N : List Str) (x : Str) (sg : Scope) (g : Addr) (cdg : Value) (s : Shared) (H : Hp) : Cx := (cxOf CX0 X.prog X.w X.K X.mg X.base N x sg g cdg X.A X.stack s H E0).nox
/-- deed(), in the def that got the lambda -/
theorem pe_deed {N : List Str} {x a : Str} {sg : Scope} {g f c' : Addr} {cdg pm ctv : Value} {params : Arguments} {body : Expr} {scope : Scope} {k i : Nat} {pn : List (Addr × Obj)} {xe : Value → Shared → Prop} {W : WX} {E : XK} {tb : TE} {p1 p2 : Pos}
    (I : Inv X pins σ H s) (L : LamX.LamS X.env.scope scope) (hf : s.heap.get? f = some (oLam X params body scope pm c' ctv)) (hfn : H f = none) (hfr : f ∉ frs X.stack)
    (hbind : bindArgs (PySem.W.kla_fn "<lambda>" (lq X) params body scope (clos X scope) pm (.ref c') ctv) ⟨[], []⟩ = pure [])
    (tk : L2N.Takes ((toldCx X N x sg g cdg s H).tr pn xe) W) (hW : ∀ cls d σ' H', E cls d H' → W cls d σ' H') (hr : Room (k + 1) (X.A.deeper (envOfC x sg s.heap.objs.size g cdg)))
    (hbody : ∀ (A : Around) (outer : List Env) (s : Shared) (H : Hp), Room k (A.deeper (LamX.lamEnv X scope s.heap.objs.size f c')) → PE (lamN X A outer s H E scope f c') body tb)
    (hN : N[i]? = some a) (hv : Vis sg a) (hd : (a == ("__debug__" : Str)) = false) (hcd : (a == ("__classdict__" : Str)) = false) :
    PE ((toldCx X N x sg g cdg s H).tr pn xe) (.Call (.Name a p1) [] [] p2) (fun σZ HZ Q => σZ[i]? = some (some (.ref f)) ∧ HZ c' = some (LamX.CodeO c' (lq X)) ∧ tb σ HZ Q) := by
  constructor
  rintro pinsZ sZ σZ HZ Q IZ ⟨hs, hc, ht⟩
  refine wpAny_Call_Name_kw (thn ((pe_var (pos := p1) (i := i) hN hv hd hcd).run pinsZ sZ σZ HZ (fun v H1 => v = .ref f ∧ H1 = HZ) IZ ⟨.ref f, hs, rfl, rfl⟩) ?_)
  rintro u s1 ⟨v, H1, I1, r1, rfl, rfl⟩
  obtain rfl : u = Value.ref f := r1
  have of1 : s1.heap.get? f = some (oLam X params body scope pm c' ctv) := I1.base.keep f _ hf hfn hfr fun z => nomatch (show f ∈ ([] : List Addr) from z)
  refine PySem.W.callWith_F0 ⟨_, _, _, _, of1⟩ ?_
  have un : Un (frs X.stack) [] H H1 s.heap s1.heap := I1.base
  obtain ⟨⟨oc, vs, t, hoc, hdc, hvc⟩, _, _⟩ := I1.hok c' _ hc
  have rc : codeAny (model X.prog X.w) (X.A.deeper (envOfC x sg s.heap.objs.size g cdg)) (.call (.ref f) ⟨[], []⟩) (CR (L2N.CX X.prog X.w) (envOfC x sg s.heap.objs.size g cdg :: X.stack) X.prog X.w H1 s1 Q E) s1 := by
    refine PySem.W.kla_callFunE hr.depth of1 rfl L.co L.gen rfl ⟨c', oc, vs, t, rfl, hoc, hdc, hvc⟩ ?_
    rw [hbind]
    refine wpAny_pure (wpAny_newFunctionEnv (fun y hy => (L.own y hy).2) (fun y hy => absurd hy (by simp)) (fun h₁ hns hsb => ⟨I1.nolimit.fresh _ hsb, ?_⟩) L.kind)
    show codeAny _ _ (.expr body (LamX.lamEnv X scope s1.heap.objs.size f c')) _ _
    have kp : ∀ b o, s1.heap.get? b = some o → h₁.get? b = some o := fun b o e => hsb.extBut b o (Nat.ne_of_lt (Heap.lt_size e)) (Heap.get?_push_of_some _ e)
    have J := lamN_start (E := E) (f := f) (c' := c') (tk := s1.toks + ([] : List (Str × Value)).length) I L I1.env0 hr.hd un hns kp
    refine PySem.W.kla_codeExpr (wpAny_mono ((hbody _ _ s1 H1 (hr.deeper _)).run [] _ _ H1 Q J ht) ?_ fun e s' hq => hq)
    rintro v s' ⟨w', H', J', rv, q⟩
    exact ⟨w', H', J'.os, J'.bare, J'.base, J'.hok, rv, q⟩
  refine wpAny_call (codeAny_mono rc ?_)
  rintro (e | fl) s' hq
  · exact L2N.passes_call tk hW pinsZ σZ H1 s1 e s' I1 hq
  · cases fl with
    | ret u => exact I1.after hq
    | next => exact hq.elim
    | brk => exact hq.elim
    | cont => exact hq.elim
/-- x(lambda: body): where an error of the body goes -/
def eTold (K : PySem.W.Frag) (CL : List Str) (Q : VK) : XK := fun cls d H => ∃ c ∈ CL, cls = .ref (He.ga K c) ∧ d = none ∧ ∀ l H', Same H H' → H l = none → H' l = some (.tup [.str "refused", .str c]) → Q (.ref l) H'
def tTold (T : List (Addr × Str)) (K : PySem.W.Frag) (CL : List Str) (t : XK → TE) : TE := fun σ H Q => LamX.Tabs T H ∧ ∀ H1, LamX.ExtN H H1 → LamX.Tabs T H1 → t (eTold K CL Q) σ H1 Q
/-- the def `told` -/
abbrev toldBody (a e n wd : Str) (p1 p2 p3 p4 p5 p6 p7 p8 p9 p0 : Pos) : List Stmt :=
  [.Try [.Return (some (.Call (.Name a p1) [] [] p2)) p3] [.ExceptHandler (some (.Name e p4)) (some n) [.Return (some (.Call (.Name wd p5) [.Name n p6] [] p7)) p8] p9] [] [] p0]
theorem ps_ret_of {X : Cx} {e : Expr} {te : TE} {ts : TS} {pos : Pos} (he : PE X e te) (h : ∀ D σ H, σ.length = X.N.length → ts D σ H → te σ H D.rt) : PSs X [.Return (some e) pos] ts := by
  refine ⟨fun pins s σ H D I hq => ?_⟩
  exact (pss_one (ps_ret (pos := pos) he)).run pins s σ H D I (h D σ H I.len hq)
theorem takesN {X : Cx} : L2N.Takes X (fun _ _ _ _ => False) := fun _ _ ⟨_, _, _, _, _, _, _, _, _, _, _, _, _, _, _, _, z⟩ => z.elim
theorem told_body {N : List Str} {x a e n wd : Str} {sg : Scope} {g f c' : Addr} {cdg : Value} {CL : List Str} {q : Str} {Q : VK} {tl : XK → Hp → VK → Prop} {k : Nat} {p1 p2 p3 p4 p5 p6 p7 p8 p9 p0 : Pos}
    (act : ∀ (W : WX) (pn : List (Addr × Obj)) (xe : Value → Shared → Prop) (E : XK), L2N.Takes ((toldCx X N x sg g cdg s H).tr pn xe) W → (∀ cls d σ' H', E cls d H' → W cls d σ' H') →
      PE ((toldCx X N x sg g cdg s H).tr pn xe) (.Call (.Name a p1) [] [] p2) (fun σZ HZ Q => σZ[0]? = some (some (.ref f)) ∧ HZ c' = some (LamX.CodeO c' q) ∧ tl E HZ Q))
    (hc : H c' = some (LamX.CodeO c' q)) (ht : tl (eTold X.K CL Q) H Q) (nd : N.Nodup) (hN : N = [a, n]) (hn : sg.names.lookup n = some .local) (hdn : (n == ("__debug__" : Str)) = false) (hcn : (n == ("__classdict__" : Str)) = false)
    (hge : sg.names.lookup e = some .globalImplicit) (hme : X.mg e = some (.ref (He.ga X.K e))) (hde : (e == ("__debug__" : Str)) = false) (hex : ∀ c ∈ CL, PySem.W.exmOne X.K (.ref (He.ga X.K c)) (.ref (He.ga X.K e)) = some true)
    (hgw : sg.names.lookup wd = some .globalImplicit) (hdw : (wd == ("__debug__" : Str)) = false) (hw : HotFn X.prog X.w X.K X.mg X.base k wd (rWord X.K CL)) (hr : Room k (X.A.deeper (envOfC x sg s.heap.objs.size g cdg))) :
    ∃ t, PSs (toldCx X N x sg g cdg s H) (toldBody a e n wd p1 p2 p3 p4 p5 p6 p7 p8 p9 p0) t ∧ t { nx := fun _ H' => Q .non H', rt := Q } (L2.start N [.ref f]) H := by
  subst hN
  refine ⟨_, pss_one (L2N.ps_try_as (X := toldCx X [a, n] x sg g cdg s H) (i := 1) (c := .ref (He.ga X.K e))
      (tb := fun W D σ H => ∃ Ech : XK, (∀ cls d σ' H', Ech cls d H' → W cls d σ' H') ∧ σ[0]? = some (some (.ref f)) ∧ H c' = some (LamX.CodeO c' q) ∧ tl Ech H D.rt)
      (ts := fun a cls d D σ H => (∃ σ0 : L2.St, σ = σ0.set 1 (some (.ref a))) ∧ ∃ c ∈ CL, cls = .ref (He.ga X.K c) ∧ d = none ∧ ∀ l H', Same H H' → H l = none → H' l = some (.tup [.str "refused", .str c]) → D.rt (.ref l) H')
      rfl rfl nd rfl hn ⟨hge, hde, .inl hme⟩ takesN (fun W pn xe tk _ => ?_) fun a2 oe cls d pn hz hv => ?_), ?_⟩
  · refine ⟨fun pins s' σ H' D I h' => ?_⟩
    obtain ⟨Ech, hW, h1, h2, h3⟩ := h'
    exact (pss_one (ps_ret (pos := p3) (act W pn xe Ech tk hW))).run pins s' σ H' D I ⟨h1, h2, h3⟩
  · refine ps_ret_of (pe_hotcall (i := 1) (k := k) (r := rWord X.K CL) (a := a2) (oe := oe) List.mem_cons_self ⟨rfl, ?_⟩ hw ⟨hr.dp, hr.un⟩ rfl (.inl hn) hgw hdw hdn hcn) ?_
    · obtain ⟨vs, e1⟩ := hv
      exact ⟨vs, e1, hz.2.2 vs e1⟩
    · rintro D σ H' hl ⟨⟨σ0, rfl⟩, c, hc1, rfl, rfl, h2⟩
      refine ⟨?_, c, hc1, hz, hv, h2⟩
      have hl : σ0.length = 2 := by rw [List.length_set] at hl; exact hl
      rw [List.getElem?_set_self (by omega)]
  · refine ⟨eTold X.K CL Q, ?_, rfl, hc, ht⟩
    rintro cls d σ' H' ⟨c, hc1, rfl, rfl, h2⟩
    refine ⟨true, hex c hc1, fun _ a2 ha2 => ⟨⟨σ', rfl⟩, c, hc1, rfl, rfl, h2⟩, fun z => nomatch z⟩
/-- told(lambda: body) -/
theorem pe_told {T : List (Addr × Str)} {CL N : List Str} {x a e n wd : Str} {c P : Addr} {k kw : Nat} {st : Stmt} {params : Arguments} {body : Expr} {scope : Scope} {t : XK → TE} {p lpos pos : Pos}
    (FD : FnD X.K x st) (gx : X.mg x = some (.ref (He.ga X.K x))) (S : FnScope N [a] (defScope st)) (hN : N = [a, n])
    (hb : ∀ (kV doc pm : Value) (an : Option Addr) (cdv ct : Value) (us : List Value), us.length = 1 → bindArgs (PySem.W.fnOf x x (defArgs st) (defBody st) (defScope st) .none kV doc pm an cdv ct) ⟨us, []⟩ = pure ([a].zip us))
    (hbd : ∃ p1 p2 p3 p4 p5 p6 p7 p8 p9 p0, defBody st = toldBody a e n wd p1 p2 p3 p4 p5 p6 p7 p8 p9 p0)
    (hn : (defScope st).names.lookup n = some .local) (hva : Vis (defScope st) a) (hge : (defScope st).names.lookup e = some .globalImplicit) (hgw : (defScope st).names.lookup wd = some .globalImplicit)
    (hd : [x, a, e, n, wd].all (fun y => !(y == ("__debug__" : Str)) && !(y == ("__classdict__" : Str))) = true)
    (hme : X.mg e = some (.ref (He.ga X.K e))) (hex : ∀ c ∈ CL, PySem.W.exmOne X.K (.ref (He.ga X.K c)) (.ref (He.ga X.K e)) = some true) (hw : HotFn X.prog X.w X.K X.mg X.base kw wd (rWord X.K CL)) (hkw : kw ≤ k + 1)
    (TB : LamX.TabB X.base X.mg c P) (hcode : X.env.code = .ref c) (hmT : (P, lq X) ∈ T) (hu : ∀ p ∈ T, p.1 = P → p.2 = lq X) (hr : Room (k + 2) X.A) (hg : Gl X x) (L : LamX.LamS X.env.scope scope) (hdef : defaultsOf params X.env = ([], []))
    (hbind : ∀ (q : Str) (cl : List (Str × Addr)) (pm cv ctv : Value), bindArgs (PySem.W.kla_fn "<lambda>" q params body scope cl pm cv ctv) ⟨[], []⟩ = pure [])
    (hbody : ∀ (A : Around) (outer : List Env) (s : Shared) (H : Hp) (E : XK) (f c' : Addr), Room k (A.deeper (LamX.lamEnv X scope s.heap.objs.size f c')) → PE (lamN X A outer s H E scope f c') body (t E)) :
    PE X (.Call (.Name x p) [.Lambda params body scope lpos] [] pos) (tTold T X.K CL t) := by
  simp only [List.all_cons, List.all_nil, Bool.and_eq_true, Bool.not_eq_true', Bool.and_true] at hd
  obtain ⟨⟨d1, _⟩, ⟨d2, e2⟩, ⟨d3, _⟩, ⟨d4, e4⟩, d5, _⟩ := hd
  obtain ⟨fd, FD⟩ := FD
  obtain ⟨p1, p2, p3, p4, p5, p6, p7, p8, p9, p0, hbd⟩ := hbd
  constructor
  rintro pins s σ H Q I ⟨hT, h⟩
  refine wpAny_Call_Name_kw (ld_glob I hg gx ?_ d1)
  refine PySem.W.callWith_K (h₀ := X.base) I.ok.mod.kin FD.kp ?_ (by rfl) (by rfl)
  show wpAny _ _ (spliced ((false, eval (.Lambda params body scope lpos) X.env) :: backTo pos (starEach [] X.env))) _ _ s
  refine Calls.spliced_cons (LamX.lam_make2 I TB hcode hmT hu hT hdef (L.has I.ok) ?_)
  intro f c' pm' ctv H1 s' I1 eN T1 hf hfn hfr hco
  refine Calls.spliced_nil ⟨I1.kIn, ?_⟩
  have bd := FD.bindsA (ps := [a]) hb s' [.ref f] rfl
  obtain ⟨oc, od, dV, kV, doc, pm, an, cdv, ct, osl, rfl, lk, hcd, _, _⟩ := FD.ex
  have rc : codeAny (model X.prog X.w) X.A (.call (.ref (He.ga X.K x)) ⟨[.ref f], []⟩) (CR CX0 X.stack X.prog X.w H1 s' Q E0) s' := by
    refine LamX.run_ofS (N := N) (ps := [a]) (us := [.ref f]) (vs := [.ref f]) lk hcd S hr I1.env0 bd (.cons rfl .nil) rfl fun hr' => ?_
    rw [hbd]
    obtain ⟨t', ht', hq'⟩ := told_body (X := X) (s := s') (H := H1) (N := N) (x := x) (a := a) (e := e) (n := n) (wd := wd) (sg := defScope st) (g := He.ga X.K x) (cdg := cdv) (CL := CL) (q := lq X) (Q := Q) (k := kw) (p1 := p1) (p2 := p2) (p3 := p3) (p4 := p4) (p5 := p5) (p6 := p6) (p7 := p7) (p8 := p8) (p9 := p9) (p0 := p0) (tl := fun E H' Q' => t E σ H' Q')
      (fun W pn xe E tk hW => pe_deed (i := 0) (k := k) I1 L hf hfn hfr (hbind _ _ _ _ _) tk hW hr' (fun A outer s H hr2 => hbody A outer s H E f c' hr2) (by rw [hN]; rfl) hva d2 e2) hco (h H1 eN T1) S.nd hN hn d4 e4 hge hme d3 hex hgw d5 hw (hr'.mono hkw)
    exact ⟨t', ht'.nox, hq'⟩
  refine wpAny_call (codeAny_mono rc ?_)
  rintro (e | fl) s2 hq
  · exact (show False from hq).elim
  · cases fl with
    | ret u => exact I1.after hq
    | next => exact hq.elim
    | brk => exact hq.elim
    | cont => exact hq.elim
end
end Sc

namespace Sc
open PySem PySem.Spec PyProof.Rows L2
/-! ### heaps go on, tables of code objects too -/
def RT (T : List (Addr × Str)) (H H' : Hp) : Prop := Xt H H' ∧ (LamX.Tabs T H → LamX.Tabs T H')
instance rok_rt {T : List (Addr × Str)} : ROk (RT T) where
  refl := fun H => ⟨LamX.ExtN.refl H, id⟩
  trans := fun a b => ⟨a.1.trans b.1, fun t => b.2 (a.2 t)⟩
  same := fun s => ⟨xt_of s, fun t => t.ext s⟩
  ext := fun r => r.1
  chg := fun {H H' p xs ys} hn hl r => by
    refine ⟨fun b o e n => ?_, fun t q hq => ?_⟩
    · rw [upd_ne (ne_of_none e hn)]
      exact r.1 b o e n
    · obtain ⟨ps, h1, h2, h3⟩ := r.2 t q hq
      have ne : ∀ {b o}, H' b = some o → (∀ zs, o ≠ .lst zs) → b ≠ p := fun e n z => by
        rw [z, hl] at e
        exact n _ (Option.some.inj e).symm
      refine ⟨ps, by rw [upd_ne (ne h1 fun zs z => by cases z)]; exact h1, h2, fun pos cv hc => ?_⟩
      obtain ⟨c, e1, e2⟩ := h3 pos cv hc
      exact ⟨c, e1, by rw [upd_ne (ne e2 fun zs z => by unfold LamX.CodeO at z; cases z)]; exact e2⟩
/-- a lambda's body: a datum, or an error -/
def DX (R : Hp → Hp → Prop) (K : PySem.W.Frag) (F : List Addr) (tb : XK → TE) (σ : L2.St) (H : Hp) (r : Except Str PyData) : Prop := ∀ H1, R H H1 → Fd F H1 → ∀ (Q : VK) (E : XK),
  (∀ d, r = .ok d → ∀ v H2, R H1 H2 → Da K (hid F H2) d v → Q v H2) → (∀ c, r = .error c → ∀ H2, R H1 H2 → E (.ref (He.ga K c)) none H2) → tb E σ H1 Q
def tellOf : Except Str PyData → PyData
  | .ok d => d
  | .error c => .tuple [.str "refused", .str c]
section
variable {R : Hp → Hp → Prop} [ROk R] {T : List (Addr × Str)} {K : PySem.W.Frag} {F : List Addr} {σ : L2.St} {H H' : Hp} {r : Except Str PyData}
theorem dx_call {n : Nat} {A : List PyData → Except Str PyData → Prop} {tr : TA} {ds : List PyData} (h : DA R K F tr σ H ds) (ha : A ds r) (hn : ds.length = n) : DX R K F (fun E => tCall (spG K n A) [] E tr) σ H r :=
  fun H1 r1 f1 Q E k1 k2 => h H1 r1 f1 _ fun vs H2 r2 l => by
    rw [List.append_nil]
    exact ⟨F, ds, r, r_fd r2 f1, l, hn, ha, fun d e v H3 s3 g => k1 d e v H3 (ROk.trans r2 (ROk.same s3)) g, fun c e H3 s3 => k2 c e H3 (ROk.trans r2 (ROk.same s3))⟩
theorem dx_ok {te : TE} {d : PyData} (h : DV R K F te σ H d) : DX R K F (fun _ => te) σ H (.ok d) := fun H1 r1 f1 Q E k1 _ => h H1 r1 f1 Q fun v H2 r2 g => k1 d rfl v H2 r2 g
theorem dv_told {CL : List Str} {tb : XK → TE} (hT : LamX.Tabs T H) (h : DX (RT T) K F tb σ H r) (hc : ∀ c, r = .error c → c ∈ CL) : DV (RT T) K F (tTold T K CL tb) σ H (tellOf r) := fun H1 r1 f1 Q q => by
  refine ⟨r1.2 hT, fun H2 x2 T2 => ?_⟩
  have r2 : RT T H1 H2 := ⟨x2, fun _ => T2⟩
  have f2 := r_fd r2 f1
  refine h H2 (ROk.trans r1 r2) f2 Q _ (fun d e v H3 r3 g => ?_) fun c e H3 r3 => ⟨c, hc c e, rfl, rfl, fun l H4 s4 hl g4 => ?_⟩
  · subst e
    exact q v H3 (ROk.trans r2 r3) g
  · subst e
    refine q _ H4 (ROk.trans r2 (ROk.trans r3 (ROk.same s4))) ⟨l, _, rfl, ?_, _, _, rfl, rfl, _, _, rfl, rfl, rfl⟩
    have nl : l ∉ F := (r_fd r3 f2).new hl
    exact SqT.of (by rw [hid_out nl]; exact g4)
end
end Sc

namespace Sc
open PySem PySem.Spec PyProof.Rows L2
/-- the law's promise -/
def spLaw (K : PySem.W.Frag) (Ts : List (Addr × Str)) : Sp := fun vs H Q _ => ∃ (a : Addr) (ns : List Int), vs = [.ref a] ∧ SqL K H a (ns.map V.int) ∧ ns.length ≤ 63 ∧ (∀ z ∈ ns, Builtin.Int.intBits z ≤ 1048576) ∧ LamX.Tabs Ts H ∧ ∀ H', Q (.bl true) H'
section
variable {P : Program} {w : World} {K : PySem.W.Frag} {mg : Str → Option Value} {base : Heap}
abbrev lawA (K : PySem.W.Frag) : Addr := He.fAd K ("law", none)
abbrev lawC (K : PySem.W.Frag) (x : Str) : Addr := (He.cT K (x, none)).1
abbrev lawP (K : PySem.W.Frag) (x : Str) : Addr := (He.cT K (x, none)).2
/-- the context of the def x, which makes lambdas -/
abbrev lawCx (P : Program) (w : World) (K : PySem.W.Frag) (mg : Str → Option Value) (base : Heap) (N : List Str) (x : Str) (sc : Scope) (A : Around) (outer : List Env) (s : Shared) (H : Hp) : Cx := (cxOf CX0 P w K mg base N x sc (He.fAd K (x, none)) (.ref (lawC K x)) A outer s H E0).nox
theorem fn_lam {x : Str} {st : Stmt} {N ps : List Str} {k : Nat} {sp : Sp} {fd : FuncData} (FD : FunD K x x (defArgs st) (defBody st) (defScope st) [] [] (He.fAd K (x, none)) fd) (S : FnScope N ps (defScope st)) (len : ∀ vs H Q E, sp vs H Q E → vs.length = ps.length) (hE : ∀ vs H Q E, sp vs H Q E → sp vs H Q E0)
    (hbody : ∀ (A : Around) (outer : List Env) (s : Shared) (H : Hp) (vs : List V) (Q : VK), Room k (A.deeper (envOfC x (defScope st) s.heap.objs.size (He.fAd K (x, none)) (.ref (lawC K x)))) → sp vs H Q E0 →
      ∃ t, PSs (lawCx P w K mg base N x (defScope st) A outer s H) (defBody st) t ∧ t { nx := fun _ H' => Q .non H', rt := Q } (start N vs) H) : FnOk P w K mg base CX0 (k + 1) (He.fAd K (x, none)) fd ps sp := by
  obtain ⟨oc, od, dV, kV, doc, pm, an, cdv, ct, osl, rfl, lk, hcd, _, _⟩ := FD.ex
  obtain ⟨c, rfl⟩ := He.codeIn_ref hcd
  have ec : lawC K x = c := He.codeOf_eq lk rfl
  subst ec
  refine fn_of lk hcd S len fun A outer s H vs Q E hr hsp => ?_
  obtain ⟨t, ht, hq⟩ := hbody A outer s H vs Q hr (hE _ _ _ _ hsp)
  exact ⟨t, ht.nox, hq⟩
end
section
variable {R : Hp → Hp → Prop} [ROk R] {K : PySem.W.Frag} {F : List Addr} {σ : L2.St} {H H' : Hp} {ta tb te : TE} {d : PyData} {v : V} {D : Ends} {nx bk ct : L2.St → Hp → Prop} {rt : VK} {t u : TS} {c : TT}
/-- x = [..]: a new list, the owner's -/
theorem s_list {i : Nat} {tr : TA} {ds : List PyData} (h : DA R K F tr σ H ds) (f : Fd F H) (hl : ds.length ≤ sizeLine) (k : ∀ l vs H1, R H H1 → H1 l = none → DaL K (hid F H1) ds vs → nx (σ.set i (some (.ref l))) (upd H1 l (.lst vs))) : tAsg (tLst tr) (gName i) ⟨nx, rt, bk, ct⟩ σ H :=
  h H (r_refl H) f _ fun vs H1 r1 l1 => ⟨by rw [l1.length]; exact hl, fun l hl => k l vs H1 r1 hl l1⟩
/-- what is known goes on behind a new list, seen by the owner -/
theorem hid_new {l : Addr} {o : HO} (hl : H l = none) : Xt (hid F H) (hid (l :: F) (upd H l o)) := fun b u e nt => by
  obtain ⟨e1, e2⟩ := hid_le e
  have ne : b ≠ l := ne_of_none e1 hl
  rw [hid_out (by intro z; rcases List.mem_cons.mp z with z | z; exact ne z; exact e2 z), upd_ne ne]
  exact e1
theorem hid_cons {l : Addr} : Xt (hid (l :: F) H) (hid F H) := hid_sub fun b hb => List.mem_cons_of_mem _ hb
/-- a, b = x, y -/
theorem s_par {i j : Nat} {tr : TA} {d1 d2 : PyData} (h : DA R K F tr σ H [d1, d2]) (f : Fd F H) (k : ∀ v w H1, R H H1 → Da K (hid F H1) d1 v → Da K (hid F H1) d2 w → nx ((σ.set i (some v)).set j (some w)) H1) : tPar i j tr ⟨nx, rt, bk, ct⟩ σ H :=
  h H (r_refl H) f _ fun vs H1 r1 l1 => by
    obtain ⟨v, _, rfl, h1, w, _, rfl, h2, rfl⟩ := l1
    exact ⟨v, w, rfl, k v w H1 r1 h1 h2⟩
theorem dv_max {i j : Int} (ha : DV R K F ta σ H (.int i)) (hb : DV R K F tb σ H (.int j)) : DV R K F (tCB (fun xs H Q => ∃ i j, xs = [V.int i, V.int j] ∧ Q (V.int (if j > i then j else i)) H) (tCons ta (tCons tb tNil))) σ H (.int (max i j)) :=
  dv_cb (da_cons ha (da_cons hb da_nil)) fun vs H1 Q r1 f1 l1 q => by
    obtain ⟨v, _, rfl, h1, w, _, rfl, h2, rfl⟩ := l1
    have h1 : v = .int i := h1
    have h2 : w = .int j := h2
    subst h1 h2
    refine ⟨i, j, rfl, ?_⟩
    have e : (if j > i then j else i) = max i j := by split <;> omega
    rw [e]
    exact q _ H1 (r_refl _) rfl
theorem dv_min {i j : Int} (ha : DV R K F ta σ H (.int i)) (hb : DV R K F tb σ H (.int j)) : DV R K F (tCB (fun xs H Q => ∃ i j, xs = [V.int i, V.int j] ∧ Q (V.int (if j < i then j else i)) H) (tCons ta (tCons tb tNil))) σ H (.int (min i j)) :=
  dv_cb (da_cons ha (da_cons hb da_nil)) fun vs H1 Q r1 f1 l1 q => by
    obtain ⟨v, _, rfl, h1, w, _, rfl, h2, rfl⟩ := l1
    have h1 : v = .int i := h1
    have h2 : w = .int j := h2
    subst h1 h2
    refine ⟨i, j, rfl, ?_⟩
    have e : (if j < i then j else i) = min i j := by split <;> omega
    rw [e]
    exact q _ H1 (r_refl _) rfl
/-- len(script) -/
theorem dv_lenSc {i : Nat} {a : Addr} {xs : List V} (h : σ[i]? = some (some (.ref a))) (hs : SqL K H a xs) : DV R K F (tCB (rLn K) (tCons (tVar i) tNil)) σ H (.int xs.length) := fun H1 r1 f1 Q q =>
  ⟨_, h, _, xs.length, rfl, .inl ⟨_, xt_sqL (ROk.ext r1) hs, rfl⟩, q _ H1 (r_refl _) rfl⟩
/-- a list of the owner's, made behind H0 -/
structure Own (R : Hp → Hp → Prop) (K : PySem.W.Frag) (F : List Addr) (H0 H : Hp) (l : Addr) (ds : List PyData) : Prop where
  new : H0 l = none
  fd : Fd F H0
  r : R H0 H
  at_ : ∃ xs, H l = some (.lst xs) ∧ DaL K (hid (l :: F) H) ds xs
theorem Own.out {H0 : Hp} {l : Addr} {ds : List PyData} (o : Own R K F H0 H l ds) : l ∉ F := o.fd.new o.new
theorem Own.fd1 {H0 : Hp} {l : Addr} {ds : List PyData} (o : Own R K F H0 H l ds) : Fd F H := r_fd o.r o.fd
theorem Own.fd2 {H0 : Hp} {l : Addr} {ds : List PyData} (o : Own R K F H0 H l ds) : Fd (l :: F) H := by
  obtain ⟨xs, h, _⟩ := o.at_
  exact o.fd1.cons h fun ps z => by cases z
theorem Own.da {H0 : Hp} {l : Addr} {ds : List PyData} (o : Own R K F H0 H l ds) : Da K (hid F H) (.list ds) (.ref l) := by
  obtain ⟨xs, h, g⟩ := o.at_
  exact ⟨l, xs, rfl, by rw [hid_out o.out]; exact h, g.mono hid_cons⟩
theorem Own.mono {H0 : Hp} {l : Addr} {ds : List PyData} (o : Own R K F H0 H l ds) (e : R H H') : Own R K F H0 H' l ds := by
  obtain ⟨xs, h, g⟩ := o.at_
  exact ⟨o.new, o.fd, ROk.trans o.r e, xs, ROk.ext e _ _ h (fun ps z => by cases z), g.mono (hid_xt (ROk.ext e))⟩
/-- x = [..] -/
theorem s_own {i : Nat} {tr : TA} {ds : List PyData} (h : DA R K F tr σ H ds) (f : Fd F H) (hl : ds.length ≤ sizeLine) (k : ∀ l H0 H', R H H0 → Own R K F H0 H' l ds → Xt (hid F H0) (hid (l :: F) H') → nx (σ.set i (some (.ref l))) H') : tAsg (tLst tr) (gName i) ⟨nx, rt, bk, ct⟩ σ H :=
  s_list h f hl fun l vs H1 r1 hn g => k l H1 _ r1 ⟨hn, r_fd r1 f, r_new hn, vs, upd_same, g.mono (hid_new hn)⟩ (hid_new hn)
/-- x.append(..) -/
theorem s_push {i : Nat} {l : Addr} {H0 : Hp} {ds : List PyData} (o : Own R K F H0 H l ds) (hσ : σ[i]? = some (some (.ref l))) (h : DV R K (l :: F) te σ H d) (hz : ds.length < sizeLine)
    (k : ∀ H', Own R K F H0 H' l (ds ++ [d]) → Xt (hid (l :: F) H) (hid (l :: F) H') → nx σ H') : tDrop (tBM K "list" rAppend (tVar i) (tCons te tNil)) ⟨nx, rt, bk, ct⟩ σ H := by
  obtain ⟨xs, hx, g⟩ := o.at_
  refine s_append (R := R) (K := K) (F := F) hσ hx o.fd1 h (by rw [g.length]; exact hz) fun v H1 r1 hv => ?_
  have hx1 : H1 l = some (.lst xs) := ROk.ext r1 _ _ hx fun ps z => by cases z
  have x1 : Xt (hid (l :: F) H) (hid (l :: F) (upd H1 l (.lst (xs ++ [v])))) := (hid_xt (ROk.ext r1)).trans hid_chg
  exact k _ ⟨o.new, o.fd, ROk.chg o.new hx1 (ROk.trans o.r r1), xs ++ [v], upd_same, (g.mono x1).snoc (hv.mono hid_chg)⟩ x1
end
end Sc

namespace Sc
open PySem PySem.Spec PyProof.Rows L2
/-! ### things that change -/
/-- only what stands at fp and may change has changed -/
structure Mo (fp : List Addr) (H H' : Hp) : Prop where
  keep : ∀ b o, H b = some o → (isMut o → b ∉ fp) → H' b = some o
  mu : ∀ b o, H b = some o → isMut o → ∃ o', H' b = some o' ∧ isMut o'
abbrev Fm (F : List Addr) (H : Hp) : Prop := Fd F H
section
variable {fp fq F : List Addr} {H H' H'' : Hp} {K : PySem.W.Frag}
theorem Fd.fd (h : Fm F H) : Fd F H := h
theorem Fd.put {a : Addr} {o : HO} (h : Fm F H) (e : H a = some o) (m : isMut o) : Fm (a :: F) H := fun b hb => by
  rcases List.mem_cons.mp hb with z | z
  · exact ⟨o, z ▸ e, m⟩
  · exact h b z
theorem Fd.sub (h : Fm F H) (s : ∀ b ∈ fp, b ∈ F) : Fm fp H := fun a ha => h a (s a ha)
theorem Fd.app (h : Fm F H) (h2 : Fm fp H) : Fm (F ++ fp) H := fun a ha => (List.mem_append.mp ha).elim (h a) (h2 a)
theorem Fd.mo (h : Fm F H) (m : Mo fp H H') : Fm F H' := fun a ha => let ⟨o, e, i⟩ := h a ha; m.mu a o e i
theorem Mo.refl : Mo fp H H := ⟨fun _ _ e _ => e, fun _ o e m => ⟨o, e, m⟩⟩
theorem Mo.trans (a : Mo fp H H') (b : Mo fp H' H'') : Mo fp H H'' := ⟨fun c o e m => b.keep c o (a.keep c o e m) m, fun c o e m => let ⟨o1, e1, m1⟩ := a.mu c o e m; b.mu c o1 e1 m1⟩
theorem Mo.sub (a : Mo fp H H') (s : ∀ b ∈ fp, b ∈ fq) : Mo fq H H' := ⟨fun c o e m => a.keep c o e fun i z => m i (s c z), a.mu⟩
theorem Mo.same (s : Same H H') : Mo fp H H' := ⟨fun c o e _ => s c o e, fun c o e m => ⟨o, s c o e, m⟩⟩
/-- a write at a place of fp, or at a new one -/
theorem Mo.write {a : Addr} {o : HO} (m : Mo fp H H') (h : a ∈ fp ∨ H a = none) (i : isMut o) (j : ∃ u, H' a = some u ∧ isMut u) : Mo fp H (upd H' a o) := by
  obtain ⟨u0, j0, j1⟩ := j
  refine ⟨fun c u e k => ?_, fun c u e k => ?_⟩
  · by_cases hc : c = a
    · subst hc
      rcases h with h | h
      · by_cases mu : isMut u
        · exact absurd h (k mu)
        · have := m.keep c u e k
          rw [j0] at this
          cases this
          exact absurd j1 mu
      · rw [h] at e; cases e
    · rw [upd_ne hc]
      exact m.keep c u e k
  · by_cases hc : c = a
    · subst hc
      exact ⟨o, upd_same, i⟩
    · rw [upd_ne hc]
      exact m.mu c u e k
theorem Mo.new {a : Addr} {o : HO} (m : Mo fp H H') (h : H' a = none) : Mo fp H (upd H' a o) := m.trans (Mo.same (same_new h))
/-- what is not hidden stays -/
theorem Mo.xt (m : Mo fp H H') (s : ∀ b ∈ fp, b ∈ F) : Xt (hid F H) (hid F H') := fun b o e _ => by
  obtain ⟨e1, e2⟩ := hid_le e
  rw [hid_out e2]
  exact m.keep b o e1 fun _ z => e2 (s b z)
theorem Mo.xt2 (m : Mo fp H H') (s : ∀ b ∈ fp, b ∈ F) (n : ∀ b ∈ fq, b ∈ F ∨ H b = none) : Xt (hid F H) (hid (fq ++ F) H') := fun b o e _ => by
  obtain ⟨e1, e2⟩ := hid_le e
  have nb : b ∉ fq ++ F := fun z => by
    rcases List.mem_append.mp z with z | z
    · rcases n b z with z | z
      · exact e2 z
      · rw [z] at e1; cases e1
    · exact e2 z
  rw [hid_out nb]
  exact m.keep b o e1 fun _ z => e2 (s b z)
theorem Mo.sqL {a : Addr} {o : Obj} {xs : List V} (m : Mo fp H H') (h : H a = some (.frz o (.lst xs))) : H' a = some (.frz o (.lst xs)) := m.keep _ _ h fun i => (show False from i).elim
theorem Mo.tabs {T : List (Addr × Str)} (m : Mo fp H H') (t : LamX.Tabs T H) : LamX.Tabs T H' := fun p hp => by
  obtain ⟨ps, h1, h2, h3⟩ := t p hp
  refine ⟨ps, m.keep _ _ h1 fun i => (show False from i).elim, h2, fun pos cv hc => ?_⟩
  obtain ⟨c, e1, e2⟩ := h3 pos cv hc
  exact ⟨c, e1, m.keep _ _ e2 fun i => (show False from i).elim⟩
/-! ### data without lists -/
mutual
def flat : PyData → Bool
  | .list _ => false
  | .dict _ => false
  | .tuple ds => flatL ds
  | _ => true
def flatL : List PyData → Bool
  | [] => true
  | d :: ds => flat d && flatL ds
end
theorem sqT_keep {a : Addr} {xs : List V} (h : SqT K H a xs) (k : ∀ b o, H b = some o → ¬ isMut o → H' b = some o) : SqT K H' a xs := by
  rcases h with (h | ⟨o, h⟩) | h
  · exact .inl (.inl (k _ _ h fun i => i))
  · exact .inl (.inr ⟨o, k _ _ h fun i => i⟩)
  · exact .inr h
mutual
theorem Da.keep (k : ∀ b o, H b = some o → ¬ isMut o → H' b = some o) : ∀ {d : PyData} {v : V}, flat d = true → Da K H d v → Da K H' d v
  | .none, _, _, h => h
  | .bool _, _, _, h => h
  | .int _, _, _, h => h
  | .str _, _, _, h => h
  | .list ds, _, f, h => by cases f
  | .tuple ds, _, f, h => by
    obtain ⟨a, xs, h1, h2, h3⟩ := h
    exact ⟨a, xs, h1, sqT_keep h2 k, DaL.keep k f h3⟩
  | .dict _, _, f, _ => by cases f
theorem DaL.keep (k : ∀ b o, H b = some o → ¬ isMut o → H' b = some o) : ∀ {ds : List PyData} {vs : List V}, flatL ds = true → DaL K H ds vs → DaL K H' ds vs
  | [], _, _, h => h
  | d :: ds, _, f, h => by
    obtain ⟨w, r, h1, h2, h3⟩ := h
    have f : (flat d && flatL ds) = true := f
    obtain ⟨f1, f2⟩ := Bool.and_eq_true_iff.mp f
    exact ⟨w, r, h1, Da.keep k f1 h2, DaL.keep k f2 h3⟩
end
theorem Da.mo {d : PyData} {v : V} (m : Mo fp H H') (f : flat d = true) (h : Da K H d v) : Da K H' d v := h.keep (fun b o e n => m.keep b o e fun i => absurd i n) f
theorem DaL.mo {ds : List PyData} {vs : List V} (m : Mo fp H H') (f : flatL ds = true) (h : DaL K H ds vs) : DaL K H' ds vs := h.keep (fun b o e n => m.keep b o e fun i => absurd i n) f
theorem Da.hide {d : PyData} {v : V} (fm : Fm F H) (f : flat d = true) (h : Da K H d v) : Da K (hid F H) d v := h.keep (fun b o e n => by
  rw [hid_out fun z => by
    obtain ⟨u, e1, m⟩ := fm b z
    rw [e] at e1
    cases e1
    exact n m]
  exact e) f
theorem DaL.hide {ds : List PyData} {vs : List V} (fm : Fm F H) (f : flatL ds = true) (h : DaL K H ds vs) : DaL K (hid F H) ds vs := h.keep (fun b o e n => by
  rw [hid_out fun z => by
    obtain ⟨u, e1, m⟩ := fm b z
    rw [e] at e1
    cases e1
    exact n m]
  exact e) f
theorem Da.shown {d : PyData} {v : V} (h : Da K (hid F H) d v) : Da K H d v := h.mono xt_hid
theorem DaL.shown {ds : List PyData} {vs : List V} (h : DaL K (hid F H) ds vs) : DaL K H ds vs := h.mono xt_hid
end
/-! ### fields -/
section
variable {R : Hp → Hp → Prop} [ROk R] {K : PySem.W.Frag} {F : List Addr} {σ : L2.St} {H H' : Hp} {ta tb te : TE} {d : PyData} {v : V} {nx bk ct : L2.St → Hp → Prop} {rt : VK} {t u : TS} {c : TT} {a C dx : Addr} {fs : List (Str × V)} {f : Str}
structure FldOk (K : PySem.W.Frag) (C : Addr) (f : Str) : Prop where
  c : Cls K C
  n : NoAttr K C f
theorem dv_fld (ha : VV R F te σ H (.ref a)) (ho : H a = some (.ins C dx fs)) (ok : FldOk K C f) (hf : fs.lookup f = some v) (hd : Da K (hid F H) d v) : DV R K F (tFld K te f) σ H d := fun H1 r1 f1 Q q =>
  ha H1 r1 f1 _ fun H2 r2 => ⟨a, C, dx, fs, v, rfl, ROk.ext (ROk.trans r1 r2) _ _ ho (fun ps z => by cases z), ok.c, ok.n, hf, q v H2 r2 (r_da (ROk.trans r1 r2) hd)⟩
theorem vv_fld (ha : VV R F te σ H (.ref a)) (ho : H a = some (.ins C dx fs)) (ok : FldOk K C f) (hf : fs.lookup f = some v) : VV R F (tFld K te f) σ H v := fun H1 r1 f1 Q q =>
  ha H1 r1 f1 _ fun H2 r2 => ⟨a, C, dx, fs, v, rfl, ROk.ext (ROk.trans r1 r2) _ _ ho (fun ps z => by cases z), ok.c, ok.n, hf, q H2 r2⟩
/-- o.f = value, a datum -/
theorem s_fld (h : DV R K F tb σ H d) (fd : Fd F H) (ha : VV R F te σ H (.ref a)) (ho : H a = some (.ins C dx fs)) (ok : FldOk K C f)
    (k : ∀ v H1, R H H1 → Da K (hid F H1) d v → H1 a = some (.ins C dx fs) → nx σ (upd H1 a (.ins C dx (putF f v fs)))) (hl : fs.length < 1000 := by exact Nat.le_of_ble_eq_true rfl) : sFld K te tb f ⟨nx, rt, bk, ct⟩ σ H :=
  h H (r_refl H) fd _ fun v H1 r1 hv => ha H1 r1 (r_fd r1 fd) _ fun H2 r2 => by
    have ho2 := ROk.ext (ROk.trans r1 r2) _ _ ho (fun ps z => by cases z)
    exact ⟨a, C, dx, fs, rfl, ho2, ok.c, ok.n, hl, k v H2 (ROk.trans r1 r2) (r_da r2 hv) ho2⟩
/-- o.f = value, any value -/
theorem s_fldV (h : VV R F tb σ H v) (fd : Fd F H) (ha : VV R F te σ H (.ref a)) (ho : H a = some (.ins C dx fs)) (ok : FldOk K C f)
    (k : ∀ H1, R H H1 → H1 a = some (.ins C dx fs) → nx σ (upd H1 a (.ins C dx (putF f v fs)))) (hl : fs.length < 1000 := by exact Nat.le_of_ble_eq_true rfl) : sFld K te tb f ⟨nx, rt, bk, ct⟩ σ H :=
  h H (r_refl H) fd _ fun H1 r1 => ha H1 r1 (r_fd r1 fd) _ fun H2 r2 => by
    have ho2 := ROk.ext (ROk.trans r1 r2) _ _ ho (fun ps z => by cases z)
    exact ⟨a, C, dx, fs, rfl, ho2, ok.c, ok.n, hl, k H2 (ROk.trans r1 r2) ho2⟩
/-- l.extend(e) where e gives a list that stands (any way): told by its reading -/
theorem s_ext {i : Nat} {l : Addr} {tx : TE} (hσ : σ[i]? = some (some (.ref l))) (hl : ∃ xs, H l = some (.lst xs)) (k : tx σ H fun v H1 => ∃ b xs zs, v = .ref b ∧ H1 l = some (.lst xs) ∧ H1 b = some (.lst zs) ∧ xs.length + zs.length ≤ sizeLine ∧ nx σ (upd H1 l (.lst (xs ++ zs)))) :
    tDrop (tBM K "list" rExtend (tVar i) (tCons tx tNil)) ⟨nx, rt, bk, ct⟩ σ H := by
  obtain ⟨xs0, hl⟩ := hl
  refine ⟨_, hσ, Or.inl ⟨rfl, _, SqL.of hl⟩, ?_⟩
  have e : (fun v H1 => ∃ b xs zs, v = V.ref b ∧ H1 l = some (.lst xs) ∧ H1 b = some (.lst zs) ∧ xs.length + zs.length ≤ sizeLine ∧ nx σ (upd H1 l (.lst (xs ++ zs)))) = (fun (x : V) (H1 : Hp) => tNil σ H1 fun zs H2 => rExtend (.ref l) (x :: zs) H2 fun _ H3 => nx σ H3) := by
    funext v H1
    apply propext
    constructor
    · rintro ⟨b, xs, zs, rfl, h1, h2, h3, h4⟩
      exact ⟨l, b, xs, zs, rfl, rfl, h1, h2, h3, h4⟩
    · rintro ⟨l', b, xs, zs, e1, e2, h1, h2, h3, h4⟩
      cases e1
      cases e2
      exact ⟨b, xs, zs, rfl, h1, h2, h3, h4⟩
  rw [e] at k
  exact k
/-- while, by a measure -/
theorem s_while {c : TT} {tb : TS} (Pv : Nat → L2.St → Hp → Prop) (m : Nat) (h0 : Pv m σ H)
    (hs : ∀ m σ H, Pv m σ H → ∃ (F : List Addr) (b : Bool), Fd F H ∧ DT R F c σ H b ∧ (b = true → ∀ H1, R H H1 → tb ⟨fun σ' H' => ∃ m', m' < m ∧ Pv m' σ' H', rt, nx, fun σ' H' => ∃ m', m' < m ∧ Pv m' σ' H'⟩ σ H1) ∧ (b = false → ∀ H1, R H H1 → nx σ H1)) : tWhile c tb ⟨nx, rt, bk, ct⟩ σ H :=
  ⟨Pv, ⟨m, h0⟩, fun m σ H h => by
    obtain ⟨F, b, fd, dt, h1, h2⟩ := hs m σ H h
    refine dt H (r_refl H) fd _ fun H1 r1 => ?_
    cases b with
    | true =>
      refine iteT ⟨fun σ' H' => ∃ m', m' < m ∧ Pv m' σ' H', fun σ' H' z => z, h1 rfl H1 r1⟩
    | false => exact iteF (h2 rfl H1 r1)⟩
end
/-! ### methods, makers -/
structure CalM (P : Program) (w : World) (K : PySem.W.Frag) (mg : Str → Option Value) (base : Heap) (CX : CXT) (k : Nat) (C m : Str) (ps : List Str) (sp : Sp) : Prop where
  ex : ∃ fd, Cls K (He.ga K C) ∧ Meth K (He.ga K C) m (He.ma K (He.ga K C) m) ∧ Binds K fd ps [] ∧ FnOk P w K mg base CX k (He.ma K (He.ga K C) m) fd ps sp
structure CalI (P : Program) (w : World) (K : PySem.W.Frag) (mg : Str → Option Value) (base : Heap) (CX : CXT) (k : Nat) (C : Str) (ps : List Str) (sp : Sp) : Prop where
  ex : ∃ fd, Binds K fd ps [] ∧ FnOk P w K mg base CX k (He.ma K (He.ga K C) "__init__") fd ps sp
abbrev FnM (K : PySem.W.Frag) (C m : Str) (q : Str) (st : Stmt) : Prop := ∃ fd, FunD K m q (defArgs st) (defBody st) (defScope st) [] [] (He.fAd K (C, some m)) fd
section
variable {P : Program} {w : World} {K : PySem.W.Frag} {mg : Str → Option Value} {base : Heap}
theorem CalM.of {CX : CXT} {C m q : Str} {st : Stmt} {N ps : List Str} {k : Nat} {sp : Sp} (FD : FnM K C m q st) (c : Cls K (He.ga K C)) (hm : Meth K (He.ga K C) m (He.ma K (He.ga K C) m)) (S : FnScope N ps (defScope st))
    (hb : ∀ (kV doc pm : Value) (an : Option Addr) (cdv ct : Value) (us : List Value), us.length = ps.length → bindArgs (PySem.W.fnOf m q (defArgs st) (defBody st) (defScope st) .none kV doc pm an cdv ct) ⟨us, []⟩ = pure (ps.zip us))
    (len : ∀ vs H Q E, sp vs H Q E → vs.length = ps.length)
    (hbody : ∀ (f : Addr) (cdv : Value) (A' : Around) (outer : List Env) (s : Shared) (H : Hp) (vs : List V) (Q : VK) (E : XK), Room k (A'.deeper (envOfC q (defScope st) s.heap.objs.size f cdv)) → sp vs H Q E →
      ∃ t, PSs (cxOf CX P w K mg base N q (defScope st) f cdv A' outer s H E) (defBody st) t ∧ t { nx := fun _ H' => Q .non H', rt := Q } (start N vs) H) : CalM P w K mg base CX (k + 1) C m ps sp := by
  obtain ⟨fd, FD⟩ := FD
  exact ⟨fd, c, hm, FD.bindsN hb, FD.ok S len fun cdv A' outer s H vs Q E hr h => hbody _ cdv A' outer s H vs Q E hr h⟩
theorem CalI.of {CX : CXT} {C q : Str} {st : Stmt} {N ps : List Str} {k : Nat} {sp : Sp} (FD : FnM K C "__init__" q st) (S : FnScope N ps (defScope st))
    (hb : ∀ (kV doc pm : Value) (an : Option Addr) (cdv ct : Value) (us : List Value), us.length = ps.length → bindArgs (PySem.W.fnOf "__init__" q (defArgs st) (defBody st) (defScope st) .none kV doc pm an cdv ct) ⟨us, []⟩ = pure (ps.zip us))
    (len : ∀ vs H Q E, sp vs H Q E → vs.length = ps.length)
    (hbody : ∀ (f : Addr) (cdv : Value) (A' : Around) (outer : List Env) (s : Shared) (H : Hp) (vs : List V) (Q : VK) (E : XK), Room k (A'.deeper (envOfC q (defScope st) s.heap.objs.size f cdv)) → sp vs H Q E →
      ∃ t, PSs (cxOf CX P w K mg base N q (defScope st) f cdv A' outer s H E) (defBody st) t ∧ t { nx := fun _ H' => Q .non H', rt := Q } (start N vs) H) : CalI P w K mg base CX (k + 1) C ps sp := by
  obtain ⟨fd, FD⟩ := FD
  exact ⟨fd, FD.bindsN hb, FD.ok S len fun cdv A' outer s H vs Q E hr h => hbody _ cdv A' outer s H vs Q E hr h⟩
/-- a plain def, its promise any -/
theorem Cal.of {CX : CXT} {x : Str} {st : Stmt} {N ps : List Str} {k : Nat} {sp : Sp} (FD : FnD K x st) (gx : mg x = some (.ref (He.ga K x))) (S : FnScope N ps (defScope st))
    (hb : ∀ (kV doc pm : Value) (an : Option Addr) (cdv ct : Value) (us : List Value), us.length = ps.length → bindArgs (PySem.W.fnOf x x (defArgs st) (defBody st) (defScope st) .none kV doc pm an cdv ct) ⟨us, []⟩ = pure (ps.zip us))
    (len : ∀ vs H Q E, sp vs H Q E → vs.length = ps.length)
    (hbody : ∀ (f : Addr) (cdv : Value) (A' : Around) (outer : List Env) (s : Shared) (H : Hp) (vs : List V) (Q : VK) (E : XK), Room k (A'.deeper (envOfC x (defScope st) s.heap.objs.size f cdv)) → sp vs H Q E →
      ∃ t, PSs (cxOf CX P w K mg base N x (defScope st) f cdv A' outer s H E) (defBody st) t ∧ t { nx := fun _ H' => Q .non H', rt := Q } (start N vs) H) : Cal P w K mg base CX (k + 1) x ps sp := by
  obtain ⟨fd, FD⟩ := FD
  exact ⟨_, fd, gx, FD.kp, FD.bindsN hb, FD.ok S len fun cdv A' outer s H vs Q E hr h => hbody _ cdv A' outer s H vs Q E hr h⟩
end
theorem CalM.mono {P : Program} {w : World} {K : PySem.W.Frag} {mg : Str → Option Value} {base : Heap} {CX : CXT} {j k : Nat} {C m : Str} {ps : List Str} {sp : Sp} (c : CalM P w K mg base CX j C m ps sp) (h : j ≤ k) : CalM P w K mg base CX k C m ps sp :=
  let ⟨fd, h1, h2, h3, h4⟩ := c.ex
  ⟨fd, h1, h2, h3, h4.mono h⟩
section
variable {X : Cx} {CX : CXT} {k : Nat} {C m x : Str} {ps : List Str} {sp : Sp} {E : XK} {o e : Expr} {es : List Expr} {ta : TE} {t : TA} {p pos apos : Pos}
theorem pe_cmX {pl : Sem Bool} (M : CalM X.prog X.w X.K X.mg X.base CX k C m ps sp) (hr : Room k X.A) (hx : Passes CX X E) (he : PE X o ta) (ha : PA X (e :: es) t) (hst : starEach (e :: es) X.env = (false, eval e X.env) :: starEach es X.env := by rfl) (hpl : (backTo pos (starEach es X.env)).any (·.1) = false := by rfl)
    (ht : eval (.Call (.Attribute o m apos) (e :: es) [] pos) X.env = (do
      let ov ← eval o X.env
      standAt apos.atName
      let (f, first) ← holding [ov] (getMethod ov m pl)
      callWith pos f first (backTo pos (starEach (e :: es) X.env)) (backToKw pos (keywordEach [] X.env))) := by rfl) :
    PE X (.Call (.Attribute o m apos) (e :: es) [] pos) (tMeth (He.ga X.K C) m sp [] E ta t) := by
  obtain ⟨fd, c, hm, b, F⟩ := M.ex
  exact pe_meth (pl := pl) he c hm F hr b .nil hx ha hst hpl ht
theorem pe_cm0X {pl : Sem Bool} (M : CalM X.prog X.w X.K X.mg X.base CX k C m ps sp) (hr : Room k X.A) (hx : Passes CX X E) (he : PE X o ta)
    (ht : eval (.Call (.Attribute o m apos) [] [] pos) X.env = (do
      let ov ← eval o X.env
      standAt apos.atName
      let (f, first) ← holding [ov] (getMethod ov m pl)
      callWith pos f first (backTo pos (starEach [] X.env)) (backToKw pos (keywordEach [] X.env))) := by rfl) :
    PE X (.Call (.Attribute o m apos) [] [] pos) (tMeth (He.ga X.K C) m sp [] E ta tNil) := by
  obtain ⟨fd, c, hm, b, F⟩ := M.ex
  exact pe_meth0 (pl := pl) he c hm F hr b .nil hx ht
/-- C(..), the maker's promise with its self ahead -/
theorem pe_mkX (M : CalI X.prog X.w X.K X.mg X.base CX k C ps sp) (mk : L2.Mk X.K (He.ga X.K C) (He.ma X.K (He.ga X.K C) "__init__")) (hm : X.mg C = some (.ref (He.ga X.K C))) (hr : Room (k + 1) X.A) (hx : Passes CX X E) (ha : PA X (e :: es) t) (hg : Gl X C := by rfl)
    (hdb : (C == ("__debug__" : Str)) = false := by decide) (he : starEach (e :: es) X.env = (false, eval e X.env) :: starEach es X.env := by rfl) (hpl : (backTo pos (starEach es X.env)).any (·.1) = false := by rfl) :
    PE X (.Call (.Name C p) (e :: es) [] pos) (tMake (He.ga X.K C) sp [] E t) := by
  obtain ⟨fd, b, F⟩ := M.ex
  exact pe_make mk F hr hg hm b .nil hx ha hdb he hpl
theorem pe_mk0X (M : CalI X.prog X.w X.K X.mg X.base CX k C ps sp) (mk : L2.Mk X.K (He.ga X.K C) (He.ma X.K (He.ga X.K C) "__init__")) (hm : X.mg C = some (.ref (He.ga X.K C))) (hr : Room (k + 1) X.A) (hx : Passes CX X E) (hg : Gl X C := by rfl)
    (hdb : (C == ("__debug__" : Str)) = false := by decide) : PE X (.Call (.Name C p) [] [] pos) (tMake (He.ga X.K C) sp [] E tNil) := by
  obtain ⟨fd, b, F⟩ := M.ex
  exact pe_make0 mk F hr hg hm b .nil hx hdb
end
section
variable {X : Cx} {CX : CXT} {k : Nat} {C m x : Str} {ps : List Str} {sp : Sp} {E : XK} {o e : Expr} {es : List Expr} {ta : TE} {t : TA} {p pos apos : Pos}
theorem pe_cm (K : PySem.W.Frag) {pl : Sem Bool} (M : CalM X.prog X.w K X.mg X.base CX k C m ps sp) (hr : Room k X.A) (hx : Passes CX X E) (he : PE X o ta) (ha : PA X (e :: es) t) (hK : X.K = K := by rfl) (hst : starEach (e :: es) X.env = (false, eval e X.env) :: starEach es X.env := by rfl) (hpl : (backTo pos (starEach es X.env)).any (·.1) = false := by rfl)
    (ht : eval (.Call (.Attribute o m apos) (e :: es) [] pos) X.env = (do
      let ov ← eval o X.env
      standAt apos.atName
      let (f, first) ← holding [ov] (getMethod ov m pl)
      callWith pos f first (backTo pos (starEach (e :: es) X.env)) (backToKw pos (keywordEach [] X.env))) := by rfl) :
    PE X (.Call (.Attribute o m apos) (e :: es) [] pos) (tMeth (He.ga K C) m sp [] E ta t) := by
  subst hK
  exact pe_cmX (pl := pl) M hr hx he ha hst hpl ht
theorem pe_cm0 (K : PySem.W.Frag) {pl : Sem Bool} (M : CalM X.prog X.w K X.mg X.base CX k C m ps sp) (hr : Room k X.A) (hx : Passes CX X E) (he : PE X o ta) (hK : X.K = K := by rfl)
    (ht : eval (.Call (.Attribute o m apos) [] [] pos) X.env = (do
      let ov ← eval o X.env
      standAt apos.atName
      let (f, first) ← holding [ov] (getMethod ov m pl)
      callWith pos f first (backTo pos (starEach [] X.env)) (backToKw pos (keywordEach [] X.env))) := by rfl) :
    PE X (.Call (.Attribute o m apos) [] [] pos) (tMeth (He.ga K C) m sp [] E ta tNil) := by
  subst hK
  exact pe_cm0X (pl := pl) M hr hx he ht
theorem pe_mk (K : PySem.W.Frag) (M : CalI X.prog X.w K X.mg X.base CX k C ps sp) (mk : L2.Mk K (He.ga K C) (He.ma K (He.ga K C) "__init__")) (hm : X.mg C = some (.ref (He.ga K C))) (hr : Room (k + 1) X.A) (hx : Passes CX X E) (ha : PA X (e :: es) t) (hK : X.K = K := by rfl) (hg : Gl X C := by rfl)
    (hdb : (C == ("__debug__" : Str)) = false := by decide) (he : starEach (e :: es) X.env = (false, eval e X.env) :: starEach es X.env := by rfl) (hpl : (backTo pos (starEach es X.env)).any (·.1) = false := by rfl) :
    PE X (.Call (.Name C p) (e :: es) [] pos) (tMake (He.ga K C) sp [] E t) := by
  subst hK
  exact pe_mkX M mk hm hr hx ha hg hdb he hpl
theorem pe_mk0 (K : PySem.W.Frag) (M : CalI X.prog X.w K X.mg X.base CX k C ps sp) (mk : L2.Mk K (He.ga K C) (He.ma K (He.ga K C) "__init__")) (hm : X.mg C = some (.ref (He.ga K C))) (hr : Room (k + 1) X.A) (hx : Passes CX X E) (hK : X.K = K := by rfl) (hg : Gl X C := by rfl)
    (hdb : (C == ("__debug__" : Str)) = false := by decide) : PE X (.Call (.Name C p) [] [] pos) (tMake (He.ga K C) sp [] E tNil) := by
  subst hK
  exact pe_mk0X M mk hm hr hx hg hdb
end
section
variable {R : Hp → Hp → Prop} [ROk R] {K : PySem.W.Frag} {F : List Addr} {σ : L2.St} {H : Hp} {te : TE} {tr : TA} {ds : List PyData} {d : PyData} {a C dx : Addr} {fs : List (Str × V)} {m : Str} {sp : Sp} {E : XK} {Q : VK}
/-- o.m(..), told of its promise -/
theorem te_meth (ha : VV R F te σ H (.ref a)) (ho : H a = some (.ins C dx fs)) (hm : fs.lookup m = none) (h : DA R K F tr σ H ds) (fd : Fd F H) (k : ∀ us H1, R H H1 → DaL K (hid F H1) ds us → sp (.ref a :: us) H1 Q E) : tMeth C m sp [] E te tr σ H Q :=
  ha H (r_refl H) fd _ fun H1 r1 => ⟨a, dx, fs, rfl, ROk.ext r1 _ _ ho (fun ps z => by cases z), hm, h H1 r1 (r_fd r1 fd) _ fun us H2 r2 l => by
    rw [List.append_nil]
    exact k us H2 (ROk.trans r1 r2) l⟩
theorem te_call (h : DA R K F tr σ H ds) (fd : Fd F H) (k : ∀ us H1, R H H1 → DaL K (hid F H1) ds us → sp us H1 Q E) : tCall sp [] E tr σ H Q :=
  h H (r_refl H) fd _ fun us H2 r2 l => by
    rw [List.append_nil]
    exact k us H2 r2 l
/-- o.m(..), where nothing changes -/
theorem dv_meth (ha : VV R F te σ H (.ref a)) (ho : H a = some (.ins C dx fs)) (hm : fs.lookup m = none) (h : DA R K F tr σ H ds) (k : ∀ us H1 Q, R H H1 → Fd F H1 → DaL K (hid F H1) ds us → (∀ v H', Same H1 H' → Da K (hid F H') d v → Q v H') → sp (.ref a :: us) H1 Q E) : DV R K F (tMeth C m sp [] E te tr) σ H d := fun H1 r1 f1 Q q =>
  te_meth (ha.mono r1) (ROk.ext r1 _ _ ho (fun ps z => by cases z)) hm (h.mono r1) f1 fun us H2 r2 l => k us H2 Q (ROk.trans r1 r2) (r_fd r2 f1) l fun v H3 s3 g => q v H3 (ROk.trans r2 (ROk.same s3)) g
end
end Sc

namespace Sc
open PySem PySem.Spec PyProof.Rows L2
section
variable {R : Hp → Hp → Prop} [ROk R] {K : PySem.W.Frag} {F : List Addr} {σ : L2.St} {H H' : Hp} {ta tb te : TE} {d : PyData} {v : V}
theorem dal_txts : ∀ (ys : List Str), DaL K H (ys.map PyData.str) (ys.map V.str)
  | [] => rfl
  | y :: ys => ⟨_, _, rfl, rfl, dal_txts ys⟩
abbrev rSplit : V → List V → Hp → VK → Prop := fun x xs H Q => ∃ a b, x = .str a ∧ xs = [.str b] ∧ (b.length == 0) = false ∧ a.length + 2 ≤ sizeLine ∧ rNewStrs (Txt.split a b) H Q
theorem dv_split {x s : Str} (h : DV R K F te σ H (.str x)) (hs : DV R K F tb σ H (.str s)) (h0 : (s.length == 0) = false) (hl : x.length + 2 ≤ sizeLine) : DV R K F (tBM K "str" rSplit te (tCons tb tNil)) σ H (.list ((Txt.split x s).map PyData.str)) := fun H1 r1 f1 Q q =>
  h H1 r1 f1 _ fun v H2 r2 g => by
    have g : v = .str x := g
    subst g
    refine ⟨rfl, hs H2 (ROk.trans r1 r2) (r_fd r2 f1) _ fun v H3 r3 g => ?_⟩
    have g : v = .str s := g
    subst g
    exact ⟨x, s, rfl, rfl, h0, hl, fun p hp => q _ _ (ROk.trans r2 (ROk.trans r3 (r_new hp))) (da_new (r_fd r3 (r_fd r2 f1)) hp (dal_txts _))⟩
theorem dv_count {x s : Str} (h : DV R K F te σ H (.str x)) (hs : DV R K F tb σ H (.str s)) : DV R K F (tBM K "str" (fun x xs H Q => ∃ a b, x = .str a ∧ xs = [.str b] ∧ Q (.int (Txt.count a b)) H) te (tCons tb tNil)) σ H (.int (Txt.count x s)) := fun H1 r1 f1 Q q =>
  h H1 r1 f1 _ fun v H2 r2 g => by
    have g : v = .str x := g
    subst g
    refine ⟨rfl, hs H2 (ROk.trans r1 r2) (r_fd r2 f1) _ fun v H3 r3 g => ?_⟩
    have g : v = .str s := g
    subst g
    exact ⟨x, s, rfl, rfl, q _ _ (ROk.trans r2 r3) rfl⟩
theorem dv_find {x s : Str} (h : DV R K F te σ H (.str x)) (hs : DV R K F tb σ H (.str s)) : DV R K F (tBM K "str" (fun x xs H Q => ∃ a b, x = .str a ∧ xs = [.str b] ∧ Q (.int (Txt.find a b)) H) te (tCons tb tNil)) σ H (.int (Txt.find x s)) := fun H1 r1 f1 Q q =>
  h H1 r1 f1 _ fun v H2 r2 g => by
    have g : v = .str x := g
    subst g
    refine ⟨rfl, hs H2 (ROk.trans r1 r2) (r_fd r2 f1) _ fun v H3 r3 g => ?_⟩
    have g : v = .str s := g
    subst g
    exact ⟨x, s, rfl, rfl, q _ _ (ROk.trans r2 r3) rfl⟩
theorem dv_rstrip {x s : Str} (h : DV R K F te σ H (.str x)) (hs : DV R K F tb σ H (.str s)) (hl : x.length ≤ sizeLine) : DV R K F (tBM K "str" (fun x xs H Q => ∃ a b, x = .str a ∧ xs = [.str b] ∧ a.length ≤ sizeLine ∧ Q (.str (Txt.rstripChars a b)) H) te (tCons tb tNil)) σ H (.str (Txt.rstripChars x s)) := fun H1 r1 f1 Q q =>
  h H1 r1 f1 _ fun v H2 r2 g => by
    have g : v = .str x := g
    subst g
    refine ⟨rfl, hs H2 (ROk.trans r1 r2) (r_fd r2 f1) _ fun v H3 r3 g => ?_⟩
    have g : v = .str s := g
    subst g
    exact ⟨x, s, rfl, rfl, hl, q _ _ (ROk.trans r2 r3) rfl⟩
abbrev rJoin (K : PySem.W.Frag) : V → List V → Hp → VK → Prop := fun x xs H Q => ∃ a p, ∃ ys : List Str, x = .str a ∧ xs = [.ref p] ∧ (SqL K H p (ys.map V.str) ∨ SqT K H p (ys.map V.str)) ∧ (ys.map (·.length)).sum + ys.length * a.length ≤ 16777216 ∧ Q (.str (Txt.join a ys)) H
theorem dv_join {s : Str} {ys : List Str} (h : DV R K F te σ H (.str s)) (hs : DV R K F tb σ H (.list (ys.map PyData.str))) (hl : (ys.map (·.length)).sum + ys.length * s.length ≤ 16777216) : DV R K F (tBM K "str" (rJoin K) te (tCons tb tNil)) σ H (.str (Txt.join s ys)) := fun H1 r1 f1 Q q =>
  h H1 r1 f1 _ fun v H2 r2 g => by
    have g : v = .str s := g
    subst g
    refine ⟨rfl, hs H2 (ROk.trans r1 r2) (r_fd r2 f1) _ fun v H3 r3 g => ?_⟩
    obtain ⟨p, xs, rfl, g1, g2⟩ := g
    have e := dal_strs g2
    subst e
    exact ⟨s, p, ys, rfl, rfl, .inl (SqL.of (hid_le g1).1), hl, q _ _ (ROk.trans r2 r3) rfl⟩
theorem dv_intS {x : Str} {n : Int} (h : DV R K F te σ H (.str x)) (hn : PySem.intText? x = some n) (hl : x.length ≤ 640) : DV R K F (tCB (fun xs H Q => ∃ a n, xs = [V.str a] ∧ PySem.intText? a = some n ∧ a.length ≤ 640 ∧ Q (V.int n) H) (tCons te tNil)) σ H (.int n) :=
  dv_cb (da_cons h da_nil) fun vs H1 Q _ f hv q => by
    obtain ⟨v, rfl, e⟩ := dal1 hv
    have e : v = .str x := e
    subst e
    exact ⟨x, n, rfl, hn, hl, q _ H1 (r_refl H1) rfl⟩
abbrev rInt1 : List V → Hp → VK → Prop := fun xs H Q => (∃ i, xs = [V.int i] ∧ Q (V.int i) H) ∨ ∃ k, xs = [V.bl k] ∧ Q (V.int (if k then 1 else 0)) H
theorem dv_intB {b : Bool} (h : DV R K F te σ H (.bool b)) : DV R K F (tCB rInt1 (tCons te tNil)) σ H (.int (b2i b)) :=
  dv_cb (da_cons h da_nil) fun vs H1 Q _ f hv q => by
    obtain ⟨v, rfl, e⟩ := dal1 hv
    have e : v = .bl b := e
    subst e
    exact .inr ⟨b, rfl, q _ H1 (r_refl H1) rfl⟩
theorem dv_strI {i : Int} (h : DV R K F te σ H (.int i)) (hl : i.natAbs.log2 < 1920) : DV R K F (tCB (fun xs H Q => ∃ i, xs = [V.int i] ∧ i.natAbs.log2 < 1920 ∧ Q (V.str (toString i)) H) (tCons te tNil)) σ H (.str (toString i)) :=
  dv_cb (da_cons h da_nil) fun vs H1 Q _ f hv q => by
    obtain ⟨v, rfl, e⟩ := dal1 hv
    have e : v = .int i := e
    subst e
    exact ⟨i, rfl, hl, q _ H1 (r_refl H1) rfl⟩
theorem dv_tupOf {ds : List PyData} (h : DV R K F te σ H (.list ds)) : DV R K F (tCB (rTupOf K) (tCons te tNil)) σ H (.tuple ds) :=
  dv_cb (da_cons h da_nil) fun vs H1 Q _ f hv q => by
    obtain ⟨v, rfl, p, xs, rfl, g1, g2⟩ := dal1 hv
    exact ⟨p, xs, rfl, .inl ⟨SqL.of (hid_le g1).1, fun l hl => q _ _ (r_new hl) (da_newT f hl g2)⟩⟩
theorem dv_lstOf {ds : List PyData} (h : DV R K F te σ H (.list ds)) : DV R K F (tCB (rListOf K) (tCons te tNil)) σ H (.list ds) :=
  dv_cb (da_cons h da_nil) fun vs H1 Q _ f hv q => by
    obtain ⟨v, rfl, p, xs, rfl, g1, g2⟩ := dal1 hv
    exact ⟨p, xs, rfl, .inl (SqL.of (hid_le g1).1), fun l hl => q _ _ (r_new hl) (da_new f hl g2)⟩
theorem dv_lstOfT {ds : List PyData} (h : DV R K F te σ H (.tuple ds)) : DV R K F (tCB (rListOf K) (tCons te tNil)) σ H (.list ds) :=
  dv_cb (da_cons h da_nil) fun vs H1 Q _ f hv q => by
    obtain ⟨v, rfl, p, xs, rfl, g1, g2⟩ := dal1 hv
    exact ⟨p, xs, rfl, .inr (xt_sqT xt_hid g1), fun l hl => q _ _ (r_new hl) (da_new f hl g2)⟩
theorem dv_replC {x y z : Str} (h : DV R K F te σ H (.str x)) (hl : x.length + (x.length + 1) * z.length ≤ 16777216) : DV R K F (CwR.tReplC te y z) σ H (.str (Txt.replace x y z)) := fun H1 r1 f1 Q q =>
  h H1 r1 f1 _ fun v H2 r2 g => by
    have g : v = .str x := g
    subst g
    exact ⟨x, rfl, hl, q _ H2 r2 rfl⟩
theorem kjoin {X : Cx} (K : PySem.W.Frag) (hK : X.K = K := by rfl) : MtR X "str.join" (rJoin K) := by subst hK; exact mt_join
/-- [e for x in text] -/
theorem dv_lcS {i : Nat} {z : Str} {gs : List PyData} (h : DV R K F ta σ H (.str z)) (hn : gs.length = z.cps.toList.length) (hl : z.cps.toList.length ≤ sizeLine) (hi : ∀ v : V, wipe ((wipe σ [i]).set i (some v)) [i] = wipe σ [i])
    (hb : ∀ (F' : List Addr) (H1 : Hp) (j c : Nat) (e : PyData), Wi R F H F' H1 → z.cps.toList[j]? = some c → gs[j]? = some e → DV R K F' te ((wipe σ [i]).set i (some (.str ⟨#[c]⟩))) H1 e) :
    DV R K F (tLc (iStr ta) (gName i) tYes te [i]) σ H (.list gs) := fun H1 a f Q q =>
  h H1 a f _ fun v H2 r2 hv => by
    have hv : v = .str z := hv
    subst hv
    refine ⟨z, rfl, fun D hD => ?_⟩
    have f2 := r_fd r2 f
    refine lc_gen (R := R) (K := K) (F := F) (gs := gs) (walk_str (z := z)) f2 hD (by rw [hn, Array.length_toList]) (by rw [hn]; exact hl) (fun H3 r3 => True.intro) ?_ fun H3 r3 hd => q _ H3 (ROk.trans r2 r3) hd
    rintro j x H3 H3' e he w3 ⟨rfl, c, hc, rfl⟩ Q' q'
    refine ⟨hi _, ?_⟩
    have w0 : Wi R F H (D :: F) H3' := ⟨ROk.trans (ROk.trans a r2) w3.r, fun b o e nt => w3.x b o (hid_xt (ROk.ext (ROk.trans a r2)) b o e nt) nt, w3.f⟩
    refine hb (D :: F) H3' j c e w0 (by rw [Array.getElem?_toList]; exact hc) he H3' (r_refl H3') w3.f Q' fun y H4 r4 hy => ?_
    exact q' y H4 ⟨ROk.trans w3.r r4, fun b o e nt => hid_xt (ROk.ext r4) b o (w3.x b o e nt) nt, r_fd r4 w3.f⟩ (fun acc hacc => ROk.ext r4 _ _ hacc fun ps z => by cases z) (hid_xt (ROk.ext r4)) hy
/-- for x in text -/
theorem s_forS {i : Nat} {z : Str} {tb : TS} {nx bk ct : L2.St → Hp → Prop} {rt : VK} (h : DV R K F ta σ H (.str z)) (f : Fd F H)
    (k : ∀ H1, R H H1 → Fd F H1 → ∃ Pv : Nat → L2.St → Hp → Prop, Pv 0 σ H1 ∧ (∀ j σ' H' c, z.cps.toList[j]? = some c → Pv j σ' H' → tb ⟨Pv (j + 1), rt, nx, Pv (j + 1)⟩ (σ'.set i (some (.str ⟨#[c]⟩))) H') ∧ (∀ σ' H', Pv z.cps.toList.length σ' H' → nx σ' H')) :
    tFor (iStr ta) (gName i) tb ⟨nx, rt, bk, ct⟩ σ H := h H (r_refl H) f _ fun v H1 r1 hv => by
  have hv : v = .str z := hv
  subst hv
  obtain ⟨Pv, p0, ps, pd⟩ := k H1 r1 (r_fd r1 f)
  refine ⟨z, rfl, for_it (walk_str (z := z)) (D := ⟨nx, rt, bk, ct⟩) Pv p0 (fun _ _ _ _ _ => True.intro) (fun j x σ' H' H'' _ p y => ?_) (fun σ' H' p => pd σ' H' (by rw [Array.length_toList]; exact p))⟩
  obtain ⟨rfl, c, hc, rfl⟩ := y
  exact ps j σ' H'' c (by rw [Array.getElem?_toList]; exact hc) p
end
/-! ### promises that may raise, of what stands -/
def okIf (b : Bool) (c : Str) : Except Str PyData := if b = true then .ok .none else .error c
theorem okIf_ok {b : Bool} {c : Str} {d : PyData} (h : okIf b c = .ok d) : b = true ∧ d = .none := by
  cases b with
  | true => exact ⟨rfl, by cases h; rfl⟩
  | false => cases h
theorem okIf_err {b : Bool} {c c' : Str} (h : okIf b c = .error c') : b = false ∧ c' = c := by
  cases b with
  | true => cases h
  | false => exact ⟨rfl, by cases h; rfl⟩
theorem all_map {α : Type} (f : α → Bool) (l : List α) : (l.map f).all id = l.all f := by
  induction l with
  | nil => rfl
  | cons a l ih => simp
theorem get_map {α β : Type} {f : α → β} {l : List α} {j : Nat} {a : α} {b : β} (h1 : l[j]? = some a) (h2 : (l.map f)[j]? = some b) : b = f a := by
  rw [List.getElem?_map, h1] at h2
  exact (Option.some.inj h2).symm
end Sc

namespace Sc
open PySem PySem.Spec PyProof.Rows L2
theorem passN0 {X : Cx} : Passes (L2N.CX X.prog X.w) X E0 := fun _ _ _ _ _ _ _ ⟨_, _, _, _, _, _, _, _, _, _, _, _, z⟩ => z.elim
theorem u1 {k : Nat} {A : Around} (r : Room k A) : A.units + 1 < cLine := by have := r.units; omega
section
variable {R : Hp → Hp → Prop} [ROk R] {K : PySem.W.Frag} {F : List Addr} {σ : L2.St} {H H' : Hp} {ta tb te : TE} {d : PyData} {v : V} {nx bk ct : L2.St → Hp → Prop} {rt : VK}
theorem Own.keep {H0 : Hp} {l : Addr} {ds : List PyData} (o : Own R K F H0 H l ds) : ∃ xs, H l = some (.lst xs) ∧ DaL K (hid (l :: F) H) ds xs := o.at_
/-- x = x + e, x the owner's: a new list -/
theorem s_ownAdd {i j : Nat} {l : Addr} {H0 : Hp} {ds es : List PyData} (o : Own R K F H0 H l ds) (hσ : σ[i]? = some (some (.ref l))) (h : DV R K (l :: F) te σ H (.list es)) (hz : ds.length + es.length ≤ sizeLine)
    (k : ∀ l' H1 H', R H H1 → Own R K F H1 H' l' (ds ++ es) → Xt (hid (l :: F) H1) (hid (l' :: F) H') → nx (σ.set j (some (.ref l'))) H') : tAsg (tOp (rPlus K) (tVar i) te) (gName j) ⟨nx, rt, bk, ct⟩ σ H := by
  refine ⟨_, hσ, h H (r_refl H) o.fd2 _ fun v H1 r1 g => ?_⟩
  obtain ⟨b, ys, rfl, gb, ly⟩ := g
  have o1 := o.mono r1
  obtain ⟨xs, hx, lx⟩ := o1.at_
  refine .inr (.inr (.inl ⟨l, b, xs, ys, rfl, rfl, hx, (hid_le gb).1, by rw [lx.length, ly.length]; exact hz, fun p hp => ?_⟩))
  have x1 : Xt (hid (l :: F) H1) (hid (p :: F) (upd H1 p (.lst (xs ++ ys)))) := (hid_new (F := l :: F) hp).trans (hid_sub fun b hb => by
    rcases List.mem_cons.mp hb with z | z
    · rw [z]; exact List.mem_cons_self
    · exact List.mem_cons_of_mem _ (List.mem_cons_of_mem _ z))
  exact k p H1 _ r1 ⟨hp, o1.fd1, r_new hp, xs ++ ys, upd_same, (lx.append ly).mono x1⟩ x1
/-- a, b = e: a tuple's items -/
theorem s_unT {n : Nat} {g : TGs} {ds : List PyData} (h : DV R K F te σ H (.tuple ds)) (f : Fd F H) (hn : ds.length = n) (k : ∀ vs H1, R H H1 → DaL K (hid F H1) ds vs → g vs σ H1 nx) : tAsg te (gTup K n g) ⟨nx, rt, bk, ct⟩ σ H := h H (r_refl H) f _ fun v H1 r1 gv => by
  obtain ⟨a, xs, rfl, hs, l⟩ := gv
  exact ⟨a, xs, rfl, xt_sqT xt_hid hs, by rw [l.length, hn], k xs H1 r1 l⟩
/-- a def that may raise, and doesn't -/
theorem dv_callG {n : Nat} {A : List PyData → Except Str PyData → Prop} {E : XK} {tr : TA} {ds : List PyData} (h : DA R K F tr σ H ds) (ha : A ds (.ok d)) (hn : ds.length = n) : DV R K F (tCall (spG K n A) [] E tr) σ H d := fun H1 r1 f1 Q q =>
  h H1 r1 f1 _ fun vs H2 r2 l => by
    rw [List.append_nil]
    exact ⟨F, ds, .ok d, r_fd r2 f1, l, hn, ha, fun d' e v H3 s3 g => by cases e; exact q v H3 (ROk.trans r2 (ROk.same s3)) g, fun c e => nomatch e⟩
theorem hid_fresh {a : Addr} (s : Same H H') (h : H a = none) : Xt (hid F H) (hid (a :: F) H') := fun b o e _ => by
  obtain ⟨e1, e2⟩ := hid_le e
  rw [hid_out fun z => (List.mem_cons.mp z).elim (fun z => by rw [z, h] at e1; cases e1) e2]
  exact s b o e1
/-- {..}.get(x, n): a dict that is written out, texts to ints -/
theorem dv_getD {kvs : List (Str × Int)} {x : Str} {n : Int} {trs : List (TE × TE)} (ht : ∀ (H : Hp) (Q : List (V × V) → Hp → Prop), Q (kvs.map fun p => (V.str p.1, V.int p.2)) H → tPairs trs σ H Q) (hl : kvs.length ≤ 15) (h : DV R K F te σ H (.str x)) {m : Int}
    (hm : (valV (mergeK [] (kvs.map fun p => ((Sum.inr p.1 : Key), V.int p.2))) (Sum.inr x : Key)).getD (.int n) = .int m) : DV R K F (tDGet2 (tDisp trs) te (tC (V.int n))) σ H (.int m) := fun H1 r1 f1 Q q => fun p hp => by
  refine ht _ _ ⟨upd_same, kvs.map fun p => ((Sum.inr p.1 : Key), V.int p.2), by rw [List.map_map]; rfl, by rw [List.length_map]; exact hl, ?_⟩
  have s1 : Same H1 (upd (upd H1 p (.dK [])) p (.dK (mergeK [] (kvs.map fun p => ((Sum.inr p.1 : Key), V.int p.2))))) := fun b o e => by
    rw [upd_ne (ne_of_none e hp), upd_ne (ne_of_none e hp)]
    exact e
  refine ⟨p, rfl, .inl ⟨_, .inl upd_same⟩, h _ (ROk.trans r1 (ROk.same s1)) (r_fd (ROk.same (R := R) s1) f1) _ fun v H3 r3 g => ?_⟩
  have g : v = .str x := g
  subst g
  refine ⟨_, DGet.k (k := Sum.inr x) (ROk.ext r3 _ _ upd_same fun ps z => by cases z), ?_⟩
  rw [hm]
  exact q _ H3 (ROk.trans (ROk.same s1) r3) rfl
end
/-! ### where a token is out -/
section
variable {X : Cx}
/-- if e == "..": behind the test a token is out -/
theorem ps_ifK {e : Expr} {te : TE} {z : Str} {j : Nat} {p pos' pos : Pos} {a b : List Stmt} {r : R2} {t u : TS} (ho : OpR X (compareOp .Eq) r) (he : PE X e te) (ha : PSsT X a t) (hb : PSsT X b u) : PS X (.If (.Compare e [.Eq] [.Constant (.str z) j p] pos') a b pos) (tIfS (tTest (tOp r te (tC (.str z)))) t u) := by
  constructor
  intro pins s σ H D I h
  refine wpAny_If (wpAny_isTrue_Compare1 (thn (he.run pins s σ H _ I h) ?_) (nomark _))
  rintro v s1 ⟨x, H1, I1, r1, q1⟩
  refine Calls.Constant_str (wpAny_mono (PySem.wpAny_toks (ho pins { s1 with toks := s1.toks + 1 } σ H1 x (.str z) v (.str z s1.toks) _ (I1.tok _) r1 ⟨_, rfl⟩ q1)) ?_ fun _ _ w => w.2)
  rintro c s3 ⟨hk, z3, H3, I3, r3, k, rfl, q3⟩
  cases r3
  have hk : 1 ≤ s3.toks := Nat.le_trans (Nat.le_add_left 1 s1.toks) hk
  refine wpAny_truthy_bool ?_
  cases k with
  | true => exact ha pins s3 σ H3 D hk I3 q3
  | false => exact hb pins s3 σ H3 D hk I3 q3
theorem pst_appK {o e : Expr} {to te : TE} {apos cpos pos : Pos} (ho : PE X o to) (he : PET X e te) (hb : attributeBase o "append" X.env (eval o X.env) = eval o X.env := by rfl)
    (hfew : ((backTo cpos (starEach [e] X.env)).all (fun x => !x.1) && (backToKw cpos (keywordEach [] X.env)).all (fun x => x.1.isSome) && decide (([e] : List Expr).length + ([] : List Keyword).length + (if ([] : List Keyword).isEmpty then 0 else 1) < 30)) = true := by rfl)
    (hline : (apos.endLine == cpos.line) = true := by rfl) (hs : starEach [e] X.env = (false, eval e X.env) :: starEach [] X.env := by rfl) (hsw : swapsWith (.Call (.Attribute o "append" apos) [e] [] cpos) none pos.line X.env = pure false := by rfl) :
    PST X (.Expr (.Call (.Attribute o "append" apos) [e] [] cpos) pos) (tDrop (tBM X.K "list" rAppend to (tCons te tNil))) := by
  intro pins s σ H D h0 I h
  refine wpAny_Expr_any (thn (wpAny_Call_method_late hb hfew hline rfl (Q := EP X pins σ fun _ H' => D.nx σ H') (wpAny_mono (PySem.wpAny_toks (ho.run pins s σ H _ I h)) ?_ fun _ _ w => w.2)) ?_) I.quiet hsw
  · rintro v s1 ⟨hk, x, H1, I1, r1, ty, q1⟩
    obtain ⟨h1, h2⟩ := tyV_is I1 r1 ty
    refine ⟨"list", _, PySem.F.plainAttrs_list, PySem.F.slot_list_append, PySem.F.type_list_append, h1, h2, ?_⟩
    have hA := (pat_cons he pat_nil hs) cpos pins s1 σ H1 _ (Nat.le_trans h0 hk) I1 q1
    rw [hs] at hA ⊢
    exact Calls.callWith_builtin rfl (Calls.evalArgs_plain (thn hA fun us s2 ⟨vs, H2, I2, r2, q2⟩ => mt_append pins s2 σ H2 x vs v us _ I2 r1 r2 q2))
  · rintro v s1 ⟨x, H1, I1, r1, q1⟩
    exact ⟨σ, H1, I1, q1⟩
end
end Sc

namespace Sc
open PySem PySem.Spec PyProof.Rows L2
def top (i : Nat) : Stmt := PySem.Challenge.pw_steerscreen_k10_whole_signs_read.main.body.getD i (.Pass ⟨0, 0, 0, 0⟩)
abbrev s_is_sign : Stmt := top 15
abbrev s_need_text : Stmt := top 16
abbrev s_Reader___init__ : Stmt := inClass (top 17) 0
abbrev s_Reader_dropped : Stmt := inClass (top 17) 1
abbrev s_Reader_left : Stmt := inClass (top 17) 2
abbrev s_Reader_feed : Stmt := inClass (top 17) 3
abbrev s_Reader_plain : Stmt := inClass (top 17) 4
abbrev s_Reader_read : Stmt := inClass (top 17) 5
abbrev s_Reader_can_go_on : Stmt := inClass (top 17) 6
abbrev s_Reader_whole : Stmt := inClass (top 17) 7
abbrev s_told : Stmt := top 18
abbrev s_written : Stmt := top 19
abbrev s__law_cell : Stmt := top 21
abbrev s__law_drawn : Stmt := top 22
abbrev s__law_word : Stmt := top 23
abbrev s__law_told : Stmt := top 24
abbrev s__law_one : Stmt := top 25
abbrev s__law_row : Stmt := top 26
abbrev s__law_text : Stmt := top 27
abbrev s__law_broken : Stmt := top 28
abbrev s_law : Stmt := top 29
structure GT (K : PySem.W.Frag) (mg : Str → Option Value) : Prop where
  g_ScreenError : mg "ScreenError" = some (.ref (He.ga K "ScreenError"))
  g_BadText : mg "BadText" = some (.ref (He.ga K "BadText"))
  g_BadSize : mg "BadSize" = some (.ref (He.ga K "BadSize"))
  g_BadPlace : mg "BadPlace" = some (.ref (He.ga K "BadPlace"))
  g_BadPage : mg "BadPage" = some (.ref (He.ga K "BadPage"))
  i_MOST_TEXT : ∃ t, mg "MOST_TEXT" = some (.int (4000) t)
  i_MOST_FIGURES : ∃ t, mg "MOST_FIGURES" = some (.int (4) t)
  i_MOST_ARGUMENTS : ∃ t, mg "MOST_ARGUMENTS" = some (.int (4) t)
  t_SMALL : ∃ t, mg "SMALL" = some (.str "abcdefghijklmnopqrstuvwxyz" t)
  t_GREAT : ∃ t, mg "GREAT" = some (.str "ABCDEFGHIJKLMNOPQRSTUVWXYZ" t)
  t_FIGURES : ∃ t, mg "FIGURES" = some (.str "0123456789" t)
  i_BARRED : ∃ t, mg "BARRED" = some (.int (37) t)
  t_GAP : ∃ t, mg "GAP" = some (.str "\n" t)
  g_is_sign : mg "is_sign" = some (.ref (He.ga K "is_sign"))
  g_need_text : mg "need_text" = some (.ref (He.ga K "need_text"))
  g_Reader : mg "Reader" = some (.ref (He.ga K "Reader"))
  g_told : mg "told" = some (.ref (He.ga K "told"))
  g_written : mg "written" = some (.ref (He.ga K "written"))
  g__law_cell : mg "_law_cell" = some (.ref (He.ga K "_law_cell"))
  g__law_drawn : mg "_law_drawn" = some (.ref (He.ga K "_law_drawn"))
  g__law_word : mg "_law_word" = some (.ref (He.ga K "_law_word"))
  g__law_told : mg "_law_told" = some (.ref (He.ga K "_law_told"))
  g__law_one : mg "_law_one" = some (.ref (He.ga K "_law_one"))
  g__law_row : mg "_law_row" = some (.ref (He.ga K "_law_row"))
  g__law_text : mg "_law_text" = some (.ref (He.ga K "_law_text"))
  g__law_broken : mg "_law_broken" = some (.ref (He.ga K "_law_broken"))
  g_law : mg "law" = some (.ref (He.ga K "law"))
  z_ValueError : mg "ValueError" = none
  z_range : mg "range" = none
  z_isinstance : mg "isinstance" = none
  z_tuple : mg "tuple" = none
  z_len : mg "len" = none
  z_max : mg "max" = none
  z_str : mg "str" = none
  z_all : mg "all" = none
  z_sum : mg "sum" = none
  z_min : mg "min" = none
  z_ord : mg "ord" = none
  z_int : mg "int" = none
  x_ScreenError : PySem.W.excIn K (He.ga K "ScreenError") He.veBase "ValueError.__new__" = true ∧ PySem.W.keepIn K (.ref (He.ga K "ScreenError")) = true ∧ PySem.W.subIn K (.ref (He.ga K "ScreenError")) (.type "BaseException") = some true ∧ PySem.W.typeIn K (.ref (He.ga K "ScreenError")) = some (.type "type")
  xm_ScreenError : PySem.W.exmOne K (.ref (He.ga K "ScreenError")) (.ref (He.ga K "ScreenError")) = some true
  x_BadText : PySem.W.excIn K (He.ga K "BadText") He.veBase "ValueError.__new__" = true ∧ PySem.W.keepIn K (.ref (He.ga K "BadText")) = true ∧ PySem.W.subIn K (.ref (He.ga K "BadText")) (.type "BaseException") = some true ∧ PySem.W.typeIn K (.ref (He.ga K "BadText")) = some (.type "type")
  xm_BadText : PySem.W.exmOne K (.ref (He.ga K "BadText")) (.ref (He.ga K "ScreenError")) = some true
  x_BadSize : PySem.W.excIn K (He.ga K "BadSize") He.veBase "ValueError.__new__" = true ∧ PySem.W.keepIn K (.ref (He.ga K "BadSize")) = true ∧ PySem.W.subIn K (.ref (He.ga K "BadSize")) (.type "BaseException") = some true ∧ PySem.W.typeIn K (.ref (He.ga K "BadSize")) = some (.type "type")
  xm_BadSize : PySem.W.exmOne K (.ref (He.ga K "BadSize")) (.ref (He.ga K "ScreenError")) = some true
  x_BadPlace : PySem.W.excIn K (He.ga K "BadPlace") He.veBase "ValueError.__new__" = true ∧ PySem.W.keepIn K (.ref (He.ga K "BadPlace")) = true ∧ PySem.W.subIn K (.ref (He.ga K "BadPlace")) (.type "BaseException") = some true ∧ PySem.W.typeIn K (.ref (He.ga K "BadPlace")) = some (.type "type")
  xm_BadPlace : PySem.W.exmOne K (.ref (He.ga K "BadPlace")) (.ref (He.ga K "ScreenError")) = some true
  x_BadPage : PySem.W.excIn K (He.ga K "BadPage") He.veBase "ValueError.__new__" = true ∧ PySem.W.keepIn K (.ref (He.ga K "BadPage")) = true ∧ PySem.W.subIn K (.ref (He.ga K "BadPage")) (.type "BaseException") = some true ∧ PySem.W.typeIn K (.ref (He.ga K "BadPage")) = some (.type "type")
  xm_BadPage : PySem.W.exmOne K (.ref (He.ga K "BadPage")) (.ref (He.ga K "ScreenError")) = some true
  c_Reader : Cls K (He.ga K "Reader")
  k_Reader : Mk K (He.ga K "Reader") (He.ma K (He.ga K "Reader") "__init__")
  m_Reader_dropped : Meth K (He.ga K "Reader") "dropped" (He.ma K (He.ga K "Reader") "dropped")
  m_Reader_left : Meth K (He.ga K "Reader") "left" (He.ma K (He.ga K "Reader") "left")
  m_Reader_feed : Meth K (He.ga K "Reader") "feed" (He.ma K (He.ga K "Reader") "feed")
  m_Reader_plain : Meth K (He.ga K "Reader") "plain" (He.ma K (He.ga K "Reader") "plain")
  m_Reader_read : Meth K (He.ga K "Reader") "read" (He.ma K (He.ga K "Reader") "read")
  m_Reader_can_go_on : Meth K (He.ga K "Reader") "can_go_on" (He.ma K (He.ga K "Reader") "can_go_on")
  m_Reader_whole : Meth K (He.ga K "Reader") "whole" (He.ma K (He.ga K "Reader") "whole")
  n_Reader_begun : NoAttr K (He.ga K "Reader") "begun"
  n_Reader_lost : NoAttr K (He.ga K "Reader") "lost"
  f_is_sign : ∃ fd, FunD K "is_sign" "is_sign" (defArgs s_is_sign) (defBody s_is_sign) (defScope s_is_sign) [] [] (He.fAd K ("is_sign", none)) fd
  f_need_text : ∃ fd, FunD K "need_text" "need_text" (defArgs s_need_text) (defBody s_need_text) (defScope s_need_text) [] [] (He.fAd K ("need_text", none)) fd
  f_Reader___init__ : ∃ fd, FunD K "__init__" "Reader.__init__" (defArgs s_Reader___init__) (defBody s_Reader___init__) (defScope s_Reader___init__) [] [] (He.fAd K ("Reader", some "__init__")) fd
  f_Reader_dropped : ∃ fd, FunD K "dropped" "Reader.dropped" (defArgs s_Reader_dropped) (defBody s_Reader_dropped) (defScope s_Reader_dropped) [] [] (He.fAd K ("Reader", some "dropped")) fd
  f_Reader_left : ∃ fd, FunD K "left" "Reader.left" (defArgs s_Reader_left) (defBody s_Reader_left) (defScope s_Reader_left) [] [] (He.fAd K ("Reader", some "left")) fd
  f_Reader_feed : ∃ fd, FunD K "feed" "Reader.feed" (defArgs s_Reader_feed) (defBody s_Reader_feed) (defScope s_Reader_feed) [] [] (He.fAd K ("Reader", some "feed")) fd
  f_Reader_plain : ∃ fd, FunD K "plain" "Reader.plain" (defArgs s_Reader_plain) (defBody s_Reader_plain) (defScope s_Reader_plain) [] [] (He.fAd K ("Reader", some "plain")) fd
  f_Reader_read : ∃ fd, FunD K "read" "Reader.read" (defArgs s_Reader_read) (defBody s_Reader_read) (defScope s_Reader_read) [] [] (He.fAd K ("Reader", some "read")) fd
  f_Reader_can_go_on : ∃ fd, FunD K "can_go_on" "Reader.can_go_on" (defArgs s_Reader_can_go_on) (defBody s_Reader_can_go_on) (defScope s_Reader_can_go_on) [] [] (He.fAd K ("Reader", some "can_go_on")) fd
  f_Reader_whole : ∃ fd, FunD K "whole" "Reader.whole" (defArgs s_Reader_whole) (defBody s_Reader_whole) (defScope s_Reader_whole) [] [] (He.fAd K ("Reader", some "whole")) fd
  f_told : ∃ fd, FunD K "told" "told" (defArgs s_told) (defBody s_told) (defScope s_told) [] [] (He.fAd K ("told", none)) fd
  f_written : ∃ fd, FunD K "written" "written" (defArgs s_written) (defBody s_written) (defScope s_written) [] [] (He.fAd K ("written", none)) fd
  f__law_cell : ∃ fd, FunD K "_law_cell" "_law_cell" (defArgs s__law_cell) (defBody s__law_cell) (defScope s__law_cell) [] [] (He.fAd K ("_law_cell", none)) fd
  f__law_drawn : ∃ fd, FunD K "_law_drawn" "_law_drawn" (defArgs s__law_drawn) (defBody s__law_drawn) (defScope s__law_drawn) [] [] (He.fAd K ("_law_drawn", none)) fd
  f__law_word : ∃ fd, FunD K "_law_word" "_law_word" (defArgs s__law_word) (defBody s__law_word) (defScope s__law_word) [] [] (He.fAd K ("_law_word", none)) fd
  f__law_told : ∃ fd, FunD K "_law_told" "_law_told" (defArgs s__law_told) (defBody s__law_told) (defScope s__law_told) [] [] (He.fAd K ("_law_told", none)) fd
  f__law_one : ∃ fd, FunD K "_law_one" "_law_one" (defArgs s__law_one) (defBody s__law_one) (defScope s__law_one) [] [] (He.fAd K ("_law_one", none)) fd
  f__law_row : ∃ fd, FunD K "_law_row" "_law_row" (defArgs s__law_row) (defBody s__law_row) (defScope s__law_row) [] [] (He.fAd K ("_law_row", none)) fd
  f__law_text : ∃ fd, FunD K "_law_text" "_law_text" (defArgs s__law_text) (defBody s__law_text) (defScope s__law_text) [] [] (He.fAd K ("_law_text", none)) fd
  f__law_broken : ∃ fd, FunD K "_law_broken" "_law_broken" (defArgs s__law_broken) (defBody s__law_broken) (defScope s__law_broken) [] [] (He.fAd K ("_law_broken", none)) fd
  f_law : ∃ fd, FunD K "law" "law" (defArgs s_law) (defBody s_law) (defScope s_law) [] [] (He.fAd K ("law", none)) fd
  w : WordF K ["BadPage", "BadPlace", "BadSize", "BadText"]
end Sc
local macro_rules | `(tactic| walk_at "dv") => `(tactic| first
  | exact Sc.dv_int | exact Sc.dv_str | exact Sc.dv_bl | exact Sc.dv_non
  | (refine Sc.dv_var rfl ?_; assumption)
  | (refine Sc.dv_tup ?_ ?_; (walk_at "da"); (exact Nat.le_of_ble_eq_true rfl))
  | (refine Sc.dv_lst ?_ ?_; (walk_at "da"); (exact Nat.le_of_ble_eq_true rfl))
  | (refine Sc.dv_neg ?_; (walk_at "dv"))
  | (refine Sc.dv_addI ?_ ?_; (walk_at "dv"); (walk_at "dv"))
  | (refine Sc.dv_subI ?_ ?_; (walk_at "dv"); (walk_at "dv"))
  | (refine Sc.dv_addL ?_ ?_ ?_; (walk_at "dv"); (walk_at "dv"); (exact Nat.le_of_ble_eq_true rfl)))
local macro_rules | `(tactic| walk_at "da") => `(tactic| first | exact Sc.da_nil | (refine Sc.da_cons ?_ ?_; (walk_at "dv"); (walk_at "da")))
namespace Sc
open PySem PySem.Spec PyProof.Rows L2
def isSign (c : Nat) : Bool := decide (c = 10) || (decide (32 ≤ c) && decide (c ≤ 126) && !decide (c = 37))
def A_is_sign (ds : List PyData) (d : PyData) : Prop := ∃ c : Nat, ds = [.str ⟨#[c]⟩] ∧ d = .bool (isSign c)
theorem sign_lt (a c : Nat) : decide (([c] : List Nat) < [a]) = decide (c < a) := by
  by_cases h : c < a
  · rw [decide_eq_true h]; exact decide_eq_true (List.Lex.rel h)
  · rw [decide_eq_false h]
    refine decide_eq_false fun z => ?_
    cases z with
    | rel z => exact h z
    | cons z => cases z
theorem sign_eq (a c : Nat) : ((⟨#[c]⟩ : Str) == ⟨#[a]⟩) = decide (c = a) := by
  by_cases h : c = a
  · subst h; simp
  · rw [decide_eq_false h]
    refine beq_eq_false_iff_ne.mpr fun z => h ?_
    have z1 := congrArg (fun s : Str => s.cps.toList) z
    simpa using z1
theorem isSign_eq (c : Nat) : (decide ((⟨#[c]⟩ : Str) = Str.ofString "\n") || ((!decide (([c] : List Nat) < [32]) && !decide (([126] : List Nat) < [c])) && !decide (((c : Nat) : Int) = 37))) = isSign c := by
  have e1 : decide ((⟨#[c]⟩ : Str) = Str.ofString "\n") = decide (c = 10) := by
    rw [show Str.ofString "\n" = ⟨#[10]⟩ by decide +kernel, ← Bool.beq_eq_decide_eq, sign_eq]
  have e2 : decide (((c : Nat) : Int) = 37) = decide (c = 37) := by
    by_cases h : c = 37
    · subst h; rfl
    · rw [decide_eq_false h]; exact decide_eq_false (by omega)
  rw [e1, e2, sign_lt, sign_lt]
  unfold isSign
  have e3 : (!decide (c < 32)) = decide (32 ≤ c) := by
    by_cases h : c < 32
    · rw [decide_eq_true h, decide_eq_false (by omega : ¬ 32 ≤ c)]; rfl
    · rw [decide_eq_false h, decide_eq_true (by omega : 32 ≤ c)]; rfl
  have e4 : (!decide (126 < c)) = decide (c ≤ 126) := by
    by_cases h : 126 < c
    · rw [decide_eq_true h, decide_eq_false (by omega : ¬ c ≤ 126)]; rfl
    · rw [decide_eq_false h, decide_eq_true (by omega : c ≤ 126)]; rfl
  rw [e3, e4]
section
variable {P : Program} {w : World} {K : PySem.W.Frag} {mg : Str → Option Value} {base : Heap}
theorem sc_is_sign : FnScope ["sign"] ["sign"] (defScope s_is_sign) := ⟨rfl, rfl, rfl, by decide +kernel, rfl, by decide +kernel, by decide +kernel⟩
theorem c_is_sign (T : GT K mg) : Cal P w K mg base CX0 1 "is_sign" ["sign"] (spF K 1 A_is_sign) := by
  refine cal_F T.f_is_sign T.g_is_sign sc_is_sign rfl (fun _ _ _ _ _ _ us hl => match us, hl with | [_], _ => rfl) fun f cdv A' outer s H vs Q E F ds d hr hf hl ha q => ?_
  obtain ⟨c, rfl, rfl⟩ := ha
  obtain ⟨v, rfl, hv⟩ := dal1 hl
  refine ⟨_, (pss_one (ps_ret (pe_or (pe_cmpR (keq K hr.units) (pv 0) (pe_gs (by rfl) T.t_GAP) (nomark _)) (pe_one (pe_and (pe_chain op_leq op_leq pe_str (pv 0) pe_str) (pe_one (pe_cmpR (kne K hr.units) (pe_callB call_ord (by rfl) T.z_ord (by decide +kernel) (pa_cons (pv 0) pa_nil)) (pe_gi (by rfl) T.i_BARRED) (nomark _)))))))), ?_⟩
  refine s_ret (R := Same) (K := K) (F := F) (dv_is (dv_or (dv_eqS (dv_var rfl hv) dv_str) fun _ => dv_and (dv_chLeS dv_str (dv_var rfl hv) dv_str) fun _ => dv_neI (dv_ord (dv_var rfl hv)) dv_int) (congrArg PyData.bool (isSign_eq c))) hf q
end
end Sc

namespace Sc
open PySem PySem.Spec PyProof.Rows L2
/-- a cell of the script -/
def cellOf (ns : List Int) (k : Nat) : Int := if ns = [] then (k : Int) * 7919 else ns.getD (k % ns.length) 0 + ((k / ns.length : Nat) : Int) * 104729
def drawn1 (c k : Int) : Int := (c * 6364136223846793005 + (k + 1) * 1442695040888963407) % 340282366920938463463374607431768211507
def drawn2 (x : Int) : Int := x * x % 340282366920938463463374607431768211297
def drawn3 (x : Int) : Int := (x % 18446744073709551557 + 1) * (x / 18446744073709551557 + 1) * x
/-- the law's great number -/
def drawn (c k : Int) : Int := drawn3 (drawn2 (drawn1 c k)) % 340282366920938463463374607431768211507
theorem drawn1_b (c k : Int) : 0 ≤ drawn1 c k ∧ drawn1 c k < 340282366920938463463374607431768211507 := ⟨Int.emod_nonneg _ (by decide), Int.emod_lt_of_pos _ (by decide)⟩
theorem drawn2_b (x : Int) : 0 ≤ drawn2 x ∧ drawn2 x < 340282366920938463463374607431768211297 := ⟨Int.emod_nonneg _ (by decide), Int.emod_lt_of_pos _ (by decide)⟩
theorem drawn_b (c k : Int) : 0 ≤ drawn c k ∧ drawn c k < 340282366920938463463374607431768211507 := ⟨Int.emod_nonneg _ (by decide), Int.emod_lt_of_pos _ (by decide)⟩
theorem nat129 {x : Int} (h0 : 0 ≤ x) (h1 : x < 340282366920938463463374607431768211507) : x.natAbs < 2 ^ 129 := by
  have e : (2 : Nat) ^ 129 = 680564733841876926926749214863536422912 := by decide
  rw [e]
  omega
theorem mulW {x y : Int} {a b : Nat} (hx : x.natAbs < 2 ^ a) (hy : y.natAbs < 2 ^ b) (ha : 0 < a) (hb : 0 < b) (h : a + b ≤ 1000000) : CMulW x y := wide_mul hx hy ha hb h
def A_law_drawn (ds : List PyData) (d : PyData) : Prop := ∃ c k : Int, ds = [.int c, .int k] ∧ d = .int (drawn c k)
section
variable {P : Program} {w : World} {K : PySem.W.Frag} {mg : Str → Option Value} {base : Heap}
theorem sc__law_drawn : FnScope ["cell", "k", "more"] ["cell", "k"] (defScope s__law_drawn) := ⟨rfl, rfl, rfl, by decide +kernel, rfl, by decide +kernel, by decide +kernel⟩
theorem c__law_drawn (T : GT K mg) : Cal P w K mg base CX0 1 "_law_drawn" ["cell", "k"] (spF K 2 A_law_drawn) := by
  refine cal_F T.f__law_drawn T.g__law_drawn sc__law_drawn rfl (fun _ _ _ _ _ _ us hl => match us, hl with | [_, _], _ => rfl) fun f cdv A' outer s H vs Q E F ds d hr hf hl ha q => ?_
  obtain ⟨c, k, rfl, rfl⟩ := ha
  obtain ⟨v, u, rfl, hv, hu⟩ := dal2 hl
  refine ⟨_, (pss_cons (pS 2 sc__law_drawn.nd (pe_op op_mod (pe_op (kplus K) (pe_op (ktimes K) (pv 0) pe_int) (pe_op (ktimes K) (pe_op (kplus K) (pv 1) pe_int) pe_int)) pe_int))
      (pss_cons (pS 2 sc__law_drawn.nd (pe_op op_mod (pe_op (ktimes K) (pv 2) (pv 2)) pe_int))
      (pss_cons (pS 2 sc__law_drawn.nd (pe_op (ktimes K) (pe_op (ktimes K) (pe_op (kplus K) (pe_op op_mod (pv 2) pe_int) pe_int) (pe_op (kplus K) (pe_op op_fdivW (pv 2) pe_int) pe_int)) (pv 2)))
      (pss_one (ps_ret (pe_op op_mod (pv 2) pe_int)))))), ?_⟩
  have hv : v = .int c := hv
  have hu : u = .int k := hu
  subst hv hu
  have b1 := drawn1_b c k
  have b2 := drawn2_b (drawn1 c k)
  generalize e1 : drawn1 c k = x1 at b1 b2
  generalize e2 : drawn2 x1 = x2 at b2
  refine s_seq (s_set (R := Same) (K := K) (F := F) (d := .int x1) (dv_is (dv_mod (dv_addI (dv_mulI (dv_var rfl (show Da K _ (.int c) _ from rfl)) dv_int (.inl (.inr ⟨by decide, by decide⟩))) (dv_mulI (dv_addI (dv_var rfl (show Da K _ (.int k) _ from rfl)) dv_int) dv_int (.inl (.inr ⟨by decide, by decide⟩)))) dv_int (by decide)) (congrArg PyData.int e1)) hf fun v1 H1 s1 g1 => ?_)
  have f1 := r_fd (R := Same) s1 hf
  refine s_seq (s_set (R := Same) (K := K) (F := F) (d := .int x2) (dv_is (dv_mod (dv_mulI (dv_var rfl g1) (dv_var rfl g1) (.inr (mulW (nat129 b1.1 b1.2) (nat129 b1.1 b1.2) (by decide) (by decide) (by decide)))) dv_int (by decide)) (congrArg PyData.int e2)) f1 fun v2 H2 s2 g2 => ?_)
  have f2 := r_fd (R := Same) s2 f1
  have hd : 0 ≤ x2 / 18446744073709551557 ∧ x2 / 18446744073709551557 < 36893488147419103000 := by omega
  have hm : 0 ≤ x2 % 18446744073709551557 ∧ x2 % 18446744073709551557 < 18446744073709551557 := ⟨Int.emod_nonneg _ (by decide), Int.emod_lt_of_pos _ (by decide)⟩
  have hp : ((x2 % 18446744073709551557 + 1) * (x2 / 18446744073709551557 + 1)).natAbs < 2 ^ 140 := by
    rw [Int.natAbs_mul]
    have h1 : (x2 % 18446744073709551557 + 1).natAbs < 2 ^ 65 := by
      rw [show (2 : Nat) ^ 65 = 36893488147419103232 by decide]
      omega
    have h2 : (x2 / 18446744073709551557 + 1).natAbs < 2 ^ 65 := by
      rw [show (2 : Nat) ^ 65 = 36893488147419103232 by decide]
      omega
    refine Nat.lt_of_lt_of_le (Nat.mul_lt_mul_of_lt_of_le h1 (Nat.le_of_lt h2) (Nat.two_pow_pos _)) ?_
    rw [← Nat.pow_add]
    exact Nat.pow_le_pow_right (by decide) (by decide)
  refine s_seq (s_set (R := Same) (K := K) (F := F) (d := .int (drawn3 x2)) (dv_mulI (dv_mulI (dv_addI (dv_mod (dv_var rfl g2) dv_int (by decide)) dv_int) (dv_addI (dv_div (dv_var rfl g2) dv_int ⟨by decide, by decide⟩) dv_int) (.inl (.inl ⟨by omega, by omega⟩))) (dv_var rfl g2) (.inr (mulW hp (nat129 b2.1 (by omega)) (by decide) (by decide) (by decide)))) f2 fun v3 H3 s3 g3 => ?_)
  refine s_ret (R := Same) (K := K) (F := F) (dv_is (dv_mod (dv_var rfl g3) dv_int (by decide)) ?_) (r_fd (R := Same) s3 f2) fun v4 H4 s4 g4 => q v4 H4 (((s1.trans s2).trans s3).trans s4) g4
  show _ = PyData.int (drawn3 (drawn2 (drawn1 c k)) % 340282366920938463463374607431768211507)
  rw [e1, e2]
end
end Sc

namespace Sc
open PySem PySem.Spec PyProof.Rows L2
/-- the script as it stands, a place -/
def spLCell (K : PySem.W.Frag) : Sp := fun vs H Q _ => ∃ (a : Addr) (ns : List Int) (k : Nat), vs = [.ref a, .int (k : Int)] ∧ SqL K H a (ns.map V.int) ∧ k ≤ 63 ∧ ns.length ≤ 63 ∧ ∀ H', Same H H' → Q (.int (cellOf ns k)) H'
theorem dpAll_ints {K : PySem.W.Frag} {H : Hp} : ∀ ns : List Int, DpAll K H (ns.map V.int) (ns.map PyData.int)
  | [] => .nil
  | n :: ns => .cons (.int n) (dpAll_ints ns)
theorem shl_ints (ns : List Int) : ShL 0 (ns.map PyData.int) := shl_all fun d hd => by
  obtain ⟨n, _, rfl⟩ := List.mem_map.mp hd
  exact sh_int
theorem eqv_nil (ns : List Int) : PyData.eqv (.list (ns.map PyData.int)) (.list []) = decide (ns = []) := by
  cases ns with
  | nil => rfl
  | cons n ns => rfl
section
variable {P : Program} {w : World} {K : PySem.W.Frag} {mg : Str → Option Value} {base : Heap}
theorem sc__law_cell : FnScope ["script", "k"] ["script", "k"] (defScope s__law_cell) := ⟨rfl, rfl, rfl, by decide +kernel, rfl, by decide +kernel, by decide +kernel⟩
theorem c__law_cell (T : GT K mg) : Cal P w K mg base CX0 1 "_law_cell" ["script", "k"] (spLCell K) := by
  obtain ⟨fd, FD⟩ := T.f__law_cell
  refine ⟨_, fd, T.g__law_cell, FD.kp, FD.bindsN (fun _ _ _ _ _ _ us hl => match us, hl with | [_, _], _ => rfl), FD.ok sc__law_cell (fun vs H Q E h => ?_) fun cdv A' outer s H vs Q E hr h => ?_⟩
  · obtain ⟨a, ns, k, rfl, _⟩ := h
    rfl
  obtain ⟨a, ns, k, rfl, hS, hk, hn, q⟩ := h
  refine ⟨_, (pss_cons (ps_if (pt_cmpR (keq K hr.units) (pv 0) (pe_lst pa_nil) (nomark _)) (pss_one (ps_ret (pe_op (ktimes K) (pv 1) pe_int))) pss_nil)
      (pss_one (ps_ret (pe_op (kplus K) (pe_ix (kix K) (pv 0) (pe_op op_mod (pv 1) (pe_callB (klen K) (by rfl) T.z_len (by decide +kernel) (pa_cons (pv 0) pa_nil))) (fun _ _ => rfl)) (pe_op (ktimes K) (pe_op op_fdivW (pv 1) (pe_callB (klen K) (by rfl) T.z_len (by decide +kernel) (pa_cons (pv 0) pa_nil))) pe_int))))), ?_⟩
  -- script == []
  refine s_seq ?_
  refine ⟨_, rfl, (by show 0 ≤ sizeLine; decide), fun p hp => ?_⟩
  have s1 : Same H (upd H p (.lst [])) := same_new hp
  refine .inr ⟨.list (ns.map PyData.int), .list [], .lst (s1.seq hS) (dpAll_ints ns), .lst (SqL.of upd_same) .nil, (sh_list (shl_ints ns)).s, (sh_list shl_nil).s (n := 1), _, rfl, ?_⟩
  rw [eqv_nil]
  by_cases he : ns = []
  · rw [decide_eq_true he]
    refine iteT ?_
    refine s_ret (R := Same) (K := K) (F := []) (dv_is (dv_mulI (dv_var rfl (show Da K _ (.int (k : Int)) _ from rfl)) dv_int (.inl (.inr ⟨by decide, by decide⟩))) rfl) Fd.nil fun v H2 s2 g => ?_
    have g : v = .int ((k : Int) * 7919) := g
    subst g
    have e : cellOf ns k = (k : Int) * 7919 := if_pos he
    rw [← e]
    exact q H2 (s1.trans s2)
  · rw [decide_eq_false he]
    refine iteF (s_next ?_)
    have hpos : 0 < ns.length := List.length_pos_iff.mpr he
    have hlt : k % ns.length < ns.length := Nat.mod_lt _ hpos
    have em : (k : Int) % (ns.length : Int) = ((k % ns.length : Nat) : Int) := by omega
    have ed : (k : Int) / (ns.length : Int) = ((k / ns.length : Nat) : Int) := by omega
    have hdv : k / ns.length ≤ 63 := Nat.le_trans (Nat.div_le_self _ _) hk
    have el : (ns.map V.int).length = ns.length := List.length_map _
    have ix : atI (ns.map V.int) ((k : Int) % (ns.length : Int)) = some (.int (ns.getD (k % ns.length) 0)) := by
      rw [em]
      refine atI_nat ?_
      rw [List.getElem?_map, List.getElem?_eq_getElem hlt, List.getD_eq_getElem?_getD, List.getElem?_eq_getElem hlt]
      rfl
    -- script[k % len(script)] + k // len(script) * 104729
    refine ⟨_, rfl, _, rfl, _, rfl, _, ns.length, rfl, .inl ⟨_, s1.seq hS, el.symm⟩, ?_⟩
    refine ⟨_, _, rfl, rfl, by omega, .inl ⟨a, _, _, _, rfl, rfl, s1.seq hS, ix, ?_⟩⟩
    refine ⟨_, rfl, _, rfl, _, ns.length, rfl, .inl ⟨_, s1.seq hS, el.symm⟩, ?_⟩
    refine ⟨_, _, rfl, rfl, ⟨by omega, ?_⟩, .inl ⟨_, _, rfl, rfl, .inr ⟨by decide, by decide⟩, .inl ⟨_, _, rfl, rfl, ?_⟩⟩⟩
    · have : (ns.length : Int).natAbs = ns.length := by omega
      rw [this]
      exact Nat.lt_of_le_of_lt (Nat.log2_le_self _) (by omega)
    · have e : cellOf ns k = ns.getD (k % ns.length) 0 + (k : Int) / (ns.length : Int) * 104729 := by
        unfold cellOf
        rw [if_neg he, ed]
      have q := q _ s1
      rw [e] at q
      exact q
/-- _law_cell(script, k) -/
theorem dv_lawcell {R : Hp → Hp → Prop} [ROk R] {F : List Addr} {σ : L2.St} {H : Hp} {tb : TE} {E : XK} {i : Nat} {a : Addr} {ns : List Int} {k : Nat} (h : σ[i]? = some (some (.ref a))) (hs : SqL K H a (ns.map V.int)) (hb : DV R K F tb σ H (.int (k : Int))) (hk : k ≤ 63) (hn : ns.length ≤ 63) :
    DV R K F (tCall (spLCell K) [] E (tCons (tVar i) (tCons tb tNil))) σ H (.int (cellOf ns k)) := fun H1 r1 f1 Q q => by
  refine ⟨_, h, hb H1 r1 f1 _ fun v H2 r2 g => ?_⟩
  have g : v = .int (k : Int) := g
  subst g
  exact ⟨a, ns, k, rfl, xt_sqL (ROk.ext (ROk.trans r1 r2)) hs, hk, hn, fun H3 s3 => q _ H3 (ROk.trans r2 (ROk.same s3)) rfl⟩
end
end Sc

namespace Sc
open PySem PySem.Spec PyProof.Rows L2
abbrev CL : List Str := ["BadPage", "BadPlace", "BadSize", "BadText"]
def word (c : Str) : List V := CL.map fun c' => V.bl (decide (c = c'))
theorem wSum : ∀ c ∈ CL, (CL.map fun c' => b2i (decide (c = c'))).sum = 1 := by decide +kernel
def wIx (c : Str) : Nat := CL.idxOf c
theorem wAt : ∀ c ∈ CL, (CL.map fun c' => decide (c = c'))[wIx c]? = some true ∧ ((CL.map fun c' => decide (c = c')).take (wIx c)).all (fun b => !b) = true ∧ CL[wIx c]? = some c := by decide +kernel
section
variable {P : Program} {w : World} {K : PySem.W.Frag} {mg : Str → Option Value} {base : Heap}
theorem sc__law_word : FnScope ["e", "flags", "flag"] ["e"] (defScope s__law_word) := ⟨rfl, rfl, rfl, by decide +kernel, rfl, by decide +kernel, by decide +kernel⟩
theorem c__law_word (T : GT K mg) : HotFn P w K mg base 2 "_law_word" (rWord K CL) := by
  obtain ⟨fd, FD⟩ := T.f__law_word
  refine ⟨_, T.g__law_word, FD.kp, fun A outer s H a oe Q hr hot pin e0 h => ?_⟩
  obtain ⟨c, hc, hz, hf, q⟩ := h
  refine hot_run (k := 1) FD sc__law_word (fun _ _ _ _ _ _ us hl => match us, hl with | [_], _ => rfl) hr pin e0 fun cdv hr => ?_
  have C := T.w.ec c hc
  have hp : (a, oe) ∈ [(a, oe)] := List.mem_cons_self
  have hot : L2H.HotC (L2H.cxH CX0 P w K mg base ["e", "flags", "flag"] "_law_word" (defScope s__law_word) (He.ga K "_law_word") cdv A outer s H C8.E0 (a, oe)) := ⟨(a, oe), hot, hp⟩
  refine ⟨_, (pss_cons (pS 1 sc__law_word.nd (pe_lst (pa_cons (pe_callB (cr_isH C hz.zc hf hp) (by rfl) T.z_isinstance (by decide +kernel) (pa_cons (pv 0) (pa_cons (pe_glob (v := .ref (He.ga K "BadPage")) (by rfl) T.g_BadPage rfl) pa_nil))) (pa_cons (pe_callB (cr_isH C hz.zc hf hp) (by rfl) T.z_isinstance (by decide +kernel) (pa_cons (pv 0) (pa_cons (pe_glob (v := .ref (He.ga K "BadPlace")) (by rfl) T.g_BadPlace rfl) pa_nil))) (pa_cons (pe_callB (cr_isH C hz.zc hf hp) (by rfl) T.z_isinstance (by decide +kernel) (pa_cons (pv 0) (pa_cons (pe_glob (v := .ref (He.ga K "BadSize")) (by rfl) T.g_BadSize rfl) pa_nil))) (pa_cons (pe_callB (cr_isH C hz.zc hf hp) (by rfl) T.z_isinstance (by decide +kernel) (pa_cons (pv 0) (pa_cons (pe_glob (v := .ref (He.ga K "BadText")) (by rfl) T.g_BadText rfl) pa_nil))) pa_nil))))))
      (pss_cons (ps_if (PW.pt (pw_or (pt_cmpR (kne K hr.units) (pe_callB (cr_sumH hot) (by rfl) T.z_sum (by decide +kernel) (pa_cons (pe_flags 1 hot T.z_int (by decide +kernel) (.inl rfl)) pa_nil)) pe_int (nomark _)) (pw_or1 (pt_not (pt_val (pe_callB (cr_isH C hz.zc hf hp) (by rfl) T.z_isinstance (by decide +kernel) (pa_cons (pv 0) (pa_cons (pe_bltn (v := .ty "ValueError") (by rfl) T.z_ValueError (by decide +kernel) rfl) pa_nil)))))))) (pss_one (ps_ret (pe_tup (pa_cons pe_str (pa_cons pe_str pa_nil))))) pss_nil)
      (pss_one (ps_ret (pe_tup (pa_cons pe_str (pa_cons (pe_ix (kix K) (pe_lst (pa_cons pe_str (pa_cons pe_str (pa_cons pe_str (pa_cons pe_str pa_nil))))) (kbm K PySem.F.plainAttrs_list PySem.F.slot_list_index PySem.F.type_list_index mt_index (pv 1) (pa_cons pe_bl pa_nil)) (fun _ _ => rfl)) pa_nil))))))), ?_⟩
  refine s_seq ?_
  iterate 4 refine ⟨_, rfl, ⟨_, _, _, rfl, fun u r => r, T.w.ki c hc _ (by decide), ?_⟩⟩
  refine ⟨Nat.le_of_ble_eq_true rfl, fun l hl => ?_⟩
  have s1 : Same H (upd H l (.lst (word c))) := same_new hl
  refine s_seq ?_
  refine ⟨l, CL.map fun c' => decide (c = c'), rfl, upd_same, fun D hD => ?_⟩
  refine ⟨D, CL.map fun c' => b2i (decide (c = c')), rfl, upd_same, ?_⟩
  have e1 : (CL.map fun c' => b2i (decide (c = c'))).sum = 1 := wSum c hc
  rw [e1]
  refine .inl ⟨rfl, _, rfl, iteF ?_⟩
  refine ⟨_, rfl, _, _, _, rfl, fun u r => r, T.w.ve c hc, ?_⟩
  refine ⟨_, rfl, iteF (s_next ?_)⟩
  have s2 : Same (upd H l (.lst (word c))) (upd (upd H l (.lst (word c))) D (.lst (CL.map fun c' => V.int (b2i (decide (c = c')))))) := same_new hD
  have gl2 := s2 _ _ (upd_same (H := H) (a := l) (o := .lst (word c)))
  refine ⟨Nat.le_of_ble_eq_true rfl, fun D2 hD2 => ?_⟩
  have s3 := same_new (o := .lst (CL.map V.str)) hD2
  obtain ⟨w1, w2, w3⟩ := wAt c hc
  refine ⟨_, rfl, .inl ⟨rfl, _, SqL.of (s3 _ _ gl2)⟩, ?_⟩
  refine ⟨l, word c, .bl true, wIx c, .bl true, rfl, rfl, SqL.of (s3 _ _ gl2), rfl, ?_, ?_, rfl, ?_, ?_⟩
  · rfl
  · show ((CL.map fun c' => decide (c = c')).map V.bl)[wIx c]? = _
    rw [List.getElem?_map, w1]
    rfl
  · intro m z hm hz
    have hz : ((CL.map fun c' => decide (c = c')).map V.bl)[m]? = some z := hz
    rw [List.getElem?_map] at hz
    obtain ⟨b, hb, rfl⟩ := Option.map_eq_some_iff.mp hz
    have hm2 : b ∈ (CL.map fun c' => decide (c = c')).take (wIx c) := List.mem_of_getElem? (i := m) (by rw [List.getElem?_take_of_lt hm]; exact hb)
    have := List.all_eq_true.mp w2 b hm2
    cases b with
    | true => cases this
    | false => rfl
  · refine .inl ⟨D2, CL.map V.str, _, .str c, rfl, rfl, SqL.of upd_same, atI_nat (by rw [List.getElem?_map, w3]; rfl), ?_⟩
    refine ⟨Nat.le_of_ble_eq_true rfl, fun D3 hD3 => ?_⟩
    have s4 := ((s1.trans s2).trans s3).trans (same_new (o := .tup [.str "refused", .str c]) hD3)
    refine q D3 _ s4 ?_ upd_same
    cases h9 : H D3 with
    | none => rfl
    | some o =>
      cases hD3.symm.trans (((s1.trans s2).trans s3) _ _ h9)
end
end Sc

namespace Sc
open PySem PySem.Spec PyProof.Rows L2
theorem sc__law_told : FnScope ["deed", "e"] ["deed"] (defScope s__law_told) := ⟨rfl, rfl, rfl, by decide +kernel, rfl, by decide +kernel, by decide +kernel⟩
theorem told_scr (K : PySem.W.Frag) (mg : Str → Option Value) (T : GT K mg) : ∀ c ∈ CL, PySem.W.exmOne K (.ref (He.ga K c)) (.ref (He.ga K "ScreenError")) = some true := by
  intro c hc
  simp only [List.mem_cons, List.not_mem_nil, or_false] at hc
  rcases hc with rfl | rfl | rfl | rfl
  · exact T.xm_BadPage
  · exact T.xm_BadPlace
  · exact T.xm_BadSize
  · exact T.xm_BadText
theorem told_at {X : Cx} (T : GT X.K X.mg) {Ts : List (Addr × Str)} {c P : Addr} {k : Nat} {params : Arguments} {body : Expr} {scope : Scope} {t : XK → TE} {p lpos pos : Pos}
    (TB : LamX.TabB X.base X.mg c P) (hcode : X.env.code = .ref c) (hmT : (P, lq X) ∈ Ts) (hu : ∀ p ∈ Ts, p.1 = P → p.2 = lq X) (hr : Room (k + 2) X.A) (hk : 1 ≤ k) (hg : Gl X "_law_told") (L : LamX.lamSB X.env.scope scope = true) (hdef : defaultsOf params X.env = ([], []))
    (hbind : ∀ (q : Str) (cl : List (Str × Addr)) (pm cv ctv : Value), bindArgs (PySem.W.kla_fn "<lambda>" q params body scope cl pm cv ctv) ⟨[], []⟩ = pure [])
    (hbody : ∀ (A : Around) (outer : List Env) (s : Shared) (H : Hp) (E : XK) (f c' : Addr), Room k (A.deeper (LamX.lamEnv X scope s.heap.objs.size f c')) → PE (lamN X A outer s H E scope f c') body (t E)) :
    PE X (.Call (.Name "_law_told" p) [.Lambda params body scope lpos] [] pos) (tTold Ts X.K CL t) :=
  pe_told (kw := 2) (a := "deed") (e := "ScreenError") (n := "e") (wd := "_law_word") (st := s__law_told) T.f__law_told T.g__law_told sc__law_told rfl (fun _ _ _ _ _ _ us hl => match us, hl with | [_], _ => rfl) ⟨_, _, _, _, _, _, _, _, _, _, rfl⟩ rfl (.inl rfl) rfl rfl (by decide +kernel) T.g_ScreenError (told_scr X.K X.mg T) (c__law_word T) (by omega) TB hcode hmT hu hr hg (LamX.lamS_by L) hdef hbind hbody
end Sc

namespace Sc
open PySem PySem.Spec PyProof.Rows L2
/-- a reader: what is begun, how many were lost -/
def RdAt (K : PySem.W.Frag) (H : Hp) (a : Addr) (b : Str) (n : Int) : Prop := ∃ dx, H a = some (.ins (He.ga K "Reader") dx [("begun", .str b), ("lost", .int n)])
/-- a method's promise: the reader goes from one state to another, a datum is told -/
def spRd (K : PySem.W.Frag) (n : Nat) (A : List PyData → Str → Int → Str → Int → PyData → Prop) : Sp := fun vs H Q _ => ∃ F a ds us b k b' k' d, vs = .ref a :: us ∧ ds.length = n ∧ Fm F H ∧ a ∈ F ∧ RdAt K H a b k ∧ DaL K (hid F H) ds us ∧ A ds b k b' k' d ∧
  ∀ v H', Mo [a] H H' → RdAt K H' a b' k' → Da K (hid F H') d v → Q v H'
theorem spRd.len {K : PySem.W.Frag} {n : Nat} {A : List PyData → Str → Int → Str → Int → PyData → Prop} {vs : List V} {H : Hp} {Q : VK} {E : XK} (h : spRd K n A vs H Q E) : vs.length = n + 1 := by
  obtain ⟨F, a, ds, us, b, k, b', k', d, rfl, hn, _, _, _, h1, _⟩ := h
  rw [List.length_cons, h1.length, hn]
/-- the same, where nothing changes -/
def spRs (K : PySem.W.Frag) (n : Nat) (A : List PyData → Str → Int → PyData → Prop) : Sp := fun vs H Q _ => ∃ F a ds us b k d, vs = .ref a :: us ∧ ds.length = n ∧ Fm F H ∧ RdAt K H a b k ∧ DaL K (hid F H) ds us ∧ A ds b k d ∧
  ∀ v H', Same H H' → Da K (hid F H') d v → Q v H'
theorem spRs.len {K : PySem.W.Frag} {n : Nat} {A : List PyData → Str → Int → PyData → Prop} {vs : List V} {H : Hp} {Q : VK} {E : XK} (h : spRs K n A vs H Q E) : vs.length = n + 1 := by
  obtain ⟨F, a, ds, us, b, k, d, rfl, hn, _, _, h1, _⟩ := h
  rw [List.length_cons, h1.length, hn]
abbrev tEnd : PyData := .tuple [.str "end"]
abbrev tSign (c : Nat) : PyData := .tuple [.str "sign", .str ⟨#[c]⟩]
def plainB (c : Nat) (b : Str) : Str := if c = 94 then "^" else b
def plainO (c : Nat) : List PyData := if c = 94 then [] else if c = 10 then [tEnd] else [tSign c]
def A_plain (ds : List PyData) (b : Str) (k : Int) (b' : Str) (k' : Int) (d : PyData) : Prop := ∃ c : Nat, ds = [.str ⟨#[c]⟩] ∧ b' = plainB c b ∧ k' = k ∧ d = .list (plainO c)
theorem one_eq (a c : Nat) : decide ((⟨#[c]⟩ : Str) = ⟨#[a]⟩) = decide (c = a) := by
  by_cases h : c = a
  · subst h; simp
  · rw [decide_eq_false h]
    refine decide_eq_false fun z => h ?_
    injection z with z
    injection z with z
    injection z
section
variable {P : Program} {w : World} {K : PySem.W.Frag} {mg : Str → Option Value} {base : Heap}
theorem fk_begun (T : GT K mg) : FldOk K (He.ga K "Reader") "begun" := ⟨T.c_Reader, T.n_Reader_begun⟩
theorem fk_lost (T : GT K mg) : FldOk K (He.ga K "Reader") "lost" := ⟨T.c_Reader, T.n_Reader_lost⟩
theorem sc_Reader_plain : FnScope ["self", "sign"] ["self", "sign"] (defScope s_Reader_plain) := ⟨rfl, rfl, rfl, by decide +kernel, rfl, by decide +kernel, by decide +kernel⟩
theorem cm_Reader_plain (T : GT K mg) : CalM P w K mg base CX0 1 "Reader" "plain" ["self", "sign"] (spRd K 1 A_plain) := by
  refine CalM.of T.f_Reader_plain T.c_Reader T.m_Reader_plain sc_Reader_plain (fun _ _ _ _ _ _ us hl => match us, hl with | [_, _], _ => rfl) (fun vs H Q E h => ?_) fun f cdv A' outer s H vs Q E hr h => ?_
  · exact h.len
  obtain ⟨F, a, ds, us, b, k, b', k', d, rfl, _, fm, haF, ⟨dx, ho⟩, hl, ⟨c, rfl, rfl, rfl, rfl⟩, q⟩ := h
  obtain ⟨v, rfl, hv⟩ := dal1 hl
  refine ⟨_, PSs.nox ((pss_cons (ps_if (pt_cmpR (keq K hr.units) (pv 1) pe_str (nomark _)) (pss_cons (ks_fld K (pv 0) pe_str)
      (pss_one (ps_ret (pe_lst pa_nil)))) pss_nil)
      (pss_one (ps_ret (pe_ifExp (pt_cmpR (keq K hr.units) (pv 1) (pe_gs (by rfl) T.t_GAP) (nomark _)) (pe_lst (pa_cons (pe_tup (pa_cons pe_str pa_nil)) pa_nil)) (pe_lst (pa_cons (pe_tup (pa_cons pe_str (pa_cons (pv 1) pa_nil))) pa_nil))))))), ?_⟩
  refine s_seq (s_if (R := Same) (F := F) (dt_is (dt_test (K := K) (dv_eqS (dv_var rfl hv) dv_str)) (one_eq 94 c)) fm.fd (fun e H1 s1 => ?_) fun e H1 s1 => ?_)
  · have e : c = 94 := of_decide_eq_true e
    subst e
    have ho1 := s1 _ _ ho
    refine s_seq (s_fld (R := Same) (K := K) (F := F) (d := .str "^") dv_str (r_fd (R := Same) s1 fm.fd) (vv_var rfl) ho1 (fk_begun T) fun v H2 s2 g ho2 => ?_)
    have g : v = .str "^" := g
    subst g
    have m2 : Mo [a] H (upd H2 a (.ins (He.ga K "Reader") dx [("begun", .str "^"), ("lost", .int k')])) := (Mo.same (s1.trans s2)).write (.inl List.mem_cons_self) trivial ⟨_, ho2, trivial⟩
    refine s_ret (R := Same) (K := K) (F := F) (d := .list []) (dv_lst da_nil (by decide)) (fm.mo m2).fd fun v H3 s3 g => q v H3 (m2.trans (Mo.same s3)) ⟨dx, s3 _ _ upd_same⟩ g
  · have e : c ≠ 94 := of_decide_eq_false e
    have hv1 := r_da (R := Same) s1 hv
    refine s_next (s_ret (R := Same) (K := K) (F := F) (d := .list (plainO c)) ?_ (r_fd (R := Same) s1 fm.fd) fun v H3 s3 g => q v H3 (Mo.same (s1.trans s3)) ⟨dx, by unfold plainB; rw [if_neg e]; exact (s1.trans s3) _ _ ho⟩ g)
    unfold plainO
    rw [if_neg e]
    refine dv_if (dt_is (dt_test (K := K) (dv_eqS (dv_var rfl hv1) dv_str)) (one_eq 10 c)) (fun e => ?_) fun e => ?_
    · have e : c = 10 := of_decide_eq_true e
      rw [if_pos e]
      walk_at "dv"
    · have e : ¬ c = 10 := of_decide_eq_false e
      rw [if_neg e]
      walk_at "dv"
end
end Sc

namespace Sc
open PySem PySem.Spec PyProof.Rows L2
/-! ### what is begun -/
inductive Beg where
  | no
  | hat
  | great (l : Nat)
  | args (l : Nat) (ps : List (List Nat)) (last : List Nat)
abbrev mkS (cs : List Nat) : Str := ⟨cs.toArray⟩
abbrev comma : List (List Nat) → List Nat := TL.joinL [44]
def Beg.cs : Beg → List Nat
  | .no => []
  | .hat => [94]
  | .great l => [94, l]
  | .args l ps last => 94 :: l :: 40 :: comma (ps ++ [last])
def Beg.s (b : Beg) : Str := mkS b.cs
def isGreat (c : Nat) : Bool := decide (65 ≤ c) && decide (c ≤ 90)
def isSmall (c : Nat) : Bool := decide (97 ≤ c) && decide (c ≤ 122)
def isFig (c : Nat) : Bool := decide (48 ≤ c) && decide (c ≤ 57)
/-- figures, at most four -/
def figs (p : List Nat) : Prop := (∀ c ∈ p, 48 ≤ c ∧ c ≤ 57) ∧ p.length ≤ 4
def Beg.ok : Beg → Prop
  | .no => True
  | .hat => True
  | .great l => isGreat l = true
  | .args l ps last => isGreat l = true ∧ (∀ p ∈ ps, figs p ∧ p ≠ []) ∧ figs last ∧ ps.length ≤ 3
theorem comma_cons (p : List Nat) {r : List (List Nat)} (h : r ≠ []) : comma (p :: r) = p ++ 44 :: comma r := by
  match r, h with
  | q :: r, _ => rfl
theorem comma_snoc : ∀ {ps : List (List Nat)} (q : List Nat), ps ≠ [] → comma (ps ++ [q]) = comma ps ++ 44 :: q
  | [p], q, _ => rfl
  | p :: p2 :: r, q, _ => by
    rw [List.cons_append, comma_cons _ (by simp), comma_snoc q (by simp), comma_cons p (by simp), List.append_assoc]
    rfl
theorem comma_last : ∀ (ps : List (List Nat)) (l m : List Nat), comma (ps ++ [l ++ m]) = comma (ps ++ [l]) ++ m
  | [], l, m => rfl
  | p :: r, l, m => by
    rw [List.cons_append, comma_cons _ (by simp), comma_last r l m, List.cons_append, comma_cons _ (by simp), List.append_assoc]
    rfl
theorem mem_comma : ∀ {l : List (List Nat)} {x : Nat}, x ∈ comma l → x = 44 ∨ ∃ p ∈ l, x ∈ p
  | [p], x, h => .inr ⟨p, List.mem_cons_self, h⟩
  | p :: q :: r, x, h => by
    rw [comma_cons p (by simp)] at h
    rcases List.mem_append.mp h with h | h
    · exact .inr ⟨p, List.mem_cons_self, h⟩
    · rcases List.mem_cons.mp h with h | h
      · exact .inl h
      · rcases mem_comma h with h | ⟨p2, h1, h2⟩
        · exact .inl h
        · exact .inr ⟨p2, List.mem_cons_of_mem _ h1, h2⟩
theorem cnt_app (c : Nat) : ∀ (l m : List Nat), cnt c (l ++ m) = cnt c l + cnt c m
  | [], m => by rw [List.nil_append, cnt_nil, Int.zero_add]
  | x :: l, m => by rw [List.cons_append, cnt_cons, cnt_cons, cnt_app c l m, Int.add_assoc]
theorem cnt_none {c : Nat} : ∀ {l : List Nat}, c ∉ l → cnt c l = 0
  | [], _ => cnt_nil c
  | x :: l, h => by
    rw [cnt_cons, if_neg (fun z => h (by rw [z]; exact List.mem_cons_self)), cnt_none fun z => h (List.mem_cons_of_mem _ z)]
    rfl
theorem cnt_comma : ∀ {l : List (List Nat)}, (∀ p ∈ l, 44 ∉ p) → l ≠ [] → cnt 44 (comma l) = (l.length : Int) - 1
  | [p], h, _ => by
    show cnt 44 p = _
    rw [cnt_none (h p List.mem_cons_self)]
    rfl
  | p :: q :: r, h, _ => by
    rw [comma_cons p (by simp), cnt_app, cnt_none (h p List.mem_cons_self), cnt_cons, if_pos rfl, cnt_comma (fun x hx => h x (List.mem_cons_of_mem _ hx)) (by simp)]
    simp only [List.length_cons]
    omega
theorem figs_no {p : List Nat} (h : figs p) : 44 ∉ p := fun z => by
  have := h.1 44 z
  omega
theorem comma_len : ∀ {l : List (List Nat)}, (∀ p ∈ l, p.length ≤ 4) → (comma l).length ≤ 5 * l.length
  | [], _ => Nat.le_refl _
  | [p], h => by
    have := h p List.mem_cons_self
    show p.length ≤ 5 * 1
    omega
  | p :: q :: r, h => by
    rw [comma_cons p (by simp), List.length_append, List.length_cons]
    have h1 := h p List.mem_cons_self
    have h2 := comma_len (l := q :: r) fun x hx => h x (List.mem_cons_of_mem _ hx)
    simp only [List.length_cons] at h2 ⊢
    omega
theorem split_comma {l : List (List Nat)} (hne : l ≠ []) (h : ∀ p ∈ l, 44 ∉ p) : Txt.split (mkS (comma l)) "," = l.map mkS := by
  have e : mkS (comma l) = Txt.join "," (l.map mkS) := by
    rw [TL.join_eq]
    refine StrLaws.mk_of_toList ?_ |>.symm
    rw [show (Str.join "," (l.map mkS)).cps.toList = TL.tl (Str.join "," (l.map mkS)) from rfl, TL.tl_join, List.map_map]
    have : (TL.tl ∘ mkS : List Nat → List Nat) = id := by
      funext x
      simp [TL.tl]
    rw [this, List.map_id]
    rfl
  rw [e]
  refine TL.split_join (s := 44) (S := []) rfl (by decide +kernel) (by simpa using hne) fun p hp => ?_
  obtain ⟨q, hq, rfl⟩ := List.mem_map.mp hp
  have := h q hq
  simpa [TL.tl] using this
/-- whether a command goes on -/
def Beg.go : Beg → Nat → Bool
  | .no, _ => false
  | .hat, c => isSmall c || isGreat c || decide (c = 94)
  | .great _, c => decide (c = 40)
  | .args _ ps last, c => if isFig c then decide (last.length < 4) else if c = 44 then !decide (last = []) && decide (ps.length < 3) else decide (c = 41) && (!decide (last = []) || decide (ps = []))
abbrev tDo (c : Nat) (ns : List Int) : PyData := .tuple [.str "do", .str ⟨#[c]⟩, .tuple (ns.map PyData.int)]
def numsD (ps : List (List Nat)) (last : List Nat) : List Int := if ps = [] ∧ last = [] then [] else (ps ++ [last]).map fun p => ((NumText.digitsVal p : Nat) : Int)
/-- behind a sign with which it goes on -/
def Beg.next : Beg → Nat → Beg × List PyData
  | .no, _ => (.no, [])
  | .hat, c => if c = 94 then (.no, [tSign 94]) else if isSmall c then (.no, [tDo c []]) else (.great c, [])
  | .great l, _ => (.args l [] [], [])
  | .args l ps last, c => if isFig c then (.args l ps (last ++ [c]), []) else if c = 44 then (.args l (ps ++ [last]) [], []) else (.no, [tDo l (numsD ps last)])
/-- a sign in no command -/
def plainG (c : Nat) : Beg := if c = 94 then .hat else .no
/-- a sign is read -/
def Beg.read (b : Beg) (k : Int) (c : Nat) : Beg × Int × List PyData :=
  match b with
  | .no => (plainG c, k, plainO c)
  | b => if b.go c = true then ((b.next c).1, k, (b.next c).2) else (plainG c, k + b.cs.length, plainO c)
theorem Beg.next_ok {b : Beg} {c : Nat} (h : b.ok) (hg : b.go c = true) : (b.next c).1.ok := by
  cases b with
  | no => trivial
  | hat =>
    show (if c = 94 then (Beg.no, [tSign 94]) else if isSmall c = true then (Beg.no, [tDo c []]) else (Beg.great c, [])).1.ok
    by_cases h1 : c = 94
    · rw [if_pos h1]; trivial
    · rw [if_neg h1]
      by_cases h2 : isSmall c = true
      · rw [if_pos h2]; trivial
      · rw [if_neg h2]
        have hg : (isSmall c || isGreat c || decide (c = 94)) = true := hg
        rw [decide_eq_false h1, Bool.or_false] at hg
        rcases Bool.or_eq_true_iff.mp hg with z | z
        · exact absurd z h2
        · exact z
  | great l => exact ⟨h, fun p hp => absurd hp (by simp), ⟨fun c hc => absurd hc (by simp), Nat.zero_le _⟩, Nat.zero_le _⟩
  | args l ps last =>
    obtain ⟨h1, h2, h3, h4⟩ := h
    have hg : (if isFig c then decide (last.length < 4) else if c = 44 then !decide (last = []) && decide (ps.length < 3) else decide (c = 41) && (!decide (last = []) || decide (ps = []))) = true := hg
    show (if isFig c = true then (Beg.args l ps (last ++ [c]), []) else if c = 44 then (Beg.args l (ps ++ [last]) [], []) else (Beg.no, [tDo l (numsD ps last)])).1.ok
    by_cases f : isFig c = true
    · rw [if_pos f] at hg
      rw [if_pos f]
      have hl : last.length < 4 := of_decide_eq_true hg
      have f : (decide (48 ≤ c) && decide (c ≤ 57)) = true := f
      simp only [Bool.and_eq_true, decide_eq_true_eq] at f
      refine ⟨h1, h2, ⟨fun x hx => ?_, by rw [List.length_append]; show last.length + 1 ≤ 4; omega⟩, h4⟩
      rcases List.mem_append.mp hx with z | z
      · exact h3.1 x z
      · rw [List.mem_singleton.mp z]
        exact f
    · rw [if_neg f] at hg
      rw [if_neg f]
      by_cases g : c = 44
      · rw [if_pos g] at hg
        rw [if_pos g]
        obtain ⟨g1, g2⟩ := Bool.and_eq_true_iff.mp hg
        have g1 : last ≠ [] := by simpa using g1
        have g2 : ps.length < 3 := of_decide_eq_true g2
        refine ⟨h1, fun p hp => ?_, ⟨fun x hx => absurd hx (by simp), Nat.zero_le _⟩, by rw [List.length_append]; show ps.length + 1 ≤ 3; omega⟩
        rcases List.mem_append.mp hp with z | z
        · exact h2 p z
        · rw [List.mem_singleton.mp z]
          exact ⟨h3, g1⟩
      · rw [if_neg g]
        trivial
theorem Beg.read_ok {b : Beg} {k : Int} {c : Nat} (h : b.ok) : (b.read k c).1.ok := by
  have hp : (plainG c).ok := by
    unfold plainG
    split <;> trivial
  unfold Beg.read
  split
  · exact hp
  · split
    · rename_i hg
      exact Beg.next_ok h hg
    · exact hp
end Sc

namespace Sc
open PySem PySem.Spec PyProof.Rows L2
theorem mkS_len (l : List Nat) : (mkS l).length = l.length := by simp [Str.length]
theorem Beg.len {b : Beg} (h : b.ok) : b.cs.length ≤ 30 := by
  cases b with
  | no => decide
  | hat => decide
  | great l => exact Nat.le_of_ble_eq_true rfl
  | args l ps last =>
    obtain ⟨h1, h2, h3, h4⟩ := h
    have := comma_len (l := ps ++ [last]) fun p hp => by
      rcases List.mem_append.mp hp with z | z
      · exact (h2 p z).1.2
      · rw [List.mem_singleton.mp z]; exact h3.2
    show (94 :: l :: 40 :: comma (ps ++ [last])).length ≤ 30
    simp only [List.length_cons, List.length_append, List.length_nil] at this ⊢
    omega
theorem Beg.slen {b : Beg} (h : b.ok) : b.s.length ≤ 30 := by
  rw [show b.s = mkS b.cs from rfl, mkS_len]
  exact Beg.len h
theorem le_sz {n : Nat} (h : n ≤ 1000) : n ≤ sizeLine := by
  rw [sizeLine_eq]
  omega
theorem le_sz' {n : Nat} (h : n ≤ 10000) : n ≤ sizeLine := by
  rw [sizeLine_eq]
  omega
theorem pieces_no {l : Nat} {ps : List (List Nat)} {last : List Nat} (h : (Beg.args l ps last).ok) : ∀ p ∈ ps ++ [last], 44 ∉ p := fun p hp => by
  obtain ⟨h1, h2, h3, h4⟩ := h
  rcases List.mem_append.mp hp with z | z
  · exact figs_no (h2 p z).1
  · rw [List.mem_singleton.mp z]; exact figs_no h3
theorem atI_last {α : Type} {l : List α} {x : α} (h : l.getLast? = some x) : atI l (-1) = some x := by
  have hl : l ≠ [] := fun z => by rw [z] at h; cases h
  have h0 : 0 < l.length := List.length_pos_iff.mpr hl
  have e : ixN l.length (-1) = some (l.length - 1) := by
    unfold ixN
    rw [if_neg (by omega)]
    simp
    omega
  unfold atI
  rw [e]
  rw [List.getLast?_eq_getElem?] at h
  exact h
def smallT : List Nat := (Str.ofString "abcdefghijklmnopqrstuvwxyz").cps.toList
def A_go (ds : List PyData) (b : Str) (k : Int) (d : PyData) : Prop := ∃ (B : Beg) (c : Nat), ds = [.str ⟨#[c]⟩] ∧ b = B.s ∧ B.ok ∧ B ≠ .no ∧ d = .bool (B.go c)
theorem in_small (c : Nat) : decide (c ∈ (Str.ofString "abcdefghijklmnopqrstuvwxyz").cps.toList) = isSmall c := by
  rw [show (Str.ofString "abcdefghijklmnopqrstuvwxyz").cps.toList = [97,98,99,100,101,102,103,104,105,106,107,108,109,110,111,112,113,114,115,116,117,118,119,120,121,122] by decide +kernel]
  unfold isSmall
  by_cases h : 97 ≤ c ∧ c ≤ 122
  · rw [decide_eq_true h.1, decide_eq_true h.2]
    refine decide_eq_true ?_
    simp only [List.mem_cons, List.not_mem_nil, or_false]
    omega
  · rw [← Bool.decide_and, decide_eq_false h]
    refine decide_eq_false fun z => h ?_
    simp only [List.mem_cons, List.not_mem_nil, or_false] at z
    omega
theorem in_letters (c : Nat) : decide (c ∈ (Str.ofString "abcdefghijklmnopqrstuvwxyz" ++ Str.ofString "ABCDEFGHIJKLMNOPQRSTUVWXYZ" ++ Str.ofString "^").cps.toList) = (isSmall c || isGreat c || decide (c = 94)) := by
  rw [show (Str.ofString "abcdefghijklmnopqrstuvwxyz" ++ Str.ofString "ABCDEFGHIJKLMNOPQRSTUVWXYZ" ++ Str.ofString "^").cps.toList = (Str.ofString "abcdefghijklmnopqrstuvwxyz").cps.toList ++ [65,66,67,68,69,70,71,72,73,74,75,76,77,78,79,80,81,82,83,84,85,86,87,88,89,90] ++ [94] by decide +kernel]
  simp only [List.mem_append, List.mem_singleton, Bool.decide_or, in_small]
  congr 2
  unfold isGreat
  by_cases h : 65 ≤ c ∧ c ≤ 90
  · rw [decide_eq_true h.1, decide_eq_true h.2]
    refine decide_eq_true ?_
    simp only [List.mem_cons, List.not_mem_nil, or_false]
    omega
  · rw [← Bool.decide_and, decide_eq_false h]
    refine decide_eq_false fun z => h ?_
    simp only [List.mem_cons, List.not_mem_nil, or_false] at z
    omega
theorem in_figs (c : Nat) : decide (c ∈ (Str.ofString "0123456789").cps.toList) = isFig c := by
  rw [show (Str.ofString "0123456789").cps.toList = [48,49,50,51,52,53,54,55,56,57] by decide +kernel]
  unfold isFig
  by_cases h : 48 ≤ c ∧ c ≤ 57
  · rw [decide_eq_true h.1, decide_eq_true h.2]
    refine decide_eq_true ?_
    simp only [List.mem_cons, List.not_mem_nil, or_false]
    omega
  · rw [← Bool.decide_and, decide_eq_false h]
    refine decide_eq_false fun z => h ?_
    simp only [List.mem_cons, List.not_mem_nil, or_false] at z
    omega
/-- the last sign of what is begun -/
theorem args_last {l : Nat} {ps : List (List Nat)} {last : List Nat} : ∃ z, (Beg.args l ps last).cs.getLast? = some z ∧ (last = [] → (decide (z = 40) = decide (ps = []))) := by
  refine ⟨(Beg.args l ps last).cs.getLast (by simp [Beg.cs]), List.getLast?_eq_some_getLast _, fun h => ?_⟩
  subst h
  by_cases hp : ps = []
  · subst hp
    rfl
  · have e : (Beg.args l ps []).cs = (94 :: l :: 40 :: comma ps) ++ [44] := by
      show 94 :: l :: 40 :: comma (ps ++ [[]]) = _
      rw [comma_snoc [] hp]
      rfl
    have e2 : (Beg.args l ps []).cs.getLast (by simp [Beg.cs]) = 44 := by
      have h2 : (Beg.args l ps []).cs.getLast? = some 44 := by
        rw [e]
        exact List.getLast?_concat
      rw [List.getLast?_eq_some_getLast (by simp [Beg.cs])] at h2
      exact Option.some.inj h2
    rw [e2, decide_eq_false hp]
    rfl
theorem mkS_nil (l : List Nat) : decide (mkS l = Str.ofString "") = decide (l = []) := by
  by_cases h : l = []
  · subst h
    rfl
  · rw [decide_eq_false h]
    refine decide_eq_false fun z => h ?_
    have := congrArg (fun s : Str => s.cps.toList) z
    rw [show (Str.ofString "") = mkS [] from rfl] at this
    simpa using this
section
variable {P : Program} {w : World} {K : PySem.W.Frag} {mg : Str → Option Value} {base : Heap}
theorem sc_Reader_can_go_on : FnScope ["self", "sign", "last"] ["self", "sign"] (defScope s_Reader_can_go_on) := ⟨rfl, rfl, rfl, by decide +kernel, rfl, by decide +kernel, by decide +kernel⟩
theorem cm_Reader_can_go_on (T : GT K mg) : CalM P w K mg base CX0 1 "Reader" "can_go_on" ["self", "sign"] (spRs K 1 A_go) := by
  refine CalM.of T.f_Reader_can_go_on T.c_Reader T.m_Reader_can_go_on sc_Reader_can_go_on (fun _ _ _ _ _ _ us hl => match us, hl with | [_, _], _ => rfl) (fun vs H Q E h => ?_) fun f cdv A' outer s H vs Q E hr h => ?_
  · exact h.len
  obtain ⟨F, a, ds, us, b, k, d, rfl, _, fm, ⟨dx, ho⟩, hl, ⟨B, c, rfl, rfl, hok, hno, rfl⟩, q⟩ := h
  obtain ⟨v, rfl, hv⟩ := dal1 hl
  refine ⟨_, PSs.nox ((pss_cons (ps_if (pt_cmpR (keq K hr.units) (pe_callB (klen K) (by rfl) T.z_len (by decide +kernel) (pa_cons (kfld K (pv 0)) pa_nil)) pe_int (nomark _)) (pss_one (ps_ret (pe_cmpR (kmem K) (pv 1) (pe_op (kplus K) (pe_op (kplus K) (pe_gs (by rfl) T.t_SMALL) (pe_gs (by rfl) T.t_GREAT)) pe_str) rfl))) pss_nil)
      (pss_cons (ps_if (pt_cmpR (keq K hr.units) (pe_callB (klen K) (by rfl) T.z_len (by decide +kernel) (pa_cons (kfld K (pv 0)) pa_nil)) pe_int (nomark _)) (pss_one (ps_ret (pe_cmpR (keq K hr.units) (pv 1) pe_str (nomark _)))) pss_nil)
      (pss_cons (pS 2 sc_Reader_can_go_on.nd (pe_ix (kix K) (kbm K PySem.F.plainAttrs_str PySem.F.slot_str_split PySem.F.type_str_split mt_split (pe_slice (ksl K) (kfld K (pv 0)) (po_some pe_int) po_none) (pa_cons pe_str pa_nil)) (pe_un un_neg pe_int) (fun _ _ => rfl)))
      (pss_cons (ps_if (pt_cmpR (kmem K) (pv 1) (pe_gs (by rfl) T.t_FIGURES) rfl) (pss_one (ps_ret (pe_cmpR op_lt (pe_callB (klen K) (by rfl) T.z_len (by decide +kernel) (pa_cons (pv 2) pa_nil)) (pe_gi (by rfl) T.i_MOST_FIGURES) (nomark _)))) pss_nil)
      (pss_cons (ps_if (pt_cmpR (keq K hr.units) (pv 1) pe_str (nomark _)) (pss_one (ps_ret (pe_and (pe_cmpR (kne K hr.units) (pv 2) pe_str (nomark _)) (pe_one (pe_cmpR op_lt (kbm K PySem.F.plainAttrs_str PySem.F.slot_str_count PySem.F.type_str_count mt_count (kfld K (pv 0)) (pa_cons pe_str pa_nil)) (pe_op op_sub (pe_gi (by rfl) T.i_MOST_ARGUMENTS) pe_int) (nomark _)))))) pss_nil)
      (pss_one (ps_ret (pe_and (pe_cmpR (keq K hr.units) (pv 1) pe_str (nomark _)) (pe_one (pe_or (pe_cmpR (kne K hr.units) (pv 2) pe_str (nomark _)) (pe_one (pe_cmpR (keq K hr.units) (pe_ix (kix K) (kfld K (pv 0)) (pe_un un_neg pe_int) (fun _ _ => rfl)) pe_str (nomark _)))))))))))))), ?_⟩
  have bg : ∀ {σ : L2.St} {H1}, σ[0]? = some (some (.ref a)) → Same H H1 → DV Same K F (tFld K (tVar 0) "begun") σ H1 (.str B.s) := fun hσ s1 => dv_fld (vv_var hσ) (s1 _ _ ho) (fk_begun T) rfl rfl
  have sl := Beg.slen hok
  have ln : B.s.length = B.cs.length := mkS_len _
  have fin : ∀ {b : Bool} {v H1}, Same H H1 → b = B.go c → Da K (hid F H1) (.bool b) v → Q v H1 := fun s1 e g => q _ _ s1 (e ▸ g)
  have f0 := fm.fd
  refine s_seq (s_if (R := Same) (F := F) (dt_test (K := K) (dv_eqI (dv_lenS (bg rfl (Same.refl H)) (le_sz (by omega))) dv_int)) f0 (fun e H1 s1 => ?_) fun e H1 s1 => ?_)
  · have e : (B.s.length : Int) = 1 := of_decide_eq_true e
    refine s_ret (R := Same) (K := K) (F := F) (dv_inS (dv_var rfl (r_da (R := Same) s1 hv)) (dv_addS (dv_addS dv_str dv_str (Nat.le_of_ble_eq_true rfl)) dv_str (Nat.le_of_ble_eq_true rfl))) (r_fd (R := Same) s1 f0) fun v H2 s2 g => fin (s1.trans s2) ?_ g
    rw [in_letters]
    rw [ln] at e
    cases B with
    | no => exact absurd rfl hno
    | hat => rfl
    | great l => exact absurd e (show ¬ ((2 : Nat) : Int) = 1 by decide)
    | args l ps last => exact absurd e (by simp [Beg.cs]; omega)
  · have e : ¬ (B.s.length : Int) = 1 := of_decide_eq_false e
    refine s_next (s_seq (s_if (R := Same) (F := F) (dt_test (K := K) (dv_eqI (dv_lenS (bg rfl s1) (le_sz (by omega))) dv_int)) (r_fd (R := Same) s1 f0) (fun e2 H2 s2 => ?_) fun e2 H2 s2 => ?_))
    · have e2 : (B.s.length : Int) = 2 := of_decide_eq_true e2
      refine s_ret (R := Same) (K := K) (F := F) (dv_eqS (dv_var rfl (r_da (R := Same) (s1.trans s2) hv)) dv_str) (r_fd (R := Same) (s1.trans s2) f0) fun v H3 s3 g => fin ((s1.trans s2).trans s3) ?_ g
      rw [show (Str.ofString "(") = ⟨#[40]⟩ from rfl, one_eq]
      rw [ln] at e2
      cases B with
      | no => exact absurd rfl hno
      | hat => exact absurd e2 (by decide)
      | great l => rfl
      | args l ps last => exact absurd e2 (by simp [Beg.cs]; omega)
    · have e2 : ¬ (B.s.length : Int) = 2 := of_decide_eq_false e2
      rw [ln] at e e2
      cases B with
      | no => exact absurd rfl hno
      | hat => exact absurd rfl e
      | great l => exact absurd rfl e2
      | args l ps last =>
        have s12 := s1.trans s2
        have hp := pieces_no hok
        have cut : cutS (Beg.args l ps last).s (some 3) none = mkS (comma (ps ++ [last])) := by
          show mkS ((((Beg.args l ps last).s.cps.toList).drop (min 3 (Beg.args l ps last).s.length)).take ((Beg.args l ps last).s.length - min 3 (Beg.args l ps last).s.length)) = _
          have h3 : 3 ≤ (Beg.args l ps last).s.length := by rw [ln]; simp [Beg.cs]
          rw [Nat.min_eq_left h3, ln]
          show mkS ((((Beg.args l ps last).cs.toArray.toList).drop 3).take _) = _
          rw [List.toList_toArray]
          show mkS (List.take ((94 :: l :: 40 :: comma (ps ++ [last])).length - 3) (comma (ps ++ [last]))) = _
          rw [List.take_of_length_le (by simp)]
        have spl : Txt.split (cutS (Beg.args l ps last).s (some 3) none) "," = (ps ++ [last]).map mkS := by rw [cut, split_comma (by simp) hp]
        have cl : (cutS (Beg.args l ps last).s (some 3) none).length + 2 ≤ sizeLine := by
          rw [cut, mkS_len]
          have h3 : (comma (ps ++ [last])).length ≤ 30 := by
            have := Beg.len hok
            simp only [Beg.cs, List.length_cons] at this
            omega
          exact le_sz (by omega)
        refine s_next (s_seq (s_set (R := Same) (K := K) (F := F) (d := .str (mkS last)) (dv_ixL (ds := ((ps ++ [last]).map mkS).map PyData.str) (dv_is (dv_split (dv_slS (bg rfl s12) (do_some (K := K) dv_int) do_none (le_sz (by omega))) dv_str (by decide +kernel) cl) (by rw [spl])) (dv_neg dv_int) (atI_last (by simp))) (r_fd (R := Same) s12 f0) fun vl H3 s3 gl => ?_))
        have gl : vl = .str (mkS last) := gl
        subst gl
        have s13 := s12.trans s3
        have dl : ∀ {σ : L2.St} {H1 : Hp}, σ[2]? = some (some (.str (mkS last))) → DV Same K F (tVar 2) σ H1 (.str (mkS last)) := fun h => dv_var h rfl
        have ll : last.length ≤ 4 := hok.2.2.1.2
        refine s_seq (s_if (R := Same) (F := F) (dt_is (dt_test (K := K) (dv_inS (dv_var rfl (r_da (R := Same) s13 hv)) dv_str)) (in_figs c)) (r_fd (R := Same) s13 f0) (fun e3 H4 s4 => ?_) fun e3 H4 s4 => ?_)
        · refine s_ret (R := Same) (K := K) (F := F) (dv_lt (dv_lenS (dl rfl) (le_sz (by rw [mkS_len]; omega))) dv_int) (r_fd (R := Same) (s13.trans s4) f0) fun v H5 s5 g => fin ((s13.trans s4).trans s5) ?_ g
          show _ = (if isFig c then decide (last.length < 4) else _)
          rw [if_pos e3, mkS_len]
          by_cases hh : last.length < 4
          · rw [decide_eq_true hh]; exact decide_eq_true (by omega)
          · rw [decide_eq_false hh]; exact decide_eq_false (by omega)
        · have s14 := s13.trans s4
          refine s_next (s_seq (s_if (R := Same) (F := F) (dt_is (dt_test (K := K) (dv_eqS (dv_var rfl (r_da (R := Same) s14 hv)) dv_str)) (one_eq 44 c)) (r_fd (R := Same) s14 f0) (fun e4 H5 s5 => ?_) fun e4 H5 s5 => ?_))
          · have e4 : c = 44 := of_decide_eq_true e4
            refine s_ret (R := Same) (K := K) (F := F) (dv_and (dv_neS (dl rfl) dv_str) fun _ => dv_lt (dv_count (bg rfl (s14.trans s5)) dv_str) (dv_subI dv_int dv_int)) (r_fd (R := Same) (s14.trans s5) f0) fun v H6 s6 g => fin ((s14.trans s5).trans s6) ?_ g
            show _ = (if isFig c then _ else if c = 44 then _ else _)
            rw [e3, if_neg Bool.false_ne_true, if_pos e4, mkS_nil]
            congr 1
            rw [show (Str.ofString ",") = ⟨#[44]⟩ from rfl, count_cnt, show (Beg.args l ps last).s.cps.toList = [94, l, 40] ++ comma (ps ++ [last]) by simp [Beg.s, Beg.cs], cnt_app, cnt_comma hp (by simp)]
            have hl : cnt 44 [94, l, 40] = 0 := by
              refine cnt_none fun z => ?_
              have hg : (decide (65 ≤ l) && decide (l ≤ 90)) = true := hok.1
              simp only [Bool.and_eq_true, decide_eq_true_eq] at hg
              simp only [List.mem_cons, List.not_mem_nil, or_false] at z
              omega
            rw [hl, List.length_append]
            by_cases hh : ps.length < 3
            · rw [decide_eq_true hh]; exact decide_eq_true (by simp; omega)
            · rw [decide_eq_false hh]; exact decide_eq_false (by simp; omega)
          · have e4 : ¬ c = 44 := of_decide_eq_false e4
            have s15 := s14.trans s5
            obtain ⟨z, hz1, hz2⟩ := args_last (l := l) (ps := ps) (last := last)
            refine s_next (s_ret (R := Same) (K := K) (F := F) (dv_and (dv_eqS (dv_var rfl (r_da (R := Same) s15 hv)) dv_str) fun _ => dv_or (dv_neS (dl rfl) dv_str) fun _ => dv_eqS (dv_ixS (bg rfl s15) (dv_neg dv_int) (le_sz (by omega)) (atI_last (by show (Beg.args l ps last).cs.toArray.toList.getLast? = some z; rw [List.toList_toArray]; exact hz1))) dv_str) (r_fd (R := Same) s15 f0) fun v H6 s6 g => fin (s15.trans s6) ?_ g)
            show _ = (if isFig c then _ else if c = 44 then _ else _)
            rw [e3, if_neg Bool.false_ne_true, if_neg e4, mkS_nil, show (Str.ofString ")") = ⟨#[41]⟩ from rfl, show (Str.ofString "(") = ⟨#[40]⟩ from rfl, one_eq, one_eq]
            congr 1
            by_cases hh : last = []
            · rw [hz2 hh]
            · rw [decide_eq_false hh]
              rfl
end
end Sc

namespace Sc
open PySem PySem.Spec PyProof.Rows L2
def A_whole (ds : List PyData) (b : Str) (k : Int) (b' : Str) (k' : Int) (d : PyData) : Prop := ∃ (B : Beg) (c : Nat), ds = [] ∧ b = mkS (B.cs ++ [c]) ∧ B.ok ∧ B.go c = true ∧ b' = (B.next c).1.s ∧ k' = k ∧ d = .list (B.next c).2
theorem comma_nil {ps : List (List Nat)} {last : List Nat} : comma (ps ++ [last]) = [] ↔ ps = [] ∧ last = [] := by
  constructor
  · intro h
    by_cases hp : ps = []
    · subst hp
      exact ⟨rfl, h⟩
    · rw [comma_snoc last hp] at h
      simp at h
  · rintro ⟨rfl, rfl⟩
    rfl
theorem mkS_two (a b x y : Nat) : decide (mkS [a, b] = mkS [x, y]) = decide (a = x ∧ b = y) := by
  by_cases h : a = x ∧ b = y
  · rw [h.1, h.2]
    simp
  · rw [decide_eq_false h]
    refine decide_eq_false fun z => h ?_
    have := congrArg (fun s : Str => s.cps.toList) z
    simpa using this
theorem mkS_inj {l m : List Nat} (h : mkS l = mkS m) : l = m := by
  have := congrArg (fun s : Str => s.cps.toList) h
  simpa using this
theorem sIx_neg1 {n d : Nat} (h : 1 ≤ n) : HT.sIx n d (some (-1)) = n - 1 := by
  show (if (-1 : Int) < 0 then ((-1 : Int) + (n : Int)).toNat else min (-1 : Int).toNat n) = n - 1
  rw [if_pos (by decide)]
  omega
theorem sIx_3 {n d : Nat} (h : 3 ≤ n) : HT.sIx n d (some 3) = 3 := by
  have := HT.sIx_nat n d 3
  rw [Nat.min_eq_left h] at this
  exact this
theorem cut_word {l : Nat} {m : List Nat} {c : Nat} : cutS (mkS ((94 :: l :: 40 :: m) ++ [c])) (some 3) (some (-1)) = mkS m := by
  unfold cutS
  have hl : (mkS ((94 :: l :: 40 :: m) ++ [c])).length = m.length + 4 := by
    rw [mkS_len]
    simp
  rw [hl, sIx_3 (by omega), sIx_neg1 (by omega)]
  show mkS _ = _
  congr 1
  simp
theorem nums_ok {ps : List (List Nat)} {last : List Nat} {l : Nat} (h : (Beg.args l ps last).ok) (hl : last ≠ [] ∨ ps = []) (hn : ¬ (ps = [] ∧ last = [])) : ∀ p ∈ ps ++ [last], intText? (mkS p) = some ((NumText.digitsVal p : Nat) : Int) := fun p hp => by
  obtain ⟨h1, h2, h3, h4⟩ := h
  have key : (∀ c ∈ p, 48 ≤ c ∧ c ≤ 57) ∧ p.length ≤ 4 ∧ p ≠ [] := by
    rcases List.mem_append.mp hp with z | z
    · exact ⟨(h2 p z).1.1, (h2 p z).1.2, (h2 p z).2⟩
    · rw [List.mem_singleton.mp z]
      refine ⟨h3.1, h3.2, ?_⟩
      rcases hl with hl | hl
      · exact hl
      · exact fun z => hn ⟨hl, z⟩
  have := intText_digits (x := mkS p) (by simpa [NumText.AllDigits] using key.1) (by simpa using key.2.2) (by rw [mkS_len]; omega)
  simpa using this
section
variable {P : Program} {w : World} {K : PySem.W.Frag} {mg : Str → Option Value} {base : Heap}
theorem sc_Reader_whole : FnScope ["self", "word", "rest", "one"] ["self"] (defScope s_Reader_whole) := ⟨rfl, rfl, rfl, by decide +kernel, rfl, by decide +kernel, by decide +kernel⟩
theorem cm_Reader_whole (T : GT K mg) : CalM P w K mg base CX0 1 "Reader" "whole" ["self"] (spRd K 0 A_whole) := by
  refine CalM.of T.f_Reader_whole T.c_Reader T.m_Reader_whole sc_Reader_whole (fun _ _ _ _ _ _ us hl => match us, hl with | [_], _ => rfl) (fun vs H Q E h => ?_) fun f cdv A' outer s H vs Q E hr h => ?_
  · exact h.len
  obtain ⟨F, a, ds, us, b, k, b', k', d, rfl, _, fm, haF, ⟨dx, ho⟩, hl, ⟨B, c, rfl, rfl, hok, hgo, rfl, rfl, rfl⟩, q⟩ := h
  have hl : us = [] := hl
  subst hl
  have hno : B ≠ .no := fun z => by rw [z] at hgo; cases hgo
  refine ⟨_, PSs.nox ((pss_cons (pS 1 sc_Reader_whole.nd (kfld K (pv 0)))
      (pss_cons (ps_if (pt_cmpR (keq K hr.units) (pv 1) pe_str (nomark _)) (pss_cons (ks_fld K (pv 0) pe_str)
      (pss_one (ps_ret (pe_lst (pa_cons (pe_tup (pa_cons pe_str (pa_cons pe_str pa_nil))) pa_nil))))) pss_nil)
      (pss_cons (ps_if (PW.pt (pw_and (pt_cmpR (keq K hr.units) (pe_callB (klen K) (by rfl) T.z_len (by decide +kernel) (pa_cons (pv 1) pa_nil)) pe_int (nomark _)) (pw_and1 (pt_cmpR (kmem K) (pe_ix (kix K) (pv 1) pe_int (fun _ _ => rfl)) (pe_gs (by rfl) T.t_SMALL) rfl)))) (pss_cons (ks_fld K (pv 0) pe_str)
      (pss_one (ps_ret (pe_lst (pa_cons (pe_tup (pa_cons pe_str (pa_cons (pe_ix (kix K) (pv 1) pe_int (fun _ _ => rfl)) (pa_cons (pe_tup pa_nil) pa_nil)))) pa_nil))))) pss_nil)
      (pss_cons (ps_if (pt_cmpR (kne K hr.units) (pe_ix (kix K) (pv 1) (pe_un un_neg pe_int) (fun _ _ => rfl)) pe_str (nomark _)) (pss_one (ps_ret (pe_lst pa_nil))) pss_nil)
      (pss_cons (ks_fld K (pv 0) pe_str)
      (pss_cons (pS 2 sc_Reader_whole.nd (pe_slice (ksl K) (pv 1) (po_some pe_int) (po_some (pe_un un_neg pe_int))))
      (pss_one (ps_ret (pe_lst (pa_cons (pe_tup (pa_cons pe_str (pa_cons (pe_ix (kix K) (pv 1) pe_int (fun _ _ => rfl)) (pa_cons (pe_ifExp (pt_cmpR (kne K hr.units) (pv 2) pe_str (nomark _)) (pe_callTy (ktuple K) (by rfl) T.z_tuple (by decide +kernel) (pa_cons (pe_lc (own := [("one", 3)]) rfl sc_Reader_whole.nd (ki_list K (kbm K PySem.F.plainAttrs_str PySem.F.slot_str_split PySem.F.type_str_split mt_split (pv 2) (pa_cons pe_str pa_nil))) (blkOk_by (own := [("one", 3)]) (N := ["self", "word", "rest", "one"]) (sc := defScope s_Reader_whole) (by decide +kernel)) (fun _ _ _ _ _ => by exact (pG 3 sc_Reader_whole.nd)) (fun _ _ _ _ _ => by exact pts_nil) (fun _ _ _ _ _ => by exact (pe_callTy call_int_str (by rfl) T.z_int (by decide +kernel) (pa_cons (pv 3) pa_nil)))) pa_nil)) (pe_tup pa_nil)) pa_nil)))) pa_nil))))))))))), ?_⟩
  obtain ⟨W, hW⟩ : ∃ W, W = mkS (B.cs ++ [c]) := ⟨_, rfl⟩
  rw [← hW] at ho
  have wl : W.length ≤ 31 := by
    rw [hW, mkS_len, List.length_append]
    have := Beg.len hok
    simp only [List.length_cons, List.length_nil]
    omega
  have lst : atI W.cps.toList (-1) = some c := atI_last (by rw [hW]; simp)
  -- word = self.begun
  refine s_seq (s_set (R := Same) (K := K) (F := F) (d := .str W) (dv_fld (vv_var rfl) ho (fk_begun T) rfl rfl) fm.fd fun v H1 s1 g => ?_)
  have g : v = .str W := g
  subst g
  have f1 := r_fd (R := Same) s1 fm.fd
  have dw : ∀ {σ : L2.St} {H1 : Hp}, σ[1]? = some (some (.str W)) → DV Same K F (tVar 1) σ H1 (.str W) := fun h => dv_var h rfl
  -- self.begun = "", return ..
  have leave : ∀ {H1 : Hp} (s1 : Same H H1) {σ : L2.St} {te : TE} {d : PyData}, σ[0]? = some (some (.ref a)) → (∀ H2 : Hp, DV Same K F te σ H2 d) → (B.next c).1 = .no → d = .list (B.next c).2 →
      tSeq (sFld K (tVar 0) (tC (V.str "")) "begun") (tRet te) { nx := fun _ H' => Q .non H', rt := Q } σ H1 := fun {H1} s1 {σ te d} hσ hd hn he => by
    refine s_seq (s_fld (R := Same) (K := K) (F := F) (d := .str "") dv_str (r_fd (R := Same) s1 fm.fd) (vv_var hσ) (s1 _ _ ho) (fk_begun T) fun v H2 s2 g ho2 => ?_)
    have g : v = .str "" := g
    subst g
    have m2 : Mo [a] H (upd H2 a (.ins (He.ga K "Reader") dx [("begun", .str ""), ("lost", .int k')])) := (Mo.same (s1.trans s2)).write (.inl List.mem_cons_self) trivial ⟨_, ho2, trivial⟩
    refine s_ret (R := Same) (K := K) (F := F) (d := d) (hd _) (fm.mo m2).fd fun v H3 s3 g => q v H3 (m2.trans (Mo.same s3)) ⟨dx, ?_⟩ (he ▸ g)
    rw [hn]
    exact s3 _ _ upd_same
  refine s_seq (s_if (R := Same) (F := F) (dt_test (K := K) (dv_eqS (dw rfl) dv_str)) f1 (fun e H2 s2 => ?_) fun e H2 s2 => ?_)
  · have e : W = "^^" := of_decide_eq_true e
    have ec : B = .hat ∧ c = 94 := by
      rw [hW, show (Str.ofString "^^") = mkS [94, 94] from rfl] at e
      have e := mkS_inj e
      cases B with
      | no => exact absurd rfl hno
      | hat => exact ⟨rfl, by simpa [Beg.cs] using e⟩
      | great l => simp [Beg.cs] at e
      | args l ps last => simp [Beg.cs] at e
    obtain ⟨rfl, rfl⟩ := ec
    exact leave (s1.trans s2) (d := .list [tSign 94]) rfl (fun H2 => by walk_at "dv") rfl rfl
  · have e : ¬ W = "^^" := of_decide_eq_false e
    have s12 := s1.trans s2
    -- word[1]
    obtain ⟨w1, hw1⟩ : ∃ w1, W.cps.toList[1]? = some w1 := ⟨_, List.getElem?_eq_getElem (by rw [hW]; cases B <;> simp [Beg.cs] at hno ⊢)⟩
    have i1 : ∀ {σ : L2.St} {H1 : Hp}, σ[1]? = some (some (.str W)) → DV Same K F (tOp (rIx K) (tVar 1) (tC (V.int 1))) σ H1 (.str ⟨#[w1]⟩) := fun h => dv_ixS (dw h) dv_int (le_sz (by omega)) (atI_nat (j := 1) hw1)
    refine s_next (s_seq (s_if (R := Same) (F := F) (b := decide (B.cs.length = 1) && isSmall w1) (dt_is (dt_and (a := decide ((W.length : Int) = 2)) (b := isSmall w1) (dt_test (K := K) (dv_eqI (dv_lenS (dw rfl) (le_sz (by omega))) dv_int)) fun _ => dt_is (dt_test (K := K) (dv_inS (i1 rfl) dv_str)) (in_small w1)) ?_) (r_fd (R := Same) s12 fm.fd) (fun e2 H3 s3 => ?_) fun e2 H3 s3 => ?_))
    · congr 1
      rw [hW, mkS_len, List.length_append]
      by_cases h1 : B.cs.length = 1
      · rw [h1]; rfl
      · rw [decide_eq_false h1]
        exact decide_eq_false (by simp; omega)
    · obtain ⟨e3, e4⟩ := Bool.and_eq_true_iff.mp e2
      have e3 : B.cs.length = 1 := of_decide_eq_true e3
      have eb : B = .hat := by
        cases B with
        | no => exact absurd rfl hno
        | hat => rfl
        | great l => exact absurd e3 (show ¬ (2 : Nat) = 1 by decide)
        | args l ps last => simp [Beg.cs] at e3
      subst eb
      have ew : w1 = c := by
        rw [hW] at hw1
        simpa [Beg.cs] using hw1.symm
      subst ew
      have n94 : ¬ w1 = 94 := fun z => e (by rw [hW, z]; rfl)
      have en : Beg.hat.next w1 = (.no, [tDo w1 []]) := by
        show (if w1 = 94 then _ else if isSmall w1 = true then _ else _) = _
        rw [if_neg n94, if_pos e4]
      exact leave (s12.trans s3) (d := .list [tDo w1 []]) rfl (fun H2 => dv_lst (da_cons (dv_tup (da_cons dv_str (da_cons (i1 rfl) (da_cons (dv_tup da_nil (Nat.le_of_ble_eq_true rfl)) da_nil))) (Nat.le_of_ble_eq_true rfl)) da_nil) (Nat.le_of_ble_eq_true rfl)) (by rw [en]) (by rw [en])
    · have s13 := s12.trans s3
      refine s_next (s_seq (s_if (R := Same) (F := F) (b := !decide (c = 41)) (dt_is (dt_test (K := K) (dv_neS (dv_ixS (dw rfl) (dv_neg dv_int) (le_sz (by omega)) lst) dv_str)) (by rw [show (Str.ofString ")") = ⟨#[41]⟩ from rfl, one_eq])) (r_fd (R := Same) s13 fm.fd) (fun e3 H4 s4 => ?_) fun e3 H4 s4 => ?_))
      · have e3 : ¬ c = 41 := by simpa using e3
        have key : (B.next c).1.s = W ∧ (B.next c).2 = [] := by
          cases B with
          | no => exact absurd rfl hno
          | hat =>
            have n94 : ¬ c = 94 := fun z => e (by rw [hW, z]; rfl)
            have ew : w1 = c := by
              rw [hW] at hw1
              simpa [Beg.cs] using hw1.symm
            have ns : ¬ isSmall c = true := fun z => by
              rw [ew, z] at e2
              cases e2
            have en : Beg.hat.next c = (.great c, []) := by
              show (if c = 94 then _ else if isSmall c = true then _ else _) = _
              rw [if_neg n94, if_neg ns]
            rw [en, hW]
            exact ⟨rfl, rfl⟩
          | great l =>
            have hc : c = 40 := of_decide_eq_true hgo
            rw [hW, hc]
            exact ⟨rfl, rfl⟩
          | args l ps last =>
            have hg : (if isFig c then decide (last.length < 4) else if c = 44 then !decide (last = []) && decide (ps.length < 3) else decide (c = 41) && (!decide (last = []) || decide (ps = []))) = true := hgo
            have en : (Beg.args l ps last).next c = (if isFig c = true then (Beg.args l ps (last ++ [c]), []) else if c = 44 then (Beg.args l (ps ++ [last]) [], []) else (Beg.no, [tDo l (numsD ps last)])) := rfl
            by_cases f : isFig c = true
            · rw [en, if_pos f, hW]
              refine ⟨?_, rfl⟩
              show mkS (94 :: l :: 40 :: comma (ps ++ [last ++ [c]])) = mkS ((94 :: l :: 40 :: comma (ps ++ [last])) ++ [c])
              rw [comma_last]
              rfl
            · rw [if_neg f] at hg
              by_cases g : c = 44
              · rw [en, if_neg f, if_pos g, hW]
                refine ⟨?_, rfl⟩
                show mkS (94 :: l :: 40 :: comma ((ps ++ [last]) ++ [[]])) = mkS ((94 :: l :: 40 :: comma (ps ++ [last])) ++ [c])
                rw [comma_snoc [] (by simp), g]
                rfl
              · rw [if_neg g] at hg
                exact absurd (of_decide_eq_true (Bool.and_eq_true_iff.mp hg).1) e3
        refine s_ret (R := Same) (K := K) (F := F) (d := .list []) (dv_lst da_nil (by decide)) (r_fd (R := Same) (s13.trans s4) fm.fd) fun v H5 s5 g => q v H5 (Mo.same ((s13.trans s4).trans s5)) ⟨dx, ?_⟩ (by rw [key.2]; exact g)
        rw [key.1]
        exact ((s13.trans s4).trans s5) _ _ ho
      · have e3 : c = 41 := by simpa using e3
        subst e3
        have s14 := s13.trans s4
        -- only args
        obtain ⟨l, ps, last, rfl⟩ : ∃ l ps last, B = .args l ps last := by
          cases B with
          | no => exact absurd rfl hno
          | hat => exact absurd hgo (by decide)
          | great l => exact absurd (show decide ((41 : Nat) = 40) = true from hgo) (by decide)
          | args l ps last => exact ⟨_, _, _, rfl⟩
        have hlp : last ≠ [] ∨ ps = [] := by
          have hg : (if isFig 41 then decide (last.length < 4) else if (41 : Nat) = 44 then !decide (last = []) && decide (ps.length < 3) else decide ((41 : Nat) = 41) && (!decide (last = []) || decide (ps = []))) = true := hgo
          rw [show isFig 41 = false from rfl, if_neg Bool.false_ne_true, if_neg (by decide)] at hg
          simpa using hg
        have en : (Beg.args l ps last).next 41 = (Beg.no, [tDo l (numsD ps last)]) := rfl
        have cw : cutS W (some 3) (some (-1)) = mkS (comma (ps ++ [last])) := by
          rw [hW]
          exact cut_word
        have wl1 : w1 = l := by
          rw [hW] at hw1
          simpa [Beg.cs] using hw1.symm
        subst wl1
        refine s_next (s_seq (s_fld (R := Same) (K := K) (F := F) (d := .str "") dv_str (r_fd (R := Same) s14 fm.fd) (vv_var rfl) (s14 _ _ ho) (fk_begun T) fun v H5 s5 g ho2 => ?_))
        have g : v = .str "" := g
        subst g
        have m2 : Mo [a] H (upd H5 a (.ins (He.ga K "Reader") dx [("begun", .str ""), ("lost", .int k')])) := (Mo.same (s14.trans s5)).write (.inl List.mem_cons_self) trivial ⟨_, ho2, trivial⟩
        have f5 := (fm.mo m2).fd
        refine s_seq (s_set (R := Same) (K := K) (F := F) (d := .str (mkS (comma (ps ++ [last])))) (dv_is (dv_slS (dw rfl) (do_some (K := K) dv_int) (do_some (K := K) (dv_neg dv_int)) (le_sz (by omega))) (by rw [← cw])) f5 fun vr H6 s6 gr => ?_)
        have gr : vr = .str (mkS (comma (ps ++ [last]))) := gr
        subst gr
        have hp := pieces_no hok
        have cl : (mkS (comma (ps ++ [last]))).length ≤ 30 := by
          rw [mkS_len]
          have := Beg.len hok
          simp only [Beg.cs, List.length_cons] at this
          omega
        refine s_ret (R := Same) (K := K) (F := F) (d := .list [tDo w1 (numsD ps last)]) (dv_lst (da_cons (dv_tup (da_cons dv_str (da_cons (i1 rfl) (da_cons (dv_if (b := !decide (ps = [] ∧ last = [])) (dt_is (dt_test (K := K) (dv_neS (dv_var rfl (show Da K _ (.str (mkS (comma (ps ++ [last])))) _ from rfl)) dv_str)) ?_) (fun hn => ?_) fun hn => ?_) da_nil))) (Nat.le_of_ble_eq_true rfl)) da_nil) (Nat.le_of_ble_eq_true rfl)) (r_fd (R := Same) s6 f5) fun v H7 s7 g => q v H7 (m2.trans (Mo.same (s6.trans s7))) ⟨dx, (s6.trans s7) _ _ upd_same⟩ g
        · rw [mkS_nil, decide_eq_decide.mpr comma_nil]
        · have hn : ¬ (ps = [] ∧ last = []) := of_decide_eq_false (by simpa only [Bool.not_eq_true'] using hn)
          have no := nums_ok hok hlp hn
          refine dv_is (dv_tupOf (ds := (numsD ps last).map PyData.int) (dv_lcL (ds := ((ps ++ [last]).map mkS).map PyData.str) (dv_is (dv_split (dv_var rfl (show Da K _ (.str (mkS (comma (ps ++ [last])))) _ from rfl)) dv_str (by decide +kernel) (le_sz (by omega))) (by rw [split_comma (by simp) hp])) ?_ ?_ (fun _ => rfl) fun F' H8 u j d e w h1 h2 g => ?_)) rfl
          · unfold numsD
            rw [if_neg hn]
            simp
          · have : ps.length ≤ 3 := hok.2.2.2
            refine le_sz ?_
            simp
            omega
          · rw [List.getElem?_map, List.getElem?_map] at h1
            unfold numsD at h2
            rw [if_neg hn, List.getElem?_map, List.getElem?_map] at h2
            cases hx : (ps ++ [last])[j]? with
            | none => rw [hx] at h1; cases h1
            | some p =>
              rw [hx] at h1 h2
              cases h1
              cases h2
              have g : u = .str (mkS p) := g
              subst g
              have pl : p.length ≤ 4 := by
                rcases List.mem_append.mp (List.mem_of_getElem? hx) with z | z
                · exact (hok.2.1 p z).1.2
                · rw [List.mem_singleton.mp z]; exact hok.2.2.1.2
              exact dv_intS (dv_var rfl (show Da K _ (.str (mkS p)) _ from rfl)) (no p (List.mem_of_getElem? hx)) (by rw [mkS_len]; omega)
        · have hn : ps = [] ∧ last = [] := of_decide_eq_true (by simpa only [Bool.not_eq_false'] using hn)
          unfold numsD
          rw [if_pos hn]
          exact dv_tup da_nil (Nat.le_of_ble_eq_true rfl)
end
end Sc

namespace Sc
open PySem PySem.Spec PyProof.Rows L2
def A_read (ds : List PyData) (b : Str) (k : Int) (b' : Str) (k' : Int) (d : PyData) : Prop := ∃ (B : Beg) (c : Nat), ds = [.str ⟨#[c]⟩] ∧ b = B.s ∧ B.ok ∧ b' = (B.read k c).1.s ∧ k' = (B.read k c).2.1 ∧ d = .list (B.read k c).2.2
theorem plainB_s (c : Nat) : plainB c "" = (plainG c).s := by
  unfold plainB plainG
  split <;> rfl
theorem Beg.s_nil {B : Beg} : decide (B.s = "") = decide (B.cs = []) := mkS_nil _
section
variable {P : Program} {w : World} {K : PySem.W.Frag} {mg : Str → Option Value} {base : Heap}
theorem sc_Reader_read : FnScope ["self", "sign"] ["self", "sign"] (defScope s_Reader_read) := ⟨rfl, rfl, rfl, by decide +kernel, rfl, by decide +kernel, by decide +kernel⟩
theorem cm_Reader_read (T : GT K mg) : CalM P w K mg base CX0 2 "Reader" "read" ["self", "sign"] (spRd K 1 A_read) := by
  refine CalM.of T.f_Reader_read T.c_Reader T.m_Reader_read sc_Reader_read (fun _ _ _ _ _ _ us hl => match us, hl with | [_, _], _ => rfl) (fun vs H Q E h => ?_) fun f cdv A' outer s H vs Q E hr h => ?_
  · exact h.len
  obtain ⟨F, a, ds, us, b, k, b', k', d, rfl, _, fm, haF, ⟨dx, ho⟩, hl, ⟨B, c, rfl, rfl, hok, rfl, rfl, rfl⟩, q⟩ := h
  obtain ⟨v, rfl, hv⟩ := dal1 hl
  refine ⟨_, PSs.nox ((pss_cons (ps_if (pt_cmpR (keq K hr.units) (kfld K (pv 0)) pe_str (nomark _)) (pss_one (ps_ret (pe_cm K (cm_Reader_plain T) (hr.mono (by decide)) pass0 (pv 0) (pa_cons (pv 1) pa_nil)))) pss_nil)
      (pss_cons (ps_if (pt_val (pe_cm K (cm_Reader_can_go_on T) (hr.mono (by decide)) pass0 (pv 0) (pa_cons (pv 1) pa_nil))) (pss_cons (ks_fld K (pv 0) (pe_op (kplus K) (kfld K (pv 0)) (pv 1)))
      (pss_one (ps_ret (pe_cm0 K (cm_Reader_whole T) (hr.mono (by decide)) pass0 (pv 0))))) pss_nil)
      (pss_cons (ks_fld K (pv 0) (pe_op (kplus K) (kfld K (pv 0)) (pe_callB (klen K) (by rfl) T.z_len (by decide +kernel) (pa_cons (kfld K (pv 0)) pa_nil))))
      (pss_cons (ks_fld K (pv 0) pe_str)
      (pss_one (ps_ret (pe_cm K (cm_Reader_plain T) (hr.mono (by decide)) pass0 (pv 0) (pa_cons (pv 1) pa_nil))))))))), ?_⟩
  have f0 := fm.fd
  refine s_seq (s_if (R := Same) (F := F) (dt_is (dt_test (K := K) (dv_eqS (dv_fld (vv_var rfl) ho (fk_begun T) rfl (show Da K _ (.str B.s) _ from rfl)) dv_str)) Beg.s_nil) f0 (fun e H1 s1 => ?_) fun e H1 s1 => ?_)
  · have e : B.cs = [] := of_decide_eq_true e
    have eb : B = .no := by
      cases B with
      | no => rfl
      | hat => cases e
      | great l => cases e
      | args l ps last => cases e
    subst eb
    refine te_meth (R := Same) (K := K) (F := F) (vv_var rfl) (s1 _ _ ho) rfl (da_cons (dv_var rfl (r_da (R := Same) s1 hv)) da_nil) (r_fd (R := Same) s1 f0) fun us H2 s2 l => ?_
    have s12 := s1.trans s2
    exact ⟨F, a, _, us, "", k, plainB c "", k, .list (plainO c), rfl, rfl, fm.mo (Mo.same (fp := []) s12), haF, ⟨dx, s12 _ _ ho⟩, l, ⟨c, rfl, rfl, rfl, rfl⟩, fun v H3 m3 r3 g => q v H3 ((Mo.same s12).trans m3) (by rw [plainB_s] at r3; exact r3) g⟩
  · have e : ¬ B.cs = [] := of_decide_eq_false e
    have hno : B ≠ .no := fun z => e (by rw [z]; rfl)
    have rd : ∀ k, B.read k c = if B.go c = true then ((B.next c).1, k, (B.next c).2) else (plainG c, k + B.cs.length, plainO c) := fun k => by
      cases B with
      | no => exact absurd rfl hno
      | hat => rfl
      | great l => rfl
      | args l ps last => rfl
    rw [rd] at q
    refine s_next (s_seq (s_if (R := Same) (F := F) (b := B.go c) (dt_test (K := K) (dv_meth (d := .bool (B.go c)) (vv_var rfl) (s1 _ _ ho) rfl (da_cons (dv_var rfl (r_da (R := Same) s1 hv)) da_nil) fun us H2 Q s2 f2 l q => ?_)) (r_fd (R := Same) s1 f0) (fun e2 H2 s2 => ?_) fun e2 H2 s2 => ?_))
    · exact ⟨F, a, _, us, B.s, k, .bool (B.go c), rfl, rfl, fm.mo (Mo.same (fp := []) (s1.trans s2)), ⟨dx, (s1.trans s2) _ _ ho⟩, l, ⟨B, c, rfl, rfl, hok, hno, rfl⟩, q⟩
    · rw [if_pos e2] at q
      have s12 := s1.trans s2
      have hb := Beg.slen hok
      have hv2 := r_da (R := Same) s12 hv
      have hv2 : v = .str ⟨#[c]⟩ := hv2
      subst hv2
      refine s_seq (s_fld (R := Same) (K := K) (F := F) (d := .str (mkS (B.cs ++ [c]))) (dv_is (dv_addS (dv_fld (vv_var rfl) (s12 _ _ ho) (fk_begun T) rfl (show Da K _ (.str B.s) _ from rfl)) (dv_var rfl (show Da K _ (.str ⟨#[c]⟩) _ from rfl)) (le_sz (by show _ + 1 ≤ _; omega))) ?_) (r_fd (R := Same) s12 f0) (vv_var rfl) (s12 _ _ ho) (fk_begun T) fun v H3 s3 g ho3 => ?_)
      · congr 1
        show (⟨(B.cs.toArray ++ #[c])⟩ : Str) = ⟨(B.cs ++ [c]).toArray⟩
        rw [← List.append_toArray]
      have g : v = .str (mkS (B.cs ++ [c])) := g
      subst g
      have m3 : Mo [a] H (upd H3 a (.ins (He.ga K "Reader") dx [("begun", .str (mkS (B.cs ++ [c]))), ("lost", .int k)])) := (Mo.same (s12.trans s3)).write (.inl List.mem_cons_self) trivial ⟨_, ho3, trivial⟩
      refine te_meth (R := Same) (K := K) (F := F) (vv_var rfl) upd_same rfl da_nil (fm.mo m3).fd fun us H4 s4 l => ?_
      exact ⟨F, a, _, us, mkS (B.cs ++ [c]), k, (B.next c).1.s, k, .list (B.next c).2, rfl, rfl, fm.mo (m3.trans (Mo.same s4)), haF, ⟨dx, s4 _ _ upd_same⟩, l, ⟨B, c, rfl, rfl, hok, e2, rfl, rfl, rfl⟩, fun v H5 m5 r5 g => q v H5 ((m3.trans (Mo.same s4)).trans m5) r5 g⟩
    · have e2' : ¬ B.go c = true := by rw [e2]; exact Bool.false_ne_true
      rw [if_neg e2'] at q
      have s12 := s1.trans s2
      have hb := Beg.slen hok
      have hv2 : v = .str ⟨#[c]⟩ := r_da (R := Same) s12 hv
      subst hv2
      refine s_next (s_seq (s_fld (R := Same) (K := K) (F := F) (d := .int (k + B.cs.length)) (dv_is (dv_addI (dv_fld (vv_var rfl) (s12 _ _ ho) (fk_lost T) rfl (show Da K _ (.int k) _ from rfl)) (dv_lenS (dv_fld (vv_var rfl) (s12 _ _ ho) (fk_begun T) rfl (show Da K _ (.str B.s) _ from rfl)) (le_sz (by omega)))) (by rw [show B.s = mkS B.cs from rfl, mkS_len])) (r_fd (R := Same) s12 f0) (vv_var rfl) (s12 _ _ ho) (fk_lost T) fun v H3 s3 g ho3 => ?_))
      have g : v = .int (k + B.cs.length) := g
      subst g
      have m3 : Mo [a] H (upd H3 a (.ins (He.ga K "Reader") dx [("begun", .str B.s), ("lost", .int (k + B.cs.length))])) := (Mo.same (s12.trans s3)).write (.inl List.mem_cons_self) trivial ⟨_, ho3, trivial⟩
      refine s_seq (s_fld (R := Same) (K := K) (F := F) (d := .str "") dv_str (fm.mo m3).fd (vv_var rfl) upd_same (fk_begun T) fun v H4 s4 g ho4 => ?_)
      have g : v = .str "" := g
      subst g
      have m4 : Mo [a] H (upd H4 a (.ins (He.ga K "Reader") dx [("begun", .str ""), ("lost", .int (k + B.cs.length))])) := (m3.trans (Mo.same s4)).write (.inl List.mem_cons_self) trivial ⟨_, ho4, trivial⟩
      refine te_meth (R := Same) (K := K) (F := F) (vv_var rfl) upd_same rfl (da_cons (dv_var rfl (show Da K _ (.str ⟨#[c]⟩) _ from rfl)) da_nil) (fm.mo m4).fd fun us H5 s5 l => ?_
      exact ⟨F, a, _, us, "", _, plainB c "", _, .list (plainO c), rfl, rfl, fm.mo (m4.trans (Mo.same s5)), haF, ⟨dx, s5 _ _ upd_same⟩, l, ⟨c, rfl, rfl, rfl, rfl⟩, fun v H6 m6 r6 g => q v H6 ((m4.trans (Mo.same s5)).trans m6) (by rw [plainB_s] at r6; exact r6) g⟩
end
end Sc

namespace Sc
open PySem PySem.Spec PyProof.Rows L2
def isText : PyData → Bool
  | .str x => decide (x.length ≤ 4000) && x.cps.toList.all isSign
  | _ => false
def textSm : PyData → Prop
  | .str x => x.length ≤ sizeLine
  | _ => True
def A_need_text (ds : List PyData) (r : Except Str PyData) : Prop := ∃ e : PyData, ds = [e] ∧ textSm e ∧ r = okIf (isText e) "BadText"
theorem strlen (x : Str) : x.cps.toList.length = x.length := Array.length_toList
section
variable {P : Program} {w : World} {K : PySem.W.Frag} {mg : Str → Option Value} {base : Heap}
theorem sc_need_text : FnScope ["text", "sign"] ["text"] (defScope s_need_text) := ⟨rfl, rfl, rfl, by decide +kernel, rfl, by decide +kernel, by decide +kernel⟩
theorem c_need_text (T : GT K mg) : Cal P w K mg base (XC P w) 2 "need_text" ["text"] (spG K 1 A_need_text) := by
  refine cal_G T.f_need_text T.g_need_text sc_need_text rfl (fun _ _ _ _ _ _ us hl => match us, hl with | [_], _ => rfl) fun f cdv A' outer s H vs Q E F ds r hr hf hl ha q1 q2 => ?_
  obtain ⟨e, rfl, sm, rfl⟩ := ha
  obtain ⟨v, rfl, hv⟩ := dal1 hl
  refine ⟨_, (pss_one (ps_if (PW.pt (pw_or (pt_not (pt_val (pe_callB (kisi K) (by rfl) T.z_isinstance (by decide +kernel) (pa_cons (pv 0) (pa_cons (pe_bltn (v := .ty "str") (by rfl) T.z_str (by decide +kernel) rfl) pa_nil))))) (pw_or (pt_cmpR op_gt (pe_callB (klen K) (by rfl) T.z_len (by decide +kernel) (pa_cons (pv 0) pa_nil)) (pe_gi (by rfl) T.i_MOST_TEXT) (nomark _)) (pw_or1 (pt_not (pt_val (pe_callB (kall K) (by rfl) T.z_all (by decide +kernel) (pa_cons (pe_lc (own := [("sign", 1)]) rfl sc_need_text.nd (pi_str (pv 0)) (blkOk_by (own := [("sign", 1)]) (N := ["text", "sign"]) (sc := defScope s_need_text) (by decide +kernel)) (fun _ _ _ _ _ => by exact (pG 1 sc_need_text.nd)) (fun _ _ _ _ _ => by exact pts_nil) (fun _ _ _ _ _ => by exact (pe_cal (c_is_sign T) (hr.mono (by decide)) pass0 (pa_cons (pv 1) pa_nil)))) pa_nil)))))))) (pss_one (L2N.ps_raise rfl (L2N.takes_of rfl rfl rfl rfl) (L2N.pmk_own PySem.F.excBase_ValueError T.x_BadText.1 T.g_BadText T.x_BadText.2.1 (raises_own T.x_BadText.2.2.1 T.x_BadText.2.2.2) rfl))) pss_nil)), ?_⟩
  have key : DT Same F (tOr (tNot (tTest (tCB (rIsi K) (tCons (tVar 0) (tCons (tC (.ty "str")) tNil))))) (tOr (tTest (tOp (rI0 fun i j => V.bl (decide (j < i))) (tCB (rLn K) (tCons (tVar 0) tNil)) (tC (V.int 4000)))) (tNot (tTest (tCB (rAll K) (tCons (tLc (iStr (tVar 0)) (gName 1) tYes (tCall (spF K 1 A_is_sign) [] E0 (tCons (tVar 1) tNil)) [1]) tNil)))))) (start ["text", "sign"] [v]) H (!isText e) := by
    by_cases hs : isStr e = true
    · obtain ⟨x, rfl⟩ : ∃ x, e = .str x := by
        cases e with
        | str x => exact ⟨x, rfl⟩
        | _ => cases hs
      have sm : x.length ≤ sizeLine := sm
      refine dt_is (dt_or (dt_not (dt_test (K := K) (dv_isStr (dv_var rfl hv)))) fun _ => dt_or (dt_test (K := K) (dv_gt (dv_lenS (dv_var rfl hv) sm) dv_int)) fun _ => dt_not (dt_test (K := K) (dv_all (bs := x.cps.toList.map isSign) (dv_lcS (gs := (x.cps.toList.map isSign).map PyData.bool) (dv_var rfl hv) (by simp) (by rw [strlen]; exact sm) (fun _ => rfl) fun F' H1 j c e w h1 h2 => ?_)))) ?_
      · rw [List.map_map] at h2
        rw [get_map h1 h2]
        exact dv_call (da_cons (dv_var rfl (show Da K _ (.str ⟨#[c]⟩) _ from rfl)) da_nil) (sd_F ⟨c, rfl, rfl⟩ rfl)
      · show ((!true) || (decide ((4000 : Int) < (x.length : Int)) || !(x.cps.toList.map isSign).all id)) = !(decide (x.length ≤ 4000) && x.cps.toList.all isSign)
        rw [all_map, Bool.not_true, Bool.false_or, Bool.not_and]
        congr 1
        by_cases hh : x.length ≤ 4000
        · rw [decide_eq_true hh]; exact decide_eq_false (by omega)
        · rw [decide_eq_false hh]; exact decide_eq_true (by omega)
    · have hs : isStr e = false := by
        cases h : isStr e with
        | true => exact absurd h hs
        | false => rfl
      have ht : isText e = false := by
        cases e with
        | str x => cases hs
        | _ => rfl
      refine dt_is (dt_or (a := !isStr e) (b := true) (dt_not (dt_test (K := K) (dv_isStr (dv_var rfl hv)))) fun z => ?_) (by rw [hs, ht]; rfl)
      rw [hs] at z
      cases z
  refine s_if (R := Same) (F := F) key hf (fun e H1 s1 => ?_) fun e H1 s1 => ?_
  · rw [Bool.not_eq_true'] at e
    exact q2 "BadText" (by rw [e]; rfl) H1 s1
  · rw [Bool.not_eq_false'] at e
    exact q1 .none (by rw [e]; rfl) .non H1 s1 rfl
end
end Sc

namespace Sc
open PySem PySem.Spec PyProof.Rows L2
/-- signs are read -/
def Beg.feed : Beg → Int → List Nat → Beg × Int × List PyData
  | b, k, [] => (b, k, [])
  | b, k, c :: r => ((Beg.feed (b.read k c).1 (b.read k c).2.1 r).1, (Beg.feed (b.read k c).1 (b.read k c).2.1 r).2.1, (b.read k c).2.2 ++ (Beg.feed (b.read k c).1 (b.read k c).2.1 r).2.2)
theorem Beg.feed_app : ∀ (l m : List Nat) (b : Beg) (k : Int), b.feed k (l ++ m) = (((b.feed k l).1.feed (b.feed k l).2.1 m).1, ((b.feed k l).1.feed (b.feed k l).2.1 m).2.1, (b.feed k l).2.2 ++ ((b.feed k l).1.feed (b.feed k l).2.1 m).2.2)
  | [], m, b, k => rfl
  | c :: l, m, b, k => by
    simp only [List.cons_append, Beg.feed, Beg.feed_app l m, List.append_assoc]
theorem Beg.feed_ok : ∀ (l : List Nat) {b : Beg} {k : Int}, b.ok → (b.feed k l).1.ok
  | [], b, k, h => h
  | c :: l, b, k, h => Beg.feed_ok l (Beg.read_ok h)
theorem plainO_len (c : Nat) : (plainO c).length ≤ 1 := by
  unfold plainO
  split
  · exact Nat.zero_le _
  · split <;> exact Nat.le_refl _
theorem Beg.read_len (b : Beg) (k : Int) (c : Nat) : (b.read k c).2.2.length ≤ 1 := by
  unfold Beg.read
  split
  · exact plainO_len c
  · split
    · cases b with
      | no => exact Nat.zero_le _
      | hat =>
        show (if c = 94 then (Beg.no, [tSign 94]) else if isSmall c = true then (Beg.no, [tDo c []]) else (Beg.great c, [])).2.length ≤ 1
        split
        · exact Nat.le_refl _
        · split
          · exact Nat.le_refl _
          · exact Nat.zero_le _
      | great l => exact Nat.zero_le _
      | args l ps last =>
        show (if isFig c = true then (Beg.args l ps (last ++ [c]), []) else if c = 44 then (Beg.args l (ps ++ [last]) [], []) else (Beg.no, [tDo l (numsD ps last)])).2.length ≤ 1
        split
        · exact Nat.zero_le _
        · split
          · exact Nat.zero_le _
          · exact Nat.le_refl _
    · exact plainO_len c
theorem Beg.feed_len : ∀ (l : List Nat) (b : Beg) (k : Int), (b.feed k l).2.2.length ≤ l.length
  | [], b, k => Nat.le_refl _
  | c :: l, b, k => by
    have h1 := Beg.read_len b k c
    have h2 := Beg.feed_len l (b.read k c).1 (b.read k c).2.1
    simp only [Beg.feed, List.length_append, List.length_cons]
    omega
theorem Beg.feed_snoc (l : List Nat) (c : Nat) (b : Beg) (k : Int) : b.feed k (l ++ [c]) = (((b.feed k l).1.read (b.feed k l).2.1 c).1, ((b.feed k l).1.read (b.feed k l).2.1 c).2.1, (b.feed k l).2.2 ++ ((b.feed k l).1.read (b.feed k l).2.1 c).2.2) := by
  rw [Beg.feed_app]
  simp only [Beg.feed, List.append_nil]
def spFeed (K : PySem.W.Frag) : Sp := fun vs H Q E => ∃ F a e u B k, vs = [.ref a, u] ∧ Fm F H ∧ a ∈ F ∧ RdAt K H a (Beg.s B) k ∧ B.ok ∧ Da K (hid F H) e u ∧ textSm e ∧
  (∀ x, e = .str x → isText e = true → ∀ v H', Mo [a] H H' → RdAt K H' a (B.feed k x.cps.toList).1.s (B.feed k x.cps.toList).2.1 → Da K (hid F H') (.list (B.feed k x.cps.toList).2.2) v → Q v H') ∧ (isText e = false → ∀ H', Same H H' → E (.ref (He.ga K "BadText")) none H')
theorem text_str {e : PyData} (h : isText e = true) : ∃ x, e = .str x := by
  cases e with
  | str x => exact ⟨x, rfl⟩
  | _ => cases h
section
variable {P : Program} {w : World} {K : PySem.W.Frag} {mg : Str → Option Value} {base : Heap}
theorem sc_Reader_feed : FnScope ["self", "text", "found", "sign"] ["self", "text"] (defScope s_Reader_feed) := ⟨rfl, rfl, rfl, by decide +kernel, rfl, by decide +kernel, by decide +kernel⟩
theorem cm_Reader_feed (T : GT K mg) : CalM P w K mg base (XC P w) 3 "Reader" "feed" ["self", "text"] (spFeed K) := by
  refine CalM.of T.f_Reader_feed T.c_Reader T.m_Reader_feed sc_Reader_feed (fun _ _ _ _ _ _ us hl => match us, hl with | [_, _], _ => rfl) (fun vs H Q E h => ?_) fun f cdv A' outer s H vs Q E hr h => ?_
  · obtain ⟨_, _, _, _, _, _, rfl, _⟩ := h
    rfl
  obtain ⟨F, a, e, u, B, k, rfl, fm, haF, ⟨dx, ho⟩, hok, hu, sm, q1, q2⟩ := h
  refine ⟨_, (pss_cons (ps_expr (pe_cal (c_need_text T) (hr.mono (by decide)) (passX rfl rfl rfl rfl) (pa_cons (pv 1) pa_nil)))
      (pss_cons (pS 2 sc_Reader_feed.nd (pe_lst pa_nil))
      (pss_cons (ps_for (passes_of rfl) rfl (pi_str (pv 1)) (pG 3 sc_Reader_feed.nd) (pss_one (ps_expr (kbm K PySem.F.plainAttrs_list PySem.F.slot_list_extend PySem.F.type_list_extend mt_extend (pv 2) (pa_cons (pe_cm K (cm_Reader_read T) (hr.mono (by decide)) pass0 (pv 0) (pa_cons (pv 3) pa_nil)) pa_nil)))))
      (pss_one (ps_ret (pv 2)))))), ?_⟩
  have f0 := fm.fd
  refine s_seq (s_call (R := Same) (K := K) (F := F) (da_cons (dv_var rfl hu) da_nil) f0 ⟨e, rfl, sm, rfl⟩ rfl (fun d hd H1 s1 => ?_) fun c hc H1 s1 => ?_)
  · obtain ⟨ht, rfl⟩ := okIf_ok hd
    obtain ⟨x, rfl⟩ := text_str ht
    have q1 := q1 x rfl ht
    have hxl : x.cps.toList.length ≤ 4000 := by
      have ht : (decide (x.length ≤ 4000) && x.cps.toList.all isSign) = true := ht
      rw [strlen]
      exact of_decide_eq_true (Bool.and_eq_true_iff.mp ht).1
    -- found = []
    refine s_seq (s_list (R := Same) (K := K) (F := F) da_nil (r_fd (R := Same) s1 f0) (by decide) fun l vs H2 s2 hl2 g2 => ?_)
    have g2 : vs = [] := g2
    subst g2
    have s12 := s1.trans s2
    have hl0 : H l = none := by
      cases h : H l with
      | none => rfl
      | some o =>
        have := s12 _ _ h
        rw [hl2] at this
        cases this
    have lF : l ∉ F := f0.new hl0
    have la : l ≠ a := fun z => lF (z ▸ haF)
    have m3 : Mo [a] H (upd H2 l (.lst [])) := (Mo.same s12).new hl2
    have ho3 : upd H2 l (.lst []) a = some (.ins (He.ga K "Reader") dx [("begun", .str B.s), ("lost", .int k)]) := by
      rw [upd_ne (Ne.symm la)]
      exact s12 _ _ ho
    have hu3 : u = .str x := hu
    subst hu3
    refine s_seq (s_forS (R := Same) (K := K) (F := F) (z := x) (dv_var rfl (show Da K _ (.str x) _ from rfl)) (fm.mo m3).fd fun H4 s4 f4 =>
      ⟨fun j σ' H' => Mo [a] H H' ∧ (∃ o, σ' = [some (.ref a), some (.str x), some (.ref l), o]) ∧ RdAt K H' a (B.feed k (x.cps.toList.take j)).1.s (B.feed k (x.cps.toList.take j)).2.1 ∧ ∃ xs, H' l = some (.lst xs) ∧ DaL K (hid (l :: F) H') (B.feed k (x.cps.toList.take j)).2.2 xs, ⟨m3.trans (Mo.same s4), ⟨_, rfl⟩, ⟨dx, by rw [List.take_zero]; exact s4 _ _ ho3⟩, [], s4 _ _ upd_same, by rw [List.take_zero]; rfl⟩, ?_, ?_⟩)
    · rintro j σ' H5 c hc ⟨m5, ⟨o, rfl⟩, ⟨dx5, ho5⟩, xs, hx, hd⟩
      have fm5 : Fm (l :: F) H5 := (fm.mo m5).put hx trivial
      refine s_ext (K := K) rfl ⟨_, hx⟩ (te_meth (R := Same) (K := K) (F := l :: F) (vv_var rfl) ho5 rfl (da_cons (dv_var rfl (show Da K _ (.str ⟨#[c]⟩) _ from rfl)) da_nil) fm5.fd fun us H6 s6 lu => ?_)
      have et : x.cps.toList.take (j + 1) = x.cps.toList.take j ++ [c] := by
        rw [List.take_add_one, hc]
        rfl
      have rok := Beg.feed_ok (x.cps.toList.take j) (k := k) hok
      refine ⟨l :: F, a, _, us, _, _, _, _, _, rfl, rfl, fm5.mo (Mo.same (fp := []) s6), List.mem_cons_of_mem _ haF, ⟨dx5, s6 _ _ ho5⟩, lu, ⟨_, c, rfl, rfl, rok, rfl, rfl, rfl⟩, fun v H7 m7 r7 g7 => ?_⟩
      obtain ⟨b, zs, rfl, gb, lz⟩ := g7
      obtain ⟨gb1, gb2⟩ := hid_le gb
      have hx7 : H7 l = some (.lst xs) := m7.keep _ _ (s6 _ _ hx) fun _ z => la (List.mem_singleton.mp z)
      have fl := Beg.feed_len (x.cps.toList.take j) B k
      have rl := Beg.read_len (B.feed k (x.cps.toList.take j)).1 (B.feed k (x.cps.toList.take j)).2.1 c
      refine ⟨b, xs, zs, rfl, hx7, gb1, ?_, ?_⟩
      · rw [hd.length, lz.length]
        rw [List.length_take] at fl
        exact le_sz' (by omega)
      · have m57 : Mo [a] H H7 := (m5.trans (Mo.same s6)).trans m7
        refine ⟨m57.write (.inr hl0) trivial ⟨_, hx7, trivial⟩, ⟨_, rfl⟩, ?_, xs ++ zs, upd_same, ?_⟩
        · obtain ⟨dx7, h7⟩ := r7
          refine ⟨dx7, ?_⟩
          rw [upd_ne (Ne.symm la), et, Beg.feed_snoc]
          exact h7
        · rw [et, Beg.feed_snoc]
          have x7 : Xt (hid (l :: F) H5) (hid (l :: F) H7) := ((Mo.same (fp := [a]) s6).trans m7).xt fun b hb => by
            rw [List.mem_singleton.mp hb]
            exact List.mem_cons_of_mem _ haF
          exact ((hd.mono x7).mono hid_chg).append (lz.mono hid_chg)
    · rintro σ' H5 ⟨m5, ⟨o, rfl⟩, r5, xs, hx, hd⟩
      rw [List.take_length] at r5 hd
      exact ⟨_, rfl, q1 _ H5 m5 r5 ⟨l, xs, rfl, by rw [hid_out lF]; exact hx, hd.mono hid_cons⟩⟩
  · obtain ⟨ht, rfl⟩ := okIf_err hc
    exact q2 ht H1 s1
end
end Sc

namespace Sc
open PySem PySem.Spec PyProof.Rows L2
def spInitR (K : PySem.W.Frag) : Sp := fun vs H Q _ => ∃ a dx, vs = [.ref a] ∧ H a = some (.ins (He.ga K "Reader") dx []) ∧ ∀ H', Mo [a] H H' → RdAt K H' a "" 0 → Q .non H'
def A_left (ds : List PyData) (b : Str) (k : Int) (d : PyData) : Prop := ds = [] ∧ d = .str b
def A_dropped (ds : List PyData) (b : Str) (k : Int) (d : PyData) : Prop := ds = [] ∧ d = .int k
/-- what a text tells -/
def tells (x : Str) : List PyData := (Beg.no.feed 0 x.cps.toList).2.2
def A_told (ds : List PyData) (r : Except Str PyData) : Prop := ∃ e : PyData, ds = [e] ∧ textSm e ∧ r = match e with
  | .str x => if isText e = true then .ok (.list (tells x)) else .error "BadText"
  | _ => .error "BadText"
theorem mo_same {fp : List Addr} {H H1 H2 : Hp} (s : Same H H1) (m : Mo fp H1 H2) (h : ∀ b ∈ fp, H b = none) : Same H H2 := fun b o e => m.keep b o (s b o e) fun _ z => by
  rw [h b z] at e
  cases e
section
variable {P : Program} {w : World} {K : PySem.W.Frag} {mg : Str → Option Value} {base : Heap}
theorem sc_Reader___init__ : FnScope ["self"] ["self"] (defScope s_Reader___init__) := ⟨rfl, rfl, rfl, by decide +kernel, rfl, by decide +kernel, by decide +kernel⟩
theorem ci_Reader (T : GT K mg) : CalI P w K mg base CX0 1 "Reader" ["self"] (spInitR K) := by
  refine CalI.of T.f_Reader___init__ sc_Reader___init__ (fun _ _ _ _ _ _ us hl => match us, hl with | [_], _ => rfl) (fun vs H Q E h => ?_) fun f cdv A' outer s H vs Q E hr h => ?_
  · obtain ⟨_, _, rfl, _⟩ := h
    rfl
  obtain ⟨a, dx, rfl, ho, q⟩ := h
  refine ⟨_, PSs.nox ((pss_cons (ks_fld K (pv 0) pe_str)
      (pss_one (ks_fld K (pv 0) pe_int)))), ?_⟩
  refine s_seq (s_fld (R := Same) (K := K) (F := []) (d := .str "") dv_str Fd.nil (vv_var rfl) ho (fk_begun T) fun v H1 s1 g ho1 => ?_)
  have g : v = .str "" := g
  subst g
  have m1 : Mo [a] H (upd H1 a (.ins (He.ga K "Reader") dx [("begun", .str "")])) := (Mo.same s1).write (.inl List.mem_cons_self) trivial ⟨_, ho1, trivial⟩
  refine s_fld (R := Same) (K := K) (F := []) (d := .int 0) dv_int Fd.nil (vv_var rfl) upd_same (fk_lost T) fun v H2 s2 g ho2 => ?_
  have g : v = .int 0 := g
  subst g
  exact q _ ((m1.trans (Mo.same s2)).write (.inl List.mem_cons_self) trivial ⟨_, ho2, trivial⟩) ⟨dx, upd_same⟩
theorem sc_Reader_left : FnScope ["self"] ["self"] (defScope s_Reader_left) := ⟨rfl, rfl, rfl, by decide +kernel, rfl, by decide +kernel, by decide +kernel⟩
theorem cm_Reader_left (T : GT K mg) : CalM P w K mg base CX0 1 "Reader" "left" ["self"] (spRs K 0 A_left) := by
  refine CalM.of T.f_Reader_left T.c_Reader T.m_Reader_left sc_Reader_left (fun _ _ _ _ _ _ us hl => match us, hl with | [_], _ => rfl) (fun vs H Q E h => ?_) fun f cdv A' outer s H vs Q E hr h => ?_
  · exact h.len
  obtain ⟨F, a, ds, us, b, k, d, rfl, _, fm, ⟨dx, ho⟩, hl, ⟨rfl, rfl⟩, q⟩ := h
  have hl : us = [] := hl
  subst hl
  refine ⟨_, PSs.nox ((pss_one (ps_ret (kfld K (pv 0))))), ?_⟩
  exact s_ret (R := Same) (K := K) (F := F) (dv_fld (vv_var rfl) ho (fk_begun T) rfl (show Da K _ (.str b) _ from rfl)) fm.fd fun v H1 s1 g => q v H1 s1 g
theorem sc_Reader_dropped : FnScope ["self"] ["self"] (defScope s_Reader_dropped) := ⟨rfl, rfl, rfl, by decide +kernel, rfl, by decide +kernel, by decide +kernel⟩
theorem cm_Reader_dropped (T : GT K mg) : CalM P w K mg base CX0 1 "Reader" "dropped" ["self"] (spRs K 0 A_dropped) := by
  refine CalM.of T.f_Reader_dropped T.c_Reader T.m_Reader_dropped sc_Reader_dropped (fun _ _ _ _ _ _ us hl => match us, hl with | [_], _ => rfl) (fun vs H Q E h => ?_) fun f cdv A' outer s H vs Q E hr h => ?_
  · exact h.len
  obtain ⟨F, a, ds, us, b, k, d, rfl, _, fm, ⟨dx, ho⟩, hl, ⟨rfl, rfl⟩, q⟩ := h
  have hl : us = [] := hl
  subst hl
  refine ⟨_, PSs.nox ((pss_one (ps_ret (kfld K (pv 0))))), ?_⟩
  exact s_ret (R := Same) (K := K) (F := F) (dv_fld (vv_var rfl) ho (fk_lost T) rfl (show Da K _ (.int k) _ from rfl)) fm.fd fun v H1 s1 g => q v H1 s1 g
/-- Reader() -/
theorem te_Reader {σ : L2.St} {H : Hp} {E : XK} {Q : VK} (k : ∀ a H1, Same H H1 → H a = none → RdAt K H1 a "" 0 → Q (.ref a) H1) : tMake (He.ga K "Reader") (spInitR K) [] E tNil σ H Q := fun x dx h1 h2 hne => by
  refine ⟨x, dx, rfl, upd_same, fun H' m r => ⟨rfl, k x H' (mo_same ((same_new h2).trans (same_new (by rw [upd_ne (Ne.symm hne)]; exact h1))) m fun b hb => by rw [List.mem_singleton.mp hb]; exact h1) h1 r⟩⟩
theorem te_onR {σ : L2.St} {H : Hp} {E E' : XK} {Q : VK} {m : Str} {sp : Sp} {tr : TA} (hm : ∀ x y : V, ([("begun", x), ("lost", y)] : List (Str × V)).lookup m = none) (k : ∀ a dx H1, Same H H1 → H a = none → H1 a = some (.ins (He.ga K "Reader") dx [("begun", .str ""), ("lost", .int 0)]) → tr σ H1 fun vs H2 => sp (.ref a :: (vs ++ [])) H2 Q E) :
    tMeth (He.ga K "Reader") m sp [] E (tMake (He.ga K "Reader") (spInitR K) [] E' tNil) tr σ H Q :=
  te_Reader fun a H1 s1 h1 ⟨dx, ho⟩ => ⟨a, dx, _, rfl, ho, hm _ _, k a dx H1 s1 h1 ho⟩
theorem sc_told : FnScope ["text"] ["text"] (defScope s_told) := ⟨rfl, rfl, rfl, by decide +kernel, rfl, by decide +kernel, by decide +kernel⟩
theorem c_told (T : GT K mg) : Cal P w K mg base (XC P w) 4 "told" ["text"] (spG K 1 A_told) := by
  refine cal_G T.f_told T.g_told sc_told rfl (fun _ _ _ _ _ _ us hl => match us, hl with | [_], _ => rfl) fun f cdv A' outer s H vs Q E F ds r hr hf hl ha q1 q2 => ?_
  obtain ⟨e, rfl, sm, hr'⟩ := ha
  obtain ⟨u, rfl, hu⟩ := dal1 hl
  refine ⟨_, (pss_one (ps_ret (pe_cm K (cm_Reader_feed T) (hr.mono (by decide)) (passX rfl rfl rfl rfl) (pe_mk0 K (ci_Reader T) T.k_Reader T.g_Reader (hr.mono (by decide)) pass0) (pa_cons (pv 0) pa_nil)))), ?_⟩
  refine te_onR (K := K) (m := "feed") (fun _ _ => rfl) fun a dx H1 s1 ha1 ho1 => ⟨u, rfl, ?_⟩
  have x1 : Xt (hid F H) (hid (a :: F) H1) := fun b o e _ => by
    obtain ⟨e1, e2⟩ := hid_le e
    rw [hid_out fun z => (List.mem_cons.mp z).elim (fun z => by rw [z, ha1] at e1; cases e1) e2]
    exact s1 b o e1
  refine ⟨a :: F, a, e, u, .no, 0, rfl, (hf.mono (xt_of s1)).put ho1 trivial, List.mem_cons_self, ⟨dx, ho1⟩, trivial, hu.mono x1, sm, fun x ex ht v H2 m2 r2 g2 => ?_, fun ht H2 s2 => ?_⟩
  · subst ex
    have er : r = .ok (.list (tells x)) := by
      rw [hr']
      show (if isText (.str x) = true then _ else _) = _
      rw [if_pos ht]
    exact q1 _ er v H2 (mo_same s1 m2 fun b hb => by rw [List.mem_singleton.mp hb]; exact ha1) (g2.mono hid_cons)
  · refine q2 "BadText" ?_ H2 (s1.trans s2)
    rw [hr']
    cases e with
    | str x =>
      show (if isText (.str x) = true then _ else _) = _
      rw [ht]
      rfl
    | _ => rfl
end
end Sc

namespace Sc
open PySem PySem.Spec PyProof.Rows L2
/-! ### things that signs tell -/
inductive One where
  | sign (c : Nat)
  | endl
  | small (c : Nat)
  | great (c : Nat) (ns : List Int)
def One.d : One → PyData
  | .sign c => tSign c
  | .endl => tEnd
  | .small c => tDo c []
  | .great c ns => tDo c ns
def numS (n : Int) : List Nat := (Str.ofString (toString n)).cps.toList
def One.t : One → List Nat
  | .sign c => if c = 94 then [94, 94] else [c]
  | .endl => [10]
  | .small c => [94, c]
  | .great c ns => [94, c, 40] ++ comma (ns.map numS) ++ [41]
structure NumOk (n : Int) : Prop where
  f : figs (numS n)
  ne : numS n ≠ []
  v : ((NumText.digitsVal (numS n) : Nat) : Int) = n
def One.ok : One → Prop
  | .sign c => isSign c = true ∧ c ≠ 10
  | .endl => True
  | .small c => isSmall c = true
  | .great c ns => isGreat c = true ∧ ns.length ≤ 4 ∧ ∀ n ∈ ns, NumOk n
def rowT (r : List One) : List Nat := (r.map One.t).flatten
theorem fig_of {c : Nat} (h : 48 ≤ c ∧ c ≤ 57) : isFig c = true := by
  unfold isFig
  rw [decide_eq_true h.1, decide_eq_true h.2]
  rfl
/-- figures go on -/
theorem feed_figs {l : Nat} {k : Int} : ∀ (p : List Nat) {ps : List (List Nat)} {last : List Nat}, (∀ c ∈ p, 48 ≤ c ∧ c ≤ 57) → last.length + p.length ≤ 4 → (Beg.args l ps last).feed k p = (.args l ps (last ++ p), k, [])
  | [], ps, last, _, _ => by
    rw [List.append_nil]
    rfl
  | c :: p, ps, last, h, hl => by
    have hc := fig_of (h c List.mem_cons_self)
    have hll : last.length < 4 := by
      simp only [List.length_cons] at hl
      omega
    have e : (Beg.args l ps last).read k c = (.args l ps (last ++ [c]), k, []) := by
      show (if (if isFig c then decide (last.length < 4) else _) = true then _ else _) = _
      rw [if_pos hc, decide_eq_true hll, if_pos rfl]
      show ((if isFig c = true then (Beg.args l ps (last ++ [c]), ([] : List PyData)) else _).1, k, (if isFig c = true then (Beg.args l ps (last ++ [c]), ([] : List PyData)) else _).2) = _
      rw [if_pos hc]
    show (_, _, _) = _
    rw [e]
    have ih := feed_figs p (l := l) (k := k) (ps := ps) (last := last ++ [c]) (fun x hx => h x (List.mem_cons_of_mem _ hx)) (by
      simp only [List.length_append, List.length_cons, List.length_nil] at hl ⊢
      omega)
    simp only [ih, List.append_assoc, List.cons_append, List.nil_append]
theorem read_comma {l : Nat} {k : Int} {ps : List (List Nat)} {last : List Nat} (h1 : last ≠ []) (h2 : ps.length < 3) : (Beg.args l ps last).read k 44 = (.args l (ps ++ [last]) [], k, []) := by
  have g : (Beg.args l ps last).go 44 = true := by
    show (!decide (last = []) && decide (ps.length < 3)) = true
    rw [decide_eq_false h1, decide_eq_true h2]
    rfl
  show (if (Beg.args l ps last).go 44 = true then _ else _) = _
  rw [if_pos g]
  rfl
/-- numbers go on -/
theorem feed_nums {l : Nat} {k : Int} : ∀ (qs : List (List Nat)) (q : List Nat) {ps : List (List Nat)}, (∀ p ∈ qs ++ [q], figs p ∧ p ≠ []) → ps.length + qs.length ≤ 3 → (Beg.args l ps []).feed k (comma (qs ++ [q])) = (.args l (ps ++ qs) q, k, [])
  | [], q, ps, h, _ => by
    rw [List.append_nil]
    have := (h q (List.mem_append_right _ List.mem_cons_self)).1
    exact feed_figs q this.1 (by rw [List.length_nil, Nat.zero_add]; exact this.2)
  | p :: qs, q, ps, h, hl => by
    have hp := h p List.mem_cons_self
    rw [List.cons_append, comma_cons p (by simp), Beg.feed_app, feed_figs p hp.1.1 (by rw [List.length_nil, Nat.zero_add]; exact hp.1.2)]
    simp only [List.nil_append, Beg.feed]
    simp only [List.length_cons] at hl
    rw [read_comma hp.2 (by omega)]
    have ih := feed_nums qs q (l := l) (k := k) (ps := ps ++ [p]) (fun x hx => h x (List.mem_cons_of_mem _ hx)) (by rw [List.length_append]; show ps.length + 1 + _ ≤ 3; omega)
    simp only [ih, List.append_assoc, List.cons_append, List.nil_append]
theorem read_close {l : Nat} {k : Int} {ps : List (List Nat)} {last : List Nat} (h : last ≠ [] ∨ ps = []) : (Beg.args l ps last).read k 41 = (.no, k, [tDo l (numsD ps last)]) := by
  have e : (!decide (last = []) || decide (ps = [])) = true := by
    rcases h with h | h
    · rw [decide_eq_false h]; rfl
    · rw [decide_eq_true h, Bool.or_true]
  have g : (Beg.args l ps last).go 41 = true := by
    show (true && (!decide (last = []) || decide (ps = []))) = true
    rw [e]
    rfl
  show (if (Beg.args l ps last).go 41 = true then _ else _) = _
  rw [if_pos g]
  rfl
theorem read_open {k : Int} {c : Nat} (hc : isGreat c = true) : Beg.no.feed k [94, c, 40] = (.args c [] [], k, []) := by
  have hg : 65 ≤ c ∧ c ≤ 90 := by
    have hg : (decide (65 ≤ c) && decide (c ≤ 90)) = true := hc
    simpa using hg
  have e1 : Beg.no.read k 94 = (.hat, k, []) := rfl
  have e2 : Beg.hat.read k c = (.great c, k, []) := by
    show (if (isSmall c || isGreat c || decide (c = 94)) = true then _ else _) = _
    rw [hc, Bool.or_true, Bool.true_or, if_pos rfl]
    show ((if c = 94 then (Beg.no, [tSign 94]) else if isSmall c = true then (Beg.no, [tDo c []]) else (Beg.great c, [])).1, k, (if c = 94 then (Beg.no, [tSign 94]) else if isSmall c = true then (Beg.no, [tDo c []]) else (Beg.great c, [])).2) = _
    have hs : ¬ isSmall c = true := by
      unfold isSmall
      simp
      omega
    rw [if_neg (by omega), if_neg hs]
  have e3 : (Beg.great c).read k 40 = (.args c [] [], k, []) := rfl
  simp only [Beg.feed, e1, e2, e3, List.append_nil]
theorem feed_one {o : One} {k : Int} (h : o.ok) : Beg.no.feed k o.t = (.no, k, [o.d]) := by
  cases o with
  | sign c =>
    show Beg.no.feed k (if c = 94 then [94, 94] else [c]) = _
    by_cases hc : c = 94
    · rw [if_pos hc, hc]
      rfl
    · rw [if_neg hc]
      have e : Beg.no.read k c = (.no, k, [tSign c]) := by
        show (plainG c, k, plainO c) = _
        unfold plainG plainO
        rw [if_neg hc, if_neg hc, if_neg h.2]
      simp only [Beg.feed, e, List.append_nil]
      rfl
  | endl => rfl
  | small c =>
    have hs : isSmall c = true := h
    have e1 : Beg.no.read k 94 = (.hat, k, []) := rfl
    have hc : ¬ c = 94 := fun z => by
      rw [z] at hs
      cases hs
    have e2 : Beg.hat.read k c = (.no, k, [tDo c []]) := by
      show (if (isSmall c || isGreat c || decide (c = 94)) = true then _ else _) = _
      rw [hs, Bool.true_or, Bool.true_or, if_pos rfl]
      show ((if c = 94 then (Beg.no, [tSign 94]) else if isSmall c = true then (Beg.no, [tDo c []]) else (Beg.great c, [])).1, k, (if c = 94 then (Beg.no, [tSign 94]) else if isSmall c = true then (Beg.no, [tDo c []]) else (Beg.great c, [])).2) = _
      rw [if_neg hc, if_pos hs]
    show Beg.no.feed k [94, c] = _
    simp only [Beg.feed, e1, e2, List.nil_append, List.append_nil]
    rfl
  | great c ns =>
    obtain ⟨hc, hl, hn⟩ := h
    show Beg.no.feed k ([94, c, 40] ++ comma (ns.map numS) ++ [41]) = _
    rw [Beg.feed_app, Beg.feed_app, read_open hc]
    simp only [List.nil_append]
    by_cases h0 : ns = []
    · subst h0
      rfl
    · obtain ⟨ms, m, rfl⟩ : ∃ ms m, ns = ms ++ [m] := ⟨ns.dropLast, ns.getLast h0, (List.dropLast_concat_getLast h0).symm⟩
      rw [List.map_append, List.map_singleton, feed_nums (ms.map numS) (numS m) (fun p hp => ?_) (by simp at hl ⊢; omega)]
      · simp only [Beg.feed, List.nil_append]
        have nm := (hn m (List.mem_append_right _ List.mem_cons_self))
        rw [read_close (.inl nm.ne)]
        have e : numsD (ms.map numS) (numS m) = ms ++ [m] := by
          unfold numsD
          rw [if_neg (fun z => nm.ne z.2)]
          have : ms.map numS ++ [numS m] = (ms ++ [m]).map numS := by simp
          rw [this, List.map_map]
          have : ∀ l : List Int, (∀ n ∈ l, NumOk n) → l.map ((fun p => ((NumText.digitsVal p : Nat) : Int)) ∘ numS) = l := fun l => by
            induction l with
            | nil => intro _; rfl
            | cons a l ih =>
              intro h
              rw [List.map_cons, ih fun n hn => h n (List.mem_cons_of_mem _ hn)]
              congr 1
              exact (h a List.mem_cons_self).v
          exact this _ hn
        rw [e]
        rfl
      · have : ms.map numS ++ [numS m] = (ms ++ [m]).map numS := by simp
        rw [this] at hp
        obtain ⟨n, hn', rfl⟩ := List.mem_map.mp hp
        exact ⟨(hn n hn').f, (hn n hn').ne⟩
theorem feed_row {k : Int} : ∀ {r : List One}, (∀ o ∈ r, o.ok) → Beg.no.feed k (rowT r) = (.no, k, r.map One.d)
  | [], _ => rfl
  | o :: r, h => by
    show Beg.no.feed k (o.t ++ rowT r) = _
    rw [Beg.feed_app, feed_one (h o List.mem_cons_self), feed_row fun x hx => h x (List.mem_cons_of_mem _ hx)]
    rfl
theorem rowT_app (r s : List One) : rowT (r ++ s) = rowT r ++ rowT s := by
  unfold rowT
  rw [List.map_append, List.flatten_append]
theorem t_len {o : One} (h : o.ok) : o.t.length ≤ 24 := by
  cases o with
  | sign c =>
    show (if c = 94 then [94, 94] else [c]).length ≤ 24
    split <;> exact Nat.le_of_ble_eq_true rfl
  | endl => exact Nat.le_of_ble_eq_true rfl
  | small c => exact Nat.le_of_ble_eq_true rfl
  | great c ns =>
    have := comma_len (l := ns.map numS) fun p hp => by
      obtain ⟨n, hn, rfl⟩ := List.mem_map.mp hp
      exact (h.2.2 n hn).f.2
    have hl := h.2.1
    show ([94, c, 40] ++ comma (ns.map numS) ++ [41]).length ≤ 24
    simp only [List.length_append, List.length_cons, List.length_nil, List.length_map] at this ⊢
    omega
theorem sign_of {c : Nat} (h : 32 ≤ c ∧ c ≤ 126 ∧ c ≠ 37) : isSign c = true := by
  unfold isSign
  rw [decide_eq_true h.1, decide_eq_true h.2.1, decide_eq_false h.2.2]
  simp
theorem great_b {c : Nat} (h : isGreat c = true) : 65 ≤ c ∧ c ≤ 90 := by
  have hg : (decide (65 ≤ c) && decide (c ≤ 90)) = true := h
  simpa using hg
theorem small_b {c : Nat} (h : isSmall c = true) : 97 ≤ c ∧ c ≤ 122 := by
  have hg : (decide (97 ≤ c) && decide (c ≤ 122)) = true := h
  simpa using hg
theorem t_signs {o : One} (h : o.ok) : ∀ c ∈ o.t, isSign c = true := by
  cases o with
  | sign c =>
    intro x hx
    have hx : x ∈ (if c = 94 then [94, 94] else [c]) := hx
    split at hx
    · have : x = 94 := by simpa using hx
      rw [this]
      rfl
    · rw [List.mem_singleton.mp hx]
      exact h.1
  | endl =>
    intro x hx
    rw [List.mem_singleton.mp hx]
    rfl
  | small c =>
    intro x hx
    have := small_b h
    have hx : x = 94 ∨ x = c := by simpa [One.t] using hx
    exact sign_of (by omega)
  | great c ns =>
    intro x hx
    have := great_b h.1
    have hx : x ∈ [94, c, 40] ++ comma (ns.map numS) ++ [41] := hx
    rcases List.mem_append.mp hx with hx | hx
    · rcases List.mem_append.mp hx with hx | hx
      · simp only [List.mem_cons, List.not_mem_nil, or_false] at hx
        exact sign_of (by omega)
      · rcases mem_comma hx with z | ⟨p, hp, hxp⟩
        · exact sign_of (by omega)
        · obtain ⟨n, hn, rfl⟩ := List.mem_map.mp hp
          have := (h.2.2 n hn).f.1 x hxp
          exact sign_of (by omega)
    · rw [List.mem_singleton.mp hx]
      rfl
theorem rowT_signs {r : List One} (h : ∀ o ∈ r, o.ok) : ∀ c ∈ rowT r, isSign c = true := fun c hc => by
  obtain ⟨l, hl, hcl⟩ := List.mem_flatten.mp hc
  obtain ⟨o, ho, rfl⟩ := List.mem_map.mp hl
  exact t_signs (h o ho) c hcl
def menuN : List Int := [0, 1, 2, 3, 4, 7, 12, 9999]
theorem menu_vals : ∀ n ∈ menuN, (numS n).all (fun c => decide (48 ≤ c) && decide (c ≤ 57)) = true ∧ (numS n).length ≤ 4 ∧ numS n ≠ [] ∧ ((NumText.digitsVal (numS n) : Nat) : Int) = n := by decide +kernel
theorem menu_ok {n : Int} (h : n ∈ menuN) : NumOk n := by
  obtain ⟨h1, h2, h3, h4⟩ := menu_vals n h
  refine ⟨⟨fun c hc => ?_, h2⟩, h3, h4⟩
  have := List.all_eq_true.mp h1 c hc
  simpa using this
end Sc

namespace Sc
open PySem PySem.Spec PyProof.Rows L2
def A_written (ds : List PyData) (d : PyData) : Prop := ∃ r : List One, ds = [.list (r.map One.d)] ∧ (∀ o ∈ r, o.ok) ∧ (rowT r).length ≤ 10000 ∧ d = .str (mkS (rowT r))
theorem mkS_app (a b : List Nat) : mkS a ++ mkS b = mkS (a ++ b) := by
  show (⟨a.toArray ++ b.toArray⟩ : Str) = ⟨(a ++ b).toArray⟩
  rw [← List.append_toArray]
theorem mkS_tl (x : Str) : mkS x.cps.toList = x := by
  obtain ⟨⟨l⟩⟩ := x
  rfl
theorem join_comma (l : List (List Nat)) : Txt.join "," (l.map mkS) = mkS (comma l) := by
  rw [TL.join_eq]
  refine StrLaws.mk_of_toList ?_
  rw [show (Str.join "," (l.map mkS)).cps.toList = TL.tl (Str.join "," (l.map mkS)) from rfl, TL.tl_join, List.map_map]
  have : (TL.tl ∘ mkS : List Nat → List Nat) = id := by
    funext x
    simp [TL.tl]
  rw [this, List.map_id]
  rfl
theorem join_nums (ns : List Int) : Txt.join "," (ns.map fun n => Str.ofString (toString n)) = mkS (comma (ns.map numS)) := by
  rw [← join_comma, List.map_map]
  rfl
theorem rowT_take {r : List One} {j : Nat} {o : One} (h : r[j]? = some o) : rowT (r.take (j + 1)) = rowT (r.take j) ++ o.t := by
  rw [List.take_add_one, h, rowT_app]
  show _ ++ (o.t ++ []) = _
  rw [List.append_nil]
theorem rowT_le {r : List One} (j : Nat) : (rowT (r.take j)).length ≤ (rowT r).length := by
  have e := rowT_app (r.take j) (r.drop j)
  rw [List.take_append_drop] at e
  rw [e, List.length_append]
  omega
theorem num_small {n : Int} (h : NumOk n) : n.natAbs.log2 < 1920 := by
  have h1 : ∀ (p : List Nat) (a : Nat), (∀ c ∈ p, 48 ≤ c ∧ c ≤ 57) → p.foldl (fun acc c => acc * 10 + (c - 48)) a < (a + 1) * 10 ^ p.length := by
    intro p
    induction p with
    | nil => intro a _; simp
    | cons c p ih =>
      intro a hp
      have hc := hp c List.mem_cons_self
      refine Nat.lt_of_lt_of_le (ih (a * 10 + (c - 48)) fun x hx => hp x (List.mem_cons_of_mem _ hx)) ?_
      rw [List.length_cons, Nat.pow_succ, Nat.mul_comm (10 ^ p.length) 10, ← Nat.mul_assoc]
      exact Nat.mul_le_mul_right _ (by omega)
  have h2 := h1 (numS n) 0 h.f.1
  have h3 : 10 ^ (numS n).length ≤ 10 ^ 4 := Nat.pow_le_pow_right (by decide) h.f.2
  have h4 : NumText.digitsVal (numS n) < 10000 := by
    unfold NumText.digitsVal
    omega
  have h5 := h.v
  have h6 : n.natAbs < 10000 := by omega
  by_cases h0 : n.natAbs = 0
  · rw [h0]
    decide
  · have : n.natAbs.log2 < 14 := (Nat.log2_lt h0).mpr (by omega)
    omega
section
variable {P : Program} {w : World} {K : PySem.W.Frag} {mg : Str → Option Value} {base : Heap}
/-- ",".join([str(n) for n in ..]) -/
theorem dv_joinN {R : Hp → Hp → Prop} [ROk R] {F : List Addr} {σ : L2.St} {H : Hp} {te : TE} {i : Nat} {ns : List Int} (h : DV R K F te σ H (.tuple (ns.map PyData.int))) (hn : ∀ n ∈ ns, NumOk n) (hl : ns.length ≤ 4) (hi : ∀ v : V, wipe ((wipe σ [i]).set i (some v)) [i] = wipe σ [i]) (hs : ∀ v : V, ((wipe σ [i]).set i (some v))[i]? = some (some v)) :
    DV R K F (tBM K "str" (rJoin K) (tC (V.str ",")) (tCons (tLc (iTup K te) (gName i) tYes (tCB (fun xs H Q => ∃ i, xs = [V.int i] ∧ i.natAbs.log2 < 1920 ∧ Q (V.str (toString i)) H) (tCons (tVar i) tNil)) [i]) tNil)) σ H (.str (mkS (comma (ns.map numS)))) := by
  refine dv_is (dv_join (ys := ns.map fun n => Str.ofString (toString n)) dv_str (dv_lcT (gs := (ns.map fun n => Str.ofString (toString n)).map PyData.str) h (by simp) (le_sz (by simp; omega)) hi fun F' H1 v j d e w h1 h2 g => ?_) ?_) (by rw [join_nums])
  · rw [List.getElem?_map] at h1
    rw [List.getElem?_map, List.getElem?_map] at h2
    cases hx : ns[j]? with
    | none => rw [hx] at h1; cases h1
    | some n =>
      rw [hx] at h1 h2
      cases h1
      cases h2
      exact dv_strI (dv_var (hs v) g) (num_small (hn n (List.mem_of_getElem? hx)))
  · have : ∀ l : List Int, (∀ n ∈ l, NumOk n) → ((l.map fun n => Str.ofString (toString n)).map (·.length)).sum ≤ 4 * l.length := fun l => by
      induction l with
      | nil => intro _; exact Nat.le_refl _
      | cons a l ih =>
        intro h
        have h1 := (h a List.mem_cons_self).f.2
        have h2 := ih fun n hn => h n (List.mem_cons_of_mem _ hn)
        have h3 : (Str.ofString (toString a)).length = (numS a).length := (strlen _).symm
        simp only [List.map_cons, List.sum_cons, List.length_cons] at h2 ⊢
        omega
    have := this ns hn
    simp only [List.length_map] at this ⊢
    have h1 : (Str.ofString ",").length = 1 := rfl
    rw [h1]
    omega
theorem sc_written : FnScope ["row", "found", "one", "number"] ["row"] (defScope s_written) := ⟨rfl, rfl, rfl, by decide +kernel, rfl, by decide +kernel, by decide +kernel⟩
theorem c_written (T : GT K mg) : Cal P w K mg base CX0 1 "written" ["row"] (spF K 1 A_written) := by
  refine cal_F T.f_written T.g_written sc_written rfl (fun _ _ _ _ _ _ us hl => match us, hl with | [_], _ => rfl) fun f cdv A' outer s H vs Q E F ds d hr hf hl ha q => ?_
  obtain ⟨r, rfl, hok, hlen, rfl⟩ := ha
  obtain ⟨v, rfl, hv⟩ := dal1 hl
  refine ⟨_, (pss_cons (pS 1 sc_written.nd pe_str)
      (pss_cons (ps_for PassesOwn.never rfl (ki_list K (pv 0)) (pG 2 sc_written.nd) (pss_one (ps_if (pt_cmpR (keq K hr.units) (pe_ix (kix K) (pv 2) pe_int (fun _ _ => rfl)) pe_str (nomark _)) (pss_one (pS 1 sc_written.nd (pe_op (kplus K) (pv 1) (pe_gs (by rfl) T.t_GAP)))) (pss_one (ps_if (pt_cmpR (keq K hr.units) (pe_ix (kix K) (pv 2) pe_int (fun _ _ => rfl)) pe_str (nomark _)) (pss_one (pS 1 sc_written.nd (pe_op (kplus K) (pv 1) (pe_ifExp (pt_cmpR (keq K hr.units) (pe_ix (kix K) (pv 2) pe_int (fun _ _ => rfl)) pe_str (nomark _)) pe_str (pe_ix (kix K) (pv 2) pe_int (fun _ _ => rfl)))))) (pss_one (ps_if (pt_cmpR (kmem K) (pe_ix (kix K) (pv 2) pe_int (fun _ _ => rfl)) (pe_gs (by rfl) T.t_SMALL) rfl) (pss_one (pS 1 sc_written.nd (pe_op (kplus K) (pe_op (kplus K) (pv 1) pe_str) (pe_ix (kix K) (pv 2) pe_int (fun _ _ => rfl))))) (pss_one (pS 1 sc_written.nd (pe_op (kplus K) (pe_op (kplus K) (pe_op (kplus K) (pe_op (kplus K) (pe_op (kplus K) (pv 1) pe_str) (pe_ix (kix K) (pv 2) pe_int (fun _ _ => rfl))) pe_str) (kbm K PySem.F.plainAttrs_str PySem.F.slot_str_join PySem.F.type_str_join (kjoin K) pe_str (pa_cons (pe_lc (own := [("number", 3)]) rfl sc_written.nd (ki_tup K (pe_ix (kix K) (pv 2) pe_int (fun _ _ => rfl))) (blkOk_by (own := [("number", 3)]) (N := ["row", "found", "one", "number"]) (sc := defScope s_written) (by decide +kernel)) (fun _ _ _ _ _ => by exact (pG 3 sc_written.nd)) (fun _ _ _ _ _ => by exact pts_nil) (fun _ _ _ _ _ => by exact (pe_callTy call_str_int (by rfl) T.z_str (by decide +kernel) (pa_cons (pv 3) pa_nil)))) pa_nil))) pe_str))))))))))
      (pss_one (ps_ret (pv 1))))), ?_⟩
  refine s_seq (s_set (R := Same) (K := K) (F := F) (d := .str (mkS [])) dv_str hf fun vf H0 s0 g0 => ?_)
  have g0 : vf = .str (mkS []) := g0
  subst g0
  refine s_seq (s_forL (R := Same) (K := K) (F := F) (dv_var rfl (r_da (R := Same) s0 hv)) (r_fd (R := Same) s0 hf) fun H1 s1 f1 =>
    ⟨fun j σ' H' => Same H1 H' ∧ ∃ o p, σ' = [some v, some (.str (mkS (rowT (r.take j)))), o, p], ⟨Same.refl _, _, _, by rw [List.take_zero]; rfl⟩, fun j σ' H' p => hid_xt (xt_of p.1), ?_, ?_⟩)
  · rintro j σ' H2 d u hj ⟨s2, o, p, rfl⟩ gu
    rw [List.getElem?_map] at hj
    cases hx : r[j]? with
    | none => rw [hx] at hj; cases hj
    | some on =>
      rw [hx] at hj
      cases hj
      have ho := hok on (List.mem_of_getElem? hx)
      have f2 := r_fd (R := Same) s2 f1
      have et := rowT_take hx
      have lj := rowT_le (r := r) j
      have lj1 := rowT_le (r := r) (j + 1)
      have tl := t_len ho
      have df : ∀ {σ : L2.St} {H1 : Hp}, σ[1]? = some (some (.str (mkS (rowT (r.take j))))) → DV Same K F (tVar 1) σ H1 (.str (mkS (rowT (r.take j)))) := fun h => dv_var h rfl
      have fin : ∀ {H' : Hp} {v' : V} {x : Str}, Same H2 H' → Da K (hid F H') (.str x) v' → x = mkS (rowT (r.take j) ++ on.t) → Same H1 H' ∧ ∃ o p', [some v, some v', some u, p] = [some v, some (.str (mkS (rowT (r.take (j + 1))))), o, p'] := fun {H' v' x} s' g e => by
        have g : v' = .str x := g
        subst g
        refine ⟨s2.trans s', some u, p, ?_⟩
        rw [e, ← et]
      have c1 : (mkS (rowT (r.take j))).length = (rowT (r.take j)).length := mkS_len _
      have tot : (rowT (r.take j)).length + on.t.length ≤ 10000 := by
        rw [et, List.length_append] at lj1
        omega
      have no0 : ∀ {σ : L2.St} {H3 : Hp} {x : Str} {ds : List PyData} {y : Str} {b : Bool}, σ[2]? = some (some u) → Da K (hid F H3) (.tuple (.str x :: ds)) u → decide (x = y) = b → DT Same F (tTest (tOp (rEqA K) (tOp (rIx K) (tVar 2) (tC (V.int 0))) (tC (V.str y)))) σ H3 b := fun h1 h2 e => dt_is (dt_test (K := K) (dv_eqS (dv_ixT (dv_var h1 h2) dv_int (atI_nat (j := 0) rfl)) dv_str)) e
      cases on with
      | endl =>
        refine s_if (R := Same) (F := F) (no0 rfl gu (by decide +kernel : _ = true)) f2 (fun _ H3 s3 => ?_) fun z => nomatch z
        refine s_set (R := Same) (K := K) (F := F) (dv_addS (df rfl) dv_str (le_sz' (by rw [c1]; exact tot))) (r_fd (R := Same) s3 f2) fun v' H4 s4 g4 => fin (s3.trans s4) g4 (mkS_app _ _)
      | sign c =>
        refine s_if (R := Same) (F := F) (no0 rfl gu (by decide +kernel : _ = false)) f2 (fun z => nomatch z) fun _ H3 s3 => ?_
        have gu3 := r_da (R := Same) s3 gu
        refine s_if (R := Same) (F := F) (no0 rfl gu3 (by decide +kernel : _ = true)) (r_fd (R := Same) s3 f2) (fun _ H4 s4 => ?_) fun z => nomatch z
        have gu4 := r_da (R := Same) s4 gu3
        have i1 : ∀ {H5 : Hp}, Same H4 H5 → DV Same K F (tOp (rIx K) (tVar 2) (tC (V.int 1))) [some v, some (.str (mkS (rowT (r.take j)))), some u, p] H5 (.str ⟨#[c]⟩) := fun s5 => dv_ixT (dv_var rfl (r_da (R := Same) s5 gu4)) dv_int (atI_nat (j := 1) rfl)
        refine s_set (R := Same) (K := K) (F := F) (dv_addS (y := mkS (One.sign c).t) (df rfl) (dv_if (dt_is (dt_test (K := K) (dv_eqS (i1 (Same.refl _)) dv_str)) (one_eq 94 c)) (fun e => ?_) fun e => ?_) (le_sz' (by rw [c1, mkS_len]; exact tot))) (r_fd (R := Same) (s3.trans s4) f2) fun v' H5 s5 g5 => fin ((s3.trans s4).trans s5) g5 (mkS_app _ _)
        · have e : c = 94 := of_decide_eq_true e
          show DV _ _ _ _ _ _ (.str (mkS (if c = 94 then [94, 94] else [c])))
          rw [if_pos e]
          exact dv_str
        · have e : ¬ c = 94 := of_decide_eq_false e
          show DV _ _ _ _ _ _ (.str (mkS (if c = 94 then [94, 94] else [c])))
          rw [if_neg e]
          exact i1 (Same.refl _)
      | small c =>
        refine s_if (R := Same) (F := F) (no0 rfl gu (by decide +kernel : _ = false)) f2 (fun z => nomatch z) fun _ H3 s3 => ?_
        have gu3 := r_da (R := Same) s3 gu
        refine s_if (R := Same) (F := F) (no0 rfl gu3 (by decide +kernel : _ = false)) (r_fd (R := Same) s3 f2) (fun z => nomatch z) fun _ H4 s4 => ?_
        have gu4 := r_da (R := Same) s4 gu3
        have i1 : ∀ {H5 : Hp}, Same H4 H5 → DV Same K F (tOp (rIx K) (tVar 2) (tC (V.int 1))) [some v, some (.str (mkS (rowT (r.take j)))), some u, p] H5 (.str (mkS [c])) := fun s5 => dv_ixT (dv_var rfl (r_da (R := Same) s5 gu4)) dv_int (atI_nat (j := 1) rfl)
        have f4 := r_fd (R := Same) (s3.trans s4) f2
        refine s_if (R := Same) (F := F) (b := true) (dt_is (dt_test (K := K) (dv_inS (i1 (Same.refl _)) dv_str)) (by rw [in_small]; exact ho)) f4 (fun _ H5 s5 => ?_) fun z => nomatch z
        have ln : (mkS (rowT (r.take j) ++ [94])).length + 1 ≤ 10000 := by
          have : (One.small c).t.length = 2 := rfl
          rw [mkS_len, List.length_append]
          show _ + 1 + 1 ≤ 10000
          omega
        refine s_set (R := Same) (K := K) (F := F) (dv_addS (dv_is (dv_addS (df rfl) (dv_str (x := mkS [94])) (le_sz' ?_)) (by rw [mkS_app])) (i1 s5) (le_sz' ln)) (r_fd (R := Same) s5 f4) fun v' H6 s6 g6 => fin ((s3.trans s4).trans (s5.trans s6)) g6 (by rw [mkS_app, List.append_assoc]; rfl)
        simp only [mkS_len, List.length_append, List.length_cons, List.length_nil] at ln ⊢
        omega
      | great c ns =>
        refine s_if (R := Same) (F := F) (no0 rfl gu (by decide +kernel : _ = false)) f2 (fun z => nomatch z) fun _ H3 s3 => ?_
        have gu3 := r_da (R := Same) s3 gu
        refine s_if (R := Same) (F := F) (no0 rfl gu3 (by decide +kernel : _ = false)) (r_fd (R := Same) s3 f2) (fun z => nomatch z) fun _ H4 s4 => ?_
        have gu4 := r_da (R := Same) s4 gu3
        have i1 : ∀ {H5 : Hp}, Same H4 H5 → DV Same K F (tOp (rIx K) (tVar 2) (tC (V.int 1))) [some v, some (.str (mkS (rowT (r.take j)))), some u, p] H5 (.str (mkS [c])) := fun s5 => dv_ixT (dv_var rfl (r_da (R := Same) s5 gu4)) dv_int (atI_nat (j := 1) rfl)
        have f4 := r_fd (R := Same) (s3.trans s4) f2
        have ns0 : isSmall c = false := by
          have := great_b ho.1
          unfold isSmall
          rw [decide_eq_false (by omega : ¬ 97 ≤ c)]
          rfl
        refine s_if (R := Same) (F := F) (b := false) (dt_is (dt_test (K := K) (dv_inS (i1 (Same.refl _)) dv_str)) (by rw [in_small]; exact ns0)) f4 (fun z => nomatch z) fun _ H5 s5 => ?_
        have gu5 := r_da (R := Same) s5 gu4
        have tg : (One.great c ns).t.length = (comma (ns.map numS)).length + 4 := by
          show ([94, c, 40] ++ comma (ns.map numS) ++ [41]).length = _
          simp
        have ln : (mkS (rowT (r.take j) ++ [94] ++ [c] ++ [40] ++ comma (ns.map numS))).length + 1 ≤ 10000 := by
          rw [mkS_len]
          simp only [List.length_append, List.length_cons, List.length_nil]
          omega
        refine s_set (R := Same) (K := K) (F := F) (dv_addS (dv_is (dv_addS (dv_is (dv_addS (dv_is (dv_addS (dv_is (dv_addS (df rfl) (dv_str (x := mkS [94])) (le_sz' ?_)) (by rw [mkS_app])) (i1 s5) (le_sz' ?_)) (by rw [mkS_app])) (dv_str (x := mkS [40])) (le_sz' ?_)) (by rw [mkS_app])) (dv_joinN (i := 3) (dv_ixT (dv_var rfl gu5) dv_int (atI_nat (j := 2) rfl)) ho.2.2 ho.2.1 (fun _ => rfl) (fun _ => rfl)) (le_sz' ?_)) (by rw [mkS_app])) (dv_str (x := mkS [41])) (le_sz' ln)) (r_fd (R := Same) s5 f4) fun v' H6 s6 g6 => fin ((s3.trans s4).trans (s5.trans s6)) g6 (by rw [mkS_app]; congr 1; simp [One.t])
        all_goals (simp only [mkS_len, List.length_append, List.length_cons, List.length_nil] at ln ⊢; omega)
  · rintro σ' H2 ⟨s2, o, p, rfl⟩
    rw [List.length_map, List.take_length]
    exact s_ret (R := Same) (K := K) (F := F) (dv_var rfl (show Da K _ (.str (mkS (rowT r))) _ from rfl)) (r_fd (R := Same) s2 f1) fun v H3 s3 g => q v H3 ((s0.trans s1).trans (s2.trans s3)) g
end
end Sc

namespace Sc
open PySem PySem.Spec PyProof.Rows L2
def signs15 : List Nat := (Str.ofString "abcdeXY ^(,)19~").cps.toList
def smalls16 : List Nat := (Str.ofString "udlrhnpebkcstzqx").cps.toList
def greats12 : List Nat := (Str.ofString "GRCBMXIDNJZG").cps.toList
def oneMany (here : Int) (c : Nat) : Nat := if here / 16 % 8 = 0 then (here / 128 % 5).toNat else if c = 71 ∨ c = 82 then 2 else 1
def oneNums (here : Int) (many : Nat) : List Int := (List.range many).map fun j : Nat => menuN.getD (drawn here j % 8).toNat 0
/-- one thing that signs tell -/
def lawOne (m : Int) : One :=
  if m % 16 < 8 then .sign (signs15.getD (m / 64 % 15).toNat 0)
  else if m % 16 = 8 then .endl
  else if m % 16 < 13 then .small (smalls16.getD (m / 64 % 16).toNat 0)
  else .great (greats12.getD (m / 64 % 12).toNat 0) (oneNums (m / 64) (oneMany (m / 64) (greats12.getD (m / 64 % 12).toNat 0)))
theorem getD_mem {α : Type} {l : List α} {i : Nat} {d : α} (h : i < l.length) : l.getD i d ∈ l := by
  rw [List.getD_eq_getElem?_getD, List.getElem?_eq_getElem h]
  exact List.getElem_mem _
theorem mod_lt_nat {x n : Int} (h : 0 < n) : (x % n).toNat < n.toNat := by
  have h1 := Int.emod_nonneg x (show n ≠ 0 by omega)
  have h2 := Int.emod_lt_of_pos x h
  omega
theorem oneMany_le (here : Int) (c : Nat) : oneMany here c ≤ 4 := by
  unfold oneMany
  have := mod_lt_nat (x := here / 128) (n := 5) (by decide)
  split
  · have e : (5 : Int).toNat = 5 := rfl
    omega
  · split <;> omega
theorem oneNums_menu {here : Int} {many : Nat} {n : Int} (h : n ∈ oneNums here many) : n ∈ menuN := by
  obtain ⟨j, _, rfl⟩ := List.mem_map.mp h
  exact getD_mem (mod_lt_nat (n := 8) (by decide))
theorem signs15_ok : ∀ c ∈ signs15, isSign c = true ∧ c ≠ 10 := by decide +kernel
theorem smalls16_ok : ∀ c ∈ smalls16, isSmall c = true := by decide +kernel
theorem greats12_ok : ∀ c ∈ greats12, isGreat c = true := by decide +kernel
theorem signs15_len : signs15.length = 15 := by decide +kernel
theorem smalls16_len : smalls16.length = 16 := by decide +kernel
theorem greats12_len : greats12.length = 12 := by decide +kernel
theorem lawOne_ok (m : Int) : (lawOne m).ok := by
  unfold lawOne
  split
  · exact signs15_ok _ (getD_mem (by rw [signs15_len]; exact mod_lt_nat (n := 15) (by decide)))
  · split
    · trivial
    · split
      · exact smalls16_ok _ (getD_mem (by rw [smalls16_len]; exact mod_lt_nat (n := 16) (by decide)))
      · refine ⟨greats12_ok _ (getD_mem (by rw [greats12_len]; exact mod_lt_nat (n := 12) (by decide))), ?_, fun n hn => menu_ok (oneNums_menu hn)⟩
        unfold oneNums
        rw [List.length_map, List.length_range]
        exact oneMany_le _ _
def A_law_one (ds : List PyData) (d : PyData) : Prop := ∃ m : Int, ds = [.int m] ∧ d = (lawOne m).d
theorem at_modN {l : List Nat} {x n : Int} (h : 0 < n) (hl : l.length = n.toNat) : atI l (x % n) = some (l.getD (x % n).toNat 0) := by
  have h1 := Int.emod_nonneg x (show n ≠ 0 by omega)
  have h2 := Int.emod_lt_of_pos x h
  have e : ((x % n).toNat : Int) = x % n := by omega
  rw [← e]
  refine atI_nat ?_
  rw [List.getD_eq_getElem?_getD, Int.toNat_natCast, List.getElem?_eq_getElem (by omega)]
  rfl
theorem at_modG {α : Type} {l : List α} {x n : Int} (d : α) (h : 0 < n) (hl : l.length = n.toNat) : atI l (x % n) = some (l.getD (x % n).toNat d) := by
  have h1 := Int.emod_nonneg x (show n ≠ 0 by omega)
  have h2 := Int.emod_lt_of_pos x h
  have e : ((x % n).toNat : Int) = x % n := by omega
  rw [← e]
  refine atI_nat ?_
  rw [List.getD_eq_getElem?_getD, Int.toNat_natCast, List.getElem?_eq_getElem (by omega)]
  rfl
theorem getGR (c : Nat) : (valV (mergeK [] (([("G", 2), ("R", 2)] : List (Str × Int)).map fun p => ((Sum.inr p.1 : Key), V.int p.2))) (Sum.inr ⟨#[c]⟩ : Key)).getD (.int 1) = .int ((if c = 71 ∨ c = 82 then 2 else 1 : Nat) : Int) := by
  have e : mergeK [] (([("G", 2), ("R", 2)] : List (Str × Int)).map fun p => ((Sum.inr p.1 : Key), V.int p.2)) = [((Sum.inr "G" : Key), V.int 2), ((Sum.inr "R" : Key), V.int 2)] := by rfl
  rw [e]
  by_cases h1 : c = 71
  · subst h1
    rw [valV_pos (by rfl)]
    rfl
  · rw [valV_neg (fun z => h1 ?_)]
    · by_cases h2 : c = 82
      · subst h2
        rw [valV_pos (by rfl)]
        rfl
      · rw [valV_neg (fun z => h2 ?_), valV_nil, if_neg (by omega)]
        · rfl
        · have z := Sum.inr.inj z
          have := of_decide_eq_true ((one_eq 82 c).symm.trans (decide_eq_true (show (⟨#[c]⟩ : Str) = ⟨#[82]⟩ from z.symm)))
          exact this
    · have z := Sum.inr.inj z
      exact of_decide_eq_true ((one_eq 71 c).symm.trans (decide_eq_true (show (⟨#[c]⟩ : Str) = ⟨#[71]⟩ from z.symm)))
section
variable {P : Program} {w : World} {K : PySem.W.Frag} {mg : Str → Option Value} {base : Heap}
theorem sc__law_one : FnScope ["more", "here", "way", "word", "many", "numbers", "j"] ["more"] (defScope s__law_one) := ⟨rfl, rfl, rfl, by decide +kernel, rfl, by decide +kernel, by decide +kernel⟩
theorem c__law_one (T : GT K mg) : Cal P w K mg base CX0 2 "_law_one" ["more"] (spF K 1 A_law_one) := by
  refine cal_F T.f__law_one T.g__law_one sc__law_one rfl (fun _ _ _ _ _ _ us hl => match us, hl with | [_], _ => rfl) fun f cdv A' outer s H vs Q E F ds d hr hf hl ha q => ?_
  obtain ⟨m, rfl, rfl⟩ := ha
  obtain ⟨v, rfl, hv⟩ := dal1 hl
  have hv : v = .int m := hv
  subst hv
  refine ⟨_, (pss_cons (pS 1 sc__law_one.nd (pe_op op_fdivW (pv 0) pe_int))
      (pss_cons (pS 2 sc__law_one.nd (pe_op op_mod (pv 0) pe_int))
      (pss_cons (ps_if (pt_cmpR op_lt (pv 2) pe_int (nomark _)) (pss_one (ps_ret (pe_tup (pa_cons pe_str (pa_cons (pe_ix (kix K) pe_str (pe_op op_mod (pv 1) pe_int) (fun _ _ => rfl)) pa_nil))))) pss_nil)
      (pss_cons (ps_if (pt_cmpR (keq K hr.units) (pv 2) pe_int (nomark _)) (pss_one (ps_ret (pe_tup (pa_cons pe_str pa_nil)))) pss_nil)
      (pss_cons (ps_if (pt_cmpR op_lt (pv 2) pe_int (nomark _)) (pss_one (ps_ret (pe_tup (pa_cons pe_str (pa_cons (pe_ix (kix K) pe_str (pe_op op_mod (pv 1) pe_int) (fun _ _ => rfl)) (pa_cons (pe_tup pa_nil) pa_nil)))))) pss_nil)
      (pss_cons (pS 3 sc__law_one.nd (pe_ix (kix K) pe_str (pe_op op_mod (pv 1) pe_int) (fun _ _ => rfl)))
      (pss_cons (pS 4 sc__law_one.nd (pe_dget2 (u1 hr) (pe_disp (pps_cons pe_str pe_int (pps_cons pe_str pe_int pps_nil)) rfl rfl (by simp) (by decide)) (pv 3) pe_int ⟨rfl, rfl, rfl, rfl⟩))
      (pss_cons (ps_if (pt_cmpR (keq K hr.units) (pe_op op_mod (pe_op op_fdivW (pv 1) pe_int) pe_int) pe_int (nomark _)) (pss_one (pS 4 sc__law_one.nd (pe_op op_mod (pe_op op_fdivW (pv 1) pe_int) pe_int))) pss_nil)
      (pss_cons (ps_setLc (i := 5) (own := [("j", 6)]) rfl sc__law_one.nd rfl rfl (sw_true rfl rfl rfl (by decide +kernel)) (pi_range1 (by rfl) T.z_range (pa_cons (pv 4) pa_nil)) (blkOk_by (own := [("j", 6)]) (N := ["more", "here", "way", "word", "many", "numbers", "j"]) (sc := defScope s__law_one) (by decide +kernel)) (fun _ _ _ _ _ => by exact (pG 6 sc__law_one.nd)) (fun _ _ _ _ _ => by exact pts_nil) (fun _ _ _ _ _ => by exact (pe_ix (kix K) (pe_lst (pa_cons pe_int (pa_cons pe_int (pa_cons pe_int (pa_cons pe_int (pa_cons pe_int (pa_cons pe_int (pa_cons pe_int (pa_cons pe_int pa_nil))))))))) (pe_op op_mod (pe_cal (c__law_drawn T) (hr.mono (by decide)) pass0 (pa_cons (pv 1) (pa_cons (pv 6) pa_nil))) pe_int) (fun _ _ => rfl))))
      (pss_one (ps_ret (pe_tup (pa_cons pe_str (pa_cons (pv 3) (pa_cons (pe_callTy (ktuple K) (by rfl) T.z_tuple (by decide +kernel) (pa_cons (pv 5) pa_nil)) pa_nil))))))))))))))), ?_⟩
  refine s_seq (s_set (R := Same) (K := K) (F := F) (d := .int (m / 64)) (dv_div (dv_var rfl (show Da K _ (.int m) _ from rfl)) dv_int ⟨by decide, by decide⟩) hf fun v H1 s1 g => ?_)
  have g : v = .int (m / 64) := g
  subst g
  refine s_seq (s_set (R := Same) (K := K) (F := F) (d := .int (m % 16)) (dv_mod (dv_var rfl (show Da K _ (.int m) _ from rfl)) dv_int (by decide)) (r_fd (R := Same) s1 hf) fun v H2 s2 g => ?_)
  have g : v = .int (m % 16) := g
  subst g
  have s12 := s1.trans s2
  have f2 := r_fd (R := Same) s12 hf
  have hh : ∀ {σ : L2.St} {H1 : Hp}, σ[1]? = some (some (.int (m / 64))) → DV Same K F (tVar 1) σ H1 (.int (m / 64)) := fun h => dv_var h rfl
  have hw : ∀ {σ : L2.St} {H1 : Hp}, σ[2]? = some (some (.int (m % 16))) → DV Same K F (tVar 2) σ H1 (.int (m % 16)) := fun h => dv_var h rfl
  refine s_seq (s_if (R := Same) (F := F) (dt_test (K := K) (dv_lt (hw rfl) dv_int)) f2 (fun e H3 s3 => ?_) fun e H3 s3 => ?_)
  · have e : m % 16 < 8 := of_decide_eq_true e
    refine s_ret (R := Same) (K := K) (F := F) (d := (lawOne m).d) (dv_is (dv_tup (da_cons dv_str (da_cons (dv_ixS dv_str (dv_mod (hh rfl) dv_int (by decide)) (by decide +kernel) (at_modN (l := signs15) (by decide) signs15_len)) da_nil)) (Nat.le_of_ble_eq_true rfl)) ?_) (r_fd (R := Same) s3 f2) fun v H4 s4 g => q v H4 ((s12.trans s3).trans s4) g
    unfold lawOne
    rw [if_pos e]
    rfl
  · have e : ¬ m % 16 < 8 := of_decide_eq_false e
    have f3 := r_fd (R := Same) s3 f2
    have s13 := s12.trans s3
    refine s_next (s_seq (s_if (R := Same) (F := F) (dt_test (K := K) (dv_eqI (hw rfl) dv_int)) f3 (fun e2 H4 s4 => ?_) fun e2 H4 s4 => ?_))
    · have e2 : m % 16 = 8 := of_decide_eq_true e2
      refine s_ret (R := Same) (K := K) (F := F) (d := (lawOne m).d) ?_ (r_fd (R := Same) s4 f3) fun v H5 s5 g => q v H5 ((s13.trans s4).trans s5) g
      unfold lawOne
      rw [if_neg e, if_pos e2]
      show DV _ _ _ _ _ _ tEnd
      walk_at "dv"
    · have e2 : ¬ m % 16 = 8 := of_decide_eq_false e2
      have f4 := r_fd (R := Same) s4 f3
      have s14 := s13.trans s4
      refine s_next (s_seq (s_if (R := Same) (F := F) (dt_test (K := K) (dv_lt (hw rfl) dv_int)) f4 (fun e3 H5 s5 => ?_) fun e3 H5 s5 => ?_))
      · have e3 : m % 16 < 13 := of_decide_eq_true e3
        refine s_ret (R := Same) (K := K) (F := F) (d := (lawOne m).d) (dv_is (dv_tup (da_cons dv_str (da_cons (dv_ixS dv_str (dv_mod (hh rfl) dv_int (by decide)) (by decide +kernel) (at_modN (l := smalls16) (by decide) smalls16_len)) (da_cons (dv_tup da_nil (Nat.le_of_ble_eq_true rfl)) da_nil))) (Nat.le_of_ble_eq_true rfl)) ?_) (r_fd (R := Same) s5 f4) fun v H6 s6 g => q v H6 ((s14.trans s5).trans s6) g
        unfold lawOne
        rw [if_neg e, if_neg e2, if_pos e3]
        rfl
      · have e3 : ¬ m % 16 < 13 := of_decide_eq_false e3
        have f5 := r_fd (R := Same) s5 f4
        have s15 := s14.trans s5
        obtain ⟨c, hc⟩ : ∃ c, c = greats12.getD (m / 64 % 12).toNat 0 := ⟨_, rfl⟩
        refine s_next (s_seq (s_set (R := Same) (K := K) (F := F) (d := .str ⟨#[c]⟩) (by rw [hc]; exact dv_ixS dv_str (dv_mod (hh rfl) dv_int (by decide)) (by decide +kernel) (at_modN (l := greats12) (by decide) greats12_len)) f5 fun v H6 s6 g => ?_))
        have g : v = .str ⟨#[c]⟩ := g
        subst g
        have f6 := r_fd (R := Same) s6 f5
        refine s_seq (s_set (R := Same) (K := K) (F := F) (d := .int ((if c = 71 ∨ c = 82 then 2 else 1 : Nat) : Int)) (dv_getD (kvs := [("G", 2), ("R", 2)]) (by intro H Q h; exact h) (by decide) (dv_var rfl (show Da K _ (.str ⟨#[c]⟩) _ from rfl)) (getGR c)) f6 fun v H7 s7 g => ?_)
        have g : v = .int ((if c = 71 ∨ c = 82 then 2 else 1 : Nat) : Int) := g
        subst g
        have f7 := r_fd (R := Same) s7 f6
        have s17 := s15.trans (s6.trans s7)
        -- many
        have key : ∀ H8, Same H7 H8 → tSeq (tAsg (tLc (iRng1 (tCons (tVar 4) tNil)) (gName 6) tYes (tOp (rIx K) (tLst (tCons (tC (V.int 0)) (tCons (tC (V.int 1)) (tCons (tC (V.int 2)) (tCons (tC (V.int 3)) (tCons (tC (V.int 4)) (tCons (tC (V.int 7)) (tCons (tC (V.int 12)) (tCons (tC (V.int 9999)) tNil))))))))) (tOp (rI (fun _ j => 0 < j) fun i j => V.int (i % j)) (tCall (spF K 2 A_law_drawn) [] E0 (tCons (tVar 1) (tCons (tVar 6) tNil))) (tC (V.int 8)))) [6]) (gName 5)) (tRet (tTup (tCons (tC (V.str "do")) (tCons (tVar 3) (tCons (tCB (rTupOf K) (tCons (tVar 5) tNil)) tNil))))) { nx := fun _ H' => Q .non H', rt := Q } [some (.int m), some (.int (m / 64)), some (.int (m % 16)), some (.str ⟨#[c]⟩), some (.int ((oneMany (m / 64) c : Nat) : Int)), none, none] H8 := fun H8 s8 => by
          have f8 := r_fd (R := Same) s8 f7
          have om := oneMany_le (m / 64) c
          refine s_seq (s_set (R := Same) (K := K) (F := F) (d := .list ((oneNums (m / 64) (oneMany (m / 64) c)).map PyData.int)) (dv_lcR (dv_var rfl (show Da K _ (.int ((oneMany (m / 64) c : Nat) : Int)) _ from rfl)) (by unfold oneNums; rw [List.length_map, List.length_map, List.length_range]; rfl) (by omega) (by omega) (fun _ => rfl) fun F' H9 j e w he => ?_) f8 fun v H9 s9 g9 => ?_)
          · have ee : e = .int (menuN.getD (drawn (m / 64) j % 8).toNat 0) := by
              unfold oneNums at he
              rw [List.map_map, List.getElem?_map] at he
              cases hr : (List.range (oneMany (m / 64) c))[j]? with
              | none => rw [hr] at he; cases he
              | some j' =>
                rw [hr] at he
                have hj := (List.getElem?_eq_some_iff.mp hr)
                obtain ⟨h1, h2⟩ := hj
                rw [List.getElem_range] at h2
                subst h2
                exact (Option.some.inj he).symm
            subst ee
            refine dv_ixL (ds := menuN.map PyData.int) (by show DV _ _ _ _ _ _ (.list [.int 0, .int 1, .int 2, .int 3, .int 4, .int 7, .int 12, .int 9999]); walk_at "dv") (dv_mod (dv_call (da_cons (dv_var rfl (show Da K _ (.int (m / 64)) _ from rfl)) (da_cons (dv_var rfl (show Da K _ (.int (j : Int)) _ from rfl)) da_nil)) (sd_F ⟨_, _, rfl, rfl⟩ rfl)) dv_int (by decide)) ?_
            have h1 := Int.emod_nonneg (drawn (m / 64) j) (show (8 : Int) ≠ 0 by decide)
            have h2 := Int.emod_lt_of_pos (drawn (m / 64) j) (show (0 : Int) < 8 by decide)
            have e8 : ((drawn (m / 64) j % 8).toNat : Int) = drawn (m / 64) j % 8 := by omega
            rw [← e8]
            refine atI_nat ?_
            rw [List.getElem?_map, List.getD_eq_getElem?_getD, Int.toNat_natCast, List.getElem?_eq_getElem (by show _ < 8; omega)]
            rfl
          · refine s_ret (R := Same) (K := K) (F := F) (d := (lawOne m).d) (dv_is (dv_tup (da_cons dv_str (da_cons (dv_var rfl (show Da K _ (.str ⟨#[c]⟩) _ from rfl)) (da_cons (dv_tupOf (dv_var rfl g9)) da_nil))) (Nat.le_of_ble_eq_true rfl)) ?_) (r_fd (R := Same) s9 f8) fun v H10 s10 g => q v H10 (s17.trans ((s8.trans s9).trans s10)) g
            unfold lawOne
            rw [if_neg e, if_neg e2, if_neg e3, ← hc]
            rfl
        refine s_seq (s_if (R := Same) (F := F) (dt_test (K := K) (dv_eqI (dv_mod (dv_div (hh rfl) dv_int ⟨by decide, by decide⟩) dv_int (by decide)) dv_int)) f7 (fun e4 H8 s8 => ?_) fun e4 H8 s8 => ?_)
        · have e4 : m / 64 / 16 % 8 = 0 := of_decide_eq_true e4
          have em : ((oneMany (m / 64) c : Nat) : Int) = m / 64 / 128 % 5 := by
            unfold oneMany
            rw [if_pos e4]
            have := Int.emod_nonneg (m / 64 / 128) (show (5 : Int) ≠ 0 by decide)
            omega
          refine s_set (R := Same) (K := K) (F := F) (d := .int (m / 64 / 128 % 5)) (dv_mod (dv_div (hh rfl) dv_int ⟨by decide, by decide⟩) dv_int (by decide)) (r_fd (R := Same) s8 f7) fun v H9 s9 g => ?_
          have g : v = .int (m / 64 / 128 % 5) := g
          subst g
          rw [← em]
          exact key H9 (s8.trans s9)
        · have e4 : ¬ m / 64 / 16 % 8 = 0 := of_decide_eq_false e4
          have em : oneMany (m / 64) c = (if c = 71 ∨ c = 82 then 2 else 1) := by
            unfold oneMany
            rw [if_neg e4]
          rw [← em]
          exact s_next (key H8 s8)
end
end Sc

namespace Sc
open PySem PySem.Spec PyProof.Rows L2
def mnop : List Nat := (Str.ofString "mnop").cps.toList
theorem mnop_len : mnop.length = 4 := by decide +kernel
theorem mnop_ok : ∀ c ∈ mnop, isSign c = true ∧ c ≠ 10 := by decide +kernel
def rowRun (here : Int) : List One := (List.range (here / 64 % 15).toNat).map fun n : Nat => One.sign (mnop.getD ((here / 8 + (n : Int)) % 4).toNat 0)
def rowStep (m : Int) (j : Nat) : List One := (if drawn m j % 5 = 0 then rowRun (drawn m j) else []) ++ [lawOne (drawn m j / 8)]
def rowUp (m : Int) (n : Nat) : List One := ((List.range n).map (rowStep m)).flatten
/-- up to so many things that signs tell -/
def lawRow (m : Int) (many : Nat) : List One := rowUp m (m % ((many : Int) + 1)).toNat
theorem rowRun_len (h : Int) : (rowRun h).length ≤ 14 := by
  unfold rowRun
  rw [List.length_map, List.length_range]
  have := mod_lt_nat (x := h / 64) (n := 15) (by decide)
  have e : (15 : Int).toNat = 15 := rfl
  omega
theorem rowStep_len (m : Int) (j : Nat) : (rowStep m j).length ≤ 15 := by
  unfold rowStep
  rw [List.length_append]
  have := rowRun_len (drawn m j)
  split
  · show _ + 1 ≤ 15; omega
  · exact Nat.le_of_ble_eq_true rfl
theorem rowUp_succ (m : Int) (n : Nat) : rowUp m (n + 1) = rowUp m n ++ rowStep m n := by
  unfold rowUp
  rw [List.range_succ, List.map_append, List.flatten_append]
  show _ ++ (rowStep m n ++ []) = _
  rw [List.append_nil]
theorem rowUp_len (m : Int) : ∀ n : Nat, (rowUp m n).length ≤ 15 * n
  | 0 => Nat.le_refl _
  | n + 1 => by
    rw [rowUp_succ, List.length_append]
    have := rowUp_len m n
    have := rowStep_len m n
    omega
theorem rowRun_ok {h : Int} : ∀ o ∈ rowRun h, o.ok := fun o ho => by
  obtain ⟨n, _, rfl⟩ := List.mem_map.mp ho
  exact mnop_ok _ (getD_mem (by rw [mnop_len]; exact mod_lt_nat (n := 4) (by decide)))
theorem rowStep_ok {m : Int} {j : Nat} : ∀ o ∈ rowStep m j, o.ok := fun o ho => by
  unfold rowStep at ho
  rcases List.mem_append.mp ho with z | z
  · split at z
    · exact rowRun_ok o z
    · cases z
  · rw [List.mem_singleton.mp z]
    exact lawOne_ok _
theorem rowUp_ok {m : Int} {n : Nat} : ∀ o ∈ rowUp m n, o.ok := fun o ho => by
  obtain ⟨l, hl, hol⟩ := List.mem_flatten.mp ho
  obtain ⟨j, _, rfl⟩ := List.mem_map.mp hl
  exact rowStep_ok o hol
theorem lawRow_ok {m : Int} {many : Nat} : ∀ o ∈ lawRow m many, o.ok := rowUp_ok
theorem rowT_len : ∀ {r : List One}, (∀ o ∈ r, o.ok) → (rowT r).length ≤ 24 * r.length
  | [], _ => Nat.le_refl _
  | o :: r, h => by
    show (o.t ++ rowT r).length ≤ _
    rw [List.length_append, List.length_cons]
    have h1 := t_len (h o List.mem_cons_self)
    have h2 := rowT_len fun x hx => h x (List.mem_cons_of_mem _ hx)
    omega
theorem runT_len (h : Int) : (rowT (rowRun h)).length ≤ 14 := by
  have key : ∀ l : List Nat, (rowT (l.map fun n : Nat => One.sign (mnop.getD ((h / 8 + (n : Int)) % 4).toNat 0))).length ≤ l.length := fun l => by
    induction l with
    | nil => exact Nat.le_refl _
    | cons a l ih =>
      rw [List.map_cons]
      show (One.t _ ++ rowT _).length ≤ _
      rw [List.length_append, List.length_cons]
      have hm : mnop.getD ((h / 8 + (a : Int)) % 4).toNat 0 ∈ mnop := getD_mem (by rw [mnop_len]; exact mod_lt_nat (n := 4) (by decide))
      have h1 : (One.sign (mnop.getD ((h / 8 + (a : Int)) % 4).toNat 0)).t.length = 1 := by
        have : ∀ c ∈ mnop, (One.sign c).t.length = 1 := by decide +kernel
        exact this _ hm
      omega
  refine Nat.le_trans (key _) ?_
  rw [List.length_range]
  have := mod_lt_nat (x := h / 64) (n := 15) (by decide)
  have e : (15 : Int).toNat = 15 := rfl
  omega
theorem stepT_len (m : Int) (j : Nat) : (rowT (rowStep m j)).length ≤ 38 := by
  unfold rowStep
  rw [rowT_app, List.length_append]
  have h1 := runT_len (drawn m j)
  have h2 : (rowT [lawOne (drawn m j / 8)]).length ≤ 24 := rowT_len (r := [lawOne (drawn m j / 8)]) fun o ho => by rw [List.mem_singleton.mp ho]; exact lawOne_ok _
  split
  · omega
  · show 0 + _ ≤ 38; omega
theorem upT_len (m : Int) : ∀ n : Nat, (rowT (rowUp m n)).length ≤ 38 * n
  | 0 => Nat.le_refl _
  | n + 1 => by
    rw [rowUp_succ, rowT_app, List.length_append]
    have := upT_len m n
    have := stepT_len m n
    omega
theorem lawRow_n {m : Int} {many : Nat} : (m % ((many : Int) + 1)).toNat ≤ many := by
  have h1 := Int.emod_nonneg m (show (many : Int) + 1 ≠ 0 by omega)
  have h2 := Int.emod_lt_of_pos m (show 0 < (many : Int) + 1 by omega)
  omega
theorem lawRow_len {m : Int} {many : Nat} : (lawRow m many).length ≤ 15 * many := Nat.le_trans (rowUp_len m _) (Nat.mul_le_mul_left _ lawRow_n)
theorem lawRowT_len {m : Int} {many : Nat} : (rowT (lawRow m many)).length ≤ 38 * many := Nat.le_trans (upT_len m _) (Nat.mul_le_mul_left _ lawRow_n)
def A_law_row (ds : List PyData) (d : PyData) : Prop := ∃ (m : Int) (many : Nat), ds = [.int m, .int (many : Int)] ∧ many ≤ 100 ∧ d = .list ((lawRow m many).map One.d)
section
variable {P : Program} {w : World} {K : PySem.W.Frag} {mg : Str → Option Value} {base : Heap}
theorem sc__law_row : FnScope ["more", "many", "found", "j", "here", "n"] ["more", "many"] (defScope s__law_row) := ⟨rfl, rfl, rfl, by decide +kernel, rfl, by decide +kernel, by decide +kernel⟩
theorem c__law_row (T : GT K mg) : Cal P w K mg base CX0 3 "_law_row" ["more", "many"] (spF K 2 A_law_row) := by
  refine cal_F T.f__law_row T.g__law_row sc__law_row rfl (fun _ _ _ _ _ _ us hl => match us, hl with | [_, _], _ => rfl) fun f cdv A' outer s H vs Q E F ds d hr hf hl ha q => ?_
  obtain ⟨m, many, rfl, hm, rfl⟩ := ha
  obtain ⟨v, u, rfl, hv, hu⟩ := dal2 hl
  have hv : v = .int m := hv
  have hu : u = .int (many : Int) := hu
  subst hv hu
  refine ⟨_, (pss_cons (pS 2 sc__law_row.nd (pe_lst pa_nil))
      (pss_cons (ps_for PassesOwn.never rfl (pi_range1 (by rfl) T.z_range (pa_cons (pe_op op_mod (pv 0) (pe_op (kplus K) (pv 1) pe_int)) pa_nil)) (pG 3 sc__law_row.nd) (pss_cons (pS 4 sc__law_row.nd (pe_cal (c__law_drawn T) (hr.mono (by decide)) pass0 (pa_cons (pv 0) (pa_cons (pv 3) pa_nil))))
      (pss_cons (ps_if (pt_cmpR (keq K hr.units) (pe_op op_mod (pv 4) pe_int) pe_int (nomark _)) (pss_one (pS 2 sc__law_row.nd (pe_op (kplus K) (pv 2) (pe_lc (own := [("n", 5)]) rfl sc__law_row.nd (pi_range1 (by rfl) T.z_range (pa_cons (pe_op op_mod (pe_op op_fdivW (pv 4) pe_int) pe_int) pa_nil)) (blkOk_by (own := [("n", 5)]) (N := ["more", "many", "found", "j", "here", "n"]) (sc := defScope s__law_row) (by decide +kernel)) (fun _ _ _ _ _ => by exact (pG 5 sc__law_row.nd)) (fun _ _ _ _ _ => by exact pts_nil) (fun _ _ _ _ _ => by exact (pe_tup (pa_cons pe_str (pa_cons (pe_ix (kix K) pe_str (pe_op op_mod (pe_op (kplus K) (pe_op op_fdivW (pv 4) pe_int) (pv 5)) pe_int) (fun _ _ => rfl)) pa_nil)))))))) pss_nil)
      (pss_one (ps_expr (kbm K PySem.F.plainAttrs_list PySem.F.slot_list_append PySem.F.type_list_append mt_append (pv 2) (pa_cons (pe_cal (c__law_one T) (hr.mono (by decide)) pass0 (pa_cons (pe_op op_fdivW (pv 4) pe_int) pa_nil)) pa_nil)))))))
      (pss_one (ps_ret (pv 2))))), ?_⟩
  have hn := lawRow_n (m := m) (many := many)
  have hn0 := Int.emod_nonneg m (show (many : Int) + 1 ≠ 0 by omega)
  refine s_seq (s_own (R := Same) (K := K) (F := F) (ds := []) da_nil hf (by decide) fun l H0 H1 s0 own xo => ?_)
  refine s_seq (s_forR (R := Same) (K := K) (F := F) (n := m % ((many : Int) + 1)) (dv_mod (dv_var rfl (show Da K _ (.int m) _ from rfl)) (dv_addI (dv_var rfl (show Da K _ (.int (many : Int)) _ from rfl)) dv_int) (by omega)) own.fd1 (by omega) (by omega) fun H2 s2 f2 =>
    ⟨fun j σ' H' => (∃ l' o4 o5 o6, σ' = [some (.int m), some (.int (many : Int)), some (.ref l'), o4, o5, o6] ∧ ∃ H0', Same H H0' ∧ Own Same K F H0' H' l' ((rowUp m j).map One.d)), ⟨l, _, _, _, rfl, H0, s0, own.mono s2⟩, ?_, ?_⟩)
  · rintro j σ' H3 hj ⟨l3, o4, o5, o6, rfl, H03, s03, own3⟩
    have lj := rowUp_len m j
    -- here
    refine s_seq (s_set (R := Same) (K := K) (F := F) (d := .int (drawn m j)) (dv_call (da_cons (dv_var rfl (show Da K _ (.int m) _ from rfl)) (da_cons (dv_var rfl (show Da K _ (.int (j : Int)) _ from rfl)) da_nil)) (sd_F ⟨_, _, rfl, rfl⟩ rfl)) own3.fd1 fun v H4 s4 g => ?_)
    have g : v = .int (drawn m j) := g
    subst g
    have own4 := own3.mono s4
    have hh : ∀ {F : List Addr} {σ : L2.St} {H1 : Hp}, σ[4]? = some (some (.int (drawn m j))) → DV Same K F (tVar 4) σ H1 (.int (drawn m j)) := fun h => dv_var h rfl
    have last : ∀ {bk ct : L2.St → Hp → Prop} {l5 : Addr} {H05 H5 : Hp} {pre : List One}, Same H H05 → Own Same K F H05 H5 l5 (pre.map One.d) → pre ++ [lawOne (drawn m j / 8)] = rowUp m (j + 1) → pre.length ≤ 5000 →
        tDrop (tBM K "list" rAppend (tVar 2) (tCons (tCall (spF K 1 A_law_one) [] E0 (tCons (tOp (rI CDivW fun i j => V.int (i / j)) (tVar 4) (tC (V.int 8))) tNil)) tNil)) ⟨fun σ' H' => (∃ l' o4 o5 o6, σ' = [some (.int m), some (.int (many : Int)), some (.ref l'), o4, o5, o6] ∧ ∃ H0', Same H H0' ∧ Own Same K F H0' H' l' ((rowUp m (j + 1)).map One.d)), Q, bk, ct⟩ [some (.int m), some (.int (many : Int)), some (.ref l5), some (.int (j : Int)), some (.int (drawn m j)), o6] H5 := fun {bk ct l5 H05 H5 pre} s5 own5 ep lp =>
      s_push own5 rfl (dv_call (da_cons (dv_div (hh rfl) dv_int ⟨by decide, by decide⟩) da_nil) (sd_F ⟨_, rfl, rfl⟩ rfl)) (by rw [List.length_map]; have := sizeLine_eq; omega) fun H6 own6 x6 => ⟨l5, _, _, _, rfl, H05, s5, by rw [← ep, List.map_append]; exact own6⟩
    refine s_seq (s_if (R := Same) (F := F) (dt_test (K := K) (dv_eqI (dv_mod (hh rfl) dv_int (by decide)) dv_int)) own4.fd1 (fun e H5 s5 => ?_) fun e H5 s5 => ?_)
    · have e : drawn m j % 5 = 0 := of_decide_eq_true e
      have rl := rowRun_len (drawn m j)
      have mb := mod_lt_nat (x := drawn m j / 64) (n := 15) (by decide)
      have mb0 := Int.emod_nonneg (drawn m j / 64) (show (15 : Int) ≠ 0 by decide)
      have e15 : (15 : Int).toNat = 15 := rfl
      refine s_ownAdd (es := (rowRun (drawn m j)).map One.d) (own4.mono s5) rfl (dv_lcR (dv_mod (dv_div (hh rfl) dv_int ⟨by decide, by decide⟩) dv_int (by decide)) (by unfold rowRun; rw [List.length_map, List.length_map, List.length_range]) (by omega) (by omega) (fun _ => rfl) fun F' H6 n e' w he => ?_) (by rw [List.length_map, List.length_map]; have := sizeLine_eq; omega) fun l6 H06 H6 s6 own6 x6 => ?_
      · have ee : e' = (One.sign (mnop.getD ((drawn m j / 8 + (n : Int)) % 4).toNat 0)).d := by
          unfold rowRun at he
          rw [List.map_map, List.getElem?_map] at he
          cases hr : (List.range (drawn m j / 64 % 15).toNat)[n]? with
          | none => rw [hr] at he; cases he
          | some n' =>
            rw [hr] at he
            obtain ⟨h1, h2⟩ := List.getElem?_eq_some_iff.mp hr
            rw [List.getElem_range] at h2
            subst h2
            exact (Option.some.inj he).symm
        subst ee
        exact dv_tup (da_cons dv_str (da_cons (dv_ixS dv_str (dv_mod (dv_addI (dv_div (hh rfl) dv_int ⟨by decide, by decide⟩) (dv_var rfl (show Da K _ (.int (n : Int)) _ from rfl))) dv_int (by decide)) (by decide +kernel) (at_modN (l := mnop) (by decide) mnop_len)) da_nil)) (Nat.le_of_ble_eq_true rfl)
      · rw [← List.map_append] at own6
        refine last ((s03.trans own3.r).trans ((s4.trans s5).trans s6)) own6 ?_ ?_
        · rw [rowUp_succ]
          unfold rowStep
          rw [if_pos e, List.append_assoc]
        · rw [List.length_append]
          omega
    · have e : ¬ drawn m j % 5 = 0 := of_decide_eq_false e
      refine s_next (last (pre := rowUp m j) s03 (own4.mono s5) ?_ (by omega))
      rw [rowUp_succ]
      unfold rowStep
      rw [if_neg e]
      rfl
  · rintro σ' H3 ⟨l3, o4, o5, o6, rfl, H03, s03, own3⟩
    exact ⟨_, rfl, q _ H3 (s03.trans own3.r) own3.da⟩
end
end Sc

namespace Sc
open PySem PySem.Spec PyProof.Rows L2
def A_law_text (ds : List PyData) (d : PyData) : Prop := ∃ r : List One, ds = [.list (r.map One.d)] ∧ (∀ o ∈ r, o.ok) ∧ (rowT r).length ≤ 10000 ∧ r.length ≤ 10000 ∧ d = .str (mkS (rowT r))
theorem repl_hat (c : Nat) : Txt.replace ⟨#[c]⟩ "^" "^^" = mkS (One.sign c).t := by
  refine StrLaws.mk_of_toList ?_
  rw [StrLaws.replace_list (by decide)]
  show StrLaws.replL [94] [94, 94] [c] = (if c = 94 then [94, 94] else [c])
  by_cases h : c = 94
  · subst h
    rfl
  · rw [if_neg h, StrLaws.replL_miss (fun z => h (by simpa using z))]
    rfl
theorem join_rows (r : List One) : Txt.join "" (r.map fun o => mkS o.t) = mkS (rowT r) := by
  rw [TL.join_eq]
  refine StrLaws.mk_of_toList ?_
  rw [show (Str.join "" (r.map fun o => mkS o.t)).cps.toList = TL.tl (Str.join "" (r.map fun o => mkS o.t)) from rfl, TL.tl_join, List.map_map]
  have key : ∀ l : List (List Nat), TL.joinL [] l = l.flatten := fun l => by
    induction l with
    | nil => rfl
    | cons a l ih =>
      cases l with
      | nil => show a = a ++ []; rw [List.append_nil]
      | cons b l => show a ++ ([] ++ TL.joinL [] (b :: l)) = a ++ (b :: l).flatten; rw [ih, List.nil_append]
  show TL.joinL [] _ = rowT r
  rw [key]
  rfl
section
variable {P : Program} {w : World} {K : PySem.W.Frag} {mg : Str → Option Value} {base : Heap}
theorem sc__law_text : FnScope ["row", "found", "one", "n"] ["row"] (defScope s__law_text) := ⟨rfl, rfl, rfl, by decide +kernel, rfl, by decide +kernel, by decide +kernel⟩
theorem c__law_text (T : GT K mg) : Cal P w K mg base CX0 1 "_law_text" ["row"] (spF K 1 A_law_text) := by
  refine cal_F T.f__law_text T.g__law_text sc__law_text rfl (fun _ _ _ _ _ _ us hl => match us, hl with | [_], _ => rfl) fun f cdv A' outer s H vs Q E F ds d hr hf hl ha q => ?_
  obtain ⟨r, rfl, hok, hlen, hrl, rfl⟩ := ha
  obtain ⟨v, rfl, hv⟩ := dal1 hl
  refine ⟨_, (pss_cons (pS 1 sc__law_text.nd (pe_lst pa_nil))
      (pss_cons (ps_for PassesOwn.never rfl (ki_list K (pv 0)) (pG 2 sc__law_text.nd) (pss_one (ps_ifK (keq K hr.units) (pe_ix (kix K) (pv 2) pe_int (fun _ _ => rfl)) (CwR.psst_one (pst_appK (pv 1) (CwR.pet_replC (pe_ix (kix K) (pv 2) pe_int (fun _ _ => rfl))))) (PSsT.of (pss_one (ps_if (pt_cmpR (keq K hr.units) (pe_ix (kix K) (pv 2) pe_int (fun _ _ => rfl)) pe_str (nomark _)) (pss_one (ps_expr (kbm K PySem.F.plainAttrs_list PySem.F.slot_list_append PySem.F.type_list_append mt_append (pv 1) (pa_cons pe_str pa_nil)))) (pss_one (ps_if (pt_cmpR (kmem K) (pe_ix (kix K) (pv 2) pe_int (fun _ _ => rfl)) pe_str rfl) (pss_one (ps_expr (kbm K PySem.F.plainAttrs_list PySem.F.slot_list_append PySem.F.type_list_append mt_append (pv 1) (pa_cons (pe_op (kplus K) pe_str (pe_ix (kix K) (pv 2) pe_int (fun _ _ => rfl))) pa_nil)))) (pss_one (ps_expr (kbm K PySem.F.plainAttrs_list PySem.F.slot_list_append PySem.F.type_list_append mt_append (pv 1) (pa_cons (pe_op (kplus K) (pe_op (kplus K) (pe_op (kplus K) (pe_op (kplus K) pe_str (pe_ix (kix K) (pv 2) pe_int (fun _ _ => rfl))) pe_str) (kbm K PySem.F.plainAttrs_str PySem.F.slot_str_join PySem.F.type_str_join (kjoin K) pe_str (pa_cons (pe_lc (own := [("n", 3)]) rfl sc__law_text.nd (ki_tup K (pe_ix (kix K) (pv 2) pe_int (fun _ _ => rfl))) (blkOk_by (own := [("n", 3)]) (N := ["row", "found", "one", "n"]) (sc := defScope s__law_text) (by decide +kernel)) (fun _ _ _ _ _ => by exact (pG 3 sc__law_text.nd)) (fun _ _ _ _ _ => by exact pts_nil) (fun _ _ _ _ _ => by exact (pe_callTy call_str_int (by rfl) T.z_str (by decide +kernel) (pa_cons (pv 3) pa_nil)))) pa_nil))) pe_str) pa_nil))))))))))))
      (pss_one (ps_ret (kbm K PySem.F.plainAttrs_str PySem.F.slot_str_join PySem.F.type_str_join (kjoin K) pe_str (pa_cons (pv 1) pa_nil)))))), ?_⟩
  refine s_seq (s_own (R := Same) (K := K) (F := F) (ds := []) da_nil hf (by decide) fun l H0 H1 s0 own xo => ?_)
  have hv1 := (r_da (R := Same) s0 hv).mono xo
  refine s_seq (s_forL (R := Same) (K := K) (F := l :: F) (dv_var rfl hv1) own.fd2 fun H2 s2 f2 =>
    ⟨fun j σ' H' => (∃ o p, σ' = [some v, some (.ref l), o, p]) ∧ Own Same K F H0 H' l ((r.take j).map fun o => .str (mkS o.t)) ∧ Xt (hid (l :: F) H2) (hid (l :: F) H'), ⟨⟨_, _, rfl⟩, by rw [List.take_zero]; exact own.mono s2, fun _ _ e _ => e⟩, fun j σ' H' p => p.2.2, ?_, ?_⟩)
  · rintro j σ' H3 d u hj ⟨⟨o, p, rfl⟩, own3, x3⟩ gu
    rw [List.getElem?_map] at hj
    cases hx : r[j]? with
    | none => rw [hx] at hj; cases hj
    | some on =>
      rw [hx] at hj
      cases hj
      have ho := hok on (List.mem_of_getElem? hx)
      have et : (r.take (j + 1)).map (fun o => PyData.str (mkS o.t)) = (r.take j).map (fun o => PyData.str (mkS o.t)) ++ [.str (mkS on.t)] := by
        rw [List.take_add_one, hx, List.map_append]
        rfl
      have lj : ((r.take j).map fun o => PyData.str (mkS o.t)).length < sizeLine := by
        rw [List.length_map, List.length_take, sizeLine_eq]
        omega
      have push : ∀ {nxt bk ct : L2.St → Hp → Prop} {rt : VK} {H4 : Hp} {te : TE}, Same H3 H4 → DV Same K (l :: F) te [some v, some (.ref l), some u, p] H4 (.str (mkS on.t)) → (∀ H5, ((∃ o p', [some v, some (.ref l), some u, p] = [some v, some (V.ref l), o, p']) ∧ Own Same K F H0 H5 l ((r.take (j + 1)).map fun o => .str (mkS o.t)) ∧ Xt (hid (l :: F) H2) (hid (l :: F) H5)) → nxt [some v, some (.ref l), some u, p] H5) →
          tDrop (tBM K "list" rAppend (tVar 1) (tCons te tNil)) ⟨nxt, rt, bk, ct⟩ [some v, some (.ref l), some u, p] H4 := fun {nxt bk ct rt H4 te} s4 h k =>
        s_push (own3.mono s4) rfl h lj fun H5 own5 x5 => k H5 ⟨⟨_, _, rfl⟩, by rw [et]; exact own5, (x3.trans (hid_xt (xt_of s4))).trans x5⟩
      have no0 : ∀ {σ : L2.St} {H3 : Hp} {x : Str} {ds : List PyData} {y : Str} {b : Bool}, σ[2]? = some (some u) → Da K (hid (l :: F) H3) (.tuple (.str x :: ds)) u → decide (x = y) = b → DT Same (l :: F) (tTest (tOp (rEqA K) (tOp (rIx K) (tVar 2) (tC (V.int 0))) (tC (V.str y)))) σ H3 b := fun h1 h2 e => dt_is (dt_test (K := K) (dv_eqS (dv_ixT (dv_var h1 h2) dv_int (atI_nat (j := 0) rfl)) dv_str)) e
      have f3 := own3.fd2
      have i1 : ∀ {H5 : Hp} {c : Nat} {x : Str} {ds : List PyData}, Same H3 H5 → Da K (hid (l :: F) H3) (.tuple (.str x :: .str ⟨#[c]⟩ :: ds)) u → DV Same K (l :: F) (tOp (rIx K) (tVar 2) (tC (V.int 1))) [some v, some (.ref l), some u, p] H5 (.str (mkS [c])) := fun s5 g => dv_ixT (dv_var rfl (r_da (R := Same) s5 g)) dv_int (atI_nat (j := 1) rfl)
      cases on with
      | sign c =>
        refine s_if (R := Same) (F := l :: F) (no0 rfl gu (by decide +kernel : _ = true)) f3 (fun _ H4 s4 => ?_) fun z => nomatch z
        refine push s4 (dv_is (dv_replC (i1 s4 gu) ?_) ?_) fun H5 h5 => h5
        · rw [mkS_len]
          exact Nat.le_of_ble_eq_true rfl
        · rw [show mkS [c] = (⟨#[c]⟩ : Str) from rfl, repl_hat]
      | endl =>
        refine s_if (R := Same) (F := l :: F) (no0 rfl gu (by decide +kernel : _ = false)) f3 (fun z => nomatch z) fun _ H4 s4 => ?_
        refine s_if (R := Same) (F := l :: F) (no0 rfl (r_da (R := Same) s4 gu) (by decide +kernel : _ = true)) (r_fd (R := Same) s4 f3) (fun _ H5 s5 => ?_) fun z => nomatch z
        exact push (s4.trans s5) dv_str fun H5 h5 => h5
      | small c =>
        refine s_if (R := Same) (F := l :: F) (no0 rfl gu (by decide +kernel : _ = false)) f3 (fun z => nomatch z) fun _ H4 s4 => ?_
        refine s_if (R := Same) (F := l :: F) (no0 rfl (r_da (R := Same) s4 gu) (by decide +kernel : _ = false)) (r_fd (R := Same) s4 f3) (fun z => nomatch z) fun _ H5 s5 => ?_
        have s45 := s4.trans s5
        refine s_if (R := Same) (F := l :: F) (b := true) (dt_is (dt_test (K := K) (dv_inS (i1 s45 gu) dv_str)) (by rw [in_small]; exact ho)) (r_fd (R := Same) s45 f3) (fun _ H6 s6 => ?_) fun z => nomatch z
        exact push (s45.trans s6) (dv_is (dv_addS (dv_str (x := mkS [94])) (i1 (s45.trans s6) gu) (Nat.le_of_ble_eq_true rfl)) (by rw [mkS_app]; rfl)) fun H5 h5 => h5
      | great c ns =>
        refine s_if (R := Same) (F := l :: F) (no0 rfl gu (by decide +kernel : _ = false)) f3 (fun z => nomatch z) fun _ H4 s4 => ?_
        refine s_if (R := Same) (F := l :: F) (no0 rfl (r_da (R := Same) s4 gu) (by decide +kernel : _ = false)) (r_fd (R := Same) s4 f3) (fun z => nomatch z) fun _ H5 s5 => ?_
        have s45 := s4.trans s5
        have ns0 : isSmall c = false := by
          have := great_b ho.1
          unfold isSmall
          rw [decide_eq_false (by omega : ¬ 97 ≤ c)]
          rfl
        refine s_if (R := Same) (F := l :: F) (b := false) (dt_is (dt_test (K := K) (dv_inS (i1 s45 gu) dv_str)) (by rw [in_small]; exact ns0)) (r_fd (R := Same) s45 f3) (fun z => nomatch z) fun _ H6 s6 => ?_
        have s46 := s45.trans s6
        have tg := t_len ho
        have tg : ([94, c, 40] ++ comma (ns.map numS) ++ [41]).length ≤ 24 := tg
        simp only [List.length_append, List.length_cons, List.length_nil] at tg
        refine push s46 (dv_is (dv_addS (dv_is (dv_addS (dv_is (dv_addS (dv_is (dv_addS (dv_str (x := mkS [94])) (i1 s46 gu) (Nat.le_of_ble_eq_true rfl)) (by rw [mkS_app])) (dv_str (x := mkS [40])) (Nat.le_of_ble_eq_true rfl)) (by rw [mkS_app])) (dv_joinN (i := 3) (dv_ixT (dv_var rfl (r_da (R := Same) s46 gu)) dv_int (atI_nat (j := 2) rfl)) ho.2.2 ho.2.1 (fun _ => rfl) (fun _ => rfl)) (le_sz' ?_)) (by rw [mkS_app])) (dv_str (x := mkS [41])) (le_sz' ?_)) (by rw [mkS_app]; congr 1)) fun H5 h5 => h5
        all_goals (simp only [mkS_len, List.length_append, List.length_cons, List.length_nil]; omega)
  · rintro σ' H3 ⟨⟨o, p, rfl⟩, own3, x3⟩
    rw [List.length_map, List.take_length] at own3
    have hsum : ∀ l : List One, ((l.map fun o => mkS o.t).map (·.length)).sum = (rowT l).length := fun l => by
      induction l with
      | nil => rfl
      | cons a l ih =>
        show (mkS a.t).length + ((l.map fun o => mkS o.t).map (·.length)).sum = (a.t ++ rowT l).length
        rw [List.length_append, mkS_len, ih]
    refine s_ret (R := Same) (K := K) (F := F) (dv_is (dv_join (ys := r.map fun o => mkS o.t) dv_str (dv_is (dv_var rfl own3.da) (by rw [List.map_map]; rfl)) ?_) (by rw [join_rows])) own3.fd1 fun v H4 s4 g => q v H4 ((s0.trans own3.r).trans s4) g
    rw [hsum, show (Str.ofString "").length = 0 from rfl]
    omega
end
end Sc

namespace Sc
open PySem PySem.Spec PyProof.Rows L2
def brokens : List (List Nat) := [[94], [94, 65], [94, 71, 40], [94, 71, 40, 49], [94, 71, 40, 49, 44], [94, 71, 40, 49, 50, 51, 52], [94, 90, 40, 49, 44, 50, 44, 51, 44, 52], [94, 78, 40, 57, 57, 57, 57], [94, 88, 40, 48]]
def brokenOf (m : Int) : List Nat := brokens.getD (m % 9).toNat []
theorem brokenOf_mem (m : Int) : brokenOf m ∈ brokens := getD_mem (mod_lt_nat (n := 9) (by decide))
def A_law_broken (ds : List PyData) (d : PyData) : Prop := ∃ m : Int, ds = [.int m] ∧ d = .tuple [.str (mkS (brokenOf m)), .int ((brokenOf m).length : Int)]
theorem broken_len : ∀ b ∈ brokens, b.length ≤ 10 := by decide
theorem broken_signs : ∀ b ∈ brokens, ∀ c ∈ b, isSign c = true := by decide
/-- signs that break, and the line end that breaks them -/
theorem feed_broken {k : Int} {b : List Nat} (h : b ∈ brokens) : Beg.no.feed k (b ++ [10]) = (.no, k + (b.length : Int), [tEnd]) := by
  simp only [brokens, List.mem_cons, List.not_mem_nil, or_false] at h
  rcases h with rfl | rfl | rfl | rfl | rfl | rfl | rfl | rfl | rfl <;> rfl
section
variable {P : Program} {w : World} {K : PySem.W.Frag} {mg : Str → Option Value} {base : Heap}
theorem sc__law_broken : FnScope ["more", "some", "found"] ["more"] (defScope s__law_broken) := ⟨rfl, rfl, rfl, by decide +kernel, rfl, by decide +kernel, by decide +kernel⟩
theorem c__law_broken (T : GT K mg) : Cal P w K mg base CX0 1 "_law_broken" ["more"] (spF K 1 A_law_broken) := by
  refine cal_F T.f__law_broken T.g__law_broken sc__law_broken rfl (fun _ _ _ _ _ _ us hl => match us, hl with | [_], _ => rfl) fun f cdv A' outer s H vs Q E F ds d hr hf hl ha q => ?_
  obtain ⟨m, rfl, rfl⟩ := ha
  obtain ⟨v, rfl, hv⟩ := dal1 hl
  have hv : v = .int m := hv
  subst hv
  refine ⟨_, (pss_cons (pS 1 sc__law_broken.nd (pe_lst (pa_cons pe_str (pa_cons pe_str (pa_cons pe_str (pa_cons pe_str (pa_cons pe_str (pa_cons (pe_slice (ksl K) pe_str po_none (po_some pe_int)) (pa_cons pe_str (pa_cons pe_str (pa_cons pe_str pa_nil)))))))))))
      (pss_cons (pS 2 sc__law_broken.nd (pe_ix (kix K) (pv 1) (pe_op op_mod (pv 0) (pe_callB (klen K) (by rfl) T.z_len (by decide +kernel) (pa_cons (pv 1) pa_nil))) (fun _ _ => rfl)))
      (pss_one (ps_ret (pe_tup (pa_cons (pv 2) (pa_cons (pe_callB (klen K) (by rfl) T.z_len (by decide +kernel) (pa_cons (pv 2) pa_nil)) pa_nil))))))), ?_⟩
  refine s_seq (s_set (R := Same) (K := K) (F := F) (d := .list (brokens.map fun b => .str (mkS b))) (dv_lst (da_cons dv_str (da_cons dv_str (da_cons dv_str (da_cons dv_str (da_cons dv_str (da_cons (dv_is (dv_slS dv_str do_none (do_some (K := K) dv_int) (by decide +kernel)) rfl) (da_cons dv_str (da_cons dv_str (da_cons dv_str da_nil))))))))) (by decide)) hf fun v H1 s1 g => ?_)
  have f1 := r_fd (R := Same) s1 hf
  refine s_seq (s_set (R := Same) (K := K) (F := F) (d := .str (mkS (brokenOf m))) (dv_ixL (dv_var rfl g) (dv_mod (j := 9) (dv_var rfl (show Da K _ (.int m) _ from rfl)) (dv_lenL (dv_var rfl g)) (by decide)) ?_) f1 fun v2 H2 s2 g2 => ?_)
  · have := at_modG (l := brokens.map fun b => PyData.str (mkS b)) (x := m) (n := 9) .none (by decide) rfl
    rw [this]
    congr 1
    unfold brokenOf
    rw [List.getD_eq_getElem?_getD, List.getElem?_map, List.getD_eq_getElem?_getD, List.getElem?_eq_getElem (show (m % 9).toNat < brokens.length from mod_lt_nat (n := 9) (by decide))]
    rfl
  have g2 : v2 = .str (mkS (brokenOf m)) := g2
  subst g2
  have bl := broken_len _ (brokenOf_mem m)
  refine s_ret (R := Same) (K := K) (F := F) (d := .tuple [.str (mkS (brokenOf m)), .int ((brokenOf m).length : Int)]) (dv_tup (da_cons (dv_var rfl (show Da K _ (.str (mkS (brokenOf m))) _ from rfl)) (da_cons (dv_is (dv_lenS (dv_var rfl (show Da K _ (.str (mkS (brokenOf m))) _ from rfl)) (le_sz (by rw [mkS_len]; omega))) (by rw [mkS_len])) da_nil)) (Nat.le_of_ble_eq_true rfl)) (r_fd (R := Same) s2 f1) fun v H3 s3 g => q v H3 ((s1.trans s2).trans s3) g
end
/-! ### what the law of k10 has drawn -/
def kRow (m : Int) (j : Nat) : List One := lawRow (drawn m j) 4 ++ if drawn m j / 8 % 3 = 0 then [.endl] else []
def kText (m : Int) (j : Nat) : List Nat := rowT (lawRow (drawn m j) 4) ++ if drawn m j / 8 % 3 = 0 then brokenOf (drawn m j / 64) ++ [10] else []
def kLost (m : Int) (j : Nat) : Nat := if drawn m j / 8 % 3 = 0 then (brokenOf (drawn m j / 64)).length else 0
def kRows (m : Int) : Nat → List One
  | 0 => []
  | n + 1 => kRows m n ++ kRow m n
def kTexts (m : Int) : Nat → List Nat
  | 0 => []
  | n + 1 => kTexts m n ++ kText m n
def kLosts (m : Int) : Nat → Nat
  | 0 => 0
  | n + 1 => kLosts m n + kLost m n
theorem kRow_ok {m : Int} {j : Nat} : ∀ o ∈ kRow m j, o.ok := fun o ho => by
  unfold kRow at ho
  rcases List.mem_append.mp ho with z | z
  · exact lawRow_ok o z
  · split at z
    · rw [List.mem_singleton.mp z]; trivial
    · cases z
theorem kRows_ok {m : Int} : ∀ {n : Nat}, ∀ o ∈ kRows m n, o.ok
  | 0, o, ho => by cases ho
  | n + 1, o, ho => (List.mem_append.mp ho).elim (kRows_ok o) (kRow_ok o)
theorem kRow_len {m : Int} {j : Nat} : (kRow m j).length ≤ 61 := by
  unfold kRow
  rw [List.length_append]
  have := lawRow_len (m := drawn m j) (many := 4)
  split
  · show _ + 1 ≤ 61; omega
  · show _ + 0 ≤ 61; omega
theorem kRows_len {m : Int} : ∀ n : Nat, (kRows m n).length ≤ 61 * n
  | 0 => Nat.le_refl _
  | n + 1 => by
    show (kRows m n ++ kRow m n).length ≤ _
    rw [List.length_append]
    have := kRows_len (m := m) n
    have := kRow_len (m := m) (j := n)
    omega
theorem kText_len {m : Int} {j : Nat} : (kText m j).length ≤ 163 := by
  unfold kText
  rw [List.length_append]
  have := lawRowT_len (m := drawn m j) (many := 4)
  split
  · rw [List.length_append]
    have := broken_len _ (brokenOf_mem (drawn m j / 64))
    show _ + (_ + 1) ≤ 163
    omega
  · show _ + 0 ≤ 163; omega
theorem kTexts_len {m : Int} : ∀ n : Nat, (kTexts m n).length ≤ 163 * n
  | 0 => Nat.le_refl _
  | n + 1 => by
    show (kTexts m n ++ kText m n).length ≤ _
    rw [List.length_append]
    have := kTexts_len (m := m) n
    have := kText_len (m := m) (j := n)
    omega
theorem kText_signs {m : Int} {j : Nat} : ∀ c ∈ kText m j, isSign c = true := fun c hc => by
  unfold kText at hc
  rcases List.mem_append.mp hc with z | z
  · exact rowT_signs lawRow_ok c z
  · split at z
    · rcases List.mem_append.mp z with z | z
      · exact broken_signs _ (brokenOf_mem _) c z
      · rw [List.mem_singleton.mp z]; rfl
    · cases z
theorem kTexts_signs {m : Int} : ∀ {n : Nat}, ∀ c ∈ kTexts m n, isSign c = true
  | 0, c, hc => by cases hc
  | n + 1, c, hc => (List.mem_append.mp hc).elim (kTexts_signs c) (kText_signs c)
theorem feed_k {m : Int} {j : Nat} {k : Int} : Beg.no.feed k (kText m j) = (.no, k + (kLost m j : Int), (kRow m j).map One.d) := by
  unfold kText kLost kRow
  rw [Beg.feed_app, feed_row lawRow_ok]
  split
  · simp only [feed_broken (brokenOf_mem _), List.map_append]
    rfl
  · simp only [Beg.feed, List.append_nil]
    show (Beg.no, k, _) = (Beg.no, k + 0, _)
    rw [Int.add_zero]
theorem feed_ks {m : Int} {k : Int} : ∀ n : Nat, Beg.no.feed k (kTexts m n) = (.no, k + (kLosts m n : Int), (kRows m n).map One.d)
  | 0 => by
    show (Beg.no, k, _) = (Beg.no, k + 0, _)
    rw [Int.add_zero]
    rfl
  | n + 1 => by
    show Beg.no.feed k (kTexts m n ++ kText m n) = _
    rw [Beg.feed_app, feed_ks n, feed_k]
    simp only [kRows, kLosts, List.map_append, Int.natCast_add]
    rw [Int.add_assoc]
theorem kRowsT_len {m : Int} : ∀ n : Nat, (rowT (kRows m n)).length ≤ 153 * n
  | 0 => Nat.le_refl _
  | n + 1 => by
    show (rowT (kRows m n ++ kRow m n)).length ≤ _
    unfold kRow
    rw [rowT_app, rowT_app, List.length_append, List.length_append]
    have := kRowsT_len (m := m) n
    have := lawRowT_len (m := drawn m n) (many := 4)
    split
    · show _ + (_ + 1) ≤ _; omega
    · show _ + (_ + 0) ≤ _; omega
theorem isText_of {l : List Nat} (h1 : l.length ≤ 4000) (h2 : ∀ c ∈ l, isSign c = true) : isText (.str (mkS l)) = true := by
  show (decide ((mkS l).length ≤ 4000) && (mkS l).cps.toList.all isSign) = true
  rw [mkS_len, decide_eq_true h1, Bool.true_and]
  rw [List.all_eq_true]
  intro c hc
  exact h2 c (by simpa using hc)
theorem told_ok {l : List Nat} {ds : List PyData} (h1 : l.length ≤ 4000) (h2 : ∀ c ∈ l, isSign c = true) (h3 : (Beg.no.feed 0 l).2.2 = ds) : A_told [.str (mkS l)] (.ok (.list ds)) := by
  refine ⟨_, rfl, ?_, ?_⟩
  · show (mkS l).length ≤ sizeLine
    rw [mkS_len]
    exact le_sz' (by omega)
  · show _ = (if isText (.str (mkS l)) = true then _ else _)
    rw [if_pos (isText_of h1 h2)]
    have : tells (mkS l) = ds := by
      unfold tells
      rw [← h3]
    rw [this]
def lefts : List (List Nat) := [[], [94], [94, 71], [94, 71, 40, 49, 44, 50]]
theorem left_feed {k : Int} {l : List Nat} (h : l ∈ lefts) : (Beg.no.feed k l).1.s = mkS l ∧ (Beg.no.feed k l).2.1 = k ∧ (Beg.no.feed k l).2.2 = [] := by
  simp only [lefts, List.mem_cons, List.not_mem_nil, or_false] at h
  rcases h with rfl | rfl | rfl | rfl <;> exact ⟨rfl, rfl, rfl⟩
theorem left_len : ∀ l ∈ lefts, l.length ≤ 6 := by decide
theorem left_signs : ∀ l ∈ lefts, ∀ c ∈ l, isSign c = true := by decide
theorem sh_sign {c : Nat} (h : isSign c = true) : PyData.strOk ⟨#[c]⟩ = true := by
  have hc : c < 0x110000 := by
    unfold isSign at h
    simp at h
    omega
  show (#[c] : Array Nat).all (· < 0x110000) = true
  simp
  exact hc
theorem shl_nums (ns : List Int) : ShL 0 (ns.map PyData.int) := shl_all fun d hd => by
  obtain ⟨n, _, rfl⟩ := List.mem_map.mp hd
  exact sh_int
theorem sh_one {o : One} (h : o.ok) : Sh 2 o.d := by
  cases o with
  | sign c => exact sh_tuple (shl_cons (sh_str (by decide +kernel)) (shl_cons (sh_str (sh_sign h.1)) shl_nil))
  | endl => exact sh_tuple (shl_cons (sh_str (by decide +kernel)) shl_nil)
  | small c => exact sh_tuple (shl_cons (sh_str (by decide +kernel)) (shl_cons (sh_str (sh_sign (sign_of (by have := small_b h; omega)))) (shl_cons (sh_tuple shl_nil) shl_nil)))
  | great c ns => exact sh_tuple (shl_cons (sh_str (by decide +kernel)) (shl_cons (sh_str (sh_sign (sign_of (by have := great_b h.1; omega)))) (shl_cons (sh_tuple (shl_nums ns)) shl_nil)))
theorem sh_row {r : List One} (h : ∀ o ∈ r, o.ok) : Sh 3 (.list (r.map One.d)) := sh_list (shl_all fun d hd => by
  obtain ⟨o, ho, rfl⟩ := List.mem_map.mp hd
  exact sh_one (h o ho))
theorem eqv_self {n : Nat} {d : PyData} (h : Sh n d) : PyData.eqv d d = true := SeqAt.eqv_refl d h.1
end Sc

namespace Sc
open PySem PySem.Spec PyProof.Rows L2
abbrev lamQ (x : Str) : Str := (x ++ ".<locals>.") ++ "<lambda>"
abbrev lawDs : List He.Defn := [("law", none)]
abbrev lawTs (K : PySem.W.Frag) : List (Addr × Str) := lawDs.map fun p => ((He.cT K p).2, lamQ p.1)
abbrev TabsB (K : PySem.W.Frag) (base : Heap) (mg : Str → Option Value) : Prop := ∀ p ∈ lawDs, LamX.TabB base mg (He.cT K p).1 (He.cT K p).2
theorem law_in : (("law", none) : He.Defn) ∈ lawDs := by decide
theorem mkS_cps (l : List Nat) : (mkS l).cps.toList = l := rfl
theorem cut_take {l : List Nat} {n : Nat} : cutS (mkS l) none (some (n : Int)) = mkS (l.take n) := by
  unfold cutS
  rw [HT.sIx_none, HT.sIx_nat, mkS_len]
  show mkS _ = mkS _
  congr 1
  rw [List.drop_zero, Nat.sub_zero, Nat.min_comm, ← List.take_take, mkS_cps, List.take_of_length_le]
  rw [List.length_take]
  omega
theorem cut_drop {l : List Nat} {n : Nat} : cutS (mkS l) (some (n : Int)) none = mkS (l.drop n) := by
  unfold cutS
  rw [HT.sIx_none, HT.sIx_nat, mkS_len]
  show mkS _ = mkS _
  congr 1
  rw [List.take_of_length_le (by rw [List.length_drop]; exact Nat.le_refl _)]
  by_cases h : n ≤ l.length
  · rw [Nat.min_eq_left h]
  · rw [Nat.min_eq_right (by omega), List.drop_length, List.drop_of_length_le (by omega)]
theorem text_sm {l : List Nat} (h : l.length ≤ 4000) : textSm (.str (mkS l)) := by
  show (mkS l).length ≤ sizeLine
  rw [mkS_len]
  exact le_sz' (by omega)
section
variable {P : Program} {w : World} {K : PySem.W.Frag} {mg : Str → Option Value} {base : Heap}
theorem sc_law : FnScope ["script", "k", "more", "row", "text", "lost", "j", "here", "some", "broken", "many", "left", "reader", "found", "rest", "turn", "size"] ["script"] (defScope s_law) := ⟨rfl, rfl, rfl, by decide +kernel, rfl, by decide +kernel, by decide +kernel⟩
theorem c_law (T : GT K mg) (TBs : TabsB K base mg) {fd : FuncData} (FD : FunD K "law" "law" (defArgs s_law) (defBody s_law) (defScope s_law) [] [] (lawA K) fd) : FnOk P w K mg base CX0 9 (lawA K) fd ["script"] (spLaw K (lawTs K)) := by
  refine fn_lam FD sc_law (fun vs H Q E h => ?_) (fun vs H Q E h => h) fun A outer s H vs Q hr h => ?_
  · obtain ⟨a, ns, rfl, _⟩ := h
    rfl
  obtain ⟨a, ns, rfl, hS, hlen, hbits, hT, q⟩ := h
  have TB := TBs _ law_in
  have hmT : (lawP K "law", lamQ "law") ∈ lawTs K := List.mem_cons_self
  have hu : ∀ p ∈ lawTs K, p.1 = lawP K "law" → p.2 = lamQ "law" := fun p hp _ => by
    rw [List.mem_singleton.mp hp]
  refine ⟨_, (pss_cons (ps_for PassesOwn.never rfl (pi_range1 (by rfl) T.z_range (pa_cons (pe_callB (call_max2 rfl) (by rfl) T.z_max (by decide +kernel) (pa_cons pe_int (pa_cons (pe_callB (call_min2 rfl) (by rfl) T.z_min (by decide +kernel) (pa_cons pe_int (pa_cons (pe_callB (klen K) (by rfl) T.z_len (by decide +kernel) (pa_cons (pv 0) pa_nil)) pa_nil))) pa_nil))) pa_nil)) (pG 1 sc_law.nd) (pss_cons (pS 2 sc_law.nd (pe_cal (c__law_drawn T) (hr.mono (by decide)) pass0 (pa_cons (pe_cal (c__law_cell T) (hr.mono (by decide)) pass0 (pa_cons (pv 0) (pa_cons (pv 1) pa_nil))) (pa_cons (pv 1) pa_nil))))
      (pss_cons (ps_asg (pe_tup (pa_cons (pe_lst pa_nil) (pa_cons pe_str (pa_cons pe_int pa_nil)))) (kg_tup K 3 (pgs_cons (pG 3 sc_law.nd) (pgs_cons (pG 4 sc_law.nd) (pgs_cons (pG 5 sc_law.nd) pgs_nil)))))
      (pss_cons (ps_for PassesOwn.never rfl (pi_range1 (by rfl) T.z_range (pa_cons (pe_op op_mod (pv 2) pe_int) pa_nil)) (pG 6 sc_law.nd) (pss_cons (pS 7 sc_law.nd (pe_cal (c__law_drawn T) (hr.mono (by decide)) pass0 (pa_cons (pv 2) (pa_cons (pv 6) pa_nil))))
      (pss_cons (pS 8 sc_law.nd (pe_cal (c__law_row T) (hr.mono (by decide)) pass0 (pa_cons (pv 7) (pa_cons pe_int pa_nil))))
      (pss_cons (ps_asg (pe_tup (pa_cons (pe_op (kplus K) (pv 3) (pv 8)) (pa_cons (pe_op (kplus K) (pv 4) (pe_cal (c__law_text T) (hr.mono (by decide)) pass0 (pa_cons (pv 8) pa_nil))) pa_nil))) (kg_tup K 2 (pgs_cons (pG 3 sc_law.nd) (pgs_cons (pG 4 sc_law.nd) pgs_nil))))
      (pss_one (ps_if (pt_cmpR (keq K hr.units) (pe_op op_mod (pe_op op_fdivW (pv 7) pe_int) pe_int) pe_int (nomark _)) (pss_cons (ps_asg (pe_cal (c__law_broken T) (hr.mono (by decide)) pass0 (pa_cons (pe_op op_fdivW (pv 7) pe_int) pa_nil)) (kg_tup K 2 (pgs_cons (pG 9 sc_law.nd) (pgs_cons (pG 10 sc_law.nd) pgs_nil))))
      (pss_cons (pS 4 sc_law.nd (pe_op (kplus K) (pe_op (kplus K) (pv 4) (pv 9)) pe_str))
      (pss_cons (pS 5 sc_law.nd (pe_op (kplus K) (pv 5) (pv 10)))
      (pss_one (pS 3 sc_law.nd (pe_op (kplus K) (pv 3) (pe_lst (pa_cons (pe_tup (pa_cons pe_str pa_nil)) pa_nil)))))))) pss_nil))))))
      (pss_cons (ps_if (PW.pt (pw_or (pt_cmpR (kne K hr.units) (told_at T (k := 5) TB rfl hmT hu (hr.mono (by decide)) (by decide) (by rfl) (by show LamX.lamSB (defScope s_law) _ = true; decide +kernel) rfl (fun _ _ _ _ _ => rfl) (fun A' outer s H E f c' hr => by exact (pe_cal (c_written T) (hr.mono (by decide)) pass0 (pa_cons (pv 3) pa_nil)))) (pe_cal (c__law_text T) (hr.mono (by decide)) pass0 (pa_cons (pv 3) pa_nil)) (nomark _)) (pw_or1 (pt_cmpR (kne K hr.units) (pe_cal (c_told T) (hr.mono (by decide)) passN0 (pa_cons (pe_cal (c__law_text T) (hr.mono (by decide)) pass0 (pa_cons (pv 3) pa_nil)) pa_nil)) (pv 3) (nomark _))))) (pss_one (ps_ret pe_bl)) pss_nil)
      (pss_cons (pS 11 sc_law.nd (pe_ix (kix K) (pe_lst (pa_cons pe_str (pa_cons pe_str (pa_cons pe_str (pa_cons pe_str pa_nil))))) (pe_op op_mod (pe_op op_fdivW (pv 2) pe_int) pe_int) (fun _ _ => rfl)))
      (pss_cons (pS 12 sc_law.nd (pe_mk0 K (ci_Reader T) T.k_Reader T.g_Reader (hr.mono (by decide)) pass0))
      (pss_cons (pS 13 sc_law.nd (pe_lst pa_nil))
      (pss_cons (pS 14 sc_law.nd (pe_op (kplus K) (pv 4) (pv 11)))
      (pss_cons (pS 15 sc_law.nd pe_int)
      (pss_cons (ps_while PassesOwn.never (pt_cmpR (kne K hr.units) (pv 14) pe_str (nomark _)) (pss_cons (pS 16 sc_law.nd (pe_op (kplus K) pe_int (pe_op op_mod (pe_cal (c__law_drawn T) (hr.mono (by decide)) pass0 (pa_cons (pv 2) (pa_cons (pe_op (kplus K) pe_int (pv 15)) pa_nil))) (pe_ix (kix K) (pe_lst (pa_cons pe_int (pa_cons pe_int (pa_cons pe_int pa_nil)))) (pe_op op_mod (pe_op op_fdivW (pv 2) pe_int) pe_int) (fun _ _ => rfl)))))
      (pss_cons (pS 13 sc_law.nd (pe_op (kplus K) (pv 13) (told_at T (k := 5) TB rfl hmT hu (hr.mono (by decide)) (by decide) (by rfl) (by show LamX.lamSB (defScope s_law) _ = true; decide +kernel) rfl (fun _ _ _ _ _ => rfl) (fun A' outer s H E f c' hr => by exact (pe_cm K (cm_Reader_feed T) (hr.mono (by decide)) (passX rfl rfl rfl rfl) (pv 12) (pa_cons (pe_slice (ksl K) (pv 14) po_none (po_some (pv 16))) pa_nil))))))
      (pss_cons (pS 14 sc_law.nd (pe_slice (ksl K) (pv 14) (po_some (pv 16)) po_none))
      (pss_one (pS 15 sc_law.nd (pe_op (kplus K) (pv 15) pe_int)))))))
      (pss_one (ps_if (PW.pt (pw_or (pt_cmpR (kne K hr.units) (pv 13) (pv 3) (nomark _)) (pw_or (pt_cmpR (kne K hr.units) (pe_cal (c_told T) (hr.mono (by decide)) passN0 (pa_cons (pe_op (kplus K) (pv 4) (pv 11)) pa_nil)) (pv 3) (nomark _)) (pw_or (pt_cmpR (kne K hr.units) (pe_cm0 K (cm_Reader_left T) (hr.mono (by decide)) pass0 (pv 12)) (pv 11) (nomark _)) (pw_or1 (pt_cmpR (kne K hr.units) (pe_cm0 K (cm_Reader_dropped T) (hr.mono (by decide)) pass0 (pv 12)) (pv 5) (nomark _))))))) (pss_one (ps_ret pe_bl)) pss_nil)))))))))))))
      (pss_one (ps_ret pe_bl))), ?_⟩
  have hS' : ∀ {H'}, RT (lawTs K) H H' → SqL K H' a (ns.map V.int) := fun r => xt_sqL r.1 hS
  have fn : ∀ {H'}, Fd [] H' := Fd.nil
  refine s_seq (s_forR (R := RT (lawTs K)) (K := K) (F := []) (dv_max dv_int (dv_min dv_int (dv_lenSc rfl hS))) fn (by omega) (by omega) fun H0 r0 _ =>
    ⟨fun j σ' H' => RT (lawTs K) H H' ∧ ∃ o1 o2 o3 o4 o5 o6 o7 o8 o9 oa ob oc od oe of og, σ' = [some (.ref a), o1, o2, o3, o4, o5, o6, o7, o8, o9, oa, ob, oc, od, oe, of, og], ⟨r0, _, _, _, _, _, _, _, _, _, _, _, _, _, _, _, _, rfl⟩, ?_, ?_⟩)
  · rintro k σ' H1 hk ⟨r1, o1, o2, o3, o4, o5, o6, o7, o8, o9, oa, ob, oc, od, oe, of, og, rfl⟩
    have hk63 : k ≤ 63 := by omega
    have hT1 := r1.2 hT
    -- more
    refine s_seq (s_set (R := RT (lawTs K)) (K := K) (F := []) (d := .int (drawn (cellOf ns k) k)) (dv_call (da_cons (dv_lawcell rfl (hS' r1) (dv_var rfl (show Da K _ (.int (k : Int)) _ from rfl)) hk63 hlen) (da_cons (dv_var rfl (show Da K _ (.int (k : Int)) _ from rfl)) da_nil)) (sd_F ⟨_, _, rfl, rfl⟩ rfl)) fn fun v H2 r2 g => ?_)
    have g : v = .int (drawn (cellOf ns k) k) := g
    subst g
    obtain ⟨m, hm⟩ : ∃ m, m = drawn (cellOf ns k) k := ⟨_, rfl⟩
    rw [← hm]
    -- row, text, lost
    refine s_seq (s_unT (R := RT (lawTs K)) (K := K) (F := []) (ds := [.list [], .str "", .int 0]) (by walk_at "dv") fn rfl fun vs H3 r3 g3 => ?_)
    obtain ⟨v1, _, rfl, g1, v2, _, rfl, g2, v3, _, rfl, g3, rfl⟩ := g3
    have g2 : v2 = .str "" := g2
    have g3 : v3 = .int 0 := g3
    subst g2 g3
    refine ⟨v1, _, rfl, _, _, rfl, _, _, rfl, rfl, ?_⟩
    have m8 := mod_lt_nat (x := m) (n := 8) (by decide)
    have m80 := Int.emod_nonneg m (show (8 : Int) ≠ 0 by decide)
    have e8 : (8 : Int).toNat = 8 := rfl
    have r13 : RT (lawTs K) H H3 := ROk.trans (ROk.trans r1 r2) r3
    refine s_seq (s_forR (R := RT (lawTs K)) (K := K) (F := []) (n := m % 8) (dv_mod (dv_var rfl (show Da K _ (.int m) _ from rfl)) dv_int (by decide)) fn (by omega) (by omega) fun H4 r4 _ =>
      ⟨fun j σ' H' => RT (lawTs K) H3 H' ∧ ∃ vr o6 o7 o8 o9 oa, σ' = [some (.ref a), some (.int (k : Int)), some (.int m), some vr, some (.str (mkS (kTexts m j))), some (.int (kLosts m j : Int)), o6, o7, o8, o9, oa, ob, oc, od, oe, of, og] ∧ Da K (hid [] H') (.list ((kRows m j).map One.d)) vr, ⟨r4, v1, _, _, _, _, _, rfl, r_da r4 g1⟩, ?_, ?_⟩)
    · rintro j σ' H5 hj ⟨r5, vr, o6, o7, o8, o9, oa, rfl, gr⟩
      have hj7 : j ≤ 7 := by omega
      have lr := kRows_len (m := m) j
      have lt := kTexts_len (m := m) j
      -- here
      refine s_seq (s_set (R := RT (lawTs K)) (K := K) (F := []) (d := .int (drawn m j)) (dv_call (da_cons (dv_var rfl (show Da K _ (.int m) _ from rfl)) (da_cons (dv_var rfl (show Da K _ (.int (j : Int)) _ from rfl)) da_nil)) (sd_F ⟨_, _, rfl, rfl⟩ rfl)) fn fun v H6 r6 g => ?_)
      have g : v = .int (drawn m j) := g
      subst g
      obtain ⟨he, hhe⟩ : ∃ he, he = drawn m j := ⟨_, rfl⟩
      rw [← hhe]
      have gr6 := r_da r6 gr
      have ls := lawRow_len (m := he) (many := 4)
      have lst := lawRowT_len (m := he) (many := 4)
      -- some
      refine s_seq (s_set (R := RT (lawTs K)) (K := K) (F := []) (d := .list ((lawRow he 4).map One.d)) (dv_call (da_cons (dv_var rfl (show Da K _ (.int he) _ from rfl)) (da_cons (dv_int (i := ((4 : Nat) : Int))) da_nil)) (sd_F ⟨_, 4, rfl, by decide, rfl⟩ rfl)) fn fun vs H7 r7 gs => ?_)
      have gr7 := r_da r7 gr6
      -- row, text = ..
      refine s_seq (s_unT (R := RT (lawTs K)) (K := K) (F := []) (ds := [.list ((kRows m j ++ lawRow he 4).map One.d), .str (mkS (kTexts m j ++ rowT (lawRow he 4)))]) (dv_tup (da_cons (dv_is (dv_addL (dv_var rfl gr7) (dv_var rfl gs) (le_sz' (by rw [List.length_map, List.length_map]; omega))) (by rw [List.map_append])) (da_cons (dv_is (dv_addS (dv_var rfl (show Da K _ (.str (mkS (kTexts m j))) _ from rfl)) (dv_call (da_cons (dv_var rfl gs) da_nil) (sd_F ⟨lawRow he 4, rfl, lawRow_ok, by omega, by omega, rfl⟩ rfl)) (le_sz' (by rw [mkS_len, mkS_len]; omega))) (by rw [mkS_app])) da_nil)) (Nat.le_of_ble_eq_true rfl)) fn rfl fun vs8 H8 r8 g8 => ?_)
      obtain ⟨vr8, _, rfl, gr8, vt8, _, rfl, gt8, rfl⟩ := g8
      have gt8 : vt8 = .str (mkS (kTexts m j ++ rowT (lawRow he 4))) := gt8
      subst gt8
      refine ⟨_, _, rfl, _, _, rfl, rfl, ?_⟩
      have r58 : RT (lawTs K) H3 H8 := ROk.trans r5 (ROk.trans r6 (ROk.trans r7 r8))
      refine s_if (R := RT (lawTs K)) (F := []) (dt_test (K := K) (dv_eqI (dv_mod (dv_div (dv_var rfl (show Da K _ (.int he) _ from rfl)) dv_int ⟨by decide, by decide⟩) dv_int (by decide)) dv_int)) fn (fun e H9 r9 => ?_) fun e H9 r9 => ?_
      · have e : he / 8 % 3 = 0 := of_decide_eq_true e
        have gr9 := r_da r9 gr8
        have bl := broken_len _ (brokenOf_mem (he / 64))
        refine s_seq (s_unT (R := RT (lawTs K)) (K := K) (F := []) (ds := [.str (mkS (brokenOf (he / 64))), .int ((brokenOf (he / 64)).length : Int)]) (dv_call (da_cons (dv_div (dv_var rfl (show Da K _ (.int he) _ from rfl)) dv_int ⟨by decide, by decide⟩) da_nil) (sd_F ⟨_, rfl, rfl⟩ rfl)) fn rfl fun vsA HA rA gA => ?_)
        obtain ⟨vb, _, rfl, gb, vm, _, rfl, gm, rfl⟩ := gA
        have gb : vb = .str (mkS (brokenOf (he / 64))) := gb
        have gm : vm = .int ((brokenOf (he / 64)).length : Int) := gm
        subst gb gm
        refine ⟨_, _, rfl, _, _, rfl, rfl, ?_⟩
        refine s_seq (s_set (R := RT (lawTs K)) (K := K) (F := []) (d := .str (mkS (kTexts m (j + 1)))) (dv_is (dv_addS (dv_is (dv_addS (dv_var rfl (show Da K _ (.str (mkS (kTexts m j ++ rowT (lawRow he 4)))) _ from rfl)) (dv_var rfl (show Da K _ (.str (mkS (brokenOf (he / 64)))) _ from rfl)) (le_sz' ?_)) (by rw [mkS_app])) (dv_str (x := mkS [10])) (le_sz' ?_)) ?_) fn fun v HB rB g => ?_)
        · rw [mkS_len, mkS_len, List.length_append]; omega
        · rw [mkS_len, List.length_append, List.length_append]; show _ + 1 ≤ 10000; omega
        · rw [mkS_app]
          show _ = PyData.str (mkS (kTexts m j ++ kText m j))
          unfold kText
          rw [← hhe, if_pos e, List.append_assoc, List.append_assoc]
        have g : v = .str (mkS (kTexts m (j + 1))) := g
        subst g
        refine s_seq (s_set (R := RT (lawTs K)) (K := K) (F := []) (d := .int (kLosts m (j + 1) : Int)) (dv_is (dv_addI (dv_var rfl (show Da K _ (.int (kLosts m j : Int)) _ from rfl)) (dv_var rfl (show Da K _ (.int ((brokenOf (he / 64)).length : Int)) _ from rfl))) ?_) fn fun v HC rC g => ?_)
        · show _ = PyData.int ((kLosts m j + kLost m j : Nat) : Int)
          unfold kLost
          rw [← hhe, if_pos e, Int.natCast_add]
        have g : v = .int (kLosts m (j + 1) : Int) := g
        subst g
        have r9C : RT (lawTs K) H9 HC := ROk.trans rA (ROk.trans rB rC)
        refine s_set (R := RT (lawTs K)) (K := K) (F := []) (d := .list ((kRows m (j + 1)).map One.d)) (dv_is (dv_addL (dv_var rfl (r_da r9C gr9)) (es := [tEnd]) (by walk_at "dv") (le_sz' (by rw [List.length_map, List.length_append]; show _ + 1 ≤ 10000; omega))) ?_) fn fun v HD rD g => ⟨ROk.trans r58 (ROk.trans r9 (ROk.trans r9C rD)), v, _, _, _, _, _, rfl, g⟩
        show _ = PyData.list ((kRows m j ++ kRow m j).map One.d)
        unfold kRow
        rw [← hhe, if_pos e]
        simp only [List.map_append, List.append_assoc]
        rfl
      · have e : ¬ he / 8 % 3 = 0 := of_decide_eq_false e
        have e1 : kTexts m (j + 1) = kTexts m j ++ rowT (lawRow he 4) := by
          show kTexts m j ++ kText m j = _
          unfold kText
          rw [← hhe, if_neg e, List.append_nil]
        have e2 : kLosts m (j + 1) = kLosts m j := by
          show kLosts m j + kLost m j = _
          unfold kLost
          rw [← hhe, if_neg e]
          rfl
        have e3 : kRows m (j + 1) = kRows m j ++ lawRow he 4 := by
          show kRows m j ++ kRow m j = _
          unfold kRow
          rw [← hhe, if_neg e, List.append_nil]
        refine s_next ⟨ROk.trans r58 r9, vr8, _, _, _, _, _, by rw [e1, e2]; rfl, ?_⟩
        rw [e3]
        exact r_da r9 gr8
    · rintro σ' H5 ⟨r5, vr, o6, o7, o8, o9, oa, rfl, gr⟩
      have rn := kRows_ok (m := m) (n := (m % 8).toNat)
      obtain ⟨n, hn⟩ : ∃ n, n = (m % 8).toNat := ⟨_, rfl⟩
      rw [← hn] at gr rn ⊢
      have n7 : n ≤ 7 := by omega
      have lr := kRows_len (m := m) n
      have lt := kTexts_len (m := m) n
      obtain ⟨R1, hR1⟩ : ∃ R1, R1 = kRows m n := ⟨_, rfl⟩
      rw [← hR1] at gr rn lr
      have ltr : (rowT R1).length ≤ 2000 := by
        have := kRowsT_len (m := m) n
        rw [hR1]
        omega
      have ht5 := r5.2 (r13.2 hT)
      have shR := sh_row rn
      -- if told(lambda: written(row)) != ..
      refine s_seq (s_if (R := RT (lawTs K)) (F := []) (b := false) (dt_is (dt_or (a := false) (b := false) (dt_is (dt_test (K := K) (dv_neS (i := mkS (rowT R1)) (dv_told (r := .ok (.str (mkS (rowT R1)))) ht5 (dx_ok (dv_call (da_cons (dv_var rfl gr) da_nil) (sd_F ⟨R1, rfl, rn, by omega, rfl⟩ rfl))) (fun c hc => nomatch hc)) (dv_call (da_cons (dv_var rfl gr) da_nil) (sd_F ⟨R1, rfl, rn, by omega, by omega, rfl⟩ rfl)))) (by simp)) fun _ => dt_is (dt_test (K := K) (dv_ne (dv_callG (d := .list (R1.map One.d)) (da_cons (dv_call (da_cons (dv_var rfl gr) da_nil) (sd_F ⟨R1, rfl, rn, by omega, by omega, rfl⟩ rfl)) da_nil) (told_ok (by omega) (rowT_signs rn) (by rw [feed_row rn])) rfl) (dv_var rfl gr) shR.s shR.s)) (by rw [eqv_self shR]; rfl)) rfl) fn (fun z => nomatch z) fun _ H6 r6 => s_next ?_)
      -- left
      obtain ⟨lf, hlf⟩ : ∃ lf, lf = lefts.getD (m / 8 % 4).toNat [] := ⟨_, rfl⟩
      have lfm : lf ∈ lefts := by
        rw [hlf]
        exact getD_mem (mod_lt_nat (n := 4) (by decide))
      have lfl := left_len _ lfm
      refine s_seq (s_set (R := RT (lawTs K)) (K := K) (F := []) (d := .str (mkS lf)) (dv_ixL (ds := lefts.map fun l => .str (mkS l)) (by show DV _ _ _ _ _ _ (.list [.str (mkS []), .str (mkS [94]), .str (mkS [94, 71]), .str (mkS [94, 71, 40, 49, 44, 50])]); walk_at "dv") (dv_mod (dv_div (dv_var rfl (show Da K _ (.int m) _ from rfl)) dv_int ⟨by decide, by decide⟩) dv_int (by decide)) ?_) fn fun v H7 r7 g => ?_)
      · have := at_modG (l := lefts.map fun b => PyData.str (mkS b)) (x := m / 8) (n := 4) .none (by decide) rfl
        rw [this, hlf]
        congr 1
        rw [List.getD_eq_getElem?_getD, List.getElem?_map, List.getD_eq_getElem?_getD, List.getElem?_eq_getElem (show (m / 8 % 4).toNat < lefts.length from mod_lt_nat (n := 4) (by decide))]
        rfl
      have g : v = .str (mkS lf) := g
      subst g
      -- reader
      refine s_seq (te_Reader fun ra H8 s8 hra rd8 => ?_)
      have gr8 := (r_da (ROk.trans r6 r7) gr).mono (hid_fresh s8 hra)
      have r58 : RT (lawTs K) H5 H8 := ROk.trans r6 (ROk.trans r7 (ROk.same s8))
      have f8 : Fd [ra] H8 := by
        obtain ⟨dx, h⟩ := rd8
        exact Fd.nil.put h trivial
      have x78 : Xt H7 H8 := xt_of s8
      have tab7 := (ROk.trans r6 r7 : RT (lawTs K) H5 H7).2 ht5
      have tab8 := tab7.ext s8
      obtain ⟨full, hfull⟩ : ∃ full, full = kTexts m n ++ lf := ⟨_, rfl⟩
      have fl : full.length ≤ 2000 := by
        rw [hfull, List.length_append]
        omega
      have fs : ∀ c ∈ full, isSign c = true := fun c hc => by
        rw [hfull] at hc
        exact (List.mem_append.mp hc).elim (kTexts_signs c) (left_signs _ lfm c)
      -- found, rest, turn
      refine s_seq (s_set (R := RT (lawTs K)) (K := K) (F := [ra]) (d := .list []) (dv_lst da_nil (by decide)) f8 fun vf H9 r9 gf => ?_)
      refine s_seq (s_set (R := RT (lawTs K)) (K := K) (F := [ra]) (d := .str (mkS full)) (dv_is (dv_addS (dv_var rfl (show Da K _ (.str (mkS (kTexts m n))) _ from rfl)) (dv_var rfl (show Da K _ (.str (mkS lf)) _ from rfl)) (le_sz' (by rw [mkS_len, mkS_len]; omega))) (by rw [mkS_app, hfull])) (r_fd r9 f8) fun v HA rA g => ?_)
      have g : v = .str (mkS full) := g
      subst g
      refine s_seq (s_set (R := RT (lawTs K)) (K := K) (F := [ra]) (d := .int 0) dv_int (r_fd (ROk.trans r9 rA) f8) fun v HB rB g => ?_)
      have g : v = .int 0 := g
      subst g
      have r8B : RT (lawTs K) H8 HB := ROk.trans r9 (ROk.trans rA rB)
      have rdB : RdAt K HB ra "" 0 := by
        obtain ⟨dx, h⟩ := rd8
        exact ⟨dx, r8B.1 _ _ h fun ps z => by cases z⟩
      refine s_seq (s_while (R := RT (lawTs K)) (fun mm σ' H' => ∃ pre rest vf tn os, pre ++ rest = full ∧ mm = rest.length ∧ σ' = [some (.ref a), some (.int (k : Int)), some (.int m), some vr, some (.str (mkS (kTexts m n))), some (.int (kLosts m n : Int)), o6, o7, o8, o9, oa, some (.str (mkS lf)), some (.ref ra), some vf, some (.str (mkS rest)), some (.int (tn : Int)), os] ∧
        Xt H7 H' ∧ LamX.Tabs (lawTs K) H' ∧ RdAt K H' ra (Beg.no.feed 0 pre).1.s (Beg.no.feed 0 pre).2.1 ∧ Da K (hid [ra] H') (.list (Beg.no.feed 0 pre).2.2) vf) full.length ⟨[], full, vf, 0, _, rfl, rfl, rfl, x78.trans r8B.1, r8B.2 tab8, rdB, r_da (ROk.trans rA rB) gf⟩ ?_)
      rintro mm σ' HC ⟨pre, rest, vf2, tn, os, hpr, rfl, rfl, xC, tabC, ⟨dxC, hoC⟩, gfC⟩
      have fC : Fd [ra] HC := Fd.nil.put hoC trivial
      refine ⟨[ra], !decide (rest = []), fC, dt_is (dt_test (K := K) (dv_neS (dv_var rfl (show Da K _ (.str (mkS rest)) _ from rfl)) dv_str)) (by rw [mkS_nil]), fun e HD rD => ?_, fun e HD rD => ?_⟩
      · have ne : rest ≠ [] := by simpa using e
        have tabD := rD.2 tabC
        have fD := r_fd rD fC
        have gfD := r_da rD gfC
        have hoD : HD ra = some (.ins (He.ga K "Reader") dxC _) := rD.1 _ _ hoC fun ps z => by cases z
        have lrest : rest.length ≤ 2000 := by
          have := congrArg List.length hpr
          rw [List.length_append] at this
          omega
        have lpre : pre.length ≤ 2000 := by
          have := congrArg List.length hpr
          rw [List.length_append] at this
          omega
        -- size
        obtain ⟨md, hmd⟩ : ∃ md : Int, md = ([1, 3, 50] : List Int).getD (m / 64 % 3).toNat 1 := ⟨_, rfl⟩
        have md1 : 1 ≤ md ∧ md ≤ 50 := by
          have h3 : (m / 64 % 3).toNat < 3 := mod_lt_nat (n := 3) (by decide)
          rw [hmd]
          generalize (m / 64 % 3).toNat = i at h3 ⊢
          match i, h3 with
          | 0, _ => decide
          | 1, _ => decide
          | 2, _ => decide
        obtain ⟨sz, hsz⟩ : ∃ sz : Nat, (sz : Int) = 1 + drawn m (100 + (tn : Int)) % md ∧ 1 ≤ sz := by
          have := Int.emod_nonneg (drawn m (100 + (tn : Int))) (show md ≠ 0 by omega)
          exact ⟨(1 + drawn m (100 + (tn : Int)) % md).toNat, by omega, by omega⟩
        obtain ⟨hsz, sz1⟩ := hsz
        refine s_seq (s_set (R := RT (lawTs K)) (K := K) (F := [ra]) (d := .int (sz : Int)) (dv_is (dv_addI dv_int (dv_mod (dv_call (d := .int (drawn m (100 + (tn : Int)))) (da_cons (dv_var rfl (show Da K _ (.int m) _ from rfl)) (da_cons (dv_addI dv_int (dv_var rfl (show Da K _ (.int (tn : Int)) _ from rfl))) da_nil)) (sd_F ⟨_, _, rfl, rfl⟩ rfl)) (dv_ixL (d := .int md) (ds := [.int 1, .int 3, .int 50]) (by walk_at "dv") (dv_mod (dv_div (dv_var rfl (show Da K _ (.int m) _ from rfl)) dv_int ⟨by decide, by decide⟩) dv_int (by decide)) ?_) (by omega))) ?_) fD fun v HE rE g => ?_)
        · have := at_modG (l := ([1, 3, 50] : List Int).map PyData.int) (x := m / 64) (n := 3) .none (by decide) rfl
          rw [show ([.int 1, .int 3, .int 50] : List PyData) = ([1, 3, 50] : List Int).map PyData.int from rfl, this, hmd]
          congr 1
          rw [List.getD_eq_getElem?_getD, List.getElem?_map, List.getD_eq_getElem?_getD, List.getElem?_eq_getElem (show (m / 64 % 3).toNat < ([1, 3, 50] : List Int).length from mod_lt_nat (n := 3) (by decide))]
          rfl
        · rw [hsz]
        have g : v = .int (sz : Int) := g
        subst g
        have rok := Beg.feed_ok pre (k := 0) (b := .no) trivial
        -- found = found + told(lambda: reader.feed(rest[:size]))
        refine s_seq ⟨vf2, rfl, rE.2 tabD, fun HF xF tabF => ?_⟩
        have rDF : RT (lawTs K) HD HF := ⟨rE.1.trans xF, fun _ => tabF⟩
        have fF := r_fd rDF fD
        have hoF : HF ra = some (.ins (He.ga K "Reader") dxC _) := rDF.1 _ _ hoD fun ps z => by cases z
        have ct : cutS (mkS rest) none (some (sz : Int)) = mkS (rest.take sz) := cut_take
        refine te_meth (R := RT (lawTs K)) (K := K) (F := [ra]) (vv_var rfl) hoF rfl (da_cons (dv_is (dv_slS (lo := none) (hi := some (sz : Int)) (dv_var rfl (show Da K _ (.str (mkS rest)) _ from rfl)) do_none (do_some (K := K) (dv_var rfl (show Da K _ (.int (sz : Int)) _ from rfl))) (le_sz' (by rw [mkS_len]; omega))) (by rw [ct])) da_nil) fF fun us HG rG lu => ?_
        obtain ⟨u, rfl, hu⟩ := dal1 lu
        have tl : (rest.take sz).length ≤ 4000 := by rw [List.length_take]; omega
        have tsg : ∀ c ∈ rest.take sz, isSign c = true := fun c hc => fs c (hpr ▸ List.mem_append_right _ (List.mem_of_mem_take hc))
        refine ⟨[ra], ra, _, u, _, _, rfl, r_fd rG fF, List.mem_cons_self, ⟨dxC, rG.1 _ _ hoF fun ps z => by cases z⟩, rok, hu, text_sm tl, fun x ex _ v HI mI rdI gI => ?_, fun z => by rw [isText_of tl tsg] at z; cases z⟩
        have ex : mkS (rest.take sz) = x := PyData.str.inj ex
        subst ex
        have rDG : RT (lawTs K) HD HG := ROk.trans rDF rG
        have xDI : Xt (hid [ra] HD) (hid [ra] HI) := (hid_xt rDG.1).trans (mI.xt fun b hb => hb)
        obtain ⟨b1, ys1, rfl, gb1, ly1⟩ := gfD.mono xDI
        rw [mkS_cps] at gI rdI
        obtain ⟨b2, ys2, rfl, gb2, ly2⟩ := gI
        have fl1 := Beg.feed_len pre .no 0
        have fl2 := Beg.feed_len (rest.take sz) (Beg.no.feed 0 pre).1 (Beg.no.feed 0 pre).2.1
        refine .inr (.inr (.inl ⟨b1, b2, ys1, ys2, rfl, rfl, (hid_le gb1).1, (hid_le gb2).1, by rw [ly1.length, ly2.length]; exact le_sz' (by rw [List.length_take] at fl2; omega), fun pn hpn => ?_⟩))
        have fI : Fd [ra] HI := (r_fd rDG fD).mo mI
        have gn : Da K (hid [ra] (upd HI pn (.lst (ys1 ++ ys2)))) (.list (Beg.no.feed 0 (pre ++ rest.take sz)).2.2) (.ref pn) := by
          have := da_new (K := K) fI hpn (ly1.append ly2)
          rw [Beg.feed_app]
          exact this
        have sI : Same HI (upd HI pn (.lst (ys1 ++ ys2))) := same_new hpn
        have tabI : LamX.Tabs (lawTs K) HI := mI.tabs (rG.2 tabF)
        have xI : Xt H7 HI := fun b o e nt => mI.keep b o ((xC.trans (rD.1.trans rDG.1)) b o e nt) fun _ z => by
          rw [List.mem_singleton.mp z, hra] at e
          cases e
        have rdI2 : RdAt K HI ra (Beg.no.feed 0 (pre ++ rest.take sz)).1.s (Beg.no.feed 0 (pre ++ rest.take sz)).2.1 := by
          rw [Beg.feed_app]
          exact rdI
        -- rest = rest[size:]
        refine s_seq (s_set (R := RT (lawTs K)) (K := K) (F := [ra]) (d := .str (mkS (rest.drop sz))) (dv_is (dv_slS (lo := some (sz : Int)) (hi := none) (dv_var rfl (show Da K _ (.str (mkS rest)) _ from rfl)) (do_some (K := K) (dv_var rfl (show Da K _ (.int (sz : Int)) _ from rfl))) do_none (le_sz' (by rw [mkS_len]; omega))) (by rw [cut_drop])) (fI.mono (xt_of sI)) fun v HJ rJ g => ?_)
        have g : v = .str (mkS (rest.drop sz)) := g
        subst g
        refine s_set (R := RT (lawTs K)) (K := K) (F := [ra]) (d := .int (tn + 1)) (dv_addI (dv_var rfl (show Da K _ (.int (tn : Int)) _ from rfl)) dv_int) (r_fd rJ (fI.mono (xt_of sI))) fun v HL rL g => ?_
        have g : v = .int (tn + 1) := g
        subst g
        have rIL : RT (lawTs K) HI HL := ROk.trans (ROk.same sI) (ROk.trans rJ rL)
        refine ⟨(rest.drop sz).length, ?_, pre ++ rest.take sz, rest.drop sz, .ref pn, tn + 1, _, by rw [List.append_assoc, List.take_append_drop]; exact hpr, rfl, rfl, xI.trans rIL.1, rIL.2 tabI, ?_, r_da (ROk.trans rJ rL) gn⟩
        · rw [List.length_drop]
          have : 0 < rest.length := List.length_pos_iff.mpr ne
          omega
        · obtain ⟨dx9, h9⟩ := rdI2
          exact ⟨dx9, rIL.1 _ _ h9 fun ps z => by cases z⟩
      · have e0 : rest = [] := by simpa using e
        subst e0
        rw [List.append_nil] at hpr
        subst hpr
        have rCD : RT (lawTs K) HC HD := rD
        have xD : Xt H7 HD := xC.trans rD.1
        have fD := r_fd rD fC
        have gfD := r_da rD gfC
        have hoD : HD ra = some (.ins (He.ga K "Reader") dxC _) := rD.1 _ _ hoC fun ps z => by cases z
        have lfe := left_feed (k := (kLosts m n : Int)) lfm
        have fe : Beg.no.feed 0 pre = ((Beg.no.feed (kLosts m n : Int) lf).1, (kLosts m n : Int), R1.map One.d) := by
          rw [hfull, Beg.feed_app, feed_ks, Int.zero_add, ← hR1]
          simp only [lfe.2.1, lfe.2.2, List.append_nil]
        rw [fe] at gfD hoD
        rw [lfe.1] at hoD
        have gr7 : Da K (hid [] H7) (.list (R1.map One.d)) vr := r_da (ROk.trans r6 r7) gr
        have xh : Xt (hid [] H7) (hid [ra] HD) := fun b o e nt => by
          obtain ⟨e1, _⟩ := hid_le e
          rw [hid_out fun z => by rw [List.mem_singleton.mp z, hra] at e1; cases e1]
          exact xD b o e1 nt
        have grD := gr7.mono xh
        have rdm : ∀ {A : List PyData → Str → Int → PyData → Prop} {mth : Str} {d : PyData} {E : XK}, A [] (mkS lf) (kLosts m n : Int) d → (∀ x y : V, ([("begun", x), ("lost", y)] : List (Str × V)).lookup mth = none) → ∀ {σ : L2.St}, σ[12]? = some (some (.ref ra)) → DV (RT (lawTs K)) K [ra] (tMeth (He.ga K "Reader") mth (spRs K 0 A) [] E (tVar 12) tNil) σ HD d := fun {A mth d E} hA hm {σ} hσ =>
          dv_meth (vv_var hσ) hoD (hm _ _) da_nil fun us H1 Q r1 f1 l1 q1 => ⟨[ra], ra, [], us, _, _, _, rfl, rfl, f1, ⟨dxC, r1.1 _ _ hoD fun ps z => by cases z⟩, l1, hA, q1⟩
        refine s_if (R := RT (lawTs K)) (F := [ra]) (b := false) (dt_is (dt_or (a := false) (b := false) (dt_is (dt_test (K := K) (dv_ne (dv_var rfl gfD) (dv_var rfl grD) shR.s shR.s)) (by rw [eqv_self shR]; rfl)) fun _ => dt_or (a := false) (b := false) (dt_is (dt_test (K := K) (dv_ne (dv_callG (d := .list (R1.map One.d)) (da_cons (dv_is (dv_addS (dv_var rfl (show Da K _ (.str (mkS (kTexts m n))) _ from rfl)) (dv_var rfl (show Da K _ (.str (mkS lf)) _ from rfl)) (le_sz' (by rw [mkS_len, mkS_len]; omega))) (by rw [mkS_app, ← hfull])) da_nil) (told_ok (by omega) fs (by rw [fe])) rfl) (dv_var rfl grD) shR.s shR.s)) (by rw [eqv_self shR]; rfl)) fun _ => dt_or (a := false) (b := false) (dt_is (dt_test (K := K) (dv_neS (rdm (A := A_left) ⟨rfl, rfl⟩ (fun _ _ => rfl) rfl) (dv_var rfl (show Da K _ (.str (mkS lf)) _ from rfl)))) (by simp)) fun _ => dt_is (dt_test (K := K) (dv_neI (rdm (A := A_dropped) ⟨rfl, rfl⟩ (fun _ _ => rfl) rfl) (dv_var rfl (show Da K _ (.int (kLosts m n : Int)) _ from rfl)))) (by simp)) rfl) fD (fun z => nomatch z) fun _ HE rE => s_next ?_
        have r57 : RT (lawTs K) H H7 := ROk.trans r13 (ROk.trans r5 (ROk.trans r6 r7))
        exact ⟨⟨r57.1.trans (xD.trans rE.1), fun _ => rE.2 (rD.2 tabC)⟩, _, _, _, _, _, _, _, _, _, _, _, _, _, _, _, _, rfl⟩
  · rintro σ' H1 ⟨r1, o1, o2, o3, o4, o5, o6, o7, o8, o9, oa, ob, oc, od, oe, of, og, rfl⟩
    exact q _
end
end Sc

namespace Sc
open PySem PySem.Spec PyProof.Rows L2
def d_is_sign : He.DefD := ⟨("is_sign", none), "is_sign", "is_sign", defArgs s_is_sign, defBody s_is_sign, defScope s_is_sign, [], []⟩
def d_need_text : He.DefD := ⟨("need_text", none), "need_text", "need_text", defArgs s_need_text, defBody s_need_text, defScope s_need_text, [], []⟩
def d_Reader___init__ : He.DefD := ⟨("Reader", some "__init__"), "__init__", "Reader.__init__", defArgs s_Reader___init__, defBody s_Reader___init__, defScope s_Reader___init__, [], []⟩
def d_Reader_dropped : He.DefD := ⟨("Reader", some "dropped"), "dropped", "Reader.dropped", defArgs s_Reader_dropped, defBody s_Reader_dropped, defScope s_Reader_dropped, [], []⟩
def d_Reader_left : He.DefD := ⟨("Reader", some "left"), "left", "Reader.left", defArgs s_Reader_left, defBody s_Reader_left, defScope s_Reader_left, [], []⟩
def d_Reader_feed : He.DefD := ⟨("Reader", some "feed"), "feed", "Reader.feed", defArgs s_Reader_feed, defBody s_Reader_feed, defScope s_Reader_feed, [], []⟩
def d_Reader_plain : He.DefD := ⟨("Reader", some "plain"), "plain", "Reader.plain", defArgs s_Reader_plain, defBody s_Reader_plain, defScope s_Reader_plain, [], []⟩
def d_Reader_read : He.DefD := ⟨("Reader", some "read"), "read", "Reader.read", defArgs s_Reader_read, defBody s_Reader_read, defScope s_Reader_read, [], []⟩
def d_Reader_can_go_on : He.DefD := ⟨("Reader", some "can_go_on"), "can_go_on", "Reader.can_go_on", defArgs s_Reader_can_go_on, defBody s_Reader_can_go_on, defScope s_Reader_can_go_on, [], []⟩
def d_Reader_whole : He.DefD := ⟨("Reader", some "whole"), "whole", "Reader.whole", defArgs s_Reader_whole, defBody s_Reader_whole, defScope s_Reader_whole, [], []⟩
def d_told : He.DefD := ⟨("told", none), "told", "told", defArgs s_told, defBody s_told, defScope s_told, [], []⟩
def d_written : He.DefD := ⟨("written", none), "written", "written", defArgs s_written, defBody s_written, defScope s_written, [], []⟩
def d__law_cell : He.DefD := ⟨("_law_cell", none), "_law_cell", "_law_cell", defArgs s__law_cell, defBody s__law_cell, defScope s__law_cell, [], []⟩
def d__law_drawn : He.DefD := ⟨("_law_drawn", none), "_law_drawn", "_law_drawn", defArgs s__law_drawn, defBody s__law_drawn, defScope s__law_drawn, [], []⟩
def d__law_word : He.DefD := ⟨("_law_word", none), "_law_word", "_law_word", defArgs s__law_word, defBody s__law_word, defScope s__law_word, [], []⟩
def d__law_told : He.DefD := ⟨("_law_told", none), "_law_told", "_law_told", defArgs s__law_told, defBody s__law_told, defScope s__law_told, [], []⟩
def d__law_one : He.DefD := ⟨("_law_one", none), "_law_one", "_law_one", defArgs s__law_one, defBody s__law_one, defScope s__law_one, [], []⟩
def d__law_row : He.DefD := ⟨("_law_row", none), "_law_row", "_law_row", defArgs s__law_row, defBody s__law_row, defScope s__law_row, [], []⟩
def d__law_text : He.DefD := ⟨("_law_text", none), "_law_text", "_law_text", defArgs s__law_text, defBody s__law_text, defScope s__law_text, [], []⟩
def d__law_broken : He.DefD := ⟨("_law_broken", none), "_law_broken", "_law_broken", defArgs s__law_broken, defBody s__law_broken, defScope s__law_broken, [], []⟩
def d_law : He.DefD := ⟨("law", none), "law", "law", defArgs s_law, defBody s_law, defScope s_law, [], []⟩
def fn0 : List He.DefD := [d_is_sign, d_need_text, d_Reader___init__, d_Reader_dropped, d_Reader_left, d_Reader_feed, d_Reader_plain, d_Reader_read, d_Reader_can_go_on, d_Reader_whole, d_told, d_written, d__law_cell, d__law_drawn, d__law_word, d__law_told, d__law_one, d__law_row, d__law_text, d__law_broken, d_law]
def fn : List He.DefD := fn0
def fa0 : List He.Fa := [.glo "ScreenError", .glo "BadText", .glo "BadSize", .glo "BadPlace", .glo "BadPage", .int "MOST_TEXT" 4000, .int "MOST_FIGURES" 4, .int "MOST_ARGUMENTS" 4, .str "SMALL" "abcdefghijklmnopqrstuvwxyz", .str "GREAT" "ABCDEFGHIJKLMNOPQRSTUVWXYZ", .str "FIGURES" "0123456789", .int "BARRED" 37, .str "GAP" "\n", .glo "is_sign", .glo "need_text", .glo "Reader", .glo "told", .glo "written", .glo "_law_cell", .glo "_law_drawn", .glo "_law_word", .glo "_law_told", .glo "_law_one", .glo "_law_row", .glo "_law_text"]
def fa1 : List He.Fa := [.glo "_law_broken", .glo "law", .free "ValueError", .free "range", .free "isinstance", .free "tuple", .free "len", .free "max", .free "str", .free "all", .free "sum", .free "min", .free "ord", .free "int", .exc "ScreenError", .exm "ScreenError" "ScreenError" true, .exc "BadText", .exm "BadText" "ScreenError" true, .exc "BadSize", .exm "BadSize" "ScreenError" true, .exc "BadPlace", .exm "BadPlace" "ScreenError" true, .exc "BadPage", .exm "BadPage" "ScreenError" true, .cls "Reader"]
def fa2 : List He.Fa := [.mkr "Reader", .meth "Reader" "dropped", .meth "Reader" "left", .meth "Reader" "feed", .meth "Reader" "plain", .meth "Reader" "read", .meth "Reader" "can_go_on", .meth "Reader" "whole", .noat "Reader" "begun", .noat "Reader" "lost"]
def fa : List He.Fa := fa0 ++ fa1 ++ fa2
def loose0 : List Str := ["ScreenError", "BadText", "BadSize", "BadPlace", "BadPage", "MOST_TEXT", "MOST_FIGURES", "MOST_ARGUMENTS", "SMALL", "GREAT", "FIGURES", "BARRED", "GAP", "is_sign", "need_text", "Reader", "told", "written", "_law_cell", "_law_drawn", "_law_word", "_law_told", "_law_one", "_law_row", "_law_text"]
def loose1 : List Str := ["_law_broken"]
def loose : List Str := loose0 ++ loose1
def tf : List He.Defn := [("law", none)]
def ex (K : PySem.W.Frag) : Bool := wordB ["BadPage", "BadPlace", "BadSize", "BadText"] K
abbrev RR : PySem.W.OpenRow := PySem.W.OpenLaw.row PySem.Challenge.rw_steerscreen_k10_whole_signs_read
abbrev hk : PySem.W.Hook := He.hookX 5 fa fn [] tf ex
def ob (s : PySem.W.SharedT) : He.AlX := He.obsX 5 fa fn [] tf ex (HandSHeadRun.getT s)
theorem ob_eq (s : PySem.W.SharedT) : ob s = hk.obs s.abs := He.obsX_eq (HandSHeadRun.getT_eq s)
theorem run (w : World) : HandSHeadRun.RunEq RR (PySem.W.view RR.prog [29]) hk ob 20000 loose w := by
  intro os
  kernel_rfl
theorem gt_of {w : World} {h : Heap} {K : PySem.W.Frag} {mg : Str → Option Value} (X : K.In h) (G : h.Ns mainGlobals mg) (c : He.SaysX fa fn [] tf ex w h K) : GT K mg :=
  ⟨He.glo_ok X G (c.t.d.fact 0 (f := .glo "ScreenError") rfl),
   He.glo_ok X G (c.t.d.fact 1 (f := .glo "BadText") rfl),
   He.glo_ok X G (c.t.d.fact 2 (f := .glo "BadSize") rfl),
   He.glo_ok X G (c.t.d.fact 3 (f := .glo "BadPlace") rfl),
   He.glo_ok X G (c.t.d.fact 4 (f := .glo "BadPage") rfl),
   He.int_ok X G (c.t.d.fact 5 (f := .int "MOST_TEXT" 4000) rfl),
   He.int_ok X G (c.t.d.fact 6 (f := .int "MOST_FIGURES" 4) rfl),
   He.int_ok X G (c.t.d.fact 7 (f := .int "MOST_ARGUMENTS" 4) rfl),
   He.str_ok X G (c.t.d.fact 8 (f := .str "SMALL" "abcdefghijklmnopqrstuvwxyz") rfl),
   He.str_ok X G (c.t.d.fact 9 (f := .str "GREAT" "ABCDEFGHIJKLMNOPQRSTUVWXYZ") rfl),
   He.str_ok X G (c.t.d.fact 10 (f := .str "FIGURES" "0123456789") rfl),
   He.int_ok X G (c.t.d.fact 11 (f := .int "BARRED" 37) rfl),
   He.str_ok X G (c.t.d.fact 12 (f := .str "GAP" "\n") rfl),
   He.glo_ok X G (c.t.d.fact 13 (f := .glo "is_sign") rfl),
   He.glo_ok X G (c.t.d.fact 14 (f := .glo "need_text") rfl),
   He.glo_ok X G (c.t.d.fact 15 (f := .glo "Reader") rfl),
   He.glo_ok X G (c.t.d.fact 16 (f := .glo "told") rfl),
   He.glo_ok X G (c.t.d.fact 17 (f := .glo "written") rfl),
   He.glo_ok X G (c.t.d.fact 18 (f := .glo "_law_cell") rfl),
   He.glo_ok X G (c.t.d.fact 19 (f := .glo "_law_drawn") rfl),
   He.glo_ok X G (c.t.d.fact 20 (f := .glo "_law_word") rfl),
   He.glo_ok X G (c.t.d.fact 21 (f := .glo "_law_told") rfl),
   He.glo_ok X G (c.t.d.fact 22 (f := .glo "_law_one") rfl),
   He.glo_ok X G (c.t.d.fact 23 (f := .glo "_law_row") rfl),
   He.glo_ok X G (c.t.d.fact 24 (f := .glo "_law_text") rfl),
   He.glo_ok X G (c.t.d.fact 25 (f := .glo "_law_broken") rfl),
   He.glo_ok X G (c.t.d.fact 26 (f := .glo "law") rfl),
   He.free_ok X G (c.t.d.fact 27 (f := .free "ValueError") rfl),
   He.free_ok X G (c.t.d.fact 28 (f := .free "range") rfl),
   He.free_ok X G (c.t.d.fact 29 (f := .free "isinstance") rfl),
   He.free_ok X G (c.t.d.fact 30 (f := .free "tuple") rfl),
   He.free_ok X G (c.t.d.fact 31 (f := .free "len") rfl),
   He.free_ok X G (c.t.d.fact 32 (f := .free "max") rfl),
   He.free_ok X G (c.t.d.fact 33 (f := .free "str") rfl),
   He.free_ok X G (c.t.d.fact 34 (f := .free "all") rfl),
   He.free_ok X G (c.t.d.fact 35 (f := .free "sum") rfl),
   He.free_ok X G (c.t.d.fact 36 (f := .free "min") rfl),
   He.free_ok X G (c.t.d.fact 37 (f := .free "ord") rfl),
   He.free_ok X G (c.t.d.fact 38 (f := .free "int") rfl),
   He.exc_ok (c.t.d.fact 39 (f := .exc "ScreenError") rfl),
   He.exm_ok (c.t.d.fact 40 (f := .exm "ScreenError" "ScreenError" true) rfl),
   He.exc_ok (c.t.d.fact 41 (f := .exc "BadText") rfl),
   He.exm_ok (c.t.d.fact 42 (f := .exm "BadText" "ScreenError" true) rfl),
   He.exc_ok (c.t.d.fact 43 (f := .exc "BadSize") rfl),
   He.exm_ok (c.t.d.fact 44 (f := .exm "BadSize" "ScreenError" true) rfl),
   He.exc_ok (c.t.d.fact 45 (f := .exc "BadPlace") rfl),
   He.exm_ok (c.t.d.fact 46 (f := .exm "BadPlace" "ScreenError" true) rfl),
   He.exc_ok (c.t.d.fact 47 (f := .exc "BadPage") rfl),
   He.exm_ok (c.t.d.fact 48 (f := .exm "BadPage" "ScreenError" true) rfl),
   He.cls_ok (c.t.d.fact 49 (f := .cls "Reader") rfl),
   He.mkr_ok (c.t.d.fact 50 (f := .mkr "Reader") rfl),
   He.meth_ok (c.t.d.fact 51 (f := .meth "Reader" "dropped") rfl),
   He.meth_ok (c.t.d.fact 52 (f := .meth "Reader" "left") rfl),
   He.meth_ok (c.t.d.fact 53 (f := .meth "Reader" "feed") rfl),
   He.meth_ok (c.t.d.fact 54 (f := .meth "Reader" "plain") rfl),
   He.meth_ok (c.t.d.fact 55 (f := .meth "Reader" "read") rfl),
   He.meth_ok (c.t.d.fact 56 (f := .meth "Reader" "can_go_on") rfl),
   He.meth_ok (c.t.d.fact 57 (f := .meth "Reader" "whole") rfl),
   He.noat_ok (c.t.d.fact 58 (f := .noat "Reader" "begun") rfl),
   He.noat_ok (c.t.d.fact 59 (f := .noat "Reader" "lost") rfl),
   c.t.d.def_ 0 (d := d_is_sign) rfl,
   c.t.d.def_ 1 (d := d_need_text) rfl,
   c.t.d.def_ 2 (d := d_Reader___init__) rfl,
   c.t.d.def_ 3 (d := d_Reader_dropped) rfl,
   c.t.d.def_ 4 (d := d_Reader_left) rfl,
   c.t.d.def_ 5 (d := d_Reader_feed) rfl,
   c.t.d.def_ 6 (d := d_Reader_plain) rfl,
   c.t.d.def_ 7 (d := d_Reader_read) rfl,
   c.t.d.def_ 8 (d := d_Reader_can_go_on) rfl,
   c.t.d.def_ 9 (d := d_Reader_whole) rfl,
   c.t.d.def_ 10 (d := d_told) rfl,
   c.t.d.def_ 11 (d := d_written) rfl,
   c.t.d.def_ 12 (d := d__law_cell) rfl,
   c.t.d.def_ 13 (d := d__law_drawn) rfl,
   c.t.d.def_ 14 (d := d__law_word) rfl,
   c.t.d.def_ 15 (d := d__law_told) rfl,
   c.t.d.def_ 16 (d := d__law_one) rfl,
   c.t.d.def_ 17 (d := d__law_row) rfl,
   c.t.d.def_ 18 (d := d__law_text) rfl,
   c.t.d.def_ 19 (d := d__law_broken) rfl,
   c.t.d.def_ 20 (d := d_law) rfl,
   wordB_of c.more⟩
end Sc
namespace Sc
open PySem PySem.Spec PyProof.Rows L2
theorem facts {w : World} {K : PySem.W.Frag} {h : Heap} {mg : Str → Option Value} {f : Addr} (X : K.In h) (G : h.Ns mainGlobals mg) (hfa : mg ("law" : Str) = some (.ref f)) (c : He.SaysX fa fn [] tf ex w h K) : LamX.LawAtS PySem.Challenge.rw_steerscreen_k10_whole_signs_read w K CX0 9 63 "script" mg f h := by
  have T := gt_of X G c
  obtain ⟨fd, FD⟩ := T.f_law
  have e := hfa.symm.trans T.g_law
  cases e
  have one : ∀ p ∈ lawDs, p ∈ tf := fun p hp => hp
  refine ⟨fd, lawDs.map (He.cT K), spLaw K (lawTs K), fun p hp => ?_, fun p hp => ?_, fun p hp => ?_, fun s u => FD.bindsA (ps := ["script"]) (fun _ _ _ _ _ _ us hl => match us, hl with | [_], _ => rfl) s [u] rfl, fun H a ns hl hb hH hS => ⟨a, ns, rfl, hS, hl, hb, fun p hp => ?_, fun _ => rfl⟩, fun base _ _ hTB => c_law T (fun p hp => hTB _ (List.mem_map.mpr ⟨p, hp, rfl⟩)) FD⟩
  · obtain ⟨d, hd, rfl⟩ := List.mem_map.mp hp
    exact c.empty d (one d hd)
  · obtain ⟨d, hd, rfl⟩ := List.mem_map.mp hp
    exact c.out d (one d hd)
  · obtain ⟨d, hd, rfl⟩ := List.mem_map.mp hp
    exact PySem.W.codeHd_of_K X (c.hd d (one d hd))
  · obtain ⟨d, hd, rfl⟩ := List.mem_map.mp hp
    exact LamX.TabS.nil (hH _ (List.mem_map.mpr ⟨d, hd, rfl⟩))
end Sc
open PySem PySem.W PySem.Calls PyProof.Rows
theorem PySem.Challenge.cw_steerscreen_k10_whole_signs_read_holds : PySem.Challenge.rw_steerscreen_k10_whole_signs_read.Holds := by
  w_on; o_law
  refine HandSHeadRun.head_any (r := Sc.RR) (q := view Sc.RR.prog [29]) (H := Sc.hk) (ob := Sc.ob) (M := 20000) (loose := Sc.loose) (d := HandSHeadRun.topDef Sc.RR.prog 29) (kwd := []) Sc.ob_eq
    (by kernel_rfl) (fun s => by kernel_rfl) Sc.run (by kernel_rfl) (by kernel_rfl) (by kernel_rfl) (by rfl) (by first | assumption | decide +kernel) (by decide +kernel) ⟨rfl, rfl, rfl, rfl, rfl, by decide +kernel⟩ ?hw ?hc
  case hw => w_witness2
  case hc =>
    refine LamX.walk_ofTsE (l := PySem.Challenge.rw_steerscreen_k10_whole_signs_read) (n := 63) (k := 9) (x := "script") (CX := fun _ => L2.CX0) rfl (by decide) (by kernel_rfl) ⟨rfl, by decide, by decide⟩ ?F (fun _ _ _ _ _ z => z)
    intro w mg fa h Y G hmg0
    obtain ⟨K, KX, c⟩ := Y
    have hmg : mg ("law" : PySem.Str) = some (.ref fa) := by
      have e : (HandSHeadRun.topDef Sc.RR.prog 29).name = ("law" : PySem.Str) := by kernel_rfl
      rw [← e]
      exact hmg0
    exact ⟨K, KX, Sc.facts KX G hmg c⟩
