import PyProof.Rows.All
import Wide.All
import OpenK.AllK
import Wide.FinOn
import HandS.ForMost
import HandS.Walk
import HandS.IsInst
import HandS.Zip
import HandS.Wide
import HandS.TupMul
import HandS.Lambda
import HandS.HotCalls
import HandS.ExcIs
import HandS.Flow
import HandS.StrMore
import HandS.Defaults
import HandS.ExcCtx
import HandS.HeadHook1
import KE.GoesMore
import KE.GoesComp
import HandS.EndTab
import HandS.HeadWalk
import HandS.HeadHook4
import HandS.Text
import HandS.ReplaceLit
import HandS.ReplaceList
import KE.IntTextLaws
import KE.IntTextText
import HandS.Dict
import HandS.TupAny
import HandS.Strs
import PyProof.AssignAttr
import PyProof.P3Eq
import HandS.Style
import PyProof.SliceSyntax
import KE.KStateDown
import Lean
import HandS.Head0
import HandS.Head1
import HandS.Head2
import HandS.HeadEnd
import PySem.Challenge.RW_steerscreen_k61_tapes_refused
set_option Elab.async false
set_option linter.all false
set_option maxRecDepth 100000
set_option maxHeartbeats 4000000
namespace Sc
open PySem PySem.Spec PyProof.Rows L2

/-! ### data in the abstract heap: lists stand in it, tuples stand in it or in the written part -/
mutual
def Da (K : PySem.W.Frag) (H : Hp) : PyData → V → Prop
  | .none, v => v = .non
  | .bool b, v => v = .bl b
  | .int i, v => v = .int i
  | .str x, v => v = .str x
  | .list ds, v => ∃ a xs, v = .ref a ∧ H a = some (.lst xs) ∧ DaL K H ds xs
  | .tuple ds, v => ∃ a xs, v = .ref a ∧ SqT K H a xs ∧ DaL K H ds xs
  | .dict _, _ => False
def DaL (K : PySem.W.Frag) (H : Hp) : List PyData → List V → Prop
  | [], vs => vs = []
  | d :: ds, vs => ∃ w r, vs = w :: r ∧ Da K H d w ∧ DaL K H ds r
end
/-- all that is no table stays -/
abbrev Xt := LamX.ExtN
theorem xt_sqT {K : PySem.W.Frag} {H H' : Hp} {a : Addr} {xs : List V} (e : Xt H H') (h : SqT K H a xs) : SqT K H' a xs := by
  rcases h with (h | ⟨o, h⟩) | h
  · exact .inl (.inl (e _ _ h fun ps z => by cases z))
  · exact .inl (.inr ⟨o, e _ _ h fun ps z => by cases z⟩)
  · exact .inr h
theorem xt_sqL {K : PySem.W.Frag} {H H' : Hp} {a : Addr} {xs : List V} (e : Xt H H') (h : SqL K H a xs) : SqL K H' a xs := by
  rcases h with (h | ⟨o, h⟩) | h
  · exact .inl (.inl (e _ _ h fun ps z => by cases z))
  · exact .inl (.inr ⟨o, e _ _ h fun ps z => by cases z⟩)
  · exact .inr h
mutual
theorem Da.mono {K : PySem.W.Frag} {H H' : Hp} (e : Xt H H') : ∀ {d : PyData} {v : V}, Da K H d v → Da K H' d v
  | .none, _, h => h
  | .bool _, _, h => h
  | .int _, _, h => h
  | .str _, _, h => h
  | .list ds, _, h => by
    obtain ⟨a, xs, h1, h2, h3⟩ := h
    exact ⟨a, xs, h1, e _ _ h2 (fun ps z => by cases z), DaL.mono e h3⟩
  | .tuple ds, _, h => by
    obtain ⟨a, xs, h1, h2, h3⟩ := h
    exact ⟨a, xs, h1, xt_sqT e h2, DaL.mono e h3⟩
  | .dict _, _, h => h
theorem DaL.mono {K : PySem.W.Frag} {H H' : Hp} (e : Xt H H') : ∀ {ds : List PyData} {vs : List V}, DaL K H ds vs → DaL K H' ds vs
  | [], _, h => h
  | d :: ds, _, h => by
    obtain ⟨w, r, h1, h2, h3⟩ := h
    exact ⟨w, r, h1, Da.mono e h2, DaL.mono e h3⟩
end
mutual
theorem Da.dp {K : PySem.W.Frag} {H : Hp} : ∀ {d : PyData} {v : V}, Da K H d v → Dp K H v d
  | .none, _, h => by cases h; exact .non
  | .bool _, _, h => by cases h; exact .bl _
  | .int _, _, h => by cases h; exact .int _
  | .str _, _, h => by cases h; exact .str _
  | .list ds, _, h => by
    obtain ⟨a, xs, h1, h2, h3⟩ := h
    cases h1
    exact .lst (SqL.of h2) (DaL.dp h3)
  | .tuple ds, _, h => by
    obtain ⟨a, xs, h1, h2, h3⟩ := h
    cases h1
    exact .tup h2 (DaL.dp h3)
  | .dict _, _, h => h.elim
theorem DaL.dp {K : PySem.W.Frag} {H : Hp} : ∀ {ds : List PyData} {vs : List V}, DaL K H ds vs → DpAll K H vs ds
  | [], _, h => by cases h; exact .nil
  | d :: ds, _, h => by
    obtain ⟨w, r, h1, h2, h3⟩ := h
    cases h1
    exact .cons (Da.dp h2) (DaL.dp h3)
end
theorem DaL.length {K : PySem.W.Frag} {H : Hp} : ∀ {ds : List PyData} {vs : List V}, DaL K H ds vs → vs.length = ds.length
  | [], _, h => by cases h; rfl
  | d :: ds, _, h => by
    obtain ⟨w, r, h1, _, h3⟩ := h
    cases h1
    exact congrArg Nat.succ (DaL.length h3)
theorem DaL.get {K : PySem.W.Frag} {H : Hp} : ∀ {ds : List PyData} {vs : List V} {i : Nat} {d : PyData}, DaL K H ds vs → ds[i]? = some d → ∃ v, vs[i]? = some v ∧ Da K H d v
  | [], _, _, _, _, e => by simp at e
  | d :: ds, _, 0, _, h, e => by
    obtain ⟨w, r, h1, h2, h3⟩ := h
    cases h1
    have e' : d = _ := Option.some.inj e
    subst e'
    exact ⟨w, rfl, h2⟩
  | d :: ds, _, i + 1, _, h, e => by
    obtain ⟨w, r, h1, h2, h3⟩ := h
    cases h1
    exact DaL.get (i := i) h3 e
theorem DaL.get' {K : PySem.W.Frag} {H : Hp} : ∀ {ds : List PyData} {vs : List V} {i : Nat} {v : V}, DaL K H ds vs → vs[i]? = some v → ∃ d, ds[i]? = some d ∧ Da K H d v
  | [], _, _, _, h, e => by cases h; simp at e
  | d :: ds, _, 0, _, h, e => by
    obtain ⟨w, r, h1, h2, h3⟩ := h
    cases h1
    have e' : w = _ := Option.some.inj e
    subst e'
    exact ⟨d, rfl, h2⟩
  | d :: ds, _, i + 1, _, h, e => by
    obtain ⟨w, r, h1, h2, h3⟩ := h
    cases h1
    exact DaL.get' (i := i) h3 e
theorem DaL.append {K : PySem.W.Frag} {H : Hp} : ∀ {ds es : List PyData} {vs us : List V}, DaL K H ds vs → DaL K H es us → DaL K H (ds ++ es) (vs ++ us)
  | [], _, _, _, h, g => by cases h; exact g
  | d :: ds, _, _, _, h, g => by
    obtain ⟨w, r, h1, h2, h3⟩ := h
    cases h1
    exact ⟨w, _, rfl, h2, DaL.append h3 g⟩
theorem DaL.snoc {K : PySem.W.Frag} {H : Hp} {ds : List PyData} {d : PyData} {vs : List V} {v : V} (h : DaL K H ds vs) (g : Da K H d v) : DaL K H (ds ++ [d]) (vs ++ [v]) := h.append ⟨v, [], rfl, g, rfl⟩
theorem DaL.take {K : PySem.W.Frag} {H : Hp} : ∀ (n : Nat) {ds : List PyData} {vs : List V}, DaL K H ds vs → DaL K H (ds.take n) (vs.take n)
  | 0, _, _, _ => rfl
  | n + 1, [], _, h => by cases h; rfl
  | n + 1, d :: ds, _, h => by
    obtain ⟨w, r, h1, h2, h3⟩ := h
    cases h1
    exact ⟨w, _, rfl, h2, DaL.take n h3⟩
theorem DaL.drop {K : PySem.W.Frag} {H : Hp} : ∀ (n : Nat) {ds : List PyData} {vs : List V}, DaL K H ds vs → DaL K H (ds.drop n) (vs.drop n)
  | 0, _, _, h => h
  | n + 1, [], _, h => by cases h; rfl
  | n + 1, d :: ds, _, h => by
    obtain ⟨w, r, h1, h2, h3⟩ := h
    cases h1
    exact DaL.drop n h3
theorem DaL.set {K : PySem.W.Frag} {H : Hp} {d : PyData} {v : V} (g : Da K H d v) : ∀ (n : Nat) {ds : List PyData} {vs : List V}, DaL K H ds vs → DaL K H (ds.set n d) (vs.set n v)
  | _, [], _, h => by cases h; rfl
  | 0, _ :: ds, _, h => by
    obtain ⟨w, r, h1, h2, h3⟩ := h
    cases h1
    exact ⟨v, r, rfl, g, h3⟩
  | n + 1, _ :: ds, _, h => by
    obtain ⟨w, r, h1, h2, h3⟩ := h
    cases h1
    exact ⟨w, _, rfl, h2, DaL.set g n h3⟩
theorem DaL.rep {K : PySem.W.Frag} {H : Hp} {ds : List PyData} {vs : List V} (h : DaL K H ds vs) : ∀ k : Nat, DaL K H (List.replicate k ds).flatten (List.replicate k vs).flatten
  | 0 => rfl
  | k + 1 => by
    rw [List.replicate_succ, List.replicate_succ, List.flatten_cons, List.flatten_cons]
    exact h.append (DaL.rep h k)
theorem DaL.ints {K : PySem.W.Frag} {H : Hp} : ∀ (ns : List Int), DaL K H (ns.map PyData.int) (ns.map V.int)
  | [] => rfl
  | n :: ns => ⟨.int n, _, rfl, rfl, DaL.ints ns⟩
theorem DaL.bools {K : PySem.W.Frag} {H : Hp} : ∀ {bs : List Bool} {vs : List V}, DaL K H (bs.map PyData.bool) vs → vs = bs.map V.bl
  | [], _, h => h
  | b :: bs, _, h => by
    obtain ⟨w, r, h1, h2, h3⟩ := h
    have h2 : w = V.bl b := h2
    rw [h1, h2, DaL.bools h3]
    rfl

/-! ### the heap without an owner's own things -/
def hid (F : List Addr) (H : Hp) : Hp := fun b => if b ∈ F then none else H b
theorem hid_in {F : List Addr} {H : Hp} {b : Addr} (h : b ∈ F) : hid F H b = none := if_pos h
theorem hid_out {F : List Addr} {H : Hp} {b : Addr} (h : b ∉ F) : hid F H b = H b := if_neg h
theorem hid_nil (H : Hp) : hid [] H = H := funext fun b => if_neg (by simp)
theorem hid_le {F : List Addr} {H : Hp} {b : Addr} {o : HO} (h : hid F H b = some o) : H b = some o ∧ b ∉ F := by
  by_cases hb : b ∈ F
  · rw [hid_in hb] at h; cases h
  · rw [hid_out hb] at h; exact ⟨h, hb⟩
theorem hid_xt {F : List Addr} {H H' : Hp} (e : Xt H H') : Xt (hid F H) (hid F H') := fun b o h n => by
  obtain ⟨h1, h2⟩ := hid_le h
  rw [hid_out h2]
  exact e b o h1 n
theorem hid_sub {F G : List Addr} {H : Hp} (h : ∀ b ∈ F, b ∈ G) : Xt (hid G H) (hid F H) := fun b o e _ => by
  obtain ⟨h1, h2⟩ := hid_le e
  rw [hid_out fun z => h2 (h b z)]
  exact h1
theorem xt_hid {F : List Addr} {H : Hp} : Xt (hid F H) H := fun b o e _ => (hid_le e).1
/-- what may change -/
def isMut : HO → Prop
  | .lst _ => True
  | .ins _ _ _ => True
  | .dK _ => True
  | .dT _ => True
  | _ => False
theorem isMut.no {o : HO} (h : isMut o) (ps : Array Value) : o ≠ .tbl ps := fun z => by rw [z] at h; exact h
/-- the owner's things are there, and may change -/
def Fd (F : List Addr) (H : Hp) : Prop := ∀ a ∈ F, ∃ o, H a = some o ∧ isMut o
theorem Fd.nil {H : Hp} : Fd [] H := fun a h => nomatch h
theorem Fd.mono {F : List Addr} {H H' : Hp} (e : Xt H H') (h : Fd F H) : Fd F H' := fun a ha => let ⟨o, h1, h2⟩ := h a ha; ⟨o, e a o h1 h2.no, h2⟩
theorem Fd.new {F : List Addr} {H : Hp} (h : Fd F H) {p : Addr} (hp : H p = none) : p ∉ F := fun z => by
  obtain ⟨o, e, _⟩ := h p z
  rw [hp] at e; cases e
theorem Fd.cons {F : List Addr} {H : Hp} {p : Addr} {xs : List V} (h : Fd F H) (hp : H p = some (.lst xs)) (hn : ∀ ps, HO.lst xs ≠ .tbl ps) : Fd (p :: F) H := fun a ha => by
  rcases List.mem_cons.mp ha with e | e
  · rw [e]; exact ⟨_, hp, trivial⟩
  · exact h a e
theorem hid_upd {F : List Addr} {H : Hp} {p : Addr} {o : HO} (h : p ∉ F) : hid F (upd H p o) = upd (hid F H) p o := by
  funext b
  by_cases hb : b ∈ F
  · have hne : b ≠ p := fun z => h (by rw [← z]; exact hb)
    rw [hid_in hb, upd_ne hne, hid_in hb]
  · rw [hid_out hb]
    unfold upd
    rw [hid_out hb]
theorem same_new {H : Hp} {p : Addr} {o : HO} (h : H p = none) : Same H (upd H p o) := fun b u e => by
  rw [upd_ne (ne_of_none e h)]
  exact e
theorem xt_of {H H' : Hp} (s : Same H H') : Xt H H' := fun b o h _ => s b o h

/-! ### how heaps go on -/
class ROk (R : Hp → Hp → Prop) : Prop where
  refl : ∀ H, R H H
  trans : ∀ {H1 H2 H3}, R H1 H2 → R H2 H3 → R H1 H3
  same : ∀ {H H'}, Same H H' → R H H'
  ext : ∀ {H H'}, R H H' → Xt H H'
  chg : ∀ {H H'} {p : Addr} {xs ys : List V}, H p = none → H' p = some (.lst xs) → R H H' → R H (upd H' p (.lst ys))
instance rok_same : ROk Same := ⟨Same.refl, Same.trans, id, xt_of, fun hp _ s b o e => by
  rw [upd_ne (ne_of_none e hp)]
  exact s b o e⟩

/-! ### what evaluates to what: R how heaps go on, F the owner's things; from every later heap -/
section
variable (R : Hp → Hp → Prop) (K : PySem.W.Frag) (F : List Addr)
def DV (te : TE) (σ : L2.St) (H : Hp) (d : PyData) : Prop := ∀ H1, R H H1 → Fd F H1 → ∀ Q : VK, (∀ v H2, R H1 H2 → Da K (hid F H2) d v → Q v H2) → te σ H1 Q
def VV (te : TE) (σ : L2.St) (H : Hp) (v : V) : Prop := ∀ H1, R H H1 → Fd F H1 → ∀ Q : VK, (∀ H2, R H1 H2 → Q v H2) → te σ H1 Q
def DT (tt : TT) (σ : L2.St) (H : Hp) (b : Bool) : Prop := ∀ H1, R H H1 → Fd F H1 → ∀ Q : Bool → Hp → Prop, (∀ H2, R H1 H2 → Q b H2) → tt σ H1 Q
def DA (ta : TA) (σ : L2.St) (H : Hp) (ds : List PyData) : Prop := ∀ H1, R H H1 → Fd F H1 → ∀ Q : List V → Hp → Prop, (∀ vs H2, R H1 H2 → DaL K (hid F H2) ds vs → Q vs H2) → ta σ H1 Q
def DO (to : TO) (σ : L2.St) (H : Hp) (o : Option Int) : Prop := ∀ H1, R H H1 → Fd F H1 → ∀ Q : Option Int → Hp → Prop, (∀ H2, R H1 H2 → Q o H2) → to σ H1 Q
/-- a def's promise: of these data that datum -/
def SD (sp : Sp) (ds : List PyData) (d : PyData) : Prop := ∀ (F : List Addr) (vs : List V) (H : Hp), Fd F H → DaL K (hid F H) ds vs → ∀ (Q : VK) (E : XK), (∀ v H', Same H H' → Da K (hid F H') d v → Q v H') → sp vs H Q E
end
section
variable {R : Hp → Hp → Prop} [ROk R] {K : PySem.W.Frag} {F : List Addr} {σ : L2.St} {H H' : Hp} {ta tb te : TE} {d : PyData} {v : V}
theorem r_refl (H : Hp) : R H H := ROk.refl H
theorem r_da {d : PyData} {v : V} (r : R H H') (h : Da K (hid F H) d v) : Da K (hid F H') d v := h.mono (hid_xt (ROk.ext r))
theorem r_dal {ds : List PyData} {vs : List V} (r : R H H') (h : DaL K (hid F H) ds vs) : DaL K (hid F H') ds vs := h.mono (hid_xt (ROk.ext r))
theorem r_fd (r : R H H') (h : Fd F H) : Fd F H' := h.mono (ROk.ext r)
theorem r_new {H : Hp} {p : Addr} {o : HO} (h : H p = none) : R H (upd H p o) := ROk.same (same_new h)
theorem DV.mono (r : R H H') (h : DV R K F te σ H d) : DV R K F te σ H' d := fun H1 a => h H1 (ROk.trans r a)
theorem DA.mono {ta : TA} {ds : List PyData} (r : R H H') (h : DA R K F ta σ H ds) : DA R K F ta σ H' ds := fun H1 a => h H1 (ROk.trans r a)
theorem DT.mono {t : TT} {b : Bool} (r : R H H') (h : DT R F t σ H b) : DT R F t σ H' b := fun H1 a => h H1 (ROk.trans r a)
theorem VV.mono (r : R H H') (h : VV R F te σ H v) : VV R F te σ H' v := fun H1 a => h H1 (ROk.trans r a)
/-- a datum that is its value -/
def sclV : PyData → Option V
  | .none => some .non
  | .bool b => some (.bl b)
  | .int i => some (.int i)
  | .str x => some (.str x)
  | _ => none
theorem scl_eq {H : Hp} (h : sclV d = some v) {w : V} : Da K H d w ↔ w = v := by
  cases d <;> simp only [sclV] at h <;> cases h <;> exact Iff.rfl
theorem VV.dv (h : VV R F te σ H v) (e : sclV d = some v) : DV R K F te σ H d := fun H1 a f Q q => h H1 a f Q fun H2 r => q v H2 r ((scl_eq e).mpr rfl)
theorem DV.vv (h : DV R K F te σ H d) (e : sclV d = some v) : VV R F te σ H v := fun H1 a f Q q => h H1 a f Q fun w H2 r z => by
  rw [(scl_eq e).mp z]
  exact q H2 r
/-- a value that is known -/
theorem VV.da (h : VV R F te σ H v) (e : Da K (hid F H) d v) : DV R K F te σ H d := fun H1 a f Q q => h H1 a f Q fun H2 r => q v H2 r (r_da (ROk.trans a r) e)
theorem vv_var {i : Nat} (h : σ[i]? = some (some v)) : VV R F (tVar i) σ H v := fun H1 _ _ _ q => ⟨v, h, q H1 (r_refl H1)⟩
theorem vv_c : VV R F (tC v) σ H v := fun H1 _ _ _ q => q H1 (r_refl H1)
theorem dv_var {i : Nat} (h : σ[i]? = some (some v)) (e : Da K (hid F H) d v) : DV R K F (tVar i) σ H d := (vv_var h).da e
theorem dv_c (e : Da K (hid F H) d v) : DV R K F (tC v) σ H d := vv_c.da e
theorem dv_int {i : Int} : DV R K F (tC (.int i)) σ H (.int i) := vv_c.dv rfl
theorem dv_str {x : Str} : DV R K F (tC (.str x)) σ H (.str x) := vv_c.dv rfl
theorem dv_bl {b : Bool} : DV R K F (tC (.bl b)) σ H (.bool b) := vv_c.dv rfl
theorem dv_non : DV R K F (tC .non) σ H .none := vv_c.dv rfl
/-! arguments, displays -/
theorem da_nil : DA R K F tNil σ H [] := fun H1 _ _ _ q => q [] H1 (r_refl H1) rfl
theorem da_cons {tr : TA} {ds : List PyData} (h : DV R K F ta σ H d) (hr : DA R K F tr σ H ds) : DA R K F (tCons ta tr) σ H (d :: ds) := fun H1 a f _ q =>
  h H1 a f _ fun v H2 r2 hv => hr H2 (ROk.trans a r2) (r_fd r2 f) _ fun vs H3 r3 hvs => q (v :: vs) H3 (ROk.trans r2 r3) ⟨v, vs, rfl, r_da r3 hv, hvs⟩
theorem da_new {H : Hp} {p : Addr} {ds : List PyData} {vs : List V} (f : Fd F H) (hp : H p = none) (h : DaL K (hid F H) ds vs) : Da K (hid F (upd H p (.lst vs))) (.list ds) (.ref p) :=
  ⟨p, vs, rfl, by rw [hid_upd (f.new hp), upd_same], h.mono (hid_xt (xt_of (same_new hp)))⟩
theorem da_newT {H : Hp} {p : Addr} {ds : List PyData} {vs : List V} (f : Fd F H) (hp : H p = none) (h : DaL K (hid F H) ds vs) : Da K (hid F (upd H p (.tup vs))) (.tuple ds) (.ref p) :=
  ⟨p, vs, rfl, SqT.of (by rw [hid_upd (f.new hp), upd_same]), h.mono (hid_xt (xt_of (same_new hp)))⟩
theorem dv_tup {ta : TA} {ds : List PyData} (h : DA R K F ta σ H ds) (hl : ds.length ≤ sizeLine) : DV R K F (tTup ta) σ H (.tuple ds) := fun H1 a f _ q =>
  h H1 a f _ fun vs H2 r2 hv => ⟨by rw [hv.length]; exact hl, fun p hp => q _ _ (ROk.trans r2 (r_new hp)) (da_newT (r_fd r2 f) hp hv)⟩
theorem dv_lst {ta : TA} {ds : List PyData} (h : DA R K F ta σ H ds) (hl : ds.length ≤ sizeLine) : DV R K F (tLst ta) σ H (.list ds) := fun H1 a f _ q =>
  h H1 a f _ fun vs H2 r2 hv => ⟨by rw [hv.length]; exact hl, fun p hp => q _ _ (ROk.trans r2 (r_new hp)) (da_new (r_fd r2 f) hp hv)⟩
/-! operators -/
theorem dv_op2 {r : R2} {d1 d2 : PyData} (ha : DV R K F ta σ H d1) (hb : DV R K F tb σ H d2)
    (hr : ∀ x y H1 Q, R H H1 → Fd F H1 → Da K (hid F H1) d1 x → Da K (hid F H1) d2 y → (∀ v H2, R H1 H2 → Da K (hid F H2) d v → Q v H2) → r x y H1 Q) : DV R K F (tOp r ta tb) σ H d := fun H1 a f Q q =>
  ha H1 a f _ fun x H2 r2 hx => hb H2 (ROk.trans a r2) (r_fd r2 f) _ fun y H3 r3 hy => hr x y H3 Q (ROk.trans a (ROk.trans r2 r3)) (r_fd r3 (r_fd r2 f)) (r_da r3 hx) hy fun v H4 r4 hv => q v H4 (ROk.trans (ROk.trans r2 r3) r4) hv
/-- an operation on values that leaves the heap -/
theorem dv_op {r : R2} {d1 d2 : PyData} {x y z : V} (ha : DV R K F ta σ H d1) (hb : DV R K F tb σ H d2) (e1 : sclV d1 = some x) (e2 : sclV d2 = some y) (e : sclV d = some z) (hr : ∀ H1 (Q : VK), Q z H1 → r x y H1 Q) : DV R K F (tOp r ta tb) σ H d :=
  dv_op2 ha hb fun x' y' H1 Q _ f hx hy q => by
    rw [(scl_eq e1).mp hx, (scl_eq e2).mp hy]
    exact hr H1 Q (q z H1 (r_refl H1) ((scl_eq e).mpr rfl))
/-! + - * // % -/
def rPlus (K : PySem.W.Frag) : R2 := fun x y H Q => rI0 (fun i j => V.int (i + j)) x y H Q ∨ (∃ i j, x = .str i ∧ y = .str j ∧ i.length + j.length ≤ sizeLine ∧ Q (.str (i ++ j)) H) ∨ rCat x y H Q ∨ rCatT K x y H Q
def rTimes (K : PySem.W.Frag) : R2 := fun x y H Q => rI CMul (fun i j => V.int (i * j)) x y H Q ∨ rI CMulW (fun i j => V.int (i * j)) x y H Q ∨ rRep x y H Q ∨ rRepT K x y H Q
def rLeq : R2 := fun x y H Q => rI0 (fun i j => V.bl (decide (i ≤ j))) x y H Q ∨ (∃ i j, x = .str i ∧ y = .str j ∧ Q (.bl (!decide (j.cps.toList < i.cps.toList))) H)
theorem dv_addI {i j : Int} (ha : DV R K F ta σ H (.int i)) (hb : DV R K F tb σ H (.int j)) : DV R K F (tOp (rPlus K) ta tb) σ H (.int (i + j)) :=
  dv_op ha hb rfl rfl rfl fun H1 Q q => .inl ⟨i, j, rfl, rfl, q⟩
theorem dv_addS {x y : Str} (ha : DV R K F ta σ H (.str x)) (hb : DV R K F tb σ H (.str y)) (hl : x.length + y.length ≤ sizeLine) : DV R K F (tOp (rPlus K) ta tb) σ H (.str (x ++ y)) :=
  dv_op ha hb rfl rfl rfl fun H1 Q q => .inr (.inl ⟨x, y, rfl, rfl, hl, q⟩)
theorem dv_addL {ds es : List PyData} (ha : DV R K F ta σ H (.list ds)) (hb : DV R K F tb σ H (.list es)) (hl : ds.length + es.length ≤ sizeLine) : DV R K F (tOp (rPlus K) ta tb) σ H (.list (ds ++ es)) :=
  dv_op2 ha hb fun x y H1 Q _ f ⟨a, xs, e1, h1, l1⟩ ⟨b, ys, e2, h2, l2⟩ q => .inr (.inr (.inl ⟨a, b, xs, ys, e1, e2, (hid_le h1).1, (hid_le h2).1, by rw [l1.length, l2.length]; exact hl, fun p hp => q _ _ (r_new hp) (da_new f hp (l1.append l2))⟩))
theorem dv_subI {i j : Int} (ha : DV R K F ta σ H (.int i)) (hb : DV R K F tb σ H (.int j)) : DV R K F (tOp (rI0 fun i j => V.int (i - j)) ta tb) σ H (.int (i - j)) :=
  dv_op ha hb rfl rfl rfl fun H1 Q q => ⟨i, j, rfl, rfl, q⟩
theorem dv_mulI {i j : Int} (ha : DV R K F ta σ H (.int i)) (hb : DV R K F tb σ H (.int j)) (hc : CMul i j ∨ CMulW i j) : DV R K F (tOp (rTimes K) ta tb) σ H (.int (i * j)) :=
  dv_op ha hb rfl rfl rfl fun H1 Q q => hc.elim (fun c => .inl ⟨i, j, rfl, rfl, c, q⟩) fun c => .inr (.inl ⟨i, j, rfl, rfl, c, q⟩)
theorem dv_repL {ds : List PyData} {k : Int} (ha : DV R K F ta σ H (.list ds)) (hb : DV R K F tb σ H (.int k)) (h0 : -(2 ^ 63) ≤ k) (h1 : k < 2 ^ 63) (hl : ds.length * k.toNat ≤ sizeLine) : DV R K F (tOp (rTimes K) ta tb) σ H (.list (List.replicate k.toNat ds).flatten) :=
  dv_op2 ha hb fun x y H1 Q _ f ⟨a, xs, e1, g1, l1⟩ e2 q => .inr (.inr (.inl ⟨a, k, xs, e1, e2, (hid_le g1).1, h0, h1, by rw [l1.length]; exact hl, fun p hp => q _ _ (r_new hp) (da_new f hp (l1.rep _))⟩))
theorem dv_repT {ds : List PyData} {k : Int} (ha : DV R K F ta σ H (.tuple ds)) (hb : DV R K F tb σ H (.int k)) (hd : ds ≠ []) (h0 : 2 ≤ k) (h1 : k ≤ 1000) (hl : ds.length ≤ 1000) : DV R K F (tOp (rTimes K) ta tb) σ H (.tuple (List.replicate k.toNat ds).flatten) :=
  dv_op2 ha hb fun x y H1 Q _ f ⟨a, xs, e1, g1, l1⟩ e2 q => .inr (.inr (.inr ⟨a, k, xs, e1, e2, xt_sqT xt_hid g1, fun z => hd (List.length_eq_zero_iff.mp (by rw [← l1.length, z]; rfl)), h0, h1, by rw [l1.length]; exact hl, fun p hp => q _ _ (r_new hp) (da_newT f hp (l1.rep _))⟩))
theorem dv_mod {i j : Int} (ha : DV R K F ta σ H (.int i)) (hb : DV R K F tb σ H (.int j)) (hc : 0 < j) : DV R K F (tOp (rI (fun _ j => 0 < j) fun i j => V.int (i % j)) ta tb) σ H (.int (i % j)) :=
  dv_op ha hb rfl rfl rfl fun H1 Q q => ⟨i, j, rfl, rfl, hc, q⟩
theorem dv_div {i j : Int} (ha : DV R K F ta σ H (.int i)) (hb : DV R K F tb σ H (.int j)) (hc : CDivW i j) : DV R K F (tOp (rI CDivW fun i j => V.int (i / j)) ta tb) σ H (.int (i / j)) :=
  dv_op ha hb rfl rfl rfl fun H1 Q q => ⟨i, j, rfl, rfl, hc, q⟩
theorem dv_neg {i : Int} (ha : DV R K F ta σ H (.int i)) : DV R K F (tUn (rU fun i => V.int (-i)) ta) σ H (.int (-i)) := fun H1 a f Q q =>
  ha H1 a f _ fun v H2 r hv => ⟨i, hv, q _ H2 r rfl⟩
/-! comparisons -/
theorem dv_lt {i j : Int} (ha : DV R K F ta σ H (.int i)) (hb : DV R K F tb σ H (.int j)) : DV R K F (tOp (rI0 fun i j => V.bl (decide (i < j))) ta tb) σ H (.bool (decide (i < j))) :=
  dv_op ha hb rfl rfl rfl fun H1 Q q => ⟨i, j, rfl, rfl, q⟩
theorem dv_gt {i j : Int} (ha : DV R K F ta σ H (.int i)) (hb : DV R K F tb σ H (.int j)) : DV R K F (tOp (rI0 fun i j => V.bl (decide (j < i))) ta tb) σ H (.bool (decide (j < i))) :=
  dv_op ha hb rfl rfl rfl fun H1 Q q => ⟨i, j, rfl, rfl, q⟩
theorem dv_ge {i j : Int} (ha : DV R K F ta σ H (.int i)) (hb : DV R K F tb σ H (.int j)) : DV R K F (tOp (rI0 fun i j => V.bl (decide (j ≤ i))) ta tb) σ H (.bool (decide (j ≤ i))) :=
  dv_op ha hb rfl rfl rfl fun H1 Q q => ⟨i, j, rfl, rfl, q⟩
theorem dv_le {i j : Int} (ha : DV R K F ta σ H (.int i)) (hb : DV R K F tb σ H (.int j)) : DV R K F (tOp rLeq ta tb) σ H (.bool (decide (i ≤ j))) :=
  dv_op ha hb rfl rfl rfl fun H1 Q q => .inl ⟨i, j, rfl, rfl, q⟩
theorem dv_leS {x y : Str} (ha : DV R K F ta σ H (.str x)) (hb : DV R K F tb σ H (.str y)) : DV R K F (tOp rLeq ta tb) σ H (.bool (!decide (y.cps.toList < x.cps.toList))) :=
  dv_op ha hb rfl rfl rfl fun H1 Q q => .inr ⟨x, y, rfl, rfl, q⟩
def rEqA (K : PySem.W.Frag) : R2 := fun x y H Q => rEq x y H Q ∨ rEqD K x y H Q
def rNeA (K : PySem.W.Frag) : R2 := fun x y H Q => rNe x y H Q ∨ rNeD K x y H Q
theorem dv_eqI {i j : Int} (ha : DV R K F ta σ H (.int i)) (hb : DV R K F tb σ H (.int j)) : DV R K F (tOp (rEqA K) ta tb) σ H (.bool (decide (i = j))) :=
  dv_op ha hb rfl rfl rfl fun H1 Q q => .inl ⟨rfl, by
    show Q (.bl (decide (V.int i = V.int j))) H1
    rw [dec_int, Bool.beq_eq_decide_eq]
    exact q⟩
theorem dv_eqS {i j : Str} (ha : DV R K F ta σ H (.str i)) (hb : DV R K F tb σ H (.str j)) : DV R K F (tOp (rEqA K) ta tb) σ H (.bool (decide (i = j))) :=
  dv_op ha hb rfl rfl rfl fun H1 Q q => .inl ⟨rfl, by
    show Q (.bl (decide (V.str i = V.str j))) H1
    rw [dec_str, Bool.beq_eq_decide_eq]
    exact q⟩
theorem dv_neI {i j : Int} (ha : DV R K F ta σ H (.int i)) (hb : DV R K F tb σ H (.int j)) : DV R K F (tOp (rNeA K) ta tb) σ H (.bool (!decide (i = j))) :=
  dv_op ha hb rfl rfl rfl fun H1 Q q => .inl ⟨rfl, by
    show Q (.bl (!decide (V.int i = V.int j))) H1
    rw [dec_int, Bool.beq_eq_decide_eq]
    exact q⟩
theorem dv_neS {i j : Str} (ha : DV R K F ta σ H (.str i)) (hb : DV R K F tb σ H (.str j)) : DV R K F (tOp (rNeA K) ta tb) σ H (.bool (!decide (i = j))) :=
  dv_op ha hb rfl rfl rfl fun H1 Q q => .inl ⟨rfl, by
    show Q (.bl (!decide (V.str i = V.str j))) H1
    rw [dec_str, Bool.beq_eq_decide_eq]
    exact q⟩
theorem dv_eq {d1 d2 : PyData} (ha : DV R K F ta σ H d1) (hb : DV R K F tb σ H d2) (s1 : SeqAt.shaped d1 = true) (s2 : SeqAt.shaped d2 = true) : DV R K F (tOp (rEqA K) ta tb) σ H (.bool (PyData.eqv d1 d2)) :=
  dv_op2 ha hb fun x y H1 Q _ f hx hy q => .inr ⟨d1, d2, (hx.mono xt_hid).dp, (hy.mono xt_hid).dp, s1, s2, q _ H1 (r_refl H1) rfl⟩
theorem dv_ne {d1 d2 : PyData} (ha : DV R K F ta σ H d1) (hb : DV R K F tb σ H d2) (s1 : SeqAt.shaped d1 = true) (s2 : SeqAt.shaped d2 = true) : DV R K F (tOp (rNeA K) ta tb) σ H (.bool (!PyData.eqv d1 d2)) :=
  dv_op2 ha hb fun x y H1 Q _ f hx hy q => .inr ⟨d1, d2, (hx.mono xt_hid).dp, (hy.mono xt_hid).dp, s1, s2, q _ H1 (r_refl H1) rfl⟩
/-- a chain a <= b <= c, by values -/
theorem dv_chain {tc : TE} {r r' : R2} {d1 d2 d3 : PyData} {x y z : V} {b1 b2 : Bool} (ha : DV R K F ta σ H d1) (hb : DV R K F tb σ H d2) (hc : b1 = true → DV R K F tc σ H d3) (e1 : sclV d1 = some x) (e2 : sclV d2 = some y) (e3 : sclV d3 = some z)
    (h1 : ∀ H1 (Q : VK), Q (.bl b1) H1 → r x y H1 Q) (h2 : b1 = true → ∀ H1 (Q : VK), Q (.bl b2) H1 → r' y z H1 Q) : DV R K F (tChain r r' ta tb tc) σ H (.bool (b1 && b2)) := fun H1 a f Q q =>
  ha H1 a f _ fun x' H2 r2 hx => hb H2 (ROk.trans a r2) (r_fd r2 f) _ fun y' H3 r3 hy => by
    rw [(scl_eq e1).mp hx, (scl_eq e2).mp hy]
    refine h1 H3 _ ⟨b1, rfl, ?_⟩
    cases b1 with
    | false => exact q _ H3 (ROk.trans r2 r3) rfl
    | true =>
      refine hc rfl H3 (ROk.trans a (ROk.trans r2 r3)) (r_fd r3 (r_fd r2 f)) _ fun w H4 r4 hw => ?_
      rw [(scl_eq e3).mp hw]
      exact h2 rfl H4 _ (q _ H4 (ROk.trans (ROk.trans r2 r3) r4) rfl)
theorem dv_chLe {tc : TE} {i j k : Int} (ha : DV R K F ta σ H (.int i)) (hb : DV R K F tb σ H (.int j)) (hc : DV R K F tc σ H (.int k)) : DV R K F (tChain rLeq rLeq ta tb tc) σ H (.bool (decide (i ≤ j) && decide (j ≤ k))) :=
  dv_chain ha hb (fun _ => hc) rfl rfl rfl (fun _ _ q => .inl ⟨i, j, rfl, rfl, q⟩) fun _ _ _ q => .inl ⟨j, k, rfl, rfl, q⟩
theorem dv_chLeS {tc : TE} {i j k : Str} (ha : DV R K F ta σ H (.str i)) (hb : DV R K F tb σ H (.str j)) (hc : DV R K F tc σ H (.str k)) : DV R K F (tChain rLeq rLeq ta tb tc) σ H (.bool (!decide (j.cps.toList < i.cps.toList) && !decide (k.cps.toList < j.cps.toList))) :=
  dv_chain ha hb (fun _ => hc) rfl rfl rfl (fun _ _ q => .inr ⟨i, j, rfl, rfl, q⟩) fun _ _ _ q => .inr ⟨j, k, rfl, rfl, q⟩
/-! subscripts, slices, len -/
theorem dv_ixL {ds : List PyData} {i : Int} (ha : DV R K F ta σ H (.list ds)) (hb : DV R K F tb σ H (.int i)) (he : atI ds i = some d) : DV R K F (tOp (rIx K) ta tb) σ H d :=
  dv_op2 ha hb fun x y H1 Q _ f ⟨a, xs, e1, g1, l1⟩ e2 q => by
    obtain ⟨j, h1, h2⟩ : ∃ j, ixN ds.length i = some j ∧ ds[j]? = some d := by
      unfold atI at he
      cases e : ixN ds.length i with
      | none => rw [e] at he; cases he
      | some j => rw [e] at he; exact ⟨j, rfl, he⟩
    obtain ⟨v, g2, g3⟩ := l1.get h2
    exact .inl ⟨a, xs, i, v, e1, e2, SqL.of (hid_le g1).1, by unfold atI; rw [l1.length, h1]; exact g2, q v H1 (r_refl H1) g3⟩
theorem dv_ixT {ds : List PyData} {i : Int} (ha : DV R K F ta σ H (.tuple ds)) (hb : DV R K F tb σ H (.int i)) (he : atI ds i = some d) : DV R K F (tOp (rIx K) ta tb) σ H d :=
  dv_op2 ha hb fun x y H1 Q _ f ⟨a, xs, e1, g1, l1⟩ e2 q => by
    obtain ⟨j, h1, h2⟩ : ∃ j, ixN ds.length i = some j ∧ ds[j]? = some d := by
      unfold atI at he
      cases e : ixN ds.length i with
      | none => rw [e] at he; cases he
      | some j => rw [e] at he; exact ⟨j, rfl, he⟩
    obtain ⟨v, g2, g3⟩ := l1.get h2
    exact .inr (.inl ⟨a, xs, i, v, e1, e2, xt_sqT xt_hid g1, by unfold atI; rw [l1.length, h1]; exact g2, q v H1 (r_refl H1) g3⟩)
theorem dv_ixS {x : Str} {i : Int} {c : Nat} (ha : DV R K F ta σ H (.str x)) (hb : DV R K F tb σ H (.int i)) (hl : x.length ≤ sizeLine) (he : atI x.cps.toList i = some c) : DV R K F (tOp (rIx K) ta tb) σ H (.str ⟨#[c]⟩) :=
  dv_op ha hb rfl rfl rfl fun H1 Q q => .inr (.inr ⟨x, i, c, rfl, rfl, hl, he, q⟩)
theorem do_none : DO R F tNoPart σ H none := fun H1 _ _ _ q => q H1 (r_refl H1)
theorem do_some {i : Int} (h : DV R K F te σ H (.int i)) : DO R F (tPart te) σ H (some i) := fun H1 a f _ q => h H1 a f _ fun v H2 r hv => ⟨i, hv, q H2 r⟩
def rSli (K : PySem.W.Frag) : V → Option Int → Option Int → Hp → VK → Prop := fun x lo hi H Q => rSlL K x lo hi H Q ∨ rSlS x lo hi H Q ∨ rSlT K x lo hi H Q
/-- the items of ds[lo:hi] -/
def cutD (ds : List PyData) (lo hi : Option Int) : List PyData := (ds.drop (HT.sIx ds.length 0 lo)).take (HT.sIx ds.length ds.length hi - HT.sIx ds.length 0 lo)
theorem dal_cut {H : Hp} {ds : List PyData} {vs : List V} (h : DaL K H ds vs) (lo hi : Option Int) : DaL K H (cutD ds lo hi) (cutV vs lo hi) := by
  unfold cutD cutV
  rw [h.length]
  exact (h.drop _).take _
theorem dv_slL {tl th : TO} {ds : List PyData} {lo hi : Option Int} (h : DV R K F te σ H (.list ds)) (h1 : DO R F tl σ H lo) (h2 : DO R F th σ H hi) : DV R K F (tSl (rSli K) te tl th) σ H (.list (cutD ds lo hi)) := fun H1 a f Q q =>
  h H1 a f _ fun x H2 r2 hx => h1 H2 (ROk.trans a r2) (r_fd r2 f) _ fun H3 r3 => h2 H3 (ROk.trans (ROk.trans a r2) r3) (r_fd r3 (r_fd r2 f)) _ fun H4 r4 => by
    obtain ⟨b, xs, e1, g1, l1⟩ := r_da (ROk.trans r3 r4) hx
    exact .inl ⟨b, xs, e1, SqL.of (hid_le g1).1, fun p hp => q _ _ (ROk.trans (ROk.trans r2 (ROk.trans r3 r4)) (r_new hp)) (da_new (r_fd r4 (r_fd r3 (r_fd r2 f))) hp (dal_cut l1 lo hi))⟩
theorem dv_slS {tl th : TO} {x : Str} {lo hi : Option Int} (h : DV R K F te σ H (.str x)) (h1 : DO R F tl σ H lo) (h2 : DO R F th σ H hi) (hl : x.length ≤ sizeLine) : DV R K F (tSl (rSli K) te tl th) σ H (.str (cutS x lo hi)) := fun H1 a f Q q =>
  h H1 a f _ fun v H2 r2 hx => h1 H2 (ROk.trans a r2) (r_fd r2 f) _ fun H3 r3 => h2 H3 (ROk.trans (ROk.trans a r2) r3) (r_fd r3 (r_fd r2 f)) _ fun H4 r4 =>
    .inr (.inl ⟨x, hx, hl, q _ H4 (ROk.trans r2 (ROk.trans r3 r4)) rfl⟩)
def rLn (K : PySem.W.Frag) : List V → Hp → VK → Prop := fun xs H Q => ∃ x n, xs = [x] ∧ LenV K x H n ∧ Q (.int n) H
theorem dv_cb {r : List V → Hp → VK → Prop} {ta : TA} {ds : List PyData} (h : DA R K F ta σ H ds) (hr : ∀ vs H1 (Q : VK), R H H1 → Fd F H1 → DaL K (hid F H1) ds vs → (∀ v H2, R H1 H2 → Da K (hid F H2) d v → Q v H2) → r vs H1 Q) : DV R K F (tCB r ta) σ H d := fun H1 a f Q q =>
  h H1 a f _ fun vs H2 r2 hv => hr vs H2 Q (ROk.trans a r2) (r_fd r2 f) hv fun v H3 r3 g => q v H3 (ROk.trans r2 r3) g
theorem dal1 {H : Hp} {vs : List V} (h : DaL K H [d] vs) : ∃ v, vs = [v] ∧ Da K H d v := by
  obtain ⟨w, r, h1, h2, h3⟩ := h
  exact ⟨w, by rw [h1, show r = [] from h3], h2⟩
theorem dal2 {H : Hp} {d2 : PyData} {vs : List V} (h : DaL K H [d, d2] vs) : ∃ v u, vs = [v, u] ∧ Da K H d v ∧ Da K H d2 u := by
  obtain ⟨w, r, h1, h2, h3⟩ := h
  obtain ⟨u, e, h4⟩ := dal1 h3
  exact ⟨w, u, by rw [h1, e], h2, h4⟩
theorem dv_lenL {ds : List PyData} (h : DV R K F ta σ H (.list ds)) : DV R K F (tCB (rLn K) (tCons ta tNil)) σ H (.int ds.length) :=
  dv_cb (da_cons h da_nil) fun vs H1 Q _ f hv q => by
    obtain ⟨v, rfl, a, xs, rfl, g, l⟩ := dal1 hv
    exact ⟨_, xs.length, rfl, .inl ⟨xs, SqL.of (hid_le g).1, rfl⟩, q _ H1 (r_refl H1) (by rw [l.length]; rfl)⟩
theorem dv_lenT {ds : List PyData} (h : DV R K F ta σ H (.tuple ds)) : DV R K F (tCB (rLn K) (tCons ta tNil)) σ H (.int ds.length) :=
  dv_cb (da_cons h da_nil) fun vs H1 Q _ f hv q => by
    obtain ⟨v, rfl, a, xs, rfl, g, l⟩ := dal1 hv
    exact ⟨_, xs.length, rfl, .inr ⟨xs, xt_sqT xt_hid g, rfl⟩, q _ H1 (r_refl H1) (by rw [l.length]; rfl)⟩
theorem dv_lenS {x : Str} (h : DV R K F ta σ H (.str x)) (hl : x.length ≤ sizeLine) : DV R K F (tCB (rLn K) (tCons ta tNil)) σ H (.int x.length) :=
  dv_cb (da_cons h da_nil) fun vs H1 Q _ f hv q => by
    obtain ⟨v, rfl, e⟩ := dal1 hv
    have e : v = .str x := e
    subst e
    exact ⟨_, x.length, rfl, ⟨hl, rfl⟩, q _ H1 (r_refl H1) rfl⟩
/-! tests -/
theorem dt_test {b : Bool} (h : DV R K F te σ H (.bool b)) : DT R F (tTest te) σ H b := fun H1 a f _ q => h H1 a f _ fun v H2 r hv => ⟨b, hv, q H2 r⟩
theorem dt_B {b : Bool} (h : DV R K F te σ H (.bool b)) : DT R F (tB te) σ H b := fun H1 a f _ q => h H1 a f _ fun v H2 r hv => ⟨b, hv, q H2 r⟩
theorem dt_and {t u : TT} {a b : Bool} (h1 : DT R F t σ H a) (h2 : a = true → DT R F u σ H b) : DT R F (tAnd t u) σ H (a && b) := fun H1 e f Q q => h1 H1 e f _ fun H2 r2 => by
  cases a with
  | true => exact h2 rfl H2 (ROk.trans e r2) (r_fd r2 f) Q fun H3 r3 => q H3 (ROk.trans r2 r3)
  | false => exact q H2 r2
theorem dt_or {t u : TT} {a b : Bool} (h1 : DT R F t σ H a) (h2 : a = false → DT R F u σ H b) : DT R F (tOr t u) σ H (a || b) := fun H1 e f Q q => h1 H1 e f _ fun H2 r2 => by
  cases a with
  | false => exact h2 rfl H2 (ROk.trans e r2) (r_fd r2 f) Q fun H3 r3 => q H3 (ROk.trans r2 r3)
  | true => exact q H2 r2
theorem dt_not {t : TT} {a : Bool} (h : DT R F t σ H a) : DT R F (tNot t) σ H (!a) := fun H1 e f _ q => h H1 e f _ q
theorem dt_is {t : TT} {a b : Bool} (h : DT R F t σ H a) (e : a = b) : DT R F t σ H b := e ▸ h
theorem dv_is {d' : PyData} (h : DV R K F te σ H d) (e : d = d') : DV R K F te σ H d' := e ▸ h
theorem dv_and {a b : Bool} (h1 : DV R K F ta σ H (.bool a)) (h2 : a = true → DV R K F tb σ H (.bool b)) : DV R K F (tAndV ta tb) σ H (.bool (a && b)) := fun H1 e f Q q => h1 H1 e f _ fun v H2 r2 hv => ⟨a, hv, by
  cases a with
  | true => exact h2 rfl H2 (ROk.trans e r2) (r_fd r2 f) Q fun w H3 r3 => q w H3 (ROk.trans r2 r3)
  | false => exact q _ H2 r2 rfl⟩
theorem dv_or {a b : Bool} (h1 : DV R K F ta σ H (.bool a)) (h2 : a = false → DV R K F tb σ H (.bool b)) : DV R K F (tOrV ta tb) σ H (.bool (a || b)) := fun H1 e f Q q => h1 H1 e f _ fun v H2 r2 hv => ⟨a, hv, by
  cases a with
  | false => exact h2 rfl H2 (ROk.trans e r2) (r_fd r2 f) Q fun w H3 r3 => q w H3 (ROk.trans r2 r3)
  | true => exact q _ H2 r2 rfl⟩
theorem dv_not {a : Bool} (h : DV R K F ta σ H (.bool a)) : DV R K F (tNotV ta) σ H (.bool (!a)) := fun H1 e f _ q => h H1 e f _ fun v H2 r hv => ⟨a, hv, q _ H2 r rfl⟩
theorem dv_if {t : TT} {b : Bool} (h : DT R F t σ H b) (h1 : b = true → DV R K F ta σ H d) (h2 : b = false → DV R K F tb σ H d) : DV R K F (tIf t ta tb) σ H d := fun H1 e f Q q => h H1 e f _ fun H2 r2 => by
  cases b with
  | true => exact h1 rfl H2 (ROk.trans e r2) (r_fd r2 f) Q fun w H3 r3 => q w H3 (ROk.trans r2 r3)
  | false => exact h2 rfl H2 (ROk.trans e r2) (r_fd r2 f) Q fun w H3 r3 => q w H3 (ROk.trans r2 r3)
/-! a def's call -/
theorem dv_call {sp : Sp} {E : XK} {ta : TA} {ds : List PyData} (h : DA R K F ta σ H ds) (hs : SD K sp ds d) : DV R K F (tCall sp [] E ta) σ H d := fun H1 e f Q q =>
  h H1 e f _ fun vs H2 r2 hv => by
    rw [List.append_nil]
    exact hs F vs H2 (r_fd r2 f) hv Q E fun v H3 s3 g => q v H3 (ROk.trans r2 (ROk.same s3)) g
end
end Sc

namespace Sc
open PySem PySem.Spec PyProof.Rows L2
open RZ (ItzT iZipA)
/-! ### shapes that == takes: no dicts, not deep -/
def Sh (n : Nat) (d : PyData) : Prop := d.canLay0 = true ∧ d.depth ≤ n
def ShL (n : Nat) (ds : List PyData) : Prop := PyData.canLayAll0 ds = true ∧ PyData.depthAll ds ≤ n
theorem Sh.s {n : Nat} {d : PyData} (h : Sh n d) (hn : n ≤ 64 := by decide) : SeqAt.shaped d = true := by
  unfold SeqAt.shaped
  rw [h.1, decide_eq_true (Nat.le_trans h.2 hn)]
  rfl
theorem Sh.mono {n m : Nat} {d : PyData} (h : Sh n d) (hn : n ≤ m) : Sh m d := ⟨h.1, Nat.le_trans h.2 hn⟩
theorem ShL.mono {n m : Nat} {d : List PyData} (h : ShL n d) (hn : n ≤ m) : ShL m d := ⟨h.1, Nat.le_trans h.2 hn⟩
theorem sh_none {n : Nat} : Sh n .none := ⟨rfl, Nat.zero_le _⟩
theorem sh_bool {n : Nat} {b : Bool} : Sh n (.bool b) := ⟨rfl, Nat.zero_le _⟩
theorem sh_int {n : Nat} {i : Int} : Sh n (.int i) := ⟨rfl, Nat.zero_le _⟩
theorem sh_str {n : Nat} {x : Str} (h : PyData.strOk x = true) : Sh n (.str x) := ⟨h, Nat.zero_le _⟩
theorem shl_nil {n : Nat} : ShL n [] := ⟨rfl, Nat.zero_le _⟩
theorem shl_cons {n : Nat} {d : PyData} {ds : List PyData} (h : Sh n d) (hs : ShL n ds) : ShL n (d :: ds) := by
  refine ⟨?_, ?_⟩
  · show (d.canLay0 && PyData.canLayAll0 ds) = true
    rw [h.1, hs.1]
    rfl
  · show max d.depth (PyData.depthAll ds) ≤ n
    exact Nat.max_le.mpr ⟨h.2, hs.2⟩
theorem sh_list {n : Nat} {ds : List PyData} (h : ShL n ds) : Sh (n + 1) (.list ds) := ⟨h.1, by show PyData.depthAll ds + 1 ≤ n + 1; exact Nat.succ_le_succ h.2⟩
theorem sh_tuple {n : Nat} {ds : List PyData} (h : ShL n ds) : Sh (n + 1) (.tuple ds) := ⟨h.1, by show PyData.depthAll ds + 1 ≤ n + 1; exact Nat.succ_le_succ h.2⟩
theorem shl_all {n : Nat} : ∀ {ds : List PyData}, (∀ d ∈ ds, Sh n d) → ShL n ds
  | [], _ => shl_nil
  | d :: ds, h => shl_cons (h d List.mem_cons_self) (shl_all fun e he => h e (List.mem_cons_of_mem _ he))
theorem shaped_int (i : Int) : SeqAt.shaped (.int i) = true := sh_int.s (n := 0)
/-! ### kinds -/
def tyD : PyData → String
  | .none => "NoneType"
  | .bool _ => "bool"
  | .int _ => "int"
  | .str _ => "str"
  | .list _ => "list"
  | .tuple _ => "tuple"
  | .dict _ => "dict"
theorem ty_of {K : PySem.W.Frag} {H : Hp} : ∀ {d : PyData} {v : V}, Da K H d v → TyX K H v (.type (tyD d))
  | .none, _, h => by cases h; exact .base .non
  | .bool _, _, h => by cases h; exact .base (.bl _)
  | .int _, _, h => by cases h; exact .base (.int _)
  | .str _, _, h => by cases h; exact .base (.str _)
  | .list ds, _, h => by
    obtain ⟨a, xs, h1, h2, h3⟩ := h
    cases h1
    exact .base (.lst h2)
  | .tuple ds, _, h => by
    obtain ⟨a, xs, h1, h2, h3⟩ := h
    cases h1
    rcases h2 with (h | ⟨o, h⟩) | ⟨o, its, n, h, c, _⟩
    · exact .base (.tup h)
    · exact .fTuple h
    · exact .kTuple h c
  | .dict _, _, h => h.elim
def isStr : PyData → Bool
  | .str _ => true
  | _ => false
def isTup : PyData → Bool
  | .tuple _ => true
  | _ => false
def isLst : PyData → Bool
  | .list _ => true
  | _ => false
def isBool : PyData → Bool
  | .bool _ => true
  | _ => false
def isInt : PyData → Bool
  | .int _ => true
  | .bool _ => true
  | _ => false
theorem kit_str : ∀ d, kitB (tyD d) "str" = some (isStr d) := by intro d; cases d <;> (simp only [tyD, isStr, isTup, isLst, isBool, isInt]; decide +kernel)
theorem kit_tup : ∀ d, kitB (tyD d) "tuple" = some (isTup d) := by intro d; cases d <;> (simp only [tyD, isStr, isTup, isLst, isBool, isInt]; decide +kernel)
theorem kit_lst : ∀ d, kitB (tyD d) "list" = some (isLst d) := by intro d; cases d <;> (simp only [tyD, isStr, isTup, isLst, isBool, isInt]; decide +kernel)
theorem kit_bool : ∀ d, kitB (tyD d) "bool" = some (isBool d) := by intro d; cases d <;> (simp only [tyD, isStr, isTup, isLst, isBool, isInt]; decide +kernel)
theorem kit_int : ∀ d, kitB (tyD d) "int" = some (isInt d) := by intro d; cases d <;> (simp only [tyD, isStr, isTup, isLst, isBool, isInt]; decide +kernel)
section
variable {R : Hp → Hp → Prop} [ROk R] {K : PySem.W.Frag} {F : List Addr} {σ : L2.St} {H H' : Hp} {ta tb te : TE} {d : PyData} {v : V}
theorem dv_isi {c : String} {b : Bool} (h : DV R K F ta σ H d) (hk : kitB (tyD d) c = some b) : DV R K F (tCB (rIsi K) (tCons ta (tCons (tC (.ty c)) tNil))) σ H (.bool b) := fun H1 a f Q q =>
  h H1 a f _ fun v H2 r2 hv => ⟨v, .ty c, _, _, b, rfl, .ty c, ty_of (hv.mono xt_hid), kit_ty hk, q _ H2 r2 rfl⟩
theorem dv_isStr (h : DV R K F ta σ H d) : DV R K F (tCB (rIsi K) (tCons ta (tCons (tC (.ty "str")) tNil))) σ H (.bool (isStr d)) := dv_isi h (kit_str d)
theorem dv_isTup (h : DV R K F ta σ H d) : DV R K F (tCB (rIsi K) (tCons ta (tCons (tC (.ty "tuple")) tNil))) σ H (.bool (isTup d)) := dv_isi h (kit_tup d)
theorem dv_isLst (h : DV R K F ta σ H d) : DV R K F (tCB (rIsi K) (tCons ta (tCons (tC (.ty "list")) tNil))) σ H (.bool (isLst d)) := dv_isi h (kit_lst d)
theorem dv_isBool (h : DV R K F ta σ H d) : DV R K F (tCB (rIsi K) (tCons ta (tCons (tC (.ty "bool")) tNil))) σ H (.bool (isBool d)) := dv_isi h (kit_bool d)
theorem dv_isInt (h : DV R K F ta σ H d) : DV R K F (tCB (rIsi K) (tCons ta (tCons (tC (.ty "int")) tNil))) σ H (.bool (isInt d)) := dv_isi h (kit_int d)
/-! ### in -/
def rMem (K : PySem.W.Frag) : R2 := fun x y H Q => rIn K false x y H Q ∨ (∃ (c : Nat) (z : Str), x = .str ⟨#[c]⟩ ∧ y = .str z ∧ Q (.bl (decide (c ∈ z.cps.toList))) H)
def rNotMem (K : PySem.W.Frag) : R2 := fun x y H Q => rIn K true x y H Q ∨ (∃ (c : Nat) (z : Str), x = .str ⟨#[c]⟩ ∧ y = .str z ∧ Q (.bl (!decide (c ∈ z.cps.toList))) H)
theorem dv_inS {c : Nat} {z : Str} (ha : DV R K F ta σ H (.str ⟨#[c]⟩)) (hb : DV R K F tb σ H (.str z)) : DV R K F (tOp (rMem K) ta tb) σ H (.bool (decide (c ∈ z.cps.toList))) :=
  dv_op ha hb rfl rfl rfl fun H1 Q q => .inr ⟨c, z, rfl, rfl, q⟩
theorem dal_strs {H : Hp} : ∀ {xs : List Str} {vs : List V}, DaL K H (xs.map PyData.str) vs → vs = xs.map V.str
  | [], _, h => h
  | b :: bs, _, h => by
    obtain ⟨w, r, h1, h2, h3⟩ := h
    have h2 : w = V.str b := h2
    rw [h1, h2, dal_strs h3]
    rfl
theorem inV_strs (x : Str) (xs : List Str) : inV (.str x) (xs.map V.str) = decide (x ∈ xs) := by
  induction xs with
  | nil => rfl
  | cons y r ih =>
    show (eqV (V.str y) (V.str x) || inV (.str x) (r.map V.str)) = _
    rw [ih]
    show ((y == x) || decide (x ∈ r)) = _
    by_cases e : y = x
    · simp [e]
    · have e2 : ¬ x = y := fun z => e z.symm
      simp [e, e2]
theorem flat_strs (xs : List Str) : (xs.map V.str).all flatV = true := by
  induction xs with
  | nil => rfl
  | cons y r ih =>
    show (flatV (V.str y) && (r.map V.str).all flatV) = true
    rw [ih]
    rfl
theorem dv_inT {x : Str} {xs : List Str} (ha : DV R K F ta σ H (.str x)) (hb : DV R K F tb σ H (.tuple (xs.map PyData.str))) : DV R K F (tOp (rMem K) ta tb) σ H (.bool (decide (x ∈ xs))) :=
  dv_op2 ha hb fun u y H1 Q _ f e1 ⟨a, vs, e2, g, l⟩ q => by
    have e1 : u = .str x := e1
    have l := dal_strs l
    subst e1 l
    refine .inl ⟨a, _, e2, .inr (xt_sqT xt_hid g), rfl, flat_strs xs, ?_⟩
    rw [if_neg Bool.false_ne_true, inV_strs]
    exact q _ H1 (r_refl H1) rfl
theorem dv_ninT {x : Str} {xs : List Str} (ha : DV R K F ta σ H (.str x)) (hb : DV R K F tb σ H (.tuple (xs.map PyData.str))) : DV R K F (tOp (rNotMem K) ta tb) σ H (.bool (!decide (x ∈ xs))) :=
  dv_op2 ha hb fun u y H1 Q _ f e1 ⟨a, vs, e2, g, l⟩ q => by
    have e1 : u = .str x := e1
    have l := dal_strs l
    subst e1 l
    refine .inl ⟨a, _, e2, .inr (xt_sqT xt_hid g), rfl, flat_strs xs, ?_⟩
    rw [if_pos rfl, inV_strs]
    exact q _ H1 (r_refl H1) rfl
theorem dv_ord {c : Nat} (h : DV R K F ta σ H (.str ⟨#[c]⟩)) : DV R K F (tCB (fun xs H Q => ∃ x, xs = [V.str x] ∧ x.length = 1 ∧ Q (V.int ((x.cps.getD 0 0 : Nat) : Int)) H) (tCons ta tNil)) σ H (.int (c : Int)) :=
  dv_cb (da_cons h da_nil) fun vs H1 Q _ f hv q => by
    obtain ⟨v, rfl, e⟩ := dal1 hv
    have e : v = .str ⟨#[c]⟩ := e
    subst e
    exact ⟨_, rfl, rfl, q _ H1 (r_refl H1) rfl⟩
/-! ### all -/
theorem dv_all {bs : List Bool} (h : DV R K F ta σ H (.list (bs.map PyData.bool))) : DV R K F (tCB (rAll K) (tCons ta tNil)) σ H (.bool (bs.all id)) :=
  dv_cb (da_cons h da_nil) fun vs H1 Q _ f hv q => by
    obtain ⟨v, rfl, a, xs, rfl, g, l⟩ := dal1 hv
    have l := DaL.bools l
    subst l
    exact ⟨a, bs, rfl, SqL.of (hid_le g).1, q _ H1 (r_refl H1) rfl⟩
/-! ### comprehensions: the new list at D is the comprehension's own -/
/-- the world within: the outer data are there, F' besides -/
structure Wi (R : Hp → Hp → Prop) (F : List Addr) (H : Hp) (F' : List Addr) (H1 : Hp) : Prop where
  r : R H H1
  x : Xt (hid F H) (hid F' H1)
  f : Fd F' H1
theorem Wi.da {F' : List Addr} {H1 : Hp} (w : Wi R F H F' H1) (h : Da K (hid F H) d v) : Da K (hid F' H1) d v := h.mono w.x
theorem lc_gen {J : It} {n : Nat} {G : Hp → Prop} {Y : Nat → Hp → V → Hp → Prop} (w : Walk J n G Y) {g : TG} {te : TE} {vs : List Nat} {H2 : Hp} {D : Addr} {Q : VK} {gs : List PyData}
    (f : Fd F H2) (hD : H2 D = none) (hn : n = gs.length) (hl : gs.length ≤ sizeLine) (hG : ∀ H1, R H2 H1 → G H1)
    (hs : ∀ i x H1 H1' e, gs[i]? = some e → Wi R F H2 (D :: F) H1 → Y i H1 x H1' → ∀ Q' : VK, (∀ y H3, Wi R F H2 (D :: F) H3 → (∀ acc, H1 D = some (.lst acc) → H3 D = some (.lst acc)) → Xt (hid (D :: F) H1) (hid (D :: F) H3) → Da K (hid (D :: F) H3) e y → Q' y H3) → g x (wipe σ vs) H1' fun σ2 H3 => wipe σ2 vs = wipe σ vs ∧ te σ2 H3 Q')
    (hq : ∀ H3, R H2 H3 → Da K (hid F H3) (.list gs) (.ref D) → Q (.ref D) H3) :
    ∃ W : Nat → Nat → Hp → Prop, (∃ m, W 0 m (upd H2 D (.lst []))) ∧ ∀ i m H, W i m H →
      (J.stop i H ∧ Q (.ref D) H) ∨ (J.go i H ∧ ∃ Nx : Hp → Prop, (∀ H', Nx H' → ∃ m', m' < m ∧ W (i + 1) m' H') ∧ ∀ x H', J.yld i H x H' → g x (wipe σ vs) H' fun σ2 H2 => wipe σ2 vs = wipe σ vs ∧ tYes σ2 H2 fun b H3 =>
        if b = true then te σ2 H3 fun y H4 => ∃ acc, H4 D = some (.lst acc) ∧ acc.length < sizeLine ∧ Nx (upd H4 D (.lst (acc ++ [y]))) else Nx H3) := by
  have nD : D ∉ F := f.new hD
  have wi : ∀ H1, R H2 H1 → Fd (D :: F) H1 → Wi R F H2 (D :: F) H1 := fun H1 r f1 => ⟨r, fun b o e nt => by
    obtain ⟨e1, e2⟩ := hid_le e
    rw [hid_out (by
      intro z
      rcases List.mem_cons.mp z with z | z
      · rw [z, hD] at e1; cases e1
      · exact e2 z)]
    exact ROk.ext r b o e1 nt, f1⟩
  refine lc_it w (fun i H1 => R H2 H1 ∧ Fd F H1 ∧ ∃ acc, H1 D = some (.lst acc) ∧ DaL K (hid (D :: F) H1) (gs.take i) acc) ?_ ?_ ?_ ?_
  · exact ⟨r_new hD, r_fd (r_new (R := R) hD) f, [], upd_same, by rw [List.take_zero]; rfl⟩
  · exact fun i H1 _ h => hG H1 h.1
  · rintro i x H1 H1' hi ⟨r1, f1, acc, hacc, l⟩ y
    have hig : i < gs.length := by omega
    obtain ⟨e, he⟩ : ∃ e, gs[i]? = some e := ⟨gs[i], by simp [hig]⟩
    have f1' : Fd (D :: F) H1 := f1.cons hacc fun ps z => by cases z
    refine hs i x H1 H1' e he (wi H1 r1 f1') y _ fun y H3 w3 hk x3 hy => ?_
    refine ⟨acc, hk acc hacc, ?_, ?_⟩
    · have := l.length
      rw [List.length_take] at this
      omega
    · have r4 : R H2 (upd H3 D (.lst (acc ++ [y]))) := ROk.chg hD (hk acc hacc) w3.r
      have hx : Xt (hid (D :: F) H3) (hid (D :: F) (upd H3 D (.lst (acc ++ [y])))) := fun b o e nt => by
        obtain ⟨e1, e2⟩ := hid_le e
        rw [hid_out e2, upd_ne fun z => e2 (by rw [z]; exact List.mem_cons_self)]
        exact e1
      refine ⟨r4, r_fd r4 f, _, upd_same, ?_⟩
      have et : gs.take (i + 1) = gs.take i ++ [e] := by
        rw [List.take_succ, he]
        rfl
      rw [et]
      exact ((l.mono x3).mono hx).snoc (hy.mono hx)
  · rintro H1 ⟨r1, f1, acc, hacc, l⟩
    rw [hn, List.take_length] at l
    refine hq H1 r1 ⟨D, acc, rfl, by rw [hid_out nD]; exact hacc, l.mono (hid_sub fun b hb => List.mem_cons_of_mem _ hb)⟩
/-- [e for x in l], l a list -/
theorem dv_lcL {i : Nat} {ds gs : List PyData} (h : DV R K F ta σ H (.list ds)) (hn : gs.length = ds.length) (hl : ds.length ≤ sizeLine) (hi : ∀ v : V, wipe ((wipe σ [i]).set i (some v)) [i] = wipe σ [i])
    (hb : ∀ (F' : List Addr) (H1 : Hp) (v : V) (j : Nat) (d e : PyData), Wi R F H F' H1 → ds[j]? = some d → gs[j]? = some e → Da K (hid F' H1) d v → DV R K F' te ((wipe σ [i]).set i (some v)) H1 e) :
    DV R K F (tLc (iList K ta) (gName i) tYes te [i]) σ H (.list gs) := fun H1 a f Q q =>
  h H1 a f _ fun v H2 r2 hv => by
    obtain ⟨b, xs, e1, g, l⟩ := hv
    refine ⟨b, e1, ⟨xs, SqL.of (hid_le g).1⟩, fun D hD => ?_⟩
    have f2 := r_fd r2 f
    refine lc_gen (R := R) (K := K) (F := F) (gs := gs) (walk_list (xs := xs)) f2 hD (by rw [l.length, hn]) (by rw [hn]; exact hl) (fun H3 r3 => xt_sqL (ROk.ext r3) (SqL.of (hid_le g).1)) ?_ fun H3 r3 hd => q _ H3 (ROk.trans r2 r3) hd
    rintro j x H3 H3' e he w3 ⟨rfl, hx⟩ Q' q'
    obtain ⟨d, hd, hdv⟩ := l.get' hx
    refine ⟨hi x, ?_⟩
    have w0 : Wi R F H (D :: F) H3' := ⟨ROk.trans (ROk.trans a r2) w3.r, fun b o e nt => w3.x b o (hid_xt (ROk.ext (ROk.trans a r2)) b o e nt) nt, w3.f⟩
    refine hb (D :: F) H3' x j d e w0 hd he (hdv.mono w3.x) H3' (r_refl H3') w3.f Q' fun y H4 r4 hy => ?_
    exact q' y H4 ⟨ROk.trans w3.r r4, fun b o e nt => hid_xt (ROk.ext r4) b o (w3.x b o e nt) nt, r_fd r4 w3.f⟩ (fun acc hacc => ROk.ext r4 _ _ hacc fun ps z => by cases z) (hid_xt (ROk.ext r4)) hy
/-- [e for x in t], t a tuple -/
theorem dv_lcT {i : Nat} {ds gs : List PyData} (h : DV R K F ta σ H (.tuple ds)) (hn : gs.length = ds.length) (hl : ds.length ≤ sizeLine) (hi : ∀ v : V, wipe ((wipe σ [i]).set i (some v)) [i] = wipe σ [i])
    (hb : ∀ (F' : List Addr) (H1 : Hp) (v : V) (j : Nat) (d e : PyData), Wi R F H F' H1 → ds[j]? = some d → gs[j]? = some e → Da K (hid F' H1) d v → DV R K F' te ((wipe σ [i]).set i (some v)) H1 e) :
    DV R K F (tLc (iTup K ta) (gName i) tYes te [i]) σ H (.list gs) := fun H1 a f Q q =>
  h H1 a f _ fun v H2 r2 hv => by
    obtain ⟨b, xs, e1, g, l⟩ := hv
    refine ⟨b, e1, ⟨xs, xt_sqT xt_hid g⟩, fun D hD => ?_⟩
    have f2 := r_fd r2 f
    refine lc_gen (R := R) (K := K) (F := F) (gs := gs) (walk_tup (xs := xs)) f2 hD (by rw [l.length, hn]) (by rw [hn]; exact hl) (fun H3 r3 => xt_sqT (ROk.ext r3) (xt_sqT xt_hid g)) ?_ fun H3 r3 hd => q _ H3 (ROk.trans r2 r3) hd
    rintro j x H3 H3' e he w3 ⟨rfl, hx⟩ Q' q'
    obtain ⟨d, hd, hdv⟩ := l.get' hx
    refine ⟨hi x, ?_⟩
    have w0 : Wi R F H (D :: F) H3' := ⟨ROk.trans (ROk.trans a r2) w3.r, fun b o e nt => w3.x b o (hid_xt (ROk.ext (ROk.trans a r2)) b o e nt) nt, w3.f⟩
    refine hb (D :: F) H3' x j d e w0 hd he (hdv.mono w3.x) H3' (r_refl H3') w3.f Q' fun y H4 r4 hy => ?_
    exact q' y H4 ⟨ROk.trans w3.r r4, fun b o e nt => hid_xt (ROk.ext r4) b o (w3.x b o e nt) nt, r_fd r4 w3.f⟩ (fun acc hacc => ROk.ext r4 _ _ hacc fun ps z => by cases z) (hid_xt (ROk.ext r4)) hy
/-- [e for x in range(n)] -/
theorem dv_lcR {i : Nat} {n : Int} {gs : List PyData} (h : DV R K F ta σ H (.int n)) (hn : gs.length = n.toNat) (hl : n ≤ 1000000) (h0 : -1000000 ≤ n) (hi : ∀ v : V, wipe ((wipe σ [i]).set i (some v)) [i] = wipe σ [i])
    (hb : ∀ (F' : List Addr) (H1 : Hp) (j : Nat) (e : PyData), Wi R F H F' H1 → gs[j]? = some e → DV R K F' te ((wipe σ [i]).set i (some (.int (j : Int)))) H1 e) :
    DV R K F (tLc (iRng1 (tCons ta tNil)) (gName i) tYes te [i]) σ H (.list gs) := fun H1 a f Q q =>
  h H1 a f _ fun v H2 r2 hv => by
    have hv : v = .int n := hv
    subst hv
    refine ⟨n, rfl, by omega, by omega, fun D hD => ?_⟩
    have f2 := r_fd r2 f
    refine lc_gen (R := R) (K := K) (F := F) (gs := gs) (walk_range (lo := 0) (n := n.toNat)) f2 hD hn.symm (by rw [hn, sizeLine_eq]; omega) (fun H3 r3 => True.intro) ?_ fun H3 r3 hd => q _ H3 (ROk.trans r2 r3) hd
    rintro j x H3 H3' e he w3 ⟨rfl, hx⟩ Q' q'
    have hx : x = .int (j : Int) := by
      rw [hx]
      show V.int (0 + (j : Int)) = _
      rw [Int.zero_add]
    subst hx
    refine ⟨hi _, ?_⟩
    have w0 : Wi R F H (D :: F) H3' := ⟨ROk.trans (ROk.trans a r2) w3.r, fun b o e nt => w3.x b o (hid_xt (ROk.ext (ROk.trans a r2)) b o e nt) nt, w3.f⟩
    refine hb (D :: F) H3' j e w0 he H3' (r_refl H3') w3.f Q' fun y H4 r4 hy => ?_
    exact q' y H4 ⟨ROk.trans w3.r r4, fun b o e nt => hid_xt (ROk.ext r4) b o (w3.x b o e nt) nt, r_fd r4 w3.f⟩ (fun acc hacc => ROk.ext r4 _ _ hacc fun ps z => by cases z) (hid_xt (ROk.ext r4)) hy
/-- zip of two tuples -/
theorem walk_zipT {a b : Addr} {xs ys : List V} {n : Nat} (hn : n = min xs.length ys.length) : Walk (ItzT K a b) n (fun H => SqT K H a xs ∧ SqT K H b ys) (YPair (fun i => xs[i]?) (fun i => ys[i]?)) := by
  subst hn
  refine ⟨fun i _ hi q => ?_, fun _ q => ⟨xs, ys, q.1, q.2, by omega⟩, fun i H v H' _ q y => ?_⟩
  · have h1 : i < xs.length := by omega
    have h2 : i < ys.length := by omega
    exact ⟨xs, ys, xs[i], ys[i], q.1, q.2, by simp [h1], by simp [h2]⟩
  · obtain ⟨T, x, z, h1, h2, h3, h4, h5⟩ := y
    exact ⟨T, x, z, h1, h2, h3, h4 xs q.1, h5 ys q.2⟩
/-- [e for x, y in zip(t, u)], tuples of one length -/
theorem dv_lcZ {i j : Nat} {ds es gs : List PyData} (h : DV R K F ta σ H (.tuple ds)) (h' : DV R K F tb σ H (.tuple es)) (hn : gs.length = ds.length) (hm : es.length = ds.length) (hl : ds.length ≤ sizeLine)
    (hi : ∀ v u : V, wipe (((wipe σ [i, j]).set i (some v)).set j (some u)) [i, j] = wipe σ [i, j])
    (hb : ∀ (F' : List Addr) (H1 : Hp) (v u : V) (n : Nat) (d d' e : PyData), Wi R F H F' H1 → ds[n]? = some d → es[n]? = some d' → gs[n]? = some e → Da K (hid F' H1) d v → Da K (hid F' H1) d' u → DV R K F' te (((wipe σ [i, j]).set i (some v)).set j (some u)) H1 e) :
    DV R K F (tLc (iZipA K (tCons ta (tCons tb tNil))) (gTup K 2 (gCons (gName i) (gCons (gName j) gNil))) tYes te [i, j]) σ H (.list gs) := fun H1 a f Q q =>
  h H1 a f _ fun v H2' r2' hv => h' H2' (ROk.trans a r2') (r_fd r2' f) _ fun u H2 r2 hu => by
    obtain ⟨c, xs, e1, g, l⟩ := r_da r2 hv
    obtain ⟨c', ys, e1', g', l'⟩ := hu
    subst e1 e1'
    have r2 : R H1 H2 := ROk.trans r2' r2
    have f2 := r_fd r2 f
    refine ⟨c, c', xs, ys, rfl, .inr ⟨xt_sqT xt_hid g, xt_sqT xt_hid g', fun D hD => ?_⟩⟩
    refine lc_gen (R := R) (K := K) (F := F) (gs := gs) (walk_zipT (xs := xs) (ys := ys) (n := gs.length) (by rw [l.length, l'.length, hn, hm, Nat.min_self])) f2 hD rfl (by rw [hn]; exact hl) (fun H3 r3 => ⟨xt_sqT (ROk.ext r3) (xt_sqT xt_hid g), xt_sqT (ROk.ext r3) (xt_sqT xt_hid g')⟩) ?_ fun H3 r3 hd => q _ H3 (ROk.trans r2 r3) hd
    rintro n x H3 H3' e he w3 ⟨T, x1, x2, rfl, hT, rfl, hx1, hx2⟩ Q' q'
    obtain ⟨d, hd, hdv⟩ := l.get' hx1
    obtain ⟨d', hd', hdv'⟩ := l'.get' hx2
    refine ⟨T, [x1, x2], rfl, SqT.of upd_same, rfl, x1, [x2], rfl, x2, [], rfl, rfl, hi x1 x2, ?_⟩
    have rn : R H3 (upd H3 T (.tup [x1, x2])) := r_new hT
    have w4 : Wi R F H2 (D :: F) (upd H3 T (.tup [x1, x2])) := ⟨ROk.trans w3.r rn, fun b o e nt => hid_xt (ROk.ext rn) b o (w3.x b o e nt) nt, r_fd rn w3.f⟩
    have w0 : Wi R F H (D :: F) (upd H3 T (.tup [x1, x2])) := ⟨ROk.trans (ROk.trans a r2) w4.r, fun b o e nt => w4.x b o (hid_xt (ROk.ext (ROk.trans a r2)) b o e nt) nt, w4.f⟩
    refine hb (D :: F) _ x1 x2 n d d' e w0 hd hd' he (hdv.mono w4.x) (hdv'.mono w4.x) _ (r_refl _) w4.f Q' fun y H4 r4 hy => ?_
    have r34 : R H3 H4 := ROk.trans rn r4
    exact q' y H4 ⟨ROk.trans w3.r r34, fun b o e nt => hid_xt (ROk.ext r34) b o (w3.x b o e nt) nt, r_fd r34 w3.f⟩ (fun acc hacc => ROk.ext r34 _ _ hacc fun ps z => by cases z) (hid_xt (ROk.ext r34)) hy
end
end Sc

namespace Sc
open PySem PySem.Spec PyProof.Rows L2
section
variable {X : Cx}
theorem op_plus : OpR X (binaryOp .Add) (rPlus X.K) := op_add.or (op_add_str.or (op_cat.or op_catT))
theorem op_times : OpR X (binaryOp .Mult) (rTimes X.K) := op_mul.or (op_mulW.or (op_rep.or op_repT))
theorem op_eqA (hu : X.A.units + 64 < cLine) : OpR X (compareOp .Eq) (rEqA X.K) := op_eq.or (op_eqD hu)
theorem op_neA (hu : X.A.units + 64 < cLine) : OpR X (compareOp .NotEq) (rNeA X.K) := op_ne.or (op_neD hu)
theorem op_leq : OpR X (compareOp .LtE) rLeq := op_le.or op_le_str
theorem op_mem : OpR X (compareOp .In) (rMem X.K) := op_in_seq.or op_in_sign
theorem op_notmem : OpR X (compareOp .NotIn) (rNotMem X.K) := op_notIn_seq.or op_notIn_sign
theorem sl_any : SlR X (rSli X.K) := sl_list.or (sl_str.or sl_tup)
theorem cr_len : CallR X (.builtin "len") (rLn X.K) := call_len
/-! the same with the written part as a letter of its own -/
theorem kplus (K : PySem.W.Frag) (hK : X.K = K := by rfl) : OpR X (binaryOp .Add) (rPlus K) := by subst hK; exact op_plus
theorem ktimes (K : PySem.W.Frag) (hK : X.K = K := by rfl) : OpR X (binaryOp .Mult) (rTimes K) := by subst hK; exact op_times
theorem keq (K : PySem.W.Frag) (hu : X.A.units + 64 < cLine) (hK : X.K = K := by rfl) : OpR X (compareOp .Eq) (rEqA K) := by subst hK; exact op_eqA hu
theorem kne (K : PySem.W.Frag) (hu : X.A.units + 64 < cLine) (hK : X.K = K := by rfl) : OpR X (compareOp .NotEq) (rNeA K) := by subst hK; exact op_neA hu
theorem kmem (K : PySem.W.Frag) (hK : X.K = K := by rfl) : OpR X (compareOp .In) (rMem K) := by subst hK; exact op_mem
theorem knotmem (K : PySem.W.Frag) (hK : X.K = K := by rfl) : OpR X (compareOp .NotIn) (rNotMem K) := by subst hK; exact op_notmem
theorem ksl (K : PySem.W.Frag) (hK : X.K = K := by rfl) : SlR X (rSli K) := by subst hK; exact sl_any
theorem kix (K : PySem.W.Frag) (hK : X.K = K := by rfl) : IxR X (rIx K) := by subst hK; exact ix_seq
theorem klen (K : PySem.W.Frag) (hK : X.K = K := by rfl) : CallR X (.builtin "len") (rLn K) := by subst hK; exact cr_len
theorem kisi (K : PySem.W.Frag) (hK : X.K = K := by rfl) : CallR X (.builtin "isinstance") (rIsi K) := by subst hK; exact call_isi
theorem kall (K : PySem.W.Frag) (hc : X.calm = true := by rfl) (hK : X.K = K := by rfl) : CallR X (.builtin "all") (rAll K) := by subst hK; exact cr_all hc
theorem ksum (K : PySem.W.Frag) (hc : X.calm = true := by rfl) (hK : X.K = K := by rfl) : CallR X (.builtin "sum") (rSum K) := by subst hK; exact cr_sum hc
def rListOf (K : PySem.W.Frag) : List V → Hp → VK → Prop := fun xs H Q => ∃ p ys, xs = [.ref p] ∧ (SqL K H p ys ∨ SqT K H p ys) ∧ ∀ l, H l = none → Q (.ref l) (upd H l (.lst ys))
def rTupOf (K : PySem.W.Frag) : List V → Hp → VK → Prop := fun xs H Q => ∃ p ys, xs = [.ref p] ∧ ((SqL K H p ys ∧ ∀ l, H l = none → Q (.ref l) (upd H l (.tup ys))) ∨ (SqT K H p ys ∧ Q (.ref p) H))
theorem klist (K : PySem.W.Frag) (hK : X.K = K := by rfl) : CallR X (.type "list") (rListOf K) := by subst hK; exact call_list_of
theorem ktuple (K : PySem.W.Frag) (hK : X.K = K := by rfl) : CallR X (.type "tuple") (rTupOf K) := by subst hK; exact call_tuple_of
theorem ki_list (K : PySem.W.Frag) {tg l : Expr} {tl : TE} (hl : PE X l tl) (hK : X.K = K := by rfl) : PI X tg l (iList K tl) := by subst hK; exact pi_list hl
theorem ki_tup (K : PySem.W.Frag) {tg l : Expr} {tl : TE} (hl : PE X l tl) (hK : X.K = K := by rfl) : PI X tg l (iTup K tl) := by subst hK; exact pi_tup hl
theorem ki_zip (K : PySem.W.Frag) {e e2 : Expr} {ta : TA} {p pos tpos : Pos} {elts : List Expr} {kk : Nat} (hm : X.mg "zip" = none) (ha : PA X [e, e2] ta) (hg : Gl X "zip" := by rfl) (hK : X.K = K := by rfl)
    (hs : starEach [e, e2] X.env = (false, eval e X.env) :: starEach [e2] X.env := by rfl) (hpl : (backTo pos (starEach [e2] X.env)).any (·.1) = false := by rfl) :
    PI X (.Tuple elts kk tpos) (.Call (.Name "zip" p) [e, e2] [] pos) (RZ.iZipA K ta) := by subst hK; exact RZ.pi_zipA hg hm ha hs hpl
theorem kg_tup (K : PySem.W.Frag) (n : Nat) {es : List Expr} {k : Nat} {t : TGs} {pos : Pos} (h : PGs X es t) (hc : X.calm = true := by rfl) (hK : X.K = K := by rfl)
    (hn : (assignEach es X.env).length = n := by rfl) (hst : (assignEach es X.env).findIdx? (·.1) = none := by rfl) : PG X (.Tuple es k pos) (gTup K n t) := by subst hK; exact pg_tup hc h hn hst
theorem kfld (K : PySem.W.Frag) {e : Expr} {f : Str} {ta : TE} {pos : Pos} (he : PE X e ta) (hb : attributeBase e f X.env (eval e X.env) = eval e X.env := by rfl) (hK : X.K = K := by rfl) : PE X (.Attribute e f pos) (tFld K ta f) := by subst hK; exact pe_fld he hb
theorem ks_fld (K : PySem.W.Frag) {o value : Expr} {f : Str} {ta tv : TE} {pos pos' : Pos} (ha : PE X o ta) (hv : PE X value tv) (hs : swapsWith value (some (.Attribute o f pos')) pos.line X.env = pure false := by rfl) (hK : X.K = K := by rfl) :
    PS X (.Assign [.Attribute o f pos'] value pos) (sFld K ta tv f) := by subst hK; exact ps_fld ha hv hs
theorem kbm0 (K : PySem.W.Frag) {o : Expr} {to : TE} {name : Str} {apos cpos : Pos} {T id : String} {r : V → List V → Hp → VK → Prop} (pa : PlainAttrs T) (slot : Slot T name id) (hty : typeOf (.builtin id) = pure (.type "method_descriptor")) (hm : MtR X id r) (ho : PE X o to)
    (hK : X.K = K := by rfl) (hbase : attributeBase o name X.env (eval o X.env) = eval o X.env := by rfl) (hline : (apos.endLine == cpos.line) = true := by rfl) : PE X (.Call (.Attribute o name apos) [] [] cpos) (tBM0 K T r to) := by
  subst hK; exact pe_bm0 pa slot hty hm ho hbase hline
theorem kbm (K : PySem.W.Frag) {o e : Expr} {es : List Expr} {to : TE} {t : TA} {name : Str} {apos cpos : Pos} {T id : String} {r : V → List V → Hp → VK → Prop} (pa : PlainAttrs T) (slot : Slot T name id) (hty : typeOf (.builtin id) = pure (.type "method_descriptor")) (hm : MtR X id r) (ho : PE X o to) (ha : PA X (e :: es) t)
    (hK : X.K = K := by rfl) (hbase : attributeBase o name X.env (eval o X.env) = eval o X.env := by rfl)
    (hfew : ((backTo cpos (starEach (e :: es) X.env)).all (fun x => !x.1) && (backToKw cpos (keywordEach [] X.env)).all (fun x => x.1.isSome)
      && decide ((e :: es).length + ([] : List Keyword).length + (if ([] : List Keyword).isEmpty then 0 else 1) < 30)) = true := by rfl)
    (hline : (apos.endLine == cpos.line) = true := by rfl) (hs : starEach (e :: es) X.env = (false, eval e X.env) :: starEach es X.env := by rfl) (hplain : (backTo cpos (starEach es X.env)).any (·.1) = false := by rfl) :
    PE X (.Call (.Attribute o name apos) (e :: es) [] cpos) (tBM K T r to t) := by subst hK; exact pe_bm pa slot hty hm ho ha hbase hfew hline hs hplain
theorem pe_gi {x : Str} {i : Int} {pos : Pos} (hg : Gl X x) (h : ∃ t, X.mg x = some (.int i t)) (hd : (x == ("__debug__" : Str)) = false := by decide) : PE X (.Name x pos) (tC (.int i)) := by
  obtain ⟨t, h⟩ := h
  exact pe_glob hg h ⟨t, rfl⟩ hd
theorem pe_gs {x z : Str} {pos : Pos} (hg : Gl X x) (h : ∃ t, X.mg x = some (.str z t)) (hd : (x == ("__debug__" : Str)) = false := by decide) : PE X (.Name x pos) (tC (.str z)) := by
  obtain ⟨t, h⟩ := h
  exact pe_glob hg h ⟨t, rfl⟩ hd
/-- name = value; the name's place -/
theorem pS (i : Nat) {x : Str} {e : Expr} {te : TE} {pos pos' : Pos} (hN : X.N.Nodup) (he : PE X e te) (hi : X.N[i]? = some x := by rfl) (hx : Loc X.env.scope x := by first | exact Or.inl rfl | exact Or.inr rfl)
    (hs : swapsWith e (some (.Name x pos')) pos.line X.env = pure false := by rfl) (hf : X.fn x = true ∨ X.env.scope.names.lookup x = some .local := by first | exact .inl rfl | exact .inr rfl) :
    PS X (.Assign [.Name x pos'] e pos) (tAsg te (gName i)) := ps_set hN hi hx he hs hf
theorem pG (i : Nat) {x : Str} {pos : Pos} (hN : X.N.Nodup) (hi : X.N[i]? = some x := by rfl) (hx : Loc X.env.scope x := by first | exact Or.inl rfl | exact Or.inr rfl)
    (hf : X.fn x = true ∨ X.env.scope.names.lookup x = some .local := by first | exact .inl rfl | exact .inr rfl) : PG X (.Name x pos) (gName i) := pg_name hN hi hx hf
end
/-! ### a def that may be called by its name -/
structure Cal (P : Program) (w : World) (K : PySem.W.Frag) (mg : Str → Option Value) (base : Heap) (CX : CXT) (k : Nat) (x : Str) (ps : List Str) (sp : Sp) : Prop where
  ex : ∃ f fd, mg x = some (.ref f) ∧ PySem.W.keepIn K (.ref f) = true ∧ Binds K fd ps [] ∧ FnOk P w K mg base CX k f fd ps sp
theorem Cal.mono {P : Program} {w : World} {K : PySem.W.Frag} {mg : Str → Option Value} {base : Heap} {CX : CXT} {j k : Nat} {x : Str} {ps : List Str} {sp : Sp} (c : Cal P w K mg base CX j x ps sp) (h : j ≤ k) : Cal P w K mg base CX k x ps sp :=
  let ⟨f, fd, h1, h2, h3, h4⟩ := c.ex
  ⟨f, fd, h1, h2, h3, h4.mono h⟩
theorem pe_cal {X : Cx} {CX : CXT} {k : Nat} {x : Str} {ps : List Str} {sp : Sp} {E : XK} {e : Expr} {es : List Expr} {t : TA} {p pos : Pos} (C : Cal X.prog X.w X.K X.mg X.base CX k x ps sp) (hr : Room k X.A) (hx : Passes CX X E) (ha : PA X (e :: es) t) (hg : Gl X x := by rfl)
    (hdb : (x == ("__debug__" : Str)) = false := by decide) (he : starEach (e :: es) X.env = (false, eval e X.env) :: starEach es X.env := by rfl) (hpl : (backTo pos (starEach es X.env)).any (·.1) = false := by rfl) :
    PE X (.Call (.Name x p) (e :: es) [] pos) (tCall sp [] E t) := by
  obtain ⟨f, fd, h1, h2, h3, h4⟩ := C.ex
  exact pe_call h4 hr hg h1 h2 h3 .nil hx ha hdb he hpl
theorem pe_cal0 {X : Cx} {CX : CXT} {k : Nat} {x : Str} {ps : List Str} {sp : Sp} {E : XK} {p pos : Pos} (C : Cal X.prog X.w X.K X.mg X.base CX k x ps sp) (hr : Room k X.A) (hx : Passes CX X E) (hg : Gl X x := by rfl)
    (hdb : (x == ("__debug__" : Str)) = false := by decide) :
    PE X (.Call (.Name x p) [] [] pos) (tCall sp [] E tNil) := by
  obtain ⟨f, fd, h1, h2, h3, h4⟩ := C.ex
  exact pe_call0 h4 hr hg h1 h2 h3 .nil hx hdb
/-- the exceptions that a def of ours lets out -/
abbrev XC (P : Program) (w : World) : CXT := L2N.CX P w
theorem passX {X : Cx} {E : XK} (hs : X.stack = X.env :: X.outer) (hf : X.env.frame = some X.env.locals) (hex : X.ex = []) {E₁ : Value → Shared → Prop}
    (hx : X.xe = fun e s' => wpAny (model X.prog X.w) X.A (leaving X.env e) (fun _ s'' => L2N.CX X.prog X.w X.outer X.H_0 X.s_0 E e s'') E₁ s') : Passes (L2N.CX X.prog X.w) X E :=
  L2N.passes_call (L2N.takes_of hs hf hex hx) fun _ _ _ _ h => h
/-- promises by a relation between data -/
def spF (K : PySem.W.Frag) (n : Nat) (A : List PyData → PyData → Prop) : Sp := fun vs H Q _ => ∃ F ds d, Fd F H ∧ DaL K (hid F H) ds vs ∧ ds.length = n ∧ A ds d ∧ ∀ v H', Same H H' → Da K (hid F H') d v → Q v H'
def spG (K : PySem.W.Frag) (n : Nat) (A : List PyData → Except Str PyData → Prop) : Sp := fun vs H Q E => ∃ F ds r, Fd F H ∧ DaL K (hid F H) ds vs ∧ ds.length = n ∧ A ds r ∧
  (∀ d, r = .ok d → ∀ v H', Same H H' → Da K (hid F H') d v → Q v H') ∧ (∀ c, r = .error c → ∀ H', Same H H' → E (.ref (He.ga K c)) none H')
theorem spF.len {K : PySem.W.Frag} {n : Nat} {A : List PyData → PyData → Prop} {vs : List V} {H : Hp} {Q : VK} {E : XK} (h : spF K n A vs H Q E) : vs.length = n := by
  obtain ⟨F, ds, d, _, h1, h2, _⟩ := h
  rw [h1.length, h2]
theorem spG.len {K : PySem.W.Frag} {n : Nat} {A : List PyData → Except Str PyData → Prop} {vs : List V} {H : Hp} {Q : VK} {E : XK} (h : spG K n A vs H Q E) : vs.length = n := by
  obtain ⟨F, ds, d, _, h1, h2, _⟩ := h
  rw [h1.length, h2]
theorem sd_F {K : PySem.W.Frag} {n : Nat} {A : List PyData → PyData → Prop} {ds : List PyData} {d : PyData} (h : A ds d) (hn : ds.length = n) : SD K (spF K n A) ds d := fun F vs H f l Q E k => ⟨F, ds, d, f, l, hn, h, k⟩
abbrev FnD (K : PySem.W.Frag) (x : Str) (st : Stmt) : Prop := ∃ fd, FunD K x x (defArgs st) (defBody st) (defScope st) [] [] (He.ga K x) fd
section
variable {P : Program} {w : World} {K : PySem.W.Frag} {mg : Str → Option Value} {base : Heap}
/-- THE RULE for a pure def -/
theorem cal_F {x : Str} {st : Stmt} {N ps : List Str} {k n : Nat} {A : List PyData → PyData → Prop} (FD : FnD K x st) (gx : mg x = some (.ref (He.ga K x))) (S : FnScope N ps (defScope st)) (hn : n = ps.length)
    (hb : ∀ (kV doc pm : Value) (an : Option Addr) (cdv ct : Value) (us : List Value), us.length = ps.length → bindArgs (PySem.W.fnOf x x (defArgs st) (defBody st) (defScope st) .none kV doc pm an cdv ct) ⟨us, []⟩ = pure (ps.zip us))
    (hbody : ∀ (f : Addr) (cdv : Value) (A' : Around) (outer : List Env) (s : Shared) (H : Hp) (vs : List V) (Q : VK) (E : XK) (F : List Addr) (ds : List PyData) (d : PyData), Room k (A'.deeper (envOfC x (defScope st) s.heap.objs.size f cdv)) → Fd F H → DaL K (hid F H) ds vs → A ds d → (∀ v H', Same H H' → Da K (hid F H') d v → Q v H') →
      ∃ t, PSs (cxOf CX0 P w K mg base N x (defScope st) f cdv A' outer s H E).nox (defBody st) t ∧ t { nx := fun _ H' => Q .non H', rt := Q } (start N vs) H) : Cal P w K mg base CX0 (k + 1) x ps (spF K n A) := by
  obtain ⟨fd, FD⟩ := FD
  refine ⟨_, fd, gx, FD.kp, FD.bindsN hb, FD.ok S (fun vs H Q E h => hn ▸ h.len) fun cdv A' outer s H vs Q E hr h => ?_⟩
  obtain ⟨F, ds, d, f, l, _, a, q⟩ := h
  obtain ⟨t, h1, h2⟩ := hbody _ cdv A' outer s H vs Q E F ds d hr f l a q
  exact ⟨t, h1.nox, h2⟩
/-- .. for one that may raise -/
theorem cal_G {x : Str} {st : Stmt} {N ps : List Str} {k n : Nat} {A : List PyData → Except Str PyData → Prop} (FD : FnD K x st) (gx : mg x = some (.ref (He.ga K x))) (S : FnScope N ps (defScope st)) (hn : n = ps.length)
    (hb : ∀ (kV doc pm : Value) (an : Option Addr) (cdv ct : Value) (us : List Value), us.length = ps.length → bindArgs (PySem.W.fnOf x x (defArgs st) (defBody st) (defScope st) .none kV doc pm an cdv ct) ⟨us, []⟩ = pure (ps.zip us))
    (hbody : ∀ (f : Addr) (cdv : Value) (A' : Around) (outer : List Env) (s : Shared) (H : Hp) (vs : List V) (Q : VK) (E : XK) (F : List Addr) (ds : List PyData) (r : Except Str PyData), Room k (A'.deeper (envOfC x (defScope st) s.heap.objs.size f cdv)) → Fd F H → DaL K (hid F H) ds vs → A ds r →
      (∀ d, r = .ok d → ∀ v H', Same H H' → Da K (hid F H') d v → Q v H') → (∀ c, r = .error c → ∀ H', Same H H' → E (.ref (He.ga K c)) none H') →
      ∃ t, PSs (cxOf (XC P w) P w K mg base N x (defScope st) f cdv A' outer s H E) (defBody st) t ∧ t { nx := fun _ H' => Q .non H', rt := Q } (start N vs) H) : Cal P w K mg base (XC P w) (k + 1) x ps (spG K n A) := by
  obtain ⟨fd, FD⟩ := FD
  refine ⟨_, fd, gx, FD.kp, FD.bindsN hb, FD.ok S (fun vs H Q E h => hn ▸ h.len) fun cdv A' outer s H vs Q E hr h => ?_⟩
  obtain ⟨F, ds, r, f, l, _, a, q1, q2⟩ := h
  exact hbody _ cdv A' outer s H vs Q E F ds r hr f l a q1 q2
end
/-! ### statements -/
theorem s_next {nx : L2.St → Hp → Prop} {rt : VK} {bk ct : L2.St → Hp → Prop} {σ : L2.St} {H : Hp} (h : nx σ H) : tNext ⟨nx, rt, bk, ct⟩ σ H := h
theorem s_seq {t u : TS} {D : Ends} {σ : L2.St} {H : Hp} (h : t ⟨u D, D.rt, D.bk, D.ct⟩ σ H) : tSeq t u D σ H := h
section
variable {R : Hp → Hp → Prop} [ROk R] {K : PySem.W.Frag} {F : List Addr} {σ : L2.St} {H H' : Hp} {ta tb te : TE} {d : PyData} {v : V} {D : Ends} {nx bk ct : L2.St → Hp → Prop} {rt : VK} {t u : TS} {c : TT}
theorem s_set {i : Nat} (h : DV R K F te σ H d) (f : Fd F H) (k : ∀ v H1, R H H1 → Da K (hid F H1) d v → nx (σ.set i (some v)) H1) : tAsg te (gName i) ⟨nx, rt, bk, ct⟩ σ H := h H (r_refl H) f _ k
theorem s_ret (h : DV R K F te σ H d) (f : Fd F H) (k : ∀ v H1, R H H1 → Da K (hid F H1) d v → rt v H1) : tRet te ⟨nx, rt, bk, ct⟩ σ H := h H (r_refl H) f _ k
theorem s_drop (h : DV R K F te σ H d) (f : Fd F H) (k : ∀ H1, R H H1 → nx σ H1) : tDrop te ⟨nx, rt, bk, ct⟩ σ H := h H (r_refl H) f _ fun _ H1 r _ => k H1 r
theorem s_if {b : Bool} (h : DT R F c σ H b) (f : Fd F H) (h1 : b = true → ∀ H1, R H H1 → t D σ H1) (h2 : b = false → ∀ H1, R H H1 → u D σ H1) : tIfS c t u D σ H := h H (r_refl H) f _ fun H1 r => by
  cases b with
  | true => exact h1 rfl H1 r
  | false => exact h2 rfl H1 r
/-- a call of a def that may raise, its value dropped -/
theorem s_call {n : Nat} {A : List PyData → Except Str PyData → Prop} {E : XK} {tr : TA} {ds : List PyData} {r : Except Str PyData} (h : DA R K F tr σ H ds) (f : Fd F H) (ha : A ds r) (hn : ds.length = n)
    (k1 : ∀ d, r = .ok d → ∀ H1, R H H1 → nx σ H1) (k2 : ∀ c, r = .error c → ∀ H1, R H H1 → E (.ref (He.ga K c)) none H1) : tDrop (tCall (spG K n A) [] E tr) ⟨nx, rt, bk, ct⟩ σ H :=
  h H (r_refl H) f _ fun vs H1 r1 l => by
    rw [List.append_nil]
    exact ⟨F, ds, r, r_fd r1 f, l, hn, ha, fun d e v H2 s2 _ => k1 d e H2 (ROk.trans r1 (ROk.same s2)), fun c e H2 s2 => k2 c e H2 (ROk.trans r1 (ROk.same s2))⟩
/-- l.append(e), l the owner's -/
theorem s_append {i : Nat} {l : Addr} {xs : List V} (hσ : σ[i]? = some (some (.ref l))) (hl : H l = some (.lst xs)) (f : Fd F H) (h : DV R K (l :: F) te σ H d) (hz : xs.length < sizeLine)
    (k : ∀ v H1, R H H1 → Da K (hid (l :: F) H1) d v → nx σ (upd H1 l (.lst (xs ++ [v])))) : tDrop (tBM K "list" rAppend (tVar i) (tCons te tNil)) ⟨nx, rt, bk, ct⟩ σ H := by
  refine ⟨_, hσ, Or.inl ⟨rfl, _, SqL.of hl⟩, ?_⟩
  refine h H (r_refl H) (f.cons hl fun ps z => by cases z) _ fun v H1 r1 hv => ?_
  exact ⟨l, xs, v, rfl, rfl, ROk.ext r1 _ _ hl (fun ps z => by cases z), hz, k v H1 r1 hv⟩
/-- an owner's list changed: what is not the owner's stays -/
theorem hid_chg {l : Addr} {H1 : Hp} {o : HO} : Xt (hid (l :: F) H1) (hid (l :: F) (upd H1 l o)) := fun b u e nt => by
  obtain ⟨e1, e2⟩ := hid_le e
  rw [hid_out e2, upd_ne fun z => e2 (by rw [z]; exact List.mem_cons_self)]
  exact e1
/-- for x in l: a list that stays, as all that is not the owner's -/
theorem s_forL {i : Nat} {ds : List PyData} {tb : TS} (h : DV R K F ta σ H (.list ds)) (f : Fd F H)
    (k : ∀ H1, R H H1 → Fd F H1 → ∃ Pv : Nat → L2.St → Hp → Prop, Pv 0 σ H1 ∧ (∀ j σ' H', Pv j σ' H' → Xt (hid F H1) (hid F H')) ∧
      (∀ j σ' H' d v, ds[j]? = some d → Pv j σ' H' → Da K (hid F H') d v → tb ⟨Pv (j + 1), rt, nx, Pv (j + 1)⟩ (σ'.set i (some v)) H') ∧ (∀ σ' H', Pv ds.length σ' H' → nx σ' H')) :
    tFor (iList K ta) (gName i) tb ⟨nx, rt, bk, ct⟩ σ H := h H (r_refl H) f _ fun v H1 r1 hv => by
  obtain ⟨a, xs, e1, g, l⟩ := hv
  obtain ⟨Pv, p0, px, ps, pd⟩ := k H1 r1 (r_fd r1 f)
  refine ⟨a, e1, ⟨xs, SqL.of (hid_le g).1⟩, for_list (K := K) (a := a) (xs := xs) (D := ⟨nx, rt, bk, ct⟩) Pv p0 (fun j σ' H' _ p => ?_) (fun j x σ' H' hx p => ?_) (fun σ' H' p => pd σ' H' (by rw [← l.length]; exact p))⟩
  · exact SqL.of (hid_le (px j σ' H' p a _ g fun ps z => by cases z)).1
  · obtain ⟨d, hd1, hdv⟩ := l.get' hx
    exact ps j σ' H' d x hd1 p (hdv.mono (px j σ' H' p))
/-- for x in range(n) -/
theorem s_forR {i : Nat} {n : Int} {tb : TS} (h : DV R K F ta σ H (.int n)) (f : Fd F H) (h0 : -1000000 ≤ n) (h1 : n ≤ 1000000)
    (k : ∀ H1, R H H1 → Fd F H1 → ∃ Pv : Nat → L2.St → Hp → Prop, Pv 0 σ H1 ∧
      (∀ (j : Nat) σ' H', (j : Int) < n → Pv j σ' H' → tb ⟨Pv (j + 1), rt, nx, Pv (j + 1)⟩ (σ'.set i (some (.int (j : Int)))) H') ∧ (∀ σ' H', Pv n.toNat σ' H' → nx σ' H')) :
    tFor (iRng1 (tCons ta tNil)) (gName i) tb ⟨nx, rt, bk, ct⟩ σ H := h H (r_refl H) f _ fun v H1 r1 hv => by
  have hv : v = .int n := hv
  subst hv
  obtain ⟨Pv, p0, ps, pd⟩ := k H1 r1 (r_fd r1 f)
  refine ⟨n, rfl, by omega, by omega, for_range (lo := 0) (n := n.toNat) (D := ⟨nx, rt, bk, ct⟩) Pv p0 (fun j σ' H' hj p => ?_) pd⟩
  have e : (0 : Int) + (j : Int) = (j : Int) := Int.zero_add _
  rw [e]
  exact ps j σ' H' (by omega) p
end
end Sc

namespace Sc
open PySem PySem.Spec PyProof.Rows L2
/-! ### lists walked while an exception is handled -/
section
variable {prog : Program} {w : World} {A : Around} {E : Value → Shared → Prop} {s : Shared}
theorem hot_end {it l x1 : Addr} {i : Nat} {its : Array Value} {Q : Option Value → Shared → Prop} (hot : HotX.HotAt A x1 s.heap) (nx : x1 ≠ it) (hi : s.heap.IsListIter it l i) (hl : s.heap.IsList l its) (he : its[i]? = none)
    (k : ∀ h', (∀ b o, b ≠ it → s.heap.get? b = some o → h'.get? b = some o) → Q none { s with heap := h' }) : wpAny (model prog w) A (pyNext (.ref it)) Q E s := by
  obtain ⟨hh, o1, vs1, g1, d1, c1⟩ := hot
  obtain ⟨oi, gi, ci, di⟩ := id hi
  obtain ⟨ol, gl, _, nl, dl⟩ := hl
  unfold pyNext
  refine wpAny_bind (wpAny_attempt (wpAny_callSpecial?_slot (name := Str.ofString "__next__") hi.typeIs slot_listiter_next (wpAny_call_entry slot_listiter_next hi.typeIs entry_listiter_next ?_ (args_listiter_next _))))
  show wpAny _ _ (field (.ref it) 0 >>= _) _ _ s; refine wpAny_bind (wpAny_field gi di (x := .ref l) rfl ?_)
  show wpAny _ _ (if (Value.ref l == Value.none) = true then _ else _) _ _ s; rw [if_neg (show ¬ ((Value.ref l == Value.none) = true) from Bool.false_ne_true)]
  show wpAny _ _ (field (.ref it) 1 >>= _) _ _ s; refine wpAny_bind (wpAny_field gi di (x := .int i 0) rfl ?_)
  show wpAny _ _ (seqItems? (.ref l) >>= _) _ _ s; refine wpAny_bind (wpAny_seqItems gl dl ?_)
  simp only [Int.toNat_natCast, he]
  refine wpAny_bind (wpAny_rule (wpAny_bind (wpAny_setField gi di (by simp) ?_)))
  generalize hg : s.heap.update it _ = hA
  have gA : ∀ b o, b ≠ it → s.heap.get? b = some o → hA.get? b = some o := fun b o hb e => by rw [← hg]; exact (Heap.get?_update_other _ _ (Ne.symm hb)).trans e
  show wpAny _ _ (newExc (.type "StopIteration") [] >>= _) _ _ _; refine wpAny_bind ?_; simp only [newExc, newTuple]
  refine wpAny_bind (wpAny_newObj_type ?_ (by size_fits)); refine wpAny_bind (m := firstArgMember _ _) (wpAny_of_eq (a := Value.none) (by first | rfl | (simp only [firstArgMember]; rfl)) ?_); refine wpAny_newObj_type ?_ (by size_fits)
  have g2 := gA x1 o1 nx g1
  refine HotX.raiseNew_hot ⟨hh, o1, vs1, Heap.get?_push_of_some _ (Heap.get?_push_of_some _ g2), d1, c1⟩ (Nat.ne_of_lt (Heap.lt_size (Heap.get?_push_of_some _ g2))) (Heap.get?_push_size _ rfl) rfl (by first | (simp; done) | (simp; omega)) ?_
  refine wpAny_bind (wpAny_isInstance (T := "StopIteration") (b := true) ⟨_, Heap.get?_update_self _ (Heap.get?_push_size _ rfl) rfl, rfl⟩ isSubtype_stop ?_)
  refine wpAny_pure (k _ fun b o hb e => ?_)
  rw [Heap.get?_update_other _ _ (Nat.ne_of_gt (Heap.lt_size (Heap.get?_push_of_some _ (gA b o hb e))))]
  exact Heap.get?_push_of_some _ (Heap.get?_push_of_some _ (gA b o hb e))
/-- the handled exception's object, as it stands -/
def HotO (x1 : Addr) (h : Heap) : Prop := ∃ (o : Obj) (vs : Array Value), h.get? x1 = some o ∧ o.data = .fields vs ∧ vs[2]? = some .none
theorem HotO.at {x1 : Addr} {h h' : Heap} (x : HotO x1 h) (e : ∀ o, h.get? x1 = some o → h'.get? x1 = some o) : HotO x1 h' := let ⟨o, vs, g, d, c⟩ := x; ⟨o, vs, e o g, d, c⟩
theorem walks_hot {x1 : Addr} (hh : A.handled = some (.ref x1)) (I ax : Addr) (hne : ax ≠ I) (hnx : x1 ≠ I) (its : Array Value) :
    Walks prog w A I [I, ax, x1] [I] its.size (fun i v => its[i]? = some v) (fun i h => h.IsListIter I ax i ∧ h.IsList ax its ∧ HotO x1 h) where
  sub := fun b hb => by
    have e : b = I := by simpa using hb
    simp [e]
  frame := fun _ _ _ st hk => ⟨st.1.at fun o e => hk I (by simp) o e, st.2.1.at fun o e => hk ax (by simp) o e, st.2.2.at fun o e => hk x1 (by simp) o e⟩
  item := fun i s Q E hi st hQ => wpAny_pyNext_list_item st.1 st.2.1 (x := its[i]) (by simp [hi]) fun h' hit' hs' =>
    hQ _ h' s.toks (by simp [hi]) ⟨hit', st.2.1.extBut hs'.extBut hne, st.2.2.at fun o e => hs'.extBut _ o hnx e⟩ fun b o hb e => hs'.extBut b o (fun z => hb (by simp [z])) e
  done := fun s Q E st hQ => by
    obtain ⟨o, vs, g, d, c⟩ := st.2.2
    exact hot_end ⟨hh, o, vs, g, d, c⟩ hnx st.1 st.2.1 (by simp) fun h' k => hQ h' s.toks fun b o hb e => k b o (fun z => hb (by simp [z])) e
  self := fun _ _ _ _ st hQ => wpAny_pyIter_listiter st.1 hQ
/-- sum of a list of ints there -/
theorem hot_sum {x1 l : Addr} {its : List Value} {ns : List Int} {Q : Value → Shared → Prop} (hh : A.handled = some (.ref x1)) (hx : HotO x1 s.heap) (hl : s.heap.IsList l its.toArray) (hi : IntsAre its ns)
    (k : ∀ h' tk t', (∀ b o, s.heap.get? b = some o → h'.get? b = some o) → Q (.int ns.sum t') { s with heap := h', toks := tk }) : wpAny (model prog w) A (call (.builtin "sum") [.ref l]) Q E s := by
  obtain ⟨xs, e⟩ := hi.allInts.items
  have hn : numsOf (intItems xs).toList = ns := by rw [← e]; exact hi.numsOf
  rw [nums_intItems] at hn
  rw [e] at hl
  have hxl : x1 < s.heap.objs.size := by obtain ⟨o, _, g, _⟩ := hx; exact Heap.lt_size g
  refine call_sum_walkG (iter_intList hl fun s2 e2 st hfp hlI => ?_)
  subst e2
  refine ⟨_, _, _, _, _, _, numAt xs, rfl, walks_hot (A := A.in1) hh _ l hlI (Nat.ne_of_lt hxl) (intItems xs), ⟨st.1, st.2, hx.at fun o g => Heap.get?_push_of_some _ g⟩, fun b hb => ?_, fun _ _ => intItems_at, fun h' tk t' hk => ?_⟩
  · rcases List.mem_cons.mp hb with z | z
    · exact hfp b (by simp [z])
    · rcases List.mem_cons.mp z with z | z
      · exact hfp b (by simp [z])
      · have z : b = x1 := by simpa using z
        rw [z]
        show x1 < (s.heap.push _).objs.size
        rw [Heap.size_push]
        exact Nat.lt_succ_of_lt hxl
  · have z := k h' tk t' (old_kept hk)
    rw [← hn, ← List.take_of_length_le (l := xs.toList.map (·.1)) (i := xs.size) (by simp), ← preSum_eq] at z
    simpa [intItems] using z
end
end Sc

namespace Sc
open PySem PySem.Spec PyProof.Rows L2
theorem boot_int : bootBuiltins "int" = some (.type "int") := by decide +kernel
theorem a_lt {b l x N : Nat} (h1 : l < N) (h2 : x < N) (h : b = N ∨ b = l ∨ b = x) : b < N + 1 := by omega
theorem a_off {b N C D : Nat} (hb : b < N ∨ b = C) (hC : N + 1 ≤ C) (hD : N + 1 ≤ D) (h : D ≠ C) : ¬ (b = D ∨ b = N) := by omega
theorem a_ne {b N C : Nat} (hb : b < N + 1) (hC : N + 1 ≤ C) : b ≠ C := by omega
theorem vals_bools : ∀ {bs : List Bool} {us : List Value}, Vals (bs.map V.bl) us → us = bs.map Value.bool
  | [], us, r => by cases r; rfl
  | b :: bs, us, r => by
    cases r with
    | cons r1 rr =>
      have e : _ = Value.bool b := r1
      rw [e, vals_bools rr]
      rfl
abbrev b2i (b : Bool) : Int := if b then 1 else 0
abbrev flagsE (scope : Scope) (pa p1 p2 p3 pi pos : Pos) : Expr := .ListComp (.Call (.Name "int" p1) [.Name "flag" p2] [] p3) [⟨.Name "flag" pa, .Name "flags" pi, [], 0⟩] scope pos
theorem nums_of {bs : List Bool} {us : List Value} (h : Paired (fun (b : Bool) (u : Value) => ∃ t, u = .int (b2i b) t) bs us) : Vals (bs.map fun b => V.int (b2i b)) us := by
  induction h with
  | nil => exact .nil
  | cons a _ ih =>
    obtain ⟨t, e⟩ := a
    exact .cons ⟨t, e⟩ ih
/-- [int(flag) for flag in flags], while an exception is handled -/
theorem pe_flags0 {X : Cx} {i : Nat} {scope : Scope} {cl : List (Str × Addr)} {pa p1 p2 p3 pi pos : Pos} (hot : L2H.HotC X) (hmI : X.mg "int" = none) (hi : X.N[i]? = some ("flags" : Str)) (hv : Vis X.env.scope "flags")
    (hclos : closureFor scope X.env = pure cl) (hcell : ∀ y ∈ scope.names, y.2 ≠ .cell) (hkind : scope.kind = .function) (hnames : ∀ y ∈ scope.names, y.2 = .local → scope.names.lookup y.1 = some .local)
    (hx : scope.names.lookup ("flag" : Str) = some .local) (hI : ∀ C, (compEnvC scope cl C X.env).kindOf "int" = some .globalImplicit) (hs : ∀ x, foldedSetIterable (.Name "flags" pi) X.env x = pure x := by intro _; rfl) :
    PE X (flagsE scope pa p1 p2 p3 pi pos) (fun σ H Q => ∃ (l : Addr) (bs : List Bool), σ[i]? = some (some (.ref l)) ∧ H l = some (.lst (bs.map V.bl)) ∧ ∀ D, H D = none → Q (.ref D) (upd H D (.lst (bs.map fun b => V.int (b2i b))))) := by
  refine ⟨fun pins s σ H Q I h => ?_⟩
  obtain ⟨l, bs, hσ, hl, q⟩ := h
  obtain ⟨p, ⟨hh, v1, e1, c1⟩, hp⟩ := hot
  refine ListComp_goes hclos hcell hkind hnames ?_ hs
  refine thn ((pe_var (pos := pi) (i := i) hi hv).run pins s σ H (fun v H1 => v = .ref l ∧ H1 = H) I ⟨.ref l, hσ, rfl, rfl⟩) fun u s1 hu => ?_
  obtain ⟨v, H1, I1, rv, rfl, rfl⟩ := hu
  obtain rfl : u = Value.ref l := rv
  have P1 := I1.pin p (List.mem_append_left _ hp)
  obtain ⟨hz, its, n0, rits, gl⟩ := I1.hok l _ hl
  have eits := vals_bools rits
  subst eits
  have hz : bs.length ≤ sizeLine := by simpa using hz
  have il : s1.heap.IsList l (bs.map Value.bool).toArray := ⟨_, gl, rfl, _, rfl⟩
  have hlt : l < s1.heap.objs.size := Heap.lt_size gl
  have hxlt : p.1 < s1.heap.objs.size := Heap.lt_size P1.1
  have hxo : HotO p.1 s1.heap := ⟨p.2, v1, P1.1, e1, c1⟩
  refine wpAny_pyIter_list il ?_
  have nx : p.1 ≠ s1.heap.objs.size := Nat.ne_of_lt hxlt
  refine ⟨s1.heap.objs.size, _, _, _, _, _, rfl, Goes.ofWalks (walks_hot hh s1.heap.objs.size l (Nat.ne_of_lt hlt) nx (bs.map Value.bool).toArray) (fun i v s Q E st q => ?_), ?_, ⟨⟨_, Heap.get?_push_size _ rfl, rfl, rfl⟩, il.push _, hxo.at fun o g => Heap.get?_push_of_some _ g⟩, ?_, fun D C s3 hB => ?_⟩
  · obtain ⟨o, ho, hc, hd⟩ := st.1
    exact letGo_of_cls ho hc hd (by decide) q
  · simpa using hz
  · intro b hb
    show b < (s1.heap.push _).objs.size
    rw [Heap.size_push]
    exact a_lt hlt hxlt (by simpa using hb)
  · obtain ⟨⟨h3, tk3, rfl⟩, old, nD, nC, hDC, hnm⟩ := hB
    have nC' : s1.heap.objs.size + 1 ≤ C := by
      have q : (s1.heap.push { cls := .type "list_iterator", data := .fields #[.ref l, .int 0 0] }).objs.size ≤ C := nC
      rw [Heap.size_push] at q
      exact q
    have nD' : s1.heap.objs.size + 1 ≤ D := by
      have q : (s1.heap.push { cls := .type "list_iterator", data := .fields #[.ref l, .int 0 0] }).objs.size ≤ D := nD
      rw [Heap.size_push] at q
      exact q
    have kx : (compEnvC scope cl C X.env).kindOf "flag" = some .local := lookup_relabel_local hx
    have hpp : ((compEnvC scope cl C X.env).scope.kind == .class || ((compEnvC scope cl C X.env).scope.kind == .module && (compEnvC scope cl C X.env).locals != (compEnvC scope cl C X.env).globals)) = false := by
      show (scope.kind == .class || (scope.kind == .module && _)) = false
      rw [hkind]; rfl
    refine ⟨fun i vs s2 => ∃ h' tk m, s2 = { s1 with heap := h', toks := tk } ∧ h'.Ns C m ∧ Paired (fun (b : Bool) (u : Value) => ∃ t, u = .int (b2i b) t) (bs.take i) vs ∧ ∀ b o, s1.heap.get? b = some o → h'.get? b = some o,
      ⟨h3, tk3, _, rfl, hnm, by simpa using Paired.nil, fun b o e => old b o (Heap.get?_push_of_some _ e)⟩, ?_, ?_, ?_⟩
    · rintro i vs s2 h' tk ⟨h4, tk4, m, rfl, n4, e4, k4⟩ hk' _
      have off : ∀ b : Addr, (b < s1.heap.objs.size ∨ b = C) → b ∉ D :: [s1.heap.objs.size] := fun b hb hm => a_off hb nC' nD' hDC (by simpa using hm)
      exact ⟨h', tk, m, rfl, n4.at' fun o e => hk' _ o (off _ (.inr rfl)) e, e4, fun b o e => hk' b o (off _ (.inl (Heap.lt_size e))) (k4 b o e)⟩
    · rintro i v vs s2 hi2 hv2 st ⟨h4, tk4, m, rfl, n4, e4, k4⟩ hpl
      have hv3 : (bs.map Value.bool)[i]? = some v := by simpa using hv2
      rw [List.getElem?_map] at hv3
      obtain ⟨b, hb, rfl⟩ := Option.map_eq_some_iff.mp hv3
      refine wpAny_assign_Name (wpAny_storeName_local kx n4 (fun h5 n5 s5 => ?_) hpp)
      refine wpAny_tests_nil ?_
      have offC : ∀ b : Addr, b < s1.heap.objs.size + 1 → b ≠ C := fun b hb => a_ne hb nC'
      have k5 : ∀ b o, s1.heap.get? b = some o → h5.get? b = some o := fun b o e => s5.extBut b o (offC b (Nat.lt_succ_of_lt (Heap.lt_size e))) (k4 b o e)
      show wpAny _ _ (eval (.Call (.Name "int" p1) [.Name "flag" p2] [] p3) (compEnvC scope cl C X.env)) _ _ _
      obtain ⟨mb, hb1, hb2⟩ := I1.mod.blt
      have I5 : Inv X pins σ H1 { s1 with heap := h5, toks := tk4 } := I1.kept k5
      refine wpAny_Call_Name_kw (Calls.Name_function_global hkind (hI C) (Calls.loadGlobal_builtin (mg := X.mg) (by show h5.Ns X.env.globals X.mg; rw [I1.ok.glob]; exact I5.mod.glob.keeps I5.bk) hmI (by show h5.Ns X.env.builtins mb; rw [I1.ok.blt]; exact hb1.keeps I5.bk) ((hb2 "int" (by decide)).trans boot_int) ?_) (by decide))
      refine PyProof.Rows.callWith_type1 ?_ rfl rfl
      show wpAny _ _ (spliced ((false, eval (.Name "flag" p2) (compEnvC scope cl C X.env)) :: backTo p3 (starEach [] (compEnvC scope cl C X.env)))) _ _ _
      refine Calls.spliced_cons ?_
      rw [eval_Name _ _ _ (by decide)]
      refine wpAny_bind (wpAny_standAt (wpAny_loadName_local hkind kx n5 (v := .bool b) (if_pos rfl) ?_))
      refine Calls.spliced_nil (call_int_bool ⟨⟨h5, _, _, rfl, n5, ?_, k5⟩, ⟨st.1.at fun o e => s5.extBut _ o (offC _ (Nat.lt_succ_self _)) e, st.2.1.at fun o e => s5.extBut _ o (offC _ (Nat.lt_succ_of_lt hlt)) e, st.2.2.at fun o e => s5.extBut _ o (offC _ (Nat.lt_succ_of_lt hxlt)) e⟩, hpl.at fun o e => s5.extBut _ o hDC e⟩)
      rw [List.take_add_one, hb]
      exact Paired.snoc e4 ⟨_, rfl⟩
    · rintro vs s2 ⟨h4, tk4, m, rfl, n4, e4, k4⟩ hpl
      refine ⟨m, n4, fun h' hs' => ?_⟩
      have k6 : ∀ b o, s1.heap.get? b = some o → h'.get? b = some o := fun b o e => hs'.extBut b o (a_ne (Nat.lt_succ_of_lt (Heap.lt_size e)) nC') (k4 b o e)
      have hpl' := hpl.extBut hs'.extBut hDC
      obtain ⟨n9, g9⟩ := hpl'
      have nH : H1 D = none := I1.hok.fresh (Nat.le_of_succ_le nD')
      have e5 : Vals (bs.map fun b => V.int (b2i b)) vs := by
        have := nums_of e4
        rwa [List.take_of_length_le (by simp)] at this
      exact ⟨.ref D, upd H1 D (.lst (bs.map fun b => V.int (b2i b))), I1.laid k6 (Nat.le_of_succ_le nD') ⟨by simpa using hz, vs, n9, e5, g9⟩, rfl, q D nH⟩

def flagsOk (scope : Scope) : Bool := decide (scope.kind = .function) && (scope.names.lookup ("flag" : Str) == some .local) && scope.names.all fun y => !decide (y.2 = .free) && !decide (y.2 = .cell) && (!decide (y.2 = .local) || scope.names.lookup y.1 == some .local)
theorem pe_flags {X : Cx} (i : Nat) {scope : Scope} {pa p1 p2 p3 pi pos : Pos} (hot : L2H.HotC X) (hmI : X.mg "int" = none) (hs : flagsOk scope = true) (hv : Vis X.env.scope "flags") (hi : X.N[i]? = some ("flags" : Str) := by rfl)
    (hI : ∀ C, (compEnvC scope (cloFrom X.env.cells scope.names []) C X.env).kindOf "int" = some .globalImplicit := by intro _; rfl) :
    PE X (flagsE scope pa p1 p2 p3 pi pos) (fun σ H Q => ∃ (l : Addr) (bs : List Bool), σ[i]? = some (some (.ref l)) ∧ H l = some (.lst (bs.map V.bl)) ∧ ∀ D, H D = none → Q (.ref D) (upd H D (.lst (bs.map fun b => V.int (b2i b))))) := by
  unfold flagsOk at hs
  simp only [Bool.and_eq_true, Bool.or_eq_true, Bool.not_eq_true', decide_eq_true_eq, decide_eq_false_iff_not, List.all_eq_true, beq_iff_eq] at hs
  obtain ⟨⟨h1, h2⟩, h3⟩ := hs
  exact pe_flags0 hot hmI hi hv (closure_ok fun y hy e => absurd e (h3 y hy).1.1) (fun y hy => (h3 y hy).1.2) h1 (fun y hy e => (h3 y hy).2.resolve_left fun z => z e) h2 hI
theorem _root_.L2H.RoomH.units {k : Nat} {A : Around} (r : L2H.RoomH k A) : A.units + 64 < cLine := by have := r.un; omega
theorem ints_are : ∀ {ns : List Int} {us : List Value}, Vals (ns.map V.int) us → IntsAre us ns
  | [], us, r => by cases r; exact .nil
  | n :: ns, us, r => by
    cases r with
    | cons r1 rr =>
      obtain ⟨t, e⟩ := r1
      subst e
      exact .cons _ _ (ints_are rr)
/-- sum of a list of ints there -/
def rSumH : List V → Hp → VK → Prop := fun xs H Q => ∃ (l : Addr) (ns : List Int), xs = [.ref l] ∧ H l = some (.lst (ns.map V.int)) ∧ Q (.int ns.sum) H
theorem cr_sumH {X : Cx} (hot : L2H.HotC X) : CallR X (.builtin "sum") rSumH := by
  intro pins s σ H xs us Q I r h
  obtain ⟨l, ns, rfl, hl, q⟩ := h
  cases r with
  | cons rx rr =>
    cases rr
    cases rx
    obtain ⟨p, ⟨hh, v1, e1, c1⟩, hp⟩ := hot
    have P1 := I.pin p (List.mem_append_left _ hp)
    obtain ⟨hz, its, n0, rits, gl⟩ := I.hok l _ hl
    exact hot_sum hh ⟨p.2, v1, P1.1, e1, c1⟩ ⟨_, gl, rfl, _, rfl⟩ (ints_are rits) fun h' tk t' k => ⟨.int ns.sum, H, I.kept k, ⟨t', rfl⟩, q⟩
/-- isinstance(e, c), e a pinned error of the class D -/
theorem cr_isH {X : Cx} {a D : Addr} {oe : Obj} (C : ExcC X.K D) (hz : Zc (.ref D) none oe) (hf : ∃ vs, oe.data = .fields vs) (hp : (a, oe) ∈ X.pn) : CallR X (.builtin "isinstance") (rIsE X.K D a) := by
  intro pins s σ H xs us Q I r h
  obtain ⟨c, cv, b, rfl, hcv, e, q⟩ := h
  cases r with
  | cons rx rr =>
    cases rr with
    | cons rt rr =>
      cases rr
      cases rx
      have ec := hcv _ rt
      subst ec
      obtain ⟨hget, _⟩ := I.pin (a, oe) (List.mem_append_left _ hp)
      obtain ⟨vs, hv⟩ := hf
      have J : PySem.W.InstAt s.heap a oe D none := by
        cases oe
        obtain ⟨h1, h2⟩ := hz
        dsimp only at h1 h2 hv
        subst h1 h2 hv
        exact ⟨hget, rfl, rfl, trivial⟩
      exact PySem.W.kia_one (PySem.W.handS_kitx_exc C.hg C.hk C.hs C.hd C.ha C.hn C.ht C.hm) I.kIn J e (fun z => nomatch z) fun tk => ⟨.bl b, H, I.kept (t' := tk) fun _ _ z => z, rfl, q⟩
/-! ### the def that gets the handled exception -/
section
variable {P : Program} {w : World} {K : PySem.W.Frag} {mg : Str → Option Value} {base : Heap} {k : Nat} {f : Addr} {N : List Str} {x y : Str} {st : Stmt} {fd : FuncData}
theorem hot_run {A : Around} {outer : List Env} {s : Shared} {H : Hp} {a : Addr} {oe : Obj} {Q : VK} {E : XK} (FD : FunD K x x (defArgs st) (defBody st) (defScope st) [] [] f fd) (S : FnScope N [y] (defScope st))
    (hb : ∀ (kV doc pm : Value) (an : Option Addr) (cdv ct : Value) (us : List Value), us.length = 1 → bindArgs (PySem.W.fnOf x x (defArgs st) (defBody st) (defScope st) .none kV doc pm an cdv ct) ⟨us, []⟩ = pure ([y].zip us))
    (hr : L2H.RoomH (k + 1) A) (pin : L2H.PinOk outer H s (a, oe)) (e0 : Env0 P w K mg base A outer s H)
    (hbody : ∀ cdv, L2H.RoomH k (A.deeper (envOfC x (defScope st) s.heap.objs.size f cdv)) → ∃ t, PSs (L2H.cxH CX0 P w K mg base N x (defScope st) f cdv A outer s H E (a, oe)) (defBody st) t ∧ t { nx := fun _ H' => Q .non H', rt := Q } (L2.start N [.ref a]) H) :
    codeAny (model P w) A (.call (.ref f) ⟨[.ref a], []⟩) (CR CX0 outer P w H s Q E) s := by
  have bd := FD.bindsA (ps := [y]) hb s [.ref a] rfl
  obtain ⟨oc, od, dV, kV, doc, pm, an, cdv, ct, osl, rfl, lk, hcd, _, _⟩ := FD.ex
  have kin : K.In s.heap := e0.mod.kin.keeps fun b o e => (e0.bs b o e).1
  have nlm : s.heap.NoLimit := e0.mod.nolimit.keeps fun b o e => (e0.bs b o e).1
  refine codeAny_call_function hr.depth (kin _ _ lk) rfl S.co S.gen rfl (PySem.W.codeRec_of kin hcd) (bd _ _ _ _ ?_)
  refine wpAny_newFunctionEnv_cells S.kind (fun ⟨n, v⟩ hy => ?_) fun env he s1 xx => ?_
  · exact (S.par n (List.of_mem_zip hy).1).imp id fun q => ⟨q, PySem.W.cellsFrom_some _ _ _ (.inl q)⟩
  subst he
  refine ⟨nlm.keeps xx.toInCall.keep, codeAny_func ?_⟩
  obtain ⟨t, ht, hq⟩ := hbody cdv (hr.deeper _)
  have J : Inv (L2H.cxH CX0 P w K mg base N x (defScope st) f cdv A outer s H E (a, oe)) [] (L2.start N [.ref a]) H s1 := L2H.inv_startH S pin e0 rfl (.cons rfl .nil) xx
  refine wpAny_mono (ht.run [] s1 _ H _ J hq) (fun fl s2 h2 => ?_) fun e s2 h2 => h2
  cases fl with
  | next =>
    obtain ⟨σ2, H2, J2, q2⟩ := h2
    exact ⟨.non, H2, J2.os, J2.bare, J2.base, J2.hok, rfl, q2⟩
  | ret u =>
    obtain ⟨v2, σ2, H2, J2, r2, q2⟩ := h2
    exact ⟨v2, H2, J2.os, J2.bare, J2.base, J2.hok, r2, q2⟩
  | brk =>
    obtain ⟨_, _, _, q2⟩ := h2
    exact q2.elim
  | cont =>
    obtain ⟨_, _, _, q2⟩ := h2
    exact q2.elim
end
/-- f(e): what a def makes of a state, of the exception at a -/
structure HotFn (P : Program) (w : World) (K : PySem.W.Frag) (mg : Str → Option Value) (base : Heap) (k : Nat) (x : Str) (r : Addr → Obj → Hp → VK → Prop) : Prop where
  ex : ∃ g, mg x = some (.ref g) ∧ PySem.W.keepIn K (.ref g) = true ∧ ∀ (A : Around) (outer : List Env) (s : Shared) (H : Hp) (a : Addr) (oe : Obj) (Q : VK), L2H.RoomH k A → L2H.Hot1 A (a, oe) → L2H.PinOk outer H s (a, oe) → Env0 P w K mg base A outer s H → r a oe H Q →
    codeAny (model P w) A (.call (.ref g) ⟨[.ref a], []⟩) (CR CX0 outer P w H s Q C8.E0) s
theorem pe_hotcall {X : Cx} {k i : Nat} {x y : Str} {r : Addr → Obj → Hp → VK → Prop} {a : Addr} {oe : Obj} {p p2 pos : Pos} (hp : (a, oe) ∈ X.pn) (hot : L2H.Hot1 X.A (a, oe)) (C : HotFn X.prog X.w X.K X.mg X.base k x r) (hr : L2H.RoomH k X.A) (hi : X.N[i]? = some y) (hv : Vis X.env.scope y) (hg : Gl X x)
    (hdb : (x == ("__debug__" : Str)) = false) (hdy : (y == ("__debug__" : Str)) = false) (hcy : (y == ("__classdict__" : Str)) = false)
    (he : starEach [.Name y p2] X.env = (false, eval (.Name y p2) X.env) :: starEach [] X.env := by rfl) :
    PE X (.Call (.Name x p) [.Name y p2] [] pos) (fun σ H Q => σ[i]? = some (some (.ref a)) ∧ r a oe H Q) := by
  refine ⟨fun pins s σ H Q I h => ?_⟩
  obtain ⟨hσ, h⟩ := h
  obtain ⟨g, hm, hk, run⟩ := C.ex
  refine wpAny_Call_Name_kw (ld_glob I hg hm ?_ hdb)
  have ha : PA X [.Name y p2] (tCons (tVar i) tNil) := pa_cons (pe_var hi hv hdy hcy) pa_nil
  refine PySem.W.callWith_K (h₀ := X.base) I.ok.mod.kin hk (thn (ha.run pos pins s σ H (fun vs H1 => vs = [V.ref a] ∧ H1 = H) I ⟨_, hσ, rfl, rfl⟩) fun us s1 ⟨vs, H1, I1, r1, q1⟩ => ⟨I1.kIn, ?_⟩) he rfl
  obtain ⟨rfl, rfl⟩ := q1
  cases r1 with
  | cons ru rn =>
    cases rn
    cases ru
    have P1 := I1.pin (a, oe) (List.mem_append_left _ hp)
    have hpin : L2H.PinOk X.stack H1 s1 (a, oe) := ⟨P1.1, P1.2.1, fun hm => (List.mem_cons.mp (I1.stkSub a hm)).elim P1.2.2.1 P1.2.2.2.1, P1.2.2.2.2⟩
    refine wpAny_call (codeAny_mono (run X.A X.stack s1 H1 a oe Q hr hot hpin I1.env0 h) fun r s' hq => ?_)
    cases r with
    | error e => exact (show False from hq).elim
    | ok fl =>
      cases fl with
      | ret u => exact I1.after hq
      | next => exact False.elim hq
      | brk => exact False.elim hq
      | cont => exact False.elim hq
end Sc

namespace Sc
open PySem PySem.Spec PyProof.Rows L2
/-! ### classes of errors -/
structure WordF (K : PySem.W.Frag) (CL : List Str) : Prop where
  ec : ∀ c ∈ CL, ExcC K (He.ga K c)
  ki : ∀ c ∈ CL, ∀ c' ∈ CL, PySem.W.kitOne K (.ref (He.ga K c)) (.ref (He.ga K c')) = some (decide (c = c'))
  ve : ∀ c ∈ CL, PySem.W.kitOne K (.ref (He.ga K c)) (.type "ValueError") = some true
def excCB (K : PySem.W.Frag) (D : Addr) : Bool :=
  (PySem.W.findIn K (.ref D) "__getattribute__" == some (some (.builtin "BaseException.__getattribute__"))) && (PySem.W.findIn K (.ref D) "__getattr__" == some none) && (PySem.W.subIn K (.ref D) (.type "BaseException") == some true) && PySem.W.hasDictIn K D
  && (PySem.W.findIn K (.ref D) "__class__" == some (some (.builtin "object.__class__"))) && (PySem.W.specialIn K (.builtin "object.__class__") "__get__" == some (some (.builtin "getset_descriptor.__get__"))) && (PySem.W.takesIn K (.builtin "object.__class__") == some true) && (PySem.W.mroIn K D (.type "object") == some true)
theorem excCB_of {K : PySem.W.Frag} {D : Addr} (h : excCB K D = true) : ExcC K D := by
  unfold excCB at h
  simp only [Bool.and_eq_true, beq_iff_eq] at h
  obtain ⟨⟨⟨⟨⟨⟨⟨h1, h2⟩, h3⟩, h4⟩, h5⟩, h6⟩, h7⟩, h8⟩ := h
  exact ⟨h1, h2, h3, h4, h5, h6, h7, h8⟩
def wordB (CL : List Str) (K : PySem.W.Frag) : Bool := CL.all fun c => excCB K (He.ga K c) && (PySem.W.kitOne K (.ref (He.ga K c)) (.type "ValueError") == some true) && CL.all fun c' => PySem.W.kitOne K (.ref (He.ga K c)) (.ref (He.ga K c')) == some (decide (c = c'))
theorem wordB_of {K : PySem.W.Frag} {CL : List Str} (h : wordB CL K = true) : WordF K CL := by
  unfold wordB at h
  simp only [List.all_eq_true, Bool.and_eq_true, beq_iff_eq] at h
  exact ⟨fun c hc => excCB_of (h c hc).1.1, fun c hc c' hc' => (h c hc).2 c' hc', fun c hc => (h c hc).1.2⟩
/-- what `_law_word` makes of an error -/
def rWord (K : PySem.W.Frag) (CL : List Str) (a : Addr) (oe : Obj) (H : Hp) (Q : VK) : Prop :=
  ∃ c ∈ CL, L2N.Zn (.ref (He.ga K c)) none oe ∧ (∃ vs, oe.data = .fields vs) ∧ ∀ l H', Same H H' → H l = none → H' l = some (.tup [.str "refused", .str c]) → Q (.ref l) H'
/-! ### a lambda's body, its exceptions with no context -/
section
variable {X : Cx} {pins : List (Addr × Obj)} {σ : L2.St} {H HZ : Hp} {s s1 : Shared}
/-- the context of the lambda's body -/
def lamN (X : Cx) (A : Around) (outer : List Env) (s : Shared) (H : Hp) (E : XK) (scope : Scope) (f c' : Addr) : Cx :=
  { LamX.lamCx X A outer s H E scope f c' with xe := fun e s' => wpAny (model X.prog X.w) (A.deeper (LamX.lamEnv X scope s.heap.objs.size f c')) (leaving (LamX.lamEnv X scope s.heap.objs.size f c') e) (fun _ s'' => L2N.CX X.prog X.w outer H s E e s'') (fun e' s'' => L2N.CX X.prog X.w outer H s E e' s'') s' }
theorem lamN_start {A : Around} {outer : List Env} {E : XK} {scope : Scope} {f c' : Addr} {h₁ : Heap} {tk : Nat} (I : Inv X pins σ H s) (L : LamX.LamS X.env.scope scope) (e0 : Env0 X.prog X.w X.K X.mg X.base A outer s1 HZ) (hd : A.handled = none)
    (un : Un (frs X.stack) [] H HZ s.heap s1.heap) (hns : h₁.Ns s1.heap.objs.size fun y => ([] : List (Str × Value)).reverse.lookup y) (kp : ∀ b o, s1.heap.get? b = some o → h₁.get? b = some o) :
    Inv (lamN X A outer s1 HZ E scope f c') [] σ HZ { s1 with heap := h₁, toks := tk } := by
  have J := LamX.lam_start2 (E := E) (f := f) (c' := c') (tk := tk) I L e0 hd un hns kp
  exact J.wish _

abbrev clos (X : Cx) (scope : Scope) : List (Str × Addr) := cloFrom X.env.cells scope.names []
abbrev lq (X : Cx) : Str := X.env.qual ++ "<lambda>"
abbrev oLam (X : Cx) (params : Arguments) (body : Expr) (scope : Scope) (pm : Value) (c' : Addr) (ctv : Value) : Obj := PySem.W.kla_obj "<lambda>" (lq X) params body scope (clos X scope) pm c' ctv
/-- the context of the def that got the lambda -/
abbrev toldCx (X : Cx) (N : List Str) (x : Str) (sg : Scope) (g : Addr) (cdg : Value) (s : Shared) (H : Hp) : Cx := (cxOf CX0 X.prog X.w X.K X.mg X.base N x sg g cdg X.A X.stack s H E0).nox
/-- deed(), in the def that got the lambda -/
theorem pe_deed {N : List Str} {x a : Str} {sg : Scope} {g f c' : Addr} {cdg pm ctv : Value} {params : Arguments} {body : Expr} {scope : Scope} {k i : Nat} {pn : List (Addr × Obj)} {xe : Value → Shared → Prop} {W : WX} {E : XK} {tb : TE} {p1 p2 : Pos}
    (I : Inv X pins σ H s) (L : LamX.LamS X.env.scope scope) (hf : s.heap.get? f = some (oLam X params body scope pm c' ctv)) (hfn : H f = none) (hfr : f ∉ frs X.stack)
    (hbind : bindArgs (PySem.W.kla_fn "<lambda>" (lq X) params body scope (clos X scope) pm (.ref c') ctv) ⟨[], []⟩ = pure [])
    (tk : L2N.Takes ((toldCx X N x sg g cdg s H).tr pn xe) W) (hW : ∀ cls d σ' H', E cls d H' → W cls d σ' H') (hr : Room (k + 1) (X.A.deeper (envOfC x sg s.heap.objs.size g cdg)))
    (hbody : ∀ (A : Around) (outer : List Env) (s : Shared) (H : Hp), Room k (A.deeper (LamX.lamEnv X scope s.heap.objs.size f c')) → PE (lamN X A outer s H E scope f c') body tb)
    (hN : N[i]? = some a) (hv : Vis sg a) (hd : (a == ("__debug__" : Str)) = false) (hcd : (a == ("__classdict__" : Str)) = false) :
    PE ((toldCx X N x sg g cdg s H).tr pn xe) (.Call (.Name a p1) [] [] p2) (fun σZ HZ Q => σZ[i]? = some (some (.ref f)) ∧ HZ c' = some (LamX.CodeO c' (lq X)) ∧ tb σ HZ Q) := by
  constructor
  rintro pinsZ sZ σZ HZ Q IZ ⟨hs, hc, ht⟩
  refine wpAny_Call_Name_kw (thn ((pe_var (pos := p1) (i := i) hN hv hd hcd).run pinsZ sZ σZ HZ (fun v H1 => v = .ref f ∧ H1 = HZ) IZ ⟨.ref f, hs, rfl, rfl⟩) ?_)
  rintro u s1 ⟨v, H1, I1, r1, rfl, rfl⟩
  obtain rfl : u = Value.ref f := r1
  have of1 : s1.heap.get? f = some (oLam X params body scope pm c' ctv) := I1.base.keep f _ hf hfn hfr fun z => nomatch (show f ∈ ([] : List Addr) from z)
  refine PySem.W.callWith_F0 ⟨_, _, _, _, of1⟩ ?_
  have un : Un (frs X.stack) [] H H1 s.heap s1.heap := I1.base
  obtain ⟨⟨oc, vs, t, hoc, hdc, hvc⟩, _, _⟩ := I1.hok c' _ hc
  have rc : codeAny (model X.prog X.w) (X.A.deeper (envOfC x sg s.heap.objs.size g cdg)) (.call (.ref f) ⟨[], []⟩) (CR (L2N.CX X.prog X.w) (envOfC x sg s.heap.objs.size g cdg :: X.stack) X.prog X.w H1 s1 Q E) s1 := by
    refine PySem.W.kla_callFunE hr.depth of1 rfl L.co L.gen rfl ⟨c', oc, vs, t, rfl, hoc, hdc, hvc⟩ ?_
    rw [hbind]
    refine wpAny_pure (wpAny_newFunctionEnv (fun y hy => (L.own y hy).2) (fun y hy => absurd hy (by simp)) (fun h₁ hns hsb => ⟨I1.nolimit.fresh _ hsb, ?_⟩) L.kind)
    show codeAny _ _ (.expr body (LamX.lamEnv X scope s1.heap.objs.size f c')) _ _
    have kp : ∀ b o, s1.heap.get? b = some o → h₁.get? b = some o := fun b o e => hsb.extBut b o (Nat.ne_of_lt (Heap.lt_size e)) (Heap.get?_push_of_some _ e)
    have J := lamN_start (E := E) (f := f) (c' := c') (tk := s1.toks + ([] : List (Str × Value)).length) I L I1.env0 hr.hd un hns kp
    refine PySem.W.kla_codeExpr (wpAny_mono ((hbody _ _ s1 H1 (hr.deeper _)).run [] _ _ H1 Q J ht) ?_ fun e s' hq => hq)
    rintro v s' ⟨w', H', J', rv, q⟩
    exact ⟨w', H', J'.os, J'.bare, J'.base, J'.hok, rv, q⟩
  refine wpAny_call (codeAny_mono rc ?_)
  rintro (e | fl) s' hq
  · exact L2N.passes_call tk hW pinsZ σZ H1 s1 e s' I1 hq
  · cases fl with
    | ret u => exact I1.after hq
    | next => exact hq.elim
    | brk => exact hq.elim
    | cont => exact hq.elim
/-- x(lambda: body): where an error of the body goes -/
def eTold (K : PySem.W.Frag) (CL : List Str) (Q : VK) : XK := fun cls d H => ∃ c ∈ CL, cls = .ref (He.ga K c) ∧ d = none ∧ ∀ l H', Same H H' → H l = none → H' l = some (.tup [.str "refused", .str c]) → Q (.ref l) H'
def tTold (T : List (Addr × Str)) (K : PySem.W.Frag) (CL : List Str) (t : XK → TE) : TE := fun σ H Q => LamX.Tabs T H ∧ ∀ H1, LamX.ExtN H H1 → LamX.Tabs T H1 → t (eTold K CL Q) σ H1 Q
/-- the def `told` -/
abbrev toldBody (a e n wd : Str) (p1 p2 p3 p4 p5 p6 p7 p8 p9 p0 : Pos) : List Stmt :=
  [.Try [.Return (some (.Call (.Name a p1) [] [] p2)) p3] [.ExceptHandler (some (.Name e p4)) (some n) [.Return (some (.Call (.Name wd p5) [.Name n p6] [] p7)) p8] p9] [] [] p0]
theorem ps_ret_of {X : Cx} {e : Expr} {te : TE} {ts : TS} {pos : Pos} (he : PE X e te) (h : ∀ D σ H, σ.length = X.N.length → ts D σ H → te σ H D.rt) : PSs X [.Return (some e) pos] ts := by
  refine ⟨fun pins s σ H D I hq => ?_⟩
  exact (pss_one (ps_ret (pos := pos) he)).run pins s σ H D I (h D σ H I.len hq)
theorem takesN {X : Cx} : L2N.Takes X (fun _ _ _ _ => False) := fun _ _ ⟨_, _, _, _, _, _, _, _, _, _, _, _, _, _, _, _, z⟩ => z.elim
theorem told_body {N : List Str} {x a e n wd : Str} {sg : Scope} {g f c' : Addr} {cdg : Value} {CL : List Str} {q : Str} {Q : VK} {tl : XK → Hp → VK → Prop} {k : Nat} {p1 p2 p3 p4 p5 p6 p7 p8 p9 p0 : Pos}
    (act : ∀ (W : WX) (pn : List (Addr × Obj)) (xe : Value → Shared → Prop) (E : XK), L2N.Takes ((toldCx X N x sg g cdg s H).tr pn xe) W → (∀ cls d σ' H', E cls d H' → W cls d σ' H') →
      PE ((toldCx X N x sg g cdg s H).tr pn xe) (.Call (.Name a p1) [] [] p2) (fun σZ HZ Q => σZ[0]? = some (some (.ref f)) ∧ HZ c' = some (LamX.CodeO c' q) ∧ tl E HZ Q))
    (hc : H c' = some (LamX.CodeO c' q)) (ht : tl (eTold X.K CL Q) H Q) (nd : N.Nodup) (hN : N = [a, n]) (hn : sg.names.lookup n = some .local) (hdn : (n == ("__debug__" : Str)) = false) (hcn : (n == ("__classdict__" : Str)) = false)
    (hge : sg.names.lookup e = some .globalImplicit) (hme : X.mg e = some (.ref (He.ga X.K e))) (hde : (e == ("__debug__" : Str)) = false) (hex : ∀ c ∈ CL, PySem.W.exmOne X.K (.ref (He.ga X.K c)) (.ref (He.ga X.K e)) = some true)
    (hgw : sg.names.lookup wd = some .globalImplicit) (hdw : (wd == ("__debug__" : Str)) = false) (hw : HotFn X.prog X.w X.K X.mg X.base k wd (rWord X.K CL)) (hr : Room k (X.A.deeper (envOfC x sg s.heap.objs.size g cdg))) :
    ∃ t, PSs (toldCx X N x sg g cdg s H) (toldBody a e n wd p1 p2 p3 p4 p5 p6 p7 p8 p9 p0) t ∧ t { nx := fun _ H' => Q .non H', rt := Q } (L2.start N [.ref f]) H := by
  subst hN
  refine ⟨_, pss_one (L2N.ps_try_as (X := toldCx X [a, n] x sg g cdg s H) (i := 1) (c := .ref (He.ga X.K e))
      (tb := fun W D σ H => ∃ Ech : XK, (∀ cls d σ' H', Ech cls d H' → W cls d σ' H') ∧ σ[0]? = some (some (.ref f)) ∧ H c' = some (LamX.CodeO c' q) ∧ tl Ech H D.rt)
      (ts := fun a cls d D σ H => (∃ σ0 : L2.St, σ = σ0.set 1 (some (.ref a))) ∧ ∃ c ∈ CL, cls = .ref (He.ga X.K c) ∧ d = none ∧ ∀ l H', Same H H' → H l = none → H' l = some (.tup [.str "refused", .str c]) → D.rt (.ref l) H')
      rfl rfl nd rfl hn ⟨hge, hde, .inl hme⟩ takesN (fun W pn xe tk _ => ?_) fun a2 oe cls d pn hz hv => ?_), ?_⟩
  · refine ⟨fun pins s' σ H' D I h' => ?_⟩
    obtain ⟨Ech, hW, h1, h2, h3⟩ := h'
    exact (pss_one (ps_ret (pos := p3) (act W pn xe Ech tk hW))).run pins s' σ H' D I ⟨h1, h2, h3⟩
  · refine ps_ret_of (pe_hotcall (i := 1) (k := k) (r := rWord X.K CL) (a := a2) (oe := oe) List.mem_cons_self ⟨rfl, ?_⟩ hw ⟨hr.dp, hr.un⟩ rfl (.inl hn) hgw hdw hdn hcn) ?_
    · obtain ⟨vs, e1⟩ := hv
      exact ⟨vs, e1, hz.2.2 vs e1⟩
    · rintro D σ H' hl ⟨⟨σ0, rfl⟩, c, hc1, rfl, rfl, h2⟩
      refine ⟨?_, c, hc1, hz, hv, h2⟩
      have hl : σ0.length = 2 := by rw [List.length_set] at hl; exact hl
      rw [List.getElem?_set_self (by omega)]
  · refine ⟨eTold X.K CL Q, ?_, rfl, hc, ht⟩
    rintro cls d σ' H' ⟨c, hc1, rfl, rfl, h2⟩
    refine ⟨true, hex c hc1, fun _ a2 ha2 => ⟨⟨σ', rfl⟩, c, hc1, rfl, rfl, h2⟩, fun z => nomatch z⟩
/-- told(lambda: body) -/
theorem pe_told {T : List (Addr × Str)} {CL N : List Str} {x a e n wd : Str} {c P : Addr} {k kw : Nat} {st : Stmt} {params : Arguments} {body : Expr} {scope : Scope} {t : XK → TE} {p lpos pos : Pos}
    (FD : FnD X.K x st) (gx : X.mg x = some (.ref (He.ga X.K x))) (S : FnScope N [a] (defScope st)) (hN : N = [a, n])
    (hb : ∀ (kV doc pm : Value) (an : Option Addr) (cdv ct : Value) (us : List Value), us.length = 1 → bindArgs (PySem.W.fnOf x x (defArgs st) (defBody st) (defScope st) .none kV doc pm an cdv ct) ⟨us, []⟩ = pure ([a].zip us))
    (hbd : ∃ p1 p2 p3 p4 p5 p6 p7 p8 p9 p0, defBody st = toldBody a e n wd p1 p2 p3 p4 p5 p6 p7 p8 p9 p0)
    (hn : (defScope st).names.lookup n = some .local) (hva : Vis (defScope st) a) (hge : (defScope st).names.lookup e = some .globalImplicit) (hgw : (defScope st).names.lookup wd = some .globalImplicit)
    (hd : [x, a, e, n, wd].all (fun y => !(y == ("__debug__" : Str)) && !(y == ("__classdict__" : Str))) = true)
    (hme : X.mg e = some (.ref (He.ga X.K e))) (hex : ∀ c ∈ CL, PySem.W.exmOne X.K (.ref (He.ga X.K c)) (.ref (He.ga X.K e)) = some true) (hw : HotFn X.prog X.w X.K X.mg X.base kw wd (rWord X.K CL)) (hkw : kw ≤ k + 1)
    (TB : LamX.TabB X.base X.mg c P) (hcode : X.env.code = .ref c) (hmT : (P, lq X) ∈ T) (hu : ∀ p ∈ T, p.1 = P → p.2 = lq X) (hr : Room (k + 2) X.A) (hg : Gl X x) (L : LamX.LamS X.env.scope scope) (hdef : defaultsOf params X.env = ([], []))
    (hbind : ∀ (q : Str) (cl : List (Str × Addr)) (pm cv ctv : Value), bindArgs (PySem.W.kla_fn "<lambda>" q params body scope cl pm cv ctv) ⟨[], []⟩ = pure [])
    (hbody : ∀ (A : Around) (outer : List Env) (s : Shared) (H : Hp) (E : XK) (f c' : Addr), Room k (A.deeper (LamX.lamEnv X scope s.heap.objs.size f c')) → PE (lamN X A outer s H E scope f c') body (t E)) :
    PE X (.Call (.Name x p) [.Lambda params body scope lpos] [] pos) (tTold T X.K CL t) := by
  simp only [List.all_cons, List.all_nil, Bool.and_eq_true, Bool.not_eq_true', Bool.and_true] at hd
  obtain ⟨⟨d1, _⟩, ⟨d2, e2⟩, ⟨d3, _⟩, ⟨d4, e4⟩, d5, _⟩ := hd
  obtain ⟨fd, FD⟩ := FD
  obtain ⟨p1, p2, p3, p4, p5, p6, p7, p8, p9, p0, hbd⟩ := hbd
  constructor
  rintro pins s σ H Q I ⟨hT, h⟩
  refine wpAny_Call_Name_kw (ld_glob I hg gx ?_ d1)
  refine PySem.W.callWith_K (h₀ := X.base) I.ok.mod.kin FD.kp ?_ (by rfl) (by rfl)
  show wpAny _ _ (spliced ((false, eval (.Lambda params body scope lpos) X.env) :: backTo pos (starEach [] X.env))) _ _ s
  refine Calls.spliced_cons (LamX.lam_make2 I TB hcode hmT hu hT hdef (L.has I.ok) ?_)
  intro f c' pm' ctv H1 s' I1 eN T1 hf hfn hfr hco
  refine Calls.spliced_nil ⟨I1.kIn, ?_⟩
  have bd := FD.bindsA (ps := [a]) hb s' [.ref f] rfl
  obtain ⟨oc, od, dV, kV, doc, pm, an, cdv, ct, osl, rfl, lk, hcd, _, _⟩ := FD.ex
  have rc : codeAny (model X.prog X.w) X.A (.call (.ref (He.ga X.K x)) ⟨[.ref f], []⟩) (CR CX0 X.stack X.prog X.w H1 s' Q E0) s' := by
    refine LamX.run_ofS (N := N) (ps := [a]) (us := [.ref f]) (vs := [.ref f]) lk hcd S hr I1.env0 bd (.cons rfl .nil) rfl fun hr' => ?_
    rw [hbd]
    obtain ⟨t', ht', hq'⟩ := told_body (X := X) (s := s') (H := H1) (N := N) (x := x) (a := a) (e := e) (n := n) (wd := wd) (sg := defScope st) (g := He.ga X.K x) (cdg := cdv) (CL := CL) (q := lq X) (Q := Q) (k := kw) (p1 := p1) (p2 := p2) (p3 := p3) (p4 := p4) (p5 := p5) (p6 := p6) (p7 := p7) (p8 := p8) (p9 := p9) (p0 := p0) (tl := fun E H' Q' => t E σ H' Q')
      (fun W pn xe E tk hW => pe_deed (i := 0) (k := k) I1 L hf hfn hfr (hbind _ _ _ _ _) tk hW hr' (fun A outer s H hr2 => hbody A outer s H E f c' hr2) (by rw [hN]; rfl) hva d2 e2) hco (h H1 eN T1) S.nd hN hn d4 e4 hge hme d3 hex hgw d5 hw (hr'.mono hkw)
    exact ⟨t', ht'.nox, hq'⟩
  refine wpAny_call (codeAny_mono rc ?_)
  rintro (e | fl) s2 hq
  · exact (show False from hq).elim
  · cases fl with
    | ret u => exact I1.after hq
    | next => exact hq.elim
    | brk => exact hq.elim
    | cont => exact hq.elim
end
end Sc

namespace Sc
open PySem PySem.Spec PyProof.Rows L2
/-! ### heaps go on, tables of code objects too -/
def RT (T : List (Addr × Str)) (H H' : Hp) : Prop := Xt H H' ∧ (LamX.Tabs T H → LamX.Tabs T H')
instance rok_rt {T : List (Addr × Str)} : ROk (RT T) where
  refl := fun H => ⟨LamX.ExtN.refl H, id⟩
  trans := fun a b => ⟨a.1.trans b.1, fun t => b.2 (a.2 t)⟩
  same := fun s => ⟨xt_of s, fun t => t.ext s⟩
  ext := fun r => r.1
  chg := fun {H H' p xs ys} hn hl r => by
    refine ⟨fun b o e n => ?_, fun t q hq => ?_⟩
    · rw [upd_ne (ne_of_none e hn)]
      exact r.1 b o e n
    · obtain ⟨ps, h1, h2, h3⟩ := r.2 t q hq
      have ne : ∀ {b o}, H' b = some o → (∀ zs, o ≠ .lst zs) → b ≠ p := fun e n z => by
        rw [z, hl] at e
        exact n _ (Option.some.inj e).symm
      refine ⟨ps, by rw [upd_ne (ne h1 fun zs z => by cases z)]; exact h1, h2, fun pos cv hc => ?_⟩
      obtain ⟨c, e1, e2⟩ := h3 pos cv hc
      exact ⟨c, e1, by rw [upd_ne (ne e2 fun zs z => by unfold LamX.CodeO at z; cases z)]; exact e2⟩
/-- a lambda's body: a datum, or an error -/
def DX (R : Hp → Hp → Prop) (K : PySem.W.Frag) (F : List Addr) (tb : XK → TE) (σ : L2.St) (H : Hp) (r : Except Str PyData) : Prop := ∀ H1, R H H1 → Fd F H1 → ∀ (Q : VK) (E : XK),
  (∀ d, r = .ok d → ∀ v H2, R H1 H2 → Da K (hid F H2) d v → Q v H2) → (∀ c, r = .error c → ∀ H2, R H1 H2 → E (.ref (He.ga K c)) none H2) → tb E σ H1 Q
def tellOf : Except Str PyData → PyData
  | .ok d => d
  | .error c => .tuple [.str "refused", .str c]
section
variable {R : Hp → Hp → Prop} [ROk R] {T : List (Addr × Str)} {K : PySem.W.Frag} {F : List Addr} {σ : L2.St} {H H' : Hp} {r : Except Str PyData}
theorem dx_call {n : Nat} {A : List PyData → Except Str PyData → Prop} {tr : TA} {ds : List PyData} (h : DA R K F tr σ H ds) (ha : A ds r) (hn : ds.length = n) : DX R K F (fun E => tCall (spG K n A) [] E tr) σ H r :=
  fun H1 r1 f1 Q E k1 k2 => h H1 r1 f1 _ fun vs H2 r2 l => by
    rw [List.append_nil]
    exact ⟨F, ds, r, r_fd r2 f1, l, hn, ha, fun d e v H3 s3 g => k1 d e v H3 (ROk.trans r2 (ROk.same s3)) g, fun c e H3 s3 => k2 c e H3 (ROk.trans r2 (ROk.same s3))⟩
theorem dx_ok {te : TE} {d : PyData} (h : DV R K F te σ H d) : DX R K F (fun _ => te) σ H (.ok d) := fun H1 r1 f1 Q E k1 _ => h H1 r1 f1 Q fun v H2 r2 g => k1 d rfl v H2 r2 g
theorem dv_told {CL : List Str} {tb : XK → TE} (hT : LamX.Tabs T H) (h : DX (RT T) K F tb σ H r) (hc : ∀ c, r = .error c → c ∈ CL) : DV (RT T) K F (tTold T K CL tb) σ H (tellOf r) := fun H1 r1 f1 Q q => by
  refine ⟨r1.2 hT, fun H2 x2 T2 => ?_⟩
  have r2 : RT T H1 H2 := ⟨x2, fun _ => T2⟩
  have f2 := r_fd r2 f1
  refine h H2 (ROk.trans r1 r2) f2 Q _ (fun d e v H3 r3 g => ?_) fun c e H3 r3 => ⟨c, hc c e, rfl, rfl, fun l H4 s4 hl g4 => ?_⟩
  · subst e
    exact q v H3 (ROk.trans r2 r3) g
  · subst e
    refine q _ H4 (ROk.trans r2 (ROk.trans r3 (ROk.same s4))) ⟨l, _, rfl, ?_, _, _, rfl, rfl, _, _, rfl, rfl, rfl⟩
    have nl : l ∉ F := (r_fd r3 f2).new hl
    exact SqT.of (by rw [hid_out nl]; exact g4)
end
end Sc

namespace Sc
open PySem PySem.Spec PyProof.Rows L2
/-- the law's promise -/
def spLaw (K : PySem.W.Frag) (Ts : List (Addr × Str)) : Sp := fun vs H Q _ => ∃ (a : Addr) (ns : List Int), vs = [.ref a] ∧ SqL K H a (ns.map V.int) ∧ ns.length ≤ 63 ∧ (∀ z ∈ ns, Builtin.Int.intBits z ≤ 1048576) ∧ LamX.Tabs Ts H ∧ ∀ H', Q (.bl true) H'
section
variable {P : Program} {w : World} {K : PySem.W.Frag} {mg : Str → Option Value} {base : Heap}
abbrev lawA (K : PySem.W.Frag) : Addr := He.fAd K ("law", none)
abbrev lawC (K : PySem.W.Frag) (x : Str) : Addr := (He.cT K (x, none)).1
abbrev lawP (K : PySem.W.Frag) (x : Str) : Addr := (He.cT K (x, none)).2
/-- the context of the def x, which makes lambdas -/
abbrev lawCx (P : Program) (w : World) (K : PySem.W.Frag) (mg : Str → Option Value) (base : Heap) (N : List Str) (x : Str) (sc : Scope) (A : Around) (outer : List Env) (s : Shared) (H : Hp) : Cx := (cxOf CX0 P w K mg base N x sc (He.fAd K (x, none)) (.ref (lawC K x)) A outer s H E0).nox
theorem fn_lam {x : Str} {st : Stmt} {N ps : List Str} {k : Nat} {sp : Sp} {fd : FuncData} (FD : FunD K x x (defArgs st) (defBody st) (defScope st) [] [] (He.fAd K (x, none)) fd) (S : FnScope N ps (defScope st)) (len : ∀ vs H Q E, sp vs H Q E → vs.length = ps.length) (hE : ∀ vs H Q E, sp vs H Q E → sp vs H Q E0)
    (hbody : ∀ (A : Around) (outer : List Env) (s : Shared) (H : Hp) (vs : List V) (Q : VK), Room k (A.deeper (envOfC x (defScope st) s.heap.objs.size (He.fAd K (x, none)) (.ref (lawC K x)))) → sp vs H Q E0 →
      ∃ t, PSs (lawCx P w K mg base N x (defScope st) A outer s H) (defBody st) t ∧ t { nx := fun _ H' => Q .non H', rt := Q } (start N vs) H) : FnOk P w K mg base CX0 (k + 1) (He.fAd K (x, none)) fd ps sp := by
  obtain ⟨oc, od, dV, kV, doc, pm, an, cdv, ct, osl, rfl, lk, hcd, _, _⟩ := FD.ex
  obtain ⟨c, rfl⟩ := He.codeIn_ref hcd
  have ec : lawC K x = c := He.codeOf_eq lk rfl
  subst ec
  refine fn_of lk hcd S len fun A outer s H vs Q E hr hsp => ?_
  obtain ⟨t, ht, hq⟩ := hbody A outer s H vs Q hr (hE _ _ _ _ hsp)
  exact ⟨t, ht.nox, hq⟩
end
section
variable {R : Hp → Hp → Prop} [ROk R] {K : PySem.W.Frag} {F : List Addr} {σ : L2.St} {H H' : Hp} {ta tb te : TE} {d : PyData} {v : V} {D : Ends} {nx bk ct : L2.St → Hp → Prop} {rt : VK} {t u : TS} {c : TT}
/-- x = [..]: a new list, the owner's -/
theorem s_list {i : Nat} {tr : TA} {ds : List PyData} (h : DA R K F tr σ H ds) (f : Fd F H) (hl : ds.length ≤ sizeLine) (k : ∀ l vs H1, R H H1 → H1 l = none → DaL K (hid F H1) ds vs → nx (σ.set i (some (.ref l))) (upd H1 l (.lst vs))) : tAsg (tLst tr) (gName i) ⟨nx, rt, bk, ct⟩ σ H :=
  h H (r_refl H) f _ fun vs H1 r1 l1 => ⟨by rw [l1.length]; exact hl, fun l hl => k l vs H1 r1 hl l1⟩
/-- what is known goes on behind a new list, seen by the owner -/
theorem hid_new {l : Addr} {o : HO} (hl : H l = none) : Xt (hid F H) (hid (l :: F) (upd H l o)) := fun b u e nt => by
  obtain ⟨e1, e2⟩ := hid_le e
  have ne : b ≠ l := ne_of_none e1 hl
  rw [hid_out (by intro z; rcases List.mem_cons.mp z with z | z; exact ne z; exact e2 z), upd_ne ne]
  exact e1
theorem hid_cons {l : Addr} : Xt (hid (l :: F) H) (hid F H) := hid_sub fun b hb => List.mem_cons_of_mem _ hb
/-- a, b = x, y -/
theorem s_par {i j : Nat} {tr : TA} {d1 d2 : PyData} (h : DA R K F tr σ H [d1, d2]) (f : Fd F H) (k : ∀ v w H1, R H H1 → Da K (hid F H1) d1 v → Da K (hid F H1) d2 w → nx ((σ.set i (some v)).set j (some w)) H1) : tPar i j tr ⟨nx, rt, bk, ct⟩ σ H :=
  h H (r_refl H) f _ fun vs H1 r1 l1 => by
    obtain ⟨v, _, rfl, h1, w, _, rfl, h2, rfl⟩ := l1
    exact ⟨v, w, rfl, k v w H1 r1 h1 h2⟩
theorem dv_max {i j : Int} (ha : DV R K F ta σ H (.int i)) (hb : DV R K F tb σ H (.int j)) : DV R K F (tCB (fun xs H Q => ∃ i j, xs = [V.int i, V.int j] ∧ Q (V.int (if j > i then j else i)) H) (tCons ta (tCons tb tNil))) σ H (.int (max i j)) :=
  dv_cb (da_cons ha (da_cons hb da_nil)) fun vs H1 Q r1 f1 l1 q => by
    obtain ⟨v, _, rfl, h1, w, _, rfl, h2, rfl⟩ := l1
    have h1 : v = .int i := h1
    have h2 : w = .int j := h2
    subst h1 h2
    refine ⟨i, j, rfl, ?_⟩
    have e : (if j > i then j else i) = max i j := by split <;> omega
    rw [e]
    exact q _ H1 (r_refl _) rfl
theorem dv_min {i j : Int} (ha : DV R K F ta σ H (.int i)) (hb : DV R K F tb σ H (.int j)) : DV R K F (tCB (fun xs H Q => ∃ i j, xs = [V.int i, V.int j] ∧ Q (V.int (if j < i then j else i)) H) (tCons ta (tCons tb tNil))) σ H (.int (min i j)) :=
  dv_cb (da_cons ha (da_cons hb da_nil)) fun vs H1 Q r1 f1 l1 q => by
    obtain ⟨v, _, rfl, h1, w, _, rfl, h2, rfl⟩ := l1
    have h1 : v = .int i := h1
    have h2 : w = .int j := h2
    subst h1 h2
    refine ⟨i, j, rfl, ?_⟩
    have e : (if j < i then j else i) = min i j := by split <;> omega
    rw [e]
    exact q _ H1 (r_refl _) rfl
/-- len(script) -/
theorem dv_lenSc {i : Nat} {a : Addr} {xs : List V} (h : σ[i]? = some (some (.ref a))) (hs : SqL K H a xs) : DV R K F (tCB (rLn K) (tCons (tVar i) tNil)) σ H (.int xs.length) := fun H1 r1 f1 Q q =>
  ⟨_, h, _, xs.length, rfl, .inl ⟨_, xt_sqL (ROk.ext r1) hs, rfl⟩, q _ H1 (r_refl _) rfl⟩
/-- a list of the owner's, made behind H0 -/
structure Own (R : Hp → Hp → Prop) (K : PySem.W.Frag) (F : List Addr) (H0 H : Hp) (l : Addr) (ds : List PyData) : Prop where
  new : H0 l = none
  fd : Fd F H0
  r : R H0 H
  at_ : ∃ xs, H l = some (.lst xs) ∧ DaL K (hid (l :: F) H) ds xs
theorem Own.out {H0 : Hp} {l : Addr} {ds : List PyData} (o : Own R K F H0 H l ds) : l ∉ F := o.fd.new o.new
theorem Own.fd1 {H0 : Hp} {l : Addr} {ds : List PyData} (o : Own R K F H0 H l ds) : Fd F H := r_fd o.r o.fd
theorem Own.fd2 {H0 : Hp} {l : Addr} {ds : List PyData} (o : Own R K F H0 H l ds) : Fd (l :: F) H := by
  obtain ⟨xs, h, _⟩ := o.at_
  exact o.fd1.cons h fun ps z => by cases z
theorem Own.da {H0 : Hp} {l : Addr} {ds : List PyData} (o : Own R K F H0 H l ds) : Da K (hid F H) (.list ds) (.ref l) := by
  obtain ⟨xs, h, g⟩ := o.at_
  exact ⟨l, xs, rfl, by rw [hid_out o.out]; exact h, g.mono hid_cons⟩
theorem Own.mono {H0 : Hp} {l : Addr} {ds : List PyData} (o : Own R K F H0 H l ds) (e : R H H') : Own R K F H0 H' l ds := by
  obtain ⟨xs, h, g⟩ := o.at_
  exact ⟨o.new, o.fd, ROk.trans o.r e, xs, ROk.ext e _ _ h (fun ps z => by cases z), g.mono (hid_xt (ROk.ext e))⟩
/-- x = [..] -/
theorem s_own {i : Nat} {tr : TA} {ds : List PyData} (h : DA R K F tr σ H ds) (f : Fd F H) (hl : ds.length ≤ sizeLine) (k : ∀ l H0 H', R H H0 → Own R K F H0 H' l ds → Xt (hid F H0) (hid (l :: F) H') → nx (σ.set i (some (.ref l))) H') : tAsg (tLst tr) (gName i) ⟨nx, rt, bk, ct⟩ σ H :=
  s_list h f hl fun l vs H1 r1 hn g => k l H1 _ r1 ⟨hn, r_fd r1 f, r_new hn, vs, upd_same, g.mono (hid_new hn)⟩ (hid_new hn)
/-- x.append(..) -/
theorem s_push {i : Nat} {l : Addr} {H0 : Hp} {ds : List PyData} (o : Own R K F H0 H l ds) (hσ : σ[i]? = some (some (.ref l))) (h : DV R K (l :: F) te σ H d) (hz : ds.length < sizeLine)
    (k : ∀ H', Own R K F H0 H' l (ds ++ [d]) → Xt (hid (l :: F) H) (hid (l :: F) H') → nx σ H') : tDrop (tBM K "list" rAppend (tVar i) (tCons te tNil)) ⟨nx, rt, bk, ct⟩ σ H := by
  obtain ⟨xs, hx, g⟩ := o.at_
  refine s_append (R := R) (K := K) (F := F) hσ hx o.fd1 h (by rw [g.length]; exact hz) fun v H1 r1 hv => ?_
  have hx1 : H1 l = some (.lst xs) := ROk.ext r1 _ _ hx fun ps z => by cases z
  have x1 : Xt (hid (l :: F) H) (hid (l :: F) (upd H1 l (.lst (xs ++ [v])))) := (hid_xt (ROk.ext r1)).trans hid_chg
  exact k _ ⟨o.new, o.fd, ROk.chg o.new hx1 (ROk.trans o.r r1), xs ++ [v], upd_same, (g.mono x1).snoc (hv.mono hid_chg)⟩ x1
end
end Sc

namespace Sc
open PySem PySem.Spec PyProof.Rows L2
/-! ### things that change -/
/-- only what stands at fp and may change has changed -/
structure Mo (fp : List Addr) (H H' : Hp) : Prop where
  keep : ∀ b o, H b = some o → (isMut o → b ∉ fp) → H' b = some o
  mu : ∀ b o, H b = some o → isMut o → ∃ o', H' b = some o' ∧ isMut o'
abbrev Fm (F : List Addr) (H : Hp) : Prop := Fd F H
section
variable {fp fq F : List Addr} {H H' H'' : Hp} {K : PySem.W.Frag}
theorem Fd.fd (h : Fm F H) : Fd F H := h
theorem Fd.put {a : Addr} {o : HO} (h : Fm F H) (e : H a = some o) (m : isMut o) : Fm (a :: F) H := fun b hb => by
  rcases List.mem_cons.mp hb with z | z
  · exact ⟨o, z ▸ e, m⟩
  · exact h b z
theorem Fd.sub (h : Fm F H) (s : ∀ b ∈ fp, b ∈ F) : Fm fp H := fun a ha => h a (s a ha)
theorem Fd.app (h : Fm F H) (h2 : Fm fp H) : Fm (F ++ fp) H := fun a ha => (List.mem_append.mp ha).elim (h a) (h2 a)
theorem Fd.mo (h : Fm F H) (m : Mo fp H H') : Fm F H' := fun a ha => let ⟨o, e, i⟩ := h a ha; m.mu a o e i
theorem Mo.refl : Mo fp H H := ⟨fun _ _ e _ => e, fun _ o e m => ⟨o, e, m⟩⟩
theorem Mo.trans (a : Mo fp H H') (b : Mo fp H' H'') : Mo fp H H'' := ⟨fun c o e m => b.keep c o (a.keep c o e m) m, fun c o e m => let ⟨o1, e1, m1⟩ := a.mu c o e m; b.mu c o1 e1 m1⟩
theorem Mo.sub (a : Mo fp H H') (s : ∀ b ∈ fp, b ∈ fq) : Mo fq H H' := ⟨fun c o e m => a.keep c o e fun i z => m i (s c z), a.mu⟩
theorem Mo.same (s : Same H H') : Mo fp H H' := ⟨fun c o e _ => s c o e, fun c o e m => ⟨o, s c o e, m⟩⟩
/-- a write at a place of fp, or at a new one -/
theorem Mo.write {a : Addr} {o : HO} (m : Mo fp H H') (h : a ∈ fp ∨ H a = none) (i : isMut o) (j : ∃ u, H' a = some u ∧ isMut u) : Mo fp H (upd H' a o) := by
  obtain ⟨u0, j0, j1⟩ := j
  refine ⟨fun c u e k => ?_, fun c u e k => ?_⟩
  · by_cases hc : c = a
    · subst hc
      rcases h with h | h
      · by_cases mu : isMut u
        · exact absurd h (k mu)
        · have := m.keep c u e k
          rw [j0] at this
          cases this
          exact absurd j1 mu
      · rw [h] at e; cases e
    · rw [upd_ne hc]
      exact m.keep c u e k
  · by_cases hc : c = a
    · subst hc
      exact ⟨o, upd_same, i⟩
    · rw [upd_ne hc]
      exact m.mu c u e k
theorem Mo.new {a : Addr} {o : HO} (m : Mo fp H H') (h : H' a = none) : Mo fp H (upd H' a o) := m.trans (Mo.same (same_new h))
/-- what is not hidden stays -/
theorem Mo.xt (m : Mo fp H H') (s : ∀ b ∈ fp, b ∈ F) : Xt (hid F H) (hid F H') := fun b o e _ => by
  obtain ⟨e1, e2⟩ := hid_le e
  rw [hid_out e2]
  exact m.keep b o e1 fun _ z => e2 (s b z)
theorem Mo.xt2 (m : Mo fp H H') (s : ∀ b ∈ fp, b ∈ F) (n : ∀ b ∈ fq, b ∈ F ∨ H b = none) : Xt (hid F H) (hid (fq ++ F) H') := fun b o e _ => by
  obtain ⟨e1, e2⟩ := hid_le e
  have nb : b ∉ fq ++ F := fun z => by
    rcases List.mem_append.mp z with z | z
    · rcases n b z with z | z
      · exact e2 z
      · rw [z] at e1; cases e1
    · exact e2 z
  rw [hid_out nb]
  exact m.keep b o e1 fun _ z => e2 (s b z)
theorem Mo.sqL {a : Addr} {o : Obj} {xs : List V} (m : Mo fp H H') (h : H a = some (.frz o (.lst xs))) : H' a = some (.frz o (.lst xs)) := m.keep _ _ h fun i => (show False from i).elim
theorem Mo.tabs {T : List (Addr × Str)} (m : Mo fp H H') (t : LamX.Tabs T H) : LamX.Tabs T H' := fun p hp => by
  obtain ⟨ps, h1, h2, h3⟩ := t p hp
  refine ⟨ps, m.keep _ _ h1 fun i => (show False from i).elim, h2, fun pos cv hc => ?_⟩
  obtain ⟨c, e1, e2⟩ := h3 pos cv hc
  exact ⟨c, e1, m.keep _ _ e2 fun i => (show False from i).elim⟩
/-! ### data without lists -/
mutual
def flat : PyData → Bool
  | .list _ => false
  | .dict _ => false
  | .tuple ds => flatL ds
  | _ => true
def flatL : List PyData → Bool
  | [] => true
  | d :: ds => flat d && flatL ds
end
theorem sqT_keep {a : Addr} {xs : List V} (h : SqT K H a xs) (k : ∀ b o, H b = some o → ¬ isMut o → H' b = some o) : SqT K H' a xs := by
  rcases h with (h | ⟨o, h⟩) | h
  · exact .inl (.inl (k _ _ h fun i => i))
  · exact .inl (.inr ⟨o, k _ _ h fun i => i⟩)
  · exact .inr h
mutual
theorem Da.keep (k : ∀ b o, H b = some o → ¬ isMut o → H' b = some o) : ∀ {d : PyData} {v : V}, flat d = true → Da K H d v → Da K H' d v
  | .none, _, _, h => h
  | .bool _, _, _, h => h
  | .int _, _, _, h => h
  | .str _, _, _, h => h
  | .list ds, _, f, h => by cases f
  | .tuple ds, _, f, h => by
    obtain ⟨a, xs, h1, h2, h3⟩ := h
    exact ⟨a, xs, h1, sqT_keep h2 k, DaL.keep k f h3⟩
  | .dict _, _, f, _ => by cases f
theorem DaL.keep (k : ∀ b o, H b = some o → ¬ isMut o → H' b = some o) : ∀ {ds : List PyData} {vs : List V}, flatL ds = true → DaL K H ds vs → DaL K H' ds vs
  | [], _, _, h => h
  | d :: ds, _, f, h => by
    obtain ⟨w, r, h1, h2, h3⟩ := h
    have f : (flat d && flatL ds) = true := f
    obtain ⟨f1, f2⟩ := Bool.and_eq_true_iff.mp f
    exact ⟨w, r, h1, Da.keep k f1 h2, DaL.keep k f2 h3⟩
end
theorem Da.mo {d : PyData} {v : V} (m : Mo fp H H') (f : flat d = true) (h : Da K H d v) : Da K H' d v := h.keep (fun b o e n => m.keep b o e fun i => absurd i n) f
theorem DaL.mo {ds : List PyData} {vs : List V} (m : Mo fp H H') (f : flatL ds = true) (h : DaL K H ds vs) : DaL K H' ds vs := h.keep (fun b o e n => m.keep b o e fun i => absurd i n) f
theorem Da.hide {d : PyData} {v : V} (fm : Fm F H) (f : flat d = true) (h : Da K H d v) : Da K (hid F H) d v := h.keep (fun b o e n => by
  rw [hid_out fun z => by
    obtain ⟨u, e1, m⟩ := fm b z
    rw [e] at e1
    cases e1
    exact n m]
  exact e) f
theorem DaL.hide {ds : List PyData} {vs : List V} (fm : Fm F H) (f : flatL ds = true) (h : DaL K H ds vs) : DaL K (hid F H) ds vs := h.keep (fun b o e n => by
  rw [hid_out fun z => by
    obtain ⟨u, e1, m⟩ := fm b z
    rw [e] at e1
    cases e1
    exact n m]
  exact e) f
theorem Da.shown {d : PyData} {v : V} (h : Da K (hid F H) d v) : Da K H d v := h.mono xt_hid
theorem DaL.shown {ds : List PyData} {vs : List V} (h : DaL K (hid F H) ds vs) : DaL K H ds vs := h.mono xt_hid
end
/-! ### fields -/
section
variable {R : Hp → Hp → Prop} [ROk R] {K : PySem.W.Frag} {F : List Addr} {σ : L2.St} {H H' : Hp} {ta tb te : TE} {d : PyData} {v : V} {nx bk ct : L2.St → Hp → Prop} {rt : VK} {t u : TS} {c : TT} {a C dx : Addr} {fs : List (Str × V)} {f : Str}
structure FldOk (K : PySem.W.Frag) (C : Addr) (f : Str) : Prop where
  c : Cls K C
  n : NoAttr K C f
theorem dv_fld (ha : VV R F te σ H (.ref a)) (ho : H a = some (.ins C dx fs)) (ok : FldOk K C f) (hf : fs.lookup f = some v) (hd : Da K (hid F H) d v) : DV R K F (tFld K te f) σ H d := fun H1 r1 f1 Q q =>
  ha H1 r1 f1 _ fun H2 r2 => ⟨a, C, dx, fs, v, rfl, ROk.ext (ROk.trans r1 r2) _ _ ho (fun ps z => by cases z), ok.c, ok.n, hf, q v H2 r2 (r_da (ROk.trans r1 r2) hd)⟩
theorem vv_fld (ha : VV R F te σ H (.ref a)) (ho : H a = some (.ins C dx fs)) (ok : FldOk K C f) (hf : fs.lookup f = some v) : VV R F (tFld K te f) σ H v := fun H1 r1 f1 Q q =>
  ha H1 r1 f1 _ fun H2 r2 => ⟨a, C, dx, fs, v, rfl, ROk.ext (ROk.trans r1 r2) _ _ ho (fun ps z => by cases z), ok.c, ok.n, hf, q H2 r2⟩
/-- o.f = value, a datum -/
theorem s_fld (h : DV R K F tb σ H d) (fd : Fd F H) (ha : VV R F te σ H (.ref a)) (ho : H a = some (.ins C dx fs)) (ok : FldOk K C f)
    (k : ∀ v H1, R H H1 → Da K (hid F H1) d v → H1 a = some (.ins C dx fs) → nx σ (upd H1 a (.ins C dx (putF f v fs)))) (hl : fs.length < 1000 := by exact Nat.le_of_ble_eq_true rfl) : sFld K te tb f ⟨nx, rt, bk, ct⟩ σ H :=
  h H (r_refl H) fd _ fun v H1 r1 hv => ha H1 r1 (r_fd r1 fd) _ fun H2 r2 => by
    have ho2 := ROk.ext (ROk.trans r1 r2) _ _ ho (fun ps z => by cases z)
    exact ⟨a, C, dx, fs, rfl, ho2, ok.c, ok.n, hl, k v H2 (ROk.trans r1 r2) (r_da r2 hv) ho2⟩
/-- o.f = value, any value -/
theorem s_fldV (h : VV R F tb σ H v) (fd : Fd F H) (ha : VV R F te σ H (.ref a)) (ho : H a = some (.ins C dx fs)) (ok : FldOk K C f)
    (k : ∀ H1, R H H1 → H1 a = some (.ins C dx fs) → nx σ (upd H1 a (.ins C dx (putF f v fs)))) (hl : fs.length < 1000 := by exact Nat.le_of_ble_eq_true rfl) : sFld K te tb f ⟨nx, rt, bk, ct⟩ σ H :=
  h H (r_refl H) fd _ fun H1 r1 => ha H1 r1 (r_fd r1 fd) _ fun H2 r2 => by
    have ho2 := ROk.ext (ROk.trans r1 r2) _ _ ho (fun ps z => by cases z)
    exact ⟨a, C, dx, fs, rfl, ho2, ok.c, ok.n, hl, k H2 (ROk.trans r1 r2) ho2⟩
/-- l.extend(e) where e gives a list that stands (any way): told by its reading -/
theorem s_ext {i : Nat} {l : Addr} {tx : TE} (hσ : σ[i]? = some (some (.ref l))) (hl : ∃ xs, H l = some (.lst xs)) (k : tx σ H fun v H1 => ∃ b xs zs, v = .ref b ∧ H1 l = some (.lst xs) ∧ H1 b = some (.lst zs) ∧ xs.length + zs.length ≤ sizeLine ∧ nx σ (upd H1 l (.lst (xs ++ zs)))) :
    tDrop (tBM K "list" rExtend (tVar i) (tCons tx tNil)) ⟨nx, rt, bk, ct⟩ σ H := by
  obtain ⟨xs0, hl⟩ := hl
  refine ⟨_, hσ, Or.inl ⟨rfl, _, SqL.of hl⟩, ?_⟩
  have e : (fun v H1 => ∃ b xs zs, v = V.ref b ∧ H1 l = some (.lst xs) ∧ H1 b = some (.lst zs) ∧ xs.length + zs.length ≤ sizeLine ∧ nx σ (upd H1 l (.lst (xs ++ zs)))) = (fun (x : V) (H1 : Hp) => tNil σ H1 fun zs H2 => rExtend (.ref l) (x :: zs) H2 fun _ H3 => nx σ H3) := by
    funext v H1
    apply propext
    constructor
    · rintro ⟨b, xs, zs, rfl, h1, h2, h3, h4⟩
      exact ⟨l, b, xs, zs, rfl, rfl, h1, h2, h3, h4⟩
    · rintro ⟨l', b, xs, zs, e1, e2, h1, h2, h3, h4⟩
      cases e1
      cases e2
      exact ⟨b, xs, zs, rfl, h1, h2, h3, h4⟩
  rw [e] at k
  exact k
/-- while, by a measure -/
theorem s_while {c : TT} {tb : TS} (Pv : Nat → L2.St → Hp → Prop) (m : Nat) (h0 : Pv m σ H)
    (hs : ∀ m σ H, Pv m σ H → ∃ (F : List Addr) (b : Bool), Fd F H ∧ DT R F c σ H b ∧ (b = true → ∀ H1, R H H1 → tb ⟨fun σ' H' => ∃ m', m' < m ∧ Pv m' σ' H', rt, nx, fun σ' H' => ∃ m', m' < m ∧ Pv m' σ' H'⟩ σ H1) ∧ (b = false → ∀ H1, R H H1 → nx σ H1)) : tWhile c tb ⟨nx, rt, bk, ct⟩ σ H :=
  ⟨Pv, ⟨m, h0⟩, fun m σ H h => by
    obtain ⟨F, b, fd, dt, h1, h2⟩ := hs m σ H h
    refine dt H (r_refl H) fd _ fun H1 r1 => ?_
    cases b with
    | true =>
      refine iteT ⟨fun σ' H' => ∃ m', m' < m ∧ Pv m' σ' H', fun σ' H' z => z, h1 rfl H1 r1⟩
    | false => exact iteF (h2 rfl H1 r1)⟩
end
/-! ### methods, makers -/
structure CalM (P : Program) (w : World) (K : PySem.W.Frag) (mg : Str → Option Value) (base : Heap) (CX : CXT) (k : Nat) (C m : Str) (ps : List Str) (sp : Sp) : Prop where
  ex : ∃ fd, Cls K (He.ga K C) ∧ Meth K (He.ga K C) m (He.ma K (He.ga K C) m) ∧ Binds K fd ps [] ∧ FnOk P w K mg base CX k (He.ma K (He.ga K C) m) fd ps sp
structure CalI (P : Program) (w : World) (K : PySem.W.Frag) (mg : Str → Option Value) (base : Heap) (CX : CXT) (k : Nat) (C : Str) (ps : List Str) (sp : Sp) : Prop where
  ex : ∃ fd, Binds K fd ps [] ∧ FnOk P w K mg base CX k (He.ma K (He.ga K C) "__init__") fd ps sp
abbrev FnM (K : PySem.W.Frag) (C m : Str) (q : Str) (st : Stmt) : Prop := ∃ fd, FunD K m q (defArgs st) (defBody st) (defScope st) [] [] (He.fAd K (C, some m)) fd
section
variable {P : Program} {w : World} {K : PySem.W.Frag} {mg : Str → Option Value} {base : Heap}
theorem CalM.of {CX : CXT} {C m q : Str} {st : Stmt} {N ps : List Str} {k : Nat} {sp : Sp} (FD : FnM K C m q st) (c : Cls K (He.ga K C)) (hm : Meth K (He.ga K C) m (He.ma K (He.ga K C) m)) (S : FnScope N ps (defScope st))
    (hb : ∀ (kV doc pm : Value) (an : Option Addr) (cdv ct : Value) (us : List Value), us.length = ps.length → bindArgs (PySem.W.fnOf m q (defArgs st) (defBody st) (defScope st) .none kV doc pm an cdv ct) ⟨us, []⟩ = pure (ps.zip us))
    (len : ∀ vs H Q E, sp vs H Q E → vs.length = ps.length)
    (hbody : ∀ (f : Addr) (cdv : Value) (A' : Around) (outer : List Env) (s : Shared) (H : Hp) (vs : List V) (Q : VK) (E : XK), Room k (A'.deeper (envOfC q (defScope st) s.heap.objs.size f cdv)) → sp vs H Q E →
      ∃ t, PSs (cxOf CX P w K mg base N q (defScope st) f cdv A' outer s H E) (defBody st) t ∧ t { nx := fun _ H' => Q .non H', rt := Q } (start N vs) H) : CalM P w K mg base CX (k + 1) C m ps sp := by
  obtain ⟨fd, FD⟩ := FD
  exact ⟨fd, c, hm, FD.bindsN hb, FD.ok S len fun cdv A' outer s H vs Q E hr h => hbody _ cdv A' outer s H vs Q E hr h⟩
theorem CalI.of {CX : CXT} {C q : Str} {st : Stmt} {N ps : List Str} {k : Nat} {sp : Sp} (FD : FnM K C "__init__" q st) (S : FnScope N ps (defScope st))
    (hb : ∀ (kV doc pm : Value) (an : Option Addr) (cdv ct : Value) (us : List Value), us.length = ps.length → bindArgs (PySem.W.fnOf "__init__" q (defArgs st) (defBody st) (defScope st) .none kV doc pm an cdv ct) ⟨us, []⟩ = pure (ps.zip us))
    (len : ∀ vs H Q E, sp vs H Q E → vs.length = ps.length)
    (hbody : ∀ (f : Addr) (cdv : Value) (A' : Around) (outer : List Env) (s : Shared) (H : Hp) (vs : List V) (Q : VK) (E : XK), Room k (A'.deeper (envOfC q (defScope st) s.heap.objs.size f cdv)) → sp vs H Q E →
      ∃ t, PSs (cxOf CX P w K mg base N q (defScope st) f cdv A' outer s H E) (defBody st) t ∧ t { nx := fun _ H' => Q .non H', rt := Q } (start N vs) H) : CalI P w K mg base CX (k + 1) C ps sp := by
  obtain ⟨fd, FD⟩ := FD
  exact ⟨fd, FD.bindsN hb, FD.ok S len fun cdv A' outer s H vs Q E hr h => hbody _ cdv A' outer s H vs Q E hr h⟩
/-- a plain def, its promise any -/
theorem Cal.of {CX : CXT} {x : Str} {st : Stmt} {N ps : List Str} {k : Nat} {sp : Sp} (FD : FnD K x st) (gx : mg x = some (.ref (He.ga K x))) (S : FnScope N ps (defScope st))
    (hb : ∀ (kV doc pm : Value) (an : Option Addr) (cdv ct : Value) (us : List Value), us.length = ps.length → bindArgs (PySem.W.fnOf x x (defArgs st) (defBody st) (defScope st) .none kV doc pm an cdv ct) ⟨us, []⟩ = pure (ps.zip us))
    (len : ∀ vs H Q E, sp vs H Q E → vs.length = ps.length)
    (hbody : ∀ (f : Addr) (cdv : Value) (A' : Around) (outer : List Env) (s : Shared) (H : Hp) (vs : List V) (Q : VK) (E : XK), Room k (A'.deeper (envOfC x (defScope st) s.heap.objs.size f cdv)) → sp vs H Q E →
      ∃ t, PSs (cxOf CX P w K mg base N x (defScope st) f cdv A' outer s H E) (defBody st) t ∧ t { nx := fun _ H' => Q .non H', rt := Q } (start N vs) H) : Cal P w K mg base CX (k + 1) x ps sp := by
  obtain ⟨fd, FD⟩ := FD
  exact ⟨_, fd, gx, FD.kp, FD.bindsN hb, FD.ok S len fun cdv A' outer s H vs Q E hr h => hbody _ cdv A' outer s H vs Q E hr h⟩
end
theorem CalM.mono {P : Program} {w : World} {K : PySem.W.Frag} {mg : Str → Option Value} {base : Heap} {CX : CXT} {j k : Nat} {C m : Str} {ps : List Str} {sp : Sp} (c : CalM P w K mg base CX j C m ps sp) (h : j ≤ k) : CalM P w K mg base CX k C m ps sp :=
  let ⟨fd, h1, h2, h3, h4⟩ := c.ex
  ⟨fd, h1, h2, h3, h4.mono h⟩
section
variable {X : Cx} {CX : CXT} {k : Nat} {C m x : Str} {ps : List Str} {sp : Sp} {E : XK} {o e : Expr} {es : List Expr} {ta : TE} {t : TA} {p pos apos : Pos}
theorem pe_cmX {pl : Sem Bool} (M : CalM X.prog X.w X.K X.mg X.base CX k C m ps sp) (hr : Room k X.A) (hx : Passes CX X E) (he : PE X o ta) (ha : PA X (e :: es) t) (hst : starEach (e :: es) X.env = (false, eval e X.env) :: starEach es X.env := by rfl) (hpl : (backTo pos (starEach es X.env)).any (·.1) = false := by rfl)
    (ht : eval (.Call (.Attribute o m apos) (e :: es) [] pos) X.env = (do
      let ov ← eval o X.env
      standAt apos.atName
      let (f, first) ← holding [ov] (getMethod ov m pl)
      callWith pos f first (backTo pos (starEach (e :: es) X.env)) (backToKw pos (keywordEach [] X.env))) := by rfl) :
    PE X (.Call (.Attribute o m apos) (e :: es) [] pos) (tMeth (He.ga X.K C) m sp [] E ta t) := by
  obtain ⟨fd, c, hm, b, F⟩ := M.ex
  exact pe_meth (pl := pl) he c hm F hr b .nil hx ha hst hpl ht
theorem pe_cm0X {pl : Sem Bool} (M : CalM X.prog X.w X.K X.mg X.base CX k C m ps sp) (hr : Room k X.A) (hx : Passes CX X E) (he : PE X o ta)
    (ht : eval (.Call (.Attribute o m apos) [] [] pos) X.env = (do
      let ov ← eval o X.env
      standAt apos.atName
      let (f, first) ← holding [ov] (getMethod ov m pl)
      callWith pos f first (backTo pos (starEach [] X.env)) (backToKw pos (keywordEach [] X.env))) := by rfl) :
    PE X (.Call (.Attribute o m apos) [] [] pos) (tMeth (He.ga X.K C) m sp [] E ta tNil) := by
  obtain ⟨fd, c, hm, b, F⟩ := M.ex
  exact pe_meth0 (pl := pl) he c hm F hr b .nil hx ht
/-- C(..), the maker's promise with its self ahead -/
theorem pe_mkX (M : CalI X.prog X.w X.K X.mg X.base CX k C ps sp) (mk : L2.Mk X.K (He.ga X.K C) (He.ma X.K (He.ga X.K C) "__init__")) (hm : X.mg C = some (.ref (He.ga X.K C))) (hr : Room (k + 1) X.A) (hx : Passes CX X E) (ha : PA X (e :: es) t) (hg : Gl X C := by rfl)
    (hdb : (C == ("__debug__" : Str)) = false := by decide) (he : starEach (e :: es) X.env = (false, eval e X.env) :: starEach es X.env := by rfl) (hpl : (backTo pos (starEach es X.env)).any (·.1) = false := by rfl) :
    PE X (.Call (.Name C p) (e :: es) [] pos) (tMake (He.ga X.K C) sp [] E t) := by
  obtain ⟨fd, b, F⟩ := M.ex
  exact pe_make mk F hr hg hm b .nil hx ha hdb he hpl
theorem pe_mk0X (M : CalI X.prog X.w X.K X.mg X.base CX k C ps sp) (mk : L2.Mk X.K (He.ga X.K C) (He.ma X.K (He.ga X.K C) "__init__")) (hm : X.mg C = some (.ref (He.ga X.K C))) (hr : Room (k + 1) X.A) (hx : Passes CX X E) (hg : Gl X C := by rfl)
    (hdb : (C == ("__debug__" : Str)) = false := by decide) : PE X (.Call (.Name C p) [] [] pos) (tMake (He.ga X.K C) sp [] E tNil) := by
  obtain ⟨fd, b, F⟩ := M.ex
  exact pe_make0 mk F hr hg hm b .nil hx hdb
end
section
variable {X : Cx} {CX : CXT} {k : Nat} {C m x : Str} {ps : List Str} {sp : Sp} {E : XK} {o e : Expr} {es : List Expr} {ta : TE} {t : TA} {p pos apos : Pos}
theorem pe_cm (K : PySem.W.Frag) {pl : Sem Bool} (M : CalM X.prog X.w K X.mg X.base CX k C m ps sp) (hr : Room k X.A) (hx : Passes CX X E) (he : PE X o ta) (ha : PA X (e :: es) t) (hK : X.K = K := by rfl) (hst : starEach (e :: es) X.env = (false, eval e X.env) :: starEach es X.env := by rfl) (hpl : (backTo pos (starEach es X.env)).any (·.1) = false := by rfl)
    (ht : eval (.Call (.Attribute o m apos) (e :: es) [] pos) X.env = (do
      let ov ← eval o X.env
      standAt apos.atName
      let (f, first) ← holding [ov] (getMethod ov m pl)
      callWith pos f first (backTo pos (starEach (e :: es) X.env)) (backToKw pos (keywordEach [] X.env))) := by rfl) :
    PE X (.Call (.Attribute o m apos) (e :: es) [] pos) (tMeth (He.ga K C) m sp [] E ta t) := by
  subst hK
  exact pe_cmX (pl := pl) M hr hx he ha hst hpl ht
theorem pe_cm0 (K : PySem.W.Frag) {pl : Sem Bool} (M : CalM X.prog X.w K X.mg X.base CX k C m ps sp) (hr : Room k X.A) (hx : Passes CX X E) (he : PE X o ta) (hK : X.K = K := by rfl)
    (ht : eval (.Call (.Attribute o m apos) [] [] pos) X.env = (do
      let ov ← eval o X.env
      standAt apos.atName
      let (f, first) ← holding [ov] (getMethod ov m pl)
      callWith pos f first (backTo pos (starEach [] X.env)) (backToKw pos (keywordEach [] X.env))) := by rfl) :
    PE X (.Call (.Attribute o m apos) [] [] pos) (tMeth (He.ga K C) m sp [] E ta tNil) := by
  subst hK
  exact pe_cm0X (pl := pl) M hr hx he ht
theorem pe_mk (K : PySem.W.Frag) (M : CalI X.prog X.w K X.mg X.base CX k C ps sp) (mk : L2.Mk K (He.ga K C) (He.ma K (He.ga K C) "__init__")) (hm : X.mg C = some (.ref (He.ga K C))) (hr : Room (k + 1) X.A) (hx : Passes CX X E) (ha : PA X (e :: es) t) (hK : X.K = K := by rfl) (hg : Gl X C := by rfl)
    (hdb : (C == ("__debug__" : Str)) = false := by decide) (he : starEach (e :: es) X.env = (false, eval e X.env) :: starEach es X.env := by rfl) (hpl : (backTo pos (starEach es X.env)).any (·.1) = false := by rfl) :
    PE X (.Call (.Name C p) (e :: es) [] pos) (tMake (He.ga K C) sp [] E t) := by
  subst hK
  exact pe_mkX M mk hm hr hx ha hg hdb he hpl
theorem pe_mk0 (K : PySem.W.Frag) (M : CalI X.prog X.w K X.mg X.base CX k C ps sp) (mk : L2.Mk K (He.ga K C) (He.ma K (He.ga K C) "__init__")) (hm : X.mg C = some (.ref (He.ga K C))) (hr : Room (k + 1) X.A) (hx : Passes CX X E) (hK : X.K = K := by rfl) (hg : Gl X C := by rfl)
    (hdb : (C == ("__debug__" : Str)) = false := by decide) : PE X (.Call (.Name C p) [] [] pos) (tMake (He.ga K C) sp [] E tNil) := by
  subst hK
  exact pe_mk0X M mk hm hr hx hg hdb
end
section
variable {R : Hp → Hp → Prop} [ROk R] {K : PySem.W.Frag} {F : List Addr} {σ : L2.St} {H : Hp} {te : TE} {tr : TA} {ds : List PyData} {d : PyData} {a C dx : Addr} {fs : List (Str × V)} {m : Str} {sp : Sp} {E : XK} {Q : VK}
/-- o.m(..), told of its promise -/
theorem te_meth (ha : VV R F te σ H (.ref a)) (ho : H a = some (.ins C dx fs)) (hm : fs.lookup m = none) (h : DA R K F tr σ H ds) (fd : Fd F H) (k : ∀ us H1, R H H1 → DaL K (hid F H1) ds us → sp (.ref a :: us) H1 Q E) : tMeth C m sp [] E te tr σ H Q :=
  ha H (r_refl H) fd _ fun H1 r1 => ⟨a, dx, fs, rfl, ROk.ext r1 _ _ ho (fun ps z => by cases z), hm, h H1 r1 (r_fd r1 fd) _ fun us H2 r2 l => by
    rw [List.append_nil]
    exact k us H2 (ROk.trans r1 r2) l⟩
theorem te_call (h : DA R K F tr σ H ds) (fd : Fd F H) (k : ∀ us H1, R H H1 → DaL K (hid F H1) ds us → sp us H1 Q E) : tCall sp [] E tr σ H Q :=
  h H (r_refl H) fd _ fun us H2 r2 l => by
    rw [List.append_nil]
    exact k us H2 r2 l
/-- o.m(..), where nothing changes -/
theorem dv_meth (ha : VV R F te σ H (.ref a)) (ho : H a = some (.ins C dx fs)) (hm : fs.lookup m = none) (h : DA R K F tr σ H ds) (k : ∀ us H1 Q, R H H1 → Fd F H1 → DaL K (hid F H1) ds us → (∀ v H', Same H1 H' → Da K (hid F H') d v → Q v H') → sp (.ref a :: us) H1 Q E) : DV R K F (tMeth C m sp [] E te tr) σ H d := fun H1 r1 f1 Q q =>
  te_meth (ha.mono r1) (ROk.ext r1 _ _ ho (fun ps z => by cases z)) hm (h.mono r1) f1 fun us H2 r2 l => k us H2 Q (ROk.trans r1 r2) (r_fd r2 f1) l fun v H3 s3 g => q v H3 (ROk.trans r2 (ROk.same s3)) g
end
end Sc

namespace Sc
open PySem PySem.Spec PyProof.Rows L2
section
variable {R : Hp → Hp → Prop} [ROk R] {K : PySem.W.Frag} {F : List Addr} {σ : L2.St} {H H' : Hp} {ta tb te : TE} {d : PyData} {v : V}
theorem dal_txts : ∀ (ys : List Str), DaL K H (ys.map PyData.str) (ys.map V.str)
  | [] => rfl
  | y :: ys => ⟨_, _, rfl, rfl, dal_txts ys⟩
abbrev rSplit : V → List V → Hp → VK → Prop := fun x xs H Q => ∃ a b, x = .str a ∧ xs = [.str b] ∧ (b.length == 0) = false ∧ a.length + 2 ≤ sizeLine ∧ rNewStrs (Txt.split a b) H Q
theorem dv_split {x s : Str} (h : DV R K F te σ H (.str x)) (hs : DV R K F tb σ H (.str s)) (h0 : (s.length == 0) = false) (hl : x.length + 2 ≤ sizeLine) : DV R K F (tBM K "str" rSplit te (tCons tb tNil)) σ H (.list ((Txt.split x s).map PyData.str)) := fun H1 r1 f1 Q q =>
  h H1 r1 f1 _ fun v H2 r2 g => by
    have g : v = .str x := g
    subst g
    refine ⟨rfl, hs H2 (ROk.trans r1 r2) (r_fd r2 f1) _ fun v H3 r3 g => ?_⟩
    have g : v = .str s := g
    subst g
    exact ⟨x, s, rfl, rfl, h0, hl, fun p hp => q _ _ (ROk.trans r2 (ROk.trans r3 (r_new hp))) (da_new (r_fd r3 (r_fd r2 f1)) hp (dal_txts _))⟩
theorem dv_count {x s : Str} (h : DV R K F te σ H (.str x)) (hs : DV R K F tb σ H (.str s)) : DV R K F (tBM K "str" (fun x xs H Q => ∃ a b, x = .str a ∧ xs = [.str b] ∧ Q (.int (Txt.count a b)) H) te (tCons tb tNil)) σ H (.int (Txt.count x s)) := fun H1 r1 f1 Q q =>
  h H1 r1 f1 _ fun v H2 r2 g => by
    have g : v = .str x := g
    subst g
    refine ⟨rfl, hs H2 (ROk.trans r1 r2) (r_fd r2 f1) _ fun v H3 r3 g => ?_⟩
    have g : v = .str s := g
    subst g
    exact ⟨x, s, rfl, rfl, q _ _ (ROk.trans r2 r3) rfl⟩
theorem dv_find {x s : Str} (h : DV R K F te σ H (.str x)) (hs : DV R K F tb σ H (.str s)) : DV R K F (tBM K "str" (fun x xs H Q => ∃ a b, x = .str a ∧ xs = [.str b] ∧ Q (.int (Txt.find a b)) H) te (tCons tb tNil)) σ H (.int (Txt.find x s)) := fun H1 r1 f1 Q q =>
  h H1 r1 f1 _ fun v H2 r2 g => by
    have g : v = .str x := g
    subst g
    refine ⟨rfl, hs H2 (ROk.trans r1 r2) (r_fd r2 f1) _ fun v H3 r3 g => ?_⟩
    have g : v = .str s := g
    subst g
    exact ⟨x, s, rfl, rfl, q _ _ (ROk.trans r2 r3) rfl⟩
theorem dv_rstrip {x s : Str} (h : DV R K F te σ H (.str x)) (hs : DV R K F tb σ H (.str s)) (hl : x.length ≤ sizeLine) : DV R K F (tBM K "str" (fun x xs H Q => ∃ a b, x = .str a ∧ xs = [.str b] ∧ a.length ≤ sizeLine ∧ Q (.str (Txt.rstripChars a b)) H) te (tCons tb tNil)) σ H (.str (Txt.rstripChars x s)) := fun H1 r1 f1 Q q =>
  h H1 r1 f1 _ fun v H2 r2 g => by
    have g : v = .str x := g
    subst g
    refine ⟨rfl, hs H2 (ROk.trans r1 r2) (r_fd r2 f1) _ fun v H3 r3 g => ?_⟩
    have g : v = .str s := g
    subst g
    exact ⟨x, s, rfl, rfl, hl, q _ _ (ROk.trans r2 r3) rfl⟩
abbrev rJoin (K : PySem.W.Frag) : V → List V → Hp → VK → Prop := fun x xs H Q => ∃ a p, ∃ ys : List Str, x = .str a ∧ xs = [.ref p] ∧ (SqL K H p (ys.map V.str) ∨ SqT K H p (ys.map V.str)) ∧ (ys.map (·.length)).sum + ys.length * a.length ≤ 16777216 ∧ Q (.str (Txt.join a ys)) H
theorem dv_join {s : Str} {ys : List Str} (h : DV R K F te σ H (.str s)) (hs : DV R K F tb σ H (.list (ys.map PyData.str))) (hl : (ys.map (·.length)).sum + ys.length * s.length ≤ 16777216) : DV R K F (tBM K "str" (rJoin K) te (tCons tb tNil)) σ H (.str (Txt.join s ys)) := fun H1 r1 f1 Q q =>
  h H1 r1 f1 _ fun v H2 r2 g => by
    have g : v = .str s := g
    subst g
    refine ⟨rfl, hs H2 (ROk.trans r1 r2) (r_fd r2 f1) _ fun v H3 r3 g => ?_⟩
    obtain ⟨p, xs, rfl, g1, g2⟩ := g
    have e := dal_strs g2
    subst e
    exact ⟨s, p, ys, rfl, rfl, .inl (SqL.of (hid_le g1).1), hl, q _ _ (ROk.trans r2 r3) rfl⟩
theorem dv_intS {x : Str} {n : Int} (h : DV R K F te σ H (.str x)) (hn : PySem.intText? x = some n) (hl : x.length ≤ 640) : DV R K F (tCB (fun xs H Q => ∃ a n, xs = [V.str a] ∧ PySem.intText? a = some n ∧ a.length ≤ 640 ∧ Q (V.int n) H) (tCons te tNil)) σ H (.int n) :=
  dv_cb (da_cons h da_nil) fun vs H1 Q _ f hv q => by
    obtain ⟨v, rfl, e⟩ := dal1 hv
    have e : v = .str x := e
    subst e
    exact ⟨x, n, rfl, hn, hl, q _ H1 (r_refl H1) rfl⟩
abbrev rInt1 : List V → Hp → VK → Prop := fun xs H Q => (∃ i, xs = [V.int i] ∧ Q (V.int i) H) ∨ ∃ k, xs = [V.bl k] ∧ Q (V.int (if k then 1 else 0)) H
theorem dv_intB {b : Bool} (h : DV R K F te σ H (.bool b)) : DV R K F (tCB rInt1 (tCons te tNil)) σ H (.int (b2i b)) :=
  dv_cb (da_cons h da_nil) fun vs H1 Q _ f hv q => by
    obtain ⟨v, rfl, e⟩ := dal1 hv
    have e : v = .bl b := e
    subst e
    exact .inr ⟨b, rfl, q _ H1 (r_refl H1) rfl⟩
theorem dv_strI {i : Int} (h : DV R K F te σ H (.int i)) (hl : i.natAbs.log2 < 1920) : DV R K F (tCB (fun xs H Q => ∃ i, xs = [V.int i] ∧ i.natAbs.log2 < 1920 ∧ Q (V.str (toString i)) H) (tCons te tNil)) σ H (.str (toString i)) :=
  dv_cb (da_cons h da_nil) fun vs H1 Q _ f hv q => by
    obtain ⟨v, rfl, e⟩ := dal1 hv
    have e : v = .int i := e
    subst e
    exact ⟨i, rfl, hl, q _ H1 (r_refl H1) rfl⟩
theorem dv_tupOf {ds : List PyData} (h : DV R K F te σ H (.list ds)) : DV R K F (tCB (rTupOf K) (tCons te tNil)) σ H (.tuple ds) :=
  dv_cb (da_cons h da_nil) fun vs H1 Q _ f hv q => by
    obtain ⟨v, rfl, p, xs, rfl, g1, g2⟩ := dal1 hv
    exact ⟨p, xs, rfl, .inl ⟨SqL.of (hid_le g1).1, fun l hl => q _ _ (r_new hl) (da_newT f hl g2)⟩⟩
theorem dv_lstOf {ds : List PyData} (h : DV R K F te σ H (.list ds)) : DV R K F (tCB (rListOf K) (tCons te tNil)) σ H (.list ds) :=
  dv_cb (da_cons h da_nil) fun vs H1 Q _ f hv q => by
    obtain ⟨v, rfl, p, xs, rfl, g1, g2⟩ := dal1 hv
    exact ⟨p, xs, rfl, .inl (SqL.of (hid_le g1).1), fun l hl => q _ _ (r_new hl) (da_new f hl g2)⟩
theorem dv_lstOfT {ds : List PyData} (h : DV R K F te σ H (.tuple ds)) : DV R K F (tCB (rListOf K) (tCons te tNil)) σ H (.list ds) :=
  dv_cb (da_cons h da_nil) fun vs H1 Q _ f hv q => by
    obtain ⟨v, rfl, p, xs, rfl, g1, g2⟩ := dal1 hv
    exact ⟨p, xs, rfl, .inr (xt_sqT xt_hid g1), fun l hl => q _ _ (r_new hl) (da_new f hl g2)⟩
theorem dv_replC {x y z : Str} (h : DV R K F te σ H (.str x)) (hl : x.length + (x.length + 1) * z.length ≤ 16777216) : DV R K F (CwR.tReplC te y z) σ H (.str (Txt.replace x y z)) := fun H1 r1 f1 Q q =>
  h H1 r1 f1 _ fun v H2 r2 g => by
    have g : v = .str x := g
    subst g
    exact ⟨x, rfl, hl, q _ H2 r2 rfl⟩
theorem kjoin {X : Cx} (K : PySem.W.Frag) (hK : X.K = K := by rfl) : MtR X "str.join" (rJoin K) := by subst hK; exact mt_join
/-- [e for x in text] -/
theorem dv_lcS {i : Nat} {z : Str} {gs : List PyData} (h : DV R K F ta σ H (.str z)) (hn : gs.length = z.cps.toList.length) (hl : z.cps.toList.length ≤ sizeLine) (hi : ∀ v : V, wipe ((wipe σ [i]).set i (some v)) [i] = wipe σ [i])
    (hb : ∀ (F' : List Addr) (H1 : Hp) (j c : Nat) (e : PyData), Wi R F H F' H1 → z.cps.toList[j]? = some c → gs[j]? = some e → DV R K F' te ((wipe σ [i]).set i (some (.str ⟨#[c]⟩))) H1 e) :
    DV R K F (tLc (iStr ta) (gName i) tYes te [i]) σ H (.list gs) := fun H1 a f Q q =>
  h H1 a f _ fun v H2 r2 hv => by
    have hv : v = .str z := hv
    subst hv
    refine ⟨z, rfl, fun D hD => ?_⟩
    have f2 := r_fd r2 f
    refine lc_gen (R := R) (K := K) (F := F) (gs := gs) (walk_str (z := z)) f2 hD (by rw [hn, Array.length_toList]) (by rw [hn]; exact hl) (fun H3 r3 => True.intro) ?_ fun H3 r3 hd => q _ H3 (ROk.trans r2 r3) hd
    rintro j x H3 H3' e he w3 ⟨rfl, c, hc, rfl⟩ Q' q'
    refine ⟨hi _, ?_⟩
    have w0 : Wi R F H (D :: F) H3' := ⟨ROk.trans (ROk.trans a r2) w3.r, fun b o e nt => w3.x b o (hid_xt (ROk.ext (ROk.trans a r2)) b o e nt) nt, w3.f⟩
    refine hb (D :: F) H3' j c e w0 (by rw [Array.getElem?_toList]; exact hc) he H3' (r_refl H3') w3.f Q' fun y H4 r4 hy => ?_
    exact q' y H4 ⟨ROk.trans w3.r r4, fun b o e nt => hid_xt (ROk.ext r4) b o (w3.x b o e nt) nt, r_fd r4 w3.f⟩ (fun acc hacc => ROk.ext r4 _ _ hacc fun ps z => by cases z) (hid_xt (ROk.ext r4)) hy
/-- for x in text -/
theorem s_forS {i : Nat} {z : Str} {tb : TS} {nx bk ct : L2.St → Hp → Prop} {rt : VK} (h : DV R K F ta σ H (.str z)) (f : Fd F H)
    (k : ∀ H1, R H H1 → Fd F H1 → ∃ Pv : Nat → L2.St → Hp → Prop, Pv 0 σ H1 ∧ (∀ j σ' H' c, z.cps.toList[j]? = some c → Pv j σ' H' → tb ⟨Pv (j + 1), rt, nx, Pv (j + 1)⟩ (σ'.set i (some (.str ⟨#[c]⟩))) H') ∧ (∀ σ' H', Pv z.cps.toList.length σ' H' → nx σ' H')) :
    tFor (iStr ta) (gName i) tb ⟨nx, rt, bk, ct⟩ σ H := h H (r_refl H) f _ fun v H1 r1 hv => by
  have hv : v = .str z := hv
  subst hv
  obtain ⟨Pv, p0, ps, pd⟩ := k H1 r1 (r_fd r1 f)
  refine ⟨z, rfl, for_it (walk_str (z := z)) (D := ⟨nx, rt, bk, ct⟩) Pv p0 (fun _ _ _ _ _ => True.intro) (fun j x σ' H' H'' _ p y => ?_) (fun σ' H' p => pd σ' H' (by rw [Array.length_toList]; exact p))⟩
  obtain ⟨rfl, c, hc, rfl⟩ := y
  exact ps j σ' H'' c (by rw [Array.getElem?_toList]; exact hc) p
end
/-! ### promises that may raise, of what stands -/
def okIf (b : Bool) (c : Str) : Except Str PyData := if b = true then .ok .none else .error c
theorem okIf_ok {b : Bool} {c : Str} {d : PyData} (h : okIf b c = .ok d) : b = true ∧ d = .none := by
  cases b with
  | true => exact ⟨rfl, by cases h; rfl⟩
  | false => cases h
theorem okIf_err {b : Bool} {c c' : Str} (h : okIf b c = .error c') : b = false ∧ c' = c := by
  cases b with
  | true => cases h
  | false => exact ⟨rfl, by cases h; rfl⟩
theorem all_map {α : Type} (f : α → Bool) (l : List α) : (l.map f).all id = l.all f := by
  induction l with
  | nil => rfl
  | cons a l ih => simp
theorem get_map {α β : Type} {f : α → β} {l : List α} {j : Nat} {a : α} {b : β} (h1 : l[j]? = some a) (h2 : (l.map f)[j]? = some b) : b = f a := by
  rw [List.getElem?_map, h1] at h2
  exact (Option.some.inj h2).symm
end Sc

namespace Sc
open PySem PySem.Spec PyProof.Rows L2
theorem passN0 {X : Cx} : Passes (L2N.CX X.prog X.w) X E0 := fun _ _ _ _ _ _ _ ⟨_, _, _, _, _, _, _, _, _, _, _, _, z⟩ => z.elim
theorem u1 {k : Nat} {A : Around} (r : Room k A) : A.units + 1 < cLine := by have := r.units; omega
section
variable {R : Hp → Hp → Prop} [ROk R] {K : PySem.W.Frag} {F : List Addr} {σ : L2.St} {H H' : Hp} {ta tb te : TE} {d : PyData} {v : V} {nx bk ct : L2.St → Hp → Prop} {rt : VK}
theorem Own.keep {H0 : Hp} {l : Addr} {ds : List PyData} (o : Own R K F H0 H l ds) : ∃ xs, H l = some (.lst xs) ∧ DaL K (hid (l :: F) H) ds xs := o.at_
/-- x = x + e, x the owner's: a new list -/
theorem s_ownAdd {i j : Nat} {l : Addr} {H0 : Hp} {ds es : List PyData} (o : Own R K F H0 H l ds) (hσ : σ[i]? = some (some (.ref l))) (h : DV R K (l :: F) te σ H (.list es)) (hz : ds.length + es.length ≤ sizeLine)
    (k : ∀ l' H1 H', R H H1 → Own R K F H1 H' l' (ds ++ es) → Xt (hid (l :: F) H1) (hid (l' :: F) H') → nx (σ.set j (some (.ref l'))) H') : tAsg (tOp (rPlus K) (tVar i) te) (gName j) ⟨nx, rt, bk, ct⟩ σ H := by
  refine ⟨_, hσ, h H (r_refl H) o.fd2 _ fun v H1 r1 g => ?_⟩
  obtain ⟨b, ys, rfl, gb, ly⟩ := g
  have o1 := o.mono r1
  obtain ⟨xs, hx, lx⟩ := o1.at_
  refine .inr (.inr (.inl ⟨l, b, xs, ys, rfl, rfl, hx, (hid_le gb).1, by rw [lx.length, ly.length]; exact hz, fun p hp => ?_⟩))
  have x1 : Xt (hid (l :: F) H1) (hid (p :: F) (upd H1 p (.lst (xs ++ ys)))) := (hid_new (F := l :: F) hp).trans (hid_sub fun b hb => by
    rcases List.mem_cons.mp hb with z | z
    · rw [z]; exact List.mem_cons_self
    · exact List.mem_cons_of_mem _ (List.mem_cons_of_mem _ z))
  exact k p H1 _ r1 ⟨hp, o1.fd1, r_new hp, xs ++ ys, upd_same, (lx.append ly).mono x1⟩ x1
/-- a, b = e: a tuple's items -/
theorem s_unT {n : Nat} {g : TGs} {ds : List PyData} (h : DV R K F te σ H (.tuple ds)) (f : Fd F H) (hn : ds.length = n) (k : ∀ vs H1, R H H1 → DaL K (hid F H1) ds vs → g vs σ H1 nx) : tAsg te (gTup K n g) ⟨nx, rt, bk, ct⟩ σ H := h H (r_refl H) f _ fun v H1 r1 gv => by
  obtain ⟨a, xs, rfl, hs, l⟩ := gv
  exact ⟨a, xs, rfl, xt_sqT xt_hid hs, by rw [l.length, hn], k xs H1 r1 l⟩
/-- a def that may raise, and doesn't -/
theorem dv_callG {n : Nat} {A : List PyData → Except Str PyData → Prop} {E : XK} {tr : TA} {ds : List PyData} (h : DA R K F tr σ H ds) (ha : A ds (.ok d)) (hn : ds.length = n) : DV R K F (tCall (spG K n A) [] E tr) σ H d := fun H1 r1 f1 Q q =>
  h H1 r1 f1 _ fun vs H2 r2 l => by
    rw [List.append_nil]
    exact ⟨F, ds, .ok d, r_fd r2 f1, l, hn, ha, fun d' e v H3 s3 g => by cases e; exact q v H3 (ROk.trans r2 (ROk.same s3)) g, fun c e => nomatch e⟩
theorem hid_fresh {a : Addr} (s : Same H H') (h : H a = none) : Xt (hid F H) (hid (a :: F) H') := fun b o e _ => by
  obtain ⟨e1, e2⟩ := hid_le e
  rw [hid_out fun z => (List.mem_cons.mp z).elim (fun z => by rw [z, h] at e1; cases e1) e2]
  exact s b o e1
/-- {..}.get(x, n): a dict that is written out, texts to ints -/
theorem dv_getD {kvs : List (Str × Int)} {x : Str} {n : Int} {trs : List (TE × TE)} (ht : ∀ (H : Hp) (Q : List (V × V) → Hp → Prop), Q (kvs.map fun p => (V.str p.1, V.int p.2)) H → tPairs trs σ H Q) (hl : kvs.length ≤ 15) (h : DV R K F te σ H (.str x)) {m : Int}
    (hm : (valV (mergeK [] (kvs.map fun p => ((Sum.inr p.1 : Key), V.int p.2))) (Sum.inr x : Key)).getD (.int n) = .int m) : DV R K F (tDGet2 (tDisp trs) te (tC (V.int n))) σ H (.int m) := fun H1 r1 f1 Q q => fun p hp => by
  refine ht _ _ ⟨upd_same, kvs.map fun p => ((Sum.inr p.1 : Key), V.int p.2), by rw [List.map_map]; rfl, by rw [List.length_map]; exact hl, ?_⟩
  have s1 : Same H1 (upd (upd H1 p (.dK [])) p (.dK (mergeK [] (kvs.map fun p => ((Sum.inr p.1 : Key), V.int p.2))))) := fun b o e => by
    rw [upd_ne (ne_of_none e hp), upd_ne (ne_of_none e hp)]
    exact e
  refine ⟨p, rfl, .inl ⟨_, .inl upd_same⟩, h _ (ROk.trans r1 (ROk.same s1)) (r_fd (ROk.same (R := R) s1) f1) _ fun v H3 r3 g => ?_⟩
  have g : v = .str x := g
  subst g
  refine ⟨_, DGet.k (k := Sum.inr x) (ROk.ext r3 _ _ upd_same fun ps z => by cases z), ?_⟩
  rw [hm]
  exact q _ H3 (ROk.trans (ROk.same s1) r3) rfl
end
/-! ### where a token is out -/
section
variable {X : Cx}
/-- if e == "..": behind the test a token is out -/
theorem ps_ifK {e : Expr} {te : TE} {z : Str} {j : Nat} {p pos' pos : Pos} {a b : List Stmt} {r : R2} {t u : TS} (ho : OpR X (compareOp .Eq) r) (he : PE X e te) (ha : PSsT X a t) (hb : PSsT X b u) : PS X (.If (.Compare e [.Eq] [.Constant (.str z) j p] pos') a b pos) (tIfS (tTest (tOp r te (tC (.str z)))) t u) := by
  constructor
  intro pins s σ H D I h
  refine wpAny_If (wpAny_isTrue_Compare1 (thn (he.run pins s σ H _ I h) ?_) (nomark _))
  rintro v s1 ⟨x, H1, I1, r1, q1⟩
  refine Calls.Constant_str (wpAny_mono (PySem.wpAny_toks (ho pins { s1 with toks := s1.toks + 1 } σ H1 x (.str z) v (.str z s1.toks) _ (I1.tok _) r1 ⟨_, rfl⟩ q1)) ?_ fun _ _ w => w.2)
  rintro c s3 ⟨hk, z3, H3, I3, r3, k, rfl, q3⟩
  cases r3
  have hk : 1 ≤ s3.toks := Nat.le_trans (Nat.le_add_left 1 s1.toks) hk
  refine wpAny_truthy_bool ?_
  cases k with
  | true => exact ha pins s3 σ H3 D hk I3 q3
  | false => exact hb pins s3 σ H3 D hk I3 q3
theorem pst_appK {o e : Expr} {to te : TE} {apos cpos pos : Pos} (ho : PE X o to) (he : PET X e te) (hb : attributeBase o "append" X.env (eval o X.env) = eval o X.env := by rfl)
    (hfew : ((backTo cpos (starEach [e] X.env)).all (fun x => !x.1) && (backToKw cpos (keywordEach [] X.env)).all (fun x => x.1.isSome) && decide (([e] : List Expr).length + ([] : List Keyword).length + (if ([] : List Keyword).isEmpty then 0 else 1) < 30)) = true := by rfl)
    (hline : (apos.endLine == cpos.line) = true := by rfl) (hs : starEach [e] X.env = (false, eval e X.env) :: starEach [] X.env := by rfl) (hsw : swapsWith (.Call (.Attribute o "append" apos) [e] [] cpos) none pos.line X.env = pure false := by rfl) :
    PST X (.Expr (.Call (.Attribute o "append" apos) [e] [] cpos) pos) (tDrop (tBM X.K "list" rAppend to (tCons te tNil))) := by
  intro pins s σ H D h0 I h
  refine wpAny_Expr_any (thn (wpAny_Call_method_late hb hfew hline rfl (Q := EP X pins σ fun _ H' => D.nx σ H') (wpAny_mono (PySem.wpAny_toks (ho.run pins s σ H _ I h)) ?_ fun _ _ w => w.2)) ?_) I.quiet hsw
  · rintro v s1 ⟨hk, x, H1, I1, r1, ty, q1⟩
    obtain ⟨h1, h2⟩ := tyV_is I1 r1 ty
    refine ⟨"list", _, PySem.F.plainAttrs_list, PySem.F.slot_list_append, PySem.F.type_list_append, h1, h2, ?_⟩
    have hA := (pat_cons he pat_nil hs) cpos pins s1 σ H1 _ (Nat.le_trans h0 hk) I1 q1
    rw [hs] at hA ⊢
    exact Calls.callWith_builtin rfl (Calls.evalArgs_plain (thn hA fun us s2 ⟨vs, H2, I2, r2, q2⟩ => mt_append pins s2 σ H2 x vs v us _ I2 r1 r2 q2))
  · rintro v s1 ⟨x, H1, I1, r1, q1⟩
    exact ⟨σ, H1, I1, q1⟩
end
end Sc

namespace Sc
open PySem PySem.Spec PyProof.Rows L2
/-! ### a plain machine: data, objects that change by their number -/
inductive D where
  | none | bool (b : Bool) | int (i : Int) | str (x : Str) | list (ds : List D) | tuple (ds : List D) | ref (n : Nat) | scr (ns : List Int)
inductive MO where
  | ins (c : Str) (fs : List (Str × D))
  | lst (ds : List D)
  | dk (kvs : List (Key × D))
  | dt (kvs : List (List Key × D))
  | gone
abbrev MH := List MO
/-- X: lists that are being made; as: where the objects stand -/
structure Ws where
  X : List Addr
  as : List Addr
  h : MH
  H : Hp
def Ws.fz (s : Ws) (a : Addr) : Prop := a ∉ s.X ∧ ∀ n : Nat, s.as[n]? = some a → s.h[n]? = some MO.gone
mutual
def Dr (K : PySem.W.Frag) (s : Ws) : D → V → Prop
  | .none, v => v = .non
  | .bool b, v => v = .bl b
  | .int i, v => v = .int i
  | .str x, v => v = .str x
  | .list ds, v => ∃ a xs, v = .ref a ∧ s.H a = some (.lst xs) ∧ s.fz a ∧ DrL K s ds xs
  | .tuple ds, v => ∃ a xs, v = .ref a ∧ SqT K s.H a xs ∧ DrL K s ds xs
  | .ref n, v => ∃ a, v = .ref a ∧ s.as[n]? = some a
  | .scr ns, v => ∃ a, v = .ref a ∧ ((Rd s.H a (.lst (ns.map V.int)) ∧ s.fz a) ∨ ∀ H, SqL K H a (ns.map V.int))
def DrL (K : PySem.W.Frag) (s : Ws) : List D → List V → Prop
  | [], vs => vs = []
  | d :: ds, vs => ∃ w r, vs = w :: r ∧ Dr K s d w ∧ DrL K s ds r
end
def FsR (K : PySem.W.Frag) (s : Ws) {κ : Type} : List (κ × D) → List (κ × V) → Prop
  | [], vs => vs = []
  | p :: ps, vs => ∃ v r, vs = (p.1, v) :: r ∧ Dr K s p.2 v ∧ FsR K s ps r
def OV (K : PySem.W.Frag) (s : Ws) : MO → HO → Prop
  | .ins c fs, u => ∃ dx vs, u = .ins (He.ga K c) dx vs ∧ FsR K s fs vs
  | .lst ds, u => ∃ xs, u = .lst xs ∧ DrL K s ds xs
  | .dk kvs, u => ∃ vs, u = .dK vs ∧ FsR K s kvs vs
  | .dt kvs, u => ∃ vs, u = .dT vs ∧ FsR K s kvs vs
  | .gone, u => ∃ xs, u = .lst xs
def nt (o : HO) : Prop := ∀ ps, o ≠ .tbl ps
theorem OV.mut {K : PySem.W.Frag} {s : Ws} {o : MO} {u : HO} (h : OV K s o u) : isMut u := by
  cases o with
  | ins c fs => obtain ⟨_, _, rfl, _⟩ := h; trivial
  | lst ds => obtain ⟨_, rfl, _⟩ := h; trivial
  | dk ds => obtain ⟨_, rfl, _⟩ := h; trivial
  | dt ds => obtain ⟨_, rfl, _⟩ := h; trivial
  | gone => obtain ⟨_, rfl⟩ := h; trivial
structure Rl (K : PySem.W.Frag) (T : List (Addr × Str)) (s : Ws) : Prop where
  len : s.as.length = s.h.length
  inj : ∀ (n m : Nat) (a : Addr), s.as[n]? = some a → s.as[m]? = some a → n = m
  xs : ∀ a ∈ s.X, (∀ n : Nat, s.as[n]? ≠ some a) ∧ ∃ u, s.H a = some u ∧ isMut u
  ob : ∀ (n : Nat) (o : MO) (a : Addr), s.h[n]? = some o → s.as[n]? = some a → ∃ u, s.H a = some u ∧ OV K s o u
  tb : LamX.Tabs T s.H
structure Lt (s t : Ws) : Prop where
  as : ∃ l, t.as = s.as ++ l
  fz : ∀ a o, s.H a = some o → nt o → s.fz a → t.fz a ∧ t.H a = some o
structure Ev (s t : Ws) : Prop extends Lt s t where
  x : t.X = s.X
  kx : ∀ a ∈ s.X, t.H a = s.H a
theorem Lt.refl (s : Ws) : Lt s s := ⟨⟨[], by simp⟩, fun a o h _ f => ⟨f, h⟩⟩
theorem Lt.trans {s t u : Ws} (a : Lt s t) (b : Lt t u) : Lt s u := by
  obtain ⟨l, h1⟩ := a.as
  obtain ⟨m, h2⟩ := b.as
  exact ⟨⟨l ++ m, by rw [h2, h1, List.append_assoc]⟩, fun c o h n f => let ⟨f1, e1⟩ := a.fz c o h n f; b.fz c o e1 n f1⟩
theorem Ev.refl (s : Ws) : Ev s s := ⟨.refl s, rfl, fun _ _ => rfl⟩
theorem Ev.trans {s t u : Ws} (a : Ev s t) (b : Ev t u) : Ev s u :=
  ⟨a.toLt.trans b.toLt, b.x.trans a.x, fun c hc => (b.kx c (by rw [a.x]; exact hc)).trans (a.kx c hc)⟩
section
variable {K : PySem.W.Frag} {T : List (Addr × Str)} {s t : Ws}
theorem Rl.lt (rl : Rl K T s) {n : Nat} {a : Addr} (h : s.as[n]? = some a) : ∃ o, s.h[n]? = some o := by
  have : n < s.as.length := (List.getElem?_eq_some_iff.mp h).1
  rw [rl.len] at this
  exact ⟨s.h[n], by simp [this]⟩
theorem Rl.lt' (rl : Rl K T s) {n : Nat} {o : MO} (h : s.h[n]? = some o) : ∃ a, s.as[n]? = some a := by
  have : n < s.h.length := (List.getElem?_eq_some_iff.mp h).1
  rw [← rl.len] at this
  exact ⟨s.as[n], by simp [this]⟩
theorem Rl.mem (rl : Rl K T s) {n : Nat} {a : Addr} (h : s.as[n]? = some a) : ∃ u, s.H a = some u ∧ isMut u := by
  obtain ⟨o, ho⟩ := rl.lt h
  obtain ⟨u, h1, h2⟩ := rl.ob n o a ho h
  exact ⟨u, h1, h2.mut⟩
theorem Rl.imm (rl : Rl K T s) {a : Addr} {o : HO} (h : s.H a = some o) (hm : ¬ isMut o) : s.fz a := by
  refine ⟨fun z => ?_, fun n hn => ?_⟩
  · obtain ⟨_, xs, e, em⟩ := rl.xs a z
    rw [h] at e
    cases e
    exact hm em
  · obtain ⟨u, e, m⟩ := rl.mem hn
    rw [h] at e
    cases e
    exact absurd m hm
theorem Rl.fresh (rl : Rl K T s) {p : Addr} (hp : s.H p = Option.none) : p ∉ s.X ∧ ∀ n : Nat, s.as[n]? ≠ some p := by
  refine ⟨fun z => ?_, fun n hn => ?_⟩
  · obtain ⟨_, xs, e, em⟩ := rl.xs p z
    rw [hp] at e
    cases e
  · obtain ⟨u, e, m⟩ := rl.mem hn
    rw [hp] at e
    cases e
theorem Lt.sqT (rl : Rl K T s) (l : Lt s t) {a : Addr} {xs : List V} (h : SqT K s.H a xs) : SqT K t.H a xs := by
  rcases h with (h | ⟨o, h⟩) | h
  · exact .inl (.inl (l.fz a _ h (fun ps z => by cases z) (rl.imm h fun z => z)).2)
  · exact .inl (.inr ⟨o, (l.fz a _ h (fun ps z => by cases z) (rl.imm h fun z => z)).2⟩)
  · exact .inr h
theorem Lt.get (l : Lt s t) {n : Nat} {a : Addr} (h : s.as[n]? = some a) : t.as[n]? = some a := by
  obtain ⟨m, e⟩ := l.as
  rw [e, List.getElem?_append_left (List.getElem?_eq_some_iff.mp h).1]
  exact h
mutual
theorem Dr.mono (rl : Rl K T s) (l : Lt s t) : ∀ {d : D} {v : V}, Dr K s d v → Dr K t d v
  | .none, _, h => h
  | .bool _, _, h => h
  | .int _, _, h => h
  | .str _, _, h => h
  | .list ds, _, h => by
    obtain ⟨a, xs, h1, h2, h3, h4⟩ := h
    obtain ⟨f, e⟩ := l.fz a _ h2 (fun ps z => by cases z) h3
    exact ⟨a, xs, h1, e, f, DrL.mono rl l h4⟩
  | .tuple ds, _, h => by
    obtain ⟨a, xs, h1, h2, h3⟩ := h
    exact ⟨a, xs, h1, l.sqT rl h2, DrL.mono rl l h3⟩
  | .ref n, _, h => by
    obtain ⟨a, h1, h2⟩ := h
    exact ⟨a, h1, l.get h2⟩
  | .scr ns, _, h => by
    obtain ⟨a, h1, h2⟩ := h
    rcases h2 with ⟨h | ⟨o, h⟩, h3⟩ | h
    · obtain ⟨f, e⟩ := l.fz a _ h (fun ps z => by cases z) h3
      exact ⟨a, h1, .inl ⟨.inl e, f⟩⟩
    · obtain ⟨f, e⟩ := l.fz a _ h (fun ps z => by cases z) h3
      exact ⟨a, h1, .inl ⟨.inr ⟨o, e⟩, f⟩⟩
    · exact ⟨a, h1, .inr h⟩
theorem DrL.mono (rl : Rl K T s) (l : Lt s t) : ∀ {ds : List D} {vs : List V}, DrL K s ds vs → DrL K t ds vs
  | [], _, h => h
  | d :: ds, _, h => by
    obtain ⟨w, r, h1, h2, h3⟩ := h
    exact ⟨w, r, h1, Dr.mono rl l h2, DrL.mono rl l h3⟩
end
end
end Sc

namespace Sc
open PySem PySem.Spec PyProof.Rows L2
section
variable {K : PySem.W.Frag} {T : List (Addr × Str)} {s t : Ws}
theorem FsR.mono {κ : Type} (rl : Rl K T s) (l : Lt s t) : ∀ {ps : List (κ × D)} {vs : List (κ × V)}, FsR K s ps vs → FsR K t ps vs
  | [], _, h => h
  | p :: ps, _, h => by
    obtain ⟨v, r, h1, h2, h3⟩ := h
    exact ⟨v, r, h1, h2.mono rl l, FsR.mono rl l h3⟩
theorem OV.mono (rl : Rl K T s) (l : Lt s t) {o : MO} {u : HO} (h : OV K s o u) : OV K t o u := by
  cases o with
  | ins c fs => obtain ⟨dx, vs, h1, h2⟩ := h; exact ⟨dx, vs, h1, h2.mono rl l⟩
  | lst ds => obtain ⟨xs, h1, h2⟩ := h; exact ⟨xs, h1, h2.mono rl l⟩
  | dk ds => obtain ⟨xs, h1, h2⟩ := h; exact ⟨xs, h1, h2.mono rl l⟩
  | dt ds => obtain ⟨xs, h1, h2⟩ := h; exact ⟨xs, h1, h2.mono rl l⟩
  | gone => exact h
theorem DrL.length : ∀ {ds : List D} {vs : List V}, DrL K s ds vs → vs.length = ds.length
  | [], _, h => by cases h; rfl
  | d :: ds, _, h => by
    obtain ⟨w, r, h1, _, h3⟩ := h
    cases h1
    exact congrArg Nat.succ (DrL.length h3)
theorem DrL.get : ∀ {ds : List D} {vs : List V} {i : Nat} {d : D}, DrL K s ds vs → ds[i]? = some d → ∃ v, vs[i]? = some v ∧ Dr K s d v
  | [], _, _, _, _, e => by simp at e
  | d :: ds, _, 0, _, h, e => by
    obtain ⟨w, r, h1, h2, h3⟩ := h
    cases h1
    have e' : d = _ := Option.some.inj e
    subst e'
    exact ⟨w, rfl, h2⟩
  | d :: ds, _, i + 1, _, h, e => by
    obtain ⟨w, r, h1, h2, h3⟩ := h
    cases h1
    exact DrL.get (i := i) h3 e
theorem DrL.append : ∀ {ds es : List D} {vs us : List V}, DrL K s ds vs → DrL K s es us → DrL K s (ds ++ es) (vs ++ us)
  | [], _, _, _, h, g => by cases h; exact g
  | d :: ds, _, _, _, h, g => by
    obtain ⟨w, r, h1, h2, h3⟩ := h
    cases h1
    exact ⟨w, _, rfl, h2, DrL.append h3 g⟩
theorem DrL.snoc {ds : List D} {d : D} {vs : List V} {v : V} (h : DrL K s ds vs) (g : Dr K s d v) : DrL K s (ds ++ [d]) (vs ++ [v]) := h.append ⟨v, [], rfl, g, rfl⟩
theorem DrL.take : ∀ (n : Nat) {ds : List D} {vs : List V}, DrL K s ds vs → DrL K s (ds.take n) (vs.take n)
  | 0, _, _, _ => rfl
  | n + 1, [], _, h => by cases h; rfl
  | n + 1, d :: ds, _, h => by
    obtain ⟨w, r, h1, h2, h3⟩ := h
    cases h1
    exact ⟨w, _, rfl, h2, DrL.take n h3⟩
theorem DrL.drop : ∀ (n : Nat) {ds : List D} {vs : List V}, DrL K s ds vs → DrL K s (ds.drop n) (vs.drop n)
  | 0, _, _, h => h
  | n + 1, [], _, h => by cases h; rfl
  | n + 1, d :: ds, _, h => by
    obtain ⟨w, r, h1, h2, h3⟩ := h
    cases h1
    exact DrL.drop n h3
theorem DrL.set {d : D} {v : V} (g : Dr K s d v) : ∀ (n : Nat) {ds : List D} {vs : List V}, DrL K s ds vs → DrL K s (ds.set n d) (vs.set n v)
  | _, [], _, h => by cases h; rfl
  | 0, _ :: ds, _, h => by
    obtain ⟨w, r, h1, h2, h3⟩ := h
    cases h1
    exact ⟨v, r, rfl, g, h3⟩
  | n + 1, _ :: ds, _, h => by
    obtain ⟨w, r, h1, h2, h3⟩ := h
    cases h1
    exact ⟨w, _, rfl, h2, DrL.set g n h3⟩
theorem DrL.rep {ds : List D} {vs : List V} (h : DrL K s ds vs) : ∀ k : Nat, DrL K s (List.replicate k ds).flatten (List.replicate k vs).flatten
  | 0 => rfl
  | k + 1 => by
    rw [List.replicate_succ, List.replicate_succ, List.flatten_cons, List.flatten_cons]
    exact h.append (DrL.rep h k)
theorem DrL.dropLast : ∀ {ds : List D} {vs : List V}, DrL K s ds vs → DrL K s ds.dropLast vs.dropLast := fun {ds vs} h => by
  rw [List.dropLast_eq_take, List.dropLast_eq_take, h.length]
  exact h.take _
theorem DrL.scl1 {f : α → D} {g : α → V} (hf : ∀ a v, Dr K s (f a) v → v = g a) : ∀ {as : List α} {vs : List V}, DrL K s (as.map f) vs → vs = as.map g
  | [], _, h => h
  | a :: as, _, h => by
    obtain ⟨w, r, h1, h2, h3⟩ := h
    rw [h1, hf a w h2, DrL.scl1 hf h3]
    rfl
theorem DrL.of1 {f : α → D} {g : α → V} (hf : ∀ a, Dr K s (f a) (g a)) : ∀ (as : List α), DrL K s (as.map f) (as.map g)
  | [] => rfl
  | a :: as => ⟨_, _, rfl, hf a, DrL.of1 hf as⟩
/-! fields -/
def getF {κ : Type} [DecidableEq κ] (k : κ) : List (κ × D) → Option D
  | [] => .none
  | p :: r => if p.1 = k then some p.2 else getF k r
def setF (f : Str) (v : D) : List (Str × D) → List (Str × D)
  | [] => [(f, v)]
  | (g, x) :: r => if g = f then (g, v) :: r else (g, x) :: setF f v r
theorem FsR.get {f : Str} {d : D} : ∀ {ps : List (Str × D)} {vs : List (Str × V)}, FsR K s ps vs → getF f ps = some d → ∃ v, vs.lookup f = some v ∧ Dr K s d v
  | [], _, _, e => by cases e
  | (g, x) :: ps, _, h, e => by
    obtain ⟨v, r, h1, h2, h3⟩ := h
    subst h1
    by_cases hg : g = f
    · subst hg
      have e : some x = some d := by rw [← e]; show _ = if g = g then _ else _; rw [if_pos rfl]
      cases e
      exact ⟨v, by simp [List.lookup], h2⟩
    · have e : getF f ps = some d := by rw [← e]; show _ = if g = f then _ else _; rw [if_neg hg]
      obtain ⟨v', a, b⟩ := FsR.get h3 e
      refine ⟨v', ?_, b⟩
      have : (f == g) = false := by simpa using fun z => hg z.symm
      show (match f == g with | true => some v | false => r.lookup f) = _
      rw [this]
      exact a
theorem FsR.none {f : Str} : ∀ {ps : List (Str × D)} {vs : List (Str × V)}, FsR K s ps vs → getF f ps = Option.none → vs.lookup f = Option.none
  | [], _, h, _ => by cases h; rfl
  | (g, x) :: ps, _, h, e => by
    obtain ⟨v, r, h1, h2, h3⟩ := h
    subst h1
    by_cases hg : g = f
    · subst hg
      have e : some x = Option.none := by rw [← e]; show _ = if g = g then _ else _; rw [if_pos rfl]
      cases e
    · have e : getF f ps = Option.none := by rw [← e]; show _ = if g = f then _ else _; rw [if_neg hg]
      have a := FsR.none h3 e
      have : (f == g) = false := by simpa using fun z => hg z.symm
      show (match f == g with | true => some v | false => r.lookup f) = _
      rw [this]
      exact a
theorem FsR.put {f : Str} {d : D} {v : V} (g : Dr K s d v) : ∀ {ps : List (Str × D)} {vs : List (Str × V)}, FsR K s ps vs → FsR K s (setF f d ps) (putF f v vs)
  | [], _, h => by cases h; exact ⟨v, [], rfl, g, rfl⟩
  | (k, x) :: ps, _, h => by
    obtain ⟨w, r, h1, h2, h3⟩ := h
    subst h1
    show FsR K s (if k = f then _ else _) (if k = f then _ else _)
    by_cases hk : k = f
    · rw [if_pos hk, if_pos hk]
      exact ⟨v, r, rfl, g, h3⟩
    · rw [if_neg hk, if_neg hk]
      exact ⟨w, _, rfl, h2, FsR.put g h3⟩
theorem FsR.length {κ : Type} : ∀ {ps : List (κ × D)} {vs : List (κ × V)}, FsR K s ps vs → vs.length = ps.length
  | [], _, h => by cases h; rfl
  | p :: ps, _, h => by
    obtain ⟨v, r, h1, h2, h3⟩ := h
    subst h1
    exact congrArg Nat.succ (FsR.length h3)
/-! ### steps -/
theorem tabs_upd {a : Addr} {u u' : HO} {H : Hp} (tb : LamX.Tabs T H) (ha : H a = some u) (hm : isMut u) : LamX.Tabs T (upd H a u') := fun p hp => by
  obtain ⟨ps, h1, h2, h3⟩ := tb p hp
  have ne : ∀ {b o}, H b = some o → ¬ isMut o → b ≠ a := fun e n z => by
    rw [z, ha] at e
    cases e
    exact n hm
  refine ⟨ps, by rw [upd_ne (ne h1 fun z => z)]; exact h1, h2, fun pos cv hc => ?_⟩
  obtain ⟨c, e1, e2⟩ := h3 pos cv hc
  exact ⟨c, e1, by rw [upd_ne (ne e2 fun z => z)]; exact e2⟩
theorem tabs_ext {H H' : Hp} (tb : LamX.Tabs T H) (e : ∀ b o, H b = some o → H' b = some o) : LamX.Tabs T H' := fun p hp => (tb p hp).ext e
/-- a thing that never changes is new -/
theorem st_new {p : Addr} (rl : Rl K T s) (hp : s.H p = Option.none) (o : HO) : Ev s { s with H := upd s.H p o } ∧ Rl K T { s with H := upd s.H p o } := by
  have ne : ∀ {b u}, s.H b = some u → upd s.H p o b = s.H b := fun e => upd_ne (ne_of_none e hp)
  have l : Lt s { s with H := upd s.H p o } := ⟨⟨[], by simp⟩, fun a u h n f => ⟨f, by show upd s.H p o a = _; rw [ne h]; exact h⟩⟩
  refine ⟨⟨l, rfl, fun a ha => ?_⟩, rl.len, rl.inj, fun a ha => ?_, fun n o' a h1 h2 => ?_, tabs_ext rl.tb fun b u e => by show upd s.H p o b = _; rw [ne e]; exact e⟩
  · obtain ⟨_, xs, e, em⟩ := rl.xs a ha
    exact ne e
  · obtain ⟨e1, xs, e, em⟩ := rl.xs a ha
    exact ⟨e1, xs, by show upd s.H p o a = _; rw [ne e]; exact e, em⟩
  · obtain ⟨u, e, v⟩ := rl.ob n o' a h1 h2
    exact ⟨u, by show upd s.H p o a = _; rw [ne e]; exact e, v.mono rl l⟩
/-- an object changes -/
theorem st_set {n : Nat} {a : Addr} {o o' : MO} {u' : HO} (rl : Rl K T s) (ho : s.h[n]? = some o) (hg : o ≠ .gone) (ha : s.as[n]? = some a) (hv : OV K s o' u') : Ev s ⟨s.X, s.as, s.h.set n o', upd s.H a u'⟩ ∧ Rl K T ⟨s.X, s.as, s.h.set n o', upd s.H a u'⟩ := by
  obtain ⟨u, hu, ou⟩ := rl.ob n o a ho ha
  have nf : ∀ {b}, s.fz b → b ≠ a := fun f z => by
    rw [z] at f
    have := f.2 n ha
    rw [ho] at this
    cases this
    exact hg rfl
  have hn : n < s.h.length := (List.getElem?_eq_some_iff.mp ho).1
  have l : Lt s ⟨s.X, s.as, s.h.set n o', upd s.H a u'⟩ := ⟨⟨[], by simp⟩, fun b w h _ f => by
    refine ⟨⟨f.1, fun m hm => ?_⟩, ?_⟩
    · have : m ≠ n := fun z => nf f (by rw [z, ha] at hm; exact (Option.some.inj hm).symm)
      show (s.h.set n o')[m]? = _
      rw [List.getElem?_set_ne (Ne.symm this)]
      exact f.2 m hm
    · show upd s.H a u' b = _
      rw [upd_ne (nf f)]
      exact h⟩
  have nx : ∀ b ∈ s.X, b ≠ a := fun b hb z => (rl.xs b hb).1 n (by rw [z]; exact ha)
  refine ⟨⟨l, rfl, fun b hb => upd_ne (nx b hb)⟩, by show s.as.length = (s.h.set n o').length; rw [List.length_set]; exact rl.len, rl.inj, fun b hb => ?_, fun m om b h1 h2 => ?_, tabs_upd rl.tb hu ou.mut⟩
  · obtain ⟨e1, xs, e, em⟩ := rl.xs b hb
    exact ⟨e1, xs, by show upd s.H a u' b = _; rw [upd_ne (nx b hb)]; exact e, em⟩
  · by_cases hm : m = n
    · subst hm
      have e : b = a := by rw [ha] at h2; exact (Option.some.inj h2).symm
      subst e
      have h1 : (s.h.set m o')[m]? = some om := h1
      rw [List.getElem?_set_self hn] at h1
      cases h1
      exact ⟨u', upd_same, hv.mono rl l⟩
    · have h1 : (s.h.set n o')[m]? = some om := h1
      rw [List.getElem?_set_ne (Ne.symm hm)] at h1
      obtain ⟨w, e, v⟩ := rl.ob m om b h1 h2
      have nb : b ≠ a := fun z => hm (rl.inj m n a (by rw [← z]; exact h2) ha)
      exact ⟨w, by show upd s.H a u' b = _; rw [upd_ne nb]; exact e, v.mono rl l⟩
/-- a list goes out of hand -/
theorem st_freeze {n : Nat} {a : Addr} {ds : List D} (rl : Rl K T s) (ho : s.h[n]? = some (.lst ds)) (ha : s.as[n]? = some a) : Ev s { s with h := s.h.set n .gone } ∧ Rl K T { s with h := s.h.set n .gone } ∧ Dr K { s with h := s.h.set n .gone } (.list ds) (.ref a) := by
  obtain ⟨u, hu, xs, rfl, hd⟩ := rl.ob n _ a ho ha
  have hn : n < s.h.length := (List.getElem?_eq_some_iff.mp ho).1
  have l : Lt s { s with h := s.h.set n .gone } := ⟨⟨[], by simp⟩, fun b w h _ f => by
    refine ⟨⟨f.1, fun m hm => ?_⟩, h⟩
    show (s.h.set n .gone)[m]? = _
    by_cases e : m = n
    · rw [e, List.getElem?_set_self hn]
    · rw [List.getElem?_set_ne (Ne.symm e)]
      exact f.2 m hm⟩
  refine ⟨⟨l, rfl, fun _ _ => rfl⟩, ⟨by show s.as.length = (s.h.set n .gone).length; rw [List.length_set]; exact rl.len, rl.inj, rl.xs, fun m om b h1 h2 => ?_, rl.tb⟩, a, xs, rfl, hu, ⟨fun z => (rl.xs a z).1 n ha, fun m hm => ?_⟩, hd.mono rl l⟩
  · have h1 : (s.h.set n .gone)[m]? = some om := h1
    by_cases e : m = n
    · subst e
      rw [List.getElem?_set_self hn] at h1
      cases h1
      rw [ha] at h2
      cases h2
      exact ⟨_, hu, xs, rfl⟩
    · rw [List.getElem?_set_ne (Ne.symm e)] at h1
      obtain ⟨w, e, v⟩ := rl.ob m om b h1 h2
      exact ⟨w, e, v.mono rl l⟩
  · show (s.h.set n .gone)[m]? = _
    rw [rl.inj m n a hm ha, List.getElem?_set_self hn]
/-- a new list, still hidden, at p -/
structure Nw (K : PySem.W.Frag) (T : List (Addr × Str)) (s t : Ws) (p : Addr) (ds : List D) : Prop where
  rl : Rl K T t
  x : t.X = p :: s.X
  lt : Lt s t
  kx : ∀ a ∈ s.X, t.H a = s.H a
  new : p ∉ s.X
  at_ : ∃ vs, t.H p = some (.lst vs) ∧ DrL K t ds vs
theorem nw_of {p : Addr} {ds : List D} {vs : List V} (rl : Rl K T s) (hp : s.H p = Option.none) (hd : DrL K s ds vs) : Nw K T s ⟨p :: s.X, s.as, s.h, upd s.H p (.lst vs)⟩ p ds := by
  have ne : ∀ {b u}, s.H b = some u → upd s.H p (.lst vs) b = s.H b := fun e => upd_ne (ne_of_none e hp)
  obtain ⟨f1, f2⟩ := rl.fresh hp
  have l : Lt s ⟨p :: s.X, s.as, s.h, upd s.H p (.lst vs)⟩ := ⟨⟨[], by simp⟩, fun a u h n f => ⟨⟨fun z => (List.mem_cons.mp z).elim (fun z => ne_of_none h hp z) f.1, f.2⟩, by show upd s.H p _ a = _; rw [ne h]; exact h⟩⟩
  refine ⟨⟨rl.len, rl.inj, fun a ha => ?_, fun n o' a h1 h2 => ?_, tabs_ext rl.tb fun b u e => by show upd s.H p _ b = _; rw [ne e]; exact e⟩, rfl, l, fun a ha => ?_, f1, vs, upd_same, hd.mono rl l⟩
  · rcases List.mem_cons.mp ha with z | z
    · subst z
      exact ⟨f2, _, upd_same, trivial⟩
    · obtain ⟨e1, xs, e, em⟩ := rl.xs a z
      exact ⟨e1, xs, by show upd s.H p _ a = _; rw [ne e]; exact e, em⟩
  · obtain ⟨u, e, v⟩ := rl.ob n o' a h1 h2
    exact ⟨u, by show upd s.H p _ a = _; rw [ne e]; exact e, v.mono rl l⟩
  · obtain ⟨_, xs, e, em⟩ := rl.xs a ha
    exact ne e
theorem Nw.pre {s0 : Ws} {p : Addr} {ds : List D} (e : Ev s0 s) (n : Nw K T s t p ds) : Nw K T s0 t p ds :=
  ⟨n.rl, by rw [n.x, e.x], e.toLt.trans n.lt, fun a ha => (n.kx a (by rw [e.x]; exact ha)).trans (e.kx a ha), by rw [← e.x]; exact n.new, n.at_⟩
/-- .. seen as a datum -/
theorem Nw.frozen {p : Addr} {ds : List D} (n : Nw K T s t p ds) : Ev s { t with X := s.X } ∧ Rl K T { t with X := s.X } ∧ Dr K { t with X := s.X } (.list ds) (.ref p) := by
  obtain ⟨vs, hv, hd⟩ := n.at_
  have w : ∀ {a}, t.fz a → Ws.fz { t with X := s.X } a := fun f => ⟨fun z => f.1 (by rw [n.x]; exact List.mem_cons_of_mem _ z), f.2⟩
  have l : Lt t { t with X := s.X } := ⟨⟨[], by simp⟩, fun a o h _ f => ⟨w f, h⟩⟩
  have xp := n.rl.xs p (by rw [n.x]; exact List.mem_cons_self)
  have np := n.new
  refine ⟨⟨⟨n.lt.as, fun a o h nn f => ?_⟩, rfl, n.kx⟩, ⟨n.rl.len, n.rl.inj, fun a ha => n.rl.xs a (by rw [n.x]; exact List.mem_cons_of_mem _ ha), fun m o a h1 h2 => ?_, n.rl.tb⟩, p, vs, rfl, hv, ⟨np, fun m hm => absurd hm (xp.1 m)⟩, hd.mono n.rl l⟩
  · obtain ⟨f1, e1⟩ := n.lt.fz a o h nn f
    exact ⟨w f1, e1⟩
  · obtain ⟨u, e, v⟩ := n.rl.ob m o a h1 h2
    exact ⟨u, e, v.mono n.rl l⟩
/-- .. as an object -/
theorem Nw.thawed {p : Addr} {ds : List D} (n : Nw K T s t p ds) : Ev s ⟨s.X, t.as ++ [p], t.h ++ [.lst ds], t.H⟩ ∧ Rl K T ⟨s.X, t.as ++ [p], t.h ++ [.lst ds], t.H⟩ ∧ Dr K ⟨s.X, t.as ++ [p], t.h ++ [.lst ds], t.H⟩ (.ref t.h.length) (.ref p) := by
  obtain ⟨vs, hv, hd⟩ := n.at_
  have xp := n.rl.xs p (by rw [n.x]; exact List.mem_cons_self)
  have np := n.new
  have len := n.rl.len
  have w : ∀ {a}, t.fz a → Ws.fz ⟨s.X, t.as ++ [p], t.h ++ [.lst ds], t.H⟩ a := fun {a} f => by
    have na : a ≠ p := fun z => f.1 (by rw [n.x, z]; exact List.mem_cons_self)
    refine ⟨fun z => f.1 (by rw [n.x]; exact List.mem_cons_of_mem _ z), fun m hm => ?_⟩
    have hm : (t.as ++ [p])[m]? = some a := hm
    show (t.h ++ [.lst ds])[m]? = _
    by_cases hl : m < t.as.length
    · rw [List.getElem?_append_left hl] at hm
      rw [List.getElem?_append_left (by omega)]
      exact f.2 m hm
    · rw [List.getElem?_append_right (by omega)] at hm
      have : [p][m - t.as.length]? = some a := hm
      have := List.mem_of_getElem? this
      exact absurd (List.mem_singleton.mp this) na
  have l : Lt t ⟨s.X, t.as ++ [p], t.h ++ [.lst ds], t.H⟩ := ⟨⟨[p], rfl⟩, fun a o h _ f => ⟨w f, h⟩⟩
  refine ⟨⟨⟨?_, fun a o h nn f => ?_⟩, rfl, n.kx⟩, ⟨by show (t.as ++ [p]).length = (t.h ++ [MO.lst ds]).length; simp [len], fun i j a hi hj => ?_, fun a ha => ?_, fun m o a h1 h2 => ?_, n.rl.tb⟩, p, rfl, ?_⟩
  · obtain ⟨m, e⟩ := n.lt.as
    exact ⟨m ++ [p], by show t.as ++ [p] = _; rw [e, List.append_assoc]⟩
  · obtain ⟨f1, e1⟩ := n.lt.fz a o h nn f
    exact ⟨w f1, e1⟩
  · have hi : (t.as ++ [p])[i]? = some a := hi
    have hj : (t.as ++ [p])[j]? = some a := hj
    have key : ∀ k : Nat, (t.as ++ [p])[k]? = some a → (k < t.as.length ∧ t.as[k]? = some a) ∨ (k = t.as.length ∧ a = p) := fun k hk => by
      by_cases hl : k < t.as.length
      · rw [List.getElem?_append_left hl] at hk
        exact .inl ⟨hl, hk⟩
      · have hk2 := (List.getElem?_eq_some_iff.mp hk).1
        rw [List.length_append] at hk2
        have : k = t.as.length := by simp at hk2; omega
        subst this
        rw [List.getElem?_append_right (Nat.le_refl _), Nat.sub_self] at hk
        exact .inr ⟨rfl, (Option.some.inj hk).symm⟩
    rcases key i hi with ⟨_, a1⟩ | ⟨a1, b1⟩ <;> rcases key j hj with ⟨_, a2⟩ | ⟨a2, b2⟩
    · exact n.rl.inj i j a a1 a2
    · exact absurd (b2 ▸ a1) (xp.1 i)
    · exact absurd (b1 ▸ a2) (xp.1 j)
    · omega
  · obtain ⟨e1, xs, e, em⟩ := n.rl.xs a (by rw [n.x]; exact List.mem_cons_of_mem _ ha)
    refine ⟨fun m hm => ?_, xs, e, em⟩
    have hm : (t.as ++ [p])[m]? = some a := hm
    by_cases hl : m < t.as.length
    · rw [List.getElem?_append_left hl] at hm
      exact e1 m hm
    · rw [List.getElem?_append_right (by omega)] at hm
      have := List.mem_singleton.mp (List.mem_of_getElem? hm)
      exact np (this ▸ ha)
  · have h1 : (t.h ++ [MO.lst ds])[m]? = some o := h1
    have h2 : (t.as ++ [p])[m]? = some a := h2
    by_cases hl : m < t.as.length
    · rw [List.getElem?_append_left hl] at h2
      rw [List.getElem?_append_left (by omega)] at h1
      obtain ⟨u, e, v⟩ := n.rl.ob m o a h1 h2
      exact ⟨u, e, v.mono n.rl l⟩
    · have hk2 := (List.getElem?_eq_some_iff.mp h2).1
      rw [List.length_append] at hk2
      have em : m = t.as.length := by simp at hk2; omega
      rw [em, List.getElem?_append_right (Nat.le_refl _), Nat.sub_self] at h2
      rw [em, len, List.getElem?_append_right (Nat.le_refl _), Nat.sub_self] at h1
      cases h1
      cases h2
      exact ⟨_, hv, vs, rfl, hd.mono n.rl l⟩
  · show (t.as ++ [p])[t.h.length]? = _
    rw [← len, List.getElem?_append_right (Nat.le_refl _), Nat.sub_self]
    rfl
/-- a new object of another kind -/
theorem st_alloc {p : Addr} {o : MO} {u : HO} (rl : Rl K T s) (hp : s.H p = Option.none) (hv : OV K s o u) (hg : o ≠ .gone) : Ev s ⟨s.X, s.as ++ [p], s.h ++ [o], upd s.H p u⟩ ∧ Rl K T ⟨s.X, s.as ++ [p], s.h ++ [o], upd s.H p u⟩ := by
  have n := nw_of (ds := []) (vs := []) rl hp rfl
  obtain ⟨e1, r1, d1⟩ := n.thawed
  have hl : (s.h ++ [MO.lst []])[s.h.length]? = some (.lst []) := by rw [List.getElem?_append_right (Nat.le_refl _), Nat.sub_self]; rfl
  have ha : (s.as ++ [p])[s.h.length]? = some p := by rw [← rl.len, List.getElem?_append_right (Nat.le_refl _), Nat.sub_self]; rfl
  have l : Lt s ⟨s.X, s.as ++ [p], s.h ++ [MO.lst []], upd s.H p (.lst [])⟩ := e1.toLt
  obtain ⟨e2, r2⟩ := st_set (o' := o) (u' := u) r1 hl (fun z => by cases z) ha (hv.mono rl l)
  have eh : (s.h ++ [MO.lst []]).set s.h.length o = s.h ++ [o] := by
    rw [List.set_append_right _ _ (Nat.le_refl _), Nat.sub_self]
    rfl
  have eH : upd (upd s.H p (.lst [])) p u = upd s.H p u := upd_upd
  have ew : (⟨s.X, s.as ++ [p], (s.h ++ [MO.lst []]).set s.h.length o, upd (upd s.H p (.lst [])) p u⟩ : Ws) = ⟨s.X, s.as ++ [p], s.h ++ [o], upd s.H p u⟩ := by rw [eh, eH]
  have e2 : Ev _ (⟨s.X, s.as ++ [p], (s.h ++ [MO.lst []]).set s.h.length o, upd (upd s.H p (.lst [])) p u⟩ : Ws) := e2
  have r2 : Rl K T (⟨s.X, s.as ++ [p], (s.h ++ [MO.lst []]).set s.h.length o, upd (upd s.H p (.lst [])) p u⟩ : Ws) := r2
  rw [ew] at e2 r2
  exact ⟨e1.trans e2, r2⟩
end
end Sc

namespace Sc
open PySem PySem.Spec PyProof.Rows L2
/-! ### what the machine does: a result or an error, and the objects behind it -/
abbrev M (α : Type) := MH → Option (Except Str α × MH)
def ret {α : Type} (a : α) : M α := fun h => some (.ok a, h)
def bnd {α β : Type} (m : M α) (f : α → M β) : M β := fun h => match m h with
  | some (.ok a, h') => f a h'
  | some (.error c, h') => some (.error c, h')
  | .none => .none
def rd {α : Type} (f : MH → Option α) : M α := fun h => match f h with
  | some a => some (.ok a, h)
  | .none => .none
def opt {α : Type} (o : Option α) : M α := fun h => match o with
  | some a => some (.ok a, h)
  | .none => .none
abbrev En := List (Option D)
def EnvR (K : PySem.W.Frag) (s : Ws) (e : En) (σ : L2.St) : Prop := e.length = σ.length ∧ ∀ (i : Nat) (d : D), e[i]? = some (some d) → ∃ v, σ[i]? = some (some v) ∧ Dr K s d v
def Po (K : PySem.W.Frag) (T : List (Addr × Str)) (E : XK) {α β : Type} (s : Ws) (Rv : Ws → α → β → Prop) (r : Except Str α) (h' : MH) (Q : β → Hp → Prop) : Prop := match r with
  | .ok d => ∀ t v, t.h = h' → Ev s t → Rl K T t → Rv t d v → Q v t.H
  | .error c => ∀ t, t.h = h' → Ev s t → Rl K T t → E (.ref (He.ga K c)) Option.none t.H
def Sim (K : PySem.W.Frag) (T : List (Addr × Str)) (E : XK) {α β : Type} (Rv : Ws → α → β → Prop) (te : L2.St → Hp → (β → Hp → Prop) → Prop) (φ : En → M α) : Prop :=
  ∀ s e σ r h', Rl K T s → EnvR K s e σ → φ e s.h = some (r, h') → ∀ Q, Po K T E s Rv r h' Q → te σ s.H Q
theorem bnd_some {α β : Type} {m : M α} {f : α → M β} {h h' : MH} {r : Except Str β} (e : bnd m f h = some (r, h')) : (∃ a h1, m h = some (.ok a, h1) ∧ f a h1 = some (r, h')) ∨ ∃ c, m h = some (.error c, h') ∧ r = .error c := by
  unfold bnd at e
  split at e
  · next a h1 hm => exact .inl ⟨a, h1, hm, e⟩
  · next c h1 hm => cases e; exact .inr ⟨c, hm, rfl⟩
  · cases e
theorem rd_some {α : Type} {f : MH → Option α} {h h' : MH} {r : Except Str α} (e : rd f h = some (r, h')) : ∃ a, f h = some a ∧ r = .ok a ∧ h' = h := by
  unfold rd at e
  split at e
  · next a hm => cases e; exact ⟨a, hm, rfl, rfl⟩
  · cases e
theorem opt_some {α : Type} {o : Option α} {h h' : MH} {r : Except Str α} (e : opt o h = some (r, h')) : ∃ a, o = some a ∧ r = .ok a ∧ h' = h := by
  cases o with
  | none => cases e
  | some a => cases e; exact ⟨a, rfl, rfl, rfl⟩
theorem ret_some {α : Type} {a : α} {h h' : MH} {r : Except Str α} (e : ret a h = some (r, h')) : r = .ok a ∧ h' = h := by cases e; exact ⟨rfl, rfl⟩
section
variable {K : PySem.W.Frag} {T : List (Addr × Str)} {E : XK} {s t : Ws} {e : En} {σ : L2.St} {h' : MH}
theorem EnvR.mono (h : EnvR K s e σ) (rl : Rl K T s) (l : Lt s t) : EnvR K t e σ := ⟨h.1, fun i d hd => let ⟨v, h1, h2⟩ := h.2 i d hd; ⟨v, h1, h2.mono rl l⟩⟩
theorem EnvR.set (h : EnvR K s e σ) {i : Nat} {d : D} {v : V} (g : Dr K s d v) : EnvR K s (e.set i (some d)) (σ.set i (some v)) := by
  refine ⟨by rw [List.length_set, List.length_set]; exact h.1, fun j d' hd => ?_⟩
  by_cases hj : i = j
  · subst hj
    have hl : i < e.length := by
      have := (List.getElem?_eq_some_iff.mp hd).1
      rw [List.length_set] at this
      exact this
    rw [List.getElem?_set_self hl] at hd
    cases hd
    exact ⟨v, by rw [List.getElem?_set_self (by rw [← h.1]; exact hl)], g⟩
  · rw [List.getElem?_set_ne hj] at hd
    obtain ⟨w, h1, h2⟩ := h.2 j d' hd
    exact ⟨w, by rw [List.getElem?_set_ne hj]; exact h1, h2⟩
theorem EnvR.clr (h : EnvR K s e σ) {i : Nat} : EnvR K s (e.set i .none) (σ.set i Option.none) := by
  refine ⟨by rw [List.length_set, List.length_set]; exact h.1, fun j d' hd => ?_⟩
  by_cases hj : i = j
  · subst hj
    have hl : i < e.length := by
      have := (List.getElem?_eq_some_iff.mp hd).1
      rw [List.length_set] at this
      exact this
    rw [List.getElem?_set_self hl] at hd
    cases hd
  · rw [List.getElem?_set_ne hj] at hd
    obtain ⟨w, h1, h2⟩ := h.2 j d' hd
    exact ⟨w, by rw [List.getElem?_set_ne hj]; exact h1, h2⟩
theorem Po.pre {α β : Type} {Rv : Ws → α → β → Prop} {r : Except Str α} {Q : β → Hp → Prop} (p : Po K T E s Rv r h' Q) (ev : Ev s t) : Po K T E t Rv r h' Q := by
  cases r with
  | ok d => exact fun u v e1 e2 e3 e4 => p u v e1 (ev.trans e2) e3 e4
  | error c => exact fun u e1 e2 e3 => p u e1 (ev.trans e2) e3
/-- then .. -/
theorem Sim.thn {α β γ δ : Type} {Rv : Ws → α → β → Prop} {Rw : Ws → δ → γ → Prop} {te : L2.St → Hp → (β → Hp → Prop) → Prop} {φ : En → M α} {f : α → M δ} {r : Except Str δ} {Q : γ → Hp → Prop} {Q' : β → Hp → Prop} (h1 : Sim K T E Rv te φ) (rl : Rl K T s) (er : EnvR K s e σ) (eq : bnd (φ e) f s.h = some (r, h')) (po : Po K T E s Rw r h' Q)
    (k : ∀ t d v, Ev s t → Rl K T t → EnvR K t e σ → Rv t d v → f d t.h = some (r, h') → Po K T E t Rw r h' Q → Q' v t.H) : te σ s.H Q' := by
  rcases bnd_some eq with ⟨a, h1', e1, e2⟩ | ⟨c, e1, rfl⟩
  · exact h1 s e σ (.ok a) h1' rl er e1 Q' fun t v ht ev rlt hv => k t a v ev rlt (er.mono rl ev.toLt) hv (by rw [ht]; exact e2) (po.pre ev)
  · exact h1 s e σ (.error c) h' rl er e1 Q' po
theorem po_ret {α β : Type} {Rv : Ws → α → β → Prop} {a : α} {r : Except Str α} {Q : β → Hp → Prop} {v : β} (rl : Rl K T s) (hv : Rv s a v) (eq : ret a s.h = some (r, h')) (po : Po K T E s Rv r h' Q) : Q v s.H := by
  obtain ⟨rfl, rfl⟩ := ret_some eq
  exact po s v rfl (.refl s) rl hv
end
/-! ### kinds of readings -/
section
variable (K : PySem.W.Frag) (T : List (Addr × Str)) (E : XK)
abbrev SE (te : TE) (φ : En → M D) : Prop := Sim K T E (Dr K) te φ
abbrev ST (tt : TT) (φ : En → M Bool) : Prop := Sim K T E (fun _ (a b : Bool) => a = b) tt φ
abbrev SA (ta : TA) (φ : En → M (List D)) : Prop := Sim K T E (DrL K) ta φ
abbrev SO (to : TO) (φ : En → M (Option Int)) : Prop := Sim K T E (fun _ (a b : Option Int) => a = b) to φ
/-- an operation on two values -/
def KR (r : R2) (ψ : D → D → M D) : Prop := ∀ s a b x y res h', Rl K T s → Dr K s a x → Dr K s b y → ψ a b s.h = some (res, h') → ∀ Q, Po K T E s (Dr K) res h' Q → r x y s.H Q
/-- on arguments -/
def KC (r : List V → Hp → VK → Prop) (ψ : List D → M D) : Prop := ∀ s ds xs res h', Rl K T s → DrL K s ds xs → ψ ds s.h = some (res, h') → ∀ Q, Po K T E s (Dr K) res h' Q → r xs s.H Q
/-- a list that comes new -/
def SL (te : TE) (φ : En → M (List D)) : Prop := ∀ s e σ r h', Rl K T s → EnvR K s e σ → φ e s.h = some (r, h') → ∀ Q : VK,
  (match r with | .ok ds => ∀ t p, t.h = h' → Nw K T s t p ds → Q (.ref p) t.H | .error c => ∀ t, t.h = h' → Ev s t → Rl K T t → E (.ref (He.ga K c)) Option.none t.H) → te σ s.H Q
end
def newO (o : MO) : M D := fun h => some (.ok (.ref h.length), h ++ [o])
/-- a datum that is its value -/
def sclD : D → Option V
  | .none => some .non
  | .bool b => some (.bl b)
  | .int i => some (.int i)
  | .str x => some (.str x)
  | _ => Option.none
section
variable {K : PySem.W.Frag} {T : List (Addr × Str)} {E : XK} {ta tb tc te : TE} {φ φa φb φc : En → M D}
/-! ### names, constants -/
def var (i : Nat) (e : En) : M D := opt (match e[i]? with | some (some d) => some d | _ => .none)
theorem sm_var (i : Nat) : SE K T E (tVar i) (var i) := fun s e σ r h' rl er eq Q po => by
  obtain ⟨d, hd, rfl, rfl⟩ := opt_some eq
  split at hd
  · next d' hd' =>
    cases hd
    obtain ⟨v, h1, h2⟩ := er.2 i _ hd'
    exact ⟨v, h1, po s v rfl (.refl s) rl h2⟩
  · cases hd
theorem sm_c {v : V} {d : D} (h : ∀ s, Dr K s d v) : SE K T E (tC v) (fun _ => ret d) := fun s e σ r h' rl er eq Q po => po_ret (Rv := Dr K) rl (h s) eq po
theorem sm_int {i : Int} : SE K T E (tC (.int i)) (fun _ => ret (.int i)) := sm_c fun _ => rfl
theorem sm_str {x : Str} : SE K T E (tC (.str x)) (fun _ => ret (.str x)) := sm_c fun _ => rfl
theorem sm_bl {b : Bool} : SE K T E (tC (.bl b)) (fun _ => ret (.bool b)) := sm_c fun _ => rfl
theorem sm_non : SE K T E (tC .non) (fun _ => ret .none) := sm_c fun _ => rfl
/-! ### arguments -/
theorem sa_nil : SA K T E tNil (fun _ => ret []) := fun s e σ r h' rl er eq Q po => po_ret (Rv := DrL K) (a := []) rl rfl eq po
theorem sa_cons {tr : TA} {φr : En → M (List D)} (h : SE K T E ta φa) (hr : SA K T E tr φr) : SA K T E (tCons ta tr) (fun e => bnd (φa e) fun a => bnd (φr e) fun r => ret (a :: r)) := fun s e σ r h' rl er eq Q po =>
  h.thn rl er eq po fun t d v ev rlt ert hv eq2 po2 => hr.thn rlt ert eq2 po2 fun u ds vs ev2 rlu eru hvs eq3 po3 => po_ret (Rv := DrL K) (a := d :: ds) rlu ⟨v, vs, rfl, hv.mono rlt ev2.toLt, hvs⟩ eq3 po3
/-! ### operators -/
theorem sm_op {r : R2} {ψ : D → D → M D} (hr : KR K T E r ψ) (ha : SE K T E ta φa) (hb : SE K T E tb φb) : SE K T E (tOp r ta tb) (fun e => bnd (φa e) fun a => bnd (φb e) fun b => ψ a b) := fun s e σ r h' rl er eq Q po =>
  ha.thn rl er eq po fun t a x ev rlt ert hx eq2 po2 => hb.thn rlt ert eq2 po2 fun u b y ev2 rlu eru hy eq3 po3 => hr u a b x y _ _ rlu (hx.mono rlt ev2.toLt) hy eq3 Q po3
theorem sm_un {r : V → Hp → VK → Prop} {ψ : D → M D} (hr : ∀ s a x res h', Rl K T s → Dr K s a x → ψ a s.h = some (res, h') → ∀ Q, Po K T E s (Dr K) res h' Q → r x s.H Q) (ha : SE K T E ta φa) : SE K T E (tUn r ta) (fun e => bnd (φa e) ψ) := fun s e σ r h' rl er eq Q po =>
  ha.thn rl er eq po fun t a x ev rlt ert hx eq2 po2 => hr t a x _ _ rlt hx eq2 Q po2
theorem sm_cb {r : List V → Hp → VK → Prop} {ψ : List D → M D} {tr : TA} {φr : En → M (List D)} (hr : KC K T E r ψ) (ha : SA K T E tr φr) : SE K T E (tCB r tr) (fun e => bnd (φr e) ψ) := fun s e σ r h' rl er eq Q po =>
  ha.thn rl er eq po fun t a x ev rlt ert hx eq2 po2 => hr t a x _ _ rlt hx eq2 Q po2
theorem kr_rd {r : R2} {f : MH → D → D → Option D} (hr : ∀ s a b x y d, Rl K T s → Dr K s a x → Dr K s b y → f s.h a b = some d → ∀ Q : VK, (∀ t v, t.h = s.h → Ev s t → Rl K T t → Dr K t d v → Q v t.H) → r x y s.H Q) : KR K T E r (fun a b => rd fun h => f h a b) := fun s a b x y res h' rl ha hb eq Q po => by
  obtain ⟨d, h1, rfl, rfl⟩ := rd_some eq
  exact hr s a b x y d rl ha hb h1 Q po
theorem kc_rd {r : List V → Hp → VK → Prop} {f : MH → List D → Option D} (hr : ∀ s ds xs d, Rl K T s → DrL K s ds xs → f s.h ds = some d → ∀ Q : VK, (∀ t v, t.h = s.h → Ev s t → Rl K T t → Dr K t d v → Q v t.H) → r xs s.H Q) : KC K T E r (fun ds => rd fun h => f h ds) := fun s ds xs res h' rl ha eq Q po => by
  obtain ⟨d, h1, rfl, rfl⟩ := rd_some eq
  exact hr s ds xs d rl ha h1 Q po
/-- the items of a list -/
def sqL (h : MH) : D → Option (List D)
  | .list ds => some ds
  | .ref n => match h[n]? with | some (.lst ds) => some ds | _ => .none
  | _ => .none
theorem sqL_at {s : Ws} {d : D} {x : V} {ds : List D} (rl : Rl K T s) (hd : Dr K s d x) (h : sqL s.h d = some ds) : ∃ a xs, x = .ref a ∧ s.H a = some (.lst xs) ∧ DrL K s ds xs := by
  cases d with
  | list es =>
    cases h
    obtain ⟨a, xs, h1, h2, _, h4⟩ := hd
    exact ⟨a, xs, h1, h2, h4⟩
  | ref n =>
    obtain ⟨a, h1, h2⟩ := hd
    obtain ⟨o, ho⟩ := rl.lt h2
    simp only [sqL, ho] at h
    cases o with
    | lst es =>
      cases h
      obtain ⟨u, h3, xs, rfl, h4⟩ := rl.ob n _ a ho h2
      exact ⟨a, xs, h1, h3, h4⟩
    | _ => cases h
  | _ => cases h
/-- + of all kinds -/
def rPlusA (K : PySem.W.Frag) : R2 := fun x y H Q => rPlus K x y H Q ∨ rCatA K x y H Q
theorem kplusA {X : Cx} (K : PySem.W.Frag) (hK : X.K = K := by rfl) : OpR X (binaryOp .Add) (rPlusA K) := by subst hK; exact op_plus.or op_catA
def plus (h : MH) : D → D → Option D
  | .int i, .int j => some (.int (i + j))
  | .str x, .str y => if x.length + y.length ≤ sizeLine then some (.str (x ++ y)) else .none
  | .tuple xs, .tuple ys => if xs.length + ys.length ≤ sizeLine then some (.tuple (xs ++ ys)) else .none
  | a, b => match sqL h a, sqL h b with
    | some xs, some ys => if xs.length + ys.length ≤ sizeLine then some (.list (xs ++ ys)) else .none
    | _, _ => .none
theorem new_tup {s : Ws} {p : Addr} {ds : List D} {vs : List V} (rl : Rl K T s) (hp : s.H p = Option.none) (hd : DrL K s ds vs) {Q : VK} (q : ∀ t v, t.h = s.h → Ev s t → Rl K T t → Dr K t (.tuple ds) v → Q v t.H) : Q (.ref p) (upd s.H p (.tup vs)) := by
  obtain ⟨ev, r⟩ := st_new rl hp (.tup vs)
  exact q { s with H := upd s.H p (.tup vs) } (.ref p) rfl ev r ⟨p, vs, rfl, SqT.of upd_same, hd.mono rl ev.toLt⟩
theorem new_lst {s : Ws} {p : Addr} {ds : List D} {vs : List V} (rl : Rl K T s) (hp : s.H p = Option.none) (hd : DrL K s ds vs) {Q : VK} (q : ∀ t v, t.h = s.h → Ev s t → Rl K T t → Dr K t (.list ds) v → Q v t.H) : Q (.ref p) (upd s.H p (.lst vs)) := by
  obtain ⟨ev, r, d⟩ := (nw_of rl hp hd).frozen
  exact q ⟨s.X, s.as, s.h, upd s.H p (.lst vs)⟩ (.ref p) rfl ev r d
theorem cat_lst {s : Ws} {a b : D} {x y : V} {xs ys : List D} (rl : Rl K T s) (ha : Dr K s a x) (hb : Dr K s b y) (h1 : sqL s.h a = some xs) (h2 : sqL s.h b = some ys) (hl : xs.length + ys.length ≤ sizeLine) {Q : VK} (q : ∀ p vs, s.H p = Option.none → DrL K s (xs ++ ys) vs → Q (.ref p) (upd s.H p (.lst vs))) : rPlusA K x y s.H Q := by
  obtain ⟨p1, us, rfl, g1, l1⟩ := sqL_at rl ha h1
  obtain ⟨p2, ws, rfl, g2, l2⟩ := sqL_at rl hb h2
  exact .inl (.inr (.inr (.inl ⟨p1, p2, us, ws, rfl, rfl, g1, g2, by rw [l1.length, l2.length]; exact hl, fun p hp => q p _ hp (l1.append l2)⟩)))
theorem kr_plus : KR K T E (rPlusA K) (fun a b => rd fun h => plus h a b) := kr_rd fun s a b x y d rl ha hb h Q q => by
  unfold plus at h
  split at h
  · cases h
    exact .inl (.inl ⟨_, _, ha, hb, q s _ rfl (.refl s) rl rfl⟩)
  · split at h
    · next hl =>
      cases h
      exact .inl (.inr (.inl ⟨_, _, ha, hb, hl, q s _ rfl (.refl s) rl rfl⟩))
    · cases h
  · next xs ys =>
    split at h
    · next hl =>
      cases h
      obtain ⟨p1, us, rfl, g1, l1⟩ := ha
      obtain ⟨p2, ws, rfl, g2, l2⟩ := hb
      refine .inr ⟨p1, p2, us, ws, rfl, rfl, g1, g2, by rw [l1.length, l2.length]; exact hl, fun z => ?_, fun _ z => ?_, fun _ _ p hp => new_tup rl hp (l1.append l2) q⟩
      · have : xs = [] := List.length_eq_zero_iff.mp (by rw [← l1.length, z]; rfl)
        subst this
        exact q s _ rfl (.refl s) rl ⟨p2, ws, rfl, g2, l2⟩
      · have : ys = [] := List.length_eq_zero_iff.mp (by rw [← l2.length, z]; rfl)
        subst this
        rw [List.append_nil] at q
        exact q s _ rfl (.refl s) rl ⟨p1, us, rfl, g1, l1⟩
    · cases h
  · split at h
    · next xs ys h1 h2 =>
      split at h
      · next hl =>
        cases h
        exact cat_lst rl ha hb h1 h2 hl fun p vs hp hd => new_lst rl hp hd q
      · cases h
    · cases h
/-- lists that come new -/
theorem sm_fr {φ : En → M (List D)} (h : SL K T E te φ) : SE K T E te (fun e => bnd (φ e) fun ds => ret (.list ds)) := fun s e σ r h' rl er eq Q po => by
  rcases bnd_some eq with ⟨a, h1', e1, e2⟩ | ⟨c, e1, rfl⟩
  · obtain ⟨rfl, rfl⟩ := ret_some e2
    refine h s e σ (.ok a) _ rl er e1 Q fun t p ht nw => ?_
    obtain ⟨ev, r, d⟩ := nw.frozen
    exact po { t with X := s.X } _ ht ev r d
  · exact h s e σ (.error c) h' rl er e1 Q po
theorem sm_th {φ : En → M (List D)} (h : SL K T E te φ) : SE K T E te (fun e => bnd (φ e) fun ds => newO (.lst ds)) := fun s e σ r h' rl er eq Q po => by
  rcases bnd_some eq with ⟨a, h1', e1, e2⟩ | ⟨c, e1, rfl⟩
  · cases e2
    refine h s e σ (.ok a) _ rl er e1 Q fun t p ht nw => ?_
    obtain ⟨ev, r, d⟩ := nw.thawed
    subst ht
    exact po ⟨s.X, t.as ++ [p], t.h ++ [.lst a], t.H⟩ _ rfl ev r d
  · exact h s e σ (.error c) h' rl er e1 Q po
/-- errors alone -/
def PoE (K : PySem.W.Frag) (T : List (Addr × Str)) (E : XK) {α : Type} (s : Ws) (r : Except Str α) (h' : MH) : Prop := ∀ c, r = .error c → ∀ t, t.h = h' → Ev s t → Rl K T t → E (.ref (He.ga K c)) Option.none t.H
theorem PoE.pre {α : Type} {s t : Ws} {h' : MH} {r : Except Str α} (p : PoE K T E s r h') (ev : Ev s t) : PoE K T E t r h' := fun c hc u e1 e2 e3 => p c hc u e1 (ev.trans e2) e3
theorem Sim.thnE {α β δ : Type} {s : Ws} {e : En} {σ : L2.St} {h' : MH} {Rv : Ws → α → β → Prop} {te : L2.St → Hp → (β → Hp → Prop) → Prop} {φ : En → M α} {f : α → M δ} {r : Except Str δ} {Q' : β → Hp → Prop} (h1 : Sim K T E Rv te φ) (rl : Rl K T s) (er : EnvR K s e σ) (eq : bnd (φ e) f s.h = some (r, h')) (po : PoE K T E s r h')
    (k : ∀ t d v, Ev s t → Rl K T t → EnvR K t e σ → Rv t d v → f d t.h = some (r, h') → PoE K T E t r h' → Q' v t.H) : te σ s.H Q' := by
  rcases bnd_some eq with ⟨a, h1', e1, e2⟩ | ⟨c, e1, rfl⟩
  · exact h1 s e σ (.ok a) h1' rl er e1 Q' fun t v ht ev rlt hv => k t a v ev rlt (er.mono rl ev.toLt) hv (by rw [ht]; exact e2) (po.pre ev)
  · exact h1 s e σ (.error c) h' rl er e1 Q' (po c rfl)
def PoL (K : PySem.W.Frag) (T : List (Addr × Str)) (s : Ws) (r : Except Str (List D)) (h' : MH) (Q : VK) : Prop := ∀ ds, r = .ok ds → ∀ t p, t.h = h' → Nw K T s t p ds → Q (.ref p) t.H
theorem PoL.pre {s t : Ws} {h' : MH} {r : Except Str (List D)} {Q : VK} (p : PoL K T s r h' Q) (ev : Ev s t) : PoL K T t r h' Q := fun ds hd u q e1 n => p ds hd u q e1 (n.pre ev)
theorem sl_mk {φ : En → M (List D)} (h : ∀ s e σ r h', Rl K T s → EnvR K s e σ → φ e s.h = some (r, h') → ∀ Q : VK, PoL K T s r h' Q → PoE K T E s r h' → te σ s.H Q) : SL K T E te φ := fun s e σ r h' rl er eq Q po => by
  refine h s e σ r h' rl er eq Q ?_ ?_
  · rintro ds rfl
    exact po
  · rintro c rfl
    exact po
theorem PoL.new {s : Ws} {p : Addr} {ds : List D} {vs : List V} {r : Except Str (List D)} {h' : MH} {Q : VK} (pl : PoL K T s r h' Q) (rl : Rl K T s) (hp : s.H p = Option.none) (hd : DrL K s ds vs) (eq : ret ds s.h = some (r, h')) : Q (.ref p) (upd s.H p (.lst vs)) := by
  obtain ⟨rfl, rfl⟩ := ret_some eq
  exact pl ds rfl ⟨p :: s.X, s.as, s.h, upd s.H p (.lst vs)⟩ p rfl (nw_of rl hp hd)
def ifM {α : Type} (c : Prop) [Decidable c] (m : M α) : M α := if c then m else opt .none
theorem ifM_some {α : Type} {c : Prop} [Decidable c] {m : M α} {h h' : MH} {r : Except Str α} (e : ifM c m h = some (r, h')) : c ∧ m h = some (r, h') := by
  unfold ifM at e
  split at e
  · exact ⟨by assumption, e⟩
  · obtain ⟨_, z, _⟩ := opt_some e
    cases z
theorem sl_lst {tr : TA} {φr : En → M (List D)} (ha : SA K T E tr φr) : SL K T E (tLst tr) (fun e => bnd (φr e) fun ds => ifM (ds.length ≤ sizeLine) (ret ds)) := sl_mk fun s e σ r h' rl er eq Q pl pe =>
  ha.thnE rl er eq pe fun t ds vs ev rlt ert hv eq2 _ => by
    obtain ⟨hl, eq2⟩ := ifM_some eq2
    exact ⟨by rw [hv.length]; exact hl, fun p hp => (pl.pre ev).new rlt hp hv eq2⟩
theorem sm_tup {tr : TA} {φr : En → M (List D)} (ha : SA K T E tr φr) : SE K T E (tTup tr) (fun e => bnd (φr e) fun ds => ifM (ds.length ≤ sizeLine) (ret (.tuple ds))) := fun s e σ r h' rl er eq Q po =>
  ha.thn rl er eq po fun t ds vs ev rlt ert hv eq2 po2 => by
    obtain ⟨hl, eq2⟩ := ifM_some eq2
    obtain ⟨rfl, rfl⟩ := ret_some eq2
    exact ⟨by rw [hv.length]; exact hl, fun p hp => new_tup rlt hp hv po2⟩
theorem sl_cat (ha : SE K T E ta φa) (hb : SE K T E tb φb) : SL K T E (tOp (rPlusA K) ta tb) (fun e => bnd (φa e) fun a => bnd (φb e) fun b => bnd (rd fun h => sqL h a) fun xs => bnd (rd fun h => sqL h b) fun ys => ifM (xs.length + ys.length ≤ sizeLine) (ret (xs ++ ys))) := sl_mk fun s e σ r h' rl er eq Q pl pe =>
  ha.thnE rl er eq pe fun t a x ev rlt ert hx eq2 pe2 => hb.thnE rlt ert eq2 pe2 fun u b y ev2 rlu eru hy eq3 pe3 => by
    rcases bnd_some eq3 with ⟨xs, h1, e1, e2⟩ | ⟨c, e1, _⟩
    · obtain ⟨_, f1, z, rfl⟩ := rd_some e1
      cases z
      rcases bnd_some e2 with ⟨ys, h1, e1, e2⟩ | ⟨c, e1, _⟩
      · obtain ⟨_, f2, z, rfl⟩ := rd_some e1
        cases z
        obtain ⟨hl, e2⟩ := ifM_some e2
        exact cat_lst rlu (hx.mono rlt ev2.toLt) hy f1 f2 hl fun p vs hp hd => ((pl.pre ev).pre ev2).new rlu hp hd e2
      · obtain ⟨_, _, z, _⟩ := rd_some e1
        cases z
    · obtain ⟨_, _, z, _⟩ := rd_some e1
      cases z
/-! * -/
def times (h : MH) : D → D → Option D
  | .int i, .int j => if i.natAbs.log2 + j.natAbs.log2 < 1000000 then some (.int (i * j)) else .none
  | .str x, .int k => .none
  | a, .int k => match sqL h a with
    | some xs => if k < 2 ^ 62 ∧ -(2 ^ 62) < k ∧ xs.length * k.toNat ≤ sizeLine then some (.list (List.replicate k.toNat xs).flatten) else .none
    | .none => .none
  | _, _ => .none
theorem rep_lst {s : Ws} {a : D} {x : V} {xs : List D} {k : Int} (rl : Rl K T s) (ha : Dr K s a x) (h1 : sqL s.h a = some xs) (hk : k < 2 ^ 62 ∧ -(2 ^ 62) < k ∧ xs.length * k.toNat ≤ sizeLine) {Q : VK} (q : ∀ p vs, s.H p = Option.none → DrL K s (List.replicate k.toNat xs).flatten vs → Q (.ref p) (upd s.H p (.lst vs))) : rTimes K x (.int k) s.H Q := by
  obtain ⟨p1, us, rfl, g1, l1⟩ := sqL_at rl ha h1
  exact .inr (.inr (.inl ⟨p1, k, us, rfl, rfl, g1, by omega, by omega, by rw [l1.length]; exact hk.2.2, fun p hp => q p _ hp (l1.rep _)⟩))
theorem kr_times : KR K T E (rTimes K) (fun a b => rd fun h => times h a b) := kr_rd fun s a b x y d rl ha hb h Q q => by
  unfold times at h
  split at h
  · split at h
    · next hl =>
      cases h
      exact .inr (.inl ⟨_, _, ha, hb, hl, q s _ rfl (.refl s) rl rfl⟩)
    · cases h
  · cases h
  · next k _ _ =>
    have hb : y = .int k := hb
    subst hb
    split at h
    · next xs h1 =>
      split at h
      · next hl =>
        cases h
        exact rep_lst rl ha h1 hl fun p vs hp hd => new_lst rl hp hd q
      · cases h
    · cases h
  · cases h
theorem sl_rep (ha : SE K T E ta φa) (hb : SE K T E tb φb) : SL K T E (tOp (rTimes K) ta tb) (fun e => bnd (φa e) fun a => bnd (φb e) fun b => bnd (rd fun h => sqL h a) fun xs => match b with
    | .int k => ifM (k < 2 ^ 62 ∧ -(2 ^ 62) < k ∧ xs.length * k.toNat ≤ sizeLine) (ret (List.replicate k.toNat xs).flatten)
    | _ => opt .none) := sl_mk fun s e σ r h' rl er eq Q pl pe =>
  ha.thnE rl er eq pe fun t a x ev rlt ert hx eq2 pe2 => hb.thnE rlt ert eq2 pe2 fun u b y ev2 rlu eru hy eq3 pe3 => by
    rcases bnd_some eq3 with ⟨xs, h1, e1, e2⟩ | ⟨c, e1, _⟩
    · obtain ⟨_, f1, z, rfl⟩ := rd_some e1
      cases z
      split at e2
      · next k =>
        have hy : y = .int k := hy
        subst hy
        obtain ⟨hl, e2⟩ := ifM_some e2
        exact rep_lst rlu (hx.mono rlt ev2.toLt) f1 hl fun p vs hp hd => ((pl.pre ev).pre ev2).new rlu hp hd e2
      · obtain ⟨_, z, _⟩ := opt_some e2
        cases z
    · obtain ⟨_, _, z, _⟩ := rd_some e1
      cases z
/-! numbers -/
def i2 (f : Int → Int → Option D) (_ : MH) : D → D → Option D
  | .int i, .int j => f i j
  | _, _ => .none
theorem kr_i2 {r : R2} {f : Int → Int → Option D} (h : ∀ i j d, f i j = some d → ∃ v, sclD d = some v ∧ ∀ H (Q : VK), Q v H → r (.int i) (.int j) H Q) : KR K T E r (fun a b => rd fun h => i2 f h a b) := kr_rd fun s a b x y d rl ha hb e Q q => by
  unfold i2 at e
  split at e
  · next i j =>
    have ha : x = .int i := ha
    have hb : y = .int j := hb
    subst ha hb
    obtain ⟨v, h1, h2⟩ := h i j d e
    refine h2 s.H Q (q s v rfl (.refl s) rl ?_)
    cases d <;> cases h1 <;> rfl
  · cases e
end
end Sc

namespace Sc
open PySem PySem.Spec PyProof.Rows L2
/-! ### data as PyData -/
mutual
def py0 : D → Option PyData
  | .none => some .none
  | .bool b => some (.bool b)
  | .int i => some (.int i)
  | .str x => some (.str x)
  | .list ds => (py0L ds).map .list
  | .tuple ds => (py0L ds).map .tuple
  | .ref _ => .none
  | .scr ns => some (.list (ns.map .int))
def py0L : List D → Option (List PyData)
  | [] => some []
  | d :: ds => (py0 d).bind fun p => (py0L ds).map fun ps => p :: ps
end
mutual
def py1 (h : MH) : D → Option PyData
  | .none => some .none
  | .bool b => some (.bool b)
  | .int i => some (.int i)
  | .str x => some (.str x)
  | .list ds => (py1L h ds).map .list
  | .tuple ds => (py1L h ds).map .tuple
  | .ref n => match h[n]? with | some (.lst ds) => (py0L ds).map .list | _ => .none
  | .scr ns => some (.list (ns.map .int))
def py1L (h : MH) : List D → Option (List PyData)
  | [] => some []
  | d :: ds => (py1 h d).bind fun p => (py1L h ds).map fun ps => p :: ps
end
section
variable {K : PySem.W.Frag} {T : List (Addr × Str)} {s : Ws}
theorem dp_ints {H : Hp} : ∀ (ns : List Int), DpAll K H (ns.map V.int) (ns.map PyData.int)
  | [] => .nil
  | n :: ns => .cons (.int n) (dp_ints ns)
theorem scr_sq {ns : List Int} {x : V} (h : Dr K s (.scr ns) x) : ∃ a, x = .ref a ∧ SqL K s.H a (ns.map V.int) := by
  obtain ⟨a, h1, h2⟩ := h
  rcases h2 with ⟨h2, _⟩ | h2
  · exact ⟨a, h1, .inl h2⟩
  · exact ⟨a, h1, h2 _⟩
mutual
theorem py0_dp : ∀ {d : D} {x : V} {p : PyData}, Dr K s d x → py0 d = some p → Dp K s.H x p
  | .none, _, _, h, e => by cases h; cases e; exact .non
  | .bool _, _, _, h, e => by cases h; cases e; exact .bl _
  | .int _, _, _, h, e => by cases h; cases e; exact .int _
  | .str _, _, _, h, e => by cases h; cases e; exact .str _
  | .list ds, _, _, h, e => by
    obtain ⟨a, xs, rfl, h2, _, h4⟩ := h
    obtain ⟨ps, e1, rfl⟩ := Option.map_eq_some_iff.mp e
    exact .lst (SqL.of h2) (py0_dpL h4 e1)
  | .tuple ds, _, _, h, e => by
    obtain ⟨a, xs, rfl, h2, h4⟩ := h
    obtain ⟨ps, e1, rfl⟩ := Option.map_eq_some_iff.mp e
    exact .tup h2 (py0_dpL h4 e1)
  | .ref _, _, _, _, e => by cases e
  | .scr ns, _, _, h, e => by
    cases e
    obtain ⟨a, rfl, h2⟩ := scr_sq h
    exact .lst h2 (dp_ints ns)
theorem py0_dpL : ∀ {ds : List D} {xs : List V} {ps : List PyData}, DrL K s ds xs → py0L ds = some ps → DpAll K s.H xs ps
  | [], _, _, h, e => by cases h; cases e; exact .nil
  | d :: ds, _, _, h, e => by
    obtain ⟨w, r, rfl, h2, h3⟩ := h
    obtain ⟨p, e1, e2⟩ := Option.bind_eq_some_iff.mp e
    obtain ⟨ps, e3, rfl⟩ := Option.map_eq_some_iff.mp e2
    exact .cons (py0_dp h2 e1) (py0_dpL h3 e3)
end
mutual
theorem py1_dp (rl : Rl K T s) : ∀ {d : D} {x : V} {p : PyData}, Dr K s d x → py1 s.h d = some p → Dp K s.H x p
  | .none, _, _, h, e => by cases h; cases e; exact .non
  | .bool _, _, _, h, e => by cases h; cases e; exact .bl _
  | .int _, _, _, h, e => by cases h; cases e; exact .int _
  | .str _, _, _, h, e => by cases h; cases e; exact .str _
  | .list ds, _, _, h, e => by
    obtain ⟨a, xs, rfl, h2, _, h4⟩ := h
    obtain ⟨ps, e1, rfl⟩ := Option.map_eq_some_iff.mp e
    exact .lst (SqL.of h2) (py1_dpL rl h4 e1)
  | .tuple ds, _, _, h, e => by
    obtain ⟨a, xs, rfl, h2, h4⟩ := h
    obtain ⟨ps, e1, rfl⟩ := Option.map_eq_some_iff.mp e
    exact .tup h2 (py1_dpL rl h4 e1)
  | .ref n, _, _, h, e => by
    obtain ⟨a, rfl, h2⟩ := h
    have e : (match s.h[n]? with | some (.lst ds) => (py0L ds).map PyData.list | _ => Option.none) = some _ := e
    split at e
    · next ds ho =>
      obtain ⟨ps, e1, rfl⟩ := Option.map_eq_some_iff.mp e
      obtain ⟨u, h3, xs, rfl, h4⟩ := rl.ob n _ a ho h2
      exact .lst (SqL.of h3) (py0_dpL h4 e1)
    · cases e
  | .scr ns, _, _, h, e => by
    cases e
    obtain ⟨a, rfl, h2⟩ := scr_sq h
    exact .lst h2 (dp_ints ns)
theorem py1_dpL (rl : Rl K T s) : ∀ {ds : List D} {xs : List V} {ps : List PyData}, DrL K s ds xs → py1L s.h ds = some ps → DpAll K s.H xs ps
  | [], _, _, h, e => by cases h; cases e; exact .nil
  | d :: ds, _, _, h, e => by
    obtain ⟨w, r, rfl, h2, h3⟩ := h
    obtain ⟨p, e1, e2⟩ := Option.bind_eq_some_iff.mp e
    obtain ⟨ps, e3, rfl⟩ := Option.map_eq_some_iff.mp e2
    exact .cons (py1_dp rl h2 e1) (py1_dpL rl h3 e3)
end
end
/-! ### = -/
def deq (h : MH) : D → D → Option Bool
  | .int i, .int j => some (decide (i = j))
  | .str x, .str y => some (decide (x = y))
  | .bool x, .bool y => some (decide (x = y))
  | a, b => match py1 h a, py1 h b with
    | some p, some q => if SeqAt.shaped p = true ∧ SeqAt.shaped q = true then some (PyData.eqv p q) else .none
    | _, _ => .none
section
variable {K : PySem.W.Frag} {T : List (Addr × Str)} {E : XK} {ta tb tc te : TE} {φ φa φb φc : En → M D}
theorem deq_eq {s : Ws} {a b : D} {x y : V} {k : Bool} (rl : Rl K T s) (ha : Dr K s a x) (hb : Dr K s b y) (h : deq s.h a b = some k) {Q : VK} (q : Q (.bl k) s.H) : rEqA K x y s.H Q := by
  unfold deq at h
  split at h
  · next i j =>
    have ha : x = .int i := ha
    have hb : y = .int j := hb
    subst ha hb
    cases h
    refine .inl ⟨rfl, ?_⟩
    show Q (.bl (decide (V.int i = V.int j))) s.H
    rw [dec_int, Bool.beq_eq_decide_eq]
    exact q
  · next i j =>
    have ha : x = .str i := ha
    have hb : y = .str j := hb
    subst ha hb
    cases h
    refine .inl ⟨rfl, ?_⟩
    show Q (.bl (decide (V.str i = V.str j))) s.H
    rw [dec_str, Bool.beq_eq_decide_eq]
    exact q
  · next i j =>
    have ha : x = .bl i := ha
    have hb : y = .bl j := hb
    subst ha hb
    cases h
    refine .inl ⟨rfl, ?_⟩
    have e : decide (V.bl i = V.bl j) = decide (i = j) := by
      rw [decide_eq_decide]
      exact ⟨fun z => V.bl.inj z, fun z => by rw [z]⟩
    rw [e]
    exact q
  · split at h
    · next p r h1 h2 =>
      split at h
      · next hs =>
        cases h
        exact .inr ⟨p, r, py1_dp rl ha h1, py1_dp rl hb h2, hs.1, hs.2, q⟩
      · cases h
    · cases h
theorem deq_ne {s : Ws} {a b : D} {x y : V} {k : Bool} (rl : Rl K T s) (ha : Dr K s a x) (hb : Dr K s b y) (h : deq s.h a b = some k) {Q : VK} (q : Q (.bl (!k)) s.H) : rNeA K x y s.H Q := by
  unfold deq at h
  split at h
  · next i j =>
    have ha : x = .int i := ha
    have hb : y = .int j := hb
    subst ha hb
    cases h
    refine .inl ⟨rfl, ?_⟩
    show Q (.bl (!decide (V.int i = V.int j))) s.H
    rw [dec_int, Bool.beq_eq_decide_eq]
    exact q
  · next i j =>
    have ha : x = .str i := ha
    have hb : y = .str j := hb
    subst ha hb
    cases h
    refine .inl ⟨rfl, ?_⟩
    show Q (.bl (!decide (V.str i = V.str j))) s.H
    rw [dec_str, Bool.beq_eq_decide_eq]
    exact q
  · next i j =>
    have ha : x = .bl i := ha
    have hb : y = .bl j := hb
    subst ha hb
    cases h
    refine .inl ⟨rfl, ?_⟩
    have e : decide (V.bl i = V.bl j) = decide (i = j) := by
      rw [decide_eq_decide]
      exact ⟨fun z => V.bl.inj z, fun z => by rw [z]⟩
    rw [e]
    exact q
  · split at h
    · next p r h1 h2 =>
      split at h
      · next hs =>
        cases h
        exact .inr ⟨p, r, py1_dp rl ha h1, py1_dp rl hb h2, hs.1, hs.2, q⟩
      · cases h
    · cases h
theorem kr_eq : KR K T E (rEqA K) (fun a b => rd fun h => (deq h a b).map .bool) := kr_rd fun s a b x y d rl ha hb h Q q => by
  obtain ⟨k, h1, rfl⟩ := Option.map_eq_some_iff.mp h
  exact deq_eq rl ha hb h1 (q s _ rfl (.refl s) rl rfl)
theorem kr_ne : KR K T E (rNeA K) (fun a b => rd fun h => (deq h a b).map fun k => .bool (!k)) := kr_rd fun s a b x y d rl ha hb h Q q => by
  obtain ⟨k, h1, rfl⟩ := Option.map_eq_some_iff.mp h
  exact deq_ne rl ha hb h1 (q s _ rfl (.refl s) rl rfl)
/-! ### numbers -/
theorem kr_sub : KR K T E (rI0 fun i j => V.int (i - j)) (fun a b => rd fun h => i2 (fun i j => some (.int (i - j))) h a b) := kr_i2 fun i j d e => by
  cases e; exact ⟨_, rfl, fun H Q q => ⟨i, j, rfl, rfl, q⟩⟩
theorem kr_mod : KR K T E (rI (fun _ j => 0 < j) fun i j => V.int (i % j)) (fun a b => rd fun h => i2 (fun i j => if 0 < j then some (.int (i % j)) else .none) h a b) := kr_i2 fun i j d e => by
  split at e
  · cases e; exact ⟨_, rfl, fun H Q q => ⟨i, j, rfl, rfl, by assumption, q⟩⟩
  · cases e
theorem kr_div : KR K T E (rI CDivW fun i j => V.int (i / j)) (fun a b => rd fun h => i2 (fun i j => if 0 < j ∧ j.natAbs.log2 < 9000 then some (.int (i / j)) else .none) h a b) := kr_i2 fun i j d e => by
  split at e
  · cases e; exact ⟨_, rfl, fun H Q q => ⟨i, j, rfl, rfl, by assumption, q⟩⟩
  · cases e
theorem kr_lt : KR K T E (rI0 fun i j => V.bl (decide (i < j))) (fun a b => rd fun h => i2 (fun i j => some (.bool (decide (i < j)))) h a b) := kr_i2 fun i j d e => by
  cases e; exact ⟨_, rfl, fun H Q q => ⟨i, j, rfl, rfl, q⟩⟩
theorem kr_gt : KR K T E (rI0 fun i j => V.bl (decide (j < i))) (fun a b => rd fun h => i2 (fun i j => some (.bool (decide (j < i)))) h a b) := kr_i2 fun i j d e => by
  cases e; exact ⟨_, rfl, fun H Q q => ⟨i, j, rfl, rfl, q⟩⟩
theorem kr_ge : KR K T E (rI0 fun i j => V.bl (decide (j ≤ i))) (fun a b => rd fun h => i2 (fun i j => some (.bool (decide (j ≤ i)))) h a b) := kr_i2 fun i j d e => by
  cases e; exact ⟨_, rfl, fun H Q q => ⟨i, j, rfl, rfl, q⟩⟩
theorem kr_le : KR K T E rLeq (fun a b => rd fun h => i2 (fun i j => some (.bool (decide (i ≤ j)))) h a b) := kr_i2 fun i j d e => by
  cases e; exact ⟨_, rfl, fun H Q q => .inl ⟨i, j, rfl, rfl, q⟩⟩
theorem sm_neg (ha : SE K T E ta φa) : SE K T E (tUn (rU fun i => V.int (-i)) ta) (fun e => bnd (φa e) fun a => opt (match a with | .int i => some (.int (-i)) | _ => .none)) := sm_un (fun s a x res h' rl hx eq Q po => by
  obtain ⟨d, h1, rfl, rfl⟩ := opt_some eq
  split at h1
  · cases h1
    exact ⟨_, hx, po s _ rfl (.refl s) rl rfl⟩
  · cases h1) ha
/-! ### tests -/
def asB : D → M Bool
  | .bool b => ret b
  | _ => opt .none
theorem asB_some {d : D} {h h' : MH} {r : Except Str Bool} (e : asB d h = some (r, h')) : ∃ b, d = .bool b ∧ r = .ok b ∧ h' = h := by
  cases d with
  | bool b => obtain ⟨rfl, rfl⟩ := ret_some e; exact ⟨b, rfl, rfl, rfl⟩
  | _ => simp [asB, opt] at e
theorem st_test (ha : SE K T E ta φa) : ST K T E (tTest ta) (fun e => bnd (φa e) asB) := fun s e σ r h' rl er eq Q po =>
  ha.thn rl er eq po fun t d v ev rlt ert hv eq2 po2 => by
    obtain ⟨b, rfl, rfl, rfl⟩ := asB_some eq2
    exact ⟨b, hv, po2 t b rfl (.refl t) rlt rfl⟩
theorem st_B (ha : SE K T E ta φa) : ST K T E (tB ta) (fun e => bnd (φa e) asB) := st_test ha
variable {tt tu : TT} {θ θ' : En → M Bool}
theorem st_and (h1 : ST K T E tt θ) (h2 : ST K T E tu θ') : ST K T E (tAnd tt tu) (fun e => bnd (θ e) fun a => if a = true then θ' e else ret false) := fun s e σ r h' rl er eq Q po =>
  h1.thn rl er eq po fun t d v ev rlt ert hv eq2 po2 => by
    subst hv
    cases d with
    | true => exact h2 t e σ _ _ rlt ert eq2 Q po2
    | false => exact po_ret (Rv := fun _ (a b : Bool) => a = b) rlt rfl eq2 po2
theorem st_or (h1 : ST K T E tt θ) (h2 : ST K T E tu θ') : ST K T E (tOr tt tu) (fun e => bnd (θ e) fun a => if a = true then ret true else θ' e) := fun s e σ r h' rl er eq Q po =>
  h1.thn rl er eq po fun t d v ev rlt ert hv eq2 po2 => by
    subst hv
    cases d with
    | false => exact h2 t e σ _ _ rlt ert eq2 Q po2
    | true => exact po_ret (Rv := fun _ (a b : Bool) => a = b) rlt rfl eq2 po2
theorem st_not (h1 : ST K T E tt θ) : ST K T E (tNot tt) (fun e => bnd (θ e) fun a => ret (!a)) := fun s e σ r h' rl er eq Q po =>
  h1.thn rl er eq po fun t d v ev rlt ert hv eq2 po2 => by
    subst hv
    exact po_ret (Rv := fun _ (a b : Bool) => a = b) rlt rfl eq2 po2
theorem st_yes : ST K T E tYes (fun _ => ret true) := fun s e σ r h' rl er eq Q po => po_ret (Rv := fun _ (a b : Bool) => a = b) rl rfl eq po
theorem sm_and (h1 : SE K T E ta φa) (h2 : SE K T E tb φb) : SE K T E (tAndV ta tb) (fun e => bnd (bnd (φa e) asB) fun a => if a = true then φb e else ret (.bool false)) := fun s e σ r h' rl er eq Q po =>
  (st_test h1).thn (te := tTest ta) rl er eq po fun t d v ev rlt ert hv eq2 po2 => by
    subst hv
    cases d with
    | true => exact h2 t e σ _ _ rlt ert eq2 Q po2
    | false => exact po_ret (Rv := Dr K) (a := .bool false) rlt rfl eq2 po2
theorem sm_or (h1 : SE K T E ta φa) (h2 : SE K T E tb φb) : SE K T E (tOrV ta tb) (fun e => bnd (bnd (φa e) asB) fun a => if a = true then ret (.bool true) else φb e) := fun s e σ r h' rl er eq Q po =>
  (st_test h1).thn (te := tTest ta) rl er eq po fun t d v ev rlt ert hv eq2 po2 => by
    subst hv
    cases d with
    | false => exact h2 t e σ _ _ rlt ert eq2 Q po2
    | true => exact po_ret (Rv := Dr K) (a := .bool true) rlt rfl eq2 po2
theorem sm_not (h1 : SE K T E ta φa) : SE K T E (tNotV ta) (fun e => bnd (bnd (φa e) asB) fun a => ret (.bool (!a))) := fun s e σ r h' rl er eq Q po =>
  (st_test h1).thn (te := tTest ta) rl er eq po fun t d v ev rlt ert hv eq2 po2 => by
    subst hv
    exact po_ret (Rv := Dr K) (a := .bool (!d)) rlt rfl eq2 po2
theorem sm_if (h : ST K T E tt θ) (h1 : SE K T E ta φa) (h2 : SE K T E tb φb) : SE K T E (tIf tt ta tb) (fun e => bnd (θ e) fun a => if a = true then φa e else φb e) := fun s e σ r h' rl er eq Q po =>
  h.thn rl er eq po fun t d v ev rlt ert hv eq2 po2 => by
    subst hv
    cases d with
    | true => exact h1 t e σ _ _ rlt ert eq2 Q po2
    | false => exact h2 t e σ _ _ rlt ert eq2 Q po2
def isN : D → Bool
  | .none => true
  | _ => false
theorem isN_v {s : Ws} {d : D} {x : V} (h : Dr K s d x) : decide (x = .non) = isN d := by
  cases d with
  | none => cases h; rfl
  | bool b => cases h; rfl
  | int b => cases h; rfl
  | str b => cases h; rfl
  | list ds => obtain ⟨a, xs, rfl, _⟩ := h; rfl
  | tuple ds => obtain ⟨a, xs, rfl, _⟩ := h; rfl
  | ref n => obtain ⟨a, rfl, _⟩ := h; rfl
  | scr n => obtain ⟨a, rfl, _⟩ := h; rfl
theorem sm_isN (h : SE K T E ta φa) : SE K T E (tIsN ta) (fun e => bnd (φa e) fun d => ret (.bool (isN d))) := fun s e σ r h' rl er eq Q po =>
  h.thn rl er eq po fun t d v ev rlt ert hv eq2 po2 => by
    rw [isN_v hv]
    exact po_ret (Rv := Dr K) (a := .bool (isN d)) rlt rfl eq2 po2
theorem sm_notN (h : SE K T E ta φa) : SE K T E (tNotN ta) (fun e => bnd (φa e) fun d => ret (.bool (!isN d))) := fun s e σ r h' rl er eq Q po =>
  h.thn rl er eq po fun t d v ev rlt ert hv eq2 po2 => by
    rw [isN_v hv]
    exact po_ret (Rv := Dr K) (a := .bool (!isN d)) rlt rfl eq2 po2
theorem sm_chain {r r' : R2} {ψ ψ' : D → D → M D} (hr : KR K T E r ψ) (hr' : KR K T E r' ψ') (ha : SE K T E ta φa) (hb : SE K T E tb φb) (hc : SE K T E tc φc) :
    SE K T E (tChain r r' ta tb tc) (fun e => bnd (φa e) fun a => bnd (φb e) fun b => bnd (bnd (ψ a b) asB) fun k => if k = true then bnd (φc e) fun c => ψ' b c else ret (.bool false)) := fun s e σ res h' rl er eq Q po =>
  ha.thn rl er eq po fun t a x ev rlt ert hx eq2 po2 => hb.thn rlt ert eq2 po2 fun u b y ev2 rlu eru hy eq3 po3 => by
    have hx := hx.mono rlt ev2.toLt
    have hk : Sim K T E (fun _ (a b : Bool) => a = b) (fun (_ : L2.St) H Q => r x y H fun z H3 => ∃ k, z = .bl k ∧ Q k H3) (fun _ => bnd (ψ a b) asB) → True := fun _ => trivial
    rcases bnd_some eq3 with ⟨k, h1, e1, e2⟩ | ⟨c, e1, rfl⟩
    · rcases bnd_some e1 with ⟨d, h2, e3, e4⟩ | ⟨c, _, z⟩
      · refine hr u a b x y (.ok d) h2 rlu hx hy e3 _ fun w z hw ew rlw hz => ?_
        subst hw
        obtain ⟨k', rfl, z2, rfl⟩ := asB_some e4
        cases z2
        refine ⟨k, hz, ?_⟩
        cases k with
        | true => exact hc.thn rlw (eru.mono rlu ew.toLt) e2 (po3.pre ew) fun v c z ev3 rlv erv hz2 eq4 po4 => hr' v b c y z _ _ rlv ((hy.mono rlu ew.toLt).mono rlw ev3.toLt) hz2 eq4 Q po4
        | false => exact po_ret (Rv := Dr K) (a := .bool false) rlw rfl e2 (po3.pre ew)
      · cases z
    · rcases bnd_some e1 with ⟨d, h2, e3, e4⟩ | ⟨c, e3, z⟩
      · obtain ⟨k', rfl, z2, rfl⟩ := asB_some e4
        cases z2
      · cases z
        exact hr u a b x y (.error _) _ rlu hx hy e3 _ po3
end
end Sc

namespace Sc
open PySem PySem.Spec PyProof.Rows L2
section
variable {K : PySem.W.Frag} {T : List (Addr × Str)} {E : XK} {ta tb tc te : TE} {φ φa φb φc : En → M D}
/-! ### sequences: items by kind -/
inductive Sq where
  | l (ds : List D) | t (ds : List D) | s (x : Str)
def sq (h : MH) : D → Option Sq
  | .str x => some (.s x)
  | .tuple ds => some (.t ds)
  | .scr ns => some (.l (ns.map .int))
  | d => (sqL h d).map .l
theorem sq_l {s : Ws} {d : D} {x : V} {ds : List D} (rl : Rl K T s) (hd : Dr K s d x) (h : sq s.h d = some (.l ds)) : ∃ a xs, x = .ref a ∧ SqL K s.H a xs ∧ DrL K s ds xs := by
  unfold sq at h
  split at h
  · cases h
  · cases h
  · cases h
    obtain ⟨a, h1, h2⟩ := scr_sq hd
    exact ⟨a, _, h1, h2, DrL.of1 (f := D.int) (g := V.int) (fun _ => rfl) _⟩
  · obtain ⟨ds', h1, h2⟩ := Option.map_eq_some_iff.mp h
    cases h2
    obtain ⟨a, xs, e1, e2, e3⟩ := sqL_at rl hd h1
    exact ⟨a, xs, e1, SqL.of e2, e3⟩
theorem sq_t {s : Ws} {d : D} {x : V} {ds : List D} (hd : Dr K s d x) (h : sq s.h d = some (.t ds)) : ∃ a xs, x = .ref a ∧ SqT K s.H a xs ∧ DrL K s ds xs := by
  unfold sq at h
  split at h
  · cases h
  · cases h; exact hd
  · cases h
  · obtain ⟨ds', h1, h2⟩ := Option.map_eq_some_iff.mp h
    cases h2
theorem sq_s {s : Ws} {d : D} {x : V} {z : Str} (hd : Dr K s d x) (h : sq s.h d = some (.s z)) : x = .str z := by
  unfold sq at h
  split at h
  · cases h; exact hd
  · cases h
  · cases h
  · obtain ⟨ds', h1, h2⟩ := Option.map_eq_some_iff.mp h
    cases h2
/-! ### index -/
def ixQ (i : Int) : Sq → Option D
  | .l ds => atI ds i
  | .t ds => atI ds i
  | .s x => if x.length ≤ sizeLine then (atI x.cps.toList i).map fun c => .str ⟨#[c]⟩ else .none
def ixM (h : MH) (a : D) : D → Option D
  | .int i => (sq h a).bind (ixQ i)
  | _ => .none
theorem atI_get {ds : List D} {xs : List V} {s : Ws} {i : Int} {d : D} (l : DrL K s ds xs) (h : atI ds i = some d) : ∃ v, atI xs i = some v ∧ Dr K s d v := by
  unfold atI at h ⊢
  cases e : ixN ds.length i with
  | none => rw [e] at h; cases h
  | some j =>
    rw [e] at h
    obtain ⟨v, h1, h2⟩ := l.get (show ds[j]? = some d from h)
    exact ⟨v, by rw [l.length, e]; exact h1, h2⟩
theorem kr_ix : KR K T E (rIx K) (fun a b => rd fun h => ixM h a b) := kr_rd fun s a b x y d rl ha hb h Q q => by
  unfold ixM at h
  split at h
  · next i =>
    have hb : y = .int i := hb
    subst hb
    obtain ⟨w, h1, h2⟩ := Option.bind_eq_some_iff.mp h
    cases w with
    | l ds =>
      obtain ⟨p, xs, rfl, e2, e3⟩ := sq_l rl ha h1
      obtain ⟨v, g1, g2⟩ := atI_get e3 h2
      exact .inl ⟨p, xs, i, v, rfl, rfl, e2, g1, q s v rfl (.refl s) rl g2⟩
    | t ds =>
      obtain ⟨p, xs, rfl, e2, e3⟩ := sq_t ha h1
      obtain ⟨v, g1, g2⟩ := atI_get e3 h2
      exact .inr (.inl ⟨p, xs, i, v, rfl, rfl, e2, g1, q s v rfl (.refl s) rl g2⟩)
    | s z =>
      have e := sq_s ha h1
      subst e
      unfold ixQ at h2
      simp only at h2
      split at h2
      · next hl =>
        obtain ⟨c, g1, rfl⟩ := Option.map_eq_some_iff.mp h2
        exact .inr (.inr ⟨z, i, c, rfl, rfl, hl, g1, q s _ rfl (.refl s) rl rfl⟩)
      · cases h2
  · cases h
/-! ### len -/
def lenQ : Sq → Option D
  | .l ds => some (.int ds.length)
  | .t ds => some (.int ds.length)
  | .s x => if x.length ≤ sizeLine then some (.int x.length) else .none
def lenM (h : MH) : List D → Option D
  | [d] => (sq h d).bind lenQ
  | _ => .none
theorem drl1 {s : Ws} {d : D} {vs : List V} (h : DrL K s [d] vs) : ∃ v, vs = [v] ∧ Dr K s d v := by
  obtain ⟨w, r, h1, h2, h3⟩ := h
  exact ⟨w, by rw [h1, show r = [] from h3], h2⟩
theorem drl2 {s : Ws} {d d2 : D} {vs : List V} (h : DrL K s [d, d2] vs) : ∃ v u, vs = [v, u] ∧ Dr K s d v ∧ Dr K s d2 u := by
  obtain ⟨w, r, h1, h2, h3⟩ := h
  obtain ⟨u, e, h4⟩ := drl1 h3
  exact ⟨w, u, by rw [h1, e], h2, h4⟩
theorem kc_len : KC K T E (rLn K) (fun ds => rd fun h => lenM h ds) := kc_rd fun s ds xs d rl hx h Q q => by
  unfold lenM at h
  split at h
  · next a =>
    obtain ⟨v, rfl, hv⟩ := drl1 hx
    obtain ⟨w, h1, h2⟩ := Option.bind_eq_some_iff.mp h
    cases w with
    | l ds =>
      cases h2
      obtain ⟨p, xs, rfl, e2, e3⟩ := sq_l rl hv h1
      exact ⟨_, xs.length, rfl, .inl ⟨xs, e2, rfl⟩, q s _ rfl (.refl s) rl (by rw [e3.length]; rfl)⟩
    | t ds =>
      cases h2
      obtain ⟨p, xs, rfl, e2, e3⟩ := sq_t hv h1
      exact ⟨_, xs.length, rfl, .inr ⟨xs, e2, rfl⟩, q s _ rfl (.refl s) rl (by rw [e3.length]; rfl)⟩
    | s z =>
      have e := sq_s hv h1
      subst e
      unfold lenQ at h2
      simp only at h2
      split at h2
      · next hl =>
        cases h2
        exact ⟨_, z.length, rfl, ⟨hl, rfl⟩, q s _ rfl (.refl s) rl rfl⟩
      · cases h2
  · cases h
/-! ### slices -/
theorem so_none : SO K T E tNoPart (fun _ => ret .none) := fun s e σ r h' rl er eq Q po => po_ret (Rv := fun _ (a b : Option Int) => a = b) rl rfl eq po
def asI : D → M (Option Int)
  | .int i => ret (some i)
  | _ => opt .none
theorem so_some (h : SE K T E te φ) : SO K T E (tPart te) (fun e => bnd (φ e) asI) := fun s e σ r h' rl er eq Q po =>
  h.thn rl er eq po fun t d v ev rlt ert hv eq2 po2 => by
    cases d with
    | int i => exact ⟨i, hv, po_ret (Rv := fun _ (a b : Option Int) => a = b) rlt rfl eq2 po2⟩
    | _ => simp [asI, opt] at eq2
def cutL {α : Type} (ds : List α) (lo hi : Option Int) : List α := (ds.drop (HT.sIx ds.length 0 lo)).take (HT.sIx ds.length ds.length hi - HT.sIx ds.length 0 lo)
theorem drl_cut {s : Ws} {ds : List D} {vs : List V} (h : DrL K s ds vs) (lo hi : Option Int) : DrL K s (cutL ds lo hi) (cutV vs lo hi) := by
  unfold cutL cutV
  rw [h.length]
  exact (h.drop _).take _
def slQ (lo hi : Option Int) : Sq → Option D
  | .l ds => some (.list (cutL ds lo hi))
  | .t ds => if HT.sIx ds.length 0 lo = 0 ∧ HT.sIx ds.length ds.length hi = ds.length then .none else some (.tuple (cutL ds lo hi))
  | .s x => if x.length ≤ sizeLine then some (.str (cutS x lo hi)) else .none
variable {tl th : TO} {φl φh : En → M (Option Int)}
theorem sm_sl (h : SE K T E te φ) (h1 : SO K T E tl φl) (h2 : SO K T E th φh) : SE K T E (tSl (rSli K) te tl th) (fun e => bnd (φ e) fun a => bnd (φl e) fun lo => bnd (φh e) fun hi => rd fun h => (sq h a).bind (slQ lo hi)) := fun s e σ r h' rl er eq Q po =>
  h.thn rl er eq po fun t a x ev rlt ert hx eq2 po2 => h1.thn rlt ert eq2 po2 fun u lo lo' ev2 rlu eru hlo eq3 po3 => h2.thn rlu eru eq3 po3 fun w hi hi' ev3 rlw erw hhi eq4 po4 => by
    subst hlo hhi
    obtain ⟨d, f1, rfl, rfl⟩ := rd_some eq4
    obtain ⟨q, g1, g2⟩ := Option.bind_eq_some_iff.mp f1
    have hx := (hx.mono rlt ev2.toLt).mono rlu ev3.toLt
    cases q with
    | l ds =>
      cases g2
      obtain ⟨p, xs, rfl, e2, e3⟩ := sq_l rlw hx g1
      exact .inl ⟨p, xs, rfl, e2, fun p hp => new_lst rlw hp (drl_cut e3 lo hi) po4⟩
    | t ds =>
      unfold slQ at g2
      simp only at g2
      split at g2
      · cases g2
      · next hn =>
        cases g2
        obtain ⟨p, xs, rfl, e2, e3⟩ := sq_t hx g1
        refine .inr (.inr ⟨p, xs, rfl, e2, by rw [e3.length]; exact hn, fun p hp => new_tup rlw hp (drl_cut e3 lo hi) po4⟩)
    | s z =>
      have e := sq_s hx g1
      subst e
      unfold slQ at g2
      simp only at g2
      split at g2
      · next hl =>
        cases g2
        exact .inr (.inl ⟨z, rfl, hl, po4 w _ rfl (.refl w) rlw rfl⟩)
      · cases g2
theorem sl_sl (h : SE K T E te φ) (h1 : SO K T E tl φl) (h2 : SO K T E th φh) : SL K T E (tSl (rSli K) te tl th) (fun e => bnd (φ e) fun a => bnd (φl e) fun lo => bnd (φh e) fun hi => rd fun h => match sq h a with | some (.l ds) => some (cutL ds lo hi) | _ => .none) := sl_mk fun s e σ r h' rl er eq Q pl pe =>
  h.thnE rl er eq pe fun t a x ev rlt ert hx eq2 pe2 => h1.thnE rlt ert eq2 pe2 fun u lo lo' ev2 rlu eru hlo eq3 pe3 => h2.thnE rlu eru eq3 pe3 fun w hi hi' ev3 rlw erw hhi eq4 pe4 => by
    subst hlo hhi
    obtain ⟨d, f1, rfl, rfl⟩ := rd_some eq4
    have hx := (hx.mono rlt ev2.toLt).mono rlu ev3.toLt
    split at f1
    · next ds g1 =>
      cases f1
      obtain ⟨p, xs, rfl, e2, e3⟩ := sq_l rlw hx g1
      exact .inl ⟨p, xs, rfl, e2, fun p hp => (((pl.pre ev).pre ev2).pre ev3).new rlw hp (drl_cut e3 lo hi) rfl⟩
    · cases f1
/-! ### in -/
def sclL : List D → Option (List V)
  | [] => some []
  | d :: ds => (sclD d).bind fun v => (sclL ds).map fun vs => v :: vs
theorem scl_v {s : Ws} {d : D} {v w : V} (h : Dr K s d v) (e : sclD d = some w) : v = w ∧ flatV w = true := by
  cases d <;> cases e <;> cases h <;> exact ⟨rfl, rfl⟩
theorem sclL_v {s : Ws} : ∀ {ds : List D} {vs ws : List V}, DrL K s ds vs → sclL ds = some ws → vs = ws ∧ ws.all flatV = true
  | [], _, _, h, e => by cases e; exact ⟨h, rfl⟩
  | d :: ds, _, _, h, e => by
    obtain ⟨v, r, rfl, h2, h3⟩ := h
    obtain ⟨p, e1, e2⟩ := Option.bind_eq_some_iff.mp e
    obtain ⟨ps, e3, rfl⟩ := Option.map_eq_some_iff.mp e2
    obtain ⟨rfl, f1⟩ := scl_v h2 e1
    obtain ⟨rfl, f2⟩ := sclL_v h3 e3
    exact ⟨rfl, by rw [List.all_cons, f1, f2]; rfl⟩
def memM (h : MH) (a b : D) : Option Bool := (sq h b).bind fun q => match q with
  | .s z => match a with
    | .str x => if x.length = 1 then some (decide (x.cps.getD 0 0 ∈ z.cps.toList)) else .none
    | _ => .none
  | .l ds => (sclD a).bind fun u => (sclL ds).map fun us => inV u us
  | .t ds => (sclD a).bind fun u => (sclL ds).map fun us => inV u us
theorem one_sign {x : Str} (h : x.length = 1) : x = ⟨#[x.cps.getD 0 0]⟩ := by
  cases x with
  | mk cps =>
    have h : cps.size = 1 := h
    congr 1
    apply Array.ext
    · simp [h]
    · intro i h1 h2
      have : i = 0 := by omega
      subst this
      simp [Array.getD, h]
theorem mem_in {s : Ws} {a b : D} {x y : V} {k : Bool} (rl : Rl K T s) (ha : Dr K s a x) (hb : Dr K s b y) (h : memM s.h a b = some k) (neg : Bool) {Q : VK} (q : Q (.bl (if neg then !k else k)) s.H) :
    rIn K neg x y s.H Q ∨ (∃ (c : Nat) (z : Str), x = .str ⟨#[c]⟩ ∧ y = .str z ∧ Q (.bl (if neg then !decide (c ∈ z.cps.toList) else decide (c ∈ z.cps.toList))) s.H) := by
  obtain ⟨w, h1, h2⟩ := Option.bind_eq_some_iff.mp h
  cases w with
  | s z =>
    have e := sq_s hb h1
    subst e
    simp only at h2
    split at h2
    · next u =>
      split at h2
      · next hl =>
        cases h2
        have ha : x = .str u := ha
        subst ha
        exact .inr ⟨_, z, by rw [← one_sign hl], rfl, q⟩
      · cases h2
    · cases h2
  | l ds =>
    obtain ⟨u, g1, g2⟩ := Option.bind_eq_some_iff.mp h2
    obtain ⟨us, g3, rfl⟩ := Option.map_eq_some_iff.mp g2
    obtain ⟨p, xs, rfl, e2, e3⟩ := sq_l rl hb h1
    obtain ⟨rfl, f1⟩ := scl_v ha g1
    obtain ⟨rfl, f2⟩ := sclL_v e3 g3
    exact .inl ⟨p, _, rfl, .inl e2, f1, f2, q⟩
  | t ds =>
    obtain ⟨u, g1, g2⟩ := Option.bind_eq_some_iff.mp h2
    obtain ⟨us, g3, rfl⟩ := Option.map_eq_some_iff.mp g2
    obtain ⟨p, xs, rfl, e2, e3⟩ := sq_t hb h1
    obtain ⟨rfl, f1⟩ := scl_v ha g1
    obtain ⟨rfl, f2⟩ := sclL_v e3 g3
    exact .inl ⟨p, _, rfl, .inr e2, f1, f2, q⟩
theorem kr_in : KR K T E (rMem K) (fun a b => rd fun h => (memM h a b).map .bool) := kr_rd fun s a b x y d rl ha hb h Q q => by
  obtain ⟨k, h1, rfl⟩ := Option.map_eq_some_iff.mp h
  exact mem_in rl ha hb h1 false (q s _ rfl (.refl s) rl rfl)
theorem kr_nin : KR K T E (rNotMem K) (fun a b => rd fun h => (memM h a b).map fun k => .bool (!k)) := kr_rd fun s a b x y d rl ha hb h Q q => by
  obtain ⟨k, h1, rfl⟩ := Option.map_eq_some_iff.mp h
  exact mem_in rl ha hb h1 true (q s _ rfl (.refl s) rl rfl)
/-! ### calls of the language -/
theorem kc_max : KC K T E (fun xs H Q => ∃ i j, xs = [V.int i, V.int j] ∧ Q (V.int (if j > i then j else i)) H) (fun ds => rd fun _ => match ds with | [.int i, .int j] => some (.int (max i j)) | _ => .none) := kc_rd fun s ds xs d rl hx h Q q => by
  split at h
  · next i j =>
    cases h
    obtain ⟨v, u, rfl, h1, h2⟩ := drl2 hx
    have h1 : v = .int i := h1
    have h2 : u = .int j := h2
    subst h1 h2
    refine ⟨i, j, rfl, ?_⟩
    have e : (if j > i then j else i) = max i j := by split <;> omega
    rw [e]
    exact q s _ rfl (.refl s) rl rfl
  · cases h
theorem kc_min : KC K T E (fun xs H Q => ∃ i j, xs = [V.int i, V.int j] ∧ Q (V.int (if j < i then j else i)) H) (fun ds => rd fun _ => match ds with | [.int i, .int j] => some (.int (min i j)) | _ => .none) := kc_rd fun s ds xs d rl hx h Q q => by
  split at h
  · next i j =>
    cases h
    obtain ⟨v, u, rfl, h1, h2⟩ := drl2 hx
    have h1 : v = .int i := h1
    have h2 : u = .int j := h2
    subst h1 h2
    refine ⟨i, j, rfl, ?_⟩
    have e : (if j < i then j else i) = min i j := by split <;> omega
    rw [e]
    exact q s _ rfl (.refl s) rl rfl
  · cases h
theorem kc_int : KC K T E rInt1 (fun ds => rd fun _ => match ds with | [.int i] => some (.int i) | [.bool b] => some (.int (if b then 1 else 0)) | _ => .none) := kc_rd fun s ds xs d rl hx h Q q => by
  split at h
  · next i =>
    cases h
    obtain ⟨v, rfl, h1⟩ := drl1 hx
    have h1 : v = .int i := h1
    subst h1
    exact .inl ⟨i, rfl, q s _ rfl (.refl s) rl rfl⟩
  · next i =>
    cases h
    obtain ⟨v, rfl, h1⟩ := drl1 hx
    have h1 : v = .bl i := h1
    subst h1
    exact .inr ⟨i, rfl, q s _ rfl (.refl s) rl rfl⟩
  · cases h
theorem kc_strI : KC K T E (fun xs H Q => ∃ i, xs = [V.int i] ∧ i.natAbs.log2 < 1920 ∧ Q (V.str (toString i)) H) (fun ds => rd fun _ => match ds with | [.int i] => if i.natAbs.log2 < 1920 then some (.str (Str.ofString (toString i))) else .none | _ => .none) := kc_rd fun s ds xs d rl hx h Q q => by
  split at h
  · next i =>
    split at h
    · next hl =>
      cases h
      obtain ⟨v, rfl, h1⟩ := drl1 hx
      have h1 : v = .int i := h1
      subst h1
      exact ⟨i, rfl, hl, q s _ rfl (.refl s) rl rfl⟩
    · cases h
  · cases h
def bools : List D → Option (List Bool)
  | [] => some []
  | .bool b :: ds => (bools ds).map fun bs => b :: bs
  | _ => .none
theorem bools_v {s : Ws} : ∀ {ds : List D} {vs : List V} {bs : List Bool}, DrL K s ds vs → bools ds = some bs → vs = bs.map V.bl
  | [], _, _, h, e => by cases e; exact h
  | d :: ds, _, _, h, e => by
    obtain ⟨v, r, rfl, h2, h3⟩ := h
    cases d with
    | bool b =>
      obtain ⟨bs, e1, rfl⟩ := Option.map_eq_some_iff.mp e
      have h2 : v = .bl b := h2
      rw [h2, bools_v h3 e1]
      rfl
    | _ => cases e
theorem bools_map {α : Type} (f : α → Bool) : ∀ l : List α, bools (l.map fun a => .bool (f a)) = some (l.map f)
  | [] => rfl
  | a :: l => by show (bools _).map _ = _; rw [bools_map f l]; rfl
theorem kc_all : KC K T E (rAll K) (fun ds => rd fun h => match ds with | [d] => (match sq h d with | some (.l es) => (bools es).map fun bs => .bool (bs.all id) | _ => .none) | _ => .none) := kc_rd fun s ds xs d rl hx h Q q => by
  split at h
  · next a =>
    split at h
    · next es h1 =>
      obtain ⟨bs, h2, rfl⟩ := Option.map_eq_some_iff.mp h
      obtain ⟨v, rfl, hv⟩ := drl1 hx
      obtain ⟨p, xs, rfl, e2, e3⟩ := sq_l rl hv h1
      have e4 := bools_v e3 h2
      subst e4
      exact ⟨p, bs, rfl, e2, q s _ rfl (.refl s) rl rfl⟩
    · cases h
  · cases h
theorem kc_tuple : KC K T E (rTupOf K) (fun ds => rd fun h => match ds with | [d] => (match sq h d with | some (.l es) => some (.tuple es) | some (.t es) => some (.tuple es) | _ => .none) | _ => .none) := kc_rd fun s ds xs d rl hx h Q q => by
  split at h
  · next a =>
    obtain ⟨v, rfl, hv⟩ := drl1 hx
    split at h
    · next es h1 =>
      cases h
      obtain ⟨p, xs, rfl, e2, e3⟩ := sq_l rl hv h1
      exact ⟨p, xs, rfl, .inl ⟨e2, fun l hl => new_tup rl hl e3 q⟩⟩
    · next es h1 =>
      cases h
      obtain ⟨p, xs, rfl, e2, e3⟩ := sq_t hv h1
      exact ⟨p, xs, rfl, .inr ⟨e2, q s _ rfl (.refl s) rl ⟨p, xs, rfl, e2, e3⟩⟩⟩
    · cases h
  · cases h
theorem sl_list (ha : SE K T E ta φa) : SL K T E (tCB (rListOf K) (tCons ta tNil)) (fun e => bnd (φa e) fun a => rd fun h => match sq h a with | some (.l es) => some es | some (.t es) => some es | _ => .none) := sl_mk fun s e σ r h' rl er eq Q pl pe =>
  ha.thnE rl er eq pe fun t a x ev rlt ert hx eq2 pe2 => by
    obtain ⟨d, f1, rfl, rfl⟩ := rd_some eq2
    split at f1
    · next es h1 =>
      cases f1
      obtain ⟨p, xs, rfl, e2, e3⟩ := sq_l rlt hx h1
      exact ⟨p, xs, rfl, .inl e2, fun l hl => (pl.pre ev).new rlt hl e3 rfl⟩
    · next es h1 =>
      cases f1
      obtain ⟨p, xs, rfl, e2, e3⟩ := sq_t hx h1
      exact ⟨p, xs, rfl, .inr e2, fun l hl => (pl.pre ev).new rlt hl e3 rfl⟩
    · cases f1
/-! ### kinds -/
def tyM (h : MH) : D → Option String
  | .none => some "NoneType"
  | .bool _ => some "bool"
  | .int _ => some "int"
  | .str _ => some "str"
  | .list _ => some "list"
  | .tuple _ => some "tuple"
  | .ref n => match h[n]? with | some (.lst _) => some "list" | some (.dk _) => some "dict" | _ => .none
  | .scr _ => .none
theorem tyM_of {s : Ws} {d : D} {x : V} {ty : String} (rl : Rl K T s) (hd : Dr K s d x) (h : tyM s.h d = some ty) : TyX K s.H x (.type ty) := by
  cases d with
  | none => cases hd; cases h; exact .base .non
  | bool b => cases hd; cases h; exact .base (.bl _)
  | int b => cases hd; cases h; exact .base (.int _)
  | str b => cases hd; cases h; exact .base (.str _)
  | list ds =>
    cases h
    obtain ⟨a, xs, rfl, h2, _⟩ := hd
    exact .base (.lst h2)
  | tuple ds =>
    cases h
    obtain ⟨a, xs, rfl, h2, _⟩ := hd
    rcases h2 with (h | ⟨o, h⟩) | ⟨o, its, n, h, c, _⟩
    · exact .base (.tup h)
    · exact .fTuple h
    · exact .kTuple h c
  | ref n =>
    obtain ⟨a, rfl, h2⟩ := hd
    have h : (match s.h[n]? with | some (.lst _) => some "list" | some (.dk _) => some "dict" | _ => Option.none) = some ty := h
    split at h
    · next ds ho =>
      cases h
      obtain ⟨u, h3, xs, rfl, h4⟩ := rl.ob n _ a ho h2
      exact .base (.lst h3)
    · next ds ho =>
      cases h
      obtain ⟨u, h3, xs, rfl, h4⟩ := rl.ob n _ a ho h2
      exact .base (.dK h3)
    · cases h
  | scr ns => cases h
theorem sm_isi {c : String} (ha : SE K T E ta φa) : SE K T E (tCB (rIsi K) (tCons ta (tCons (tC (.ty c)) tNil))) (fun e => bnd (φa e) fun a => rd fun h => (tyM h a).bind fun ty => (kitB ty c).map .bool) := fun s e σ r h' rl er eq Q po =>
  ha.thn rl er eq po fun t d v ev rlt ert hv eq2 po2 => by
    obtain ⟨b, f1, rfl, rfl⟩ := rd_some eq2
    obtain ⟨ty, g1, g2⟩ := Option.bind_eq_some_iff.mp f1
    obtain ⟨k, g3, rfl⟩ := Option.map_eq_some_iff.mp g2
    exact ⟨v, .ty c, _, _, k, rfl, .ty c, tyM_of rlt hv g1, kit_ty g3, po2 t _ rfl (.refl t) rlt rfl⟩
/-! ### fields -/
def fldM (C f : Str) : D → M D
  | .ref n => rd fun h => match h[n]? with | some (.ins c fs) => if c = C then getF f fs else .none | _ => .none
  | _ => opt .none
theorem ref_some {C : Str} {α : Type} {n : Nat} {g : List (Str × D) → Option α} {h h' : MH} {r : Except Str α} (e : (rd fun h => match h[n]? with | some (.ins c fs) => if c = C then g fs else .none | _ => .none) h = some (r, h')) : ∃ fs d, h[n]? = some (.ins C fs) ∧ g fs = some d ∧ r = .ok d ∧ h' = h := by
  obtain ⟨d, f1, rfl, rfl⟩ := rd_some e
  split at f1
  · next c fs ho =>
    split at f1
    · next hc =>
      subst hc
      exact ⟨fs, d, ho, f1, rfl, rfl⟩
    · cases f1
  · cases f1
theorem sm_fld {C f : Str} (ok : FldOk K (He.ga K C) f) (ha : SE K T E ta φa) : SE K T E (tFld K ta f) (fun e => bnd (φa e) (fldM C f)) := fun s e σ r h' rl er eq Q po =>
  ha.thn rl er eq po fun t d v ev rlt ert hv eq2 po2 => by
    cases d with
    | ref n =>
      obtain ⟨fs, d, ho, hf, rfl, rfl⟩ := ref_some eq2
      obtain ⟨a, rfl, h2⟩ := hv
      obtain ⟨u, h3, dx, vs, rfl, h4⟩ := rlt.ob n _ a ho h2
      obtain ⟨w, g1, g2⟩ := h4.get hf
      exact ⟨a, _, dx, vs, w, rfl, h3, ok.c, ok.n, g1, po2 t w rfl (.refl t) rlt g2⟩
    | _ => simp [fldM, opt] at eq2
end
end Sc

namespace Sc
open PySem PySem.Spec PyProof.Rows L2
/-! ### statements -/
inductive Fl where
  | nx | bk | ct | rt (d : D)
section
variable (K : PySem.W.Frag) (T : List (Addr × Str)) (E : XK)
structure PoS (s : Ws) (r : Except Str (Fl × En)) (h' : MH) (Dn : Ends) : Prop where
  nx : ∀ e', r = .ok (.nx, e') → ∀ t σ', t.h = h' → Ev s t → Rl K T t → EnvR K t e' σ' → Dn.nx σ' t.H
  bk : ∀ e', r = .ok (.bk, e') → ∀ t σ', t.h = h' → Ev s t → Rl K T t → EnvR K t e' σ' → Dn.bk σ' t.H
  ct : ∀ e', r = .ok (.ct, e') → ∀ t σ', t.h = h' → Ev s t → Rl K T t → EnvR K t e' σ' → Dn.ct σ' t.H
  rt : ∀ d e', r = .ok (.rt d, e') → ∀ t v, t.h = h' → Ev s t → Rl K T t → Dr K t d v → Dn.rt v t.H
  er : PoE K T E s r h'
def SS (ts : TS) (φ : En → M (Fl × En)) : Prop := ∀ s e σ r h', Rl K T s → EnvR K s e σ → φ e s.h = some (r, h') → ∀ Dn, PoS K T E s r h' Dn → ts Dn σ s.H
/-- a target -/
def SG (g : TG) (γ : D → En → M En) : Prop := ∀ s d v e σ r h', Rl K T s → Dr K s d v → EnvR K s e σ → γ d e s.h = some (r, h') → ∀ Q : L2.St → Hp → Prop,
  (∀ e', r = .ok e' → ∀ t σ', t.h = h' → Ev s t → Rl K T t → EnvR K t e' σ' → Q σ' t.H) → PoE K T E s r h' → g v σ s.H Q
def SGs (g : TGs) (γ : List D → En → M En) : Prop := ∀ s ds vs e σ r h', Rl K T s → DrL K s ds vs → EnvR K s e σ → γ ds e s.h = some (r, h') → ∀ Q : L2.St → Hp → Prop,
  (∀ e', r = .ok e' → ∀ t σ', t.h = h' → Ev s t → Rl K T t → EnvR K t e' σ' → Q σ' t.H) → PoE K T E s r h' → g vs σ s.H Q
end
section
variable {K : PySem.W.Frag} {T : List (Addr × Str)} {E : XK} {ta tb tc te : TE} {φ φa φb φc : En → M D} {t u : TS} {ψ ψ' : En → M (Fl × En)} {tt : TT} {θ : En → M Bool} {g : TG} {γ : D → En → M En}
theorem PoE.err {α β : Type} {s : Ws} {c : Str} {h' : MH} (p : PoE K T E s (.error c : Except Str α) h') : PoE K T E s (.error c : Except Str β) h' := fun c' hc => by
  cases hc
  exact p c rfl
theorem PoS.pre {s t : Ws} {r : Except Str (Fl × En)} {h' : MH} {Dn : Ends} (p : PoS K T E s r h' Dn) (ev : Ev s t) : PoS K T E t r h' Dn :=
  ⟨fun e h u σ h1 h2 => p.nx e h u σ h1 (ev.trans h2), fun e h u σ h1 h2 => p.bk e h u σ h1 (ev.trans h2), fun e h u σ h1 h2 => p.ct e h u σ h1 (ev.trans h2), fun d e h u v h1 h2 => p.rt d e h u v h1 (ev.trans h2), p.er.pre ev⟩
theorem ss_next : SS K T E tNext (fun e => ret (.nx, e)) := fun s e σ r h' rl er eq Dn po => by
  obtain ⟨rfl, rfl⟩ := ret_some eq
  exact po.nx e rfl s σ rfl (.refl s) rl er
theorem ss_break : SS K T E tBreak (fun e => ret (.bk, e)) := fun s e σ r h' rl er eq Dn po => by
  obtain ⟨rfl, rfl⟩ := ret_some eq
  exact po.bk e rfl s σ rfl (.refl s) rl er
theorem ss_cont : SS K T E tCont (fun e => ret (.ct, e)) := fun s e σ r h' rl er eq Dn po => by
  obtain ⟨rfl, rfl⟩ := ret_some eq
  exact po.ct e rfl s σ rfl (.refl s) rl er
/-- go on, where nothing ends it -/
def go (k : En → M (Fl × En)) (p : Fl × En) : M (Fl × En) := match p.1 with
  | .nx => k p.2
  | f => ret (f, p.2)
theorem ss_seq (h1 : SS K T E t ψ) (h2 : SS K T E u ψ') : SS K T E (tSeq t u) (fun e => bnd (ψ e) (go ψ')) := fun s e σ r h' rl er eq Dn po => by
  rcases bnd_some eq with ⟨⟨f, e2⟩, h3, e1, e4⟩ | ⟨c, e1, rfl⟩
  · refine h1 s e σ (.ok (f, e2)) h3 rl er e1 _ ⟨fun e' he t σ' ht ev rlt ert => ?_, fun e' he t σ' ht ev rlt ert => ?_, fun e' he t σ' ht ev rlt ert => ?_, fun d e' he t v ht ev rlt hv => ?_, fun c hc => nomatch hc⟩
    · cases he
      exact h2 t e2 σ' r h' rlt ert (by rw [ht]; exact e4) Dn (po.pre ev)
    · cases he
      obtain ⟨rfl, rfl⟩ := ret_some e4
      exact po.bk e2 rfl t σ' ht ev rlt ert
    · cases he
      obtain ⟨rfl, rfl⟩ := ret_some e4
      exact po.ct e2 rfl t σ' ht ev rlt ert
    · cases he
      obtain ⟨rfl, rfl⟩ := ret_some e4
      exact po.rt d e2 rfl t v ht ev rlt hv
  · exact h1 s e σ (.error c) h' rl er e1 _ ⟨fun e' he => (by cases he), fun e' he => (by cases he), fun e' he => (by cases he), fun d e' he => (by cases he), po.er⟩
theorem ss_if (hc : ST K T E tt θ) (h1 : SS K T E t ψ) (h2 : SS K T E u ψ') : SS K T E (tIfS tt t u) (fun e => bnd (θ e) fun a => if a = true then ψ e else ψ' e) := fun s e σ r h' rl er eq Dn po =>
  hc.thnE rl er eq po.er fun t d v ev rlt ert hv eq2 po2 => by
    subst hv
    cases d with
    | true => exact h1 t e σ _ _ rlt ert eq2 Dn (po.pre ev)
    | false => exact h2 t e σ _ _ rlt ert eq2 Dn (po.pre ev)
theorem ss_ret (h : SE K T E te φ) : SS K T E (tRet te) (fun e => bnd (φ e) fun d => ret (.rt d, e)) := fun s e σ r h' rl er eq Dn po =>
  h.thnE rl er eq po.er fun t d v ev rlt ert hv eq2 po2 => by
    obtain ⟨rfl, rfl⟩ := ret_some eq2
    exact po.rt d e rfl t v rfl ev rlt hv
/-- the value goes out as a datum: a list of its own -/
def frz : D → M D
  | .ref n => fun h => match h[n]? with | some (.lst ds) => some (.ok (.list ds), h.set n .gone) | _ => .none
  | _ => opt .none
theorem ss_retF (h : SE K T E te φ) : SS K T E (tRet te) (fun e => bnd (φ e) fun d => bnd (frz d) fun d' => ret (.rt d', e)) := fun s e σ r h' rl er eq Dn po =>
  h.thnE rl er eq po.er fun t d v ev rlt ert hv eq2 po2 => by
    cases d with
    | ref n =>
      obtain ⟨a, rfl, h2⟩ := hv
      rcases bnd_some eq2 with ⟨d', h3, e1, e2⟩ | ⟨c, e1, _⟩
      · unfold frz at e1
        simp only at e1
        split at e1
        · next ds ho =>
          cases e1
          obtain ⟨rfl, rfl⟩ := ret_some e2
          obtain ⟨ev2, rl2, hd⟩ := st_freeze rlt ho h2
          exact po.rt _ e rfl { t with h := t.h.set n .gone } _ rfl (ev.trans ev2) rl2 hd
        · cases e1
      · unfold frz at e1
        simp only at e1
        split at e1 <;> cases e1
    | _ => simp [frz, opt, bnd] at eq2
theorem ss_retN : SS K T E tRetN (fun e => ret (.rt .none, e)) := fun s e σ r h' rl er eq Dn po => by
  obtain ⟨rfl, rfl⟩ := ret_some eq
  exact po.rt .none e rfl s .non rfl (.refl s) rl rfl
theorem ss_drop (h : SE K T E te φ) : SS K T E (tDrop te) (fun e => bnd (φ e) fun _ => ret (.nx, e)) := fun s e σ r h' rl er eq Dn po =>
  h.thnE rl er eq po.er fun t d v ev rlt ert hv eq2 po2 => by
    obtain ⟨rfl, rfl⟩ := ret_some eq2
    exact po.nx e rfl t σ rfl ev rlt ert
def raiseM {α : Type} (c : Str) : M α := fun h => some (.error c, h)
theorem ss_raise {c : Str} : SS K T E (fun _ _ H => E (.ref (He.ga K c)) Option.none H) (fun _ => raiseM c) := fun s e σ r h' rl er eq Dn po => by
  cases eq
  exact po.er c rfl s rfl (.refl s) rl
/-! ### targets -/
theorem sg_name (i : Nat) : SG K T E (gName i) (fun d e => ret (e.set i (some d))) := fun s d v e σ r h' rl hd er eq Q q _ => by
  obtain ⟨rfl, rfl⟩ := ret_some eq
  exact q _ rfl s _ rfl (.refl s) rl (er.set hd)
theorem sgs_nil : SGs K T E gNil (fun ds e => opt (match ds with | [] => some e | _ => .none)) := fun s ds vs e σ r h' rl hd er eq Q q _ => by
  obtain ⟨d, f1, rfl, rfl⟩ := opt_some eq
  split at f1
  · cases f1
    exact ⟨hd, q _ rfl s _ rfl (.refl s) rl er⟩
  · cases f1
theorem sgs_cons {gr : TGs} {γr : List D → En → M En} (h : SG K T E g γ) (hr : SGs K T E gr γr) : SGs K T E (gCons g gr) (fun ds e => match ds with | d :: r => bnd (γ d e) (γr r) | [] => opt .none) := fun s ds vs e σ r h' rl hd er eq Q q qe => by
  cases ds with
  | nil => cases eq
  | cons d ds =>
    obtain ⟨v, us, rfl, h1, h2⟩ := hd
    refine ⟨v, us, rfl, ?_⟩
    rcases bnd_some eq with ⟨e2, h3, e1, e4⟩ | ⟨c, e1, rfl⟩
    · refine h s d v e σ (.ok e2) h3 rl h1 er e1 _ (fun e' he t σ' ht ev rlt ert => ?_) fun c hc => nomatch hc
      cases he
      exact hr t ds us e2 σ' r h' rlt (h2.mono rl ev.toLt) ert (by rw [ht]; exact e4) Q (fun e' he u σ'' hu ev2 => q e' he u σ'' hu (ev.trans ev2)) (qe.pre ev)
    · exact h s d v e σ (.error c) h' rl h1 er e1 _ (fun e' he => by cases he) qe
theorem sg_tup {n : Nat} {gs : TGs} {γs : List D → En → M En} (h : SGs K T E gs γs) : SG K T E (gTup K n gs) (fun d e => match d with | .tuple ds => ifM (ds.length = n) (γs ds e) | _ => opt .none) := fun s d v e σ r h' rl hd er eq Q q qe => by
  cases d with
  | tuple ds =>
    obtain ⟨hl, eq⟩ := ifM_some eq
    obtain ⟨a, xs, rfl, h2, h3⟩ := hd
    exact ⟨a, xs, rfl, h2, by rw [h3.length]; exact hl, h s ds xs e σ r h' rl h3 er eq Q q qe⟩
  | _ => cases eq
/-- l[i] = v -/
def setM (o i d : D) : M Unit := match o, i with
  | .ref n, .int k => fun h => match h[n]? with
    | some (.lst ds) => match ixN ds.length k with
      | some j => some (.ok (), h.set n (.lst (ds.set j d)))
      | .none => .none
    | _ => .none
  | _, _ => opt .none
theorem set_at {s : Ws} {o i d : D} {x y v : V} {h' : MH} {r : Except Str Unit} (rl : Rl K T s) (ho : Dr K s o x) (hi : Dr K s i y) (hd : Dr K s d v) (eq : setM o i d s.h = some (r, h')) {Q : Hp → Prop} (q : ∀ t, t.h = h' → Ev s t → Rl K T t → Q t.H) : r = .ok () ∧ rSetL x y v s.H Q := by
  unfold setM at eq
  split at eq
  · next n k =>
    split at eq
    · next ds hn =>
      split at eq
      · next j hj =>
        cases eq
        obtain ⟨a, rfl, h2⟩ := ho
        have hi : y = .int k := hi
        subst hi
        obtain ⟨u, h3, xs, rfl, h4⟩ := rl.ob n _ a hn h2
        obtain ⟨ev, r2⟩ := st_set (o' := .lst (ds.set j d)) (u' := .lst (xs.set j v)) rl hn (fun z => by cases z) h2 ⟨_, rfl, h4.set hd j⟩
        exact ⟨rfl, a, xs, k, j, rfl, rfl, h3, by rw [h4.length]; exact hj, q _ rfl ev r2⟩
      · cases eq
    · cases eq
  · cases eq
theorem sg_sub (ha : SE K T E ta φa) (hb : SE K T E tb φb) : SG K T E (gSub ta tb rSetL) (fun d e => bnd (φa e) fun a => bnd (φb e) fun b => bnd (setM a b d) fun _ => ret e) := fun s d v e σ r h' rl hd er eq Q q qe =>
  ha.thnE rl er eq qe fun t a x ev rlt ert hx eq2 pe2 => hb.thnE rlt ert eq2 pe2 fun u b y ev2 rlu eru hy eq3 pe3 => by
    rcases bnd_some eq3 with ⟨_, h3, e1, e4⟩ | ⟨c, e1, _⟩
    · obtain ⟨rfl, rfl⟩ := ret_some e4
      exact (set_at rlu (hx.mono rlt ev2.toLt) hy ((hd.mono rl ev.toLt).mono rlt ev2.toLt) e1 fun w hw ew rlw => q e rfl w σ hw ((ev.trans ev2).trans ew) rlw (eru.mono rlu ew.toLt)).2
    · exact absurd (set_at (Q := fun _ => True) rlu (hx.mono rlt ev2.toLt) hy ((hd.mono rl ev.toLt).mono rlt ev2.toLt) e1 fun w hw ew rlw => trivial).1 (by intro z; cases z)
theorem ss_asg (h : SE K T E te φ) (hg : SG K T E g γ) : SS K T E (tAsg te g) (fun e => bnd (φ e) fun d => bnd (γ d e) fun e' => ret (.nx, e')) := fun s e σ r h' rl er eq Dn po =>
  h.thnE rl er eq po.er fun t d v ev rlt ert hv eq2 po2 => by
    rcases bnd_some eq2 with ⟨e2, h3, e1, e4⟩ | ⟨c, e1, rfl⟩
    · obtain ⟨rfl, rfl⟩ := ret_some e4
      exact hg t d v e σ (.ok e2) _ rlt hv ert e1 _ (fun e' he u σ' hu ev2 rlu eru => by cases he; exact po.nx e2 rfl u σ' hu (ev.trans ev2) rlu eru) fun c hc => nomatch hc
    · exact hg t d v e σ (.error c) _ rlt hv ert e1 _ (fun e' he => by cases he) po2.err
theorem ss_par {i j : Nat} {tr : TA} {φr : En → M (List D)} (h : SA K T E tr φr) : SS K T E (tPar i j tr) (fun e => bnd (φr e) fun ds => match ds with | [a, b] => ret (.nx, (e.set i (some a)).set j (some b)) | _ => opt .none) := fun s e σ r h' rl er eq Dn po =>
  h.thnE rl er eq po.er fun t ds vs ev rlt ert hv eq2 po2 => by
    split at eq2
    · obtain ⟨rfl, rfl⟩ := ret_some eq2
      obtain ⟨v, u, rfl, h1, h2⟩ := drl2 hv
      exact ⟨v, u, rfl, po.nx _ rfl t _ rfl ev rlt ((ert.set h1).set h2)⟩
    · cases eq2
/-- o.f = value -/
def putM (C f : Str) (v : D) : D → M Unit
  | .ref n => fun h => match h[n]? with | some (.ins c fs) => if c = C ∧ fs.length < 1000 then some (.ok (), h.set n (.ins c (setF f v fs))) else .none | _ => .none
  | _ => opt .none
theorem ss_fld {C f : Str} (ok : FldOk K (He.ga K C) f) (ha : SE K T E ta φa) (hb : SE K T E tb φb) : SS K T E (sFld K ta tb f) (fun e => bnd (φb e) fun v => bnd (φa e) fun o => bnd (putM C f v o) fun _ => ret (.nx, e)) := fun s e σ r h' rl er eq Dn po =>
  hb.thnE rl er eq po.er fun t d v ev rlt ert hv eq2 po2 => ha.thnE rlt ert eq2 po2 fun u o x ev2 rlu eru hx eq3 po3 => by
    cases o with
    | ref n =>
      obtain ⟨a, rfl, h2⟩ := hx
      rcases bnd_some eq3 with ⟨_, h3, e1, e4⟩ | ⟨c, e1, _⟩
      · obtain ⟨rfl, rfl⟩ := ret_some e4
        unfold putM at e1
        simp only at e1
        split at e1
        · next c fs ho =>
          split at e1
          · next hc =>
            cases e1
            obtain ⟨rfl, hl⟩ := hc
            obtain ⟨w, h3, dx, vs, rfl, h4⟩ := rlu.ob n _ a ho h2
            obtain ⟨ev3, rl3⟩ := st_set (o' := .ins c (setF f d fs)) (u' := .ins (He.ga K c) dx (putF f v vs)) rlu ho (fun z => by cases z) h2 ⟨dx, _, rfl, FsR.put (hv.mono rlt ev2.toLt) h4⟩
            exact ⟨a, _, dx, vs, rfl, h3, ok.c, ok.n, by rw [h4.length]; exact hl, po.nx e rfl _ σ rfl ((ev.trans ev2).trans ev3) rl3 (eru.mono rlu ev3.toLt)⟩
          · cases e1
        · cases e1
      · unfold putM at e1
        simp only at e1
        split at e1
        · split at e1 <;> cases e1
        · cases e1
    | _ => simp [putM, opt, bnd] at eq3
/-! ### what is walked -/
open Classical in
noncomputable def chk (ck : Option Nat) (all : List D) : M Unit := match ck with
  | .none => ret ()
  | some n => rd fun h => if h[n]? = some (.lst all) then some () else .none
def ckOk (ck : Option Nat) (all : List D) (h : MH) : Prop := match ck with
  | .none => True
  | some n => h[n]? = some (.lst all)
theorem chk_some {ck : Option Nat} {all : List D} {h h' : MH} {r : Except Str Unit} (e : chk ck all h = some (r, h')) : r = .ok () ∧ h' = h ∧ ckOk ck all h := by
  cases ck with
  | none => obtain ⟨rfl, rfl⟩ := ret_some e; exact ⟨rfl, rfl, trivial⟩
  | some n =>
    unfold chk at e
    simp only at e
    obtain ⟨d, f1, rfl, rfl⟩ := rd_some e
    split at f1
    · exact ⟨rfl, rfl, by assumption⟩
    · cases f1
theorem chk_ok {ck : Option Nat} {all : List D} {h : MH} (e : ckOk ck all h) : chk ck all h = some (.ok (), h) := by
  cases ck with
  | none => rfl
  | some n =>
    have e : h[n]? = some (.lst all) := e
    unfold chk rd
    simp only [e, if_true]
structure Wk (K : PySem.W.Frag) (T : List (Addr × Str)) (J : It) (its : List D) (ck : Option Nat) (t0 : Ws) : Prop where
  go : ∀ t, Lt t0 t → Rl K T t → ckOk ck its t.h → ∀ (i : Nat) d, its[i]? = some d → J.go i t.H ∧ ∀ x H', J.yld i t.H x H' → ∃ t', t'.H = H' ∧ t'.h = t.h ∧ Ev t t' ∧ Rl K T t' ∧ Dr K t' d x
  stop : ∀ t, Lt t0 t → Rl K T t → ckOk ck its t.h → J.stop its.length t.H
theorem Wk.mono {J : It} {its : List D} {ck : Option Nat} {t0 t1 : Ws} (w : Wk K T J its ck t0) (l : Lt t0 t1) : Wk K T J its ck t1 := ⟨fun t h => w.go t (l.trans h), fun t h => w.stop t (l.trans h)⟩
abbrev SI (K : PySem.W.Frag) (T : List (Addr × Str)) (E : XK) (wi : TI) (φ : En → M (List D × Option Nat)) : Prop := Sim K T E (fun t (p : List D × Option Nat) (J : It) => Wk K T J p.1 p.2 t) wi φ
def itL (d : D) : M (List D × Option Nat) := match d with
  | .list ds => ret (ds, .none)
  | .ref n => rd fun h => match h[n]? with | some (.lst ds) => some (ds, some n) | _ => .none
  | _ => opt .none
theorem si_list (h : SE K T E te φ) : SI K T E (iList K te) (fun e => bnd (φ e) itL) := fun s e σ r h' rl er eq Q po =>
  h.thn rl er eq po fun t d v ev rlt ert hv eq2 po2 => by
    cases d with
    | list ds =>
      obtain ⟨rfl, rfl⟩ := ret_some eq2
      obtain ⟨a, xs, rfl, h2, h3, h4⟩ := hv
      refine ⟨a, rfl, ⟨xs, SqL.of h2⟩, po2 t _ rfl (.refl t) rlt ⟨fun u l rlu _ i d hd => ?_, fun u l rlu _ => ?_⟩⟩
      · have hu := (l.fz a _ h2 (fun ps z => by cases z) h3).2
        obtain ⟨x, hx, dx⟩ := (h4.mono rlt l).get hd
        have hi : i < xs.length := (List.getElem?_eq_some_iff.mp hx).1
        refine ⟨(walk_list (K := K) (xs := xs)).goes i u.H hi (SqL.of hu), fun y H' hy => ?_⟩
        obtain ⟨rfl, hz⟩ := (walk_list (K := K) (xs := xs)).yields i u.H y H' hi (SqL.of hu) hy
        rw [hx] at hz
        cases hz
        exact ⟨u, rfl, rfl, .refl u, rlu, dx⟩
      · have hu := (l.fz a _ h2 (fun ps z => by cases z) h3).2
        have := (walk_list (K := K) (a := a) (xs := xs)).stops u.H (SqL.of hu)
        rw [h4.length] at this
        exact this
    | ref n =>
      unfold itL at eq2
      simp only at eq2
      obtain ⟨p, f1, rfl, rfl⟩ := rd_some eq2
      split at f1
      · next ds ho =>
        cases f1
        obtain ⟨a, rfl, h2⟩ := hv
        obtain ⟨w, h3, xs, rfl, h4⟩ := rlt.ob n _ a ho h2
        refine ⟨a, rfl, ⟨xs, SqL.of h3⟩, po2 t _ rfl (.refl t) rlt ⟨fun u l rlu ck i d hd => ?_, fun u l rlu ck => ?_⟩⟩
        · obtain ⟨w, h5, ys, rfl, h6⟩ := rlu.ob n _ a ck (l.get h2)
          obtain ⟨x, hx, dx⟩ := h6.get hd
          have hi : i < ys.length := (List.getElem?_eq_some_iff.mp hx).1
          refine ⟨(walk_list (K := K) (xs := ys)).goes i u.H hi (SqL.of h5), fun y H' hy => ?_⟩
          obtain ⟨rfl, hz⟩ := (walk_list (K := K) (xs := ys)).yields i u.H y H' hi (SqL.of h5) hy
          rw [hx] at hz
          cases hz
          exact ⟨u, rfl, rfl, .refl u, rlu, dx⟩
        · obtain ⟨w, h5, ys, rfl, h6⟩ := rlu.ob n _ a ck (l.get h2)
          have := (walk_list (K := K) (a := a) (xs := ys)).stops u.H (SqL.of h5)
          rw [h6.length] at this
          exact this
      · cases f1
    | _ => cases eq2
theorem si_tup (h : SE K T E te φ) : SI K T E (iTup K te) (fun e => bnd (φ e) fun d => match d with | .tuple ds => ret (ds, .none) | _ => opt .none) := fun s e σ r h' rl er eq Q po =>
  h.thn rl er eq po fun t d v ev rlt ert hv eq2 po2 => by
    cases d with
    | tuple ds =>
      obtain ⟨rfl, rfl⟩ := ret_some eq2
      obtain ⟨a, xs, rfl, h2, h4⟩ := hv
      refine ⟨a, rfl, ⟨xs, h2⟩, po2 t _ rfl (.refl t) rlt ⟨fun u l rlu _ i d hd => ?_, fun u l rlu _ => ?_⟩⟩
      · have hu := l.sqT rlt h2
        obtain ⟨x, hx, dx⟩ := (h4.mono rlt l).get hd
        have hi : i < xs.length := (List.getElem?_eq_some_iff.mp hx).1
        refine ⟨(walk_tup (K := K) (xs := xs)).goes i u.H hi hu, fun y H' hy => ?_⟩
        obtain ⟨rfl, hz⟩ := (walk_tup (K := K) (xs := xs)).yields i u.H y H' hi hu hy
        rw [hx] at hz
        cases hz
        exact ⟨u, rfl, rfl, .refl u, rlu, dx⟩
      · have := (walk_tup (K := K) (a := a) (xs := xs)).stops u.H (l.sqT rlt h2)
        rw [h4.length] at this
        exact this
    | _ => cases eq2
def rangeL (lo : Int) (n : Nat) : List D := (List.range n).map fun (i : Nat) => D.int (lo + (i : Int))
theorem rangeL_len (lo : Int) (n : Nat) : (rangeL lo n).length = n := by simp [rangeL]
theorem rangeL_get {lo : Int} {n i : Nat} {d : D} (h : (rangeL lo n)[i]? = some d) : i < n ∧ d = .int (lo + (i : Int)) := by
  have hi : i < n := by
    have := (List.getElem?_eq_some_iff.mp h).1
    rwa [rangeL_len] at this
  unfold rangeL at h
  rw [List.getElem?_map, List.getElem?_range hi] at h
  exact ⟨hi, (Option.some.inj h).symm⟩
theorem wk_range {lo : Int} {n : Nat} {t : Ws} : Wk K T (Itr lo n) (rangeL lo n) .none t := by
  refine ⟨fun u l rlu _ i d hd => ?_, fun u l rlu _ => ?_⟩
  · obtain ⟨hi, rfl⟩ := rangeL_get hd
    refine ⟨(walk_range (lo := lo) (n := n)).goes i u.H hi trivial, fun y H' hy => ?_⟩
    obtain ⟨rfl, hz⟩ := (walk_range (lo := lo) (n := n)).yields i u.H y H' hi trivial hy
    exact ⟨u, rfl, rfl, .refl u, rlu, hz⟩
  · rw [rangeL_len]
    exact (walk_range (lo := lo) (n := n)).stops u.H trivial
theorem si_range1 {tr : TA} {φr : En → M (List D)} (h : SA K T E tr φr) : SI K T E (iRng1 tr) (fun e => bnd (φr e) fun ds => match ds with | [.int j] => ifM (-(2 ^ 62) ≤ j ∧ j < 2 ^ 62) (ret (rangeL 0 j.toNat, .none)) | _ => opt .none) := fun s e σ r h' rl er eq Q po =>
  h.thn rl er eq po fun t ds vs ev rlt ert hv eq2 po2 => by
    split at eq2
    · next j =>
      obtain ⟨hl, eq2⟩ := ifM_some eq2
      obtain ⟨rfl, rfl⟩ := ret_some eq2
      obtain ⟨v, rfl, h1⟩ := drl1 hv
      have h1 : v = .int j := h1
      subst h1
      exact ⟨j, rfl, hl.1, hl.2, po2 t _ rfl (.refl t) rlt wk_range⟩
    · cases eq2
theorem si_range2 {tr : TA} {φr : En → M (List D)} (h : SA K T E tr φr) : SI K T E (iRng2 tr) (fun e => bnd (φr e) fun ds => match ds with | [.int i, .int j] => ifM (-(2 ^ 62) ≤ i ∧ i < 2 ^ 62 ∧ -(2 ^ 62) ≤ j ∧ j < 2 ^ 62) (ret (rangeL i (j - i).toNat, .none)) | _ => opt .none) := fun s e σ r h' rl er eq Q po =>
  h.thn rl er eq po fun t ds vs ev rlt ert hv eq2 po2 => by
    split at eq2
    · next i j =>
      obtain ⟨hl, eq2⟩ := ifM_some eq2
      obtain ⟨rfl, rfl⟩ := ret_some eq2
      obtain ⟨v, u, rfl, h1, h2⟩ := drl2 hv
      have h1 : v = .int i := h1
      have h2 : u = .int j := h2
      subst h1 h2
      exact ⟨i, j, rfl, hl, po2 t _ rfl (.refl t) rlt wk_range⟩
    · cases eq2
theorem si_str (h : SE K T E te φ) : SI K T E (iStr te) (fun e => bnd (φ e) fun d => match d with | .str x => ret (x.cps.toList.map fun c => .str ⟨#[c]⟩, .none) | _ => opt .none) := fun s e σ r h' rl er eq Q po =>
  h.thn rl er eq po fun t d v ev rlt ert hv eq2 po2 => by
    cases d with
    | str z =>
      obtain ⟨rfl, rfl⟩ := ret_some eq2
      refine ⟨z, hv, po2 t _ rfl (.refl t) rlt ⟨fun u l rlu _ i d hd => ?_, fun u l rlu _ => ?_⟩⟩
      · have hd : (z.cps.toList.map fun c => D.str ⟨#[c]⟩)[i]? = some d := hd
        rw [List.getElem?_map] at hd
        obtain ⟨c, hc, rfl⟩ := Option.map_eq_some_iff.mp hd
        rw [Array.getElem?_toList] at hc
        refine ⟨(Array.getElem?_eq_some_iff.mp hc).1, fun y H' hy => ?_⟩
        obtain ⟨rfl, c', hc', rfl⟩ := hy
        rw [hc] at hc'
        cases hc'
        exact ⟨u, rfl, rfl, .refl u, rlu, rfl⟩
      · show z.cps.size ≤ (z.cps.toList.map fun c => D.str ⟨#[c]⟩).length
        simp
    | _ => cases eq2
end
end Sc

namespace Sc
open PySem PySem.Spec PyProof.Rows L2
section
variable {K : PySem.W.Frag} {T : List (Addr × Str)} {E : XK} {ta tb tc te : TE} {φ φa φb φc : En → M D} {t u : TS} {ψ ψ' : En → M (Fl × En)} {tt : TT} {θ : En → M Bool} {g : TG} {γ : D → En → M En}
/-! ### for -/
def lend (k : En → M (Fl × En)) (p : Fl × En) : M (Fl × En) := match p.1 with
  | .nx => k p.2
  | .ct => k p.2
  | .bk => ret (.nx, p.2)
  | .rt d => ret (.rt d, p.2)
noncomputable def forM (ck : Option Nat) (all : List D) (body : D → En → M (Fl × En)) : List D → En → M (Fl × En)
  | [], e => bnd (chk ck all) fun _ => ret (.nx, e)
  | x :: r, e => bnd (chk ck all) fun _ => bnd (body x e) (lend (forM ck all body r))
theorem chk_bnd {α : Type} {ck : Option Nat} {all : List D} {f : Unit → M α} {h h' : MH} {r : Except Str α} (e : bnd (chk ck all) f h = some (r, h')) : ckOk ck all h ∧ f () h = some (r, h') := by
  rcases bnd_some e with ⟨a, h1, e1, e2⟩ | ⟨c, e1, _⟩
  · obtain ⟨_, rfl, k⟩ := chk_some e1
    exact ⟨k, e2⟩
  · obtain ⟨z, _⟩ := chk_some e1
    cases z
theorem drop_cons {α : Type} {l : List α} {i : Nat} (h : i < l.length) : ∃ d, l[i]? = some d ∧ l.drop i = d :: l.drop (i + 1) := ⟨l[i], by simp [h], by simp⟩
theorem ss_for {wi : TI} {φi : En → M (List D × Option Nat)} (hi : SI K T E wi φi) (hg : SG K T E g γ) (hb : SS K T E t ψ) : SS K T E (tFor wi g t) (fun e => bnd (φi e) fun p => forM p.2 p.1 (fun x e => bnd (γ x e) ψ) p.1 e) := fun s e σ r h' rl er eq Dn po =>
  hi.thnE rl er eq po.er fun t0 p J ev rlt ert wk eq2 po2 => by
    obtain ⟨its, ck⟩ := p
    refine ⟨fun i m σ' H' => m = its.length - i ∧ i ≤ its.length ∧ ∃ u e', u.H = H' ∧ Ev t0 u ∧ Rl K T u ∧ EnvR K u e' σ' ∧ forM ck its (fun x e => bnd (γ x e) ψ) (its.drop i) e' u.h = some (r, h'), ⟨_, rfl, Nat.zero_le _, t0, e, rfl, .refl t0, rlt, ert, eq2⟩, ?_⟩
    rintro i m σ' H' ⟨rfl, hle, u, e', rfl, evu, rlu, eru, equ⟩
    by_cases hlt : i < its.length
    · obtain ⟨d, hd, hdr⟩ := drop_cons hlt
      rw [hdr] at equ
      obtain ⟨k, equ⟩ := chk_bnd equ
      obtain ⟨g1, g2⟩ := wk.go u evu.toLt rlu k i d hd
      refine .inr ⟨g1, fun σ'' H'' => ∃ u e', u.H = H'' ∧ Ev t0 u ∧ Rl K T u ∧ EnvR K u e' σ'' ∧ forM ck its (fun x e => bnd (γ x e) ψ) (its.drop (i + 1)) e' u.h = some (r, h'), fun σ'' H'' h => ⟨_, by omega, rfl, hlt, h⟩, fun x H'' hx => ?_⟩
      obtain ⟨u1, rfl, hh1, ev1, rl1, hd1⟩ := g2 x H'' hx
      have er1 := eru.mono rlu ev1.toLt
      have evs1 : Ev s u1 := (ev.trans evu).trans ev1
      rw [← hh1] at equ
      rcases bnd_some equ with ⟨⟨f, e3⟩, h3, eb, ec⟩ | ⟨c, eb, rfl⟩
      · rcases bnd_some eb with ⟨e2, h2, eg, et⟩ | ⟨c, _, z⟩
        · refine hg u1 d x e' σ' (.ok e2) h2 rl1 hd1 er1 eg _ (fun e'' he u2 σ2 hu2 ev2 rl2 er2 => ?_) fun c hc => nomatch hc
          cases he
          refine hb u2 e2 σ2 (.ok (f, e3)) h3 rl2 er2 (by rw [hu2]; exact et) _ ⟨fun e'' he u3 σ3 hu3 ev3 rl3 er3 => ?_, fun e'' he u3 σ3 hu3 ev3 rl3 er3 => ?_, fun e'' he u3 σ3 hu3 ev3 rl3 er3 => ?_, fun d' e'' he u3 v3 hu3 ev3 rl3 hv3 => ?_, fun c hc => nomatch hc⟩
          · cases he
            exact ⟨u3, e3, rfl, ((evu.trans ev1).trans ev2).trans ev3, rl3, er3, by rw [hu3]; exact ec⟩
          · cases he
            obtain ⟨rfl, rfl⟩ := ret_some ec
            exact po.nx e3 rfl u3 σ3 hu3 ((evs1.trans ev2).trans ev3) rl3 er3
          · cases he
            exact ⟨u3, e3, rfl, ((evu.trans ev1).trans ev2).trans ev3, rl3, er3, by rw [hu3]; exact ec⟩
          · cases he
            obtain ⟨rfl, rfl⟩ := ret_some ec
            exact po.rt d' e3 rfl u3 v3 hu3 ((evs1.trans ev2).trans ev3) rl3 hv3
        · cases z
      · rcases bnd_some eb with ⟨e2, h2, eg, et⟩ | ⟨c', eg, z⟩
        · refine hg u1 d x e' σ' (.ok e2) h2 rl1 hd1 er1 eg _ (fun e'' he u2 σ2 hu2 ev2 rl2 er2 => ?_) fun c hc => nomatch hc
          cases he
          exact hb u2 e2 σ2 (.error c) h' rl2 er2 (by rw [hu2]; exact et) _ ⟨fun e' he => (by cases he), fun e' he => (by cases he), fun e' he => (by cases he), fun d e' he => (by cases he), (po.er.pre (evs1.trans ev2)).err⟩
        · cases z
          exact hg u1 d x e' σ' (.error c) h' rl1 hd1 er1 eg _ (fun e'' he => by cases he) (po.er.pre evs1).err
    · have hi' : i = its.length := by omega
      rw [List.drop_of_length_le (by omega)] at equ
      obtain ⟨k, equ⟩ := chk_bnd equ
      obtain ⟨rfl, rfl⟩ := ret_some equ
      refine .inl ⟨by rw [hi']; exact wk.stop u evu.toLt rlu k, po.nx e' rfl u σ' rfl (ev.trans evu) rlu eru⟩
/-! ### while -/
def whileM (c : En → M Bool) (b : En → M (Fl × En)) : Nat → En → M (Fl × En)
  | 0, _ => opt .none
  | n + 1, e => bnd (c e) fun k => if k = true then bnd (b e) (lend (whileM c b n)) else ret (.nx, e)
theorem ss_while (N : Nat) (hc : ST K T E tt θ) (hb : SS K T E t ψ) : SS K T E (tWhile tt t) (fun e => whileM θ ψ N e) := fun s e σ r h' rl er eq Dn po => by
  refine ⟨fun m σ' H' => ∃ u e', u.H = H' ∧ Ev s u ∧ Rl K T u ∧ EnvR K u e' σ' ∧ whileM θ ψ m e' u.h = some (r, h'), ⟨N, s, e, rfl, .refl s, rl, er, eq⟩, ?_⟩
  rintro m σ' H' ⟨u, e', rfl, evu, rlu, eru, equ⟩
  cases m with
  | zero => cases equ
  | succ m =>
    refine hc.thnE rlu eru equ (po.er.pre evu) fun w k v evw rlw erw hv eq2 po2 => ?_
    subst hv
    have evsw := evu.trans evw
    cases k with
    | false =>
      obtain ⟨rfl, rfl⟩ := ret_some eq2
      exact iteF (po.nx e' rfl w σ' rfl evsw rlw erw)
    | true =>
      refine iteT ⟨fun σ'' H'' => ∃ u e', u.H = H'' ∧ Ev s u ∧ Rl K T u ∧ EnvR K u e' σ'' ∧ whileM θ ψ m e' u.h = some (r, h'), fun σ'' H'' h => ⟨m, Nat.lt_succ_self m, h⟩, ?_⟩
      rcases bnd_some eq2 with ⟨⟨f, e3⟩, h3, eb, ec⟩ | ⟨c, eb, rfl⟩
      · refine hb w e' σ' (.ok (f, e3)) h3 rlw erw eb _ ⟨fun e'' he u3 σ3 hu3 ev3 rl3 er3 => ?_, fun e'' he u3 σ3 hu3 ev3 rl3 er3 => ?_, fun e'' he u3 σ3 hu3 ev3 rl3 er3 => ?_, fun d' e'' he u3 v3 hu3 ev3 rl3 hv3 => ?_, fun c hc => nomatch hc⟩
        · cases he
          exact ⟨u3, e3, rfl, evsw.trans ev3, rl3, er3, by rw [hu3]; exact ec⟩
        · cases he
          obtain ⟨rfl, rfl⟩ := ret_some ec
          exact po.nx e3 rfl u3 σ3 hu3 (evsw.trans ev3) rl3 er3
        · cases he
          exact ⟨u3, e3, rfl, evsw.trans ev3, rl3, er3, by rw [hu3]; exact ec⟩
        · cases he
          obtain ⟨rfl, rfl⟩ := ret_some ec
          exact po.rt d' e3 rfl u3 v3 hu3 (evsw.trans ev3) rl3 hv3
      · exact hb w e' σ' (.error c) h' rlw erw eb _ ⟨fun e' he => (by cases he), fun e' he => (by cases he), fun e' he => (by cases he), fun d e' he => (by cases he), (po.er.pre evsw).err⟩
/-! ### enumerate, zip -/
def enumL (ds : List D) : List D := ds.mapIdx fun i d => .tuple [.int (i : Nat), d]
theorem si_enum (h : SE K T E te φ) : SI K T E (iEnum K (tCons te tNil)) (fun e => bnd (φ e) fun d => bnd (itL d) fun p => match p.2 with | .none => ret (enumL p.1, .none) | some _ => opt .none) := fun s e σ r h' rl er eq Q po =>
  h.thn rl er eq po fun t d v ev rlt ert hv eq2 po2 => by
    cases d with
    | list ds =>
      rcases bnd_some eq2 with ⟨p, h3, e1, e2⟩ | ⟨c, e1, _⟩
      · obtain ⟨z, rfl⟩ := ret_some e1
        cases z
        obtain ⟨rfl, rfl⟩ := ret_some e2
        obtain ⟨a, xs, rfl, h2, h3, h4⟩ := hv
        refine ⟨a, xs, rfl, SqL.of h2, po2 t _ rfl (.refl t) rlt ⟨fun u l rlu _ i d hd => ?_, fun u l rlu _ => ?_⟩⟩
        · have hu := (l.fz a _ h2 (fun ps z => by cases z) h3).2
          have hd : (ds.mapIdx fun i d => D.tuple [.int (i : Nat), d])[i]? = some d := hd
          rw [List.getElem?_mapIdx] at hd
          obtain ⟨d0, hd0, rfl⟩ := Option.map_eq_some_iff.mp hd
          obtain ⟨x, hx, dx⟩ := (h4.mono rlt l).get hd0
          have hi : i < xs.length := (List.getElem?_eq_some_iff.mp hx).1
          refine ⟨(walk_enum (K := K) (a := a) (xs := xs)).goes i u.H hi (SqL.of hu), fun y H' hy => ?_⟩
          obtain ⟨p, x1, x2, rfl, hp, rfl, hx1, hx2⟩ := (walk_enum (K := K) (a := a) (xs := xs)).yields i u.H y H' hi (SqL.of hu) hy
          cases hx1
          have hx2 : xs[i]? = some x2 := hx2
          rw [hx] at hx2
          cases hx2
          obtain ⟨ev3, rl3⟩ := st_new rlu hp (.tup [.int (i : Nat), x])
          exact ⟨{ u with H := upd u.H p (.tup [.int (i : Nat), x]) }, rfl, rfl, ev3, rl3, p, _, rfl, SqT.of upd_same, _, _, rfl, rfl, _, _, rfl, dx.mono rlu ev3.toLt, rfl⟩
        · have hu := (l.fz a _ h2 (fun ps z => by cases z) h3).2
          have := (walk_enum (K := K) (a := a) (xs := xs)).stops u.H (SqL.of hu)
          rw [h4.length] at this
          show (Ite K a).stop (ds.mapIdx _).length u.H
          rw [List.length_mapIdx]
          exact this
      · cases e1
    | ref n =>
      rcases bnd_some eq2 with ⟨p, h3, e1, e2⟩ | ⟨c, e1, _⟩
      · unfold itL at e1
        simp only at e1
        obtain ⟨p', f1, z, rfl⟩ := rd_some e1
        split at f1
        · cases f1
          cases z
          cases e2
        · cases f1
      · unfold itL at e1
        simp only at e1
        obtain ⟨p', f1, z, _⟩ := rd_some e1
        cases z
    | _ => simp [itL, opt, bnd] at eq2
/-! ### comprehensions -/
def GOnly (g : TG) (vs : List Nat) : Prop := ∀ v σ H Q, g v σ H (fun σ2 H2 => wipe σ2 vs = wipe σ vs → Q σ2 H2) → g v σ H Q
theorem wipe_get (σ : L2.St) : ∀ (vs : List Nat) (j : Nat), (wipe σ vs)[j]? = if j ∈ vs then (σ[j]?).map (fun _ => Option.none) else σ[j]?
  | [], j => by simp [wipe]
  | v :: vs, j => by
    show ((wipe σ vs).set v Option.none)[j]? = _
    by_cases h : v = j
    · subst h
      rw [if_pos List.mem_cons_self]
      by_cases hl : v < (wipe σ vs).length
      · rw [List.getElem?_set_self hl]
        rw [wipe_length] at hl
        rw [List.getElem?_eq_getElem hl]
        rfl
      · rw [List.getElem?_eq_none (by rw [List.length_set]; omega)]
        rw [wipe_length] at hl
        rw [List.getElem?_eq_none (by omega)]
        rfl
    · rw [List.getElem?_set_ne h, wipe_get σ vs j]
      have : (j ∈ v :: vs) ↔ j ∈ vs := by simp [Ne.symm h]
      simp only [this]
theorem wipe_set {σ : L2.St} {vs : List Nat} {i : Nat} {x : Option V} (h : i ∈ vs) : wipe (σ.set i x) vs = wipe σ vs := by
  apply List.ext_getElem?
  intro j
  rw [wipe_get, wipe_get]
  by_cases hj : i = j
  · subst hj
    rw [if_pos h, if_pos h]
    by_cases hl : i < σ.length
    · rw [List.getElem?_set_self hl, List.getElem?_eq_getElem hl]
      rfl
    · rw [List.getElem?_eq_none (by rw [List.length_set]; omega), List.getElem?_eq_none (by omega)]
  · rw [List.getElem?_set_ne hj]
theorem wipe_wipe (σ : L2.St) (vs : List Nat) : wipe (wipe σ vs) vs = wipe σ vs := by
  apply List.ext_getElem?
  intro j
  rw [wipe_get, wipe_get]
  split
  · cases σ[j]? <;> rfl
  · rfl
theorem go_name {i : Nat} {vs : List Nat} (h : i ∈ vs) : GOnly (gName i) vs := fun v σ H Q q => q (wipe_set h)
def GsOnly (g : TGs) (vs : List Nat) : Prop := ∀ v σ H Q, g v σ H (fun σ2 H2 => wipe σ2 vs = wipe σ vs → Q σ2 H2) → g v σ H Q
theorem gos_nil {vs : List Nat} : GsOnly gNil vs := fun v σ H Q q => ⟨q.1, q.2 rfl⟩
/-- targets go on to more -/
def GMono (g : TG) : Prop := ∀ v σ H (Q Q' : L2.St → Hp → Prop), (∀ σ H, Q σ H → Q' σ H) → g v σ H Q → g v σ H Q'
theorem gm_name {i : Nat} : GMono (gName i) := fun v σ H Q Q' h q => h _ _ q
theorem gos_cons {g : TG} {gs : TGs} {vs : List Nat} (h : GOnly g vs) (m : GMono g) (hs : GsOnly gs vs) : GsOnly (gCons g gs) vs := fun v σ H Q q => by
  obtain ⟨w, r, e, q⟩ := q
  refine ⟨w, r, e, h w σ H _ (m _ _ _ _ _ (fun σ2 H2 q2 e2 => ?_) q)⟩
  refine hs r σ2 H2 Q ?_
  have : (fun σ3 H3 => wipe σ3 vs = wipe σ2 vs → Q σ3 H3) = (fun σ3 H3 => wipe σ3 vs = wipe σ vs → Q σ3 H3) := by rw [e2]
  rw [this]
  exact q2
theorem go_tup {n : Nat} {gs : TGs} {vs : List Nat} (h : GsOnly gs vs) : GOnly (gTup K n gs) vs := fun v σ H Q q => by
  obtain ⟨a, xs, h1, h2, h3, q⟩ := q
  exact ⟨a, xs, h1, h2, h3, h _ _ _ _ q⟩
def wipeE (e : En) : List Nat → En
  | [] => e
  | v :: vs => (wipeE e vs).set v .none
theorem EnvR.wipe {s : Ws} {e : En} {σ : L2.St} (h : EnvR K s e σ) : ∀ vs : List Nat, EnvR K s (wipeE e vs) (L2.wipe σ vs)
  | [] => h
  | v :: vs => (EnvR.wipe h vs).clr
/-- what may not fail -/
def safe {α : Type} (m : M α) : M α := fun h => match m h with
  | some (.ok a, h') => some (.ok a, h')
  | _ => .none
theorem safe_some {α β : Type} {m : M α} {f : α → M β} {h h' : MH} {r : Except Str β} (e : bnd (safe m) f h = some (r, h')) : ∃ a h1, m h = some (.ok a, h1) ∧ f a h1 = some (r, h') := by
  unfold bnd safe at e
  split at e
  · next a h1 hm =>
    split at hm
    · next a2 h2 hm2 =>
      cases hm
      exact ⟨a, h1, hm2, e⟩
    · cases hm
  · next c h1 hm => split at hm <;> cases hm
  · cases e
noncomputable def lcM (ck : Option Nat) (all : List D) (e : En) (γ : D → En → M En) (θ : En → M Bool) (φ : En → M D) : List D → M (List D)
  | [] => bnd (chk ck all) fun _ => ret []
  | x :: r => bnd (chk ck all) fun _ => bnd (safe (γ x e)) fun e2 => bnd (safe (θ e2)) fun b => if b = true then bnd (safe (φ e2)) fun d => bnd (lcM ck all e γ θ φ r) fun ds => ret (d :: ds) else lcM ck all e γ θ φ r
/-- what is behind some items already made -/
def behind (acc : List D) : Except Str (List D) → Except Str (List D)
  | .ok ds => .ok (acc ++ ds)
  | .error c => .error c
theorem sl_lc {wi : TI} {vs : List Nat} {φi : En → M (List D × Option Nat)} (hi : SI K T E wi φi) (go : GOnly g vs) (hg : SG K T E0 g γ) (ht : ST K T E0 tt θ) (he : SE K T E0 te φ) :
    SL K T E (tLc wi g tt te vs) (fun e => bnd (φi e) fun p => ifM (p.1.length ≤ sizeLine) (lcM p.2 p.1 (wipeE e vs) γ θ φ p.1)) := sl_mk fun s e σ r h' rl er eq Q pl pe =>
  hi.thnE rl er eq pe fun t0 p J ev rlt ert wk eq2 pe2 => by
    obtain ⟨its, ck⟩ := p
    obtain ⟨hsz, eq2⟩ := ifM_some eq2
    have hsz : its.length ≤ sizeLine := hsz
    intro dl hD
    have nw0 := nw_of (ds := []) (vs := []) rlt hD rfl
    have ev0 : Lt t0 ⟨dl :: t0.X, t0.as, t0.h, upd t0.H dl (.lst [])⟩ := nw0.lt
    refine ⟨fun i m H' => m = its.length - i ∧ i ≤ its.length ∧ ∃ u acc r', u.H = H' ∧ Nw K T t0 u dl acc ∧ acc.length ≤ i ∧ lcM ck its (wipeE e vs) γ θ φ (its.drop i) u.h = some (r', h') ∧ r = behind acc r', ⟨_, rfl, Nat.zero_le _, ⟨dl :: t0.X, t0.as, t0.h, upd t0.H dl (.lst [])⟩, [], r, rfl, nw0, Nat.le_refl _, eq2, by cases r <;> rfl⟩, ?_⟩
    rintro i m H' ⟨rfl, hle, u, acc, r', rfl, nw, hacc, equ, er'⟩
    by_cases hlt : i < its.length
    · obtain ⟨d, hd, hdr⟩ := drop_cons hlt
      rw [hdr] at equ
      obtain ⟨k, equ⟩ := chk_bnd equ
      obtain ⟨g1, g2⟩ := wk.go u nw.lt nw.rl k i d hd
      refine .inr ⟨g1, fun H'' => ∃ u acc r', u.H = H'' ∧ Nw K T t0 u dl acc ∧ acc.length ≤ i + 1 ∧ lcM ck its (wipeE e vs) γ θ φ (its.drop (i + 1)) u.h = some (r', h') ∧ r = behind acc r', fun H'' h => ⟨_, by omega, rfl, hlt, h⟩, fun x H'' hx => ?_⟩
      obtain ⟨u1, rfl, hh1, ev1, rl1, hd1⟩ := g2 x H'' hx
      rw [← hh1] at equ
      have er1 : EnvR K u1 (wipeE e vs) (L2.wipe σ vs) := (((ert.wipe vs).mono rlt nw.lt)).mono nw.rl ev1.toLt
      -- what stays: the list in hand
      have keep : ∀ {w : Ws}, Ev u1 w → Rl K T w → Nw K T t0 w dl acc := fun {w} evw rlw => by
        have evuw := ev1.trans evw
        exact ⟨rlw, by rw [evuw.x, nw.x], nw.lt.trans evuw.toLt, fun a ha => (evuw.kx a (by rw [nw.x]; exact List.mem_cons_of_mem _ ha)).trans (nw.kx a ha), nw.new, by
          obtain ⟨xs, q1, q2⟩ := nw.at_
          exact ⟨xs, (evuw.kx dl (by rw [nw.x]; exact List.mem_cons_self)).trans q1, q2.mono nw.rl evuw.toLt⟩⟩
      refine go x _ _ _ ?_
      obtain ⟨e2, h2, eg, et⟩ := safe_some equ
      refine hg u1 d x (wipeE e vs) (L2.wipe σ vs) (.ok e2) h2 rl1 hd1 er1 eg _ (fun e'' he2 u2 σ2 hu2 ev2 rl2 er2 => ?_) fun c hc => nomatch hc
      cases he2
      intro hw
      refine ⟨hw.trans (wipe_wipe σ vs), ?_⟩
      rw [← hu2] at et
      obtain ⟨b, h3, eb, ec⟩ := safe_some et
      refine ht u2 e2 σ2 (.ok b) h3 rl2 er2 eb _ fun u3 b' hu3 ev3 rl3 hb' => ?_
      subst hb'
      have er3 := er2.mono rl2 ev3.toLt
      rw [← hu3] at ec
      cases b with
      | true =>
        refine iteT ?_
        obtain ⟨y, h4, ey, ez⟩ := safe_some (f := fun d => bnd (lcM ck its (wipeE e vs) γ θ φ (its.drop (i + 1))) fun ds => ret (d :: ds)) ec
        refine he u3 e2 σ2 (.ok y) h4 rl3 er3 ey _ fun u4 v hu4 ev4 rl4 hv4 => ?_
        rw [← hu4] at ez
        have nw4 := keep ((ev2.trans ev3).trans ev4) rl4
        obtain ⟨xs, q1, q2⟩ := nw4.at_
        refine ⟨xs, q1, by rw [q2.length]; omega, ?_⟩
        -- the list grows by one
        have st : Nw K T t0 ⟨u4.X, u4.as, u4.h, upd u4.H dl (.lst (xs ++ [v]))⟩ dl (acc ++ [y]) := by
          have xd := rl4.xs dl (by rw [nw4.x]; exact List.mem_cons_self)
          have ne : ∀ {b : Addr}, u4.fz b → b ≠ dl := fun f z => f.1 (by rw [z, nw4.x]; exact List.mem_cons_self)
          have l4 : Lt u4 ⟨u4.X, u4.as, u4.h, upd u4.H dl (.lst (xs ++ [v]))⟩ := ⟨⟨[], by simp⟩, fun a o h n f => ⟨f, by show upd u4.H dl _ a = _; rw [upd_ne (ne f)]; exact h⟩⟩
          refine ⟨⟨rl4.len, rl4.inj, fun a ha => ?_, fun n o a h1 h2 => ?_, tabs_upd rl4.tb q1 trivial⟩, nw4.x, nw4.lt.trans l4, fun a ha => ?_, nw4.new, xs ++ [v], upd_same, ((q2.snoc hv4).mono rl4 l4)⟩
          · obtain ⟨z1, ys, z2, z3⟩ := rl4.xs a ha
            refine ⟨z1, ?_⟩
            by_cases ha2 : a = dl
            · exact ⟨.lst (xs ++ [v]), by rw [ha2]; exact upd_same, trivial⟩
            · exact ⟨ys, by show upd u4.H dl _ a = _; rw [upd_ne ha2]; exact z2, z3⟩
          · obtain ⟨w, z1, z2⟩ := rl4.ob n o a h1 h2
            have : a ≠ dl := fun z => xd.1 n (by rw [← z]; exact h2)
            exact ⟨w, by show upd u4.H dl _ a = _; rw [upd_ne this]; exact z1, z2.mono rl4 l4⟩
          · have : a ≠ dl := fun z => nw4.new (by rw [← z]; exact ha)
            show upd u4.H dl _ a = _
            rw [upd_ne this]
            exact nw4.kx a ha
        rcases bnd_some ez with ⟨ds, h5, e5, e6⟩ | ⟨c, e5, hc⟩
        · obtain ⟨rfl, rfl⟩ := ret_some e6
          exact ⟨_, acc ++ [y], .ok ds, rfl, st, by rw [List.length_append]; show acc.length + 1 ≤ _; omega, e5, by rw [er']; show Except.ok _ = Except.ok _; rw [List.append_assoc]; rfl⟩
        · subst hc
          exact ⟨_, acc ++ [y], .error c, rfl, st, by rw [List.length_append]; show acc.length + 1 ≤ _; omega, e5, er'⟩
      | false =>
        refine iteF ?_
        exact ⟨u3, acc, r', rfl, keep (ev2.trans ev3) rl3, by omega, ec, er'⟩
    · have hi' : i = its.length := by omega
      rw [List.drop_of_length_le (by omega)] at equ
      obtain ⟨k, equ⟩ := chk_bnd equ
      obtain ⟨rfl, rfl⟩ := ret_some equ
      have hr : r = .ok acc := by rw [er']; show Except.ok _ = _; rw [List.append_nil]
      refine .inl ⟨by rw [hi']; exact wk.stop u nw.lt nw.rl k, ?_⟩
      exact pl acc hr u dl rfl (nw.pre ev)
end
end Sc

namespace Sc
open PySem PySem.Spec PyProof.Rows L2
section
variable {K : PySem.W.Frag} {T : List (Addr × Str)} {E : XK} {ta tb tc te : TE} {φ φa φb φc : En → M D} {tr : TA} {φr : En → M (List D)}
/-! ### methods of the language's own kinds -/
def KM (K : PySem.W.Frag) (T : List (Addr × Str)) (E : XK) (r : V → List V → Hp → VK → Prop) (ψ : D → List D → M D) : Prop := ∀ s a ds x xs res h', Rl K T s → Dr K s a x → DrL K s ds xs → ψ a ds s.h = some (res, h') → ∀ Q, Po K T E s (Dr K) res h' Q → r x xs s.H Q
theorem km_rd {r : V → List V → Hp → VK → Prop} {f : MH → D → List D → Option D} (hr : ∀ s a ds x xs d, Rl K T s → Dr K s a x → DrL K s ds xs → f s.h a ds = some d → ∀ Q : VK, (∀ t v, t.h = s.h → Ev s t → Rl K T t → Dr K t d v → Q v t.H) → r x xs s.H Q) : KM K T E r (fun a ds => rd fun h => f h a ds) := fun s a ds x xs res h' rl ha hd eq Q po => by
  obtain ⟨d, h1, rfl, rfl⟩ := rd_some eq
  exact hr s a ds x xs d rl ha hd h1 Q po
def tyK (ty : String) (a : D) : M Unit := rd fun h => match a with
  | .str _ => if ty = "str" then some () else .none
  | a => if ty = "list" ∧ (sqL h a).isSome then some () else .none
theorem tyK_v {ty : String} {s : Ws} {a : D} {x : V} {h' : MH} {r : Except Str Unit} (rl : Rl K T s) (ha : Dr K s a x) (e : tyK ty a s.h = some (r, h')) : r = .ok () ∧ h' = s.h ∧ tyV K ty x s.H := by
  obtain ⟨_, f1, rfl, rfl⟩ := rd_some e
  split at f1
  · next z =>
    split at f1
    · next hty =>
      have ha : x = .str z := ha
      subst ha
      exact ⟨rfl, rfl, hty⟩
    · cases f1
  · split at f1
    · next hc =>
      obtain ⟨ds, hds⟩ := Option.isSome_iff_exists.mp hc.2
      obtain ⟨p, xs, rfl, h2, _⟩ := sqL_at rl ha hds
      exact ⟨rfl, rfl, .inl ⟨hc.1, xs, SqL.of h2⟩⟩
    · cases f1
theorem sm_bm {ty : String} {r : V → List V → Hp → VK → Prop} {ψ : D → List D → M D} (hm : KM K T E r ψ) (ha : SE K T E ta φa) (hr : SA K T E tr φr) : SE K T E (tBM K ty r ta tr) (fun e => bnd (φa e) fun a => bnd (tyK ty a) fun _ => bnd (φr e) fun ds => ψ a ds) := fun s e σ r h' rl er eq Q po =>
  ha.thn rl er eq po fun t a x ev rlt ert hx eq2 po2 => by
    rcases bnd_some eq2 with ⟨_, h3, e1, e2⟩ | ⟨c, e1, _⟩
    · obtain ⟨_, rfl, hty⟩ := tyK_v rlt hx e1
      exact ⟨hty, hr.thn rlt ert e2 po2 fun u ds xs ev2 rlu eru hd eq3 po3 => hm u a ds x xs _ _ rlu (hx.mono rlt ev2.toLt) hd eq3 Q po3⟩
    · obtain ⟨z, _⟩ := tyK_v rlt hx e1
      cases z
theorem sm_bm0 {ty : String} {r : V → List V → Hp → VK → Prop} {ψ : D → List D → M D} (hm : KM K T E r ψ) (ha : SE K T E ta φa) : SE K T E (tBM0 K ty r ta) (fun e => bnd (φa e) fun a => bnd (tyK ty a) fun _ => ψ a []) := fun s e σ r h' rl er eq Q po =>
  ha.thn rl er eq po fun t a x ev rlt ert hx eq2 po2 => by
    rcases bnd_some eq2 with ⟨_, h3, e1, e2⟩ | ⟨c, e1, _⟩
    · obtain ⟨_, rfl, hty⟩ := tyK_v rlt hx e1
      exact ⟨hty, hm t a [] x [] _ _ rlt hx rfl e2 Q po2⟩
    · obtain ⟨z, _⟩ := tyK_v rlt hx e1
      cases z
def chgL (f : List D → List D → Option (List D × D)) (a : D) (ds : List D) : M D := match a with
  | .ref n => fun h => match h[n]? with
    | some (.lst xs) => match f xs ds with
      | some (ys, d) => some (.ok d, h.set n (.lst ys))
      | .none => .none
    | _ => .none
  | _ => opt .none
theorem chgL_some {f : List D → List D → Option (List D × D)} {a : D} {ds : List D} {h h' : MH} {r : Except Str D} (e : chgL f a ds h = some (r, h')) : ∃ n xs ys d, a = .ref n ∧ h[n]? = some (.lst xs) ∧ f xs ds = some (ys, d) ∧ r = .ok d ∧ h' = h.set n (.lst ys) := by
  unfold chgL at e
  split at e
  · next n =>
    split at e
    · next xs hn =>
      split at e
      · next ys d hf =>
        cases e
        exact ⟨n, xs, ys, d, rfl, hn, hf, rfl, rfl⟩
      · cases e
    · cases e
  · cases e
def appF (xs ds : List D) : Option (List D × D) := match ds with
  | [y] => if xs.length < sizeLine then some (xs ++ [y], .none) else .none
  | _ => .none
theorem km_append : KM K T E rAppend (chgL appF) := fun s a ds x xs res h' rl ha hd eq Q po => by
  obtain ⟨n, zs, ys, d, rfl, hn, hf, rfl, rfl⟩ := chgL_some eq
  unfold appF at hf
  split at hf
  · next y =>
    split at hf
    · next hl =>
      cases hf
      obtain ⟨p, rfl, h2⟩ := ha
      obtain ⟨v, rfl, hv⟩ := drl1 hd
      obtain ⟨u, h3, ws, rfl, h4⟩ := rl.ob n _ p hn h2
      obtain ⟨ev, r2⟩ := st_set (o' := .lst (zs ++ [y])) (u' := .lst (ws ++ [v])) rl hn (fun z => by cases z) h2 ⟨_, rfl, h4.snoc hv⟩
      exact ⟨p, ws, v, rfl, rfl, h3, by rw [h4.length]; exact hl, po ⟨s.X, s.as, s.h.set n (.lst (zs ++ [y])), upd s.H p (.lst (ws ++ [v]))⟩ .non rfl ev r2 rfl⟩
    · cases hf
  · cases hf
def popF (xs ds : List D) : Option (List D × D) := match ds with
  | [] => (xs[xs.length - 1]?).map fun y => (xs.dropLast, y)
  | _ => .none
theorem km_pop : KM K T E rPop (chgL popF) := fun s a ds x xs res h' rl ha hd eq Q po => by
  obtain ⟨n, zs, ys, d, rfl, hn, hf, rfl, rfl⟩ := chgL_some eq
  unfold popF at hf
  split at hf
  · obtain ⟨y, hy, z⟩ := Option.map_eq_some_iff.mp hf
    cases z
    obtain ⟨p, rfl, h2⟩ := ha
    have hd : xs = [] := hd
    subst hd
    obtain ⟨u, h3, ws, rfl, h4⟩ := rl.ob n _ p hn h2
    obtain ⟨v, hv, dv⟩ := h4.get hy
    obtain ⟨ev, r2⟩ := st_set (o' := .lst zs.dropLast) (u' := .lst ws.dropLast) rl hn (fun z => by cases z) h2 ⟨_, rfl, h4.dropLast⟩
    exact ⟨p, ws, v, rfl, rfl, h3, by rw [h4.length]; exact hv, po ⟨s.X, s.as, s.h.set n (.lst zs.dropLast), upd s.H p (.lst ws.dropLast)⟩ v rfl ev r2 (dv.mono rl ev.toLt)⟩
  · cases hf
theorem km_extend : KM K T E rExtend (fun a ds => match ds with | [b] => bnd (rd fun h => sqL h b) fun zs => chgL (fun xs _ => if xs.length + zs.length ≤ sizeLine then some (xs ++ zs, .none) else .none) a [] | _ => opt .none) := fun s a ds x xs res h' rl ha hd eq Q po => by
  simp only at eq
  split at eq
  · next b =>
    obtain ⟨v, rfl, hv⟩ := drl1 hd
    rcases bnd_some eq with ⟨zs, h3, e1, e2⟩ | ⟨c, e1, _⟩
    · obtain ⟨zs', f1, z, rfl⟩ := rd_some e1
      cases z
      obtain ⟨n, ks, ys, d, rfl, hn, hf, rfl, rfl⟩ := chgL_some e2
      split at hf
      · next hl =>
        cases hf
        obtain ⟨p, rfl, h2⟩ := ha
        obtain ⟨q, us, rfl, g1, l1⟩ := sqL_at rl hv f1
        obtain ⟨u, h3, ws, rfl, h4⟩ := rl.ob n _ p hn h2
        obtain ⟨ev, r2⟩ := st_set (o' := .lst (ks ++ zs)) (u' := .lst (ws ++ us)) rl hn (fun z => by cases z) h2 ⟨_, rfl, h4.append l1⟩
        exact ⟨p, q, ws, us, rfl, rfl, h3, g1, by rw [h4.length, l1.length]; exact hl, po ⟨s.X, s.as, s.h.set n (.lst (ks ++ zs)), upd s.H p (.lst (ws ++ us))⟩ .non rfl ev r2 rfl⟩
      · cases hf
    · obtain ⟨_, _, z, _⟩ := rd_some e1
      cases z
  · cases eq
/-! texts -/
def s2 (f : Str → Str → Option D) (_ : MH) (a : D) : List D → Option D
  | [.str y] => match a with
    | .str x => f x y
    | _ => .none
  | _ => .none
theorem km_s2 {r : V → List V → Hp → VK → Prop} {f : Str → Str → Option D} (hr : ∀ x y d, f x y = some d → ∃ v, sclD d = some v ∧ ∀ H (Q : VK), Q v H → r (.str x) [.str y] H Q) : KM K T E r (fun a ds => rd fun h => s2 f h a ds) := km_rd fun s a ds x xs d rl ha hd e Q q => by
  unfold s2 at e
  split at e
  · next y =>
    split at e
    · next z =>
      obtain ⟨v, rfl, hv⟩ := drl1 hd
      have hv : v = .str y := hv
      have ha : x = .str z := ha
      subst hv ha
      obtain ⟨w, h1, h2⟩ := hr z y d e
      refine h2 s.H Q (q s w rfl (.refl s) rl ?_)
      cases d <;> cases h1 <;> rfl
    · cases e
  · cases e
theorem km_rstrip : KM K T E (fun x xs H Q => ∃ a b, x = .str a ∧ xs = [.str b] ∧ a.length ≤ sizeLine ∧ Q (.str (Txt.rstripChars a b)) H) (fun a ds => rd fun h => s2 (fun x y => if x.length ≤ sizeLine then some (.str (Txt.rstripChars x y)) else .none) h a ds) := km_s2 fun x y d e => by
  split at e
  · cases e; exact ⟨_, rfl, fun H Q q => ⟨x, y, rfl, rfl, by assumption, q⟩⟩
  · cases e
theorem km_find : KM K T E (fun x xs H Q => ∃ a b, x = .str a ∧ xs = [.str b] ∧ Q (.int (Txt.find a b)) H) (fun a ds => rd fun h => s2 (fun x y => some (.int (Txt.find x y))) h a ds) := km_s2 fun x y d e => by
  cases e; exact ⟨_, rfl, fun H Q q => ⟨x, y, rfl, rfl, q⟩⟩
theorem km_count : KM K T E (fun x xs H Q => ∃ a b, x = .str a ∧ xs = [.str b] ∧ Q (.int (Txt.count a b)) H) (fun a ds => rd fun h => s2 (fun x y => some (.int (Txt.count x y))) h a ds) := km_s2 fun x y d e => by
  cases e; exact ⟨_, rfl, fun H Q q => ⟨x, y, rfl, rfl, q⟩⟩
def txts : List D → Option (List Str)
  | [] => some []
  | .str b :: ds => (txts ds).map fun bs => b :: bs
  | _ => .none
theorem txts_v {s : Ws} : ∀ {ds : List D} {vs : List V} {bs : List Str}, DrL K s ds vs → txts ds = some bs → vs = bs.map V.str
  | [], _, _, h, e => by cases e; exact h
  | d :: ds, _, _, h, e => by
    obtain ⟨v, r, rfl, h2, h3⟩ := h
    cases d with
    | str b =>
      obtain ⟨bs, e1, rfl⟩ := Option.map_eq_some_iff.mp e
      have h2 : v = .str b := h2
      rw [h2, txts_v h3 e1]
      rfl
    | _ => cases e
theorem txts_map {α : Type} (f : α → Str) : ∀ l : List α, txts (l.map fun a => .str (f a)) = some (l.map f)
  | [] => rfl
  | a :: l => by show (txts _).map _ = _; rw [txts_map f l]; rfl
def joinM (h : MH) (a : D) : List D → Option D
  | [d] => match a with
    | .str x => (match sq h d with
      | some (.l es) => (txts es).bind fun ys => if (ys.map (·.length)).sum + ys.length * x.length ≤ 16777216 then some (.str (Txt.join x ys)) else .none
      | some (.t es) => (txts es).bind fun ys => if (ys.map (·.length)).sum + ys.length * x.length ≤ 16777216 then some (.str (Txt.join x ys)) else .none
      | _ => .none)
    | _ => .none
  | _ => .none
theorem km_join : KM K T E (rJoin K) (fun a ds => rd fun h => joinM h a ds) := km_rd fun s a ds x xs d rl ha hd e Q q => by
  unfold joinM at e
  split at e
  · next b =>
    split at e
    · next z =>
      obtain ⟨v, rfl, hv⟩ := drl1 hd
      have ha : x = .str z := ha
      subst ha
      split at e
      · next es h1 =>
        obtain ⟨ys, g1, g2⟩ := Option.bind_eq_some_iff.mp e
        split at g2
        · next hl =>
          cases g2
          obtain ⟨p, us, rfl, e2, e3⟩ := sq_l rl hv h1
          have e4 := txts_v e3 g1
          subst e4
          exact ⟨z, p, ys, rfl, rfl, .inl e2, hl, q s _ rfl (.refl s) rl rfl⟩
        · cases g2
      · next es h1 =>
        obtain ⟨ys, g1, g2⟩ := Option.bind_eq_some_iff.mp e
        split at g2
        · next hl =>
          cases g2
          obtain ⟨p, us, rfl, e2, e3⟩ := sq_t hv h1
          have e4 := txts_v e3 g1
          subst e4
          exact ⟨z, p, ys, rfl, rfl, .inr e2, hl, q s _ rfl (.refl s) rl rfl⟩
        · cases g2
      · cases e
    · cases e
  · cases e
/-! a tuple just written, and its method -/
def tBX (r : V → List V → Hp → VK → Prop) (to : TE) (t : TA) : TE := fun σ H Q => to σ H fun x H1 => t σ H1 fun xs H2 => r x xs H2 Q
theorem pe_tupM {X : Cx} {es : List Expr} {tes t : TA} {k : Nat} {e : Expr} {es' : List Expr} {name : Str} {tpos apos cpos : Pos} {id : String} {r : V → List V → Hp → VK → Prop} (pa : PlainAttrs "tuple") (slot : Slot "tuple" name id) (hty : typeOf (.builtin id) = pure (.type "method_descriptor")) (hm : MtR X id r) (hes : PA X es tes) (ha : PA X (e :: es') t)
    (hbase : attributeBase (.Tuple es k tpos) name X.env (eval (.Tuple es k tpos) X.env) = eval (.Tuple es k tpos) X.env := by rfl)
    (hfew : ((backTo cpos (starEach (e :: es') X.env)).all (fun x => !x.1) && (backToKw cpos (keywordEach [] X.env)).all (fun x => x.1.isSome)
      && decide ((e :: es').length + ([] : List Keyword).length + (if ([] : List Keyword).isEmpty then 0 else 1) < 30)) = true := by rfl)
    (hline : (apos.endLine == cpos.line) = true := by rfl) (hs : starEach (e :: es') X.env = (false, eval e X.env) :: starEach es' X.env := by rfl) (hplain : (backTo cpos (starEach es' X.env)).any (·.1) = false := by rfl) :
    PE X (.Call (.Attribute (.Tuple es k tpos) name apos) (e :: es') [] cpos) (tBX r (tTup tes) t) := by
  refine ⟨fun pins s σ H Q I h => ?_⟩
  refine wpAny_Call_method_late hbase hfew hline rfl (wpAny_Tuple_spliced (thn (hes.run tpos pins s σ H _ I h) fun us s1 ⟨xs, H1, I1, r1, z, q⟩ => ⟨by rw [← r1.length]; exact z, ?_⟩))
  have hf : H1 s1.heap.objs.size = Option.none := I1.hok.fresh (Nat.le_refl _)
  have I2 := I1.laid (a := s1.heap.objs.size) (o := .tup xs) (h' := s1.heap.push { cls := .type "tuple", data := .seq us.toArray }) (t' := s1.toks) (fun b u e => Heap.get?_push_of_some _ e) (Nat.le_refl _) ⟨z, us, r1, ⟨_, Heap.get?_push_size _ rfl, rfl, _, rfl⟩⟩
  refine ⟨"tuple", id, pa, slot, hty, ⟨_, Heap.get?_push_size _ rfl, rfl⟩, fun b hb => by cases hb; exact ⟨_, Heap.get?_push_size _ rfl, rfl⟩, ?_⟩
  have hA := ha.run cpos pins _ σ _ _ I2 (q _ hf)
  rw [hs] at hA ⊢
  refine Calls.callWith_builtin (by show (false || (backTo cpos (starEach es' X.env)).any (·.1)) = false; rw [hplain] <;> rfl) (Calls.evalArgs_plain ?_)
  exact thn hA fun us s2 ⟨vs, H2, I3, r2, q2⟩ => hm pins s2 σ H2 (.ref s1.heap.objs.size) vs _ us Q I3 rfl r2 q2
theorem sm_bmx {r : V → List V → Hp → VK → Prop} {ψ : D → List D → M D} (hm : KM K T E r ψ) (ha : SE K T E ta φa) (hr : SA K T E tr φr) : SE K T E (tBX r ta tr) (fun e => bnd (φa e) fun a => bnd (φr e) fun ds => ψ a ds) := fun s e σ r h' rl er eq Q po =>
  ha.thn rl er eq po fun t a x ev rlt ert hx eq2 po2 => hr.thn rlt ert eq2 po2 fun u ds xs ev2 rlu eru hd eq3 po3 => hm u a ds x xs _ _ rlu (hx.mono rlt ev2.toLt) hd eq3 Q po3
def rTupIx (K : PySem.W.Frag) : V → List V → Hp → VK → Prop := fun x xs H Q => ∃ p, ∃ ys : List Str, ∃ z j, x = .ref p ∧ xs = [.str z] ∧ SqT K H p (ys.map V.str) ∧ ys[j]? = some z ∧ (∀ m, m < j → ys[m]? ≠ some z) ∧ Q (.int (j : Nat)) H
theorem ktupix {X : Cx} (K : PySem.W.Frag) (hK : X.K = K := by rfl) : MtR X "tuple.index" (rTupIx K) := by subst hK; exact mt_tup_index
def idxM (a : D) : List D → Option D
  | [.str z] => match a with
    | .tuple ds => (txts ds).bind fun ys => (ys.findIdx? fun y => decide (y = z)).map fun (j : Nat) => .int (j : Int)
    | _ => .none
  | _ => .none
theorem km_tupix : KM K T E (rTupIx K) (fun a ds => rd fun _ => idxM a ds) := km_rd fun s a ds x xs d rl ha hd e Q q => by
  unfold idxM at e
  split at e
  · next z =>
    split at e
    · next es =>
      obtain ⟨ys, g1, g2⟩ := Option.bind_eq_some_iff.mp e
      obtain ⟨j, g3, rfl⟩ := Option.map_eq_some_iff.mp g2
      obtain ⟨v, rfl, hv⟩ := drl1 hd
      have hv : v = .str z := hv
      subst hv
      obtain ⟨p, us, rfl, e2, e3⟩ := ha
      have e4 := txts_v e3 g1
      subst e4
      obtain ⟨hj, h1, h2⟩ := List.findIdx?_eq_some_iff_getElem.mp g3
      refine ⟨p, ys, z, j, rfl, rfl, e2, ?_, fun m hm hz => ?_, q s _ rfl (.refl s) rl rfl⟩
      · rw [List.getElem?_eq_getElem hj, of_decide_eq_true h1]
      · have := h2 m hm
        rw [List.getElem?_eq_getElem (by omega)] at hz
        rw [Option.some.inj hz] at this
        simp at this
    · cases e
  · cases e
/-! ### calls -/
def spM (K : PySem.W.Frag) (T : List (Addr × Str)) (n : Nat) (F : List D → M D) : Sp := fun vs H Q E => ∃ s ds r h', s.H = H ∧ Rl K T s ∧ DrL K s ds vs ∧ ds.length = n ∧ F ds s.h = some (r, h') ∧ Po K T E s (Dr K) r h' Q
theorem spM.len {n : Nat} {F : List D → M D} {vs : List V} {H : Hp} {Q : VK} (h : spM K T n F vs H Q E) : vs.length = n := by
  obtain ⟨s, ds, r, h', rfl, rl, hd, hn, _⟩ := h
  rw [hd.length, hn]
def callM (n : Nat) (F : List D → M D) (ds : List D) : M D := ifM (ds.length = n) (F ds)
theorem sm_call {n : Nat} {F : List D → M D} (ha : SA K T E tr φr) : SE K T E (tCall (spM K T n F) [] E tr) (fun e => bnd (φr e) (callM n F)) := fun s e σ r h' rl er eq Q po =>
  ha.thn rl er eq po fun t ds vs ev rlt ert hv eq2 po2 => by
    obtain ⟨hn, eq2⟩ := ifM_some eq2
    rw [List.append_nil]
    exact ⟨t, ds, r, h', rfl, rlt, hv, hn, eq2, po2⟩
def isI (C m : Str) : D → M Unit
  | .ref n => rd fun h => match h[n]? with | some (.ins c fs) => if c = C ∧ (getF m fs).isNone then some () else .none | _ => .none
  | _ => opt .none
theorem sm_meth {C m : Str} {n : Nat} {F : List D → M D} (ha : SE K T E ta φa) (hr : SA K T E tr φr) : SE K T E (tMeth (He.ga K C) m (spM K T n F) [] E ta tr) (fun e => bnd (φa e) fun o => bnd (isI C m o) fun _ => bnd (φr e) fun ds => callM n F (o :: ds)) := fun s e σ r h' rl er eq Q po =>
  ha.thn rl er eq po fun t o x ev rlt ert hx eq2 po2 => by
    cases o with
    | ref i =>
      rcases bnd_some eq2 with ⟨_, h3, e1, e2⟩ | ⟨c, e1, _⟩
      · unfold isI at e1
        simp only at e1
        obtain ⟨_, f1, _, rfl⟩ := rd_some e1
        split at f1
        · next c fs ho =>
          split at f1
          · next hc =>
            obtain ⟨rfl, hg⟩ := hc
            obtain ⟨a, rfl, h2⟩ := hx
            obtain ⟨u, h3, dx, vs, rfl, h4⟩ := rlt.ob i _ a ho h2
            refine ⟨a, dx, vs, rfl, h3, h4.none (Option.isNone_iff_eq_none.mp hg), hr.thn rlt ert e2 po2 fun u ds us ev2 rlu eru hd eq3 po3 => ?_⟩
            obtain ⟨hn, eq3⟩ := ifM_some eq3
            rw [List.append_nil]
            exact ⟨u, .ref i :: ds, r, h', rfl, rlu, ⟨_, _, rfl, ⟨a, rfl, ev2.toLt.get h2⟩, hd⟩, hn, eq3, po3⟩
          · cases f1
        · cases f1
      · unfold isI at e1
        simp only at e1
        obtain ⟨_, _, z, _⟩ := rd_some e1
        cases z
    | _ => simp [isI, opt, bnd] at eq2
def okN (o : D) : D → M D
  | .none => ret o
  | _ => opt .none
theorem sm_make {C : Str} {n : Nat} {F : List D → M D} (hr : SA K T E tr φr) : SE K T E (tMake (He.ga K C) (spM K T n F) [] E tr) (fun e => bnd (φr e) fun ds => bnd (newO (.ins C [])) fun o => bnd (callM n F (o :: ds)) (okN o)) := fun s e σ r h' rl er eq Q po =>
  hr.thn rl er eq po fun t ds us ev rlt ert hd eq2 po2 => fun x dx hx hdx hne => by
    obtain ⟨ev1, rl1⟩ := st_new rlt hdx (.own x)
    have hx1 : upd t.H dx (.own x) x = Option.none := by rw [upd_ne (Ne.symm hne)]; exact hx
    obtain ⟨ev2, rl2⟩ := st_alloc (o := .ins C []) (u := .ins (He.ga K C) dx []) rl1 hx1 ⟨dx, [], rfl, rfl⟩ fun z => by cases z
    have ev12 := ev1.trans ev2
    rw [List.append_nil]
    have hself : Dr K ⟨t.X, t.as ++ [x], t.h ++ [.ins C []], upd (upd t.H dx (.own x)) x (.ins (He.ga K C) dx [])⟩ (.ref t.h.length) (.ref x) := ⟨x, rfl, by show (t.as ++ [x])[t.h.length]? = _; rw [← rlt.len, List.getElem?_append_right (Nat.le_refl _), Nat.sub_self]; rfl⟩
    rcases bnd_some eq2 with ⟨o, h3, e1, e2⟩ | ⟨c, e1, _⟩
    · cases e1
      rcases bnd_some e2 with ⟨v, h4, e3, e4⟩ | ⟨c, e3, rfl⟩
      · obtain ⟨hn, e3⟩ := ifM_some e3
        cases v with
        | none =>
          obtain ⟨rfl, rfl⟩ := ret_some e4
          exact ⟨_, .ref t.h.length :: ds, .ok .none, _, rfl, rl2, ⟨_, _, rfl, hself, hd.mono rlt ev12.toLt⟩, hn, e3, fun w v hw evw rlw hv => ⟨hv, po2 w _ hw (ev12.trans evw) rlw (hself.mono rl2 evw.toLt)⟩⟩
        | _ => simp [okN, opt] at e4
      · obtain ⟨hn, e3⟩ := ifM_some e3
        exact ⟨_, .ref t.h.length :: ds, .error c, h', rfl, rl2, ⟨_, _, rfl, hself, hd.mono rlt ev12.toLt⟩, hn, e3, fun w hw evw rlw => po2 w hw (ev12.trans evw) rlw⟩
    · cases e1
/-! ### told -/
def toldM (CL : List Str) (m : M D) : M D := fun h => match m h with
  | some (.ok d, h') => some (.ok d, h')
  | some (.error c, h') => if c ∈ CL then some (.ok (.tuple [.str "refused", .str c]), h') else .none
  | .none => .none
theorem sm_told {CL : List Str} {tx : XK → TE} (hb : ∀ E', SE K T E' (tx E') φ) : SE K T E (tTold T K CL tx) (fun e => toldM CL (φ e)) := fun s e σ r h' rl er eq Q po => by
  refine ⟨rl.tb, fun H1 x1 T1 => ?_⟩
  have l : Lt s { s with H := H1 } := ⟨⟨[], by simp⟩, fun a o h n f => ⟨f, x1 a o h n⟩⟩
  have ev : Ev s { s with H := H1 } := ⟨l, rfl, fun a ha => by
    obtain ⟨_, xs, e, em⟩ := rl.xs a ha
    show H1 a = _
    rw [e]
    exact x1 a _ e em.no⟩
  have rl1 : Rl K T { s with H := H1 } := ⟨rl.len, rl.inj, fun a ha => by
      obtain ⟨z1, xs, z2, z3⟩ := rl.xs a ha
      exact ⟨z1, xs, x1 a _ z2 z3.no, z3⟩, fun n o a h1 h2 => by
      obtain ⟨u, z1, z2⟩ := rl.ob n o a h1 h2
      exact ⟨u, x1 a _ z1 z2.mut.no, z2.mono rl l⟩, T1⟩
  have eq : (match φ e s.h with | some (.ok d, h') => some (.ok d, h') | some (.error c, h') => if c ∈ CL then some (.ok (D.tuple [.str "refused", .str c]), h') else Option.none | .none => .none) = some (r, h') := eq
  split at eq
  · next d h2 hm =>
    cases eq
    exact hb _ { s with H := H1 } e σ (.ok d) _ rl1 (er.mono rl l) hm Q (Po.pre (r := .ok d) po ev)
  · next c h2 hm =>
    split at eq
    · next hc =>
      cases eq
      refine hb _ { s with H := H1 } e σ (.error c) _ rl1 (er.mono rl l) hm Q fun t ht ev2 rlt => ⟨c, hc, rfl, rfl, fun p H' sm hp g => ?_⟩
      -- the new tuple
      have ne : ∀ {b u}, t.H b = some u → b ≠ p := fun e => ne_of_none e hp
      have lt : Lt t { t with H := H' } := ⟨⟨[], by simp⟩, fun a o h n f => ⟨f, sm a o h⟩⟩
      have rl2 : Rl K T { t with H := H' } := ⟨rlt.len, rlt.inj, fun a ha => by
        obtain ⟨z1, xs, z2, z3⟩ := rlt.xs a ha
        exact ⟨z1, xs, sm a _ z2, z3⟩, fun n o a h1 h2 => by
        obtain ⟨u, z1, z2⟩ := rlt.ob n o a h1 h2
        exact ⟨u, sm a _ z1, z2.mono rlt lt⟩, tabs_ext rlt.tb sm⟩
      have ev3 : Ev t { t with H := H' } := ⟨lt, rfl, fun a ha => by
        obtain ⟨_, xs, e, em⟩ := rlt.xs a ha
        show H' a = _
        rw [e]
        exact sm a _ e⟩
      exact po { t with H := H' } (.ref p) ht ((ev.trans ev2).trans ev3) rl2 ⟨p, _, rfl, SqT.of g, _, _, rfl, rfl, _, _, rfl, rfl, rfl⟩
    · cases eq
  · cases eq
/-! ### a def -/
def startD (m : Nat) (ds : List D) : En := ds.map some ++ List.replicate (m - ds.length) .none
def endM (p : Fl × En) : M D := match p.1 with
  | .nx => ret .none
  | .rt d => ret d
  | _ => opt .none
def runB (m : Nat) (ψ : En → M (Fl × En)) (ds : List D) : M D := bnd (ψ (startD m ds)) endM
theorem start_env {s : Ws} {N : List Str} {ds : List D} {vs : List V} (h : DrL K s ds vs) : EnvR K s (startD N.length ds) (L2.start N vs) := by
  refine ⟨?_, fun i d hd => ?_⟩
  · unfold startD L2.start
    rw [List.length_append, List.length_append, List.length_map, List.length_map, List.length_replicate, List.length_replicate, h.length]
  · unfold startD at hd
    unfold L2.start
    by_cases hi : i < ds.length
    · rw [List.getElem?_append_left (by rw [List.length_map]; exact hi), List.getElem?_map] at hd
      obtain ⟨d', h1, h2⟩ := Option.map_eq_some_iff.mp hd
      cases h2
      obtain ⟨v, h3, h4⟩ := h.get h1
      exact ⟨v, by rw [List.getElem?_append_left (by rw [List.length_map, h.length]; exact hi), List.getElem?_map, h3]; rfl, h4⟩
    · rw [List.getElem?_append_right (by rw [List.length_map]; omega), List.getElem?_replicate] at hd
      split at hd <;> cases hd
/-- the body tells what the promise wants -/
theorem body_ok {t : TS} {ψ : En → M (Fl × En)} {N : List Str} {n : Nat} {F : List D → M D} {vs : List V} {H : Hp} {Q : VK} (hs : SS K T E t ψ) (hF : ∀ ds h x, F ds h = some x → ds.length = n → runB N.length ψ ds h = some x) (h : spM K T n F vs H Q E) : t { nx := fun _ H' => Q .non H', rt := Q } (L2.start N vs) H := by
  obtain ⟨s, ds, r, h', rfl, rl, hd, hn, hf, po⟩ := h
  have hr := hF ds s.h _ hf hn
  rcases bnd_some hr with ⟨⟨f, e2⟩, h2, e1, e3⟩ | ⟨c, e1, rfl⟩
  · refine hs s _ _ (.ok (f, e2)) h2 rl (start_env hd) e1 _ ⟨fun e' he t σ' ht ev rlt ert => ?_, fun e' he t σ' ht ev rlt ert => ?_, fun e' he t σ' ht ev rlt ert => ?_, fun d e' he t v ht ev rlt hv => ?_, fun c hc => nomatch hc⟩
    · cases he
      obtain ⟨rfl, rfl⟩ := ret_some e3
      exact po t .non ht ev rlt rfl
    · cases he
      cases e3
    · cases he
      cases e3
    · cases he
      obtain ⟨rfl, rfl⟩ := ret_some e3
      exact po t v ht ev rlt hv
  · exact hs s _ _ (.error c) h' rl (start_env hd) e1 _ ⟨fun e' he => (by cases he), fun e' he => (by cases he), fun e' he => (by cases he), fun d e' he => (by cases he), fun c' hc => by cases hc; exact po⟩
end
section
variable {P : Program} {w : World} {K : PySem.W.Frag} {mg : Str → Option Value} {base : Heap} {Ts : List (Addr × Str)}
theorem cal_M {x : Str} {st : Stmt} {N ps : List Str} {k n : Nat} {F : List D → M D} {ψ : En → M (Fl × En)} (FD : FnD K x st) (gx : mg x = some (.ref (He.ga K x))) (S : FnScope N ps (defScope st))
    (hb : ∀ (kV doc pm : Value) (an : Option Addr) (cdv ct : Value) (us : List Value), us.length = ps.length → bindArgs (PySem.W.fnOf x x (defArgs st) (defBody st) (defScope st) .none kV doc pm an cdv ct) ⟨us, []⟩ = pure (ps.zip us))
    (hbody : ∀ (f : Addr) (cdv : Value) (A' : Around) (outer : List Env) (s : Shared) (H : Hp) (E : XK), Room k (A'.deeper (envOfC x (defScope st) s.heap.objs.size f cdv)) → ∃ t, PSs (cxOf (XC P w) P w K mg base N x (defScope st) f cdv A' outer s H E) (defBody st) t ∧ SS K Ts E t ψ)
    (hn : n = ps.length) (hF : ∀ ds h x, F ds h = some x → ds.length = n → runB N.length ψ ds h = some x) : Cal P w K mg base (XC P w) (k + 1) x ps (spM K Ts n F) :=
  Cal.of FD gx S hb (fun vs H Q E h => hn ▸ h.len) fun f cdv A' outer s H vs Q E hr h => by
    obtain ⟨t, h1, h2⟩ := hbody f cdv A' outer s H E hr
    exact ⟨t, h1, body_ok h2 hF h⟩
theorem calM_M {C m q : Str} {st : Stmt} {N ps : List Str} {k n : Nat} {F : List D → M D} {ψ : En → M (Fl × En)} (FD : FnM K C m q st) (c : Cls K (He.ga K C)) (hm : Meth K (He.ga K C) m (He.ma K (He.ga K C) m)) (S : FnScope N ps (defScope st))
    (hb : ∀ (kV doc pm : Value) (an : Option Addr) (cdv ct : Value) (us : List Value), us.length = ps.length → bindArgs (PySem.W.fnOf m q (defArgs st) (defBody st) (defScope st) .none kV doc pm an cdv ct) ⟨us, []⟩ = pure (ps.zip us))
    (hbody : ∀ (f : Addr) (cdv : Value) (A' : Around) (outer : List Env) (s : Shared) (H : Hp) (E : XK), Room k (A'.deeper (envOfC q (defScope st) s.heap.objs.size f cdv)) → ∃ t, PSs (cxOf (XC P w) P w K mg base N q (defScope st) f cdv A' outer s H E) (defBody st) t ∧ SS K Ts E t ψ)
    (hn : n = ps.length) (hF : ∀ ds h x, F ds h = some x → ds.length = n → runB N.length ψ ds h = some x) : CalM P w K mg base (XC P w) (k + 1) C m ps (spM K Ts n F) :=
  CalM.of FD c hm S hb (fun vs H Q E h => hn ▸ h.len) fun f cdv A' outer s H vs Q E hr h => by
    obtain ⟨t, h1, h2⟩ := hbody f cdv A' outer s H E hr
    exact ⟨t, h1, body_ok h2 hF h⟩
theorem calI_M {C q : Str} {st : Stmt} {N ps : List Str} {k n : Nat} {F : List D → M D} {ψ : En → M (Fl × En)} (FD : FnM K C "__init__" q st) (S : FnScope N ps (defScope st))
    (hb : ∀ (kV doc pm : Value) (an : Option Addr) (cdv ct : Value) (us : List Value), us.length = ps.length → bindArgs (PySem.W.fnOf "__init__" q (defArgs st) (defBody st) (defScope st) .none kV doc pm an cdv ct) ⟨us, []⟩ = pure (ps.zip us))
    (hbody : ∀ (f : Addr) (cdv : Value) (A' : Around) (outer : List Env) (s : Shared) (H : Hp) (E : XK), Room k (A'.deeper (envOfC q (defScope st) s.heap.objs.size f cdv)) → ∃ t, PSs (cxOf (XC P w) P w K mg base N q (defScope st) f cdv A' outer s H E) (defBody st) t ∧ SS K Ts E t ψ)
    (hn : n = ps.length) (hF : ∀ ds h x, F ds h = some x → ds.length = n → runB N.length ψ ds h = some x) : CalI P w K mg base (XC P w) (k + 1) C ps (spM K Ts n F) :=
  CalI.of FD S hb (fun vs H Q E h => hn ▸ h.len) fun f cdv A' outer s H vs Q E hr h => by
    obtain ⟨t, h1, h2⟩ := hbody f cdv A' outer s H E hr
    exact ⟨t, h1, body_ok h2 hF h⟩
theorem cal_R {x : Str} {st : Stmt} {N ps : List Str} {k n : Nat} {ψ : En → M (Fl × En)} (FD : FnD K x st) (gx : mg x = some (.ref (He.ga K x))) (S : FnScope N ps (defScope st))
    (hb : ∀ (kV doc pm : Value) (an : Option Addr) (cdv ct : Value) (us : List Value), us.length = ps.length → bindArgs (PySem.W.fnOf x x (defArgs st) (defBody st) (defScope st) .none kV doc pm an cdv ct) ⟨us, []⟩ = pure (ps.zip us))
    (hbody : ∀ (f : Addr) (cdv : Value) (A' : Around) (outer : List Env) (s : Shared) (H : Hp) (E : XK), Room k (A'.deeper (envOfC x (defScope st) s.heap.objs.size f cdv)) → ∃ t, PSs (cxOf (XC P w) P w K mg base N x (defScope st) f cdv A' outer s H E) (defBody st) t ∧ SS K Ts E t ψ)
    (hn : n = ps.length) : Cal P w K mg base (XC P w) (k + 1) x ps (spM K Ts n (runB N.length ψ)) := cal_M FD gx S hb hbody hn fun _ _ _ h _ => h
theorem calM_R {C m q : Str} {st : Stmt} {N ps : List Str} {k n : Nat} {ψ : En → M (Fl × En)} (FD : FnM K C m q st) (c : Cls K (He.ga K C)) (hm : Meth K (He.ga K C) m (He.ma K (He.ga K C) m)) (S : FnScope N ps (defScope st))
    (hb : ∀ (kV doc pm : Value) (an : Option Addr) (cdv ct : Value) (us : List Value), us.length = ps.length → bindArgs (PySem.W.fnOf m q (defArgs st) (defBody st) (defScope st) .none kV doc pm an cdv ct) ⟨us, []⟩ = pure (ps.zip us))
    (hbody : ∀ (f : Addr) (cdv : Value) (A' : Around) (outer : List Env) (s : Shared) (H : Hp) (E : XK), Room k (A'.deeper (envOfC q (defScope st) s.heap.objs.size f cdv)) → ∃ t, PSs (cxOf (XC P w) P w K mg base N q (defScope st) f cdv A' outer s H E) (defBody st) t ∧ SS K Ts E t ψ)
    (hn : n = ps.length) : CalM P w K mg base (XC P w) (k + 1) C m ps (spM K Ts n (runB N.length ψ)) := calM_M FD c hm S hb hbody hn fun _ _ _ h _ => h
theorem calI_R {C q : Str} {st : Stmt} {N ps : List Str} {k n : Nat} {ψ : En → M (Fl × En)} (FD : FnM K C "__init__" q st) (S : FnScope N ps (defScope st))
    (hb : ∀ (kV doc pm : Value) (an : Option Addr) (cdv ct : Value) (us : List Value), us.length = ps.length → bindArgs (PySem.W.fnOf "__init__" q (defArgs st) (defBody st) (defScope st) .none kV doc pm an cdv ct) ⟨us, []⟩ = pure (ps.zip us))
    (hbody : ∀ (f : Addr) (cdv : Value) (A' : Around) (outer : List Env) (s : Shared) (H : Hp) (E : XK), Room k (A'.deeper (envOfC q (defScope st) s.heap.objs.size f cdv)) → ∃ t, PSs (cxOf (XC P w) P w K mg base N q (defScope st) f cdv A' outer s H E) (defBody st) t ∧ SS K Ts E t ψ)
    (hn : n = ps.length) : CalI P w K mg base (XC P w) (k + 1) C ps (spM K Ts n (runB N.length ψ)) := calI_M FD S hb hbody hn fun _ _ _ h _ => h
end
end Sc

namespace Sc
open PySem PySem.Spec PyProof.Rows L2
/-! ### promises of the other form -/
mutual
def ofPy : PyData → D
  | .none => .none
  | .bool b => .bool b
  | .int i => .int i
  | .str x => .str x
  | .list ds => .list (ofPyL ds)
  | .tuple ds => .tuple (ofPyL ds)
  | .dict _ => .none
def ofPyL : List PyData → List D
  | [] => []
  | d :: ds => ofPy d :: ofPyL ds
end
theorem ofPyL_map : ∀ ds : List PyData, ofPyL ds = ds.map ofPy
  | [] => rfl
  | d :: ds => by rw [ofPyL, ofPyL_map ds]; rfl
/-! without the script -/
mutual
def py2 : D → Option PyData
  | .none => some .none
  | .bool b => some (.bool b)
  | .int i => some (.int i)
  | .str x => some (.str x)
  | .list ds => (py2L ds).map .list
  | .tuple ds => (py2L ds).map .tuple
  | _ => .none
def py2L : List D → Option (List PyData)
  | [] => some []
  | d :: ds => (py2 d).bind fun p => (py2L ds).map fun ps => p :: ps
end
mutual
def noDict : PyData → Bool
  | .dict _ => false
  | .list ds => noDictL ds
  | .tuple ds => noDictL ds
  | _ => true
def noDictL : List PyData → Bool
  | [] => true
  | d :: ds => noDict d && noDictL ds
end
mutual
theorem py2_of : ∀ {p : PyData}, noDict p = true → py2 (ofPy p) = some p
  | .none, _ => rfl
  | .bool _, _ => rfl
  | .int _, _ => rfl
  | .str _, _ => rfl
  | .list ds, h => by show (py2L (ofPyL ds)).map _ = _; rw [py2L_of h]; rfl
  | .tuple ds, h => by show (py2L (ofPyL ds)).map _ = _; rw [py2L_of h]; rfl
  | .dict _, h => by cases h
theorem py2L_of : ∀ {ps : List PyData}, noDictL ps = true → py2L (ofPyL ps) = some ps
  | [], _ => rfl
  | p :: ps, h => by
    obtain ⟨h1, h2⟩ := Bool.and_eq_true_iff.mp h
    show (py2 (ofPy p)).bind _ = _
    rw [py2_of h1]
    show (py2L (ofPyL ps)).map _ = _
    rw [py2L_of h2]
    rfl
end
section
variable {K : PySem.W.Frag} {T : List (Addr × Str)} {E : XK} {s : Ws} {tr : TA} {φr : En → M (List D)}
open Classical in
noncomputable def liveA (s : Ws) : List Addr := s.X ++ s.as.filter fun a => decide (¬ s.fz a)
theorem live_fz {a : Addr} (h : a ∉ liveA s) : s.fz a := by
  unfold liveA at h
  rw [List.mem_append, not_or] at h
  by_cases hf : s.fz a
  · exact hf
  · refine ⟨h.1, fun n hn => ?_⟩
    exact absurd (List.mem_filter.mpr ⟨List.mem_of_getElem? hn, by simpa using hf⟩) h.2
theorem fz_live {a : Addr} (h : s.fz a) : a ∉ liveA s := by
  unfold liveA
  rw [List.mem_append, not_or]
  refine ⟨h.1, fun z => ?_⟩
  have := (List.mem_filter.mp z).2
  simp at this
  exact this h
theorem live_fd (rl : Rl K T s) : Fd (liveA s) s.H := fun a ha => by
  rcases List.mem_append.mp ha with z | z
  · obtain ⟨_, xs, e, em⟩ := rl.xs a z
    exact ⟨_, e, em⟩
  · obtain ⟨n, hn⟩ := List.getElem?_of_mem (List.mem_filter.mp z).1
    exact rl.mem hn
theorem hid_live {a : Addr} {o : HO} (h : s.H a = some o) (f : s.fz a) : hid (liveA s) s.H a = some o := by
  rw [hid_out (fz_live f)]
  exact h
theorem live_sqT (rl : Rl K T s) {a : Addr} {xs : List V} (h : SqT K s.H a xs) : SqT K (hid (liveA s) s.H) a xs := by
  rcases h with (h | ⟨o, h⟩) | h
  · exact .inl (.inl (hid_live h (rl.imm h fun z => z)))
  · exact .inl (.inr ⟨o, hid_live h (rl.imm h fun z => z)⟩)
  · exact .inr h
mutual
theorem dr_da (rl : Rl K T s) : ∀ {d : D} {v : V} {p : PyData}, Dr K s d v → py2 d = some p → Da K (hid (liveA s) s.H) p v
  | .none, _, _, h, e => by cases e; exact h
  | .bool _, _, _, h, e => by cases e; exact h
  | .int _, _, _, h, e => by cases e; exact h
  | .str _, _, _, h, e => by cases e; exact h
  | .list ds, _, _, h, e => by
    obtain ⟨a, xs, h1, h2, h3, h4⟩ := h
    obtain ⟨ps, e1, rfl⟩ := Option.map_eq_some_iff.mp e
    exact ⟨a, xs, h1, hid_live h2 h3, dr_daL rl h4 e1⟩
  | .tuple ds, _, _, h, e => by
    obtain ⟨a, xs, h1, h2, h4⟩ := h
    obtain ⟨ps, e1, rfl⟩ := Option.map_eq_some_iff.mp e
    exact ⟨a, xs, h1, live_sqT rl h2, dr_daL rl h4 e1⟩
  | .ref _, _, _, _, e => by cases e
  | .scr _, _, _, _, e => by cases e
theorem dr_daL (rl : Rl K T s) : ∀ {ds : List D} {vs : List V} {ps : List PyData}, DrL K s ds vs → py2L ds = some ps → DaL K (hid (liveA s) s.H) ps vs
  | [], _, _, h, e => by cases e; exact h
  | d :: ds, _, _, h, e => by
    obtain ⟨w, r, rfl, h2, h3⟩ := h
    obtain ⟨p, e1, e2⟩ := Option.bind_eq_some_iff.mp e
    obtain ⟨ps, e3, rfl⟩ := Option.map_eq_some_iff.mp e2
    exact ⟨w, r, rfl, dr_da rl h2 e1, dr_daL rl h3 e3⟩
end
mutual
theorem da_dr {t : Ws} (hx : t.X = s.X) (ha : t.as = s.as) (hh : ∀ a, s.fz a → t.fz a) : ∀ {p : PyData} {v : V}, Da K (hid (liveA s) t.H) p v → Dr K t (ofPy p) v
  | .none, _, h => h
  | .bool _, _, h => h
  | .int _, _, h => h
  | .str _, _, h => h
  | .list ds, _, h => by
    obtain ⟨a, xs, h1, h2, h3⟩ := h
    obtain ⟨g1, g2⟩ := hid_le h2
    exact ⟨a, xs, h1, g1, hh a (live_fz g2), da_drL hx ha hh h3⟩
  | .tuple ds, _, h => by
    obtain ⟨a, xs, h1, h2, h3⟩ := h
    exact ⟨a, xs, h1, xt_sqT xt_hid h2, da_drL hx ha hh h3⟩
  | .dict _, _, h => h.elim
theorem da_drL {t : Ws} (hx : t.X = s.X) (ha : t.as = s.as) (hh : ∀ a, s.fz a → t.fz a) : ∀ {ps : List PyData} {vs : List V}, DaL K (hid (liveA s) t.H) ps vs → DrL K t (ofPyL ps) vs
  | [], _, h => h
  | p :: ps, _, h => by
    obtain ⟨w, r, h1, h2, h3⟩ := h
    exact ⟨w, r, h1, da_dr hx ha hh h2, da_drL hx ha hh h3⟩
end
/-- more has come -/
theorem st_same {H' : Hp} (rl : Rl K T s) (sm : Same s.H H') : Ev s { s with H := H' } ∧ Rl K T { s with H := H' } := by
  have lt : Lt s { s with H := H' } := ⟨⟨[], by simp⟩, fun a o h n f => ⟨f, sm a o h⟩⟩
  refine ⟨⟨lt, rfl, fun a ha => ?_⟩, rl.len, rl.inj, fun a ha => ?_, fun n o a h1 h2 => ?_, tabs_ext rl.tb sm⟩
  · obtain ⟨_, xs, e, em⟩ := rl.xs a ha
    show H' a = _
    rw [e]
    exact sm a _ e
  · obtain ⟨z1, xs, z2, z3⟩ := rl.xs a ha
    exact ⟨z1, xs, sm a _ z2, z3⟩
  · obtain ⟨u, z1, z2⟩ := rl.ob n o a h1 h2
    exact ⟨u, sm a _ z1, z2.mono rl lt⟩
def oldF (g : List PyData → Option PyData) (ds : List D) : M D := opt ((py2L ds).bind fun ps => (g ps).map ofPy)
theorem sm_callF {n : Nat} {A : List PyData → PyData → Prop} (g : List PyData → Option PyData) (hg : ∀ ps d, g ps = some d → A ps d ∧ ps.length = n) (ha : SA K T E tr φr) : SE K T E (tCall (spF K n A) [] E tr) (fun e => bnd (φr e) (oldF g)) := fun s e σ r h' rl er eq Q po =>
  ha.thn rl er eq po fun t ds vs ev rlt ert hv eq2 po2 => by
    obtain ⟨d, f1, rfl, rfl⟩ := opt_some eq2
    obtain ⟨ps, f2, f3⟩ := Option.bind_eq_some_iff.mp f1
    obtain ⟨p, f4, rfl⟩ := Option.map_eq_some_iff.mp f3
    obtain ⟨a1, a2⟩ := hg ps p f4
    rw [List.append_nil]
    refine ⟨liveA t, ps, p, live_fd rlt, dr_daL rlt hv f2, a2, a1, fun v H' sm hd => ?_⟩
    obtain ⟨ev2, rl2⟩ := st_same rlt sm
    exact po2 { t with H := H' } v rfl ev2 rl2 (da_dr (s := t) (t := { t with H := H' }) rfl rfl (fun _ f => f) hd)
def oldG (g : List PyData → Option (Except Str PyData)) (ds : List D) : M D := fun h => match (py2L ds).bind g with
  | some (.ok p) => some (.ok (ofPy p), h)
  | some (.error c) => some (.error c, h)
  | .none => .none
theorem sm_callG {n : Nat} {A : List PyData → Except Str PyData → Prop} (g : List PyData → Option (Except Str PyData)) (hg : ∀ ps d, g ps = some d → A ps d ∧ ps.length = n) (ha : SA K T E tr φr) : SE K T E (tCall (spG K n A) [] E tr) (fun e => bnd (φr e) (oldG g)) := fun s e σ r h' rl er eq Q po =>
  ha.thn rl er eq po fun t ds vs ev rlt ert hv eq2 po2 => by
    unfold oldG at eq2
    rw [List.append_nil]
    cases hq : (py2L ds).bind g with
    | none => rw [hq] at eq2; cases eq2
    | some x =>
      rw [hq] at eq2
      obtain ⟨ps, f2, f3⟩ := Option.bind_eq_some_iff.mp hq
      obtain ⟨a1, a2⟩ := hg ps x f3
      refine ⟨liveA t, ps, x, live_fd rlt, dr_daL rlt hv f2, a2, a1, fun p hp v H' sm hd => ?_, fun c hc H' sm => ?_⟩
      · subst hp
        cases eq2
        obtain ⟨ev2, rl2⟩ := st_same rlt sm
        exact po2 { t with H := H' } v rfl ev2 rl2 (da_dr (s := t) (t := { t with H := H' }) rfl rfl (fun _ f => f) hd)
      · subst hc
        cases eq2
        obtain ⟨ev2, rl2⟩ := st_same rlt sm
        exact po2 { t with H := H' } rfl ev2 rl2
/-- an object of ours that another promise changes -/
theorem st_mo {n : Nat} {a : Addr} {o o' : MO} {u' : HO} {H' : Hp} (rl : Rl K T s) (ho : s.h[n]? = some o) (hg : o ≠ .gone) (ha : s.as[n]? = some a) (mo : Mo [a] s.H H') (hu : H' a = some u') (hv : OV K s o' u') : Ev s ⟨s.X, s.as, s.h.set n o', H'⟩ ∧ Rl K T ⟨s.X, s.as, s.h.set n o', H'⟩ := by
  obtain ⟨ev, r⟩ := st_set (o' := o') (u' := u') rl ho hg ha hv
  have sm : Same (upd s.H a u') H' := fun b w e => by
    by_cases hb : b = a
    · subst hb
      rw [upd_same] at e
      cases e
      exact hu
    · rw [upd_ne hb] at e
      exact mo.keep b w e fun _ z => hb (List.mem_singleton.mp z)
  obtain ⟨ev2, r2⟩ := st_same r sm
  exact ⟨ev.trans ev2, r2⟩
end
end Sc

namespace Sc
open PySem PySem.Spec PyProof.Rows L2
/-! ### dicts -/
section
variable {κ : Type} [DecidableEq κ]
def valD (kvs : List (κ × D)) (k : κ) : Option D := (kvs.find? fun kv => decide (kv.1 = k)).map (·.2)
def putD (kvs : List (κ × D)) (k : κ) (v : D) : List (κ × D) :=
  if (kvs.any fun kv => decide (kv.1 = k)) = true then kvs.map (fun kv => if kv.1 = k then (kv.1, v) else kv) else kvs ++ [(k, v)]
def dropD (kvs : List (κ × D)) (k : κ) : List (κ × D) := kvs.filter fun kv => decide (kv.1 ≠ k)
def mergeD (kvs more : List (κ × D)) : List (κ × D) := more.foldl (fun acc kv => putD acc kv.1 kv.2) kvs
variable {K : PySem.W.Frag} {T : List (Addr × Str)} {s : Ws}
theorem FsR.val {k : κ} : ∀ {ps : List (κ × D)} {vs : List (κ × V)}, FsR K s ps vs → (∀ d, valD ps k = some d → ∃ v, valV vs k = some v ∧ Dr K s d v) ∧ (valD ps k = Option.none → valV vs k = Option.none)
  | [], _, h => by cases h; exact ⟨fun d e => (by cases e), fun _ => rfl⟩
  | (g, x) :: ps, _, h => by
    obtain ⟨v, r, h1, h2, h3⟩ := h
    subst h1
    by_cases hg : g = k
    · have e1 : valD ((g, x) :: ps) k = some x := by simp [valD, List.find?_cons, hg]
      have e2 : valV ((g, v) :: r) k = some v := valV_pos hg
      rw [e1, e2]
      exact ⟨fun d e => (by cases e; exact ⟨v, rfl, h2⟩), fun e => (by cases e)⟩
    · have e1 : valD ((g, x) :: ps) k = valD ps k := by simp [valD, List.find?_cons, hg]
      have e2 : valV ((g, v) :: r) k = valV r k := valV_neg hg
      rw [e1, e2]
      exact FsR.val h3
theorem FsR.any {k : κ} : ∀ {ps : List (κ × D)} {vs : List (κ × V)}, FsR K s ps vs → (vs.any fun kv => decide (kv.1 = k)) = ps.any fun kv => decide (kv.1 = k)
  | [], _, h => by cases h; rfl
  | (g, x) :: ps, _, h => by
    obtain ⟨v, r, h1, h2, h3⟩ := h
    subst h1
    rw [List.any_cons, List.any_cons, FsR.any h3]
theorem FsR.mapPut {k : κ} {d : D} {v : V} (g : Dr K s d v) : ∀ {ps : List (κ × D)} {vs : List (κ × V)}, FsR K s ps vs → FsR K s (ps.map fun kv => if kv.1 = k then (kv.1, d) else kv) (vs.map fun kv => if kv.1 = k then (kv.1, v) else kv)
  | [], _, h => by cases h; rfl
  | (a, x) :: ps, _, h => by
    obtain ⟨w, r, h1, h2, h3⟩ := h
    subst h1
    rw [List.map_cons, List.map_cons]
    by_cases ha : a = k
    · simp only [if_pos ha]
      exact ⟨v, _, rfl, g, FsR.mapPut g h3⟩
    · simp only [if_neg ha]
      exact ⟨w, _, rfl, h2, FsR.mapPut g h3⟩
theorem FsR.snoc {k : κ} {d : D} {v : V} (g : Dr K s d v) : ∀ {ps : List (κ × D)} {vs : List (κ × V)}, FsR K s ps vs → FsR K s (ps ++ [(k, d)]) (vs ++ [(k, v)])
  | [], _, h => by cases h; exact ⟨v, [], rfl, g, rfl⟩
  | p :: ps, _, h => by
    obtain ⟨w, r, h1, h2, h3⟩ := h
    subst h1
    exact ⟨w, _, rfl, h2, FsR.snoc g h3⟩
theorem FsR.putK {k : κ} {d : D} {v : V} (g : Dr K s d v) {ps : List (κ × D)} {vs : List (κ × V)} (h : FsR K s ps vs) : FsR K s (putD ps k d) (L2.putK vs k v) := by
  unfold putD L2.putK
  rw [h.any]
  split
  · exact h.mapPut g
  · exact h.snoc g
theorem FsR.drop {k : κ} : ∀ {ps : List (κ × D)} {vs : List (κ × V)}, FsR K s ps vs → FsR K s (dropD ps k) (dropK vs k)
  | [], _, h => by cases h; rfl
  | (a, x) :: ps, _, h => by
    obtain ⟨w, r, h1, h2, h3⟩ := h
    subst h1
    unfold dropD dropK
    rw [List.filter_cons, List.filter_cons]
    by_cases ha : a = k
    · simp only [ha, ne_eq, not_true_eq_false, decide_false, Bool.false_eq_true, if_false]
      exact FsR.drop h3
    · simp only [ha, ne_eq, not_false_eq_true, decide_true, if_true]
      exact ⟨w, _, rfl, h2, FsR.drop h3⟩
end
def keyD : D → Option Key
  | .int i => some (.inl i)
  | .str x => some (.inr x)
  | _ => .none
def keysD : List (D × D) → Option (List (Key × D))
  | [] => some []
  | p :: ps => (keyD p.1).bind fun k => (keysD ps).map fun ks => (k, p.2) :: ks
section
variable {K : PySem.W.Frag} {T : List (Addr × Str)} {E : XK} {ta tb tc te td ty tv : TE} {φ φa φb φc φd φk φv : En → M D}
theorem FsR.merge {s : Ws} : ∀ {more : List (Key × D)} {ms : List (Key × V)} {ps : List (Key × D)} {vs : List (Key × V)}, FsR K s more ms → FsR K s ps vs → FsR K s (mergeD ps more) (mergeK vs ms)
  | [], _, _, _, h, g => by cases h; exact g
  | p :: more, _, _, _, h, g => by
    obtain ⟨v, r, h1, h2, h3⟩ := h
    subst h1
    show FsR K s (mergeD (putD _ p.1 p.2) more) (mergeK (L2.putK _ p.1 v) r)
    exact FsR.merge h3 (FsR.putK h2 g)
theorem keyD_v {s : Ws} {d : D} {x : V} {k : Key} (h : Dr K s d x) (e : keyD d = some k) : x = kV k := by
  cases d <;> cases e <;> exact h
def DPs (K : PySem.W.Frag) (s : Ws) : List (D × D) → List (V × V) → Prop
  | [], vs => vs = []
  | p :: ps, vs => ∃ x y r, vs = (x, y) :: r ∧ Dr K s p.1 x ∧ Dr K s p.2 y ∧ DPs K s ps r
theorem DPs.mono {s t : Ws} (rl : Rl K T s) (l : Lt s t) : ∀ {ps : List (D × D)} {vs : List (V × V)}, DPs K s ps vs → DPs K t ps vs
  | [], _, h => h
  | p :: ps, _, h => by
    obtain ⟨x, y, r, h1, h2, h3, h4⟩ := h
    exact ⟨x, y, r, h1, h2.mono rl l, h3.mono rl l, DPs.mono rl l h4⟩
theorem DPs.keys {s : Ws} : ∀ {ps : List (D × D)} {vs : List (V × V)} {ks : List (Key × D)}, DPs K s ps vs → keysD ps = some ks → ∃ kvs : List (Key × V), vs = kvs.map (fun kv => (kV kv.1, kv.2)) ∧ FsR K s ks kvs
  | [], _, _, h, e => by cases e; exact ⟨[], h, rfl⟩
  | p :: ps, _, _, h, e => by
    obtain ⟨x, y, r, h1, h2, h3, h4⟩ := h
    obtain ⟨k, e1, e2⟩ := Option.bind_eq_some_iff.mp e
    obtain ⟨ks, e3, rfl⟩ := Option.map_eq_some_iff.mp e2
    obtain ⟨kvs, f1, f2⟩ := DPs.keys h4 e3
    refine ⟨(k, y) :: kvs, ?_, y, kvs, rfl, h3, f2⟩
    rw [h1, keyD_v h2 e1, f1]
    rfl
abbrev SP (K : PySem.W.Frag) (T : List (Addr × Str)) (E : XK) (trs : List (TE × TE)) (φ : En → M (List (D × D))) : Prop := Sim K T E (DPs K) (tPairs trs) φ
theorem sp_nil : SP K T E [] (fun _ => ret []) := fun s e σ r h' rl er eq Q po => po_ret (Rv := DPs K) (a := []) rl rfl eq po
theorem sp_cons {trs : List (TE × TE)} {φr : En → M (List (D × D))} (ha : SE K T E ta φa) (hb : SE K T E tb φb) (hr : SP K T E trs φr) : SP K T E ((ta, tb) :: trs) (fun e => bnd (φa e) fun a => bnd (φb e) fun b => bnd (φr e) fun r => ret ((a, b) :: r)) := fun s e σ r h' rl er eq Q po =>
  ha.thn rl er eq po fun t a x ev rlt ert hx eq2 po2 => hb.thn rlt ert eq2 po2 fun u b y ev2 rlu eru hy eq3 po3 => hr.thn rlu eru eq3 po3 fun w ps vs ev3 rlw erw hv eq4 po4 =>
    po_ret (Rv := DPs K) (a := (a, b) :: ps) rlw ⟨x, y, vs, rfl, (hx.mono rlt ev2.toLt).mono rlu ev3.toLt, hy.mono rlu ev3.toLt, hv⟩ eq4 po4
/-- {..}[y]: a dict that is written out, and looked up at once -/
theorem sm_dlit {trs : List (TE × TE)} {φp : En → M (List (D × D))} (hp : SP K T E trs φp) (hy : SE K T E ty φk) : SE K T E (tDGet (tDisp trs) ty) (fun e => bnd (φp e) fun ps => bnd (opt ((keysD ps).bind fun ks => if ks.length ≤ 15 then some ks else .none)) fun ks => bnd (φk e) fun y => opt ((keyD y).bind fun k => valD (mergeD [] ks) k)) := fun s e σ r h' rl er eq Q po => by
  intro p hp0
  -- hidden while it is made
  obtain ⟨f1, f2⟩ := rl.fresh hp0
  have ne : ∀ {b u}, s.H b = some u → upd s.H p (.dK []) b = s.H b := fun e => upd_ne (ne_of_none e hp0)
  have l0 : Lt s ⟨p :: s.X, s.as, s.h, upd s.H p (.dK [])⟩ := ⟨⟨[], by simp⟩, fun a u h n f => ⟨⟨fun z => (List.mem_cons.mp z).elim (fun z => ne_of_none h hp0 z) f.1, f.2⟩, by show upd s.H p _ a = _; rw [ne h]; exact h⟩⟩
  have rl0 : Rl K T ⟨p :: s.X, s.as, s.h, upd s.H p (.dK [])⟩ := by
    refine ⟨rl.len, rl.inj, fun a ha => ?_, fun n o' a h1 h2 => ?_, tabs_ext rl.tb fun b u e => by show upd s.H p _ b = _; rw [ne e]; exact e⟩
    · rcases List.mem_cons.mp ha with z | z
      · subst z
        exact ⟨f2, _, upd_same, trivial⟩
      · obtain ⟨e1, xs, e, em⟩ := rl.xs a z
        exact ⟨e1, xs, by show upd s.H p _ a = _; rw [ne e]; exact e, em⟩
    · obtain ⟨u, e, v⟩ := rl.ob n o' a h1 h2
      exact ⟨u, by show upd s.H p _ a = _; rw [ne e]; exact e, v.mono rl l0⟩
  -- what is behind it
  have fin : ∀ (t : Ws) (u : HO), Ev ⟨p :: s.X, s.as, s.h, upd s.H p (.dK [])⟩ t → Rl K T t → Ev s ⟨s.X, t.as, t.h, upd t.H p u⟩ ∧ Rl K T ⟨s.X, t.as, t.h, upd t.H p u⟩ ∧ Lt t ⟨s.X, t.as, t.h, upd t.H p u⟩ := fun t u ev rlt => by
    have xp := rlt.xs p (by rw [ev.x]; exact List.mem_cons_self)
    have nf : ∀ {b : Addr}, t.fz b → b ≠ p := fun f z => f.1 (by rw [z, ev.x]; exact List.mem_cons_self)
    have w : ∀ {a}, t.fz a → Ws.fz ⟨s.X, t.as, t.h, upd t.H p u⟩ a := fun f => ⟨fun z => f.1 (by rw [ev.x]; exact List.mem_cons_of_mem _ z), f.2⟩
    have l : Lt t ⟨s.X, t.as, t.h, upd t.H p u⟩ := ⟨⟨[], by simp⟩, fun a o h _ f => ⟨w f, by show upd t.H p u a = _; rw [upd_ne (nf f)]; exact h⟩⟩
    have nx : ∀ a ∈ s.X, a ≠ p := fun a ha z => f1 (by rw [← z]; exact ha)
    refine ⟨⟨?_, rfl, fun a ha => ?_⟩, ⟨rlt.len, rlt.inj, fun a ha => ?_, fun n o a h1 h2 => ?_, ?_⟩, l⟩
    · exact (l0.trans ev.toLt).trans l
    · show upd t.H p u a = _
      rw [upd_ne (nx a ha)]
      refine (ev.kx a (List.mem_cons_of_mem _ ha)).trans ?_
      show upd s.H p _ a = _
      rw [upd_ne (nx a ha)]
    · obtain ⟨e1, xs, e, em⟩ := rlt.xs a (by rw [ev.x]; exact List.mem_cons_of_mem _ ha)
      exact ⟨e1, xs, by show upd t.H p u a = _; rw [upd_ne (nx a ha)]; exact e, em⟩
    · obtain ⟨q, e, v⟩ := rlt.ob n o a h1 h2
      have : a ≠ p := fun z => xp.1 n (by rw [← z]; exact h2)
      exact ⟨q, by show upd t.H p u a = _; rw [upd_ne this]; exact e, v.mono rlt l⟩
    · obtain ⟨q, e, em⟩ := xp.2
      exact tabs_upd rlt.tb e em
  have pe : PoE K T E ⟨p :: s.X, s.as, s.h, upd s.H p (.dK [])⟩ r h' := fun c hc t ht ev rlt => by
    subst hc
    obtain ⟨evf, rlf, _⟩ := fin t (.dK []) ev rlt
    have e0 : upd t.H p (.dK []) = t.H := by
      funext b
      by_cases hb : b = p
      · rw [hb, upd_same, ev.kx p List.mem_cons_self]
        exact upd_same.symm
      · rw [upd_ne hb]
    rw [e0] at evf rlf
    exact po ⟨s.X, t.as, t.h, t.H⟩ ht evf rlf
  refine hp.thnE rl0 (er.mono rl l0) eq pe fun t ps vs ev rlt ert hv eq2 pe2 => ?_
  rcases bnd_some eq2 with ⟨ks, h3, e1, e2⟩ | ⟨c, e1, _⟩
  · obtain ⟨ks', g1, z, rfl⟩ := opt_some e1
    cases z
    obtain ⟨kk, g2, g3⟩ := Option.bind_eq_some_iff.mp g1
    split at g3
    · next hl =>
      cases g3
      obtain ⟨kvs, q1, q2⟩ := hv.keys g2
      have lk : kvs.length ≤ 15 := by rw [q2.length]; exact hl
      refine ⟨(ev.kx p List.mem_cons_self).trans upd_same, kvs, q1, lk, ?_⟩
      obtain ⟨evf, rlf, lf⟩ := fin t (.dK (mergeK [] kvs)) ev rlt
      refine hy.thn rlf (ert.mono rlt lf) e2 (po.pre evf) fun w y v ev3 rlw erw hv2 eq3 po3 => ?_
      obtain ⟨d, g4, rfl, rfl⟩ := opt_some eq3
      obtain ⟨k, g5, g6⟩ := Option.bind_eq_some_iff.mp g4
      have ek := keyD_v hv2 g5
      subst ek
      have fzp : Ws.fz ⟨s.X, t.as, t.h, upd t.H p (.dK (mergeK [] kvs))⟩ p := by
        have xp := rlt.xs p (by rw [ev.x]; exact List.mem_cons_self)
        exact ⟨f1, fun n hn => absurd hn (xp.1 n)⟩
      obtain ⟨_, hw⟩ := ev3.fz p _ (show upd t.H p _ p = _ from upd_same) (fun ps z => by cases z) fzp
      have q3 : FsR K w (mergeD [] ks) (mergeK [] kvs) := FsR.merge ((q2.mono rlt lf).mono rlf ev3.toLt) (show FsR K w [] [] from rfl)
      obtain ⟨v, g7, g8⟩ := (q3.val (k := k)).1 d g6
      exact ⟨p, v, rfl, g7 ▸ DGet.k hw, po3 w v rfl (.refl w) rlw g8⟩
    · cases g3
  · obtain ⟨_, _, z, _⟩ := opt_some e1
    cases z
/-- d[y], d an object -/
def getM (o y : D) : M D := match o with
  | .ref n => rd fun h => match h[n]? with
    | some (.dk kvs) => (keyD y).bind fun k => valD kvs k
    | _ => .none
  | _ => opt .none
theorem sm_dget (hd : SE K T E td φd) (hy : SE K T E ty φk) : SE K T E (tDGet td ty) (fun e => bnd (φd e) fun o => bnd (φk e) fun y => getM o y) := fun s e σ r h' rl er eq Q po =>
  hd.thn rl er eq po fun t o x ev rlt ert hx eq2 po2 => hy.thn rlt ert eq2 po2 fun u y v ev2 rlu eru hy eq3 po3 => by
    cases o with
    | ref n =>
      unfold getM at eq3
      simp only at eq3
      obtain ⟨d, f1, rfl, rfl⟩ := rd_some eq3
      split at f1
      · next kvs ho =>
        obtain ⟨k, g1, g2⟩ := Option.bind_eq_some_iff.mp f1
        have ek := keyD_v hy g1
        subst ek
        obtain ⟨a, rfl, h2⟩ := hx
        obtain ⟨w, h3, vs, rfl, h4⟩ := rlu.ob n _ a ho (ev2.toLt.get h2)
        obtain ⟨v, g3, g4⟩ := (h4.val (k := k)).1 d g2
        exact ⟨a, v, rfl, g3 ▸ DGet.k h3, po3 u v rfl (.refl u) rlu g4⟩
      · cases f1
    | _ => simp [getM, opt] at eq3
/-- d[y] = v -/
def dputM (o y v : D) : M Unit := match o with
  | .ref n => fun h => match h[n]? with
    | some (.dk kvs) => match keyD y with
      | some k => if kvs.length < sizeLine then some (.ok (), h.set n (.dk (putD kvs k v))) else .none
      | .none => .none
    | _ => .none
  | _ => opt .none
theorem dputM_some {o y v : D} {h h' : MH} {r : Except Str Unit} (e : dputM o y v h = some (r, h')) : ∃ n kvs k, o = .ref n ∧ h[n]? = some (.dk kvs) ∧ keyD y = some k ∧ kvs.length < sizeLine ∧ r = .ok () ∧ h' = h.set n (.dk (putD kvs k v)) := by
  unfold dputM at e
  split at e
  · next n =>
    split at e
    · next kvs hn =>
      split at e
      · next k hk =>
        split at e
        · next hl =>
          cases e
          exact ⟨n, kvs, k, rfl, hn, hk, hl, rfl, rfl⟩
        · cases e
      · cases e
    · cases e
  · cases e
theorem ss_dput (hd : SE K T E td φd) (hy : SE K T E ty φk) (hv : SE K T E tv φv) : SS K T E (sDPut td ty tv) (fun e => bnd (φv e) fun v => bnd (φd e) fun o => bnd (φk e) fun y => bnd (dputM o y v) fun _ => ret (.nx, e)) := fun s e σ r h' rl er eq Dn po =>
  hv.thnE rl er eq po.er fun t v x ev rlt ert hx eq2 po2 => hd.thnE rlt ert eq2 po2 fun u o xo ev2 rlu eru ho eq3 po3 => hy.thnE rlu eru eq3 po3 fun w y xy ev3 rlw erw hy eq4 po4 => by
    rcases bnd_some eq4 with ⟨_, h3, e1, e4⟩ | ⟨c, e1, _⟩
    · obtain ⟨n, kvs, k, rfl, hn, hk, hl, _, rfl⟩ := dputM_some e1
      obtain ⟨rfl, rfl⟩ := ret_some e4
      obtain ⟨a, rfl, h2⟩ := ho
      have h2 := ev3.toLt.get h2
      have ek := keyD_v hy hk
      subst ek
      obtain ⟨q, h3, vs, rfl, h4⟩ := rlw.ob n _ a hn h2
      obtain ⟨ev4, rl4⟩ := st_set (o' := .dk (putD kvs k v)) (u' := .dK (L2.putK vs k x)) rlw hn (fun z => by cases z) h2 ⟨_, rfl, FsR.putK ((hx.mono rlt ev2.toLt).mono rlu ev3.toLt) h4⟩
      exact ⟨a, _, rfl, DPut.k h3 (by rw [h4.length]; exact hl), po.nx e rfl ⟨w.X, w.as, w.h.set n (.dk (putD kvs k v)), upd w.H a (.dK (L2.putK vs k x))⟩ σ rfl (((ev.trans ev2).trans ev3).trans ev4) rl4 (erw.mono rlw ev4.toLt)⟩
    · obtain ⟨n, kvs, k, rfl, hn, hk, hl, z, _⟩ := dputM_some e1
      cases z
end
end Sc

namespace Sc
open PySem PySem.Spec PyProof.Rows L2
/-! ### runs, step by step -/
section
variable {α β : Type}
theorem bnd_ap (m : M α) (f : α → M β) (h : MH) : bnd m f h = match m h with
  | some (.ok a, h') => f a h'
  | some (.error c, h') => some (.error c, h')
  | .none => .none := rfl
theorem ret_ap (a : α) (h : MH) : ret a h = some (.ok a, h) := rfl
theorem rd_ap (f : MH → Option α) (h : MH) : rd f h = match f h with
  | some a => some (.ok a, h)
  | .none => .none := rfl
theorem opt_some' (a : α) (h : MH) : opt (some a) h = some (.ok a, h) := rfl
theorem opt_none' (h : MH) : opt (.none : Option α) h = .none := rfl
theorem ifM_pos {c : Prop} [Decidable c] (m : M α) (h : c) : ifM c m = m := if_pos h
theorem ifM_ap {c : Prop} [Decidable c] (m : M α) (h : MH) : ifM c m h = if c then m h else .none := by
  unfold ifM
  split <;> rfl
theorem raise_ap (c : Str) (h : MH) : (raiseM c : M α) h = some (.error c, h) := rfl
end
theorem var0 (d : D) (e : En) : var 0 (some d :: e) = ret d := rfl
theorem varS (n : Nat) (x : Option D) (e : En) : var (n + 1) (x :: e) = var n e := by
  unfold var
  rw [List.getElem?_cons_succ]
theorem fld_ap (C f : Str) (n : Nat) (h : MH) : fldM C f (.ref n) h = match h[n]? with
  | some (.ins c fs) => (match (if c = C then getF f fs else .none) with | some d => some (.ok d, h) | .none => .none)
  | _ => .none := by
  unfold fldM rd
  simp only
  cases h[n]? with
  | none => rfl
  | some o => cases o with
    | ins c fs =>
      simp only
      cases (if c = C then getF f fs else Option.none) <;> rfl
    | _ => rfl
theorem put_ap (C f : Str) (v : D) (n : Nat) (h : MH) : putM C f v (.ref n) h = match h[n]? with | some (.ins c fs) => if c = C ∧ fs.length < 1000 then some (.ok (), h.set n (.ins c (setF f v fs))) else .none | _ => .none := rfl
theorem call_ap (n : Nat) (F : List D → M D) (ds : List D) (h : MH) : callM n F ds h = if ds.length = n then F ds h else .none := ifM_ap _ _
theorem go_nx (k : En → M (Fl × En)) (e : En) : go k (.nx, e) = k e := rfl
theorem go_rt (k : En → M (Fl × En)) (d : D) (e : En) : go k (.rt d, e) = ret (.rt d, e) := rfl
theorem go_bk (k : En → M (Fl × En)) (e : En) : go k (.bk, e) = ret (.bk, e) := rfl
theorem go_ct (k : En → M (Fl × En)) (e : En) : go k (.ct, e) = ret (.ct, e) := rfl
theorem lend_nx (k : En → M (Fl × En)) (e : En) : lend k (.nx, e) = k e := rfl
theorem lend_ct (k : En → M (Fl × En)) (e : En) : lend k (.ct, e) = k e := rfl
theorem lend_rt (k : En → M (Fl × En)) (d : D) (e : En) : lend k (.rt d, e) = ret (.rt d, e) := rfl
theorem lend_bk (k : En → M (Fl × En)) (e : En) : lend k (.bk, e) = ret (.nx, e) := rfl
theorem end_nx (e : En) : endM (.nx, e) = ret .none := rfl
theorem end_rt (d : D) (e : En) : endM (.rt d, e) = ret d := rfl
theorem run_ap (m : Nat) (ψ : En → M (Fl × En)) (ds : List D) (h : MH) : runB m ψ ds h = bnd (ψ (startD m ds)) endM h := rfl
theorem isI_ap (C m : Str) (n : Nat) (h : MH) : isI C m (.ref n) h = match h[n]? with
  | some (.ins c fs) => (match (if c = C ∧ (getF m fs).isNone then some () else .none) with | some d => some (.ok d, h) | .none => .none)
  | _ => .none := by
  unfold isI rd
  simp only
  cases h[n]? with
  | none => rfl
  | some o => cases o with
    | ins c fs =>
      simp only
      cases (if c = C ∧ (getF m fs).isNone = true then some () else Option.none) <;> rfl
    | _ => rfl
theorem newO_ap (o : MO) (h : MH) : newO o h = some (.ok (.ref h.length), h ++ [o]) := rfl
theorem okN_ap (o : D) (h : MH) : okN o .none h = some (.ok o, h) := rfl
theorem asB_ap (b : Bool) (h : MH) : asB (.bool b) h = some (.ok b, h) := rfl
theorem asI_ap (i : Int) (h : MH) : asI (.int i) h = some (.ok (some i), h) := rfl
theorem set_at_ap (n : Nat) (k : Int) (d : D) (h : MH) : setM (.ref n) (.int k) d h = match h[n]? with
    | some (.lst ds) => (match ixN ds.length k with
      | some j => some (.ok (), h.set n (.lst (ds.set j d)))
      | .none => .none)
    | _ => .none := rfl
theorem chg_ap (f : List D → List D → Option (List D × D)) (n : Nat) (ds : List D) (h : MH) : chgL f (.ref n) ds h = match h[n]? with
    | some (.lst xs) => (match f xs ds with
      | some (ys, d) => some (.ok d, h.set n (.lst ys))
      | .none => .none)
    | _ => .none := rfl
theorem frz_ap (n : Nat) (h : MH) : frz (.ref n) h = match h[n]? with | some (.lst ds) => some (.ok (.list ds), h.set n .gone) | _ => .none := rfl
theorem itL_list (ds : List D) : itL (.list ds) = ret (ds, .none) := rfl
theorem itL_ref (n : Nat) (h : MH) : itL (.ref n) h = match h[n]? with | some (.lst ds) => some (.ok (ds, some n), h) | _ => .none := by
  unfold itL rd
  simp only
  cases h[n]? with
  | none => rfl
  | some o => cases o <;> rfl
theorem sqL_list (h : MH) (ds : List D) : sqL h (.list ds) = some ds := rfl
theorem sqL_ref (h : MH) (n : Nat) : sqL h (.ref n) = match h[n]? with | some (.lst ds) => some ds | _ => .none := rfl
theorem sq_list (h : MH) (ds : List D) : sq h (.list ds) = some (.l ds) := rfl
theorem sq_tuple (h : MH) (ds : List D) : sq h (.tuple ds) = some (.t ds) := rfl
theorem sq_str (h : MH) (x : Str) : sq h (.str x) = some (.s x) := rfl
theorem sq_scr (h : MH) (ns : List Int) : sq h (.scr ns) = some (.l (ns.map .int)) := rfl
theorem sq_ref (h : MH) (n : Nat) : sq h (.ref n) = match h[n]? with | some (.lst ds) => some (.l ds) | _ => .none := by
  show (sqL h (.ref n)).map _ = _
  rw [sqL_ref]
  cases h[n]? with
  | none => rfl
  | some o => cases o <;> rfl
theorem tyK_str (x : Str) (h : MH) : tyK "str" (.str x) h = some (.ok (), h) := rfl
theorem tyK_list (ds : List D) (h : MH) : tyK "list" (.list ds) h = some (.ok (), h) := rfl
theorem tyK_ref (n : Nat) (h : MH) : tyK "list" (.ref n) h = match h[n]? with | some (.lst ds) => some (.ok (), h) | _ => .none := by
  unfold tyK rd
  simp only [sqL_ref]
  cases h[n]? with
  | none => rfl
  | some o => cases o <;> rfl
theorem told_ap (CL : List Str) (m : M D) (h : MH) : toldM CL m h = match m h with
  | some (.ok d, h') => some (.ok d, h')
  | some (.error c, h') => if c ∈ CL then some (.ok (.tuple [.str "refused", .str c]), h') else .none
  | .none => .none := rfl
theorem getM_ap (n : Nat) (y : D) (h : MH) : getM (.ref n) y h = match h[n]? with
    | some (.dk kvs) => (match (keyD y).bind fun k => valD kvs k with | some d => some (.ok d, h) | .none => .none)
    | _ => .none := by
  unfold getM rd
  simp only
  cases h[n]? with
  | none => rfl
  | some o => cases o with
    | dk kvs =>
      simp only
      cases ((keyD y).bind fun k => valD kvs k) <;> rfl
    | _ => rfl
/-- at an object's own place -/
theorem set_self' {h : MH} {n : Nat} {o : MO} (hn : h[n]? = some o) (o' : MO) : (h.set n o')[n]? = some o' := List.getElem?_set_self (List.getElem?_eq_some_iff.mp hn).1
theorem set_ne' {h : MH} {n m : Nat} (hm : m ≠ n) (o' : MO) : (h.set n o')[m]? = h[m]? := List.getElem?_set_ne (Ne.symm hm)
/-! for, as a fold -/
theorem for_nil (all : List D) (body : D → En → M (Fl × En)) (e : En) : forM .none all body [] e = ret (.nx, e) := rfl
theorem for_cons (all : List D) (body : D → En → M (Fl × En)) (x : D) (r : List D) (e : En) : forM .none all body (x :: r) e = bnd (body x e) (lend (forM .none all body r)) := rfl
theorem lc_nil (all : List D) (e : En) (γ : D → En → M En) (θ : En → M Bool) (φ : En → M D) : lcM .none all e γ θ φ [] = ret [] := rfl
theorem lc_cons (all : List D) (e : En) (γ : D → En → M En) (θ : En → M Bool) (φ : En → M D) (x : D) (r : List D) : lcM .none all e γ θ φ (x :: r) = bnd (safe (γ x e)) fun e2 => bnd (safe (θ e2)) fun b => if b = true then bnd (safe (φ e2)) fun d => bnd (lcM .none all e γ θ φ r) fun ds => ret (d :: ds) else lcM .none all e γ θ φ r := rfl
theorem safe_ap {α : Type} (m : M α) (h : MH) : safe m h = match m h with
  | some (.ok a, h') => some (.ok a, h')
  | _ => .none := rfl
theorem lc_consC (ck : Option Nat) (all : List D) (e : En) (γ : D → En → M En) (θ : En → M Bool) (φ : En → M D) (x : D) (r : List D) : lcM ck all e γ θ φ (x :: r) = bnd (chk ck all) fun _ => bnd (safe (γ x e)) fun e2 => bnd (safe (θ e2)) fun b => if b = true then bnd (safe (φ e2)) fun d => bnd (lcM ck all e γ θ φ r) fun ds => ret (d :: ds) else lcM ck all e γ θ φ r := rfl
theorem ck_some {n : Nat} {all : List D} {h : MH} (e : h[n]? = some (.lst all)) : ckOk (some n) all h := e
theorem ck_none {all : List D} {h : MH} : ckOk .none all h := trivial
/-- a comprehension that leaves the objects -/
theorem lc_pure {α : Type} {ck : Option Nat} {all : List D} {e : En} {γ : D → En → M En} {φ : En → M D} {h : MH} (f : α → D) (g : α → D) (hck : ckOk ck all h) : ∀ (xs : List α), (∀ x ∈ xs, ∃ e2, γ (f x) e h = some (.ok e2, h) ∧ φ e2 h = some (.ok (g x), h)) → lcM ck all e γ (fun _ => ret true) φ (xs.map f) h = some (.ok (xs.map g), h)
  | [], _ => by
    show bnd (chk ck all) (fun _ => ret []) h = _
    rw [bnd_ap, chk_ok hck]
    rfl
  | x :: xs, hx => by
    obtain ⟨e2, h1, h2⟩ := hx x List.mem_cons_self
    have ih := lc_pure f g hck xs fun y hy => hx y (List.mem_cons_of_mem _ hy)
    rw [List.map_cons, List.map_cons, lc_consC]
    simp only [bnd_ap, chk_ok hck, safe_ap, h1, h2, ret_ap, if_true, ih]
/-! a row's fields -/
theorem setF_nil (f : Str) (v : D) : setF f v [] = [(f, v)] := rfl
theorem rowS_cells (v a b : D) : setF "cells" v [("cells", a), ("goes_on", b)] = ([("cells", v), ("goes_on", b)] : List (Str × D)) := rfl
theorem rowS_on (v a b : D) : setF "goes_on" v [("cells", a), ("goes_on", b)] = ([("cells", a), ("goes_on", v)] : List (Str × D)) := rfl
theorem rowS_new (v a : D) : setF "goes_on" v [("cells", a)] = ([("cells", a), ("goes_on", v)] : List (Str × D)) := rfl
theorem rowG_cells (a b : D) : getF ("cells" : Str) [("cells", a), ("goes_on", b)] = some a := rfl
theorem rowG_on (a b : D) : getF ("goes_on" : Str) [("cells", a), ("goes_on", b)] = some b := rfl
theorem rep_one {α : Type} (x : α) : ∀ n : Nat, (List.replicate n [x]).flatten = List.replicate n x
  | 0 => rfl
  | n + 1 => by rw [List.replicate_succ, List.flatten_cons, rep_one x n]; rfl
theorem set_last2 (h : MH) (a b c : MO) : (h ++ [a, b]).set (h.length + 1) c = h ++ [a, c] := by
  rw [List.set_append_right _ _ (by omega), Nat.add_sub_cancel_left]
  rfl
theorem set_last1 (h : MH) (a c : MO) : (h ++ [a]).set h.length c = h ++ [c] := by
  rw [List.set_append_right _ _ (by omega), Nat.sub_self]
  rfl
theorem get_last1 (h : MH) (a : MO) : (h ++ [a])[h.length]? = some a := by
  rw [List.getElem?_append_right (Nat.le_refl _), Nat.sub_self]
  rfl
theorem get_last2 (h : MH) (a b : MO) : (h ++ [a, b])[h.length + 1]? = some b := by
  rw [List.getElem?_append_right (by omega), Nat.add_sub_cancel_left]
  rfl
/-! operations on what is there -/
theorem plus_ii (h : MH) (i j : Int) : plus h (.int i) (.int j) = some (.int (i + j)) := rfl
theorem plus_ss (h : MH) (x y : Str) : plus h (.str x) (.str y) = if x.length + y.length ≤ sizeLine then some (.str (x ++ y)) else .none := rfl
theorem plus_tt (h : MH) (xs ys : List D) : plus h (.tuple xs) (.tuple ys) = if xs.length + ys.length ≤ sizeLine then some (.tuple (xs ++ ys)) else .none := rfl
theorem plus_ll (h : MH) (xs ys : List D) : plus h (.list xs) (.list ys) = if xs.length + ys.length ≤ sizeLine then some (.list (xs ++ ys)) else .none := rfl
theorem plus_rl (h : MH) (n : Nat) (ys : List D) : plus h (.ref n) (.list ys) = match h[n]? with | some (.lst xs) => (if xs.length + ys.length ≤ sizeLine then some (.list (xs ++ ys)) else .none) | _ => .none := by
  show (match sqL h (.ref n), sqL h (.list ys) with | some xs, some ys => if xs.length + ys.length ≤ sizeLine then some (D.list (xs ++ ys)) else .none | _, _ => .none) = _
  rw [sqL_ref, sqL_list]
  cases h[n]? with
  | none => rfl
  | some o => cases o <;> rfl
theorem times_ii (h : MH) (i j : Int) : times h (.int i) (.int j) = if i.natAbs.log2 + j.natAbs.log2 < 1000000 then some (.int (i * j)) else .none := rfl
theorem times_li (h : MH) (xs : List D) (k : Int) : times h (.list xs) (.int k) = if k < 2 ^ 62 ∧ -(2 ^ 62) < k ∧ xs.length * k.toNat ≤ sizeLine then some (.list (List.replicate k.toNat xs).flatten) else .none := rfl
theorem i2_ap (f : Int → Int → Option D) (h : MH) (i j : Int) : i2 f h (.int i) (.int j) = f i j := rfl
theorem deq_ii (h : MH) (i j : Int) : deq h (.int i) (.int j) = some (decide (i = j)) := rfl
theorem deq_ss (h : MH) (i j : Str) : deq h (.str i) (.str j) = some (decide (i = j)) := rfl
theorem deq_bb (h : MH) (i j : Bool) : deq h (.bool i) (.bool j) = some (decide (i = j)) := rfl
theorem ixM_ap (h : MH) (a : D) (i : Int) : ixM h a (.int i) = (sq h a).bind (ixQ i) := rfl
theorem ixQ_l (i : Int) (ds : List D) : ixQ i (.l ds) = atI ds i := rfl
theorem ixQ_t (i : Int) (ds : List D) : ixQ i (.t ds) = atI ds i := rfl
theorem ixQ_s (i : Int) (x : Str) : ixQ i (.s x) = if x.length ≤ sizeLine then (atI x.cps.toList i).map fun c => .str ⟨#[c]⟩ else .none := rfl
theorem lenM_ap (h : MH) (a : D) : lenM h [a] = (sq h a).bind lenQ := rfl
theorem lenQ_l (ds : List D) : lenQ (.l ds) = some (.int ds.length) := rfl
theorem lenQ_t (ds : List D) : lenQ (.t ds) = some (.int ds.length) := rfl
theorem lenQ_s (x : Str) : lenQ (.s x) = if x.length ≤ sizeLine then some (.int x.length) else .none := rfl
theorem slQ_l (lo hi : Option Int) (ds : List D) : slQ lo hi (.l ds) = some (.list (cutL ds lo hi)) := rfl
theorem slQ_t (lo hi : Option Int) (ds : List D) : slQ lo hi (.t ds) = if HT.sIx ds.length 0 lo = 0 ∧ HT.sIx ds.length ds.length hi = ds.length then .none else some (.tuple (cutL ds lo hi)) := rfl
theorem slQ_s (lo hi : Option Int) (x : Str) : slQ lo hi (.s x) = if x.length ≤ sizeLine then some (.str (cutS x lo hi)) else .none := rfl
theorem atI_lit {α : Type} {l : List α} {k : Nat} {x : α} (h : l[k]? = some x) : atI l (k : Int) = some x := by
  have := (List.getElem?_eq_some_iff.mp h).1
  unfold atI ixN
  rw [if_pos (by omega), if_pos (by omega), Int.toNat_natCast]
  exact h
theorem at0 {α : Type} (x : α) (l : List α) : atI (x :: l) 0 = some x := atI_lit (k := 0) rfl
theorem at1 {α : Type} (x y : α) (l : List α) : atI (x :: y :: l) 1 = some y := atI_lit (k := 1) rfl
theorem at2 {α : Type} (x y z : α) (l : List α) : atI (x :: y :: z :: l) 2 = some z := atI_lit (k := 2) rfl
theorem rng_map (lo : Int) (n : Nat) : rangeL lo n = (List.range n).map fun (i : Nat) => D.int (lo + (i : Int)) := rfl
theorem cutL_map {α β : Type} (f : α → β) (l : List α) (lo hi : Option Int) : cutL (l.map f) lo hi = (cutL l lo hi).map f := by
  unfold cutL
  rw [List.length_map, List.map_take, List.map_drop]
theorem atI_map {α β : Type} (f : α → β) (l : List α) (i : Int) : atI (l.map f) i = (atI l i).map f := by
  unfold atI
  rw [List.length_map]
  cases ixN l.length i with
  | none => rfl
  | some j => show (l.map f)[j]? = _; rw [List.getElem?_map]; rfl
theorem memM_t (h : MH) (a : D) (ds : List D) : memM h a (.tuple ds) = (sclD a).bind fun u => (sclL ds).map fun us => inV u us := rfl
theorem memM_s (h : MH) (x z : Str) : memM h (.str x) (.str z) = if x.length = 1 then some (decide (x.cps.getD 0 0 ∈ z.cps.toList)) else .none := rfl
theorem sclD_s (x : Str) : sclD (.str x) = some (.str x) := rfl
theorem sclD_i (x : Int) : sclD (.int x) = some (.int x) := rfl
theorem sclD_n : sclD .none = some .non := rfl
theorem sclD_b (x : Bool) : sclD (.bool x) = some (.bl x) := rfl
theorem sclL_nil : sclL [] = some [] := rfl
theorem sclL_cons (d : D) (ds : List D) : sclL (d :: ds) = (sclD d).bind fun v => (sclL ds).map fun vs => v :: vs := rfl
theorem one_len (c : Nat) : (⟨#[c]⟩ : Str).length = 1 := rfl
theorem one_get (c : Nat) : (⟨#[c]⟩ : Str).cps.getD 0 0 = c := rfl
/-- signs among signs -/
theorem inV_one (c : Nat) : ∀ l : List Nat, inV (.str ⟨#[c]⟩) (l.map fun k => V.str ⟨#[k]⟩) = decide (c ∈ l)
  | [] => rfl
  | k :: l => by
    show (eqV (V.str ⟨#[k]⟩) (V.str ⟨#[c]⟩) || inV (.str ⟨#[c]⟩) (l.map fun k => V.str ⟨#[k]⟩)) = _
    rw [inV_one c l]
    show ((⟨#[k]⟩ : Str) == ⟨#[c]⟩ || decide (c ∈ l)) = _
    by_cases e : k = c
    · subst e
      simp
    · have e1 : ((⟨#[k]⟩ : Str) == ⟨#[c]⟩) = false := by
        rw [beq_eq_false_iff_ne]
        intro z
        injection z with z
        have := congrArg Array.toList z
        simp at this
        exact e this
      have e2 : ¬ c = k := fun z => e z.symm
      rw [e1]
      simp [e2]
theorem keyD_s (x : Str) : keyD (.str x) = some (.inr x) := rfl
theorem keyD_i (x : Int) : keyD (.int x) = some (.inl x) := rfl
theorem keysD_nil : keysD [] = some [] := rfl
theorem keysD_cons (a b : D) (ps : List (D × D)) : keysD ((a, b) :: ps) = (keyD a).bind fun k => (keysD ps).map fun ks => (k, b) :: ks := rfl
end Sc

namespace Sc
open PySem PySem.Spec PyProof.Rows L2
/-! ### o.f as a target in a tuple -/
def gFld (K : PySem.W.Frag) (ta : TE) (f : Str) : TG := fun v σ H Q => ta σ H fun x H2 => ∃ a C dx fs, x = .ref a ∧ H2 a = some (.ins C dx fs) ∧ Cls K C ∧ NoAttr K C f ∧ fs.length < 1000 ∧ Q σ (upd H2 a (.ins C dx (putF f v fs)))
section
variable {X : Cx} {o : Expr} {f : Str} {pos : Pos} {ta : TE}
theorem pg_fld (ho : PE X o ta) : PG X (.Attribute o f pos) (gFld X.K ta f) := by
  refine ⟨fun pins s σ H v u Q I r h => ?_⟩
  rw [assign_Attribute]
  refine wpAny_bind (wpAny_holding (thn (ho.run pins s σ H _ I h) fun ov s1 ⟨x, H1, I1, r1, a, C, dx, fs, ex, ea, c, n, l, q⟩ => ?_))
  subst ex
  obtain rfl : ov = Value.ref a := r1
  refine wpAny_bind (wpAny_standAt (wpAny_bind (wpAny_holding (setattr_ok I1 ea c n l r fun s3 I3 => ?_))))
  exact wpAny_release ⟨σ, _, I3, q⟩
theorem kg_fld (K : PySem.W.Frag) (ho : PE X o ta) (hK : X.K = K := by rfl) : PG X (.Attribute o f pos) (gFld K ta f) := by subst hK; exact pg_fld ho
end
section
variable {K : PySem.W.Frag} {T : List (Addr × Str)} {E : XK} {ta : TE} {φa : En → M D}
theorem sg_fld {C f : Str} (ok : FldOk K (He.ga K C) f) (ha : SE K T E ta φa) : SG K T E (gFld K ta f) (fun d e => bnd (φa e) fun o => bnd (putM C f d o) fun _ => ret e) := fun s d v e σ r h' rl hd er eq Q q qe =>
  ha.thnE rl er eq qe fun u o x ev2 rlu eru hx eq3 po3 => by
    cases o with
    | ref n =>
      obtain ⟨a, rfl, h2⟩ := hx
      rcases bnd_some eq3 with ⟨_, h3, e1, e4⟩ | ⟨c, e1, _⟩
      · obtain ⟨rfl, rfl⟩ := ret_some e4
        unfold putM at e1
        simp only at e1
        split at e1
        · next c fs ho =>
          split at e1
          · next hc =>
            cases e1
            obtain ⟨rfl, hl⟩ := hc
            obtain ⟨w, h3, dx, vs, rfl, h4⟩ := rlu.ob n _ a ho h2
            obtain ⟨ev3, rl3⟩ := st_set (o' := .ins c (setF f d fs)) (u' := .ins (He.ga K c) dx (putF f v vs)) rlu ho (fun z => by cases z) h2 ⟨dx, _, rfl, FsR.put (hd.mono rl ev2.toLt) h4⟩
            exact ⟨a, _, dx, vs, rfl, h3, ok.c, ok.n, by rw [h4.length]; exact hl, q e rfl _ σ rfl (ev2.trans ev3) rl3 (eru.mono rlu ev3.toLt)⟩
          · cases e1
        · cases e1
      · unfold putM at e1
        simp only at e1
        split at e1
        · split at e1 <;> cases e1
        · cases e1
    | _ => simp [putM, opt, bnd] at eq3
end
end Sc

namespace Sc
open PySem PySem.Spec PyProof.Rows L2
/-! ### data that equals itself -/
def Sd (d : D) (k : Nat) : Prop := ∃ p, (∀ h, py1 h d = some p) ∧ p.canLay0 = true ∧ p.depth ≤ k
def SdL (ds : List D) (k : Nat) : Prop := ∃ ps, (∀ h, py1L h ds = some ps) ∧ PyData.canLayAll0 ps = true ∧ PyData.depthAll ps ≤ k
theorem Sd.none {k : Nat} : Sd .none k := ⟨_, fun _ => rfl, rfl, Nat.zero_le _⟩
theorem Sd.bool (b : Bool) {k : Nat} : Sd (.bool b) k := ⟨_, fun _ => rfl, rfl, Nat.zero_le _⟩
theorem Sd.int (i : Int) {k : Nat} : Sd (.int i) k := ⟨_, fun _ => rfl, rfl, Nat.zero_le _⟩
theorem Sd.str {x : Str} (h : ∀ c ∈ x.cps.toList, c < 1114112) {k : Nat} : Sd (.str x) k := ⟨_, fun _ => rfl, by
  show x.cps.all _ = true
  rw [← Array.all_toList, List.all_eq_true]
  exact fun c hc => decide_eq_true (h c hc), Nat.zero_le _⟩
theorem SdL.nil {k : Nat} : SdL [] k := ⟨[], fun _ => rfl, rfl, Nat.zero_le _⟩
theorem SdL.cons {d : D} {ds : List D} {k : Nat} (a : Sd d k) (b : SdL ds k) : SdL (d :: ds) k := by
  obtain ⟨p, a1, a2, a3⟩ := a
  obtain ⟨ps, b1, b2, b3⟩ := b
  refine ⟨p :: ps, fun h => ?_, ?_, ?_⟩
  · simp only [py1L, a1, b1, Option.bind_some, Option.map_some]
  · show (p.canLay0 && PyData.canLayAll0 ps) = true
    rw [a2, b2]; rfl
  · show max p.depth (PyData.depthAll ps) ≤ k
    omega
theorem SdL.map {α : Type} {f : α → D} {k : Nat} : ∀ {l : List α}, (∀ x ∈ l, Sd (f x) k) → SdL (l.map f) k
  | [], _ => .nil
  | x :: l, h => .cons (h x List.mem_cons_self) (SdL.map fun y hy => h y (List.mem_cons_of_mem _ hy))
theorem Sd.list {ds : List D} {k : Nat} (a : SdL ds k) : Sd (.list ds) (k + 1) := by
  obtain ⟨ps, b1, b2, b3⟩ := a
  exact ⟨.list ps, fun h => by simp only [py1, b1, Option.map_some], b2, Nat.succ_le_succ b3⟩
theorem Sd.tuple {ds : List D} {k : Nat} (a : SdL ds k) : Sd (.tuple ds) (k + 1) := by
  obtain ⟨ps, b1, b2, b3⟩ := a
  exact ⟨.tuple ps, fun h => by simp only [py1, b1, Option.map_some], b2, Nat.succ_le_succ b3⟩
theorem Sd.mono {d : D} {k m : Nat} (a : Sd d k) (h : k ≤ m) : Sd d m := by
  obtain ⟨p, a1, a2, a3⟩ := a
  exact ⟨p, a1, a2, Nat.le_trans a3 h⟩
theorem deq_self {d : D} {k : Nat} (a : Sd d k) (hk : k ≤ 64) (h : MH) : deq h d d = some true := by
  obtain ⟨p, a1, a2, a3⟩ := a
  have sp : SeqAt.shaped p = true := by
    unfold SeqAt.shaped
    rw [a2, decide_eq_true (Nat.le_trans a3 hk)]
    rfl
  have key : (match py1 h d, py1 h d with
    | some p, some q => if SeqAt.shaped p = true ∧ SeqAt.shaped q = true then some (PyData.eqv p q) else .none
    | _, _ => .none) = some true := by
    rw [a1 h]
    simp only [sp, and_self, if_true, SeqAt.eqv_refl p a2]
  cases d with
  | int i => exact congrArg some (decide_eq_true rfl)
  | str i => exact congrArg some (decide_eq_true rfl)
  | bool i => exact congrArg some (decide_eq_true rfl)
  | none => exact key
  | list ds => exact key
  | tuple ds => exact key
  | ref n => exact key
  | scr ns => exact key
/-! ### the law itself -/
section
variable {K : PySem.W.Frag} {T : List (Addr × Str)}
theorem law_ok {t : TS} {ψ : En → M (Fl × En)} {N : List Str} {a : Addr} {ns : List Int} {H : Hp} {Q : VK} {h' : MH} (hs : SS K T E0 t ψ) (hS : SqL K H a (ns.map V.int)) (hT : LamX.Tabs T H) (q : ∀ H', Q (.bl true) H')
    (run : runB N.length ψ [.scr ns] [] = some (.ok (.bool true), h')) : t { nx := fun _ H' => Q .non H', rt := Q } (L2.start N [.ref a]) H := by
  refine body_ok (n := 1) (F := runB N.length ψ) hs (fun ds h x e _ => e) ⟨⟨[], [], [], H⟩, [.scr ns], .ok (.bool true), h', rfl, ⟨rfl, fun n m a h => (by cases h), fun a h => (by cases h), fun n o a h => (by cases h), hT⟩, ⟨_, _, rfl, ⟨a, rfl, ?_⟩, rfl⟩, rfl, run, fun t v _ _ _ hv => ?_⟩
  · rcases hS with h | h
    · exact .inl ⟨h, fun z => (by cases z), fun n z => by cases z⟩
    · exact .inr fun H' => .inr h
  · cases hv
    exact q _
theorem law_okE {t : TS} {ψ : En → M (Fl × En)} {N : List Str} {a : Addr} {ns : List Int} {H : Hp} {Q : VK} (hs : SS K T E0 t ψ) (hS : SqL K H a (ns.map V.int)) (hT : LamX.Tabs T H) (q : ∀ H', Q (.bl true) H')
    (run : ∃ h', runB N.length ψ [.scr ns] [] = some (.ok (.bool true), h')) : t { nx := fun _ H' => Q .non H', rt := Q } (L2.start N [.ref a]) H := by
  obtain ⟨h', run⟩ := run
  exact law_ok hs hS hT q run
theorem law_pair {X : Cx} {b : List Stmt} {ψ : En → M (Fl × En)} {N : List Str} {a : Addr} {ns : List Int} {H : Hp} {Q : VK} (hs : ∃ t, PSs X b t ∧ SS K T E0 t ψ) (hS : SqL K H a (ns.map V.int)) (hT : LamX.Tabs T H) (q : ∀ H', Q (.bl true) H')
    (run : ∃ h', runB N.length ψ [.scr ns] [] = some (.ok (.bool true), h')) : ∃ t, PSs X b t ∧ t { nx := fun _ H' => Q .non H', rt := Q } (L2.start N [.ref a]) H := by
  obtain ⟨t, h1, h2⟩ := hs
  exact ⟨t, h1, law_okE h2 hS hT q run⟩
end
/-! ### loops, by what holds ahead of each turn -/
theorem for_inv {body : D → En → M (Fl × En)} {all : List D} (I : Nat → En → MH → Prop) : ∀ (xs : List D) (i : Nat), (∀ j x, xs[j]? = some x → ∀ e h, I (i + j) e h → ∃ e' h', body x e h = some (.ok (.nx, e'), h') ∧ I (i + j + 1) e' h') →
    ∀ e h, I i e h → ∃ e' h', forM .none all body xs e h = some (.ok (.nx, e'), h') ∧ I (i + xs.length) e' h'
  | [], i, _, e, h, k => ⟨e, h, rfl, k⟩
  | x :: xs, i, hb, e, h, k => by
    obtain ⟨e1, h1, q1, k1⟩ := hb 0 x rfl e h k
    obtain ⟨e2, h2, q2, k2⟩ := for_inv (all := all) I xs (i + 1) (fun j y hy e h k => by
      have := hb (j + 1) y hy e h (by rw [show i + (j + 1) = i + 1 + j by omega]; exact k)
      rw [show i + (j + 1) + 1 = i + 1 + j + 1 by omega] at this
      exact this) e1 h1 k1
    refine ⟨e2, h2, ?_, by rw [List.length_cons, show i + (xs.length + 1) = i + 1 + xs.length by omega]; exact k2⟩
    rw [for_cons, bnd_ap, q1]
    exact q2
theorem for_invE {body : D → En → M (Fl × En)} {all xs : List D} {e : En} {h : MH} {r : Option (Except Str (Fl × En) × MH)} (hB : forM .none all body xs e h = r) (I : Nat → En → MH → Prop)
    (hb : ∀ j x, xs[j]? = some x → ∀ e h, I j e h → ∃ e' h', body x e h = some (.ok (.nx, e'), h') ∧ I (j + 1) e' h') (k : I 0 e h) : ∃ e' h', r = some (.ok (.nx, e'), h') ∧ I xs.length e' h' := by
  obtain ⟨e', h', q1, q2⟩ := for_inv (all := all) I xs 0 (fun j x hx e h k => by
    rw [Nat.zero_add] at k ⊢
    exact hb j x hx e h k) e h k
  rw [Nat.zero_add] at q2
  exact ⟨e', h', hB.symm.trans q1, q2⟩
theorem while_invE {c : En → M Bool} {b : En → M (Fl × En)} {N : Nat} {e : En} {h : MH} {r : Option (Except Str (Fl × En) × MH)} (hB : whileM c b N e h = r) (I : Nat → En → MH → Prop) (J : En → MH → Prop)
    (hb : ∀ m e h, I m e h → (c e h = some (.ok false, h) ∧ J e h) ∨ (c e h = some (.ok true, h) ∧ ∃ m' e' h', m' < m ∧ b e h = some (.ok (.nx, e'), h') ∧ I m' e' h')) {m : Nat} (hm : m < N) (k : I m e h) : ∃ e' h', r = some (.ok (.nx, e'), h') ∧ J e' h' := by
  suffices key : ∀ N m e h, m < N → I m e h → ∃ e' h', whileM c b N e h = some (.ok (.nx, e'), h') ∧ J e' h' by
    obtain ⟨e', h', q1, q2⟩ := key N m e h hm k
    exact ⟨e', h', hB.symm.trans q1, q2⟩
  clear hB hm k
  intro N
  induction N with
  | zero => intro m e h hm; omega
  | succ N ih =>
    intro m e h hm k
    rcases hb m e h k with ⟨q1, q2⟩ | ⟨q1, m', e1, h1, hm', q2, k1⟩
    · refine ⟨e, h, ?_, q2⟩
      show bnd (c e) _ h = _
      rw [bnd_ap, q1]
      rfl
    · obtain ⟨e2, h2, q3, q4⟩ := ih m' e1 h1 (by omega) k1
      refine ⟨e2, h2, ?_, q4⟩
      show bnd (c e) _ h = _
      rw [bnd_ap, q1]
      show (if true = true then bnd (b e) (lend (whileM c b N)) else _) h = _
      rw [if_pos rfl, bnd_ap, q2]
      exact q3
theorem rangeL_at {n : Nat} {lo : Int} {j : Nat} {x : D} (h : (rangeL lo n)[j]? = some x) : j < n ∧ x = .int (lo + (j : Int)) := by
  rw [rng_map, List.getElem?_map] at h
  obtain ⟨i, hi, rfl⟩ := Option.map_eq_some_iff.mp h
  obtain ⟨h1, h2⟩ := List.getElem?_eq_some_iff.mp hi
  rw [List.length_range] at h1
  rw [List.getElem_range] at h2
  exact ⟨h1, by rw [h2]⟩
end Sc

namespace Sc
open PySem PySem.Spec PyProof.Rows L2
theorem for_two {body : D → En → M (Fl × En)} {all : List D} {x y : D} {e e1 e2 : En} {h h1 h2 : MH} {r : Option (Except Str (Fl × En) × MH)} (hB : forM .none all body [x, y] e h = r) (q1 : body x e h = some (.ok (.nx, e1), h1)) (q2 : body y e1 h1 = some (.ok (.nx, e2), h2)) : r = some (.ok (.nx, e2), h2) := by
  rw [← hB, for_cons, bnd_ap, q1]
  show lend (forM .none all body [y]) (.nx, e1) h1 = _
  rw [lend_nx, for_cons, bnd_ap, q2]
  show lend (forM .none all body []) (.nx, e2) h2 = _
  rw [lend_nx, for_nil]
  rfl
/-! ### statement by statement -/
theorem stp {ψ : M (Fl × En)} {k : En → M (Fl × En)} {h h1 : MH} {e1 : En} {R : En → MH → Prop} (q : ψ h = some (.ok (.nx, e1), h1)) (rest : ∃ e' h', k e1 h1 = some (.ok (.nx, e'), h') ∧ R e' h') : ∃ e' h', bnd ψ (go k) h = some (.ok (.nx, e'), h') ∧ R e' h' := by
  obtain ⟨e', h', a, b⟩ := rest
  refine ⟨e', h', ?_, b⟩
  rw [bnd_ap, q]
  exact a
theorem stpE {ψ : M (Fl × En)} {k : En → M (Fl × En)} {h : MH} {P R : En → MH → Prop} (q : ∃ e1 h1, ψ h = some (.ok (.nx, e1), h1) ∧ P e1 h1) (rest : ∀ e1 h1, P e1 h1 → ∃ e' h', k e1 h1 = some (.ok (.nx, e'), h') ∧ R e' h') : ∃ e' h', bnd ψ (go k) h = some (.ok (.nx, e'), h') ∧ R e' h' := by
  obtain ⟨e1, h1, q1, p1⟩ := q
  exact stp q1 (rest e1 h1 p1)
theorem stp0 {a : En} {f : En → M (Fl × En)} {h : MH} {R : En → MH → Prop} (rest : ∃ e' h', f a h = some (.ok (.nx, e'), h') ∧ R e' h') : ∃ e' h', bnd (ret a) f h = some (.ok (.nx, e'), h') ∧ R e' h' := rest
/-! ### a text so many times -/
def repS (x : Str) (k : Nat) : Str := ⟨(List.replicate k x.cps.toList).flatten.toArray⟩
def rRepS : R2 := fun x y H Q => ∃ z k, x = .str z ∧ y = .int k ∧ 0 ≤ k ∧ k ≤ 100000 ∧ z.length * k.toNat ≤ 100000 ∧ Q (.str (repS z k.toNat)) H
theorem rep_fold (l : List Nat) : ∀ (n : Nat) (acc : Array Nat), (List.replicate n l.toArray).foldl (· ++ ·) acc = (acc.toList ++ (List.replicate n l).flatten).toArray
  | 0, acc => by simp
  | n + 1, acc => by
    rw [List.replicate_succ, List.foldl_cons, rep_fold l n, List.replicate_succ, List.flatten_cons]
    simp
theorem repS_len (z : Str) (k : Nat) : (repS z k).length = z.length * k := by
  show ((List.replicate k z.cps.toList).flatten.toArray).size = _
  rw [List.size_toArray, List.length_flatten, List.map_replicate, List.sum_replicate_nat, Nat.mul_comm, Array.length_toList]
  rfl
theorem op_repS {X : Cx} : OpR X (binaryOp .Mult) rRepS := by
  intro pins s σ H x y v u Q I rx ry h
  obtain ⟨z, k, rfl, rfl, h0, h1, h2, q⟩ := h
  obtain ⟨t, rfl⟩ := rx
  obtain ⟨t', rfl⟩ := ry
  refine PySem.P.mul_str (by rw [decide_eq_false (by omega), decide_eq_false (by omega)]; rfl) (fun c1 c2 => ?_) (fun c1 c2 => ?_) ?_
  · have e : ((z.length : Nat) : Int) * k ≤ 100000 := by
      have e1 : ((z.length * k.toNat : Nat) : Int) ≤ ((100000 : Nat) : Int) := Int.ofNat_le.mpr h2
      rw [Int.natCast_mul, show ((k.toNat : Nat) : Int) = k by omega] at e1
      exact e1
    have := (Int.le_ediv_iff_mul_le (a := ((z.length : Nat) : Int)) (b := (2 ^ 63 - 1 : Int)) (c := k) (by omega)).mpr (by omega)
    omega
  · show decide (_ > sizeLine) = false
    rw [sizeLine_eq]
    exact decide_eq_false (by omega)
  · have fin : ∀ t tk, EP X pins σ Q (.str (repS z k.toNat) t) { s with toks := tk } := fun t tk => ⟨.str (repS z k.toNat), H, I.tok _, ⟨_, rfl⟩, q⟩
    split
    · have e : k.toNat = 0 := by omega
      have e2 : repS z k.toNat = Str.empty := by rw [e]; rfl
      rw [e2] at fin
      exact ⟨by decide, fin _ _⟩
    · split
      · next c =>
        have e2 : repS z k.toNat = z := by
          simp only [Bool.or_eq_true, beq_iff_eq] at c
          rcases c with c | c
          · rw [show k.toNat = 1 by omega]
            show (⟨(z.cps.toList ++ []).toArray⟩ : Str) = z
            rw [List.append_nil]
          · have hz : z.cps = #[] := Array.eq_empty_of_size_eq_zero c
            cases z with
            | mk cps =>
              simp only at hz
              subst hz
              unfold repS
              simp
        rw [e2] at fin
        exact fin t s.toks
      · have e2 : (⟨(List.replicate k.toNat z.cps).foldl (fun x1 x2 => x1 ++ x2) #[]⟩ : Str) = repS z k.toNat := by
          unfold repS
          have := rep_fold z.cps.toList k.toNat #[]
          rw [Array.toArray_toList] at this
          rw [this]
          rfl
        rw [e2]
        refine ⟨?_, fin _ _⟩
        rw [repS_len]
        rw [sizeLine_eq]
        omega
def timesS : D → D → Option D
  | .str z, .int k => if 0 ≤ k ∧ k ≤ 100000 ∧ z.length * k.toNat ≤ 100000 then some (.str (repS z k.toNat)) else .none
  | _, _ => .none
theorem timesS_ap (z : Str) (k : Int) : timesS (.str z) (.int k) = if 0 ≤ k ∧ k ≤ 100000 ∧ z.length * k.toNat ≤ 100000 then some (.str (repS z k.toNat)) else .none := rfl
theorem kr_repS {K : PySem.W.Frag} {T : List (Addr × Str)} {E : XK} : KR K T E rRepS (fun a b => rd fun _ => timesS a b) := kr_rd (f := fun _ => timesS) fun s a b x y d rl ha hb h Q q => by
  unfold timesS at h
  split at h
  · next z k =>
    split at h
    · next hk =>
      cases h
      exact ⟨z, k, ha, hb, hk.1, hk.2.1, hk.2.2, q s _ rfl (.refl s) rl rfl⟩
    · cases h
  · cases h
end Sc

namespace Sc
open PySem PySem.Spec PyProof.Rows L2
/-! ### a op b op c op d -/
def tChain3 (r r' r'' : R2) (ta tb tc td : TE) : TE := fun σ H Q => ta σ H fun x H1 => tb σ H1 fun y H2 => r x y H2 fun z H3 => ∃ k, z = .bl k ∧
  (if k = true then tc σ H3 fun w H4 => r' y w H4 fun z' H5 => ∃ k', z' = .bl k' ∧ (if k' = true then td σ H5 fun v H6 => r'' w v H6 Q else Q (.bl false) H5) else Q (.bl false) H3)
section
variable {X : Cx} {a b c d : Expr} {ta tb tc td : TE} {pos : Pos}
theorem pt_chain3 {op op' op'' : CmpOp} {r r' r'' : R2} (ho : OpR X (compareOp op) r) (ho' : OpR X (compareOp op') r') (ho'' : OpR X (compareOp op'') r'') (ha : PE X a ta) (hb : PE X b tb) (hc : PE X c tc) (hd : PE X d td)
    (hm : lastMarks [op, op', op''] [b, c, d] = false := by with_unfolding_all rfl) : PT X (.Compare a [op, op', op''] [b, c, d] pos) (tTest (tChain3 r r' r'' ta tb tc td)) := by
  refine ⟨fun pins s σ H Q I h => ?_⟩
  refine isTrue_chain (thn (ha.run pins s σ H _ I h) fun v s1 ⟨x, H1, I1, r1, q1⟩ => test_link (thn (hb.run pins s1 σ H1 _ I1 q1) fun u s2 ⟨y, H2, I2, r2, q2⟩ =>
    thn (ho pins s2 σ H2 x y v u _ I2 r1 r2 q2) fun d s3 ⟨z, H3, I3, r3, k, e, q3⟩ => ?_)) hm
  subst e
  cases r3
  refine wpAny_truthy_bool ?_
  cases k with
  | false =>
    obtain ⟨k', e', q'⟩ := q3
    cases e'
    exact ite_ff ⟨H3, I3, q'⟩
  | true =>
    refine ite_tt (test_link (thn (hc.run pins s3 σ H3 _ I3 q3) fun w' s4 ⟨z', H4, I4, r4, q4⟩ => thn (ho' pins s4 σ H4 y z' u w' _ I4 r2 r4 q4) fun d' s5 ⟨z2, H5, I5, r5, k2, e2, q5⟩ => ?_))
    subst e2
    cases r5
    refine wpAny_truthy_bool ?_
    cases k2 with
    | false =>
      obtain ⟨k', e', q'⟩ := q5
      cases e'
      exact ite_ff ⟨H5, I5, q'⟩
    | true =>
      refine ite_tt (test_last (thn (hd.run pins s5 σ H5 _ I5 q5) fun w2 s6 ⟨z3, H6, I6, r6, q6⟩ => thn (ho'' pins s6 σ H6 z' z3 w' w2 _ I6 r4 r6 q6) fun d2 s7 ⟨z4, H7, I7, r7, k3, e3, q7⟩ => ?_))
      subst e3
      cases r7
      exact wpAny_truthy_bool ⟨H7, I7, q7⟩
end
section
variable {K : PySem.W.Frag} {T : List (Addr × Str)} {E : XK} {ta tb tc td : TE} {φa φb φc φd : En → M D}
theorem sm_chain3 {r r' r'' : R2} {ψ ψ' ψ'' : D → D → M D} (hr : KR K T E r ψ) (hr' : KR K T E r' ψ') (hr'' : KR K T E r'' ψ'') (ha : SE K T E ta φa) (hb : SE K T E tb φb) (hc : SE K T E tc φc) (hd : SE K T E td φd) :
    SE K T E (tChain3 r r' r'' ta tb tc td) (fun e => bnd (φa e) fun a => bnd (φb e) fun b => bnd (bnd (ψ a b) asB) fun k => if k = true then bnd (φc e) fun c => bnd (bnd (ψ' b c) asB) fun k' => if k' = true then bnd (φd e) fun d => ψ'' c d else ret (.bool false) else ret (.bool false)) := fun s e σ res h' rl er eq Q po =>
  ha.thn rl er eq po fun t a x ev rlt ert hx eq2 po2 => hb.thn rlt ert eq2 po2 fun u b y ev2 rlu eru hy eq3 po3 => by
    have hx := hx.mono rlt ev2.toLt
    rcases bnd_some eq3 with ⟨k, h1, e1, e2⟩ | ⟨c, e1, rfl⟩
    · rcases bnd_some e1 with ⟨d, h2, e3, e4⟩ | ⟨c, _, z⟩
      · refine hr u a b x y (.ok d) h2 rlu hx hy e3 _ fun w z hw ew rlw hz => ?_
        subst hw
        obtain ⟨k', rfl, z2, rfl⟩ := asB_some e4
        cases z2
        refine ⟨k, hz, ?_⟩
        cases k with
        | false => exact po_ret (Rv := Dr K) (a := .bool false) rlw rfl e2 (po3.pre ew)
        | true =>
          refine hc.thn rlw (eru.mono rlu ew.toLt) e2 (po3.pre ew) fun v c z ev3 rlv erv hz2 eq4 po4 => ?_
          have hy2 := (hy.mono rlu ew.toLt).mono rlw ev3.toLt
          rcases bnd_some eq4 with ⟨k, h1, e1, e2⟩ | ⟨c, e1, rfl⟩
          · rcases bnd_some e1 with ⟨d, h2, e3, e4⟩ | ⟨c, _, z⟩
            · refine hr' v b c y z (.ok d) h2 rlv hy2 hz2 e3 _ fun w2 z2 hw2 ew2 rlw2 hz3 => ?_
              subst hw2
              obtain ⟨k', rfl, z4, rfl⟩ := asB_some e4
              cases z4
              refine ⟨k, hz3, ?_⟩
              cases k with
              | false => exact po_ret (Rv := Dr K) (a := .bool false) rlw2 rfl e2 (po4.pre ew2)
              | true => exact hd.thn rlw2 (erv.mono rlv ew2.toLt) e2 (po4.pre ew2) fun v3 c3 z3 ev4 rlv4 erv4 hz4 eq5 po5 => hr'' v3 c c3 z z3 _ _ rlv4 ((hz2.mono rlv ew2.toLt).mono rlw2 ev4.toLt) hz4 eq5 Q po5
            · cases z
          · rcases bnd_some e1 with ⟨d, h2, e3, e4⟩ | ⟨c, e3, z⟩
            · obtain ⟨k', rfl, z2, rfl⟩ := asB_some e4
              cases z2
            · cases z
              exact hr' v b _ y z (.error _) _ rlv hy2 hz2 e3 _ po4
      · cases z
    · rcases bnd_some e1 with ⟨d, h2, e3, e4⟩ | ⟨c, e3, z⟩
      · obtain ⟨k', rfl, z2, rfl⟩ := asB_some e4
        cases z2
      · cases z
        exact hr u a b x y (.error _) _ rlu hx hy e3 _ po3
end
section
variable {K : PySem.W.Frag} {T : List (Addr × Str)} {E : XK}
theorem ss_par3 {i j l : Nat} {tr : TA} {φr : En → M (List D)} (h : SA K T E tr φr) : SS K T E (tPar3 i j l tr) (fun e => bnd (φr e) fun ds => match ds with | [a, b, c] => ret (.nx, ((e.set i (some a)).set j (some b)).set l (some c)) | _ => opt .none) := fun s e σ r h' rl er eq Dn po =>
  h.thnE rl er eq po.er fun t ds vs ev rlt ert hv eq2 po2 => by
    split at eq2
    · obtain ⟨rfl, rfl⟩ := ret_some eq2
      obtain ⟨v, vs2, rfl, h1, hv2⟩ := hv
      obtain ⟨u, w, rfl, h2, h3⟩ := drl2 hv2
      exact ⟨v, u, w, rfl, po.nx _ rfl t _ rfl ev rlt (((ert.set h1).set h2).set h3)⟩
    · cases eq2
end
section
variable {K : PySem.W.Frag} {T : List (Addr × Str)} {E : XK}
theorem kr_pow : KR K T E (rI CPow fun i j => V.int (i ^ j.toNat)) (fun a b => rd fun h => i2 (fun i j => if 0 ≤ j ∧ j ≤ 1000 ∧ i.natAbs < 2 ^ 64 then some (.int (i ^ j.toNat)) else .none) h a b) := kr_i2 fun i j d e => by
  split at e
  · next hc =>
    cases e
    exact ⟨_, rfl, fun H Q q => ⟨i, j, rfl, rfl, ⟨hc.1, by omega, hc.2.2⟩, q⟩⟩
  · cases e
end
end Sc

namespace Sc
open PySem PySem.Spec PyProof.Rows L2
/-! ### a def's body, statement by statement -/
theorem rOk {F : List D → M D} {ds : List D} {h : MH} {v : D} {R : MH → Prop} (x : ∃ r h', F ds h = some (r, h') ∧ r = .ok v ∧ R h') : ∃ h', F ds h = some (.ok v, h') ∧ R h' := by
  obtain ⟨_, h', e, rfl, hR⟩ := x
  exact ⟨h', e, hR⟩
theorem rEq {F : List D → M D} {ds : List D} {h h' : MH} {v : D} (x : ∃ r h1, F ds h = some (r, h1) ∧ r = .ok v ∧ h1 = h') : F ds h = some (.ok v, h') := by
  obtain ⟨_, _, e, rfl, rfl⟩ := x
  exact e
theorem stpR {ψ : M (Fl × En)} {k : En → M (Fl × En)} {h h1 : MH} {e1 : En} {R : Except Str D → MH → Prop} (q : ψ h = some (.ok (.nx, e1), h1)) (rest : ∃ r h', bnd (k e1) endM h1 = some (r, h') ∧ R r h') : ∃ r h', bnd (bnd ψ (go k)) endM h = some (r, h') ∧ R r h' := by
  obtain ⟨r, h', a, b⟩ := rest
  refine ⟨r, h', ?_, b⟩
  have e : bnd ψ (go k) h = k e1 h1 := by rw [bnd_ap, q]; rfl
  rw [bnd_ap, e, ← bnd_ap]
  exact a
theorem stpRE {ψ : M (Fl × En)} {k : En → M (Fl × En)} {h : MH} {P : En → MH → Prop} {R : Except Str D → MH → Prop} (q : ∃ e1 h1, ψ h = some (.ok (.nx, e1), h1) ∧ P e1 h1) (rest : ∀ e1 h1, P e1 h1 → ∃ r h', bnd (k e1) endM h1 = some (r, h') ∧ R r h') : ∃ r h', bnd (bnd ψ (go k)) endM h = some (r, h') ∧ R r h' := by
  obtain ⟨e1, h1, q1, p1⟩ := q
  exact stpR q1 (rest e1 h1 p1)
/-! ### lists by their numbers, compared -/
mutual
theorem py1_py0 : ∀ {d : D} {p : PyData}, py1 [] d = some p → py0 d = some p
  | .none, _, h => h
  | .bool _, _, h => h
  | .int _, _, h => h
  | .str _, _, h => h
  | .scr _, _, h => h
  | .ref _, _, h => nomatch h
  | .list ds, _, h => by
    obtain ⟨ps, e1, rfl⟩ := Option.map_eq_some_iff.mp h
    show (py0L ds).map PyData.list = _
    rw [py1_py0L e1]
    rfl
  | .tuple ds, _, h => by
    obtain ⟨ps, e1, rfl⟩ := Option.map_eq_some_iff.mp h
    show (py0L ds).map PyData.tuple = _
    rw [py1_py0L e1]
    rfl
theorem py1_py0L : ∀ {ds : List D} {ps : List PyData}, py1L [] ds = some ps → py0L ds = some ps
  | [], _, h => h
  | d :: ds, _, h => by
    obtain ⟨p, e1, e2⟩ := Option.bind_eq_some_iff.mp h
    obtain ⟨qs, e3, rfl⟩ := Option.map_eq_some_iff.mp e2
    show ((py0 d).bind fun p => (py0L ds).map fun ps => p :: ps) = _
    rw [py1_py0 e1, py1_py0L e3]
    rfl
end
/-- data that are equal, whatever they stand as -/
def Lk (h : MH) (d : D) (p : PyData) : Prop := py1 h d = some p ∧ (∀ i, d ≠ .int i) ∧ (∀ x, d ≠ .str x) ∧ ∀ b, d ≠ .bool b
theorem lk_list {ds : List D} {k : Nat} (s : SdL ds k) : ∃ ps, (∀ h, Lk h (.list ds) (.list ps)) ∧ (∀ h n, h[n]? = some (MO.lst ds) → Lk h (.ref n) (.list ps)) ∧ (PyData.list ps).canLay0 = true ∧ (PyData.list ps).depth ≤ k + 1 := by
  obtain ⟨ps, b1, b2, b3⟩ := s
  refine ⟨ps, fun h => ⟨(by simp only [py1, b1, Option.map_some] : py1 h (.list ds) = _), fun _ z => D.noConfusion z, fun _ z => D.noConfusion z, fun _ z => D.noConfusion z⟩, fun h n hn => ⟨?_, fun _ z => D.noConfusion z, fun _ z => D.noConfusion z, fun _ z => D.noConfusion z⟩, b2, Nat.succ_le_succ b3⟩
  show (match h[n]? with | some (.lst ds) => (py0L ds).map PyData.list | _ => Option.none) = _
  rw [hn]
  show (py0L ds).map PyData.list = _
  rw [py1_py0L (b1 [])]
  rfl
theorem lk_deq {h : MH} {a b : D} {p : PyData} {k : Nat} (ha : Lk h a p) (hb : Lk h b p) (h1 : p.canLay0 = true) (h2 : p.depth ≤ k) (hk : k ≤ 64) : deq h a b = some true := by
  have sp : SeqAt.shaped p = true := by
    unfold SeqAt.shaped
    rw [h1, decide_eq_true (Nat.le_trans h2 hk)]
    rfl
  have key : (match py1 h a, py1 h b with
    | some p, some q => if SeqAt.shaped p = true ∧ SeqAt.shaped q = true then some (PyData.eqv p q) else .none
    | _, _ => .none) = some true := by
    rw [ha.1, hb.1]
    simp only [sp, and_self, if_true, SeqAt.eqv_refl p h1]
  obtain ⟨_, z1, z2, z3⟩ := ha
  cases a with
  | int i => exact absurd rfl (z1 i)
  | str i => exact absurd rfl (z2 i)
  | bool i => exact absurd rfl (z3 i)
  | none => exact key
  | list ds => exact key
  | tuple ds => exact key
  | ref n => exact key
  | scr ns => exact key
theorem deq_refs {h : MH} {a b : Nat} {ds : List D} {k : Nat} (s : SdL ds k) (hk : k ≤ 63) (ha : h[a]? = some (.lst ds)) (hb : h[b]? = some (.lst ds)) : deq h (.ref a) (.ref b) = some true := by
  obtain ⟨ps, _, e, c1, c2⟩ := lk_list s
  exact lk_deq (e h a ha) (e h b hb) c1 c2 (by omega)
theorem deq_lref {h : MH} {b : Nat} {ds : List D} {k : Nat} (s : SdL ds k) (hk : k ≤ 63) (hb : h[b]? = some (.lst ds)) : deq h (.list ds) (.ref b) = some true := by
  obtain ⟨ps, f, e, c1, c2⟩ := lk_list s
  exact lk_deq (f h) (e h b hb) c1 c2 (by omega)
theorem deq_refl {h : MH} {b : Nat} {ds : List D} {k : Nat} (s : SdL ds k) (hk : k ≤ 63) (hb : h[b]? = some (.lst ds)) : deq h (.ref b) (.list ds) = some true := by
  obtain ⟨ps, f, e, c1, c2⟩ := lk_list s
  exact lk_deq (e h b hb) (f h) c1 c2 (by omega)
/-! ### comprehensions with a test -/
theorem lc_test {α : Type} {ck : Option Nat} {all : List D} {e : En} {γ : D → En → M En} {θ : En → M Bool} {φ : En → M D} {h : MH} (f : α → D) (p : α → Bool) (g : α → D) (hck : ckOk ck all h) : ∀ (xs : List α), (∀ x ∈ xs, ∃ e2, γ (f x) e h = some (.ok e2, h) ∧ θ e2 h = some (.ok (p x), h) ∧ (p x = true → φ e2 h = some (.ok (g x), h))) → lcM ck all e γ θ φ (xs.map f) h = some (.ok ((xs.filter p).map g), h)
  | [], _ => by
    show bnd (chk ck all) (fun _ => ret []) h = _
    rw [bnd_ap, chk_ok hck]
    rfl
  | x :: xs, hx => by
    obtain ⟨e2, h1, h2, h3⟩ := hx x List.mem_cons_self
    have ih := lc_test f p g hck xs fun y hy => hx y (List.mem_cons_of_mem _ hy)
    rw [List.map_cons, lc_consC]
    cases hp : p x with
    | true =>
      rw [hp] at h2
      rw [List.filter_cons_of_pos hp, List.map_cons]
      simp only [bnd_ap, chk_ok hck, safe_ap, h1, h2, h3 hp, ret_ap, if_true, ih]
    | false =>
      rw [hp] at h2
      rw [List.filter_cons_of_neg (by rw [hp]; exact Bool.false_ne_true)]
      simp only [bnd_ap, chk_ok hck, safe_ap, h1, h2, ret_ap, Bool.false_eq_true, if_false, ih]
end Sc

namespace Sc
open PySem PySem.Spec PyProof.Rows L2
section
variable {K : PySem.W.Frag} {T : List (Addr × Str)} {E : XK} {te : TE}
/-- what is not reached -/
theorem sm_never : SE K T E te (fun _ => opt .none) := fun s e σ r h' rl er eq Q po => by
  obtain ⟨_, z, _⟩ := opt_some eq
  cases z
theorem sm_dnewK : SE K T E tDNewK (fun _ => newO (.dk [])) := fun s e σ r h' rl er eq Q po => by
  cases eq
  intro p hp
  obtain ⟨ev, rl2⟩ := st_alloc (o := .dk []) (u := .dK []) rl hp ⟨[], rfl, rfl⟩ fun z => by cases z
  exact po ⟨s.X, s.as ++ [p], s.h ++ [.dk []], upd s.H p (.dK [])⟩ (.ref p) rfl ev rl2 ⟨p, rfl, by show (s.as ++ [p])[s.h.length]? = _; rw [← rl.len, List.getElem?_append_right (Nat.le_refl _), Nat.sub_self]; rfl⟩
end
theorem tyM_ref (h : MH) (n : Nat) : tyM h (.ref n) = match h[n]? with | some (.lst _) => some "list" | some (.dk _) => some "dict" | _ => .none := rfl
/-! ### several things beside -/
end Sc
namespace Sc
open PySem PySem.Spec PyProof.Rows L2
theorem ss_never {K : PySem.W.Frag} {T : List (Addr × Str)} {E : XK} : SS K T E tNever (fun _ => opt .none) := fun s e σ r h' rl er eq Dn po => by
  obtain ⟨_, z, _⟩ := opt_some eq
  cases z
theorem plus_lr (h : MH) (n : Nat) (xs : List D) : plus h (.list xs) (.ref n) = match h[n]? with | some (.lst ys) => (if xs.length + ys.length ≤ sizeLine then some (.list (xs ++ ys)) else .none) | _ => .none := by
  show (match sqL h (.list xs), sqL h (.ref n) with
    | some xs, some ys => if xs.length + ys.length ≤ sizeLine then some (D.list (xs ++ ys)) else .none
    | _, _ => .none) = _
  rw [sqL_list, sqL_ref]
  cases h[n]? with
  | none => rfl
  | some o => cases o <;> rfl
/-- a loop over a list by its number -/
theorem for_invC {body : D → En → M (Fl × En)} {ck : Option Nat} {all : List D} (I : Nat → En → MH → Prop) (hck : ∀ j e h, I j e h → ckOk ck all h) : ∀ (xs : List D) (i : Nat), (∀ j x, xs[j]? = some x → ∀ e h, I (i + j) e h → ∃ e' h', body x e h = some (.ok (.nx, e'), h') ∧ I (i + j + 1) e' h') →
    ∀ e h, I i e h → ∃ e' h', forM ck all body xs e h = some (.ok (.nx, e'), h') ∧ I (i + xs.length) e' h'
  | [], i, _, e, h, k => ⟨e, h, by show bnd (chk ck all) _ h = _; rw [bnd_ap, chk_ok (hck i e h k)]; rfl, k⟩
  | x :: xs, i, hb, e, h, k => by
    obtain ⟨e1, h1, q1, k1⟩ := hb 0 x rfl e h k
    obtain ⟨e2, h2, q2, k2⟩ := for_invC I hck xs (i + 1) (fun j y hy e h k => by
      have := hb (j + 1) y hy e h (by rw [show i + (j + 1) = i + 1 + j by omega]; exact k)
      rw [show i + (j + 1) + 1 = i + 1 + j + 1 by omega] at this
      exact this) e1 h1 k1
    refine ⟨e2, h2, ?_, by rw [List.length_cons, show i + (xs.length + 1) = i + 1 + xs.length by omega]; exact k2⟩
    show bnd (chk ck all) (fun _ => bnd (body x e) (lend (forM ck all body xs))) h = _
    rw [bnd_ap, chk_ok (hck i e h k)]
    show bnd (body x e) (lend (forM ck all body xs)) h = _
    rw [bnd_ap, q1]
    exact q2
theorem for_invCE {body : D → En → M (Fl × En)} {ck : Option Nat} {all xs : List D} {e : En} {h : MH} {r : Option (Except Str (Fl × En) × MH)} (hB : forM ck all body xs e h = r) (I : Nat → En → MH → Prop) (hck : ∀ j e h, I j e h → ckOk ck all h)
    (hb : ∀ j x, xs[j]? = some x → ∀ e h, I j e h → ∃ e' h', body x e h = some (.ok (.nx, e'), h') ∧ I (j + 1) e' h') (k : I 0 e h) : ∃ e' h', r = some (.ok (.nx, e'), h') ∧ I xs.length e' h' := by
  obtain ⟨e', h', q1, q2⟩ := for_invC I hck xs 0 (fun j x hx e h k => by
    rw [Nat.zero_add] at k ⊢
    exact hb j x hx e h k) e h k
  rw [Nat.zero_add] at q2
  exact ⟨e', h', hB.symm.trans q1, q2⟩
/-- a loop that may end with a result -/
theorem for_invR {body : D → En → M (Fl × En)} {all : List D} (I : Nat → En → MH → Prop) (J : Nat → D → MH → Prop) : ∀ (xs : List D) (i : Nat), (∀ j x, xs[j]? = some x → ∀ e h, I (i + j) e h → (∃ e' h', body x e h = some (.ok (.nx, e'), h') ∧ I (i + j + 1) e' h') ∨ ∃ d e' h', body x e h = some (.ok (.rt d, e'), h') ∧ J (i + j) d h') →
    ∀ e h, I i e h → (∃ e' h', forM .none all body xs e h = some (.ok (.nx, e'), h') ∧ I (i + xs.length) e' h') ∨ ∃ j d e' h', j < xs.length ∧ forM .none all body xs e h = some (.ok (.rt d, e'), h') ∧ J (i + j) d h'
  | [], i, _, e, h, k => .inl ⟨e, h, rfl, k⟩
  | x :: xs, i, hb, e, h, k => by
    rcases hb 0 x rfl e h k with ⟨e1, h1, q1, k1⟩ | ⟨d, e1, h1, q1, k1⟩
    · have ih := for_invR (all := all) I J xs (i + 1) (fun j y hy e h k => by
        have := hb (j + 1) y hy e h (by rw [show i + (j + 1) = i + 1 + j by omega]; exact k)
        rw [show i + (j + 1) = i + 1 + j by omega] at this
        exact this) e1 h1 k1
      rcases ih with ⟨e2, h2, q2, k2⟩ | ⟨j, d, e2, h2, hj, q2, k2⟩
      · refine .inl ⟨e2, h2, ?_, by rw [List.length_cons, show i + (xs.length + 1) = i + 1 + xs.length by omega]; exact k2⟩
        rw [for_cons, bnd_ap, q1]
        exact q2
      · refine .inr ⟨j + 1, d, e2, h2, by rw [List.length_cons]; omega, ?_, by rw [show i + (j + 1) = i + 1 + j by omega]; exact k2⟩
        rw [for_cons, bnd_ap, q1]
        exact q2
    · refine .inr ⟨0, d, e1, h1, by rw [List.length_cons]; omega, ?_, k1⟩
      rw [for_cons, bnd_ap, q1]
      rfl
theorem for_invRE {body : D → En → M (Fl × En)} {all xs : List D} {e : En} {h : MH} {r : Option (Except Str (Fl × En) × MH)} (hB : forM .none all body xs e h = r) (I : Nat → En → MH → Prop) (J : Nat → D → MH → Prop)
    (hb : ∀ j x, xs[j]? = some x → ∀ e h, I j e h → (∃ e' h', body x e h = some (.ok (.nx, e'), h') ∧ I (j + 1) e' h') ∨ ∃ d e' h', body x e h = some (.ok (.rt d, e'), h') ∧ J j d h') (k : I 0 e h) : (∃ e' h', r = some (.ok (.nx, e'), h') ∧ I xs.length e' h') ∨ ∃ j d e' h', j < xs.length ∧ r = some (.ok (.rt d, e'), h') ∧ J j d h' := by
  have := for_invR (all := all) I J xs 0 (fun j x hx e h k => by
    rw [Nat.zero_add] at k ⊢
    exact hb j x hx e h k) e h k
  rw [hB] at this
  rcases this with ⟨e', h', q, k⟩ | ⟨j, d, e', h', hj, q, k⟩
  · rw [Nat.zero_add] at k
    exact .inl ⟨e', h', q, k⟩
  · rw [Nat.zero_add] at k
    exact .inr ⟨j, d, e', h', hj, q, k⟩
/-! a body's statement that may end it -/
theorem stpRX {ψ : M (Fl × En)} {k : En → M (Fl × En)} {h : MH} {P : En → MH → Prop} {R : Except Str D → MH → Prop} (q : (∃ e1 h1, ψ h = some (.ok (.nx, e1), h1) ∧ P e1 h1) ∨ ∃ d e1 h1, ψ h = some (.ok (.rt d, e1), h1) ∧ R (.ok d) h1) (rest : ∀ e1 h1, P e1 h1 → ∃ r h', bnd (k e1) endM h1 = some (r, h') ∧ R r h') : ∃ r h', bnd (bnd ψ (go k)) endM h = some (r, h') ∧ R r h' := by
  rcases q with q | ⟨d, e1, h1, q, r⟩
  · exact stpRE q rest
  · refine ⟨.ok d, h1, ?_, r⟩
    have e : bnd ψ (go k) h = some (.ok (.rt d, e1), h1) := by rw [bnd_ap, q]; rfl
    rw [bnd_ap, e]
    rfl
/-! a list by its number, and the empty one -/
theorem deq_nil {h : MH} {n : Nat} {ds : List D} {k : Nat} (s : SdL ds k) (hk : k ≤ 63) (hn : h[n]? = some (.lst ds)) : deq h (.ref n) (.list []) = some (decide (ds = [])) := by
  cases ds with
  | nil => exact deq_refl (k := 0) SdL.nil (by decide) hn
  | cons d ds =>
    obtain ⟨ps, _, e, c1, c2⟩ := lk_list s
    have sp : SeqAt.shaped (.list ps) = true := by
      unfold SeqAt.shaped
      rw [c1, decide_eq_true (Nat.le_trans c2 (by omega))]
      rfl
    have e1 := (e h n hn).1
    have e2 : py1 h (.list []) = some (.list []) := rfl
    have sp2 : SeqAt.shaped (.list []) = true := by decide +kernel
    obtain ⟨p, qs, rfl⟩ : ∃ p qs, ps = p :: qs := by
      obtain ⟨ps', b1, _⟩ := s
      have b0 := b1 []
      have e3 : py1 h (.ref n) = (py0L (d :: ds)).map PyData.list := by
        show (match h[n]? with | some (.lst ds) => (py0L ds).map PyData.list | _ => Option.none) = _
        rw [hn]
      rw [e1, py1_py0L b0] at e3
      cases e3
      obtain ⟨p, _, f2⟩ := Option.bind_eq_some_iff.mp b0
      obtain ⟨qs, _, rfl⟩ := Option.map_eq_some_iff.mp f2
      exact ⟨p, qs, rfl⟩
    show (match py1 h (.ref n), py1 h (.list []) with
      | some p, some q => if SeqAt.shaped p = true ∧ SeqAt.shaped q = true then some (PyData.eqv p q) else .none
      | _, _ => .none) = _
    rw [e1, e2]
    simp only [sp, sp2, and_self, if_true]
    rfl
end Sc

namespace Sc
open PySem PySem.Spec PyProof.Rows L2
/-! ### o[a:c] = a list -/
def gSl (to : TE) (tl th : TO) : TG := fun v σ H Q => to σ H fun o H1 => tl σ H1 fun l H2 => th σ H2 fun u H3 =>
  ∃ p xs b ys a c, o = .ref p ∧ v = .ref b ∧ l = some a ∧ u = some c ∧ H3 p = some (.lst xs) ∧ H3 b = some (.lst ys) ∧ p ≠ b ∧ 0 ≤ a ∧ a ≤ c ∧ c ≤ (xs.length : Int) ∧ xs.length + ys.length ≤ sizeLine ∧ Q σ (upd H3 p (.lst (xs.take a.toNat ++ ys ++ xs.drop c.toNat)))
section
variable {X : Cx} {o : Expr} {lo hi : Option Expr} {pos p2 : Pos} {ta : TE} {tl th : TO}
theorem pg_sl (ho : PE X o ta) (hl : PO X lo tl) (hu : PO X hi th) : PG X (.Subscript o (.Slice lo hi none p2) pos) (gSl ta tl th) := by
  refine ⟨fun pins s σ H v u Q I r h => ?_⟩
  rw [show assign (.Subscript o (.Slice lo hi none p2) pos) X.env u = (do
      let ov ← holding [u] (eval o X.env)
      let iv ← holding [u, ov] (eval (.Slice lo hi none p2) X.env)
      standAt pos
      holding [u, ov, iv] (setItem ov iv u)
      release [iv, u, ov] []) from rfl]
  refine wpAny_bind (wpAny_holding (thn (ho.run pins s σ H _ I h) fun ov s1 ⟨x, H1, I1, r1, q1⟩ => ?_))
  refine wpAny_bind (wpAny_holding ?_)
  refine wpAny_Slice (thn (hl.run pins s1 σ H1 _ I1 q1) fun vl s2 ⟨l, H2, I2, pl, q2⟩ => thn (hu.run pins s2 σ H2 _ I2 q2) fun vu s3 ⟨u', H3, I3, pu, q3⟩ => ?_)
  rw [evalPart_none]
  refine wpAny_pure ?_
  obtain ⟨p, xs, b, ys, a, c, rfl, rfl, rfl, rfl, g1, g2, hne, h0, h1, h2, hz, q⟩ := q3
  have I4 : Inv X pins σ H3 { s3 with heap := s3.heap.push { cls := .type "slice", data := .fields #[vl, vu, .none] } } := I3.kept (t' := s3.toks) fun b ob q => Heap.get?_push_of_some _ q
  obtain rfl : ov = Value.ref p := r1
  obtain rfl : u = Value.ref b := r
  have ra : RelV (.int a) vl := by cases pl; exact ⟨_, rfl⟩
  have rc : RelV (.int c) vu := by cases pu; exact ⟨_, rfl⟩
  refine wpAny_bind (wpAny_standAt (wpAny_bind (wpAny_holding (set_slice I4 g1 g2 hne (Heap.IsSliceOf.new ..) ra rc h0 h1 h2 hz fun s' I' => ?_))))
  exact wpAny_release ⟨σ, _, I', q⟩
end
def sliM (o : D) (lo hi : Option Int) (d : D) : M Unit := match o, lo, hi, d with
  | .ref n, some a, some c, .list es => fun h => match h[n]? with
    | some (.lst ds) => if 0 ≤ a ∧ a ≤ c ∧ c ≤ (ds.length : Int) ∧ ds.length + es.length ≤ sizeLine then some (.ok (), h.set n (.lst (ds.take a.toNat ++ es ++ ds.drop c.toNat))) else .none
    | _ => .none
  | _, _, _, _ => opt .none
theorem sli_ap (n : Nat) (a c : Int) (es : List D) (h : MH) : sliM (.ref n) (some a) (some c) (.list es) h = match h[n]? with
    | some (.lst ds) => if 0 ≤ a ∧ a ≤ c ∧ c ≤ (ds.length : Int) ∧ ds.length + es.length ≤ sizeLine then some (.ok (), h.set n (.lst (ds.take a.toNat ++ es ++ ds.drop c.toNat))) else .none
    | _ => .none := rfl
section
variable {K : PySem.W.Frag} {T : List (Addr × Str)} {E : XK} {ta : TE} {φa : En → M D} {tl th : TO} {φl φh : En → M (Option Int)}
theorem sli_at {s : Ws} {o d : D} {x v : V} {lo hi : Option Int} {h' : MH} {r : Except Str Unit} (rl : Rl K T s) (ho : Dr K s o x) (hd : Dr K s d v) (eq : sliM o lo hi d s.h = some (r, h')) :
    r = .ok () ∧ ∃ p xs b ys a c, x = .ref p ∧ v = .ref b ∧ lo = some a ∧ hi = some c ∧ s.H p = some (.lst xs) ∧ s.H b = some (.lst ys) ∧ p ≠ b ∧ 0 ≤ a ∧ a ≤ c ∧ c ≤ (xs.length : Int) ∧ xs.length + ys.length ≤ sizeLine ∧ ∃ t : Ws, t.h = h' ∧ Ev s t ∧ Rl K T t ∧ t.H = upd s.H p (.lst (xs.take a.toNat ++ ys ++ xs.drop c.toNat)) := by
  unfold sliM at eq
  split at eq
  · next n a c es =>
    split at eq
    · next ds hn =>
      split at eq
      · next hc =>
        cases eq
        obtain ⟨p, rfl, h2⟩ := ho
        obtain ⟨b, ys, rfl, h3, h4, h5⟩ := hd
        obtain ⟨u, h6, xs, rfl, h7⟩ := rl.ob n _ p hn h2
        obtain ⟨c0, c1, c2, c3⟩ := hc
        have ne : p ≠ b := fun z => by
          subst z
          have := h4.2 n h2
          rw [hn] at this
          cases this
        obtain ⟨ev, r2⟩ := st_set (o' := .lst (ds.take a.toNat ++ es ++ ds.drop c.toNat)) (u' := .lst (xs.take a.toNat ++ ys ++ xs.drop c.toNat)) rl hn (fun z => by cases z) h2 ⟨_, rfl, ((h7.take _).append h5).append (h7.drop _)⟩
        exact ⟨rfl, p, xs, b, ys, a, c, rfl, rfl, rfl, rfl, h6, h3, ne, c0, c1, by rw [h7.length]; exact c2, by rw [h7.length, h5.length]; exact c3, _, rfl, ev, r2, rfl⟩
      · cases eq
    · cases eq
  · cases eq
theorem sg_sl (ha : SE K T E ta φa) (hl : SO K T E tl φl) (hu : SO K T E th φh) : SG K T E (gSl ta tl th) (fun d e => bnd (φa e) fun a => bnd (φl e) fun lo => bnd (φh e) fun hi => bnd (sliM a lo hi d) fun _ => ret e) := fun s d v e σ r h' rl hd er eq Q q qe =>
  ha.thnE rl er eq qe fun t a x ev rlt ert hx eq2 pe2 => hl.thnE rlt ert eq2 pe2 fun u lo lo' ev2 rlu eru hlo eq3 pe3 => hu.thnE rlu eru eq3 pe3 fun w hi hi' ev3 rlw erw hhi eq4 pe4 => by
    subst hlo hhi
    have hx := (hx.mono rlt ev2.toLt).mono rlu ev3.toLt
    have hd := ((hd.mono rl ev.toLt).mono rlt ev2.toLt).mono rlu ev3.toLt
    rcases bnd_some eq4 with ⟨_, h3, e1, e4⟩ | ⟨c, e1, _⟩
    · obtain ⟨rfl, rfl⟩ := ret_some e4
      obtain ⟨_, p, xs, b, ys, a', c', rfl, rfl, rfl, rfl, g1, g2, g3, g4, g5, g6, g7, z, hz, ez, rz, eH⟩ := sli_at rlw hx hd e1
      refine ⟨p, xs, b, ys, a', c', rfl, rfl, rfl, rfl, g1, g2, g3, g4, g5, g6, g7, ?_⟩
      rw [← eH]
      exact q e rfl z σ hz (((ev.trans ev2).trans ev3).trans ez) rz (erw.mono rlw ez.toLt)
    · exact absurd (sli_at rlw hx hd e1).1 (by intro z; cases z)
end
theorem le_szK {n : Nat} (h : n ≤ 10000) : n ≤ sizeLine := by
  rw [sizeLine_eq]
  omega
/-- out of simp's sight -/
def Hid (p : Prop) : Prop := p
theorem Hid.of {p : Prop} (h : p) : Hid p := h
theorem Hid.out {p : Prop} (h : Hid p) : p := h
/-! ### slices -/
theorem cut_hi {α : Type} (l : List α) {j : Int} (h : 0 ≤ j) : cutL l none (some j) = l.take j.toNat := by
  unfold cutL
  obtain ⟨k, rfl⟩ := Int.eq_ofNat_of_zero_le h
  rw [HT.sIx_none, HT.sIx_nat, List.drop_zero, Nat.sub_zero, Int.toNat_natCast]
  by_cases hk : k ≤ l.length
  · rw [Nat.min_eq_left hk]
  · rw [Nat.min_eq_right (by omega), List.take_length, List.take_of_length_le (by omega)]
theorem cut_lo {α : Type} (l : List α) {i : Int} (h : 0 ≤ i) : cutL l (some i) none = l.drop i.toNat := by
  unfold cutL
  obtain ⟨k, rfl⟩ := Int.eq_ofNat_of_zero_le h
  rw [HT.sIx_none, HT.sIx_nat, Int.toNat_natCast, List.take_of_length_le (by rw [List.length_drop]; exact Nat.le_refl _)]
  by_cases hk : k ≤ l.length
  · rw [Nat.min_eq_left hk]
  · rw [Nat.min_eq_right (by omega), List.drop_length, List.drop_of_length_le (by omega)]
theorem cut_mid {α : Type} (l : List α) {i j : Int} (h : 0 ≤ i) (hij : i ≤ j) : cutL l (some i) (some j) = (l.drop i.toNat).take (j.toNat - i.toNat) := by
  unfold cutL
  obtain ⟨k, rfl⟩ := Int.eq_ofNat_of_zero_le h
  obtain ⟨m, rfl⟩ := Int.eq_ofNat_of_zero_le (Int.le_trans h hij)
  rw [HT.sIx_nat, HT.sIx_nat, Int.toNat_natCast, Int.toNat_natCast]
  by_cases hk : k ≤ l.length
  · rw [Nat.min_eq_left hk]
    by_cases hm : m ≤ l.length
    · rw [Nat.min_eq_left hm]
    · rw [Nat.min_eq_right (by omega), List.take_of_length_le (by rw [List.length_drop]; exact Nat.le_refl _), List.take_of_length_le (by rw [List.length_drop]; omega)]
  · rw [Nat.min_eq_right (a := k) (by omega), List.drop_length, List.drop_of_length_le (by omega), List.take_nil, List.take_nil]
theorem cut_len {α : Type} (l : List α) (lo hi : Option Int) : (cutL l lo hi).length ≤ l.length := by
  unfold cutL
  rw [List.length_take, List.length_drop]
  omega
/-! ### comprehensions over what is there -/
theorem lc_each {ck : Option Nat} {all : List D} {e : En} {γ : D → En → M En} {φ : En → M D} {h : MH} (g : D → D) (hck : ckOk ck all h) : ∀ (xs : List D), (∀ x ∈ xs, ∃ e2, γ x e h = some (.ok e2, h) ∧ φ e2 h = some (.ok (g x), h)) → lcM ck all e γ (fun _ => ret true) φ xs h = some (.ok (xs.map g), h) := fun xs hx => by
  have := lc_pure (ck := ck) (all := all) (e := e) (γ := γ) (φ := φ) (h := h) (fun d => d) g hck xs hx
  rw [List.map_id'] at this
  exact this
theorem lc_pair {ck : Option Nat} {all : List D} {e : En} {γ : D → En → M En} {φ : En → M D} {h : MH} (hck : ckOk ck all h) : ∀ (xs ys : List D), xs.length = ys.length → (∀ (i : Nat) x y, xs[i]? = some x → ys[i]? = some y → ∃ e2, γ x e h = some (.ok e2, h) ∧ φ e2 h = some (.ok y, h)) → lcM ck all e γ (fun _ => ret true) φ xs h = some (.ok ys, h)
  | [], [], _, _ => by
    show bnd (chk ck all) (fun _ => ret []) h = _
    rw [bnd_ap, chk_ok hck]
    rfl
  | x :: xs, y :: ys, hl, hx => by
    obtain ⟨e2, h1, h2⟩ := hx 0 x y rfl rfl
    have ih := lc_pair (γ := γ) (φ := φ) (e := e) hck xs ys (by simpa using hl) fun i a b ha hb => hx (i + 1) a b ha hb
    rw [lc_consC]
    simp only [bnd_ap, chk_ok hck, safe_ap, h1, h2, ret_ap, if_true, ih]
theorem bools_true (xs : List D) : bools (xs.map fun _ => D.bool true) = some (xs.map fun _ => true) := bools_map (fun _ => true) xs
theorem all_true (xs : List D) : (xs.map fun _ => true).all id = true := by
  rw [List.all_eq_true]
  intro b hb
  obtain ⟨_, _, rfl⟩ := List.mem_map.mp hb
  rfl
theorem enum_atK {ds : List D} {i : Nat} {x : D} (h : (enumL ds)[i]? = some x) : ∃ d, ds[i]? = some d ∧ x = .tuple [.int (i : Nat), d] := by
  unfold enumL at h
  rw [List.getElem?_mapIdx] at h
  obtain ⟨d, h1, rfl⟩ := Option.map_eq_some_iff.mp h
  exact ⟨d, h1, rfl⟩
theorem enum_lenK (ds : List D) : (enumL ds).length = ds.length := List.length_mapIdx
/-! ### lists, as they may stand -/
def Ls (h : MH) (d : D) (ds : List D) : Prop := d = .list ds ∨ ∃ n, d = .ref n ∧ h[n]? = some (.lst ds)
theorem Ls.of (h : MH) (ds : List D) : Ls h (.list ds) ds := .inl rfl
theorem Ls.sqL {h : MH} {d : D} {ds : List D} (a : Ls h d ds) : sqL h d = some ds := by
  rcases a with rfl | ⟨n, rfl, hn⟩
  · rfl
  · rw [sqL_ref, hn]
theorem Ls.sq {h : MH} {d : D} {ds : List D} (a : Ls h d ds) : sq h d = some (.l ds) := by
  rcases a with rfl | ⟨n, rfl, hn⟩
  · rfl
  · rw [sq_ref, hn]
theorem Ls.ty {h : MH} {d : D} {ds : List D} (a : Ls h d ds) : tyM h d = some "list" := by
  rcases a with rfl | ⟨n, rfl, hn⟩
  · rfl
  · rw [tyM_ref, hn]
theorem Ls.it {h : MH} {d : D} {ds : List D} (a : Ls h d ds) : ∃ ck, itL d h = some (.ok (ds, ck), h) ∧ ckOk ck ds h := by
  rcases a with rfl | ⟨n, rfl, hn⟩
  · exact ⟨.none, rfl, trivial⟩
  · exact ⟨some n, by rw [itL_ref, hn], hn⟩
theorem Ls.keep {h h' : MH} {d : D} {ds : List D} (a : Ls h d ds) (k : ∀ n, n < h.length → h'[n]? = h[n]?) : Ls h' d ds := by
  rcases a with rfl | ⟨n, rfl, hn⟩
  · exact .inl rfl
  · exact .inr ⟨n, rfl, (k n (List.getElem?_eq_some_iff.mp hn).1).trans hn⟩
end Sc

namespace Sc
open PySem PySem.Spec PyProof.Rows L2
def top (i : Nat) : Stmt := PySem.Challenge.pw_steerscreen_k61_tapes_refused.main.body.getD i (.Pass ⟨0, 0, 0, 0⟩)
abbrev s__wall : Stmt := top 0
abbrev s_is_sign : Stmt := top 19
abbrev s_need_text : Stmt := top 20
abbrev s_Reader___init__ : Stmt := inClass (top 21) 0
abbrev s_Reader_dropped : Stmt := inClass (top 21) 1
abbrev s_Reader_left : Stmt := inClass (top 21) 2
abbrev s_Reader_feed : Stmt := inClass (top 21) 3
abbrev s_Reader_plain : Stmt := inClass (top 21) 4
abbrev s_Reader_read : Stmt := inClass (top 21) 5
abbrev s_Reader_can_go_on : Stmt := inClass (top 21) 6
abbrev s_Reader_whole : Stmt := inClass (top 21) 7
abbrev s_is_count : Stmt := top 27
abbrev s_need : Stmt := top 28
abbrev s_is_pen : Stmt := top 29
abbrev s_is_cell : Stmt := top 30
abbrev s_need_page : Stmt := top 31
abbrev s_changes : Stmt := top 32
abbrev s_need_size : Stmt := top 39
abbrev s_Row___init__ : Stmt := inClass (top 40) 0
abbrev s_blank_row : Stmt := top 41
abbrev s_Screen___init__ : Stmt := inClass (top 42) 0
abbrev s_Screen_begin : Stmt := inClass (top 42) 1
abbrev s_Screen_size : Stmt := inClass (top 42) 2
abbrev s_Screen_page : Stmt := inClass (top 42) 3
abbrev s_Screen_texts : Stmt := inClass (top 42) 4
abbrev s_Screen_kept : Stmt := inClass (top 42) 5
abbrev s_Screen_cursor : Stmt := inClass (top 42) 6
abbrev s_Screen_state : Stmt := inClass (top 42) 7
abbrev s_Screen_cell : Stmt := inClass (top 42) 8
abbrev s_Screen_feed : Stmt := inClass (top 42) 9
abbrev s_Screen_do : Stmt := inClass (top 42) 10
abbrev s_Screen_stand : Stmt := inClass (top 42) 11
abbrev s_Screen_put : Stmt := inClass (top 42) 12
abbrev s_Screen_roll : Stmt := inClass (top 42) 13
abbrev s_Screen_roll_down : Stmt := inClass (top 42) 14
abbrev s_Screen_cut_off : Stmt := inClass (top 42) 15
abbrev s_Screen_down : Stmt := inClass (top 42) 16
abbrev s_Screen_up : Stmt := inClass (top 42) 17
abbrev s_Screen_small : Stmt := inClass (top 42) 18
abbrev s_Screen_erase : Stmt := inClass (top 42) 19
abbrev s_Screen_great : Stmt := inClass (top 42) 20
abbrev s_Screen_one : Stmt := inClass (top 42) 21
abbrev s_Screen_take_rows : Stmt := inClass (top 42) 22
abbrev s_Screen_shift : Stmt := inClass (top 42) 23
abbrev s_Tape___init__ : Stmt := inClass (top 47) 0
abbrev s_Tape_record : Stmt := inClass (top 47) 1
abbrev s_Tape_undo : Stmt := inClass (top 47) 2
abbrev s_Tape_redo : Stmt := inClass (top 47) 3
abbrev s_Tape_length : Stmt := inClass (top 47) 4
abbrev s_Tape_records : Stmt := inClass (top 47) 5
abbrev s_Tape_need_tick : Stmt := inClass (top 47) 6
abbrev s_Tape_screen_behind : Stmt := inClass (top 47) 7
abbrev s_Tape_page_at : Stmt := inClass (top 47) 8
abbrev s_Tape_cursor_at : Stmt := inClass (top 47) 9
abbrev s_Tape_changes_at : Stmt := inClass (top 47) 10
abbrev s_Tape_first_with : Stmt := inClass (top 47) 11
abbrev s__law_cell : Stmt := top 49
abbrev s__law_drawn : Stmt := top 50
abbrev s__law_word : Stmt := top 51
abbrev s__law_told : Stmt := top 52
abbrev s_law : Stmt := top 53
structure GT (K : PySem.W.Frag) (mg : Str → Option Value) : Prop where
  g__wall : mg "_wall" = some (.ref (He.ga K "_wall"))
  g_ScreenError : mg "ScreenError" = some (.ref (He.ga K "ScreenError"))
  g_BadText : mg "BadText" = some (.ref (He.ga K "BadText"))
  g_BadSize : mg "BadSize" = some (.ref (He.ga K "BadSize"))
  g_BadPlace : mg "BadPlace" = some (.ref (He.ga K "BadPlace"))
  g_BadPage : mg "BadPage" = some (.ref (He.ga K "BadPage"))
  g_BadPane : mg "BadPane" = some (.ref (He.ga K "BadPane"))
  g_BadTick : mg "BadTick" = some (.ref (He.ga K "BadTick"))
  g_Nothing : mg "Nothing" = some (.ref (He.ga K "Nothing"))
  i_MOST_TEXT : ∃ t, mg "MOST_TEXT" = some (.int (4000) t)
  i_MOST_FIGURES : ∃ t, mg "MOST_FIGURES" = some (.int (4) t)
  i_MOST_ARGUMENTS : ∃ t, mg "MOST_ARGUMENTS" = some (.int (4) t)
  t_SMALL : ∃ t, mg "SMALL" = some (.str "abcdefghijklmnopqrstuvwxyz" t)
  t_GREAT : ∃ t, mg "GREAT" = some (.str "ABCDEFGHIJKLMNOPQRSTUVWXYZ" t)
  t_FIGURES : ∃ t, mg "FIGURES" = some (.str "0123456789" t)
  i_BARRED : ∃ t, mg "BARRED" = some (.int (37) t)
  t_GAP : ∃ t, mg "GAP" = some (.str "\n" t)
  g_is_sign : mg "is_sign" = some (.ref (He.ga K "is_sign"))
  g_need_text : mg "need_text" = some (.ref (He.ga K "need_text"))
  g_Reader : mg "Reader" = some (.ref (He.ga K "Reader"))
  g_PLAIN : mg "PLAIN" = some (.ref (He.ga K "PLAIN"))
  g_BLANK : mg "BLANK" = some (.ref (He.ga K "BLANK"))
  i_MOST_COLOUR : ∃ t, mg "MOST_COLOUR" = some (.int (7) t)
  i_MOST_MARKS : ∃ t, mg "MOST_MARKS" = some (.int (3) t)
  g_is_count : mg "is_count" = some (.ref (He.ga K "is_count"))
  g_need : mg "need" = some (.ref (He.ga K "need"))
  g_is_pen : mg "is_pen" = some (.ref (He.ga K "is_pen"))
  g_is_cell : mg "is_cell" = some (.ref (He.ga K "is_cell"))
  g_need_page : mg "need_page" = some (.ref (He.ga K "need_page"))
  g_changes : mg "changes" = some (.ref (He.ga K "changes"))
  i_MOST_WIDE : ∃ t, mg "MOST_WIDE" = some (.int (60) t)
  i_MOST_HIGH : ∃ t, mg "MOST_HIGH" = some (.int (40) t)
  i_MOST_KEPT : ∃ t, mg "MOST_KEPT" = some (.int (200) t)
  i_LEAST_WIDE : ∃ t, mg "LEAST_WIDE" = some (.int (2) t)
  i_LEAST_HIGH : ∃ t, mg "LEAST_HIGH" = some (.int (2) t)
  g_need_size : mg "need_size" = some (.ref (He.ga K "need_size"))
  g_Row : mg "Row" = some (.ref (He.ga K "Row"))
  g_blank_row : mg "blank_row" = some (.ref (He.ga K "blank_row"))
  g_Screen : mg "Screen" = some (.ref (He.ga K "Screen"))
  i_MOST_TICKS : ∃ t, mg "MOST_TICKS" = some (.int (1000) t)
  i_MOST_RECORDS : ∃ t, mg "MOST_RECORDS" = some (.int (60) t)
  i_MOST_WORD : ∃ t, mg "MOST_WORD" = some (.int (20) t)
  g_Tape : mg "Tape" = some (.ref (He.ga K "Tape"))
  g__law_cell : mg "_law_cell" = some (.ref (He.ga K "_law_cell"))
  g__law_drawn : mg "_law_drawn" = some (.ref (He.ga K "_law_drawn"))
  g__law_word : mg "_law_word" = some (.ref (He.ga K "_law_word"))
  g__law_told : mg "_law_told" = some (.ref (He.ga K "_law_told"))
  g_law : mg "law" = some (.ref (He.ga K "law"))
  z_ValueError : mg "ValueError" = none
  z_all : mg "all" = none
  z_enumerate : mg "enumerate" = none
  z_range : mg "range" = none
  z_isinstance : mg "isinstance" = none
  z_int : mg "int" = none
  z_max : mg "max" = none
  z_min : mg "min" = none
  z_list : mg "list" = none
  z_str : mg "str" = none
  z_len : mg "len" = none
  z_bool : mg "bool" = none
  z_tuple : mg "tuple" = none
  z_sum : mg "sum" = none
  z_ord : mg "ord" = none
  z_zip : mg "zip" = none
  x_ScreenError : PySem.W.excIn K (He.ga K "ScreenError") He.veBase "ValueError.__new__" = true ∧ PySem.W.keepIn K (.ref (He.ga K "ScreenError")) = true ∧ PySem.W.subIn K (.ref (He.ga K "ScreenError")) (.type "BaseException") = some true ∧ PySem.W.typeIn K (.ref (He.ga K "ScreenError")) = some (.type "type")
  xm_ScreenError : PySem.W.exmOne K (.ref (He.ga K "ScreenError")) (.ref (He.ga K "ScreenError")) = some true
  x_BadText : PySem.W.excIn K (He.ga K "BadText") He.veBase "ValueError.__new__" = true ∧ PySem.W.keepIn K (.ref (He.ga K "BadText")) = true ∧ PySem.W.subIn K (.ref (He.ga K "BadText")) (.type "BaseException") = some true ∧ PySem.W.typeIn K (.ref (He.ga K "BadText")) = some (.type "type")
  xm_BadText : PySem.W.exmOne K (.ref (He.ga K "BadText")) (.ref (He.ga K "ScreenError")) = some true
  x_BadSize : PySem.W.excIn K (He.ga K "BadSize") He.veBase "ValueError.__new__" = true ∧ PySem.W.keepIn K (.ref (He.ga K "BadSize")) = true ∧ PySem.W.subIn K (.ref (He.ga K "BadSize")) (.type "BaseException") = some true ∧ PySem.W.typeIn K (.ref (He.ga K "BadSize")) = some (.type "type")
  xm_BadSize : PySem.W.exmOne K (.ref (He.ga K "BadSize")) (.ref (He.ga K "ScreenError")) = some true
  x_BadPlace : PySem.W.excIn K (He.ga K "BadPlace") He.veBase "ValueError.__new__" = true ∧ PySem.W.keepIn K (.ref (He.ga K "BadPlace")) = true ∧ PySem.W.subIn K (.ref (He.ga K "BadPlace")) (.type "BaseException") = some true ∧ PySem.W.typeIn K (.ref (He.ga K "BadPlace")) = some (.type "type")
  xm_BadPlace : PySem.W.exmOne K (.ref (He.ga K "BadPlace")) (.ref (He.ga K "ScreenError")) = some true
  x_BadPage : PySem.W.excIn K (He.ga K "BadPage") He.veBase "ValueError.__new__" = true ∧ PySem.W.keepIn K (.ref (He.ga K "BadPage")) = true ∧ PySem.W.subIn K (.ref (He.ga K "BadPage")) (.type "BaseException") = some true ∧ PySem.W.typeIn K (.ref (He.ga K "BadPage")) = some (.type "type")
  xm_BadPage : PySem.W.exmOne K (.ref (He.ga K "BadPage")) (.ref (He.ga K "ScreenError")) = some true
  x_BadPane : PySem.W.excIn K (He.ga K "BadPane") He.veBase "ValueError.__new__" = true ∧ PySem.W.keepIn K (.ref (He.ga K "BadPane")) = true ∧ PySem.W.subIn K (.ref (He.ga K "BadPane")) (.type "BaseException") = some true ∧ PySem.W.typeIn K (.ref (He.ga K "BadPane")) = some (.type "type")
  xm_BadPane : PySem.W.exmOne K (.ref (He.ga K "BadPane")) (.ref (He.ga K "ScreenError")) = some true
  x_BadTick : PySem.W.excIn K (He.ga K "BadTick") He.veBase "ValueError.__new__" = true ∧ PySem.W.keepIn K (.ref (He.ga K "BadTick")) = true ∧ PySem.W.subIn K (.ref (He.ga K "BadTick")) (.type "BaseException") = some true ∧ PySem.W.typeIn K (.ref (He.ga K "BadTick")) = some (.type "type")
  xm_BadTick : PySem.W.exmOne K (.ref (He.ga K "BadTick")) (.ref (He.ga K "ScreenError")) = some true
  x_Nothing : PySem.W.excIn K (He.ga K "Nothing") He.veBase "ValueError.__new__" = true ∧ PySem.W.keepIn K (.ref (He.ga K "Nothing")) = true ∧ PySem.W.subIn K (.ref (He.ga K "Nothing")) (.type "BaseException") = some true ∧ PySem.W.typeIn K (.ref (He.ga K "Nothing")) = some (.type "type")
  xm_Nothing : PySem.W.exmOne K (.ref (He.ga K "Nothing")) (.ref (He.ga K "ScreenError")) = some true
  c_Reader : Cls K (He.ga K "Reader")
  k_Reader : Mk K (He.ga K "Reader") (He.ma K (He.ga K "Reader") "__init__")
  m_Reader_dropped : Meth K (He.ga K "Reader") "dropped" (He.ma K (He.ga K "Reader") "dropped")
  m_Reader_left : Meth K (He.ga K "Reader") "left" (He.ma K (He.ga K "Reader") "left")
  m_Reader_feed : Meth K (He.ga K "Reader") "feed" (He.ma K (He.ga K "Reader") "feed")
  m_Reader_plain : Meth K (He.ga K "Reader") "plain" (He.ma K (He.ga K "Reader") "plain")
  m_Reader_read : Meth K (He.ga K "Reader") "read" (He.ma K (He.ga K "Reader") "read")
  m_Reader_can_go_on : Meth K (He.ga K "Reader") "can_go_on" (He.ma K (He.ga K "Reader") "can_go_on")
  m_Reader_whole : Meth K (He.ga K "Reader") "whole" (He.ma K (He.ga K "Reader") "whole")
  n_Reader_begun : NoAttr K (He.ga K "Reader") "begun"
  n_Reader_lost : NoAttr K (He.ga K "Reader") "lost"
  c_Row : Cls K (He.ga K "Row")
  k_Row : Mk K (He.ga K "Row") (He.ma K (He.ga K "Row") "__init__")
  n_Row_cells : NoAttr K (He.ga K "Row") "cells"
  n_Row_goes_on : NoAttr K (He.ga K "Row") "goes_on"
  c_Screen : Cls K (He.ga K "Screen")
  k_Screen : Mk K (He.ga K "Screen") (He.ma K (He.ga K "Screen") "__init__")
  m_Screen_begin : Meth K (He.ga K "Screen") "begin" (He.ma K (He.ga K "Screen") "begin")
  m_Screen_size : Meth K (He.ga K "Screen") "size" (He.ma K (He.ga K "Screen") "size")
  m_Screen_page : Meth K (He.ga K "Screen") "page" (He.ma K (He.ga K "Screen") "page")
  m_Screen_texts : Meth K (He.ga K "Screen") "texts" (He.ma K (He.ga K "Screen") "texts")
  m_Screen_kept : Meth K (He.ga K "Screen") "kept" (He.ma K (He.ga K "Screen") "kept")
  m_Screen_cursor : Meth K (He.ga K "Screen") "cursor" (He.ma K (He.ga K "Screen") "cursor")
  m_Screen_state : Meth K (He.ga K "Screen") "state" (He.ma K (He.ga K "Screen") "state")
  m_Screen_cell : Meth K (He.ga K "Screen") "cell" (He.ma K (He.ga K "Screen") "cell")
  m_Screen_feed : Meth K (He.ga K "Screen") "feed" (He.ma K (He.ga K "Screen") "feed")
  m_Screen_do : Meth K (He.ga K "Screen") "do" (He.ma K (He.ga K "Screen") "do")
  m_Screen_stand : Meth K (He.ga K "Screen") "stand" (He.ma K (He.ga K "Screen") "stand")
  m_Screen_put : Meth K (He.ga K "Screen") "put" (He.ma K (He.ga K "Screen") "put")
  m_Screen_roll : Meth K (He.ga K "Screen") "roll" (He.ma K (He.ga K "Screen") "roll")
  m_Screen_roll_down : Meth K (He.ga K "Screen") "roll_down" (He.ma K (He.ga K "Screen") "roll_down")
  m_Screen_cut_off : Meth K (He.ga K "Screen") "cut_off" (He.ma K (He.ga K "Screen") "cut_off")
  m_Screen_down : Meth K (He.ga K "Screen") "down" (He.ma K (He.ga K "Screen") "down")
  m_Screen_up : Meth K (He.ga K "Screen") "up" (He.ma K (He.ga K "Screen") "up")
  m_Screen_small : Meth K (He.ga K "Screen") "small" (He.ma K (He.ga K "Screen") "small")
  m_Screen_erase : Meth K (He.ga K "Screen") "erase" (He.ma K (He.ga K "Screen") "erase")
  m_Screen_great : Meth K (He.ga K "Screen") "great" (He.ma K (He.ga K "Screen") "great")
  m_Screen_one : Meth K (He.ga K "Screen") "one" (He.ma K (He.ga K "Screen") "one")
  m_Screen_take_rows : Meth K (He.ga K "Screen") "take_rows" (He.ma K (He.ga K "Screen") "take_rows")
  m_Screen_shift : Meth K (He.ga K "Screen") "shift" (He.ma K (He.ga K "Screen") "shift")
  n_Screen_reader : NoAttr K (He.ga K "Screen") "reader"
  n_Screen_wide : NoAttr K (He.ga K "Screen") "wide"
  n_Screen_high : NoAttr K (He.ga K "Screen") "high"
  n_Screen_most : NoAttr K (He.ga K "Screen") "most"
  n_Screen_past : NoAttr K (He.ga K "Screen") "past"
  n_Screen_rows : NoAttr K (He.ga K "Screen") "rows"
  n_Screen_row : NoAttr K (He.ga K "Screen") "row"
  n_Screen_column : NoAttr K (He.ga K "Screen") "column"
  n_Screen_is_full : NoAttr K (He.ga K "Screen") "is_full"
  n_Screen_pen : NoAttr K (He.ga K "Screen") "pen"
  n_Screen_top : NoAttr K (He.ga K "Screen") "top"
  n_Screen_bottom : NoAttr K (He.ga K "Screen") "bottom"
  n_Screen_put_by : NoAttr K (He.ga K "Screen") "put_by"
  n_Screen_last : NoAttr K (He.ga K "Screen") "last"
  c_Tape : Cls K (He.ga K "Tape")
  k_Tape : Mk K (He.ga K "Tape") (He.ma K (He.ga K "Tape") "__init__")
  m_Tape_record : Meth K (He.ga K "Tape") "record" (He.ma K (He.ga K "Tape") "record")
  m_Tape_undo : Meth K (He.ga K "Tape") "undo" (He.ma K (He.ga K "Tape") "undo")
  m_Tape_redo : Meth K (He.ga K "Tape") "redo" (He.ma K (He.ga K "Tape") "redo")
  m_Tape_length : Meth K (He.ga K "Tape") "length" (He.ma K (He.ga K "Tape") "length")
  m_Tape_records : Meth K (He.ga K "Tape") "records" (He.ma K (He.ga K "Tape") "records")
  m_Tape_need_tick : Meth K (He.ga K "Tape") "need_tick" (He.ma K (He.ga K "Tape") "need_tick")
  m_Tape_screen_behind : Meth K (He.ga K "Tape") "screen_behind" (He.ma K (He.ga K "Tape") "screen_behind")
  m_Tape_page_at : Meth K (He.ga K "Tape") "page_at" (He.ma K (He.ga K "Tape") "page_at")
  m_Tape_cursor_at : Meth K (He.ga K "Tape") "cursor_at" (He.ma K (He.ga K "Tape") "cursor_at")
  m_Tape_changes_at : Meth K (He.ga K "Tape") "changes_at" (He.ma K (He.ga K "Tape") "changes_at")
  m_Tape_first_with : Meth K (He.ga K "Tape") "first_with" (He.ma K (He.ga K "Tape") "first_with")
  n_Tape_sizes : NoAttr K (He.ga K "Tape") "sizes"
  n_Tape_rows : NoAttr K (He.ga K "Tape") "rows"
  n_Tape_taken : NoAttr K (He.ga K "Tape") "taken"
  f__wall : ∃ fd, FunD K "_wall" "_wall" (defArgs s__wall) (defBody s__wall) (defScope s__wall) [] [] (He.fAd K ("_wall", none)) fd
  f_is_sign : ∃ fd, FunD K "is_sign" "is_sign" (defArgs s_is_sign) (defBody s_is_sign) (defScope s_is_sign) [] [] (He.fAd K ("is_sign", none)) fd
  f_need_text : ∃ fd, FunD K "need_text" "need_text" (defArgs s_need_text) (defBody s_need_text) (defScope s_need_text) [] [] (He.fAd K ("need_text", none)) fd
  f_Reader___init__ : ∃ fd, FunD K "__init__" "Reader.__init__" (defArgs s_Reader___init__) (defBody s_Reader___init__) (defScope s_Reader___init__) [] [] (He.fAd K ("Reader", some "__init__")) fd
  f_Reader_dropped : ∃ fd, FunD K "dropped" "Reader.dropped" (defArgs s_Reader_dropped) (defBody s_Reader_dropped) (defScope s_Reader_dropped) [] [] (He.fAd K ("Reader", some "dropped")) fd
  f_Reader_left : ∃ fd, FunD K "left" "Reader.left" (defArgs s_Reader_left) (defBody s_Reader_left) (defScope s_Reader_left) [] [] (He.fAd K ("Reader", some "left")) fd
  f_Reader_feed : ∃ fd, FunD K "feed" "Reader.feed" (defArgs s_Reader_feed) (defBody s_Reader_feed) (defScope s_Reader_feed) [] [] (He.fAd K ("Reader", some "feed")) fd
  f_Reader_plain : ∃ fd, FunD K "plain" "Reader.plain" (defArgs s_Reader_plain) (defBody s_Reader_plain) (defScope s_Reader_plain) [] [] (He.fAd K ("Reader", some "plain")) fd
  f_Reader_read : ∃ fd, FunD K "read" "Reader.read" (defArgs s_Reader_read) (defBody s_Reader_read) (defScope s_Reader_read) [] [] (He.fAd K ("Reader", some "read")) fd
  f_Reader_can_go_on : ∃ fd, FunD K "can_go_on" "Reader.can_go_on" (defArgs s_Reader_can_go_on) (defBody s_Reader_can_go_on) (defScope s_Reader_can_go_on) [] [] (He.fAd K ("Reader", some "can_go_on")) fd
  f_Reader_whole : ∃ fd, FunD K "whole" "Reader.whole" (defArgs s_Reader_whole) (defBody s_Reader_whole) (defScope s_Reader_whole) [] [] (He.fAd K ("Reader", some "whole")) fd
  f_is_count : ∃ fd, FunD K "is_count" "is_count" (defArgs s_is_count) (defBody s_is_count) (defScope s_is_count) [] [] (He.fAd K ("is_count", none)) fd
  f_need : ∃ fd, FunD K "need" "need" (defArgs s_need) (defBody s_need) (defScope s_need) [] [] (He.fAd K ("need", none)) fd
  f_is_pen : ∃ fd, FunD K "is_pen" "is_pen" (defArgs s_is_pen) (defBody s_is_pen) (defScope s_is_pen) [] [] (He.fAd K ("is_pen", none)) fd
  f_is_cell : ∃ fd, FunD K "is_cell" "is_cell" (defArgs s_is_cell) (defBody s_is_cell) (defScope s_is_cell) [] [] (He.fAd K ("is_cell", none)) fd
  f_need_page : ∃ fd, FunD K "need_page" "need_page" (defArgs s_need_page) (defBody s_need_page) (defScope s_need_page) [] [] (He.fAd K ("need_page", none)) fd
  f_changes : ∃ fd, FunD K "changes" "changes" (defArgs s_changes) (defBody s_changes) (defScope s_changes) [] [] (He.fAd K ("changes", none)) fd
  f_need_size : ∃ fd, FunD K "need_size" "need_size" (defArgs s_need_size) (defBody s_need_size) (defScope s_need_size) [] [] (He.fAd K ("need_size", none)) fd
  f_Row___init__ : ∃ fd, FunD K "__init__" "Row.__init__" (defArgs s_Row___init__) (defBody s_Row___init__) (defScope s_Row___init__) [] [] (He.fAd K ("Row", some "__init__")) fd
  f_blank_row : ∃ fd, FunD K "blank_row" "blank_row" (defArgs s_blank_row) (defBody s_blank_row) (defScope s_blank_row) [] [] (He.fAd K ("blank_row", none)) fd
  f_Screen___init__ : ∃ fd, FunD K "__init__" "Screen.__init__" (defArgs s_Screen___init__) (defBody s_Screen___init__) (defScope s_Screen___init__) [] [] (He.fAd K ("Screen", some "__init__")) fd
  f_Screen_begin : ∃ fd, FunD K "begin" "Screen.begin" (defArgs s_Screen_begin) (defBody s_Screen_begin) (defScope s_Screen_begin) [] [] (He.fAd K ("Screen", some "begin")) fd
  f_Screen_size : ∃ fd, FunD K "size" "Screen.size" (defArgs s_Screen_size) (defBody s_Screen_size) (defScope s_Screen_size) [] [] (He.fAd K ("Screen", some "size")) fd
  f_Screen_page : ∃ fd, FunD K "page" "Screen.page" (defArgs s_Screen_page) (defBody s_Screen_page) (defScope s_Screen_page) [] [] (He.fAd K ("Screen", some "page")) fd
  f_Screen_texts : ∃ fd, FunD K "texts" "Screen.texts" (defArgs s_Screen_texts) (defBody s_Screen_texts) (defScope s_Screen_texts) [] [] (He.fAd K ("Screen", some "texts")) fd
  f_Screen_kept : ∃ fd, FunD K "kept" "Screen.kept" (defArgs s_Screen_kept) (defBody s_Screen_kept) (defScope s_Screen_kept) [] [] (He.fAd K ("Screen", some "kept")) fd
  f_Screen_cursor : ∃ fd, FunD K "cursor" "Screen.cursor" (defArgs s_Screen_cursor) (defBody s_Screen_cursor) (defScope s_Screen_cursor) [] [] (He.fAd K ("Screen", some "cursor")) fd
  f_Screen_state : ∃ fd, FunD K "state" "Screen.state" (defArgs s_Screen_state) (defBody s_Screen_state) (defScope s_Screen_state) [] [] (He.fAd K ("Screen", some "state")) fd
  f_Screen_cell : ∃ fd, FunD K "cell" "Screen.cell" (defArgs s_Screen_cell) (defBody s_Screen_cell) (defScope s_Screen_cell) [] [] (He.fAd K ("Screen", some "cell")) fd
  f_Screen_feed : ∃ fd, FunD K "feed" "Screen.feed" (defArgs s_Screen_feed) (defBody s_Screen_feed) (defScope s_Screen_feed) [] [] (He.fAd K ("Screen", some "feed")) fd
  f_Screen_do : ∃ fd, FunD K "do" "Screen.do" (defArgs s_Screen_do) (defBody s_Screen_do) (defScope s_Screen_do) [] [] (He.fAd K ("Screen", some "do")) fd
  f_Screen_stand : ∃ fd, FunD K "stand" "Screen.stand" (defArgs s_Screen_stand) (defBody s_Screen_stand) (defScope s_Screen_stand) [] [] (He.fAd K ("Screen", some "stand")) fd
  f_Screen_put : ∃ fd, FunD K "put" "Screen.put" (defArgs s_Screen_put) (defBody s_Screen_put) (defScope s_Screen_put) [] [] (He.fAd K ("Screen", some "put")) fd
  f_Screen_roll : ∃ fd, FunD K "roll" "Screen.roll" (defArgs s_Screen_roll) (defBody s_Screen_roll) (defScope s_Screen_roll) [] [] (He.fAd K ("Screen", some "roll")) fd
  f_Screen_roll_down : ∃ fd, FunD K "roll_down" "Screen.roll_down" (defArgs s_Screen_roll_down) (defBody s_Screen_roll_down) (defScope s_Screen_roll_down) [] [] (He.fAd K ("Screen", some "roll_down")) fd
  f_Screen_cut_off : ∃ fd, FunD K "cut_off" "Screen.cut_off" (defArgs s_Screen_cut_off) (defBody s_Screen_cut_off) (defScope s_Screen_cut_off) [] [] (He.fAd K ("Screen", some "cut_off")) fd
  f_Screen_down : ∃ fd, FunD K "down" "Screen.down" (defArgs s_Screen_down) (defBody s_Screen_down) (defScope s_Screen_down) [] [] (He.fAd K ("Screen", some "down")) fd
  f_Screen_up : ∃ fd, FunD K "up" "Screen.up" (defArgs s_Screen_up) (defBody s_Screen_up) (defScope s_Screen_up) [] [] (He.fAd K ("Screen", some "up")) fd
  f_Screen_small : ∃ fd, FunD K "small" "Screen.small" (defArgs s_Screen_small) (defBody s_Screen_small) (defScope s_Screen_small) [] [] (He.fAd K ("Screen", some "small")) fd
  f_Screen_erase : ∃ fd, FunD K "erase" "Screen.erase" (defArgs s_Screen_erase) (defBody s_Screen_erase) (defScope s_Screen_erase) [] [] (He.fAd K ("Screen", some "erase")) fd
  f_Screen_great : ∃ fd, FunD K "great" "Screen.great" (defArgs s_Screen_great) (defBody s_Screen_great) (defScope s_Screen_great) [] [] (He.fAd K ("Screen", some "great")) fd
  f_Screen_one : ∃ fd, FunD K "one" "Screen.one" (defArgs s_Screen_one) (defBody s_Screen_one) (defScope s_Screen_one) [] [] (He.fAd K ("Screen", some "one")) fd
  f_Screen_take_rows : ∃ fd, FunD K "take_rows" "Screen.take_rows" (defArgs s_Screen_take_rows) (defBody s_Screen_take_rows) (defScope s_Screen_take_rows) [] [] (He.fAd K ("Screen", some "take_rows")) fd
  f_Screen_shift : ∃ fd, FunD K "shift" "Screen.shift" (defArgs s_Screen_shift) (defBody s_Screen_shift) (defScope s_Screen_shift) [] [] (He.fAd K ("Screen", some "shift")) fd
  f_Tape___init__ : ∃ fd, FunD K "__init__" "Tape.__init__" (defArgs s_Tape___init__) (defBody s_Tape___init__) (defScope s_Tape___init__) [] [] (He.fAd K ("Tape", some "__init__")) fd
  f_Tape_record : ∃ fd, FunD K "record" "Tape.record" (defArgs s_Tape_record) (defBody s_Tape_record) (defScope s_Tape_record) [] [] (He.fAd K ("Tape", some "record")) fd
  f_Tape_undo : ∃ fd, FunD K "undo" "Tape.undo" (defArgs s_Tape_undo) (defBody s_Tape_undo) (defScope s_Tape_undo) [] [] (He.fAd K ("Tape", some "undo")) fd
  f_Tape_redo : ∃ fd, FunD K "redo" "Tape.redo" (defArgs s_Tape_redo) (defBody s_Tape_redo) (defScope s_Tape_redo) [] [] (He.fAd K ("Tape", some "redo")) fd
  f_Tape_length : ∃ fd, FunD K "length" "Tape.length" (defArgs s_Tape_length) (defBody s_Tape_length) (defScope s_Tape_length) [] [] (He.fAd K ("Tape", some "length")) fd
  f_Tape_records : ∃ fd, FunD K "records" "Tape.records" (defArgs s_Tape_records) (defBody s_Tape_records) (defScope s_Tape_records) [] [] (He.fAd K ("Tape", some "records")) fd
  f_Tape_need_tick : ∃ fd, FunD K "need_tick" "Tape.need_tick" (defArgs s_Tape_need_tick) (defBody s_Tape_need_tick) (defScope s_Tape_need_tick) [] [] (He.fAd K ("Tape", some "need_tick")) fd
  f_Tape_screen_behind : ∃ fd, FunD K "screen_behind" "Tape.screen_behind" (defArgs s_Tape_screen_behind) (defBody s_Tape_screen_behind) (defScope s_Tape_screen_behind) [] [] (He.fAd K ("Tape", some "screen_behind")) fd
  f_Tape_page_at : ∃ fd, FunD K "page_at" "Tape.page_at" (defArgs s_Tape_page_at) (defBody s_Tape_page_at) (defScope s_Tape_page_at) [] [] (He.fAd K ("Tape", some "page_at")) fd
  f_Tape_cursor_at : ∃ fd, FunD K "cursor_at" "Tape.cursor_at" (defArgs s_Tape_cursor_at) (defBody s_Tape_cursor_at) (defScope s_Tape_cursor_at) [] [] (He.fAd K ("Tape", some "cursor_at")) fd
  f_Tape_changes_at : ∃ fd, FunD K "changes_at" "Tape.changes_at" (defArgs s_Tape_changes_at) (defBody s_Tape_changes_at) (defScope s_Tape_changes_at) [] [] (He.fAd K ("Tape", some "changes_at")) fd
  f_Tape_first_with : ∃ fd, FunD K "first_with" "Tape.first_with" (defArgs s_Tape_first_with) (defBody s_Tape_first_with) (defScope s_Tape_first_with) [] [] (He.fAd K ("Tape", some "first_with")) fd
  f__law_cell : ∃ fd, FunD K "_law_cell" "_law_cell" (defArgs s__law_cell) (defBody s__law_cell) (defScope s__law_cell) [] [] (He.fAd K ("_law_cell", none)) fd
  f__law_drawn : ∃ fd, FunD K "_law_drawn" "_law_drawn" (defArgs s__law_drawn) (defBody s__law_drawn) (defScope s__law_drawn) [] [] (He.fAd K ("_law_drawn", none)) fd
  f__law_word : ∃ fd, FunD K "_law_word" "_law_word" (defArgs s__law_word) (defBody s__law_word) (defScope s__law_word) [] [] (He.fAd K ("_law_word", none)) fd
  f__law_told : ∃ fd, FunD K "_law_told" "_law_told" (defArgs s__law_told) (defBody s__law_told) (defScope s__law_told) [] [] (He.fAd K ("_law_told", none)) fd
  f_law : ∃ fd, FunD K "law" "law" (defArgs s_law) (defBody s_law) (defScope s_law) [] [] (He.fAd K ("law", none)) fd
  w : WordF K ["BadPage", "BadPlace", "BadSize", "BadText", "BadPane", "BadTick", "Nothing"]
  u_PLAIN : ∀ H, SqT K H (He.ga K "PLAIN") [.int 0, .int 0, .int 0]
  u_BLANK : ∀ H, SqT K H (He.ga K "BLANK") [.str " ", .ref (He.ga K "PLAIN")]
end Sc
local macro_rules | `(tactic| walk_at "dv") => `(tactic| first
  | exact Sc.dv_int | exact Sc.dv_str | exact Sc.dv_bl | exact Sc.dv_non
  | (refine Sc.dv_var rfl ?_; assumption)
  | (refine Sc.dv_tup ?_ ?_; (walk_at "da"); (exact Nat.le_of_ble_eq_true rfl))
  | (refine Sc.dv_lst ?_ ?_; (walk_at "da"); (exact Nat.le_of_ble_eq_true rfl))
  | (refine Sc.dv_neg ?_; (walk_at "dv"))
  | (refine Sc.dv_addI ?_ ?_; (walk_at "dv"); (walk_at "dv"))
  | (refine Sc.dv_subI ?_ ?_; (walk_at "dv"); (walk_at "dv"))
  | (refine Sc.dv_addL ?_ ?_ ?_; (walk_at "dv"); (walk_at "dv"); (exact Nat.le_of_ble_eq_true rfl)))
local macro_rules | `(tactic| walk_at "da") => `(tactic| first | exact Sc.da_nil | (refine Sc.da_cons ?_ ?_; (walk_at "dv"); (walk_at "da")))
local macro_rules | `(tactic| walk_at "ev") => `(tactic| simp only [*, Sc.run_ap, Sc.startD, Sc.bnd_ap, Sc.ret_ap, Sc.rd_ap, Sc.opt_some', Sc.opt_none', Sc.ifM_ap, Sc.raise_ap, Sc.var0, Sc.varS, Sc.fld_ap, Sc.put_ap, Sc.call_ap, Sc.go_nx, Sc.go_rt, Sc.go_bk, Sc.go_ct, Sc.lend_nx, Sc.lend_ct, Sc.lend_rt, Sc.lend_bk, Sc.end_nx, Sc.end_rt, Sc.isI_ap, Sc.newO_ap, Sc.okN_ap, Sc.asB_ap, Sc.asI_ap, Sc.set_at_ap, Sc.chg_ap, Sc.frz_ap, Sc.itL_list, Sc.itL_ref, Sc.sqL_list, Sc.sqL_ref, Sc.sq_list, Sc.sq_tuple, Sc.sq_str, Sc.sq_ref, Sc.tyK_str, Sc.tyK_list, Sc.tyK_ref, Sc.for_nil, Sc.for_cons, Sc.plus_ii, Sc.plus_ss, Sc.plus_tt, Sc.plus_ll, Sc.plus_rl, Sc.times_ii, Sc.times_li, Sc.i2_ap, Sc.deq_ii, Sc.deq_ss, Sc.deq_bb, Sc.isN, Sc.ixM_ap, Sc.ixQ_l, Sc.ixQ_t, Sc.ixQ_s, Sc.lenM_ap, Sc.lenQ_l, Sc.lenQ_t, Sc.lenQ_s, Sc.slQ_l, Sc.slQ_t, Sc.slQ_s, Sc.memM_t, Sc.memM_s, Sc.sclD_s, Sc.sclD_i, Sc.sclD_n, Sc.sclD_b, Sc.sclL_nil, Sc.sclL_cons, Sc.one_len, Sc.one_get, Sc.keyD_s, Sc.keyD_i, Sc.keysD_nil, Sc.keysD_cons, Sc.at0, Sc.at1, Sc.at2, Sc.cutL_map, List.length_map, ← List.map_append, Sc.rangeL_len, List.map_cons, List.map_nil, List.length_cons, List.length_nil, List.replicate, Nat.reduceAdd, Nat.reduceSub, Nat.sub_self, List.append_nil, List.cons_append, List.nil_append, List.set_cons_zero, List.set_cons_succ, true_and, and_true, if_true, if_false, Option.bind_some, Option.map_some, Bool.true_eq_false, Bool.false_eq_true, Bool.not_true, Bool.not_false, decide_true, decide_false, Nat.reduceLT, Nat.reduceLeDiff, Nat.reduceEqDiff, Int.reduceAdd, Int.reduceSub, Int.reduceLT, Int.reduceLE, Int.reduceNeg, List.set_set, List.append_assoc, List.length_append, Sc.rep_one, Sc.wipeE, Sc.s2, Sc.joinM, Sc.set_last2, Sc.set_last1, Sc.get_last1, Sc.get_last2, Sc.setF_nil, Sc.rowS_cells, Sc.rowS_on, Sc.rowS_new, Sc.rowG_cells, Sc.rowG_on])

local macro_rules | `(tactic| walk_at "eu") => `(tactic| simp only [*, Sc.sli_ap, Sc.run_ap, Sc.startD, Sc.bnd_ap, Sc.ret_ap, Sc.rd_ap, Sc.opt_some', Sc.opt_none', Sc.ifM_ap, Sc.raise_ap, Sc.var0, Sc.varS, Sc.fld_ap, Sc.put_ap, Sc.call_ap, Sc.go_nx, Sc.go_rt, Sc.go_bk, Sc.go_ct, Sc.lend_nx, Sc.lend_ct, Sc.lend_rt, Sc.lend_bk, Sc.end_nx, Sc.end_rt, Sc.isI_ap, Sc.newO_ap, Sc.okN_ap, Sc.asB_ap, Sc.asI_ap, Sc.set_at_ap, Sc.chg_ap, Sc.frz_ap, Sc.itL_list, Sc.itL_ref, Sc.sqL_list, Sc.sqL_ref, Sc.sq_list, Sc.sq_tuple, Sc.sq_str, Sc.sq_ref, Sc.tyK_str, Sc.tyK_list, Sc.tyK_ref, Sc.plus_ii, Sc.plus_ss, Sc.plus_tt, Sc.plus_ll, Sc.plus_rl, Sc.times_ii, Sc.times_li, Sc.i2_ap, Sc.deq_ii, Sc.deq_ss, Sc.deq_bb, Sc.isN, Sc.ixM_ap, Sc.ixQ_l, Sc.ixQ_t, Sc.ixQ_s, Sc.lenM_ap, Sc.lenQ_l, Sc.lenQ_t, Sc.lenQ_s, Sc.slQ_l, Sc.slQ_t, Sc.slQ_s, Sc.memM_t, Sc.memM_s, Sc.sclD_s, Sc.sclD_i, Sc.sclD_n, Sc.sclD_b, Sc.sclL_nil, Sc.sclL_cons, Sc.one_len, Sc.one_get, Sc.keyD_s, Sc.keyD_i, Sc.keysD_nil, Sc.keysD_cons, Sc.at0, Sc.at1, Sc.at2, Sc.cutL_map, List.length_map, ← List.map_append, Sc.rangeL_len, List.map_cons, List.map_nil, List.length_cons, List.length_nil, List.replicate, Nat.reduceAdd, Nat.reduceSub, Nat.sub_self, List.append_nil, List.cons_append, List.nil_append, List.set_cons_zero, List.set_cons_succ, true_and, and_true, if_true, if_false, Option.bind_some, Option.map_some, Bool.true_eq_false, Bool.false_eq_true, Bool.not_true, Bool.not_false, decide_true, decide_false, Nat.reduceLT, Nat.reduceLeDiff, Nat.reduceEqDiff, Int.reduceAdd, Int.reduceSub, Int.reduceLT, Int.reduceLE, Int.reduceNeg, List.set_set, List.append_assoc, List.length_append, Sc.rep_one, Sc.wipeE, Sc.s2, Sc.joinM, Sc.set_last2, Sc.set_last1, Sc.get_last1, Sc.get_last2, Sc.setF_nil, Sc.rowS_cells, Sc.rowS_on, Sc.rowS_new, Sc.rowG_cells, Sc.rowG_on])

namespace Sc
open PySem PySem.Spec PyProof.Rows L2
def isCount : PyData → Int → Int → Bool
  | .int i, lo, hi => decide (lo ≤ i) && decide (i ≤ hi)
  | _, _, _ => false
def A_is_count (ds : List PyData) (d : PyData) : Prop := ∃ (e : PyData) (lo hi : Int), ds = [e, .int lo, .int hi] ∧ d = .bool (isCount e lo hi)
theorem isCount_not {e : PyData} {lo hi : Int} (h : ∀ i, e ≠ .int i) : isCount e lo hi = false := by
  cases e with
  | int i => exact absurd rfl (h i)
  | _ => rfl
section
variable {P : Program} {w : World} {K : PySem.W.Frag} {mg : Str → Option Value} {base : Heap} {Ts : List (Addr × Str)}
theorem sc_is_count : FnScope ["thing", "least", "most"] ["thing", "least", "most"] (defScope s_is_count) := ⟨rfl, rfl, rfl, by decide +kernel, rfl, by decide +kernel, by decide +kernel⟩
theorem c_is_count (T : GT K mg) : Cal P w K mg base CX0 1 "is_count" ["thing", "least", "most"] (spF K 3 A_is_count) := by
  refine cal_F T.f_is_count T.g_is_count sc_is_count rfl (fun _ _ _ _ _ _ us hl => match us, hl with | [_, _, _], _ => rfl) fun f cdv A' outer s H vs Q E F ds d hr hf hl ha q => ?_
  obtain ⟨e, lo, hi, rfl, rfl⟩ := ha
  obtain ⟨v, _, rfl, hv, v2, _, rfl, hv2, v3, _, rfl, hv3, rfl⟩ := hl
  refine ⟨_, (pss_one (ps_ret (pe_and (pe_callB (kisi K) (by rfl) T.z_isinstance (by decide +kernel) (pa_cons (pv 0) (pa_cons (pe_bltn (v := .ty "int") (by rfl) T.z_int (by decide +kernel) rfl) pa_nil))) (pe_and (pe_not (pe_callB (kisi K) (by rfl) T.z_isinstance (by decide +kernel) (pa_cons (pv 0) (pa_cons (pe_bltn (v := .ty "bool") (by rfl) T.z_bool (by decide +kernel) rfl) pa_nil)))) (pe_one (pe_chain op_leq op_leq (pv 1) (pv 0) (pv 2))))))), ?_⟩
  by_cases hi' : ∃ i, e = .int i
  · obtain ⟨i, rfl⟩ := hi'
    refine s_ret (R := Same) (K := K) (F := F) (dv_is (dv_and (dv_isInt (dv_var rfl hv)) fun _ => dv_and (dv_not (dv_isBool (dv_var rfl hv))) fun _ => dv_chLe (dv_var rfl hv2) (dv_var rfl hv) (dv_var rfl hv3)) rfl) hf q
  · rw [isCount_not fun i z => hi' ⟨i, z⟩] at q
    have e1 : (isInt e && (!isBool e && false)) = false := by cases e <;> rfl
    refine s_ret (R := Same) (K := K) (F := F) (dv_is (dv_and (dv_isInt (dv_var rfl hv)) fun h1 => dv_and (dv_not (dv_isBool (dv_var rfl hv))) fun h2 => ?_) (congrArg PyData.bool e1)) hf q
    exfalso
    cases e with
    | int i => exact hi' ⟨i, rfl⟩
    | bool b => cases h2
    | _ => cases h1
end
end Sc

namespace Sc
open PySem PySem.Spec PyProof.Rows L2
abbrev plainD : D := .tuple [.int 0, .int 0, .int 0]
abbrev blankD : D := .tuple [.str " ", plainD]
def g_is_count : List PyData → Option PyData
  | [e, .int lo, .int hi] => some (.bool (isCount e lo hi))
  | _ => none
theorem g_is_count_ok (ps : List PyData) (d : PyData) (h : g_is_count ps = some d) : A_is_count ps d ∧ ps.length = 3 := by
  unfold g_is_count at h
  split at h
  · cases h
    exact ⟨⟨_, _, _, rfl, rfl⟩, rfl⟩
  · cases h
/-! ### pens, cells, rows, screens -/
structure Pn where
  c : Int
  b : Int
  m : Int
  deriving DecidableEq
structure Cl where
  s : Nat
  p : Pn
  deriving DecidableEq
def Pn.d (p : Pn) : D := .tuple [.int p.c, .int p.b, .int p.m]
def Cl.d (x : Cl) : D := .tuple [.str ⟨#[x.s]⟩, x.p.d]
def plain : Pn := ⟨0, 0, 0⟩
def blank : Cl := ⟨32, plain⟩
theorem plain_d : plainD = plain.d := rfl
theorem blank_d : blankD = blank.d := rfl
/-! a row's text -/
def rowTx (cs : List Cl) : Str := Txt.rstripChars (Txt.join "" (cs.map fun c => ⟨#[c.s]⟩)) " "
theorem sum_ones (cs : List Cl) : (cs.map fun c => ((⟨#[c.s]⟩ : Str)).length).sum = cs.length := by
  induction cs with
  | nil => rfl
  | cons c cs ih => rw [List.map_cons, List.sum_cons, ih, List.length_cons]; show 1 + _ = _; omega
abbrev oneS (c : Cl) : Str := ⟨#[c.s]⟩
theorem sum_le {cs : List Cl} (hc : cs.length ≤ 1000) : (List.map (fun x : Str => x.length) (cs.map oneS)).sum + cs.length * (Str.ofString "").length ≤ 16777216 := by
  have e0 : (Str.ofString "").length = 0 := rfl
  rw [List.map_map, e0, Nat.mul_zero, Nat.add_zero]
  have := sum_ones cs
  have e : (List.map ((fun x : Str => x.length) ∘ oneS) cs) = cs.map fun c => ((⟨#[c.s]⟩ : Str)).length := rfl
  rw [e, this]
  omega
theorem join_len {cs : List Cl} (hc : cs.length ≤ 1000) : (Txt.join "" (cs.map oneS)).length ≤ sizeLine := by
  have h1 : (Txt.join "" (cs.map oneS)).length = _ := PySem.size_glued "" (cs.map oneS)
  have e0 : (Str.ofString "").length = 0 := rfl
  rw [e0, Nat.mul_zero, Nat.add_zero, List.map_map] at h1
  have e : (List.map ((fun x : Str => x.length) ∘ oneS) cs) = cs.map fun c => ((⟨#[c.s]⟩ : Str)).length := rfl
  rw [e, sum_ones] at h1
  rw [h1]
  exact le_szK (by omega)
/-! counts -/
theorem count_in {i lo hi : Int} (h0 : lo ≤ i) (h1 : i ≤ hi) : isCount (.int i) lo hi = true := by
  show (decide _ && decide _) = true
  rw [decide_eq_true h0, decide_eq_true h1]
  rfl
theorem cnt_old {d : D} {p : PyData} (h : py2 d = some p) (lo hi : Int) : oldF g_is_count [d, .int lo, .int hi] = ret (.bool (isCount p lo hi)) := by
  unfold oldF
  simp only [py2L, py2, h, Option.bind_some, Option.map_some]
  rfl
end Sc

namespace Sc
open PySem PySem.Spec PyProof.Rows L2
/-- a reader: what is begun, how many were lost -/
def RdAt (K : PySem.W.Frag) (H : Hp) (a : Addr) (b : Str) (n : Int) : Prop := ∃ dx, H a = some (.ins (He.ga K "Reader") dx [("begun", .str b), ("lost", .int n)])
/-- a method's promise: the reader goes from one state to another, a datum is told -/
def spRd (K : PySem.W.Frag) (n : Nat) (A : List PyData → Str → Int → Str → Int → PyData → Prop) : Sp := fun vs H Q _ => ∃ F a ds us b k b' k' d, vs = .ref a :: us ∧ ds.length = n ∧ Fm F H ∧ a ∈ F ∧ RdAt K H a b k ∧ DaL K (hid F H) ds us ∧ A ds b k b' k' d ∧
  ∀ v H', Mo [a] H H' → RdAt K H' a b' k' → Da K (hid F H') d v → Q v H'
theorem spRd.len {K : PySem.W.Frag} {n : Nat} {A : List PyData → Str → Int → Str → Int → PyData → Prop} {vs : List V} {H : Hp} {Q : VK} {E : XK} (h : spRd K n A vs H Q E) : vs.length = n + 1 := by
  obtain ⟨F, a, ds, us, b, k, b', k', d, rfl, hn, _, _, _, h1, _⟩ := h
  rw [List.length_cons, h1.length, hn]
/-- the same, where nothing changes -/
def spRs (K : PySem.W.Frag) (n : Nat) (A : List PyData → Str → Int → PyData → Prop) : Sp := fun vs H Q _ => ∃ F a ds us b k d, vs = .ref a :: us ∧ ds.length = n ∧ Fm F H ∧ RdAt K H a b k ∧ DaL K (hid F H) ds us ∧ A ds b k d ∧
  ∀ v H', Same H H' → Da K (hid F H') d v → Q v H'
theorem spRs.len {K : PySem.W.Frag} {n : Nat} {A : List PyData → Str → Int → PyData → Prop} {vs : List V} {H : Hp} {Q : VK} {E : XK} (h : spRs K n A vs H Q E) : vs.length = n + 1 := by
  obtain ⟨F, a, ds, us, b, k, d, rfl, hn, _, _, h1, _⟩ := h
  rw [List.length_cons, h1.length, hn]
abbrev tEnd : PyData := .tuple [.str "end"]
abbrev tSign (c : Nat) : PyData := .tuple [.str "sign", .str ⟨#[c]⟩]
def plainB (c : Nat) (b : Str) : Str := if c = 94 then "^" else b
def plainO (c : Nat) : List PyData := if c = 94 then [] else if c = 10 then [tEnd] else [tSign c]
def A_plain (ds : List PyData) (b : Str) (k : Int) (b' : Str) (k' : Int) (d : PyData) : Prop := ∃ c : Nat, ds = [.str ⟨#[c]⟩] ∧ b' = plainB c b ∧ k' = k ∧ d = .list (plainO c)
theorem one_eq (a c : Nat) : decide ((⟨#[c]⟩ : Str) = ⟨#[a]⟩) = decide (c = a) := by
  by_cases h : c = a
  · subst h; simp
  · rw [decide_eq_false h]
    refine decide_eq_false fun z => h ?_
    injection z with z
    injection z with z
    injection z
section
variable {P : Program} {w : World} {K : PySem.W.Frag} {mg : Str → Option Value} {base : Heap} {Ts : List (Addr × Str)}
theorem fk_begun (T : GT K mg) : FldOk K (He.ga K "Reader") "begun" := ⟨T.c_Reader, T.n_Reader_begun⟩
theorem fk_lost (T : GT K mg) : FldOk K (He.ga K "Reader") "lost" := ⟨T.c_Reader, T.n_Reader_lost⟩
theorem sc_Reader_plain : FnScope ["self", "sign"] ["self", "sign"] (defScope s_Reader_plain) := ⟨rfl, rfl, rfl, by decide +kernel, rfl, by decide +kernel, by decide +kernel⟩
theorem cm_Reader_plain (T : GT K mg) : CalM P w K mg base CX0 1 "Reader" "plain" ["self", "sign"] (spRd K 1 A_plain) := by
  refine CalM.of T.f_Reader_plain T.c_Reader T.m_Reader_plain sc_Reader_plain (fun _ _ _ _ _ _ us hl => match us, hl with | [_, _], _ => rfl) (fun vs H Q E h => ?_) fun f cdv A' outer s H vs Q E hr h => ?_
  · exact h.len
  obtain ⟨F, a, ds, us, b, k, b', k', d, rfl, _, fm, haF, ⟨dx, ho⟩, hl, ⟨c, rfl, rfl, rfl, rfl⟩, q⟩ := h
  obtain ⟨v, rfl, hv⟩ := dal1 hl
  refine ⟨_, PSs.nox ((pss_cons (ps_if (pt_cmpR (keq K hr.units) (pv 1) pe_str (nomark _)) (pss_cons (ks_fld K (pv 0) pe_str)
      (pss_one (ps_ret (pe_lst pa_nil)))) pss_nil)
      (pss_one (ps_ret (pe_ifExp (pt_cmpR (keq K hr.units) (pv 1) (pe_gs (by rfl) T.t_GAP) (nomark _)) (pe_lst (pa_cons (pe_tup (pa_cons pe_str pa_nil)) pa_nil)) (pe_lst (pa_cons (pe_tup (pa_cons pe_str (pa_cons (pv 1) pa_nil))) pa_nil))))))), ?_⟩
  refine s_seq (s_if (R := Same) (F := F) (dt_is (dt_test (K := K) (dv_eqS (dv_var rfl hv) dv_str)) (one_eq 94 c)) fm.fd (fun e H1 s1 => ?_) fun e H1 s1 => ?_)
  · have e : c = 94 := of_decide_eq_true e
    subst e
    have ho1 := s1 _ _ ho
    refine s_seq (s_fld (R := Same) (K := K) (F := F) (d := .str "^") dv_str (r_fd (R := Same) s1 fm.fd) (vv_var rfl) ho1 (fk_begun T) fun v H2 s2 g ho2 => ?_)
    have g : v = .str "^" := g
    subst g
    have m2 : Mo [a] H (upd H2 a (.ins (He.ga K "Reader") dx [("begun", .str "^"), ("lost", .int k')])) := (Mo.same (s1.trans s2)).write (.inl List.mem_cons_self) trivial ⟨_, ho2, trivial⟩
    refine s_ret (R := Same) (K := K) (F := F) (d := .list []) (dv_lst da_nil (by decide)) (fm.mo m2).fd fun v H3 s3 g => q v H3 (m2.trans (Mo.same s3)) ⟨dx, s3 _ _ upd_same⟩ g
  · have e : c ≠ 94 := of_decide_eq_false e
    have hv1 := r_da (R := Same) s1 hv
    refine s_next (s_ret (R := Same) (K := K) (F := F) (d := .list (plainO c)) ?_ (r_fd (R := Same) s1 fm.fd) fun v H3 s3 g => q v H3 (Mo.same (s1.trans s3)) ⟨dx, by unfold plainB; rw [if_neg e]; exact (s1.trans s3) _ _ ho⟩ g)
    unfold plainO
    rw [if_neg e]
    refine dv_if (dt_is (dt_test (K := K) (dv_eqS (dv_var rfl hv1) dv_str)) (one_eq 10 c)) (fun e => ?_) fun e => ?_
    · have e : c = 10 := of_decide_eq_true e
      rw [if_pos e]
      walk_at "dv"
    · have e : ¬ c = 10 := of_decide_eq_false e
      rw [if_neg e]
      walk_at "dv"
end
end Sc

namespace Sc
open PySem PySem.Spec PyProof.Rows L2
/-! ### what is begun -/
inductive Beg where
  | no
  | hat
  | great (l : Nat)
  | args (l : Nat) (ps : List (List Nat)) (last : List Nat)
abbrev mkS (cs : List Nat) : Str := ⟨cs.toArray⟩
abbrev comma : List (List Nat) → List Nat := TL.joinL [44]
def Beg.cs : Beg → List Nat
  | .no => []
  | .hat => [94]
  | .great l => [94, l]
  | .args l ps last => 94 :: l :: 40 :: comma (ps ++ [last])
def Beg.s (b : Beg) : Str := mkS b.cs
def isGreat (c : Nat) : Bool := decide (65 ≤ c) && decide (c ≤ 90)
def isSmall (c : Nat) : Bool := decide (97 ≤ c) && decide (c ≤ 122)
def isFig (c : Nat) : Bool := decide (48 ≤ c) && decide (c ≤ 57)
/-- figures, at most four -/
def figs (p : List Nat) : Prop := (∀ c ∈ p, 48 ≤ c ∧ c ≤ 57) ∧ p.length ≤ 4
def Beg.ok : Beg → Prop
  | .no => True
  | .hat => True
  | .great l => isGreat l = true
  | .args l ps last => isGreat l = true ∧ (∀ p ∈ ps, figs p ∧ p ≠ []) ∧ figs last ∧ ps.length ≤ 3
theorem comma_cons (p : List Nat) {r : List (List Nat)} (h : r ≠ []) : comma (p :: r) = p ++ 44 :: comma r := by
  match r, h with
  | q :: r, _ => rfl
theorem comma_snoc : ∀ {ps : List (List Nat)} (q : List Nat), ps ≠ [] → comma (ps ++ [q]) = comma ps ++ 44 :: q
  | [p], q, _ => rfl
  | p :: p2 :: r, q, _ => by
    rw [List.cons_append, comma_cons _ (by simp), comma_snoc q (by simp), comma_cons p (by simp), List.append_assoc]
    rfl
theorem comma_last : ∀ (ps : List (List Nat)) (l m : List Nat), comma (ps ++ [l ++ m]) = comma (ps ++ [l]) ++ m
  | [], l, m => rfl
  | p :: r, l, m => by
    rw [List.cons_append, comma_cons _ (by simp), comma_last r l m, List.cons_append, comma_cons _ (by simp), List.append_assoc]
    rfl
theorem mem_comma : ∀ {l : List (List Nat)} {x : Nat}, x ∈ comma l → x = 44 ∨ ∃ p ∈ l, x ∈ p
  | [p], x, h => .inr ⟨p, List.mem_cons_self, h⟩
  | p :: q :: r, x, h => by
    rw [comma_cons p (by simp)] at h
    rcases List.mem_append.mp h with h | h
    · exact .inr ⟨p, List.mem_cons_self, h⟩
    · rcases List.mem_cons.mp h with h | h
      · exact .inl h
      · rcases mem_comma h with h | ⟨p2, h1, h2⟩
        · exact .inl h
        · exact .inr ⟨p2, List.mem_cons_of_mem _ h1, h2⟩
theorem cnt_app (c : Nat) : ∀ (l m : List Nat), cnt c (l ++ m) = cnt c l + cnt c m
  | [], m => by rw [List.nil_append, cnt_nil, Int.zero_add]
  | x :: l, m => by rw [List.cons_append, cnt_cons, cnt_cons, cnt_app c l m, Int.add_assoc]
theorem cnt_none {c : Nat} : ∀ {l : List Nat}, c ∉ l → cnt c l = 0
  | [], _ => cnt_nil c
  | x :: l, h => by
    rw [cnt_cons, if_neg (fun z => h (by rw [z]; exact List.mem_cons_self)), cnt_none fun z => h (List.mem_cons_of_mem _ z)]
    rfl
theorem cnt_comma : ∀ {l : List (List Nat)}, (∀ p ∈ l, 44 ∉ p) → l ≠ [] → cnt 44 (comma l) = (l.length : Int) - 1
  | [p], h, _ => by
    show cnt 44 p = _
    rw [cnt_none (h p List.mem_cons_self)]
    rfl
  | p :: q :: r, h, _ => by
    rw [comma_cons p (by simp), cnt_app, cnt_none (h p List.mem_cons_self), cnt_cons, if_pos rfl, cnt_comma (fun x hx => h x (List.mem_cons_of_mem _ hx)) (by simp)]
    simp only [List.length_cons]
    omega
theorem figs_no {p : List Nat} (h : figs p) : 44 ∉ p := fun z => by
  have := h.1 44 z
  omega
theorem comma_len : ∀ {l : List (List Nat)}, (∀ p ∈ l, p.length ≤ 4) → (comma l).length ≤ 5 * l.length
  | [], _ => Nat.le_refl _
  | [p], h => by
    have := h p List.mem_cons_self
    show p.length ≤ 5 * 1
    omega
  | p :: q :: r, h => by
    rw [comma_cons p (by simp), List.length_append, List.length_cons]
    have h1 := h p List.mem_cons_self
    have h2 := comma_len (l := q :: r) fun x hx => h x (List.mem_cons_of_mem _ hx)
    simp only [List.length_cons] at h2 ⊢
    omega
theorem split_comma {l : List (List Nat)} (hne : l ≠ []) (h : ∀ p ∈ l, 44 ∉ p) : Txt.split (mkS (comma l)) "," = l.map mkS := by
  have e : mkS (comma l) = Txt.join "," (l.map mkS) := by
    rw [TL.join_eq]
    refine StrLaws.mk_of_toList ?_ |>.symm
    rw [show (Str.join "," (l.map mkS)).cps.toList = TL.tl (Str.join "," (l.map mkS)) from rfl, TL.tl_join, List.map_map]
    have : (TL.tl ∘ mkS : List Nat → List Nat) = id := by
      funext x
      simp [TL.tl]
    rw [this, List.map_id]
    rfl
  rw [e]
  refine TL.split_join (s := 44) (S := []) rfl (by decide +kernel) (by simpa using hne) fun p hp => ?_
  obtain ⟨q, hq, rfl⟩ := List.mem_map.mp hp
  have := h q hq
  simpa [TL.tl] using this
/-- whether a command goes on -/
def Beg.go : Beg → Nat → Bool
  | .no, _ => false
  | .hat, c => isSmall c || isGreat c || decide (c = 94)
  | .great _, c => decide (c = 40)
  | .args _ ps last, c => if isFig c then decide (last.length < 4) else if c = 44 then !decide (last = []) && decide (ps.length < 3) else decide (c = 41) && (!decide (last = []) || decide (ps = []))
abbrev tDo (c : Nat) (ns : List Int) : PyData := .tuple [.str "do", .str ⟨#[c]⟩, .tuple (ns.map PyData.int)]
def numsD (ps : List (List Nat)) (last : List Nat) : List Int := if ps = [] ∧ last = [] then [] else (ps ++ [last]).map fun p => ((NumText.digitsVal p : Nat) : Int)
/-- behind a sign with which it goes on -/
def Beg.next : Beg → Nat → Beg × List PyData
  | .no, _ => (.no, [])
  | .hat, c => if c = 94 then (.no, [tSign 94]) else if isSmall c then (.no, [tDo c []]) else (.great c, [])
  | .great l, _ => (.args l [] [], [])
  | .args l ps last, c => if isFig c then (.args l ps (last ++ [c]), []) else if c = 44 then (.args l (ps ++ [last]) [], []) else (.no, [tDo l (numsD ps last)])
/-- a sign in no command -/
def plainG (c : Nat) : Beg := if c = 94 then .hat else .no
/-- a sign is read -/
def Beg.read (b : Beg) (k : Int) (c : Nat) : Beg × Int × List PyData :=
  match b with
  | .no => (plainG c, k, plainO c)
  | b => if b.go c = true then ((b.next c).1, k, (b.next c).2) else (plainG c, k + b.cs.length, plainO c)
theorem Beg.next_ok {b : Beg} {c : Nat} (h : b.ok) (hg : b.go c = true) : (b.next c).1.ok := by
  cases b with
  | no => trivial
  | hat =>
    show (if c = 94 then (Beg.no, [tSign 94]) else if isSmall c = true then (Beg.no, [tDo c []]) else (Beg.great c, [])).1.ok
    by_cases h1 : c = 94
    · rw [if_pos h1]; trivial
    · rw [if_neg h1]
      by_cases h2 : isSmall c = true
      · rw [if_pos h2]; trivial
      · rw [if_neg h2]
        have hg : (isSmall c || isGreat c || decide (c = 94)) = true := hg
        rw [decide_eq_false h1, Bool.or_false] at hg
        rcases Bool.or_eq_true_iff.mp hg with z | z
        · exact absurd z h2
        · exact z
  | great l => exact ⟨h, fun p hp => absurd hp (by simp), ⟨fun c hc => absurd hc (by simp), Nat.zero_le _⟩, Nat.zero_le _⟩
  | args l ps last =>
    obtain ⟨h1, h2, h3, h4⟩ := h
    have hg : (if isFig c then decide (last.length < 4) else if c = 44 then !decide (last = []) && decide (ps.length < 3) else decide (c = 41) && (!decide (last = []) || decide (ps = []))) = true := hg
    show (if isFig c = true then (Beg.args l ps (last ++ [c]), []) else if c = 44 then (Beg.args l (ps ++ [last]) [], []) else (Beg.no, [tDo l (numsD ps last)])).1.ok
    by_cases f : isFig c = true
    · rw [if_pos f] at hg
      rw [if_pos f]
      have hl : last.length < 4 := of_decide_eq_true hg
      have f : (decide (48 ≤ c) && decide (c ≤ 57)) = true := f
      simp only [Bool.and_eq_true, decide_eq_true_eq] at f
      refine ⟨h1, h2, ⟨fun x hx => ?_, by rw [List.length_append]; show last.length + 1 ≤ 4; omega⟩, h4⟩
      rcases List.mem_append.mp hx with z | z
      · exact h3.1 x z
      · rw [List.mem_singleton.mp z]
        exact f
    · rw [if_neg f] at hg
      rw [if_neg f]
      by_cases g : c = 44
      · rw [if_pos g] at hg
        rw [if_pos g]
        obtain ⟨g1, g2⟩ := Bool.and_eq_true_iff.mp hg
        have g1 : last ≠ [] := by simpa using g1
        have g2 : ps.length < 3 := of_decide_eq_true g2
        refine ⟨h1, fun p hp => ?_, ⟨fun x hx => absurd hx (by simp), Nat.zero_le _⟩, by rw [List.length_append]; show ps.length + 1 ≤ 3; omega⟩
        rcases List.mem_append.mp hp with z | z
        · exact h2 p z
        · rw [List.mem_singleton.mp z]
          exact ⟨h3, g1⟩
      · rw [if_neg g]
        trivial
theorem Beg.read_ok {b : Beg} {k : Int} {c : Nat} (h : b.ok) : (b.read k c).1.ok := by
  have hp : (plainG c).ok := by
    unfold plainG
    split <;> trivial
  unfold Beg.read
  split
  · exact hp
  · split
    · rename_i hg
      exact Beg.next_ok h hg
    · exact hp
end Sc

namespace Sc
open PySem PySem.Spec PyProof.Rows L2
theorem mkS_len (l : List Nat) : (mkS l).length = l.length := by simp [Str.length]
theorem Beg.len {b : Beg} (h : b.ok) : b.cs.length ≤ 30 := by
  cases b with
  | no => decide
  | hat => decide
  | great l => exact Nat.le_of_ble_eq_true rfl
  | args l ps last =>
    obtain ⟨h1, h2, h3, h4⟩ := h
    have := comma_len (l := ps ++ [last]) fun p hp => by
      rcases List.mem_append.mp hp with z | z
      · exact (h2 p z).1.2
      · rw [List.mem_singleton.mp z]; exact h3.2
    show (94 :: l :: 40 :: comma (ps ++ [last])).length ≤ 30
    simp only [List.length_cons, List.length_append, List.length_nil] at this ⊢
    omega
theorem Beg.slen {b : Beg} (h : b.ok) : b.s.length ≤ 30 := by
  rw [show b.s = mkS b.cs from rfl, mkS_len]
  exact Beg.len h
theorem le_sz {n : Nat} (h : n ≤ 1000) : n ≤ sizeLine := by
  rw [sizeLine_eq]
  omega
theorem le_sz' {n : Nat} (h : n ≤ 10000) : n ≤ sizeLine := by
  rw [sizeLine_eq]
  omega
theorem pieces_no {l : Nat} {ps : List (List Nat)} {last : List Nat} (h : (Beg.args l ps last).ok) : ∀ p ∈ ps ++ [last], 44 ∉ p := fun p hp => by
  obtain ⟨h1, h2, h3, h4⟩ := h
  rcases List.mem_append.mp hp with z | z
  · exact figs_no (h2 p z).1
  · rw [List.mem_singleton.mp z]; exact figs_no h3
theorem atI_last {α : Type} {l : List α} {x : α} (h : l.getLast? = some x) : atI l (-1) = some x := by
  have hl : l ≠ [] := fun z => by rw [z] at h; cases h
  have h0 : 0 < l.length := List.length_pos_iff.mpr hl
  have e : ixN l.length (-1) = some (l.length - 1) := by
    unfold ixN
    rw [if_neg (by omega)]
    simp
    omega
  unfold atI
  rw [e]
  rw [List.getLast?_eq_getElem?] at h
  exact h
def smallT : List Nat := (Str.ofString "abcdefghijklmnopqrstuvwxyz").cps.toList
def A_go (ds : List PyData) (b : Str) (k : Int) (d : PyData) : Prop := ∃ (B : Beg) (c : Nat), ds = [.str ⟨#[c]⟩] ∧ b = B.s ∧ B.ok ∧ B ≠ .no ∧ d = .bool (B.go c)
theorem in_small (c : Nat) : decide (c ∈ (Str.ofString "abcdefghijklmnopqrstuvwxyz").cps.toList) = isSmall c := by
  rw [show (Str.ofString "abcdefghijklmnopqrstuvwxyz").cps.toList = [97,98,99,100,101,102,103,104,105,106,107,108,109,110,111,112,113,114,115,116,117,118,119,120,121,122] by decide +kernel]
  unfold isSmall
  by_cases h : 97 ≤ c ∧ c ≤ 122
  · rw [decide_eq_true h.1, decide_eq_true h.2]
    refine decide_eq_true ?_
    simp only [List.mem_cons, List.not_mem_nil, or_false]
    omega
  · rw [← Bool.decide_and, decide_eq_false h]
    refine decide_eq_false fun z => h ?_
    simp only [List.mem_cons, List.not_mem_nil, or_false] at z
    omega
theorem in_letters (c : Nat) : decide (c ∈ (Str.ofString "abcdefghijklmnopqrstuvwxyz" ++ Str.ofString "ABCDEFGHIJKLMNOPQRSTUVWXYZ" ++ Str.ofString "^").cps.toList) = (isSmall c || isGreat c || decide (c = 94)) := by
  rw [show (Str.ofString "abcdefghijklmnopqrstuvwxyz" ++ Str.ofString "ABCDEFGHIJKLMNOPQRSTUVWXYZ" ++ Str.ofString "^").cps.toList = (Str.ofString "abcdefghijklmnopqrstuvwxyz").cps.toList ++ [65,66,67,68,69,70,71,72,73,74,75,76,77,78,79,80,81,82,83,84,85,86,87,88,89,90] ++ [94] by decide +kernel]
  simp only [List.mem_append, List.mem_singleton, Bool.decide_or, in_small]
  congr 2
  unfold isGreat
  by_cases h : 65 ≤ c ∧ c ≤ 90
  · rw [decide_eq_true h.1, decide_eq_true h.2]
    refine decide_eq_true ?_
    simp only [List.mem_cons, List.not_mem_nil, or_false]
    omega
  · rw [← Bool.decide_and, decide_eq_false h]
    refine decide_eq_false fun z => h ?_
    simp only [List.mem_cons, List.not_mem_nil, or_false] at z
    omega
theorem in_figs (c : Nat) : decide (c ∈ (Str.ofString "0123456789").cps.toList) = isFig c := by
  rw [show (Str.ofString "0123456789").cps.toList = [48,49,50,51,52,53,54,55,56,57] by decide +kernel]
  unfold isFig
  by_cases h : 48 ≤ c ∧ c ≤ 57
  · rw [decide_eq_true h.1, decide_eq_true h.2]
    refine decide_eq_true ?_
    simp only [List.mem_cons, List.not_mem_nil, or_false]
    omega
  · rw [← Bool.decide_and, decide_eq_false h]
    refine decide_eq_false fun z => h ?_
    simp only [List.mem_cons, List.not_mem_nil, or_false] at z
    omega
/-- the last sign of what is begun -/
theorem args_last {l : Nat} {ps : List (List Nat)} {last : List Nat} : ∃ z, (Beg.args l ps last).cs.getLast? = some z ∧ (last = [] → (decide (z = 40) = decide (ps = []))) := by
  refine ⟨(Beg.args l ps last).cs.getLast (by simp [Beg.cs]), List.getLast?_eq_some_getLast _, fun h => ?_⟩
  subst h
  by_cases hp : ps = []
  · subst hp
    rfl
  · have e : (Beg.args l ps []).cs = (94 :: l :: 40 :: comma ps) ++ [44] := by
      show 94 :: l :: 40 :: comma (ps ++ [[]]) = _
      rw [comma_snoc [] hp]
      rfl
    have e2 : (Beg.args l ps []).cs.getLast (by simp [Beg.cs]) = 44 := by
      have h2 : (Beg.args l ps []).cs.getLast? = some 44 := by
        rw [e]
        exact List.getLast?_concat
      rw [List.getLast?_eq_some_getLast (by simp [Beg.cs])] at h2
      exact Option.some.inj h2
    rw [e2, decide_eq_false hp]
    rfl
theorem mkS_nil (l : List Nat) : decide (mkS l = Str.ofString "") = decide (l = []) := by
  by_cases h : l = []
  · subst h
    rfl
  · rw [decide_eq_false h]
    refine decide_eq_false fun z => h ?_
    have := congrArg (fun s : Str => s.cps.toList) z
    rw [show (Str.ofString "") = mkS [] from rfl] at this
    simpa using this
section
variable {P : Program} {w : World} {K : PySem.W.Frag} {mg : Str → Option Value} {base : Heap} {Ts : List (Addr × Str)}
theorem sc_Reader_can_go_on : FnScope ["self", "sign", "last"] ["self", "sign"] (defScope s_Reader_can_go_on) := ⟨rfl, rfl, rfl, by decide +kernel, rfl, by decide +kernel, by decide +kernel⟩
theorem cm_Reader_can_go_on (T : GT K mg) : CalM P w K mg base CX0 1 "Reader" "can_go_on" ["self", "sign"] (spRs K 1 A_go) := by
  refine CalM.of T.f_Reader_can_go_on T.c_Reader T.m_Reader_can_go_on sc_Reader_can_go_on (fun _ _ _ _ _ _ us hl => match us, hl with | [_, _], _ => rfl) (fun vs H Q E h => ?_) fun f cdv A' outer s H vs Q E hr h => ?_
  · exact h.len
  obtain ⟨F, a, ds, us, b, k, d, rfl, _, fm, ⟨dx, ho⟩, hl, ⟨B, c, rfl, rfl, hok, hno, rfl⟩, q⟩ := h
  obtain ⟨v, rfl, hv⟩ := dal1 hl
  refine ⟨_, PSs.nox ((pss_cons (ps_if (pt_cmpR (keq K hr.units) (pe_callB (klen K) (by rfl) T.z_len (by decide +kernel) (pa_cons (kfld K (pv 0)) pa_nil)) pe_int (nomark _)) (pss_one (ps_ret (pe_cmpR (kmem K) (pv 1) (pe_op (kplus K) (pe_op (kplus K) (pe_gs (by rfl) T.t_SMALL) (pe_gs (by rfl) T.t_GREAT)) pe_str) rfl))) pss_nil)
      (pss_cons (ps_if (pt_cmpR (keq K hr.units) (pe_callB (klen K) (by rfl) T.z_len (by decide +kernel) (pa_cons (kfld K (pv 0)) pa_nil)) pe_int (nomark _)) (pss_one (ps_ret (pe_cmpR (keq K hr.units) (pv 1) pe_str (nomark _)))) pss_nil)
      (pss_cons (pS 2 sc_Reader_can_go_on.nd (pe_ix (kix K) (kbm K PySem.F.plainAttrs_str PySem.F.slot_str_split PySem.F.type_str_split mt_split (pe_slice (ksl K) (kfld K (pv 0)) (po_some pe_int) po_none) (pa_cons pe_str pa_nil)) (pe_un un_neg pe_int) (fun _ _ => rfl)))
      (pss_cons (ps_if (pt_cmpR (kmem K) (pv 1) (pe_gs (by rfl) T.t_FIGURES) rfl) (pss_one (ps_ret (pe_cmpR op_lt (pe_callB (klen K) (by rfl) T.z_len (by decide +kernel) (pa_cons (pv 2) pa_nil)) (pe_gi (by rfl) T.i_MOST_FIGURES) (nomark _)))) pss_nil)
      (pss_cons (ps_if (pt_cmpR (keq K hr.units) (pv 1) pe_str (nomark _)) (pss_one (ps_ret (pe_and (pe_cmpR (kne K hr.units) (pv 2) pe_str (nomark _)) (pe_one (pe_cmpR op_lt (kbm K PySem.F.plainAttrs_str PySem.F.slot_str_count PySem.F.type_str_count mt_count (kfld K (pv 0)) (pa_cons pe_str pa_nil)) (pe_op op_sub (pe_gi (by rfl) T.i_MOST_ARGUMENTS) pe_int) (nomark _)))))) pss_nil)
      (pss_one (ps_ret (pe_and (pe_cmpR (keq K hr.units) (pv 1) pe_str (nomark _)) (pe_one (pe_or (pe_cmpR (kne K hr.units) (pv 2) pe_str (nomark _)) (pe_one (pe_cmpR (keq K hr.units) (pe_ix (kix K) (kfld K (pv 0)) (pe_un un_neg pe_int) (fun _ _ => rfl)) pe_str (nomark _)))))))))))))), ?_⟩
  have bg : ∀ {σ : L2.St} {H1}, σ[0]? = some (some (.ref a)) → Same H H1 → DV Same K F (tFld K (tVar 0) "begun") σ H1 (.str B.s) := fun hσ s1 => dv_fld (vv_var hσ) (s1 _ _ ho) (fk_begun T) rfl rfl
  have sl := Beg.slen hok
  have ln : B.s.length = B.cs.length := mkS_len _
  have fin : ∀ {b : Bool} {v H1}, Same H H1 → b = B.go c → Da K (hid F H1) (.bool b) v → Q v H1 := fun s1 e g => q _ _ s1 (e ▸ g)
  have f0 := fm.fd
  refine s_seq (s_if (R := Same) (F := F) (dt_test (K := K) (dv_eqI (dv_lenS (bg rfl (Same.refl H)) (le_sz (by omega))) dv_int)) f0 (fun e H1 s1 => ?_) fun e H1 s1 => ?_)
  · have e : (B.s.length : Int) = 1 := of_decide_eq_true e
    refine s_ret (R := Same) (K := K) (F := F) (dv_inS (dv_var rfl (r_da (R := Same) s1 hv)) (dv_addS (dv_addS dv_str dv_str (Nat.le_of_ble_eq_true rfl)) dv_str (Nat.le_of_ble_eq_true rfl))) (r_fd (R := Same) s1 f0) fun v H2 s2 g => fin (s1.trans s2) ?_ g
    rw [in_letters]
    rw [ln] at e
    cases B with
    | no => exact absurd rfl hno
    | hat => rfl
    | great l => exact absurd e (show ¬ ((2 : Nat) : Int) = 1 by decide)
    | args l ps last => exact absurd e (by simp [Beg.cs]; omega)
  · have e : ¬ (B.s.length : Int) = 1 := of_decide_eq_false e
    refine s_next (s_seq (s_if (R := Same) (F := F) (dt_test (K := K) (dv_eqI (dv_lenS (bg rfl s1) (le_sz (by omega))) dv_int)) (r_fd (R := Same) s1 f0) (fun e2 H2 s2 => ?_) fun e2 H2 s2 => ?_))
    · have e2 : (B.s.length : Int) = 2 := of_decide_eq_true e2
      refine s_ret (R := Same) (K := K) (F := F) (dv_eqS (dv_var rfl (r_da (R := Same) (s1.trans s2) hv)) dv_str) (r_fd (R := Same) (s1.trans s2) f0) fun v H3 s3 g => fin ((s1.trans s2).trans s3) ?_ g
      rw [show (Str.ofString "(") = ⟨#[40]⟩ from rfl, one_eq]
      rw [ln] at e2
      cases B with
      | no => exact absurd rfl hno
      | hat => exact absurd e2 (by decide)
      | great l => rfl
      | args l ps last => exact absurd e2 (by simp [Beg.cs]; omega)
    · have e2 : ¬ (B.s.length : Int) = 2 := of_decide_eq_false e2
      rw [ln] at e e2
      cases B with
      | no => exact absurd rfl hno
      | hat => exact absurd rfl e
      | great l => exact absurd rfl e2
      | args l ps last =>
        have s12 := s1.trans s2
        have hp := pieces_no hok
        have cut : cutS (Beg.args l ps last).s (some 3) none = mkS (comma (ps ++ [last])) := by
          show mkS ((((Beg.args l ps last).s.cps.toList).drop (min 3 (Beg.args l ps last).s.length)).take ((Beg.args l ps last).s.length - min 3 (Beg.args l ps last).s.length)) = _
          have h3 : 3 ≤ (Beg.args l ps last).s.length := by rw [ln]; simp [Beg.cs]
          rw [Nat.min_eq_left h3, ln]
          show mkS ((((Beg.args l ps last).cs.toArray.toList).drop 3).take _) = _
          rw [List.toList_toArray]
          show mkS (List.take ((94 :: l :: 40 :: comma (ps ++ [last])).length - 3) (comma (ps ++ [last]))) = _
          rw [List.take_of_length_le (by simp)]
        have spl : Txt.split (cutS (Beg.args l ps last).s (some 3) none) "," = (ps ++ [last]).map mkS := by rw [cut, split_comma (by simp) hp]
        have cl : (cutS (Beg.args l ps last).s (some 3) none).length + 2 ≤ sizeLine := by
          rw [cut, mkS_len]
          have h3 : (comma (ps ++ [last])).length ≤ 30 := by
            have := Beg.len hok
            simp only [Beg.cs, List.length_cons] at this
            omega
          exact le_sz (by omega)
        refine s_next (s_seq (s_set (R := Same) (K := K) (F := F) (d := .str (mkS last)) (dv_ixL (ds := ((ps ++ [last]).map mkS).map PyData.str) (dv_is (dv_split (dv_slS (bg rfl s12) (do_some (K := K) dv_int) do_none (le_sz (by omega))) dv_str (by decide +kernel) cl) (by rw [spl])) (dv_neg dv_int) (atI_last (by simp))) (r_fd (R := Same) s12 f0) fun vl H3 s3 gl => ?_))
        have gl : vl = .str (mkS last) := gl
        subst gl
        have s13 := s12.trans s3
        have dl : ∀ {σ : L2.St} {H1 : Hp}, σ[2]? = some (some (.str (mkS last))) → DV Same K F (tVar 2) σ H1 (.str (mkS last)) := fun h => dv_var h rfl
        have ll : last.length ≤ 4 := hok.2.2.1.2
        refine s_seq (s_if (R := Same) (F := F) (dt_is (dt_test (K := K) (dv_inS (dv_var rfl (r_da (R := Same) s13 hv)) dv_str)) (in_figs c)) (r_fd (R := Same) s13 f0) (fun e3 H4 s4 => ?_) fun e3 H4 s4 => ?_)
        · refine s_ret (R := Same) (K := K) (F := F) (dv_lt (dv_lenS (dl rfl) (le_sz (by rw [mkS_len]; omega))) dv_int) (r_fd (R := Same) (s13.trans s4) f0) fun v H5 s5 g => fin ((s13.trans s4).trans s5) ?_ g
          show _ = (if isFig c then decide (last.length < 4) else _)
          rw [if_pos e3, mkS_len]
          by_cases hh : last.length < 4
          · rw [decide_eq_true hh]; exact decide_eq_true (by omega)
          · rw [decide_eq_false hh]; exact decide_eq_false (by omega)
        · have s14 := s13.trans s4
          refine s_next (s_seq (s_if (R := Same) (F := F) (dt_is (dt_test (K := K) (dv_eqS (dv_var rfl (r_da (R := Same) s14 hv)) dv_str)) (one_eq 44 c)) (r_fd (R := Same) s14 f0) (fun e4 H5 s5 => ?_) fun e4 H5 s5 => ?_))
          · have e4 : c = 44 := of_decide_eq_true e4
            refine s_ret (R := Same) (K := K) (F := F) (dv_and (dv_neS (dl rfl) dv_str) fun _ => dv_lt (dv_count (bg rfl (s14.trans s5)) dv_str) (dv_subI dv_int dv_int)) (r_fd (R := Same) (s14.trans s5) f0) fun v H6 s6 g => fin ((s14.trans s5).trans s6) ?_ g
            show _ = (if isFig c then _ else if c = 44 then _ else _)
            rw [e3, if_neg Bool.false_ne_true, if_pos e4, mkS_nil]
            congr 1
            rw [show (Str.ofString ",") = ⟨#[44]⟩ from rfl, count_cnt, show (Beg.args l ps last).s.cps.toList = [94, l, 40] ++ comma (ps ++ [last]) by simp [Beg.s, Beg.cs], cnt_app, cnt_comma hp (by simp)]
            have hl : cnt 44 [94, l, 40] = 0 := by
              refine cnt_none fun z => ?_
              have hg : (decide (65 ≤ l) && decide (l ≤ 90)) = true := hok.1
              simp only [Bool.and_eq_true, decide_eq_true_eq] at hg
              simp only [List.mem_cons, List.not_mem_nil, or_false] at z
              omega
            rw [hl, List.length_append]
            by_cases hh : ps.length < 3
            · rw [decide_eq_true hh]; exact decide_eq_true (by simp; omega)
            · rw [decide_eq_false hh]; exact decide_eq_false (by simp; omega)
          · have e4 : ¬ c = 44 := of_decide_eq_false e4
            have s15 := s14.trans s5
            obtain ⟨z, hz1, hz2⟩ := args_last (l := l) (ps := ps) (last := last)
            refine s_next (s_ret (R := Same) (K := K) (F := F) (dv_and (dv_eqS (dv_var rfl (r_da (R := Same) s15 hv)) dv_str) fun _ => dv_or (dv_neS (dl rfl) dv_str) fun _ => dv_eqS (dv_ixS (bg rfl s15) (dv_neg dv_int) (le_sz (by omega)) (atI_last (by show (Beg.args l ps last).cs.toArray.toList.getLast? = some z; rw [List.toList_toArray]; exact hz1))) dv_str) (r_fd (R := Same) s15 f0) fun v H6 s6 g => fin (s15.trans s6) ?_ g)
            show _ = (if isFig c then _ else if c = 44 then _ else _)
            rw [e3, if_neg Bool.false_ne_true, if_neg e4, mkS_nil, show (Str.ofString ")") = ⟨#[41]⟩ from rfl, show (Str.ofString "(") = ⟨#[40]⟩ from rfl, one_eq, one_eq]
            congr 1
            by_cases hh : last = []
            · rw [hz2 hh]
            · rw [decide_eq_false hh]
              rfl
end
end Sc

namespace Sc
open PySem PySem.Spec PyProof.Rows L2
def A_whole (ds : List PyData) (b : Str) (k : Int) (b' : Str) (k' : Int) (d : PyData) : Prop := ∃ (B : Beg) (c : Nat), ds = [] ∧ b = mkS (B.cs ++ [c]) ∧ B.ok ∧ B.go c = true ∧ b' = (B.next c).1.s ∧ k' = k ∧ d = .list (B.next c).2
theorem comma_nil {ps : List (List Nat)} {last : List Nat} : comma (ps ++ [last]) = [] ↔ ps = [] ∧ last = [] := by
  constructor
  · intro h
    by_cases hp : ps = []
    · subst hp
      exact ⟨rfl, h⟩
    · rw [comma_snoc last hp] at h
      simp at h
  · rintro ⟨rfl, rfl⟩
    rfl
theorem mkS_two (a b x y : Nat) : decide (mkS [a, b] = mkS [x, y]) = decide (a = x ∧ b = y) := by
  by_cases h : a = x ∧ b = y
  · rw [h.1, h.2]
    simp
  · rw [decide_eq_false h]
    refine decide_eq_false fun z => h ?_
    have := congrArg (fun s : Str => s.cps.toList) z
    simpa using this
theorem mkS_inj {l m : List Nat} (h : mkS l = mkS m) : l = m := by
  have := congrArg (fun s : Str => s.cps.toList) h
  simpa using this
theorem sIx_neg1 {n d : Nat} (h : 1 ≤ n) : HT.sIx n d (some (-1)) = n - 1 := by
  show (if (-1 : Int) < 0 then ((-1 : Int) + (n : Int)).toNat else min (-1 : Int).toNat n) = n - 1
  rw [if_pos (by decide)]
  omega
theorem sIx_3 {n d : Nat} (h : 3 ≤ n) : HT.sIx n d (some 3) = 3 := by
  have := HT.sIx_nat n d 3
  rw [Nat.min_eq_left h] at this
  exact this
theorem cut_word {l : Nat} {m : List Nat} {c : Nat} : cutS (mkS ((94 :: l :: 40 :: m) ++ [c])) (some 3) (some (-1)) = mkS m := by
  unfold cutS
  have hl : (mkS ((94 :: l :: 40 :: m) ++ [c])).length = m.length + 4 := by
    rw [mkS_len]
    simp
  rw [hl, sIx_3 (by omega), sIx_neg1 (by omega)]
  show mkS _ = _
  congr 1
  simp
theorem nums_ok {ps : List (List Nat)} {last : List Nat} {l : Nat} (h : (Beg.args l ps last).ok) (hl : last ≠ [] ∨ ps = []) (hn : ¬ (ps = [] ∧ last = [])) : ∀ p ∈ ps ++ [last], intText? (mkS p) = some ((NumText.digitsVal p : Nat) : Int) := fun p hp => by
  obtain ⟨h1, h2, h3, h4⟩ := h
  have key : (∀ c ∈ p, 48 ≤ c ∧ c ≤ 57) ∧ p.length ≤ 4 ∧ p ≠ [] := by
    rcases List.mem_append.mp hp with z | z
    · exact ⟨(h2 p z).1.1, (h2 p z).1.2, (h2 p z).2⟩
    · rw [List.mem_singleton.mp z]
      refine ⟨h3.1, h3.2, ?_⟩
      rcases hl with hl | hl
      · exact hl
      · exact fun z => hn ⟨hl, z⟩
  have := intText_digits (x := mkS p) (by simpa [NumText.AllDigits] using key.1) (by simpa using key.2.2) (by rw [mkS_len]; omega)
  simpa using this
section
variable {P : Program} {w : World} {K : PySem.W.Frag} {mg : Str → Option Value} {base : Heap} {Ts : List (Addr × Str)}
theorem sc_Reader_whole : FnScope ["self", "word", "rest", "one"] ["self"] (defScope s_Reader_whole) := ⟨rfl, rfl, rfl, by decide +kernel, rfl, by decide +kernel, by decide +kernel⟩
theorem cm_Reader_whole (T : GT K mg) : CalM P w K mg base CX0 1 "Reader" "whole" ["self"] (spRd K 0 A_whole) := by
  refine CalM.of T.f_Reader_whole T.c_Reader T.m_Reader_whole sc_Reader_whole (fun _ _ _ _ _ _ us hl => match us, hl with | [_], _ => rfl) (fun vs H Q E h => ?_) fun f cdv A' outer s H vs Q E hr h => ?_
  · exact h.len
  obtain ⟨F, a, ds, us, b, k, b', k', d, rfl, _, fm, haF, ⟨dx, ho⟩, hl, ⟨B, c, rfl, rfl, hok, hgo, rfl, rfl, rfl⟩, q⟩ := h
  have hl : us = [] := hl
  subst hl
  have hno : B ≠ .no := fun z => by rw [z] at hgo; cases hgo
  refine ⟨_, PSs.nox ((pss_cons (pS 1 sc_Reader_whole.nd (kfld K (pv 0)))
      (pss_cons (ps_if (pt_cmpR (keq K hr.units) (pv 1) pe_str (nomark _)) (pss_cons (ks_fld K (pv 0) pe_str)
      (pss_one (ps_ret (pe_lst (pa_cons (pe_tup (pa_cons pe_str (pa_cons pe_str pa_nil))) pa_nil))))) pss_nil)
      (pss_cons (ps_if (PW.pt (pw_and (pt_cmpR (keq K hr.units) (pe_callB (klen K) (by rfl) T.z_len (by decide +kernel) (pa_cons (pv 1) pa_nil)) pe_int (nomark _)) (pw_and1 (pt_cmpR (kmem K) (pe_ix (kix K) (pv 1) pe_int (fun _ _ => rfl)) (pe_gs (by rfl) T.t_SMALL) rfl)))) (pss_cons (ks_fld K (pv 0) pe_str)
      (pss_one (ps_ret (pe_lst (pa_cons (pe_tup (pa_cons pe_str (pa_cons (pe_ix (kix K) (pv 1) pe_int (fun _ _ => rfl)) (pa_cons (pe_tup pa_nil) pa_nil)))) pa_nil))))) pss_nil)
      (pss_cons (ps_if (pt_cmpR (kne K hr.units) (pe_ix (kix K) (pv 1) (pe_un un_neg pe_int) (fun _ _ => rfl)) pe_str (nomark _)) (pss_one (ps_ret (pe_lst pa_nil))) pss_nil)
      (pss_cons (ks_fld K (pv 0) pe_str)
      (pss_cons (pS 2 sc_Reader_whole.nd (pe_slice (ksl K) (pv 1) (po_some pe_int) (po_some (pe_un un_neg pe_int))))
      (pss_one (ps_ret (pe_lst (pa_cons (pe_tup (pa_cons pe_str (pa_cons (pe_ix (kix K) (pv 1) pe_int (fun _ _ => rfl)) (pa_cons (pe_ifExp (pt_cmpR (kne K hr.units) (pv 2) pe_str (nomark _)) (pe_callTy (ktuple K) (by rfl) T.z_tuple (by decide +kernel) (pa_cons (pe_lc (own := [("one", 3)]) rfl sc_Reader_whole.nd (ki_list K (kbm K PySem.F.plainAttrs_str PySem.F.slot_str_split PySem.F.type_str_split mt_split (pv 2) (pa_cons pe_str pa_nil))) (blkOk_by (own := [("one", 3)]) (N := ["self", "word", "rest", "one"]) (sc := defScope s_Reader_whole) (by decide +kernel)) (fun _ _ _ _ _ => by exact (pG 3 sc_Reader_whole.nd)) (fun _ _ _ _ _ => by exact pts_nil) (fun _ _ _ _ _ => by exact (pe_callTy call_int_str (by rfl) T.z_int (by decide +kernel) (pa_cons (pv 3) pa_nil)))) pa_nil)) (pe_tup pa_nil)) pa_nil)))) pa_nil))))))))))), ?_⟩
  obtain ⟨W, hW⟩ : ∃ W, W = mkS (B.cs ++ [c]) := ⟨_, rfl⟩
  rw [← hW] at ho
  have wl : W.length ≤ 31 := by
    rw [hW, mkS_len, List.length_append]
    have := Beg.len hok
    simp only [List.length_cons, List.length_nil]
    omega
  have lst : atI W.cps.toList (-1) = some c := atI_last (by rw [hW]; simp)
  -- word = self.begun
  refine s_seq (s_set (R := Same) (K := K) (F := F) (d := .str W) (dv_fld (vv_var rfl) ho (fk_begun T) rfl rfl) fm.fd fun v H1 s1 g => ?_)
  have g : v = .str W := g
  subst g
  have f1 := r_fd (R := Same) s1 fm.fd
  have dw : ∀ {σ : L2.St} {H1 : Hp}, σ[1]? = some (some (.str W)) → DV Same K F (tVar 1) σ H1 (.str W) := fun h => dv_var h rfl
  -- self.begun = "", return ..
  have leave : ∀ {H1 : Hp} (s1 : Same H H1) {σ : L2.St} {te : TE} {d : PyData}, σ[0]? = some (some (.ref a)) → (∀ H2 : Hp, DV Same K F te σ H2 d) → (B.next c).1 = .no → d = .list (B.next c).2 →
      tSeq (sFld K (tVar 0) (tC (V.str "")) "begun") (tRet te) { nx := fun _ H' => Q .non H', rt := Q } σ H1 := fun {H1} s1 {σ te d} hσ hd hn he => by
    refine s_seq (s_fld (R := Same) (K := K) (F := F) (d := .str "") dv_str (r_fd (R := Same) s1 fm.fd) (vv_var hσ) (s1 _ _ ho) (fk_begun T) fun v H2 s2 g ho2 => ?_)
    have g : v = .str "" := g
    subst g
    have m2 : Mo [a] H (upd H2 a (.ins (He.ga K "Reader") dx [("begun", .str ""), ("lost", .int k')])) := (Mo.same (s1.trans s2)).write (.inl List.mem_cons_self) trivial ⟨_, ho2, trivial⟩
    refine s_ret (R := Same) (K := K) (F := F) (d := d) (hd _) (fm.mo m2).fd fun v H3 s3 g => q v H3 (m2.trans (Mo.same s3)) ⟨dx, ?_⟩ (he ▸ g)
    rw [hn]
    exact s3 _ _ upd_same
  refine s_seq (s_if (R := Same) (F := F) (dt_test (K := K) (dv_eqS (dw rfl) dv_str)) f1 (fun e H2 s2 => ?_) fun e H2 s2 => ?_)
  · have e : W = "^^" := of_decide_eq_true e
    have ec : B = .hat ∧ c = 94 := by
      rw [hW, show (Str.ofString "^^") = mkS [94, 94] from rfl] at e
      have e := mkS_inj e
      cases B with
      | no => exact absurd rfl hno
      | hat => exact ⟨rfl, by simpa [Beg.cs] using e⟩
      | great l => simp [Beg.cs] at e
      | args l ps last => simp [Beg.cs] at e
    obtain ⟨rfl, rfl⟩ := ec
    exact leave (s1.trans s2) (d := .list [tSign 94]) rfl (fun H2 => by walk_at "dv") rfl rfl
  · have e : ¬ W = "^^" := of_decide_eq_false e
    have s12 := s1.trans s2
    -- word[1]
    obtain ⟨w1, hw1⟩ : ∃ w1, W.cps.toList[1]? = some w1 := ⟨_, List.getElem?_eq_getElem (by rw [hW]; cases B <;> simp [Beg.cs] at hno ⊢)⟩
    have i1 : ∀ {σ : L2.St} {H1 : Hp}, σ[1]? = some (some (.str W)) → DV Same K F (tOp (rIx K) (tVar 1) (tC (V.int 1))) σ H1 (.str ⟨#[w1]⟩) := fun h => dv_ixS (dw h) dv_int (le_sz (by omega)) (atI_nat (j := 1) hw1)
    refine s_next (s_seq (s_if (R := Same) (F := F) (b := decide (B.cs.length = 1) && isSmall w1) (dt_is (dt_and (a := decide ((W.length : Int) = 2)) (b := isSmall w1) (dt_test (K := K) (dv_eqI (dv_lenS (dw rfl) (le_sz (by omega))) dv_int)) fun _ => dt_is (dt_test (K := K) (dv_inS (i1 rfl) dv_str)) (in_small w1)) ?_) (r_fd (R := Same) s12 fm.fd) (fun e2 H3 s3 => ?_) fun e2 H3 s3 => ?_))
    · congr 1
      rw [hW, mkS_len, List.length_append]
      by_cases h1 : B.cs.length = 1
      · rw [h1]; rfl
      · rw [decide_eq_false h1]
        exact decide_eq_false (by simp; omega)
    · obtain ⟨e3, e4⟩ := Bool.and_eq_true_iff.mp e2
      have e3 : B.cs.length = 1 := of_decide_eq_true e3
      have eb : B = .hat := by
        cases B with
        | no => exact absurd rfl hno
        | hat => rfl
        | great l => exact absurd e3 (show ¬ (2 : Nat) = 1 by decide)
        | args l ps last => simp [Beg.cs] at e3
      subst eb
      have ew : w1 = c := by
        rw [hW] at hw1
        simpa [Beg.cs] using hw1.symm
      subst ew
      have n94 : ¬ w1 = 94 := fun z => e (by rw [hW, z]; rfl)
      have en : Beg.hat.next w1 = (.no, [tDo w1 []]) := by
        show (if w1 = 94 then _ else if isSmall w1 = true then _ else _) = _
        rw [if_neg n94, if_pos e4]
      exact leave (s12.trans s3) (d := .list [tDo w1 []]) rfl (fun H2 => dv_lst (da_cons (dv_tup (da_cons dv_str (da_cons (i1 rfl) (da_cons (dv_tup da_nil (Nat.le_of_ble_eq_true rfl)) da_nil))) (Nat.le_of_ble_eq_true rfl)) da_nil) (Nat.le_of_ble_eq_true rfl)) (by rw [en]) (by rw [en])
    · have s13 := s12.trans s3
      refine s_next (s_seq (s_if (R := Same) (F := F) (b := !decide (c = 41)) (dt_is (dt_test (K := K) (dv_neS (dv_ixS (dw rfl) (dv_neg dv_int) (le_sz (by omega)) lst) dv_str)) (by rw [show (Str.ofString ")") = ⟨#[41]⟩ from rfl, one_eq])) (r_fd (R := Same) s13 fm.fd) (fun e3 H4 s4 => ?_) fun e3 H4 s4 => ?_))
      · have e3 : ¬ c = 41 := by simpa using e3
        have key : (B.next c).1.s = W ∧ (B.next c).2 = [] := by
          cases B with
          | no => exact absurd rfl hno
          | hat =>
            have n94 : ¬ c = 94 := fun z => e (by rw [hW, z]; rfl)
            have ew : w1 = c := by
              rw [hW] at hw1
              simpa [Beg.cs] using hw1.symm
            have ns : ¬ isSmall c = true := fun z => by
              rw [ew, z] at e2
              cases e2
            have en : Beg.hat.next c = (.great c, []) := by
              show (if c = 94 then _ else if isSmall c = true then _ else _) = _
              rw [if_neg n94, if_neg ns]
            rw [en, hW]
            exact ⟨rfl, rfl⟩
          | great l =>
            have hc : c = 40 := of_decide_eq_true hgo
            rw [hW, hc]
            exact ⟨rfl, rfl⟩
          | args l ps last =>
            have hg : (if isFig c then decide (last.length < 4) else if c = 44 then !decide (last = []) && decide (ps.length < 3) else decide (c = 41) && (!decide (last = []) || decide (ps = []))) = true := hgo
            have en : (Beg.args l ps last).next c = (if isFig c = true then (Beg.args l ps (last ++ [c]), []) else if c = 44 then (Beg.args l (ps ++ [last]) [], []) else (Beg.no, [tDo l (numsD ps last)])) := rfl
            by_cases f : isFig c = true
            · rw [en, if_pos f, hW]
              refine ⟨?_, rfl⟩
              show mkS (94 :: l :: 40 :: comma (ps ++ [last ++ [c]])) = mkS ((94 :: l :: 40 :: comma (ps ++ [last])) ++ [c])
              rw [comma_last]
              rfl
            · rw [if_neg f] at hg
              by_cases g : c = 44
              · rw [en, if_neg f, if_pos g, hW]
                refine ⟨?_, rfl⟩
                show mkS (94 :: l :: 40 :: comma ((ps ++ [last]) ++ [[]])) = mkS ((94 :: l :: 40 :: comma (ps ++ [last])) ++ [c])
                rw [comma_snoc [] (by simp), g]
                rfl
              · rw [if_neg g] at hg
                exact absurd (of_decide_eq_true (Bool.and_eq_true_iff.mp hg).1) e3
        refine s_ret (R := Same) (K := K) (F := F) (d := .list []) (dv_lst da_nil (by decide)) (r_fd (R := Same) (s13.trans s4) fm.fd) fun v H5 s5 g => q v H5 (Mo.same ((s13.trans s4).trans s5)) ⟨dx, ?_⟩ (by rw [key.2]; exact g)
        rw [key.1]
        exact ((s13.trans s4).trans s5) _ _ ho
      · have e3 : c = 41 := by simpa using e3
        subst e3
        have s14 := s13.trans s4
        -- only args
        obtain ⟨l, ps, last, rfl⟩ : ∃ l ps last, B = .args l ps last := by
          cases B with
          | no => exact absurd rfl hno
          | hat => exact absurd hgo (by decide)
          | great l => exact absurd (show decide ((41 : Nat) = 40) = true from hgo) (by decide)
          | args l ps last => exact ⟨_, _, _, rfl⟩
        have hlp : last ≠ [] ∨ ps = [] := by
          have hg : (if isFig 41 then decide (last.length < 4) else if (41 : Nat) = 44 then !decide (last = []) && decide (ps.length < 3) else decide ((41 : Nat) = 41) && (!decide (last = []) || decide (ps = []))) = true := hgo
          rw [show isFig 41 = false from rfl, if_neg Bool.false_ne_true, if_neg (by decide)] at hg
          simpa using hg
        have en : (Beg.args l ps last).next 41 = (Beg.no, [tDo l (numsD ps last)]) := rfl
        have cw : cutS W (some 3) (some (-1)) = mkS (comma (ps ++ [last])) := by
          rw [hW]
          exact cut_word
        have wl1 : w1 = l := by
          rw [hW] at hw1
          simpa [Beg.cs] using hw1.symm
        subst wl1
        refine s_next (s_seq (s_fld (R := Same) (K := K) (F := F) (d := .str "") dv_str (r_fd (R := Same) s14 fm.fd) (vv_var rfl) (s14 _ _ ho) (fk_begun T) fun v H5 s5 g ho2 => ?_))
        have g : v = .str "" := g
        subst g
        have m2 : Mo [a] H (upd H5 a (.ins (He.ga K "Reader") dx [("begun", .str ""), ("lost", .int k')])) := (Mo.same (s14.trans s5)).write (.inl List.mem_cons_self) trivial ⟨_, ho2, trivial⟩
        have f5 := (fm.mo m2).fd
        refine s_seq (s_set (R := Same) (K := K) (F := F) (d := .str (mkS (comma (ps ++ [last])))) (dv_is (dv_slS (dw rfl) (do_some (K := K) dv_int) (do_some (K := K) (dv_neg dv_int)) (le_sz (by omega))) (by rw [← cw])) f5 fun vr H6 s6 gr => ?_)
        have gr : vr = .str (mkS (comma (ps ++ [last]))) := gr
        subst gr
        have hp := pieces_no hok
        have cl : (mkS (comma (ps ++ [last]))).length ≤ 30 := by
          rw [mkS_len]
          have := Beg.len hok
          simp only [Beg.cs, List.length_cons] at this
          omega
        refine s_ret (R := Same) (K := K) (F := F) (d := .list [tDo w1 (numsD ps last)]) (dv_lst (da_cons (dv_tup (da_cons dv_str (da_cons (i1 rfl) (da_cons (dv_if (b := !decide (ps = [] ∧ last = [])) (dt_is (dt_test (K := K) (dv_neS (dv_var rfl (show Da K _ (.str (mkS (comma (ps ++ [last])))) _ from rfl)) dv_str)) ?_) (fun hn => ?_) fun hn => ?_) da_nil))) (Nat.le_of_ble_eq_true rfl)) da_nil) (Nat.le_of_ble_eq_true rfl)) (r_fd (R := Same) s6 f5) fun v H7 s7 g => q v H7 (m2.trans (Mo.same (s6.trans s7))) ⟨dx, (s6.trans s7) _ _ upd_same⟩ g
        · rw [mkS_nil, decide_eq_decide.mpr comma_nil]
        · have hn : ¬ (ps = [] ∧ last = []) := of_decide_eq_false (by simpa only [Bool.not_eq_true'] using hn)
          have no := nums_ok hok hlp hn
          refine dv_is (dv_tupOf (ds := (numsD ps last).map PyData.int) (dv_lcL (ds := ((ps ++ [last]).map mkS).map PyData.str) (dv_is (dv_split (dv_var rfl (show Da K _ (.str (mkS (comma (ps ++ [last])))) _ from rfl)) dv_str (by decide +kernel) (le_sz (by omega))) (by rw [split_comma (by simp) hp])) ?_ ?_ (fun _ => rfl) fun F' H8 u j d e w h1 h2 g => ?_)) rfl
          · unfold numsD
            rw [if_neg hn]
            simp
          · have : ps.length ≤ 3 := hok.2.2.2
            refine le_sz ?_
            simp
            omega
          · rw [List.getElem?_map, List.getElem?_map] at h1
            unfold numsD at h2
            rw [if_neg hn, List.getElem?_map, List.getElem?_map] at h2
            cases hx : (ps ++ [last])[j]? with
            | none => rw [hx] at h1; cases h1
            | some p =>
              rw [hx] at h1 h2
              cases h1
              cases h2
              have g : u = .str (mkS p) := g
              subst g
              have pl : p.length ≤ 4 := by
                rcases List.mem_append.mp (List.mem_of_getElem? hx) with z | z
                · exact (hok.2.1 p z).1.2
                · rw [List.mem_singleton.mp z]; exact hok.2.2.1.2
              exact dv_intS (dv_var rfl (show Da K _ (.str (mkS p)) _ from rfl)) (no p (List.mem_of_getElem? hx)) (by rw [mkS_len]; omega)
        · have hn : ps = [] ∧ last = [] := of_decide_eq_true (by simpa only [Bool.not_eq_false'] using hn)
          unfold numsD
          rw [if_pos hn]
          exact dv_tup da_nil (Nat.le_of_ble_eq_true rfl)
end
end Sc

namespace Sc
open PySem PySem.Spec PyProof.Rows L2
def A_read (ds : List PyData) (b : Str) (k : Int) (b' : Str) (k' : Int) (d : PyData) : Prop := ∃ (B : Beg) (c : Nat), ds = [.str ⟨#[c]⟩] ∧ b = B.s ∧ B.ok ∧ b' = (B.read k c).1.s ∧ k' = (B.read k c).2.1 ∧ d = .list (B.read k c).2.2
theorem plainB_s (c : Nat) : plainB c "" = (plainG c).s := by
  unfold plainB plainG
  split <;> rfl
theorem Beg.s_nil {B : Beg} : decide (B.s = "") = decide (B.cs = []) := mkS_nil _
section
variable {P : Program} {w : World} {K : PySem.W.Frag} {mg : Str → Option Value} {base : Heap} {Ts : List (Addr × Str)}
theorem sc_Reader_read : FnScope ["self", "sign"] ["self", "sign"] (defScope s_Reader_read) := ⟨rfl, rfl, rfl, by decide +kernel, rfl, by decide +kernel, by decide +kernel⟩
theorem cm_Reader_read (T : GT K mg) : CalM P w K mg base CX0 2 "Reader" "read" ["self", "sign"] (spRd K 1 A_read) := by
  refine CalM.of T.f_Reader_read T.c_Reader T.m_Reader_read sc_Reader_read (fun _ _ _ _ _ _ us hl => match us, hl with | [_, _], _ => rfl) (fun vs H Q E h => ?_) fun f cdv A' outer s H vs Q E hr h => ?_
  · exact h.len
  obtain ⟨F, a, ds, us, b, k, b', k', d, rfl, _, fm, haF, ⟨dx, ho⟩, hl, ⟨B, c, rfl, rfl, hok, rfl, rfl, rfl⟩, q⟩ := h
  obtain ⟨v, rfl, hv⟩ := dal1 hl
  refine ⟨_, PSs.nox ((pss_cons (ps_if (pt_cmpR (keq K hr.units) (kfld K (pv 0)) pe_str (nomark _)) (pss_one (ps_ret (pe_cm K (cm_Reader_plain T) (hr.mono (by decide)) pass0 (pv 0) (pa_cons (pv 1) pa_nil)))) pss_nil)
      (pss_cons (ps_if (pt_val (pe_cm K (cm_Reader_can_go_on T) (hr.mono (by decide)) pass0 (pv 0) (pa_cons (pv 1) pa_nil))) (pss_cons (ks_fld K (pv 0) (pe_op (kplus K) (kfld K (pv 0)) (pv 1)))
      (pss_one (ps_ret (pe_cm0 K (cm_Reader_whole T) (hr.mono (by decide)) pass0 (pv 0))))) pss_nil)
      (pss_cons (ks_fld K (pv 0) (pe_op (kplus K) (kfld K (pv 0)) (pe_callB (klen K) (by rfl) T.z_len (by decide +kernel) (pa_cons (kfld K (pv 0)) pa_nil))))
      (pss_cons (ks_fld K (pv 0) pe_str)
      (pss_one (ps_ret (pe_cm K (cm_Reader_plain T) (hr.mono (by decide)) pass0 (pv 0) (pa_cons (pv 1) pa_nil))))))))), ?_⟩
  have f0 := fm.fd
  refine s_seq (s_if (R := Same) (F := F) (dt_is (dt_test (K := K) (dv_eqS (dv_fld (vv_var rfl) ho (fk_begun T) rfl (show Da K _ (.str B.s) _ from rfl)) dv_str)) Beg.s_nil) f0 (fun e H1 s1 => ?_) fun e H1 s1 => ?_)
  · have e : B.cs = [] := of_decide_eq_true e
    have eb : B = .no := by
      cases B with
      | no => rfl
      | hat => cases e
      | great l => cases e
      | args l ps last => cases e
    subst eb
    refine te_meth (R := Same) (K := K) (F := F) (vv_var rfl) (s1 _ _ ho) rfl (da_cons (dv_var rfl (r_da (R := Same) s1 hv)) da_nil) (r_fd (R := Same) s1 f0) fun us H2 s2 l => ?_
    have s12 := s1.trans s2
    exact ⟨F, a, _, us, "", k, plainB c "", k, .list (plainO c), rfl, rfl, fm.mo (Mo.same (fp := []) s12), haF, ⟨dx, s12 _ _ ho⟩, l, ⟨c, rfl, rfl, rfl, rfl⟩, fun v H3 m3 r3 g => q v H3 ((Mo.same s12).trans m3) (by rw [plainB_s] at r3; exact r3) g⟩
  · have e : ¬ B.cs = [] := of_decide_eq_false e
    have hno : B ≠ .no := fun z => e (by rw [z]; rfl)
    have rd : ∀ k, B.read k c = if B.go c = true then ((B.next c).1, k, (B.next c).2) else (plainG c, k + B.cs.length, plainO c) := fun k => by
      cases B with
      | no => exact absurd rfl hno
      | hat => rfl
      | great l => rfl
      | args l ps last => rfl
    rw [rd] at q
    refine s_next (s_seq (s_if (R := Same) (F := F) (b := B.go c) (dt_test (K := K) (dv_meth (d := .bool (B.go c)) (vv_var rfl) (s1 _ _ ho) rfl (da_cons (dv_var rfl (r_da (R := Same) s1 hv)) da_nil) fun us H2 Q s2 f2 l q => ?_)) (r_fd (R := Same) s1 f0) (fun e2 H2 s2 => ?_) fun e2 H2 s2 => ?_))
    · exact ⟨F, a, _, us, B.s, k, .bool (B.go c), rfl, rfl, fm.mo (Mo.same (fp := []) (s1.trans s2)), ⟨dx, (s1.trans s2) _ _ ho⟩, l, ⟨B, c, rfl, rfl, hok, hno, rfl⟩, q⟩
    · rw [if_pos e2] at q
      have s12 := s1.trans s2
      have hb := Beg.slen hok
      have hv2 := r_da (R := Same) s12 hv
      have hv2 : v = .str ⟨#[c]⟩ := hv2
      subst hv2
      refine s_seq (s_fld (R := Same) (K := K) (F := F) (d := .str (mkS (B.cs ++ [c]))) (dv_is (dv_addS (dv_fld (vv_var rfl) (s12 _ _ ho) (fk_begun T) rfl (show Da K _ (.str B.s) _ from rfl)) (dv_var rfl (show Da K _ (.str ⟨#[c]⟩) _ from rfl)) (le_sz (by show _ + 1 ≤ _; omega))) ?_) (r_fd (R := Same) s12 f0) (vv_var rfl) (s12 _ _ ho) (fk_begun T) fun v H3 s3 g ho3 => ?_)
      · congr 1
        show (⟨(B.cs.toArray ++ #[c])⟩ : Str) = ⟨(B.cs ++ [c]).toArray⟩
        rw [← List.append_toArray]
      have g : v = .str (mkS (B.cs ++ [c])) := g
      subst g
      have m3 : Mo [a] H (upd H3 a (.ins (He.ga K "Reader") dx [("begun", .str (mkS (B.cs ++ [c]))), ("lost", .int k)])) := (Mo.same (s12.trans s3)).write (.inl List.mem_cons_self) trivial ⟨_, ho3, trivial⟩
      refine te_meth (R := Same) (K := K) (F := F) (vv_var rfl) upd_same rfl da_nil (fm.mo m3).fd fun us H4 s4 l => ?_
      exact ⟨F, a, _, us, mkS (B.cs ++ [c]), k, (B.next c).1.s, k, .list (B.next c).2, rfl, rfl, fm.mo (m3.trans (Mo.same s4)), haF, ⟨dx, s4 _ _ upd_same⟩, l, ⟨B, c, rfl, rfl, hok, e2, rfl, rfl, rfl⟩, fun v H5 m5 r5 g => q v H5 ((m3.trans (Mo.same s4)).trans m5) r5 g⟩
    · have e2' : ¬ B.go c = true := by rw [e2]; exact Bool.false_ne_true
      rw [if_neg e2'] at q
      have s12 := s1.trans s2
      have hb := Beg.slen hok
      have hv2 : v = .str ⟨#[c]⟩ := r_da (R := Same) s12 hv
      subst hv2
      refine s_next (s_seq (s_fld (R := Same) (K := K) (F := F) (d := .int (k + B.cs.length)) (dv_is (dv_addI (dv_fld (vv_var rfl) (s12 _ _ ho) (fk_lost T) rfl (show Da K _ (.int k) _ from rfl)) (dv_lenS (dv_fld (vv_var rfl) (s12 _ _ ho) (fk_begun T) rfl (show Da K _ (.str B.s) _ from rfl)) (le_sz (by omega)))) (by rw [show B.s = mkS B.cs from rfl, mkS_len])) (r_fd (R := Same) s12 f0) (vv_var rfl) (s12 _ _ ho) (fk_lost T) fun v H3 s3 g ho3 => ?_))
      have g : v = .int (k + B.cs.length) := g
      subst g
      have m3 : Mo [a] H (upd H3 a (.ins (He.ga K "Reader") dx [("begun", .str B.s), ("lost", .int (k + B.cs.length))])) := (Mo.same (s12.trans s3)).write (.inl List.mem_cons_self) trivial ⟨_, ho3, trivial⟩
      refine s_seq (s_fld (R := Same) (K := K) (F := F) (d := .str "") dv_str (fm.mo m3).fd (vv_var rfl) upd_same (fk_begun T) fun v H4 s4 g ho4 => ?_)
      have g : v = .str "" := g
      subst g
      have m4 : Mo [a] H (upd H4 a (.ins (He.ga K "Reader") dx [("begun", .str ""), ("lost", .int (k + B.cs.length))])) := (m3.trans (Mo.same s4)).write (.inl List.mem_cons_self) trivial ⟨_, ho4, trivial⟩
      refine te_meth (R := Same) (K := K) (F := F) (vv_var rfl) upd_same rfl (da_cons (dv_var rfl (show Da K _ (.str ⟨#[c]⟩) _ from rfl)) da_nil) (fm.mo m4).fd fun us H5 s5 l => ?_
      exact ⟨F, a, _, us, "", _, plainB c "", _, .list (plainO c), rfl, rfl, fm.mo (m4.trans (Mo.same s5)), haF, ⟨dx, s5 _ _ upd_same⟩, l, ⟨c, rfl, rfl, rfl, rfl⟩, fun v H6 m6 r6 g => q v H6 ((m4.trans (Mo.same s5)).trans m6) (by rw [plainB_s] at r6; exact r6) g⟩
end
end Sc

namespace Sc
open PySem PySem.Spec PyProof.Rows L2
def isSign (c : Nat) : Bool := decide (c = 10) || (decide (32 ≤ c) && decide (c ≤ 126) && !decide (c = 37))
def A_is_sign (ds : List PyData) (d : PyData) : Prop := ∃ c : Nat, ds = [.str ⟨#[c]⟩] ∧ d = .bool (isSign c)
theorem sign_lt (a c : Nat) : decide (([c] : List Nat) < [a]) = decide (c < a) := by
  by_cases h : c < a
  · rw [decide_eq_true h]; exact decide_eq_true (List.Lex.rel h)
  · rw [decide_eq_false h]
    refine decide_eq_false fun z => ?_
    cases z with
    | rel z => exact h z
    | cons z => cases z
theorem sign_eq (a c : Nat) : ((⟨#[c]⟩ : Str) == ⟨#[a]⟩) = decide (c = a) := by
  by_cases h : c = a
  · subst h; simp
  · rw [decide_eq_false h]
    refine beq_eq_false_iff_ne.mpr fun z => h ?_
    have z1 := congrArg (fun s : Str => s.cps.toList) z
    simpa using z1
theorem isSign_eq (c : Nat) : (decide ((⟨#[c]⟩ : Str) = Str.ofString "\n") || ((!decide (([c] : List Nat) < [32]) && !decide (([126] : List Nat) < [c])) && !decide (((c : Nat) : Int) = 37))) = isSign c := by
  have e1 : decide ((⟨#[c]⟩ : Str) = Str.ofString "\n") = decide (c = 10) := by
    rw [show Str.ofString "\n" = ⟨#[10]⟩ by decide +kernel, ← Bool.beq_eq_decide_eq, sign_eq]
  have e2 : decide (((c : Nat) : Int) = 37) = decide (c = 37) := by
    by_cases h : c = 37
    · subst h; rfl
    · rw [decide_eq_false h]; exact decide_eq_false (by omega)
  rw [e1, e2, sign_lt, sign_lt]
  unfold isSign
  have e3 : (!decide (c < 32)) = decide (32 ≤ c) := by
    by_cases h : c < 32
    · rw [decide_eq_true h, decide_eq_false (by omega : ¬ 32 ≤ c)]; rfl
    · rw [decide_eq_false h, decide_eq_true (by omega : 32 ≤ c)]; rfl
  have e4 : (!decide (126 < c)) = decide (c ≤ 126) := by
    by_cases h : 126 < c
    · rw [decide_eq_true h, decide_eq_false (by omega : ¬ c ≤ 126)]; rfl
    · rw [decide_eq_false h, decide_eq_true (by omega : c ≤ 126)]; rfl
  rw [e3, e4]
section
variable {P : Program} {w : World} {K : PySem.W.Frag} {mg : Str → Option Value} {base : Heap} {Ts : List (Addr × Str)}
theorem sc_is_sign : FnScope ["sign"] ["sign"] (defScope s_is_sign) := ⟨rfl, rfl, rfl, by decide +kernel, rfl, by decide +kernel, by decide +kernel⟩
theorem c_is_sign (T : GT K mg) : Cal P w K mg base CX0 1 "is_sign" ["sign"] (spF K 1 A_is_sign) := by
  refine cal_F T.f_is_sign T.g_is_sign sc_is_sign rfl (fun _ _ _ _ _ _ us hl => match us, hl with | [_], _ => rfl) fun f cdv A' outer s H vs Q E F ds d hr hf hl ha q => ?_
  obtain ⟨c, rfl, rfl⟩ := ha
  obtain ⟨v, rfl, hv⟩ := dal1 hl
  refine ⟨_, (pss_one (ps_ret (pe_or (pe_cmpR (keq K hr.units) (pv 0) (pe_gs (by rfl) T.t_GAP) (nomark _)) (pe_one (pe_and (pe_chain op_leq op_leq pe_str (pv 0) pe_str) (pe_one (pe_cmpR (kne K hr.units) (pe_callB call_ord (by rfl) T.z_ord (by decide +kernel) (pa_cons (pv 0) pa_nil)) (pe_gi (by rfl) T.i_BARRED) (nomark _)))))))), ?_⟩
  refine s_ret (R := Same) (K := K) (F := F) (dv_is (dv_or (dv_eqS (dv_var rfl hv) dv_str) fun _ => dv_and (dv_chLeS dv_str (dv_var rfl hv) dv_str) fun _ => dv_neI (dv_ord (dv_var rfl hv)) dv_int) (congrArg PyData.bool (isSign_eq c))) hf q
end
end Sc

namespace Sc
open PySem PySem.Spec PyProof.Rows L2
def isText : PyData → Bool
  | .str x => decide (x.length ≤ 4000) && x.cps.toList.all isSign
  | _ => false
def textSm : PyData → Prop
  | .str x => x.length ≤ sizeLine
  | _ => True
def A_need_text (ds : List PyData) (r : Except Str PyData) : Prop := ∃ e : PyData, ds = [e] ∧ textSm e ∧ r = okIf (isText e) "BadText"
theorem strlen (x : Str) : x.cps.toList.length = x.length := Array.length_toList
section
variable {P : Program} {w : World} {K : PySem.W.Frag} {mg : Str → Option Value} {base : Heap} {Ts : List (Addr × Str)}
theorem sc_need_text : FnScope ["text", "sign"] ["text"] (defScope s_need_text) := ⟨rfl, rfl, rfl, by decide +kernel, rfl, by decide +kernel, by decide +kernel⟩
theorem c_need_text (T : GT K mg) : Cal P w K mg base (XC P w) 2 "need_text" ["text"] (spG K 1 A_need_text) := by
  refine cal_G T.f_need_text T.g_need_text sc_need_text rfl (fun _ _ _ _ _ _ us hl => match us, hl with | [_], _ => rfl) fun f cdv A' outer s H vs Q E F ds r hr hf hl ha q1 q2 => ?_
  obtain ⟨e, rfl, sm, rfl⟩ := ha
  obtain ⟨v, rfl, hv⟩ := dal1 hl
  refine ⟨_, (pss_one (ps_if (PW.pt (pw_or (pt_not (pt_val (pe_callB (kisi K) (by rfl) T.z_isinstance (by decide +kernel) (pa_cons (pv 0) (pa_cons (pe_bltn (v := .ty "str") (by rfl) T.z_str (by decide +kernel) rfl) pa_nil))))) (pw_or (pt_cmpR op_gt (pe_callB (klen K) (by rfl) T.z_len (by decide +kernel) (pa_cons (pv 0) pa_nil)) (pe_gi (by rfl) T.i_MOST_TEXT) (nomark _)) (pw_or1 (pt_not (pt_val (pe_callB (kall K) (by rfl) T.z_all (by decide +kernel) (pa_cons (pe_lc (own := [("sign", 1)]) rfl sc_need_text.nd (pi_str (pv 0)) (blkOk_by (own := [("sign", 1)]) (N := ["text", "sign"]) (sc := defScope s_need_text) (by decide +kernel)) (fun _ _ _ _ _ => by exact (pG 1 sc_need_text.nd)) (fun _ _ _ _ _ => by exact pts_nil) (fun _ _ _ _ _ => by exact (pe_cal (c_is_sign T) (hr.mono (by decide)) pass0 (pa_cons (pv 1) pa_nil)))) pa_nil)))))))) (pss_one (L2N.ps_raise rfl (L2N.takes_of rfl rfl rfl rfl) (L2N.pmk_own PySem.F.excBase_ValueError T.x_BadText.1 T.g_BadText T.x_BadText.2.1 (raises_own T.x_BadText.2.2.1 T.x_BadText.2.2.2) rfl))) pss_nil)), ?_⟩
  have key : DT Same F (tOr (tNot (tTest (tCB (rIsi K) (tCons (tVar 0) (tCons (tC (.ty "str")) tNil))))) (tOr (tTest (tOp (rI0 fun i j => V.bl (decide (j < i))) (tCB (rLn K) (tCons (tVar 0) tNil)) (tC (V.int 4000)))) (tNot (tTest (tCB (rAll K) (tCons (tLc (iStr (tVar 0)) (gName 1) tYes (tCall (spF K 1 A_is_sign) [] E0 (tCons (tVar 1) tNil)) [1]) tNil)))))) (start ["text", "sign"] [v]) H (!isText e) := by
    by_cases hs : isStr e = true
    · obtain ⟨x, rfl⟩ : ∃ x, e = .str x := by
        cases e with
        | str x => exact ⟨x, rfl⟩
        | _ => cases hs
      have sm : x.length ≤ sizeLine := sm
      refine dt_is (dt_or (dt_not (dt_test (K := K) (dv_isStr (dv_var rfl hv)))) fun _ => dt_or (dt_test (K := K) (dv_gt (dv_lenS (dv_var rfl hv) sm) dv_int)) fun _ => dt_not (dt_test (K := K) (dv_all (bs := x.cps.toList.map isSign) (dv_lcS (gs := (x.cps.toList.map isSign).map PyData.bool) (dv_var rfl hv) (by simp) (by rw [strlen]; exact sm) (fun _ => rfl) fun F' H1 j c e w h1 h2 => ?_)))) ?_
      · rw [List.map_map] at h2
        rw [get_map h1 h2]
        exact dv_call (da_cons (dv_var rfl (show Da K _ (.str ⟨#[c]⟩) _ from rfl)) da_nil) (sd_F ⟨c, rfl, rfl⟩ rfl)
      · show ((!true) || (decide ((4000 : Int) < (x.length : Int)) || !(x.cps.toList.map isSign).all id)) = !(decide (x.length ≤ 4000) && x.cps.toList.all isSign)
        rw [all_map, Bool.not_true, Bool.false_or, Bool.not_and]
        congr 1
        by_cases hh : x.length ≤ 4000
        · rw [decide_eq_true hh]; exact decide_eq_false (by omega)
        · rw [decide_eq_false hh]; exact decide_eq_true (by omega)
    · have hs : isStr e = false := by
        cases h : isStr e with
        | true => exact absurd h hs
        | false => rfl
      have ht : isText e = false := by
        cases e with
        | str x => cases hs
        | _ => rfl
      refine dt_is (dt_or (a := !isStr e) (b := true) (dt_not (dt_test (K := K) (dv_isStr (dv_var rfl hv)))) fun z => ?_) (by rw [hs, ht]; rfl)
      rw [hs] at z
      cases z
  refine s_if (R := Same) (F := F) key hf (fun e H1 s1 => ?_) fun e H1 s1 => ?_
  · rw [Bool.not_eq_true'] at e
    exact q2 "BadText" (by rw [e]; rfl) H1 s1
  · rw [Bool.not_eq_false'] at e
    exact q1 .none (by rw [e]; rfl) .non H1 s1 rfl
end
end Sc

namespace Sc
open PySem PySem.Spec PyProof.Rows L2
/-- signs are read -/
def Beg.feed : Beg → Int → List Nat → Beg × Int × List PyData
  | b, k, [] => (b, k, [])
  | b, k, c :: r => ((Beg.feed (b.read k c).1 (b.read k c).2.1 r).1, (Beg.feed (b.read k c).1 (b.read k c).2.1 r).2.1, (b.read k c).2.2 ++ (Beg.feed (b.read k c).1 (b.read k c).2.1 r).2.2)
theorem Beg.feed_app : ∀ (l m : List Nat) (b : Beg) (k : Int), b.feed k (l ++ m) = (((b.feed k l).1.feed (b.feed k l).2.1 m).1, ((b.feed k l).1.feed (b.feed k l).2.1 m).2.1, (b.feed k l).2.2 ++ ((b.feed k l).1.feed (b.feed k l).2.1 m).2.2)
  | [], m, b, k => rfl
  | c :: l, m, b, k => by
    simp only [List.cons_append, Beg.feed, Beg.feed_app l m, List.append_assoc]
theorem Beg.feed_ok : ∀ (l : List Nat) {b : Beg} {k : Int}, b.ok → (b.feed k l).1.ok
  | [], b, k, h => h
  | c :: l, b, k, h => Beg.feed_ok l (Beg.read_ok h)
theorem plainO_len (c : Nat) : (plainO c).length ≤ 1 := by
  unfold plainO
  split
  · exact Nat.zero_le _
  · split <;> exact Nat.le_refl _
theorem Beg.read_len (b : Beg) (k : Int) (c : Nat) : (b.read k c).2.2.length ≤ 1 := by
  unfold Beg.read
  split
  · exact plainO_len c
  · split
    · cases b with
      | no => exact Nat.zero_le _
      | hat =>
        show (if c = 94 then (Beg.no, [tSign 94]) else if isSmall c = true then (Beg.no, [tDo c []]) else (Beg.great c, [])).2.length ≤ 1
        split
        · exact Nat.le_refl _
        · split
          · exact Nat.le_refl _
          · exact Nat.zero_le _
      | great l => exact Nat.zero_le _
      | args l ps last =>
        show (if isFig c = true then (Beg.args l ps (last ++ [c]), []) else if c = 44 then (Beg.args l (ps ++ [last]) [], []) else (Beg.no, [tDo l (numsD ps last)])).2.length ≤ 1
        split
        · exact Nat.zero_le _
        · split
          · exact Nat.zero_le _
          · exact Nat.le_refl _
    · exact plainO_len c
theorem Beg.feed_len : ∀ (l : List Nat) (b : Beg) (k : Int), (b.feed k l).2.2.length ≤ l.length
  | [], b, k => Nat.le_refl _
  | c :: l, b, k => by
    have h1 := Beg.read_len b k c
    have h2 := Beg.feed_len l (b.read k c).1 (b.read k c).2.1
    simp only [Beg.feed, List.length_append, List.length_cons]
    omega
theorem Beg.feed_snoc (l : List Nat) (c : Nat) (b : Beg) (k : Int) : b.feed k (l ++ [c]) = (((b.feed k l).1.read (b.feed k l).2.1 c).1, ((b.feed k l).1.read (b.feed k l).2.1 c).2.1, (b.feed k l).2.2 ++ ((b.feed k l).1.read (b.feed k l).2.1 c).2.2) := by
  rw [Beg.feed_app]
  simp only [Beg.feed, List.append_nil]
def spFeed (K : PySem.W.Frag) : Sp := fun vs H Q E => ∃ F a e u B k, vs = [.ref a, u] ∧ Fm F H ∧ a ∈ F ∧ RdAt K H a (Beg.s B) k ∧ B.ok ∧ Da K (hid F H) e u ∧ textSm e ∧
  (∀ x, e = .str x → isText e = true → ∀ v H', Mo [a] H H' → RdAt K H' a (B.feed k x.cps.toList).1.s (B.feed k x.cps.toList).2.1 → Da K (hid F H') (.list (B.feed k x.cps.toList).2.2) v → Q v H') ∧ (isText e = false → ∀ H', Same H H' → E (.ref (He.ga K "BadText")) none H')
theorem text_str {e : PyData} (h : isText e = true) : ∃ x, e = .str x := by
  cases e with
  | str x => exact ⟨x, rfl⟩
  | _ => cases h
section
variable {P : Program} {w : World} {K : PySem.W.Frag} {mg : Str → Option Value} {base : Heap} {Ts : List (Addr × Str)}
theorem sc_Reader_feed : FnScope ["self", "text", "found", "sign"] ["self", "text"] (defScope s_Reader_feed) := ⟨rfl, rfl, rfl, by decide +kernel, rfl, by decide +kernel, by decide +kernel⟩
theorem cm_Reader_feed (T : GT K mg) : CalM P w K mg base (XC P w) 3 "Reader" "feed" ["self", "text"] (spFeed K) := by
  refine CalM.of T.f_Reader_feed T.c_Reader T.m_Reader_feed sc_Reader_feed (fun _ _ _ _ _ _ us hl => match us, hl with | [_, _], _ => rfl) (fun vs H Q E h => ?_) fun f cdv A' outer s H vs Q E hr h => ?_
  · obtain ⟨_, _, _, _, _, _, rfl, _⟩ := h
    rfl
  obtain ⟨F, a, e, u, B, k, rfl, fm, haF, ⟨dx, ho⟩, hok, hu, sm, q1, q2⟩ := h
  refine ⟨_, (pss_cons (ps_expr (pe_cal (c_need_text T) (hr.mono (by decide)) (passX rfl rfl rfl rfl) (pa_cons (pv 1) pa_nil)))
      (pss_cons (pS 2 sc_Reader_feed.nd (pe_lst pa_nil))
      (pss_cons (ps_for (passes_of rfl) rfl (pi_str (pv 1)) (pG 3 sc_Reader_feed.nd) (pss_one (ps_expr (kbm K PySem.F.plainAttrs_list PySem.F.slot_list_extend PySem.F.type_list_extend mt_extend (pv 2) (pa_cons (pe_cm K (cm_Reader_read T) (hr.mono (by decide)) pass0 (pv 0) (pa_cons (pv 3) pa_nil)) pa_nil)))))
      (pss_one (ps_ret (pv 2)))))), ?_⟩
  have f0 := fm.fd
  refine s_seq (s_call (R := Same) (K := K) (F := F) (da_cons (dv_var rfl hu) da_nil) f0 ⟨e, rfl, sm, rfl⟩ rfl (fun d hd H1 s1 => ?_) fun c hc H1 s1 => ?_)
  · obtain ⟨ht, rfl⟩ := okIf_ok hd
    obtain ⟨x, rfl⟩ := text_str ht
    have q1 := q1 x rfl ht
    have hxl : x.cps.toList.length ≤ 4000 := by
      have ht : (decide (x.length ≤ 4000) && x.cps.toList.all isSign) = true := ht
      rw [strlen]
      exact of_decide_eq_true (Bool.and_eq_true_iff.mp ht).1
    -- found = []
    refine s_seq (s_list (R := Same) (K := K) (F := F) da_nil (r_fd (R := Same) s1 f0) (by decide) fun l vs H2 s2 hl2 g2 => ?_)
    have g2 : vs = [] := g2
    subst g2
    have s12 := s1.trans s2
    have hl0 : H l = none := by
      cases h : H l with
      | none => rfl
      | some o =>
        have := s12 _ _ h
        rw [hl2] at this
        cases this
    have lF : l ∉ F := f0.new hl0
    have la : l ≠ a := fun z => lF (z ▸ haF)
    have m3 : Mo [a] H (upd H2 l (.lst [])) := (Mo.same s12).new hl2
    have ho3 : upd H2 l (.lst []) a = some (.ins (He.ga K "Reader") dx [("begun", .str B.s), ("lost", .int k)]) := by
      rw [upd_ne (Ne.symm la)]
      exact s12 _ _ ho
    have hu3 : u = .str x := hu
    subst hu3
    refine s_seq (s_forS (R := Same) (K := K) (F := F) (z := x) (dv_var rfl (show Da K _ (.str x) _ from rfl)) (fm.mo m3).fd fun H4 s4 f4 =>
      ⟨fun j σ' H' => Mo [a] H H' ∧ (∃ o, σ' = [some (.ref a), some (.str x), some (.ref l), o]) ∧ RdAt K H' a (B.feed k (x.cps.toList.take j)).1.s (B.feed k (x.cps.toList.take j)).2.1 ∧ ∃ xs, H' l = some (.lst xs) ∧ DaL K (hid (l :: F) H') (B.feed k (x.cps.toList.take j)).2.2 xs, ⟨m3.trans (Mo.same s4), ⟨_, rfl⟩, ⟨dx, by rw [List.take_zero]; exact s4 _ _ ho3⟩, [], s4 _ _ upd_same, by rw [List.take_zero]; rfl⟩, ?_, ?_⟩)
    · rintro j σ' H5 c hc ⟨m5, ⟨o, rfl⟩, ⟨dx5, ho5⟩, xs, hx, hd⟩
      have fm5 : Fm (l :: F) H5 := (fm.mo m5).put hx trivial
      refine s_ext (K := K) rfl ⟨_, hx⟩ (te_meth (R := Same) (K := K) (F := l :: F) (vv_var rfl) ho5 rfl (da_cons (dv_var rfl (show Da K _ (.str ⟨#[c]⟩) _ from rfl)) da_nil) fm5.fd fun us H6 s6 lu => ?_)
      have et : x.cps.toList.take (j + 1) = x.cps.toList.take j ++ [c] := by
        rw [List.take_add_one, hc]
        rfl
      have rok := Beg.feed_ok (x.cps.toList.take j) (k := k) hok
      refine ⟨l :: F, a, _, us, _, _, _, _, _, rfl, rfl, fm5.mo (Mo.same (fp := []) s6), List.mem_cons_of_mem _ haF, ⟨dx5, s6 _ _ ho5⟩, lu, ⟨_, c, rfl, rfl, rok, rfl, rfl, rfl⟩, fun v H7 m7 r7 g7 => ?_⟩
      obtain ⟨b, zs, rfl, gb, lz⟩ := g7
      obtain ⟨gb1, gb2⟩ := hid_le gb
      have hx7 : H7 l = some (.lst xs) := m7.keep _ _ (s6 _ _ hx) fun _ z => la (List.mem_singleton.mp z)
      have fl := Beg.feed_len (x.cps.toList.take j) B k
      have rl := Beg.read_len (B.feed k (x.cps.toList.take j)).1 (B.feed k (x.cps.toList.take j)).2.1 c
      refine ⟨b, xs, zs, rfl, hx7, gb1, ?_, ?_⟩
      · rw [hd.length, lz.length]
        rw [List.length_take] at fl
        exact le_sz' (by omega)
      · have m57 : Mo [a] H H7 := (m5.trans (Mo.same s6)).trans m7
        refine ⟨m57.write (.inr hl0) trivial ⟨_, hx7, trivial⟩, ⟨_, rfl⟩, ?_, xs ++ zs, upd_same, ?_⟩
        · obtain ⟨dx7, h7⟩ := r7
          refine ⟨dx7, ?_⟩
          rw [upd_ne (Ne.symm la), et, Beg.feed_snoc]
          exact h7
        · rw [et, Beg.feed_snoc]
          have x7 : Xt (hid (l :: F) H5) (hid (l :: F) H7) := ((Mo.same (fp := [a]) s6).trans m7).xt fun b hb => by
            rw [List.mem_singleton.mp hb]
            exact List.mem_cons_of_mem _ haF
          exact ((hd.mono x7).mono hid_chg).append (lz.mono hid_chg)
    · rintro σ' H5 ⟨m5, ⟨o, rfl⟩, r5, xs, hx, hd⟩
      rw [List.take_length] at r5 hd
      exact ⟨_, rfl, q1 _ H5 m5 r5 ⟨l, xs, rfl, by rw [hid_out lF]; exact hx, hd.mono hid_cons⟩⟩
  · obtain ⟨ht, rfl⟩ := okIf_err hc
    exact q2 ht H1 s1
end
end Sc

namespace Sc
open PySem PySem.Spec PyProof.Rows L2
def spInitR (K : PySem.W.Frag) : Sp := fun vs H Q _ => ∃ a dx, vs = [.ref a] ∧ H a = some (.ins (He.ga K "Reader") dx []) ∧ ∀ H', Mo [a] H H' → RdAt K H' a "" 0 → Q .non H'
def A_left (ds : List PyData) (b : Str) (k : Int) (d : PyData) : Prop := ds = [] ∧ d = .str b
def A_dropped (ds : List PyData) (b : Str) (k : Int) (d : PyData) : Prop := ds = [] ∧ d = .int k
theorem mo_same {fp : List Addr} {H H1 H2 : Hp} (s : Same H H1) (m : Mo fp H1 H2) (h : ∀ b ∈ fp, H b = none) : Same H H2 := fun b o e => m.keep b o (s b o e) fun _ z => by
  rw [h b z] at e
  cases e
section
variable {P : Program} {w : World} {K : PySem.W.Frag} {mg : Str → Option Value} {base : Heap} {Ts : List (Addr × Str)}
theorem sc_Reader___init__ : FnScope ["self"] ["self"] (defScope s_Reader___init__) := ⟨rfl, rfl, rfl, by decide +kernel, rfl, by decide +kernel, by decide +kernel⟩
theorem ci_Reader (T : GT K mg) : CalI P w K mg base CX0 1 "Reader" ["self"] (spInitR K) := by
  refine CalI.of T.f_Reader___init__ sc_Reader___init__ (fun _ _ _ _ _ _ us hl => match us, hl with | [_], _ => rfl) (fun vs H Q E h => ?_) fun f cdv A' outer s H vs Q E hr h => ?_
  · obtain ⟨_, _, rfl, _⟩ := h
    rfl
  obtain ⟨a, dx, rfl, ho, q⟩ := h
  refine ⟨_, PSs.nox ((pss_cons (ks_fld K (pv 0) pe_str)
      (pss_one (ks_fld K (pv 0) pe_int)))), ?_⟩
  refine s_seq (s_fld (R := Same) (K := K) (F := []) (d := .str "") dv_str Fd.nil (vv_var rfl) ho (fk_begun T) fun v H1 s1 g ho1 => ?_)
  have g : v = .str "" := g
  subst g
  have m1 : Mo [a] H (upd H1 a (.ins (He.ga K "Reader") dx [("begun", .str "")])) := (Mo.same s1).write (.inl List.mem_cons_self) trivial ⟨_, ho1, trivial⟩
  refine s_fld (R := Same) (K := K) (F := []) (d := .int 0) dv_int Fd.nil (vv_var rfl) upd_same (fk_lost T) fun v H2 s2 g ho2 => ?_
  have g : v = .int 0 := g
  subst g
  exact q _ ((m1.trans (Mo.same s2)).write (.inl List.mem_cons_self) trivial ⟨_, ho2, trivial⟩) ⟨dx, upd_same⟩
theorem sc_Reader_left : FnScope ["self"] ["self"] (defScope s_Reader_left) := ⟨rfl, rfl, rfl, by decide +kernel, rfl, by decide +kernel, by decide +kernel⟩
theorem cm_Reader_left (T : GT K mg) : CalM P w K mg base CX0 1 "Reader" "left" ["self"] (spRs K 0 A_left) := by
  refine CalM.of T.f_Reader_left T.c_Reader T.m_Reader_left sc_Reader_left (fun _ _ _ _ _ _ us hl => match us, hl with | [_], _ => rfl) (fun vs H Q E h => ?_) fun f cdv A' outer s H vs Q E hr h => ?_
  · exact h.len
  obtain ⟨F, a, ds, us, b, k, d, rfl, _, fm, ⟨dx, ho⟩, hl, ⟨rfl, rfl⟩, q⟩ := h
  have hl : us = [] := hl
  subst hl
  refine ⟨_, PSs.nox ((pss_one (ps_ret (kfld K (pv 0))))), ?_⟩
  exact s_ret (R := Same) (K := K) (F := F) (dv_fld (vv_var rfl) ho (fk_begun T) rfl (show Da K _ (.str b) _ from rfl)) fm.fd fun v H1 s1 g => q v H1 s1 g
theorem sc_Reader_dropped : FnScope ["self"] ["self"] (defScope s_Reader_dropped) := ⟨rfl, rfl, rfl, by decide +kernel, rfl, by decide +kernel, by decide +kernel⟩
theorem cm_Reader_dropped (T : GT K mg) : CalM P w K mg base CX0 1 "Reader" "dropped" ["self"] (spRs K 0 A_dropped) := by
  refine CalM.of T.f_Reader_dropped T.c_Reader T.m_Reader_dropped sc_Reader_dropped (fun _ _ _ _ _ _ us hl => match us, hl with | [_], _ => rfl) (fun vs H Q E h => ?_) fun f cdv A' outer s H vs Q E hr h => ?_
  · exact h.len
  obtain ⟨F, a, ds, us, b, k, d, rfl, _, fm, ⟨dx, ho⟩, hl, ⟨rfl, rfl⟩, q⟩ := h
  have hl : us = [] := hl
  subst hl
  refine ⟨_, PSs.nox ((pss_one (ps_ret (kfld K (pv 0))))), ?_⟩
  exact s_ret (R := Same) (K := K) (F := F) (dv_fld (vv_var rfl) ho (fk_lost T) rfl (show Da K _ (.int k) _ from rfl)) fm.fd fun v H1 s1 g => q v H1 s1 g
/-- Reader() -/
theorem te_Reader {σ : L2.St} {H : Hp} {E : XK} {Q : VK} (k : ∀ a H1, Same H H1 → H a = none → RdAt K H1 a "" 0 → Q (.ref a) H1) : tMake (He.ga K "Reader") (spInitR K) [] E tNil σ H Q := fun x dx h1 h2 hne => by
  refine ⟨x, dx, rfl, upd_same, fun H' m r => ⟨rfl, k x H' (mo_same ((same_new h2).trans (same_new (by rw [upd_ne (Ne.symm hne)]; exact h1))) m fun b hb => by rw [List.mem_singleton.mp hb]; exact h1) h1 r⟩⟩
theorem te_onR {σ : L2.St} {H : Hp} {E E' : XK} {Q : VK} {m : Str} {sp : Sp} {tr : TA} (hm : ∀ x y : V, ([("begun", x), ("lost", y)] : List (Str × V)).lookup m = none) (k : ∀ a dx H1, Same H H1 → H a = none → H1 a = some (.ins (He.ga K "Reader") dx [("begun", .str ""), ("lost", .int 0)]) → tr σ H1 fun vs H2 => sp (.ref a :: (vs ++ [])) H2 Q E) :
    tMeth (He.ga K "Reader") m sp [] E (tMake (He.ga K "Reader") (spInitR K) [] E' tNil) tr σ H Q :=
  te_Reader fun a H1 s1 h1 ⟨dx, ho⟩ => ⟨a, dx, _, rfl, ho, hm _ _, k a dx H1 s1 h1 ho⟩
end
end Sc

namespace Sc
open PySem PySem.Spec PyProof.Rows L2
/-! the reader's object -/
abbrev rdO (B : Beg) (k : Int) : MO := .ins "Reader" [("begun", .str B.s), ("lost", .int k)]
open Classical in
noncomputable def rdOf (o : MO) : Option (Beg × Int) := if q : ∃ p : Beg × Int, p.1.ok ∧ o = rdO p.1 p.2 then some q.choose else none
theorem rdOf_some {o : MO} {p : Beg × Int} (h : rdOf o = some p) : p.1.ok ∧ o = rdO p.1 p.2 := by
  unfold rdOf at h
  split at h
  · next q => cases h; exact q.choose_spec
  · cases h
theorem comma_inj {l m : List (List Nat)} (hl : l ≠ []) (hm : m ≠ []) (h1 : ∀ p ∈ l, 44 ∉ p) (h2 : ∀ p ∈ m, 44 ∉ p) (h : comma l = comma m) : l = m := by
  have a := split_comma hl h1
  have b := split_comma hm h2
  rw [h, b] at a
  have inj : ∀ x y : List Nat, mkS x = mkS y → x = y := fun x y z => mkS_inj z
  exact ((List.map_inj_right inj).mp a).symm
theorem Beg.inj {B C : Beg} (hb : B.ok) (hc : C.ok) (h : B.s = C.s) : B = C := by
  replace h : B.cs = C.cs := mkS_inj h
  cases B with
  | no => cases C <;> first | rfl | (simp [Beg.cs] at h)
  | hat => cases C <;> first | rfl | (simp [Beg.cs] at h)
  | great l => cases C with
    | great m => simp [Beg.cs] at h; rw [h]
    | _ => simp [Beg.cs] at h
  | args l ps last => cases C with
    | args m qs last' =>
      simp only [Beg.cs, List.cons.injEq, true_and] at h
      obtain ⟨rfl, h⟩ := h
      have e := comma_inj (by simp) (by simp) (pieces_no hb) (pieces_no hc) h
      have e1 := List.append_inj_left' e rfl
      have e2 := List.append_inj_right' e rfl
      rw [e1, List.singleton_inj.mp e2]
    | _ => simp [Beg.cs] at h
theorem rdOf_rdO {B : Beg} {k : Int} (h : B.ok) : rdOf (rdO B k) = some (B, k) := by
  have q : ∃ p : Beg × Int, p.1.ok ∧ rdO B k = rdO p.1 p.2 := ⟨(B, k), h, rfl⟩
  have key : ∀ p : Beg × Int, p.1.ok ∧ rdO B k = rdO p.1 p.2 → p = (B, k) := fun p ⟨h1, h2⟩ => by
    have h2 : MO.ins "Reader" [("begun", D.str B.s), ("lost", .int k)] = MO.ins "Reader" [("begun", D.str p.1.s), ("lost", .int p.2)] := h2
    simp only [MO.ins.injEq, List.cons.injEq, Prod.mk.injEq, D.str.injEq, D.int.injEq, true_and, and_true] at h2
    exact Prod.ext (Beg.inj h h1 h2.1).symm h2.2.symm
  unfold rdOf
  rw [dif_pos q]
  exact congrArg some (key _ q.choose_spec)
noncomputable def feedM (o d : D) : M D := fun h => match o with
  | .ref n => match (h[n]?).bind rdOf with
    | some (B, k) => match py2 d with
      | some (.str x) => if isText (.str x) = true then some (.ok (.list (ofPyL (B.feed k x.cps.toList).2.2)), h.set n (rdO (B.feed k x.cps.toList).1 (B.feed k x.cps.toList).2.1)) else if x.length ≤ sizeLine then some (.error "BadText", h) else .none
      | some _ => some (.error "BadText", h)
      | .none => .none
    | .none => .none
  | _ => .none
section
variable {P : Program} {w : World} {K : PySem.W.Frag} {mg : Str → Option Value} {base : Heap} {Ts : List (Addr × Str)}
theorem gd_PLAIN (T : GT K mg) : ∀ s, Dr K s plainD (.ref (He.ga K "PLAIN")) := fun s => ⟨_, _, rfl, T.u_PLAIN s.H, _, _, rfl, rfl, _, _, rfl, rfl, _, _, rfl, rfl, rfl⟩
theorem gd_BLANK (T : GT K mg) : ∀ s, Dr K s blankD (.ref (He.ga K "BLANK")) := fun s => ⟨_, _, rfl, T.u_BLANK s.H, _, _, rfl, rfl, _, _, rfl, gd_PLAIN T s, rfl⟩
theorem sm_Reader {E : XK} : SE K Ts E (tMake (He.ga K "Reader") (spInitR K) [] E tNil) (fun _ => newO (rdO .no 0)) := fun s e σ r h' rl er eq Q po => by
  cases eq
  intro x dx h1 h2 hne
  refine ⟨x, dx, rfl, upd_same, fun H' m rd => ⟨rfl, ?_⟩⟩
  obtain ⟨ev1, rl1⟩ := st_new rl h2 (.own x)
  have hx1 : upd s.H dx (.own x) x = none := by rw [upd_ne (Ne.symm hne)]; exact h1
  obtain ⟨ev2, rl2⟩ := st_alloc (o := .ins "Reader" []) (u := .ins (He.ga K "Reader") dx []) rl1 hx1 ⟨dx, [], rfl, rfl⟩ fun z => by cases z
  obtain ⟨dx2, hr⟩ := rd
  have hn : (s.h ++ [MO.ins "Reader" []])[s.h.length]? = some (.ins "Reader" []) := by rw [List.getElem?_append_right (Nat.le_refl _), Nat.sub_self]; rfl
  have ha : (s.as ++ [x])[s.h.length]? = some x := by rw [← rl.len, List.getElem?_append_right (Nat.le_refl _), Nat.sub_self]; rfl
  obtain ⟨ev3, rl3⟩ := st_mo (o' := rdO .no 0) rl2 hn (fun z => by cases z) ha m hr ⟨dx2, _, rfl, _, _, rfl, rfl, _, _, rfl, rfl, rfl⟩
  have eh : (s.h ++ [MO.ins "Reader" []]).set s.h.length (rdO .no 0) = s.h ++ [rdO .no 0] := by
    rw [List.set_append_right _ _ (Nat.le_refl _), Nat.sub_self]
    rfl
  exact po ⟨s.X, s.as ++ [x], (s.h ++ [MO.ins "Reader" []]).set s.h.length (rdO .no 0), H'⟩ (.ref x) eh ((ev1.trans ev2).trans ev3) rl3 ⟨x, rfl, ha⟩
theorem sm_feed {E : XK} {ta tb : TE} {φa φb : En → M D} (ha : SE K Ts E ta φa) (hb : SE K Ts E tb φb) : SE K Ts E (tMeth (He.ga K "Reader") "feed" (spFeed K) [] E ta (tCons tb tNil)) (fun e => bnd (φa e) fun o => bnd (isI "Reader" "feed" o) fun _ => bnd (φb e) fun d => feedM o d) := fun s e σ r h' rl er eq Q po =>
  ha.thn rl er eq po fun t o x ev rlt ert hx eq2 po2 => by
    cases o with
    | ref n =>
      rcases bnd_some eq2 with ⟨_, h3, e1, e2⟩ | ⟨c, e1, _⟩
      · unfold isI at e1
        simp only at e1
        obtain ⟨_, f1, _, rfl⟩ := rd_some e1
        split at f1
        · next c fs ho =>
          split at f1
          · next hc =>
            obtain ⟨rfl, hg⟩ := hc
            obtain ⟨a, rfl, h2⟩ := hx
            obtain ⟨u, h3, dx, vs, rfl, h4⟩ := rlt.ob n _ a ho h2
            refine ⟨a, dx, vs, rfl, h3, h4.none (Option.isNone_iff_eq_none.mp hg), hb.thn rlt ert e2 po2 fun u d y ev2 rlu eru hd eq3 po3 => ?_⟩
            have h2 := ev2.toLt.get h2
            unfold feedM at eq3
            simp only at eq3
            split at eq3
            · next B k hq =>
              obtain ⟨o', q1, q2⟩ := Option.bind_eq_some_iff.mp hq
              obtain ⟨qo, rfl⟩ := rdOf_some q2
              obtain ⟨w, h5, dx5, vs5, rfl, y1, r1, rfl, g1, y2, r2, rfl, g2, rfl⟩ := rlu.ob n _ a q1 h2
              have g1 : y1 = .str B.s := g1
              have g2 : y2 = .int k := g2
              subst g1 g2
              have fm := live_fd rlu
              have haF : a ∈ liveA u := by
                by_cases hm : a ∈ liveA u
                · exact hm
                · have := (live_fz hm).2 n h2
                  rw [q1] at this
                  cases this
              show spFeed K [.ref a, y] u.H Q E
              split at eq3
              · next z hz =>
                have hd2 := dr_da rlu hd hz
                by_cases ht : isText (.str z) = true
                · rw [if_pos ht] at eq3
                  cases eq3
                  refine ⟨liveA u, a, .str z, y, B, k, rfl, fm, haF, ⟨dx5, h5⟩, qo, hd2, ?_, fun x' ex _ v H' mo rd gd => ?_, fun hf => by rw [ht] at hf; cases hf⟩
                  · have ht : (decide (z.length ≤ 4000) && z.cps.toList.all isSign) = true := ht
                    have := of_decide_eq_true (Bool.and_eq_true_iff.mp ht).1
                    exact le_sz' (by omega)
                  · cases ex
                    obtain ⟨dx6, h6⟩ := rd
                    obtain ⟨ev3, rl3⟩ := st_mo (o' := rdO (B.feed k z.cps.toList).1 (B.feed k z.cps.toList).2.1) rlu q1 (fun z => by cases z) h2 mo h6 ⟨dx6, _, rfl, _, _, rfl, rfl, _, _, rfl, rfl, rfl⟩
                    refine po3 ⟨u.X, u.as, u.h.set n _, H'⟩ v rfl ev3 rl3 ?_
                    refine da_dr (s := u) (t := ⟨u.X, u.as, u.h.set n _, H'⟩) rfl rfl (fun b fb => ⟨fb.1, fun m hm => ?_⟩) gd
                    have : m ≠ n := fun z => by
                      have e1 := fb.2 m hm
                      rw [z, q1] at e1
                      cases e1
                    show (u.h.set n _)[m]? = _
                    rw [List.getElem?_set_ne (Ne.symm this)]
                    exact fb.2 m hm
                · rw [if_neg ht] at eq3
                  split at eq3
                  · next hl =>
                    cases eq3
                    refine ⟨liveA u, a, .str z, y, B, k, rfl, fm, haF, ⟨dx5, h5⟩, qo, hd2, hl, fun x' ex ht' => absurd ht' ht, fun hf H' sm => ?_⟩
                    obtain ⟨ev3, rl3⟩ := st_same rlu sm
                    exact po3 { u with H := H' } rfl ev3 rl3
                  · cases eq3
              · next p hp hz =>
                cases eq3
                have hd2 := dr_da rlu hd hz
                have hs : ∀ x, p ≠ .str x := fun x e => hp x e
                refine ⟨liveA u, a, p, y, B, k, rfl, fm, haF, ⟨dx5, h5⟩, qo, hd2, ?_, fun x' ex => absurd ex (hs x'), fun hf H' sm => ?_⟩
                · cases p with
                  | str x => exact absurd rfl (hs x)
                  | _ => trivial
                · obtain ⟨ev3, rl3⟩ := st_same rlu sm
                  exact po3 { u with H := H' } rfl ev3 rl3
              · cases eq3
            · cases eq3
          · cases f1
        · cases f1
      · unfold isI at e1
        simp only at e1
        obtain ⟨_, _, z, _⟩ := rd_some e1
        cases z
    | _ => simp [isI, opt, bnd] at eq2
end
end Sc

namespace Sc
open PySem PySem.Spec PyProof.Rows L2
/-! ### rows, screens -/
structure RowI where
  id : Nat
  cid : Nat
  cells : List Cl
  on : Bool
def RowI.r (r : RowI) : D := .ref r.id
structure ScI where
  rid : Nat
  beg : Beg
  lost : Int
  wide : Int
  high : Int
  most : Int
  past : List RowI
  rows : List RowI
  row : Int
  col : Int
  full : Bool
  pen : Pn
  top : Int
  bottom : Int
  byr : Int
  byc : Int
  byp : Pn
  last : Option Nat
def lastD : Option Nat → D
  | some c => .str ⟨#[c]⟩
  | none => .none
def ScI.fs (s : ScI) : List (Str × D) := [("reader", .ref s.rid), ("wide", .int s.wide), ("high", .int s.high), ("most", .int s.most), ("past", .list (s.past.map RowI.r)), ("rows", .list (s.rows.map RowI.r)), ("row", .int s.row), ("column", .int s.col), ("is_full", .bool s.full), ("pen", s.pen.d), ("top", .int s.top), ("bottom", .int s.bottom), ("put_by", .tuple [.int s.byr, .int s.byc, s.byp.d]), ("last", lastD s.last)]
theorem sg_scr_reader (s : ScI) : getF ("reader" : Str) s.fs = some (.ref s.rid) := rfl
theorem sg_scr_wide (s : ScI) : getF ("wide" : Str) s.fs = some (.int s.wide) := rfl
theorem sg_scr_high (s : ScI) : getF ("high" : Str) s.fs = some (.int s.high) := rfl
theorem sg_scr_most (s : ScI) : getF ("most" : Str) s.fs = some (.int s.most) := rfl
theorem sg_scr_past (s : ScI) : getF ("past" : Str) s.fs = some (.list (s.past.map RowI.r)) := rfl
theorem sg_scr_rows (s : ScI) : getF ("rows" : Str) s.fs = some (.list (s.rows.map RowI.r)) := rfl
theorem sg_scr_row (s : ScI) : getF ("row" : Str) s.fs = some (.int s.row) := rfl
theorem sg_scr_column (s : ScI) : getF ("column" : Str) s.fs = some (.int s.col) := rfl
theorem sg_scr_is_full (s : ScI) : getF ("is_full" : Str) s.fs = some (.bool s.full) := rfl
theorem sg_scr_pen (s : ScI) : getF ("pen" : Str) s.fs = some (s.pen.d) := rfl
theorem sg_scr_top (s : ScI) : getF ("top" : Str) s.fs = some (.int s.top) := rfl
theorem sg_scr_bottom (s : ScI) : getF ("bottom" : Str) s.fs = some (.int s.bottom) := rfl
theorem sg_scr_put_by (s : ScI) : getF ("put_by" : Str) s.fs = some (.tuple [.int s.byr, .int s.byc, s.byp.d]) := rfl
theorem sg_scr_last (s : ScI) : getF ("last" : Str) s.fs = some (lastD s.last) := rfl
theorem ss_scr_wide (s : ScI) (v : Int) : setF "wide" (.int v) s.fs = ScI.fs { s with wide := v } := rfl
theorem ss_scr_high (s : ScI) (v : Int) : setF "high" (.int v) s.fs = ScI.fs { s with high := v } := rfl
theorem ss_scr_row (s : ScI) (v : Int) : setF "row" (.int v) s.fs = ScI.fs { s with row := v } := rfl
theorem ss_scr_column (s : ScI) (v : Int) : setF "column" (.int v) s.fs = ScI.fs { s with col := v } := rfl
theorem ss_scr_is_full (s : ScI) (v : Bool) : setF "is_full" (.bool v) s.fs = ScI.fs { s with full := v } := rfl
theorem ss_scr_pen (s : ScI) (v : Pn) : setF "pen" (v.d) s.fs = ScI.fs { s with pen := v } := rfl
theorem ss_scr_top (s : ScI) (v : Int) : setF "top" (.int v) s.fs = ScI.fs { s with top := v } := rfl
theorem ss_scr_bottom (s : ScI) (v : Int) : setF "bottom" (.int v) s.fs = ScI.fs { s with bottom := v } := rfl
theorem ss_scr_past (s : ScI) (v : List RowI) : setF "past" (.list (v.map RowI.r)) s.fs = ScI.fs { s with past := v } := rfl
theorem ss_scr_rows (s : ScI) (v : List RowI) : setF "rows" (.list (v.map RowI.r)) s.fs = ScI.fs { s with rows := v } := rfl
theorem ss_scr_put_by (s : ScI) (a b : Int) (p : Pn) : setF "put_by" (.tuple [.int a, .int b, p.d]) s.fs = ScI.fs { s with byr := a, byc := b, byp := p } := rfl
theorem ss_scr_last (s : ScI) (v : Option Nat) : setF "last" (lastD v) s.fs = ScI.fs { s with last := v } := rfl
theorem sn_size (s : ScI) : (getF ("size" : Str) s.fs).isNone = true := rfl
theorem sn_page (s : ScI) : (getF ("page" : Str) s.fs).isNone = true := rfl
theorem sn_texts (s : ScI) : (getF ("texts" : Str) s.fs).isNone = true := rfl
theorem sn_kept (s : ScI) : (getF ("kept" : Str) s.fs).isNone = true := rfl
theorem sn_cursor (s : ScI) : (getF ("cursor" : Str) s.fs).isNone = true := rfl
theorem sn_state (s : ScI) : (getF ("state" : Str) s.fs).isNone = true := rfl
theorem sn_cell (s : ScI) : (getF ("cell" : Str) s.fs).isNone = true := rfl
theorem sn_feed (s : ScI) : (getF ("feed" : Str) s.fs).isNone = true := rfl
theorem sn_do (s : ScI) : (getF ("do" : Str) s.fs).isNone = true := rfl
theorem sn_stand (s : ScI) : (getF ("stand" : Str) s.fs).isNone = true := rfl
theorem sn_put (s : ScI) : (getF ("put" : Str) s.fs).isNone = true := rfl
theorem sn_roll (s : ScI) : (getF ("roll" : Str) s.fs).isNone = true := rfl
theorem sn_roll_down (s : ScI) : (getF ("roll_down" : Str) s.fs).isNone = true := rfl
theorem sn_cut_off (s : ScI) : (getF ("cut_off" : Str) s.fs).isNone = true := rfl
theorem sn_down (s : ScI) : (getF ("down" : Str) s.fs).isNone = true := rfl
theorem sn_up (s : ScI) : (getF ("up" : Str) s.fs).isNone = true := rfl
theorem sn_small (s : ScI) : (getF ("small" : Str) s.fs).isNone = true := rfl
theorem sn_erase (s : ScI) : (getF ("erase" : Str) s.fs).isNone = true := rfl
theorem sn_great (s : ScI) : (getF ("great" : Str) s.fs).isNone = true := rfl
theorem sn_one (s : ScI) : (getF ("one" : Str) s.fs).isNone = true := rfl
theorem sn_take_rows (s : ScI) : (getF ("take_rows" : Str) s.fs).isNone = true := rfl
theorem sn_shift (s : ScI) : (getF ("shift" : Str) s.fs).isNone = true := rfl
theorem sn_begin (s : ScI) : (getF ("begin" : Str) s.fs).isNone = true := rfl
theorem rdn_feed (a b : D) : (getF ("feed" : Str) [("begun", a), ("lost", b)]).isNone = true := rfl
theorem scr_len (s : ScI) : s.fs.length = 14 := rfl
abbrev scO (s : ScI) : MO := .ins "Screen" s.fs
abbrev rowO (cid : Nat) (on : Bool) : MO := .ins "Row" [("cells", .ref cid), ("goes_on", .bool on)]
abbrev clsO (cs : List Cl) : MO := .lst (cs.map Cl.d)
def Q_need_size (F : List D → M D) : Prop := ∀ h b, F [.bool b] h = some (if b = true then .ok .none else .error "BadSize", h)
theorem sc_need_size : FnScope ["good"] ["good"] (defScope s_need_size) := ⟨rfl, rfl, rfl, by decide +kernel, rfl, by decide +kernel, by decide +kernel⟩
theorem ex_need_size : ∃ F : List D → M D, (∀ {P : Program} {w : World} {K : PySem.W.Frag} {mg : Str → Option Value} {base : Heap} {Ts : List (Addr × Str)} (T : GT K mg), Cal P w K mg base (XC P w) 1 "need_size" ["good"] (spM K Ts 1 F)) ∧ Q_need_size F := by
  refine ⟨_, fun {P w K mg base Ts} T => cal_R T.f_need_size T.g_need_size sc_need_size (fun _ _ _ _ _ _ us hl => match us, hl with | [_], _ => rfl)
    (fun f cdv A' outer s H E hr => ⟨_, (pss_one (ps_if (pt_not (pt_val (pv 0))) (pss_one (L2N.ps_raise rfl (L2N.takes_of rfl rfl rfl rfl) (L2N.pmk_own PySem.F.excBase_ValueError T.x_BadSize.1 T.g_BadSize T.x_BadSize.2.1 (raises_own T.x_BadSize.2.2.1 T.x_BadSize.2.2.2) rfl))) pss_nil)),
    (ss_if (st_not (st_B (sm_var 0))) ss_raise ss_next)⟩) rfl, ?_⟩
  intro h b
  cases b <;> rfl
noncomputable def F_need_size : List D → M D := Classical.choose ex_need_size
theorem c_need_size {P : Program} {w : World} {K : PySem.W.Frag} {mg : Str → Option Value} {base : Heap} {Ts : List (Addr × Str)} (T : GT K mg) : Cal P w K mg base (XC P w) 1 "need_size" ["good"] (spM K Ts 1 F_need_size) := (Classical.choose_spec ex_need_size).1 T
theorem run_need_size : Q_need_size F_need_size := (Classical.choose_spec ex_need_size).2
def Q_Row___init__ (F : List D → M D) : Prop := ∀ (h : MH) (n c : Nat) (b : Bool), h[n]? = some (.ins "Row" []) → F [.ref n, .ref c, .bool b] h = some (.ok .none, h.set n (rowO c b))
theorem sc_Row___init__ : FnScope ["self", "cells", "goes_on"] ["self", "cells", "goes_on"] (defScope s_Row___init__) := ⟨rfl, rfl, rfl, by decide +kernel, rfl, by decide +kernel, by decide +kernel⟩
theorem ex_Row___init__ : ∃ F : List D → M D, (∀ {P : Program} {w : World} {K : PySem.W.Frag} {mg : Str → Option Value} {base : Heap} {Ts : List (Addr × Str)} (T : GT K mg), CalI P w K mg base (XC P w) 1 "Row" ["self", "cells", "goes_on"] (spM K Ts 3 F)) ∧ Q_Row___init__ F := by
  refine ⟨_, fun {P w K mg base Ts} T => calI_R T.f_Row___init__ sc_Row___init__ (fun _ _ _ _ _ _ us hl => match us, hl with | [_, _, _], _ => rfl)
    (fun f cdv A' outer s H E hr => ⟨_, (pss_cons (ks_fld K (pv 0) (pv 1))
      (pss_one (ks_fld K (pv 0) (pv 2)))),
    (ss_seq (ss_fld (C := "Row") ⟨T.c_Row, T.n_Row_cells⟩ (sm_var 0) (sm_var 1))
      (ss_fld (C := "Row") ⟨T.c_Row, T.n_Row_goes_on⟩ (sm_var 0) (sm_var 2)))⟩) rfl, ?_⟩
  intro h n c b hn
  have hs := set_self' hn
  walk_at "ev"
noncomputable def F_Row___init__ : List D → M D := Classical.choose ex_Row___init__
theorem ci_Row {P : Program} {w : World} {K : PySem.W.Frag} {mg : Str → Option Value} {base : Heap} {Ts : List (Addr × Str)} (T : GT K mg) : CalI P w K mg base (XC P w) 1 "Row" ["self", "cells", "goes_on"] (spM K Ts 3 F_Row___init__) := (Classical.choose_spec ex_Row___init__).1 T
theorem run_Row___init__ : Q_Row___init__ F_Row___init__ := (Classical.choose_spec ex_Row___init__).2
def Q_blank_row (F : List D → M D) : Prop := ∀ (h : MH) (w : Int), 0 ≤ w → w ≤ 1000 → F [.int w] h = some (.ok (.ref (h.length + 1)), h ++ [clsO (List.replicate w.toNat blank), rowO h.length false])
theorem sc_blank_row : FnScope ["wide"] ["wide"] (defScope s_blank_row) := ⟨rfl, rfl, rfl, by decide +kernel, rfl, by decide +kernel, by decide +kernel⟩
theorem ex_blank_row : ∃ F : List D → M D, (∀ {P : Program} {w : World} {K : PySem.W.Frag} {mg : Str → Option Value} {base : Heap} {Ts : List (Addr × Str)} (T : GT K mg), Cal P w K mg base (XC P w) 3 "blank_row" ["wide"] (spM K Ts 1 F)) ∧ Q_blank_row F := by
  refine ⟨_, fun {P w K mg base Ts} T => cal_R T.f_blank_row T.g_blank_row sc_blank_row (fun _ _ _ _ _ _ us hl => match us, hl with | [_], _ => rfl)
    (fun f cdv A' outer s H E hr => ⟨_, (pss_one (ps_ret (pe_mk K (ci_Row T) T.k_Row T.g_Row (hr.mono (by decide)) (passX rfl rfl rfl rfl) (pa_cons (pe_op (ktimes K) (pe_lst (pa_cons (pe_glob (v := .ref (He.ga K "BLANK")) (by rfl) T.g_BLANK rfl) pa_nil)) (pv 0)) (pa_cons pe_bl pa_nil))))),
    (ss_ret (sm_make (sa_cons (sm_th (sl_rep (sm_fr (sl_lst (sa_cons (sm_c (gd_BLANK T)) sa_nil))) (sm_var 0))) (sa_cons sm_bl sa_nil))))⟩) rfl, ?_⟩
  intro h w h0 h1
  have hr : (h ++ [MO.lst (List.replicate w.toNat blankD), MO.ins "Row" []])[h.length + 1]? = some (.ins "Row" []) := by
    rw [List.getElem?_append_right (by omega), Nat.add_sub_cancel_left]
    rfl
  have hw : w < 2 ^ 62 ∧ -2 ^ 62 < w ∧ 1 * w.toNat ≤ sizeLine := ⟨by omega, by omega, le_sz' (by omega)⟩
  have h1s : (1 : Nat) ≤ sizeLine := le_sz' (by omega)
  have rr := run_Row___init__ _ _ h.length false hr
  walk_at "ev"
  unfold clsO
  rw [List.map_replicate]
  rfl
noncomputable def F_blank_row : List D → M D := Classical.choose ex_blank_row
theorem c_blank_row {P : Program} {w : World} {K : PySem.W.Frag} {mg : Str → Option Value} {base : Heap} {Ts : List (Addr × Str)} (T : GT K mg) : Cal P w K mg base (XC P w) 3 "blank_row" ["wide"] (spM K Ts 1 F_blank_row) := (Classical.choose_spec ex_blank_row).1 T
theorem run_blank_row : Q_blank_row F_blank_row := (Classical.choose_spec ex_blank_row).2
end Sc

local macro_rules | `(tactic| walk_at "es") => `(tactic| simp only [*, Sc.sg_scr_reader, Sc.sg_scr_wide, Sc.sg_scr_high, Sc.sg_scr_most, Sc.sg_scr_past, Sc.sg_scr_rows, Sc.sg_scr_row, Sc.sg_scr_column, Sc.sg_scr_is_full, Sc.sg_scr_pen, Sc.sg_scr_top, Sc.sg_scr_bottom, Sc.sg_scr_put_by, Sc.sg_scr_last, Sc.ss_scr_wide, Sc.ss_scr_high, Sc.ss_scr_row, Sc.ss_scr_column, Sc.ss_scr_is_full, Sc.ss_scr_pen, Sc.ss_scr_top, Sc.ss_scr_bottom, Sc.ss_scr_past, Sc.ss_scr_rows, Sc.ss_scr_put_by, Sc.ss_scr_last, Sc.scr_len, Sc.sn_size, Sc.sn_page, Sc.sn_texts, Sc.sn_kept, Sc.sn_cursor, Sc.sn_state, Sc.sn_cell, Sc.sn_feed, Sc.sn_do, Sc.sn_stand, Sc.sn_put, Sc.sn_roll, Sc.sn_roll_down, Sc.sn_cut_off, Sc.sn_down, Sc.sn_up, Sc.sn_small, Sc.sn_erase, Sc.sn_great, Sc.sn_one, Sc.sn_take_rows, Sc.sn_shift, Sc.sn_begin, Sc.rdn_feed, Sc.run_ap, Sc.startD, Sc.bnd_ap, Sc.ret_ap, Sc.rd_ap, Sc.opt_some', Sc.opt_none', Sc.ifM_ap, Sc.raise_ap, Sc.var0, Sc.varS, Sc.fld_ap, Sc.put_ap, Sc.call_ap, Sc.go_nx, Sc.go_rt, Sc.go_bk, Sc.go_ct, Sc.lend_nx, Sc.lend_ct, Sc.lend_rt, Sc.lend_bk, Sc.end_nx, Sc.end_rt, Sc.isI_ap, Sc.newO_ap, Sc.okN_ap, Sc.asB_ap, Sc.asI_ap, Sc.set_at_ap, Sc.chg_ap, Sc.frz_ap, Sc.itL_list, Sc.itL_ref, Sc.sqL_list, Sc.sqL_ref, Sc.sq_list, Sc.sq_tuple, Sc.sq_str, Sc.sq_ref, Sc.tyK_str, Sc.tyK_list, Sc.tyK_ref, Sc.for_nil, Sc.for_cons, Sc.plus_ii, Sc.plus_ss, Sc.plus_tt, Sc.plus_ll, Sc.plus_rl, Sc.times_ii, Sc.times_li, Sc.i2_ap, Sc.deq_ii, Sc.deq_ss, Sc.deq_bb, Sc.isN, Sc.ixM_ap, Sc.ixQ_l, Sc.ixQ_t, Sc.ixQ_s, Sc.lenM_ap, Sc.lenQ_l, Sc.lenQ_t, Sc.lenQ_s, Sc.slQ_l, Sc.slQ_t, Sc.slQ_s, Sc.memM_t, Sc.memM_s, Sc.sclD_s, Sc.sclD_i, Sc.sclD_n, Sc.sclD_b, Sc.sclL_nil, Sc.sclL_cons, Sc.one_len, Sc.one_get, Sc.keyD_s, Sc.keyD_i, Sc.keysD_nil, Sc.keysD_cons, Sc.at0, Sc.at1, Sc.at2, Sc.cutL_map, List.length_map, ← List.map_append, Sc.rangeL_len, List.map_cons, List.map_nil, List.length_cons, List.length_nil, List.replicate, Nat.reduceAdd, Nat.reduceSub, Nat.sub_self, List.append_nil, List.cons_append, List.nil_append, List.set_cons_zero, List.set_cons_succ, true_and, and_true, if_true, if_false, Option.bind_some, Option.map_some, Bool.true_eq_false, Bool.false_eq_true, Bool.not_true, Bool.not_false, decide_true, decide_false, Nat.reduceLT, Nat.reduceLeDiff, Nat.reduceEqDiff, Int.reduceAdd, Int.reduceSub, Int.reduceLT, Int.reduceLE, Int.reduceNeg, List.set_set, List.append_assoc, List.length_append, Sc.rep_one, Sc.wipeE, Sc.s2, Sc.joinM, Sc.RowI.r, Sc.set_last2, Sc.set_last1, Sc.get_last1, Sc.get_last2, Sc.setF_nil, Sc.rowS_cells, Sc.rowS_on, Sc.rowS_new, Sc.rowG_cells, Sc.rowG_on])

local macro_rules | `(tactic| walk_at "et") => `(tactic| simp only [*, Sc.sg_scr_reader, Sc.sg_scr_wide, Sc.sg_scr_high, Sc.sg_scr_most, Sc.sg_scr_past, Sc.sg_scr_rows, Sc.sg_scr_row, Sc.sg_scr_column, Sc.sg_scr_is_full, Sc.sg_scr_pen, Sc.sg_scr_top, Sc.sg_scr_bottom, Sc.sg_scr_put_by, Sc.sg_scr_last, Sc.ss_scr_wide, Sc.ss_scr_high, Sc.ss_scr_row, Sc.ss_scr_column, Sc.ss_scr_is_full, Sc.ss_scr_pen, Sc.ss_scr_top, Sc.ss_scr_bottom, Sc.ss_scr_past, Sc.ss_scr_rows, Sc.ss_scr_put_by, Sc.ss_scr_last, Sc.scr_len, Sc.sn_size, Sc.sn_page, Sc.sn_texts, Sc.sn_kept, Sc.sn_cursor, Sc.sn_state, Sc.sn_cell, Sc.sn_feed, Sc.sn_do, Sc.sn_stand, Sc.sn_put, Sc.sn_roll, Sc.sn_roll_down, Sc.sn_cut_off, Sc.sn_down, Sc.sn_up, Sc.sn_small, Sc.sn_erase, Sc.sn_great, Sc.sn_one, Sc.sn_take_rows, Sc.sn_shift, Sc.sn_begin, Sc.rdn_feed, Sc.run_ap, Sc.startD, Sc.bnd_ap, Sc.ret_ap, Sc.rd_ap, Sc.opt_some', Sc.opt_none', Sc.ifM_ap, Sc.raise_ap, Sc.var0, Sc.varS, Sc.fld_ap, Sc.put_ap, Sc.call_ap, Sc.go_nx, Sc.go_rt, Sc.go_bk, Sc.go_ct, Sc.lend_nx, Sc.lend_ct, Sc.lend_rt, Sc.lend_bk, Sc.end_nx, Sc.end_rt, Sc.isI_ap, Sc.newO_ap, Sc.okN_ap, Sc.asB_ap, Sc.asI_ap, Sc.set_at_ap, Sc.chg_ap, Sc.frz_ap, Sc.itL_list, Sc.itL_ref, Sc.sqL_list, Sc.sqL_ref, Sc.sq_list, Sc.sq_tuple, Sc.sq_str, Sc.sq_ref, Sc.tyK_str, Sc.tyK_list, Sc.tyK_ref, Sc.plus_ii, Sc.plus_ss, Sc.plus_tt, Sc.plus_ll, Sc.plus_rl, Sc.times_ii, Sc.times_li, Sc.i2_ap, Sc.deq_ii, Sc.deq_ss, Sc.deq_bb, Sc.isN, Sc.ixM_ap, Sc.ixQ_l, Sc.ixQ_t, Sc.ixQ_s, Sc.lenM_ap, Sc.lenQ_l, Sc.lenQ_t, Sc.lenQ_s, Sc.slQ_l, Sc.slQ_t, Sc.slQ_s, Sc.memM_t, Sc.memM_s, Sc.sclD_s, Sc.sclD_i, Sc.sclD_n, Sc.sclD_b, Sc.sclL_nil, Sc.sclL_cons, Sc.one_len, Sc.one_get, Sc.keyD_s, Sc.keyD_i, Sc.keysD_nil, Sc.keysD_cons, Sc.at0, Sc.at1, Sc.at2, Sc.cutL_map, List.length_map, ← List.map_append, Sc.rangeL_len, List.map_cons, List.map_nil, List.length_cons, List.length_nil, List.replicate, Nat.reduceAdd, Nat.reduceSub, Nat.sub_self, List.append_nil, List.cons_append, List.nil_append, List.set_cons_zero, List.set_cons_succ, true_and, and_true, if_true, if_false, Option.bind_some, Option.map_some, Bool.true_eq_false, Bool.false_eq_true, Bool.not_true, Bool.not_false, decide_true, decide_false, Nat.reduceLT, Nat.reduceLeDiff, Nat.reduceEqDiff, Int.reduceAdd, Int.reduceSub, Int.reduceLT, Int.reduceLE, Int.reduceNeg, List.set_set, List.append_assoc, List.length_append, Sc.rep_one, Sc.wipeE, Sc.s2, Sc.joinM, Sc.RowI.r, Sc.set_last2, Sc.set_last1, Sc.get_last1, Sc.get_last2, Sc.setF_nil, Sc.rowS_cells, Sc.rowS_on, Sc.rowS_new, Sc.rowG_cells, Sc.rowG_on])

namespace Sc
open PySem PySem.Spec PyProof.Rows L2
def Q_Screen_stand (F : List D → M D) : Prop := ∀ (h : MH) (n : Nat) (S : ScI) (r c : Int), h[n]? = some (scO S) → F [.ref n, .int r, .int c] h = some (.ok .none, h.set n (scO { S with row := max 0 (min (S.high - 1) r), col := max 0 (min (S.wide - 1) c), full := false }))
theorem sc_Screen_stand : FnScope ["self", "row", "column"] ["self", "row", "column"] (defScope s_Screen_stand) := ⟨rfl, rfl, rfl, by decide +kernel, rfl, by decide +kernel, by decide +kernel⟩
theorem ex_Screen_stand : ∃ F : List D → M D, (∀ {P : Program} {w : World} {K : PySem.W.Frag} {mg : Str → Option Value} {base : Heap} {Ts : List (Addr × Str)} (T : GT K mg), CalM P w K mg base (XC P w) 1 "Screen" "stand" ["self", "row", "column"] (spM K Ts 3 F)) ∧ Q_Screen_stand F := by
  refine ⟨_, fun {P w K mg base Ts} T => calM_R T.f_Screen_stand T.c_Screen T.m_Screen_stand sc_Screen_stand (fun _ _ _ _ _ _ us hl => match us, hl with | [_, _, _], _ => rfl)
    (fun f cdv A' outer s H E hr => ⟨_, (pss_cons (ks_fld K (pv 0) (pe_callB (call_max2 rfl) (by rfl) T.z_max (by decide +kernel) (pa_cons pe_int (pa_cons (pe_callB (call_min2 rfl) (by rfl) T.z_min (by decide +kernel) (pa_cons (pe_op op_sub (kfld K (pv 0)) pe_int) (pa_cons (pv 1) pa_nil))) pa_nil))))
      (pss_cons (ks_fld K (pv 0) (pe_callB (call_max2 rfl) (by rfl) T.z_max (by decide +kernel) (pa_cons pe_int (pa_cons (pe_callB (call_min2 rfl) (by rfl) T.z_min (by decide +kernel) (pa_cons (pe_op op_sub (kfld K (pv 0)) pe_int) (pa_cons (pv 2) pa_nil))) pa_nil))))
      (pss_one (ks_fld K (pv 0) pe_bl)))),
    (ss_seq (ss_fld (C := "Screen") ⟨T.c_Screen, T.n_Screen_row⟩ (sm_var 0) (sm_cb kc_max (sa_cons sm_int (sa_cons (sm_cb kc_min (sa_cons (sm_op kr_sub (sm_fld (C := "Screen") ⟨T.c_Screen, T.n_Screen_high⟩ (sm_var 0)) sm_int) (sa_cons (sm_var 1) sa_nil))) sa_nil))))
      (ss_seq (ss_fld (C := "Screen") ⟨T.c_Screen, T.n_Screen_column⟩ (sm_var 0) (sm_cb kc_max (sa_cons sm_int (sa_cons (sm_cb kc_min (sa_cons (sm_op kr_sub (sm_fld (C := "Screen") ⟨T.c_Screen, T.n_Screen_wide⟩ (sm_var 0)) sm_int) (sa_cons (sm_var 2) sa_nil))) sa_nil))))
      (ss_fld (C := "Screen") ⟨T.c_Screen, T.n_Screen_is_full⟩ (sm_var 0) sm_bl)))⟩) rfl, ?_⟩
  intro h n S r c ho
  have hs := set_self' ho
  walk_at "es"
noncomputable def F_Screen_stand : List D → M D := Classical.choose ex_Screen_stand
theorem cm_Screen_stand {P : Program} {w : World} {K : PySem.W.Frag} {mg : Str → Option Value} {base : Heap} {Ts : List (Addr × Str)} (T : GT K mg) : CalM P w K mg base (XC P w) 1 "Screen" "stand" ["self", "row", "column"] (spM K Ts 3 F_Screen_stand) := (Classical.choose_spec ex_Screen_stand).1 T
theorem run_Screen_stand : Q_Screen_stand F_Screen_stand := (Classical.choose_spec ex_Screen_stand).2
def Q_Screen_size (F : List D → M D) : Prop := ∀ (h : MH) (n : Nat) (S : ScI), h[n]? = some (scO S) → F [.ref n] h = some (.ok (.tuple [.int S.wide, .int S.high]), h)
theorem sc_Screen_size : FnScope ["self"] ["self"] (defScope s_Screen_size) := ⟨rfl, rfl, rfl, by decide +kernel, rfl, by decide +kernel, by decide +kernel⟩
theorem ex_Screen_size : ∃ F : List D → M D, (∀ {P : Program} {w : World} {K : PySem.W.Frag} {mg : Str → Option Value} {base : Heap} {Ts : List (Addr × Str)} (T : GT K mg), CalM P w K mg base (XC P w) 1 "Screen" "size" ["self"] (spM K Ts 1 F)) ∧ Q_Screen_size F := by
  refine ⟨_, fun {P w K mg base Ts} T => calM_R T.f_Screen_size T.c_Screen T.m_Screen_size sc_Screen_size (fun _ _ _ _ _ _ us hl => match us, hl with | [_], _ => rfl)
    (fun f cdv A' outer s H E hr => ⟨_, (pss_one (ps_ret (pe_tup (pa_cons (kfld K (pv 0)) (pa_cons (kfld K (pv 0)) pa_nil))))),
    (ss_ret (sm_tup (sa_cons (sm_fld (C := "Screen") ⟨T.c_Screen, T.n_Screen_wide⟩ (sm_var 0)) (sa_cons (sm_fld (C := "Screen") ⟨T.c_Screen, T.n_Screen_high⟩ (sm_var 0)) sa_nil))))⟩) rfl, ?_⟩
  intro h n S ho
  have z2 : 2 ≤ sizeLine := le_sz' (by omega)
  walk_at "es"
noncomputable def F_Screen_size : List D → M D := Classical.choose ex_Screen_size
theorem cm_Screen_size {P : Program} {w : World} {K : PySem.W.Frag} {mg : Str → Option Value} {base : Heap} {Ts : List (Addr × Str)} (T : GT K mg) : CalM P w K mg base (XC P w) 1 "Screen" "size" ["self"] (spM K Ts 1 F_Screen_size) := (Classical.choose_spec ex_Screen_size).1 T
theorem run_Screen_size : Q_Screen_size F_Screen_size := (Classical.choose_spec ex_Screen_size).2
def Q_Screen_cursor (F : List D → M D) : Prop := ∀ (h : MH) (n : Nat) (S : ScI), h[n]? = some (scO S) → F [.ref n] h = some (.ok (.tuple [.int S.row, .int S.col, .bool S.full]), h)
theorem sc_Screen_cursor : FnScope ["self"] ["self"] (defScope s_Screen_cursor) := ⟨rfl, rfl, rfl, by decide +kernel, rfl, by decide +kernel, by decide +kernel⟩
theorem ex_Screen_cursor : ∃ F : List D → M D, (∀ {P : Program} {w : World} {K : PySem.W.Frag} {mg : Str → Option Value} {base : Heap} {Ts : List (Addr × Str)} (T : GT K mg), CalM P w K mg base (XC P w) 1 "Screen" "cursor" ["self"] (spM K Ts 1 F)) ∧ Q_Screen_cursor F := by
  refine ⟨_, fun {P w K mg base Ts} T => calM_R T.f_Screen_cursor T.c_Screen T.m_Screen_cursor sc_Screen_cursor (fun _ _ _ _ _ _ us hl => match us, hl with | [_], _ => rfl)
    (fun f cdv A' outer s H E hr => ⟨_, (pss_one (ps_ret (pe_tup (pa_cons (kfld K (pv 0)) (pa_cons (kfld K (pv 0)) (pa_cons (kfld K (pv 0)) pa_nil)))))),
    (ss_ret (sm_tup (sa_cons (sm_fld (C := "Screen") ⟨T.c_Screen, T.n_Screen_row⟩ (sm_var 0)) (sa_cons (sm_fld (C := "Screen") ⟨T.c_Screen, T.n_Screen_column⟩ (sm_var 0)) (sa_cons (sm_fld (C := "Screen") ⟨T.c_Screen, T.n_Screen_is_full⟩ (sm_var 0)) sa_nil)))))⟩) rfl, ?_⟩
  intro h n S ho
  have z2 : 3 ≤ sizeLine := le_sz' (by omega)
  walk_at "es"
noncomputable def F_Screen_cursor : List D → M D := Classical.choose ex_Screen_cursor
theorem cm_Screen_cursor {P : Program} {w : World} {K : PySem.W.Frag} {mg : Str → Option Value} {base : Heap} {Ts : List (Addr × Str)} (T : GT K mg) : CalM P w K mg base (XC P w) 1 "Screen" "cursor" ["self"] (spM K Ts 1 F_Screen_cursor) := (Classical.choose_spec ex_Screen_cursor).1 T
theorem run_Screen_cursor : Q_Screen_cursor F_Screen_cursor := (Classical.choose_spec ex_Screen_cursor).2
end Sc

namespace Sc
open PySem PySem.Spec PyProof.Rows L2
/-! ### the screen without its objects -/
structure Rw where
  cells : List Cl
  on : Bool
  deriving DecidableEq
structure Sr where
  wide : Int
  high : Int
  most : Int
  past : List Rw
  rows : List Rw
  row : Int
  col : Int
  full : Bool
  pen : Pn
  top : Int
  bottom : Int
  byr : Int
  byc : Int
  byp : Pn
  last : Option Nat
  beg : Beg
  lost : Int
def RowI.v (r : RowI) : Rw := ⟨r.cells, r.on⟩
def ScI.v (s : ScI) : Sr := ⟨s.wide, s.high, s.most, s.past.map RowI.v, s.rows.map RowI.v, s.row, s.col, s.full, s.pen, s.top, s.bottom, s.byr, s.byc, s.byp, s.last, s.beg, s.lost⟩
structure ScAt (h : MH) (n : Nat) (S : ScI) : Prop where
  o : h[n]? = some (scO S)
  rd : h[S.rid]? = some (rdO S.beg S.lost)
  ok : S.beg.ok
  rows : ∀ r ∈ S.past ++ S.rows, h[r.id]? = some (rowO r.cid r.on) ∧ h[r.cid]? = some (clsO r.cells)
  ndi : ((S.past ++ S.rows).map RowI.id).Nodup
  ndc : ((S.past ++ S.rows).map RowI.cid).Nodup
def rids (l : List RowI) : List Nat := l.map RowI.id ++ l.map RowI.cid
def ids (n : Nat) (S : ScI) : List Nat := n :: S.rid :: rids (S.past ++ S.rows)
structure Fr (h : MH) (X : List Nat) (h' : MH) (X' : List Nat) : Prop where
  len : h.length ≤ h'.length
  off : ∀ m : Nat, m < h.length → m ∉ X → h'[m]? = h[m]?
  new : ∀ m ∈ X', m ∈ X ∨ h.length ≤ m
theorem Fr.refl (h : MH) (X : List Nat) : Fr h X h X := ⟨Nat.le_refl _, fun _ _ _ => rfl, fun _ z => .inl z⟩
theorem Fr.trans {h h' h'' : MH} {X X' X'' : List Nat} (a : Fr h X h' X') (b : Fr h' X' h'' X'') : Fr h X h'' X'' :=
  ⟨Nat.le_trans a.len b.len, fun m hm hx => (b.off m (Nat.lt_of_lt_of_le hm a.len) fun z => (a.new m z).elim hx fun z => by omega).trans (a.off m hm hx), fun m hm => (b.new m hm).elim (fun z => a.new m z) fun z => .inr (Nat.le_trans a.len z)⟩
theorem lt_of_get {h : MH} {n : Nat} {o : MO} (e : h[n]? = some o) : n < h.length := (List.getElem?_eq_some_iff.mp e).1
theorem get_app {h t : MH} {n : Nat} {o : MO} (e : h[n]? = some o) : (h ++ t)[n]? = some o := by
  rw [List.getElem?_append_left (lt_of_get e)]
  exact e
/-! ### new rows -/
def freshR (w : Nat) : Nat → Nat → List RowI
  | _, 0 => []
  | b, k + 1 => ⟨b + 1, b, List.replicate w blank, false⟩ :: freshR w (b + 2) k
def freshO (w : Nat) : Nat → Nat → List MO
  | _, 0 => []
  | b, k + 1 => clsO (List.replicate w blank) :: rowO b false :: freshO w (b + 2) k
theorem freshR_len (w : Nat) : ∀ b k : Nat, (freshR w b k).length = k
  | _, 0 => rfl
  | b, k + 1 => by rw [freshR, List.length_cons, freshR_len w (b + 2) k]
theorem freshO_len (w : Nat) : ∀ b k : Nat, (freshO w b k).length = 2 * k
  | _, 0 => rfl
  | b, k + 1 => by rw [freshO, List.length_cons, List.length_cons, freshO_len w (b + 2) k]; omega
theorem freshR_v (w : Nat) : ∀ b k : Nat, (freshR w b k).map RowI.v = List.replicate k ⟨List.replicate w blank, false⟩
  | _, 0 => rfl
  | b, k + 1 => by rw [freshR, List.map_cons, freshR_v w (b + 2) k]; rfl
theorem freshR_ids (w : Nat) : ∀ b k : Nat, ∀ r ∈ freshR w b k, b ≤ r.cid ∧ r.id = r.cid + 1 ∧ r.id < b + 2 * k
  | _, 0, r, hr => nomatch hr
  | b, k + 1, r, hr => by
    rcases List.mem_cons.mp hr with z | z
    · subst z
      exact ⟨Nat.le_refl _, rfl, by show b + 1 < _; omega⟩
    · have := freshR_ids w (b + 2) k r z
      omega
theorem freshR_nd (w : Nat) : ∀ b k : Nat, ((freshR w b k).map RowI.id).Nodup ∧ ((freshR w b k).map RowI.cid).Nodup
  | _, 0 => ⟨List.nodup_nil, List.nodup_nil⟩
  | b, k + 1 => by
    obtain ⟨h1, h2⟩ := freshR_nd w (b + 2) k
    rw [freshR, List.map_cons, List.map_cons]
    refine ⟨List.nodup_cons.mpr ⟨fun z => ?_, h1⟩, List.nodup_cons.mpr ⟨fun z => ?_, h2⟩⟩
    · obtain ⟨r, hr, e⟩ := List.mem_map.mp z
      have e : r.id = b + 1 := e
      have := freshR_ids w (b + 2) k r hr
      omega
    · obtain ⟨r, hr, e⟩ := List.mem_map.mp z
      have e : r.cid = b := e
      have := freshR_ids w (b + 2) k r hr
      omega
theorem freshR_at (w : Nat) : ∀ (k : Nat) (h : MH), ∀ r ∈ freshR w h.length k, (h ++ freshO w h.length k)[r.id]? = some (rowO r.cid r.on) ∧ (h ++ freshO w h.length k)[r.cid]? = some (clsO r.cells)
  | 0, h, r, hr => nomatch hr
  | k + 1, h, r, hr => by
    have e : h ++ freshO w h.length (k + 1) = (h ++ [clsO (List.replicate w blank), rowO h.length false]) ++ freshO w (h.length + 2) k := by rw [freshO, List.append_assoc]; rfl
    have el : (h ++ [clsO (List.replicate w blank), rowO h.length false]).length = h.length + 2 := by rw [List.length_append]; rfl
    rw [e]
    rcases List.mem_cons.mp hr with z | z
    · subst z
      refine ⟨get_app (get_last2 h _ _), get_app ?_⟩
      show (h ++ [clsO _, rowO _ false])[h.length]? = _
      rw [List.getElem?_append_right (Nat.le_refl _), Nat.sub_self]
      rfl
    · have := freshR_at w k (h ++ [clsO (List.replicate w blank), rowO h.length false]) r (by rw [el]; exact z)
      rw [el] at this
      exact this
theorem lc_fresh {w : Int} (h0 : 0 ≤ w) (h1 : w ≤ 1000) {all : List D} {e : En} {γ : D → En → M En} {φ : En → M D} {g : MH} (hb : ∀ x t, ∃ e2, γ x e (g ++ t) = some (.ok e2, g ++ t) ∧ φ e2 (g ++ t) = F_blank_row [.int w] (g ++ t)) :
    ∀ (xs : List D) (t : MH), lcM .none all e γ (fun _ => ret true) φ xs (g ++ t) = some (.ok ((freshR w.toNat (g ++ t).length xs.length).map RowI.r), (g ++ t) ++ freshO w.toNat (g ++ t).length xs.length)
  | [], t => by rw [List.length_nil]; show ret [] _ = _; rw [freshR, freshO, List.append_nil]; rfl
  | x :: xs, t => by
    obtain ⟨e2, g1, g2⟩ := hb x t
    rw [run_blank_row (g ++ t) w h0 h1] at g2
    have ih := lc_fresh h0 h1 (all := all) hb xs (t ++ [clsO (List.replicate w.toNat blank), rowO (g ++ t).length false])
    rw [← List.append_assoc] at ih
    have el : (g ++ t ++ [clsO (List.replicate w.toNat blank), rowO (g ++ t).length false]).length = (g ++ t).length + 2 := by rw [List.length_append]; rfl
    rw [el] at ih
    rw [lc_cons]
    simp only [bnd_ap, safe_ap, g1, g2, ret_ap, if_true, ih]
    rw [List.length_cons, freshR, freshO, List.map_cons, List.append_assoc]
    rfl
/-! ### a screen's objects, after a change -/
section
variable {h : MH} {n : Nat} {S : ScI}
theorem ScAt.ne_id (a : ScAt h n S) {r : RowI} (hr : r ∈ S.past ++ S.rows) : r.id ≠ n ∧ r.cid ≠ n ∧ r.id ≠ S.rid ∧ r.cid ≠ S.rid := by
  obtain ⟨h1, h2⟩ := a.rows r hr
  refine ⟨fun z => ?_, fun z => ?_, fun z => ?_, fun z => ?_⟩
  · rw [z, a.o] at h1; exact absurd h1 (by intro z; injection z with z; injection z with z1 _; exact absurd z1 (by decide))
  · rw [z, a.o] at h2; cases h2
  · rw [z, a.rd] at h1; exact absurd h1 (by intro z; injection z with z; injection z with z1 _; exact absurd z1 (by decide))
  · rw [z, a.rd] at h2; cases h2
theorem ScAt.ne_rd (a : ScAt h n S) : S.rid ≠ n := fun z => by
  have := a.rd
  rw [z, a.o] at this
  exact absurd this (by intro z; injection z with z; injection z with z1 _; exact absurd z1 (by decide))
/-- the fields that are no rows -/
theorem ScAt.set (a : ScAt h n S) (S' : ScI) (h1 : S'.rid = S.rid) (h2 : S'.beg = S.beg) (h3 : S'.lost = S.lost) (h4 : S'.past = S.past) (h5 : S'.rows = S.rows) : ScAt (h.set n (scO S')) n S' := by
  refine ⟨set_self' a.o _, ?_, by rw [h2]; exact a.ok, fun r hr => ?_, by rw [h4, h5]; exact a.ndi, by rw [h4, h5]; exact a.ndc⟩
  · rw [h1, h2, h3, set_ne' a.ne_rd]
    exact a.rd
  · rw [h4, h5] at hr
    have := a.ne_id hr
    rw [set_ne' this.1, set_ne' this.2.1]
    exact a.rows r hr
theorem fr_set (a : ScAt h n S) (S' : ScI) (h1 : S'.rid = S.rid) (h4 : S'.past = S.past) (h5 : S'.rows = S.rows) (o : MO) : Fr h (ids n S) (h.set n o) (ids n S') := by
  refine ⟨by rw [List.length_set]; exact Nat.le_refl _, fun m _ hm => ?_, fun m hm => ?_⟩
  · exact set_ne' (fun z => hm (by rw [z]; exact List.mem_cons_self)) _
  · unfold ids at hm ⊢
    rw [h1, h4, h5] at hm
    exact .inl hm
end
end Sc

namespace Sc
open PySem PySem.Spec PyProof.Rows L2
/-! ### what a screen shows -/
def Q_Screen_page (F : List D → M D) : Prop := ∀ (h : MH) (n : Nat) (S : ScI), ScAt h n S → S.rows.length ≤ 1000 → F [.ref n] h = some (.ok (.list (S.rows.map fun r => .list (r.cells.map Cl.d))), h)
theorem sc_Screen_page : FnScope ["self", "row"] ["self"] (defScope s_Screen_page) := ⟨rfl, rfl, rfl, by decide +kernel, rfl, by decide +kernel, by decide +kernel⟩
theorem ex_Screen_page : ∃ F : List D → M D, (∀ {P : Program} {w : World} {K : PySem.W.Frag} {mg : Str → Option Value} {base : Heap} {Ts : List (Addr × Str)} (T : GT K mg), CalM P w K mg base (XC P w) 1 "Screen" "page" ["self"] (spM K Ts 1 F)) ∧ Q_Screen_page F := by
  refine ⟨_, fun {P w K mg base Ts} T => calM_R T.f_Screen_page T.c_Screen T.m_Screen_page sc_Screen_page (fun _ _ _ _ _ _ us hl => match us, hl with | [_], _ => rfl)
    (fun f cdv A' outer s H E hr => ⟨_, (pss_one (ps_ret (pe_lc (own := [("row", 1)]) rfl sc_Screen_page.nd (ki_list K (kfld K (pv 0))) (blkOk_by (own := [("row", 1)]) (N := ["self", "row"]) (sc := defScope s_Screen_page) (by decide +kernel)) (fun _ _ _ _ _ => by exact (pG 1 sc_Screen_page.nd)) (fun _ _ _ _ _ => by exact pts_nil) (fun _ _ _ _ _ => by exact (pe_callTy (klist K) (by rfl) T.z_list (by decide +kernel) (pa_cons (kfld K (pv 1)) pa_nil)))))),
    (ss_ret (sm_fr (sl_lc (si_list (sm_fld (C := "Screen") ⟨T.c_Screen, T.n_Screen_rows⟩ (sm_var 0))) (go_name (by decide)) (sg_name 1) st_yes (sm_fr (sl_list (sm_fld (C := "Row") ⟨T.c_Row, T.n_Row_cells⟩ (sm_var 1)))))))⟩) rfl, ?_⟩
  intro h n S a hl
  have ho := a.o
  have hl2 : S.rows.length ≤ sizeLine := le_sz' (by omega)
  walk_at "es"
  rw [lc_pure RowI.r (fun r => .list (r.cells.map Cl.d)) ck_none S.rows (fun r hr => ?_)]
  · walk_at "es"
  · obtain ⟨h1, h2⟩ := a.rows r (List.mem_append_right _ hr)
    refine ⟨_, rfl, ?_⟩
    walk_at "es"
noncomputable def F_Screen_page : List D → M D := Classical.choose ex_Screen_page
theorem cm_Screen_page {P : Program} {w : World} {K : PySem.W.Frag} {mg : Str → Option Value} {base : Heap} {Ts : List (Addr × Str)} (T : GT K mg) : CalM P w K mg base (XC P w) 1 "Screen" "page" ["self"] (spM K Ts 1 F_Screen_page) := (Classical.choose_spec ex_Screen_page).1 T
theorem run_Screen_page : Q_Screen_page F_Screen_page := (Classical.choose_spec ex_Screen_page).2
def Q_Screen_texts (F : List D → M D) : Prop := ∀ (h : MH) (n : Nat) (S : ScI), ScAt h n S → S.rows.length ≤ 1000 → (∀ r ∈ S.rows, r.cells.length ≤ 1000) → F [.ref n] h = some (.ok (.list (S.rows.map fun r => .str (rowTx r.cells))), h)
theorem sc_Screen_texts : FnScope ["self", "row", "cell"] ["self"] (defScope s_Screen_texts) := ⟨rfl, rfl, rfl, by decide +kernel, rfl, by decide +kernel, by decide +kernel⟩
theorem ex_Screen_texts : ∃ F : List D → M D, (∀ {P : Program} {w : World} {K : PySem.W.Frag} {mg : Str → Option Value} {base : Heap} {Ts : List (Addr × Str)} (T : GT K mg), CalM P w K mg base (XC P w) 1 "Screen" "texts" ["self"] (spM K Ts 1 F)) ∧ Q_Screen_texts F := by
  refine ⟨_, fun {P w K mg base Ts} T => calM_R T.f_Screen_texts T.c_Screen T.m_Screen_texts sc_Screen_texts (fun _ _ _ _ _ _ us hl => match us, hl with | [_], _ => rfl)
    (fun f cdv A' outer s H E hr => ⟨_, (pss_one (ps_ret (pe_lc (own := [("row", 1)]) rfl sc_Screen_texts.nd (ki_list K (kfld K (pv 0))) (blkOk_by (own := [("row", 1)]) (N := ["self", "row", "cell"]) (sc := defScope s_Screen_texts) (by decide +kernel)) (fun _ _ _ _ _ => by exact (pG 1 sc_Screen_texts.nd)) (fun _ _ _ _ _ => by exact pts_nil) (fun _ _ _ _ _ => by exact (kbm K PySem.F.plainAttrs_str PySem.F.slot_str_rstrip PySem.F.type_str_rstrip mt_rstripChars (kbm K PySem.F.plainAttrs_str PySem.F.slot_str_join PySem.F.type_str_join (kjoin K) pe_str (pa_cons (pe_lc (own := [("cell", 2)]) rfl sc_Screen_texts.nd (ki_list K (kfld K (pv 1))) (blkOk_by (own := [("cell", 2)]) (N := ["self", "row", "cell"]) (by rfl)) (fun _ _ _ _ _ => by exact (pG 2 sc_Screen_texts.nd)) (fun _ _ _ _ _ => by exact pts_nil) (fun _ _ _ _ _ => by exact (pe_ix (kix K) (pv 2) pe_int (fun _ _ => rfl)))) pa_nil)) (pa_cons pe_str pa_nil)))))),
    (ss_ret (sm_fr (sl_lc (si_list (sm_fld (C := "Screen") ⟨T.c_Screen, T.n_Screen_rows⟩ (sm_var 0))) (go_name (by decide)) (sg_name 1) st_yes (sm_bm km_rstrip (sm_bm km_join sm_str (sa_cons (sm_fr (sl_lc (si_list (sm_fld (C := "Row") ⟨T.c_Row, T.n_Row_cells⟩ (sm_var 1))) (go_name (by decide)) (sg_name 2) st_yes (sm_op kr_ix (sm_var 2) sm_int))) sa_nil)) (sa_cons sm_str sa_nil)))))⟩) rfl, ?_⟩
  intro h n S a hl hc
  have ho := a.o
  have hl2 : S.rows.length ≤ sizeLine := le_sz' (by omega)
  walk_at "es"
  rw [lc_pure RowI.r (fun r => .str (rowTx r.cells)) ck_none S.rows (fun r hr => ?_)]
  · walk_at "es"
  · obtain ⟨h1, h2⟩ := a.rows r (List.mem_append_right _ hr)
    refine ⟨_, rfl, ?_⟩
    have hc2 : r.cells.length ≤ sizeLine := le_sz' (by have := hc r hr; omega)
    have ht : txts (r.cells.map fun c => .str (oneS c)) = some (r.cells.map oneS) := txts_map oneS r.cells
    have hj := join_len (hc r hr)
    have hm := sum_le (hc r hr)
    walk_at "es"
    rw [lc_pure Cl.d (fun c => .str (oneS c)) (ck_some h2) r.cells (fun c hc => ?_)]
    · walk_at "es"
      rfl
    · exact ⟨_, rfl, rfl⟩
noncomputable def F_Screen_texts : List D → M D := Classical.choose ex_Screen_texts
theorem cm_Screen_texts {P : Program} {w : World} {K : PySem.W.Frag} {mg : Str → Option Value} {base : Heap} {Ts : List (Addr × Str)} (T : GT K mg) : CalM P w K mg base (XC P w) 1 "Screen" "texts" ["self"] (spM K Ts 1 F_Screen_texts) := (Classical.choose_spec ex_Screen_texts).1 T
theorem run_Screen_texts : Q_Screen_texts F_Screen_texts := (Classical.choose_spec ex_Screen_texts).2
def Q_Screen_kept (F : List D → M D) : Prop := ∀ (h : MH) (n : Nat) (S : ScI), ScAt h n S → S.past.length ≤ 1000 → (∀ r ∈ S.past, r.cells.length ≤ 1000) → F [.ref n] h = some (.ok (.list (S.past.map fun r => .str (rowTx r.cells))), h)
theorem sc_Screen_kept : FnScope ["self", "row", "cell"] ["self"] (defScope s_Screen_kept) := ⟨rfl, rfl, rfl, by decide +kernel, rfl, by decide +kernel, by decide +kernel⟩
theorem ex_Screen_kept : ∃ F : List D → M D, (∀ {P : Program} {w : World} {K : PySem.W.Frag} {mg : Str → Option Value} {base : Heap} {Ts : List (Addr × Str)} (T : GT K mg), CalM P w K mg base (XC P w) 1 "Screen" "kept" ["self"] (spM K Ts 1 F)) ∧ Q_Screen_kept F := by
  refine ⟨_, fun {P w K mg base Ts} T => calM_R T.f_Screen_kept T.c_Screen T.m_Screen_kept sc_Screen_kept (fun _ _ _ _ _ _ us hl => match us, hl with | [_], _ => rfl)
    (fun f cdv A' outer s H E hr => ⟨_, (pss_one (ps_ret (pe_lc (own := [("row", 1)]) rfl sc_Screen_kept.nd (ki_list K (kfld K (pv 0))) (blkOk_by (own := [("row", 1)]) (N := ["self", "row", "cell"]) (sc := defScope s_Screen_kept) (by decide +kernel)) (fun _ _ _ _ _ => by exact (pG 1 sc_Screen_kept.nd)) (fun _ _ _ _ _ => by exact pts_nil) (fun _ _ _ _ _ => by exact (kbm K PySem.F.plainAttrs_str PySem.F.slot_str_rstrip PySem.F.type_str_rstrip mt_rstripChars (kbm K PySem.F.plainAttrs_str PySem.F.slot_str_join PySem.F.type_str_join (kjoin K) pe_str (pa_cons (pe_lc (own := [("cell", 2)]) rfl sc_Screen_kept.nd (ki_list K (kfld K (pv 1))) (blkOk_by (own := [("cell", 2)]) (N := ["self", "row", "cell"]) (by rfl)) (fun _ _ _ _ _ => by exact (pG 2 sc_Screen_kept.nd)) (fun _ _ _ _ _ => by exact pts_nil) (fun _ _ _ _ _ => by exact (pe_ix (kix K) (pv 2) pe_int (fun _ _ => rfl)))) pa_nil)) (pa_cons pe_str pa_nil)))))),
    (ss_ret (sm_fr (sl_lc (si_list (sm_fld (C := "Screen") ⟨T.c_Screen, T.n_Screen_past⟩ (sm_var 0))) (go_name (by decide)) (sg_name 1) st_yes (sm_bm km_rstrip (sm_bm km_join sm_str (sa_cons (sm_fr (sl_lc (si_list (sm_fld (C := "Row") ⟨T.c_Row, T.n_Row_cells⟩ (sm_var 1))) (go_name (by decide)) (sg_name 2) st_yes (sm_op kr_ix (sm_var 2) sm_int))) sa_nil)) (sa_cons sm_str sa_nil)))))⟩) rfl, ?_⟩
  intro h n S a hl hc
  have ho := a.o
  have hl2 : S.past.length ≤ sizeLine := le_sz' (by omega)
  walk_at "es"
  rw [lc_pure RowI.r (fun r => .str (rowTx r.cells)) ck_none S.past (fun r hr => ?_)]
  · walk_at "es"
  · obtain ⟨h1, h2⟩ := a.rows r (List.mem_append_left _ hr)
    refine ⟨_, rfl, ?_⟩
    have hc2 : r.cells.length ≤ sizeLine := le_sz' (by have := hc r hr; omega)
    have ht : txts (r.cells.map fun c => .str (oneS c)) = some (r.cells.map oneS) := txts_map oneS r.cells
    have hj := join_len (hc r hr)
    have hm := sum_le (hc r hr)
    walk_at "es"
    rw [lc_pure Cl.d (fun c => .str (oneS c)) (ck_some h2) r.cells (fun c hc => ?_)]
    · walk_at "es"
      rfl
    · exact ⟨_, rfl, rfl⟩
noncomputable def F_Screen_kept : List D → M D := Classical.choose ex_Screen_kept
theorem cm_Screen_kept {P : Program} {w : World} {K : PySem.W.Frag} {mg : Str → Option Value} {base : Heap} {Ts : List (Addr × Str)} (T : GT K mg) : CalM P w K mg base (XC P w) 1 "Screen" "kept" ["self"] (spM K Ts 1 F_Screen_kept) := (Classical.choose_spec ex_Screen_kept).1 T
theorem run_Screen_kept : Q_Screen_kept F_Screen_kept := (Classical.choose_spec ex_Screen_kept).2
end Sc

namespace Sc
open PySem PySem.Spec PyProof.Rows L2
/-! ### what may hold of a screen -/
structure Sr.ok (s : Sr) : Prop where
  w2 : 2 ≤ s.wide
  w60 : s.wide ≤ 60
  h2 : 2 ≤ s.high
  h40 : s.high ≤ 40
  m0 : 0 ≤ s.most
  m200 : s.most ≤ 200
  rl : (s.rows.length : Int) = s.high
  rc : ∀ r ∈ s.rows, (r.cells.length : Int) = s.wide
  pl : (s.past.length : Int) ≤ s.most
  pc : ∀ r ∈ s.past, (r.cells.length : Int) = s.wide
  r0 : 0 ≤ s.row
  rh : s.row < s.high
  c0 : 0 ≤ s.col
  cw : s.col < s.wide
  t0 : 0 ≤ s.top
  tb : s.top < s.bottom
  bh : s.bottom < s.high
def bl (w : Int) : Rw := ⟨List.replicate w.toNat blank, false⟩
def Sr.begin (s : Sr) : Sr := { s with rows := List.replicate s.high.toNat (bl s.wide), row := 0, col := 0, full := false, pen := plain, top := 0, bottom := s.high - 1, byr := 0, byc := 0, byp := plain, last := none }
def Sr.stand (s : Sr) (r c : Int) : Sr := { s with row := max 0 (min (s.high - 1) r), col := max 0 (min (s.wide - 1) c), full := false }
def offAt (l : List Rw) (i : Int) : List Rw := l.modify i.toNat fun r => { r with on := false }
def Sr.cutOff (s : Sr) (top : Int) : Sr := { s with rows := offAt (if 0 ≤ top - 1 then offAt s.rows (top - 1) else s.rows) s.bottom }
def Sr.many (s : Sr) (top many : Int) : Int := min many (s.bottom - top + 1)
def Sr.roll (s : Sr) (top many : Int) : Sr := Sr.cutOff { s with
  past := if top = 0 then cutL (s.past ++ cutL s.rows none (some (s.many top many))) (some (max 0 (s.past.length + s.many top many - s.most))) none else s.past
  rows := cutL s.rows none (some top) ++ cutL s.rows (some (top + s.many top many)) (some (s.bottom + 1)) ++ List.replicate (s.many top many).toNat (bl s.wide) ++ cutL s.rows (some (s.bottom + 1)) none } top
def Sr.rollDown (s : Sr) (top many : Int) : Sr := Sr.cutOff { s with
  rows := cutL s.rows none (some top) ++ List.replicate (s.many top many).toNat (bl s.wide) ++ cutL s.rows (some top) (some (s.bottom + 1 - s.many top many)) ++ cutL s.rows (some (s.bottom + 1)) none } top
/-- it does so -/
def Does (F : List D → M D) (args : List D) (f : Sr → Sr) : Prop := ∀ (h : MH) (n : Nat) (S : ScI), ScAt h n S → S.v.ok → ∃ h' S', F (.ref n :: args) h = some (.ok .none, h') ∧ ScAt h' n S' ∧ S'.v = f S.v ∧ Fr h (ids n S) h' (ids n S')
theorem atI_get' {α : Type} {l : List α} {i : Int} {x : α} (h0 : 0 ≤ i) (hx : l[i.toNat]? = some x) : atI l i = some x := by
  have := (List.getElem?_eq_some_iff.mp hx).1
  unfold atI ixN
  rw [if_pos h0, if_pos (by omega)]
  exact hx
theorem ixN_nat {n : Nat} {i : Int} (h0 : 0 ≤ i) (h1 : i < n) : ixN n i = some i.toNat := by
  unfold ixN
  rw [if_pos h0, if_pos h1]
/-! counting -/
theorem nodup_count {α : Type} [DecidableEq α] : ∀ {l : List α}, l.Nodup ↔ ∀ a, l.count a ≤ 1
  | [] => by simp
  | x :: l => by
    rw [List.nodup_cons, nodup_count (l := l)]
    constructor
    · rintro ⟨h1, h2⟩ a
      rw [List.count_cons]
      by_cases e : x = a
      · subst e
        have := List.count_eq_zero.mpr h1
        simp [this]
      · have := h2 a
        simp [e]
        exact this
    · intro h
      refine ⟨fun z => ?_, fun a => ?_⟩
      · have h1 := h x
        rw [List.count_cons_self] at h1
        have := List.count_pos_iff.mpr z
        omega
      · have h1 := h a
        rw [List.count_cons] at h1
        omega
section
variable {h : MH} {n : Nat} {S : ScI}
theorem map_set_same {α β : Type} {f : α → β} {l : List α} {i : Nat} {x y : α} (hi : l[i]? = some x) (hf : f y = f x) : (l.set i y).map f = l.map f := by
  rw [List.map_set, hf]
  apply List.ext_getElem?
  intro j
  by_cases e : i = j
  · subst e
    have hl := (List.getElem?_eq_some_iff.mp hi).1
    rw [List.getElem?_set_self (by rw [List.length_map]; exact hl), List.getElem?_map, hi]
    rfl
  · rw [List.getElem?_set_ne e]
theorem nodup_ne {α : Type} {f : α → Nat} {l : List α} (nd : (l.map f).Nodup) {i j : Nat} {x y : α} (hi : l[i]? = some x) (hj : l[j]? = some y) (e : f x = f y) : i = j := by
  have h1 : (l.map f)[i]? = some (f x) := by rw [List.getElem?_map, hi]; rfl
  have h2 : (l.map f)[j]? = some (f x) := by rw [List.getElem?_map, hj, e]; rfl
  have l1 := (List.getElem?_eq_some_iff.mp h1).1
  exact (List.getElem?_inj l1 nd).mp (h1.trans h2.symm)
/-- one row's objects change: r becomes r' (its place stays) -/
theorem ScAt.row1 {h' : MH} (a : ScAt h n S) {i : Nat} {r r' : RowI} (hi : S.rows[i]? = some r) (hid : r'.id = r.id)
    (ho : h'[r.id]? = some (rowO r'.cid r'.on)) (hc : h'[r'.cid]? = some (clsO r'.cells)) (hcid : r'.cid = r.cid ∨ h.length ≤ r'.cid) (hlen : h.length ≤ h'.length) (off : ∀ m : Nat, m < h.length → m ≠ r.id → m ≠ r.cid → h'[m]? = h[m]?) :
    ScAt h' n { S with rows := S.rows.set i r' } ∧ Fr h (ids n S) h' (ids n { S with rows := S.rows.set i r' }) := by
  have hmem : r ∈ S.rows := List.mem_of_getElem? hi
  have hm : r ∈ S.past ++ S.rows := List.mem_append_right _ hmem
  obtain ⟨n1, n2, n3, n4⟩ := a.ne_id hm
  obtain ⟨o1, o2⟩ := a.rows r hm
  have hlt : i < S.rows.length := (List.getElem?_eq_some_iff.mp hi).1
  have hiA : (S.past ++ S.rows)[S.past.length + i]? = some r := by rw [List.getElem?_append_right (by omega), Nat.add_sub_cancel_left]; exact hi
  -- other rows
  have other : ∀ q ∈ S.past ++ S.rows.set i r', q = r' ∨ (q ∈ S.past ++ S.rows ∧ q.id ≠ r.id ∧ q.cid ≠ r.cid) := fun q hq => by
    obtain ⟨j, hj⟩ := List.getElem?_of_mem hq
    by_cases e : j = S.past.length + i
    · left
      rw [e, List.getElem?_append_right (by omega), Nat.add_sub_cancel_left, List.getElem?_set_self hlt] at hj
      exact (Option.some.inj hj).symm
    · right
      have hj' : (S.past ++ S.rows)[j]? = some q := by
        by_cases hp : j < S.past.length
        · rw [List.getElem?_append_left hp] at hj ⊢
          exact hj
        · rw [List.getElem?_append_right (by omega), List.getElem?_set_ne (by omega)] at hj
          rw [List.getElem?_append_right (by omega)]
          exact hj
      exact ⟨List.mem_of_getElem? hj', fun z => e (nodup_ne a.ndi hj' hiA z), fun z => e (nodup_ne a.ndc hj' hiA z)⟩
  have keep : ∀ q ∈ S.past ++ S.rows, q.id ≠ r.id → q.cid ≠ r.cid → h'[q.id]? = some (rowO q.cid q.on) ∧ h'[q.cid]? = some (clsO q.cells) := fun q hq e1 e2 => by
    obtain ⟨q1, q2⟩ := a.rows q hq
    have x1 : q.id ≠ r.cid := fun z => by rw [z, o2] at q1; cases q1
    have x2 : q.cid ≠ r.id := fun z => by rw [z, o1] at q2; cases q2
    rw [off q.id (lt_of_get q1) e1 x1, off q.cid (lt_of_get q2) x2 e2]
    exact ⟨q1, q2⟩
  refine ⟨⟨?_, ?_, a.ok, fun q hq => ?_, ?_, ?_⟩, hlen, fun m hm hx => ?_, fun m hm => ?_⟩
  · rw [off n (lt_of_get a.o) (Ne.symm n1) (Ne.symm n2), a.o]
    have : (S.rows.set i r').map RowI.r = S.rows.map RowI.r := map_set_same hi (by unfold RowI.r; rw [hid])
    show some (MO.ins _ (ScI.fs S)) = some (MO.ins _ (ScI.fs _))
    unfold ScI.fs
    rw [this]
  · show h'[S.rid]? = _
    rw [off S.rid (lt_of_get a.rd) (Ne.symm n3) (Ne.symm n4)]
    exact a.rd
  · rcases other q hq with rfl | ⟨h1, h2, h3⟩
    · rw [hid]
      exact ⟨ho, hc⟩
    · exact keep q h1 h2 h3
  · show ((S.past ++ S.rows.set i r').map RowI.id).Nodup
    rw [List.map_append, map_set_same hi hid, ← List.map_append]
    exact a.ndi
  · show ((S.past ++ S.rows.set i r').map RowI.cid).Nodup
    rcases hcid with e | e
    · rw [List.map_append, map_set_same hi e, ← List.map_append]
      exact a.ndc
    · have nd := nodup_count.mp a.ndc
      rw [nodup_count]
      intro c
      have h1 := nd c
      rw [List.map_append, List.count_append] at h1 ⊢
      rw [List.map_set]
      have hlm : i < (S.rows.map RowI.cid).length := by rw [List.length_map]; exact hlt
      rw [List.count_set hlm]
      by_cases ec : r'.cid = c
      · subst ec
        -- a new number: nowhere yet
        have z : ∀ l : List RowI, (∀ q ∈ l, q ∈ S.past ++ S.rows) → (l.map RowI.cid).count r'.cid = 0 := fun l hl => List.count_eq_zero.mpr fun w => by
          obtain ⟨q, hq, eq⟩ := List.mem_map.mp w
          have := lt_of_get (a.rows q (hl q hq)).2
          omega
        rw [z S.past fun q hq => List.mem_append_left _ hq, z S.rows fun q hq => List.mem_append_right _ hq]
        simp
      · simp [ec]
        omega
  · refine off m hm (fun z => hx ?_) fun z => hx ?_
    · rw [z]
      exact List.mem_cons_of_mem _ (List.mem_cons_of_mem _ (List.mem_append_left _ (List.mem_map.mpr ⟨r, by assumption, rfl⟩)))
    · rw [z]
      exact List.mem_cons_of_mem _ (List.mem_cons_of_mem _ (List.mem_append_right _ (List.mem_map.mpr ⟨r, by assumption, rfl⟩)))
  · unfold ids rids at hm ⊢
    rcases List.mem_cons.mp hm with z | z
    · exact .inl (by rw [z]; exact List.mem_cons_self)
    · rcases List.mem_cons.mp z with z | z
      · exact .inl (by rw [z]; exact List.mem_cons_of_mem _ List.mem_cons_self)
      · have key : (∃ q ∈ S.past ++ S.rows.set i r', q.id = m) ∨ ∃ q ∈ S.past ++ S.rows.set i r', q.cid = m := (List.mem_append.mp z).imp List.mem_map.mp List.mem_map.mp
        rcases key with ⟨q, hq, e⟩ | ⟨q, hq, e⟩
        · rcases other q hq with rfl | ⟨h1, _, _⟩
          · exact .inl (List.mem_cons_of_mem _ (List.mem_cons_of_mem _ (List.mem_append_left _ (List.mem_map.mpr ⟨r, by assumption, by rw [← hid]; exact e⟩))))
          · exact .inl (List.mem_cons_of_mem _ (List.mem_cons_of_mem _ (List.mem_append_left _ (List.mem_map.mpr ⟨q, h1, e⟩))))
        · rcases other q hq with rfl | ⟨h1, _, _⟩
          · rcases hcid with e2 | e2
            · exact .inl (List.mem_cons_of_mem _ (List.mem_cons_of_mem _ (List.mem_append_right _ (List.mem_map.mpr ⟨r, by assumption, by rw [← e2]; exact e⟩))))
            · exact .inr (by rw [← e]; exact e2)
          · exact .inl (List.mem_cons_of_mem _ (List.mem_cons_of_mem _ (List.mem_append_right _ (List.mem_map.mpr ⟨q, h1, e⟩))))
/-- a row goes on, or no more -/
theorem ScAt.setOn (a : ScAt h n S) {i : Nat} {r : RowI} (hi : S.rows[i]? = some r) (b : Bool) : ScAt (h.set r.id (rowO r.cid b)) n { S with rows := S.rows.set i { r with on := b } } ∧ Fr h (ids n S) (h.set r.id (rowO r.cid b)) (ids n { S with rows := S.rows.set i { r with on := b } }) := by
  obtain ⟨o1, o2⟩ := a.rows r (List.mem_append_right _ (List.mem_of_getElem? hi))
  have x1 : r.cid ≠ r.id := fun z => by rw [z, o1] at o2; cases o2
  exact a.row1 (r' := { r with on := b }) hi rfl (set_self' o1 _) ((set_ne' x1 _).trans o2) (.inl rfl) (by rw [List.length_set]; exact Nat.le_refl _) fun m _ h1 _ => set_ne' h1 _
/-- a row's cells are others -/
theorem ScAt.setCells (a : ScAt h n S) {i : Nat} {r : RowI} (hi : S.rows[i]? = some r) (cs : List Cl) : ScAt (h.set r.cid (clsO cs)) n { S with rows := S.rows.set i { r with cells := cs } } ∧ Fr h (ids n S) (h.set r.cid (clsO cs)) (ids n { S with rows := S.rows.set i { r with cells := cs } }) := by
  obtain ⟨o1, o2⟩ := a.rows r (List.mem_append_right _ (List.mem_of_getElem? hi))
  have x1 : r.id ≠ r.cid := fun z => by rw [z, o2] at o1; cases o1
  exact a.row1 (r' := { r with cells := cs }) hi rfl ((set_ne' x1 _).trans o1) (set_self' o2 _) (.inl rfl) (by rw [List.length_set]; exact Nat.le_refl _) fun m _ _ h2 => set_ne' h2 _
/-- a row gets new cells -/
theorem ScAt.newCells (a : ScAt h n S) {i : Nat} {r : RowI} (hi : S.rows[i]? = some r) (cs : List Cl) : ScAt ((h ++ [clsO cs]).set r.id (rowO h.length r.on)) n { S with rows := S.rows.set i { r with cells := cs, cid := h.length } } ∧ Fr h (ids n S) ((h ++ [clsO cs]).set r.id (rowO h.length r.on)) (ids n { S with rows := S.rows.set i { r with cells := cs, cid := h.length } }) := by
  obtain ⟨o1, o2⟩ := a.rows r (List.mem_append_right _ (List.mem_of_getElem? hi))
  have l1 := lt_of_get o1
  exact a.row1 (r' := { r with cells := cs, cid := h.length }) hi rfl (set_self' (get_app o1) _) ((set_ne' (by show h.length ≠ r.id; omega) _).trans (get_last1 h _)) (.inr (Nat.le_refl _)) (by rw [List.length_set, List.length_append]; omega) fun m hm h1 _ => by
    rw [set_ne' h1, List.getElem?_append_left hm]
end
end Sc

namespace Sc
open PySem PySem.Spec PyProof.Rows L2
theorem offAt_len (l : List Rw) (i : Int) : (offAt l i).length = l.length := List.length_modify _ _ _
theorem map_off {l : List RowI} {i : Nat} {r : RowI} (hi : l[i]? = some r) : (l.set i { r with on := false }).map RowI.v = (l.map RowI.v).modify i fun r => { r with on := false } := by
  apply List.ext_getElem?
  intro j
  rw [List.getElem?_map, List.getElem?_modify, List.getElem?_map]
  by_cases e : i = j
  · subst e
    rw [List.getElem?_set_self (List.getElem?_eq_some_iff.mp hi).1, hi]
    simp [RowI.v]
  · rw [List.getElem?_set_ne e]
    simp [e]
theorem get_some {α : Type} {l : List α} {i : Int} (h0 : 0 ≤ i) (h1 : i < l.length) : ∃ x, l[i.toNat]? = some x := ⟨l[i.toNat]'(by omega), by simp⟩
/-! ### cut off -/
def Q_Screen_cut_off (F : List D → M D) : Prop := ∀ (h : MH) (n : Nat) (S : ScI) (top : Int), ScAt h n S → (S.rows.length : Int) = S.high → 0 ≤ S.bottom → S.bottom < S.high → 0 ≤ top → top ≤ S.high → ∃ h' S', F [.ref n, .int top] h = some (.ok .none, h') ∧ ScAt h' n S' ∧ S'.v = S.v.cutOff top ∧ Fr h (ids n S) h' (ids n S') ∧ S'.past = S.past ∧ S'.rows.map RowI.id = S.rows.map RowI.id ∧ S'.rows.map RowI.cid = S.rows.map RowI.cid ∧ ∀ m : Nat, (∀ r ∈ S.rows, r.id ≠ m) → h'[m]? = h[m]?
theorem sc_Screen_cut_off : FnScope ["self", "top", "at"] ["self", "top"] (defScope s_Screen_cut_off) := ⟨rfl, rfl, rfl, by decide +kernel, rfl, by decide +kernel, by decide +kernel⟩
theorem ex_Screen_cut_off : ∃ F : List D → M D, (∀ {P : Program} {w : World} {K : PySem.W.Frag} {mg : Str → Option Value} {base : Heap} {Ts : List (Addr × Str)} (T : GT K mg), CalM P w K mg base (XC P w) 1 "Screen" "cut_off" ["self", "top"] (spM K Ts 2 F)) ∧ Q_Screen_cut_off F := by
  refine ⟨_, fun {P w K mg base Ts} T => calM_R T.f_Screen_cut_off T.c_Screen T.m_Screen_cut_off sc_Screen_cut_off (fun _ _ _ _ _ _ us hl => match us, hl with | [_, _], _ => rfl)
    (fun f cdv A' outer s H E hr => ⟨_, (pss_one (ps_for (passes_of rfl) rfl (ki_tup K (pe_tup (pa_cons (pe_op op_sub (pv 1) pe_int) (pa_cons (kfld K (pv 0)) pa_nil)))) (pG 2 sc_Screen_cut_off.nd) (pss_one (ps_if (pt_cmpR op_ge (pv 2) pe_int (nomark _)) (pss_one (ks_fld K (pe_ix (kix K) (kfld K (pv 0)) (pv 2) (fun _ _ => rfl)) pe_bl)) pss_nil)))),
    (ss_for (si_tup (sm_tup (sa_cons (sm_op kr_sub (sm_var 1) sm_int) (sa_cons (sm_fld (C := "Screen") ⟨T.c_Screen, T.n_Screen_bottom⟩ (sm_var 0)) sa_nil)))) (sg_name 2) (ss_if (st_test (sm_op kr_ge (sm_var 2) sm_int)) (ss_fld (C := "Row") ⟨T.c_Row, T.n_Row_goes_on⟩ (sm_op kr_ix (sm_fld (C := "Screen") ⟨T.c_Screen, T.n_Screen_rows⟩ (sm_var 0)) (sm_var 2)) sm_bl) ss_next))⟩) rfl, ?_⟩
  intro h n S top a rl b0 bh h0 h1
  have ho := a.o
  have hs := set_self' ho
  have z2 : 2 ≤ sizeLine := le_sz' (by omega)
  by_cases hp : 0 ≤ top - 1
  · obtain ⟨r1, e1⟩ := get_some (l := S.rows) hp (by omega)
    have hr1 : atI (S.rows.map RowI.r) (top - 1) = some (.ref r1.id) := by rw [atI_map, atI_get' hp e1]; rfl
    obtain ⟨o1, c1⟩ := a.rows r1 (List.mem_append_right _ (List.mem_of_getElem? e1))
    obtain ⟨a2, f2⟩ := a.setOn e1 false
    obtain ⟨r2, e2⟩ := get_some (l := S.rows.set (top - 1).toNat { r1 with on := false }) b0 (by rw [List.length_set]; omega)
    have hr2 : atI (S.rows.map RowI.r) S.bottom = some (.ref r2.id) := by
      rw [← map_set_same (f := RowI.r) (y := { r1 with on := false }) e1 rfl, atI_map, atI_get' b0 e2]
      rfl
    obtain ⟨o2, c2⟩ := a2.rows r2 (List.mem_append_right _ (List.mem_of_getElem? e2))
    obtain ⟨a3, f3⟩ := a2.setOn e2 false
    have ho2 : (h.set r1.id (rowO r1.cid false))[n]? = some (scO S) := by
      rw [set_ne' (Ne.symm (a.ne_id (List.mem_append_right _ (List.mem_of_getElem? e1))).1)]
      exact ho
    refine ⟨_, _, ?_, a3, ?_, f2.trans f3, rfl, ?_, ?_, fun m hm => ?_⟩
    · walk_at "es"
    · unfold Sr.cutOff
      rw [if_pos hp]
      unfold ScI.v
      simp only [map_off e2, map_off e1]
      rfl
    · exact (map_set_same (f := RowI.id) (y := { r2 with on := false }) e2 rfl).trans (map_set_same (f := RowI.id) (y := { r1 with on := false }) e1 rfl)
    · exact (map_set_same (f := RowI.cid) (y := { r2 with on := false }) e2 rfl).trans (map_set_same (f := RowI.cid) (y := { r1 with on := false }) e1 rfl)
    · have x2 : r2.id ∈ S.rows.map RowI.id := by
        rw [← map_set_same (f := RowI.id) (y := { r1 with on := false }) e1 rfl]
        exact List.mem_map.mpr ⟨r2, List.mem_of_getElem? e2, rfl⟩
      obtain ⟨q, hq, eq⟩ := List.mem_map.mp x2
      rw [set_ne' (by rw [← eq]; exact Ne.symm (hm q hq)), set_ne' (Ne.symm (hm r1 (List.mem_of_getElem? e1)))]
  · obtain ⟨r2, e2⟩ := get_some (l := S.rows) b0 (by omega)
    have hr2 : atI (S.rows.map RowI.r) S.bottom = some (.ref r2.id) := by rw [atI_map, atI_get' b0 e2]; rfl
    obtain ⟨o2, c2⟩ := a.rows r2 (List.mem_append_right _ (List.mem_of_getElem? e2))
    obtain ⟨a3, f3⟩ := a.setOn e2 false
    refine ⟨_, _, ?_, a3, ?_, f3, rfl, ?_, ?_, fun m hm => ?_⟩
    · walk_at "es"
    · unfold Sr.cutOff
      rw [if_neg hp]
      unfold ScI.v
      simp only [map_off e2]
      rfl
    · exact map_set_same (f := RowI.id) (y := { r2 with on := false }) e2 rfl
    · exact map_set_same (f := RowI.cid) (y := { r2 with on := false }) e2 rfl
    · rw [set_ne' (Ne.symm (hm r2 (List.mem_of_getElem? e2)))]
noncomputable def F_Screen_cut_off : List D → M D := Classical.choose ex_Screen_cut_off
theorem cm_Screen_cut_off {P : Program} {w : World} {K : PySem.W.Frag} {mg : Str → Option Value} {base : Heap} {Ts : List (Addr × Str)} (T : GT K mg) : CalM P w K mg base (XC P w) 1 "Screen" "cut_off" ["self", "top"] (spM K Ts 2 F_Screen_cut_off) := (Classical.choose_spec ex_Screen_cut_off).1 T
theorem run_Screen_cut_off : Q_Screen_cut_off F_Screen_cut_off := (Classical.choose_spec ex_Screen_cut_off).2
end Sc

namespace Sc
open PySem PySem.Spec PyProof.Rows L2
/-! ### slices -/
/-- four parts of a list -/
theorem parts4 {α : Type} (l : List α) {t m b : Int} (ht : 0 ≤ t) (hm : 0 ≤ m) (htm : t + m ≤ b) : l = cutL l none (some t) ++ (cutL l (some t) (some (t + m)) ++ (cutL l (some (t + m)) (some b) ++ cutL l (some b) none)) := by
  rw [cut_hi l ht, cut_mid l ht (by omega), cut_mid l (by omega) htm, cut_lo l (by omega)]
  have e3 : (l.drop (t + m).toNat).take (b.toNat - (t + m).toNat) ++ l.drop b.toNat = l.drop (t + m).toNat := by
    have : l.drop b.toNat = (l.drop (t + m).toNat).drop (b.toNat - (t + m).toNat) := by rw [List.drop_drop]; congr 1; omega
    rw [this, List.take_append_drop]
  have e2 : (l.drop t.toNat).take ((t + m).toNat - t.toNat) ++ l.drop (t + m).toNat = l.drop t.toNat := by
    have : l.drop (t + m).toNat = (l.drop t.toNat).drop ((t + m).toNat - t.toNat) := by rw [List.drop_drop]; congr 1; omega
    rw [this, List.take_append_drop]
  rw [e3, e2, List.take_append_drop]
theorem count_drop_le (l : List Nat) (k c : Nat) : (l.drop k).count c ≤ l.count c := (List.drop_sublist k l).count_le c
/-! ### rows in another order, with new ones -/
theorem ScAt.reRows {h H : MH} {n w k : Nat} {S S' : ScI} (a : ScAt h n S) (e1 : S'.rid = S.rid) (e2 : S'.beg = S.beg) (e3 : S'.lost = S.lost) (hl : h.length ≤ H.length) (hn : H[n]? = some (scO S')) (off : ∀ m : Nat, m < h.length → m ≠ n → H[m]? = h[m]?)
    (fr : ∀ r ∈ freshR w h.length k, H[r.id]? = some (rowO r.cid r.on) ∧ H[r.cid]? = some (clsO r.cells)) (mem : ∀ r ∈ S'.past ++ S'.rows, r ∈ S.past ++ S.rows ∨ r ∈ freshR w h.length k)
    (cnt : ∀ (f : RowI → Nat) (c : Nat), ((S'.past ++ S'.rows).map f).count c ≤ ((S.past ++ S.rows).map f).count c + ((freshR w h.length k).map f).count c) : ScAt H n S' ∧ Fr h (ids n S) H (ids n S') := by
  have nd : ∀ f : RowI → Nat, ((S.past ++ S.rows).map f).Nodup → ((freshR w h.length k).map f).Nodup → (∀ r ∈ S.past ++ S.rows, f r < h.length) → (∀ r ∈ freshR w h.length k, h.length ≤ f r) → ((S'.past ++ S'.rows).map f).Nodup := fun f n1 n2 lo hi => by
    rw [nodup_count] at n1 n2 ⊢
    intro c
    have h1 := cnt f c
    have h2 := n1 c
    have h3 := n2 c
    by_cases hc : c < h.length
    · have : ((freshR w h.length k).map f).count c = 0 := List.count_eq_zero.mpr fun z => by
        obtain ⟨r, hr, e⟩ := List.mem_map.mp z
        have := hi r hr
        omega
      omega
    · have : ((S.past ++ S.rows).map f).count c = 0 := List.count_eq_zero.mpr fun z => by
        obtain ⟨r, hr, e⟩ := List.mem_map.mp z
        have := lo r hr
        omega
      omega
  obtain ⟨f1, f2⟩ := freshR_nd w h.length k
  refine ⟨⟨hn, ?_, by rw [e2]; exact a.ok, fun r hr => ?_, nd _ a.ndi f1 (fun r hr => lt_of_get (a.rows r hr).1) fun r hr => ?_, nd _ a.ndc f2 (fun r hr => lt_of_get (a.rows r hr).2) fun r hr => ?_⟩, hl, fun m hm hx => ?_, fun m hm => ?_⟩
  · rw [e1, e2, e3, off S.rid (lt_of_get a.rd) a.ne_rd]
    exact a.rd
  · rcases mem r hr with z | z
    · obtain ⟨q1, q2⟩ := a.rows r z
      obtain ⟨n1, n2, _⟩ := a.ne_id z
      rw [off r.id (lt_of_get q1) n1, off r.cid (lt_of_get q2) n2]
      exact ⟨q1, q2⟩
    · exact fr r z
  · have := freshR_ids w h.length k r hr
    omega
  · have := freshR_ids w h.length k r hr
    omega
  · exact off m hm fun z => hx (by rw [z]; exact List.mem_cons_self)
  · unfold ids rids at hm ⊢
    rcases List.mem_cons.mp hm with z | z
    · exact .inl (by rw [z]; exact List.mem_cons_self)
    · rcases List.mem_cons.mp z with z | z
      · exact .inl (by rw [z, e1]; exact List.mem_cons_of_mem _ List.mem_cons_self)
      · have key : (∃ q ∈ S'.past ++ S'.rows, q.id = m) ∨ ∃ q ∈ S'.past ++ S'.rows, q.cid = m := (List.mem_append.mp z).imp List.mem_map.mp List.mem_map.mp
        rcases key with ⟨q, hq, e⟩ | ⟨q, hq, e⟩
        · rcases mem q hq with h1 | h1
          · exact .inl (List.mem_cons_of_mem _ (List.mem_cons_of_mem _ (List.mem_append_left _ (List.mem_map.mpr ⟨q, h1, e⟩))))
          · have := freshR_ids w h.length k q h1
            exact .inr (by omega)
        · rcases mem q hq with h1 | h1
          · exact .inl (List.mem_cons_of_mem _ (List.mem_cons_of_mem _ (List.mem_append_right _ (List.mem_map.mpr ⟨q, h1, e⟩))))
          · have := freshR_ids w h.length k q h1
            exact .inr (by omega)
theorem lc_fresh0 {w : Int} (h0 : 0 ≤ w) (h1 : w ≤ 1000) {all : List D} {e : En} {γ : D → En → M En} {φ : En → M D} {g : MH} (xs : List D) (hb : ∀ x t, ∃ e2, γ x e (g ++ t) = some (.ok e2, g ++ t) ∧ φ e2 (g ++ t) = F_blank_row [.int w] (g ++ t)) :
    lcM .none all e γ (fun _ => ret true) φ xs g = some (.ok ((freshR w.toNat g.length xs.length).map RowI.r), g ++ freshO w.toNat g.length xs.length) := by
  have := lc_fresh h0 h1 (all := all) hb xs []
  rw [List.append_nil] at this
  exact this
theorem set_app {h t : MH} {n : Nat} (hn : n < h.length) (o : MO) : (h ++ t).set n o = h.set n o ++ t := List.set_append_left _ _ hn
/-! ### the band rolls up -/
def Q_Screen_roll (F : List D → M D) : Prop := ∀ (top many : Int), 0 ≤ many → many ≤ 10000 → ∀ (h : MH) (n : Nat) (S : ScI), ScAt h n S → S.v.ok → 0 ≤ top → top ≤ S.bottom → ∃ h' S', F [.ref n, .int top, .int many] h = some (.ok .none, h') ∧ ScAt h' n S' ∧ S'.v = S.v.roll top many ∧ Fr h (ids n S) h' (ids n S') ∧ ScAt (h'.set n (scO { S' with past := S.past })) n { S' with past := S.past } ∧ Fr h (ids n S) (h'.set n (scO { S' with past := S.past })) (ids n { S' with past := S.past })
theorem sc_Screen_roll : FnScope ["self", "top", "many", "fresh", "at"] ["self", "top", "many"] (defScope s_Screen_roll) := ⟨rfl, rfl, rfl, by decide +kernel, rfl, by decide +kernel, by decide +kernel⟩
theorem ex_Screen_roll : ∃ F : List D → M D, (∀ {P : Program} {w : World} {K : PySem.W.Frag} {mg : Str → Option Value} {base : Heap} {Ts : List (Addr × Str)} (T : GT K mg), CalM P w K mg base (XC P w) 4 "Screen" "roll" ["self", "top", "many"] (spM K Ts 3 F)) ∧ Q_Screen_roll F := by
  refine ⟨_, fun {P w K mg base Ts} T => calM_R T.f_Screen_roll T.c_Screen T.m_Screen_roll sc_Screen_roll (fun _ _ _ _ _ _ us hl => match us, hl with | [_, _, _], _ => rfl)
    (fun f cdv A' outer s H E hr => ⟨_, (pss_cons (pS 2 sc_Screen_roll.nd (pe_callB (call_min2 rfl) (by rfl) T.z_min (by decide +kernel) (pa_cons (pv 2) (pa_cons (pe_op (kplusA K) (pe_op op_sub (kfld K (pv 0)) (pv 1)) pe_int) pa_nil))))
      (pss_cons (ps_if (pt_cmpR (keq K hr.units) (pv 1) pe_int (nomark _)) (pss_one (ks_fld K (pv 0) (pe_slice (ksl K) (pe_op (kplusA K) (kfld K (pv 0)) (pe_slice (ksl K) (kfld K (pv 0)) po_none (po_some (pv 2)))) (po_some (pe_callB (call_max2 rfl) (by rfl) T.z_max (by decide +kernel) (pa_cons pe_int (pa_cons (pe_op op_sub (pe_op (kplusA K) (pe_callB (klen K) (by rfl) T.z_len (by decide +kernel) (pa_cons (kfld K (pv 0)) pa_nil)) (pv 2)) (kfld K (pv 0))) pa_nil)))) po_none))) pss_nil)
      (pss_cons (ps_setLc (i := 3) (own := [("at", 4)]) rfl sc_Screen_roll.nd rfl rfl (sw_true rfl rfl rfl (by decide +kernel)) (pi_range1 (by rfl) T.z_range (pa_cons (pv 2) pa_nil)) (blkOk_by (own := [("at", 4)]) (N := ["self", "top", "many", "fresh", "at"]) (sc := defScope s_Screen_roll) (by decide +kernel)) (fun _ _ _ _ _ => by exact (pG 4 sc_Screen_roll.nd)) (fun _ _ _ _ _ => by exact pts_nil) (fun _ _ _ _ _ => by exact (pe_cal (c_blank_row T) (hr.mono (by decide)) passN0 (pa_cons (kfld K (pv 0)) pa_nil))))
      (pss_cons (ks_fld K (pv 0) (pe_op (kplusA K) (pe_op (kplusA K) (pe_op (kplusA K) (pe_slice (ksl K) (kfld K (pv 0)) po_none (po_some (pv 1))) (pe_slice (ksl K) (kfld K (pv 0)) (po_some (pe_op (kplusA K) (pv 1) (pv 2))) (po_some (pe_op (kplusA K) (kfld K (pv 0)) pe_int)))) (pv 3)) (pe_slice (ksl K) (kfld K (pv 0)) (po_some (pe_op (kplusA K) (kfld K (pv 0)) pe_int)) po_none)))
      (pss_one (ps_expr (pe_cm K (cm_Screen_cut_off T) (hr.mono (by decide)) (passX rfl rfl rfl rfl) (pv 0) (pa_cons (pv 1) pa_nil)))))))),
    (ss_seq (ss_asg (sm_cb kc_min (sa_cons (sm_var 2) (sa_cons (sm_op kr_plus (sm_op kr_sub (sm_fld (C := "Screen") ⟨T.c_Screen, T.n_Screen_bottom⟩ (sm_var 0)) (sm_var 1)) sm_int) sa_nil))) (sg_name 2))
      (ss_seq (ss_if (st_test (sm_op kr_eq (sm_var 1) sm_int)) (ss_fld (C := "Screen") ⟨T.c_Screen, T.n_Screen_past⟩ (sm_var 0) (sm_sl (sm_op kr_plus (sm_fld (C := "Screen") ⟨T.c_Screen, T.n_Screen_past⟩ (sm_var 0)) (sm_sl (sm_fld (C := "Screen") ⟨T.c_Screen, T.n_Screen_rows⟩ (sm_var 0)) so_none (so_some (sm_var 2)))) (so_some (sm_cb kc_max (sa_cons sm_int (sa_cons (sm_op kr_sub (sm_op kr_plus (sm_cb kc_len (sa_cons (sm_fld (C := "Screen") ⟨T.c_Screen, T.n_Screen_past⟩ (sm_var 0)) sa_nil)) (sm_var 2)) (sm_fld (C := "Screen") ⟨T.c_Screen, T.n_Screen_most⟩ (sm_var 0))) sa_nil)))) so_none)) ss_next)
      (ss_seq (ss_asg (sm_fr (sl_lc (si_range1 (sa_cons (sm_var 2) sa_nil)) (go_name (by decide)) (sg_name 4) st_yes (sm_call (sa_cons (sm_fld (C := "Screen") ⟨T.c_Screen, T.n_Screen_wide⟩ (sm_var 0)) sa_nil)))) (sg_name 3))
      (ss_seq (ss_fld (C := "Screen") ⟨T.c_Screen, T.n_Screen_rows⟩ (sm_var 0) (sm_op kr_plus (sm_op kr_plus (sm_op kr_plus (sm_sl (sm_fld (C := "Screen") ⟨T.c_Screen, T.n_Screen_rows⟩ (sm_var 0)) so_none (so_some (sm_var 1))) (sm_sl (sm_fld (C := "Screen") ⟨T.c_Screen, T.n_Screen_rows⟩ (sm_var 0)) (so_some (sm_op kr_plus (sm_var 1) (sm_var 2))) (so_some (sm_op kr_plus (sm_fld (C := "Screen") ⟨T.c_Screen, T.n_Screen_bottom⟩ (sm_var 0)) sm_int)))) (sm_var 3)) (sm_sl (sm_fld (C := "Screen") ⟨T.c_Screen, T.n_Screen_rows⟩ (sm_var 0)) (so_some (sm_op kr_plus (sm_fld (C := "Screen") ⟨T.c_Screen, T.n_Screen_bottom⟩ (sm_var 0)) sm_int)) so_none)))
      (ss_drop (sm_meth (sm_var 0) (sa_cons (sm_var 1) sa_nil)))))))⟩) rfl, ?_⟩
  intro top many m0 m1 h n S a ok h0 h1
  have ho := a.o
  have hs := set_self' ho
  have rl : (S.rows.length : Int) = S.high := by have := ok.rl; simpa [ScI.v] using this
  have pl : (S.past.length : Int) ≤ S.most := by have := ok.pl; simpa [ScI.v] using this
  have bh : S.bottom < S.high := ok.bh
  have w2 : 2 ≤ S.wide := ok.w2
  have w60 : S.wide ≤ 60 := ok.w60
  have h40 : S.high ≤ 40 := ok.h40
  have m200 : S.most ≤ 200 := ok.m200
  obtain ⟨m, hm⟩ : ∃ m, m = min many (S.bottom - top + 1) := ⟨_, rfl⟩
  have mm : 0 ≤ m ∧ m ≤ 40 ∧ top + m ≤ S.bottom + 1 := by omega
  have hln := lt_of_get ho
  -- the lists
  obtain ⟨fo, hfo⟩ : ∃ fo, fo = freshO S.wide.toNat h.length m.toNat := ⟨_, rfl⟩
  obtain ⟨fr, hfr⟩ : ∃ fr, fr = freshR S.wide.toNat h.length m.toNat := ⟨_, rfl⟩
  obtain ⟨P, hP⟩ : ∃ P, P = if top = 0 then cutL (S.past ++ cutL S.rows none (some m)) (some (max 0 (S.past.length + m - S.most))) none else S.past := ⟨_, rfl⟩
  obtain ⟨R, hR⟩ : ∃ R, R = cutL S.rows none (some top) ++ (cutL S.rows (some (top + m)) (some (S.bottom + 1)) ++ (fr ++ cutL S.rows (some (S.bottom + 1)) none)) := ⟨_, rfl⟩
  have p4 := parts4 S.rows h0 mm.1 mm.2.2
  have c1 := cut_len S.rows none (some m)
  have c2 := cut_len S.rows none (some top)
  have c3 := cut_len S.rows (some (top + m)) (some (S.bottom + 1))
  have c4 := cut_len S.rows (some (S.bottom + 1)) none
  have frl : fr.length = m.toNat := by rw [hfr, freshR_len]
  have k1 : S.past.length + (cutL S.rows none (some m)).length ≤ sizeLine := le_sz' (by omega)
  have k2 : (cutL S.rows none (some top)).length + (cutL S.rows (some (top + m)) (some (S.bottom + 1))).length ≤ sizeLine := le_sz' (by omega)
  have k3 : (cutL S.rows none (some top)).length + (cutL S.rows (some (top + m)) (some (S.bottom + 1))).length + fr.length ≤ sizeLine := le_sz' (by omega)
  have k4 : (cutL S.rows none (some top)).length + (cutL S.rows (some (top + m)) (some (S.bottom + 1))).length + fr.length + (cutL S.rows (some (S.bottom + 1)) none).length ≤ sizeLine := le_sz' (by omega)
  have k4' : (cutL S.rows none (some top)).length + ((cutL S.rows (some (top + m)) (some (S.bottom + 1))).length + fr.length) + (cutL S.rows (some (S.bottom + 1)) none).length ≤ sizeLine := le_sz' (by omega)
  have k5 : m.toNat ≤ sizeLine := le_sz' (by omega)
  have k6 : -2 ^ 62 ≤ m ∧ m < 2 ^ 62 := by omega
  have hnd : ∀ (f : RowI → Nat) (c : Nat), ((P ++ R).map f).count c ≤ ((S.past ++ S.rows).map f).count c + (fr.map f).count c := fun f c => by
    have e4 : (S.rows.map f).count c = ((cutL S.rows none (some top)).map f).count c + (((cutL S.rows (some top) (some (top + m))).map f).count c + (((cutL S.rows (some (top + m)) (some (S.bottom + 1))).map f).count c + ((cutL S.rows (some (S.bottom + 1)) none).map f).count c)) := by
      conv => lhs; rw [p4]
      simp only [List.map_append, List.count_append]
    have eP : (P.map f).count c ≤ (S.past.map f).count c + ((cutL S.rows (some top) (some (top + m))).map f).count c := by
      rw [hP]
      split
      · next ht =>
        subst ht
        rw [cut_lo _ (by omega), List.map_drop]
        refine Nat.le_trans (count_drop_le _ _ _) ?_
        have : cutL S.rows none (some m) = cutL S.rows (some 0) (some (0 + m)) := by rw [cut_hi _ mm.1, cut_mid _ (by omega) (by omega), Int.zero_add]; rfl
        rw [this, List.map_append, List.count_append]
        exact Nat.le_refl _
      · omega
    rw [hR]
    simp only [List.map_append, List.count_append]
    omega
  have hmem : ∀ r ∈ P ++ R, r ∈ S.past ++ S.rows ∨ r ∈ fr := fun r hr => by
    have sub : ∀ lo hi, ∀ q ∈ cutL S.rows lo hi, q ∈ S.rows := fun lo hi q hq => List.mem_of_mem_drop (List.mem_of_mem_take hq)
    rcases List.mem_append.mp hr with z | z
    · left
      rw [hP] at z
      split at z
      · rcases List.mem_append.mp (List.mem_of_mem_drop (List.mem_of_mem_take z)) with z | z
        · exact List.mem_append_left _ z
        · exact List.mem_append_right _ (sub _ _ r z)
      · exact List.mem_append_left _ z
    · rw [hR] at z
      simp only [List.mem_append] at z
      rcases z with z | z | z | z
      · exact .inl (List.mem_append_right _ (sub _ _ r z))
      · exact .inl (List.mem_append_right _ (sub _ _ r z))
      · exact .inr z
      · exact .inl (List.mem_append_right _ (sub _ _ r z))
  have hRl : (R.length : Int) = S.high := by
    have := congrArg List.length p4
    simp only [List.length_append] at this
    rw [hR]
    simp only [List.length_append]
    have e : (cutL S.rows (some top) (some (top + m))).length = m.toNat := by
      rw [cut_mid _ h0 (by omega), List.length_take, List.length_drop]
      omega
    omega
  have a2 := a.reRows (H := h.set n (scO { S with past := P, rows := R }) ++ fo) (w := S.wide.toNat) (k := m.toNat) (S' := { S with past := P, rows := R }) rfl rfl rfl (by rw [List.length_append, List.length_set]; omega) (get_app (hs _)) (fun q hq hne => by
      rw [List.getElem?_append_left (by rw [List.length_set]; exact hq), set_ne' hne]) (fun r hr => by
      have := freshR_at S.wide.toNat m.toNat (h.set n (scO { S with past := P, rows := R })) r (by rw [List.length_set]; exact hr)
      rw [List.length_set] at this
      rw [hfo]
      exact this) (fun r hr => hfr ▸ hmem r hr) (fun f c => hfr ▸ hnd f c)
  obtain ⟨a2, f2⟩ := a2
  obtain ⟨h', S', e3, a3, v3, f3, y1, y2, y3, y4⟩ := run_Screen_cut_off _ n _ top a2 hRl (show 0 ≤ S.bottom by omega) bh h0 (show top ≤ S.high by omega)
  -- with the rows kept as they were
  have bk : ScAt (h'.set n (scO { S' with past := S.past })) n { S' with past := S.past } ∧ Fr h (ids n S) (h'.set n (scO { S' with past := S.past })) (ids n { S' with past := S.past }) := by
    have hnd2 : ∀ (f : RowI → Nat) (c : Nat), ((S.past ++ R).map f).count c ≤ ((S.past ++ S.rows).map f).count c + (fr.map f).count c := fun f c => by
      have e4 : (S.rows.map f).count c = ((cutL S.rows none (some top)).map f).count c + (((cutL S.rows (some top) (some (top + m))).map f).count c + (((cutL S.rows (some (top + m)) (some (S.bottom + 1))).map f).count c + ((cutL S.rows (some (S.bottom + 1)) none).map f).count c)) := by
        conv => lhs; rw [p4]
        simp only [List.map_append, List.count_append]
      rw [hR]
      simp only [List.map_append, List.count_append]
      omega
    have hmem2 : ∀ r ∈ S.past ++ R, r ∈ S.past ++ S.rows ∨ r ∈ fr := fun r hr => (List.mem_append.mp hr).elim (fun z => .inl (List.mem_append_left _ z)) fun z => hmem r (List.mem_append_right _ z)
    obtain ⟨b2, g2⟩ := a.reRows (H := h.set n (scO { S with rows := R }) ++ fo) (w := S.wide.toNat) (k := m.toNat) (S' := { S with rows := R }) rfl rfl rfl (by rw [List.length_append, List.length_set]; omega) (get_app (hs _)) (fun q hq hne => by
      rw [List.getElem?_append_left (by rw [List.length_set]; exact hq), set_ne' hne]) (fun r hr => by
      have := freshR_at S.wide.toNat m.toNat (h.set n (scO { S with rows := R })) r (by rw [List.length_set]; exact hr)
      rw [List.length_set] at this
      rw [hfo]
      exact this) (fun r hr => hfr ▸ hmem2 r hr) (fun f c => hfr ▸ hnd2 f c)
    have same : ∀ q : Nat, q ≠ n → (h.set n (scO { S with rows := R }) ++ fo)[q]? = (h.set n (scO { S with past := P, rows := R }) ++ fo)[q]? := fun q hq => by
      by_cases hl : q < h.length
      · rw [List.getElem?_append_left (by rw [List.length_set]; exact hl), List.getElem?_append_left (by rw [List.length_set]; exact hl), set_ne' hq, set_ne' hq]
      · rw [List.getElem?_append_right (by rw [List.length_set]; omega), List.getElem?_append_right (by rw [List.length_set]; omega), List.length_set, List.length_set]
    have ho3 := a3.o
    have idm : (S.past ++ S'.rows).map RowI.id = (S.past ++ R).map RowI.id := by rw [List.map_append, List.map_append, y2]
    have cidm : (S.past ++ S'.rows).map RowI.cid = (S.past ++ R).map RowI.cid := by rw [List.map_append, List.map_append, y3]
    refine ⟨⟨set_self' ho3 _, ?_, a3.ok, fun r hr => ?_, by show ((S.past ++ S'.rows).map RowI.id).Nodup; rw [idm]; exact b2.ndi, by show ((S.past ++ S'.rows).map RowI.cid).Nodup; rw [cidm]; exact b2.ndc⟩, ?_, fun q hq hx => ?_, fun q hq => ?_⟩
    · show (h'.set n _)[S'.rid]? = _
      rw [set_ne' a3.ne_rd]
      exact a3.rd
    · rcases List.mem_append.mp (show r ∈ S.past ++ S'.rows from hr) with z | z
      · have hb := b2.rows r (List.mem_append_left _ z)
        have hne := b2.ne_id (List.mem_append_left _ z)
        have nd := b2.ndi
        rw [List.map_append, List.nodup_append] at nd
        have hn1 : ∀ q ∈ R, q.id ≠ r.id := fun q hq e => nd.2.2 r.id (List.mem_map.mpr ⟨r, z, rfl⟩) q.id (List.mem_map.mpr ⟨q, hq, rfl⟩) e.symm
        have hn2 : ∀ q ∈ R, q.id ≠ r.cid := fun q hq e => by
          have := (b2.rows q (List.mem_append_right _ hq)).1
          rw [e, hb.2] at this
          cases this
        rw [set_ne' hne.1, set_ne' hne.2.1, y4 r.id hn1, y4 r.cid hn2, ← same r.id hne.1, ← same r.cid hne.2.1]
        exact hb
      · have hne := a3.ne_id (List.mem_append_right S'.past z)
        rw [set_ne' hne.1, set_ne' hne.2.1]
        exact a3.rows r (List.mem_append_right _ z)
    · rw [List.length_set]
      exact Nat.le_trans f2.len f3.len
    · rw [set_ne' fun z => hx (by rw [z]; exact List.mem_cons_self)]
      exact (f2.trans f3).off q hq hx
    · unfold ids rids at hq
      rcases List.mem_cons.mp hq with z | z
      · exact .inl (by rw [z]; exact List.mem_cons_self)
      · rcases List.mem_cons.mp z with z | z
        · exact (f2.trans f3).new q (by rw [z]; exact List.mem_cons_of_mem _ List.mem_cons_self)
        · have z : q ∈ (S.past ++ S'.rows).map RowI.id ++ (S.past ++ S'.rows).map RowI.cid := z
          rw [idm, cidm] at z
          exact g2.new q (List.mem_cons_of_mem _ (List.mem_cons_of_mem _ z))
  refine ⟨h', S', ?_, a3, ?_, f2.trans f3, bk⟩
  · replace hm := hm.symm
    replace hR := hR.symm
    have lf : ∀ x : ScI, (h.set n (scO x)).length = h.length := fun x => List.length_set
    replace hfo := hfo.symm
    replace hfr := hfr.symm
    have g1 : ∀ x : ScI, (h.set n (scO x) ++ fo)[n]? = some (scO x) := fun x => get_app (hs _)
    have g2 : (h ++ fo)[n]? = some (scO S) := get_app ho
    have g3 : ∀ x y : ScI, (h.set n (scO x) ++ fo).set n (scO y) = h.set n (scO y) ++ fo := fun x y => by rw [set_app (by rw [List.length_set]; exact hln), List.set_set]
    have g4 : ∀ y : ScI, (h ++ fo).set n (scO y) = h.set n (scO y) ++ fo := fun y => set_app hln _
    clear p4 hnd hmem a2 f2 f3 v3 a3 a ok c1 c2 c3 c4 rl pl hRl frl y1 y2 y3 y4 bk
    by_cases ht : top = 0
    · rw [if_pos ht] at hP
      replace hP := hP.symm
      subst ht
      walk_at "es"
      rw [lc_fresh0 (w := S.wide) (by omega) (by omega)]
      · walk_at "es"
      · intro x t
        refine ⟨_, rfl, ?_⟩
        have g5 : (h.set n (scO { S with past := P }) ++ t)[n]? = some (scO { S with past := P }) := get_app (hs _)
        walk_at "es"
    · rw [if_neg ht] at hP
      subst hP
      walk_at "es"
      rw [lc_fresh0 (w := S.wide) (by omega) (by omega)]
      · walk_at "es"
      · intro x t
        refine ⟨_, rfl, ?_⟩
        have g5 : (h ++ t)[n]? = some (scO S) := get_app ho
        walk_at "es"
  · rw [v3]
    have em : S.v.many top many = m := hm.symm
    unfold Sr.roll
    rw [em]
    congr 1
    have eP : P.map RowI.v = if top = 0 then cutL (S.v.past ++ cutL S.v.rows none (some m)) (some (max 0 (S.v.past.length + m - S.v.most))) none else S.v.past := by
      rw [hP]
      unfold ScI.v
      simp only [cutL_map, ← List.map_append, List.length_map]
      split <;> rfl
    have eR : R.map RowI.v = cutL S.v.rows none (some top) ++ cutL S.v.rows (some (top + m)) (some (S.v.bottom + 1)) ++ List.replicate m.toNat (bl S.v.wide) ++ cutL S.v.rows (some (S.v.bottom + 1)) none := by
      rw [hR, hfr]
      unfold ScI.v
      simp only [cutL_map, List.map_append, freshR_v, List.append_assoc]
      rfl
    rw [← eP, ← eR]
    rfl
noncomputable def F_Screen_roll : List D → M D := Classical.choose ex_Screen_roll
theorem cm_Screen_roll {P : Program} {w : World} {K : PySem.W.Frag} {mg : Str → Option Value} {base : Heap} {Ts : List (Addr × Str)} (T : GT K mg) : CalM P w K mg base (XC P w) 4 "Screen" "roll" ["self", "top", "many"] (spM K Ts 3 F_Screen_roll) := (Classical.choose_spec ex_Screen_roll).1 T
theorem run_Screen_roll : Q_Screen_roll F_Screen_roll := (Classical.choose_spec ex_Screen_roll).2
end Sc

namespace Sc
open PySem PySem.Spec PyProof.Rows L2
/-! ### the band rolls down -/
def Q_Screen_roll_down (F : List D → M D) : Prop := ∀ (top many : Int), 0 ≤ many → many ≤ 10000 → ∀ (h : MH) (n : Nat) (S : ScI), ScAt h n S → S.v.ok → 0 ≤ top → top ≤ S.bottom → ∃ h' S', F [.ref n, .int top, .int many] h = some (.ok .none, h') ∧ ScAt h' n S' ∧ S'.v = S.v.rollDown top many ∧ Fr h (ids n S) h' (ids n S')
theorem sc_Screen_roll_down : FnScope ["self", "top", "many", "fresh", "left", "at"] ["self", "top", "many"] (defScope s_Screen_roll_down) := ⟨rfl, rfl, rfl, by decide +kernel, rfl, by decide +kernel, by decide +kernel⟩
theorem ex_Screen_roll_down : ∃ F : List D → M D, (∀ {P : Program} {w : World} {K : PySem.W.Frag} {mg : Str → Option Value} {base : Heap} {Ts : List (Addr × Str)} (T : GT K mg), CalM P w K mg base (XC P w) 4 "Screen" "roll_down" ["self", "top", "many"] (spM K Ts 3 F)) ∧ Q_Screen_roll_down F := by
  refine ⟨_, fun {P w K mg base Ts} T => calM_R T.f_Screen_roll_down T.c_Screen T.m_Screen_roll_down sc_Screen_roll_down (fun _ _ _ _ _ _ us hl => match us, hl with | [_, _, _], _ => rfl)
    (fun f cdv A' outer s H E hr => ⟨_, (pss_cons (pS 2 sc_Screen_roll_down.nd (pe_callB (call_min2 rfl) (by rfl) T.z_min (by decide +kernel) (pa_cons (pv 2) (pa_cons (pe_op (kplusA K) (pe_op op_sub (kfld K (pv 0)) (pv 1)) pe_int) pa_nil))))
      (pss_cons (ps_setLc (i := 3) (own := [("at", 5)]) rfl sc_Screen_roll_down.nd rfl rfl (sw_true rfl rfl rfl (by decide +kernel)) (pi_range1 (by rfl) T.z_range (pa_cons (pv 2) pa_nil)) (blkOk_by (own := [("at", 5)]) (N := ["self", "top", "many", "fresh", "left", "at"]) (sc := defScope s_Screen_roll_down) (by decide +kernel)) (fun _ _ _ _ _ => by exact (pG 5 sc_Screen_roll_down.nd)) (fun _ _ _ _ _ => by exact pts_nil) (fun _ _ _ _ _ => by exact (pe_cal (c_blank_row T) (hr.mono (by decide)) passN0 (pa_cons (kfld K (pv 0)) pa_nil))))
      (pss_cons (pS 4 sc_Screen_roll_down.nd (pe_slice (ksl K) (kfld K (pv 0)) (po_some (pv 1)) (po_some (pe_op op_sub (pe_op (kplusA K) (kfld K (pv 0)) pe_int) (pv 2)))))
      (pss_cons (ks_fld K (pv 0) (pe_op (kplusA K) (pe_op (kplusA K) (pe_op (kplusA K) (pe_slice (ksl K) (kfld K (pv 0)) po_none (po_some (pv 1))) (pv 3)) (pv 4)) (pe_slice (ksl K) (kfld K (pv 0)) (po_some (pe_op (kplusA K) (kfld K (pv 0)) pe_int)) po_none)))
      (pss_one (ps_expr (pe_cm K (cm_Screen_cut_off T) (hr.mono (by decide)) (passX rfl rfl rfl rfl) (pv 0) (pa_cons (pv 1) pa_nil)))))))),
    (ss_seq (ss_asg (sm_cb kc_min (sa_cons (sm_var 2) (sa_cons (sm_op kr_plus (sm_op kr_sub (sm_fld (C := "Screen") ⟨T.c_Screen, T.n_Screen_bottom⟩ (sm_var 0)) (sm_var 1)) sm_int) sa_nil))) (sg_name 2))
      (ss_seq (ss_asg (sm_fr (sl_lc (si_range1 (sa_cons (sm_var 2) sa_nil)) (go_name (by decide)) (sg_name 5) st_yes (sm_call (sa_cons (sm_fld (C := "Screen") ⟨T.c_Screen, T.n_Screen_wide⟩ (sm_var 0)) sa_nil)))) (sg_name 3))
      (ss_seq (ss_asg (sm_sl (sm_fld (C := "Screen") ⟨T.c_Screen, T.n_Screen_rows⟩ (sm_var 0)) (so_some (sm_var 1)) (so_some (sm_op kr_sub (sm_op kr_plus (sm_fld (C := "Screen") ⟨T.c_Screen, T.n_Screen_bottom⟩ (sm_var 0)) sm_int) (sm_var 2)))) (sg_name 4))
      (ss_seq (ss_fld (C := "Screen") ⟨T.c_Screen, T.n_Screen_rows⟩ (sm_var 0) (sm_op kr_plus (sm_op kr_plus (sm_op kr_plus (sm_sl (sm_fld (C := "Screen") ⟨T.c_Screen, T.n_Screen_rows⟩ (sm_var 0)) so_none (so_some (sm_var 1))) (sm_var 3)) (sm_var 4)) (sm_sl (sm_fld (C := "Screen") ⟨T.c_Screen, T.n_Screen_rows⟩ (sm_var 0)) (so_some (sm_op kr_plus (sm_fld (C := "Screen") ⟨T.c_Screen, T.n_Screen_bottom⟩ (sm_var 0)) sm_int)) so_none)))
      (ss_drop (sm_meth (sm_var 0) (sa_cons (sm_var 1) sa_nil)))))))⟩) rfl, ?_⟩
  intro top many m0 m1 h n S a ok h0 h1
  have ho := a.o
  have hs := set_self' ho
  have rl : (S.rows.length : Int) = S.high := by have := ok.rl; simpa [ScI.v] using this
  have bh : S.bottom < S.high := ok.bh
  have w2 : 2 ≤ S.wide := ok.w2
  have w60 : S.wide ≤ 60 := ok.w60
  have h40 : S.high ≤ 40 := ok.h40
  obtain ⟨m, hm⟩ : ∃ m, m = min many (S.bottom - top + 1) := ⟨_, rfl⟩
  have mm : 0 ≤ m ∧ m ≤ 40 ∧ top + m ≤ S.bottom + 1 := by omega
  have hln := lt_of_get ho
  obtain ⟨fo, hfo⟩ : ∃ fo, fo = freshO S.wide.toNat h.length m.toNat := ⟨_, rfl⟩
  obtain ⟨fr, hfr⟩ : ∃ fr, fr = freshR S.wide.toNat h.length m.toNat := ⟨_, rfl⟩
  obtain ⟨R, hR⟩ : ∃ R, R = cutL S.rows none (some top) ++ (fr ++ (cutL S.rows (some top) (some (S.bottom + 1 - m)) ++ cutL S.rows (some (S.bottom + 1)) none)) := ⟨_, rfl⟩
  have p4 := parts4 S.rows (t := top) (m := S.bottom + 1 - m - top) (b := S.bottom + 1) h0 (by omega) (by omega)
  have et : top + (S.bottom + 1 - m - top) = S.bottom + 1 - m := by omega
  rw [et] at p4
  have c2 := cut_len S.rows none (some top)
  have c3 := cut_len S.rows (some top) (some (S.bottom + 1 - m))
  have c4 := cut_len S.rows (some (S.bottom + 1)) none
  have frl : fr.length = m.toNat := by rw [hfr, freshR_len]
  have k2 : (cutL S.rows none (some top)).length + fr.length ≤ sizeLine := le_sz' (by omega)
  have k3 : (cutL S.rows none (some top)).length + fr.length + (cutL S.rows (some top) (some (S.bottom + 1 - m))).length ≤ sizeLine := le_sz' (by omega)
  have k4 : (cutL S.rows none (some top)).length + (fr.length + (cutL S.rows (some top) (some (S.bottom + 1 - m))).length) + (cutL S.rows (some (S.bottom + 1)) none).length ≤ sizeLine := le_sz' (by omega)
  have k5 : m.toNat ≤ sizeLine := le_sz' (by omega)
  have k6 : -2 ^ 62 ≤ m ∧ m < 2 ^ 62 := by omega
  have hnd : ∀ (f : RowI → Nat) (c : Nat), ((S.past ++ R).map f).count c ≤ ((S.past ++ S.rows).map f).count c + (fr.map f).count c := fun f c => by
    have e4 : (S.rows.map f).count c = ((cutL S.rows none (some top)).map f).count c + (((cutL S.rows (some top) (some (S.bottom + 1 - m))).map f).count c + (((cutL S.rows (some (S.bottom + 1 - m)) (some (S.bottom + 1))).map f).count c + ((cutL S.rows (some (S.bottom + 1)) none).map f).count c)) := by
      conv => lhs; rw [p4]
      simp only [List.map_append, List.count_append]
    rw [hR]
    simp only [List.map_append, List.count_append]
    omega
  have hmem : ∀ r ∈ S.past ++ R, r ∈ S.past ++ S.rows ∨ r ∈ fr := fun r hr => by
    have sub : ∀ lo hi, ∀ q ∈ cutL S.rows lo hi, q ∈ S.rows := fun lo hi q hq => List.mem_of_mem_drop (List.mem_of_mem_take hq)
    rcases List.mem_append.mp hr with z | z
    · exact .inl (List.mem_append_left _ z)
    · rw [hR] at z
      simp only [List.mem_append] at z
      rcases z with z | z | z | z
      · exact .inl (List.mem_append_right _ (sub _ _ r z))
      · exact .inr z
      · exact .inl (List.mem_append_right _ (sub _ _ r z))
      · exact .inl (List.mem_append_right _ (sub _ _ r z))
  have hRl : (R.length : Int) = S.high := by
    have := congrArg List.length p4
    simp only [List.length_append] at this
    rw [hR]
    simp only [List.length_append]
    have e : (cutL S.rows (some (S.bottom + 1 - m)) (some (S.bottom + 1))).length = m.toNat := by
      rw [cut_mid _ (by omega) (by omega), List.length_take, List.length_drop]
      omega
    omega
  have a2 := a.reRows (H := h.set n (scO { S with rows := R }) ++ fo) (w := S.wide.toNat) (k := m.toNat) (S' := { S with rows := R }) rfl rfl rfl (by rw [List.length_append, List.length_set]; omega) (get_app (hs _)) (fun q hq hne => by
      rw [List.getElem?_append_left (by rw [List.length_set]; exact hq), set_ne' hne]) (fun r hr => by
      have := freshR_at S.wide.toNat m.toNat (h.set n (scO { S with rows := R })) r (by rw [List.length_set]; exact hr)
      rw [List.length_set] at this
      rw [hfo]
      exact this) (fun r hr => hfr ▸ hmem r hr) (fun f c => hfr ▸ hnd f c)
  obtain ⟨a2, f2⟩ := a2
  obtain ⟨h', S', e3, a3, v3, f3, _⟩ := run_Screen_cut_off _ n _ top a2 hRl (show 0 ≤ S.bottom by omega) bh h0 (show top ≤ S.high by omega)
  refine ⟨h', S', ?_, a3, ?_, f2.trans f3⟩
  · replace hm := hm.symm
    replace hR := hR.symm
    replace hfo := hfo.symm
    replace hfr := hfr.symm
    have g2 : (h ++ fo)[n]? = some (scO S) := get_app ho
    have g4 : ∀ y : ScI, (h ++ fo).set n (scO y) = h.set n (scO y) ++ fo := fun y => set_app hln _
    have g1 : ∀ x : ScI, (h.set n (scO x) ++ fo)[n]? = some (scO x) := fun x => get_app (hs _)
    clear p4 et hnd hmem a2 f2 f3 v3 a3 a ok c2 c3 c4 rl hRl frl
    walk_at "es"
    rw [lc_fresh0 (w := S.wide) (by omega) (by omega)]
    · walk_at "es"
    · intro x t
      refine ⟨_, rfl, ?_⟩
      have g5 : (h ++ t)[n]? = some (scO S) := get_app ho
      walk_at "es"
  · rw [v3]
    have em : S.v.many top many = m := hm.symm
    unfold Sr.rollDown
    rw [em]
    congr 1
    have eR : R.map RowI.v = cutL S.v.rows none (some top) ++ List.replicate m.toNat (bl S.v.wide) ++ cutL S.v.rows (some top) (some (S.v.bottom + 1 - m)) ++ cutL S.v.rows (some (S.v.bottom + 1)) none := by
      rw [hR, hfr]
      unfold ScI.v
      simp only [cutL_map, List.map_append, freshR_v, List.append_assoc]
      rfl
    rw [← eR]
    rfl
noncomputable def F_Screen_roll_down : List D → M D := Classical.choose ex_Screen_roll_down
theorem cm_Screen_roll_down {P : Program} {w : World} {K : PySem.W.Frag} {mg : Str → Option Value} {base : Heap} {Ts : List (Addr × Str)} (T : GT K mg) : CalM P w K mg base (XC P w) 4 "Screen" "roll_down" ["self", "top", "many"] (spM K Ts 3 F_Screen_roll_down) := (Classical.choose_spec ex_Screen_roll_down).1 T
theorem run_Screen_roll_down : Q_Screen_roll_down F_Screen_roll_down := (Classical.choose_spec ex_Screen_roll_down).2
/-! ### down, up -/
def Sr.down (s : Sr) : Sr := if s.row = s.bottom then s.roll s.top 1 else if s.row < s.high - 1 then { s with row := s.row + 1 } else s
def Sr.up (s : Sr) : Sr := if s.row = s.top then s.rollDown s.top 1 else if 0 < s.row then { s with row := s.row - 1 } else s
def Q_Screen_down (F : List D → M D) : Prop := Does F [] Sr.down
theorem sc_Screen_down : FnScope ["self"] ["self"] (defScope s_Screen_down) := ⟨rfl, rfl, rfl, by decide +kernel, rfl, by decide +kernel, by decide +kernel⟩
theorem ex_Screen_down : ∃ F : List D → M D, (∀ {P : Program} {w : World} {K : PySem.W.Frag} {mg : Str → Option Value} {base : Heap} {Ts : List (Addr × Str)} (T : GT K mg), CalM P w K mg base (XC P w) 5 "Screen" "down" ["self"] (spM K Ts 1 F)) ∧ Q_Screen_down F := by
  refine ⟨_, fun {P w K mg base Ts} T => calM_R T.f_Screen_down T.c_Screen T.m_Screen_down sc_Screen_down (fun _ _ _ _ _ _ us hl => match us, hl with | [_], _ => rfl)
    (fun f cdv A' outer s H E hr => ⟨_, (pss_one (ps_if (pt_cmpR (keq K hr.units) (kfld K (pv 0)) (kfld K (pv 0)) (nomark _)) (pss_one (ps_expr (pe_cm K (cm_Screen_roll T) (hr.mono (by decide)) (passX rfl rfl rfl rfl) (pv 0) (pa_cons (kfld K (pv 0)) (pa_cons pe_int pa_nil))))) (pss_one (ps_if (pt_cmpR op_lt (kfld K (pv 0)) (pe_op op_sub (kfld K (pv 0)) pe_int) (nomark _)) (pss_one (ks_fld K (pv 0) (pe_op (kplusA K) (kfld K (pv 0)) pe_int))) pss_nil)))),
    (ss_if (st_test (sm_op kr_eq (sm_fld (C := "Screen") ⟨T.c_Screen, T.n_Screen_row⟩ (sm_var 0)) (sm_fld (C := "Screen") ⟨T.c_Screen, T.n_Screen_bottom⟩ (sm_var 0)))) (ss_drop (sm_meth (sm_var 0) (sa_cons (sm_fld (C := "Screen") ⟨T.c_Screen, T.n_Screen_top⟩ (sm_var 0)) (sa_cons sm_int sa_nil)))) (ss_if (st_test (sm_op kr_lt (sm_fld (C := "Screen") ⟨T.c_Screen, T.n_Screen_row⟩ (sm_var 0)) (sm_op kr_sub (sm_fld (C := "Screen") ⟨T.c_Screen, T.n_Screen_high⟩ (sm_var 0)) sm_int))) (ss_fld (C := "Screen") ⟨T.c_Screen, T.n_Screen_row⟩ (sm_var 0) (sm_op kr_plus (sm_fld (C := "Screen") ⟨T.c_Screen, T.n_Screen_row⟩ (sm_var 0)) sm_int)) ss_next))⟩) rfl, ?_⟩
  intro h n S a ok
  have ho := a.o
  have hs := set_self' ho
  have vr : S.v.row = S.row := rfl
  have vb : S.v.bottom = S.bottom := rfl
  have vh : S.v.high = S.high := rfl
  unfold Sr.down
  rw [vr, vb, vh]
  by_cases e1 : S.row = S.bottom
  · rw [if_pos e1]
    obtain ⟨h', S', e3, a3, v3, f3, _⟩ := run_Screen_roll S.top 1 (by omega) (by omega) h n S a ok ok.t0 (Int.le_of_lt ok.tb)
    refine ⟨h', S', ?_, a3, v3, f3⟩
    clear a3 v3 f3 a ok vr vb vh
    walk_at "es"
  · rw [if_neg e1]
    by_cases e2 : S.row < S.high - 1
    · rw [if_pos e2]
      refine ⟨_, { S with row := S.row + 1 }, ?_, a.set _ rfl rfl rfl rfl rfl, rfl, fr_set a _ rfl rfl rfl _⟩
      clear a ok vr vb vh
      walk_at "es"
    · rw [if_neg e2]
      refine ⟨h, S, ?_, a, rfl, Fr.refl _ _⟩
      clear a ok vr vb vh
      walk_at "es"
noncomputable def F_Screen_down : List D → M D := Classical.choose ex_Screen_down
theorem cm_Screen_down {P : Program} {w : World} {K : PySem.W.Frag} {mg : Str → Option Value} {base : Heap} {Ts : List (Addr × Str)} (T : GT K mg) : CalM P w K mg base (XC P w) 5 "Screen" "down" ["self"] (spM K Ts 1 F_Screen_down) := (Classical.choose_spec ex_Screen_down).1 T
theorem run_Screen_down : Q_Screen_down F_Screen_down := (Classical.choose_spec ex_Screen_down).2
def Q_Screen_up (F : List D → M D) : Prop := Does F [] Sr.up
theorem sc_Screen_up : FnScope ["self"] ["self"] (defScope s_Screen_up) := ⟨rfl, rfl, rfl, by decide +kernel, rfl, by decide +kernel, by decide +kernel⟩
theorem ex_Screen_up : ∃ F : List D → M D, (∀ {P : Program} {w : World} {K : PySem.W.Frag} {mg : Str → Option Value} {base : Heap} {Ts : List (Addr × Str)} (T : GT K mg), CalM P w K mg base (XC P w) 5 "Screen" "up" ["self"] (spM K Ts 1 F)) ∧ Q_Screen_up F := by
  refine ⟨_, fun {P w K mg base Ts} T => calM_R T.f_Screen_up T.c_Screen T.m_Screen_up sc_Screen_up (fun _ _ _ _ _ _ us hl => match us, hl with | [_], _ => rfl)
    (fun f cdv A' outer s H E hr => ⟨_, (pss_one (ps_if (pt_cmpR (keq K hr.units) (kfld K (pv 0)) (kfld K (pv 0)) (nomark _)) (pss_one (ps_expr (pe_cm K (cm_Screen_roll_down T) (hr.mono (by decide)) (passX rfl rfl rfl rfl) (pv 0) (pa_cons (kfld K (pv 0)) (pa_cons pe_int pa_nil))))) (pss_one (ps_if (pt_cmpR op_gt (kfld K (pv 0)) pe_int (nomark _)) (pss_one (ks_fld K (pv 0) (pe_op op_sub (kfld K (pv 0)) pe_int))) pss_nil)))),
    (ss_if (st_test (sm_op kr_eq (sm_fld (C := "Screen") ⟨T.c_Screen, T.n_Screen_row⟩ (sm_var 0)) (sm_fld (C := "Screen") ⟨T.c_Screen, T.n_Screen_top⟩ (sm_var 0)))) (ss_drop (sm_meth (sm_var 0) (sa_cons (sm_fld (C := "Screen") ⟨T.c_Screen, T.n_Screen_top⟩ (sm_var 0)) (sa_cons sm_int sa_nil)))) (ss_if (st_test (sm_op kr_gt (sm_fld (C := "Screen") ⟨T.c_Screen, T.n_Screen_row⟩ (sm_var 0)) sm_int)) (ss_fld (C := "Screen") ⟨T.c_Screen, T.n_Screen_row⟩ (sm_var 0) (sm_op kr_sub (sm_fld (C := "Screen") ⟨T.c_Screen, T.n_Screen_row⟩ (sm_var 0)) sm_int)) ss_next))⟩) rfl, ?_⟩
  intro h n S a ok
  have ho := a.o
  have hs := set_self' ho
  have vr : S.v.row = S.row := rfl
  have vb : S.v.top = S.top := rfl
  unfold Sr.up
  rw [vr, vb]
  by_cases e1 : S.row = S.top
  · rw [if_pos e1]
    obtain ⟨h', S', e3, a3, v3, f3⟩ := run_Screen_roll_down S.top 1 (by omega) (by omega) h n S a ok ok.t0 (Int.le_of_lt ok.tb)
    refine ⟨h', S', ?_, a3, v3, f3⟩
    clear a3 v3 f3 a ok vr vb
    walk_at "es"
  · rw [if_neg e1]
    by_cases e2 : 0 < S.row
    · rw [if_pos e2]
      refine ⟨_, { S with row := S.row - 1 }, ?_, a.set _ rfl rfl rfl rfl rfl, rfl, fr_set a _ rfl rfl rfl _⟩
      clear a ok vr vb
      walk_at "es"
    · rw [if_neg e2]
      refine ⟨h, S, ?_, a, rfl, Fr.refl _ _⟩
      clear a ok vr vb
      walk_at "es"
noncomputable def F_Screen_up : List D → M D := Classical.choose ex_Screen_up
theorem cm_Screen_up {P : Program} {w : World} {K : PySem.W.Frag} {mg : Str → Option Value} {base : Heap} {Ts : List (Addr × Str)} (T : GT K mg) : CalM P w K mg base (XC P w) 5 "Screen" "up" ["self"] (spM K Ts 1 F_Screen_up) := (Classical.choose_spec ex_Screen_up).1 T
theorem run_Screen_up : Q_Screen_up F_Screen_up := (Classical.choose_spec ex_Screen_up).2
theorem does_stand (r c : Int) : Does F_Screen_stand [.int r, .int c] fun s => s.stand r c := fun h n S a _ =>
  ⟨_, { S with row := max 0 (min (S.high - 1) r), col := max 0 (min (S.wide - 1) c), full := false }, run_Screen_stand h n S r c a.o, a.set _ rfl rfl rfl rfl rfl, rfl, fr_set a _ rfl rfl rfl _⟩
end Sc

namespace Sc
open PySem PySem.Spec PyProof.Rows L2
/-! ### what holds goes on to hold -/
theorem mem_offAt {l : List Rw} {i : Int} {r : Rw} (h : r ∈ offAt l i) : ∃ q ∈ l, r.cells = q.cells := by
  obtain ⟨j, hj⟩ := List.getElem?_of_mem h
  unfold offAt at hj
  rw [List.getElem?_modify] at hj
  obtain ⟨q, h1, h2⟩ := Option.map_eq_some_iff.mp hj
  refine ⟨q, List.mem_of_getElem? h1, ?_⟩
  rw [← h2]
  split <;> rfl
theorem Sr.ok.cutOff {s : Sr} (k : s.ok) (top : Int) : (s.cutOff top).ok := by
  refine { k with rl := ?_, rc := fun r hr => ?_ }
  · show ((offAt _ _).length : Int) = _
    rw [offAt_len]
    split
    · rw [offAt_len]; exact k.rl
    · exact k.rl
  · obtain ⟨q, h1, e1⟩ := mem_offAt hr
    rw [e1]
    split at h1
    · obtain ⟨q2, h2, e2⟩ := mem_offAt h1
      rw [e2]
      exact k.rc q2 h2
    · exact k.rc q h1
theorem mem_cutL {α : Type} {l : List α} {lo hi : Option Int} {x : α} (h : x ∈ cutL l lo hi) : x ∈ l := List.mem_of_mem_drop (List.mem_of_mem_take h)
theorem bl_len {w : Int} (h : 0 ≤ w) : ((bl w).cells.length : Int) = w := by
  show ((List.replicate w.toNat blank).length : Int) = w
  rw [List.length_replicate]
  omega
theorem Sr.ok.roll {s : Sr} (k : s.ok) {top many : Int} (h0 : 0 ≤ top) (h1 : top ≤ s.bottom) (hm : 0 ≤ many) : (s.roll top many).ok := by
  have w2 := k.w2
  have hb := k.bh
  have rl := k.rl
  have m0 := k.m0
  have em : s.many top many = min many (s.bottom - top + 1) := rfl
  obtain ⟨m, hm'⟩ : ∃ m, m = s.many top many := ⟨_, rfl⟩
  have mm : 0 ≤ m ∧ top + m ≤ s.bottom + 1 := by omega
  unfold Sr.roll
  rw [← hm']
  apply Sr.ok.cutOff
  have p4 := parts4 s.rows h0 mm.1 mm.2
  refine { k with rl := ?_, rc := fun r hr => ?_, pl := ?_, pc := fun r hr => ?_ }
  · have := congrArg List.length p4
    simp only [List.length_append] at this
    have e : (cutL s.rows (some top) (some (top + m))).length = m.toNat := by
      rw [cut_mid _ h0 (by omega), List.length_take, List.length_drop]
      omega
    simp only [List.length_append, List.length_replicate]
    omega
  · simp only [List.mem_append] at hr
    rcases hr with ((z | z) | z) | z
    · exact k.rc r (mem_cutL z)
    · exact k.rc r (mem_cutL z)
    · rw [(List.mem_replicate.mp z).2]
      exact bl_len (by omega)
    · exact k.rc r (mem_cutL z)
  · show ((if top = 0 then _ else s.past).length : Int) ≤ s.most
    split
    · rw [cut_lo _ (by omega), cut_hi _ (by omega), List.length_drop, List.length_append, List.length_take]
      have := k.pl
      omega
    · exact k.pl
  · have hr : r ∈ (if top = 0 then _ else s.past) := hr
    split at hr
    · rcases List.mem_append.mp (mem_cutL hr) with z | z
      · exact k.pc r z
      · exact k.rc r (mem_cutL z)
    · exact k.pc r hr
theorem Sr.ok.rollDown {s : Sr} (k : s.ok) {top many : Int} (h0 : 0 ≤ top) (h1 : top ≤ s.bottom) (hm : 0 ≤ many) : (s.rollDown top many).ok := by
  have w2 := k.w2
  have hb := k.bh
  have rl := k.rl
  have em : s.many top many = min many (s.bottom - top + 1) := rfl
  obtain ⟨m, hm'⟩ : ∃ m, m = s.many top many := ⟨_, rfl⟩
  have mm : 0 ≤ m ∧ top + m ≤ s.bottom + 1 := by omega
  unfold Sr.rollDown
  rw [← hm']
  apply Sr.ok.cutOff
  have p4 := parts4 s.rows (t := top) (m := s.bottom + 1 - m - top) (b := s.bottom + 1) h0 (by omega) (by omega)
  have et : top + (s.bottom + 1 - m - top) = s.bottom + 1 - m := by omega
  rw [et] at p4
  refine { k with rl := ?_, rc := fun r hr => ?_ }
  · have := congrArg List.length p4
    simp only [List.length_append] at this
    have e : (cutL s.rows (some (s.bottom + 1 - m)) (some (s.bottom + 1))).length = m.toNat := by
      rw [cut_mid _ (by omega) (by omega), List.length_take, List.length_drop]
      omega
    simp only [List.length_append, List.length_replicate]
    omega
  · simp only [List.mem_append] at hr
    rcases hr with ((z | z) | z) | z
    · exact k.rc r (mem_cutL z)
    · rw [(List.mem_replicate.mp z).2]
      exact bl_len (by omega)
    · exact k.rc r (mem_cutL z)
    · exact k.rc r (mem_cutL z)
theorem Sr.ok.stand {s : Sr} (k : s.ok) (r c : Int) : (s.stand r c).ok := by
  have w2 := k.w2
  have h2 := k.h2
  refine { k with r0 := ?_, rh := ?_, c0 := ?_, cw := ?_ }
  · show 0 ≤ max 0 (min (s.high - 1) r); omega
  · show max 0 (min (s.high - 1) r) < s.high; omega
  · show 0 ≤ max 0 (min (s.wide - 1) c); omega
  · show max 0 (min (s.wide - 1) c) < s.wide; omega
theorem Sr.ok.down {s : Sr} (k : s.ok) : s.down.ok := by
  unfold Sr.down
  split
  · exact k.roll k.t0 (Int.le_of_lt k.tb) (by omega)
  · have := k.r0
    split
    · refine { k with r0 := ?_, rh := ?_ }
      · show 0 ≤ s.row + 1; omega
      · show s.row + 1 < s.high; omega
    · exact k
theorem Sr.ok.up {s : Sr} (k : s.ok) : s.up.ok := by
  unfold Sr.up
  split
  · exact k.rollDown k.t0 (Int.le_of_lt k.tb) (by omega)
  · have := k.rh
    split
    · refine { k with r0 := ?_, rh := ?_ }
      · show 0 ≤ s.row - 1; omega
      · show s.row - 1 < s.high; omega
    · exact k
/-! ### put -/
def onAt (l : List Rw) (i : Int) (b : Bool) : List Rw := l.modify i.toNat fun r => { r with on := b }
def Sr.wrap (s : Sr) : Sr := if s.full = true then
    let d := Sr.down { s with rows := onAt s.rows s.row (decide (s.row = s.bottom) || decide (s.row < s.high - 1)) }
    d.stand d.row 0
  else s
def Sr.put1 (s : Sr) (c : Nat) : Sr := { s with rows := s.rows.modify s.row.toNat fun r => { r with cells := r.cells.set s.col.toNat ⟨c, s.pen⟩ }, last := some c }
def Sr.step (s : Sr) : Sr := if s.col = s.wide - 1 then { s with full := true } else { s with col := s.col + 1 }
def Sr.put (s : Sr) (c : Nat) : Sr := (s.wrap.put1 c).step
theorem mem_modify {l : List Rw} {i : Nat} {f : Rw → Rw} {r : Rw} (h : r ∈ l.modify i f) : ∃ q ∈ l, r = q ∨ r = f q := by
  obtain ⟨j, hj⟩ := List.getElem?_of_mem h
  rw [List.getElem?_modify] at hj
  obtain ⟨q, h1, h2⟩ := Option.map_eq_some_iff.mp hj
  refine ⟨q, List.mem_of_getElem? h1, ?_⟩
  rw [← h2]
  split
  · exact .inr rfl
  · exact .inl rfl
theorem Sr.ok.on {s : Sr} (k : s.ok) (i : Int) (b : Bool) : Sr.ok { s with rows := onAt s.rows i b } := by
  refine { k with rl := ?_, rc := fun r hr => ?_ }
  · show ((s.rows.modify _ _).length : Int) = _
    rw [List.length_modify]
    exact k.rl
  · obtain ⟨q, h1, e⟩ := mem_modify hr
    rcases e with rfl | rfl
    · exact k.rc r h1
    · exact k.rc q h1
theorem Sr.ok.wrap {s : Sr} (k : s.ok) : s.wrap.ok := by
  unfold Sr.wrap
  split
  · exact (k.on _ _).down.stand _ _
  · exact k
theorem Sr.ok.put1 {s : Sr} (k : s.ok) (c : Nat) : (s.put1 c).ok := by
  refine { k with rl := ?_, rc := fun r hr => ?_ }
  · show ((s.rows.modify _ _).length : Int) = _
    rw [List.length_modify]
    exact k.rl
  · obtain ⟨q, h1, e⟩ := mem_modify hr
    rcases e with rfl | rfl
    · exact k.rc r h1
    · show ((q.cells.set _ _).length : Int) = _
      rw [List.length_set]
      exact k.rc q h1
theorem Sr.ok.step {s : Sr} (k : s.ok) : s.step.ok := by
  have h0 := k.c0
  have h1 := k.cw
  unfold Sr.step
  split
  · exact { k with }
  · refine { k with c0 := ?_, cw := ?_ }
    · show 0 ≤ s.col + 1; omega
    · show s.col + 1 < s.wide; omega
theorem Sr.ok.put {s : Sr} (k : s.ok) (c : Nat) : (s.put c).ok := (k.wrap.put1 c).step
theorem map_mod {l : List RowI} {i : Nat} {r r' : RowI} {f : Rw → Rw} (hi : l[i]? = some r) (hf : r'.v = f r.v) : (l.set i r').map RowI.v = (l.map RowI.v).modify i f := by
  apply List.ext_getElem?
  intro j
  rw [List.getElem?_map, List.getElem?_modify, List.getElem?_map]
  by_cases e : i = j
  · subst e
    rw [List.getElem?_set_self (List.getElem?_eq_some_iff.mp hi).1, hi]
    simp [hf]
  · rw [List.getElem?_set_ne e]
    simp [e]
/-- the last part of put -/
theorem put_tail {h : MH} {n : Nat} {S : ScI} (a : ScAt h n S) (ok : S.v.ok) (c : Nat) : ∃ r, S.rows[S.row.toNat]? = some r ∧ h[r.id]? = some (rowO r.cid r.on) ∧ h[r.cid]? = some (clsO r.cells) ∧ atI (S.rows.map RowI.r) S.row = some (.ref r.id) ∧ ixN r.cells.length S.col = some S.col.toNat ∧
    (h.set r.cid (clsO (r.cells.set S.col.toNat ⟨c, S.pen⟩)))[n]? = some (scO S) ∧
    ∃ S' : ScI, ScAt ((h.set r.cid (clsO (r.cells.set S.col.toNat ⟨c, S.pen⟩))).set n (scO S')) n S' ∧ S'.v = (S.v.put1 c).step ∧ Fr h (ids n S) ((h.set r.cid (clsO (r.cells.set S.col.toNat ⟨c, S.pen⟩))).set n (scO S')) (ids n S') ∧
      S'.fs = ScI.fs (if S.col = S.wide - 1 then { S with last := some c, full := true } else { S with last := some c, col := S.col + 1 }) := by
  have rl : (S.rows.length : Int) = S.high := by have := ok.rl; simpa [ScI.v] using this
  have r0 : 0 ≤ S.row := ok.r0
  have rh : S.row < S.high := ok.rh
  have c0 : 0 ≤ S.col := ok.c0
  have cw : S.col < S.wide := ok.cw
  obtain ⟨r, hi⟩ := get_some (l := S.rows) r0 (by omega)
  have hm : r ∈ S.past ++ S.rows := List.mem_append_right _ (List.mem_of_getElem? hi)
  obtain ⟨o1, o2⟩ := a.rows r hm
  have rc : (r.cells.length : Int) = S.wide := ok.rc r.v (List.mem_map.mpr ⟨r, List.mem_of_getElem? hi, rfl⟩)
  obtain ⟨a1, f1⟩ := a.setCells hi (r.cells.set S.col.toNat ⟨c, S.pen⟩)
  have ho1 : (h.set r.cid (clsO (r.cells.set S.col.toNat ⟨c, S.pen⟩)))[n]? = some (scO S) := by
    rw [set_ne' (Ne.symm (a.ne_id hm).2.1)]
    exact a.o
  have er : (S.rows.set S.row.toNat { r with cells := r.cells.set S.col.toNat ⟨c, S.pen⟩ }).map RowI.r = S.rows.map RowI.r := map_set_same hi rfl
  have ev : (S.rows.set S.row.toNat { r with cells := r.cells.set S.col.toNat ⟨c, S.pen⟩ }).map RowI.v = (S.rows.map RowI.v).modify S.row.toNat fun r => { r with cells := r.cells.set S.col.toNat ⟨c, S.pen⟩ } := map_mod hi rfl
  refine ⟨r, hi, o1, o2, by rw [atI_map, atI_get' r0 hi]; rfl, ixN_nat c0 (by omega), ho1, ?_⟩
  by_cases e : S.col = S.wide - 1
  · refine ⟨{ S with last := some c, full := true, rows := S.rows.set S.row.toNat { r with cells := r.cells.set S.col.toNat ⟨c, S.pen⟩ } }, a1.set _ rfl rfl rfl rfl rfl, ?_, f1.trans (fr_set a1 _ rfl rfl rfl _), by rw [if_pos e]; unfold ScI.fs; rw [er]⟩
    have e' : (S.v.put1 c).col = (S.v.put1 c).wide - 1 := e
    unfold Sr.step
    rw [if_pos e']
    unfold Sr.put1 ScI.v
    simp only [ev]
  · refine ⟨{ S with last := some c, col := S.col + 1, rows := S.rows.set S.row.toNat { r with cells := r.cells.set S.col.toNat ⟨c, S.pen⟩ } }, a1.set _ rfl rfl rfl rfl rfl, ?_, f1.trans (fr_set a1 _ rfl rfl rfl _), by rw [if_neg e]; unfold ScI.fs; rw [er]⟩
    have e' : ¬ (S.v.put1 c).col = (S.v.put1 c).wide - 1 := e
    unfold Sr.step
    rw [if_neg e']
    unfold Sr.put1 ScI.v
    simp only [ev]
theorem put_cell (cs : List Cl) (j c : Nat) (p : Pn) : (cs.map Cl.d).set j (.tuple [.str ⟨#[c]⟩, p.d]) = (cs.set j ⟨c, p⟩).map Cl.d := by
  rw [List.map_set]
  rfl
def Q_Screen_put (F : List D → M D) : Prop := ∀ c : Nat, Does F [.str ⟨#[c]⟩] fun s => s.put c
theorem sc_Screen_put : FnScope ["self", "sign"] ["self", "sign"] (defScope s_Screen_put) := ⟨rfl, rfl, rfl, by decide +kernel, rfl, by decide +kernel, by decide +kernel⟩
theorem ex_Screen_put : ∃ F : List D → M D, (∀ {P : Program} {w : World} {K : PySem.W.Frag} {mg : Str → Option Value} {base : Heap} {Ts : List (Addr × Str)} (T : GT K mg), CalM P w K mg base (XC P w) 6 "Screen" "put" ["self", "sign"] (spM K Ts 2 F)) ∧ Q_Screen_put F := by
  refine ⟨_, fun {P w K mg base Ts} T => calM_R T.f_Screen_put T.c_Screen T.m_Screen_put sc_Screen_put (fun _ _ _ _ _ _ us hl => match us, hl with | [_, _], _ => rfl)
    (fun f cdv A' outer s H E hr => ⟨_, (pss_cons (ps_if (pt_val (kfld K (pv 0))) (pss_cons (ks_fld K (pe_ix (kix K) (kfld K (pv 0)) (kfld K (pv 0)) (fun _ _ => rfl)) (pe_or (pe_cmpR (keq K hr.units) (kfld K (pv 0)) (kfld K (pv 0)) (nomark _)) (pe_one (pe_cmpR op_lt (kfld K (pv 0)) (pe_op op_sub (kfld K (pv 0)) pe_int) (nomark _)))))
      (pss_cons (ps_expr (pe_cm0 K (cm_Screen_down T) (hr.mono (by decide)) (passX rfl rfl rfl rfl) (pv 0)))
      (pss_one (ps_expr (pe_cm K (cm_Screen_stand T) (hr.mono (by decide)) (passX rfl rfl rfl rfl) (pv 0) (pa_cons (kfld K (pv 0)) (pa_cons pe_int pa_nil))))))) pss_nil)
      (pss_cons (ps_asg (pe_tup (pa_cons (pv 1) (pa_cons (kfld K (pv 0)) pa_nil))) (pg_sub (kfld K (pe_ix (kix K) (kfld K (pv 0)) (kfld K (pv 0)) (fun _ _ => rfl))) (kfld K (pv 0)) set_list))
      (pss_cons (ks_fld K (pv 0) (pv 1))
      (pss_one (ps_if (pt_cmpR (keq K hr.units) (kfld K (pv 0)) (pe_op op_sub (kfld K (pv 0)) pe_int) (nomark _)) (pss_one (ks_fld K (pv 0) pe_bl)) (pss_one (ks_fld K (pv 0) (pe_op (kplusA K) (kfld K (pv 0)) pe_int)))))))),
    (ss_seq (ss_if (st_B (sm_fld (C := "Screen") ⟨T.c_Screen, T.n_Screen_is_full⟩ (sm_var 0))) (ss_seq (ss_fld (C := "Row") ⟨T.c_Row, T.n_Row_goes_on⟩ (sm_op kr_ix (sm_fld (C := "Screen") ⟨T.c_Screen, T.n_Screen_rows⟩ (sm_var 0)) (sm_fld (C := "Screen") ⟨T.c_Screen, T.n_Screen_row⟩ (sm_var 0))) (sm_or (sm_op kr_eq (sm_fld (C := "Screen") ⟨T.c_Screen, T.n_Screen_row⟩ (sm_var 0)) (sm_fld (C := "Screen") ⟨T.c_Screen, T.n_Screen_bottom⟩ (sm_var 0))) (sm_op kr_lt (sm_fld (C := "Screen") ⟨T.c_Screen, T.n_Screen_row⟩ (sm_var 0)) (sm_op kr_sub (sm_fld (C := "Screen") ⟨T.c_Screen, T.n_Screen_high⟩ (sm_var 0)) sm_int))))
      (ss_seq (ss_drop (sm_meth (sm_var 0) sa_nil))
      (ss_drop (sm_meth (sm_var 0) (sa_cons (sm_fld (C := "Screen") ⟨T.c_Screen, T.n_Screen_row⟩ (sm_var 0)) (sa_cons sm_int sa_nil)))))) ss_next)
      (ss_seq (ss_asg (sm_tup (sa_cons (sm_var 1) (sa_cons (sm_fld (C := "Screen") ⟨T.c_Screen, T.n_Screen_pen⟩ (sm_var 0)) sa_nil))) (sg_sub (sm_fld (C := "Row") ⟨T.c_Row, T.n_Row_cells⟩ (sm_op kr_ix (sm_fld (C := "Screen") ⟨T.c_Screen, T.n_Screen_rows⟩ (sm_var 0)) (sm_fld (C := "Screen") ⟨T.c_Screen, T.n_Screen_row⟩ (sm_var 0)))) (sm_fld (C := "Screen") ⟨T.c_Screen, T.n_Screen_column⟩ (sm_var 0))))
      (ss_seq (ss_fld (C := "Screen") ⟨T.c_Screen, T.n_Screen_last⟩ (sm_var 0) (sm_var 1))
      (ss_if (st_test (sm_op kr_eq (sm_fld (C := "Screen") ⟨T.c_Screen, T.n_Screen_column⟩ (sm_var 0)) (sm_op kr_sub (sm_fld (C := "Screen") ⟨T.c_Screen, T.n_Screen_wide⟩ (sm_var 0)) sm_int))) (ss_fld (C := "Screen") ⟨T.c_Screen, T.n_Screen_is_full⟩ (sm_var 0) sm_bl) (ss_fld (C := "Screen") ⟨T.c_Screen, T.n_Screen_column⟩ (sm_var 0) (sm_op kr_plus (sm_fld (C := "Screen") ⟨T.c_Screen, T.n_Screen_column⟩ (sm_var 0)) sm_int))))))⟩) rfl, ?_⟩
  intro c h n S a ok
  have z2 : 2 ≤ sizeLine := le_sz' (by omega)
  have lc : ∀ (S : ScI), setF "last" (.str ⟨#[c]⟩) S.fs = ScI.fs { S with last := some c } := fun _ => rfl
  have ho := a.o
  by_cases hf : S.full = true
  · -- the row goes on, the cursor goes down
    have rl : (S.rows.length : Int) = S.high := by have := ok.rl; simpa [ScI.v] using this
    have r0 : 0 ≤ S.row := ok.r0
    have rh : S.row < S.high := ok.rh
    obtain ⟨q, hq⟩ := get_some (l := S.rows) r0 (by omega)
    have hqm : q ∈ S.past ++ S.rows := List.mem_append_right _ (List.mem_of_getElem? hq)
    obtain ⟨q1, q2⟩ := a.rows q hqm
    have hqr : atI (S.rows.map RowI.r) S.row = some (.ref q.id) := by rw [atI_map, atI_get' r0 hq]; rfl
    obtain ⟨bb, hbb⟩ : ∃ bb : Bool, bb = (decide (S.row = S.bottom) || decide (S.row < S.high - 1)) := ⟨_, rfl⟩
    obtain ⟨a1, f1⟩ := a.setOn hq bb
    have ok1 : ScI.v { S with rows := S.rows.set S.row.toNat { q with on := bb } } = { S.v with rows := onAt S.v.rows S.v.row bb } := by
      unfold ScI.v onAt
      simp only [map_mod (f := fun r => { r with on := bb }) (r' := { q with on := bb }) hq rfl]
    obtain ⟨h2, S2, e2, a2, v2, f2⟩ := run_Screen_down _ n _ a1 (by rw [ok1]; exact ok.on _ _)
    rw [ok1] at v2
    have ok2 : S2.v.ok := by rw [v2]; exact (ok.on _ _).down
    obtain ⟨h3, S3, e3, a3, v3, f3⟩ := does_stand S2.row 0 h2 n S2 a2 ok2
    have ok3 : S3.v.ok := by rw [v3]; exact ok2.stand _ _
    have ew : S.v.wrap = S3.v := by
      have hf' : S.v.full = true := hf
      unfold Sr.wrap
      rw [if_pos hf', v3]
      have e : (decide (S.v.row = S.v.bottom) || decide (S.v.row < S.v.high - 1)) = bb := hbb.symm
      rw [e]
      show _ = Sr.stand S2.v S2.v.row 0
      rw [v2]
    obtain ⟨r, hi, o1, o2, hr, hx, ho1, S', a', v', f', e'⟩ := put_tail a3 ok3 c
    have hs1 := set_self' ho1
    refine ⟨_, S', ?_, a', by show _ = (S.v.wrap.put1 c).step; rw [ew]; exact v', ((f1.trans f2).trans f3).trans f'⟩
    have ho0 : (h.set q.id (rowO q.cid bb))[n]? = some (scO S) := by
      rw [set_ne' (Ne.symm (a.ne_id hqm).1)]
      exact ho
    have ho2 := a2.o
    have ho3 := a3.o
    have hpc := put_cell r.cells S3.col.toNat c S3.pen
    clear a' v' f' a ok ew hi a1 f1 ok1 a2 v2 f2 ok2 a3 v3 f3 ok3 rl hq hqm
    rw [show scO S' = MO.ins "Screen" S'.fs from rfl, e']
    clear e'
    by_cases d1 : S.row = S.bottom
    · have hb1 : bb = true := by rw [hbb, decide_eq_true d1]; rfl
      subst hb1
      have d2 := decide_eq_true d1
      clear hbb d1
      by_cases e : S3.col = S3.wide - 1
      · rw [if_pos e]
        have e4 := decide_eq_true e
        clear e
        walk_at "es"
      · rw [if_neg e]
        have e4 := decide_eq_false e
        clear e
        walk_at "es"
    · have hb1 : decide (S.row < S.high - 1) = bb := by rw [hbb, decide_eq_false d1]; rfl
      have d2 := decide_eq_false d1
      clear hbb d1
      by_cases e : S3.col = S3.wide - 1
      · rw [if_pos e]
        have e4 := decide_eq_true e
        clear e
        walk_at "es"
      · rw [if_neg e]
        have e4 := decide_eq_false e
        clear e
        walk_at "es"
  · have hf : S.full = false := by simpa using hf
    have ew : S.v.wrap = S.v := by unfold Sr.wrap; rw [if_neg (by show ¬ S.full = true; rw [hf]; decide)]
    obtain ⟨r, hi, o1, o2, hr, hx, ho1, S', a', v', f', e'⟩ := put_tail a ok c
    have hs1 := set_self' ho1
    refine ⟨_, S', ?_, a', by show _ = (S.v.wrap.put1 c).step; rw [ew]; exact v', f'⟩
    have hpc := put_cell r.cells S.col.toNat c S.pen
    clear a' v' f' a ok ew hi
    rw [show scO S' = MO.ins "Screen" S'.fs from rfl, e']
    clear e'
    by_cases e : S.col = S.wide - 1
    · rw [if_pos e]
      have e4 := decide_eq_true e
      clear e
      walk_at "es"
    · rw [if_neg e]
      have e4 := decide_eq_false e
      clear e
      walk_at "es"
noncomputable def F_Screen_put : List D → M D := Classical.choose ex_Screen_put
theorem cm_Screen_put {P : Program} {w : World} {K : PySem.W.Frag} {mg : Str → Option Value} {base : Heap} {Ts : List (Addr × Str)} (T : GT K mg) : CalM P w K mg base (XC P w) 6 "Screen" "put" ["self", "sign"] (spM K Ts 2 F_Screen_put) := (Classical.choose_spec ex_Screen_put).1 T
theorem run_Screen_put : Q_Screen_put F_Screen_put := (Classical.choose_spec ex_Screen_put).2
end Sc

namespace Sc
open PySem PySem.Spec PyProof.Rows L2
/-! ### begin -/
abbrev P5 (rid : Nat) (w hh m : Int) : List (Str × D) := [("reader", .ref rid), ("wide", .int w), ("high", .int hh), ("most", .int m), ("past", .list [])]
def bgI (S : ScI) (b : Nat) : ScI := { S with rows := freshR S.wide.toNat b S.high.toNat, row := 0, col := 0, full := false, pen := plain, top := 0, bottom := S.high - 1, byr := 0, byc := 0, byp := plain, last := none }
def Q_Screen_begin (F : List D → M D) : Prop := (∀ (h : MH) (n : Nat) (S : ScI), h[n]? = some (scO S) → 2 ≤ S.wide → S.wide ≤ 60 → 2 ≤ S.high → S.high ≤ 40 → F [.ref n] h = some (.ok .none, (h ++ freshO S.wide.toNat h.length S.high.toNat).set n (scO (bgI S h.length)))) ∧
  ∀ (h : MH) (n rid : Nat) (w hh m : Int) (B : Beg) (k : Int), h[n]? = some (.ins "Screen" (P5 rid w hh m)) → 2 ≤ w → w ≤ 60 → 2 ≤ hh → hh ≤ 40 → F [.ref n] h = some (.ok .none, (h ++ freshO w.toNat h.length hh.toNat).set n (scO (bgI ⟨rid, B, k, w, hh, m, [], [], 0, 0, false, plain, 0, 0, 0, 0, plain, none⟩ h.length)))
theorem sc_Screen_begin : FnScope ["self", "at"] ["self"] (defScope s_Screen_begin) := ⟨rfl, rfl, rfl, by decide +kernel, rfl, by decide +kernel, by decide +kernel⟩
theorem ex_Screen_begin : ∃ F : List D → M D, (∀ {P : Program} {w : World} {K : PySem.W.Frag} {mg : Str → Option Value} {base : Heap} {Ts : List (Addr × Str)} (T : GT K mg), CalM P w K mg base (XC P w) 4 "Screen" "begin" ["self"] (spM K Ts 1 F)) ∧ Q_Screen_begin F := by
  refine ⟨_, fun {P w K mg base Ts} T => calM_R T.f_Screen_begin T.c_Screen T.m_Screen_begin sc_Screen_begin (fun _ _ _ _ _ _ us hl => match us, hl with | [_], _ => rfl)
    (fun f cdv A' outer s H E hr => ⟨_, (pss_cons (ks_fld K (pv 0) (pe_lc (own := [("at", 1)]) rfl sc_Screen_begin.nd (pi_range1 (by rfl) T.z_range (pa_cons (kfld K (pv 0)) pa_nil)) (blkOk_by (own := [("at", 1)]) (N := ["self", "at"]) (sc := defScope s_Screen_begin) (by decide +kernel)) (fun _ _ _ _ _ => by exact (pG 1 sc_Screen_begin.nd)) (fun _ _ _ _ _ => by exact pts_nil) (fun _ _ _ _ _ => by exact (pe_cal (c_blank_row T) (hr.mono (by decide)) passN0 (pa_cons (kfld K (pv 0)) pa_nil)))))
      (pss_cons (ks_fld K (pv 0) pe_int)
      (pss_cons (ks_fld K (pv 0) pe_int)
      (pss_cons (ks_fld K (pv 0) pe_bl)
      (pss_cons (ks_fld K (pv 0) (pe_glob (v := .ref (He.ga K "PLAIN")) (by rfl) T.g_PLAIN rfl))
      (pss_cons (ks_fld K (pv 0) pe_int)
      (pss_cons (ks_fld K (pv 0) (pe_op op_sub (kfld K (pv 0)) pe_int))
      (pss_cons (ks_fld K (pv 0) (pe_tup (pa_cons pe_int (pa_cons pe_int (pa_cons (pe_glob (v := .ref (He.ga K "PLAIN")) (by rfl) T.g_PLAIN rfl) pa_nil)))))
      (pss_one (ks_fld K (pv 0) pe_non)))))))))),
    (ss_seq (ss_fld (C := "Screen") ⟨T.c_Screen, T.n_Screen_rows⟩ (sm_var 0) (sm_fr (sl_lc (si_range1 (sa_cons (sm_fld (C := "Screen") ⟨T.c_Screen, T.n_Screen_high⟩ (sm_var 0)) sa_nil)) (go_name (by decide)) (sg_name 1) st_yes (sm_call (sa_cons (sm_fld (C := "Screen") ⟨T.c_Screen, T.n_Screen_wide⟩ (sm_var 0)) sa_nil)))))
      (ss_seq (ss_fld (C := "Screen") ⟨T.c_Screen, T.n_Screen_row⟩ (sm_var 0) sm_int)
      (ss_seq (ss_fld (C := "Screen") ⟨T.c_Screen, T.n_Screen_column⟩ (sm_var 0) sm_int)
      (ss_seq (ss_fld (C := "Screen") ⟨T.c_Screen, T.n_Screen_is_full⟩ (sm_var 0) sm_bl)
      (ss_seq (ss_fld (C := "Screen") ⟨T.c_Screen, T.n_Screen_pen⟩ (sm_var 0) (sm_c (gd_PLAIN T)))
      (ss_seq (ss_fld (C := "Screen") ⟨T.c_Screen, T.n_Screen_top⟩ (sm_var 0) sm_int)
      (ss_seq (ss_fld (C := "Screen") ⟨T.c_Screen, T.n_Screen_bottom⟩ (sm_var 0) (sm_op kr_sub (sm_fld (C := "Screen") ⟨T.c_Screen, T.n_Screen_high⟩ (sm_var 0)) sm_int))
      (ss_seq (ss_fld (C := "Screen") ⟨T.c_Screen, T.n_Screen_put_by⟩ (sm_var 0) (sm_tup (sa_cons sm_int (sa_cons sm_int (sa_cons (sm_c (gd_PLAIN T)) sa_nil)))))
      (ss_fld (C := "Screen") ⟨T.c_Screen, T.n_Screen_last⟩ (sm_var 0) sm_non)))))))))⟩) rfl, ?_⟩
  constructor
  · intro h n S ho w2 w60 h2 h40
    obtain ⟨fo, hfo⟩ : ∃ fo, freshO S.wide.toNat h.length S.high.toNat = fo := ⟨_, rfl⟩
    have g2 : (h ++ fo)[n]? = some (scO S) := get_app ho
    have gs := set_self' g2
    have k6 : -2 ^ 62 ≤ S.high ∧ S.high < 2 ^ 62 := by omega
    have k5 : S.high.toNat ≤ sizeLine := le_sz' (by omega)
    have k3 : 3 ≤ sizeLine := le_sz' (by omega)
    have q1 : ∀ s : ScI, setF "pen" plainD s.fs = ScI.fs { s with pen := plain } := fun _ => rfl
    have q2 : ∀ s : ScI, setF "put_by" (.tuple [.int 0, .int 0, plainD]) s.fs = ScI.fs { s with byr := 0, byc := 0, byp := plain } := fun _ => rfl
    have q3 : ∀ s : ScI, setF "last" .none s.fs = ScI.fs { s with last := none } := fun _ => rfl
    walk_at "es"
    rw [lc_fresh0 (w := S.wide) (by omega) (by omega)]
    · walk_at "es"
      rfl
    · intro x t
      refine ⟨_, rfl, ?_⟩
      have g5 : (h ++ t)[n]? = some (scO S) := get_app ho
      walk_at "es"
  · intro h n rid w hh m B k ho w2 w60 h2 h40
    obtain ⟨fo, hfo⟩ : ∃ fo, freshO w.toNat h.length hh.toNat = fo := ⟨_, rfl⟩
    obtain ⟨fr, hfr⟩ : ∃ fr, freshR w.toNat h.length hh.toNat = fr := ⟨_, rfl⟩
    have g2 : (h ++ fo)[n]? = some (.ins "Screen" (P5 rid w hh m)) := get_app ho
    have gs := set_self' g2
    have k6 : -2 ^ 62 ≤ hh ∧ hh < 2 ^ 62 := by omega
    have k5 : hh.toNat ≤ sizeLine := le_sz' (by omega)
    have k3 : 3 ≤ sizeLine := le_sz' (by omega)
    have gw : getF ("wide" : Str) (P5 rid w hh m) = some (.int w) := rfl
    have gh : getF ("high" : Str) (P5 rid w hh m) = some (.int hh) := rfl
    obtain ⟨p6, e6⟩ : ∃ p6, setF "rows" (.list (fr.map RowI.r)) (P5 rid w hh m) = p6 := ⟨_, rfl⟩
    obtain ⟨p7, e7⟩ : ∃ p, setF "row" (.int 0) p6 = p := ⟨_, rfl⟩
    obtain ⟨p8, e8⟩ : ∃ p, setF "column" (.int 0) p7 = p := ⟨_, rfl⟩
    obtain ⟨p9, e9⟩ : ∃ p, setF "is_full" (.bool false) p8 = p := ⟨_, rfl⟩
    obtain ⟨p10, e10⟩ : ∃ p, setF "pen" plainD p9 = p := ⟨_, rfl⟩
    obtain ⟨p11, e11⟩ : ∃ p, setF "top" (.int 0) p10 = p := ⟨_, rfl⟩
    obtain ⟨p12, e12⟩ : ∃ p, setF "bottom" (.int (hh - 1)) p11 = p := ⟨_, rfl⟩
    obtain ⟨p13, e13⟩ : ∃ p, setF "put_by" (.tuple [.int 0, .int 0, plainD]) p12 = p := ⟨_, rfl⟩
    obtain ⟨p14, e14⟩ : ∃ p, setF "last" .none p13 = p := ⟨_, rfl⟩
    have g11 : getF ("high" : Str) p11 = some (.int hh) := by rw [← e11, ← e10, ← e9, ← e8, ← e7, ← e6]; rfl
    have l5 : (P5 rid w hh m).length = 5 := rfl
    have l6 : p6.length = 6 := by rw [← e6]; rfl
    have l7 : p7.length = 7 := by rw [← e7, ← e6]; rfl
    have l8 : p8.length = 8 := by rw [← e8, ← e7, ← e6]; rfl
    have l9 : p9.length = 9 := by rw [← e9, ← e8, ← e7, ← e6]; rfl
    have l10 : p10.length = 10 := by rw [← e10, ← e9, ← e8, ← e7, ← e6]; rfl
    have l11 : p11.length = 11 := by rw [← e11, ← e10, ← e9, ← e8, ← e7, ← e6]; rfl
    have l12 : p12.length = 12 := by rw [← e12, ← e11, ← e10, ← e9, ← e8, ← e7, ← e6]; rfl
    have l13 : p13.length = 13 := by rw [← e13, ← e12, ← e11, ← e10, ← e9, ← e8, ← e7, ← e6]; rfl
    have fin : (MO.ins "Screen" p14) = scO (bgI ⟨rid, B, k, w, hh, m, [], [], 0, 0, false, plain, 0, 0, 0, 0, plain, none⟩ h.length) := by
      rw [← e14, ← e13, ← e12, ← e11, ← e10, ← e9, ← e8, ← e7, ← e6, ← hfr]
      rfl
    rw [← fin, hfo]
    clear fin
    obtain ⟨f5, hf5⟩ : ∃ f5, P5 rid w hh m = f5 := ⟨_, rfl⟩
    rw [hf5] at ho g2 gw gh e6 l5
    clear hf5
    walk_at "es"
    rw [lc_fresh0 (w := w) (by omega) (by omega)]
    · walk_at "es"
    · intro x t
      refine ⟨_, rfl, ?_⟩
      have g5 : (h ++ t)[n]? = some (.ins "Screen" f5) := get_app ho
      walk_at "es"
noncomputable def F_Screen_begin : List D → M D := Classical.choose ex_Screen_begin
theorem cm_Screen_begin {P : Program} {w : World} {K : PySem.W.Frag} {mg : Str → Option Value} {base : Heap} {Ts : List (Addr × Str)} (T : GT K mg) : CalM P w K mg base (XC P w) 4 "Screen" "begin" ["self"] (spM K Ts 1 F_Screen_begin) := (Classical.choose_spec ex_Screen_begin).1 T
theorem run_Screen_begin : Q_Screen_begin F_Screen_begin := (Classical.choose_spec ex_Screen_begin).2
/-- all rows are new -/
theorem ScAt.fresh {h : MH} {n : Nat} {S S' : ScI} (a : ScAt h n S) (e1 : S'.rid = S.rid) (e2 : S'.beg = S.beg) (e3 : S'.lost = S.lost) (e4 : S'.past = S.past) {k : Nat} (e5 : S'.rows = freshR S.wide.toNat h.length k) :
    ScAt ((h ++ freshO S.wide.toNat h.length k).set n (scO S')) n S' ∧ Fr h (ids n S) ((h ++ freshO S.wide.toNat h.length k).set n (scO S')) (ids n S') := by
  have hl := lt_of_get a.o
  refine a.reRows (w := S.wide.toNat) (k := k) e1 e2 e3 (by rw [List.length_set, List.length_append]; omega) (set_self' (get_app a.o) _) (fun m hm hne => ?_) (fun r hr => ?_) (fun r hr => ?_) fun f c => ?_
  · rw [set_ne' hne, List.getElem?_append_left hm]
  · have h1 := freshR_ids S.wide.toNat h.length k r hr
    have h2 := freshR_at S.wide.toNat k h r hr
    rw [set_ne' (by omega), set_ne' (by omega)]
    exact h2
  · rw [e4, e5] at hr
    rcases List.mem_append.mp hr with z | z
    · exact .inl (List.mem_append_left _ z)
    · exact .inr z
  · rw [e4, e5]
    simp only [List.map_append, List.count_append]
    omega
theorem does_begin : Does F_Screen_begin [] Sr.begin := fun h n S a ok => by
  obtain ⟨a', f'⟩ := a.fresh (S' := bgI S h.length) rfl rfl rfl rfl rfl
  refine ⟨_, bgI S h.length, run_Screen_begin.1 h n S a.o ok.w2 ok.w60 ok.h2 ok.h40, a', ?_, f'⟩
  unfold bgI Sr.begin ScI.v
  simp only [freshR_v]
  rfl
theorem Sr.ok.begin {s : Sr} (k : s.ok) : s.begin.ok := by
  have w2 := k.w2
  have h2 := k.h2
  refine { k with rl := ?_, rc := fun r hr => ?_, r0 := Int.le_refl _, rh := ?_, c0 := Int.le_refl _, cw := ?_, t0 := Int.le_refl _, tb := ?_, bh := ?_ }
  · show ((List.replicate s.high.toNat (bl s.wide)).length : Int) = s.high
    rw [List.length_replicate]
    omega
  · rw [(List.mem_replicate.mp hr).2]
    exact bl_len (by omega)
  · show (0 : Int) < s.high; omega
  · show (0 : Int) < s.wide; omega
  · show (0 : Int) < s.high - 1; omega
  · show s.high - 1 < s.high; omega
end Sc

namespace Sc
open PySem PySem.Spec PyProof.Rows L2
/-! ### erase, shift -/
def blanks (k : Int) : List Cl := List.replicate k.toNat blank
def Sr.cellsAt (s : Sr) (f : List Cl → List Cl) : Sr := { s with rows := s.rows.modify s.row.toNat fun r => { r with cells := f r.cells } }
def Sr.erased (s : Sr) (c : Nat) : Sr := if c = 101 then s.cellsAt fun cs => cutL cs none (some s.col) ++ blanks (s.wide - s.col)
  else if c = 98 then s.cellsAt fun cs => blanks (s.col + 1) ++ cutL cs (some (s.col + 1)) none
  else if c = 107 then s.cellsAt fun _ => blanks s.wide
  else { s with rows := List.replicate s.high.toNat (bl s.wide) }
def Sr.erase (s : Sr) (c : Nat) : Sr := if c = 98 then { s.erased c with full := false } else { s.erased c with rows := offAt (s.erased c).rows s.row, full := false }
def Sr.shift (s : Sr) (c : Nat) (many : Int) : Sr :=
  let t := s.cellsAt fun cs => if c = 88 then cutL cs none (some s.col) ++ (cutL (cutL cs (some s.col) none) (some many) none ++ blanks many)
    else cutL cs none (some s.col) ++ (blanks many ++ cutL (cutL cs (some s.col) none) none (some ((cutL cs (some s.col) none).length - many)))
  { t with rows := offAt t.rows s.row, full := false }
theorem blanks_d (k : Int) : List.replicate k.toNat blankD = (blanks k).map Cl.d := by
  unfold blanks
  rw [List.map_replicate]
  rfl
theorem blanks_len {k : Int} (h : 0 ≤ k) : ((blanks k).length : Int) = k := by
  unfold blanks
  rw [List.length_replicate]
  omega
/-- the cursor's row gets new cells and goes on no more, the row isn't full -/
theorem new_cells {h : MH} {n : Nat} {S : ScI} (a : ScAt h n S) (ok : S.v.ok) : ∃ r, S.rows[S.row.toNat]? = some r ∧ h[r.id]? = some (rowO r.cid r.on) ∧ h[r.cid]? = some (clsO r.cells) ∧ atI (S.rows.map RowI.r) S.row = some (.ref r.id) ∧ (r.cells.length : Int) = S.wide ∧ r.id < h.length ∧ r.id ≠ n ∧
    ∀ (cs : List Cl), ((h ++ [clsO cs]).set r.id (rowO h.length r.on))[n]? = some (scO S) ∧ ((h ++ [clsO cs]).set r.id (rowO h.length false))[n]? = some (scO S) ∧
      (∃ S', ScAt (((h ++ [clsO cs]).set r.id (rowO h.length r.on)).set n (scO { S with full := false })) n S' ∧ (∀ f : List Cl → List Cl, cs = f r.cells → S'.v = { S.v.cellsAt f with full := false }) ∧ Fr h (ids n S) (((h ++ [clsO cs]).set r.id (rowO h.length r.on)).set n (scO { S with full := false })) (ids n S')) ∧
      ∃ S', ScAt (((h ++ [clsO cs]).set r.id (rowO h.length false)).set n (scO { S with full := false })) n S' ∧ (∀ f : List Cl → List Cl, cs = f r.cells → S'.v = { S.v.cellsAt f with rows := offAt (S.v.cellsAt f).rows S.v.row, full := false }) ∧ Fr h (ids n S) (((h ++ [clsO cs]).set r.id (rowO h.length false)).set n (scO { S with full := false })) (ids n S') := by
  have rl : (S.rows.length : Int) = S.high := by have := ok.rl; simpa [ScI.v] using this
  have r0 : 0 ≤ S.row := ok.r0
  have rh : S.row < S.high := ok.rh
  obtain ⟨r, hi⟩ := get_some (l := S.rows) r0 (by omega)
  have hm : r ∈ S.past ++ S.rows := List.mem_append_right _ (List.mem_of_getElem? hi)
  obtain ⟨o1, o2⟩ := a.rows r hm
  have rc : (r.cells.length : Int) = S.wide := ok.rc r.v (List.mem_map.mpr ⟨r, List.mem_of_getElem? hi, rfl⟩)
  have ne := (a.ne_id hm).1
  have hlt := lt_of_get o1
  refine ⟨r, hi, o1, o2, by rw [atI_map, atI_get' r0 hi]; rfl, rc, hlt, ne, fun cs => ?_⟩
  have hn : ∀ b : Bool, ((h ++ [clsO cs]).set r.id (rowO h.length b))[n]? = some (scO S) := fun b => by
    rw [set_ne' (Ne.symm ne)]
    exact get_app a.o
  obtain ⟨a1, f1⟩ := a.newCells hi cs
  have hlt2 : S.row.toNat < S.rows.length := (List.getElem?_eq_some_iff.mp hi).1
  have hi1 : (S.rows.set S.row.toNat { r with cells := cs, cid := h.length })[S.row.toNat]? = some { r with cells := cs, cid := h.length } := List.getElem?_set_self hlt2
  obtain ⟨a2, f2⟩ := a1.setOn hi1 false
  have e2 : (((h ++ [clsO cs]).set r.id (rowO h.length r.on)).set r.id (rowO h.length false)) = (h ++ [clsO cs]).set r.id (rowO h.length false) := List.set_set ..
  have er1 : ScI.fs { S with full := false, rows := S.rows.set S.row.toNat { r with cells := cs, cid := h.length } } = ScI.fs { S with full := false } := by
    unfold ScI.fs
    simp only [map_set_same (f := RowI.r) (y := { r with cells := cs, cid := h.length }) hi rfl]
  have er2 : ScI.fs { S with full := false, rows := S.rows.set S.row.toNat { r with cells := cs, cid := h.length, on := false } } = ScI.fs { S with full := false } := by
    unfold ScI.fs
    simp only [map_set_same (f := RowI.r) (y := { r with cells := cs, cid := h.length, on := false }) hi rfl]
  refine ⟨hn _, hn _, ⟨{ S with full := false, rows := S.rows.set S.row.toNat { r with cells := cs, cid := h.length } }, ?_, fun f hf => ?_, ?_⟩, ⟨{ S with full := false, rows := S.rows.set S.row.toNat { r with cells := cs, cid := h.length, on := false } }, ?_, fun f hf => ?_, ?_⟩⟩
  · have := a1.set { S with full := false, rows := S.rows.set S.row.toNat { r with cells := cs, cid := h.length } } rfl rfl rfl rfl rfl
    unfold scO at this ⊢
    rw [er1] at this
    exact this
  · unfold Sr.cellsAt ScI.v
    simp only [map_mod (f := fun r => { r with cells := f r.cells }) (r' := { r with cells := cs, cid := h.length }) hi (by rw [hf]; rfl)]
  · exact f1.trans (fr_set a1 _ rfl rfl rfl _)
  · have := a2.set { S with full := false, rows := S.rows.set S.row.toNat { r with cells := cs, cid := h.length, on := false } } rfl rfl rfl rfl (by show _ = List.set (List.set _ _ _) _ _; rw [List.set_set])
    unfold scO at this ⊢
    rw [er2] at this
    have e2' : (((h ++ [clsO cs]).set r.id (rowO h.length r.on)).set { r with cells := cs, cid := h.length }.id (rowO { r with cells := cs, cid := h.length }.cid false)) = (h ++ [clsO cs]).set r.id (rowO h.length false) := e2
    rw [e2'] at this
    exact this
  · have hz : (S.rows.map RowI.v).modify S.row.toNat (fun r => { r with cells := f r.cells }) = (S.rows.set S.row.toNat { r with cells := cs, cid := h.length }).map RowI.v := (map_mod (f := fun r => { r with cells := f r.cells }) (r' := { r with cells := cs, cid := h.length }) hi (by rw [hf]; rfl)).symm
    unfold Sr.cellsAt offAt ScI.v
    simp only [hz]
    have := map_mod (f := fun r => { r with on := false }) (r' := { r with cells := cs, cid := h.length, on := false }) hi1 rfl
    rw [List.set_set] at this
    simp only [this]
  · have f3 := fr_set a2 { S with full := false, rows := S.rows.set S.row.toNat { r with cells := cs, cid := h.length, on := false } } rfl rfl (by show _ = List.set (List.set _ _ _) _ _; rw [List.set_set]) (scO { S with full := false })
    have e2' : (((h ++ [clsO cs]).set r.id (rowO h.length r.on)).set { r with cells := cs, cid := h.length }.id (rowO { r with cells := cs, cid := h.length }.cid false)) = (h ++ [clsO cs]).set r.id (rowO h.length false) := e2
    have f23 := f2.trans f3
    rw [e2'] at f23
    exact f1.trans f23
end Sc

namespace Sc
open PySem PySem.Spec PyProof.Rows L2
def Q_Screen_erase (F : List D → M D) : Prop := ∀ c ∈ [101, 98, 107, 99], Does F [.str ⟨#[c]⟩] fun s => s.erase c
theorem sc_Screen_erase : FnScope ["self", "word", "row", "at"] ["self", "word"] (defScope s_Screen_erase) := ⟨rfl, rfl, rfl, by decide +kernel, rfl, by decide +kernel, by decide +kernel⟩
theorem ex_Screen_erase : ∃ F : List D → M D, (∀ {P : Program} {w : World} {K : PySem.W.Frag} {mg : Str → Option Value} {base : Heap} {Ts : List (Addr × Str)} (T : GT K mg), CalM P w K mg base (XC P w) 4 "Screen" "erase" ["self", "word"] (spM K Ts 2 F)) ∧ Q_Screen_erase F := by
  refine ⟨_, fun {P w K mg base Ts} T => calM_R T.f_Screen_erase T.c_Screen T.m_Screen_erase sc_Screen_erase (fun _ _ _ _ _ _ us hl => match us, hl with | [_, _], _ => rfl)
    (fun f cdv A' outer s H E hr => ⟨_, (pss_cons (pS 2 sc_Screen_erase.nd (pe_ix (kix K) (kfld K (pv 0)) (kfld K (pv 0)) (fun _ _ => rfl)))
      (pss_cons (ps_if (pt_cmpR (keq K hr.units) (pv 1) pe_str (nomark _)) (pss_one (ks_fld K (pv 2) (pe_op (kplusA K) (pe_slice (ksl K) (kfld K (pv 2)) po_none (po_some (kfld K (pv 0)))) (pe_op (ktimes K) (pe_lst (pa_cons (pe_glob (v := .ref (He.ga K "BLANK")) (by rfl) T.g_BLANK rfl) pa_nil)) (pe_op op_sub (kfld K (pv 0)) (kfld K (pv 0))))))) (pss_one (ps_if (pt_cmpR (keq K hr.units) (pv 1) pe_str (nomark _)) (pss_one (ks_fld K (pv 2) (pe_op (kplusA K) (pe_op (ktimes K) (pe_lst (pa_cons (pe_glob (v := .ref (He.ga K "BLANK")) (by rfl) T.g_BLANK rfl) pa_nil)) (pe_op (kplusA K) (kfld K (pv 0)) pe_int)) (pe_slice (ksl K) (kfld K (pv 2)) (po_some (pe_op (kplusA K) (kfld K (pv 0)) pe_int)) po_none)))) (pss_one (ps_if (pt_cmpR (keq K hr.units) (pv 1) pe_str (nomark _)) (pss_one (ks_fld K (pv 2) (pe_op (ktimes K) (pe_lst (pa_cons (pe_glob (v := .ref (He.ga K "BLANK")) (by rfl) T.g_BLANK rfl) pa_nil)) (kfld K (pv 0))))) (pss_one (ks_fld K (pv 0) (pe_lc (own := [("at", 3)]) rfl sc_Screen_erase.nd (pi_range1 (by rfl) T.z_range (pa_cons (kfld K (pv 0)) pa_nil)) (blkOk_by (own := [("at", 3)]) (N := ["self", "word", "row", "at"]) (sc := defScope s_Screen_erase) (by decide +kernel)) (fun _ _ _ _ _ => by exact (pG 3 sc_Screen_erase.nd)) (fun _ _ _ _ _ => by exact pts_nil) (fun _ _ _ _ _ => by exact (pe_cal (c_blank_row T) (hr.mono (by decide)) passN0 (pa_cons (kfld K (pv 0)) pa_nil)))))))))))
      (pss_cons (ps_if (pt_cmpR (kne K hr.units) (pv 1) pe_str (nomark _)) (pss_one (ks_fld K (pe_ix (kix K) (kfld K (pv 0)) (kfld K (pv 0)) (fun _ _ => rfl)) pe_bl)) pss_nil)
      (pss_one (ks_fld K (pv 0) pe_bl))))),
    (ss_seq (ss_asg (sm_op kr_ix (sm_fld (C := "Screen") ⟨T.c_Screen, T.n_Screen_rows⟩ (sm_var 0)) (sm_fld (C := "Screen") ⟨T.c_Screen, T.n_Screen_row⟩ (sm_var 0))) (sg_name 2))
      (ss_seq (ss_if (st_test (sm_op kr_eq (sm_var 1) sm_str)) (ss_fld (C := "Row") ⟨T.c_Row, T.n_Row_cells⟩ (sm_var 2) (sm_th (sl_cat (sm_sl (sm_fld (C := "Row") ⟨T.c_Row, T.n_Row_cells⟩ (sm_var 2)) so_none (so_some (sm_fld (C := "Screen") ⟨T.c_Screen, T.n_Screen_column⟩ (sm_var 0)))) (sm_op kr_times (sm_fr (sl_lst (sa_cons (sm_c (gd_BLANK T)) sa_nil))) (sm_op kr_sub (sm_fld (C := "Screen") ⟨T.c_Screen, T.n_Screen_wide⟩ (sm_var 0)) (sm_fld (C := "Screen") ⟨T.c_Screen, T.n_Screen_column⟩ (sm_var 0))))))) (ss_if (st_test (sm_op kr_eq (sm_var 1) sm_str)) (ss_fld (C := "Row") ⟨T.c_Row, T.n_Row_cells⟩ (sm_var 2) (sm_th (sl_cat (sm_op kr_times (sm_fr (sl_lst (sa_cons (sm_c (gd_BLANK T)) sa_nil))) (sm_op kr_plus (sm_fld (C := "Screen") ⟨T.c_Screen, T.n_Screen_column⟩ (sm_var 0)) sm_int)) (sm_sl (sm_fld (C := "Row") ⟨T.c_Row, T.n_Row_cells⟩ (sm_var 2)) (so_some (sm_op kr_plus (sm_fld (C := "Screen") ⟨T.c_Screen, T.n_Screen_column⟩ (sm_var 0)) sm_int)) so_none)))) (ss_if (st_test (sm_op kr_eq (sm_var 1) sm_str)) (ss_fld (C := "Row") ⟨T.c_Row, T.n_Row_cells⟩ (sm_var 2) (sm_th (sl_rep (sm_fr (sl_lst (sa_cons (sm_c (gd_BLANK T)) sa_nil))) (sm_fld (C := "Screen") ⟨T.c_Screen, T.n_Screen_wide⟩ (sm_var 0))))) (ss_fld (C := "Screen") ⟨T.c_Screen, T.n_Screen_rows⟩ (sm_var 0) (sm_fr (sl_lc (si_range1 (sa_cons (sm_fld (C := "Screen") ⟨T.c_Screen, T.n_Screen_high⟩ (sm_var 0)) sa_nil)) (go_name (by decide)) (sg_name 3) st_yes (sm_call (sa_cons (sm_fld (C := "Screen") ⟨T.c_Screen, T.n_Screen_wide⟩ (sm_var 0)) sa_nil))))))))
      (ss_seq (ss_if (st_test (sm_op kr_ne (sm_var 1) sm_str)) (ss_fld (C := "Row") ⟨T.c_Row, T.n_Row_goes_on⟩ (sm_op kr_ix (sm_fld (C := "Screen") ⟨T.c_Screen, T.n_Screen_rows⟩ (sm_var 0)) (sm_fld (C := "Screen") ⟨T.c_Screen, T.n_Screen_row⟩ (sm_var 0))) sm_bl) ss_next)
      (ss_fld (C := "Screen") ⟨T.c_Screen, T.n_Screen_is_full⟩ (sm_var 0) sm_bl))))⟩) rfl, ?_⟩
  intro c hc h n S a ok
  have ho := a.o
  have w2 : 2 ≤ S.wide := ok.w2
  have w60 : S.wide ≤ 60 := ok.w60
  have h2 : 2 ≤ S.high := ok.h2
  have h40 : S.high ≤ 40 := ok.h40
  have c0 : 0 ≤ S.col := ok.c0
  have cw : S.col < S.wide := ok.cw
  have z1 : 1 ≤ sizeLine := le_sz' (by omega)
  obtain ⟨r, hi, o1, o2, hr, rc, hlt, hne, key⟩ := new_cells a ok
  have cl1 := cut_len r.cells none (some S.col)
  have cl2 := cut_len r.cells (some (S.col + 1)) none
  have ga : ∀ cs : List Cl, (h ++ [clsO cs])[r.id]? = some (rowO r.cid r.on) := fun cs => get_app o1
  have gn : ∀ cs : List Cl, (h ++ [clsO cs])[n]? = some (scO S) := fun cs => get_app ho
  have gs : ∀ (cs : List Cl) (o : MO), ((h ++ [clsO cs]).set r.id o)[r.id]? = some o := fun cs o => set_self' (ga cs) o
  have hsb : ∀ (cs : List Cl) (b : Bool), ((h ++ [clsO cs]).set r.id (rowO h.length b))[n]? = some (scO S) := fun cs b => by
    rw [set_ne' (Ne.symm hne)]; exact gn cs
  have hsn : ∀ (cs : List Cl) (b : Bool) (o : MO), (((h ++ [clsO cs]).set r.id (rowO h.length b)).set n o)[n]? = some o := fun cs b o => set_self' (hsb cs b) o
  simp only [List.mem_cons, List.mem_nil_iff, or_false] at hc
  rcases hc with rfl | rfl | rfl | rfl
  · -- e
    have d1 : decide ((⟨#[101]⟩ : Str) = Str.ofString "e") = true := by decide
    have d2 : decide ((⟨#[101]⟩ : Str) = Str.ofString "b") = false := by decide
    obtain ⟨_, _, _, S', a', v', f'⟩ := key (cutL r.cells none (some S.col) ++ blanks (S.wide - S.col))
    refine ⟨_, S', ?_, a', (v' (fun cs => cutL cs none (some S.col) ++ blanks (S.wide - S.col)) rfl).trans rfl, f'⟩
    have bd := blanks_d (S.wide - S.col)
    have bl := blanks_len (k := S.wide - S.col) (by omega)
    have k1 : S.wide - S.col < 2 ^ 62 ∧ -2 ^ 62 < S.wide - S.col ∧ 1 * (S.wide - S.col).toNat ≤ sizeLine := ⟨by omega, by omega, le_sz' (by omega)⟩
    have k2 : (cutL r.cells none (some S.col)).length + (blanks (S.wide - S.col)).length ≤ sizeLine := le_sz' (by omega)
    clear a' v' f' key a ok cl1 cl2 bl hi
    walk_at "es"
  · -- b
    have d1 : decide ((⟨#[98]⟩ : Str) = Str.ofString "e") = false := by decide
    have d2 : decide ((⟨#[98]⟩ : Str) = Str.ofString "b") = true := by decide
    obtain ⟨_, _, ⟨S', a', v', f'⟩, _⟩ := key (blanks (S.col + 1) ++ cutL r.cells (some (S.col + 1)) none)
    refine ⟨_, S', ?_, a', (v' (fun cs => blanks (S.col + 1) ++ cutL cs (some (S.col + 1)) none) rfl).trans rfl, f'⟩
    have bd := blanks_d (S.col + 1)
    have bl := blanks_len (k := S.col + 1) (by omega)
    have k1 : S.col + 1 < 2 ^ 62 ∧ -2 ^ 62 < S.col + 1 ∧ 1 * (S.col + 1).toNat ≤ sizeLine := ⟨by omega, by omega, le_sz' (by omega)⟩
    have k2 : (blanks (S.col + 1)).length + (cutL r.cells (some (S.col + 1)) none).length ≤ sizeLine := le_sz' (by omega)
    clear a' v' f' key a ok cl1 cl2 bl hi
    walk_at "es"
  · -- k
    have d1 : decide ((⟨#[107]⟩ : Str) = Str.ofString "e") = false := by decide
    have d2 : decide ((⟨#[107]⟩ : Str) = Str.ofString "b") = false := by decide
    have d3 : decide ((⟨#[107]⟩ : Str) = Str.ofString "k") = true := by decide
    obtain ⟨_, _, _, S', a', v', f'⟩ := key (blanks S.wide)
    refine ⟨_, S', ?_, a', (v' (fun cs => blanks S.wide) rfl).trans rfl, f'⟩
    have bd := blanks_d S.wide
    have k1 : S.wide < 2 ^ 62 ∧ -2 ^ 62 < S.wide ∧ 1 * S.wide.toNat ≤ sizeLine := ⟨by omega, by omega, le_sz' (by omega)⟩
    clear a' v' f' key a ok cl1 cl2 hi
    walk_at "es"
  · -- c
    have d1 : decide ((⟨#[99]⟩ : Str) = Str.ofString "e") = false := by decide
    have d2 : decide ((⟨#[99]⟩ : Str) = Str.ofString "b") = false := by decide
    have d3 : decide ((⟨#[99]⟩ : Str) = Str.ofString "k") = false := by decide
    obtain ⟨fo, hfo⟩ : ∃ fo, freshO S.wide.toNat h.length S.high.toNat = fo := ⟨_, rfl⟩
    obtain ⟨fr, hfr⟩ : ∃ fr, freshR S.wide.toNat h.length S.high.toNat = fr := ⟨_, rfl⟩
    obtain ⟨a1, f1⟩ := a.fresh (S' := { S with rows := fr }) (k := S.high.toNat) rfl rfl rfl rfl hfr.symm
    rw [hfo] at a1 f1
    have frl : fr.length = S.high.toNat := by rw [← hfr, freshR_len]
    have r0 : 0 ≤ S.row := ok.r0
    have rh : S.row < S.high := ok.rh
    obtain ⟨q, hq⟩ := get_some (l := fr) r0 (by omega)
    have hqr : atI (fr.map RowI.r) S.row = some (.ref q.id) := by rw [atI_map, atI_get' r0 hq]; rfl
    have hqm : q ∈ S.past ++ fr := List.mem_append_right _ (List.mem_of_getElem? hq)
    obtain ⟨q1, q2⟩ := a1.rows q hqm
    obtain ⟨a2, f2⟩ := a1.setOn hq false
    have a3 := a2.set { S with rows := fr.set S.row.toNat { q with on := false }, full := false } rfl rfl rfl rfl rfl
    have f3 := fr_set a2 { S with rows := fr.set S.row.toNat { q with on := false }, full := false } rfl rfl rfl (scO { S with rows := fr.set S.row.toNat { q with on := false }, full := false })
    refine ⟨_, _, ?_, a3, ?_, (f1.trans f2).trans f3⟩
    · have g2 : (h ++ fo)[n]? = some (scO S) := get_app ho
      have g3 := set_self' g2
      have g4 : (((h ++ fo).set n (scO { S with rows := fr })).set q.id (rowO q.cid false))[n]? = some (scO { S with rows := fr }) := by
        rw [set_ne' (Ne.symm (a1.ne_id hqm).1)]
        exact g3 _
      have k6 : -2 ^ 62 ≤ S.high ∧ S.high < 2 ^ 62 := by omega
      have k5 : S.high.toNat ≤ sizeLine := le_sz' (by omega)
      have er : (fr.set S.row.toNat { q with on := false }).map RowI.r = fr.map RowI.r := map_set_same hq rfl
      have efs : ScI.fs { S with rows := fr.set S.row.toNat { q with on := false }, full := false } = ScI.fs { S with rows := fr, full := false } := by
        unfold ScI.fs
        simp only [er]
      rw [show scO { S with rows := fr.set S.row.toNat { q with on := false }, full := false } = MO.ins "Screen" (ScI.fs { S with rows := fr.set S.row.toNat { q with on := false }, full := false }) from rfl, efs]
      clear efs er a3 f3 a2 f2 a1 f1 key a ok cl1 cl2 hi frl hq hqm hsn hsb gs gn ga
      walk_at "es"
      rw [lc_fresh0 (w := S.wide) (by omega) (by omega)]
      · walk_at "es"
      · intro x t
        refine ⟨_, rfl, ?_⟩
        have g5 : (h ++ t)[n]? = some (scO S) := get_app ho
        walk_at "es"
    · have ev : (fr.set S.row.toNat { q with on := false }).map RowI.v = offAt (List.replicate S.high.toNat (bl S.wide)) S.row := by
        rw [map_off hq, ← hfr, freshR_v]
        rfl
      show _ = { S.v with rows := offAt (List.replicate S.high.toNat (bl S.wide)) S.row, full := false }
      unfold ScI.v
      simp only [ev]
noncomputable def F_Screen_erase : List D → M D := Classical.choose ex_Screen_erase
theorem cm_Screen_erase {P : Program} {w : World} {K : PySem.W.Frag} {mg : Str → Option Value} {base : Heap} {Ts : List (Addr × Str)} (T : GT K mg) : CalM P w K mg base (XC P w) 4 "Screen" "erase" ["self", "word"] (spM K Ts 2 F_Screen_erase) := (Classical.choose_spec ex_Screen_erase).1 T
theorem run_Screen_erase : Q_Screen_erase F_Screen_erase := (Classical.choose_spec ex_Screen_erase).2
def Q_Screen_shift (F : List D → M D) : Prop := ∀ c ∈ [88, 73], ∀ (many : Int) (h : MH) (n : Nat) (S : ScI), ScAt h n S → S.v.ok → 0 ≤ many → many ≤ S.wide - S.col → ∃ h' S', F [.ref n, .str ⟨#[c]⟩, .int many] h = some (.ok .none, h') ∧ ScAt h' n S' ∧ S'.v = S.v.shift c many ∧ Fr h (ids n S) h' (ids n S')
theorem sc_Screen_shift : FnScope ["self", "word", "many", "row", "ahead", "rest"] ["self", "word", "many"] (defScope s_Screen_shift) := ⟨rfl, rfl, rfl, by decide +kernel, rfl, by decide +kernel, by decide +kernel⟩
theorem ex_Screen_shift : ∃ F : List D → M D, (∀ {P : Program} {w : World} {K : PySem.W.Frag} {mg : Str → Option Value} {base : Heap} {Ts : List (Addr × Str)} (T : GT K mg), CalM P w K mg base (XC P w) 1 "Screen" "shift" ["self", "word", "many"] (spM K Ts 3 F)) ∧ Q_Screen_shift F := by
  refine ⟨_, fun {P w K mg base Ts} T => calM_R T.f_Screen_shift T.c_Screen T.m_Screen_shift sc_Screen_shift (fun _ _ _ _ _ _ us hl => match us, hl with | [_, _, _], _ => rfl)
    (fun f cdv A' outer s H E hr => ⟨_, (pss_cons (pS 3 sc_Screen_shift.nd (pe_ix (kix K) (kfld K (pv 0)) (kfld K (pv 0)) (fun _ _ => rfl)))
      (pss_cons (ps_par (i := 4) (j := 5) rfl sc_Screen_shift.nd rfl rfl (by decide) rfl rfl (pa_cons (pe_slice (ksl K) (kfld K (pv 3)) po_none (po_some (kfld K (pv 0)))) (pa_cons (pe_slice (ksl K) (kfld K (pv 3)) (po_some (kfld K (pv 0))) po_none) pa_nil)) rfl)
      (pss_cons (ps_if (pt_cmpR (keq K hr.units) (pv 1) pe_str (nomark _)) (pss_one (ks_fld K (pv 3) (pe_op (kplusA K) (pe_op (kplusA K) (pv 4) (pe_slice (ksl K) (pv 5) (po_some (pv 2)) po_none)) (pe_op (ktimes K) (pe_lst (pa_cons (pe_glob (v := .ref (He.ga K "BLANK")) (by rfl) T.g_BLANK rfl) pa_nil)) (pv 2))))) (pss_one (ks_fld K (pv 3) (pe_op (kplusA K) (pe_op (kplusA K) (pv 4) (pe_op (ktimes K) (pe_lst (pa_cons (pe_glob (v := .ref (He.ga K "BLANK")) (by rfl) T.g_BLANK rfl) pa_nil)) (pv 2))) (pe_slice (ksl K) (pv 5) po_none (po_some (pe_op op_sub (pe_callB (klen K) (by rfl) T.z_len (by decide +kernel) (pa_cons (pv 5) pa_nil)) (pv 2))))))))
      (pss_cons (ks_fld K (pv 3) pe_bl)
      (pss_one (ks_fld K (pv 0) pe_bl)))))),
    (ss_seq (ss_asg (sm_op kr_ix (sm_fld (C := "Screen") ⟨T.c_Screen, T.n_Screen_rows⟩ (sm_var 0)) (sm_fld (C := "Screen") ⟨T.c_Screen, T.n_Screen_row⟩ (sm_var 0))) (sg_name 3))
      (ss_seq (ss_par (sa_cons (sm_sl (sm_fld (C := "Row") ⟨T.c_Row, T.n_Row_cells⟩ (sm_var 3)) so_none (so_some (sm_fld (C := "Screen") ⟨T.c_Screen, T.n_Screen_column⟩ (sm_var 0)))) (sa_cons (sm_sl (sm_fld (C := "Row") ⟨T.c_Row, T.n_Row_cells⟩ (sm_var 3)) (so_some (sm_fld (C := "Screen") ⟨T.c_Screen, T.n_Screen_column⟩ (sm_var 0))) so_none) sa_nil)))
      (ss_seq (ss_if (st_test (sm_op kr_eq (sm_var 1) sm_str)) (ss_fld (C := "Row") ⟨T.c_Row, T.n_Row_cells⟩ (sm_var 3) (sm_th (sl_cat (sm_op kr_plus (sm_var 4) (sm_sl (sm_var 5) (so_some (sm_var 2)) so_none)) (sm_op kr_times (sm_fr (sl_lst (sa_cons (sm_c (gd_BLANK T)) sa_nil))) (sm_var 2))))) (ss_fld (C := "Row") ⟨T.c_Row, T.n_Row_cells⟩ (sm_var 3) (sm_th (sl_cat (sm_op kr_plus (sm_var 4) (sm_op kr_times (sm_fr (sl_lst (sa_cons (sm_c (gd_BLANK T)) sa_nil))) (sm_var 2))) (sm_sl (sm_var 5) so_none (so_some (sm_op kr_sub (sm_cb kc_len (sa_cons (sm_var 5) sa_nil)) (sm_var 2))))))))
      (ss_seq (ss_fld (C := "Row") ⟨T.c_Row, T.n_Row_goes_on⟩ (sm_var 3) sm_bl)
      (ss_fld (C := "Screen") ⟨T.c_Screen, T.n_Screen_is_full⟩ (sm_var 0) sm_bl)))))⟩) rfl, ?_⟩
  intro c hc many h n S a ok m0 m1
  have ho := a.o
  have w60 : S.wide ≤ 60 := ok.w60
  have c0 : 0 ≤ S.col := ok.c0
  have cw : S.col < S.wide := ok.cw
  have z1 : 1 ≤ sizeLine := le_sz' (by omega)
  obtain ⟨r, hi, o1, o2, hr, rc, hlt, hne, key⟩ := new_cells a ok
  have cl1 := cut_len r.cells none (some S.col)
  have cl2 := cut_len r.cells (some S.col) none
  have cl3 := cut_len (cutL r.cells (some S.col) none) (some many) none
  have cl4 := cut_len (cutL r.cells (some S.col) none) none (some (((cutL r.cells (some S.col) none).length : Int) - many))
  have ga : ∀ cs : List Cl, (h ++ [clsO cs])[r.id]? = some (rowO r.cid r.on) := fun cs => get_app o1
  have gn : ∀ cs : List Cl, (h ++ [clsO cs])[n]? = some (scO S) := fun cs => get_app ho
  have gs : ∀ (cs : List Cl) (o : MO), ((h ++ [clsO cs]).set r.id o)[r.id]? = some o := fun cs o => set_self' (ga cs) o
  have hsb : ∀ (cs : List Cl) (b : Bool), ((h ++ [clsO cs]).set r.id (rowO h.length b))[n]? = some (scO S) := fun cs b => by
    rw [set_ne' (Ne.symm hne)]; exact gn cs
  have hsn : ∀ (cs : List Cl) (b : Bool) (o : MO), (((h ++ [clsO cs]).set r.id (rowO h.length b)).set n o)[n]? = some o := fun cs b o => set_self' (hsb cs b) o
  have bd := blanks_d many
  have bl := blanks_len m0
  have k1 : many < 2 ^ 62 ∧ -2 ^ 62 < many ∧ 1 * many.toNat ≤ sizeLine := ⟨by omega, by omega, le_sz' (by omega)⟩
  simp only [List.mem_cons, List.mem_nil_iff, or_false] at hc
  rcases hc with rfl | rfl
  · -- X
    have d1 : decide ((⟨#[88]⟩ : Str) = Str.ofString "X") = true := by decide
    obtain ⟨_, _, _, S', a', v', f'⟩ := key (cutL r.cells none (some S.col) ++ (cutL (cutL r.cells (some S.col) none) (some many) none ++ blanks many))
    refine ⟨_, S', ?_, a', (v' (fun cs => cutL cs none (some S.col) ++ (cutL (cutL cs (some S.col) none) (some many) none ++ blanks many)) rfl).trans rfl, f'⟩
    have k2 : (cutL r.cells none (some S.col)).length + (cutL (cutL r.cells (some S.col) none) (some many) none).length ≤ sizeLine := le_sz' (by omega)
    have k3 : (cutL r.cells none (some S.col)).length + (cutL (cutL r.cells (some S.col) none) (some many) none).length + (blanks many).length ≤ sizeLine := le_sz' (by omega)
    clear a' v' f' key a ok cl1 cl2 cl3 cl4 bl hi
    walk_at "es"
  · -- I
    have d1 : decide ((⟨#[73]⟩ : Str) = Str.ofString "X") = false := by decide
    obtain ⟨_, _, _, S', a', v', f'⟩ := key (cutL r.cells none (some S.col) ++ (blanks many ++ cutL (cutL r.cells (some S.col) none) none (some (((cutL r.cells (some S.col) none).length : Int) - many))))
    refine ⟨_, S', ?_, a', (v' (fun cs => cutL cs none (some S.col) ++ (blanks many ++ cutL (cutL cs (some S.col) none) none (some (((cutL cs (some S.col) none).length : Int) - many)))) rfl).trans rfl, f'⟩
    have k2 : (cutL r.cells none (some S.col)).length + (blanks many).length ≤ sizeLine := le_sz' (by omega)
    have k3 : (cutL r.cells none (some S.col)).length + (blanks many).length + (cutL (cutL r.cells (some S.col) none) none (some (((cutL r.cells (some S.col) none).length : Int) - many))).length ≤ sizeLine := le_sz' (by omega)
    clear a' v' f' key a ok cl1 cl2 cl3 cl4 bl hi
    walk_at "es"
noncomputable def F_Screen_shift : List D → M D := Classical.choose ex_Screen_shift
theorem cm_Screen_shift {P : Program} {w : World} {K : PySem.W.Frag} {mg : Str → Option Value} {base : Heap} {Ts : List (Addr × Str)} (T : GT K mg) : CalM P w K mg base (XC P w) 1 "Screen" "shift" ["self", "word", "many"] (spM K Ts 3 F_Screen_shift) := (Classical.choose_spec ex_Screen_shift).1 T
theorem run_Screen_shift : Q_Screen_shift F_Screen_shift := (Classical.choose_spec ex_Screen_shift).2
end Sc

namespace Sc
open PySem PySem.Spec PyProof.Rows L2
/-! ### rows taken out -/
def Sr.takeRows (s : Sr) (n : Int) : Sr := { s.roll s.row n with past := s.past }
def Q_Screen_take_rows (F : List D → M D) : Prop := ∀ (many : Int), 0 ≤ many → many ≤ 10000 → ∀ (h : MH) (n : Nat) (S : ScI), ScAt h n S → S.v.ok → S.row ≤ S.bottom → ∃ h' S', F [.ref n, .int many] h = some (.ok .none, h') ∧ ScAt h' n S' ∧ S'.v = S.v.takeRows many ∧ Fr h (ids n S) h' (ids n S')
theorem sc_Screen_take_rows : FnScope ["self", "number", "past"] ["self", "number"] (defScope s_Screen_take_rows) := ⟨rfl, rfl, rfl, by decide +kernel, rfl, by decide +kernel, by decide +kernel⟩
theorem ex_Screen_take_rows : ∃ F : List D → M D, (∀ {P : Program} {w : World} {K : PySem.W.Frag} {mg : Str → Option Value} {base : Heap} {Ts : List (Addr × Str)} (T : GT K mg), CalM P w K mg base (XC P w) 5 "Screen" "take_rows" ["self", "number"] (spM K Ts 2 F)) ∧ Q_Screen_take_rows F := by
  refine ⟨_, fun {P w K mg base Ts} T => calM_R T.f_Screen_take_rows T.c_Screen T.m_Screen_take_rows sc_Screen_take_rows (fun _ _ _ _ _ _ us hl => match us, hl with | [_, _], _ => rfl)
    (fun f cdv A' outer s H E hr => ⟨_, (pss_cons (pS 2 sc_Screen_take_rows.nd (kfld K (pv 0)))
      (pss_cons (ps_expr (pe_cm K (cm_Screen_roll T) (hr.mono (by decide)) (passX rfl rfl rfl rfl) (pv 0) (pa_cons (kfld K (pv 0)) (pa_cons (pv 1) pa_nil))))
      (pss_one (ks_fld K (pv 0) (pv 2))))),
    (ss_seq (ss_asg (sm_fld (C := "Screen") ⟨T.c_Screen, T.n_Screen_past⟩ (sm_var 0)) (sg_name 2))
      (ss_seq (ss_drop (sm_meth (sm_var 0) (sa_cons (sm_fld (C := "Screen") ⟨T.c_Screen, T.n_Screen_row⟩ (sm_var 0)) (sa_cons (sm_var 1) sa_nil))))
      (ss_fld (C := "Screen") ⟨T.c_Screen, T.n_Screen_past⟩ (sm_var 0) (sm_var 2))))⟩) rfl, ?_⟩
  intro many m0 m1 h n S a ok hb
  have ho := a.o
  obtain ⟨h', S', e3, a3, v3, f3, a4, f4⟩ := run_Screen_roll S.row many m0 m1 h n S a ok ok.r0 hb
  refine ⟨_, _, ?_, a4, ?_, f4⟩
  · have ho3 := a3.o
    clear a3 v3 f3 a4 f4 a ok
    walk_at "es"
  · show { S'.v with past := S.v.past } = _
    rw [v3]
    rfl
noncomputable def F_Screen_take_rows : List D → M D := Classical.choose ex_Screen_take_rows
theorem cm_Screen_take_rows {P : Program} {w : World} {K : PySem.W.Frag} {mg : Str → Option Value} {base : Heap} {Ts : List (Addr × Str)} (T : GT K mg) : CalM P w K mg base (XC P w) 5 "Screen" "take_rows" ["self", "number"] (spM K Ts 2 F_Screen_take_rows) := (Classical.choose_spec ex_Screen_take_rows).1 T
theorem run_Screen_take_rows : Q_Screen_take_rows F_Screen_take_rows := (Classical.choose_spec ex_Screen_take_rows).2
/-! ### small letters -/
def Sr.small (s : Sr) (c : Nat) : Sr :=
  if c = 117 then s.stand (s.row + -1) (s.col + 0) else if c = 100 then s.stand (s.row + 1) (s.col + 0) else if c = 108 then s.stand (s.row + 0) (s.col + -1) else if c = 114 then s.stand (s.row + 0) (s.col + 1)
  else if c = 104 then s.stand 0 0
  else if c = 110 then s.down.stand s.down.row s.down.col else if c = 112 then s.up.stand s.up.row s.up.col
  else if c = 101 ∨ c = 98 ∨ c = 107 ∨ c = 99 then s.erase c
  else if c = 115 then { s with byr := s.row, byc := s.col, byp := s.pen }
  else if c = 116 then { s.stand s.byr s.byc with pen := s.byp }
  else if c = 122 then s.begin else s
theorem Sr.ok.cellsAt {s : Sr} (k : s.ok) {f : List Cl → List Cl} (hf : ∀ cs : List Cl, (cs.length : Int) = s.wide → ((f cs).length : Int) = s.wide) : (s.cellsAt f).ok := by
  refine { k with rl := ?_, rc := fun r hr => ?_ }
  · show ((s.rows.modify _ _).length : Int) = _
    rw [List.length_modify]
    exact k.rl
  · obtain ⟨q, h1, e⟩ := mem_modify hr
    rcases e with rfl | rfl
    · exact k.rc r h1
    · exact hf _ (k.rc q h1)
theorem Sr.ok.off {s : Sr} (k : s.ok) (i : Int) : Sr.ok { s with rows := offAt s.rows i } := k.on i false
theorem Sr.ok.erase {s : Sr} (k : s.ok) (c : Nat) : (s.erase c).ok := by
  have w2 := k.w2
  have h2 := k.h2
  have c0 := k.c0
  have cw := k.cw
  have e1 : (s.erased c).ok := by
    unfold Sr.erased
    split
    · refine k.cellsAt fun cs h => ?_
      have := blanks_len (k := s.wide - s.col) (by omega)
      rw [cut_hi _ c0, List.length_append, List.length_take]
      omega
    · split
      · refine k.cellsAt fun cs h => ?_
        have := blanks_len (k := s.col + 1) (by omega)
        rw [cut_lo _ (by omega), List.length_append, List.length_drop]
        omega
      · split
        · exact k.cellsAt fun cs h => blanks_len (by omega)
        · refine { k with rl := ?_, rc := fun r hr => ?_ }
          · show ((List.replicate s.high.toNat (bl s.wide)).length : Int) = s.high
            rw [List.length_replicate]
            omega
          · rw [(List.mem_replicate.mp hr).2]
            exact bl_len (by omega)
  unfold Sr.erase
  split
  · exact { e1 with }
  · exact { e1.off s.row with }
theorem Sr.ok.shift {s : Sr} (k : s.ok) (c : Nat) {many : Int} (m0 : 0 ≤ many) (m1 : many ≤ s.wide - s.col) : (s.shift c many).ok := by
  have c0 := k.c0
  have e1 := k.cellsAt (f := fun cs => if c = 88 then cutL cs none (some s.col) ++ (cutL (cutL cs (some s.col) none) (some many) none ++ blanks many)
    else cutL cs none (some s.col) ++ (blanks many ++ cutL (cutL cs (some s.col) none) none (some ((cutL cs (some s.col) none).length - many)))) fun cs h => by
    have := blanks_len m0
    split
    · rw [cut_hi _ c0, cut_lo _ m0, cut_lo _ c0, List.length_append, List.length_append, List.length_take, List.length_drop, List.length_drop]
      omega
    · rw [cut_hi _ c0, cut_lo _ c0, List.length_append, List.length_append, List.length_take, List.length_drop, cut_hi _ (by omega), List.length_take, List.length_drop]
      omega
  exact { e1.off s.row with }
theorem Sr.ok.small {s : Sr} (k : s.ok) (c : Nat) : (s.small c).ok := by
  unfold Sr.small
  repeat' split
  all_goals first
    | exact k.stand _ _
    | exact k.down.stand _ _
    | exact k.up.stand _ _
    | exact k.erase _
    | exact k.begin
    | exact { k with }
    | exact { k.stand _ _ with }
theorem down_row (s : Sr) : s.down.wide = s.wide ∧ s.down.high = s.high := by
  unfold Sr.down
  repeat' split
  all_goals exact ⟨rfl, rfl⟩
def Q_Screen_small (F : List D → M D) : Prop := ∀ c : Nat, Does F [.str ⟨#[c]⟩] fun s => s.small c
theorem sc_Screen_small : FnScope ["self", "word", "by"] ["self", "word"] (defScope s_Screen_small) := ⟨rfl, rfl, rfl, by decide +kernel, rfl, by decide +kernel, by decide +kernel⟩
theorem ex_Screen_small : ∃ F : List D → M D, (∀ {P : Program} {w : World} {K : PySem.W.Frag} {mg : Str → Option Value} {base : Heap} {Ts : List (Addr × Str)} (T : GT K mg), CalM P w K mg base (XC P w) 7 "Screen" "small" ["self", "word"] (spM K Ts 2 F)) ∧ Q_Screen_small F := by
  refine ⟨_, fun {P w K mg base Ts} T => calM_R T.f_Screen_small T.c_Screen T.m_Screen_small sc_Screen_small (fun _ _ _ _ _ _ us hl => match us, hl with | [_, _], _ => rfl)
    (fun f cdv A' outer s H E hr => ⟨_, (pss_one (ps_if (pt_cmpR (kmem K) (pv 1) (pe_tup (pa_cons pe_str (pa_cons pe_str (pa_cons pe_str (pa_cons pe_str pa_nil))))) rfl) (pss_cons (pS 2 sc_Screen_small.nd (pe_dget (u1 hr) (pe_disp (pps_cons pe_str (pe_tup (pa_cons (pe_un un_neg pe_int) (pa_cons pe_int pa_nil))) (pps_cons pe_str (pe_tup (pa_cons pe_int (pa_cons pe_int pa_nil))) (pps_cons pe_str (pe_tup (pa_cons pe_int (pa_cons (pe_un un_neg pe_int) pa_nil))) (pps_cons pe_str (pe_tup (pa_cons pe_int (pa_cons pe_int pa_nil))) pps_nil)))) rfl rfl (by simp) (by decide)) (pv 1) (fun _ _ => rfl)))
      (pss_one (ps_expr (pe_cm K (cm_Screen_stand T) (hr.mono (by decide)) (passX rfl rfl rfl rfl) (pv 0) (pa_cons (pe_op (kplusA K) (kfld K (pv 0)) (pe_ix (kix K) (pv 2) pe_int (fun _ _ => rfl))) (pa_cons (pe_op (kplusA K) (kfld K (pv 0)) (pe_ix (kix K) (pv 2) pe_int (fun _ _ => rfl))) pa_nil)))))) (pss_one (ps_if (pt_cmpR (keq K hr.units) (pv 1) pe_str (nomark _)) (pss_one (ps_expr (pe_cm K (cm_Screen_stand T) (hr.mono (by decide)) (passX rfl rfl rfl rfl) (pv 0) (pa_cons pe_int (pa_cons pe_int pa_nil))))) (pss_one (ps_if (pt_cmpR (kmem K) (pv 1) (pe_tup (pa_cons pe_str (pa_cons pe_str pa_nil))) rfl) (pss_cons (ps_if (pt_cmpR (keq K hr.units) (pv 1) pe_str (nomark _)) (pss_one (ps_expr (pe_cm0 K (cm_Screen_down T) (hr.mono (by decide)) (passX rfl rfl rfl rfl) (pv 0)))) (pss_one (ps_expr (pe_cm0 K (cm_Screen_up T) (hr.mono (by decide)) (passX rfl rfl rfl rfl) (pv 0)))))
      (pss_one (ps_expr (pe_cm K (cm_Screen_stand T) (hr.mono (by decide)) (passX rfl rfl rfl rfl) (pv 0) (pa_cons (kfld K (pv 0)) (pa_cons (kfld K (pv 0)) pa_nil)))))) (pss_one (ps_if (pt_cmpR (kmem K) (pv 1) (pe_tup (pa_cons pe_str (pa_cons pe_str (pa_cons pe_str (pa_cons pe_str pa_nil))))) rfl) (pss_one (ps_expr (pe_cm K (cm_Screen_erase T) (hr.mono (by decide)) (passX rfl rfl rfl rfl) (pv 0) (pa_cons (pv 1) pa_nil)))) (pss_one (ps_if (pt_cmpR (keq K hr.units) (pv 1) pe_str (nomark _)) (pss_one (ks_fld K (pv 0) (pe_tup (pa_cons (kfld K (pv 0)) (pa_cons (kfld K (pv 0)) (pa_cons (kfld K (pv 0)) pa_nil)))))) (pss_one (ps_if (pt_cmpR (keq K hr.units) (pv 1) pe_str (nomark _)) (pss_cons (ps_expr (pe_cm K (cm_Screen_stand T) (hr.mono (by decide)) (passX rfl rfl rfl rfl) (pv 0) (pa_cons (pe_ix (kix K) (kfld K (pv 0)) pe_int (fun _ _ => rfl)) (pa_cons (pe_ix (kix K) (kfld K (pv 0)) pe_int (fun _ _ => rfl)) pa_nil))))
      (pss_one (ks_fld K (pv 0) (pe_ix (kix K) (kfld K (pv 0)) pe_int (fun _ _ => rfl))))) (pss_one (ps_if (pt_cmpR (keq K hr.units) (pv 1) pe_str (nomark _)) (pss_one (ps_expr (pe_cm0 K (cm_Screen_begin T) (hr.mono (by decide)) (passX rfl rfl rfl rfl) (pv 0)))) pss_nil)))))))))))))),
    (ss_if (st_test (sm_op kr_in (sm_var 1) (sm_tup (sa_cons sm_str (sa_cons sm_str (sa_cons sm_str (sa_cons sm_str sa_nil))))))) (ss_seq (ss_asg (sm_dlit (sp_cons sm_str (sm_tup (sa_cons (sm_neg sm_int) (sa_cons sm_int sa_nil))) (sp_cons sm_str (sm_tup (sa_cons sm_int (sa_cons sm_int sa_nil))) (sp_cons sm_str (sm_tup (sa_cons sm_int (sa_cons (sm_neg sm_int) sa_nil))) (sp_cons sm_str (sm_tup (sa_cons sm_int (sa_cons sm_int sa_nil))) sp_nil)))) (sm_var 1)) (sg_name 2))
      (ss_drop (sm_meth (sm_var 0) (sa_cons (sm_op kr_plus (sm_fld (C := "Screen") ⟨T.c_Screen, T.n_Screen_row⟩ (sm_var 0)) (sm_op kr_ix (sm_var 2) sm_int)) (sa_cons (sm_op kr_plus (sm_fld (C := "Screen") ⟨T.c_Screen, T.n_Screen_column⟩ (sm_var 0)) (sm_op kr_ix (sm_var 2) sm_int)) sa_nil))))) (ss_if (st_test (sm_op kr_eq (sm_var 1) sm_str)) (ss_drop (sm_meth (sm_var 0) (sa_cons sm_int (sa_cons sm_int sa_nil)))) (ss_if (st_test (sm_op kr_in (sm_var 1) (sm_tup (sa_cons sm_str (sa_cons sm_str sa_nil))))) (ss_seq (ss_if (st_test (sm_op kr_eq (sm_var 1) sm_str)) (ss_drop (sm_meth (sm_var 0) sa_nil)) (ss_drop (sm_meth (sm_var 0) sa_nil)))
      (ss_drop (sm_meth (sm_var 0) (sa_cons (sm_fld (C := "Screen") ⟨T.c_Screen, T.n_Screen_row⟩ (sm_var 0)) (sa_cons (sm_fld (C := "Screen") ⟨T.c_Screen, T.n_Screen_column⟩ (sm_var 0)) sa_nil))))) (ss_if (st_test (sm_op kr_in (sm_var 1) (sm_tup (sa_cons sm_str (sa_cons sm_str (sa_cons sm_str (sa_cons sm_str sa_nil))))))) (ss_drop (sm_meth (sm_var 0) (sa_cons (sm_var 1) sa_nil))) (ss_if (st_test (sm_op kr_eq (sm_var 1) sm_str)) (ss_fld (C := "Screen") ⟨T.c_Screen, T.n_Screen_put_by⟩ (sm_var 0) (sm_tup (sa_cons (sm_fld (C := "Screen") ⟨T.c_Screen, T.n_Screen_row⟩ (sm_var 0)) (sa_cons (sm_fld (C := "Screen") ⟨T.c_Screen, T.n_Screen_column⟩ (sm_var 0)) (sa_cons (sm_fld (C := "Screen") ⟨T.c_Screen, T.n_Screen_pen⟩ (sm_var 0)) sa_nil))))) (ss_if (st_test (sm_op kr_eq (sm_var 1) sm_str)) (ss_seq (ss_drop (sm_meth (sm_var 0) (sa_cons (sm_op kr_ix (sm_fld (C := "Screen") ⟨T.c_Screen, T.n_Screen_put_by⟩ (sm_var 0)) sm_int) (sa_cons (sm_op kr_ix (sm_fld (C := "Screen") ⟨T.c_Screen, T.n_Screen_put_by⟩ (sm_var 0)) sm_int) sa_nil))))
      (ss_fld (C := "Screen") ⟨T.c_Screen, T.n_Screen_pen⟩ (sm_var 0) (sm_op kr_ix (sm_fld (C := "Screen") ⟨T.c_Screen, T.n_Screen_put_by⟩ (sm_var 0)) sm_int))) (ss_if (st_test (sm_op kr_eq (sm_var 1) sm_str)) (ss_drop (sm_meth (sm_var 0) sa_nil)) ss_next)))))))⟩) rfl, ?_⟩
  intro c h n S a ok
  have ho := a.o
  have hs := set_self' ho
  have z4 : 4 ≤ sizeLine := le_sz' (by omega)
  have z3 : 3 ≤ sizeLine := le_sz' (by omega)
  have z2 : 2 ≤ sizeLine := le_sz' (by omega)
  by_cases c_u : c = 117
  · subst c_u
    have i1 : inV (.str ⟨#[117]⟩) [V.str "u", V.str "d", V.str "l", V.str "r"] = true := by decide
    have i2 : inV (.str ⟨#[117]⟩) [V.str "n", V.str "p"] = false := by decide
    have i3 : inV (.str ⟨#[117]⟩) [V.str "e", V.str "b", V.str "k", V.str "c"] = false := by decide
    have q1 : decide ((⟨#[117]⟩ : Str) = Str.ofString "h") = false := by decide
    have q2 : decide ((⟨#[117]⟩ : Str) = Str.ofString "n") = false := by decide
    have q3 : decide ((⟨#[117]⟩ : Str) = Str.ofString "s") = false := by decide
    have q4 : decide ((⟨#[117]⟩ : Str) = Str.ofString "t") = false := by decide
    have q5 : decide ((⟨#[117]⟩ : Str) = Str.ofString "z") = false := by decide
    obtain ⟨h', S', e3, a3, v3, f3⟩ := does_stand (S.row + (-1)) (S.col + (0)) h n S a ok
    refine ⟨h', S', ?_, a3, v3, f3⟩
    have dl : valD (mergeD [] ([((Sum.inr ("u" : Str) : Key), D.tuple [.int (-1), .int 0]), (Sum.inr ("d" : Str), .tuple [.int 1, .int 0]), (Sum.inr ("l" : Str), .tuple [.int 0, .int (-1)]), (Sum.inr ("r" : Str), .tuple [.int 0, .int 1])] : List (Key × D))) (Sum.inr ⟨#[117]⟩) = some (.tuple [.int (-1), .int (0)]) := rfl
    clear a3 v3 f3 a ok
    walk_at "es"
  by_cases c_d : c = 100
  · subst c_d
    have i1 : inV (.str ⟨#[100]⟩) [V.str "u", V.str "d", V.str "l", V.str "r"] = true := by decide
    have i2 : inV (.str ⟨#[100]⟩) [V.str "n", V.str "p"] = false := by decide
    have i3 : inV (.str ⟨#[100]⟩) [V.str "e", V.str "b", V.str "k", V.str "c"] = false := by decide
    have q1 : decide ((⟨#[100]⟩ : Str) = Str.ofString "h") = false := by decide
    have q2 : decide ((⟨#[100]⟩ : Str) = Str.ofString "n") = false := by decide
    have q3 : decide ((⟨#[100]⟩ : Str) = Str.ofString "s") = false := by decide
    have q4 : decide ((⟨#[100]⟩ : Str) = Str.ofString "t") = false := by decide
    have q5 : decide ((⟨#[100]⟩ : Str) = Str.ofString "z") = false := by decide
    obtain ⟨h', S', e3, a3, v3, f3⟩ := does_stand (S.row + (1)) (S.col + (0)) h n S a ok
    refine ⟨h', S', ?_, a3, v3, f3⟩
    have dl : valD (mergeD [] ([((Sum.inr ("u" : Str) : Key), D.tuple [.int (-1), .int 0]), (Sum.inr ("d" : Str), .tuple [.int 1, .int 0]), (Sum.inr ("l" : Str), .tuple [.int 0, .int (-1)]), (Sum.inr ("r" : Str), .tuple [.int 0, .int 1])] : List (Key × D))) (Sum.inr ⟨#[100]⟩) = some (.tuple [.int (1), .int (0)]) := rfl
    clear a3 v3 f3 a ok
    walk_at "es"
  by_cases c_l : c = 108
  · subst c_l
    have i1 : inV (.str ⟨#[108]⟩) [V.str "u", V.str "d", V.str "l", V.str "r"] = true := by decide
    have i2 : inV (.str ⟨#[108]⟩) [V.str "n", V.str "p"] = false := by decide
    have i3 : inV (.str ⟨#[108]⟩) [V.str "e", V.str "b", V.str "k", V.str "c"] = false := by decide
    have q1 : decide ((⟨#[108]⟩ : Str) = Str.ofString "h") = false := by decide
    have q2 : decide ((⟨#[108]⟩ : Str) = Str.ofString "n") = false := by decide
    have q3 : decide ((⟨#[108]⟩ : Str) = Str.ofString "s") = false := by decide
    have q4 : decide ((⟨#[108]⟩ : Str) = Str.ofString "t") = false := by decide
    have q5 : decide ((⟨#[108]⟩ : Str) = Str.ofString "z") = false := by decide
    obtain ⟨h', S', e3, a3, v3, f3⟩ := does_stand (S.row + (0)) (S.col + (-1)) h n S a ok
    refine ⟨h', S', ?_, a3, v3, f3⟩
    have dl : valD (mergeD [] ([((Sum.inr ("u" : Str) : Key), D.tuple [.int (-1), .int 0]), (Sum.inr ("d" : Str), .tuple [.int 1, .int 0]), (Sum.inr ("l" : Str), .tuple [.int 0, .int (-1)]), (Sum.inr ("r" : Str), .tuple [.int 0, .int 1])] : List (Key × D))) (Sum.inr ⟨#[108]⟩) = some (.tuple [.int (0), .int (-1)]) := rfl
    clear a3 v3 f3 a ok
    walk_at "es"
  by_cases c_r : c = 114
  · subst c_r
    have i1 : inV (.str ⟨#[114]⟩) [V.str "u", V.str "d", V.str "l", V.str "r"] = true := by decide
    have i2 : inV (.str ⟨#[114]⟩) [V.str "n", V.str "p"] = false := by decide
    have i3 : inV (.str ⟨#[114]⟩) [V.str "e", V.str "b", V.str "k", V.str "c"] = false := by decide
    have q1 : decide ((⟨#[114]⟩ : Str) = Str.ofString "h") = false := by decide
    have q2 : decide ((⟨#[114]⟩ : Str) = Str.ofString "n") = false := by decide
    have q3 : decide ((⟨#[114]⟩ : Str) = Str.ofString "s") = false := by decide
    have q4 : decide ((⟨#[114]⟩ : Str) = Str.ofString "t") = false := by decide
    have q5 : decide ((⟨#[114]⟩ : Str) = Str.ofString "z") = false := by decide
    obtain ⟨h', S', e3, a3, v3, f3⟩ := does_stand (S.row + (0)) (S.col + (1)) h n S a ok
    refine ⟨h', S', ?_, a3, v3, f3⟩
    have dl : valD (mergeD [] ([((Sum.inr ("u" : Str) : Key), D.tuple [.int (-1), .int 0]), (Sum.inr ("d" : Str), .tuple [.int 1, .int 0]), (Sum.inr ("l" : Str), .tuple [.int 0, .int (-1)]), (Sum.inr ("r" : Str), .tuple [.int 0, .int 1])] : List (Key × D))) (Sum.inr ⟨#[114]⟩) = some (.tuple [.int (0), .int (1)]) := rfl
    clear a3 v3 f3 a ok
    walk_at "es"
  by_cases c_h : c = 104
  · subst c_h
    have i1 : inV (.str ⟨#[104]⟩) [V.str "u", V.str "d", V.str "l", V.str "r"] = false := by decide
    have i2 : inV (.str ⟨#[104]⟩) [V.str "n", V.str "p"] = false := by decide
    have i3 : inV (.str ⟨#[104]⟩) [V.str "e", V.str "b", V.str "k", V.str "c"] = false := by decide
    have q1 : decide ((⟨#[104]⟩ : Str) = Str.ofString "h") = true := by decide
    have q2 : decide ((⟨#[104]⟩ : Str) = Str.ofString "n") = false := by decide
    have q3 : decide ((⟨#[104]⟩ : Str) = Str.ofString "s") = false := by decide
    have q4 : decide ((⟨#[104]⟩ : Str) = Str.ofString "t") = false := by decide
    have q5 : decide ((⟨#[104]⟩ : Str) = Str.ofString "z") = false := by decide
    obtain ⟨h', S', e3, a3, v3, f3⟩ := does_stand 0 0 h n S a ok
    refine ⟨h', S', ?_, a3, v3, f3⟩
    clear a3 v3 f3 a ok
    walk_at "es"
  by_cases c_n : c = 110
  · subst c_n
    have i1 : inV (.str ⟨#[110]⟩) [V.str "u", V.str "d", V.str "l", V.str "r"] = false := by decide
    have i2 : inV (.str ⟨#[110]⟩) [V.str "n", V.str "p"] = true := by decide
    have i3 : inV (.str ⟨#[110]⟩) [V.str "e", V.str "b", V.str "k", V.str "c"] = false := by decide
    have q1 : decide ((⟨#[110]⟩ : Str) = Str.ofString "h") = false := by decide
    have q2 : decide ((⟨#[110]⟩ : Str) = Str.ofString "n") = true := by decide
    have q3 : decide ((⟨#[110]⟩ : Str) = Str.ofString "s") = false := by decide
    have q4 : decide ((⟨#[110]⟩ : Str) = Str.ofString "t") = false := by decide
    have q5 : decide ((⟨#[110]⟩ : Str) = Str.ofString "z") = false := by decide
    obtain ⟨h2, S2, e2, a2, v2, f2⟩ := run_Screen_down h n S a ok
    obtain ⟨h', S', e3, a3, v3, f3⟩ := does_stand S2.row S2.col h2 n S2 a2 (by rw [v2]; exact ok.down)
    refine ⟨h', S', ?_, a3, ?_, f2.trans f3⟩
    · have ho2 := a2.o
      clear a3 v3 f3 a ok a2 v2 f2
      walk_at "es"
    · have e1 : S2.row = S.v.down.row := by rw [← v2]; rfl
      have e2 : S2.col = S.v.down.col := by rw [← v2]; rfl
      rw [v3, v2, e1, e2]
      rfl
  by_cases c_p : c = 112
  · subst c_p
    have i1 : inV (.str ⟨#[112]⟩) [V.str "u", V.str "d", V.str "l", V.str "r"] = false := by decide
    have i2 : inV (.str ⟨#[112]⟩) [V.str "n", V.str "p"] = true := by decide
    have i3 : inV (.str ⟨#[112]⟩) [V.str "e", V.str "b", V.str "k", V.str "c"] = false := by decide
    have q1 : decide ((⟨#[112]⟩ : Str) = Str.ofString "h") = false := by decide
    have q2 : decide ((⟨#[112]⟩ : Str) = Str.ofString "n") = false := by decide
    have q3 : decide ((⟨#[112]⟩ : Str) = Str.ofString "s") = false := by decide
    have q4 : decide ((⟨#[112]⟩ : Str) = Str.ofString "t") = false := by decide
    have q5 : decide ((⟨#[112]⟩ : Str) = Str.ofString "z") = false := by decide
    obtain ⟨h2, S2, e2, a2, v2, f2⟩ := run_Screen_up h n S a ok
    obtain ⟨h', S', e3, a3, v3, f3⟩ := does_stand S2.row S2.col h2 n S2 a2 (by rw [v2]; exact ok.up)
    refine ⟨h', S', ?_, a3, ?_, f2.trans f3⟩
    · have ho2 := a2.o
      clear a3 v3 f3 a ok a2 v2 f2
      walk_at "es"
    · have e1 : S2.row = S.v.up.row := by rw [← v2]; rfl
      have e2 : S2.col = S.v.up.col := by rw [← v2]; rfl
      rw [v3, v2, e1, e2]
      rfl
  by_cases c_e : c = 101
  · subst c_e
    have i1 : inV (.str ⟨#[101]⟩) [V.str "u", V.str "d", V.str "l", V.str "r"] = false := by decide
    have i2 : inV (.str ⟨#[101]⟩) [V.str "n", V.str "p"] = false := by decide
    have i3 : inV (.str ⟨#[101]⟩) [V.str "e", V.str "b", V.str "k", V.str "c"] = true := by decide
    have q1 : decide ((⟨#[101]⟩ : Str) = Str.ofString "h") = false := by decide
    have q2 : decide ((⟨#[101]⟩ : Str) = Str.ofString "n") = false := by decide
    have q3 : decide ((⟨#[101]⟩ : Str) = Str.ofString "s") = false := by decide
    have q4 : decide ((⟨#[101]⟩ : Str) = Str.ofString "t") = false := by decide
    have q5 : decide ((⟨#[101]⟩ : Str) = Str.ofString "z") = false := by decide
    obtain ⟨h', S', e3, a3, v3, f3⟩ := run_Screen_erase 101 (by decide) h n S a ok
    refine ⟨h', S', ?_, a3, v3, f3⟩
    clear a3 v3 f3 a ok
    walk_at "es"
  by_cases c_b : c = 98
  · subst c_b
    have i1 : inV (.str ⟨#[98]⟩) [V.str "u", V.str "d", V.str "l", V.str "r"] = false := by decide
    have i2 : inV (.str ⟨#[98]⟩) [V.str "n", V.str "p"] = false := by decide
    have i3 : inV (.str ⟨#[98]⟩) [V.str "e", V.str "b", V.str "k", V.str "c"] = true := by decide
    have q1 : decide ((⟨#[98]⟩ : Str) = Str.ofString "h") = false := by decide
    have q2 : decide ((⟨#[98]⟩ : Str) = Str.ofString "n") = false := by decide
    have q3 : decide ((⟨#[98]⟩ : Str) = Str.ofString "s") = false := by decide
    have q4 : decide ((⟨#[98]⟩ : Str) = Str.ofString "t") = false := by decide
    have q5 : decide ((⟨#[98]⟩ : Str) = Str.ofString "z") = false := by decide
    obtain ⟨h', S', e3, a3, v3, f3⟩ := run_Screen_erase 98 (by decide) h n S a ok
    refine ⟨h', S', ?_, a3, v3, f3⟩
    clear a3 v3 f3 a ok
    walk_at "es"
  by_cases c_k : c = 107
  · subst c_k
    have i1 : inV (.str ⟨#[107]⟩) [V.str "u", V.str "d", V.str "l", V.str "r"] = false := by decide
    have i2 : inV (.str ⟨#[107]⟩) [V.str "n", V.str "p"] = false := by decide
    have i3 : inV (.str ⟨#[107]⟩) [V.str "e", V.str "b", V.str "k", V.str "c"] = true := by decide
    have q1 : decide ((⟨#[107]⟩ : Str) = Str.ofString "h") = false := by decide
    have q2 : decide ((⟨#[107]⟩ : Str) = Str.ofString "n") = false := by decide
    have q3 : decide ((⟨#[107]⟩ : Str) = Str.ofString "s") = false := by decide
    have q4 : decide ((⟨#[107]⟩ : Str) = Str.ofString "t") = false := by decide
    have q5 : decide ((⟨#[107]⟩ : Str) = Str.ofString "z") = false := by decide
    obtain ⟨h', S', e3, a3, v3, f3⟩ := run_Screen_erase 107 (by decide) h n S a ok
    refine ⟨h', S', ?_, a3, v3, f3⟩
    clear a3 v3 f3 a ok
    walk_at "es"
  by_cases c_c : c = 99
  · subst c_c
    have i1 : inV (.str ⟨#[99]⟩) [V.str "u", V.str "d", V.str "l", V.str "r"] = false := by decide
    have i2 : inV (.str ⟨#[99]⟩) [V.str "n", V.str "p"] = false := by decide
    have i3 : inV (.str ⟨#[99]⟩) [V.str "e", V.str "b", V.str "k", V.str "c"] = true := by decide
    have q1 : decide ((⟨#[99]⟩ : Str) = Str.ofString "h") = false := by decide
    have q2 : decide ((⟨#[99]⟩ : Str) = Str.ofString "n") = false := by decide
    have q3 : decide ((⟨#[99]⟩ : Str) = Str.ofString "s") = false := by decide
    have q4 : decide ((⟨#[99]⟩ : Str) = Str.ofString "t") = false := by decide
    have q5 : decide ((⟨#[99]⟩ : Str) = Str.ofString "z") = false := by decide
    obtain ⟨h', S', e3, a3, v3, f3⟩ := run_Screen_erase 99 (by decide) h n S a ok
    refine ⟨h', S', ?_, a3, v3, f3⟩
    clear a3 v3 f3 a ok
    walk_at "es"
  by_cases c_s : c = 115
  · subst c_s
    have i1 : inV (.str ⟨#[115]⟩) [V.str "u", V.str "d", V.str "l", V.str "r"] = false := by decide
    have i2 : inV (.str ⟨#[115]⟩) [V.str "n", V.str "p"] = false := by decide
    have i3 : inV (.str ⟨#[115]⟩) [V.str "e", V.str "b", V.str "k", V.str "c"] = false := by decide
    have q1 : decide ((⟨#[115]⟩ : Str) = Str.ofString "h") = false := by decide
    have q2 : decide ((⟨#[115]⟩ : Str) = Str.ofString "n") = false := by decide
    have q3 : decide ((⟨#[115]⟩ : Str) = Str.ofString "s") = true := by decide
    have q4 : decide ((⟨#[115]⟩ : Str) = Str.ofString "t") = false := by decide
    have q5 : decide ((⟨#[115]⟩ : Str) = Str.ofString "z") = false := by decide
    refine ⟨_, { S with byr := S.row, byc := S.col, byp := S.pen }, ?_, a.set _ rfl rfl rfl rfl rfl, rfl, fr_set a _ rfl rfl rfl _⟩
    clear a ok
    walk_at "es"
  by_cases c_t : c = 116
  · subst c_t
    have i1 : inV (.str ⟨#[116]⟩) [V.str "u", V.str "d", V.str "l", V.str "r"] = false := by decide
    have i2 : inV (.str ⟨#[116]⟩) [V.str "n", V.str "p"] = false := by decide
    have i3 : inV (.str ⟨#[116]⟩) [V.str "e", V.str "b", V.str "k", V.str "c"] = false := by decide
    have q1 : decide ((⟨#[116]⟩ : Str) = Str.ofString "h") = false := by decide
    have q2 : decide ((⟨#[116]⟩ : Str) = Str.ofString "n") = false := by decide
    have q3 : decide ((⟨#[116]⟩ : Str) = Str.ofString "s") = false := by decide
    have q4 : decide ((⟨#[116]⟩ : Str) = Str.ofString "t") = true := by decide
    have q5 : decide ((⟨#[116]⟩ : Str) = Str.ofString "z") = false := by decide
    obtain ⟨h2, S2, e2, a2, v2, f2⟩ := does_stand S.byr S.byc h n S a ok
    refine ⟨_, { S2 with pen := S2.byp }, ?_, a2.set _ rfl rfl rfl rfl rfl, ?_, f2.trans (fr_set a2 _ rfl rfl rfl _)⟩
    · have ho2 := a2.o
      have hs2 := set_self' ho2
      have hb : S2.byp = S.byp := by have := congrArg Sr.byp v2; exact this
      clear a ok a2 v2 f2
      walk_at "es"
    · show { S2.v with pen := S2.v.byp } = _
      rw [v2]
      rfl
  by_cases c_z : c = 122
  · subst c_z
    have i1 : inV (.str ⟨#[122]⟩) [V.str "u", V.str "d", V.str "l", V.str "r"] = false := by decide
    have i2 : inV (.str ⟨#[122]⟩) [V.str "n", V.str "p"] = false := by decide
    have i3 : inV (.str ⟨#[122]⟩) [V.str "e", V.str "b", V.str "k", V.str "c"] = false := by decide
    have q1 : decide ((⟨#[122]⟩ : Str) = Str.ofString "h") = false := by decide
    have q2 : decide ((⟨#[122]⟩ : Str) = Str.ofString "n") = false := by decide
    have q3 : decide ((⟨#[122]⟩ : Str) = Str.ofString "s") = false := by decide
    have q4 : decide ((⟨#[122]⟩ : Str) = Str.ofString "t") = false := by decide
    have q5 : decide ((⟨#[122]⟩ : Str) = Str.ofString "z") = true := by decide
    obtain ⟨h', S', e3, a3, v3, f3⟩ := does_begin h n S a ok
    refine ⟨h', S', ?_, a3, v3, f3⟩
    clear a3 v3 f3 a ok
    walk_at "es"
  have i1 : inV (.str ⟨#[c]⟩) [V.str "u", V.str "d", V.str "l", V.str "r"] = false := (inV_one c [117, 100, 108, 114]).trans (by simp [c_u, c_d, c_l, c_r])
  have i2 : inV (.str ⟨#[c]⟩) [V.str "n", V.str "p"] = false := (inV_one c [110, 112]).trans (by simp [c_n, c_p])
  have i3 : inV (.str ⟨#[c]⟩) [V.str "e", V.str "b", V.str "k", V.str "c"] = false := (inV_one c [101, 98, 107, 99]).trans (by simp [c_e, c_b, c_k, c_c])
  have q1 : decide ((⟨#[c]⟩ : Str) = Str.ofString "h") = false := (one_eq 104 c).trans (by simp [c_h])
  have q3 : decide ((⟨#[c]⟩ : Str) = Str.ofString "s") = false := (one_eq 115 c).trans (by simp [c_s])
  have q4 : decide ((⟨#[c]⟩ : Str) = Str.ofString "t") = false := (one_eq 116 c).trans (by simp [c_t])
  have q5 : decide ((⟨#[c]⟩ : Str) = Str.ofString "z") = false := (one_eq 122 c).trans (by simp [c_z])
  refine ⟨h, S, ?_, a, ?_, Fr.refl _ _⟩
  · clear a ok
    walk_at "es"
  · show _ = Sr.small S.v c
    unfold Sr.small
    rw [if_neg c_u, if_neg c_d, if_neg c_l, if_neg c_r, if_neg c_h, if_neg c_n, if_neg c_p, if_neg (by simp [c_e, c_b, c_k, c_c]), if_neg c_s, if_neg c_t, if_neg c_z]
noncomputable def F_Screen_small : List D → M D := Classical.choose ex_Screen_small
theorem cm_Screen_small {P : Program} {w : World} {K : PySem.W.Frag} {mg : Str → Option Value} {base : Heap} {Ts : List (Addr × Str)} (T : GT K mg) : CalM P w K mg base (XC P w) 7 "Screen" "small" ["self", "word"] (spM K Ts 2 F_Screen_small) := (Classical.choose_spec ex_Screen_small).1 T
theorem run_Screen_small : Q_Screen_small F_Screen_small := (Classical.choose_spec ex_Screen_small).2
end Sc

namespace Sc
open PySem PySem.Spec PyProof.Rows L2
/-! ### loops over what a screen does -/
theorem for_does {n : Nat} {body : D → En → M (Fl × En)} {e0 : Option D → En} {all : List D} (I : Sr → Prop) (f : D → Sr → Sr) : ∀ (xs : List D),
    (∀ x ∈ xs, ∀ v h S, ScAt h n S → S.v.ok → I S.v → ∃ h' S', body x (e0 v) h = some (.ok (.nx, e0 (some x)), h') ∧ ScAt h' n S' ∧ S'.v = f x S.v ∧ Fr h (ids n S) h' (ids n S') ∧ S'.v.ok ∧ I S'.v) →
    ∀ v h S, ScAt h n S → S.v.ok → I S.v → ∃ v' h' S', forM .none all body xs (e0 v) h = some (.ok (.nx, e0 v'), h') ∧ ScAt h' n S' ∧ S'.v = xs.foldl (fun s x => f x s) S.v ∧ Fr h (ids n S) h' (ids n S') ∧ S'.v.ok ∧ I S'.v
  | [], _, v, h, S, a, ok, i => ⟨v, h, S, rfl, a, rfl, Fr.refl _ _, ok, i⟩
  | x :: xs, hb, v, h, S, a, ok, i => by
    obtain ⟨h1, S1, e1, a1, v1, f1, ok1, i1⟩ := hb x List.mem_cons_self v h S a ok i
    obtain ⟨v', h2, S2, e2, a2, v2, f2, ok2, i2⟩ := for_does I f xs (fun y hy => hb y (List.mem_cons_of_mem _ hy)) (some x) h1 S1 a1 ok1 i1
    refine ⟨v', h2, S2, ?_, a2, ?_, f1.trans f2, ok2, i2⟩
    · rw [for_cons, bnd_ap, e1]
      exact e2
    · rw [v2, v1]
      rfl
theorem for_doesE {n : Nat} {body : D → En → M (Fl × En)} {e0 : Option D → En} {all xs : List D} {v : Option D} {h : MH} {r : Option (Except Str (Fl × En) × MH)} (hB : forM .none all body xs (e0 v) h = r) (I : Sr → Prop) (f : D → Sr → Sr)
    (hb : ∀ x ∈ xs, ∀ v h S, ScAt h n S → S.v.ok → I S.v → ∃ h' S', body x (e0 v) h = some (.ok (.nx, e0 (some x)), h') ∧ ScAt h' n S' ∧ S'.v = f x S.v ∧ Fr h (ids n S) h' (ids n S') ∧ S'.v.ok ∧ I S'.v) {S : ScI} (a : ScAt h n S) (ok : S.v.ok) (i : I S.v) :
    ∃ v' h' S', r = some (.ok (.nx, e0 v'), h') ∧ ScAt h' n S' ∧ S'.v = xs.foldl (fun s x => f x s) S.v ∧ Fr h (ids n S) h' (ids n S') ∧ S'.v.ok ∧ I S'.v := by
  obtain ⟨v', h', S', e, q⟩ := for_does (all := all) I f xs hb v h S a ok i
  exact ⟨v', h', S', hB.symm.trans e, q⟩
def Sr.puts (c : Nat) : Nat → Sr → Sr
  | 0, s => s
  | k + 1, s => Sr.puts c k (s.put c)
theorem puts_fold (c : Nat) : ∀ (xs : List D) (s : Sr), xs.foldl (fun s _ => s.put c) s = s.puts c xs.length
  | [], _ => rfl
  | _ :: xs, s => puts_fold c xs (s.put c)
theorem put_last (s : Sr) (c : Nat) : (s.put c).last = some c := by
  unfold Sr.put Sr.step
  split <;> rfl
theorem Sr.ok.puts {s : Sr} (k : s.ok) (c : Nat) : ∀ m : Nat, (s.puts c m).ok := fun m => by
  induction m generalizing s with
  | zero => exact k
  | succ m ih => exact ih (k.put c)
def Sr.one (s : Sr) (c : Nat) (n : Int) : Sr :=
  if c = 67 then (if n ≤ 7 then { s with pen := { s.pen with c := n } } else s)
  else if c = 66 then (if n ≤ 7 then { s with pen := { s.pen with b := n } } else s)
  else if c = 77 then (if n ≤ 3 then { s with pen := { s.pen with m := n } } else s)
  else if c = 88 ∨ c = 73 then s.shift c (min n (s.wide - s.col))
  else if c = 68 ∧ s.top ≤ s.row ∧ s.row ≤ s.bottom then (s.takeRows n).stand (s.takeRows n).row 0
  else if c = 78 ∧ s.top ≤ s.row ∧ s.row ≤ s.bottom then (s.rollDown s.row n).stand (s.rollDown s.row n).row 0
  else if c = 74 then match s.last with
    | some l => s.puts l (min n (s.wide * s.high)).toNat
    | none => s
  else s
theorem Sr.ok.takeRows {s : Sr} (k : s.ok) {n : Int} (h : 0 ≤ n) (hb : s.row ≤ s.bottom) : (s.takeRows n).ok :=
  { k.roll k.r0 hb h with pl := k.pl, pc := k.pc }
theorem Sr.ok.one {s : Sr} (k : s.ok) (c : Nat) {n : Int} (h : 0 ≤ n) : (s.one c n).ok := by
  have cw := k.cw
  unfold Sr.one
  split
  · split
    · exact { k with }
    · exact k
  split
  · split
    · exact { k with }
    · exact k
  split
  · split
    · exact { k with }
    · exact k
  split
  · exact k.shift c (by omega) (by omega)
  split
  · next q => exact (k.takeRows h q.2.2).stand _ _
  split
  · next q => exact (k.rollDown k.r0 q.2.2 h).stand _ _
  split
  · split
    · exact k.puts _ _
    · exact k
  exact k
theorem log_le (n : Nat) : n.log2 ≤ n := by
  rcases Nat.eq_zero_or_pos n with rfl | h
  · decide
  · exact Nat.le_of_lt ((Nat.log2_lt (by omega)).mpr Nat.lt_two_pow_self)
def Q_Screen_one (F : List D → M D) : Prop := ∀ (c : Nat) (m : Int), 0 ≤ m → m ≤ 10000 → Does F [.str ⟨#[c]⟩, .int m] fun s => s.one c m
theorem sc_Screen_one : FnScope ["self", "word", "number", "at"] ["self", "word", "number"] (defScope s_Screen_one) := ⟨rfl, rfl, rfl, by decide +kernel, rfl, by decide +kernel, by decide +kernel⟩
theorem ex_Screen_one : ∃ F : List D → M D, (∀ {P : Program} {w : World} {K : PySem.W.Frag} {mg : Str → Option Value} {base : Heap} {Ts : List (Addr × Str)} (T : GT K mg), CalM P w K mg base (XC P w) 7 "Screen" "one" ["self", "word", "number"] (spM K Ts 3 F)) ∧ Q_Screen_one F := by
  refine ⟨_, fun {P w K mg base Ts} T => calM_R T.f_Screen_one T.c_Screen T.m_Screen_one sc_Screen_one (fun _ _ _ _ _ _ us hl => match us, hl with | [_, _, _], _ => rfl)
    (fun f cdv A' outer s H E hr => ⟨_, (pss_one (ps_if (pt_cmpR (kmem K) (pv 1) (pe_tup (pa_cons pe_str (pa_cons pe_str (pa_cons pe_str pa_nil)))) rfl) (pss_cons (pS 3 sc_Screen_one.nd (pe_tupM PySem.F.plainAttrs_tuple PySem.F.slot_tuple_index PySem.F.type_tuple_index (ktupix K) (pa_cons pe_str (pa_cons pe_str (pa_cons pe_str pa_nil))) (pa_cons (pv 1) pa_nil)))
      (pss_one (ps_if (pt_cmpR op_leq (pv 2) (pe_ix (kix K) (pe_tup (pa_cons pe_int (pa_cons pe_int (pa_cons pe_int pa_nil)))) (pv 3) (fun _ _ => rfl)) (nomark _)) (pss_one (ks_fld K (pv 0) (pe_op (kplusA K) (pe_op (kplusA K) (pe_slice (ksl K) (kfld K (pv 0)) po_none (po_some (pv 3))) (pe_tup (pa_cons (pv 2) pa_nil))) (pe_slice (ksl K) (kfld K (pv 0)) (po_some (pe_op (kplusA K) (pv 3) pe_int)) po_none)))) pss_nil))) (pss_one (ps_if (pt_cmpR (kmem K) (pv 1) (pe_tup (pa_cons pe_str (pa_cons pe_str pa_nil))) rfl) (pss_one (ps_expr (pe_cm K (cm_Screen_shift T) (hr.mono (by decide)) (passX rfl rfl rfl rfl) (pv 0) (pa_cons (pv 1) (pa_cons (pe_callB (call_min2 rfl) (by rfl) T.z_min (by decide +kernel) (pa_cons (pv 2) (pa_cons (pe_op op_sub (kfld K (pv 0)) (kfld K (pv 0))) pa_nil))) pa_nil))))) (pss_one (ps_if (PW.pt (pw_and (pt_cmpR (kmem K) (pv 1) (pe_tup (pa_cons pe_str (pa_cons pe_str pa_nil))) rfl) (pw_and1 (pt_chain op_leq op_leq (kfld K (pv 0)) (kfld K (pv 0)) (kfld K (pv 0)))))) (pss_cons (ps_if (pt_cmpR (keq K hr.units) (pv 1) pe_str (nomark _)) (pss_one (ps_expr (pe_cm K (cm_Screen_take_rows T) (hr.mono (by decide)) (passX rfl rfl rfl rfl) (pv 0) (pa_cons (pv 2) pa_nil)))) (pss_one (ps_expr (pe_cm K (cm_Screen_roll_down T) (hr.mono (by decide)) (passX rfl rfl rfl rfl) (pv 0) (pa_cons (kfld K (pv 0)) (pa_cons (pv 2) pa_nil))))))
      (pss_one (ps_expr (pe_cm K (cm_Screen_stand T) (hr.mono (by decide)) (passX rfl rfl rfl rfl) (pv 0) (pa_cons (kfld K (pv 0)) (pa_cons pe_int pa_nil)))))) (pss_one (ps_if (PW.pt (pw_and (pt_cmpR (keq K hr.units) (pv 1) pe_str (nomark _)) (pw_and1 (pt_cmp (pc_notN (kfld K (pv 0))))))) (pss_one (ps_for (passes_of rfl) rfl (pi_range1 (by rfl) T.z_range (pa_cons (pe_callB (call_min2 rfl) (by rfl) T.z_min (by decide +kernel) (pa_cons (pv 2) (pa_cons (pe_op (ktimes K) (kfld K (pv 0)) (kfld K (pv 0))) pa_nil))) pa_nil)) (pG 3 sc_Screen_one.nd) (pss_one (ps_expr (pe_cm K (cm_Screen_put T) (hr.mono (by decide)) (passX rfl rfl rfl rfl) (pv 0) (pa_cons (kfld K (pv 0)) pa_nil)))))) pss_nil)))))))),
    (ss_if (st_test (sm_op kr_in (sm_var 1) (sm_tup (sa_cons sm_str (sa_cons sm_str (sa_cons sm_str sa_nil)))))) (ss_seq (ss_asg (sm_bmx km_tupix (sm_tup (sa_cons sm_str (sa_cons sm_str (sa_cons sm_str sa_nil)))) (sa_cons (sm_var 1) sa_nil)) (sg_name 3))
      (ss_if (st_test (sm_op kr_le (sm_var 2) (sm_op kr_ix (sm_tup (sa_cons sm_int (sa_cons sm_int (sa_cons sm_int sa_nil)))) (sm_var 3)))) (ss_fld (C := "Screen") ⟨T.c_Screen, T.n_Screen_pen⟩ (sm_var 0) (sm_op kr_plus (sm_op kr_plus (sm_sl (sm_fld (C := "Screen") ⟨T.c_Screen, T.n_Screen_pen⟩ (sm_var 0)) so_none (so_some (sm_var 3))) (sm_tup (sa_cons (sm_var 2) sa_nil))) (sm_sl (sm_fld (C := "Screen") ⟨T.c_Screen, T.n_Screen_pen⟩ (sm_var 0)) (so_some (sm_op kr_plus (sm_var 3) sm_int)) so_none))) ss_next)) (ss_if (st_test (sm_op kr_in (sm_var 1) (sm_tup (sa_cons sm_str (sa_cons sm_str sa_nil))))) (ss_drop (sm_meth (sm_var 0) (sa_cons (sm_var 1) (sa_cons (sm_cb kc_min (sa_cons (sm_var 2) (sa_cons (sm_op kr_sub (sm_fld (C := "Screen") ⟨T.c_Screen, T.n_Screen_wide⟩ (sm_var 0)) (sm_fld (C := "Screen") ⟨T.c_Screen, T.n_Screen_column⟩ (sm_var 0))) sa_nil))) sa_nil)))) (ss_if (st_and (st_test (sm_op kr_in (sm_var 1) (sm_tup (sa_cons sm_str (sa_cons sm_str sa_nil))))) (st_test (sm_chain kr_le kr_le (sm_fld (C := "Screen") ⟨T.c_Screen, T.n_Screen_top⟩ (sm_var 0)) (sm_fld (C := "Screen") ⟨T.c_Screen, T.n_Screen_row⟩ (sm_var 0)) (sm_fld (C := "Screen") ⟨T.c_Screen, T.n_Screen_bottom⟩ (sm_var 0))))) (ss_seq (ss_if (st_test (sm_op kr_eq (sm_var 1) sm_str)) (ss_drop (sm_meth (sm_var 0) (sa_cons (sm_var 2) sa_nil))) (ss_drop (sm_meth (sm_var 0) (sa_cons (sm_fld (C := "Screen") ⟨T.c_Screen, T.n_Screen_row⟩ (sm_var 0)) (sa_cons (sm_var 2) sa_nil)))))
      (ss_drop (sm_meth (sm_var 0) (sa_cons (sm_fld (C := "Screen") ⟨T.c_Screen, T.n_Screen_row⟩ (sm_var 0)) (sa_cons sm_int sa_nil))))) (ss_if (st_and (st_test (sm_op kr_eq (sm_var 1) sm_str)) (st_B (sm_notN (sm_fld (C := "Screen") ⟨T.c_Screen, T.n_Screen_last⟩ (sm_var 0))))) (ss_for (si_range1 (sa_cons (sm_cb kc_min (sa_cons (sm_var 2) (sa_cons (sm_op kr_times (sm_fld (C := "Screen") ⟨T.c_Screen, T.n_Screen_wide⟩ (sm_var 0)) (sm_fld (C := "Screen") ⟨T.c_Screen, T.n_Screen_high⟩ (sm_var 0))) sa_nil))) sa_nil)) (sg_name 3) (ss_drop (sm_meth (sm_var 0) (sa_cons (sm_fld (C := "Screen") ⟨T.c_Screen, T.n_Screen_last⟩ (sm_var 0)) sa_nil)))) ss_next))))⟩) rfl, ?_⟩
  intro c m m0 m1 h n S a ok
  have ho := a.o
  have hs := set_self' ho
  have z4 : 4 ≤ sizeLine := le_sz' (by omega)
  have z3 : 3 ≤ sizeLine := le_sz' (by omega)
  have z2 : 2 ≤ sizeLine := le_sz' (by omega)
  have z1 : 1 ≤ sizeLine := le_sz' (by omega)
  by_cases c_C : c = 67
  · subst c_C
    have i1 : inV (.str ⟨#[67]⟩) [V.str "C", V.str "B", V.str "M"] = true := by decide
    have ix : idxM (.tuple [.str "C", .str "B", .str "M"]) [.str ⟨#[67]⟩] = some (.int 0) := rfl
    have hp : S.pen.d = .tuple [.int S.pen.c, .int S.pen.b, .int S.pen.m] := rfl
    have sa : ∀ x y z : D, cutL [x, y, z] none (some 0) = [] := fun _ _ _ => rfl
    have sb : ∀ x y z : D, cutL [x, y, z] (some 1) none = [y, z] := fun _ _ _ => rfl
    have s1 : HT.sIx 3 0 none = 0 := rfl
    have s2 : HT.sIx 3 3 none = 3 := rfl
    have s3 : HT.sIx 3 3 (some 0) = 0 := rfl
    have s4 : HT.sIx 3 0 (some 1) = 1 := rfl
    by_cases hm : m ≤ 7
    · refine ⟨_, { S with pen := { S.pen with c := m } }, ?_, a.set _ rfl rfl rfl rfl rfl, ?_, fr_set a _ rfl rfl rfl _⟩
      · have q : setF "pen" (.tuple [.int m, .int S.pen.b, .int S.pen.m]) S.fs = ScI.fs { S with pen := { S.pen with c := m } } := rfl
        have dm : decide (m ≤ 7) = true := decide_eq_true hm
        clear a ok
        walk_at "es"
      · show _ = Sr.one S.v 67 m
        unfold Sr.one
        simp only [Nat.reduceEqDiff, if_true, if_false, if_pos hm]
        rfl
    · refine ⟨h, S, ?_, a, ?_, Fr.refl _ _⟩
      · have dm : decide (m ≤ 7) = false := decide_eq_false hm
        clear a ok
        walk_at "es"
      · show _ = Sr.one S.v 67 m
        unfold Sr.one
        simp only [Nat.reduceEqDiff, if_true, if_false, if_neg hm]
  by_cases c_B : c = 66
  · subst c_B
    have i1 : inV (.str ⟨#[66]⟩) [V.str "C", V.str "B", V.str "M"] = true := by decide
    have ix : idxM (.tuple [.str "C", .str "B", .str "M"]) [.str ⟨#[66]⟩] = some (.int 1) := rfl
    have hp : S.pen.d = .tuple [.int S.pen.c, .int S.pen.b, .int S.pen.m] := rfl
    have sa : ∀ x y z : D, cutL [x, y, z] none (some 1) = [x] := fun _ _ _ => rfl
    have sb : ∀ x y z : D, cutL [x, y, z] (some 2) none = [z] := fun _ _ _ => rfl
    have s1 : HT.sIx 3 0 none = 0 := rfl
    have s2 : HT.sIx 3 3 none = 3 := rfl
    have s3 : HT.sIx 3 3 (some 1) = 1 := rfl
    have s4 : HT.sIx 3 0 (some 2) = 2 := rfl
    by_cases hm : m ≤ 7
    · refine ⟨_, { S with pen := { S.pen with b := m } }, ?_, a.set _ rfl rfl rfl rfl rfl, ?_, fr_set a _ rfl rfl rfl _⟩
      · have q : setF "pen" (.tuple [.int S.pen.c, .int m, .int S.pen.m]) S.fs = ScI.fs { S with pen := { S.pen with b := m } } := rfl
        have dm : decide (m ≤ 7) = true := decide_eq_true hm
        clear a ok
        walk_at "es"
      · show _ = Sr.one S.v 66 m
        unfold Sr.one
        simp only [Nat.reduceEqDiff, if_true, if_false, if_pos hm]
        rfl
    · refine ⟨h, S, ?_, a, ?_, Fr.refl _ _⟩
      · have dm : decide (m ≤ 7) = false := decide_eq_false hm
        clear a ok
        walk_at "es"
      · show _ = Sr.one S.v 66 m
        unfold Sr.one
        simp only [Nat.reduceEqDiff, if_true, if_false, if_neg hm]
  by_cases c_M : c = 77
  · subst c_M
    have i1 : inV (.str ⟨#[77]⟩) [V.str "C", V.str "B", V.str "M"] = true := by decide
    have ix : idxM (.tuple [.str "C", .str "B", .str "M"]) [.str ⟨#[77]⟩] = some (.int 2) := rfl
    have hp : S.pen.d = .tuple [.int S.pen.c, .int S.pen.b, .int S.pen.m] := rfl
    have sa : ∀ x y z : D, cutL [x, y, z] none (some 2) = [x, y] := fun _ _ _ => rfl
    have sb : ∀ x y z : D, cutL [x, y, z] (some 3) none = [] := fun _ _ _ => rfl
    have s1 : HT.sIx 3 0 none = 0 := rfl
    have s2 : HT.sIx 3 3 none = 3 := rfl
    have s3 : HT.sIx 3 3 (some 2) = 2 := rfl
    have s4 : HT.sIx 3 0 (some 3) = 3 := rfl
    by_cases hm : m ≤ 3
    · refine ⟨_, { S with pen := { S.pen with m := m } }, ?_, a.set _ rfl rfl rfl rfl rfl, ?_, fr_set a _ rfl rfl rfl _⟩
      · have q : setF "pen" (.tuple [.int S.pen.c, .int S.pen.b, .int m]) S.fs = ScI.fs { S with pen := { S.pen with m := m } } := rfl
        have dm : decide (m ≤ 3) = true := decide_eq_true hm
        clear a ok
        walk_at "es"
      · show _ = Sr.one S.v 77 m
        unfold Sr.one
        simp only [Nat.reduceEqDiff, if_true, if_false, if_pos hm]
        rfl
    · refine ⟨h, S, ?_, a, ?_, Fr.refl _ _⟩
      · have dm : decide (m ≤ 3) = false := decide_eq_false hm
        clear a ok
        walk_at "es"
      · show _ = Sr.one S.v 77 m
        unfold Sr.one
        simp only [Nat.reduceEqDiff, if_true, if_false, if_neg hm]
  by_cases c_X : c = 88
  · subst c_X
    have i1 : inV (.str ⟨#[88]⟩) [V.str "C", V.str "B", V.str "M"] = false := by decide
    have i2 : inV (.str ⟨#[88]⟩) [V.str "X", V.str "I"] = true := by decide
    have i3 : inV (.str ⟨#[88]⟩) [V.str "D", V.str "N"] = false := by decide
    have cw : S.col < S.wide := ok.cw
    obtain ⟨k, hk⟩ : ∃ k, k = min m (S.wide - S.col) := ⟨_, rfl⟩
    obtain ⟨h', S', e3, a3, v3, f3⟩ := run_Screen_shift 88 (by decide) k h n S a ok (by omega) (by omega)
    refine ⟨h', S', ?_, a3, ?_, f3⟩
    · clear a3 v3 f3 a ok
      replace hk := hk.symm
      walk_at "es"
    · rw [v3, hk]
      show _ = Sr.one S.v 88 m
      unfold Sr.one
      simp only [Nat.reduceEqDiff, if_true, if_false, true_or, or_true]
      rfl
  by_cases c_I : c = 73
  · subst c_I
    have i1 : inV (.str ⟨#[73]⟩) [V.str "C", V.str "B", V.str "M"] = false := by decide
    have i2 : inV (.str ⟨#[73]⟩) [V.str "X", V.str "I"] = true := by decide
    have i3 : inV (.str ⟨#[73]⟩) [V.str "D", V.str "N"] = false := by decide
    have cw : S.col < S.wide := ok.cw
    obtain ⟨k, hk⟩ : ∃ k, k = min m (S.wide - S.col) := ⟨_, rfl⟩
    obtain ⟨h', S', e3, a3, v3, f3⟩ := run_Screen_shift 73 (by decide) k h n S a ok (by omega) (by omega)
    refine ⟨h', S', ?_, a3, ?_, f3⟩
    · clear a3 v3 f3 a ok
      replace hk := hk.symm
      walk_at "es"
    · rw [v3, hk]
      show _ = Sr.one S.v 73 m
      unfold Sr.one
      simp only [Nat.reduceEqDiff, if_true, if_false, true_or, or_true]
      rfl
  by_cases c_D : c = 68
  · subst c_D
    have i1 : inV (.str ⟨#[68]⟩) [V.str "C", V.str "B", V.str "M"] = false := by decide
    have i2 : inV (.str ⟨#[68]⟩) [V.str "X", V.str "I"] = false := by decide
    have i3 : inV (.str ⟨#[68]⟩) [V.str "D", V.str "N"] = true := by decide
    have q1 : decide ((⟨#[68]⟩ : Str) = Str.ofString "D") = true := by decide
    have q2 : decide ((⟨#[68]⟩ : Str) = Str.ofString "J") = false := by decide
    by_cases t1 : S.top ≤ S.row
    · have u1 : decide (S.top ≤ S.row) = true := decide_eq_true t1
      by_cases t2 : S.row ≤ S.bottom
      · have u2 : decide (S.row ≤ S.bottom) = true := decide_eq_true t2
        obtain ⟨h2, S2, e2, a2, v2, f2⟩ := run_Screen_take_rows m m0 m1 h n S a ok t2
        have ok2 : S2.v.ok := by rw [v2]; exact ok.takeRows m0 t2
        obtain ⟨h', S', e3, a3, v3, f3⟩ := does_stand S2.row 0 h2 n S2 a2 ok2
        refine ⟨h', S', ?_, a3, ?_, f2.trans f3⟩
        · have ho2 := a2.o
          clear a3 v3 f3 a ok a2 v2 f2 ok2
          walk_at "es"
        · rw [v3]
          show Sr.stand S2.v S2.v.row 0 = Sr.one S.v 68 m
          have g : S.v.top ≤ S.v.row ∧ S.v.row ≤ S.v.bottom := ⟨t1, t2⟩
          unfold Sr.one
          simp only [Nat.reduceEqDiff, if_true, if_false, or_false, true_and, false_and, if_pos g]
          rw [v2]
          try rfl
      · have u2 : decide (S.row ≤ S.bottom) = false := decide_eq_false t2
        refine ⟨h, S, ?_, a, ?_, Fr.refl _ _⟩
        · clear a ok
          walk_at "es"
        · show _ = Sr.one S.v 68 m
          have g : ¬(S.v.top ≤ S.v.row ∧ S.v.row ≤ S.v.bottom) := fun z => t2 z.2
          unfold Sr.one
          simp only [Nat.reduceEqDiff, if_true, if_false, or_false, true_and, false_and, if_neg g]
    · have u1 : decide (S.top ≤ S.row) = false := decide_eq_false t1
      refine ⟨h, S, ?_, a, ?_, Fr.refl _ _⟩
      · clear a ok
        walk_at "es"
      · show _ = Sr.one S.v 68 m
        have g : ¬(S.v.top ≤ S.v.row ∧ S.v.row ≤ S.v.bottom) := fun z => t1 z.1
        unfold Sr.one
        simp only [Nat.reduceEqDiff, if_true, if_false, or_false, true_and, false_and, if_neg g]
  by_cases c_N : c = 78
  · subst c_N
    have i1 : inV (.str ⟨#[78]⟩) [V.str "C", V.str "B", V.str "M"] = false := by decide
    have i2 : inV (.str ⟨#[78]⟩) [V.str "X", V.str "I"] = false := by decide
    have i3 : inV (.str ⟨#[78]⟩) [V.str "D", V.str "N"] = true := by decide
    have q1 : decide ((⟨#[78]⟩ : Str) = Str.ofString "D") = false := by decide
    have q2 : decide ((⟨#[78]⟩ : Str) = Str.ofString "J") = false := by decide
    by_cases t1 : S.top ≤ S.row
    · have u1 : decide (S.top ≤ S.row) = true := decide_eq_true t1
      by_cases t2 : S.row ≤ S.bottom
      · have u2 : decide (S.row ≤ S.bottom) = true := decide_eq_true t2
        obtain ⟨h2, S2, e2, a2, v2, f2⟩ := run_Screen_roll_down S.row m m0 m1 h n S a ok ok.r0 t2
        have ok2 : S2.v.ok := by rw [v2]; exact ok.rollDown ok.r0 t2 m0
        obtain ⟨h', S', e3, a3, v3, f3⟩ := does_stand S2.row 0 h2 n S2 a2 ok2
        refine ⟨h', S', ?_, a3, ?_, f2.trans f3⟩
        · have ho2 := a2.o
          clear a3 v3 f3 a ok a2 v2 f2 ok2
          walk_at "es"
        · rw [v3]
          show Sr.stand S2.v S2.v.row 0 = Sr.one S.v 78 m
          have g : S.v.top ≤ S.v.row ∧ S.v.row ≤ S.v.bottom := ⟨t1, t2⟩
          unfold Sr.one
          simp only [Nat.reduceEqDiff, if_true, if_false, or_false, true_and, false_and, if_pos g]
          rw [v2]
          try rfl
      · have u2 : decide (S.row ≤ S.bottom) = false := decide_eq_false t2
        refine ⟨h, S, ?_, a, ?_, Fr.refl _ _⟩
        · clear a ok
          walk_at "es"
        · show _ = Sr.one S.v 78 m
          have g : ¬(S.v.top ≤ S.v.row ∧ S.v.row ≤ S.v.bottom) := fun z => t2 z.2
          unfold Sr.one
          simp only [Nat.reduceEqDiff, if_true, if_false, or_false, true_and, false_and, if_neg g]
    · have u1 : decide (S.top ≤ S.row) = false := decide_eq_false t1
      refine ⟨h, S, ?_, a, ?_, Fr.refl _ _⟩
      · clear a ok
        walk_at "es"
      · show _ = Sr.one S.v 78 m
        have g : ¬(S.v.top ≤ S.v.row ∧ S.v.row ≤ S.v.bottom) := fun z => t1 z.1
        unfold Sr.one
        simp only [Nat.reduceEqDiff, if_true, if_false, or_false, true_and, false_and, if_neg g]
  by_cases c_J : c = 74
  · subst c_J
    have i1 : inV (.str ⟨#[74]⟩) [V.str "C", V.str "B", V.str "M"] = false := by decide
    have i2 : inV (.str ⟨#[74]⟩) [V.str "X", V.str "I"] = false := by decide
    have i3 : inV (.str ⟨#[74]⟩) [V.str "D", V.str "N"] = false := by decide
    have q2 : decide ((⟨#[74]⟩ : Str) = Str.ofString "J") = true := by decide
    have e9 : Sr.one S.v 74 m = match S.v.last with
      | some l => S.v.puts l (min m (S.v.wide * S.v.high)).toNat
      | none => S.v := by
      unfold Sr.one
      simp only [Nat.reduceEqDiff, if_true, if_false, or_false, true_and, false_and]
    cases hl : S.last with
    | none =>
      have ll : lastD S.last = .none := by rw [hl]; rfl
      have e8 : S.v.last = none := hl
      refine ⟨h, S, ?_, a, ?_, Fr.refl _ _⟩
      · clear a ok e9 e8 hl
        walk_at "es"
      · show _ = Sr.one S.v 74 m
        rw [e9, e8]
    | some l =>
      have ll : lastD S.last = .str ⟨#[l]⟩ := by rw [hl]; rfl
      have e8 : S.v.last = some l := hl
      have w2 : 2 ≤ S.wide := ok.w2
      have w60 : S.wide ≤ 60 := ok.w60
      have h2 : 2 ≤ S.high := ok.h2
      have h40 : S.high ≤ 40 := ok.h40
      have kl : S.wide.natAbs.log2 + S.high.natAbs.log2 < 1000000 := by
        have := log_le S.wide.natAbs
        have := log_le S.high.natAbs
        omega
      have kw0 : 0 ≤ S.wide * S.high := Int.mul_nonneg (by omega) (by omega)
      obtain ⟨k, hk⟩ : ∃ k, k = min m (S.wide * S.high) := ⟨_, rfl⟩
      have k6 : -2 ^ 62 ≤ k ∧ k < 2 ^ 62 := by omega
      have k5 : k.toNat ≤ sizeLine := le_sz' (by omega)
      have hk2 : (min m (S.v.wide * S.v.high)).toNat = k.toNat := by rw [hk]; rfl
      have hkk := hk.symm
      have hk3 := hk2
      clear hk hk2
      have e10 : Sr.one S.v 74 m = S.v.puts l k.toNat := by rw [e9, e8]; simp only [hk3]
      clear e9
      rw [show (fun s : Sr => s.one 74 m) S.v = S.v.puts l k.toNat from e10]
      clear e10 hk3 hl
      walk_at "es"
      generalize hB : forM none _ _ _ _ _ = r
      obtain ⟨v', h', S', rfl, a3, v3, f3, ok3, i3⟩ := for_doesE (n := n) (e0 := fun v => [some (.ref n), some (.str ⟨#[74]⟩), some (.int m), v]) hB (fun s => s.last = some l) (fun _ s => s.put l) (fun x _ v h S a ok i => by
        obtain ⟨h', S', e3, a3, v3, f3⟩ := run_Screen_put l h n S a ok
        refine ⟨h', S', ?_, a3, v3, f3, by rw [v3]; exact ok.put l, by rw [v3]; exact put_last _ _⟩
        have ho := a.o
        have ll : lastD S.last = .str ⟨#[l]⟩ := by rw [show S.last = some l from i]; rfl
        clear a3 v3 f3 a ok i hB
        walk_at "es") a ok e8
      refine ⟨h', S', ?_, a3, ?_, f3⟩
      · clear a3 v3 f3 a ok e8 ok3 i3 hB
        walk_at "es"
      · rw [v3, puts_fold, rangeL_len]
  have i1 : inV (.str ⟨#[c]⟩) [V.str "C", V.str "B", V.str "M"] = false := (inV_one c [67, 66, 77]).trans (by simp [c_C, c_B, c_M])
  have i2 : inV (.str ⟨#[c]⟩) [V.str "X", V.str "I"] = false := (inV_one c [88, 73]).trans (by simp [c_X, c_I])
  have i3 : inV (.str ⟨#[c]⟩) [V.str "D", V.str "N"] = false := (inV_one c [68, 78]).trans (by simp [c_D, c_N])
  have q2 : decide ((⟨#[c]⟩ : Str) = Str.ofString "J") = false := (one_eq 74 c).trans (by simp [c_J])
  refine ⟨h, S, ?_, a, ?_, Fr.refl _ _⟩
  · clear a ok
    walk_at "es"
  · show _ = Sr.one S.v c m
    unfold Sr.one
    simp only [c_C, c_B, c_M, c_X, c_I, c_D, c_N, c_J, or_false, false_and, if_false]
noncomputable def F_Screen_one : List D → M D := Classical.choose ex_Screen_one
theorem cm_Screen_one {P : Program} {w : World} {K : PySem.W.Frag} {mg : Str → Option Value} {base : Heap} {Ts : List (Addr × Str)} (T : GT K mg) : CalM P w K mg base (XC P w) 7 "Screen" "one" ["self", "word", "number"] (spM K Ts 3 F_Screen_one) := (Classical.choose_spec ex_Screen_one).1 T
theorem run_Screen_one : Q_Screen_one F_Screen_one := (Classical.choose_spec ex_Screen_one).2
end Sc

namespace Sc
open PySem PySem.Spec PyProof.Rows L2
/-! ### things that signs tell -/
inductive One where
  | sign (c : Nat)
  | endl
  | small (c : Nat)
  | great (c : Nat) (ns : List Int)
def One.d : One → PyData
  | .sign c => tSign c
  | .endl => tEnd
  | .small c => tDo c []
  | .great c ns => tDo c ns
def numS (n : Int) : List Nat := (Str.ofString (toString n)).cps.toList
def One.t : One → List Nat
  | .sign c => if c = 94 then [94, 94] else [c]
  | .endl => [10]
  | .small c => [94, c]
  | .great c ns => [94, c, 40] ++ comma (ns.map numS) ++ [41]
structure NumOk (n : Int) : Prop where
  f : figs (numS n)
  ne : numS n ≠ []
  v : ((NumText.digitsVal (numS n) : Nat) : Int) = n
def One.ok : One → Prop
  | .sign c => isSign c = true ∧ c ≠ 10
  | .endl => True
  | .small c => isSmall c = true
  | .great c ns => isGreat c = true ∧ ns.length ≤ 4 ∧ ∀ n ∈ ns, NumOk n
def rowT (r : List One) : List Nat := (r.map One.t).flatten
theorem fig_of {c : Nat} (h : 48 ≤ c ∧ c ≤ 57) : isFig c = true := by
  unfold isFig
  rw [decide_eq_true h.1, decide_eq_true h.2]
  rfl
/-- figures go on -/
theorem feed_figs {l : Nat} {k : Int} : ∀ (p : List Nat) {ps : List (List Nat)} {last : List Nat}, (∀ c ∈ p, 48 ≤ c ∧ c ≤ 57) → last.length + p.length ≤ 4 → (Beg.args l ps last).feed k p = (.args l ps (last ++ p), k, [])
  | [], ps, last, _, _ => by
    rw [List.append_nil]
    rfl
  | c :: p, ps, last, h, hl => by
    have hc := fig_of (h c List.mem_cons_self)
    have hll : last.length < 4 := by
      simp only [List.length_cons] at hl
      omega
    have e : (Beg.args l ps last).read k c = (.args l ps (last ++ [c]), k, []) := by
      show (if (if isFig c then decide (last.length < 4) else _) = true then _ else _) = _
      rw [if_pos hc, decide_eq_true hll, if_pos rfl]
      show ((if isFig c = true then (Beg.args l ps (last ++ [c]), ([] : List PyData)) else _).1, k, (if isFig c = true then (Beg.args l ps (last ++ [c]), ([] : List PyData)) else _).2) = _
      rw [if_pos hc]
    show (_, _, _) = _
    rw [e]
    have ih := feed_figs p (l := l) (k := k) (ps := ps) (last := last ++ [c]) (fun x hx => h x (List.mem_cons_of_mem _ hx)) (by
      simp only [List.length_append, List.length_cons, List.length_nil] at hl ⊢
      omega)
    simp only [ih, List.append_assoc, List.cons_append, List.nil_append]
theorem read_comma {l : Nat} {k : Int} {ps : List (List Nat)} {last : List Nat} (h1 : last ≠ []) (h2 : ps.length < 3) : (Beg.args l ps last).read k 44 = (.args l (ps ++ [last]) [], k, []) := by
  have g : (Beg.args l ps last).go 44 = true := by
    show (!decide (last = []) && decide (ps.length < 3)) = true
    rw [decide_eq_false h1, decide_eq_true h2]
    rfl
  show (if (Beg.args l ps last).go 44 = true then _ else _) = _
  rw [if_pos g]
  rfl
/-- numbers go on -/
theorem feed_nums {l : Nat} {k : Int} : ∀ (qs : List (List Nat)) (q : List Nat) {ps : List (List Nat)}, (∀ p ∈ qs ++ [q], figs p ∧ p ≠ []) → ps.length + qs.length ≤ 3 → (Beg.args l ps []).feed k (comma (qs ++ [q])) = (.args l (ps ++ qs) q, k, [])
  | [], q, ps, h, _ => by
    rw [List.append_nil]
    have := (h q (List.mem_append_right _ List.mem_cons_self)).1
    exact feed_figs q this.1 (by rw [List.length_nil, Nat.zero_add]; exact this.2)
  | p :: qs, q, ps, h, hl => by
    have hp := h p List.mem_cons_self
    rw [List.cons_append, comma_cons p (by simp), Beg.feed_app, feed_figs p hp.1.1 (by rw [List.length_nil, Nat.zero_add]; exact hp.1.2)]
    simp only [List.nil_append, Beg.feed]
    simp only [List.length_cons] at hl
    rw [read_comma hp.2 (by omega)]
    have ih := feed_nums qs q (l := l) (k := k) (ps := ps ++ [p]) (fun x hx => h x (List.mem_cons_of_mem _ hx)) (by rw [List.length_append]; show ps.length + 1 + _ ≤ 3; omega)
    simp only [ih, List.append_assoc, List.cons_append, List.nil_append]
theorem read_close {l : Nat} {k : Int} {ps : List (List Nat)} {last : List Nat} (h : last ≠ [] ∨ ps = []) : (Beg.args l ps last).read k 41 = (.no, k, [tDo l (numsD ps last)]) := by
  have e : (!decide (last = []) || decide (ps = [])) = true := by
    rcases h with h | h
    · rw [decide_eq_false h]; rfl
    · rw [decide_eq_true h, Bool.or_true]
  have g : (Beg.args l ps last).go 41 = true := by
    show (true && (!decide (last = []) || decide (ps = []))) = true
    rw [e]
    rfl
  show (if (Beg.args l ps last).go 41 = true then _ else _) = _
  rw [if_pos g]
  rfl
theorem read_open {k : Int} {c : Nat} (hc : isGreat c = true) : Beg.no.feed k [94, c, 40] = (.args c [] [], k, []) := by
  have hg : 65 ≤ c ∧ c ≤ 90 := by
    have hg : (decide (65 ≤ c) && decide (c ≤ 90)) = true := hc
    simpa using hg
  have e1 : Beg.no.read k 94 = (.hat, k, []) := rfl
  have e2 : Beg.hat.read k c = (.great c, k, []) := by
    show (if (isSmall c || isGreat c || decide (c = 94)) = true then _ else _) = _
    rw [hc, Bool.or_true, Bool.true_or, if_pos rfl]
    show ((if c = 94 then (Beg.no, [tSign 94]) else if isSmall c = true then (Beg.no, [tDo c []]) else (Beg.great c, [])).1, k, (if c = 94 then (Beg.no, [tSign 94]) else if isSmall c = true then (Beg.no, [tDo c []]) else (Beg.great c, [])).2) = _
    have hs : ¬ isSmall c = true := by
      unfold isSmall
      simp
      omega
    rw [if_neg (by omega), if_neg hs]
  have e3 : (Beg.great c).read k 40 = (.args c [] [], k, []) := rfl
  simp only [Beg.feed, e1, e2, e3, List.append_nil]
theorem feed_one {o : One} {k : Int} (h : o.ok) : Beg.no.feed k o.t = (.no, k, [o.d]) := by
  cases o with
  | sign c =>
    show Beg.no.feed k (if c = 94 then [94, 94] else [c]) = _
    by_cases hc : c = 94
    · rw [if_pos hc, hc]
      rfl
    · rw [if_neg hc]
      have e : Beg.no.read k c = (.no, k, [tSign c]) := by
        show (plainG c, k, plainO c) = _
        unfold plainG plainO
        rw [if_neg hc, if_neg hc, if_neg h.2]
      simp only [Beg.feed, e, List.append_nil]
      rfl
  | endl => rfl
  | small c =>
    have hs : isSmall c = true := h
    have e1 : Beg.no.read k 94 = (.hat, k, []) := rfl
    have hc : ¬ c = 94 := fun z => by
      rw [z] at hs
      cases hs
    have e2 : Beg.hat.read k c = (.no, k, [tDo c []]) := by
      show (if (isSmall c || isGreat c || decide (c = 94)) = true then _ else _) = _
      rw [hs, Bool.true_or, Bool.true_or, if_pos rfl]
      show ((if c = 94 then (Beg.no, [tSign 94]) else if isSmall c = true then (Beg.no, [tDo c []]) else (Beg.great c, [])).1, k, (if c = 94 then (Beg.no, [tSign 94]) else if isSmall c = true then (Beg.no, [tDo c []]) else (Beg.great c, [])).2) = _
      rw [if_neg hc, if_pos hs]
    show Beg.no.feed k [94, c] = _
    simp only [Beg.feed, e1, e2, List.nil_append, List.append_nil]
    rfl
  | great c ns =>
    obtain ⟨hc, hl, hn⟩ := h
    show Beg.no.feed k ([94, c, 40] ++ comma (ns.map numS) ++ [41]) = _
    rw [Beg.feed_app, Beg.feed_app, read_open hc]
    simp only [List.nil_append]
    by_cases h0 : ns = []
    · subst h0
      rfl
    · obtain ⟨ms, m, rfl⟩ : ∃ ms m, ns = ms ++ [m] := ⟨ns.dropLast, ns.getLast h0, (List.dropLast_concat_getLast h0).symm⟩
      rw [List.map_append, List.map_singleton, feed_nums (ms.map numS) (numS m) (fun p hp => ?_) (by simp at hl ⊢; omega)]
      · simp only [Beg.feed, List.nil_append]
        have nm := (hn m (List.mem_append_right _ List.mem_cons_self))
        rw [read_close (.inl nm.ne)]
        have e : numsD (ms.map numS) (numS m) = ms ++ [m] := by
          unfold numsD
          rw [if_neg (fun z => nm.ne z.2)]
          have : ms.map numS ++ [numS m] = (ms ++ [m]).map numS := by simp
          rw [this, List.map_map]
          have : ∀ l : List Int, (∀ n ∈ l, NumOk n) → l.map ((fun p => ((NumText.digitsVal p : Nat) : Int)) ∘ numS) = l := fun l => by
            induction l with
            | nil => intro _; rfl
            | cons a l ih =>
              intro h
              rw [List.map_cons, ih fun n hn => h n (List.mem_cons_of_mem _ hn)]
              congr 1
              exact (h a List.mem_cons_self).v
          exact this _ hn
        rw [e]
        rfl
      · have : ms.map numS ++ [numS m] = (ms ++ [m]).map numS := by simp
        rw [this] at hp
        obtain ⟨n, hn', rfl⟩ := List.mem_map.mp hp
        exact ⟨(hn n hn').f, (hn n hn').ne⟩
theorem feed_row {k : Int} : ∀ {r : List One}, (∀ o ∈ r, o.ok) → Beg.no.feed k (rowT r) = (.no, k, r.map One.d)
  | [], _ => rfl
  | o :: r, h => by
    show Beg.no.feed k (o.t ++ rowT r) = _
    rw [Beg.feed_app, feed_one (h o List.mem_cons_self), feed_row fun x hx => h x (List.mem_cons_of_mem _ hx)]
    rfl
theorem rowT_app (r s : List One) : rowT (r ++ s) = rowT r ++ rowT s := by
  unfold rowT
  rw [List.map_append, List.flatten_append]
theorem t_len {o : One} (h : o.ok) : o.t.length ≤ 24 := by
  cases o with
  | sign c =>
    show (if c = 94 then [94, 94] else [c]).length ≤ 24
    split <;> exact Nat.le_of_ble_eq_true rfl
  | endl => exact Nat.le_of_ble_eq_true rfl
  | small c => exact Nat.le_of_ble_eq_true rfl
  | great c ns =>
    have := comma_len (l := ns.map numS) fun p hp => by
      obtain ⟨n, hn, rfl⟩ := List.mem_map.mp hp
      exact (h.2.2 n hn).f.2
    have hl := h.2.1
    show ([94, c, 40] ++ comma (ns.map numS) ++ [41]).length ≤ 24
    simp only [List.length_append, List.length_cons, List.length_nil, List.length_map] at this ⊢
    omega
theorem sign_of {c : Nat} (h : 32 ≤ c ∧ c ≤ 126 ∧ c ≠ 37) : isSign c = true := by
  unfold isSign
  rw [decide_eq_true h.1, decide_eq_true h.2.1, decide_eq_false h.2.2]
  simp
theorem great_b {c : Nat} (h : isGreat c = true) : 65 ≤ c ∧ c ≤ 90 := by
  have hg : (decide (65 ≤ c) && decide (c ≤ 90)) = true := h
  simpa using hg
theorem small_b {c : Nat} (h : isSmall c = true) : 97 ≤ c ∧ c ≤ 122 := by
  have hg : (decide (97 ≤ c) && decide (c ≤ 122)) = true := h
  simpa using hg
theorem t_signs {o : One} (h : o.ok) : ∀ c ∈ o.t, isSign c = true := by
  cases o with
  | sign c =>
    intro x hx
    have hx : x ∈ (if c = 94 then [94, 94] else [c]) := hx
    split at hx
    · have : x = 94 := by simpa using hx
      rw [this]
      rfl
    · rw [List.mem_singleton.mp hx]
      exact h.1
  | endl =>
    intro x hx
    rw [List.mem_singleton.mp hx]
    rfl
  | small c =>
    intro x hx
    have := small_b h
    have hx : x = 94 ∨ x = c := by simpa [One.t] using hx
    exact sign_of (by omega)
  | great c ns =>
    intro x hx
    have := great_b h.1
    have hx : x ∈ [94, c, 40] ++ comma (ns.map numS) ++ [41] := hx
    rcases List.mem_append.mp hx with hx | hx
    · rcases List.mem_append.mp hx with hx | hx
      · simp only [List.mem_cons, List.not_mem_nil, or_false] at hx
        exact sign_of (by omega)
      · rcases mem_comma hx with z | ⟨p, hp, hxp⟩
        · exact sign_of (by omega)
        · obtain ⟨n, hn, rfl⟩ := List.mem_map.mp hp
          have := (h.2.2 n hn).f.1 x hxp
          exact sign_of (by omega)
    · rw [List.mem_singleton.mp hx]
      rfl
theorem rowT_signs {r : List One} (h : ∀ o ∈ r, o.ok) : ∀ c ∈ rowT r, isSign c = true := fun c hc => by
  obtain ⟨l, hl, hcl⟩ := List.mem_flatten.mp hc
  obtain ⟨o, ho, rfl⟩ := List.mem_map.mp hl
  exact t_signs (h o ho) c hcl
def menuN : List Int := [0, 1, 2, 3, 4, 7, 12, 9999]
theorem menu_vals : ∀ n ∈ menuN, (numS n).all (fun c => decide (48 ≤ c) && decide (c ≤ 57)) = true ∧ (numS n).length ≤ 4 ∧ numS n ≠ [] ∧ ((NumText.digitsVal (numS n) : Nat) : Int) = n := by decide +kernel
theorem menu_ok {n : Int} (h : n ∈ menuN) : NumOk n := by
  obtain ⟨h1, h2, h3, h4⟩ := menu_vals n h
  refine ⟨⟨fun c hc => ?_, h2⟩, h3, h4⟩
  have := List.all_eq_true.mp h1 c hc
  simpa using this
end Sc

namespace Sc
open PySem PySem.Spec PyProof.Rows L2
/-! ### commands with numbers -/
def Sr.great (s : Sr) (c : Nat) : List Int → Sr
  | [a] => s.one c a
  | [a, b] => if c = 71 then s.stand a b else if c = 82 ∧ a < b ∧ b < s.high then Sr.stand { s with top := a, bottom := b } 0 0 else s
  | _ => s
def numsOk (ns : List Int) : Prop := ∀ n ∈ ns, 0 ≤ n ∧ n ≤ 9999
theorem Sr.ok.great {s : Sr} (k : s.ok) (c : Nat) {ns : List Int} (h : numsOk ns) : (s.great c ns).ok := by
  unfold Sr.great
  split
  · exact k.one c (h _ List.mem_cons_self).1
  · next a b =>
    split
    · exact k.stand _ _
    · split
      · next q => exact Sr.ok.stand (s := { s with top := a, bottom := b }) { k with t0 := (h a List.mem_cons_self).1, tb := q.2.1, bh := q.2.2 } 0 0
      · exact k
  · exact k
def Q_Screen_great (F : List D → M D) : Prop := ∀ (c : Nat) (ns : List Int), numsOk ns → ns.length ≤ 4 → Does F [.str ⟨#[c]⟩, .tuple (ns.map .int)] fun s => s.great c ns
theorem sc_Screen_great : FnScope ["self", "word", "numbers"] ["self", "word", "numbers"] (defScope s_Screen_great) := ⟨rfl, rfl, rfl, by decide +kernel, rfl, by decide +kernel, by decide +kernel⟩
theorem ex_Screen_great : ∃ F : List D → M D, (∀ {P : Program} {w : World} {K : PySem.W.Frag} {mg : Str → Option Value} {base : Heap} {Ts : List (Addr × Str)} (T : GT K mg), CalM P w K mg base (XC P w) 8 "Screen" "great" ["self", "word", "numbers"] (spM K Ts 3 F)) ∧ Q_Screen_great F := by
  refine ⟨_, fun {P w K mg base Ts} T => calM_R T.f_Screen_great T.c_Screen T.m_Screen_great sc_Screen_great (fun _ _ _ _ _ _ us hl => match us, hl with | [_, _, _], _ => rfl)
    (fun f cdv A' outer s H E hr => ⟨_, (pss_one (ps_if (PW.pt (pw_and (pt_cmpR (keq K hr.units) (pv 1) pe_str (nomark _)) (pw_and1 (pt_cmpR (keq K hr.units) (pe_callB (klen K) (by rfl) T.z_len (by decide +kernel) (pa_cons (pv 2) pa_nil)) pe_int (nomark _))))) (pss_one (ps_expr (pe_cm K (cm_Screen_stand T) (hr.mono (by decide)) (passX rfl rfl rfl rfl) (pv 0) (pa_cons (pe_ix (kix K) (pv 2) pe_int (fun _ _ => rfl)) (pa_cons (pe_ix (kix K) (pv 2) pe_int (fun _ _ => rfl)) pa_nil))))) (pss_one (ps_if (PW.pt (pw_and (pt_cmpR (keq K hr.units) (pv 1) pe_str (nomark _)) (pw_and1 (pt_cmpR (keq K hr.units) (pe_callB (klen K) (by rfl) T.z_len (by decide +kernel) (pa_cons (pv 2) pa_nil)) pe_int (nomark _))))) (pss_one (ps_if (pt_chain op_lt op_lt (pe_ix (kix K) (pv 2) pe_int (fun _ _ => rfl)) (pe_ix (kix K) (pv 2) pe_int (fun _ _ => rfl)) (kfld K (pv 0))) (pss_cons (ps_asg (pv 2) (kg_tup K 2 (pgs_cons (kg_fld K (pv 0)) (pgs_cons (kg_fld K (pv 0)) pgs_nil))))
      (pss_one (ps_expr (pe_cm K (cm_Screen_stand T) (hr.mono (by decide)) (passX rfl rfl rfl rfl) (pv 0) (pa_cons pe_int (pa_cons pe_int pa_nil)))))) pss_nil)) (pss_one (ps_if (pt_cmpR (keq K hr.units) (pe_callB (klen K) (by rfl) T.z_len (by decide +kernel) (pa_cons (pv 2) pa_nil)) pe_int (nomark _)) (pss_one (ps_expr (pe_cm K (cm_Screen_one T) (hr.mono (by decide)) (passX rfl rfl rfl rfl) (pv 0) (pa_cons (pv 1) (pa_cons (pe_ix (kix K) (pv 2) pe_int (fun _ _ => rfl)) pa_nil))))) pss_nil)))))),
    (ss_if (st_and (st_test (sm_op kr_eq (sm_var 1) sm_str)) (st_test (sm_op kr_eq (sm_cb kc_len (sa_cons (sm_var 2) sa_nil)) sm_int))) (ss_drop (sm_meth (sm_var 0) (sa_cons (sm_op kr_ix (sm_var 2) sm_int) (sa_cons (sm_op kr_ix (sm_var 2) sm_int) sa_nil)))) (ss_if (st_and (st_test (sm_op kr_eq (sm_var 1) sm_str)) (st_test (sm_op kr_eq (sm_cb kc_len (sa_cons (sm_var 2) sa_nil)) sm_int))) (ss_if (st_test (sm_chain kr_lt kr_lt (sm_op kr_ix (sm_var 2) sm_int) (sm_op kr_ix (sm_var 2) sm_int) (sm_fld (C := "Screen") ⟨T.c_Screen, T.n_Screen_high⟩ (sm_var 0)))) (ss_seq (ss_asg (sm_var 2) (sg_tup (sgs_cons (sg_fld (C := "Screen") ⟨T.c_Screen, T.n_Screen_top⟩ (sm_var 0)) (sgs_cons (sg_fld (C := "Screen") ⟨T.c_Screen, T.n_Screen_bottom⟩ (sm_var 0)) sgs_nil))))
      (ss_drop (sm_meth (sm_var 0) (sa_cons sm_int (sa_cons sm_int sa_nil))))) ss_next) (ss_if (st_test (sm_op kr_eq (sm_cb kc_len (sa_cons (sm_var 2) sa_nil)) sm_int)) (ss_drop (sm_meth (sm_var 0) (sa_cons (sm_var 1) (sa_cons (sm_op kr_ix (sm_var 2) sm_int) sa_nil)))) ss_next)))⟩) rfl, ?_⟩
  intro c ns hn hl h n S a ok
  have ho := a.o
  have hs := set_self' ho
  have z2 : 2 ≤ sizeLine := le_sz' (by omega)
  have g1 : decide ((⟨#[c]⟩ : Str) = Str.ofString "G") = decide (c = 71) := one_eq 71 c
  have g2 : decide ((⟨#[c]⟩ : Str) = Str.ofString "R") = decide (c = 82) := one_eq 82 c
  have l01 : decide (((0 : Nat) : Int) = 1) = false := rfl
  have l02 : decide (((0 : Nat) : Int) = 2) = false := rfl
  have l11 : decide (((1 : Nat) : Int) = 1) = true := rfl
  have l12 : decide (((1 : Nat) : Int) = 2) = false := rfl
  have l21 : decide (((2 : Nat) : Int) = 1) = false := rfl
  have l22 : decide (((2 : Nat) : Int) = 2) = true := rfl
  have l31 : decide (((3 : Nat) : Int) = 1) = false := rfl
  have l32 : decide (((3 : Nat) : Int) = 2) = false := rfl
  have l41 : decide (((4 : Nat) : Int) = 1) = false := rfl
  have l42 : decide (((4 : Nat) : Int) = 2) = false := rfl
  match ns, hn, hl with
  | [], hn, hl =>
    refine ⟨h, S, ?_, a, rfl, Fr.refl _ _⟩
    cases h1 : decide (c = 71) <;> cases h2 : decide (c = 82) <;> (rw [h1] at g1; rw [h2] at g2; clear a ok hn hl; walk_at "es")
  | [x], hn, hl =>
    have hx := hn x List.mem_cons_self
    obtain ⟨h', S', e3, a3, v3, f3⟩ := run_Screen_one c x hx.1 (by omega) h n S a ok
    refine ⟨h', S', ?_, a3, v3, f3⟩
    cases h1 : decide (c = 71) <;> cases h2 : decide (c = 82) <;> (rw [h1] at g1; rw [h2] at g2; clear a ok hn hl a3 v3 f3; walk_at "es")
  | [x, y], hn, hl =>
    by_cases h1 : c = 71
    · replace g1 : decide ((⟨#[c]⟩ : Str) = Str.ofString "G") = true := g1.trans (decide_eq_true h1)
      obtain ⟨h', S', e3, a3, v3, f3⟩ := does_stand x y h n S a ok
      refine ⟨h', S', ?_, a3, ?_, f3⟩
      · clear h1 a ok hn hl a3 v3 f3
        walk_at "es"
      · rw [v3]
        show _ = Sr.great S.v c [x, y]
        unfold Sr.great
        simp only [if_pos h1]
    · replace g1 : decide ((⟨#[c]⟩ : Str) = Str.ofString "G") = false := g1.trans (decide_eq_false h1)
      by_cases h2 : c = 82
      · replace g2 : decide ((⟨#[c]⟩ : Str) = Str.ofString "R") = true := g2.trans (decide_eq_true h2)
        by_cases h3 : x < y
        · have u3 : decide (x < y) = true := decide_eq_true h3
          by_cases h4 : y < S.high
          · have u4 : decide (y < S.high) = true := decide_eq_true h4
            have a1 := a.set { S with top := x, bottom := y } rfl rfl rfl rfl rfl
            have f1 := fr_set a { S with top := x, bottom := y } rfl rfl rfl (scO { S with top := x, bottom := y })
            have ok1 : ScI.v { S with top := x, bottom := y } |>.ok := { ok with t0 := (hn x List.mem_cons_self).1, tb := h3, bh := h4 }
            obtain ⟨h', S', e3, a3, v3, f3⟩ := does_stand 0 0 _ n _ a1 ok1
            refine ⟨h', S', ?_, a3, ?_, f1.trans f3⟩
            · clear h2 a ok hn hl a3 v3 f3 a1 f1 ok1
              walk_at "es"
            · rw [v3]
              show _ = Sr.great S.v c [x, y]
              unfold Sr.great
              have g : c = 82 ∧ x < y ∧ y < S.v.high := ⟨h2, h3, h4⟩
              simp only [if_neg h1, if_pos g]
              rfl
          · have u4 : decide (y < S.high) = false := decide_eq_false h4
            refine ⟨h, S, ?_, a, ?_, Fr.refl _ _⟩
            · clear h2 a ok hn hl
              walk_at "es"
            · show _ = Sr.great S.v c [x, y]
              unfold Sr.great
              have g : ¬(c = 82 ∧ x < y ∧ y < S.v.high) := fun z => h4 z.2.2
              simp only [if_neg h1, if_neg g]
        · have u3 : decide (x < y) = false := decide_eq_false h3
          refine ⟨h, S, ?_, a, ?_, Fr.refl _ _⟩
          · clear h2 a ok hn hl
            walk_at "es"
          · show _ = Sr.great S.v c [x, y]
            unfold Sr.great
            have g : ¬(c = 82 ∧ x < y ∧ y < S.v.high) := fun z => h3 z.2.1
            simp only [if_neg h1, if_neg g]
      · replace g2 : decide ((⟨#[c]⟩ : Str) = Str.ofString "R") = false := g2.trans (decide_eq_false h2)
        refine ⟨h, S, ?_, a, ?_, Fr.refl _ _⟩
        · clear h2 a ok hn hl
          walk_at "es"
        · show _ = Sr.great S.v c [x, y]
          unfold Sr.great
          have g : ¬(c = 82 ∧ x < y ∧ y < S.v.high) := fun z => h2 z.1
          simp only [if_neg h1, if_neg g]
  | [x, y, z], hn, hl =>
    refine ⟨h, S, ?_, a, rfl, Fr.refl _ _⟩
    cases h1 : decide (c = 71) <;> cases h2 : decide (c = 82) <;> (rw [h1] at g1; rw [h2] at g2; clear a ok hn hl; walk_at "es")
  | x :: y :: z :: u :: r, hn, hl =>
    have er : r = [] := List.eq_nil_of_length_eq_zero (by simp only [List.length_cons] at hl; omega)
    subst er
    refine ⟨h, S, ?_, a, rfl, Fr.refl _ _⟩
    cases h1 : decide (c = 71) <;> cases h2 : decide (c = 82) <;> (rw [h1] at g1; rw [h2] at g2; clear a ok hn hl; walk_at "es")
noncomputable def F_Screen_great : List D → M D := Classical.choose ex_Screen_great
theorem cm_Screen_great {P : Program} {w : World} {K : PySem.W.Frag} {mg : Str → Option Value} {base : Heap} {Ts : List (Addr × Str)} (T : GT K mg) : CalM P w K mg base (XC P w) 8 "Screen" "great" ["self", "word", "numbers"] (spM K Ts 3 F_Screen_great) := (Classical.choose_spec ex_Screen_great).1 T
theorem run_Screen_great : Q_Screen_great F_Screen_great := (Classical.choose_spec ex_Screen_great).2
end Sc

namespace Sc
open PySem PySem.Spec PyProof.Rows L2
/-! ### what the reader tells -/
def One.good : One → Prop
  | .sign c => c ≠ 10
  | .endl => True
  | .small c => isSmall c = true
  | .great c ns => isGreat c = true ∧ numsOk ns ∧ ns.length ≤ 4
def One.D (o : One) : D := ofPy o.d
def plainT (c : Nat) : List One := if c = 94 then [] else if c = 10 then [.endl] else [.sign c]
def Beg.nextT : Beg → Nat → List One
  | .no, _ => []
  | .hat, c => if c = 94 then [.sign 94] else if isSmall c then [.small c] else []
  | .great _, _ => []
  | .args l ps last, c => if isFig c then [] else if c = 44 then [] else [.great l (numsD ps last)]
def Beg.readT (b : Beg) (c : Nat) : List One :=
  match b with
  | .no => plainT c
  | b => if b.go c = true then b.nextT c else plainT c
def Beg.after (b : Beg) (c : Nat) : Beg := (b.read 0 c).1
theorem Beg.read_fst (b : Beg) (k k' : Int) (c : Nat) : (b.read k c).1 = (b.read k' c).1 := by
  cases b <;> (simp only [Beg.read] <;> first | rfl | (split <;> rfl))
def Beg.ones : Beg → List Nat → List One
  | _, [] => []
  | b, c :: r => b.readT c ++ (b.after c).ones r
def Beg.afters : Beg → List Nat → Beg
  | b, [] => b
  | b, c :: r => (b.after c).afters r
theorem plainT_d (c : Nat) : plainO c = (plainT c).map One.d := by
  unfold plainO plainT
  split
  · rfl
  · split <;> rfl
theorem Beg.nextT_d (b : Beg) (c : Nat) : (b.next c).2 = (b.nextT c).map One.d := by
  cases b with
  | no => rfl
  | hat =>
    simp only [Beg.next, Beg.nextT]
    split
    · rfl
    · split <;> rfl
  | great l => rfl
  | args l ps last =>
    simp only [Beg.next, Beg.nextT]
    split
    · rfl
    · split <;> rfl
theorem Beg.readT_d (b : Beg) (k : Int) (c : Nat) : (b.read k c).2.2 = (b.readT c).map One.d := by
  cases b with
  | no => exact plainT_d c
  | _ =>
    simp only [Beg.read, Beg.readT]
    split
    · exact Beg.nextT_d _ c
    · exact plainT_d c
theorem Beg.ones_d : ∀ (l : List Nat) (b : Beg) (k : Int), (b.feed k l).2.2 = (b.ones l).map One.d
  | [], b, k => rfl
  | c :: l, b, k => by
    show (b.read k c).2.2 ++ (Beg.feed (b.read k c).1 (b.read k c).2.1 l).2.2 = _
    rw [Beg.ones_d l, Beg.readT_d, Beg.ones, List.map_append, Beg.read_fst b k 0 c]
    rfl
theorem Beg.afters_eq : ∀ (l : List Nat) (b : Beg) (k : Int), (b.feed k l).1 = b.afters l
  | [], b, k => rfl
  | c :: l, b, k => by
    show (Beg.feed (b.read k c).1 (b.read k c).2.1 l).1 = _
    rw [Beg.afters_eq l, Beg.read_fst b k 0 c]
    rfl
theorem plainT_good {c : Nat} : ∀ o ∈ plainT c, o.good := fun o h => by
  unfold plainT at h
  split at h
  · cases h
  · split at h
    · rw [List.mem_singleton.mp h]; trivial
    · next h2 => rw [List.mem_singleton.mp h]; exact h2
theorem val_le {p : List Nat} (h : figs p) : NumText.digitsVal p ≤ 9999 := by
  obtain ⟨h1, h2⟩ := h
  match p, h1, h2 with
  | [], h1, h2 => exact Nat.zero_le _
  | [a], h1, h2 =>
    have := h1 a (by simp)
    show 0 * 10 + (a - 48) ≤ 9999
    omega
  | [a, b], h1, h2 =>
    have := h1 a (by simp)
    have := h1 b (by simp)
    show (0 * 10 + (a - 48)) * 10 + (b - 48) ≤ 9999
    omega
  | [a, b, c], h1, h2 =>
    have := h1 a (by simp)
    have := h1 b (by simp)
    have := h1 c (by simp)
    show ((0 * 10 + (a - 48)) * 10 + (b - 48)) * 10 + (c - 48) ≤ 9999
    omega
  | [a, b, c, d], h1, h2 =>
    have := h1 a (by simp)
    have := h1 b (by simp)
    have := h1 c (by simp)
    have := h1 d (by simp)
    show (((0 * 10 + (a - 48)) * 10 + (b - 48)) * 10 + (c - 48)) * 10 + (d - 48) ≤ 9999
    omega
  | a :: b :: c :: d :: e :: r, h1, h2 =>
    simp only [List.length_cons] at h2
    omega
theorem Beg.readT_good {b : Beg} {c : Nat} (hb : b.ok) : ∀ o ∈ b.readT c, o.good := fun o h => by
  cases b with
  | no => exact plainT_good o h
  | hat =>
    simp only [Beg.readT] at h
    split at h
    · simp only [Beg.nextT] at h
      split at h
      · rw [List.mem_singleton.mp h]; show (94 : Nat) ≠ 10; decide
      · split at h
        · next h3 => rw [List.mem_singleton.mp h]; exact h3
        · cases h
    · exact plainT_good o h
  | great l =>
    simp only [Beg.readT] at h
    split at h
    · cases h
    · exact plainT_good o h
  | args l ps last =>
    simp only [Beg.readT] at h
    split at h
    · simp only [Beg.nextT] at h
      split at h
      · cases h
      · split at h
        · cases h
        · rw [List.mem_singleton.mp h]
          obtain ⟨h1, h2, h3, h4⟩ := hb
          refine ⟨h1, fun n hn => ?_, ?_⟩
          · unfold numsD at hn
            split at hn
            · cases hn
            · obtain ⟨p, hp, rfl⟩ := List.mem_map.mp hn
              have : figs p := by
                rcases List.mem_append.mp hp with z | z
                · exact (h2 p z).1
                · rw [List.mem_singleton.mp z]; exact h3
              have := val_le this
              omega
          · unfold numsD
            split
            · exact Nat.zero_le _
            · rw [List.length_map, List.length_append]
              simp only [List.length_cons, List.length_nil]
              omega
    · exact plainT_good o h
theorem Beg.ones_good : ∀ (l : List Nat) {b : Beg}, b.ok → ∀ o ∈ b.ones l, o.good
  | [], b, _, o, h => nomatch h
  | c :: l, b, hb, o, h => by
    rcases List.mem_append.mp h with z | z
    · exact Beg.readT_good hb o z
    · exact Beg.ones_good l (Beg.read_ok hb) o z
/-! ### one thing is done -/
def Sr.do (s : Sr) : One → Sr
  | .sign c => s.put c
  | .endl => s.down.stand s.down.row 0
  | .small c => s.small c
  | .great c ns => s.great c ns
theorem Sr.ok.do {s : Sr} (k : s.ok) {o : One} (h : o.good) : (s.do o).ok := by
  cases o with
  | sign c => exact k.put c
  | endl => exact k.down.stand _ _
  | small c => exact k.small c
  | great c ns => exact k.great c h.2.1
def Q_Screen_do (F : List D → M D) : Prop := ∀ o : One, o.good → Does F [o.D] fun s => s.do o
theorem sc_Screen_do : FnScope ["self", "one"] ["self", "one"] (defScope s_Screen_do) := ⟨rfl, rfl, rfl, by decide +kernel, rfl, by decide +kernel, by decide +kernel⟩
theorem ex_Screen_do : ∃ F : List D → M D, (∀ {P : Program} {w : World} {K : PySem.W.Frag} {mg : Str → Option Value} {base : Heap} {Ts : List (Addr × Str)} (T : GT K mg), CalM P w K mg base (XC P w) 9 "Screen" "do" ["self", "one"] (spM K Ts 2 F)) ∧ Q_Screen_do F := by
  refine ⟨_, fun {P w K mg base Ts} T => calM_R T.f_Screen_do T.c_Screen T.m_Screen_do sc_Screen_do (fun _ _ _ _ _ _ us hl => match us, hl with | [_, _], _ => rfl)
    (fun f cdv A' outer s H E hr => ⟨_, (pss_one (ps_if (pt_cmpR (keq K hr.units) (pe_ix (kix K) (pv 1) pe_int (fun _ _ => rfl)) pe_str (nomark _)) (pss_one (ps_expr (pe_cm K (cm_Screen_put T) (hr.mono (by decide)) (passX rfl rfl rfl rfl) (pv 0) (pa_cons (pe_ix (kix K) (pv 1) pe_int (fun _ _ => rfl)) pa_nil)))) (pss_one (ps_if (pt_cmpR (keq K hr.units) (pe_ix (kix K) (pv 1) pe_int (fun _ _ => rfl)) pe_str (nomark _)) (pss_cons (ps_expr (pe_cm0 K (cm_Screen_down T) (hr.mono (by decide)) (passX rfl rfl rfl rfl) (pv 0)))
      (pss_one (ps_expr (pe_cm K (cm_Screen_stand T) (hr.mono (by decide)) (passX rfl rfl rfl rfl) (pv 0) (pa_cons (kfld K (pv 0)) (pa_cons pe_int pa_nil)))))) (pss_one (ps_if (pt_cmpR (kmem K) (pe_ix (kix K) (pv 1) pe_int (fun _ _ => rfl)) (pe_gs (by rfl) T.t_SMALL) rfl) (pss_one (ps_expr (pe_cm K (cm_Screen_small T) (hr.mono (by decide)) (passX rfl rfl rfl rfl) (pv 0) (pa_cons (pe_ix (kix K) (pv 1) pe_int (fun _ _ => rfl)) pa_nil)))) (pss_one (ps_expr (pe_cm K (cm_Screen_great T) (hr.mono (by decide)) (passX rfl rfl rfl rfl) (pv 0) (pa_cons (pe_ix (kix K) (pv 1) pe_int (fun _ _ => rfl)) (pa_cons (pe_ix (kix K) (pv 1) pe_int (fun _ _ => rfl)) pa_nil))))))))))),
    (ss_if (st_test (sm_op kr_eq (sm_op kr_ix (sm_var 1) sm_int) sm_str)) (ss_drop (sm_meth (sm_var 0) (sa_cons (sm_op kr_ix (sm_var 1) sm_int) sa_nil))) (ss_if (st_test (sm_op kr_eq (sm_op kr_ix (sm_var 1) sm_int) sm_str)) (ss_seq (ss_drop (sm_meth (sm_var 0) sa_nil))
      (ss_drop (sm_meth (sm_var 0) (sa_cons (sm_fld (C := "Screen") ⟨T.c_Screen, T.n_Screen_row⟩ (sm_var 0)) (sa_cons sm_int sa_nil))))) (ss_if (st_test (sm_op kr_in (sm_op kr_ix (sm_var 1) sm_int) sm_str)) (ss_drop (sm_meth (sm_var 0) (sa_cons (sm_op kr_ix (sm_var 1) sm_int) sa_nil))) (ss_drop (sm_meth (sm_var 0) (sa_cons (sm_op kr_ix (sm_var 1) sm_int) (sa_cons (sm_op kr_ix (sm_var 1) sm_int) sa_nil)))))))⟩) rfl, ?_⟩
  intro o ho h n S a ok
  have hs := a.o
  have l26 := in_small
  cases o with
  | sign c =>
    obtain ⟨h', S', e3, a3, v3, f3⟩ := run_Screen_put c h n S a ok
    refine ⟨h', S', ?_, a3, v3, f3⟩
    have hd : One.D (.sign c) = .tuple [.str "sign", .str ⟨#[c]⟩] := rfl
    have q1 : decide (Str.ofString "sign" = Str.ofString "sign") = true := by decide
    clear a ok a3 v3 f3 ho
    walk_at "es"
  | endl =>
    obtain ⟨h2, S2, e2, a2, v2, f2⟩ := run_Screen_down h n S a ok
    obtain ⟨h', S', e3, a3, v3, f3⟩ := does_stand S2.row 0 h2 n S2 a2 (by rw [v2]; exact ok.down)
    refine ⟨h', S', ?_, a3, ?_, f2.trans f3⟩
    · have hd : One.D .endl = .tuple [.str "end"] := rfl
      have q1 : decide (Str.ofString "end" = Str.ofString "sign") = false := by decide
      have q2 : decide (Str.ofString "end" = Str.ofString "end") = true := by decide
      have ho2 := a2.o
      clear a ok a3 v3 f3 ho a2 v2 f2
      walk_at "es"
    · rw [v3]
      show Sr.stand S2.v S2.v.row 0 = _
      rw [v2]
      rfl
  | small c =>
    have hc : isSmall c = true := ho
    obtain ⟨h', S', e3, a3, v3, f3⟩ := run_Screen_small c h n S a ok
    refine ⟨h', S', ?_, a3, v3, f3⟩
    have hc' : isSmall (#[c].getD 0 0) = true := hc
    have hd : One.D (.small c) = .tuple [.str "do", .str ⟨#[c]⟩, .tuple []] := rfl
    have q1 : decide (Str.ofString "do" = Str.ofString "sign") = false := by decide
    have q2 : decide (Str.ofString "do" = Str.ofString "end") = false := by decide
    clear a ok a3 v3 f3 ho
    walk_at "es"
  | great c ns =>
    have hc : isSmall c = false := by
      have := ho.1
      unfold isGreat at this
      unfold isSmall
      simp only [Bool.and_eq_true, decide_eq_true_eq] at this
      rw [decide_eq_false (by omega)]
      rfl
    obtain ⟨h', S', e3, a3, v3, f3⟩ := run_Screen_great c ns ho.2.1 ho.2.2 h n S a ok
    refine ⟨h', S', ?_, a3, v3, f3⟩
    have hc' : isSmall (#[c].getD 0 0) = false := hc
    have hd : One.D (.great c ns) = .tuple [.str "do", .str ⟨#[c]⟩, .tuple (ns.map .int)] := by
      show ofPy (.tuple [.str "do", .str ⟨#[c]⟩, .tuple (ns.map PyData.int)]) = _
      have e : ofPyL (ns.map PyData.int) = ns.map D.int := by
        rw [ofPyL_map, List.map_map]
        rfl
      simp only [ofPy, ofPyL, e]
    have q1 : decide (Str.ofString "do" = Str.ofString "sign") = false := by decide
    have q2 : decide (Str.ofString "do" = Str.ofString "end") = false := by decide
    clear a ok a3 v3 f3 ho
    walk_at "es"
noncomputable def F_Screen_do : List D → M D := Classical.choose ex_Screen_do
theorem cm_Screen_do {P : Program} {w : World} {K : PySem.W.Frag} {mg : Str → Option Value} {base : Heap} {Ts : List (Addr × Str)} (T : GT K mg) : CalM P w K mg base (XC P w) 9 "Screen" "do" ["self", "one"] (spM K Ts 2 F_Screen_do) := (Classical.choose_spec ex_Screen_do).1 T
theorem run_Screen_do : Q_Screen_do F_Screen_do := (Classical.choose_spec ex_Screen_do).2
end Sc

namespace Sc
open PySem PySem.Spec PyProof.Rows L2
/-! ### signs are fed -/
def Sr.heard (s : Sr) (cs : List Nat) : Sr := { s with beg := s.beg.afters cs, lost := (s.beg.feed s.lost cs).2.1 }
def Sr.feed (s : Sr) (cs : List Nat) : Sr := (s.beg.ones cs).foldl Sr.do (s.heard cs)
theorem Sr.ok.fold : ∀ {l : List One} {s : Sr}, s.ok → (∀ o ∈ l, o.good) → (l.foldl Sr.do s).ok
  | [], s, k, _ => k
  | o :: l, s, k, h => Sr.ok.fold (l := l) (s := s.do o) (k.do (h o List.mem_cons_self)) fun x hx => h x (List.mem_cons_of_mem _ hx)
theorem Sr.ok.feed {s : Sr} (k : s.ok) (hb : s.beg.ok) (cs : List Nat) : (s.feed cs).ok := Sr.ok.fold (s := s.heard cs) { k with } (Beg.ones_good cs hb)
theorem for_doesT {n : Nat} {body : D → En → M (Fl × En)} {e0 : Option D → En} {all : List D} : ∀ (xs : List One), (∀ x ∈ xs, x.good) →
    (∀ x : One, x.good → ∀ v h S, ScAt h n S → S.v.ok → ∃ h' S', body x.D (e0 v) h = some (.ok (.nx, e0 (some x.D)), h') ∧ ScAt h' n S' ∧ S'.v = S.v.do x ∧ Fr h (ids n S) h' (ids n S')) →
    ∀ v h S, ScAt h n S → S.v.ok → ∃ v' h' S', forM .none all body (xs.map One.D) (e0 v) h = some (.ok (.nx, e0 v'), h') ∧ ScAt h' n S' ∧ S'.v = xs.foldl Sr.do S.v ∧ Fr h (ids n S) h' (ids n S')
  | [], _, _, v, h, S, a, ok => ⟨v, h, S, rfl, a, rfl, Fr.refl _ _⟩
  | x :: xs, hg, hb, v, h, S, a, ok => by
    obtain ⟨h1, S1, e1, a1, v1, f1⟩ := hb x (hg x List.mem_cons_self) v h S a ok
    obtain ⟨v', h2, S2, e2, a2, v2, f2⟩ := for_doesT (all := all) xs (fun y hy => hg y (List.mem_cons_of_mem _ hy)) hb (some x.D) h1 S1 a1 (by rw [v1]; exact ok.do (hg x List.mem_cons_self))
    refine ⟨v', h2, S2, ?_, a2, ?_, f1.trans f2⟩
    · rw [List.map_cons, for_cons, bnd_ap, e1]
      exact e2
    · rw [v2, v1]
      rfl
theorem for_doesTE {n : Nat} {body : D → En → M (Fl × En)} {e0 : Option D → En} {all : List D} {xs : List One} {v : Option D} {h : MH} {r : Option (Except Str (Fl × En) × MH)} (hB : forM .none all body (xs.map One.D) (e0 v) h = r) (hg : ∀ x ∈ xs, x.good)
    (hb : ∀ x : One, x.good → ∀ v h S, ScAt h n S → S.v.ok → ∃ h' S', body x.D (e0 v) h = some (.ok (.nx, e0 (some x.D)), h') ∧ ScAt h' n S' ∧ S'.v = S.v.do x ∧ Fr h (ids n S) h' (ids n S')) {S : ScI} (a : ScAt h n S) (ok : S.v.ok) :
    ∃ v' h' S', r = some (.ok (.nx, e0 v'), h') ∧ ScAt h' n S' ∧ S'.v = xs.foldl Sr.do S.v ∧ Fr h (ids n S) h' (ids n S') := by
  obtain ⟨v', h', S', e, q⟩ := for_doesT (all := all) xs hg hb v h S a ok
  exact ⟨v', h', S', hB.symm.trans e, q⟩
theorem feedM_ok {h : MH} {n : Nat} {B : Beg} {k : Int} {x : Str} (ho : h[n]? = some (rdO B k)) (hb : B.ok) (ht : isText (.str x) = true) :
    feedM (.ref n) (.str x) h = some (.ok (.list ((B.ones x.cps.toList).map One.D)), h.set n (rdO (B.afters x.cps.toList) (B.feed k x.cps.toList).2.1)) := by
  have e : (h[n]?).bind rdOf = some (B, k) := by rw [ho]; exact rdOf_rdO hb
  have e2 : py2 (.str x) = some (.str x) := rfl
  have e3 : ofPyL (B.feed k x.cps.toList).2.2 = (B.ones x.cps.toList).map One.D := by
    rw [Beg.ones_d, ofPyL_map, List.map_map]
    rfl
  unfold feedM
  simp only [e, e2, ht, if_true, e3, Beg.afters_eq]
def badTx (d : D) : Prop := ∃ p, py2 d = some p ∧ isText p = false ∧ textSm p
theorem feedM_bad {h : MH} {n : Nat} {B : Beg} {k : Int} {d : D} (ho : h[n]? = some (rdO B k)) (hb : B.ok) (hd : badTx d) : feedM (.ref n) d h = some (.error "BadText", h) := by
  have e : (h[n]?).bind rdOf = some (B, k) := by rw [ho]; exact rdOf_rdO hb
  obtain ⟨p, h1, h2, h3⟩ := hd
  unfold feedM
  simp only [e, h1]
  cases p with
  | str x =>
    have h3 : x.length ≤ sizeLine := h3
    simp only [h2, Bool.false_eq_true, if_false, if_pos h3]
  | _ => rfl
theorem ScAt.setRd {h : MH} {n : Nat} {S : ScI} (a : ScAt h n S) {B : Beg} (hb : B.ok) (k : Int) : ScAt (h.set S.rid (rdO B k)) n { S with beg := B, lost := k } ∧ Fr h (ids n S) (h.set S.rid (rdO B k)) (ids n { S with beg := B, lost := k }) := by
  refine ⟨⟨?_, set_self' a.rd _, hb, fun r hr => ?_, a.ndi, a.ndc⟩, by rw [List.length_set]; exact Nat.le_refl _, fun m _ hm => ?_, fun m hm => .inl hm⟩
  · rw [set_ne' (Ne.symm a.ne_rd)]
    exact a.o
  · have := a.ne_id hr
    rw [set_ne' this.2.2.1, set_ne' this.2.2.2]
    exact a.rows r hr
  · exact set_ne' (fun z => hm (by rw [z]; exact List.mem_cons_of_mem _ List.mem_cons_self)) _
theorem afters_ok (l : List Nat) {b : Beg} (h : b.ok) : (b.afters l).ok := by
  rw [← Beg.afters_eq l b 0]
  exact Beg.feed_ok l h
def Q_Screen_feed (F : List D → M D) : Prop := (∀ x, isText (.str x) = true → Does F [.str x] fun s => s.feed x.cps.toList) ∧ ∀ d, badTx d → ∀ h n S, ScAt h n S → F [.ref n, d] h = some (.error "BadText", h)
theorem sc_Screen_feed : FnScope ["self", "text", "one"] ["self", "text"] (defScope s_Screen_feed) := ⟨rfl, rfl, rfl, by decide +kernel, rfl, by decide +kernel, by decide +kernel⟩
theorem ex_Screen_feed : ∃ F : List D → M D, (∀ {P : Program} {w : World} {K : PySem.W.Frag} {mg : Str → Option Value} {base : Heap} {Ts : List (Addr × Str)} (T : GT K mg), CalM P w K mg base (XC P w) 10 "Screen" "feed" ["self", "text"] (spM K Ts 2 F)) ∧ Q_Screen_feed F := by
  refine ⟨_, fun {P w K mg base Ts} T => calM_R T.f_Screen_feed T.c_Screen T.m_Screen_feed sc_Screen_feed (fun _ _ _ _ _ _ us hl => match us, hl with | [_, _], _ => rfl)
    (fun f cdv A' outer s H E hr => ⟨_, (pss_one (ps_for (passes_of rfl) rfl (ki_list K (pe_cm K (cm_Reader_feed T) (hr.mono (by decide)) (passX rfl rfl rfl rfl) (kfld K (pv 0)) (pa_cons (pv 1) pa_nil))) (pG 2 sc_Screen_feed.nd) (pss_one (ps_expr (pe_cm K (cm_Screen_do T) (hr.mono (by decide)) (passX rfl rfl rfl rfl) (pv 0) (pa_cons (pv 2) pa_nil)))))),
    (ss_for (si_list (sm_feed (sm_fld (C := "Screen") ⟨T.c_Screen, T.n_Screen_reader⟩ (sm_var 0)) (sm_var 1))) (sg_name 2) (ss_drop (sm_meth (sm_var 0) (sa_cons (sm_var 2) sa_nil))))⟩) rfl, ?_⟩
  constructor
  · intro x hx h n S a ok
    have ho := a.o
    have hr := a.rd
    have hf := feedM_ok a.rd a.ok hx
    obtain ⟨a2, f2⟩ := a.setRd (afters_ok x.cps.toList a.ok) (S.beg.feed S.lost x.cps.toList).2.1
    have hg := Beg.ones_good x.cps.toList a.ok
    have ok2 : (ScI.v { S with beg := S.beg.afters x.cps.toList, lost := (S.beg.feed S.lost x.cps.toList).2.1 }).ok := { ok with }
    have ef : S.v.feed x.cps.toList = (S.beg.ones x.cps.toList).foldl Sr.do (ScI.v { S with beg := S.beg.afters x.cps.toList, lost := (S.beg.feed S.lost x.cps.toList).2.1 }) := rfl
    rw [show (fun s : Sr => s.feed x.cps.toList) S.v = _ from ef]
    clear ef
    walk_at "es"
    generalize hB : forM none _ _ _ _ _ = r
    obtain ⟨v', h', S', rfl, a3, v3, f3⟩ := for_doesTE (n := n) (e0 := fun v => [some (.ref n), some (.str x), v]) hB hg (fun y hy v h S a ok => by
      obtain ⟨h', S', e3, a3, v3, f3⟩ := run_Screen_do y hy h n S a ok
      refine ⟨h', S', ?_, a3, v3, f3⟩
      have ho := a.o
      clear a3 v3 f3 a ok hB hf hy
      walk_at "es") a2 ok2
    refine ⟨h', S', ?_, a3, v3, f2.trans f3⟩
    walk_at "es"
  · intro d hd h n S a
    have ho := a.o
    have hr := a.rd
    have hf := feedM_bad a.rd a.ok hd
    clear a hd
    walk_at "es"
noncomputable def F_Screen_feed : List D → M D := Classical.choose ex_Screen_feed
theorem cm_Screen_feed {P : Program} {w : World} {K : PySem.W.Frag} {mg : Str → Option Value} {base : Heap} {Ts : List (Addr × Str)} (T : GT K mg) : CalM P w K mg base (XC P w) 10 "Screen" "feed" ["self", "text"] (spM K Ts 2 F_Screen_feed) := (Classical.choose_spec ex_Screen_feed).1 T
theorem run_Screen_feed : Q_Screen_feed F_Screen_feed := (Classical.choose_spec ex_Screen_feed).2
end Sc

namespace Sc
open PySem PySem.Spec PyProof.Rows L2
/-! ### a new screen -/
def Sr.new (w h m : Int) : Sr := Sr.begin ⟨w, h, m, [], [], 0, 0, false, plain, 0, 0, 0, 0, plain, none, .no, 0⟩
theorem Sr.new_ok {w h m : Int} (w2 : 2 ≤ w) (w60 : w ≤ 60) (h2 : 2 ≤ h) (h40 : h ≤ 40) (m0 : 0 ≤ m) (m200 : m ≤ 200) : (Sr.new w h m).ok := by
  have e : (Sr.new w h m).rows = List.replicate h.toNat (bl w) := rfl
  exact { w2 := w2, w60 := w60, h2 := h2, h40 := h40, m0 := m0, m200 := m200
          rl := by rw [e, List.length_replicate]; show _ = h; omega
          rc := fun r hr => by rw [e] at hr; rw [(List.mem_replicate.mp hr).2]; exact bl_len (by omega)
          pl := m0, pc := fun r hr => nomatch hr
          r0 := Int.le_refl _, rh := by show (0 : Int) < h; omega
          c0 := Int.le_refl _, cw := by show (0 : Int) < w; omega
          t0 := Int.le_refl _, tb := by show (0 : Int) < h - 1; omega
          bh := by show h - 1 < h; omega }
structure newOk (w h m : Int) : Prop where
  w2 : 2 ≤ w
  w60 : w ≤ 60
  h2 : 2 ≤ h
  h40 : h ≤ 40
  m0 : 0 ≤ m
  m200 : m ≤ 200
theorem newOk.ok {w h m : Int} (k : newOk w h m) : (Sr.new w h m).ok := Sr.new_ok k.w2 k.w60 k.h2 k.h40 k.m0 k.m200
def Q_Screen___init__ (F : List D → M D) : Prop :=
  (∀ (w hh m : Int) (h : MH) (n : Nat), newOk w hh m → h[n]? = some (.ins "Screen" []) → ∃ h' S, F [.ref n, .int w, .int hh, .int m] h = some (.ok .none, h') ∧ ScAt h' n S ∧ S.v = Sr.new w hh m ∧ Fr h [n] h' (ids n S)) ∧
  ∀ (d1 d2 d3 : D) (p1 p2 p3 : PyData) (h : MH) (n : Nat), py2 d1 = some p1 → py2 d2 = some p2 → py2 d3 = some p3 → h[n]? = some (.ins "Screen" []) → (isCount p1 2 60 && isCount p2 2 40 && isCount p3 0 200) = false → F [.ref n, d1, d2, d3] h = some (.error "BadSize", h)
theorem sc_Screen___init__ : FnScope ["self", "wide", "high", "most"] ["self", "wide", "high", "most"] (defScope s_Screen___init__) := ⟨rfl, rfl, rfl, by decide +kernel, rfl, by decide +kernel, by decide +kernel⟩
theorem ex_Screen___init__ : ∃ F : List D → M D, (∀ {P : Program} {w : World} {K : PySem.W.Frag} {mg : Str → Option Value} {base : Heap} {Ts : List (Addr × Str)} (T : GT K mg), CalI P w K mg base (XC P w) 5 "Screen" ["self", "wide", "high", "most"] (spM K Ts 4 F)) ∧ Q_Screen___init__ F := by
  refine ⟨_, fun {P w K mg base Ts} T => calI_R T.f_Screen___init__ sc_Screen___init__ (fun _ _ _ _ _ _ us hl => match us, hl with | [_, _, _, _], _ => rfl)
    (fun f cdv A' outer s H E hr => ⟨_, (pss_cons (ps_expr (pe_cal (c_need_size T) (hr.mono (by decide)) (passX rfl rfl rfl rfl) (pa_cons (pe_and (pe_cal (c_is_count T) (hr.mono (by decide)) pass0 (pa_cons (pv 1) (pa_cons (pe_gi (by rfl) T.i_LEAST_WIDE) (pa_cons (pe_gi (by rfl) T.i_MOST_WIDE) pa_nil)))) (pe_one (pe_cal (c_is_count T) (hr.mono (by decide)) pass0 (pa_cons (pv 2) (pa_cons (pe_gi (by rfl) T.i_LEAST_HIGH) (pa_cons (pe_gi (by rfl) T.i_MOST_HIGH) pa_nil)))))) pa_nil)))
      (pss_cons (ps_expr (pe_cal (c_need_size T) (hr.mono (by decide)) (passX rfl rfl rfl rfl) (pa_cons (pe_cal (c_is_count T) (hr.mono (by decide)) pass0 (pa_cons (pv 3) (pa_cons pe_int (pa_cons (pe_gi (by rfl) T.i_MOST_KEPT) pa_nil)))) pa_nil)))
      (pss_cons (ks_fld K (pv 0) (pe_mk0 K (ci_Reader T) T.k_Reader T.g_Reader (hr.mono (by decide)) pass0))
      (pss_cons (ks_fld K (pv 0) (pv 1))
      (pss_cons (ks_fld K (pv 0) (pv 2))
      (pss_cons (ks_fld K (pv 0) (pv 3))
      (pss_cons (ks_fld K (pv 0) (pe_lst pa_nil))
      (pss_one (ps_expr (pe_cm0 K (cm_Screen_begin T) (hr.mono (by decide)) (passX rfl rfl rfl rfl) (pv 0))))))))))),
    (ss_seq (ss_drop (sm_call (sa_cons (sm_and (sm_callF g_is_count g_is_count_ok (sa_cons (sm_var 1) (sa_cons sm_int (sa_cons sm_int sa_nil)))) (sm_callF g_is_count g_is_count_ok (sa_cons (sm_var 2) (sa_cons sm_int (sa_cons sm_int sa_nil))))) sa_nil)))
      (ss_seq (ss_drop (sm_call (sa_cons (sm_callF g_is_count g_is_count_ok (sa_cons (sm_var 3) (sa_cons sm_int (sa_cons sm_int sa_nil)))) sa_nil)))
      (ss_seq (ss_fld (C := "Screen") ⟨T.c_Screen, T.n_Screen_reader⟩ (sm_var 0) sm_Reader)
      (ss_seq (ss_fld (C := "Screen") ⟨T.c_Screen, T.n_Screen_wide⟩ (sm_var 0) (sm_var 1))
      (ss_seq (ss_fld (C := "Screen") ⟨T.c_Screen, T.n_Screen_high⟩ (sm_var 0) (sm_var 2))
      (ss_seq (ss_fld (C := "Screen") ⟨T.c_Screen, T.n_Screen_most⟩ (sm_var 0) (sm_var 3))
      (ss_seq (ss_fld (C := "Screen") ⟨T.c_Screen, T.n_Screen_past⟩ (sm_var 0) (sm_fr (sl_lst sa_nil)))
      (ss_drop (sm_meth (sm_var 0) sa_nil)))))))))⟩) rfl, ?_⟩
  constructor
  · intro w hh m h n k ho
    obtain ⟨w2, w60, h2, h40, m0, m200⟩ := k
    have hn := lt_of_get ho
    have rn : ∀ h b, F_need_size [.bool b] h = some (if b = true then .ok .none else .error "BadSize", h) := run_need_size
    have c1 := cnt_old (d := .int w) (p := .int w) rfl 2 60
    have c2 := cnt_old (d := .int hh) (p := .int hh) rfl 2 40
    have c3 := cnt_old (d := .int m) (p := .int m) rfl 0 200
    rw [count_in w2 w60] at c1
    rw [count_in h2 h40] at c2
    rw [count_in m0 m200] at c3
    obtain ⟨h1, e1⟩ : ∃ h1, h ++ [rdO .no 0] = h1 := ⟨_, rfl⟩
    have g1 : h1[n]? = some (.ins "Screen" []) := by rw [← e1]; exact get_app ho
    have gs := set_self' g1
    have l1 : h1.length = h.length + 1 := by rw [← e1, List.length_append]; rfl
    obtain ⟨h2', e2⟩ : ∃ h2, h1.set n (.ins "Screen" (P5 h.length w hh m)) = h2 := ⟨_, rfl⟩
    have g2 : h2'[n]? = some (.ins "Screen" (P5 h.length w hh m)) := by rw [← e2]; exact gs _
    have rb := run_Screen_begin.2 h2' n h.length w hh m .no 0 g2 w2 w60 h2 h40
    have l2 : h2'.length = h.length + 1 := by rw [← e2, List.length_set, l1]
    obtain ⟨S0, eS⟩ : ∃ S0, S0 = bgI ⟨h.length, .no, 0, w, hh, m, [], [], 0, 0, false, plain, 0, 0, 0, 0, plain, none⟩ h2'.length := ⟨_, rfl⟩
    have er : S0.rows = freshR w.toNat h2'.length hh.toNat := by rw [eS]; rfl
    have ep : S0.past = [] := by rw [eS]; rfl
    have ei : S0.rid = h.length := by rw [eS]; rfl
    rw [← eS] at rb
    have gr : h1[h.length]? = some (rdO .no 0) := by rw [← e1]; exact get_last1 _ _
    have gr2 : h2'[h.length]? = some (rdO .no 0) := by rw [← e2, set_ne' (by omega)]; exact gr
    refine ⟨(h2' ++ freshO w.toNat h2'.length hh.toNat).set n (scO S0), S0, ?_, ⟨set_self' (get_app g2) _, ?_, by rw [eS]; trivial, fun r hr => ?_, ?_, ?_⟩, ?_, ?_, fun x hx hne => ?_, fun x hx => ?_⟩
    · have f1 : ∀ a b : D, setF "wide" b [("reader", a)] = ([("reader", a), ("wide", b)] : List (Str × D)) := fun _ _ => rfl
      have f2 : ∀ a b c : D, setF "high" c [("reader", a), ("wide", b)] = ([("reader", a), ("wide", b), ("high", c)] : List (Str × D)) := fun _ _ _ => rfl
      have f3 : ∀ a b c d : D, setF "most" d [("reader", a), ("wide", b), ("high", c)] = ([("reader", a), ("wide", b), ("high", c), ("most", d)] : List (Str × D)) := fun _ _ _ _ => rfl
      have f4 : ∀ a b c d e : D, setF "past" e [("reader", a), ("wide", b), ("high", c), ("most", d)] = ([("reader", a), ("wide", b), ("high", c), ("most", d), ("past", e)] : List (Str × D)) := fun _ _ _ _ _ => rfl
      clear gr gr2 er ep ei eS l2 l1
      have z0 : 0 ≤ sizeLine := Nat.zero_le _
      have nb : (getF (Str.ofString "begin") (P5 h.length w hh m)).isNone = true := rfl
      walk_at "es"
    · rw [ei, set_ne' (by omega)]
      rw [show S0.beg = .no by rw [eS]; rfl, show S0.lost = 0 by rw [eS]; rfl]
      exact get_app gr2
    · rw [ep, er, List.nil_append] at hr
      have h1 := freshR_ids _ _ _ r hr
      have h2 := freshR_at w.toNat hh.toNat h2' r hr
      rw [set_ne' (by omega), set_ne' (by omega)]
      exact h2
    · rw [ep, er, List.nil_append]
      exact (freshR_nd _ _ _).1
    · rw [ep, er, List.nil_append]
      exact (freshR_nd _ _ _).2
    · rw [eS]
      unfold bgI ScI.v Sr.new Sr.begin
      simp only [freshR_v]
      rfl
    · rw [List.length_set, List.length_append]; omega
    · have : x ≠ n := fun z => hne (by rw [z]; exact List.mem_cons_self)
      rw [set_ne' this, List.getElem?_append_left (by omega), ← e2, set_ne' this, ← e1, List.getElem?_append_left hx]
    · unfold ids rids at hx
      rw [ep, er, ei, List.nil_append] at hx
      rcases List.mem_cons.mp hx with rfl | hx
      · exact .inl List.mem_cons_self
      rcases List.mem_cons.mp hx with rfl | hx
      · exact .inr (Nat.le_refl _)
      rcases List.mem_append.mp hx with hx | hx
      · obtain ⟨r, hr, rfl⟩ := List.mem_map.mp hx
        have := freshR_ids _ _ _ r hr
        exact .inr (by omega)
      · obtain ⟨r, hr, rfl⟩ := List.mem_map.mp hx
        have := freshR_ids _ _ _ r hr
        exact .inr (by omega)
  · intro d1 d2 d3 p1 p2 p3 h n e1 e2 e3 ho hc
    have rn : ∀ h b, F_need_size [.bool b] h = some (if b = true then .ok .none else .error "BadSize", h) := run_need_size
    have c1 := cnt_old e1 2 60
    have c2 := cnt_old e2 2 40
    have c3 := cnt_old e3 0 200
    clear e1 e2 e3
    cases i1 : isCount p1 2 60 with
    | false =>
      rw [i1] at c1
      clear hc i1
      walk_at "es"
    | true =>
      rw [i1] at c1
      cases i2 : isCount p2 2 40 with
      | false =>
        rw [i2] at c2
        clear hc i1 i2
        walk_at "es"
      | true =>
        rw [i2] at c2
        have i3 : isCount p3 0 200 = false := by rw [i1, i2] at hc; exact hc
        rw [i3] at c3
        clear hc i1 i2 i3
        walk_at "es"
noncomputable def F_Screen___init__ : List D → M D := Classical.choose ex_Screen___init__
theorem ci_Screen {P : Program} {w : World} {K : PySem.W.Frag} {mg : Str → Option Value} {base : Heap} {Ts : List (Addr × Str)} (T : GT K mg) : CalI P w K mg base (XC P w) 5 "Screen" ["self", "wide", "high", "most"] (spM K Ts 4 F_Screen___init__) := (Classical.choose_spec ex_Screen___init__).1 T
theorem run_Screen___init__ : Q_Screen___init__ F_Screen___init__ := (Classical.choose_spec ex_Screen___init__).2
/-! ### a cell -/
def Q_Screen_cell (F : List D → M D) : Prop :=
  (∀ (h : MH) (n : Nat) (S : ScI) (i j : Int) (r : Rw) (c : Cl), ScAt h n S → S.v.ok → 0 ≤ i → 0 ≤ j → S.v.rows[i.toNat]? = some r → r.cells[j.toNat]? = some c → F [.ref n, .int i, .int j] h = some (.ok c.d, h)) ∧
  ∀ (h : MH) (n : Nat) (S : ScI) (d1 d2 : D) (p1 p2 : PyData), ScAt h n S → py2 d1 = some p1 → py2 d2 = some p2 → (isCount p1 0 (S.high - 1) && isCount p2 0 (S.wide - 1)) = false → F [.ref n, d1, d2] h = some (.error "BadPlace", h)
theorem sc_Screen_cell : FnScope ["self", "row", "column"] ["self", "row", "column"] (defScope s_Screen_cell) := ⟨rfl, rfl, rfl, by decide +kernel, rfl, by decide +kernel, by decide +kernel⟩
theorem ex_Screen_cell : ∃ F : List D → M D, (∀ {P : Program} {w : World} {K : PySem.W.Frag} {mg : Str → Option Value} {base : Heap} {Ts : List (Addr × Str)} (T : GT K mg), CalM P w K mg base (XC P w) 2 "Screen" "cell" ["self", "row", "column"] (spM K Ts 3 F)) ∧ Q_Screen_cell F := by
  refine ⟨_, fun {P w K mg base Ts} T => calM_R T.f_Screen_cell T.c_Screen T.m_Screen_cell sc_Screen_cell (fun _ _ _ _ _ _ us hl => match us, hl with | [_, _, _], _ => rfl)
    (fun f cdv A' outer s H E hr => ⟨_, (pss_cons (ps_if (PW.pt (pw_or (pt_not (pt_val (pe_cal (c_is_count T) (hr.mono (by decide)) pass0 (pa_cons (pv 1) (pa_cons pe_int (pa_cons (pe_op op_sub (kfld K (pv 0)) pe_int) pa_nil)))))) (pw_or1 (pt_not (pt_val (pe_cal (c_is_count T) (hr.mono (by decide)) pass0 (pa_cons (pv 2) (pa_cons pe_int (pa_cons (pe_op op_sub (kfld K (pv 0)) pe_int) pa_nil))))))))) (pss_one (L2N.ps_raise rfl (L2N.takes_of rfl rfl rfl rfl) (L2N.pmk_own PySem.F.excBase_ValueError T.x_BadPlace.1 T.g_BadPlace T.x_BadPlace.2.1 (raises_own T.x_BadPlace.2.2.1 T.x_BadPlace.2.2.2) rfl))) pss_nil)
      (pss_one (ps_ret (pe_ix (kix K) (kfld K (pe_ix (kix K) (kfld K (pv 0)) (pv 1) (fun _ _ => rfl))) (pv 2) (fun _ _ => rfl))))),
    (ss_seq (ss_if (st_or (st_not (st_B (sm_callF g_is_count g_is_count_ok (sa_cons (sm_var 1) (sa_cons sm_int (sa_cons (sm_op kr_sub (sm_fld (C := "Screen") ⟨T.c_Screen, T.n_Screen_high⟩ (sm_var 0)) sm_int) sa_nil)))))) (st_not (st_B (sm_callF g_is_count g_is_count_ok (sa_cons (sm_var 2) (sa_cons sm_int (sa_cons (sm_op kr_sub (sm_fld (C := "Screen") ⟨T.c_Screen, T.n_Screen_wide⟩ (sm_var 0)) sm_int) sa_nil))))))) ss_raise ss_next)
      (ss_ret (sm_op kr_ix (sm_fld (C := "Row") ⟨T.c_Row, T.n_Row_cells⟩ (sm_op kr_ix (sm_fld (C := "Screen") ⟨T.c_Screen, T.n_Screen_rows⟩ (sm_var 0)) (sm_var 1))) (sm_var 2))))⟩) rfl, ?_⟩
  constructor
  · intro h n S i j r c a ok i0 j0 hr hc
    have ho := a.o
    have hi : i < S.high := by
      have := ok.rl
      have := (List.getElem?_eq_some_iff.mp hr).1
      show i < S.v.high
      omega
    have hj : j < S.wide := by
      have := ok.rc r (List.mem_of_getElem? hr)
      have := (List.getElem?_eq_some_iff.mp hc).1
      show j < S.v.wide
      omega
    have c1 := cnt_old (d := .int i) (p := .int i) rfl 0 (S.high - 1)
    have c2 := cnt_old (d := .int j) (p := .int j) rfl 0 (S.wide - 1)
    rw [count_in i0 (by omega)] at c1
    rw [count_in j0 (by omega)] at c2
    have hr' : (S.rows.map RowI.v)[i.toNat]? = some r := hr
    rw [List.getElem?_map] at hr'
    obtain ⟨q, hq, rfl⟩ := Option.map_eq_some_iff.mp hr'
    have hqr : atI (S.rows.map RowI.r) i = some (.ref q.id) := by rw [atI_map, atI_get' i0 hq]; rfl
    obtain ⟨q1, q2⟩ := a.rows q (List.mem_append_right _ (List.mem_of_getElem? hq))
    have hc : q.cells[j.toNat]? = some c := hc
    have hcr : atI (q.cells.map Cl.d) j = some c.d := by rw [atI_map, atI_get' j0 hc]; rfl
    clear a ok hr hr' hq
    clear hc
    walk_at "es"
  · intro h n S d1 d2 p1 p2 a e1 e2 hc
    have ho := a.o
    have c1 := cnt_old e1 0 (S.high - 1)
    have c2 := cnt_old e2 0 (S.wide - 1)
    clear e1 e2
    cases i1 : isCount p1 0 (S.high - 1) with
    | false =>
      rw [i1] at c1
      clear hc i1 a
      walk_at "es"
    | true =>
      have i2 : isCount p2 0 (S.wide - 1) = false := by rw [i1] at hc; exact hc
      rw [i1] at c1
      rw [i2] at c2
      clear hc i1 i2 a
      walk_at "es"
noncomputable def F_Screen_cell : List D → M D := Classical.choose ex_Screen_cell
theorem cm_Screen_cell {P : Program} {w : World} {K : PySem.W.Frag} {mg : Str → Option Value} {base : Heap} {Ts : List (Addr × Str)} (T : GT K mg) : CalM P w K mg base (XC P w) 2 "Screen" "cell" ["self", "row", "column"] (spM K Ts 3 F_Screen_cell) := (Classical.choose_spec ex_Screen_cell).1 T
theorem run_Screen_cell : Q_Screen_cell F_Screen_cell := (Classical.choose_spec ex_Screen_cell).2
end Sc

namespace Sc
open PySem PySem.Spec PyProof.Rows L2
/-! ### the signs in a screen -/
section
variable {P : Nat → Prop}
def cellsIn (P : Nat → Prop) (l : List Cl) : Prop := ∀ c ∈ l, P c.s
def rowsIn (P : Nat → Prop) (l : List Rw) : Prop := ∀ r ∈ l, cellsIn P r.cells
structure Sr.has (P : Nat → Prop) (s : Sr) : Prop where
  b : P 32
  rows : rowsIn P s.rows
  past : rowsIn P s.past
  last : ∀ l, s.last = some l → P l
theorem cut_sub {α : Type} {l : List α} {lo hi : Option Int} {x : α} (h : x ∈ cutL l lo hi) : x ∈ l := List.mem_of_mem_drop (List.mem_of_mem_take h)
theorem cellsIn.app {l m : List Cl} (a : cellsIn P l) (b : cellsIn P m) : cellsIn P (l ++ m) := fun c h => (List.mem_append.mp h).elim (a c) (b c)
theorem cellsIn.cut {l : List Cl} (a : cellsIn P l) (lo hi : Option Int) : cellsIn P (cutL l lo hi) := fun c h => a c (cut_sub h)
theorem cellsIn.blanks (b : P 32) (k : Int) : cellsIn P (blanks k) := fun c h => by
  have : c = blank := (List.mem_replicate.mp h).2
  rw [this]
  exact b
theorem rowsIn.app {l m : List Rw} (a : rowsIn P l) (b : rowsIn P m) : rowsIn P (l ++ m) := fun c h => (List.mem_append.mp h).elim (a c) (b c)
theorem rowsIn.cut {l : List Rw} (a : rowsIn P l) (lo hi : Option Int) : rowsIn P (cutL l lo hi) := fun c h => a c (cut_sub h)
theorem rowsIn.bl (b : P 32) (k : Nat) (w : Int) : rowsIn P (List.replicate k (bl w)) := fun r h c hc => by
  rw [(List.mem_replicate.mp h).2] at hc
  have : c = blank := (List.mem_replicate.mp hc).2
  rw [this]
  exact b
theorem rowsIn.mod {l : List Rw} (a : rowsIn P l) (i : Nat) {f : Rw → Rw} (hf : ∀ r, cellsIn P r.cells → cellsIn P (f r).cells) : rowsIn P (l.modify i f) := fun r h => by
  obtain ⟨q, h1, e⟩ := mem_modify h
  rcases e with rfl | rfl
  · exact a r h1
  · exact hf q (a q h1)
theorem rowsIn.off {l : List Rw} (a : rowsIn P l) (i : Int) : rowsIn P (offAt l i) := a.mod _ fun _ h => h
variable {s : Sr}
theorem Sr.has.begin (k : s.has P) : s.begin.has P := ⟨k.b, rowsIn.bl k.b _ _, k.past, fun l h => nomatch h⟩
theorem Sr.has.stand (k : s.has P) (r c : Int) : (s.stand r c).has P := ⟨k.b, k.rows, k.past, k.last⟩
theorem Sr.has.cutOff (k : s.has P) (t : Int) : (s.cutOff t).has P := by
  refine ⟨k.b, ?_, k.past, k.last⟩
  unfold Sr.cutOff
  refine rowsIn.off ?_ _
  split
  · exact k.rows.off _
  · exact k.rows
theorem Sr.has.roll (k : s.has P) (t m : Int) : (s.roll t m).has P := by
  unfold Sr.roll
  apply Sr.has.cutOff
  refine ⟨k.b, ?_, ?_, k.last⟩
  · exact (((k.rows.cut _ _).app (k.rows.cut _ _)).app (rowsIn.bl k.b _ _)).app (k.rows.cut _ _)
  · show rowsIn P (if _ then _ else _)
    split
    · exact (k.past.app (k.rows.cut _ _)).cut _ _
    · exact k.past
theorem Sr.has.rollDown (k : s.has P) (t m : Int) : (s.rollDown t m).has P := by
  unfold Sr.rollDown
  apply Sr.has.cutOff
  refine ⟨k.b, ?_, k.past, k.last⟩
  exact (((k.rows.cut _ _).app (rowsIn.bl k.b _ _)).app (k.rows.cut _ _)).app (k.rows.cut _ _)
theorem Sr.has.down (k : s.has P) : s.down.has P := by
  unfold Sr.down
  split
  · exact k.roll _ _
  · split
    · exact ⟨k.b, k.rows, k.past, k.last⟩
    · exact k
theorem Sr.has.up (k : s.has P) : s.up.has P := by
  unfold Sr.up
  split
  · exact k.rollDown _ _
  · split
    · exact ⟨k.b, k.rows, k.past, k.last⟩
    · exact k
theorem Sr.has.put (k : s.has P) {c : Nat} (hc : P c) : (s.put c).has P := by
  have h1 : s.wrap.has P := by
    unfold Sr.wrap
    split
    · apply Sr.has.stand
      apply Sr.has.down
      refine ⟨k.b, ?_, k.past, k.last⟩
      exact k.rows.mod _ fun _ h => h
    · exact k
  have h2 : (s.wrap.put1 c).has P := by
    refine ⟨k.b, ?_, h1.past, fun l h => ?_⟩
    · refine h1.rows.mod _ fun r h x hx => ?_
      rcases List.mem_or_eq_of_mem_set hx with z | z
      · exact h x z
      · rw [z]; exact hc
    · cases h; exact hc
  unfold Sr.put Sr.step
  split
  · exact ⟨h2.b, h2.rows, h2.past, h2.last⟩
  · exact ⟨h2.b, h2.rows, h2.past, h2.last⟩
theorem Sr.has.cellsAt (k : s.has P) {f : List Cl → List Cl} (hf : ∀ cs, cellsIn P cs → cellsIn P (f cs)) : (s.cellsAt f).has P := ⟨k.b, k.rows.mod _ fun r h => hf r.cells h, k.past, k.last⟩
theorem Sr.has.erase (k : s.has P) (c : Nat) : (s.erase c).has P := by
  have e1 : (s.erased c).has P := by
    unfold Sr.erased
    split
    · exact k.cellsAt fun cs h => (h.cut _ _).app (cellsIn.blanks k.b _)
    · split
      · exact k.cellsAt fun cs h => (cellsIn.blanks k.b _).app (h.cut _ _)
      · split
        · exact k.cellsAt fun cs h => cellsIn.blanks k.b _
        · exact ⟨k.b, rowsIn.bl k.b _ _, k.past, k.last⟩
  unfold Sr.erase
  split
  · exact ⟨e1.b, e1.rows, e1.past, e1.last⟩
  · exact ⟨e1.b, e1.rows.off _, e1.past, e1.last⟩
theorem Sr.has.shift (k : s.has P) (c : Nat) (m : Int) : (s.shift c m).has P := by
  have e1 := k.cellsAt (f := fun cs => if c = 88 then cutL cs none (some s.col) ++ (cutL (cutL cs (some s.col) none) (some m) none ++ blanks m)
    else cutL cs none (some s.col) ++ (blanks m ++ cutL (cutL cs (some s.col) none) none (some ((cutL cs (some s.col) none).length - m)))) fun cs h => by
    split
    · exact (h.cut _ _).app (((h.cut _ _).cut _ _).app (cellsIn.blanks k.b _))
    · exact (h.cut _ _).app ((cellsIn.blanks k.b _).app ((h.cut _ _).cut _ _))
  exact ⟨e1.b, e1.rows.off _, e1.past, e1.last⟩
theorem Sr.has.small (k : s.has P) (c : Nat) : (s.small c).has P := by
  unfold Sr.small
  repeat' split
  all_goals first
    | exact k.stand _ _
    | exact k.down.stand _ _
    | exact k.up.stand _ _
    | exact k.erase _
    | exact k.begin
    | exact ⟨k.b, k.rows, k.past, k.last⟩
theorem Sr.has.puts (k : s.has P) {c : Nat} (hc : P c) : ∀ m : Nat, (s.puts c m).has P := fun m => by
  induction m generalizing s with
  | zero => exact k
  | succ m ih => exact ih (k.put hc)
theorem Sr.has.one (k : s.has P) (c : Nat) (n : Int) : (s.one c n).has P := by
  unfold Sr.one
  split
  · split
    · exact ⟨k.b, k.rows, k.past, k.last⟩
    · exact k
  split
  · split
    · exact ⟨k.b, k.rows, k.past, k.last⟩
    · exact k
  split
  · split
    · exact ⟨k.b, k.rows, k.past, k.last⟩
    · exact k
  split
  · exact k.shift c _
  split
  · refine Sr.has.stand ?_ _ _
    have := k.roll s.row n
    exact ⟨this.b, this.rows, k.past, this.last⟩
  split
  · exact (k.rollDown _ _).stand _ _
  split
  · split
    · next l h => exact k.puts (k.last l h) _
    · exact k
  exact k
theorem Sr.has.great (k : s.has P) (c : Nat) (ns : List Int) : (s.great c ns).has P := by
  unfold Sr.great
  split
  · exact k.one c _
  · split
    · exact k.stand _ _
    · split
      · exact ⟨k.b, k.rows, k.past, k.last⟩
      · exact k
  · exact k
def One.in (P : Nat → Prop) : One → Prop
  | .sign c => P c
  | _ => True
theorem Sr.has.do (k : s.has P) {o : One} (h : o.in P) : (s.do o).has P := by
  cases o with
  | sign c => exact k.put h
  | endl => exact k.down.stand _ _
  | small c => exact k.small c
  | great c ns => exact k.great c ns
theorem Sr.has.fold : ∀ {l : List One} {s : Sr}, s.has P → (∀ o ∈ l, o.in P) → (l.foldl Sr.do s).has P
  | [], s, k, _ => k
  | o :: l, s, k, h => Sr.has.fold (l := l) (s := s.do o) (k.do (h o List.mem_cons_self)) fun x hx => h x (List.mem_cons_of_mem _ hx)
theorem Sr.has.new (b : P 32) (w h m : Int) : (Sr.new w h m).has P := ⟨b, rowsIn.bl b _ _, fun r hr => (nomatch hr), fun l h => (nomatch h)⟩
theorem plainT_in {c : Nat} (hc : P c) : ∀ o ∈ plainT c, o.in P := fun o h => by
  unfold plainT at h
  split at h
  · cases h
  · split at h
    · rw [List.mem_singleton.mp h]; trivial
    · rw [List.mem_singleton.mp h]; exact hc
theorem Beg.readT_in {b : Beg} {c : Nat} (hc : P c) (h94 : P 94) : ∀ o ∈ b.readT c, o.in P := fun o h => by
  cases b with
  | no => exact plainT_in hc o h
  | _ =>
    simp only [Beg.readT] at h
    split at h
    · simp only [Beg.nextT] at h
      first
        | (cases h; done)
        | (split at h
           · first
             | (cases h; done)
             | (rw [List.mem_singleton.mp h]; exact h94)
           · split at h
             · first
               | (cases h; done)
               | (rw [List.mem_singleton.mp h]; trivial)
             · first
               | (cases h; done)
               | (rw [List.mem_singleton.mp h]; trivial))
    · exact plainT_in hc o h
theorem Beg.ones_in : ∀ (l : List Nat) {b : Beg}, (∀ c ∈ l, P c) → P 94 → ∀ o ∈ b.ones l, o.in P
  | [], b, _, _, o, h => nomatch h
  | c :: l, b, hl, h94, o, h => by
    rcases List.mem_append.mp h with z | z
    · exact Beg.readT_in (hl c List.mem_cons_self) h94 o z
    · exact Beg.ones_in l (fun x hx => hl x (List.mem_cons_of_mem _ hx)) h94 o z
theorem Sr.has.feed (k : s.has P) (h94 : P 94) {cs : List Nat} (h : ∀ c ∈ cs, P c) : (s.feed cs).has P := Sr.has.fold (s := s.heard cs) ⟨k.b, k.rows, k.past, k.last⟩ (Beg.ones_in cs h h94)
end
end Sc

namespace Sc
open PySem PySem.Spec PyProof.Rows L2
/-- a cell of the script -/
def cellOf (ns : List Int) (k : Nat) : Int := if ns = [] then (k : Int) * 7919 else ns.getD (k % ns.length) 0 + ((k / ns.length : Nat) : Int) * 104729
def drawn1 (c k : Int) : Int := (c * 6364136223846793005 + (k + 1) * 1442695040888963407) % 340282366920938463463374607431768211507
def drawn2 (x : Int) : Int := x * x % 340282366920938463463374607431768211297
def drawn3 (x : Int) : Int := (x % 18446744073709551557 + 1) * (x / 18446744073709551557 + 1) * x
/-- the law's great number -/
def drawn (c k : Int) : Int := drawn3 (drawn2 (drawn1 c k)) % 340282366920938463463374607431768211507
theorem drawn1_b (c k : Int) : 0 ≤ drawn1 c k ∧ drawn1 c k < 340282366920938463463374607431768211507 := ⟨Int.emod_nonneg _ (by decide), Int.emod_lt_of_pos _ (by decide)⟩
theorem drawn2_b (x : Int) : 0 ≤ drawn2 x ∧ drawn2 x < 340282366920938463463374607431768211297 := ⟨Int.emod_nonneg _ (by decide), Int.emod_lt_of_pos _ (by decide)⟩
theorem drawn_b (c k : Int) : 0 ≤ drawn c k ∧ drawn c k < 340282366920938463463374607431768211507 := ⟨Int.emod_nonneg _ (by decide), Int.emod_lt_of_pos _ (by decide)⟩
theorem nat129 {x : Int} (h0 : 0 ≤ x) (h1 : x < 340282366920938463463374607431768211507) : x.natAbs < 2 ^ 129 := by
  have e : (2 : Nat) ^ 129 = 680564733841876926926749214863536422912 := by decide
  rw [e]
  omega
theorem mulW {x y : Int} {a b : Nat} (hx : x.natAbs < 2 ^ a) (hy : y.natAbs < 2 ^ b) (ha : 0 < a) (hb : 0 < b) (h : a + b ≤ 1000000) : CMulW x y := wide_mul hx hy ha hb h
def A_law_drawn (ds : List PyData) (d : PyData) : Prop := ∃ c k : Int, ds = [.int c, .int k] ∧ d = .int (drawn c k)
section
variable {P : Program} {w : World} {K : PySem.W.Frag} {mg : Str → Option Value} {base : Heap} {Ts : List (Addr × Str)}
theorem sc__law_drawn : FnScope ["cell", "k", "more"] ["cell", "k"] (defScope s__law_drawn) := ⟨rfl, rfl, rfl, by decide +kernel, rfl, by decide +kernel, by decide +kernel⟩
theorem c__law_drawn (T : GT K mg) : Cal P w K mg base CX0 1 "_law_drawn" ["cell", "k"] (spF K 2 A_law_drawn) := by
  refine cal_F T.f__law_drawn T.g__law_drawn sc__law_drawn rfl (fun _ _ _ _ _ _ us hl => match us, hl with | [_, _], _ => rfl) fun f cdv A' outer s H vs Q E F ds d hr hf hl ha q => ?_
  obtain ⟨c, k, rfl, rfl⟩ := ha
  obtain ⟨v, u, rfl, hv, hu⟩ := dal2 hl
  refine ⟨_, (pss_cons (pS 2 sc__law_drawn.nd (pe_op op_mod (pe_op (kplus K) (pe_op (ktimes K) (pv 0) pe_int) (pe_op (ktimes K) (pe_op (kplus K) (pv 1) pe_int) pe_int)) pe_int))
      (pss_cons (pS 2 sc__law_drawn.nd (pe_op op_mod (pe_op (ktimes K) (pv 2) (pv 2)) pe_int))
      (pss_cons (pS 2 sc__law_drawn.nd (pe_op (ktimes K) (pe_op (ktimes K) (pe_op (kplus K) (pe_op op_mod (pv 2) pe_int) pe_int) (pe_op (kplus K) (pe_op op_fdivW (pv 2) pe_int) pe_int)) (pv 2)))
      (pss_one (ps_ret (pe_op op_mod (pv 2) pe_int)))))), ?_⟩
  have hv : v = .int c := hv
  have hu : u = .int k := hu
  subst hv hu
  have b1 := drawn1_b c k
  have b2 := drawn2_b (drawn1 c k)
  generalize e1 : drawn1 c k = x1 at b1 b2
  generalize e2 : drawn2 x1 = x2 at b2
  refine s_seq (s_set (R := Same) (K := K) (F := F) (d := .int x1) (dv_is (dv_mod (dv_addI (dv_mulI (dv_var rfl (show Da K _ (.int c) _ from rfl)) dv_int (.inl (.inr ⟨by decide, by decide⟩))) (dv_mulI (dv_addI (dv_var rfl (show Da K _ (.int k) _ from rfl)) dv_int) dv_int (.inl (.inr ⟨by decide, by decide⟩)))) dv_int (by decide)) (congrArg PyData.int e1)) hf fun v1 H1 s1 g1 => ?_)
  have f1 := r_fd (R := Same) s1 hf
  refine s_seq (s_set (R := Same) (K := K) (F := F) (d := .int x2) (dv_is (dv_mod (dv_mulI (dv_var rfl g1) (dv_var rfl g1) (.inr (mulW (nat129 b1.1 b1.2) (nat129 b1.1 b1.2) (by decide) (by decide) (by decide)))) dv_int (by decide)) (congrArg PyData.int e2)) f1 fun v2 H2 s2 g2 => ?_)
  have f2 := r_fd (R := Same) s2 f1
  have hd : 0 ≤ x2 / 18446744073709551557 ∧ x2 / 18446744073709551557 < 36893488147419103000 := by omega
  have hm : 0 ≤ x2 % 18446744073709551557 ∧ x2 % 18446744073709551557 < 18446744073709551557 := ⟨Int.emod_nonneg _ (by decide), Int.emod_lt_of_pos _ (by decide)⟩
  have hp : ((x2 % 18446744073709551557 + 1) * (x2 / 18446744073709551557 + 1)).natAbs < 2 ^ 140 := by
    rw [Int.natAbs_mul]
    have h1 : (x2 % 18446744073709551557 + 1).natAbs < 2 ^ 65 := by
      rw [show (2 : Nat) ^ 65 = 36893488147419103232 by decide]
      omega
    have h2 : (x2 / 18446744073709551557 + 1).natAbs < 2 ^ 65 := by
      rw [show (2 : Nat) ^ 65 = 36893488147419103232 by decide]
      omega
    refine Nat.lt_of_lt_of_le (Nat.mul_lt_mul_of_lt_of_le h1 (Nat.le_of_lt h2) (Nat.two_pow_pos _)) ?_
    rw [← Nat.pow_add]
    exact Nat.pow_le_pow_right (by decide) (by decide)
  refine s_seq (s_set (R := Same) (K := K) (F := F) (d := .int (drawn3 x2)) (dv_mulI (dv_mulI (dv_addI (dv_mod (dv_var rfl g2) dv_int (by decide)) dv_int) (dv_addI (dv_div (dv_var rfl g2) dv_int ⟨by decide, by decide⟩) dv_int) (.inl (.inl ⟨by omega, by omega⟩))) (dv_var rfl g2) (.inr (mulW hp (nat129 b2.1 (by omega)) (by decide) (by decide) (by decide)))) f2 fun v3 H3 s3 g3 => ?_)
  refine s_ret (R := Same) (K := K) (F := F) (dv_is (dv_mod (dv_var rfl g3) dv_int (by decide)) ?_) (r_fd (R := Same) s3 f2) fun v4 H4 s4 g4 => q v4 H4 (((s1.trans s2).trans s3).trans s4) g4
  show _ = PyData.int (drawn3 (drawn2 (drawn1 c k)) % 340282366920938463463374607431768211507)
  rw [e1, e2]
end
end Sc

namespace Sc
open PySem PySem.Spec PyProof.Rows L2
/-- the script as it stands, a place -/
def spLCell (K : PySem.W.Frag) : Sp := fun vs H Q _ => ∃ (a : Addr) (ns : List Int) (k : Nat), vs = [.ref a, .int (k : Int)] ∧ SqL K H a (ns.map V.int) ∧ k ≤ 63 ∧ ns.length ≤ 63 ∧ ∀ H', Same H H' → Q (.int (cellOf ns k)) H'
theorem dpAll_ints {K : PySem.W.Frag} {H : Hp} : ∀ ns : List Int, DpAll K H (ns.map V.int) (ns.map PyData.int)
  | [] => .nil
  | n :: ns => .cons (.int n) (dpAll_ints ns)
theorem shl_ints (ns : List Int) : ShL 0 (ns.map PyData.int) := shl_all fun d hd => by
  obtain ⟨n, _, rfl⟩ := List.mem_map.mp hd
  exact sh_int
theorem eqv_nil (ns : List Int) : PyData.eqv (.list (ns.map PyData.int)) (.list []) = decide (ns = []) := by
  cases ns with
  | nil => rfl
  | cons n ns => rfl
section
variable {P : Program} {w : World} {K : PySem.W.Frag} {mg : Str → Option Value} {base : Heap} {Ts : List (Addr × Str)}
theorem sc__law_cell : FnScope ["script", "k"] ["script", "k"] (defScope s__law_cell) := ⟨rfl, rfl, rfl, by decide +kernel, rfl, by decide +kernel, by decide +kernel⟩
theorem c__law_cell (T : GT K mg) : Cal P w K mg base CX0 1 "_law_cell" ["script", "k"] (spLCell K) := by
  obtain ⟨fd, FD⟩ := T.f__law_cell
  refine ⟨_, fd, T.g__law_cell, FD.kp, FD.bindsN (fun _ _ _ _ _ _ us hl => match us, hl with | [_, _], _ => rfl), FD.ok sc__law_cell (fun vs H Q E h => ?_) fun cdv A' outer s H vs Q E hr h => ?_⟩
  · obtain ⟨a, ns, k, rfl, _⟩ := h
    rfl
  obtain ⟨a, ns, k, rfl, hS, hk, hn, q⟩ := h
  refine ⟨_, (pss_cons (ps_if (pt_cmpR (keq K hr.units) (pv 0) (pe_lst pa_nil) (nomark _)) (pss_one (ps_ret (pe_op (ktimes K) (pv 1) pe_int))) pss_nil)
      (pss_one (ps_ret (pe_op (kplus K) (pe_ix (kix K) (pv 0) (pe_op op_mod (pv 1) (pe_callB (klen K) (by rfl) T.z_len (by decide +kernel) (pa_cons (pv 0) pa_nil))) (fun _ _ => rfl)) (pe_op (ktimes K) (pe_op op_fdivW (pv 1) (pe_callB (klen K) (by rfl) T.z_len (by decide +kernel) (pa_cons (pv 0) pa_nil))) pe_int))))), ?_⟩
  -- script == []
  refine s_seq ?_
  refine ⟨_, rfl, (by show 0 ≤ sizeLine; decide), fun p hp => ?_⟩
  have s1 : Same H (upd H p (.lst [])) := same_new hp
  refine .inr ⟨.list (ns.map PyData.int), .list [], .lst (s1.seq hS) (dpAll_ints ns), .lst (SqL.of upd_same) .nil, (sh_list (shl_ints ns)).s, (sh_list shl_nil).s (n := 1), _, rfl, ?_⟩
  rw [eqv_nil]
  by_cases he : ns = []
  · rw [decide_eq_true he]
    refine iteT ?_
    refine s_ret (R := Same) (K := K) (F := []) (dv_is (dv_mulI (dv_var rfl (show Da K _ (.int (k : Int)) _ from rfl)) dv_int (.inl (.inr ⟨by decide, by decide⟩))) rfl) Fd.nil fun v H2 s2 g => ?_
    have g : v = .int ((k : Int) * 7919) := g
    subst g
    have e : cellOf ns k = (k : Int) * 7919 := if_pos he
    rw [← e]
    exact q H2 (s1.trans s2)
  · rw [decide_eq_false he]
    refine iteF (s_next ?_)
    have hpos : 0 < ns.length := List.length_pos_iff.mpr he
    have hlt : k % ns.length < ns.length := Nat.mod_lt _ hpos
    have em : (k : Int) % (ns.length : Int) = ((k % ns.length : Nat) : Int) := by omega
    have ed : (k : Int) / (ns.length : Int) = ((k / ns.length : Nat) : Int) := by omega
    have hdv : k / ns.length ≤ 63 := Nat.le_trans (Nat.div_le_self _ _) hk
    have el : (ns.map V.int).length = ns.length := List.length_map _
    have ix : atI (ns.map V.int) ((k : Int) % (ns.length : Int)) = some (.int (ns.getD (k % ns.length) 0)) := by
      rw [em]
      refine atI_nat ?_
      rw [List.getElem?_map, List.getElem?_eq_getElem hlt, List.getD_eq_getElem?_getD, List.getElem?_eq_getElem hlt]
      rfl
    -- script[k % len(script)] + k // len(script) * 104729
    refine ⟨_, rfl, _, rfl, _, rfl, _, ns.length, rfl, .inl ⟨_, s1.seq hS, el.symm⟩, ?_⟩
    refine ⟨_, _, rfl, rfl, by omega, .inl ⟨a, _, _, _, rfl, rfl, s1.seq hS, ix, ?_⟩⟩
    refine ⟨_, rfl, _, rfl, _, ns.length, rfl, .inl ⟨_, s1.seq hS, el.symm⟩, ?_⟩
    refine ⟨_, _, rfl, rfl, ⟨by omega, ?_⟩, .inl ⟨_, _, rfl, rfl, .inr ⟨by decide, by decide⟩, .inl ⟨_, _, rfl, rfl, ?_⟩⟩⟩
    · have : (ns.length : Int).natAbs = ns.length := by omega
      rw [this]
      exact Nat.lt_of_le_of_lt (Nat.log2_le_self _) (by omega)
    · have e : cellOf ns k = ns.getD (k % ns.length) 0 + (k : Int) / (ns.length : Int) * 104729 := by
        unfold cellOf
        rw [if_neg he, ed]
      have q := q _ s1
      rw [e] at q
      exact q
/-- _law_cell(script, k) -/
theorem dv_lawcell {R : Hp → Hp → Prop} [ROk R] {F : List Addr} {σ : L2.St} {H : Hp} {tb : TE} {E : XK} {i : Nat} {a : Addr} {ns : List Int} {k : Nat} (h : σ[i]? = some (some (.ref a))) (hs : SqL K H a (ns.map V.int)) (hb : DV R K F tb σ H (.int (k : Int))) (hk : k ≤ 63) (hn : ns.length ≤ 63) :
    DV R K F (tCall (spLCell K) [] E (tCons (tVar i) (tCons tb tNil))) σ H (.int (cellOf ns k)) := fun H1 r1 f1 Q q => by
  refine ⟨_, h, hb H1 r1 f1 _ fun v H2 r2 g => ?_⟩
  have g : v = .int (k : Int) := g
  subst g
  exact ⟨a, ns, k, rfl, xt_sqL (ROk.ext (ROk.trans r1 r2)) hs, hk, hn, fun H3 s3 => q _ H3 (ROk.trans r2 (ROk.same s3)) rfl⟩
end
end Sc

namespace Sc
open PySem PySem.Spec PyProof.Rows L2
/-! ### what laws draw -/
def g_law_drawn : List PyData → Option PyData
  | [.int c, .int k] => some (.int (drawn c k))
  | _ => none
theorem g_law_drawn_ok (ps : List PyData) (d : PyData) (h : g_law_drawn ps = some d) : A_law_drawn ps d ∧ ps.length = 2 := by
  unfold g_law_drawn at h
  split at h
  · cases h
    exact ⟨⟨_, _, rfl, rfl⟩, rfl⟩
  · cases h
theorem drawn_run (c k : Int) : oldF g_law_drawn [.int c, .int k] = ret (.int (drawn c k)) := rfl
def lcellM (o d : D) : M D := match o, d with
  | .scr ns, .int k => if 0 ≤ k ∧ k ≤ 63 ∧ ns.length ≤ 63 then ret (.int (cellOf ns k.toNat)) else opt .none
  | _, _ => opt .none
section
variable {P : Program} {w : World} {K : PySem.W.Frag} {mg : Str → Option Value} {base : Heap} {Ts : List (Addr × Str)}
theorem sm_lcell {E : XK} {ta tb : TE} {φa φb : En → M D} (ha : SE K Ts E ta φa) (hb : SE K Ts E tb φb) : SE K Ts E (tCall (spLCell K) [] E (tCons ta (tCons tb tNil))) (fun e => bnd (φa e) fun o => bnd (φb e) fun d => lcellM o d) := fun s e σ r h' rl er eq Q po =>
  ha.thn rl er eq po fun t o x ev rlt ert hx eq2 po2 => hb.thn rlt ert eq2 po2 fun u d y ev2 rlu eru hy eq3 po3 => by
    replace hx := hx.mono rlt ev2.toLt
    unfold lcellM at eq3
    split at eq3
    · next ns k =>
      split at eq3
      · next hk =>
        obtain ⟨rfl, rfl⟩ := ret_some eq3
        obtain ⟨a, rfl, hs⟩ := scr_sq hx
        have hy : y = .int k := hy
        subst hy
        show spLCell K [.ref a, .int k] u.H Q E
        refine ⟨a, ns, k.toNat, by rw [show ((k.toNat : Nat) : Int) = k by omega], hs, by omega, hk.2.2, fun H' sm => ?_⟩
        obtain ⟨ev3, rl3⟩ := st_same rlu sm
        exact po3 { u with H := H' } _ rfl ev3 rl3 rfl
      · cases eq3
    · cases eq3
end
end Sc

namespace Sc
open PySem PySem.Spec PyProof.Rows L2
/-! ### pieces -/
theorem Beg.ones_app : ∀ (l m : List Nat) (b : Beg), b.ones (l ++ m) = b.ones l ++ (b.afters l).ones m
  | [], m, b => rfl
  | c :: l, m, b => by
    show b.readT c ++ (b.after c).ones (l ++ m) = b.readT c ++ (b.after c).ones l ++ _
    rw [Beg.ones_app l m, List.append_assoc]
    rfl
theorem Beg.afters_app : ∀ (l m : List Nat) (b : Beg), b.afters (l ++ m) = (b.afters l).afters m
  | [], m, b => rfl
  | c :: l, m, b => Beg.afters_app l m (b.after c)
/-- what a screen does leaves the reader alone, and does not look at it -/
def Sr.rdr (s : Sr) (B : Beg) (k : Int) : Sr := { s with beg := B, lost := k }
theorem rdr_cutOff (s : Sr) (B : Beg) (k t : Int) : (s.rdr B k).cutOff t = (s.cutOff t).rdr B k := rfl
theorem rdr_roll (s : Sr) (B : Beg) (k t m : Int) : (s.rdr B k).roll t m = (s.roll t m).rdr B k := rfl
theorem rdr_rollDown (s : Sr) (B : Beg) (k t m : Int) : (s.rdr B k).rollDown t m = (s.rollDown t m).rdr B k := rfl
theorem rdr_stand (s : Sr) (B : Beg) (k t m : Int) : (s.rdr B k).stand t m = (s.stand t m).rdr B k := rfl
theorem rdr_down (s : Sr) (B : Beg) (k : Int) : (s.rdr B k).down = s.down.rdr B k := by
  show (if s.row = s.bottom then _ else _) = Sr.rdr (if s.row = s.bottom then _ else _) B k
  split
  · rfl
  · show (if s.row < s.high - 1 then _ else _) = Sr.rdr (if s.row < s.high - 1 then _ else _) B k
    split <;> rfl
theorem rdr_up (s : Sr) (B : Beg) (k : Int) : (s.rdr B k).up = s.up.rdr B k := by
  show (if s.row = s.top then _ else _) = Sr.rdr (if s.row = s.top then _ else _) B k
  split
  · rfl
  · show (if 0 < s.row then _ else _) = Sr.rdr (if 0 < s.row then _ else _) B k
    split <;> rfl
theorem rdr_put (s : Sr) (B : Beg) (k : Int) (c : Nat) : (s.rdr B k).put c = (s.put c).rdr B k := by
  have e1 : (s.rdr B k).wrap = s.wrap.rdr B k := by
    show (if s.full = true then _ else _) = Sr.rdr (if s.full = true then _ else _) B k
    split
    · have := rdr_down { s with rows := onAt s.rows s.row (decide (s.row = s.bottom) || decide (s.row < s.high - 1)) } B k
      show Sr.stand (Sr.down (Sr.rdr { s with rows := onAt s.rows s.row (decide (s.row = s.bottom) || decide (s.row < s.high - 1)) } B k)) (Sr.down (Sr.rdr { s with rows := onAt s.rows s.row (decide (s.row = s.bottom) || decide (s.row < s.high - 1)) } B k)).row 0 = _
      rw [this]
      rfl
    · rfl
  have e2 : ∀ t : Sr, (t.rdr B k).put1 c = (t.put1 c).rdr B k := fun _ => rfl
  have e3 : ∀ t : Sr, (t.rdr B k).step = t.step.rdr B k := fun t => by
    show (if t.col = t.wide - 1 then _ else _) = Sr.rdr (if t.col = t.wide - 1 then _ else _) B k
    split <;> rfl
  unfold Sr.put
  rw [e1, e2, e3]
theorem ite_rdr {p : Prop} [Decidable p] {a b a' b' : Sr} {B : Beg} {k : Int} (h1 : a = a'.rdr B k) (h2 : b = b'.rdr B k) : (if p then a else b) = Sr.rdr (if p then a' else b') B k := by
  split
  · exact h1
  · exact h2
theorem rdr_erase (s : Sr) (B : Beg) (k : Int) (c : Nat) : (s.rdr B k).erase c = (s.erase c).rdr B k := by
  have e1 : (s.rdr B k).erased c = (s.erased c).rdr B k := by
    unfold Sr.erased
    split
    · rfl
    · split
      · rfl
      · split <;> rfl
  unfold Sr.erase
  rw [e1]
  split <;> rfl
theorem rdr_shift (s : Sr) (B : Beg) (k : Int) (c : Nat) (m : Int) : (s.rdr B k).shift c m = (s.shift c m).rdr B k := rfl
theorem rdr_small (s : Sr) (B : Beg) (k : Int) (c : Nat) : (s.rdr B k).small c = (s.small c).rdr B k := by
  unfold Sr.small
  rw [rdr_down, rdr_up, rdr_erase]
  exact ite_rdr rfl (ite_rdr rfl (ite_rdr rfl (ite_rdr rfl (ite_rdr rfl (ite_rdr rfl (ite_rdr rfl (ite_rdr rfl (ite_rdr rfl (ite_rdr rfl (ite_rdr rfl rfl))))))))))
theorem rdr_puts (B : Beg) (k : Int) (c : Nat) : ∀ (m : Nat) (s : Sr), (s.rdr B k).puts c m = (s.puts c m).rdr B k
  | 0, s => rfl
  | m + 1, s => by
    show Sr.puts c m ((s.rdr B k).put c) = _
    rw [rdr_put, rdr_puts B k c m]
    rfl
theorem rdr_one (s : Sr) (B : Beg) (k : Int) (c : Nat) (n : Int) : (s.rdr B k).one c n = (s.one c n).rdr B k := by
  unfold Sr.one
  refine ite_rdr (ite_rdr rfl rfl) (ite_rdr (ite_rdr rfl rfl) (ite_rdr (ite_rdr rfl rfl) (ite_rdr rfl (ite_rdr (p := c = 68 ∧ s.top ≤ s.row ∧ s.row ≤ s.bottom) rfl (ite_rdr (p := c = 78 ∧ s.top ≤ s.row ∧ s.row ≤ s.bottom) rfl (ite_rdr ?_ rfl))))))
  show (match s.last with | some l => (s.rdr B k).puts l _ | none => _) = _
  cases s.last with
  | none => rfl
  | some l => exact rdr_puts B k l _ s
theorem rdr_great (s : Sr) (B : Beg) (k : Int) (c : Nat) (ns : List Int) : (s.rdr B k).great c ns = (s.great c ns).rdr B k := by
  unfold Sr.great
  split
  · exact rdr_one s B k c _
  · next a b => exact ite_rdr rfl (ite_rdr (p := c = 82 ∧ a < b ∧ b < s.high) rfl rfl)
  · rfl
theorem rdr_do (s : Sr) (B : Beg) (k : Int) (o : One) : (s.rdr B k).do o = (s.do o).rdr B k := by
  cases o with
  | sign c => exact rdr_put s B k c
  | endl =>
    show Sr.stand (Sr.down (s.rdr B k)) (Sr.down (s.rdr B k)).row 0 = _
    rw [rdr_down]
    rfl
  | small c => exact rdr_small s B k c
  | great c ns => exact rdr_great s B k c ns
theorem rdr_fold (B : Beg) (k : Int) : ∀ (l : List One) (s : Sr), l.foldl Sr.do (s.rdr B k) = (l.foldl Sr.do s).rdr B k
  | [], s => rfl
  | o :: l, s => by
    show l.foldl Sr.do ((s.rdr B k).do o) = _
    rw [rdr_do, rdr_fold B k l]
    rfl
theorem Sr.feed_eq (s : Sr) (cs : List Nat) : s.feed cs = ((s.beg.ones cs).foldl Sr.do s).rdr (s.beg.afters cs) (s.beg.feed s.lost cs).2.1 := rdr_fold _ _ _ _
theorem Sr.feed_app (s : Sr) (a b : List Nat) : (s.feed a).feed b = s.feed (a ++ b) := by
  rw [Sr.feed_eq (s.feed a) b, Sr.feed_eq s (a ++ b), Beg.ones_app, List.foldl_append, Beg.afters_app, Beg.feed_app, Beg.afters_eq]
  have e1 : (s.feed a).beg = s.beg.afters a := by rw [Sr.feed_eq]; rfl
  have e2 : (s.feed a).lost = (s.beg.feed s.lost a).2.1 := by rw [Sr.feed_eq]; rfl
  rw [e1, e2, Sr.feed_eq s a, rdr_fold]
  simp only [Beg.afters_eq]
  rfl
theorem Sr.feed_nil (s : Sr) : s.feed [] = s := rfl
end Sc

namespace Sc
open PySem PySem.Spec PyProof.Rows L2
/-! ### screens side by side -/
theorem mem_rids {l : List RowI} {x : Nat} (h : x ∈ rids l) : ∃ r ∈ l, x = r.id ∨ x = r.cid := by
  rcases List.mem_append.mp h with z | z
  · obtain ⟨r, hr, rfl⟩ := List.mem_map.mp z
    exact ⟨r, hr, .inl rfl⟩
  · obtain ⟨r, hr, rfl⟩ := List.mem_map.mp z
    exact ⟨r, hr, .inr rfl⟩
theorem ScAt.lt {h : MH} {n : Nat} {S : ScI} (a : ScAt h n S) : ∀ x ∈ ids n S, x < h.length := fun x hx => by
  rcases List.mem_cons.mp hx with rfl | hx
  · exact lt_of_get a.o
  rcases List.mem_cons.mp hx with rfl | hx
  · exact lt_of_get a.rd
  obtain ⟨r, hr, rfl | rfl⟩ := mem_rids hx
  · exact lt_of_get (a.rows r hr).1
  · exact lt_of_get (a.rows r hr).2
theorem ids_row {n : Nat} {S : ScI} {r : RowI} (h : r ∈ S.past ++ S.rows) : r.id ∈ ids n S ∧ r.cid ∈ ids n S :=
  ⟨List.mem_cons_of_mem _ (List.mem_cons_of_mem _ (List.mem_append_left _ (List.mem_map.mpr ⟨r, h, rfl⟩))), List.mem_cons_of_mem _ (List.mem_cons_of_mem _ (List.mem_append_right _ (List.mem_map.mpr ⟨r, h, rfl⟩)))⟩
/-- what stands outside stays -/
theorem ScAt.frame {h h' : MH} {m : Nat} {T : ScI} {X X' : List Nat} (a : ScAt h m T) (f : Fr h X h' X') (hd : ∀ x ∈ ids m T, x ∉ X) : ScAt h' m T ∧ ∀ x ∈ ids m T, x ∉ X' := by
  have keep : ∀ x ∈ ids m T, h'[x]? = h[x]? := fun x hx => f.off x (a.lt x hx) (hd x hx)
  refine ⟨⟨?_, ?_, a.ok, fun r hr => ?_, a.ndi, a.ndc⟩, fun x hx hx' => ?_⟩
  · rw [keep m List.mem_cons_self]; exact a.o
  · rw [keep T.rid (List.mem_cons_of_mem _ List.mem_cons_self)]; exact a.rd
  · rw [keep _ (ids_row hr).1, keep _ (ids_row hr).2]; exact a.rows r hr
  · rcases f.new x hx' with z | z
    · exact hd x hx z
    · have := a.lt x hx
      omega
theorem Fr.out {h h' : MH} {X X' : List Nat} (f : Fr h X h' X') (hd : ∀ x ∈ X, h.length ≤ x) : ∀ x ∈ X', h.length ≤ x := fun x hx => (f.new x hx).elim (hd x) id
def Two (h : MH) (n m : Nat) (s t : Sr) : Prop := ∃ S T, ScAt h n S ∧ ScAt h m T ∧ S.v = s ∧ T.v = t ∧ (∀ x ∈ ids m T, x ∉ ids n S)
theorem Two.swap {h : MH} {n m : Nat} {s t : Sr} (a : Two h n m s t) : Two h m n t s := by
  obtain ⟨S, T, a1, a2, a3, a4, a5⟩ := a
  exact ⟨T, S, a2, a1, a4, a3, fun x hx z => a5 x z hx⟩
/-- the first one does something -/
theorem Two.does {h : MH} {n m : Nat} {s t : Sr} {F : List D → M D} {args : List D} {f : Sr → Sr} (d : Does F args f) (a : Two h n m s t) (ok : s.ok) : ∃ h', F (.ref n :: args) h = some (.ok .none, h') ∧ Two h' n m (f s) t := by
  obtain ⟨S, T, a1, a2, rfl, rfl, a5⟩ := a
  obtain ⟨h', S', e1, b1, v1, f1⟩ := d h n S a1 ok
  obtain ⟨b2, b3⟩ := a2.frame f1 a5
  exact ⟨h', e1, S', T, b1, b2, v1, rfl, b3⟩
/-- two new screens -/
theorem two_new {w hh mo w' hh' mo' : Int} (k : newOk w hh mo) (k' : newOk w' hh' mo') (h : MH) : ∃ h1 h2, F_Screen___init__ [.ref h.length, .int w, .int hh, .int mo] (h ++ [.ins "Screen" []]) = some (.ok .none, h1) ∧
    F_Screen___init__ [.ref h1.length, .int w', .int hh', .int mo'] (h1 ++ [.ins "Screen" []]) = some (.ok .none, h2) ∧ Two h2 h.length h1.length (Sr.new w hh mo) (Sr.new w' hh' mo') := by
  obtain ⟨h1, S, e1, a1, v1, f1⟩ := run_Screen___init__.1 w hh mo (h ++ [.ins "Screen" []]) h.length k (get_last1 h _)
  obtain ⟨h2, T, e2, a2, v2, f2⟩ := run_Screen___init__.1 w' hh' mo' (h1 ++ [.ins "Screen" []]) h1.length k' (get_last1 h1 _)
  have a1' : ScAt (h1 ++ [.ins "Screen" []]) h.length S := ⟨get_app a1.o, get_app a1.rd, a1.ok, fun r hr => ⟨get_app (a1.rows r hr).1, get_app (a1.rows r hr).2⟩, a1.ndi, a1.ndc⟩
  obtain ⟨b1, b2⟩ := a1'.frame f2 fun x hx z => by
    have := a1.lt x hx
    rw [List.mem_singleton.mp z] at this
    omega
  exact ⟨h1, h2, e1, e2, S, T, b1, a2, v1, v2, fun x hx z => b2 x z hx⟩
end Sc

namespace Sc
open PySem PySem.Spec PyProof.Rows L2
theorem mkS_cps (l : List Nat) : (mkS l).cps.toList = l := rfl
theorem cut_take {l : List Nat} {n : Nat} : cutS (mkS l) none (some (n : Int)) = mkS (l.take n) := by
  unfold cutS
  rw [HT.sIx_none, HT.sIx_nat, mkS_len]
  show mkS _ = mkS _
  congr 1
  rw [List.drop_zero, Nat.sub_zero, Nat.min_comm, ← List.take_take, mkS_cps, List.take_of_length_le]
  rw [List.length_take]
  omega
theorem cut_drop {l : List Nat} {n : Nat} : cutS (mkS l) (some (n : Int)) none = mkS (l.drop n) := by
  unfold cutS
  rw [HT.sIx_none, HT.sIx_nat, mkS_len]
  show mkS _ = mkS _
  congr 1
  rw [List.take_of_length_le (by rw [List.length_drop]; exact Nat.le_refl _)]
  by_cases h : n ≤ l.length
  · rw [Nat.min_eq_left h]
  · rw [Nat.min_eq_right (by omega), List.drop_length, List.drop_of_length_le (by omega)]
theorem text_sm {l : List Nat} (h : l.length ≤ 4000) : textSm (.str (mkS l)) := by
  show (mkS l).length ≤ sizeLine
  rw [mkS_len]
  exact le_sz' (by omega)
end Sc

namespace Sc
open PySem PySem.Spec PyProof.Rows L2
/-! ### what a screen shows -/
def Sr.pageD (s : Sr) : D := .list (s.rows.map fun r => .list (r.cells.map Cl.d))
def Sr.textsD (s : Sr) : D := .list (s.rows.map fun r => .str (rowTx r.cells))
def Sr.keptD (s : Sr) : D := .list (s.past.map fun r => .str (rowTx r.cells))
def Sr.cursorD (s : Sr) : D := .tuple [.int s.row, .int s.col, .bool s.full]
def Sr.stateD (s : Sr) : D := .tuple [s.pen.d, .tuple [.int s.top, .int s.bottom]]
def Sr.sizeD (s : Sr) : D := .tuple [.int s.wide, .int s.high]
section
variable {h : MH} {n : Nat} {S : ScI}
theorem rows_le (k : S.v.ok) : S.rows.length ≤ 1000 ∧ S.past.length ≤ 1000 ∧ (∀ r ∈ S.rows, r.cells.length ≤ 1000) ∧ ∀ r ∈ S.past, r.cells.length ≤ 1000 := by
  have h1 := k.rl
  have h2 := k.h40
  have h3 := k.pl
  have h4 := k.m200
  have h5 := k.w60
  have e1 : S.v.rows.length = S.rows.length := List.length_map ..
  have e2 : S.v.past.length = S.past.length := List.length_map ..
  refine ⟨by omega, by omega, fun r hr => ?_, fun r hr => ?_⟩
  · have : (r.cells.length : Int) = S.v.wide := k.rc r.v (List.mem_map.mpr ⟨r, hr, rfl⟩)
    omega
  · have : (r.cells.length : Int) = S.v.wide := k.pc r.v (List.mem_map.mpr ⟨r, hr, rfl⟩)
    omega
theorem obs_page (a : ScAt h n S) (k : S.v.ok) : F_Screen_page [.ref n] h = some (.ok S.v.pageD, h) := by
  rw [run_Screen_page h n S a (rows_le k).1]
  unfold Sr.pageD
  show _ = some (Except.ok (D.list ((S.rows.map RowI.v).map _)), h)
  rw [List.map_map]
  rfl
theorem obs_texts (a : ScAt h n S) (k : S.v.ok) : F_Screen_texts [.ref n] h = some (.ok S.v.textsD, h) := by
  rw [run_Screen_texts h n S a (rows_le k).1 (rows_le k).2.2.1]
  unfold Sr.textsD
  show _ = some (Except.ok (D.list ((S.rows.map RowI.v).map _)), h)
  rw [List.map_map]
  rfl
theorem obs_kept (a : ScAt h n S) (k : S.v.ok) : F_Screen_kept [.ref n] h = some (.ok S.v.keptD, h) := by
  rw [run_Screen_kept h n S a (rows_le k).2.1 (rows_le k).2.2.2]
  unfold Sr.keptD
  show _ = some (Except.ok (D.list ((S.past.map RowI.v).map _)), h)
  rw [List.map_map]
  rfl
theorem obs_cursor (a : ScAt h n S) : F_Screen_cursor [.ref n] h = some (.ok S.v.cursorD, h) := run_Screen_cursor h n S a.o
theorem obs_size (a : ScAt h n S) : F_Screen_size [.ref n] h = some (.ok S.v.sizeD, h) := run_Screen_size h n S a.o
end
/-! it equals itself -/
abbrev uni (c : Nat) : Prop := c < 1114112
theorem sd_one {c : Nat} (h : uni c) {k : Nat} : Sd (.str ⟨#[c]⟩) k := Sd.str fun x hx => by
  have : x = c := by simpa using hx
  rw [this]; exact h
theorem sd_pen (p : Pn) : Sd p.d 1 := Sd.tuple (.cons (Sd.int _) (.cons (Sd.int _) (.cons (Sd.int _) .nil)))
theorem sd_cell {c : Cl} (h : uni c.s) : Sd c.d 2 := Sd.tuple (.cons (sd_one h) (.cons (sd_pen c.p) .nil))
theorem sd_page {s : Sr} (k : s.has uni) : Sd s.pageD 4 := Sd.list (SdL.map fun r hr => Sd.list (SdL.map fun c hc => sd_cell (k.rows r hr c hc)))
theorem sd_cursor (s : Sr) : Sd s.cursorD 1 := Sd.tuple (.cons (Sd.int _) (.cons (Sd.int _) (.cons (Sd.bool _) .nil)))
theorem sd_state (s : Sr) : Sd s.stateD 2 := Sd.tuple (.cons (sd_pen s.pen) (.cons (Sd.tuple (.cons (Sd.int _) (.cons (Sd.int _) .nil))) .nil))
theorem sd_size (s : Sr) : Sd s.sizeD 1 := Sd.tuple (.cons (Sd.int _) (.cons (Sd.int _) .nil))
theorem glue_mem {c : Nat} : ∀ (rest : List Str) (acc : Array Nat), c ∈ (rest.foldl (fun acc p => acc ++ ("" : Str).cps ++ p.cps) acc).toList → c ∈ acc.toList ∨ ∃ p ∈ rest, c ∈ p.cps.toList
  | [], acc, h => .inl h
  | p :: rest, acc, h => by
    rcases glue_mem rest _ h with z | ⟨q, hq, z⟩
    · rw [Array.toList_append, Array.toList_append] at z
      rcases List.mem_append.mp z with z | z
      · rcases List.mem_append.mp z with z | z
        · exact .inl z
        · exact absurd z (by show ¬ c ∈ (("" : Str).cps.toList); intro z; cases z)
      · exact .inr ⟨p, List.mem_cons_self, z⟩
    · exact .inr ⟨q, List.mem_cons_of_mem _ hq, z⟩
theorem join_mem {c : Nat} : ∀ {ps : List Str}, c ∈ (Txt.join "" ps).cps.toList → ∃ p ∈ ps, c ∈ p.cps.toList
  | [], h => by cases h
  | p :: rest, h => by
    rcases glue_mem rest p.cps h with z | ⟨q, hq, z⟩
    · exact ⟨p, List.mem_cons_self, z⟩
    · exact ⟨q, List.mem_cons_of_mem _ hq, z⟩
theorem rowTx_mem {cs : List Cl} {c : Nat} (hc : c ∈ (rowTx cs).cps.toList) : ∃ x ∈ cs, c = x.s := by
  unfold rowTx at hc
  obtain ⟨j, _, e⟩ := rstripChars_is_prefix (Txt.join "" (cs.map fun c => ⟨#[c.s]⟩)) " "
  rw [e] at hc
  unfold PySem.Builtin.Str.strSub at hc
  replace hc := List.mem_of_mem_drop (List.mem_of_mem_take (by rw [Array.toList_extract] at hc; exact hc))
  obtain ⟨p, hp, z⟩ := join_mem hc
  obtain ⟨x, hx, rfl⟩ := List.mem_map.mp hp
  exact ⟨x, hx, by simpa using z⟩
theorem rowTx_uni {cs : List Cl} (h : cellsIn uni cs) : ∀ c ∈ (rowTx cs).cps.toList, uni c := fun c hc => by
  obtain ⟨x, hx, rfl⟩ := rowTx_mem hc
  exact h x hx
theorem sd_texts {s : Sr} (k : s.has uni) : Sd s.textsD 1 := Sd.list (SdL.map fun r hr => Sd.str (rowTx_uni (k.rows r hr)))
theorem sd_kept {s : Sr} (k : s.has uni) : Sd s.keptD 1 := Sd.list (SdL.map fun r hr => Sd.str (rowTx_uni (k.past r hr)))
end Sc

namespace Sc
open PySem PySem.Spec PyProof.Rows L2
/-! ### screens in use -/
abbrev sgs (l : List Nat) : Prop := ∀ c ∈ l, isSign c = true
theorem sgs.app {l m : List Nat} (a : sgs l) (b : sgs m) : sgs (l ++ m) := fun c h => (List.mem_append.mp h).elim (a c) (b c)
theorem sgs.take {l : List Nat} (a : sgs l) (n : Nat) : sgs (l.take n) := fun c h => a c (List.mem_of_mem_take h)
theorem sgs.drop {l : List Nat} (a : sgs l) (n : Nat) : sgs (l.drop n) := fun c h => a c (List.mem_of_mem_drop h)
theorem sgs.nil : sgs [] := fun c h => nomatch h
theorem sign_uni {c : Nat} (h : isSign c = true) : uni c := by
  unfold isSign at h
  simp only [Bool.or_eq_true, Bool.and_eq_true, decide_eq_true_eq] at h
  show c < 1114112
  omega
theorem text_is {l : List Nat} (hl : l.length ≤ 4000) (hs : sgs l) : isText (.str (mkS l)) = true := by
  show (decide ((mkS l).length ≤ 4000) && l.all isSign) = true
  rw [mkS_len, decide_eq_true hl, List.all_eq_true.mpr hs]
  rfl
/-- a good one -/
structure Gd (s : Sr) : Prop where
  ok : s.ok
  un : s.has uni
theorem Gd.new {w h m : Int} (k : newOk w h m) : Gd (Sr.new w h m) := ⟨k.ok, Sr.has.new (by decide) w h m⟩
theorem Gd.feed {s : Sr} (g : Gd s) (hb : s.beg.ok) {l : List Nat} (hs : sgs l) : Gd (s.feed l) := ⟨g.ok.feed hb l, g.un.feed (by decide) fun c hc => sign_uni (hs c hc)⟩
/-- one screen -/
def Scr (h : MH) (n : Nat) (s : Sr) : Prop := Gd s ∧ ∃ S, ScAt h n S ∧ S.v = s
def Sc2 (h : MH) (n m : Nat) (s t : Sr) : Prop := Gd s ∧ Gd t ∧ Two h n m s t
theorem Sc2.swap {h : MH} {n m : Nat} {s t : Sr} (a : Sc2 h n m s t) : Sc2 h m n t s := ⟨a.2.1, a.1, a.2.2.swap⟩
theorem Sc2.one {h : MH} {n m : Nat} {s t : Sr} (a : Sc2 h n m s t) : Scr h n s := by
  obtain ⟨g1, g2, S, T, a1, a2, a3, a4, a5⟩ := a
  exact ⟨g1, S, a1, a3⟩
theorem Scr.bg {h : MH} {n : Nat} {s : Sr} (a : Scr h n s) : s.beg.ok := by
  obtain ⟨g, S, a1, rfl⟩ := a
  exact a1.ok
theorem Scr.o {h : MH} {n : Nat} {s : Sr} (a : Scr h n s) : ∃ S : ScI, h[n]? = some (scO S) := by
  obtain ⟨g, S, a1, rfl⟩ := a
  exact ⟨S, a1.o⟩
theorem Sc2.feed {h : MH} {n m : Nat} {s t : Sr} (a : Sc2 h n m s t) {l : List Nat} (hl : l.length ≤ 4000) (hs : sgs l) : ∃ h', F_Screen_feed [.ref n, .str (mkS l)] h = some (.ok .none, h') ∧ Sc2 h' n m (s.feed l) t := by
  have hb := a.one.bg
  obtain ⟨g1, g2, tw⟩ := a
  obtain ⟨h', e, tw'⟩ := tw.does (run_Screen_feed.1 (mkS l) (text_is hl hs)) g1.ok
  exact ⟨h', e, g1.feed hb hs, g2, tw'⟩
theorem Scr.feed {h : MH} {n : Nat} {s : Sr} (a : Scr h n s) {l : List Nat} (hl : l.length ≤ 4000) (hs : sgs l) : ∃ h', F_Screen_feed [.ref n, .str (mkS l)] h = some (.ok .none, h') ∧ Scr h' n (s.feed l) := by
  have hb := a.bg
  obtain ⟨g, S, a1, rfl⟩ := a
  obtain ⟨h', S', e, a2, v, _⟩ := run_Screen_feed.1 (mkS l) (text_is hl hs) h n S a1 g.ok
  exact ⟨h', e, g.feed hb hs, S', a2, v⟩
section
variable {h : MH} {n : Nat} {s : Sr} (a : Scr h n s)
include a
theorem Scr.page : F_Screen_page [.ref n] h = some (.ok s.pageD, h) := by
  obtain ⟨g, S, a1, rfl⟩ := a
  exact obs_page a1 g.ok
theorem Scr.texts : F_Screen_texts [.ref n] h = some (.ok s.textsD, h) := by
  obtain ⟨g, S, a1, rfl⟩ := a
  exact obs_texts a1 g.ok
theorem Scr.kept : F_Screen_kept [.ref n] h = some (.ok s.keptD, h) := by
  obtain ⟨g, S, a1, rfl⟩ := a
  exact obs_kept a1 g.ok
theorem Scr.cursor : F_Screen_cursor [.ref n] h = some (.ok s.cursorD, h) := by
  obtain ⟨g, S, a1, rfl⟩ := a
  exact obs_cursor a1
theorem Scr.size : F_Screen_size [.ref n] h = some (.ok s.sizeD, h) := by
  obtain ⟨g, S, a1, rfl⟩ := a
  exact obs_size a1
end
theorem sc_new {w hh mo : Int} (k : newOk w hh mo) (h : MH) : ∃ h1, F_Screen___init__ [.ref h.length, .int w, .int hh, .int mo] (h ++ [.ins "Screen" []]) = some (.ok .none, h1) ∧ Scr h1 h.length (Sr.new w hh mo) := by
  obtain ⟨h1, S, e1, a1, v1, _⟩ := run_Screen___init__.1 w hh mo (h ++ [.ins "Screen" []]) h.length k (get_last1 h _)
  exact ⟨h1, e1, Gd.new k, S, a1, v1⟩
theorem sc2_new {w hh mo w' hh' mo' : Int} (k : newOk w hh mo) (k' : newOk w' hh' mo') (h : MH) : ∃ h1 h2, F_Screen___init__ [.ref h.length, .int w, .int hh, .int mo] (h ++ [.ins "Screen" []]) = some (.ok .none, h1) ∧
    F_Screen___init__ [.ref h1.length, .int w', .int hh', .int mo'] (h1 ++ [.ins "Screen" []]) = some (.ok .none, h2) ∧ Sc2 h2 h.length h1.length (Sr.new w hh mo) (Sr.new w' hh' mo') := by
  obtain ⟨h1, h2, e1, e2, t⟩ := two_new k k' h
  exact ⟨h1, h2, e1, e2, Gd.new k, Gd.new k', t⟩
/-! what is told of a screen, all of it -/
theorem sd_all {s : Sr} (g : Gd s) : Sd (.tuple [s.pageD, s.cursorD, s.keptD, s.stateD]) 5 :=
  Sd.tuple (.cons ((sd_page g.un).mono (by omega)) (.cons ((sd_cursor s).mono (by omega)) (.cons ((sd_kept g.un).mono (by omega)) (.cons ((sd_state s).mono (by omega)) .nil))))
theorem lcell_run {ns : List Int} (hlen : ns.length ≤ 63) {k : Nat} (hk : k ≤ 63) : lcellM (.scr ns) (.int (k : Int)) = ret (.int (cellOf ns k)) := by
  show (if 0 ≤ (k : Int) ∧ (k : Int) ≤ 63 ∧ ns.length ≤ 63 then _ else _) = _
  rw [if_pos ⟨by omega, by omega, hlen⟩]
  rfl
theorem drawn_is (c k : Int) : ∃ m, oldF g_law_drawn [.int c, .int k] = ret (.int m) := ⟨_, drawn_run c k⟩
end Sc

namespace Sc
open PySem PySem.Spec PyProof.Rows L2
/-! ### whole rows of ones -/
def One.kd : One → Prop
  | .small c => isSmall c = true
  | .great c _ => isGreat c = true
  | _ => True
theorem One.good.kd {o : One} (h : o.good) : o.kd := by
  cases o with
  | sign c => trivial
  | endl => trivial
  | small c => exact h
  | great c ns => exact h.1
theorem One.ok.kd {o : One} (h : o.ok) : o.kd := by
  cases o with
  | sign c => trivial
  | endl => trivial
  | small c => exact h
  | great c ns => exact h.1
theorem One.d_inj2 {a b : One} (ha : a.kd) (hb : b.kd) (h : a.d = b.d) : a = b := by
  have intsE : ∀ {l m : List Int}, l.map PyData.int = m.map PyData.int → l = m := fun {l m} z => (List.map_inj_right (fun x y e => by cases e; rfl)).mp z
  have sg : ∀ {c : Nat}, isSmall c = true → isGreat c = true → False := fun {c} h1 h2 => by
    unfold isSmall at h1
    unfold isGreat at h2
    simp only [Bool.and_eq_true, decide_eq_true_eq] at h1 h2
    omega
  cases a with
  | sign c => cases b with
    | sign e => simp [One.d, tSign] at h; rw [h]
    | endl => simp [One.d, tSign, tEnd] at h
    | small e => simp [One.d, tSign, tDo] at h
    | great e ns => simp [One.d, tSign, tDo] at h
  | endl => cases b with
    | sign e => simp [One.d, tSign, tEnd] at h
    | endl => rfl
    | small e => simp [One.d, tEnd, tDo] at h
    | great e ns => simp [One.d, tEnd, tDo] at h
  | small c => cases b with
    | sign e => simp [One.d, tSign, tDo] at h
    | endl => simp [One.d, tEnd, tDo] at h
    | small e => simp [One.d, tDo] at h; rw [h]
    | great e ns =>
      simp [One.d, tDo] at h
      exact (sg ha (by rw [h.1]; exact hb)).elim
  | great c ns => cases b with
    | sign e => simp [One.d, tSign, tDo] at h
    | endl => simp [One.d, tEnd, tDo] at h
    | small e =>
      simp [One.d, tDo] at h
      exact (sg hb (by rw [← h.1]; exact ha)).elim
    | great e ms =>
      simp only [One.d, tDo, PyData.tuple.injEq, List.cons.injEq, true_and, and_true, PyData.str.injEq] at h
      obtain ⟨h1, h2⟩ := h
      have h1 : c = e := by simpa using h1
      rw [h1, intsE h2]
theorem ones_inj2 : ∀ {r s : List One}, (∀ o ∈ r, o.kd) → (∀ o ∈ s, o.kd) → r.map One.d = s.map One.d → r = s
  | [], [], _, _, _ => rfl
  | [], _ :: _, _, _, h => by cases h
  | _ :: _, [], _, _, h => by cases h
  | a :: r, b :: s, h1, h2, h => by
    rw [List.map_cons, List.map_cons, List.cons.injEq] at h
    rw [One.d_inj2 (h1 a List.mem_cons_self) (h2 b List.mem_cons_self) h.1, ones_inj2 (fun x hx => h1 x (List.mem_cons_of_mem _ hx)) (fun x hx => h2 x (List.mem_cons_of_mem _ hx)) h.2]
theorem ones_row {r : List One} (h : ∀ o ∈ r, o.ok) : Beg.no.ones (rowT r) = r := by
  refine ones_inj2 (fun o ho => (Beg.ones_good (rowT r) (b := .no) trivial o ho).kd) (fun o ho => (h o ho).kd) ?_
  rw [← Beg.ones_d _ _ 0, feed_row h]
theorem fold_rdr (r : List One) (s : Sr) : (r.foldl Sr.do s).beg = s.beg ∧ (r.foldl Sr.do s).lost = s.lost := by
  have := rdr_fold s.beg s.lost r s
  have e : s.rdr s.beg s.lost = s := rfl
  rw [e] at this
  rw [this]
  exact ⟨rfl, rfl⟩
theorem feed_rowT {s : Sr} (hb : s.beg = .no) {r : List One} (h : ∀ o ∈ r, o.ok) : s.feed (rowT r) = r.foldl Sr.do s := by
  rw [Sr.feed_eq, hb, ones_row h, ← Beg.afters_eq (rowT r) .no s.lost, feed_row h]
  obtain ⟨e1, e2⟩ := fold_rdr r s
  rw [hb] at e1
  show { r.foldl Sr.do s with beg := .no, lost := s.lost } = _
  rw [← e1, ← e2]
/-! numbers -/
theorem num_tab : ∀ k ∈ List.range 100, (numS (k : Int)).all (fun c => decide (48 ≤ c) && decide (c ≤ 57)) = true ∧ (numS (k : Int)).length ≤ 4 ∧ numS (k : Int) ≠ [] ∧ ((NumText.digitsVal (numS (k : Int)) : Nat) : Int) = (k : Int) := by decide +kernel
theorem num_ok {n : Int} (h0 : 0 ≤ n) (h1 : n < 100) : NumOk n := by
  obtain ⟨k, rfl⟩ : ∃ k : Nat, n = (k : Int) := ⟨n.toNat, by omega⟩
  obtain ⟨a1, a2, a3, a4⟩ := num_tab k (List.mem_range.mpr (by omega))
  refine ⟨⟨fun c hc => ?_, a2⟩, a3, a4⟩
  have := List.all_eq_true.mp a1 c hc
  simpa using this
theorem num_9999 : NumOk 9999 := menu_ok (by decide)
theorem numS_str (n : Int) : Str.ofString (toString n) = mkS (numS n) := rfl
/-! ### texts of rows -/
def rtrim (l : List Nat) : List Nat := (l.reverse.dropWhile (fun c => c == 32)).reverse
theorem glue_eq : ∀ (rest : List Str) (acc : Array Nat), (rest.foldl (fun acc p => acc ++ ("" : Str).cps ++ p.cps) acc).toList = acc.toList ++ (rest.map fun p => p.cps.toList).flatten
  | [], acc => by simp
  | p :: rest, acc => by
    rw [List.foldl_cons, glue_eq rest, Array.toList_append, Array.toList_append]
    have : ("" : Str).cps.toList = [] := rfl
    rw [this, List.map_cons, List.flatten_cons, List.append_nil, List.append_assoc]
theorem join_eq (ps : List Str) : (Txt.join "" ps).cps.toList = (ps.map fun p => p.cps.toList).flatten := by
  cases ps with
  | nil => rfl
  | cons p rest =>
    have := glue_eq rest p.cps
    exact this
theorem strip_eq (l : List Nat) : Txt.rstripChars (mkS l) " " = mkS (rtrim l) := by
  have goes : ∀ c, ((" " : Str).cps.contains c) = (c == 32) := fun c => by
    have : (" " : Str).cps = #[32] := rfl
    rw [this]
    simp [Bool.beq_eq_decide_eq, eq_comm]
  have key : PySem.Builtin.Str.strSub (mkS l) 0 (l.length - (l.reverse.takeWhile fun c => c == 32).length) = mkS (rtrim l) := by
    unfold PySem.Builtin.Str.strSub rtrim
    show Str.mk _ = Str.mk _
    congr 1
    apply Array.ext'
    rw [Array.toList_extract]
    show (List.take _ (List.drop 0 l)) = _
    rw [List.drop_zero, Nat.sub_zero]
    have e := List.takeWhile_append_dropWhile (p := fun c => c == 32) (l := l.reverse)
    have e2 : l = (l.reverse.dropWhile fun c => c == 32).reverse ++ (l.reverse.takeWhile fun c => c == 32).reverse := by
      rw [← List.reverse_append, e, List.reverse_reverse]
    have hl : l.length - (l.reverse.takeWhile fun c => c == 32).length = (l.reverse.dropWhile fun c => c == 32).reverse.length := by
      have := congrArg List.length e
      rw [List.length_append, List.length_reverse] at this
      rw [List.length_reverse]
      omega
    rw [hl]
    conv => lhs; arg 2; rw [e2]
    rw [List.take_left]
  have hf : ((" " : Str).cps.contains) = fun c => c == 32 := funext goes
  unfold Txt.rstripChars Txt.stripBy
  rw [hf]
  split
  · next h =>
    unfold stripSame at h
    simp only [Bool.and_eq_true, beq_iff_eq] at h
    have h2 := h.2
    unfold stripHi stripLo at h2
    simp only [if_true, Bool.false_eq_true, if_false, List.drop_zero] at h2
    rw [← key]
    have e3 : l.length - (l.reverse.takeWhile fun c => c == 32).length = l.length := h2
    rw [e3]
    unfold PySem.Builtin.Str.strSub
    show Str.mk _ = Str.mk _
    congr 1
    apply Array.ext'
    rw [Array.toList_extract]
    show l = List.take (l.length - 0) (List.drop 0 l)
    rw [List.drop_zero, Nat.sub_zero, List.take_length]
  · rw [← key]
    rfl
theorem flat_one : ∀ cs : List Cl, (cs.map ((fun p : Str => p.cps.toList) ∘ fun c => (⟨#[c.s]⟩ : Str))).flatten = cs.map Cl.s
  | [] => rfl
  | c :: cs => by
    rw [List.map_cons, List.flatten_cons, flat_one cs]
    rfl
theorem rowTx_eq (cs : List Cl) : rowTx cs = mkS (rtrim (cs.map Cl.s)) := by
  unfold rowTx
  have e : Txt.join "" (cs.map fun c => (⟨#[c.s]⟩ : Str)) = mkS (cs.map Cl.s) := by
    show _ = Str.mk _
    have := join_eq (cs.map fun c => (⟨#[c.s]⟩ : Str))
    cases h : Txt.join "" (cs.map fun c => (⟨#[c.s]⟩ : Str)) with
    | mk cps =>
      rw [h] at this
      congr 1
      apply Array.ext'
      rw [this, List.map_map]
      exact flat_one cs
  rw [e, strip_eq]
theorem rtrim_mem {l : List Nat} {c : Nat} (h : c ∈ l) (hc : c ≠ 32) : c ∈ rtrim l := by
  unfold rtrim
  rw [List.mem_reverse]
  have e := List.takeWhile_append_dropWhile (p := fun c => c == 32) (l := l.reverse)
  have : c ∈ l.reverse := List.mem_reverse.mpr h
  rw [← e] at this
  rcases List.mem_append.mp this with z | z
  · have := List.all_eq_true.mp (List.all_takeWhile (p := fun c => c == 32) (l := l.reverse)) c z
    exact absurd (by simpa using this) hc
  · exact z
theorem rtrim_blank (n : Nat) : rtrim (List.replicate n 32) = [] := by
  unfold rtrim
  rw [List.reverse_replicate]
  induction n with
  | zero => rfl
  | succ n ih => rw [List.replicate_succ, List.dropWhile_cons]; exact ih
end Sc

namespace Sc
open PySem PySem.Spec PyProof.Rows L2
/-! ### sizes stay -/
structure Dm (a b : Sr) : Prop where
  w : a.wide = b.wide
  h : a.high = b.high
  m : a.most = b.most
theorem Dm.refl (s : Sr) : Dm s s := ⟨rfl, rfl, rfl⟩
theorem Dm.trans {a b c : Sr} (x : Dm a b) (y : Dm b c) : Dm a c := ⟨x.w.trans y.w, x.h.trans y.h, x.m.trans y.m⟩
theorem dm_ite {p : Prop} [Decidable p] {a b s : Sr} (h1 : Dm a s) (h2 : Dm b s) : Dm (if p then a else b) s := by
  split
  · exact h1
  · exact h2
theorem dm_down (s : Sr) : Dm s.down s := dm_ite ⟨rfl, rfl, rfl⟩ (dm_ite ⟨rfl, rfl, rfl⟩ (.refl s))
theorem dm_up (s : Sr) : Dm s.up s := dm_ite ⟨rfl, rfl, rfl⟩ (dm_ite ⟨rfl, rfl, rfl⟩ (.refl s))
theorem dm_stand {a s : Sr} (h : Dm a s) (r c : Int) : Dm (a.stand r c) s := ⟨h.w, h.h, h.m⟩
theorem dm_wrap (s : Sr) : Dm s.wrap s := by
  refine dm_ite ?_ (.refl s)
  have := dm_down { s with rows := onAt s.rows s.row (decide (s.row = s.bottom) || decide (s.row < s.high - 1)) }
  exact ⟨this.w, this.h, this.m⟩
theorem dm_step (s : Sr) : Dm s.step s := dm_ite ⟨rfl, rfl, rfl⟩ ⟨rfl, rfl, rfl⟩
theorem dm_put (s : Sr) (c : Nat) : Dm (s.put c) s := by
  have h1 := dm_step (s.wrap.put1 c)
  have h2 := dm_wrap s
  exact ⟨h1.w.trans h2.w, h1.h.trans h2.h, h1.m.trans h2.m⟩
theorem dm_puts (c : Nat) : ∀ (k : Nat) (s : Sr), Dm (s.puts c k) s
  | 0, s => .refl s
  | k + 1, s => (dm_puts c k (s.put c)).trans (dm_put s c)
theorem dm_erase (s : Sr) (c : Nat) : Dm (s.erase c) s := by
  have : Dm (s.erased c) s := dm_ite ⟨rfl, rfl, rfl⟩ (dm_ite ⟨rfl, rfl, rfl⟩ (dm_ite ⟨rfl, rfl, rfl⟩ ⟨rfl, rfl, rfl⟩))
  exact dm_ite ⟨this.w, this.h, this.m⟩ ⟨this.w, this.h, this.m⟩
theorem dm_small (s : Sr) (c : Nat) : Dm (s.small c) s := by
  unfold Sr.small
  exact dm_ite ⟨rfl, rfl, rfl⟩ (dm_ite ⟨rfl, rfl, rfl⟩ (dm_ite ⟨rfl, rfl, rfl⟩ (dm_ite ⟨rfl, rfl, rfl⟩ (dm_ite ⟨rfl, rfl, rfl⟩ (dm_ite (dm_stand (dm_down s) _ _) (dm_ite (dm_stand (dm_up s) _ _) (dm_ite (dm_erase s c) (dm_ite ⟨rfl, rfl, rfl⟩ (dm_ite ⟨rfl, rfl, rfl⟩ (dm_ite ⟨rfl, rfl, rfl⟩ (.refl s)))))))))))
theorem dm_one (s : Sr) (c : Nat) (n : Int) : Dm (s.one c n) s := by
  unfold Sr.one
  refine dm_ite (dm_ite ⟨rfl, rfl, rfl⟩ (.refl s)) (dm_ite (dm_ite ⟨rfl, rfl, rfl⟩ (.refl s)) (dm_ite (dm_ite ⟨rfl, rfl, rfl⟩ (.refl s)) (dm_ite ⟨rfl, rfl, rfl⟩ (dm_ite ⟨rfl, rfl, rfl⟩ (dm_ite ⟨rfl, rfl, rfl⟩ (dm_ite ?_ (.refl s)))))))
  cases s.last with
  | none => exact .refl s
  | some l => exact dm_puts l _ s
theorem dm_great (s : Sr) (c : Nat) (ns : List Int) : Dm (s.great c ns) s := by
  unfold Sr.great
  split
  · exact dm_one s c _
  · exact dm_ite ⟨rfl, rfl, rfl⟩ (dm_ite ⟨rfl, rfl, rfl⟩ (.refl s))
  · exact .refl s
theorem dm_do (s : Sr) (o : One) : Dm (s.do o) s := by
  cases o with
  | sign c => exact dm_put s c
  | endl => exact dm_stand (dm_down s) _ _
  | small c => exact dm_small s c
  | great c ns => exact dm_great s c ns
theorem dm_fold : ∀ (r : List One) (s : Sr), Dm (r.foldl Sr.do s) s
  | [], s => .refl s
  | o :: r, s => (dm_fold r (s.do o)).trans (dm_do s o)
/-! ### what is kept decides nothing -/
def Ep (a b : Sr) : Prop := ∃ p, a = { b with past := p }
theorem Ep.refl (s : Sr) : Ep s s := ⟨s.past, rfl⟩
theorem ep_ite {p : Prop} [Decidable p] {a b a' b' : Sr} (h1 : Ep a a') (h2 : Ep b b') : Ep (if p then a else b) (if p then a' else b') := by
  split
  · exact h1
  · exact h2
theorem ep_down (s : Sr) (p : List Rw) : Ep (Sr.down { s with past := p }) s.down := ep_ite (p := s.row = s.bottom) ⟨_, rfl⟩ (ep_ite (p := s.row < s.high - 1) ⟨_, rfl⟩ ⟨_, rfl⟩)
theorem ep_up (s : Sr) (p : List Rw) : Ep (Sr.up { s with past := p }) s.up := ep_ite (p := s.row = s.top) ⟨_, rfl⟩ (ep_ite (p := 0 < s.row) ⟨_, rfl⟩ ⟨_, rfl⟩)
theorem ep_stand0 {a b : Sr} (h : Ep a b) (c : Int) : Ep (a.stand a.row c) (b.stand b.row c) := by
  obtain ⟨p, rfl⟩ := h
  exact ⟨_, rfl⟩
theorem ep_standc {a b : Sr} (h : Ep a b) : Ep (a.stand a.row a.col) (b.stand b.row b.col) := by
  obtain ⟨p, rfl⟩ := h
  exact ⟨_, rfl⟩
theorem ep_put {a b : Sr} (h : Ep a b) (c : Nat) : Ep (a.put c) (b.put c) := by
  obtain ⟨p, rfl⟩ := h
  have h1 : Ep (Sr.wrap { b with past := p }) b.wrap := ep_ite (p := b.full = true) (ep_stand0 (ep_down { b with rows := onAt b.rows b.row (decide (b.row = b.bottom) || decide (b.row < b.high - 1)) } p) 0) ⟨_, rfl⟩
  obtain ⟨p2, e⟩ := h1
  show Ep (((Sr.wrap { b with past := p }).put1 c).step) ((b.wrap.put1 c).step)
  rw [e]
  exact ep_ite (p := (b.wrap.put1 c).col = (b.wrap.put1 c).wide - 1) ⟨p2, rfl⟩ ⟨p2, rfl⟩
theorem ep_puts (c : Nat) : ∀ (k : Nat) {a b : Sr}, Ep a b → Ep (a.puts c k) (b.puts c k)
  | 0, _, _, h => h
  | k + 1, _, _, h => ep_puts c k (ep_put h c)
theorem ep_erase {a b : Sr} (h : Ep a b) (c : Nat) : Ep (a.erase c) (b.erase c) := by
  obtain ⟨p, rfl⟩ := h
  have h1 : Ep (Sr.erased { b with past := p } c) (b.erased c) := ep_ite ⟨_, rfl⟩ (ep_ite ⟨_, rfl⟩ (ep_ite ⟨_, rfl⟩ ⟨_, rfl⟩))
  obtain ⟨p2, e⟩ := h1
  unfold Sr.erase
  rw [e]
  exact ep_ite ⟨p2, rfl⟩ ⟨p2, rfl⟩
theorem ep_small {a b : Sr} (h : Ep a b) (c : Nat) : Ep (a.small c) (b.small c) := by
  have he := ep_erase h c
  obtain ⟨p, rfl⟩ := h
  unfold Sr.small
  exact ep_ite ⟨_, rfl⟩ (ep_ite ⟨_, rfl⟩ (ep_ite ⟨_, rfl⟩ (ep_ite ⟨_, rfl⟩ (ep_ite ⟨_, rfl⟩ (ep_ite (ep_standc (ep_down b p)) (ep_ite (ep_standc (ep_up b p)) (ep_ite he (ep_ite ⟨_, rfl⟩ (ep_ite ⟨_, rfl⟩ (ep_ite ⟨_, rfl⟩ ⟨_, rfl⟩))))))))))
theorem ep_one {a b : Sr} (h : Ep a b) (c : Nat) (n : Int) : Ep (a.one c n) (b.one c n) := by
  have hp := fun l => ep_puts l (min n (b.wide * b.high)).toNat h
  obtain ⟨p, rfl⟩ := h
  unfold Sr.one
  refine ep_ite (ep_ite ⟨_, rfl⟩ ⟨_, rfl⟩) (ep_ite (ep_ite ⟨_, rfl⟩ ⟨_, rfl⟩) (ep_ite (ep_ite ⟨_, rfl⟩ ⟨_, rfl⟩) (ep_ite ⟨_, rfl⟩ (ep_ite (p := c = 68 ∧ b.top ≤ b.row ∧ b.row ≤ b.bottom) ⟨_, rfl⟩ (ep_ite (p := c = 78 ∧ b.top ≤ b.row ∧ b.row ≤ b.bottom) ⟨_, rfl⟩ (ep_ite ?_ ⟨_, rfl⟩))))))
  have key : ∀ L : Option Nat, Ep (match L with | some l => Sr.puts l (min n (b.wide * b.high)).toNat { b with past := p } | none => { b with past := p }) (match L with | some l => Sr.puts l (min n (b.wide * b.high)).toNat b | none => b) := fun L => by
    cases L with
    | none => exact ⟨p, rfl⟩
    | some l => exact hp l
  exact key b.last
theorem ep_great {a b : Sr} (h : Ep a b) (c : Nat) (ns : List Int) : Ep (a.great c ns) (b.great c ns) := by
  match ns with
  | [] => exact h
  | [x] => exact ep_one h c x
  | [x, y] =>
    obtain ⟨p, rfl⟩ := h
    exact ep_ite (p := c = 71) ⟨_, rfl⟩ (ep_ite (p := c = 82 ∧ x < y ∧ y < b.high) ⟨_, rfl⟩ ⟨_, rfl⟩)
  | _ :: _ :: _ :: _ => exact h
theorem ep_do {a b : Sr} (h : Ep a b) (o : One) : Ep (a.do o) (b.do o) := by
  cases o with
  | sign c => exact ep_put h c
  | endl =>
    obtain ⟨p, rfl⟩ := h
    exact ep_stand0 (ep_down b p) 0
  | small c => exact ep_small h c
  | great c ns => exact ep_great h c ns
theorem ep_fold : ∀ (r : List One) {a b : Sr}, Ep a b → Ep (r.foldl Sr.do a) (r.foldl Sr.do b)
  | [], _, _, h => h
  | o :: r, _, _, h => ep_fold r (ep_do h o)
theorem Ep.page {a b : Sr} (h : Ep a b) : a.pageD = b.pageD := by obtain ⟨p, rfl⟩ := h; rfl
theorem Ep.cursor {a b : Sr} (h : Ep a b) : a.cursorD = b.cursorD := by obtain ⟨p, rfl⟩ := h; rfl
theorem Ep.texts {a b : Sr} (h : Ep a b) : a.textsD = b.textsD := by obtain ⟨p, rfl⟩ := h; rfl
theorem Ep.state {a b : Sr} (h : Ep a b) : a.stateD = b.stateD := by obtain ⟨p, rfl⟩ := h; rfl
end Sc

namespace Sc
open PySem PySem.Spec PyProof.Rows L2
def A_written (ds : List PyData) (d : PyData) : Prop := ∃ r : List One, ds = [.list (r.map One.d)] ∧ (∀ o ∈ r, o.ok) ∧ (rowT r).length ≤ 10000 ∧ d = .str (mkS (rowT r))
theorem mkS_app (a b : List Nat) : mkS a ++ mkS b = mkS (a ++ b) := by
  show (⟨a.toArray ++ b.toArray⟩ : Str) = ⟨(a ++ b).toArray⟩
  rw [← List.append_toArray]
theorem mkS_tl (x : Str) : mkS x.cps.toList = x := by
  obtain ⟨⟨l⟩⟩ := x
  rfl
theorem join_comma (l : List (List Nat)) : Txt.join "," (l.map mkS) = mkS (comma l) := by
  rw [TL.join_eq]
  refine StrLaws.mk_of_toList ?_
  rw [show (Str.join "," (l.map mkS)).cps.toList = TL.tl (Str.join "," (l.map mkS)) from rfl, TL.tl_join, List.map_map]
  have : (TL.tl ∘ mkS : List Nat → List Nat) = id := by
    funext x
    simp [TL.tl]
  rw [this, List.map_id]
  rfl
theorem join_nums (ns : List Int) : Txt.join "," (ns.map fun n => Str.ofString (toString n)) = mkS (comma (ns.map numS)) := by
  rw [← join_comma, List.map_map]
  rfl
theorem rowT_take {r : List One} {j : Nat} {o : One} (h : r[j]? = some o) : rowT (r.take (j + 1)) = rowT (r.take j) ++ o.t := by
  rw [List.take_add_one, h, rowT_app]
  show _ ++ (o.t ++ []) = _
  rw [List.append_nil]
theorem rowT_le {r : List One} (j : Nat) : (rowT (r.take j)).length ≤ (rowT r).length := by
  have e := rowT_app (r.take j) (r.drop j)
  rw [List.take_append_drop] at e
  rw [e, List.length_append]
  omega
theorem num_small {n : Int} (h : NumOk n) : n.natAbs.log2 < 1920 := by
  have h1 : ∀ (p : List Nat) (a : Nat), (∀ c ∈ p, 48 ≤ c ∧ c ≤ 57) → p.foldl (fun acc c => acc * 10 + (c - 48)) a < (a + 1) * 10 ^ p.length := by
    intro p
    induction p with
    | nil => intro a _; simp
    | cons c p ih =>
      intro a hp
      have hc := hp c List.mem_cons_self
      refine Nat.lt_of_lt_of_le (ih (a * 10 + (c - 48)) fun x hx => hp x (List.mem_cons_of_mem _ hx)) ?_
      rw [List.length_cons, Nat.pow_succ, Nat.mul_comm (10 ^ p.length) 10, ← Nat.mul_assoc]
      exact Nat.mul_le_mul_right _ (by omega)
  have h2 := h1 (numS n) 0 h.f.1
  have h3 : 10 ^ (numS n).length ≤ 10 ^ 4 := Nat.pow_le_pow_right (by decide) h.f.2
  have h4 : NumText.digitsVal (numS n) < 10000 := by
    unfold NumText.digitsVal
    omega
  have h5 := h.v
  have h6 : n.natAbs < 10000 := by omega
  by_cases h0 : n.natAbs = 0
  · rw [h0]
    decide
  · have : n.natAbs.log2 < 14 := (Nat.log2_lt h0).mpr (by omega)
    omega
section
variable {P : Program} {w : World} {K : PySem.W.Frag} {mg : Str → Option Value} {base : Heap} {Ts : List (Addr × Str)}
/-- ",".join([str(n) for n in ..]) -/
theorem dv_joinN {R : Hp → Hp → Prop} [ROk R] {F : List Addr} {σ : L2.St} {H : Hp} {te : TE} {i : Nat} {ns : List Int} (h : DV R K F te σ H (.tuple (ns.map PyData.int))) (hn : ∀ n ∈ ns, NumOk n) (hl : ns.length ≤ 4) (hi : ∀ v : V, wipe ((wipe σ [i]).set i (some v)) [i] = wipe σ [i]) (hs : ∀ v : V, ((wipe σ [i]).set i (some v))[i]? = some (some v)) :
    DV R K F (tBM K "str" (rJoin K) (tC (V.str ",")) (tCons (tLc (iTup K te) (gName i) tYes (tCB (fun xs H Q => ∃ i, xs = [V.int i] ∧ i.natAbs.log2 < 1920 ∧ Q (V.str (toString i)) H) (tCons (tVar i) tNil)) [i]) tNil)) σ H (.str (mkS (comma (ns.map numS)))) := by
  refine dv_is (dv_join (ys := ns.map fun n => Str.ofString (toString n)) dv_str (dv_lcT (gs := (ns.map fun n => Str.ofString (toString n)).map PyData.str) h (by simp) (le_sz (by simp; omega)) hi fun F' H1 v j d e w h1 h2 g => ?_) ?_) (by rw [join_nums])
  · rw [List.getElem?_map] at h1
    rw [List.getElem?_map, List.getElem?_map] at h2
    cases hx : ns[j]? with
    | none => rw [hx] at h1; cases h1
    | some n =>
      rw [hx] at h1 h2
      cases h1
      cases h2
      exact dv_strI (dv_var (hs v) g) (num_small (hn n (List.mem_of_getElem? hx)))
  · have : ∀ l : List Int, (∀ n ∈ l, NumOk n) → ((l.map fun n => Str.ofString (toString n)).map (·.length)).sum ≤ 4 * l.length := fun l => by
      induction l with
      | nil => intro _; exact Nat.le_refl _
      | cons a l ih =>
        intro h
        have h1 := (h a List.mem_cons_self).f.2
        have h2 := ih fun n hn => h n (List.mem_cons_of_mem _ hn)
        have h3 : (Str.ofString (toString a)).length = (numS a).length := (strlen _).symm
        simp only [List.map_cons, List.sum_cons, List.length_cons] at h2 ⊢
        omega
    have := this ns hn
    simp only [List.length_map] at this ⊢
    have h1 : (Str.ofString ",").length = 1 := rfl
    rw [h1]
    omega
end
end Sc

namespace Sc
open PySem PySem.Spec PyProof.Rows L2
/-! ### a sign put again, and typed -/
theorem fold_sign (c : Nat) : ∀ (k : Nat) (s : Sr), (List.replicate k (One.sign c)).foldl Sr.do s = s.puts c k
  | 0, s => rfl
  | k + 1, s => by
    rw [List.replicate_succ, List.foldl_cons, fold_sign c k]
    rfl
theorem again_typed (s : Sr) (c : Nat) (n : Int) (h0 : 0 ≤ n) (hw : 0 ≤ s.wide * s.high) : [One.sign c, .great 74 [n]].foldl Sr.do s = (List.replicate (1 + min n (s.wide * s.high)).toNat (One.sign c)).foldl Sr.do s := by
  have e : (1 + min n (s.wide * s.high)).toNat = (min n (s.wide * s.high)).toNat + 1 := by omega
  rw [e, fold_sign]
  show (s.put c).one 74 n = _
  unfold Sr.one
  rw [if_neg (by decide), if_neg (by decide), if_neg (by decide), if_neg (by decide), if_neg (by omega), if_neg (by omega), if_pos rfl, put_last]
  show (s.put c).puts c (min n ((s.put c).wide * (s.put c).high)).toNat = _
  rw [(dm_put s c).w, (dm_put s c).h]
  rfl
/-- nothing put, nothing put again -/
theorem again_none {s : Sr} (h : s.last = none) (n : Int) : s.do (.great 74 [n]) = s := by
  show s.one 74 n = s
  unfold Sr.one
  rw [if_neg (by decide), if_neg (by decide), if_neg (by decide), if_neg (by decide), if_neg (by omega), if_neg (by omega), if_pos rfl, h]
def shows (c : Nat) (s : Sr) : Prop := ∃ r ∈ s.rows, ∃ x ∈ r.cells, x.s = c
theorem shows_put {s : Sr} (k : s.ok) (c : Nat) : shows c (s.put c) := by
  have w := k.wrap
  have e : (s.put c).rows = (s.wrap.put1 c).rows := by
    unfold Sr.put Sr.step
    split <;> rfl
  have hr : s.wrap.row.toNat < s.wrap.rows.length := by
    have := w.rl
    have := w.rh
    have := w.r0
    omega
  have hc := w.rc (s.wrap.rows[s.wrap.row.toNat]) (List.getElem_mem hr)
  have hcol : s.wrap.col.toNat < (s.wrap.rows[s.wrap.row.toNat]).cells.length := by
    have := w.cw
    have := w.c0
    omega
  refine ⟨{ s.wrap.rows[s.wrap.row.toNat] with cells := (s.wrap.rows[s.wrap.row.toNat]).cells.set s.wrap.col.toNat ⟨c, s.wrap.pen⟩ }, ?_, ⟨c, s.wrap.pen⟩, ?_, rfl⟩
  · rw [e]
    apply List.mem_of_getElem? (i := s.wrap.row.toNat)
    show (s.wrap.rows.modify s.wrap.row.toNat _)[s.wrap.row.toNat]? = _
    rw [List.getElem?_modify, List.getElem?_eq_getElem hr]
    show some (if s.wrap.row.toNat = s.wrap.row.toNat then _ else _) = _
    rw [if_pos rfl]
  · exact List.mem_of_getElem? (i := s.wrap.col.toNat) (by rw [List.getElem?_set_self hcol])
theorem shows_puts (c : Nat) : ∀ (k : Nat) {s : Sr}, s.ok → shows c s → shows c (s.puts c k)
  | 0, _, _, h => h
  | k + 1, s, ok, h => shows_puts c k (ok.put c) (shows_put ok c)
def txsOf (l : List Rw) : List Str := l.map fun r => rowTx r.cells
theorem shows_in {c : Nat} (hc : c ≠ 32) {s : Sr} (h : shows c s) : c ∈ (Txt.join "" (txsOf s.rows ++ txsOf s.past)).cps.toList := by
  obtain ⟨r, hr, x, hx, rfl⟩ := h
  rw [join_eq]
  refine List.mem_flatten.mpr ⟨(rowTx r.cells).cps.toList, List.mem_map.mpr ⟨rowTx r.cells, List.mem_append_left _ (List.mem_map.mpr ⟨r, hr, rfl⟩), rfl⟩, ?_⟩
  rw [rowTx_eq]
  exact rtrim_mem (List.mem_map.mpr ⟨x, hx, rfl⟩) hc
/-- anew -/
theorem begin_ep {s : Sr} {w h m : Int} (d : Dm s (Sr.new w h m)) (hb : s.beg = .no) (hl : s.lost = 0) : Ep s.begin (Sr.new w h m) := by
  refine ⟨s.past, ?_⟩
  obtain ⟨w1, h1, m1, past, rows, row, col, full, pen, top, bottom, byr, byc, byp, last, beg, lost⟩ := s
  obtain ⟨d1, d2, d3⟩ := d
  cases d1
  cases d2
  cases d3
  cases hb
  cases hl
  rfl
theorem new_texts (w h m : Int) : (Sr.new w h m).textsD = .list (List.replicate h.toNat (.str "")) := by
  show D.list ((List.replicate h.toNat (bl w)).map _) = _
  rw [List.map_replicate]
  have : rowTx (bl w).cells = "" := by
    rw [rowTx_eq]
    show mkS (rtrim ((List.replicate w.toNat blank).map Cl.s)) = _
    rw [List.map_replicate]
    show mkS (rtrim (List.replicate w.toNat 32)) = _
    rw [rtrim_blank]
    rfl
  rw [this]
end Sc
namespace Sc
open PySem PySem.Spec PyProof.Rows L2
theorem sc2_beside {h : MH} {n : Nat} {s : Sr} (a : Scr h n s) {w hh mo : Int} (k : newOk w hh mo) : ∃ h1, F_Screen___init__ [.ref h.length, .int w, .int hh, .int mo] (h ++ [.ins "Screen" []]) = some (.ok .none, h1) ∧ Sc2 h1 n h.length s (Sr.new w hh mo) := by
  obtain ⟨g, S, a1, rfl⟩ := a
  obtain ⟨h2, T, e2, a2, v2, f2⟩ := run_Screen___init__.1 w hh mo (h ++ [.ins "Screen" []]) h.length k (get_last1 h _)
  have a1' : ScAt (h ++ [.ins "Screen" []]) n S := ⟨get_app a1.o, get_app a1.rd, a1.ok, fun r hr => ⟨get_app (a1.rows r hr).1, get_app (a1.rows r hr).2⟩, a1.ndi, a1.ndc⟩
  obtain ⟨b1, b2⟩ := a1'.frame f2 fun x hx z => by
    have := a1.lt x hx
    rw [List.mem_singleton.mp z] at this
    omega
  exact ⟨h2, e2, g, Gd.new k, S, T, b1, a2, rfl, v2, fun x hx z => b2 x z hx⟩
theorem Sc2.row {h : MH} {n m : Nat} {s t : Sr} (a : Sc2 h n m s t) (hb : s.beg = .no) {r : List One} (hr : ∀ o ∈ r, o.ok) (hl : (rowT r).length ≤ 4000) : ∃ h', F_Screen_feed [.ref n, .str (mkS (rowT r))] h = some (.ok .none, h') ∧ Sc2 h' n m (r.foldl Sr.do s) t ∧ (r.foldl Sr.do s).beg = .no := by
  obtain ⟨h', e, b⟩ := a.feed hl (rowT_signs hr)
  rw [feed_rowT hb hr] at b
  exact ⟨h', e, b, (fold_rdr r s).1.trans hb⟩
theorem repS_row (c k : Nat) : repS (mkS (One.t (.sign c))) k = mkS (rowT (List.replicate k (.sign c))) := by
  unfold rowT
  rw [List.map_replicate]
  rfl
theorem j_ok {n : Int} (h : NumOk n) : ∀ o ∈ [One.great 74 [n]], o.ok := fun o ho => by
  rw [List.mem_singleton.mp ho]
  exact ⟨rfl, Nat.le_of_ble_eq_true rfl, fun x hx => by rw [List.mem_singleton.mp hx]; exact h⟩
theorem num_5 : NumOk 5 := num_ok (by decide) (by decide)
theorem num_3 : NumOk 3 := num_ok (by decide) (by decide)
theorem numS_5 : numS 5 = [53] := by decide +kernel
theorem numS_3 : numS 3 = [51] := by decide +kernel
theorem j5_t : mkS (rowT [One.great 74 [5]]) = ("^J(5)" : Str) := by
  have e : rowT [One.great 74 [5]] = [94, 74, 40, 53, 41] := by
    show ([94, 74, 40] ++ comma [numS 5] ++ [41]) ++ [] = _
    rw [numS_5]
    rfl
  rw [e]
  rfl
theorem j3_t (r : List One) : rowT (One.great 74 [3] :: r) = [94, 74, 40, 51, 41] ++ rowT r := by
  show ([94, 74, 40] ++ comma [numS 3] ++ [41]) ++ _ = _
  rw [numS_3]
  rfl
theorem new_j5 (W H m : Int) : [One.great 74 [5]].foldl Sr.do (Sr.new W H m) = Sr.new W H m := again_none (s := Sr.new W H m) rfl 5
theorem flat_rep (n : Nat) (d : D) : (List.replicate n [d]).flatten = List.replicate n d := by
  induction n with
  | zero => rfl
  | succ n ih => rw [List.replicate_succ, List.flatten_cons, ih]; rfl
theorem sd_rep {d : D} {k : Nat} (h : Sd d k) (n : Nat) : Sd (.list (List.replicate n d)) (k + 1) := Sd.list (by
  rw [← List.map_replicate (f := fun _ : Unit => d) (a := ())]
  exact SdL.map fun x _ => h)
theorem k36_sign (m : Int) : ∃ c : Nat, atI [97, 98, 99, 94] (m / 256 % 4) = some c ∧ isSign c = true ∧ c ≠ 10 ∧ c ≠ 32 := by
  have h0 : 0 ≤ m / 256 % 4 := by omega
  have h1 : m / 256 % 4 < 4 := by omega
  generalize m / 256 % 4 = x at h0 h1
  have : x = 0 ∨ x = 1 ∨ x = 2 ∨ x = 3 := by omega
  rcases this with rfl | rfl | rfl | rfl
  · exact ⟨97, rfl, rfl, by decide, by decide⟩
  · exact ⟨98, rfl, rfl, by decide, by decide⟩
  · exact ⟨99, rfl, rfl, by decide, by decide⟩
  · exact ⟨94, rfl, rfl, by decide, by decide⟩
theorem k36_many (m : Int) {w h : Int} (w0 : 0 ≤ w) (w1 : w < 100) (h0 : 0 ≤ w * h) (h1 : w * h < 100) : ∃ n : Int, atI [D.int 0, .int 1, .int 3, .int w, .int (w * h), .int 9999] (m / 1024 % 6) = some (.int n) ∧ 0 ≤ n ∧ NumOk n := by
  have x0 : 0 ≤ m / 1024 % 6 := by omega
  have x1 : m / 1024 % 6 < 6 := by omega
  generalize m / 1024 % 6 = x at x0 x1
  have : x = 0 ∨ x = 1 ∨ x = 2 ∨ x = 3 ∨ x = 4 ∨ x = 5 := by omega
  rcases this with rfl | rfl | rfl | rfl | rfl | rfl
  · exact ⟨0, rfl, by decide, num_ok (by decide) (by decide)⟩
  · exact ⟨1, rfl, by decide, num_ok (by decide) (by decide)⟩
  · exact ⟨3, rfl, by decide, num_ok (by decide) (by decide)⟩
  · exact ⟨w, rfl, w0, num_ok w0 w1⟩
  · exact ⟨w * h, rfl, h0, num_ok h0 h1⟩
  · exact ⟨9999, rfl, by decide, num_9999⟩
theorem sj_t (c : Nat) (n : Int) : rowT [One.sign c, .great 74 [n]] = One.t (.sign c) ++ 94 :: 74 :: 40 :: (numS n ++ [41]) := by
  show One.t (.sign c) ++ ((([94, 74, 40] ++ comma [numS n]) ++ [41]) ++ []) = _
  have : comma [numS n] = numS n := rfl
  rw [this]
  simp
theorem sj_ok {c : Nat} {n : Int} (h1 : isSign c = true) (h2 : c ≠ 10) (hn : NumOk n) : ∀ o ∈ [One.sign c, .great 74 [n]], o.ok := fun o ho => by
  rcases List.mem_cons.mp ho with rfl | ho
  · exact ⟨h1, h2⟩
  · exact j_ok hn o ho
theorem st_len (c : Nat) : (One.t (.sign c)).length ≤ 2 := by
  show (if c = 94 then [94, 94] else [c]).length ≤ 2
  split <;> simp
theorem rep_ok {c : Nat} (h1 : isSign c = true) (h2 : c ≠ 10) (k : Nat) : ∀ o ∈ List.replicate k (One.sign c), o.ok := fun o ho => by
  rw [(List.mem_replicate.mp ho).2]
  exact ⟨h1, h2⟩
theorem rep_len (c k : Nat) : (rowT (List.replicate k (One.sign c))).length ≤ 2 * k := by
  rw [← mkS_len, ← repS_row, repS_len, mkS_len]
  exact Nat.mul_le_mul_right k (st_len c)
theorem texts_D (s : Sr) : s.textsD = .list ((txsOf s.rows).map D.str) := by
  unfold Sr.textsD txsOf
  rw [List.map_map]
  rfl
theorem kept_D (s : Sr) : s.keptD = .list ((txsOf s.past).map D.str) := by
  unfold Sr.keptD txsOf
  rw [List.map_map]
  rfl
theorem txts_id : ∀ l : List Str, txts (l.map D.str) = some l := fun l => by
  have := txts_map (fun x : Str => x) l
  rw [List.map_id'] at this
  exact this
theorem rowTx_len {cs : List Cl} (h : cs.length ≤ 60) : (rowTx cs).length ≤ 60 := by
  rw [rowTx_eq, mkS_len]
  unfold rtrim
  rw [List.length_reverse]
  have h1 := (List.dropWhile_sublist (fun c => c == 32) (l := (cs.map Cl.s).reverse)).length_le
  rw [List.length_reverse, List.length_map] at h1
  omega
theorem txs_len {l : List Rw} (h : ∀ r ∈ l, r.cells.length ≤ 60) : ((txsOf l).map (fun x : Str => x.length)).sum ≤ 60 * l.length := by
  induction l with
  | nil => exact Nat.zero_le _
  | cons r l ih =>
    have h1 := rowTx_len (h r List.mem_cons_self)
    have h2 := ih fun x hx => h x (List.mem_cons_of_mem _ hx)
    show (rowTx r.cells).length + ((txsOf l).map (fun x : Str => x.length)).sum ≤ 60 * (l.length + 1)
    omega
theorem all_len {s : Sr} (k : s.ok) : ((txsOf s.rows ++ txsOf s.past).map (fun x : Str => x.length)).sum + (txsOf s.rows ++ txsOf s.past).length * (Str.ofString "").length ≤ 16777216 ∧ (txsOf s.rows).length + (txsOf s.past).length ≤ 1000 := by
  have h1 := txs_len (l := s.rows) fun r hr => by have := k.rc r hr; have := k.w60; omega
  have h2 := txs_len (l := s.past) fun r hr => by have := k.pc r hr; have := k.w60; omega
  have h3 := k.rl
  have h4 := k.pl
  have h5 := k.h40
  have h6 := k.m200
  have e0 : (Str.ofString "").length = 0 := rfl
  have e1 : (txsOf s.rows).length = s.rows.length := List.length_map ..
  have e2 : (txsOf s.past).length = s.past.length := List.length_map ..
  rw [e0, Nat.mul_zero, List.map_append, List.sum_append, e1, e2]
  omega
theorem zt : mkS (rowT [One.small 122]) = ("^z" : Str) := rfl
theorem z_ok : ∀ o ∈ [One.small 122], o.ok := fun o ho => by
  rw [List.mem_singleton.mp ho]
  exact (rfl : isSmall 122 = true)
theorem j3_ok {r : List One} (h : ∀ o ∈ r, o.ok) : ∀ o ∈ One.great 74 [3] :: r, o.ok := fun o ho => by
  rcases List.mem_cons.mp ho with rfl | ho
  · exact j_ok num_3 _ List.mem_cons_self
  · exact h o ho
end Sc

namespace Sc
open PySem PySem.Spec PyProof.Rows L2
theorem Scr.row {h : MH} {n : Nat} {s : Sr} (a : Scr h n s) (hb : s.beg = .no) {r : List One} (hr : ∀ o ∈ r, o.ok) (hl : (rowT r).length ≤ 4000) : ∃ h', F_Screen_feed [.ref n, .str (mkS (rowT r))] h = some (.ok .none, h') ∧ Scr h' n (r.foldl Sr.do s) ∧ (r.foldl Sr.do s).beg = .no := by
  obtain ⟨h', e, b⟩ := a.feed hl (rowT_signs hr)
  rw [feed_rowT hb hr] at b
  exact ⟨h', e, b, (fold_rdr r s).1.trans hb⟩
/-- one great command is right -/
theorem g_ok {c : Nat} {ns : List Int} (h1 : isGreat c = true) (h2 : ns.length ≤ 4) (h3 : ∀ n ∈ ns, NumOk n) : (One.great c ns).ok := ⟨h1, h2, h3⟩
theorem num1 {n : Int} (h : NumOk n) : ∀ x ∈ [n], NumOk x := fun x hx => by rw [List.mem_singleton.mp hx]; exact h
theorem num2 {a b : Int} (h1 : NumOk a) (h2 : NumOk b) : ∀ x ∈ [a, b], NumOk x := fun x hx => by
  rcases List.mem_cons.mp hx with rfl | hx
  · exact h1
  · exact num1 h2 x hx
theorem all_nil : ∀ o ∈ ([] : List One), o.ok := fun o h => nomatch h
theorem all_cons {o : One} {r : List One} (h1 : o.ok) (h2 : ∀ x ∈ r, x.ok) : ∀ x ∈ o :: r, x.ok := fun x hx => by
  rcases List.mem_cons.mp hx with rfl | hx
  · exact h1
  · exact h2 x hx
/-- where it stands alone is changed -/
def mv (s : Sr) (r c : Int) (f : Bool) : Sr := { s with row := r, col := c, full := f }
theorem mv_stand (s : Sr) (r c : Int) (f : Bool) (x y : Int) : (mv s r c f).stand x y = mv s (max 0 (min (s.high - 1) x)) (max 0 (min (s.wide - 1) y)) false := rfl
theorem k34_begin (s : Sr) : ∃ t : Sr, [One.great 67 [3], .great 77 [2], .small 115].foldl Sr.do s = t ∧ t.byr = t.row ∧ t.byc = t.col ∧ t.byp = t.pen ∧ Dm t s := ⟨_, rfl, rfl, rfl, rfl, dm_fold _ _⟩
theorem k34_np {s : Sr} {r c : Int} (h0 : 0 ≤ r) (h1 : r < s.high) (c0 : 0 ≤ c) (c1 : c < s.wide) (hb : r ≠ s.bottom) (hh : r ≠ s.high - 1) (ht : r + 1 ≠ s.top) : [One.small 110, .small 112].foldl Sr.do (mv s r c false) = mv s r c false := by
  have e1 : (mv s r c false).small 110 = mv s (r + 1) c false := by
    show (mv s r c false).down.stand (mv s r c false).down.row (mv s r c false).down.col = _
    have d : (mv s r c false).down = mv s (r + 1) c false := by
      show (if r = s.bottom then _ else if r < s.high - 1 then _ else _) = _
      rw [if_neg hb, if_pos (by omega)]
      rfl
    rw [d, mv_stand]
    show mv s (max 0 (min (s.high - 1) (r + 1))) (max 0 (min (s.wide - 1) c)) false = _
    rw [show max 0 (min (s.high - 1) (r + 1)) = r + 1 by omega, show max 0 (min (s.wide - 1) c) = c by omega]
  have e2 : (mv s (r + 1) c false).small 112 = mv s r c false := by
    show (mv s (r + 1) c false).up.stand (mv s (r + 1) c false).up.row (mv s (r + 1) c false).up.col = _
    have d : (mv s (r + 1) c false).up = mv s r c false := by
      show (if r + 1 = s.top then _ else if 0 < r + 1 then { mv s (r + 1) c false with row := r + 1 - 1 } else _) = _
      rw [if_neg ht, if_pos (by omega), show r + 1 - 1 = r by omega]
      rfl
    rw [d, mv_stand]
    show mv s (max 0 (min (s.high - 1) r)) (max 0 (min (s.wide - 1) c)) false = _
    rw [show max 0 (min (s.high - 1) r) = r by omega, show max 0 (min (s.wide - 1) c) = c by omega]
  show ((mv s r c false).small 110).small 112 = _
  rw [e1, e2]
theorem k34_back {s : Sr} {r c : Int} {f : Bool} (k : s.ok) (b1 : s.byr = s.row) (b2 : s.byc = s.col) (b3 : s.byp = s.pen) : [One.great 67 [7], .great 66 [1], .great 77 [0], .small 116].foldl Sr.do (mv s r c f) = mv s s.row s.col false := by
  show { Sr.stand { mv s r c f with pen := { s.pen with c := 7, b := 1, m := 0 } } s.byr s.byc with pen := s.byp } = _
  rw [b1, b2, b3]
  show Sr.mk _ _ _ _ _ (max 0 (min (s.high - 1) s.row)) (max 0 (min (s.wide - 1) s.col)) _ _ _ _ _ _ _ _ _ _ = _
  have h0 := k.r0
  have h1 := k.rh
  have h2 := k.c0
  have h3 := k.cw
  rw [show max 0 (min (s.high - 1) s.row) = s.row by omega, show max 0 (min (s.wide - 1) s.col) = s.col by omega]
  rfl
theorem k34_none (s : Sr) : [One.great 67 [8], .great 66 [9999], .great 77 [4], .great 67 [], .great 67 [1, 2]].foldl Sr.do s = s := rfl
theorem k34_t1 : rowT [One.great 67 [3], .great 77 [2], .small 115] = [94, 67, 40, 51, 41, 94, 77, 40, 50, 41, 94, 115] := by decide +kernel
theorem k34_t2 : mkS (rowT [One.great 67 [7], .great 66 [1], .great 77 [0], .small 116]) = ("^C(7)^B(1)^M(0)^t" : Str) := by
  have e : rowT [One.great 67 [7], .great 66 [1], .great 77 [0], .small 116] = [94, 67, 40, 55, 41, 94, 66, 40, 49, 41, 94, 77, 40, 48, 41, 94, 116] := by decide +kernel
  rw [e]
  rfl
theorem k34_t3 : mkS (rowT [One.great 67 [8], .great 66 [9999], .great 77 [4], .great 67 [], .great 67 [1, 2]]) = ("^C(8)^B(9999)^M(4)^C()^C(1,2)" : Str) := by
  have e : rowT [One.great 67 [8], .great 66 [9999], .great 77 [4], .great 67 [], .great 67 [1, 2]] = [94, 67, 40, 56, 41, 94, 66, 40, 57, 57, 57, 57, 41, 94, 77, 40, 52, 41, 94, 67, 40, 41, 94, 67, 40, 49, 44, 50, 41] := by decide +kernel
  rw [e]
  rfl
theorem n_small {k : Nat} (h : k < 100) : NumOk (k : Int) := num_ok (by omega) (by omega)
theorem k34_ok1 {r : List One} (h : ∀ o ∈ r, o.ok) : ∀ o ∈ r ++ [One.great 67 [3], .great 77 [2], .small 115], o.ok := fun o ho => by
  rcases List.mem_append.mp ho with z | z
  · exact h o z
  · exact all_cons (g_ok rfl (by decide) (num1 (num_ok (by decide) (by decide)))) (all_cons (g_ok rfl (by decide) (num1 (num_ok (by decide) (by decide)))) (all_cons (o := .small 115) (rfl : isSmall 115 = true) all_nil)) o z
theorem k34_ok2 : ∀ o ∈ [One.great 67 [7], .great 66 [1], .great 77 [0], .small 116], o.ok :=
  all_cons (g_ok rfl (by decide) (num1 (num_ok (by decide) (by decide)))) (all_cons (g_ok rfl (by decide) (num1 (num_ok (by decide) (by decide)))) (all_cons (g_ok rfl (by decide) (num1 (num_ok (by decide) (by decide)))) (all_cons (o := .small 116) (rfl : isSmall 116 = true) all_nil)))
theorem k34_ok3 : ∀ o ∈ [One.great 67 [8], .great 66 [9999], .great 77 [4], .great 67 [], .great 67 [1, 2]], o.ok :=
  all_cons (g_ok rfl (by decide) (num1 (num_ok (by decide) (by decide)))) (all_cons (g_ok rfl (by decide) (num1 num_9999)) (all_cons (g_ok rfl (by decide) (num1 (num_ok (by decide) (by decide)))) (all_cons (g_ok rfl (by decide) (fun x hx => nomatch hx)) (all_cons (g_ok rfl (by decide) (num2 (num_ok (by decide) (by decide)) (num_ok (by decide) (by decide)))) all_nil))))
/-- to a place -/
theorem go_t (a b : Int) : rowT [One.great 71 [a, b]] = 94 :: 71 :: 40 :: (numS a ++ 44 :: (numS b ++ [41])) := by
  show ([94, 71, 40] ++ comma [numS a, numS b] ++ [41]) ++ [] = _
  have : comma [numS a, numS b] = numS a ++ ([44] ++ numS b) := rfl
  rw [this]
  simp
theorem go_ok {a b : Int} (h1 : NumOk a) (h2 : NumOk b) : ∀ o ∈ [One.great 71 [a, b]], o.ok := all_cons (g_ok rfl (Nat.le_of_ble_eq_true rfl) (num2 h1 h2)) all_nil
theorem word_is (x : Int) : ∃ c : Nat, atI (Str.ofString "udlrhG").cps.toList (x % 6) = some c ∧ (c = 117 ∨ c = 100 ∨ c = 108 ∨ c = 114 ∨ c = 104 ∨ c = 71) := by
  show ∃ c : Nat, atI [117, 100, 108, 114, 104, 71] (x % 6) = some c ∧ _
  have h0 : 0 ≤ x % 6 := by omega
  have h1 : x % 6 < 6 := by omega
  generalize x % 6 = y at h0 h1
  have : y = 0 ∨ y = 1 ∨ y = 2 ∨ y = 3 ∨ y = 4 ∨ y = 5 := by omega
  rcases this with rfl | rfl | rfl | rfl | rfl | rfl
  · exact ⟨117, rfl, by decide⟩
  · exact ⟨100, rfl, by decide⟩
  · exact ⟨108, rfl, by decide⟩
  · exact ⟨114, rfl, by decide⟩
  · exact ⟨104, rfl, by decide⟩
  · exact ⟨71, rfl, by decide⟩
theorem in_ints (a b c : Int) : inV (.int a) [V.int b, V.int c] = (decide (b = a) || decide (c = a)) := by
  show ((b == a) || ((c == a) || false)) = _
  rw [Bool.or_false]
  rfl
theorem np_t : mkS (rowT [One.small 110, .small 112]) = ("^n^p" : Str) := rfl
theorem np_ok : ∀ o ∈ [One.small 110, .small 112], o.ok := all_cons (o := .small 110) (rfl : isSmall 110 = true) (all_cons (o := .small 112) (rfl : isSmall 112 = true) all_nil)
end Sc

namespace Sc
open PySem PySem.Spec PyProof.Rows L2
abbrev CL : List Str := ["BadPage", "BadPlace", "BadSize", "BadText", "BadPane", "BadTick", "Nothing"]
def word (c : Str) : List V := CL.map fun c' => V.bl (decide (c = c'))
theorem wSum : ∀ c ∈ CL, (CL.map fun c' => b2i (decide (c = c'))).sum = 1 := by decide +kernel
def wIx (c : Str) : Nat := CL.idxOf c
theorem wAt : ∀ c ∈ CL, (CL.map fun c' => decide (c = c'))[wIx c]? = some true ∧ ((CL.map fun c' => decide (c = c')).take (wIx c)).all (fun b => !b) = true ∧ CL[wIx c]? = some c := by decide +kernel
def word4 (c : Str) : List V := (CL.take 4).map fun c' => V.bl (decide (c = c'))
def word3 (c : Str) : List V := (CL.drop 4).map fun c' => V.bl (decide (c = c'))
section
variable {P : Program} {w : World} {K : PySem.W.Frag} {mg : Str → Option Value} {base : Heap} {Ts : List (Addr × Str)}
theorem sc__law_word : FnScope ["e", "flags", "words", "flag"] ["e"] (defScope s__law_word) := ⟨rfl, rfl, rfl, by decide +kernel, rfl, by decide +kernel, by decide +kernel⟩
theorem c__law_word (T : GT K mg) : HotFn P w K mg base 2 "_law_word" (rWord K CL) := by
  obtain ⟨fd, FD⟩ := T.f__law_word
  refine ⟨_, T.g__law_word, FD.kp, fun A outer s H a oe Q hr hot pin e0 h => ?_⟩
  obtain ⟨c, hc, hz, hf, q⟩ := h
  refine hot_run (k := 1) FD sc__law_word (fun _ _ _ _ _ _ us hl => match us, hl with | [_], _ => rfl) hr pin e0 fun cdv hr => ?_
  have C := T.w.ec c hc
  have hp : (a, oe) ∈ [(a, oe)] := List.mem_cons_self
  have hot : L2H.HotC (L2H.cxH CX0 P w K mg base ["e", "flags", "flag"] "_law_word" (defScope s__law_word) (He.ga K "_law_word") cdv A outer s H C8.E0 (a, oe)) := ⟨(a, oe), hot, hp⟩
  refine ⟨_, (pss_cons (pS 1 sc__law_word.nd (pe_lst (pa_cons (pe_callB (cr_isH C hz.zc hf hp) (by rfl) T.z_isinstance (by decide +kernel) (pa_cons (pv 0) (pa_cons (pe_glob (v := .ref (He.ga K "BadPage")) (by rfl) T.g_BadPage rfl) pa_nil))) (pa_cons (pe_callB (cr_isH C hz.zc hf hp) (by rfl) T.z_isinstance (by decide +kernel) (pa_cons (pv 0) (pa_cons (pe_glob (v := .ref (He.ga K "BadPlace")) (by rfl) T.g_BadPlace rfl) pa_nil))) (pa_cons (pe_callB (cr_isH C hz.zc hf hp) (by rfl) T.z_isinstance (by decide +kernel) (pa_cons (pv 0) (pa_cons (pe_glob (v := .ref (He.ga K "BadSize")) (by rfl) T.g_BadSize rfl) pa_nil))) (pa_cons (pe_callB (cr_isH C hz.zc hf hp) (by rfl) T.z_isinstance (by decide +kernel) (pa_cons (pv 0) (pa_cons (pe_glob (v := .ref (He.ga K "BadText")) (by rfl) T.g_BadText rfl) pa_nil))) pa_nil))))))
      (pss_cons (pS 1 sc__law_word.nd (pe_op (kplus K) (pv 1) (pe_lst (pa_cons (pe_callB (cr_isH C hz.zc hf hp) (by rfl) T.z_isinstance (by decide +kernel) (pa_cons (pv 0) (pa_cons (pe_glob (v := .ref (He.ga K "BadPane")) (by rfl) T.g_BadPane rfl) pa_nil))) (pa_cons (pe_callB (cr_isH C hz.zc hf hp) (by rfl) T.z_isinstance (by decide +kernel) (pa_cons (pv 0) (pa_cons (pe_glob (v := .ref (He.ga K "BadTick")) (by rfl) T.g_BadTick rfl) pa_nil))) (pa_cons (pe_callB (cr_isH C hz.zc hf hp) (by rfl) T.z_isinstance (by decide +kernel) (pa_cons (pv 0) (pa_cons (pe_glob (v := .ref (He.ga K "Nothing")) (by rfl) T.g_Nothing rfl) pa_nil))) pa_nil))))))
      (pss_cons (ps_if (PW.pt (pw_or (pt_cmpR (kne K hr.units) (pe_callB (cr_sumH hot) (by rfl) T.z_sum (by decide +kernel) (pa_cons (pe_flags 1 hot T.z_int (by decide +kernel) (.inl rfl)) pa_nil)) pe_int (nomark _)) (pw_or1 (pt_not (pt_val (pe_callB (cr_isH C hz.zc hf hp) (by rfl) T.z_isinstance (by decide +kernel) (pa_cons (pv 0) (pa_cons (pe_bltn (v := .ty "ValueError") (by rfl) T.z_ValueError (by decide +kernel) rfl) pa_nil)))))))) (pss_one (ps_ret (pe_tup (pa_cons pe_str (pa_cons pe_str pa_nil))))) pss_nil)
      (pss_cons (pS 2 sc__law_word.nd (pe_lst (pa_cons pe_str (pa_cons pe_str (pa_cons pe_str (pa_cons pe_str (pa_cons pe_str (pa_cons pe_str (pa_cons pe_str pa_nil)))))))))
      (pss_one (ps_ret (pe_tup (pa_cons pe_str (pa_cons (pe_ix (kix K) (pv 2) (kbm K PySem.F.plainAttrs_list PySem.F.slot_list_index PySem.F.type_list_index mt_index (pv 1) (pa_cons pe_bl pa_nil)) (fun _ _ => rfl)) pa_nil))))))))), ?_⟩
  refine s_seq ?_
  iterate 4 refine ⟨_, rfl, ⟨_, _, _, rfl, fun u r => r, T.w.ki c hc _ (by decide), ?_⟩⟩
  refine ⟨Nat.le_of_ble_eq_true rfl, fun l1 hl1 => ?_⟩
  have s01 := same_new (o := .lst (word4 c)) hl1
  have g01 := upd_same (H := H) (a := l1) (o := .lst (word4 c))
  refine s_seq ?_
  refine ⟨_, rfl, ?_⟩
  iterate 3 refine ⟨_, rfl, ⟨_, _, _, rfl, fun u r => r, T.w.ki c hc _ (by decide), ?_⟩⟩
  refine ⟨Nat.le_of_ble_eq_true rfl, fun l2 hl2 => ?_⟩
  have s02 := same_new (o := .lst (word3 c)) hl2
  have g02 := upd_same (H := upd H l1 (.lst (word4 c))) (a := l2) (o := .lst (word3 c))
  refine .inr (.inr (.inl ⟨l1, l2, _, _, rfl, rfl, s02 _ _ g01, g02, Nat.le_of_ble_eq_true rfl, fun l hl => ?_⟩))
  have s1 : Same H (upd (upd (upd H l1 (.lst (word4 c))) l2 (.lst (word3 c))) l (.lst (word c))) := (s01.trans s02).trans (same_new hl)
  refine s_seq ?_
  refine ⟨l, CL.map fun c' => decide (c = c'), rfl, upd_same, fun D hD => ?_⟩
  refine ⟨D, CL.map fun c' => b2i (decide (c = c')), rfl, upd_same, ?_⟩
  have e1 : (CL.map fun c' => b2i (decide (c = c'))).sum = 1 := wSum c hc
  rw [e1]
  refine .inl ⟨rfl, _, rfl, iteF ?_⟩
  refine ⟨_, rfl, _, _, _, rfl, fun u r => r, T.w.ve c hc, ?_⟩
  refine ⟨_, rfl, iteF (s_next ?_)⟩
  have s2 := same_new (o := .lst (CL.map fun c' => V.int (b2i (decide (c = c'))))) hD
  have gl2 := s2 _ _ upd_same
  refine s_seq ?_
  refine ⟨Nat.le_of_ble_eq_true rfl, fun D2 hD2 => ?_⟩
  have s3 := same_new (o := .lst (CL.map V.str)) hD2
  obtain ⟨w1, w2, w3⟩ := wAt c hc
  refine ⟨_, rfl, _, rfl, .inl ⟨rfl, _, SqL.of (s3 _ _ gl2)⟩, ?_⟩
  refine ⟨l, word c, .bl true, wIx c, .bl true, rfl, rfl, SqL.of (s3 _ _ gl2), rfl, ?_, ?_, rfl, ?_, ?_⟩
  · rfl
  · show ((CL.map fun c' => decide (c = c')).map V.bl)[wIx c]? = _
    rw [List.getElem?_map, w1]
    rfl
  · intro m z hm hz
    have hz : ((CL.map fun c' => decide (c = c')).map V.bl)[m]? = some z := hz
    rw [List.getElem?_map] at hz
    obtain ⟨b, hb, rfl⟩ := Option.map_eq_some_iff.mp hz
    have hm2 : b ∈ (CL.map fun c' => decide (c = c')).take (wIx c) := List.mem_of_getElem? (i := m) (by rw [List.getElem?_take_of_lt hm]; exact hb)
    have := List.all_eq_true.mp w2 b hm2
    cases b with
    | true => cases this
    | false => rfl
  · refine .inl ⟨D2, CL.map V.str, _, .str c, rfl, rfl, SqL.of upd_same, atI_nat (by rw [List.getElem?_map, w3]; rfl), ?_⟩
    refine ⟨Nat.le_of_ble_eq_true rfl, fun D3 hD3 => ?_⟩
    have s4 := ((s1.trans s2).trans s3).trans (same_new (o := .tup [.str "refused", .str c]) hD3)
    refine q D3 _ s4 ?_ upd_same
    cases h9 : H D3 with
    | none => rfl
    | some o =>
      cases hD3.symm.trans (((s1.trans s2).trans s3) _ _ h9)
end
end Sc

namespace Sc
open PySem PySem.Spec PyProof.Rows L2
theorem sc__law_told : FnScope ["deed", "e"] ["deed"] (defScope s__law_told) := ⟨rfl, rfl, rfl, by decide +kernel, rfl, by decide +kernel, by decide +kernel⟩
theorem told_scr (K : PySem.W.Frag) (mg : Str → Option Value) (T : GT K mg) : ∀ c ∈ CL, PySem.W.exmOne K (.ref (He.ga K c)) (.ref (He.ga K "ScreenError")) = some true := by
  intro c hc
  simp only [List.mem_cons, List.not_mem_nil, or_false] at hc
  rcases hc with rfl | rfl | rfl | rfl | rfl | rfl | rfl
  · exact T.xm_BadPage
  · exact T.xm_BadPlace
  · exact T.xm_BadSize
  · exact T.xm_BadText
  · exact T.xm_BadPane
  · exact T.xm_BadTick
  · exact T.xm_Nothing
theorem told_at {X : Cx} (T : GT X.K X.mg) {Ts : List (Addr × Str)} {c P : Addr} {k : Nat} {params : Arguments} {body : Expr} {scope : Scope} {t : XK → TE} {p lpos pos : Pos}
    (TB : LamX.TabB X.base X.mg c P) (hcode : X.env.code = .ref c) (hmT : (P, lq X) ∈ Ts) (hu : ∀ p ∈ Ts, p.1 = P → p.2 = lq X) (hr : Room (k + 2) X.A) (hk : 1 ≤ k) (hg : Gl X "_law_told") (L : LamX.lamSB X.env.scope scope = true) (hdef : defaultsOf params X.env = ([], []))
    (hbind : ∀ (q : Str) (cl : List (Str × Addr)) (pm cv ctv : Value), bindArgs (PySem.W.kla_fn "<lambda>" q params body scope cl pm cv ctv) ⟨[], []⟩ = pure [])
    (hbody : ∀ (A : Around) (outer : List Env) (s : Shared) (H : Hp) (E : XK) (f c' : Addr), Room k (A.deeper (LamX.lamEnv X scope s.heap.objs.size f c')) → PE (lamN X A outer s H E scope f c') body (t E)) :
    PE X (.Call (.Name "_law_told" p) [.Lambda params body scope lpos] [] pos) (tTold Ts X.K CL t) :=
  pe_told (kw := 2) (a := "deed") (e := "ScreenError") (n := "e") (wd := "_law_word") (st := s__law_told) T.f__law_told T.g__law_told sc__law_told rfl (fun _ _ _ _ _ _ us hl => match us, hl with | [_], _ => rfl) ⟨_, _, _, _, _, _, _, _, _, _, rfl⟩ rfl (.inl rfl) rfl rfl (by decide +kernel) T.g_ScreenError (told_scr X.K X.mg T) (c__law_word T) (by omega) TB hcode hmT hu hr hg (LamX.lamS_by L) hdef hbind hbody
end Sc

namespace Sc
open PySem PySem.Spec PyProof.Rows L2
/-! ### a screen, and an object beside it -/
def ScrB (h : MH) (n : Nat) (s : Sr) (m : Nat) (o : MO) : Prop := Gd s ∧ ∃ S, ScAt h n S ∧ S.v = s ∧ m ∉ ids n S ∧ h[m]? = some o
theorem ScrB.scr {h : MH} {n m : Nat} {s : Sr} {o : MO} (a : ScrB h n s m o) : Scr h n s := by
  obtain ⟨g, S, a1, a2, _⟩ := a
  exact ⟨g, S, a1, a2⟩
theorem ScAt.app {h : MH} {n : Nat} {S : ScI} (a : ScAt h n S) (t : MH) : ScAt (h ++ t) n S := ⟨get_app a.o, get_app a.rd, a.ok, fun r hr => ⟨get_app (a.rows r hr).1, get_app (a.rows r hr).2⟩, a.ndi, a.ndc⟩
theorem Scr.app {h : MH} {n : Nat} {s : Sr} (a : Scr h n s) (t : MH) : Scr (h ++ t) n s := by
  obtain ⟨g, S, a1, a2⟩ := a
  exact ⟨g, S, a1.app t, a2⟩
theorem ScrB.app {h : MH} {n m : Nat} {s : Sr} {o : MO} (a : ScrB h n s m o) (t : MH) : ScrB (h ++ t) n s m o := by
  obtain ⟨g, S, a1, a2, a3, a4⟩ := a
  exact ⟨g, S, a1.app t, a2, a3, get_app a4⟩
theorem Scr.beside {h : MH} {n : Nat} {s : Sr} (a : Scr h n s) (o : MO) : ScrB (h ++ [o]) n s h.length o := by
  obtain ⟨g, S, a1, a2⟩ := a
  exact ⟨g, S, a1.app _, a2, fun z => Nat.lt_irrefl _ (a1.lt _ z), get_last1 h o⟩
theorem ScAt.setOff {h : MH} {n m : Nat} {S : ScI} (a : ScAt h n S) (hm : m ∉ ids n S) (o : MO) : ScAt (h.set m o) n S := by
  have ne : ∀ x ∈ ids n S, x ≠ m := fun x hx z => hm (z ▸ hx)
  refine ⟨?_, ?_, a.ok, fun r hr => ⟨?_, ?_⟩, a.ndi, a.ndc⟩
  · rw [set_ne' (ne n List.mem_cons_self)]; exact a.o
  · rw [set_ne' (ne _ (List.mem_cons_of_mem _ List.mem_cons_self))]; exact a.rd
  · rw [set_ne' (ne _ (ids_row hr).1)]; exact (a.rows r hr).1
  · rw [set_ne' (ne _ (ids_row hr).2)]; exact (a.rows r hr).2
theorem ScrB.set {h : MH} {n m : Nat} {s : Sr} {o : MO} (a : ScrB h n s m o) (o' : MO) : ScrB (h.set m o') n s m o' := by
  obtain ⟨g, S, a1, a2, a3, a4⟩ := a
  exact ⟨g, S, a1.setOff a3 o', a2, a3, set_self' a4 o'⟩
theorem ScrB.row {h : MH} {n m : Nat} {s : Sr} {o : MO} (a : ScrB h n s m o) (hb : s.beg = .no) {r : List One} (hr : ∀ o ∈ r, o.ok) (hl : (rowT r).length ≤ 4000) : ∃ h', F_Screen_feed [.ref n, .str (mkS (rowT r))] h = some (.ok .none, h') ∧ ScrB h' n (r.foldl Sr.do s) m o ∧ (r.foldl Sr.do s).beg = .no := by
  have hb2 := a.scr.bg
  obtain ⟨g, S, a1, rfl, a3, a4⟩ := a
  obtain ⟨h', S', e, b1, v, f⟩ := run_Screen_feed.1 (mkS (rowT r)) (text_is hl (rowT_signs hr)) h n S a1 g.ok
  have ev : S'.v = r.foldl Sr.do S.v := by
    rw [v]
    exact feed_rowT hb hr
  refine ⟨h', e, ⟨?_, S', b1, ev, fun z => ?_, ?_⟩, (fold_rdr r S.v).1.trans hb⟩
  · have := g.feed hb2 (rowT_signs hr)
    rw [feed_rowT hb hr] at this
    exact this
  · rcases f.new m z with z | z
    · exact a3 z
    · have := lt_of_get a4
      omega
  · rw [f.off m (lt_of_get a4) a3]
    exact a4
theorem ScrB.feed {h : MH} {n m : Nat} {s : Sr} {o : MO} (a : ScrB h n s m o) {l : List Nat} (hl : l.length ≤ 4000) (hs : sgs l) : ∃ h', F_Screen_feed [.ref n, .str (mkS l)] h = some (.ok .none, h') ∧ ScrB h' n (s.feed l) m o := by
  have hb2 := a.scr.bg
  obtain ⟨g, S, a1, rfl, a3, a4⟩ := a
  obtain ⟨h', S', e, b1, v, f⟩ := run_Screen_feed.1 (mkS l) (text_is hl hs) h n S a1 g.ok
  refine ⟨h', e, g.feed hb2 hs, S', b1, v, fun z => ?_, ?_⟩
  · rcases f.new m z with z | z
    · exact a3 z
    · have := lt_of_get a4
      omega
  · rw [f.off m (lt_of_get a4) a3]
    exact a4
theorem scB_new {w hh mo : Int} (k : newOk w hh mo) {h : MH} {m : Nat} {o : MO} (ho : h[m]? = some o) : ∃ h1, F_Screen___init__ [.ref h.length, .int w, .int hh, .int mo] (h ++ [.ins "Screen" []]) = some (.ok .none, h1) ∧ ScrB h1 h.length (Sr.new w hh mo) m o := by
  obtain ⟨h1, S, e1, a1, v1, f⟩ := run_Screen___init__.1 w hh mo (h ++ [.ins "Screen" []]) h.length k (get_last1 h _)
  have hm := lt_of_get ho
  refine ⟨h1, e1, Gd.new k, S, a1, v1, fun z => ?_, ?_⟩
  · rcases f.new m z with z | z
    · rw [List.mem_singleton.mp z] at hm
      omega
    · rw [List.length_append, List.length_singleton] at z
      omega
  · rw [f.off m (by rw [List.length_append, List.length_singleton]; omega) (fun z => by rw [List.mem_singleton.mp z] at hm; omega)]
    exact get_app ho
end Sc

namespace Sc
open PySem PySem.Spec PyProof.Rows L2
/-! ### texts that are none -/
def g_is_sign : List PyData → Option PyData
  | [.str x] => if x.length = 1 then some (.bool (isSign (x.cps.getD 0 0))) else none
  | _ => none
theorem g_is_sign_ok (ps : List PyData) (d : PyData) (h : g_is_sign ps = some d) : A_is_sign ps d ∧ ps.length = 1 := by
  unfold g_is_sign at h
  split at h
  · next x =>
    split at h
    · next hx =>
      cases h
      have := one_sign hx
      exact ⟨⟨x.cps.getD 0 0, by rw [← this], rfl⟩, rfl⟩
    · cases h
  · cases h
theorem is_sign_run (c : Nat) : oldF g_is_sign [.str ⟨#[c]⟩] = ret (.bool (isSign c)) := rfl
def badD (h : MH) (d : D) : Prop := (∃ ty, tyM h d = some ty ∧ kitB ty "str" = some false) ∨ ∃ x, d = .str x ∧ x.length ≤ sizeLine ∧ isText (.str x) = false
theorem badD.app {h : MH} {d : D} (b : badD h d) (t : MH) : badD (h ++ t) d := by
  rcases b with ⟨ty, h1, h2⟩ | b
  · refine .inl ⟨ty, ?_, h2⟩
    cases d with
    | ref n =>
      rw [tyM_ref] at h1 ⊢
      cases ho : h[n]? with
      | none => rw [ho] at h1; cases h1
      | some o => rw [get_app ho]; rw [ho] at h1; exact h1
    | _ => exact h1
  · exact .inr b
def Q_need_text__altb (F : List D → M D) : Prop := ∀ h d, badD h d → F [d] h = some (.error "BadText", h)

theorem ex_need_text__altb : ∃ F : List D → M D, (∀ {P : Program} {w : World} {K : PySem.W.Frag} {mg : Str → Option Value} {base : Heap} {Ts : List (Addr × Str)} (T : GT K mg), Cal P w K mg base (XC P w) 2 "need_text" ["text"] (spM K Ts 1 F)) ∧ Q_need_text__altb F := by
  refine ⟨_, fun {P w K mg base Ts} T => cal_R T.f_need_text T.g_need_text sc_need_text (fun _ _ _ _ _ _ us hl => match us, hl with | [_], _ => rfl)
    (fun f cdv A' outer s H E hr => ⟨_, (pss_one (ps_if (PW.pt (pw_or (pt_not (pt_val (pe_callB (kisi K) (by rfl) T.z_isinstance (by decide +kernel) (pa_cons (pv 0) (pa_cons (pe_bltn (v := .ty "str") (by rfl) T.z_str (by decide +kernel) rfl) pa_nil))))) (pw_or (pt_cmpR op_gt (pe_callB (klen K) (by rfl) T.z_len (by decide +kernel) (pa_cons (pv 0) pa_nil)) (pe_gi (by rfl) T.i_MOST_TEXT) (nomark _)) (pw_or1 (pt_not (pt_val (pe_callB (kall K) (by rfl) T.z_all (by decide +kernel) (pa_cons (pe_lc (own := [("sign", 1)]) rfl sc_need_text.nd (pi_str (pv 0)) (blkOk_by (own := [("sign", 1)]) (N := ["text", "sign"]) (sc := defScope s_need_text) (by decide +kernel)) (fun _ _ _ _ _ => by exact (pG 1 sc_need_text.nd)) (fun _ _ _ _ _ => by exact pts_nil) (fun _ _ _ _ _ => by exact (pe_cal (c_is_sign T) (hr.mono (by decide)) pass0 (pa_cons (pv 1) pa_nil)))) pa_nil)))))))) (pss_one (L2N.ps_raise rfl (L2N.takes_of rfl rfl rfl rfl) (L2N.pmk_own PySem.F.excBase_ValueError T.x_BadText.1 T.g_BadText T.x_BadText.2.1 (raises_own T.x_BadText.2.2.1 T.x_BadText.2.2.2) rfl))) pss_nil)),
    (ss_if (st_or (st_not (st_B (sm_isi (sm_var 0)))) (st_or (st_test (sm_op kr_gt (sm_cb kc_len (sa_cons (sm_var 0) sa_nil)) sm_int)) (st_not (st_B (sm_cb kc_all (sa_cons (sm_fr (sl_lc (si_str (sm_var 0)) (go_name (by decide)) (sg_name 1) st_yes (sm_callF g_is_sign g_is_sign_ok (sa_cons (sm_var 1) sa_nil)))) sa_nil)))))) ss_raise ss_next)⟩) rfl, ?_⟩
  intro h d b
  rcases b with ⟨ty, h1, h2⟩ | ⟨x, rfl, h1, h2⟩
  · walk_at "es"
  · have k1 : tyM h (.str x) = some "str" := rfl
    have k2 : kitB "str" "str" = some true := by decide +kernel
    have h2 : (decide (x.length ≤ 4000) && x.cps.toList.all isSign) = false := h2
    by_cases hl : x.length ≤ 4000
    · rw [decide_eq_true hl, Bool.true_and] at h2
      have d1 : decide ((4000 : Int) < (x.length : Int)) = false := decide_eq_false (by omega)
      have xl : x.cps.toList.length ≤ sizeLine := by rw [strlen]; exact h1
      clear hl
      walk_at "es"
      rw [lc_pure (fun c : Nat => D.str ⟨#[c]⟩) (fun c => .bool (isSign c)) ck_none x.cps.toList (fun c hc => ⟨_, rfl, by walk_at "es"; rw [is_sign_run]; rfl⟩)]
      have bm := bools_map isSign x.cps.toList
      have am : (x.cps.toList.map isSign).all id = false := by rw [all_map]; exact h2
      walk_at "es"
    · have d1 : decide ((4000 : Int) < (x.length : Int)) = true := decide_eq_true (by omega)
      clear hl h2
      walk_at "es"
noncomputable def F_need_text__altb : List D → M D := Classical.choose ex_need_text__altb
theorem c_need_text__altb {P : Program} {w : World} {K : PySem.W.Frag} {mg : Str → Option Value} {base : Heap} {Ts : List (Addr × Str)} (T : GT K mg) : Cal P w K mg base (XC P w) 2 "need_text" ["text"] (spM K Ts 1 F_need_text__altb) := (Classical.choose_spec ex_need_text__altb).1 T
theorem run_need_text__altb : Q_need_text__altb F_need_text__altb := (Classical.choose_spec ex_need_text__altb).2
def Q_Reader_feed__altb (F : List D → M D) : Prop := ∀ h n d, badD h d → F [.ref n, d] h = some (.error "BadText", h)

theorem ex_Reader_feed__altb : ∃ F : List D → M D, (∀ {P : Program} {w : World} {K : PySem.W.Frag} {mg : Str → Option Value} {base : Heap} {Ts : List (Addr × Str)} (T : GT K mg), CalM P w K mg base (XC P w) 3 "Reader" "feed" ["self", "text"] (spM K Ts 2 F)) ∧ Q_Reader_feed__altb F := by
  refine ⟨_, fun {P w K mg base Ts} T => calM_R T.f_Reader_feed T.c_Reader T.m_Reader_feed sc_Reader_feed (fun _ _ _ _ _ _ us hl => match us, hl with | [_, _], _ => rfl)
    (fun f cdv A' outer s H E hr => ⟨_, (pss_cons (ps_expr (pe_cal (c_need_text__altb T) (hr.mono (by decide)) (passX rfl rfl rfl rfl) (pa_cons (pv 1) pa_nil)))
      (pss_cons (pS 2 sc_Reader_feed.nd (pe_lst pa_nil))
      (pss_cons (ps_for (passes_of rfl) rfl (pi_str (pv 1)) (pG 3 sc_Reader_feed.nd) (pss_one (ps_expr (kbm K PySem.F.plainAttrs_list PySem.F.slot_list_extend PySem.F.type_list_extend mt_extend (pv 2) (pa_cons (pe_cm K (cm_Reader_read T) (hr.mono (by decide)) pass0 (pv 0) (pa_cons (pv 3) pa_nil)) pa_nil)))))
      (pss_one (ps_ret (pv 2)))))),
    (ss_seq (ss_drop (sm_call (sa_cons (sm_var 1) sa_nil)))
      (ss_seq (ss_asg (sm_th (sl_lst sa_nil)) (sg_name 2))
      (ss_seq (ss_for (si_str (sm_var 1)) (sg_name 3) (ss_drop (sm_bm km_extend (sm_var 2) (sa_cons sm_never sa_nil))))
      (ss_ret (sm_var 2)))))⟩) rfl, ?_⟩
  intro h n d b
  have nt := run_need_text__altb h d b
  walk_at "es"
noncomputable def F_Reader_feed__altb : List D → M D := Classical.choose ex_Reader_feed__altb
theorem cm_Reader_feed__altb {P : Program} {w : World} {K : PySem.W.Frag} {mg : Str → Option Value} {base : Heap} {Ts : List (Addr × Str)} (T : GT K mg) : CalM P w K mg base (XC P w) 3 "Reader" "feed" ["self", "text"] (spM K Ts 2 F_Reader_feed__altb) := (Classical.choose_spec ex_Reader_feed__altb).1 T
theorem run_Reader_feed__altb : Q_Reader_feed__altb F_Reader_feed__altb := (Classical.choose_spec ex_Reader_feed__altb).2
def Q_Screen_feed__altb (F : List D → M D) : Prop := ∀ h n S d, ScAt h n S → badD h d → F [.ref n, d] h = some (.error "BadText", h)

theorem ex_Screen_feed__altb : ∃ F : List D → M D, (∀ {P : Program} {w : World} {K : PySem.W.Frag} {mg : Str → Option Value} {base : Heap} {Ts : List (Addr × Str)} (T : GT K mg), CalM P w K mg base (XC P w) 10 "Screen" "feed" ["self", "text"] (spM K Ts 2 F)) ∧ Q_Screen_feed__altb F := by
  refine ⟨_, fun {P w K mg base Ts} T => calM_R T.f_Screen_feed T.c_Screen T.m_Screen_feed sc_Screen_feed (fun _ _ _ _ _ _ us hl => match us, hl with | [_, _], _ => rfl)
    (fun f cdv A' outer s H E hr => ⟨_, (pss_one (ps_for (passes_of rfl) rfl (ki_list K (pe_cm K (cm_Reader_feed__altb T) (hr.mono (by decide)) (passX rfl rfl rfl rfl) (kfld K (pv 0)) (pa_cons (pv 1) pa_nil))) (pG 2 sc_Screen_feed.nd) (pss_one (ps_expr (pe_cm K (cm_Screen_do T) (hr.mono (by decide)) (passX rfl rfl rfl rfl) (pv 0) (pa_cons (pv 2) pa_nil)))))),
    (ss_for (si_list (sm_meth (sm_fld (C := "Screen") ⟨T.c_Screen, T.n_Screen_reader⟩ (sm_var 0)) (sa_cons (sm_var 1) sa_nil))) (sg_name 2) (ss_drop (sm_meth (sm_var 0) (sa_cons (sm_var 2) sa_nil))))⟩) rfl, ?_⟩
  intro h n S d a b
  have ho := a.o
  have hr := a.rd
  have nt := run_Reader_feed__altb h S.rid d b
  walk_at "es"
noncomputable def F_Screen_feed__altb : List D → M D := Classical.choose ex_Screen_feed__altb
theorem cm_Screen_feed__altb {P : Program} {w : World} {K : PySem.W.Frag} {mg : Str → Option Value} {base : Heap} {Ts : List (Addr × Str)} (T : GT K mg) : CalM P w K mg base (XC P w) 10 "Screen" "feed" ["self", "text"] (spM K Ts 2 F_Screen_feed__altb) := (Classical.choose_spec ex_Screen_feed__altb).1 T
theorem run_Screen_feed__altb : Q_Screen_feed__altb F_Screen_feed__altb := (Classical.choose_spec ex_Screen_feed__altb).2
theorem Scr.bad {h : MH} {n : Nat} {s : Sr} (a : Scr h n s) {d : D} (b : badD h d) : F_Screen_feed__altb [.ref n, d] h = some (.error "BadText", h) := by
  obtain ⟨_, S, a1, _⟩ := a
  exact run_Screen_feed__altb h n S d a1 b
end Sc

namespace Sc
open PySem PySem.Spec PyProof.Rows L2
/-! ### a screen beside all that was there -/
def ScN (h0 h : MH) (n : Nat) (s : Sr) : Prop := Gd s ∧ h0.length ≤ h.length ∧ (∀ k, k < h0.length → h[k]? = h0[k]?) ∧ ∃ S, ScAt h n S ∧ S.v = s ∧ ∀ x ∈ ids n S, h0.length ≤ x
theorem ScN.scr {h0 h : MH} {n : Nat} {s : Sr} (a : ScN h0 h n s) : Scr h n s := by
  obtain ⟨g, _, _, S, a1, a2, _⟩ := a
  exact ⟨g, S, a1, a2⟩
theorem ScN.old {h0 h : MH} {n : Nat} {s : Sr} (a : ScN h0 h n s) {k : Nat} {o : MO} (ho : h0[k]? = some o) : h[k]? = some o := (a.2.2.1 k (lt_of_get ho)).trans ho
theorem scN_new {w hh mo : Int} (k : newOk w hh mo) (h : MH) : ∃ h1, F_Screen___init__ [.ref h.length, .int w, .int hh, .int mo] (h ++ [.ins "Screen" []]) = some (.ok .none, h1) ∧ ScN h h1 h.length (Sr.new w hh mo) := by
  obtain ⟨h1, S, e1, a1, v1, f⟩ := run_Screen___init__.1 w hh mo (h ++ [.ins "Screen" []]) h.length k (get_last1 h _)
  have hl : (h ++ [MO.ins "Screen" []]).length = h.length + 1 := by rw [List.length_append]; rfl
  have f1 := f.len
  refine ⟨h1, e1, Gd.new k, by omega, fun m hm => ?_, S, a1, v1, fun x hx => ?_⟩
  · rw [f.off m (by omega) (fun z => by rw [List.mem_singleton.mp z] at hm; omega), List.getElem?_append_left hm]
  · rcases f.new x hx with z | z
    · rw [List.mem_singleton.mp z]
      exact Nat.le_refl _
    · omega
theorem ScN.feed {h0 h : MH} {n : Nat} {s : Sr} (a : ScN h0 h n s) {l : List Nat} (hl : l.length ≤ 4000) (hs : sgs l) : ∃ h', F_Screen_feed [.ref n, .str (mkS l)] h = some (.ok .none, h') ∧ ScN h0 h' n (s.feed l) := by
  have hb := a.scr.bg
  obtain ⟨g, le, old, S, a1, rfl, a3⟩ := a
  obtain ⟨h', S', e, b1, v, f⟩ := run_Screen_feed.1 (mkS l) (text_is hl hs) h n S a1 g.ok
  have f1 := f.len
  refine ⟨h', e, g.feed hb hs, by omega, fun k hk => ?_, S', b1, v, fun x hx => ?_⟩
  · rw [f.off k (by omega) (fun z => by have := a3 k z; omega)]
    exact old k hk
  · rcases f.new x hx with z | z
    · exact a3 x z
    · omega
/-! ### tapes -/
abbrev Rec := Int × List Nat
def recD (p : Rec) : D := .tuple [.int p.1, .str (mkS p.2)]
def Rok (R : List Rec) : Prop := ∀ p ∈ R, p.2.length ≤ 4000 ∧ sgs p.2
abbrev tpO (sz : D) (r t : Nat) : MO := .ins "Tape" [("sizes", sz), ("rows", .ref r), ("taken", .ref t)]
structure TpAt (h : MH) (n : Nat) (w hh m : Int) (rid tid : Nat) (R Tk : List Rec) : Prop where
  o : h[n]? = some (tpO (.tuple [.int w, .int hh, .int m]) rid tid)
  rows : h[rid]? = some (.lst (R.map recD))
  taken : h[tid]? = some (.lst (Tk.map recD))
  ne : rid ≠ tid
  okR : Rok R
  okT : Rok Tk
  nw : newOk w hh m
  lR : R.length ≤ 60
theorem TpAt.keep {h h' : MH} {n : Nat} {w hh m : Int} {rid tid : Nat} {R Tk : List Rec} (a : TpAt h n w hh m rid tid R Tk) (k : ∀ k, k < h.length → h'[k]? = h[k]?) : TpAt h' n w hh m rid tid R Tk :=
  ⟨(k _ (lt_of_get a.o)).trans a.o, (k _ (lt_of_get a.rows)).trans a.rows, (k _ (lt_of_get a.taken)).trans a.taken, a.ne, a.okR, a.okT, a.nw, a.lR⟩
theorem TpAt.app {h : MH} {n : Nat} {w hh m : Int} {rid tid : Nat} {R Tk : List Rec} (a : TpAt h n w hh m rid tid R Tk) (t : MH) : TpAt (h ++ t) n w hh m rid tid R Tk := a.keep fun k hk => List.getElem?_append_left hk
theorem sd_recs {R : List Rec} (h : Rok R) : SdL (R.map recD) 1 := SdL.map fun p hp => Sd.tuple (.cons (Sd.int _) (.cons (Sd.str fun c hc => sign_uni ((h p hp).2 c (by simpa using hc))) .nil))
def lastT (R : List Rec) : Int := match R.getLast? with | some p => p.1 | none => 0
theorem tpF : ∀ a b c : D, getF ("sizes" : Str) [("sizes", a), ("rows", b), ("taken", c)] = some a ∧ getF ("rows" : Str) [("sizes", a), ("rows", b), ("taken", c)] = some b ∧ getF ("taken" : Str) [("sizes", a), ("rows", b), ("taken", c)] = some c ∧ (getF ("length" : Str) [("sizes", a), ("rows", b), ("taken", c)]).isNone = true ∧ (getF ("record" : Str) [("sizes", a), ("rows", b), ("taken", c)]).isNone = true ∧ (getF ("undo" : Str) [("sizes", a), ("rows", b), ("taken", c)]).isNone = true ∧ (getF ("redo" : Str) [("sizes", a), ("rows", b), ("taken", c)]).isNone = true ∧ (getF ("records" : Str) [("sizes", a), ("rows", b), ("taken", c)]).isNone = true ∧ (getF ("need_tick" : Str) [("sizes", a), ("rows", b), ("taken", c)]).isNone = true ∧ (getF ("screen_behind" : Str) [("sizes", a), ("rows", b), ("taken", c)]).isNone = true ∧ (getF ("page_at" : Str) [("sizes", a), ("rows", b), ("taken", c)]).isNone = true ∧ (getF ("cursor_at" : Str) [("sizes", a), ("rows", b), ("taken", c)]).isNone = true ∧ (getF ("changes_at" : Str) [("sizes", a), ("rows", b), ("taken", c)]).isNone = true ∧ (getF ("first_with" : Str) [("sizes", a), ("rows", b), ("taken", c)]).isNone = true := fun _ _ _ => ⟨rfl, rfl, rfl, rfl, rfl, rfl, rfl, rfl, rfl, rfl, rfl, rfl, rfl, rfl⟩
theorem tpS (a b c d : D) : setF "taken" d [("sizes", a), ("rows", b), ("taken", c)] = ([("sizes", a), ("rows", b), ("taken", d)] : List (Str × D)) := rfl
theorem tpS1 (a b : D) : setF "rows" b [("sizes", a)] = ([("sizes", a), ("rows", b)] : List (Str × D)) := rfl
theorem tpS2 (a b c : D) : setF "taken" c [("sizes", a), ("rows", b)] = ([("sizes", a), ("rows", b), ("taken", c)] : List (Str × D)) := rfl
def Q_Tape___init__ (F : List D → M D) : Prop := (∀ (w hh m : Int) (h : MH) (n : Nat), newOk w hh m → h[n]? = some (.ins "Tape" []) → ∃ h', F [.ref n, .int w, .int hh, .int m] h = some (.ok .none, h') ∧ ∃ rid tid, TpAt h' n w hh m rid tid [] [] ∧ ∀ k, k < h.length → k ≠ n → h'[k]? = h[k]?) ∧
  ∀ (d1 d2 d3 : D) (p1 p2 p3 : PyData) (h : MH) (n : Nat), py2 d1 = some p1 → py2 d2 = some p2 → py2 d3 = some p3 → (isCount p1 2 60 && isCount p2 2 40 && isCount p3 0 200) = false → F [.ref n, d1, d2, d3] h = some (.error "BadSize", h ++ [.ins "Screen" []])
theorem sc_Tape___init__ : FnScope ["self", "wide", "high", "most"] ["self", "wide", "high", "most"] (defScope s_Tape___init__) := ⟨rfl, rfl, rfl, by decide +kernel, rfl, by decide +kernel, by decide +kernel⟩
theorem ex_Tape___init__ : ∃ F : List D → M D, (∀ {P : Program} {w : World} {K : PySem.W.Frag} {mg : Str → Option Value} {base : Heap} {Ts : List (Addr × Str)} (T : GT K mg), CalI P w K mg base (XC P w) 7 "Tape" ["self", "wide", "high", "most"] (spM K Ts 4 F)) ∧ Q_Tape___init__ F := by
  refine ⟨_, fun {P w K mg base Ts} T => calI_R T.f_Tape___init__ sc_Tape___init__ (fun _ _ _ _ _ _ us hl => match us, hl with | [_, _, _, _], _ => rfl)
    (fun f cdv A' outer s H E hr => ⟨_, (pss_cons (ps_expr (pe_mk K (ci_Screen T) T.k_Screen T.g_Screen (hr.mono (by decide)) (passX rfl rfl rfl rfl) (pa_cons (pv 1) (pa_cons (pv 2) (pa_cons (pv 3) pa_nil)))))
      (pss_cons (ks_fld K (pv 0) (pe_tup (pa_cons (pv 1) (pa_cons (pv 2) (pa_cons (pv 3) pa_nil)))))
      (pss_cons (ks_fld K (pv 0) (pe_lst pa_nil))
      (pss_one (ks_fld K (pv 0) (pe_lst pa_nil)))))),
    (ss_seq (ss_drop (sm_make (sa_cons (sm_var 1) (sa_cons (sm_var 2) (sa_cons (sm_var 3) sa_nil)))))
      (ss_seq (ss_fld (C := "Tape") ⟨T.c_Tape, T.n_Tape_sizes⟩ (sm_var 0) (sm_tup (sa_cons (sm_var 1) (sa_cons (sm_var 2) (sa_cons (sm_var 3) sa_nil)))))
      (ss_seq (ss_fld (C := "Tape") ⟨T.c_Tape, T.n_Tape_rows⟩ (sm_var 0) (sm_th (sl_lst sa_nil)))
      (ss_fld (C := "Tape") ⟨T.c_Tape, T.n_Tape_taken⟩ (sm_var 0) (sm_th (sl_lst sa_nil))))))⟩) rfl, ?_⟩
  constructor
  · intro w hh m h n kn ho
    refine rOk ?_
    obtain ⟨h1, q1, sc⟩ := scN_new kn h
    have o1 := sc.old ho
    refine stpR (by walk_at "et"; exact rfl) ?_
    clear q1
    have s3 : 3 ≤ sizeLine := le_sz' (by decide)
    have o2 := set_self' o1
    refine stpR (by walk_at "et"; exact rfl) ?_
    obtain ⟨h2, e2⟩ : ∃ h2, h1.set n (.ins "Tape" [("sizes", .tuple [.int w, .int hh, .int m])]) = h2 := ⟨_, rfl⟩
    have p2 : h2[n]? = some (.ins "Tape" [("sizes", .tuple [.int w, .int hh, .int m])]) := by rw [← e2]; exact set_self' o1 _
    have k2 : ∀ k, k < h.length → k ≠ n → h2[k]? = h[k]? := fun k hk hn => by rw [← e2, set_ne' hn]; exact sc.2.2.1 k hk
    have n2 : h.length ≤ h2.length := by rw [← e2, List.length_set]; exact sc.2.1
    rw [e2]
    clear e2 o2 o1 sc
    have tf := tpS1
    have tf2 := tpS2
    have p3 : (h2 ++ [MO.lst []])[n]? = some (.ins "Tape" [("sizes", .tuple [.int w, .int hh, .int m])]) := get_app p2
    have s0 : 0 ≤ sizeLine := Nat.zero_le _
    refine stpR (by walk_at "et"; exact rfl) ?_
    obtain ⟨h3, e3⟩ : ∃ h3, (h2 ++ [MO.lst []]).set n (.ins "Tape" [("sizes", .tuple [.int w, .int hh, .int m]), ("rows", .ref h2.length)]) = h3 := ⟨_, rfl⟩
    have ne2 : h2.length ≠ n := fun z => by have := lt_of_get p2; omega
    have p4 : h3[n]? = some (.ins "Tape" [("sizes", .tuple [.int w, .int hh, .int m]), ("rows", .ref h2.length)]) := by rw [← e3]; exact set_self' p3 _
    have r4 : h3[h2.length]? = some (.lst []) := by rw [← e3, set_ne' ne2]; exact get_last1 _ _
    have k3 : ∀ k, k < h.length → k ≠ n → h3[k]? = h[k]? := fun k hk hn => by rw [← e3, set_ne' hn, List.getElem?_append_left (by omega)]; exact k2 k hk hn
    have n3 : h3.length = h2.length + 1 := by rw [← e3, List.length_set, List.length_append]; rfl
    rw [e3]
    clear e3 p3
    have p5 : (h3 ++ [MO.lst []])[n]? = some (.ins "Tape" [("sizes", .tuple [.int w, .int hh, .int m]), ("rows", .ref h2.length)]) := get_app p4
    have ne3 : h3.length ≠ n := fun z => by have := lt_of_get p4; omega
    refine ⟨_, _, (by walk_at "et"; try exact rfl), rfl, h2.length, h3.length, ⟨set_self' p5 _, ?_, ?_, by omega, (fun p hp => nomatch hp), (fun p hp => nomatch hp), kn, Nat.zero_le _⟩, fun k hk hn => ?_⟩
    · rw [set_ne' ne2]
      exact get_app r4
    · rw [set_ne' ne3]
      exact get_last1 _ _
    · rw [set_ne' hn, List.getElem?_append_left (by omega)]
      exact k3 k hk hn
  · intro d1 d2 d3 p1 p2 p3 h n e1 e2 e3 hc
    have q := run_Screen___init__.2 d1 d2 d3 p1 p2 p3 (h ++ [.ins "Screen" []]) h.length e1 e2 e3 (get_last1 h _) hc
    clear e1 e2 e3 hc
    walk_at "et"
noncomputable def F_Tape___init__ : List D → M D := Classical.choose ex_Tape___init__
theorem ci_Tape {P : Program} {w : World} {K : PySem.W.Frag} {mg : Str → Option Value} {base : Heap} {Ts : List (Addr × Str)} (T : GT K mg) : CalI P w K mg base (XC P w) 7 "Tape" ["self", "wide", "high", "most"] (spM K Ts 4 F_Tape___init__) := (Classical.choose_spec ex_Tape___init__).1 T
theorem run_Tape___init__ : Q_Tape___init__ F_Tape___init__ := (Classical.choose_spec ex_Tape___init__).2
/-! its length -/
theorem at_last {α : Type} (l : List α) (x : α) : atI (l ++ [x]) (-1) = some x := by
  unfold atI ixN
  rw [if_neg (by decide), if_pos (by rw [List.length_append, List.length_singleton]; omega)]
  show (l ++ [x])[((((l ++ [x]).length : Nat) : Int) + -1).toNat]? = _
  have e : ((((l ++ [x]).length : Nat) : Int) + -1).toNat = l.length := by rw [List.length_append, List.length_singleton]; omega
  rw [e, List.getElem?_append_right (Nat.le_refl _), Nat.sub_self]
  rfl
def Q_Tape_length (F : List D → M D) : Prop := ∀ (h : MH) (n : Nat) (w hh m : Int) (rid tid : Nat) (R Tk : List Rec), TpAt h n w hh m rid tid R Tk → F [.ref n] h = some (.ok (.int (lastT R)), h)
theorem sc_Tape_length : FnScope ["self"] ["self"] (defScope s_Tape_length) := ⟨rfl, rfl, rfl, by decide +kernel, rfl, by decide +kernel, by decide +kernel⟩
theorem ex_Tape_length : ∃ F : List D → M D, (∀ {P : Program} {w : World} {K : PySem.W.Frag} {mg : Str → Option Value} {base : Heap} {Ts : List (Addr × Str)} (T : GT K mg), CalM P w K mg base (XC P w) 1 "Tape" "length" ["self"] (spM K Ts 1 F)) ∧ Q_Tape_length F := by
  refine ⟨_, fun {P w K mg base Ts} T => calM_R T.f_Tape_length T.c_Tape T.m_Tape_length sc_Tape_length (fun _ _ _ _ _ _ us hl => match us, hl with | [_], _ => rfl)
    (fun f cdv A' outer s H E hr => ⟨_, (pss_one (ps_ret (pe_ifExp (pt_cmpR (kne K hr.units) (kfld K (pv 0)) (pe_lst pa_nil) (nomark _)) (pe_ix (kix K) (pe_ix (kix K) (kfld K (pv 0)) (pe_un un_neg pe_int) (fun _ _ => rfl)) pe_int (fun _ _ => rfl)) pe_int))),
    (ss_ret (sm_if (st_test (sm_op kr_ne (sm_fld (C := "Tape") ⟨T.c_Tape, T.n_Tape_rows⟩ (sm_var 0)) (sm_fr (sl_lst sa_nil)))) (sm_op kr_ix (sm_op kr_ix (sm_fld (C := "Tape") ⟨T.c_Tape, T.n_Tape_rows⟩ (sm_var 0)) (sm_neg sm_int)) sm_int) sm_int))⟩) rfl, ?_⟩
  intro h n w hh m rid tid R Tk a
  have ho := a.o
  have hr := a.rows
  have dn := deq_nil (sd_recs a.okR) (by decide) hr
  have tf := tpF
  have s0 : 0 ≤ sizeLine := Nat.zero_le _
  clear a
  rcases List.eq_nil_or_concat R with rfl | ⟨R', p, rfl⟩
  · have e : decide (([] : List Rec).map recD = []) = true := rfl
    rw [e] at dn
    walk_at "et"
    rfl
  · rw [List.concat_eq_append] at *
    have e : decide ((R' ++ [p]).map recD = []) = false := decide_eq_false (by rw [List.map_append]; simp)
    rw [e] at dn
    have al : atI ((R' ++ [p]).map recD) (-1) = some (.tuple [.int p.1, .str (mkS p.2)]) := by rw [List.map_append]; exact at_last _ _
    have lt : lastT (R' ++ [p]) = p.1 := by unfold lastT; rw [List.getLast?_append]; rfl
    rw [lt]
    clear lt e
    walk_at "et"
noncomputable def F_Tape_length : List D → M D := Classical.choose ex_Tape_length
theorem cm_Tape_length {P : Program} {w : World} {K : PySem.W.Frag} {mg : Str → Option Value} {base : Heap} {Ts : List (Addr × Str)} (T : GT K mg) : CalM P w K mg base (XC P w) 1 "Tape" "length" ["self"] (spM K Ts 1 F_Tape_length) := (Classical.choose_spec ex_Tape_length).1 T
theorem run_Tape_length : Q_Tape_length F_Tape_length := (Classical.choose_spec ex_Tape_length).2
theorem TpAt.len {h : MH} {n : Nat} {w hh m : Int} {rid tid : Nat} {R Tk : List Rec} (a : TpAt h n w hh m rid tid R Tk) : F_Tape_length [.ref n] h = some (.ok (.int (lastT R)), h) := run_Tape_length _ _ _ _ _ _ _ _ _ a
/-! records -/
def Q_Tape_records (F : List D → M D) : Prop := ∀ (h : MH) (n : Nat) (w hh m : Int) (rid tid : Nat) (R Tk : List Rec), TpAt h n w hh m rid tid R Tk → F [.ref n] h = some (.ok (.list (R.map recD)), h)
theorem sc_Tape_records : FnScope ["self"] ["self"] (defScope s_Tape_records) := ⟨rfl, rfl, rfl, by decide +kernel, rfl, by decide +kernel, by decide +kernel⟩
theorem ex_Tape_records : ∃ F : List D → M D, (∀ {P : Program} {w : World} {K : PySem.W.Frag} {mg : Str → Option Value} {base : Heap} {Ts : List (Addr × Str)} (T : GT K mg), CalM P w K mg base (XC P w) 1 "Tape" "records" ["self"] (spM K Ts 1 F)) ∧ Q_Tape_records F := by
  refine ⟨_, fun {P w K mg base Ts} T => calM_R T.f_Tape_records T.c_Tape T.m_Tape_records sc_Tape_records (fun _ _ _ _ _ _ us hl => match us, hl with | [_], _ => rfl)
    (fun f cdv A' outer s H E hr => ⟨_, (pss_one (ps_ret (pe_callTy (klist K) (by rfl) T.z_list (by decide +kernel) (pa_cons (kfld K (pv 0)) pa_nil)))),
    (ss_ret (sm_fr (sl_list (sm_fld (C := "Tape") ⟨T.c_Tape, T.n_Tape_rows⟩ (sm_var 0)))))⟩) rfl, ?_⟩
  intro h n w hh m rid tid R Tk a
  have ho := a.o
  have hr := a.rows
  have tf := tpF
  clear a
  walk_at "et"
noncomputable def F_Tape_records : List D → M D := Classical.choose ex_Tape_records
theorem cm_Tape_records {P : Program} {w : World} {K : PySem.W.Frag} {mg : Str → Option Value} {base : Heap} {Ts : List (Addr × Str)} (T : GT K mg) : CalM P w K mg base (XC P w) 1 "Tape" "records" ["self"] (spM K Ts 1 F_Tape_records) := (Classical.choose_spec ex_Tape_records).1 T
theorem run_Tape_records : Q_Tape_records F_Tape_records := (Classical.choose_spec ex_Tape_records).2
/-! record -/
def g_need_text : List PyData → Option (Except Str PyData)
  | [.str x] => if x.length ≤ sizeLine then some (okIf (isText (.str x)) "BadText") else none
  | [e] => some (okIf (isText e) "BadText")
  | _ => none
theorem g_need_text_ok (ps : List PyData) (d : Except Str PyData) (h : g_need_text ps = some d) : A_need_text ps d ∧ ps.length = 1 := by
  unfold g_need_text at h
  split at h
  · split at h
    · next hx => cases h; exact ⟨⟨_, rfl, hx, rfl⟩, rfl⟩
    · cases h
  · next e hn =>
    cases h
    refine ⟨⟨_, rfl, ?_, rfl⟩, rfl⟩
    cases e with
    | str x => exact absurd rfl (hn x)
    | _ => trivial
  · cases h
theorem need_good {l : List Nat} (hl : l.length ≤ 4000) (hs : sgs l) (h : MH) : oldG g_need_text [.str (mkS l)] h = some (.ok .none, h) := by
  have e : (py2L [.str (mkS l)]).bind g_need_text = some (.ok .none) := by
    show g_need_text [.str (mkS l)] = _
    show (if (mkS l).length ≤ sizeLine then some (okIf (isText (.str (mkS l))) "BadText") else none) = _
    rw [if_pos (le_sz' (by rw [mkS_len]; omega)), text_is hl hs]
    rfl
  unfold oldG
  rw [e]
  rfl
theorem need_bad {d : D} {p : PyData} (hp : py2 d = some p) (ht : isText p = false) (hs : textSm p) (h : MH) : oldG g_need_text [d] h = some (.error "BadText", h) := by
  have e : (py2L [d]).bind g_need_text = some (.error "BadText") := by
    have : py2L [d] = some [p] := by
      show (py2 d).bind (fun p => (py2L []).map fun ps => p :: ps) = _
      rw [hp]
      rfl
    rw [this]
    show g_need_text [p] = _
    unfold g_need_text
    cases p with
    | str x =>
      have hs : x.length ≤ sizeLine := hs
      show (if _ then _ else _) = _
      rw [if_pos hs, ht]
      rfl
    | _ => rfl
  unfold oldG
  rw [e]
def Q_Tape_record (F : List D → M D) : Prop := ∀ (h : MH) (n : Nat) (w hh m : Int) (rid tid : Nat) (R Tk : List Rec), TpAt h n w hh m rid tid R Tk →
  (∀ d1 p1 d2, py2 d1 = some p1 → isCount p1 0 1000 = false → F [.ref n, d1, d2] h = some (.error "BadTick", h)) ∧
  (∀ (t : Int) d2, 0 ≤ t → t ≤ 1000 → R.length = 60 → F [.ref n, .int t, d2] h = some (.error "BadTick", h)) ∧
  (∀ (t : Int) d2 p2, 0 ≤ t → t ≤ 1000 → R.length < 60 → py2 d2 = some p2 → isText p2 = false → textSm p2 → F [.ref n, .int t, d2] h = some (.error "BadText", h)) ∧
  (∀ (t : Int) l, 0 ≤ t → t ≤ 1000 → R.length < 60 → l.length ≤ 4000 → sgs l → ∃ h', F [.ref n, .int t, .str (mkS l)] h = some (.ok .none, h') ∧ h.length ≤ h'.length ∧ (∀ k, k < h.length → k ≠ n → k ≠ rid → h'[k]? = h[k]?) ∧ ∃ tid', TpAt h' n w hh m rid tid' (R ++ [(lastT R + t, l)]) [] ∧ (tid' = tid ∨ h.length ≤ tid'))
theorem sc_Tape_record : FnScope ["self", "ticks", "text"] ["self", "ticks", "text"] (defScope s_Tape_record) := ⟨rfl, rfl, rfl, by decide +kernel, rfl, by decide +kernel, by decide +kernel⟩
theorem ex_Tape_record : ∃ F : List D → M D, (∀ {P : Program} {w : World} {K : PySem.W.Frag} {mg : Str → Option Value} {base : Heap} {Ts : List (Addr × Str)} (T : GT K mg), CalM P w K mg base (XC P w) 3 "Tape" "record" ["self", "ticks", "text"] (spM K Ts 3 F)) ∧ Q_Tape_record F := by
  refine ⟨_, fun {P w K mg base Ts} T => calM_R T.f_Tape_record T.c_Tape T.m_Tape_record sc_Tape_record (fun _ _ _ _ _ _ us hl => match us, hl with | [_, _, _], _ => rfl)
    (fun f cdv A' outer s H E hr => ⟨_, (pss_cons (ps_if (PW.pt (pw_or (pt_not (pt_val (pe_cal (c_is_count T) (hr.mono (by decide)) pass0 (pa_cons (pv 1) (pa_cons pe_int (pa_cons (pe_gi (by rfl) T.i_MOST_TICKS) pa_nil)))))) (pw_or1 (pt_cmpR op_ge (pe_callB (klen K) (by rfl) T.z_len (by decide +kernel) (pa_cons (kfld K (pv 0)) pa_nil)) (pe_gi (by rfl) T.i_MOST_RECORDS) (nomark _))))) (pss_one (L2N.ps_raise rfl (L2N.takes_of rfl rfl rfl rfl) (L2N.pmk_own PySem.F.excBase_ValueError T.x_BadTick.1 T.g_BadTick T.x_BadTick.2.1 (raises_own T.x_BadTick.2.2.1 T.x_BadTick.2.2.2) rfl))) pss_nil)
      (pss_cons (ps_expr (pe_cal (c_need_text T) (hr.mono (by decide)) (passX rfl rfl rfl rfl) (pa_cons (pv 2) pa_nil)))
      (pss_cons (ps_expr (kbm K PySem.F.plainAttrs_list PySem.F.slot_list_append PySem.F.type_list_append mt_append (kfld K (pv 0)) (pa_cons (pe_tup (pa_cons (pe_op (kplusA K) (pe_cm0 K (cm_Tape_length T) (hr.mono (by decide)) (passX rfl rfl rfl rfl) (pv 0)) (pv 1)) (pa_cons (pv 2) pa_nil))) pa_nil)))
      (pss_one (ks_fld K (pv 0) (pe_lst pa_nil)))))),
    (ss_seq (ss_if (st_or (st_not (st_B (sm_callF g_is_count g_is_count_ok (sa_cons (sm_var 1) (sa_cons sm_int (sa_cons sm_int sa_nil)))))) (st_test (sm_op kr_ge (sm_cb kc_len (sa_cons (sm_fld (C := "Tape") ⟨T.c_Tape, T.n_Tape_rows⟩ (sm_var 0)) sa_nil)) sm_int))) ss_raise ss_next)
      (ss_seq (ss_drop (sm_callG g_need_text g_need_text_ok (sa_cons (sm_var 2) sa_nil)))
      (ss_seq (ss_drop (sm_bm km_append (sm_fld (C := "Tape") ⟨T.c_Tape, T.n_Tape_rows⟩ (sm_var 0)) (sa_cons (sm_tup (sa_cons (sm_op kr_plus (sm_meth (sm_var 0) sa_nil) (sm_var 1)) (sa_cons (sm_var 2) sa_nil))) sa_nil)))
      (ss_fld (C := "Tape") ⟨T.c_Tape, T.n_Tape_taken⟩ (sm_var 0) (sm_th (sl_lst sa_nil))))))⟩) rfl, ?_⟩
  intro h n w hh m rid tid R Tk a
  have ho := a.o
  have hr := a.rows
  have tf := tpF
  have lR := a.lR
  have ll : R.length ≤ sizeLine := le_sz' (by omega)
  refine ⟨fun d1 p1 d2 e1 hc => ?_, fun t d2 t0 t1 hl => ?_, fun t d2 p2 t0 t1 hl e2 ht hs => ?_, fun t l t0 t1 hl l1 l2 => ?_⟩
  · have cn := cnt_old e1 0 1000
    rw [hc] at cn
    clear a e1 hc
    walk_at "et"
  · have cn := cnt_old (d := .int t) rfl 0 1000
    rw [count_in t0 t1] at cn
    have d6 : decide ((60 : Int) ≤ (R.length : Int)) = true := decide_eq_true (by omega)
    clear a t0 t1 hl
    walk_at "et"
  · have cn := cnt_old (d := .int t) rfl 0 1000
    rw [count_in t0 t1] at cn
    have d6 : decide ((60 : Int) ≤ (R.length : Int)) = false := decide_eq_false (by omega)
    have nb := need_bad e2 ht hs h
    clear a t0 t1 hl e2 ht hs
    walk_at "et"
  · have cn := cnt_old (d := .int t) rfl 0 1000
    rw [count_in t0 t1] at cn
    have d6 : decide ((60 : Int) ≤ (R.length : Int)) = false := decide_eq_false (by omega)
    have nb := need_good l1 l2 h
    have tl := a.len
    have r1 : R.length < sizeLine := by have := le_sz' (n := 61) (by decide); omega
    have s2 : 2 ≤ sizeLine := le_sz' (by decide)
    have s0 : 0 ≤ sizeLine := Nat.zero_le _
    have ne1 : n ≠ rid := fun z => by rw [z, hr] at ho; cases ho
    refine rOk ?_
    refine stpR (by walk_at "et"; exact rfl) ?_
    refine stpR (by walk_at "et"; exact rfl) ?_
    have ap : appF (R.map recD) [.tuple [.int (lastT R + t), .str (mkS l)]] = some ((R ++ [(lastT R + t, l)]).map recD, .none) := by
      unfold appF
      rw [List.map_append]
      first | exact if_pos (by rw [List.length_map]; exact r1) | rfl
    refine stpR (by walk_at "et"; exact rfl) ?_
    obtain ⟨h2, e2⟩ : ∃ h2, h.set rid (.lst ((R ++ [(lastT R + t, l)]).map recD)) = h2 := ⟨_, rfl⟩
    have p2 : h2[n]? = some (tpO (.tuple [.int w, .int hh, .int m]) rid tid) := by rw [← e2, set_ne' ne1]; exact ho
    have r2 : h2[rid]? = some (.lst ((R ++ [(lastT R + t, l)]).map recD)) := by rw [← e2]; exact set_self' hr _
    have k2 : ∀ k, k < h.length → k ≠ rid → h2[k]? = h[k]? := fun k hk hn => by rw [← e2, set_ne' hn]
    have n2 : h2.length = h.length := by rw [← e2, List.length_set]
    rw [e2]
    clear e2 tl nb cn ap d6 ho
    have p3 : (h2 ++ [MO.lst []])[n]? = some (tpO (.tuple [.int w, .int hh, .int m]) rid tid) := get_app p2
    have ts := tpS
    refine ⟨_, _, (by walk_at "et"; try exact rfl), rfl, ?_, fun k hk hn hn2 => ?_, h2.length, ⟨set_self' p3 _, ?_, ?_, ?_, ?_, (fun p hp => nomatch hp), a.nw, ?_⟩, .inr (by omega)⟩
    · rw [List.length_set, List.length_append]
      omega
    · rw [set_ne' hn, List.getElem?_append_left (by omega)]
      exact k2 k hk hn2
    · rw [set_ne' (Ne.symm ne1)]
      exact get_app r2
    · rw [set_ne' (fun z => by have := lt_of_get p2; omega)]
      exact get_last1 _ _
    · have := lt_of_get r2
      omega
    · intro p hp
      rcases List.mem_append.mp hp with z | z
      · exact a.okR p z
      · rw [List.mem_singleton.mp z]
        exact ⟨l1, l2⟩
    · rw [List.length_append, List.length_singleton]
      omega
noncomputable def F_Tape_record : List D → M D := Classical.choose ex_Tape_record
theorem cm_Tape_record {P : Program} {w : World} {K : PySem.W.Frag} {mg : Str → Option Value} {base : Heap} {Ts : List (Addr × Str)} (T : GT K mg) : CalM P w K mg base (XC P w) 3 "Tape" "record" ["self", "ticks", "text"] (spM K Ts 3 F_Tape_record) := (Classical.choose_spec ex_Tape_record).1 T
theorem run_Tape_record : Q_Tape_record F_Tape_record := (Classical.choose_spec ex_Tape_record).2
/-! ticks -/
def Q_Tape_need_tick (F : List D → M D) : Prop := ∀ (h : MH) (n : Nat) (w hh m : Int) (rid tid : Nat) (R Tk : List Rec), TpAt h n w hh m rid tid R Tk →
  (∀ (t : Int), 0 ≤ t → t ≤ lastT R → F [.ref n, .int t] h = some (.ok .none, h)) ∧ ∀ d p, py2 d = some p → isCount p 0 (lastT R) = false → F [.ref n, d] h = some (.error "BadTick", h)
theorem sc_Tape_need_tick : FnScope ["self", "tick"] ["self", "tick"] (defScope s_Tape_need_tick) := ⟨rfl, rfl, rfl, by decide +kernel, rfl, by decide +kernel, by decide +kernel⟩
theorem ex_Tape_need_tick : ∃ F : List D → M D, (∀ {P : Program} {w : World} {K : PySem.W.Frag} {mg : Str → Option Value} {base : Heap} {Ts : List (Addr × Str)} (T : GT K mg), CalM P w K mg base (XC P w) 3 "Tape" "need_tick" ["self", "tick"] (spM K Ts 2 F)) ∧ Q_Tape_need_tick F := by
  refine ⟨_, fun {P w K mg base Ts} T => calM_R T.f_Tape_need_tick T.c_Tape T.m_Tape_need_tick sc_Tape_need_tick (fun _ _ _ _ _ _ us hl => match us, hl with | [_, _], _ => rfl)
    (fun f cdv A' outer s H E hr => ⟨_, (pss_one (ps_if (pt_not (pt_val (pe_cal (c_is_count T) (hr.mono (by decide)) pass0 (pa_cons (pv 1) (pa_cons pe_int (pa_cons (pe_cm0 K (cm_Tape_length T) (hr.mono (by decide)) (passX rfl rfl rfl rfl) (pv 0)) pa_nil)))))) (pss_one (L2N.ps_raise rfl (L2N.takes_of rfl rfl rfl rfl) (L2N.pmk_own PySem.F.excBase_ValueError T.x_BadTick.1 T.g_BadTick T.x_BadTick.2.1 (raises_own T.x_BadTick.2.2.1 T.x_BadTick.2.2.2) rfl))) pss_nil)),
    (ss_if (st_not (st_B (sm_callF g_is_count g_is_count_ok (sa_cons (sm_var 1) (sa_cons sm_int (sa_cons (sm_meth (sm_var 0) sa_nil) sa_nil)))))) ss_raise ss_next)⟩) rfl, ?_⟩
  intro h n w hh m rid tid R Tk a
  have ho := a.o
  have tf := tpF
  have tl := a.len
  clear a
  refine ⟨fun t t0 t1 => ?_, fun d p e hc => ?_⟩
  · have cn := cnt_old (d := .int t) rfl 0 (lastT R)
    rw [count_in t0 t1] at cn
    clear t0 t1
    walk_at "et"
  · have cn := cnt_old e 0 (lastT R)
    rw [hc] at cn
    clear e hc
    walk_at "et"
noncomputable def F_Tape_need_tick : List D → M D := Classical.choose ex_Tape_need_tick
theorem cm_Tape_need_tick {P : Program} {w : World} {K : PySem.W.Frag} {mg : Str → Option Value} {base : Heap} {Ts : List (Addr × Str)} (T : GT K mg) : CalM P w K mg base (XC P w) 3 "Tape" "need_tick" ["self", "tick"] (spM K Ts 2 F_Tape_need_tick) := (Classical.choose_spec ex_Tape_need_tick).1 T
theorem run_Tape_need_tick : Q_Tape_need_tick F_Tape_need_tick := (Classical.choose_spec ex_Tape_need_tick).2
/-! a screen behind -/
def feeds (t : Int) (R : List Rec) (s : Sr) : Sr := R.foldl (fun s p => if p.1 ≤ t then s.feed p.2 else s) s
def Q_Tape_screen_behind (F : List D → M D) : Prop := ∀ (h : MH) (n : Nat) (w hh m : Int) (rid tid : Nat) (R Tk : List Rec) (t : Int), TpAt h n w hh m rid tid R Tk →
  ∃ h', F [.ref n, .int t] h = some (.ok (.ref h.length), h') ∧ ScN h h' h.length (feeds t R (Sr.new w hh m))
theorem sc_Tape_screen_behind : FnScope ["self", "tick", "wide", "high", "most", "screen", "own", "text"] ["self", "tick"] (defScope s_Tape_screen_behind) := ⟨rfl, rfl, rfl, by decide +kernel, rfl, by decide +kernel, by decide +kernel⟩
theorem ex_Tape_screen_behind : ∃ F : List D → M D, (∀ {P : Program} {w : World} {K : PySem.W.Frag} {mg : Str → Option Value} {base : Heap} {Ts : List (Addr × Str)} (T : GT K mg), CalM P w K mg base (XC P w) 12 "Tape" "screen_behind" ["self", "tick"] (spM K Ts 2 F)) ∧ Q_Tape_screen_behind F := by
  refine ⟨_, fun {P w K mg base Ts} T => calM_R T.f_Tape_screen_behind T.c_Tape T.m_Tape_screen_behind sc_Tape_screen_behind (fun _ _ _ _ _ _ us hl => match us, hl with | [_, _], _ => rfl)
    (fun f cdv A' outer s H E hr => ⟨_, (pss_cons (ps_asg (kfld K (pv 0)) (kg_tup K 3 (pgs_cons (pG 2 sc_Tape_screen_behind.nd) (pgs_cons (pG 3 sc_Tape_screen_behind.nd) (pgs_cons (pG 4 sc_Tape_screen_behind.nd) pgs_nil)))))
      (pss_cons (pS 5 sc_Tape_screen_behind.nd (pe_mk K (ci_Screen T) T.k_Screen T.g_Screen (hr.mono (by decide)) (passX rfl rfl rfl rfl) (pa_cons (pv 2) (pa_cons (pv 3) (pa_cons (pv 4) pa_nil)))))
      (pss_cons (ps_for (passes_of rfl) rfl (ki_list K (kfld K (pv 0))) (kg_tup K 2 (pgs_cons (pG 6 sc_Tape_screen_behind.nd) (pgs_cons (pG 7 sc_Tape_screen_behind.nd) pgs_nil))) (pss_one (ps_if (pt_cmpR op_leq (pv 6) (pv 1) (nomark _)) (pss_one (ps_expr (pe_cm K (cm_Screen_feed T) (hr.mono (by decide)) (passX rfl rfl rfl rfl) (pv 5) (pa_cons (pv 7) pa_nil)))) pss_nil)))
      (pss_one (ps_ret (pv 5)))))),
    (ss_seq (ss_asg (sm_fld (C := "Tape") ⟨T.c_Tape, T.n_Tape_sizes⟩ (sm_var 0)) (sg_tup (sgs_cons (sg_name 2) (sgs_cons (sg_name 3) (sgs_cons (sg_name 4) sgs_nil)))))
      (ss_seq (ss_asg (sm_make (sa_cons (sm_var 2) (sa_cons (sm_var 3) (sa_cons (sm_var 4) sa_nil)))) (sg_name 5))
      (ss_seq (ss_for (si_list (sm_fld (C := "Tape") ⟨T.c_Tape, T.n_Tape_rows⟩ (sm_var 0))) (sg_tup (sgs_cons (sg_name 6) (sgs_cons (sg_name 7) sgs_nil))) (ss_if (st_test (sm_op kr_le (sm_var 6) (sm_var 1))) (ss_drop (sm_meth (sm_var 5) (sa_cons (sm_var 7) sa_nil))) ss_next))
      (ss_ret (sm_var 5)))))⟩) rfl, ?_⟩
  intro h n w hh m rid tid R Tk t a
  refine rOk ?_
  have ho := a.o
  have hr := a.rows
  have tf := tpF
  have s3 : (3 : Nat) = 3 := rfl
  refine stpR (by walk_at "et"; exact rfl) ?_
  obtain ⟨h1, q1, sc⟩ := scN_new a.nw h
  refine stpR (by walk_at "et"; exact rfl) ?_
  clear q1
  have o1 := sc.old ho
  have r1 := sc.old hr
  generalize hn : List.length h = n0 at sc
  refine stpRE (P := fun e h' => (∃ o1 o2, e = [some (.ref n), some (.int t), some (.int w), some (.int hh), some (.int m), some (.ref n0), o1, o2]) ∧ ScN h h' n0 (feeds t R (Sr.new w hh m))) ?_ ?_
  · walk_at "et"
    generalize hB : forM _ _ _ _ _ _ = r
    obtain ⟨e', h', rfl, hE, sc'⟩ := for_invCE hB (fun j e h' => (∃ o1 o2, e = [some (.ref n), some (.int t), some (.int w), some (.int hh), some (.int m), some (.ref n0), o1, o2]) ∧ ScN h h' n0 (feeds t (R.take j) (Sr.new w hh m))) (fun j e h' hI => ck_some (hI.2.old hr)) (fun j x hx e h2 hI => by
      obtain ⟨⟨o1, o2, rfl⟩, sc⟩ := hI
      rw [List.getElem?_map] at hx
      obtain ⟨p, hp, rfl⟩ := Option.map_eq_some_iff.mp hx
      obtain ⟨hp1, hp2⟩ := a.okR p (List.mem_of_getElem? hp)
      have tk : R.take (j + 1) = R.take j ++ [p] := by
        rw [List.take_add_one, hp]
        rfl
      have fe : feeds t (R.take (j + 1)) (Sr.new w hh m) = if p.1 ≤ t then (feeds t (R.take j) (Sr.new w hh m)).feed p.2 else feeds t (R.take j) (Sr.new w hh m) := by
        rw [tk]
        unfold feeds
        rw [List.foldl_append]
        rfl
      obtain ⟨t0, l⟩ := p
      rw [fe]
      clear hx hB fe tk hp
      have rc : recD (t0, l) = .tuple [.int t0, .str (mkS l)] := rfl
      rw [rc]
      clear rc
      have e2 : (2 : Nat) = 2 := rfl
      by_cases hle : t0 ≤ t
      · obtain ⟨h3, w3, sc3⟩ := sc.feed hp1 hp2
        obtain ⟨S2, x2⟩ := sc.scr.o
        have dl : decide (t0 ≤ t) = true := decide_eq_true hle
        rw [if_pos hle]
        clear hle hp1 hp2
        exact ⟨_, _, (by walk_at "et"; try exact rfl), ⟨_, _, rfl⟩, sc3⟩
      · have dl : decide (t0 ≤ t) = false := decide_eq_false hle
        rw [if_neg hle]
        clear hle hp1 hp2
        exact ⟨_, _, (by walk_at "et"; try exact rfl), ⟨_, _, rfl⟩, sc⟩) ⟨⟨_, _, rfl⟩, sc⟩
    rw [List.length_map, List.take_length] at sc'
    exact ⟨_, _, rfl, hE, sc'⟩
  rintro _ h2 ⟨⟨o1, o2, rfl⟩, sc⟩
  exact ⟨_, _, (by walk_at "et"; try exact rfl), rfl, sc⟩
noncomputable def F_Tape_screen_behind : List D → M D := Classical.choose ex_Tape_screen_behind
theorem cm_Tape_screen_behind {P : Program} {w : World} {K : PySem.W.Frag} {mg : Str → Option Value} {base : Heap} {Ts : List (Addr × Str)} (T : GT K mg) : CalM P w K mg base (XC P w) 12 "Tape" "screen_behind" ["self", "tick"] (spM K Ts 2 F_Tape_screen_behind) := (Classical.choose_spec ex_Tape_screen_behind).1 T
theorem run_Tape_screen_behind : Q_Tape_screen_behind F_Tape_screen_behind := (Classical.choose_spec ex_Tape_screen_behind).2
end Sc

namespace Sc
open PySem PySem.Spec PyProof.Rows L2
theorem join_chars (l : List Nat) : Txt.join "" (l.map fun c => (⟨#[c]⟩ : Str)) = mkS l := by
  have h := join_eq (l.map fun c => (⟨#[c]⟩ : Str))
  cases hj : Txt.join "" (l.map fun c => (⟨#[c]⟩ : Str)) with
  | mk cps =>
    rw [hj] at h
    show _ = Str.mk _
    congr 1
    apply Array.ext'
    rw [h, List.map_map]
    show (l.map _).flatten = l
    clear h hj
    induction l with
    | nil => rfl
    | cons c l ih =>
      rw [List.map_cons, List.flatten_cons, ih]
      rfl
theorem sum_chs (l : List Nat) : ((l.map fun c => (⟨#[c]⟩ : Str)).map (fun x : Str => x.length)).sum = l.length := by
  induction l with
  | nil => rfl
  | cons c l ih =>
    rw [List.map_cons, List.map_cons, List.sum_cons, ih, List.length_cons]
    show 1 + _ = _
    omega
theorem join_is {α : Type} (f : α → Nat) (l : List α) (hl : l.length ≤ 1000) : txts (l.map fun j => D.str ⟨#[f j]⟩) = some (l.map fun j => (⟨#[f j]⟩ : Str)) ∧ Txt.join "" (l.map fun j => (⟨#[f j]⟩ : Str)) = mkS (l.map f) ∧ ((l.map fun j => (⟨#[f j]⟩ : Str)).map (fun x : Str => x.length)).sum + l.length * (Str.ofString "").length ≤ 16777216 := by
  refine ⟨txts_map (fun j => (⟨#[f j]⟩ : Str)) l, ?_, ?_⟩
  · have := join_chars (l.map f)
    rw [List.map_map] at this
    exact this
  · have e := sum_chs (l.map f)
    rw [List.map_map (f := f)] at e
    have e0 : (Str.ofString "").length = 0 := rfl
    have e2 : ((l.map fun j => (⟨#[f j]⟩ : Str)).map (fun x : Str => x.length)).sum = l.length := by
      refine Eq.trans e ?_
      rw [List.length_map]
    rw [e2, e0]
    omega
theorem range_ints (n : Nat) : rangeL 0 n = (List.range n).map fun (j : Nat) => D.int (j : Int) := by
  rw [rng_map]
  congr 1
  funext j
  rw [Int.zero_add]
end Sc

namespace Sc
open PySem PySem.Spec PyProof.Rows L2
theorem TpAt.tick {h : MH} {n : Nat} {w hh m : Int} {rid tid : Nat} {R Tk : List Rec} (a : TpAt h n w hh m rid tid R Tk) {t : Int} (t0 : 0 ≤ t) (t1 : t ≤ lastT R) : F_Tape_need_tick [.ref n, .int t] h = some (.ok .none, h) := (run_Tape_need_tick _ _ _ _ _ _ _ _ _ a).1 t t0 t1
theorem TpAt.noTick {h : MH} {n : Nat} {w hh m : Int} {rid tid : Nat} {R Tk : List Rec} (a : TpAt h n w hh m rid tid R Tk) {d : D} {p : PyData} (e : py2 d = some p) (hc : isCount p 0 (lastT R) = false) : F_Tape_need_tick [.ref n, d] h = some (.error "BadTick", h) := (run_Tape_need_tick _ _ _ _ _ _ _ _ _ a).2 d p e hc
def Q_Tape_page_at (F : List D → M D) : Prop := ∀ (h : MH) (n : Nat) (w hh m : Int) (rid tid : Nat) (R Tk : List Rec), TpAt h n w hh m rid tid R Tk →
  (∀ (t : Int), 0 ≤ t → t ≤ lastT R → ∃ h', F [.ref n, .int t] h = some (.ok (feeds t R (Sr.new w hh m)).pageD, h') ∧ h.length ≤ h'.length ∧ ∀ k, k < h.length → h'[k]? = h[k]?) ∧ ∀ d p, py2 d = some p → isCount p 0 (lastT R) = false → F [.ref n, d] h = some (.error "BadTick", h)
theorem sc_Tape_page_at : FnScope ["self", "tick"] ["self", "tick"] (defScope s_Tape_page_at) := ⟨rfl, rfl, rfl, by decide +kernel, rfl, by decide +kernel, by decide +kernel⟩
theorem ex_Tape_page_at : ∃ F : List D → M D, (∀ {P : Program} {w : World} {K : PySem.W.Frag} {mg : Str → Option Value} {base : Heap} {Ts : List (Addr × Str)} (T : GT K mg), CalM P w K mg base (XC P w) 13 "Tape" "page_at" ["self", "tick"] (spM K Ts 2 F)) ∧ Q_Tape_page_at F := by
  refine ⟨_, fun {P w K mg base Ts} T => calM_R T.f_Tape_page_at T.c_Tape T.m_Tape_page_at sc_Tape_page_at (fun _ _ _ _ _ _ us hl => match us, hl with | [_, _], _ => rfl)
    (fun f cdv A' outer s H E hr => ⟨_, (pss_cons (ps_expr (pe_cm K (cm_Tape_need_tick T) (hr.mono (by decide)) (passX rfl rfl rfl rfl) (pv 0) (pa_cons (pv 1) pa_nil)))
      (pss_one (ps_ret (pe_cm0 K (cm_Screen_page T) (hr.mono (by decide)) (passX rfl rfl rfl rfl) (pe_cm K (cm_Tape_screen_behind T) (hr.mono (by decide)) (passX rfl rfl rfl rfl) (pv 0) (pa_cons (pv 1) pa_nil)))))),
    (ss_seq (ss_drop (sm_meth (sm_var 0) (sa_cons (sm_var 1) sa_nil)))
      (ss_ret (sm_meth (sm_meth (sm_var 0) (sa_cons (sm_var 1) sa_nil)) sa_nil)))⟩) rfl, ?_⟩
  intro h n w hh m rid tid R Tk a
  have ho := a.o
  have tf := tpF
  refine ⟨fun t t0 t1 => ?_, fun d p e hc => ?_⟩
  · have tk := a.tick t0 t1
    obtain ⟨h1, q1, sc⟩ := run_Tape_screen_behind h n w hh m rid tid R Tk t a
    have pg := sc.scr.page
    obtain ⟨S1, x1⟩ := sc.scr.o
    refine ⟨h1, ?_, sc.2.1, sc.2.2.1⟩
    clear a t0 t1 sc
    walk_at "et"
  · have tk := a.noTick e hc
    clear a e hc
    walk_at "et"
noncomputable def F_Tape_page_at : List D → M D := Classical.choose ex_Tape_page_at
theorem cm_Tape_page_at {P : Program} {w : World} {K : PySem.W.Frag} {mg : Str → Option Value} {base : Heap} {Ts : List (Addr × Str)} (T : GT K mg) : CalM P w K mg base (XC P w) 13 "Tape" "page_at" ["self", "tick"] (spM K Ts 2 F_Tape_page_at) := (Classical.choose_spec ex_Tape_page_at).1 T
theorem run_Tape_page_at : Q_Tape_page_at F_Tape_page_at := (Classical.choose_spec ex_Tape_page_at).2
def Q_Tape_cursor_at (F : List D → M D) : Prop := ∀ (h : MH) (n : Nat) (w hh m : Int) (rid tid : Nat) (R Tk : List Rec), TpAt h n w hh m rid tid R Tk →
  (∀ (t : Int), 0 ≤ t → t ≤ lastT R → ∃ h', F [.ref n, .int t] h = some (.ok (feeds t R (Sr.new w hh m)).cursorD, h') ∧ h.length ≤ h'.length ∧ ∀ k, k < h.length → h'[k]? = h[k]?) ∧ ∀ d p, py2 d = some p → isCount p 0 (lastT R) = false → F [.ref n, d] h = some (.error "BadTick", h)
theorem sc_Tape_cursor_at : FnScope ["self", "tick"] ["self", "tick"] (defScope s_Tape_cursor_at) := ⟨rfl, rfl, rfl, by decide +kernel, rfl, by decide +kernel, by decide +kernel⟩
theorem ex_Tape_cursor_at : ∃ F : List D → M D, (∀ {P : Program} {w : World} {K : PySem.W.Frag} {mg : Str → Option Value} {base : Heap} {Ts : List (Addr × Str)} (T : GT K mg), CalM P w K mg base (XC P w) 13 "Tape" "cursor_at" ["self", "tick"] (spM K Ts 2 F)) ∧ Q_Tape_cursor_at F := by
  refine ⟨_, fun {P w K mg base Ts} T => calM_R T.f_Tape_cursor_at T.c_Tape T.m_Tape_cursor_at sc_Tape_cursor_at (fun _ _ _ _ _ _ us hl => match us, hl with | [_, _], _ => rfl)
    (fun f cdv A' outer s H E hr => ⟨_, (pss_cons (ps_expr (pe_cm K (cm_Tape_need_tick T) (hr.mono (by decide)) (passX rfl rfl rfl rfl) (pv 0) (pa_cons (pv 1) pa_nil)))
      (pss_one (ps_ret (pe_cm0 K (cm_Screen_cursor T) (hr.mono (by decide)) (passX rfl rfl rfl rfl) (pe_cm K (cm_Tape_screen_behind T) (hr.mono (by decide)) (passX rfl rfl rfl rfl) (pv 0) (pa_cons (pv 1) pa_nil)))))),
    (ss_seq (ss_drop (sm_meth (sm_var 0) (sa_cons (sm_var 1) sa_nil)))
      (ss_ret (sm_meth (sm_meth (sm_var 0) (sa_cons (sm_var 1) sa_nil)) sa_nil)))⟩) rfl, ?_⟩
  intro h n w hh m rid tid R Tk a
  have ho := a.o
  have tf := tpF
  refine ⟨fun t t0 t1 => ?_, fun d p e hc => ?_⟩
  · have tk := a.tick t0 t1
    obtain ⟨h1, q1, sc⟩ := run_Tape_screen_behind h n w hh m rid tid R Tk t a
    have pg := sc.scr.cursor
    obtain ⟨S1, x1⟩ := sc.scr.o
    refine ⟨h1, ?_, sc.2.1, sc.2.2.1⟩
    clear a t0 t1 sc
    walk_at "et"
  · have tk := a.noTick e hc
    clear a e hc
    walk_at "et"
noncomputable def F_Tape_cursor_at : List D → M D := Classical.choose ex_Tape_cursor_at
theorem cm_Tape_cursor_at {P : Program} {w : World} {K : PySem.W.Frag} {mg : Str → Option Value} {base : Heap} {Ts : List (Addr × Str)} (T : GT K mg) : CalM P w K mg base (XC P w) 13 "Tape" "cursor_at" ["self", "tick"] (spM K Ts 2 F_Tape_cursor_at) := (Classical.choose_spec ex_Tape_cursor_at).1 T
theorem run_Tape_cursor_at : Q_Tape_cursor_at F_Tape_cursor_at := (Classical.choose_spec ex_Tape_cursor_at).2
/-! taken back -/
def Q_Tape_undo (F : List D → M D) : Prop := ∀ (h : MH) (n : Nat) (w hh m : Int) (rid tid : Nat) (R Tk : List Rec), TpAt h n w hh m rid tid R Tk →
  (R = [] → F [.ref n] h = some (.error "Nothing", h)) ∧ ∀ R' p, R = R' ++ [p] → Tk.length ≤ 100 → ∃ h', F [.ref n] h = some (.ok .none, h') ∧ h'.length = h.length ∧ (∀ k, k < h.length → k ≠ rid → k ≠ tid → h'[k]? = h[k]?) ∧ TpAt h' n w hh m rid tid R' (Tk ++ [p])
theorem sc_Tape_undo : FnScope ["self"] ["self"] (defScope s_Tape_undo) := ⟨rfl, rfl, rfl, by decide +kernel, rfl, by decide +kernel, by decide +kernel⟩
theorem ex_Tape_undo : ∃ F : List D → M D, (∀ {P : Program} {w : World} {K : PySem.W.Frag} {mg : Str → Option Value} {base : Heap} {Ts : List (Addr × Str)} (T : GT K mg), CalM P w K mg base (XC P w) 1 "Tape" "undo" ["self"] (spM K Ts 1 F)) ∧ Q_Tape_undo F := by
  refine ⟨_, fun {P w K mg base Ts} T => calM_R T.f_Tape_undo T.c_Tape T.m_Tape_undo sc_Tape_undo (fun _ _ _ _ _ _ us hl => match us, hl with | [_], _ => rfl)
    (fun f cdv A' outer s H E hr => ⟨_, (pss_cons (ps_if (pt_cmpR (keq K hr.units) (kfld K (pv 0)) (pe_lst pa_nil) (nomark _)) (pss_one (L2N.ps_raise rfl (L2N.takes_of rfl rfl rfl rfl) (L2N.pmk_own PySem.F.excBase_ValueError T.x_Nothing.1 T.g_Nothing T.x_Nothing.2.1 (raises_own T.x_Nothing.2.2.1 T.x_Nothing.2.2.2) rfl))) pss_nil)
      (pss_one (ps_expr (kbm K PySem.F.plainAttrs_list PySem.F.slot_list_append PySem.F.type_list_append mt_append (kfld K (pv 0)) (pa_cons (kbm0 K PySem.F.plainAttrs_list PySem.F.slot_list_pop PySem.F.type_list_pop mt_pop (kfld K (pv 0))) pa_nil))))),
    (ss_seq (ss_if (st_test (sm_op kr_eq (sm_fld (C := "Tape") ⟨T.c_Tape, T.n_Tape_rows⟩ (sm_var 0)) (sm_fr (sl_lst sa_nil)))) ss_raise ss_next)
      (ss_drop (sm_bm km_append (sm_fld (C := "Tape") ⟨T.c_Tape, T.n_Tape_taken⟩ (sm_var 0)) (sa_cons (sm_bm0 km_pop (sm_fld (C := "Tape") ⟨T.c_Tape, T.n_Tape_rows⟩ (sm_var 0))) sa_nil))))⟩) rfl, ?_⟩
  intro h n w hh m rid tid R Tk a
  have ho := a.o
  have hr := a.rows
  have ht := a.taken
  have dn := deq_nil (sd_recs a.okR) (by decide) hr
  have tf := tpF
  have s0 : 0 ≤ sizeLine := Nat.zero_le _
  refine ⟨fun e => ?_, fun R' p e hl => ?_⟩
  · subst e
    have e : decide (([] : List Rec).map recD = []) = true := rfl
    rw [e] at dn
    clear a
    walk_at "et"
  · subst e
    have e : decide ((R' ++ [p]).map recD = []) = false := decide_eq_false (by rw [List.map_append]; simp)
    rw [e] at dn
    have ne1 := a.ne
    have ne2 : n ≠ rid := fun z => by rw [z, hr] at ho; cases ho
    have ne3 : n ≠ tid := fun z => by rw [z, ht] at ho; cases ho
    have po : popF ((R' ++ [p]).map recD) [] = some (R'.map recD, recD p) := by
      unfold popF
      rw [List.map_append]
      simp
    have tl : Tk.length < sizeLine := by have := le_sz' (n := 101) (by decide); omega
    have ap : appF (Tk.map recD) [recD p] = some ((Tk ++ [p]).map recD, .none) := by
      unfold appF
      rw [List.map_append]
      exact if_pos (by rw [List.length_map]; exact tl)
    have h1 : (h.set rid (.lst (R'.map recD)))[n]? = some (tpO (.tuple [.int w, .int hh, .int m]) rid tid) := by rw [set_ne' ne2]; exact ho
    have h2 : (h.set rid (.lst (R'.map recD)))[tid]? = some (.lst (Tk.map recD)) := by rw [set_ne' (Ne.symm ne1)]; exact ht
    refine ⟨(h.set rid (.lst (R'.map recD))).set tid (.lst ((Tk ++ [p]).map recD)), ?_, by rw [List.length_set, List.length_set], fun k hk hn hn2 => by rw [set_ne' hn2, set_ne' hn], ⟨?_, ?_, set_self' h2 _, ne1, fun q hq => a.okR q (List.mem_append_left _ hq), fun q hq => ?_, a.nw, ?_⟩⟩
    · clear a
      walk_at "et"
    · rw [set_ne' ne3]; exact h1
    · rw [set_ne' ne1]; exact set_self' hr _
    · rcases List.mem_append.mp hq with z | z
      · exact a.okT q z
      · exact a.okR q (List.mem_append_right _ z)
    · have := a.lR
      rw [List.length_append] at this
      omega
noncomputable def F_Tape_undo : List D → M D := Classical.choose ex_Tape_undo
theorem cm_Tape_undo {P : Program} {w : World} {K : PySem.W.Frag} {mg : Str → Option Value} {base : Heap} {Ts : List (Addr × Str)} (T : GT K mg) : CalM P w K mg base (XC P w) 1 "Tape" "undo" ["self"] (spM K Ts 1 F_Tape_undo) := (Classical.choose_spec ex_Tape_undo).1 T
theorem run_Tape_undo : Q_Tape_undo F_Tape_undo := (Classical.choose_spec ex_Tape_undo).2
/-! words -/
def findPg (x : Str) : List (List Cl) → Nat → Option (Nat × Int)
  | [], _ => none
  | cs :: C, i => if 0 ≤ Txt.find (mkS (cs.map Cl.s)) x then some (i, Txt.find (mkS (cs.map Cl.s)) x) else findPg x C (i + 1)
def findTp (x : Str) (w hh m : Int) (R : List Rec) : List Int → Option (Int × Nat × Int)
  | [] => none
  | t :: ts => match findPg x ((feeds t R (Sr.new w hh m)).rows.map Rw.cells) 0 with
    | some (r, c) => some (t, r, c)
    | none => findTp x w hh m R ts
def foundD : Option (Int × Nat × Int) → D
  | some (t, r, c) => .tuple [.int t, .int (r : Int), .int c]
  | none => .none
def wordOk (l : List Nat) : Prop := 1 ≤ l.length ∧ l.length ≤ 20 ∧ ∀ c ∈ l, isSign c = true ∧ c ≠ 10
def badW (h : MH) (d : D) : Prop := (∃ ty, tyM h d = some ty ∧ kitB ty "str" = some false) ∨ ∃ l, d = .str (mkS l) ∧ l.length ≤ 1000 ∧ ((1 ≤ l.length ∧ l.length ≤ 20) → ∃ c ∈ l, isSign c = false ∨ c = 10)
theorem gap_is (c : Nat) : decide ((⟨#[c]⟩ : Str) = Str.ofString "\n") = decide (c = 10) := by
  by_cases h : c = 10
  · rw [h]; rfl
  · rw [decide_eq_false h]
    refine decide_eq_false fun z => h ?_
    have : (⟨#[c]⟩ : Str) = ⟨#[10]⟩ := z
    injection this with this
    injection this with this
    injection this
theorem find_row (cs : List Cl) (hl : cs.length ≤ 1000) : txts (cs.map fun c => D.str ⟨#[c.s]⟩) = some (cs.map oneS) ∧ Txt.join "" (cs.map oneS) = mkS (cs.map Cl.s) ∧ ((cs.map oneS).map (fun x : Str => x.length)).sum + cs.length * (Str.ofString "").length ≤ 16777216 := join_is Cl.s cs hl
theorem enum_at {ds : List D} {i : Nat} {x : D} (h : (enumL ds)[i]? = some x) : ∃ d, ds[i]? = some d ∧ x = .tuple [.int (i : Nat), d] := by
  unfold enumL at h
  rw [List.getElem?_mapIdx] at h
  obtain ⟨d, h1, rfl⟩ := Option.map_eq_some_iff.mp h
  exact ⟨d, h1, rfl⟩
theorem enum_len (ds : List D) : (enumL ds).length = ds.length := List.length_mapIdx
def Q_Tape_first_with (F : List D → M D) : Prop := ∀ (h : MH) (n : Nat) (w hh m : Int) (rid tid : Nat) (R Tk : List Rec), TpAt h n w hh m rid tid R Tk →
  (∀ l, wordOk l → ∃ h', F [.ref n, .str (mkS l)] h = some (.ok (foundD (findTp (mkS l) w hh m R (0 :: R.map (·.1)))), h') ∧ h.length ≤ h'.length ∧ ∀ k, k < h.length → h'[k]? = h[k]?) ∧ ∀ d, badW h d → F [.ref n, d] h = some (.error "BadText", h)
theorem sc_Tape_first_with : FnScope ["self", "word", "tick", "text", "row", "cells", "column", "sign", "cell"] ["self", "word"] (defScope s_Tape_first_with) := ⟨rfl, rfl, rfl, by decide +kernel, rfl, by decide +kernel, by decide +kernel⟩
theorem ex_Tape_first_with : ∃ F : List D → M D, (∀ {P : Program} {w : World} {K : PySem.W.Frag} {mg : Str → Option Value} {base : Heap} {Ts : List (Addr × Str)} (T : GT K mg), CalM P w K mg base (XC P w) 13 "Tape" "first_with" ["self", "word"] (spM K Ts 2 F)) ∧ Q_Tape_first_with F := by
  refine ⟨_, fun {P w K mg base Ts} T => calM_R T.f_Tape_first_with T.c_Tape T.m_Tape_first_with sc_Tape_first_with (fun _ _ _ _ _ _ us hl => match us, hl with | [_, _], _ => rfl)
    (fun f cdv A' outer s H E hr => ⟨_, (pss_cons (ps_if (PW.pt (pw_or (pt_not (pt_val (pe_callB (kisi K) (by rfl) T.z_isinstance (by decide +kernel) (pa_cons (pv 1) (pa_cons (pe_bltn (v := .ty "str") (by rfl) T.z_str (by decide +kernel) rfl) pa_nil))))) (pw_or1 (pt_not (pt_chain op_leq op_leq pe_int (pe_callB (klen K) (by rfl) T.z_len (by decide +kernel) (pa_cons (pv 1) pa_nil)) (pe_gi (by rfl) T.i_MOST_WORD)))))) (pss_one (L2N.ps_raise rfl (L2N.takes_of rfl rfl rfl rfl) (L2N.pmk_own PySem.F.excBase_ValueError T.x_BadText.1 T.g_BadText T.x_BadText.2.1 (raises_own T.x_BadText.2.2.1 T.x_BadText.2.2.2) rfl))) pss_nil)
      (pss_cons (ps_if (pt_not (pt_val (pe_callB (kall K) (by rfl) T.z_all (by decide +kernel) (pa_cons (pe_lc (own := [("sign", 7)]) rfl sc_Tape_first_with.nd (pi_str (pv 1)) (blkOk_by (own := [("sign", 7)]) (N := ["self", "word", "tick", "text", "row", "cells", "column", "sign", "cell"]) (sc := defScope s_Tape_first_with) (by decide +kernel)) (fun _ _ _ _ _ => by exact (pG 7 sc_Tape_first_with.nd)) (fun _ _ _ _ _ => by exact pts_nil) (fun _ _ _ _ _ => by exact (pe_and (pe_cmpR (kne K hr.units) (pv 7) (pe_gs (by rfl) T.t_GAP) (nomark _)) (pe_one (pe_cal (c_is_sign T) (hr.mono (by decide)) pass0 (pa_cons (pv 7) pa_nil)))))) pa_nil)))) (pss_one (L2N.ps_raise rfl (L2N.takes_of rfl rfl rfl rfl) (L2N.pmk_own PySem.F.excBase_ValueError T.x_BadText.1 T.g_BadText T.x_BadText.2.1 (raises_own T.x_BadText.2.2.1 T.x_BadText.2.2.2) rfl))) pss_nil)
      (pss_cons (ps_for (passes_of rfl) rfl (ki_list K (pe_op (kplusA K) (pe_lst (pa_cons (pe_tup (pa_cons pe_int (pa_cons pe_str pa_nil))) pa_nil)) (kfld K (pv 0)))) (kg_tup K 2 (pgs_cons (pG 2 sc_Tape_first_with.nd) (pgs_cons (pG 3 sc_Tape_first_with.nd) pgs_nil))) (pss_one (ps_for (passes_of rfl) rfl (pi_enum (by rfl) T.z_enumerate (pa_cons (pe_cm0 K (cm_Screen_page T) (hr.mono (by decide)) (passX rfl rfl rfl rfl) (pe_cm K (cm_Tape_screen_behind T) (hr.mono (by decide)) (passX rfl rfl rfl rfl) (pv 0) (pa_cons (pv 2) pa_nil))) pa_nil)) (kg_tup K 2 (pgs_cons (pG 4 sc_Tape_first_with.nd) (pgs_cons (pG 5 sc_Tape_first_with.nd) pgs_nil))) (pss_cons (pS 6 sc_Tape_first_with.nd (kbm K PySem.F.plainAttrs_str PySem.F.slot_str_find PySem.F.type_str_find mt_find (kbm K PySem.F.plainAttrs_str PySem.F.slot_str_join PySem.F.type_str_join (kjoin K) pe_str (pa_cons (pe_lc (own := [("cell", 8)]) rfl sc_Tape_first_with.nd (ki_list K (pv 5)) (blkOk_by (own := [("cell", 8)]) (N := ["self", "word", "tick", "text", "row", "cells", "column", "sign", "cell"]) (sc := defScope s_Tape_first_with) (by decide +kernel)) (fun _ _ _ _ _ => by exact (pG 8 sc_Tape_first_with.nd)) (fun _ _ _ _ _ => by exact pts_nil) (fun _ _ _ _ _ => by exact (pe_ix (kix K) (pv 8) pe_int (fun _ _ => rfl)))) pa_nil)) (pa_cons (pv 1) pa_nil)))
      (pss_one (ps_if (pt_cmpR op_ge (pv 6) pe_int (nomark _)) (pss_one (ps_ret (pe_tup (pa_cons (pv 2) (pa_cons (pv 4) (pa_cons (pv 6) pa_nil)))))) pss_nil))))))
      (pss_one (ps_ret pe_non))))),
    (ss_seq (ss_if (st_or (st_not (st_B (sm_isi (sm_var 1)))) (st_not (st_test (sm_chain kr_le kr_le sm_int (sm_cb kc_len (sa_cons (sm_var 1) sa_nil)) sm_int)))) ss_raise ss_next)
      (ss_seq (ss_if (st_not (st_B (sm_cb kc_all (sa_cons (sm_fr (sl_lc (si_str (sm_var 1)) (go_name (by decide)) (sg_name 7) st_yes (sm_and (sm_op kr_ne (sm_var 7) sm_str) (sm_callF g_is_sign g_is_sign_ok (sa_cons (sm_var 7) sa_nil))))) sa_nil)))) ss_raise ss_next)
      (ss_seq (ss_for (si_list (sm_op kr_plus (sm_fr (sl_lst (sa_cons (sm_tup (sa_cons sm_int (sa_cons sm_str sa_nil))) sa_nil))) (sm_fld (C := "Tape") ⟨T.c_Tape, T.n_Tape_rows⟩ (sm_var 0)))) (sg_tup (sgs_cons (sg_name 2) (sgs_cons (sg_name 3) sgs_nil))) (ss_for (si_enum (sm_meth (sm_meth (sm_var 0) (sa_cons (sm_var 2) sa_nil)) sa_nil)) (sg_tup (sgs_cons (sg_name 4) (sgs_cons (sg_name 5) sgs_nil))) (ss_seq (ss_asg (sm_bm km_find (sm_bm km_join sm_str (sa_cons (sm_fr (sl_lc (si_list (sm_var 5)) (go_name (by decide)) (sg_name 8) st_yes (sm_op kr_ix (sm_var 8) sm_int))) sa_nil)) (sa_cons (sm_var 1) sa_nil)) (sg_name 6))
      (ss_if (st_test (sm_op kr_ge (sm_var 6) sm_int)) (ss_ret (sm_tup (sa_cons (sm_var 2) (sa_cons (sm_var 4) (sa_cons (sm_var 6) sa_nil))))) ss_next))))
      (ss_ret sm_non))))⟩) rfl, ?_⟩
  intro h n w hh m rid tid R Tk a
  refine ⟨fun l hw => ?_, fun d b => ?_⟩
  · refine rOk ?_
    obtain ⟨hl1, hl2, hs⟩ := hw
    have k1 : tyM h (.str (mkS l)) = some "str" := rfl
    have k2 : kitB "str" "str" = some true := by decide +kernel
    have ml := mkS_len l
    have sl : l.length ≤ sizeLine := le_sz' (by omega)
    have i1 : decide ((1 : Int) ≤ (l.length : Int)) = true := decide_eq_true (by omega)
    have i2 : decide ((l.length : Int) ≤ 20) = true := decide_eq_true (by omega)
    refine stpR (by walk_at "et"; exact rfl) ?_
    clear k1 k2 ml i1 i2
    refine stpRE (P := fun e h' => (∃ o2 o3 o4 o5 o6 o7 o8, e = [some (.ref n), some (.str (mkS l)), o2, o3, o4, o5, o6, o7, o8]) ∧ h = h') ?_ ?_
    · walk_at "et"
      rw [lc_pure (fun c : Nat => D.str ⟨#[c]⟩) (fun c => .bool (!decide (c = 10) && isSign c)) ck_none l (fun c hc => ⟨_, rfl, ?_⟩)]
      · have bm := bools_map (fun c => !decide (c = 10) && isSign c) l
        have am : (l.map fun c => !decide (c = 10) && isSign c).all id = true := by
          rw [all_map, List.all_eq_true]
          intro c hc
          obtain ⟨s1, s2⟩ := hs c hc
          rw [s1, decide_eq_false s2]
          rfl
        clear hs
        exact ⟨_, _, (by walk_at "et"; try exact rfl), ⟨_, _, _, _, _, _, _, rfl⟩, rfl⟩
      · have gi := gap_is c
        have ir := is_sign_run c
        cases hc10 : decide (c = 10) <;> rw [hc10] at gi <;> walk_at "et" <;> rfl
    rintro _ _ ⟨⟨o2, o3, o4, o5, o6, o7, o8, rfl⟩, rfl⟩
    have ho := a.o
    have hr := a.rows
    have tf := tpF
    have pl : plus h (.list [.tuple [.int 0, .str (Str.ofString "")]]) (.ref rid) = some (.list (((0, []) :: R : List Rec).map recD)) := by
      rw [plus_lr, hr]
      exact if_pos (le_sz' (by have := a.lR; simp <;> omega))
    have s1 : 1 ≤ sizeLine := le_sz' (by decide)
    have s2 : 2 ≤ sizeLine := le_sz' (by decide)
    have s3 : 3 ≤ sizeLine := le_sz' (by decide)
    obtain ⟨R1, hR1⟩ : ∃ R1, ((0, []) :: R : List Rec) = R1 := ⟨_, rfl⟩
    have hts2 : (0 :: R.map (·.1)) = R1.map (·.1) := by rw [← hR1]; rfl
    rw [hR1] at pl
    obtain ⟨ts, hts⟩ : ∃ ts, R1.map (·.1) = ts := ⟨_, rfl⟩
    rw [hts] at hts2
    clear hR1
    rw [hts2]
    refine stpRX (P := fun e h' => findTp (mkS l) w hh m R ts = none ∧ h.length ≤ h'.length ∧ (∀ k, k < h.length → h'[k]? = h[k]?) ∧ e.length = 9) ?_ ?_
    · walk_at "et"
      clear pl
      generalize hB : forM none _ _ _ _ _ = r
      have key := for_invRE hB (fun j e h' => (∃ o2 o3 o4 o5 o6 o7 o8, e = [some (.ref n), some (.str (mkS l)), o2, o3, o4, o5, o6, o7, o8]) ∧ h.length ≤ h'.length ∧ (∀ k, k < h.length → h'[k]? = h[k]?) ∧ findTp (mkS l) w hh m R ts = findTp (mkS l) w hh m R (ts.drop j)) (fun j d h' => d = foundD (findTp (mkS l) w hh m R ts) ∧ h.length ≤ h'.length ∧ ∀ k, k < h.length → h'[k]? = h[k]?) (fun j x hx e h2 hI => by
        obtain ⟨⟨o2, o3, o4, o5, o6, o7, o8, rfl⟩, le2, fr2, ft⟩ := hI
        rw [List.getElem?_map] at hx
        obtain ⟨p, hp, rfl⟩ := Option.map_eq_some_iff.mp hx
        have a2 := a.keep fr2
        have dj : ts.drop j = p.1 :: ts.drop (j + 1) := by
          have h1 : ts[j]? = some p.1 := by rw [← hts, List.getElem?_map, hp]; rfl
          obtain ⟨hlt, e⟩ := List.getElem?_eq_some_iff.mp h1
          rw [List.drop_eq_getElem_cons hlt, e]
        rw [dj] at ft
        clear dj hx hB hp
        obtain ⟨t, l'⟩ := p
        have rc : recD (t, l') = .tuple [.int t, .str (mkS l')] := rfl
        rw [rc]
        clear rc
        obtain ⟨h3, q3, sc⟩ := run_Tape_screen_behind h2 n w hh m rid tid R Tk t a2
        have ho2 := a2.o
        have pg := sc.scr.page
        obtain ⟨S3, x3⟩ := sc.scr.o
        have le3 := sc.2.1
        have fr3 := sc.2.2.1
        obtain ⟨C, hC⟩ : ∃ C, (feeds t R (Sr.new w hh m)).rows.map Rw.cells = C := ⟨_, rfl⟩
        have cl : ∀ cs ∈ C, cs.length ≤ 1000 := fun cs hcs => by
          rw [← hC] at hcs
          obtain ⟨r, hr, rfl⟩ := List.mem_map.mp hcs
          have := sc.1.ok.rc r hr
          have := sc.1.ok.w60
          omega
        have pc : (feeds t R (Sr.new w hh m)).pageD = .list (C.map fun cs => .list (cs.map Cl.d)) := by
          rw [← hC]
          unfold Sr.pageD
          rw [List.map_map]
          rfl
        rw [pc] at pg
        have ft2 : findTp (mkS l) w hh m R (t :: ts.drop (j + 1)) = match findPg (mkS l) C 0 with | some (r, c) => some (t, r, c) | none => findTp (mkS l) w hh m R (ts.drop (j + 1)) := by
          rw [← hC]
          rfl
        rw [ft2] at ft
        clear ft2 pc a2 sc hr ho hC
        walk_at "et"
        clear q3 pg
        generalize hB2 : forM none _ _ _ _ _ = r2
        have key2 := for_invRE hB2 (fun i e h' => (∃ o4 o5 o6 o7 o8, e = [some (.ref n), some (.str (mkS l)), some (.int t), some (.str (mkS l')), o4, o5, o6, o7, o8]) ∧ h' = h3 ∧ findPg (mkS l) C 0 = findPg (mkS l) (C.drop i) i) (fun i d h' => h' = h3 ∧ ∃ c, findPg (mkS l) C 0 = some (i, c) ∧ d = .tuple [.int t, .int (i : Int), .int c]) (fun i x hx e h4 hI => by
          obtain ⟨⟨o4, o5, o6, o7, o8, rfl⟩, rfl, fp⟩ := hI
          obtain ⟨d, hd, rfl⟩ := enum_at hx
          rw [List.getElem?_map] at hd
          obtain ⟨cs, hcs, rfl⟩ := Option.map_eq_some_iff.mp hd
          have di : C.drop i = cs :: C.drop (i + 1) := by
            obtain ⟨hlt, e⟩ := List.getElem?_eq_some_iff.mp hcs
            rw [List.drop_eq_getElem_cons hlt, e]
          have c1 := cl cs (List.mem_of_getElem? hcs)
          obtain ⟨tx, jn, sm⟩ := find_row cs c1
          have fp2 : findPg (mkS l) (cs :: C.drop (i + 1)) i = if 0 ≤ Txt.find (mkS (cs.map Cl.s)) (mkS l) then some (i, Txt.find (mkS (cs.map Cl.s)) (mkS l)) else findPg (mkS l) (C.drop (i + 1)) (i + 1) := rfl
          rw [di, fp2] at fp
          have csl : cs.length ≤ sizeLine := le_sz' (by omega)
          have lc := lc_pure (all := cs.map Cl.d) (e := [some (D.ref n), some (.str (mkS l)), some (.int t), some (.str (mkS l')), some (.int (i : Int)), some (.list (cs.map Cl.d)), o6, o7, none]) (γ := fun d e => ret (e.set 8 (some d))) (φ := fun e => bnd (var 8 e) fun a => bnd (ret (D.int 0)) fun b => rd fun h => ixM h a b) (h := h4) Cl.d (fun c => D.str ⟨#[c.s]⟩) ck_none cs (fun c hc => ⟨_, rfl, rfl⟩)
          clear hx hB2 hd hcs di fp2 cl fr2 fr3
          obtain ⟨v, hv⟩ : ∃ v, Txt.find (mkS (cs.map Cl.s)) (mkS l) = v := ⟨_, rfl⟩
          rw [hv] at fp
          by_cases h0 : 0 ≤ v
          · have d0 : decide (0 ≤ v) = true := decide_eq_true h0
            rw [if_pos h0] at fp
            refine .inr ⟨_, _, _, (by walk_at "et"; try exact rfl), rfl, v, fp, rfl⟩
          · have d0 : decide (0 ≤ v) = false := decide_eq_false h0
            rw [if_neg h0] at fp
            refine .inl ⟨_, _, (by walk_at "et"; try exact rfl), ⟨_, _, _, _, _, rfl⟩, rfl, fp⟩) ⟨⟨_, _, _, _, _, rfl⟩, rfl, rfl⟩
        rcases key2 with ⟨e', h', rfl, ⟨u4, u5, u6, u7, u8, rfl⟩, rfl, fp⟩ | ⟨i, d, e', h', hi, rfl, rfl, c, fp, rfl⟩
        · rw [enum_len, List.length_map, List.drop_length] at fp
          have fp : findPg (mkS l) C 0 = none := fp
          exact .inl ⟨_, _, rfl, ⟨_, _, _, _, _, _, _, rfl⟩, by omega, fun k hk => (fr3 k (by omega)).trans (fr2 k hk), by rw [fp]⟩
        · exact .inr ⟨_, _, _, rfl, by rw [fp]; rfl, by omega, fun k hk => (fr3 k (by omega)).trans (fr2 k hk)⟩) ⟨⟨_, _, _, _, _, _, _, rfl⟩, Nat.le_refl _, fun _ _ => rfl, rfl⟩
      rcases key with ⟨e', h', rfl, ⟨u2, u3, u4, u5, u6, u7, u8, rfl⟩, le, fr, ft⟩ | ⟨j, d, e', h', hj, rfl, rfl, le, fr⟩
      · have dl : ts.drop (R1.map recD).length = [] := by rw [← hts, List.length_map]; exact List.drop_eq_nil_of_le (by rw [List.length_map]; exact Nat.le_refl _)
        rw [dl] at ft
        exact .inl ⟨_, _, rfl, ft, le, fr, rfl⟩
      · exact .inr ⟨_, _, _, rfl, rfl, le, fr⟩
    rintro e1 h1 ⟨ft, le, fr, _⟩
    exact ⟨_, _, rfl, by rw [ft]; rfl, le, fr⟩
  · rcases b with ⟨ty, h1, h2⟩ | ⟨l, rfl, hl, hb⟩
    · clear a
      walk_at "et"
    · have k1 : tyM h (.str (mkS l)) = some "str" := rfl
      have k2 : kitB "str" "str" = some true := by decide +kernel
      have ml := mkS_len l
      have sl : l.length ≤ sizeLine := le_sz' (by omega)
      by_cases c1 : 1 ≤ l.length
      · have i1 : decide ((1 : Int) ≤ (l.length : Int)) = true := decide_eq_true (by omega)
        by_cases c2 : l.length ≤ 20
        · have i2 : decide ((l.length : Int) ≤ 20) = true := decide_eq_true (by omega)
          obtain ⟨c, hc, hcb⟩ := hb ⟨c1, c2⟩
          have am : (l.map fun c => !decide (c = 10) && isSign c).all id = false := by
            rw [all_map]
            refine List.all_eq_false.mpr ⟨c, hc, ?_⟩
            rcases hcb with z | z
            · rw [z, Bool.and_false]
              exact Bool.false_ne_true
            · rw [decide_eq_true z]
              exact Bool.false_ne_true
          have bm := bools_map (fun c => !decide (c = 10) && isSign c) l
          clear a c1 c2 hb hc hcb hl
          walk_at "et"
          rw [lc_pure (fun c : Nat => D.str ⟨#[c]⟩) (fun c => .bool (!decide (c = 10) && isSign c)) ck_none l (fun c hc => ⟨_, rfl, ?_⟩)]
          · walk_at "et"
          · have gi := gap_is c
            have ir := is_sign_run c
            cases hc10 : decide (c = 10) <;> rw [hc10] at gi <;> walk_at "et" <;> rfl
        · have i2 : decide ((l.length : Int) ≤ 20) = false := decide_eq_false (by omega)
          clear a c1 c2 hb hl
          walk_at "et"
      · have i1 : decide ((1 : Int) ≤ (l.length : Int)) = false := decide_eq_false (by omega)
        clear a c1 hb hl
        walk_at "et"
noncomputable def F_Tape_first_with : List D → M D := Classical.choose ex_Tape_first_with
theorem cm_Tape_first_with {P : Program} {w : World} {K : PySem.W.Frag} {mg : Str → Option Value} {base : Heap} {Ts : List (Addr × Str)} (T : GT K mg) : CalM P w K mg base (XC P w) 13 "Tape" "first_with" ["self", "word"] (spM K Ts 2 F_Tape_first_with) := (Classical.choose_spec ex_Tape_first_with).1 T
theorem run_Tape_first_with : Q_Tape_first_with F_Tape_first_with := (Classical.choose_spec ex_Tape_first_with).2
end Sc

namespace Sc
open PySem PySem.Spec PyProof.Rows L2
theorem sc_Tape_changes_at : FnScope ["self", "tick"] ["self", "tick"] (defScope s_Tape_changes_at) := ⟨rfl, rfl, rfl, by decide +kernel, rfl, by decide +kernel, by decide +kernel⟩
def Q_Tape_changes_at__altb (F : List D → M D) : Prop := ∀ (h : MH) (n : Nat) (w hh m : Int) (rid tid : Nat) (R Tk : List Rec), TpAt h n w hh m rid tid R Tk → ∀ d p, py2 d = some p → isCount p 0 (lastT R) = false → F [.ref n, d] h = some (.error "BadTick", h)

theorem ex_Tape_changes_at__altb : ∃ F : List D → M D, (∀ {P : Program} {w : World} {K : PySem.W.Frag} {mg : Str → Option Value} {base : Heap} {Ts : List (Addr × Str)} (T : GT K mg), CalM P w K mg base (XC P w) 13 "Tape" "changes_at" ["self", "tick"] (spM K Ts 2 F)) ∧ Q_Tape_changes_at__altb F := by
  refine ⟨_, fun {P w K mg base Ts} T => calM_R T.f_Tape_changes_at T.c_Tape T.m_Tape_changes_at sc_Tape_changes_at (fun _ _ _ _ _ _ us hl => match us, hl with | [_, _], _ => rfl)
    (fun f cdv A' outer s H E hr => ⟨_, (pss_cons (ps_expr (pe_cm K (cm_Tape_need_tick T) (hr.mono (by decide)) (passX rfl rfl rfl rfl) (pv 0) (pa_cons (pv 1) pa_nil))) pss_never),
    (ss_seq (ss_drop (sm_meth (sm_var 0) (sa_cons (sm_var 1) sa_nil)))
      ss_never)⟩) rfl, ?_⟩
  intro h n w hh m rid tid R Tk a d p e hc
  have ho := a.o
  have tf := tpF
  have tk := a.noTick e hc
  clear a e hc
  walk_at "et"
noncomputable def F_Tape_changes_at__altb : List D → M D := Classical.choose ex_Tape_changes_at__altb
theorem cm_Tape_changes_at__altb {P : Program} {w : World} {K : PySem.W.Frag} {mg : Str → Option Value} {base : Heap} {Ts : List (Addr × Str)} (T : GT K mg) : CalM P w K mg base (XC P w) 13 "Tape" "changes_at" ["self", "tick"] (spM K Ts 2 F_Tape_changes_at__altb) := (Classical.choose_spec ex_Tape_changes_at__altb).1 T
theorem run_Tape_changes_at__altb : Q_Tape_changes_at__altb F_Tape_changes_at__altb := (Classical.choose_spec ex_Tape_changes_at__altb).2
end Sc

namespace Sc
open PySem PySem.Spec PyProof.Rows L2
def rec60 (j : Nat) : Rec := (1000 * ((j : Int) + 1), [97])
def recs (j : Nat) : List Rec := (List.range j).map rec60
theorem recs_last (j : Nat) : lastT (recs j) = 1000 * (j : Int) := by
  unfold lastT recs
  cases j with
  | zero => rfl
  | succ j =>
    rw [List.range_succ, List.map_append, List.getLast?_append]
    show 1000 * ((j : Int) + 1) = _
    omega
theorem recs_succ (j : Nat) : recs j ++ [(lastT (recs j) + 1000, [97])] = recs (j + 1) := by
  rw [recs_last]
  unfold recs
  rw [List.range_succ, List.map_append]
  show _ = _ ++ [rec60 j]
  have : (1000 * (j : Int) + 1000, [97]) = rec60 j := by
    unfold rec60
    rw [Int.mul_add]
    rfl
  rw [this]
theorem recs_len (j : Nat) : (recs j).length = j := by
  unfold recs
  rw [List.length_map, List.length_range]
theorem k61_five : findTp (mkS [97, 97, 97, 97, 97]) 5 5 200 (recs 60) (0 :: (recs 60).map (·.1)) = some (5000, 0, 0) := by decide +kernel
theorem k61_gap : findTp (mkS [32]) 5 5 200 (recs 60) (0 :: (recs 60).map (·.1)) = some (0, 0, 0) := by decide +kernel
theorem k61_none : findTp (mkS [98]) 5 5 200 (recs 60) (0 :: (recs 60).map (·.1)) = none := by decide +kernel
end Sc

namespace Sc
open PySem PySem.Spec PyProof.Rows L2
abbrev lamQ (x : Str) : Str := (x ++ ".<locals>.") ++ "<lambda>"
abbrev refW (c : Str) : D := .tuple [.str "refused", .str c]
theorem sd_ref {c : Str} (h : ∀ x ∈ c.cps.toList, x < 1114112) : Sd (refW c) 1 := Sd.tuple (.cons (Sd.str (by decide)) (.cons (Sd.str h) .nil))
theorem repS_mk (c k : Nat) : repS (mkS [c]) k = mkS (List.replicate k c) := by
  unfold repS
  congr 1
  have : (List.replicate k (mkS [c]).cps.toList).flatten = List.replicate k c := by
    show (List.replicate k [c]).flatten = _
    exact rep_one c k
  rw [this]
theorem k61_w : ∀ d ∈ [D.none, .str "", .int 5, .str (repS "a" 21), .str "a\n", .str "\t"], ∀ h, badW h d := by
  intro d hm h
  simp only [List.mem_cons, List.not_mem_nil, or_false] at hm
  rcases hm with rfl | rfl | rfl | rfl | rfl | rfl
  · exact .inl ⟨"NoneType", rfl, by decide +kernel⟩
  · exact .inr ⟨[], rfl, by decide, by decide⟩
  · exact .inl ⟨"int", rfl, by decide +kernel⟩
  · refine .inr ⟨List.replicate 21 97, ?_, by decide, by decide⟩
    show D.str (repS (mkS [97]) 21) = _
    rw [repS_mk]
  · exact .inr ⟨[97, 10], rfl, by decide, fun _ => ⟨10, by decide, by decide⟩⟩
  · exact .inr ⟨[9], rfl, by decide, fun _ => ⟨9, by decide, by decide⟩⟩
theorem k61_s : ∀ d ∈ [D.tuple [.int 1, .int 5, .int 0], .tuple [.int 61, .int 5, .int 0], .tuple [.int 5, .int 1, .int 0], .tuple [.int 5, .int 41, .int 0], .tuple [.int 5, .int 5, .int (-1)], .tuple [.int 5, .int 5, .int 201], .tuple [.none, .int 5, .int 0], .tuple [.int 5, .int 5, .bool true]], ∃ d1 d2 d3 p1 p2 p3, d = .tuple [d1, d2, d3] ∧ py2 d1 = some p1 ∧ py2 d2 = some p2 ∧ py2 d3 = some p3 ∧ (isCount p1 2 60 && isCount p2 2 40 && isCount p3 0 200) = false := by
  intro d hm
  simp only [List.mem_cons, List.not_mem_nil, or_false] at hm
  rcases hm with rfl | rfl | rfl | rfl | rfl | rfl | rfl | rfl <;> exact ⟨_, _, _, _, _, _, rfl, rfl, rfl, rfl, by decide⟩
theorem k61_t : ∀ d ∈ [D.int (-1), .int 1001, .none, .bool true, .str "1"], ∃ p, py2 d = some p ∧ isCount p 0 1000 = false := by
  intro d hm
  simp only [List.mem_cons, List.not_mem_nil, or_false] at hm
  rcases hm with rfl | rfl | rfl | rfl | rfl <;> exact ⟨_, rfl, by decide⟩
theorem k61_u : ∀ d ∈ [D.int (-1), .int 60001, .none, .bool true, .str "0"], ∃ p, py2 d = some p ∧ isCount p 0 60000 = false := by
  intro d hm
  simp only [List.mem_cons, List.not_mem_nil, or_false] at hm
  rcases hm with rfl | rfl | rfl | rfl | rfl <;> exact ⟨_, rfl, by decide⟩
theorem k61_x : ∀ d ∈ [D.none, .int 5, .str (repS "~~~" 1400), .str "tab\t"], ∃ p, py2 d = some p ∧ isText p = false ∧ textSm p := by
  intro d hm
  simp only [List.mem_cons, List.not_mem_nil, or_false] at hm
  rcases hm with rfl | rfl | rfl | rfl
  · exact ⟨_, rfl, rfl, trivial⟩
  · exact ⟨_, rfl, rfl, trivial⟩
  · refine ⟨_, rfl, ?_, ?_⟩
    · show (decide ((repS "~~~" 1400).length ≤ 4000) && (repS "~~~" 1400).cps.toList.all isSign) = false
      rw [repS_len, decide_eq_false (by decide), Bool.false_and]
    · show (repS "~~~" 1400).length ≤ sizeLine
      rw [repS_len]
      exact le_sz' (by decide)
  · exact ⟨_, rfl, rfl, le_sz' (by decide)⟩
abbrev lawDs : List He.Defn := [("law", none)]
abbrev lawTs (K : PySem.W.Frag) : List (Addr × Str) := lawDs.map fun p => ((He.cT K p).2, lamQ p.1)
abbrev TabsB (K : PySem.W.Frag) (base : Heap) (mg : Str → Option Value) : Prop := ∀ p ∈ lawDs, LamX.TabB base mg (He.cT K p).1 (He.cT K p).2
theorem law_in : (("law", none) : He.Defn) ∈ lawDs := by decide
section
variable {P : Program} {w : World} {K : PySem.W.Frag} {mg : Str → Option Value} {base : Heap} {Ts : List (Addr × Str)}
theorem sc_law : FnScope ["script", "k", "more", "some", "wide", "high", "most", "tape", "bad", "j", "rows"] ["script"] (defScope s_law) := ⟨rfl, rfl, rfl, by decide +kernel, rfl, by decide +kernel, by decide +kernel⟩
theorem c_law (T : GT K mg) (TBs : TabsB K base mg) {fd : FuncData} (FD : FunD K "law" "law" (defArgs s_law) (defBody s_law) (defScope s_law) [] [] (lawA K) fd) : FnOk P w K mg base CX0 18 (lawA K) fd ["script"] (spLaw K (lawTs K)) := by
  refine fn_lam FD sc_law (fun vs H Q E h => ?_) (fun vs H Q E h => h) fun A outer s H vs Q hr h => ?_
  · obtain ⟨a, ns, rfl, _⟩ := h
    rfl
  obtain ⟨a, ns, rfl, hS, hlen, hbits, hT, q⟩ := h
  have TB := TBs _ law_in
  have hmT : (lawP K "law", lamQ "law") ∈ lawTs K := List.mem_cons_self
  have hu : ∀ p ∈ lawTs K, p.1 = lawP K "law" → p.2 = lamQ "law" := fun p hp _ => by
    rw [List.mem_singleton.mp hp]
  refine law_pair ⟨_, (pss_cons (ps_for PassesOwn.never rfl (pi_range1 (by rfl) T.z_range (pa_cons (pe_callB (call_max2 rfl) (by rfl) T.z_max (by decide +kernel) (pa_cons pe_int (pa_cons (pe_callB (call_min2 rfl) (by rfl) T.z_min (by decide +kernel) (pa_cons pe_int (pa_cons (pe_callB (klen K) (by rfl) T.z_len (by decide +kernel) (pa_cons (pv 0) pa_nil)) pa_nil))) pa_nil))) pa_nil)) (pG 1 sc_law.nd) (pss_cons (pS 2 sc_law.nd (pe_cal (c__law_drawn T) (hr.mono (by decide)) pass0 (pa_cons (pe_cal (c__law_cell T) (hr.mono (by decide)) pass0 (pa_cons (pv 0) (pa_cons (pv 1) pa_nil))) (pa_cons (pv 1) pa_nil))))
      (pss_cons (pS 3 sc_law.nd (pe_lst (pa_cons (pe_tup (pa_cons pe_int (pa_cons pe_int (pa_cons pe_int pa_nil)))) (pa_cons (pe_tup (pa_cons pe_int (pa_cons pe_int (pa_cons pe_int pa_nil)))) (pa_cons (pe_tup (pa_cons pe_int (pa_cons pe_int (pa_cons pe_int pa_nil)))) (pa_cons (pe_tup (pa_cons pe_int (pa_cons pe_int (pa_cons pe_int pa_nil)))) (pa_cons (pe_tup (pa_cons pe_int (pa_cons pe_int (pa_cons (pe_un un_neg pe_int) pa_nil)))) (pa_cons (pe_tup (pa_cons pe_int (pa_cons pe_int (pa_cons pe_int pa_nil)))) (pa_cons (pe_tup (pa_cons pe_non (pa_cons pe_int (pa_cons pe_int pa_nil)))) pa_nil)))))))))
      (pss_cons (ps_for PassesOwn.never rfl (ki_list K (pe_op (kplusA K) (pv 3) (pe_lst (pa_cons (pe_tup (pa_cons pe_int (pa_cons pe_int (pa_cons pe_bl pa_nil)))) pa_nil)))) (kg_tup K 3 (pgs_cons (pG 4 sc_law.nd) (pgs_cons (pG 5 sc_law.nd) (pgs_cons (pG 6 sc_law.nd) pgs_nil)))) (pss_one (ps_if (pt_cmpR (kne K hr.units) (told_at T (k := 14) TB rfl hmT hu (hr.mono (by decide)) (by decide) (by rfl) (by show LamX.lamSB (defScope s_law) _ = true; decide +kernel) rfl (fun _ _ _ _ _ => rfl) (fun A' outer s H E f c' hr => by exact (pe_mk K (ci_Tape T) T.k_Tape T.g_Tape (hr.mono (by decide)) (passX rfl rfl rfl rfl) (pa_cons (pv 4) (pa_cons (pv 5) (pa_cons (pv 6) pa_nil)))))) (pe_tup (pa_cons pe_str (pa_cons pe_str pa_nil))) (nomark _)) (pss_one (ps_ret pe_bl)) pss_nil)))
      (pss_cons (pS 7 sc_law.nd (pe_mk K (ci_Tape T) T.k_Tape T.g_Tape (hr.mono (by decide)) passN0 (pa_cons pe_int (pa_cons pe_int (pa_cons pe_int pa_nil)))))
      (pss_cons (ps_for PassesOwn.never rfl (ki_list K (pe_lst (pa_cons (pe_un un_neg pe_int) (pa_cons pe_int (pa_cons pe_non (pa_cons pe_bl (pa_cons pe_str pa_nil))))))) (pG 8 sc_law.nd) (pss_one (ps_if (pt_cmpR (kne K hr.units) (told_at T (k := 14) TB rfl hmT hu (hr.mono (by decide)) (by decide) (by rfl) (by show LamX.lamSB (defScope s_law) _ = true; decide +kernel) rfl (fun _ _ _ _ _ => rfl) (fun A' outer s H E f c' hr => by exact (pe_cm K (cm_Tape_record T) (hr.mono (by decide)) (passX rfl rfl rfl rfl) (pv 7) (pa_cons (pv 8) (pa_cons pe_non pa_nil))))) (pe_tup (pa_cons pe_str (pa_cons pe_str pa_nil))) (nomark _)) (pss_one (ps_ret pe_bl)) pss_nil)))
      (pss_cons (ps_for PassesOwn.never rfl (ki_list K (pe_lst (pa_cons pe_non (pa_cons pe_int (pa_cons (pe_op op_repS pe_str pe_int) (pa_cons pe_str pa_nil)))))) (pG 8 sc_law.nd) (pss_one (ps_if (pt_cmpR (kne K hr.units) (told_at T (k := 14) TB rfl hmT hu (hr.mono (by decide)) (by decide) (by rfl) (by show LamX.lamSB (defScope s_law) _ = true; decide +kernel) rfl (fun _ _ _ _ _ => rfl) (fun A' outer s H E f c' hr => by exact (pe_cm K (cm_Tape_record T) (hr.mono (by decide)) (passX rfl rfl rfl rfl) (pv 7) (pa_cons (pe_op op_mod (pv 2) pe_int) (pa_cons (pv 8) pa_nil))))) (pe_tup (pa_cons pe_str (pa_cons pe_str pa_nil))) (nomark _)) (pss_one (ps_ret pe_bl)) pss_nil)))
      (pss_cons (ps_if (PW.pt (pw_or (pt_cmpR (kne K hr.units) (pe_cm0 K (cm_Tape_records T) (hr.mono (by decide)) passN0 (pv 7)) (pe_lst pa_nil) (nomark _)) (pw_or1 (pt_cmpR (kne K hr.units) (told_at T (k := 14) TB rfl hmT hu (hr.mono (by decide)) (by decide) (by rfl) (by show LamX.lamSB (defScope s_law) _ = true; decide +kernel) rfl (fun _ _ _ _ _ => rfl) (fun A' outer s H E f c' hr => by exact (pe_cm0 K (cm_Tape_undo T) (hr.mono (by decide)) (passX rfl rfl rfl rfl) (pv 7)))) (pe_tup (pa_cons pe_str (pa_cons pe_str pa_nil))) (nomark _))))) (pss_one (ps_ret pe_bl)) pss_nil)
      (pss_cons (ps_for PassesOwn.never rfl (pi_range1 (by rfl) T.z_range (pa_cons pe_int pa_nil)) (pG 9 sc_law.nd) (pss_one (ps_expr (pe_cm K (cm_Tape_record T) (hr.mono (by decide)) passN0 (pv 7) (pa_cons pe_int (pa_cons pe_str pa_nil))))))
      (pss_cons (ps_if (PW.pt (pw_or (pt_cmpR (kne K hr.units) (told_at T (k := 14) TB rfl hmT hu (hr.mono (by decide)) (by decide) (by rfl) (by show LamX.lamSB (defScope s_law) _ = true; decide +kernel) rfl (fun _ _ _ _ _ => rfl) (fun A' outer s H E f c' hr => by exact (pe_cm K (cm_Tape_record T) (hr.mono (by decide)) (passX rfl rfl rfl rfl) (pv 7) (pa_cons pe_int (pa_cons pe_str pa_nil))))) (pe_tup (pa_cons pe_str (pa_cons pe_str pa_nil))) (nomark _)) (pw_or1 (pt_cmpR (kne K hr.units) (pe_cm0 K (cm_Tape_length T) (hr.mono (by decide)) passN0 (pv 7)) pe_int (nomark _))))) (pss_one (ps_ret pe_bl)) pss_nil)
      (pss_cons (ps_for PassesOwn.never rfl (ki_list K (pe_lst (pa_cons (pe_un un_neg pe_int) (pa_cons pe_int (pa_cons pe_non (pa_cons pe_bl (pa_cons pe_str pa_nil))))))) (pG 8 sc_law.nd) (pss_cons (pS 10 sc_law.nd (pe_lst (pa_cons (told_at T (k := 14) TB rfl hmT hu (hr.mono (by decide)) (by decide) (by rfl) (by show LamX.lamSB (defScope s_law) _ = true; decide +kernel) rfl (fun _ _ _ _ _ => rfl) (fun A' outer s H E f c' hr => by exact (pe_cm K (cm_Tape_page_at T) (hr.mono (by decide)) (passX rfl rfl rfl rfl) (pv 7) (pa_cons (pv 8) pa_nil)))) pa_nil)))
      (pss_cons (ps_expr (kbm K PySem.F.plainAttrs_list PySem.F.slot_list_append PySem.F.type_list_append mt_append (pv 10) (pa_cons (told_at T (k := 14) TB rfl hmT hu (hr.mono (by decide)) (by decide) (by rfl) (by show LamX.lamSB (defScope s_law) _ = true; decide +kernel) rfl (fun _ _ _ _ _ => rfl) (fun A' outer s H E f c' hr => by exact (pe_cm K (cm_Tape_cursor_at T) (hr.mono (by decide)) (passX rfl rfl rfl rfl) (pv 7) (pa_cons (pv 8) pa_nil)))) pa_nil)))
      (pss_cons (ps_expr (kbm K PySem.F.plainAttrs_list PySem.F.slot_list_append PySem.F.type_list_append mt_append (pv 10) (pa_cons (told_at T (k := 14) TB rfl hmT hu (hr.mono (by decide)) (by decide) (by rfl) (by show LamX.lamSB (defScope s_law) _ = true; decide +kernel) rfl (fun _ _ _ _ _ => rfl) (fun A' outer s H E f c' hr => by exact (pe_cm K (cm_Tape_changes_at__altb T) (hr.mono (by decide)) (passX rfl rfl rfl rfl) (pv 7) (pa_cons (pv 8) pa_nil)))) pa_nil)))
      (pss_one (ps_if (pt_cmpR (kne K hr.units) (pv 10) (pe_op (ktimes K) (pe_lst (pa_cons (pe_tup (pa_cons pe_str (pa_cons pe_str pa_nil))) pa_nil)) pe_int) (nomark _)) (pss_one (ps_ret pe_bl)) pss_nil))))))
      (pss_cons (ps_for PassesOwn.never rfl (ki_list K (pe_lst (pa_cons pe_non (pa_cons pe_str (pa_cons pe_int (pa_cons (pe_op op_repS pe_str pe_int) (pa_cons pe_str (pa_cons pe_str pa_nil)))))))) (pG 8 sc_law.nd) (pss_one (ps_if (pt_cmpR (kne K hr.units) (told_at T (k := 14) TB rfl hmT hu (hr.mono (by decide)) (by decide) (by rfl) (by show LamX.lamSB (defScope s_law) _ = true; decide +kernel) rfl (fun _ _ _ _ _ => rfl) (fun A' outer s H E f c' hr => by exact (pe_cm K (cm_Tape_first_with T) (hr.mono (by decide)) (passX rfl rfl rfl rfl) (pv 7) (pa_cons (pv 8) pa_nil)))) (pe_tup (pa_cons pe_str (pa_cons pe_str pa_nil))) (nomark _)) (pss_one (ps_ret pe_bl)) pss_nil)))
      (pss_cons (ps_if (PW.pt (pw_or (pt_cmpR (kne K hr.units) (pe_cm K (cm_Tape_first_with T) (hr.mono (by decide)) passN0 (pv 7) (pa_cons (pe_op op_repS pe_str pe_int) pa_nil)) (pe_tup (pa_cons pe_int (pa_cons pe_int (pa_cons pe_int pa_nil)))) (nomark _)) (pw_or1 (pt_cmpR (kne K hr.units) (pe_cm K (cm_Tape_first_with T) (hr.mono (by decide)) passN0 (pv 7) (pa_cons pe_str pa_nil)) (pe_tup (pa_cons pe_int (pa_cons pe_int (pa_cons pe_int pa_nil)))) (nomark _))))) (pss_one (ps_ret pe_bl)) pss_nil)
      (pss_one (ps_if (pt_cmp (pc_notN (pe_cm K (cm_Tape_first_with T) (hr.mono (by decide)) passN0 (pv 7) (pa_cons pe_str pa_nil)))) (pss_one (ps_ret pe_bl)) pss_nil)))))))))))))))
      (pss_one (ps_ret pe_bl))), (ss_seq (ss_for (si_range1 (sa_cons (sm_cb kc_max (sa_cons sm_int (sa_cons (sm_cb kc_min (sa_cons sm_int (sa_cons (sm_cb kc_len (sa_cons (sm_var 0) sa_nil)) sa_nil))) sa_nil))) sa_nil)) (sg_name 1) (ss_seq (ss_asg (sm_callF g_law_drawn g_law_drawn_ok (sa_cons (sm_lcell (sm_var 0) (sm_var 1)) (sa_cons (sm_var 1) sa_nil))) (sg_name 2))
      (ss_seq (ss_asg (sm_fr (sl_lst (sa_cons (sm_tup (sa_cons sm_int (sa_cons sm_int (sa_cons sm_int sa_nil)))) (sa_cons (sm_tup (sa_cons sm_int (sa_cons sm_int (sa_cons sm_int sa_nil)))) (sa_cons (sm_tup (sa_cons sm_int (sa_cons sm_int (sa_cons sm_int sa_nil)))) (sa_cons (sm_tup (sa_cons sm_int (sa_cons sm_int (sa_cons sm_int sa_nil)))) (sa_cons (sm_tup (sa_cons sm_int (sa_cons sm_int (sa_cons (sm_neg sm_int) sa_nil)))) (sa_cons (sm_tup (sa_cons sm_int (sa_cons sm_int (sa_cons sm_int sa_nil)))) (sa_cons (sm_tup (sa_cons sm_non (sa_cons sm_int (sa_cons sm_int sa_nil)))) sa_nil))))))))) (sg_name 3))
      (ss_seq (ss_for (si_list (sm_op kr_plus (sm_var 3) (sm_fr (sl_lst (sa_cons (sm_tup (sa_cons sm_int (sa_cons sm_int (sa_cons sm_bl sa_nil)))) sa_nil))))) (sg_tup (sgs_cons (sg_name 4) (sgs_cons (sg_name 5) (sgs_cons (sg_name 6) sgs_nil)))) (ss_if (st_test (sm_op kr_ne (sm_told fun E' => (sm_make (sa_cons (sm_var 4) (sa_cons (sm_var 5) (sa_cons (sm_var 6) sa_nil))))) (sm_tup (sa_cons sm_str (sa_cons sm_str sa_nil))))) (ss_ret sm_bl) ss_next))
      (ss_seq (ss_asg (sm_make (sa_cons sm_int (sa_cons sm_int (sa_cons sm_int sa_nil)))) (sg_name 7))
      (ss_seq (ss_for (si_list (sm_fr (sl_lst (sa_cons (sm_neg sm_int) (sa_cons sm_int (sa_cons sm_non (sa_cons sm_bl (sa_cons sm_str sa_nil)))))))) (sg_name 8) (ss_if (st_test (sm_op kr_ne (sm_told fun E' => (sm_meth (sm_var 7) (sa_cons (sm_var 8) (sa_cons sm_non sa_nil)))) (sm_tup (sa_cons sm_str (sa_cons sm_str sa_nil))))) (ss_ret sm_bl) ss_next))
      (ss_seq (ss_for (si_list (sm_fr (sl_lst (sa_cons sm_non (sa_cons sm_int (sa_cons (sm_op kr_repS sm_str sm_int) (sa_cons sm_str sa_nil))))))) (sg_name 8) (ss_if (st_test (sm_op kr_ne (sm_told fun E' => (sm_meth (sm_var 7) (sa_cons (sm_op kr_mod (sm_var 2) sm_int) (sa_cons (sm_var 8) sa_nil)))) (sm_tup (sa_cons sm_str (sa_cons sm_str sa_nil))))) (ss_ret sm_bl) ss_next))
      (ss_seq (ss_if (st_or (st_test (sm_op kr_ne (sm_meth (sm_var 7) sa_nil) (sm_fr (sl_lst sa_nil)))) (st_test (sm_op kr_ne (sm_told fun E' => (sm_meth (sm_var 7) sa_nil)) (sm_tup (sa_cons sm_str (sa_cons sm_str sa_nil)))))) (ss_ret sm_bl) ss_next)
      (ss_seq (ss_for (si_range1 (sa_cons sm_int sa_nil)) (sg_name 9) (ss_drop (sm_meth (sm_var 7) (sa_cons sm_int (sa_cons sm_str sa_nil)))))
      (ss_seq (ss_if (st_or (st_test (sm_op kr_ne (sm_told fun E' => (sm_meth (sm_var 7) (sa_cons sm_int (sa_cons sm_str sa_nil)))) (sm_tup (sa_cons sm_str (sa_cons sm_str sa_nil))))) (st_test (sm_op kr_ne (sm_meth (sm_var 7) sa_nil) sm_int))) (ss_ret sm_bl) ss_next)
      (ss_seq (ss_for (si_list (sm_fr (sl_lst (sa_cons (sm_neg sm_int) (sa_cons sm_int (sa_cons sm_non (sa_cons sm_bl (sa_cons sm_str sa_nil)))))))) (sg_name 8) (ss_seq (ss_asg (sm_th (sl_lst (sa_cons (sm_told fun E' => (sm_meth (sm_var 7) (sa_cons (sm_var 8) sa_nil))) sa_nil))) (sg_name 10))
      (ss_seq (ss_drop (sm_bm km_append (sm_var 10) (sa_cons (sm_told fun E' => (sm_meth (sm_var 7) (sa_cons (sm_var 8) sa_nil))) sa_nil)))
      (ss_seq (ss_drop (sm_bm km_append (sm_var 10) (sa_cons (sm_told fun E' => (sm_meth (sm_var 7) (sa_cons (sm_var 8) sa_nil))) sa_nil)))
      (ss_if (st_test (sm_op kr_ne (sm_var 10) (sm_op kr_times (sm_fr (sl_lst (sa_cons (sm_tup (sa_cons sm_str (sa_cons sm_str sa_nil))) sa_nil))) sm_int))) (ss_ret sm_bl) ss_next)))))
      (ss_seq (ss_for (si_list (sm_fr (sl_lst (sa_cons sm_non (sa_cons sm_str (sa_cons sm_int (sa_cons (sm_op kr_repS sm_str sm_int) (sa_cons sm_str (sa_cons sm_str sa_nil))))))))) (sg_name 8) (ss_if (st_test (sm_op kr_ne (sm_told fun E' => (sm_meth (sm_var 7) (sa_cons (sm_var 8) sa_nil))) (sm_tup (sa_cons sm_str (sa_cons sm_str sa_nil))))) (ss_ret sm_bl) ss_next))
      (ss_seq (ss_if (st_or (st_test (sm_op kr_ne (sm_meth (sm_var 7) (sa_cons (sm_op kr_repS sm_str sm_int) sa_nil)) (sm_tup (sa_cons sm_int (sa_cons sm_int (sa_cons sm_int sa_nil)))))) (st_test (sm_op kr_ne (sm_meth (sm_var 7) (sa_cons sm_str sa_nil)) (sm_tup (sa_cons sm_int (sa_cons sm_int (sa_cons sm_int sa_nil))))))) (ss_ret sm_bl) ss_next)
      (ss_if (st_B (sm_notN (sm_meth (sm_var 7) (sa_cons sm_str sa_nil)))) (ss_ret sm_bl) ss_next))))))))))))))
      (ss_ret sm_bl))⟩ hS hT q ?_
  clear hS hT q hr hbits FD TB hmT hu TBs T

  have hsl : ns.length ≤ sizeLine := le_sz' (by omega)
  obtain ⟨q, hq⟩ : ∃ q : Int, max 1 (min 4 (ns.length : Int)) = q := ⟨_, rfl⟩
  have hq1 : -2 ^ 62 ≤ q ∧ q < 2 ^ 62 := by omega
  have hq2 : q.toNat ≤ 4 := by omega
  have hsc : ∀ h : MH, sq h (.scr ns) = some (.l (ns.map .int)) := fun _ => rfl
  walk_at "et"
  generalize hB : forM none _ _ _ _ _ = r
  obtain ⟨e', h', rfl, _⟩ := for_invE hB (fun _ e _ => ∃ o1 o2 o3 o4 o5 o6 o7 o8 o9 o10, e = [some (.scr ns), o1, o2, o3, o4, o5, o6, o7, o8, o9, o10]) (fun k x hx e h hI => by
    obtain ⟨o1, o2, o3, o4, o5, o6, o7, o8, o9, o10, rfl⟩ := hI
    obtain ⟨hk, rfl⟩ := rangeL_get hx
    clear hB hx hsc
    rw [Int.zero_add]
    have hc := lcell_run hlen (k := k) (by omega)
    clear hq hq1 hq2 hsl hk
    obtain ⟨m, hm⟩ := drawn_is (cellOf ns k) k
    refine stp0 ?_
    refine stp (by walk_at "et"; exact rfl) ?_
    clear hc hm
    have s3 : 3 ≤ sizeLine := le_sz' (by decide)
    have s7 : 7 ≤ sizeLine := le_sz' (by decide)
    have s8 : 8 ≤ sizeLine := le_sz' (by decide)
    have s1 : 1 ≤ sizeLine := le_sz' (by decide)
    have s2 : 2 ≤ sizeLine := le_sz' (by decide)
    have s5 : 5 ≤ sizeLine := le_sz' (by decide)
    have s4 : 4 ≤ sizeLine := le_sz' (by decide)
    have s6 : 6 ≤ sizeLine := le_sz' (by decide)
    have s0 : 0 ≤ sizeLine := Nat.zero_le _
    have ta := told_ap CL
    have c1 : ("BadSize" : Str) ∈ CL := by decide
    have c2 : ("BadTick" : Str) ∈ CL := by decide
    have c3 : ("BadText" : Str) ∈ CL := by decide
    have c4 : ("Nothing" : Str) ∈ CL := by decide
    have q1 := deq_self (sd_ref (c := "BadSize") (by decide)) (by decide)
    have q2 := deq_self (sd_ref (c := "BadTick") (by decide)) (by decide)
    have q3 := deq_self (sd_ref (c := "BadText") (by decide)) (by decide)
    have q4 := deq_self (sd_ref (c := "Nothing") (by decide)) (by decide)
    refine stp (by walk_at "et"; exact rfl) ?_
    -- sizes
    refine stpE (P := fun e h => ∃ o3 o4 o5 o6 o7 o8 o9 o10, e = [some (.scr ns), some (.int k), some (.int m), o3, o4, o5, o6, o7, o8, o9, o10]) ?_ ?_
    · walk_at "et"
      generalize hB : forM none _ _ _ _ _ = r2
      obtain ⟨e3, h4, rfl, hE⟩ := for_invE hB (fun j e h => ∃ o3 o4 o5 o6 o7 o8 o9 o10, e = [some (.scr ns), some (.int k), some (.int m), o3, o4, o5, o6, o7, o8, o9, o10]) (fun j x hx e h4 hI => by
        obtain ⟨o3, o4, o5, o6, o7, o8, o9, o10, rfl⟩ := hI
        obtain ⟨d1, d2, d3, p1, p2, p3, rfl, e1, e2, e3, hc⟩ := k61_s x (List.mem_of_getElem? hx)
        have q := run_Tape___init__.2 d1 d2 d3 p1 p2 p3 (h4 ++ [.ins "Tape" []]) h4.length e1 e2 e3 hc
        simp only [List.append_assoc, List.cons_append, List.nil_append] at q
        clear hx hB e1 e2 e3 hc
        refine stp0 ?_
        exact ⟨_, _, (by walk_at "et"; try exact rfl), _, _, _, _, _, _, _, _, rfl⟩) ⟨_, _, _, _, _, _, _, _, rfl⟩
      exact ⟨_, _, rfl, hE⟩
    rintro _ h1 ⟨o3, o4, o5, o6, o7, o8, o9, o10, rfl⟩
    clear s7 s8 q1 c1
    have kn : newOk 5 5 200 := ⟨by decide, by decide, by decide, by decide, by decide, by decide⟩
    obtain ⟨h2, w2, rid, tid, tp, _⟩ := run_Tape___init__.1 5 5 200 (h1 ++ [.ins "Tape" []]) h1.length kn (get_last1 h1 _)
    refine stp (by walk_at "et"; exact rfl) ?_
    clear w2 kn
    generalize List.length h1 = n at tp
    have tf := tpF
    -- ticks
    refine stpE (P := fun e h => (∃ o8 o9 o10, e = [some (.scr ns), some (.int k), some (.int m), o3, o4, o5, o6, some (.ref n), o8, o9, o10]) ∧ TpAt h n 5 5 200 rid tid [] []) ?_ ?_
    · walk_at "et"
      generalize hB : forM none _ _ _ _ _ = r2
      obtain ⟨e3, h4, rfl, hE⟩ := for_invE hB (fun j e h => (∃ o8 o9 o10, e = [some (.scr ns), some (.int k), some (.int m), o3, o4, o5, o6, some (.ref n), o8, o9, o10]) ∧ TpAt h n 5 5 200 rid tid [] []) (fun j x hx e h4 hI => by
        obtain ⟨⟨o8, o9, o10, rfl⟩, tp⟩ := hI
        obtain ⟨p, e1, hc⟩ := k61_t x (List.mem_of_getElem? hx)
        have q := (run_Tape_record _ _ _ _ _ _ _ _ _ tp).1 x p .none e1 hc
        have ho := tp.o
        clear hx hB e1 hc
        refine stp0 ?_
        exact ⟨_, _, (by walk_at "et"; try exact rfl), ⟨_, _, _, rfl⟩, tp⟩) ⟨⟨_, _, _, rfl⟩, tp⟩
      exact ⟨_, _, rfl, hE⟩
    clear tp
    rintro _ h3 ⟨⟨o8, o9, o10, rfl⟩, tp⟩
    -- texts
    refine stpE (P := fun e h => (∃ o8 o9 o10, e = [some (.scr ns), some (.int k), some (.int m), o3, o4, o5, o6, some (.ref n), o8, o9, o10]) ∧ TpAt h n 5 5 200 rid tid [] []) ?_ ?_
    · have rs : timesS (.str "~~~") (.int 1400) = some (.str (repS "~~~" 1400)) := by
        rw [timesS_ap]
        exact if_pos ⟨by decide, by decide, by decide⟩
      walk_at "et"
      generalize hB : forM none _ _ _ _ _ = r2
      obtain ⟨e3, h4, rfl, hE⟩ := for_invE hB (fun j e h => (∃ o8 o9 o10, e = [some (.scr ns), some (.int k), some (.int m), o3, o4, o5, o6, some (.ref n), o8, o9, o10]) ∧ TpAt h n 5 5 200 rid tid [] []) (fun j x hx e h4 hI => by
        obtain ⟨⟨o8, o9, o10, rfl⟩, tp⟩ := hI
        obtain ⟨p, e1, hc, hs⟩ := k61_x x (List.mem_of_getElem? hx)
        have l1 : (1001 : Int).natAbs.log2 < 9000 := by decide
        have q := (run_Tape_record _ _ _ _ _ _ _ _ _ tp).2.2.1 (m % 1001) x p (by omega) (by omega) (by decide) e1 hc hs
        have ho := tp.o
        clear hx hB e1 hc rs hs
        refine stp0 ?_
        exact ⟨_, _, (by walk_at "et"; try exact rfl), ⟨_, _, _, rfl⟩, tp⟩) ⟨⟨_, _, _, rfl⟩, tp⟩
      exact ⟨_, _, rfl, hE⟩
    clear tp
    rintro _ h4 ⟨⟨o8, o9, o10, rfl⟩, tp⟩
    -- nothing is there
    have rc := run_Tape_records _ _ _ _ _ _ _ _ _ tp
    have un := (run_Tape_undo _ _ _ _ _ _ _ _ _ tp).1 rfl
    have ho := tp.o
    have dn : ∀ h, deq h (.list []) (.list []) = some true := deq_self (k := 1) (Sd.list SdL.nil) (by decide)
    have mp : ([] : List Rec).map recD = [] := rfl
    rw [mp] at rc
    clear mp
    refine stp (by walk_at "et"; exact rfl) ?_
    clear rc un ho dn
    -- sixty
    refine stpE (P := fun e h => (∃ o8 o9 o10, e = [some (.scr ns), some (.int k), some (.int m), o3, o4, o5, o6, some (.ref n), o8, o9, o10]) ∧ ∃ tid, TpAt h n 5 5 200 rid tid (recs 60) []) ?_ ?_
    · have r6 : -2 ^ 62 ≤ (60 : Int) ∧ (60 : Int) < 2 ^ 62 := by decide
      walk_at "et"
      generalize hB : forM none _ _ _ _ _ = r2
      obtain ⟨e3, h5, rfl, hE⟩ := for_invE hB (fun j e h => (∃ o8 o9 o10, e = [some (.scr ns), some (.int k), some (.int m), o3, o4, o5, o6, some (.ref n), o8, o9, o10]) ∧ ∃ tid, TpAt h n 5 5 200 rid tid (recs j) []) (fun j x hx e h4 hI => by
        obtain ⟨⟨o8, o9, o10, rfl⟩, tid, tp⟩ := hI
        obtain ⟨hj, rfl⟩ := rangeL_get hx
        have hj : j < 60 := by omega
        obtain ⟨h5, q, _, _, tid', tp', _⟩ := (run_Tape_record _ _ _ _ _ _ _ _ _ tp).2.2.2 1000 [97] (by decide) (by decide) (by rw [recs_len]; exact hj) (by decide) (by intro c hc; rw [List.mem_singleton.mp hc]; rfl)
        rw [recs_succ] at tp'
        have ho := tp.o
        have q : F_Tape_record [.ref n, .int 1000, .str "a"] h4 = some (.ok .none, h5) := q
        clear hx hB hj tp r6
        refine stp0 ?_
        exact ⟨_, _, (by walk_at "et"; try exact rfl), ⟨_, _, _, rfl⟩, _, tp'⟩) ⟨⟨_, _, _, rfl⟩, _, tp⟩
      have ln : (rangeL 0 (Int.toNat 60)).length = 60 := by rw [rangeL_len]; rfl
      rw [ln] at hE
      exact ⟨_, _, rfl, hE⟩
    clear tp
    clear tid
    rintro _ h5 ⟨⟨o8, o9, o10, rfl⟩, tid, tp⟩
    -- one more
    have q := (run_Tape_record _ _ _ _ _ _ _ _ _ tp).2.1 0 (.str "a") (by decide) (by decide) (recs_len 60)
    have tl := tp.len
    have ho := tp.o
    have l6 : lastT (recs 60) = 60000 := recs_last 60
    rw [l6] at tl
    have d6 : decide ((60000 : Int) = 60000) = true := rfl
    refine stp (by walk_at "et"; exact rfl) ?_
    clear q tl d6 ho
    -- ticks that are none
    refine stpE (P := fun e h => (∃ o8 o9 o10, e = [some (.scr ns), some (.int k), some (.int m), o3, o4, o5, o6, some (.ref n), o8, o9, o10]) ∧ TpAt h n 5 5 200 rid tid (recs 60) []) ?_ ?_
    · walk_at "et"
      generalize hB : forM none _ _ _ _ _ = r2
      obtain ⟨e3, h4, rfl, hE⟩ := for_invE hB (fun j e h => (∃ o8 o9 o10, e = [some (.scr ns), some (.int k), some (.int m), o3, o4, o5, o6, some (.ref n), o8, o9, o10]) ∧ TpAt h n 5 5 200 rid tid (recs 60) []) (fun j x hx e h4 hI => by
        obtain ⟨⟨o8, o9, o10, rfl⟩, tp⟩ := hI
        obtain ⟨p, e1, hc⟩ := k61_u x (List.mem_of_getElem? hx)
        rw [← l6] at hc
        have t1 := (run_Tape_page_at _ _ _ _ _ _ _ _ _ tp).2 x p e1 hc
        have t2 := (run_Tape_cursor_at _ _ _ _ _ _ _ _ _ (tp.app [MO.lst [refW "BadTick"]])).2 x p e1 hc
        have t3 := run_Tape_changes_at__altb _ _ _ _ _ _ _ _ _ (tp.app [MO.lst [refW "BadTick", refW "BadTick"]]) x p e1 hc
        have fin := tp.app [MO.lst [refW "BadTick", refW "BadTick", refW "BadTick"]]
        have ho := tp.o
        have ho1 := (tp.app [MO.lst [refW "BadTick"]]).o
        have ho2 := (tp.app [MO.lst [refW "BadTick", refW "BadTick"]]).o
        have i3 : Int.toNat 3 = 3 := rfl
        have fl3 : ∀ a b c : D, [[a], [b], [c]].flatten = [a, b, c] := fun _ _ _ => rfl
        have tm : (3 : Int) < 2 ^ 62 ∧ -(2 ^ 62) < (3 : Int) ∧ 1 * 3 ≤ sizeLine := ⟨by decide, by decide, le_sz' (by decide)⟩
        have dq : deq (h4 ++ [MO.lst [refW "BadTick", refW "BadTick", refW "BadTick"]]) (.ref h4.length) (.list [refW "BadTick", refW "BadTick", refW "BadTick"]) = some true := by
          have sd : Sd (refW "BadTick") 1 := sd_ref (by decide)
          exact deq_refl (k := 1) (.cons sd (.cons sd (.cons sd .nil))) (by decide) (get_last1 _ _)
        clear hx hB e1 hc tp l6
        refine stp0 ?_
        refine stp (by walk_at "et"; exact rfl) ?_
        refine stp (by walk_at "et"; exact rfl) ?_
        refine stp (by walk_at "et"; exact rfl) ?_
        exact ⟨_, _, (by walk_at "et"; try exact rfl), ⟨_, _, _, rfl⟩, fin⟩) ⟨⟨_, _, _, rfl⟩, tp⟩
      exact ⟨_, _, rfl, hE⟩
    clear tp l6
    rintro _ h6 ⟨⟨o8, o9, o10, rfl⟩, tp⟩
    -- words that are none
    refine stpE (P := fun e h => (∃ o8 o9 o10, e = [some (.scr ns), some (.int k), some (.int m), o3, o4, o5, o6, some (.ref n), o8, o9, o10]) ∧ TpAt h n 5 5 200 rid tid (recs 60) []) ?_ ?_
    · have rs : timesS (.str "a") (.int 21) = some (.str (repS "a" 21)) := by
        rw [timesS_ap]
        exact if_pos ⟨by decide, by decide, by decide⟩
      walk_at "et"
      generalize hB : forM none _ _ _ _ _ = r2
      obtain ⟨e3, h4, rfl, hE⟩ := for_invE hB (fun j e h => (∃ o8 o9 o10, e = [some (.scr ns), some (.int k), some (.int m), o3, o4, o5, o6, some (.ref n), o8, o9, o10]) ∧ TpAt h n 5 5 200 rid tid (recs 60) []) (fun j x hx e h4 hI => by
        obtain ⟨⟨o8, o9, o10, rfl⟩, tp⟩ := hI
        have bw := k61_w x (List.mem_of_getElem? hx) h4
        have q := (run_Tape_first_with _ _ _ _ _ _ _ _ _ tp).2 x bw
        have ho := tp.o
        clear hx hB bw rs
        refine stp0 ?_
        exact ⟨_, _, (by walk_at "et"; try exact rfl), ⟨_, _, _, rfl⟩, tp⟩) ⟨⟨_, _, _, rfl⟩, tp⟩
      exact ⟨_, _, rfl, hE⟩
    clear tp
    rintro _ h7 ⟨⟨o8, o9, o10, rfl⟩, tp⟩
    -- words
    obtain ⟨h8, f1, _, kp1⟩ := (run_Tape_first_with _ _ _ _ _ _ _ _ _ tp).1 [97, 97, 97, 97, 97] ⟨by decide, by decide, by decide⟩
    have tp8 := tp.keep kp1
    obtain ⟨h9, f2, _, kp2⟩ := (run_Tape_first_with _ _ _ _ _ _ _ _ _ tp8).1 [32] ⟨by decide, by decide, by decide⟩
    have tp9 := tp8.keep kp2
    obtain ⟨h10, f3, _, kp3⟩ := (run_Tape_first_with _ _ _ _ _ _ _ _ _ tp9).1 [98] ⟨by decide, by decide, by decide⟩
    rw [k61_five] at f1
    rw [k61_gap] at f2
    rw [k61_none] at f3
    have rs : timesS (.str "a") (.int 5) = some (.str (mkS [97, 97, 97, 97, 97])) := by
      rw [timesS_ap]
      exact if_pos ⟨by decide, by decide, by decide⟩
    replace f1 : F_Tape_first_with [.ref n, .str (mkS [97, 97, 97, 97, 97])] h7 = some (.ok (.tuple [.int 5000, .int 0, .int 0]), h8) := f1
    replace f2 : F_Tape_first_with [.ref n, .str " "] h8 = some (.ok (.tuple [.int 0, .int 0, .int 0]), h9) := f2
    replace f3 : F_Tape_first_with [.ref n, .str "b"] h9 = some (.ok .none, h10) := f3
    have ho := tp.o
    have ho8 := tp8.o
    have ho9 := tp9.o
    have dq1 : ∀ h, deq h (.tuple [.int 5000, .int 0, .int 0]) (.tuple [.int 5000, .int 0, .int 0]) = some true := deq_self (k := 1) (Sd.tuple (k := 0) (.cons (Sd.int _) (.cons (Sd.int _) (.cons (Sd.int _) .nil)))) (by decide)
    have dq2 : ∀ h, deq h (.tuple [.int 0, .int 0, .int 0]) (.tuple [.int 0, .int 0, .int 0]) = some true := deq_self (k := 1) (Sd.tuple (k := 0) (.cons (Sd.int _) (.cons (Sd.int _) (.cons (Sd.int _) .nil)))) (by decide)
    clear tp tp8 tp9 kp1 kp2 kp3
    refine stp (by walk_at "et"; exact rfl) ?_
    exact ⟨_, _, (by walk_at "et"; try exact rfl), _, _, _, _, _, _, _, _, _, _, rfl⟩) ⟨_, _, _, _, _, _, _, _, _, _, rfl⟩
  refine ⟨h', ?_⟩
  walk_at "et"
end
end Sc

namespace Sc
open PySem PySem.Spec PyProof.Rows L2
def d__wall : He.DefD := ⟨("_wall", none), "_wall", "_wall", defArgs s__wall, defBody s__wall, defScope s__wall, [], []⟩
def d_is_sign : He.DefD := ⟨("is_sign", none), "is_sign", "is_sign", defArgs s_is_sign, defBody s_is_sign, defScope s_is_sign, [], []⟩
def d_need_text : He.DefD := ⟨("need_text", none), "need_text", "need_text", defArgs s_need_text, defBody s_need_text, defScope s_need_text, [], []⟩
def d_Reader___init__ : He.DefD := ⟨("Reader", some "__init__"), "__init__", "Reader.__init__", defArgs s_Reader___init__, defBody s_Reader___init__, defScope s_Reader___init__, [], []⟩
def d_Reader_dropped : He.DefD := ⟨("Reader", some "dropped"), "dropped", "Reader.dropped", defArgs s_Reader_dropped, defBody s_Reader_dropped, defScope s_Reader_dropped, [], []⟩
def d_Reader_left : He.DefD := ⟨("Reader", some "left"), "left", "Reader.left", defArgs s_Reader_left, defBody s_Reader_left, defScope s_Reader_left, [], []⟩
def d_Reader_feed : He.DefD := ⟨("Reader", some "feed"), "feed", "Reader.feed", defArgs s_Reader_feed, defBody s_Reader_feed, defScope s_Reader_feed, [], []⟩
def d_Reader_plain : He.DefD := ⟨("Reader", some "plain"), "plain", "Reader.plain", defArgs s_Reader_plain, defBody s_Reader_plain, defScope s_Reader_plain, [], []⟩
def d_Reader_read : He.DefD := ⟨("Reader", some "read"), "read", "Reader.read", defArgs s_Reader_read, defBody s_Reader_read, defScope s_Reader_read, [], []⟩
def d_Reader_can_go_on : He.DefD := ⟨("Reader", some "can_go_on"), "can_go_on", "Reader.can_go_on", defArgs s_Reader_can_go_on, defBody s_Reader_can_go_on, defScope s_Reader_can_go_on, [], []⟩
def d_Reader_whole : He.DefD := ⟨("Reader", some "whole"), "whole", "Reader.whole", defArgs s_Reader_whole, defBody s_Reader_whole, defScope s_Reader_whole, [], []⟩
def d_is_count : He.DefD := ⟨("is_count", none), "is_count", "is_count", defArgs s_is_count, defBody s_is_count, defScope s_is_count, [], []⟩
def d_need : He.DefD := ⟨("need", none), "need", "need", defArgs s_need, defBody s_need, defScope s_need, [], []⟩
def d_is_pen : He.DefD := ⟨("is_pen", none), "is_pen", "is_pen", defArgs s_is_pen, defBody s_is_pen, defScope s_is_pen, [], []⟩
def d_is_cell : He.DefD := ⟨("is_cell", none), "is_cell", "is_cell", defArgs s_is_cell, defBody s_is_cell, defScope s_is_cell, [], []⟩
def d_need_page : He.DefD := ⟨("need_page", none), "need_page", "need_page", defArgs s_need_page, defBody s_need_page, defScope s_need_page, [], []⟩
def d_changes : He.DefD := ⟨("changes", none), "changes", "changes", defArgs s_changes, defBody s_changes, defScope s_changes, [], []⟩
def d_need_size : He.DefD := ⟨("need_size", none), "need_size", "need_size", defArgs s_need_size, defBody s_need_size, defScope s_need_size, [], []⟩
def d_Row___init__ : He.DefD := ⟨("Row", some "__init__"), "__init__", "Row.__init__", defArgs s_Row___init__, defBody s_Row___init__, defScope s_Row___init__, [], []⟩
def d_blank_row : He.DefD := ⟨("blank_row", none), "blank_row", "blank_row", defArgs s_blank_row, defBody s_blank_row, defScope s_blank_row, [], []⟩
def d_Screen___init__ : He.DefD := ⟨("Screen", some "__init__"), "__init__", "Screen.__init__", defArgs s_Screen___init__, defBody s_Screen___init__, defScope s_Screen___init__, [], []⟩
def d_Screen_begin : He.DefD := ⟨("Screen", some "begin"), "begin", "Screen.begin", defArgs s_Screen_begin, defBody s_Screen_begin, defScope s_Screen_begin, [], []⟩
def d_Screen_size : He.DefD := ⟨("Screen", some "size"), "size", "Screen.size", defArgs s_Screen_size, defBody s_Screen_size, defScope s_Screen_size, [], []⟩
def d_Screen_page : He.DefD := ⟨("Screen", some "page"), "page", "Screen.page", defArgs s_Screen_page, defBody s_Screen_page, defScope s_Screen_page, [], []⟩
def d_Screen_texts : He.DefD := ⟨("Screen", some "texts"), "texts", "Screen.texts", defArgs s_Screen_texts, defBody s_Screen_texts, defScope s_Screen_texts, [], []⟩
def d_Screen_kept : He.DefD := ⟨("Screen", some "kept"), "kept", "Screen.kept", defArgs s_Screen_kept, defBody s_Screen_kept, defScope s_Screen_kept, [], []⟩
def d_Screen_cursor : He.DefD := ⟨("Screen", some "cursor"), "cursor", "Screen.cursor", defArgs s_Screen_cursor, defBody s_Screen_cursor, defScope s_Screen_cursor, [], []⟩
def d_Screen_state : He.DefD := ⟨("Screen", some "state"), "state", "Screen.state", defArgs s_Screen_state, defBody s_Screen_state, defScope s_Screen_state, [], []⟩
def d_Screen_cell : He.DefD := ⟨("Screen", some "cell"), "cell", "Screen.cell", defArgs s_Screen_cell, defBody s_Screen_cell, defScope s_Screen_cell, [], []⟩
def d_Screen_feed : He.DefD := ⟨("Screen", some "feed"), "feed", "Screen.feed", defArgs s_Screen_feed, defBody s_Screen_feed, defScope s_Screen_feed, [], []⟩
def d_Screen_do : He.DefD := ⟨("Screen", some "do"), "do", "Screen.do", defArgs s_Screen_do, defBody s_Screen_do, defScope s_Screen_do, [], []⟩
def d_Screen_stand : He.DefD := ⟨("Screen", some "stand"), "stand", "Screen.stand", defArgs s_Screen_stand, defBody s_Screen_stand, defScope s_Screen_stand, [], []⟩
def d_Screen_put : He.DefD := ⟨("Screen", some "put"), "put", "Screen.put", defArgs s_Screen_put, defBody s_Screen_put, defScope s_Screen_put, [], []⟩
def d_Screen_roll : He.DefD := ⟨("Screen", some "roll"), "roll", "Screen.roll", defArgs s_Screen_roll, defBody s_Screen_roll, defScope s_Screen_roll, [], []⟩
def d_Screen_roll_down : He.DefD := ⟨("Screen", some "roll_down"), "roll_down", "Screen.roll_down", defArgs s_Screen_roll_down, defBody s_Screen_roll_down, defScope s_Screen_roll_down, [], []⟩
def d_Screen_cut_off : He.DefD := ⟨("Screen", some "cut_off"), "cut_off", "Screen.cut_off", defArgs s_Screen_cut_off, defBody s_Screen_cut_off, defScope s_Screen_cut_off, [], []⟩
def d_Screen_down : He.DefD := ⟨("Screen", some "down"), "down", "Screen.down", defArgs s_Screen_down, defBody s_Screen_down, defScope s_Screen_down, [], []⟩
def d_Screen_up : He.DefD := ⟨("Screen", some "up"), "up", "Screen.up", defArgs s_Screen_up, defBody s_Screen_up, defScope s_Screen_up, [], []⟩
def d_Screen_small : He.DefD := ⟨("Screen", some "small"), "small", "Screen.small", defArgs s_Screen_small, defBody s_Screen_small, defScope s_Screen_small, [], []⟩
def d_Screen_erase : He.DefD := ⟨("Screen", some "erase"), "erase", "Screen.erase", defArgs s_Screen_erase, defBody s_Screen_erase, defScope s_Screen_erase, [], []⟩
def d_Screen_great : He.DefD := ⟨("Screen", some "great"), "great", "Screen.great", defArgs s_Screen_great, defBody s_Screen_great, defScope s_Screen_great, [], []⟩
def d_Screen_one : He.DefD := ⟨("Screen", some "one"), "one", "Screen.one", defArgs s_Screen_one, defBody s_Screen_one, defScope s_Screen_one, [], []⟩
def d_Screen_take_rows : He.DefD := ⟨("Screen", some "take_rows"), "take_rows", "Screen.take_rows", defArgs s_Screen_take_rows, defBody s_Screen_take_rows, defScope s_Screen_take_rows, [], []⟩
def d_Screen_shift : He.DefD := ⟨("Screen", some "shift"), "shift", "Screen.shift", defArgs s_Screen_shift, defBody s_Screen_shift, defScope s_Screen_shift, [], []⟩
def d_Tape___init__ : He.DefD := ⟨("Tape", some "__init__"), "__init__", "Tape.__init__", defArgs s_Tape___init__, defBody s_Tape___init__, defScope s_Tape___init__, [], []⟩
def d_Tape_record : He.DefD := ⟨("Tape", some "record"), "record", "Tape.record", defArgs s_Tape_record, defBody s_Tape_record, defScope s_Tape_record, [], []⟩
def d_Tape_undo : He.DefD := ⟨("Tape", some "undo"), "undo", "Tape.undo", defArgs s_Tape_undo, defBody s_Tape_undo, defScope s_Tape_undo, [], []⟩
def d_Tape_redo : He.DefD := ⟨("Tape", some "redo"), "redo", "Tape.redo", defArgs s_Tape_redo, defBody s_Tape_redo, defScope s_Tape_redo, [], []⟩
def d_Tape_length : He.DefD := ⟨("Tape", some "length"), "length", "Tape.length", defArgs s_Tape_length, defBody s_Tape_length, defScope s_Tape_length, [], []⟩
def d_Tape_records : He.DefD := ⟨("Tape", some "records"), "records", "Tape.records", defArgs s_Tape_records, defBody s_Tape_records, defScope s_Tape_records, [], []⟩
def d_Tape_need_tick : He.DefD := ⟨("Tape", some "need_tick"), "need_tick", "Tape.need_tick", defArgs s_Tape_need_tick, defBody s_Tape_need_tick, defScope s_Tape_need_tick, [], []⟩
def d_Tape_screen_behind : He.DefD := ⟨("Tape", some "screen_behind"), "screen_behind", "Tape.screen_behind", defArgs s_Tape_screen_behind, defBody s_Tape_screen_behind, defScope s_Tape_screen_behind, [], []⟩
def d_Tape_page_at : He.DefD := ⟨("Tape", some "page_at"), "page_at", "Tape.page_at", defArgs s_Tape_page_at, defBody s_Tape_page_at, defScope s_Tape_page_at, [], []⟩
def d_Tape_cursor_at : He.DefD := ⟨("Tape", some "cursor_at"), "cursor_at", "Tape.cursor_at", defArgs s_Tape_cursor_at, defBody s_Tape_cursor_at, defScope s_Tape_cursor_at, [], []⟩
def d_Tape_changes_at : He.DefD := ⟨("Tape", some "changes_at"), "changes_at", "Tape.changes_at", defArgs s_Tape_changes_at, defBody s_Tape_changes_at, defScope s_Tape_changes_at, [], []⟩
def d_Tape_first_with : He.DefD := ⟨("Tape", some "first_with"), "first_with", "Tape.first_with", defArgs s_Tape_first_with, defBody s_Tape_first_with, defScope s_Tape_first_with, [], []⟩
def d__law_cell : He.DefD := ⟨("_law_cell", none), "_law_cell", "_law_cell", defArgs s__law_cell, defBody s__law_cell, defScope s__law_cell, [], []⟩
def d__law_drawn : He.DefD := ⟨("_law_drawn", none), "_law_drawn", "_law_drawn", defArgs s__law_drawn, defBody s__law_drawn, defScope s__law_drawn, [], []⟩
def d__law_word : He.DefD := ⟨("_law_word", none), "_law_word", "_law_word", defArgs s__law_word, defBody s__law_word, defScope s__law_word, [], []⟩
def d__law_told : He.DefD := ⟨("_law_told", none), "_law_told", "_law_told", defArgs s__law_told, defBody s__law_told, defScope s__law_told, [], []⟩
def d_law : He.DefD := ⟨("law", none), "law", "law", defArgs s_law, defBody s_law, defScope s_law, [], []⟩
def fn0 : List He.DefD := [d__wall, d_is_sign, d_need_text, d_Reader___init__, d_Reader_dropped, d_Reader_left, d_Reader_feed, d_Reader_plain, d_Reader_read, d_Reader_can_go_on, d_Reader_whole, d_is_count, d_need, d_is_pen, d_is_cell, d_need_page, d_changes, d_need_size, d_Row___init__, d_blank_row, d_Screen___init__, d_Screen_begin, d_Screen_size, d_Screen_page, d_Screen_texts]
def fn1 : List He.DefD := [d_Screen_kept, d_Screen_cursor, d_Screen_state, d_Screen_cell, d_Screen_feed, d_Screen_do, d_Screen_stand, d_Screen_put, d_Screen_roll, d_Screen_roll_down, d_Screen_cut_off, d_Screen_down, d_Screen_up, d_Screen_small, d_Screen_erase, d_Screen_great, d_Screen_one, d_Screen_take_rows, d_Screen_shift, d_Tape___init__, d_Tape_record, d_Tape_undo, d_Tape_redo, d_Tape_length, d_Tape_records]
def fn2 : List He.DefD := [d_Tape_need_tick, d_Tape_screen_behind, d_Tape_page_at, d_Tape_cursor_at, d_Tape_changes_at, d_Tape_first_with, d__law_cell, d__law_drawn, d__law_word, d__law_told, d_law]
def fn : List He.DefD := fn0 ++ fn1 ++ fn2
def fa0 : List He.Fa := [.glo "_wall", .glo "ScreenError", .glo "BadText", .glo "BadSize", .glo "BadPlace", .glo "BadPage", .glo "BadPane", .glo "BadTick", .glo "Nothing", .int "MOST_TEXT" 4000, .int "MOST_FIGURES" 4, .int "MOST_ARGUMENTS" 4, .str "SMALL" "abcdefghijklmnopqrstuvwxyz", .str "GREAT" "ABCDEFGHIJKLMNOPQRSTUVWXYZ", .str "FIGURES" "0123456789", .int "BARRED" 37, .str "GAP" "\n", .glo "is_sign", .glo "need_text", .glo "Reader", .glo "PLAIN", .glo "BLANK", .int "MOST_COLOUR" 7, .int "MOST_MARKS" 3, .glo "is_count"]
def fa1 : List He.Fa := [.glo "need", .glo "is_pen", .glo "is_cell", .glo "need_page", .glo "changes", .int "MOST_WIDE" 60, .int "MOST_HIGH" 40, .int "MOST_KEPT" 200, .int "LEAST_WIDE" 2, .int "LEAST_HIGH" 2, .glo "need_size", .glo "Row", .glo "blank_row", .glo "Screen", .int "MOST_TICKS" 1000, .int "MOST_RECORDS" 60, .int "MOST_WORD" 20, .glo "Tape", .glo "_law_cell", .glo "_law_drawn", .glo "_law_word", .glo "_law_told", .glo "law", .free "ValueError", .free "all"]
def fa2 : List He.Fa := [.free "enumerate", .free "range", .free "isinstance", .free "int", .free "max", .free "min", .free "list", .free "str", .free "len", .free "bool", .free "tuple", .free "sum", .free "ord", .free "zip", .exc "ScreenError", .exm "ScreenError" "ScreenError" true, .exc "BadText", .exm "BadText" "ScreenError" true, .exc "BadSize", .exm "BadSize" "ScreenError" true, .exc "BadPlace", .exm "BadPlace" "ScreenError" true, .exc "BadPage", .exm "BadPage" "ScreenError" true, .exc "BadPane"]
def fa3 : List He.Fa := [.exm "BadPane" "ScreenError" true, .exc "BadTick", .exm "BadTick" "ScreenError" true, .exc "Nothing", .exm "Nothing" "ScreenError" true, .cls "Reader", .mkr "Reader", .meth "Reader" "dropped", .meth "Reader" "left", .meth "Reader" "feed", .meth "Reader" "plain", .meth "Reader" "read", .meth "Reader" "can_go_on", .meth "Reader" "whole", .noat "Reader" "begun", .noat "Reader" "lost", .cls "Row", .mkr "Row", .noat "Row" "cells", .noat "Row" "goes_on", .cls "Screen", .mkr "Screen", .meth "Screen" "begin", .meth "Screen" "size", .meth "Screen" "page"]
def fa4 : List He.Fa := [.meth "Screen" "texts", .meth "Screen" "kept", .meth "Screen" "cursor", .meth "Screen" "state", .meth "Screen" "cell", .meth "Screen" "feed", .meth "Screen" "do", .meth "Screen" "stand", .meth "Screen" "put", .meth "Screen" "roll", .meth "Screen" "roll_down", .meth "Screen" "cut_off", .meth "Screen" "down", .meth "Screen" "up", .meth "Screen" "small", .meth "Screen" "erase", .meth "Screen" "great", .meth "Screen" "one", .meth "Screen" "take_rows", .meth "Screen" "shift", .noat "Screen" "reader", .noat "Screen" "wide", .noat "Screen" "high", .noat "Screen" "most", .noat "Screen" "past"]
def fa5 : List He.Fa := [.noat "Screen" "rows", .noat "Screen" "row", .noat "Screen" "column", .noat "Screen" "is_full", .noat "Screen" "pen", .noat "Screen" "top", .noat "Screen" "bottom", .noat "Screen" "put_by", .noat "Screen" "last", .cls "Tape", .mkr "Tape", .meth "Tape" "record", .meth "Tape" "undo", .meth "Tape" "redo", .meth "Tape" "length", .meth "Tape" "records", .meth "Tape" "need_tick", .meth "Tape" "screen_behind", .meth "Tape" "page_at", .meth "Tape" "cursor_at", .meth "Tape" "changes_at", .meth "Tape" "first_with", .noat "Tape" "sizes", .noat "Tape" "rows", .noat "Tape" "taken"]
def fa : List He.Fa := fa0 ++ fa1 ++ fa2 ++ fa3 ++ fa4 ++ fa5
def loose0 : List Str := ["_wall", "ScreenError", "BadText", "BadSize", "BadPlace", "BadPage", "BadPane", "BadTick", "Nothing", "MOST_TEXT", "MOST_FIGURES", "MOST_ARGUMENTS", "SMALL", "GREAT", "FIGURES", "BARRED", "GAP", "is_sign", "need_text", "Reader", "PLAIN", "BLANK", "MOST_COLOUR", "MOST_MARKS", "is_count"]
def loose1 : List Str := ["need", "is_pen", "is_cell", "need_page", "changes", "MOST_WIDE", "MOST_HIGH", "MOST_KEPT", "LEAST_WIDE", "LEAST_HIGH", "need_size", "Row", "blank_row", "Screen", "MOST_TICKS", "MOST_RECORDS", "MOST_WORD", "Tape", "_law_cell", "_law_drawn", "_law_word", "_law_told"]
def loose : List Str := loose0 ++ loose1
def tf : List He.Defn := [("law", none)]
def ex (K : PySem.W.Frag) : Bool := (wordB ["BadPage", "BadPlace", "BadSize", "BadText", "BadPane", "BadTick", "Nothing"] K && (He.tupB K "PLAIN" [.int 0, .int 0, .int 0] && He.tupB K "BLANK" [.str " ", .glo "PLAIN"]))
abbrev RR : PySem.W.OpenRow := PySem.W.OpenLaw.row PySem.Challenge.rw_steerscreen_k61_tapes_refused
abbrev hk : PySem.W.Hook := He.hookX 5 fa fn [] tf ex
def ob (s : PySem.W.SharedT) : He.AlX := He.obsX 5 fa fn [] tf ex (HandSHeadRun.getT s)
theorem ob_eq (s : PySem.W.SharedT) : ob s = hk.obs s.abs := He.obsX_eq (HandSHeadRun.getT_eq s)
theorem run (w : World) : HandSHeadRun.RunEq RR (PySem.W.view RR.prog [53]) hk ob 20000 loose w := by
  intro os
  kernel_rfl
theorem gt_of {w : World} {h : Heap} {K : PySem.W.Frag} {mg : Str → Option Value} (X : K.In h) (G : h.Ns mainGlobals mg) (c : He.SaysX fa fn [] tf ex w h K) : GT K mg :=
  ⟨He.glo_ok X G (c.t.d.fact 0 (f := .glo "_wall") rfl),
   He.glo_ok X G (c.t.d.fact 1 (f := .glo "ScreenError") rfl),
   He.glo_ok X G (c.t.d.fact 2 (f := .glo "BadText") rfl),
   He.glo_ok X G (c.t.d.fact 3 (f := .glo "BadSize") rfl),
   He.glo_ok X G (c.t.d.fact 4 (f := .glo "BadPlace") rfl),
   He.glo_ok X G (c.t.d.fact 5 (f := .glo "BadPage") rfl),
   He.glo_ok X G (c.t.d.fact 6 (f := .glo "BadPane") rfl),
   He.glo_ok X G (c.t.d.fact 7 (f := .glo "BadTick") rfl),
   He.glo_ok X G (c.t.d.fact 8 (f := .glo "Nothing") rfl),
   He.int_ok X G (c.t.d.fact 9 (f := .int "MOST_TEXT" 4000) rfl),
   He.int_ok X G (c.t.d.fact 10 (f := .int "MOST_FIGURES" 4) rfl),
   He.int_ok X G (c.t.d.fact 11 (f := .int "MOST_ARGUMENTS" 4) rfl),
   He.str_ok X G (c.t.d.fact 12 (f := .str "SMALL" "abcdefghijklmnopqrstuvwxyz") rfl),
   He.str_ok X G (c.t.d.fact 13 (f := .str "GREAT" "ABCDEFGHIJKLMNOPQRSTUVWXYZ") rfl),
   He.str_ok X G (c.t.d.fact 14 (f := .str "FIGURES" "0123456789") rfl),
   He.int_ok X G (c.t.d.fact 15 (f := .int "BARRED" 37) rfl),
   He.str_ok X G (c.t.d.fact 16 (f := .str "GAP" "\n") rfl),
   He.glo_ok X G (c.t.d.fact 17 (f := .glo "is_sign") rfl),
   He.glo_ok X G (c.t.d.fact 18 (f := .glo "need_text") rfl),
   He.glo_ok X G (c.t.d.fact 19 (f := .glo "Reader") rfl),
   He.glo_ok X G (c.t.d.fact 20 (f := .glo "PLAIN") rfl),
   He.glo_ok X G (c.t.d.fact 21 (f := .glo "BLANK") rfl),
   He.int_ok X G (c.t.d.fact 22 (f := .int "MOST_COLOUR" 7) rfl),
   He.int_ok X G (c.t.d.fact 23 (f := .int "MOST_MARKS" 3) rfl),
   He.glo_ok X G (c.t.d.fact 24 (f := .glo "is_count") rfl),
   He.glo_ok X G (c.t.d.fact 25 (f := .glo "need") rfl),
   He.glo_ok X G (c.t.d.fact 26 (f := .glo "is_pen") rfl),
   He.glo_ok X G (c.t.d.fact 27 (f := .glo "is_cell") rfl),
   He.glo_ok X G (c.t.d.fact 28 (f := .glo "need_page") rfl),
   He.glo_ok X G (c.t.d.fact 29 (f := .glo "changes") rfl),
   He.int_ok X G (c.t.d.fact 30 (f := .int "MOST_WIDE" 60) rfl),
   He.int_ok X G (c.t.d.fact 31 (f := .int "MOST_HIGH" 40) rfl),
   He.int_ok X G (c.t.d.fact 32 (f := .int "MOST_KEPT" 200) rfl),
   He.int_ok X G (c.t.d.fact 33 (f := .int "LEAST_WIDE" 2) rfl),
   He.int_ok X G (c.t.d.fact 34 (f := .int "LEAST_HIGH" 2) rfl),
   He.glo_ok X G (c.t.d.fact 35 (f := .glo "need_size") rfl),
   He.glo_ok X G (c.t.d.fact 36 (f := .glo "Row") rfl),
   He.glo_ok X G (c.t.d.fact 37 (f := .glo "blank_row") rfl),
   He.glo_ok X G (c.t.d.fact 38 (f := .glo "Screen") rfl),
   He.int_ok X G (c.t.d.fact 39 (f := .int "MOST_TICKS" 1000) rfl),
   He.int_ok X G (c.t.d.fact 40 (f := .int "MOST_RECORDS" 60) rfl),
   He.int_ok X G (c.t.d.fact 41 (f := .int "MOST_WORD" 20) rfl),
   He.glo_ok X G (c.t.d.fact 42 (f := .glo "Tape") rfl),
   He.glo_ok X G (c.t.d.fact 43 (f := .glo "_law_cell") rfl),
   He.glo_ok X G (c.t.d.fact 44 (f := .glo "_law_drawn") rfl),
   He.glo_ok X G (c.t.d.fact 45 (f := .glo "_law_word") rfl),
   He.glo_ok X G (c.t.d.fact 46 (f := .glo "_law_told") rfl),
   He.glo_ok X G (c.t.d.fact 47 (f := .glo "law") rfl),
   He.free_ok X G (c.t.d.fact 48 (f := .free "ValueError") rfl),
   He.free_ok X G (c.t.d.fact 49 (f := .free "all") rfl),
   He.free_ok X G (c.t.d.fact 50 (f := .free "enumerate") rfl),
   He.free_ok X G (c.t.d.fact 51 (f := .free "range") rfl),
   He.free_ok X G (c.t.d.fact 52 (f := .free "isinstance") rfl),
   He.free_ok X G (c.t.d.fact 53 (f := .free "int") rfl),
   He.free_ok X G (c.t.d.fact 54 (f := .free "max") rfl),
   He.free_ok X G (c.t.d.fact 55 (f := .free "min") rfl),
   He.free_ok X G (c.t.d.fact 56 (f := .free "list") rfl),
   He.free_ok X G (c.t.d.fact 57 (f := .free "str") rfl),
   He.free_ok X G (c.t.d.fact 58 (f := .free "len") rfl),
   He.free_ok X G (c.t.d.fact 59 (f := .free "bool") rfl),
   He.free_ok X G (c.t.d.fact 60 (f := .free "tuple") rfl),
   He.free_ok X G (c.t.d.fact 61 (f := .free "sum") rfl),
   He.free_ok X G (c.t.d.fact 62 (f := .free "ord") rfl),
   He.free_ok X G (c.t.d.fact 63 (f := .free "zip") rfl),
   He.exc_ok (c.t.d.fact 64 (f := .exc "ScreenError") rfl),
   He.exm_ok (c.t.d.fact 65 (f := .exm "ScreenError" "ScreenError" true) rfl),
   He.exc_ok (c.t.d.fact 66 (f := .exc "BadText") rfl),
   He.exm_ok (c.t.d.fact 67 (f := .exm "BadText" "ScreenError" true) rfl),
   He.exc_ok (c.t.d.fact 68 (f := .exc "BadSize") rfl),
   He.exm_ok (c.t.d.fact 69 (f := .exm "BadSize" "ScreenError" true) rfl),
   He.exc_ok (c.t.d.fact 70 (f := .exc "BadPlace") rfl),
   He.exm_ok (c.t.d.fact 71 (f := .exm "BadPlace" "ScreenError" true) rfl),
   He.exc_ok (c.t.d.fact 72 (f := .exc "BadPage") rfl),
   He.exm_ok (c.t.d.fact 73 (f := .exm "BadPage" "ScreenError" true) rfl),
   He.exc_ok (c.t.d.fact 74 (f := .exc "BadPane") rfl),
   He.exm_ok (c.t.d.fact 75 (f := .exm "BadPane" "ScreenError" true) rfl),
   He.exc_ok (c.t.d.fact 76 (f := .exc "BadTick") rfl),
   He.exm_ok (c.t.d.fact 77 (f := .exm "BadTick" "ScreenError" true) rfl),
   He.exc_ok (c.t.d.fact 78 (f := .exc "Nothing") rfl),
   He.exm_ok (c.t.d.fact 79 (f := .exm "Nothing" "ScreenError" true) rfl),
   He.cls_ok (c.t.d.fact 80 (f := .cls "Reader") rfl),
   He.mkr_ok (c.t.d.fact 81 (f := .mkr "Reader") rfl),
   He.meth_ok (c.t.d.fact 82 (f := .meth "Reader" "dropped") rfl),
   He.meth_ok (c.t.d.fact 83 (f := .meth "Reader" "left") rfl),
   He.meth_ok (c.t.d.fact 84 (f := .meth "Reader" "feed") rfl),
   He.meth_ok (c.t.d.fact 85 (f := .meth "Reader" "plain") rfl),
   He.meth_ok (c.t.d.fact 86 (f := .meth "Reader" "read") rfl),
   He.meth_ok (c.t.d.fact 87 (f := .meth "Reader" "can_go_on") rfl),
   He.meth_ok (c.t.d.fact 88 (f := .meth "Reader" "whole") rfl),
   He.noat_ok (c.t.d.fact 89 (f := .noat "Reader" "begun") rfl),
   He.noat_ok (c.t.d.fact 90 (f := .noat "Reader" "lost") rfl),
   He.cls_ok (c.t.d.fact 91 (f := .cls "Row") rfl),
   He.mkr_ok (c.t.d.fact 92 (f := .mkr "Row") rfl),
   He.noat_ok (c.t.d.fact 93 (f := .noat "Row" "cells") rfl),
   He.noat_ok (c.t.d.fact 94 (f := .noat "Row" "goes_on") rfl),
   He.cls_ok (c.t.d.fact 95 (f := .cls "Screen") rfl),
   He.mkr_ok (c.t.d.fact 96 (f := .mkr "Screen") rfl),
   He.meth_ok (c.t.d.fact 97 (f := .meth "Screen" "begin") rfl),
   He.meth_ok (c.t.d.fact 98 (f := .meth "Screen" "size") rfl),
   He.meth_ok (c.t.d.fact 99 (f := .meth "Screen" "page") rfl),
   He.meth_ok (c.t.d.fact 100 (f := .meth "Screen" "texts") rfl),
   He.meth_ok (c.t.d.fact 101 (f := .meth "Screen" "kept") rfl),
   He.meth_ok (c.t.d.fact 102 (f := .meth "Screen" "cursor") rfl),
   He.meth_ok (c.t.d.fact 103 (f := .meth "Screen" "state") rfl),
   He.meth_ok (c.t.d.fact 104 (f := .meth "Screen" "cell") rfl),
   He.meth_ok (c.t.d.fact 105 (f := .meth "Screen" "feed") rfl),
   He.meth_ok (c.t.d.fact 106 (f := .meth "Screen" "do") rfl),
   He.meth_ok (c.t.d.fact 107 (f := .meth "Screen" "stand") rfl),
   He.meth_ok (c.t.d.fact 108 (f := .meth "Screen" "put") rfl),
   He.meth_ok (c.t.d.fact 109 (f := .meth "Screen" "roll") rfl),
   He.meth_ok (c.t.d.fact 110 (f := .meth "Screen" "roll_down") rfl),
   He.meth_ok (c.t.d.fact 111 (f := .meth "Screen" "cut_off") rfl),
   He.meth_ok (c.t.d.fact 112 (f := .meth "Screen" "down") rfl),
   He.meth_ok (c.t.d.fact 113 (f := .meth "Screen" "up") rfl),
   He.meth_ok (c.t.d.fact 114 (f := .meth "Screen" "small") rfl),
   He.meth_ok (c.t.d.fact 115 (f := .meth "Screen" "erase") rfl),
   He.meth_ok (c.t.d.fact 116 (f := .meth "Screen" "great") rfl),
   He.meth_ok (c.t.d.fact 117 (f := .meth "Screen" "one") rfl),
   He.meth_ok (c.t.d.fact 118 (f := .meth "Screen" "take_rows") rfl),
   He.meth_ok (c.t.d.fact 119 (f := .meth "Screen" "shift") rfl),
   He.noat_ok (c.t.d.fact 120 (f := .noat "Screen" "reader") rfl),
   He.noat_ok (c.t.d.fact 121 (f := .noat "Screen" "wide") rfl),
   He.noat_ok (c.t.d.fact 122 (f := .noat "Screen" "high") rfl),
   He.noat_ok (c.t.d.fact 123 (f := .noat "Screen" "most") rfl),
   He.noat_ok (c.t.d.fact 124 (f := .noat "Screen" "past") rfl),
   He.noat_ok (c.t.d.fact 125 (f := .noat "Screen" "rows") rfl),
   He.noat_ok (c.t.d.fact 126 (f := .noat "Screen" "row") rfl),
   He.noat_ok (c.t.d.fact 127 (f := .noat "Screen" "column") rfl),
   He.noat_ok (c.t.d.fact 128 (f := .noat "Screen" "is_full") rfl),
   He.noat_ok (c.t.d.fact 129 (f := .noat "Screen" "pen") rfl),
   He.noat_ok (c.t.d.fact 130 (f := .noat "Screen" "top") rfl),
   He.noat_ok (c.t.d.fact 131 (f := .noat "Screen" "bottom") rfl),
   He.noat_ok (c.t.d.fact 132 (f := .noat "Screen" "put_by") rfl),
   He.noat_ok (c.t.d.fact 133 (f := .noat "Screen" "last") rfl),
   He.cls_ok (c.t.d.fact 134 (f := .cls "Tape") rfl),
   He.mkr_ok (c.t.d.fact 135 (f := .mkr "Tape") rfl),
   He.meth_ok (c.t.d.fact 136 (f := .meth "Tape" "record") rfl),
   He.meth_ok (c.t.d.fact 137 (f := .meth "Tape" "undo") rfl),
   He.meth_ok (c.t.d.fact 138 (f := .meth "Tape" "redo") rfl),
   He.meth_ok (c.t.d.fact 139 (f := .meth "Tape" "length") rfl),
   He.meth_ok (c.t.d.fact 140 (f := .meth "Tape" "records") rfl),
   He.meth_ok (c.t.d.fact 141 (f := .meth "Tape" "need_tick") rfl),
   He.meth_ok (c.t.d.fact 142 (f := .meth "Tape" "screen_behind") rfl),
   He.meth_ok (c.t.d.fact 143 (f := .meth "Tape" "page_at") rfl),
   He.meth_ok (c.t.d.fact 144 (f := .meth "Tape" "cursor_at") rfl),
   He.meth_ok (c.t.d.fact 145 (f := .meth "Tape" "changes_at") rfl),
   He.meth_ok (c.t.d.fact 146 (f := .meth "Tape" "first_with") rfl),
   He.noat_ok (c.t.d.fact 147 (f := .noat "Tape" "sizes") rfl),
   He.noat_ok (c.t.d.fact 148 (f := .noat "Tape" "rows") rfl),
   He.noat_ok (c.t.d.fact 149 (f := .noat "Tape" "taken") rfl),
   c.t.d.def_ 0 (d := d__wall) rfl,
   c.t.d.def_ 1 (d := d_is_sign) rfl,
   c.t.d.def_ 2 (d := d_need_text) rfl,
   c.t.d.def_ 3 (d := d_Reader___init__) rfl,
   c.t.d.def_ 4 (d := d_Reader_dropped) rfl,
   c.t.d.def_ 5 (d := d_Reader_left) rfl,
   c.t.d.def_ 6 (d := d_Reader_feed) rfl,
   c.t.d.def_ 7 (d := d_Reader_plain) rfl,
   c.t.d.def_ 8 (d := d_Reader_read) rfl,
   c.t.d.def_ 9 (d := d_Reader_can_go_on) rfl,
   c.t.d.def_ 10 (d := d_Reader_whole) rfl,
   c.t.d.def_ 11 (d := d_is_count) rfl,
   c.t.d.def_ 12 (d := d_need) rfl,
   c.t.d.def_ 13 (d := d_is_pen) rfl,
   c.t.d.def_ 14 (d := d_is_cell) rfl,
   c.t.d.def_ 15 (d := d_need_page) rfl,
   c.t.d.def_ 16 (d := d_changes) rfl,
   c.t.d.def_ 17 (d := d_need_size) rfl,
   c.t.d.def_ 18 (d := d_Row___init__) rfl,
   c.t.d.def_ 19 (d := d_blank_row) rfl,
   c.t.d.def_ 20 (d := d_Screen___init__) rfl,
   c.t.d.def_ 21 (d := d_Screen_begin) rfl,
   c.t.d.def_ 22 (d := d_Screen_size) rfl,
   c.t.d.def_ 23 (d := d_Screen_page) rfl,
   c.t.d.def_ 24 (d := d_Screen_texts) rfl,
   c.t.d.def_ 25 (d := d_Screen_kept) rfl,
   c.t.d.def_ 26 (d := d_Screen_cursor) rfl,
   c.t.d.def_ 27 (d := d_Screen_state) rfl,
   c.t.d.def_ 28 (d := d_Screen_cell) rfl,
   c.t.d.def_ 29 (d := d_Screen_feed) rfl,
   c.t.d.def_ 30 (d := d_Screen_do) rfl,
   c.t.d.def_ 31 (d := d_Screen_stand) rfl,
   c.t.d.def_ 32 (d := d_Screen_put) rfl,
   c.t.d.def_ 33 (d := d_Screen_roll) rfl,
   c.t.d.def_ 34 (d := d_Screen_roll_down) rfl,
   c.t.d.def_ 35 (d := d_Screen_cut_off) rfl,
   c.t.d.def_ 36 (d := d_Screen_down) rfl,
   c.t.d.def_ 37 (d := d_Screen_up) rfl,
   c.t.d.def_ 38 (d := d_Screen_small) rfl,
   c.t.d.def_ 39 (d := d_Screen_erase) rfl,
   c.t.d.def_ 40 (d := d_Screen_great) rfl,
   c.t.d.def_ 41 (d := d_Screen_one) rfl,
   c.t.d.def_ 42 (d := d_Screen_take_rows) rfl,
   c.t.d.def_ 43 (d := d_Screen_shift) rfl,
   c.t.d.def_ 44 (d := d_Tape___init__) rfl,
   c.t.d.def_ 45 (d := d_Tape_record) rfl,
   c.t.d.def_ 46 (d := d_Tape_undo) rfl,
   c.t.d.def_ 47 (d := d_Tape_redo) rfl,
   c.t.d.def_ 48 (d := d_Tape_length) rfl,
   c.t.d.def_ 49 (d := d_Tape_records) rfl,
   c.t.d.def_ 50 (d := d_Tape_need_tick) rfl,
   c.t.d.def_ 51 (d := d_Tape_screen_behind) rfl,
   c.t.d.def_ 52 (d := d_Tape_page_at) rfl,
   c.t.d.def_ 53 (d := d_Tape_cursor_at) rfl,
   c.t.d.def_ 54 (d := d_Tape_changes_at) rfl,
   c.t.d.def_ 55 (d := d_Tape_first_with) rfl,
   c.t.d.def_ 56 (d := d__law_cell) rfl,
   c.t.d.def_ 57 (d := d__law_drawn) rfl,
   c.t.d.def_ 58 (d := d__law_word) rfl,
   c.t.d.def_ 59 (d := d__law_told) rfl,
   c.t.d.def_ 60 (d := d_law) rfl,
   wordB_of (Bool.and_eq_true_iff.mp c.more).1,
   fun H => He.tupB_ok (Bool.and_eq_true_iff.mp (Bool.and_eq_true_iff.mp c.more).2).1 H,
   fun H => He.tupB_ok (Bool.and_eq_true_iff.mp (Bool.and_eq_true_iff.mp c.more).2).2 H⟩
end Sc
namespace Sc
open PySem PySem.Spec PyProof.Rows L2
theorem facts {w : World} {K : PySem.W.Frag} {h : Heap} {mg : Str → Option Value} {f : Addr} (X : K.In h) (G : h.Ns mainGlobals mg) (hfa : mg ("law" : Str) = some (.ref f)) (c : He.SaysX fa fn [] tf ex w h K) : LamX.LawAtS PySem.Challenge.rw_steerscreen_k61_tapes_refused w K CX0 18 63 "script" mg f h := by
  have T := gt_of X G c
  obtain ⟨fd, FD⟩ := T.f_law
  have e := hfa.symm.trans T.g_law
  cases e
  have one : ∀ p ∈ lawDs, p ∈ tf := fun p hp => hp
  refine ⟨fd, lawDs.map (He.cT K), spLaw K (lawTs K), fun p hp => ?_, fun p hp => ?_, fun p hp => ?_, fun s u => FD.bindsA (ps := ["script"]) (fun _ _ _ _ _ _ us hl => match us, hl with | [_], _ => rfl) s [u] rfl, fun H a ns hl hb hH hS => ⟨a, ns, rfl, hS, hl, hb, fun p hp => ?_, fun _ => rfl⟩, fun base _ _ hTB => c_law T (fun p hp => hTB _ (List.mem_map.mpr ⟨p, hp, rfl⟩)) FD⟩
  · obtain ⟨d, hd, rfl⟩ := List.mem_map.mp hp
    exact c.empty d (one d hd)
  · obtain ⟨d, hd, rfl⟩ := List.mem_map.mp hp
    exact c.out d (one d hd)
  · obtain ⟨d, hd, rfl⟩ := List.mem_map.mp hp
    exact PySem.W.codeHd_of_K X (c.hd d (one d hd))
  · obtain ⟨d, hd, rfl⟩ := List.mem_map.mp hp
    exact LamX.TabS.nil (hH _ (List.mem_map.mpr ⟨d, hd, rfl⟩))
end Sc
open PySem PySem.W PySem.Calls PyProof.Rows
theorem PySem.Challenge.cw_steerscreen_k61_tapes_refused_holds : PySem.Challenge.rw_steerscreen_k61_tapes_refused.Holds := by
  w_on; o_law
  refine HandSHeadRun.head_any (r := Sc.RR) (q := view Sc.RR.prog [53]) (H := Sc.hk) (ob := Sc.ob) (M := 20000) (loose := Sc.loose) (d := HandSHeadRun.topDef Sc.RR.prog 53) (kwd := []) Sc.ob_eq
    (by kernel_rfl) (fun s => by kernel_rfl) Sc.run (by kernel_rfl) (by kernel_rfl) (by kernel_rfl) (by rfl) (by first | assumption | decide +kernel) (by decide +kernel) ⟨rfl, rfl, rfl, rfl, rfl, by decide +kernel⟩ ?hw ?hc
  case hw => w_witness2
  case hc =>
    refine LamX.walk_ofTsE (l := PySem.Challenge.rw_steerscreen_k61_tapes_refused) (n := 63) (k := 18) (x := "script") (CX := fun _ => L2.CX0) rfl (by decide) (by kernel_rfl) ⟨rfl, by decide, by decide⟩ ?F (fun _ _ _ _ _ z => z)
    intro w mg fa h Y G hmg0
    obtain ⟨K, KX, c⟩ := Y
    have hmg : mg ("law" : PySem.Str) = some (.ref fa) := by
      have e : (HandSHeadRun.topDef Sc.RR.prog 53).name = ("law" : PySem.Str) := by kernel_rfl
      rw [← e]
      exact hmg0
    exact ⟨K, KX, Sc.facts KX G hmg c⟩
