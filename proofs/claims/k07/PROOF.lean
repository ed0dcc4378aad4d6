import PyProof.Rows.All
import Wide.All
import OpenK.AllK
import Wide.FinOn
import HandS.ForMost
import HandS.Evl
import HandS.Wide
import HandS.WideBits
import HandS.Deep
import HandS.TupAny
import HandS.TupLe
import HandS.IsInst
import HandS.Replace
import KE.KTupSum
import HandS.Codes
import PySem.Challenge.RW_layersplit_k07_whole_layers_are_free
set_option Elab.async false
set_option linter.all false
set_option maxRecDepth 100000
set_option maxHeartbeats 4000000
/-! LyA: judgements over data: a frozen part F of the heap H carries all data; what is owned stands in H alone. -/
namespace Ly
open PySem L2 Evl

theorem no_of {p : Prop} [Decidable p] (h : (!decide p) = true) : ¬ p := fun z => by rw [decide_eq_true z] at h; cases h
theorem yes_of {p : Prop} [Decidable p] (h : (!decide p) = false) : p := by
  by_cases z : p
  · exact z
  · rw [decide_eq_false z] at h; cases h
abbrev D := PySem.PyData
abbrev Fg := PySem.W.Frag

/-! ### growth -/
structure Gr (F H F2 H2 : Hp) : Prop where
  fx : Ex F F2
  hx : Ex H H2
  fh : Ex F2 H2
  old : ∀ p, H p ≠ none → F2 p = F p
section
variable {F H F1 H1 F2 H2 F3 H3 : Hp} {p l : Addr} {o : HO} {K : Fg}
theorem Gr.refl (h : Ex F H) : Gr F H F H := ⟨Ex.refl F, Ex.refl H, h, fun _ _ => rfl⟩
theorem ex_nn (e : Ex H H2) (h : H p ≠ none) : H2 p ≠ none := by
  cases q : H p with
  | none => exact absurd q h
  | some o => rw [e p o q]; exact fun z => nomatch z
theorem Gr.trans (a : Gr F H F2 H2) (b : Gr F2 H2 F3 H3) : Gr F H F3 H3 :=
  ⟨a.fx.trans b.fx, a.hx.trans b.hx, b.fh, fun p h => (b.old p (ex_nn a.hx h)).trans (a.old p h)⟩
theorem Gr.grow (a : Gr F H F2 H2) (e : Ex H2 H3) : Gr F H F2 H3 := ⟨a.fx, a.hx.trans e, a.fh.trans e, a.old⟩
theorem Gr.new (fh : Ex F H) (hp : H p = none) : Gr F H (upd F p o) (upd H p o) := by
  have fp : F p = none := fresh_back fh hp
  refine ⟨Ex.new fp, Ex.new hp, fun b u h => ?_, fun b hb => ?_⟩
  · by_cases e : b = p
    · subst e; rw [upd_same] at h ⊢; exact h
    · rw [upd_ne e] at h ⊢; exact fh b u h
  · have e : b ≠ p := fun z => hb (by rw [z]; exact hp)
    rw [upd_ne e]
/-- a thing is made that stays one's own -/
theorem Gr.own (fh : Ex F H) (hp : H p = none) : Gr F H F (upd H p o) := ⟨Ex.refl F, Ex.new hp, fh.trans (Ex.new hp), fun _ _ => rfl⟩
/-- what is one's own changes -/
theorem Gr.mut (g : Gr F H F2 H2) (h0 : H l = none) (hf : F2 l = none) : Gr F H F2 (upd H2 l o) := by
  refine ⟨g.fx, fun b u h => ?_, fun b u h => ?_, g.old⟩
  · rw [upd_ne (ne_of_none h h0)]; exact g.hx b u h
  · rw [upd_ne (ne_of_none h hf)]; exact g.fh b u h
/-- what is one's own is handed out -/
theorem Gr.give (g : Gr F H F2 H2) (h0 : H l = none) (hl : H2 l = some o) (hf : F2 l = none) : Gr F H (upd F2 l o) H2 := by
  refine ⟨g.fx.trans (Ex.new hf), g.hx, fun b u h => ?_, fun b hb => ?_⟩
  · by_cases e : b = l
    · subst e; rw [upd_same] at h; cases h; exact hl
    · rw [upd_ne e] at h; exact g.fh b u h
  · have e : b ≠ l := fun z => hb (by rw [z]; exact h0)
    rw [upd_ne e]; exact g.old b hb
theorem Gr.non (g : Gr F H F2 H2) (h : H l ≠ none) (hf : F l = none) : F2 l = none := (g.old l h).trans hf
theorem Gr.back (g : Gr F H F2 H2) (h : H2 l = none) : H l = none := fresh_back g.hx h

/-! ### data -/
mutual
theorem dp_mono (e : Ex F F2) : ∀ (d : D) (v : V), Dp K F v d → Dp K F2 v d
  | .none, _, h => by cases h; exact .non
  | .bool b, _, h => by cases h; exact .bl b
  | .int i, _, h => by cases h; exact .int i
  | .str x, _, h => by cases h; exact .str x
  | .list ds, _, h => by
    cases h with
    | lst hs ha => exact .lst (ex_l e hs) (dps_mono e ds _ ha)
  | .tuple ds, _, h => by
    cases h with
    | tup hs ha => exact .tup (ex_t e hs) (dps_mono e ds _ ha)
  | .dict _, _, h => by cases h
theorem dps_mono (e : Ex F F2) : ∀ (ds : List D) (vs : List V), DpAll K F vs ds → DpAll K F2 vs ds
  | [], _, h => by cases h; exact .nil
  | d :: ds, _, h => by
    cases h with
    | cons h1 h2 => exact .cons (dp_mono e d _ h1) (dps_mono e ds _ h2)
end
end
end Ly
namespace L2
open PySem Ly Evl
section
variable {K : PySem.W.Frag} {F F2 : Hp} {v : V} {vs : List V} {d : PyData} {ds es : List PyData}
theorem Dp.up (h : Dp K F v d) (e : Ex F F2) : Dp K F2 v d := dp_mono e d v h
theorem DpAll.up (h : DpAll K F vs ds) (e : Ex F F2) : DpAll K F2 vs ds := dps_mono e ds vs h
theorem DpAll.length : ∀ {vs : List V} {ds : List PyData}, DpAll K F vs ds → vs.length = ds.length
  | _, [], h => by cases h; rfl
  | _, d :: ds, h => by
    cases h with
    | cons _ h2 => rw [List.length_cons, List.length_cons, DpAll.length h2]
theorem DpAll.get : ∀ {vs : List V} {ds : List PyData} {i : Nat} {d : PyData}, DpAll K F vs ds → ds[i]? = some d → ∃ v, vs[i]? = some v ∧ Dp K F v d
  | _, [], i, d, h, e => by simp at e
  | _, x :: ds, 0, d, h, e => by
    cases h with
    | cons h1 h2 =>
      have q : x = d := Option.some.inj e
      subst q
      exact ⟨_, rfl, h1⟩
  | _, x :: ds, i + 1, d, h, e => by
    cases h with
    | cons h1 h2 =>
      obtain ⟨v, e1, r⟩ := DpAll.get (i := i) (d := d) h2 (by simpa using e)
      exact ⟨v, by simpa using e1, r⟩
theorem DpAll.getV : ∀ {vs : List V} {ds : List PyData} {i : Nat} {v : V}, DpAll K F vs ds → vs[i]? = some v → ∃ d, ds[i]? = some d ∧ Dp K F v d
  | _, [], i, v, h, e => by cases h; simp at e
  | _, x :: ds, 0, v, h, e => by
    cases h with
    | cons h1 h2 =>
      have q := Option.some.inj e
      subst q
      exact ⟨_, rfl, h1⟩
  | _, x :: ds, i + 1, v, h, e => by
    cases h with
    | cons h1 h2 =>
      obtain ⟨d, e1, r⟩ := DpAll.getV (i := i) (v := v) h2 (by simpa using e)
      exact ⟨d, by simpa using e1, r⟩
theorem DpAll.append : ∀ {vs ws : List V} {ds es : List PyData}, DpAll K F vs ds → DpAll K F ws es → DpAll K F (vs ++ ws) (ds ++ es)
  | _, _, [], _, h, k => by cases h; exact k
  | _, _, d :: ds, _, h, k => by
    cases h with
    | cons h1 h2 => exact .cons h1 (DpAll.append h2 k)
theorem DpAll.take : ∀ {vs : List V} {ds : List PyData} (n : Nat), DpAll K F vs ds → DpAll K F (vs.take n) (ds.take n)
  | _, _, 0, _ => .nil
  | _, [], _ + 1, h => by cases h; exact .nil
  | _, d :: ds, n + 1, h => by
    cases h with
    | cons h1 h2 => exact .cons h1 (DpAll.take n h2)
theorem DpAll.drop : ∀ {vs : List V} {ds : List PyData} (n : Nat), DpAll K F vs ds → DpAll K F (vs.drop n) (ds.drop n)
  | _, _, 0, h => h
  | _, [], _ + 1, h => by cases h; exact .nil
  | _, d :: ds, n + 1, h => by
    cases h with
    | cons h1 h2 => exact DpAll.drop n h2
theorem dps_ints : ∀ (ns : List Int), DpAll K F (ns.map V.int) (ns.map PyData.int)
  | [] => .nil
  | n :: ns => .cons (.int n) (dps_ints ns)
theorem dps_strs : ∀ (ns : List Str), DpAll K F (ns.map V.str) (ns.map PyData.str)
  | [] => .nil
  | n :: ns => .cons (.str n) (dps_strs ns)
theorem dps_bools : ∀ (ns : List Bool), DpAll K F (ns.map V.bl) (ns.map PyData.bool)
  | [] => .nil
  | n :: ns => .cons (.bl n) (dps_bools ns)
theorem dps_ints_inv : ∀ (ns : List Int) {vs : List V}, DpAll K F vs (ns.map PyData.int) → vs = ns.map V.int
  | [], _, h => by cases h; rfl
  | n :: ns, _, h => by
    cases h with
    | cons h1 h2 =>
      cases h1
      rw [dps_ints_inv ns h2]
      rfl
theorem dps_bools_inv : ∀ (ns : List Bool) {vs : List V}, DpAll K F vs (ns.map PyData.bool) → vs = ns.map V.bl
  | [], _, h => by cases h; rfl
  | n :: ns, _, h => by
    cases h with
    | cons h1 h2 =>
      cases h1
      rw [dps_bools_inv ns h2]
      rfl
theorem dps_strs_inv : ∀ (ns : List Str) {vs : List V}, DpAll K F vs (ns.map PyData.str) → vs = ns.map V.str
  | [], _, h => by cases h; rfl
  | n :: ns, _, h => by
    cases h with
    | cons h1 h2 =>
      cases h1
      rw [dps_strs_inv ns h2]
      rfl
theorem dp_ints {a : Addr} {ns : List Int} (h : SqL K F a (ns.map V.int)) : Dp K F (.ref a) (.list (ns.map PyData.int)) := .lst h (dps_ints ns)
end
end L2
namespace Ly
open PySem L2 Evl
/-- a value that is its own datum -/
def scV : D → Option V
  | .none => some .non
  | .bool b => some (.bl b)
  | .int i => some (.int i)
  | .str x => some (.str x)
  | _ => none
theorem scV_inv {K : Fg} {F : Hp} {v w : V} {d : D} (e : scV d = some v) (h : Dp K F w d) : w = v := by
  cases h <;> (unfold scV at e; first | (cases e; rfl) | cases e)
theorem scV_dp {K : Fg} {F : Hp} {v : V} {d : D} (e : scV d = some v) : Dp K F v d := by
  cases d <;> (unfold scV at e; first | (cases e; constructor; done) | cases e)

/-! ### readings over data -/
/-- what is handed back: a value that bears the datum -/
def Ans (K : Fg) (F H : Hp) (r : D) (Q : VK) : Prop := ∀ v F2 H2, Gr F H F2 H2 → Dp K F2 v r → Q v H2
def rD2 (K : Fg) (R : D → D → D → Prop) : R2 := fun x y H Q => ∃ F d e r, Ex F H ∧ Dp K F x d ∧ Dp K F y e ∧ R d e r ∧ Ans K F H r Q
def rD1 (K : Fg) (R : D → D → Prop) : V → Hp → VK → Prop := fun x H Q => ∃ F d r, Ex F H ∧ Dp K F x d ∧ R d r ∧ Ans K F H r Q
def rDn (K : Fg) (R : List D → D → Prop) : List V → Hp → VK → Prop := fun vs H Q => ∃ F ds r, Ex F H ∧ DpAll K F vs ds ∧ R ds r ∧ Ans K F H r Q
def rDm (K : Fg) (R : D → List D → D → Prop) : V → List V → Hp → VK → Prop := fun x vs H Q => ∃ F d ds r, Ex F H ∧ Dp K F x d ∧ DpAll K F vs ds ∧ R d ds r ∧ Ans K F H r Q
def rDs (K : Fg) (R : D → Option Int → Option Int → D → Prop) : V → Option Int → Option Int → Hp → VK → Prop := fun x lo hi H Q => ∃ F d r, Ex F H ∧ Dp K F x d ∧ R d lo hi r ∧ Ans K F H r Q
/-- the promise of a def that is a relation of data -/
def spR (K : Fg) (R : List D → D → Prop) : Sp := fun vs H Q _ => rDn K R vs H Q
theorem spR_len {K : Fg} {R : List D → D → Prop} {n : Nat} (h : ∀ ds r, R ds r → ds.length = n) : ∀ vs H Q E, spR K R vs H Q E → vs.length = n := fun vs H Q E ⟨F, ds, r, _, ha, hr, _⟩ => by
  rw [ha.length]; exact h ds r hr

/-! ### what evaluates to what -/
def EvD (K : Fg) (te : TE) (σ : L2.St) (F H : Hp) (d : D) : Prop := ∀ F1 H1, Ex F F1 → Ex H H1 → Ex F1 H1 → ∀ Q : VK, (∀ v F2 H2, Gr F1 H1 F2 H2 → Dp K F2 v d → Q v H2) → te σ H1 Q
def EvDs (K : Fg) (ta : TA) (σ : L2.St) (F H : Hp) (ds : List D) : Prop := ∀ F1 H1, Ex F F1 → Ex H H1 → Ex F1 H1 → ∀ Q : List V → Hp → Prop, (∀ vs F2 H2, Gr F1 H1 F2 H2 → DpAll K F2 vs ds → Q vs H2) → ta σ H1 Q
def EvB (t : TT) (σ : L2.St) (F H : Hp) (b : Bool) : Prop := ∀ F1 H1, Ex F F1 → Ex H H1 → Ex F1 H1 → ∀ Q : Bool → Hp → Prop, (∀ H2, Ex H1 H2 → Q b H2) → t σ H1 Q
def EvI (K : Fg) (to : TO) (σ : L2.St) (F H : Hp) (o : Option Int) : Prop := ∀ F1 H1, Ex F F1 → Ex H H1 → Ex F1 H1 → ∀ Q : Option Int → Hp → Prop, (∀ H2, Ex H1 H2 → Q o H2) → to σ H1 Q

section
variable {K : Fg} {σ : L2.St} {F H F' H' : Hp} {ta tb te tx : TE} {t u : TT} {x y z v : V} {d e r : D} {b : Bool}
theorem EvD.up (h : EvD K te σ F H d) (a : Ex F F') (c : Ex H H') : EvD K te σ F' H' d := fun F1 H1 e1 e2 => h F1 H1 (a.trans e1) (c.trans e2)
theorem EvB.up (h : EvB t σ F H b) (a : Ex F F') (c : Ex H H') : EvB t σ F' H' b := fun F1 H1 e1 e2 => h F1 H1 (a.trans e1) (c.trans e2)
theorem EvD.to (h : EvD K te σ F H d) (q : d = e) : EvD K te σ F H e := q ▸ h
theorem EvB.to {c : Bool} (h : EvB t σ F H b) (q : b = c) : EvB t σ F H c := q ▸ h
theorem EvDs.to {ds es : List D} {ta : TA} (h : EvDs K ta σ F H ds) (q : ds = es) : EvDs K ta σ F H es := q ▸ h
/-- told with what stands beside -/
theorem EvD.own (h : EvD K te σ F' H d) (hs : scV d = some v) (h1 : ∀ F1 H1, Ex F F1 → Ex H H1 → Ex F1 H1 → ∃ F2, Ex F' F2 ∧ Ex F2 H1) : EvD K te σ F H d := fun F1 H1 e1 e2 e3 Q q => by
  obtain ⟨F2, a, c⟩ := h1 F1 H1 e1 e2 e3
  refine h F2 H1 a e2 c Q fun w F3 H3 g hw => ?_
  have ew := scV_inv hs hw
  subst ew
  exact q _ F1 H3 ⟨Ex.refl _, g.hx, e3.trans g.hx, fun _ _ => rfl⟩ (scV_dp hs)
theorem EvB.own (h : EvB t σ F' H b) (h1 : ∀ F1 H1, Ex F F1 → Ex H H1 → Ex F1 H1 → ∃ F2, Ex F' F2 ∧ Ex F2 H1) : EvB t σ F H b := fun F1 H1 e1 e2 e3 Q q => by
  obtain ⟨F2, a, c⟩ := h1 F1 H1 e1 e2 e3
  exact h F2 H1 a e2 c Q q
/-- with one's own list at l beside -/
theorem ownL {l : Addr} {o : HO} (hl : H l = some o) : ∀ F1 H1, Ex F F1 → Ex H H1 → Ex F1 H1 → ∃ F2, Ex (upd F l o) F2 ∧ Ex F2 H1 := fun F1 H1 e1 e2 e3 =>
  ⟨upd F1 l o, fun b u q => by
    by_cases eb : b = l
    · subst eb; rw [upd_same] at q ⊢; exact q
    · rw [upd_ne eb] at q ⊢; exact e1 b u q, fun b u q => by
    by_cases eb : b = l
    · subst eb; rw [upd_same] at q; cases q; exact e2 _ _ hl
    · rw [upd_ne eb] at q; exact e3 b u q⟩
/-! values -/
theorem d_var {i : Nat} (h : σ[i]? = some (some v)) (hd : Dp K F v d) : EvD K (tVar i) σ F H d := fun F1 H1 e1 _ e3 _ q => ⟨v, h, q v F1 H1 (Gr.refl e3) (hd.up e1)⟩
theorem d_c (hd : Dp K F v d) : EvD K (tC v) σ F H d := fun F1 H1 e1 _ e3 _ q => q v F1 H1 (Gr.refl e3) (hd.up e1)
theorem ex_join {F1 H1 F2 H2 : Hp} (g : Gr F1 H1 F2 H2) (h : Ex H H1) : Ex H H2 := h.trans g.hx
theorem d_op2 {R : D → D → D → Prop} (ha : EvD K ta σ F H d) (hb : EvD K tb σ F H e) (hr : R d e r) : EvD K (tOp (rD2 K R) ta tb) σ F H r := fun F1 H1 e1 e2 e3 Q q =>
  ha F1 H1 e1 e2 e3 _ fun x F2 H2 g2 hx => hb F2 H2 (e1.trans g2.fx) (e2.trans g2.hx) g2.fh _ fun y F3 H3 g3 hy =>
    ⟨F3, d, e, r, g3.fh, hx.up g3.fx, hy, hr, fun v F4 H4 g4 hv => q v F4 H4 ((g2.trans g3).trans g4) hv⟩
theorem d_un {R : D → D → Prop} (ha : EvD K ta σ F H d) (hr : R d r) : EvD K (tUn (rD1 K R) ta) σ F H r := fun F1 H1 e1 e2 e3 Q q =>
  ha F1 H1 e1 e2 e3 _ fun x F2 H2 g2 hx => ⟨F2, d, r, g2.fh, hx, hr, fun v F4 H4 g4 hv => q v F4 H4 (g2.trans g4) hv⟩
theorem ds_nil : EvDs K tNil σ F H [] := fun F1 H1 _ _ e3 _ q => q [] F1 H1 (Gr.refl e3) .nil
theorem ds_cons {tr : TA} {ds : List D} (ha : EvD K ta σ F H d) (hr : EvDs K tr σ F H ds) : EvDs K (tCons ta tr) σ F H (d :: ds) := fun F1 H1 e1 e2 e3 Q q =>
  ha F1 H1 e1 e2 e3 _ fun x F2 H2 g2 hx => hr F2 H2 (e1.trans g2.fx) (e2.trans g2.hx) g2.fh _ fun xs F3 H3 g3 hxs => q (x :: xs) F3 H3 (g2.trans g3) (.cons (hx.up g3.fx) hxs)
theorem d_call {R : List D → D → Prop} {E : XK} {ta : TA} {ds : List D} (ha : EvDs K ta σ F H ds) (hr : R ds r) : EvD K (tCall (spR K R) [] E ta) σ F H r := fun F1 H1 e1 e2 e3 Q q =>
  ha F1 H1 e1 e2 e3 _ fun xs F2 H2 g2 hx => by
    show rDn K R (xs ++ []) H2 Q
    rw [List.append_nil]
    exact ⟨F2, ds, r, g2.fh, hx, hr, fun v F4 H4 g4 hv => q v F4 H4 (g2.trans g4) hv⟩
theorem d_cb {R : List D → D → Prop} {ta : TA} {ds : List D} (ha : EvDs K ta σ F H ds) (hr : R ds r) : EvD K (tCB (rDn K R) ta) σ F H r := fun F1 H1 e1 e2 e3 Q q =>
  ha F1 H1 e1 e2 e3 _ fun xs F2 H2 g2 hx => ⟨F2, ds, r, g2.fh, hx, hr, fun v F4 H4 g4 hv => q v F4 H4 (g2.trans g4) hv⟩
theorem d_tup {ta : TA} {ds : List D} (ha : EvDs K ta σ F H ds) (hl : ds.length ≤ 100000) : EvD K (tTup ta) σ F H (.tuple ds) := fun F1 H1 e1 e2 e3 Q q =>
  ha F1 H1 e1 e2 e3 _ fun xs F2 H2 g2 hx => ⟨by rw [hx.length]; exact sz_of hl, fun p hp => q (.ref p) _ _ (g2.trans (Gr.new g2.fh hp)) (.tup (st_of upd_same) (hx.up (Ex.new (fresh_back g2.fh hp))))⟩
theorem d_lst {ta : TA} {ds : List D} (ha : EvDs K ta σ F H ds) (hl : ds.length ≤ 100000) : EvD K (tLst ta) σ F H (.list ds) := fun F1 H1 e1 e2 e3 Q q =>
  ha F1 H1 e1 e2 e3 _ fun xs F2 H2 g2 hx => ⟨by rw [hx.length]; exact sz_of hl, fun p hp => q (.ref p) _ _ (g2.trans (Gr.new g2.fh hp)) (.lst (sq_of upd_same) (hx.up (Ex.new (fresh_back g2.fh hp))))⟩
theorem d_sl {R : D → Option Int → Option Int → D → Prop} {tl th : TO} {lo hi : Option Int} (ha : EvD K te σ F H d) (h1 : EvI K tl σ F H lo) (h2 : EvI K th σ F H hi) (hr : R d lo hi r) : EvD K (tSl (rDs K R) te tl th) σ F H r := fun F1 H1 e1 e2 e3 Q q =>
  ha F1 H1 e1 e2 e3 _ fun x F2 H2 g2 hx => h1 F2 H2 (e1.trans g2.fx) (e2.trans g2.hx) g2.fh _ fun H3 x3 => h2 F2 H3 (e1.trans g2.fx) ((e2.trans g2.hx).trans x3) (g2.fh.trans x3) _ fun H4 x4 =>
    ⟨F2, d, r, (g2.fh.trans x3).trans x4, hx, hr, fun v F5 H5 g5 hv => q v F5 H5 (((g2.grow x3).grow x4).trans g5) hv⟩
theorem i_none : EvI K tNoPart σ F H none := fun _ H1 _ _ _ _ q => q H1 (Ex.refl H1)
theorem i_some {i : Int} (h : EvD K te σ F H (.int i)) : EvI K (tPart te) σ F H (some i) := fun F1 H1 e1 e2 e3 Q q =>
  h F1 H1 e1 e2 e3 _ fun v F2 H2 g hv => by
    cases hv
    exact ⟨i, rfl, q H2 g.hx⟩
/-! tests -/
theorem b_test (h : EvD K te σ F H (.bool b)) : EvB (tTest te) σ F H b := fun F1 H1 e1 e2 e3 Q q => h F1 H1 e1 e2 e3 _ fun v F2 H2 g hv => by
  cases hv
  exact ⟨b, rfl, q H2 g.hx⟩
theorem b_B (h : EvD K te σ F H (.bool b)) : EvB (tB te) σ F H b := fun F1 H1 e1 e2 e3 Q q => h F1 H1 e1 e2 e3 _ fun v F2 H2 g hv => by
  cases hv
  exact ⟨b, rfl, q H2 g.hx⟩
theorem b_var {i : Nat} (h : σ[i]? = some (some (.bl b))) : EvB (tB (tVar i)) σ F H b := fun _ H1 _ _ _ _ q => ⟨.bl b, h, b, rfl, q H1 (Ex.refl H1)⟩
theorem b_yes : EvB tYes σ F H true := fun _ H1 _ _ _ _ q => q H1 (Ex.refl H1)
theorem b_and {a b : Bool} (h1 : EvB t σ F H a) (h2 : a = true → EvB u σ F H b) : EvB (tAnd t u) σ F H (a && b) := fun F1 H1 e1 e2 e3 Q q => h1 F1 H1 e1 e2 e3 _ fun H2 g => by
  cases a with
  | true =>
    show u σ H2 Q
    exact h2 rfl F1 H2 e1 (e2.trans g) (e3.trans g) Q fun H3 k => q H3 (g.trans k)
  | false =>
    show Q false H2
    exact q H2 g
theorem b_or {a b : Bool} (h1 : EvB t σ F H a) (h2 : a = false → EvB u σ F H b) : EvB (tOr t u) σ F H (a || b) := fun F1 H1 e1 e2 e3 Q q => h1 F1 H1 e1 e2 e3 _ fun H2 g => by
  cases a with
  | true =>
    show Q true H2
    exact q H2 g
  | false =>
    show u σ H2 Q
    exact h2 rfl F1 H2 e1 (e2.trans g) (e3.trans g) Q fun H3 k => q H3 (g.trans k)
theorem b_not {a : Bool} (h1 : EvB t σ F H a) : EvB (tNot t) σ F H (!a) := fun F1 H1 e1 e2 e3 _ q => h1 F1 H1 e1 e2 e3 _ fun H2 g => q H2 g
theorem d_andV {a b : Bool} (h1 : EvD K ta σ F H (.bool a)) (h2 : a = true → EvD K tb σ F H (.bool b)) : EvD K (tAndV ta tb) σ F H (.bool (a && b)) := fun F1 H1 e1 e2 e3 Q q => h1 F1 H1 e1 e2 e3 _ fun v F2 H2 g hv => by
  cases hv
  refine ⟨a, rfl, ?_⟩
  cases a with
  | true =>
    show tb σ H2 Q
    exact h2 rfl F2 H2 (e1.trans g.fx) (e2.trans g.hx) g.fh Q fun v F3 H3 g3 hv => q v F3 H3 (g.trans g3) hv
  | false =>
    show Q (.bl false) H2
    exact q _ F2 H2 g (.bl _)
theorem d_orV {a b : Bool} (h1 : EvD K ta σ F H (.bool a)) (h2 : a = false → EvD K tb σ F H (.bool b)) : EvD K (tOrV ta tb) σ F H (.bool (a || b)) := fun F1 H1 e1 e2 e3 Q q => h1 F1 H1 e1 e2 e3 _ fun v F2 H2 g hv => by
  cases hv
  refine ⟨a, rfl, ?_⟩
  cases a with
  | true =>
    show Q (.bl true) H2
    exact q _ F2 H2 g (.bl _)
  | false =>
    show tb σ H2 Q
    exact h2 rfl F2 H2 (e1.trans g.fx) (e2.trans g.hx) g.fh Q fun v F3 H3 g3 hv => q v F3 H3 (g.trans g3) hv
theorem d_notV {a : Bool} (h1 : EvD K ta σ F H (.bool a)) : EvD K (tNotV ta) σ F H (.bool (!a)) := fun F1 H1 e1 e2 e3 Q q => h1 F1 H1 e1 e2 e3 _ fun v F2 H2 g hv => by
  cases hv
  exact ⟨a, rfl, q _ F2 H2 g (.bl _)⟩
theorem d_if (h : EvB t σ F H b) (h1 : b = true → EvD K ta σ F H d) (h2 : b = false → EvD K tb σ F H d) : EvD K (tIf t ta tb) σ F H d := fun F1 H1 e1 e2 e3 Q q => h F1 H1 e1 e2 e3 _ fun H2 g => by
  cases b with
  | true =>
    show ta σ H2 Q
    exact h1 rfl F1 H2 e1 (e2.trans g) (e3.trans g) Q fun v F3 H3 g3 hv => q v F3 H3 ⟨g3.fx, g.trans g3.hx, g3.fh, fun p hp => g3.old p (ex_nn g hp)⟩ hv
  | false =>
    show tb σ H2 Q
    exact h2 rfl F1 H2 e1 (e2.trans g) (e3.trans g) Q fun v F3 H3 g3 hv => q v F3 H3 ⟨g3.fx, g.trans g3.hx, g3.fh, fun p hp => g3.old p (ex_nn g hp)⟩ hv
/-- a < b < c -/
theorem d_chain {R R' : D → D → D → Prop} {tc : TE} {f : D} {p q : Bool} (ha : EvD K ta σ F H d) (hb : EvD K tb σ F H e) (hr : R d e (.bool p)) (h2 : p = true → EvD K tc σ F H f) (h3 : p = true → R' e f (.bool q)) :
    EvD K (tChain (rD2 K R) (rD2 K R') ta tb tc) σ F H (.bool (p && q)) := fun F1 H1 e1 e2 e3 Q k =>
  ha F1 H1 e1 e2 e3 _ fun x F2 H2 g2 hx => hb F2 H2 (e1.trans g2.fx) (e2.trans g2.hx) g2.fh _ fun y F3 H3 g3 hy =>
    ⟨F3, d, e, .bool p, g3.fh, hx.up g3.fx, hy, hr, fun v F4 H4 g4 hv => by
      cases hv
      refine ⟨p, rfl, ?_⟩
      have g := (g2.trans g3).trans g4
      cases p with
      | false =>
        show Q (.bl false) H4
        exact k _ F4 H4 g (.bl _)
      | true =>
        refine h2 rfl F4 H4 (e1.trans g.fx) (e2.trans g.hx) g.fh _ fun w F5 H5 g5 hw => ?_
        exact ⟨F5, e, f, .bool q, g5.fh, hy.up (g4.fx.trans g5.fx), hw, h3 rfl, fun v F6 H6 g6 hv => k v F6 H6 ((g.trans g5).trans g6) hv⟩⟩
end
end Ly
/-! LyB: Python's operations as relations of data. -/
namespace Ly
open PySem L2 Evl
/-! ### answers -/
section
variable {K : Fg} {F H : Hp} {d r : D} {Q : VK} {v : V}
theorem Ans.sc (q : Ans K F H r Q) (fh : Ex F H) (h : scV r = some v) : Q v H := q v F H (Gr.refl fh) (scV_dp h)
theorem Ans.dp (q : Ans K F H r Q) (fh : Ex F H) (h : Dp K F v r) : Q v H := q v F H (Gr.refl fh) h
theorem Ans.tup (q : Ans K F H (.tuple ds) Q) (fh : Ex F H) {vs : List V} (h : DpAll K F vs ds) {p : Addr} (hp : H p = none) : Q (.ref p) (upd H p (.tup vs)) :=
  q _ _ _ (Gr.new fh hp) (.tup (st_of upd_same) (h.up (Ex.new (fresh_back fh hp))))
theorem Ans.lst (q : Ans K F H (.list ds) Q) (fh : Ex F H) {vs : List V} (h : DpAll K F vs ds) {p : Addr} (hp : H p = none) : Q (.ref p) (upd H p (.lst vs)) :=
  q _ _ _ (Gr.new fh hp) (.lst (sq_of upd_same) (h.up (Ex.new (fresh_back fh hp))))
end
/-! ### numbers -/
inductive AddD : D → D → D → Prop
  | int (i j : Int) : AddD (.int i) (.int j) (.int (i + j))
  | str (x y : Str) (h : x.length + y.length ≤ 100000) : AddD (.str x) (.str y) (.str (x ++ y))
  | tup (xs ys : List D) (h : xs.length + ys.length ≤ 100000) : AddD (.tuple xs) (.tuple ys) (.tuple (xs ++ ys))
inductive SubD : D → D → D → Prop
  | int (i j : Int) : SubD (.int i) (.int j) (.int (i - j))
inductive MulD : D → D → D → Prop
  | int (i j : Int) (h : CMul i j) : MulD (.int i) (.int j) (.int (i * j))
  | intW (i j : Int) (h : CMulX i j) : MulD (.int i) (.int j) (.int (i * j))
inductive DivD : D → D → D → Prop
  | int (i j : Int) (h : 0 < j ∧ j < 1073741824) : DivD (.int i) (.int j) (.int (i / j))
  | intW (i j : Int) (h : CDivW i j) : DivD (.int i) (.int j) (.int (i / j))
inductive ModD : D → D → D → Prop
  | int (i j : Int) (h : 0 < j) : ModD (.int i) (.int j) (.int (i % j))
inductive PowD : D → D → D → Prop
  | int (i j : Int) (h : CPow i j) : PowD (.int i) (.int j) (.int (i ^ j.toNat))
inductive ShrD : D → D → D → Prop
  | int (i j : Int) (h : 0 ≤ j) : ShrD (.int i) (.int j) (.int (i / 2 ^ j.toNat))
inductive BandD : D → D → D → Prop
  | m31 (i : Int) : BandD (.int i) (.int 2147483647) (.int (i % 2147483648))
inductive LtD : D → D → D → Prop
  | int (i j : Int) : LtD (.int i) (.int j) (.bool (decide (i < j)))
inductive LeD : D → D → D → Prop
  | int (i j : Int) : LeD (.int i) (.int j) (.bool (decide (i ≤ j)))
  | tup (ns ms : List Int) : LeD (.tuple (ns.map PyData.int)) (.tuple (ms.map PyData.int))
      (.bool (Ob.lexAt (fun j => decide (ns.getD j 0 = ms.getD j 0)) (fun j => decide (ns.getD j 0 ≤ ms.getD j 0)) (decide (ns.length ≤ ms.length)) 0 (min ns.length ms.length)))
inductive GtD : D → D → D → Prop
  | int (i j : Int) : GtD (.int i) (.int j) (.bool (decide (j < i)))
inductive GeD : D → D → D → Prop
  | int (i j : Int) : GeD (.int i) (.int j) (.bool (decide (j ≤ i)))
inductive NegD : D → D → Prop
  | int (i : Int) : NegD (.int i) (.int (-i))
/-! ### == -/
inductive EqD : D → D → D → Prop
  | int (i j : Int) : EqD (.int i) (.int j) (.bool (decide (i = j)))
  | str (x y : Str) : EqD (.str x) (.str y) (.bool (decide (x = y)))
  | bool (x y : Bool) : EqD (.bool x) (.bool y) (.bool (decide (x = y)))
  | gen (d e : D) (h : SeqAt.shaped d = true) (h' : SeqAt.shaped e = true) : EqD d e (.bool (PyData.eqv d e))
inductive NeD : D → D → D → Prop
  | int (i j : Int) : NeD (.int i) (.int j) (.bool (!decide (i = j)))
  | str (x y : Str) : NeD (.str x) (.str y) (.bool (!decide (x = y)))
  | bool (x y : Bool) : NeD (.bool x) (.bool y) (.bool (!decide (x = y)))
  | gen (d e : D) (h : SeqAt.shaped d = true) (h' : SeqAt.shaped e = true) : NeD d e (.bool (!PyData.eqv d e))
/-! ### is -/
def isNon : D → Bool
  | .none => true
  | _ => false
def isBit : D → Bool → Bool
  | .bool a, b => decide (a = b)
  | _, _ => false
inductive IsD : D → D → D → Prop
  | non (d : D) : IsD d .none (.bool (isNon d))
  | bool (x y : Bool) : IsD (.bool x) (.bool y) (.bool (decide (x = y)))
  | bit (d : D) (y : Bool) : IsD d (.bool y) (.bool (isBit d y))
inductive NisD : D → D → D → Prop
  | non (d : D) : NisD d .none (.bool (!isNon d))
  | bool (x y : Bool) : NisD (.bool x) (.bool y) (.bool (!decide (x = y)))
  | bit (d : D) (y : Bool) : NisD d (.bool y) (.bool (!isBit d y))
/-! ### in -/
inductive InD : D → D → D → Prop
  | sign (c : Nat) (z : Str) : InD (.str ⟨#[c]⟩) (.str z) (.bool (decide (c ∈ z.cps.toList)))
  | list (d : D) (ds : List D) (h : SeqAt.shaped d = true) (h' : SeqAt.shaped (.list ds) = true) : InD d (.list ds) (.bool (ds.any fun z => PyData.eqv z d))
inductive NinD : D → D → D → Prop
  | sign (c : Nat) (z : Str) : NinD (.str ⟨#[c]⟩) (.str z) (.bool (!decide (c ∈ z.cps.toList)))
  | list (d : D) (ds : List D) (h : SeqAt.shaped d = true) (h' : SeqAt.shaped (.list ds) = true) : NinD d (.list ds) (.bool (!ds.any fun z => PyData.eqv z d))
/-! ### items, slices -/
inductive IxD : D → D → D → Prop
  | list (ds : List D) (i : Int) (d : D) (h : atI ds i = some d) : IxD (.list ds) (.int i) d
  | tup (ds : List D) (i : Int) (d : D) (h : atI ds i = some d) : IxD (.tuple ds) (.int i) d
  | str (z : Str) (i : Int) (c : Nat) (h : z.length ≤ 100000) (h' : atI z.cps.toList i = some c) : IxD (.str z) (.int i) (.str ⟨#[c]⟩)
def cutD (xs : List D) (lo hi : Option Int) : List D := (xs.drop (HT.sIx xs.length 0 lo)).take (HT.sIx xs.length xs.length hi - HT.sIx xs.length 0 lo)
inductive SlD : D → Option Int → Option Int → D → Prop
  | list (ds : List D) (lo hi : Option Int) : SlD (.list ds) lo hi (.list (cutD ds lo hi))
  | tup (ds : List D) (lo hi : Option Int) : SlD (.tuple ds) lo hi (.tuple (cutD ds lo hi))
  | str (z : Str) (lo hi : Option Int) (h : z.length ≤ 100000) : SlD (.str z) lo hi (.str (cutS z lo hi))
/-! ### calls of built-ins -/
inductive LenD : List D → D → Prop
  | list (ds : List D) : LenD [.list ds] (.int (ds.length : Nat))
  | tup (ds : List D) : LenD [.tuple ds] (.int (ds.length : Nat))
  | str (z : Str) (h : z.length ≤ 100000) : LenD [.str z] (.int (z.length : Nat))
inductive MaxD : List D → D → Prop
  | int (i j : Int) : MaxD [.int i, .int j] (.int (max i j))
inductive MinD : List D → D → Prop
  | int (i j : Int) : MinD [.int i, .int j] (.int (min i j))
inductive IntD : List D → D → Prop
  | bool (b : Bool) : IntD [.bool b] (.int (if b then 1 else 0))
inductive TupleD : List D → D → Prop
  | list (ds : List D) : TupleD [.list ds] (.tuple ds)
inductive ListD : List D → D → Prop
  | list (ds : List D) : ListD [.list ds] (.list ds)
  | tup (ds : List D) : ListD [.tuple ds] (.list ds)
inductive AllD : List D → D → Prop
  | list (bs : List Bool) : AllD [.list (bs.map PyData.bool)] (.bool (bs.all id))
inductive AnyD : List D → D → Prop
  | list (bs : List Bool) : AnyD [.list (bs.map PyData.bool)] (.bool (bs.any id))
inductive SumD : List D → D → Prop
  | list (ns : List Int) : SumD [.list (ns.map PyData.int)] (.int ns.sum)
inductive DivmodD : List D → D → Prop
  | int (i j : Int) (h : CDiv i j) : DivmodD [.int i, .int j] (.tuple [.int (i / j), .int (i % j)])
/-- the name of a datum's type -/
def tyN : D → String
  | .none => "NoneType"
  | .bool _ => "bool"
  | .int _ => "int"
  | .str _ => "str"
  | .list _ => "list"
  | .tuple _ => "tuple"
  | .dict _ => "dict"
section
variable {K : Fg} {F H : Hp} {v : V} {d : D}
theorem dp_ty (h : Dp K F v d) : TyX K F v (.type (tyN d)) := by
  cases h with
  | non => exact .base .non
  | bl b => exact .base (.bl b)
  | int i => exact .base (.int i)
  | str x => exact .base (.str x)
  | lst hs _ =>
    rcases hs with (e | ⟨o, e⟩) | ⟨o, its, n, e, c, _⟩
    · exact .base (.lst e)
    · exact .base (.frz e)
    · exact .kList e c
  | tup hs _ =>
    rcases hs with (e | ⟨o, e⟩) | ⟨o, its, n, e, c, _⟩
    · exact .base (.tup e)
    · exact .fTuple e
    · exact .kTuple e c
theorem tyV_str {z : Str} (h : Dp K F v (.str z)) : tyV K "str" v H := by
  cases h
  exact rfl
theorem tyV_list {ds : List D} (h : Dp K F v (.list ds)) (e : Ex F H) : tyV K "list" v H := by
  have h := h.up e
  cases h with
  | lst hs _ => exact .inl ⟨rfl, _, hs⟩
end
theorem atI_map {α β : Type} {xs : List α} {i : Int} {a : α} (h : atI xs i = some a) : ∃ j : Nat, ixN xs.length i = some j ∧ xs[j]? = some a := by
  unfold atI at h
  cases e : ixN xs.length i with
  | none => rw [e] at h; cases h
  | some j => rw [e] at h; exact ⟨j, rfl, h⟩
theorem dps_at {K : Fg} {F : Hp} {vs : List V} {ds : List D} {i : Int} {d : D} (ha : DpAll K F vs ds) (h : atI ds i = some d) : ∃ v, atI vs i = some v ∧ Dp K F v d := by
  obtain ⟨j, e1, e2⟩ := atI_map (β := D) h
  obtain ⟨v, e3, hv⟩ := ha.get e2
  refine ⟨v, ?_, hv⟩
  unfold atI
  rw [ha.length, e1]
  exact e3
theorem dps_cut {K : Fg} {F : Hp} {vs : List V} {ds : List D} (lo hi : Option Int) (ha : DpAll K F vs ds) : DpAll K F (cutV vs lo hi) (cutD ds lo hi) := by
  unfold cutV cutD
  rw [ha.length]
  exact (ha.drop _).take _
theorem int_max {i j : Int} : (if j > i then j else i) = max i j := by
  have := Int.max_def i j
  by_cases h : j > i
  · rw [if_pos h]; omega
  · rw [if_neg h]; omega
theorem int_min {i j : Int} : (if j < i then j else i) = min i j := by
  have := Int.min_def i j
  by_cases h : j < i
  · rw [if_pos h]; omega
  · rw [if_neg h]; omega
section
variable {X : Cx}
theorem op2_of {op : Value → Value → Sem Value} {r : R2} {R : D → D → D → Prop} (h : OpR X op r)
    (hr : ∀ F H x y d e z Q, Ex F H → Dp X.K F x d → Dp X.K F y e → R d e z → Ans X.K F H z Q → r x y H Q) : OpR X op (rD2 X.K R) :=
  fun pins s σ H x y v u Q I rx ry ⟨F, d, e, z, fh, hx, hy, hR, q⟩ => h pins s σ H x y v u Q I rx ry (hr F H x y d e z Q fh hx hy hR q)
theorem oAdd : OpR X (binaryOp .Add) (rD2 X.K AddD) := by
  refine op2_of (op_add.or (op_add_str.or op_catA)) fun F H x y d e z Q fh hx hy hR q => ?_
  cases hR with
  | int i j => cases hx; cases hy; exact .inl ⟨i, j, rfl, rfl, q.sc fh rfl⟩
  | str a b h => cases hx; cases hy; exact .inr (.inl ⟨a, b, rfl, rfl, sz_of h, q.sc fh rfl⟩)
  | tup as bs h =>
    cases hx with
    | tup s1 a1 =>
      cases hy with
      | tup s2 a2 =>
        refine .inr (.inr ⟨_, _, _, _, rfl, rfl, ex_t fh s1, ex_t fh s2, by rw [a1.length, a2.length]; exact sz_of h, fun e => ?_, fun _ e => ?_, fun _ _ p hp => q.tup fh (a1.append a2) hp⟩)
        · subst e; cases a1; exact q.dp fh (.tup s2 a2)
        · subst e; cases a2; rw [List.append_nil] at q; exact q.dp fh (.tup s1 a1)
theorem oSub : OpR X (binaryOp .Sub) (rD2 X.K SubD) := by
  refine op2_of op_sub fun F H x y d e z Q fh hx hy hR q => ?_
  cases hR with
  | int i j => cases hx; cases hy; exact ⟨i, j, rfl, rfl, q.sc fh rfl⟩
theorem oMul : OpR X (binaryOp .Mult) (rD2 X.K MulD) := by
  refine op2_of (op_mul.or op_mulX) fun F H x y d e z Q fh hx hy hR q => ?_
  cases hR with
  | int i j h => cases hx; cases hy; exact .inl ⟨i, j, rfl, rfl, h, q.sc fh rfl⟩
  | intW i j h => cases hx; cases hy; exact .inr ⟨i, j, rfl, rfl, h, q.sc fh rfl⟩
theorem oDiv : OpR X (binaryOp .FloorDiv) (rD2 X.K DivD) := by
  refine op2_of (op_fdiv.or op_fdivW) fun F H x y d e z Q fh hx hy hR q => ?_
  cases hR with
  | int i j h => cases hx; cases hy; exact .inl ⟨i, j, rfl, rfl, h, q.sc fh rfl⟩
  | intW i j h => cases hx; cases hy; exact .inr ⟨i, j, rfl, rfl, h, q.sc fh rfl⟩
theorem oMod : OpR X (binaryOp .Mod) (rD2 X.K ModD) := by
  refine op2_of op_mod fun F H x y d e z Q fh hx hy hR q => ?_
  cases hR with
  | int i j h => cases hx; cases hy; exact ⟨i, j, rfl, rfl, h, q.sc fh rfl⟩
theorem oPow : OpR X (binaryOp .Pow) (rD2 X.K PowD) := by
  refine op2_of op_pow fun F H x y d e z Q fh hx hy hR q => ?_
  cases hR with
  | int i j h => cases hx; cases hy; exact ⟨i, j, rfl, rfl, h, q.sc fh rfl⟩
theorem oShr : OpR X (binaryOp .RShift) (rD2 X.K ShrD) := by
  refine op2_of op_shr fun F H x y d e z Q fh hx hy hR q => ?_
  cases hR with
  | int i j h => cases hx; cases hy; exact ⟨i, j, rfl, rfl, h, q.sc fh rfl⟩
theorem oBand : OpR X (binaryOp .BitAnd) (rD2 X.K BandD) := by
  refine op2_of op_andM fun F H x y d e z Q fh hx hy hR q => ?_
  cases hR with
  | m31 i => cases hx; cases hy; exact ⟨i, 31, rfl, by decide, q.sc fh rfl⟩
theorem oLt : OpR X (compareOp .Lt) (rD2 X.K LtD) := by
  refine op2_of op_lt fun F H x y d e z Q fh hx hy hR q => ?_
  cases hR with
  | int i j => cases hx; cases hy; exact ⟨i, j, rfl, rfl, q.sc fh rfl⟩
theorem oGt : OpR X (compareOp .Gt) (rD2 X.K GtD) := by
  refine op2_of op_gt fun F H x y d e z Q fh hx hy hR q => ?_
  cases hR with
  | int i j => cases hx; cases hy; exact ⟨i, j, rfl, rfl, q.sc fh rfl⟩
theorem oGe : OpR X (compareOp .GtE) (rD2 X.K GeD) := by
  refine op2_of op_ge fun F H x y d e z Q fh hx hy hR q => ?_
  cases hR with
  | int i j => cases hx; cases hy; exact ⟨i, j, rfl, rfl, q.sc fh rfl⟩
theorem oLe (hu : X.A.units < cLine) : OpR X (compareOp .LtE) (rD2 X.K LeD) := by
  refine op2_of (op_le.or (op_leT hu)) fun F H x y d e z Q fh hx hy hR q => ?_
  cases hR with
  | int i j => cases hx; cases hy; exact .inl ⟨i, j, rfl, rfl, q.sc fh rfl⟩
  | tup ns ms =>
    cases hx with
    | tup s1 a1 =>
      cases hy with
      | tup s2 a2 =>
        have e1 := dps_ints_inv ns a1
        have e2 := dps_ints_inv ms a2
        subst e1 e2
        exact .inr ⟨_, _, ns, ms, rfl, rfl, ex_t fh s1, ex_t fh s2, q.sc fh rfl⟩
theorem oNeg : UnR X (unaryOp .USub) (rD1 X.K NegD) := fun pins s σ H x v Q I rx ⟨F, d, z, fh, hx, hR, q⟩ => by
  cases hR with
  | int i => cases hx; exact un_neg pins s σ H _ v Q I rx ⟨i, rfl, q.sc fh rfl⟩
theorem oEq (hu : X.A.units + 64 < cLine) : OpR X (compareOp .Eq) (rD2 X.K EqD) := by
  refine op2_of (op_eq.or (op_eqD hu)) fun F H x y d e z Q fh hx hy hR q => ?_
  cases hR with
  | int i j =>
    cases hx; cases hy
    refine .inl ⟨rfl, ?_⟩
    have w : decide (V.int i = V.int j) = decide (i = j) := by simp
    rw [w]; exact q.sc fh rfl
  | str i j =>
    cases hx; cases hy
    refine .inl ⟨rfl, ?_⟩
    have w : decide (V.str i = V.str j) = decide (i = j) := by simp
    rw [w]; exact q.sc fh rfl
  | bool i j =>
    cases hx; cases hy
    refine .inl ⟨rfl, ?_⟩
    have w : decide (V.bl i = V.bl j) = decide (i = j) := by simp
    rw [w]; exact q.sc fh rfl
  | gen d e h h' => exact .inr ⟨d, e, hx.up fh, hy.up fh, h, h', q.sc fh rfl⟩
theorem oNe (hu : X.A.units + 64 < cLine) : OpR X (compareOp .NotEq) (rD2 X.K NeD) := by
  refine op2_of (op_ne.or (op_neD hu)) fun F H x y d e z Q fh hx hy hR q => ?_
  cases hR with
  | int i j =>
    cases hx; cases hy
    refine .inl ⟨rfl, ?_⟩
    have w : decide (V.int i = V.int j) = decide (i = j) := by simp
    rw [w]; exact q.sc fh rfl
  | str i j =>
    cases hx; cases hy
    refine .inl ⟨rfl, ?_⟩
    have w : decide (V.str i = V.str j) = decide (i = j) := by simp
    rw [w]; exact q.sc fh rfl
  | bool i j =>
    cases hx; cases hy
    refine .inl ⟨rfl, ?_⟩
    have w : decide (V.bl i = V.bl j) = decide (i = j) := by simp
    rw [w]; exact q.sc fh rfl
  | gen d e h h' => exact .inr ⟨d, e, hx.up fh, hy.up fh, h, h', q.sc fh rfl⟩
theorem dp_non {K : Fg} {F : Hp} {v : V} {d : D} (h : Dp K F v d) : decide (v = .non) = isNon d := by
  cases h <;> (unfold isNon; simp)
def bitV (x : V) (b r : Bool) : Prop := match x with
  | .bl a => r = decide (a = b)
  | .int _ => r = false
  | .str _ => r = false
  | .non => r = false
  | .ref _ => r = false
  | _ => False
theorem dp_bit {K : Fg} {F : Hp} {v : V} {d : D} (h : Dp K F v d) (b : Bool) : bitV v b (isBit d b) := by
  cases h <;> exact rfl
theorem op_is_bit : OpR X (compareOp .Is) (fun x y H Q => ∃ b r, y = .bl b ∧ bitV x b r ∧ Q (.bl r) H) := by
  intro pins s σ H x y v u Q I rx ry h
  obtain ⟨b, r, rfl, hb, q⟩ := h
  cases x with
  | bl a =>
    cases (show r = decide (a = b) from hb)
    exact op_is_bl pins s σ H _ _ v u Q I rx ry ⟨a, b, rfl, rfl, q⟩
  | int i => obtain ⟨t, rfl⟩ := rx; cases (show u = Value.bool b from ry); cases (show r = false from hb); exact wpAny_is_other rfl (fun z => nomatch z) ⟨.bl false, H, I, rfl, q⟩
  | str i => obtain ⟨t, rfl⟩ := rx; cases (show u = Value.bool b from ry); cases (show r = false from hb); exact wpAny_is_other rfl (fun z => nomatch z) ⟨.bl false, H, I, rfl, q⟩
  | non => cases rx; cases (show u = Value.bool b from ry); cases (show r = false from hb); exact wpAny_is_other rfl (fun z => nomatch z) ⟨.bl false, H, I, rfl, q⟩
  | ref i => cases rx; cases (show u = Value.bool b from ry); cases (show r = false from hb); exact wpAny_is_other rfl (fun z => nomatch z) ⟨.bl false, H, I, rfl, q⟩
  | _ => exact hb.elim
theorem op_isnot_bit : OpR X (compareOp .IsNot) (fun x y H Q => ∃ b r, y = .bl b ∧ bitV x b r ∧ Q (.bl (!r)) H) := by
  intro pins s σ H x y v u Q I rx ry h
  obtain ⟨b, r, rfl, hb, q⟩ := h
  cases x with
  | bl a =>
    cases (show r = decide (a = b) from hb)
    exact op_isnot_bl pins s σ H _ _ v u Q I rx ry ⟨a, b, rfl, rfl, q⟩
  | int i => obtain ⟨t, rfl⟩ := rx; cases (show u = Value.bool b from ry); cases (show r = false from hb); exact wpAny_isNot_other rfl (fun z => nomatch z) ⟨.bl true, H, I, rfl, q⟩
  | str i => obtain ⟨t, rfl⟩ := rx; cases (show u = Value.bool b from ry); cases (show r = false from hb); exact wpAny_isNot_other rfl (fun z => nomatch z) ⟨.bl true, H, I, rfl, q⟩
  | non => cases rx; cases (show u = Value.bool b from ry); cases (show r = false from hb); exact wpAny_isNot_other rfl (fun z => nomatch z) ⟨.bl true, H, I, rfl, q⟩
  | ref i => cases rx; cases (show u = Value.bool b from ry); cases (show r = false from hb); exact wpAny_isNot_other rfl (fun z => nomatch z) ⟨.bl true, H, I, rfl, q⟩
  | _ => exact hb.elim
theorem oIs : OpR X (compareOp .Is) (rD2 X.K IsD) := by
  refine op2_of (op_isN.or (op_is_bl.or op_is_bit)) fun F H x y d e z Q fh hx hy hR q => ?_
  cases hR with
  | non d =>
    cases hy
    refine .inl ⟨rfl, ?_⟩
    rw [dp_non hx]; exact q.sc fh rfl
  | bool i j => cases hx; cases hy; exact .inr (.inl ⟨i, j, rfl, rfl, q.sc fh rfl⟩)
  | bit d b => cases hy; exact .inr (.inr ⟨b, _, rfl, dp_bit hx b, q.sc fh rfl⟩)
theorem oNis : OpR X (compareOp .IsNot) (rD2 X.K NisD) := by
  refine op2_of (op_notN.or (op_isnot_bl.or op_isnot_bit)) fun F H x y d e z Q fh hx hy hR q => ?_
  cases hR with
  | non d =>
    cases hy
    refine .inl ⟨rfl, ?_⟩
    rw [dp_non hx]; exact q.sc fh rfl
  | bool i j => cases hx; cases hy; exact .inr (.inl ⟨i, j, rfl, rfl, q.sc fh rfl⟩)
  | bit d b => cases hy; exact .inr (.inr ⟨b, _, rfl, dp_bit hx b, q.sc fh rfl⟩)
theorem oIn (hu : X.A.units + 65 < cLine) : OpR X (compareOp .In) (rD2 X.K InD) := by
  refine op2_of (op_in_sign.or (op_inD hu)) fun F H x y d e z Q fh hx hy hR q => ?_
  cases hR with
  | sign c z => cases hx; cases hy; exact .inl ⟨c, z, rfl, rfl, q.sc fh rfl⟩
  | list d ds h h' => exact .inr ⟨d, ds, hx.up fh, hy.up fh, h, h', q.sc fh rfl⟩
theorem oNin (hu : X.A.units + 65 < cLine) : OpR X (compareOp .NotIn) (rD2 X.K NinD) := by
  refine op2_of (op_notIn_sign.or (op_notInD hu)) fun F H x y d e z Q fh hx hy hR q => ?_
  cases hR with
  | sign c z => cases hx; cases hy; exact .inl ⟨c, z, rfl, rfl, q.sc fh rfl⟩
  | list d ds h h' => exact .inr ⟨d, ds, hx.up fh, hy.up fh, h, h', q.sc fh rfl⟩
theorem oIx : IxR X (rD2 X.K IxD) := by
  rintro va sl pins s σ H x y v u Q I rx ry ⟨F, d, e, z, fh, hx, hy, hR, q⟩ hs
  refine ix_seq va sl pins s σ H x y v u Q I rx ry ?_ hs
  cases hR with
  | list ds i d h =>
    cases hy
    cases hx with
    | lst s1 a1 =>
      obtain ⟨w, e1, hw⟩ := dps_at a1 h
      exact .inl ⟨_, _, i, w, rfl, rfl, ex_l fh s1, e1, q.dp fh hw⟩
  | tup ds i d h =>
    cases hy
    cases hx with
    | tup s1 a1 =>
      obtain ⟨w, e1, hw⟩ := dps_at a1 h
      exact .inr (.inl ⟨_, _, i, w, rfl, rfl, ex_t fh s1, e1, q.dp fh hw⟩)
  | str z i c h h' =>
    cases hy
    cases hx
    exact .inr (.inr ⟨z, i, c, rfl, rfl, sz_of h, h', q.sc fh rfl⟩)
theorem oSl : SlR X (rDs X.K SlD) := by
  rintro pins s σ H x v vl vu lo hi sl Q I rx hs pl pu ⟨F, d, z, fh, hx, hR, q⟩
  refine (sl_list.or (sl_tupA.or sl_str)) pins s σ H x v vl vu lo hi sl Q I rx hs pl pu ?_
  cases hR with
  | list ds lo hi =>
    cases hx with
    | lst s1 a1 => exact .inl ⟨_, _, rfl, ex_l fh s1, fun p hp => q.lst fh (dps_cut lo hi a1) hp⟩
  | tup ds lo hi =>
    cases hx with
    | tup s1 a1 =>
      refine .inr (.inl ⟨_, _, rfl, ex_t fh s1, fun hw => ?_, fun _ p hp => q.tup fh (dps_cut lo hi a1) hp⟩)
      have ec : cutD ds lo hi = ds := by
        unfold cutD
        rw [← a1.length, hw.1, hw.2]
        rw [a1.length]
        simp
      rw [ec] at q
      exact q.dp fh (.tup s1 a1)
  | str z lo hi h =>
    cases hx
    exact .inr (.inr ⟨z, rfl, sz_of h, q.sc fh rfl⟩)
/-! calls -/
theorem cn_of {f : Value} {r : List V → Hp → VK → Prop} {R : List D → D → Prop} (h : CallR X f r)
    (hr : ∀ F H xs ds z Q, Ex F H → DpAll X.K F xs ds → R ds z → Ans X.K F H z Q → r xs H Q) : CallR X f (rDn X.K R) :=
  fun pins s σ H xs us Q I rx ⟨F, ds, z, fh, hx, hR, q⟩ => h pins s σ H xs us Q I rx (hr F H xs ds z Q fh hx hR q)
theorem dps1 {K : Fg} {F : Hp} {vs : List V} {d : D} (h : DpAll K F vs [d]) : ∃ v, vs = [v] ∧ Dp K F v d := by
  cases h with
  | cons h1 h2 => cases h2; exact ⟨_, rfl, h1⟩
theorem dps2 {K : Fg} {F : Hp} {vs : List V} {d e : D} (h : DpAll K F vs [d, e]) : ∃ v w, vs = [v, w] ∧ Dp K F v d ∧ Dp K F w e := by
  cases h with
  | cons h1 h2 =>
    obtain ⟨w, rfl, hw⟩ := dps1 h2
    exact ⟨_, _, rfl, h1, hw⟩
theorem cLen : CallR X (.builtin "len") (rDn X.K LenD) := by
  refine cn_of (call_len_seq.or call_len_str) fun F H xs ds z Q fh hx hR q => ?_
  cases hR with
  | list ds =>
    obtain ⟨v, rfl, hv⟩ := dps1 hx
    cases hv with
    | lst s1 a1 =>
      refine .inl ⟨_, _, rfl, .inl (ex_l fh s1), ?_⟩
      rw [a1.length]; exact q.sc fh rfl
  | tup ds =>
    obtain ⟨v, rfl, hv⟩ := dps1 hx
    cases hv with
    | tup s1 a1 =>
      refine .inl ⟨_, _, rfl, .inr (ex_t fh s1), ?_⟩
      rw [a1.length]; exact q.sc fh rfl
  | str z h =>
    obtain ⟨v, rfl, hv⟩ := dps1 hx
    cases hv
    exact .inr ⟨z, rfl, sz_of h, q.sc fh rfl⟩
theorem cMax (hc : X.calm = true) : CallR X (.builtin "max") (rDn X.K MaxD) := by
  refine cn_of (call_max2 hc) fun F H xs ds z Q fh hx hR q => ?_
  cases hR with
  | int i j =>
    obtain ⟨v, w, rfl, hv, hw⟩ := dps2 hx
    cases hv; cases hw
    refine ⟨i, j, rfl, ?_⟩
    rw [int_max]; exact q.sc fh rfl
theorem cMin (hc : X.calm = true) : CallR X (.builtin "min") (rDn X.K MinD) := by
  refine cn_of (call_min2 hc) fun F H xs ds z Q fh hx hR q => ?_
  cases hR with
  | int i j =>
    obtain ⟨v, w, rfl, hv, hw⟩ := dps2 hx
    cases hv; cases hw
    refine ⟨i, j, rfl, ?_⟩
    rw [int_min]; exact q.sc fh rfl
theorem cInt : CallR X (.type "int") (rDn X.K IntD) := by
  refine cn_of call_int1 fun F H xs ds z Q fh hx hR q => ?_
  cases hR with
  | bool b =>
    obtain ⟨v, rfl, hv⟩ := dps1 hx
    cases hv
    exact .inr ⟨b, rfl, q.sc fh rfl⟩
theorem cTuple : CallR X (.type "tuple") (rDn X.K TupleD) := by
  refine cn_of call_tuple_of fun F H xs ds z Q fh hx hR q => ?_
  cases hR with
  | list ds =>
    obtain ⟨v, rfl, hv⟩ := dps1 hx
    cases hv with
    | lst s1 a1 => exact ⟨_, _, rfl, .inl ⟨ex_l fh s1, fun p hp => q.tup fh a1 hp⟩⟩
theorem cList : CallR X (.type "list") (rDn X.K ListD) := by
  refine cn_of call_list_of fun F H xs ds z Q fh hx hR q => ?_
  cases hR with
  | list ds =>
    obtain ⟨v, rfl, hv⟩ := dps1 hx
    cases hv with
    | lst s1 a1 => exact ⟨_, _, rfl, .inl (ex_l fh s1), fun p hp => q.lst fh a1 hp⟩
  | tup ds =>
    obtain ⟨v, rfl, hv⟩ := dps1 hx
    cases hv with
    | tup s1 a1 => exact ⟨_, _, rfl, .inr (ex_t fh s1), fun p hp => q.lst fh a1 hp⟩
end
/-! the same with the written part named -/
section
variable {X : Cx} {K : Fg}
theorem kAdd  (hK : X.K = K := by rfl) : OpR X (binaryOp .Add) (rD2 K AddD) := by
  subst hK
  exact oAdd
theorem kSub  (hK : X.K = K := by rfl) : OpR X (binaryOp .Sub) (rD2 K SubD) := by
  subst hK
  exact oSub
theorem kMul  (hK : X.K = K := by rfl) : OpR X (binaryOp .Mult) (rD2 K MulD) := by
  subst hK
  exact oMul
theorem kDiv  (hK : X.K = K := by rfl) : OpR X (binaryOp .FloorDiv) (rD2 K DivD) := by
  subst hK
  exact oDiv
theorem kMod  (hK : X.K = K := by rfl) : OpR X (binaryOp .Mod) (rD2 K ModD) := by
  subst hK
  exact oMod
theorem kPow  (hK : X.K = K := by rfl) : OpR X (binaryOp .Pow) (rD2 K PowD) := by
  subst hK
  exact oPow
theorem kShr  (hK : X.K = K := by rfl) : OpR X (binaryOp .RShift) (rD2 K ShrD) := by
  subst hK
  exact oShr
theorem kBand  (hK : X.K = K := by rfl) : OpR X (binaryOp .BitAnd) (rD2 K BandD) := by
  subst hK
  exact oBand
theorem kLt  (hK : X.K = K := by rfl) : OpR X (compareOp .Lt) (rD2 K LtD) := by
  subst hK
  exact oLt
theorem kGt  (hK : X.K = K := by rfl) : OpR X (compareOp .Gt) (rD2 K GtD) := by
  subst hK
  exact oGt
theorem kGe  (hK : X.K = K := by rfl) : OpR X (compareOp .GtE) (rD2 K GeD) := by
  subst hK
  exact oGe
theorem kLe (hu : X.A.units < cLine) (hK : X.K = K := by rfl) : OpR X (compareOp .LtE) (rD2 K LeD) := by
  subst hK
  exact oLe hu
theorem kNeg  (hK : X.K = K := by rfl) : UnR X (unaryOp .USub) (rD1 K NegD) := by
  subst hK
  exact oNeg
theorem kEq (hu : X.A.units + 64 < cLine) (hK : X.K = K := by rfl) : OpR X (compareOp .Eq) (rD2 K EqD) := by
  subst hK
  exact oEq hu
theorem kNe (hu : X.A.units + 64 < cLine) (hK : X.K = K := by rfl) : OpR X (compareOp .NotEq) (rD2 K NeD) := by
  subst hK
  exact oNe hu
theorem kIs  (hK : X.K = K := by rfl) : OpR X (compareOp .Is) (rD2 K IsD) := by
  subst hK
  exact oIs
theorem kNis  (hK : X.K = K := by rfl) : OpR X (compareOp .IsNot) (rD2 K NisD) := by
  subst hK
  exact oNis
theorem kIn (hu : X.A.units + 65 < cLine) (hK : X.K = K := by rfl) : OpR X (compareOp .In) (rD2 K InD) := by
  subst hK
  exact oIn hu
theorem kNin (hu : X.A.units + 65 < cLine) (hK : X.K = K := by rfl) : OpR X (compareOp .NotIn) (rD2 K NinD) := by
  subst hK
  exact oNin hu
theorem kIx  (hK : X.K = K := by rfl) : IxR X (rD2 K IxD) := by
  subst hK
  exact oIx
/-- an item, by data or (of a list that is one's own) by values -/
def rIxU (K : Fg) : R2 := fun x y H Q => rD2 K IxD x y H Q ∨ rIxL K x y H Q
theorem kIxU (hK : X.K = K := by rfl) : IxR X (rIxU K) := by
  subst hK
  exact oIx.or ix_list
theorem kSl  (hK : X.K = K := by rfl) : SlR X (rDs K SlD) := by
  subst hK
  exact oSl
theorem jLen  (hK : X.K = K := by rfl) : CallR X (.builtin "len") (rDn K LenD) := by
  subst hK
  exact cLen
theorem jMax (hc : X.calm = true) (hK : X.K = K := by rfl) : CallR X (.builtin "max") (rDn K MaxD) := by
  subst hK
  exact cMax hc
theorem jMin (hc : X.calm = true) (hK : X.K = K := by rfl) : CallR X (.builtin "min") (rDn K MinD) := by
  subst hK
  exact cMin hc
theorem jInt  (hK : X.K = K := by rfl) : CallR X (.type "int") (rDn K IntD) := by
  subst hK
  exact cInt
theorem jTuple  (hK : X.K = K := by rfl) : CallR X (.type "tuple") (rDn K TupleD) := by
  subst hK
  exact cTuple
theorem jList  (hK : X.K = K := by rfl) : CallR X (.type "list") (rDn K ListD) := by
  subst hK
  exact cList
theorem jIsi (hK : X.K = K := by rfl) : CallR X (.builtin "isinstance") (rIsi K) := by
  subst hK
  exact call_isi
end
end Ly
/-! LyC: defs by relations, statements, loops, comprehensions. -/
namespace Ly
open PySem L2 Evl PyProof.Rows
/-! ### defs -/
/-- a def of the text stands under its name -/
structure Df (K : Fg) (mg : Str → Option Value) (x : Str) (st : Stmt) (ps : List Str) : Prop where
  ex : ∃ f fd, Fun K x x st f fd ∧ mg x = some (.ref f) ∧ ∀ us : List Value, us.length = ps.length → bindArgs fd ⟨us, []⟩ = pure (ps.zip us)
/-- a def that keeps its promise stands under its name -/
structure Dk (P : Program) (w : World) (K : Fg) (mg : Str → Option Value) (base : Heap) (k : Nat) (x : Str) (ps : List Str) (sp : Sp) : Prop where
  ex : ∃ f fd, mg x = some (.ref f) ∧ FnOk P w K mg base CX0 k f fd ps sp ∧ PySem.W.keepIn K (.ref f) = true ∧ Binds K fd ps [] ∧ ∃ o, K.lookup f = some o ∧ o.data = .func fd
section
variable {P : Program} {w : World} {K : Fg} {mg : Str → Option Value} {base : Heap} {k : Nat} {x : Str} {st : Stmt} {N ps : List Str}
theorem fun_at {q : Str} {f : Addr} {fd : FuncData} (F : Fun K x q st f fd) : ∃ o, K.lookup f = some o ∧ o.data = .func fd := by
  obtain ⟨oc, od, kV, doc, pm, an, cdv, ct, osl, _, lk, _⟩ := F.ex
  exact ⟨_, lk, rfl⟩
/-- for any promise -/
theorem Df.dkS {sp : Sp} (D0 : Df K mg x st ps) (S : FnScope N ps (defScope st)) (hl : ∀ vs H Q E, sp vs H Q E → vs.length = ps.length)
    (hb : ∀ (f : Addr) (cdv : Value) (A : Around) (outer : List Env) (s : Shared) (H : Hp) (E : XK), Room k (A.deeper (envOfC x (defScope st) s.heap.objs.size f cdv)) →
      ∃ t, PSs (cxOf CX0 P w K mg base N x (defScope st) f cdv A outer s H E).nox (defBody st) t ∧
        ∀ vs Q, sp vs H Q E → t { nx := fun _ H' => Q .non H', rt := Q } (start N vs) H) : Dk P w K mg base (k + 1) x ps sp := by
  obtain ⟨f, fd, F, hm, b⟩ := D0.ex
  refine ⟨f, fd, hm, F.ok S hl fun cdv A outer s H vs Q E hr h => ?_, F.kp, .all b, fun_at F⟩
  obtain ⟨t, h1, h2⟩ := hb f cdv A outer s H E hr
  exact ⟨t, h1, h2 vs Q h⟩
theorem Df.dk {R : List D → D → Prop} (D0 : Df K mg x st ps) (S : FnScope N ps (defScope st)) (hl : ∀ ds r, R ds r → ds.length = ps.length)
    (hb : ∀ (f : Addr) (cdv : Value) (A : Around) (outer : List Env) (s : Shared) (H : Hp) (E : XK), Room k (A.deeper (envOfC x (defScope st) s.heap.objs.size f cdv)) →
      ∃ t, PSs (cxOf CX0 P w K mg base N x (defScope st) f cdv A outer s H E).nox (defBody st) t ∧
        ∀ vs F0 ds r Q, Ex F0 H → DpAll K F0 vs ds → R ds r → Ans K F0 H r Q → t { nx := fun _ H' => Q .non H', rt := Q } (start N vs) H) : Dk P w K mg base (k + 1) x ps (spR K R) := by
  refine D0.dkS S (spR_len hl) fun f cdv A outer s H E hr => ?_
  obtain ⟨t, h1, h2⟩ := hb f cdv A outer s H E hr
  exact ⟨t, h1, fun vs Q ⟨F0, ds, r, fh, ha, hR, q⟩ => h2 vs F0 ds r Q fh ha hR q⟩
/-- the law's own end -/
theorem Df.fin {sp : Sp} {a : Str} {fa : Addr} (D0 : Df K mg x st [a]) (hfa : mg x = some (.ref fa)) (h : ∀ base, K.In base → base.Ns mainGlobals mg → Dk P w K mg base k x [a] sp) :
    ∃ fd : FuncData, (∀ (s : Shared) (u : Value), BindsTo s fd ⟨[u], []⟩ [(a, u)]) ∧ ∀ base : Heap, K.In base → base.Ns mainGlobals mg → FnOk P w K mg base CX0 k fa fd [a] sp := by
  obtain ⟨f, fd, F, hm, b⟩ := D0.ex
  have e := hfa.symm.trans hm
  cases e
  refine ⟨fd, fun s u => .of_eq (b [u] rfl), fun base h1 h2 => ?_⟩
  obtain ⟨f', fd', hm', ok, _, _, o', l', d'⟩ := (h base h1 h2).ex
  have e := hm.symm.trans hm'
  cases e
  obtain ⟨o, l, d⟩ := fun_at F
  have e := l.symm.trans l'
  cases e
  have e := d.symm.trans d'
  cases e
  exact ok
theorem Dk.mono {sp : Sp} {j : Nat} (h : Dk P w K mg base k x ps sp) (hj : k ≤ j) : Dk P w K mg base j x ps sp := by
  obtain ⟨f, fd, h1, h2, h3, h4, h5⟩ := h.ex
  exact ⟨f, fd, h1, h2.mono hj, h3, h4, h5⟩
theorem cl {X : Cx} {sp : Sp} {p pos : Pos} {e : Expr} {es : List Expr} {t : TA} {j : Nat} (h : Dk P w K mg base k x ps sp) (hr : Room j X.A) (ha : PA X (e :: es) t) (hj : k ≤ j := by decide) (hg : Gl X x := by rfl)
    (hP : X.prog = P := by rfl) (hw : X.w = w := by rfl) (hK : X.K = K := by rfl) (hm : X.mg = mg := by rfl) (hB : X.base = base := by rfl)
    (hdb : (x == ("__debug__" : Str)) = false := by decide) (he : starEach (e :: es) X.env = (false, eval e X.env) :: starEach es X.env := by rfl) (hpl : (backTo pos (starEach es X.env)).any (·.1) = false := by rfl) :
    PE X (.Call (.Name x p) (e :: es) [] pos) (tCall sp [] E0 t) := by
  subst hP hw hK hm hB
  obtain ⟨f, fd, h1, h2, h3, h4, _⟩ := h.ex
  exact pe_call h2 (hr.mono hj) hg h1 h3 h4 .nil pass0 ha hdb he hpl
theorem cl0 {X : Cx} {sp : Sp} {p pos : Pos} {j : Nat} (h : Dk P w K mg base k x ps sp) (hr : Room j X.A) (hj : k ≤ j := by decide) (hg : Gl X x := by rfl)
    (hP : X.prog = P := by rfl) (hw : X.w = w := by rfl) (hK : X.K = K := by rfl) (hm : X.mg = mg := by rfl) (hB : X.base = base := by rfl)
    (hdb : (x == ("__debug__" : Str)) = false := by decide) :
    PE X (.Call (.Name x p) [] [] pos) (tCall sp [] E0 tNil) := by
  subst hP hw hK hm hB
  obtain ⟨f, fd, h1, h2, h3, h4, _⟩ := h.ex
  exact pe_call0 h2 (hr.mono hj) hg h1 h3 h4 .nil pass0 hdb
end
/-- what a law is asked: any script of at most 63 ints; True -/
def RLaw : List D → D → Prop := fun ds r => ∃ ns : List Int, ns.length ≤ 63 ∧ ds = [.list (ns.map PyData.int)] ∧ r = .bool true
theorem RLaw.len : ∀ ds r, RLaw ds r → ds.length = 1 := fun ds r ⟨ns, _, h, _⟩ => by rw [h]; rfl
theorem law_start {K : Fg} {H : Hp} {a : Addr} {ns : List Int} {E : XK} (hl : ns.length ≤ 63) (hS : SqL K H a (ns.map V.int)) : spR K RLaw [.ref a] H (fun v _ => v = .bl true) E :=
  ⟨H, _, _, Ex.refl H, .cons (dp_ints hS) .nil, ⟨ns, hl, rfl, rfl⟩, fun v F2 H2 _ h => by cases h; rfl⟩
theorem room64 {k : Nat} {A : Around} (r : Room k A) : A.units + 64 < cLine := by have := r.un; omega
theorem room65 {k : Nat} {A : Around} (r : Room k A) : A.units + 65 < cLine := by have := r.un; omega
theorem room0 {k : Nat} {A : Around} (r : Room k A) : A.units < cLine := by have := r.un; omega
/-! ### built-ins by name -/
section
variable {X : Cx} {x : Str} {id : String} {p pos : Pos} {e : Expr} {es : List Expr} {r : List V → Hp → VK → Prop} {t : TA}
theorem bi (hc : CallR X (.builtin id) r) (hm : X.mg x = none) (ha : PA X (e :: es) t) (hg : Gl X x := by rfl) (hv : bootBuiltins x = some (.builtin id) := by decide +kernel) (hn : x ≠ "__name__" := by decide) (hdb : (x == ("__debug__" : Str)) = false := by decide)
    (he : starEach (e :: es) X.env = (false, eval e X.env) :: starEach es X.env := by rfl) (hpl : (backTo pos (starEach es X.env)).any (·.1) = false := by rfl) : PE X (.Call (.Name x p) (e :: es) [] pos) (tCB r t) := pe_callB hc hg hm hv ha hn hdb he hpl
theorem bt (hc : CallR X (.type id) r) (hm : X.mg x = none) (ha : PA X (e :: es) t) (hg : Gl X x := by rfl) (hv : bootBuiltins x = some (.type id) := by decide +kernel) (hn : x ≠ "__name__" := by decide) (hdb : (x == ("__debug__" : Str)) = false := by decide)
    (he : starEach (e :: es) X.env = (false, eval e X.env) :: starEach es X.env := by rfl) (hpl : (backTo pos (starEach es X.env)).any (·.1) = false := by rfl) : PE X (.Call (.Name x p) (e :: es) [] pos) (tCB r t) := pe_callTy hc hg hm hv ha hn hdb he hpl
/-- a built-in class as a value -/
theorem bty {n : String} (hm : X.mg x = none) (hg : Gl X x := by rfl) (hv : bootBuiltins x = some (.type n) := by decide +kernel) (hn : x ≠ "__name__" := by decide) (hdb : (x == ("__debug__" : Str)) = false := by decide) : PE X (.Name x pos) (tC (.ty n)) := pe_bltn hg hm hv rfl hn hdb
theorem gint {i : Int} (hm : ∃ u, X.mg x = some (.int i u)) (hg : Gl X x := by rfl) (hdb : (x == ("__debug__" : Str)) = false := by decide) : PE X (.Name x pos) (tC (.int i)) := by
  obtain ⟨u, hm⟩ := hm
  exact pe_glob hg hm ⟨u, rfl⟩ hdb
theorem gstr {i : Str} (hm : ∃ u, X.mg x = some (.str i u)) (hg : Gl X x := by rfl) (hdb : (x == ("__debug__" : Str)) = false := by decide) : PE X (.Name x pos) (tC (.str i)) := by
  obtain ⟨u, hm⟩ := hm
  exact pe_glob hg hm ⟨u, rfl⟩ hdb
theorem gref {i : Addr} (hm : X.mg x = some (.ref i)) (hg : Gl X x := by rfl) (hdb : (x == ("__debug__" : Str)) = false := by decide) : PE X (.Name x pos) (tC (.ref i)) := pe_glob hg hm rfl hdb
end
/-! ### isinstance -/
def isInt : D → Bool | .int _ => true | .bool _ => true | _ => false
def isBol : D → Bool | .bool _ => true | _ => false
def isStr : D → Bool | .str _ => true | _ => false
def isTup : D → Bool | .tuple _ => true | _ => false
def isLst : D → Bool | .list _ => true | _ => false
section
variable {K : Fg} {σ : L2.St} {F H : Hp} {te : TE} {d : D}
theorem d_isi {n : String} {b : Bool} (h : EvD K te σ F H d) (hb : kitB (tyN d) n = some b) : EvD K (tCB (rIsi K) (tCons te (tCons (tC (.ty n)) tNil))) σ F H (.bool b) := fun F1 H1 e1 e2 e3 Q q =>
  h F1 H1 e1 e2 e3 _ fun v F2 H2 g hv => ⟨v, .ty n, _, _, b, rfl, .ty n, dp_ty (hv.up g.fh), kit_ty hb, q _ F2 H2 g (.bl b)⟩
theorem d_isInt (h : EvD K te σ F H d) : EvD K (tCB (rIsi K) (tCons te (tCons (tC (.ty "int")) tNil))) σ F H (.bool (isInt d)) := d_isi h (by cases d <;> (simp only [tyN, isInt, isBol, isStr, isTup, isLst]; decide +kernel))
theorem d_isBol (h : EvD K te σ F H d) : EvD K (tCB (rIsi K) (tCons te (tCons (tC (.ty "bool")) tNil))) σ F H (.bool (isBol d)) := d_isi h (by cases d <;> (simp only [tyN, isInt, isBol, isStr, isTup, isLst]; decide +kernel))
theorem d_isStr (h : EvD K te σ F H d) : EvD K (tCB (rIsi K) (tCons te (tCons (tC (.ty "str")) tNil))) σ F H (.bool (isStr d)) := d_isi h (by cases d <;> (simp only [tyN, isInt, isBol, isStr, isTup, isLst]; decide +kernel))
theorem d_isTup (h : EvD K te σ F H d) : EvD K (tCB (rIsi K) (tCons te (tCons (tC (.ty "tuple")) tNil))) σ F H (.bool (isTup d)) := d_isi h (by cases d <;> (simp only [tyN, isInt, isBol, isStr, isTup, isLst]; decide +kernel))
theorem d_isLst (h : EvD K te σ F H d) : EvD K (tCB (rIsi K) (tCons te (tCons (tC (.ty "list")) tNil))) σ F H (.bool (isLst d)) := d_isi h (by cases d <;> (simp only [tyN, isInt, isBol, isStr, isTup, isLst]; decide +kernel))
end
/-! ### new lists -/
def EvN (K : Fg) (te : TE) (σ : L2.St) (F H : Hp) (ds : List D) : Prop := ∀ F1 H1, Ex F F1 → Ex H H1 → Ex F1 H1 → ∀ Q : VK,
  (∀ p vs F2 H2, Gr F1 H1 F2 H2 → H1 p = none → F2 p = none → H2 p = some (.lst vs) → DpAll K F2 vs ds → Q (.ref p) H2) → te σ H1 Q
section
variable {K : Fg} {σ : L2.St} {F H F0 H0 : Hp} {te ta tl : TE} {tt t : TT} {d : D} {ds es : List D} {v : V} {i j : Nat} {D' : Ends} {tu tw tz : TS} {gt : TG} {wi : TI}
theorem EvN.dd (h : EvN K te σ F H ds) : EvD K te σ F H (.list ds) := fun F1 H1 e1 e2 e3 Q q => h F1 H1 e1 e2 e3 _ fun p vs F2 H2 g hp fp hl ha =>
  q (.ref p) (upd F2 p (.lst vs)) H2 (g.give hp hl fp) (.lst (sq_of upd_same) (ha.up (Ex.new fp)))
theorem EvN.to (h : EvN K te σ F H ds) (q : ds = es) : EvN K te σ F H es := q ▸ h
theorem n_lst {ta : TA} (ha : EvDs K ta σ F H ds) (hl : ds.length ≤ 100000) : EvN K (tLst ta) σ F H ds := fun F1 H1 e1 e2 e3 Q q =>
  ha F1 H1 e1 e2 e3 _ fun xs F2 H2 g2 hx => ⟨by rw [hx.length]; exact sz_of hl, fun p hp => q p xs F2 _ (g2.trans (Gr.own g2.fh hp)) (g2.back hp) (fresh_back g2.fh hp) upd_same hx⟩
theorem n_cut {lo hi : Option Int} {to th : TO} (h : EvD K te σ F H (.list ds)) (h1 : EvI K to σ F H lo) (h2 : EvI K th σ F H hi) : EvD K (tSl (rDs K SlD) te to th) σ F H (.list (cutD ds lo hi)) := d_sl h h1 h2 (.list ds lo hi)
theorem d_ix {tb : TE} {e r : D} (ha : EvD K te σ F H d) (hb : EvD K tb σ F H e) (hr : IxD d e r) : EvD K (tOp (rIxU K) te tb) σ F H r := fun F1 H1 e1 e2 e3 Q q =>
  ha F1 H1 e1 e2 e3 _ fun x F2 H2 g2 hx => hb F2 H2 (e1.trans g2.fx) (e2.trans g2.hx) g2.fh _ fun y F3 H3 g3 hy =>
    .inl ⟨F3, d, e, r, g3.fh, hx.up g3.fx, hy, hr, fun v F4 H4 g4 hv => q v F4 H4 ((g2.trans g3).trans g4) hv⟩
/-- an item of one's own list -/
theorem d_ixO {tb : TE} {l : Addr} {vs : List V} {n : Int} {r : D} (hv : σ[i]? = some (some (.ref l))) (hl : H l = some (.lst vs)) (ha : DpAll K F vs ds) (hb : EvD K tb σ F H (.int n)) (hr : atI ds n = some r) : EvD K (tOp (rIxU K) (tVar i) tb) σ F H r := fun F1 H1 e1 e2 e3 Q q =>
  ⟨.ref l, hv, hb F1 H1 e1 e2 e3 _ fun y F3 H3 g3 hy => by
    cases hy
    obtain ⟨w, ew, hw⟩ := dps_at ha hr
    exact .inr ⟨l, vs, n, w, rfl, rfl, sq_of (g3.hx _ _ (e2 _ _ hl)), ew, q w F3 H3 g3 (hw.up (e1.trans g3.fx))⟩⟩
/-! ### statements -/
/-- xs.clear(), xs one's own -/
theorem s_clear {l : Addr} {xs : List V} (g : Gr F0 H0 F H) (hl0 : H0 l = none) (fl : F l = none) (hl : H l = some (.lst xs)) (hv : σ[i]? = some (some (.ref l))) (k : ∀ H2, Gr F0 H0 F H2 → (∀ p o, p ≠ l → H p = some o → H2 p = some o) → H2 l = some (.lst []) → D'.nx σ H2) :
    tDrop (tBM0 K "list" rClear (tVar i)) D' σ H :=
  ⟨.ref l, hv, .inl ⟨rfl, xs, sq_of hl⟩, l, xs, rfl, rfl, hl, k _ (g.mut hl0 fl) (fun p o hp ho => by rw [upd_ne hp]; exact ho) upd_same⟩
theorem q_clear {l : Addr} {xs : List V} (g : Gr F0 H0 F H) (hl0 : H0 l = none) (fl : F l = none) (hl : H l = some (.lst xs)) (hv : σ[i]? = some (some (.ref l))) (k : ∀ H2, Gr F0 H0 F H2 → (∀ p o, p ≠ l → H p = some o → H2 p = some o) → H2 l = some (.lst []) → tz D' σ H2) :
    tSeq (tDrop (tBM0 K "list" rClear (tVar i))) tz D' σ H := s_clear (D' := { D' with nx := tz D' }) g hl0 fl hl hv k
/-! promises of a new list -/
def AnsN (K : Fg) (F H : Hp) (es : List D) (Q : VK) : Prop := ∀ p ws F2 H2, Gr F H F2 H2 → H p = none → F2 p = none → H2 p = some (.lst ws) → DpAll K F2 ws es → Q (.ref p) H2
def spN (K : Fg) (R : List D → List D → Prop) : Sp := fun vs H Q _ => ∃ F ds es, Ex F H ∧ DpAll K F vs ds ∧ R ds es ∧ AnsN K F H es Q
theorem n_call {R : List D → List D → Prop} {E : XK} {ta : TA} (ha : EvDs K ta σ F H ds) (hr : R ds es) : EvN K (tCall (spN K R) [] E ta) σ F H es := fun F1 H1 e1 e2 e3 Q q =>
  ha F1 H1 e1 e2 e3 _ fun xs F2 H2 g2 hx => by
    show spN K R (xs ++ []) H2 Q E
    rw [List.append_nil]
    exact ⟨F2, ds, es, g2.fh, hx, hr, fun p ws F3 H3 g3 hp fp hl ha => q p ws F3 H3 (g2.trans g3) (g2.back hp) fp hl ha⟩
theorem s_retN (g : Gr F0 H0 F H) (h : EvN K te σ F H ds) (q : AnsN K F0 H0 ds D'.rt) : tRet te D' σ H :=
  h F H (Ex.refl F) (Ex.refl H) g.fh _ fun p ws F2 H2 s hp fp hl ha => q p ws F2 H2 (g.trans s) (g.back hp) fp hl ha
/-- one's own list is handed back -/
theorem s_retO {l : Addr} {vs : List V} (g : Gr F0 H0 F H) (hl0 : H0 l = none) (fl : F l = none) (hl : H l = some (.lst vs)) (ha : DpAll K F vs ds) (hv : σ[i]? = some (some (.ref l))) (q : AnsN K F0 H0 ds D'.rt) : tRet (tVar i) D' σ H :=
  ⟨.ref l, hv, q l vs F H g hl0 fl hl ha⟩
/-! ### statements -/
theorem s_set (g : Gr F0 H0 F H) (h : EvD K te σ F H d) (k : ∀ v F2 H2, Gr F0 H0 F2 H2 → Gr F H F2 H2 → Dp K F2 v d → D'.nx (σ.set i (some v)) H2) : tAsg te (gName i) D' σ H :=
  h F H (Ex.refl F) (Ex.refl H) g.fh _ fun v F2 H2 s hv => k v F2 H2 (g.trans s) s hv
theorem s_setV (g : Gr F0 H0 F H) (h : EvD K te σ F H d) (hs : scV d = some v) (k : ∀ H2, Gr F0 H0 F H2 → Ex H H2 → D'.nx (σ.set i (some v)) H2) : tAsg te (gName i) D' σ H :=
  h F H (Ex.refl F) (Ex.refl H) g.fh _ fun w F2 H2 s hv => by
    have e := scV_inv hs hv
    subst e
    exact k H2 (g.grow s.hx) s.hx
theorem s_setN (g : Gr F0 H0 F H) (h : EvN K te σ F H ds) (k : ∀ p vs F2 H2, Gr F0 H0 F2 H2 → Gr F H F2 H2 → H p = none → F2 p = none → H2 p = some (.lst vs) → DpAll K F2 vs ds → D'.nx (σ.set i (some (.ref p))) H2) : tAsg te (gName i) D' σ H :=
  h F H (Ex.refl F) (Ex.refl H) g.fh _ fun p vs F2 H2 s hp fp hl ha => k p vs F2 H2 (g.trans s) s hp fp hl ha
theorem s_ret (g : Gr F0 H0 F H) (h : EvD K te σ F H d) (q : Ans K F0 H0 d D'.rt) : tRet te D' σ H :=
  h F H (Ex.refl F) (Ex.refl H) g.fh _ fun v F2 H2 s hv => q v F2 H2 (g.trans s) hv
theorem s_drop (g : Gr F0 H0 F H) (h : EvD K te σ F H d) (k : ∀ H2, Gr F0 H0 F H2 → Ex H H2 → D'.nx σ H2) : tDrop te D' σ H :=
  h F H (Ex.refl F) (Ex.refl H) g.fh _ fun v F2 H2 s _ => k H2 (g.grow s.hx) s.hx
theorem s_if {b : Bool} (g : Gr F0 H0 F H) (h : EvB t σ F H b) (h1 : b = true → ∀ H2, Gr F0 H0 F H2 → Ex H H2 → tu D' σ H2) (h2 : b = false → ∀ H2, Gr F0 H0 F H2 → Ex H H2 → tw D' σ H2) : tIfS t tu tw D' σ H :=
  h F H (Ex.refl F) (Ex.refl H) g.fh _ fun H2 e => by
    cases b with
    | true =>
      show tu D' σ H2
      exact h1 rfl H2 (g.grow e) e
    | false =>
      show tw D' σ H2
      exact h2 rfl H2 (g.grow e) e
theorem s_aug {f : Int → Int → Int} {a b : Int} (g : Gr F0 H0 F H) (hx : σ[i]? = some (some (.int a))) (h : EvD K te σ F H (.int b)) (k : ∀ H2, Gr F0 H0 F H2 → Ex H H2 → D'.nx (σ.set i (some (.int (f a b)))) H2) : tAug i te (ipI f) D' σ H :=
  ⟨.int a, hx, h F H (Ex.refl F) (Ex.refl H) g.fh _ fun v F2 H2 s hv => by
    cases hv
    exact ⟨a, b, rfl, rfl, k H2 (g.grow s.hx) s.hx⟩⟩
/-- xs.append(e), xs one's own list -/
theorem s_app {l : Addr} {xs : List V} (g : Gr F0 H0 F H) (hl0 : H0 l = none) (fl : F l = none) (hl : H l = some (.lst xs)) (hv : σ[i]? = some (some (.ref l))) (hz : xs.length < 100000) (h : EvD K te σ F H d)
    (k : ∀ v F2 H2, Gr F0 H0 F2 H2 → Ex F F2 → (∀ p, H p ≠ none → F2 p = F p) → (∀ p o, p ≠ l → H p = some o → H2 p = some o) → H2 l = some (.lst (xs ++ [v])) → Dp K F2 v d → D'.nx σ H2) :
    tDrop (tBM K "list" rAppend (tVar i) (tCons te tNil)) D' σ H := by
  refine ⟨.ref l, hv, .inl ⟨rfl, xs, sq_of hl⟩, h F H (Ex.refl F) (Ex.refl H) g.fh _ fun v F2 H2 s hd => ?_⟩
  refine ⟨l, xs, v, rfl, rfl, s.hx l _ hl, sz_lt hz, ?_⟩
  have f2 : F2 l = none := (s.old l (by rw [hl]; exact fun z => nomatch z)).trans fl
  refine k v F2 _ ((g.trans s).mut hl0 f2) s.fx s.old (fun p o hp ho => ?_) upd_same hd
  rw [upd_ne hp]
  exact s.hx p o ho
/-- xs[i] = e, xs one's own list -/
theorem s_setL {l : Addr} {xs : List V} {n : Nat} {tb : TE} (g : Gr F0 H0 F H) (hl0 : H0 l = none) (fl : F l = none) (hl : H l = some (.lst xs)) (hv : σ[i]? = some (some (.ref l))) (h : EvD K te σ F H d) (hb : EvD K tb σ F H (.int (n : Int))) (hn : n < xs.length)
    (k : ∀ v F2 H2, Gr F0 H0 F2 H2 → Ex F F2 → (∀ p, H p ≠ none → F2 p = F p) → (∀ p o, p ≠ l → H p = some o → H2 p = some o) → H2 l = some (.lst (xs.set n v)) → Dp K F2 v d → D'.nx σ H2) :
    tAsg te (gSub (tVar i) tb rSetL) D' σ H := by
  refine h F H (Ex.refl F) (Ex.refl H) g.fh _ fun v F2 H2 s hd => ?_
  refine ⟨.ref l, hv, hb F2 H2 s.fx s.hx s.fh _ fun w F3 H3 s3 hw => ?_⟩
  cases hw
  have f2 : F2 l = none := (s.old l (by rw [hl]; exact fun z => nomatch z)).trans fl
  refine ⟨l, xs, _, n, rfl, rfl, s3.hx l _ (s.hx l _ hl), ixN_nat hn, ?_⟩
  refine k v F2 _ (((g.trans s).grow s3.hx).mut hl0 f2) s.fx s.old (fun p o hp ho => ?_) upd_same hd
  rw [upd_ne hp]
  exact s3.hx p o (s.hx p o ho)
/-! behind which more stands -/
theorem q_set (g : Gr F0 H0 F H) (h : EvD K te σ F H d) (k : ∀ v F2 H2, Gr F0 H0 F2 H2 → Gr F H F2 H2 → Dp K F2 v d → tz D' (σ.set i (some v)) H2) : tSeq (tAsg te (gName i)) tz D' σ H := s_set (D' := { D' with nx := tz D' }) g h k
theorem q_setV (g : Gr F0 H0 F H) (h : EvD K te σ F H d) (hs : scV d = some v) (k : ∀ H2, Gr F0 H0 F H2 → Ex H H2 → tz D' (σ.set i (some v)) H2) : tSeq (tAsg te (gName i)) tz D' σ H := s_setV (D' := { D' with nx := tz D' }) g h hs k
theorem q_setN (g : Gr F0 H0 F H) (h : EvN K te σ F H ds) (k : ∀ p vs F2 H2, Gr F0 H0 F2 H2 → Gr F H F2 H2 → H p = none → F2 p = none → H2 p = some (.lst vs) → DpAll K F2 vs ds → tz D' (σ.set i (some (.ref p))) H2) : tSeq (tAsg te (gName i)) tz D' σ H := s_setN (D' := { D' with nx := tz D' }) g h k
theorem q_drop (g : Gr F0 H0 F H) (h : EvD K te σ F H d) (k : ∀ H2, Gr F0 H0 F H2 → Ex H H2 → tz D' σ H2) : tSeq (tDrop te) tz D' σ H := s_drop (D' := { D' with nx := tz D' }) g h k
theorem q_if {b : Bool} (g : Gr F0 H0 F H) (h : EvB t σ F H b) (h1 : b = true → ∀ H2, Gr F0 H0 F H2 → Ex H H2 → tu { D' with nx := tz D' } σ H2) (h2 : b = false → ∀ H2, Gr F0 H0 F H2 → Ex H H2 → tw { D' with nx := tz D' } σ H2) : tSeq (tIfS t tu tw) tz D' σ H := s_if (D' := { D' with nx := tz D' }) g h h1 h2
/-- an if without else -/
theorem q_when {b : Bool} (g : Gr F0 H0 F H) (h : EvB t σ F H b) (h1 : b = true → ∀ H2, Gr F0 H0 F H2 → Ex H H2 → tu { D' with nx := tz D' } σ H2) (h2 : b = false → ∀ H2, Gr F0 H0 F H2 → Ex H H2 → tz D' σ H2) : tSeq (tIfS t tu tNext) tz D' σ H := s_if (D' := { D' with nx := tz D' }) g h h1 h2
theorem s_when {b : Bool} (g : Gr F0 H0 F H) (h : EvB t σ F H b) (h1 : b = true → ∀ H2, Gr F0 H0 F H2 → Ex H H2 → tu D' σ H2) (h2 : b = false → ∀ H2, Gr F0 H0 F H2 → Ex H H2 → D'.nx σ H2) : tIfS t tu tNext D' σ H := s_if g h h1 h2
/-- if c: x = e, where x is a plain value behind it either way -/
theorem q_ifSet {b : Bool} (g : Gr F0 H0 F H) (h : EvB t σ F H b) (h1 : b = true → EvD K te σ F H d) (h2 : b = false → σ.set i (some v) = σ) (hs : scV d = some v) (k : ∀ H2, Gr F0 H0 F H2 → Ex H H2 → tz D' (σ.set i (some v)) H2) : tSeq (tIfS t (tAsg te (gName i)) tNext) tz D' σ H :=
  q_when g h (fun hb H2 g2 e2 => s_setV (D' := { D' with nx := tz D' }) g2 ((h1 hb).up (Ex.refl F) e2) hs fun H3 g3 e3 => k H3 g3 (e2.trans e3)) fun hb H2 g2 e2 => by
    have z := k H2 g2 e2
    rw [h2 hb] at z
    exact z
theorem q_aug {f : Int → Int → Int} {a b : Int} (g : Gr F0 H0 F H) (hx : σ[i]? = some (some (.int a))) (h : EvD K te σ F H (.int b)) (k : ∀ H2, Gr F0 H0 F H2 → Ex H H2 → tz D' (σ.set i (some (.int (f a b)))) H2) : tSeq (tAug i te (ipI f)) tz D' σ H := s_aug (D' := { D' with nx := tz D' }) g hx h k
theorem q_app {l : Addr} {xs : List V} (g : Gr F0 H0 F H) (hl0 : H0 l = none) (fl : F l = none) (hl : H l = some (.lst xs)) (hv : σ[i]? = some (some (.ref l))) (hz : xs.length < 100000) (h : EvD K te σ F H d)
    (k : ∀ v F2 H2, Gr F0 H0 F2 H2 → Ex F F2 → (∀ p, H p ≠ none → F2 p = F p) → (∀ p o, p ≠ l → H p = some o → H2 p = some o) → H2 l = some (.lst (xs ++ [v])) → Dp K F2 v d → tz D' σ H2) :
    tSeq (tDrop (tBM K "list" rAppend (tVar i) (tCons te tNil))) tz D' σ H := s_app (D' := { D' with nx := tz D' }) g hl0 fl hl hv hz h k
theorem q_setL {l : Addr} {xs : List V} {n : Nat} {tb : TE} (g : Gr F0 H0 F H) (hl0 : H0 l = none) (fl : F l = none) (hl : H l = some (.lst xs)) (hv : σ[i]? = some (some (.ref l))) (h : EvD K te σ F H d) (hb : EvD K tb σ F H (.int (n : Int))) (hn : n < xs.length)
    (k : ∀ v F2 H2, Gr F0 H0 F2 H2 → Ex F F2 → (∀ p, H p ≠ none → F2 p = F p) → (∀ p o, p ≠ l → H p = some o → H2 p = some o) → H2 l = some (.lst (xs.set n v)) → Dp K F2 v d → tz D' σ H2) :
    tSeq (tAsg te (gSub (tVar i) tb rSetL)) tz D' σ H := s_setL (D' := { D' with nx := tz D' }) g hl0 fl hl hv h hb hn k
/-! ### what is walked -/
/-- an iterator that gives the data ds, one a turn -/
structure Wk (K : Fg) (J : It) (F : Hp) (ds : List D) : Prop where
  go : ∀ H i, Ex F H → i < ds.length → J.go i H
  yld : ∀ F1 H i x H', i < ds.length → Ex F F1 → Ex F1 H → J.yld i H x H' → ∃ F2 d, Gr F1 H F2 H' ∧ ds[i]? = some d ∧ Dp K F2 x d
  stop : ∀ H i, Ex F H → ds.length ≤ i → J.stop i H
def EvW (K : Fg) (wi : TI) (σ : L2.St) (F H : Hp) (ds : List D) : Prop := ∀ F1 H1, Ex F F1 → Ex H H1 → Ex F1 H1 → ∀ R : It → Hp → Prop, (∀ J F2 H2, Gr F1 H1 F2 H2 → Wk K J F2 ds → R J H2) → wi σ H1 R
theorem get_lt {α : Type} {xs : List α} {i : Nat} (h : i < xs.length) : ∃ x, xs[i]? = some x := ⟨_, List.getElem?_eq_getElem h⟩
theorem w_list (h : EvD K tl σ F H (.list ds)) : EvW K (iList K tl) σ F H ds := fun F1 H1 e1 e2 e3 R q => h F1 H1 e1 e2 e3 _ fun v F2 H2 g hv => by
  cases hv with
  | @lst a xs _ hs ha =>
    have hl := ha.length
    refine ⟨a, rfl, ⟨xs, ex_l g.fh hs⟩, q _ F2 H2 g ⟨fun H i e hi => ?_, fun F3 H i x H' hi e e' hy => ?_, fun H i e hi => ⟨xs, ex_l e hs, by rw [hl]; exact hi⟩⟩⟩
    · obtain ⟨x, hx⟩ := get_lt (xs := xs) (by rw [hl]; exact hi)
      exact ⟨xs, x, ex_l e hs, hx⟩
    · obtain ⟨rfl, hy⟩ := hy
      obtain ⟨d, h1, h2⟩ := ha.getV (hy xs (ex_l (e.trans e') hs))
      exact ⟨F3, d, Gr.refl e', h1, h2.up e⟩
theorem w_tup (h : EvD K tl σ F H (.tuple ds)) : EvW K (iTup K tl) σ F H ds := fun F1 H1 e1 e2 e3 R q => h F1 H1 e1 e2 e3 _ fun v F2 H2 g hv => by
  cases hv with
  | @tup a xs _ hs ha =>
    have hl := ha.length
    refine ⟨a, rfl, ⟨xs, ex_t g.fh hs⟩, q _ F2 H2 g ⟨fun H i e hi => ?_, fun F3 H i x H' hi e e' hy => ?_, fun H i e hi => ⟨xs, ex_t e hs, by rw [hl]; exact hi⟩⟩⟩
    · obtain ⟨x, hx⟩ := get_lt (xs := xs) (by rw [hl]; exact hi)
      exact ⟨xs, x, ex_t e hs, hx⟩
    · obtain ⟨rfl, hy⟩ := hy
      obtain ⟨d, h1, h2⟩ := ha.getV (hy xs (ex_t (e.trans e') hs))
      exact ⟨F3, d, Gr.refl e', h1, h2.up e⟩
def signD (c : Nat) : D := .str ⟨#[c]⟩
theorem w_str {z : Str} (h : EvD K tl σ F H (.str z)) : EvW K (iStr tl) σ F H (z.cps.toList.map signD) := fun F1 H1 e1 e2 e3 R q => h F1 H1 e1 e2 e3 _ fun v F2 H2 g hv => by
  cases hv
  have hl : (z.cps.toList.map signD).length = z.cps.size := by simp
  refine ⟨z, rfl, q _ F2 H2 g ⟨fun H i e hi => by rw [hl] at hi; exact hi, fun F3 H i x H' hi e e' hy => ?_, fun H i e hi => by rw [hl] at hi; exact hi⟩⟩
  obtain ⟨rfl, c, hc, rfl⟩ := hy
  refine ⟨F3, signD c, Gr.refl e', ?_, .str _⟩
  rw [List.getElem?_map, Array.getElem?_toList, hc]
  rfl
def iAny (K : Fg) (tl : TE) : TI := fun σ H R => iList K tl σ H R ∨ iTup K tl σ H R ∨ iStr tl σ H R
theorem pi_any {X : Cx} {K : Fg} {tg l : Expr} {tl : TE} (hl : PE X l tl) (hK : X.K = K := by rfl) : PI X tg l (iAny K tl) := hK ▸ ⟨fun pins s σ H R I h => by
  rcases h with h | h | h
  · exact (pi_list hl).run pins s σ H R I h
  · exact (pi_tup hl).run pins s σ H R I h
  · exact (pi_str hl).run pins s σ H R I h⟩
theorem w_anyL (h : EvD K tl σ F H (.list ds)) : EvW K (iAny K tl) σ F H ds := fun F1 H1 e1 e2 e3 R q => .inl (w_list h F1 H1 e1 e2 e3 R q)
theorem w_anyT (h : EvD K tl σ F H (.tuple ds)) : EvW K (iAny K tl) σ F H ds := fun F1 H1 e1 e2 e3 R q => .inr (.inl (w_tup h F1 H1 e1 e2 e3 R q))
theorem w_anyS {z : Str} (h : EvD K tl σ F H (.str z)) : EvW K (iAny K tl) σ F H (z.cps.toList.map signD) := fun F1 H1 e1 e2 e3 R q => .inr (.inr (w_str h F1 H1 e1 e2 e3 R q))
def rangeD (lo : Int) (n : Nat) : List D := (List.range n).map fun (i : Nat) => .int (lo + (i : Int))
theorem rangeD_len (lo : Int) (n : Nat) : (rangeD lo n).length = n := by unfold rangeD; simp
theorem rangeD_get {lo : Int} {n i : Nat} {d : D} (h : (rangeD lo n)[i]? = some d) : i < n ∧ d = .int (lo + (i : Int)) := by
  have hi : i < n := by
    have := (List.getElem?_eq_some_iff.mp h).1
    rwa [rangeD_len] at this
  refine ⟨hi, ?_⟩
  unfold rangeD at h
  rw [List.getElem?_map, List.getElem?_range hi] at h
  exact (Option.some.inj h).symm
theorem rangeD_mem {lo : Int} {n : Nat} {d : D} (h : d ∈ rangeD lo n) : ∃ i : Nat, i < n ∧ d = .int (lo + (i : Int)) := by
  unfold rangeD at h
  obtain ⟨i, hi, e⟩ := List.mem_map.mp h
  exact ⟨i, List.mem_range.mp hi, e.symm⟩
theorem wk_range {lo : Int} {n : Nat} : Wk K (Itr lo n) F (rangeD lo n) := by
  refine ⟨fun H i e hi => by rw [rangeD_len] at hi; exact hi, fun F3 H i x H' hi e e' hy => ?_, fun H i e hi => by rw [rangeD_len] at hi; exact hi⟩
  obtain ⟨rfl, rfl⟩ := hy
  rw [rangeD_len] at hi
  refine ⟨F3, .int (lo + (i : Int)), Gr.refl e', ?_, .int _⟩
  unfold rangeD
  rw [List.getElem?_map, List.getElem?_range hi]
  rfl
theorem w_range1 {ta : TA} {n : Int} (h : EvDs K ta σ F H [.int n]) (h1 : -(2 ^ 62) ≤ n) (h2 : n < 2 ^ 62) : EvW K (iRng1 ta) σ F H (rangeD 0 n.toNat) := fun F1 H1 e1 e2 e3 R q => h F1 H1 e1 e2 e3 _ fun vs F2 H2 g hv => by
  obtain ⟨w, rfl, hw⟩ := dps1 hv
  cases hw
  exact ⟨n, rfl, h1, h2, q _ F2 H2 g wk_range⟩
theorem w_range2 {ta : TA} {lo n : Int} (h : EvDs K ta σ F H [.int lo, .int n]) (h0 : -(2 ^ 62) ≤ lo ∧ lo < 2 ^ 62 ∧ -(2 ^ 62) ≤ n ∧ n < 2 ^ 62) : EvW K (iRng2 ta) σ F H (rangeD lo (n - lo).toNat) := fun F1 H1 e1 e2 e3 R q => h F1 H1 e1 e2 e3 _ fun vs F2 H2 g hv => by
  obtain ⟨v, w, rfl, hv, hw⟩ := dps2 hv
  cases hv
  cases hw
  exact ⟨lo, n, rfl, h0, q _ F2 H2 g wk_range⟩
/-! ### for -/
/-- what stands between two turns -/
def Btw (F0 H0 Fb : Hp) (P : L2.St → Hp → Hp → Prop) (σ : L2.St) (H : Hp) : Prop := ∃ F, Gr F0 H0 F H ∧ Ex Fb F ∧ P σ F H
theorem s_for (g : Gr F0 H0 F H) (h : EvW K wi σ F H ds)
    (k : ∀ F2 H2, Gr F0 H0 F2 H2 → Gr F H F2 H2 → ∃ P : Nat → L2.St → Hp → Hp → Prop, P 0 σ F2 H2 ∧
      (∀ i d σ' F' H', ds[i]? = some d → Gr F0 H0 F' H' → Ex F2 F' → P i σ' F' H' → ∀ x F3 H3, Gr F' H' F3 H3 → Dp K F3 x d →
        gt x σ' H3 fun σ2 H4 => tu { D' with nx := Btw F0 H0 F2 (P (i + 1)), ct := Btw F0 H0 F2 (P (i + 1)), bk := D'.nx } σ2 H4) ∧
      (∀ σ' F' H', Gr F0 H0 F' H' → Ex F2 F' → P ds.length σ' F' H' → D'.nx σ' H')) : tFor wi gt tu D' σ H :=
  h F H (Ex.refl F) (Ex.refl H) g.fh _ fun J F2 H2 s wk => by
    obtain ⟨P, p0, hs, hd⟩ := k F2 H2 (g.trans s) s
    refine ⟨fun i m σ' H' => m = ds.length - i ∧ i ≤ ds.length ∧ Btw F0 H0 F2 (P i) σ' H', ⟨ds.length, rfl, Nat.zero_le _, F2, g.trans s, Ex.refl _, p0⟩, ?_⟩
    rintro i m σ' H' ⟨rfl, hi, F', g', e', p⟩
    by_cases hlt : i < ds.length
    · refine .inr ⟨wk.go H' i (e'.trans g'.fh) hlt, Btw F0 H0 F2 (P (i + 1)), fun σ2 H3 p' => ⟨ds.length - (i + 1), by omega, rfl, hlt, p'⟩, fun x H3 y => ?_⟩
      obtain ⟨F3, d, g3, hd3, hx⟩ := wk.yld F' H' i x H3 hlt e' g'.fh y
      exact hs i d σ' F' H' hd3 g' e' p x F3 H3 g3 hx
    · have e : i = ds.length := by omega
      subst e
      exact .inl ⟨wk.stop H' _ (e'.trans g'.fh) (Nat.le_refl _), hd σ' F' H' g' e' p⟩
theorem q_for (g : Gr F0 H0 F H) (h : EvW K wi σ F H ds)
    (k : ∀ F2 H2, Gr F0 H0 F2 H2 → Gr F H F2 H2 → ∃ P : Nat → L2.St → Hp → Hp → Prop, P 0 σ F2 H2 ∧
      (∀ i d σ' F' H', ds[i]? = some d → Gr F0 H0 F' H' → Ex F2 F' → P i σ' F' H' → ∀ x F3 H3, Gr F' H' F3 H3 → Dp K F3 x d →
        gt x σ' H3 fun σ2 H4 => tu { D' with nx := Btw F0 H0 F2 (P (i + 1)), ct := Btw F0 H0 F2 (P (i + 1)), bk := tz D' } σ2 H4) ∧
      (∀ σ' F' H', Gr F0 H0 F' H' → Ex F2 F' → P ds.length σ' F' H' → tz D' σ' H')) : tSeq (tFor wi gt tu) tz D' σ H := s_for (D' := { D' with nx := tz D' }) g h k
/-- while: W falls; between two turns P -/
theorem s_while (g : Gr F0 H0 F H) (P : Nat → L2.St → Hp → Hp → Prop) (m0 : Nat) (p0 : P m0 σ F H)
    (hs : ∀ m σ' F' H', Gr F0 H0 F' H' → Ex F F' → P m σ' F' H' → ∃ b, EvB t σ' F' H' b ∧
      (b = true → ∀ H1, Gr F0 H0 F' H1 → Ex H' H1 → tu { D' with nx := fun σ2 H2 => ∃ m', m' < m ∧ Btw F0 H0 F (P m') σ2 H2, ct := fun σ2 H2 => ∃ m', m' < m ∧ Btw F0 H0 F (P m') σ2 H2, bk := D'.nx } σ' H1) ∧
      (b = false → ∀ H1, Gr F0 H0 F' H1 → Ex H' H1 → D'.nx σ' H1)) : tWhile t tu D' σ H :=
  ⟨fun m σ' H' => Btw F0 H0 F (P m) σ' H', ⟨m0, F, g, Ex.refl F, p0⟩, fun m σ' H' ⟨F', g', e', p⟩ => by
    obtain ⟨b, hb, h1, h2⟩ := hs m σ' F' H' g' e' p
    refine hb F' H' (Ex.refl _) (Ex.refl _) g'.fh _ fun H1 e => ?_
    cases b with
    | true => exact ⟨_, fun σ2 H2 n => n, h1 rfl H1 (g'.grow e) e⟩
    | false => exact h2 rfl H1 (g'.grow e) e⟩
theorem q_while (g : Gr F0 H0 F H) (P : Nat → L2.St → Hp → Hp → Prop) (m0 : Nat) (p0 : P m0 σ F H)
    (hs : ∀ m σ' F' H', Gr F0 H0 F' H' → Ex F F' → P m σ' F' H' → ∃ b, EvB t σ' F' H' b ∧
      (b = true → ∀ H1, Gr F0 H0 F' H1 → Ex H' H1 → tu { D' with nx := fun σ2 H2 => ∃ m', m' < m ∧ Btw F0 H0 F (P m') σ2 H2, ct := fun σ2 H2 => ∃ m', m' < m ∧ Btw F0 H0 F (P m') σ2 H2, bk := tz D' } σ' H1) ∧
      (b = false → ∀ H1, Gr F0 H0 F' H1 → Ex H' H1 → tz D' σ' H1)) : tSeq (tWhile t tu) tz D' σ H := s_while (D' := { D' with nx := tz D' }) g P m0 p0 hs
/-- the target a name -/
theorem s_forN (g : Gr F0 H0 F H) (h : EvW K wi σ F H ds)
    (k : ∀ F2 H2, Gr F0 H0 F2 H2 → Gr F H F2 H2 → ∃ P : Nat → L2.St → Hp → Hp → Prop, P 0 σ F2 H2 ∧
      (∀ i d σ' F' H', ds[i]? = some d → Gr F0 H0 F' H' → Ex F2 F' → P i σ' F' H' → ∀ x F3 H3, Gr F' H' F3 H3 → Dp K F3 x d →
        tu { D' with nx := Btw F0 H0 F2 (P (i + 1)), ct := Btw F0 H0 F2 (P (i + 1)), bk := D'.nx } (σ'.set j (some x)) H3) ∧
      (∀ σ' F' H', Gr F0 H0 F' H' → Ex F2 F' → P ds.length σ' F' H' → D'.nx σ' H')) : tFor wi (gName j) tu D' σ H := s_for (K := K) g h k
theorem q_forN (g : Gr F0 H0 F H) (h : EvW K wi σ F H ds)
    (k : ∀ F2 H2, Gr F0 H0 F2 H2 → Gr F H F2 H2 → ∃ P : Nat → L2.St → Hp → Hp → Prop, P 0 σ F2 H2 ∧
      (∀ i d σ' F' H', ds[i]? = some d → Gr F0 H0 F' H' → Ex F2 F' → P i σ' F' H' → ∀ x F3 H3, Gr F' H' F3 H3 → Dp K F3 x d →
        tu { D' with nx := Btw F0 H0 F2 (P (i + 1)), ct := Btw F0 H0 F2 (P (i + 1)), bk := tz D' } (σ'.set j (some x)) H3) ∧
      (∀ σ' F' H', Gr F0 H0 F' H' → Ex F2 F' → P ds.length σ' F' H' → tz D' σ' H')) : tSeq (tFor wi (gName j) tu) tz D' σ H := s_forN (D' := { D' with nx := tz D' }) g h k
/-- over range(n): what holds between two turns, of the slots and the heap alone -/
theorem s_forR {ta : TA} {n : Int} (g : Gr F0 H0 F H) (h : EvDs K ta σ F H [.int n]) (h1 : -(2 ^ 62) ≤ n) (h2 : n < 2 ^ 62) (P : Nat → L2.St → Hp → Hp → Prop) (p0 : ∀ H2, Gr F0 H0 F H2 → Ex H H2 → P 0 σ F H2)
    (hs : ∀ (i : Nat) σ' F' H', (i : Int) < n → Gr F0 H0 F' H' → Ex F F' → P i σ' F' H' → tu { D' with nx := Btw F0 H0 F (P (i + 1)), ct := Btw F0 H0 F (P (i + 1)), bk := D'.nx } (σ'.set j (some (.int (i : Int)))) H')
    (hd : ∀ σ' F' H', Gr F0 H0 F' H' → Ex F F' → P n.toNat σ' F' H' → D'.nx σ' H') : tFor (iRng1 ta) (gName j) tu D' σ H :=
  h F H (Ex.refl F) (Ex.refl H) g.fh _ fun vs F2 H2 s hv => by
    obtain ⟨w, rfl, hw⟩ := dps1 hv
    cases hw
    refine ⟨n, rfl, h1, h2, ?_⟩
    refine ⟨fun i m σ' H' => m = n.toNat - i ∧ i ≤ n.toNat ∧ Btw F0 H0 F (P i) σ' H', ⟨n.toNat, rfl, Nat.zero_le _, F, g.grow s.hx, Ex.refl _, p0 H2 (g.grow s.hx) s.hx⟩, ?_⟩
    rintro i m σ' H' ⟨rfl, hi, F', g', e', p⟩
    by_cases hlt : i < n.toNat
    · refine .inr ⟨hlt, Btw F0 H0 F (P (i + 1)), fun σ2 H3 p' => ⟨n.toNat - (i + 1), by omega, rfl, hlt, p'⟩, fun x H3 y => ?_⟩
      obtain ⟨rfl, rfl⟩ := y
      have e0 : (0 : Int) + (i : Int) = (i : Int) := Int.zero_add _
      rw [e0]
      exact hs i σ' F' _ (by omega) g' e' p
    · have e : i = n.toNat := by omega
      subst e
      exact .inl ⟨Nat.le_refl _, hd σ' F' H' g' e' p⟩
theorem q_forR {ta : TA} {n : Int} (g : Gr F0 H0 F H) (h : EvDs K ta σ F H [.int n]) (h1 : -(2 ^ 62) ≤ n) (h2 : n < 2 ^ 62) (P : Nat → L2.St → Hp → Hp → Prop) (p0 : ∀ H2, Gr F0 H0 F H2 → Ex H H2 → P 0 σ F H2)
    (hs : ∀ (i : Nat) σ' F' H', (i : Int) < n → Gr F0 H0 F' H' → Ex F F' → P i σ' F' H' → tu { D' with nx := Btw F0 H0 F (P (i + 1)), ct := Btw F0 H0 F (P (i + 1)), bk := tz D' } (σ'.set j (some (.int (i : Int)))) H')
    (hd : ∀ σ' F' H', Gr F0 H0 F' H' → Ex F F' → P n.toNat σ' F' H' → tz D' σ' H') : tSeq (tFor (iRng1 ta) (gName j) tu) tz D' σ H := s_forR (D' := { D' with nx := tz D' }) g h h1 h2 P p0 hs hd
theorem s_forR2 {ta : TA} {lo n : Int} (g : Gr F0 H0 F H) (h : EvDs K ta σ F H [.int lo, .int n]) (h1 : -(2 ^ 62) ≤ lo ∧ lo < 2 ^ 62 ∧ -(2 ^ 62) ≤ n ∧ n < 2 ^ 62) (P : Nat → L2.St → Hp → Hp → Prop) (p0 : ∀ H2, Gr F0 H0 F H2 → Ex H H2 → P 0 σ F H2)
    (hs : ∀ (i : Nat) σ' F' H', lo + (i : Int) < n → Gr F0 H0 F' H' → Ex F F' → P i σ' F' H' → tu { D' with nx := Btw F0 H0 F (P (i + 1)), ct := Btw F0 H0 F (P (i + 1)), bk := D'.nx } (σ'.set j (some (.int (lo + (i : Int))))) H')
    (hd : ∀ σ' F' H', Gr F0 H0 F' H' → Ex F F' → P (n - lo).toNat σ' F' H' → D'.nx σ' H') : tFor (iRng2 ta) (gName j) tu D' σ H :=
  h F H (Ex.refl F) (Ex.refl H) g.fh _ fun vs F2 H2 s hv => by
    obtain ⟨u, w, rfl, hu, hw⟩ := dps2 hv
    cases hu; cases hw
    refine ⟨lo, n, rfl, h1, ?_⟩
    refine ⟨fun i m σ' H' => m = (n - lo).toNat - i ∧ i ≤ (n - lo).toNat ∧ Btw F0 H0 F (P i) σ' H', ⟨(n - lo).toNat, rfl, Nat.zero_le _, F, g.grow s.hx, Ex.refl _, p0 H2 (g.grow s.hx) s.hx⟩, ?_⟩
    rintro i m σ' H' ⟨rfl, hi, F', g', e', p⟩
    by_cases hlt : i < (n - lo).toNat
    · refine .inr ⟨hlt, Btw F0 H0 F (P (i + 1)), fun σ2 H3 p' => ⟨(n - lo).toNat - (i + 1), by omega, rfl, hlt, p'⟩, fun x H3 y => ?_⟩
      obtain ⟨rfl, rfl⟩ := y
      exact hs i σ' F' _ (by omega) g' e' p
    · have e : i = (n - lo).toNat := by omega
      subst e
      exact .inl ⟨Nat.le_refl _, hd σ' F' H' g' e' p⟩
theorem q_forR2 {ta : TA} {lo n : Int} (g : Gr F0 H0 F H) (h : EvDs K ta σ F H [.int lo, .int n]) (h1 : -(2 ^ 62) ≤ lo ∧ lo < 2 ^ 62 ∧ -(2 ^ 62) ≤ n ∧ n < 2 ^ 62) (P : Nat → L2.St → Hp → Hp → Prop) (p0 : ∀ H2, Gr F0 H0 F H2 → Ex H H2 → P 0 σ F H2)
    (hs : ∀ (i : Nat) σ' F' H', lo + (i : Int) < n → Gr F0 H0 F' H' → Ex F F' → P i σ' F' H' → tu { D' with nx := Btw F0 H0 F (P (i + 1)), ct := Btw F0 H0 F (P (i + 1)), bk := tz D' } (σ'.set j (some (.int (lo + (i : Int))))) H')
    (hd : ∀ σ' F' H', Gr F0 H0 F' H' → Ex F F' → P (n - lo).toNat σ' F' H' → tz D' σ' H') : tSeq (tFor (iRng2 ta) (gName j) tu) tz D' σ H := s_forR2 (D' := { D' with nx := tz D' }) g h h1 P p0 hs hd
/-- if c: x = e, an int behind it either way, of which something holds -/
theorem q_ifInt {b : Bool} {S : Int → Prop} (g : Gr F0 H0 F H) (h : EvB t σ F H b) (h1 : b = true → ∃ z, EvD K te σ F H (.int z) ∧ S z) (h2 : b = false → ∃ z, σ.set i (some (.int z)) = σ ∧ S z)
    (k : ∀ z H2, S z → Gr F0 H0 F H2 → Ex H H2 → tz D' (σ.set i (some (.int z))) H2) : tSeq (tIfS t (tAsg te (gName i)) tNext) tz D' σ H :=
  q_when g h (fun hb H2 g2 e2 => by
    obtain ⟨z, hz, sz⟩ := h1 hb
    exact s_setV (D' := { D' with nx := tz D' }) g2 (hz.up (Ex.refl F) e2) rfl fun H3 g3 e3 => k z H3 sz g3 (e2.trans e3)) fun hb H2 g2 e2 => by
    obtain ⟨z, hz, sz⟩ := h2 hb
    have q := k z H2 sz g2 e2
    rw [hz] at q
    exact q
/-! ### comprehensions -/
theorem n_lc {vs : List Nat} (h : EvW K wi σ F H ds) (hz : ds.length ≤ 50000) (f : D → Bool) (e : D → D) (hw : ∀ x, wipe ((wipe σ vs).set j (some x)) vs = wipe σ vs)
    (ht : ∀ d x F' H', d ∈ ds → Ex F F' → Ex H H' → Ex F' H' → Dp K F' x d → EvB tt ((wipe σ vs).set j (some x)) F' H' (f d))
    (he : ∀ d x F' H', d ∈ ds → f d = true → Ex F F' → Ex H H' → Ex F' H' → Dp K F' x d → EvD K te ((wipe σ vs).set j (some x)) F' H' (e d)) :
    EvN K (tLc wi (gName j) tt te vs) σ F H ((ds.filter f).map e) := fun F1 H1 e1 e2 e3 Q q => h F1 H1 e1 e2 e3 _ fun J F2 H2 g2 wk Dl hD => by
  have f2 : F2 Dl = none := fresh_back g2.fh hD
  refine ⟨fun i m H' => m = ds.length - i ∧ i ≤ ds.length ∧ ∃ F' ws, Gr F2 H2 F' H' ∧ F' Dl = none ∧ H' Dl = some (.lst ws) ∧ DpAll K F' ws (((ds.take i).filter f).map e),
    ⟨ds.length, rfl, Nat.zero_le _, F2, [], Gr.own g2.fh hD, f2, upd_same, .nil⟩, ?_⟩
  rintro i m H' ⟨rfl, hi, F', ws, g', fl, hl, ha⟩
  by_cases hlt : i < ds.length
  · refine .inr ⟨wk.go H' i (g'.fx.trans g'.fh) hlt, fun H'' => ∃ F'' ws', Gr F2 H2 F'' H'' ∧ F'' Dl = none ∧ H'' Dl = some (.lst ws') ∧ DpAll K F'' ws' (((ds.take (i + 1)).filter f).map e), fun H'' p' => ⟨ds.length - (i + 1), by omega, rfl, hlt, p'⟩, fun x H3 y => ?_⟩
    obtain ⟨F3, d, g3, hd3, hx⟩ := wk.yld F' H' i x H3 hlt g'.fx g'.fh y
    have hm : d ∈ ds := List.mem_of_getElem? hd3
    have hne : H' Dl ≠ none := by rw [hl]; exact fun z => nomatch z
    have f3 : F3 Dl = none := (g3.old Dl hne).trans fl
    have l3 := g3.hx Dl _ hl
    have x1 : Ex F F3 := ((e1.trans g2.fx).trans g'.fx).trans g3.fx
    have x2 : Ex H H3 := ((e2.trans g2.hx).trans g'.hx).trans g3.hx
    have et : ds.take (i + 1) = ds.take i ++ [d] := by rw [List.take_add_one, hd3]; rfl
    refine ⟨hw x, ht d x F3 H3 hm x1 x2 g3.fh hx F3 H3 (Ex.refl _) (Ex.refl _) g3.fh _ fun H4 e4 => ?_⟩
    have g4 : Gr F2 H2 F3 H4 := (g'.trans g3).grow e4
    cases hf : f d with
    | true =>
      show te _ H4 _
      refine he d x F3 H4 hm hf x1 (x2.trans e4) g4.fh hx F3 H4 (Ex.refl _) (Ex.refl _) g4.fh _ fun v F5 H5 g5 hv => ?_
      have l4 := e4 Dl _ l3
      have l5 := g5.hx Dl _ l4
      have f5 : F5 Dl = none := (g5.old Dl (by rw [l4]; exact fun z => nomatch z)).trans f3
      have hlen : ws.length ≤ i := by
        rw [ha.length, List.length_map]
        exact Nat.le_trans (List.length_filter_le _ _) (by rw [List.length_take]; omega)
      refine ⟨ws, l5, sz_lt (by omega), F5, ws ++ [v], (g4.trans g5).mut hD f5, f5, upd_same, ?_⟩
      rw [et, List.filter_append, List.map_append]
      have : [d].filter f = [d] := by simp [hf]
      rw [this]
      exact (ha.up (g3.fx.trans g5.fx)).append (.cons hv .nil)
    | false =>
      show ∃ F'' ws', _
      refine ⟨F3, ws, g4, f3, e4 Dl _ l3, ?_⟩
      rw [et, List.filter_append, List.map_append]
      have : [d].filter f = [] := by simp [hf]
      rw [this, List.map_nil, List.append_nil]
      exact ha.up g3.fx
  · have ei : i = ds.length := by omega
    subst ei
    rw [List.take_length] at ha
    refine .inl ⟨wk.stop H' _ (g'.fx.trans g'.fh) (Nat.le_refl _), q Dl ws F' H' (g2.trans g') (g2.back hD) fl hl ha⟩
theorem filter_all {α : Type} (xs : List α) : xs.filter (fun _ => true) = xs := by induction xs with
  | nil => rfl
  | cons x r ih => simp [List.filter_cons]
/-- without if -/
theorem n_lc1 {vs : List Nat} (h : EvW K wi σ F H ds) (hz : ds.length ≤ 50000) (e : D → D) (hw : ∀ x, wipe ((wipe σ vs).set j (some x)) vs = wipe σ vs)
    (he : ∀ d x F' H', d ∈ ds → Ex F F' → Ex H H' → Ex F' H' → Dp K F' x d → EvD K te ((wipe σ vs).set j (some x)) F' H' (e d)) :
    EvN K (tLc wi (gName j) tYes te vs) σ F H (ds.map e) :=
  (n_lc h hz (fun _ => true) e hw (fun _ _ _ _ _ _ _ _ _ => b_yes) (fun d x F' H' hm _ => he d x F' H' hm)).to (by rw [filter_all])
end
section
variable {P : Program} {w : World} {K : Fg} {mg : Str → Option Value} {base : Heap} {k : Nat} {x : Str} {st : Stmt} {N ps : List Str}
theorem Df.dkN {R : List D → List D → Prop} (D0 : Df K mg x st ps) (S : FnScope N ps (defScope st)) (hl : ∀ ds r, R ds r → ds.length = ps.length)
    (hb : ∀ (f : Addr) (cdv : Value) (A : Around) (outer : List Env) (s : Shared) (H : Hp) (E : XK), Room k (A.deeper (envOfC x (defScope st) s.heap.objs.size f cdv)) →
      ∃ t, PSs (cxOf CX0 P w K mg base N x (defScope st) f cdv A outer s H E).nox (defBody st) t ∧
        ∀ vs F0 ds es Q, Ex F0 H → DpAll K F0 vs ds → R ds es → AnsN K F0 H es Q → t { nx := fun _ H' => Q .non H', rt := Q } (start N vs) H) : Dk P w K mg base (k + 1) x ps (spN K R) := by
  refine D0.dkS S (fun vs H Q E ⟨F, ds, es, _, ha, hr, _⟩ => by rw [ha.length]; exact hl ds es hr) fun f cdv A outer s H E hr => ?_
  obtain ⟨t, h1, h2⟩ := hb f cdv A outer s H E hr
  exact ⟨t, h1, fun vs Q ⟨F0, ds, r, fh, ha, hR, q⟩ => h2 vs F0 ds r Q fh ha hR q⟩
end
end Ly
/-! LyD: methods of texts and lists, more built-ins. -/
namespace Ly
open PySem L2 Evl PyProof.Rows
section
variable {X : Cx} {K : Fg} {o e : Expr} {es : List Expr} {to : TE} {t : TA} {name : Str} {apos cpos : Pos} {T id : String} {r : V → List V → Hp → VK → Prop}
theorem bm0 (pa : PlainAttrs T) (slot : Slot T name id) (hty : typeOf (.builtin id) = pure (.type "method_descriptor")) (hm : MtR X id r) (ho : PE X o to) (hK : X.K = K := by rfl)
    (hbase : attributeBase o name X.env (eval o X.env) = eval o X.env := by rfl) (hline : (apos.endLine == cpos.line) = true := by rfl) : PE X (.Call (.Attribute o name apos) [] [] cpos) (tBM0 K T r to) := by
  subst hK
  exact pe_bm0 pa slot hty hm ho hbase hline
theorem bm (pa : PlainAttrs T) (slot : Slot T name id) (hty : typeOf (.builtin id) = pure (.type "method_descriptor")) (hm : MtR X id r) (ho : PE X o to) (ha : PA X (e :: es) t) (hK : X.K = K := by rfl)
    (hbase : attributeBase o name X.env (eval o X.env) = eval o X.env := by rfl)
    (hfew : ((backTo cpos (starEach (e :: es) X.env)).all (fun x => !x.1) && (backToKw cpos (keywordEach [] X.env)).all (fun x => x.1.isSome)
      && decide ((e :: es).length + ([] : List Keyword).length + (if ([] : List Keyword).isEmpty then 0 else 1) < 30)) = true := by rfl)
    (hline : (apos.endLine == cpos.line) = true := by rfl) (hs : starEach (e :: es) X.env = (false, eval e X.env) :: starEach es X.env := by rfl) (hplain : (backTo cpos (starEach es X.env)).any (·.1) = false := by rfl) :
    PE X (.Call (.Attribute o name apos) (e :: es) [] cpos) (tBM K T r to t) := by
  subst hK
  exact pe_bm pa slot hty hm ho ha hbase hfew hline hs hplain
end
/-! ### methods of texts -/
inductive IndexD : D → List D → D → Prop
  | mk (a b : Str) (i : Nat) (rest : List Nat) (h : Builtin.Str.occurrences a b 0 a.length 1 = i :: rest) : IndexD (.str a) [.str b] (.int (i : Int))
inductive FindD : D → List D → D → Prop
  | mk (a b : Str) : FindD (.str a) [.str b] (.int (match Builtin.Str.occurrences a b 0 a.length 1 with | i :: _ => (i : Int) | [] => -1))
inductive JoinD : D → List D → D → Prop
  | list (a : Str) (ys : List Str) (h : (ys.map (·.length)).sum + ys.length * a.length ≤ 16777216) : JoinD (.str a) [.list (ys.map PyData.str)] (.str (Txt.join a ys))
section
variable {K : Fg} {X : Cx} {σ : L2.St} {F H : Hp} {to : TE} {t : TA} {ds : List D} {r : D} {z : Str}
theorem mt_of {id : String} {rr : V → List V → Hp → VK → Prop} {R : D → List D → D → Prop} (h : MtR X id rr)
    (hr : ∀ F H x xs d ds z Q, Ex F H → Dp X.K F x d → DpAll X.K F xs ds → R d ds z → Ans X.K F H z Q → rr x xs H Q) (hK : X.K = K := by rfl) : MtR X id (rDm K R) := by
  subst hK
  exact fun pins s σ H x xs v us Q I rx rs ⟨F, d, ds, z, fh, hx, hxs, hR, q⟩ => h pins s σ H x xs v us Q I rx rs (hr F H x xs d ds z Q fh hx hxs hR q)
theorem mIndex (hK : X.K = K := by rfl) : MtR X "str.index" (rDm K IndexD) := mt_of mt_sindex (fun F H x xs d ds z Q fh hx hxs hR q => by
  obtain ⟨a, b, i, rest, h⟩ := hR
  obtain ⟨v, rfl, hv⟩ := dps1 hxs
  cases hx; cases hv
  exact ⟨a, b, i, rest, rfl, rfl, h, q.sc fh rfl⟩) hK
theorem mFind (hK : X.K = K := by rfl) : MtR X "str.find" (rDm K FindD) := mt_of mt_find (fun F H x xs d ds z Q fh hx hxs hR q => by
  obtain ⟨a, b⟩ := hR
  obtain ⟨v, rfl, hv⟩ := dps1 hxs
  cases hx; cases hv
  exact ⟨a, b, rfl, rfl, q.sc fh rfl⟩) hK
theorem mJoin (hK : X.K = K := by rfl) : MtR X "str.join" (rDm K JoinD) := mt_of mt_join (fun F H x xs d ds z Q fh hx hxs hR q => by
  obtain ⟨a, ys, h⟩ := hR
  obtain ⟨v, rfl, hv⟩ := dps1 hxs
  cases hx
  cases hv with
  | lst s1 a1 =>
    have e := dps_strs_inv ys a1
    subst e
    exact ⟨a, _, ys, rfl, rfl, .inl (ex_l fh s1), h, q.sc fh rfl⟩) hK
theorem d_bm {R : D → List D → D → Prop} (ho : EvD K to σ F H (.str z)) (ha : EvDs K t σ F H ds) (hr : R (.str z) ds r) : EvD K (tBM K "str" (rDm K R) to t) σ F H r := fun F1 H1 e1 e2 e3 Q q =>
  ho F1 H1 e1 e2 e3 _ fun x F2 H2 g2 hx => ⟨tyV_str hx, ha F2 H2 (e1.trans g2.fx) (e2.trans g2.hx) g2.fh _ fun xs F3 H3 g3 hxs => ⟨F3, .str z, ds, r, g3.fh, hx.up g3.fx, hxs, hr, fun v F4 H4 g4 hv => q v F4 H4 ((g2.trans g3).trans g4) hv⟩⟩
end
/-! ### more calls -/
section
variable {X : Cx} {K : Fg}
theorem jDivmod (hK : X.K = K := by rfl) : CallR X (.builtin "divmod") (rDn K DivmodD) := by
  subst hK
  refine cn_of call_divmod fun F H xs ds z Q fh hx hR q => ?_
  cases hR with
  | int i j h =>
    obtain ⟨v, w, rfl, hv, hw⟩ := dps2 hx
    cases hv; cases hw
    exact ⟨i, j, rfl, h, fun p hp => q.tup fh (.cons (.int _) (.cons (.int _) .nil)) hp⟩
theorem jAll (hc : X.calm = true) (hK : X.K = K := by rfl) : CallR X (.builtin "all") (rDn K AllD) := by
  subst hK
  refine cn_of (cr_all hc) fun F H xs ds z Q fh hx hR q => ?_
  cases hR with
  | list bs =>
    obtain ⟨v, rfl, hv⟩ := dps1 hx
    cases hv with
    | lst s1 a1 =>
      have e := dps_bools_inv bs a1
      subst e
      exact ⟨_, bs, rfl, ex_l fh s1, q.sc fh rfl⟩
theorem jAny (hc : X.calm = true) (hK : X.K = K := by rfl) : CallR X (.builtin "any") (rDn K AnyD) := by
  subst hK
  refine cn_of (cr_any hc) fun F H xs ds z Q fh hx hR q => ?_
  cases hR with
  | list bs =>
    obtain ⟨v, rfl, hv⟩ := dps1 hx
    cases hv with
    | lst s1 a1 =>
      have e := dps_bools_inv bs a1
      subst e
      exact ⟨_, bs, rfl, ex_l fh s1, q.sc fh rfl⟩
theorem jSum (hc : X.calm = true) (hK : X.K = K := by rfl) : CallR X (.builtin "sum") (rDn K SumD) := by
  subst hK
  refine cn_of (cr_sum hc) fun F H xs ds z Q fh hx hR q => ?_
  cases hR with
  | list ns =>
    obtain ⟨v, rfl, hv⟩ := dps1 hx
    cases hv with
    | lst s1 a1 =>
      have e := dps_ints_inv ns a1
      subst e
      exact ⟨_, ns, rfl, ex_l fh s1, q.sc fh rfl⟩
end
/-! ### texts by their signs -/
theorem str_app (a b : List Nat) : (⟨a.toArray⟩ ++ ⟨b.toArray⟩ : Str) = ⟨(a ++ b).toArray⟩ := by
  show Str.append _ _ = _
  unfold Str.append
  simp
theorem str_len (a : List Nat) : (⟨a.toArray⟩ : Str).length = a.length := by
  unfold Str.length
  simp
end Ly
namespace Ly
open PySem L2 Evl PyProof.Rows
/-! ### calls with keywords, n positional ones ahead, the keywords in the parameters' order -/
def gOf {α : Type} (n : Nat) (us ws : List α) : List α := if us.length = n then us ++ ws else []
section
variable {P : Program} {w : World} {K : Fg} {mg : Str → Option Value} {base : Heap} {k : Nat} {x : Str} {st : Stmt} {ps ks : List Str}
theorem clK {X : Cx} {sp : Sp} {p pos : Pos} {e : Expr} {es : List Expr} {kws : List Keyword} {t tk : TA} {j : Nat} (h : Dk P w K mg base k x ps sp) (D0 : Df K mg x st ps) (hr : Room j X.A) (n m : Nat) (hn : 0 < ps.length) (hnm : n + m = ps.length)
    (hb : ∀ (kV doc pm : Value) (an : Option Addr) (cdv ct : Value) (us ws : List Value), us.length = n → ws.length = m → bindArgs (PySem.W.fnOf x x (defArgs st) (defBody st) (defScope st) .none kV doc pm an cdv ct) ⟨us, ks.zip ws⟩ = pure (ps.zip (us ++ ws)))
    (ha : PA X (e :: es) t) (hkw : PK X kws tk) (hj : k ≤ j := by decide) (hg : Gl X x := by rfl)
    (hP : X.prog = P := by rfl) (hw : X.w = w := by rfl) (hK : X.K = K := by rfl) (hm : X.mg = mg := by rfl) (hB : X.base = base := by rfl)
    (hall : (backToKw pos (keywordEach kws X.env)).all (·.1.isSome) = true := by rfl) (hks : (backToKw pos (keywordEach kws X.env)).filterMap (·.1) = ks := by rfl)
    (hdb : (x == ("__debug__" : Str)) = false := by decide) (he : starEach (e :: es) X.env = (false, eval e X.env) :: starEach es X.env := by rfl)
    (hpl : ((backTo pos (starEach (e :: es) X.env)).any (·.1) || (backToKw pos (keywordEach kws X.env)).any (·.1.isNone)) = false := by rfl) :
    PE X (.Call (.Name x p) (e :: es) kws pos) (tCallK sp (gOf n) E0 t tk) := by
  subst hP hw hK hm hB
  obtain ⟨f, fd, h1, h2, h3, h4, o, l, d⟩ := h.ex
  obtain ⟨f', fd', F, hm', _⟩ := D0.ex
  have e1 := h1.symm.trans hm'
  cases e1
  obtain ⟨o', l', d'⟩ := fun_at F
  have e2 := l.symm.trans l'
  cases e2
  have e3 := d.symm.trans d'
  cases e3
  obtain ⟨oc, od, kV, doc, pm, an, cdv, ct, osl, rfl, lk, hcd⟩ := F.ex
  refine pe_callK h2 (hr.mono hj) hg h1 h3 (g := gOf n) (gV := gOf n) ⟨fun s us ws _ hl => ?_, fun {vs us zs ws} r1 r2 => ?_⟩ pass0 ha hkw hall hks hdb he hpl
  · unfold gOf at hl ⊢
    split at hl
    · rename_i hu
      rw [if_pos hu]
      refine .of_eq (hb kV doc pm an cdv ct us ws hu ?_)
      rw [List.length_append] at hl
      omega
    · rw [List.length_nil] at hl
      omega
  · unfold gOf
    rw [r1.length]
    split
    · exact r1.append r2
    · exact .nil
theorem d_callK {R : List D → D → Prop} {E : XK} {σ : L2.St} {F H : Hp} {ta tk : TA} {n : Nat} {ds es : List D} {r : D} (ha : EvDs K ta σ F H ds) (hk : EvDs K tk σ F H es) (hn : ds.length = n) (hr : R (ds ++ es) r) : EvD K (tCallK (spR K R) (gOf n) E ta tk) σ F H r := fun F1 H1 e1 e2 e3 Q q =>
  ha F1 H1 e1 e2 e3 _ fun xs F2 H2 g2 hx => hk F2 H2 (e1.trans g2.fx) (e2.trans g2.hx) g2.fh _ fun ys F3 H3 g3 hy => by
    show rDn K R (gOf n xs ys) H3 Q
    have e : gOf n xs ys = xs ++ ys := by unfold gOf; rw [if_pos (by rw [hx.length]; exact hn)]
    rw [e]
    exact ⟨F3, ds ++ es, r, g3.fh, (hx.up g3.fx).append hy, hr, fun v F4 H4 g4 hv => q v F4 H4 ((g2.trans g3).trans g4) hv⟩
end
end Ly
/-! LyE: xs[i] += e, sums of tuples. -/
namespace Ly
open PySem L2 Evl PyProof.Rows
/-! ### xs[i] op= e of a list that is one's own -/
def rGetL : V → V → Hp → VK → Prop := fun o i H Q => ∃ (l : Addr) (xs : List V) (n : Nat) (v : V), o = .ref l ∧ i = .int (n : Int) ∧ H l = some (.lst xs) ∧ xs[n]? = some v ∧ Q v H
theorem get_list {X : Cx} : PGet X rGetL := by
  intro pins s σ H o i ov iv Q I ro ri h
  obtain ⟨l, xs, n, v, rfl, rfl, hl, hx, q⟩ := h
  cases ro
  obtain ⟨t, rfl⟩ := ri
  obtain ⟨its, r, pl, hz⟩ := I.list (SqL.of hl)
  obtain ⟨u, hu, ru⟩ := r.get hx
  have hn := (List.getElem?_eq_some_iff.mp hx).1
  have h63 := line63
  exact wpAny_getItem_list pl.isList (Int.natCast_nonneg n) (by omega) (by rw [Int.toNat_natCast]; simpa using hu) ⟨v, H, I, ru, q⟩
section
variable {K : Fg} {σ : L2.St} {F H F0 H0 : Hp} {te ti : TE} {i : Nat} {D' : Ends} {tz : TS}
theorem s_augL {f : Int → Int → Int} {l : Addr} {xs : List V} {n : Nat} {a b : Int} (g : Gr F0 H0 F H) (hl0 : H0 l = none) (fl : F l = none) (hl : H l = some (.lst xs)) (hv : σ[i]? = some (some (.ref l))) (hi : EvD K ti σ F H (.int (n : Int))) (hx : xs[n]? = some (.int a)) (h : EvD K te σ F H (.int b))
    (k : ∀ H2, Gr F0 H0 F H2 → (∀ p o, p ≠ l → H p = some o → H2 p = some o) → H2 l = some (.lst (xs.set n (.int (f a b)))) → D'.nx σ H2) : tAugS (tVar i) ti te rGetL (ipI f) rSetL D' σ H := by
  refine ⟨.ref l, hv, hi F H (Ex.refl F) (Ex.refl H) g.fh _ fun w F2 H2 s2 hw => ?_⟩
  cases hw
  refine ⟨l, xs, n, .int a, rfl, rfl, s2.hx _ _ hl, hx, h F H2 (Ex.refl F) s2.hx (g.fh.trans s2.hx) _ fun w F3 H3 s3 hw => ?_⟩
  cases hw
  have hn := (List.getElem?_eq_some_iff.mp hx).1
  refine ⟨a, b, rfl, rfl, l, xs, (n : Int), n, rfl, rfl, s3.hx _ _ (s2.hx _ _ hl), ixN_nat hn, ?_⟩
  refine k _ (((g.grow s2.hx).grow s3.hx).mut hl0 fl) (fun p o hp ho => ?_) upd_same
  rw [upd_ne hp]
  exact s3.hx p o (s2.hx p o ho)
theorem q_augL {f : Int → Int → Int} {l : Addr} {xs : List V} {n : Nat} {a b : Int} (g : Gr F0 H0 F H) (hl0 : H0 l = none) (fl : F l = none) (hl : H l = some (.lst xs)) (hv : σ[i]? = some (some (.ref l))) (hi : EvD K ti σ F H (.int (n : Int))) (hx : xs[n]? = some (.int a)) (h : EvD K te σ F H (.int b))
    (k : ∀ H2, Gr F0 H0 F H2 → (∀ p o, p ≠ l → H p = some o → H2 p = some o) → H2 l = some (.lst (xs.set n (.int (f a b)))) → tz D' σ H2) : tSeq (tAugS (tVar i) ti te rGetL (ipI f) rSetL) tz D' σ H := s_augL (D' := { D' with nx := tz D' }) g hl0 fl hl hv hi hx h k
end
/-! ### calls that hand out a new list -/
def rNew (K : Fg) (R : List D → List D → Prop) : List V → Hp → VK → Prop := fun vs H Q => ∃ F ds es, Ex F H ∧ DpAll K F vs ds ∧ R ds es ∧ AnsN K F H es Q
inductive ListN : List D → List D → Prop
  | list (ds : List D) : ListN [.list ds] ds
  | tup (ds : List D) : ListN [.tuple ds] ds
theorem AnsN.lst {K : Fg} {F H : Hp} {es : List D} {Q : VK} (q : AnsN K F H es Q) (fh : Ex F H) {vs : List V} (h : DpAll K F vs es) {p : Addr} (hp : H p = none) : Q (.ref p) (upd H p (.lst vs)) :=
  q p vs F _ (Gr.own fh hp) hp (fresh_back fh hp) upd_same h
theorem jListN {X : Cx} {K : Fg} (hK : X.K = K := by rfl) : CallR X (.type "list") (rNew K ListN) := by
  subst hK
  rintro pins s σ H xs us Q I rx ⟨F, ds, es, fh, hx, hR, q⟩
  refine call_list_of pins s σ H xs us Q I rx ?_
  cases hR with
  | list ds =>
    obtain ⟨v, rfl, hv⟩ := dps1 hx
    cases hv with
    | lst s1 a1 => exact ⟨_, _, rfl, .inl (ex_l fh s1), fun p hp => q.lst fh a1 hp⟩
  | tup ds =>
    obtain ⟨v, rfl, hv⟩ := dps1 hx
    cases hv with
    | tup s1 a1 => exact ⟨_, _, rfl, .inr (ex_t fh s1), fun p hp => q.lst fh a1 hp⟩
theorem n_cb {K : Fg} {σ : L2.St} {F H : Hp} {R : List D → List D → Prop} {ta : TA} {ds es : List D} (ha : EvDs K ta σ F H ds) (hr : R ds es) : EvN K (tCB (rNew K R) ta) σ F H es := fun F1 H1 e1 e2 e3 Q q =>
  ha F1 H1 e1 e2 e3 _ fun xs F2 H2 g2 hx => ⟨F2, ds, es, g2.fh, hx, hr, fun p ws F3 H3 g3 hp fp hl ha => q p ws F3 H3 (g2.trans g3) (g2.back hp) fp hl ha⟩
/-! ### sum of a tuple of ints -/
inductive SumTD : List D → D → Prop
  | list (ns : List Int) : SumTD [.list (ns.map PyData.int)] (.int ns.sum)
  | tup (ns : List Int) : SumTD [.tuple (ns.map PyData.int)] (.int ns.sum)
theorem sum_rawT {prog : Program} {w : World} {A : Around} {E : Value → Shared → Prop} {s : Shared} {l : Addr} {its : List Value} {ns : List Int} {Q : Value → Shared → Prop} (hh : A.handled = none) (hl : s.heap.IsTuple l its.toArray) (hi : IntsAre its ns)
    (h : ∀ h' tk t', (∀ b o, s.heap.get? b = some o → h'.get? b = some o) → Q (.int ns.sum t') { s with heap := h', toks := tk }) : wpAny (model prog w) A (call (.builtin "sum") [.ref l]) Q E s := by
  obtain ⟨xs, e⟩ := hi.allInts.items
  have hn : numsOf (intItems xs).toList = ns := by rw [← e]; exact hi.numsOf
  rw [nums_intItems] at hn
  rw [e] at hl
  refine PySem.W.ktm_sumG hh hl fun h' tk t' hk => ?_
  have := h h' tk t' hk
  rw [preSum_eq, List.take_of_length_le (by simp), hn]; exact this
section
variable {X : Cx} {K : Fg}
theorem jSumT (hc : X.calm = true) (hK : X.K = K := by rfl) : CallR X (.builtin "sum") (rDn K SumTD) := by
  subst hK
  rintro pins s σ H xs us Q I rx ⟨F, ds, z, fh, hx, hR, q⟩
  cases hR with
  | list ns =>
    obtain ⟨v, rfl, hv⟩ := dps1 hx
    cases hv with
    | lst s1 a1 =>
      have e := dps_ints_inv ns a1
      subst e
      exact cr_sum hc pins s σ H _ us Q I rx ⟨_, ns, rfl, ex_l fh s1, q.sc fh rfl⟩
  | tup ns =>
    obtain ⟨v, rfl, hv⟩ := dps1 hx
    cases hv with
    | tup s1 a1 =>
      have e := dps_ints_inv ns a1
      subst e
      obtain ⟨its, rv, hl, _⟩ := I.tuple (ex_t fh s1)
      rw [Vals.ref1 rx]
      exact sum_rawT (I.ok.hd hc) hl rv.ints fun h' tk t' hk => ⟨.int _, H, I.kept hk, ⟨_, rfl⟩, q.sc fh rfl⟩
end
end Ly
/-! LyF: ifs that meet again, texts joined. -/
namespace Ly
open PySem L2 Evl PyProof.Rows
section
variable {K : Fg} {σ : L2.St} {F H F0 H0 : Hp} {t : TT} {D' : Ends} {tu tw tz : TS}
/-- an if whose branches meet again in J -/
theorem q_ifJ {b : Bool} (J : L2.St → Hp → Hp → Prop) (g : Gr F0 H0 F H) (h : EvB t σ F H b) (k : ∀ σ' F' H', Gr F0 H0 F' H' → Ex F F' → Ex H H' → J σ' F' H' → tz D' σ' H')
    (h1 : b = true → ∀ H2, Gr F0 H0 F H2 → Ex H H2 → (∀ σ' F' H', Gr F0 H0 F' H' → Ex F F' → Ex H H' → J σ' F' H' → tz D' σ' H') → tu { D' with nx := tz D' } σ H2)
    (h2 : b = false → ∀ H2, Gr F0 H0 F H2 → Ex H H2 → (∀ σ' F' H', Gr F0 H0 F' H' → Ex F F' → Ex H H' → J σ' F' H' → tz D' σ' H') → tw { D' with nx := tz D' } σ H2) : tSeq (tIfS t tu tw) tz D' σ H :=
  q_if g h (fun hb H2 g2 e2 => h1 hb H2 g2 e2 k) fun hb H2 g2 e2 => h2 hb H2 g2 e2 k
end
/-! ### joined signs -/
theorem joinL_one : ∀ cs : List Nat, TL.joinL [] (cs.map fun c => [c]) = cs
  | [] => rfl
  | [c] => rfl
  | c :: d :: r => by
    have h := joinL_one (d :: r)
    show [c] ++ ([] ++ TL.joinL [] ((d :: r).map fun c => [c])) = _
    rw [h]
    rfl
theorem join_signs (cs : List Nat) : Txt.join ⟨#[]⟩ (cs.map fun c => (⟨#[c]⟩ : Str)) = ⟨cs.toArray⟩ := by
  have h := SX.join_S [] (cs.map fun c => [c])
  rw [List.map_map, joinL_one] at h
  exact h
theorem sum_ones : ∀ cs : List Nat, ((cs.map fun c => (⟨#[c]⟩ : Str)).map (·.length)).sum = cs.length
  | [] => rfl
  | c :: r => by
    have h := sum_ones r
    simp only [List.map_cons, List.sum_cons, List.length_cons]
    rw [h]
    show 1 + r.length = r.length + 1
    omega
theorem atI_getN {cs : List Nat} {i : Int} (h0 : 0 ≤ i) (h1 : i < (cs.length : Int)) : atI cs i = some (cs.getD i.toNat 0) := by
  have hj : i.toNat < cs.length := by omega
  have e : i = ((i.toNat : Nat) : Int) := by omega
  have h : cs[i.toNat]? = some (cs.getD i.toNat 0) := by
    rw [List.getElem?_eq_getElem hj, List.getD_eq_getElem?_getD, List.getElem?_eq_getElem hj]
    rfl
  exact (congrArg (atI cs) e).trans (atI_nat h)
end Ly

namespace My
open PySem L2 Evl Ly
/-! ### the walk's words, local -/
local macro_rules | `(tactic| wtm_at "side") => `(tactic| first | assumption | omega | decide | exact rfl | trivial)
local macro_rules | `(tactic| wtm_at "dp") => `(tactic| first | exact Dp.int _ | exact Dp.str _ | exact Dp.bl _ | exact Dp.non | assumption | (refine Dp.up (by assumption) ?_; first | assumption | exact Ex.refl _ | (refine Gr.fx ?_; assumption)))
local macro_rules | `(tactic| wtm_at "rel") => `(tactic| first
  | exact AddD.int _ _ | exact AddD.str _ _ (by wtm_at "side") | exact AddD.tup _ _ (by wtm_at "side") | exact SubD.int _ _
  | exact MulD.int _ _ (.inl ⟨by omega, by omega⟩) | exact MulD.int _ _ (.inr ⟨by omega, by omega⟩)
  | exact DivD.int _ _ ⟨by omega, by omega⟩ | exact DivD.intW _ _ (by assumption) | exact ModD.int _ _ (by wtm_at "side") | exact ShrD.int _ _ (by wtm_at "side") | exact BandD.m31 _
  | exact PowD.int _ _ ⟨by decide, by decide, by decide⟩
  | exact LtD.int _ _ | exact LeD.int _ _ | exact LeD.tup [_, _] [_, _] | exact GtD.int _ _ | exact GeD.int _ _
  | exact EqD.int _ _ | exact EqD.str _ _ | exact EqD.bool _ _ | exact EqD.gen _ _ (by first | rfl | assumption) (by first | rfl | assumption) | exact NeD.int _ _ | exact NeD.str _ _ | exact NeD.bool _ _ | exact NeD.gen _ _ (by first | rfl | assumption) (by first | rfl | assumption)
  | exact IsD.non _ | exact IsD.bool _ _ | exact IsD.bit _ _ | exact NisD.non _ | exact NisD.bool _ _ | exact NisD.bit _ _ | exact NegD.int _
  | exact InD.sign _ _ | exact NinD.sign _ _ | exact InD.list _ _ (by first | rfl | assumption) (by first | rfl | assumption) | exact NinD.list _ _ (by first | rfl | assumption) (by first | rfl | assumption)
  | exact IxD.list _ _ _ (by first | assumption | rfl) | exact IxD.tup _ _ _ (by first | assumption | rfl) | exact IxD.str _ _ _ (by wtm_at "side") (by first | assumption | rfl)
  | exact SlD.list _ _ _ | exact SlD.tup _ _ _ | exact SlD.str _ _ _ (by wtm_at "side")
  | exact LenD.list _ | exact LenD.tup _ | exact LenD.str _ (by wtm_at "side") | exact MaxD.int _ _ | exact MinD.int _ _ | exact IntD.bool _ | exact TupleD.list _ | exact ListN.list _ | exact ListN.tup _
  | exact IndexD.mk _ _ _ _ (by assumption) | exact FindD.mk _ _ | exact JoinD.list _ _ (by wtm_at "side") | exact DivmodD.int _ _ ⟨by omega, by omega⟩ | exact AllD.list _ | exact AnyD.list _ | exact SumTD.list _ | exact SumTD.tup _
  | assumption | (constructor <;> wtm_at "side"))
local macro_rules | `(tactic| wtm_at "ev") => `(tactic| first
  | assumption
  | ((with_reducible apply d_var); exact rfl; wtm_at "dp")
  | ((with_reducible apply d_c); wtm_at "dp")
  | ((with_reducible apply d_op2); wtm_at "ev"; wtm_at "ev"; wtm_at "rel")
  | ((with_reducible apply d_ix); wtm_at "ev"; wtm_at "ev"; wtm_at "rel")
  | ((with_reducible apply d_un); wtm_at "ev"; wtm_at "rel")
  | ((with_reducible apply d_isInt); wtm_at "ev") | ((with_reducible apply d_isBol); wtm_at "ev") | ((with_reducible apply d_isStr); wtm_at "ev") | ((with_reducible apply d_isTup); wtm_at "ev") | ((with_reducible apply d_isLst); wtm_at "ev")
  | ((with_reducible apply EvN.dd); wtm_at "evn")
  | ((with_reducible apply d_cb); wtm_at "evs"; wtm_at "rel")
  | ((with_reducible apply d_bm); wtm_at "ev"; wtm_at "evs"; wtm_at "rel")
  | ((with_reducible apply d_callK); wtm_at "evs"; wtm_at "evs"; exact rfl; wtm_at "rel")
  | ((with_reducible apply d_call); wtm_at "evs"; wtm_at "rel")
  | ((with_reducible apply d_tup); wtm_at "evs"; focus (simp; done)) | ((with_reducible apply d_lst); wtm_at "evs"; focus (simp; done))
  | ((with_reducible apply d_sl); wtm_at "ev"; wtm_at "evi"; wtm_at "evi"; wtm_at "rel")
  | ((with_reducible apply d_chain); wtm_at "ev"; wtm_at "ev"; wtm_at "rel"; (intro _; wtm_at "ev"); (intro _; wtm_at "rel"))
  | ((with_reducible apply d_andV); wtm_at "ev"; (intro _; wtm_at "ev")) | ((with_reducible apply d_orV); wtm_at "ev"; (intro _; wtm_at "ev")) | ((with_reducible apply d_notV); wtm_at "ev")
  | ((with_reducible apply d_if); wtm_at "evb"; (intro _; wtm_at "ev"); (intro _; wtm_at "ev")))
local macro_rules | `(tactic| wtm_at "evs") => `(tactic| first | (with_reducible exact ds_nil) | ((with_reducible apply ds_cons); wtm_at "ev"; wtm_at "evs"))
local macro_rules | `(tactic| wtm_at "evi") => `(tactic| first | (with_reducible exact i_none) | ((with_reducible apply i_some); wtm_at "ev"))
local macro_rules | `(tactic| wtm_at "evb") => `(tactic| first
  | assumption
  | ((with_reducible apply b_var); exact rfl)
  | ((with_reducible apply b_test); wtm_at "ev") | ((with_reducible apply b_B); wtm_at "ev")
  | ((with_reducible apply b_and); wtm_at "evb"; (intro _; wtm_at "evb")) | ((with_reducible apply b_or); wtm_at "evb"; (intro _; wtm_at "evb")) | ((with_reducible apply b_not); wtm_at "evb"))
local macro_rules | `(tactic| wtm_at "evn") => `(tactic| first
  | assumption
  | ((with_reducible apply n_cb); wtm_at "evs"; wtm_at "rel")
  | ((with_reducible apply n_call); wtm_at "evs"; wtm_at "rel")
  | ((with_reducible apply n_lst); wtm_at "evs"; focus (simp; done)))

def top (i : Nat) : Stmt := PySem.Challenge.pw_layersplit_k07_whole_layers_are_free.main.body.getD i (.Pass ⟨0, 0, 0, 0⟩)
abbrev s_place_of : Stmt := top 1
abbrev N_place_of : List Str := ["p", "slope", "point"]
theorem sc_place_of : FnScope N_place_of ["p", "slope", "point"] (defScope s_place_of) := ⟨rfl, rfl, rfl, by decide +kernel, rfl, by decide +kernel, by decide +kernel⟩
abbrev s_part_of : Stmt := top 2
abbrev N_part_of : List Str := ["p", "whole", "factor", "number"]
theorem sc_part_of : FnScope N_part_of ["p", "whole", "factor"] (defScope s_part_of) := ⟨rfl, rfl, rfl, by decide +kernel, rfl, by decide +kernel, by decide +kernel⟩
abbrev s_point_at : Stmt := top 3
abbrev N_point_at : List Str := ["p", "slope", "place", "other", "there", "up"]
theorem sc_point_at : FnScope N_point_at ["p", "slope", "place", "other", "there"] (defScope s_point_at) := ⟨rfl, rfl, rfl, by decide +kernel, rfl, by decide +kernel, by decide +kernel⟩
abbrev s__law_cell_at : Stmt := top 5
abbrev N__law_cell_at : List Str := ["_law_script", "_law_k"]
theorem sc__law_cell_at : FnScope N__law_cell_at ["_law_script", "_law_k"] (defScope s__law_cell_at) := ⟨rfl, rfl, rfl, by decide +kernel, rfl, by decide +kernel, by decide +kernel⟩
abbrev s__law_mixed : Stmt := top 6
abbrev N__law_mixed : List Str := ["_law_script", "_law_k", "_law_salt", "_law_cell", "_law_lap", "_law_near"]
theorem sc__law_mixed : FnScope N__law_mixed ["_law_script", "_law_k", "_law_salt"] (defScope s__law_mixed) := ⟨rfl, rfl, rfl, by decide +kernel, rfl, by decide +kernel, by decide +kernel⟩
abbrev s__law_prime : Stmt := top 7
abbrev N__law_prime : List Str := ["_law_number", "_law_most", "_law_step", "_law_k", "_law_d"]
theorem sc__law_prime : FnScope N__law_prime ["_law_number", "_law_most"] (defScope s__law_prime) := ⟨rfl, rfl, rfl, by decide +kernel, rfl, by decide +kernel, by decide +kernel⟩
abbrev s__law_counts : Stmt := top 8
abbrev N__law_counts : List Str := ["_law_p", "_law_one", "_law_other", "_law_counts_here", "_law_points", "_law_x", "_law_y", "_law_pair", "_law_k"]
theorem sc__law_counts : FnScope N__law_counts ["_law_p", "_law_one", "_law_other"] (defScope s__law_counts) := ⟨rfl, rfl, rfl, by decide +kernel, rfl, by decide +kernel, by decide +kernel⟩
abbrev s__law_free : Stmt := top 9
abbrev N__law_free : List Str := ["_law_p", "_law_one", "_law_other", "_law_found", "_law_place", "_law_there", "_law_many"]
theorem sc__law_free : FnScope N__law_free ["_law_p", "_law_one", "_law_other"] (defScope s__law_free) := ⟨rfl, rfl, rfl, by decide +kernel, rfl, by decide +kernel, by decide +kernel⟩
abbrev s_law : Stmt := top 10
abbrev N_law : List Str := ["_law_script", "_law_p", "_law_k", "_law_slopes"]
theorem sc_law : FnScope N_law ["_law_script"] (defScope s_law) := ⟨rfl, rfl, rfl, by decide +kernel, rfl, by decide +kernel, by decide +kernel⟩
structure G (K : Fg) (mg : Str → Option Value) : Prop where
  b_int : mg "int" = none
  b_len : mg "len" = none
  b_max : mg "max" = none
  b_range : mg "range" = none
  f_place_of : Df K mg "place_of" s_place_of ["p", "slope", "point"]
  f_part_of : Df K mg "part_of" s_part_of ["p", "whole", "factor"]
  f_point_at : Df K mg "point_at" s_point_at ["p", "slope", "place", "other", "there"]
  f__law_cell_at : Df K mg "_law_cell_at" s__law_cell_at ["_law_script", "_law_k"]
  f__law_mixed : Df K mg "_law_mixed" s__law_mixed ["_law_script", "_law_k", "_law_salt"]
  f__law_prime : Df K mg "_law_prime" s__law_prime ["_law_number", "_law_most"]
  f__law_counts : Df K mg "_law_counts" s__law_counts ["_law_p", "_law_one", "_law_other"]
  f__law_free : Df K mg "_law_free" s__law_free ["_law_p", "_law_one", "_law_other"]
  f_law : Df K mg "law" s_law ["_law_script"]
theorem atI_ints {ns : List Int} {i : Int} (h0 : 0 ≤ i) (h1 : i < (ns.length : Int)) : atI (ns.map PyData.int) i = some (.int (ns.getD i.toNat 0)) := by
  have hj : i.toNat < ns.length := by omega
  have e : i = ((i.toNat : Nat) : Int) := by omega
  have h : (ns.map PyData.int)[i.toNat]? = some (.int (ns.getD i.toNat 0)) := by
    rw [List.getElem?_map, List.getElem?_eq_getElem hj, List.getD_eq_getElem?_getD, List.getElem?_eq_getElem hj]
    rfl
  rw [e]
  exact atI_nat h
theorem atI_getD {ds : List D} {i : Int} (h0 : 0 ≤ i) (h1 : i < (ds.length : Int)) : atI ds i = some (ds.getD i.toNat .none) := by
  have hj : i.toNat < ds.length := by omega
  have e : i = ((i.toNat : Nat) : Int) := by omega
  have h : ds[i.toNat]? = some (ds.getD i.toNat .none) := by
    rw [List.getElem?_eq_getElem hj, List.getD_eq_getElem?_getD, List.getElem?_eq_getElem hj]
    rfl
  exact (congrArg (atI ds) e).trans (atI_nat h)
def cellAt (ns : List Int) (k : Int) : Int := if ns.length = 0 then 0 else ns.getD (k % (ns.length : Int)).toNat 0
inductive RCell : List D → D → Prop
  | mk (ns : List Int) (k : Int) (h : ns.length ≤ 63) : RCell [.list (ns.map PyData.int), .int k] (.int (cellAt ns k))
section
variable {P : Program} {w : World} {K : Fg} {mg : Str → Option Value} {base : Heap}
theorem ok__law_cell_at (g : G K mg) : Dk P w K mg base 1 "_law_cell_at" ["_law_script", "_law_k"] (spR K RCell) := by
  refine g.f__law_cell_at.dk sc__law_cell_at (by rintro _ _ ⟨⟩; rfl) fun f cdv A outer s H E hr => ⟨_, (pss_cons (ps_if (pt_cmpR (kEq (room64 hr) (K := K)) (bi (jLen (K := K)) g.b_len (pa_cons (pv 0) pa_nil)) pe_int (nomark _))
    (pss_one (ps_ret pe_int))
    pss_nil)
    (pss_one (ps_ret (pe_ix (kIxU (K := K)) (pv 0) (pe_op (kMod (K := K)) (pv 1) (bi (jLen (K := K)) g.b_len (pa_cons (pv 0) pa_nil))) (fun _ _ => rfl))))), fun vs F0 ds r Q fh ha hR q => ?_⟩
  obtain ⟨ns, k, h⟩ := hR
  obtain ⟨v, w, rfl, hS, hv⟩ := dps2 ha
  cases hv
  have g0 : Gr F0 H F0 H := Gr.refl fh
  obtain ⟨a, rfl⟩ : ∃ a, v = V.ref a := by cases hS; exact ⟨_, rfl⟩
  have hlen : (ns.map PyData.int).length = ns.length := List.length_map ..
  refine q_when g0 (b := decide (((ns.map PyData.int).length : Int) = 0)) (by wtm_at "evb") (fun hb H2 g2 e2 => ?_) fun hb H2 g2 e2 => ?_
  · have hb := of_decide_eq_true hb
    refine s_ret (K := K) g2 (EvD.to (d := .int 0) (by wtm_at "ev") ?_) q
    unfold cellAt
    rw [if_pos (by omega)]
  · have hb := of_decide_eq_false hb
    have hp : 0 < ((ns.map PyData.int).length : Int) := by omega
    have h1 := Int.emod_nonneg k (show ((ns.map PyData.int).length : Int) ≠ 0 by omega)
    have h2 := Int.emod_lt_of_pos k hp
    have hix : atI (ns.map PyData.int) (k % ((ns.map PyData.int).length : Int)) = some (.int (ns.getD (k % ((ns.map PyData.int).length : Int)).toNat 0)) := atI_ints h1 (by rw [hlen] at h2 ⊢; exact h2)
    refine s_ret (K := K) g2 (EvD.to (by wtm_at "ev") ?_) q
    unfold cellAt
    rw [if_neg (by omega), hlen]
def lapOf (ns : List Int) (k : Int) : Int := k / max 1 (ns.length : Int)
def nearOf (ns : List Int) (k s : Int) : Int := (cellAt ns k % 2147483648 + 1009 * k * k + 7919 * s * s + 12) * 48271 % 2147483647
def mixF (ns : List Int) (k s : Int) : Int := (cellAt ns k / 2 ^ (31 * (s + 128 * lapOf ns k)).toNat + nearOf ns k s * nearOf ns k s % 2147483629) % 2147483648
theorem mixF_nn (ns : List Int) (k s : Int) : 0 ≤ mixF ns k s := by unfold mixF; omega
theorem mixF_lt (ns : List Int) (k s : Int) : mixF ns k s < 2147483648 := by unfold mixF; omega
inductive RMix : List D → D → Prop
  | mk (ns : List Int) (k s : Int) (h : ns.length ≤ 63) (hk : 0 ≤ k ∧ k ≤ 1000000) (hs : 0 ≤ s ∧ s ≤ 1000000) : RMix [.list (ns.map PyData.int), .int k, .int s] (.int (mixF ns k s))
theorem dps3 {K : Fg} {F : Hp} {vs : List V} {d e f : D} (h : DpAll K F vs [d, e, f]) : ∃ v w u, vs = [v, w, u] ∧ Dp K F v d ∧ Dp K F w e ∧ Dp K F u f := by
  cases h with
  | cons h1 h2 =>
    obtain ⟨w, u, rfl, hw, hu⟩ := dps2 h2
    exact ⟨_, _, _, rfl, h1, hw, hu⟩
theorem ok__law_mixed (g : G K mg) : Dk P w K mg base 2 "_law_mixed" ["_law_script", "_law_k", "_law_salt"] (spR K RMix) := by
  refine g.f__law_mixed.dk sc__law_mixed (by rintro _ _ ⟨⟩; rfl) fun f cdv A outer s H E hr => ⟨_, (pss_cons (ps_set (i := 3) sc__law_mixed.nd rfl (Or.inl rfl) (cl (ok__law_cell_at g) hr (pa_cons (pv 0) (pa_cons (pv 1) pa_nil))))
    (pss_cons (ps_set (i := 4) sc__law_mixed.nd rfl (Or.inl rfl) (pe_op (kDiv (K := K)) (pv 1) (bi (jMax rfl (K := K)) g.b_max (pa_cons pe_int (pa_cons (bi (jLen (K := K)) g.b_len (pa_cons (pv 0) pa_nil)) pa_nil)))))
    (pss_cons (ps_set (i := 5) sc__law_mixed.nd rfl (Or.inl rfl) (pe_op (kAdd (K := K)) (pe_op (kAdd (K := K)) (pe_op (kAdd (K := K)) (pe_op (kBand (K := K)) (pv 3) pe_int) (pe_op (kMul (K := K)) (pe_op (kMul (K := K)) pe_int (pv 1)) (pv 1))) (pe_op (kMul (K := K)) (pe_op (kMul (K := K)) pe_int (pv 2)) (pv 2))) pe_int))
    (pss_cons (ps_set (i := 5) sc__law_mixed.nd rfl (Or.inl rfl) (pe_op (kMod (K := K)) (pe_op (kMul (K := K)) (pv 5) pe_int) pe_int))
    (pss_one (ps_ret (pe_op (kBand (K := K)) (pe_op (kAdd (K := K)) (pe_op (kShr (K := K)) (pv 3) (pe_op (kMul (K := K)) pe_int (pe_op (kAdd (K := K)) (pv 2) (pe_op (kMul (K := K)) pe_int (pv 4))))) (pe_op (kMod (K := K)) (pe_op (kMul (K := K)) (pv 5) (pv 5)) pe_int)) pe_int))))))), fun vs F0 ds r Q fh ha hR q => ?_⟩
  obtain ⟨ns, k, s, h, hk, hs⟩ := hR
  obtain ⟨v, w, u, rfl, hS, hv, hu⟩ := dps3 ha
  cases hv; cases hu
  have g0 : Gr F0 H F0 H := Gr.refl fh
  obtain ⟨a, rfl⟩ : ∃ a, v = V.ref a := by cases hS; exact ⟨_, rfl⟩
  have hlen : (ns.map PyData.int).length = ns.length := List.length_map ..
  refine q_setV (K := K) g0 (by wtm_at "ev") rfl fun H1 g1 e1 => ?_
  refine q_setV (K := K) g1 (by wtm_at "ev") rfl fun H2 g2 e2 => ?_
  refine q_setV (K := K) g2 (by wtm_at "ev") rfl fun H3 g3 e3 => ?_
  refine q_setV (K := K) g3 (by wtm_at "ev") rfl fun H4 g4 e4 => ?_
  have hl0 : 0 ≤ k / max 1 (((ns.map PyData.int).length : Nat) : Int) := Int.ediv_nonneg hk.1 (by omega)
  refine s_ret (K := K) g4 (EvD.to (by wtm_at "ev") ?_) q
  unfold mixF nearOf lapOf
  rw [hlen]
end
/-! data of ints -/
theorem lay_ints : ∀ ns : List Int, PyData.canLayAll0 (ns.map PyData.int) = true
  | [] => by simp [PyData.canLayAll0]
  | z :: zs => by simp [PyData.canLayAll0, PyData.canLay0, lay_ints zs]
theorem dep_ints : ∀ ns : List Int, PyData.depthAll (ns.map PyData.int) ≤ 1
  | [] => by simp [PyData.depthAll]
  | z :: zs => by
    have h1 := dep_ints zs
    simp only [List.map_cons, PyData.depthAll, PyData.depth]
    omega
theorem shaped_tints (ns : List Int) : SeqAt.shaped (.tuple (ns.map PyData.int)) = true := by
  have h1 := dep_ints ns
  show (PyData.canLay0 (.tuple (ns.map PyData.int)) && decide (PyData.depth (.tuple (ns.map PyData.int)) ≤ 64)) = true
  rw [Bool.and_eq_true]
  exact ⟨by simp only [PyData.canLay0]; exact lay_ints ns, decide_eq_true (by simp only [PyData.depth]; omega)⟩
theorem eqv_ints : ∀ ns : List Int, PyData.eqvAll (ns.map PyData.int) (ns.map PyData.int) = true
  | [] => rfl
  | z :: zs => by simp [PyData.eqvAll, PyData.eqv, eqv_ints zs]
theorem eqv_tints (ns : List Int) : PyData.eqv (.tuple (ns.map PyData.int)) (.tuple (ns.map PyData.int)) = true := eqv_ints ns

/-! ### _law_prime -/
def divs (k : Int) : D → Bool
  | .int z => decide (z < k) && decide (k % z = 0)
  | _ => false
def good (k : Int) : Bool := decide (((((rangeD 2 30).filter (divs k)).map id).length : Int) = 0)
def cand (n m : Int) (i : Nat) : Int := 2 + (n + (i : Int)) % (m - 1)
/-- the first that is good, from the i-th on, j of them -/
def seekP (n m : Int) : Nat → Nat → Int
  | _, 0 => 2
  | i, j + 1 => if good (cand n m i) = true then cand n m i else seekP n m (i + 1) j
def primeF (n m : Int) : Int := seekP n m 0 m.toNat
inductive RPrime : List D → D → Prop
  | mk (n m : Int) (h : 0 ≤ n) (hm : 2 ≤ m ∧ m ≤ 1000) : RPrime [.int n, .int m] (.int (primeF n m))
theorem seekP_step {n m : Int} {i j : Nat} (h : good (cand n m i) = false) : seekP n m i (j + 1) = seekP n m (i + 1) j := by
  show (if good (cand n m i) = true then _ else _) = _
  rw [if_neg (by rw [h]; decide)]
theorem seekP_here {n m : Int} {i j : Nat} (h : good (cand n m i) = true) : seekP n m i (j + 1) = cand n m i := by
  show (if good (cand n m i) = true then _ else _) = _
  rw [if_pos h]
section
variable {P : Program} {w : World} {K : Fg} {mg : Str → Option Value} {base : Heap}
theorem ok__law_prime (g : G K mg) : Dk P w K mg base 1 "_law_prime" ["_law_number", "_law_most"] (spR K RPrime) := by
  refine g.f__law_prime.dk sc__law_prime (by rintro _ _ ⟨⟩; rfl) fun f cdv A outer s H E hr => ⟨_, (pss_cons (ps_for PassesOwn.never rfl (pi_range1 (by rfl) g.b_range (pa_cons (pv 1) pa_nil)) (pg_name (i := 2) sc__law_prime.nd rfl (Or.inl rfl))
    (pss_cons (ps_set (i := 3) sc__law_prime.nd rfl (Or.inr rfl) (pe_op (kAdd (K := K)) pe_int (pe_op (kMod (K := K)) (pe_op (kAdd (K := K)) (pv 0) (pv 2)) (pe_op (kSub (K := K)) (pv 1) pe_int))))
    (pss_one (ps_if (pt_cmpR (kEq (room64 hr) (K := K)) (bi (jLen (K := K)) g.b_len (pa_cons (pe_lc (own := [("_law_d", 4)]) (g := gName 4) rfl sc__law_prime.nd (pi_range2 (by rfl) g.b_range (pa_cons pe_int (pa_cons pe_int pa_nil))) (blkOk_by (own := [("_law_d", 4)]) (N := N__law_prime) (sc := defScope s__law_prime) (by decide +kernel)) (fun _ _ _ _ _ => (pg_name (i := 4) sc__law_prime.nd rfl (Or.inl rfl))) (fun _ _ _ _ _ => (pts_one (PW.pt (pw_and (pt_cmpR (kLt (K := K)) (pv 4) (pv 3) (nomark _)) (pw_and1 (pt_cmpR (kEq (room64 hr) (K := K)) (pe_op (kMod (K := K)) (pv 3) (pv 4)) pe_int (nomark _))))))) (fun _ _ _ _ _ => (pv 4))) pa_nil)) pe_int (nomark _))
    (pss_one (ps_ret (pv 3)))
    pss_nil))))
    (pss_one (ps_ret pe_int))), fun vs F0 ds r Q fh ha hR q => ?_⟩
  obtain ⟨n, m, h, hm⟩ := hR
  obtain ⟨v, w, rfl, hv, hw⟩ := dps2 ha
  cases hv; cases hw
  have g0 : Gr F0 H F0 H := Gr.refl fh
  refine q_forR (K := K) g0 (by wtm_at "evs") (by omega) (by omega) (fun i σ' F' H' => ∃ y2 y3 y4, σ' = [some (.int n), some (.int m), y2, y3, y4] ∧ primeF n m = seekP n m i (m.toNat - i)) (fun H2 _ _ => ⟨none, none, none, rfl, rfl⟩) (fun i σ' F' H' hi g' e' hp => ?_) fun σ' F' H' g' e' hp => ?_
  · obtain ⟨y2, y3, y4, rfl, hall⟩ := hp
    refine q_setV (K := K) g' (by wtm_at "ev") rfl fun H4 g4 e4 => ?_
    have ec : (2 : Int) + (n + (i : Int)) % (m - 1) = cand n m i := rfl
    rw [ec]
    have hc : 2 ≤ cand n m i ∧ cand n m i ≤ m := by
      unfold cand
      have h1 := Int.emod_nonneg (n + (i : Int)) (show m - 1 ≠ 0 by omega)
      have h2 := Int.emod_lt_of_pos (n + (i : Int)) (show 0 < m - 1 by omega)
      omega
    have ej : m.toNat - i = (m.toNat - (i + 1)) + 1 := by omega
    rw [ej] at hall
    refine s_when g4 (b := good (cand n m i)) ?_ (fun hb H5 g5 e5 => ?_) fun hb H5 g5 e5 => ?_
    · apply b_test
      apply d_op2
      · apply d_cb
        · apply ds_cons
          · refine (n_lc (w_range2 (lo := 2) (n := 32) (by wtm_at "evs") (by omega)) (by decide) (divs (cand n m i)) id (fun _ => rfl) (fun d x F' H' hm' a b c hx => ?_) (fun d x F' H' hm' _ a b c hx => d_var rfl hx)).dd
            obtain ⟨z, hz, rfl⟩ := rangeD_mem hm'
            cases hx
            exact EvB.to (by wtm_at "evb") (by rfl)
          · exact ds_nil
        · exact .list _
      · wtm_at "ev"
      · exact .int _ _
    · rw [seekP_here hb] at hall
      exact s_ret (K := K) g5 (EvD.to (by wtm_at "ev") (by rw [hall])) q
    · rw [seekP_step hb] at hall
      exact ⟨F', g5, e', _, _, _, rfl, hall⟩
  · obtain ⟨y2, y3, y4, rfl, hall⟩ := hp
    rw [Nat.sub_self] at hall
    exact s_ret (K := K) g' (EvD.to (d := .int 2) (by wtm_at "ev") (by rw [hall]; rfl)) q
end
/-! what it gives -/
theorem cand_bd {n m : Int} {i : Nat} (hm : 2 ≤ m) : 2 ≤ cand n m i ∧ cand n m i ≤ m := by
  unfold cand
  have h1 := Int.emod_nonneg (n + (i : Int)) (show m - 1 ≠ 0 by omega)
  have h2 := Int.emod_lt_of_pos (n + (i : Int)) (show 0 < m - 1 by omega)
  omega
theorem seekP_bd {n m : Int} (hm : 2 ≤ m) : ∀ (j i : Nat), 2 ≤ seekP n m i j ∧ seekP n m i j ≤ m
  | 0, i => ⟨by show (2 : Int) ≤ 2; omega, hm⟩
  | j + 1, i => by
    cases h : good (cand n m i) with
    | true => rw [seekP_here h]; exact cand_bd hm
    | false => rw [seekP_step h]; exact seekP_bd hm j (i + 1)
theorem primeF_bd {n m : Int} (hm : 2 ≤ m) : 2 ≤ primeF n m ∧ primeF n m ≤ m := seekP_bd hm _ _

/-! ### primes, by no divisor below 32 -/
def IsP (p : Int) : Prop := 2 ≤ p ∧ p ≤ 997 ∧ ∀ d : Int, 2 ≤ d → d < 32 → d < p → p % d ≠ 0
theorem good_isP {p : Int} (h : good p = true) (h2 : 2 ≤ p) (h9 : p ≤ 997) : IsP p := by
  refine ⟨h2, h9, fun d hd hd2 hdp h0 => ?_⟩
  have h1 := of_decide_eq_true h
  rw [List.length_map] at h1
  have hm : PyData.int d ∈ rangeD 2 30 := by
    unfold rangeD
    exact List.mem_map.mpr ⟨(d - 2).toNat, List.mem_range.mpr (by omega), by
      have : (2 : Int) + (((d - 2).toNat : Nat) : Int) = d := by omega
      rw [this]⟩
  have hf : PyData.int d ∈ (rangeD 2 30).filter (divs p) := by
    refine List.mem_filter.mpr ⟨hm, ?_⟩
    show (decide (d < p) && decide (p % d = 0)) = true
    rw [decide_eq_true hdp, decide_eq_true h0]
    rfl
  have := List.length_pos_of_mem hf
  omega
theorem good_two : good 2 = true := by decide +kernel
theorem seekP_good {n m : Int} : ∀ (j i : Nat), good (seekP n m i j) = true
  | 0, i => good_two
  | j + 1, i => by
    cases h : good (cand n m i) with
    | true => rw [seekP_here h]; exact h
    | false => rw [seekP_step h]; exact seekP_good j (i + 1)
theorem primeF_isP {n m : Int} (hm : 2 ≤ m) (h9 : m ≤ 997) : IsP (primeF n m) :=
  good_isP (seekP_good _ _) (primeF_bd hm).1 (by have := (primeF_bd (n := n) hm).2; omega)
theorem bez : ∀ a b : Nat, ∃ x y : Int, (a : Int) * x + (b : Int) * y = ((Nat.gcd a b : Nat) : Int) := fun a b => by
  induction a, b using Nat.gcd.induction with
  | H0 b => exact ⟨0, 1, by rw [Nat.gcd_zero_left]; omega⟩
  | H1 a b ha ih =>
    obtain ⟨x, y, h⟩ := ih
    refine ⟨y - ((b / a : Nat) : Int) * x, x, ?_⟩
    rw [Nat.gcd_rec a b, ← h]
    have e : ((b % a : Nat) : Int) = (b : Int) - (a : Int) * ((b / a : Nat) : Int) := by
      have := Nat.mod_add_div b a
      have e2 : ((b % a + a * (b / a) : Nat) : Int) = (b : Int) := by rw [this]
      rw [Int.natCast_add, Int.natCast_mul] at e2
      omega
    rw [e, Int.mul_sub, Int.sub_mul, ← Int.mul_assoc]
    omega
theorem isP_gcd {p : Int} (hp : IsP p) {c : Nat} (h0 : 0 < c) (h1 : (c : Int) < p) : Nat.gcd c p.toNat = 1 := by
  obtain ⟨h2, h9, hd⟩ := hp
  obtain ⟨P, rfl⟩ : ∃ P : Nat, p = (P : Int) := ⟨p.toNat, by omega⟩
  rw [Int.toNat_natCast]
  generalize hg : Nat.gcd c P = g
  have g1 : g ∣ c := hg ▸ Nat.gcd_dvd_left c P
  have g2 : g ∣ P := hg ▸ Nat.gcd_dvd_right c P
  have gle : g ≤ c := Nat.le_of_dvd h0 g1
  have g0 : 0 < g := Nat.pos_of_dvd_of_pos g1 h0
  obtain ⟨k, hk⟩ := g2
  by_cases hg1 : g = 1
  · exact hg1
  · exfalso
    have dv : ∀ d : Nat, 2 ≤ d → d < 32 → d < P → d ∣ P → False := fun d a b c' e => hd (d : Int) (by omega) (by omega) (by omega) (by
      have := Nat.mod_eq_zero_of_dvd e
      omega)
    by_cases h32 : g < 32
    · exact dv g (by omega) h32 (by omega) ⟨k, hk⟩
    · have hk1 : 2 ≤ k := by
        rcases Nat.lt_or_ge k 2 with q | q
        · have : k = 0 ∨ k = 1 := by omega
          rcases this with q | q
          · subst q; omega
          · subst q; omega
        · exact q
      have hk2 : k < 32 := by
        rcases Nat.lt_or_ge k 32 with q | q
        · exact q
        · have := Nat.mul_le_mul (show 32 ≤ g by omega) q
          omega
      have hkP : k < P := by
        have := Nat.mul_le_mul (show 2 ≤ g by omega) (Nat.le_refl k)
        omega
      exact dv k hk1 hk2 hkP ⟨g, by rw [Nat.mul_comm]; exact hk⟩
/-- c has an inverse -/
theorem isP_inv {p : Int} (hp : IsP p) {c : Int} (h0 : c % p ≠ 0) : ∃ x, (c * x - 1) % p = 0 := by
  have h2 := hp.1
  have r0 := Int.emod_nonneg c (show p ≠ 0 by omega)
  have r1 := Int.emod_lt_of_pos c (show 0 < p by omega)
  obtain ⟨x, y, h⟩ := bez (c % p).toNat p.toNat
  rw [isP_gcd hp (by omega) (by omega)] at h
  rw [show (((c % p).toNat : Nat) : Int) = c % p by omega, show ((p.toNat : Nat) : Int) = p by omega] at h
  refine ⟨x, ?_⟩
  have e1 := Int.emod_add_mul_ediv c p
  have e2 : c * x - 1 = p * (c / p * x - y) := by
    have : c * x = (c % p + p * (c / p)) * x := by rw [e1]
    rw [this, Int.add_mul, Int.mul_sub, Int.mul_assoc p]
    omega
  rw [e2]
  exact Int.mul_emod_right p _
theorem em_mul {p a : Int} (k : Int) (h : a % p = 0) : (a * k) % p = 0 := by
  rw [Int.mul_emod, h, Int.zero_mul, Int.zero_emod]
theorem em_mul' {p a : Int} (k : Int) (h : a % p = 0) : (k * a) % p = 0 := by rw [Int.mul_comm]; exact em_mul k h
theorem em_add {p a b : Int} (h : a % p = 0) (h' : b % p = 0) : (a + b) % p = 0 := by
  rw [Int.add_emod, h, h', Int.add_zero, Int.zero_emod]
theorem em_neg {p a : Int} (h : a % p = 0) : (-a) % p = 0 := by
  have := em_mul (-1) h
  rw [Int.mul_neg, Int.mul_one] at this
  exact this
theorem em_sub {p a b : Int} (h : a % p = 0) (h' : b % p = 0) : (a - b) % p = 0 := by
  rw [Int.sub_eq_add_neg]
  exact em_add h (em_neg h')
theorem em_self (p : Int) (k : Int) : (p * k) % p = 0 := Int.mul_emod_right p k
theorem em_rest (p a : Int) : (a % p - a) % p = 0 := by
  have h := Int.emod_add_mul_ediv a p
  have e : a % p - a = p * (-(a / p)) := by rw [Int.mul_neg]; omega
  rw [e]
  exact em_self p _
/-- two of the same rest -/
theorem em_eq {p a b : Int} (hp : 0 < p) (h : (a - b) % p = 0) (a0 : 0 ≤ a) (a1 : a < p) (b0 : 0 ≤ b) (b1 : b < p) : a = b := by
  have h1 := Int.emod_add_mul_ediv (a - b) p
  rw [h] at h1
  have hq : (a - b) / p = 0 := by
    rcases Int.lt_or_lt_of_ne (a := (a - b) / p) (b := 0) |> fun _ => Int.lt_trichotomy ((a - b) / p) 0 with q | q | q
    · have := Int.mul_le_mul_of_nonneg_left (show (a - b) / p ≤ -1 by omega) (show 0 ≤ p by omega)
      omega
    · exact q
    · have := Int.mul_le_mul_of_nonneg_left (show 1 ≤ (a - b) / p by omega) (show 0 ≤ p by omega)
      omega
  rw [hq] at h1
  omega
theorem em_cong {p a b : Int} (h : (a - b) % p = 0) : a % p = b % p := by
  have h1 := Int.emod_add_mul_ediv (a - b) p
  rw [h] at h1
  have e : a = b + p * ((a - b) / p) := by omega
  rw [e, Int.add_mul_emod_self_left]
/-- a factor that is none of nought may be dropped -/
theorem isP_drop {p : Int} (hp : IsP p) {c a : Int} (h0 : c % p ≠ 0) (h : (c * a) % p = 0) : a % p = 0 := by
  obtain ⟨x, hx⟩ := isP_inv hp h0
  have h1 : (c * a * x) % p = 0 := em_mul x h
  have h2 : ((c * x - 1) * a) % p = 0 := em_mul a hx
  have h3 := em_sub h1 h2
  have e : c * a * x - (c * x - 1) * a = a := by
    rw [Int.sub_mul, Int.one_mul, Int.mul_right_comm c a x]
    omega
  rw [e] at h3
  exact h3
/-! ### the number that comes to w -/
def seekQ (p w c : Int) : Nat → Nat → Int
  | _, 0 => 0
  | i, j + 1 => if (c * (i : Int) - w) % p = 0 then (i : Int) else seekQ p w c (i + 1) j
def partF (p w c : Int) : Int := seekQ p w c 0 p.toNat
theorem seekQ_succ (p w c : Int) (i j : Nat) : seekQ p w c i (j + 1) = if (c * (i : Int) - w) % p = 0 then (i : Int) else seekQ p w c (i + 1) j := rfl
theorem seekQ_bd {p w c : Int} : ∀ (j i : Nat), 0 ≤ seekQ p w c i j ∧ (seekQ p w c i j < (i : Int) + (j : Int) ∨ seekQ p w c i j = 0)
  | 0, i => ⟨Int.le_refl _, .inr rfl⟩
  | j + 1, i => by
    rw [seekQ_succ]
    split
    · omega
    · have := seekQ_bd (p := p) (w := w) (c := c) j (i + 1)
      omega
theorem partF_bd {p w c : Int} (hp : 0 < p) : 0 ≤ partF p w c ∧ partF p w c < p := by
  have := seekQ_bd (p := p) (w := w) (c := c) p.toNat 0
  unfold partF
  omega
theorem seekQ_ok {p w c : Int} : ∀ (j i n : Nat), i ≤ n → n < i + j → (c * (n : Int) - w) % p = 0 → (c * seekQ p w c i j - w) % p = 0
  | 0, i, n, h1, h2, _ => by omega
  | j + 1, i, n, h1, h2, h => by
    rw [seekQ_succ]
    split
    · assumption
    · rename_i hn
      refine seekQ_ok j (i + 1) n ?_ (by omega) h
      rcases Nat.lt_or_ge i n with q | q
      · exact q
      · have : i = n := by omega
        subst this
        exact absurd h hn
theorem partF_ok {p w c : Int} (hp : IsP p) (hc : c % p ≠ 0) : (c * partF p w c - w) % p = 0 := by
  have h2 := hp.1
  obtain ⟨x, hx⟩ := isP_inv hp hc
  have r0 := Int.emod_nonneg (x * w) (show p ≠ 0 by omega)
  have r1 := Int.emod_lt_of_pos (x * w) (show 0 < p by omega)
  refine seekQ_ok p.toNat 0 (x * w % p).toNat (Nat.zero_le _) (by omega) ?_
  rw [show (((x * w % p).toNat : Nat) : Int) = x * w % p by omega]
  have h3 := em_mul' c (em_rest p (x * w))
  have h4 := em_mul w hx
  have h5 := em_add h3 h4
  have e : c * (x * w % p - x * w) + (c * x - 1) * w = c * (x * w % p) - w := by
    rw [Int.mul_sub, Int.sub_mul, Int.one_mul, ← Int.mul_assoc c x w]
    omega
  rw [e] at h5
  exact h5
/-! ### places and points -/
def placeF (p s x y : Int) : Int := if s = p then y else (x + s * y) % p
def pointF (p s a t b : Int) : Int × Int :=
  if s = p then ((b - t * a) % p, a) else if t = p then ((a - s * b) % p, b) else ((a - s * partF p (a - b) (s - t)) % p, partF p (a - b) (s - t))
theorem placeF_bd {p s x y : Int} (hp : 0 < p) (hy : 0 ≤ y ∧ y < p) : 0 ≤ placeF p s x y ∧ placeF p s x y < p := by
  unfold placeF
  split
  · exact hy
  · exact ⟨Int.emod_nonneg _ (by omega), Int.emod_lt_of_pos _ hp⟩
theorem slope_ne {p s t : Int} (hs : 0 ≤ s ∧ s < p) (ht : 0 ≤ t ∧ t < p) (h : s ≠ t) : (s - t) % p ≠ 0 := fun q => h (em_eq (by omega) q hs.1 hs.2 ht.1 ht.2)
structure Two (p s t : Int) : Prop where
  pr : IsP p
  hs : 0 ≤ s ∧ s ≤ p
  ht : 0 ≤ t ∧ t ≤ p
  ne : s ≠ t
theorem pointF_bd {p s a t b : Int} (T : Two p s t) (ha : 0 ≤ a ∧ a < p) (hb : 0 ≤ b ∧ b < p) : (0 ≤ (pointF p s a t b).1 ∧ (pointF p s a t b).1 < p) ∧ 0 ≤ (pointF p s a t b).2 ∧ (pointF p s a t b).2 < p := by
  have h2 := T.pr.1
  have m : ∀ z : Int, 0 ≤ z % p ∧ z % p < p := fun z => ⟨Int.emod_nonneg _ (by omega), Int.emod_lt_of_pos _ (by omega)⟩
  unfold pointF
  split
  · exact ⟨m _, ha⟩
  · split
    · exact ⟨m _, hb⟩
    · exact ⟨m _, partF_bd (by omega)⟩
/-- the place, from x = (a - s * y) % p -/
theorem place_back {p s a y : Int} (hs : s ≠ p) (hp : 0 < p) (ha : 0 ≤ a ∧ a < p) : placeF p s ((a - s * y) % p) y = a := by
  unfold placeF
  rw [if_neg hs]
  refine em_eq hp ?_ (Int.emod_nonneg _ (by omega)) (Int.emod_lt_of_pos _ hp) ha.1 ha.2
  have h1 := em_rest p ((a - s * y) % p + s * y)
  have h2 := em_rest p (a - s * y)
  have h3 := em_add h1 h2
  have e : ((a - s * y) % p + s * y) % p - ((a - s * y) % p + s * y) + ((a - s * y) % p - (a - s * y)) = ((a - s * y) % p + s * y) % p - a := by omega
  rw [e] at h3
  exact h3
theorem pointF_places {p s a t b : Int} (T : Two p s t) (ha : 0 ≤ a ∧ a < p) (hb : 0 ≤ b ∧ b < p) :
    placeF p s (pointF p s a t b).1 (pointF p s a t b).2 = a ∧ placeF p t (pointF p s a t b).1 (pointF p s a t b).2 = b := by
  have h2 := T.pr.1
  have hp : 0 < p := by omega
  unfold pointF
  by_cases h1 : s = p
  · rw [if_pos h1]
    exact ⟨by show placeF p s ((b - t * a) % p) a = a; unfold placeF; rw [if_pos h1], place_back (fun z => T.ne (by rw [z, h1])) hp hb⟩
  · rw [if_neg h1]
    by_cases h3 : t = p
    · rw [if_pos h3]
      exact ⟨place_back h1 hp ha, by show placeF p t ((a - s * b) % p) b = b; unfold placeF; rw [if_pos h3]⟩
    · rw [if_neg h3]
      refine ⟨place_back h1 hp ha, ?_⟩
      have hs := T.hs
      have ht := T.ht
      have ok := partF_ok (w := a - b) T.pr (slope_ne (p := p) (s := s) (t := t) ⟨hs.1, by omega⟩ ⟨ht.1, by omega⟩ T.ne)
      show placeF p t ((a - s * partF p (a - b) (s - t)) % p) (partF p (a - b) (s - t)) = b
      generalize partF p (a - b) (s - t) = u at ok ⊢
      unfold placeF
      rw [if_neg h3]
      refine em_eq hp ?_ (Int.emod_nonneg _ (by omega)) (Int.emod_lt_of_pos _ hp) hb.1 hb.2
      have q1 := em_rest p ((a - s * u) % p + t * u)
      have q2 := em_rest p (a - s * u)
      have q3 := em_sub (em_add q1 q2) ok
      have e : ((a - s * u) % p + t * u) % p - ((a - s * u) % p + t * u) + ((a - s * u) % p - (a - s * u)) - ((s - t) * u - (a - b)) = ((a - s * u) % p + t * u) % p - b := by
        rw [Int.sub_mul]
        omega
      rw [e] at q3
      exact q3
/-- no two points have the same two places -/
theorem places_inj {p s t x y x' y' : Int} (T : Two p s t) (hx : 0 ≤ x ∧ x < p) (hy : 0 ≤ y ∧ y < p) (hx' : 0 ≤ x' ∧ x' < p) (hy' : 0 ≤ y' ∧ y' < p)
    (h1 : placeF p s x y = placeF p s x' y') (h2 : placeF p t x y = placeF p t x' y') : x = x' ∧ y = y' := by
  have h0 := T.pr.1
  have hp : 0 < p := by omega
  have dif : ∀ r : Int, r ≠ p → placeF p r x y = placeF p r x' y' → ((x - x') + r * (y - y')) % p = 0 := fun r hr h => by
    unfold placeF at h
    rw [if_neg hr, if_neg hr] at h
    have q1 := em_rest p (x + r * y)
    have q2 := em_rest p (x' + r * y')
    have q3 := em_sub q2 q1
    have e : (x' + r * y') % p - (x' + r * y') - ((x + r * y) % p - (x + r * y)) = (x - x') + r * (y - y') := by
      rw [h, Int.mul_sub]
      omega
    rw [e] at q3
    exact q3
  have fromY : y = y' → ∀ r : Int, r ≠ p → placeF p r x y = placeF p r x' y' → x = x' := fun ey r hr h => by
    have q := dif r hr h
    rw [ey, Int.sub_self, Int.mul_zero, Int.add_zero] at q
    exact em_eq hp q hx.1 hx.2 hx'.1 hx'.2
  by_cases e1 : s = p
  · have ey : y = y' := by unfold placeF at h1; rw [if_pos e1, if_pos e1] at h1; exact h1
    exact ⟨fromY ey t (fun z => T.ne (by rw [z, e1])) h2, ey⟩
  · by_cases e2 : t = p
    · have ey : y = y' := by unfold placeF at h2; rw [if_pos e2, if_pos e2] at h2; exact h2
      exact ⟨fromY ey s e1 h1, ey⟩
    · have q := em_sub (dif s e1 h1) (dif t e2 h2)
      have e : (x - x') + s * (y - y') - ((x - x') + t * (y - y')) = (s - t) * (y - y') := by
        rw [Int.sub_mul]
        omega
      rw [e] at q
      have hs := T.hs
      have ht := T.ht
      have q2 := isP_drop T.pr (slope_ne (p := p) (s := s) (t := t) ⟨hs.1, by omega⟩ ⟨ht.1, by omega⟩ T.ne) q
      have ey := em_eq hp q2 hy.1 hy.2 hy'.1 hy'.2
      exact ⟨fromY ey s e1 h1, ey⟩

/-! ### part_of, point_at -/
inductive RPart : List D → D → Prop
  | mk (p w c : Int) (hp : 0 < p ∧ p ≤ 1000) : RPart [.int p, .int w, .int c] (.int (partF p w c))
theorem dps4 {K : Fg} {F : Hp} {vs : List V} {d e f h : D} (hh : DpAll K F vs [d, e, f, h]) : ∃ v w u x, vs = [v, w, u, x] ∧ Dp K F v d ∧ Dp K F w e ∧ Dp K F u f ∧ Dp K F x h := by
  cases hh with
  | cons h1 h2 =>
    obtain ⟨w, u, x, rfl, hw, hu, hx⟩ := dps3 h2
    exact ⟨_, _, _, _, rfl, h1, hw, hu, hx⟩
theorem dps5 {K : Fg} {F : Hp} {vs : List V} {d e f h k : D} (hh : DpAll K F vs [d, e, f, h, k]) : ∃ v w u x y, vs = [v, w, u, x, y] ∧ Dp K F v d ∧ Dp K F w e ∧ Dp K F u f ∧ Dp K F x h ∧ Dp K F y k := by
  cases hh with
  | cons h1 h2 =>
    obtain ⟨w, u, x, y, rfl, hw, hu, hx, hy⟩ := dps4 h2
    exact ⟨_, _, _, _, _, rfl, h1, hw, hu, hx, hy⟩
section
variable {P : Program} {w : World} {K : Fg} {mg : Str → Option Value} {base : Heap}
theorem ok_part_of (g : G K mg) : Dk P w K mg base 1 "part_of" ["p", "whole", "factor"] (spR K RPart) := by
  refine g.f_part_of.dk sc_part_of (by rintro _ _ ⟨⟩; rfl) fun f cdv A outer s H E hr => ⟨_, (pss_cons (ps_for PassesOwn.never rfl (pi_range1 (by rfl) g.b_range (pa_cons (pv 0) pa_nil)) (pg_name (i := 3) sc_part_of.nd rfl (Or.inl rfl))
    (pss_one (ps_if (pt_cmpR (kEq (room64 hr) (K := K)) (pe_op (kMod (K := K)) (pe_op (kSub (K := K)) (pe_op (kMul (K := K)) (pv 2) (pv 3)) (pv 1)) (pv 0)) pe_int (nomark _))
    (pss_one (ps_ret (pv 3)))
    pss_nil)))
    (pss_one (ps_ret pe_int))), fun vs F0 ds r Q fh ha hR q => ?_⟩
  obtain ⟨p, w, c, hp⟩ := hR
  obtain ⟨v, w, u, rfl, hv, hw, hu⟩ := dps3 ha
  cases hv; cases hw; cases hu
  rename_i w
  have g0 : Gr F0 H F0 H := Gr.refl fh
  refine q_forR (K := K) g0 (by wtm_at "evs") (by omega) (by omega) (fun i σ' F' H' => ∃ y3, σ' = [some (.int p), some (.int w), some (.int c), y3] ∧ partF p w c = seekQ p w c i (p.toNat - i)) (fun H2 _ _ => ⟨none, rfl, rfl⟩) (fun i σ' F' H' hi g' e' hP => ?_) fun σ' F' H' g' e' hP => ?_
  · obtain ⟨y3, rfl, hall⟩ := hP
    have ej : p.toNat - i = (p.toNat - (i + 1)) + 1 := by omega
    rw [ej, seekQ_succ] at hall
    refine s_when g' (b := decide ((c * (i : Int) - w) % p = 0)) (by wtm_at "evb") (fun hb H5 g5 e5 => ?_) fun hb H5 g5 e5 => ?_
    · rw [if_pos (of_decide_eq_true hb)] at hall
      exact s_ret (K := K) g5 (EvD.to (by wtm_at "ev") (by rw [hall])) q
    · rw [if_neg (of_decide_eq_false hb)] at hall
      exact ⟨F', g5, e', _, rfl, hall⟩
  · obtain ⟨y3, rfl, hall⟩ := hP
    rw [Nat.sub_self] at hall
    exact s_ret (K := K) g' (EvD.to (d := .int 0) (by wtm_at "ev") (by rw [hall]; rfl)) q
end

inductive RPointAt : List D → D → Prop
  | mk (p s a t b : Int) (T : Two p s t) (ha : 0 ≤ a ∧ a < p) (hb : 0 ≤ b ∧ b < p) : RPointAt [.int p, .int s, .int a, .int t, .int b] (.tuple [.int (pointF p s a t b).1, .int (pointF p s a t b).2])
section
variable {P : Program} {w : World} {K : Fg} {mg : Str → Option Value} {base : Heap}
theorem ok_point_at (g : G K mg) : Dk P w K mg base 2 "point_at" ["p", "slope", "place", "other", "there"] (spR K RPointAt) := by
  refine g.f_point_at.dk sc_point_at (by rintro _ _ ⟨⟩; rfl) fun f cdv A outer s H E hr => ⟨_, (pss_cons (ps_if (pt_cmpR (kEq (room64 hr) (K := K)) (pv 1) (pv 0) (nomark _))
    (pss_one (ps_ret (pe_tup (pa_cons (pe_op (kMod (K := K)) (pe_op (kSub (K := K)) (pv 4) (pe_op (kMul (K := K)) (pv 3) (pv 2))) (pv 0)) (pa_cons (pv 2) pa_nil)))))
    pss_nil)
    (pss_cons (ps_if (pt_cmpR (kEq (room64 hr) (K := K)) (pv 3) (pv 0) (nomark _))
    (pss_one (ps_ret (pe_tup (pa_cons (pe_op (kMod (K := K)) (pe_op (kSub (K := K)) (pv 2) (pe_op (kMul (K := K)) (pv 1) (pv 4))) (pv 0)) (pa_cons (pv 4) pa_nil)))))
    pss_nil)
    (pss_cons (ps_set (i := 5) sc_point_at.nd rfl (Or.inl rfl) (cl (ok_part_of g) hr (pa_cons (pv 0) (pa_cons (pe_op (kSub (K := K)) (pv 2) (pv 4)) (pa_cons (pe_op (kSub (K := K)) (pv 1) (pv 3)) pa_nil)))))
    (pss_one (ps_ret (pe_tup (pa_cons (pe_op (kMod (K := K)) (pe_op (kSub (K := K)) (pv 2) (pe_op (kMul (K := K)) (pv 1) (pv 5))) (pv 0)) (pa_cons (pv 5) pa_nil)))))))), fun vs F0 ds r Q fh ha hR q => ?_⟩
  obtain ⟨p, s, a, t, b, T, ha1, hb1⟩ := hR
  obtain ⟨v, w, u, x, y, rfl, hv, hw, hu, hx, hy⟩ := dps5 ha
  cases hv; cases hw; cases hu; cases hx; cases hy
  have hpr := T.pr
  have hp : 0 < p ∧ p ≤ 1000 := ⟨by have := hpr.1; omega, by have := hpr.2.1; omega⟩
  have hs := T.hs
  have ht := T.ht
  have hu := partF_bd (p := p) (w := a - b) (c := s - t) hp.1
  have g0 : Gr F0 H F0 H := Gr.refl fh
  unfold pointF at q
  refine q_when g0 (b := decide (s = p)) (by wtm_at "evb") (fun hb H2 g2 e2 => ?_) fun hb H2 g2 e2 => ?_
  · rw [if_pos (of_decide_eq_true hb)] at q
    exact s_ret (K := K) g2 (by wtm_at "ev") q
  rw [if_neg (of_decide_eq_false hb)] at q
  refine q_when g2 (b := decide (t = p)) (by wtm_at "evb") (fun hb H3 g3 e3 => ?_) fun hb H3 g3 e3 => ?_
  · rw [if_pos (of_decide_eq_true hb)] at q
    exact s_ret (K := K) g3 (by wtm_at "ev") q
  rw [if_neg (of_decide_eq_false hb)] at q
  refine q_setV (K := K) g3 (by wtm_at "ev") rfl fun H4 g4 e4 => ?_
  exact s_ret (K := K) g4 (by wtm_at "ev") q
end

/-! ### how often each pair of places comes -/
def pairF (p s t : Int) (i j : Nat) : Int := placeF p s i j * p + placeF p t i j
def rowC (p s t c : Int) (i : Nat) : Nat → Int
  | 0 => 0
  | j + 1 => rowC p s t c i j + (if pairF p s t i j = c then 1 else 0)
def totC (p s t c : Int) : Nat → Int
  | 0 => 0
  | i + 1 => totC p s t c i + rowC p s t c i p.toNat
def rowP (p s t c : Int) (prev : D) (i : Nat) : Nat → D
  | 0 => prev
  | j + 1 => if pairF p s t i j = c then .tuple [.int (i : Int), .int (j : Int)] else rowP p s t c prev i j
def totP (p s t c : Int) : Nat → D
  | 0 => .none
  | i + 1 => rowP p s t c (totP p s t c i) i p.toNat
theorem rowC_succ (p s t c : Int) (i j : Nat) : rowC p s t c i (j + 1) = rowC p s t c i j + (if pairF p s t i j = c then 1 else 0) := rfl
theorem rowP_succ (p s t c : Int) (prev : D) (i j : Nat) : rowP p s t c prev i (j + 1) = if pairF p s t i j = c then .tuple [.int (i : Int), .int (j : Int)] else rowP p s t c prev i j := rfl
theorem totC_succ (p s t c : Int) (i : Nat) : totC p s t c (i + 1) = totC p s t c i + rowC p s t c i p.toNat := rfl
theorem totP_succ (p s t c : Int) (i : Nat) : totP p s t c (i + 1) = rowP p s t c (totP p s t c i) i p.toNat := rfl
theorem digits {p a b a' b' : Int} (hb : 0 ≤ b ∧ b < p) (hb' : 0 ≤ b' ∧ b' < p) (h : a * p + b = a' * p + b') : a = a' ∧ b = b' := by
  have hp : 0 < p := by omega
  have e : ∀ x y : Int, x + 1 ≤ y → x * p + p ≤ y * p := fun x y hxy => by
    have := Int.mul_le_mul_of_nonneg_right hxy (Int.le_of_lt hp)
    rw [Int.add_mul, Int.one_mul] at this
    exact this
  have ea : a = a' := by
    rcases Int.lt_trichotomy a a' with hl | hl | hl
    · have := e a a' hl; omega
    · exact hl
    · have := e a' a hl; omega
  subst ea
  exact ⟨rfl, by omega⟩
theorem hit_iff {p s t a b : Int} {i j : Nat} (hp : 0 < p) (hj : (j : Int) < p) (hb : 0 ≤ b ∧ b < p) : pairF p s t i j = a * p + b ↔ placeF p s i j = a ∧ placeF p t i j = b := by
  have h1 := placeF_bd (s := t) (x := (i : Int)) (y := (j : Int)) hp ⟨by omega, hj⟩
  unfold pairF
  constructor
  · intro h
    exact digits h1 hb h
  · rintro ⟨rfl, rfl⟩
    rfl
/-- a hit at one point alone -/
theorem one_hit {p s t c : Int} {X Y : Nat} (h : ∀ i j : Nat, (i : Int) < p → (j : Int) < p → (pairF p s t i j = c ↔ i = X ∧ j = Y)) (hX : (X : Int) < p) (hY : (Y : Int) < p) :
    totC p s t c p.toNat = 1 ∧ totP p s t c p.toNat = .tuple [.int (X : Int), .int (Y : Int)] := by
  have r1 : ∀ i j : Nat, (i : Int) < p → (j : Int) ≤ p → rowC p s t c i j = if i = X ∧ Y < j then 1 else 0 := fun i j hi => by
    induction j with
    | zero => intro _; rw [if_neg (fun z => absurd z.2 (Nat.not_lt_zero _))]; rfl
    | succ j ih =>
      intro hj
      rw [rowC_succ, ih (by omega)]
      have hh := h i j hi (by omega)
      by_cases e : i = X ∧ j = Y
      · rw [if_pos (hh.mpr e), if_neg (by omega), if_pos (by omega)]; rfl
      · rw [if_neg (fun z => e (hh.mp z))]
        by_cases e2 : i = X ∧ Y < j
        · rw [if_pos e2, if_pos ⟨e2.1, by omega⟩]; rfl
        · rw [if_neg e2, if_neg (by omega)]; rfl
  have r2 : ∀ (prev : D) (i j : Nat), (i : Int) < p → (j : Int) ≤ p → rowP p s t c prev i j = if i = X ∧ Y < j then .tuple [.int (X : Int), .int (Y : Int)] else prev := fun prev i j hi => by
    induction j with
    | zero => intro _; rw [if_neg (fun z => absurd z.2 (Nat.not_lt_zero _))]; rfl
    | succ j ih =>
      intro hj
      rw [rowP_succ, ih (by omega)]
      have hh := h i j hi (by omega)
      by_cases e : i = X ∧ j = Y
      · rw [if_pos (hh.mpr e), if_pos (by omega), e.1, e.2]
      · rw [if_neg (fun z => e (hh.mp z))]
        by_cases e2 : i = X ∧ Y < j
        · rw [if_pos e2, if_pos ⟨e2.1, by omega⟩]
        · rw [if_neg e2, if_neg (by omega)]
  have t1 : ∀ i : Nat, (i : Int) ≤ p → totC p s t c i = if X < i then 1 else 0 := fun i => by
    induction i with
    | zero => intro _; rw [if_neg (Nat.not_lt_zero _)]; rfl
    | succ i ih =>
      intro hi
      rw [totC_succ, ih (by omega), r1 i p.toNat (by omega) (by omega)]
      by_cases e : i = X
      · rw [if_neg (by omega), if_pos (by omega), if_pos (by omega)]; rfl
      · rw [if_neg (c := i = X ∧ _) (fun z => e z.1)]
        by_cases e2 : X < i
        · rw [if_pos e2, if_pos (by omega)]; rfl
        · rw [if_neg e2, if_neg (by omega)]; rfl
  have t2 : ∀ i : Nat, (i : Int) ≤ p → totP p s t c i = if X < i then .tuple [.int (X : Int), .int (Y : Int)] else .none := fun i => by
    induction i with
    | zero => intro _; rw [if_neg (Nat.not_lt_zero _)]; rfl
    | succ i ih =>
      intro hi
      rw [totP_succ, ih (by omega), r2 _ i p.toNat (by omega) (by omega)]
      by_cases e : i = X
      · rw [if_pos (by omega), if_pos (by omega)]
      · rw [if_neg (c := i = X ∧ _) (fun z => e z.1)]
        by_cases e2 : X < i
        · rw [if_pos e2, if_pos (by omega)]
        · rw [if_neg e2, if_neg (by omega)]
  constructor
  · rw [t1 p.toNat (by omega), if_pos (by omega)]
  · rw [t2 p.toNat (by omega), if_pos (by omega)]
theorem tot_row {p s t c : Int} {f : Nat → Int} (h : ∀ i : Nat, (i : Int) < p → rowC p s t c i p.toNat = f i) (g : Nat → Int) (g0 : g 0 = 0) (gs : ∀ i : Nat, (i : Int) < p → g (i + 1) = g i + f i) : ∀ i : Nat, (i : Int) ≤ p → totC p s t c i = g i := fun i => by
  induction i with
  | zero => intro _; exact g0.symm
  | succ i ih =>
    intro hi
    rw [totC_succ, ih (by omega), h i (by omega), gs i (by omega)]
theorem row_one {p s t c : Int} {i Y : Nat} (h : ∀ j : Nat, (j : Int) < p → (pairF p s t i j = c ↔ j = Y)) : ∀ j : Nat, (j : Int) ≤ p → rowC p s t c i j = if Y < j then 1 else 0 := fun j => by
  induction j with
  | zero => intro _; rw [if_neg (Nat.not_lt_zero _)]; rfl
  | succ j ih =>
    intro hj
    rw [rowC_succ, ih (by omega)]
    have hh := h j (by omega)
    by_cases e : j = Y
    · rw [if_pos (hh.mpr e), if_neg (by omega), if_pos (by omega)]; rfl
    · rw [if_neg (fun z => e (hh.mp z))]
      by_cases e2 : Y < j
      · rw [if_pos e2, if_pos (by omega)]; rfl
      · rw [if_neg e2, if_neg (by omega)]; rfl
theorem row_all {p s t c : Int} {i : Nat} (h : ∀ j : Nat, (j : Int) < p → pairF p s t i j = c) : ∀ j : Nat, (j : Int) ≤ p → rowC p s t c i j = (j : Int) := fun j => by
  induction j with
  | zero => intro _; rfl
  | succ j ih =>
    intro hj
    rw [rowC_succ, ih (by omega), if_pos (h j (by omega))]
    omega
theorem row_none {p s t c : Int} {i : Nat} (h : ∀ j : Nat, (j : Int) < p → pairF p s t i j ≠ c) : ∀ j : Nat, (j : Int) ≤ p → rowC p s t c i j = 0 := fun j => by
  induction j with
  | zero => intro _; rfl
  | succ j ih =>
    intro hj
    rw [rowC_succ, ih (by omega), if_neg (h j (by omega))]
    omega
theorem two_slopes {p s t a b : Int} (T : Two p s t) (ha : 0 ≤ a ∧ a < p) (hb : 0 ≤ b ∧ b < p) :
    totC p s t (a * p + b) p.toNat = 1 ∧ totP p s t (a * p + b) p.toNat = .tuple [.int (pointF p s a t b).1, .int (pointF p s a t b).2] := by
  have h0 := T.pr.1
  have hp : 0 < p := by omega
  have hx := (pointF_bd T ha hb).1
  have hy := (pointF_bd T ha hb).2
  have hpl := pointF_places T ha hb
  have e1 : (((pointF p s a t b).1.toNat : Nat) : Int) = (pointF p s a t b).1 := by omega
  have e2 : (((pointF p s a t b).2.toNat : Nat) : Int) = (pointF p s a t b).2 := by omega
  have h := one_hit (p := p) (s := s) (t := t) (c := a * p + b) (X := (pointF p s a t b).1.toNat) (Y := (pointF p s a t b).2.toNat) (fun i j hi hj => ?_) (by omega) (by omega)
  · rw [e1, e2] at h
    exact h
  · rw [hit_iff hp hj hb]
    constructor
    · rintro ⟨h1, h2⟩
      have := places_inj T ⟨by omega, hi⟩ ⟨by omega, hj⟩ hx hy (h1.trans hpl.1.symm) (h2.trans hpl.2.symm)
      omega
    · rintro ⟨rfl, rfl⟩
      rw [e1, e2]
      exact hpl
theorem one_slope {p s a b : Int} (hP : IsP p) (hs : 0 ≤ s ∧ s ≤ p) (ha : 0 ≤ a ∧ a < p) (hb : 0 ≤ b ∧ b < p) :
    totC p s s (a * p + b) p.toNat = if a = b then p else 0 := by
  have h0 := hP.1
  have hp : 0 < p := by omega
  have hpn : ((p.toNat : Nat) : Int) = p := by omega
  by_cases eab : a = b
  · subst eab
    rw [if_pos rfl]
    have hit : ∀ i j : Nat, (j : Int) < p → (pairF p s s i j = a * p + a ↔ placeF p s i j = a) := fun i j hj => by
      rw [hit_iff hp hj hb]
      exact ⟨fun z => z.1, fun z => ⟨z, z⟩⟩
    by_cases es : s = 0
    · -- the row a alone, whole
      have := tot_row (p := p) (s := s) (t := s) (c := a * p + a) (f := fun i => if (i : Int) = a then p else 0) (fun i hi => by
        by_cases e : (i : Int) = a
        · rw [if_pos e, row_all (fun j hj => (hit i j hj).mpr ?_) p.toNat (by omega), hpn]
          unfold placeF
          rw [if_neg (by omega), es, Int.zero_mul, Int.add_zero, e]
          exact Int.emod_eq_of_lt ha.1 ha.2
        · rw [if_neg e]
          refine row_none (fun j hj z => e ?_) p.toNat (by omega)
          have z := (hit i j hj).mp z
          unfold placeF at z
          rw [if_neg (by omega), es, Int.zero_mul, Int.add_zero, Int.emod_eq_of_lt (by omega) hi] at z
          exact z) (fun i => if a < (i : Int) then p else 0) (by rw [if_neg (by omega)]) (fun i hi => by
        by_cases e : (i : Int) = a
        · rw [if_pos (show a < ((i + 1 : Nat) : Int) by omega), if_neg (show ¬ a < (i : Int) by omega), if_pos e]; omega
        · rw [if_neg e]
          by_cases e2 : a < (i : Int)
          · rw [if_pos (show a < ((i + 1 : Nat) : Int) by omega), if_pos e2]; omega
          · rw [if_neg (show ¬ a < ((i + 1 : Nat) : Int) by omega), if_neg e2]; omega) p.toNat (by omega)
      rw [this]
      rw [if_pos (by omega)]
    · -- each row once
      have := tot_row (p := p) (s := s) (t := s) (c := a * p + a) (f := fun i => 1) (fun i hi => by
        have hY : ∃ Y : Nat, (Y : Int) < p ∧ ∀ j : Nat, (j : Int) < p → (placeF p s i j = a ↔ j = Y) := by
          by_cases esp : s = p
          · refine ⟨a.toNat, by omega, fun j hj => ?_⟩
            unfold placeF
            rw [if_pos esp]
            omega
          · have hsm : s % p ≠ 0 := by rw [Int.emod_eq_of_lt hs.1 (by omega)]; exact es
            have hk := partF_ok (w := a - (i : Int)) hP hsm
            have hkb := partF_bd (p := p) (w := a - (i : Int)) (c := s) hp
            refine ⟨(partF p (a - (i : Int)) s).toNat, by omega, fun j hj => ?_⟩
            have eY : (((partF p (a - (i : Int)) s).toNat : Nat) : Int) = partF p (a - (i : Int)) s := by omega
            have hYa : ((i : Int) + s * partF p (a - (i : Int)) s) % p = a := by
              have e : s * partF p (a - (i : Int)) s - (a - (i : Int)) = ((i : Int) + s * partF p (a - (i : Int)) s) - a := by omega
              rw [e] at hk
              rw [em_cong hk, Int.emod_eq_of_lt ha.1 ha.2]
            unfold placeF
            rw [if_neg esp]
            constructor
            · intro z
              have q1 := em_rest p ((i : Int) + s * (j : Int))
              have q2 := em_rest p ((i : Int) + s * partF p (a - (i : Int)) s)
              rw [z] at q1
              rw [hYa] at q2
              have q3 := em_sub q2 q1
              have e : a - ((i : Int) + s * partF p (a - (i : Int)) s) - (a - ((i : Int) + s * (j : Int))) = s * ((j : Int) - partF p (a - (i : Int)) s) := by
                rw [Int.mul_sub]; omega
              rw [e] at q3
              have q4 := isP_drop hP hsm q3
              have := em_eq hp q4 (by omega) hj hkb.1 hkb.2
              omega
            · intro z
              rw [z, eY]
              exact hYa
        obtain ⟨Y, hYp, hY⟩ := hY
        rw [row_one (Y := Y) (fun j hj => (hit i j hj).trans (hY j hj)) p.toNat (by omega), if_pos (by omega)]) (fun i => (i : Int)) rfl (fun i hi => by omega) p.toNat (by omega)
      rw [this]
      exact hpn
  · rw [if_neg eab]
    have := tot_row (p := p) (s := s) (t := s) (c := a * p + b) (f := fun i => 0) (fun i hi => row_none (fun j hj z => by
      have := (hit_iff hp hj hb).mp z
      omega) p.toNat (by omega)) (fun _ => 0) rfl (fun _ _ => rfl) p.toNat (by omega)
    exact this
/-! ### the lists of all -/
def csL (p s t : Int) (n i j : Nat) : List Int := (List.range n).map fun (c : Nat) => totC p s t (c : Int) i + rowC p s t (c : Int) i j
def psL (p s t : Int) (n i j : Nat) : List D := (List.range n).map fun (c : Nat) => rowP p s t (c : Int) (totP p s t (c : Int) i) i j
theorem set_range {α : Type} {n j : Nat} {f g : Nat → α} {v : α} (hv : g j = v) (hg : ∀ c, c ≠ j → g c = f c) : ((List.range n).map f).set j v = (List.range n).map g := by
  apply List.ext_getElem?
  intro i
  by_cases hi : i < n
  · by_cases e : j = i
    · subst e
      rw [List.getElem?_set_self (by rw [List.length_map, List.length_range]; exact hi), List.getElem?_map, List.getElem?_range hi]
      show some v = some (g j)
      rw [hv]
    · rw [List.getElem?_set_ne e, List.getElem?_map, List.getElem?_map, List.getElem?_range hi]
      show some (f i) = some (g i)
      rw [hg i (fun z => e z.symm)]
  · have h1 : (((List.range n).map f).set j v).length ≤ i := by rw [List.length_set, List.length_map, List.length_range]; omega
    have h2 : ((List.range n).map g).length ≤ i := by rw [List.length_map, List.length_range]; omega
    rw [List.getElem?_eq_none h1, List.getElem?_eq_none h2]
theorem csL_step {p s t : Int} {n i j r : Nat} (hr : pairF p s t i j = (r : Int)) : (csL p s t n i j).set r (totC p s t (r : Int) i + rowC p s t (r : Int) i j + 1) = csL p s t n i (j + 1) := by
  unfold csL
  refine set_range ?_ fun c hc => ?_
  · show totC p s t (r : Int) i + rowC p s t (r : Int) i (j + 1) = _
    rw [rowC_succ, if_pos hr]; omega
  · show totC p s t (c : Int) i + rowC p s t (c : Int) i (j + 1) = _
    rw [rowC_succ, if_neg (by omega)]; omega
theorem psL_step {p s t : Int} {n i j r : Nat} (hr : pairF p s t i j = (r : Int)) : (psL p s t n i j).set r (.tuple [.int (i : Int), .int (j : Int)]) = psL p s t n i (j + 1) := by
  unfold psL
  refine set_range ?_ fun c hc => ?_
  · show rowP p s t (r : Int) _ i (j + 1) = _
    rw [rowP_succ, if_pos hr]
  · show rowP p s t (c : Int) _ i (j + 1) = _
    rw [rowP_succ, if_neg (by omega)]
theorem csL_next {p s t : Int} {n i : Nat} : csL p s t n i p.toNat = csL p s t n (i + 1) 0 := by
  unfold csL
  refine List.map_congr_left fun c _ => ?_
  rw [totC_succ]
  show _ = totC p s t (c : Int) i + rowC p s t (c : Int) i p.toNat + 0
  omega
theorem psL_next {p s t : Int} {n i : Nat} : psL p s t n i p.toNat = psL p s t n (i + 1) 0 := rfl
theorem csL_len {p s t : Int} {n i j : Nat} : (csL p s t n i j).length = n := by unfold csL; rw [List.length_map, List.length_range]
theorem psL_len {p s t : Int} {n i j : Nat} : (psL p s t n i j).length = n := by unfold psL; rw [List.length_map, List.length_range]
theorem csL_get {p s t : Int} {n i j c : Nat} (h : c < n) : (csL p s t n i j).getD c 0 = totC p s t (c : Int) i + rowC p s t (c : Int) i j := by
  unfold csL
  rw [List.getD_eq_getElem?_getD, List.getElem?_map, List.getElem?_range h]
  rfl
theorem psL_get {p s t : Int} {n i j c : Nat} (h : c < n) : (psL p s t n i j)[c]? = some (rowP p s t (c : Int) (totP p s t (c : Int) i) i j) := by
  unfold psL
  rw [List.getElem?_map, List.getElem?_range h]
  rfl
theorem dpsSet {K : Fg} {F : Hp} : ∀ {vs : List V} {ds : List D} {v : V} {d : D} (n : Nat), DpAll K F vs ds → Dp K F v d → DpAll K F (vs.set n v) (ds.set n d)
  | [], [], _, _, _, .nil, _ => .nil
  | _ :: _, _ :: _, _, _, 0, .cons _ h2, h => .cons h h2
  | _ :: _, _ :: _, _, _, n + 1, .cons h1 h2, h => .cons h1 (dpsSet n h2 h)

inductive RPlace : List D → D → Prop
  | mk (p s x y : Int) (hp : 0 < p ∧ p ≤ 1000) (hs : 0 ≤ s ∧ s ≤ p) : RPlace [.int p, .int s, .tuple [.int x, .int y]] (.int (placeF p s x y))
def nn (p : Int) : Nat := (p * p).toNat
inductive RCounts : List D → D → Prop
  | mk (p s t : Int) (hp : 0 < p ∧ p ≤ 31) (hs : 0 ≤ s ∧ s ≤ p) (ht : 0 ≤ t ∧ t ≤ p) : RCounts [.int p, .int s, .int t] (.tuple [.list ((csL p s t (nn p) p.toNat 0).map PyData.int), .list (psL p s t (nn p) p.toNat 0)])
inductive RFree : List D → D → Prop
  | mk (p s t : Int) (hP : IsP p) (hp : p ≤ 31) (hs : 0 ≤ s ∧ s ≤ p) (ht : 0 ≤ t ∧ t ≤ p) : RFree [.int p, .int s, .int t] (.bool true)
theorem sq_bd {p : Int} (hp : 0 < p ∧ p ≤ 31) : 0 < p * p ∧ p * p ≤ 961 := by
  refine ⟨Int.mul_pos hp.1 hp.1, ?_⟩
  have h1 := Int.mul_le_mul_of_nonneg_right hp.2 (Int.le_of_lt hp.1)
  omega
theorem pair_bd {p s t : Int} {i j : Nat} (hp : 0 < p) (hj : (j : Int) < p) : 0 ≤ pairF p s t i j ∧ pairF p s t i j < p * p := by
  have h1 := placeF_bd (s := s) (x := (i : Int)) (y := (j : Int)) hp ⟨by omega, hj⟩
  have h2 := placeF_bd (s := t) (x := (i : Int)) (y := (j : Int)) hp ⟨by omega, hj⟩
  unfold pairF
  have h3 := Int.mul_le_mul_of_nonneg_right (show placeF p s i j ≤ p - 1 by omega) (Int.le_of_lt hp)
  have h4 := Int.mul_nonneg h1.1 (Int.le_of_lt hp)
  rw [Int.sub_mul, Int.one_mul] at h3
  omega
theorem two_digits {p a b : Int} (ha : 0 ≤ a ∧ a < p) (hb : 0 ≤ b ∧ b < p) : 0 ≤ a * p + b ∧ a * p + b < p * p := by
  have hp : 0 < p := by omega
  have h3 := Int.mul_le_mul_of_nonneg_right (show a ≤ p - 1 by omega) (Int.le_of_lt hp)
  have h4 := Int.mul_nonneg ha.1 (Int.le_of_lt hp)
  rw [Int.sub_mul, Int.one_mul] at h3
  omega
section
variable {P : Program} {w : World} {K : Fg} {mg : Str → Option Value} {base : Heap}
theorem ok_place_of (g : G K mg) : Dk P w K mg base 1 "place_of" ["p", "slope", "point"] (spR K RPlace) := by
  refine g.f_place_of.dk sc_place_of (by rintro _ _ ⟨⟩; rfl) fun f cdv A outer s H E hr => ⟨_, (pss_cons (ps_if (pt_cmpR (kEq (room64 hr) (K := K)) (pv 1) (pv 0) (nomark _))
    (pss_one (ps_ret (pe_ix (kIxU (K := K)) (pv 2) pe_int (fun _ _ => rfl))))
    pss_nil)
    (pss_one (ps_ret (pe_op (kMod (K := K)) (pe_op (kAdd (K := K)) (pe_ix (kIxU (K := K)) (pv 2) pe_int (fun _ _ => rfl)) (pe_op (kMul (K := K)) (pv 1) (pe_ix (kIxU (K := K)) (pv 2) pe_int (fun _ _ => rfl)))) (pv 0))))), fun vs F0 ds r Q fh ha hR q => ?_⟩
  obtain ⟨p, s, x, y, hp, hs⟩ := hR
  obtain ⟨v, w, u, rfl, hv, hw, hu⟩ := dps3 ha
  cases hv; cases hw
  have g0 : Gr F0 H F0 H := Gr.refl fh
  refine q_when g0 (b := decide (s = p)) (by wtm_at "evb") (fun hb H2 g2 e2 => ?_) fun hb H2 g2 e2 => ?_
  · have hb := of_decide_eq_true hb
    refine s_ret (K := K) g2 (EvD.to (by wtm_at "ev") ?_) q
    unfold placeF; rw [if_pos hb]
  · have hb := of_decide_eq_false hb
    refine s_ret (K := K) g2 (EvD.to (by wtm_at "ev") ?_) q
    unfold placeF; rw [if_neg hb]
theorem ok__law_counts (g : G K mg) : Dk P w K mg base 2 "_law_counts" ["_law_p", "_law_one", "_law_other"] (spR K RCounts) := by
  refine g.f__law_counts.dk sc__law_counts (by rintro _ _ ⟨⟩; rfl) fun f cdv A outer sh H E hr => ⟨_, (pss_cons (ps_setLc (i := 3) (own := [("_law_k", 8)]) (g := gName 8) rfl sc__law_counts.nd rfl rfl (sw_true rfl rfl rfl (by decide +kernel)) (pi_range1 (by rfl) g.b_range (pa_cons (pe_op (kMul (K := K)) (pv 0) (pv 0)) pa_nil)) (blkOk_by (own := [("_law_k", 8)]) (N := N__law_counts) (sc := defScope s__law_counts) (by decide +kernel)) (fun _ _ _ _ _ => (pg_name (i := 8) sc__law_counts.nd rfl (Or.inl rfl))) (fun _ _ _ _ _ => pts_nil) (fun _ _ _ _ _ => pe_int))
    (pss_cons (ps_setLc (i := 4) (own := [("_law_k", 8)]) (g := gName 8) rfl sc__law_counts.nd rfl rfl (sw_true rfl rfl rfl (by decide +kernel)) (pi_range1 (by rfl) g.b_range (pa_cons (pe_op (kMul (K := K)) (pv 0) (pv 0)) pa_nil)) (blkOk_by (own := [("_law_k", 8)]) (N := N__law_counts) (sc := defScope s__law_counts) (by decide +kernel)) (fun _ _ _ _ _ => (pg_name (i := 8) sc__law_counts.nd rfl (Or.inl rfl))) (fun _ _ _ _ _ => pts_nil) (fun _ _ _ _ _ => pe_non))
    (pss_cons (ps_for PassesOwn.never rfl (pi_range1 (by rfl) g.b_range (pa_cons (pv 0) pa_nil)) (pg_name (i := 5) sc__law_counts.nd rfl (Or.inl rfl))
    (pss_one (ps_for PassesOwn.never rfl (pi_range1 (by rfl) g.b_range (pa_cons (pv 0) pa_nil)) (pg_name (i := 6) sc__law_counts.nd rfl (Or.inl rfl))
    (pss_cons (ps_set (i := 7) sc__law_counts.nd rfl (Or.inl rfl) (pe_op (kAdd (K := K)) (pe_op (kMul (K := K)) (cl (ok_place_of g) hr (pa_cons (pv 0) (pa_cons (pv 1) (pa_cons (pe_tup (pa_cons (pv 5) (pa_cons (pv 6) pa_nil))) pa_nil)))) (pv 0)) (cl (ok_place_of g) hr (pa_cons (pv 0) (pa_cons (pv 2) (pa_cons (pe_tup (pa_cons (pv 5) (pa_cons (pv 6) pa_nil))) pa_nil))))))
    (pss_cons (ps_if (pt_not (pt_chain (kLe (room0 hr) (K := K)) (kLt (K := K)) pe_int (pv 7) (pe_op (kMul (K := K)) (pv 0) (pv 0))))
    (pss_one (ps_ret pe_non))
    pss_nil)
    (pss_cons (ps_asg (pe_op (kAdd (K := K)) (pe_ix (kIxU (K := K)) (pv 3) (pv 7) (fun _ _ => rfl)) pe_int) (pg_sub (pv 3) (pv 7) set_list))
    (pss_one (ps_asg (pe_tup (pa_cons (pv 5) (pa_cons (pv 6) pa_nil))) (pg_sub (pv 4) (pv 7) set_list)))))))))
    (pss_one (ps_ret (pe_tup (pa_cons (pv 3) (pa_cons (pv 4) pa_nil)))))))), fun vs F0 ds r Q fh ha hR q => ?_⟩
  obtain ⟨p, s, t, hp, hs, ht⟩ := hR
  obtain ⟨v, w, u, rfl, hv, hw, hu⟩ := dps3 ha
  cases hv; cases hw; cases hu
  have g0 : Gr F0 H F0 H := Gr.refl fh
  have hsq := sq_bd hp
  have hp1 : 0 < p ∧ p ≤ 1000 := by omega
  have hnn : ((nn p : Nat) : Int) = p * p := by unfold nn; omega
  have hz : (rangeD 0 (p * p).toNat).length ≤ 50000 := by rw [rangeD_len]; omega
  have e1 : (rangeD 0 (p * p).toNat).map (fun _ => PyData.int 0) = (csL p s t (nn p) 0 0).map PyData.int := by
    unfold rangeD csL nn
    rw [List.map_map, List.map_map]
    rfl
  have e2 : (rangeD 0 (p * p).toNat).map (fun _ => PyData.none) = psL p s t (nn p) 0 0 := by
    unfold rangeD psL nn
    rw [List.map_map]
    rfl
  refine q_setN (K := K) g0 ((n_lc1 (w_range1 (n := p * p) (by wtm_at "evs") (by omega) (by omega)) hz (fun _ => .int 0) (fun _ => rfl) (fun d x F' H' hm' a' b' c' hx => by wtm_at "ev")).to e1) fun l1 us F1 H1 g1 s1 hl1 fl1 l1h hu => ?_
  have hu := dps_ints_inv _ hu
  subst hu
  refine q_setN (K := K) g1 ((n_lc1 (w_range1 (n := p * p) (by wtm_at "evs") (by omega) (by omega)) hz (fun _ => .none) (fun _ => rfl) (fun d x F' H' hm' a' b' c' hx => by wtm_at "ev")).to e2) fun l2 ws F2 H2 g2 s2 hl2' fl2 l2h hw => ?_
  have hne : l1 ≠ l2 := fun z => by rw [← z, l1h] at hl2'; cases hl2'
  have fl1 : F2 l1 = none := (s2.old l1 (by rw [l1h]; exact fun z => nomatch z)).trans fl1
  have l1h := s2.hx _ _ l1h
  have hl2 : H l2 = none := g1.back hl2'
  refine q_forR (K := K) g2 (n := p) (by wtm_at "evs") (by omega) (by omega) (fun i σ' F' H' => (∃ y5 y6 y7, σ' = [some (.int p), some (.int s), some (.int t), some (.ref l1), some (.ref l2), y5, y6, y7, none]) ∧ F' l1 = none ∧ F' l2 = none ∧ H' l1 = some (.lst ((csL p s t (nn p) i 0).map V.int)) ∧ ∃ ws, H' l2 = some (.lst ws) ∧ DpAll K F' ws (psL p s t (nn p) i 0)) (fun H3 _ e3 => ⟨⟨none, none, none, rfl⟩, fl1, fl2, e3 _ _ l1h, ws, e3 _ _ l2h, hw⟩) (fun i σ' F' H' hi g' e' hP => ?_) fun σ' F' H' g' e' hP => ?_
  · obtain ⟨⟨y5, y6, y7, rfl⟩, f1, f2, h1, ws, h2, hw⟩ := hP
    refine s_forR (K := K) g' (n := p) (by wtm_at "evs") (by omega) (by omega) (fun j σ' F' H' => (∃ y6 y7, σ' = [some (.int p), some (.int s), some (.int t), some (.ref l1), some (.ref l2), some (.int (i : Int)), y6, y7, none]) ∧ F' l1 = none ∧ F' l2 = none ∧ H' l1 = some (.lst ((csL p s t (nn p) i j).map V.int)) ∧ ∃ ws, H' l2 = some (.lst ws) ∧ DpAll K F' ws (psL p s t (nn p) i j)) (fun H3 _ e3 => ⟨⟨y6, y7, rfl⟩, f1, f2, e3 _ _ h1, ws, e3 _ _ h2, hw⟩) (fun j σ' F'' H'' hj g'' e'' hP => ?_) fun σ' F'' H'' g'' e'' hP => ?_
    · obtain ⟨⟨y6, y7, rfl⟩, f1, f2, h1, ws, h2, hw⟩ := hP
      have b1 := placeF_bd (s := s) (x := (i : Int)) (y := (j : Int)) hp.1 ⟨by omega, hj⟩
      have b2 := placeF_bd (s := t) (x := (i : Int)) (y := (j : Int)) hp.1 ⟨by omega, hj⟩
      have hpb := pair_bd (p := p) (s := s) (t := t) (i := i) (j := j) hp.1 hj
      refine q_setV (K := K) g'' (d := .int (pairF p s t i j)) (by unfold pairF; wtm_at "ev") rfl fun H3 g3 e3 => ?_
      obtain ⟨r, hr⟩ : ∃ r : Nat, pairF p s t i j = (r : Int) := ⟨(pairF p s t i j).toNat, by omega⟩
      have hc := csL_step (n := nn p) hr
      have hd := psL_step (n := nn p) hr
      rw [hr] at hpb ⊢
      have hrn : r < nn p := by omega
      refine q_when g3 (b := false) (EvB.to (by wtm_at "evb") (by simp; omega)) (fun hb => nomatch hb) fun hb H4 g4 e4 => ?_
      have hat : atI ((csL p s t (nn p) i j).map PyData.int) (r : Int) = some (.int (totC p s t (r : Int) i + rowC p s t (r : Int) i j)) := by
        rw [atI_ints (by omega) (by rw [csL_len]; omega), Int.toNat_natCast, csL_get hrn]
      have h1 := e4 _ _ (e3 _ _ h1)
      have h2 := e4 _ _ (e3 _ _ h2)
      refine q_setL (K := K) g4 (n := r) hl1 f1 h1 rfl (d_op2 (d_ixO (ds := (csL p s t (nn p) i j).map PyData.int) rfl h1 (dps_ints _) (by wtm_at "ev") hat) (d_c (.int 1)) (.int _ _)) (by wtm_at "ev") (by rw [List.length_map, csL_len]; exact hrn) fun v5 F5 H5 g5 x5 o5 oh5 l5 hv5 => ?_
      cases hv5
      rw [← List.map_set, hc] at l5
      have h2' := oh5 l2 _ (fun z => hne z.symm) h2
      have f1' : F5 l1 = none := (o5 l1 (by rw [h1]; exact fun z => nomatch z)).trans f1
      have f2' : F5 l2 = none := (o5 l2 (by rw [h2]; exact fun z => nomatch z)).trans f2
      refine s_setL (K := K) g5 (n := r) hl2 f2' h2' rfl (by wtm_at "ev") (by wtm_at "ev") (by rw [hw.length, psL_len]; exact hrn) fun v6 F6 H6 g6 x6 o6 oh6 l6 hv6 => ?_
      have l1' := oh6 l1 _ hne l5
      refine ⟨F6, g6, (e''.trans x5).trans x6, ⟨some (.int (j : Int)), some (.int (r : Int)), rfl⟩, (o6 l1 (by rw [l5]; exact fun z => nomatch z)).trans f1', (o6 l2 (by rw [h2']; exact fun z => nomatch z)).trans f2', l1', _, l6, ?_⟩
      rw [← hd]
      exact dpsSet r ((hw.up x5).up x6) hv6
    · obtain ⟨⟨y6, y7, rfl⟩, f1, f2, h1, ws, h2, hw⟩ := hP
      rw [csL_next] at h1
      exact ⟨F'', g'', e'.trans e'', ⟨_, _, _, rfl⟩, f1, f2, h1, ws, h2, hw⟩
  · obtain ⟨⟨y5, y6, y7, rfl⟩, f1, f2, h1, ws, h2, hw⟩ := hP
    have g3 := g'.give hl1 h1 f1
    have fx3 : upd F' l1 (.lst ((csL p s t (nn p) p.toNat 0).map V.int)) l2 = none := by rw [upd_ne (fun z => hne z.symm)]; exact f2
    have g4 := g3.give hl2 h2 fx3
    have hO1 : Dp K (upd (upd F' l1 (.lst ((csL p s t (nn p) p.toNat 0).map V.int))) l2 (.lst ws)) (.ref l1) (.list ((csL p s t (nn p) p.toNat 0).map PyData.int)) := (Dp.lst (sq_of upd_same) (dps_ints _)).up (Ex.new fx3)
    have hO2 : Dp K (upd (upd F' l1 (.lst ((csL p s t (nn p) p.toNat 0).map V.int))) l2 (.lst ws)) (.ref l2) (.list (psL p s t (nn p) p.toNat 0)) := .lst (sq_of upd_same) ((hw.up (Ex.new f1)).up (Ex.new fx3))
    exact s_ret (K := K) g4 (by wtm_at "ev") q
theorem ok__law_free (g : G K mg) : Dk P w K mg base 3 "_law_free" ["_law_p", "_law_one", "_law_other"] (spR K RFree) := by
  refine g.f__law_free.dk sc__law_free (by rintro _ _ ⟨⟩; rfl) fun f cdv A outer sh H E hr => ⟨_, (pss_cons (ps_set (i := 3) sc__law_free.nd rfl (Or.inl rfl) (cl (ok__law_counts g) hr (pa_cons (pv 0) (pa_cons (pv 1) (pa_cons (pv 2) pa_nil)))))
    (pss_cons (ps_if (pt_cmpR (kIs (K := K)) (pv 3) pe_non (nomark _))
    (pss_one (ps_ret pe_bl))
    pss_nil)
    (pss_cons (ps_for PassesOwn.never rfl (pi_range1 (by rfl) g.b_range (pa_cons (pv 0) pa_nil)) (pg_name (i := 4) sc__law_free.nd rfl (Or.inl rfl))
    (pss_one (ps_for PassesOwn.never rfl (pi_range1 (by rfl) g.b_range (pa_cons (pv 0) pa_nil)) (pg_name (i := 5) sc__law_free.nd rfl (Or.inl rfl))
    (pss_cons (ps_set (i := 6) sc__law_free.nd rfl (Or.inl rfl) (pe_ix (kIxU (K := K)) (pe_ix (kIxU (K := K)) (pv 3) pe_int (fun _ _ => rfl)) (pe_op (kAdd (K := K)) (pe_op (kMul (K := K)) (pv 4) (pv 0)) (pv 5)) (fun _ _ => rfl)))
    (pss_cons (ps_if (PW.pt (pw_and (pt_cmpR (kEq (room64 hr) (K := K)) (pv 1) (pv 2) (nomark _)) (pw_and1 (pt_cmpR (kNe (room64 hr) (K := K)) (pv 6) (pe_ix (kIxU (K := K)) (pe_lst (pa_cons pe_int (pa_cons (pv 0) pa_nil))) (bt (jInt (K := K)) g.b_int (pa_cons (pe_cmpR (kEq (room64 hr) (K := K)) (pv 4) (pv 5) (nomark _)) pa_nil)) (fun _ _ => rfl)) (nomark _)))))
    (pss_one (ps_ret pe_bl))
    pss_nil)
    (pss_cons (ps_if (PW.pt (pw_and (pt_cmpR (kNe (room64 hr) (K := K)) (pv 1) (pv 2) (nomark _)) (pw_and1 (pt_cmpR (kNe (room64 hr) (K := K)) (pv 6) pe_int (nomark _)))))
    (pss_one (ps_ret pe_bl))
    pss_nil)
    (pss_one (ps_if (PW.pt (pw_and (pt_cmpR (kNe (room64 hr) (K := K)) (pv 1) (pv 2) (nomark _)) (pw_and1 (pt_cmpR (kEq (room64 hr) (K := K)) (pe_op (kMod (K := K)) (pe_op (kAdd (K := K)) (pv 4) (pv 5)) pe_int) pe_int (nomark _)))))
    (pss_one (ps_if (pt_cmpR (kNe (room64 hr) (K := K)) (cl (ok_point_at g) hr (pa_cons (pv 0) (pa_cons (pv 1) (pa_cons (pv 4) (pa_cons (pv 2) (pa_cons (pv 5) pa_nil)))))) (pe_ix (kIxU (K := K)) (pe_ix (kIxU (K := K)) (pv 3) pe_int (fun _ _ => rfl)) (pe_op (kAdd (K := K)) (pe_op (kMul (K := K)) (pv 4) (pv 0)) (pv 5)) (fun _ _ => rfl)) (nomark _))
    (pss_one (ps_ret pe_bl))
    pss_nil))
    pss_nil))))))))
    (pss_one (ps_ret pe_bl))))), fun vs F0 ds r Q fh ha hR q => ?_⟩
  obtain ⟨p, s, t, hP, hp, hs, ht⟩ := hR
  obtain ⟨v, w, u, rfl, hv, hw, hu⟩ := dps3 ha
  cases hv; cases hw; cases hu
  have g0 : Gr F0 H F0 H := Gr.refl fh
  have h2p := hP.1
  have hp0 : 0 < p ∧ p ≤ 31 := by omega
  have hp1 : 0 < p ∧ p ≤ 1000 := by omega
  have hsq := sq_bd hp0
  have hnn : ((nn p : Nat) : Int) = p * p := by unfold nn; omega
  refine q_set (K := K) g0 (by wtm_at "ev") fun v3 F1 H1 g1 s1 h3 => ?_
  refine q_when g1 (b := false) (EvB.to (by wtm_at "evb") (by rfl)) (fun hb => nomatch hb) fun hb H2 g2 e2 => ?_
  refine q_forR (K := K) g2 (n := p) (by wtm_at "evs") (by omega) (by omega) (fun i σ' F' H' => ∃ y4 y5 y6, σ' = [some (.int p), some (.int s), some (.int t), some v3, y4, y5, y6]) (fun H3 _ e3 => ⟨none, none, none, rfl⟩) (fun i σ' F' H' hi g' e' hP' => ?_) fun σ' F' H' g' e' hP' => ?_
  · obtain ⟨y4, y5, y6, rfl⟩ := hP'
    refine s_forR (K := K) g' (n := p) (by wtm_at "evs") (by omega) (by omega) (fun j σ' F' H' => ∃ y5 y6, σ' = [some (.int p), some (.int s), some (.int t), some v3, some (.int (i : Int)), y5, y6]) (fun H3 _ e3 => ⟨y5, y6, rfl⟩) (fun j σ' F'' H'' hj g'' e'' hP' => ?_) fun σ' F'' H'' g'' e'' hP' => ?_
    · obtain ⟨y5, y6, rfl⟩ := hP'
      have h3 := (h3.up e').up e''
      have hai : 0 ≤ (i : Int) ∧ (i : Int) < p := by omega
      have hbj : 0 ≤ (j : Int) ∧ (j : Int) < p := by omega
      have htd := two_digits hai hbj
      obtain ⟨r, hr⟩ : ∃ r : Nat, (i : Int) * p + (j : Int) = (r : Int) := ⟨((i : Int) * p + (j : Int)).toNat, by omega⟩
      have hrn : r < nn p := by omega
      have hat : atI ((csL p s t (nn p) p.toNat 0).map PyData.int) ((i : Int) * p + (j : Int)) = some (.int (totC p s t ((i : Int) * p + (j : Int)) p.toNat)) := by
        rw [hr, atI_ints (by omega) (by rw [csL_len]; omega), Int.toNat_natCast, csL_get hrn]
        show some (PyData.int (totC p s t (r : Int) p.toNat + 0)) = _
        rw [Int.add_zero]
      have hat2 : atI (psL p s t (nn p) p.toNat 0) ((i : Int) * p + (j : Int)) = some (totP p s t ((i : Int) * p + (j : Int)) p.toNat) := by
        rw [hr]
        exact atI_nat (psL_get hrn)
      have k0 : atI [PyData.list ((csL p s t (nn p) p.toNat 0).map PyData.int), .list (psL p s t (nn p) p.toNat 0)] 0 = some (PyData.list ((csL p s t (nn p) p.toNat 0).map PyData.int)) := rfl
      have k1 : atI [PyData.list ((csL p s t (nn p) p.toNat 0).map PyData.int), .list (psL p s t (nn p) p.toNat 0)] 1 = some (PyData.list (psL p s t (nn p) p.toNat 0)) := rfl
      refine q_setV (K := K) g'' (d := .int (totC p s t ((i : Int) * p + (j : Int)) p.toNat)) (by wtm_at "ev") rfl fun H3 g3 e3 => ?_
      by_cases hst : s = t
      · subst hst
        have hc := one_slope hP hs hai hbj
        generalize totC p s s ((i : Int) * p + (j : Int)) p.toNat = m at hc hat ⊢
        have hk2 : atI [PyData.int 0, PyData.int p] (if decide ((i : Int) = (j : Int)) then 1 else 0) = some (PyData.int m) := by
          by_cases e : (i : Int) = (j : Int)
          · rw [decide_eq_true e, hc, if_pos e]; rfl
          · rw [decide_eq_false e, hc, if_neg e]; rfl
        refine q_when g3 (b := false) (EvB.to (by wtm_at "evb") (by simp)) (fun hb => nomatch hb) fun hb H4 g4 e4 => ?_
        refine q_when g4 (b := false) (EvB.to (by wtm_at "evb") (by simp)) (fun hb => nomatch hb) fun hb H5 g5 e5 => ?_
        refine s_when g5 (b := false) (EvB.to (by wtm_at "evb") (by simp)) (fun hb => nomatch hb) fun hb H6 g6 e6 => ?_
        exact ⟨F'', g6, e'', _, _, rfl⟩
      · have T : Two p s t := ⟨hP, hs, ht, hst⟩
        have hc := two_slopes T hai hbj
        rw [hc.2] at hat2
        rw [hc.1]
        refine q_when g3 (b := false) (EvB.to (b := decide (s = t) && false) (b_and (by wtm_at "evb") (fun z => absurd (of_decide_eq_true z) hst)) (by simp)) (fun hb => nomatch hb) fun hb H4 g4 e4 => ?_
        refine q_when g4 (b := false) (EvB.to (by wtm_at "evb") (by simp)) (fun hb => nomatch hb) fun hb H5 g5 e5 => ?_
        refine s_when g5 (b := decide (¬ s = t) && decide (((i : Int) + (j : Int)) % 5 = 0)) (EvB.to (by wtm_at "evb") (by simp)) (fun hb H6 g6 e6 => ?_) fun hb H6 g6 e6 => ?_
        · refine s_when g6 (b := false) (EvB.to (by wtm_at "evb") ?_) (fun hb => nomatch hb) fun hb H7 g7 e7 => ?_
          · simp [PyData.eqv, PyData.eqvAll]
          · exact ⟨F'', g7, e'', _, _, rfl⟩
        · exact ⟨F'', g6, e'', _, _, rfl⟩
    · obtain ⟨y5, y6, rfl⟩ := hP'
      exact ⟨F'', g'', e'.trans e'', _, _, _, rfl⟩
  · obtain ⟨y4, y5, y6, rfl⟩ := hP'
    exact s_ret (K := K) g' (by wtm_at "ev") q
def slD (ns : List Int) (p : Int) : D → D
  | .int k => .int (mixF ns k 2 % (p + 1))
  | _ => .none
theorem ok_law (g : G K mg) : Dk P w K mg base 5 "law" ["_law_script"] (spR K RLaw) := by
  refine g.f_law.dk sc_law RLaw.len fun f cdv A outer s H E hr => ⟨_, (pss_cons (ps_set (i := 1) sc_law.nd rfl (Or.inr rfl) (cl (ok__law_prime g) hr (pa_cons (cl (ok__law_mixed g) hr (pa_cons (pv 0) (pa_cons pe_int (pa_cons pe_int pa_nil)))) (pa_cons pe_int pa_nil))))
    (pss_cons (ps_setLc (i := 3) (own := [("_law_k", 2)]) (g := gName 2) rfl sc_law.nd rfl rfl (sw_true rfl rfl rfl (by decide +kernel)) (pi_range1 (by rfl) g.b_range (pa_cons pe_int pa_nil)) (blkOk_by (own := [("_law_k", 2)]) (N := N_law) (sc := defScope s_law) (by decide +kernel)) (fun _ _ _ _ _ => (pg_name (i := 2) sc_law.nd rfl (Or.inl rfl))) (fun _ _ _ _ _ => pts_nil) (fun _ _ _ _ _ => (pe_op (kMod (K := K)) (cl (ok__law_mixed g) hr (pa_cons (pv 0) (pa_cons (pv 2) (pa_cons pe_int pa_nil)))) (pe_op (kAdd (K := K)) (pv 1) pe_int))))
    (pss_cons (ps_for PassesOwn.never rfl (pi_range1 (by rfl) g.b_range (pa_cons pe_int pa_nil)) (pg_name (i := 2) sc_law.nd rfl (Or.inl rfl))
    (pss_one (ps_if (pt_not (pt_val (cl (ok__law_free g) hr (pa_cons (pv 1) (pa_cons (pe_ix (kIxU (K := K)) (pv 3) (pv 2) (fun _ _ => rfl)) (pa_cons (pe_ix (kIxU (K := K)) (pv 3) (pe_op (kMod (K := K)) (pe_op (kAdd (K := K)) (pv 2) pe_int) pe_int) (fun _ _ => rfl)) pa_nil))))))
    (pss_one (ps_ret pe_bl))
    pss_nil)))
    (pss_one (ps_ret pe_bl))))), fun vs F0 ds r Q fh ha hR q => ?_⟩
  obtain ⟨ns, hl, rfl, rfl⟩ := hR
  obtain ⟨v, rfl, hS⟩ := dps1 ha
  obtain ⟨a, rfl⟩ : ∃ a, v = V.ref a := by cases hS; exact ⟨_, rfl⟩
  have g0 : Gr F0 H F0 H := Gr.refl fh
  have hlen : (ns.map PyData.int).length = ns.length := List.length_map ..
  have hm0 := mixF_nn ns 0 1
  refine q_setV (K := K) g0 (by wtm_at "ev") rfl fun H1 g1 e1 => ?_
  have hP := primeF_isP (n := mixF ns 0 1) (m := 31) (by decide) (by decide)
  have hp31 := (primeF_bd (n := mixF ns 0 1) (m := 31) (by decide)).2
  generalize primeF (mixF ns 0 1) 31 = p at hP hp31 ⊢
  have h2p := hP.1
  have hp : 0 < p ∧ p ≤ 31 := by omega
  refine q_set (K := K) g1 (EvD.to (EvN.dd ((n_lc1 (w_range1 (n := 3) (by wtm_at "evs") (by omega) (by omega)) (by decide) (slD ns p) (fun _ => rfl) (fun d x F' H' hm a' b' c' hx => ?_)))) (e := .list [.int (mixF ns 0 2 % (p + 1)), .int (mixF ns 1 2 % (p + 1)), .int (mixF ns 2 2 % (p + 1))]) rfl) fun v3 F2 H2 g2 s2 h3 => ?_
  · obtain ⟨i, hi, rfl⟩ := rangeD_mem hm
    cases hx
    have hS := hS.up a'
    have hk : 0 ≤ (0 : Int) + (i : Int) ∧ (0 : Int) + (i : Int) ≤ 1000000 := by
      have : i < 3 := hi
      omega
    exact EvD.to (by wtm_at "ev") (by rfl)
  have hS := hS.up s2.fx
  have bd : ∀ k : Int, 0 ≤ mixF ns k 2 % (p + 1) ∧ mixF ns k 2 % (p + 1) ≤ p := fun k => by
    have h1 := Int.emod_nonneg (mixF ns k 2) (show p + 1 ≠ 0 by omega)
    have h2 := Int.emod_lt_of_pos (mixF ns k 2) (show 0 < p + 1 by omega)
    omega
  have b0 := bd 0
  have b1 := bd 1
  have b2 := bd 2
  generalize mixF ns 0 2 % (p + 1) = z0 at b0 h3
  generalize mixF ns 1 2 % (p + 1) = z1 at b1 h3
  generalize mixF ns 2 2 % (p + 1) = z2 at b2 h3
  refine q_forR (K := K) g2 (n := 3) (by wtm_at "evs") (by omega) (by omega) (fun i σ' F' H' => ∃ y2, σ' = [some (.ref a), some (.int p), y2, some v3]) (fun H2 _ _ => ⟨none, rfl⟩) (fun i σ' F' H' hi g' e' hP' => ?_) fun σ' F' H' g' e' hP' => ?_
  · obtain ⟨y2, rfl⟩ := hP'
    have h3 := h3.up e'
    have hi3 : i < 3 := by omega
    have hz : ∃ x y, atI [PyData.int z0, .int z1, .int z2] (i : Int) = some (.int x) ∧ atI [PyData.int z0, .int z1, .int z2] (((i : Int) + 1) % 3) = some (.int y) ∧ (0 ≤ x ∧ x ≤ p) ∧ (0 ≤ y ∧ y ≤ p) := by
      match i, hi3 with
      | 0, _ => exact ⟨z0, z1, rfl, rfl, b0, b1⟩
      | 1, _ => exact ⟨z1, z2, rfl, rfl, b1, b2⟩
      | 2, _ => exact ⟨z2, z0, rfl, rfl, b2, b0⟩
    obtain ⟨x, y, hx1, hy1, hx, hy⟩ := hz
    have hp32 : p ≤ 31 := hp31
    refine s_when g' (b := false) (EvB.to (by wtm_at "evb") (by rfl)) (fun hb => nomatch hb) fun hb H4 g4 e4 => ?_
    exact ⟨F', g4, e', _, rfl⟩
  · obtain ⟨y2, rfl⟩ := hP'
    exact s_ret (K := K) g' (by wtm_at "ev") q
end
theorem g_mk {K : Fg} {h : Heap} {mg : Str → Option Value} (X : K.In h) (Gn : h.Ns mainGlobals mg)
    (z_int : PySem.W.nsIn K mainGlobals "int" = some none)
    (z_len : PySem.W.nsIn K mainGlobals "len" = some none)
    (z_max : PySem.W.nsIn K mainGlobals "max" = some none)
    (z_range : PySem.W.nsIn K mainGlobals "range" = some none)
    {f0 : Addr} {od0 an0 : Option Addr} {sl0 : Array (Option Value)} {oc0 kV0 dc0 pm0 cd0 ct0 : Value} (a0 : PySem.W.nsIn K mainGlobals "place_of" = some (some (.ref f0))) (l0 : K.lookup f0 = some ⟨oc0, od0, .func (PySem.W.fnOf "place_of" "place_of" (defArgs s_place_of) (defBody s_place_of) (defScope s_place_of) .none kV0 dc0 pm0 an0 cd0 ct0), sl0⟩) (cc0 : PySem.W.codeIn K cd0 "place_of" = true) (k0 : PySem.W.keepIn K (.ref f0) = true)
    {f1 : Addr} {od1 an1 : Option Addr} {sl1 : Array (Option Value)} {oc1 kV1 dc1 pm1 cd1 ct1 : Value} (a1 : PySem.W.nsIn K mainGlobals "part_of" = some (some (.ref f1))) (l1 : K.lookup f1 = some ⟨oc1, od1, .func (PySem.W.fnOf "part_of" "part_of" (defArgs s_part_of) (defBody s_part_of) (defScope s_part_of) .none kV1 dc1 pm1 an1 cd1 ct1), sl1⟩) (cc1 : PySem.W.codeIn K cd1 "part_of" = true) (k1 : PySem.W.keepIn K (.ref f1) = true)
    {f2 : Addr} {od2 an2 : Option Addr} {sl2 : Array (Option Value)} {oc2 kV2 dc2 pm2 cd2 ct2 : Value} (a2 : PySem.W.nsIn K mainGlobals "point_at" = some (some (.ref f2))) (l2 : K.lookup f2 = some ⟨oc2, od2, .func (PySem.W.fnOf "point_at" "point_at" (defArgs s_point_at) (defBody s_point_at) (defScope s_point_at) .none kV2 dc2 pm2 an2 cd2 ct2), sl2⟩) (cc2 : PySem.W.codeIn K cd2 "point_at" = true) (k2 : PySem.W.keepIn K (.ref f2) = true)
    {f3 : Addr} {od3 an3 : Option Addr} {sl3 : Array (Option Value)} {oc3 kV3 dc3 pm3 cd3 ct3 : Value} (a3 : PySem.W.nsIn K mainGlobals "_law_cell_at" = some (some (.ref f3))) (l3 : K.lookup f3 = some ⟨oc3, od3, .func (PySem.W.fnOf "_law_cell_at" "_law_cell_at" (defArgs s__law_cell_at) (defBody s__law_cell_at) (defScope s__law_cell_at) .none kV3 dc3 pm3 an3 cd3 ct3), sl3⟩) (cc3 : PySem.W.codeIn K cd3 "_law_cell_at" = true) (k3 : PySem.W.keepIn K (.ref f3) = true)
    {f4 : Addr} {od4 an4 : Option Addr} {sl4 : Array (Option Value)} {oc4 kV4 dc4 pm4 cd4 ct4 : Value} (a4 : PySem.W.nsIn K mainGlobals "_law_mixed" = some (some (.ref f4))) (l4 : K.lookup f4 = some ⟨oc4, od4, .func (PySem.W.fnOf "_law_mixed" "_law_mixed" (defArgs s__law_mixed) (defBody s__law_mixed) (defScope s__law_mixed) .none kV4 dc4 pm4 an4 cd4 ct4), sl4⟩) (cc4 : PySem.W.codeIn K cd4 "_law_mixed" = true) (k4 : PySem.W.keepIn K (.ref f4) = true)
    {f5 : Addr} {od5 an5 : Option Addr} {sl5 : Array (Option Value)} {oc5 kV5 dc5 pm5 cd5 ct5 : Value} (a5 : PySem.W.nsIn K mainGlobals "_law_prime" = some (some (.ref f5))) (l5 : K.lookup f5 = some ⟨oc5, od5, .func (PySem.W.fnOf "_law_prime" "_law_prime" (defArgs s__law_prime) (defBody s__law_prime) (defScope s__law_prime) .none kV5 dc5 pm5 an5 cd5 ct5), sl5⟩) (cc5 : PySem.W.codeIn K cd5 "_law_prime" = true) (k5 : PySem.W.keepIn K (.ref f5) = true)
    {f6 : Addr} {od6 an6 : Option Addr} {sl6 : Array (Option Value)} {oc6 kV6 dc6 pm6 cd6 ct6 : Value} (a6 : PySem.W.nsIn K mainGlobals "_law_counts" = some (some (.ref f6))) (l6 : K.lookup f6 = some ⟨oc6, od6, .func (PySem.W.fnOf "_law_counts" "_law_counts" (defArgs s__law_counts) (defBody s__law_counts) (defScope s__law_counts) .none kV6 dc6 pm6 an6 cd6 ct6), sl6⟩) (cc6 : PySem.W.codeIn K cd6 "_law_counts" = true) (k6 : PySem.W.keepIn K (.ref f6) = true)
    {f7 : Addr} {od7 an7 : Option Addr} {sl7 : Array (Option Value)} {oc7 kV7 dc7 pm7 cd7 ct7 : Value} (a7 : PySem.W.nsIn K mainGlobals "_law_free" = some (some (.ref f7))) (l7 : K.lookup f7 = some ⟨oc7, od7, .func (PySem.W.fnOf "_law_free" "_law_free" (defArgs s__law_free) (defBody s__law_free) (defScope s__law_free) .none kV7 dc7 pm7 an7 cd7 ct7), sl7⟩) (cc7 : PySem.W.codeIn K cd7 "_law_free" = true) (k7 : PySem.W.keepIn K (.ref f7) = true)
    {f8 : Addr} {od8 an8 : Option Addr} {sl8 : Array (Option Value)} {oc8 kV8 dc8 pm8 cd8 ct8 : Value} (a8 : PySem.W.nsIn K mainGlobals "law" = some (some (.ref f8))) (l8 : K.lookup f8 = some ⟨oc8, od8, .func (PySem.W.fnOf "law" "law" (defArgs s_law) (defBody s_law) (defScope s_law) .none kV8 dc8 pm8 an8 cd8 ct8), sl8⟩) (cc8 : PySem.W.codeIn K cd8 "law" = true) (k8 : PySem.W.keepIn K (.ref f8) = true) : G K mg where
  b_int := PySem.W.mg_none_of X Gn z_int
  b_len := PySem.W.mg_none_of X Gn z_len
  b_max := PySem.W.mg_none_of X Gn z_max
  b_range := PySem.W.mg_none_of X Gn z_range
  f_place_of := ⟨f0, _, fun_mk (st := s_place_of) l0 cc0 k0, PySem.W.mg_of X Gn a0, fun us hl => match us, hl with | [_, _, _], _ => rfl⟩
  f_part_of := ⟨f1, _, fun_mk (st := s_part_of) l1 cc1 k1, PySem.W.mg_of X Gn a1, fun us hl => match us, hl with | [_, _, _], _ => rfl⟩
  f_point_at := ⟨f2, _, fun_mk (st := s_point_at) l2 cc2 k2, PySem.W.mg_of X Gn a2, fun us hl => match us, hl with | [_, _, _, _, _], _ => rfl⟩
  f__law_cell_at := ⟨f3, _, fun_mk (st := s__law_cell_at) l3 cc3 k3, PySem.W.mg_of X Gn a3, fun us hl => match us, hl with | [_, _], _ => rfl⟩
  f__law_mixed := ⟨f4, _, fun_mk (st := s__law_mixed) l4 cc4 k4, PySem.W.mg_of X Gn a4, fun us hl => match us, hl with | [_, _, _], _ => rfl⟩
  f__law_prime := ⟨f5, _, fun_mk (st := s__law_prime) l5 cc5 k5, PySem.W.mg_of X Gn a5, fun us hl => match us, hl with | [_, _], _ => rfl⟩
  f__law_counts := ⟨f6, _, fun_mk (st := s__law_counts) l6 cc6 k6, PySem.W.mg_of X Gn a6, fun us hl => match us, hl with | [_, _, _], _ => rfl⟩
  f__law_free := ⟨f7, _, fun_mk (st := s__law_free) l7 cc7 k7, PySem.W.mg_of X Gn a7, fun us hl => match us, hl with | [_, _, _], _ => rfl⟩
  f_law := ⟨f8, _, fun_mk (st := s_law) l8 cc8 k8, PySem.W.mg_of X Gn a8, fun us hl => match us, hl with | [_], _ => rfl⟩
end My
open PySem PySem.W PyProof.Rows
set_option maxRecDepth 100000 in
set_option maxHeartbeats 0 in
theorem PySem.Challenge.cw_layersplit_k07_whole_layers_are_free_holds : PySem.Challenge.rw_layersplit_k07_whole_layers_are_free.Holds := by
  w_on; o_law; k_head; (case hw => w_witness2)
  k_fill
  refine L2.walk_of (l := PySem.Challenge.rw_layersplit_k07_whole_layers_are_free) (n := 63) (k := 5) (x := "_law_script") (CX := fun _ => L2.CX0) (sp := fun w => Ly.spR _ Ly.RLaw) rfl (by decide) rfl ⟨rfl, by decide, by decide⟩ (fun w h Y => PySem.W.kIn_of Y) ?F (fun w H a ns hl _ hS => Ly.law_start hl hS) (fun _ _ _ _ _ h => h)
  case F =>
    intro w mg fa h KX Gn hmg
    refine' (fun g => Ly.Df.fin (My.G.f_law g) hmg (fun base _ _ => My.ok_law g)) (My.g_mk KX Gn ?z_int ?z_len ?z_max ?z_range ?a0 ?l0 ?cc0 ?k0 ?a1 ?l1 ?cc1 ?k1 ?a2 ?l2 ?cc2 ?k2 ?a3 ?l3 ?cc3 ?k3 ?a4 ?l4 ?cc4 ?k4 ?a5 ?l5 ?cc5 ?k5 ?a6 ?l6 ?cc6 ?k6 ?a7 ?l7 ?cc7 ?k7 ?a8 ?l8 ?cc8 ?k8)
    (case z_int => k_is)
    (case z_len => k_is)
    (case z_max => k_is)
    (case z_range => k_is)
    (case a0 => k_is)
    (case l0 => k_is)
    (case cc0 => k_is)
    (case k0 => k_is)
    (case a1 => k_is)
    (case l1 => k_is)
    (case cc1 => k_is)
    (case k1 => k_is)
    (case a2 => k_is)
    (case l2 => k_is)
    (case cc2 => k_is)
    (case k2 => k_is)
    (case a3 => k_is)
    (case l3 => k_is)
    (case cc3 => k_is)
    (case k3 => k_is)
    (case a4 => k_is)
    (case l4 => k_is)
    (case cc4 => k_is)
    (case k4 => k_is)
    (case a5 => k_is)
    (case l5 => k_is)
    (case cc5 => k_is)
    (case k5 => k_is)
    (case a6 => k_is)
    (case l6 => k_is)
    (case cc6 => k_is)
    (case k6 => k_is)
    (case a7 => k_is)
    (case l7 => k_is)
    (case cc7 => k_is)
    (case k7 => k_is)
    (case a8 => k_is)
    (case l8 => k_is)
    (case cc8 => k_is)
    (case k8 => k_is)
