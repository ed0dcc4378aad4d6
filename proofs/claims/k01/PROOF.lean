import PyProof.Rows.All
import Wide.All
import OpenK.AllK
import Wide.FinOn
import HandS.ForMost
import HandS.Evl
import HandS.Wide
import HandS.WideBits
import HandS.Deep
import HandS.TupAny
import HandS.TupLe
import HandS.IsInst
import HandS.Replace
import KE.KTupSum
import HandS.Codes
import PySem.Challenge.RW_layersplit_k01_names_known
set_option Elab.async false
set_option linter.all false
set_option maxRecDepth 100000
set_option maxHeartbeats 4000000
/-! LyA: judgements over data: a frozen part F of the heap H carries all data; what is owned stands in H alone. -/
namespace Ly
open PySem L2 Evl

theorem no_of {p : Prop} [Decidable p] (h : (!decide p) = true) : ¬ p := fun z => by rw [decide_eq_true z] at h; cases h
theorem yes_of {p : Prop} [Decidable p] (h : (!decide p) = false) : p := by
  by_cases z : p
  · exact z
  · rw [decide_eq_false z] at h; cases h
abbrev D := PySem.PyData
abbrev Fg := PySem.W.Frag

/-! ### growth -/
structure Gr (F H F2 H2 : Hp) : Prop where
  fx : Ex F F2
  hx : Ex H H2
  fh : Ex F2 H2
  old : ∀ p, H p ≠ none → F2 p = F p
section
variable {F H F1 H1 F2 H2 F3 H3 : Hp} {p l : Addr} {o : HO} {K : Fg}
theorem Gr.refl (h : Ex F H) : Gr F H F H := ⟨Ex.refl F, Ex.refl H, h, fun _ _ => rfl⟩
theorem ex_nn (e : Ex H H2) (h : H p ≠ none) : H2 p ≠ none := by
  cases q : H p with
  | none => exact absurd q h
  | some o => rw [e p o q]; exact fun z => nomatch z
theorem Gr.trans (a : Gr F H F2 H2) (b : Gr F2 H2 F3 H3) : Gr F H F3 H3 :=
  ⟨a.fx.trans b.fx, a.hx.trans b.hx, b.fh, fun p h => (b.old p (ex_nn a.hx h)).trans (a.old p h)⟩
theorem Gr.grow (a : Gr F H F2 H2) (e : Ex H2 H3) : Gr F H F2 H3 := ⟨a.fx, a.hx.trans e, a.fh.trans e, a.old⟩
theorem Gr.new (fh : Ex F H) (hp : H p = none) : Gr F H (upd F p o) (upd H p o) := by
  have fp : F p = none := fresh_back fh hp
  refine ⟨Ex.new fp, Ex.new hp, fun b u h => ?_, fun b hb => ?_⟩
  · by_cases e : b = p
    · subst e; rw [upd_same] at h ⊢; exact h
    · rw [upd_ne e] at h ⊢; exact fh b u h
  · have e : b ≠ p := fun z => hb (by rw [z]; exact hp)
    rw [upd_ne e]
/-- a thing is made that stays one's own -/
theorem Gr.own (fh : Ex F H) (hp : H p = none) : Gr F H F (upd H p o) := ⟨Ex.refl F, Ex.new hp, fh.trans (Ex.new hp), fun _ _ => rfl⟩
/-- what is one's own changes -/
theorem Gr.mut (g : Gr F H F2 H2) (h0 : H l = none) (hf : F2 l = none) : Gr F H F2 (upd H2 l o) := by
  refine ⟨g.fx, fun b u h => ?_, fun b u h => ?_, g.old⟩
  · rw [upd_ne (ne_of_none h h0)]; exact g.hx b u h
  · rw [upd_ne (ne_of_none h hf)]; exact g.fh b u h
/-- what is one's own is handed out -/
theorem Gr.give (g : Gr F H F2 H2) (h0 : H l = none) (hl : H2 l = some o) (hf : F2 l = none) : Gr F H (upd F2 l o) H2 := by
  refine ⟨g.fx.trans (Ex.new hf), g.hx, fun b u h => ?_, fun b hb => ?_⟩
  · by_cases e : b = l
    · subst e; rw [upd_same] at h; cases h; exact hl
    · rw [upd_ne e] at h; exact g.fh b u h
  · have e : b ≠ l := fun z => hb (by rw [z]; exact h0)
    rw [upd_ne e]; exact g.old b hb
theorem Gr.non (g : Gr F H F2 H2) (h : H l ≠ none) (hf : F l = none) : F2 l = none := (g.old l h).trans hf
theorem Gr.back (g : Gr F H F2 H2) (h : H2 l = none) : H l = none := fresh_back g.hx h

/-! ### data -/
mutual
theorem dp_mono (e : Ex F F2) : ∀ (d : D) (v : V), Dp K F v d → Dp K F2 v d
  | .none, _, h => by cases h; exact .non
  | .bool b, _, h => by cases h; exact .bl b
  | .int i, _, h => by cases h; exact .int i
  | .str x, _, h => by cases h; exact .str x
  | .list ds, _, h => by
    cases h with
    | lst hs ha => exact .lst (ex_l e hs) (dps_mono e ds _ ha)
  | .tuple ds, _, h => by
    cases h with
    | tup hs ha => exact .tup (ex_t e hs) (dps_mono e ds _ ha)
  | .dict _, _, h => by cases h
theorem dps_mono (e : Ex F F2) : ∀ (ds : List D) (vs : List V), DpAll K F vs ds → DpAll K F2 vs ds
  | [], _, h => by cases h; exact .nil
  | d :: ds, _, h => by
    cases h with
    | cons h1 h2 => exact .cons (dp_mono e d _ h1) (dps_mono e ds _ h2)
end
end
end Ly
namespace L2
open PySem Ly Evl
section
variable {K : PySem.W.Frag} {F F2 : Hp} {v : V} {vs : List V} {d : PyData} {ds es : List PyData}
theorem Dp.up (h : Dp K F v d) (e : Ex F F2) : Dp K F2 v d := dp_mono e d v h
theorem DpAll.up (h : DpAll K F vs ds) (e : Ex F F2) : DpAll K F2 vs ds := dps_mono e ds vs h
theorem DpAll.length : ∀ {vs : List V} {ds : List PyData}, DpAll K F vs ds → vs.length = ds.length
  | _, [], h => by cases h; rfl
  | _, d :: ds, h => by
    cases h with
    | cons _ h2 => rw [List.length_cons, List.length_cons, DpAll.length h2]
theorem DpAll.get : ∀ {vs : List V} {ds : List PyData} {i : Nat} {d : PyData}, DpAll K F vs ds → ds[i]? = some d → ∃ v, vs[i]? = some v ∧ Dp K F v d
  | _, [], i, d, h, e => by simp at e
  | _, x :: ds, 0, d, h, e => by
    cases h with
    | cons h1 h2 =>
      have q : x = d := Option.some.inj e
      subst q
      exact ⟨_, rfl, h1⟩
  | _, x :: ds, i + 1, d, h, e => by
    cases h with
    | cons h1 h2 =>
      obtain ⟨v, e1, r⟩ := DpAll.get (i := i) (d := d) h2 (by simpa using e)
      exact ⟨v, by simpa using e1, r⟩
theorem DpAll.getV : ∀ {vs : List V} {ds : List PyData} {i : Nat} {v : V}, DpAll K F vs ds → vs[i]? = some v → ∃ d, ds[i]? = some d ∧ Dp K F v d
  | _, [], i, v, h, e => by cases h; simp at e
  | _, x :: ds, 0, v, h, e => by
    cases h with
    | cons h1 h2 =>
      have q := Option.some.inj e
      subst q
      exact ⟨_, rfl, h1⟩
  | _, x :: ds, i + 1, v, h, e => by
    cases h with
    | cons h1 h2 =>
      obtain ⟨d, e1, r⟩ := DpAll.getV (i := i) (v := v) h2 (by simpa using e)
      exact ⟨d, by simpa using e1, r⟩
theorem DpAll.append : ∀ {vs ws : List V} {ds es : List PyData}, DpAll K F vs ds → DpAll K F ws es → DpAll K F (vs ++ ws) (ds ++ es)
  | _, _, [], _, h, k => by cases h; exact k
  | _, _, d :: ds, _, h, k => by
    cases h with
    | cons h1 h2 => exact .cons h1 (DpAll.append h2 k)
theorem DpAll.take : ∀ {vs : List V} {ds : List PyData} (n : Nat), DpAll K F vs ds → DpAll K F (vs.take n) (ds.take n)
  | _, _, 0, _ => .nil
  | _, [], _ + 1, h => by cases h; exact .nil
  | _, d :: ds, n + 1, h => by
    cases h with
    | cons h1 h2 => exact .cons h1 (DpAll.take n h2)
theorem DpAll.drop : ∀ {vs : List V} {ds : List PyData} (n : Nat), DpAll K F vs ds → DpAll K F (vs.drop n) (ds.drop n)
  | _, _, 0, h => h
  | _, [], _ + 1, h => by cases h; exact .nil
  | _, d :: ds, n + 1, h => by
    cases h with
    | cons h1 h2 => exact DpAll.drop n h2
theorem dps_ints : ∀ (ns : List Int), DpAll K F (ns.map V.int) (ns.map PyData.int)
  | [] => .nil
  | n :: ns => .cons (.int n) (dps_ints ns)
theorem dps_strs : ∀ (ns : List Str), DpAll K F (ns.map V.str) (ns.map PyData.str)
  | [] => .nil
  | n :: ns => .cons (.str n) (dps_strs ns)
theorem dps_bools : ∀ (ns : List Bool), DpAll K F (ns.map V.bl) (ns.map PyData.bool)
  | [] => .nil
  | n :: ns => .cons (.bl n) (dps_bools ns)
theorem dps_ints_inv : ∀ (ns : List Int) {vs : List V}, DpAll K F vs (ns.map PyData.int) → vs = ns.map V.int
  | [], _, h => by cases h; rfl
  | n :: ns, _, h => by
    cases h with
    | cons h1 h2 =>
      cases h1
      rw [dps_ints_inv ns h2]
      rfl
theorem dps_bools_inv : ∀ (ns : List Bool) {vs : List V}, DpAll K F vs (ns.map PyData.bool) → vs = ns.map V.bl
  | [], _, h => by cases h; rfl
  | n :: ns, _, h => by
    cases h with
    | cons h1 h2 =>
      cases h1
      rw [dps_bools_inv ns h2]
      rfl
theorem dps_strs_inv : ∀ (ns : List Str) {vs : List V}, DpAll K F vs (ns.map PyData.str) → vs = ns.map V.str
  | [], _, h => by cases h; rfl
  | n :: ns, _, h => by
    cases h with
    | cons h1 h2 =>
      cases h1
      rw [dps_strs_inv ns h2]
      rfl
theorem dp_ints {a : Addr} {ns : List Int} (h : SqL K F a (ns.map V.int)) : Dp K F (.ref a) (.list (ns.map PyData.int)) := .lst h (dps_ints ns)
end
end L2
namespace Ly
open PySem L2 Evl
/-- a value that is its own datum -/
def scV : D → Option V
  | .none => some .non
  | .bool b => some (.bl b)
  | .int i => some (.int i)
  | .str x => some (.str x)
  | _ => none
theorem scV_inv {K : Fg} {F : Hp} {v w : V} {d : D} (e : scV d = some v) (h : Dp K F w d) : w = v := by
  cases h <;> (unfold scV at e; first | (cases e; rfl) | cases e)
theorem scV_dp {K : Fg} {F : Hp} {v : V} {d : D} (e : scV d = some v) : Dp K F v d := by
  cases d <;> (unfold scV at e; first | (cases e; constructor; done) | cases e)

/-! ### readings over data -/
/-- what is handed back: a value that bears the datum -/
def Ans (K : Fg) (F H : Hp) (r : D) (Q : VK) : Prop := ∀ v F2 H2, Gr F H F2 H2 → Dp K F2 v r → Q v H2
def rD2 (K : Fg) (R : D → D → D → Prop) : R2 := fun x y H Q => ∃ F d e r, Ex F H ∧ Dp K F x d ∧ Dp K F y e ∧ R d e r ∧ Ans K F H r Q
def rD1 (K : Fg) (R : D → D → Prop) : V → Hp → VK → Prop := fun x H Q => ∃ F d r, Ex F H ∧ Dp K F x d ∧ R d r ∧ Ans K F H r Q
def rDn (K : Fg) (R : List D → D → Prop) : List V → Hp → VK → Prop := fun vs H Q => ∃ F ds r, Ex F H ∧ DpAll K F vs ds ∧ R ds r ∧ Ans K F H r Q
def rDm (K : Fg) (R : D → List D → D → Prop) : V → List V → Hp → VK → Prop := fun x vs H Q => ∃ F d ds r, Ex F H ∧ Dp K F x d ∧ DpAll K F vs ds ∧ R d ds r ∧ Ans K F H r Q
def rDs (K : Fg) (R : D → Option Int → Option Int → D → Prop) : V → Option Int → Option Int → Hp → VK → Prop := fun x lo hi H Q => ∃ F d r, Ex F H ∧ Dp K F x d ∧ R d lo hi r ∧ Ans K F H r Q
/-- the promise of a def that is a relation of data -/
def spR (K : Fg) (R : List D → D → Prop) : Sp := fun vs H Q _ => rDn K R vs H Q
theorem spR_len {K : Fg} {R : List D → D → Prop} {n : Nat} (h : ∀ ds r, R ds r → ds.length = n) : ∀ vs H Q E, spR K R vs H Q E → vs.length = n := fun vs H Q E ⟨F, ds, r, _, ha, hr, _⟩ => by
  rw [ha.length]; exact h ds r hr

/-! ### what evaluates to what -/
def EvD (K : Fg) (te : TE) (σ : L2.St) (F H : Hp) (d : D) : Prop := ∀ F1 H1, Ex F F1 → Ex H H1 → Ex F1 H1 → ∀ Q : VK, (∀ v F2 H2, Gr F1 H1 F2 H2 → Dp K F2 v d → Q v H2) → te σ H1 Q
def EvDs (K : Fg) (ta : TA) (σ : L2.St) (F H : Hp) (ds : List D) : Prop := ∀ F1 H1, Ex F F1 → Ex H H1 → Ex F1 H1 → ∀ Q : List V → Hp → Prop, (∀ vs F2 H2, Gr F1 H1 F2 H2 → DpAll K F2 vs ds → Q vs H2) → ta σ H1 Q
def EvB (t : TT) (σ : L2.St) (F H : Hp) (b : Bool) : Prop := ∀ F1 H1, Ex F F1 → Ex H H1 → Ex F1 H1 → ∀ Q : Bool → Hp → Prop, (∀ H2, Ex H1 H2 → Q b H2) → t σ H1 Q
def EvI (K : Fg) (to : TO) (σ : L2.St) (F H : Hp) (o : Option Int) : Prop := ∀ F1 H1, Ex F F1 → Ex H H1 → Ex F1 H1 → ∀ Q : Option Int → Hp → Prop, (∀ H2, Ex H1 H2 → Q o H2) → to σ H1 Q

section
variable {K : Fg} {σ : L2.St} {F H F' H' : Hp} {ta tb te tx : TE} {t u : TT} {x y z v : V} {d e r : D} {b : Bool}
theorem EvD.up (h : EvD K te σ F H d) (a : Ex F F') (c : Ex H H') : EvD K te σ F' H' d := fun F1 H1 e1 e2 => h F1 H1 (a.trans e1) (c.trans e2)
theorem EvB.up (h : EvB t σ F H b) (a : Ex F F') (c : Ex H H') : EvB t σ F' H' b := fun F1 H1 e1 e2 => h F1 H1 (a.trans e1) (c.trans e2)
theorem EvD.to (h : EvD K te σ F H d) (q : d = e) : EvD K te σ F H e := q ▸ h
theorem EvB.to {c : Bool} (h : EvB t σ F H b) (q : b = c) : EvB t σ F H c := q ▸ h
theorem EvDs.to {ds es : List D} {ta : TA} (h : EvDs K ta σ F H ds) (q : ds = es) : EvDs K ta σ F H es := q ▸ h
/-- told with what stands beside -/
theorem EvD.own (h : EvD K te σ F' H d) (hs : scV d = some v) (h1 : ∀ F1 H1, Ex F F1 → Ex H H1 → Ex F1 H1 → ∃ F2, Ex F' F2 ∧ Ex F2 H1) : EvD K te σ F H d := fun F1 H1 e1 e2 e3 Q q => by
  obtain ⟨F2, a, c⟩ := h1 F1 H1 e1 e2 e3
  refine h F2 H1 a e2 c Q fun w F3 H3 g hw => ?_
  have ew := scV_inv hs hw
  subst ew
  exact q _ F1 H3 ⟨Ex.refl _, g.hx, e3.trans g.hx, fun _ _ => rfl⟩ (scV_dp hs)
theorem EvB.own (h : EvB t σ F' H b) (h1 : ∀ F1 H1, Ex F F1 → Ex H H1 → Ex F1 H1 → ∃ F2, Ex F' F2 ∧ Ex F2 H1) : EvB t σ F H b := fun F1 H1 e1 e2 e3 Q q => by
  obtain ⟨F2, a, c⟩ := h1 F1 H1 e1 e2 e3
  exact h F2 H1 a e2 c Q q
/-- with one's own list at l beside -/
theorem ownL {l : Addr} {o : HO} (hl : H l = some o) : ∀ F1 H1, Ex F F1 → Ex H H1 → Ex F1 H1 → ∃ F2, Ex (upd F l o) F2 ∧ Ex F2 H1 := fun F1 H1 e1 e2 e3 =>
  ⟨upd F1 l o, fun b u q => by
    by_cases eb : b = l
    · subst eb; rw [upd_same] at q ⊢; exact q
    · rw [upd_ne eb] at q ⊢; exact e1 b u q, fun b u q => by
    by_cases eb : b = l
    · subst eb; rw [upd_same] at q; cases q; exact e2 _ _ hl
    · rw [upd_ne eb] at q; exact e3 b u q⟩
/-! values -/
theorem d_var {i : Nat} (h : σ[i]? = some (some v)) (hd : Dp K F v d) : EvD K (tVar i) σ F H d := fun F1 H1 e1 _ e3 _ q => ⟨v, h, q v F1 H1 (Gr.refl e3) (hd.up e1)⟩
theorem d_c (hd : Dp K F v d) : EvD K (tC v) σ F H d := fun F1 H1 e1 _ e3 _ q => q v F1 H1 (Gr.refl e3) (hd.up e1)
theorem ex_join {F1 H1 F2 H2 : Hp} (g : Gr F1 H1 F2 H2) (h : Ex H H1) : Ex H H2 := h.trans g.hx
theorem d_op2 {R : D → D → D → Prop} (ha : EvD K ta σ F H d) (hb : EvD K tb σ F H e) (hr : R d e r) : EvD K (tOp (rD2 K R) ta tb) σ F H r := fun F1 H1 e1 e2 e3 Q q =>
  ha F1 H1 e1 e2 e3 _ fun x F2 H2 g2 hx => hb F2 H2 (e1.trans g2.fx) (e2.trans g2.hx) g2.fh _ fun y F3 H3 g3 hy =>
    ⟨F3, d, e, r, g3.fh, hx.up g3.fx, hy, hr, fun v F4 H4 g4 hv => q v F4 H4 ((g2.trans g3).trans g4) hv⟩
theorem d_un {R : D → D → Prop} (ha : EvD K ta σ F H d) (hr : R d r) : EvD K (tUn (rD1 K R) ta) σ F H r := fun F1 H1 e1 e2 e3 Q q =>
  ha F1 H1 e1 e2 e3 _ fun x F2 H2 g2 hx => ⟨F2, d, r, g2.fh, hx, hr, fun v F4 H4 g4 hv => q v F4 H4 (g2.trans g4) hv⟩
theorem ds_nil : EvDs K tNil σ F H [] := fun F1 H1 _ _ e3 _ q => q [] F1 H1 (Gr.refl e3) .nil
theorem ds_cons {tr : TA} {ds : List D} (ha : EvD K ta σ F H d) (hr : EvDs K tr σ F H ds) : EvDs K (tCons ta tr) σ F H (d :: ds) := fun F1 H1 e1 e2 e3 Q q =>
  ha F1 H1 e1 e2 e3 _ fun x F2 H2 g2 hx => hr F2 H2 (e1.trans g2.fx) (e2.trans g2.hx) g2.fh _ fun xs F3 H3 g3 hxs => q (x :: xs) F3 H3 (g2.trans g3) (.cons (hx.up g3.fx) hxs)
theorem d_call {R : List D → D → Prop} {E : XK} {ta : TA} {ds : List D} (ha : EvDs K ta σ F H ds) (hr : R ds r) : EvD K (tCall (spR K R) [] E ta) σ F H r := fun F1 H1 e1 e2 e3 Q q =>
  ha F1 H1 e1 e2 e3 _ fun xs F2 H2 g2 hx => by
    show rDn K R (xs ++ []) H2 Q
    rw [List.append_nil]
    exact ⟨F2, ds, r, g2.fh, hx, hr, fun v F4 H4 g4 hv => q v F4 H4 (g2.trans g4) hv⟩
theorem d_cb {R : List D → D → Prop} {ta : TA} {ds : List D} (ha : EvDs K ta σ F H ds) (hr : R ds r) : EvD K (tCB (rDn K R) ta) σ F H r := fun F1 H1 e1 e2 e3 Q q =>
  ha F1 H1 e1 e2 e3 _ fun xs F2 H2 g2 hx => ⟨F2, ds, r, g2.fh, hx, hr, fun v F4 H4 g4 hv => q v F4 H4 (g2.trans g4) hv⟩
theorem d_tup {ta : TA} {ds : List D} (ha : EvDs K ta σ F H ds) (hl : ds.length ≤ 100000) : EvD K (tTup ta) σ F H (.tuple ds) := fun F1 H1 e1 e2 e3 Q q =>
  ha F1 H1 e1 e2 e3 _ fun xs F2 H2 g2 hx => ⟨by rw [hx.length]; exact sz_of hl, fun p hp => q (.ref p) _ _ (g2.trans (Gr.new g2.fh hp)) (.tup (st_of upd_same) (hx.up (Ex.new (fresh_back g2.fh hp))))⟩
theorem d_lst {ta : TA} {ds : List D} (ha : EvDs K ta σ F H ds) (hl : ds.length ≤ 100000) : EvD K (tLst ta) σ F H (.list ds) := fun F1 H1 e1 e2 e3 Q q =>
  ha F1 H1 e1 e2 e3 _ fun xs F2 H2 g2 hx => ⟨by rw [hx.length]; exact sz_of hl, fun p hp => q (.ref p) _ _ (g2.trans (Gr.new g2.fh hp)) (.lst (sq_of upd_same) (hx.up (Ex.new (fresh_back g2.fh hp))))⟩
theorem d_sl {R : D → Option Int → Option Int → D → Prop} {tl th : TO} {lo hi : Option Int} (ha : EvD K te σ F H d) (h1 : EvI K tl σ F H lo) (h2 : EvI K th σ F H hi) (hr : R d lo hi r) : EvD K (tSl (rDs K R) te tl th) σ F H r := fun F1 H1 e1 e2 e3 Q q =>
  ha F1 H1 e1 e2 e3 _ fun x F2 H2 g2 hx => h1 F2 H2 (e1.trans g2.fx) (e2.trans g2.hx) g2.fh _ fun H3 x3 => h2 F2 H3 (e1.trans g2.fx) ((e2.trans g2.hx).trans x3) (g2.fh.trans x3) _ fun H4 x4 =>
    ⟨F2, d, r, (g2.fh.trans x3).trans x4, hx, hr, fun v F5 H5 g5 hv => q v F5 H5 (((g2.grow x3).grow x4).trans g5) hv⟩
theorem i_none : EvI K tNoPart σ F H none := fun _ H1 _ _ _ _ q => q H1 (Ex.refl H1)
theorem i_some {i : Int} (h : EvD K te σ F H (.int i)) : EvI K (tPart te) σ F H (some i) := fun F1 H1 e1 e2 e3 Q q =>
  h F1 H1 e1 e2 e3 _ fun v F2 H2 g hv => by
    cases hv
    exact ⟨i, rfl, q H2 g.hx⟩
/-! tests -/
theorem b_test (h : EvD K te σ F H (.bool b)) : EvB (tTest te) σ F H b := fun F1 H1 e1 e2 e3 Q q => h F1 H1 e1 e2 e3 _ fun v F2 H2 g hv => by
  cases hv
  exact ⟨b, rfl, q H2 g.hx⟩
theorem b_B (h : EvD K te σ F H (.bool b)) : EvB (tB te) σ F H b := fun F1 H1 e1 e2 e3 Q q => h F1 H1 e1 e2 e3 _ fun v F2 H2 g hv => by
  cases hv
  exact ⟨b, rfl, q H2 g.hx⟩
theorem b_var {i : Nat} (h : σ[i]? = some (some (.bl b))) : EvB (tB (tVar i)) σ F H b := fun _ H1 _ _ _ _ q => ⟨.bl b, h, b, rfl, q H1 (Ex.refl H1)⟩
theorem b_yes : EvB tYes σ F H true := fun _ H1 _ _ _ _ q => q H1 (Ex.refl H1)
theorem b_and {a b : Bool} (h1 : EvB t σ F H a) (h2 : a = true → EvB u σ F H b) : EvB (tAnd t u) σ F H (a && b) := fun F1 H1 e1 e2 e3 Q q => h1 F1 H1 e1 e2 e3 _ fun H2 g => by
  cases a with
  | true =>
    show u σ H2 Q
    exact h2 rfl F1 H2 e1 (e2.trans g) (e3.trans g) Q fun H3 k => q H3 (g.trans k)
  | false =>
    show Q false H2
    exact q H2 g
theorem b_or {a b : Bool} (h1 : EvB t σ F H a) (h2 : a = false → EvB u σ F H b) : EvB (tOr t u) σ F H (a || b) := fun F1 H1 e1 e2 e3 Q q => h1 F1 H1 e1 e2 e3 _ fun H2 g => by
  cases a with
  | true =>
    show Q true H2
    exact q H2 g
  | false =>
    show u σ H2 Q
    exact h2 rfl F1 H2 e1 (e2.trans g) (e3.trans g) Q fun H3 k => q H3 (g.trans k)
theorem b_not {a : Bool} (h1 : EvB t σ F H a) : EvB (tNot t) σ F H (!a) := fun F1 H1 e1 e2 e3 _ q => h1 F1 H1 e1 e2 e3 _ fun H2 g => q H2 g
theorem d_andV {a b : Bool} (h1 : EvD K ta σ F H (.bool a)) (h2 : a = true → EvD K tb σ F H (.bool b)) : EvD K (tAndV ta tb) σ F H (.bool (a && b)) := fun F1 H1 e1 e2 e3 Q q => h1 F1 H1 e1 e2 e3 _ fun v F2 H2 g hv => by
  cases hv
  refine ⟨a, rfl, ?_⟩
  cases a with
  | true =>
    show tb σ H2 Q
    exact h2 rfl F2 H2 (e1.trans g.fx) (e2.trans g.hx) g.fh Q fun v F3 H3 g3 hv => q v F3 H3 (g.trans g3) hv
  | false =>
    show Q (.bl false) H2
    exact q _ F2 H2 g (.bl _)
theorem d_orV {a b : Bool} (h1 : EvD K ta σ F H (.bool a)) (h2 : a = false → EvD K tb σ F H (.bool b)) : EvD K (tOrV ta tb) σ F H (.bool (a || b)) := fun F1 H1 e1 e2 e3 Q q => h1 F1 H1 e1 e2 e3 _ fun v F2 H2 g hv => by
  cases hv
  refine ⟨a, rfl, ?_⟩
  cases a with
  | true =>
    show Q (.bl true) H2
    exact q _ F2 H2 g (.bl _)
  | false =>
    show tb σ H2 Q
    exact h2 rfl F2 H2 (e1.trans g.fx) (e2.trans g.hx) g.fh Q fun v F3 H3 g3 hv => q v F3 H3 (g.trans g3) hv
theorem d_notV {a : Bool} (h1 : EvD K ta σ F H (.bool a)) : EvD K (tNotV ta) σ F H (.bool (!a)) := fun F1 H1 e1 e2 e3 Q q => h1 F1 H1 e1 e2 e3 _ fun v F2 H2 g hv => by
  cases hv
  exact ⟨a, rfl, q _ F2 H2 g (.bl _)⟩
theorem d_if (h : EvB t σ F H b) (h1 : b = true → EvD K ta σ F H d) (h2 : b = false → EvD K tb σ F H d) : EvD K (tIf t ta tb) σ F H d := fun F1 H1 e1 e2 e3 Q q => h F1 H1 e1 e2 e3 _ fun H2 g => by
  cases b with
  | true =>
    show ta σ H2 Q
    exact h1 rfl F1 H2 e1 (e2.trans g) (e3.trans g) Q fun v F3 H3 g3 hv => q v F3 H3 ⟨g3.fx, g.trans g3.hx, g3.fh, fun p hp => g3.old p (ex_nn g hp)⟩ hv
  | false =>
    show tb σ H2 Q
    exact h2 rfl F1 H2 e1 (e2.trans g) (e3.trans g) Q fun v F3 H3 g3 hv => q v F3 H3 ⟨g3.fx, g.trans g3.hx, g3.fh, fun p hp => g3.old p (ex_nn g hp)⟩ hv
/-- a < b < c -/
theorem d_chain {R R' : D → D → D → Prop} {tc : TE} {f : D} {p q : Bool} (ha : EvD K ta σ F H d) (hb : EvD K tb σ F H e) (hr : R d e (.bool p)) (h2 : p = true → EvD K tc σ F H f) (h3 : p = true → R' e f (.bool q)) :
    EvD K (tChain (rD2 K R) (rD2 K R') ta tb tc) σ F H (.bool (p && q)) := fun F1 H1 e1 e2 e3 Q k =>
  ha F1 H1 e1 e2 e3 _ fun x F2 H2 g2 hx => hb F2 H2 (e1.trans g2.fx) (e2.trans g2.hx) g2.fh _ fun y F3 H3 g3 hy =>
    ⟨F3, d, e, .bool p, g3.fh, hx.up g3.fx, hy, hr, fun v F4 H4 g4 hv => by
      cases hv
      refine ⟨p, rfl, ?_⟩
      have g := (g2.trans g3).trans g4
      cases p with
      | false =>
        show Q (.bl false) H4
        exact k _ F4 H4 g (.bl _)
      | true =>
        refine h2 rfl F4 H4 (e1.trans g.fx) (e2.trans g.hx) g.fh _ fun w F5 H5 g5 hw => ?_
        exact ⟨F5, e, f, .bool q, g5.fh, hy.up (g4.fx.trans g5.fx), hw, h3 rfl, fun v F6 H6 g6 hv => k v F6 H6 ((g.trans g5).trans g6) hv⟩⟩
end
end Ly
/-! LyB: Python's operations as relations of data. -/
namespace Ly
open PySem L2 Evl
/-! ### answers -/
section
variable {K : Fg} {F H : Hp} {d r : D} {Q : VK} {v : V}
theorem Ans.sc (q : Ans K F H r Q) (fh : Ex F H) (h : scV r = some v) : Q v H := q v F H (Gr.refl fh) (scV_dp h)
theorem Ans.dp (q : Ans K F H r Q) (fh : Ex F H) (h : Dp K F v r) : Q v H := q v F H (Gr.refl fh) h
theorem Ans.tup (q : Ans K F H (.tuple ds) Q) (fh : Ex F H) {vs : List V} (h : DpAll K F vs ds) {p : Addr} (hp : H p = none) : Q (.ref p) (upd H p (.tup vs)) :=
  q _ _ _ (Gr.new fh hp) (.tup (st_of upd_same) (h.up (Ex.new (fresh_back fh hp))))
theorem Ans.lst (q : Ans K F H (.list ds) Q) (fh : Ex F H) {vs : List V} (h : DpAll K F vs ds) {p : Addr} (hp : H p = none) : Q (.ref p) (upd H p (.lst vs)) :=
  q _ _ _ (Gr.new fh hp) (.lst (sq_of upd_same) (h.up (Ex.new (fresh_back fh hp))))
end
/-! ### numbers -/
inductive AddD : D → D → D → Prop
  | int (i j : Int) : AddD (.int i) (.int j) (.int (i + j))
  | str (x y : Str) (h : x.length + y.length ≤ 100000) : AddD (.str x) (.str y) (.str (x ++ y))
  | tup (xs ys : List D) (h : xs.length + ys.length ≤ 100000) : AddD (.tuple xs) (.tuple ys) (.tuple (xs ++ ys))
inductive SubD : D → D → D → Prop
  | int (i j : Int) : SubD (.int i) (.int j) (.int (i - j))
inductive MulD : D → D → D → Prop
  | int (i j : Int) (h : CMul i j) : MulD (.int i) (.int j) (.int (i * j))
  | intW (i j : Int) (h : CMulX i j) : MulD (.int i) (.int j) (.int (i * j))
inductive DivD : D → D → D → Prop
  | int (i j : Int) (h : 0 < j ∧ j < 1073741824) : DivD (.int i) (.int j) (.int (i / j))
  | intW (i j : Int) (h : CDivW i j) : DivD (.int i) (.int j) (.int (i / j))
inductive ModD : D → D → D → Prop
  | int (i j : Int) (h : 0 < j) : ModD (.int i) (.int j) (.int (i % j))
inductive PowD : D → D → D → Prop
  | int (i j : Int) (h : CPow i j) : PowD (.int i) (.int j) (.int (i ^ j.toNat))
inductive ShrD : D → D → D → Prop
  | int (i j : Int) (h : 0 ≤ j) : ShrD (.int i) (.int j) (.int (i / 2 ^ j.toNat))
inductive BandD : D → D → D → Prop
  | m31 (i : Int) : BandD (.int i) (.int 2147483647) (.int (i % 2147483648))
inductive LtD : D → D → D → Prop
  | int (i j : Int) : LtD (.int i) (.int j) (.bool (decide (i < j)))
inductive LeD : D → D → D → Prop
  | int (i j : Int) : LeD (.int i) (.int j) (.bool (decide (i ≤ j)))
  | tup (ns ms : List Int) : LeD (.tuple (ns.map PyData.int)) (.tuple (ms.map PyData.int))
      (.bool (Ob.lexAt (fun j => decide (ns.getD j 0 = ms.getD j 0)) (fun j => decide (ns.getD j 0 ≤ ms.getD j 0)) (decide (ns.length ≤ ms.length)) 0 (min ns.length ms.length)))
inductive GtD : D → D → D → Prop
  | int (i j : Int) : GtD (.int i) (.int j) (.bool (decide (j < i)))
inductive GeD : D → D → D → Prop
  | int (i j : Int) : GeD (.int i) (.int j) (.bool (decide (j ≤ i)))
inductive NegD : D → D → Prop
  | int (i : Int) : NegD (.int i) (.int (-i))
/-! ### == -/
inductive EqD : D → D → D → Prop
  | int (i j : Int) : EqD (.int i) (.int j) (.bool (decide (i = j)))
  | str (x y : Str) : EqD (.str x) (.str y) (.bool (decide (x = y)))
  | bool (x y : Bool) : EqD (.bool x) (.bool y) (.bool (decide (x = y)))
  | gen (d e : D) (h : SeqAt.shaped d = true) (h' : SeqAt.shaped e = true) : EqD d e (.bool (PyData.eqv d e))
inductive NeD : D → D → D → Prop
  | int (i j : Int) : NeD (.int i) (.int j) (.bool (!decide (i = j)))
  | str (x y : Str) : NeD (.str x) (.str y) (.bool (!decide (x = y)))
  | bool (x y : Bool) : NeD (.bool x) (.bool y) (.bool (!decide (x = y)))
  | gen (d e : D) (h : SeqAt.shaped d = true) (h' : SeqAt.shaped e = true) : NeD d e (.bool (!PyData.eqv d e))
/-! ### is -/
def isNon : D → Bool
  | .none => true
  | _ => false
def isBit : D → Bool → Bool
  | .bool a, b => decide (a = b)
  | _, _ => false
inductive IsD : D → D → D → Prop
  | non (d : D) : IsD d .none (.bool (isNon d))
  | bool (x y : Bool) : IsD (.bool x) (.bool y) (.bool (decide (x = y)))
  | bit (d : D) (y : Bool) : IsD d (.bool y) (.bool (isBit d y))
inductive NisD : D → D → D → Prop
  | non (d : D) : NisD d .none (.bool (!isNon d))
  | bool (x y : Bool) : NisD (.bool x) (.bool y) (.bool (!decide (x = y)))
  | bit (d : D) (y : Bool) : NisD d (.bool y) (.bool (!isBit d y))
/-! ### in -/
inductive InD : D → D → D → Prop
  | sign (c : Nat) (z : Str) : InD (.str ⟨#[c]⟩) (.str z) (.bool (decide (c ∈ z.cps.toList)))
  | list (d : D) (ds : List D) (h : SeqAt.shaped d = true) (h' : SeqAt.shaped (.list ds) = true) : InD d (.list ds) (.bool (ds.any fun z => PyData.eqv z d))
inductive NinD : D → D → D → Prop
  | sign (c : Nat) (z : Str) : NinD (.str ⟨#[c]⟩) (.str z) (.bool (!decide (c ∈ z.cps.toList)))
  | list (d : D) (ds : List D) (h : SeqAt.shaped d = true) (h' : SeqAt.shaped (.list ds) = true) : NinD d (.list ds) (.bool (!ds.any fun z => PyData.eqv z d))
/-! ### items, slices -/
inductive IxD : D → D → D → Prop
  | list (ds : List D) (i : Int) (d : D) (h : atI ds i = some d) : IxD (.list ds) (.int i) d
  | tup (ds : List D) (i : Int) (d : D) (h : atI ds i = some d) : IxD (.tuple ds) (.int i) d
  | str (z : Str) (i : Int) (c : Nat) (h : z.length ≤ 100000) (h' : atI z.cps.toList i = some c) : IxD (.str z) (.int i) (.str ⟨#[c]⟩)
def cutD (xs : List D) (lo hi : Option Int) : List D := (xs.drop (HT.sIx xs.length 0 lo)).take (HT.sIx xs.length xs.length hi - HT.sIx xs.length 0 lo)
inductive SlD : D → Option Int → Option Int → D → Prop
  | list (ds : List D) (lo hi : Option Int) : SlD (.list ds) lo hi (.list (cutD ds lo hi))
  | tup (ds : List D) (lo hi : Option Int) : SlD (.tuple ds) lo hi (.tuple (cutD ds lo hi))
  | str (z : Str) (lo hi : Option Int) (h : z.length ≤ 100000) : SlD (.str z) lo hi (.str (cutS z lo hi))
/-! ### calls of built-ins -/
inductive LenD : List D → D → Prop
  | list (ds : List D) : LenD [.list ds] (.int (ds.length : Nat))
  | tup (ds : List D) : LenD [.tuple ds] (.int (ds.length : Nat))
  | str (z : Str) (h : z.length ≤ 100000) : LenD [.str z] (.int (z.length : Nat))
inductive MaxD : List D → D → Prop
  | int (i j : Int) : MaxD [.int i, .int j] (.int (max i j))
inductive MinD : List D → D → Prop
  | int (i j : Int) : MinD [.int i, .int j] (.int (min i j))
inductive IntD : List D → D → Prop
  | bool (b : Bool) : IntD [.bool b] (.int (if b then 1 else 0))
inductive TupleD : List D → D → Prop
  | list (ds : List D) : TupleD [.list ds] (.tuple ds)
inductive ListD : List D → D → Prop
  | list (ds : List D) : ListD [.list ds] (.list ds)
  | tup (ds : List D) : ListD [.tuple ds] (.list ds)
inductive AllD : List D → D → Prop
  | list (bs : List Bool) : AllD [.list (bs.map PyData.bool)] (.bool (bs.all id))
inductive AnyD : List D → D → Prop
  | list (bs : List Bool) : AnyD [.list (bs.map PyData.bool)] (.bool (bs.any id))
inductive SumD : List D → D → Prop
  | list (ns : List Int) : SumD [.list (ns.map PyData.int)] (.int ns.sum)
inductive DivmodD : List D → D → Prop
  | int (i j : Int) (h : CDiv i j) : DivmodD [.int i, .int j] (.tuple [.int (i / j), .int (i % j)])
/-- the name of a datum's type -/
def tyN : D → String
  | .none => "NoneType"
  | .bool _ => "bool"
  | .int _ => "int"
  | .str _ => "str"
  | .list _ => "list"
  | .tuple _ => "tuple"
  | .dict _ => "dict"
section
variable {K : Fg} {F H : Hp} {v : V} {d : D}
theorem dp_ty (h : Dp K F v d) : TyX K F v (.type (tyN d)) := by
  cases h with
  | non => exact .base .non
  | bl b => exact .base (.bl b)
  | int i => exact .base (.int i)
  | str x => exact .base (.str x)
  | lst hs _ =>
    rcases hs with (e | ⟨o, e⟩) | ⟨o, its, n, e, c, _⟩
    · exact .base (.lst e)
    · exact .base (.frz e)
    · exact .kList e c
  | tup hs _ =>
    rcases hs with (e | ⟨o, e⟩) | ⟨o, its, n, e, c, _⟩
    · exact .base (.tup e)
    · exact .fTuple e
    · exact .kTuple e c
theorem tyV_str {z : Str} (h : Dp K F v (.str z)) : tyV K "str" v H := by
  cases h
  exact rfl
theorem tyV_list {ds : List D} (h : Dp K F v (.list ds)) (e : Ex F H) : tyV K "list" v H := by
  have h := h.up e
  cases h with
  | lst hs _ => exact .inl ⟨rfl, _, hs⟩
end
theorem atI_map {α β : Type} {xs : List α} {i : Int} {a : α} (h : atI xs i = some a) : ∃ j : Nat, ixN xs.length i = some j ∧ xs[j]? = some a := by
  unfold atI at h
  cases e : ixN xs.length i with
  | none => rw [e] at h; cases h
  | some j => rw [e] at h; exact ⟨j, rfl, h⟩
theorem dps_at {K : Fg} {F : Hp} {vs : List V} {ds : List D} {i : Int} {d : D} (ha : DpAll K F vs ds) (h : atI ds i = some d) : ∃ v, atI vs i = some v ∧ Dp K F v d := by
  obtain ⟨j, e1, e2⟩ := atI_map (β := D) h
  obtain ⟨v, e3, hv⟩ := ha.get e2
  refine ⟨v, ?_, hv⟩
  unfold atI
  rw [ha.length, e1]
  exact e3
theorem dps_cut {K : Fg} {F : Hp} {vs : List V} {ds : List D} (lo hi : Option Int) (ha : DpAll K F vs ds) : DpAll K F (cutV vs lo hi) (cutD ds lo hi) := by
  unfold cutV cutD
  rw [ha.length]
  exact (ha.drop _).take _
theorem int_max {i j : Int} : (if j > i then j else i) = max i j := by
  have := Int.max_def i j
  by_cases h : j > i
  · rw [if_pos h]; omega
  · rw [if_neg h]; omega
theorem int_min {i j : Int} : (if j < i then j else i) = min i j := by
  have := Int.min_def i j
  by_cases h : j < i
  · rw [if_pos h]; omega
  · rw [if_neg h]; omega
section
variable {X : Cx}
theorem op2_of {op : Value → Value → Sem Value} {r : R2} {R : D → D → D → Prop} (h : OpR X op r)
    (hr : ∀ F H x y d e z Q, Ex F H → Dp X.K F x d → Dp X.K F y e → R d e z → Ans X.K F H z Q → r x y H Q) : OpR X op (rD2 X.K R) :=
  fun pins s σ H x y v u Q I rx ry ⟨F, d, e, z, fh, hx, hy, hR, q⟩ => h pins s σ H x y v u Q I rx ry (hr F H x y d e z Q fh hx hy hR q)
theorem oAdd : OpR X (binaryOp .Add) (rD2 X.K AddD) := by
  refine op2_of (op_add.or (op_add_str.or op_catA)) fun F H x y d e z Q fh hx hy hR q => ?_
  cases hR with
  | int i j => cases hx; cases hy; exact .inl ⟨i, j, rfl, rfl, q.sc fh rfl⟩
  | str a b h => cases hx; cases hy; exact .inr (.inl ⟨a, b, rfl, rfl, sz_of h, q.sc fh rfl⟩)
  | tup as bs h =>
    cases hx with
    | tup s1 a1 =>
      cases hy with
      | tup s2 a2 =>
        refine .inr (.inr ⟨_, _, _, _, rfl, rfl, ex_t fh s1, ex_t fh s2, by rw [a1.length, a2.length]; exact sz_of h, fun e => ?_, fun _ e => ?_, fun _ _ p hp => q.tup fh (a1.append a2) hp⟩)
        · subst e; cases a1; exact q.dp fh (.tup s2 a2)
        · subst e; cases a2; rw [List.append_nil] at q; exact q.dp fh (.tup s1 a1)
theorem oSub : OpR X (binaryOp .Sub) (rD2 X.K SubD) := by
  refine op2_of op_sub fun F H x y d e z Q fh hx hy hR q => ?_
  cases hR with
  | int i j => cases hx; cases hy; exact ⟨i, j, rfl, rfl, q.sc fh rfl⟩
theorem oMul : OpR X (binaryOp .Mult) (rD2 X.K MulD) := by
  refine op2_of (op_mul.or op_mulX) fun F H x y d e z Q fh hx hy hR q => ?_
  cases hR with
  | int i j h => cases hx; cases hy; exact .inl ⟨i, j, rfl, rfl, h, q.sc fh rfl⟩
  | intW i j h => cases hx; cases hy; exact .inr ⟨i, j, rfl, rfl, h, q.sc fh rfl⟩
theorem oDiv : OpR X (binaryOp .FloorDiv) (rD2 X.K DivD) := by
  refine op2_of (op_fdiv.or op_fdivW) fun F H x y d e z Q fh hx hy hR q => ?_
  cases hR with
  | int i j h => cases hx; cases hy; exact .inl ⟨i, j, rfl, rfl, h, q.sc fh rfl⟩
  | intW i j h => cases hx; cases hy; exact .inr ⟨i, j, rfl, rfl, h, q.sc fh rfl⟩
theorem oMod : OpR X (binaryOp .Mod) (rD2 X.K ModD) := by
  refine op2_of op_mod fun F H x y d e z Q fh hx hy hR q => ?_
  cases hR with
  | int i j h => cases hx; cases hy; exact ⟨i, j, rfl, rfl, h, q.sc fh rfl⟩
theorem oPow : OpR X (binaryOp .Pow) (rD2 X.K PowD) := by
  refine op2_of op_pow fun F H x y d e z Q fh hx hy hR q => ?_
  cases hR with
  | int i j h => cases hx; cases hy; exact ⟨i, j, rfl, rfl, h, q.sc fh rfl⟩
theorem oShr : OpR X (binaryOp .RShift) (rD2 X.K ShrD) := by
  refine op2_of op_shr fun F H x y d e z Q fh hx hy hR q => ?_
  cases hR with
  | int i j h => cases hx; cases hy; exact ⟨i, j, rfl, rfl, h, q.sc fh rfl⟩
theorem oBand : OpR X (binaryOp .BitAnd) (rD2 X.K BandD) := by
  refine op2_of op_andM fun F H x y d e z Q fh hx hy hR q => ?_
  cases hR with
  | m31 i => cases hx; cases hy; exact ⟨i, 31, rfl, by decide, q.sc fh rfl⟩
theorem oLt : OpR X (compareOp .Lt) (rD2 X.K LtD) := by
  refine op2_of op_lt fun F H x y d e z Q fh hx hy hR q => ?_
  cases hR with
  | int i j => cases hx; cases hy; exact ⟨i, j, rfl, rfl, q.sc fh rfl⟩
theorem oGt : OpR X (compareOp .Gt) (rD2 X.K GtD) := by
  refine op2_of op_gt fun F H x y d e z Q fh hx hy hR q => ?_
  cases hR with
  | int i j => cases hx; cases hy; exact ⟨i, j, rfl, rfl, q.sc fh rfl⟩
theorem oGe : OpR X (compareOp .GtE) (rD2 X.K GeD) := by
  refine op2_of op_ge fun F H x y d e z Q fh hx hy hR q => ?_
  cases hR with
  | int i j => cases hx; cases hy; exact ⟨i, j, rfl, rfl, q.sc fh rfl⟩
theorem oLe (hu : X.A.units < cLine) : OpR X (compareOp .LtE) (rD2 X.K LeD) := by
  refine op2_of (op_le.or (op_leT hu)) fun F H x y d e z Q fh hx hy hR q => ?_
  cases hR with
  | int i j => cases hx; cases hy; exact .inl ⟨i, j, rfl, rfl, q.sc fh rfl⟩
  | tup ns ms =>
    cases hx with
    | tup s1 a1 =>
      cases hy with
      | tup s2 a2 =>
        have e1 := dps_ints_inv ns a1
        have e2 := dps_ints_inv ms a2
        subst e1 e2
        exact .inr ⟨_, _, ns, ms, rfl, rfl, ex_t fh s1, ex_t fh s2, q.sc fh rfl⟩
theorem oNeg : UnR X (unaryOp .USub) (rD1 X.K NegD) := fun pins s σ H x v Q I rx ⟨F, d, z, fh, hx, hR, q⟩ => by
  cases hR with
  | int i => cases hx; exact un_neg pins s σ H _ v Q I rx ⟨i, rfl, q.sc fh rfl⟩
theorem oEq (hu : X.A.units + 64 < cLine) : OpR X (compareOp .Eq) (rD2 X.K EqD) := by
  refine op2_of (op_eq.or (op_eqD hu)) fun F H x y d e z Q fh hx hy hR q => ?_
  cases hR with
  | int i j =>
    cases hx; cases hy
    refine .inl ⟨rfl, ?_⟩
    have w : decide (V.int i = V.int j) = decide (i = j) := by simp
    rw [w]; exact q.sc fh rfl
  | str i j =>
    cases hx; cases hy
    refine .inl ⟨rfl, ?_⟩
    have w : decide (V.str i = V.str j) = decide (i = j) := by simp
    rw [w]; exact q.sc fh rfl
  | bool i j =>
    cases hx; cases hy
    refine .inl ⟨rfl, ?_⟩
    have w : decide (V.bl i = V.bl j) = decide (i = j) := by simp
    rw [w]; exact q.sc fh rfl
  | gen d e h h' => exact .inr ⟨d, e, hx.up fh, hy.up fh, h, h', q.sc fh rfl⟩
theorem oNe (hu : X.A.units + 64 < cLine) : OpR X (compareOp .NotEq) (rD2 X.K NeD) := by
  refine op2_of (op_ne.or (op_neD hu)) fun F H x y d e z Q fh hx hy hR q => ?_
  cases hR with
  | int i j =>
    cases hx; cases hy
    refine .inl ⟨rfl, ?_⟩
    have w : decide (V.int i = V.int j) = decide (i = j) := by simp
    rw [w]; exact q.sc fh rfl
  | str i j =>
    cases hx; cases hy
    refine .inl ⟨rfl, ?_⟩
    have w : decide (V.str i = V.str j) = decide (i = j) := by simp
    rw [w]; exact q.sc fh rfl
  | bool i j =>
    cases hx; cases hy
    refine .inl ⟨rfl, ?_⟩
    have w : decide (V.bl i = V.bl j) = decide (i = j) := by simp
    rw [w]; exact q.sc fh rfl
  | gen d e h h' => exact .inr ⟨d, e, hx.up fh, hy.up fh, h, h', q.sc fh rfl⟩
theorem dp_non {K : Fg} {F : Hp} {v : V} {d : D} (h : Dp K F v d) : decide (v = .non) = isNon d := by
  cases h <;> (unfold isNon; simp)
def bitV (x : V) (b r : Bool) : Prop := match x with
  | .bl a => r = decide (a = b)
  | .int _ => r = false
  | .str _ => r = false
  | .non => r = false
  | .ref _ => r = false
  | _ => False
theorem dp_bit {K : Fg} {F : Hp} {v : V} {d : D} (h : Dp K F v d) (b : Bool) : bitV v b (isBit d b) := by
  cases h <;> exact rfl
theorem op_is_bit : OpR X (compareOp .Is) (fun x y H Q => ∃ b r, y = .bl b ∧ bitV x b r ∧ Q (.bl r) H) := by
  intro pins s σ H x y v u Q I rx ry h
  obtain ⟨b, r, rfl, hb, q⟩ := h
  cases x with
  | bl a =>
    cases (show r = decide (a = b) from hb)
    exact op_is_bl pins s σ H _ _ v u Q I rx ry ⟨a, b, rfl, rfl, q⟩
  | int i => obtain ⟨t, rfl⟩ := rx; cases (show u = Value.bool b from ry); cases (show r = false from hb); exact wpAny_is_other rfl (fun z => nomatch z) ⟨.bl false, H, I, rfl, q⟩
  | str i => obtain ⟨t, rfl⟩ := rx; cases (show u = Value.bool b from ry); cases (show r = false from hb); exact wpAny_is_other rfl (fun z => nomatch z) ⟨.bl false, H, I, rfl, q⟩
  | non => cases rx; cases (show u = Value.bool b from ry); cases (show r = false from hb); exact wpAny_is_other rfl (fun z => nomatch z) ⟨.bl false, H, I, rfl, q⟩
  | ref i => cases rx; cases (show u = Value.bool b from ry); cases (show r = false from hb); exact wpAny_is_other rfl (fun z => nomatch z) ⟨.bl false, H, I, rfl, q⟩
  | _ => exact hb.elim
theorem op_isnot_bit : OpR X (compareOp .IsNot) (fun x y H Q => ∃ b r, y = .bl b ∧ bitV x b r ∧ Q (.bl (!r)) H) := by
  intro pins s σ H x y v u Q I rx ry h
  obtain ⟨b, r, rfl, hb, q⟩ := h
  cases x with
  | bl a =>
    cases (show r = decide (a = b) from hb)
    exact op_isnot_bl pins s σ H _ _ v u Q I rx ry ⟨a, b, rfl, rfl, q⟩
  | int i => obtain ⟨t, rfl⟩ := rx; cases (show u = Value.bool b from ry); cases (show r = false from hb); exact wpAny_isNot_other rfl (fun z => nomatch z) ⟨.bl true, H, I, rfl, q⟩
  | str i => obtain ⟨t, rfl⟩ := rx; cases (show u = Value.bool b from ry); cases (show r = false from hb); exact wpAny_isNot_other rfl (fun z => nomatch z) ⟨.bl true, H, I, rfl, q⟩
  | non => cases rx; cases (show u = Value.bool b from ry); cases (show r = false from hb); exact wpAny_isNot_other rfl (fun z => nomatch z) ⟨.bl true, H, I, rfl, q⟩
  | ref i => cases rx; cases (show u = Value.bool b from ry); cases (show r = false from hb); exact wpAny_isNot_other rfl (fun z => nomatch z) ⟨.bl true, H, I, rfl, q⟩
  | _ => exact hb.elim
theorem oIs : OpR X (compareOp .Is) (rD2 X.K IsD) := by
  refine op2_of (op_isN.or (op_is_bl.or op_is_bit)) fun F H x y d e z Q fh hx hy hR q => ?_
  cases hR with
  | non d =>
    cases hy
    refine .inl ⟨rfl, ?_⟩
    rw [dp_non hx]; exact q.sc fh rfl
  | bool i j => cases hx; cases hy; exact .inr (.inl ⟨i, j, rfl, rfl, q.sc fh rfl⟩)
  | bit d b => cases hy; exact .inr (.inr ⟨b, _, rfl, dp_bit hx b, q.sc fh rfl⟩)
theorem oNis : OpR X (compareOp .IsNot) (rD2 X.K NisD) := by
  refine op2_of (op_notN.or (op_isnot_bl.or op_isnot_bit)) fun F H x y d e z Q fh hx hy hR q => ?_
  cases hR with
  | non d =>
    cases hy
    refine .inl ⟨rfl, ?_⟩
    rw [dp_non hx]; exact q.sc fh rfl
  | bool i j => cases hx; cases hy; exact .inr (.inl ⟨i, j, rfl, rfl, q.sc fh rfl⟩)
  | bit d b => cases hy; exact .inr (.inr ⟨b, _, rfl, dp_bit hx b, q.sc fh rfl⟩)
theorem oIn (hu : X.A.units + 65 < cLine) : OpR X (compareOp .In) (rD2 X.K InD) := by
  refine op2_of (op_in_sign.or (op_inD hu)) fun F H x y d e z Q fh hx hy hR q => ?_
  cases hR with
  | sign c z => cases hx; cases hy; exact .inl ⟨c, z, rfl, rfl, q.sc fh rfl⟩
  | list d ds h h' => exact .inr ⟨d, ds, hx.up fh, hy.up fh, h, h', q.sc fh rfl⟩
theorem oNin (hu : X.A.units + 65 < cLine) : OpR X (compareOp .NotIn) (rD2 X.K NinD) := by
  refine op2_of (op_notIn_sign.or (op_notInD hu)) fun F H x y d e z Q fh hx hy hR q => ?_
  cases hR with
  | sign c z => cases hx; cases hy; exact .inl ⟨c, z, rfl, rfl, q.sc fh rfl⟩
  | list d ds h h' => exact .inr ⟨d, ds, hx.up fh, hy.up fh, h, h', q.sc fh rfl⟩
theorem oIx : IxR X (rD2 X.K IxD) := by
  rintro va sl pins s σ H x y v u Q I rx ry ⟨F, d, e, z, fh, hx, hy, hR, q⟩ hs
  refine ix_seq va sl pins s σ H x y v u Q I rx ry ?_ hs
  cases hR with
  | list ds i d h =>
    cases hy
    cases hx with
    | lst s1 a1 =>
      obtain ⟨w, e1, hw⟩ := dps_at a1 h
      exact .inl ⟨_, _, i, w, rfl, rfl, ex_l fh s1, e1, q.dp fh hw⟩
  | tup ds i d h =>
    cases hy
    cases hx with
    | tup s1 a1 =>
      obtain ⟨w, e1, hw⟩ := dps_at a1 h
      exact .inr (.inl ⟨_, _, i, w, rfl, rfl, ex_t fh s1, e1, q.dp fh hw⟩)
  | str z i c h h' =>
    cases hy
    cases hx
    exact .inr (.inr ⟨z, i, c, rfl, rfl, sz_of h, h', q.sc fh rfl⟩)
theorem oSl : SlR X (rDs X.K SlD) := by
  rintro pins s σ H x v vl vu lo hi sl Q I rx hs pl pu ⟨F, d, z, fh, hx, hR, q⟩
  refine (sl_list.or (sl_tupA.or sl_str)) pins s σ H x v vl vu lo hi sl Q I rx hs pl pu ?_
  cases hR with
  | list ds lo hi =>
    cases hx with
    | lst s1 a1 => exact .inl ⟨_, _, rfl, ex_l fh s1, fun p hp => q.lst fh (dps_cut lo hi a1) hp⟩
  | tup ds lo hi =>
    cases hx with
    | tup s1 a1 =>
      refine .inr (.inl ⟨_, _, rfl, ex_t fh s1, fun hw => ?_, fun _ p hp => q.tup fh (dps_cut lo hi a1) hp⟩)
      have ec : cutD ds lo hi = ds := by
        unfold cutD
        rw [← a1.length, hw.1, hw.2]
        rw [a1.length]
        simp
      rw [ec] at q
      exact q.dp fh (.tup s1 a1)
  | str z lo hi h =>
    cases hx
    exact .inr (.inr ⟨z, rfl, sz_of h, q.sc fh rfl⟩)
/-! calls -/
theorem cn_of {f : Value} {r : List V → Hp → VK → Prop} {R : List D → D → Prop} (h : CallR X f r)
    (hr : ∀ F H xs ds z Q, Ex F H → DpAll X.K F xs ds → R ds z → Ans X.K F H z Q → r xs H Q) : CallR X f (rDn X.K R) :=
  fun pins s σ H xs us Q I rx ⟨F, ds, z, fh, hx, hR, q⟩ => h pins s σ H xs us Q I rx (hr F H xs ds z Q fh hx hR q)
theorem dps1 {K : Fg} {F : Hp} {vs : List V} {d : D} (h : DpAll K F vs [d]) : ∃ v, vs = [v] ∧ Dp K F v d := by
  cases h with
  | cons h1 h2 => cases h2; exact ⟨_, rfl, h1⟩
theorem dps2 {K : Fg} {F : Hp} {vs : List V} {d e : D} (h : DpAll K F vs [d, e]) : ∃ v w, vs = [v, w] ∧ Dp K F v d ∧ Dp K F w e := by
  cases h with
  | cons h1 h2 =>
    obtain ⟨w, rfl, hw⟩ := dps1 h2
    exact ⟨_, _, rfl, h1, hw⟩
theorem cLen : CallR X (.builtin "len") (rDn X.K LenD) := by
  refine cn_of (call_len_seq.or call_len_str) fun F H xs ds z Q fh hx hR q => ?_
  cases hR with
  | list ds =>
    obtain ⟨v, rfl, hv⟩ := dps1 hx
    cases hv with
    | lst s1 a1 =>
      refine .inl ⟨_, _, rfl, .inl (ex_l fh s1), ?_⟩
      rw [a1.length]; exact q.sc fh rfl
  | tup ds =>
    obtain ⟨v, rfl, hv⟩ := dps1 hx
    cases hv with
    | tup s1 a1 =>
      refine .inl ⟨_, _, rfl, .inr (ex_t fh s1), ?_⟩
      rw [a1.length]; exact q.sc fh rfl
  | str z h =>
    obtain ⟨v, rfl, hv⟩ := dps1 hx
    cases hv
    exact .inr ⟨z, rfl, sz_of h, q.sc fh rfl⟩
theorem cMax (hc : X.calm = true) : CallR X (.builtin "max") (rDn X.K MaxD) := by
  refine cn_of (call_max2 hc) fun F H xs ds z Q fh hx hR q => ?_
  cases hR with
  | int i j =>
    obtain ⟨v, w, rfl, hv, hw⟩ := dps2 hx
    cases hv; cases hw
    refine ⟨i, j, rfl, ?_⟩
    rw [int_max]; exact q.sc fh rfl
theorem cMin (hc : X.calm = true) : CallR X (.builtin "min") (rDn X.K MinD) := by
  refine cn_of (call_min2 hc) fun F H xs ds z Q fh hx hR q => ?_
  cases hR with
  | int i j =>
    obtain ⟨v, w, rfl, hv, hw⟩ := dps2 hx
    cases hv; cases hw
    refine ⟨i, j, rfl, ?_⟩
    rw [int_min]; exact q.sc fh rfl
theorem cInt : CallR X (.type "int") (rDn X.K IntD) := by
  refine cn_of call_int1 fun F H xs ds z Q fh hx hR q => ?_
  cases hR with
  | bool b =>
    obtain ⟨v, rfl, hv⟩ := dps1 hx
    cases hv
    exact .inr ⟨b, rfl, q.sc fh rfl⟩
theorem cTuple : CallR X (.type "tuple") (rDn X.K TupleD) := by
  refine cn_of call_tuple_of fun F H xs ds z Q fh hx hR q => ?_
  cases hR with
  | list ds =>
    obtain ⟨v, rfl, hv⟩ := dps1 hx
    cases hv with
    | lst s1 a1 => exact ⟨_, _, rfl, .inl ⟨ex_l fh s1, fun p hp => q.tup fh a1 hp⟩⟩
theorem cList : CallR X (.type "list") (rDn X.K ListD) := by
  refine cn_of call_list_of fun F H xs ds z Q fh hx hR q => ?_
  cases hR with
  | list ds =>
    obtain ⟨v, rfl, hv⟩ := dps1 hx
    cases hv with
    | lst s1 a1 => exact ⟨_, _, rfl, .inl (ex_l fh s1), fun p hp => q.lst fh a1 hp⟩
  | tup ds =>
    obtain ⟨v, rfl, hv⟩ := dps1 hx
    cases hv with
    | tup s1 a1 => exact ⟨_, _, rfl, .inr (ex_t fh s1), fun p hp => q.lst fh a1 hp⟩
end
/-! the same with the written part named -/
section
variable {X : Cx} {K : Fg}
theorem kAdd  (hK : X.K = K := by rfl) : OpR X (binaryOp .Add) (rD2 K AddD) := by
  subst hK
  exact oAdd
theorem kSub  (hK : X.K = K := by rfl) : OpR X (binaryOp .Sub) (rD2 K SubD) := by
  subst hK
  exact oSub
theorem kMul  (hK : X.K = K := by rfl) : OpR X (binaryOp .Mult) (rD2 K MulD) := by
  subst hK
  exact oMul
theorem kDiv  (hK : X.K = K := by rfl) : OpR X (binaryOp .FloorDiv) (rD2 K DivD) := by
  subst hK
  exact oDiv
theorem kMod  (hK : X.K = K := by rfl) : OpR X (binaryOp .Mod) (rD2 K ModD) := by
  subst hK
  exact oMod
theorem kPow  (hK : X.K = K := by rfl) : OpR X (binaryOp .Pow) (rD2 K PowD) := by
  subst hK
  exact oPow
theorem kShr  (hK : X.K = K := by rfl) : OpR X (binaryOp .RShift) (rD2 K ShrD) := by
  subst hK
  exact oShr
theorem kBand  (hK : X.K = K := by rfl) : OpR X (binaryOp .BitAnd) (rD2 K BandD) := by
  subst hK
  exact oBand
theorem kLt  (hK : X.K = K := by rfl) : OpR X (compareOp .Lt) (rD2 K LtD) := by
  subst hK
  exact oLt
theorem kGt  (hK : X.K = K := by rfl) : OpR X (compareOp .Gt) (rD2 K GtD) := by
  subst hK
  exact oGt
theorem kGe  (hK : X.K = K := by rfl) : OpR X (compareOp .GtE) (rD2 K GeD) := by
  subst hK
  exact oGe
theorem kLe (hu : X.A.units < cLine) (hK : X.K = K := by rfl) : OpR X (compareOp .LtE) (rD2 K LeD) := by
  subst hK
  exact oLe hu
theorem kNeg  (hK : X.K = K := by rfl) : UnR X (unaryOp .USub) (rD1 K NegD) := by
  subst hK
  exact oNeg
theorem kEq (hu : X.A.units + 64 < cLine) (hK : X.K = K := by rfl) : OpR X (compareOp .Eq) (rD2 K EqD) := by
  subst hK
  exact oEq hu
theorem kNe (hu : X.A.units + 64 < cLine) (hK : X.K = K := by rfl) : OpR X (compareOp .NotEq) (rD2 K NeD) := by
  subst hK
  exact oNe hu
theorem kIs  (hK : X.K = K := by rfl) : OpR X (compareOp .Is) (rD2 K IsD) := by
  subst hK
  exact oIs
theorem kNis  (hK : X.K = K := by rfl) : OpR X (compareOp .IsNot) (rD2 K NisD) := by
  subst hK
  exact oNis
theorem kIn (hu : X.A.units + 65 < cLine) (hK : X.K = K := by rfl) : OpR X (compareOp .In) (rD2 K InD) := by
  subst hK
  exact oIn hu
theorem kNin (hu : X.A.units + 65 < cLine) (hK : X.K = K := by rfl) : OpR X (compareOp .NotIn) (rD2 K NinD) := by
  subst hK
  exact oNin hu
theorem kIx  (hK : X.K = K := by rfl) : IxR X (rD2 K IxD) := by
  subst hK
  exact oIx
/-- an item, by data or (of a list that is one's own) by values -/
def rIxU (K : Fg) : R2 := fun x y H Q => rD2 K IxD x y H Q ∨ rIxL K x y H Q
theorem kIxU (hK : X.K = K := by rfl) : IxR X (rIxU K) := by
  subst hK
  exact oIx.or ix_list
theorem kSl  (hK : X.K = K := by rfl) : SlR X (rDs K SlD) := by
  subst hK
  exact oSl
theorem jLen  (hK : X.K = K := by rfl) : CallR X (.builtin "len") (rDn K LenD) := by
  subst hK
  exact cLen
theorem jMax (hc : X.calm = true) (hK : X.K = K := by rfl) : CallR X (.builtin "max") (rDn K MaxD) := by
  subst hK
  exact cMax hc
theorem jMin (hc : X.calm = true) (hK : X.K = K := by rfl) : CallR X (.builtin "min") (rDn K MinD) := by
  subst hK
  exact cMin hc
theorem jInt  (hK : X.K = K := by rfl) : CallR X (.type "int") (rDn K IntD) := by
  subst hK
  exact cInt
theorem jTuple  (hK : X.K = K := by rfl) : CallR X (.type "tuple") (rDn K TupleD) := by
  subst hK
  exact cTuple
theorem jList  (hK : X.K = K := by rfl) : CallR X (.type "list") (rDn K ListD) := by
  subst hK
  exact cList
theorem jIsi (hK : X.K = K := by rfl) : CallR X (.builtin "isinstance") (rIsi K) := by
  subst hK
  exact call_isi
end
end Ly
/-! LyC: defs by relations, statements, loops, comprehensions. -/
namespace Ly
open PySem L2 Evl PyProof.Rows
/-! ### defs -/
/-- a def of the text stands under its name -/
structure Df (K : Fg) (mg : Str → Option Value) (x : Str) (st : Stmt) (ps : List Str) : Prop where
  ex : ∃ f fd, Fun K x x st f fd ∧ mg x = some (.ref f) ∧ ∀ us : List Value, us.length = ps.length → bindArgs fd ⟨us, []⟩ = pure (ps.zip us)
/-- a def that keeps its promise stands under its name -/
structure Dk (P : Program) (w : World) (K : Fg) (mg : Str → Option Value) (base : Heap) (k : Nat) (x : Str) (ps : List Str) (sp : Sp) : Prop where
  ex : ∃ f fd, mg x = some (.ref f) ∧ FnOk P w K mg base CX0 k f fd ps sp ∧ PySem.W.keepIn K (.ref f) = true ∧ Binds K fd ps [] ∧ ∃ o, K.lookup f = some o ∧ o.data = .func fd
section
variable {P : Program} {w : World} {K : Fg} {mg : Str → Option Value} {base : Heap} {k : Nat} {x : Str} {st : Stmt} {N ps : List Str}
theorem fun_at {q : Str} {f : Addr} {fd : FuncData} (F : Fun K x q st f fd) : ∃ o, K.lookup f = some o ∧ o.data = .func fd := by
  obtain ⟨oc, od, kV, doc, pm, an, cdv, ct, osl, _, lk, _⟩ := F.ex
  exact ⟨_, lk, rfl⟩
/-- for any promise -/
theorem Df.dkS {sp : Sp} (D0 : Df K mg x st ps) (S : FnScope N ps (defScope st)) (hl : ∀ vs H Q E, sp vs H Q E → vs.length = ps.length)
    (hb : ∀ (f : Addr) (cdv : Value) (A : Around) (outer : List Env) (s : Shared) (H : Hp) (E : XK), Room k (A.deeper (envOfC x (defScope st) s.heap.objs.size f cdv)) →
      ∃ t, PSs (cxOf CX0 P w K mg base N x (defScope st) f cdv A outer s H E).nox (defBody st) t ∧
        ∀ vs Q, sp vs H Q E → t { nx := fun _ H' => Q .non H', rt := Q } (start N vs) H) : Dk P w K mg base (k + 1) x ps sp := by
  obtain ⟨f, fd, F, hm, b⟩ := D0.ex
  refine ⟨f, fd, hm, F.ok S hl fun cdv A outer s H vs Q E hr h => ?_, F.kp, .all b, fun_at F⟩
  obtain ⟨t, h1, h2⟩ := hb f cdv A outer s H E hr
  exact ⟨t, h1, h2 vs Q h⟩
theorem Df.dk {R : List D → D → Prop} (D0 : Df K mg x st ps) (S : FnScope N ps (defScope st)) (hl : ∀ ds r, R ds r → ds.length = ps.length)
    (hb : ∀ (f : Addr) (cdv : Value) (A : Around) (outer : List Env) (s : Shared) (H : Hp) (E : XK), Room k (A.deeper (envOfC x (defScope st) s.heap.objs.size f cdv)) →
      ∃ t, PSs (cxOf CX0 P w K mg base N x (defScope st) f cdv A outer s H E).nox (defBody st) t ∧
        ∀ vs F0 ds r Q, Ex F0 H → DpAll K F0 vs ds → R ds r → Ans K F0 H r Q → t { nx := fun _ H' => Q .non H', rt := Q } (start N vs) H) : Dk P w K mg base (k + 1) x ps (spR K R) := by
  refine D0.dkS S (spR_len hl) fun f cdv A outer s H E hr => ?_
  obtain ⟨t, h1, h2⟩ := hb f cdv A outer s H E hr
  exact ⟨t, h1, fun vs Q ⟨F0, ds, r, fh, ha, hR, q⟩ => h2 vs F0 ds r Q fh ha hR q⟩
/-- the law's own end -/
theorem Df.fin {sp : Sp} {a : Str} {fa : Addr} (D0 : Df K mg x st [a]) (hfa : mg x = some (.ref fa)) (h : ∀ base, K.In base → base.Ns mainGlobals mg → Dk P w K mg base k x [a] sp) :
    ∃ fd : FuncData, (∀ (s : Shared) (u : Value), BindsTo s fd ⟨[u], []⟩ [(a, u)]) ∧ ∀ base : Heap, K.In base → base.Ns mainGlobals mg → FnOk P w K mg base CX0 k fa fd [a] sp := by
  obtain ⟨f, fd, F, hm, b⟩ := D0.ex
  have e := hfa.symm.trans hm
  cases e
  refine ⟨fd, fun s u => .of_eq (b [u] rfl), fun base h1 h2 => ?_⟩
  obtain ⟨f', fd', hm', ok, _, _, o', l', d'⟩ := (h base h1 h2).ex
  have e := hm.symm.trans hm'
  cases e
  obtain ⟨o, l, d⟩ := fun_at F
  have e := l.symm.trans l'
  cases e
  have e := d.symm.trans d'
  cases e
  exact ok
theorem Dk.mono {sp : Sp} {j : Nat} (h : Dk P w K mg base k x ps sp) (hj : k ≤ j) : Dk P w K mg base j x ps sp := by
  obtain ⟨f, fd, h1, h2, h3, h4, h5⟩ := h.ex
  exact ⟨f, fd, h1, h2.mono hj, h3, h4, h5⟩
theorem cl {X : Cx} {sp : Sp} {p pos : Pos} {e : Expr} {es : List Expr} {t : TA} {j : Nat} (h : Dk P w K mg base k x ps sp) (hr : Room j X.A) (ha : PA X (e :: es) t) (hj : k ≤ j := by decide) (hg : Gl X x := by rfl)
    (hP : X.prog = P := by rfl) (hw : X.w = w := by rfl) (hK : X.K = K := by rfl) (hm : X.mg = mg := by rfl) (hB : X.base = base := by rfl)
    (hdb : (x == ("__debug__" : Str)) = false := by decide) (he : starEach (e :: es) X.env = (false, eval e X.env) :: starEach es X.env := by rfl) (hpl : (backTo pos (starEach es X.env)).any (·.1) = false := by rfl) :
    PE X (.Call (.Name x p) (e :: es) [] pos) (tCall sp [] E0 t) := by
  subst hP hw hK hm hB
  obtain ⟨f, fd, h1, h2, h3, h4, _⟩ := h.ex
  exact pe_call h2 (hr.mono hj) hg h1 h3 h4 .nil pass0 ha hdb he hpl
theorem cl0 {X : Cx} {sp : Sp} {p pos : Pos} {j : Nat} (h : Dk P w K mg base k x ps sp) (hr : Room j X.A) (hj : k ≤ j := by decide) (hg : Gl X x := by rfl)
    (hP : X.prog = P := by rfl) (hw : X.w = w := by rfl) (hK : X.K = K := by rfl) (hm : X.mg = mg := by rfl) (hB : X.base = base := by rfl)
    (hdb : (x == ("__debug__" : Str)) = false := by decide) :
    PE X (.Call (.Name x p) [] [] pos) (tCall sp [] E0 tNil) := by
  subst hP hw hK hm hB
  obtain ⟨f, fd, h1, h2, h3, h4, _⟩ := h.ex
  exact pe_call0 h2 (hr.mono hj) hg h1 h3 h4 .nil pass0 hdb
end
/-- what a law is asked: any script of at most 63 ints; True -/
def RLaw : List D → D → Prop := fun ds r => ∃ ns : List Int, ns.length ≤ 63 ∧ ds = [.list (ns.map PyData.int)] ∧ r = .bool true
theorem RLaw.len : ∀ ds r, RLaw ds r → ds.length = 1 := fun ds r ⟨ns, _, h, _⟩ => by rw [h]; rfl
theorem law_start {K : Fg} {H : Hp} {a : Addr} {ns : List Int} {E : XK} (hl : ns.length ≤ 63) (hS : SqL K H a (ns.map V.int)) : spR K RLaw [.ref a] H (fun v _ => v = .bl true) E :=
  ⟨H, _, _, Ex.refl H, .cons (dp_ints hS) .nil, ⟨ns, hl, rfl, rfl⟩, fun v F2 H2 _ h => by cases h; rfl⟩
theorem room64 {k : Nat} {A : Around} (r : Room k A) : A.units + 64 < cLine := by have := r.un; omega
theorem room65 {k : Nat} {A : Around} (r : Room k A) : A.units + 65 < cLine := by have := r.un; omega
theorem room0 {k : Nat} {A : Around} (r : Room k A) : A.units < cLine := by have := r.un; omega
/-! ### built-ins by name -/
section
variable {X : Cx} {x : Str} {id : String} {p pos : Pos} {e : Expr} {es : List Expr} {r : List V → Hp → VK → Prop} {t : TA}
theorem bi (hc : CallR X (.builtin id) r) (hm : X.mg x = none) (ha : PA X (e :: es) t) (hg : Gl X x := by rfl) (hv : bootBuiltins x = some (.builtin id) := by decide +kernel) (hn : x ≠ "__name__" := by decide) (hdb : (x == ("__debug__" : Str)) = false := by decide)
    (he : starEach (e :: es) X.env = (false, eval e X.env) :: starEach es X.env := by rfl) (hpl : (backTo pos (starEach es X.env)).any (·.1) = false := by rfl) : PE X (.Call (.Name x p) (e :: es) [] pos) (tCB r t) := pe_callB hc hg hm hv ha hn hdb he hpl
theorem bt (hc : CallR X (.type id) r) (hm : X.mg x = none) (ha : PA X (e :: es) t) (hg : Gl X x := by rfl) (hv : bootBuiltins x = some (.type id) := by decide +kernel) (hn : x ≠ "__name__" := by decide) (hdb : (x == ("__debug__" : Str)) = false := by decide)
    (he : starEach (e :: es) X.env = (false, eval e X.env) :: starEach es X.env := by rfl) (hpl : (backTo pos (starEach es X.env)).any (·.1) = false := by rfl) : PE X (.Call (.Name x p) (e :: es) [] pos) (tCB r t) := pe_callTy hc hg hm hv ha hn hdb he hpl
/-- a built-in class as a value -/
theorem bty {n : String} (hm : X.mg x = none) (hg : Gl X x := by rfl) (hv : bootBuiltins x = some (.type n) := by decide +kernel) (hn : x ≠ "__name__" := by decide) (hdb : (x == ("__debug__" : Str)) = false := by decide) : PE X (.Name x pos) (tC (.ty n)) := pe_bltn hg hm hv rfl hn hdb
theorem gint {i : Int} (hm : ∃ u, X.mg x = some (.int i u)) (hg : Gl X x := by rfl) (hdb : (x == ("__debug__" : Str)) = false := by decide) : PE X (.Name x pos) (tC (.int i)) := by
  obtain ⟨u, hm⟩ := hm
  exact pe_glob hg hm ⟨u, rfl⟩ hdb
theorem gstr {i : Str} (hm : ∃ u, X.mg x = some (.str i u)) (hg : Gl X x := by rfl) (hdb : (x == ("__debug__" : Str)) = false := by decide) : PE X (.Name x pos) (tC (.str i)) := by
  obtain ⟨u, hm⟩ := hm
  exact pe_glob hg hm ⟨u, rfl⟩ hdb
theorem gref {i : Addr} (hm : X.mg x = some (.ref i)) (hg : Gl X x := by rfl) (hdb : (x == ("__debug__" : Str)) = false := by decide) : PE X (.Name x pos) (tC (.ref i)) := pe_glob hg hm rfl hdb
end
/-! ### isinstance -/
def isInt : D → Bool | .int _ => true | .bool _ => true | _ => false
def isBol : D → Bool | .bool _ => true | _ => false
def isStr : D → Bool | .str _ => true | _ => false
def isTup : D → Bool | .tuple _ => true | _ => false
def isLst : D → Bool | .list _ => true | _ => false
section
variable {K : Fg} {σ : L2.St} {F H : Hp} {te : TE} {d : D}
theorem d_isi {n : String} {b : Bool} (h : EvD K te σ F H d) (hb : kitB (tyN d) n = some b) : EvD K (tCB (rIsi K) (tCons te (tCons (tC (.ty n)) tNil))) σ F H (.bool b) := fun F1 H1 e1 e2 e3 Q q =>
  h F1 H1 e1 e2 e3 _ fun v F2 H2 g hv => ⟨v, .ty n, _, _, b, rfl, .ty n, dp_ty (hv.up g.fh), kit_ty hb, q _ F2 H2 g (.bl b)⟩
theorem d_isInt (h : EvD K te σ F H d) : EvD K (tCB (rIsi K) (tCons te (tCons (tC (.ty "int")) tNil))) σ F H (.bool (isInt d)) := d_isi h (by cases d <;> (simp only [tyN, isInt, isBol, isStr, isTup, isLst]; decide +kernel))
theorem d_isBol (h : EvD K te σ F H d) : EvD K (tCB (rIsi K) (tCons te (tCons (tC (.ty "bool")) tNil))) σ F H (.bool (isBol d)) := d_isi h (by cases d <;> (simp only [tyN, isInt, isBol, isStr, isTup, isLst]; decide +kernel))
theorem d_isStr (h : EvD K te σ F H d) : EvD K (tCB (rIsi K) (tCons te (tCons (tC (.ty "str")) tNil))) σ F H (.bool (isStr d)) := d_isi h (by cases d <;> (simp only [tyN, isInt, isBol, isStr, isTup, isLst]; decide +kernel))
theorem d_isTup (h : EvD K te σ F H d) : EvD K (tCB (rIsi K) (tCons te (tCons (tC (.ty "tuple")) tNil))) σ F H (.bool (isTup d)) := d_isi h (by cases d <;> (simp only [tyN, isInt, isBol, isStr, isTup, isLst]; decide +kernel))
theorem d_isLst (h : EvD K te σ F H d) : EvD K (tCB (rIsi K) (tCons te (tCons (tC (.ty "list")) tNil))) σ F H (.bool (isLst d)) := d_isi h (by cases d <;> (simp only [tyN, isInt, isBol, isStr, isTup, isLst]; decide +kernel))
end
/-! ### new lists -/
def EvN (K : Fg) (te : TE) (σ : L2.St) (F H : Hp) (ds : List D) : Prop := ∀ F1 H1, Ex F F1 → Ex H H1 → Ex F1 H1 → ∀ Q : VK,
  (∀ p vs F2 H2, Gr F1 H1 F2 H2 → H1 p = none → F2 p = none → H2 p = some (.lst vs) → DpAll K F2 vs ds → Q (.ref p) H2) → te σ H1 Q
section
variable {K : Fg} {σ : L2.St} {F H F0 H0 : Hp} {te ta tl : TE} {tt t : TT} {d : D} {ds es : List D} {v : V} {i j : Nat} {D' : Ends} {tu tw tz : TS} {gt : TG} {wi : TI}
theorem EvN.dd (h : EvN K te σ F H ds) : EvD K te σ F H (.list ds) := fun F1 H1 e1 e2 e3 Q q => h F1 H1 e1 e2 e3 _ fun p vs F2 H2 g hp fp hl ha =>
  q (.ref p) (upd F2 p (.lst vs)) H2 (g.give hp hl fp) (.lst (sq_of upd_same) (ha.up (Ex.new fp)))
theorem EvN.to (h : EvN K te σ F H ds) (q : ds = es) : EvN K te σ F H es := q ▸ h
theorem n_lst {ta : TA} (ha : EvDs K ta σ F H ds) (hl : ds.length ≤ 100000) : EvN K (tLst ta) σ F H ds := fun F1 H1 e1 e2 e3 Q q =>
  ha F1 H1 e1 e2 e3 _ fun xs F2 H2 g2 hx => ⟨by rw [hx.length]; exact sz_of hl, fun p hp => q p xs F2 _ (g2.trans (Gr.own g2.fh hp)) (g2.back hp) (fresh_back g2.fh hp) upd_same hx⟩
theorem n_cut {lo hi : Option Int} {to th : TO} (h : EvD K te σ F H (.list ds)) (h1 : EvI K to σ F H lo) (h2 : EvI K th σ F H hi) : EvD K (tSl (rDs K SlD) te to th) σ F H (.list (cutD ds lo hi)) := d_sl h h1 h2 (.list ds lo hi)
theorem d_ix {tb : TE} {e r : D} (ha : EvD K te σ F H d) (hb : EvD K tb σ F H e) (hr : IxD d e r) : EvD K (tOp (rIxU K) te tb) σ F H r := fun F1 H1 e1 e2 e3 Q q =>
  ha F1 H1 e1 e2 e3 _ fun x F2 H2 g2 hx => hb F2 H2 (e1.trans g2.fx) (e2.trans g2.hx) g2.fh _ fun y F3 H3 g3 hy =>
    .inl ⟨F3, d, e, r, g3.fh, hx.up g3.fx, hy, hr, fun v F4 H4 g4 hv => q v F4 H4 ((g2.trans g3).trans g4) hv⟩
/-- an item of one's own list -/
theorem d_ixO {tb : TE} {l : Addr} {vs : List V} {n : Int} {r : D} (hv : σ[i]? = some (some (.ref l))) (hl : H l = some (.lst vs)) (ha : DpAll K F vs ds) (hb : EvD K tb σ F H (.int n)) (hr : atI ds n = some r) : EvD K (tOp (rIxU K) (tVar i) tb) σ F H r := fun F1 H1 e1 e2 e3 Q q =>
  ⟨.ref l, hv, hb F1 H1 e1 e2 e3 _ fun y F3 H3 g3 hy => by
    cases hy
    obtain ⟨w, ew, hw⟩ := dps_at ha hr
    exact .inr ⟨l, vs, n, w, rfl, rfl, sq_of (g3.hx _ _ (e2 _ _ hl)), ew, q w F3 H3 g3 (hw.up (e1.trans g3.fx))⟩⟩
/-! ### statements -/
/-- xs.clear(), xs one's own -/
theorem s_clear {l : Addr} {xs : List V} (g : Gr F0 H0 F H) (hl0 : H0 l = none) (fl : F l = none) (hl : H l = some (.lst xs)) (hv : σ[i]? = some (some (.ref l))) (k : ∀ H2, Gr F0 H0 F H2 → (∀ p o, p ≠ l → H p = some o → H2 p = some o) → H2 l = some (.lst []) → D'.nx σ H2) :
    tDrop (tBM0 K "list" rClear (tVar i)) D' σ H :=
  ⟨.ref l, hv, .inl ⟨rfl, xs, sq_of hl⟩, l, xs, rfl, rfl, hl, k _ (g.mut hl0 fl) (fun p o hp ho => by rw [upd_ne hp]; exact ho) upd_same⟩
theorem q_clear {l : Addr} {xs : List V} (g : Gr F0 H0 F H) (hl0 : H0 l = none) (fl : F l = none) (hl : H l = some (.lst xs)) (hv : σ[i]? = some (some (.ref l))) (k : ∀ H2, Gr F0 H0 F H2 → (∀ p o, p ≠ l → H p = some o → H2 p = some o) → H2 l = some (.lst []) → tz D' σ H2) :
    tSeq (tDrop (tBM0 K "list" rClear (tVar i))) tz D' σ H := s_clear (D' := { D' with nx := tz D' }) g hl0 fl hl hv k
/-! promises of a new list -/
def AnsN (K : Fg) (F H : Hp) (es : List D) (Q : VK) : Prop := ∀ p ws F2 H2, Gr F H F2 H2 → H p = none → F2 p = none → H2 p = some (.lst ws) → DpAll K F2 ws es → Q (.ref p) H2
def spN (K : Fg) (R : List D → List D → Prop) : Sp := fun vs H Q _ => ∃ F ds es, Ex F H ∧ DpAll K F vs ds ∧ R ds es ∧ AnsN K F H es Q
theorem n_call {R : List D → List D → Prop} {E : XK} {ta : TA} (ha : EvDs K ta σ F H ds) (hr : R ds es) : EvN K (tCall (spN K R) [] E ta) σ F H es := fun F1 H1 e1 e2 e3 Q q =>
  ha F1 H1 e1 e2 e3 _ fun xs F2 H2 g2 hx => by
    show spN K R (xs ++ []) H2 Q E
    rw [List.append_nil]
    exact ⟨F2, ds, es, g2.fh, hx, hr, fun p ws F3 H3 g3 hp fp hl ha => q p ws F3 H3 (g2.trans g3) (g2.back hp) fp hl ha⟩
theorem s_retN (g : Gr F0 H0 F H) (h : EvN K te σ F H ds) (q : AnsN K F0 H0 ds D'.rt) : tRet te D' σ H :=
  h F H (Ex.refl F) (Ex.refl H) g.fh _ fun p ws F2 H2 s hp fp hl ha => q p ws F2 H2 (g.trans s) (g.back hp) fp hl ha
/-- one's own list is handed back -/
theorem s_retO {l : Addr} {vs : List V} (g : Gr F0 H0 F H) (hl0 : H0 l = none) (fl : F l = none) (hl : H l = some (.lst vs)) (ha : DpAll K F vs ds) (hv : σ[i]? = some (some (.ref l))) (q : AnsN K F0 H0 ds D'.rt) : tRet (tVar i) D' σ H :=
  ⟨.ref l, hv, q l vs F H g hl0 fl hl ha⟩
/-! ### statements -/
theorem s_set (g : Gr F0 H0 F H) (h : EvD K te σ F H d) (k : ∀ v F2 H2, Gr F0 H0 F2 H2 → Gr F H F2 H2 → Dp K F2 v d → D'.nx (σ.set i (some v)) H2) : tAsg te (gName i) D' σ H :=
  h F H (Ex.refl F) (Ex.refl H) g.fh _ fun v F2 H2 s hv => k v F2 H2 (g.trans s) s hv
theorem s_setV (g : Gr F0 H0 F H) (h : EvD K te σ F H d) (hs : scV d = some v) (k : ∀ H2, Gr F0 H0 F H2 → Ex H H2 → D'.nx (σ.set i (some v)) H2) : tAsg te (gName i) D' σ H :=
  h F H (Ex.refl F) (Ex.refl H) g.fh _ fun w F2 H2 s hv => by
    have e := scV_inv hs hv
    subst e
    exact k H2 (g.grow s.hx) s.hx
theorem s_setN (g : Gr F0 H0 F H) (h : EvN K te σ F H ds) (k : ∀ p vs F2 H2, Gr F0 H0 F2 H2 → Gr F H F2 H2 → H p = none → F2 p = none → H2 p = some (.lst vs) → DpAll K F2 vs ds → D'.nx (σ.set i (some (.ref p))) H2) : tAsg te (gName i) D' σ H :=
  h F H (Ex.refl F) (Ex.refl H) g.fh _ fun p vs F2 H2 s hp fp hl ha => k p vs F2 H2 (g.trans s) s hp fp hl ha
theorem s_ret (g : Gr F0 H0 F H) (h : EvD K te σ F H d) (q : Ans K F0 H0 d D'.rt) : tRet te D' σ H :=
  h F H (Ex.refl F) (Ex.refl H) g.fh _ fun v F2 H2 s hv => q v F2 H2 (g.trans s) hv
theorem s_drop (g : Gr F0 H0 F H) (h : EvD K te σ F H d) (k : ∀ H2, Gr F0 H0 F H2 → Ex H H2 → D'.nx σ H2) : tDrop te D' σ H :=
  h F H (Ex.refl F) (Ex.refl H) g.fh _ fun v F2 H2 s _ => k H2 (g.grow s.hx) s.hx
theorem s_if {b : Bool} (g : Gr F0 H0 F H) (h : EvB t σ F H b) (h1 : b = true → ∀ H2, Gr F0 H0 F H2 → Ex H H2 → tu D' σ H2) (h2 : b = false → ∀ H2, Gr F0 H0 F H2 → Ex H H2 → tw D' σ H2) : tIfS t tu tw D' σ H :=
  h F H (Ex.refl F) (Ex.refl H) g.fh _ fun H2 e => by
    cases b with
    | true =>
      show tu D' σ H2
      exact h1 rfl H2 (g.grow e) e
    | false =>
      show tw D' σ H2
      exact h2 rfl H2 (g.grow e) e
theorem s_aug {f : Int → Int → Int} {a b : Int} (g : Gr F0 H0 F H) (hx : σ[i]? = some (some (.int a))) (h : EvD K te σ F H (.int b)) (k : ∀ H2, Gr F0 H0 F H2 → Ex H H2 → D'.nx (σ.set i (some (.int (f a b)))) H2) : tAug i te (ipI f) D' σ H :=
  ⟨.int a, hx, h F H (Ex.refl F) (Ex.refl H) g.fh _ fun v F2 H2 s hv => by
    cases hv
    exact ⟨a, b, rfl, rfl, k H2 (g.grow s.hx) s.hx⟩⟩
/-- xs.append(e), xs one's own list -/
theorem s_app {l : Addr} {xs : List V} (g : Gr F0 H0 F H) (hl0 : H0 l = none) (fl : F l = none) (hl : H l = some (.lst xs)) (hv : σ[i]? = some (some (.ref l))) (hz : xs.length < 100000) (h : EvD K te σ F H d)
    (k : ∀ v F2 H2, Gr F0 H0 F2 H2 → Ex F F2 → (∀ p, H p ≠ none → F2 p = F p) → (∀ p o, p ≠ l → H p = some o → H2 p = some o) → H2 l = some (.lst (xs ++ [v])) → Dp K F2 v d → D'.nx σ H2) :
    tDrop (tBM K "list" rAppend (tVar i) (tCons te tNil)) D' σ H := by
  refine ⟨.ref l, hv, .inl ⟨rfl, xs, sq_of hl⟩, h F H (Ex.refl F) (Ex.refl H) g.fh _ fun v F2 H2 s hd => ?_⟩
  refine ⟨l, xs, v, rfl, rfl, s.hx l _ hl, sz_lt hz, ?_⟩
  have f2 : F2 l = none := (s.old l (by rw [hl]; exact fun z => nomatch z)).trans fl
  refine k v F2 _ ((g.trans s).mut hl0 f2) s.fx s.old (fun p o hp ho => ?_) upd_same hd
  rw [upd_ne hp]
  exact s.hx p o ho
/-- xs[i] = e, xs one's own list -/
theorem s_setL {l : Addr} {xs : List V} {n : Nat} {tb : TE} (g : Gr F0 H0 F H) (hl0 : H0 l = none) (fl : F l = none) (hl : H l = some (.lst xs)) (hv : σ[i]? = some (some (.ref l))) (h : EvD K te σ F H d) (hb : EvD K tb σ F H (.int (n : Int))) (hn : n < xs.length)
    (k : ∀ v F2 H2, Gr F0 H0 F2 H2 → Ex F F2 → (∀ p, H p ≠ none → F2 p = F p) → (∀ p o, p ≠ l → H p = some o → H2 p = some o) → H2 l = some (.lst (xs.set n v)) → Dp K F2 v d → D'.nx σ H2) :
    tAsg te (gSub (tVar i) tb rSetL) D' σ H := by
  refine h F H (Ex.refl F) (Ex.refl H) g.fh _ fun v F2 H2 s hd => ?_
  refine ⟨.ref l, hv, hb F2 H2 s.fx s.hx s.fh _ fun w F3 H3 s3 hw => ?_⟩
  cases hw
  have f2 : F2 l = none := (s.old l (by rw [hl]; exact fun z => nomatch z)).trans fl
  refine ⟨l, xs, _, n, rfl, rfl, s3.hx l _ (s.hx l _ hl), ixN_nat hn, ?_⟩
  refine k v F2 _ (((g.trans s).grow s3.hx).mut hl0 f2) s.fx s.old (fun p o hp ho => ?_) upd_same hd
  rw [upd_ne hp]
  exact s3.hx p o (s.hx p o ho)
/-! behind which more stands -/
theorem q_set (g : Gr F0 H0 F H) (h : EvD K te σ F H d) (k : ∀ v F2 H2, Gr F0 H0 F2 H2 → Gr F H F2 H2 → Dp K F2 v d → tz D' (σ.set i (some v)) H2) : tSeq (tAsg te (gName i)) tz D' σ H := s_set (D' := { D' with nx := tz D' }) g h k
theorem q_setV (g : Gr F0 H0 F H) (h : EvD K te σ F H d) (hs : scV d = some v) (k : ∀ H2, Gr F0 H0 F H2 → Ex H H2 → tz D' (σ.set i (some v)) H2) : tSeq (tAsg te (gName i)) tz D' σ H := s_setV (D' := { D' with nx := tz D' }) g h hs k
theorem q_setN (g : Gr F0 H0 F H) (h : EvN K te σ F H ds) (k : ∀ p vs F2 H2, Gr F0 H0 F2 H2 → Gr F H F2 H2 → H p = none → F2 p = none → H2 p = some (.lst vs) → DpAll K F2 vs ds → tz D' (σ.set i (some (.ref p))) H2) : tSeq (tAsg te (gName i)) tz D' σ H := s_setN (D' := { D' with nx := tz D' }) g h k
theorem q_drop (g : Gr F0 H0 F H) (h : EvD K te σ F H d) (k : ∀ H2, Gr F0 H0 F H2 → Ex H H2 → tz D' σ H2) : tSeq (tDrop te) tz D' σ H := s_drop (D' := { D' with nx := tz D' }) g h k
theorem q_if {b : Bool} (g : Gr F0 H0 F H) (h : EvB t σ F H b) (h1 : b = true → ∀ H2, Gr F0 H0 F H2 → Ex H H2 → tu { D' with nx := tz D' } σ H2) (h2 : b = false → ∀ H2, Gr F0 H0 F H2 → Ex H H2 → tw { D' with nx := tz D' } σ H2) : tSeq (tIfS t tu tw) tz D' σ H := s_if (D' := { D' with nx := tz D' }) g h h1 h2
/-- an if without else -/
theorem q_when {b : Bool} (g : Gr F0 H0 F H) (h : EvB t σ F H b) (h1 : b = true → ∀ H2, Gr F0 H0 F H2 → Ex H H2 → tu { D' with nx := tz D' } σ H2) (h2 : b = false → ∀ H2, Gr F0 H0 F H2 → Ex H H2 → tz D' σ H2) : tSeq (tIfS t tu tNext) tz D' σ H := s_if (D' := { D' with nx := tz D' }) g h h1 h2
theorem s_when {b : Bool} (g : Gr F0 H0 F H) (h : EvB t σ F H b) (h1 : b = true → ∀ H2, Gr F0 H0 F H2 → Ex H H2 → tu D' σ H2) (h2 : b = false → ∀ H2, Gr F0 H0 F H2 → Ex H H2 → D'.nx σ H2) : tIfS t tu tNext D' σ H := s_if g h h1 h2
/-- if c: x = e, where x is a plain value behind it either way -/
theorem q_ifSet {b : Bool} (g : Gr F0 H0 F H) (h : EvB t σ F H b) (h1 : b = true → EvD K te σ F H d) (h2 : b = false → σ.set i (some v) = σ) (hs : scV d = some v) (k : ∀ H2, Gr F0 H0 F H2 → Ex H H2 → tz D' (σ.set i (some v)) H2) : tSeq (tIfS t (tAsg te (gName i)) tNext) tz D' σ H :=
  q_when g h (fun hb H2 g2 e2 => s_setV (D' := { D' with nx := tz D' }) g2 ((h1 hb).up (Ex.refl F) e2) hs fun H3 g3 e3 => k H3 g3 (e2.trans e3)) fun hb H2 g2 e2 => by
    have z := k H2 g2 e2
    rw [h2 hb] at z
    exact z
theorem q_aug {f : Int → Int → Int} {a b : Int} (g : Gr F0 H0 F H) (hx : σ[i]? = some (some (.int a))) (h : EvD K te σ F H (.int b)) (k : ∀ H2, Gr F0 H0 F H2 → Ex H H2 → tz D' (σ.set i (some (.int (f a b)))) H2) : tSeq (tAug i te (ipI f)) tz D' σ H := s_aug (D' := { D' with nx := tz D' }) g hx h k
theorem q_app {l : Addr} {xs : List V} (g : Gr F0 H0 F H) (hl0 : H0 l = none) (fl : F l = none) (hl : H l = some (.lst xs)) (hv : σ[i]? = some (some (.ref l))) (hz : xs.length < 100000) (h : EvD K te σ F H d)
    (k : ∀ v F2 H2, Gr F0 H0 F2 H2 → Ex F F2 → (∀ p, H p ≠ none → F2 p = F p) → (∀ p o, p ≠ l → H p = some o → H2 p = some o) → H2 l = some (.lst (xs ++ [v])) → Dp K F2 v d → tz D' σ H2) :
    tSeq (tDrop (tBM K "list" rAppend (tVar i) (tCons te tNil))) tz D' σ H := s_app (D' := { D' with nx := tz D' }) g hl0 fl hl hv hz h k
theorem q_setL {l : Addr} {xs : List V} {n : Nat} {tb : TE} (g : Gr F0 H0 F H) (hl0 : H0 l = none) (fl : F l = none) (hl : H l = some (.lst xs)) (hv : σ[i]? = some (some (.ref l))) (h : EvD K te σ F H d) (hb : EvD K tb σ F H (.int (n : Int))) (hn : n < xs.length)
    (k : ∀ v F2 H2, Gr F0 H0 F2 H2 → Ex F F2 → (∀ p, H p ≠ none → F2 p = F p) → (∀ p o, p ≠ l → H p = some o → H2 p = some o) → H2 l = some (.lst (xs.set n v)) → Dp K F2 v d → tz D' σ H2) :
    tSeq (tAsg te (gSub (tVar i) tb rSetL)) tz D' σ H := s_setL (D' := { D' with nx := tz D' }) g hl0 fl hl hv h hb hn k
/-! ### what is walked -/
/-- an iterator that gives the data ds, one a turn -/
structure Wk (K : Fg) (J : It) (F : Hp) (ds : List D) : Prop where
  go : ∀ H i, Ex F H → i < ds.length → J.go i H
  yld : ∀ F1 H i x H', i < ds.length → Ex F F1 → Ex F1 H → J.yld i H x H' → ∃ F2 d, Gr F1 H F2 H' ∧ ds[i]? = some d ∧ Dp K F2 x d
  stop : ∀ H i, Ex F H → ds.length ≤ i → J.stop i H
def EvW (K : Fg) (wi : TI) (σ : L2.St) (F H : Hp) (ds : List D) : Prop := ∀ F1 H1, Ex F F1 → Ex H H1 → Ex F1 H1 → ∀ R : It → Hp → Prop, (∀ J F2 H2, Gr F1 H1 F2 H2 → Wk K J F2 ds → R J H2) → wi σ H1 R
theorem get_lt {α : Type} {xs : List α} {i : Nat} (h : i < xs.length) : ∃ x, xs[i]? = some x := ⟨_, List.getElem?_eq_getElem h⟩
theorem w_list (h : EvD K tl σ F H (.list ds)) : EvW K (iList K tl) σ F H ds := fun F1 H1 e1 e2 e3 R q => h F1 H1 e1 e2 e3 _ fun v F2 H2 g hv => by
  cases hv with
  | @lst a xs _ hs ha =>
    have hl := ha.length
    refine ⟨a, rfl, ⟨xs, ex_l g.fh hs⟩, q _ F2 H2 g ⟨fun H i e hi => ?_, fun F3 H i x H' hi e e' hy => ?_, fun H i e hi => ⟨xs, ex_l e hs, by rw [hl]; exact hi⟩⟩⟩
    · obtain ⟨x, hx⟩ := get_lt (xs := xs) (by rw [hl]; exact hi)
      exact ⟨xs, x, ex_l e hs, hx⟩
    · obtain ⟨rfl, hy⟩ := hy
      obtain ⟨d, h1, h2⟩ := ha.getV (hy xs (ex_l (e.trans e') hs))
      exact ⟨F3, d, Gr.refl e', h1, h2.up e⟩
theorem w_tup (h : EvD K tl σ F H (.tuple ds)) : EvW K (iTup K tl) σ F H ds := fun F1 H1 e1 e2 e3 R q => h F1 H1 e1 e2 e3 _ fun v F2 H2 g hv => by
  cases hv with
  | @tup a xs _ hs ha =>
    have hl := ha.length
    refine ⟨a, rfl, ⟨xs, ex_t g.fh hs⟩, q _ F2 H2 g ⟨fun H i e hi => ?_, fun F3 H i x H' hi e e' hy => ?_, fun H i e hi => ⟨xs, ex_t e hs, by rw [hl]; exact hi⟩⟩⟩
    · obtain ⟨x, hx⟩ := get_lt (xs := xs) (by rw [hl]; exact hi)
      exact ⟨xs, x, ex_t e hs, hx⟩
    · obtain ⟨rfl, hy⟩ := hy
      obtain ⟨d, h1, h2⟩ := ha.getV (hy xs (ex_t (e.trans e') hs))
      exact ⟨F3, d, Gr.refl e', h1, h2.up e⟩
def signD (c : Nat) : D := .str ⟨#[c]⟩
theorem w_str {z : Str} (h : EvD K tl σ F H (.str z)) : EvW K (iStr tl) σ F H (z.cps.toList.map signD) := fun F1 H1 e1 e2 e3 R q => h F1 H1 e1 e2 e3 _ fun v F2 H2 g hv => by
  cases hv
  have hl : (z.cps.toList.map signD).length = z.cps.size := by simp
  refine ⟨z, rfl, q _ F2 H2 g ⟨fun H i e hi => by rw [hl] at hi; exact hi, fun F3 H i x H' hi e e' hy => ?_, fun H i e hi => by rw [hl] at hi; exact hi⟩⟩
  obtain ⟨rfl, c, hc, rfl⟩ := hy
  refine ⟨F3, signD c, Gr.refl e', ?_, .str _⟩
  rw [List.getElem?_map, Array.getElem?_toList, hc]
  rfl
def iAny (K : Fg) (tl : TE) : TI := fun σ H R => iList K tl σ H R ∨ iTup K tl σ H R ∨ iStr tl σ H R
theorem pi_any {X : Cx} {K : Fg} {tg l : Expr} {tl : TE} (hl : PE X l tl) (hK : X.K = K := by rfl) : PI X tg l (iAny K tl) := hK ▸ ⟨fun pins s σ H R I h => by
  rcases h with h | h | h
  · exact (pi_list hl).run pins s σ H R I h
  · exact (pi_tup hl).run pins s σ H R I h
  · exact (pi_str hl).run pins s σ H R I h⟩
theorem w_anyL (h : EvD K tl σ F H (.list ds)) : EvW K (iAny K tl) σ F H ds := fun F1 H1 e1 e2 e3 R q => .inl (w_list h F1 H1 e1 e2 e3 R q)
theorem w_anyT (h : EvD K tl σ F H (.tuple ds)) : EvW K (iAny K tl) σ F H ds := fun F1 H1 e1 e2 e3 R q => .inr (.inl (w_tup h F1 H1 e1 e2 e3 R q))
theorem w_anyS {z : Str} (h : EvD K tl σ F H (.str z)) : EvW K (iAny K tl) σ F H (z.cps.toList.map signD) := fun F1 H1 e1 e2 e3 R q => .inr (.inr (w_str h F1 H1 e1 e2 e3 R q))
def rangeD (lo : Int) (n : Nat) : List D := (List.range n).map fun (i : Nat) => .int (lo + (i : Int))
theorem rangeD_len (lo : Int) (n : Nat) : (rangeD lo n).length = n := by unfold rangeD; simp
theorem rangeD_get {lo : Int} {n i : Nat} {d : D} (h : (rangeD lo n)[i]? = some d) : i < n ∧ d = .int (lo + (i : Int)) := by
  have hi : i < n := by
    have := (List.getElem?_eq_some_iff.mp h).1
    rwa [rangeD_len] at this
  refine ⟨hi, ?_⟩
  unfold rangeD at h
  rw [List.getElem?_map, List.getElem?_range hi] at h
  exact (Option.some.inj h).symm
theorem rangeD_mem {lo : Int} {n : Nat} {d : D} (h : d ∈ rangeD lo n) : ∃ i : Nat, i < n ∧ d = .int (lo + (i : Int)) := by
  unfold rangeD at h
  obtain ⟨i, hi, e⟩ := List.mem_map.mp h
  exact ⟨i, List.mem_range.mp hi, e.symm⟩
theorem wk_range {lo : Int} {n : Nat} : Wk K (Itr lo n) F (rangeD lo n) := by
  refine ⟨fun H i e hi => by rw [rangeD_len] at hi; exact hi, fun F3 H i x H' hi e e' hy => ?_, fun H i e hi => by rw [rangeD_len] at hi; exact hi⟩
  obtain ⟨rfl, rfl⟩ := hy
  rw [rangeD_len] at hi
  refine ⟨F3, .int (lo + (i : Int)), Gr.refl e', ?_, .int _⟩
  unfold rangeD
  rw [List.getElem?_map, List.getElem?_range hi]
  rfl
theorem w_range1 {ta : TA} {n : Int} (h : EvDs K ta σ F H [.int n]) (h1 : -(2 ^ 62) ≤ n) (h2 : n < 2 ^ 62) : EvW K (iRng1 ta) σ F H (rangeD 0 n.toNat) := fun F1 H1 e1 e2 e3 R q => h F1 H1 e1 e2 e3 _ fun vs F2 H2 g hv => by
  obtain ⟨w, rfl, hw⟩ := dps1 hv
  cases hw
  exact ⟨n, rfl, h1, h2, q _ F2 H2 g wk_range⟩
theorem w_range2 {ta : TA} {lo n : Int} (h : EvDs K ta σ F H [.int lo, .int n]) (h0 : -(2 ^ 62) ≤ lo ∧ lo < 2 ^ 62 ∧ -(2 ^ 62) ≤ n ∧ n < 2 ^ 62) : EvW K (iRng2 ta) σ F H (rangeD lo (n - lo).toNat) := fun F1 H1 e1 e2 e3 R q => h F1 H1 e1 e2 e3 _ fun vs F2 H2 g hv => by
  obtain ⟨v, w, rfl, hv, hw⟩ := dps2 hv
  cases hv
  cases hw
  exact ⟨lo, n, rfl, h0, q _ F2 H2 g wk_range⟩
/-! ### for -/
/-- what stands between two turns -/
def Btw (F0 H0 Fb : Hp) (P : L2.St → Hp → Hp → Prop) (σ : L2.St) (H : Hp) : Prop := ∃ F, Gr F0 H0 F H ∧ Ex Fb F ∧ P σ F H
theorem s_for (g : Gr F0 H0 F H) (h : EvW K wi σ F H ds)
    (k : ∀ F2 H2, Gr F0 H0 F2 H2 → Gr F H F2 H2 → ∃ P : Nat → L2.St → Hp → Hp → Prop, P 0 σ F2 H2 ∧
      (∀ i d σ' F' H', ds[i]? = some d → Gr F0 H0 F' H' → Ex F2 F' → P i σ' F' H' → ∀ x F3 H3, Gr F' H' F3 H3 → Dp K F3 x d →
        gt x σ' H3 fun σ2 H4 => tu { D' with nx := Btw F0 H0 F2 (P (i + 1)), ct := Btw F0 H0 F2 (P (i + 1)), bk := D'.nx } σ2 H4) ∧
      (∀ σ' F' H', Gr F0 H0 F' H' → Ex F2 F' → P ds.length σ' F' H' → D'.nx σ' H')) : tFor wi gt tu D' σ H :=
  h F H (Ex.refl F) (Ex.refl H) g.fh _ fun J F2 H2 s wk => by
    obtain ⟨P, p0, hs, hd⟩ := k F2 H2 (g.trans s) s
    refine ⟨fun i m σ' H' => m = ds.length - i ∧ i ≤ ds.length ∧ Btw F0 H0 F2 (P i) σ' H', ⟨ds.length, rfl, Nat.zero_le _, F2, g.trans s, Ex.refl _, p0⟩, ?_⟩
    rintro i m σ' H' ⟨rfl, hi, F', g', e', p⟩
    by_cases hlt : i < ds.length
    · refine .inr ⟨wk.go H' i (e'.trans g'.fh) hlt, Btw F0 H0 F2 (P (i + 1)), fun σ2 H3 p' => ⟨ds.length - (i + 1), by omega, rfl, hlt, p'⟩, fun x H3 y => ?_⟩
      obtain ⟨F3, d, g3, hd3, hx⟩ := wk.yld F' H' i x H3 hlt e' g'.fh y
      exact hs i d σ' F' H' hd3 g' e' p x F3 H3 g3 hx
    · have e : i = ds.length := by omega
      subst e
      exact .inl ⟨wk.stop H' _ (e'.trans g'.fh) (Nat.le_refl _), hd σ' F' H' g' e' p⟩
theorem q_for (g : Gr F0 H0 F H) (h : EvW K wi σ F H ds)
    (k : ∀ F2 H2, Gr F0 H0 F2 H2 → Gr F H F2 H2 → ∃ P : Nat → L2.St → Hp → Hp → Prop, P 0 σ F2 H2 ∧
      (∀ i d σ' F' H', ds[i]? = some d → Gr F0 H0 F' H' → Ex F2 F' → P i σ' F' H' → ∀ x F3 H3, Gr F' H' F3 H3 → Dp K F3 x d →
        gt x σ' H3 fun σ2 H4 => tu { D' with nx := Btw F0 H0 F2 (P (i + 1)), ct := Btw F0 H0 F2 (P (i + 1)), bk := tz D' } σ2 H4) ∧
      (∀ σ' F' H', Gr F0 H0 F' H' → Ex F2 F' → P ds.length σ' F' H' → tz D' σ' H')) : tSeq (tFor wi gt tu) tz D' σ H := s_for (D' := { D' with nx := tz D' }) g h k
/-- while: W falls; between two turns P -/
theorem s_while (g : Gr F0 H0 F H) (P : Nat → L2.St → Hp → Hp → Prop) (m0 : Nat) (p0 : P m0 σ F H)
    (hs : ∀ m σ' F' H', Gr F0 H0 F' H' → Ex F F' → P m σ' F' H' → ∃ b, EvB t σ' F' H' b ∧
      (b = true → ∀ H1, Gr F0 H0 F' H1 → Ex H' H1 → tu { D' with nx := fun σ2 H2 => ∃ m', m' < m ∧ Btw F0 H0 F (P m') σ2 H2, ct := fun σ2 H2 => ∃ m', m' < m ∧ Btw F0 H0 F (P m') σ2 H2, bk := D'.nx } σ' H1) ∧
      (b = false → ∀ H1, Gr F0 H0 F' H1 → Ex H' H1 → D'.nx σ' H1)) : tWhile t tu D' σ H :=
  ⟨fun m σ' H' => Btw F0 H0 F (P m) σ' H', ⟨m0, F, g, Ex.refl F, p0⟩, fun m σ' H' ⟨F', g', e', p⟩ => by
    obtain ⟨b, hb, h1, h2⟩ := hs m σ' F' H' g' e' p
    refine hb F' H' (Ex.refl _) (Ex.refl _) g'.fh _ fun H1 e => ?_
    cases b with
    | true => exact ⟨_, fun σ2 H2 n => n, h1 rfl H1 (g'.grow e) e⟩
    | false => exact h2 rfl H1 (g'.grow e) e⟩
theorem q_while (g : Gr F0 H0 F H) (P : Nat → L2.St → Hp → Hp → Prop) (m0 : Nat) (p0 : P m0 σ F H)
    (hs : ∀ m σ' F' H', Gr F0 H0 F' H' → Ex F F' → P m σ' F' H' → ∃ b, EvB t σ' F' H' b ∧
      (b = true → ∀ H1, Gr F0 H0 F' H1 → Ex H' H1 → tu { D' with nx := fun σ2 H2 => ∃ m', m' < m ∧ Btw F0 H0 F (P m') σ2 H2, ct := fun σ2 H2 => ∃ m', m' < m ∧ Btw F0 H0 F (P m') σ2 H2, bk := tz D' } σ' H1) ∧
      (b = false → ∀ H1, Gr F0 H0 F' H1 → Ex H' H1 → tz D' σ' H1)) : tSeq (tWhile t tu) tz D' σ H := s_while (D' := { D' with nx := tz D' }) g P m0 p0 hs
/-- the target a name -/
theorem s_forN (g : Gr F0 H0 F H) (h : EvW K wi σ F H ds)
    (k : ∀ F2 H2, Gr F0 H0 F2 H2 → Gr F H F2 H2 → ∃ P : Nat → L2.St → Hp → Hp → Prop, P 0 σ F2 H2 ∧
      (∀ i d σ' F' H', ds[i]? = some d → Gr F0 H0 F' H' → Ex F2 F' → P i σ' F' H' → ∀ x F3 H3, Gr F' H' F3 H3 → Dp K F3 x d →
        tu { D' with nx := Btw F0 H0 F2 (P (i + 1)), ct := Btw F0 H0 F2 (P (i + 1)), bk := D'.nx } (σ'.set j (some x)) H3) ∧
      (∀ σ' F' H', Gr F0 H0 F' H' → Ex F2 F' → P ds.length σ' F' H' → D'.nx σ' H')) : tFor wi (gName j) tu D' σ H := s_for (K := K) g h k
theorem q_forN (g : Gr F0 H0 F H) (h : EvW K wi σ F H ds)
    (k : ∀ F2 H2, Gr F0 H0 F2 H2 → Gr F H F2 H2 → ∃ P : Nat → L2.St → Hp → Hp → Prop, P 0 σ F2 H2 ∧
      (∀ i d σ' F' H', ds[i]? = some d → Gr F0 H0 F' H' → Ex F2 F' → P i σ' F' H' → ∀ x F3 H3, Gr F' H' F3 H3 → Dp K F3 x d →
        tu { D' with nx := Btw F0 H0 F2 (P (i + 1)), ct := Btw F0 H0 F2 (P (i + 1)), bk := tz D' } (σ'.set j (some x)) H3) ∧
      (∀ σ' F' H', Gr F0 H0 F' H' → Ex F2 F' → P ds.length σ' F' H' → tz D' σ' H')) : tSeq (tFor wi (gName j) tu) tz D' σ H := s_forN (D' := { D' with nx := tz D' }) g h k
/-- over range(n): what holds between two turns, of the slots and the heap alone -/
theorem q_forR {ta : TA} {n : Int} (g : Gr F0 H0 F H) (h : EvDs K ta σ F H [.int n]) (h1 : -(2 ^ 62) ≤ n) (h2 : n < 2 ^ 62) (P : Nat → L2.St → Hp → Hp → Prop) (p0 : ∀ H2, Gr F0 H0 F H2 → Ex H H2 → P 0 σ F H2)
    (hs : ∀ (i : Nat) σ' F' H', (i : Int) < n → Gr F0 H0 F' H' → Ex F F' → P i σ' F' H' → tu { D' with nx := Btw F0 H0 F (P (i + 1)), ct := Btw F0 H0 F (P (i + 1)), bk := tz D' } (σ'.set j (some (.int (i : Int)))) H')
    (hd : ∀ σ' F' H', Gr F0 H0 F' H' → Ex F F' → P n.toNat σ' F' H' → tz D' σ' H') : tSeq (tFor (iRng1 ta) (gName j) tu) tz D' σ H :=
  h F H (Ex.refl F) (Ex.refl H) g.fh _ fun vs F2 H2 s hv => by
    obtain ⟨w, rfl, hw⟩ := dps1 hv
    cases hw
    refine ⟨n, rfl, h1, h2, ?_⟩
    refine ⟨fun i m σ' H' => m = n.toNat - i ∧ i ≤ n.toNat ∧ Btw F0 H0 F (P i) σ' H', ⟨n.toNat, rfl, Nat.zero_le _, F, g.grow s.hx, Ex.refl _, p0 H2 (g.grow s.hx) s.hx⟩, ?_⟩
    rintro i m σ' H' ⟨rfl, hi, F', g', e', p⟩
    by_cases hlt : i < n.toNat
    · refine .inr ⟨hlt, Btw F0 H0 F (P (i + 1)), fun σ2 H3 p' => ⟨n.toNat - (i + 1), by omega, rfl, hlt, p'⟩, fun x H3 y => ?_⟩
      obtain ⟨rfl, rfl⟩ := y
      have e0 : (0 : Int) + (i : Int) = (i : Int) := Int.zero_add _
      rw [e0]
      exact hs i σ' F' _ (by omega) g' e' p
    · have e : i = n.toNat := by omega
      subst e
      exact .inl ⟨Nat.le_refl _, hd σ' F' H' g' e' p⟩
theorem q_forR2 {ta : TA} {lo n : Int} (g : Gr F0 H0 F H) (h : EvDs K ta σ F H [.int lo, .int n]) (h1 : -(2 ^ 62) ≤ lo ∧ lo < 2 ^ 62 ∧ -(2 ^ 62) ≤ n ∧ n < 2 ^ 62) (P : Nat → L2.St → Hp → Hp → Prop) (p0 : ∀ H2, Gr F0 H0 F H2 → Ex H H2 → P 0 σ F H2)
    (hs : ∀ (i : Nat) σ' F' H', lo + (i : Int) < n → Gr F0 H0 F' H' → Ex F F' → P i σ' F' H' → tu { D' with nx := Btw F0 H0 F (P (i + 1)), ct := Btw F0 H0 F (P (i + 1)), bk := tz D' } (σ'.set j (some (.int (lo + (i : Int))))) H')
    (hd : ∀ σ' F' H', Gr F0 H0 F' H' → Ex F F' → P (n - lo).toNat σ' F' H' → tz D' σ' H') : tSeq (tFor (iRng2 ta) (gName j) tu) tz D' σ H :=
  h F H (Ex.refl F) (Ex.refl H) g.fh _ fun vs F2 H2 s hv => by
    obtain ⟨u, w, rfl, hu, hw⟩ := dps2 hv
    cases hu; cases hw
    refine ⟨lo, n, rfl, h1, ?_⟩
    refine ⟨fun i m σ' H' => m = (n - lo).toNat - i ∧ i ≤ (n - lo).toNat ∧ Btw F0 H0 F (P i) σ' H', ⟨(n - lo).toNat, rfl, Nat.zero_le _, F, g.grow s.hx, Ex.refl _, p0 H2 (g.grow s.hx) s.hx⟩, ?_⟩
    rintro i m σ' H' ⟨rfl, hi, F', g', e', p⟩
    by_cases hlt : i < (n - lo).toNat
    · refine .inr ⟨hlt, Btw F0 H0 F (P (i + 1)), fun σ2 H3 p' => ⟨(n - lo).toNat - (i + 1), by omega, rfl, hlt, p'⟩, fun x H3 y => ?_⟩
      obtain ⟨rfl, rfl⟩ := y
      exact hs i σ' F' _ (by omega) g' e' p
    · have e : i = (n - lo).toNat := by omega
      subst e
      exact .inl ⟨Nat.le_refl _, hd σ' F' H' g' e' p⟩
/-- if c: x = e, an int behind it either way, of which something holds -/
theorem q_ifInt {b : Bool} {S : Int → Prop} (g : Gr F0 H0 F H) (h : EvB t σ F H b) (h1 : b = true → ∃ z, EvD K te σ F H (.int z) ∧ S z) (h2 : b = false → ∃ z, σ.set i (some (.int z)) = σ ∧ S z)
    (k : ∀ z H2, S z → Gr F0 H0 F H2 → Ex H H2 → tz D' (σ.set i (some (.int z))) H2) : tSeq (tIfS t (tAsg te (gName i)) tNext) tz D' σ H :=
  q_when g h (fun hb H2 g2 e2 => by
    obtain ⟨z, hz, sz⟩ := h1 hb
    exact s_setV (D' := { D' with nx := tz D' }) g2 (hz.up (Ex.refl F) e2) rfl fun H3 g3 e3 => k z H3 sz g3 (e2.trans e3)) fun hb H2 g2 e2 => by
    obtain ⟨z, hz, sz⟩ := h2 hb
    have q := k z H2 sz g2 e2
    rw [hz] at q
    exact q
/-! ### comprehensions -/
theorem n_lc {vs : List Nat} (h : EvW K wi σ F H ds) (hz : ds.length ≤ 50000) (f : D → Bool) (e : D → D) (hw : ∀ x, wipe ((wipe σ vs).set j (some x)) vs = wipe σ vs)
    (ht : ∀ d x F' H', d ∈ ds → Ex F F' → Ex H H' → Ex F' H' → Dp K F' x d → EvB tt ((wipe σ vs).set j (some x)) F' H' (f d))
    (he : ∀ d x F' H', d ∈ ds → f d = true → Ex F F' → Ex H H' → Ex F' H' → Dp K F' x d → EvD K te ((wipe σ vs).set j (some x)) F' H' (e d)) :
    EvN K (tLc wi (gName j) tt te vs) σ F H ((ds.filter f).map e) := fun F1 H1 e1 e2 e3 Q q => h F1 H1 e1 e2 e3 _ fun J F2 H2 g2 wk Dl hD => by
  have f2 : F2 Dl = none := fresh_back g2.fh hD
  refine ⟨fun i m H' => m = ds.length - i ∧ i ≤ ds.length ∧ ∃ F' ws, Gr F2 H2 F' H' ∧ F' Dl = none ∧ H' Dl = some (.lst ws) ∧ DpAll K F' ws (((ds.take i).filter f).map e),
    ⟨ds.length, rfl, Nat.zero_le _, F2, [], Gr.own g2.fh hD, f2, upd_same, .nil⟩, ?_⟩
  rintro i m H' ⟨rfl, hi, F', ws, g', fl, hl, ha⟩
  by_cases hlt : i < ds.length
  · refine .inr ⟨wk.go H' i (g'.fx.trans g'.fh) hlt, fun H'' => ∃ F'' ws', Gr F2 H2 F'' H'' ∧ F'' Dl = none ∧ H'' Dl = some (.lst ws') ∧ DpAll K F'' ws' (((ds.take (i + 1)).filter f).map e), fun H'' p' => ⟨ds.length - (i + 1), by omega, rfl, hlt, p'⟩, fun x H3 y => ?_⟩
    obtain ⟨F3, d, g3, hd3, hx⟩ := wk.yld F' H' i x H3 hlt g'.fx g'.fh y
    have hm : d ∈ ds := List.mem_of_getElem? hd3
    have hne : H' Dl ≠ none := by rw [hl]; exact fun z => nomatch z
    have f3 : F3 Dl = none := (g3.old Dl hne).trans fl
    have l3 := g3.hx Dl _ hl
    have x1 : Ex F F3 := ((e1.trans g2.fx).trans g'.fx).trans g3.fx
    have x2 : Ex H H3 := ((e2.trans g2.hx).trans g'.hx).trans g3.hx
    have et : ds.take (i + 1) = ds.take i ++ [d] := by rw [List.take_add_one, hd3]; rfl
    refine ⟨hw x, ht d x F3 H3 hm x1 x2 g3.fh hx F3 H3 (Ex.refl _) (Ex.refl _) g3.fh _ fun H4 e4 => ?_⟩
    have g4 : Gr F2 H2 F3 H4 := (g'.trans g3).grow e4
    cases hf : f d with
    | true =>
      show te _ H4 _
      refine he d x F3 H4 hm hf x1 (x2.trans e4) g4.fh hx F3 H4 (Ex.refl _) (Ex.refl _) g4.fh _ fun v F5 H5 g5 hv => ?_
      have l4 := e4 Dl _ l3
      have l5 := g5.hx Dl _ l4
      have f5 : F5 Dl = none := (g5.old Dl (by rw [l4]; exact fun z => nomatch z)).trans f3
      have hlen : ws.length ≤ i := by
        rw [ha.length, List.length_map]
        exact Nat.le_trans (List.length_filter_le _ _) (by rw [List.length_take]; omega)
      refine ⟨ws, l5, sz_lt (by omega), F5, ws ++ [v], (g4.trans g5).mut hD f5, f5, upd_same, ?_⟩
      rw [et, List.filter_append, List.map_append]
      have : [d].filter f = [d] := by simp [hf]
      rw [this]
      exact (ha.up (g3.fx.trans g5.fx)).append (.cons hv .nil)
    | false =>
      show ∃ F'' ws', _
      refine ⟨F3, ws, g4, f3, e4 Dl _ l3, ?_⟩
      rw [et, List.filter_append, List.map_append]
      have : [d].filter f = [] := by simp [hf]
      rw [this, List.map_nil, List.append_nil]
      exact ha.up g3.fx
  · have ei : i = ds.length := by omega
    subst ei
    rw [List.take_length] at ha
    refine .inl ⟨wk.stop H' _ (g'.fx.trans g'.fh) (Nat.le_refl _), q Dl ws F' H' (g2.trans g') (g2.back hD) fl hl ha⟩
theorem filter_all {α : Type} (xs : List α) : xs.filter (fun _ => true) = xs := by induction xs with
  | nil => rfl
  | cons x r ih => simp [List.filter_cons]
/-- without if -/
theorem n_lc1 {vs : List Nat} (h : EvW K wi σ F H ds) (hz : ds.length ≤ 50000) (e : D → D) (hw : ∀ x, wipe ((wipe σ vs).set j (some x)) vs = wipe σ vs)
    (he : ∀ d x F' H', d ∈ ds → Ex F F' → Ex H H' → Ex F' H' → Dp K F' x d → EvD K te ((wipe σ vs).set j (some x)) F' H' (e d)) :
    EvN K (tLc wi (gName j) tYes te vs) σ F H (ds.map e) :=
  (n_lc h hz (fun _ => true) e hw (fun _ _ _ _ _ _ _ _ _ => b_yes) (fun d x F' H' hm _ => he d x F' H' hm)).to (by rw [filter_all])
end
section
variable {P : Program} {w : World} {K : Fg} {mg : Str → Option Value} {base : Heap} {k : Nat} {x : Str} {st : Stmt} {N ps : List Str}
theorem Df.dkN {R : List D → List D → Prop} (D0 : Df K mg x st ps) (S : FnScope N ps (defScope st)) (hl : ∀ ds r, R ds r → ds.length = ps.length)
    (hb : ∀ (f : Addr) (cdv : Value) (A : Around) (outer : List Env) (s : Shared) (H : Hp) (E : XK), Room k (A.deeper (envOfC x (defScope st) s.heap.objs.size f cdv)) →
      ∃ t, PSs (cxOf CX0 P w K mg base N x (defScope st) f cdv A outer s H E).nox (defBody st) t ∧
        ∀ vs F0 ds es Q, Ex F0 H → DpAll K F0 vs ds → R ds es → AnsN K F0 H es Q → t { nx := fun _ H' => Q .non H', rt := Q } (start N vs) H) : Dk P w K mg base (k + 1) x ps (spN K R) := by
  refine D0.dkS S (fun vs H Q E ⟨F, ds, es, _, ha, hr, _⟩ => by rw [ha.length]; exact hl ds es hr) fun f cdv A outer s H E hr => ?_
  obtain ⟨t, h1, h2⟩ := hb f cdv A outer s H E hr
  exact ⟨t, h1, fun vs Q ⟨F0, ds, r, fh, ha, hR, q⟩ => h2 vs F0 ds r Q fh ha hR q⟩
end
end Ly
/-! LyD: methods of texts and lists, more built-ins. -/
namespace Ly
open PySem L2 Evl PyProof.Rows
section
variable {X : Cx} {K : Fg} {o e : Expr} {es : List Expr} {to : TE} {t : TA} {name : Str} {apos cpos : Pos} {T id : String} {r : V → List V → Hp → VK → Prop}
theorem bm0 (pa : PlainAttrs T) (slot : Slot T name id) (hty : typeOf (.builtin id) = pure (.type "method_descriptor")) (hm : MtR X id r) (ho : PE X o to) (hK : X.K = K := by rfl)
    (hbase : attributeBase o name X.env (eval o X.env) = eval o X.env := by rfl) (hline : (apos.endLine == cpos.line) = true := by rfl) : PE X (.Call (.Attribute o name apos) [] [] cpos) (tBM0 K T r to) := by
  subst hK
  exact pe_bm0 pa slot hty hm ho hbase hline
theorem bm (pa : PlainAttrs T) (slot : Slot T name id) (hty : typeOf (.builtin id) = pure (.type "method_descriptor")) (hm : MtR X id r) (ho : PE X o to) (ha : PA X (e :: es) t) (hK : X.K = K := by rfl)
    (hbase : attributeBase o name X.env (eval o X.env) = eval o X.env := by rfl)
    (hfew : ((backTo cpos (starEach (e :: es) X.env)).all (fun x => !x.1) && (backToKw cpos (keywordEach [] X.env)).all (fun x => x.1.isSome)
      && decide ((e :: es).length + ([] : List Keyword).length + (if ([] : List Keyword).isEmpty then 0 else 1) < 30)) = true := by rfl)
    (hline : (apos.endLine == cpos.line) = true := by rfl) (hs : starEach (e :: es) X.env = (false, eval e X.env) :: starEach es X.env := by rfl) (hplain : (backTo cpos (starEach es X.env)).any (·.1) = false := by rfl) :
    PE X (.Call (.Attribute o name apos) (e :: es) [] cpos) (tBM K T r to t) := by
  subst hK
  exact pe_bm pa slot hty hm ho ha hbase hfew hline hs hplain
end
/-! ### methods of texts -/
inductive IndexD : D → List D → D → Prop
  | mk (a b : Str) (i : Nat) (rest : List Nat) (h : Builtin.Str.occurrences a b 0 a.length 1 = i :: rest) : IndexD (.str a) [.str b] (.int (i : Int))
inductive FindD : D → List D → D → Prop
  | mk (a b : Str) : FindD (.str a) [.str b] (.int (match Builtin.Str.occurrences a b 0 a.length 1 with | i :: _ => (i : Int) | [] => -1))
inductive JoinD : D → List D → D → Prop
  | list (a : Str) (ys : List Str) (h : (ys.map (·.length)).sum + ys.length * a.length ≤ 16777216) : JoinD (.str a) [.list (ys.map PyData.str)] (.str (Txt.join a ys))
section
variable {K : Fg} {X : Cx} {σ : L2.St} {F H : Hp} {to : TE} {t : TA} {ds : List D} {r : D} {z : Str}
theorem mt_of {id : String} {rr : V → List V → Hp → VK → Prop} {R : D → List D → D → Prop} (h : MtR X id rr)
    (hr : ∀ F H x xs d ds z Q, Ex F H → Dp X.K F x d → DpAll X.K F xs ds → R d ds z → Ans X.K F H z Q → rr x xs H Q) (hK : X.K = K := by rfl) : MtR X id (rDm K R) := by
  subst hK
  exact fun pins s σ H x xs v us Q I rx rs ⟨F, d, ds, z, fh, hx, hxs, hR, q⟩ => h pins s σ H x xs v us Q I rx rs (hr F H x xs d ds z Q fh hx hxs hR q)
theorem mIndex (hK : X.K = K := by rfl) : MtR X "str.index" (rDm K IndexD) := mt_of mt_sindex (fun F H x xs d ds z Q fh hx hxs hR q => by
  obtain ⟨a, b, i, rest, h⟩ := hR
  obtain ⟨v, rfl, hv⟩ := dps1 hxs
  cases hx; cases hv
  exact ⟨a, b, i, rest, rfl, rfl, h, q.sc fh rfl⟩) hK
theorem mFind (hK : X.K = K := by rfl) : MtR X "str.find" (rDm K FindD) := mt_of mt_find (fun F H x xs d ds z Q fh hx hxs hR q => by
  obtain ⟨a, b⟩ := hR
  obtain ⟨v, rfl, hv⟩ := dps1 hxs
  cases hx; cases hv
  exact ⟨a, b, rfl, rfl, q.sc fh rfl⟩) hK
theorem mJoin (hK : X.K = K := by rfl) : MtR X "str.join" (rDm K JoinD) := mt_of mt_join (fun F H x xs d ds z Q fh hx hxs hR q => by
  obtain ⟨a, ys, h⟩ := hR
  obtain ⟨v, rfl, hv⟩ := dps1 hxs
  cases hx
  cases hv with
  | lst s1 a1 =>
    have e := dps_strs_inv ys a1
    subst e
    exact ⟨a, _, ys, rfl, rfl, .inl (ex_l fh s1), h, q.sc fh rfl⟩) hK
theorem d_bm {R : D → List D → D → Prop} (ho : EvD K to σ F H (.str z)) (ha : EvDs K t σ F H ds) (hr : R (.str z) ds r) : EvD K (tBM K "str" (rDm K R) to t) σ F H r := fun F1 H1 e1 e2 e3 Q q =>
  ho F1 H1 e1 e2 e3 _ fun x F2 H2 g2 hx => ⟨tyV_str hx, ha F2 H2 (e1.trans g2.fx) (e2.trans g2.hx) g2.fh _ fun xs F3 H3 g3 hxs => ⟨F3, .str z, ds, r, g3.fh, hx.up g3.fx, hxs, hr, fun v F4 H4 g4 hv => q v F4 H4 ((g2.trans g3).trans g4) hv⟩⟩
end
/-! ### more calls -/
section
variable {X : Cx} {K : Fg}
theorem jDivmod (hK : X.K = K := by rfl) : CallR X (.builtin "divmod") (rDn K DivmodD) := by
  subst hK
  refine cn_of call_divmod fun F H xs ds z Q fh hx hR q => ?_
  cases hR with
  | int i j h =>
    obtain ⟨v, w, rfl, hv, hw⟩ := dps2 hx
    cases hv; cases hw
    exact ⟨i, j, rfl, h, fun p hp => q.tup fh (.cons (.int _) (.cons (.int _) .nil)) hp⟩
theorem jAll (hc : X.calm = true) (hK : X.K = K := by rfl) : CallR X (.builtin "all") (rDn K AllD) := by
  subst hK
  refine cn_of (cr_all hc) fun F H xs ds z Q fh hx hR q => ?_
  cases hR with
  | list bs =>
    obtain ⟨v, rfl, hv⟩ := dps1 hx
    cases hv with
    | lst s1 a1 =>
      have e := dps_bools_inv bs a1
      subst e
      exact ⟨_, bs, rfl, ex_l fh s1, q.sc fh rfl⟩
theorem jAny (hc : X.calm = true) (hK : X.K = K := by rfl) : CallR X (.builtin "any") (rDn K AnyD) := by
  subst hK
  refine cn_of (cr_any hc) fun F H xs ds z Q fh hx hR q => ?_
  cases hR with
  | list bs =>
    obtain ⟨v, rfl, hv⟩ := dps1 hx
    cases hv with
    | lst s1 a1 =>
      have e := dps_bools_inv bs a1
      subst e
      exact ⟨_, bs, rfl, ex_l fh s1, q.sc fh rfl⟩
theorem jSum (hc : X.calm = true) (hK : X.K = K := by rfl) : CallR X (.builtin "sum") (rDn K SumD) := by
  subst hK
  refine cn_of (cr_sum hc) fun F H xs ds z Q fh hx hR q => ?_
  cases hR with
  | list ns =>
    obtain ⟨v, rfl, hv⟩ := dps1 hx
    cases hv with
    | lst s1 a1 =>
      have e := dps_ints_inv ns a1
      subst e
      exact ⟨_, ns, rfl, ex_l fh s1, q.sc fh rfl⟩
end
/-! ### texts by their signs -/
theorem str_app (a b : List Nat) : (⟨a.toArray⟩ ++ ⟨b.toArray⟩ : Str) = ⟨(a ++ b).toArray⟩ := by
  show Str.append _ _ = _
  unfold Str.append
  simp
theorem str_len (a : List Nat) : (⟨a.toArray⟩ : Str).length = a.length := by
  unfold Str.length
  simp
end Ly
namespace Ly
open PySem L2 Evl PyProof.Rows
/-! ### calls with keywords, n positional ones ahead, the keywords in the parameters' order -/
def gOf {α : Type} (n : Nat) (us ws : List α) : List α := if us.length = n then us ++ ws else []
section
variable {P : Program} {w : World} {K : Fg} {mg : Str → Option Value} {base : Heap} {k : Nat} {x : Str} {st : Stmt} {ps ks : List Str}
theorem clK {X : Cx} {sp : Sp} {p pos : Pos} {e : Expr} {es : List Expr} {kws : List Keyword} {t tk : TA} {j : Nat} (h : Dk P w K mg base k x ps sp) (D0 : Df K mg x st ps) (hr : Room j X.A) (n m : Nat) (hn : 0 < ps.length) (hnm : n + m = ps.length)
    (hb : ∀ (kV doc pm : Value) (an : Option Addr) (cdv ct : Value) (us ws : List Value), us.length = n → ws.length = m → bindArgs (PySem.W.fnOf x x (defArgs st) (defBody st) (defScope st) .none kV doc pm an cdv ct) ⟨us, ks.zip ws⟩ = pure (ps.zip (us ++ ws)))
    (ha : PA X (e :: es) t) (hkw : PK X kws tk) (hj : k ≤ j := by decide) (hg : Gl X x := by rfl)
    (hP : X.prog = P := by rfl) (hw : X.w = w := by rfl) (hK : X.K = K := by rfl) (hm : X.mg = mg := by rfl) (hB : X.base = base := by rfl)
    (hall : (backToKw pos (keywordEach kws X.env)).all (·.1.isSome) = true := by rfl) (hks : (backToKw pos (keywordEach kws X.env)).filterMap (·.1) = ks := by rfl)
    (hdb : (x == ("__debug__" : Str)) = false := by decide) (he : starEach (e :: es) X.env = (false, eval e X.env) :: starEach es X.env := by rfl)
    (hpl : ((backTo pos (starEach (e :: es) X.env)).any (·.1) || (backToKw pos (keywordEach kws X.env)).any (·.1.isNone)) = false := by rfl) :
    PE X (.Call (.Name x p) (e :: es) kws pos) (tCallK sp (gOf n) E0 t tk) := by
  subst hP hw hK hm hB
  obtain ⟨f, fd, h1, h2, h3, h4, o, l, d⟩ := h.ex
  obtain ⟨f', fd', F, hm', _⟩ := D0.ex
  have e1 := h1.symm.trans hm'
  cases e1
  obtain ⟨o', l', d'⟩ := fun_at F
  have e2 := l.symm.trans l'
  cases e2
  have e3 := d.symm.trans d'
  cases e3
  obtain ⟨oc, od, kV, doc, pm, an, cdv, ct, osl, rfl, lk, hcd⟩ := F.ex
  refine pe_callK h2 (hr.mono hj) hg h1 h3 (g := gOf n) (gV := gOf n) ⟨fun s us ws _ hl => ?_, fun {vs us zs ws} r1 r2 => ?_⟩ pass0 ha hkw hall hks hdb he hpl
  · unfold gOf at hl ⊢
    split at hl
    · rename_i hu
      rw [if_pos hu]
      refine .of_eq (hb kV doc pm an cdv ct us ws hu ?_)
      rw [List.length_append] at hl
      omega
    · rw [List.length_nil] at hl
      omega
  · unfold gOf
    rw [r1.length]
    split
    · exact r1.append r2
    · exact .nil
theorem d_callK {R : List D → D → Prop} {E : XK} {σ : L2.St} {F H : Hp} {ta tk : TA} {n : Nat} {ds es : List D} {r : D} (ha : EvDs K ta σ F H ds) (hk : EvDs K tk σ F H es) (hn : ds.length = n) (hr : R (ds ++ es) r) : EvD K (tCallK (spR K R) (gOf n) E ta tk) σ F H r := fun F1 H1 e1 e2 e3 Q q =>
  ha F1 H1 e1 e2 e3 _ fun xs F2 H2 g2 hx => hk F2 H2 (e1.trans g2.fx) (e2.trans g2.hx) g2.fh _ fun ys F3 H3 g3 hy => by
    show rDn K R (gOf n xs ys) H3 Q
    have e : gOf n xs ys = xs ++ ys := by unfold gOf; rw [if_pos (by rw [hx.length]; exact hn)]
    rw [e]
    exact ⟨F3, ds ++ es, r, g3.fh, (hx.up g3.fx).append hy, hr, fun v F4 H4 g4 hv => q v F4 H4 ((g2.trans g3).trans g4) hv⟩
end
end Ly
/-! LyE: xs[i] += e, sums of tuples. -/
namespace Ly
open PySem L2 Evl PyProof.Rows
/-! ### xs[i] op= e of a list that is one's own -/
def rGetL : V → V → Hp → VK → Prop := fun o i H Q => ∃ (l : Addr) (xs : List V) (n : Nat) (v : V), o = .ref l ∧ i = .int (n : Int) ∧ H l = some (.lst xs) ∧ xs[n]? = some v ∧ Q v H
theorem get_list {X : Cx} : PGet X rGetL := by
  intro pins s σ H o i ov iv Q I ro ri h
  obtain ⟨l, xs, n, v, rfl, rfl, hl, hx, q⟩ := h
  cases ro
  obtain ⟨t, rfl⟩ := ri
  obtain ⟨its, r, pl, hz⟩ := I.list (SqL.of hl)
  obtain ⟨u, hu, ru⟩ := r.get hx
  have hn := (List.getElem?_eq_some_iff.mp hx).1
  have h63 := line63
  exact wpAny_getItem_list pl.isList (Int.natCast_nonneg n) (by omega) (by rw [Int.toNat_natCast]; simpa using hu) ⟨v, H, I, ru, q⟩
section
variable {K : Fg} {σ : L2.St} {F H F0 H0 : Hp} {te ti : TE} {i : Nat} {D' : Ends} {tz : TS}
theorem s_augL {f : Int → Int → Int} {l : Addr} {xs : List V} {n : Nat} {a b : Int} (g : Gr F0 H0 F H) (hl0 : H0 l = none) (fl : F l = none) (hl : H l = some (.lst xs)) (hv : σ[i]? = some (some (.ref l))) (hi : EvD K ti σ F H (.int (n : Int))) (hx : xs[n]? = some (.int a)) (h : EvD K te σ F H (.int b))
    (k : ∀ H2, Gr F0 H0 F H2 → (∀ p o, p ≠ l → H p = some o → H2 p = some o) → H2 l = some (.lst (xs.set n (.int (f a b)))) → D'.nx σ H2) : tAugS (tVar i) ti te rGetL (ipI f) rSetL D' σ H := by
  refine ⟨.ref l, hv, hi F H (Ex.refl F) (Ex.refl H) g.fh _ fun w F2 H2 s2 hw => ?_⟩
  cases hw
  refine ⟨l, xs, n, .int a, rfl, rfl, s2.hx _ _ hl, hx, h F H2 (Ex.refl F) s2.hx (g.fh.trans s2.hx) _ fun w F3 H3 s3 hw => ?_⟩
  cases hw
  have hn := (List.getElem?_eq_some_iff.mp hx).1
  refine ⟨a, b, rfl, rfl, l, xs, (n : Int), n, rfl, rfl, s3.hx _ _ (s2.hx _ _ hl), ixN_nat hn, ?_⟩
  refine k _ (((g.grow s2.hx).grow s3.hx).mut hl0 fl) (fun p o hp ho => ?_) upd_same
  rw [upd_ne hp]
  exact s3.hx p o (s2.hx p o ho)
theorem q_augL {f : Int → Int → Int} {l : Addr} {xs : List V} {n : Nat} {a b : Int} (g : Gr F0 H0 F H) (hl0 : H0 l = none) (fl : F l = none) (hl : H l = some (.lst xs)) (hv : σ[i]? = some (some (.ref l))) (hi : EvD K ti σ F H (.int (n : Int))) (hx : xs[n]? = some (.int a)) (h : EvD K te σ F H (.int b))
    (k : ∀ H2, Gr F0 H0 F H2 → (∀ p o, p ≠ l → H p = some o → H2 p = some o) → H2 l = some (.lst (xs.set n (.int (f a b)))) → tz D' σ H2) : tSeq (tAugS (tVar i) ti te rGetL (ipI f) rSetL) tz D' σ H := s_augL (D' := { D' with nx := tz D' }) g hl0 fl hl hv hi hx h k
end
/-! ### calls that hand out a new list -/
def rNew (K : Fg) (R : List D → List D → Prop) : List V → Hp → VK → Prop := fun vs H Q => ∃ F ds es, Ex F H ∧ DpAll K F vs ds ∧ R ds es ∧ AnsN K F H es Q
inductive ListN : List D → List D → Prop
  | list (ds : List D) : ListN [.list ds] ds
  | tup (ds : List D) : ListN [.tuple ds] ds
theorem AnsN.lst {K : Fg} {F H : Hp} {es : List D} {Q : VK} (q : AnsN K F H es Q) (fh : Ex F H) {vs : List V} (h : DpAll K F vs es) {p : Addr} (hp : H p = none) : Q (.ref p) (upd H p (.lst vs)) :=
  q p vs F _ (Gr.own fh hp) hp (fresh_back fh hp) upd_same h
theorem jListN {X : Cx} {K : Fg} (hK : X.K = K := by rfl) : CallR X (.type "list") (rNew K ListN) := by
  subst hK
  rintro pins s σ H xs us Q I rx ⟨F, ds, es, fh, hx, hR, q⟩
  refine call_list_of pins s σ H xs us Q I rx ?_
  cases hR with
  | list ds =>
    obtain ⟨v, rfl, hv⟩ := dps1 hx
    cases hv with
    | lst s1 a1 => exact ⟨_, _, rfl, .inl (ex_l fh s1), fun p hp => q.lst fh a1 hp⟩
  | tup ds =>
    obtain ⟨v, rfl, hv⟩ := dps1 hx
    cases hv with
    | tup s1 a1 => exact ⟨_, _, rfl, .inr (ex_t fh s1), fun p hp => q.lst fh a1 hp⟩
theorem n_cb {K : Fg} {σ : L2.St} {F H : Hp} {R : List D → List D → Prop} {ta : TA} {ds es : List D} (ha : EvDs K ta σ F H ds) (hr : R ds es) : EvN K (tCB (rNew K R) ta) σ F H es := fun F1 H1 e1 e2 e3 Q q =>
  ha F1 H1 e1 e2 e3 _ fun xs F2 H2 g2 hx => ⟨F2, ds, es, g2.fh, hx, hr, fun p ws F3 H3 g3 hp fp hl ha => q p ws F3 H3 (g2.trans g3) (g2.back hp) fp hl ha⟩
/-! ### sum of a tuple of ints -/
inductive SumTD : List D → D → Prop
  | list (ns : List Int) : SumTD [.list (ns.map PyData.int)] (.int ns.sum)
  | tup (ns : List Int) : SumTD [.tuple (ns.map PyData.int)] (.int ns.sum)
theorem sum_rawT {prog : Program} {w : World} {A : Around} {E : Value → Shared → Prop} {s : Shared} {l : Addr} {its : List Value} {ns : List Int} {Q : Value → Shared → Prop} (hh : A.handled = none) (hl : s.heap.IsTuple l its.toArray) (hi : IntsAre its ns)
    (h : ∀ h' tk t', (∀ b o, s.heap.get? b = some o → h'.get? b = some o) → Q (.int ns.sum t') { s with heap := h', toks := tk }) : wpAny (model prog w) A (call (.builtin "sum") [.ref l]) Q E s := by
  obtain ⟨xs, e⟩ := hi.allInts.items
  have hn : numsOf (intItems xs).toList = ns := by rw [← e]; exact hi.numsOf
  rw [nums_intItems] at hn
  rw [e] at hl
  refine PySem.W.ktm_sumG hh hl fun h' tk t' hk => ?_
  have := h h' tk t' hk
  rw [preSum_eq, List.take_of_length_le (by simp), hn]; exact this
section
variable {X : Cx} {K : Fg}
theorem jSumT (hc : X.calm = true) (hK : X.K = K := by rfl) : CallR X (.builtin "sum") (rDn K SumTD) := by
  subst hK
  rintro pins s σ H xs us Q I rx ⟨F, ds, z, fh, hx, hR, q⟩
  cases hR with
  | list ns =>
    obtain ⟨v, rfl, hv⟩ := dps1 hx
    cases hv with
    | lst s1 a1 =>
      have e := dps_ints_inv ns a1
      subst e
      exact cr_sum hc pins s σ H _ us Q I rx ⟨_, ns, rfl, ex_l fh s1, q.sc fh rfl⟩
  | tup ns =>
    obtain ⟨v, rfl, hv⟩ := dps1 hx
    cases hv with
    | tup s1 a1 =>
      have e := dps_ints_inv ns a1
      subst e
      obtain ⟨its, rv, hl, _⟩ := I.tuple (ex_t fh s1)
      rw [Vals.ref1 rx]
      exact sum_rawT (I.ok.hd hc) hl rv.ints fun h' tk t' hk => ⟨.int _, H, I.kept hk, ⟨_, rfl⟩, q.sc fh rfl⟩
end
end Ly
/-! LyF: ifs that meet again, texts joined. -/
namespace Ly
open PySem L2 Evl PyProof.Rows
section
variable {K : Fg} {σ : L2.St} {F H F0 H0 : Hp} {t : TT} {D' : Ends} {tu tw tz : TS}
/-- an if whose branches meet again in J -/
theorem q_ifJ {b : Bool} (J : L2.St → Hp → Hp → Prop) (g : Gr F0 H0 F H) (h : EvB t σ F H b) (k : ∀ σ' F' H', Gr F0 H0 F' H' → Ex F F' → Ex H H' → J σ' F' H' → tz D' σ' H')
    (h1 : b = true → ∀ H2, Gr F0 H0 F H2 → Ex H H2 → (∀ σ' F' H', Gr F0 H0 F' H' → Ex F F' → Ex H H' → J σ' F' H' → tz D' σ' H') → tu { D' with nx := tz D' } σ H2)
    (h2 : b = false → ∀ H2, Gr F0 H0 F H2 → Ex H H2 → (∀ σ' F' H', Gr F0 H0 F' H' → Ex F F' → Ex H H' → J σ' F' H' → tz D' σ' H') → tw { D' with nx := tz D' } σ H2) : tSeq (tIfS t tu tw) tz D' σ H :=
  q_if g h (fun hb H2 g2 e2 => h1 hb H2 g2 e2 k) fun hb H2 g2 e2 => h2 hb H2 g2 e2 k
end
/-! ### joined signs -/
theorem joinL_one : ∀ cs : List Nat, TL.joinL [] (cs.map fun c => [c]) = cs
  | [] => rfl
  | [c] => rfl
  | c :: d :: r => by
    have h := joinL_one (d :: r)
    show [c] ++ ([] ++ TL.joinL [] ((d :: r).map fun c => [c])) = _
    rw [h]
    rfl
theorem join_signs (cs : List Nat) : Txt.join ⟨#[]⟩ (cs.map fun c => (⟨#[c]⟩ : Str)) = ⟨cs.toArray⟩ := by
  have h := SX.join_S [] (cs.map fun c => [c])
  rw [List.map_map, joinL_one] at h
  exact h
theorem sum_ones : ∀ cs : List Nat, ((cs.map fun c => (⟨#[c]⟩ : Str)).map (·.length)).sum = cs.length
  | [] => rfl
  | c :: r => by
    have h := sum_ones r
    simp only [List.map_cons, List.sum_cons, List.length_cons]
    rw [h]
    show 1 + r.length = r.length + 1
    omega
theorem atI_getN {cs : List Nat} {i : Int} (h0 : 0 ≤ i) (h1 : i < (cs.length : Int)) : atI cs i = some (cs.getD i.toNat 0) := by
  have hj : i.toNat < cs.length := by omega
  have e : i = ((i.toNat : Nat) : Int) := by omega
  have h : cs[i.toNat]? = some (cs.getD i.toNat 0) := by
    rw [List.getElem?_eq_getElem hj, List.getD_eq_getElem?_getD, List.getElem?_eq_getElem hj]
    rfl
  exact (congrArg (atI cs) e).trans (atI_nat h)
end Ly

namespace My
open PySem L2 Evl Ly
/-! ### the walk's words, local -/
local macro_rules | `(tactic| wtm_at "side") => `(tactic| first | assumption | omega | decide | exact rfl | trivial)
local macro_rules | `(tactic| wtm_at "dp") => `(tactic| first | exact Dp.int _ | exact Dp.str _ | exact Dp.bl _ | exact Dp.non | assumption | (refine Dp.up (by assumption) ?_; first | assumption | exact Ex.refl _ | (refine Gr.fx ?_; assumption)))
local macro_rules | `(tactic| wtm_at "rel") => `(tactic| first
  | exact AddD.int _ _ | exact AddD.str _ _ (by wtm_at "side") | exact AddD.tup _ _ (by wtm_at "side") | exact SubD.int _ _
  | exact MulD.int _ _ (.inl ⟨by omega, by omega⟩) | exact MulD.int _ _ (.inr ⟨by omega, by omega⟩)
  | exact DivD.int _ _ ⟨by omega, by omega⟩ | exact DivD.intW _ _ (by assumption) | exact ModD.int _ _ (by wtm_at "side") | exact ShrD.int _ _ (by wtm_at "side") | exact BandD.m31 _
  | exact PowD.int _ _ ⟨by decide, by decide, by decide⟩
  | exact LtD.int _ _ | exact LeD.int _ _ | exact LeD.tup [_, _] [_, _] | exact GtD.int _ _ | exact GeD.int _ _
  | exact EqD.int _ _ | exact EqD.str _ _ | exact EqD.bool _ _ | exact EqD.gen _ _ (by first | rfl | assumption) (by first | rfl | assumption) | exact NeD.int _ _ | exact NeD.str _ _ | exact NeD.bool _ _ | exact NeD.gen _ _ (by first | rfl | assumption) (by first | rfl | assumption)
  | exact IsD.non _ | exact IsD.bool _ _ | exact IsD.bit _ _ | exact NisD.non _ | exact NisD.bool _ _ | exact NisD.bit _ _ | exact NegD.int _
  | exact InD.sign _ _ | exact NinD.sign _ _ | exact InD.list _ _ (by first | rfl | assumption) (by first | rfl | assumption) | exact NinD.list _ _ (by first | rfl | assumption) (by first | rfl | assumption)
  | exact IxD.list _ _ _ (by first | assumption | rfl) | exact IxD.tup _ _ _ (by first | assumption | rfl) | exact IxD.str _ _ _ (by wtm_at "side") (by first | assumption | rfl)
  | exact SlD.list _ _ _ | exact SlD.tup _ _ _ | exact SlD.str _ _ _ (by wtm_at "side")
  | exact LenD.list _ | exact LenD.tup _ | exact LenD.str _ (by wtm_at "side") | exact MaxD.int _ _ | exact MinD.int _ _ | exact IntD.bool _ | exact TupleD.list _ | exact ListN.list _ | exact ListN.tup _
  | exact IndexD.mk _ _ _ _ (by assumption) | exact FindD.mk _ _ | exact JoinD.list _ _ (by wtm_at "side") | exact DivmodD.int _ _ ⟨by omega, by omega⟩ | exact AllD.list _ | exact AnyD.list _ | exact SumTD.list _ | exact SumTD.tup _
  | assumption | (constructor <;> wtm_at "side"))
local macro_rules | `(tactic| wtm_at "ev") => `(tactic| first
  | assumption
  | ((with_reducible apply d_var); exact rfl; wtm_at "dp")
  | ((with_reducible apply d_c); wtm_at "dp")
  | ((with_reducible apply d_op2); wtm_at "ev"; wtm_at "ev"; wtm_at "rel")
  | ((with_reducible apply d_ix); wtm_at "ev"; wtm_at "ev"; wtm_at "rel")
  | ((with_reducible apply d_un); wtm_at "ev"; wtm_at "rel")
  | ((with_reducible apply d_isInt); wtm_at "ev") | ((with_reducible apply d_isBol); wtm_at "ev") | ((with_reducible apply d_isStr); wtm_at "ev") | ((with_reducible apply d_isTup); wtm_at "ev") | ((with_reducible apply d_isLst); wtm_at "ev")
  | ((with_reducible apply EvN.dd); wtm_at "evn")
  | ((with_reducible apply d_cb); wtm_at "evs"; wtm_at "rel")
  | ((with_reducible apply d_bm); wtm_at "ev"; wtm_at "evs"; wtm_at "rel")
  | ((with_reducible apply d_callK); wtm_at "evs"; wtm_at "evs"; exact rfl; wtm_at "rel")
  | ((with_reducible apply d_call); wtm_at "evs"; wtm_at "rel")
  | ((with_reducible apply d_tup); wtm_at "evs"; focus (simp; done)) | ((with_reducible apply d_lst); wtm_at "evs"; focus (simp; done))
  | ((with_reducible apply d_sl); wtm_at "ev"; wtm_at "evi"; wtm_at "evi"; wtm_at "rel")
  | ((with_reducible apply d_chain); wtm_at "ev"; wtm_at "ev"; wtm_at "rel"; (intro _; wtm_at "ev"); (intro _; wtm_at "rel"))
  | ((with_reducible apply d_andV); wtm_at "ev"; (intro _; wtm_at "ev")) | ((with_reducible apply d_orV); wtm_at "ev"; (intro _; wtm_at "ev")) | ((with_reducible apply d_notV); wtm_at "ev")
  | ((with_reducible apply d_if); wtm_at "evb"; (intro _; wtm_at "ev"); (intro _; wtm_at "ev")))
local macro_rules | `(tactic| wtm_at "evs") => `(tactic| first | (with_reducible exact ds_nil) | ((with_reducible apply ds_cons); wtm_at "ev"; wtm_at "evs"))
local macro_rules | `(tactic| wtm_at "evi") => `(tactic| first | (with_reducible exact i_none) | ((with_reducible apply i_some); wtm_at "ev"))
local macro_rules | `(tactic| wtm_at "evb") => `(tactic| first
  | assumption
  | ((with_reducible apply b_var); exact rfl)
  | ((with_reducible apply b_test); wtm_at "ev") | ((with_reducible apply b_B); wtm_at "ev")
  | ((with_reducible apply b_and); wtm_at "evb"; (intro _; wtm_at "evb")) | ((with_reducible apply b_or); wtm_at "evb"; (intro _; wtm_at "evb")) | ((with_reducible apply b_not); wtm_at "evb"))
local macro_rules | `(tactic| wtm_at "evn") => `(tactic| first
  | assumption
  | ((with_reducible apply n_cb); wtm_at "evs"; wtm_at "rel")
  | ((with_reducible apply n_call); wtm_at "evs"; wtm_at "rel")
  | ((with_reducible apply n_lst); wtm_at "evs"; focus (simp; done)))

def top (i : Nat) : Stmt := PySem.Challenge.pw_layersplit_k01_names_known.main.body.getD i (.Pass ⟨0, 0, 0, 0⟩)
abbrev s_is_whole : Stmt := top 3
abbrev N_is_whole : List Str := ["thing"]
theorem sc_is_whole : FnScope N_is_whole ["thing"] (defScope s_is_whole) := ⟨rfl, rfl, rfl, by decide +kernel, rfl, by decide +kernel, by decide +kernel⟩
abbrev s_made_of : Stmt := top 4
abbrev N_made_of : List Str := ["thing", "signs", "most", "sign"]
theorem sc_made_of : FnScope N_made_of ["thing", "signs", "most"] (defScope s_made_of) := ⟨rfl, rfl, rfl, by decide +kernel, rfl, by decide +kernel, by decide +kernel⟩
abbrev s_is_word : Stmt := top 5
abbrev N_is_word : List Str := ["thing"]
theorem sc_is_word : FnScope N_is_word ["thing"] (defScope s_is_word) := ⟨rfl, rfl, rfl, by decide +kernel, rfl, by decide +kernel, by decide +kernel⟩
abbrev s_is_guest : Stmt := top 6
abbrev N_is_guest : List Str := ["thing"]
theorem sc_is_guest : FnScope N_is_guest ["thing"] (defScope s_is_guest) := ⟨rfl, rfl, rfl, by decide +kernel, rfl, by decide +kernel, by decide +kernel⟩
abbrev s__law_cell_at : Stmt := top 8
abbrev N__law_cell_at : List Str := ["_law_script", "_law_k"]
theorem sc__law_cell_at : FnScope N__law_cell_at ["_law_script", "_law_k"] (defScope s__law_cell_at) := ⟨rfl, rfl, rfl, by decide +kernel, rfl, by decide +kernel, by decide +kernel⟩
abbrev s__law_mixed : Stmt := top 9
abbrev N__law_mixed : List Str := ["_law_script", "_law_k", "_law_salt", "_law_cell", "_law_lap", "_law_near"]
theorem sc__law_mixed : FnScope N__law_mixed ["_law_script", "_law_k", "_law_salt"] (defScope s__law_mixed) := ⟨rfl, rfl, rfl, by decide +kernel, rfl, by decide +kernel, by decide +kernel⟩
abbrev s__law_sign : Stmt := top 10
abbrev N__law_sign : List Str := ["_law_number", "_law_some"]
theorem sc__law_sign : FnScope N__law_sign ["_law_number"] (defScope s__law_sign) := ⟨rfl, rfl, rfl, by decide +kernel, rfl, by decide +kernel, by decide +kernel⟩
abbrev s__law_text : Stmt := top 11
abbrev N__law_text : List Str := ["_law_script", "_law_k", "_law_number", "_law_signs", "_law_size", "_law_text_here", "_law_at", "_law_j"]
theorem sc__law_text : FnScope N__law_text ["_law_script", "_law_k"] (defScope s__law_text) := ⟨rfl, rfl, rfl, by decide +kernel, rfl, by decide +kernel, by decide +kernel⟩
abbrev s__law_thing : Stmt := top 12
abbrev N__law_thing : List Str := ["_law_script", "_law_k", "_law_number", "_law_far", "_law_text_here"]
theorem sc__law_thing : FnScope N__law_thing ["_law_script", "_law_k"] (defScope s__law_thing) := ⟨rfl, rfl, rfl, by decide +kernel, rfl, by decide +kernel, by decide +kernel⟩
abbrev s__law_only : Stmt := top 13
abbrev N__law_only : List Str := ["_law_text_here", "_law_signs", "_law_most", "_law_sign_here"]
theorem sc__law_only : FnScope N__law_only ["_law_text_here", "_law_signs", "_law_most"] (defScope s__law_only) := ⟨rfl, rfl, rfl, by decide +kernel, rfl, by decide +kernel, by decide +kernel⟩
abbrev s__law_told : Stmt := top 14
abbrev N__law_told : List Str := ["_law_found", "_law_due"]
theorem sc__law_told : FnScope N__law_told ["_law_found", "_law_due"] (defScope s__law_told) := ⟨rfl, rfl, rfl, by decide +kernel, rfl, by decide +kernel, by decide +kernel⟩
abbrev s__law_right : Stmt := top 15
abbrev N__law_right : List Str := ["_law_thing_here", "_law_whole", "_law_word", "_law_guest"]
theorem sc__law_right : FnScope N__law_right ["_law_thing_here"] (defScope s__law_right) := ⟨rfl, rfl, rfl, by decide +kernel, rfl, by decide +kernel, by decide +kernel⟩
abbrev s_law : Stmt := top 16
abbrev N_law : List Str := ["_law_script", "_law_k"]
theorem sc_law : FnScope N_law ["_law_script"] (defScope s_law) := ⟨rfl, rfl, rfl, by decide +kernel, rfl, by decide +kernel, by decide +kernel⟩
structure G (K : Fg) (mg : Str → Option Value) : Prop where
  b_all : mg "all" = none
  b_bool : mg "bool" = none
  b_int : mg "int" = none
  b_isinstance : mg "isinstance" = none
  b_len : mg "len" = none
  b_max : mg "max" = none
  b_min : mg "min" = none
  b_range : mg "range" = none
  b_str : mg "str" = none
  c_LETTERS : ∃ t, mg "LETTERS" = some (.str "abcdefghijklmnopqrstuvwxyz" t)
  c_SIGNS : ∃ t, mg "SIGNS" = some (.str "abcdefghijklmnopqrstuvwxyz0123456789" t)
  f_is_whole : Df K mg "is_whole" s_is_whole ["thing"]
  f_made_of : Df K mg "made_of" s_made_of ["thing", "signs", "most"]
  f_is_word : Df K mg "is_word" s_is_word ["thing"]
  f_is_guest : Df K mg "is_guest" s_is_guest ["thing"]
  f__law_cell_at : Df K mg "_law_cell_at" s__law_cell_at ["_law_script", "_law_k"]
  f__law_mixed : Df K mg "_law_mixed" s__law_mixed ["_law_script", "_law_k", "_law_salt"]
  f__law_sign : Df K mg "_law_sign" s__law_sign ["_law_number"]
  f__law_text : Df K mg "_law_text" s__law_text ["_law_script", "_law_k"]
  f__law_thing : Df K mg "_law_thing" s__law_thing ["_law_script", "_law_k"]
  f__law_only : Df K mg "_law_only" s__law_only ["_law_text_here", "_law_signs", "_law_most"]
  f__law_told : Df K mg "_law_told" s__law_told ["_law_found", "_law_due"]
  f__law_right : Df K mg "_law_right" s__law_right ["_law_thing_here"]
  f_law : Df K mg "law" s_law ["_law_script"]
theorem atI_ints {ns : List Int} {i : Int} (h0 : 0 ≤ i) (h1 : i < (ns.length : Int)) : atI (ns.map PyData.int) i = some (.int (ns.getD i.toNat 0)) := by
  have hj : i.toNat < ns.length := by omega
  have e : i = ((i.toNat : Nat) : Int) := by omega
  have h : (ns.map PyData.int)[i.toNat]? = some (.int (ns.getD i.toNat 0)) := by
    rw [List.getElem?_map, List.getElem?_eq_getElem hj, List.getD_eq_getElem?_getD, List.getElem?_eq_getElem hj]
    rfl
  rw [e]
  exact atI_nat h
theorem atI_getD {ds : List D} {i : Int} (h0 : 0 ≤ i) (h1 : i < (ds.length : Int)) : atI ds i = some (ds.getD i.toNat .none) := by
  have hj : i.toNat < ds.length := by omega
  have e : i = ((i.toNat : Nat) : Int) := by omega
  have h : ds[i.toNat]? = some (ds.getD i.toNat .none) := by
    rw [List.getElem?_eq_getElem hj, List.getD_eq_getElem?_getD, List.getElem?_eq_getElem hj]
    rfl
  exact (congrArg (atI ds) e).trans (atI_nat h)
def cellAt (ns : List Int) (k : Int) : Int := if ns.length = 0 then 0 else ns.getD (k % (ns.length : Int)).toNat 0
inductive RCell : List D → D → Prop
  | mk (ns : List Int) (k : Int) (h : ns.length ≤ 63) : RCell [.list (ns.map PyData.int), .int k] (.int (cellAt ns k))
section
variable {P : Program} {w : World} {K : Fg} {mg : Str → Option Value} {base : Heap}
theorem ok__law_cell_at (g : G K mg) : Dk P w K mg base 1 "_law_cell_at" ["_law_script", "_law_k"] (spR K RCell) := by
  refine g.f__law_cell_at.dk sc__law_cell_at (by rintro _ _ ⟨⟩; rfl) fun f cdv A outer s H E hr => ⟨_, (pss_cons (ps_if (pt_cmpR (kEq (room64 hr) (K := K)) (bi (jLen (K := K)) g.b_len (pa_cons (pv 0) pa_nil)) pe_int (nomark _))
    (pss_one (ps_ret pe_int))
    pss_nil)
    (pss_one (ps_ret (pe_ix (kIxU (K := K)) (pv 0) (pe_op (kMod (K := K)) (pv 1) (bi (jLen (K := K)) g.b_len (pa_cons (pv 0) pa_nil))) (fun _ _ => rfl))))), fun vs F0 ds r Q fh ha hR q => ?_⟩
  obtain ⟨ns, k, h⟩ := hR
  obtain ⟨v, w, rfl, hS, hv⟩ := dps2 ha
  cases hv
  have g0 : Gr F0 H F0 H := Gr.refl fh
  obtain ⟨a, rfl⟩ : ∃ a, v = V.ref a := by cases hS; exact ⟨_, rfl⟩
  have hlen : (ns.map PyData.int).length = ns.length := List.length_map ..
  refine q_when g0 (b := decide (((ns.map PyData.int).length : Int) = 0)) (by wtm_at "evb") (fun hb H2 g2 e2 => ?_) fun hb H2 g2 e2 => ?_
  · have hb := of_decide_eq_true hb
    refine s_ret (K := K) g2 (EvD.to (d := .int 0) (by wtm_at "ev") ?_) q
    unfold cellAt
    rw [if_pos (by omega)]
  · have hb := of_decide_eq_false hb
    have hp : 0 < ((ns.map PyData.int).length : Int) := by omega
    have h1 := Int.emod_nonneg k (show ((ns.map PyData.int).length : Int) ≠ 0 by omega)
    have h2 := Int.emod_lt_of_pos k hp
    have hix : atI (ns.map PyData.int) (k % ((ns.map PyData.int).length : Int)) = some (.int (ns.getD (k % ((ns.map PyData.int).length : Int)).toNat 0)) := atI_ints h1 (by rw [hlen] at h2 ⊢; exact h2)
    refine s_ret (K := K) g2 (EvD.to (by wtm_at "ev") ?_) q
    unfold cellAt
    rw [if_neg (by omega), hlen]
def lapOf (ns : List Int) (k : Int) : Int := k / max 1 (ns.length : Int)
def nearOf (ns : List Int) (k s : Int) : Int := (cellAt ns k % 2147483648 + 1009 * k * k + 7919 * s * s + 12) * 48271 % 2147483647
def mixF (ns : List Int) (k s : Int) : Int := (cellAt ns k / 2 ^ (31 * (s + 128 * lapOf ns k)).toNat + nearOf ns k s * nearOf ns k s % 2147483629) % 2147483648
theorem mixF_nn (ns : List Int) (k s : Int) : 0 ≤ mixF ns k s := by unfold mixF; omega
theorem mixF_lt (ns : List Int) (k s : Int) : mixF ns k s < 2147483648 := by unfold mixF; omega
inductive RMix : List D → D → Prop
  | mk (ns : List Int) (k s : Int) (h : ns.length ≤ 63) (hk : 0 ≤ k ∧ k ≤ 1000000) (hs : 0 ≤ s ∧ s ≤ 1000000) : RMix [.list (ns.map PyData.int), .int k, .int s] (.int (mixF ns k s))
theorem dps3 {K : Fg} {F : Hp} {vs : List V} {d e f : D} (h : DpAll K F vs [d, e, f]) : ∃ v w u, vs = [v, w, u] ∧ Dp K F v d ∧ Dp K F w e ∧ Dp K F u f := by
  cases h with
  | cons h1 h2 =>
    obtain ⟨w, u, rfl, hw, hu⟩ := dps2 h2
    exact ⟨_, _, _, rfl, h1, hw, hu⟩
theorem ok__law_mixed (g : G K mg) : Dk P w K mg base 2 "_law_mixed" ["_law_script", "_law_k", "_law_salt"] (spR K RMix) := by
  refine g.f__law_mixed.dk sc__law_mixed (by rintro _ _ ⟨⟩; rfl) fun f cdv A outer s H E hr => ⟨_, (pss_cons (ps_set (i := 3) sc__law_mixed.nd rfl (Or.inl rfl) (cl (ok__law_cell_at g) hr (pa_cons (pv 0) (pa_cons (pv 1) pa_nil))))
    (pss_cons (ps_set (i := 4) sc__law_mixed.nd rfl (Or.inl rfl) (pe_op (kDiv (K := K)) (pv 1) (bi (jMax rfl (K := K)) g.b_max (pa_cons pe_int (pa_cons (bi (jLen (K := K)) g.b_len (pa_cons (pv 0) pa_nil)) pa_nil)))))
    (pss_cons (ps_set (i := 5) sc__law_mixed.nd rfl (Or.inl rfl) (pe_op (kAdd (K := K)) (pe_op (kAdd (K := K)) (pe_op (kAdd (K := K)) (pe_op (kBand (K := K)) (pv 3) pe_int) (pe_op (kMul (K := K)) (pe_op (kMul (K := K)) pe_int (pv 1)) (pv 1))) (pe_op (kMul (K := K)) (pe_op (kMul (K := K)) pe_int (pv 2)) (pv 2))) pe_int))
    (pss_cons (ps_set (i := 5) sc__law_mixed.nd rfl (Or.inl rfl) (pe_op (kMod (K := K)) (pe_op (kMul (K := K)) (pv 5) pe_int) pe_int))
    (pss_one (ps_ret (pe_op (kBand (K := K)) (pe_op (kAdd (K := K)) (pe_op (kShr (K := K)) (pv 3) (pe_op (kMul (K := K)) pe_int (pe_op (kAdd (K := K)) (pv 2) (pe_op (kMul (K := K)) pe_int (pv 4))))) (pe_op (kMod (K := K)) (pe_op (kMul (K := K)) (pv 5) (pv 5)) pe_int)) pe_int))))))), fun vs F0 ds r Q fh ha hR q => ?_⟩
  obtain ⟨ns, k, s, h, hk, hs⟩ := hR
  obtain ⟨v, w, u, rfl, hS, hv, hu⟩ := dps3 ha
  cases hv; cases hu
  have g0 : Gr F0 H F0 H := Gr.refl fh
  obtain ⟨a, rfl⟩ : ∃ a, v = V.ref a := by cases hS; exact ⟨_, rfl⟩
  have hlen : (ns.map PyData.int).length = ns.length := List.length_map ..
  refine q_setV (K := K) g0 (by wtm_at "ev") rfl fun H1 g1 e1 => ?_
  refine q_setV (K := K) g1 (by wtm_at "ev") rfl fun H2 g2 e2 => ?_
  refine q_setV (K := K) g2 (by wtm_at "ev") rfl fun H3 g3 e3 => ?_
  refine q_setV (K := K) g3 (by wtm_at "ev") rfl fun H4 g4 e4 => ?_
  have hl0 : 0 ≤ k / max 1 (((ns.map PyData.int).length : Nat) : Int) := Int.ediv_nonneg hk.1 (by omega)
  refine s_ret (K := K) g4 (EvD.to (by wtm_at "ev") ?_) q
  unfold mixF nearOf lapOf
  rw [hlen]
end
/-! data of ints -/
theorem lay_ints : ∀ ns : List Int, PyData.canLayAll0 (ns.map PyData.int) = true
  | [] => by simp [PyData.canLayAll0]
  | z :: zs => by simp [PyData.canLayAll0, PyData.canLay0, lay_ints zs]
theorem dep_ints : ∀ ns : List Int, PyData.depthAll (ns.map PyData.int) ≤ 1
  | [] => by simp [PyData.depthAll]
  | z :: zs => by
    have h1 := dep_ints zs
    simp only [List.map_cons, PyData.depthAll, PyData.depth]
    omega
theorem shaped_tints (ns : List Int) : SeqAt.shaped (.tuple (ns.map PyData.int)) = true := by
  have h1 := dep_ints ns
  show (PyData.canLay0 (.tuple (ns.map PyData.int)) && decide (PyData.depth (.tuple (ns.map PyData.int)) ≤ 64)) = true
  rw [Bool.and_eq_true]
  exact ⟨by simp only [PyData.canLay0]; exact lay_ints ns, decide_eq_true (by simp only [PyData.depth]; omega)⟩
theorem eqv_ints : ∀ ns : List Int, PyData.eqvAll (ns.map PyData.int) (ns.map PyData.int) = true
  | [] => rfl
  | z :: zs => by simp [PyData.eqvAll, PyData.eqv, eqv_ints zs]
theorem eqv_tints (ns : List Int) : PyData.eqv (.tuple (ns.map PyData.int)) (.tuple (ns.map PyData.int)) = true := eqv_ints ns

/-! ### texts of given signs -/
def inS (signs z : Str) : Bool := z.cps.toList.all fun c => decide (c ∈ signs.cps.toList)
def madeF (signs : Str) (most : Int) : D → Bool
  | .str z => decide (1 ≤ (z.length : Int) ∧ (z.length : Int) ≤ most) && inS signs z
  | _ => false
def szD : D → Prop
  | .str z => z.length ≤ 50000
  | _ => True
abbrev lettersS : Str := "abcdefghijklmnopqrstuvwxyz"
abbrev signsS : Str := "abcdefghijklmnopqrstuvwxyz0123456789"
inductive RMade : List D → D → Prop
  | mk (d : D) (signs : Str) (most : Int) (h : szD d) : RMade [d, .str signs, .int most] (.bool (madeF signs most d))
inductive RWord : List D → D → Prop
  | mk (d : D) (h : szD d) : RWord [d] (.bool (madeF lettersS 12 d))
inductive RGuest : List D → D → Prop
  | mk (d : D) (h : szD d) : RGuest [d] (.bool (madeF signsS 24 d))
def sgIn (signs : Str) : D → Bool
  | .str z => decide (z.cps.toList.getD 0 0 ∈ signs.cps.toList)
  | _ => false
theorem madeF_str (signs : Str) (most : Int) (z : Str) : madeF signs most (.str z) = (decide (1 ≤ (z.length : Int) ∧ (z.length : Int) ≤ most) && inS signs z) := rfl
theorem sg_all (z signs : Str) : (z.cps.toList.map signD).map (fun d => PyData.bool (sgIn signs d)) = (z.cps.toList.map fun c => decide (c ∈ signs.cps.toList)).map PyData.bool := by
  rw [List.map_map, List.map_map]
  rfl
theorem sg_all1 (z signs : Str) : (z.cps.toList.map fun c => decide (c ∈ signs.cps.toList)).all id = inS signs z := by
  unfold inS
  rw [List.all_map]
  rfl
theorem notStr {d : D} (h : isStr d = false) (signs : Str) (most : Int) : madeF signs most d = false := by
  cases d <;> first | rfl | (simp [isStr] at h)
theorem isStr_of {d : D} (h : isStr d = true) : ∃ z, d = .str z := by
  cases d <;> first | exact ⟨_, rfl⟩ | (simp [isStr] at h)
section
variable {P : Program} {w : World} {K : Fg} {mg : Str → Option Value} {base : Heap}
theorem ok_made_of (g : G K mg) : Dk P w K mg base 1 "made_of" ["thing", "signs", "most"] (spR K RMade) := by
  refine g.f_made_of.dk sc_made_of (by rintro _ _ ⟨⟩; rfl) fun f cdv A outer s H E hr => ⟨_, (pss_cons (ps_if (PW.pt (pw_or (pt_not (pt_val (bi (jIsi (K := K)) g.b_isinstance (pa_cons (pv 0) (pa_cons (bty (n := "str") g.b_str) pa_nil))))) (pw_or1 (pt_not (pt_chain (kLe (room0 hr) (K := K)) (kLe (room0 hr) (K := K)) pe_int (bi (jLen (K := K)) g.b_len (pa_cons (pv 0) pa_nil)) (pv 2))))))
    (pss_one (ps_ret pe_bl))
    pss_nil)
    (pss_one (ps_ret (bi (jAll rfl (K := K)) g.b_all (pa_cons (pe_lc (own := [("sign", 3)]) (g := gName 3) rfl sc_made_of.nd (pi_any (K := K) (pv 0)) (blkOk_by (own := [("sign", 3)]) (N := N_made_of) (sc := defScope s_made_of) (by decide +kernel)) (fun _ _ _ _ _ => (pg_name (i := 3) sc_made_of.nd rfl (Or.inl rfl))) (fun _ _ _ _ _ => pts_nil) (fun _ _ _ _ _ => (pe_cmpR (kIn (room65 hr) (K := K)) (pv 3) (pv 1) (by rfl)))) pa_nil))))), fun vs F0 ds r Q fh ha hR q => ?_⟩
  obtain ⟨d, signs, most, h⟩ := hR
  obtain ⟨v, w, u, rfl, hv, hw, hu⟩ := dps3 ha
  cases hw; cases hu
  have g0 : Gr F0 H F0 H := Gr.refl fh
  cases hd : isStr d with
  | false =>
    refine q_when g0 (b := true || true) (b_or (EvB.to (by wtm_at "evb") (by rw [hd]; rfl)) fun z => nomatch z) (fun hb H2 g2 e2 => ?_) fun hb => nomatch hb
    exact s_ret (K := K) g2 (EvD.to (d := .bool false) (by wtm_at "ev") (by rw [notStr hd])) q
  | true =>
    obtain ⟨z, rfl⟩ := isStr_of hd
    cases hv
    have h : z.length ≤ 50000 := h
    refine q_when g0 (b := !decide (1 ≤ (z.length : Int) ∧ (z.length : Int) ≤ most)) (EvB.to (by wtm_at "evb") ?_) (fun hb H2 g2 e2 => ?_) fun hb H2 g2 e2 => ?_
    · simp [isStr]
    · refine s_ret (K := K) g2 (EvD.to (d := .bool false) (by wtm_at "ev") ?_) q
      have hb := no_of hb
      rw [madeF_str, decide_eq_false hb]; rfl
    · have hb := yes_of hb
      have h1 : z.length ≤ 100000 := by omega
      have hl : (z.cps.toList.map signD).length ≤ 50000 := by rw [List.length_map]; exact h
      refine s_ret (K := K) g2 (EvD.to (d_cb (ds_cons ((n_lc1 (w_anyS (z := z) (by wtm_at "ev")) hl (fun d => .bool (sgIn signs d)) (fun _ => rfl) (fun d x F' H' hm e1 e2 e3 hx => ?_)).to (sg_all z signs)).dd ds_nil) (.list _)) ?_) q
      · obtain ⟨c, _, rfl⟩ := List.mem_map.mp hm
        cases hx
        exact EvD.to (by wtm_at "ev") (by rfl)
      · rw [madeF_str, decide_eq_true hb, sg_all1]; rfl
end

inductive RIsWhole : List D → D → Prop
  | mk (d : D) : RIsWhole [d] (.bool (isInt d && !isBol d))
/-! ### the law's own texts and things -/
abbrev someS : Str := (" !\"#$&'()*+,-./0123456789:;<=>?@ABCDEFGHIJKLMNOPQRSTUVWXYZ[\\]^_`" : Str) ++ ("abcdefghijklmnopqrstuvwxyz{|}~\n" : Str)
def signC (n : Int) : Nat := someS.cps.toList.getD (n % 95).toNat 0
theorem some_len : someS.length = 95 := by decide +kernel
theorem some_len' : someS.cps.toList.length = 95 := by decide +kernel
inductive RSign : List D → D → Prop
  | mk (n : Int) : RSign [.int n] (.str ⟨#[signC n]⟩)
def sizeT (n : Int) : Int := if n % 2 = 0 then n / 2 % 16 else n / 2 % 28
def signsT (n : Int) : Str := if n % 2 = 0 then cutS signsS none (some 26) else signsS
theorem signsT_len (n : Int) : (signsT n).length = if n % 2 = 0 then 26 else 36 := by
  unfold signsT
  split
  · decide +kernel
  · decide +kernel
def codesT (ns : List Int) (k n : Int) : List Nat := (List.range (sizeT n).toNat).map fun (j : Nat) => (signsT n).cps.toList.getD (mixF ns (k + (j : Int)) (2 + (j : Int)) % ((signsT n).length : Int)).toNat 0
def text0 (ns : List Int) (k n : Int) : Str := ⟨(codesT ns k n).toArray⟩
def atT (n : Int) : Int := ([0, sizeT n - 1, n / 512 % sizeT n, n / 512 % sizeT n] : List Int).getD (n / 128 % 4).toNat 0
def textF (ns : List Int) (k : Int) : Str :=
  let n := mixF ns k 1
  if n / 64 % 2 = 0 ∧ 0 < sizeT n then (cutS (text0 ns k n) none (some (atT n)) ++ (⟨#[signC (mixF ns k 40)]⟩ : Str)) ++ cutS (text0 ns k n) (some (atT n + 1)) none else text0 ns k n
def codeD (ns : List Int) (k n : Int) : D → D
  | .int j => .str ⟨#[(signsT n).cps.toList.getD (mixF ns (k + j) (2 + j) % ((signsT n).length : Int)).toNat 0]⟩
  | _ => .none
theorem codesD_of (ns : List Int) (k n : Int) : (rangeD 0 (sizeT n).toNat).map (codeD ns k n) = ((codesT ns k n).map fun c => (⟨#[c]⟩ : Str)).map PyData.str := by
  unfold rangeD codesT
  rw [List.map_map, List.map_map, List.map_map]
  refine List.map_congr_left fun i _ => ?_
  show codeD ns k n (.int (0 + (i : Int))) = _
  rw [Int.zero_add]
  rfl
theorem find_neg (c : Nat) (z : Str) : decide ((match Builtin.Str.occurrences z ⟨#[c]⟩ 0 z.length 1 with | i :: _ => (i : Int) | [] => -1) < 0) = !decide (c ∈ z.cps.toList) := by
  rw [← StrLaws.found_one z c]
  cases Builtin.Str.occurrences z ⟨#[c]⟩ 0 z.length 1 with
  | nil => rfl
  | cons i r => simp
inductive RText : List D → D → Prop
  | mk (ns : List Int) (k : Int) (h : ns.length ≤ 63) (hk : 0 ≤ k ∧ k ≤ 1000) : RText [.list (ns.map PyData.int), .int k] (.str (textF ns k))
def farT (ns : List Int) (k : Int) : Int := cellAt ns k % (2 * 10 ^ 30 + 1) - 10 ^ 30
def thingsT (ns : List Int) (k : Int) : List D :=
  [.int (farT ns k), .int (mixF ns k 41 % 2), .bool true, .bool false, .none, .str (textF ns k), .tuple [.str (textF ns k)], .list [.str (textF ns k)], .list [.int (farT ns k)], .tuple [], .int (farT ns k % 3)]
def thingT (ns : List Int) (k : Int) : D := (thingsT ns k).getD (mixF ns k 41 / 2 % 11).toNat .none
inductive RThing : List D → D → Prop
  | mk (ns : List Int) (k : Int) (h : ns.length ≤ 63) (hk : 0 ≤ k ∧ k ≤ 1000) : RThing [.list (ns.map PyData.int), .int k] (thingT ns k)
inductive ROnly : List D → D → Prop
  | mk (z signs : Str) (most : Int) (h : z.length ≤ 50000) : ROnly [.str z, .str signs, .int most] (.bool (madeF signs most (.str z)))
inductive RTold : List D → D → Prop
  | mk (a b : Bool) : RTold [.bool a, .bool b] (.bool (decide (a = b)))
inductive RRight : List D → D → Prop
  | mk (d : D) (h : szD d) : RRight [d] (.bool true)
theorem str_add_len (a b : Str) : (a ++ b).length = a.length + b.length := by
  show (Str.append a b).length = _
  unfold Str.append Str.length
  simp
theorem text0_len (ns : List Int) (k n : Int) : (text0 ns k n).length = (sizeT n).toNat := by
  unfold text0 codesT
  rw [str_len, List.length_map, List.length_range]
theorem sizeT_bd (n : Int) : 0 ≤ sizeT n ∧ sizeT n ≤ 28 := by unfold sizeT; split <;> omega
theorem textF_len (ns : List Int) (k : Int) : (textF ns k).length ≤ 100 := by
  unfold textF
  have h := text0_len ns k (mixF ns k 1)
  have hb := sizeT_bd (mixF ns k 1)
  have h1 := cutS_length (text0 ns k (mixF ns k 1)) none (some (atT (mixF ns k 1)))
  have h2 := cutS_length (text0 ns k (mixF ns k 1)) (some (atT (mixF ns k 1) + 1)) none
  have h3 : (⟨#[signC (mixF ns k 40)]⟩ : Str).length = 1 := rfl
  dsimp only
  split
  · rw [str_add_len, str_add_len]; omega
  · omega
theorem szD_thing (ns : List Int) (k : Int) : szD (thingT ns k) := by
  have h : ∀ d ∈ thingsT ns k, szD d := by
    intro d hd
    have ht : (textF ns k).length ≤ 50000 := Nat.le_trans (textF_len ns k) (by decide)
    unfold thingsT at hd
    simp only [List.mem_cons, List.not_mem_nil, or_false] at hd
    rcases hd with rfl | rfl | rfl | rfl | rfl | rfl | rfl | rfl | rfl | rfl | rfl <;> first | exact trivial | exact ht
  unfold thingT
  rw [List.getD_eq_getElem?_getD]
  cases e : (thingsT ns k)[(mixF ns k 41 / 2 % 11).toNat]? with
  | none => exact trivial
  | some d => exact h d (List.mem_of_getElem? e)
section
variable {P : Program} {w : World} {K : Fg} {mg : Str → Option Value} {base : Heap}
theorem ok_is_whole (g : G K mg) : Dk P w K mg base 1 "is_whole" ["thing"] (spR K RIsWhole) := by
  refine g.f_is_whole.dk sc_is_whole (by rintro _ _ ⟨⟩; rfl) fun f cdv A outer s H E hr => ⟨_, (pss_one (ps_ret (pe_and (bi (jIsi (K := K)) g.b_isinstance (pa_cons (pv 0) (pa_cons (bty (n := "int") g.b_int) pa_nil))) (pe_one (pe_not (bi (jIsi (K := K)) g.b_isinstance (pa_cons (pv 0) (pa_cons (bty (n := "bool") g.b_bool) pa_nil)))))))), fun vs F0 ds r Q fh ha hR q => ?_⟩
  obtain ⟨d⟩ := hR
  obtain ⟨v, rfl, hv⟩ := dps1 ha
  exact s_ret (Gr.refl fh) (by wtm_at "ev") q
theorem ok_is_word (g : G K mg) : Dk P w K mg base 2 "is_word" ["thing"] (spR K RWord) := by
  refine g.f_is_word.dk sc_is_word (by rintro _ _ ⟨⟩; rfl) fun f cdv A outer s H E hr => ⟨_, (pss_one (ps_ret (cl (ok_made_of g) hr (pa_cons (pv 0) (pa_cons (gstr g.c_LETTERS) (pa_cons pe_int pa_nil)))))), fun vs F0 ds r Q fh ha hR q => ?_⟩
  obtain ⟨d, hz⟩ := hR
  obtain ⟨v, rfl, hv⟩ := dps1 ha
  exact s_ret (Gr.refl fh) (by wtm_at "ev") q
theorem ok_is_guest (g : G K mg) : Dk P w K mg base 2 "is_guest" ["thing"] (spR K RGuest) := by
  refine g.f_is_guest.dk sc_is_guest (by rintro _ _ ⟨⟩; rfl) fun f cdv A outer s H E hr => ⟨_, (pss_one (ps_ret (cl (ok_made_of g) hr (pa_cons (pv 0) (pa_cons (gstr g.c_SIGNS) (pa_cons pe_int pa_nil)))))), fun vs F0 ds r Q fh ha hR q => ?_⟩
  obtain ⟨d, hz⟩ := hR
  obtain ⟨v, rfl, hv⟩ := dps1 ha
  exact s_ret (Gr.refl fh) (by wtm_at "ev") q
theorem ok__law_sign (g : G K mg) : Dk P w K mg base 1 "_law_sign" ["_law_number"] (spR K RSign) := by
  refine g.f__law_sign.dk sc__law_sign (by rintro _ _ ⟨⟩; rfl) fun f cdv A outer s H E hr => ⟨_, (pss_cons (ps_set (i := 1) sc__law_sign.nd rfl (Or.inl rfl) pe_str)
    (pss_cons (ps_set (i := 1) sc__law_sign.nd rfl (Or.inl rfl) (pe_op (kAdd (K := K)) (pv 1) pe_str))
    (pss_one (ps_ret (pe_ix (kIxU (K := K)) (pv 1) (pe_op (kMod (K := K)) (pv 0) (bi (jLen (K := K)) g.b_len (pa_cons (pv 1) pa_nil))) (fun _ _ => rfl)))))), fun vs F0 ds r Q fh ha hR q => ?_⟩
  obtain ⟨n⟩ := hR
  obtain ⟨v, rfl, hv⟩ := dps1 ha
  cases hv
  have g0 : Gr F0 H F0 H := Gr.refl fh
  refine q_setV (K := K) g0 (by wtm_at "ev") rfl fun H1 g1 e1 => ?_
  refine q_setV (K := K) g1 (d := .str someS) (d_op2 (d_var rfl (.str _)) (d_c (.str _)) (.str _ _ (by decide +kernel))) rfl fun H2 g2 e2 => ?_
  have hl := some_len
  have hl' := some_len'
  have hx : atI someS.cps.toList (n % (someS.length : Int)) = some (signC n) := by
    rw [hl]
    exact atI_getN (by omega) (by rw [hl']; omega)
  have hz : someS.length ≤ 100000 := by omega
  have hp : 0 < (someS.length : Int) := by omega
  generalize someS = zz at hx hz hp ⊢
  exact s_ret (K := K) g2 (by wtm_at "ev") q
theorem ok__law_text (g : G K mg) : Dk P w K mg base 4 "_law_text" ["_law_script", "_law_k"] (spR K RText) := by
  refine g.f__law_text.dk sc__law_text (by rintro _ _ ⟨⟩; rfl) fun f cdv A outer s H E hr => ⟨_, (pss_cons (ps_set (i := 2) sc__law_text.nd rfl (Or.inl rfl) (cl (ok__law_mixed g) hr (pa_cons (pv 0) (pa_cons (pv 1) (pa_cons pe_int pa_nil)))))
    (pss_cons (ps_set (i := 3) sc__law_text.nd rfl (Or.inr rfl) pe_str)
    (pss_cons (ps_set (i := 4) sc__law_text.nd rfl (Or.inl rfl) (pe_op (kMod (K := K)) (pe_op (kDiv (K := K)) (pv 2) pe_int) pe_int))
    (pss_cons (ps_if (pt_cmpR (kEq (room64 hr) (K := K)) (pe_op (kMod (K := K)) (pv 2) pe_int) pe_int (nomark _))
    (pss_cons (ps_set (i := 3) sc__law_text.nd rfl (Or.inr rfl) (pe_slice (kSl (K := K)) (pv 3) po_none (po_some pe_int)))
    (pss_one (ps_set (i := 4) sc__law_text.nd rfl (Or.inl rfl) (pe_op (kMod (K := K)) (pe_op (kDiv (K := K)) (pv 2) pe_int) pe_int))))
    pss_nil)
    (pss_cons (ps_set (i := 5) sc__law_text.nd rfl (Or.inl rfl) (bm (K := K) PySem.F.plainAttrs_str PySem.F.slot_str_join PySem.F.type_str_join (mJoin (K := K)) pe_str (pa_cons (pe_lc (own := [("_law_j", 7)]) (g := gName 7) rfl sc__law_text.nd (pi_range1 (by rfl) g.b_range (pa_cons (pv 4) pa_nil)) (blkOk_by (own := [("_law_j", 7)]) (N := N__law_text) (sc := defScope s__law_text) (by decide +kernel)) (fun _ _ _ _ _ => (pg_name (i := 7) sc__law_text.nd rfl (Or.inl rfl))) (fun _ _ _ _ _ => pts_nil) (fun _ _ _ _ _ => (pe_ix (kIxU (K := K)) (pv 3) (pe_op (kMod (K := K)) (cl (ok__law_mixed g) hr (pa_cons (pv 0) (pa_cons (pe_op (kAdd (K := K)) (pv 1) (pv 7)) (pa_cons (pe_op (kAdd (K := K)) pe_int (pv 7)) pa_nil)))) (bi (jLen (K := K)) g.b_len (pa_cons (pv 3) pa_nil))) (fun _ _ => rfl)))) pa_nil)))
    (pss_cons (ps_if (PW.pt (pw_and (pt_cmpR (kEq (room64 hr) (K := K)) (pe_op (kMod (K := K)) (pe_op (kDiv (K := K)) (pv 2) pe_int) pe_int) pe_int (nomark _)) (pw_and1 (pt_cmpR (kGt (K := K)) (pv 4) pe_int (nomark _)))))
    (pss_cons (ps_set (i := 6) sc__law_text.nd rfl (Or.inl rfl) (pe_ix (kIxU (K := K)) (pe_lst (pa_cons pe_int (pa_cons (pe_op (kSub (K := K)) (pv 4) pe_int) (pa_cons (pe_op (kMod (K := K)) (pe_op (kDiv (K := K)) (pv 2) pe_int) (pv 4)) (pa_cons (pe_op (kMod (K := K)) (pe_op (kDiv (K := K)) (pv 2) pe_int) (pv 4)) pa_nil))))) (pe_op (kMod (K := K)) (pe_op (kDiv (K := K)) (pv 2) pe_int) pe_int) (fun _ _ => rfl)))
    (pss_one (ps_set (i := 5) sc__law_text.nd rfl (Or.inl rfl) (pe_op (kAdd (K := K)) (pe_op (kAdd (K := K)) (pe_slice (kSl (K := K)) (pv 5) po_none (po_some (pv 6))) (cl (ok__law_sign g) hr (pa_cons (cl (ok__law_mixed g) hr (pa_cons (pv 0) (pa_cons (pv 1) (pa_cons pe_int pa_nil)))) pa_nil))) (pe_slice (kSl (K := K)) (pv 5) (po_some (pe_op (kAdd (K := K)) (pv 6) pe_int)) po_none)))))
    pss_nil)
    (pss_one (ps_ret (pv 5))))))))), fun vs F0 ds r Q fh ha hR q => ?_⟩
  obtain ⟨ns, k, h, hk⟩ := hR
  obtain ⟨v, w, rfl, hS, hw⟩ := dps2 ha
  cases hw
  obtain ⟨a, rfl⟩ : ∃ a, v = V.ref a := by cases hS; exact ⟨_, rfl⟩
  have g0 : Gr F0 H F0 H := Gr.refl fh
  refine q_setV (K := K) g0 (by wtm_at "ev") rfl fun H1 g1 e1 => ?_
  unfold textF at q
  dsimp only at q
  have hsb := sizeT_bd (mixF ns k 1)
  have hsl := signsT_len (mixF ns k 1)
  have htl := text0_len ns k (mixF ns k 1)
  generalize hn : mixF ns k 1 = n at q hsb hsl htl ⊢
  refine q_setV (K := K) g1 (by wtm_at "ev") rfl fun H2 g2 e2 => ?_
  refine q_setV (K := K) g2 (by wtm_at "ev") rfl fun H3 g3 e3 => ?_
  refine q_ifJ (fun σ' F' H' => σ' = [some (.ref a), some (.int k), some (.int n), some (.str (signsT n)), some (.int (sizeT n)), none, none, none]) g3 (b := decide (n % 2 = 0)) (by wtm_at "evb") (fun σ' F' H' g' e' x' hJ => ?_) (fun hb H2 g2 e2 kk => ?_) (fun hb H2 g2 e2 kk => ?_)
  · subst hJ
    have hS := hS.up e'
    have hsl2 : (signsT n).length ≤ 100000 := by rw [hsl]; split <;> omega
    have hsl3 : 0 < ((signsT n).length : Int) := by rw [hsl]; split <;> omega
    have hcl : (codesT ns k n).length = (sizeT n).toNat := by unfold codesT; rw [List.length_map, List.length_range]
    have hjn : (((codesT ns k n).map fun c => (⟨#[c]⟩ : Str)).map (·.length)).sum + ((codesT ns k n).map fun c => (⟨#[c]⟩ : Str)).length * (⟨#[]⟩ : Str).length ≤ 16777216 := by
      rw [sum_ones, hcl, show (⟨#[]⟩ : Str).length = 0 from rfl]
      omega
    have hz : (rangeD 0 (sizeT n).toNat).length ≤ 50000 := by rw [rangeD_len]; omega
    refine q_setV (K := K) g' (d := .str (text0 ns k n)) (EvD.to (d_bm (d_c (.str ⟨#[]⟩)) (ds_cons ((n_lc1 (w_range1 (n := sizeT n) (by wtm_at "evs") (by omega) (by omega)) hz (codeD ns k n) (fun _ => rfl) (fun d x F2 H2 hm a' b' c' hx => ?_)).to (codesD_of ns k n)).dd ds_nil) (.list _ _ hjn)) ?_) rfl fun H4 g4 e4 => ?_
    · obtain ⟨i, hi, rfl⟩ := rangeD_mem hm
      cases hx
      have hS := hS.up a'
      have hk1 : 0 ≤ k + (0 + (i : Int)) ∧ k + (0 + (i : Int)) ≤ 1000000 := by omega
      have hk2 : 0 ≤ 2 + (0 + (i : Int)) ∧ 2 + (0 + (i : Int)) ≤ 1000000 := by omega
      have hx1 := Int.emod_nonneg (mixF ns (k + (0 + (i : Int))) (2 + (0 + (i : Int)))) (show ((signsT n).length : Int) ≠ 0 by omega)
      have hx2 := Int.emod_lt_of_pos (mixF ns (k + (0 + (i : Int))) (2 + (0 + (i : Int)))) hsl3
      have hat : atI (signsT n).cps.toList (mixF ns (k + (0 + (i : Int))) (2 + (0 + (i : Int))) % ((signsT n).length : Int)) = some ((signsT n).cps.toList.getD (mixF ns (k + (0 + (i : Int))) (2 + (0 + (i : Int))) % ((signsT n).length : Int)).toNat 0) := atI_getN hx1 (by
        have e : ((signsT n).cps.toList.length : Int) = ((signsT n).length : Int) := by simp [Str.length]
        omega)
      exact EvD.to (by wtm_at "ev") (by rfl)
    · rw [join_signs]; rfl
    have hT : (text0 ns k n).length ≤ 28 := by omega
    have hT1 : (text0 ns k n).length ≤ 100000 := by omega
    have hat : 0 < sizeT n → atI [PyData.int 0, .int (sizeT n - 1), .int (n / 512 % sizeT n), .int (n / 512 % sizeT n)] (n / 128 % 4) = some (PyData.int (atT n)) := fun _ => atI_ints (ns := [0, sizeT n - 1, n / 512 % sizeT n, n / 512 % sizeT n]) (by omega) (by show _ < (4 : Int); omega)
    have c1 := cutS_length (text0 ns k n) none (some (atT n))
    have c2 := cutS_length (text0 ns k n) (some (atT n + 1)) none
    have c3 : (⟨#[signC (mixF ns k 40)]⟩ : Str).length = 1 := rfl
    generalize htt : text0 ns k n = tt at q hT hT1 c1 c2 ⊢
    have c4 : (cutS tt none (some (atT n))).length + (⟨#[signC (mixF ns k 40)]⟩ : Str).length ≤ 100000 := by omega
    have c5 : (cutS tt none (some (atT n)) ++ (⟨#[signC (mixF ns k 40)]⟩ : Str)).length + (cutS tt (some (atT n + 1)) none).length ≤ 100000 := by rw [str_add_len]; omega
    have hkk : 0 ≤ k ∧ k ≤ 1000000 := by omega
    refine q_ifJ (fun σ' F' H' => ∃ y6, σ' = [some (.ref a), some (.int k), some (.int n), some (.str (signsT n)), some (.int (sizeT n)), some (.str (if n / 64 % 2 = 0 ∧ 0 < sizeT n then (cutS tt none (some (atT n)) ++ (⟨#[signC (mixF ns k 40)]⟩ : Str)) ++ cutS tt (some (atT n + 1)) none else tt)), y6, none]) g4 (b := decide (n / 64 % 2 = 0) && decide (0 < sizeT n)) (by wtm_at "evb") (fun σ' F' H' g' e' x' hJ => ?_) (fun hb H2 g2 e2 kk => ?_) (fun hb H2 g2 e2 kk => ?_)
    · obtain ⟨y6, rfl⟩ := hJ
      exact s_ret (K := K) g' (by wtm_at "ev") q
    · rw [Bool.and_eq_true] at hb
      have hb1 := of_decide_eq_true hb.1
      have hb2 := of_decide_eq_true hb.2
      have hat := hat hb2
      refine q_setV (K := K) g2 (d := .int (atT n)) (by wtm_at "ev") rfl fun H5 g5 e5 => ?_
      refine s_setV (K := K) g5 (d_op2 (d_op2 (d_sl (d_var rfl (.str _)) i_none (i_some (by wtm_at "ev")) (.str _ _ _ hT1)) (by wtm_at "ev") (.str _ _ c4)) (by wtm_at "ev") (.str _ _ c5)) rfl fun H6 g6 e6 => kk _ _ _ g6 (Ex.refl _) ((e2.trans e5).trans e6) ⟨some (.int (atT n)), ?_⟩
      rw [if_pos ⟨hb1, hb2⟩]
      rfl
    · refine kk _ _ _ g2 (Ex.refl _) e2 ⟨none, ?_⟩
      rw [if_neg fun z => by rw [decide_eq_true z.1, decide_eq_true z.2] at hb; cases hb]
      rfl
  · have hb := of_decide_eq_true hb
    refine q_setV (K := K) g2 (d := .str (signsT n)) (EvD.to (d_sl (d_var rfl (.str _)) i_none (i_some (by wtm_at "ev")) (.str _ _ _ (by decide +kernel))) (by unfold signsT; rw [if_pos hb])) rfl fun H5 g5 e5 => ?_
    exact s_setV (K := K) g5 (d := .int (sizeT n)) (EvD.to (by wtm_at "ev") (by unfold sizeT; rw [if_pos hb])) rfl fun H6 g6 e6 => kk _ _ _ g6 (Ex.refl _) ((e2.trans e5).trans e6) rfl
  · have hb := of_decide_eq_false hb
    refine kk _ _ _ g2 (Ex.refl _) e2 ?_
    unfold signsT sizeT
    rw [if_neg hb, if_neg hb]
    rfl
theorem ok__law_thing (g : G K mg) : Dk P w K mg base 5 "_law_thing" ["_law_script", "_law_k"] (spR K RThing) := by
  refine g.f__law_thing.dk sc__law_thing (by rintro _ _ ⟨⟩; rfl) fun f cdv A outer s H E hr => ⟨_, (pss_cons (ps_set (i := 2) sc__law_thing.nd rfl (Or.inl rfl) (cl (ok__law_mixed g) hr (pa_cons (pv 0) (pa_cons (pv 1) (pa_cons pe_int pa_nil)))))
    (pss_cons (ps_set (i := 3) sc__law_thing.nd rfl (Or.inl rfl) (pe_op (kSub (K := K)) (pe_op (kMod (K := K)) (cl (ok__law_cell_at g) hr (pa_cons (pv 0) (pa_cons (pv 1) pa_nil))) (pe_op (kAdd (K := K)) (pe_op (kMul (K := K)) pe_int (pe_op (kPow (K := K)) pe_int pe_int)) pe_int)) (pe_op (kPow (K := K)) pe_int pe_int)))
    (pss_cons (ps_set (i := 4) sc__law_thing.nd rfl (Or.inl rfl) (cl (ok__law_text g) hr (pa_cons (pv 0) (pa_cons (pv 1) pa_nil))))
    (pss_one (ps_ret (pe_ix (kIxU (K := K)) (pe_lst (pa_cons (pv 3) (pa_cons (pe_op (kMod (K := K)) (pv 2) pe_int) (pa_cons pe_bl (pa_cons pe_bl (pa_cons pe_non (pa_cons (pv 4) (pa_cons (pe_tup (pa_cons (pv 4) pa_nil)) (pa_cons (pe_lst (pa_cons (pv 4) pa_nil)) (pa_cons (pe_lst (pa_cons (pv 3) pa_nil)) (pa_cons (pe_tup pa_nil) (pa_cons (pe_op (kMod (K := K)) (pv 3) pe_int) pa_nil)))))))))))) (pe_op (kMod (K := K)) (pe_op (kDiv (K := K)) (pv 2) pe_int) pe_int) (fun _ _ => rfl))))))), fun vs F0 ds r Q fh ha hR q => ?_⟩
  obtain ⟨ns, k, h, hk⟩ := hR
  obtain ⟨v, w, rfl, hS, hw⟩ := dps2 ha
  cases hw
  obtain ⟨a, rfl⟩ : ∃ a, v = V.ref a := by cases hS; exact ⟨_, rfl⟩
  have g0 : Gr F0 H F0 H := Gr.refl fh
  have hkk : 0 ≤ k ∧ k ≤ 1000000 := by omega
  refine q_setV (K := K) g0 (by wtm_at "ev") rfl fun H1 g1 e1 => ?_
  refine q_setV (K := K) g1 (d := .int (farT ns k)) (by wtm_at "ev") rfl fun H2 g2 e2 => ?_
  refine q_setV (K := K) g2 (by wtm_at "ev") rfl fun H3 g3 e3 => ?_
  have hat : atI (thingsT ns k) (mixF ns k 41 / 2 % 11) = some (thingT ns k) := atI_getD (by omega) (by show _ < (11 : Int); omega)
  unfold thingsT at hat
  generalize thingT ns k = th at hat q
  generalize mixF ns k 41 = n at hat ⊢
  generalize textF ns k = tx at hat ⊢
  generalize farT ns k = fa at hat ⊢
  exact s_ret (K := K) g3 (by wtm_at "ev") q
theorem ok__law_only (g : G K mg) : Dk P w K mg base 1 "_law_only" ["_law_text_here", "_law_signs", "_law_most"] (spR K ROnly) := by
  refine g.f__law_only.dk sc__law_only (by rintro _ _ ⟨⟩; rfl) fun f cdv A outer s H E hr => ⟨_, (pss_cons (ps_if (pt_not (pt_chain (kLe (room0 hr) (K := K)) (kLe (room0 hr) (K := K)) pe_int (bi (jLen (K := K)) g.b_len (pa_cons (pv 0) pa_nil)) (pv 2)))
    (pss_one (ps_ret pe_bl))
    pss_nil)
    (pss_cons (ps_for PassesOwn.never rfl (pi_any (K := K) (pv 0)) (pg_name (i := 3) sc__law_only.nd rfl (Or.inl rfl))
    (pss_one (ps_if (pt_cmpR (kLt (K := K)) (bm (K := K) PySem.F.plainAttrs_str PySem.F.slot_str_find PySem.F.type_str_find (mFind (K := K)) (pv 1) (pa_cons (pv 3) pa_nil)) pe_int (nomark _))
    (pss_one (ps_ret pe_bl))
    pss_nil)))
    (pss_one (ps_ret pe_bl)))), fun vs F0 ds r Q fh ha hR q => ?_⟩
  obtain ⟨z, signs, most, h⟩ := hR
  obtain ⟨v, w, u, rfl, hv, hw, hu⟩ := dps3 ha
  cases hv; cases hw; cases hu
  have g0 : Gr F0 H F0 H := Gr.refl fh
  have h1 : z.length ≤ 100000 := by omega
  refine q_when g0 (b := !decide (1 ≤ (z.length : Int) ∧ (z.length : Int) ≤ most)) (EvB.to (by wtm_at "evb") ?_) (fun hb H2 g2 e2 => ?_) fun hb H2 g2 e2 => ?_
  · simp
  · refine s_ret (K := K) g2 (EvD.to (d := .bool false) (by wtm_at "ev") ?_) q
    rw [madeF_str, decide_eq_false (no_of hb)]; rfl
  · have hb := yes_of hb
    rw [madeF_str, decide_eq_true hb] at q
    refine q_forN (K := K) g2 (w_anyS (z := z) (by wtm_at "ev")) fun F3 H3 g3 s3 => ⟨fun i σ' F' H' => ∃ y3, σ' = [some (.str z), some (.str signs), some (.int most), y3] ∧ inS signs z = (z.cps.toList.drop i).all fun c => decide (c ∈ signs.cps.toList), ⟨none, rfl, rfl⟩, fun i d σ' F' H' hd g' e' hP x F4 H4 g4 hx => ?_, fun σ' F' H' g' e' hP => ?_⟩
    · obtain ⟨y3, rfl, hall⟩ := hP
      rw [List.getElem?_map] at hd
      cases hji : z.cps.toList[i]? with
      | none => rw [hji] at hd; cases hd
      | some c =>
        rw [hji] at hd
        cases (Option.some.inj hd : signD c = d)
        cases hx
        have hdr : z.cps.toList.drop i = c :: z.cps.toList.drop (i + 1) := by
          obtain ⟨hlt, he⟩ := List.getElem?_eq_some_iff.mp hji
          rw [List.drop_eq_getElem_cons hlt, he]
        rw [hdr, List.all_cons] at hall
        have g5 := g'.trans g4
        refine s_when g5 (b := !decide (c ∈ signs.cps.toList)) (EvB.to (by wtm_at "evb") (find_neg c signs)) (fun hb H5 g6 e6 => ?_) fun hb H5 g6 e6 => ?_
        · have hb : decide (c ∈ signs.cps.toList) = false := by revert hb; cases decide (c ∈ signs.cps.toList) <;> simp
          rw [hb] at hall
          exact s_ret (K := K) g6 (EvD.to (d := .bool false) (by wtm_at "ev") (by rw [hall]; rfl)) q
        · have hb : decide (c ∈ signs.cps.toList) = true := by revert hb; cases decide (c ∈ signs.cps.toList) <;> simp
          rw [hb] at hall
          exact ⟨F4, g6, e'.trans g4.fx, _, rfl, hall⟩
    · obtain ⟨y3, rfl, hall⟩ := hP
      rw [List.length_map, List.drop_length] at hall
      exact s_ret (K := K) g' (EvD.to (d := .bool true) (by wtm_at "ev") (by rw [hall]; rfl)) q
theorem ok__law_told (g : G K mg) : Dk P w K mg base 1 "_law_told" ["_law_found", "_law_due"] (spR K RTold) := by
  refine g.f__law_told.dk sc__law_told (by rintro _ _ ⟨⟩; rfl) fun f cdv A outer s H E hr => ⟨_, (pss_cons (ps_if (pt_val (pv 1))
    (pss_one (ps_ret (pe_cmpR (kIs (K := K)) (pv 0) pe_bl (nomark _))))
    pss_nil)
    (pss_one (ps_ret (pe_cmpR (kIs (K := K)) (pv 0) pe_bl (nomark _))))), fun vs F0 ds r Q fh ha hR q => ?_⟩
  obtain ⟨x, y⟩ := hR
  obtain ⟨v, w, rfl, hv, hw⟩ := dps2 ha
  cases hv; cases hw
  have g0 : Gr F0 H F0 H := Gr.refl fh
  refine q_when g0 (b := y) (by wtm_at "evb") (fun hb H2 g2 e2 => ?_) fun hb H2 g2 e2 => ?_
  · subst hb
    exact s_ret (K := K) g2 (by wtm_at "ev") q
  · subst hb
    exact s_ret (K := K) g2 (by wtm_at "ev") q
theorem ok__law_right (g : G K mg) : Dk P w K mg base 3 "_law_right" ["_law_thing_here"] (spR K RRight) := by
  refine g.f__law_right.dk sc__law_right (by rintro _ _ ⟨⟩; rfl) fun f cdv A outer s H E hr => ⟨_, (pss_cons (ps_set (i := 1) sc__law_right.nd rfl (Or.inl rfl) (pe_and (bi (jIsi (K := K)) g.b_isinstance (pa_cons (pv 0) (pa_cons (bty (n := "int") g.b_int) pa_nil))) (pe_and (pe_cmpR (kNis (K := K)) (pv 0) pe_bl (nomark _)) (pe_one (pe_cmpR (kNis (K := K)) (pv 0) pe_bl (nomark _))))))
    (pss_cons (ps_set (i := 2) sc__law_right.nd rfl (Or.inl rfl) pe_bl)
    (pss_cons (ps_set (i := 3) sc__law_right.nd rfl (Or.inl rfl) pe_bl)
    (pss_cons (ps_if (pt_val (bi (jIsi (K := K)) g.b_isinstance (pa_cons (pv 0) (pa_cons (bty (n := "str") g.b_str) pa_nil))))
    (pss_cons (ps_set (i := 2) sc__law_right.nd rfl (Or.inl rfl) (cl (ok__law_only g) hr (pa_cons (pv 0) (pa_cons pe_str (pa_cons pe_int pa_nil)))))
    (pss_one (ps_set (i := 3) sc__law_right.nd rfl (Or.inl rfl) (cl (ok__law_only g) hr (pa_cons (pv 0) (pa_cons pe_str (pa_cons pe_int pa_nil)))))))
    pss_nil)
    (pss_cons (ps_if (PW.pt (pw_or (pt_not (pt_val (cl (ok__law_told g) hr (pa_cons (cl (ok_is_whole g) hr (pa_cons (pv 0) pa_nil)) (pa_cons (pv 1) pa_nil))))) (pw_or1 (pt_not (pt_val (cl (ok__law_told g) hr (pa_cons (cl (ok_is_word g) hr (pa_cons (pv 0) pa_nil)) (pa_cons (pv 2) pa_nil))))))))
    (pss_one (ps_ret pe_bl))
    pss_nil)
    (pss_one (ps_ret (cl (ok__law_told g) hr (pa_cons (cl (ok_is_guest g) hr (pa_cons (pv 0) pa_nil)) (pa_cons (pv 3) pa_nil)))))))))), fun vs F0 ds r Q fh ha hR q => ?_⟩
  obtain ⟨d, hz⟩ := hR
  obtain ⟨v, rfl, hv⟩ := dps1 ha
  have g0 : Gr F0 H F0 H := Gr.refl fh
  refine q_setV (K := K) g0 (d := .bool (isInt d && !isBol d)) (EvD.to (by wtm_at "ev") ?_) rfl fun H1 g1 e1 => ?_
  · cases d <;> first | rfl | (rename_i b; cases b <;> rfl)
  refine q_setV (K := K) g1 (by wtm_at "ev") rfl fun H2 g2 e2 => ?_
  refine q_setV (K := K) g2 (by wtm_at "ev") rfl fun H3 g3 e3 => ?_
  refine q_ifJ (fun σ' F' H' => σ' = [some v, some (.bl (isInt d && !isBol d)), some (.bl (madeF lettersS 12 d)), some (.bl (madeF signsS 24 d))]) g3 (b := isStr d) (by wtm_at "evb") (fun σ' F' H' g' e' x' hJ => ?_) (fun hb H2 g2 e2 kk => ?_) (fun hb H2 g2 e2 kk => ?_)
  · subst hJ
    have hv := hv.up e'
    have t1 : decide ((isInt d && !isBol d) = (isInt d && !isBol d)) = true := decide_eq_true rfl
    have t2 : decide (madeF lettersS 12 d = madeF lettersS 12 d) = true := decide_eq_true rfl
    have t3 : decide (madeF signsS 24 d = madeF signsS 24 d) = true := decide_eq_true rfl
    refine q_when g' (b := false) (EvB.to (by wtm_at "evb") ?_) (fun hb => nomatch hb) fun hb H4 g4 e4 => ?_
    · rw [t1, t2]; rfl
    · exact s_ret (K := K) g4 (EvD.to (by wtm_at "ev") (by rw [t3])) q
  · obtain ⟨z, rfl⟩ := isStr_of hb
    cases hv
    have hz : z.length ≤ 50000 := hz
    refine q_setV (K := K) g2 (by wtm_at "ev") rfl fun H5 g5 e5 => ?_
    exact s_setV (K := K) g5 (by wtm_at "ev") rfl fun H6 g6 e6 => kk _ _ _ g6 (Ex.refl _) ((e2.trans e5).trans e6) rfl
  · refine kk _ _ _ g2 (Ex.refl _) e2 ?_
    rw [notStr hb, notStr hb]
    rfl
theorem ok_law (g : G K mg) : Dk P w K mg base 6 "law" ["_law_script"] (spR K RLaw) := by
  refine g.f_law.dk sc_law RLaw.len fun f cdv A outer s H E hr => ⟨_, (pss_cons (ps_for PassesOwn.never rfl (pi_range1 (by rfl) g.b_range (pa_cons (bi (jMin rfl (K := K)) g.b_min (pa_cons (pe_op (kAdd (K := K)) (bi (jLen (K := K)) g.b_len (pa_cons (pv 0) pa_nil)) pe_int) (pa_cons pe_int pa_nil))) pa_nil)) (pg_name (i := 1) sc_law.nd rfl (Or.inl rfl))
    (pss_one (ps_if (PW.pt (pw_or (pt_not (pt_val (cl (ok__law_right g) hr (pa_cons (cl (ok__law_text g) hr (pa_cons (pv 0) (pa_cons (pe_op (kAdd (K := K)) (pv 1) pe_int) pa_nil))) pa_nil)))) (pw_or1 (pt_not (pt_val (cl (ok__law_right g) hr (pa_cons (cl (ok__law_thing g) hr (pa_cons (pv 0) (pa_cons (pv 1) pa_nil))) pa_nil)))))))
    (pss_one (ps_ret pe_bl))
    pss_nil)))
    (pss_one (ps_ret pe_bl))), fun vs F0 ds r Q fh ha hR q => ?_⟩
  obtain ⟨ns, hl, rfl, rfl⟩ := hR
  obtain ⟨v, rfl, hS⟩ := dps1 ha
  obtain ⟨a, rfl⟩ : ∃ a, v = V.ref a := by cases hS; exact ⟨_, rfl⟩
  have g0 : Gr F0 H F0 H := Gr.refl fh
  have hlen : (ns.map PyData.int).length = ns.length := List.length_map ..
  have hm := Int.min_le_right (((ns.map PyData.int).length : Int) + 1) 20
  have hm2 : 0 ≤ min (((ns.map PyData.int).length : Int) + 1) 20 := by omega
  generalize hmm : min (((ns.map PyData.int).length : Int) + 1) 20 = m at hm hm2
  refine q_forR (K := K) g0 (n := m) (by rw [← hmm]; wtm_at "evs") (by omega) (by omega) (fun i σ' F' H' => ∃ y1, σ' = [some (.ref a), y1]) (fun H2 _ _ => ⟨none, rfl⟩) (fun i σ' F' H' hi g' e' hP => ?_) fun σ' F' H' g' e' hP => ?_
  · obtain ⟨y1, rfl⟩ := hP
    have hS := hS.up e'
    have hk : 0 ≤ (i : Int) ∧ (i : Int) ≤ 1000 := by omega
    have hk7 : 0 ≤ (i : Int) + 7 ∧ (i : Int) + 7 ≤ 1000 := by omega
    have z1 : szD (.str (textF ns ((i : Int) + 7))) := Nat.le_trans (textF_len ns _) (by decide)
    have z2 := szD_thing ns (i : Int)
    refine s_when g' (b := false) (EvB.to (by wtm_at "evb") (by rfl)) (fun hb => nomatch hb) fun hb H4 g4 e4 => ?_
    exact ⟨F', g4, e', _, rfl⟩
  · obtain ⟨y1, rfl⟩ := hP
    exact s_ret (K := K) g' (by wtm_at "ev") q
end
theorem g_mk {K : Fg} {h : Heap} {mg : Str → Option Value} (X : K.In h) (Gn : h.Ns mainGlobals mg)
    {t_LETTERS : Tok} (q_LETTERS : PySem.W.nsIn K mainGlobals "LETTERS" = some (some (.str "abcdefghijklmnopqrstuvwxyz" t_LETTERS)))
    {t_SIGNS : Tok} (q_SIGNS : PySem.W.nsIn K mainGlobals "SIGNS" = some (some (.str "abcdefghijklmnopqrstuvwxyz0123456789" t_SIGNS)))
    (z_all : PySem.W.nsIn K mainGlobals "all" = some none)
    (z_bool : PySem.W.nsIn K mainGlobals "bool" = some none)
    (z_int : PySem.W.nsIn K mainGlobals "int" = some none)
    (z_isinstance : PySem.W.nsIn K mainGlobals "isinstance" = some none)
    (z_len : PySem.W.nsIn K mainGlobals "len" = some none)
    (z_max : PySem.W.nsIn K mainGlobals "max" = some none)
    (z_min : PySem.W.nsIn K mainGlobals "min" = some none)
    (z_range : PySem.W.nsIn K mainGlobals "range" = some none)
    (z_str : PySem.W.nsIn K mainGlobals "str" = some none)
    {f0 : Addr} {od0 an0 : Option Addr} {sl0 : Array (Option Value)} {oc0 kV0 dc0 pm0 cd0 ct0 : Value} (a0 : PySem.W.nsIn K mainGlobals "is_whole" = some (some (.ref f0))) (l0 : K.lookup f0 = some ⟨oc0, od0, .func (PySem.W.fnOf "is_whole" "is_whole" (defArgs s_is_whole) (defBody s_is_whole) (defScope s_is_whole) .none kV0 dc0 pm0 an0 cd0 ct0), sl0⟩) (cc0 : PySem.W.codeIn K cd0 "is_whole" = true) (k0 : PySem.W.keepIn K (.ref f0) = true)
    {f1 : Addr} {od1 an1 : Option Addr} {sl1 : Array (Option Value)} {oc1 kV1 dc1 pm1 cd1 ct1 : Value} (a1 : PySem.W.nsIn K mainGlobals "made_of" = some (some (.ref f1))) (l1 : K.lookup f1 = some ⟨oc1, od1, .func (PySem.W.fnOf "made_of" "made_of" (defArgs s_made_of) (defBody s_made_of) (defScope s_made_of) .none kV1 dc1 pm1 an1 cd1 ct1), sl1⟩) (cc1 : PySem.W.codeIn K cd1 "made_of" = true) (k1 : PySem.W.keepIn K (.ref f1) = true)
    {f2 : Addr} {od2 an2 : Option Addr} {sl2 : Array (Option Value)} {oc2 kV2 dc2 pm2 cd2 ct2 : Value} (a2 : PySem.W.nsIn K mainGlobals "is_word" = some (some (.ref f2))) (l2 : K.lookup f2 = some ⟨oc2, od2, .func (PySem.W.fnOf "is_word" "is_word" (defArgs s_is_word) (defBody s_is_word) (defScope s_is_word) .none kV2 dc2 pm2 an2 cd2 ct2), sl2⟩) (cc2 : PySem.W.codeIn K cd2 "is_word" = true) (k2 : PySem.W.keepIn K (.ref f2) = true)
    {f3 : Addr} {od3 an3 : Option Addr} {sl3 : Array (Option Value)} {oc3 kV3 dc3 pm3 cd3 ct3 : Value} (a3 : PySem.W.nsIn K mainGlobals "is_guest" = some (some (.ref f3))) (l3 : K.lookup f3 = some ⟨oc3, od3, .func (PySem.W.fnOf "is_guest" "is_guest" (defArgs s_is_guest) (defBody s_is_guest) (defScope s_is_guest) .none kV3 dc3 pm3 an3 cd3 ct3), sl3⟩) (cc3 : PySem.W.codeIn K cd3 "is_guest" = true) (k3 : PySem.W.keepIn K (.ref f3) = true)
    {f4 : Addr} {od4 an4 : Option Addr} {sl4 : Array (Option Value)} {oc4 kV4 dc4 pm4 cd4 ct4 : Value} (a4 : PySem.W.nsIn K mainGlobals "_law_cell_at" = some (some (.ref f4))) (l4 : K.lookup f4 = some ⟨oc4, od4, .func (PySem.W.fnOf "_law_cell_at" "_law_cell_at" (defArgs s__law_cell_at) (defBody s__law_cell_at) (defScope s__law_cell_at) .none kV4 dc4 pm4 an4 cd4 ct4), sl4⟩) (cc4 : PySem.W.codeIn K cd4 "_law_cell_at" = true) (k4 : PySem.W.keepIn K (.ref f4) = true)
    {f5 : Addr} {od5 an5 : Option Addr} {sl5 : Array (Option Value)} {oc5 kV5 dc5 pm5 cd5 ct5 : Value} (a5 : PySem.W.nsIn K mainGlobals "_law_mixed" = some (some (.ref f5))) (l5 : K.lookup f5 = some ⟨oc5, od5, .func (PySem.W.fnOf "_law_mixed" "_law_mixed" (defArgs s__law_mixed) (defBody s__law_mixed) (defScope s__law_mixed) .none kV5 dc5 pm5 an5 cd5 ct5), sl5⟩) (cc5 : PySem.W.codeIn K cd5 "_law_mixed" = true) (k5 : PySem.W.keepIn K (.ref f5) = true)
    {f6 : Addr} {od6 an6 : Option Addr} {sl6 : Array (Option Value)} {oc6 kV6 dc6 pm6 cd6 ct6 : Value} (a6 : PySem.W.nsIn K mainGlobals "_law_sign" = some (some (.ref f6))) (l6 : K.lookup f6 = some ⟨oc6, od6, .func (PySem.W.fnOf "_law_sign" "_law_sign" (defArgs s__law_sign) (defBody s__law_sign) (defScope s__law_sign) .none kV6 dc6 pm6 an6 cd6 ct6), sl6⟩) (cc6 : PySem.W.codeIn K cd6 "_law_sign" = true) (k6 : PySem.W.keepIn K (.ref f6) = true)
    {f7 : Addr} {od7 an7 : Option Addr} {sl7 : Array (Option Value)} {oc7 kV7 dc7 pm7 cd7 ct7 : Value} (a7 : PySem.W.nsIn K mainGlobals "_law_text" = some (some (.ref f7))) (l7 : K.lookup f7 = some ⟨oc7, od7, .func (PySem.W.fnOf "_law_text" "_law_text" (defArgs s__law_text) (defBody s__law_text) (defScope s__law_text) .none kV7 dc7 pm7 an7 cd7 ct7), sl7⟩) (cc7 : PySem.W.codeIn K cd7 "_law_text" = true) (k7 : PySem.W.keepIn K (.ref f7) = true)
    {f8 : Addr} {od8 an8 : Option Addr} {sl8 : Array (Option Value)} {oc8 kV8 dc8 pm8 cd8 ct8 : Value} (a8 : PySem.W.nsIn K mainGlobals "_law_thing" = some (some (.ref f8))) (l8 : K.lookup f8 = some ⟨oc8, od8, .func (PySem.W.fnOf "_law_thing" "_law_thing" (defArgs s__law_thing) (defBody s__law_thing) (defScope s__law_thing) .none kV8 dc8 pm8 an8 cd8 ct8), sl8⟩) (cc8 : PySem.W.codeIn K cd8 "_law_thing" = true) (k8 : PySem.W.keepIn K (.ref f8) = true)
    {f9 : Addr} {od9 an9 : Option Addr} {sl9 : Array (Option Value)} {oc9 kV9 dc9 pm9 cd9 ct9 : Value} (a9 : PySem.W.nsIn K mainGlobals "_law_only" = some (some (.ref f9))) (l9 : K.lookup f9 = some ⟨oc9, od9, .func (PySem.W.fnOf "_law_only" "_law_only" (defArgs s__law_only) (defBody s__law_only) (defScope s__law_only) .none kV9 dc9 pm9 an9 cd9 ct9), sl9⟩) (cc9 : PySem.W.codeIn K cd9 "_law_only" = true) (k9 : PySem.W.keepIn K (.ref f9) = true)
    {f10 : Addr} {od10 an10 : Option Addr} {sl10 : Array (Option Value)} {oc10 kV10 dc10 pm10 cd10 ct10 : Value} (a10 : PySem.W.nsIn K mainGlobals "_law_told" = some (some (.ref f10))) (l10 : K.lookup f10 = some ⟨oc10, od10, .func (PySem.W.fnOf "_law_told" "_law_told" (defArgs s__law_told) (defBody s__law_told) (defScope s__law_told) .none kV10 dc10 pm10 an10 cd10 ct10), sl10⟩) (cc10 : PySem.W.codeIn K cd10 "_law_told" = true) (k10 : PySem.W.keepIn K (.ref f10) = true)
    {f11 : Addr} {od11 an11 : Option Addr} {sl11 : Array (Option Value)} {oc11 kV11 dc11 pm11 cd11 ct11 : Value} (a11 : PySem.W.nsIn K mainGlobals "_law_right" = some (some (.ref f11))) (l11 : K.lookup f11 = some ⟨oc11, od11, .func (PySem.W.fnOf "_law_right" "_law_right" (defArgs s__law_right) (defBody s__law_right) (defScope s__law_right) .none kV11 dc11 pm11 an11 cd11 ct11), sl11⟩) (cc11 : PySem.W.codeIn K cd11 "_law_right" = true) (k11 : PySem.W.keepIn K (.ref f11) = true)
    {f12 : Addr} {od12 an12 : Option Addr} {sl12 : Array (Option Value)} {oc12 kV12 dc12 pm12 cd12 ct12 : Value} (a12 : PySem.W.nsIn K mainGlobals "law" = some (some (.ref f12))) (l12 : K.lookup f12 = some ⟨oc12, od12, .func (PySem.W.fnOf "law" "law" (defArgs s_law) (defBody s_law) (defScope s_law) .none kV12 dc12 pm12 an12 cd12 ct12), sl12⟩) (cc12 : PySem.W.codeIn K cd12 "law" = true) (k12 : PySem.W.keepIn K (.ref f12) = true) : G K mg where
  b_all := PySem.W.mg_none_of X Gn z_all
  b_bool := PySem.W.mg_none_of X Gn z_bool
  b_int := PySem.W.mg_none_of X Gn z_int
  b_isinstance := PySem.W.mg_none_of X Gn z_isinstance
  b_len := PySem.W.mg_none_of X Gn z_len
  b_max := PySem.W.mg_none_of X Gn z_max
  b_min := PySem.W.mg_none_of X Gn z_min
  b_range := PySem.W.mg_none_of X Gn z_range
  b_str := PySem.W.mg_none_of X Gn z_str
  c_LETTERS := ⟨_, PySem.W.mg_of X Gn q_LETTERS⟩
  c_SIGNS := ⟨_, PySem.W.mg_of X Gn q_SIGNS⟩
  f_is_whole := ⟨f0, _, fun_mk (st := s_is_whole) l0 cc0 k0, PySem.W.mg_of X Gn a0, fun us hl => match us, hl with | [_], _ => rfl⟩
  f_made_of := ⟨f1, _, fun_mk (st := s_made_of) l1 cc1 k1, PySem.W.mg_of X Gn a1, fun us hl => match us, hl with | [_, _, _], _ => rfl⟩
  f_is_word := ⟨f2, _, fun_mk (st := s_is_word) l2 cc2 k2, PySem.W.mg_of X Gn a2, fun us hl => match us, hl with | [_], _ => rfl⟩
  f_is_guest := ⟨f3, _, fun_mk (st := s_is_guest) l3 cc3 k3, PySem.W.mg_of X Gn a3, fun us hl => match us, hl with | [_], _ => rfl⟩
  f__law_cell_at := ⟨f4, _, fun_mk (st := s__law_cell_at) l4 cc4 k4, PySem.W.mg_of X Gn a4, fun us hl => match us, hl with | [_, _], _ => rfl⟩
  f__law_mixed := ⟨f5, _, fun_mk (st := s__law_mixed) l5 cc5 k5, PySem.W.mg_of X Gn a5, fun us hl => match us, hl with | [_, _, _], _ => rfl⟩
  f__law_sign := ⟨f6, _, fun_mk (st := s__law_sign) l6 cc6 k6, PySem.W.mg_of X Gn a6, fun us hl => match us, hl with | [_], _ => rfl⟩
  f__law_text := ⟨f7, _, fun_mk (st := s__law_text) l7 cc7 k7, PySem.W.mg_of X Gn a7, fun us hl => match us, hl with | [_, _], _ => rfl⟩
  f__law_thing := ⟨f8, _, fun_mk (st := s__law_thing) l8 cc8 k8, PySem.W.mg_of X Gn a8, fun us hl => match us, hl with | [_, _], _ => rfl⟩
  f__law_only := ⟨f9, _, fun_mk (st := s__law_only) l9 cc9 k9, PySem.W.mg_of X Gn a9, fun us hl => match us, hl with | [_, _, _], _ => rfl⟩
  f__law_told := ⟨f10, _, fun_mk (st := s__law_told) l10 cc10 k10, PySem.W.mg_of X Gn a10, fun us hl => match us, hl with | [_, _], _ => rfl⟩
  f__law_right := ⟨f11, _, fun_mk (st := s__law_right) l11 cc11 k11, PySem.W.mg_of X Gn a11, fun us hl => match us, hl with | [_], _ => rfl⟩
  f_law := ⟨f12, _, fun_mk (st := s_law) l12 cc12 k12, PySem.W.mg_of X Gn a12, fun us hl => match us, hl with | [_], _ => rfl⟩
end My
open PySem PySem.W PyProof.Rows
set_option maxRecDepth 100000 in
set_option maxHeartbeats 0 in
theorem PySem.Challenge.cw_layersplit_k01_names_known_holds : PySem.Challenge.rw_layersplit_k01_names_known.Holds := by
  w_on; o_law; k_head; (case hw => w_witness2)
  k_fill
  refine L2.walk_of (l := PySem.Challenge.rw_layersplit_k01_names_known) (n := 63) (k := 6) (x := "_law_script") (CX := fun _ => L2.CX0) (sp := fun w => Ly.spR _ Ly.RLaw) rfl (by decide) rfl ⟨rfl, by decide, by decide⟩ (fun w h Y => PySem.W.kIn_of Y) ?F (fun w H a ns hl _ hS => Ly.law_start hl hS) (fun _ _ _ _ _ h => h)
  case F =>
    intro w mg fa h KX Gn hmg
    refine' (fun g => Ly.Df.fin (My.G.f_law g) hmg (fun base _ _ => My.ok_law g)) (My.g_mk KX Gn ?q_LETTERS ?q_SIGNS ?z_all ?z_bool ?z_int ?z_isinstance ?z_len ?z_max ?z_min ?z_range ?z_str ?a0 ?l0 ?cc0 ?k0 ?a1 ?l1 ?cc1 ?k1 ?a2 ?l2 ?cc2 ?k2 ?a3 ?l3 ?cc3 ?k3 ?a4 ?l4 ?cc4 ?k4 ?a5 ?l5 ?cc5 ?k5 ?a6 ?l6 ?cc6 ?k6 ?a7 ?l7 ?cc7 ?k7 ?a8 ?l8 ?cc8 ?k8 ?a9 ?l9 ?cc9 ?k9 ?a10 ?l10 ?cc10 ?k10 ?a11 ?l11 ?cc11 ?k11 ?a12 ?l12 ?cc12 ?k12)
    (case q_LETTERS => k_is)
    (case q_SIGNS => k_is)
    (case z_all => k_is)
    (case z_bool => k_is)
    (case z_int => k_is)
    (case z_isinstance => k_is)
    (case z_len => k_is)
    (case z_max => k_is)
    (case z_min => k_is)
    (case z_range => k_is)
    (case z_str => k_is)
    (case a0 => k_is)
    (case l0 => k_is)
    (case cc0 => k_is)
    (case k0 => k_is)
    (case a1 => k_is)
    (case l1 => k_is)
    (case cc1 => k_is)
    (case k1 => k_is)
    (case a2 => k_is)
    (case l2 => k_is)
    (case cc2 => k_is)
    (case k2 => k_is)
    (case a3 => k_is)
    (case l3 => k_is)
    (case cc3 => k_is)
    (case k3 => k_is)
    (case a4 => k_is)
    (case l4 => k_is)
    (case cc4 => k_is)
    (case k4 => k_is)
    (case a5 => k_is)
    (case l5 => k_is)
    (case cc5 => k_is)
    (case k5 => k_is)
    (case a6 => k_is)
    (case l6 => k_is)
    (case cc6 => k_is)
    (case k6 => k_is)
    (case a7 => k_is)
    (case l7 => k_is)
    (case cc7 => k_is)
    (case k7 => k_is)
    (case a8 => k_is)
    (case l8 => k_is)
    (case cc8 => k_is)
    (case k8 => k_is)
    (case a9 => k_is)
    (case l9 => k_is)
    (case cc9 => k_is)
    (case k9 => k_is)
    (case a10 => k_is)
    (case l10 => k_is)
    (case cc10 => k_is)
    (case k10 => k_is)
    (case a11 => k_is)
    (case l11 => k_is)
    (case cc11 => k_is)
    (case k11 => k_is)
    (case a12 => k_is)
    (case l12 => k_is)
    (case cc12 => k_is)
    (case k12 => k_is)
