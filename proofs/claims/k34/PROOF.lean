import PyProof.Rows.All
import Wide.All
import OpenK.AllK
import Wide.FinOn
import HandS.ForMost
import HandS.Evl
import HandS.Wide
import HandS.WideBits
import HandS.Deep
import HandS.TupAny
import HandS.TupLe
import HandS.IsInst
import HandS.Replace
import KE.KTupSum
import HandS.Codes
import HandS.RaiseMore
import PySem.Challenge.RW_layersplit_k34_deeds_written
set_option Elab.async false
set_option linter.all false
set_option maxRecDepth 100000
set_option maxHeartbeats 4000000
/-! LyA: judgements over data: a frozen part F of the heap H carries all data; what is owned stands in H alone. -/
namespace Ly
open PySem L2 Evl

theorem no_of {p : Prop} [Decidable p] (h : (!decide p) = true) : ¬ p := fun z => by rw [decide_eq_true z] at h; cases h
theorem yes_of {p : Prop} [Decidable p] (h : (!decide p) = false) : p := by
  by_cases z : p
  · exact z
  · rw [decide_eq_false z] at h; cases h
abbrev D := PySem.PyData
abbrev Fg := PySem.W.Frag

/-! ### growth -/
structure Gr (F H F2 H2 : Hp) : Prop where
  fx : Ex F F2
  hx : Ex H H2
  fh : Ex F2 H2
  old : ∀ p, H p ≠ none → F2 p = F p
section
variable {F H F1 H1 F2 H2 F3 H3 : Hp} {p l : Addr} {o : HO} {K : Fg}
theorem Gr.refl (h : Ex F H) : Gr F H F H := ⟨Ex.refl F, Ex.refl H, h, fun _ _ => rfl⟩
theorem ex_nn (e : Ex H H2) (h : H p ≠ none) : H2 p ≠ none := by
  cases q : H p with
  | none => exact absurd q h
  | some o => rw [e p o q]; exact fun z => nomatch z
theorem Gr.trans (a : Gr F H F2 H2) (b : Gr F2 H2 F3 H3) : Gr F H F3 H3 :=
  ⟨a.fx.trans b.fx, a.hx.trans b.hx, b.fh, fun p h => (b.old p (ex_nn a.hx h)).trans (a.old p h)⟩
theorem Gr.grow (a : Gr F H F2 H2) (e : Ex H2 H3) : Gr F H F2 H3 := ⟨a.fx, a.hx.trans e, a.fh.trans e, a.old⟩
theorem Gr.new (fh : Ex F H) (hp : H p = none) : Gr F H (upd F p o) (upd H p o) := by
  have fp : F p = none := fresh_back fh hp
  refine ⟨Ex.new fp, Ex.new hp, fun b u h => ?_, fun b hb => ?_⟩
  · by_cases e : b = p
    · subst e; rw [upd_same] at h ⊢; exact h
    · rw [upd_ne e] at h ⊢; exact fh b u h
  · have e : b ≠ p := fun z => hb (by rw [z]; exact hp)
    rw [upd_ne e]
/-- a thing is made that stays one's own -/
theorem Gr.own (fh : Ex F H) (hp : H p = none) : Gr F H F (upd H p o) := ⟨Ex.refl F, Ex.new hp, fh.trans (Ex.new hp), fun _ _ => rfl⟩
/-- what is one's own changes -/
theorem Gr.mut (g : Gr F H F2 H2) (h0 : H l = none) (hf : F2 l = none) : Gr F H F2 (upd H2 l o) := by
  refine ⟨g.fx, fun b u h => ?_, fun b u h => ?_, g.old⟩
  · rw [upd_ne (ne_of_none h h0)]; exact g.hx b u h
  · rw [upd_ne (ne_of_none h hf)]; exact g.fh b u h
/-- what is one's own is handed out -/
theorem Gr.give (g : Gr F H F2 H2) (h0 : H l = none) (hl : H2 l = some o) (hf : F2 l = none) : Gr F H (upd F2 l o) H2 := by
  refine ⟨g.fx.trans (Ex.new hf), g.hx, fun b u h => ?_, fun b hb => ?_⟩
  · by_cases e : b = l
    · subst e; rw [upd_same] at h; cases h; exact hl
    · rw [upd_ne e] at h; exact g.fh b u h
  · have e : b ≠ l := fun z => hb (by rw [z]; exact h0)
    rw [upd_ne e]; exact g.old b hb
theorem Gr.non (g : Gr F H F2 H2) (h : H l ≠ none) (hf : F l = none) : F2 l = none := (g.old l h).trans hf
theorem Gr.back (g : Gr F H F2 H2) (h : H2 l = none) : H l = none := fresh_back g.hx h

/-! ### data -/
mutual
theorem dp_mono (e : Ex F F2) : ∀ (d : D) (v : V), Dp K F v d → Dp K F2 v d
  | .none, _, h => by cases h; exact .non
  | .bool b, _, h => by cases h; exact .bl b
  | .int i, _, h => by cases h; exact .int i
  | .str x, _, h => by cases h; exact .str x
  | .list ds, _, h => by
    cases h with
    | lst hs ha => exact .lst (ex_l e hs) (dps_mono e ds _ ha)
  | .tuple ds, _, h => by
    cases h with
    | tup hs ha => exact .tup (ex_t e hs) (dps_mono e ds _ ha)
  | .dict _, _, h => by cases h
theorem dps_mono (e : Ex F F2) : ∀ (ds : List D) (vs : List V), DpAll K F vs ds → DpAll K F2 vs ds
  | [], _, h => by cases h; exact .nil
  | d :: ds, _, h => by
    cases h with
    | cons h1 h2 => exact .cons (dp_mono e d _ h1) (dps_mono e ds _ h2)
end
end
end Ly
namespace L2
open PySem Ly Evl
section
variable {K : PySem.W.Frag} {F F2 : Hp} {v : V} {vs : List V} {d : PyData} {ds es : List PyData}
theorem Dp.up (h : Dp K F v d) (e : Ex F F2) : Dp K F2 v d := dp_mono e d v h
theorem DpAll.up (h : DpAll K F vs ds) (e : Ex F F2) : DpAll K F2 vs ds := dps_mono e ds vs h
theorem DpAll.length : ∀ {vs : List V} {ds : List PyData}, DpAll K F vs ds → vs.length = ds.length
  | _, [], h => by cases h; rfl
  | _, d :: ds, h => by
    cases h with
    | cons _ h2 => rw [List.length_cons, List.length_cons, DpAll.length h2]
theorem DpAll.get : ∀ {vs : List V} {ds : List PyData} {i : Nat} {d : PyData}, DpAll K F vs ds → ds[i]? = some d → ∃ v, vs[i]? = some v ∧ Dp K F v d
  | _, [], i, d, h, e => by simp at e
  | _, x :: ds, 0, d, h, e => by
    cases h with
    | cons h1 h2 =>
      have q : x = d := Option.some.inj e
      subst q
      exact ⟨_, rfl, h1⟩
  | _, x :: ds, i + 1, d, h, e => by
    cases h with
    | cons h1 h2 =>
      obtain ⟨v, e1, r⟩ := DpAll.get (i := i) (d := d) h2 (by simpa using e)
      exact ⟨v, by simpa using e1, r⟩
theorem DpAll.getV : ∀ {vs : List V} {ds : List PyData} {i : Nat} {v : V}, DpAll K F vs ds → vs[i]? = some v → ∃ d, ds[i]? = some d ∧ Dp K F v d
  | _, [], i, v, h, e => by cases h; simp at e
  | _, x :: ds, 0, v, h, e => by
    cases h with
    | cons h1 h2 =>
      have q := Option.some.inj e
      subst q
      exact ⟨_, rfl, h1⟩
  | _, x :: ds, i + 1, v, h, e => by
    cases h with
    | cons h1 h2 =>
      obtain ⟨d, e1, r⟩ := DpAll.getV (i := i) (v := v) h2 (by simpa using e)
      exact ⟨d, by simpa using e1, r⟩
theorem DpAll.append : ∀ {vs ws : List V} {ds es : List PyData}, DpAll K F vs ds → DpAll K F ws es → DpAll K F (vs ++ ws) (ds ++ es)
  | _, _, [], _, h, k => by cases h; exact k
  | _, _, d :: ds, _, h, k => by
    cases h with
    | cons h1 h2 => exact .cons h1 (DpAll.append h2 k)
theorem DpAll.take : ∀ {vs : List V} {ds : List PyData} (n : Nat), DpAll K F vs ds → DpAll K F (vs.take n) (ds.take n)
  | _, _, 0, _ => .nil
  | _, [], _ + 1, h => by cases h; exact .nil
  | _, d :: ds, n + 1, h => by
    cases h with
    | cons h1 h2 => exact .cons h1 (DpAll.take n h2)
theorem DpAll.drop : ∀ {vs : List V} {ds : List PyData} (n : Nat), DpAll K F vs ds → DpAll K F (vs.drop n) (ds.drop n)
  | _, _, 0, h => h
  | _, [], _ + 1, h => by cases h; exact .nil
  | _, d :: ds, n + 1, h => by
    cases h with
    | cons h1 h2 => exact DpAll.drop n h2
theorem dps_ints : ∀ (ns : List Int), DpAll K F (ns.map V.int) (ns.map PyData.int)
  | [] => .nil
  | n :: ns => .cons (.int n) (dps_ints ns)
theorem dps_strs : ∀ (ns : List Str), DpAll K F (ns.map V.str) (ns.map PyData.str)
  | [] => .nil
  | n :: ns => .cons (.str n) (dps_strs ns)
theorem dps_bools : ∀ (ns : List Bool), DpAll K F (ns.map V.bl) (ns.map PyData.bool)
  | [] => .nil
  | n :: ns => .cons (.bl n) (dps_bools ns)
theorem dps_ints_inv : ∀ (ns : List Int) {vs : List V}, DpAll K F vs (ns.map PyData.int) → vs = ns.map V.int
  | [], _, h => by cases h; rfl
  | n :: ns, _, h => by
    cases h with
    | cons h1 h2 =>
      cases h1
      rw [dps_ints_inv ns h2]
      rfl
theorem dps_bools_inv : ∀ (ns : List Bool) {vs : List V}, DpAll K F vs (ns.map PyData.bool) → vs = ns.map V.bl
  | [], _, h => by cases h; rfl
  | n :: ns, _, h => by
    cases h with
    | cons h1 h2 =>
      cases h1
      rw [dps_bools_inv ns h2]
      rfl
theorem dps_strs_inv : ∀ (ns : List Str) {vs : List V}, DpAll K F vs (ns.map PyData.str) → vs = ns.map V.str
  | [], _, h => by cases h; rfl
  | n :: ns, _, h => by
    cases h with
    | cons h1 h2 =>
      cases h1
      rw [dps_strs_inv ns h2]
      rfl
theorem dp_ints {a : Addr} {ns : List Int} (h : SqL K F a (ns.map V.int)) : Dp K F (.ref a) (.list (ns.map PyData.int)) := .lst h (dps_ints ns)
end
end L2
namespace Ly
open PySem L2 Evl
/-- a value that is its own datum -/
def scV : D → Option V
  | .none => some .non
  | .bool b => some (.bl b)
  | .int i => some (.int i)
  | .str x => some (.str x)
  | _ => none
theorem scV_inv {K : Fg} {F : Hp} {v w : V} {d : D} (e : scV d = some v) (h : Dp K F w d) : w = v := by
  cases h <;> (unfold scV at e; first | (cases e; rfl) | cases e)
theorem scV_dp {K : Fg} {F : Hp} {v : V} {d : D} (e : scV d = some v) : Dp K F v d := by
  cases d <;> (unfold scV at e; first | (cases e; constructor; done) | cases e)

/-! ### readings over data -/
/-- what is handed back: a value that bears the datum -/
def Ans (K : Fg) (F H : Hp) (r : D) (Q : VK) : Prop := ∀ v F2 H2, Gr F H F2 H2 → Dp K F2 v r → Q v H2
def rD2 (K : Fg) (R : D → D → D → Prop) : R2 := fun x y H Q => ∃ F d e r, Ex F H ∧ Dp K F x d ∧ Dp K F y e ∧ R d e r ∧ Ans K F H r Q
def rD1 (K : Fg) (R : D → D → Prop) : V → Hp → VK → Prop := fun x H Q => ∃ F d r, Ex F H ∧ Dp K F x d ∧ R d r ∧ Ans K F H r Q
def rDn (K : Fg) (R : List D → D → Prop) : List V → Hp → VK → Prop := fun vs H Q => ∃ F ds r, Ex F H ∧ DpAll K F vs ds ∧ R ds r ∧ Ans K F H r Q
def rDm (K : Fg) (R : D → List D → D → Prop) : V → List V → Hp → VK → Prop := fun x vs H Q => ∃ F d ds r, Ex F H ∧ Dp K F x d ∧ DpAll K F vs ds ∧ R d ds r ∧ Ans K F H r Q
def rDs (K : Fg) (R : D → Option Int → Option Int → D → Prop) : V → Option Int → Option Int → Hp → VK → Prop := fun x lo hi H Q => ∃ F d r, Ex F H ∧ Dp K F x d ∧ R d lo hi r ∧ Ans K F H r Q
/-- the promise of a def that is a relation of data -/
def spR (K : Fg) (R : List D → D → Prop) : Sp := fun vs H Q _ => rDn K R vs H Q
theorem spR_len {K : Fg} {R : List D → D → Prop} {n : Nat} (h : ∀ ds r, R ds r → ds.length = n) : ∀ vs H Q E, spR K R vs H Q E → vs.length = n := fun vs H Q E ⟨F, ds, r, _, ha, hr, _⟩ => by
  rw [ha.length]; exact h ds r hr

/-! ### what evaluates to what -/
def EvD (K : Fg) (te : TE) (σ : L2.St) (F H : Hp) (d : D) : Prop := ∀ F1 H1, Ex F F1 → Ex H H1 → Ex F1 H1 → ∀ Q : VK, (∀ v F2 H2, Gr F1 H1 F2 H2 → Dp K F2 v d → Q v H2) → te σ H1 Q
def EvDs (K : Fg) (ta : TA) (σ : L2.St) (F H : Hp) (ds : List D) : Prop := ∀ F1 H1, Ex F F1 → Ex H H1 → Ex F1 H1 → ∀ Q : List V → Hp → Prop, (∀ vs F2 H2, Gr F1 H1 F2 H2 → DpAll K F2 vs ds → Q vs H2) → ta σ H1 Q
def EvB (t : TT) (σ : L2.St) (F H : Hp) (b : Bool) : Prop := ∀ F1 H1, Ex F F1 → Ex H H1 → Ex F1 H1 → ∀ Q : Bool → Hp → Prop, (∀ H2, Ex H1 H2 → Q b H2) → t σ H1 Q
def EvI (K : Fg) (to : TO) (σ : L2.St) (F H : Hp) (o : Option Int) : Prop := ∀ F1 H1, Ex F F1 → Ex H H1 → Ex F1 H1 → ∀ Q : Option Int → Hp → Prop, (∀ H2, Ex H1 H2 → Q o H2) → to σ H1 Q

section
variable {K : Fg} {σ : L2.St} {F H F' H' : Hp} {ta tb te tx : TE} {t u : TT} {x y z v : V} {d e r : D} {b : Bool}
theorem EvD.up (h : EvD K te σ F H d) (a : Ex F F') (c : Ex H H') : EvD K te σ F' H' d := fun F1 H1 e1 e2 => h F1 H1 (a.trans e1) (c.trans e2)
theorem EvB.up (h : EvB t σ F H b) (a : Ex F F') (c : Ex H H') : EvB t σ F' H' b := fun F1 H1 e1 e2 => h F1 H1 (a.trans e1) (c.trans e2)
theorem EvD.to (h : EvD K te σ F H d) (q : d = e) : EvD K te σ F H e := q ▸ h
theorem EvB.to {c : Bool} (h : EvB t σ F H b) (q : b = c) : EvB t σ F H c := q ▸ h
theorem EvDs.to {ds es : List D} {ta : TA} (h : EvDs K ta σ F H ds) (q : ds = es) : EvDs K ta σ F H es := q ▸ h
/-- told with what stands beside -/
theorem EvD.own (h : EvD K te σ F' H d) (hs : scV d = some v) (h1 : ∀ F1 H1, Ex F F1 → Ex H H1 → Ex F1 H1 → ∃ F2, Ex F' F2 ∧ Ex F2 H1) : EvD K te σ F H d := fun F1 H1 e1 e2 e3 Q q => by
  obtain ⟨F2, a, c⟩ := h1 F1 H1 e1 e2 e3
  refine h F2 H1 a e2 c Q fun w F3 H3 g hw => ?_
  have ew := scV_inv hs hw
  subst ew
  exact q _ F1 H3 ⟨Ex.refl _, g.hx, e3.trans g.hx, fun _ _ => rfl⟩ (scV_dp hs)
theorem EvB.own (h : EvB t σ F' H b) (h1 : ∀ F1 H1, Ex F F1 → Ex H H1 → Ex F1 H1 → ∃ F2, Ex F' F2 ∧ Ex F2 H1) : EvB t σ F H b := fun F1 H1 e1 e2 e3 Q q => by
  obtain ⟨F2, a, c⟩ := h1 F1 H1 e1 e2 e3
  exact h F2 H1 a e2 c Q q
/-- with one's own list at l beside -/
theorem ownL {l : Addr} {o : HO} (hl : H l = some o) : ∀ F1 H1, Ex F F1 → Ex H H1 → Ex F1 H1 → ∃ F2, Ex (upd F l o) F2 ∧ Ex F2 H1 := fun F1 H1 e1 e2 e3 =>
  ⟨upd F1 l o, fun b u q => by
    by_cases eb : b = l
    · subst eb; rw [upd_same] at q ⊢; exact q
    · rw [upd_ne eb] at q ⊢; exact e1 b u q, fun b u q => by
    by_cases eb : b = l
    · subst eb; rw [upd_same] at q; cases q; exact e2 _ _ hl
    · rw [upd_ne eb] at q; exact e3 b u q⟩
/-! values -/
theorem d_var {i : Nat} (h : σ[i]? = some (some v)) (hd : Dp K F v d) : EvD K (tVar i) σ F H d := fun F1 H1 e1 _ e3 _ q => ⟨v, h, q v F1 H1 (Gr.refl e3) (hd.up e1)⟩
theorem d_c (hd : Dp K F v d) : EvD K (tC v) σ F H d := fun F1 H1 e1 _ e3 _ q => q v F1 H1 (Gr.refl e3) (hd.up e1)
theorem ex_join {F1 H1 F2 H2 : Hp} (g : Gr F1 H1 F2 H2) (h : Ex H H1) : Ex H H2 := h.trans g.hx
theorem d_op2 {R : D → D → D → Prop} (ha : EvD K ta σ F H d) (hb : EvD K tb σ F H e) (hr : R d e r) : EvD K (tOp (rD2 K R) ta tb) σ F H r := fun F1 H1 e1 e2 e3 Q q =>
  ha F1 H1 e1 e2 e3 _ fun x F2 H2 g2 hx => hb F2 H2 (e1.trans g2.fx) (e2.trans g2.hx) g2.fh _ fun y F3 H3 g3 hy =>
    ⟨F3, d, e, r, g3.fh, hx.up g3.fx, hy, hr, fun v F4 H4 g4 hv => q v F4 H4 ((g2.trans g3).trans g4) hv⟩
theorem d_un {R : D → D → Prop} (ha : EvD K ta σ F H d) (hr : R d r) : EvD K (tUn (rD1 K R) ta) σ F H r := fun F1 H1 e1 e2 e3 Q q =>
  ha F1 H1 e1 e2 e3 _ fun x F2 H2 g2 hx => ⟨F2, d, r, g2.fh, hx, hr, fun v F4 H4 g4 hv => q v F4 H4 (g2.trans g4) hv⟩
theorem ds_nil : EvDs K tNil σ F H [] := fun F1 H1 _ _ e3 _ q => q [] F1 H1 (Gr.refl e3) .nil
theorem ds_cons {tr : TA} {ds : List D} (ha : EvD K ta σ F H d) (hr : EvDs K tr σ F H ds) : EvDs K (tCons ta tr) σ F H (d :: ds) := fun F1 H1 e1 e2 e3 Q q =>
  ha F1 H1 e1 e2 e3 _ fun x F2 H2 g2 hx => hr F2 H2 (e1.trans g2.fx) (e2.trans g2.hx) g2.fh _ fun xs F3 H3 g3 hxs => q (x :: xs) F3 H3 (g2.trans g3) (.cons (hx.up g3.fx) hxs)
theorem d_call {R : List D → D → Prop} {E : XK} {ta : TA} {ds : List D} (ha : EvDs K ta σ F H ds) (hr : R ds r) : EvD K (tCall (spR K R) [] E ta) σ F H r := fun F1 H1 e1 e2 e3 Q q =>
  ha F1 H1 e1 e2 e3 _ fun xs F2 H2 g2 hx => by
    show rDn K R (xs ++ []) H2 Q
    rw [List.append_nil]
    exact ⟨F2, ds, r, g2.fh, hx, hr, fun v F4 H4 g4 hv => q v F4 H4 (g2.trans g4) hv⟩
theorem d_cb {R : List D → D → Prop} {ta : TA} {ds : List D} (ha : EvDs K ta σ F H ds) (hr : R ds r) : EvD K (tCB (rDn K R) ta) σ F H r := fun F1 H1 e1 e2 e3 Q q =>
  ha F1 H1 e1 e2 e3 _ fun xs F2 H2 g2 hx => ⟨F2, ds, r, g2.fh, hx, hr, fun v F4 H4 g4 hv => q v F4 H4 (g2.trans g4) hv⟩
theorem d_tup {ta : TA} {ds : List D} (ha : EvDs K ta σ F H ds) (hl : ds.length ≤ 100000) : EvD K (tTup ta) σ F H (.tuple ds) := fun F1 H1 e1 e2 e3 Q q =>
  ha F1 H1 e1 e2 e3 _ fun xs F2 H2 g2 hx => ⟨by rw [hx.length]; exact sz_of hl, fun p hp => q (.ref p) _ _ (g2.trans (Gr.new g2.fh hp)) (.tup (st_of upd_same) (hx.up (Ex.new (fresh_back g2.fh hp))))⟩
theorem d_lst {ta : TA} {ds : List D} (ha : EvDs K ta σ F H ds) (hl : ds.length ≤ 100000) : EvD K (tLst ta) σ F H (.list ds) := fun F1 H1 e1 e2 e3 Q q =>
  ha F1 H1 e1 e2 e3 _ fun xs F2 H2 g2 hx => ⟨by rw [hx.length]; exact sz_of hl, fun p hp => q (.ref p) _ _ (g2.trans (Gr.new g2.fh hp)) (.lst (sq_of upd_same) (hx.up (Ex.new (fresh_back g2.fh hp))))⟩
theorem d_sl {R : D → Option Int → Option Int → D → Prop} {tl th : TO} {lo hi : Option Int} (ha : EvD K te σ F H d) (h1 : EvI K tl σ F H lo) (h2 : EvI K th σ F H hi) (hr : R d lo hi r) : EvD K (tSl (rDs K R) te tl th) σ F H r := fun F1 H1 e1 e2 e3 Q q =>
  ha F1 H1 e1 e2 e3 _ fun x F2 H2 g2 hx => h1 F2 H2 (e1.trans g2.fx) (e2.trans g2.hx) g2.fh _ fun H3 x3 => h2 F2 H3 (e1.trans g2.fx) ((e2.trans g2.hx).trans x3) (g2.fh.trans x3) _ fun H4 x4 =>
    ⟨F2, d, r, (g2.fh.trans x3).trans x4, hx, hr, fun v F5 H5 g5 hv => q v F5 H5 (((g2.grow x3).grow x4).trans g5) hv⟩
theorem i_none : EvI K tNoPart σ F H none := fun _ H1 _ _ _ _ q => q H1 (Ex.refl H1)
theorem i_some {i : Int} (h : EvD K te σ F H (.int i)) : EvI K (tPart te) σ F H (some i) := fun F1 H1 e1 e2 e3 Q q =>
  h F1 H1 e1 e2 e3 _ fun v F2 H2 g hv => by
    cases hv
    exact ⟨i, rfl, q H2 g.hx⟩
/-! tests -/
theorem b_test (h : EvD K te σ F H (.bool b)) : EvB (tTest te) σ F H b := fun F1 H1 e1 e2 e3 Q q => h F1 H1 e1 e2 e3 _ fun v F2 H2 g hv => by
  cases hv
  exact ⟨b, rfl, q H2 g.hx⟩
theorem b_B (h : EvD K te σ F H (.bool b)) : EvB (tB te) σ F H b := fun F1 H1 e1 e2 e3 Q q => h F1 H1 e1 e2 e3 _ fun v F2 H2 g hv => by
  cases hv
  exact ⟨b, rfl, q H2 g.hx⟩
theorem b_var {i : Nat} (h : σ[i]? = some (some (.bl b))) : EvB (tB (tVar i)) σ F H b := fun _ H1 _ _ _ _ q => ⟨.bl b, h, b, rfl, q H1 (Ex.refl H1)⟩
theorem b_yes : EvB tYes σ F H true := fun _ H1 _ _ _ _ q => q H1 (Ex.refl H1)
theorem b_and {a b : Bool} (h1 : EvB t σ F H a) (h2 : a = true → EvB u σ F H b) : EvB (tAnd t u) σ F H (a && b) := fun F1 H1 e1 e2 e3 Q q => h1 F1 H1 e1 e2 e3 _ fun H2 g => by
  cases a with
  | true =>
    show u σ H2 Q
    exact h2 rfl F1 H2 e1 (e2.trans g) (e3.trans g) Q fun H3 k => q H3 (g.trans k)
  | false =>
    show Q false H2
    exact q H2 g
theorem b_or {a b : Bool} (h1 : EvB t σ F H a) (h2 : a = false → EvB u σ F H b) : EvB (tOr t u) σ F H (a || b) := fun F1 H1 e1 e2 e3 Q q => h1 F1 H1 e1 e2 e3 _ fun H2 g => by
  cases a with
  | true =>
    show Q true H2
    exact q H2 g
  | false =>
    show u σ H2 Q
    exact h2 rfl F1 H2 e1 (e2.trans g) (e3.trans g) Q fun H3 k => q H3 (g.trans k)
theorem b_not {a : Bool} (h1 : EvB t σ F H a) : EvB (tNot t) σ F H (!a) := fun F1 H1 e1 e2 e3 _ q => h1 F1 H1 e1 e2 e3 _ fun H2 g => q H2 g
theorem d_andV {a b : Bool} (h1 : EvD K ta σ F H (.bool a)) (h2 : a = true → EvD K tb σ F H (.bool b)) : EvD K (tAndV ta tb) σ F H (.bool (a && b)) := fun F1 H1 e1 e2 e3 Q q => h1 F1 H1 e1 e2 e3 _ fun v F2 H2 g hv => by
  cases hv
  refine ⟨a, rfl, ?_⟩
  cases a with
  | true =>
    show tb σ H2 Q
    exact h2 rfl F2 H2 (e1.trans g.fx) (e2.trans g.hx) g.fh Q fun v F3 H3 g3 hv => q v F3 H3 (g.trans g3) hv
  | false =>
    show Q (.bl false) H2
    exact q _ F2 H2 g (.bl _)
theorem d_orV {a b : Bool} (h1 : EvD K ta σ F H (.bool a)) (h2 : a = false → EvD K tb σ F H (.bool b)) : EvD K (tOrV ta tb) σ F H (.bool (a || b)) := fun F1 H1 e1 e2 e3 Q q => h1 F1 H1 e1 e2 e3 _ fun v F2 H2 g hv => by
  cases hv
  refine ⟨a, rfl, ?_⟩
  cases a with
  | true =>
    show Q (.bl true) H2
    exact q _ F2 H2 g (.bl _)
  | false =>
    show tb σ H2 Q
    exact h2 rfl F2 H2 (e1.trans g.fx) (e2.trans g.hx) g.fh Q fun v F3 H3 g3 hv => q v F3 H3 (g.trans g3) hv
theorem d_notV {a : Bool} (h1 : EvD K ta σ F H (.bool a)) : EvD K (tNotV ta) σ F H (.bool (!a)) := fun F1 H1 e1 e2 e3 Q q => h1 F1 H1 e1 e2 e3 _ fun v F2 H2 g hv => by
  cases hv
  exact ⟨a, rfl, q _ F2 H2 g (.bl _)⟩
theorem d_if (h : EvB t σ F H b) (h1 : b = true → EvD K ta σ F H d) (h2 : b = false → EvD K tb σ F H d) : EvD K (tIf t ta tb) σ F H d := fun F1 H1 e1 e2 e3 Q q => h F1 H1 e1 e2 e3 _ fun H2 g => by
  cases b with
  | true =>
    show ta σ H2 Q
    exact h1 rfl F1 H2 e1 (e2.trans g) (e3.trans g) Q fun v F3 H3 g3 hv => q v F3 H3 ⟨g3.fx, g.trans g3.hx, g3.fh, fun p hp => g3.old p (ex_nn g hp)⟩ hv
  | false =>
    show tb σ H2 Q
    exact h2 rfl F1 H2 e1 (e2.trans g) (e3.trans g) Q fun v F3 H3 g3 hv => q v F3 H3 ⟨g3.fx, g.trans g3.hx, g3.fh, fun p hp => g3.old p (ex_nn g hp)⟩ hv
/-- a < b < c -/
theorem d_chain {R R' : D → D → D → Prop} {tc : TE} {f : D} {p q : Bool} (ha : EvD K ta σ F H d) (hb : EvD K tb σ F H e) (hr : R d e (.bool p)) (h2 : p = true → EvD K tc σ F H f) (h3 : p = true → R' e f (.bool q)) :
    EvD K (tChain (rD2 K R) (rD2 K R') ta tb tc) σ F H (.bool (p && q)) := fun F1 H1 e1 e2 e3 Q k =>
  ha F1 H1 e1 e2 e3 _ fun x F2 H2 g2 hx => hb F2 H2 (e1.trans g2.fx) (e2.trans g2.hx) g2.fh _ fun y F3 H3 g3 hy =>
    ⟨F3, d, e, .bool p, g3.fh, hx.up g3.fx, hy, hr, fun v F4 H4 g4 hv => by
      cases hv
      refine ⟨p, rfl, ?_⟩
      have g := (g2.trans g3).trans g4
      cases p with
      | false =>
        show Q (.bl false) H4
        exact k _ F4 H4 g (.bl _)
      | true =>
        refine h2 rfl F4 H4 (e1.trans g.fx) (e2.trans g.hx) g.fh _ fun w F5 H5 g5 hw => ?_
        exact ⟨F5, e, f, .bool q, g5.fh, hy.up (g4.fx.trans g5.fx), hw, h3 rfl, fun v F6 H6 g6 hv => k v F6 H6 ((g.trans g5).trans g6) hv⟩⟩
end
end Ly
/-! LyB: Python's operations as relations of data. -/
namespace Ly
open PySem L2 Evl
/-! ### answers -/
section
variable {K : Fg} {F H : Hp} {d r : D} {Q : VK} {v : V}
theorem Ans.sc (q : Ans K F H r Q) (fh : Ex F H) (h : scV r = some v) : Q v H := q v F H (Gr.refl fh) (scV_dp h)
theorem Ans.dp (q : Ans K F H r Q) (fh : Ex F H) (h : Dp K F v r) : Q v H := q v F H (Gr.refl fh) h
theorem Ans.tup (q : Ans K F H (.tuple ds) Q) (fh : Ex F H) {vs : List V} (h : DpAll K F vs ds) {p : Addr} (hp : H p = none) : Q (.ref p) (upd H p (.tup vs)) :=
  q _ _ _ (Gr.new fh hp) (.tup (st_of upd_same) (h.up (Ex.new (fresh_back fh hp))))
theorem Ans.lst (q : Ans K F H (.list ds) Q) (fh : Ex F H) {vs : List V} (h : DpAll K F vs ds) {p : Addr} (hp : H p = none) : Q (.ref p) (upd H p (.lst vs)) :=
  q _ _ _ (Gr.new fh hp) (.lst (sq_of upd_same) (h.up (Ex.new (fresh_back fh hp))))
end
/-! ### numbers -/
inductive AddD : D → D → D → Prop
  | int (i j : Int) : AddD (.int i) (.int j) (.int (i + j))
  | str (x y : Str) (h : x.length + y.length ≤ 100000) : AddD (.str x) (.str y) (.str (x ++ y))
  | tup (xs ys : List D) (h : xs.length + ys.length ≤ 100000) : AddD (.tuple xs) (.tuple ys) (.tuple (xs ++ ys))
  | list (xs ys : List D) (h : xs.length + ys.length ≤ 100000) : AddD (.list xs) (.list ys) (.list (xs ++ ys))
inductive SubD : D → D → D → Prop
  | int (i j : Int) : SubD (.int i) (.int j) (.int (i - j))
inductive MulD : D → D → D → Prop
  | int (i j : Int) (h : CMul i j) : MulD (.int i) (.int j) (.int (i * j))
  | intW (i j : Int) (h : CMulX i j) : MulD (.int i) (.int j) (.int (i * j))
inductive DivD : D → D → D → Prop
  | int (i j : Int) (h : 0 < j ∧ j < 1073741824) : DivD (.int i) (.int j) (.int (i / j))
  | intW (i j : Int) (h : CDivW i j) : DivD (.int i) (.int j) (.int (i / j))
inductive ModD : D → D → D → Prop
  | int (i j : Int) (h : 0 < j) : ModD (.int i) (.int j) (.int (i % j))
inductive PowD : D → D → D → Prop
  | int (i j : Int) (h : CPow i j) : PowD (.int i) (.int j) (.int (i ^ j.toNat))
inductive ShrD : D → D → D → Prop
  | int (i j : Int) (h : 0 ≤ j) : ShrD (.int i) (.int j) (.int (i / 2 ^ j.toNat))
inductive BandD : D → D → D → Prop
  | m31 (i : Int) : BandD (.int i) (.int 2147483647) (.int (i % 2147483648))
inductive LtD : D → D → D → Prop
  | int (i j : Int) : LtD (.int i) (.int j) (.bool (decide (i < j)))
inductive LeD : D → D → D → Prop
  | int (i j : Int) : LeD (.int i) (.int j) (.bool (decide (i ≤ j)))
  | tup (ns ms : List Int) : LeD (.tuple (ns.map PyData.int)) (.tuple (ms.map PyData.int))
      (.bool (Ob.lexAt (fun j => decide (ns.getD j 0 = ms.getD j 0)) (fun j => decide (ns.getD j 0 ≤ ms.getD j 0)) (decide (ns.length ≤ ms.length)) 0 (min ns.length ms.length)))
inductive GtD : D → D → D → Prop
  | int (i j : Int) : GtD (.int i) (.int j) (.bool (decide (j < i)))
inductive GeD : D → D → D → Prop
  | int (i j : Int) : GeD (.int i) (.int j) (.bool (decide (j ≤ i)))
inductive NegD : D → D → Prop
  | int (i : Int) : NegD (.int i) (.int (-i))
/-! ### == -/
inductive EqD : D → D → D → Prop
  | int (i j : Int) : EqD (.int i) (.int j) (.bool (decide (i = j)))
  | str (x y : Str) : EqD (.str x) (.str y) (.bool (decide (x = y)))
  | bool (x y : Bool) : EqD (.bool x) (.bool y) (.bool (decide (x = y)))
  | gen (d e : D) (h : SeqAt.shaped d = true) (h' : SeqAt.shaped e = true) : EqD d e (.bool (PyData.eqv d e))
inductive NeD : D → D → D → Prop
  | int (i j : Int) : NeD (.int i) (.int j) (.bool (!decide (i = j)))
  | str (x y : Str) : NeD (.str x) (.str y) (.bool (!decide (x = y)))
  | bool (x y : Bool) : NeD (.bool x) (.bool y) (.bool (!decide (x = y)))
  | gen (d e : D) (h : SeqAt.shaped d = true) (h' : SeqAt.shaped e = true) : NeD d e (.bool (!PyData.eqv d e))
/-! ### is -/
def isNon : D → Bool
  | .none => true
  | _ => false
def isBit : D → Bool → Bool
  | .bool a, b => decide (a = b)
  | _, _ => false
inductive IsD : D → D → D → Prop
  | non (d : D) : IsD d .none (.bool (isNon d))
  | bool (x y : Bool) : IsD (.bool x) (.bool y) (.bool (decide (x = y)))
  | bit (d : D) (y : Bool) : IsD d (.bool y) (.bool (isBit d y))
inductive NisD : D → D → D → Prop
  | non (d : D) : NisD d .none (.bool (!isNon d))
  | bool (x y : Bool) : NisD (.bool x) (.bool y) (.bool (!decide (x = y)))
  | bit (d : D) (y : Bool) : NisD d (.bool y) (.bool (!isBit d y))
/-! ### in -/
inductive InD : D → D → D → Prop
  | sign (c : Nat) (z : Str) : InD (.str ⟨#[c]⟩) (.str z) (.bool (decide (c ∈ z.cps.toList)))
  | list (d : D) (ds : List D) (h : SeqAt.shaped d = true) (h' : SeqAt.shaped (.list ds) = true) : InD d (.list ds) (.bool (ds.any fun z => PyData.eqv z d))
inductive NinD : D → D → D → Prop
  | sign (c : Nat) (z : Str) : NinD (.str ⟨#[c]⟩) (.str z) (.bool (!decide (c ∈ z.cps.toList)))
  | list (d : D) (ds : List D) (h : SeqAt.shaped d = true) (h' : SeqAt.shaped (.list ds) = true) : NinD d (.list ds) (.bool (!ds.any fun z => PyData.eqv z d))
/-! ### items, slices -/
inductive IxD : D → D → D → Prop
  | list (ds : List D) (i : Int) (d : D) (h : atI ds i = some d) : IxD (.list ds) (.int i) d
  | tup (ds : List D) (i : Int) (d : D) (h : atI ds i = some d) : IxD (.tuple ds) (.int i) d
  | str (z : Str) (i : Int) (c : Nat) (h : z.length ≤ 100000) (h' : atI z.cps.toList i = some c) : IxD (.str z) (.int i) (.str ⟨#[c]⟩)
def cutD (xs : List D) (lo hi : Option Int) : List D := (xs.drop (HT.sIx xs.length 0 lo)).take (HT.sIx xs.length xs.length hi - HT.sIx xs.length 0 lo)
inductive SlD : D → Option Int → Option Int → D → Prop
  | list (ds : List D) (lo hi : Option Int) : SlD (.list ds) lo hi (.list (cutD ds lo hi))
  | tup (ds : List D) (lo hi : Option Int) : SlD (.tuple ds) lo hi (.tuple (cutD ds lo hi))
  | str (z : Str) (lo hi : Option Int) (h : z.length ≤ 100000) : SlD (.str z) lo hi (.str (cutS z lo hi))
/-! ### calls of built-ins -/
inductive LenD : List D → D → Prop
  | list (ds : List D) : LenD [.list ds] (.int (ds.length : Nat))
  | tup (ds : List D) : LenD [.tuple ds] (.int (ds.length : Nat))
  | str (z : Str) (h : z.length ≤ 100000) : LenD [.str z] (.int (z.length : Nat))
inductive MaxD : List D → D → Prop
  | int (i j : Int) : MaxD [.int i, .int j] (.int (max i j))
inductive MinD : List D → D → Prop
  | int (i j : Int) : MinD [.int i, .int j] (.int (min i j))
inductive IntD : List D → D → Prop
  | bool (b : Bool) : IntD [.bool b] (.int (if b then 1 else 0))
inductive TupleD : List D → D → Prop
  | list (ds : List D) : TupleD [.list ds] (.tuple ds)
inductive ListD : List D → D → Prop
  | list (ds : List D) : ListD [.list ds] (.list ds)
  | tup (ds : List D) : ListD [.tuple ds] (.list ds)
inductive AllD : List D → D → Prop
  | list (bs : List Bool) : AllD [.list (bs.map PyData.bool)] (.bool (bs.all id))
inductive AnyD : List D → D → Prop
  | list (bs : List Bool) : AnyD [.list (bs.map PyData.bool)] (.bool (bs.any id))
inductive SumD : List D → D → Prop
  | list (ns : List Int) : SumD [.list (ns.map PyData.int)] (.int ns.sum)
inductive DivmodD : List D → D → Prop
  | int (i j : Int) (h : CDiv i j) : DivmodD [.int i, .int j] (.tuple [.int (i / j), .int (i % j)])
/-- the name of a datum's type -/
def tyN : D → String
  | .none => "NoneType"
  | .bool _ => "bool"
  | .int _ => "int"
  | .str _ => "str"
  | .list _ => "list"
  | .tuple _ => "tuple"
  | .dict _ => "dict"
section
variable {K : Fg} {F H : Hp} {v : V} {d : D}
theorem dp_ty (h : Dp K F v d) : TyX K F v (.type (tyN d)) := by
  cases h with
  | non => exact .base .non
  | bl b => exact .base (.bl b)
  | int i => exact .base (.int i)
  | str x => exact .base (.str x)
  | lst hs _ =>
    rcases hs with (e | ⟨o, e⟩) | ⟨o, its, n, e, c, _⟩
    · exact .base (.lst e)
    · exact .base (.frz e)
    · exact .kList e c
  | tup hs _ =>
    rcases hs with (e | ⟨o, e⟩) | ⟨o, its, n, e, c, _⟩
    · exact .base (.tup e)
    · exact .fTuple e
    · exact .kTuple e c
theorem tyV_str {z : Str} (h : Dp K F v (.str z)) : tyV K "str" v H := by
  cases h
  exact rfl
theorem tyV_list {ds : List D} (h : Dp K F v (.list ds)) (e : Ex F H) : tyV K "list" v H := by
  have h := h.up e
  cases h with
  | lst hs _ => exact .inl ⟨rfl, _, hs⟩
end
theorem atI_map {α β : Type} {xs : List α} {i : Int} {a : α} (h : atI xs i = some a) : ∃ j : Nat, ixN xs.length i = some j ∧ xs[j]? = some a := by
  unfold atI at h
  cases e : ixN xs.length i with
  | none => rw [e] at h; cases h
  | some j => rw [e] at h; exact ⟨j, rfl, h⟩
theorem dps_at {K : Fg} {F : Hp} {vs : List V} {ds : List D} {i : Int} {d : D} (ha : DpAll K F vs ds) (h : atI ds i = some d) : ∃ v, atI vs i = some v ∧ Dp K F v d := by
  obtain ⟨j, e1, e2⟩ := atI_map (β := D) h
  obtain ⟨v, e3, hv⟩ := ha.get e2
  refine ⟨v, ?_, hv⟩
  unfold atI
  rw [ha.length, e1]
  exact e3
theorem dps_cut {K : Fg} {F : Hp} {vs : List V} {ds : List D} (lo hi : Option Int) (ha : DpAll K F vs ds) : DpAll K F (cutV vs lo hi) (cutD ds lo hi) := by
  unfold cutV cutD
  rw [ha.length]
  exact (ha.drop _).take _
theorem int_max {i j : Int} : (if j > i then j else i) = max i j := by
  have := Int.max_def i j
  by_cases h : j > i
  · rw [if_pos h]; omega
  · rw [if_neg h]; omega
theorem int_min {i j : Int} : (if j < i then j else i) = min i j := by
  have := Int.min_def i j
  by_cases h : j < i
  · rw [if_pos h]; omega
  · rw [if_neg h]; omega
section
variable {X : Cx}
theorem op2_of {op : Value → Value → Sem Value} {r : R2} {R : D → D → D → Prop} (h : OpR X op r)
    (hr : ∀ F H x y d e z Q, Ex F H → Dp X.K F x d → Dp X.K F y e → R d e z → Ans X.K F H z Q → r x y H Q) : OpR X op (rD2 X.K R) :=
  fun pins s σ H x y v u Q I rx ry ⟨F, d, e, z, fh, hx, hy, hR, q⟩ => h pins s σ H x y v u Q I rx ry (hr F H x y d e z Q fh hx hy hR q)
/-- list + list -/
def rCatL (K : Fg) : R2 := fun x y H Q => ∃ l b xs zs, x = .ref l ∧ y = .ref b ∧ SqL K H l xs ∧ SqL K H b zs ∧ xs.length + zs.length ≤ sizeLine ∧ ∀ p, H p = none → Q (.ref p) (upd H p (.lst (xs ++ zs)))
theorem op_catL : OpR X (binaryOp .Add) (rCatL X.K) := by
  intro pins s σ H x y v u Q I rx ry h
  obtain ⟨l, b, xs, zs, rfl, rfl, hH, hB, hz, q⟩ := h
  cases rx
  cases ry
  obtain ⟨its, r, p1, _⟩ := I.list hH
  obtain ⟨its2, r2, p2, _⟩ := I.list hB
  obtain ⟨⟨cls, dd, data, sl⟩, ho, hc, n, hd⟩ := p1.isList
  obtain ⟨⟨cls2, dd2, data2, sl2⟩, ho2, hc2, n2, hd2⟩ := p2.isList
  simp only at hc hd hc2 hd2
  subst hc hd hc2 hd2
  have e : its.toArray ++ its2.toArray = (its ++ its2).toArray := by simp
  have hl1 := r.length
  have hl2 := r2.length
  refine PySem.concat_meets ⟨_, ho, rfl⟩ ⟨_, ho2, rfl⟩ noFill_list_add seq_list_add PySem.F.slot_list_add PySem.F.entry_list_add (PySem.F.args_list_add_2 _ _) (PyProof.Rows.list_addW l b its.toArray its2.toArray n n2 dd dd2 sl sl2 (by rw [List.size_toArray, List.size_toArray, ← hl1, ← hl2]; exact hz)) ⟨ho, ho2, ?_⟩
  rw [e]
  exact ⟨.ref _, _, I.lnew (t' := s.toks) (r.append r2) (by rw [List.length_append]; omega), rfl, q _ I.fresh⟩
theorem oAdd : OpR X (binaryOp .Add) (rD2 X.K AddD) := by
  refine op2_of (op_add.or (op_add_str.or (op_catA.or op_catL))) fun F H x y d e z Q fh hx hy hR q => ?_
  cases hR with
  | int i j => cases hx; cases hy; exact .inl ⟨i, j, rfl, rfl, q.sc fh rfl⟩
  | str a b h => cases hx; cases hy; exact .inr (.inl ⟨a, b, rfl, rfl, sz_of h, q.sc fh rfl⟩)
  | tup as bs h =>
    cases hx with
    | tup s1 a1 =>
      cases hy with
      | tup s2 a2 =>
        refine .inr (.inr (.inl ⟨_, _, _, _, rfl, rfl, ex_t fh s1, ex_t fh s2, by rw [a1.length, a2.length]; exact sz_of h, fun e => ?_, fun _ e => ?_, fun _ _ p hp => q.tup fh (a1.append a2) hp⟩))
        · subst e; cases a1; exact q.dp fh (.tup s2 a2)
        · subst e; cases a2; rw [List.append_nil] at q; exact q.dp fh (.tup s1 a1)
  | list as bs h =>
    cases hx with
    | lst s1 a1 =>
      cases hy with
      | lst s2 a2 => exact .inr (.inr (.inr ⟨_, _, _, _, rfl, rfl, ex_l fh s1, ex_l fh s2, by rw [a1.length, a2.length]; exact sz_of h, fun p hp => q.lst fh (a1.append a2) hp⟩))
theorem oSub : OpR X (binaryOp .Sub) (rD2 X.K SubD) := by
  refine op2_of op_sub fun F H x y d e z Q fh hx hy hR q => ?_
  cases hR with
  | int i j => cases hx; cases hy; exact ⟨i, j, rfl, rfl, q.sc fh rfl⟩
theorem oMul : OpR X (binaryOp .Mult) (rD2 X.K MulD) := by
  refine op2_of (op_mul.or op_mulX) fun F H x y d e z Q fh hx hy hR q => ?_
  cases hR with
  | int i j h => cases hx; cases hy; exact .inl ⟨i, j, rfl, rfl, h, q.sc fh rfl⟩
  | intW i j h => cases hx; cases hy; exact .inr ⟨i, j, rfl, rfl, h, q.sc fh rfl⟩
theorem oDiv : OpR X (binaryOp .FloorDiv) (rD2 X.K DivD) := by
  refine op2_of (op_fdiv.or op_fdivW) fun F H x y d e z Q fh hx hy hR q => ?_
  cases hR with
  | int i j h => cases hx; cases hy; exact .inl ⟨i, j, rfl, rfl, h, q.sc fh rfl⟩
  | intW i j h => cases hx; cases hy; exact .inr ⟨i, j, rfl, rfl, h, q.sc fh rfl⟩
theorem oMod : OpR X (binaryOp .Mod) (rD2 X.K ModD) := by
  refine op2_of op_mod fun F H x y d e z Q fh hx hy hR q => ?_
  cases hR with
  | int i j h => cases hx; cases hy; exact ⟨i, j, rfl, rfl, h, q.sc fh rfl⟩
theorem oPow : OpR X (binaryOp .Pow) (rD2 X.K PowD) := by
  refine op2_of op_pow fun F H x y d e z Q fh hx hy hR q => ?_
  cases hR with
  | int i j h => cases hx; cases hy; exact ⟨i, j, rfl, rfl, h, q.sc fh rfl⟩
theorem oShr : OpR X (binaryOp .RShift) (rD2 X.K ShrD) := by
  refine op2_of op_shr fun F H x y d e z Q fh hx hy hR q => ?_
  cases hR with
  | int i j h => cases hx; cases hy; exact ⟨i, j, rfl, rfl, h, q.sc fh rfl⟩
theorem oBand : OpR X (binaryOp .BitAnd) (rD2 X.K BandD) := by
  refine op2_of op_andM fun F H x y d e z Q fh hx hy hR q => ?_
  cases hR with
  | m31 i => cases hx; cases hy; exact ⟨i, 31, rfl, by decide, q.sc fh rfl⟩
theorem oLt : OpR X (compareOp .Lt) (rD2 X.K LtD) := by
  refine op2_of op_lt fun F H x y d e z Q fh hx hy hR q => ?_
  cases hR with
  | int i j => cases hx; cases hy; exact ⟨i, j, rfl, rfl, q.sc fh rfl⟩
theorem oGt : OpR X (compareOp .Gt) (rD2 X.K GtD) := by
  refine op2_of op_gt fun F H x y d e z Q fh hx hy hR q => ?_
  cases hR with
  | int i j => cases hx; cases hy; exact ⟨i, j, rfl, rfl, q.sc fh rfl⟩
theorem oGe : OpR X (compareOp .GtE) (rD2 X.K GeD) := by
  refine op2_of op_ge fun F H x y d e z Q fh hx hy hR q => ?_
  cases hR with
  | int i j => cases hx; cases hy; exact ⟨i, j, rfl, rfl, q.sc fh rfl⟩
theorem oLe (hu : X.A.units < cLine) : OpR X (compareOp .LtE) (rD2 X.K LeD) := by
  refine op2_of (op_le.or (op_leT hu)) fun F H x y d e z Q fh hx hy hR q => ?_
  cases hR with
  | int i j => cases hx; cases hy; exact .inl ⟨i, j, rfl, rfl, q.sc fh rfl⟩
  | tup ns ms =>
    cases hx with
    | tup s1 a1 =>
      cases hy with
      | tup s2 a2 =>
        have e1 := dps_ints_inv ns a1
        have e2 := dps_ints_inv ms a2
        subst e1 e2
        exact .inr ⟨_, _, ns, ms, rfl, rfl, ex_t fh s1, ex_t fh s2, q.sc fh rfl⟩
theorem oNeg : UnR X (unaryOp .USub) (rD1 X.K NegD) := fun pins s σ H x v Q I rx ⟨F, d, z, fh, hx, hR, q⟩ => by
  cases hR with
  | int i => cases hx; exact un_neg pins s σ H _ v Q I rx ⟨i, rfl, q.sc fh rfl⟩
theorem oEq (hu : X.A.units + 64 < cLine) : OpR X (compareOp .Eq) (rD2 X.K EqD) := by
  refine op2_of (op_eq.or (op_eqD hu)) fun F H x y d e z Q fh hx hy hR q => ?_
  cases hR with
  | int i j =>
    cases hx; cases hy
    refine .inl ⟨rfl, ?_⟩
    have w : decide (V.int i = V.int j) = decide (i = j) := by simp
    rw [w]; exact q.sc fh rfl
  | str i j =>
    cases hx; cases hy
    refine .inl ⟨rfl, ?_⟩
    have w : decide (V.str i = V.str j) = decide (i = j) := by simp
    rw [w]; exact q.sc fh rfl
  | bool i j =>
    cases hx; cases hy
    refine .inl ⟨rfl, ?_⟩
    have w : decide (V.bl i = V.bl j) = decide (i = j) := by simp
    rw [w]; exact q.sc fh rfl
  | gen d e h h' => exact .inr ⟨d, e, hx.up fh, hy.up fh, h, h', q.sc fh rfl⟩
theorem oNe (hu : X.A.units + 64 < cLine) : OpR X (compareOp .NotEq) (rD2 X.K NeD) := by
  refine op2_of (op_ne.or (op_neD hu)) fun F H x y d e z Q fh hx hy hR q => ?_
  cases hR with
  | int i j =>
    cases hx; cases hy
    refine .inl ⟨rfl, ?_⟩
    have w : decide (V.int i = V.int j) = decide (i = j) := by simp
    rw [w]; exact q.sc fh rfl
  | str i j =>
    cases hx; cases hy
    refine .inl ⟨rfl, ?_⟩
    have w : decide (V.str i = V.str j) = decide (i = j) := by simp
    rw [w]; exact q.sc fh rfl
  | bool i j =>
    cases hx; cases hy
    refine .inl ⟨rfl, ?_⟩
    have w : decide (V.bl i = V.bl j) = decide (i = j) := by simp
    rw [w]; exact q.sc fh rfl
  | gen d e h h' => exact .inr ⟨d, e, hx.up fh, hy.up fh, h, h', q.sc fh rfl⟩
theorem dp_non {K : Fg} {F : Hp} {v : V} {d : D} (h : Dp K F v d) : decide (v = .non) = isNon d := by
  cases h <;> (unfold isNon; simp)
def bitV (x : V) (b r : Bool) : Prop := match x with
  | .bl a => r = decide (a = b)
  | .int _ => r = false
  | .str _ => r = false
  | .non => r = false
  | .ref _ => r = false
  | _ => False
theorem dp_bit {K : Fg} {F : Hp} {v : V} {d : D} (h : Dp K F v d) (b : Bool) : bitV v b (isBit d b) := by
  cases h <;> exact rfl
theorem op_is_bit : OpR X (compareOp .Is) (fun x y H Q => ∃ b r, y = .bl b ∧ bitV x b r ∧ Q (.bl r) H) := by
  intro pins s σ H x y v u Q I rx ry h
  obtain ⟨b, r, rfl, hb, q⟩ := h
  cases x with
  | bl a =>
    cases (show r = decide (a = b) from hb)
    exact op_is_bl pins s σ H _ _ v u Q I rx ry ⟨a, b, rfl, rfl, q⟩
  | int i => obtain ⟨t, rfl⟩ := rx; cases (show u = Value.bool b from ry); cases (show r = false from hb); exact wpAny_is_other rfl (fun z => nomatch z) ⟨.bl false, H, I, rfl, q⟩
  | str i => obtain ⟨t, rfl⟩ := rx; cases (show u = Value.bool b from ry); cases (show r = false from hb); exact wpAny_is_other rfl (fun z => nomatch z) ⟨.bl false, H, I, rfl, q⟩
  | non => cases rx; cases (show u = Value.bool b from ry); cases (show r = false from hb); exact wpAny_is_other rfl (fun z => nomatch z) ⟨.bl false, H, I, rfl, q⟩
  | ref i => cases rx; cases (show u = Value.bool b from ry); cases (show r = false from hb); exact wpAny_is_other rfl (fun z => nomatch z) ⟨.bl false, H, I, rfl, q⟩
  | _ => exact hb.elim
theorem op_isnot_bit : OpR X (compareOp .IsNot) (fun x y H Q => ∃ b r, y = .bl b ∧ bitV x b r ∧ Q (.bl (!r)) H) := by
  intro pins s σ H x y v u Q I rx ry h
  obtain ⟨b, r, rfl, hb, q⟩ := h
  cases x with
  | bl a =>
    cases (show r = decide (a = b) from hb)
    exact op_isnot_bl pins s σ H _ _ v u Q I rx ry ⟨a, b, rfl, rfl, q⟩
  | int i => obtain ⟨t, rfl⟩ := rx; cases (show u = Value.bool b from ry); cases (show r = false from hb); exact wpAny_isNot_other rfl (fun z => nomatch z) ⟨.bl true, H, I, rfl, q⟩
  | str i => obtain ⟨t, rfl⟩ := rx; cases (show u = Value.bool b from ry); cases (show r = false from hb); exact wpAny_isNot_other rfl (fun z => nomatch z) ⟨.bl true, H, I, rfl, q⟩
  | non => cases rx; cases (show u = Value.bool b from ry); cases (show r = false from hb); exact wpAny_isNot_other rfl (fun z => nomatch z) ⟨.bl true, H, I, rfl, q⟩
  | ref i => cases rx; cases (show u = Value.bool b from ry); cases (show r = false from hb); exact wpAny_isNot_other rfl (fun z => nomatch z) ⟨.bl true, H, I, rfl, q⟩
  | _ => exact hb.elim
theorem oIs : OpR X (compareOp .Is) (rD2 X.K IsD) := by
  refine op2_of (op_isN.or (op_is_bl.or op_is_bit)) fun F H x y d e z Q fh hx hy hR q => ?_
  cases hR with
  | non d =>
    cases hy
    refine .inl ⟨rfl, ?_⟩
    rw [dp_non hx]; exact q.sc fh rfl
  | bool i j => cases hx; cases hy; exact .inr (.inl ⟨i, j, rfl, rfl, q.sc fh rfl⟩)
  | bit d b => cases hy; exact .inr (.inr ⟨b, _, rfl, dp_bit hx b, q.sc fh rfl⟩)
theorem oNis : OpR X (compareOp .IsNot) (rD2 X.K NisD) := by
  refine op2_of (op_notN.or (op_isnot_bl.or op_isnot_bit)) fun F H x y d e z Q fh hx hy hR q => ?_
  cases hR with
  | non d =>
    cases hy
    refine .inl ⟨rfl, ?_⟩
    rw [dp_non hx]; exact q.sc fh rfl
  | bool i j => cases hx; cases hy; exact .inr (.inl ⟨i, j, rfl, rfl, q.sc fh rfl⟩)
  | bit d b => cases hy; exact .inr (.inr ⟨b, _, rfl, dp_bit hx b, q.sc fh rfl⟩)
theorem oIn (hu : X.A.units + 65 < cLine) : OpR X (compareOp .In) (rD2 X.K InD) := by
  refine op2_of (op_in_sign.or (op_inD hu)) fun F H x y d e z Q fh hx hy hR q => ?_
  cases hR with
  | sign c z => cases hx; cases hy; exact .inl ⟨c, z, rfl, rfl, q.sc fh rfl⟩
  | list d ds h h' => exact .inr ⟨d, ds, hx.up fh, hy.up fh, h, h', q.sc fh rfl⟩
theorem oNin (hu : X.A.units + 65 < cLine) : OpR X (compareOp .NotIn) (rD2 X.K NinD) := by
  refine op2_of (op_notIn_sign.or (op_notInD hu)) fun F H x y d e z Q fh hx hy hR q => ?_
  cases hR with
  | sign c z => cases hx; cases hy; exact .inl ⟨c, z, rfl, rfl, q.sc fh rfl⟩
  | list d ds h h' => exact .inr ⟨d, ds, hx.up fh, hy.up fh, h, h', q.sc fh rfl⟩
theorem oIx : IxR X (rD2 X.K IxD) := by
  rintro va sl pins s σ H x y v u Q I rx ry ⟨F, d, e, z, fh, hx, hy, hR, q⟩ hs
  refine ix_seq va sl pins s σ H x y v u Q I rx ry ?_ hs
  cases hR with
  | list ds i d h =>
    cases hy
    cases hx with
    | lst s1 a1 =>
      obtain ⟨w, e1, hw⟩ := dps_at a1 h
      exact .inl ⟨_, _, i, w, rfl, rfl, ex_l fh s1, e1, q.dp fh hw⟩
  | tup ds i d h =>
    cases hy
    cases hx with
    | tup s1 a1 =>
      obtain ⟨w, e1, hw⟩ := dps_at a1 h
      exact .inr (.inl ⟨_, _, i, w, rfl, rfl, ex_t fh s1, e1, q.dp fh hw⟩)
  | str z i c h h' =>
    cases hy
    cases hx
    exact .inr (.inr ⟨z, i, c, rfl, rfl, sz_of h, h', q.sc fh rfl⟩)
theorem oSl : SlR X (rDs X.K SlD) := by
  rintro pins s σ H x v vl vu lo hi sl Q I rx hs pl pu ⟨F, d, z, fh, hx, hR, q⟩
  refine (sl_list.or (sl_tupA.or sl_str)) pins s σ H x v vl vu lo hi sl Q I rx hs pl pu ?_
  cases hR with
  | list ds lo hi =>
    cases hx with
    | lst s1 a1 => exact .inl ⟨_, _, rfl, ex_l fh s1, fun p hp => q.lst fh (dps_cut lo hi a1) hp⟩
  | tup ds lo hi =>
    cases hx with
    | tup s1 a1 =>
      refine .inr (.inl ⟨_, _, rfl, ex_t fh s1, fun hw => ?_, fun _ p hp => q.tup fh (dps_cut lo hi a1) hp⟩)
      have ec : cutD ds lo hi = ds := by
        unfold cutD
        rw [← a1.length, hw.1, hw.2]
        rw [a1.length]
        simp
      rw [ec] at q
      exact q.dp fh (.tup s1 a1)
  | str z lo hi h =>
    cases hx
    exact .inr (.inr ⟨z, rfl, sz_of h, q.sc fh rfl⟩)
/-! calls -/
theorem cn_of {f : Value} {r : List V → Hp → VK → Prop} {R : List D → D → Prop} (h : CallR X f r)
    (hr : ∀ F H xs ds z Q, Ex F H → DpAll X.K F xs ds → R ds z → Ans X.K F H z Q → r xs H Q) : CallR X f (rDn X.K R) :=
  fun pins s σ H xs us Q I rx ⟨F, ds, z, fh, hx, hR, q⟩ => h pins s σ H xs us Q I rx (hr F H xs ds z Q fh hx hR q)
theorem dps1 {K : Fg} {F : Hp} {vs : List V} {d : D} (h : DpAll K F vs [d]) : ∃ v, vs = [v] ∧ Dp K F v d := by
  cases h with
  | cons h1 h2 => cases h2; exact ⟨_, rfl, h1⟩
theorem dps2 {K : Fg} {F : Hp} {vs : List V} {d e : D} (h : DpAll K F vs [d, e]) : ∃ v w, vs = [v, w] ∧ Dp K F v d ∧ Dp K F w e := by
  cases h with
  | cons h1 h2 =>
    obtain ⟨w, rfl, hw⟩ := dps1 h2
    exact ⟨_, _, rfl, h1, hw⟩
theorem cLen : CallR X (.builtin "len") (rDn X.K LenD) := by
  refine cn_of (call_len_seq.or call_len_str) fun F H xs ds z Q fh hx hR q => ?_
  cases hR with
  | list ds =>
    obtain ⟨v, rfl, hv⟩ := dps1 hx
    cases hv with
    | lst s1 a1 =>
      refine .inl ⟨_, _, rfl, .inl (ex_l fh s1), ?_⟩
      rw [a1.length]; exact q.sc fh rfl
  | tup ds =>
    obtain ⟨v, rfl, hv⟩ := dps1 hx
    cases hv with
    | tup s1 a1 =>
      refine .inl ⟨_, _, rfl, .inr (ex_t fh s1), ?_⟩
      rw [a1.length]; exact q.sc fh rfl
  | str z h =>
    obtain ⟨v, rfl, hv⟩ := dps1 hx
    cases hv
    exact .inr ⟨z, rfl, sz_of h, q.sc fh rfl⟩
theorem cMax (hc : X.calm = true) : CallR X (.builtin "max") (rDn X.K MaxD) := by
  refine cn_of (call_max2 hc) fun F H xs ds z Q fh hx hR q => ?_
  cases hR with
  | int i j =>
    obtain ⟨v, w, rfl, hv, hw⟩ := dps2 hx
    cases hv; cases hw
    refine ⟨i, j, rfl, ?_⟩
    rw [int_max]; exact q.sc fh rfl
theorem cMin (hc : X.calm = true) : CallR X (.builtin "min") (rDn X.K MinD) := by
  refine cn_of (call_min2 hc) fun F H xs ds z Q fh hx hR q => ?_
  cases hR with
  | int i j =>
    obtain ⟨v, w, rfl, hv, hw⟩ := dps2 hx
    cases hv; cases hw
    refine ⟨i, j, rfl, ?_⟩
    rw [int_min]; exact q.sc fh rfl
theorem cInt : CallR X (.type "int") (rDn X.K IntD) := by
  refine cn_of call_int1 fun F H xs ds z Q fh hx hR q => ?_
  cases hR with
  | bool b =>
    obtain ⟨v, rfl, hv⟩ := dps1 hx
    cases hv
    exact .inr ⟨b, rfl, q.sc fh rfl⟩
theorem cTuple : CallR X (.type "tuple") (rDn X.K TupleD) := by
  refine cn_of call_tuple_of fun F H xs ds z Q fh hx hR q => ?_
  cases hR with
  | list ds =>
    obtain ⟨v, rfl, hv⟩ := dps1 hx
    cases hv with
    | lst s1 a1 => exact ⟨_, _, rfl, .inl ⟨ex_l fh s1, fun p hp => q.tup fh a1 hp⟩⟩
theorem cList : CallR X (.type "list") (rDn X.K ListD) := by
  refine cn_of call_list_of fun F H xs ds z Q fh hx hR q => ?_
  cases hR with
  | list ds =>
    obtain ⟨v, rfl, hv⟩ := dps1 hx
    cases hv with
    | lst s1 a1 => exact ⟨_, _, rfl, .inl (ex_l fh s1), fun p hp => q.lst fh a1 hp⟩
  | tup ds =>
    obtain ⟨v, rfl, hv⟩ := dps1 hx
    cases hv with
    | tup s1 a1 => exact ⟨_, _, rfl, .inr (ex_t fh s1), fun p hp => q.lst fh a1 hp⟩
end
/-! the same with the written part named -/
section
variable {X : Cx} {K : Fg}
theorem kAdd  (hK : X.K = K := by rfl) : OpR X (binaryOp .Add) (rD2 K AddD) := by
  subst hK
  exact oAdd
theorem kSub  (hK : X.K = K := by rfl) : OpR X (binaryOp .Sub) (rD2 K SubD) := by
  subst hK
  exact oSub
theorem kMul  (hK : X.K = K := by rfl) : OpR X (binaryOp .Mult) (rD2 K MulD) := by
  subst hK
  exact oMul
theorem kDiv  (hK : X.K = K := by rfl) : OpR X (binaryOp .FloorDiv) (rD2 K DivD) := by
  subst hK
  exact oDiv
theorem kMod  (hK : X.K = K := by rfl) : OpR X (binaryOp .Mod) (rD2 K ModD) := by
  subst hK
  exact oMod
theorem kPow  (hK : X.K = K := by rfl) : OpR X (binaryOp .Pow) (rD2 K PowD) := by
  subst hK
  exact oPow
theorem kShr  (hK : X.K = K := by rfl) : OpR X (binaryOp .RShift) (rD2 K ShrD) := by
  subst hK
  exact oShr
theorem kBand  (hK : X.K = K := by rfl) : OpR X (binaryOp .BitAnd) (rD2 K BandD) := by
  subst hK
  exact oBand
theorem kLt  (hK : X.K = K := by rfl) : OpR X (compareOp .Lt) (rD2 K LtD) := by
  subst hK
  exact oLt
theorem kGt  (hK : X.K = K := by rfl) : OpR X (compareOp .Gt) (rD2 K GtD) := by
  subst hK
  exact oGt
theorem kGe  (hK : X.K = K := by rfl) : OpR X (compareOp .GtE) (rD2 K GeD) := by
  subst hK
  exact oGe
theorem kLe (hu : X.A.units < cLine) (hK : X.K = K := by rfl) : OpR X (compareOp .LtE) (rD2 K LeD) := by
  subst hK
  exact oLe hu
theorem kNeg  (hK : X.K = K := by rfl) : UnR X (unaryOp .USub) (rD1 K NegD) := by
  subst hK
  exact oNeg
theorem kEq (hu : X.A.units + 64 < cLine) (hK : X.K = K := by rfl) : OpR X (compareOp .Eq) (rD2 K EqD) := by
  subst hK
  exact oEq hu
theorem kNe (hu : X.A.units + 64 < cLine) (hK : X.K = K := by rfl) : OpR X (compareOp .NotEq) (rD2 K NeD) := by
  subst hK
  exact oNe hu
theorem kIs  (hK : X.K = K := by rfl) : OpR X (compareOp .Is) (rD2 K IsD) := by
  subst hK
  exact oIs
theorem kNis  (hK : X.K = K := by rfl) : OpR X (compareOp .IsNot) (rD2 K NisD) := by
  subst hK
  exact oNis
theorem kIn (hu : X.A.units + 65 < cLine) (hK : X.K = K := by rfl) : OpR X (compareOp .In) (rD2 K InD) := by
  subst hK
  exact oIn hu
theorem kNin (hu : X.A.units + 65 < cLine) (hK : X.K = K := by rfl) : OpR X (compareOp .NotIn) (rD2 K NinD) := by
  subst hK
  exact oNin hu
theorem kIx  (hK : X.K = K := by rfl) : IxR X (rD2 K IxD) := by
  subst hK
  exact oIx
/-- an item, by data or (of a list that is one's own) by values -/
def rIxU (K : Fg) : R2 := fun x y H Q => rD2 K IxD x y H Q ∨ rIxL K x y H Q
theorem kIxU (hK : X.K = K := by rfl) : IxR X (rIxU K) := by
  subst hK
  exact oIx.or ix_list
theorem kSl  (hK : X.K = K := by rfl) : SlR X (rDs K SlD) := by
  subst hK
  exact oSl
theorem jLen  (hK : X.K = K := by rfl) : CallR X (.builtin "len") (rDn K LenD) := by
  subst hK
  exact cLen
theorem jMax (hc : X.calm = true) (hK : X.K = K := by rfl) : CallR X (.builtin "max") (rDn K MaxD) := by
  subst hK
  exact cMax hc
theorem jMin (hc : X.calm = true) (hK : X.K = K := by rfl) : CallR X (.builtin "min") (rDn K MinD) := by
  subst hK
  exact cMin hc
theorem jInt  (hK : X.K = K := by rfl) : CallR X (.type "int") (rDn K IntD) := by
  subst hK
  exact cInt
theorem jTuple  (hK : X.K = K := by rfl) : CallR X (.type "tuple") (rDn K TupleD) := by
  subst hK
  exact cTuple
theorem jList  (hK : X.K = K := by rfl) : CallR X (.type "list") (rDn K ListD) := by
  subst hK
  exact cList
theorem jIsi (hK : X.K = K := by rfl) : CallR X (.builtin "isinstance") (rIsi K) := by
  subst hK
  exact call_isi
end
end Ly
/-! LyC: defs by relations, statements, loops, comprehensions. -/
namespace Ly
open PySem L2 Evl PyProof.Rows
/-! ### defs -/
/-- a def of the text stands under its name -/
structure Df (K : Fg) (mg : Str → Option Value) (x : Str) (st : Stmt) (ps : List Str) : Prop where
  ex : ∃ f fd, Fun K x x st f fd ∧ mg x = some (.ref f) ∧ ∀ us : List Value, us.length = ps.length → bindArgs fd ⟨us, []⟩ = pure (ps.zip us)
/-- a def that keeps its promise stands under its name -/
structure Dk (P : Program) (w : World) (K : Fg) (mg : Str → Option Value) (base : Heap) (k : Nat) (x : Str) (ps : List Str) (sp : Sp) : Prop where
  ex : ∃ f fd, mg x = some (.ref f) ∧ FnOk P w K mg base CX0 k f fd ps sp ∧ PySem.W.keepIn K (.ref f) = true ∧ Binds K fd ps [] ∧ ∃ o, K.lookup f = some o ∧ o.data = .func fd
section
variable {P : Program} {w : World} {K : Fg} {mg : Str → Option Value} {base : Heap} {k : Nat} {x : Str} {st : Stmt} {N ps : List Str}
theorem fun_at {q : Str} {f : Addr} {fd : FuncData} (F : Fun K x q st f fd) : ∃ o, K.lookup f = some o ∧ o.data = .func fd := by
  obtain ⟨oc, od, kV, doc, pm, an, cdv, ct, osl, _, lk, _⟩ := F.ex
  exact ⟨_, lk, rfl⟩
/-- for any promise -/
theorem Df.dkS {sp : Sp} (D0 : Df K mg x st ps) (S : FnScope N ps (defScope st)) (hl : ∀ vs H Q E, sp vs H Q E → vs.length = ps.length)
    (hb : ∀ (f : Addr) (cdv : Value) (A : Around) (outer : List Env) (s : Shared) (H : Hp) (E : XK), Room k (A.deeper (envOfC x (defScope st) s.heap.objs.size f cdv)) →
      ∃ t, PSs (cxOf CX0 P w K mg base N x (defScope st) f cdv A outer s H E).nox (defBody st) t ∧
        ∀ vs Q, sp vs H Q E → t { nx := fun _ H' => Q .non H', rt := Q } (start N vs) H) : Dk P w K mg base (k + 1) x ps sp := by
  obtain ⟨f, fd, F, hm, b⟩ := D0.ex
  refine ⟨f, fd, hm, F.ok S hl fun cdv A outer s H vs Q E hr h => ?_, F.kp, .all b, fun_at F⟩
  obtain ⟨t, h1, h2⟩ := hb f cdv A outer s H E hr
  exact ⟨t, h1, h2 vs Q h⟩
theorem Df.dk {R : List D → D → Prop} (D0 : Df K mg x st ps) (S : FnScope N ps (defScope st)) (hl : ∀ ds r, R ds r → ds.length = ps.length)
    (hb : ∀ (f : Addr) (cdv : Value) (A : Around) (outer : List Env) (s : Shared) (H : Hp) (E : XK), Room k (A.deeper (envOfC x (defScope st) s.heap.objs.size f cdv)) →
      ∃ t, PSs (cxOf CX0 P w K mg base N x (defScope st) f cdv A outer s H E).nox (defBody st) t ∧
        ∀ vs F0 ds r Q, Ex F0 H → DpAll K F0 vs ds → R ds r → Ans K F0 H r Q → t { nx := fun _ H' => Q .non H', rt := Q } (start N vs) H) : Dk P w K mg base (k + 1) x ps (spR K R) := by
  refine D0.dkS S (spR_len hl) fun f cdv A outer s H E hr => ?_
  obtain ⟨t, h1, h2⟩ := hb f cdv A outer s H E hr
  exact ⟨t, h1, fun vs Q ⟨F0, ds, r, fh, ha, hR, q⟩ => h2 vs F0 ds r Q fh ha hR q⟩
/-- the law's own end -/
theorem Df.fin {sp : Sp} {a : Str} {fa : Addr} (D0 : Df K mg x st [a]) (hfa : mg x = some (.ref fa)) (h : ∀ base, K.In base → base.Ns mainGlobals mg → Dk P w K mg base k x [a] sp) :
    ∃ fd : FuncData, (∀ (s : Shared) (u : Value), BindsTo s fd ⟨[u], []⟩ [(a, u)]) ∧ ∀ base : Heap, K.In base → base.Ns mainGlobals mg → FnOk P w K mg base CX0 k fa fd [a] sp := by
  obtain ⟨f, fd, F, hm, b⟩ := D0.ex
  have e := hfa.symm.trans hm
  cases e
  refine ⟨fd, fun s u => .of_eq (b [u] rfl), fun base h1 h2 => ?_⟩
  obtain ⟨f', fd', hm', ok, _, _, o', l', d'⟩ := (h base h1 h2).ex
  have e := hm.symm.trans hm'
  cases e
  obtain ⟨o, l, d⟩ := fun_at F
  have e := l.symm.trans l'
  cases e
  have e := d.symm.trans d'
  cases e
  exact ok
theorem Dk.mono {sp : Sp} {j : Nat} (h : Dk P w K mg base k x ps sp) (hj : k ≤ j) : Dk P w K mg base j x ps sp := by
  obtain ⟨f, fd, h1, h2, h3, h4, h5⟩ := h.ex
  exact ⟨f, fd, h1, h2.mono hj, h3, h4, h5⟩
theorem cl {X : Cx} {sp : Sp} {p pos : Pos} {e : Expr} {es : List Expr} {t : TA} {j : Nat} (h : Dk P w K mg base k x ps sp) (hr : Room j X.A) (ha : PA X (e :: es) t) (hj : k ≤ j := by first | decide | omega) (hg : Gl X x := by rfl)
    (hP : X.prog = P := by rfl) (hw : X.w = w := by rfl) (hK : X.K = K := by rfl) (hm : X.mg = mg := by rfl) (hB : X.base = base := by rfl)
    (hdb : (x == ("__debug__" : Str)) = false := by decide) (he : starEach (e :: es) X.env = (false, eval e X.env) :: starEach es X.env := by rfl) (hpl : (backTo pos (starEach es X.env)).any (·.1) = false := by rfl) :
    PE X (.Call (.Name x p) (e :: es) [] pos) (tCall sp [] E0 t) := by
  subst hP hw hK hm hB
  obtain ⟨f, fd, h1, h2, h3, h4, _⟩ := h.ex
  exact pe_call h2 (hr.mono hj) hg h1 h3 h4 .nil pass0 ha hdb he hpl
theorem cl0 {X : Cx} {sp : Sp} {p pos : Pos} {j : Nat} (h : Dk P w K mg base k x ps sp) (hr : Room j X.A) (hj : k ≤ j := by first | decide | omega) (hg : Gl X x := by rfl)
    (hP : X.prog = P := by rfl) (hw : X.w = w := by rfl) (hK : X.K = K := by rfl) (hm : X.mg = mg := by rfl) (hB : X.base = base := by rfl)
    (hdb : (x == ("__debug__" : Str)) = false := by decide) :
    PE X (.Call (.Name x p) [] [] pos) (tCall sp [] E0 tNil) := by
  subst hP hw hK hm hB
  obtain ⟨f, fd, h1, h2, h3, h4, _⟩ := h.ex
  exact pe_call0 h2 (hr.mono hj) hg h1 h3 h4 .nil pass0 hdb
end
/-- what a law is asked: any script of at most 63 ints; True -/
def RLaw : List D → D → Prop := fun ds r => ∃ ns : List Int, ns.length ≤ 63 ∧ ds = [.list (ns.map PyData.int)] ∧ r = .bool true
theorem RLaw.len : ∀ ds r, RLaw ds r → ds.length = 1 := fun ds r ⟨ns, _, h, _⟩ => by rw [h]; rfl
theorem law_start {K : Fg} {H : Hp} {a : Addr} {ns : List Int} {E : XK} (hl : ns.length ≤ 63) (hS : SqL K H a (ns.map V.int)) : spR K RLaw [.ref a] H (fun v _ => v = .bl true) E :=
  ⟨H, _, _, Ex.refl H, .cons (dp_ints hS) .nil, ⟨ns, hl, rfl, rfl⟩, fun v F2 H2 _ h => by cases h; rfl⟩
theorem room64 {k : Nat} {A : Around} (r : Room k A) : A.units + 64 < cLine := by have := r.un; omega
theorem room65 {k : Nat} {A : Around} (r : Room k A) : A.units + 65 < cLine := by have := r.un; omega
theorem room0 {k : Nat} {A : Around} (r : Room k A) : A.units < cLine := by have := r.un; omega
/-! ### built-ins by name -/
section
variable {X : Cx} {x : Str} {id : String} {p pos : Pos} {e : Expr} {es : List Expr} {r : List V → Hp → VK → Prop} {t : TA}
theorem bi (hc : CallR X (.builtin id) r) (hm : X.mg x = none) (ha : PA X (e :: es) t) (hg : Gl X x := by rfl) (hv : bootBuiltins x = some (.builtin id) := by decide +kernel) (hn : x ≠ "__name__" := by decide) (hdb : (x == ("__debug__" : Str)) = false := by decide)
    (he : starEach (e :: es) X.env = (false, eval e X.env) :: starEach es X.env := by rfl) (hpl : (backTo pos (starEach es X.env)).any (·.1) = false := by rfl) : PE X (.Call (.Name x p) (e :: es) [] pos) (tCB r t) := pe_callB hc hg hm hv ha hn hdb he hpl
theorem bt (hc : CallR X (.type id) r) (hm : X.mg x = none) (ha : PA X (e :: es) t) (hg : Gl X x := by rfl) (hv : bootBuiltins x = some (.type id) := by decide +kernel) (hn : x ≠ "__name__" := by decide) (hdb : (x == ("__debug__" : Str)) = false := by decide)
    (he : starEach (e :: es) X.env = (false, eval e X.env) :: starEach es X.env := by rfl) (hpl : (backTo pos (starEach es X.env)).any (·.1) = false := by rfl) : PE X (.Call (.Name x p) (e :: es) [] pos) (tCB r t) := pe_callTy hc hg hm hv ha hn hdb he hpl
/-- a built-in class as a value -/
theorem bty {n : String} (hm : X.mg x = none) (hg : Gl X x := by rfl) (hv : bootBuiltins x = some (.type n) := by decide +kernel) (hn : x ≠ "__name__" := by decide) (hdb : (x == ("__debug__" : Str)) = false := by decide) : PE X (.Name x pos) (tC (.ty n)) := pe_bltn hg hm hv rfl hn hdb
theorem gint {i : Int} (hm : ∃ u, X.mg x = some (.int i u)) (hg : Gl X x := by rfl) (hdb : (x == ("__debug__" : Str)) = false := by decide) : PE X (.Name x pos) (tC (.int i)) := by
  obtain ⟨u, hm⟩ := hm
  exact pe_glob hg hm ⟨u, rfl⟩ hdb
theorem gstr {i : Str} (hm : ∃ u, X.mg x = some (.str i u)) (hg : Gl X x := by rfl) (hdb : (x == ("__debug__" : Str)) = false := by decide) : PE X (.Name x pos) (tC (.str i)) := by
  obtain ⟨u, hm⟩ := hm
  exact pe_glob hg hm ⟨u, rfl⟩ hdb
theorem gref {i : Addr} (hm : X.mg x = some (.ref i)) (hg : Gl X x := by rfl) (hdb : (x == ("__debug__" : Str)) = false := by decide) : PE X (.Name x pos) (tC (.ref i)) := pe_glob hg hm rfl hdb
end
/-! ### isinstance -/
def isInt : D → Bool | .int _ => true | .bool _ => true | _ => false
def isBol : D → Bool | .bool _ => true | _ => false
def isStr : D → Bool | .str _ => true | _ => false
def isTup : D → Bool | .tuple _ => true | _ => false
def isLst : D → Bool | .list _ => true | _ => false
section
variable {K : Fg} {σ : L2.St} {F H : Hp} {te : TE} {d : D}
theorem d_isi {n : String} {b : Bool} (h : EvD K te σ F H d) (hb : kitB (tyN d) n = some b) : EvD K (tCB (rIsi K) (tCons te (tCons (tC (.ty n)) tNil))) σ F H (.bool b) := fun F1 H1 e1 e2 e3 Q q =>
  h F1 H1 e1 e2 e3 _ fun v F2 H2 g hv => ⟨v, .ty n, _, _, b, rfl, .ty n, dp_ty (hv.up g.fh), kit_ty hb, q _ F2 H2 g (.bl b)⟩
theorem d_isInt (h : EvD K te σ F H d) : EvD K (tCB (rIsi K) (tCons te (tCons (tC (.ty "int")) tNil))) σ F H (.bool (isInt d)) := d_isi h (by cases d <;> (simp only [tyN, isInt, isBol, isStr, isTup, isLst]; decide +kernel))
theorem d_isBol (h : EvD K te σ F H d) : EvD K (tCB (rIsi K) (tCons te (tCons (tC (.ty "bool")) tNil))) σ F H (.bool (isBol d)) := d_isi h (by cases d <;> (simp only [tyN, isInt, isBol, isStr, isTup, isLst]; decide +kernel))
theorem d_isStr (h : EvD K te σ F H d) : EvD K (tCB (rIsi K) (tCons te (tCons (tC (.ty "str")) tNil))) σ F H (.bool (isStr d)) := d_isi h (by cases d <;> (simp only [tyN, isInt, isBol, isStr, isTup, isLst]; decide +kernel))
theorem d_isTup (h : EvD K te σ F H d) : EvD K (tCB (rIsi K) (tCons te (tCons (tC (.ty "tuple")) tNil))) σ F H (.bool (isTup d)) := d_isi h (by cases d <;> (simp only [tyN, isInt, isBol, isStr, isTup, isLst]; decide +kernel))
theorem d_isLst (h : EvD K te σ F H d) : EvD K (tCB (rIsi K) (tCons te (tCons (tC (.ty "list")) tNil))) σ F H (.bool (isLst d)) := d_isi h (by cases d <;> (simp only [tyN, isInt, isBol, isStr, isTup, isLst]; decide +kernel))
end
/-! ### new lists -/
def EvN (K : Fg) (te : TE) (σ : L2.St) (F H : Hp) (ds : List D) : Prop := ∀ F1 H1, Ex F F1 → Ex H H1 → Ex F1 H1 → ∀ Q : VK,
  (∀ p vs F2 H2, Gr F1 H1 F2 H2 → H1 p = none → F2 p = none → H2 p = some (.lst vs) → DpAll K F2 vs ds → Q (.ref p) H2) → te σ H1 Q
section
variable {K : Fg} {σ : L2.St} {F H F0 H0 : Hp} {te ta tl : TE} {tt t : TT} {d : D} {ds es : List D} {v : V} {i j : Nat} {D' : Ends} {tu tw tz : TS} {gt : TG} {wi : TI}
theorem EvN.dd (h : EvN K te σ F H ds) : EvD K te σ F H (.list ds) := fun F1 H1 e1 e2 e3 Q q => h F1 H1 e1 e2 e3 _ fun p vs F2 H2 g hp fp hl ha =>
  q (.ref p) (upd F2 p (.lst vs)) H2 (g.give hp hl fp) (.lst (sq_of upd_same) (ha.up (Ex.new fp)))
theorem EvN.to (h : EvN K te σ F H ds) (q : ds = es) : EvN K te σ F H es := q ▸ h
theorem n_lst {ta : TA} (ha : EvDs K ta σ F H ds) (hl : ds.length ≤ 100000) : EvN K (tLst ta) σ F H ds := fun F1 H1 e1 e2 e3 Q q =>
  ha F1 H1 e1 e2 e3 _ fun xs F2 H2 g2 hx => ⟨by rw [hx.length]; exact sz_of hl, fun p hp => q p xs F2 _ (g2.trans (Gr.own g2.fh hp)) (g2.back hp) (fresh_back g2.fh hp) upd_same hx⟩
theorem n_cut {lo hi : Option Int} {to th : TO} (h : EvD K te σ F H (.list ds)) (h1 : EvI K to σ F H lo) (h2 : EvI K th σ F H hi) : EvD K (tSl (rDs K SlD) te to th) σ F H (.list (cutD ds lo hi)) := d_sl h h1 h2 (.list ds lo hi)
theorem d_ix {tb : TE} {e r : D} (ha : EvD K te σ F H d) (hb : EvD K tb σ F H e) (hr : IxD d e r) : EvD K (tOp (rIxU K) te tb) σ F H r := fun F1 H1 e1 e2 e3 Q q =>
  ha F1 H1 e1 e2 e3 _ fun x F2 H2 g2 hx => hb F2 H2 (e1.trans g2.fx) (e2.trans g2.hx) g2.fh _ fun y F3 H3 g3 hy =>
    .inl ⟨F3, d, e, r, g3.fh, hx.up g3.fx, hy, hr, fun v F4 H4 g4 hv => q v F4 H4 ((g2.trans g3).trans g4) hv⟩
/-- an item of one's own list -/
theorem d_ixO {tb : TE} {l : Addr} {vs : List V} {n : Int} {r : D} (hv : σ[i]? = some (some (.ref l))) (hl : H l = some (.lst vs)) (ha : DpAll K F vs ds) (hb : EvD K tb σ F H (.int n)) (hr : atI ds n = some r) : EvD K (tOp (rIxU K) (tVar i) tb) σ F H r := fun F1 H1 e1 e2 e3 Q q =>
  ⟨.ref l, hv, hb F1 H1 e1 e2 e3 _ fun y F3 H3 g3 hy => by
    cases hy
    obtain ⟨w, ew, hw⟩ := dps_at ha hr
    exact .inr ⟨l, vs, n, w, rfl, rfl, sq_of (g3.hx _ _ (e2 _ _ hl)), ew, q w F3 H3 g3 (hw.up (e1.trans g3.fx))⟩⟩
/-! ### statements -/
/-- xs.clear(), xs one's own -/
theorem s_clear {l : Addr} {xs : List V} (g : Gr F0 H0 F H) (hl0 : H0 l = none) (fl : F l = none) (hl : H l = some (.lst xs)) (hv : σ[i]? = some (some (.ref l))) (k : ∀ H2, Gr F0 H0 F H2 → (∀ p o, p ≠ l → H p = some o → H2 p = some o) → H2 l = some (.lst []) → D'.nx σ H2) :
    tDrop (tBM0 K "list" rClear (tVar i)) D' σ H :=
  ⟨.ref l, hv, .inl ⟨rfl, xs, sq_of hl⟩, l, xs, rfl, rfl, hl, k _ (g.mut hl0 fl) (fun p o hp ho => by rw [upd_ne hp]; exact ho) upd_same⟩
theorem q_clear {l : Addr} {xs : List V} (g : Gr F0 H0 F H) (hl0 : H0 l = none) (fl : F l = none) (hl : H l = some (.lst xs)) (hv : σ[i]? = some (some (.ref l))) (k : ∀ H2, Gr F0 H0 F H2 → (∀ p o, p ≠ l → H p = some o → H2 p = some o) → H2 l = some (.lst []) → tz D' σ H2) :
    tSeq (tDrop (tBM0 K "list" rClear (tVar i))) tz D' σ H := s_clear (D' := { D' with nx := tz D' }) g hl0 fl hl hv k
/-! promises of a new list -/
def AnsN (K : Fg) (F H : Hp) (es : List D) (Q : VK) : Prop := ∀ p ws F2 H2, Gr F H F2 H2 → H p = none → F2 p = none → H2 p = some (.lst ws) → DpAll K F2 ws es → Q (.ref p) H2
def spN (K : Fg) (R : List D → List D → Prop) : Sp := fun vs H Q _ => ∃ F ds es, Ex F H ∧ DpAll K F vs ds ∧ R ds es ∧ AnsN K F H es Q
theorem n_call {R : List D → List D → Prop} {E : XK} {ta : TA} (ha : EvDs K ta σ F H ds) (hr : R ds es) : EvN K (tCall (spN K R) [] E ta) σ F H es := fun F1 H1 e1 e2 e3 Q q =>
  ha F1 H1 e1 e2 e3 _ fun xs F2 H2 g2 hx => by
    show spN K R (xs ++ []) H2 Q E
    rw [List.append_nil]
    exact ⟨F2, ds, es, g2.fh, hx, hr, fun p ws F3 H3 g3 hp fp hl ha => q p ws F3 H3 (g2.trans g3) (g2.back hp) fp hl ha⟩
theorem s_retN (g : Gr F0 H0 F H) (h : EvN K te σ F H ds) (q : AnsN K F0 H0 ds D'.rt) : tRet te D' σ H :=
  h F H (Ex.refl F) (Ex.refl H) g.fh _ fun p ws F2 H2 s hp fp hl ha => q p ws F2 H2 (g.trans s) (g.back hp) fp hl ha
/-- one's own list is handed back -/
theorem s_retO {l : Addr} {vs : List V} (g : Gr F0 H0 F H) (hl0 : H0 l = none) (fl : F l = none) (hl : H l = some (.lst vs)) (ha : DpAll K F vs ds) (hv : σ[i]? = some (some (.ref l))) (q : AnsN K F0 H0 ds D'.rt) : tRet (tVar i) D' σ H :=
  ⟨.ref l, hv, q l vs F H g hl0 fl hl ha⟩
/-! ### statements -/
theorem s_set (g : Gr F0 H0 F H) (h : EvD K te σ F H d) (k : ∀ v F2 H2, Gr F0 H0 F2 H2 → Gr F H F2 H2 → Dp K F2 v d → D'.nx (σ.set i (some v)) H2) : tAsg te (gName i) D' σ H :=
  h F H (Ex.refl F) (Ex.refl H) g.fh _ fun v F2 H2 s hv => k v F2 H2 (g.trans s) s hv
theorem s_setV (g : Gr F0 H0 F H) (h : EvD K te σ F H d) (hs : scV d = some v) (k : ∀ H2, Gr F0 H0 F H2 → Ex H H2 → D'.nx (σ.set i (some v)) H2) : tAsg te (gName i) D' σ H :=
  h F H (Ex.refl F) (Ex.refl H) g.fh _ fun w F2 H2 s hv => by
    have e := scV_inv hs hv
    subst e
    exact k H2 (g.grow s.hx) s.hx
theorem s_setN (g : Gr F0 H0 F H) (h : EvN K te σ F H ds) (k : ∀ p vs F2 H2, Gr F0 H0 F2 H2 → Gr F H F2 H2 → H p = none → F2 p = none → H2 p = some (.lst vs) → DpAll K F2 vs ds → D'.nx (σ.set i (some (.ref p))) H2) : tAsg te (gName i) D' σ H :=
  h F H (Ex.refl F) (Ex.refl H) g.fh _ fun p vs F2 H2 s hp fp hl ha => k p vs F2 H2 (g.trans s) s hp fp hl ha
theorem s_ret (g : Gr F0 H0 F H) (h : EvD K te σ F H d) (q : Ans K F0 H0 d D'.rt) : tRet te D' σ H :=
  h F H (Ex.refl F) (Ex.refl H) g.fh _ fun v F2 H2 s hv => q v F2 H2 (g.trans s) hv
theorem s_drop (g : Gr F0 H0 F H) (h : EvD K te σ F H d) (k : ∀ H2, Gr F0 H0 F H2 → Ex H H2 → D'.nx σ H2) : tDrop te D' σ H :=
  h F H (Ex.refl F) (Ex.refl H) g.fh _ fun v F2 H2 s _ => k H2 (g.grow s.hx) s.hx
theorem s_if {b : Bool} (g : Gr F0 H0 F H) (h : EvB t σ F H b) (h1 : b = true → ∀ H2, Gr F0 H0 F H2 → Ex H H2 → tu D' σ H2) (h2 : b = false → ∀ H2, Gr F0 H0 F H2 → Ex H H2 → tw D' σ H2) : tIfS t tu tw D' σ H :=
  h F H (Ex.refl F) (Ex.refl H) g.fh _ fun H2 e => by
    cases b with
    | true =>
      show tu D' σ H2
      exact h1 rfl H2 (g.grow e) e
    | false =>
      show tw D' σ H2
      exact h2 rfl H2 (g.grow e) e
theorem s_aug {f : Int → Int → Int} {a b : Int} (g : Gr F0 H0 F H) (hx : σ[i]? = some (some (.int a))) (h : EvD K te σ F H (.int b)) (k : ∀ H2, Gr F0 H0 F H2 → Ex H H2 → D'.nx (σ.set i (some (.int (f a b)))) H2) : tAug i te (ipI f) D' σ H :=
  ⟨.int a, hx, h F H (Ex.refl F) (Ex.refl H) g.fh _ fun v F2 H2 s hv => by
    cases hv
    exact ⟨a, b, rfl, rfl, k H2 (g.grow s.hx) s.hx⟩⟩
/-- xs.append(e), xs one's own list -/
theorem s_app {l : Addr} {xs : List V} (g : Gr F0 H0 F H) (hl0 : H0 l = none) (fl : F l = none) (hl : H l = some (.lst xs)) (hv : σ[i]? = some (some (.ref l))) (hz : xs.length < 100000) (h : EvD K te σ F H d)
    (k : ∀ v F2 H2, Gr F0 H0 F2 H2 → Ex F F2 → (∀ p, H p ≠ none → F2 p = F p) → (∀ p o, p ≠ l → H p = some o → H2 p = some o) → H2 l = some (.lst (xs ++ [v])) → Dp K F2 v d → D'.nx σ H2) :
    tDrop (tBM K "list" rAppend (tVar i) (tCons te tNil)) D' σ H := by
  refine ⟨.ref l, hv, .inl ⟨rfl, xs, sq_of hl⟩, h F H (Ex.refl F) (Ex.refl H) g.fh _ fun v F2 H2 s hd => ?_⟩
  refine ⟨l, xs, v, rfl, rfl, s.hx l _ hl, sz_lt hz, ?_⟩
  have f2 : F2 l = none := (s.old l (by rw [hl]; exact fun z => nomatch z)).trans fl
  refine k v F2 _ ((g.trans s).mut hl0 f2) s.fx s.old (fun p o hp ho => ?_) upd_same hd
  rw [upd_ne hp]
  exact s.hx p o ho
/-- xs[i] = e, xs one's own list -/
theorem s_setL {l : Addr} {xs : List V} {n : Nat} {tb : TE} (g : Gr F0 H0 F H) (hl0 : H0 l = none) (fl : F l = none) (hl : H l = some (.lst xs)) (hv : σ[i]? = some (some (.ref l))) (h : EvD K te σ F H d) (hb : EvD K tb σ F H (.int (n : Int))) (hn : n < xs.length)
    (k : ∀ v F2 H2, Gr F0 H0 F2 H2 → Ex F F2 → (∀ p, H p ≠ none → F2 p = F p) → (∀ p o, p ≠ l → H p = some o → H2 p = some o) → H2 l = some (.lst (xs.set n v)) → Dp K F2 v d → D'.nx σ H2) :
    tAsg te (gSub (tVar i) tb rSetL) D' σ H := by
  refine h F H (Ex.refl F) (Ex.refl H) g.fh _ fun v F2 H2 s hd => ?_
  refine ⟨.ref l, hv, hb F2 H2 s.fx s.hx s.fh _ fun w F3 H3 s3 hw => ?_⟩
  cases hw
  have f2 : F2 l = none := (s.old l (by rw [hl]; exact fun z => nomatch z)).trans fl
  refine ⟨l, xs, _, n, rfl, rfl, s3.hx l _ (s.hx l _ hl), ixN_nat hn, ?_⟩
  refine k v F2 _ (((g.trans s).grow s3.hx).mut hl0 f2) s.fx s.old (fun p o hp ho => ?_) upd_same hd
  rw [upd_ne hp]
  exact s3.hx p o (s.hx p o ho)
/-! behind which more stands -/
theorem q_set (g : Gr F0 H0 F H) (h : EvD K te σ F H d) (k : ∀ v F2 H2, Gr F0 H0 F2 H2 → Gr F H F2 H2 → Dp K F2 v d → tz D' (σ.set i (some v)) H2) : tSeq (tAsg te (gName i)) tz D' σ H := s_set (D' := { D' with nx := tz D' }) g h k
theorem q_setV (g : Gr F0 H0 F H) (h : EvD K te σ F H d) (hs : scV d = some v) (k : ∀ H2, Gr F0 H0 F H2 → Ex H H2 → tz D' (σ.set i (some v)) H2) : tSeq (tAsg te (gName i)) tz D' σ H := s_setV (D' := { D' with nx := tz D' }) g h hs k
theorem q_setN (g : Gr F0 H0 F H) (h : EvN K te σ F H ds) (k : ∀ p vs F2 H2, Gr F0 H0 F2 H2 → Gr F H F2 H2 → H p = none → F2 p = none → H2 p = some (.lst vs) → DpAll K F2 vs ds → tz D' (σ.set i (some (.ref p))) H2) : tSeq (tAsg te (gName i)) tz D' σ H := s_setN (D' := { D' with nx := tz D' }) g h k
theorem q_drop (g : Gr F0 H0 F H) (h : EvD K te σ F H d) (k : ∀ H2, Gr F0 H0 F H2 → Ex H H2 → tz D' σ H2) : tSeq (tDrop te) tz D' σ H := s_drop (D' := { D' with nx := tz D' }) g h k
theorem q_if {b : Bool} (g : Gr F0 H0 F H) (h : EvB t σ F H b) (h1 : b = true → ∀ H2, Gr F0 H0 F H2 → Ex H H2 → tu { D' with nx := tz D' } σ H2) (h2 : b = false → ∀ H2, Gr F0 H0 F H2 → Ex H H2 → tw { D' with nx := tz D' } σ H2) : tSeq (tIfS t tu tw) tz D' σ H := s_if (D' := { D' with nx := tz D' }) g h h1 h2
/-- an if without else -/
theorem q_when {b : Bool} (g : Gr F0 H0 F H) (h : EvB t σ F H b) (h1 : b = true → ∀ H2, Gr F0 H0 F H2 → Ex H H2 → tu { D' with nx := tz D' } σ H2) (h2 : b = false → ∀ H2, Gr F0 H0 F H2 → Ex H H2 → tz D' σ H2) : tSeq (tIfS t tu tNext) tz D' σ H := s_if (D' := { D' with nx := tz D' }) g h h1 h2
theorem s_when {b : Bool} (g : Gr F0 H0 F H) (h : EvB t σ F H b) (h1 : b = true → ∀ H2, Gr F0 H0 F H2 → Ex H H2 → tu D' σ H2) (h2 : b = false → ∀ H2, Gr F0 H0 F H2 → Ex H H2 → D'.nx σ H2) : tIfS t tu tNext D' σ H := s_if g h h1 h2
/-- if c: x = e, where x is a plain value behind it either way -/
theorem q_ifSet {b : Bool} (g : Gr F0 H0 F H) (h : EvB t σ F H b) (h1 : b = true → EvD K te σ F H d) (h2 : b = false → σ.set i (some v) = σ) (hs : scV d = some v) (k : ∀ H2, Gr F0 H0 F H2 → Ex H H2 → tz D' (σ.set i (some v)) H2) : tSeq (tIfS t (tAsg te (gName i)) tNext) tz D' σ H :=
  q_when g h (fun hb H2 g2 e2 => s_setV (D' := { D' with nx := tz D' }) g2 ((h1 hb).up (Ex.refl F) e2) hs fun H3 g3 e3 => k H3 g3 (e2.trans e3)) fun hb H2 g2 e2 => by
    have z := k H2 g2 e2
    rw [h2 hb] at z
    exact z
theorem q_aug {f : Int → Int → Int} {a b : Int} (g : Gr F0 H0 F H) (hx : σ[i]? = some (some (.int a))) (h : EvD K te σ F H (.int b)) (k : ∀ H2, Gr F0 H0 F H2 → Ex H H2 → tz D' (σ.set i (some (.int (f a b)))) H2) : tSeq (tAug i te (ipI f)) tz D' σ H := s_aug (D' := { D' with nx := tz D' }) g hx h k
theorem q_app {l : Addr} {xs : List V} (g : Gr F0 H0 F H) (hl0 : H0 l = none) (fl : F l = none) (hl : H l = some (.lst xs)) (hv : σ[i]? = some (some (.ref l))) (hz : xs.length < 100000) (h : EvD K te σ F H d)
    (k : ∀ v F2 H2, Gr F0 H0 F2 H2 → Ex F F2 → (∀ p, H p ≠ none → F2 p = F p) → (∀ p o, p ≠ l → H p = some o → H2 p = some o) → H2 l = some (.lst (xs ++ [v])) → Dp K F2 v d → tz D' σ H2) :
    tSeq (tDrop (tBM K "list" rAppend (tVar i) (tCons te tNil))) tz D' σ H := s_app (D' := { D' with nx := tz D' }) g hl0 fl hl hv hz h k
theorem q_setL {l : Addr} {xs : List V} {n : Nat} {tb : TE} (g : Gr F0 H0 F H) (hl0 : H0 l = none) (fl : F l = none) (hl : H l = some (.lst xs)) (hv : σ[i]? = some (some (.ref l))) (h : EvD K te σ F H d) (hb : EvD K tb σ F H (.int (n : Int))) (hn : n < xs.length)
    (k : ∀ v F2 H2, Gr F0 H0 F2 H2 → Ex F F2 → (∀ p, H p ≠ none → F2 p = F p) → (∀ p o, p ≠ l → H p = some o → H2 p = some o) → H2 l = some (.lst (xs.set n v)) → Dp K F2 v d → tz D' σ H2) :
    tSeq (tAsg te (gSub (tVar i) tb rSetL)) tz D' σ H := s_setL (D' := { D' with nx := tz D' }) g hl0 fl hl hv h hb hn k
/-! ### what is walked -/
/-- an iterator that gives the data ds, one a turn -/
structure Wk (K : Fg) (J : It) (F : Hp) (ds : List D) : Prop where
  go : ∀ H i, Ex F H → i < ds.length → J.go i H
  yld : ∀ F1 H i x H', i < ds.length → Ex F F1 → Ex F1 H → J.yld i H x H' → ∃ F2 d, Gr F1 H F2 H' ∧ ds[i]? = some d ∧ Dp K F2 x d
  stop : ∀ H i, Ex F H → ds.length ≤ i → J.stop i H
def EvW (K : Fg) (wi : TI) (σ : L2.St) (F H : Hp) (ds : List D) : Prop := ∀ F1 H1, Ex F F1 → Ex H H1 → Ex F1 H1 → ∀ R : It → Hp → Prop, (∀ J F2 H2, Gr F1 H1 F2 H2 → Wk K J F2 ds → R J H2) → wi σ H1 R
theorem get_lt {α : Type} {xs : List α} {i : Nat} (h : i < xs.length) : ∃ x, xs[i]? = some x := ⟨_, List.getElem?_eq_getElem h⟩
theorem w_list (h : EvD K tl σ F H (.list ds)) : EvW K (iList K tl) σ F H ds := fun F1 H1 e1 e2 e3 R q => h F1 H1 e1 e2 e3 _ fun v F2 H2 g hv => by
  cases hv with
  | @lst a xs _ hs ha =>
    have hl := ha.length
    refine ⟨a, rfl, ⟨xs, ex_l g.fh hs⟩, q _ F2 H2 g ⟨fun H i e hi => ?_, fun F3 H i x H' hi e e' hy => ?_, fun H i e hi => ⟨xs, ex_l e hs, by rw [hl]; exact hi⟩⟩⟩
    · obtain ⟨x, hx⟩ := get_lt (xs := xs) (by rw [hl]; exact hi)
      exact ⟨xs, x, ex_l e hs, hx⟩
    · obtain ⟨rfl, hy⟩ := hy
      obtain ⟨d, h1, h2⟩ := ha.getV (hy xs (ex_l (e.trans e') hs))
      exact ⟨F3, d, Gr.refl e', h1, h2.up e⟩
theorem w_tup (h : EvD K tl σ F H (.tuple ds)) : EvW K (iTup K tl) σ F H ds := fun F1 H1 e1 e2 e3 R q => h F1 H1 e1 e2 e3 _ fun v F2 H2 g hv => by
  cases hv with
  | @tup a xs _ hs ha =>
    have hl := ha.length
    refine ⟨a, rfl, ⟨xs, ex_t g.fh hs⟩, q _ F2 H2 g ⟨fun H i e hi => ?_, fun F3 H i x H' hi e e' hy => ?_, fun H i e hi => ⟨xs, ex_t e hs, by rw [hl]; exact hi⟩⟩⟩
    · obtain ⟨x, hx⟩ := get_lt (xs := xs) (by rw [hl]; exact hi)
      exact ⟨xs, x, ex_t e hs, hx⟩
    · obtain ⟨rfl, hy⟩ := hy
      obtain ⟨d, h1, h2⟩ := ha.getV (hy xs (ex_t (e.trans e') hs))
      exact ⟨F3, d, Gr.refl e', h1, h2.up e⟩
def signD (c : Nat) : D := .str ⟨#[c]⟩
theorem w_str {z : Str} (h : EvD K tl σ F H (.str z)) : EvW K (iStr tl) σ F H (z.cps.toList.map signD) := fun F1 H1 e1 e2 e3 R q => h F1 H1 e1 e2 e3 _ fun v F2 H2 g hv => by
  cases hv
  have hl : (z.cps.toList.map signD).length = z.cps.size := by simp
  refine ⟨z, rfl, q _ F2 H2 g ⟨fun H i e hi => by rw [hl] at hi; exact hi, fun F3 H i x H' hi e e' hy => ?_, fun H i e hi => by rw [hl] at hi; exact hi⟩⟩
  obtain ⟨rfl, c, hc, rfl⟩ := hy
  refine ⟨F3, signD c, Gr.refl e', ?_, .str _⟩
  rw [List.getElem?_map, Array.getElem?_toList, hc]
  rfl
def iAny (K : Fg) (tl : TE) : TI := fun σ H R => iList K tl σ H R ∨ iTup K tl σ H R ∨ iStr tl σ H R
theorem pi_any {X : Cx} {K : Fg} {tg l : Expr} {tl : TE} (hl : PE X l tl) (hK : X.K = K := by rfl) : PI X tg l (iAny K tl) := hK ▸ ⟨fun pins s σ H R I h => by
  rcases h with h | h | h
  · exact (pi_list hl).run pins s σ H R I h
  · exact (pi_tup hl).run pins s σ H R I h
  · exact (pi_str hl).run pins s σ H R I h⟩
theorem w_anyL (h : EvD K tl σ F H (.list ds)) : EvW K (iAny K tl) σ F H ds := fun F1 H1 e1 e2 e3 R q => .inl (w_list h F1 H1 e1 e2 e3 R q)
theorem w_anyT (h : EvD K tl σ F H (.tuple ds)) : EvW K (iAny K tl) σ F H ds := fun F1 H1 e1 e2 e3 R q => .inr (.inl (w_tup h F1 H1 e1 e2 e3 R q))
theorem w_anyS {z : Str} (h : EvD K tl σ F H (.str z)) : EvW K (iAny K tl) σ F H (z.cps.toList.map signD) := fun F1 H1 e1 e2 e3 R q => .inr (.inr (w_str h F1 H1 e1 e2 e3 R q))
def rangeD (lo : Int) (n : Nat) : List D := (List.range n).map fun (i : Nat) => .int (lo + (i : Int))
theorem rangeD_len (lo : Int) (n : Nat) : (rangeD lo n).length = n := by unfold rangeD; simp
theorem rangeD_get {lo : Int} {n i : Nat} {d : D} (h : (rangeD lo n)[i]? = some d) : i < n ∧ d = .int (lo + (i : Int)) := by
  have hi : i < n := by
    have := (List.getElem?_eq_some_iff.mp h).1
    rwa [rangeD_len] at this
  refine ⟨hi, ?_⟩
  unfold rangeD at h
  rw [List.getElem?_map, List.getElem?_range hi] at h
  exact (Option.some.inj h).symm
theorem rangeD_mem {lo : Int} {n : Nat} {d : D} (h : d ∈ rangeD lo n) : ∃ i : Nat, i < n ∧ d = .int (lo + (i : Int)) := by
  unfold rangeD at h
  obtain ⟨i, hi, e⟩ := List.mem_map.mp h
  exact ⟨i, List.mem_range.mp hi, e.symm⟩
theorem wk_range {lo : Int} {n : Nat} : Wk K (Itr lo n) F (rangeD lo n) := by
  refine ⟨fun H i e hi => by rw [rangeD_len] at hi; exact hi, fun F3 H i x H' hi e e' hy => ?_, fun H i e hi => by rw [rangeD_len] at hi; exact hi⟩
  obtain ⟨rfl, rfl⟩ := hy
  rw [rangeD_len] at hi
  refine ⟨F3, .int (lo + (i : Int)), Gr.refl e', ?_, .int _⟩
  unfold rangeD
  rw [List.getElem?_map, List.getElem?_range hi]
  rfl
theorem w_range1 {ta : TA} {n : Int} (h : EvDs K ta σ F H [.int n]) (h1 : -(2 ^ 62) ≤ n) (h2 : n < 2 ^ 62) : EvW K (iRng1 ta) σ F H (rangeD 0 n.toNat) := fun F1 H1 e1 e2 e3 R q => h F1 H1 e1 e2 e3 _ fun vs F2 H2 g hv => by
  obtain ⟨w, rfl, hw⟩ := dps1 hv
  cases hw
  exact ⟨n, rfl, h1, h2, q _ F2 H2 g wk_range⟩
theorem w_range2 {ta : TA} {lo n : Int} (h : EvDs K ta σ F H [.int lo, .int n]) (h0 : -(2 ^ 62) ≤ lo ∧ lo < 2 ^ 62 ∧ -(2 ^ 62) ≤ n ∧ n < 2 ^ 62) : EvW K (iRng2 ta) σ F H (rangeD lo (n - lo).toNat) := fun F1 H1 e1 e2 e3 R q => h F1 H1 e1 e2 e3 _ fun vs F2 H2 g hv => by
  obtain ⟨v, w, rfl, hv, hw⟩ := dps2 hv
  cases hv
  cases hw
  exact ⟨lo, n, rfl, h0, q _ F2 H2 g wk_range⟩
/-! ### for -/
/-- what stands between two turns -/
def Btw (F0 H0 Fb : Hp) (P : L2.St → Hp → Hp → Prop) (σ : L2.St) (H : Hp) : Prop := ∃ F, Gr F0 H0 F H ∧ Ex Fb F ∧ P σ F H
theorem s_for (g : Gr F0 H0 F H) (h : EvW K wi σ F H ds)
    (k : ∀ F2 H2, Gr F0 H0 F2 H2 → Gr F H F2 H2 → ∃ P : Nat → L2.St → Hp → Hp → Prop, P 0 σ F2 H2 ∧
      (∀ i d σ' F' H', ds[i]? = some d → Gr F0 H0 F' H' → Ex F2 F' → P i σ' F' H' → ∀ x F3 H3, Gr F' H' F3 H3 → Dp K F3 x d →
        gt x σ' H3 fun σ2 H4 => tu { D' with nx := Btw F0 H0 F2 (P (i + 1)), ct := Btw F0 H0 F2 (P (i + 1)), bk := D'.nx } σ2 H4) ∧
      (∀ σ' F' H', Gr F0 H0 F' H' → Ex F2 F' → P ds.length σ' F' H' → D'.nx σ' H')) : tFor wi gt tu D' σ H :=
  h F H (Ex.refl F) (Ex.refl H) g.fh _ fun J F2 H2 s wk => by
    obtain ⟨P, p0, hs, hd⟩ := k F2 H2 (g.trans s) s
    refine ⟨fun i m σ' H' => m = ds.length - i ∧ i ≤ ds.length ∧ Btw F0 H0 F2 (P i) σ' H', ⟨ds.length, rfl, Nat.zero_le _, F2, g.trans s, Ex.refl _, p0⟩, ?_⟩
    rintro i m σ' H' ⟨rfl, hi, F', g', e', p⟩
    by_cases hlt : i < ds.length
    · refine .inr ⟨wk.go H' i (e'.trans g'.fh) hlt, Btw F0 H0 F2 (P (i + 1)), fun σ2 H3 p' => ⟨ds.length - (i + 1), by omega, rfl, hlt, p'⟩, fun x H3 y => ?_⟩
      obtain ⟨F3, d, g3, hd3, hx⟩ := wk.yld F' H' i x H3 hlt e' g'.fh y
      exact hs i d σ' F' H' hd3 g' e' p x F3 H3 g3 hx
    · have e : i = ds.length := by omega
      subst e
      exact .inl ⟨wk.stop H' _ (e'.trans g'.fh) (Nat.le_refl _), hd σ' F' H' g' e' p⟩
theorem q_for (g : Gr F0 H0 F H) (h : EvW K wi σ F H ds)
    (k : ∀ F2 H2, Gr F0 H0 F2 H2 → Gr F H F2 H2 → ∃ P : Nat → L2.St → Hp → Hp → Prop, P 0 σ F2 H2 ∧
      (∀ i d σ' F' H', ds[i]? = some d → Gr F0 H0 F' H' → Ex F2 F' → P i σ' F' H' → ∀ x F3 H3, Gr F' H' F3 H3 → Dp K F3 x d →
        gt x σ' H3 fun σ2 H4 => tu { D' with nx := Btw F0 H0 F2 (P (i + 1)), ct := Btw F0 H0 F2 (P (i + 1)), bk := tz D' } σ2 H4) ∧
      (∀ σ' F' H', Gr F0 H0 F' H' → Ex F2 F' → P ds.length σ' F' H' → tz D' σ' H')) : tSeq (tFor wi gt tu) tz D' σ H := s_for (D' := { D' with nx := tz D' }) g h k
/-- while: W falls; between two turns P -/
theorem s_while (g : Gr F0 H0 F H) (P : Nat → L2.St → Hp → Hp → Prop) (m0 : Nat) (p0 : P m0 σ F H)
    (hs : ∀ m σ' F' H', Gr F0 H0 F' H' → Ex F F' → P m σ' F' H' → ∃ b, EvB t σ' F' H' b ∧
      (b = true → ∀ H1, Gr F0 H0 F' H1 → Ex H' H1 → tu { D' with nx := fun σ2 H2 => ∃ m', m' < m ∧ Btw F0 H0 F (P m') σ2 H2, ct := fun σ2 H2 => ∃ m', m' < m ∧ Btw F0 H0 F (P m') σ2 H2, bk := D'.nx } σ' H1) ∧
      (b = false → ∀ H1, Gr F0 H0 F' H1 → Ex H' H1 → D'.nx σ' H1)) : tWhile t tu D' σ H :=
  ⟨fun m σ' H' => Btw F0 H0 F (P m) σ' H', ⟨m0, F, g, Ex.refl F, p0⟩, fun m σ' H' ⟨F', g', e', p⟩ => by
    obtain ⟨b, hb, h1, h2⟩ := hs m σ' F' H' g' e' p
    refine hb F' H' (Ex.refl _) (Ex.refl _) g'.fh _ fun H1 e => ?_
    cases b with
    | true => exact ⟨_, fun σ2 H2 n => n, h1 rfl H1 (g'.grow e) e⟩
    | false => exact h2 rfl H1 (g'.grow e) e⟩
theorem q_while (g : Gr F0 H0 F H) (P : Nat → L2.St → Hp → Hp → Prop) (m0 : Nat) (p0 : P m0 σ F H)
    (hs : ∀ m σ' F' H', Gr F0 H0 F' H' → Ex F F' → P m σ' F' H' → ∃ b, EvB t σ' F' H' b ∧
      (b = true → ∀ H1, Gr F0 H0 F' H1 → Ex H' H1 → tu { D' with nx := fun σ2 H2 => ∃ m', m' < m ∧ Btw F0 H0 F (P m') σ2 H2, ct := fun σ2 H2 => ∃ m', m' < m ∧ Btw F0 H0 F (P m') σ2 H2, bk := tz D' } σ' H1) ∧
      (b = false → ∀ H1, Gr F0 H0 F' H1 → Ex H' H1 → tz D' σ' H1)) : tSeq (tWhile t tu) tz D' σ H := s_while (D' := { D' with nx := tz D' }) g P m0 p0 hs
/-- the target a name -/
theorem s_forN (g : Gr F0 H0 F H) (h : EvW K wi σ F H ds)
    (k : ∀ F2 H2, Gr F0 H0 F2 H2 → Gr F H F2 H2 → ∃ P : Nat → L2.St → Hp → Hp → Prop, P 0 σ F2 H2 ∧
      (∀ i d σ' F' H', ds[i]? = some d → Gr F0 H0 F' H' → Ex F2 F' → P i σ' F' H' → ∀ x F3 H3, Gr F' H' F3 H3 → Dp K F3 x d →
        tu { D' with nx := Btw F0 H0 F2 (P (i + 1)), ct := Btw F0 H0 F2 (P (i + 1)), bk := D'.nx } (σ'.set j (some x)) H3) ∧
      (∀ σ' F' H', Gr F0 H0 F' H' → Ex F2 F' → P ds.length σ' F' H' → D'.nx σ' H')) : tFor wi (gName j) tu D' σ H := s_for (K := K) g h k
theorem q_forN (g : Gr F0 H0 F H) (h : EvW K wi σ F H ds)
    (k : ∀ F2 H2, Gr F0 H0 F2 H2 → Gr F H F2 H2 → ∃ P : Nat → L2.St → Hp → Hp → Prop, P 0 σ F2 H2 ∧
      (∀ i d σ' F' H', ds[i]? = some d → Gr F0 H0 F' H' → Ex F2 F' → P i σ' F' H' → ∀ x F3 H3, Gr F' H' F3 H3 → Dp K F3 x d →
        tu { D' with nx := Btw F0 H0 F2 (P (i + 1)), ct := Btw F0 H0 F2 (P (i + 1)), bk := tz D' } (σ'.set j (some x)) H3) ∧
      (∀ σ' F' H', Gr F0 H0 F' H' → Ex F2 F' → P ds.length σ' F' H' → tz D' σ' H')) : tSeq (tFor wi (gName j) tu) tz D' σ H := s_forN (D' := { D' with nx := tz D' }) g h k
/-- over range(n): what holds between two turns, of the slots and the heap alone -/
theorem s_forR {ta : TA} {n : Int} (g : Gr F0 H0 F H) (h : EvDs K ta σ F H [.int n]) (h1 : -(2 ^ 62) ≤ n) (h2 : n < 2 ^ 62) (P : Nat → L2.St → Hp → Hp → Prop) (p0 : ∀ H2, Gr F0 H0 F H2 → Ex H H2 → P 0 σ F H2)
    (hs : ∀ (i : Nat) σ' F' H', (i : Int) < n → Gr F0 H0 F' H' → Ex F F' → P i σ' F' H' → tu { D' with nx := Btw F0 H0 F (P (i + 1)), ct := Btw F0 H0 F (P (i + 1)), bk := D'.nx } (σ'.set j (some (.int (i : Int)))) H')
    (hd : ∀ σ' F' H', Gr F0 H0 F' H' → Ex F F' → P n.toNat σ' F' H' → D'.nx σ' H') : tFor (iRng1 ta) (gName j) tu D' σ H :=
  h F H (Ex.refl F) (Ex.refl H) g.fh _ fun vs F2 H2 s hv => by
    obtain ⟨w, rfl, hw⟩ := dps1 hv
    cases hw
    refine ⟨n, rfl, h1, h2, ?_⟩
    refine ⟨fun i m σ' H' => m = n.toNat - i ∧ i ≤ n.toNat ∧ Btw F0 H0 F (P i) σ' H', ⟨n.toNat, rfl, Nat.zero_le _, F, g.grow s.hx, Ex.refl _, p0 H2 (g.grow s.hx) s.hx⟩, ?_⟩
    rintro i m σ' H' ⟨rfl, hi, F', g', e', p⟩
    by_cases hlt : i < n.toNat
    · refine .inr ⟨hlt, Btw F0 H0 F (P (i + 1)), fun σ2 H3 p' => ⟨n.toNat - (i + 1), by omega, rfl, hlt, p'⟩, fun x H3 y => ?_⟩
      obtain ⟨rfl, rfl⟩ := y
      have e0 : (0 : Int) + (i : Int) = (i : Int) := Int.zero_add _
      rw [e0]
      exact hs i σ' F' _ (by omega) g' e' p
    · have e : i = n.toNat := by omega
      subst e
      exact .inl ⟨Nat.le_refl _, hd σ' F' H' g' e' p⟩
theorem q_forR {ta : TA} {n : Int} (g : Gr F0 H0 F H) (h : EvDs K ta σ F H [.int n]) (h1 : -(2 ^ 62) ≤ n) (h2 : n < 2 ^ 62) (P : Nat → L2.St → Hp → Hp → Prop) (p0 : ∀ H2, Gr F0 H0 F H2 → Ex H H2 → P 0 σ F H2)
    (hs : ∀ (i : Nat) σ' F' H', (i : Int) < n → Gr F0 H0 F' H' → Ex F F' → P i σ' F' H' → tu { D' with nx := Btw F0 H0 F (P (i + 1)), ct := Btw F0 H0 F (P (i + 1)), bk := tz D' } (σ'.set j (some (.int (i : Int)))) H')
    (hd : ∀ σ' F' H', Gr F0 H0 F' H' → Ex F F' → P n.toNat σ' F' H' → tz D' σ' H') : tSeq (tFor (iRng1 ta) (gName j) tu) tz D' σ H := s_forR (D' := { D' with nx := tz D' }) g h h1 h2 P p0 hs hd
theorem s_forR2 {ta : TA} {lo n : Int} (g : Gr F0 H0 F H) (h : EvDs K ta σ F H [.int lo, .int n]) (h1 : -(2 ^ 62) ≤ lo ∧ lo < 2 ^ 62 ∧ -(2 ^ 62) ≤ n ∧ n < 2 ^ 62) (P : Nat → L2.St → Hp → Hp → Prop) (p0 : ∀ H2, Gr F0 H0 F H2 → Ex H H2 → P 0 σ F H2)
    (hs : ∀ (i : Nat) σ' F' H', lo + (i : Int) < n → Gr F0 H0 F' H' → Ex F F' → P i σ' F' H' → tu { D' with nx := Btw F0 H0 F (P (i + 1)), ct := Btw F0 H0 F (P (i + 1)), bk := D'.nx } (σ'.set j (some (.int (lo + (i : Int))))) H')
    (hd : ∀ σ' F' H', Gr F0 H0 F' H' → Ex F F' → P (n - lo).toNat σ' F' H' → D'.nx σ' H') : tFor (iRng2 ta) (gName j) tu D' σ H :=
  h F H (Ex.refl F) (Ex.refl H) g.fh _ fun vs F2 H2 s hv => by
    obtain ⟨u, w, rfl, hu, hw⟩ := dps2 hv
    cases hu; cases hw
    refine ⟨lo, n, rfl, h1, ?_⟩
    refine ⟨fun i m σ' H' => m = (n - lo).toNat - i ∧ i ≤ (n - lo).toNat ∧ Btw F0 H0 F (P i) σ' H', ⟨(n - lo).toNat, rfl, Nat.zero_le _, F, g.grow s.hx, Ex.refl _, p0 H2 (g.grow s.hx) s.hx⟩, ?_⟩
    rintro i m σ' H' ⟨rfl, hi, F', g', e', p⟩
    by_cases hlt : i < (n - lo).toNat
    · refine .inr ⟨hlt, Btw F0 H0 F (P (i + 1)), fun σ2 H3 p' => ⟨(n - lo).toNat - (i + 1), by omega, rfl, hlt, p'⟩, fun x H3 y => ?_⟩
      obtain ⟨rfl, rfl⟩ := y
      exact hs i σ' F' _ (by omega) g' e' p
    · have e : i = (n - lo).toNat := by omega
      subst e
      exact .inl ⟨Nat.le_refl _, hd σ' F' H' g' e' p⟩
theorem q_forR2 {ta : TA} {lo n : Int} (g : Gr F0 H0 F H) (h : EvDs K ta σ F H [.int lo, .int n]) (h1 : -(2 ^ 62) ≤ lo ∧ lo < 2 ^ 62 ∧ -(2 ^ 62) ≤ n ∧ n < 2 ^ 62) (P : Nat → L2.St → Hp → Hp → Prop) (p0 : ∀ H2, Gr F0 H0 F H2 → Ex H H2 → P 0 σ F H2)
    (hs : ∀ (i : Nat) σ' F' H', lo + (i : Int) < n → Gr F0 H0 F' H' → Ex F F' → P i σ' F' H' → tu { D' with nx := Btw F0 H0 F (P (i + 1)), ct := Btw F0 H0 F (P (i + 1)), bk := tz D' } (σ'.set j (some (.int (lo + (i : Int))))) H')
    (hd : ∀ σ' F' H', Gr F0 H0 F' H' → Ex F F' → P (n - lo).toNat σ' F' H' → tz D' σ' H') : tSeq (tFor (iRng2 ta) (gName j) tu) tz D' σ H := s_forR2 (D' := { D' with nx := tz D' }) g h h1 P p0 hs hd
/-- if c: x = e, an int behind it either way, of which something holds -/
theorem q_ifInt {b : Bool} {S : Int → Prop} (g : Gr F0 H0 F H) (h : EvB t σ F H b) (h1 : b = true → ∃ z, EvD K te σ F H (.int z) ∧ S z) (h2 : b = false → ∃ z, σ.set i (some (.int z)) = σ ∧ S z)
    (k : ∀ z H2, S z → Gr F0 H0 F H2 → Ex H H2 → tz D' (σ.set i (some (.int z))) H2) : tSeq (tIfS t (tAsg te (gName i)) tNext) tz D' σ H :=
  q_when g h (fun hb H2 g2 e2 => by
    obtain ⟨z, hz, sz⟩ := h1 hb
    exact s_setV (D' := { D' with nx := tz D' }) g2 (hz.up (Ex.refl F) e2) rfl fun H3 g3 e3 => k z H3 sz g3 (e2.trans e3)) fun hb H2 g2 e2 => by
    obtain ⟨z, hz, sz⟩ := h2 hb
    have q := k z H2 sz g2 e2
    rw [hz] at q
    exact q
/-! ### comprehensions -/
theorem n_lc {vs : List Nat} (h : EvW K wi σ F H ds) (hz : ds.length ≤ 50000) (f : D → Bool) (e : D → D) (hw : ∀ x, wipe ((wipe σ vs).set j (some x)) vs = wipe σ vs)
    (ht : ∀ d x F' H', d ∈ ds → Ex F F' → Ex H H' → Ex F' H' → Dp K F' x d → EvB tt ((wipe σ vs).set j (some x)) F' H' (f d))
    (he : ∀ d x F' H', d ∈ ds → f d = true → Ex F F' → Ex H H' → Ex F' H' → Dp K F' x d → EvD K te ((wipe σ vs).set j (some x)) F' H' (e d)) :
    EvN K (tLc wi (gName j) tt te vs) σ F H ((ds.filter f).map e) := fun F1 H1 e1 e2 e3 Q q => h F1 H1 e1 e2 e3 _ fun J F2 H2 g2 wk Dl hD => by
  have f2 : F2 Dl = none := fresh_back g2.fh hD
  refine ⟨fun i m H' => m = ds.length - i ∧ i ≤ ds.length ∧ ∃ F' ws, Gr F2 H2 F' H' ∧ F' Dl = none ∧ H' Dl = some (.lst ws) ∧ DpAll K F' ws (((ds.take i).filter f).map e),
    ⟨ds.length, rfl, Nat.zero_le _, F2, [], Gr.own g2.fh hD, f2, upd_same, .nil⟩, ?_⟩
  rintro i m H' ⟨rfl, hi, F', ws, g', fl, hl, ha⟩
  by_cases hlt : i < ds.length
  · refine .inr ⟨wk.go H' i (g'.fx.trans g'.fh) hlt, fun H'' => ∃ F'' ws', Gr F2 H2 F'' H'' ∧ F'' Dl = none ∧ H'' Dl = some (.lst ws') ∧ DpAll K F'' ws' (((ds.take (i + 1)).filter f).map e), fun H'' p' => ⟨ds.length - (i + 1), by omega, rfl, hlt, p'⟩, fun x H3 y => ?_⟩
    obtain ⟨F3, d, g3, hd3, hx⟩ := wk.yld F' H' i x H3 hlt g'.fx g'.fh y
    have hm : d ∈ ds := List.mem_of_getElem? hd3
    have hne : H' Dl ≠ none := by rw [hl]; exact fun z => nomatch z
    have f3 : F3 Dl = none := (g3.old Dl hne).trans fl
    have l3 := g3.hx Dl _ hl
    have x1 : Ex F F3 := ((e1.trans g2.fx).trans g'.fx).trans g3.fx
    have x2 : Ex H H3 := ((e2.trans g2.hx).trans g'.hx).trans g3.hx
    have et : ds.take (i + 1) = ds.take i ++ [d] := by rw [List.take_add_one, hd3]; rfl
    refine ⟨hw x, ht d x F3 H3 hm x1 x2 g3.fh hx F3 H3 (Ex.refl _) (Ex.refl _) g3.fh _ fun H4 e4 => ?_⟩
    have g4 : Gr F2 H2 F3 H4 := (g'.trans g3).grow e4
    cases hf : f d with
    | true =>
      show te _ H4 _
      refine he d x F3 H4 hm hf x1 (x2.trans e4) g4.fh hx F3 H4 (Ex.refl _) (Ex.refl _) g4.fh _ fun v F5 H5 g5 hv => ?_
      have l4 := e4 Dl _ l3
      have l5 := g5.hx Dl _ l4
      have f5 : F5 Dl = none := (g5.old Dl (by rw [l4]; exact fun z => nomatch z)).trans f3
      have hlen : ws.length ≤ i := by
        rw [ha.length, List.length_map]
        exact Nat.le_trans (List.length_filter_le _ _) (by rw [List.length_take]; omega)
      refine ⟨ws, l5, sz_lt (by omega), F5, ws ++ [v], (g4.trans g5).mut hD f5, f5, upd_same, ?_⟩
      rw [et, List.filter_append, List.map_append]
      have : [d].filter f = [d] := by simp [hf]
      rw [this]
      exact (ha.up (g3.fx.trans g5.fx)).append (.cons hv .nil)
    | false =>
      show ∃ F'' ws', _
      refine ⟨F3, ws, g4, f3, e4 Dl _ l3, ?_⟩
      rw [et, List.filter_append, List.map_append]
      have : [d].filter f = [] := by simp [hf]
      rw [this, List.map_nil, List.append_nil]
      exact ha.up g3.fx
  · have ei : i = ds.length := by omega
    subst ei
    rw [List.take_length] at ha
    refine .inl ⟨wk.stop H' _ (g'.fx.trans g'.fh) (Nat.le_refl _), q Dl ws F' H' (g2.trans g') (g2.back hD) fl hl ha⟩
theorem filter_all {α : Type} (xs : List α) : xs.filter (fun _ => true) = xs := by induction xs with
  | nil => rfl
  | cons x r ih => simp [List.filter_cons]
/-- without if -/
theorem n_lc1 {vs : List Nat} (h : EvW K wi σ F H ds) (hz : ds.length ≤ 50000) (e : D → D) (hw : ∀ x, wipe ((wipe σ vs).set j (some x)) vs = wipe σ vs)
    (he : ∀ d x F' H', d ∈ ds → Ex F F' → Ex H H' → Ex F' H' → Dp K F' x d → EvD K te ((wipe σ vs).set j (some x)) F' H' (e d)) :
    EvN K (tLc wi (gName j) tYes te vs) σ F H (ds.map e) :=
  (n_lc h hz (fun _ => true) e hw (fun _ _ _ _ _ _ _ _ _ => b_yes) (fun d x F' H' hm _ => he d x F' H' hm)).to (by rw [filter_all])
end
section
variable {P : Program} {w : World} {K : Fg} {mg : Str → Option Value} {base : Heap} {k : Nat} {x : Str} {st : Stmt} {N ps : List Str}
theorem Df.dkN {R : List D → List D → Prop} (D0 : Df K mg x st ps) (S : FnScope N ps (defScope st)) (hl : ∀ ds r, R ds r → ds.length = ps.length)
    (hb : ∀ (f : Addr) (cdv : Value) (A : Around) (outer : List Env) (s : Shared) (H : Hp) (E : XK), Room k (A.deeper (envOfC x (defScope st) s.heap.objs.size f cdv)) →
      ∃ t, PSs (cxOf CX0 P w K mg base N x (defScope st) f cdv A outer s H E).nox (defBody st) t ∧
        ∀ vs F0 ds es Q, Ex F0 H → DpAll K F0 vs ds → R ds es → AnsN K F0 H es Q → t { nx := fun _ H' => Q .non H', rt := Q } (start N vs) H) : Dk P w K mg base (k + 1) x ps (spN K R) := by
  refine D0.dkS S (fun vs H Q E ⟨F, ds, es, _, ha, hr, _⟩ => by rw [ha.length]; exact hl ds es hr) fun f cdv A outer s H E hr => ?_
  obtain ⟨t, h1, h2⟩ := hb f cdv A outer s H E hr
  exact ⟨t, h1, fun vs Q ⟨F0, ds, r, fh, ha, hR, q⟩ => h2 vs F0 ds r Q fh ha hR q⟩
end
end Ly
/-! LyD: methods of texts and lists, more built-ins. -/
namespace Ly
open PySem L2 Evl PyProof.Rows
section
variable {X : Cx} {K : Fg} {o e : Expr} {es : List Expr} {to : TE} {t : TA} {name : Str} {apos cpos : Pos} {T id : String} {r : V → List V → Hp → VK → Prop}
theorem bm0 (pa : PlainAttrs T) (slot : Slot T name id) (hty : typeOf (.builtin id) = pure (.type "method_descriptor")) (hm : MtR X id r) (ho : PE X o to) (hK : X.K = K := by rfl)
    (hbase : attributeBase o name X.env (eval o X.env) = eval o X.env := by rfl) (hline : (apos.endLine == cpos.line) = true := by rfl) : PE X (.Call (.Attribute o name apos) [] [] cpos) (tBM0 K T r to) := by
  subst hK
  exact pe_bm0 pa slot hty hm ho hbase hline
theorem bm (pa : PlainAttrs T) (slot : Slot T name id) (hty : typeOf (.builtin id) = pure (.type "method_descriptor")) (hm : MtR X id r) (ho : PE X o to) (ha : PA X (e :: es) t) (hK : X.K = K := by rfl)
    (hbase : attributeBase o name X.env (eval o X.env) = eval o X.env := by rfl)
    (hfew : ((backTo cpos (starEach (e :: es) X.env)).all (fun x => !x.1) && (backToKw cpos (keywordEach [] X.env)).all (fun x => x.1.isSome)
      && decide ((e :: es).length + ([] : List Keyword).length + (if ([] : List Keyword).isEmpty then 0 else 1) < 30)) = true := by rfl)
    (hline : (apos.endLine == cpos.line) = true := by rfl) (hs : starEach (e :: es) X.env = (false, eval e X.env) :: starEach es X.env := by rfl) (hplain : (backTo cpos (starEach es X.env)).any (·.1) = false := by rfl) :
    PE X (.Call (.Attribute o name apos) (e :: es) [] cpos) (tBM K T r to t) := by
  subst hK
  exact pe_bm pa slot hty hm ho ha hbase hfew hline hs hplain
end
/-! ### methods of texts -/
inductive IndexD : D → List D → D → Prop
  | mk (a b : Str) (i : Nat) (rest : List Nat) (h : Builtin.Str.occurrences a b 0 a.length 1 = i :: rest) : IndexD (.str a) [.str b] (.int (i : Int))
inductive FindD : D → List D → D → Prop
  | mk (a b : Str) : FindD (.str a) [.str b] (.int (match Builtin.Str.occurrences a b 0 a.length 1 with | i :: _ => (i : Int) | [] => -1))
inductive JoinD : D → List D → D → Prop
  | list (a : Str) (ys : List Str) (h : (ys.map (·.length)).sum + ys.length * a.length ≤ 16777216) : JoinD (.str a) [.list (ys.map PyData.str)] (.str (Txt.join a ys))
section
variable {K : Fg} {X : Cx} {σ : L2.St} {F H : Hp} {to : TE} {t : TA} {ds : List D} {r : D} {z : Str}
theorem mt_of {id : String} {rr : V → List V → Hp → VK → Prop} {R : D → List D → D → Prop} (h : MtR X id rr)
    (hr : ∀ F H x xs d ds z Q, Ex F H → Dp X.K F x d → DpAll X.K F xs ds → R d ds z → Ans X.K F H z Q → rr x xs H Q) (hK : X.K = K := by rfl) : MtR X id (rDm K R) := by
  subst hK
  exact fun pins s σ H x xs v us Q I rx rs ⟨F, d, ds, z, fh, hx, hxs, hR, q⟩ => h pins s σ H x xs v us Q I rx rs (hr F H x xs d ds z Q fh hx hxs hR q)
theorem mIndex (hK : X.K = K := by rfl) : MtR X "str.index" (rDm K IndexD) := mt_of mt_sindex (fun F H x xs d ds z Q fh hx hxs hR q => by
  obtain ⟨a, b, i, rest, h⟩ := hR
  obtain ⟨v, rfl, hv⟩ := dps1 hxs
  cases hx; cases hv
  exact ⟨a, b, i, rest, rfl, rfl, h, q.sc fh rfl⟩) hK
theorem mFind (hK : X.K = K := by rfl) : MtR X "str.find" (rDm K FindD) := mt_of mt_find (fun F H x xs d ds z Q fh hx hxs hR q => by
  obtain ⟨a, b⟩ := hR
  obtain ⟨v, rfl, hv⟩ := dps1 hxs
  cases hx; cases hv
  exact ⟨a, b, rfl, rfl, q.sc fh rfl⟩) hK
theorem mJoin (hK : X.K = K := by rfl) : MtR X "str.join" (rDm K JoinD) := mt_of mt_join (fun F H x xs d ds z Q fh hx hxs hR q => by
  obtain ⟨a, ys, h⟩ := hR
  obtain ⟨v, rfl, hv⟩ := dps1 hxs
  cases hx
  cases hv with
  | lst s1 a1 =>
    have e := dps_strs_inv ys a1
    subst e
    exact ⟨a, _, ys, rfl, rfl, .inl (ex_l fh s1), h, q.sc fh rfl⟩) hK
theorem d_bm {R : D → List D → D → Prop} (ho : EvD K to σ F H (.str z)) (ha : EvDs K t σ F H ds) (hr : R (.str z) ds r) : EvD K (tBM K "str" (rDm K R) to t) σ F H r := fun F1 H1 e1 e2 e3 Q q =>
  ho F1 H1 e1 e2 e3 _ fun x F2 H2 g2 hx => ⟨tyV_str hx, ha F2 H2 (e1.trans g2.fx) (e2.trans g2.hx) g2.fh _ fun xs F3 H3 g3 hxs => ⟨F3, .str z, ds, r, g3.fh, hx.up g3.fx, hxs, hr, fun v F4 H4 g4 hv => q v F4 H4 ((g2.trans g3).trans g4) hv⟩⟩
end
/-! ### more calls -/
section
variable {X : Cx} {K : Fg}
theorem jDivmod (hK : X.K = K := by rfl) : CallR X (.builtin "divmod") (rDn K DivmodD) := by
  subst hK
  refine cn_of call_divmod fun F H xs ds z Q fh hx hR q => ?_
  cases hR with
  | int i j h =>
    obtain ⟨v, w, rfl, hv, hw⟩ := dps2 hx
    cases hv; cases hw
    exact ⟨i, j, rfl, h, fun p hp => q.tup fh (.cons (.int _) (.cons (.int _) .nil)) hp⟩
theorem jAll (hc : X.calm = true) (hK : X.K = K := by rfl) : CallR X (.builtin "all") (rDn K AllD) := by
  subst hK
  refine cn_of (cr_all hc) fun F H xs ds z Q fh hx hR q => ?_
  cases hR with
  | list bs =>
    obtain ⟨v, rfl, hv⟩ := dps1 hx
    cases hv with
    | lst s1 a1 =>
      have e := dps_bools_inv bs a1
      subst e
      exact ⟨_, bs, rfl, ex_l fh s1, q.sc fh rfl⟩
theorem jAny (hc : X.calm = true) (hK : X.K = K := by rfl) : CallR X (.builtin "any") (rDn K AnyD) := by
  subst hK
  refine cn_of (cr_any hc) fun F H xs ds z Q fh hx hR q => ?_
  cases hR with
  | list bs =>
    obtain ⟨v, rfl, hv⟩ := dps1 hx
    cases hv with
    | lst s1 a1 =>
      have e := dps_bools_inv bs a1
      subst e
      exact ⟨_, bs, rfl, ex_l fh s1, q.sc fh rfl⟩
theorem jSum (hc : X.calm = true) (hK : X.K = K := by rfl) : CallR X (.builtin "sum") (rDn K SumD) := by
  subst hK
  refine cn_of (cr_sum hc) fun F H xs ds z Q fh hx hR q => ?_
  cases hR with
  | list ns =>
    obtain ⟨v, rfl, hv⟩ := dps1 hx
    cases hv with
    | lst s1 a1 =>
      have e := dps_ints_inv ns a1
      subst e
      exact ⟨_, ns, rfl, ex_l fh s1, q.sc fh rfl⟩
end
/-! ### texts by their signs -/
theorem str_app (a b : List Nat) : (⟨a.toArray⟩ ++ ⟨b.toArray⟩ : Str) = ⟨(a ++ b).toArray⟩ := by
  show Str.append _ _ = _
  unfold Str.append
  simp
theorem str_len (a : List Nat) : (⟨a.toArray⟩ : Str).length = a.length := by
  unfold Str.length
  simp
end Ly
namespace Ly
open PySem L2 Evl PyProof.Rows
/-! ### calls with keywords, n positional ones ahead, the keywords in the parameters' order -/
def gOf {α : Type} (n : Nat) (us ws : List α) : List α := if us.length = n then us ++ ws else []
section
variable {P : Program} {w : World} {K : Fg} {mg : Str → Option Value} {base : Heap} {k : Nat} {x : Str} {st : Stmt} {ps ks : List Str}
theorem clK {X : Cx} {sp : Sp} {p pos : Pos} {e : Expr} {es : List Expr} {kws : List Keyword} {t tk : TA} {j : Nat} (h : Dk P w K mg base k x ps sp) (D0 : Df K mg x st ps) (hr : Room j X.A) (n m : Nat) (hn : 0 < ps.length) (hnm : n + m = ps.length)
    (hb : ∀ (kV doc pm : Value) (an : Option Addr) (cdv ct : Value) (us ws : List Value), us.length = n → ws.length = m → bindArgs (PySem.W.fnOf x x (defArgs st) (defBody st) (defScope st) .none kV doc pm an cdv ct) ⟨us, ks.zip ws⟩ = pure (ps.zip (us ++ ws)))
    (ha : PA X (e :: es) t) (hkw : PK X kws tk) (hj : k ≤ j := by first | decide | omega) (hg : Gl X x := by rfl)
    (hP : X.prog = P := by rfl) (hw : X.w = w := by rfl) (hK : X.K = K := by rfl) (hm : X.mg = mg := by rfl) (hB : X.base = base := by rfl)
    (hall : (backToKw pos (keywordEach kws X.env)).all (·.1.isSome) = true := by rfl) (hks : (backToKw pos (keywordEach kws X.env)).filterMap (·.1) = ks := by rfl)
    (hdb : (x == ("__debug__" : Str)) = false := by decide) (he : starEach (e :: es) X.env = (false, eval e X.env) :: starEach es X.env := by rfl)
    (hpl : ((backTo pos (starEach (e :: es) X.env)).any (·.1) || (backToKw pos (keywordEach kws X.env)).any (·.1.isNone)) = false := by rfl) :
    PE X (.Call (.Name x p) (e :: es) kws pos) (tCallK sp (gOf n) E0 t tk) := by
  subst hP hw hK hm hB
  obtain ⟨f, fd, h1, h2, h3, h4, o, l, d⟩ := h.ex
  obtain ⟨f', fd', F, hm', _⟩ := D0.ex
  have e1 := h1.symm.trans hm'
  cases e1
  obtain ⟨o', l', d'⟩ := fun_at F
  have e2 := l.symm.trans l'
  cases e2
  have e3 := d.symm.trans d'
  cases e3
  obtain ⟨oc, od, kV, doc, pm, an, cdv, ct, osl, rfl, lk, hcd⟩ := F.ex
  refine pe_callK h2 (hr.mono hj) hg h1 h3 (g := gOf n) (gV := gOf n) ⟨fun s us ws _ hl => ?_, fun {vs us zs ws} r1 r2 => ?_⟩ pass0 ha hkw hall hks hdb he hpl
  · unfold gOf at hl ⊢
    split at hl
    · rename_i hu
      rw [if_pos hu]
      refine .of_eq (hb kV doc pm an cdv ct us ws hu ?_)
      rw [List.length_append] at hl
      omega
    · rw [List.length_nil] at hl
      omega
  · unfold gOf
    rw [r1.length]
    split
    · exact r1.append r2
    · exact .nil
theorem d_callK {R : List D → D → Prop} {E : XK} {σ : L2.St} {F H : Hp} {ta tk : TA} {n : Nat} {ds es : List D} {r : D} (ha : EvDs K ta σ F H ds) (hk : EvDs K tk σ F H es) (hn : ds.length = n) (hr : R (ds ++ es) r) : EvD K (tCallK (spR K R) (gOf n) E ta tk) σ F H r := fun F1 H1 e1 e2 e3 Q q =>
  ha F1 H1 e1 e2 e3 _ fun xs F2 H2 g2 hx => hk F2 H2 (e1.trans g2.fx) (e2.trans g2.hx) g2.fh _ fun ys F3 H3 g3 hy => by
    show rDn K R (gOf n xs ys) H3 Q
    have e : gOf n xs ys = xs ++ ys := by unfold gOf; rw [if_pos (by rw [hx.length]; exact hn)]
    rw [e]
    exact ⟨F3, ds ++ es, r, g3.fh, (hx.up g3.fx).append hy, hr, fun v F4 H4 g4 hv => q v F4 H4 ((g2.trans g3).trans g4) hv⟩
end
end Ly
/-! LyE: xs[i] += e, sums of tuples. -/
namespace Ly
open PySem L2 Evl PyProof.Rows
/-! ### xs[i] op= e of a list that is one's own -/
def rGetL : V → V → Hp → VK → Prop := fun o i H Q => ∃ (l : Addr) (xs : List V) (n : Nat) (v : V), o = .ref l ∧ i = .int (n : Int) ∧ H l = some (.lst xs) ∧ xs[n]? = some v ∧ Q v H
theorem get_list {X : Cx} : PGet X rGetL := by
  intro pins s σ H o i ov iv Q I ro ri h
  obtain ⟨l, xs, n, v, rfl, rfl, hl, hx, q⟩ := h
  cases ro
  obtain ⟨t, rfl⟩ := ri
  obtain ⟨its, r, pl, hz⟩ := I.list (SqL.of hl)
  obtain ⟨u, hu, ru⟩ := r.get hx
  have hn := (List.getElem?_eq_some_iff.mp hx).1
  have h63 := line63
  exact wpAny_getItem_list pl.isList (Int.natCast_nonneg n) (by omega) (by rw [Int.toNat_natCast]; simpa using hu) ⟨v, H, I, ru, q⟩
section
variable {K : Fg} {σ : L2.St} {F H F0 H0 : Hp} {te ti : TE} {i : Nat} {D' : Ends} {tz : TS}
theorem s_augL {f : Int → Int → Int} {l : Addr} {xs : List V} {n : Nat} {a b : Int} (g : Gr F0 H0 F H) (hl0 : H0 l = none) (fl : F l = none) (hl : H l = some (.lst xs)) (hv : σ[i]? = some (some (.ref l))) (hi : EvD K ti σ F H (.int (n : Int))) (hx : xs[n]? = some (.int a)) (h : EvD K te σ F H (.int b))
    (k : ∀ H2, Gr F0 H0 F H2 → (∀ p o, p ≠ l → H p = some o → H2 p = some o) → H2 l = some (.lst (xs.set n (.int (f a b)))) → D'.nx σ H2) : tAugS (tVar i) ti te rGetL (ipI f) rSetL D' σ H := by
  refine ⟨.ref l, hv, hi F H (Ex.refl F) (Ex.refl H) g.fh _ fun w F2 H2 s2 hw => ?_⟩
  cases hw
  refine ⟨l, xs, n, .int a, rfl, rfl, s2.hx _ _ hl, hx, h F H2 (Ex.refl F) s2.hx (g.fh.trans s2.hx) _ fun w F3 H3 s3 hw => ?_⟩
  cases hw
  have hn := (List.getElem?_eq_some_iff.mp hx).1
  refine ⟨a, b, rfl, rfl, l, xs, (n : Int), n, rfl, rfl, s3.hx _ _ (s2.hx _ _ hl), ixN_nat hn, ?_⟩
  refine k _ (((g.grow s2.hx).grow s3.hx).mut hl0 fl) (fun p o hp ho => ?_) upd_same
  rw [upd_ne hp]
  exact s3.hx p o (s2.hx p o ho)
theorem q_augL {f : Int → Int → Int} {l : Addr} {xs : List V} {n : Nat} {a b : Int} (g : Gr F0 H0 F H) (hl0 : H0 l = none) (fl : F l = none) (hl : H l = some (.lst xs)) (hv : σ[i]? = some (some (.ref l))) (hi : EvD K ti σ F H (.int (n : Int))) (hx : xs[n]? = some (.int a)) (h : EvD K te σ F H (.int b))
    (k : ∀ H2, Gr F0 H0 F H2 → (∀ p o, p ≠ l → H p = some o → H2 p = some o) → H2 l = some (.lst (xs.set n (.int (f a b)))) → tz D' σ H2) : tSeq (tAugS (tVar i) ti te rGetL (ipI f) rSetL) tz D' σ H := s_augL (D' := { D' with nx := tz D' }) g hl0 fl hl hv hi hx h k
end
/-! ### calls that hand out a new list -/
def rNew (K : Fg) (R : List D → List D → Prop) : List V → Hp → VK → Prop := fun vs H Q => ∃ F ds es, Ex F H ∧ DpAll K F vs ds ∧ R ds es ∧ AnsN K F H es Q
inductive ListN : List D → List D → Prop
  | list (ds : List D) : ListN [.list ds] ds
  | tup (ds : List D) : ListN [.tuple ds] ds
theorem AnsN.lst {K : Fg} {F H : Hp} {es : List D} {Q : VK} (q : AnsN K F H es Q) (fh : Ex F H) {vs : List V} (h : DpAll K F vs es) {p : Addr} (hp : H p = none) : Q (.ref p) (upd H p (.lst vs)) :=
  q p vs F _ (Gr.own fh hp) hp (fresh_back fh hp) upd_same h
theorem jListN {X : Cx} {K : Fg} (hK : X.K = K := by rfl) : CallR X (.type "list") (rNew K ListN) := by
  subst hK
  rintro pins s σ H xs us Q I rx ⟨F, ds, es, fh, hx, hR, q⟩
  refine call_list_of pins s σ H xs us Q I rx ?_
  cases hR with
  | list ds =>
    obtain ⟨v, rfl, hv⟩ := dps1 hx
    cases hv with
    | lst s1 a1 => exact ⟨_, _, rfl, .inl (ex_l fh s1), fun p hp => q.lst fh a1 hp⟩
  | tup ds =>
    obtain ⟨v, rfl, hv⟩ := dps1 hx
    cases hv with
    | tup s1 a1 => exact ⟨_, _, rfl, .inr (ex_t fh s1), fun p hp => q.lst fh a1 hp⟩
theorem n_cb {K : Fg} {σ : L2.St} {F H : Hp} {R : List D → List D → Prop} {ta : TA} {ds es : List D} (ha : EvDs K ta σ F H ds) (hr : R ds es) : EvN K (tCB (rNew K R) ta) σ F H es := fun F1 H1 e1 e2 e3 Q q =>
  ha F1 H1 e1 e2 e3 _ fun xs F2 H2 g2 hx => ⟨F2, ds, es, g2.fh, hx, hr, fun p ws F3 H3 g3 hp fp hl ha => q p ws F3 H3 (g2.trans g3) (g2.back hp) fp hl ha⟩
/-! ### sum of a tuple of ints -/
inductive SumTD : List D → D → Prop
  | list (ns : List Int) : SumTD [.list (ns.map PyData.int)] (.int ns.sum)
  | tup (ns : List Int) : SumTD [.tuple (ns.map PyData.int)] (.int ns.sum)
theorem sum_rawT {prog : Program} {w : World} {A : Around} {E : Value → Shared → Prop} {s : Shared} {l : Addr} {its : List Value} {ns : List Int} {Q : Value → Shared → Prop} (hh : A.handled = none) (hl : s.heap.IsTuple l its.toArray) (hi : IntsAre its ns)
    (h : ∀ h' tk t', (∀ b o, s.heap.get? b = some o → h'.get? b = some o) → Q (.int ns.sum t') { s with heap := h', toks := tk }) : wpAny (model prog w) A (call (.builtin "sum") [.ref l]) Q E s := by
  obtain ⟨xs, e⟩ := hi.allInts.items
  have hn : numsOf (intItems xs).toList = ns := by rw [← e]; exact hi.numsOf
  rw [nums_intItems] at hn
  rw [e] at hl
  refine PySem.W.ktm_sumG hh hl fun h' tk t' hk => ?_
  have := h h' tk t' hk
  rw [preSum_eq, List.take_of_length_le (by simp), hn]; exact this
section
variable {X : Cx} {K : Fg}
theorem jSumT (hc : X.calm = true) (hK : X.K = K := by rfl) : CallR X (.builtin "sum") (rDn K SumTD) := by
  subst hK
  rintro pins s σ H xs us Q I rx ⟨F, ds, z, fh, hx, hR, q⟩
  cases hR with
  | list ns =>
    obtain ⟨v, rfl, hv⟩ := dps1 hx
    cases hv with
    | lst s1 a1 =>
      have e := dps_ints_inv ns a1
      subst e
      exact cr_sum hc pins s σ H _ us Q I rx ⟨_, ns, rfl, ex_l fh s1, q.sc fh rfl⟩
  | tup ns =>
    obtain ⟨v, rfl, hv⟩ := dps1 hx
    cases hv with
    | tup s1 a1 =>
      have e := dps_ints_inv ns a1
      subst e
      obtain ⟨its, rv, hl, _⟩ := I.tuple (ex_t fh s1)
      rw [Vals.ref1 rx]
      exact sum_rawT (I.ok.hd hc) hl rv.ints fun h' tk t' hk => ⟨.int _, H, I.kept hk, ⟨_, rfl⟩, q.sc fh rfl⟩
end
end Ly
/-! LyF: ifs that meet again, texts joined. -/
namespace Ly
open PySem L2 Evl PyProof.Rows
section
variable {K : Fg} {σ : L2.St} {F H F0 H0 : Hp} {t : TT} {D' : Ends} {tu tw tz : TS}
/-- an if whose branches meet again in J -/
theorem q_ifJ {b : Bool} (J : L2.St → Hp → Hp → Prop) (g : Gr F0 H0 F H) (h : EvB t σ F H b) (k : ∀ σ' F' H', Gr F0 H0 F' H' → Ex F F' → Ex H H' → J σ' F' H' → tz D' σ' H')
    (h1 : b = true → ∀ H2, Gr F0 H0 F H2 → Ex H H2 → (∀ σ' F' H', Gr F0 H0 F' H' → Ex F F' → Ex H H' → J σ' F' H' → tz D' σ' H') → tu { D' with nx := tz D' } σ H2)
    (h2 : b = false → ∀ H2, Gr F0 H0 F H2 → Ex H H2 → (∀ σ' F' H', Gr F0 H0 F' H' → Ex F F' → Ex H H' → J σ' F' H' → tz D' σ' H') → tw { D' with nx := tz D' } σ H2) : tSeq (tIfS t tu tw) tz D' σ H :=
  q_if g h (fun hb H2 g2 e2 => h1 hb H2 g2 e2 k) fun hb H2 g2 e2 => h2 hb H2 g2 e2 k
end
/-! ### joined signs -/
theorem joinL_one : ∀ cs : List Nat, TL.joinL [] (cs.map fun c => [c]) = cs
  | [] => rfl
  | [c] => rfl
  | c :: d :: r => by
    have h := joinL_one (d :: r)
    show [c] ++ ([] ++ TL.joinL [] ((d :: r).map fun c => [c])) = _
    rw [h]
    rfl
theorem join_signs (cs : List Nat) : Txt.join ⟨#[]⟩ (cs.map fun c => (⟨#[c]⟩ : Str)) = ⟨cs.toArray⟩ := by
  have h := SX.join_S [] (cs.map fun c => [c])
  rw [List.map_map, joinL_one] at h
  exact h
theorem sum_ones : ∀ cs : List Nat, ((cs.map fun c => (⟨#[c]⟩ : Str)).map (·.length)).sum = cs.length
  | [] => rfl
  | c :: r => by
    have h := sum_ones r
    simp only [List.map_cons, List.sum_cons, List.length_cons]
    rw [h]
    show 1 + r.length = r.length + 1
    omega
theorem atI_getN {cs : List Nat} {i : Int} (h0 : 0 ≤ i) (h1 : i < (cs.length : Int)) : atI cs i = some (cs.getD i.toNat 0) := by
  have hj : i.toNat < cs.length := by omega
  have e : i = ((i.toNat : Nat) : Int) := by omega
  have h : cs[i.toNat]? = some (cs.getD i.toNat 0) := by
    rw [List.getElem?_eq_getElem hj, List.getD_eq_getElem?_getD, List.getElem?_eq_getElem hj]
    rfl
  exact (congrArg (atI cs) e).trans (atI_nat h)
end Ly
/-! LyG: recursion, pairs as targets, pop, reverse, str(). -/
namespace Ly
open PySem L2 Evl PyProof.Rows
section
variable {P : Program} {w : World} {K : Fg} {mg : Str → Option Value} {base : Heap} {k : Nat} {x : Str} {st : Stmt} {N ps : List Str}
/-- of a def that is never called so, anything -/
theorem Df.dk0 {R : List D → D → Prop} (D0 : Df K mg x st ps) (no : ∀ ds r, ¬ R ds r) : Dk P w K mg base k x ps (spR K R) := by
  obtain ⟨f, fd, F, hm, b⟩ := D0.ex
  have no' : ∀ vs H Q E, ¬ spR K R vs H Q E := fun vs H Q E ⟨_, ds, r, _, _, hR, _⟩ => no ds r hR
  exact ⟨f, fd, hm, ⟨fun vs H Q E h => (no' vs H Q E h).elim, fun A outer s H args us vs Q E _ _ _ _ h => (no' vs H Q E h).elim⟩, F.kp, .all b, fun_at F⟩
end
section
variable {K : Fg} {σ : L2.St} {F H F0 H0 : Hp} {te ti : TE} {i j m : Nat} {D' : Ends} {tz : TS} {gt : TG} {ds : List D} {d : D}
/-! ### a pair as target -/
theorem g_two {x : V} {d1 d2 : D} {Q : L2.St → Hp → Prop} (hx : Dp K F x (.tuple [d1, d2])) (e : Ex F H) (k : ∀ v1 v2, Dp K F v1 d1 → Dp K F v2 d2 → Q ((σ.set i (some v1)).set j (some v2)) H) : gTup K 2 (gCons (gName i) (gCons (gName j) gNil)) x σ H Q := by
  cases hx with
  | tup hs ha =>
    obtain ⟨v1, v2, rfl, h1, h2⟩ := dps2 ha
    exact ⟨_, _, rfl, ex_t e hs, rfl, v1, [v2], rfl, v2, [], rfl, rfl, k v1 v2 h1 h2⟩
/-- a, b = e -/
theorem s_set2 {d1 d2 : D} (g : Gr F0 H0 F H) (h : EvD K te σ F H (.tuple [d1, d2])) (k : ∀ v1 v2 F2 H2, Gr F0 H0 F2 H2 → Gr F H F2 H2 → Dp K F2 v1 d1 → Dp K F2 v2 d2 → D'.nx ((σ.set i (some v1)).set j (some v2)) H2) : tAsg te (gTup K 2 (gCons (gName i) (gCons (gName j) gNil))) D' σ H :=
  h F H (Ex.refl F) (Ex.refl H) g.fh _ fun v F2 H2 s hv => g_two hv s.fh fun v1 v2 h1 h2 => k v1 v2 F2 H2 (g.trans s) s h1 h2
theorem q_set2 {d1 d2 : D} (g : Gr F0 H0 F H) (h : EvD K te σ F H (.tuple [d1, d2])) (k : ∀ v1 v2 F2 H2, Gr F0 H0 F2 H2 → Gr F H F2 H2 → Dp K F2 v1 d1 → Dp K F2 v2 d2 → tz D' ((σ.set i (some v1)).set j (some v2)) H2) : tSeq (tAsg te (gTup K 2 (gCons (gName i) (gCons (gName j) gNil)))) tz D' σ H := s_set2 (D' := { D' with nx := tz D' }) g h k
/-! ### xs.pop() of one's own list -/
theorem dpsLast : ∀ {vs : List V} {ds : List D} {d : D}, DpAll K F vs (ds ++ [d]) → ∃ us v, vs = us ++ [v] ∧ DpAll K F us ds ∧ Dp K F v d
  | _, [], _, h => by
    obtain ⟨v, rfl, hv⟩ := dps1 h
    exact ⟨[], v, rfl, .nil, hv⟩
  | _, _ :: _, _, .cons h1 h2 => by
    obtain ⟨us, v, rfl, h3, h4⟩ := dpsLast h2
    exact ⟨_ :: us, v, rfl, .cons h1 h3, h4⟩
/-- what a pop gives, told of the reading -/
theorem t_pop {l : Addr} {vs : List V} {Q : VK} (g : Gr F0 H0 F H) (hl0 : H0 l = none) (fl : F l = none) (hl : H l = some (.lst vs)) (hv : σ[i]? = some (some (.ref l))) (ha : DpAll K F vs (ds ++ [d]))
    (k : ∀ us v H2, Gr F0 H0 F H2 → (∀ p o, p ≠ l → H p = some o → H2 p = some o) → H2 l = some (.lst us) → DpAll K F us ds → Dp K F v d → Q v H2) : (tBM0 K "list" rPop (tVar i)) σ H Q := by
  obtain ⟨us, v, rfl, h1, h2⟩ := dpsLast ha
  refine ⟨.ref l, hv, .inl ⟨rfl, _, sq_of hl⟩, l, us ++ [v], v, rfl, rfl, hl, by simp, ?_⟩
  rw [List.dropLast_concat]
  exact k us v _ (g.mut hl0 fl) (fun p o hp ho => by rw [upd_ne hp]; exact ho) upd_same h1 h2
theorem q_pop {l : Addr} {vs : List V} (g : Gr F0 H0 F H) (hl0 : H0 l = none) (fl : F l = none) (hl : H l = some (.lst vs)) (hv : σ[i]? = some (some (.ref l))) (ha : DpAll K F vs (ds ++ [d]))
    (k : ∀ us v H2, Gr F0 H0 F H2 → (∀ p o, p ≠ l → H p = some o → H2 p = some o) → H2 l = some (.lst us) → DpAll K F us ds → Dp K F v d → tz D' (σ.set j (some v)) H2) :
    tSeq (tAsg (tBM0 K "list" rPop (tVar i)) (gName j)) tz D' σ H := t_pop g hl0 fl hl hv ha k
theorem q_pop2 {l : Addr} {vs : List V} {d1 d2 : D} (g : Gr F0 H0 F H) (hl0 : H0 l = none) (fl : F l = none) (hl : H l = some (.lst vs)) (hv : σ[i]? = some (some (.ref l))) (ha : DpAll K F vs (ds ++ [.tuple [d1, d2]]))
    (k : ∀ us v1 v2 H2, Gr F0 H0 F H2 → (∀ p o, p ≠ l → H p = some o → H2 p = some o) → H2 l = some (.lst us) → DpAll K F us ds → Dp K F v1 d1 → Dp K F v2 d2 → tz D' ((σ.set j (some v1)).set m (some v2)) H2) :
    tSeq (tAsg (tBM0 K "list" rPop (tVar i)) (gTup K 2 (gCons (gName j) (gCons (gName m) gNil)))) tz D' σ H :=
  t_pop g hl0 fl hl hv ha fun us v H2 g2 o2 l2 h1 h2 => g_two h2 g2.fh fun v1 v2 h3 h4 => k us v1 v2 H2 g2 o2 l2 h1 h3 h4
/-! ### xs.reverse() -/
theorem dpsRev : ∀ {vs : List V} {ds : List D}, DpAll K F vs ds → DpAll K F vs.reverse ds.reverse
  | [], [], .nil => .nil
  | _ :: _, _ :: _, .cons h1 h2 => by
    rw [List.reverse_cons, List.reverse_cons]
    exact (dpsRev h2).append (.cons h1 .nil)
theorem s_rev {l : Addr} {xs : List V} (g : Gr F0 H0 F H) (hl0 : H0 l = none) (fl : F l = none) (hl : H l = some (.lst xs)) (hv : σ[i]? = some (some (.ref l))) (k : ∀ H2, Gr F0 H0 F H2 → (∀ p o, p ≠ l → H p = some o → H2 p = some o) → H2 l = some (.lst xs.reverse) → D'.nx σ H2) :
    tDrop (tBM0 K "list" rReverse (tVar i)) D' σ H :=
  ⟨.ref l, hv, .inl ⟨rfl, xs, sq_of hl⟩, l, xs, rfl, rfl, hl, k _ (g.mut hl0 fl) (fun p o hp ho => by rw [upd_ne hp]; exact ho) upd_same⟩
/-! ### comprehensions over pairs -/
theorem n_lcT {vs : List Nat} {wi : TI} {tt : TT} (h : EvW K wi σ F H ds) (hz : ds.length ≤ 50000) (a b : D → D) (hp : ∀ d ∈ ds, d = .tuple [a d, b d]) (f : D → Bool) (e : D → D) (hw : ∀ x y, wipe (((wipe σ vs).set i (some x)).set j (some y)) vs = wipe σ vs)
    (ht : ∀ d x y F' H', d ∈ ds → Ex F F' → Ex H H' → Ex F' H' → Dp K F' x (a d) → Dp K F' y (b d) → EvB tt (((wipe σ vs).set i (some x)).set j (some y)) F' H' (f d))
    (he : ∀ d x y F' H', d ∈ ds → f d = true → Ex F F' → Ex H H' → Ex F' H' → Dp K F' x (a d) → Dp K F' y (b d) → EvD K te (((wipe σ vs).set i (some x)).set j (some y)) F' H' (e d)) :
    EvN K (tLc wi (gTup K 2 (gCons (gName i) (gCons (gName j) gNil))) tt te vs) σ F H ((ds.filter f).map e) := fun F1 H1 e1 e2 e3 Q q => h F1 H1 e1 e2 e3 _ fun J F2 H2 g2 wk Dl hD => by
  have f2 : F2 Dl = none := fresh_back g2.fh hD
  refine ⟨fun i m H' => m = ds.length - i ∧ i ≤ ds.length ∧ ∃ F' ws, Gr F2 H2 F' H' ∧ F' Dl = none ∧ H' Dl = some (.lst ws) ∧ DpAll K F' ws (((ds.take i).filter f).map e),
    ⟨ds.length, rfl, Nat.zero_le _, F2, [], Gr.own g2.fh hD, f2, upd_same, .nil⟩, ?_⟩
  rintro i m H' ⟨rfl, hi, F', ws, g', fl, hl, ha⟩
  by_cases hlt : i < ds.length
  · refine .inr ⟨wk.go H' i (g'.fx.trans g'.fh) hlt, fun H'' => ∃ F'' ws', Gr F2 H2 F'' H'' ∧ F'' Dl = none ∧ H'' Dl = some (.lst ws') ∧ DpAll K F'' ws' (((ds.take (i + 1)).filter f).map e), fun H'' p' => ⟨ds.length - (i + 1), by omega, rfl, hlt, p'⟩, fun x H3 y => ?_⟩
    obtain ⟨F3, d, g3, hd3, hx⟩ := wk.yld F' H' i x H3 hlt g'.fx g'.fh y
    have hm : d ∈ ds := List.mem_of_getElem? hd3
    have hne : H' Dl ≠ none := by rw [hl]; exact fun z => nomatch z
    have f3 : F3 Dl = none := (g3.old Dl hne).trans fl
    have l3 := g3.hx Dl _ hl
    have x1 : Ex F F3 := ((e1.trans g2.fx).trans g'.fx).trans g3.fx
    have x2 : Ex H H3 := ((e2.trans g2.hx).trans g'.hx).trans g3.hx
    have et : ds.take (i + 1) = ds.take i ++ [d] := by rw [List.take_add_one, hd3]; rfl
    rw [hp d hm] at hx
    refine g_two hx g3.fh fun v1 v2 h1 h2 => ?_
    refine ⟨hw v1 v2, ht d v1 v2 F3 H3 hm x1 x2 g3.fh h1 h2 F3 H3 (Ex.refl _) (Ex.refl _) g3.fh _ fun H4 e4 => ?_⟩
    have g4 : Gr F2 H2 F3 H4 := (g'.trans g3).grow e4
    cases hf : f d with
    | true =>
      show te _ H4 _
      refine he d v1 v2 F3 H4 hm hf x1 (x2.trans e4) g4.fh h1 h2 F3 H4 (Ex.refl _) (Ex.refl _) g4.fh _ fun v F5 H5 g5 hv => ?_
      have l4 := e4 Dl _ l3
      have l5 := g5.hx Dl _ l4
      have f5 : F5 Dl = none := (g5.old Dl (by rw [l4]; exact fun z => nomatch z)).trans f3
      have hlen : ws.length ≤ i := by
        rw [ha.length, List.length_map]
        exact Nat.le_trans (List.length_filter_le _ _) (by rw [List.length_take]; omega)
      refine ⟨ws, l5, sz_lt (by omega), F5, ws ++ [v], (g4.trans g5).mut hD f5, f5, upd_same, ?_⟩
      rw [et, List.filter_append, List.map_append]
      have : [d].filter f = [d] := by simp [hf]
      rw [this]
      exact (ha.up (g3.fx.trans g5.fx)).append (.cons hv .nil)
    | false =>
      show ∃ F'' ws', _
      refine ⟨F3, ws, g4, f3, e4 Dl _ l3, ?_⟩
      rw [et, List.filter_append, List.map_append]
      have : [d].filter f = [] := by simp [hf]
      rw [this, List.map_nil, List.append_nil]
      exact ha.up g3.fx
  · have ei : i = ds.length := by omega
    subst ei
    rw [List.take_length] at ha
    refine .inl ⟨wk.stop H' _ (g'.fx.trans g'.fh) (Nat.le_refl _), q Dl ws F' H' (g2.trans g') (g2.back hD) fl hl ha⟩
end
/-! ### str() -/
inductive StrD : List D → D → Prop
  | int (i : Int) (h : i.natAbs.log2 < 1920) : StrD [.int i] (.str (toString i))
  | str (z : Str) : StrD [.str z] (.str z)
section
variable {X : Cx} {K : Fg}
theorem jStr (hK : X.K = K := by rfl) : CallR X (.type "str") (rDn K StrD) := by
  subst hK
  refine cn_of (call_str_int.or SkE.call_str_str) fun F H xs ds z Q fh hx hR q => ?_
  cases hR with
  | int i h =>
    obtain ⟨v, rfl, hv⟩ := dps1 hx
    cases hv
    exact .inl ⟨i, rfl, h, q.sc fh rfl⟩
  | str z =>
    obtain ⟨v, rfl, hv⟩ := dps1 hx
    cases hv
    exact .inr ⟨z, rfl, q.sc fh rfl⟩
end
end Ly

namespace My
open PySem L2 Evl Ly
/-! ### the walk's words, local -/
local macro_rules | `(tactic| wtm_at "side") => `(tactic| first | assumption | omega | decide | exact rfl | trivial)
local macro_rules | `(tactic| wtm_at "dp") => `(tactic| first | exact Dp.int _ | exact Dp.str _ | exact Dp.bl _ | exact Dp.non | assumption | (refine Dp.up (by assumption) ?_; first | assumption | exact Ex.refl _ | (refine Gr.fx ?_; assumption)))
local macro_rules | `(tactic| wtm_at "rel") => `(tactic| first
  | exact AddD.int _ _ | exact AddD.str _ _ (by wtm_at "side") | exact AddD.tup _ _ (by wtm_at "side") | exact AddD.list _ _ (by wtm_at "side") | exact SubD.int _ _
  | exact MulD.int _ _ (.inl ⟨by omega, by omega⟩) | exact MulD.int _ _ (.inr ⟨by omega, by omega⟩)
  | exact DivD.int _ _ ⟨by omega, by omega⟩ | exact DivD.intW _ _ (by assumption) | exact ModD.int _ _ (by wtm_at "side") | exact ShrD.int _ _ (by wtm_at "side") | exact BandD.m31 _
  | exact PowD.int _ _ ⟨by decide, by decide, by decide⟩
  | exact LtD.int _ _ | exact LeD.int _ _ | exact LeD.tup [_, _] [_, _] | exact GtD.int _ _ | exact GeD.int _ _
  | exact EqD.int _ _ | exact EqD.str _ _ | exact EqD.bool _ _ | exact EqD.gen _ _ (by first | rfl | assumption) (by first | rfl | assumption) | exact NeD.int _ _ | exact NeD.str _ _ | exact NeD.bool _ _ | exact NeD.gen _ _ (by first | rfl | assumption) (by first | rfl | assumption)
  | exact IsD.non _ | exact IsD.bool _ _ | exact IsD.bit _ _ | exact NisD.non _ | exact NisD.bool _ _ | exact NisD.bit _ _ | exact NegD.int _
  | exact InD.sign _ _ | exact NinD.sign _ _ | exact InD.list _ _ (by first | rfl | assumption) (by first | rfl | assumption) | exact NinD.list _ _ (by first | rfl | assumption) (by first | rfl | assumption)
  | exact IxD.list _ _ _ (by first | assumption | rfl) | exact IxD.tup _ _ _ (by first | assumption | rfl) | exact IxD.str _ _ _ (by wtm_at "side") (by first | assumption | rfl)
  | exact SlD.list _ _ _ | exact SlD.tup _ _ _ | exact SlD.str _ _ _ (by wtm_at "side")
  | exact LenD.list _ | exact LenD.tup _ | exact LenD.str _ (by wtm_at "side") | exact MaxD.int _ _ | exact MinD.int _ _ | exact IntD.bool _ | exact TupleD.list _ | exact ListN.list _ | exact ListN.tup _
  | exact IndexD.mk _ _ _ _ (by assumption) | exact FindD.mk _ _ | exact JoinD.list _ _ (by wtm_at "side") | exact DivmodD.int _ _ ⟨by omega, by omega⟩ | exact AllD.list _ | exact AnyD.list _ | exact SumTD.list _ | exact SumTD.tup _ | exact StrD.int _ (by wtm_at "side") | exact StrD.str _
  | assumption | (constructor <;> wtm_at "side"))
local macro_rules | `(tactic| wtm_at "ev") => `(tactic| first
  | assumption
  | ((with_reducible apply d_var); exact rfl; wtm_at "dp")
  | ((with_reducible apply d_c); wtm_at "dp")
  | ((with_reducible apply d_op2); wtm_at "ev"; wtm_at "ev"; wtm_at "rel")
  | ((with_reducible apply d_ix); wtm_at "ev"; wtm_at "ev"; wtm_at "rel")
  | ((with_reducible apply d_un); wtm_at "ev"; wtm_at "rel")
  | ((with_reducible apply d_isInt); wtm_at "ev") | ((with_reducible apply d_isBol); wtm_at "ev") | ((with_reducible apply d_isStr); wtm_at "ev") | ((with_reducible apply d_isTup); wtm_at "ev") | ((with_reducible apply d_isLst); wtm_at "ev")
  | ((with_reducible apply EvN.dd); wtm_at "evn")
  | ((with_reducible apply d_cb); wtm_at "evs"; wtm_at "rel")
  | ((with_reducible apply d_bm); wtm_at "ev"; wtm_at "evs"; wtm_at "rel")
  | ((with_reducible apply d_callK); wtm_at "evs"; wtm_at "evs"; exact rfl; wtm_at "rel")
  | ((with_reducible apply d_call); wtm_at "evs"; wtm_at "rel")
  | ((with_reducible apply d_tup); wtm_at "evs"; focus (simp; done)) | ((with_reducible apply d_lst); wtm_at "evs"; focus (simp; done))
  | ((with_reducible apply d_sl); wtm_at "ev"; wtm_at "evi"; wtm_at "evi"; wtm_at "rel")
  | ((with_reducible apply d_chain); wtm_at "ev"; wtm_at "ev"; wtm_at "rel"; (intro _; wtm_at "ev"); (intro _; wtm_at "rel"))
  | ((with_reducible apply d_andV); wtm_at "ev"; (intro _; wtm_at "ev")) | ((with_reducible apply d_orV); wtm_at "ev"; (intro _; wtm_at "ev")) | ((with_reducible apply d_notV); wtm_at "ev")
  | ((with_reducible apply d_if); wtm_at "evb"; (intro _; wtm_at "ev"); (intro _; wtm_at "ev")))
local macro_rules | `(tactic| wtm_at "evs") => `(tactic| first | (with_reducible exact ds_nil) | ((with_reducible apply ds_cons); wtm_at "ev"; wtm_at "evs"))
local macro_rules | `(tactic| wtm_at "evi") => `(tactic| first | (with_reducible exact i_none) | ((with_reducible apply i_some); wtm_at "ev"))
local macro_rules | `(tactic| wtm_at "evb") => `(tactic| first
  | assumption
  | ((with_reducible apply b_var); exact rfl)
  | ((with_reducible apply b_test); wtm_at "ev") | ((with_reducible apply b_B); wtm_at "ev")
  | ((with_reducible apply b_and); wtm_at "evb"; (intro _; wtm_at "evb")) | ((with_reducible apply b_or); wtm_at "evb"; (intro _; wtm_at "evb")) | ((with_reducible apply b_not); wtm_at "evb"))
local macro_rules | `(tactic| wtm_at "evn") => `(tactic| first
  | assumption
  | ((with_reducible apply n_cb); wtm_at "evs"; wtm_at "rel")
  | ((with_reducible apply n_call); wtm_at "evs"; wtm_at "rel")
  | ((with_reducible apply n_lst); wtm_at "evs"; focus (simp; done)))

def top (i : Nat) : Stmt := PySem.Challenge.pw_layersplit_k34_deeds_written.main.body.getD i (.Pass ⟨0, 0, 0, 0⟩)
abbrev s_rule_text : Stmt := top 1
abbrev N_rule_text : List Str := ["rule", "texts", "part"]
theorem sc_rule_text : FnScope N_rule_text ["rule"] (defScope s_rule_text) := ⟨rfl, rfl, rfl, by decide +kernel, rfl, by decide +kernel, by decide +kernel⟩
abbrev s_list_text : Stmt := top 2
abbrev N_list_text : List Str := ["things", "thing"]
theorem sc_list_text : FnScope N_list_text ["things"] (defScope s_list_text) := ⟨rfl, rfl, rfl, by decide +kernel, rfl, by decide +kernel, by decide +kernel⟩
abbrev s_marks_text : Stmt := top 3
abbrev N_marks_text : List Str := ["marks", "word", "number"]
theorem sc_marks_text : FnScope N_marks_text ["marks"] (defScope s_marks_text) := ⟨rfl, rfl, rfl, by decide +kernel, rfl, by decide +kernel, by decide +kernel⟩
abbrev s_thing_text : Stmt := top 4
abbrev N_thing_text : List Str := ["thing"]
theorem sc_thing_text : FnScope N_thing_text ["thing"] (defScope s_thing_text) := ⟨rfl, rfl, rfl, by decide +kernel, rfl, by decide +kernel, by decide +kernel⟩
abbrev s_deed_text : Stmt := top 5
abbrev N_deed_text : List Str := ["deed", "word", "name", "layer", "arms", "rule", "shuts", "thing"]
theorem sc_deed_text : FnScope N_deed_text ["deed"] (defScope s_deed_text) := ⟨rfl, rfl, rfl, by decide +kernel, rfl, by decide +kernel, by decide +kernel⟩
abbrev s__law_cell_at : Stmt := top 7
abbrev N__law_cell_at : List Str := ["_law_script", "_law_k"]
theorem sc__law_cell_at : FnScope N__law_cell_at ["_law_script", "_law_k"] (defScope s__law_cell_at) := ⟨rfl, rfl, rfl, by decide +kernel, rfl, by decide +kernel, by decide +kernel⟩
abbrev s__law_mixed : Stmt := top 8
abbrev N__law_mixed : List Str := ["_law_script", "_law_k", "_law_salt", "_law_cell", "_law_lap", "_law_near"]
theorem sc__law_mixed : FnScope N__law_mixed ["_law_script", "_law_k", "_law_salt"] (defScope s__law_mixed) := ⟨rfl, rfl, rfl, by decide +kernel, rfl, by decide +kernel, by decide +kernel⟩
abbrev s__law_word : Stmt := top 9
abbrev N__law_word : List Str := ["_law_number_here", "_law_stem"]
theorem sc__law_word : FnScope N__law_word ["_law_number_here"] (defScope s__law_word) := ⟨rfl, rfl, rfl, by decide +kernel, rfl, by decide +kernel, by decide +kernel⟩
abbrev s__law_number : Stmt := top 10
abbrev N__law_number : List Str := ["_law_script", "_law_k", "_law_number_here", "_law_cell"]
theorem sc__law_number : FnScope N__law_number ["_law_script", "_law_k", "_law_number_here"] (defScope s__law_number) := ⟨rfl, rfl, rfl, by decide +kernel, rfl, by decide +kernel, by decide +kernel⟩
abbrev s__law_leaf : Stmt := top 11
abbrev N__law_leaf : List Str := ["_law_script", "_law_k", "_law_words_here", "_law_number_here", "_law_word_here"]
theorem sc__law_leaf : FnScope N__law_leaf ["_law_script", "_law_k", "_law_words_here"] (defScope s__law_leaf) := ⟨rfl, rfl, rfl, by decide +kernel, rfl, by decide +kernel, by decide +kernel⟩
abbrev s__law_rule : Stmt := top 12
abbrev N__law_rule : List Str := ["_law_script", "_law_at", "_law_many", "_law_words_here", "_law_pile", "_law_k", "_law_number_here", "_law_rule_here", "_law_high", "_law_other", "_law_more", "_law_word_here"]
theorem sc__law_rule : FnScope N__law_rule ["_law_script", "_law_at", "_law_many", "_law_words_here"] (defScope s__law_rule) := ⟨rfl, rfl, rfl, by decide +kernel, rfl, by decide +kernel, by decide +kernel⟩
abbrev s__law_words : Stmt := top 13
abbrev N__law_words : List Str := ["_law_script", "_law_number_here", "_law_words_here", "_law_k", "_law_word_here"]
theorem sc__law_words : FnScope N__law_words ["_law_script"] (defScope s__law_words) := ⟨rfl, rfl, rfl, by decide +kernel, rfl, by decide +kernel, by decide +kernel⟩
abbrev s__law_name : Stmt := top 16
abbrev N__law_name : List Str := ["_law_number_here", "_law_signs", "_law_step", "_law_word_here", "_law_j"]
theorem sc__law_name : FnScope N__law_name ["_law_number_here"] (defScope s__law_name) := ⟨rfl, rfl, rfl, by decide +kernel, rfl, by decide +kernel, by decide +kernel⟩
abbrev s__law_guest : Stmt := top 17
abbrev N__law_guest : List Str := ["_law_number_here", "_law_signs", "_law_step", "_law_word_here", "_law_j"]
theorem sc__law_guest : FnScope N__law_guest ["_law_number_here"] (defScope s__law_guest) := ⟨rfl, rfl, rfl, by decide +kernel, rfl, by decide +kernel, by decide +kernel⟩
abbrev s__law_names : Stmt := top 18
abbrev N__law_names : List Str := ["_law_script", "_law_k", "_law_salt", "_law_many", "_law_words_here", "_law_j", "_law_word_here"]
theorem sc__law_names : FnScope N__law_names ["_law_script", "_law_k", "_law_salt", "_law_many"] (defScope s__law_names) := ⟨rfl, rfl, rfl, by decide +kernel, rfl, by decide +kernel, by decide +kernel⟩
abbrev s__law_long : Stmt := top 19
abbrev N__law_long : List Str := ["_law_script", "_law_k", "_law_number_here", "_law_cell"]
theorem sc__law_long : FnScope N__law_long ["_law_script", "_law_k", "_law_number_here"] (defScope s__law_long) := ⟨rfl, rfl, rfl, by decide +kernel, rfl, by decide +kernel, by decide +kernel⟩
abbrev s__law_many_marks : Stmt := top 20
abbrev N__law_many_marks : List Str := ["_law_script", "_law_k", "_law_marks_here", "_law_word_here", "_law_number_here", "_law_far"]
theorem sc__law_many_marks : FnScope N__law_many_marks ["_law_script", "_law_k"] (defScope s__law_many_marks) := ⟨rfl, rfl, rfl, by decide +kernel, rfl, by decide +kernel, by decide +kernel⟩
abbrev s__law_form : Stmt := top 21
abbrev N__law_form : List Str := ["_law_script", "_law_k", "_law_number_here", "_law_kind", "_law_name_here", "_law_arms", "_law_shuts", "_law_rule_here", "_law_many", "_law_far", "_law_weights", "_law_j"]
theorem sc__law_form : FnScope N__law_form ["_law_script", "_law_k"] (defScope s__law_form) := ⟨rfl, rfl, rfl, by decide +kernel, rfl, by decide +kernel, by decide +kernel⟩
abbrev s__law_rule_row : Stmt := top 22
abbrev N__law_rule_row : List Str := ["_law_rule_here", "_law_part"]
theorem sc__law_rule_row : FnScope N__law_rule_row ["_law_rule_here"] (defScope s__law_rule_row) := ⟨rfl, rfl, rfl, by decide +kernel, rfl, by decide +kernel, by decide +kernel⟩
abbrev s__law_listed : Stmt := top 23
abbrev N__law_listed : List Str := ["_law_things", "_law_row_here", "_law_thing"]
theorem sc__law_listed : FnScope N__law_listed ["_law_things"] (defScope s__law_listed) := ⟨rfl, rfl, rfl, by decide +kernel, rfl, by decide +kernel, by decide +kernel⟩
abbrev s__law_row : Stmt := top 24
abbrev N__law_row : List Str := ["_law_deed", "_law_parts", "_law_row_here", "_law_thing", "_law_word_here", "_law_number_here"]
theorem sc__law_row : FnScope N__law_row ["_law_deed"] (defScope s__law_row) := ⟨rfl, rfl, rfl, by decide +kernel, rfl, by decide +kernel, by decide +kernel⟩
abbrev s_law : Stmt := top 25
abbrev N_law : List Str := ["_law_script", "_law_k", "_law_deed", "_law_found"]
theorem sc_law : FnScope N_law ["_law_script"] (defScope s_law) := ⟨rfl, rfl, rfl, by decide +kernel, rfl, by decide +kernel, by decide +kernel⟩
structure G (K : Fg) (mg : Str → Option Value) : Prop where
  b_isinstance : mg "isinstance" = none
  b_len : mg "len" = none
  b_max : mg "max" = none
  b_min : mg "min" = none
  b_range : mg "range" = none
  b_str : mg "str" = none
  b_tuple : mg "tuple" = none
  f_rule_text : Df K mg "rule_text" s_rule_text ["rule"]
  f_list_text : Df K mg "list_text" s_list_text ["things"]
  f_marks_text : Df K mg "marks_text" s_marks_text ["marks"]
  f_thing_text : Df K mg "thing_text" s_thing_text ["thing"]
  f_deed_text : Df K mg "deed_text" s_deed_text ["deed"]
  f__law_cell_at : Df K mg "_law_cell_at" s__law_cell_at ["_law_script", "_law_k"]
  f__law_mixed : Df K mg "_law_mixed" s__law_mixed ["_law_script", "_law_k", "_law_salt"]
  f__law_word : Df K mg "_law_word" s__law_word ["_law_number_here"]
  f__law_number : Df K mg "_law_number" s__law_number ["_law_script", "_law_k", "_law_number_here"]
  f__law_leaf : Df K mg "_law_leaf" s__law_leaf ["_law_script", "_law_k", "_law_words_here"]
  f__law_rule : Df K mg "_law_rule" s__law_rule ["_law_script", "_law_at", "_law_many", "_law_words_here"]
  f__law_words : Df K mg "_law_words" s__law_words ["_law_script"]
  f__law_name : Df K mg "_law_name" s__law_name ["_law_number_here"]
  f__law_guest : Df K mg "_law_guest" s__law_guest ["_law_number_here"]
  f__law_names : Df K mg "_law_names" s__law_names ["_law_script", "_law_k", "_law_salt", "_law_many"]
  f__law_long : Df K mg "_law_long" s__law_long ["_law_script", "_law_k", "_law_number_here"]
  f__law_many_marks : Df K mg "_law_many_marks" s__law_many_marks ["_law_script", "_law_k"]
  f__law_form : Df K mg "_law_form" s__law_form ["_law_script", "_law_k"]
  f__law_rule_row : Df K mg "_law_rule_row" s__law_rule_row ["_law_rule_here"]
  f__law_listed : Df K mg "_law_listed" s__law_listed ["_law_things"]
  f__law_row : Df K mg "_law_row" s__law_row ["_law_deed"]
  f_law : Df K mg "law" s_law ["_law_script"]
theorem atI_ints {ns : List Int} {i : Int} (h0 : 0 ≤ i) (h1 : i < (ns.length : Int)) : atI (ns.map PyData.int) i = some (.int (ns.getD i.toNat 0)) := by
  have hj : i.toNat < ns.length := by omega
  have e : i = ((i.toNat : Nat) : Int) := by omega
  have h : (ns.map PyData.int)[i.toNat]? = some (.int (ns.getD i.toNat 0)) := by
    rw [List.getElem?_map, List.getElem?_eq_getElem hj, List.getD_eq_getElem?_getD, List.getElem?_eq_getElem hj]
    rfl
  rw [e]
  exact atI_nat h
theorem atI_getD {ds : List D} {i : Int} (h0 : 0 ≤ i) (h1 : i < (ds.length : Int)) : atI ds i = some (ds.getD i.toNat .none) := by
  have hj : i.toNat < ds.length := by omega
  have e : i = ((i.toNat : Nat) : Int) := by omega
  have h : ds[i.toNat]? = some (ds.getD i.toNat .none) := by
    rw [List.getElem?_eq_getElem hj, List.getD_eq_getElem?_getD, List.getElem?_eq_getElem hj]
    rfl
  exact (congrArg (atI ds) e).trans (atI_nat h)
def cellAt (ns : List Int) (k : Int) : Int := if ns.length = 0 then 0 else ns.getD (k % (ns.length : Int)).toNat 0
inductive RCell : List D → D → Prop
  | mk (ns : List Int) (k : Int) (h : ns.length ≤ 63) : RCell [.list (ns.map PyData.int), .int k] (.int (cellAt ns k))
section
variable {P : Program} {w : World} {K : Fg} {mg : Str → Option Value} {base : Heap}
theorem ok__law_cell_at (g : G K mg) : Dk P w K mg base 1 "_law_cell_at" ["_law_script", "_law_k"] (spR K RCell) := by
  refine g.f__law_cell_at.dk sc__law_cell_at (by rintro _ _ ⟨⟩; rfl) fun f cdv A outer s H E hr => ⟨_, (pss_cons (ps_if (pt_cmpR (kEq (room64 hr) (K := K)) (bi (jLen (K := K)) g.b_len (pa_cons (pv 0) pa_nil)) pe_int (nomark _))
    (pss_one (ps_ret pe_int))
    pss_nil)
    (pss_one (ps_ret (pe_ix (kIxU (K := K)) (pv 0) (pe_op (kMod (K := K)) (pv 1) (bi (jLen (K := K)) g.b_len (pa_cons (pv 0) pa_nil))) (fun _ _ => rfl))))), fun vs F0 ds r Q fh ha hR q => ?_⟩
  obtain ⟨ns, k, h⟩ := hR
  obtain ⟨v, w, rfl, hS, hv⟩ := dps2 ha
  cases hv
  have g0 : Gr F0 H F0 H := Gr.refl fh
  obtain ⟨a, rfl⟩ : ∃ a, v = V.ref a := by cases hS; exact ⟨_, rfl⟩
  have hlen : (ns.map PyData.int).length = ns.length := List.length_map ..
  refine q_when g0 (b := decide (((ns.map PyData.int).length : Int) = 0)) (by wtm_at "evb") (fun hb H2 g2 e2 => ?_) fun hb H2 g2 e2 => ?_
  · have hb := of_decide_eq_true hb
    refine s_ret (K := K) g2 (EvD.to (d := .int 0) (by wtm_at "ev") ?_) q
    unfold cellAt
    rw [if_pos (by omega)]
  · have hb := of_decide_eq_false hb
    have hp : 0 < ((ns.map PyData.int).length : Int) := by omega
    have h1 := Int.emod_nonneg k (show ((ns.map PyData.int).length : Int) ≠ 0 by omega)
    have h2 := Int.emod_lt_of_pos k hp
    have hix : atI (ns.map PyData.int) (k % ((ns.map PyData.int).length : Int)) = some (.int (ns.getD (k % ((ns.map PyData.int).length : Int)).toNat 0)) := atI_ints h1 (by rw [hlen] at h2 ⊢; exact h2)
    refine s_ret (K := K) g2 (EvD.to (by wtm_at "ev") ?_) q
    unfold cellAt
    rw [if_neg (by omega), hlen]
def lapOf (ns : List Int) (k : Int) : Int := k / max 1 (ns.length : Int)
def nearOf (ns : List Int) (k s : Int) : Int := (cellAt ns k % 2147483648 + 1009 * k * k + 7919 * s * s + 12) * 48271 % 2147483647
def mixF (ns : List Int) (k s : Int) : Int := (cellAt ns k / 2 ^ (31 * (s + 128 * lapOf ns k)).toNat + nearOf ns k s * nearOf ns k s % 2147483629) % 2147483648
theorem mixF_nn (ns : List Int) (k s : Int) : 0 ≤ mixF ns k s := by unfold mixF; omega
theorem mixF_lt (ns : List Int) (k s : Int) : mixF ns k s < 2147483648 := by unfold mixF; omega
inductive RMix : List D → D → Prop
  | mk (ns : List Int) (k s : Int) (h : ns.length ≤ 63) (hk : 0 ≤ k ∧ k ≤ 1000000) (hs : 0 ≤ s ∧ s ≤ 1000000) : RMix [.list (ns.map PyData.int), .int k, .int s] (.int (mixF ns k s))
theorem dps3 {K : Fg} {F : Hp} {vs : List V} {d e f : D} (h : DpAll K F vs [d, e, f]) : ∃ v w u, vs = [v, w, u] ∧ Dp K F v d ∧ Dp K F w e ∧ Dp K F u f := by
  cases h with
  | cons h1 h2 =>
    obtain ⟨w, u, rfl, hw, hu⟩ := dps2 h2
    exact ⟨_, _, _, rfl, h1, hw, hu⟩
theorem ok__law_mixed (g : G K mg) : Dk P w K mg base 2 "_law_mixed" ["_law_script", "_law_k", "_law_salt"] (spR K RMix) := by
  refine g.f__law_mixed.dk sc__law_mixed (by rintro _ _ ⟨⟩; rfl) fun f cdv A outer s H E hr => ⟨_, (pss_cons (ps_set (i := 3) sc__law_mixed.nd rfl (Or.inl rfl) (cl (ok__law_cell_at g) hr (pa_cons (pv 0) (pa_cons (pv 1) pa_nil))))
    (pss_cons (ps_set (i := 4) sc__law_mixed.nd rfl (Or.inl rfl) (pe_op (kDiv (K := K)) (pv 1) (bi (jMax rfl (K := K)) g.b_max (pa_cons pe_int (pa_cons (bi (jLen (K := K)) g.b_len (pa_cons (pv 0) pa_nil)) pa_nil)))))
    (pss_cons (ps_set (i := 5) sc__law_mixed.nd rfl (Or.inl rfl) (pe_op (kAdd (K := K)) (pe_op (kAdd (K := K)) (pe_op (kAdd (K := K)) (pe_op (kBand (K := K)) (pv 3) pe_int) (pe_op (kMul (K := K)) (pe_op (kMul (K := K)) pe_int (pv 1)) (pv 1))) (pe_op (kMul (K := K)) (pe_op (kMul (K := K)) pe_int (pv 2)) (pv 2))) pe_int))
    (pss_cons (ps_set (i := 5) sc__law_mixed.nd rfl (Or.inl rfl) (pe_op (kMod (K := K)) (pe_op (kMul (K := K)) (pv 5) pe_int) pe_int))
    (pss_one (ps_ret (pe_op (kBand (K := K)) (pe_op (kAdd (K := K)) (pe_op (kShr (K := K)) (pv 3) (pe_op (kMul (K := K)) pe_int (pe_op (kAdd (K := K)) (pv 2) (pe_op (kMul (K := K)) pe_int (pv 4))))) (pe_op (kMod (K := K)) (pe_op (kMul (K := K)) (pv 5) (pv 5)) pe_int)) pe_int))))))), fun vs F0 ds r Q fh ha hR q => ?_⟩
  obtain ⟨ns, k, s, h, hk, hs⟩ := hR
  obtain ⟨v, w, u, rfl, hS, hv, hu⟩ := dps3 ha
  cases hv; cases hu
  have g0 : Gr F0 H F0 H := Gr.refl fh
  obtain ⟨a, rfl⟩ : ∃ a, v = V.ref a := by cases hS; exact ⟨_, rfl⟩
  have hlen : (ns.map PyData.int).length = ns.length := List.length_map ..
  refine q_setV (K := K) g0 (by wtm_at "ev") rfl fun H1 g1 e1 => ?_
  refine q_setV (K := K) g1 (by wtm_at "ev") rfl fun H2 g2 e2 => ?_
  refine q_setV (K := K) g2 (by wtm_at "ev") rfl fun H3 g3 e3 => ?_
  refine q_setV (K := K) g3 (by wtm_at "ev") rfl fun H4 g4 e4 => ?_
  have hl0 : 0 ≤ k / max 1 (((ns.map PyData.int).length : Nat) : Int) := Int.ediv_nonneg hk.1 (by omega)
  refine s_ret (K := K) g4 (EvD.to (by wtm_at "ev") ?_) q
  unfold mixF nearOf lapOf
  rw [hlen]
end
/-! data of ints -/
theorem lay_ints : ∀ ns : List Int, PyData.canLayAll0 (ns.map PyData.int) = true
  | [] => by simp [PyData.canLayAll0]
  | z :: zs => by simp [PyData.canLayAll0, PyData.canLay0, lay_ints zs]
theorem dep_ints : ∀ ns : List Int, PyData.depthAll (ns.map PyData.int) ≤ 1
  | [] => by simp [PyData.depthAll]
  | z :: zs => by
    have h1 := dep_ints zs
    simp only [List.map_cons, PyData.depthAll, PyData.depth]
    omega
theorem shaped_tints (ns : List Int) : SeqAt.shaped (.tuple (ns.map PyData.int)) = true := by
  have h1 := dep_ints ns
  show (PyData.canLay0 (.tuple (ns.map PyData.int)) && decide (PyData.depth (.tuple (ns.map PyData.int)) ≤ 64)) = true
  rw [Bool.and_eq_true]
  exact ⟨by simp only [PyData.canLay0]; exact lay_ints ns, decide_eq_true (by simp only [PyData.depth]; omega)⟩
theorem eqv_ints : ∀ ns : List Int, PyData.eqvAll (ns.map PyData.int) (ns.map PyData.int) = true
  | [] => rfl
  | z :: zs => by simp [PyData.eqvAll, PyData.eqv, eqv_ints zs]
theorem eqv_tints (ns : List Int) : PyData.eqv (.tuple (ns.map PyData.int)) (.tuple (ns.map PyData.int)) = true := eqv_ints ns

/-! ### rules -/
inductive Rul where
  | any : Rul
  | has (w : Str) : Rul
  | least (w : Str) (n : Int) : Rul
  | neg (r : Rul) : Rul
  | both (a b : Rul) : Rul
  | either (a b : Rul) : Rul
def Rul.ht : Rul → Nat
  | .any => 1
  | .has _ => 1
  | .least _ _ => 1
  | .neg r => r.ht + 1
  | .both a b => max a.ht b.ht + 1
  | .either a b => max a.ht b.ht + 1
def rd : Rul → D
  | .any => .tuple [.str "any"]
  | .has w => .tuple [.str "has", .str w]
  | .least w n => .tuple [.str "least", .str w, .int n]
  | .neg r => .tuple [.str "not", rd r]
  | .both a b => .tuple [.str "both", rd a, rd b]
  | .either a b => .tuple [.str "either", rd a, rd b]
def okW (w : Str) : Prop := PyData.strOk w = true ∧ w.length ≤ 12
def okN (n : Int) : Prop := -1000000000000000000000000000000 ≤ n ∧ n ≤ 1000000000000000000000000000000
def Rul.good : Rul → Prop
  | .any => True
  | .has w => okW w
  | .least w n => okW w ∧ okN n
  | .neg r => r.good
  | .both a b => a.good ∧ b.good
  | .either a b => a.good ∧ b.good
theorem ht_pos : ∀ r : Rul, 1 ≤ r.ht
  | .any => Nat.le_refl _
  | .has _ => Nat.le_refl _
  | .least _ _ => Nat.le_refl _
  | .neg r => Nat.succ_le_succ (Nat.zero_le _)
  | .both a b => Nat.succ_le_succ (Nat.zero_le _)
  | .either a b => Nat.succ_le_succ (Nat.zero_le _)
theorem atI_strs {zs : List Str} {i : Int} (h0 : 0 ≤ i) (h1 : i < (zs.length : Int)) : atI (zs.map PyData.str) i = some (.str (zs.getD i.toNat "")) := by
  have hj : i.toNat < zs.length := by omega
  have e : i = ((i.toNat : Nat) : Int) := by omega
  have h : (zs.map PyData.str)[i.toNat]? = some (.str (zs.getD i.toNat "")) := by
    rw [List.getElem?_map, List.getElem?_eq_getElem hj, List.getD_eq_getElem?_getD, List.getElem?_eq_getElem hj]
    rfl
  rw [e]
  exact atI_nat h
theorem atI_last (ds : List D) (d : D) : atI (ds ++ [d]) (-1) = some d := by
  have h : ixN (ds ++ [d]).length (-1) = some ds.length := by
    unfold ixN
    simp
    omega
  unfold atI
  rw [h]
  simp
theorem atI_last2 (ds : List D) (d e : D) : atI (ds ++ [d, e]) (-2) = some d := by
  have h : ixN (ds ++ [d, e]).length (-2) = some ds.length := by
    unfold ixN
    simp
    omega
  unfold atI
  rw [h]
  simp
theorem strOk_iff (x : Str) : PyData.strOk x = true ↔ ∀ c ∈ x.cps.toList, c < 0x110000 := by
  unfold PyData.strOk
  rw [← Array.all_toList, List.all_eq_true]
  simp
theorem cutS_ok {z : Str} (lo hi : Option Int) (h : PyData.strOk z = true) : PyData.strOk (cutS z lo hi) = true := by
  rw [strOk_iff] at h ⊢
  intro c hc
  refine h c ?_
  unfold cutS at hc
  exact List.mem_of_mem_drop (List.mem_of_mem_take (by simpa using hc))
theorem cutS_okW {z : Str} (lo hi : Option Int) (h : okW z) : okW (cutS z lo hi) := ⟨cutS_ok lo hi h.1, Nat.le_trans (cutS_length z lo hi) h.2⟩
/-! words, numbers -/
def stems : List Str := ["age", "agee", "size", "z", "abcdefghijkl", "not", "any", "least"]
def stemF (n : Int) : Str := stems.getD (n % 8).toNat ""
def wordF (n : Int) : Str := cutS (stemF n) none (some (1 + n / 8 % 12))
def numF (ns : List Int) (k n : Int) : Int :=
  ([n / 4 % 9 - 4, n / 4 % 9 - 4, cellAt ns k % (2 * 10 ^ 30 + 1) - 10 ^ 30, ([10 ^ 30, -10 ^ 30] : List Int).getD (n / 4 % 2).toNat 0] : List Int).getD (n % 4).toNat 0
theorem stem_ok (n : Int) : okW (stemF n) := by
  have h : ∀ z ∈ stems, PyData.strOk z = true ∧ z.length ≤ 12 := by decide +kernel
  unfold stemF
  rw [List.getD_eq_getElem?_getD]
  cases e : stems[(n % 8).toNat]? with
  | none => exact ⟨by decide +kernel, by decide +kernel⟩
  | some z => exact h z (List.mem_of_getElem? e)
theorem word_ok (n : Int) : okW (wordF n) := cutS_okW _ _ (stem_ok n)
theorem big30 : (10 : Int) ^ 30 = 1000000000000000000000000000000 := by decide
theorem num_ok (ns : List Int) (k n : Int) : okN (numF ns k n) := by
  unfold numF okN
  rw [big30]
  have h4 : (n % 4).toNat = 0 ∨ (n % 4).toNat = 1 ∨ (n % 4).toNat = 2 ∨ (n % 4).toNat = 3 := by omega
  have h2 : (n / 4 % 2).toNat = 0 ∨ (n / 4 % 2).toNat = 1 := by omega
  rcases h4 with h | h | h | h <;> rw [h] <;> simp only [List.getD_cons_zero, List.getD_cons_succ]
  · omega
  · omega
  · omega
  · rcases h2 with h | h <;> rw [h] <;> simp only [List.getD_cons_zero, List.getD_cons_succ] <;> omega
def leafF (ns : List Int) (k : Int) (ws : List Str) : Rul :=
  if mixF ns k 11 % 6 = 0 then .any else if mixF ns k 11 % 6 < 3 then .has (ws.getD (mixF ns k 11 / 6 % (ws.length : Int)).toNat "") else .least (ws.getD (mixF ns k 11 / 6 % (ws.length : Int)).toNat "") (numF ns k (mixF ns k 11 / 60))
def okWs (ws : List Str) : Prop := (0 < ws.length ∧ ws.length ≤ 20) ∧ ∀ w ∈ ws, okW w
theorem leaf_ok {ns : List Int} {k : Int} {ws : List Str} (h : okWs ws) : (leafF ns k ws).good ∧ (leafF ns k ws).ht = 1 := by
  have hw : okW (ws.getD (mixF ns k 11 / 6 % (ws.length : Int)).toNat "") := by
    rw [List.getD_eq_getElem?_getD]
    cases e : ws[(mixF ns k 11 / 6 % (ws.length : Int)).toNat]? with
    | none => exact ⟨by decide +kernel, by decide +kernel⟩
    | some z => exact h.2 z (List.mem_of_getElem? e)
  unfold leafF
  split
  · exact ⟨trivial, rfl⟩
  · split
    · exact ⟨hw, rfl⟩
    · exact ⟨⟨hw, num_ok _ _ _⟩, rfl⟩
/-! the pile -/
abbrev Pl := List (Rul × Int)
def pickF (i : Int) (a b : Rul) : Rul := if i = 0 then .both a b else .either a b
def stepF (ns : List Int) (ws : List Str) (k : Int) : Pl → Pl
  | [] => [(leafF ns k ws, 1)]
  | [(r, h)] => if mixF ns k 12 % 4 = 0 ∧ h < 6 then [(.neg r, h + 1)] else [(leafF ns k ws, 1), (r, h)]
  | (r, h) :: (r2, h2) :: rest => if mixF ns k 12 % 4 = 0 ∧ h < 6 then (.neg r, h + 1) :: (r2, h2) :: rest
      else if mixF ns k 12 % 4 = 1 ∧ max h h2 < 6 then (pickF (mixF ns k 12 / 4 % 2) r2 r, 1 + max h2 h) :: rest else (leafF ns k ws, 1) :: (r, h) :: (r2, h2) :: rest
def pileF (ns : List Int) (ws : List Str) (at' : Int) : Nat → Pl
  | 0 => []
  | i + 1 => stepF ns ws (at' + (i : Int)) (pileF ns ws at' i)
def combF (ns : List Int) (at' : Int) : Nat → Pl → Rul
  | _, [] => .any
  | _, [(r, _)] => r
  | 0, (r, _) :: _ => r
  | m + 1, (r, h) :: (r2, h2) :: rest => if max h h2 < 6 then combF ns at' m ((pickF (1 - mixF ns (at' + (rest.length : Int)) 13 % 2) r2 r, 1 + max h2 h) :: rest) else r
def ruleF (ns : List Int) (ws : List Str) (at' many : Int) : Rul := combF ns at' (pileF ns ws at' many.toNat).length (pileF ns ws at' many.toNat)
def okP (x : Rul × Int) : Prop := x.1.good ∧ (x.1.ht : Int) ≤ x.2 ∧ 1 ≤ x.2 ∧ x.2 ≤ 6
theorem okP_neg {r : Rul} {h : Int} (o : okP (r, h)) (hh : h < 6) : okP (.neg r, h + 1) := by
  obtain ⟨o1, o2, o3, o4⟩ := o
  refine ⟨o1, ?_, ?_, ?_⟩
  · show ((r.ht + 1 : Nat) : Int) ≤ h + 1
    have o2 : (r.ht : Int) ≤ h := o2
    omega
  · show 1 ≤ h + 1
    have o3 : 1 ≤ h := o3
    omega
  · show h + 1 ≤ 6
    omega
theorem okP_pick {r r2 : Rul} {h h2 i : Int} (o : okP (r, h)) (o' : okP (r2, h2)) (hh : max h h2 < 6) : okP (pickF i r2 r, 1 + max h2 h) := by
  obtain ⟨o1, o2, o3, o4⟩ := o
  obtain ⟨p1, p2, p3, p4⟩ := o'
  have o2 : (r.ht : Int) ≤ h := o2
  have p2 : (r2.ht : Int) ≤ h2 := p2
  have o3 : 1 ≤ h := o3
  unfold pickF
  split
  · refine ⟨⟨p1, o1⟩, ?_, ?_, ?_⟩
    · show ((max r2.ht r.ht + 1 : Nat) : Int) ≤ 1 + max h2 h
      omega
    · show 1 ≤ 1 + max h2 h
      omega
    · show 1 + max h2 h ≤ 6
      omega
  · refine ⟨⟨p1, o1⟩, ?_, ?_, ?_⟩
    · show ((max r2.ht r.ht + 1 : Nat) : Int) ≤ 1 + max h2 h
      omega
    · show 1 ≤ 1 + max h2 h
      omega
    · show 1 + max h2 h ≤ 6
      omega
theorem okP_leaf {ns : List Int} {k : Int} {ws : List Str} (h : okWs ws) : okP (leafF ns k ws, 1) := by
  have h1 := leaf_ok (ns := ns) (k := k) h
  refine ⟨h1.1, ?_, Int.le_refl 1, by show (1 : Int) ≤ 6; decide⟩
  show ((leafF ns k ws).ht : Int) ≤ 1
  rw [h1.2]
  decide
theorem stepF_one (ns : List Int) (ws : List Str) (k : Int) (r : Rul) (h : Int) : stepF ns ws k [(r, h)] = if mixF ns k 12 % 4 = 0 ∧ h < 6 then [(.neg r, h + 1)] else [(leafF ns k ws, 1), (r, h)] := rfl
theorem stepF_two (ns : List Int) (ws : List Str) (k : Int) (r r2 : Rul) (h h2 : Int) (rest : Pl) : stepF ns ws k ((r, h) :: (r2, h2) :: rest) = if mixF ns k 12 % 4 = 0 ∧ h < 6 then (.neg r, h + 1) :: (r2, h2) :: rest
      else if mixF ns k 12 % 4 = 1 ∧ max h h2 < 6 then (pickF (mixF ns k 12 / 4 % 2) r2 r, 1 + max h2 h) :: rest else (leafF ns k ws, 1) :: (r, h) :: (r2, h2) :: rest := rfl
theorem combF_two (ns : List Int) (at' : Int) (m : Nat) (r r2 : Rul) (h h2 : Int) (rest : Pl) : combF ns at' (m + 1) ((r, h) :: (r2, h2) :: rest) = if max h h2 < 6 then combF ns at' m ((pickF (1 - mixF ns (at' + (rest.length : Int)) 13 % 2) r2 r, 1 + max h2 h) :: rest) else r := rfl
theorem step_ok {ns : List Int} {ws : List Str} {k : Int} (hw : okWs ws) : ∀ st : Pl, (∀ x ∈ st, okP x) → (∀ x ∈ stepF ns ws k st, okP x) ∧ stepF ns ws k st ≠ [] ∧ (stepF ns ws k st).length ≤ st.length + 1
  | [], _ => ⟨fun x hx => by rw [List.mem_singleton.mp hx]; exact okP_leaf hw, by simp [stepF], Nat.le_refl _⟩
  | [(r, h)], ho => by
    have o := ho (r, h) (List.mem_cons_self ..)
    rw [stepF_one]
    split
    · rename_i c
      exact ⟨fun x hx => by rw [List.mem_singleton.mp hx]; exact okP_neg o c.2, by simp, by simp⟩
    · refine ⟨fun x hx => ?_, by simp, by simp⟩
      rcases List.mem_cons.mp hx with rfl | hx
      · exact okP_leaf hw
      · exact ho x hx
  | (r, h) :: (r2, h2) :: rest, ho => by
    have o := ho (r, h) (List.mem_cons_self ..)
    have o2 := ho (r2, h2) (List.mem_cons_of_mem _ (List.mem_cons_self ..))
    rw [stepF_two]
    split
    · rename_i c
      refine ⟨fun x hx => ?_, by simp, by simp⟩
      rcases List.mem_cons.mp hx with rfl | hx
      · exact okP_neg o c.2
      · exact ho x (List.mem_cons_of_mem _ hx)
    · split
      · rename_i c
        refine ⟨fun x hx => ?_, by simp, by simp⟩
        rcases List.mem_cons.mp hx with rfl | hx
        · exact okP_pick o o2 c.2
        · exact ho x (List.mem_cons_of_mem _ (List.mem_cons_of_mem _ hx))
      · refine ⟨fun x hx => ?_, by simp, by simp⟩
        rcases List.mem_cons.mp hx with rfl | hx
        · exact okP_leaf hw
        · exact ho x hx
theorem pile_ok {ns : List Int} {ws : List Str} {at' : Int} (hw : okWs ws) : ∀ i : Nat, (∀ x ∈ pileF ns ws at' i, okP x) ∧ (0 < i → pileF ns ws at' i ≠ []) ∧ (pileF ns ws at' i).length ≤ i
  | 0 => ⟨fun x hx => (nomatch hx), fun z => absurd z (Nat.lt_irrefl 0), Nat.le_refl _⟩
  | i + 1 => by
    have ih := pile_ok (ns := ns) (at' := at') hw i
    have h := step_ok (ns := ns) (k := at' + (i : Int)) hw (pileF ns ws at' i) ih.1
    exact ⟨h.1, fun _ => h.2.1, Nat.le_trans h.2.2 (Nat.succ_le_succ ih.2.2)⟩
theorem comb_ok {ns : List Int} {at' : Int} : ∀ (m : Nat) (st : Pl), (∀ x ∈ st, okP x) → (combF ns at' m st).good ∧ (combF ns at' m st).ht ≤ 6
  | m, [], _ => by
    cases m <;> exact ⟨trivial, by show 1 ≤ 6; decide⟩
  | m, [(r, h)], ho => by
    have o := ho (r, h) (List.mem_cons_self ..)
    obtain ⟨o1, o2, o3, o4⟩ := o
    unfold combF
    refine ⟨o1, ?_⟩
    have o2 : (r.ht : Int) ≤ h := o2
    have o4 : h ≤ 6 := o4
    omega
  | 0, (r, h) :: (r2, h2) :: rest, ho => by
    have o := ho (r, h) (List.mem_cons_self ..)
    obtain ⟨o1, o2, o3, o4⟩ := o
    unfold combF
    refine ⟨o1, ?_⟩
    have o2 : (r.ht : Int) ≤ h := o2
    have o4 : h ≤ 6 := o4
    omega
  | m + 1, (r, h) :: (r2, h2) :: rest, ho => by
    have o := ho (r, h) (List.mem_cons_self ..)
    have o2 := ho (r2, h2) (List.mem_cons_of_mem _ (List.mem_cons_self ..))
    rw [combF_two]
    split
    · rename_i c
      refine comb_ok m _ fun x hx => ?_
      rcases List.mem_cons.mp hx with rfl | hx
      · exact okP_pick o o2 c
      · exact ho x (List.mem_cons_of_mem _ (List.mem_cons_of_mem _ hx))
    · obtain ⟨o1, o2, o3, o4⟩ := o
      refine ⟨o1, ?_⟩
      have o2 : (r.ht : Int) ≤ h := o2
      have o4 : h ≤ 6 := o4
      omega
theorem rule_ok {ns : List Int} {ws : List Str} {at' many : Int} (hw : okWs ws) : (ruleF ns ws at' many).good ∧ (ruleF ns ws at' many).ht ≤ 6 := comb_ok _ _ (pile_ok hw _).1
def pD (x : Rul × Int) : D := .tuple [rd x.1, .int x.2]
def pds (st : Pl) : List D := st.reverse.map pD
theorem pds_cons (x : Rul × Int) (st : Pl) : pds (x :: st) = pds st ++ [pD x] := by unfold pds; rw [List.reverse_cons, List.map_append]; rfl
theorem pds_len (st : Pl) : (pds st).length = st.length := by unfold pds; simp
theorem pds_top (x : Rul × Int) (st : Pl) : atI (pds (x :: st)) (-1) = some (pD x) := by rw [pds_cons]; exact atI_last _ _
theorem pds_top2 (x y : Rul × Int) (st : Pl) : atI (pds (x :: y :: st)) (-2) = some (pD y) := by
  rw [pds_cons, pds_cons, List.append_assoc]
  exact atI_last2 _ _ _
/-! shapes -/
theorem rd_lay : ∀ r : Rul, r.good → PyData.canLay0 (rd r) = true ∧ PyData.depth (rd r) ≤ r.ht + 1
  | .any, _ => by
    refine ⟨by decide +kernel, ?_⟩
    simp [rd, PyData.depth, PyData.depthAll, Rul.ht]
  | .has w, h => by
    refine ⟨?_, by simp [rd, PyData.depth, PyData.depthAll, Rul.ht]⟩
    simp only [rd, PyData.canLay0, PyData.canLayAll0, Bool.and_eq_true, Bool.and_true]
    exact ⟨by decide +kernel, h.1⟩
  | .least w n, h => by
    refine ⟨?_, by simp [rd, PyData.depth, PyData.depthAll, Rul.ht]⟩
    simp only [rd, PyData.canLay0, PyData.canLayAll0, Bool.and_eq_true, Bool.and_true]
    exact ⟨by decide +kernel, h.1.1⟩
  | .neg r, h => by
    have ih := rd_lay r h
    constructor
    · simp only [rd, PyData.canLay0, PyData.canLayAll0, Bool.and_eq_true, Bool.and_true]
      exact ⟨by decide +kernel, ih.1⟩
    · simp only [rd, PyData.depth, PyData.depthAll, Rul.ht]
      omega
  | .both a b, h => by
    have i1 := rd_lay a h.1
    have i2 := rd_lay b h.2
    constructor
    · simp only [rd, PyData.canLay0, PyData.canLayAll0, Bool.and_eq_true, Bool.and_true]
      exact ⟨by decide +kernel, i1.1, i2.1⟩
    · simp only [rd, PyData.depth, PyData.depthAll, Rul.ht]
      omega
  | .either a b, h => by
    have i1 := rd_lay a h.1
    have i2 := rd_lay b h.2
    constructor
    · simp only [rd, PyData.canLay0, PyData.canLayAll0, Bool.and_eq_true, Bool.and_true]
      exact ⟨by decide +kernel, i1.1, i2.1⟩
    · simp only [rd, PyData.depth, PyData.depthAll, Rul.ht]
      omega
theorem shaped_of {d : D} (h1 : PyData.canLay0 d = true) (h2 : PyData.depth d ≤ 64) : SeqAt.shaped d = true := by
  show (PyData.canLay0 d && decide (PyData.depth d ≤ 64)) = true
  rw [h1, decide_eq_true h2]
  rfl
theorem rd_shaped {r : Rul} (h : r.good) (h6 : r.ht ≤ 20) : SeqAt.shaped (rd r) = true := shaped_of (rd_lay r h).1 (by have := (rd_lay r h).2; omega)
theorem str_shaped {z : Str} (h : PyData.strOk z = true) : SeqAt.shaped (.str z) = true := shaped_of (by simp only [PyData.canLay0]; exact h) (by simp [PyData.depth])
theorem strs_lay : ∀ zs : List Str, (∀ z ∈ zs, PyData.strOk z = true) → PyData.canLayAll0 (zs.map PyData.str) = true ∧ PyData.depthAll (zs.map PyData.str) ≤ 1
  | [], _ => ⟨by simp [PyData.canLayAll0], by simp [PyData.depthAll]⟩
  | z :: zs, h => by
    have ih := strs_lay zs fun y hy => h y (List.mem_cons_of_mem _ hy)
    refine ⟨?_, ?_⟩
    · simp only [List.map_cons, PyData.canLayAll0, PyData.canLay0, Bool.and_eq_true]
      exact ⟨h z (List.mem_cons_self ..), ih.1⟩
    · have i2 := ih.2
      simp only [List.map_cons, PyData.depthAll, PyData.depth]
      omega
theorem strs_shaped {zs : List Str} (h : ∀ z ∈ zs, PyData.strOk z = true) : SeqAt.shaped (.list (zs.map PyData.str)) = true := by
  have h1 := strs_lay zs h
  refine shaped_of (by simp only [PyData.canLay0]; exact h1.1) ?_
  simp only [PyData.depth]
  omega
theorem eqv_str (a b : Str) : PyData.eqv (.str a) (.str b) = decide (a = b) := by
  have h : PyData.eqv (.str a) (.str b) = (a == b) := by simp [PyData.eqv]
  rw [h, Bool.eq_iff_iff]
  simp
theorem any_strs (zs : List Str) (w : Str) : ((zs.map PyData.str).any fun z => PyData.eqv z (.str w)) = decide (w ∈ zs) := by
  induction zs with
  | nil => rfl
  | cons z zs ih =>
    rw [List.map_cons, List.any_cons, ih, eqv_str]
    by_cases e : z = w
    · subst e; simp
    · have e' : ¬ w = z := fun q => e q.symm
      simp [e, e']

theorem dps4 {K : Fg} {F : Hp} {vs : List V} {d e f h : D} (hh : DpAll K F vs [d, e, f, h]) : ∃ v w u x, vs = [v, w, u, x] ∧ Dp K F v d ∧ Dp K F w e ∧ Dp K F u f ∧ Dp K F x h := by
  cases hh with
  | cons h1 h2 =>
    obtain ⟨w, u, x, rfl, hw, hu, hx⟩ := dps3 h2
    exact ⟨_, _, _, _, rfl, h1, hw, hu, hx⟩
theorem dps5 {K : Fg} {F : Hp} {vs : List V} {d e f h k : D} (hh : DpAll K F vs [d, e, f, h, k]) : ∃ v w u x y, vs = [v, w, u, x, y] ∧ Dp K F v d ∧ Dp K F w e ∧ Dp K F u f ∧ Dp K F x h ∧ Dp K F y k := by
  cases hh with
  | cons h1 h2 =>
    obtain ⟨w, u, x, y, rfl, hw, hu, hx, hy⟩ := dps4 h2
    exact ⟨_, _, _, _, _, rfl, h1, hw, hu, hx, hy⟩

inductive RWordF : List D → D → Prop
  | mk (n : Int) (h : 0 ≤ n) : RWordF [.int n] (.str (wordF n))
inductive RNumF : List D → D → Prop
  | mk (ns : List Int) (k n : Int) (h : ns.length ≤ 63) (hn : 0 ≤ n) : RNumF [.list (ns.map PyData.int), .int k, .int n] (.int (numF ns k n))
inductive RLeafF : List D → D → Prop
  | mk (ns : List Int) (k : Int) (ws : List Str) (h : ns.length ≤ 63) (hk : 0 ≤ k ∧ k ≤ 1000) (hw : okWs ws) : RLeafF [.list (ns.map PyData.int), .int k, .list (ws.map PyData.str)] (rd (leafF ns k ws))
inductive RRuleF : List D → D → Prop
  | mk (ns : List Int) (at' many : Int) (ws : List Str) (h : ns.length ≤ 63) (ha : 0 ≤ at' ∧ at' ≤ 500) (hm : 1 ≤ many ∧ many ≤ 100) (hw : okWs ws) : RRuleF [.list (ns.map PyData.int), .int at', .int many, .list (ws.map PyData.str)] (rd (ruleF ns ws at' many))
section
variable {P : Program} {w : World} {K : Fg} {mg : Str → Option Value} {base : Heap}
theorem ok__law_word (g : G K mg) : Dk P w K mg base 1 "_law_word" ["_law_number_here"] (spR K RWordF) := by
  refine g.f__law_word.dk sc__law_word (by rintro _ _ ⟨⟩; rfl) fun f cdv A outer s H E hr => ⟨_, (pss_cons (ps_set (i := 1) sc__law_word.nd rfl (Or.inl rfl) (pe_ix (kIxU (K := K)) (pe_lst (pa_cons pe_str (pa_cons pe_str (pa_cons pe_str (pa_cons pe_str (pa_cons pe_str (pa_cons pe_str (pa_cons pe_str (pa_cons pe_str pa_nil))))))))) (pe_op (kMod (K := K)) (pv 0) pe_int) (fun _ _ => rfl)))
    (pss_one (ps_ret (pe_slice (kSl (K := K)) (pv 1) po_none (po_some (pe_op (kAdd (K := K)) pe_int (pe_op (kMod (K := K)) (pe_op (kDiv (K := K)) (pv 0) pe_int) pe_int))))))), fun vs F0 ds r Q fh ha hR q => ?_⟩
  obtain ⟨n, h⟩ := hR
  obtain ⟨v, rfl, hv⟩ := dps1 ha
  cases hv
  have g0 : Gr F0 H F0 H := Gr.refl fh
  have hat : atI [PyData.str "age", .str "agee", .str "size", .str "z", .str "abcdefghijkl", .str "not", .str "any", .str "least"] (n % 8) = some (.str (stemF n)) := atI_strs (zs := stems) (by omega) (by show _ < (8 : Int); omega)
  refine q_setV (K := K) g0 (by wtm_at "ev") rfl fun H1 g1 e1 => ?_
  have hl : (stemF n).length ≤ 100000 := Nat.le_trans (stem_ok n).2 (by decide)
  unfold wordF at q
  generalize stemF n = z at hl q ⊢
  exact s_ret (K := K) g1 (by wtm_at "ev") q
theorem ok__law_number (g : G K mg) : Dk P w K mg base 2 "_law_number" ["_law_script", "_law_k", "_law_number_here"] (spR K RNumF) := by
  refine g.f__law_number.dk sc__law_number (by rintro _ _ ⟨⟩; rfl) fun f cdv A outer s H E hr => ⟨_, (pss_cons (ps_set (i := 3) sc__law_number.nd rfl (Or.inl rfl) (pe_op (kSub (K := K)) (pe_op (kMod (K := K)) (cl (ok__law_cell_at g) hr (pa_cons (pv 0) (pa_cons (pv 1) pa_nil))) (pe_op (kAdd (K := K)) (pe_op (kMul (K := K)) pe_int (pe_op (kPow (K := K)) pe_int pe_int)) pe_int)) (pe_op (kPow (K := K)) pe_int pe_int)))
    (pss_one (ps_ret (pe_ix (kIxU (K := K)) (pe_lst (pa_cons (pe_op (kSub (K := K)) (pe_op (kMod (K := K)) (pe_op (kDiv (K := K)) (pv 2) pe_int) pe_int) pe_int) (pa_cons (pe_op (kSub (K := K)) (pe_op (kMod (K := K)) (pe_op (kDiv (K := K)) (pv 2) pe_int) pe_int) pe_int) (pa_cons (pv 3) (pa_cons (pe_ix (kIxU (K := K)) (pe_lst (pa_cons (pe_op (kPow (K := K)) pe_int pe_int) (pa_cons (pe_un (kNeg (K := K)) (pe_op (kPow (K := K)) pe_int pe_int)) pa_nil))) (pe_op (kMod (K := K)) (pe_op (kDiv (K := K)) (pv 2) pe_int) pe_int) (fun _ _ => rfl)) pa_nil))))) (pe_op (kMod (K := K)) (pv 2) pe_int) (fun _ _ => rfl))))), fun vs F0 ds r Q fh ha hR q => ?_⟩
  obtain ⟨ns, k, n, h, hn⟩ := hR
  obtain ⟨v, w, u, rfl, hS, hw, hu⟩ := dps3 ha
  cases hw; cases hu
  obtain ⟨a, rfl⟩ : ∃ a, v = V.ref a := by cases hS; exact ⟨_, rfl⟩
  have g0 : Gr F0 H F0 H := Gr.refl fh
  refine q_setV (K := K) g0 (d := .int (cellAt ns k % (2 * 10 ^ 30 + 1) - 10 ^ 30)) (by wtm_at "ev") rfl fun H1 g1 e1 => ?_
  unfold numF at q
  generalize cellAt ns k % (2 * 10 ^ 30 + 1) - 10 ^ 30 = c at q ⊢
  have h2 : atI [PyData.int (10 ^ (30 : Int).toNat), .int (-10 ^ (30 : Int).toNat)] (n / 4 % 2) = some (.int (([10 ^ 30, -10 ^ 30] : List Int).getD (n / 4 % 2).toNat 0)) := atI_ints (ns := [10 ^ 30, -10 ^ 30]) (by omega) (by show _ < (2 : Int); omega)
  generalize ([10 ^ 30, -10 ^ 30] : List Int).getD (n / 4 % 2).toNat 0 = m at h2 q
  have h4 : atI [PyData.int (n / 4 % 9 - 4), .int (n / 4 % 9 - 4), .int c, .int m] (n % 4) = some (.int (([n / 4 % 9 - 4, n / 4 % 9 - 4, c, m] : List Int).getD (n % 4).toNat 0)) := atI_ints (ns := [n / 4 % 9 - 4, n / 4 % 9 - 4, c, m]) (by omega) (by show _ < (4 : Int); omega)
  exact s_ret (K := K) g1 (by wtm_at "ev") q
theorem ok__law_leaf (g : G K mg) : Dk P w K mg base 3 "_law_leaf" ["_law_script", "_law_k", "_law_words_here"] (spR K RLeafF) := by
  refine g.f__law_leaf.dk sc__law_leaf (by rintro _ _ ⟨⟩; rfl) fun f cdv A outer s H E hr => ⟨_, (pss_cons (ps_set (i := 3) sc__law_leaf.nd rfl (Or.inl rfl) (cl (ok__law_mixed g) hr (pa_cons (pv 0) (pa_cons (pv 1) (pa_cons pe_int pa_nil)))))
    (pss_cons (ps_set (i := 4) sc__law_leaf.nd rfl (Or.inl rfl) (pe_ix (kIxU (K := K)) (pv 2) (pe_op (kMod (K := K)) (pe_op (kDiv (K := K)) (pv 3) pe_int) (bi (jLen (K := K)) g.b_len (pa_cons (pv 2) pa_nil))) (fun _ _ => rfl)))
    (pss_cons (ps_if (pt_cmpR (kEq (room64 hr) (K := K)) (pe_op (kMod (K := K)) (pv 3) pe_int) pe_int (nomark _))
    (pss_one (ps_ret (pe_tup (pa_cons pe_str pa_nil))))
    pss_nil)
    (pss_cons (ps_if (pt_cmpR (kLt (K := K)) (pe_op (kMod (K := K)) (pv 3) pe_int) pe_int (nomark _))
    (pss_one (ps_ret (pe_tup (pa_cons pe_str (pa_cons (pv 4) pa_nil)))))
    pss_nil)
    (pss_one (ps_ret (pe_tup (pa_cons pe_str (pa_cons (pv 4) (pa_cons (cl (ok__law_number g) hr (pa_cons (pv 0) (pa_cons (pv 1) (pa_cons (pe_op (kDiv (K := K)) (pv 3) pe_int) pa_nil)))) pa_nil)))))))))), fun vs F0 ds r Q fh ha hR q => ?_⟩
  obtain ⟨ns, k, ws, h, hk, hw⟩ := hR
  obtain ⟨v, w, u, rfl, hS, hk', hW⟩ := dps3 ha
  cases hk'
  obtain ⟨a, rfl⟩ : ∃ a, v = V.ref a := by cases hS; exact ⟨_, rfl⟩
  obtain ⟨b, rfl⟩ : ∃ a, u = V.ref a := by cases hW; exact ⟨_, rfl⟩
  have g0 : Gr F0 H F0 H := Gr.refl fh
  have hkk : 0 ≤ k ∧ k ≤ 1000000 := by omega
  have hn0 := mixF_nn ns k 11
  unfold leafF at q
  refine q_setV (K := K) g0 (by wtm_at "ev") rfl fun H1 g1 e1 => ?_
  have hlw : (ws.map PyData.str).length = ws.length := List.length_map ..
  have hwl := hw.1
  generalize mixF ns k 11 = n at hn0 q ⊢
  have hz1 := Int.emod_nonneg (n / 6) (show ((ws.map PyData.str).length : Int) ≠ 0 by omega)
  have hz2 := Int.emod_lt_of_pos (n / 6) (show 0 < ((ws.map PyData.str).length : Int) by omega)
  have hp : 0 < ((ws.map PyData.str).length : Int) := by omega
  have hat : atI (ws.map PyData.str) (n / 6 % ((ws.map PyData.str).length : Int)) = some (.str (ws.getD (n / 6 % (ws.length : Int)).toNat "")) := by
    rw [atI_strs hz1 (by omega), hlw]
  generalize ws.getD (n / 6 % (ws.length : Int)).toNat "" = z at hat q
  refine q_setV (K := K) g1 (d := .str z) (by wtm_at "ev") rfl fun H2 g2 e2 => ?_
  have hn60 : 0 ≤ n / 60 := by omega
  refine q_when g2 (b := decide (n % 6 = 0)) (by wtm_at "evb") (fun hb H3 g3 e3 => ?_) fun hb H3 g3 e3 => ?_
  · rw [if_pos (of_decide_eq_true hb)] at q
    exact s_ret (K := K) g3 (EvD.to (by wtm_at "ev") (by rfl)) q
  rw [if_neg (of_decide_eq_false hb)] at q
  refine q_when g3 (b := decide (n % 6 < 3)) (by wtm_at "evb") (fun hb H4 g4 e4 => ?_) fun hb H4 g4 e4 => ?_
  · rw [if_pos (of_decide_eq_true hb)] at q
    exact s_ret (K := K) g4 (EvD.to (by wtm_at "ev") (by rfl)) q
  · rw [if_neg (of_decide_eq_false hb)] at q
    exact s_ret (K := K) g4 (EvD.to (by wtm_at "ev") (by rfl)) q
theorem ok__law_rule (g : G K mg) : Dk P w K mg base 4 "_law_rule" ["_law_script", "_law_at", "_law_many", "_law_words_here"] (spR K RRuleF) := by
  refine g.f__law_rule.dk sc__law_rule (by rintro _ _ ⟨⟩; rfl) fun f cdv A outer sh H E hr => ⟨_, (pss_cons (ps_set (i := 4) sc__law_rule.nd rfl (Or.inl rfl) (pe_lst pa_nil))
    (pss_cons (ps_for PassesOwn.never rfl (pi_range2 (by rfl) g.b_range (pa_cons (pv 1) (pa_cons (pe_op (kAdd (K := K)) (pv 1) (pv 2)) pa_nil))) (pg_name (i := 5) sc__law_rule.nd rfl (Or.inl rfl))
    (pss_cons (ps_set (i := 6) sc__law_rule.nd rfl (Or.inl rfl) (cl (ok__law_mixed g) hr (pa_cons (pv 0) (pa_cons (pv 5) (pa_cons pe_int pa_nil)))))
    (pss_one (ps_if (PW.pt (pw_and (pt_cmpR (kEq (room64 hr) (K := K)) (pe_op (kMod (K := K)) (pv 6) pe_int) pe_int (nomark _)) (pw_and (pt_cmpR (kGt (K := K)) (bi (jLen (K := K)) g.b_len (pa_cons (pv 4) pa_nil)) pe_int (nomark _)) (pw_and1 (pt_cmpR (kLt (K := K)) (pe_ix (kIxU (K := K)) (pe_ix (kIxU (K := K)) (pv 4) (pe_un (kNeg (K := K)) pe_int) (fun _ _ => rfl)) pe_int (fun _ _ => rfl)) pe_int (nomark _))))))
    (pss_cons (ps_asg (bm0 (K := K) PySem.F.plainAttrs_list PySem.F.slot_list_pop PySem.F.type_list_pop mt_pop (pv 4)) (pg_tup rfl (pgs_cons (pg_name (i := 7) sc__law_rule.nd rfl (Or.inl rfl)) (pgs_cons (pg_name (i := 8) sc__law_rule.nd rfl (Or.inl rfl)) pgs_nil))))
    (pss_one (ps_expr (bm (K := K) PySem.F.plainAttrs_list PySem.F.slot_list_append PySem.F.type_list_append mt_append (pv 4) (pa_cons (pe_tup (pa_cons (pe_tup (pa_cons pe_str (pa_cons (pv 7) pa_nil))) (pa_cons (pe_op (kAdd (K := K)) (pv 8) pe_int) pa_nil))) pa_nil)))))
    (pss_one (ps_if (PW.pt (pw_and (pt_cmpR (kEq (room64 hr) (K := K)) (pe_op (kMod (K := K)) (pv 6) pe_int) pe_int (nomark _)) (pw_and (pt_cmpR (kGt (K := K)) (bi (jLen (K := K)) g.b_len (pa_cons (pv 4) pa_nil)) pe_int (nomark _)) (pw_and1 (pt_cmpR (kLt (K := K)) (bi (jMax rfl (K := K)) g.b_max (pa_cons (pe_ix (kIxU (K := K)) (pe_ix (kIxU (K := K)) (pv 4) (pe_un (kNeg (K := K)) pe_int) (fun _ _ => rfl)) pe_int (fun _ _ => rfl)) (pa_cons (pe_ix (kIxU (K := K)) (pe_ix (kIxU (K := K)) (pv 4) (pe_un (kNeg (K := K)) pe_int) (fun _ _ => rfl)) pe_int (fun _ _ => rfl)) pa_nil))) pe_int (nomark _))))))
    (pss_cons (ps_asg (bm0 (K := K) PySem.F.plainAttrs_list PySem.F.slot_list_pop PySem.F.type_list_pop mt_pop (pv 4)) (pg_tup rfl (pgs_cons (pg_name (i := 9) sc__law_rule.nd rfl (Or.inl rfl)) (pgs_cons (pg_name (i := 10) sc__law_rule.nd rfl (Or.inl rfl)) pgs_nil))))
    (pss_cons (ps_asg (bm0 (K := K) PySem.F.plainAttrs_list PySem.F.slot_list_pop PySem.F.type_list_pop mt_pop (pv 4)) (pg_tup rfl (pgs_cons (pg_name (i := 7) sc__law_rule.nd rfl (Or.inl rfl)) (pgs_cons (pg_name (i := 8) sc__law_rule.nd rfl (Or.inl rfl)) pgs_nil))))
    (pss_cons (ps_set (i := 11) sc__law_rule.nd rfl (Or.inl rfl) (pe_ix (kIxU (K := K)) (pe_lst (pa_cons pe_str (pa_cons pe_str pa_nil))) (pe_op (kMod (K := K)) (pe_op (kDiv (K := K)) (pv 6) pe_int) pe_int) (fun _ _ => rfl)))
    (pss_one (ps_expr (bm (K := K) PySem.F.plainAttrs_list PySem.F.slot_list_append PySem.F.type_list_append mt_append (pv 4) (pa_cons (pe_tup (pa_cons (pe_tup (pa_cons (pv 11) (pa_cons (pv 7) (pa_cons (pv 9) pa_nil)))) (pa_cons (pe_op (kAdd (K := K)) pe_int (bi (jMax rfl (K := K)) g.b_max (pa_cons (pv 8) (pa_cons (pv 10) pa_nil)))) pa_nil))) pa_nil)))))))
    (pss_one (ps_expr (bm (K := K) PySem.F.plainAttrs_list PySem.F.slot_list_append PySem.F.type_list_append mt_append (pv 4) (pa_cons (pe_tup (pa_cons (cl (ok__law_leaf g) hr (pa_cons (pv 0) (pa_cons (pv 5) (pa_cons (pv 3) pa_nil)))) (pa_cons pe_int pa_nil))) pa_nil))))))))))
    (pss_cons (ps_while PassesOwn.never (PW.pt (pw_and (pt_cmpR (kGt (K := K)) (bi (jLen (K := K)) g.b_len (pa_cons (pv 4) pa_nil)) pe_int (nomark _)) (pw_and1 (pt_cmpR (kLt (K := K)) (bi (jMax rfl (K := K)) g.b_max (pa_cons (pe_ix (kIxU (K := K)) (pe_ix (kIxU (K := K)) (pv 4) (pe_un (kNeg (K := K)) pe_int) (fun _ _ => rfl)) pe_int (fun _ _ => rfl)) (pa_cons (pe_ix (kIxU (K := K)) (pe_ix (kIxU (K := K)) (pv 4) (pe_un (kNeg (K := K)) pe_int) (fun _ _ => rfl)) pe_int (fun _ _ => rfl)) pa_nil))) pe_int (nomark _)))))
    (pss_cons (ps_asg (bm0 (K := K) PySem.F.plainAttrs_list PySem.F.slot_list_pop PySem.F.type_list_pop mt_pop (pv 4)) (pg_tup rfl (pgs_cons (pg_name (i := 9) sc__law_rule.nd rfl (Or.inl rfl)) (pgs_cons (pg_name (i := 10) sc__law_rule.nd rfl (Or.inl rfl)) pgs_nil))))
    (pss_cons (ps_asg (bm0 (K := K) PySem.F.plainAttrs_list PySem.F.slot_list_pop PySem.F.type_list_pop mt_pop (pv 4)) (pg_tup rfl (pgs_cons (pg_name (i := 7) sc__law_rule.nd rfl (Or.inl rfl)) (pgs_cons (pg_name (i := 8) sc__law_rule.nd rfl (Or.inl rfl)) pgs_nil))))
    (pss_cons (ps_set (i := 11) sc__law_rule.nd rfl (Or.inl rfl) (pe_ix (kIxU (K := K)) (pe_lst (pa_cons pe_str (pa_cons pe_str pa_nil))) (pe_op (kMod (K := K)) (cl (ok__law_mixed g) hr (pa_cons (pv 0) (pa_cons (pe_op (kAdd (K := K)) (pv 1) (bi (jLen (K := K)) g.b_len (pa_cons (pv 4) pa_nil))) (pa_cons pe_int pa_nil)))) pe_int) (fun _ _ => rfl)))
    (pss_one (ps_expr (bm (K := K) PySem.F.plainAttrs_list PySem.F.slot_list_append PySem.F.type_list_append mt_append (pv 4) (pa_cons (pe_tup (pa_cons (pe_tup (pa_cons (pv 11) (pa_cons (pv 7) (pa_cons (pv 9) pa_nil)))) (pa_cons (pe_op (kAdd (K := K)) pe_int (bi (jMax rfl (K := K)) g.b_max (pa_cons (pv 8) (pa_cons (pv 10) pa_nil)))) pa_nil))) pa_nil))))))))
    (pss_one (ps_ret (pe_ix (kIxU (K := K)) (pe_ix (kIxU (K := K)) (pv 4) (pe_un (kNeg (K := K)) pe_int) (fun _ _ => rfl)) pe_int (fun _ _ => rfl))))))), fun vs F0 ds r Q fh ha hR q => ?_⟩
  obtain ⟨ns, at', many, ws, h, hat', hm, hw⟩ := hR
  obtain ⟨v, w, u, y, rfl, hS, hA, hM, hW⟩ := dps4 ha
  cases hA; cases hM
  obtain ⟨a, rfl⟩ : ∃ a, v = V.ref a := by cases hS; exact ⟨_, rfl⟩
  obtain ⟨b, rfl⟩ : ∃ a, y = V.ref a := by cases hW; exact ⟨_, rfl⟩
  have g0 : Gr F0 H F0 H := Gr.refl fh
  refine q_setN (K := K) g0 (n_lst (ds := []) ds_nil (by decide)) fun l us F1 H1 g1 s1 hl0 fl hl hu => ?_
  cases hu
  have hS := hS.up s1.fx
  have hW := hW.up s1.fx
  refine q_forR2 (K := K) g1 (by wtm_at "evs") (by omega) (fun i σ' F' H' => (∃ y5 y6 y7 y8 y9 y10 y11, σ' = [some (.ref a), some (.int at'), some (.int many), some (.ref b), some (.ref l), y5, y6, y7, y8, y9, y10, y11]) ∧ F' l = none ∧ ∃ vs, H' l = some (.lst vs) ∧ DpAll K F' vs (pds (pileF ns ws at' i))) (fun H2 _ e2 => ⟨⟨none, none, none, none, none, none, none, rfl⟩, fl, [], e2 _ _ hl, .nil⟩) (fun i σ' F' H' hi g' e' hP => ?_) fun σ' F' H' g' e' hP => ?_
  · obtain ⟨⟨y5, y6, y7, y8, y9, y10, y11, rfl⟩, fl, vs, hl, hvs⟩ := hP
    have hS := hS.up e'
    have hW := hW.up e'
    have hpl := pile_ok (ns := ns) (at' := at') hw i
    have hi2 : (i : Int) < many := by omega
    have hstep : pileF ns ws at' (i + 1) = stepF ns ws (at' + (i : Int)) (pileF ns ws at' i) := rfl
    have hk : 0 ≤ at' + (i : Int) ∧ at' + (i : Int) ≤ 1000000 := by omega
    have hk2 : 0 ≤ at' + (i : Int) ∧ at' + (i : Int) ≤ 1000 := by omega
    generalize at' + (i : Int) = k at hk hk2 hstep ⊢
    generalize hst : pileF ns ws at' i = st at hvs hpl hstep
    have hvl : vs.length < 100000 := by rw [hvs.length, pds_len]; omega
    refine q_setV (K := K) g' (by wtm_at "ev") rfl fun H2 g2 e2 => ?_
    have hl := e2 _ _ hl
    have ok : ∀ (st' : Pl) F5 H5 us y6 y7 y8 y9 y10 y11, stepF ns ws k st = st' → Gr F0 H F5 H5 → Ex F1 F5 → F5 l = none → H5 l = some (.lst us) → DpAll K F5 us (pds st') →
        Btw F0 H F1 (fun σ' F' H' => (∃ y5 y6 y7 y8 y9 y10 y11, σ' = [some (.ref a), some (.int at'), some (.int many), some (.ref b), some (.ref l), y5, y6, y7, y8, y9, y10, y11]) ∧ F' l = none ∧ ∃ vs, H' l = some (.lst vs) ∧ DpAll K F' vs (pds (pileF ns ws at' (i + 1))))
          [some (.ref a), some (.int at'), some (.int many), some (.ref b), some (.ref l), some (.int k), y6, y7, y8, y9, y10, y11] H5 := fun st' F5 H5 us y6 y7 y8 y9 y10 y11 hs g5 e5 f5 l5 h5 => by
      refine ⟨F5, g5, e5, ⟨_, _, _, _, _, _, _, rfl⟩, f5, us, l5, ?_⟩
      rw [hstep, hs]
      exact h5
    have hO : Dp K (upd F' l (.lst vs)) (.ref l) (.list (pds st)) := .lst (sq_of upd_same) (hvs.up (Ex.new fl))
    match st, hst, hvs, hpl, hstep, ok, hO with
    | [], hst, hvs, hpl, hstep, ok, hO =>
      refine s_if g2 (b := false) (EvB.own (EvB.to (b := decide (mixF ns k 12 % 4 = 0) && (decide ((0 : Int) < (((pds []).length : Nat) : Int)) && false)) (b_and (by wtm_at "evb") fun _ => b_and (by wtm_at "evb") fun z => absurd (of_decide_eq_true z) (by decide)) (by simp)) (ownL hl)) (fun hb => nomatch hb) fun _ H3 g3 e3 => ?_
      refine s_if g3 (b := false) (EvB.own (EvB.to (b := decide (mixF ns k 12 % 4 = 1) && (decide ((1 : Int) < (((pds []).length : Nat) : Int)) && false)) (b_and (by wtm_at "evb") fun _ => b_and (by wtm_at "evb") fun z => absurd (of_decide_eq_true z) (by decide)) (by simp)) (ownL (e3 _ _ hl))) (fun hb => nomatch hb) fun _ H4 g4 e4 => ?_
      refine s_app (K := K) g4 hl0 fl (e4 _ _ (e3 _ _ hl)) rfl hvl (d := pD (leafF ns k ws, 1)) (EvD.to (by wtm_at "ev") (by rfl)) fun v F5 H5 g5 x5 o5 oh5 l5 hv5 => ok [(leafF ns k ws, 1)] F5 H5 _ _ _ _ _ _ _ (rfl) g5 (e'.trans x5) ((o5 l (by rw [(e4 _ _ (e3 _ _ hl))]; exact fun z => nomatch z)).trans fl) l5 (by rw [pds_cons]; exact (hvs.up x5).append (.cons hv5 .nil))
    | (r, h') :: rest, hst, hvs, hpl, hstep, ok, hO =>
      have k1 : atI (pds ((r, h') :: rest)) (-1) = some (.tuple [rd r, .int h']) := pds_top _ _
      have k2 : atI [rd r, .int h'] 1 = some (.int h') := rfl
      have hlen0 : (pds ((r, h') :: rest)).length = rest.length + 1 := by rw [pds_len]; rfl
      refine s_if g2 (b := decide (mixF ns k 12 % 4 = 0 ∧ h' < 6)) (EvB.own (EvB.to (by wtm_at "evb") (by
        rw [hlen0, decide_eq_true (show (0 : Int) < ((rest.length + 1 : Nat) : Int) by omega), Bool.true_and, ← Bool.decide_and])) (ownL hl)) (fun hb H3 g3 e3 => ?_) fun hb H3 g3 e3 => ?_
      · have hb := of_decide_eq_true hb
        have hs : stepF ns ws k ((r, h') :: rest) = (.neg r, h' + 1) :: rest := by
          cases rest with
          | nil => rw [stepF_one, if_pos hb]
          | cons x r3 => obtain ⟨r2, h2⟩ := x; rw [stepF_two, if_pos hb]
        have hl := e3 _ _ hl
        refine q_pop2 (ds := pds rest) (d1 := rd r) (d2 := .int h') g3 hl0 fl hl rfl (by rw [pds_cons] at hvs; exact hvs) fun us v7 v8 H4 g4 o4 l4 hus h7 h8 => ?_
        cases h8
        have hul : us.length < 100000 := by rw [hus.length, pds_len]; have := hpl.2.2; simp at this; omega
        refine s_app (K := K) g4 hl0 fl l4 rfl hul (d := pD (.neg r, h' + 1)) (EvD.to (by wtm_at "ev") (by rfl)) fun v F5 H5 g5 x5 o5 oh5 l5 hv5 => ok _ F5 H5 _ _ _ _ _ _ _ hs g5 (e'.trans x5) ((o5 l (by rw [l4]; exact fun z => nomatch z)).trans fl) l5 (by rw [pds_cons]; exact (hus.up x5).append (.cons hv5 .nil))
      · have hb := of_decide_eq_false hb
        have hl := e3 _ _ hl
        match rest, hst, hvs, hpl, hstep, ok, hO, k1, hlen0 with
        | [], hst, hvs, hpl, hstep, ok, hO, k1, hlen0 =>
          refine s_if g3 (b := false) (EvB.own (EvB.to (b := decide (mixF ns k 12 % 4 = 1) && (decide ((1 : Int) < (((pds [(r, h')]).length : Nat) : Int)) && false)) (b_and (by wtm_at "evb") fun _ => b_and (by wtm_at "evb") fun z => absurd (of_decide_eq_true z) (by rw [hlen0]; decide)) (by simp)) (ownL hl)) (fun hb => nomatch hb) fun _ H4 g4 e4 => ?_
          refine s_app (K := K) g4 hl0 fl (e4 _ _ hl) rfl hvl (d := pD (leafF ns k ws, 1)) (EvD.to (by wtm_at "ev") (by rfl)) fun v F5 H5 g5 x5 o5 oh5 l5 hv5 => ok [(leafF ns k ws, 1), (r, h')] F5 H5 _ _ _ _ _ _ _ (by rw [stepF_one, if_neg hb]) g5 (e'.trans x5) ((o5 l (by rw [(e4 _ _ hl)]; exact fun z => nomatch z)).trans fl) l5 (by rw [pds_cons]; exact (hvs.up x5).append (.cons hv5 .nil))
        | (r2, h2) :: rest, hst, hvs, hpl, hstep, ok, hO, k1, hlen0 =>
          have k3 : atI (pds ((r, h') :: (r2, h2) :: rest)) (-2) = some (.tuple [rd r2, .int h2]) := pds_top2 _ _ _
          have k4 : atI [rd r2, .int h2] 1 = some (.int h2) := rfl
          refine s_if g3 (b := decide (mixF ns k 12 % 4 = 1 ∧ max h' h2 < 6)) (EvB.own (EvB.to (by wtm_at "evb") (by
            rw [hlen0, decide_eq_true (show (1 : Int) < ((((r2, h2) :: rest).length + 1 : Nat) : Int) by simp; omega), Bool.true_and, ← Bool.decide_and])) (ownL hl)) (fun hc H4 g4 e4 => ?_) fun hc H4 g4 e4 => ?_
          · have hc := of_decide_eq_true hc
            have hl := e4 _ _ hl
            rw [pds_cons] at hvs
            refine q_pop2 (ds := pds ((r2, h2) :: rest)) (d1 := rd r) (d2 := .int h') g4 hl0 fl hl rfl hvs fun us v9 v10 H5 g5 o5 l5 hus h9 h10 => ?_
            cases h10
            rw [pds_cons] at hus
            refine q_pop2 (ds := pds rest) (d1 := rd r2) (d2 := .int h2) g5 hl0 fl l5 rfl hus fun us2 v7 v8 H6 g6 o6 l6 hus2 h7 h8 => ?_
            cases h8
            have hul : us2.length < 100000 := by rw [hus2.length, pds_len]; have := hpl.2.2; simp at this; omega
            have hi2 : 0 ≤ mixF ns k 12 / 4 % 2 ∧ mixF ns k 12 / 4 % 2 < 2 := by omega
            have hpk : ∃ z, atI [PyData.str "both", .str "either"] (mixF ns k 12 / 4 % 2) = some (.str z) ∧ rd (pickF (mixF ns k 12 / 4 % 2) r2 r) = .tuple [.str z, rd r2, rd r] := by
              have : mixF ns k 12 / 4 % 2 = 0 ∨ mixF ns k 12 / 4 % 2 = 1 := by omega
              rcases this with e | e <;> rw [e]
              · exact ⟨_, rfl, rfl⟩
              · exact ⟨_, rfl, rfl⟩
            obtain ⟨z, hz1, hz2⟩ := hpk
            refine q_setV (K := K) g6 (d := .str z) (by wtm_at "ev") rfl fun H7 g7 e7 => ?_
            refine s_app (K := K) g7 hl0 fl (e7 _ _ l6) rfl hul (d := pD (pickF (mixF ns k 12 / 4 % 2) r2 r, 1 + max h2 h')) (EvD.to (by wtm_at "ev") (by unfold pD; rw [hz2])) fun v F5 H5 g5 x5 o5 oh5 l5 hv5 => ok ((pickF (mixF ns k 12 / 4 % 2) r2 r, 1 + max h2 h') :: rest) F5 H5 _ _ _ _ _ _ _ (by rw [stepF_two, if_neg hb, if_pos hc]) g5 (e'.trans x5) ((o5 l (by rw [e7 _ _ l6]; exact fun z => nomatch z)).trans fl) l5 (by rw [pds_cons]; exact (hus2.up x5).append (.cons hv5 .nil))
          · have hc := of_decide_eq_false hc
            refine s_app (K := K) g4 hl0 fl (e4 _ _ hl) rfl hvl (d := pD (leafF ns k ws, 1)) (EvD.to (by wtm_at "ev") (by rfl)) fun v F5 H5 g5 x5 o5 oh5 l5 hv5 => ok ((leafF ns k ws, 1) :: (r, h') :: (r2, h2) :: rest) F5 H5 _ _ _ _ _ _ _ (by rw [stepF_two, if_neg hb, if_neg hc]) g5 (e'.trans x5) ((o5 l (by rw [(e4 _ _ hl)]; exact fun z => nomatch z)).trans fl) l5 (by rw [pds_cons]; exact (hvs.up x5).append (.cons hv5 .nil))
  · obtain ⟨⟨y5, y6, y7, y8, y9, y10, y11, rfl⟩, fl, vs, hl, hvs⟩ := hP
    have hS := hS.up e'
    have hW := hW.up e'
    have em : (at' + many - at').toNat = many.toNat := by congr 1; omega
    rw [em] at hvs
    have hpl := pile_ok (ns := ns) (at' := at') hw many.toNat
    have hne := hpl.2.1 (by omega)
    unfold ruleF at q
    generalize pileF ns ws at' many.toNat = st0 at hvs hpl hne q
    refine q_while g' (fun m σ' F2 H2 => (∃ y5 y6 y7 y8 y9 y10 y11, σ' = [some (.ref a), some (.int at'), some (.int many), some (.ref b), some (.ref l), y5, y6, y7, y8, y9, y10, y11]) ∧ F2 l = none ∧ ∃ vs st, m = st.length ∧ st ≠ [] ∧ st.length ≤ many.toNat ∧ H2 l = some (.lst vs) ∧ DpAll K F2 vs (pds st) ∧ combF ns at' st.length st = combF ns at' st0.length st0) st0.length ⟨⟨_, _, _, _, _, _, _, rfl⟩, fl, vs, st0, rfl, hne, hpl.2.2, hl, hvs, rfl⟩ fun m σ' F2 H2 g2 e2 hP => ?_
    obtain ⟨⟨y5, y6, y7, y8, y9, y10, y11, rfl⟩, fl, vs, st, rfl, hne, hlen, hl, hvs, hcomb⟩ := hP
    have hS := hS.up e2
    have hW := hW.up e2
    have hO : Dp K (upd F2 l (.lst vs)) (.ref l) (.list (pds st)) := .lst (sq_of upd_same) (hvs.up (Ex.new fl))
    have hend : ∀ (r : Rul) (h' : Int) (rest : Pl) H3, st = (r, h') :: rest → Gr F0 H F2 H3 → Ex H2 H3 → rd r = rd (combF ns at' st0.length st0) → tRet (tOp (rIxU K) (tOp (rIxU K) (tVar 4) (tUn (rD1 K NegD) (tC (.int 1)))) (tC (.int 0))) { nx := fun _ H' => Q .non H', rt := Q } [some (.ref a), some (.int at'), some (.int many), some (.ref b), some (.ref l), y5, y6, y7, y8, y9, y10, y11] H3 := fun r h' rest H3 est g3 e3 er => by
      have k1 : atI (pds st) (-1) = some (.tuple [rd r, .int h']) := by rw [est]; exact pds_top _ _
      have k2 : atI [rd r, .int h'] 0 = some (rd r) := rfl
      have g4 := g3.give hl0 (e3 _ _ hl) fl
      exact s_ret (K := K) g4 (EvD.to (by wtm_at "ev") er) q
    match st, hne, hlen, hvs, hcomb, hO, hend with
    | [(r, h')], hne, hlen, hvs, hcomb, hO, hend =>
      refine ⟨false, EvB.own (EvB.to (b := decide ((1 : Int) < (((pds [(r, h')]).length : Nat) : Int)) && false) (b_and (by wtm_at "evb") fun z => absurd (of_decide_eq_true z) (by rw [pds_len]; show ¬ (1 : Int) < ((1 : Nat) : Int); decide)) (by simp)) (ownL hl), (fun hb => nomatch hb), fun _ H3 g3 e3 => ?_⟩
      exact hend r h' [] H3 rfl g3 e3 (by rw [← hcomb]; rfl)
    | (r, h') :: (r2, h2) :: rest, hne, hlen, hvs, hcomb, hO, hend =>
      have k1 : atI (pds ((r, h') :: (r2, h2) :: rest)) (-1) = some (.tuple [rd r, .int h']) := pds_top _ _
      have k2 : atI [rd r, .int h'] 1 = some (.int h') := rfl
      have k3 : atI (pds ((r, h') :: (r2, h2) :: rest)) (-2) = some (.tuple [rd r2, .int h2]) := pds_top2 _ _ _
      have k4 : atI [rd r2, .int h2] 1 = some (.int h2) := rfl
      have hcm : combF ns at' ((r, h') :: (r2, h2) :: rest).length ((r, h') :: (r2, h2) :: rest) = if max h' h2 < 6 then combF ns at' (rest.length + 1) ((pickF (1 - mixF ns (at' + (rest.length : Int)) 13 % 2) r2 r, 1 + max h2 h') :: rest) else r := combF_two _ _ _ _ _ _ _ _
      rw [hcm] at hcomb
      refine ⟨decide (max h' h2 < 6), EvB.own (EvB.to (by wtm_at "evb") (by
        rw [pds_len, decide_eq_true (show (1 : Int) < ((((r, h') :: (r2, h2) :: rest).length : Nat) : Int) by simp; omega), Bool.true_and])) (ownL hl), fun hc H3 g3 e3 => ?_, fun hc H3 g3 e3 => ?_⟩
      · have hc := of_decide_eq_true hc
        rw [if_pos hc] at hcomb
        have hl := e3 _ _ hl
        rw [pds_cons] at hvs
        refine q_pop2 (ds := pds ((r2, h2) :: rest)) (d1 := rd r) (d2 := .int h') g3 hl0 fl hl rfl hvs fun us v9 v10 H5 g5 o5 l5 hus h9 h10 => ?_
        cases h10
        rw [pds_cons] at hus
        refine q_pop2 (ds := pds rest) (d1 := rd r2) (d2 := .int h2) g5 hl0 fl l5 rfl hus fun us2 v7 v8 H6 g6 o6 l6 hus2 h7 h8 => ?_
        cases h8
        have hlr : rest.length + 2 ≤ many.toNat := hlen
        have hul : us2.length < 100000 := by rw [hus2.length, pds_len]; omega
        have hO2 : Dp K (upd F2 l (.lst us2)) (.ref l) (.list (pds rest)) := .lst (sq_of upd_same) (hus2.up (Ex.new fl))
        have hS2 := hS.up (Ex.new (o := .lst us2) fl)
        have hkk : 0 ≤ at' + (((pds rest).length : Nat) : Int) ∧ at' + (((pds rest).length : Nat) : Int) ≤ 1000000 := by rw [pds_len]; omega
        have elr : mixF ns (at' + (((pds rest).length : Nat) : Int)) 13 = mixF ns (at' + (rest.length : Int)) 13 := by rw [pds_len]
        have hpk : ∃ z, atI [PyData.str "either", .str "both"] (mixF ns (at' + (((pds rest).length : Nat) : Int)) 13 % 2) = some (.str z) ∧ rd (pickF (1 - mixF ns (at' + (rest.length : Int)) 13 % 2) r2 r) = .tuple [.str z, rd r2, rd r] := by
          rw [elr]
          have : mixF ns (at' + (rest.length : Int)) 13 % 2 = 0 ∨ mixF ns (at' + (rest.length : Int)) 13 % 2 = 1 := by omega
          rcases this with e | e <;> rw [e]
          · exact ⟨_, rfl, rfl⟩
          · exact ⟨_, rfl, rfl⟩
        obtain ⟨z, hz1, hz2⟩ := hpk
        refine q_setV (K := K) g6 (d := .str z) (EvD.own (by wtm_at "ev") rfl (ownL l6)) rfl fun H7 g7 e7 => ?_
        refine s_app (K := K) g7 hl0 fl (e7 _ _ l6) rfl hul (d := pD (pickF (1 - mixF ns (at' + (rest.length : Int)) 13 % 2) r2 r, 1 + max h2 h')) (EvD.to (by wtm_at "ev") (by unfold pD; rw [hz2])) fun v F5 H5 g5 x5 o5 oh5 l5 hv5 => ?_
        refine ⟨rest.length + 1, Nat.lt_succ_self _, F5, g5, e2.trans x5, ⟨_, _, _, _, _, _, _, rfl⟩, (o5 l (by rw [e7 _ _ l6]; exact fun z => nomatch z)).trans fl, _, (pickF (1 - mixF ns (at' + (rest.length : Int)) 13 % 2) r2 r, 1 + max h2 h') :: rest, rfl, by simp, by simp; omega, l5, ?_, hcomb⟩
        rw [pds_cons]
        exact (hus2.up x5).append (.cons hv5 .nil)
      · have hc := of_decide_eq_false hc
        rw [if_neg hc] at hcomb
        exact hend r h' ((r2, h2) :: rest) H3 rfl g3 e3 (by rw [hcomb])
end


/-! ### the words, the marks -/
def wordsL (ns : List Int) : Nat → List Str
  | 0 => []
  | i + 1 => if wordF (mixF ns (2 + (i : Int)) 14) ∈ wordsL ns i then wordsL ns i else wordsL ns i ++ [wordF (mixF ns (2 + (i : Int)) 14)]
def wordsF (ns : List Int) : List Str := wordsL ns (1 + mixF ns 1 14 % 3).toNat
theorem wordsL_ok (ns : List Int) : ∀ i : Nat, (wordsL ns i).length ≤ i ∧ (0 < i → 0 < (wordsL ns i).length) ∧ (∀ w ∈ wordsL ns i, okW w) ∧ (wordsL ns i).Nodup
  | 0 => ⟨Nat.le_refl _, fun z => absurd z (Nat.lt_irrefl 0), fun w h => (nomatch h), List.nodup_nil⟩
  | i + 1 => by
    have ih := wordsL_ok ns i
    unfold wordsL
    split
    · rename_i hm
      refine ⟨by omega, fun _ => ?_, ih.2.2.1, ih.2.2.2⟩
      exact List.length_pos_of_mem hm
    · rename_i hm
      refine ⟨by rw [List.length_append, List.length_singleton]; omega, fun _ => by rw [List.length_append, List.length_singleton]; omega, fun w hw => ?_, ?_⟩
      · rcases List.mem_append.mp hw with h | h
        · exact ih.2.2.1 w h
        · rw [List.mem_singleton.mp h]; exact word_ok _
      · rw [List.nodup_append]
        refine ⟨ih.2.2.2, by simp, fun a ha b hb e => hm ?_⟩
        rw [← List.mem_singleton.mp hb, ← e]
        exact ha
theorem wordsF_ok (ns : List Int) : okWs (wordsF ns) ∧ (wordsF ns).Nodup ∧ (wordsF ns).length ≤ 3 := by
  have hm := mixF_nn ns 1 14
  have h := wordsL_ok ns (1 + mixF ns 1 14 % 3).toNat
  have h0 := h.2.1 (by omega)
  have h1 := h.1
  unfold wordsF
  refine ⟨⟨⟨h0, by omega⟩, h.2.2.1⟩, h.2.2.2, by omega⟩
inductive RWordsF : List D → D → Prop
  | mk (ns : List Int) (h : ns.length ≤ 63) : RWordsF [.list (ns.map PyData.int)] (.list ((wordsF ns).map PyData.str))
abbrev Mk := List (Str × Int)
def mkD (x : Str × Int) : D := .tuple [.str x.1, .int x.2]
def marksL (ns : List Int) (k : Int) (ws : List Str) : Nat → Mk
  | 0 => []
  | j + 1 => if 0 < mixF ns k (15 + (j : Int)) % 3 then marksL ns k ws j ++ [(ws.getD j "", numF ns (k + (j : Int)) (mixF ns k (15 + (j : Int)) / 3))] else marksL ns k ws j
def marksF (salt : Int) (ns : List Int) (k : Int) (ws : List Str) : Mk := if mixF ns k salt % 2 = 0 then (marksL ns k ws ws.length).reverse else marksL ns k ws ws.length
structure okM (ms : Mk) : Prop where
  w : ∀ x ∈ ms, okW x.1 ∧ okN x.2
  nd : (ms.map (·.1)).Nodup
theorem marksL_sub (ns : List Int) (k : Int) (ws : List Str) : ∀ j : Nat, j ≤ ws.length → ((marksL ns k ws j).map (·.1)).Sublist (ws.take j) ∧ (∀ x ∈ marksL ns k ws j, okN x.2) ∧ (marksL ns k ws j).length ≤ j
  | 0, _ => ⟨by simp [marksL], fun x h => (nomatch h), Nat.le_refl _⟩
  | j + 1, hj => by
    have ih := marksL_sub ns k ws j (by omega)
    have et : ws.take (j + 1) = ws.take j ++ [ws.getD j ""] := by
      rw [List.take_add_one, List.getD_eq_getElem?_getD, List.getElem?_eq_getElem (show j < ws.length by omega)]
      rfl
    unfold marksL
    rw [et]
    split
    · refine ⟨?_, fun x hx => ?_, by rw [List.length_append, List.length_singleton]; omega⟩
      · rw [List.map_append]
        exact List.Sublist.append ih.1 (List.Sublist.refl _)
      · rcases List.mem_append.mp hx with h | h
        · exact ih.2.1 x h
        · rw [List.mem_singleton.mp h]; exact num_ok _ _ _
    · exact ⟨ih.1.trans (List.sublist_append_left _ _), ih.2.1, by omega⟩
theorem marksF_ok {salt : Int} {ns : List Int} {k : Int} {ws : List Str} (hw : ∀ w ∈ ws, okW w) (nd : ws.Nodup) : okM (marksF salt ns k ws) ∧ (marksF salt ns k ws).length ≤ ws.length := by
  have h := marksL_sub ns k ws ws.length (Nat.le_refl _)
  rw [List.take_length] at h
  have hm : ∀ x ∈ marksL ns k ws ws.length, okW x.1 ∧ okN x.2 := fun x hx => ⟨hw _ (h.1.subset (List.mem_map_of_mem hx)), h.2.1 x hx⟩
  have hn := nd.sublist h.1
  unfold marksF
  split
  · refine ⟨⟨fun x hx => hm x (List.mem_reverse.mp hx), ?_⟩, by rw [List.length_reverse]; exact h.2.2⟩
    rw [List.map_reverse]
    exact List.pairwise_reverse.mpr (hn.imp fun h => Ne.symm h)
  · exact ⟨⟨hm, hn⟩, h.2.2⟩
inductive RMarksF (salt : Int) : List D → D → Prop
  | mk (ns : List Int) (k : Int) (ws : List Str) (h : ns.length ≤ 63) (hk : 0 ≤ k ∧ k ≤ 1000) (hw : ws.length ≤ 20) : RMarksF salt [.list (ns.map PyData.int), .int k, .list (ws.map PyData.str)] (.tuple ((marksF salt ns k ws).map mkD))
/-! ### what holds -/
def valF : Mk → Str → Option Int
  | [], _ => none
  | (w', n) :: ms, w => if w' = w then some n else valF ms w
def valD : Option Int → D
  | some n => .int n
  | none => .none
inductive RVal : List D → D → Prop
  | mk (ms : Mk) (w : Str) : RVal [.tuple (ms.map mkD), .str w] (valD (valF ms w))
def holdF (ms : Mk) : Rul → Bool
  | .any => true
  | .has w => (valF ms w).isSome
  | .least w n => match valF ms w with | some m => decide (n ≤ m) | none => false
  | .neg r => !holdF ms r
  | .both a b => holdF ms a && holdF ms b
  | .either a b => holdF ms a || holdF ms b
inductive RHolds (n : Nat) : List D → D → Prop
  | mk (r : Rul) (ms : Mk) (h : r.ht ≤ n) : RHolds n [rd r, .tuple (ms.map mkD)] (.bool (holdF ms r))
inductive RLHolds (n : Nat) : List D → D → Prop
  | mk (r : Rul) (ms : Mk) (h : r.ht ≤ n) (h20 : r.ht ≤ 20) (hg : r.good) (ok : okM ms) (hl : ms.length ≤ 1000) : RLHolds n [rd r, .tuple (ms.map mkD)] (.bool (holdF ms r))
/-- the marks of one word -/
theorem val_none {ms : Mk} {w : Str} (h : w ∉ ms.map (·.1)) : valF ms w = none ∧ ms.filter (fun x => decide (x.1 = w)) = [] := by
  induction ms with
  | nil => exact ⟨rfl, rfl⟩
  | cons x ms ih =>
    rw [List.map_cons, List.mem_cons, not_or] at h
    have h1 : ¬ x.1 = w := fun z => h.1 z.symm
    have ih := ih h.2
    obtain ⟨a, b⟩ := x
    refine ⟨?_, ?_⟩
    · show (if a = w then some b else valF ms w) = none
      rw [if_neg h1, ih.1]
    · rw [List.filter_cons, decide_eq_false h1, ih.2]; rfl
theorem val_filter {ms : Mk} (w : Str) (nd : (ms.map (·.1)).Nodup) : ms.filter (fun x => decide (x.1 = w)) = match valF ms w with | some n => [(w, n)] | none => [] := by
  induction ms with
  | nil => rfl
  | cons x ms ih =>
    obtain ⟨a, b⟩ := x
    rw [List.map_cons, List.nodup_cons] at nd
    have ih := ih nd.2
    by_cases e : a = w
    · subst e
      have hn := val_none nd.1
      rw [List.filter_cons, hn.2]
      show (if decide (a = a) = true then _ else _) = match (if a = a then some b else valF ms a) with | some n => [(a, n)] | none => []
      simp
    · rw [List.filter_cons, decide_eq_false e, ih]
      show _ = match (if a = w then some b else valF ms w) with | some n => [(w, n)] | none => []
      rw [if_neg e]
      rfl
def fstD : D → D
  | .tuple (x :: _) => x
  | _ => .none
def sndD : D → D
  | .tuple (_ :: y :: _) => y
  | _ => .none
def sameW (w : Str) : D → Bool
  | .tuple (.str w' :: _) => decide (w' = w)
  | _ => false
theorem found_word (ms : Mk) (w : Str) (nd : (ms.map (·.1)).Nodup) : ((ms.map mkD).filter (sameW w)).map sndD = match valF ms w with | some n => [.int n] | none => [] := by
  have h : (ms.map mkD).filter (sameW w) = (ms.filter (fun x => decide (x.1 = w))).map mkD := by
    rw [List.filter_map]
    rfl
  rw [h, val_filter w nd]
  cases valF ms w <;> rfl
theorem found_none (ms : List D) : (ms.filter (fun _ => false)).map sndD = [] := by
  rw [List.filter_eq_nil_iff.mpr (fun _ _ => Bool.false_ne_true)]
  rfl
section
variable {P : Program} {w : World} {K : Fg} {mg : Str → Option Value} {base : Heap}
theorem ok__law_words (g : G K mg) : Dk P w K mg base 3 "_law_words" ["_law_script"] (spR K RWordsF) := by
  refine g.f__law_words.dk sc__law_words (by rintro _ _ ⟨⟩; rfl) fun f cdv A outer s H E hr => ⟨_, (pss_cons (ps_set (i := 1) sc__law_words.nd rfl (Or.inl rfl) (cl (ok__law_mixed g) hr (pa_cons (pv 0) (pa_cons pe_int (pa_cons pe_int pa_nil)))))
    (pss_cons (ps_set (i := 2) sc__law_words.nd rfl (Or.inl rfl) (pe_lst pa_nil))
    (pss_cons (ps_for PassesOwn.never rfl (pi_range1 (by rfl) g.b_range (pa_cons (pe_op (kAdd (K := K)) pe_int (pe_op (kMod (K := K)) (pv 1) pe_int)) pa_nil)) (pg_name (i := 3) sc__law_words.nd rfl (Or.inl rfl))
    (pss_cons (ps_set (i := 4) sc__law_words.nd rfl (Or.inl rfl) (cl (ok__law_word g) hr (pa_cons (cl (ok__law_mixed g) hr (pa_cons (pv 0) (pa_cons (pe_op (kAdd (K := K)) pe_int (pv 3)) (pa_cons pe_int pa_nil)))) pa_nil)))
    (pss_one (ps_if (pt_cmpR (kNin (room65 hr) (K := K)) (pv 4) (pv 2) (by rfl))
    (pss_one (ps_expr (bm (K := K) PySem.F.plainAttrs_list PySem.F.slot_list_append PySem.F.type_list_append mt_append (pv 2) (pa_cons (pv 4) pa_nil))))
    pss_nil))))
    (pss_one (ps_ret (pv 2)))))), fun vs F0 ds r Q fh ha hR q => ?_⟩
  obtain ⟨ns, h⟩ := hR
  obtain ⟨v, rfl, hS⟩ := dps1 ha
  obtain ⟨a, rfl⟩ : ∃ a, v = V.ref a := by cases hS; exact ⟨_, rfl⟩
  have g0 : Gr F0 H F0 H := Gr.refl fh
  refine q_setV (K := K) g0 (by wtm_at "ev") rfl fun H1 g1 e1 => ?_
  have hm := mixF_nn ns 1 14
  have hwl := wordsL_ok ns
  unfold wordsF at q
  generalize mixF ns 1 14 = n at hm q ⊢
  refine q_setN (K := K) g1 (n_lst (ds := []) ds_nil (by decide)) fun l us F2 H2 g2 s2 hl0 fl hl hu => ?_
  have hl0 : H l = none := g1.back hl0
  cases hu
  have hS := hS.up s2.fx
  refine q_forR (K := K) g2 (n := 1 + n % 3) (by wtm_at "evs") (by omega) (by omega) (fun i σ' F' H' => (∃ y3 y4, σ' = [some (.ref a), some (.int n), some (.ref l), y3, y4]) ∧ F' l = none ∧ H' l = some (.lst ((wordsL ns i).map V.str))) (fun H2 _ e2 => ⟨⟨none, none, rfl⟩, fl, e2 _ _ hl⟩) (fun i σ' F' H' hi g' e' hP => ?_) fun σ' F' H' g' e' hP => ?_
  · obtain ⟨⟨y3, y4, rfl⟩, fl, hl⟩ := hP
    have hS := hS.up e'
    have hk : 0 ≤ 2 + (i : Int) ∧ 2 + (i : Int) ≤ 1000000 := by omega
    have hnn := mixF_nn ns (2 + (i : Int)) 14
    have hlow := hwl i
    have es : wordsL ns (i + 1) = if wordF (mixF ns (2 + (i : Int)) 14) ∈ wordsL ns i then wordsL ns i else wordsL ns i ++ [wordF (mixF ns (2 + (i : Int)) 14)] := rfl
    refine q_setV (K := K) g' (by wtm_at "ev") rfl fun H3 g3 e3 => ?_
    have hwz := word_ok (mixF ns (2 + (i : Int)) 14)
    generalize wordF (mixF ns (2 + (i : Int)) 14) = z at hwz es ⊢
    generalize wordsL ns i = L at hl hlow es
    have sh1 := str_shaped hwz.1
    have sh2 := strs_shaped (zs := L) fun z hz => (hlow.2.2.1 z hz).1
    have hO : Dp K (upd F' l (.lst (L.map V.str))) (.ref l) (.list (L.map PyData.str)) := .lst (sq_of upd_same) (dps_strs _)
    refine s_when g3 (b := !decide (z ∈ L)) (EvB.own (EvB.to (by wtm_at "evb") (by rw [any_strs])) (ownL (e3 _ _ hl))) (fun hb H4 g4 e4 => ?_) fun hb H4 g4 e4 => ?_
    · have hb := no_of hb
      rw [if_neg hb] at es
      have hl := e4 _ _ (e3 _ _ hl)
      refine s_app (K := K) g4 hl0 fl hl rfl (by rw [List.length_map]; have := hlow.1; omega) (d := .str z) (by wtm_at "ev") fun v F5 H5 g5 x5 o5 oh5 l5 hv5 => ?_
      cases hv5
      refine ⟨F5, g5, e'.trans x5, ⟨_, _, rfl⟩, (o5 l (by rw [hl]; exact fun z => nomatch z)).trans fl, ?_⟩
      rw [es, List.map_append]
      exact l5
    · have hb := yes_of hb
      rw [if_pos hb] at es
      refine ⟨F', g4, e', ⟨_, _, rfl⟩, fl, ?_⟩
      rw [es]
      exact e4 _ _ (e3 _ _ hl)
  · obtain ⟨⟨y3, y4, rfl⟩, fl, hl⟩ := hP
    have g4 := g'.give hl0 hl fl
    have hO : Dp K (upd F' l (.lst ((wordsL ns (1 + n % 3).toNat).map V.str))) (.ref l) (.list ((wordsL ns (1 + n % 3).toNat).map PyData.str)) := .lst (sq_of upd_same) (dps_strs _)
    exact s_ret (K := K) g4 (by wtm_at "ev") q
end


/-! ### rules written -/
def tg : D → Nat
  | .tuple (.str s :: _) => if s = "any" then 1 else if s = "has" then 2 else if s = "least" then 3 else if s = "not" then 4 else if s = "both" then 5 else 6
  | _ => 0
def kindR : Rul → Nat
  | .any => 1
  | .has _ => 2
  | .least _ _ => 3
  | .neg _ => 4
  | .both _ _ => 5
  | .either _ _ => 6
theorem tg_rd (r : Rul) : tg (rd r) = kindR r := by cases r <;> rfl
theorem rd_inj : ∀ r s : Rul, rd r = rd s → r = s := by
  intro r
  induction r with
  | any =>
    intro s h
    have k := (tg_rd _).symm.trans ((congrArg tg h).trans (tg_rd s))
    cases s <;> simp [kindR] at k
    rfl
  | has w =>
    intro s h
    have k := (tg_rd _).symm.trans ((congrArg tg h).trans (tg_rd s))
    cases s <;> simp [kindR] at k
    simp [rd] at h
    rw [h]
  | least w n =>
    intro s h
    have k := (tg_rd _).symm.trans ((congrArg tg h).trans (tg_rd s))
    cases s <;> simp [kindR] at k
    simp [rd] at h
    rw [h.1, h.2]
  | neg r ih =>
    intro s h
    have k := (tg_rd _).symm.trans ((congrArg tg h).trans (tg_rd s))
    cases s <;> simp [kindR] at k
    simp [rd] at h
    rw [ih _ h]
  | both a b iha ihb =>
    intro s h
    have k := (tg_rd _).symm.trans ((congrArg tg h).trans (tg_rd s))
    cases s <;> simp [kindR] at k
    simp [rd] at h
    rw [iha _ h.1, ihb _ h.2]
  | either a b iha ihb =>
    intro s h
    have k := (tg_rd _).symm.trans ((congrArg tg h).trans (tg_rd s))
    cases s <;> simp [kindR] at k
    simp [rd] at h
    rw [iha _ h.1, ihb _ h.2]
open Classical in
noncomputable def unrd (d : D) : Rul := if h : ∃ r, d = rd r then h.choose else .any
theorem unrd_rd (r : Rul) : unrd (rd r) = r := by
  have h : ∃ s, rd r = rd s := ⟨r, rfl⟩
  unfold unrd
  rw [dif_pos h]
  exact (rd_inj _ _ h.choose_spec).symm
abbrev sp1 : Str := " "
def intS (i : Int) : Str := toString i
def textF : Rul → Str
  | .any => Txt.join sp1 ["any"]
  | .has w => Txt.join sp1 ["has", w]
  | .least w n => Txt.join sp1 ["least", w, intS n]
  | .neg r => Txt.join sp1 ["not", textF r]
  | .both a b => Txt.join sp1 ["both", textF a, textF b]
  | .either a b => Txt.join sp1 ["either", textF a, textF b]
theorem strAdd_len (a b : Str) : (a ++ b).length = a.length + b.length := by
  show (Str.append a b).length = _
  unfold Str.append Str.length
  simp
theorem join1 (a : Str) : Txt.join sp1 [a] = a := by rw [TL.join_eq]; rfl
theorem join2_len (a b : Str) : (Txt.join sp1 [a, b]).length = a.length + 1 + b.length := by
  rw [TL.join_eq]
  show (a ++ sp1 ++ b).length = _
  rw [strAdd_len, strAdd_len]
  rfl
theorem join3_len (a b c : Str) : (Txt.join sp1 [a, b, c]).length = a.length + 1 + (b.length + 1 + c.length) := by
  rw [TL.join_eq]
  show (a ++ sp1 ++ (b ++ sp1 ++ c)).length = _
  rw [strAdd_len, strAdd_len, strAdd_len, strAdd_len]
  rfl
theorem okN_log {n : Int} (h : okN n) : n.natAbs.log2 < 1920 := by
  have h1 : n.natAbs ≤ 1000000000000000000000000000000 := by unfold okN at h; omega
  by_cases h0 : n.natAbs = 0
  · rw [h0]; decide
  · rw [Nat.log2_lt h0]
    exact Nat.lt_of_le_of_lt h1 (by decide +kernel)
theorem intS_len {n : Int} (h : okN n) : (intS n).length ≤ 1921 := PyProof.Rows.int_text_len_1921 (okN_log h)
theorem text_len : ∀ r : Rul, r.good → (textF r).length ≤ 2000 * 2 ^ r.ht - 100
  | .any, _ => by
    unfold textF
    rw [join1]
    decide +kernel
  | .has w, h => by
    unfold textF
    rw [join2_len]
    have h1 := h.2
    have h2 : ("has" : Str).length = 3 := by decide +kernel
    show _ ≤ 2000 * 2 ^ 1 - 100
    omega
  | .least w n, h => by
    unfold textF
    rw [join3_len]
    have h1 := h.1.2
    have h2 : ("least" : Str).length = 5 := by decide +kernel
    have h3 := intS_len h.2
    show _ ≤ 2000 * 2 ^ 1 - 100
    omega
  | .neg r, h => by
    unfold textF
    rw [join2_len]
    have h1 := text_len r h
    have h2 : ("not" : Str).length = 3 := by decide +kernel
    have h3 : 1 ≤ 2 ^ r.ht := Nat.one_le_two_pow
    have h4 : 2 ^ (r.ht + 1) = 2 ^ r.ht * 2 := Nat.pow_succ ..
    show _ ≤ 2000 * 2 ^ (r.ht + 1) - 100
    omega
  | .both a b, h => by
    unfold textF
    rw [join3_len]
    have h1 := text_len a h.1
    have h1' := text_len b h.2
    have h2 : ("both" : Str).length = 4 := by decide +kernel
    have h3 : 1 ≤ 2 ^ max a.ht b.ht := Nat.one_le_two_pow
    have h5 : 2 ^ a.ht ≤ 2 ^ max a.ht b.ht := Nat.pow_le_pow_right (by decide) (Nat.le_max_left ..)
    have h6 : 2 ^ b.ht ≤ 2 ^ max a.ht b.ht := Nat.pow_le_pow_right (by decide) (Nat.le_max_right ..)
    have h4 : 2 ^ (max a.ht b.ht + 1) = 2 ^ max a.ht b.ht * 2 := Nat.pow_succ ..
    have h7 : 1 ≤ 2 ^ a.ht := Nat.one_le_two_pow
    have h8 : 1 ≤ 2 ^ b.ht := Nat.one_le_two_pow
    show _ ≤ 2000 * 2 ^ (max a.ht b.ht + 1) - 100
    omega
  | .either a b, h => by
    unfold textF
    rw [join3_len]
    have h1 := text_len a h.1
    have h1' := text_len b h.2
    have h2 : ("either" : Str).length = 6 := by decide +kernel
    have h3 : 1 ≤ 2 ^ max a.ht b.ht := Nat.one_le_two_pow
    have h5 : 2 ^ a.ht ≤ 2 ^ max a.ht b.ht := Nat.pow_le_pow_right (by decide) (Nat.le_max_left ..)
    have h6 : 2 ^ b.ht ≤ 2 ^ max a.ht b.ht := Nat.pow_le_pow_right (by decide) (Nat.le_max_right ..)
    have h4 : 2 ^ (max a.ht b.ht + 1) = 2 ^ max a.ht b.ht * 2 := Nat.pow_succ ..
    have h7 : 1 ≤ 2 ^ a.ht := Nat.one_le_two_pow
    have h8 : 1 ≤ 2 ^ b.ht := Nat.one_le_two_pow
    show _ ≤ 2000 * 2 ^ (max a.ht b.ht + 1) - 100
    omega
theorem text_len7 {r : Rul} (h : r.good) (h7 : r.ht ≤ 7) : (textF r).length ≤ 256000 := by
  have h1 := text_len r h
  have h2 : 2 ^ r.ht ≤ 2 ^ 7 := Nat.pow_le_pow_right (by decide) h7
  omega
/-- a part and its text -/
inductive PT (n : Nat) : D → Str → Prop
  | rule (r : Rul) (h : r.ht ≤ n) (hg : r.good) : PT n (rd r) (textF r)
  | word (w : Str) (h : okW w) : PT n (.str w) w
  | num (i : Int) (h : okN i) : PT n (.int i) (intS i)
theorem PT.len {n : Nat} {d : D} {t : Str} (h : PT n d t) (h7 : n ≤ 7) : t.length ≤ 256000 := by
  cases h with
  | rule r h hg => exact text_len7 hg (by omega)
  | word w h => exact Nat.le_trans h.2 (by decide)
  | num i h => exact Nat.le_trans (intS_len h) (by decide)
inductive PTs (n : Nat) : List D → List Str → Prop
  | nil : PTs n [] []
  | cons {d ds t ts} (h : PT n d t) (hs : PTs n ds ts) : PTs n (d :: ds) (t :: ts)
theorem PTs.len {n : Nat} : ∀ {ds : List D} {ts : List Str}, PTs n ds ts → ts.length = ds.length
  | _, _, .nil => rfl
  | _, _, .cons _ h => by rw [List.length_cons, List.length_cons, h.len]
theorem PTs.get {n : Nat} : ∀ {ds : List D} {ts : List Str} {i : Nat} {d : D}, PTs n ds ts → ds[i]? = some d → ∃ t, ts[i]? = some t ∧ PT n d t
  | _, _, i, d, .nil, h => by cases h
  | _, _, 0, d, .cons h1 h2, h => by cases h; exact ⟨_, rfl, h1⟩
  | _, _, i + 1, d, .cons h1 h2, h => by
    obtain ⟨t, e, p⟩ := h2.get (i := i) (d := d) (by simpa using h)
    exact ⟨t, by simpa using e, p⟩
theorem PTs.sum {n : Nat} (h7 : n ≤ 7) : ∀ {ds : List D} {ts : List Str}, PTs n ds ts → (ts.map (·.length)).sum ≤ 256000 * ts.length
  | _, _, .nil => Nat.le_refl _
  | _, _, .cons h1 h2 => by
    have := h1.len h7
    have := h2.sum h7
    simp only [List.map_cons, List.sum_cons, List.length_cons]
    omega
/-- what a rule is, as a row of parts -/
structure Row (r : Rul) where
  word : Str
  parts : List D
  ts : List Str
  hd : rd r = .tuple (.str word :: parts)
  pt : PTs (r.ht - 1) parts ts
  tx : textF r = Txt.join sp1 (word :: ts)
  few : parts.length ≤ 2
  wl : word.length ≤ 6
  leaf : r.ht = 1 → ∀ p ∈ parts, ∀ s, p ≠ rd s
def rowOf (r : Rul) (h : r.good) : Row r := match r, h with
  | .any, _ => ⟨"any", [], [], rfl, .nil, rfl, by simp, by decide +kernel, fun _ p hp => (nomatch hp)⟩
  | .has w, h => ⟨"has", [.str w], [w], rfl, .cons (.word w h) .nil, rfl, by simp, by decide +kernel, fun _ p hp s => by rw [List.mem_singleton.mp hp]; cases s <;> simp [rd]⟩
  | .least w n, h => ⟨"least", [.str w, .int n], [w, intS n], rfl, .cons (.word w h.1) (.cons (.num n h.2) .nil), rfl, by simp, by decide +kernel, fun _ p hp s => by
      rcases List.mem_cons.mp hp with e | hp
      · rw [e]; cases s <;> simp [rd]
      · rw [List.mem_singleton.mp hp]; cases s <;> simp [rd]⟩
  | .neg a, h => ⟨"not", [rd a], [textF a], rfl, .cons (.rule a (by show a.ht ≤ a.ht + 1 - 1; omega) h) .nil, rfl, by simp, by decide +kernel, fun e => by have := ht_pos a; have e : a.ht + 1 = 1 := e; omega⟩
  | .both a b, h => ⟨"both", [rd a, rd b], [textF a, textF b], rfl, .cons (.rule a (by show a.ht ≤ max a.ht b.ht + 1 - 1; omega) h.1) (.cons (.rule b (by show b.ht ≤ max a.ht b.ht + 1 - 1; omega) h.2) .nil), rfl, by simp, by decide +kernel, fun e => by have := ht_pos a; have e : max a.ht b.ht + 1 = 1 := e; omega⟩
  | .either a b, h => ⟨"either", [rd a, rd b], [textF a, textF b], rfl, .cons (.rule a (by show a.ht ≤ max a.ht b.ht + 1 - 1; omega) h.1) (.cons (.rule b (by show b.ht ≤ max a.ht b.ht + 1 - 1; omega) h.2) .nil), rfl, by simp, by decide +kernel, fun e => by have := ht_pos a; have e : max a.ht b.ht + 1 = 1 := e; omega⟩
inductive RText (n : Nat) : List D → D → Prop
  | mk (r : Rul) (h : r.ht ≤ n) (h7 : r.ht ≤ 7) (hg : r.good) : RText n [rd r] (.str (textF r))
theorem cutD_tail (d : D) (ds : List D) : cutD (d :: ds) (some 1) none = ds := by
  have h1 : HT.sIx (d :: ds).length 0 (some 1) = 1 := by unfold HT.sIx; simp
  have h2 : HT.sIx (d :: ds).length (d :: ds).length none = (d :: ds).length := rfl
  unfold cutD
  rw [h1, h2]
  simp
section
variable {P : Program} {w : World} {K : Fg} {mg : Str → Option Value} {base : Heap}
theorem ok_rule_text (g : G K mg) : ∀ n : Nat, Dk P w K mg base (n + 1) "rule_text" ["rule"] (spR K (RText n))
  | 0 => g.f_rule_text.dk0 fun ds r h => by
    obtain ⟨r, h⟩ := h
    have := ht_pos r
    omega
  | n + 1 => by
    have ih := ok_rule_text g n
    refine g.f_rule_text.dk sc_rule_text (by rintro _ _ ⟨⟩; rfl) fun f cdv A outer s H E hr => ⟨_, (pss_cons (ps_set (i := 1) sc_rule_text.nd rfl (Or.inl rfl) (pe_lst (pa_cons (pe_ix (kIxU (K := K)) (pv 0) pe_int (fun _ _ => rfl)) pa_nil)))
    (pss_cons (ps_for PassesOwn.never rfl (pi_any (K := K) (pe_slice (kSl (K := K)) (pv 0) (po_some pe_int) po_none)) (pg_name (i := 2) sc_rule_text.nd rfl (Or.inl rfl))
    (pss_one (ps_if (pt_val (bi (jIsi (K := K)) g.b_isinstance (pa_cons (pv 2) (pa_cons (bty (n := "tuple") g.b_tuple) pa_nil))))
    (pss_one (ps_expr (bm (K := K) PySem.F.plainAttrs_list PySem.F.slot_list_append PySem.F.type_list_append mt_append (pv 1) (pa_cons (cl ih hr (pa_cons (pv 2) pa_nil)) pa_nil))))
    (pss_one (ps_expr (bm (K := K) PySem.F.plainAttrs_list PySem.F.slot_list_append PySem.F.type_list_append mt_append (pv 1) (pa_cons (bt (jStr (K := K)) g.b_str (pa_cons (pv 2) pa_nil)) pa_nil)))))))
    (pss_one (ps_ret (bm (K := K) PySem.F.plainAttrs_str PySem.F.slot_str_join PySem.F.type_str_join (mJoin (K := K)) pe_str (pa_cons (pv 1) pa_nil)))))), fun vs F0 ds r Q fh ha hR q => ?_⟩
    obtain ⟨r, h, h7, hg⟩ := hR
    obtain ⟨v, rfl, hv⟩ := dps1 ha
    have g0 : Gr F0 H F0 H := Gr.refl fh
    obtain ⟨word, parts, ts, hd, pt, tx, few, wl, -⟩ := rowOf r hg
    rw [hd] at hv
    rw [tx] at q
    have k0 : atI (PyData.str word :: parts) 0 = some (.str word) := atI_nat (j := 0) rfl
    have hn7 : r.ht - 1 ≤ 7 := by omega
    have hrn : r.ht - 1 ≤ n := by omega
    have hlen := pt.len
    refine q_setN (K := K) g0 (n_lst (ds := [.str word]) (by wtm_at "evs") (by simp)) fun l us F1 H1 g1 s1 hl0 fl hl hu => ?_
    have hu := dps_strs_inv [word] hu
    subst hu
    have hv := hv.up s1.fx
    refine q_forN (K := K) g1 (w_anyT (ds := parts) (EvD.to (by wtm_at "ev") (by rw [cutD_tail]))) fun F2 H2 g2 s2 => ⟨fun i σ' F' H' => (∃ y2, σ' = [some v, some (.ref l), y2]) ∧ F' l = none ∧ H' l = some (.lst ((word :: ts.take i).map V.str)), ⟨⟨none, rfl⟩, (s2.old l (by rw [hl]; exact fun z => nomatch z)).trans fl, s2.hx _ _ hl⟩, fun i d σ' F' H' hd' g' e' hP x F3 H3 g3 hx => ?_, fun σ' F' H' g' e' hP => ?_⟩
    · obtain ⟨⟨y2, rfl⟩, fl, hl⟩ := hP
      obtain ⟨t, ht, hpt⟩ := pt.get hd'
      have g4 := g'.trans g3
      have fl3 : F3 l = none := (g3.old l (by rw [hl]; exact fun z => nomatch z)).trans fl
      have hl3 := g3.hx _ _ hl
      have hz : ((word :: ts.take i).map V.str).length < 100000 := by rw [List.length_map, List.length_cons, List.length_take]; omega
      have fin : ∀ F5 H5, Gr F0 H F5 H5 → Ex F3 F5 → F5 l = none → H5 l = some (.lst ((word :: ts.take i).map V.str ++ [V.str t])) → Btw F0 H F2 (fun σ' F' H' => (∃ y2, σ' = [some v, some (.ref l), y2]) ∧ F' l = none ∧ H' l = some (.lst ((word :: ts.take (i + 1)).map V.str))) [some v, some (.ref l), some x] H5 := fun F5 H5 g5 x5 f5 l5 => by
        refine ⟨F5, g5, (e'.trans g3.fx).trans x5, ⟨_, rfl⟩, f5, ?_⟩
        rw [l5, List.take_add_one, ht]
        simp
      cases hpt with
      | rule a hh hga =>
        have ha7 : a.ht ≤ 7 := by omega
        have han : a.ht ≤ n := by omega
        have hist : isTup (rd a) = true := by cases a <;> rfl
        refine s_if g4 (b := true) (EvB.to (by wtm_at "evb") hist) (fun _ H4 g4 e4 => ?_) fun hb => nomatch hb
        refine s_app (K := K) g4 hl0 fl3 (e4 _ _ hl3) rfl hz (d := .str (textF a)) (by wtm_at "ev") fun v5 F5 H5 g5 x5 o5 oh5 l5 hv5 => ?_
        cases hv5
        exact fin F5 H5 g5 x5 ((o5 l (by rw [e4 _ _ hl3]; exact fun z => nomatch z)).trans fl3) l5
      | word wd hw =>
        refine s_if g4 (b := false) (EvB.to (by wtm_at "evb") (by rfl)) (fun hb => nomatch hb) fun _ H4 g4 e4 => ?_
        refine s_app (K := K) g4 hl0 fl3 (e4 _ _ hl3) rfl hz (d := .str t) (by wtm_at "ev") fun v5 F5 H5 g5 x5 o5 oh5 l5 hv5 => ?_
        cases hv5
        exact fin F5 H5 g5 x5 ((o5 l (by rw [e4 _ _ hl3]; exact fun z => nomatch z)).trans fl3) l5
      | num j hj =>
        have hlog := okN_log hj
        refine s_if g4 (b := false) (EvB.to (by wtm_at "evb") (by rfl)) (fun hb => nomatch hb) fun _ H4 g4 e4 => ?_
        refine s_app (K := K) g4 hl0 fl3 (e4 _ _ hl3) rfl hz (d := .str (intS j)) (by wtm_at "ev") fun v5 F5 H5 g5 x5 o5 oh5 l5 hv5 => ?_
        cases hv5
        exact fin F5 H5 g5 x5 ((o5 l (by rw [e4 _ _ hl3]; exact fun z => nomatch z)).trans fl3) l5
    · obtain ⟨⟨y2, rfl⟩, fl, hl⟩ := hP
      rw [← hlen, List.take_length] at hl
      have g4 := g'.give hl0 hl fl
      have hO : Dp K (upd F' l (.lst ((word :: ts).map V.str))) (.ref l) (.list ((word :: ts).map PyData.str)) := .lst (sq_of upd_same) (dps_strs _)
      have hsum := pt.sum hn7
      have hj : ((word :: ts).map (·.length)).sum + (word :: ts).length * sp1.length ≤ 16777216 := by
        have e : sp1.length = 1 := by decide +kernel
        rw [List.map_cons, List.sum_cons, List.length_cons, e]
        omega
      exact s_ret (K := K) g4 (by wtm_at "ev") q
end


/-! ### the row, written the law's way -/
noncomputable def innerD (d : D) : D := .str (textF (unrd d))
def leafD : D → D
  | .str z => .str z
  | .int i => .str (intS i)
  | _ => .none
def innerW : Rul → Bool
  | .any => false
  | .has _ => false
  | .least _ _ => false
  | _ => true
theorem PTs.leaf {n : Nat} : ∀ {ds : List D} {ts : List Str}, PTs n ds ts → (∀ p ∈ ds, ∀ s, p ≠ rd s) → ds.map leafD = ts.map PyData.str
  | _, _, .nil, _ => rfl
  | _, _, .cons (d := d) (t := t) h1 h2, no => by
    have ih := h2.leaf fun p hp => no p (List.mem_cons_of_mem _ hp)
    have h0 := no d (List.mem_cons_self ..)
    rw [List.map_cons, List.map_cons, ih]
    cases h1 with
    | rule r h hg => exact absurd rfl (h0 r)
    | word w h => rfl
    | num i h => rfl
theorem PTs.inner {n : Nat} : ∀ {ds : List D} {ts : List Str}, PTs n ds ts → (∀ p ∈ ds, ∃ s, p = rd s) → ds.map innerD = ts.map PyData.str
  | _, _, .nil, _ => rfl
  | _, _, .cons (d := d) (t := t) h1 h2, yes => by
    have ih := h2.inner fun p hp => yes p (List.mem_cons_of_mem _ hp)
    obtain ⟨s, e⟩ := yes d (List.mem_cons_self ..)
    rw [List.map_cons, List.map_cons, ih]
    cases h1 with
    | rule r h hg =>
      unfold innerD
      rw [unrd_rd]
    | word w h => cases s <;> simp [rd] at e
    | num i h => cases s <;> simp [rd] at e
theorem isin1 : ("not" : Str) ∈ (["not", "both", "either"] : List Str) := by decide +kernel
theorem isin2 : ("both" : Str) ∈ (["not", "both", "either"] : List Str) := by decide +kernel
theorem isin3 : ("either" : Str) ∈ (["not", "both", "either"] : List Str) := by decide +kernel
theorem notin1 : ("any" : Str) ∉ (["not", "both", "either"] : List Str) := by decide +kernel
theorem notin2 : ("has" : Str) ∉ (["not", "both", "either"] : List Str) := by decide +kernel
theorem notin3 : ("least" : Str) ∉ (["not", "both", "either"] : List Str) := by decide +kernel
/-- which parts are rules -/
theorem row_parts {r : Rul} (h : r.good) (R : Row r) : (innerW r = true → (∀ p ∈ R.parts, ∃ s : Rul, p = rd s ∧ s.ht ≤ r.ht - 1 ∧ s.good) ∧ R.word ∈ (["not", "both", "either"] : List Str)) ∧ (innerW r = false → (∀ p ∈ R.parts, ∀ s, p ≠ rd s) ∧ R.word ∉ (["not", "both", "either"] : List Str) ∧ ∀ p ∈ R.parts, (∃ z, p = .str z) ∨ ∃ i, p = .int i ∧ okN i) := by
  obtain ⟨word, parts, ts, hd, pt, tx, few, wl, lf⟩ := R
  cases r with
  | any =>
    have hd : PyData.tuple [.str "any"] = .tuple (.str word :: parts) := hd
    injection hd with hd
    injection hd with h1 h2
    injection h1 with h1
    subst h1 h2
    refine ⟨fun z => (nomatch z), fun _ => ⟨fun p hp => (nomatch hp), notin1, fun p hp => (nomatch hp)⟩⟩
  | has w =>
    have hd : PyData.tuple [.str "has", .str w] = .tuple (.str word :: parts) := hd
    injection hd with hd
    injection hd with h1 h2
    injection h1 with h1
    subst h1 h2
    refine ⟨fun z => (nomatch z), fun _ => ⟨lf rfl, notin2, fun p hp => ?_⟩⟩
    rw [List.mem_singleton.mp hp]
    exact .inl ⟨_, rfl⟩
  | least w n =>
    have hd : PyData.tuple [.str "least", .str w, .int n] = .tuple (.str word :: parts) := hd
    injection hd with hd
    injection hd with h1 h2
    injection h1 with h1
    subst h1 h2
    refine ⟨fun z => (nomatch z), fun _ => ⟨lf rfl, notin3, fun p hp => ?_⟩⟩
    rcases List.mem_cons.mp hp with e | hp
    · rw [e]; exact .inl ⟨_, rfl⟩
    · rw [List.mem_singleton.mp hp]; exact .inr ⟨n, rfl, h.2⟩
  | neg a =>
    have hd : PyData.tuple [.str "not", rd a] = .tuple (.str word :: parts) := hd
    injection hd with hd
    injection hd with h1 h2
    injection h1 with h1
    subst h1 h2
    refine ⟨fun _ => ⟨fun p hp => ?_, isin1⟩, fun z => (nomatch z)⟩
    rw [List.mem_singleton.mp hp]
    exact ⟨a, rfl, by show a.ht ≤ a.ht + 1 - 1; omega, h⟩
  | both a b =>
    have hd : PyData.tuple [.str "both", rd a, rd b] = .tuple (.str word :: parts) := hd
    injection hd with hd
    injection hd with h1 h2
    injection h1 with h1
    subst h1 h2
    refine ⟨fun _ => ⟨fun p hp => ?_, isin2⟩, fun z => (nomatch z)⟩
    rcases List.mem_cons.mp hp with e | hp
    · rw [e]; exact ⟨a, rfl, by show a.ht ≤ max a.ht b.ht + 1 - 1; omega, h.1⟩
    · rw [List.mem_singleton.mp hp]; exact ⟨b, rfl, by show b.ht ≤ max a.ht b.ht + 1 - 1; omega, h.2⟩
  | either a b =>
    have hd : PyData.tuple [.str "either", rd a, rd b] = .tuple (.str word :: parts) := hd
    injection hd with hd
    injection hd with h1 h2
    injection h1 with h1
    subst h1 h2
    refine ⟨fun _ => ⟨fun p hp => ?_, isin3⟩, fun z => (nomatch z)⟩
    rcases List.mem_cons.mp hp with e | hp
    · rw [e]; exact ⟨a, rfl, by show a.ht ≤ max a.ht b.ht + 1 - 1; omega, h.1⟩
    · rw [List.mem_singleton.mp hp]; exact ⟨b, rfl, by show b.ht ≤ max a.ht b.ht + 1 - 1; omega, h.2⟩
section
variable {P : Program} {w : World} {K : Fg} {mg : Str → Option Value} {base : Heap}
theorem ok__law_rule_row (g : G K mg) : ∀ n : Nat, Dk P w K mg base (n + 1) "_law_rule_row" ["_law_rule_here"] (spR K (RText n))
  | 0 => g.f__law_rule_row.dk0 fun ds r h => by
    obtain ⟨r, h⟩ := h
    have := ht_pos r
    omega
  | n + 1 => by
    have ih := ok__law_rule_row g n
    refine g.f__law_rule_row.dk sc__law_rule_row (by rintro _ _ ⟨⟩; rfl) fun f cdv A outer s H E hr => ⟨_, (pss_cons (ps_if (pt_cmpR (kIn (room65 hr) (K := K)) (pe_ix (kIxU (K := K)) (pv 0) pe_int (fun _ _ => rfl)) (pe_lst (pa_cons pe_str (pa_cons pe_str (pa_cons pe_str pa_nil)))) (by rfl))
    (pss_one (ps_ret (bm (K := K) PySem.F.plainAttrs_str PySem.F.slot_str_join PySem.F.type_str_join (mJoin (K := K)) pe_str (pa_cons (pe_op (kAdd (K := K)) (pe_lst (pa_cons (pe_ix (kIxU (K := K)) (pv 0) pe_int (fun _ _ => rfl)) pa_nil)) (pe_lc (own := [("_law_part", 1)]) (g := gName 1) rfl sc__law_rule_row.nd (pi_any (K := K) (pe_slice (kSl (K := K)) (pv 0) (po_some pe_int) po_none)) (blkOk_by (own := [("_law_part", 1)]) (N := N__law_rule_row) (sc := defScope s__law_rule_row) (by decide +kernel)) (fun _ _ _ _ _ => (pg_name (i := 1) sc__law_rule_row.nd rfl (Or.inl rfl))) (fun _ _ _ _ _ => pts_nil) (fun _ _ _ _ _ => (cl ih hr (pa_cons (pv 1) pa_nil))))) pa_nil))))
    pss_nil)
    (pss_one (ps_ret (bm (K := K) PySem.F.plainAttrs_str PySem.F.slot_str_join PySem.F.type_str_join (mJoin (K := K)) pe_str (pa_cons (pe_op (kAdd (K := K)) (pe_lst (pa_cons (pe_ix (kIxU (K := K)) (pv 0) pe_int (fun _ _ => rfl)) pa_nil)) (pe_lc (own := [("_law_part", 1)]) (g := gName 1) rfl sc__law_rule_row.nd (pi_any (K := K) (pe_slice (kSl (K := K)) (pv 0) (po_some pe_int) po_none)) (blkOk_by (own := [("_law_part", 1)]) (N := N__law_rule_row) (sc := defScope s__law_rule_row) (by decide +kernel)) (fun _ _ _ _ _ => (pg_name (i := 1) sc__law_rule_row.nd rfl (Or.inl rfl))) (fun _ _ _ _ _ => pts_nil) (fun _ _ _ _ _ => (bt (jStr (K := K)) g.b_str (pa_cons (pv 1) pa_nil))))) pa_nil))))), fun vs F0 ds r Q fh ha hR q => ?_⟩
    obtain ⟨r, h, h7, hg⟩ := hR
    obtain ⟨v, rfl, hv⟩ := dps1 ha
    have g0 : Gr F0 H F0 H := Gr.refl fh
    have hrow := row_parts hg (rowOf r hg)
    revert hrow
    generalize rowOf r hg = R
    obtain ⟨word, parts, ts, hd, pt, tx, few, wl, -⟩ := R
    intro hrow
    have hrow : (innerW r = true → (∀ p ∈ parts, ∃ s : Rul, p = rd s ∧ s.ht ≤ r.ht - 1 ∧ s.good) ∧ word ∈ (["not", "both", "either"] : List Str)) ∧ (innerW r = false → (∀ p ∈ parts, ∀ s, p ≠ rd s) ∧ word ∉ (["not", "both", "either"] : List Str) ∧ ∀ p ∈ parts, (∃ z, p = .str z) ∨ ∃ i, p = .int i ∧ okN i) := hrow
    rw [hd] at hv
    rw [tx] at q
    have k0 : atI (PyData.str word :: parts) 0 = some (.str word) := atI_nat (j := 0) rfl
    have hsw : SeqAt.shaped (.str word) = true := by
      have h1 := (rd_lay r hg).1
      rw [hd] at h1
      simp only [PyData.canLay0, PyData.canLayAll0, Bool.and_eq_true] at h1
      exact str_shaped h1.1
    have hs3 : SeqAt.shaped (.list [.str "not", .str "both", .str "either"]) = true := strs_shaped (zs := ["not", "both", "either"]) (by decide +kernel)
    have hn7 : r.ht - 1 ≤ 7 := by omega
    have hlen := pt.len
    have hsum := pt.sum hn7
    have hz : parts.length ≤ 50000 := by omega
    have hj : ((word :: ts).map (·.length)).sum + (word :: ts).length * sp1.length ≤ 16777216 := by
      have e : sp1.length = 1 := by decide +kernel
      rw [List.map_cons, List.sum_cons, List.length_cons, e]
      omega
    have hcat : ([PyData.str word] : List D).length + (ts.map PyData.str).length ≤ 100000 := by
      rw [List.length_map]
      simp
      omega
    cases hi : innerW r with
    | true =>
      obtain ⟨hin, hmem⟩ := hrow.1 hi
      refine q_when g0 (b := true) (EvB.to (by wtm_at "evb") (by
        rw [show ([PyData.str "not", .str "both", .str "either"] : List D) = (["not", "both", "either"] : List Str).map PyData.str from rfl, any_strs]
        exact decide_eq_true hmem)) (fun _ H2 g2 e2 => ?_) fun hb => nomatch hb
      have htx := pt.inner fun p hp => by obtain ⟨s, e, _⟩ := hin p hp; exact ⟨s, e⟩
      refine s_ret (K := K) g2 (d_bm (d_c (.str sp1)) (ds_cons (EvD.to (d_op2 (d_lst (ds := [.str word]) (by wtm_at "evs") (by simp)) (EvD.to (EvN.dd (n_lc1 (w_anyT (ds := parts) (EvD.to (by wtm_at "ev") (by rw [cutD_tail]))) hz innerD (fun _ => rfl) (fun d x F' H' hm a1 b1 c1 hx => ?_))) (congrArg PyData.list htx)) (.list _ _ hcat)) (e := .list ((word :: ts).map PyData.str)) rfl) ds_nil) (.list _ _ hj)) q
      obtain ⟨s', rfl, hs1, hs2⟩ := hin d hm
      have h1 : s'.ht ≤ n := by omega
      have h2 : s'.ht ≤ 7 := by omega
      exact EvD.to (by wtm_at "ev") (by unfold innerD; rw [unrd_rd])
    | false =>
      obtain ⟨hin, hmem, hsi⟩ := hrow.2 hi
      refine q_when g0 (b := false) (EvB.to (by wtm_at "evb") (by
        rw [show ([PyData.str "not", .str "both", .str "either"] : List D) = (["not", "both", "either"] : List Str).map PyData.str from rfl, any_strs]
        exact decide_eq_false hmem)) (fun hb => nomatch hb) fun _ H2 g2 e2 => ?_
      have htx := pt.leaf hin
      refine s_ret (K := K) g2 (d_bm (d_c (.str sp1)) (ds_cons (EvD.to (d_op2 (d_lst (ds := [.str word]) (by wtm_at "evs") (by simp)) (EvD.to (EvN.dd (n_lc1 (w_anyT (ds := parts) (EvD.to (by wtm_at "ev") (by rw [cutD_tail]))) hz leafD (fun _ => rfl) (fun d x F' H' hm a1 b1 c1 hx => ?_))) (congrArg PyData.list htx)) (.list _ _ hcat)) (e := .list ((word :: ts).map PyData.str)) rfl) ds_nil) (.list _ _ hj)) q
      rcases hsi d hm with ⟨z, rfl⟩ | ⟨i, rfl, hi⟩
      · exact EvD.to (by wtm_at "ev") (by rfl)
      · have hlog := okN_log hi
        exact EvD.to (by wtm_at "ev") (by rfl)
end


/-! ### deeds: names, numbers -/
abbrev lett : Str := "abcdefghijklmnopqrstuvwxyz"
abbrev sign36 : Str := "abcdefghijklmnopqrstuvwxyz0123456789"
def runS (z : Str) (m : Int) (at' step : Int) (n : Nat) : List Nat := (List.range n).map fun (j : Nat) => z.cps.toList.getD ((at' + (j : Int) * step) % m).toNat 0
theorem runS_succ (z : Str) (m at' step : Int) (n : Nat) : (⟨(runS z m at' step n).toArray⟩ : Str) ++ (⟨#[z.cps.toList.getD ((at' + (n : Int) * step) % m).toNat 0]⟩ : Str) = ⟨(runS z m at' step (n + 1)).toArray⟩ := by
  unfold runS
  rw [show (⟨#[z.cps.toList.getD ((at' + (n : Int) * step) % m).toNat 0]⟩ : Str) = ⟨([z.cps.toList.getD ((at' + (n : Int) * step) % m).toNat 0] : List Nat).toArray⟩ from rfl, str_app, List.range_succ, List.map_append]
  rfl
theorem runS_len (z : Str) (m at' step : Int) (n : Nat) : (⟨(runS z m at' step n).toArray⟩ : Str).length = n := by
  rw [str_len]
  unfold runS
  rw [List.length_map, List.length_range]
theorem runS_ok {z : Str} (hz : PyData.strOk z = true) (m at' step : Int) (n : Nat) : PyData.strOk ⟨(runS z m at' step n).toArray⟩ = true := by
  rw [strOk_iff] at hz ⊢
  intro c hc
  have hc : c ∈ runS z m at' step n := by simpa using hc
  unfold runS at hc
  obtain ⟨j, _, rfl⟩ := List.mem_map.mp hc
  rw [List.getD_eq_getElem?_getD]
  cases e : z.cps.toList[((at' + (j : Int) * step) % m).toNat]? with
  | none => decide
  | some c => exact hz c (List.mem_of_getElem? e)
def nameW (n : Int) : Str := ⟨(runS lett 26 (n / 12) (1 + n / 400 % 25) (1 + n % 12).toNat).toArray⟩
def nmF (n : Int) : Str := (["any", "layer", "not", "has", nameW n, nameW n, nameW n, nameW n] : List Str).getD (n / 7 % 8).toNat ""
def guestF (n : Int) : Str := ⟨(runS sign36 36 (n / 24) (1 + n / 900 % 35) (1 + n % 24).toNat).toArray⟩
theorem lett_ok : PyData.strOk lett = true := by decide +kernel
theorem sign36_ok : PyData.strOk sign36 = true := by decide +kernel
theorem nameW_ok (n : Int) : okW (nameW n) := ⟨runS_ok lett_ok _ _ _ _, by unfold nameW; rw [runS_len]; omega⟩
theorem nm_ok (n : Int) : okW (nmF n) := by
  have hw := nameW_ok n
  unfold nmF
  rw [List.getD_eq_getElem?_getD]
  have h4 : ∀ z ∈ (["any", "layer", "not", "has"] : List Str), PyData.strOk z = true ∧ z.length ≤ 12 := by decide +kernel
  have h : ∀ z ∈ (["any", "layer", "not", "has", nameW n, nameW n, nameW n, nameW n] : List Str), okW z := fun z hz => by
    have hz : z ∈ (["any", "layer", "not", "has"] : List Str) ++ [nameW n, nameW n, nameW n, nameW n] := hz
    rcases List.mem_append.mp hz with h | h
    · exact h4 z h
    · have : z = nameW n := by simpa using h
      rw [this]; exact hw
  cases e : (["any", "layer", "not", "has", nameW n, nameW n, nameW n, nameW n] : List Str)[(n / 7 % 8).toNat]? with
  | none => exact ⟨by decide +kernel, by decide +kernel⟩
  | some z => exact h z (List.mem_of_getElem? e)
theorem guest_ok (n : Int) : PyData.strOk (guestF n) = true ∧ (guestF n).length ≤ 24 := ⟨runS_ok sign36_ok _ _ _ _, by unfold guestF; rw [runS_len]; omega⟩
inductive RNm : List D → D → Prop
  | mk (n : Int) (h : 0 ≤ n) : RNm [.int n] (.str (nmF n))
inductive RGuestF : List D → D → Prop
  | mk (n : Int) (h : 0 ≤ n) : RGuestF [.int n] (.str (guestF n))
/-- a number that can be written -/
def okI (i : Int) : Prop := i.natAbs.log2 < 1920
theorem okI_of {i : Int} (h : -10 ^ 60 ≤ i ∧ i ≤ 10 ^ 60) : okI i := by
  have h1 : i.natAbs ≤ 10 ^ 60 := by omega
  unfold okI
  by_cases h0 : i.natAbs = 0
  · rw [h0]; decide
  · rw [Nat.log2_lt h0]
    exact Nat.lt_of_le_of_lt h1 (by decide +kernel)
def longF (ns : List Int) (k n : Int) : Int :=
  ([n / 5 % 12, n / 5 % 12, (cellAt ns k + 7 * k) % 10 ^ 12, (cellAt ns k + 7 * k) % 10 ^ 60, 10 ^ 60 - 1] : List Int).getD (n % 5).toNat 0
theorem long_ok (ns : List Int) (k n : Int) : 0 ≤ longF ns k n ∧ longF ns k n ≤ 10 ^ 60 := by
  unfold longF
  have h : ∀ z ∈ ([n / 5 % 12, n / 5 % 12, (cellAt ns k + 7 * k) % 10 ^ 12, (cellAt ns k + 7 * k) % 10 ^ 60, 10 ^ 60 - 1] : List Int), 0 ≤ z ∧ z ≤ 10 ^ 60 := fun z hz => by
    simp only [List.mem_cons, List.not_mem_nil, or_false] at hz
    rcases hz with rfl | rfl | rfl | rfl | rfl <;> omega
  rw [List.getD_eq_getElem?_getD]
  cases e : ([n / 5 % 12, n / 5 % 12, (cellAt ns k + 7 * k) % 10 ^ 12, (cellAt ns k + 7 * k) % 10 ^ 60, 10 ^ 60 - 1] : List Int)[(n % 5).toNat]? with
  | none => exact ⟨by decide, by decide⟩
  | some z => exact h z (List.mem_of_getElem? e)
inductive RLong : List D → D → Prop
  | mk (ns : List Int) (k n : Int) (h : ns.length ≤ 63) (hn : 0 ≤ n) : RLong [.list (ns.map PyData.int), .int k, .int n] (.int (longF ns k n))
def namesL (ns : List Int) (k salt : Int) : Nat → List Str
  | 0 => []
  | i + 1 => if nmF (mixF ns k (salt + (i : Int))) ∈ namesL ns k salt i then namesL ns k salt i else namesL ns k salt i ++ [nmF (mixF ns k (salt + (i : Int)))]
theorem namesL_ok (ns : List Int) (k salt : Int) : ∀ i : Nat, (namesL ns k salt i).length ≤ i ∧ (0 < i → 0 < (namesL ns k salt i).length) ∧ (∀ w ∈ namesL ns k salt i, okW w) ∧ (namesL ns k salt i).Nodup
  | 0 => ⟨Nat.le_refl _, fun z => absurd z (Nat.lt_irrefl 0), fun w h => (nomatch h), List.nodup_nil⟩
  | i + 1 => by
    have ih := namesL_ok ns k salt i
    unfold namesL
    split
    · rename_i hm
      refine ⟨by omega, fun _ => ?_, ih.2.2.1, ih.2.2.2⟩
      exact List.length_pos_of_mem hm
    · rename_i hm
      refine ⟨by rw [List.length_append, List.length_singleton]; omega, fun _ => by rw [List.length_append, List.length_singleton]; omega, fun w hw => ?_, ?_⟩
      · rcases List.mem_append.mp hw with h | h
        · exact ih.2.2.1 w h
        · rw [List.mem_singleton.mp h]; exact nm_ok _
      · rw [List.nodup_append]
        refine ⟨ih.2.2.2, by simp, fun a ha b hb e => hm ?_⟩
        rw [← List.mem_singleton.mp hb, ← e]
        exact ha
inductive RNames : List D → D → Prop
  | mk (ns : List Int) (k salt many : Int) (h : ns.length ≤ 63) (hk : 0 ≤ k ∧ k ≤ 1000000) (hs : 0 ≤ salt ∧ salt ≤ 1000) (hm : 0 ≤ many ∧ many ≤ 100) : RNames [.list (ns.map PyData.int), .int k, .int salt, .int many] (.tuple ((namesL ns k salt many.toNat).map PyData.str))
def farN (ns : List Int) (k n : Int) : Int := ([n / 5 % 9 - 4, cellAt ns k % (2 * 10 ^ 30 + 1) - 10 ^ 30, 10 ^ 30, -10 ^ 30, 0] : List Int).getD (n % 5).toNat 0
theorem far_ok (ns : List Int) (k n : Int) : okN (farN ns k n) := by
  unfold farN
  have h : ∀ z ∈ ([n / 5 % 9 - 4, cellAt ns k % (2 * 10 ^ 30 + 1) - 10 ^ 30, 10 ^ 30, -10 ^ 30, 0] : List Int), okN z := fun z hz => by
    unfold okN
    rw [big30] at hz
    simp only [List.mem_cons, List.not_mem_nil, or_false] at hz
    rcases hz with rfl | rfl | rfl | rfl | rfl <;> omega
  rw [List.getD_eq_getElem?_getD]
  cases e : ([n / 5 % 9 - 4, cellAt ns k % (2 * 10 ^ 30 + 1) - 10 ^ 30, 10 ^ 30, -10 ^ 30, 0] : List Int)[(n % 5).toNat]? with
  | none => exact ⟨by decide, by decide⟩
  | some z => exact h z (List.mem_of_getElem? e)
def mmNames (ns : List Int) (k : Int) : List Str := namesL ns k 60 (mixF ns k 59 % 9).toNat
def mmL (ns : List Int) (k : Int) (ws : List Str) (i : Nat) : Mk := (List.range i).map fun (j : Nat) => (ws.getD j "", farN ns k (mixF ns k (70 + (j : Int))))
def mmF (ns : List Int) (k : Int) : Mk := mmL ns k (mmNames ns k) (mmNames ns k).length
inductive RMm : List D → D → Prop
  | mk (ns : List Int) (k : Int) (h : ns.length ≤ 63) (hk : 0 ≤ k ∧ k ≤ 1000000) : RMm [.list (ns.map PyData.int), .int k] (.tuple ((mmF ns k).map mkD))
theorem mmL_succ (ns : List Int) (k : Int) (ws : List Str) (i : Nat) : mmL ns k ws (i + 1) = mmL ns k ws i ++ [(ws.getD i "", farN ns k (mixF ns k (70 + (i : Int))))] := by
  unfold mmL
  rw [List.range_succ, List.map_append]
  rfl
theorem mmL_len (ns : List Int) (k : Int) (ws : List Str) (i : Nat) : (mmL ns k ws i).length = i := by unfold mmL; rw [List.length_map, List.length_range]
section
variable {P : Program} {w : World} {K : Fg} {mg : Str → Option Value} {base : Heap}
theorem ok__law_name (g : G K mg) : Dk P w K mg base 1 "_law_name" ["_law_number_here"] (spR K RNm) := by
  refine g.f__law_name.dk sc__law_name (by rintro _ _ ⟨⟩; rfl) fun f cdv A outer s H E hr => ⟨_, (pss_cons (ps_set (i := 1) sc__law_name.nd rfl (Or.inl rfl) pe_str)
    (pss_cons (ps_set (i := 2) sc__law_name.nd rfl (Or.inl rfl) (pe_op (kAdd (K := K)) pe_int (pe_op (kMod (K := K)) (pe_op (kDiv (K := K)) (pv 0) pe_int) pe_int)))
    (pss_cons (ps_set (i := 3) sc__law_name.nd rfl (Or.inl rfl) pe_str)
    (pss_cons (ps_for PassesOwn.never rfl (pi_range1 (by rfl) g.b_range (pa_cons (pe_op (kAdd (K := K)) pe_int (pe_op (kMod (K := K)) (pv 0) pe_int)) pa_nil)) (pg_name (i := 4) sc__law_name.nd rfl (Or.inl rfl))
    (pss_one (ps_set (i := 3) sc__law_name.nd rfl (Or.inl rfl) (pe_op (kAdd (K := K)) (pv 3) (pe_ix (kIxU (K := K)) (pv 1) (pe_op (kMod (K := K)) (pe_op (kAdd (K := K)) (pe_op (kDiv (K := K)) (pv 0) pe_int) (pe_op (kMul (K := K)) (pv 4) (pv 2))) pe_int) (fun _ _ => rfl))))))
    (pss_one (ps_ret (pe_ix (kIxU (K := K)) (pe_lst (pa_cons pe_str (pa_cons pe_str (pa_cons pe_str (pa_cons pe_str (pa_cons (pv 3) (pa_cons (pv 3) (pa_cons (pv 3) (pa_cons (pv 3) pa_nil))))))))) (pe_op (kMod (K := K)) (pe_op (kDiv (K := K)) (pv 0) pe_int) pe_int) (fun _ _ => rfl)))))))), fun vs F0 ds r Q fh ha hR q => ?_⟩
  obtain ⟨n, h⟩ := hR
  obtain ⟨v, rfl, hv⟩ := dps1 ha
  cases hv
  have g0 : Gr F0 H F0 H := Gr.refl fh
  have h26 : lett.cps.toList.length = 26 := by decide +kernel
  have h26' : lett.length ≤ 100000 := by decide +kernel
  refine q_setV (K := K) g0 (by wtm_at "ev") rfl fun H1 g1 e1 => ?_
  refine q_setV (K := K) g1 (by wtm_at "ev") rfl fun H2 g2 e2 => ?_
  refine q_setV (K := K) g2 (by wtm_at "ev") rfl fun H3 g3 e3 => ?_
  refine q_forR (K := K) g3 (n := 1 + n % 12) (by wtm_at "evs") (by omega) (by omega) (fun i σ' F' H' => ∃ y4, σ' = [some (.int n), some (.str lett), some (.int (1 + n / 400 % 25)), some (.str ⟨(runS lett 26 (n / 12) (1 + n / 400 % 25) i).toArray⟩), y4]) (fun H2 _ _ => ⟨none, rfl⟩) (fun i σ' F' H' hi g' e' hP => ?_) fun σ' F' H' g' e' hP => ?_
  · obtain ⟨y4, rfl⟩ := hP
    have hat : atI lett.cps.toList ((n / 12 + (i : Int) * (1 + n / 400 % 25)) % 26) = some (lett.cps.toList.getD ((n / 12 + (i : Int) * (1 + n / 400 % 25)) % 26).toNat 0) := atI_getN (by omega) (by omega)
    have hsz : (⟨(runS lett 26 (n / 12) (1 + n / 400 % 25) i).toArray⟩ : Str).length + (⟨#[lett.cps.toList.getD ((n / 12 + (i : Int) * (1 + n / 400 % 25)) % 26).toNat 0]⟩ : Str).length ≤ 100000 := by
      rw [runS_len, show (⟨#[lett.cps.toList.getD ((n / 12 + (i : Int) * (1 + n / 400 % 25)) % 26).toNat 0]⟩ : Str).length = 1 from rfl]
      omega
    refine s_setV (K := K) g' (by wtm_at "ev") rfl fun H4 g4 e4 => ⟨F', g4, e', some (.int (i : Int)), ?_⟩
    rw [runS_succ]
    rfl
  · obtain ⟨y4, rfl⟩ := hP
    have hat : atI [PyData.str "any", .str "layer", .str "not", .str "has", .str (nameW n), .str (nameW n), .str (nameW n), .str (nameW n)] (n / 7 % 8) = some (.str (nmF n)) := atI_strs (zs := ["any", "layer", "not", "has", nameW n, nameW n, nameW n, nameW n]) (by omega) (by show _ < (8 : Int); omega)
    exact s_ret (K := K) g' (by unfold nameW at hat; wtm_at "ev") q
theorem ok__law_guest (g : G K mg) : Dk P w K mg base 1 "_law_guest" ["_law_number_here"] (spR K RGuestF) := by
  refine g.f__law_guest.dk sc__law_guest (by rintro _ _ ⟨⟩; rfl) fun f cdv A outer s H E hr => ⟨_, (pss_cons (ps_set (i := 1) sc__law_guest.nd rfl (Or.inl rfl) pe_str)
    (pss_cons (ps_set (i := 2) sc__law_guest.nd rfl (Or.inl rfl) (pe_op (kAdd (K := K)) pe_int (pe_op (kMod (K := K)) (pe_op (kDiv (K := K)) (pv 0) pe_int) pe_int)))
    (pss_cons (ps_set (i := 3) sc__law_guest.nd rfl (Or.inl rfl) pe_str)
    (pss_cons (ps_for PassesOwn.never rfl (pi_range1 (by rfl) g.b_range (pa_cons (pe_op (kAdd (K := K)) pe_int (pe_op (kMod (K := K)) (pv 0) pe_int)) pa_nil)) (pg_name (i := 4) sc__law_guest.nd rfl (Or.inl rfl))
    (pss_one (ps_set (i := 3) sc__law_guest.nd rfl (Or.inl rfl) (pe_op (kAdd (K := K)) (pv 3) (pe_ix (kIxU (K := K)) (pv 1) (pe_op (kMod (K := K)) (pe_op (kAdd (K := K)) (pe_op (kDiv (K := K)) (pv 0) pe_int) (pe_op (kMul (K := K)) (pv 4) (pv 2))) pe_int) (fun _ _ => rfl))))))
    (pss_one (ps_ret (pv 3))))))), fun vs F0 ds r Q fh ha hR q => ?_⟩
  obtain ⟨n, h⟩ := hR
  obtain ⟨v, rfl, hv⟩ := dps1 ha
  cases hv
  have g0 : Gr F0 H F0 H := Gr.refl fh
  have h26 : sign36.cps.toList.length = 36 := by decide +kernel
  have h26' : sign36.length ≤ 100000 := by decide +kernel
  refine q_setV (K := K) g0 (by wtm_at "ev") rfl fun H1 g1 e1 => ?_
  refine q_setV (K := K) g1 (by wtm_at "ev") rfl fun H2 g2 e2 => ?_
  refine q_setV (K := K) g2 (by wtm_at "ev") rfl fun H3 g3 e3 => ?_
  refine q_forR (K := K) g3 (n := 1 + n % 24) (by wtm_at "evs") (by omega) (by omega) (fun i σ' F' H' => ∃ y4, σ' = [some (.int n), some (.str sign36), some (.int (1 + n / 900 % 35)), some (.str ⟨(runS sign36 36 (n / 24) (1 + n / 900 % 35) i).toArray⟩), y4]) (fun H2 _ _ => ⟨none, rfl⟩) (fun i σ' F' H' hi g' e' hP => ?_) fun σ' F' H' g' e' hP => ?_
  · obtain ⟨y4, rfl⟩ := hP
    have hat : atI sign36.cps.toList ((n / 24 + (i : Int) * (1 + n / 900 % 35)) % 36) = some (sign36.cps.toList.getD ((n / 24 + (i : Int) * (1 + n / 900 % 35)) % 36).toNat 0) := atI_getN (by omega) (by omega)
    have hsz : (⟨(runS sign36 36 (n / 24) (1 + n / 900 % 35) i).toArray⟩ : Str).length + (⟨#[sign36.cps.toList.getD ((n / 24 + (i : Int) * (1 + n / 900 % 35)) % 36).toNat 0]⟩ : Str).length ≤ 100000 := by
      rw [runS_len, show (⟨#[sign36.cps.toList.getD ((n / 24 + (i : Int) * (1 + n / 900 % 35)) % 36).toNat 0]⟩ : Str).length = 1 from rfl]
      omega
    refine s_setV (K := K) g' (by wtm_at "ev") rfl fun H4 g4 e4 => ⟨F', g4, e', some (.int (i : Int)), ?_⟩
    rw [runS_succ]
    rfl
  · obtain ⟨y4, rfl⟩ := hP
    exact s_ret (K := K) g' (EvD.to (by wtm_at "ev") (by rfl)) q
theorem ok__law_long (g : G K mg) : Dk P w K mg base 2 "_law_long" ["_law_script", "_law_k", "_law_number_here"] (spR K RLong) := by
  refine g.f__law_long.dk sc__law_long (by rintro _ _ ⟨⟩; rfl) fun f cdv A outer s H E hr => ⟨_, (pss_cons (ps_set (i := 3) sc__law_long.nd rfl (Or.inl rfl) (pe_op (kAdd (K := K)) (cl (ok__law_cell_at g) hr (pa_cons (pv 0) (pa_cons (pv 1) pa_nil))) (pe_op (kMul (K := K)) pe_int (pv 1))))
    (pss_one (ps_ret (pe_ix (kIxU (K := K)) (pe_lst (pa_cons (pe_op (kMod (K := K)) (pe_op (kDiv (K := K)) (pv 2) pe_int) pe_int) (pa_cons (pe_op (kMod (K := K)) (pe_op (kDiv (K := K)) (pv 2) pe_int) pe_int) (pa_cons (pe_op (kMod (K := K)) (pv 3) (pe_op (kPow (K := K)) pe_int pe_int)) (pa_cons (pe_op (kMod (K := K)) (pv 3) (pe_op (kPow (K := K)) pe_int pe_int)) (pa_cons (pe_op (kSub (K := K)) (pe_op (kPow (K := K)) pe_int pe_int) pe_int) pa_nil)))))) (pe_op (kMod (K := K)) (pv 2) pe_int) (fun _ _ => rfl))))), fun vs F0 ds r Q fh ha hR q => ?_⟩
  obtain ⟨ns, k, n, h, hn⟩ := hR
  obtain ⟨v, w, u, rfl, hS, hw, hu⟩ := dps3 ha
  cases hw; cases hu
  obtain ⟨a, rfl⟩ : ∃ a, v = V.ref a := by cases hS; exact ⟨_, rfl⟩
  have g0 : Gr F0 H F0 H := Gr.refl fh
  refine q_setV (K := K) g0 (d := .int (cellAt ns k + 7 * k)) (by wtm_at "ev") rfl fun H1 g1 e1 => ?_
  unfold longF at q
  generalize cellAt ns k + 7 * k = c at q ⊢
  have h5 : atI [PyData.int (n / 5 % 12), .int (n / 5 % 12), .int (c % 10 ^ (12 : Int).toNat), .int (c % 10 ^ (60 : Int).toNat), .int (10 ^ (60 : Int).toNat - 1)] (n % 5) = some (.int (([n / 5 % 12, n / 5 % 12, c % 10 ^ 12, c % 10 ^ 60, 10 ^ 60 - 1] : List Int).getD (n % 5).toNat 0)) := atI_ints (ns := [n / 5 % 12, n / 5 % 12, c % 10 ^ 12, c % 10 ^ 60, 10 ^ 60 - 1]) (by omega) (by show _ < (5 : Int); omega)
  exact s_ret (K := K) g1 (by wtm_at "ev") q
end


section
variable {P : Program} {w : World} {K : Fg} {mg : Str → Option Value} {base : Heap}
theorem ok__law_names (g : G K mg) : Dk P w K mg base 3 "_law_names" ["_law_script", "_law_k", "_law_salt", "_law_many"] (spR K RNames) := by
  refine g.f__law_names.dk sc__law_names (by rintro _ _ ⟨⟩; rfl) fun f cdv A outer s H E hr => ⟨_, (pss_cons (ps_set (i := 4) sc__law_names.nd rfl (Or.inl rfl) (pe_lst pa_nil))
    (pss_cons (ps_for PassesOwn.never rfl (pi_range1 (by rfl) g.b_range (pa_cons (pv 3) pa_nil)) (pg_name (i := 5) sc__law_names.nd rfl (Or.inl rfl))
    (pss_cons (ps_set (i := 6) sc__law_names.nd rfl (Or.inl rfl) (cl (ok__law_name g) hr (pa_cons (cl (ok__law_mixed g) hr (pa_cons (pv 0) (pa_cons (pv 1) (pa_cons (pe_op (kAdd (K := K)) (pv 2) (pv 5)) pa_nil)))) pa_nil)))
    (pss_one (ps_if (pt_cmpR (kNin (room65 hr) (K := K)) (pv 6) (pv 4) (by rfl))
    (pss_one (ps_expr (bm (K := K) PySem.F.plainAttrs_list PySem.F.slot_list_append PySem.F.type_list_append mt_append (pv 4) (pa_cons (pv 6) pa_nil))))
    pss_nil))))
    (pss_one (ps_ret (bt (jTuple (K := K)) g.b_tuple (pa_cons (pv 4) pa_nil)))))), fun vs F0 ds r Q fh ha hR q => ?_⟩
  obtain ⟨ns, k, salt, many, h, hk, hs, hm⟩ := hR
  obtain ⟨v, w, u, y, rfl, hS, hw, hu, hy⟩ := dps4 ha
  cases hw; cases hu; cases hy
  obtain ⟨a, rfl⟩ : ∃ a, v = V.ref a := by cases hS; exact ⟨_, rfl⟩
  have g0 : Gr F0 H F0 H := Gr.refl fh
  have hwl := namesL_ok ns k salt
  refine q_setN (K := K) g0 (n_lst (ds := []) ds_nil (by decide)) fun l us F2 H2 g2 s2 hl0 fl hl hu => ?_
  cases hu
  have hS := hS.up s2.fx
  refine q_forR (K := K) g2 (n := many) (by wtm_at "evs") (by omega) (by omega) (fun i σ' F' H' => (∃ y5 y6, σ' = [some (.ref a), some (.int k), some (.int salt), some (.int many), some (.ref l), y5, y6]) ∧ F' l = none ∧ H' l = some (.lst ((namesL ns k salt i).map V.str))) (fun H2 _ e2 => ⟨⟨none, none, rfl⟩, fl, e2 _ _ hl⟩) (fun i σ' F' H' hi g' e' hP => ?_) fun σ' F' H' g' e' hP => ?_
  · obtain ⟨⟨y5, y6, rfl⟩, fl, hl⟩ := hP
    have hS := hS.up e'
    have hk2 : 0 ≤ salt + (i : Int) ∧ salt + (i : Int) ≤ 1000000 := by omega
    have hnn := mixF_nn ns k (salt + (i : Int))
    have hlow := hwl i
    have es : namesL ns k salt (i + 1) = if nmF (mixF ns k (salt + (i : Int))) ∈ namesL ns k salt i then namesL ns k salt i else namesL ns k salt i ++ [nmF (mixF ns k (salt + (i : Int)))] := rfl
    refine q_setV (K := K) g' (by wtm_at "ev") rfl fun H3 g3 e3 => ?_
    have hwz := nm_ok (mixF ns k (salt + (i : Int)))
    generalize nmF (mixF ns k (salt + (i : Int))) = z at hwz es ⊢
    generalize namesL ns k salt i = L at hl hlow es
    have sh1 := str_shaped hwz.1
    have sh2 := strs_shaped (zs := L) fun z hz => (hlow.2.2.1 z hz).1
    have hO : Dp K (upd F' l (.lst (L.map V.str))) (.ref l) (.list (L.map PyData.str)) := .lst (sq_of upd_same) (dps_strs _)
    refine s_when g3 (b := !decide (z ∈ L)) (EvB.own (EvB.to (by wtm_at "evb") (by rw [any_strs])) (ownL (e3 _ _ hl))) (fun hb H4 g4 e4 => ?_) fun hb H4 g4 e4 => ?_
    · have hb := no_of hb
      rw [if_neg hb] at es
      have hl := e4 _ _ (e3 _ _ hl)
      refine s_app (K := K) g4 hl0 fl hl rfl (by rw [List.length_map]; have := hlow.1; omega) (d := .str z) (by wtm_at "ev") fun v F5 H5 g5 x5 o5 oh5 l5 hv5 => ?_
      cases hv5
      refine ⟨F5, g5, e'.trans x5, ⟨_, _, rfl⟩, (o5 l (by rw [hl]; exact fun z => nomatch z)).trans fl, ?_⟩
      rw [es, List.map_append]
      exact l5
    · have hb := yes_of hb
      rw [if_pos hb] at es
      refine ⟨F', g4, e', ⟨_, _, rfl⟩, fl, ?_⟩
      rw [es]
      exact e4 _ _ (e3 _ _ hl)
  · obtain ⟨⟨y5, y6, rfl⟩, fl, hl⟩ := hP
    have g4 := g'.give hl0 hl fl
    have hO : Dp K (upd F' l (.lst ((namesL ns k salt many.toNat).map V.str))) (.ref l) (.list ((namesL ns k salt many.toNat).map PyData.str)) := .lst (sq_of upd_same) (dps_strs _)
    exact s_ret (K := K) g4 (by wtm_at "ev") q
theorem ok__law_many_marks (g : G K mg) : Dk P w K mg base 4 "_law_many_marks" ["_law_script", "_law_k"] (spR K RMm) := by
  refine g.f__law_many_marks.dk sc__law_many_marks (by rintro _ _ ⟨⟩; rfl) fun f cdv A outer s H E hr => ⟨_, (pss_cons (ps_set (i := 2) sc__law_many_marks.nd rfl (Or.inl rfl) (pe_lst pa_nil))
    (pss_cons (ps_for PassesOwn.never rfl (pi_any (K := K) (cl (ok__law_names g) hr (pa_cons (pv 0) (pa_cons (pv 1) (pa_cons pe_int (pa_cons (pe_op (kMod (K := K)) (cl (ok__law_mixed g) hr (pa_cons (pv 0) (pa_cons (pv 1) (pa_cons pe_int pa_nil)))) pe_int) pa_nil)))))) (pg_name (i := 3) sc__law_many_marks.nd rfl (Or.inl rfl))
    (pss_cons (ps_set (i := 4) sc__law_many_marks.nd rfl (Or.inl rfl) (cl (ok__law_mixed g) hr (pa_cons (pv 0) (pa_cons (pv 1) (pa_cons (pe_op (kAdd (K := K)) pe_int (bi (jLen (K := K)) g.b_len (pa_cons (pv 2) pa_nil))) pa_nil)))))
    (pss_cons (ps_set (i := 5) sc__law_many_marks.nd rfl (Or.inl rfl) (pe_op (kSub (K := K)) (pe_op (kMod (K := K)) (cl (ok__law_cell_at g) hr (pa_cons (pv 0) (pa_cons (pv 1) pa_nil))) (pe_op (kAdd (K := K)) (pe_op (kMul (K := K)) pe_int (pe_op (kPow (K := K)) pe_int pe_int)) pe_int)) (pe_op (kPow (K := K)) pe_int pe_int)))
    (pss_one (ps_expr (bm (K := K) PySem.F.plainAttrs_list PySem.F.slot_list_append PySem.F.type_list_append mt_append (pv 2) (pa_cons (pe_tup (pa_cons (pv 3) (pa_cons (pe_ix (kIxU (K := K)) (pe_lst (pa_cons (pe_op (kSub (K := K)) (pe_op (kMod (K := K)) (pe_op (kDiv (K := K)) (pv 4) pe_int) pe_int) pe_int) (pa_cons (pv 5) (pa_cons (pe_op (kPow (K := K)) pe_int pe_int) (pa_cons (pe_un (kNeg (K := K)) (pe_op (kPow (K := K)) pe_int pe_int)) (pa_cons pe_int pa_nil)))))) (pe_op (kMod (K := K)) (pv 4) pe_int) (fun _ _ => rfl)) pa_nil))) pa_nil)))))))
    (pss_one (ps_ret (bt (jTuple (K := K)) g.b_tuple (pa_cons (pv 2) pa_nil)))))), fun vs F0 ds r Q fh ha hR q => ?_⟩
  obtain ⟨ns, k, h, hk⟩ := hR
  obtain ⟨v, w, rfl, hS, hw⟩ := dps2 ha
  cases hw
  obtain ⟨a, rfl⟩ : ∃ a, v = V.ref a := by cases hS; exact ⟨_, rfl⟩
  have g0 : Gr F0 H F0 H := Gr.refl fh
  refine q_setN (K := K) g0 (n_lst (ds := []) ds_nil (by decide)) fun l us F2 H2 g2 s2 hl0 fl hl hu => ?_
  cases hu
  have hS := hS.up s2.fx
  have hn0 := mixF_nn ns k 59
  have hm9 : 0 ≤ mixF ns k 59 % 9 ∧ mixF ns k 59 % 9 ≤ 100 := by omega
  have hnl := (namesL_ok ns k 60 (mixF ns k 59 % 9).toNat).1
  unfold mmF at q
  have emm : mmNames ns k = namesL ns k 60 (mixF ns k 59 % 9).toNat := rfl
  refine q_forN (K := K) g2 (w_anyT (ds := (mmNames ns k).map PyData.str) (by wtm_at "ev")) fun F3 H3 g3 s3 => ⟨fun i σ' F' H' => (∃ y3 y4 y5, σ' = [some (.ref a), some (.int k), some (.ref l), y3, y4, y5]) ∧ F' l = none ∧ ∃ vs, H' l = some (.lst vs) ∧ DpAll K F' vs ((mmL ns k (mmNames ns k) i).map mkD), ⟨⟨none, none, none, rfl⟩, (s3.old l (by rw [hl]; exact fun z => nomatch z)).trans fl, [], s3.hx _ _ hl, .nil⟩, fun i d σ' F' H' hd g' e' hP x F4 H4 g4 hx => ?_, fun σ' F' H' g' e' hP => ?_⟩
  · obtain ⟨⟨y3, y4, y5, rfl⟩, fl, vs, hl, hvs⟩ := hP
    rw [← emm] at hnl
    generalize mmNames ns k = ws at hd hnl hvs ⊢
    rw [List.getElem?_map] at hd
    cases hji : ws[i]? with
    | none => rw [hji] at hd; cases hd
    | some z =>
      rw [hji] at hd
      have e := Option.some.inj hd
      have e : PyData.str z = d := e
      subst e
      have hil : i < ws.length := (List.getElem?_eq_some_iff.mp hji).1
      have ez : ws.getD i "" = z := by rw [List.getD_eq_getElem?_getD, hji]; rfl
      cases hx
      have hS := hS.up ((s3.fx.trans e').trans g4.fx)
      have g5 := g'.trans g4
      have fl4 : F4 l = none := (g4.old l (by rw [hl]; exact fun z => nomatch z)).trans fl
      have hl4 := g4.hx _ _ hl
      have hvs4 := hvs.up g4.fx
      have hlen4 : ((mmL ns k ws i).map mkD).length = i := by rw [List.length_map, mmL_len]
      have hO : Dp K (upd F4 l (.lst vs)) (.ref l) (.list ((mmL ns k ws i).map mkD)) := .lst (sq_of upd_same) (hvs4.up (Ex.new fl4))
      have hSO := hS.up (Ex.new (o := .lst vs) fl4)
      have hk2 : 0 ≤ 70 + ((((mmL ns k ws i).map mkD).length : Nat) : Int) ∧ 70 + ((((mmL ns k ws i).map mkD).length : Nat) : Int) ≤ 1000000 := by omega
      have hnn := mixF_nn ns k (70 + (i : Int))
      refine q_setV (K := K) g5 (d := .int (mixF ns k (70 + (i : Int)))) (EvD.own (EvD.to (by wtm_at "ev") (by rw [hlen4])) rfl (ownL hl4)) rfl fun H6 g6 e6 => ?_
      refine q_setV (K := K) g6 (d := .int (cellAt ns k % (2 * 10 ^ 30 + 1) - 10 ^ 30)) (by wtm_at "ev") rfl fun H7 g7 e7 => ?_
      have es := mmL_succ ns k ws i
      rw [ez] at es
      unfold farN at es
      generalize cellAt ns k % (2 * 10 ^ 30 + 1) - 10 ^ 30 = c at es ⊢
      generalize mixF ns k (70 + (i : Int)) = n at es hnn ⊢
      have h5 : atI [PyData.int (n / 5 % 9 - 4), .int c, .int (10 ^ (30 : Int).toNat), .int (-10 ^ (30 : Int).toNat), .int 0] (n % 5) = some (.int (([n / 5 % 9 - 4, c, 10 ^ 30, -10 ^ 30, 0] : List Int).getD (n % 5).toNat 0)) := atI_ints (ns := [n / 5 % 9 - 4, c, 10 ^ 30, -10 ^ 30, 0]) (by omega) (by show _ < (5 : Int); omega)
      have hvl : vs.length < 100000 := by rw [hvs4.length, hlen4]; omega
      refine s_app (K := K) g7 hl0 fl4 (e7 _ _ (e6 _ _ hl4)) rfl hvl (d := mkD (z, ([n / 5 % 9 - 4, c, 10 ^ 30, -10 ^ 30, 0] : List Int).getD (n % 5).toNat 0)) (EvD.to (by wtm_at "ev") (by rfl)) fun v F8 H8 g8 x8 o8 oh8 l8 hv8 => ?_
      refine ⟨F8, g8, (e'.trans g4.fx).trans x8, ⟨_, _, _, rfl⟩, (o8 l (by rw [e7 _ _ (e6 _ _ hl4)]; exact fun z => nomatch z)).trans fl4, _, l8, ?_⟩
      rw [es, List.map_append]
      exact (hvs4.up x8).append (.cons hv8 .nil)
  · obtain ⟨⟨y3, y4, y5, rfl⟩, fl, vs, hl, hvs⟩ := hP
    rw [List.length_map] at hvs
    have g4 := g'.give hl0 hl fl
    have hO : Dp K (upd F' l (.lst vs)) (.ref l) (.list ((mmL ns k (mmNames ns k) (mmNames ns k).length).map mkD)) := .lst (sq_of upd_same) (hvs.up (Ex.new fl))
    exact s_ret (K := K) g4 (by wtm_at "ev") q
end


/-! ### lists written -/
abbrev com : Str := ","
def thS : D → Str
  | .str z => z
  | .int i => intS i
  | _ => ""
def thOk : D → Prop
  | .str z => z.length ≤ 3000
  | .int i => okI i
  | _ => False
theorem intS_lenI {i : Int} (h : okI i) : (intS i).length ≤ 1921 := PyProof.Rows.int_text_len_1921 h
theorem thS_len {d : D} (h : thOk d) : (thS d).length ≤ 3000 := by
  cases d with
  | str z => exact h
  | int i => exact Nat.le_trans (intS_lenI h) (by decide)
  | _ => exact h.elim
def listS (ds : List D) : Str := if ds.length = 0 then "-" else Txt.join com (ds.map thS)
def okL (ds : List D) : Prop := ds.length ≤ 10 ∧ ∀ d ∈ ds, thOk d
inductive RListT : List D → D → Prop
  | tup (ds : List D) (h : okL ds) : RListT [.tuple ds] (.str (listS ds))
  | lst (ds : List D) (h : okL ds) : RListT [.list ds] (.str (listS ds))
theorem sum_th : ∀ {ds : List D}, (∀ d ∈ ds, thOk d) → ((ds.map thS).map (·.length)).sum ≤ 3000 * ds.length
  | [], _ => Nat.le_refl _
  | d :: ds, h => by
    have h1 := thS_len (h d (List.mem_cons_self ..))
    have h2 := sum_th fun e he => h e (List.mem_cons_of_mem _ he)
    rw [List.map_cons, List.map_cons, List.sum_cons, List.length_cons]
    omega
theorem len_joinL (S : List Nat) : ∀ ps : List (List Nat), (TL.joinL S ps).length ≤ (ps.map List.length).sum + ps.length * S.length
  | [] => Nat.zero_le _
  | [p] => by
    show p.length ≤ (p.length + 0) + 1 * S.length
    omega
  | p :: q :: r => by
    have ih := len_joinL S (q :: r)
    show (p ++ (S ++ TL.joinL S (q :: r))).length ≤ _
    rw [List.length_append, List.length_append, List.map_cons, List.sum_cons, List.length_cons (as := q :: r), Nat.succ_mul]
    omega
theorem len_join (y : Str) (ps : List Str) : (Txt.join y ps).length ≤ (ps.map (·.length)).sum + ps.length * y.length := by
  have h := len_joinL (TL.tl y) (ps.map TL.tl)
  rw [TL.join_eq, TL.len_tl, TL.tl_join, TL.len_tl y]
  have e : (ps.map TL.tl).map List.length = ps.map (·.length) := by
    rw [List.map_map]
    exact List.map_congr_left fun p _ => (TL.len_tl p).symm
  rw [e, List.length_map] at h
  exact h
theorem listS_len {ds : List D} (h : okL ds) : (listS ds).length ≤ 30100 := by
  unfold listS
  split
  · decide +kernel
  · have h1 := len_join com (ds.map thS)
    have h2 := sum_th h.2
    have h3 := h.1
    have e : com.length = 1 := by decide +kernel
    rw [e, List.length_map] at h1
    omega
theorem joinL_flat (S : List Nat) : ∀ (p : List Nat) (ts : List (List Nat)), TL.joinL S (p :: ts) = p ++ (ts.map fun t => S ++ t).flatten
  | p, [] => by simp [TL.joinL]
  | p, q :: r => by
    have ih := joinL_flat S q r
    show p ++ (S ++ TL.joinL S (q :: r)) = _
    rw [ih, List.map_cons, List.flatten_cons, List.append_assoc]
/-- texts put behind each other, a sign ahead of each -/
def runT (c : Nat) (ts : List Str) : List Nat := (ts.map fun t => c :: TL.tl t).flatten
theorem runT_snoc (c : Nat) (ts : List Str) (t : Str) : runT c (ts ++ [t]) = runT c ts ++ c :: TL.tl t := by
  unfold runT
  rw [List.map_append, List.flatten_append]
  simp
theorem join_run (c : Nat) (p : Str) (ts : List Str) : Txt.join (⟨#[c]⟩ : Str) (p :: ts) = p ++ (⟨(runT c ts).toArray⟩ : Str) := by
  refine TL.ext_tl ?_
  rw [TL.join_eq, TL.tl_join, TL.tl_append, List.map_cons, joinL_flat]
  show _ = _ ++ runT c ts
  unfold runT
  rw [List.map_map]
  rfl
theorem app_run (c : Nat) (s : Str) (ts : List Str) (t : Str) : ((s ++ (⟨(runT c ts).toArray⟩ : Str)) ++ (⟨#[c]⟩ : Str)) ++ t = s ++ (⟨(runT c (ts ++ [t])).toArray⟩ : Str) := by
  refine TL.ext_tl ?_
  rw [TL.tl_append, TL.tl_append, TL.tl_append, TL.tl_append, runT_snoc]
  show (TL.tl s ++ runT c ts ++ [c]) ++ TL.tl t = TL.tl s ++ (runT c ts ++ c :: TL.tl t)
  simp
theorem runT_len (c : Nat) : ∀ ts : List Str, (runT c ts).length = (ts.map (·.length)).sum + ts.length
  | [] => rfl
  | t :: ts => by
    have ih := runT_len c ts
    unfold runT at ih ⊢
    rw [List.map_cons, List.flatten_cons, List.length_append, ih, List.length_cons, List.map_cons, List.sum_cons, TL.len_tl, List.length_cons]
    omega
theorem cut_head (c : Nat) (xs : List Nat) : cutS (⟨(c :: xs).toArray⟩ : Str) (some 1) none = ⟨xs.toArray⟩ := by
  have hl : (⟨(c :: xs).toArray⟩ : Str).length = xs.length + 1 := by rw [str_len]; rfl
  have h1 : HT.sIx (xs.length + 1) 0 (some 1) = 1 := by unfold HT.sIx; simp
  have h2 : HT.sIx (xs.length + 1) (xs.length + 1) none = xs.length + 1 := rfl
  unfold cutS
  rw [hl, h1, h2]
  simp
def eqS (m : Str × Int) : Str := (m.1 ++ ("=" : Str)) ++ intS m.2
def eqD : D → D
  | .tuple (.str w :: .int n :: _) => .str (eqS (w, n))
  | _ => .none
inductive RMarksT : List D → D → Prop
  | mk (ms : Mk) (hl : ms.length ≤ 10) (h : ∀ x ∈ ms, x.1.length ≤ 24 ∧ okN x.2) : RMarksT [.tuple (ms.map mkD)] (.str (listS (ms.map fun m => .str (eqS m))))
def ttS : D → Str
  | .tuple ds => listS ds
  | d => thS d
def ttOk : D → Prop
  | .tuple ds => okL ds
  | d => thOk d
inductive RThingT : List D → D → Prop
  | mk (d : D) (h : ttOk d) : RThingT [d] (.str (ttS d))
theorem ttS_len {d : D} (h : ttOk d) : (ttS d).length ≤ 30100 := by
  cases d with
  | tuple ds => exact listS_len h
  | str z => exact Nat.le_trans (thS_len h) (by decide)
  | int z => exact Nat.le_trans (thS_len h) (by decide)
  | _ => exact h.elim
theorem okN_I {n : Int} (h : okN n) : okI n := okN_log h
theorem eqS_len {m : Str × Int} (h : m.1.length ≤ 24 ∧ okN m.2) : (eqS m).length ≤ 3000 := by
  unfold eqS
  rw [strAdd_len, strAdd_len]
  have h1 := intS_lenI (okN_I h.2)
  have h2 : ("=" : Str).length = 1 := by decide +kernel
  omega
section
variable {P : Program} {w : World} {K : Fg} {mg : Str → Option Value} {base : Heap}
theorem d_str {te : TE} {σ : L2.St} {F H : Hp} {d : D} (h : EvD K te σ F H d) (ok : thOk d) : EvD K (tCB (rDn K StrD) (tCons te tNil)) σ F H (.str (thS d)) := by
  cases d with
  | str z => exact d_cb (ds_cons h ds_nil) (.str z)
  | int i => exact d_cb (ds_cons h ds_nil) (.int i ok)
  | _ => exact ok.elim
theorem ok_list_text (g : G K mg) : Dk P w K mg base 1 "list_text" ["things"] (spR K RListT) := by
  refine g.f_list_text.dk sc_list_text (by rintro _ _ ⟨⟩ <;> rfl) fun f cdv A outer s H E hr => ⟨_, (pss_cons (ps_if (pt_cmpR (kEq (room64 hr) (K := K)) (bi (jLen (K := K)) g.b_len (pa_cons (pv 0) pa_nil)) pe_int (nomark _))
    (pss_one (ps_ret pe_str))
    pss_nil)
    (pss_one (ps_ret (bm (K := K) PySem.F.plainAttrs_str PySem.F.slot_str_join PySem.F.type_str_join (mJoin (K := K)) pe_str (pa_cons (pe_lc (own := [("thing", 1)]) (g := gName 1) rfl sc_list_text.nd (pi_any (K := K) (pv 0)) (blkOk_by (own := [("thing", 1)]) (N := N_list_text) (sc := defScope s_list_text) (by decide +kernel)) (fun _ _ _ _ _ => (pg_name (i := 1) sc_list_text.nd rfl (Or.inl rfl))) (fun _ _ _ _ _ => pts_nil) (fun _ _ _ _ _ => (bt (jStr (K := K)) g.b_str (pa_cons (pv 1) pa_nil)))) pa_nil))))), fun vs F0 ds r Q fh ha hR q => ?_⟩
  cases hR with
  | tup xs h =>
    obtain ⟨v, rfl, hv⟩ := dps1 ha
    have g0 : Gr F0 H F0 H := Gr.refl fh
    unfold listS at q
    refine q_when g0 (b := decide (xs.length = 0)) (EvB.to (by wtm_at "evb") (by simp)) (fun hb H2 g2 e2 => ?_) fun hb H2 g2 e2 => ?_
    · rw [if_pos (of_decide_eq_true hb)] at q
      exact s_ret (K := K) g2 (by wtm_at "ev") q
    · rw [if_neg (of_decide_eq_false hb)] at q
      have hz : xs.length ≤ 50000 := by have := h.1; omega
      have hj : ((xs.map thS).map (·.length)).sum + (xs.map thS).length * com.length ≤ 16777216 := by
        have h2 := sum_th h.2
        have h3 := h.1
        rw [List.length_map, show com.length = 1 by decide +kernel]
        omega
      refine s_ret (K := K) g2 (d_bm (d_c (.str com)) (ds_cons (EvD.to (EvN.dd (n_lc1 (w_anyT (ds := xs) (by wtm_at "ev")) hz (fun d => .str (thS d)) (fun _ => rfl) (fun d x F' H' hm a1 b1 c1 hx => d_str (by wtm_at "ev") (h.2 d hm)))) (e := .list ((xs.map thS).map PyData.str)) (by rw [List.map_map]; rfl)) ds_nil) (.list _ _ hj)) q
  | lst xs h =>
    obtain ⟨v, rfl, hv⟩ := dps1 ha
    have g0 : Gr F0 H F0 H := Gr.refl fh
    unfold listS at q
    refine q_when g0 (b := decide (xs.length = 0)) (EvB.to (by wtm_at "evb") (by simp)) (fun hb H2 g2 e2 => ?_) fun hb H2 g2 e2 => ?_
    · rw [if_pos (of_decide_eq_true hb)] at q
      exact s_ret (K := K) g2 (by wtm_at "ev") q
    · rw [if_neg (of_decide_eq_false hb)] at q
      have hz : xs.length ≤ 50000 := by have := h.1; omega
      have hj : ((xs.map thS).map (·.length)).sum + (xs.map thS).length * com.length ≤ 16777216 := by
        have h2 := sum_th h.2
        have h3 := h.1
        rw [List.length_map, show com.length = 1 by decide +kernel]
        omega
      refine s_ret (K := K) g2 (d_bm (d_c (.str com)) (ds_cons (EvD.to (EvN.dd (n_lc1 (w_anyL (ds := xs) (by wtm_at "ev")) hz (fun d => .str (thS d)) (fun _ => rfl) (fun d x F' H' hm a1 b1 c1 hx => d_str (by wtm_at "ev") (h.2 d hm)))) (e := .list ((xs.map thS).map PyData.str)) (by rw [List.map_map]; rfl)) ds_nil) (.list _ _ hj)) q
theorem eq_list (ms : Mk) : ((ms.map mkD).filter (fun _ => true)).map eqD = ms.map fun m => PyData.str (eqS m) := by
  rw [filter_all, List.map_map]
  rfl
theorem eq_pair (ms : Mk) : ∀ d ∈ ms.map mkD, d = .tuple [fstD d, sndD d] := fun d hd => by
  obtain ⟨x, _, rfl⟩ := List.mem_map.mp hd
  rfl
theorem ok_marks_text (g : G K mg) : Dk P w K mg base 2 "marks_text" ["marks"] (spR K RMarksT) := by
  refine g.f_marks_text.dk sc_marks_text (by rintro _ _ ⟨⟩; rfl) fun f cdv A outer s H E hr => ⟨_, (pss_one (ps_ret (cl (ok_list_text g) hr (pa_cons (pe_lc (own := [("word", 1), ("number", 2)]) (g := gTup K 2 (gCons (gName 1) (gCons (gName 2) gNil))) rfl sc_marks_text.nd (pi_any (K := K) (pv 0)) (blkOk_by (own := [("word", 1), ("number", 2)]) (N := N_marks_text) (sc := defScope s_marks_text) (by decide +kernel)) (fun _ _ _ _ _ => (pg_tup rfl (pgs_cons (pg_name (i := 1) sc_marks_text.nd rfl (Or.inl rfl)) (pgs_cons (pg_name (i := 2) sc_marks_text.nd rfl (Or.inl rfl)) pgs_nil)))) (fun _ _ _ _ _ => pts_nil) (fun _ _ _ _ _ => (pe_op (kAdd (K := K)) (pe_op (kAdd (K := K)) (pv 1) pe_str) (bt (jStr (K := K)) g.b_str (pa_cons (pv 2) pa_nil))))) pa_nil)))), fun vs F0 ds r Q fh ha hR q => ?_⟩
  obtain ⟨ms, hl, h⟩ := hR
  obtain ⟨v, rfl, hv⟩ := dps1 ha
  have g0 : Gr F0 H F0 H := Gr.refl fh
  have hz : (ms.map mkD).length ≤ 50000 := by rw [List.length_map]; omega
  have hok : okL (ms.map fun m => PyData.str (eqS m)) := ⟨by rw [List.length_map]; exact hl, fun d hd => by
    obtain ⟨m, hm, rfl⟩ := List.mem_map.mp hd
    exact eqS_len (h m hm)⟩
  refine s_ret (K := K) g0 (d_call (ds_cons (EvD.to (EvN.dd (n_lcT (w_anyT (ds := ms.map mkD) (by wtm_at "ev")) hz fstD sndD (eq_pair ms) (fun _ => true) eqD (fun _ _ => rfl) (fun d x y F' H' hm a1 b1 c1 hx hy => b_yes) (fun d x y F' H' hm hf a1 b1 c1 hx hy => ?_))) (congrArg PyData.list (eq_list ms))) ds_nil) (.lst _ hok)) q
  obtain ⟨m, hmm, rfl⟩ := List.mem_map.mp hm
  have hm := h m hmm
  have hx : Dp K F' x (.str m.1) := hx
  have hy : Dp K F' y (.int m.2) := hy
  have h1 : ("=" : Str).length = 1 := by decide +kernel
  have h2 := intS_lenI (okN_I hm.2)
  have s1 : m.1.length + ("=" : Str).length ≤ 100000 := by omega
  have s2 : (m.1 ++ ("=" : Str)).length + (intS m.2).length ≤ 100000 := by rw [strAdd_len]; omega
  exact EvD.to (d_op2 (d_op2 (d_var rfl hx) (d_c (.str "=")) (.str _ _ s1)) (d_str (d_var rfl hy) (okN_I hm.2)) (.str _ _ s2)) rfl
theorem ok_thing_text (g : G K mg) : Dk P w K mg base 2 "thing_text" ["thing"] (spR K RThingT) := by
  refine g.f_thing_text.dk sc_thing_text (by rintro _ _ ⟨⟩; rfl) fun f cdv A outer s H E hr => ⟨_, (pss_cons (ps_if (pt_val (bi (jIsi (K := K)) g.b_isinstance (pa_cons (pv 0) (pa_cons (bty (n := "tuple") g.b_tuple) pa_nil))))
    (pss_one (ps_ret (cl (ok_list_text g) hr (pa_cons (pv 0) pa_nil))))
    pss_nil)
    (pss_one (ps_ret (bt (jStr (K := K)) g.b_str (pa_cons (pv 0) pa_nil))))), fun vs F0 ds r Q fh ha hR q => ?_⟩
  obtain ⟨d, h⟩ := hR
  obtain ⟨v, rfl, hv⟩ := dps1 ha
  have g0 : Gr F0 H F0 H := Gr.refl fh
  cases d with
  | tuple xs =>
    have h : okL xs := h
    refine q_when g0 (b := true) (EvB.to (by wtm_at "evb") (by rfl)) (fun _ H2 g2 e2 => ?_) fun hb => nomatch hb
    exact s_ret (K := K) g2 (d_call (by wtm_at "evs") (.tup _ h)) q
  | str z =>
    have h : thOk (.str z) := h
    refine q_when g0 (b := false) (EvB.to (by wtm_at "evb") (by rfl)) (fun hb => nomatch hb) fun _ H2 g2 e2 => ?_
    exact s_ret (K := K) g2 (d_str (by wtm_at "ev") h) q
  | int z =>
    have h : thOk (.int z) := h
    refine q_when g0 (b := false) (EvB.to (by wtm_at "evb") (by rfl)) (fun hb => nomatch hb) fun _ H2 g2 e2 => ?_
    exact s_ret (K := K) g2 (d_str (by wtm_at "ev") h) q
  | _ => exact h.elim
end


/-! ### deeds -/
inductive Deed where
  | trial (name layer : Str) (arms shuts : List Str) (r : Rul) : Deed
  | visit (guest : Str) (ms : Mk) : Deed
  | plain (kind : Str) (items : List D) : Deed
def dd : Deed → D
  | .trial name layer arms shuts r => .tuple [.str "trial", .str name, .str layer, .tuple (arms.map PyData.str), rd r, .tuple (shuts.map PyData.str)]
  | .visit guest ms => .tuple [.str "visit", .str guest, .tuple (ms.map mkD)]
  | .plain kind items => .tuple (.str kind :: items)
def okA (ws : List Str) : Prop := ws.length ≤ 10 ∧ ∀ w ∈ ws, okW w
def Deed.ok : Deed → Prop
  | .trial name layer arms shuts r => okW name ∧ okW layer ∧ okA arms ∧ okA shuts ∧ r.good ∧ r.ht ≤ 6
  | .visit guest ms => guest.length ≤ 24 ∧ ms.length ≤ 10 ∧ ∀ x ∈ ms, x.1.length ≤ 24 ∧ okN x.2
  | .plain kind items => kind ≠ "trial" ∧ kind ≠ "visit" ∧ kind.length ≤ 10 ∧ items.length ≤ 3 ∧ ∀ d ∈ items, ttOk d
def deedS : Deed → Str
  | .trial name layer arms shuts r => Txt.join sp1 ["trial", name, layer, listS (arms.map PyData.str), listS (shuts.map PyData.str), textF r]
  | .visit guest ms => Txt.join sp1 ["visit", guest, listS (ms.map fun m => .str (eqS m))]
  | .plain kind items => Txt.join sp1 (kind :: items.map ttS)
theorem okA_L {ws : List Str} (h : okA ws) : okL (ws.map PyData.str) := ⟨by rw [List.length_map]; exact h.1, fun d hd => by
  obtain ⟨w, hw, rfl⟩ := List.mem_map.mp hd
  exact Nat.le_trans (h.2 w hw).2 (by decide)⟩
theorem okMs_L {ms : Mk} (hl : ms.length ≤ 10) (h : ∀ x ∈ ms, x.1.length ≤ 24 ∧ okN x.2) : okL (ms.map fun m => PyData.str (eqS m)) := ⟨by rw [List.length_map]; exact hl, fun d hd => by
  obtain ⟨m, hm, rfl⟩ := List.mem_map.mp hd
  exact eqS_len (h m hm)⟩
inductive RDeed : List D → D → Prop
  | mk (d : Deed) (h : d.ok) : RDeed [dd d] (.str (deedS d))
theorem sum_tt : ∀ {ds : List D}, (∀ d ∈ ds, ttOk d) → ((ds.map ttS).map (·.length)).sum ≤ 30100 * ds.length
  | [], _ => Nat.le_refl _
  | d :: ds, h => by
    have h1 := ttS_len (h d (List.mem_cons_self ..))
    have h2 := sum_tt fun e he => h e (List.mem_cons_of_mem _ he)
    rw [List.map_cons, List.map_cons, List.sum_cons, List.length_cons]
    omega
theorem trial_sum {name layer : Str} {arms shuts : List Str} {r : Rul} (h : okW name ∧ okW layer ∧ okA arms ∧ okA shuts ∧ r.good ∧ r.ht ≤ 6) :
    ((["trial", name, layer, listS (arms.map PyData.str), listS (shuts.map PyData.str), textF r] : List Str).map (·.length)).sum + (["trial", name, layer, listS (arms.map PyData.str), listS (shuts.map PyData.str), textF r] : List Str).length * sp1.length ≤ 16777216 := by
  obtain ⟨h1, h2, h3, h4, h5, h6⟩ := h
  have a1 := h1.2
  have a2 := h2.2
  have a3 := listS_len (okA_L h3)
  have a4 := listS_len (okA_L h4)
  have a5 := text_len7 h5 (by omega)
  have e1 : sp1.length = 1 := by decide +kernel
  have e2 : ("trial" : Str).length = 5 := by decide +kernel
  simp only [List.map_cons, List.map_nil, List.sum_cons, List.sum_nil, List.length_cons, List.length_nil, e1, e2]
  omega
theorem visit_sum {guest : Str} {ms : Mk} (h : guest.length ≤ 24 ∧ ms.length ≤ 10 ∧ ∀ x ∈ ms, x.1.length ≤ 24 ∧ okN x.2) :
    ((["visit", guest, listS (ms.map fun m => .str (eqS m))] : List Str).map (·.length)).sum + (["visit", guest, listS (ms.map fun m => .str (eqS m))] : List Str).length * sp1.length ≤ 16777216 := by
  have a1 := listS_len (okMs_L h.2.1 h.2.2)
  have a2 := h.1
  have e1 : sp1.length = 1 := by decide +kernel
  have e2 : ("visit" : Str).length = 5 := by decide +kernel
  simp only [List.map_cons, List.map_nil, List.sum_cons, List.sum_nil, List.length_cons, List.length_nil, e1, e2]
  omega
theorem plain_sum {kind : Str} {items : List D} (h : kind.length ≤ 10 ∧ items.length ≤ 3 ∧ ∀ d ∈ items, ttOk d) :
    (((.str kind :: items : List D).map ttS).map (·.length)).sum + ((.str kind :: items : List D).map ttS).length * sp1.length ≤ 16777216 := by
  have a1 := sum_tt h.2.2
  have e1 : sp1.length = 1 := by decide +kernel
  rw [List.map_cons, List.map_cons, List.sum_cons, List.length_cons, List.length_map, e1]
  have e3 : (ttS (.str kind)).length = kind.length := rfl
  omega
section
variable {P : Program} {w : World} {K : Fg} {mg : Str → Option Value} {base : Heap}
theorem q_set6 {σ : L2.St} {F H F0 H0 : Hp} {te : TE} {D' : Ends} {tz : TS} {i1 i2 i3 i4 i5 i6 : Nat} {d1 d2 d3 d4 d5 d6 : D} (g : Gr F0 H0 F H) (h : EvD K te σ F H (.tuple [d1, d2, d3, d4, d5, d6]))
    (k : ∀ v1 v2 v3 v4 v5 v6 F2 H2, Gr F0 H0 F2 H2 → Gr F H F2 H2 → Dp K F2 v1 d1 → Dp K F2 v2 d2 → Dp K F2 v3 d3 → Dp K F2 v4 d4 → Dp K F2 v5 d5 → Dp K F2 v6 d6 →
      tz D' ((((((σ.set i1 (some v1)).set i2 (some v2)).set i3 (some v3)).set i4 (some v4)).set i5 (some v5)).set i6 (some v6)) H2) :
    tSeq (tAsg te (gTup K 6 (gCons (gName i1) (gCons (gName i2) (gCons (gName i3) (gCons (gName i4) (gCons (gName i5) (gCons (gName i6) gNil)))))))) tz D' σ H :=
  h F H (Ex.refl F) (Ex.refl H) g.fh _ fun v F2 H2 s hv => by
    cases hv with
    | tup hs ha =>
      cases ha with
      | cons h1 ha =>
        obtain ⟨v2, v3, v4, v5, v6, rfl, h2, h3, h4, h5, h6⟩ := dps5 ha
        exact ⟨_, _, rfl, ex_t s.fh hs, rfl, _, _, rfl, _, _, rfl, _, _, rfl, _, _, rfl, _, _, rfl, _, _, rfl, rfl, k _ _ _ _ _ _ F2 H2 (g.trans s) s h1 h2 h3 h4 h5 h6⟩
theorem ok_deed_text (g : G K mg) : Dk P w K mg base 8 "deed_text" ["deed"] (spR K RDeed) := by
  refine g.f_deed_text.dk sc_deed_text (by rintro _ _ ⟨⟩; rfl) fun f cdv A outer s H E hr => ⟨_, (pss_cons (ps_if (pt_cmpR (kEq (room64 hr) (K := K)) (pe_ix (kIxU (K := K)) (pv 0) pe_int (fun _ _ => rfl)) pe_str (nomark _))
    (pss_cons (ps_asg (pv 0) (pg_tup rfl (pgs_cons (pg_name (i := 1) sc_deed_text.nd rfl (Or.inl rfl)) (pgs_cons (pg_name (i := 2) sc_deed_text.nd rfl (Or.inl rfl)) (pgs_cons (pg_name (i := 3) sc_deed_text.nd rfl (Or.inl rfl)) (pgs_cons (pg_name (i := 4) sc_deed_text.nd rfl (Or.inl rfl)) (pgs_cons (pg_name (i := 5) sc_deed_text.nd rfl (Or.inl rfl)) (pgs_cons (pg_name (i := 6) sc_deed_text.nd rfl (Or.inl rfl)) pgs_nil))))))))
    (pss_one (ps_ret (bm (K := K) PySem.F.plainAttrs_str PySem.F.slot_str_join PySem.F.type_str_join (mJoin (K := K)) pe_str (pa_cons (pe_lst (pa_cons (pv 1) (pa_cons (pv 2) (pa_cons (pv 3) (pa_cons (cl (ok_list_text g) hr (pa_cons (pv 4) pa_nil)) (pa_cons (cl (ok_list_text g) hr (pa_cons (pv 6) pa_nil)) (pa_cons (cl (ok_rule_text g 6) hr (pa_cons (pv 5) pa_nil)) pa_nil))))))) pa_nil)))))
    pss_nil)
    (pss_cons (ps_if (pt_cmpR (kEq (room64 hr) (K := K)) (pe_ix (kIxU (K := K)) (pv 0) pe_int (fun _ _ => rfl)) pe_str (nomark _))
    (pss_one (ps_ret (bm (K := K) PySem.F.plainAttrs_str PySem.F.slot_str_join PySem.F.type_str_join (mJoin (K := K)) pe_str (pa_cons (pe_lst (pa_cons (pe_ix (kIxU (K := K)) (pv 0) pe_int (fun _ _ => rfl)) (pa_cons (pe_ix (kIxU (K := K)) (pv 0) pe_int (fun _ _ => rfl)) (pa_cons (cl (ok_marks_text g) hr (pa_cons (pe_ix (kIxU (K := K)) (pv 0) pe_int (fun _ _ => rfl)) pa_nil)) pa_nil)))) pa_nil))))
    pss_nil)
    (pss_one (ps_ret (bm (K := K) PySem.F.plainAttrs_str PySem.F.slot_str_join PySem.F.type_str_join (mJoin (K := K)) pe_str (pa_cons (pe_lc (own := [("thing", 7)]) (g := gName 7) rfl sc_deed_text.nd (pi_any (K := K) (pv 0)) (blkOk_by (own := [("thing", 7)]) (N := N_deed_text) (sc := defScope s_deed_text) (by decide +kernel)) (fun _ _ _ _ _ => (pg_name (i := 7) sc_deed_text.nd rfl (Or.inl rfl))) (fun _ _ _ _ _ => pts_nil) (fun _ _ _ _ _ => (cl (ok_thing_text g) hr (pa_cons (pv 7) pa_nil)))) pa_nil)))))), fun vs F0 ds r Q fh ha hR q => ?_⟩
  obtain ⟨d, h⟩ := hR
  obtain ⟨v, rfl, hv⟩ := dps1 ha
  have g0 : Gr F0 H F0 H := Gr.refl fh
  cases d with
  | trial name layer arms shuts r =>
    have hsum := trial_sum h
    obtain ⟨h1, h2, h3, h4, h5, h6⟩ := h
    have hv : Dp K F0 v (.tuple [.str "trial", .str name, .str layer, .tuple (arms.map PyData.str), rd r, .tuple (shuts.map PyData.str)]) := hv
    have k0 : atI [PyData.str "trial", .str name, .str layer, .tuple (arms.map PyData.str), rd r, .tuple (shuts.map PyData.str)] 0 = some (.str "trial") := rfl
    refine q_when g0 (b := true) (EvB.to (by wtm_at "evb") (by decide)) (fun _ H2 g2 e2 => ?_) fun hb => nomatch hb
    refine q_set6 g2 (by wtm_at "ev") fun v1 v2 v3 v4 v5 v6 F3 H3 g3 s3 a1 a2 a3 a4 a5 a6 => ?_
    have l1 := RListT.tup _ (okA_L h3)
    have l2 := RListT.tup _ (okA_L h4)
    have t1 := RText.mk (n := 6) r h6 (by omega) h5
    exact s_ret (K := K) g3 (d_bm (d_c (.str sp1)) (ds_cons (EvD.to (d_lst (ds := [.str "trial", .str name, .str layer, .str (listS (arms.map PyData.str)), .str (listS (shuts.map PyData.str)), .str (textF r)]) (by wtm_at "evs") (by simp)) (e := .list ((["trial", name, layer, listS (arms.map PyData.str), listS (shuts.map PyData.str), textF r] : List Str).map PyData.str)) rfl) ds_nil) (.list _ _ hsum)) q
  | visit guest ms =>
    have hsum := visit_sum h
    have hv : Dp K F0 v (.tuple [.str "visit", .str guest, .tuple (ms.map mkD)]) := hv
    have k0 : atI [PyData.str "visit", .str guest, .tuple (ms.map mkD)] 0 = some (.str "visit") := rfl
    have k1 : atI [PyData.str "visit", .str guest, .tuple (ms.map mkD)] 1 = some (.str guest) := rfl
    have k2 : atI [PyData.str "visit", .str guest, .tuple (ms.map mkD)] 2 = some (.tuple (ms.map mkD)) := rfl
    refine q_when g0 (b := false) (EvB.to (by wtm_at "evb") (by decide)) (fun hb => nomatch hb) fun _ H2 g2 e2 => ?_
    refine q_when g2 (b := true) (EvB.to (by wtm_at "evb") (by decide)) (fun _ H3 g3 e3 => ?_) fun hb => nomatch hb
    have m1 := RMarksT.mk ms h.2.1 h.2.2
    exact s_ret (K := K) g3 (d_bm (d_c (.str sp1)) (ds_cons (EvD.to (d_lst (ds := [.str "visit", .str guest, .str (listS (ms.map fun m => .str (eqS m)))]) (by wtm_at "evs") (by simp)) (e := .list ((["visit", guest, listS (ms.map fun m => .str (eqS m))] : List Str).map PyData.str)) rfl) ds_nil) (.list _ _ hsum)) q
  | plain kind items =>
    obtain ⟨n1, n2, hk⟩ := h
    have hsum := plain_sum hk
    have hv : Dp K F0 v (.tuple (.str kind :: items)) := hv
    have k0 : atI (PyData.str kind :: items) 0 = some (.str kind) := atI_nat (j := 0) rfl
    refine q_when g0 (b := false) (EvB.to (by wtm_at "evb") (decide_eq_false n1)) (fun hb => nomatch hb) fun _ H2 g2 e2 => ?_
    refine q_when g2 (b := false) (EvB.to (by wtm_at "evb") (decide_eq_false n2)) (fun hb => nomatch hb) fun _ H3 g3 e3 => ?_
    have hz : (PyData.str kind :: items).length ≤ 50000 := by rw [List.length_cons]; have := hk.2.1; omega
    have htt : ∀ d ∈ PyData.str kind :: items, ttOk d := fun d hd => by
      rcases List.mem_cons.mp hd with rfl | hd
      · exact Nat.le_trans hk.1 (by decide)
      · exact hk.2.2 d hd
    exact s_ret (K := K) g3 (d_bm (d_c (.str sp1)) (ds_cons (EvD.to (EvN.dd (n_lc1 (w_anyT (ds := PyData.str kind :: items) (by wtm_at "ev")) hz (fun d => .str (ttS d)) (fun _ => rfl) (fun d x F' H' hm a1 b1 c1 hx => d_call (by wtm_at "evs") (.mk d (htt d hm))))) (e := .list (((PyData.str kind :: items).map ttS).map PyData.str)) (by rw [List.map_map]; rfl)) ds_nil) (.list _ _ hsum)) q
end


theorem run_nil (c : Nat) (s : Str) : s ++ (⟨(runT c []).toArray⟩ : Str) = s := by
  refine TL.ext_tl ?_
  rw [TL.tl_append]
  show TL.tl s ++ [] = _
  simp
theorem sp1_eq : sp1 = ⟨#[32]⟩ := by decide +kernel
theorem com_eq : com = ⟨#[44]⟩ := by decide +kernel
theorem nil_app (s : Str) : ("" : Str) ++ s = s := by
  refine TL.ext_tl ?_
  rw [TL.tl_append]
  rfl
theorem listed_cut {ds : List D} (h : ds.length ≠ 0) : cutS (("" : Str) ++ (⟨(runT 44 (ds.map thS)).toArray⟩ : Str)) (some 1) none = listS ds := by
  unfold listS
  rw [if_neg h, nil_app]
  cases ds with
  | nil => exact absurd rfl h
  | cons d ds =>
    rw [List.map_cons, com_eq, join_run]
    have e : runT 44 (thS d :: ds.map thS) = 44 :: (TL.tl (thS d) ++ runT 44 (ds.map thS)) := by
      unfold runT
      rw [List.map_cons, List.flatten_cons]
      rfl
    rw [e, cut_head]
    refine TL.ext_tl ?_
    rw [TL.tl_append]
theorem run_size {ds : List D} (h : ∀ d ∈ ds, thOk d) (i : Nat) : (runT 44 ((ds.map thS).take i)).length ≤ 3001 * ds.length := by
  rw [runT_len, ← List.map_take]
  have h1 := sum_th (ds := ds.take i) fun d hd => h d (List.mem_of_mem_take hd)
  have h2 : (ds.take i).length ≤ ds.length := by rw [List.length_take]; omega
  rw [List.length_map]
  omega
theorem run_size2 {ds : List D} (h : ∀ d ∈ ds, ttOk d) (i : Nat) : (runT 32 ((ds.map ttS).take i)).length ≤ 30101 * ds.length := by
  rw [runT_len, ← List.map_take]
  have h1 := sum_tt (ds := ds.take i) fun d hd => h d (List.mem_of_mem_take hd)
  have h2 : (ds.take i).length ≤ ds.length := by rw [List.length_take]; omega
  rw [List.length_map]
  omega
section
variable {P : Program} {w : World} {K : Fg} {mg : Str → Option Value} {base : Heap}
theorem ok__law_listed (g : G K mg) : Dk P w K mg base 1 "_law_listed" ["_law_things"] (spR K RListT) := by
  refine g.f__law_listed.dk sc__law_listed (by rintro _ _ ⟨⟩ <;> rfl) fun f cdv A outer s H E hr => ⟨_, (pss_cons (ps_if (pt_cmpR (kEq (room64 hr) (K := K)) (bi (jLen (K := K)) g.b_len (pa_cons (pv 0) pa_nil)) pe_int (nomark _))
    (pss_one (ps_ret pe_str))
    pss_nil)
    (pss_cons (ps_set (i := 1) sc__law_listed.nd rfl (Or.inl rfl) pe_str)
    (pss_cons (ps_for PassesOwn.never rfl (pi_any (K := K) (pv 0)) (pg_name (i := 2) sc__law_listed.nd rfl (Or.inl rfl))
    (pss_one (ps_set (i := 1) sc__law_listed.nd rfl (Or.inl rfl) (pe_op (kAdd (K := K)) (pe_op (kAdd (K := K)) (pv 1) pe_str) (bt (jStr (K := K)) g.b_str (pa_cons (pv 2) pa_nil))))))
    (pss_one (ps_ret (pe_slice (kSl (K := K)) (pv 1) (po_some pe_int) po_none)))))), fun vs F0 ds r Q fh ha hR q => ?_⟩
  obtain ⟨xs, hd, h, hx, rfl⟩ : ∃ xs : List D, (ds = [.tuple xs] ∨ ds = [.list xs]) ∧ okL xs ∧ (∀ {v σ H2}, σ[0]? = some (some v) → DpAll K F0 [v] ds → Ex F0 H2 → EvW K (iAny K (tVar 0)) σ F0 H2 xs ∧ EvB (tTest (tOp (rD2 K EqD) (tCB (rDn K LenD) (tCons (tVar 0) tNil)) (tC (.int 0)))) σ F0 H2 (decide (xs.length = 0))) ∧ r = .str (listS xs) := by
    cases hR with
    | tup xs h =>
      refine ⟨xs, .inl rfl, h, fun {v σ H2} hs ha e => ?_, rfl⟩
      obtain ⟨v', e1, hv⟩ := dps1 ha
      cases e1
      exact ⟨w_anyT (d_var hs hv), EvB.to (b_test (d_op2 (d_cb (ds_cons (d_var hs hv) ds_nil) (.tup xs)) (d_c (.int 0)) (.int _ _))) (by simp)⟩
    | lst xs h =>
      refine ⟨xs, .inr rfl, h, fun {v σ H2} hs ha e => ?_, rfl⟩
      obtain ⟨v', e1, hv⟩ := dps1 ha
      cases e1
      exact ⟨w_anyL (d_var hs hv), EvB.to (b_test (d_op2 (d_cb (ds_cons (d_var hs hv) ds_nil) (.list xs)) (d_c (.int 0)) (.int _ _))) (by simp)⟩
  obtain ⟨v, rfl⟩ : ∃ v, vs = [v] := by
    rcases hd with rfl | rfl
    · obtain ⟨v, e, _⟩ := dps1 ha; exact ⟨v, e⟩
    · obtain ⟨v, e, _⟩ := dps1 ha; exact ⟨v, e⟩
  have g0 : Gr F0 H F0 H := Gr.refl fh
  refine q_when g0 (b := decide (xs.length = 0)) (hx rfl ha fh).2 (fun hb H2 g2 e2 => ?_) fun hb H2 g2 e2 => ?_
  · have e : listS xs = "-" := by unfold listS; rw [if_pos (of_decide_eq_true hb)]
    rw [e] at q
    exact s_ret (K := K) g2 (by wtm_at "ev") q
  · have hne := of_decide_eq_false hb
    have hcut := listed_cut hne
    have hl10 := h.1
    refine q_setV (K := K) g2 (d := .str (("" : Str) ++ (⟨(runT 44 ((xs.map thS).take 0)).toArray⟩ : Str))) (EvD.to (e := .str (("" : Str) ++ (⟨(runT 44 ((xs.map thS).take 0)).toArray⟩ : Str))) (d_c (.str "")) (by rw [List.take_zero, run_nil])) rfl fun H3 g3 e3 => ?_
    refine q_forN (K := K) g3 (hx rfl ha (g3.fh)).1 fun F4 H4 g4 s4 => ⟨fun i σ' F' H' => ∃ y2, σ' = [some v, some (.str (("" : Str) ++ (⟨(runT 44 ((xs.map thS).take i)).toArray⟩ : Str))), y2], ⟨none, rfl⟩, fun i d σ' F' H' hd' g' e' hP x F5 H5 g5 hx5 => ?_, fun σ' F' H' g' e' hP => ?_⟩
    · obtain ⟨y2, rfl⟩ := hP
      have hok := h.2 d (List.mem_of_getElem? hd')
      have hlen := thS_len hok
      have hsz := run_size h.2 i
      have s0 : (("" : Str) ++ (⟨(runT 44 ((xs.map thS).take i)).toArray⟩ : Str)).length ≤ 30010 := by rw [nil_app, str_len]; omega
      have s1 : (("" : Str) ++ (⟨(runT 44 ((xs.map thS).take i)).toArray⟩ : Str)).length + (⟨#[44]⟩ : Str).length ≤ 100000 := by rw [show (⟨#[44]⟩ : Str).length = 1 from rfl]; omega
      have s2 : ((("" : Str) ++ (⟨(runT 44 ((xs.map thS).take i)).toArray⟩ : Str)) ++ (⟨#[44]⟩ : Str)).length + (thS d).length ≤ 100000 := by rw [strAdd_len, show (⟨#[44]⟩ : Str).length = 1 from rfl]; omega
      have et : (xs.map thS).take (i + 1) = (xs.map thS).take i ++ [thS d] := by rw [List.take_add_one, List.getElem?_map, hd']; rfl
      refine s_setV (g'.trans g5) (d := .str (("" : Str) ++ (⟨(runT 44 ((xs.map thS).take (i + 1))).toArray⟩ : Str))) (EvD.to (d_op2 (d_op2 (d_var rfl (.str _)) (EvD.to (d_c (.str com)) (congrArg PyData.str com_eq)) (.str _ _ s1)) (d_str (d_var rfl hx5) hok) (.str _ _ s2)) (by rw [app_run, et])) rfl fun H6 g6 e6 => ⟨F5, g6, e'.trans g5.fx, _, rfl⟩
    · obtain ⟨y2, rfl⟩ := hP
      have hsz := run_size h.2 xs.length
      have e : (xs.map thS).take xs.length = xs.map thS := by rw [← List.length_map (f := thS), List.take_length]
      rw [e] at hsz ⊢
      have s0 : (("" : Str) ++ (⟨(runT 44 (xs.map thS)).toArray⟩ : Str)).length ≤ 100000 := by rw [nil_app, str_len]; omega
      exact s_ret (K := K) g' (EvD.to (d_sl (d_var rfl (.str _)) (i_some (by wtm_at "ev")) i_none (.str _ _ _ s0)) (congrArg PyData.str hcut)) q
theorem visit_row (guest L : Str) : (("visit " : Str) ++ guest ++ (⟨#[32]⟩ : Str)) ++ L = Txt.join sp1 ["visit", guest, L] := by
  refine TL.ext_tl ?_
  rw [sp1_eq, join_run]
  rw [TL.tl_append, TL.tl_append, TL.tl_append, TL.tl_append]
  show TL.tl "visit " ++ TL.tl guest ++ [32] ++ TL.tl L = TL.tl "visit" ++ runT 32 [guest, L]
  have e : TL.tl "visit " = TL.tl "visit" ++ [32] := by decide +kernel
  rw [e]
  unfold runT
  simp
theorem ok__law_row (g : G K mg) : Dk P w K mg base 8 "_law_row" ["_law_deed"] (spR K RDeed) := by
  refine g.f__law_row.dk sc__law_row (by rintro _ _ ⟨⟩; rfl) fun f cdv A outer s H E hr => ⟨_, (pss_cons (ps_if (pt_cmpR (kEq (room64 hr) (K := K)) (pe_ix (kIxU (K := K)) (pv 0) pe_int (fun _ _ => rfl)) pe_str (nomark _))
    (pss_cons (ps_set (i := 1) sc__law_row.nd rfl (Or.inl rfl) (pe_lst (pa_cons (pe_ix (kIxU (K := K)) (pv 0) pe_int (fun _ _ => rfl)) (pa_cons (pe_ix (kIxU (K := K)) (pv 0) pe_int (fun _ _ => rfl)) (pa_cons (pe_ix (kIxU (K := K)) (pv 0) pe_int (fun _ _ => rfl)) (pa_cons (cl (ok__law_listed g) hr (pa_cons (pe_ix (kIxU (K := K)) (pv 0) pe_int (fun _ _ => rfl)) pa_nil)) (pa_cons (cl (ok__law_listed g) hr (pa_cons (pe_ix (kIxU (K := K)) (pv 0) pe_int (fun _ _ => rfl)) pa_nil)) (pa_cons (cl (ok__law_rule_row g 6) hr (pa_cons (pe_ix (kIxU (K := K)) (pv 0) pe_int (fun _ _ => rfl)) pa_nil)) pa_nil))))))))
    (pss_one (ps_ret (bm (K := K) PySem.F.plainAttrs_str PySem.F.slot_str_join PySem.F.type_str_join (mJoin (K := K)) pe_str (pa_cons (pv 1) pa_nil)))))
    pss_nil)
    (pss_cons (ps_if (pt_cmpR (kEq (room64 hr) (K := K)) (pe_ix (kIxU (K := K)) (pv 0) pe_int (fun _ _ => rfl)) pe_str (nomark _))
    (pss_one (ps_ret (pe_op (kAdd (K := K)) (pe_op (kAdd (K := K)) (pe_op (kAdd (K := K)) pe_str (pe_ix (kIxU (K := K)) (pv 0) pe_int (fun _ _ => rfl))) pe_str) (cl (ok__law_listed g) hr (pa_cons (pe_lc (own := [("_law_word_here", 4), ("_law_number_here", 5)]) (g := gTup K 2 (gCons (gName 4) (gCons (gName 5) gNil))) rfl sc__law_row.nd (pi_any (K := K) (pe_ix (kIxU (K := K)) (pv 0) pe_int (fun _ _ => rfl))) (blkOk_by (own := [("_law_word_here", 4), ("_law_number_here", 5)]) (N := N__law_row) (sc := defScope s__law_row) (by decide +kernel)) (fun _ _ _ _ _ => (pg_tup rfl (pgs_cons (pg_name (i := 4) sc__law_row.nd rfl (Or.inl rfl)) (pgs_cons (pg_name (i := 5) sc__law_row.nd rfl (Or.inl rfl)) pgs_nil)))) (fun _ _ _ _ _ => pts_nil) (fun _ _ _ _ _ => (pe_op (kAdd (K := K)) (pe_op (kAdd (K := K)) (pv 4) pe_str) (bt (jStr (K := K)) g.b_str (pa_cons (pv 5) pa_nil))))) pa_nil)))))
    pss_nil)
    (pss_cons (ps_set (i := 2) sc__law_row.nd rfl (Or.inl rfl) (pe_ix (kIxU (K := K)) (pv 0) pe_int (fun _ _ => rfl)))
    (pss_cons (ps_for PassesOwn.never rfl (pi_any (K := K) (pe_slice (kSl (K := K)) (pv 0) (po_some pe_int) po_none)) (pg_name (i := 3) sc__law_row.nd rfl (Or.inl rfl))
    (pss_one (ps_if (pt_val (bi (jIsi (K := K)) g.b_isinstance (pa_cons (pv 3) (pa_cons (bty (n := "tuple") g.b_tuple) pa_nil))))
    (pss_one (ps_set (i := 2) sc__law_row.nd rfl (Or.inl rfl) (pe_op (kAdd (K := K)) (pe_op (kAdd (K := K)) (pv 2) pe_str) (cl (ok__law_listed g) hr (pa_cons (pv 3) pa_nil)))))
    (pss_one (ps_set (i := 2) sc__law_row.nd rfl (Or.inl rfl) (pe_op (kAdd (K := K)) (pe_op (kAdd (K := K)) (pv 2) pe_str) (bt (jStr (K := K)) g.b_str (pa_cons (pv 3) pa_nil))))))))
    (pss_one (ps_ret (pv 2))))))), fun vs F0 ds r Q fh ha hR q => ?_⟩
  obtain ⟨d, h⟩ := hR
  obtain ⟨v, rfl, hv⟩ := dps1 ha
  have g0 : Gr F0 H F0 H := Gr.refl fh
  cases d with
  | trial name layer arms shuts r =>
    have hsum := trial_sum h
    obtain ⟨h1, h2, h3, h4, h5, h6⟩ := h
    have hv : Dp K F0 v (.tuple [.str "trial", .str name, .str layer, .tuple (arms.map PyData.str), rd r, .tuple (shuts.map PyData.str)]) := hv
    have k0 : atI [PyData.str "trial", .str name, .str layer, .tuple (arms.map PyData.str), rd r, .tuple (shuts.map PyData.str)] 0 = some (.str "trial") := rfl
    have k1 : atI [PyData.str "trial", .str name, .str layer, .tuple (arms.map PyData.str), rd r, .tuple (shuts.map PyData.str)] 1 = some (.str name) := rfl
    have k2 : atI [PyData.str "trial", .str name, .str layer, .tuple (arms.map PyData.str), rd r, .tuple (shuts.map PyData.str)] 2 = some (.str layer) := rfl
    have k3 : atI [PyData.str "trial", .str name, .str layer, .tuple (arms.map PyData.str), rd r, .tuple (shuts.map PyData.str)] 3 = some (.tuple (arms.map PyData.str)) := rfl
    have k4 : atI [PyData.str "trial", .str name, .str layer, .tuple (arms.map PyData.str), rd r, .tuple (shuts.map PyData.str)] 4 = some (rd r) := rfl
    have k5 : atI [PyData.str "trial", .str name, .str layer, .tuple (arms.map PyData.str), rd r, .tuple (shuts.map PyData.str)] 5 = some (.tuple (shuts.map PyData.str)) := rfl
    refine q_when g0 (b := true) (EvB.to (by wtm_at "evb") (by decide)) (fun _ H2 g2 e2 => ?_) fun hb => nomatch hb
    have l1 := RListT.tup _ (okA_L h3)
    have l2 := RListT.tup _ (okA_L h4)
    have t1 := RText.mk (n := 6) r h6 (by omega) h5
    refine q_set (K := K) g2 (EvD.to (d_lst (ds := [.str "trial", .str name, .str layer, .str (listS (arms.map PyData.str)), .str (listS (shuts.map PyData.str)), .str (textF r)]) (by wtm_at "evs") (by simp)) (e := .list ((["trial", name, layer, listS (arms.map PyData.str), listS (shuts.map PyData.str), textF r] : List Str).map PyData.str)) rfl) fun v9 F9 H9 g9 s9 h9 => ?_
    exact s_ret (K := K) g9 (d_bm (d_c (.str sp1)) (ds_cons (d_var rfl h9) ds_nil) (.list _ _ hsum)) q
  | visit guest ms =>
    have hrow := visit_row guest (listS (ms.map fun m => .str (eqS m)))
    have hll := listS_len (okMs_L h.2.1 h.2.2)
    have hv : Dp K F0 v (.tuple [.str "visit", .str guest, .tuple (ms.map mkD)]) := hv
    have k0 : atI [PyData.str "visit", .str guest, .tuple (ms.map mkD)] 0 = some (.str "visit") := rfl
    have k1 : atI [PyData.str "visit", .str guest, .tuple (ms.map mkD)] 1 = some (.str guest) := rfl
    have k2 : atI [PyData.str "visit", .str guest, .tuple (ms.map mkD)] 2 = some (.tuple (ms.map mkD)) := rfl
    have m1 := RListT.lst _ (okMs_L h.2.1 h.2.2)
    have hms := h.2.2
    have hz : (ms.map mkD).length ≤ 50000 := by rw [List.length_map]; have := h.2.1; omega
    have e6 : ("visit " : Str).length = 6 := by decide +kernel
    have hg := h.1
    generalize hL : listS (ms.map fun m => .str (eqS m)) = L at hrow hll m1
    have s1 : ("visit " : Str).length + guest.length ≤ 100000 := by omega
    have s2 : (("visit " : Str) ++ guest).length + (⟨#[32]⟩ : Str).length ≤ 100000 := by rw [strAdd_len, show (⟨#[32]⟩ : Str).length = 1 from rfl]; omega
    have s3 : (("visit " : Str) ++ guest ++ (⟨#[32]⟩ : Str)).length + L.length ≤ 100000 := by rw [strAdd_len, strAdd_len, show (⟨#[32]⟩ : Str).length = 1 from rfl]; omega
    have q : Ans K F0 H (.str (Txt.join sp1 ["visit", guest, listS (ms.map fun m => .str (eqS m))])) Q := q
    rw [hL] at q
    refine q_when g0 (b := false) (EvB.to (by wtm_at "evb") (by decide)) (fun hb => nomatch hb) fun _ H2 g2 e2 => ?_
    refine q_when g2 (b := true) (EvB.to (by wtm_at "evb") (by decide)) (fun _ H3 g3 e3 => ?_) fun hb => nomatch hb
    refine s_ret (K := K) g3 (EvD.to (d_op2 (d_op2 (d_op2 (d_c (.str "visit ")) (by wtm_at "ev") (.str _ _ s1)) (EvD.to (d_c (.str sp1)) (congrArg PyData.str sp1_eq)) (.str _ _ s2)) (d_call (ds_cons (EvD.to (EvN.dd (n_lcT (w_anyT (ds := ms.map mkD) (by wtm_at "ev")) hz fstD sndD (eq_pair ms) (fun _ => true) eqD (fun _ _ => rfl) (fun d x y F' H' hm a1 b1 c1 hx hy => b_yes) (fun d x y F' H' hm hf a1 b1 c1 hx hy => ?_))) (congrArg PyData.list (eq_list ms))) ds_nil) m1) (.str _ _ s3)) (congrArg PyData.str hrow)) q
    obtain ⟨m, hmm, rfl⟩ := List.mem_map.mp hm
    have hm := hms m hmm
    have hx : Dp K F' x (.str m.1) := hx
    have hy : Dp K F' y (.int m.2) := hy
    have h1 : ("=" : Str).length = 1 := by decide +kernel
    have h2 := intS_lenI (okN_I hm.2)
    have s1 : m.1.length + ("=" : Str).length ≤ 100000 := by omega
    have s2 : (m.1 ++ ("=" : Str)).length + (intS m.2).length ≤ 100000 := by rw [strAdd_len]; omega
    exact EvD.to (d_op2 (d_op2 (d_var rfl hx) (d_c (.str "=")) (.str _ _ s1)) (d_str (d_var rfl hy) (okN_I hm.2)) (.str _ _ s2)) rfl
  | plain kind items =>
    obtain ⟨n1, n2, hk⟩ := h
    have hv : Dp K F0 v (.tuple (.str kind :: items)) := hv
    have k0 : atI (PyData.str kind :: items) 0 = some (.str kind) := atI_nat (j := 0) rfl
    have q : Ans K F0 H (.str (Txt.join sp1 (kind :: items.map ttS))) Q := q
    rw [sp1_eq, join_run] at q
    refine q_when g0 (b := false) (EvB.to (by wtm_at "evb") (decide_eq_false n1)) (fun hb => nomatch hb) fun _ H2 g2 e2 => ?_
    refine q_when g2 (b := false) (EvB.to (by wtm_at "evb") (decide_eq_false n2)) (fun hb => nomatch hb) fun _ H3 g3 e3 => ?_
    refine q_setV (K := K) g3 (d := .str (kind ++ (⟨(runT 32 ((items.map ttS).take 0)).toArray⟩ : Str))) (EvD.to (d := .str kind) (by wtm_at "ev") (by rw [List.take_zero, run_nil])) rfl fun H4 g4 e4 => ?_
    have hki := hk.2.1
    refine q_forN (K := K) g4 (w_anyT (ds := items) (EvD.to (by wtm_at "ev") (by rw [cutD_tail]))) fun F5 H5 g5 s5 => ⟨fun i σ' F' H' => ∃ y2, σ' = [some v, none, some (.str (kind ++ (⟨(runT 32 ((items.map ttS).take i)).toArray⟩ : Str))), y2, none, none], ⟨none, rfl⟩, fun i d σ' F' H' hd' g' e' hP x F6 H6 g6 hx6 => ?_, fun σ' F' H' g' e' hP => ?_⟩
    · obtain ⟨y2, rfl⟩ := hP
      have hok := hk.2.2 d (List.mem_of_getElem? hd')
      have hlen := ttS_len hok
      have hi3 : i < items.length := (List.getElem?_eq_some_iff.mp hd').1
      have hsz : (runT 32 ((items.map ttS).take i)).length ≤ 30101 * 2 := by
        have h1 := run_size2 (ds := items.take i) (fun d hd => hk.2.2 d (List.mem_of_mem_take hd)) i
        have h2 : (items.take i).length ≤ 2 := by rw [List.length_take]; omega
        rw [List.map_take, List.take_take, Nat.min_self] at h1
        omega
      have s0 : (kind ++ (⟨(runT 32 ((items.map ttS).take i)).toArray⟩ : Str)).length ≤ 60212 := by
        have h1 := strAdd_len kind (⟨(runT 32 ((items.map ttS).take i)).toArray⟩ : Str)
        have h2 := str_len (runT 32 ((items.map ttS).take i))
        have h3 := hk.1
        omega
      have s1 : (kind ++ (⟨(runT 32 ((items.map ttS).take i)).toArray⟩ : Str)).length + (⟨#[32]⟩ : Str).length ≤ 100000 := by rw [show (⟨#[32]⟩ : Str).length = 1 from rfl]; omega
      have s2 : ((kind ++ (⟨(runT 32 ((items.map ttS).take i)).toArray⟩ : Str)) ++ (⟨#[32]⟩ : Str)).length + (ttS d).length ≤ 100000 := by rw [strAdd_len, show (⟨#[32]⟩ : Str).length = 1 from rfl]; omega
      have et : (items.map ttS).take (i + 1) = (items.map ttS).take i ++ [ttS d] := by rw [List.take_add_one, List.getElem?_map, hd']; rfl
      have g7 := g'.trans g6
      have fin : ∀ (te : TE) H7, EvD K te [some v, none, some (.str (kind ++ (⟨(runT 32 ((items.map ttS).take i)).toArray⟩ : Str))), some x, none, none] F6 H7 (.str (ttS d)) →
          EvD K (tOp (rD2 K AddD) (tOp (rD2 K AddD) (tVar 2) (tC (.str sp1))) te) [some v, none, some (.str (kind ++ (⟨(runT 32 ((items.map ttS).take i)).toArray⟩ : Str))), some x, none, none] F6 H7 (.str (kind ++ (⟨(runT 32 ((items.map ttS).take (i + 1))).toArray⟩ : Str))) := fun te H7 hte =>
        EvD.to (d_op2 (d_op2 (d_var rfl (.str _)) (EvD.to (d_c (.str sp1)) (congrArg PyData.str sp1_eq)) (.str _ _ s1)) hte (.str _ _ s2)) (by rw [app_run, et])
      cases d with
      | tuple xs =>
        have hok : okL xs := hok
        refine s_if g7 (b := true) (EvB.to (by wtm_at "evb") (by rfl)) (fun _ H7 g8 e8 => ?_) fun hb => nomatch hb
        exact s_setV (K := K) g8 (fin _ _ (d_call (by wtm_at "evs") (.tup xs hok))) rfl fun H9 g9 e9 => ⟨F6, g9, e'.trans g6.fx, _, rfl⟩
      | str z =>
        have hok : thOk (.str z) := hok
        refine s_if g7 (b := false) (EvB.to (by wtm_at "evb") (by rfl)) (fun hb => nomatch hb) fun _ H7 g8 e8 => ?_
        exact s_setV (K := K) g8 (fin _ _ (d_str (by wtm_at "ev") hok)) rfl fun H9 g9 e9 => ⟨F6, g9, e'.trans g6.fx, _, rfl⟩
      | int z =>
        have hok : thOk (.int z) := hok
        refine s_if g7 (b := false) (EvB.to (by wtm_at "evb") (by rfl)) (fun hb => nomatch hb) fun _ H7 g8 e8 => ?_
        exact s_setV (K := K) g8 (fin _ _ (d_str (by wtm_at "ev") hok)) rfl fun H9 g9 e9 => ⟨F6, g9, e'.trans g6.fx, _, rfl⟩
      | _ => exact hok.elim
    · obtain ⟨y2, rfl⟩ := hP
      have e : (items.map ttS).take items.length = items.map ttS := by rw [← List.length_map (f := ttS), List.take_length]
      rw [e]
      exact s_ret (K := K) g' (by wtm_at "ev") q
end


/-! ### the law's own deeds -/
def kinds : List Str := ["layer", "trial", "share", "deal", "hold", "pause", "go", "close", "bar", "visit", "trial"]
def kindF (n : Int) : Str := kinds.getD (n % 11).toNat ""
def shareL (ns : List Int) (k many : Int) : List Int := (List.range many.toNat).map fun (j : Nat) => longF ns k (mixF ns k (53 + (j : Int)))
def farsL (ns : List Int) (k : Int) : List Int := [1, 10 ^ 30, 1 + cellAt ns k % 10 ^ 30, 5]
def dealW (ns : List Int) (k many : Int) : List Int := (List.range many.toNat).map fun (j : Nat) => (farsL ns k).getD (mixF ns k (53 + (j : Int)) % 4).toNat 0
def formF (ns : List Int) (k : Int) : Deed :=
  let n := mixF ns k 50
  let kd := kindF n
  let name := nmF (mixF ns k 51)
  if kd = "layer" ∨ kd = "hold" then .plain kd [.str name, .int (longF ns k (n / 11))]
  else if kd = "trial" then .trial name (nmF (mixF ns k 52)) (namesL ns k 80 (1 + n / 11 % 4).toNat) (namesL ns k 90 (n / 44 % 9).toNat) (ruleF ns (wordsF ns) k (1 + n / 400 % 15))
  else if kd = "share" then .plain kd [.str name, .tuple ((shareL ns k (1 + n / 11 % 4)).map PyData.int)]
  else if kd = "deal" then .plain kd [.str name, .int (([n / 44 % 1001, 1000, 0] : List Int).getD (n / 50 % 3).toNat 0), .tuple ((dealW ns k (1 + n / 11 % 4)).map PyData.int)]
  else if kd = "bar" then .plain kd [.str (guestF (n / 11)), .str name]
  else if kd = "visit" then .visit (guestF (n / 11)) (mmF ns k)
  else .plain kd [.str name]
theorem kind_mem (n : Int) : kindF n ∈ kinds := by
  unfold kindF
  have h : (n % 11).toNat < kinds.length := by show _ < 11; omega
  rw [List.getD_eq_getElem?_getD, List.getElem?_eq_getElem h]
  exact List.getElem_mem h
theorem kinds_len : ∀ z ∈ kinds, z.length ≤ 10 := by decide +kernel
theorem thOk_nm (n : Int) : thOk (.str (nmF n)) := Nat.le_trans (nm_ok n).2 (by decide)
theorem thOk_guest (n : Int) : thOk (.str (guestF n)) := Nat.le_trans (guest_ok n).2 (by decide)
theorem share_ok (ns : List Int) (k many : Int) (hm : many ≤ 10) : okL ((shareL ns k many).map PyData.int) := by
  unfold shareL
  refine ⟨by rw [List.length_map, List.length_map, List.length_range]; omega, fun d hd => ?_⟩
  obtain ⟨z, hz, rfl⟩ := List.mem_map.mp hd
  obtain ⟨j, _, rfl⟩ := List.mem_map.mp hz
  have := long_ok ns k (mixF ns k (53 + (j : Int)))
  exact okI_of ⟨by omega, this.2⟩
theorem deal_ok (ns : List Int) (k many : Int) (hm : many ≤ 10) : okL ((dealW ns k many).map PyData.int) := by
  unfold dealW
  refine ⟨by rw [List.length_map, List.length_map, List.length_range]; omega, fun d hd => ?_⟩
  obtain ⟨z, hz, rfl⟩ := List.mem_map.mp hd
  obtain ⟨j, _, rfl⟩ := List.mem_map.mp hz
  have h : ∀ z ∈ farsL ns k, -10 ^ 60 ≤ z ∧ z ≤ 10 ^ 60 := fun z hz => by
    unfold farsL at hz
    simp only [List.mem_cons, List.not_mem_nil, or_false] at hz
    rcases hz with rfl | rfl | rfl | rfl <;> omega
  rw [List.getD_eq_getElem?_getD]
  cases e : (farsL ns k)[(mixF ns k (53 + (j : Int)) % 4).toNat]? with
  | none => exact okI_of (i := 0) (by decide)
  | some z => exact okI_of (h z (List.mem_of_getElem? e))
theorem mm_ok (ns : List Int) (k : Int) : (mmF ns k).length ≤ 10 ∧ ∀ x ∈ mmF ns k, x.1.length ≤ 24 ∧ okN x.2 := by
  have hn0 := mixF_nn ns k 59
  have hnl := namesL_ok ns k 60 (mixF ns k 59 % 9).toNat
  have h1 := hnl.1
  have e : (mmF ns k).length = (mmNames ns k).length := mmL_len _ _ _ _
  have e2 : (mmNames ns k).length = (namesL ns k 60 (mixF ns k 59 % 9).toNat).length := rfl
  refine ⟨by omega, fun x hx => ?_⟩
  unfold mmF mmL at hx
  obtain ⟨j, hj, rfl⟩ := List.mem_map.mp hx
  refine ⟨?_, far_ok _ _ _⟩
  show ((mmNames ns k).getD j "").length ≤ 24
  rw [List.getD_eq_getElem?_getD]
  cases e : (mmNames ns k)[j]? with
  | none => decide
  | some z => exact Nat.le_trans (hnl.2.2.1 z (List.mem_of_getElem? e)).2 (by decide)
theorem form_ok (ns : List Int) (k : Int) : (formF ns k).ok := by
  have hn0 := mixF_nn ns k 50
  have hkl := kinds_len _ (kind_mem (mixF ns k 50))
  unfold formF
  dsimp only
  generalize mixF ns k 50 = n at hn0 hkl ⊢
  generalize kindF n = kd at hkl ⊢
  split
  · rename_i c
    refine ⟨fun z => ?_, fun z => ?_, hkl, by simp, fun d hd => ?_⟩
    · subst z; rcases c with c | c <;> exact absurd c (by decide +kernel)
    · subst z; rcases c with c | c <;> exact absurd c (by decide +kernel)
    · have := long_ok ns k (n / 11)
      rcases List.mem_cons.mp hd with rfl | hd
      · exact thOk_nm _
      · rw [List.mem_singleton.mp hd]
        exact okI_of ⟨by omega, this.2⟩
  split
  · have h1 := namesL_ok ns k 80 (1 + n / 11 % 4).toNat
    have h2 := namesL_ok ns k 90 (n / 44 % 9).toNat
    have hr := rule_ok (ns := ns) (ws := wordsF ns) (at' := k) (many := 1 + n / 400 % 15) (wordsF_ok ns).1
    exact ⟨nm_ok _, nm_ok _, ⟨by have := h1.1; omega, h1.2.2.1⟩, ⟨by have := h2.1; omega, h2.2.2.1⟩, hr.1, hr.2⟩
  rename_i c1
  split
  · rename_i c
    refine ⟨c1, fun z => absurd (z.symm.trans c) (by decide +kernel), hkl, by simp, fun d hd => ?_⟩
    rcases List.mem_cons.mp hd with rfl | hd
    · exact thOk_nm _
    · rw [List.mem_singleton.mp hd]
      exact share_ok ns k _ (by omega)
  split
  · rename_i c
    refine ⟨c1, fun z => absurd (z.symm.trans c) (by decide +kernel), hkl, by simp, fun d hd => ?_⟩
    rcases List.mem_cons.mp hd with rfl | hd
    · exact thOk_nm _
    rcases List.mem_cons.mp hd with rfl | hd
    · have h3 : (n / 50 % 3).toNat = 0 ∨ (n / 50 % 3).toNat = 1 ∨ (n / 50 % 3).toNat = 2 := by omega
      refine okI_of ?_
      rcases h3 with h | h | h <;> rw [h] <;> simp only [List.getD_cons_zero, List.getD_cons_succ] <;> omega
    · rw [List.mem_singleton.mp hd]
      exact deal_ok ns k _ (by omega)
  split
  · rename_i c
    refine ⟨c1, fun z => absurd (z.symm.trans c) (by decide +kernel), hkl, by simp, fun d hd => ?_⟩
    rcases List.mem_cons.mp hd with rfl | hd
    · exact thOk_guest _
    · rw [List.mem_singleton.mp hd]
      exact thOk_nm _
  split
  · exact ⟨(guest_ok _).2, (mm_ok ns k).1, (mm_ok ns k).2⟩
  · rename_i c
    refine ⟨c1, c, hkl, by simp, fun d hd => ?_⟩
    rw [List.mem_singleton.mp hd]
    exact thOk_nm _
inductive RForm : List D → D → Prop
  | mk (ns : List Int) (k : Int) (h : ns.length ≤ 63) (hk : 0 ≤ k ∧ k ≤ 500) : RForm [.list (ns.map PyData.int), .int k] (dd (formF ns k))
def shareE (ns : List Int) (k : Int) : D → D
  | .int j => .int (longF ns k (mixF ns k (53 + j)))
  | _ => .none
def dealE (ns : List Int) (k : Int) : D → D
  | .int j => .int ((farsL ns k).getD (mixF ns k (53 + j) % 4).toNat 0)
  | _ => .none
theorem share_of (ns : List Int) (k many : Int) : (rangeD 0 many.toNat).map (shareE ns k) = (shareL ns k many).map PyData.int := by
  unfold rangeD shareL
  rw [List.map_map, List.map_map]
  refine List.map_congr_left fun i _ => ?_
  show shareE ns k (.int (0 + (i : Int))) = _
  rw [Int.zero_add]
  rfl
theorem deal_of (ns : List Int) (k many : Int) : (rangeD 0 many.toNat).map (dealE ns k) = (dealW ns k many).map PyData.int := by
  unfold rangeD dealW
  rw [List.map_map, List.map_map]
  refine List.map_congr_left fun i _ => ?_
  show dealE ns k (.int (0 + (i : Int))) = _
  rw [Int.zero_add]
  rfl
section
variable {P : Program} {w : World} {K : Fg} {mg : Str → Option Value} {base : Heap}
theorem ok__law_form (g : G K mg) : Dk P w K mg base 6 "_law_form" ["_law_script", "_law_k"] (spR K RForm) := by
  refine g.f__law_form.dk sc__law_form (by rintro _ _ ⟨⟩; rfl) fun f cdv A outer s H E hr => ⟨_, (pss_cons (ps_set (i := 2) sc__law_form.nd rfl (Or.inl rfl) (cl (ok__law_mixed g) hr (pa_cons (pv 0) (pa_cons (pv 1) (pa_cons pe_int pa_nil)))))
    (pss_cons (ps_set (i := 3) sc__law_form.nd rfl (Or.inl rfl) (pe_ix (kIxU (K := K)) (pe_lst (pa_cons pe_str (pa_cons pe_str (pa_cons pe_str (pa_cons pe_str (pa_cons pe_str (pa_cons pe_str (pa_cons pe_str (pa_cons pe_str (pa_cons pe_str (pa_cons pe_str (pa_cons pe_str pa_nil)))))))))))) (pe_op (kMod (K := K)) (pv 2) pe_int) (fun _ _ => rfl)))
    (pss_cons (ps_set (i := 4) sc__law_form.nd rfl (Or.inl rfl) (cl (ok__law_name g) hr (pa_cons (cl (ok__law_mixed g) hr (pa_cons (pv 0) (pa_cons (pv 1) (pa_cons pe_int pa_nil)))) pa_nil)))
    (pss_cons (ps_if (PW.pt (pw_or (pt_cmpR (kEq (room64 hr) (K := K)) (pv 3) pe_str (nomark _)) (pw_or1 (pt_cmpR (kEq (room64 hr) (K := K)) (pv 3) pe_str (nomark _)))))
    (pss_one (ps_ret (pe_tup (pa_cons (pv 3) (pa_cons (pv 4) (pa_cons (cl (ok__law_long g) hr (pa_cons (pv 0) (pa_cons (pv 1) (pa_cons (pe_op (kDiv (K := K)) (pv 2) pe_int) pa_nil)))) pa_nil))))))
    pss_nil)
    (pss_cons (ps_if (pt_cmpR (kEq (room64 hr) (K := K)) (pv 3) pe_str (nomark _))
    (pss_cons (ps_set (i := 5) sc__law_form.nd rfl (Or.inl rfl) (cl (ok__law_names g) hr (pa_cons (pv 0) (pa_cons (pv 1) (pa_cons pe_int (pa_cons (pe_op (kAdd (K := K)) pe_int (pe_op (kMod (K := K)) (pe_op (kDiv (K := K)) (pv 2) pe_int) pe_int)) pa_nil))))))
    (pss_cons (ps_set (i := 6) sc__law_form.nd rfl (Or.inl rfl) (cl (ok__law_names g) hr (pa_cons (pv 0) (pa_cons (pv 1) (pa_cons pe_int (pa_cons (pe_op (kMod (K := K)) (pe_op (kDiv (K := K)) (pv 2) pe_int) pe_int) pa_nil))))))
    (pss_cons (ps_set (i := 7) sc__law_form.nd rfl (Or.inl rfl) (cl (ok__law_rule g) hr (pa_cons (pv 0) (pa_cons (pv 1) (pa_cons (pe_op (kAdd (K := K)) pe_int (pe_op (kMod (K := K)) (pe_op (kDiv (K := K)) (pv 2) pe_int) pe_int)) (pa_cons (cl (ok__law_words g) hr (pa_cons (pv 0) pa_nil)) pa_nil))))))
    (pss_one (ps_ret (pe_tup (pa_cons (pv 3) (pa_cons (pv 4) (pa_cons (cl (ok__law_name g) hr (pa_cons (cl (ok__law_mixed g) hr (pa_cons (pv 0) (pa_cons (pv 1) (pa_cons pe_int pa_nil)))) pa_nil)) (pa_cons (pv 5) (pa_cons (pv 7) (pa_cons (pv 6) pa_nil))))))))))))
    pss_nil)
    (pss_cons (ps_set (i := 8) sc__law_form.nd rfl (Or.inl rfl) (pe_op (kAdd (K := K)) pe_int (pe_op (kMod (K := K)) (pe_op (kDiv (K := K)) (pv 2) pe_int) pe_int)))
    (pss_cons (ps_if (pt_cmpR (kEq (room64 hr) (K := K)) (pv 3) pe_str (nomark _))
    (pss_one (ps_ret (pe_tup (pa_cons (pv 3) (pa_cons (pv 4) (pa_cons (bt (jTuple (K := K)) g.b_tuple (pa_cons (pe_lc (own := [("_law_j", 11)]) (g := gName 11) rfl sc__law_form.nd (pi_range1 (by rfl) g.b_range (pa_cons (pv 8) pa_nil)) (blkOk_by (own := [("_law_j", 11)]) (N := N__law_form) (sc := defScope s__law_form) (by decide +kernel)) (fun _ _ _ _ _ => (pg_name (i := 11) sc__law_form.nd rfl (Or.inl rfl))) (fun _ _ _ _ _ => pts_nil) (fun _ _ _ _ _ => (cl (ok__law_long g) hr (pa_cons (pv 0) (pa_cons (pv 1) (pa_cons (cl (ok__law_mixed g) hr (pa_cons (pv 0) (pa_cons (pv 1) (pa_cons (pe_op (kAdd (K := K)) pe_int (pv 11)) pa_nil)))) pa_nil)))))) pa_nil)) pa_nil))))))
    pss_nil)
    (pss_cons (ps_if (pt_cmpR (kEq (room64 hr) (K := K)) (pv 3) pe_str (nomark _))
    (pss_cons (ps_set (i := 9) sc__law_form.nd rfl (Or.inr rfl) (pe_lst (pa_cons pe_int (pa_cons (pe_op (kPow (K := K)) pe_int pe_int) (pa_cons (pe_op (kAdd (K := K)) pe_int (pe_op (kMod (K := K)) (cl (ok__law_cell_at g) hr (pa_cons (pv 0) (pa_cons (pv 1) pa_nil))) (pe_op (kPow (K := K)) pe_int pe_int))) (pa_cons pe_int pa_nil))))))
    (pss_cons (ps_set (i := 10) sc__law_form.nd rfl (Or.inl rfl) (bt (jTuple (K := K)) g.b_tuple (pa_cons (pe_lc (own := [("_law_j", 11)]) (g := gName 11) rfl sc__law_form.nd (pi_range1 (by rfl) g.b_range (pa_cons (pv 8) pa_nil)) (blkOk_by (own := [("_law_j", 11)]) (N := N__law_form) (sc := defScope s__law_form) (by decide +kernel)) (fun _ _ _ _ _ => (pg_name (i := 11) sc__law_form.nd rfl (Or.inl rfl))) (fun _ _ _ _ _ => pts_nil) (fun _ _ _ _ _ => (pe_ix (kIxU (K := K)) (pv 9) (pe_op (kMod (K := K)) (cl (ok__law_mixed g) hr (pa_cons (pv 0) (pa_cons (pv 1) (pa_cons (pe_op (kAdd (K := K)) pe_int (pv 11)) pa_nil)))) pe_int) (fun _ _ => rfl)))) pa_nil)))
    (pss_one (ps_ret (pe_tup (pa_cons (pv 3) (pa_cons (pv 4) (pa_cons (pe_ix (kIxU (K := K)) (pe_lst (pa_cons (pe_op (kMod (K := K)) (pe_op (kDiv (K := K)) (pv 2) pe_int) pe_int) (pa_cons pe_int (pa_cons pe_int pa_nil)))) (pe_op (kMod (K := K)) (pe_op (kDiv (K := K)) (pv 2) pe_int) pe_int) (fun _ _ => rfl)) (pa_cons (pv 10) pa_nil)))))))))
    pss_nil)
    (pss_cons (ps_if (pt_cmpR (kEq (room64 hr) (K := K)) (pv 3) pe_str (nomark _))
    (pss_one (ps_ret (pe_tup (pa_cons (pv 3) (pa_cons (cl (ok__law_guest g) hr (pa_cons (pe_op (kDiv (K := K)) (pv 2) pe_int) pa_nil)) (pa_cons (pv 4) pa_nil))))))
    pss_nil)
    (pss_cons (ps_if (pt_cmpR (kEq (room64 hr) (K := K)) (pv 3) pe_str (nomark _))
    (pss_one (ps_ret (pe_tup (pa_cons (pv 3) (pa_cons (cl (ok__law_guest g) hr (pa_cons (pe_op (kDiv (K := K)) (pv 2) pe_int) pa_nil)) (pa_cons (cl (ok__law_many_marks g) hr (pa_cons (pv 0) (pa_cons (pv 1) pa_nil))) pa_nil))))))
    pss_nil)
    (pss_one (ps_ret (pe_tup (pa_cons (pv 3) (pa_cons (pv 4) pa_nil))))))))))))))), fun vs F0 ds r Q fh ha hR q => ?_⟩
  obtain ⟨ns, k, h, hk⟩ := hR
  obtain ⟨v, w, rfl, hS, hw⟩ := dps2 ha
  cases hw
  obtain ⟨a, rfl⟩ : ∃ a, v = V.ref a := by cases hS; exact ⟨_, rfl⟩
  have g0 : Gr F0 H F0 H := Gr.refl fh
  have hkk : 0 ≤ k ∧ k ≤ 1000000 := by omega
  have hk1 : 0 ≤ k ∧ k ≤ 1000 := by omega
  have hn0 := mixF_nn ns k 50
  have hn51 := mixF_nn ns k 51
  have hn52 := mixF_nn ns k 52
  refine q_setV (K := K) g0 (by wtm_at "ev") rfl fun H1 g1 e1 => ?_
  have hat : atI [PyData.str "layer", .str "trial", .str "share", .str "deal", .str "hold", .str "pause", .str "go", .str "close", .str "bar", .str "visit", .str "trial"] (mixF ns k 50 % 11) = some (.str (kindF (mixF ns k 50))) := atI_strs (zs := kinds) (by omega) (by show _ < (11 : Int); omega)
  unfold formF at q
  dsimp only at q
  generalize mixF ns k 50 = n at hn0 hat q ⊢
  generalize kindF n = kd at hat q ⊢
  refine q_setV (K := K) g1 (d := .str kd) (by wtm_at "ev") rfl fun H2 g2 e2 => ?_
  refine q_setV (K := K) g2 (by wtm_at "ev") rfl fun H3 g3 e3 => ?_
  have hn11 : 0 ≤ n / 11 := by omega
  refine q_when g3 (b := decide (kd = "layer") || decide (kd = "hold")) (b_or (by wtm_at "evb") fun _ => by wtm_at "evb") (fun hb H4 g4 e4 => ?_) fun hb H4 g4 e4 => ?_
  · have hb : kd = "layer" ∨ kd = "hold" := by simpa using hb
    rw [if_pos hb] at q
    exact s_ret (K := K) g4 (EvD.to (by wtm_at "ev") (by rfl)) q
  have hb : ¬ (kd = "layer" ∨ kd = "hold") := by simpa using hb
  rw [if_neg hb] at q
  refine q_when g4 (b := decide (kd = "trial")) (by wtm_at "evb") (fun hb H5 g5 e5 => ?_) fun hb H5 g5 e5 => ?_
  · have hb := of_decide_eq_true hb
    rw [if_pos hb] at q
    have s1 : (0 : Int) ≤ 80 ∧ (80 : Int) ≤ 1000 := by decide
    have s2 : (0 : Int) ≤ 90 ∧ (90 : Int) ≤ 1000 := by decide
    have m1 : 0 ≤ 1 + n / 11 % 4 ∧ 1 + n / 11 % 4 ≤ 100 := by omega
    have m2 : 0 ≤ n / 44 % 9 ∧ n / 44 % 9 ≤ 100 := by omega
    have m3 : 1 ≤ 1 + n / 400 % 15 ∧ 1 + n / 400 % 15 ≤ 100 := by omega
    have hww := (wordsF_ok ns).1
    refine q_set (K := K) g5 (by wtm_at "ev") fun v5 F5 H6 g6 x6 h5 => ?_
    have hS := hS.up x6.fx
    refine q_set (K := K) g6 (by wtm_at "ev") fun v6 F6 H7 g7 x7 h6 => ?_
    have hS := hS.up x7.fx
    have h5 := h5.up x7.fx
    refine q_set (K := K) g7 (by wtm_at "ev") fun v7 F7 H8 g8 x8 h7 => ?_
    have hS := hS.up x8.fx
    have h5 := h5.up x8.fx
    have h6 := h6.up x8.fx
    exact s_ret (K := K) g8 (EvD.to (by wtm_at "ev") (by rw [hb]; rfl)) q
  rw [if_neg (of_decide_eq_false hb)] at q
  have m1 : 0 ≤ 1 + n / 11 % 4 ∧ 1 + n / 11 % 4 ≤ 10 := by omega
  refine q_setV (K := K) g5 (by wtm_at "ev") rfl fun H6 g6 e6 => ?_
  generalize 1 + n / 11 % 4 = many at m1 q ⊢
  have hz : (rangeD 0 many.toNat).length ≤ 50000 := by rw [rangeD_len]; omega
  refine q_when g6 (b := decide (kd = "share")) (by wtm_at "evb") (fun hb H7 g7 e7 => ?_) fun hb H7 g7 e7 => ?_
  · rw [if_pos (of_decide_eq_true hb)] at q
    refine s_ret (K := K) g7 (EvD.to (d_tup (ds := [.str kd, .str (nmF (mixF ns k 51)), .tuple ((shareL ns k many).map PyData.int)]) (ds_cons (by wtm_at "ev") (ds_cons (by wtm_at "ev") (ds_cons (d_cb (ds_cons (EvD.to (EvN.dd (n_lc1 (w_range1 (n := many) (by wtm_at "evs") (by omega) (by omega)) hz (shareE ns k) (fun _ => rfl) (fun d x F' H' hm a1 b1 c1 hx => ?_))) (congrArg PyData.list (share_of ns k many))) ds_nil) (.list _)) ds_nil))) (by simp)) (by rfl)) q
    obtain ⟨i, hi, rfl⟩ := rangeD_mem hm
    cases hx
    have hS := hS.up a1
    have hk2 : 0 ≤ 53 + (0 + (i : Int)) ∧ 53 + (0 + (i : Int)) ≤ 1000000 := by omega
    have hnn := mixF_nn ns k (53 + (0 + (i : Int)))
    exact EvD.to (by wtm_at "ev") (by rfl)
  rw [if_neg (of_decide_eq_false hb)] at q
  refine q_when g7 (b := decide (kd = "deal")) (by wtm_at "evb") (fun hb H8 g8 e8 => ?_) fun hb H8 g8 e8 => ?_
  · rw [if_pos (of_decide_eq_true hb)] at q
    refine q_set (K := K) g8 (d := .list ((farsL ns k).map PyData.int)) (EvD.to (by wtm_at "ev") (by rfl)) fun v9 F9 H9 g9 x9 h9 => ?_
    have hS := hS.up x9.fx
    refine q_set (K := K) g9 (d_cb (ds_cons (EvD.to (EvN.dd (n_lc1 (w_range1 (n := many) (by wtm_at "evs") (by omega) (by omega)) hz (dealE ns k) (fun _ => rfl) (fun d x F' H' hm a1 b1 c1 hx => ?_))) (congrArg PyData.list (deal_of ns k many))) ds_nil) (.list _)) fun v10 F10 H10 g10 x10 h10 => ?_
    · obtain ⟨i, hi, rfl⟩ := rangeD_mem hm
      cases hx
      have hS := hS.up a1
      have h9 := h9.up a1
      have hk2 : 0 ≤ 53 + (0 + (i : Int)) ∧ 53 + (0 + (i : Int)) ≤ 1000000 := by omega
      have hnn := mixF_nn ns k (53 + (0 + (i : Int)))
      have h4 : atI ((farsL ns k).map PyData.int) (mixF ns k (53 + (0 + (i : Int))) % 4) = some (.int ((farsL ns k).getD (mixF ns k (53 + (0 + (i : Int))) % 4).toNat 0)) := atI_ints (by omega) (by show _ < (4 : Int); omega)
      exact EvD.to (by wtm_at "ev") (by rfl)
    · have h3 : atI [PyData.int (n / 44 % 1001), .int 1000, .int 0] (n / 50 % 3) = some (.int (([n / 44 % 1001, 1000, 0] : List Int).getD (n / 50 % 3).toNat 0)) := atI_ints (ns := [n / 44 % 1001, 1000, 0]) (by omega) (by show _ < (3 : Int); omega)
      exact s_ret (K := K) g10 (EvD.to (by wtm_at "ev") (by rfl)) q
  rw [if_neg (of_decide_eq_false hb)] at q
  refine q_when g8 (b := decide (kd = "bar")) (by wtm_at "evb") (fun hb H9 g9 e9 => ?_) fun hb H9 g9 e9 => ?_
  · rw [if_pos (of_decide_eq_true hb)] at q
    exact s_ret (K := K) g9 (EvD.to (by wtm_at "ev") (by rfl)) q
  rw [if_neg (of_decide_eq_false hb)] at q
  refine q_when g9 (b := decide (kd = "visit")) (by wtm_at "evb") (fun hb H10 g10 e10 => ?_) fun hb H10 g10 e10 => ?_
  · have hb := of_decide_eq_true hb
    rw [if_pos hb] at q
    exact s_ret (K := K) g10 (EvD.to (by wtm_at "ev") (by rw [hb]; rfl)) q
  · rw [if_neg (of_decide_eq_false hb)] at q
    exact s_ret (K := K) g10 (EvD.to (by wtm_at "ev") (by rfl)) q
end


section
variable {P : Program} {w : World} {K : Fg} {mg : Str → Option Value} {base : Heap}
theorem ok_law (g : G K mg) : Dk P w K mg base 14 "law" ["_law_script"] (spR K RLaw) := by
  refine g.f_law.dk sc_law RLaw.len fun f cdv A outer s H E hr => ⟨_, (pss_cons (ps_for PassesOwn.never rfl (pi_range1 (by rfl) g.b_range (pa_cons (bi (jMin rfl (K := K)) g.b_min (pa_cons (pe_op (kAdd (K := K)) (bi (jLen (K := K)) g.b_len (pa_cons (pv 0) pa_nil)) pe_int) (pa_cons pe_int pa_nil))) pa_nil)) (pg_name (i := 1) sc_law.nd rfl (Or.inl rfl))
    (pss_cons (ps_set (i := 2) sc_law.nd rfl (Or.inl rfl) (cl (ok__law_form g) hr (pa_cons (pv 0) (pa_cons (pv 1) pa_nil))))
    (pss_cons (ps_set (i := 3) sc_law.nd rfl (Or.inl rfl) (cl (ok_deed_text g) hr (pa_cons (pv 2) pa_nil)))
    (pss_one (ps_if (PW.pt (pw_or (pt_not (pt_val (bi (jIsi (K := K)) g.b_isinstance (pa_cons (pv 3) (pa_cons (bty (n := "str") g.b_str) pa_nil))))) (pw_or1 (pt_cmpR (kNe (room64 hr) (K := K)) (pv 3) (cl (ok__law_row g) hr (pa_cons (pv 2) pa_nil)) (nomark _)))))
    (pss_one (ps_ret pe_bl))
    pss_nil)))))
    (pss_one (ps_ret pe_bl))), fun vs F0 ds r Q fh ha hR q => ?_⟩
  obtain ⟨ns, hl, rfl, rfl⟩ := hR
  obtain ⟨v, rfl, hS⟩ := dps1 ha
  obtain ⟨a, rfl⟩ : ∃ a, v = V.ref a := by cases hS; exact ⟨_, rfl⟩
  have g0 : Gr F0 H F0 H := Gr.refl fh
  have hlen : (ns.map PyData.int).length = ns.length := List.length_map ..
  have hmn := Int.min_le_right (((ns.map PyData.int).length : Int) + 3) 40
  have hmn2 : 0 ≤ min (((ns.map PyData.int).length : Int) + 3) 40 := by omega
  generalize hmm : min (((ns.map PyData.int).length : Int) + 3) 40 = m at hmn hmn2
  refine q_forR (K := K) g0 (n := m) (by rw [← hmm]; wtm_at "evs") (by omega) (by omega) (fun i σ' F' H' => ∃ y1 y2 y3, σ' = [some (.ref a), y1, y2, y3]) (fun H2 _ _ => ⟨none, none, none, rfl⟩) (fun i σ' F' H' hi g' e' hP => ?_) fun σ' F' H' g' e' hP => ?_
  · obtain ⟨y1, y2, y3, rfl⟩ := hP
    have hS := hS.up e'
    have hk : 0 ≤ (i : Int) ∧ (i : Int) ≤ 500 := by omega
    refine q_set (K := K) g' (by wtm_at "ev") fun v2 F3 H3 g3 s3 h3 => ?_
    have hok := form_ok ns (i : Int)
    generalize formF ns (i : Int) = d at hok h3
    refine q_setV (K := K) g3 (d := .str (deedS d)) (by wtm_at "ev") rfl fun H4 g4 e4 => ?_
    refine s_when g4 (b := false) (EvB.to (by wtm_at "evb") (by simp [isStr])) (fun hb => nomatch hb) fun hb H5 g5 e5 => ?_
    exact ⟨F3, g5, e'.trans s3.fx, _, _, _, rfl⟩
  · obtain ⟨y1, y2, y3, rfl⟩ := hP
    exact s_ret (K := K) g' (by wtm_at "ev") q
end
theorem g_mk {K : Fg} {h : Heap} {mg : Str → Option Value} (X : K.In h) (Gn : h.Ns mainGlobals mg)
    (z_isinstance : PySem.W.nsIn K mainGlobals "isinstance" = some none)
    (z_len : PySem.W.nsIn K mainGlobals "len" = some none)
    (z_max : PySem.W.nsIn K mainGlobals "max" = some none)
    (z_min : PySem.W.nsIn K mainGlobals "min" = some none)
    (z_range : PySem.W.nsIn K mainGlobals "range" = some none)
    (z_str : PySem.W.nsIn K mainGlobals "str" = some none)
    (z_tuple : PySem.W.nsIn K mainGlobals "tuple" = some none)
    {f0 : Addr} {od0 an0 : Option Addr} {sl0 : Array (Option Value)} {oc0 kV0 dc0 pm0 cd0 ct0 : Value} (a0 : PySem.W.nsIn K mainGlobals "rule_text" = some (some (.ref f0))) (l0 : K.lookup f0 = some ⟨oc0, od0, .func (PySem.W.fnOf "rule_text" "rule_text" (defArgs s_rule_text) (defBody s_rule_text) (defScope s_rule_text) .none kV0 dc0 pm0 an0 cd0 ct0), sl0⟩) (cc0 : PySem.W.codeIn K cd0 "rule_text" = true) (k0 : PySem.W.keepIn K (.ref f0) = true)
    {f1 : Addr} {od1 an1 : Option Addr} {sl1 : Array (Option Value)} {oc1 kV1 dc1 pm1 cd1 ct1 : Value} (a1 : PySem.W.nsIn K mainGlobals "list_text" = some (some (.ref f1))) (l1 : K.lookup f1 = some ⟨oc1, od1, .func (PySem.W.fnOf "list_text" "list_text" (defArgs s_list_text) (defBody s_list_text) (defScope s_list_text) .none kV1 dc1 pm1 an1 cd1 ct1), sl1⟩) (cc1 : PySem.W.codeIn K cd1 "list_text" = true) (k1 : PySem.W.keepIn K (.ref f1) = true)
    {f2 : Addr} {od2 an2 : Option Addr} {sl2 : Array (Option Value)} {oc2 kV2 dc2 pm2 cd2 ct2 : Value} (a2 : PySem.W.nsIn K mainGlobals "marks_text" = some (some (.ref f2))) (l2 : K.lookup f2 = some ⟨oc2, od2, .func (PySem.W.fnOf "marks_text" "marks_text" (defArgs s_marks_text) (defBody s_marks_text) (defScope s_marks_text) .none kV2 dc2 pm2 an2 cd2 ct2), sl2⟩) (cc2 : PySem.W.codeIn K cd2 "marks_text" = true) (k2 : PySem.W.keepIn K (.ref f2) = true)
    {f3 : Addr} {od3 an3 : Option Addr} {sl3 : Array (Option Value)} {oc3 kV3 dc3 pm3 cd3 ct3 : Value} (a3 : PySem.W.nsIn K mainGlobals "thing_text" = some (some (.ref f3))) (l3 : K.lookup f3 = some ⟨oc3, od3, .func (PySem.W.fnOf "thing_text" "thing_text" (defArgs s_thing_text) (defBody s_thing_text) (defScope s_thing_text) .none kV3 dc3 pm3 an3 cd3 ct3), sl3⟩) (cc3 : PySem.W.codeIn K cd3 "thing_text" = true) (k3 : PySem.W.keepIn K (.ref f3) = true)
    {f4 : Addr} {od4 an4 : Option Addr} {sl4 : Array (Option Value)} {oc4 kV4 dc4 pm4 cd4 ct4 : Value} (a4 : PySem.W.nsIn K mainGlobals "deed_text" = some (some (.ref f4))) (l4 : K.lookup f4 = some ⟨oc4, od4, .func (PySem.W.fnOf "deed_text" "deed_text" (defArgs s_deed_text) (defBody s_deed_text) (defScope s_deed_text) .none kV4 dc4 pm4 an4 cd4 ct4), sl4⟩) (cc4 : PySem.W.codeIn K cd4 "deed_text" = true) (k4 : PySem.W.keepIn K (.ref f4) = true)
    {f5 : Addr} {od5 an5 : Option Addr} {sl5 : Array (Option Value)} {oc5 kV5 dc5 pm5 cd5 ct5 : Value} (a5 : PySem.W.nsIn K mainGlobals "_law_cell_at" = some (some (.ref f5))) (l5 : K.lookup f5 = some ⟨oc5, od5, .func (PySem.W.fnOf "_law_cell_at" "_law_cell_at" (defArgs s__law_cell_at) (defBody s__law_cell_at) (defScope s__law_cell_at) .none kV5 dc5 pm5 an5 cd5 ct5), sl5⟩) (cc5 : PySem.W.codeIn K cd5 "_law_cell_at" = true) (k5 : PySem.W.keepIn K (.ref f5) = true)
    {f6 : Addr} {od6 an6 : Option Addr} {sl6 : Array (Option Value)} {oc6 kV6 dc6 pm6 cd6 ct6 : Value} (a6 : PySem.W.nsIn K mainGlobals "_law_mixed" = some (some (.ref f6))) (l6 : K.lookup f6 = some ⟨oc6, od6, .func (PySem.W.fnOf "_law_mixed" "_law_mixed" (defArgs s__law_mixed) (defBody s__law_mixed) (defScope s__law_mixed) .none kV6 dc6 pm6 an6 cd6 ct6), sl6⟩) (cc6 : PySem.W.codeIn K cd6 "_law_mixed" = true) (k6 : PySem.W.keepIn K (.ref f6) = true)
    {f7 : Addr} {od7 an7 : Option Addr} {sl7 : Array (Option Value)} {oc7 kV7 dc7 pm7 cd7 ct7 : Value} (a7 : PySem.W.nsIn K mainGlobals "_law_word" = some (some (.ref f7))) (l7 : K.lookup f7 = some ⟨oc7, od7, .func (PySem.W.fnOf "_law_word" "_law_word" (defArgs s__law_word) (defBody s__law_word) (defScope s__law_word) .none kV7 dc7 pm7 an7 cd7 ct7), sl7⟩) (cc7 : PySem.W.codeIn K cd7 "_law_word" = true) (k7 : PySem.W.keepIn K (.ref f7) = true)
    {f8 : Addr} {od8 an8 : Option Addr} {sl8 : Array (Option Value)} {oc8 kV8 dc8 pm8 cd8 ct8 : Value} (a8 : PySem.W.nsIn K mainGlobals "_law_number" = some (some (.ref f8))) (l8 : K.lookup f8 = some ⟨oc8, od8, .func (PySem.W.fnOf "_law_number" "_law_number" (defArgs s__law_number) (defBody s__law_number) (defScope s__law_number) .none kV8 dc8 pm8 an8 cd8 ct8), sl8⟩) (cc8 : PySem.W.codeIn K cd8 "_law_number" = true) (k8 : PySem.W.keepIn K (.ref f8) = true)
    {f9 : Addr} {od9 an9 : Option Addr} {sl9 : Array (Option Value)} {oc9 kV9 dc9 pm9 cd9 ct9 : Value} (a9 : PySem.W.nsIn K mainGlobals "_law_leaf" = some (some (.ref f9))) (l9 : K.lookup f9 = some ⟨oc9, od9, .func (PySem.W.fnOf "_law_leaf" "_law_leaf" (defArgs s__law_leaf) (defBody s__law_leaf) (defScope s__law_leaf) .none kV9 dc9 pm9 an9 cd9 ct9), sl9⟩) (cc9 : PySem.W.codeIn K cd9 "_law_leaf" = true) (k9 : PySem.W.keepIn K (.ref f9) = true)
    {f10 : Addr} {od10 an10 : Option Addr} {sl10 : Array (Option Value)} {oc10 kV10 dc10 pm10 cd10 ct10 : Value} (a10 : PySem.W.nsIn K mainGlobals "_law_rule" = some (some (.ref f10))) (l10 : K.lookup f10 = some ⟨oc10, od10, .func (PySem.W.fnOf "_law_rule" "_law_rule" (defArgs s__law_rule) (defBody s__law_rule) (defScope s__law_rule) .none kV10 dc10 pm10 an10 cd10 ct10), sl10⟩) (cc10 : PySem.W.codeIn K cd10 "_law_rule" = true) (k10 : PySem.W.keepIn K (.ref f10) = true)
    {f11 : Addr} {od11 an11 : Option Addr} {sl11 : Array (Option Value)} {oc11 kV11 dc11 pm11 cd11 ct11 : Value} (a11 : PySem.W.nsIn K mainGlobals "_law_words" = some (some (.ref f11))) (l11 : K.lookup f11 = some ⟨oc11, od11, .func (PySem.W.fnOf "_law_words" "_law_words" (defArgs s__law_words) (defBody s__law_words) (defScope s__law_words) .none kV11 dc11 pm11 an11 cd11 ct11), sl11⟩) (cc11 : PySem.W.codeIn K cd11 "_law_words" = true) (k11 : PySem.W.keepIn K (.ref f11) = true)
    {f12 : Addr} {od12 an12 : Option Addr} {sl12 : Array (Option Value)} {oc12 kV12 dc12 pm12 cd12 ct12 : Value} (a12 : PySem.W.nsIn K mainGlobals "_law_name" = some (some (.ref f12))) (l12 : K.lookup f12 = some ⟨oc12, od12, .func (PySem.W.fnOf "_law_name" "_law_name" (defArgs s__law_name) (defBody s__law_name) (defScope s__law_name) .none kV12 dc12 pm12 an12 cd12 ct12), sl12⟩) (cc12 : PySem.W.codeIn K cd12 "_law_name" = true) (k12 : PySem.W.keepIn K (.ref f12) = true)
    {f13 : Addr} {od13 an13 : Option Addr} {sl13 : Array (Option Value)} {oc13 kV13 dc13 pm13 cd13 ct13 : Value} (a13 : PySem.W.nsIn K mainGlobals "_law_guest" = some (some (.ref f13))) (l13 : K.lookup f13 = some ⟨oc13, od13, .func (PySem.W.fnOf "_law_guest" "_law_guest" (defArgs s__law_guest) (defBody s__law_guest) (defScope s__law_guest) .none kV13 dc13 pm13 an13 cd13 ct13), sl13⟩) (cc13 : PySem.W.codeIn K cd13 "_law_guest" = true) (k13 : PySem.W.keepIn K (.ref f13) = true)
    {f14 : Addr} {od14 an14 : Option Addr} {sl14 : Array (Option Value)} {oc14 kV14 dc14 pm14 cd14 ct14 : Value} (a14 : PySem.W.nsIn K mainGlobals "_law_names" = some (some (.ref f14))) (l14 : K.lookup f14 = some ⟨oc14, od14, .func (PySem.W.fnOf "_law_names" "_law_names" (defArgs s__law_names) (defBody s__law_names) (defScope s__law_names) .none kV14 dc14 pm14 an14 cd14 ct14), sl14⟩) (cc14 : PySem.W.codeIn K cd14 "_law_names" = true) (k14 : PySem.W.keepIn K (.ref f14) = true)
    {f15 : Addr} {od15 an15 : Option Addr} {sl15 : Array (Option Value)} {oc15 kV15 dc15 pm15 cd15 ct15 : Value} (a15 : PySem.W.nsIn K mainGlobals "_law_long" = some (some (.ref f15))) (l15 : K.lookup f15 = some ⟨oc15, od15, .func (PySem.W.fnOf "_law_long" "_law_long" (defArgs s__law_long) (defBody s__law_long) (defScope s__law_long) .none kV15 dc15 pm15 an15 cd15 ct15), sl15⟩) (cc15 : PySem.W.codeIn K cd15 "_law_long" = true) (k15 : PySem.W.keepIn K (.ref f15) = true)
    {f16 : Addr} {od16 an16 : Option Addr} {sl16 : Array (Option Value)} {oc16 kV16 dc16 pm16 cd16 ct16 : Value} (a16 : PySem.W.nsIn K mainGlobals "_law_many_marks" = some (some (.ref f16))) (l16 : K.lookup f16 = some ⟨oc16, od16, .func (PySem.W.fnOf "_law_many_marks" "_law_many_marks" (defArgs s__law_many_marks) (defBody s__law_many_marks) (defScope s__law_many_marks) .none kV16 dc16 pm16 an16 cd16 ct16), sl16⟩) (cc16 : PySem.W.codeIn K cd16 "_law_many_marks" = true) (k16 : PySem.W.keepIn K (.ref f16) = true)
    {f17 : Addr} {od17 an17 : Option Addr} {sl17 : Array (Option Value)} {oc17 kV17 dc17 pm17 cd17 ct17 : Value} (a17 : PySem.W.nsIn K mainGlobals "_law_form" = some (some (.ref f17))) (l17 : K.lookup f17 = some ⟨oc17, od17, .func (PySem.W.fnOf "_law_form" "_law_form" (defArgs s__law_form) (defBody s__law_form) (defScope s__law_form) .none kV17 dc17 pm17 an17 cd17 ct17), sl17⟩) (cc17 : PySem.W.codeIn K cd17 "_law_form" = true) (k17 : PySem.W.keepIn K (.ref f17) = true)
    {f18 : Addr} {od18 an18 : Option Addr} {sl18 : Array (Option Value)} {oc18 kV18 dc18 pm18 cd18 ct18 : Value} (a18 : PySem.W.nsIn K mainGlobals "_law_rule_row" = some (some (.ref f18))) (l18 : K.lookup f18 = some ⟨oc18, od18, .func (PySem.W.fnOf "_law_rule_row" "_law_rule_row" (defArgs s__law_rule_row) (defBody s__law_rule_row) (defScope s__law_rule_row) .none kV18 dc18 pm18 an18 cd18 ct18), sl18⟩) (cc18 : PySem.W.codeIn K cd18 "_law_rule_row" = true) (k18 : PySem.W.keepIn K (.ref f18) = true)
    {f19 : Addr} {od19 an19 : Option Addr} {sl19 : Array (Option Value)} {oc19 kV19 dc19 pm19 cd19 ct19 : Value} (a19 : PySem.W.nsIn K mainGlobals "_law_listed" = some (some (.ref f19))) (l19 : K.lookup f19 = some ⟨oc19, od19, .func (PySem.W.fnOf "_law_listed" "_law_listed" (defArgs s__law_listed) (defBody s__law_listed) (defScope s__law_listed) .none kV19 dc19 pm19 an19 cd19 ct19), sl19⟩) (cc19 : PySem.W.codeIn K cd19 "_law_listed" = true) (k19 : PySem.W.keepIn K (.ref f19) = true)
    {f20 : Addr} {od20 an20 : Option Addr} {sl20 : Array (Option Value)} {oc20 kV20 dc20 pm20 cd20 ct20 : Value} (a20 : PySem.W.nsIn K mainGlobals "_law_row" = some (some (.ref f20))) (l20 : K.lookup f20 = some ⟨oc20, od20, .func (PySem.W.fnOf "_law_row" "_law_row" (defArgs s__law_row) (defBody s__law_row) (defScope s__law_row) .none kV20 dc20 pm20 an20 cd20 ct20), sl20⟩) (cc20 : PySem.W.codeIn K cd20 "_law_row" = true) (k20 : PySem.W.keepIn K (.ref f20) = true)
    {f21 : Addr} {od21 an21 : Option Addr} {sl21 : Array (Option Value)} {oc21 kV21 dc21 pm21 cd21 ct21 : Value} (a21 : PySem.W.nsIn K mainGlobals "law" = some (some (.ref f21))) (l21 : K.lookup f21 = some ⟨oc21, od21, .func (PySem.W.fnOf "law" "law" (defArgs s_law) (defBody s_law) (defScope s_law) .none kV21 dc21 pm21 an21 cd21 ct21), sl21⟩) (cc21 : PySem.W.codeIn K cd21 "law" = true) (k21 : PySem.W.keepIn K (.ref f21) = true) : G K mg where
  b_isinstance := PySem.W.mg_none_of X Gn z_isinstance
  b_len := PySem.W.mg_none_of X Gn z_len
  b_max := PySem.W.mg_none_of X Gn z_max
  b_min := PySem.W.mg_none_of X Gn z_min
  b_range := PySem.W.mg_none_of X Gn z_range
  b_str := PySem.W.mg_none_of X Gn z_str
  b_tuple := PySem.W.mg_none_of X Gn z_tuple
  f_rule_text := ⟨f0, _, fun_mk (st := s_rule_text) l0 cc0 k0, PySem.W.mg_of X Gn a0, fun us hl => match us, hl with | [_], _ => rfl⟩
  f_list_text := ⟨f1, _, fun_mk (st := s_list_text) l1 cc1 k1, PySem.W.mg_of X Gn a1, fun us hl => match us, hl with | [_], _ => rfl⟩
  f_marks_text := ⟨f2, _, fun_mk (st := s_marks_text) l2 cc2 k2, PySem.W.mg_of X Gn a2, fun us hl => match us, hl with | [_], _ => rfl⟩
  f_thing_text := ⟨f3, _, fun_mk (st := s_thing_text) l3 cc3 k3, PySem.W.mg_of X Gn a3, fun us hl => match us, hl with | [_], _ => rfl⟩
  f_deed_text := ⟨f4, _, fun_mk (st := s_deed_text) l4 cc4 k4, PySem.W.mg_of X Gn a4, fun us hl => match us, hl with | [_], _ => rfl⟩
  f__law_cell_at := ⟨f5, _, fun_mk (st := s__law_cell_at) l5 cc5 k5, PySem.W.mg_of X Gn a5, fun us hl => match us, hl with | [_, _], _ => rfl⟩
  f__law_mixed := ⟨f6, _, fun_mk (st := s__law_mixed) l6 cc6 k6, PySem.W.mg_of X Gn a6, fun us hl => match us, hl with | [_, _, _], _ => rfl⟩
  f__law_word := ⟨f7, _, fun_mk (st := s__law_word) l7 cc7 k7, PySem.W.mg_of X Gn a7, fun us hl => match us, hl with | [_], _ => rfl⟩
  f__law_number := ⟨f8, _, fun_mk (st := s__law_number) l8 cc8 k8, PySem.W.mg_of X Gn a8, fun us hl => match us, hl with | [_, _, _], _ => rfl⟩
  f__law_leaf := ⟨f9, _, fun_mk (st := s__law_leaf) l9 cc9 k9, PySem.W.mg_of X Gn a9, fun us hl => match us, hl with | [_, _, _], _ => rfl⟩
  f__law_rule := ⟨f10, _, fun_mk (st := s__law_rule) l10 cc10 k10, PySem.W.mg_of X Gn a10, fun us hl => match us, hl with | [_, _, _, _], _ => rfl⟩
  f__law_words := ⟨f11, _, fun_mk (st := s__law_words) l11 cc11 k11, PySem.W.mg_of X Gn a11, fun us hl => match us, hl with | [_], _ => rfl⟩
  f__law_name := ⟨f12, _, fun_mk (st := s__law_name) l12 cc12 k12, PySem.W.mg_of X Gn a12, fun us hl => match us, hl with | [_], _ => rfl⟩
  f__law_guest := ⟨f13, _, fun_mk (st := s__law_guest) l13 cc13 k13, PySem.W.mg_of X Gn a13, fun us hl => match us, hl with | [_], _ => rfl⟩
  f__law_names := ⟨f14, _, fun_mk (st := s__law_names) l14 cc14 k14, PySem.W.mg_of X Gn a14, fun us hl => match us, hl with | [_, _, _, _], _ => rfl⟩
  f__law_long := ⟨f15, _, fun_mk (st := s__law_long) l15 cc15 k15, PySem.W.mg_of X Gn a15, fun us hl => match us, hl with | [_, _, _], _ => rfl⟩
  f__law_many_marks := ⟨f16, _, fun_mk (st := s__law_many_marks) l16 cc16 k16, PySem.W.mg_of X Gn a16, fun us hl => match us, hl with | [_, _], _ => rfl⟩
  f__law_form := ⟨f17, _, fun_mk (st := s__law_form) l17 cc17 k17, PySem.W.mg_of X Gn a17, fun us hl => match us, hl with | [_, _], _ => rfl⟩
  f__law_rule_row := ⟨f18, _, fun_mk (st := s__law_rule_row) l18 cc18 k18, PySem.W.mg_of X Gn a18, fun us hl => match us, hl with | [_], _ => rfl⟩
  f__law_listed := ⟨f19, _, fun_mk (st := s__law_listed) l19 cc19 k19, PySem.W.mg_of X Gn a19, fun us hl => match us, hl with | [_], _ => rfl⟩
  f__law_row := ⟨f20, _, fun_mk (st := s__law_row) l20 cc20 k20, PySem.W.mg_of X Gn a20, fun us hl => match us, hl with | [_], _ => rfl⟩
  f_law := ⟨f21, _, fun_mk (st := s_law) l21 cc21 k21, PySem.W.mg_of X Gn a21, fun us hl => match us, hl with | [_], _ => rfl⟩
end My
open PySem PySem.W PyProof.Rows
set_option maxRecDepth 100000 in
set_option maxHeartbeats 0 in
theorem PySem.Challenge.cw_layersplit_k34_deeds_written_holds : PySem.Challenge.rw_layersplit_k34_deeds_written.Holds := by
  w_on; o_law; k_head; (case hw => w_witness2)
  k_fill
  refine L2.walk_of (l := PySem.Challenge.rw_layersplit_k34_deeds_written) (n := 63) (k := 14) (x := "_law_script") (CX := fun _ => L2.CX0) (sp := fun w => Ly.spR _ Ly.RLaw) rfl (by decide) rfl ⟨rfl, by decide, by decide⟩ (fun w h Y => PySem.W.kIn_of Y) ?F (fun w H a ns hl _ hS => Ly.law_start hl hS) (fun _ _ _ _ _ h => h)
  case F =>
    intro w mg fa h KX Gn hmg
    refine' (fun g => Ly.Df.fin (My.G.f_law g) hmg (fun base _ _ => My.ok_law g)) (My.g_mk KX Gn ?z_isinstance ?z_len ?z_max ?z_min ?z_range ?z_str ?z_tuple ?a0 ?l0 ?cc0 ?k0 ?a1 ?l1 ?cc1 ?k1 ?a2 ?l2 ?cc2 ?k2 ?a3 ?l3 ?cc3 ?k3 ?a4 ?l4 ?cc4 ?k4 ?a5 ?l5 ?cc5 ?k5 ?a6 ?l6 ?cc6 ?k6 ?a7 ?l7 ?cc7 ?k7 ?a8 ?l8 ?cc8 ?k8 ?a9 ?l9 ?cc9 ?k9 ?a10 ?l10 ?cc10 ?k10 ?a11 ?l11 ?cc11 ?k11 ?a12 ?l12 ?cc12 ?k12 ?a13 ?l13 ?cc13 ?k13 ?a14 ?l14 ?cc14 ?k14 ?a15 ?l15 ?cc15 ?k15 ?a16 ?l16 ?cc16 ?k16 ?a17 ?l17 ?cc17 ?k17 ?a18 ?l18 ?cc18 ?k18 ?a19 ?l19 ?cc19 ?k19 ?a20 ?l20 ?cc20 ?k20 ?a21 ?l21 ?cc21 ?k21)
    (case z_isinstance => k_is)
    (case z_len => k_is)
    (case z_max => k_is)
    (case z_min => k_is)
    (case z_range => k_is)
    (case z_str => k_is)
    (case z_tuple => k_is)
    (case a0 => k_is)
    (case l0 => k_is)
    (case cc0 => k_is)
    (case k0 => k_is)
    (case a1 => k_is)
    (case l1 => k_is)
    (case cc1 => k_is)
    (case k1 => k_is)
    (case a2 => k_is)
    (case l2 => k_is)
    (case cc2 => k_is)
    (case k2 => k_is)
    (case a3 => k_is)
    (case l3 => k_is)
    (case cc3 => k_is)
    (case k3 => k_is)
    (case a4 => k_is)
    (case l4 => k_is)
    (case cc4 => k_is)
    (case k4 => k_is)
    (case a5 => k_is)
    (case l5 => k_is)
    (case cc5 => k_is)
    (case k5 => k_is)
    (case a6 => k_is)
    (case l6 => k_is)
    (case cc6 => k_is)
    (case k6 => k_is)
    (case a7 => k_is)
    (case l7 => k_is)
    (case cc7 => k_is)
    (case k7 => k_is)
    (case a8 => k_is)
    (case l8 => k_is)
    (case cc8 => k_is)
    (case k8 => k_is)
    (case a9 => k_is)
    (case l9 => k_is)
    (case cc9 => k_is)
    (case k9 => k_is)
    (case a10 => k_is)
    (case l10 => k_is)
    (case cc10 => k_is)
    (case k10 => k_is)
    (case a11 => k_is)
    (case l11 => k_is)
    (case cc11 => k_is)
    (case k11 => k_is)
    (case a12 => k_is)
    (case l12 => k_is)
    (case cc12 => k_is)
    (case k12 => k_is)
    (case a13 => k_is)
    (case l13 => k_is)
    (case cc13 => k_is)
    (case k13 => k_is)
    (case a14 => k_is)
    (case l14 => k_is)
    (case cc14 => k_is)
    (case k14 => k_is)
    (case a15 => k_is)
    (case l15 => k_is)
    (case cc15 => k_is)
    (case k15 => k_is)
    (case a16 => k_is)
    (case l16 => k_is)
    (case cc16 => k_is)
    (case k16 => k_is)
    (case a17 => k_is)
    (case l17 => k_is)
    (case cc17 => k_is)
    (case k17 => k_is)
    (case a18 => k_is)
    (case l18 => k_is)
    (case cc18 => k_is)
    (case k18 => k_is)
    (case a19 => k_is)
    (case l19 => k_is)
    (case cc19 => k_is)
    (case k19 => k_is)
    (case a20 => k_is)
    (case l20 => k_is)
    (case cc20 => k_is)
    (case k20 => k_is)
    (case a21 => k_is)
    (case l21 => k_is)
    (case cc21 => k_is)
    (case k21 => k_is)
