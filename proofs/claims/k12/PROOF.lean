import PyProof.Rows.All
import Wide.All
import OpenK.AllK
import Wide.FinOn
import HandS.ForMost
import HandS.Evl
import HandS.Wide
import HandS.WideBits
import HandS.Deep
import HandS.TupAny
import HandS.TupLe
import HandS.IsInst
import HandS.Replace
import KE.KTupSum
import HandS.Codes
import HandS.RaiseMore
import HandS.SetKeys
import HandS.Strs
import HandS.NoneIn
import PyProof.DictMoreH
import PyProof.EqKinds
import PyProof.Rows.TupTab
import KE.KeyNested
import HandS.ExcCtx
import HandS.Exc
import HandS.TryOnly
import HandS.TryMany
import HandS.ExcOwn
import HandS.WordsExc
import HandS.DictTup
import HandS.Zip
import HandS.More
import KE.SortData
import KE.GoesMore
import KE.GoesZip
import HandS.ExcIs
import HandS.Text
import HandS.HotCalls
import HandS.Dict
import PySem.Challenge.RW_layersplit_k12_places_stay_while_growing
set_option Elab.async false
set_option linter.all false
set_option maxRecDepth 100000
set_option maxHeartbeats 4000000
/-! LyA: judgements over data: a frozen part F of the heap H carries all data; what is owned stands in H alone. -/
namespace Ly
open PySem L2 Evl

theorem no_of {p : Prop} [Decidable p] (h : (!decide p) = true) : ¬ p := fun z => by rw [decide_eq_true z] at h; cases h
theorem yes_of {p : Prop} [Decidable p] (h : (!decide p) = false) : p := by
  by_cases z : p
  · exact z
  · rw [decide_eq_false z] at h; cases h
abbrev D := PySem.PyData
abbrev Fg := PySem.W.Frag

/-! ### growth -/
structure Gr (F H F2 H2 : Hp) : Prop where
  fx : Ex F F2
  hx : Ex H H2
  fh : Ex F2 H2
  old : ∀ p, H p ≠ none → F2 p = F p
section
variable {F H F1 H1 F2 H2 F3 H3 : Hp} {p l : Addr} {o : HO} {K : Fg}
theorem Gr.refl (h : Ex F H) : Gr F H F H := ⟨Ex.refl F, Ex.refl H, h, fun _ _ => rfl⟩
theorem ex_nn (e : Ex H H2) (h : H p ≠ none) : H2 p ≠ none := by
  cases q : H p with
  | none => exact absurd q h
  | some o => rw [e p o q]; exact fun z => nomatch z
theorem Gr.trans (a : Gr F H F2 H2) (b : Gr F2 H2 F3 H3) : Gr F H F3 H3 :=
  ⟨a.fx.trans b.fx, a.hx.trans b.hx, b.fh, fun p h => (b.old p (ex_nn a.hx h)).trans (a.old p h)⟩
theorem Gr.grow (a : Gr F H F2 H2) (e : Ex H2 H3) : Gr F H F2 H3 := ⟨a.fx, a.hx.trans e, a.fh.trans e, a.old⟩
theorem Gr.new (fh : Ex F H) (hp : H p = none) : Gr F H (upd F p o) (upd H p o) := by
  have fp : F p = none := fresh_back fh hp
  refine ⟨Ex.new fp, Ex.new hp, fun b u h => ?_, fun b hb => ?_⟩
  · by_cases e : b = p
    · subst e; rw [upd_same] at h ⊢; exact h
    · rw [upd_ne e] at h ⊢; exact fh b u h
  · have e : b ≠ p := fun z => hb (by rw [z]; exact hp)
    rw [upd_ne e]
/-- a thing is made that stays one's own -/
theorem Gr.own (fh : Ex F H) (hp : H p = none) : Gr F H F (upd H p o) := ⟨Ex.refl F, Ex.new hp, fh.trans (Ex.new hp), fun _ _ => rfl⟩
/-- what is one's own changes -/
theorem Gr.mut (g : Gr F H F2 H2) (h0 : H l = none) (hf : F2 l = none) : Gr F H F2 (upd H2 l o) := by
  refine ⟨g.fx, fun b u h => ?_, fun b u h => ?_, g.old⟩
  · rw [upd_ne (ne_of_none h h0)]; exact g.hx b u h
  · rw [upd_ne (ne_of_none h hf)]; exact g.fh b u h
/-- what is one's own is handed out -/
theorem Gr.give (g : Gr F H F2 H2) (h0 : H l = none) (hl : H2 l = some o) (hf : F2 l = none) : Gr F H (upd F2 l o) H2 := by
  refine ⟨g.fx.trans (Ex.new hf), g.hx, fun b u h => ?_, fun b hb => ?_⟩
  · by_cases e : b = l
    · subst e; rw [upd_same] at h; cases h; exact hl
    · rw [upd_ne e] at h; exact g.fh b u h
  · have e : b ≠ l := fun z => hb (by rw [z]; exact h0)
    rw [upd_ne e]; exact g.old b hb
theorem Gr.non (g : Gr F H F2 H2) (h : H l ≠ none) (hf : F l = none) : F2 l = none := (g.old l h).trans hf
theorem Gr.back (g : Gr F H F2 H2) (h : H2 l = none) : H l = none := fresh_back g.hx h

/-! ### data -/
mutual
theorem dp_mono (e : Ex F F2) : ∀ (d : D) (v : V), Dp K F v d → Dp K F2 v d
  | .none, _, h => by cases h; exact .non
  | .bool b, _, h => by cases h; exact .bl b
  | .int i, _, h => by cases h; exact .int i
  | .str x, _, h => by cases h; exact .str x
  | .list ds, _, h => by
    cases h with
    | lst hs ha => exact .lst (ex_l e hs) (dps_mono e ds _ ha)
  | .tuple ds, _, h => by
    cases h with
    | tup hs ha => exact .tup (ex_t e hs) (dps_mono e ds _ ha)
  | .dict _, _, h => by cases h
theorem dps_mono (e : Ex F F2) : ∀ (ds : List D) (vs : List V), DpAll K F vs ds → DpAll K F2 vs ds
  | [], _, h => by cases h; exact .nil
  | d :: ds, _, h => by
    cases h with
    | cons h1 h2 => exact .cons (dp_mono e d _ h1) (dps_mono e ds _ h2)
end
end
end Ly
namespace L2
open PySem Ly Evl
section
variable {K : PySem.W.Frag} {F F2 : Hp} {v : V} {vs : List V} {d : PyData} {ds es : List PyData}
theorem Dp.up (h : Dp K F v d) (e : Ex F F2) : Dp K F2 v d := dp_mono e d v h
theorem DpAll.up (h : DpAll K F vs ds) (e : Ex F F2) : DpAll K F2 vs ds := dps_mono e ds vs h
theorem DpAll.length : ∀ {vs : List V} {ds : List PyData}, DpAll K F vs ds → vs.length = ds.length
  | _, [], h => by cases h; rfl
  | _, d :: ds, h => by
    cases h with
    | cons _ h2 => rw [List.length_cons, List.length_cons, DpAll.length h2]
theorem DpAll.get : ∀ {vs : List V} {ds : List PyData} {i : Nat} {d : PyData}, DpAll K F vs ds → ds[i]? = some d → ∃ v, vs[i]? = some v ∧ Dp K F v d
  | _, [], i, d, h, e => by simp at e
  | _, x :: ds, 0, d, h, e => by
    cases h with
    | cons h1 h2 =>
      have q : x = d := Option.some.inj e
      subst q
      exact ⟨_, rfl, h1⟩
  | _, x :: ds, i + 1, d, h, e => by
    cases h with
    | cons h1 h2 =>
      obtain ⟨v, e1, r⟩ := DpAll.get (i := i) (d := d) h2 (by simpa using e)
      exact ⟨v, by simpa using e1, r⟩
theorem DpAll.getV : ∀ {vs : List V} {ds : List PyData} {i : Nat} {v : V}, DpAll K F vs ds → vs[i]? = some v → ∃ d, ds[i]? = some d ∧ Dp K F v d
  | _, [], i, v, h, e => by cases h; simp at e
  | _, x :: ds, 0, v, h, e => by
    cases h with
    | cons h1 h2 =>
      have q := Option.some.inj e
      subst q
      exact ⟨_, rfl, h1⟩
  | _, x :: ds, i + 1, v, h, e => by
    cases h with
    | cons h1 h2 =>
      obtain ⟨d, e1, r⟩ := DpAll.getV (i := i) (v := v) h2 (by simpa using e)
      exact ⟨d, by simpa using e1, r⟩
theorem DpAll.append : ∀ {vs ws : List V} {ds es : List PyData}, DpAll K F vs ds → DpAll K F ws es → DpAll K F (vs ++ ws) (ds ++ es)
  | _, _, [], _, h, k => by cases h; exact k
  | _, _, d :: ds, _, h, k => by
    cases h with
    | cons h1 h2 => exact .cons h1 (DpAll.append h2 k)
theorem DpAll.take : ∀ {vs : List V} {ds : List PyData} (n : Nat), DpAll K F vs ds → DpAll K F (vs.take n) (ds.take n)
  | _, _, 0, _ => .nil
  | _, [], _ + 1, h => by cases h; exact .nil
  | _, d :: ds, n + 1, h => by
    cases h with
    | cons h1 h2 => exact .cons h1 (DpAll.take n h2)
theorem DpAll.drop : ∀ {vs : List V} {ds : List PyData} (n : Nat), DpAll K F vs ds → DpAll K F (vs.drop n) (ds.drop n)
  | _, _, 0, h => h
  | _, [], _ + 1, h => by cases h; exact .nil
  | _, d :: ds, n + 1, h => by
    cases h with
    | cons h1 h2 => exact DpAll.drop n h2
theorem dps_ints : ∀ (ns : List Int), DpAll K F (ns.map V.int) (ns.map PyData.int)
  | [] => .nil
  | n :: ns => .cons (.int n) (dps_ints ns)
theorem dps_strs : ∀ (ns : List Str), DpAll K F (ns.map V.str) (ns.map PyData.str)
  | [] => .nil
  | n :: ns => .cons (.str n) (dps_strs ns)
theorem dps_bools : ∀ (ns : List Bool), DpAll K F (ns.map V.bl) (ns.map PyData.bool)
  | [] => .nil
  | n :: ns => .cons (.bl n) (dps_bools ns)
theorem dps_ints_inv : ∀ (ns : List Int) {vs : List V}, DpAll K F vs (ns.map PyData.int) → vs = ns.map V.int
  | [], _, h => by cases h; rfl
  | n :: ns, _, h => by
    cases h with
    | cons h1 h2 =>
      cases h1
      rw [dps_ints_inv ns h2]
      rfl
theorem dps_bools_inv : ∀ (ns : List Bool) {vs : List V}, DpAll K F vs (ns.map PyData.bool) → vs = ns.map V.bl
  | [], _, h => by cases h; rfl
  | n :: ns, _, h => by
    cases h with
    | cons h1 h2 =>
      cases h1
      rw [dps_bools_inv ns h2]
      rfl
theorem dps_strs_inv : ∀ (ns : List Str) {vs : List V}, DpAll K F vs (ns.map PyData.str) → vs = ns.map V.str
  | [], _, h => by cases h; rfl
  | n :: ns, _, h => by
    cases h with
    | cons h1 h2 =>
      cases h1
      rw [dps_strs_inv ns h2]
      rfl
theorem dp_ints {a : Addr} {ns : List Int} (h : SqL K F a (ns.map V.int)) : Dp K F (.ref a) (.list (ns.map PyData.int)) := .lst h (dps_ints ns)
end
end L2
namespace Ly
open PySem L2 Evl
/-- a value that is its own datum -/
def scV : D → Option V
  | .none => some .non
  | .bool b => some (.bl b)
  | .int i => some (.int i)
  | .str x => some (.str x)
  | _ => none
theorem scV_inv {K : Fg} {F : Hp} {v w : V} {d : D} (e : scV d = some v) (h : Dp K F w d) : w = v := by
  cases h <;> (unfold scV at e; first | (cases e; rfl) | cases e)
theorem scV_dp {K : Fg} {F : Hp} {v : V} {d : D} (e : scV d = some v) : Dp K F v d := by
  cases d <;> (unfold scV at e; first | (cases e; constructor; done) | cases e)

/-! ### readings over data -/
/-- what is handed back: a value that bears the datum -/
def Ans (K : Fg) (F H : Hp) (r : D) (Q : VK) : Prop := ∀ v F2 H2, Gr F H F2 H2 → Dp K F2 v r → Q v H2
def rD2 (K : Fg) (R : D → D → D → Prop) : R2 := fun x y H Q => ∃ F d e r, Ex F H ∧ Dp K F x d ∧ Dp K F y e ∧ R d e r ∧ Ans K F H r Q
def rD1 (K : Fg) (R : D → D → Prop) : V → Hp → VK → Prop := fun x H Q => ∃ F d r, Ex F H ∧ Dp K F x d ∧ R d r ∧ Ans K F H r Q
def rDn (K : Fg) (R : List D → D → Prop) : List V → Hp → VK → Prop := fun vs H Q => ∃ F ds r, Ex F H ∧ DpAll K F vs ds ∧ R ds r ∧ Ans K F H r Q
def rDm (K : Fg) (R : D → List D → D → Prop) : V → List V → Hp → VK → Prop := fun x vs H Q => ∃ F d ds r, Ex F H ∧ Dp K F x d ∧ DpAll K F vs ds ∧ R d ds r ∧ Ans K F H r Q
def rDs (K : Fg) (R : D → Option Int → Option Int → D → Prop) : V → Option Int → Option Int → Hp → VK → Prop := fun x lo hi H Q => ∃ F d r, Ex F H ∧ Dp K F x d ∧ R d lo hi r ∧ Ans K F H r Q
/-- the promise of a def that is a relation of data -/
def spR (K : Fg) (R : List D → D → Prop) : Sp := fun vs H Q _ => rDn K R vs H Q
theorem spR_len {K : Fg} {R : List D → D → Prop} {n : Nat} (h : ∀ ds r, R ds r → ds.length = n) : ∀ vs H Q E, spR K R vs H Q E → vs.length = n := fun vs H Q E ⟨F, ds, r, _, ha, hr, _⟩ => by
  rw [ha.length]; exact h ds r hr

/-! ### what evaluates to what -/
def EvD (K : Fg) (te : TE) (σ : L2.St) (F H : Hp) (d : D) : Prop := ∀ F1 H1, Ex F F1 → Ex H H1 → Ex F1 H1 → ∀ Q : VK, (∀ v F2 H2, Gr F1 H1 F2 H2 → Dp K F2 v d → Q v H2) → te σ H1 Q
def EvDs (K : Fg) (ta : TA) (σ : L2.St) (F H : Hp) (ds : List D) : Prop := ∀ F1 H1, Ex F F1 → Ex H H1 → Ex F1 H1 → ∀ Q : List V → Hp → Prop, (∀ vs F2 H2, Gr F1 H1 F2 H2 → DpAll K F2 vs ds → Q vs H2) → ta σ H1 Q
def EvB (t : TT) (σ : L2.St) (F H : Hp) (b : Bool) : Prop := ∀ F1 H1, Ex F F1 → Ex H H1 → Ex F1 H1 → ∀ Q : Bool → Hp → Prop, (∀ H2, Ex H1 H2 → Q b H2) → t σ H1 Q
def EvI (K : Fg) (to : TO) (σ : L2.St) (F H : Hp) (o : Option Int) : Prop := ∀ F1 H1, Ex F F1 → Ex H H1 → Ex F1 H1 → ∀ Q : Option Int → Hp → Prop, (∀ H2, Ex H1 H2 → Q o H2) → to σ H1 Q

section
variable {K : Fg} {σ : L2.St} {F H F' H' : Hp} {ta tb te tx : TE} {t u : TT} {x y z v : V} {d e r : D} {b : Bool}
theorem EvD.up (h : EvD K te σ F H d) (a : Ex F F') (c : Ex H H') : EvD K te σ F' H' d := fun F1 H1 e1 e2 => h F1 H1 (a.trans e1) (c.trans e2)
theorem EvB.up (h : EvB t σ F H b) (a : Ex F F') (c : Ex H H') : EvB t σ F' H' b := fun F1 H1 e1 e2 => h F1 H1 (a.trans e1) (c.trans e2)
theorem EvD.to (h : EvD K te σ F H d) (q : d = e) : EvD K te σ F H e := q ▸ h
theorem EvB.to {c : Bool} (h : EvB t σ F H b) (q : b = c) : EvB t σ F H c := q ▸ h
theorem EvDs.to {ds es : List D} {ta : TA} (h : EvDs K ta σ F H ds) (q : ds = es) : EvDs K ta σ F H es := q ▸ h
/-- told with what stands beside -/
theorem EvD.own (h : EvD K te σ F' H d) (hs : scV d = some v) (h1 : ∀ F1 H1, Ex F F1 → Ex H H1 → Ex F1 H1 → ∃ F2, Ex F' F2 ∧ Ex F2 H1) : EvD K te σ F H d := fun F1 H1 e1 e2 e3 Q q => by
  obtain ⟨F2, a, c⟩ := h1 F1 H1 e1 e2 e3
  refine h F2 H1 a e2 c Q fun w F3 H3 g hw => ?_
  have ew := scV_inv hs hw
  subst ew
  exact q _ F1 H3 ⟨Ex.refl _, g.hx, e3.trans g.hx, fun _ _ => rfl⟩ (scV_dp hs)
theorem EvB.own (h : EvB t σ F' H b) (h1 : ∀ F1 H1, Ex F F1 → Ex H H1 → Ex F1 H1 → ∃ F2, Ex F' F2 ∧ Ex F2 H1) : EvB t σ F H b := fun F1 H1 e1 e2 e3 Q q => by
  obtain ⟨F2, a, c⟩ := h1 F1 H1 e1 e2 e3
  exact h F2 H1 a e2 c Q q
/-- with one's own list at l beside -/
theorem ownL {l : Addr} {o : HO} (hl : H l = some o) : ∀ F1 H1, Ex F F1 → Ex H H1 → Ex F1 H1 → ∃ F2, Ex (upd F l o) F2 ∧ Ex F2 H1 := fun F1 H1 e1 e2 e3 =>
  ⟨upd F1 l o, fun b u q => by
    by_cases eb : b = l
    · subst eb; rw [upd_same] at q ⊢; exact q
    · rw [upd_ne eb] at q ⊢; exact e1 b u q, fun b u q => by
    by_cases eb : b = l
    · subst eb; rw [upd_same] at q; cases q; exact e2 _ _ hl
    · rw [upd_ne eb] at q; exact e3 b u q⟩
/-! values -/
theorem d_var {i : Nat} (h : σ[i]? = some (some v)) (hd : Dp K F v d) : EvD K (tVar i) σ F H d := fun F1 H1 e1 _ e3 _ q => ⟨v, h, q v F1 H1 (Gr.refl e3) (hd.up e1)⟩
theorem d_c (hd : Dp K F v d) : EvD K (tC v) σ F H d := fun F1 H1 e1 _ e3 _ q => q v F1 H1 (Gr.refl e3) (hd.up e1)
theorem ex_join {F1 H1 F2 H2 : Hp} (g : Gr F1 H1 F2 H2) (h : Ex H H1) : Ex H H2 := h.trans g.hx
theorem d_op2 {R : D → D → D → Prop} (ha : EvD K ta σ F H d) (hb : EvD K tb σ F H e) (hr : R d e r) : EvD K (tOp (rD2 K R) ta tb) σ F H r := fun F1 H1 e1 e2 e3 Q q =>
  ha F1 H1 e1 e2 e3 _ fun x F2 H2 g2 hx => hb F2 H2 (e1.trans g2.fx) (e2.trans g2.hx) g2.fh _ fun y F3 H3 g3 hy =>
    ⟨F3, d, e, r, g3.fh, hx.up g3.fx, hy, hr, fun v F4 H4 g4 hv => q v F4 H4 ((g2.trans g3).trans g4) hv⟩
theorem d_un {R : D → D → Prop} (ha : EvD K ta σ F H d) (hr : R d r) : EvD K (tUn (rD1 K R) ta) σ F H r := fun F1 H1 e1 e2 e3 Q q =>
  ha F1 H1 e1 e2 e3 _ fun x F2 H2 g2 hx => ⟨F2, d, r, g2.fh, hx, hr, fun v F4 H4 g4 hv => q v F4 H4 (g2.trans g4) hv⟩
theorem ds_nil : EvDs K tNil σ F H [] := fun F1 H1 _ _ e3 _ q => q [] F1 H1 (Gr.refl e3) .nil
theorem ds_cons {tr : TA} {ds : List D} (ha : EvD K ta σ F H d) (hr : EvDs K tr σ F H ds) : EvDs K (tCons ta tr) σ F H (d :: ds) := fun F1 H1 e1 e2 e3 Q q =>
  ha F1 H1 e1 e2 e3 _ fun x F2 H2 g2 hx => hr F2 H2 (e1.trans g2.fx) (e2.trans g2.hx) g2.fh _ fun xs F3 H3 g3 hxs => q (x :: xs) F3 H3 (g2.trans g3) (.cons (hx.up g3.fx) hxs)
theorem d_call {R : List D → D → Prop} {E : XK} {ta : TA} {ds : List D} (ha : EvDs K ta σ F H ds) (hr : R ds r) : EvD K (tCall (spR K R) [] E ta) σ F H r := fun F1 H1 e1 e2 e3 Q q =>
  ha F1 H1 e1 e2 e3 _ fun xs F2 H2 g2 hx => by
    show rDn K R (xs ++ []) H2 Q
    rw [List.append_nil]
    exact ⟨F2, ds, r, g2.fh, hx, hr, fun v F4 H4 g4 hv => q v F4 H4 (g2.trans g4) hv⟩
theorem d_cb {R : List D → D → Prop} {ta : TA} {ds : List D} (ha : EvDs K ta σ F H ds) (hr : R ds r) : EvD K (tCB (rDn K R) ta) σ F H r := fun F1 H1 e1 e2 e3 Q q =>
  ha F1 H1 e1 e2 e3 _ fun xs F2 H2 g2 hx => ⟨F2, ds, r, g2.fh, hx, hr, fun v F4 H4 g4 hv => q v F4 H4 (g2.trans g4) hv⟩
theorem d_tup {ta : TA} {ds : List D} (ha : EvDs K ta σ F H ds) (hl : ds.length ≤ 100000) : EvD K (tTup ta) σ F H (.tuple ds) := fun F1 H1 e1 e2 e3 Q q =>
  ha F1 H1 e1 e2 e3 _ fun xs F2 H2 g2 hx => ⟨by rw [hx.length]; exact sz_of hl, fun p hp => q (.ref p) _ _ (g2.trans (Gr.new g2.fh hp)) (.tup (st_of upd_same) (hx.up (Ex.new (fresh_back g2.fh hp))))⟩
theorem d_lst {ta : TA} {ds : List D} (ha : EvDs K ta σ F H ds) (hl : ds.length ≤ 100000) : EvD K (tLst ta) σ F H (.list ds) := fun F1 H1 e1 e2 e3 Q q =>
  ha F1 H1 e1 e2 e3 _ fun xs F2 H2 g2 hx => ⟨by rw [hx.length]; exact sz_of hl, fun p hp => q (.ref p) _ _ (g2.trans (Gr.new g2.fh hp)) (.lst (sq_of upd_same) (hx.up (Ex.new (fresh_back g2.fh hp))))⟩
theorem d_sl {R : D → Option Int → Option Int → D → Prop} {tl th : TO} {lo hi : Option Int} (ha : EvD K te σ F H d) (h1 : EvI K tl σ F H lo) (h2 : EvI K th σ F H hi) (hr : R d lo hi r) : EvD K (tSl (rDs K R) te tl th) σ F H r := fun F1 H1 e1 e2 e3 Q q =>
  ha F1 H1 e1 e2 e3 _ fun x F2 H2 g2 hx => h1 F2 H2 (e1.trans g2.fx) (e2.trans g2.hx) g2.fh _ fun H3 x3 => h2 F2 H3 (e1.trans g2.fx) ((e2.trans g2.hx).trans x3) (g2.fh.trans x3) _ fun H4 x4 =>
    ⟨F2, d, r, (g2.fh.trans x3).trans x4, hx, hr, fun v F5 H5 g5 hv => q v F5 H5 (((g2.grow x3).grow x4).trans g5) hv⟩
theorem i_none : EvI K tNoPart σ F H none := fun _ H1 _ _ _ _ q => q H1 (Ex.refl H1)
theorem i_some {i : Int} (h : EvD K te σ F H (.int i)) : EvI K (tPart te) σ F H (some i) := fun F1 H1 e1 e2 e3 Q q =>
  h F1 H1 e1 e2 e3 _ fun v F2 H2 g hv => by
    cases hv
    exact ⟨i, rfl, q H2 g.hx⟩
/-! tests -/
theorem b_test (h : EvD K te σ F H (.bool b)) : EvB (tTest te) σ F H b := fun F1 H1 e1 e2 e3 Q q => h F1 H1 e1 e2 e3 _ fun v F2 H2 g hv => by
  cases hv
  exact ⟨b, rfl, q H2 g.hx⟩
theorem b_B (h : EvD K te σ F H (.bool b)) : EvB (tB te) σ F H b := fun F1 H1 e1 e2 e3 Q q => h F1 H1 e1 e2 e3 _ fun v F2 H2 g hv => by
  cases hv
  exact ⟨b, rfl, q H2 g.hx⟩
theorem b_var {i : Nat} (h : σ[i]? = some (some (.bl b))) : EvB (tB (tVar i)) σ F H b := fun _ H1 _ _ _ _ q => ⟨.bl b, h, b, rfl, q H1 (Ex.refl H1)⟩
theorem b_yes : EvB tYes σ F H true := fun _ H1 _ _ _ _ q => q H1 (Ex.refl H1)
theorem b_and {a b : Bool} (h1 : EvB t σ F H a) (h2 : a = true → EvB u σ F H b) : EvB (tAnd t u) σ F H (a && b) := fun F1 H1 e1 e2 e3 Q q => h1 F1 H1 e1 e2 e3 _ fun H2 g => by
  cases a with
  | true =>
    show u σ H2 Q
    exact h2 rfl F1 H2 e1 (e2.trans g) (e3.trans g) Q fun H3 k => q H3 (g.trans k)
  | false =>
    show Q false H2
    exact q H2 g
theorem b_or {a b : Bool} (h1 : EvB t σ F H a) (h2 : a = false → EvB u σ F H b) : EvB (tOr t u) σ F H (a || b) := fun F1 H1 e1 e2 e3 Q q => h1 F1 H1 e1 e2 e3 _ fun H2 g => by
  cases a with
  | true =>
    show Q true H2
    exact q H2 g
  | false =>
    show u σ H2 Q
    exact h2 rfl F1 H2 e1 (e2.trans g) (e3.trans g) Q fun H3 k => q H3 (g.trans k)
theorem b_not {a : Bool} (h1 : EvB t σ F H a) : EvB (tNot t) σ F H (!a) := fun F1 H1 e1 e2 e3 _ q => h1 F1 H1 e1 e2 e3 _ fun H2 g => q H2 g
theorem d_andV {a b : Bool} (h1 : EvD K ta σ F H (.bool a)) (h2 : a = true → EvD K tb σ F H (.bool b)) : EvD K (tAndV ta tb) σ F H (.bool (a && b)) := fun F1 H1 e1 e2 e3 Q q => h1 F1 H1 e1 e2 e3 _ fun v F2 H2 g hv => by
  cases hv
  refine ⟨a, rfl, ?_⟩
  cases a with
  | true =>
    show tb σ H2 Q
    exact h2 rfl F2 H2 (e1.trans g.fx) (e2.trans g.hx) g.fh Q fun v F3 H3 g3 hv => q v F3 H3 (g.trans g3) hv
  | false =>
    show Q (.bl false) H2
    exact q _ F2 H2 g (.bl _)
theorem d_orV {a b : Bool} (h1 : EvD K ta σ F H (.bool a)) (h2 : a = false → EvD K tb σ F H (.bool b)) : EvD K (tOrV ta tb) σ F H (.bool (a || b)) := fun F1 H1 e1 e2 e3 Q q => h1 F1 H1 e1 e2 e3 _ fun v F2 H2 g hv => by
  cases hv
  refine ⟨a, rfl, ?_⟩
  cases a with
  | true =>
    show Q (.bl true) H2
    exact q _ F2 H2 g (.bl _)
  | false =>
    show tb σ H2 Q
    exact h2 rfl F2 H2 (e1.trans g.fx) (e2.trans g.hx) g.fh Q fun v F3 H3 g3 hv => q v F3 H3 (g.trans g3) hv
theorem d_notV {a : Bool} (h1 : EvD K ta σ F H (.bool a)) : EvD K (tNotV ta) σ F H (.bool (!a)) := fun F1 H1 e1 e2 e3 Q q => h1 F1 H1 e1 e2 e3 _ fun v F2 H2 g hv => by
  cases hv
  exact ⟨a, rfl, q _ F2 H2 g (.bl _)⟩
theorem d_if (h : EvB t σ F H b) (h1 : b = true → EvD K ta σ F H d) (h2 : b = false → EvD K tb σ F H d) : EvD K (tIf t ta tb) σ F H d := fun F1 H1 e1 e2 e3 Q q => h F1 H1 e1 e2 e3 _ fun H2 g => by
  cases b with
  | true =>
    show ta σ H2 Q
    exact h1 rfl F1 H2 e1 (e2.trans g) (e3.trans g) Q fun v F3 H3 g3 hv => q v F3 H3 ⟨g3.fx, g.trans g3.hx, g3.fh, fun p hp => g3.old p (ex_nn g hp)⟩ hv
  | false =>
    show tb σ H2 Q
    exact h2 rfl F1 H2 e1 (e2.trans g) (e3.trans g) Q fun v F3 H3 g3 hv => q v F3 H3 ⟨g3.fx, g.trans g3.hx, g3.fh, fun p hp => g3.old p (ex_nn g hp)⟩ hv
/-- a < b < c -/
theorem d_chain {R R' : D → D → D → Prop} {tc : TE} {f : D} {p q : Bool} (ha : EvD K ta σ F H d) (hb : EvD K tb σ F H e) (hr : R d e (.bool p)) (h2 : p = true → EvD K tc σ F H f) (h3 : p = true → R' e f (.bool q)) :
    EvD K (tChain (rD2 K R) (rD2 K R') ta tb tc) σ F H (.bool (p && q)) := fun F1 H1 e1 e2 e3 Q k =>
  ha F1 H1 e1 e2 e3 _ fun x F2 H2 g2 hx => hb F2 H2 (e1.trans g2.fx) (e2.trans g2.hx) g2.fh _ fun y F3 H3 g3 hy =>
    ⟨F3, d, e, .bool p, g3.fh, hx.up g3.fx, hy, hr, fun v F4 H4 g4 hv => by
      cases hv
      refine ⟨p, rfl, ?_⟩
      have g := (g2.trans g3).trans g4
      cases p with
      | false =>
        show Q (.bl false) H4
        exact k _ F4 H4 g (.bl _)
      | true =>
        refine h2 rfl F4 H4 (e1.trans g.fx) (e2.trans g.hx) g.fh _ fun w F5 H5 g5 hw => ?_
        exact ⟨F5, e, f, .bool q, g5.fh, hy.up (g4.fx.trans g5.fx), hw, h3 rfl, fun v F6 H6 g6 hv => k v F6 H6 ((g.trans g5).trans g6) hv⟩⟩
end
end Ly
/-! LyB: Python's operations as relations of data. -/
namespace Ly
open PySem L2 Evl
/-! ### answers -/
section
variable {K : Fg} {F H : Hp} {d r : D} {Q : VK} {v : V}
theorem Ans.sc (q : Ans K F H r Q) (fh : Ex F H) (h : scV r = some v) : Q v H := q v F H (Gr.refl fh) (scV_dp h)
theorem Ans.dp (q : Ans K F H r Q) (fh : Ex F H) (h : Dp K F v r) : Q v H := q v F H (Gr.refl fh) h
theorem Ans.tup (q : Ans K F H (.tuple ds) Q) (fh : Ex F H) {vs : List V} (h : DpAll K F vs ds) {p : Addr} (hp : H p = none) : Q (.ref p) (upd H p (.tup vs)) :=
  q _ _ _ (Gr.new fh hp) (.tup (st_of upd_same) (h.up (Ex.new (fresh_back fh hp))))
theorem Ans.lst (q : Ans K F H (.list ds) Q) (fh : Ex F H) {vs : List V} (h : DpAll K F vs ds) {p : Addr} (hp : H p = none) : Q (.ref p) (upd H p (.lst vs)) :=
  q _ _ _ (Gr.new fh hp) (.lst (sq_of upd_same) (h.up (Ex.new (fresh_back fh hp))))
end
/-! ### numbers -/
inductive AddD : D → D → D → Prop
  | int (i j : Int) : AddD (.int i) (.int j) (.int (i + j))
  | str (x y : Str) (h : x.length + y.length ≤ 100000) : AddD (.str x) (.str y) (.str (x ++ y))
  | tup (xs ys : List D) (h : xs.length + ys.length ≤ 100000) : AddD (.tuple xs) (.tuple ys) (.tuple (xs ++ ys))
  | list (xs ys : List D) (h : xs.length + ys.length ≤ 100000) : AddD (.list xs) (.list ys) (.list (xs ++ ys))
inductive SubD : D → D → D → Prop
  | int (i j : Int) : SubD (.int i) (.int j) (.int (i - j))
inductive MulD : D → D → D → Prop
  | int (i j : Int) (h : CMul i j) : MulD (.int i) (.int j) (.int (i * j))
  | intW (i j : Int) (h : CMulX i j) : MulD (.int i) (.int j) (.int (i * j))
inductive DivD : D → D → D → Prop
  | int (i j : Int) (h : 0 < j ∧ j < 1073741824) : DivD (.int i) (.int j) (.int (i / j))
  | intW (i j : Int) (h : CDivW i j) : DivD (.int i) (.int j) (.int (i / j))
inductive ModD : D → D → D → Prop
  | int (i j : Int) (h : 0 < j) : ModD (.int i) (.int j) (.int (i % j))
inductive PowD : D → D → D → Prop
  | int (i j : Int) (h : CPow i j) : PowD (.int i) (.int j) (.int (i ^ j.toNat))
inductive ShrD : D → D → D → Prop
  | int (i j : Int) (h : 0 ≤ j) : ShrD (.int i) (.int j) (.int (i / 2 ^ j.toNat))
inductive BandD : D → D → D → Prop
  | m31 (i : Int) : BandD (.int i) (.int 2147483647) (.int (i % 2147483648))
inductive LtD : D → D → D → Prop
  | int (i j : Int) : LtD (.int i) (.int j) (.bool (decide (i < j)))
inductive LeD : D → D → D → Prop
  | int (i j : Int) : LeD (.int i) (.int j) (.bool (decide (i ≤ j)))
  | tup (ns ms : List Int) : LeD (.tuple (ns.map PyData.int)) (.tuple (ms.map PyData.int))
      (.bool (Ob.lexAt (fun j => decide (ns.getD j 0 = ms.getD j 0)) (fun j => decide (ns.getD j 0 ≤ ms.getD j 0)) (decide (ns.length ≤ ms.length)) 0 (min ns.length ms.length)))
inductive GtD : D → D → D → Prop
  | int (i j : Int) : GtD (.int i) (.int j) (.bool (decide (j < i)))
inductive GeD : D → D → D → Prop
  | int (i j : Int) : GeD (.int i) (.int j) (.bool (decide (j ≤ i)))
inductive NegD : D → D → Prop
  | int (i : Int) : NegD (.int i) (.int (-i))
/-! ### == -/
inductive EqD : D → D → D → Prop
  | int (i j : Int) : EqD (.int i) (.int j) (.bool (decide (i = j)))
  | str (x y : Str) : EqD (.str x) (.str y) (.bool (decide (x = y)))
  | bool (x y : Bool) : EqD (.bool x) (.bool y) (.bool (decide (x = y)))
  | gen (d e : D) (h : SeqAt.shaped d = true) (h' : SeqAt.shaped e = true) : EqD d e (.bool (PyData.eqv d e))
inductive NeD : D → D → D → Prop
  | int (i j : Int) : NeD (.int i) (.int j) (.bool (!decide (i = j)))
  | str (x y : Str) : NeD (.str x) (.str y) (.bool (!decide (x = y)))
  | bool (x y : Bool) : NeD (.bool x) (.bool y) (.bool (!decide (x = y)))
  | gen (d e : D) (h : SeqAt.shaped d = true) (h' : SeqAt.shaped e = true) : NeD d e (.bool (!PyData.eqv d e))
/-! ### is -/
def isNon : D → Bool
  | .none => true
  | _ => false
def isBit : D → Bool → Bool
  | .bool a, b => decide (a = b)
  | _, _ => false
inductive IsD : D → D → D → Prop
  | non (d : D) : IsD d .none (.bool (isNon d))
  | bool (x y : Bool) : IsD (.bool x) (.bool y) (.bool (decide (x = y)))
  | bit (d : D) (y : Bool) : IsD d (.bool y) (.bool (isBit d y))
inductive NisD : D → D → D → Prop
  | non (d : D) : NisD d .none (.bool (!isNon d))
  | bool (x y : Bool) : NisD (.bool x) (.bool y) (.bool (!decide (x = y)))
  | bit (d : D) (y : Bool) : NisD d (.bool y) (.bool (!isBit d y))
/-! ### in -/
inductive InD : D → D → D → Prop
  | sign (c : Nat) (z : Str) : InD (.str ⟨#[c]⟩) (.str z) (.bool (decide (c ∈ z.cps.toList)))
  | list (d : D) (ds : List D) (h : SeqAt.shaped d = true) (h' : SeqAt.shaped (.list ds) = true) : InD d (.list ds) (.bool (ds.any fun z => PyData.eqv z d))
inductive NinD : D → D → D → Prop
  | sign (c : Nat) (z : Str) : NinD (.str ⟨#[c]⟩) (.str z) (.bool (!decide (c ∈ z.cps.toList)))
  | list (d : D) (ds : List D) (h : SeqAt.shaped d = true) (h' : SeqAt.shaped (.list ds) = true) : NinD d (.list ds) (.bool (!ds.any fun z => PyData.eqv z d))
/-! ### items, slices -/
inductive IxD : D → D → D → Prop
  | list (ds : List D) (i : Int) (d : D) (h : atI ds i = some d) : IxD (.list ds) (.int i) d
  | tup (ds : List D) (i : Int) (d : D) (h : atI ds i = some d) : IxD (.tuple ds) (.int i) d
  | str (z : Str) (i : Int) (c : Nat) (h : z.length ≤ 100000) (h' : atI z.cps.toList i = some c) : IxD (.str z) (.int i) (.str ⟨#[c]⟩)
def cutD (xs : List D) (lo hi : Option Int) : List D := (xs.drop (HT.sIx xs.length 0 lo)).take (HT.sIx xs.length xs.length hi - HT.sIx xs.length 0 lo)
inductive SlD : D → Option Int → Option Int → D → Prop
  | list (ds : List D) (lo hi : Option Int) : SlD (.list ds) lo hi (.list (cutD ds lo hi))
  | tup (ds : List D) (lo hi : Option Int) : SlD (.tuple ds) lo hi (.tuple (cutD ds lo hi))
  | str (z : Str) (lo hi : Option Int) (h : z.length ≤ 100000) : SlD (.str z) lo hi (.str (cutS z lo hi))
/-! ### calls of built-ins -/
inductive LenD : List D → D → Prop
  | list (ds : List D) : LenD [.list ds] (.int (ds.length : Nat))
  | tup (ds : List D) : LenD [.tuple ds] (.int (ds.length : Nat))
  | str (z : Str) (h : z.length ≤ 100000) : LenD [.str z] (.int (z.length : Nat))
inductive MaxD : List D → D → Prop
  | int (i j : Int) : MaxD [.int i, .int j] (.int (max i j))
inductive MinD : List D → D → Prop
  | int (i j : Int) : MinD [.int i, .int j] (.int (min i j))
inductive IntD : List D → D → Prop
  | bool (b : Bool) : IntD [.bool b] (.int (if b then 1 else 0))
inductive TupleD : List D → D → Prop
  | list (ds : List D) : TupleD [.list ds] (.tuple ds)
inductive ListD : List D → D → Prop
  | list (ds : List D) : ListD [.list ds] (.list ds)
  | tup (ds : List D) : ListD [.tuple ds] (.list ds)
inductive AllD : List D → D → Prop
  | list (bs : List Bool) : AllD [.list (bs.map PyData.bool)] (.bool (bs.all id))
inductive AnyD : List D → D → Prop
  | list (bs : List Bool) : AnyD [.list (bs.map PyData.bool)] (.bool (bs.any id))
inductive SumD : List D → D → Prop
  | list (ns : List Int) : SumD [.list (ns.map PyData.int)] (.int ns.sum)
inductive DivmodD : List D → D → Prop
  | int (i j : Int) (h : CDiv i j) : DivmodD [.int i, .int j] (.tuple [.int (i / j), .int (i % j)])
/-- the name of a datum's type -/
def tyN : D → String
  | .none => "NoneType"
  | .bool _ => "bool"
  | .int _ => "int"
  | .str _ => "str"
  | .list _ => "list"
  | .tuple _ => "tuple"
  | .dict _ => "dict"
section
variable {K : Fg} {F H : Hp} {v : V} {d : D}
theorem dp_ty (h : Dp K F v d) : TyX K F v (.type (tyN d)) := by
  cases h with
  | non => exact .base .non
  | bl b => exact .base (.bl b)
  | int i => exact .base (.int i)
  | str x => exact .base (.str x)
  | lst hs _ =>
    rcases hs with (e | ⟨o, e⟩) | ⟨o, its, n, e, c, _⟩
    · exact .base (.lst e)
    · exact .base (.frz e)
    · exact .kList e c
  | tup hs _ =>
    rcases hs with (e | ⟨o, e⟩) | ⟨o, its, n, e, c, _⟩
    · exact .base (.tup e)
    · exact .fTuple e
    · exact .kTuple e c
theorem tyV_str {z : Str} (h : Dp K F v (.str z)) : tyV K "str" v H := by
  cases h
  exact rfl
theorem tyV_list {ds : List D} (h : Dp K F v (.list ds)) (e : Ex F H) : tyV K "list" v H := by
  have h := h.up e
  cases h with
  | lst hs _ => exact .inl ⟨rfl, _, hs⟩
end
theorem atI_map {α β : Type} {xs : List α} {i : Int} {a : α} (h : atI xs i = some a) : ∃ j : Nat, ixN xs.length i = some j ∧ xs[j]? = some a := by
  unfold atI at h
  cases e : ixN xs.length i with
  | none => rw [e] at h; cases h
  | some j => rw [e] at h; exact ⟨j, rfl, h⟩
theorem dps_at {K : Fg} {F : Hp} {vs : List V} {ds : List D} {i : Int} {d : D} (ha : DpAll K F vs ds) (h : atI ds i = some d) : ∃ v, atI vs i = some v ∧ Dp K F v d := by
  obtain ⟨j, e1, e2⟩ := atI_map (β := D) h
  obtain ⟨v, e3, hv⟩ := ha.get e2
  refine ⟨v, ?_, hv⟩
  unfold atI
  rw [ha.length, e1]
  exact e3
theorem dps_cut {K : Fg} {F : Hp} {vs : List V} {ds : List D} (lo hi : Option Int) (ha : DpAll K F vs ds) : DpAll K F (cutV vs lo hi) (cutD ds lo hi) := by
  unfold cutV cutD
  rw [ha.length]
  exact (ha.drop _).take _
theorem int_max {i j : Int} : (if j > i then j else i) = max i j := by
  have := Int.max_def i j
  by_cases h : j > i
  · rw [if_pos h]; omega
  · rw [if_neg h]; omega
theorem int_min {i j : Int} : (if j < i then j else i) = min i j := by
  have := Int.min_def i j
  by_cases h : j < i
  · rw [if_pos h]; omega
  · rw [if_neg h]; omega
section
variable {X : Cx}
theorem op2_of {op : Value → Value → Sem Value} {r : R2} {R : D → D → D → Prop} (h : OpR X op r)
    (hr : ∀ F H x y d e z Q, Ex F H → Dp X.K F x d → Dp X.K F y e → R d e z → Ans X.K F H z Q → r x y H Q) : OpR X op (rD2 X.K R) :=
  fun pins s σ H x y v u Q I rx ry ⟨F, d, e, z, fh, hx, hy, hR, q⟩ => h pins s σ H x y v u Q I rx ry (hr F H x y d e z Q fh hx hy hR q)
/-- list + list -/
def rCatL (K : Fg) : R2 := fun x y H Q => ∃ l b xs zs, x = .ref l ∧ y = .ref b ∧ SqL K H l xs ∧ SqL K H b zs ∧ xs.length + zs.length ≤ sizeLine ∧ ∀ p, H p = none → Q (.ref p) (upd H p (.lst (xs ++ zs)))
theorem op_catL : OpR X (binaryOp .Add) (rCatL X.K) := by
  intro pins s σ H x y v u Q I rx ry h
  obtain ⟨l, b, xs, zs, rfl, rfl, hH, hB, hz, q⟩ := h
  cases rx
  cases ry
  obtain ⟨its, r, p1, _⟩ := I.list hH
  obtain ⟨its2, r2, p2, _⟩ := I.list hB
  obtain ⟨⟨cls, dd, data, sl⟩, ho, hc, n, hd⟩ := p1.isList
  obtain ⟨⟨cls2, dd2, data2, sl2⟩, ho2, hc2, n2, hd2⟩ := p2.isList
  simp only at hc hd hc2 hd2
  subst hc hd hc2 hd2
  have e : its.toArray ++ its2.toArray = (its ++ its2).toArray := by simp
  have hl1 := r.length
  have hl2 := r2.length
  refine PySem.concat_meets ⟨_, ho, rfl⟩ ⟨_, ho2, rfl⟩ noFill_list_add seq_list_add PySem.F.slot_list_add PySem.F.entry_list_add (PySem.F.args_list_add_2 _ _) (PyProof.Rows.list_addW l b its.toArray its2.toArray n n2 dd dd2 sl sl2 (by rw [List.size_toArray, List.size_toArray, ← hl1, ← hl2]; exact hz)) ⟨ho, ho2, ?_⟩
  rw [e]
  exact ⟨.ref _, _, I.lnew (t' := s.toks) (r.append r2) (by rw [List.length_append]; omega), rfl, q _ I.fresh⟩
theorem oAdd : OpR X (binaryOp .Add) (rD2 X.K AddD) := by
  refine op2_of (op_add.or (op_add_str.or (op_catA.or op_catL))) fun F H x y d e z Q fh hx hy hR q => ?_
  cases hR with
  | int i j => cases hx; cases hy; exact .inl ⟨i, j, rfl, rfl, q.sc fh rfl⟩
  | str a b h => cases hx; cases hy; exact .inr (.inl ⟨a, b, rfl, rfl, sz_of h, q.sc fh rfl⟩)
  | tup as bs h =>
    cases hx with
    | tup s1 a1 =>
      cases hy with
      | tup s2 a2 =>
        refine .inr (.inr (.inl ⟨_, _, _, _, rfl, rfl, ex_t fh s1, ex_t fh s2, by rw [a1.length, a2.length]; exact sz_of h, fun e => ?_, fun _ e => ?_, fun _ _ p hp => q.tup fh (a1.append a2) hp⟩))
        · subst e; cases a1; exact q.dp fh (.tup s2 a2)
        · subst e; cases a2; rw [List.append_nil] at q; exact q.dp fh (.tup s1 a1)
  | list as bs h =>
    cases hx with
    | lst s1 a1 =>
      cases hy with
      | lst s2 a2 => exact .inr (.inr (.inr ⟨_, _, _, _, rfl, rfl, ex_l fh s1, ex_l fh s2, by rw [a1.length, a2.length]; exact sz_of h, fun p hp => q.lst fh (a1.append a2) hp⟩))
theorem oSub : OpR X (binaryOp .Sub) (rD2 X.K SubD) := by
  refine op2_of op_sub fun F H x y d e z Q fh hx hy hR q => ?_
  cases hR with
  | int i j => cases hx; cases hy; exact ⟨i, j, rfl, rfl, q.sc fh rfl⟩
theorem oMul : OpR X (binaryOp .Mult) (rD2 X.K MulD) := by
  refine op2_of (op_mul.or op_mulX) fun F H x y d e z Q fh hx hy hR q => ?_
  cases hR with
  | int i j h => cases hx; cases hy; exact .inl ⟨i, j, rfl, rfl, h, q.sc fh rfl⟩
  | intW i j h => cases hx; cases hy; exact .inr ⟨i, j, rfl, rfl, h, q.sc fh rfl⟩
theorem oDiv : OpR X (binaryOp .FloorDiv) (rD2 X.K DivD) := by
  refine op2_of (op_fdiv.or op_fdivW) fun F H x y d e z Q fh hx hy hR q => ?_
  cases hR with
  | int i j h => cases hx; cases hy; exact .inl ⟨i, j, rfl, rfl, h, q.sc fh rfl⟩
  | intW i j h => cases hx; cases hy; exact .inr ⟨i, j, rfl, rfl, h, q.sc fh rfl⟩
theorem oMod : OpR X (binaryOp .Mod) (rD2 X.K ModD) := by
  refine op2_of op_mod fun F H x y d e z Q fh hx hy hR q => ?_
  cases hR with
  | int i j h => cases hx; cases hy; exact ⟨i, j, rfl, rfl, h, q.sc fh rfl⟩
theorem oPow : OpR X (binaryOp .Pow) (rD2 X.K PowD) := by
  refine op2_of op_pow fun F H x y d e z Q fh hx hy hR q => ?_
  cases hR with
  | int i j h => cases hx; cases hy; exact ⟨i, j, rfl, rfl, h, q.sc fh rfl⟩
theorem oShr : OpR X (binaryOp .RShift) (rD2 X.K ShrD) := by
  refine op2_of op_shr fun F H x y d e z Q fh hx hy hR q => ?_
  cases hR with
  | int i j h => cases hx; cases hy; exact ⟨i, j, rfl, rfl, h, q.sc fh rfl⟩
theorem oBand : OpR X (binaryOp .BitAnd) (rD2 X.K BandD) := by
  refine op2_of op_andM fun F H x y d e z Q fh hx hy hR q => ?_
  cases hR with
  | m31 i => cases hx; cases hy; exact ⟨i, 31, rfl, by decide, q.sc fh rfl⟩
theorem oLt : OpR X (compareOp .Lt) (rD2 X.K LtD) := by
  refine op2_of op_lt fun F H x y d e z Q fh hx hy hR q => ?_
  cases hR with
  | int i j => cases hx; cases hy; exact ⟨i, j, rfl, rfl, q.sc fh rfl⟩
theorem oGt : OpR X (compareOp .Gt) (rD2 X.K GtD) := by
  refine op2_of op_gt fun F H x y d e z Q fh hx hy hR q => ?_
  cases hR with
  | int i j => cases hx; cases hy; exact ⟨i, j, rfl, rfl, q.sc fh rfl⟩
theorem oGe : OpR X (compareOp .GtE) (rD2 X.K GeD) := by
  refine op2_of op_ge fun F H x y d e z Q fh hx hy hR q => ?_
  cases hR with
  | int i j => cases hx; cases hy; exact ⟨i, j, rfl, rfl, q.sc fh rfl⟩
theorem oLe (hu : X.A.units < cLine) : OpR X (compareOp .LtE) (rD2 X.K LeD) := by
  refine op2_of (op_le.or (op_leT hu)) fun F H x y d e z Q fh hx hy hR q => ?_
  cases hR with
  | int i j => cases hx; cases hy; exact .inl ⟨i, j, rfl, rfl, q.sc fh rfl⟩
  | tup ns ms =>
    cases hx with
    | tup s1 a1 =>
      cases hy with
      | tup s2 a2 =>
        have e1 := dps_ints_inv ns a1
        have e2 := dps_ints_inv ms a2
        subst e1 e2
        exact .inr ⟨_, _, ns, ms, rfl, rfl, ex_t fh s1, ex_t fh s2, q.sc fh rfl⟩
theorem oNeg : UnR X (unaryOp .USub) (rD1 X.K NegD) := fun pins s σ H x v Q I rx ⟨F, d, z, fh, hx, hR, q⟩ => by
  cases hR with
  | int i => cases hx; exact un_neg pins s σ H _ v Q I rx ⟨i, rfl, q.sc fh rfl⟩
theorem oEq (hu : X.A.units + 64 < cLine) : OpR X (compareOp .Eq) (rD2 X.K EqD) := by
  refine op2_of (op_eq.or (op_eqD hu)) fun F H x y d e z Q fh hx hy hR q => ?_
  cases hR with
  | int i j =>
    cases hx; cases hy
    refine .inl ⟨rfl, ?_⟩
    have w : decide (V.int i = V.int j) = decide (i = j) := by simp
    rw [w]; exact q.sc fh rfl
  | str i j =>
    cases hx; cases hy
    refine .inl ⟨rfl, ?_⟩
    have w : decide (V.str i = V.str j) = decide (i = j) := by simp
    rw [w]; exact q.sc fh rfl
  | bool i j =>
    cases hx; cases hy
    refine .inl ⟨rfl, ?_⟩
    have w : decide (V.bl i = V.bl j) = decide (i = j) := by simp
    rw [w]; exact q.sc fh rfl
  | gen d e h h' => exact .inr ⟨d, e, hx.up fh, hy.up fh, h, h', q.sc fh rfl⟩
theorem oNe (hu : X.A.units + 64 < cLine) : OpR X (compareOp .NotEq) (rD2 X.K NeD) := by
  refine op2_of (op_ne.or (op_neD hu)) fun F H x y d e z Q fh hx hy hR q => ?_
  cases hR with
  | int i j =>
    cases hx; cases hy
    refine .inl ⟨rfl, ?_⟩
    have w : decide (V.int i = V.int j) = decide (i = j) := by simp
    rw [w]; exact q.sc fh rfl
  | str i j =>
    cases hx; cases hy
    refine .inl ⟨rfl, ?_⟩
    have w : decide (V.str i = V.str j) = decide (i = j) := by simp
    rw [w]; exact q.sc fh rfl
  | bool i j =>
    cases hx; cases hy
    refine .inl ⟨rfl, ?_⟩
    have w : decide (V.bl i = V.bl j) = decide (i = j) := by simp
    rw [w]; exact q.sc fh rfl
  | gen d e h h' => exact .inr ⟨d, e, hx.up fh, hy.up fh, h, h', q.sc fh rfl⟩
theorem dp_non {K : Fg} {F : Hp} {v : V} {d : D} (h : Dp K F v d) : decide (v = .non) = isNon d := by
  cases h <;> (unfold isNon; simp)
def bitV (x : V) (b r : Bool) : Prop := match x with
  | .bl a => r = decide (a = b)
  | .int _ => r = false
  | .str _ => r = false
  | .non => r = false
  | .ref _ => r = false
  | _ => False
theorem dp_bit {K : Fg} {F : Hp} {v : V} {d : D} (h : Dp K F v d) (b : Bool) : bitV v b (isBit d b) := by
  cases h <;> exact rfl
theorem op_is_bit : OpR X (compareOp .Is) (fun x y H Q => ∃ b r, y = .bl b ∧ bitV x b r ∧ Q (.bl r) H) := by
  intro pins s σ H x y v u Q I rx ry h
  obtain ⟨b, r, rfl, hb, q⟩ := h
  cases x with
  | bl a =>
    cases (show r = decide (a = b) from hb)
    exact op_is_bl pins s σ H _ _ v u Q I rx ry ⟨a, b, rfl, rfl, q⟩
  | int i => obtain ⟨t, rfl⟩ := rx; cases (show u = Value.bool b from ry); cases (show r = false from hb); exact wpAny_is_other rfl (fun z => nomatch z) ⟨.bl false, H, I, rfl, q⟩
  | str i => obtain ⟨t, rfl⟩ := rx; cases (show u = Value.bool b from ry); cases (show r = false from hb); exact wpAny_is_other rfl (fun z => nomatch z) ⟨.bl false, H, I, rfl, q⟩
  | non => cases rx; cases (show u = Value.bool b from ry); cases (show r = false from hb); exact wpAny_is_other rfl (fun z => nomatch z) ⟨.bl false, H, I, rfl, q⟩
  | ref i => cases rx; cases (show u = Value.bool b from ry); cases (show r = false from hb); exact wpAny_is_other rfl (fun z => nomatch z) ⟨.bl false, H, I, rfl, q⟩
  | _ => exact hb.elim
theorem op_isnot_bit : OpR X (compareOp .IsNot) (fun x y H Q => ∃ b r, y = .bl b ∧ bitV x b r ∧ Q (.bl (!r)) H) := by
  intro pins s σ H x y v u Q I rx ry h
  obtain ⟨b, r, rfl, hb, q⟩ := h
  cases x with
  | bl a =>
    cases (show r = decide (a = b) from hb)
    exact op_isnot_bl pins s σ H _ _ v u Q I rx ry ⟨a, b, rfl, rfl, q⟩
  | int i => obtain ⟨t, rfl⟩ := rx; cases (show u = Value.bool b from ry); cases (show r = false from hb); exact wpAny_isNot_other rfl (fun z => nomatch z) ⟨.bl true, H, I, rfl, q⟩
  | str i => obtain ⟨t, rfl⟩ := rx; cases (show u = Value.bool b from ry); cases (show r = false from hb); exact wpAny_isNot_other rfl (fun z => nomatch z) ⟨.bl true, H, I, rfl, q⟩
  | non => cases rx; cases (show u = Value.bool b from ry); cases (show r = false from hb); exact wpAny_isNot_other rfl (fun z => nomatch z) ⟨.bl true, H, I, rfl, q⟩
  | ref i => cases rx; cases (show u = Value.bool b from ry); cases (show r = false from hb); exact wpAny_isNot_other rfl (fun z => nomatch z) ⟨.bl true, H, I, rfl, q⟩
  | _ => exact hb.elim
theorem oIs : OpR X (compareOp .Is) (rD2 X.K IsD) := by
  refine op2_of (op_isN.or (op_is_bl.or op_is_bit)) fun F H x y d e z Q fh hx hy hR q => ?_
  cases hR with
  | non d =>
    cases hy
    refine .inl ⟨rfl, ?_⟩
    rw [dp_non hx]; exact q.sc fh rfl
  | bool i j => cases hx; cases hy; exact .inr (.inl ⟨i, j, rfl, rfl, q.sc fh rfl⟩)
  | bit d b => cases hy; exact .inr (.inr ⟨b, _, rfl, dp_bit hx b, q.sc fh rfl⟩)
theorem oNis : OpR X (compareOp .IsNot) (rD2 X.K NisD) := by
  refine op2_of (op_notN.or (op_isnot_bl.or op_isnot_bit)) fun F H x y d e z Q fh hx hy hR q => ?_
  cases hR with
  | non d =>
    cases hy
    refine .inl ⟨rfl, ?_⟩
    rw [dp_non hx]; exact q.sc fh rfl
  | bool i j => cases hx; cases hy; exact .inr (.inl ⟨i, j, rfl, rfl, q.sc fh rfl⟩)
  | bit d b => cases hy; exact .inr (.inr ⟨b, _, rfl, dp_bit hx b, q.sc fh rfl⟩)
theorem oIn (hu : X.A.units + 65 < cLine) : OpR X (compareOp .In) (rD2 X.K InD) := by
  refine op2_of (op_in_sign.or (op_inD hu)) fun F H x y d e z Q fh hx hy hR q => ?_
  cases hR with
  | sign c z => cases hx; cases hy; exact .inl ⟨c, z, rfl, rfl, q.sc fh rfl⟩
  | list d ds h h' => exact .inr ⟨d, ds, hx.up fh, hy.up fh, h, h', q.sc fh rfl⟩
theorem oNin (hu : X.A.units + 65 < cLine) : OpR X (compareOp .NotIn) (rD2 X.K NinD) := by
  refine op2_of (op_notIn_sign.or (op_notInD hu)) fun F H x y d e z Q fh hx hy hR q => ?_
  cases hR with
  | sign c z => cases hx; cases hy; exact .inl ⟨c, z, rfl, rfl, q.sc fh rfl⟩
  | list d ds h h' => exact .inr ⟨d, ds, hx.up fh, hy.up fh, h, h', q.sc fh rfl⟩
theorem oIx : IxR X (rD2 X.K IxD) := by
  rintro va sl pins s σ H x y v u Q I rx ry ⟨F, d, e, z, fh, hx, hy, hR, q⟩ hs
  refine ix_seq va sl pins s σ H x y v u Q I rx ry ?_ hs
  cases hR with
  | list ds i d h =>
    cases hy
    cases hx with
    | lst s1 a1 =>
      obtain ⟨w, e1, hw⟩ := dps_at a1 h
      exact .inl ⟨_, _, i, w, rfl, rfl, ex_l fh s1, e1, q.dp fh hw⟩
  | tup ds i d h =>
    cases hy
    cases hx with
    | tup s1 a1 =>
      obtain ⟨w, e1, hw⟩ := dps_at a1 h
      exact .inr (.inl ⟨_, _, i, w, rfl, rfl, ex_t fh s1, e1, q.dp fh hw⟩)
  | str z i c h h' =>
    cases hy
    cases hx
    exact .inr (.inr ⟨z, i, c, rfl, rfl, sz_of h, h', q.sc fh rfl⟩)
theorem oSl : SlR X (rDs X.K SlD) := by
  rintro pins s σ H x v vl vu lo hi sl Q I rx hs pl pu ⟨F, d, z, fh, hx, hR, q⟩
  refine (sl_list.or (sl_tupA.or sl_str)) pins s σ H x v vl vu lo hi sl Q I rx hs pl pu ?_
  cases hR with
  | list ds lo hi =>
    cases hx with
    | lst s1 a1 => exact .inl ⟨_, _, rfl, ex_l fh s1, fun p hp => q.lst fh (dps_cut lo hi a1) hp⟩
  | tup ds lo hi =>
    cases hx with
    | tup s1 a1 =>
      refine .inr (.inl ⟨_, _, rfl, ex_t fh s1, fun hw => ?_, fun _ p hp => q.tup fh (dps_cut lo hi a1) hp⟩)
      have ec : cutD ds lo hi = ds := by
        unfold cutD
        rw [← a1.length, hw.1, hw.2]
        rw [a1.length]
        simp
      rw [ec] at q
      exact q.dp fh (.tup s1 a1)
  | str z lo hi h =>
    cases hx
    exact .inr (.inr ⟨z, rfl, sz_of h, q.sc fh rfl⟩)
/-! calls -/
theorem cn_of {f : Value} {r : List V → Hp → VK → Prop} {R : List D → D → Prop} (h : CallR X f r)
    (hr : ∀ F H xs ds z Q, Ex F H → DpAll X.K F xs ds → R ds z → Ans X.K F H z Q → r xs H Q) : CallR X f (rDn X.K R) :=
  fun pins s σ H xs us Q I rx ⟨F, ds, z, fh, hx, hR, q⟩ => h pins s σ H xs us Q I rx (hr F H xs ds z Q fh hx hR q)
theorem dps1 {K : Fg} {F : Hp} {vs : List V} {d : D} (h : DpAll K F vs [d]) : ∃ v, vs = [v] ∧ Dp K F v d := by
  cases h with
  | cons h1 h2 => cases h2; exact ⟨_, rfl, h1⟩
theorem dps2 {K : Fg} {F : Hp} {vs : List V} {d e : D} (h : DpAll K F vs [d, e]) : ∃ v w, vs = [v, w] ∧ Dp K F v d ∧ Dp K F w e := by
  cases h with
  | cons h1 h2 =>
    obtain ⟨w, rfl, hw⟩ := dps1 h2
    exact ⟨_, _, rfl, h1, hw⟩
theorem cLen : CallR X (.builtin "len") (rDn X.K LenD) := by
  refine cn_of (call_len_seq.or call_len_str) fun F H xs ds z Q fh hx hR q => ?_
  cases hR with
  | list ds =>
    obtain ⟨v, rfl, hv⟩ := dps1 hx
    cases hv with
    | lst s1 a1 =>
      refine .inl ⟨_, _, rfl, .inl (ex_l fh s1), ?_⟩
      rw [a1.length]; exact q.sc fh rfl
  | tup ds =>
    obtain ⟨v, rfl, hv⟩ := dps1 hx
    cases hv with
    | tup s1 a1 =>
      refine .inl ⟨_, _, rfl, .inr (ex_t fh s1), ?_⟩
      rw [a1.length]; exact q.sc fh rfl
  | str z h =>
    obtain ⟨v, rfl, hv⟩ := dps1 hx
    cases hv
    exact .inr ⟨z, rfl, sz_of h, q.sc fh rfl⟩
theorem cMax (hc : X.calm = true) : CallR X (.builtin "max") (rDn X.K MaxD) := by
  refine cn_of (call_max2 hc) fun F H xs ds z Q fh hx hR q => ?_
  cases hR with
  | int i j =>
    obtain ⟨v, w, rfl, hv, hw⟩ := dps2 hx
    cases hv; cases hw
    refine ⟨i, j, rfl, ?_⟩
    rw [int_max]; exact q.sc fh rfl
theorem cMin (hc : X.calm = true) : CallR X (.builtin "min") (rDn X.K MinD) := by
  refine cn_of (call_min2 hc) fun F H xs ds z Q fh hx hR q => ?_
  cases hR with
  | int i j =>
    obtain ⟨v, w, rfl, hv, hw⟩ := dps2 hx
    cases hv; cases hw
    refine ⟨i, j, rfl, ?_⟩
    rw [int_min]; exact q.sc fh rfl
theorem cInt : CallR X (.type "int") (rDn X.K IntD) := by
  refine cn_of call_int1 fun F H xs ds z Q fh hx hR q => ?_
  cases hR with
  | bool b =>
    obtain ⟨v, rfl, hv⟩ := dps1 hx
    cases hv
    exact .inr ⟨b, rfl, q.sc fh rfl⟩
theorem cTuple : CallR X (.type "tuple") (rDn X.K TupleD) := by
  refine cn_of call_tuple_of fun F H xs ds z Q fh hx hR q => ?_
  cases hR with
  | list ds =>
    obtain ⟨v, rfl, hv⟩ := dps1 hx
    cases hv with
    | lst s1 a1 => exact ⟨_, _, rfl, .inl ⟨ex_l fh s1, fun p hp => q.tup fh a1 hp⟩⟩
theorem cList : CallR X (.type "list") (rDn X.K ListD) := by
  refine cn_of call_list_of fun F H xs ds z Q fh hx hR q => ?_
  cases hR with
  | list ds =>
    obtain ⟨v, rfl, hv⟩ := dps1 hx
    cases hv with
    | lst s1 a1 => exact ⟨_, _, rfl, .inl (ex_l fh s1), fun p hp => q.lst fh a1 hp⟩
  | tup ds =>
    obtain ⟨v, rfl, hv⟩ := dps1 hx
    cases hv with
    | tup s1 a1 => exact ⟨_, _, rfl, .inr (ex_t fh s1), fun p hp => q.lst fh a1 hp⟩
end
/-! the same with the written part named -/
section
variable {X : Cx} {K : Fg}
theorem kAdd  (hK : X.K = K := by rfl) : OpR X (binaryOp .Add) (rD2 K AddD) := by
  subst hK
  exact oAdd
theorem kSub  (hK : X.K = K := by rfl) : OpR X (binaryOp .Sub) (rD2 K SubD) := by
  subst hK
  exact oSub
theorem kMul  (hK : X.K = K := by rfl) : OpR X (binaryOp .Mult) (rD2 K MulD) := by
  subst hK
  exact oMul
theorem kDiv  (hK : X.K = K := by rfl) : OpR X (binaryOp .FloorDiv) (rD2 K DivD) := by
  subst hK
  exact oDiv
theorem kMod  (hK : X.K = K := by rfl) : OpR X (binaryOp .Mod) (rD2 K ModD) := by
  subst hK
  exact oMod
theorem kPow  (hK : X.K = K := by rfl) : OpR X (binaryOp .Pow) (rD2 K PowD) := by
  subst hK
  exact oPow
theorem kShr  (hK : X.K = K := by rfl) : OpR X (binaryOp .RShift) (rD2 K ShrD) := by
  subst hK
  exact oShr
theorem kBand  (hK : X.K = K := by rfl) : OpR X (binaryOp .BitAnd) (rD2 K BandD) := by
  subst hK
  exact oBand
theorem kLt  (hK : X.K = K := by rfl) : OpR X (compareOp .Lt) (rD2 K LtD) := by
  subst hK
  exact oLt
theorem kGt  (hK : X.K = K := by rfl) : OpR X (compareOp .Gt) (rD2 K GtD) := by
  subst hK
  exact oGt
theorem kGe  (hK : X.K = K := by rfl) : OpR X (compareOp .GtE) (rD2 K GeD) := by
  subst hK
  exact oGe
theorem kLe (hu : X.A.units < cLine) (hK : X.K = K := by rfl) : OpR X (compareOp .LtE) (rD2 K LeD) := by
  subst hK
  exact oLe hu
theorem kNeg  (hK : X.K = K := by rfl) : UnR X (unaryOp .USub) (rD1 K NegD) := by
  subst hK
  exact oNeg
theorem kEq (hu : X.A.units + 64 < cLine) (hK : X.K = K := by rfl) : OpR X (compareOp .Eq) (rD2 K EqD) := by
  subst hK
  exact oEq hu
theorem kNe (hu : X.A.units + 64 < cLine) (hK : X.K = K := by rfl) : OpR X (compareOp .NotEq) (rD2 K NeD) := by
  subst hK
  exact oNe hu
theorem kIs  (hK : X.K = K := by rfl) : OpR X (compareOp .Is) (rD2 K IsD) := by
  subst hK
  exact oIs
theorem kNis  (hK : X.K = K := by rfl) : OpR X (compareOp .IsNot) (rD2 K NisD) := by
  subst hK
  exact oNis
theorem kIn (hu : X.A.units + 65 < cLine) (hK : X.K = K := by rfl) : OpR X (compareOp .In) (rD2 K InD) := by
  subst hK
  exact oIn hu
theorem kNin (hu : X.A.units + 65 < cLine) (hK : X.K = K := by rfl) : OpR X (compareOp .NotIn) (rD2 K NinD) := by
  subst hK
  exact oNin hu
theorem kIx  (hK : X.K = K := by rfl) : IxR X (rD2 K IxD) := by
  subst hK
  exact oIx
/-- an item, by data or (of a list that is one's own) by values -/
def rIxU (K : Fg) : R2 := fun x y H Q => rD2 K IxD x y H Q ∨ rIxL K x y H Q
theorem kIxU (hK : X.K = K := by rfl) : IxR X (rIxU K) := by
  subst hK
  exact oIx.or ix_list
theorem kSl  (hK : X.K = K := by rfl) : SlR X (rDs K SlD) := by
  subst hK
  exact oSl
theorem jLen  (hK : X.K = K := by rfl) : CallR X (.builtin "len") (rDn K LenD) := by
  subst hK
  exact cLen
theorem jMax (hc : X.calm = true) (hK : X.K = K := by rfl) : CallR X (.builtin "max") (rDn K MaxD) := by
  subst hK
  exact cMax hc
theorem jMin (hc : X.calm = true) (hK : X.K = K := by rfl) : CallR X (.builtin "min") (rDn K MinD) := by
  subst hK
  exact cMin hc
theorem jInt  (hK : X.K = K := by rfl) : CallR X (.type "int") (rDn K IntD) := by
  subst hK
  exact cInt
theorem jTuple  (hK : X.K = K := by rfl) : CallR X (.type "tuple") (rDn K TupleD) := by
  subst hK
  exact cTuple
theorem jList  (hK : X.K = K := by rfl) : CallR X (.type "list") (rDn K ListD) := by
  subst hK
  exact cList
theorem jIsi (hK : X.K = K := by rfl) : CallR X (.builtin "isinstance") (rIsi K) := by
  subst hK
  exact call_isi
end
end Ly
/-! LyC: defs by relations, statements, loops, comprehensions. -/
namespace Ly
open PySem L2 Evl PyProof.Rows
/-! ### defs -/
/-- a def of the text stands under its name -/
structure Df (K : Fg) (mg : Str → Option Value) (x : Str) (st : Stmt) (ps : List Str) : Prop where
  ex : ∃ f fd, Fun K x x st f fd ∧ mg x = some (.ref f) ∧ ∀ us : List Value, us.length = ps.length → bindArgs fd ⟨us, []⟩ = pure (ps.zip us)
/-- a def that keeps its promise stands under its name -/
structure Dk (P : Program) (w : World) (K : Fg) (mg : Str → Option Value) (base : Heap) (k : Nat) (x : Str) (ps : List Str) (sp : Sp) : Prop where
  ex : ∃ f fd, mg x = some (.ref f) ∧ FnOk P w K mg base CX0 k f fd ps sp ∧ PySem.W.keepIn K (.ref f) = true ∧ Binds K fd ps [] ∧ ∃ o, K.lookup f = some o ∧ o.data = .func fd
section
variable {P : Program} {w : World} {K : Fg} {mg : Str → Option Value} {base : Heap} {k : Nat} {x : Str} {st : Stmt} {N ps : List Str}
theorem fun_at {q : Str} {f : Addr} {fd : FuncData} (F : Fun K x q st f fd) : ∃ o, K.lookup f = some o ∧ o.data = .func fd := by
  obtain ⟨oc, od, kV, doc, pm, an, cdv, ct, osl, _, lk, _⟩ := F.ex
  exact ⟨_, lk, rfl⟩
/-- for any promise -/
theorem Df.dkS {sp : Sp} (D0 : Df K mg x st ps) (S : FnScope N ps (defScope st)) (hl : ∀ vs H Q E, sp vs H Q E → vs.length = ps.length)
    (hb : ∀ (f : Addr) (cdv : Value) (A : Around) (outer : List Env) (s : Shared) (H : Hp) (E : XK), Room k (A.deeper (envOfC x (defScope st) s.heap.objs.size f cdv)) →
      ∃ t, PSs (cxOf CX0 P w K mg base N x (defScope st) f cdv A outer s H E).nox (defBody st) t ∧
        ∀ vs Q, sp vs H Q E → t { nx := fun _ H' => Q .non H', rt := Q } (start N vs) H) : Dk P w K mg base (k + 1) x ps sp := by
  obtain ⟨f, fd, F, hm, b⟩ := D0.ex
  refine ⟨f, fd, hm, F.ok S hl fun cdv A outer s H vs Q E hr h => ?_, F.kp, .all b, fun_at F⟩
  obtain ⟨t, h1, h2⟩ := hb f cdv A outer s H E hr
  exact ⟨t, h1, h2 vs Q h⟩
theorem Df.dk {R : List D → D → Prop} (D0 : Df K mg x st ps) (S : FnScope N ps (defScope st)) (hl : ∀ ds r, R ds r → ds.length = ps.length)
    (hb : ∀ (f : Addr) (cdv : Value) (A : Around) (outer : List Env) (s : Shared) (H : Hp) (E : XK), Room k (A.deeper (envOfC x (defScope st) s.heap.objs.size f cdv)) →
      ∃ t, PSs (cxOf CX0 P w K mg base N x (defScope st) f cdv A outer s H E).nox (defBody st) t ∧
        ∀ vs F0 ds r Q, Ex F0 H → DpAll K F0 vs ds → R ds r → Ans K F0 H r Q → t { nx := fun _ H' => Q .non H', rt := Q } (start N vs) H) : Dk P w K mg base (k + 1) x ps (spR K R) := by
  refine D0.dkS S (spR_len hl) fun f cdv A outer s H E hr => ?_
  obtain ⟨t, h1, h2⟩ := hb f cdv A outer s H E hr
  exact ⟨t, h1, fun vs Q ⟨F0, ds, r, fh, ha, hR, q⟩ => h2 vs F0 ds r Q fh ha hR q⟩
/-- the law's own end -/
theorem Df.fin {sp : Sp} {a : Str} {fa : Addr} (D0 : Df K mg x st [a]) (hfa : mg x = some (.ref fa)) (h : ∀ base, K.In base → base.Ns mainGlobals mg → Dk P w K mg base k x [a] sp) :
    ∃ fd : FuncData, (∀ (s : Shared) (u : Value), BindsTo s fd ⟨[u], []⟩ [(a, u)]) ∧ ∀ base : Heap, K.In base → base.Ns mainGlobals mg → FnOk P w K mg base CX0 k fa fd [a] sp := by
  obtain ⟨f, fd, F, hm, b⟩ := D0.ex
  have e := hfa.symm.trans hm
  cases e
  refine ⟨fd, fun s u => .of_eq (b [u] rfl), fun base h1 h2 => ?_⟩
  obtain ⟨f', fd', hm', ok, _, _, o', l', d'⟩ := (h base h1 h2).ex
  have e := hm.symm.trans hm'
  cases e
  obtain ⟨o, l, d⟩ := fun_at F
  have e := l.symm.trans l'
  cases e
  have e := d.symm.trans d'
  cases e
  exact ok
theorem Dk.mono {sp : Sp} {j : Nat} (h : Dk P w K mg base k x ps sp) (hj : k ≤ j) : Dk P w K mg base j x ps sp := by
  obtain ⟨f, fd, h1, h2, h3, h4, h5⟩ := h.ex
  exact ⟨f, fd, h1, h2.mono hj, h3, h4, h5⟩
theorem cl {X : Cx} {sp : Sp} {p pos : Pos} {e : Expr} {es : List Expr} {t : TA} {j : Nat} (h : Dk P w K mg base k x ps sp) (hr : Room j X.A) (ha : PA X (e :: es) t) (hj : k ≤ j := by first | decide | omega) (hg : Gl X x := by rfl)
    (hP : X.prog = P := by rfl) (hw : X.w = w := by rfl) (hK : X.K = K := by rfl) (hm : X.mg = mg := by rfl) (hB : X.base = base := by rfl)
    (hdb : (x == ("__debug__" : Str)) = false := by decide) (he : starEach (e :: es) X.env = (false, eval e X.env) :: starEach es X.env := by rfl) (hpl : (backTo pos (starEach es X.env)).any (·.1) = false := by rfl) :
    PE X (.Call (.Name x p) (e :: es) [] pos) (tCall sp [] E0 t) := by
  subst hP hw hK hm hB
  obtain ⟨f, fd, h1, h2, h3, h4, _⟩ := h.ex
  exact pe_call h2 (hr.mono hj) hg h1 h3 h4 .nil pass0 ha hdb he hpl
theorem cl0 {X : Cx} {sp : Sp} {p pos : Pos} {j : Nat} (h : Dk P w K mg base k x ps sp) (hr : Room j X.A) (hj : k ≤ j := by first | decide | omega) (hg : Gl X x := by rfl)
    (hP : X.prog = P := by rfl) (hw : X.w = w := by rfl) (hK : X.K = K := by rfl) (hm : X.mg = mg := by rfl) (hB : X.base = base := by rfl)
    (hdb : (x == ("__debug__" : Str)) = false := by decide) :
    PE X (.Call (.Name x p) [] [] pos) (tCall sp [] E0 tNil) := by
  subst hP hw hK hm hB
  obtain ⟨f, fd, h1, h2, h3, h4, _⟩ := h.ex
  exact pe_call0 h2 (hr.mono hj) hg h1 h3 h4 .nil pass0 hdb
end
/-- what a law is asked: any script of at most 63 ints; True -/
def RLaw : List D → D → Prop := fun ds r => ∃ ns : List Int, ns.length ≤ 63 ∧ ds = [.list (ns.map PyData.int)] ∧ r = .bool true
theorem RLaw.len : ∀ ds r, RLaw ds r → ds.length = 1 := fun ds r ⟨ns, _, h, _⟩ => by rw [h]; rfl
theorem law_start {K : Fg} {H : Hp} {a : Addr} {ns : List Int} {E : XK} (hl : ns.length ≤ 63) (hS : SqL K H a (ns.map V.int)) : spR K RLaw [.ref a] H (fun v _ => v = .bl true) E :=
  ⟨H, _, _, Ex.refl H, .cons (dp_ints hS) .nil, ⟨ns, hl, rfl, rfl⟩, fun v F2 H2 _ h => by cases h; rfl⟩
theorem room64 {k : Nat} {A : Around} (r : Room k A) : A.units + 64 < cLine := by have := r.un; omega
theorem room65 {k : Nat} {A : Around} (r : Room k A) : A.units + 65 < cLine := by have := r.un; omega
theorem room0 {k : Nat} {A : Around} (r : Room k A) : A.units < cLine := by have := r.un; omega
/-! ### built-ins by name -/
section
variable {X : Cx} {x : Str} {id : String} {p pos : Pos} {e : Expr} {es : List Expr} {r : List V → Hp → VK → Prop} {t : TA}
theorem bi (hc : CallR X (.builtin id) r) (hm : X.mg x = none) (ha : PA X (e :: es) t) (hg : Gl X x := by rfl) (hv : bootBuiltins x = some (.builtin id) := by decide +kernel) (hn : x ≠ "__name__" := by decide) (hdb : (x == ("__debug__" : Str)) = false := by decide)
    (he : starEach (e :: es) X.env = (false, eval e X.env) :: starEach es X.env := by rfl) (hpl : (backTo pos (starEach es X.env)).any (·.1) = false := by rfl) : PE X (.Call (.Name x p) (e :: es) [] pos) (tCB r t) := pe_callB hc hg hm hv ha hn hdb he hpl
theorem bt (hc : CallR X (.type id) r) (hm : X.mg x = none) (ha : PA X (e :: es) t) (hg : Gl X x := by rfl) (hv : bootBuiltins x = some (.type id) := by decide +kernel) (hn : x ≠ "__name__" := by decide) (hdb : (x == ("__debug__" : Str)) = false := by decide)
    (he : starEach (e :: es) X.env = (false, eval e X.env) :: starEach es X.env := by rfl) (hpl : (backTo pos (starEach es X.env)).any (·.1) = false := by rfl) : PE X (.Call (.Name x p) (e :: es) [] pos) (tCB r t) := pe_callTy hc hg hm hv ha hn hdb he hpl
/-- a built-in class as a value -/
theorem bty {n : String} (hm : X.mg x = none) (hg : Gl X x := by rfl) (hv : bootBuiltins x = some (.type n) := by decide +kernel) (hn : x ≠ "__name__" := by decide) (hdb : (x == ("__debug__" : Str)) = false := by decide) : PE X (.Name x pos) (tC (.ty n)) := pe_bltn hg hm hv rfl hn hdb
theorem gint {i : Int} (hm : ∃ u, X.mg x = some (.int i u)) (hg : Gl X x := by rfl) (hdb : (x == ("__debug__" : Str)) = false := by decide) : PE X (.Name x pos) (tC (.int i)) := by
  obtain ⟨u, hm⟩ := hm
  exact pe_glob hg hm ⟨u, rfl⟩ hdb
theorem gstr {i : Str} (hm : ∃ u, X.mg x = some (.str i u)) (hg : Gl X x := by rfl) (hdb : (x == ("__debug__" : Str)) = false := by decide) : PE X (.Name x pos) (tC (.str i)) := by
  obtain ⟨u, hm⟩ := hm
  exact pe_glob hg hm ⟨u, rfl⟩ hdb
theorem gref {i : Addr} (hm : X.mg x = some (.ref i)) (hg : Gl X x := by rfl) (hdb : (x == ("__debug__" : Str)) = false := by decide) : PE X (.Name x pos) (tC (.ref i)) := pe_glob hg hm rfl hdb
end
/-! ### isinstance -/
def isInt : D → Bool | .int _ => true | .bool _ => true | _ => false
def isBol : D → Bool | .bool _ => true | _ => false
def isStr : D → Bool | .str _ => true | _ => false
def isTup : D → Bool | .tuple _ => true | _ => false
def isLst : D → Bool | .list _ => true | _ => false
section
variable {K : Fg} {σ : L2.St} {F H : Hp} {te : TE} {d : D}
theorem d_isi {n : String} {b : Bool} (h : EvD K te σ F H d) (hb : kitB (tyN d) n = some b) : EvD K (tCB (rIsi K) (tCons te (tCons (tC (.ty n)) tNil))) σ F H (.bool b) := fun F1 H1 e1 e2 e3 Q q =>
  h F1 H1 e1 e2 e3 _ fun v F2 H2 g hv => ⟨v, .ty n, _, _, b, rfl, .ty n, dp_ty (hv.up g.fh), kit_ty hb, q _ F2 H2 g (.bl b)⟩
theorem d_isInt (h : EvD K te σ F H d) : EvD K (tCB (rIsi K) (tCons te (tCons (tC (.ty "int")) tNil))) σ F H (.bool (isInt d)) := d_isi h (by cases d <;> (simp only [tyN, isInt, isBol, isStr, isTup, isLst]; decide +kernel))
theorem d_isBol (h : EvD K te σ F H d) : EvD K (tCB (rIsi K) (tCons te (tCons (tC (.ty "bool")) tNil))) σ F H (.bool (isBol d)) := d_isi h (by cases d <;> (simp only [tyN, isInt, isBol, isStr, isTup, isLst]; decide +kernel))
theorem d_isStr (h : EvD K te σ F H d) : EvD K (tCB (rIsi K) (tCons te (tCons (tC (.ty "str")) tNil))) σ F H (.bool (isStr d)) := d_isi h (by cases d <;> (simp only [tyN, isInt, isBol, isStr, isTup, isLst]; decide +kernel))
theorem d_isTup (h : EvD K te σ F H d) : EvD K (tCB (rIsi K) (tCons te (tCons (tC (.ty "tuple")) tNil))) σ F H (.bool (isTup d)) := d_isi h (by cases d <;> (simp only [tyN, isInt, isBol, isStr, isTup, isLst]; decide +kernel))
theorem d_isLst (h : EvD K te σ F H d) : EvD K (tCB (rIsi K) (tCons te (tCons (tC (.ty "list")) tNil))) σ F H (.bool (isLst d)) := d_isi h (by cases d <;> (simp only [tyN, isInt, isBol, isStr, isTup, isLst]; decide +kernel))
end
/-! ### new lists -/
def EvN (K : Fg) (te : TE) (σ : L2.St) (F H : Hp) (ds : List D) : Prop := ∀ F1 H1, Ex F F1 → Ex H H1 → Ex F1 H1 → ∀ Q : VK,
  (∀ p vs F2 H2, Gr F1 H1 F2 H2 → H1 p = none → F2 p = none → H2 p = some (.lst vs) → DpAll K F2 vs ds → Q (.ref p) H2) → te σ H1 Q
section
variable {K : Fg} {σ : L2.St} {F H F0 H0 : Hp} {te ta tl : TE} {tt t : TT} {d : D} {ds es : List D} {v : V} {i j : Nat} {D' : Ends} {tu tw tz : TS} {gt : TG} {wi : TI}
theorem EvN.dd (h : EvN K te σ F H ds) : EvD K te σ F H (.list ds) := fun F1 H1 e1 e2 e3 Q q => h F1 H1 e1 e2 e3 _ fun p vs F2 H2 g hp fp hl ha =>
  q (.ref p) (upd F2 p (.lst vs)) H2 (g.give hp hl fp) (.lst (sq_of upd_same) (ha.up (Ex.new fp)))
theorem EvN.to (h : EvN K te σ F H ds) (q : ds = es) : EvN K te σ F H es := q ▸ h
theorem n_lst {ta : TA} (ha : EvDs K ta σ F H ds) (hl : ds.length ≤ 100000) : EvN K (tLst ta) σ F H ds := fun F1 H1 e1 e2 e3 Q q =>
  ha F1 H1 e1 e2 e3 _ fun xs F2 H2 g2 hx => ⟨by rw [hx.length]; exact sz_of hl, fun p hp => q p xs F2 _ (g2.trans (Gr.own g2.fh hp)) (g2.back hp) (fresh_back g2.fh hp) upd_same hx⟩
theorem n_cut {lo hi : Option Int} {to th : TO} (h : EvD K te σ F H (.list ds)) (h1 : EvI K to σ F H lo) (h2 : EvI K th σ F H hi) : EvD K (tSl (rDs K SlD) te to th) σ F H (.list (cutD ds lo hi)) := d_sl h h1 h2 (.list ds lo hi)
theorem d_ix {tb : TE} {e r : D} (ha : EvD K te σ F H d) (hb : EvD K tb σ F H e) (hr : IxD d e r) : EvD K (tOp (rIxU K) te tb) σ F H r := fun F1 H1 e1 e2 e3 Q q =>
  ha F1 H1 e1 e2 e3 _ fun x F2 H2 g2 hx => hb F2 H2 (e1.trans g2.fx) (e2.trans g2.hx) g2.fh _ fun y F3 H3 g3 hy =>
    .inl ⟨F3, d, e, r, g3.fh, hx.up g3.fx, hy, hr, fun v F4 H4 g4 hv => q v F4 H4 ((g2.trans g3).trans g4) hv⟩
/-- an item of one's own list -/
theorem d_ixO {tb : TE} {l : Addr} {vs : List V} {n : Int} {r : D} (hv : σ[i]? = some (some (.ref l))) (hl : H l = some (.lst vs)) (ha : DpAll K F vs ds) (hb : EvD K tb σ F H (.int n)) (hr : atI ds n = some r) : EvD K (tOp (rIxU K) (tVar i) tb) σ F H r := fun F1 H1 e1 e2 e3 Q q =>
  ⟨.ref l, hv, hb F1 H1 e1 e2 e3 _ fun y F3 H3 g3 hy => by
    cases hy
    obtain ⟨w, ew, hw⟩ := dps_at ha hr
    exact .inr ⟨l, vs, n, w, rfl, rfl, sq_of (g3.hx _ _ (e2 _ _ hl)), ew, q w F3 H3 g3 (hw.up (e1.trans g3.fx))⟩⟩
/-! ### statements -/
/-- xs.clear(), xs one's own -/
theorem s_clear {l : Addr} {xs : List V} (g : Gr F0 H0 F H) (hl0 : H0 l = none) (fl : F l = none) (hl : H l = some (.lst xs)) (hv : σ[i]? = some (some (.ref l))) (k : ∀ H2, Gr F0 H0 F H2 → (∀ p o, p ≠ l → H p = some o → H2 p = some o) → H2 l = some (.lst []) → D'.nx σ H2) :
    tDrop (tBM0 K "list" rClear (tVar i)) D' σ H :=
  ⟨.ref l, hv, .inl ⟨rfl, xs, sq_of hl⟩, l, xs, rfl, rfl, hl, k _ (g.mut hl0 fl) (fun p o hp ho => by rw [upd_ne hp]; exact ho) upd_same⟩
theorem q_clear {l : Addr} {xs : List V} (g : Gr F0 H0 F H) (hl0 : H0 l = none) (fl : F l = none) (hl : H l = some (.lst xs)) (hv : σ[i]? = some (some (.ref l))) (k : ∀ H2, Gr F0 H0 F H2 → (∀ p o, p ≠ l → H p = some o → H2 p = some o) → H2 l = some (.lst []) → tz D' σ H2) :
    tSeq (tDrop (tBM0 K "list" rClear (tVar i))) tz D' σ H := s_clear (D' := { D' with nx := tz D' }) g hl0 fl hl hv k
/-! promises of a new list -/
def AnsN (K : Fg) (F H : Hp) (es : List D) (Q : VK) : Prop := ∀ p ws F2 H2, Gr F H F2 H2 → H p = none → F2 p = none → H2 p = some (.lst ws) → DpAll K F2 ws es → Q (.ref p) H2
def spN (K : Fg) (R : List D → List D → Prop) : Sp := fun vs H Q _ => ∃ F ds es, Ex F H ∧ DpAll K F vs ds ∧ R ds es ∧ AnsN K F H es Q
theorem n_call {R : List D → List D → Prop} {E : XK} {ta : TA} (ha : EvDs K ta σ F H ds) (hr : R ds es) : EvN K (tCall (spN K R) [] E ta) σ F H es := fun F1 H1 e1 e2 e3 Q q =>
  ha F1 H1 e1 e2 e3 _ fun xs F2 H2 g2 hx => by
    show spN K R (xs ++ []) H2 Q E
    rw [List.append_nil]
    exact ⟨F2, ds, es, g2.fh, hx, hr, fun p ws F3 H3 g3 hp fp hl ha => q p ws F3 H3 (g2.trans g3) (g2.back hp) fp hl ha⟩
theorem s_retN (g : Gr F0 H0 F H) (h : EvN K te σ F H ds) (q : AnsN K F0 H0 ds D'.rt) : tRet te D' σ H :=
  h F H (Ex.refl F) (Ex.refl H) g.fh _ fun p ws F2 H2 s hp fp hl ha => q p ws F2 H2 (g.trans s) (g.back hp) fp hl ha
/-- one's own list is handed back -/
theorem s_retO {l : Addr} {vs : List V} (g : Gr F0 H0 F H) (hl0 : H0 l = none) (fl : F l = none) (hl : H l = some (.lst vs)) (ha : DpAll K F vs ds) (hv : σ[i]? = some (some (.ref l))) (q : AnsN K F0 H0 ds D'.rt) : tRet (tVar i) D' σ H :=
  ⟨.ref l, hv, q l vs F H g hl0 fl hl ha⟩
/-! ### statements -/
theorem s_set (g : Gr F0 H0 F H) (h : EvD K te σ F H d) (k : ∀ v F2 H2, Gr F0 H0 F2 H2 → Gr F H F2 H2 → Dp K F2 v d → D'.nx (σ.set i (some v)) H2) : tAsg te (gName i) D' σ H :=
  h F H (Ex.refl F) (Ex.refl H) g.fh _ fun v F2 H2 s hv => k v F2 H2 (g.trans s) s hv
theorem s_setV (g : Gr F0 H0 F H) (h : EvD K te σ F H d) (hs : scV d = some v) (k : ∀ H2, Gr F0 H0 F H2 → Ex H H2 → D'.nx (σ.set i (some v)) H2) : tAsg te (gName i) D' σ H :=
  h F H (Ex.refl F) (Ex.refl H) g.fh _ fun w F2 H2 s hv => by
    have e := scV_inv hs hv
    subst e
    exact k H2 (g.grow s.hx) s.hx
theorem s_setN (g : Gr F0 H0 F H) (h : EvN K te σ F H ds) (k : ∀ p vs F2 H2, Gr F0 H0 F2 H2 → Gr F H F2 H2 → H p = none → F2 p = none → H2 p = some (.lst vs) → DpAll K F2 vs ds → D'.nx (σ.set i (some (.ref p))) H2) : tAsg te (gName i) D' σ H :=
  h F H (Ex.refl F) (Ex.refl H) g.fh _ fun p vs F2 H2 s hp fp hl ha => k p vs F2 H2 (g.trans s) s hp fp hl ha
theorem s_ret (g : Gr F0 H0 F H) (h : EvD K te σ F H d) (q : Ans K F0 H0 d D'.rt) : tRet te D' σ H :=
  h F H (Ex.refl F) (Ex.refl H) g.fh _ fun v F2 H2 s hv => q v F2 H2 (g.trans s) hv
theorem s_drop (g : Gr F0 H0 F H) (h : EvD K te σ F H d) (k : ∀ H2, Gr F0 H0 F H2 → Ex H H2 → D'.nx σ H2) : tDrop te D' σ H :=
  h F H (Ex.refl F) (Ex.refl H) g.fh _ fun v F2 H2 s _ => k H2 (g.grow s.hx) s.hx
theorem s_if {b : Bool} (g : Gr F0 H0 F H) (h : EvB t σ F H b) (h1 : b = true → ∀ H2, Gr F0 H0 F H2 → Ex H H2 → tu D' σ H2) (h2 : b = false → ∀ H2, Gr F0 H0 F H2 → Ex H H2 → tw D' σ H2) : tIfS t tu tw D' σ H :=
  h F H (Ex.refl F) (Ex.refl H) g.fh _ fun H2 e => by
    cases b with
    | true =>
      show tu D' σ H2
      exact h1 rfl H2 (g.grow e) e
    | false =>
      show tw D' σ H2
      exact h2 rfl H2 (g.grow e) e
theorem s_aug {f : Int → Int → Int} {a b : Int} (g : Gr F0 H0 F H) (hx : σ[i]? = some (some (.int a))) (h : EvD K te σ F H (.int b)) (k : ∀ H2, Gr F0 H0 F H2 → Ex H H2 → D'.nx (σ.set i (some (.int (f a b)))) H2) : tAug i te (ipI f) D' σ H :=
  ⟨.int a, hx, h F H (Ex.refl F) (Ex.refl H) g.fh _ fun v F2 H2 s hv => by
    cases hv
    exact ⟨a, b, rfl, rfl, k H2 (g.grow s.hx) s.hx⟩⟩
/-- xs.append(e), xs one's own list -/
theorem s_app {l : Addr} {xs : List V} (g : Gr F0 H0 F H) (hl0 : H0 l = none) (fl : F l = none) (hl : H l = some (.lst xs)) (hv : σ[i]? = some (some (.ref l))) (hz : xs.length < 100000) (h : EvD K te σ F H d)
    (k : ∀ v F2 H2, Gr F0 H0 F2 H2 → Ex F F2 → (∀ p, H p ≠ none → F2 p = F p) → (∀ p o, p ≠ l → H p = some o → H2 p = some o) → H2 l = some (.lst (xs ++ [v])) → Dp K F2 v d → D'.nx σ H2) :
    tDrop (tBM K "list" rAppend (tVar i) (tCons te tNil)) D' σ H := by
  refine ⟨.ref l, hv, .inl ⟨rfl, xs, sq_of hl⟩, h F H (Ex.refl F) (Ex.refl H) g.fh _ fun v F2 H2 s hd => ?_⟩
  refine ⟨l, xs, v, rfl, rfl, s.hx l _ hl, sz_lt hz, ?_⟩
  have f2 : F2 l = none := (s.old l (by rw [hl]; exact fun z => nomatch z)).trans fl
  refine k v F2 _ ((g.trans s).mut hl0 f2) s.fx s.old (fun p o hp ho => ?_) upd_same hd
  rw [upd_ne hp]
  exact s.hx p o ho
/-- xs[i] = e, xs one's own list -/
theorem s_setL {l : Addr} {xs : List V} {n : Nat} {tb : TE} (g : Gr F0 H0 F H) (hl0 : H0 l = none) (fl : F l = none) (hl : H l = some (.lst xs)) (hv : σ[i]? = some (some (.ref l))) (h : EvD K te σ F H d) (hb : EvD K tb σ F H (.int (n : Int))) (hn : n < xs.length)
    (k : ∀ v F2 H2, Gr F0 H0 F2 H2 → Ex F F2 → (∀ p, H p ≠ none → F2 p = F p) → (∀ p o, p ≠ l → H p = some o → H2 p = some o) → H2 l = some (.lst (xs.set n v)) → Dp K F2 v d → D'.nx σ H2) :
    tAsg te (gSub (tVar i) tb rSetL) D' σ H := by
  refine h F H (Ex.refl F) (Ex.refl H) g.fh _ fun v F2 H2 s hd => ?_
  refine ⟨.ref l, hv, hb F2 H2 s.fx s.hx s.fh _ fun w F3 H3 s3 hw => ?_⟩
  cases hw
  have f2 : F2 l = none := (s.old l (by rw [hl]; exact fun z => nomatch z)).trans fl
  refine ⟨l, xs, _, n, rfl, rfl, s3.hx l _ (s.hx l _ hl), ixN_nat hn, ?_⟩
  refine k v F2 _ (((g.trans s).grow s3.hx).mut hl0 f2) s.fx s.old (fun p o hp ho => ?_) upd_same hd
  rw [upd_ne hp]
  exact s3.hx p o (s.hx p o ho)
/-! behind which more stands -/
theorem q_set (g : Gr F0 H0 F H) (h : EvD K te σ F H d) (k : ∀ v F2 H2, Gr F0 H0 F2 H2 → Gr F H F2 H2 → Dp K F2 v d → tz D' (σ.set i (some v)) H2) : tSeq (tAsg te (gName i)) tz D' σ H := s_set (D' := { D' with nx := tz D' }) g h k
theorem q_setV (g : Gr F0 H0 F H) (h : EvD K te σ F H d) (hs : scV d = some v) (k : ∀ H2, Gr F0 H0 F H2 → Ex H H2 → tz D' (σ.set i (some v)) H2) : tSeq (tAsg te (gName i)) tz D' σ H := s_setV (D' := { D' with nx := tz D' }) g h hs k
theorem q_setN (g : Gr F0 H0 F H) (h : EvN K te σ F H ds) (k : ∀ p vs F2 H2, Gr F0 H0 F2 H2 → Gr F H F2 H2 → H p = none → F2 p = none → H2 p = some (.lst vs) → DpAll K F2 vs ds → tz D' (σ.set i (some (.ref p))) H2) : tSeq (tAsg te (gName i)) tz D' σ H := s_setN (D' := { D' with nx := tz D' }) g h k
theorem q_drop (g : Gr F0 H0 F H) (h : EvD K te σ F H d) (k : ∀ H2, Gr F0 H0 F H2 → Ex H H2 → tz D' σ H2) : tSeq (tDrop te) tz D' σ H := s_drop (D' := { D' with nx := tz D' }) g h k
theorem q_if {b : Bool} (g : Gr F0 H0 F H) (h : EvB t σ F H b) (h1 : b = true → ∀ H2, Gr F0 H0 F H2 → Ex H H2 → tu { D' with nx := tz D' } σ H2) (h2 : b = false → ∀ H2, Gr F0 H0 F H2 → Ex H H2 → tw { D' with nx := tz D' } σ H2) : tSeq (tIfS t tu tw) tz D' σ H := s_if (D' := { D' with nx := tz D' }) g h h1 h2
/-- an if without else -/
theorem q_when {b : Bool} (g : Gr F0 H0 F H) (h : EvB t σ F H b) (h1 : b = true → ∀ H2, Gr F0 H0 F H2 → Ex H H2 → tu { D' with nx := tz D' } σ H2) (h2 : b = false → ∀ H2, Gr F0 H0 F H2 → Ex H H2 → tz D' σ H2) : tSeq (tIfS t tu tNext) tz D' σ H := s_if (D' := { D' with nx := tz D' }) g h h1 h2
theorem s_when {b : Bool} (g : Gr F0 H0 F H) (h : EvB t σ F H b) (h1 : b = true → ∀ H2, Gr F0 H0 F H2 → Ex H H2 → tu D' σ H2) (h2 : b = false → ∀ H2, Gr F0 H0 F H2 → Ex H H2 → D'.nx σ H2) : tIfS t tu tNext D' σ H := s_if g h h1 h2
/-- if c: x = e, where x is a plain value behind it either way -/
theorem q_ifSet {b : Bool} (g : Gr F0 H0 F H) (h : EvB t σ F H b) (h1 : b = true → EvD K te σ F H d) (h2 : b = false → σ.set i (some v) = σ) (hs : scV d = some v) (k : ∀ H2, Gr F0 H0 F H2 → Ex H H2 → tz D' (σ.set i (some v)) H2) : tSeq (tIfS t (tAsg te (gName i)) tNext) tz D' σ H :=
  q_when g h (fun hb H2 g2 e2 => s_setV (D' := { D' with nx := tz D' }) g2 ((h1 hb).up (Ex.refl F) e2) hs fun H3 g3 e3 => k H3 g3 (e2.trans e3)) fun hb H2 g2 e2 => by
    have z := k H2 g2 e2
    rw [h2 hb] at z
    exact z
theorem q_aug {f : Int → Int → Int} {a b : Int} (g : Gr F0 H0 F H) (hx : σ[i]? = some (some (.int a))) (h : EvD K te σ F H (.int b)) (k : ∀ H2, Gr F0 H0 F H2 → Ex H H2 → tz D' (σ.set i (some (.int (f a b)))) H2) : tSeq (tAug i te (ipI f)) tz D' σ H := s_aug (D' := { D' with nx := tz D' }) g hx h k
theorem q_app {l : Addr} {xs : List V} (g : Gr F0 H0 F H) (hl0 : H0 l = none) (fl : F l = none) (hl : H l = some (.lst xs)) (hv : σ[i]? = some (some (.ref l))) (hz : xs.length < 100000) (h : EvD K te σ F H d)
    (k : ∀ v F2 H2, Gr F0 H0 F2 H2 → Ex F F2 → (∀ p, H p ≠ none → F2 p = F p) → (∀ p o, p ≠ l → H p = some o → H2 p = some o) → H2 l = some (.lst (xs ++ [v])) → Dp K F2 v d → tz D' σ H2) :
    tSeq (tDrop (tBM K "list" rAppend (tVar i) (tCons te tNil))) tz D' σ H := s_app (D' := { D' with nx := tz D' }) g hl0 fl hl hv hz h k
theorem q_setL {l : Addr} {xs : List V} {n : Nat} {tb : TE} (g : Gr F0 H0 F H) (hl0 : H0 l = none) (fl : F l = none) (hl : H l = some (.lst xs)) (hv : σ[i]? = some (some (.ref l))) (h : EvD K te σ F H d) (hb : EvD K tb σ F H (.int (n : Int))) (hn : n < xs.length)
    (k : ∀ v F2 H2, Gr F0 H0 F2 H2 → Ex F F2 → (∀ p, H p ≠ none → F2 p = F p) → (∀ p o, p ≠ l → H p = some o → H2 p = some o) → H2 l = some (.lst (xs.set n v)) → Dp K F2 v d → tz D' σ H2) :
    tSeq (tAsg te (gSub (tVar i) tb rSetL)) tz D' σ H := s_setL (D' := { D' with nx := tz D' }) g hl0 fl hl hv h hb hn k
/-! ### what is walked -/
/-- an iterator that gives the data ds, one a turn -/
structure Wk (K : Fg) (J : It) (F : Hp) (ds : List D) : Prop where
  go : ∀ H i, Ex F H → i < ds.length → J.go i H
  yld : ∀ F1 H i x H', i < ds.length → Ex F F1 → Ex F1 H → J.yld i H x H' → ∃ F2 d, Gr F1 H F2 H' ∧ ds[i]? = some d ∧ Dp K F2 x d
  stop : ∀ H i, Ex F H → ds.length ≤ i → J.stop i H
def EvW (K : Fg) (wi : TI) (σ : L2.St) (F H : Hp) (ds : List D) : Prop := ∀ F1 H1, Ex F F1 → Ex H H1 → Ex F1 H1 → ∀ R : It → Hp → Prop, (∀ J F2 H2, Gr F1 H1 F2 H2 → Wk K J F2 ds → R J H2) → wi σ H1 R
theorem get_lt {α : Type} {xs : List α} {i : Nat} (h : i < xs.length) : ∃ x, xs[i]? = some x := ⟨_, List.getElem?_eq_getElem h⟩
theorem w_list (h : EvD K tl σ F H (.list ds)) : EvW K (iList K tl) σ F H ds := fun F1 H1 e1 e2 e3 R q => h F1 H1 e1 e2 e3 _ fun v F2 H2 g hv => by
  cases hv with
  | @lst a xs _ hs ha =>
    have hl := ha.length
    refine ⟨a, rfl, ⟨xs, ex_l g.fh hs⟩, q _ F2 H2 g ⟨fun H i e hi => ?_, fun F3 H i x H' hi e e' hy => ?_, fun H i e hi => ⟨xs, ex_l e hs, by rw [hl]; exact hi⟩⟩⟩
    · obtain ⟨x, hx⟩ := get_lt (xs := xs) (by rw [hl]; exact hi)
      exact ⟨xs, x, ex_l e hs, hx⟩
    · obtain ⟨rfl, hy⟩ := hy
      obtain ⟨d, h1, h2⟩ := ha.getV (hy xs (ex_l (e.trans e') hs))
      exact ⟨F3, d, Gr.refl e', h1, h2.up e⟩
theorem w_tup (h : EvD K tl σ F H (.tuple ds)) : EvW K (iTup K tl) σ F H ds := fun F1 H1 e1 e2 e3 R q => h F1 H1 e1 e2 e3 _ fun v F2 H2 g hv => by
  cases hv with
  | @tup a xs _ hs ha =>
    have hl := ha.length
    refine ⟨a, rfl, ⟨xs, ex_t g.fh hs⟩, q _ F2 H2 g ⟨fun H i e hi => ?_, fun F3 H i x H' hi e e' hy => ?_, fun H i e hi => ⟨xs, ex_t e hs, by rw [hl]; exact hi⟩⟩⟩
    · obtain ⟨x, hx⟩ := get_lt (xs := xs) (by rw [hl]; exact hi)
      exact ⟨xs, x, ex_t e hs, hx⟩
    · obtain ⟨rfl, hy⟩ := hy
      obtain ⟨d, h1, h2⟩ := ha.getV (hy xs (ex_t (e.trans e') hs))
      exact ⟨F3, d, Gr.refl e', h1, h2.up e⟩
def signD (c : Nat) : D := .str ⟨#[c]⟩
theorem w_str {z : Str} (h : EvD K tl σ F H (.str z)) : EvW K (iStr tl) σ F H (z.cps.toList.map signD) := fun F1 H1 e1 e2 e3 R q => h F1 H1 e1 e2 e3 _ fun v F2 H2 g hv => by
  cases hv
  have hl : (z.cps.toList.map signD).length = z.cps.size := by simp
  refine ⟨z, rfl, q _ F2 H2 g ⟨fun H i e hi => by rw [hl] at hi; exact hi, fun F3 H i x H' hi e e' hy => ?_, fun H i e hi => by rw [hl] at hi; exact hi⟩⟩
  obtain ⟨rfl, c, hc, rfl⟩ := hy
  refine ⟨F3, signD c, Gr.refl e', ?_, .str _⟩
  rw [List.getElem?_map, Array.getElem?_toList, hc]
  rfl
def iAny (K : Fg) (tl : TE) : TI := fun σ H R => iList K tl σ H R ∨ iTup K tl σ H R ∨ iStr tl σ H R
theorem pi_any {X : Cx} {K : Fg} {tg l : Expr} {tl : TE} (hl : PE X l tl) (hK : X.K = K := by rfl) : PI X tg l (iAny K tl) := hK ▸ ⟨fun pins s σ H R I h => by
  rcases h with h | h | h
  · exact (pi_list hl).run pins s σ H R I h
  · exact (pi_tup hl).run pins s σ H R I h
  · exact (pi_str hl).run pins s σ H R I h⟩
theorem w_anyL (h : EvD K tl σ F H (.list ds)) : EvW K (iAny K tl) σ F H ds := fun F1 H1 e1 e2 e3 R q => .inl (w_list h F1 H1 e1 e2 e3 R q)
theorem w_anyT (h : EvD K tl σ F H (.tuple ds)) : EvW K (iAny K tl) σ F H ds := fun F1 H1 e1 e2 e3 R q => .inr (.inl (w_tup h F1 H1 e1 e2 e3 R q))
theorem w_anyS {z : Str} (h : EvD K tl σ F H (.str z)) : EvW K (iAny K tl) σ F H (z.cps.toList.map signD) := fun F1 H1 e1 e2 e3 R q => .inr (.inr (w_str h F1 H1 e1 e2 e3 R q))
def rangeD (lo : Int) (n : Nat) : List D := (List.range n).map fun (i : Nat) => .int (lo + (i : Int))
theorem rangeD_len (lo : Int) (n : Nat) : (rangeD lo n).length = n := by unfold rangeD; simp
theorem rangeD_get {lo : Int} {n i : Nat} {d : D} (h : (rangeD lo n)[i]? = some d) : i < n ∧ d = .int (lo + (i : Int)) := by
  have hi : i < n := by
    have := (List.getElem?_eq_some_iff.mp h).1
    rwa [rangeD_len] at this
  refine ⟨hi, ?_⟩
  unfold rangeD at h
  rw [List.getElem?_map, List.getElem?_range hi] at h
  exact (Option.some.inj h).symm
theorem rangeD_mem {lo : Int} {n : Nat} {d : D} (h : d ∈ rangeD lo n) : ∃ i : Nat, i < n ∧ d = .int (lo + (i : Int)) := by
  unfold rangeD at h
  obtain ⟨i, hi, e⟩ := List.mem_map.mp h
  exact ⟨i, List.mem_range.mp hi, e.symm⟩
theorem wk_range {lo : Int} {n : Nat} : Wk K (Itr lo n) F (rangeD lo n) := by
  refine ⟨fun H i e hi => by rw [rangeD_len] at hi; exact hi, fun F3 H i x H' hi e e' hy => ?_, fun H i e hi => by rw [rangeD_len] at hi; exact hi⟩
  obtain ⟨rfl, rfl⟩ := hy
  rw [rangeD_len] at hi
  refine ⟨F3, .int (lo + (i : Int)), Gr.refl e', ?_, .int _⟩
  unfold rangeD
  rw [List.getElem?_map, List.getElem?_range hi]
  rfl
theorem w_range1 {ta : TA} {n : Int} (h : EvDs K ta σ F H [.int n]) (h1 : -(2 ^ 62) ≤ n) (h2 : n < 2 ^ 62) : EvW K (iRng1 ta) σ F H (rangeD 0 n.toNat) := fun F1 H1 e1 e2 e3 R q => h F1 H1 e1 e2 e3 _ fun vs F2 H2 g hv => by
  obtain ⟨w, rfl, hw⟩ := dps1 hv
  cases hw
  exact ⟨n, rfl, h1, h2, q _ F2 H2 g wk_range⟩
theorem w_range2 {ta : TA} {lo n : Int} (h : EvDs K ta σ F H [.int lo, .int n]) (h0 : -(2 ^ 62) ≤ lo ∧ lo < 2 ^ 62 ∧ -(2 ^ 62) ≤ n ∧ n < 2 ^ 62) : EvW K (iRng2 ta) σ F H (rangeD lo (n - lo).toNat) := fun F1 H1 e1 e2 e3 R q => h F1 H1 e1 e2 e3 _ fun vs F2 H2 g hv => by
  obtain ⟨v, w, rfl, hv, hw⟩ := dps2 hv
  cases hv
  cases hw
  exact ⟨lo, n, rfl, h0, q _ F2 H2 g wk_range⟩
/-! ### for -/
/-- what stands between two turns -/
def Btw (F0 H0 Fb : Hp) (P : L2.St → Hp → Hp → Prop) (σ : L2.St) (H : Hp) : Prop := ∃ F, Gr F0 H0 F H ∧ Ex Fb F ∧ P σ F H
theorem s_for (g : Gr F0 H0 F H) (h : EvW K wi σ F H ds)
    (k : ∀ F2 H2, Gr F0 H0 F2 H2 → Gr F H F2 H2 → ∃ P : Nat → L2.St → Hp → Hp → Prop, P 0 σ F2 H2 ∧
      (∀ i d σ' F' H', ds[i]? = some d → Gr F0 H0 F' H' → Ex F2 F' → P i σ' F' H' → ∀ x F3 H3, Gr F' H' F3 H3 → Dp K F3 x d →
        gt x σ' H3 fun σ2 H4 => tu { D' with nx := Btw F0 H0 F2 (P (i + 1)), ct := Btw F0 H0 F2 (P (i + 1)), bk := D'.nx } σ2 H4) ∧
      (∀ σ' F' H', Gr F0 H0 F' H' → Ex F2 F' → P ds.length σ' F' H' → D'.nx σ' H')) : tFor wi gt tu D' σ H :=
  h F H (Ex.refl F) (Ex.refl H) g.fh _ fun J F2 H2 s wk => by
    obtain ⟨P, p0, hs, hd⟩ := k F2 H2 (g.trans s) s
    refine ⟨fun i m σ' H' => m = ds.length - i ∧ i ≤ ds.length ∧ Btw F0 H0 F2 (P i) σ' H', ⟨ds.length, rfl, Nat.zero_le _, F2, g.trans s, Ex.refl _, p0⟩, ?_⟩
    rintro i m σ' H' ⟨rfl, hi, F', g', e', p⟩
    by_cases hlt : i < ds.length
    · refine .inr ⟨wk.go H' i (e'.trans g'.fh) hlt, Btw F0 H0 F2 (P (i + 1)), fun σ2 H3 p' => ⟨ds.length - (i + 1), by omega, rfl, hlt, p'⟩, fun x H3 y => ?_⟩
      obtain ⟨F3, d, g3, hd3, hx⟩ := wk.yld F' H' i x H3 hlt e' g'.fh y
      exact hs i d σ' F' H' hd3 g' e' p x F3 H3 g3 hx
    · have e : i = ds.length := by omega
      subst e
      exact .inl ⟨wk.stop H' _ (e'.trans g'.fh) (Nat.le_refl _), hd σ' F' H' g' e' p⟩
theorem q_for (g : Gr F0 H0 F H) (h : EvW K wi σ F H ds)
    (k : ∀ F2 H2, Gr F0 H0 F2 H2 → Gr F H F2 H2 → ∃ P : Nat → L2.St → Hp → Hp → Prop, P 0 σ F2 H2 ∧
      (∀ i d σ' F' H', ds[i]? = some d → Gr F0 H0 F' H' → Ex F2 F' → P i σ' F' H' → ∀ x F3 H3, Gr F' H' F3 H3 → Dp K F3 x d →
        gt x σ' H3 fun σ2 H4 => tu { D' with nx := Btw F0 H0 F2 (P (i + 1)), ct := Btw F0 H0 F2 (P (i + 1)), bk := tz D' } σ2 H4) ∧
      (∀ σ' F' H', Gr F0 H0 F' H' → Ex F2 F' → P ds.length σ' F' H' → tz D' σ' H')) : tSeq (tFor wi gt tu) tz D' σ H := s_for (D' := { D' with nx := tz D' }) g h k
/-- while: W falls; between two turns P -/
theorem s_while (g : Gr F0 H0 F H) (P : Nat → L2.St → Hp → Hp → Prop) (m0 : Nat) (p0 : P m0 σ F H)
    (hs : ∀ m σ' F' H', Gr F0 H0 F' H' → Ex F F' → P m σ' F' H' → ∃ b, EvB t σ' F' H' b ∧
      (b = true → ∀ H1, Gr F0 H0 F' H1 → Ex H' H1 → tu { D' with nx := fun σ2 H2 => ∃ m', m' < m ∧ Btw F0 H0 F (P m') σ2 H2, ct := fun σ2 H2 => ∃ m', m' < m ∧ Btw F0 H0 F (P m') σ2 H2, bk := D'.nx } σ' H1) ∧
      (b = false → ∀ H1, Gr F0 H0 F' H1 → Ex H' H1 → D'.nx σ' H1)) : tWhile t tu D' σ H :=
  ⟨fun m σ' H' => Btw F0 H0 F (P m) σ' H', ⟨m0, F, g, Ex.refl F, p0⟩, fun m σ' H' ⟨F', g', e', p⟩ => by
    obtain ⟨b, hb, h1, h2⟩ := hs m σ' F' H' g' e' p
    refine hb F' H' (Ex.refl _) (Ex.refl _) g'.fh _ fun H1 e => ?_
    cases b with
    | true => exact ⟨_, fun σ2 H2 n => n, h1 rfl H1 (g'.grow e) e⟩
    | false => exact h2 rfl H1 (g'.grow e) e⟩
theorem q_while (g : Gr F0 H0 F H) (P : Nat → L2.St → Hp → Hp → Prop) (m0 : Nat) (p0 : P m0 σ F H)
    (hs : ∀ m σ' F' H', Gr F0 H0 F' H' → Ex F F' → P m σ' F' H' → ∃ b, EvB t σ' F' H' b ∧
      (b = true → ∀ H1, Gr F0 H0 F' H1 → Ex H' H1 → tu { D' with nx := fun σ2 H2 => ∃ m', m' < m ∧ Btw F0 H0 F (P m') σ2 H2, ct := fun σ2 H2 => ∃ m', m' < m ∧ Btw F0 H0 F (P m') σ2 H2, bk := tz D' } σ' H1) ∧
      (b = false → ∀ H1, Gr F0 H0 F' H1 → Ex H' H1 → tz D' σ' H1)) : tSeq (tWhile t tu) tz D' σ H := s_while (D' := { D' with nx := tz D' }) g P m0 p0 hs
/-- the target a name -/
theorem s_forN (g : Gr F0 H0 F H) (h : EvW K wi σ F H ds)
    (k : ∀ F2 H2, Gr F0 H0 F2 H2 → Gr F H F2 H2 → ∃ P : Nat → L2.St → Hp → Hp → Prop, P 0 σ F2 H2 ∧
      (∀ i d σ' F' H', ds[i]? = some d → Gr F0 H0 F' H' → Ex F2 F' → P i σ' F' H' → ∀ x F3 H3, Gr F' H' F3 H3 → Dp K F3 x d →
        tu { D' with nx := Btw F0 H0 F2 (P (i + 1)), ct := Btw F0 H0 F2 (P (i + 1)), bk := D'.nx } (σ'.set j (some x)) H3) ∧
      (∀ σ' F' H', Gr F0 H0 F' H' → Ex F2 F' → P ds.length σ' F' H' → D'.nx σ' H')) : tFor wi (gName j) tu D' σ H := s_for (K := K) g h k
theorem q_forN (g : Gr F0 H0 F H) (h : EvW K wi σ F H ds)
    (k : ∀ F2 H2, Gr F0 H0 F2 H2 → Gr F H F2 H2 → ∃ P : Nat → L2.St → Hp → Hp → Prop, P 0 σ F2 H2 ∧
      (∀ i d σ' F' H', ds[i]? = some d → Gr F0 H0 F' H' → Ex F2 F' → P i σ' F' H' → ∀ x F3 H3, Gr F' H' F3 H3 → Dp K F3 x d →
        tu { D' with nx := Btw F0 H0 F2 (P (i + 1)), ct := Btw F0 H0 F2 (P (i + 1)), bk := tz D' } (σ'.set j (some x)) H3) ∧
      (∀ σ' F' H', Gr F0 H0 F' H' → Ex F2 F' → P ds.length σ' F' H' → tz D' σ' H')) : tSeq (tFor wi (gName j) tu) tz D' σ H := s_forN (D' := { D' with nx := tz D' }) g h k
/-- over range(n): what holds between two turns, of the slots and the heap alone -/
theorem s_forR {ta : TA} {n : Int} (g : Gr F0 H0 F H) (h : EvDs K ta σ F H [.int n]) (h1 : -(2 ^ 62) ≤ n) (h2 : n < 2 ^ 62) (P : Nat → L2.St → Hp → Hp → Prop) (p0 : ∀ H2, Gr F0 H0 F H2 → Ex H H2 → P 0 σ F H2)
    (hs : ∀ (i : Nat) σ' F' H', (i : Int) < n → Gr F0 H0 F' H' → Ex F F' → P i σ' F' H' → tu { D' with nx := Btw F0 H0 F (P (i + 1)), ct := Btw F0 H0 F (P (i + 1)), bk := D'.nx } (σ'.set j (some (.int (i : Int)))) H')
    (hd : ∀ σ' F' H', Gr F0 H0 F' H' → Ex F F' → P n.toNat σ' F' H' → D'.nx σ' H') : tFor (iRng1 ta) (gName j) tu D' σ H :=
  h F H (Ex.refl F) (Ex.refl H) g.fh _ fun vs F2 H2 s hv => by
    obtain ⟨w, rfl, hw⟩ := dps1 hv
    cases hw
    refine ⟨n, rfl, h1, h2, ?_⟩
    refine ⟨fun i m σ' H' => m = n.toNat - i ∧ i ≤ n.toNat ∧ Btw F0 H0 F (P i) σ' H', ⟨n.toNat, rfl, Nat.zero_le _, F, g.grow s.hx, Ex.refl _, p0 H2 (g.grow s.hx) s.hx⟩, ?_⟩
    rintro i m σ' H' ⟨rfl, hi, F', g', e', p⟩
    by_cases hlt : i < n.toNat
    · refine .inr ⟨hlt, Btw F0 H0 F (P (i + 1)), fun σ2 H3 p' => ⟨n.toNat - (i + 1), by omega, rfl, hlt, p'⟩, fun x H3 y => ?_⟩
      obtain ⟨rfl, rfl⟩ := y
      have e0 : (0 : Int) + (i : Int) = (i : Int) := Int.zero_add _
      rw [e0]
      exact hs i σ' F' _ (by omega) g' e' p
    · have e : i = n.toNat := by omega
      subst e
      exact .inl ⟨Nat.le_refl _, hd σ' F' H' g' e' p⟩
theorem q_forR {ta : TA} {n : Int} (g : Gr F0 H0 F H) (h : EvDs K ta σ F H [.int n]) (h1 : -(2 ^ 62) ≤ n) (h2 : n < 2 ^ 62) (P : Nat → L2.St → Hp → Hp → Prop) (p0 : ∀ H2, Gr F0 H0 F H2 → Ex H H2 → P 0 σ F H2)
    (hs : ∀ (i : Nat) σ' F' H', (i : Int) < n → Gr F0 H0 F' H' → Ex F F' → P i σ' F' H' → tu { D' with nx := Btw F0 H0 F (P (i + 1)), ct := Btw F0 H0 F (P (i + 1)), bk := tz D' } (σ'.set j (some (.int (i : Int)))) H')
    (hd : ∀ σ' F' H', Gr F0 H0 F' H' → Ex F F' → P n.toNat σ' F' H' → tz D' σ' H') : tSeq (tFor (iRng1 ta) (gName j) tu) tz D' σ H := s_forR (D' := { D' with nx := tz D' }) g h h1 h2 P p0 hs hd
theorem s_forR2 {ta : TA} {lo n : Int} (g : Gr F0 H0 F H) (h : EvDs K ta σ F H [.int lo, .int n]) (h1 : -(2 ^ 62) ≤ lo ∧ lo < 2 ^ 62 ∧ -(2 ^ 62) ≤ n ∧ n < 2 ^ 62) (P : Nat → L2.St → Hp → Hp → Prop) (p0 : ∀ H2, Gr F0 H0 F H2 → Ex H H2 → P 0 σ F H2)
    (hs : ∀ (i : Nat) σ' F' H', lo + (i : Int) < n → Gr F0 H0 F' H' → Ex F F' → P i σ' F' H' → tu { D' with nx := Btw F0 H0 F (P (i + 1)), ct := Btw F0 H0 F (P (i + 1)), bk := D'.nx } (σ'.set j (some (.int (lo + (i : Int))))) H')
    (hd : ∀ σ' F' H', Gr F0 H0 F' H' → Ex F F' → P (n - lo).toNat σ' F' H' → D'.nx σ' H') : tFor (iRng2 ta) (gName j) tu D' σ H :=
  h F H (Ex.refl F) (Ex.refl H) g.fh _ fun vs F2 H2 s hv => by
    obtain ⟨u, w, rfl, hu, hw⟩ := dps2 hv
    cases hu; cases hw
    refine ⟨lo, n, rfl, h1, ?_⟩
    refine ⟨fun i m σ' H' => m = (n - lo).toNat - i ∧ i ≤ (n - lo).toNat ∧ Btw F0 H0 F (P i) σ' H', ⟨(n - lo).toNat, rfl, Nat.zero_le _, F, g.grow s.hx, Ex.refl _, p0 H2 (g.grow s.hx) s.hx⟩, ?_⟩
    rintro i m σ' H' ⟨rfl, hi, F', g', e', p⟩
    by_cases hlt : i < (n - lo).toNat
    · refine .inr ⟨hlt, Btw F0 H0 F (P (i + 1)), fun σ2 H3 p' => ⟨(n - lo).toNat - (i + 1), by omega, rfl, hlt, p'⟩, fun x H3 y => ?_⟩
      obtain ⟨rfl, rfl⟩ := y
      exact hs i σ' F' _ (by omega) g' e' p
    · have e : i = (n - lo).toNat := by omega
      subst e
      exact .inl ⟨Nat.le_refl _, hd σ' F' H' g' e' p⟩
theorem q_forR2 {ta : TA} {lo n : Int} (g : Gr F0 H0 F H) (h : EvDs K ta σ F H [.int lo, .int n]) (h1 : -(2 ^ 62) ≤ lo ∧ lo < 2 ^ 62 ∧ -(2 ^ 62) ≤ n ∧ n < 2 ^ 62) (P : Nat → L2.St → Hp → Hp → Prop) (p0 : ∀ H2, Gr F0 H0 F H2 → Ex H H2 → P 0 σ F H2)
    (hs : ∀ (i : Nat) σ' F' H', lo + (i : Int) < n → Gr F0 H0 F' H' → Ex F F' → P i σ' F' H' → tu { D' with nx := Btw F0 H0 F (P (i + 1)), ct := Btw F0 H0 F (P (i + 1)), bk := tz D' } (σ'.set j (some (.int (lo + (i : Int))))) H')
    (hd : ∀ σ' F' H', Gr F0 H0 F' H' → Ex F F' → P (n - lo).toNat σ' F' H' → tz D' σ' H') : tSeq (tFor (iRng2 ta) (gName j) tu) tz D' σ H := s_forR2 (D' := { D' with nx := tz D' }) g h h1 P p0 hs hd
/-- if c: x = e, an int behind it either way, of which something holds -/
theorem q_ifInt {b : Bool} {S : Int → Prop} (g : Gr F0 H0 F H) (h : EvB t σ F H b) (h1 : b = true → ∃ z, EvD K te σ F H (.int z) ∧ S z) (h2 : b = false → ∃ z, σ.set i (some (.int z)) = σ ∧ S z)
    (k : ∀ z H2, S z → Gr F0 H0 F H2 → Ex H H2 → tz D' (σ.set i (some (.int z))) H2) : tSeq (tIfS t (tAsg te (gName i)) tNext) tz D' σ H :=
  q_when g h (fun hb H2 g2 e2 => by
    obtain ⟨z, hz, sz⟩ := h1 hb
    exact s_setV (D' := { D' with nx := tz D' }) g2 (hz.up (Ex.refl F) e2) rfl fun H3 g3 e3 => k z H3 sz g3 (e2.trans e3)) fun hb H2 g2 e2 => by
    obtain ⟨z, hz, sz⟩ := h2 hb
    have q := k z H2 sz g2 e2
    rw [hz] at q
    exact q
/-! ### comprehensions -/
theorem n_lc {vs : List Nat} (h : EvW K wi σ F H ds) (hz : ds.length ≤ 50000) (f : D → Bool) (e : D → D) (hw : ∀ x, wipe ((wipe σ vs).set j (some x)) vs = wipe σ vs)
    (ht : ∀ d x F' H', d ∈ ds → Ex F F' → Ex H H' → Ex F' H' → Dp K F' x d → EvB tt ((wipe σ vs).set j (some x)) F' H' (f d))
    (he : ∀ d x F' H', d ∈ ds → f d = true → Ex F F' → Ex H H' → Ex F' H' → Dp K F' x d → EvD K te ((wipe σ vs).set j (some x)) F' H' (e d)) :
    EvN K (tLc wi (gName j) tt te vs) σ F H ((ds.filter f).map e) := fun F1 H1 e1 e2 e3 Q q => h F1 H1 e1 e2 e3 _ fun J F2 H2 g2 wk Dl hD => by
  have f2 : F2 Dl = none := fresh_back g2.fh hD
  refine ⟨fun i m H' => m = ds.length - i ∧ i ≤ ds.length ∧ ∃ F' ws, Gr F2 H2 F' H' ∧ F' Dl = none ∧ H' Dl = some (.lst ws) ∧ DpAll K F' ws (((ds.take i).filter f).map e),
    ⟨ds.length, rfl, Nat.zero_le _, F2, [], Gr.own g2.fh hD, f2, upd_same, .nil⟩, ?_⟩
  rintro i m H' ⟨rfl, hi, F', ws, g', fl, hl, ha⟩
  by_cases hlt : i < ds.length
  · refine .inr ⟨wk.go H' i (g'.fx.trans g'.fh) hlt, fun H'' => ∃ F'' ws', Gr F2 H2 F'' H'' ∧ F'' Dl = none ∧ H'' Dl = some (.lst ws') ∧ DpAll K F'' ws' (((ds.take (i + 1)).filter f).map e), fun H'' p' => ⟨ds.length - (i + 1), by omega, rfl, hlt, p'⟩, fun x H3 y => ?_⟩
    obtain ⟨F3, d, g3, hd3, hx⟩ := wk.yld F' H' i x H3 hlt g'.fx g'.fh y
    have hm : d ∈ ds := List.mem_of_getElem? hd3
    have hne : H' Dl ≠ none := by rw [hl]; exact fun z => nomatch z
    have f3 : F3 Dl = none := (g3.old Dl hne).trans fl
    have l3 := g3.hx Dl _ hl
    have x1 : Ex F F3 := ((e1.trans g2.fx).trans g'.fx).trans g3.fx
    have x2 : Ex H H3 := ((e2.trans g2.hx).trans g'.hx).trans g3.hx
    have et : ds.take (i + 1) = ds.take i ++ [d] := by rw [List.take_add_one, hd3]; rfl
    refine ⟨hw x, ht d x F3 H3 hm x1 x2 g3.fh hx F3 H3 (Ex.refl _) (Ex.refl _) g3.fh _ fun H4 e4 => ?_⟩
    have g4 : Gr F2 H2 F3 H4 := (g'.trans g3).grow e4
    cases hf : f d with
    | true =>
      show te _ H4 _
      refine he d x F3 H4 hm hf x1 (x2.trans e4) g4.fh hx F3 H4 (Ex.refl _) (Ex.refl _) g4.fh _ fun v F5 H5 g5 hv => ?_
      have l4 := e4 Dl _ l3
      have l5 := g5.hx Dl _ l4
      have f5 : F5 Dl = none := (g5.old Dl (by rw [l4]; exact fun z => nomatch z)).trans f3
      have hlen : ws.length ≤ i := by
        rw [ha.length, List.length_map]
        exact Nat.le_trans (List.length_filter_le _ _) (by rw [List.length_take]; omega)
      refine ⟨ws, l5, sz_lt (by omega), F5, ws ++ [v], (g4.trans g5).mut hD f5, f5, upd_same, ?_⟩
      rw [et, List.filter_append, List.map_append]
      have : [d].filter f = [d] := by simp [hf]
      rw [this]
      exact (ha.up (g3.fx.trans g5.fx)).append (.cons hv .nil)
    | false =>
      show ∃ F'' ws', _
      refine ⟨F3, ws, g4, f3, e4 Dl _ l3, ?_⟩
      rw [et, List.filter_append, List.map_append]
      have : [d].filter f = [] := by simp [hf]
      rw [this, List.map_nil, List.append_nil]
      exact ha.up g3.fx
  · have ei : i = ds.length := by omega
    subst ei
    rw [List.take_length] at ha
    refine .inl ⟨wk.stop H' _ (g'.fx.trans g'.fh) (Nat.le_refl _), q Dl ws F' H' (g2.trans g') (g2.back hD) fl hl ha⟩
theorem filter_all {α : Type} (xs : List α) : xs.filter (fun _ => true) = xs := by induction xs with
  | nil => rfl
  | cons x r ih => simp [List.filter_cons]
/-- without if -/
theorem n_lc1 {vs : List Nat} (h : EvW K wi σ F H ds) (hz : ds.length ≤ 50000) (e : D → D) (hw : ∀ x, wipe ((wipe σ vs).set j (some x)) vs = wipe σ vs)
    (he : ∀ d x F' H', d ∈ ds → Ex F F' → Ex H H' → Ex F' H' → Dp K F' x d → EvD K te ((wipe σ vs).set j (some x)) F' H' (e d)) :
    EvN K (tLc wi (gName j) tYes te vs) σ F H (ds.map e) :=
  (n_lc h hz (fun _ => true) e hw (fun _ _ _ _ _ _ _ _ _ => b_yes) (fun d x F' H' hm _ => he d x F' H' hm)).to (by rw [filter_all])
end
section
variable {P : Program} {w : World} {K : Fg} {mg : Str → Option Value} {base : Heap} {k : Nat} {x : Str} {st : Stmt} {N ps : List Str}
theorem Df.dkN {R : List D → List D → Prop} (D0 : Df K mg x st ps) (S : FnScope N ps (defScope st)) (hl : ∀ ds r, R ds r → ds.length = ps.length)
    (hb : ∀ (f : Addr) (cdv : Value) (A : Around) (outer : List Env) (s : Shared) (H : Hp) (E : XK), Room k (A.deeper (envOfC x (defScope st) s.heap.objs.size f cdv)) →
      ∃ t, PSs (cxOf CX0 P w K mg base N x (defScope st) f cdv A outer s H E).nox (defBody st) t ∧
        ∀ vs F0 ds es Q, Ex F0 H → DpAll K F0 vs ds → R ds es → AnsN K F0 H es Q → t { nx := fun _ H' => Q .non H', rt := Q } (start N vs) H) : Dk P w K mg base (k + 1) x ps (spN K R) := by
  refine D0.dkS S (fun vs H Q E ⟨F, ds, es, _, ha, hr, _⟩ => by rw [ha.length]; exact hl ds es hr) fun f cdv A outer s H E hr => ?_
  obtain ⟨t, h1, h2⟩ := hb f cdv A outer s H E hr
  exact ⟨t, h1, fun vs Q ⟨F0, ds, r, fh, ha, hR, q⟩ => h2 vs F0 ds r Q fh ha hR q⟩
end
end Ly
/-! LyD: methods of texts and lists, more built-ins. -/
namespace Ly
open PySem L2 Evl PyProof.Rows
section
variable {X : Cx} {K : Fg} {o e : Expr} {es : List Expr} {to : TE} {t : TA} {name : Str} {apos cpos : Pos} {T id : String} {r : V → List V → Hp → VK → Prop}
theorem bm0 (pa : PlainAttrs T) (slot : Slot T name id) (hty : typeOf (.builtin id) = pure (.type "method_descriptor")) (hm : MtR X id r) (ho : PE X o to) (hK : X.K = K := by rfl)
    (hbase : attributeBase o name X.env (eval o X.env) = eval o X.env := by rfl) (hline : (apos.endLine == cpos.line) = true := by rfl) : PE X (.Call (.Attribute o name apos) [] [] cpos) (tBM0 K T r to) := by
  subst hK
  exact pe_bm0 pa slot hty hm ho hbase hline
theorem bm (pa : PlainAttrs T) (slot : Slot T name id) (hty : typeOf (.builtin id) = pure (.type "method_descriptor")) (hm : MtR X id r) (ho : PE X o to) (ha : PA X (e :: es) t) (hK : X.K = K := by rfl)
    (hbase : attributeBase o name X.env (eval o X.env) = eval o X.env := by rfl)
    (hfew : ((backTo cpos (starEach (e :: es) X.env)).all (fun x => !x.1) && (backToKw cpos (keywordEach [] X.env)).all (fun x => x.1.isSome)
      && decide ((e :: es).length + ([] : List Keyword).length + (if ([] : List Keyword).isEmpty then 0 else 1) < 30)) = true := by rfl)
    (hline : (apos.endLine == cpos.line) = true := by rfl) (hs : starEach (e :: es) X.env = (false, eval e X.env) :: starEach es X.env := by rfl) (hplain : (backTo cpos (starEach es X.env)).any (·.1) = false := by rfl) :
    PE X (.Call (.Attribute o name apos) (e :: es) [] cpos) (tBM K T r to t) := by
  subst hK
  exact pe_bm pa slot hty hm ho ha hbase hfew hline hs hplain
end
/-! ### methods of texts -/
inductive IndexD : D → List D → D → Prop
  | mk (a b : Str) (i : Nat) (rest : List Nat) (h : Builtin.Str.occurrences a b 0 a.length 1 = i :: rest) : IndexD (.str a) [.str b] (.int (i : Int))
inductive FindD : D → List D → D → Prop
  | mk (a b : Str) : FindD (.str a) [.str b] (.int (match Builtin.Str.occurrences a b 0 a.length 1 with | i :: _ => (i : Int) | [] => -1))
inductive JoinD : D → List D → D → Prop
  | list (a : Str) (ys : List Str) (h : (ys.map (·.length)).sum + ys.length * a.length ≤ 16777216) : JoinD (.str a) [.list (ys.map PyData.str)] (.str (Txt.join a ys))
section
variable {K : Fg} {X : Cx} {σ : L2.St} {F H : Hp} {to : TE} {t : TA} {ds : List D} {r : D} {z : Str}
theorem mt_of {id : String} {rr : V → List V → Hp → VK → Prop} {R : D → List D → D → Prop} (h : MtR X id rr)
    (hr : ∀ F H x xs d ds z Q, Ex F H → Dp X.K F x d → DpAll X.K F xs ds → R d ds z → Ans X.K F H z Q → rr x xs H Q) (hK : X.K = K := by rfl) : MtR X id (rDm K R) := by
  subst hK
  exact fun pins s σ H x xs v us Q I rx rs ⟨F, d, ds, z, fh, hx, hxs, hR, q⟩ => h pins s σ H x xs v us Q I rx rs (hr F H x xs d ds z Q fh hx hxs hR q)
theorem mIndex (hK : X.K = K := by rfl) : MtR X "str.index" (rDm K IndexD) := mt_of mt_sindex (fun F H x xs d ds z Q fh hx hxs hR q => by
  obtain ⟨a, b, i, rest, h⟩ := hR
  obtain ⟨v, rfl, hv⟩ := dps1 hxs
  cases hx; cases hv
  exact ⟨a, b, i, rest, rfl, rfl, h, q.sc fh rfl⟩) hK
theorem mFind (hK : X.K = K := by rfl) : MtR X "str.find" (rDm K FindD) := mt_of mt_find (fun F H x xs d ds z Q fh hx hxs hR q => by
  obtain ⟨a, b⟩ := hR
  obtain ⟨v, rfl, hv⟩ := dps1 hxs
  cases hx; cases hv
  exact ⟨a, b, rfl, rfl, q.sc fh rfl⟩) hK
theorem mJoin (hK : X.K = K := by rfl) : MtR X "str.join" (rDm K JoinD) := mt_of mt_join (fun F H x xs d ds z Q fh hx hxs hR q => by
  obtain ⟨a, ys, h⟩ := hR
  obtain ⟨v, rfl, hv⟩ := dps1 hxs
  cases hx
  cases hv with
  | lst s1 a1 =>
    have e := dps_strs_inv ys a1
    subst e
    exact ⟨a, _, ys, rfl, rfl, .inl (ex_l fh s1), h, q.sc fh rfl⟩) hK
theorem d_bm {R : D → List D → D → Prop} (ho : EvD K to σ F H (.str z)) (ha : EvDs K t σ F H ds) (hr : R (.str z) ds r) : EvD K (tBM K "str" (rDm K R) to t) σ F H r := fun F1 H1 e1 e2 e3 Q q =>
  ho F1 H1 e1 e2 e3 _ fun x F2 H2 g2 hx => ⟨tyV_str hx, ha F2 H2 (e1.trans g2.fx) (e2.trans g2.hx) g2.fh _ fun xs F3 H3 g3 hxs => ⟨F3, .str z, ds, r, g3.fh, hx.up g3.fx, hxs, hr, fun v F4 H4 g4 hv => q v F4 H4 ((g2.trans g3).trans g4) hv⟩⟩
end
/-! ### more calls -/
section
variable {X : Cx} {K : Fg}
theorem jDivmod (hK : X.K = K := by rfl) : CallR X (.builtin "divmod") (rDn K DivmodD) := by
  subst hK
  refine cn_of call_divmod fun F H xs ds z Q fh hx hR q => ?_
  cases hR with
  | int i j h =>
    obtain ⟨v, w, rfl, hv, hw⟩ := dps2 hx
    cases hv; cases hw
    exact ⟨i, j, rfl, h, fun p hp => q.tup fh (.cons (.int _) (.cons (.int _) .nil)) hp⟩
theorem jAll (hc : X.calm = true) (hK : X.K = K := by rfl) : CallR X (.builtin "all") (rDn K AllD) := by
  subst hK
  refine cn_of (cr_all hc) fun F H xs ds z Q fh hx hR q => ?_
  cases hR with
  | list bs =>
    obtain ⟨v, rfl, hv⟩ := dps1 hx
    cases hv with
    | lst s1 a1 =>
      have e := dps_bools_inv bs a1
      subst e
      exact ⟨_, bs, rfl, ex_l fh s1, q.sc fh rfl⟩
theorem jAny (hc : X.calm = true) (hK : X.K = K := by rfl) : CallR X (.builtin "any") (rDn K AnyD) := by
  subst hK
  refine cn_of (cr_any hc) fun F H xs ds z Q fh hx hR q => ?_
  cases hR with
  | list bs =>
    obtain ⟨v, rfl, hv⟩ := dps1 hx
    cases hv with
    | lst s1 a1 =>
      have e := dps_bools_inv bs a1
      subst e
      exact ⟨_, bs, rfl, ex_l fh s1, q.sc fh rfl⟩
theorem jSum (hc : X.calm = true) (hK : X.K = K := by rfl) : CallR X (.builtin "sum") (rDn K SumD) := by
  subst hK
  refine cn_of (cr_sum hc) fun F H xs ds z Q fh hx hR q => ?_
  cases hR with
  | list ns =>
    obtain ⟨v, rfl, hv⟩ := dps1 hx
    cases hv with
    | lst s1 a1 =>
      have e := dps_ints_inv ns a1
      subst e
      exact ⟨_, ns, rfl, ex_l fh s1, q.sc fh rfl⟩
end
/-! ### texts by their signs -/
theorem str_app (a b : List Nat) : (⟨a.toArray⟩ ++ ⟨b.toArray⟩ : Str) = ⟨(a ++ b).toArray⟩ := by
  show Str.append _ _ = _
  unfold Str.append
  simp
theorem str_len (a : List Nat) : (⟨a.toArray⟩ : Str).length = a.length := by
  unfold Str.length
  simp
end Ly
namespace Ly
open PySem L2 Evl PyProof.Rows
/-! ### calls with keywords, n positional ones ahead, the keywords in the parameters' order -/
def gOf {α : Type} (n : Nat) (us ws : List α) : List α := if us.length = n then us ++ ws else []
section
variable {P : Program} {w : World} {K : Fg} {mg : Str → Option Value} {base : Heap} {k : Nat} {x : Str} {st : Stmt} {ps ks : List Str}
theorem clK {X : Cx} {sp : Sp} {p pos : Pos} {e : Expr} {es : List Expr} {kws : List Keyword} {t tk : TA} {j : Nat} (h : Dk P w K mg base k x ps sp) (D0 : Df K mg x st ps) (hr : Room j X.A) (n m : Nat) (hn : 0 < ps.length) (hnm : n + m = ps.length)
    (hb : ∀ (kV doc pm : Value) (an : Option Addr) (cdv ct : Value) (us ws : List Value), us.length = n → ws.length = m → bindArgs (PySem.W.fnOf x x (defArgs st) (defBody st) (defScope st) .none kV doc pm an cdv ct) ⟨us, ks.zip ws⟩ = pure (ps.zip (us ++ ws)))
    (ha : PA X (e :: es) t) (hkw : PK X kws tk) (hj : k ≤ j := by first | decide | omega) (hg : Gl X x := by rfl)
    (hP : X.prog = P := by rfl) (hw : X.w = w := by rfl) (hK : X.K = K := by rfl) (hm : X.mg = mg := by rfl) (hB : X.base = base := by rfl)
    (hall : (backToKw pos (keywordEach kws X.env)).all (·.1.isSome) = true := by rfl) (hks : (backToKw pos (keywordEach kws X.env)).filterMap (·.1) = ks := by rfl)
    (hdb : (x == ("__debug__" : Str)) = false := by decide) (he : starEach (e :: es) X.env = (false, eval e X.env) :: starEach es X.env := by rfl)
    (hpl : ((backTo pos (starEach (e :: es) X.env)).any (·.1) || (backToKw pos (keywordEach kws X.env)).any (·.1.isNone)) = false := by rfl) :
    PE X (.Call (.Name x p) (e :: es) kws pos) (tCallK sp (gOf n) E0 t tk) := by
  subst hP hw hK hm hB
  obtain ⟨f, fd, h1, h2, h3, h4, o, l, d⟩ := h.ex
  obtain ⟨f', fd', F, hm', _⟩ := D0.ex
  have e1 := h1.symm.trans hm'
  cases e1
  obtain ⟨o', l', d'⟩ := fun_at F
  have e2 := l.symm.trans l'
  cases e2
  have e3 := d.symm.trans d'
  cases e3
  obtain ⟨oc, od, kV, doc, pm, an, cdv, ct, osl, rfl, lk, hcd⟩ := F.ex
  refine pe_callK h2 (hr.mono hj) hg h1 h3 (g := gOf n) (gV := gOf n) ⟨fun s us ws _ hl => ?_, fun {vs us zs ws} r1 r2 => ?_⟩ pass0 ha hkw hall hks hdb he hpl
  · unfold gOf at hl ⊢
    split at hl
    · rename_i hu
      rw [if_pos hu]
      refine .of_eq (hb kV doc pm an cdv ct us ws hu ?_)
      rw [List.length_append] at hl
      omega
    · rw [List.length_nil] at hl
      omega
  · unfold gOf
    rw [r1.length]
    split
    · exact r1.append r2
    · exact .nil
theorem d_callK {R : List D → D → Prop} {E : XK} {σ : L2.St} {F H : Hp} {ta tk : TA} {n : Nat} {ds es : List D} {r : D} (ha : EvDs K ta σ F H ds) (hk : EvDs K tk σ F H es) (hn : ds.length = n) (hr : R (ds ++ es) r) : EvD K (tCallK (spR K R) (gOf n) E ta tk) σ F H r := fun F1 H1 e1 e2 e3 Q q =>
  ha F1 H1 e1 e2 e3 _ fun xs F2 H2 g2 hx => hk F2 H2 (e1.trans g2.fx) (e2.trans g2.hx) g2.fh _ fun ys F3 H3 g3 hy => by
    show rDn K R (gOf n xs ys) H3 Q
    have e : gOf n xs ys = xs ++ ys := by unfold gOf; rw [if_pos (by rw [hx.length]; exact hn)]
    rw [e]
    exact ⟨F3, ds ++ es, r, g3.fh, (hx.up g3.fx).append hy, hr, fun v F4 H4 g4 hv => q v F4 H4 ((g2.trans g3).trans g4) hv⟩
end
end Ly
/-! LyE: xs[i] += e, sums of tuples. -/
namespace Ly
open PySem L2 Evl PyProof.Rows
/-! ### xs[i] op= e of a list that is one's own -/
def rGetL : V → V → Hp → VK → Prop := fun o i H Q => ∃ (l : Addr) (xs : List V) (n : Nat) (v : V), o = .ref l ∧ i = .int (n : Int) ∧ H l = some (.lst xs) ∧ xs[n]? = some v ∧ Q v H
theorem get_list {X : Cx} : PGet X rGetL := by
  intro pins s σ H o i ov iv Q I ro ri h
  obtain ⟨l, xs, n, v, rfl, rfl, hl, hx, q⟩ := h
  cases ro
  obtain ⟨t, rfl⟩ := ri
  obtain ⟨its, r, pl, hz⟩ := I.list (SqL.of hl)
  obtain ⟨u, hu, ru⟩ := r.get hx
  have hn := (List.getElem?_eq_some_iff.mp hx).1
  have h63 := line63
  exact wpAny_getItem_list pl.isList (Int.natCast_nonneg n) (by omega) (by rw [Int.toNat_natCast]; simpa using hu) ⟨v, H, I, ru, q⟩
section
variable {K : Fg} {σ : L2.St} {F H F0 H0 : Hp} {te ti : TE} {i : Nat} {D' : Ends} {tz : TS}
theorem s_augL {f : Int → Int → Int} {l : Addr} {xs : List V} {n : Nat} {a b : Int} (g : Gr F0 H0 F H) (hl0 : H0 l = none) (fl : F l = none) (hl : H l = some (.lst xs)) (hv : σ[i]? = some (some (.ref l))) (hi : EvD K ti σ F H (.int (n : Int))) (hx : xs[n]? = some (.int a)) (h : EvD K te σ F H (.int b))
    (k : ∀ H2, Gr F0 H0 F H2 → (∀ p o, p ≠ l → H p = some o → H2 p = some o) → H2 l = some (.lst (xs.set n (.int (f a b)))) → D'.nx σ H2) : tAugS (tVar i) ti te rGetL (ipI f) rSetL D' σ H := by
  refine ⟨.ref l, hv, hi F H (Ex.refl F) (Ex.refl H) g.fh _ fun w F2 H2 s2 hw => ?_⟩
  cases hw
  refine ⟨l, xs, n, .int a, rfl, rfl, s2.hx _ _ hl, hx, h F H2 (Ex.refl F) s2.hx (g.fh.trans s2.hx) _ fun w F3 H3 s3 hw => ?_⟩
  cases hw
  have hn := (List.getElem?_eq_some_iff.mp hx).1
  refine ⟨a, b, rfl, rfl, l, xs, (n : Int), n, rfl, rfl, s3.hx _ _ (s2.hx _ _ hl), ixN_nat hn, ?_⟩
  refine k _ (((g.grow s2.hx).grow s3.hx).mut hl0 fl) (fun p o hp ho => ?_) upd_same
  rw [upd_ne hp]
  exact s3.hx p o (s2.hx p o ho)
theorem q_augL {f : Int → Int → Int} {l : Addr} {xs : List V} {n : Nat} {a b : Int} (g : Gr F0 H0 F H) (hl0 : H0 l = none) (fl : F l = none) (hl : H l = some (.lst xs)) (hv : σ[i]? = some (some (.ref l))) (hi : EvD K ti σ F H (.int (n : Int))) (hx : xs[n]? = some (.int a)) (h : EvD K te σ F H (.int b))
    (k : ∀ H2, Gr F0 H0 F H2 → (∀ p o, p ≠ l → H p = some o → H2 p = some o) → H2 l = some (.lst (xs.set n (.int (f a b)))) → tz D' σ H2) : tSeq (tAugS (tVar i) ti te rGetL (ipI f) rSetL) tz D' σ H := s_augL (D' := { D' with nx := tz D' }) g hl0 fl hl hv hi hx h k
end
/-! ### calls that hand out a new list -/
def rNew (K : Fg) (R : List D → List D → Prop) : List V → Hp → VK → Prop := fun vs H Q => ∃ F ds es, Ex F H ∧ DpAll K F vs ds ∧ R ds es ∧ AnsN K F H es Q
inductive ListN : List D → List D → Prop
  | list (ds : List D) : ListN [.list ds] ds
  | tup (ds : List D) : ListN [.tuple ds] ds
theorem AnsN.lst {K : Fg} {F H : Hp} {es : List D} {Q : VK} (q : AnsN K F H es Q) (fh : Ex F H) {vs : List V} (h : DpAll K F vs es) {p : Addr} (hp : H p = none) : Q (.ref p) (upd H p (.lst vs)) :=
  q p vs F _ (Gr.own fh hp) hp (fresh_back fh hp) upd_same h
theorem jListN {X : Cx} {K : Fg} (hK : X.K = K := by rfl) : CallR X (.type "list") (rNew K ListN) := by
  subst hK
  rintro pins s σ H xs us Q I rx ⟨F, ds, es, fh, hx, hR, q⟩
  refine call_list_of pins s σ H xs us Q I rx ?_
  cases hR with
  | list ds =>
    obtain ⟨v, rfl, hv⟩ := dps1 hx
    cases hv with
    | lst s1 a1 => exact ⟨_, _, rfl, .inl (ex_l fh s1), fun p hp => q.lst fh a1 hp⟩
  | tup ds =>
    obtain ⟨v, rfl, hv⟩ := dps1 hx
    cases hv with
    | tup s1 a1 => exact ⟨_, _, rfl, .inr (ex_t fh s1), fun p hp => q.lst fh a1 hp⟩
theorem n_cb {K : Fg} {σ : L2.St} {F H : Hp} {R : List D → List D → Prop} {ta : TA} {ds es : List D} (ha : EvDs K ta σ F H ds) (hr : R ds es) : EvN K (tCB (rNew K R) ta) σ F H es := fun F1 H1 e1 e2 e3 Q q =>
  ha F1 H1 e1 e2 e3 _ fun xs F2 H2 g2 hx => ⟨F2, ds, es, g2.fh, hx, hr, fun p ws F3 H3 g3 hp fp hl ha => q p ws F3 H3 (g2.trans g3) (g2.back hp) fp hl ha⟩
/-! ### sum of a tuple of ints -/
inductive SumTD : List D → D → Prop
  | list (ns : List Int) : SumTD [.list (ns.map PyData.int)] (.int ns.sum)
  | tup (ns : List Int) : SumTD [.tuple (ns.map PyData.int)] (.int ns.sum)
theorem sum_rawT {prog : Program} {w : World} {A : Around} {E : Value → Shared → Prop} {s : Shared} {l : Addr} {its : List Value} {ns : List Int} {Q : Value → Shared → Prop} (hh : A.handled = none) (hl : s.heap.IsTuple l its.toArray) (hi : IntsAre its ns)
    (h : ∀ h' tk t', (∀ b o, s.heap.get? b = some o → h'.get? b = some o) → Q (.int ns.sum t') { s with heap := h', toks := tk }) : wpAny (model prog w) A (call (.builtin "sum") [.ref l]) Q E s := by
  obtain ⟨xs, e⟩ := hi.allInts.items
  have hn : numsOf (intItems xs).toList = ns := by rw [← e]; exact hi.numsOf
  rw [nums_intItems] at hn
  rw [e] at hl
  refine PySem.W.ktm_sumG hh hl fun h' tk t' hk => ?_
  have := h h' tk t' hk
  rw [preSum_eq, List.take_of_length_le (by simp), hn]; exact this
section
variable {X : Cx} {K : Fg}
theorem jSumT (hc : X.calm = true) (hK : X.K = K := by rfl) : CallR X (.builtin "sum") (rDn K SumTD) := by
  subst hK
  rintro pins s σ H xs us Q I rx ⟨F, ds, z, fh, hx, hR, q⟩
  cases hR with
  | list ns =>
    obtain ⟨v, rfl, hv⟩ := dps1 hx
    cases hv with
    | lst s1 a1 =>
      have e := dps_ints_inv ns a1
      subst e
      exact cr_sum hc pins s σ H _ us Q I rx ⟨_, ns, rfl, ex_l fh s1, q.sc fh rfl⟩
  | tup ns =>
    obtain ⟨v, rfl, hv⟩ := dps1 hx
    cases hv with
    | tup s1 a1 =>
      have e := dps_ints_inv ns a1
      subst e
      obtain ⟨its, rv, hl, _⟩ := I.tuple (ex_t fh s1)
      rw [Vals.ref1 rx]
      exact sum_rawT (I.ok.hd hc) hl rv.ints fun h' tk t' hk => ⟨.int _, H, I.kept hk, ⟨_, rfl⟩, q.sc fh rfl⟩
end
end Ly
/-! LyF: ifs that meet again, texts joined. -/
namespace Ly
open PySem L2 Evl PyProof.Rows
section
variable {K : Fg} {σ : L2.St} {F H F0 H0 : Hp} {t : TT} {D' : Ends} {tu tw tz : TS}
/-- an if whose branches meet again in J -/
theorem q_ifJ {b : Bool} (J : L2.St → Hp → Hp → Prop) (g : Gr F0 H0 F H) (h : EvB t σ F H b) (k : ∀ σ' F' H', Gr F0 H0 F' H' → Ex F F' → Ex H H' → J σ' F' H' → tz D' σ' H')
    (h1 : b = true → ∀ H2, Gr F0 H0 F H2 → Ex H H2 → (∀ σ' F' H', Gr F0 H0 F' H' → Ex F F' → Ex H H' → J σ' F' H' → tz D' σ' H') → tu { D' with nx := tz D' } σ H2)
    (h2 : b = false → ∀ H2, Gr F0 H0 F H2 → Ex H H2 → (∀ σ' F' H', Gr F0 H0 F' H' → Ex F F' → Ex H H' → J σ' F' H' → tz D' σ' H') → tw { D' with nx := tz D' } σ H2) : tSeq (tIfS t tu tw) tz D' σ H :=
  q_if g h (fun hb H2 g2 e2 => h1 hb H2 g2 e2 k) fun hb H2 g2 e2 => h2 hb H2 g2 e2 k
end
/-! ### joined signs -/
theorem joinL_one : ∀ cs : List Nat, TL.joinL [] (cs.map fun c => [c]) = cs
  | [] => rfl
  | [c] => rfl
  | c :: d :: r => by
    have h := joinL_one (d :: r)
    show [c] ++ ([] ++ TL.joinL [] ((d :: r).map fun c => [c])) = _
    rw [h]
    rfl
theorem join_signs (cs : List Nat) : Txt.join ⟨#[]⟩ (cs.map fun c => (⟨#[c]⟩ : Str)) = ⟨cs.toArray⟩ := by
  have h := SX.join_S [] (cs.map fun c => [c])
  rw [List.map_map, joinL_one] at h
  exact h
theorem sum_ones : ∀ cs : List Nat, ((cs.map fun c => (⟨#[c]⟩ : Str)).map (·.length)).sum = cs.length
  | [] => rfl
  | c :: r => by
    have h := sum_ones r
    simp only [List.map_cons, List.sum_cons, List.length_cons]
    rw [h]
    show 1 + r.length = r.length + 1
    omega
theorem atI_getN {cs : List Nat} {i : Int} (h0 : 0 ≤ i) (h1 : i < (cs.length : Int)) : atI cs i = some (cs.getD i.toNat 0) := by
  have hj : i.toNat < cs.length := by omega
  have e : i = ((i.toNat : Nat) : Int) := by omega
  have h : cs[i.toNat]? = some (cs.getD i.toNat 0) := by
    rw [List.getElem?_eq_getElem hj, List.getD_eq_getElem?_getD, List.getElem?_eq_getElem hj]
    rfl
  exact (congrArg (atI cs) e).trans (atI_nat h)
end Ly
/-! LyG: recursion, pairs as targets, pop, reverse, str(). -/
namespace Ly
open PySem L2 Evl PyProof.Rows
section
variable {P : Program} {w : World} {K : Fg} {mg : Str → Option Value} {base : Heap} {k : Nat} {x : Str} {st : Stmt} {N ps : List Str}
/-- of a def that is never called so, anything -/
theorem Df.dk0 {R : List D → D → Prop} (D0 : Df K mg x st ps) (no : ∀ ds r, ¬ R ds r) : Dk P w K mg base k x ps (spR K R) := by
  obtain ⟨f, fd, F, hm, b⟩ := D0.ex
  have no' : ∀ vs H Q E, ¬ spR K R vs H Q E := fun vs H Q E ⟨_, ds, r, _, _, hR, _⟩ => no ds r hR
  exact ⟨f, fd, hm, ⟨fun vs H Q E h => (no' vs H Q E h).elim, fun A outer s H args us vs Q E _ _ _ _ h => (no' vs H Q E h).elim⟩, F.kp, .all b, fun_at F⟩
end
section
variable {K : Fg} {σ : L2.St} {F H F0 H0 : Hp} {te ti : TE} {i j m : Nat} {D' : Ends} {tz : TS} {gt : TG} {ds : List D} {d : D}
/-! ### a pair as target -/
theorem g_two {x : V} {d1 d2 : D} {Q : L2.St → Hp → Prop} (hx : Dp K F x (.tuple [d1, d2])) (e : Ex F H) (k : ∀ v1 v2, Dp K F v1 d1 → Dp K F v2 d2 → Q ((σ.set i (some v1)).set j (some v2)) H) : gTup K 2 (gCons (gName i) (gCons (gName j) gNil)) x σ H Q := by
  cases hx with
  | tup hs ha =>
    obtain ⟨v1, v2, rfl, h1, h2⟩ := dps2 ha
    exact ⟨_, _, rfl, ex_t e hs, rfl, v1, [v2], rfl, v2, [], rfl, rfl, k v1 v2 h1 h2⟩
/-- a, b = e -/
theorem s_set2 {d1 d2 : D} (g : Gr F0 H0 F H) (h : EvD K te σ F H (.tuple [d1, d2])) (k : ∀ v1 v2 F2 H2, Gr F0 H0 F2 H2 → Gr F H F2 H2 → Dp K F2 v1 d1 → Dp K F2 v2 d2 → D'.nx ((σ.set i (some v1)).set j (some v2)) H2) : tAsg te (gTup K 2 (gCons (gName i) (gCons (gName j) gNil))) D' σ H :=
  h F H (Ex.refl F) (Ex.refl H) g.fh _ fun v F2 H2 s hv => g_two hv s.fh fun v1 v2 h1 h2 => k v1 v2 F2 H2 (g.trans s) s h1 h2
theorem q_set2 {d1 d2 : D} (g : Gr F0 H0 F H) (h : EvD K te σ F H (.tuple [d1, d2])) (k : ∀ v1 v2 F2 H2, Gr F0 H0 F2 H2 → Gr F H F2 H2 → Dp K F2 v1 d1 → Dp K F2 v2 d2 → tz D' ((σ.set i (some v1)).set j (some v2)) H2) : tSeq (tAsg te (gTup K 2 (gCons (gName i) (gCons (gName j) gNil)))) tz D' σ H := s_set2 (D' := { D' with nx := tz D' }) g h k
/-! ### xs.pop() of one's own list -/
theorem dpsLast : ∀ {vs : List V} {ds : List D} {d : D}, DpAll K F vs (ds ++ [d]) → ∃ us v, vs = us ++ [v] ∧ DpAll K F us ds ∧ Dp K F v d
  | _, [], _, h => by
    obtain ⟨v, rfl, hv⟩ := dps1 h
    exact ⟨[], v, rfl, .nil, hv⟩
  | _, _ :: _, _, .cons h1 h2 => by
    obtain ⟨us, v, rfl, h3, h4⟩ := dpsLast h2
    exact ⟨_ :: us, v, rfl, .cons h1 h3, h4⟩
/-- what a pop gives, told of the reading -/
theorem t_pop {l : Addr} {vs : List V} {Q : VK} (g : Gr F0 H0 F H) (hl0 : H0 l = none) (fl : F l = none) (hl : H l = some (.lst vs)) (hv : σ[i]? = some (some (.ref l))) (ha : DpAll K F vs (ds ++ [d]))
    (k : ∀ us v H2, Gr F0 H0 F H2 → (∀ p o, p ≠ l → H p = some o → H2 p = some o) → H2 l = some (.lst us) → DpAll K F us ds → Dp K F v d → Q v H2) : (tBM0 K "list" rPop (tVar i)) σ H Q := by
  obtain ⟨us, v, rfl, h1, h2⟩ := dpsLast ha
  refine ⟨.ref l, hv, .inl ⟨rfl, _, sq_of hl⟩, l, us ++ [v], v, rfl, rfl, hl, by simp, ?_⟩
  rw [List.dropLast_concat]
  exact k us v _ (g.mut hl0 fl) (fun p o hp ho => by rw [upd_ne hp]; exact ho) upd_same h1 h2
theorem q_pop {l : Addr} {vs : List V} (g : Gr F0 H0 F H) (hl0 : H0 l = none) (fl : F l = none) (hl : H l = some (.lst vs)) (hv : σ[i]? = some (some (.ref l))) (ha : DpAll K F vs (ds ++ [d]))
    (k : ∀ us v H2, Gr F0 H0 F H2 → (∀ p o, p ≠ l → H p = some o → H2 p = some o) → H2 l = some (.lst us) → DpAll K F us ds → Dp K F v d → tz D' (σ.set j (some v)) H2) :
    tSeq (tAsg (tBM0 K "list" rPop (tVar i)) (gName j)) tz D' σ H := t_pop g hl0 fl hl hv ha k
theorem q_pop2 {l : Addr} {vs : List V} {d1 d2 : D} (g : Gr F0 H0 F H) (hl0 : H0 l = none) (fl : F l = none) (hl : H l = some (.lst vs)) (hv : σ[i]? = some (some (.ref l))) (ha : DpAll K F vs (ds ++ [.tuple [d1, d2]]))
    (k : ∀ us v1 v2 H2, Gr F0 H0 F H2 → (∀ p o, p ≠ l → H p = some o → H2 p = some o) → H2 l = some (.lst us) → DpAll K F us ds → Dp K F v1 d1 → Dp K F v2 d2 → tz D' ((σ.set j (some v1)).set m (some v2)) H2) :
    tSeq (tAsg (tBM0 K "list" rPop (tVar i)) (gTup K 2 (gCons (gName j) (gCons (gName m) gNil)))) tz D' σ H :=
  t_pop g hl0 fl hl hv ha fun us v H2 g2 o2 l2 h1 h2 => g_two h2 g2.fh fun v1 v2 h3 h4 => k us v1 v2 H2 g2 o2 l2 h1 h3 h4
/-! ### xs.reverse() -/
theorem dpsRev : ∀ {vs : List V} {ds : List D}, DpAll K F vs ds → DpAll K F vs.reverse ds.reverse
  | [], [], .nil => .nil
  | _ :: _, _ :: _, .cons h1 h2 => by
    rw [List.reverse_cons, List.reverse_cons]
    exact (dpsRev h2).append (.cons h1 .nil)
theorem s_rev {l : Addr} {xs : List V} (g : Gr F0 H0 F H) (hl0 : H0 l = none) (fl : F l = none) (hl : H l = some (.lst xs)) (hv : σ[i]? = some (some (.ref l))) (k : ∀ H2, Gr F0 H0 F H2 → (∀ p o, p ≠ l → H p = some o → H2 p = some o) → H2 l = some (.lst xs.reverse) → D'.nx σ H2) :
    tDrop (tBM0 K "list" rReverse (tVar i)) D' σ H :=
  ⟨.ref l, hv, .inl ⟨rfl, xs, sq_of hl⟩, l, xs, rfl, rfl, hl, k _ (g.mut hl0 fl) (fun p o hp ho => by rw [upd_ne hp]; exact ho) upd_same⟩
/-! ### comprehensions over pairs -/
theorem n_lcT {vs : List Nat} {wi : TI} {tt : TT} (h : EvW K wi σ F H ds) (hz : ds.length ≤ 50000) (a b : D → D) (hp : ∀ d ∈ ds, d = .tuple [a d, b d]) (f : D → Bool) (e : D → D) (hw : ∀ x y, wipe (((wipe σ vs).set i (some x)).set j (some y)) vs = wipe σ vs)
    (ht : ∀ d x y F' H', d ∈ ds → Ex F F' → Ex H H' → Ex F' H' → Dp K F' x (a d) → Dp K F' y (b d) → EvB tt (((wipe σ vs).set i (some x)).set j (some y)) F' H' (f d))
    (he : ∀ d x y F' H', d ∈ ds → f d = true → Ex F F' → Ex H H' → Ex F' H' → Dp K F' x (a d) → Dp K F' y (b d) → EvD K te (((wipe σ vs).set i (some x)).set j (some y)) F' H' (e d)) :
    EvN K (tLc wi (gTup K 2 (gCons (gName i) (gCons (gName j) gNil))) tt te vs) σ F H ((ds.filter f).map e) := fun F1 H1 e1 e2 e3 Q q => h F1 H1 e1 e2 e3 _ fun J F2 H2 g2 wk Dl hD => by
  have f2 : F2 Dl = none := fresh_back g2.fh hD
  refine ⟨fun i m H' => m = ds.length - i ∧ i ≤ ds.length ∧ ∃ F' ws, Gr F2 H2 F' H' ∧ F' Dl = none ∧ H' Dl = some (.lst ws) ∧ DpAll K F' ws (((ds.take i).filter f).map e),
    ⟨ds.length, rfl, Nat.zero_le _, F2, [], Gr.own g2.fh hD, f2, upd_same, .nil⟩, ?_⟩
  rintro i m H' ⟨rfl, hi, F', ws, g', fl, hl, ha⟩
  by_cases hlt : i < ds.length
  · refine .inr ⟨wk.go H' i (g'.fx.trans g'.fh) hlt, fun H'' => ∃ F'' ws', Gr F2 H2 F'' H'' ∧ F'' Dl = none ∧ H'' Dl = some (.lst ws') ∧ DpAll K F'' ws' (((ds.take (i + 1)).filter f).map e), fun H'' p' => ⟨ds.length - (i + 1), by omega, rfl, hlt, p'⟩, fun x H3 y => ?_⟩
    obtain ⟨F3, d, g3, hd3, hx⟩ := wk.yld F' H' i x H3 hlt g'.fx g'.fh y
    have hm : d ∈ ds := List.mem_of_getElem? hd3
    have hne : H' Dl ≠ none := by rw [hl]; exact fun z => nomatch z
    have f3 : F3 Dl = none := (g3.old Dl hne).trans fl
    have l3 := g3.hx Dl _ hl
    have x1 : Ex F F3 := ((e1.trans g2.fx).trans g'.fx).trans g3.fx
    have x2 : Ex H H3 := ((e2.trans g2.hx).trans g'.hx).trans g3.hx
    have et : ds.take (i + 1) = ds.take i ++ [d] := by rw [List.take_add_one, hd3]; rfl
    rw [hp d hm] at hx
    refine g_two hx g3.fh fun v1 v2 h1 h2 => ?_
    refine ⟨hw v1 v2, ht d v1 v2 F3 H3 hm x1 x2 g3.fh h1 h2 F3 H3 (Ex.refl _) (Ex.refl _) g3.fh _ fun H4 e4 => ?_⟩
    have g4 : Gr F2 H2 F3 H4 := (g'.trans g3).grow e4
    cases hf : f d with
    | true =>
      show te _ H4 _
      refine he d v1 v2 F3 H4 hm hf x1 (x2.trans e4) g4.fh h1 h2 F3 H4 (Ex.refl _) (Ex.refl _) g4.fh _ fun v F5 H5 g5 hv => ?_
      have l4 := e4 Dl _ l3
      have l5 := g5.hx Dl _ l4
      have f5 : F5 Dl = none := (g5.old Dl (by rw [l4]; exact fun z => nomatch z)).trans f3
      have hlen : ws.length ≤ i := by
        rw [ha.length, List.length_map]
        exact Nat.le_trans (List.length_filter_le _ _) (by rw [List.length_take]; omega)
      refine ⟨ws, l5, sz_lt (by omega), F5, ws ++ [v], (g4.trans g5).mut hD f5, f5, upd_same, ?_⟩
      rw [et, List.filter_append, List.map_append]
      have : [d].filter f = [d] := by simp [hf]
      rw [this]
      exact (ha.up (g3.fx.trans g5.fx)).append (.cons hv .nil)
    | false =>
      show ∃ F'' ws', _
      refine ⟨F3, ws, g4, f3, e4 Dl _ l3, ?_⟩
      rw [et, List.filter_append, List.map_append]
      have : [d].filter f = [] := by simp [hf]
      rw [this, List.map_nil, List.append_nil]
      exact ha.up g3.fx
  · have ei : i = ds.length := by omega
    subst ei
    rw [List.take_length] at ha
    refine .inl ⟨wk.stop H' _ (g'.fx.trans g'.fh) (Nat.le_refl _), q Dl ws F' H' (g2.trans g') (g2.back hD) fl hl ha⟩
end
/-! ### str() -/
inductive StrD : List D → D → Prop
  | int (i : Int) (h : i.natAbs.log2 < 1920) : StrD [.int i] (.str (toString i))
  | str (z : Str) : StrD [.str z] (.str z)
section
variable {X : Cx} {K : Fg}
theorem jStr (hK : X.K = K := by rfl) : CallR X (.type "str") (rDn K StrD) := by
  subst hK
  refine cn_of (call_str_int.or SkE.call_str_str) fun F H xs ds z Q fh hx hR q => ?_
  cases hR with
  | int i h =>
    obtain ⟨v, rfl, hv⟩ := dps1 hx
    cases hv
    exact .inl ⟨i, rfl, h, q.sc fh rfl⟩
  | str z =>
    obtain ⟨v, rfl, hv⟩ := dps1 hx
    cases hv
    exact .inr ⟨z, rfl, q.sc fh rfl⟩
end
end Ly
/-! LyH: sets made of a list, keys of any kind. -/
namespace Ly
open PySem PySem.Spec L2 Evl PyProof.Rows
/-! ### the list without repeats -/
section
variable {α : Type} [DecidableEq α]
def uniqA (acc : List α) : List α → List α
  | [] => acc
  | x :: xs => if x ∈ acc then uniqA acc xs else uniqA (acc ++ [x]) xs
def uniq (xs : List α) : List α := uniqA [] xs
theorem uniqA_snoc (x : α) : ∀ (xs acc : List α), uniqA acc (xs ++ [x]) = if x ∈ uniqA acc xs then uniqA acc xs else uniqA acc xs ++ [x]
  | [], acc => rfl
  | y :: ys, acc => by
    show (if y ∈ acc then uniqA acc (ys ++ [x]) else uniqA (acc ++ [y]) (ys ++ [x])) = _
    by_cases h : y ∈ acc
    · rw [if_pos h, uniqA_snoc x ys acc]
      show _ = if x ∈ (if y ∈ acc then uniqA acc ys else uniqA (acc ++ [y]) ys) then _ else _
      rw [if_pos h]
      show _ = if x ∈ uniqA acc ys then (if y ∈ acc then uniqA acc ys else uniqA (acc ++ [y]) ys) else (if y ∈ acc then uniqA acc ys else uniqA (acc ++ [y]) ys) ++ [x]
      rw [if_pos h]
    · rw [if_neg h, uniqA_snoc x ys (acc ++ [y])]
      show _ = if x ∈ (if y ∈ acc then uniqA acc ys else uniqA (acc ++ [y]) ys) then (if y ∈ acc then uniqA acc ys else uniqA (acc ++ [y]) ys) else (if y ∈ acc then uniqA acc ys else uniqA (acc ++ [y]) ys) ++ [x]
      rw [if_neg h]
theorem uniq_snoc (xs : List α) (x : α) : uniq (xs ++ [x]) = if x ∈ uniq xs then uniq xs else uniq xs ++ [x] := uniqA_snoc x xs []
theorem mem_uniqA (z : α) : ∀ (xs acc : List α), z ∈ uniqA acc xs ↔ z ∈ acc ∨ z ∈ xs
  | [], acc => by simp [uniqA]
  | y :: ys, acc => by
    show z ∈ (if y ∈ acc then uniqA acc ys else uniqA (acc ++ [y]) ys) ↔ _
    by_cases h : y ∈ acc
    · rw [if_pos h, mem_uniqA z ys acc, List.mem_cons]
      constructor
      · rintro (q | q)
        · exact .inl q
        · exact .inr (.inr q)
      · rintro (q | q | q)
        · exact .inl q
        · subst q; exact .inl h
        · exact .inr q
    · rw [if_neg h, mem_uniqA z ys (acc ++ [y]), List.mem_cons, List.mem_append, List.mem_singleton, or_assoc]
theorem mem_uniq {xs : List α} {z : α} : z ∈ uniq xs ↔ z ∈ xs := by
  have h := mem_uniqA z xs []
  unfold uniq
  simpa using h
theorem uniqA_nodup : ∀ (xs acc : List α), acc.Nodup → (uniqA acc xs).Nodup
  | [], acc, h => h
  | y :: ys, acc, h => by
    show (if y ∈ acc then uniqA acc ys else uniqA (acc ++ [y]) ys).Nodup
    by_cases e : y ∈ acc
    · rw [if_pos e]; exact uniqA_nodup ys acc h
    · rw [if_neg e]
      refine uniqA_nodup ys _ ?_
      rw [List.nodup_append]
      exact ⟨h, by simp, fun a ha b hb q => e (by rw [← List.mem_singleton.mp hb, ← q]; exact ha)⟩
theorem uniq_nodup (xs : List α) : (uniq xs).Nodup := uniqA_nodup xs [] List.nodup_nil
theorem uniqA_len : ∀ (xs acc : List α), (uniqA acc xs).length ≤ acc.length + xs.length
  | [], acc => Nat.le_refl _
  | y :: ys, acc => by
    show (if y ∈ acc then uniqA acc ys else uniqA (acc ++ [y]) ys).length ≤ _
    by_cases e : y ∈ acc
    · rw [if_pos e]
      have := uniqA_len ys acc
      rw [List.length_cons]; omega
    · rw [if_neg e]
      have := uniqA_len ys (acc ++ [y])
      rw [List.length_append, List.length_singleton] at this
      rw [List.length_cons]; omega
theorem uniq_len (xs : List α) : (uniq xs).length ≤ xs.length := by
  have := uniqA_len xs []
  simpa [uniq] using this
end
/-! ### the loop of set.update -/
section
variable {prog : Program} {w : World} {A : Around} {R : Result → Shared → Prop} {I : Addr} {fp wr : List Addr} {G : Array GenState → Array GenState → Prop} {n : Nat} {P : Nat → Value → Prop} {St : Nat → Shared → Prop}
variable {κ : Type} [DecidableEq κ] {knd : PySem.KeyKind prog w κ}
theorem setOf_congr {h : Heap} {a : Addr} {S S' : κ → Bool} {m m' : Nat} (hS : h.SetOf knd a S m) (e : ∀ k, S k = S' k) (en : m = m') : h.SetOf knd a S' m' := by
  obtain rfl : S = S' := funext e
  subst en
  exact hS
def setIs (ks : List κ) : κ → Bool := fun k => decide (k ∈ uniq ks)
theorem set_loop (W : WalksS prog w A.in1 I fp wr G n P St) (a : Addr) (haf : a ∉ fp) (ks : List κ) (hn : ks.length = n) (hb : n < 64)
    (hv : ∀ i v, P i v → ∃ k, ks[i]? = some k ∧ knd.is k v = true ∧ v.scannable = true) :
    ∀ (m i : Nat) (s : Shared), n - i = m → i ≤ n → St i s → s.heap.SetOf knd a (setIs (ks.take i)) (uniq (ks.take i)).length →
      (∀ s', Moved (a :: wr) G s s' → s'.heap.SetOf knd a (setIs ks) (uniq ks).length → R (.ok (.ret .none)) s') →
      codeAny (model prog w) A (.builtin "set.update.loop" ⟨[.ref a, .ref I], []⟩) R s := by
  have hw : a ∉ wr := fun h => haf (W.sub _ h)
  intro m
  induction m with
  | zero =>
    intro i s hm hi st hS hR
    obtain rfl : i = n := by omega
    refine codeAny_builtin PyProof.Rows.F.entry_set_update_loop ?_
    rw [Around.under_plainId PyProof.Rows.F.plain_set_update_loop _]
    refine wpAny_bind (W.done s _ _ st fun s' mv => ?_)
    refine wpAny_pure (hR s' (mv.mono fun b hb' => List.mem_cons_of_mem _ hb') ?_)
    have et : ks.take i = ks := by rw [← hn, List.take_length]
    rw [et] at hS
    obtain ⟨o, es, ep, t, ho, rest⟩ := hS
    exact ⟨o, es, ep, t, mv.heap a _ hw ho, rest⟩
  | succ m ih =>
    intro i s hm hi st hS hR
    have hlt : i < n := by omega
    refine codeAny_builtin PyProof.Rows.F.entry_set_update_loop ?_
    rw [Around.under_plainId PyProof.Rows.F.plain_set_update_loop _]
    refine wpAny_bind (W.item i s _ _ hlt st fun v s' hP st' mv => ?_)
    obtain ⟨k, hk, hki, hks⟩ := hv i v hP
    have hS1 : s'.heap.SetOf knd a (setIs (ks.take i)) (uniq (ks.take i)).length := by
      obtain ⟨o, es, ep, t, ho, rest⟩ := hS
      exact ⟨o, es, ep, t, mv.heap a _ hw ho, rest⟩
    have hroom : (uniq (ks.take i)).length + 1 < scanBound := by
      have h1 := uniq_len (ks.take i)
      rw [List.length_take] at h1
      unfold scanBound
      omega
    have et : ks.take (i + 1) = ks.take i ++ [k] := by rw [List.take_add_one, hk]; rfl
    refine wpAny_bind (wpAny_holding ?_)
    unfold setAdd
    refine wpAny_holding ?_
    refine wpAny_bind (knd.pyHash hki ?_)
    refine wpAny_setAddHashed_of (s := { s' with toks := s'.toks + 1 }) hki hks hS1 hroom fun h' sb hS2 => ?_
    have hS3 : h'.SetOf knd a (setIs (ks.take (i + 1))) (uniq (ks.take (i + 1))).length := by
      refine setOf_congr hS2 (fun z => ?_) ?_
      · unfold setIs
        rw [et, uniq_snoc]
        by_cases e : k ∈ uniq (ks.take i)
        · rw [if_pos e]
          by_cases ez : z = k
          · subst ez; simp [e]
          · simp [ez]
        · rw [if_neg e]
          simp [List.mem_append]
      · unfold setIs
        rw [et, uniq_snoc]
        by_cases e : k ∈ uniq (ks.take i)
        · simp [e]
        · simp [e]
    refine wpAny_pure ⟨plainId_quiet PyProof.Rows.F.plain_set_update_loop _, ih (i + 1) _ (by omega) hlt (W.frame _ s' _ _ st' (Nat.le_succ _) fun b hb' o e => ?_) hS3 fun s2 mv2 hS4 => ?_⟩
    · rw [sb.2 b (fun h => haf (by rw [← h]; exact hb'))]; exact e
    · refine hR s2 (Moved.trans W.gtrans ((mv.mono fun b hb' => List.mem_cons_of_mem _ hb').then_heap (Nat.le_succ _) fun b o hb' e => ?_) mv2) hS4
      rw [sb.2 b (fun h => hb' (by rw [h]; exact List.mem_cons_self))]; exact e
end
/-! ### set(xs), xs a list -/
section
variable {prog : Program} {w : World} {A : Around} {E : Value → Shared → Prop} {s : Shared}
variable {κ : Type} [DecidableEq κ] {knd : PySem.KeyKind prog w κ}
abbrev setObj (led : Bool) : Obj := { cls := .type "set", dict := none, data := .set #[] 0 (.fresh 0 0 led) }
/-- set.__init__ of a fresh set at the heap's end, fed by a list -/
theorem set_init {l : Addr} {items : Array Value} {ks : List κ} {led : Bool} {R : Result → Shared → Prop} (hh : A.handled = none) (hl : s.heap.IsList l items) (hn : ks.length = items.size) (hb : ks.length < 64)
    (hv : ∀ (i : Nat) (v : Value), items[i]? = some v → ∃ k, ks[i]? = some k ∧ knd.is k v = true ∧ v.scannable = true)
    (h : ∀ (h' : Heap) (tk : Nat), h'.SetOf knd s.heap.objs.size (setIs ks) (uniq ks).length → (∀ b o, s.heap.get? b = some o → h'.get? b = some o) → R (.ok (.ret .none)) { s with heap := h', toks := tk }) :
    codeAny (model prog w) A (.call (.builtin "set.__init__") ⟨[.ref s.heap.objs.size, .ref l], []⟩) R { s with heap := s.heap.push (setObj led) } := by
  have hS : (s.heap.push (setObj led)).get? s.heap.objs.size = some (setObj led) := Heap.get?_push_size _ rfl
  have hT : Shared.TypeIs { s with heap := s.heap.push (setObj led) } (.ref s.heap.objs.size) "set" := ⟨_, hS, rfl⟩
  obtain ⟨⟨ocls, odict, odata, oslots⟩, hol, hcl, nl, hdl⟩ := id hl
  simp only at hcl hdl
  subst hcl hdl
  have hol' : (s.heap.push (setObj led)).get? l = some { cls := .type "list", dict := odict, data := .seq items nl, slots := oslots } := Heap.get?_push_of_some _ hol
  have hl1 : (s.heap.push (setObj led)).IsList l items := ⟨_, hol', rfl, nl, rfl⟩
  have hlS : l < s.heap.objs.size := Heap.lt_size hol
  refine codeAny_call_builtin PySem.F.called_set.init.plain PySem.F.entry_set_init (check_set_init_1 hT ?_)
  have q1 := PySem.F.sub_list_set
  have q2 := PySem.F.sub_list_frozenset
  have q3 : (Value.type "list" == Value.type "dict") = false := by decide
  unfold Builtin.«set.__init__» noKeywords Builtin.Frozenset.updateFrom
  generalize hPI : pyIter = PI
  wp_walk
  subst hPI
  refine wpAny_pyIter_list hl1 ?_
  refine wpAny_bind (wpAny_runValue ?_)
  have h3 : A.in1.in1.handled = none := by simp [hh]
  have hI : (s.heap.push (setObj led)).objs.size = s.heap.objs.size + 1 := Heap.size_push ..
  have hlI : l ≠ (s.heap.push (setObj led)).objs.size := by
    rw [hI]
    exact Nat.ne_of_lt (Nat.lt_succ_of_lt hlS)
  have haf : s.heap.objs.size ∉ [(s.heap.push (setObj led)).objs.size, l] := by
    rw [hI]
    simp only [List.mem_cons, List.not_mem_nil, or_false, not_or]
    exact ⟨Nat.ne_of_lt (Nat.lt_succ_self _), fun z => Nat.lt_irrefl _ (z ▸ hlS)⟩
  refine set_loop ((Walks.list h3 _ l hlI items).toS) s.heap.objs.size haf ks hn (by omega) hv (items.size - 0) 0 _ (by omega) (Nat.zero_le _) ?hst ?hS0 ?hR
  case hst => exact ⟨⟨_, Heap.get?_push_size _ rfl, rfl, rfl⟩, (hl1.push _)⟩
  case hS0 =>
    refine setOf_congr ((PyProof.Rows.setObjOf_fresh (knd := knd) led).setOf (Heap.get?_push_of_some _ hS) (by unfold scanBound; omega)) (fun k => ?_) rfl
    simp [setIs, uniq, uniqA]
  case hR =>
    intro s' mv hS'
    obtain ⟨h', g', d', tk', os'⟩ := s'
    obtain rfl : g' = s.gens := mv.gens
    obtain rfl : d' = s.drawn := mv.drawn
    obtain rfl : os' = s.os := mv.os
    refine wpAny_pure ?_
    refine wpAny_pure (h h' tk' hS' fun b o e => ?_)
    have hbs : b < s.heap.objs.size := Heap.lt_size e
    refine mv.heap b o ?_ (Heap.get?_push_of_some _ (Heap.get?_push_of_some _ e))
    simp only [List.mem_cons, List.not_mem_nil, or_false, not_or, hI]
    exact ⟨Nat.ne_of_lt hbs, Nat.ne_of_lt (Nat.lt_succ_of_lt hbs)⟩
/-- set(xs) -/
theorem call_setL {l : Addr} {items : Array Value} {ks : List κ} {Q : Value → Shared → Prop} (hh : A.handled = none) (hl : s.heap.IsList l items) (hn : ks.length = items.size) (hb : ks.length < 64)
    (hv : ∀ (i : Nat) (v : Value), items[i]? = some v → ∃ k, ks[i]? = some k ∧ knd.is k v = true ∧ v.scannable = true)
    (h : ∀ (h' : Heap) (tk : Nat), h'.SetOf knd s.heap.objs.size (setIs ks) (uniq ks).length → (∀ b o, s.heap.get? b = some o → h'.get? b = some o) → Q (.ref s.heap.objs.size) { s with heap := h', toks := tk }) :
    wpAny (model prog w) A (call (.type "set") [.ref l]) Q E s := by
  obtain ⟨c, tl, hmro⟩ := PySem.F.called_set.mro
  have f1 := PySem.F.called_set.made
  have f2 := PySem.F.called_set.sub
  have f3 := PySem.F.called_set.notType
  have f4 := PySem.F.called_set.canCreate
  have f5 := PySem.F.typeCall_set_1 (.ref l)
  have f6 := PySem.F.called_set.init.lookup
  have f7 := PySem.F.called_set.init.bind (.ref s.heap.objs.size)
  refine wpAny_call (codeAny_of_tree ?_)
  show wpAny _ _ (callAny (.type "set") _) _ _ _
  refine wpAny_pure ⟨Code.quiet_builtin _ (by decide +kernel), codeAny_builtin PySem.F.entry_type_call ?_⟩
  rw [Around.under_plain (weight_type_call_type "set" [.ref l] []) rfl]
  repeat (any_goals (first | assumption | wp_step))
  refine codeAny_mono (code_set_new_1 (.ref l) (E := E) (Q₁ := fun obj s1 => ∃ led : Bool, obj = .ref s.heap.objs.size ∧ s1 = { s with heap := s.heap.push (setObj led) }) fun led => ⟨led, rfl, rfl⟩) fun r s1 hr => ?_
  match r, hr with
  | .error e, hr => exact hr
  | .ok (.ret obj), hr =>
    obtain ⟨led, rfl, rfl⟩ := hr
    have hS : (s.heap.push (setObj led)).get? s.heap.objs.size = some (setObj led) := Heap.get?_push_size _ rfl
    have hT : Shared.TypeIs { s with heap := s.heap.push (setObj led) } (.ref s.heap.objs.size) "set" := ⟨_, hS, rfl⟩
    repeat (any_goals (first | assumption | wp_step))
    refine codeAny_mono (set_init (knd := knd) (R := wants (fun r s2 => r = .none ∧ ∃ h' tk, s2 = { s with heap := h', toks := tk } ∧ h'.SetOf knd s.heap.objs.size (setIs ks) (uniq ks).length ∧ ∀ b o, s.heap.get? b = some o → h'.get? b = some o) E)
      (by simp [hh]) hl hn hb hv fun h' tk q1 q2 => ⟨rfl, h', tk, rfl, q1, q2⟩) fun r2 s2 hr2 => ?_
    match r2, hr2 with
    | .error e, hr2 => exact hr2
    | .ok (.ret v), hr2 =>
      obtain ⟨rfl, h', tk, rfl, q1, q2⟩ := hr2
      repeat (any_goals (first | assumption | wp_step))
      exact h _ _ q1 q2
    | .ok .next, hr2 => exact hr2.elim
    | .ok .brk, hr2 => exact hr2.elim
end
end Ly
/-! LyI: len(set(xs)), xs data. -/
namespace Ly
open PySem PySem.Spec L2 Evl PyProof.Rows
section
variable {X : Cx} {K : Fg} {P : Program} {w : World}
/-- set(xs), xs a list of texts and ints -/
def rSetL (K : Fg) (P : Program) (w : World) : List V → Hp → VK → Prop := fun vs H Q => ∃ (l : Addr) (ks : List Key), vs = [.ref l] ∧ SqL K H l (ks.map kV) ∧ ks.length < 64 ∧
  ∀ p, H p = none → Q (.ref p) (upd H p (SetK P w p (setIs ks) (uniq ks).length))
theorem jSetL (hc : X.calm = true) (hK : X.K = K := by rfl) (hP : X.prog = P := by rfl) (hw : X.w = w := by rfl) : CallR X (.type "set") (rSetL K P w) := by
  subst hK hP hw
  intro pins s σ H xs us Q I r h
  obtain ⟨l, ks, rfl, hl, hf, q⟩ := h
  rw [Vals.ref1 r]
  obtain ⟨its, rv, pl, hz⟩ := I.list hl
  have hlen : ks.length = its.toArray.size := by rw [List.size_toArray, ← rv.length, List.length_map]
  refine call_setL (knd := mixKind X.prog X.w) (ks := ks) (I.ok.hd hc) pl.isList hlen hf (fun i v hi => ?_) fun h' tk hS hk => ?_
  · have hi : its[i]? = some v := by simpa using hi
    have hlt : i < ks.length := by
      rw [hlen, List.size_toArray]
      exact (List.getElem?_eq_some_iff.mp hi).1
    have hk : (ks.map kV)[i]? = some (kV ks[i]) := by rw [List.getElem?_map, List.getElem?_eq_getElem hlt]; rfl
    obtain ⟨u, hu, ru⟩ := rv.get hk
    rw [hi] at hu
    cases hu
    exact ⟨ks[i], List.getElem?_eq_getElem hlt, kV_is ru, key_scan ru⟩
  · exact ⟨.ref s.heap.objs.size, _, I.laid (t' := tk) hk (Nat.le_refl _) (setK_new hS), rfl, q _ I.fresh⟩
/-- len of a set -/
def rLenK (P : Program) (w : World) : List V → Hp → VK → Prop := fun vs H Q => ∃ (a : Addr) (S : Key → Bool) (n : Nat), vs = [.ref a] ∧ H a = some (SetK P w a S n) ∧ n < 64 ∧ Q (.int n) H
theorem jLenK (hP : X.prog = P := by rfl) (hw : X.w = w := by rfl) : CallR X (.builtin "len") (rLenK P w) := by
  subst hP hw
  intro pins s σ H xs us Q I r h
  obtain ⟨a, S, n, rfl, ha, hn, q⟩ := h
  rw [Vals.ref1 r]
  obtain ⟨o, es, ep, t, ho, hex, hd, _, _, _, hf, hes⟩ := setK_get I ha
  exact call_len_set ho hex hd hf (by rw [hes]; omega) ⟨.int n, H, I.tok _, ⟨_, by rw [hes]⟩, q⟩
end
section
variable {K : Fg} {P : Program} {w : World} {σ : L2.St} {F H : Hp} {te : TE}
theorem kv_strs (zs : List Str) : (zs.map (Sum.inr : Str → Key)).map kV = zs.map V.str := by rw [List.map_map]; rfl
theorem kv_ints (zs : List Int) : (zs.map (Sum.inl : Int → Key)).map kV = zs.map V.int := by rw [List.map_map]; rfl
theorem uniqA_map {α β : Type} [DecidableEq α] [DecidableEq β] (f : α → β) (hf : ∀ a b, f a = f b → a = b) : ∀ (xs acc : List α), uniqA (acc.map f) (xs.map f) = (uniqA acc xs).map f
  | [], acc => rfl
  | x :: xs, acc => by
    show (if f x ∈ acc.map f then uniqA (acc.map f) (xs.map f) else uniqA (acc.map f ++ [f x]) (xs.map f)) = (if x ∈ acc then uniqA acc xs else uniqA (acc ++ [x]) xs).map f
    have e : f x ∈ acc.map f ↔ x ∈ acc := by
      constructor
      · intro h
        obtain ⟨y, hy, q⟩ := List.mem_map.mp h
        rw [← hf _ _ q]; exact hy
      · exact List.mem_map_of_mem
    by_cases h : x ∈ acc
    · rw [if_pos h, if_pos (e.mpr h), uniqA_map f hf xs acc]
    · rw [if_neg h, if_neg (fun z => h (e.mp z)), ← uniqA_map f hf xs (acc ++ [x]), List.map_append]
      rfl
theorem uniq_map {α β : Type} [DecidableEq α] [DecidableEq β] (f : α → β) (hf : ∀ a b, f a = f b → a = b) (xs : List α) : uniq (xs.map f) = (uniq xs).map f := uniqA_map f hf xs []
/-- len(set(xs)), xs texts -/
theorem d_lenSetS {zs : List Str} (h : EvD K te σ F H (.list (zs.map PyData.str))) (hz : zs.length < 64) :
    EvD K (tCB (rLenK P w) (tCons (tCB (rSetL K P w) (tCons te tNil)) tNil)) σ F H (.int (((uniq zs).length : Nat) : Int)) := fun F1 H1 e1 e2 e3 Q q =>
  h F1 H1 e1 e2 e3 _ fun v F2 H2 g2 hv => by
    cases hv with
    | @lst a xs _ hs ha =>
      have e := dps_strs_inv zs ha
      subst e
      refine ⟨a, zs.map (Sum.inr : Str → Key), rfl, by rw [kv_strs]; exact ex_l g2.fh hs, by rw [List.length_map]; exact hz, fun p hp => ?_⟩
      have hu : (uniq (zs.map (Sum.inr : Str → Key))).length = (uniq zs).length := by
        rw [uniq_map Sum.inr (fun a b h => Sum.inr.inj h), List.length_map]
      refine ⟨p, _, (uniq zs).length, rfl, by rw [upd_same, hu], by have := uniq_len zs; omega, ?_⟩
      exact q _ F2 _ (g2.trans (Gr.own g2.fh hp)) (.int _)
end
end Ly
/-! LyVA: dicts whose keys are values of any shape (texts, None, tuples): finding a key. -/
namespace Vd
open PySem
/-- a kind of keys, told by the heap: texts and None by themselves, tuples by their address -/
structure VKind (prog : Program) (w : World) (K : Type) [DecidableEq K] where
  is : Heap → K → Value → Prop
  hash : K → Int
  draws : K → Nat
  room : Around → Prop
  inj : ∀ {h : Heap} {v : Value} {x y : K}, is h x v → is h y v → x = y
  keeps : ∀ {h h' : Heap} {k : K} {v : Value} {d : Addr} {o : Obj} {es ep}, is h k v → h.get? d = some o → o.data = .dict es ep → Heap.SameBut d h h' → is h' k v
  hash_ : ∀ {A : Around} {E : Value → Shared → Prop} {s : Shared} {k : K} {v : Value} {Q : Int → Shared → Prop}, room A → is s.heap k v → Q (hash k) { s with toks := s.toks + draws k } → wpAny (model prog w) A (PySem.pyHash v) Q E s
  eq_ : ∀ {A : Around} {E : Value → Shared → Prop} {s : Shared} {x y : K} {u v : Value} {Q : Bool → Shared → Prop}, room A → is s.heap x u → is s.heap y v → Q (decide (x = y)) s → wpAny (model prog w) A (PySem.eqBool u v) Q E s
  quiet : ∀ {A : Around} {E : Value → Shared → Prop} {s : Shared} {k : K} {v : Value} {Q : Bool → Shared → Prop}, is s.heap k v → Q true s → wpAny (model prog w) A (eqIsQuiet 8 v) Q E s
  shape : ∀ {h : Heap} {k : K} {v : Value}, is h k v → (∃ z t, v = Value.str z t) ∨ (∃ z t, v = Value.int z t) ∨ v = Value.none ∨ ∃ a, v = Value.ref a
  strs_ : ∀ {h : Heap} {k k' : K} {z : Str} {t : Tok} {v : Value}, is h k (Value.str z t) → is h k' v → (k' = k ↔ v.isStr z = true)
section
variable {K : Type} [DecidableEq K]
abbrev Ent (K : Type) := List (K × Value × Value)
def atK (xs : Ent K) (k : K) : Option (Value × Value) := (xs.find? fun x => decide (x.1 = k)).map (·.2)
def putK1 (k : K) (v : Value) (x : K × Value × Value) : K × Value × Value := if x.1 = k then (x.1, x.2.1, v) else x
def storedV (xs : Ent K) (k : K) (u v : Value) : Ent K := if (atK xs k).isSome then xs.map (putK1 k v) else xs ++ [(k, u, v)]
theorem one_place {xs : Ent K} (hn : (xs.map (·.1)).Nodup) {i j : Nat} {k : K} {p q : Value × Value} (hi : xs[i]? = some (k, p)) (hj : xs[j]? = some (k, q)) : i = j := by
  have hi' : (xs.map (·.1))[i]? = some k := by rw [List.getElem?_map, hi]; rfl
  have hj' : (xs.map (·.1))[j]? = some k := by rw [List.getElem?_map, hj]; rfl
  exact (List.getElem?_inj (List.getElem?_eq_some_iff.mp hi').1 hn).mp (hi'.trans hj'.symm)
theorem atK_get : ∀ {xs : Ent K}, (xs.map (·.1)).Nodup → ∀ {i : Nat} {k : K} {p : Value × Value}, xs[i]? = some (k, p) → atK xs k = some p
  | [], _, i, k, p, h => by simp at h
  | x :: r, hn, i, k, p, h => by
    rw [List.map_cons, List.nodup_cons] at hn
    cases i with
    | zero =>
      simp only [List.getElem?_cons_zero, Option.some.injEq] at h
      subst h; simp [atK]
    | succ j =>
      simp only [List.getElem?_cons_succ] at h
      have hne : ¬ x.1 = k := fun e => hn.1 (e ▸ List.mem_map.mpr ⟨(k, p), List.mem_of_getElem? h, rfl⟩)
      have := atK_get hn.2 h
      unfold atK at this ⊢
      rw [List.find?_cons, decide_eq_false hne]
      exact this
theorem atK_none {xs : Ent K} {k : K} (h : ∀ (j : Nat) (p : Value × Value), xs[j]? ≠ some (k, p)) : atK xs k = none := by
  unfold atK
  rw [Option.map_eq_none_iff, List.find?_eq_none]
  intro x hx hk
  obtain ⟨j, hj⟩ := List.mem_iff_getElem?.mp hx
  exact h j x.2 (by rw [hj, ← of_decide_eq_true hk])
theorem not_key {xs : Ent K} {k : K} (h : ∀ (j : Nat) (p : Value × Value), xs[j]? ≠ some (k, p)) : k ∉ xs.map (·.1) := fun hm => by
  obtain ⟨x, hx, rfl⟩ := List.mem_map.mp hm
  obtain ⟨j, hj⟩ := List.mem_iff_getElem?.mp hx
  exact h j x.2 hj
end
section
variable {prog : Program} {w : World} {K : Type} [DecidableEq K] (knd : VKind prog w K)
def entV (x : K × Value × Value) : DictEntry := ⟨knd.hash x.1, x.2.1, x.2.2⟩
/-- the dict at d holds xs -/
def DictV (h : Heap) (d : Addr) (xs : Ent K) : Prop :=
  ∃ o es ep, h.get? d = some o ∧ o.ExactDict ∧ o.data = .dict es ep ∧ es.toList = xs.map (entV knd) ∧ (∀ x ∈ xs, knd.is h x.1 x.2.1) ∧ (xs.map (·.1)).Nodup
variable {knd} {A : Around} {E : Value → Shared → Prop} {s : Shared}
theorem ent_at {es : Array DictEntry} {xs : Ent K} (he : es.toList = xs.map (entV knd)) (j : Nat) : es[j]? = (xs[j]?).map (entV knd) := by
  rw [← Array.getElem?_toList, he, List.getElem?_map]
theorem ent_size {es : Array DictEntry} {xs : Ent K} (he : es.toList = xs.map (entV knd)) : es.size = xs.length := by
  rw [← Array.length_toList, he, List.length_map]
theorem DictV.typeIs {d : Addr} {xs : Ent K} (hm : DictV knd s.heap d xs) : s.TypeIs (.ref d) "dict" := let ⟨o, _, _, ho, hc, _⟩ := hm; ⟨o, ho, hc.1⟩
theorem DictV.new (h : Heap) : DictV knd (h.push { cls := .type "dict", data := .dict #[] }) h.objs.size [] :=
  ⟨_, #[], 0, Heap.get?_push_size _ rfl, ⟨rfl, rfl, rfl⟩, rfl, rfl, fun _ hx => by simp at hx, List.nodup_nil⟩
theorem tell_quiet {v : Value} {k : K} {stored : List Value} {Q : Bool → Shared → Prop} (hkey : knd.is s.heap k v) (hst : ∀ u ∈ stored, ∃ k', knd.is s.heap k' u) (h : Q false s) : wpAny (model prog w) A (tableMayTell v stored) Q E s := by
  unfold tableMayTell
  split
  · exact wpAny_pure h
  · refine wpAny_bind (knd.quiet hkey ?_)
    simp only [Bool.not_true, Bool.false_eq_true, if_false]
    refine wpAny_bind ?_
    refine wpAny_forIn_list _ (fun rest r s' => s' = s ∧ r = (none, ()) ∧ ∀ u ∈ rest, ∃ k', knd.is s.heap k' u) _ ?_ ?_ _ _ ⟨rfl, rfl, hst⟩
    · rintro x rest r s' ⟨rfl, rfl, hr⟩
      obtain ⟨k', hb⟩ := hr x List.mem_cons_self
      refine wpAny_bind (knd.quiet hb ?_)
      simp only [Bool.not_true, Bool.false_eq_true, if_false]
      exact wpAny_pure ⟨rfl, rfl, fun u hu => hr u (List.mem_cons_of_mem _ hu)⟩
    · rintro r s' ⟨rfl, rfl, _⟩
      exact wpAny_pure h

theorem find {d : Addr} {key : Value} {o : Obj} {es ep} {xs : Ent K} {k : K} {Q : Option Nat → Shared → Prop} (hu : knd.room A) (hkey : knd.is s.heap k key)
    (ho : s.heap.get? d = some o) (hd : o.data = .dict es ep) (he : es.toList = xs.map (entV knd)) (his : ∀ x ∈ xs, knd.is s.heap x.1 x.2.1) (hn : (xs.map (·.1)).Nodup)
    (hnone : (∀ (j : Nat) (p : Value × Value), xs[j]? ≠ some (k, p)) → Q none s) (hsome : ∀ (j : Nat) (p : Value × Value), xs[j]? = some (k, p) → Q (some j) s) :
    wpAny (model prog w) A (dictFind d key (knd.hash k)) Q E s := by
  have hsz : es.size = xs.length := ent_size he
  have haskey : ∀ (j : Nat) (p : Value × Value), xs[j]? = some (k, p) → ((es[j]?.map (·.hash)) == some (knd.hash k)) = true := by
    intro j p hj
    rw [ent_at he j, hj]
    simp [entV]
  have hmem : ∀ e ∈ es, ∃ x ∈ xs, e = entV knd x := by
    intro e hin
    have : e ∈ xs.map (entV knd) := he ▸ Array.mem_toList_iff.mpr hin
    obtain ⟨x, hx, rfl⟩ := List.mem_map.mp this
    exact ⟨x, hx, rfl⟩
  have hst : ∀ v ∈ (placesWithHash es.size (fun i => es[i]?.map (·.hash)) (knd.hash k)).filterMap (fun i => es[i]?.map (·.key)), ∃ k', knd.is s.heap k' v := by
    intro v hv
    obtain ⟨i, _, hi⟩ := List.mem_filterMap.mp hv
    cases hei : es[i]? with
    | none => rw [hei] at hi; cases hi
    | some e =>
      rw [hei] at hi
      obtain rfl : e.key = v := by simpa using hi
      obtain ⟨x, hx, rfl⟩ := hmem e (Array.mem_of_getElem? hei)
      exact ⟨x.1, his x hx⟩
  have hany : ¬ (es.any fun e => e.key == key && e.hash != knd.hash k) = true := by
    rw [← Array.any_toList, List.any_eq_true]
    rintro ⟨e, hin, hc⟩
    obtain ⟨x, hx, rfl⟩ := hmem e (Array.mem_toList_iff.mp hin)
    simp only [entV, Bool.and_eq_true, beq_iff_eq, bne_iff_ne, ne_eq] at hc
    obtain ⟨hxa, hne⟩ := hc
    have := his x hx
    rw [hxa] at this
    exact hne (by rw [knd.inj this hkey])
  have shp := knd.shape hkey
  unfold dictFind
  try with_reducible refine wpAny_holding ?_
  refine wpAny_bind (wpAny_dictEntries ho hd ?_)
  dsimp only
  rcases shp with ⟨z, t, rfl⟩ | ⟨z, t, rfl⟩ | rfl | ⟨a, rfl⟩
  · dsimp only
    by_cases hstr : (es.all fun e => isExactStrKey e.key) = true
    · rw [if_pos hstr]
      unfold foundByValue
      cases hf : es.findIdx? (fun e => e.key.isStr z) with
      | none =>
        refine wpAny_pure (hnone fun j p hj => ?_)
        have hej : es[j]? = some ⟨knd.hash k, p.1, p.2⟩ := by rw [ent_at he j, hj]; rfl
        have := Array.findIdx?_eq_none_iff.mp hf _ (Array.mem_of_getElem? hej)
        have h2 := (knd.strs_ hkey (his _ (List.mem_of_getElem? hj))).mp rfl
        dsimp only at this h2
        rw [h2] at this
        cases this
      | some i =>
        obtain ⟨hlt, hi, _⟩ := Array.findIdx?_eq_some_iff_getElem.mp hf
        obtain ⟨⟨k', b, v'⟩, hkv⟩ : ∃ y, xs[i]? = some y := ⟨xs[i]'(by rw [← hsz]; exact hlt), List.getElem?_eq_getElem _⟩
        have hib : knd.is s.heap k' b := his _ (List.mem_of_getElem? hkv)
        have hex : es[i]? = some ⟨knd.hash k', b, v'⟩ := by rw [ent_at he i, hkv]; rfl
        have hgi : es[i] = ⟨knd.hash k', b, v'⟩ := by rw [Array.getElem?_eq_getElem hlt] at hex; exact Option.some.inj hex
        rw [hgi] at hi
        have hkk : k' = k := (knd.strs_ hkey hib).mpr hi
        dsimp only
        rw [hex]
        dsimp only
        refine wpAny_bind (wpAny_dictEpoch ho hd (wpAny_bind (knd.eq_ (x := k') (y := k) hu hib hkey (wpAny_bind (wpAny_dictEpoch ho hd ?_)))))
        show wpAny _ _ (if (ep != ep) = true then _ else _) _ E _
        rw [if_neg (by simp), decide_eq_true hkk]
        subst hkk
        exact wpAny_bind (wpAny_rule (wpAny_pure (hsome i _ hkv)))
    · rw [if_neg hstr]
      by_cases hcv : ((Value.str z t :: (placesWithHash es.size (fun i => es[i]?.map (·.hash)) (knd.hash k)).filterMap (fun i => es[i]?.map (·.key))).all carriedByValue) = true
      · rw [if_pos hcv]; generalize Value.str z t = key at *
        unfold dictWalkPlain
        refine wpAny_bind ?_
        refine wpAny_forIn_list _
          (fun rest b s' => s' = s ∧ ∃ (i : Nat) (hit : Option Nat), b = (none, ()) ∧ rest = (List.range' i (es.size - i)).filter (fun i => (es[i]?.map (·.hash)) == some (knd.hash k)) ∧ i ≤ es.size ∧
            ((hit = none ∧ ∀ j p, j < i → xs[j]? ≠ some (k, p)) ∨ ∃ j p, hit = some j ∧ j < i ∧ xs[j]? = some (k, p)) ∧ hit = none) _ ?_ ?_ _ _
          ⟨rfl, 0, none, rfl, by rw [placesWithHash, List.range_eq_range', Nat.sub_zero], Nat.zero_le _, .inl ⟨rfl, fun _ _ h => absurd h (Nat.not_lt_zero _)⟩, rfl⟩
        · rintro x rest b s' ⟨rfl, i, hit, rfl, hr, hi, hH, rfl⟩
          obtain ⟨hix, hxn, hpx, hskip, hrest⟩ := filter_range'_cons _ _ _ _ _ hr.symm
          have hlt : x < es.size := by omega
          have hrest' : rest = (List.range' (x + 1) (es.size - (x + 1))).filter (fun i => (es[i]?.map (·.hash)) == some (knd.hash k)) := by rw [hrest]; congr 2; omega
          obtain ⟨⟨k', b, v'⟩, hkv⟩ : ∃ y, xs[x]? = some y := ⟨xs[x]'(by rw [← hsz]; exact hlt), List.getElem?_eq_getElem _⟩
          have hib : knd.is s'.heap k' b := his _ (List.mem_of_getElem? hkv)
          have hex : es[x]? = some ⟨knd.hash k', b, v'⟩ := by rw [ent_at he x, hkv]; rfl
          have hHx : ∀ j p, j < x → xs[j]? ≠ some (k, p) := by
            rcases hH with ⟨h0, hno⟩ | ⟨j, p, h1, hji, hj⟩
            · intro j p hjx hj
              rcases Nat.lt_or_ge j i with h | h
              · exact hno j p h hj
              · have := hskip j h hjx
                rw [haskey j p hj] at this
                exact absurd this (by decide)
            · cases h1
          have hstay : ¬ k' = k → (((none : Option Nat) = none ∧ ∀ j p, j < x + 1 → xs[j]? ≠ some (k, p)) ∨ ∃ j p, (none : Option Nat) = some j ∧ j < x + 1 ∧ xs[j]? = some (k, p)) := by
            intro hne
            refine .inl ⟨rfl, fun j p hjx hj => ?_⟩
            rcases Nat.lt_or_ge j x with h | h
            · exact hHx j p h hj
            · have hjx' : j = x := by omega
              subst hjx'
              rw [hkv] at hj
              injection hj with hj
              injection hj with hj
              exact hne hj
          rw [hex]
          dsimp only
          by_cases hh : (knd.hash k' == knd.hash k) = true
          · rw [if_pos hh]
            refine wpAny_bind (wpAny_dictEpoch ho hd (wpAny_bind (knd.eq_ (x := k') (y := k) hu hib hkey (wpAny_bind (wpAny_dictEpoch ho hd ?_)))))
            show wpAny _ _ (if (ep != ep) = true then _ else _) _ E _
            rw [if_neg (by simp)]
            by_cases hkk : k' = k
            · rw [decide_eq_true hkk]
              subst hkk
              exact wpAny_bind (wpAny_rule (wpAny_pure (wpAny_pure (hsome x _ hkv))))
            · rw [decide_eq_false hkk]
              exact wpAny_bind (wpAny_rule (wpAny_pure ⟨rfl, x + 1, none, rfl, hrest', hlt, hstay hkk, rfl⟩))
          · rw [if_neg hh]
            refine wpAny_pure ⟨rfl, x + 1, none, rfl, hrest', hlt, hstay ?_, rfl⟩
            intro hkk
            rw [hkk] at hh; simp at hh
        · rintro b s' ⟨rfl, i, hit, rfl, hr, hi, hH, rfl⟩
          have hall : ∀ j, i ≤ j → j < es.size → ((es[j]?.map (·.hash)) == some (knd.hash k)) = false := by
            intro j h1 h2
            have := List.filter_eq_nil_iff.mp hr.symm j (List.mem_range'_1.mpr ⟨h1, by omega⟩)
            simpa using this
          refine wpAny_pure (hnone fun j p hj => ?_)
          rcases hH with ⟨_, hno⟩ | ⟨j, p, h1, hji, hj⟩
          · rcases Nat.lt_or_ge j i with h | h
            · exact hno j p h hj
            · have hjl : j < es.size := by
                rw [hsz]
                rcases Nat.lt_or_ge j xs.length with h' | h'
                · exact h'
                · rw [List.getElem?_eq_none h'] at hj; exact nomatch hj
              have := hall j h hjl
              rw [haskey j p hj] at this
              exact absurd this (by decide)
          · cases h1
      · rw [if_neg hcv]; generalize Value.str z t = key at *
        by_cases hone : (((placesWithHash es.size (fun i => es[i]?.map (·.hash)) (knd.hash k)).filterMap (fun i => es[i]?.map (·.key))) == [key]) = true <;>
        (first | rw [if_pos hone] | rw [if_neg hone]) <;> (first | refine wpAny_bind (wpAny_pure ?_) | refine wpAny_bind (tell_quiet hkey hst ?_)) <;> (
          rw [if_neg (by simp)]
          refine wpAny_bind ?_
          refine wpAny_forIn_list _
            (fun rest b s' => s' = s ∧ ∃ i hit, b = (none, hit) ∧ rest = (List.range' i (es.size - i)).filter (fun i => (es[i]?.map (·.hash)) == some (knd.hash k)) ∧ i ≤ es.size ∧
              ((hit = none ∧ ∀ j p, j < i → xs[j]? ≠ some (k, p)) ∨ ∃ j p, hit = some j ∧ j < i ∧ xs[j]? = some (k, p))) _ ?_ ?_ _ _
            ⟨rfl, 0, none, rfl, by rw [placesWithHash, List.range_eq_range', Nat.sub_zero], Nat.zero_le _, .inl ⟨rfl, fun _ _ h => absurd h (Nat.not_lt_zero _)⟩⟩
          · skip
            rintro x rest b s' ⟨rfl, i, hit, rfl, hr, hi, hH⟩
            obtain ⟨hix, hxn, hpx, hskip, hrest⟩ := filter_range'_cons _ _ _ _ _ hr.symm
            have hlt : x < es.size := by omega
            have hrest' : rest = (List.range' (x + 1) (es.size - (x + 1))).filter (fun i => (es[i]?.map (·.hash)) == some (knd.hash k)) := by rw [hrest]; congr 2; omega
            obtain ⟨⟨k', b, v'⟩, hkv⟩ : ∃ y, xs[x]? = some y := ⟨xs[x]'(by rw [← hsz]; exact hlt), List.getElem?_eq_getElem _⟩
            have hib : knd.is s'.heap k' b := his _ (List.mem_of_getElem? hkv)
            have hex : es[x]? = some ⟨knd.hash k', b, v'⟩ := by rw [ent_at he x, hkv]; rfl
            have hHx : (hit = none ∧ ∀ j p, j < x → xs[j]? ≠ some (k, p)) ∨ ∃ j p, hit = some j ∧ j < x ∧ xs[j]? = some (k, p) := by
              rcases hH with ⟨h0, hno⟩ | ⟨j, p, h1, hji, hj⟩
              · refine .inl ⟨h0, fun j p hjx hj => ?_⟩
                rcases Nat.lt_or_ge j i with h | h
                · exact hno j p h hj
                · have := hskip j h hjx
                  rw [haskey j p hj] at this
                  exact absurd this (by decide)
              · exact .inr ⟨j, p, h1, by omega, hj⟩
            have hstay : ¬ k' = k → ((hit = none ∧ ∀ j p, j < x + 1 → xs[j]? ≠ some (k, p)) ∨ ∃ j p, hit = some j ∧ j < x + 1 ∧ xs[j]? = some (k, p)) := by
              intro hne
              rcases hHx with ⟨h0, hno⟩ | ⟨j, p, h1, hjx, hj⟩
              · refine .inl ⟨h0, fun j p hjx hj => ?_⟩
                rcases Nat.lt_or_ge j x with h | h
                · exact hno j p h hj
                · have hjx' : j = x := by omega
                  subst hjx'
                  rw [hkv] at hj
                  injection hj with hj
                  injection hj with hj
                  exact hne hj
              · exact .inr ⟨j, p, h1, by omega, hj⟩
            rw [hex]
            dsimp only
            by_cases hh : (knd.hash k' == knd.hash k) = true
            · rw [if_pos hh]
              refine wpAny_bind (wpAny_dictEpoch ho hd (wpAny_bind (knd.eq_ (x := k') (y := k) hu hib hkey (wpAny_bind (wpAny_dictEpoch ho hd ?_)))))
              show wpAny _ _ (if (ep != ep) = true then _ else _) _ E _
              rw [if_neg (by simp)]
              by_cases hkk : k' = k
              · rw [decide_eq_true hkk]
                subst hkk
                rcases hHx with ⟨rfl, _⟩ | ⟨j, p, _, hjx, hj⟩
                · first | rw [if_pos rfl] | skip
                  simp only [Option.isSome_none, Bool.false_eq_true, if_false]
                  first | refine wpAny_bind (wpAny_pure ?_) | skip
                  refine wpAny_bind (wpAny_rule ?_)
                  split
                  · exact wpAny_pure (wpAny_pure (hsome x _ hkv))
                  · exact wpAny_pure ⟨rfl, x + 1, some x, rfl, hrest', hlt, .inr ⟨x, _, rfl, Nat.lt_succ_self x, hkv⟩⟩
                · exact absurd (one_place hn hj hkv) (by omega)
              · rw [decide_eq_false hkk]
                simp only [Bool.false_eq_true, if_false]
                refine wpAny_bind (wpAny_rule ?_)
                first | rw [if_neg (by simp)] | skip
                first
                  | exact wpAny_pure ⟨rfl, x + 1, hit, rfl, hrest', hlt, hstay hkk⟩
                  | exact wpAny_bind (wpAny_pure (wpAny_pure ⟨rfl, x + 1, hit, rfl, hrest', hlt, hstay hkk⟩))
            · rw [if_neg hh]
              refine wpAny_pure ⟨rfl, x + 1, hit, rfl, hrest', hlt, hstay ?_⟩
              intro hkk
              rw [hkk] at hh; simp at hh
          · rintro b s' ⟨rfl, i, hit, rfl, hr, hi, hH⟩
            have hall : ∀ j, i ≤ j → j < es.size → ((es[j]?.map (·.hash)) == some (knd.hash k)) = false := by
              intro j h1 h2
              have := List.filter_eq_nil_iff.mp hr.symm j (List.mem_range'_1.mpr ⟨h1, by omega⟩)
              simpa using this
            rcases hH with ⟨rfl, hno⟩ | ⟨j, p, rfl, _, hj⟩
            · refine wpAny_pure (hnone fun j p hj => ?_)
              rcases Nat.lt_or_ge j i with h | h
              · exact hno j p h hj
              · have hjl : j < es.size := by
                  rw [hsz]
                  rcases Nat.lt_or_ge j xs.length with h' | h'
                  · exact h'
                  · rw [List.getElem?_eq_none h'] at hj; exact nomatch hj
                have := hall j h hjl
                rw [haskey j p hj] at this
                exact absurd this (by decide)
            · exact wpAny_pure (hsome j p hj))
  · dsimp only
    by_cases hcv : ((Value.int z t :: (placesWithHash es.size (fun i => es[i]?.map (·.hash)) (knd.hash k)).filterMap (fun i => es[i]?.map (·.key))).all carriedByValue) = true
    · rw [if_pos hcv]; generalize Value.int z t = key at *
      unfold dictWalkPlain
      refine wpAny_bind ?_
      refine wpAny_forIn_list _
        (fun rest b s' => s' = s ∧ ∃ (i : Nat) (hit : Option Nat), b = (none, ()) ∧ rest = (List.range' i (es.size - i)).filter (fun i => (es[i]?.map (·.hash)) == some (knd.hash k)) ∧ i ≤ es.size ∧
          ((hit = none ∧ ∀ j p, j < i → xs[j]? ≠ some (k, p)) ∨ ∃ j p, hit = some j ∧ j < i ∧ xs[j]? = some (k, p)) ∧ hit = none) _ ?_ ?_ _ _
        ⟨rfl, 0, none, rfl, by rw [placesWithHash, List.range_eq_range', Nat.sub_zero], Nat.zero_le _, .inl ⟨rfl, fun _ _ h => absurd h (Nat.not_lt_zero _)⟩, rfl⟩
      · rintro x rest b s' ⟨rfl, i, hit, rfl, hr, hi, hH, rfl⟩
        obtain ⟨hix, hxn, hpx, hskip, hrest⟩ := filter_range'_cons _ _ _ _ _ hr.symm
        have hlt : x < es.size := by omega
        have hrest' : rest = (List.range' (x + 1) (es.size - (x + 1))).filter (fun i => (es[i]?.map (·.hash)) == some (knd.hash k)) := by rw [hrest]; congr 2; omega
        obtain ⟨⟨k', b, v'⟩, hkv⟩ : ∃ y, xs[x]? = some y := ⟨xs[x]'(by rw [← hsz]; exact hlt), List.getElem?_eq_getElem _⟩
        have hib : knd.is s'.heap k' b := his _ (List.mem_of_getElem? hkv)
        have hex : es[x]? = some ⟨knd.hash k', b, v'⟩ := by rw [ent_at he x, hkv]; rfl
        have hHx : ∀ j p, j < x → xs[j]? ≠ some (k, p) := by
          rcases hH with ⟨h0, hno⟩ | ⟨j, p, h1, hji, hj⟩
          · intro j p hjx hj
            rcases Nat.lt_or_ge j i with h | h
            · exact hno j p h hj
            · have := hskip j h hjx
              rw [haskey j p hj] at this
              exact absurd this (by decide)
          · cases h1
        have hstay : ¬ k' = k → (((none : Option Nat) = none ∧ ∀ j p, j < x + 1 → xs[j]? ≠ some (k, p)) ∨ ∃ j p, (none : Option Nat) = some j ∧ j < x + 1 ∧ xs[j]? = some (k, p)) := by
          intro hne
          refine .inl ⟨rfl, fun j p hjx hj => ?_⟩
          rcases Nat.lt_or_ge j x with h | h
          · exact hHx j p h hj
          · have hjx' : j = x := by omega
            subst hjx'
            rw [hkv] at hj
            injection hj with hj
            injection hj with hj
            exact hne hj
        rw [hex]
        dsimp only
        by_cases hh : (knd.hash k' == knd.hash k) = true
        · rw [if_pos hh]
          refine wpAny_bind (wpAny_dictEpoch ho hd (wpAny_bind (knd.eq_ (x := k') (y := k) hu hib hkey (wpAny_bind (wpAny_dictEpoch ho hd ?_)))))
          show wpAny _ _ (if (ep != ep) = true then _ else _) _ E _
          rw [if_neg (by simp)]
          by_cases hkk : k' = k
          · rw [decide_eq_true hkk]
            subst hkk
            exact wpAny_bind (wpAny_rule (wpAny_pure (wpAny_pure (hsome x _ hkv))))
          · rw [decide_eq_false hkk]
            exact wpAny_bind (wpAny_rule (wpAny_pure ⟨rfl, x + 1, none, rfl, hrest', hlt, hstay hkk, rfl⟩))
        · rw [if_neg hh]
          refine wpAny_pure ⟨rfl, x + 1, none, rfl, hrest', hlt, hstay ?_, rfl⟩
          intro hkk
          rw [hkk] at hh; simp at hh
      · rintro b s' ⟨rfl, i, hit, rfl, hr, hi, hH, rfl⟩
        have hall : ∀ j, i ≤ j → j < es.size → ((es[j]?.map (·.hash)) == some (knd.hash k)) = false := by
          intro j h1 h2
          have := List.filter_eq_nil_iff.mp hr.symm j (List.mem_range'_1.mpr ⟨h1, by omega⟩)
          simpa using this
        refine wpAny_pure (hnone fun j p hj => ?_)
        rcases hH with ⟨_, hno⟩ | ⟨j, p, h1, hji, hj⟩
        · rcases Nat.lt_or_ge j i with h | h
          · exact hno j p h hj
          · have hjl : j < es.size := by
              rw [hsz]
              rcases Nat.lt_or_ge j xs.length with h' | h'
              · exact h'
              · rw [List.getElem?_eq_none h'] at hj; exact nomatch hj
            have := hall j h hjl
            rw [haskey j p hj] at this
            exact absurd this (by decide)
        · cases h1
    · rw [if_neg hcv]; generalize Value.int z t = key at *
      by_cases hone : (((placesWithHash es.size (fun i => es[i]?.map (·.hash)) (knd.hash k)).filterMap (fun i => es[i]?.map (·.key))) == [key]) = true <;>
      (first | rw [if_pos hone] | rw [if_neg hone]) <;> (first | refine wpAny_bind (wpAny_pure ?_) | refine wpAny_bind (tell_quiet hkey hst ?_)) <;> (
        rw [if_neg (by simp)]
        refine wpAny_bind ?_
        refine wpAny_forIn_list _
          (fun rest b s' => s' = s ∧ ∃ i hit, b = (none, hit) ∧ rest = (List.range' i (es.size - i)).filter (fun i => (es[i]?.map (·.hash)) == some (knd.hash k)) ∧ i ≤ es.size ∧
            ((hit = none ∧ ∀ j p, j < i → xs[j]? ≠ some (k, p)) ∨ ∃ j p, hit = some j ∧ j < i ∧ xs[j]? = some (k, p))) _ ?_ ?_ _ _
          ⟨rfl, 0, none, rfl, by rw [placesWithHash, List.range_eq_range', Nat.sub_zero], Nat.zero_le _, .inl ⟨rfl, fun _ _ h => absurd h (Nat.not_lt_zero _)⟩⟩
        · skip
          rintro x rest b s' ⟨rfl, i, hit, rfl, hr, hi, hH⟩
          obtain ⟨hix, hxn, hpx, hskip, hrest⟩ := filter_range'_cons _ _ _ _ _ hr.symm
          have hlt : x < es.size := by omega
          have hrest' : rest = (List.range' (x + 1) (es.size - (x + 1))).filter (fun i => (es[i]?.map (·.hash)) == some (knd.hash k)) := by rw [hrest]; congr 2; omega
          obtain ⟨⟨k', b, v'⟩, hkv⟩ : ∃ y, xs[x]? = some y := ⟨xs[x]'(by rw [← hsz]; exact hlt), List.getElem?_eq_getElem _⟩
          have hib : knd.is s'.heap k' b := his _ (List.mem_of_getElem? hkv)
          have hex : es[x]? = some ⟨knd.hash k', b, v'⟩ := by rw [ent_at he x, hkv]; rfl
          have hHx : (hit = none ∧ ∀ j p, j < x → xs[j]? ≠ some (k, p)) ∨ ∃ j p, hit = some j ∧ j < x ∧ xs[j]? = some (k, p) := by
            rcases hH with ⟨h0, hno⟩ | ⟨j, p, h1, hji, hj⟩
            · refine .inl ⟨h0, fun j p hjx hj => ?_⟩
              rcases Nat.lt_or_ge j i with h | h
              · exact hno j p h hj
              · have := hskip j h hjx
                rw [haskey j p hj] at this
                exact absurd this (by decide)
            · exact .inr ⟨j, p, h1, by omega, hj⟩
          have hstay : ¬ k' = k → ((hit = none ∧ ∀ j p, j < x + 1 → xs[j]? ≠ some (k, p)) ∨ ∃ j p, hit = some j ∧ j < x + 1 ∧ xs[j]? = some (k, p)) := by
            intro hne
            rcases hHx with ⟨h0, hno⟩ | ⟨j, p, h1, hjx, hj⟩
            · refine .inl ⟨h0, fun j p hjx hj => ?_⟩
              rcases Nat.lt_or_ge j x with h | h
              · exact hno j p h hj
              · have hjx' : j = x := by omega
                subst hjx'
                rw [hkv] at hj
                injection hj with hj
                injection hj with hj
                exact hne hj
            · exact .inr ⟨j, p, h1, by omega, hj⟩
          rw [hex]
          dsimp only
          by_cases hh : (knd.hash k' == knd.hash k) = true
          · rw [if_pos hh]
            refine wpAny_bind (wpAny_dictEpoch ho hd (wpAny_bind (knd.eq_ (x := k') (y := k) hu hib hkey (wpAny_bind (wpAny_dictEpoch ho hd ?_)))))
            show wpAny _ _ (if (ep != ep) = true then _ else _) _ E _
            rw [if_neg (by simp)]
            by_cases hkk : k' = k
            · rw [decide_eq_true hkk]
              subst hkk
              rcases hHx with ⟨rfl, _⟩ | ⟨j, p, _, hjx, hj⟩
              · first | rw [if_pos rfl] | skip
                simp only [Option.isSome_none, Bool.false_eq_true, if_false]
                first | refine wpAny_bind (wpAny_pure ?_) | skip
                refine wpAny_bind (wpAny_rule ?_)
                split
                · exact wpAny_pure (wpAny_pure (hsome x _ hkv))
                · exact wpAny_pure ⟨rfl, x + 1, some x, rfl, hrest', hlt, .inr ⟨x, _, rfl, Nat.lt_succ_self x, hkv⟩⟩
              · exact absurd (one_place hn hj hkv) (by omega)
            · rw [decide_eq_false hkk]
              simp only [Bool.false_eq_true, if_false]
              refine wpAny_bind (wpAny_rule ?_)
              first | rw [if_neg (by simp)] | skip
              first
                | exact wpAny_pure ⟨rfl, x + 1, hit, rfl, hrest', hlt, hstay hkk⟩
                | exact wpAny_bind (wpAny_pure (wpAny_pure ⟨rfl, x + 1, hit, rfl, hrest', hlt, hstay hkk⟩))
          · rw [if_neg hh]
            refine wpAny_pure ⟨rfl, x + 1, hit, rfl, hrest', hlt, hstay ?_⟩
            intro hkk
            rw [hkk] at hh; simp at hh
        · rintro b s' ⟨rfl, i, hit, rfl, hr, hi, hH⟩
          have hall : ∀ j, i ≤ j → j < es.size → ((es[j]?.map (·.hash)) == some (knd.hash k)) = false := by
            intro j h1 h2
            have := List.filter_eq_nil_iff.mp hr.symm j (List.mem_range'_1.mpr ⟨h1, by omega⟩)
            simpa using this
          rcases hH with ⟨rfl, hno⟩ | ⟨j, p, rfl, _, hj⟩
          · refine wpAny_pure (hnone fun j p hj => ?_)
            rcases Nat.lt_or_ge j i with h | h
            · exact hno j p h hj
            · have hjl : j < es.size := by
                rw [hsz]
                rcases Nat.lt_or_ge j xs.length with h' | h'
                · exact h'
                · rw [List.getElem?_eq_none h'] at hj; exact nomatch hj
              have := hall j h hjl
              rw [haskey j p hj] at this
              exact absurd this (by decide)
          · exact wpAny_pure (hsome j p hj))
  · dsimp only
    by_cases hcv : ((Value.none :: (placesWithHash es.size (fun i => es[i]?.map (·.hash)) (knd.hash k)).filterMap (fun i => es[i]?.map (·.key))).all carriedByValue) = true
    · rw [if_pos hcv]; generalize Value.none = key at *
      unfold dictWalkPlain
      refine wpAny_bind ?_
      refine wpAny_forIn_list _
        (fun rest b s' => s' = s ∧ ∃ (i : Nat) (hit : Option Nat), b = (none, ()) ∧ rest = (List.range' i (es.size - i)).filter (fun i => (es[i]?.map (·.hash)) == some (knd.hash k)) ∧ i ≤ es.size ∧
          ((hit = none ∧ ∀ j p, j < i → xs[j]? ≠ some (k, p)) ∨ ∃ j p, hit = some j ∧ j < i ∧ xs[j]? = some (k, p)) ∧ hit = none) _ ?_ ?_ _ _
        ⟨rfl, 0, none, rfl, by rw [placesWithHash, List.range_eq_range', Nat.sub_zero], Nat.zero_le _, .inl ⟨rfl, fun _ _ h => absurd h (Nat.not_lt_zero _)⟩, rfl⟩
      · rintro x rest b s' ⟨rfl, i, hit, rfl, hr, hi, hH, rfl⟩
        obtain ⟨hix, hxn, hpx, hskip, hrest⟩ := filter_range'_cons _ _ _ _ _ hr.symm
        have hlt : x < es.size := by omega
        have hrest' : rest = (List.range' (x + 1) (es.size - (x + 1))).filter (fun i => (es[i]?.map (·.hash)) == some (knd.hash k)) := by rw [hrest]; congr 2; omega
        obtain ⟨⟨k', b, v'⟩, hkv⟩ : ∃ y, xs[x]? = some y := ⟨xs[x]'(by rw [← hsz]; exact hlt), List.getElem?_eq_getElem _⟩
        have hib : knd.is s'.heap k' b := his _ (List.mem_of_getElem? hkv)
        have hex : es[x]? = some ⟨knd.hash k', b, v'⟩ := by rw [ent_at he x, hkv]; rfl
        have hHx : ∀ j p, j < x → xs[j]? ≠ some (k, p) := by
          rcases hH with ⟨h0, hno⟩ | ⟨j, p, h1, hji, hj⟩
          · intro j p hjx hj
            rcases Nat.lt_or_ge j i with h | h
            · exact hno j p h hj
            · have := hskip j h hjx
              rw [haskey j p hj] at this
              exact absurd this (by decide)
          · cases h1
        have hstay : ¬ k' = k → (((none : Option Nat) = none ∧ ∀ j p, j < x + 1 → xs[j]? ≠ some (k, p)) ∨ ∃ j p, (none : Option Nat) = some j ∧ j < x + 1 ∧ xs[j]? = some (k, p)) := by
          intro hne
          refine .inl ⟨rfl, fun j p hjx hj => ?_⟩
          rcases Nat.lt_or_ge j x with h | h
          · exact hHx j p h hj
          · have hjx' : j = x := by omega
            subst hjx'
            rw [hkv] at hj
            injection hj with hj
            injection hj with hj
            exact hne hj
        rw [hex]
        dsimp only
        by_cases hh : (knd.hash k' == knd.hash k) = true
        · rw [if_pos hh]
          refine wpAny_bind (wpAny_dictEpoch ho hd (wpAny_bind (knd.eq_ (x := k') (y := k) hu hib hkey (wpAny_bind (wpAny_dictEpoch ho hd ?_)))))
          show wpAny _ _ (if (ep != ep) = true then _ else _) _ E _
          rw [if_neg (by simp)]
          by_cases hkk : k' = k
          · rw [decide_eq_true hkk]
            subst hkk
            exact wpAny_bind (wpAny_rule (wpAny_pure (wpAny_pure (hsome x _ hkv))))
          · rw [decide_eq_false hkk]
            exact wpAny_bind (wpAny_rule (wpAny_pure ⟨rfl, x + 1, none, rfl, hrest', hlt, hstay hkk, rfl⟩))
        · rw [if_neg hh]
          refine wpAny_pure ⟨rfl, x + 1, none, rfl, hrest', hlt, hstay ?_, rfl⟩
          intro hkk
          rw [hkk] at hh; simp at hh
      · rintro b s' ⟨rfl, i, hit, rfl, hr, hi, hH, rfl⟩
        have hall : ∀ j, i ≤ j → j < es.size → ((es[j]?.map (·.hash)) == some (knd.hash k)) = false := by
          intro j h1 h2
          have := List.filter_eq_nil_iff.mp hr.symm j (List.mem_range'_1.mpr ⟨h1, by omega⟩)
          simpa using this
        refine wpAny_pure (hnone fun j p hj => ?_)
        rcases hH with ⟨_, hno⟩ | ⟨j, p, h1, hji, hj⟩
        · rcases Nat.lt_or_ge j i with h | h
          · exact hno j p h hj
          · have hjl : j < es.size := by
              rw [hsz]
              rcases Nat.lt_or_ge j xs.length with h' | h'
              · exact h'
              · rw [List.getElem?_eq_none h'] at hj; exact nomatch hj
            have := hall j h hjl
            rw [haskey j p hj] at this
            exact absurd this (by decide)
        · cases h1
    · rw [if_neg hcv]; generalize Value.none = key at *
      by_cases hone : (((placesWithHash es.size (fun i => es[i]?.map (·.hash)) (knd.hash k)).filterMap (fun i => es[i]?.map (·.key))) == [key]) = true <;>
      (first | rw [if_pos hone] | rw [if_neg hone]) <;> (first | refine wpAny_bind (wpAny_pure ?_) | refine wpAny_bind (tell_quiet hkey hst ?_)) <;> (
        rw [if_neg (by simp)]
        refine wpAny_bind ?_
        refine wpAny_forIn_list _
          (fun rest b s' => s' = s ∧ ∃ i hit, b = (none, hit) ∧ rest = (List.range' i (es.size - i)).filter (fun i => (es[i]?.map (·.hash)) == some (knd.hash k)) ∧ i ≤ es.size ∧
            ((hit = none ∧ ∀ j p, j < i → xs[j]? ≠ some (k, p)) ∨ ∃ j p, hit = some j ∧ j < i ∧ xs[j]? = some (k, p))) _ ?_ ?_ _ _
          ⟨rfl, 0, none, rfl, by rw [placesWithHash, List.range_eq_range', Nat.sub_zero], Nat.zero_le _, .inl ⟨rfl, fun _ _ h => absurd h (Nat.not_lt_zero _)⟩⟩
        · skip
          rintro x rest b s' ⟨rfl, i, hit, rfl, hr, hi, hH⟩
          obtain ⟨hix, hxn, hpx, hskip, hrest⟩ := filter_range'_cons _ _ _ _ _ hr.symm
          have hlt : x < es.size := by omega
          have hrest' : rest = (List.range' (x + 1) (es.size - (x + 1))).filter (fun i => (es[i]?.map (·.hash)) == some (knd.hash k)) := by rw [hrest]; congr 2; omega
          obtain ⟨⟨k', b, v'⟩, hkv⟩ : ∃ y, xs[x]? = some y := ⟨xs[x]'(by rw [← hsz]; exact hlt), List.getElem?_eq_getElem _⟩
          have hib : knd.is s'.heap k' b := his _ (List.mem_of_getElem? hkv)
          have hex : es[x]? = some ⟨knd.hash k', b, v'⟩ := by rw [ent_at he x, hkv]; rfl
          have hHx : (hit = none ∧ ∀ j p, j < x → xs[j]? ≠ some (k, p)) ∨ ∃ j p, hit = some j ∧ j < x ∧ xs[j]? = some (k, p) := by
            rcases hH with ⟨h0, hno⟩ | ⟨j, p, h1, hji, hj⟩
            · refine .inl ⟨h0, fun j p hjx hj => ?_⟩
              rcases Nat.lt_or_ge j i with h | h
              · exact hno j p h hj
              · have := hskip j h hjx
                rw [haskey j p hj] at this
                exact absurd this (by decide)
            · exact .inr ⟨j, p, h1, by omega, hj⟩
          have hstay : ¬ k' = k → ((hit = none ∧ ∀ j p, j < x + 1 → xs[j]? ≠ some (k, p)) ∨ ∃ j p, hit = some j ∧ j < x + 1 ∧ xs[j]? = some (k, p)) := by
            intro hne
            rcases hHx with ⟨h0, hno⟩ | ⟨j, p, h1, hjx, hj⟩
            · refine .inl ⟨h0, fun j p hjx hj => ?_⟩
              rcases Nat.lt_or_ge j x with h | h
              · exact hno j p h hj
              · have hjx' : j = x := by omega
                subst hjx'
                rw [hkv] at hj
                injection hj with hj
                injection hj with hj
                exact hne hj
            · exact .inr ⟨j, p, h1, by omega, hj⟩
          rw [hex]
          dsimp only
          by_cases hh : (knd.hash k' == knd.hash k) = true
          · rw [if_pos hh]
            refine wpAny_bind (wpAny_dictEpoch ho hd (wpAny_bind (knd.eq_ (x := k') (y := k) hu hib hkey (wpAny_bind (wpAny_dictEpoch ho hd ?_)))))
            show wpAny _ _ (if (ep != ep) = true then _ else _) _ E _
            rw [if_neg (by simp)]
            by_cases hkk : k' = k
            · rw [decide_eq_true hkk]
              subst hkk
              rcases hHx with ⟨rfl, _⟩ | ⟨j, p, _, hjx, hj⟩
              · first | rw [if_pos rfl] | skip
                simp only [Option.isSome_none, Bool.false_eq_true, if_false]
                first | refine wpAny_bind (wpAny_pure ?_) | skip
                refine wpAny_bind (wpAny_rule ?_)
                split
                · exact wpAny_pure (wpAny_pure (hsome x _ hkv))
                · exact wpAny_pure ⟨rfl, x + 1, some x, rfl, hrest', hlt, .inr ⟨x, _, rfl, Nat.lt_succ_self x, hkv⟩⟩
              · exact absurd (one_place hn hj hkv) (by omega)
            · rw [decide_eq_false hkk]
              simp only [Bool.false_eq_true, if_false]
              refine wpAny_bind (wpAny_rule ?_)
              first | rw [if_neg (by simp)] | skip
              first
                | exact wpAny_pure ⟨rfl, x + 1, hit, rfl, hrest', hlt, hstay hkk⟩
                | exact wpAny_bind (wpAny_pure (wpAny_pure ⟨rfl, x + 1, hit, rfl, hrest', hlt, hstay hkk⟩))
          · rw [if_neg hh]
            refine wpAny_pure ⟨rfl, x + 1, hit, rfl, hrest', hlt, hstay ?_⟩
            intro hkk
            rw [hkk] at hh; simp at hh
        · rintro b s' ⟨rfl, i, hit, rfl, hr, hi, hH⟩
          have hall : ∀ j, i ≤ j → j < es.size → ((es[j]?.map (·.hash)) == some (knd.hash k)) = false := by
            intro j h1 h2
            have := List.filter_eq_nil_iff.mp hr.symm j (List.mem_range'_1.mpr ⟨h1, by omega⟩)
            simpa using this
          rcases hH with ⟨rfl, hno⟩ | ⟨j, p, rfl, _, hj⟩
          · refine wpAny_pure (hnone fun j p hj => ?_)
            rcases Nat.lt_or_ge j i with h | h
            · exact hno j p h hj
            · have hjl : j < es.size := by
                rw [hsz]
                rcases Nat.lt_or_ge j xs.length with h' | h'
                · exact h'
                · rw [List.getElem?_eq_none h'] at hj; exact nomatch hj
              have := hall j h hjl
              rw [haskey j p hj] at this
              exact absurd this (by decide)
          · exact wpAny_pure (hsome j p hj))
  · dsimp only
    rw [if_neg (show ¬ ((Value.ref a :: (placesWithHash es.size (fun i => es[i]?.map (·.hash)) (knd.hash k)).filterMap (fun i => es[i]?.map (·.key))).all carriedByValue) = true by simp [carriedByValue])]
    rw [if_neg hany]
    generalize Value.ref a = key at *
    by_cases hone : (((placesWithHash es.size (fun i => es[i]?.map (·.hash)) (knd.hash k)).filterMap (fun i => es[i]?.map (·.key))) == [key]) = true <;>
    (first | rw [if_pos hone] | rw [if_neg hone]) <;> (first | refine wpAny_bind (wpAny_pure ?_) | refine wpAny_bind (tell_quiet hkey hst ?_)) <;> (
      rw [if_neg (by simp)]
      refine wpAny_bind ?_
      refine wpAny_forIn_list _
        (fun rest b s' => s' = s ∧ ∃ i hit, b = (none, hit) ∧ rest = (List.range' i (es.size - i)).filter (fun i => (es[i]?.map (·.hash)) == some (knd.hash k)) ∧ i ≤ es.size ∧
          ((hit = none ∧ ∀ j p, j < i → xs[j]? ≠ some (k, p)) ∨ ∃ j p, hit = some j ∧ j < i ∧ xs[j]? = some (k, p))) _ ?_ ?_ _ _
        ⟨rfl, 0, none, rfl, by rw [placesWithHash, List.range_eq_range', Nat.sub_zero], Nat.zero_le _, .inl ⟨rfl, fun _ _ h => absurd h (Nat.not_lt_zero _)⟩⟩
      · skip
        rintro x rest b s' ⟨rfl, i, hit, rfl, hr, hi, hH⟩
        obtain ⟨hix, hxn, hpx, hskip, hrest⟩ := filter_range'_cons _ _ _ _ _ hr.symm
        have hlt : x < es.size := by omega
        have hrest' : rest = (List.range' (x + 1) (es.size - (x + 1))).filter (fun i => (es[i]?.map (·.hash)) == some (knd.hash k)) := by rw [hrest]; congr 2; omega
        obtain ⟨⟨k', b, v'⟩, hkv⟩ : ∃ y, xs[x]? = some y := ⟨xs[x]'(by rw [← hsz]; exact hlt), List.getElem?_eq_getElem _⟩
        have hib : knd.is s'.heap k' b := his _ (List.mem_of_getElem? hkv)
        have hex : es[x]? = some ⟨knd.hash k', b, v'⟩ := by rw [ent_at he x, hkv]; rfl
        have hHx : (hit = none ∧ ∀ j p, j < x → xs[j]? ≠ some (k, p)) ∨ ∃ j p, hit = some j ∧ j < x ∧ xs[j]? = some (k, p) := by
          rcases hH with ⟨h0, hno⟩ | ⟨j, p, h1, hji, hj⟩
          · refine .inl ⟨h0, fun j p hjx hj => ?_⟩
            rcases Nat.lt_or_ge j i with h | h
            · exact hno j p h hj
            · have := hskip j h hjx
              rw [haskey j p hj] at this
              exact absurd this (by decide)
          · exact .inr ⟨j, p, h1, by omega, hj⟩
        have hstay : ¬ k' = k → ((hit = none ∧ ∀ j p, j < x + 1 → xs[j]? ≠ some (k, p)) ∨ ∃ j p, hit = some j ∧ j < x + 1 ∧ xs[j]? = some (k, p)) := by
          intro hne
          rcases hHx with ⟨h0, hno⟩ | ⟨j, p, h1, hjx, hj⟩
          · refine .inl ⟨h0, fun j p hjx hj => ?_⟩
            rcases Nat.lt_or_ge j x with h | h
            · exact hno j p h hj
            · have hjx' : j = x := by omega
              subst hjx'
              rw [hkv] at hj
              injection hj with hj
              injection hj with hj
              exact hne hj
          · exact .inr ⟨j, p, h1, by omega, hj⟩
        rw [hex]
        dsimp only
        by_cases hh : (knd.hash k' == knd.hash k) = true
        · rw [if_pos hh]
          refine wpAny_bind (wpAny_dictEpoch ho hd (wpAny_bind (knd.eq_ (x := k') (y := k) hu hib hkey (wpAny_bind (wpAny_dictEpoch ho hd ?_)))))
          show wpAny _ _ (if (ep != ep) = true then _ else _) _ E _
          rw [if_neg (by simp)]
          by_cases hkk : k' = k
          · rw [decide_eq_true hkk]
            subst hkk
            rcases hHx with ⟨rfl, _⟩ | ⟨j, p, _, hjx, hj⟩
            · first | rw [if_pos rfl] | skip
              simp only [Option.isSome_none, Bool.false_eq_true, if_false]
              first | refine wpAny_bind (wpAny_pure ?_) | skip
              refine wpAny_bind (wpAny_rule ?_)
              split
              · exact wpAny_pure (wpAny_pure (hsome x _ hkv))
              · exact wpAny_pure ⟨rfl, x + 1, some x, rfl, hrest', hlt, .inr ⟨x, _, rfl, Nat.lt_succ_self x, hkv⟩⟩
            · exact absurd (one_place hn hj hkv) (by omega)
          · rw [decide_eq_false hkk]
            simp only [Bool.false_eq_true, if_false]
            refine wpAny_bind (wpAny_rule ?_)
            first | rw [if_neg (by simp)] | skip
            first
              | exact wpAny_pure ⟨rfl, x + 1, hit, rfl, hrest', hlt, hstay hkk⟩
              | exact wpAny_bind (wpAny_pure (wpAny_pure ⟨rfl, x + 1, hit, rfl, hrest', hlt, hstay hkk⟩))
        · rw [if_neg hh]
          refine wpAny_pure ⟨rfl, x + 1, hit, rfl, hrest', hlt, hstay ?_⟩
          intro hkk
          rw [hkk] at hh; simp at hh
      · rintro b s' ⟨rfl, i, hit, rfl, hr, hi, hH⟩
        have hall : ∀ j, i ≤ j → j < es.size → ((es[j]?.map (·.hash)) == some (knd.hash k)) = false := by
          intro j h1 h2
          have := List.filter_eq_nil_iff.mp hr.symm j (List.mem_range'_1.mpr ⟨h1, by omega⟩)
          simpa using this
        rcases hH with ⟨rfl, hno⟩ | ⟨j, p, rfl, _, hj⟩
        · refine wpAny_pure (hnone fun j p hj => ?_)
          rcases Nat.lt_or_ge j i with h | h
          · exact hno j p h hj
          · have hjl : j < es.size := by
              rw [hsz]
              rcases Nat.lt_or_ge j xs.length with h' | h'
              · exact h'
              · rw [List.getElem?_eq_none h'] at hj; exact nomatch hj
            have := hall j h hjl
            rw [haskey j p hj] at this
            exact absurd this (by decide)
        · exact wpAny_pure (hsome j p hj))
end
section
variable {K : Type} [DecidableEq K]
theorem storedV_new {xs : Ent K} {k : K} (h : atK xs k = none) (a : Value) (v : Value) : storedV xs k a v = xs ++ [(k, a, v)] := by simp [storedV, h]
theorem storedV_old {xs : Ent K} {k : K} {p : Value × Value} (h : atK xs k = some p) (a : Value) (v : Value) : storedV xs k a v = xs.map (putK1 k v) := by simp [storedV, h]
theorem map_putK1_not (xs : Ent K) (k : K) (v : Value) (hn : k ∉ xs.map (·.1)) : xs.map (putK1 k v) = xs := by
  induction xs with
  | nil => rfl
  | cons x xs ih =>
    simp only [List.map_cons, List.mem_cons, not_or] at hn ⊢
    rw [putK1, if_neg (fun e => hn.1 e.symm), ih hn.2]
theorem keys_putK1 (xs : Ent K) (k : K) (v : Value) : (xs.map (putK1 k v)).map (·.1) = xs.map (·.1) := by
  induction xs with
  | nil => rfl
  | cons x xs ih =>
    simp only [List.map_cons, ih]
    by_cases hk : x.1 = k <;> simp [putK1, hk]
theorem modify_putK1 {β : Type} (f : K × Value × Value → β) (g : β → β) (k : K) (v : Value) (hg : ∀ a v₀, g (f (k, a, v₀)) = f (k, a, v)) :
    ∀ {xs : Ent K} {j : Nat} {p : Value × Value}, (xs.map (·.1)).Nodup → xs[j]? = some (k, p) → (xs.map f).modify j g = (xs.map (putK1 k v)).map f := by
  intro xs
  induction xs with
  | nil => intro j p _ hj; simp at hj
  | cons x rest ih =>
    intro j p hn hj
    rw [List.map_cons, List.nodup_cons] at hn
    cases j with
    | zero =>
      simp only [List.getElem?_cons_zero, Option.some.injEq] at hj
      subst hj
      rw [List.map_cons, List.map_cons, map_putK1_not rest k v hn.1, putK1, if_pos rfl, List.map_cons]
      show g (f (k, p)) :: rest.map f = f (k, p.1, v) :: rest.map f
      rw [show (k, p) = (k, p.1, p.2) from rfl, hg]
    | succ j =>
      simp only [List.getElem?_cons_succ] at hj
      have hmem : k ∈ rest.map (·.1) := List.mem_map.mpr ⟨(k, p), List.mem_of_getElem? hj, rfl⟩
      have hne : ¬ x.1 = k := fun e => hn.1 (e ▸ hmem)
      rw [List.map_cons, List.map_cons, putK1, if_neg hne, List.map_cons]
      show f x :: (rest.map f).modify j g = f x :: (rest.map (putK1 k v)).map f
      rw [ih hn.2 hj]
end
section
variable {prog : Program} {w : World} {K : Type} [DecidableEq K] {knd : VKind prog w K} {A : Around} {E : Value → Shared → Prop} {s : Shared}
theorem dget {d : Addr} {key : Value} {xs : Ent K} {k : K} {Q : Option Value → Shared → Prop} (hu : knd.room A) (hkey : knd.is s.heap k key) (hm : DictV knd s.heap d xs)
    (h : Q ((atK xs k).map (·.2)) { s with toks := s.toks + knd.draws k }) : wpAny (model prog w) A (dictGet d (key)) Q E s := by
  obtain ⟨o, es, ep, ho, _, hd, he, his, hn⟩ := hm
  unfold dictGet
  try with_reducible refine wpAny_holding ?_
  refine wpAny_bind (knd.hash_ hu hkey (wpAny_bind (find (s := { s with toks := s.toks + knd.draws k }) hu hkey ho hd he his hn ?_ ?_)))
  · intro hno
    rw [atK_none hno] at h
    exact wpAny_pure h
  · intro j p hj
    rw [atK_get hn hj] at h
    refine wpAny_bind (wpAny_dictEntries (s := { s with toks := s.toks + knd.draws k }) ho hd ?_)
    rw [ent_at he j, hj]
    exact wpAny_pure h
theorem dset {d : Addr} {key : Value} {xs : Ent K} {k : K} {v : Value} {Q : Unit → Shared → Prop} (hu : knd.room A) (hkey : knd.is s.heap k key) (hm : DictV knd s.heap d xs)
    (hQ : ∀ h', DictV knd h' d (storedV xs k key v) → Heap.SameBut d s.heap h' → Q () { s with heap := h', toks := s.toks + knd.draws k })
    (hsz : xs.length ≤ sizeLine := by size_fits) :
    wpAny (model prog w) A (dictSet d (key) v) Q E s := by
  obtain ⟨o, es, ep, ho, hc, hd, he, his, hn⟩ := hm
  unfold dictSet
  try with_reducible refine wpAny_holding ?_
  refine wpAny_bind (knd.hash_ hu hkey ?_)
  unfold dictSetHashed
  try with_reducible refine wpAny_holding ?_
  refine wpAny_bind (find (s := { s with toks := s.toks + knd.draws k }) hu hkey ho hd he his hn ?_ ?_)
  · intro hno
    have hnot : k ∉ xs.map (·.1) := not_key hno
    refine wpAny_bind (wpAny_rule (wpAny_updateDictKeys (hz := by have e := ent_size he; omega) (s := { s with toks := s.toks + knd.draws k }) ho hd (hQ _ ⟨_, _, ep + 1, Heap.get?_update_self _ ho (Obj.isFreed_of_dict (Obj.data_mapDictKeys hd _)),
      hc.mapDictKeys _, Obj.data_mapDictKeys hd _, ?_, ?_, ?_⟩ (Heap.SameBut.update ..))))
    · rw [storedV_new (atK_none hno)]
      simp [he, entV]
    · rw [storedV_new (atK_none hno)]
      intro x hx
      rcases List.mem_append.mp hx with hx | hx
      · exact knd.keeps (his x hx) ho hd (Heap.SameBut.update ..)
      · simp only [List.mem_singleton] at hx
        subst hx
        exact knd.keeps hkey ho hd (Heap.SameBut.update ..)
    · rw [storedV_new (atK_none hno)]
      rw [List.map_append, List.nodup_append]
      refine ⟨hn, by simp, ?_⟩
      intro x hx y hy
      simp only [List.map_cons, List.map_nil, List.mem_singleton] at hy
      subst hy
      exact fun e => hnot (e ▸ hx)
  · intro j p hj
    refine wpAny_bind (wpAny_rule (wpAny_bind (wpAny_updateDict (s := { s with toks := s.toks + knd.draws k }) ho hd (wpAny_point (hQ _ ⟨_, _, ep, Heap.get?_update_self _ ho (Obj.isFreed_of_dict (Obj.data_mapDict hd _)),
      hc.mapDict _, Obj.data_mapDict hd _, ?_, ?_, ?_⟩ (Heap.SameBut.update ..))))))
    · rw [storedV_old (atK_get hn hj)]
      have := modify_putK1 (entV knd) (fun e : DictEntry => { e with val := v }) k v (fun _ _ => rfl) hn hj
      rw [← he] at this
      obtain ⟨l⟩ := es
      simpa using this
    · rw [storedV_old (atK_get hn hj)]
      intro x hx
      obtain ⟨y, hy, rfl⟩ := List.mem_map.mp hx
      unfold putK1
      split <;> exact knd.keeps (his y hy) ho hd (Heap.SameBut.update ..)
    · rw [storedV_old (atK_get hn hj)]
      rw [keys_putK1]; exact hn
theorem dsetd {d : Addr} {key : Value} {xs : Ent K} {k : K} {dflt : Value} {Q : Value → Shared → Prop} (hu : knd.room A) (hkey : knd.is s.heap k key) (hm : DictV knd s.heap d xs)
    (h1 : ∀ p, atK xs k = some p → Q p.2 { s with toks := s.toks + knd.draws k })
    (h2 : atK xs k = none → ∀ h', DictV knd h' d (storedV xs k key dflt) → Heap.SameBut d s.heap h' → Q dflt { s with heap := h', toks := s.toks + knd.draws k })
    (hsz : xs.length ≤ sizeLine := by size_fits) :
    wpAny (model prog w) A (dictSetDefault d (key) dflt) Q E s := by
  obtain ⟨o, es, ep, ho, hc, hd, he, his, hn⟩ := hm
  unfold dictSetDefault
  try with_reducible refine wpAny_holding ?_
  refine wpAny_bind (knd.hash_ hu hkey ?_)
  refine wpAny_bind (find (s := { s with toks := s.toks + knd.draws k }) hu hkey ho hd he his hn ?_ ?_)
  · intro hno
    have hnot : k ∉ xs.map (·.1) := not_key hno
    refine wpAny_bind (wpAny_rule (wpAny_bind (wpAny_updateDictKeys (hz := by have e := ent_size he; omega) (s := { s with toks := s.toks + knd.draws k }) ho hd (wpAny_pure (h2 (atK_none hno) _ ⟨_, _, ep + 1, Heap.get?_update_self _ ho (Obj.isFreed_of_dict (Obj.data_mapDictKeys hd _)),
      hc.mapDictKeys _, Obj.data_mapDictKeys hd _, ?_, ?_, ?_⟩ (Heap.SameBut.update ..))))))
    · rw [storedV_new (atK_none hno)]
      simp [he, entV]
    · rw [storedV_new (atK_none hno)]
      intro x hx
      rcases List.mem_append.mp hx with hx | hx
      · exact knd.keeps (his x hx) ho hd (Heap.SameBut.update ..)
      · simp only [List.mem_singleton] at hx
        subst hx
        exact knd.keeps hkey ho hd (Heap.SameBut.update ..)
    · rw [storedV_new (atK_none hno)]
      rw [List.map_append, List.nodup_append]
      refine ⟨hn, by simp, ?_⟩
      intro x hx y hy
      simp only [List.map_cons, List.map_nil, List.mem_singleton] at hy
      subst hy
      exact fun e => hnot (e ▸ hx)
  · intro j p hj
    refine wpAny_bind (wpAny_dictEntries (s := { s with toks := s.toks + knd.draws k }) ho hd ?_)
    rw [ent_at he j, hj]
    exact wpAny_bind (wpAny_rule (wpAny_pure (h1 p (atK_get hn hj))))
end
section
variable {prog : Program} {w : World} {K : Type} [DecidableEq K] (knd : VKind prog w K) (d : Addr) (key : Value)
theorem meets_get1 (hd : (d == sysModules) = false) :
    MeetsIn prog w (Builtin.«dict.get» ⟨[.ref d, key], []⟩) (fun A R s => knd.room A.in1 ∧ ∃ k xs, knd.is s.heap k key ∧ DictV knd s.heap d xs ∧
      R (.ok (.ret (((atK xs k).map (·.2)).getD .none))) { s with toks := s.toks + knd.draws k }) :=
  .of_wp fun A R s ⟨hu, k, xs, hkey, hm, h⟩ => by
    show wpAny _ _ (dictGet d (key) >>= _) _ _ s
    refine wpAny_bind (dget hu hkey hm ?_)
    cases hf : (atK xs k).map (·.2) with
    | some v =>
      rw [hf] at h
      exact wpAny_pure ⟨v, rfl, h⟩
    | none =>
      rw [hf] at h
      show wpAny _ _ (Builtin.Dict.missed d (key) >>= _) _ _ _
      exact wpAny_bind (wpAny_missed_other hd (wpAny_pure ⟨.none, rfl, h⟩))
theorem meets_get2 (hd : (d == sysModules) = false) (dflt : Value) :
    MeetsIn prog w (Builtin.«dict.get» ⟨[.ref d, key, dflt], []⟩) (fun A R s => knd.room A.in1 ∧ ∃ k xs, knd.is s.heap k key ∧ DictV knd s.heap d xs ∧
      R (.ok (.ret (((atK xs k).map (·.2)).getD dflt))) { s with toks := s.toks + knd.draws k }) :=
  .of_wp fun A R s ⟨hu, k, xs, hkey, hm, h⟩ => by
    show wpAny _ _ (dictGet d (key) >>= _) _ _ s
    refine wpAny_bind (dget hu hkey hm ?_)
    cases hf : (atK xs k).map (·.2) with
    | some v =>
      rw [hf] at h
      exact wpAny_pure ⟨v, rfl, h⟩
    | none =>
      rw [hf] at h
      show wpAny _ _ (Builtin.Dict.missed d (key) >>= _) _ _ _
      exact wpAny_bind (wpAny_missed_other hd (wpAny_pure ⟨dflt, rfl, h⟩))
theorem meets_setd (hd : (d == sysModules) = false) (dflt : Value) :
    MeetsIn prog w (Builtin.«dict.setdefault» ⟨[.ref d, key, dflt], []⟩) (fun A R s => knd.room A.in1 ∧ ∃ k xs, knd.is s.heap k key ∧ DictV knd s.heap d xs ∧ xs.length ≤ sizeLine ∧
      (∀ p, atK xs k = some p → R (.ok (.ret p.2)) { s with toks := s.toks + knd.draws k }) ∧
      (atK xs k = none → ∀ h', DictV knd h' d (storedV xs k key dflt) → Heap.SameBut d s.heap h' → R (.ok (.ret dflt)) { s with heap := h', toks := s.toks + knd.draws k })) :=
  .of_wp fun A R s ⟨hu, k, xs, hkey, hm, hz, h1, h2⟩ => by
    unfold Builtin.«dict.setdefault»
    refine wpAny_bind ?_
    unfold Builtin.Dict.keyAndDefault
    refine wpAny_bind (wpAny_notOrdered_dict hm.typeIs ?_)
    show wpAny _ _ (pure (d, key, some dflt)) _ _ s
    refine wpAny_pure ?_
    show wpAny _ _ (if (d == sysModules) = true then _ else (dictSetDefault d (key) dflt >>= _)) _ _ s
    rw [if_neg (by rw [hd]; exact Bool.false_ne_true)]
    exact wpAny_bind (dsetd (hsz := hz) hu hkey hm (fun p hp => wpAny_pure ⟨p.2, rfl, h1 p hp⟩) fun hn h' hm' hs' => wpAny_pure ⟨dflt, rfl, h2 hn h' hm' hs'⟩)
end
section
variable {prog : Program} {w : World} {K : Type} [DecidableEq K] {knd : VKind prog w K} {A : Around} {E : Value → Shared → Prop} {s : Shared} {d : Addr} {key : Value} {k : K} {xs : Ent K}
theorem in_ {Q : Value → Shared → Prop} (hu : knd.room A.in1) (hkey : knd.is s.heap k key) (hd : (d == sysModules) = false) (hm : DictV knd s.heap d xs)
    (h : Q (.bool (atK xs k).isSome) { s with toks := s.toks + knd.draws k }) : wpAny (model prog w) A (compareOp .In (key) (.ref d)) Q E s := by
  show wpAny _ _ (do return .bool (← contains (.ref d) (key))) Q E s
  refine wpAny_bind ?_
  unfold contains
  try with_reducible refine wpAny_holding ?_
  refine wpAny_bind (wpAny_specialOf hm.typeIs slot_dict_contains.lookup ?_)
  show wpAny _ _ (if (some (Value.builtin "dict.__contains__") == some Value.none) = true then _ else _) _ E s
  rw [if_neg (by rw [beq_builtin_none]; exact Bool.false_ne_true)]
  refine wpAny_bind (wpAny_callSpecialUnlessNone?_slot (name := Str.ofString "__contains__") hm.typeIs slot_dict_contains
    (wpAny_call_entry slot_dict_contains hm.typeIs entry_dict_contains ?_ (args_dict_contains _ _)))
  show wpAny _ _ (dictGet d (key) >>= _) _ _ s
  refine wpAny_bind (dget hu hkey hm ?_)
  cases hf : atK xs k with
  | some p =>
    rw [hf] at h
    show wpAny _ _ (ret (.bool true)) _ _ _
    exact wpAny_pure ⟨_, rfl, wpAny_truthy_bool (wpAny_pure h)⟩
  | none =>
    rw [hf] at h
    show wpAny _ _ (Builtin.Dict.pendingKey? d (key) >>= _) _ _ _
    exact wpAny_bind (wpAny_pendingKey_other hd (wpAny_pure ⟨_, rfl, wpAny_truthy_bool (wpAny_pure h)⟩))
theorem notIn_ {xs : Ent K} {Q : Value → Shared → Prop} (hu : knd.room A.in1) (hkey : knd.is s.heap k key) (hd : (d == sysModules) = false) (hm : DictV knd s.heap d xs)
    (h : Q (.bool (!(atK xs k).isSome)) { s with toks := s.toks + knd.draws k }) : wpAny (model prog w) A (compareOp .NotIn (key) (.ref d)) Q E s := by
  show wpAny _ _ (do return .bool (!(← contains (.ref d) (key)))) Q E s
  refine wpAny_bind ?_
  unfold contains
  try with_reducible refine wpAny_holding ?_
  refine wpAny_bind (wpAny_specialOf hm.typeIs slot_dict_contains.lookup ?_)
  show wpAny _ _ (if (some (Value.builtin "dict.__contains__") == some Value.none) = true then _ else _) _ E s
  rw [if_neg (by rw [beq_builtin_none]; exact Bool.false_ne_true)]
  refine wpAny_bind (wpAny_callSpecialUnlessNone?_slot (name := Str.ofString "__contains__") hm.typeIs slot_dict_contains
    (wpAny_call_entry slot_dict_contains hm.typeIs entry_dict_contains ?_ (args_dict_contains _ _)))
  show wpAny _ _ (dictGet d (key) >>= _) _ _ s
  refine wpAny_bind (dget hu hkey hm ?_)
  cases hf : atK xs k with
  | some p =>
    rw [hf] at h
    show wpAny _ _ (ret (.bool true)) _ _ _
    exact wpAny_pure ⟨_, rfl, wpAny_truthy_bool (wpAny_pure h)⟩
  | none =>
    rw [hf] at h
    show wpAny _ _ (Builtin.Dict.pendingKey? d (key) >>= _) _ _ _
    exact wpAny_bind (wpAny_pendingKey_other hd (wpAny_pure ⟨_, rfl, wpAny_truthy_bool (wpAny_pure h)⟩))
theorem getItem_ {p : Value × Value} {Q : Value → Shared → Prop} (hu : knd.room A.in1) (hkey : knd.is s.heap k key) (hm : DictV knd s.heap d xs) (hp : atK xs k = some p)
    (h : Q p.2 { s with toks := s.toks + knd.draws k }) : wpAny (model prog w) A (getItem (.ref d) (key)) Q E s := by
  unfold getItem
  try with_reducible refine wpAny_holding ?_
  refine wpAny_bind (wpAny_sequenceKey hm.typeIs (by decide) ?_)
  refine wpAny_bind (wpAny_callSpecial?_slot (name := Str.ofString "__getitem__") hm.typeIs slot_dict_getitem
    (wpAny_call_entry slot_dict_getitem hm.typeIs entry_dict_getitem ?_ (args_dict_getitem _ _)))
  show wpAny _ _ (dictGet d (key) >>= _) _ _ s
  refine wpAny_bind (dget hu hkey hm ?_)
  rw [hp]
  exact wpAny_pure ⟨p.2, rfl, wpAny_pure h⟩
theorem setItem_ {v : Value} {Q : Unit → Shared → Prop} (hu : knd.room A.in1) (hkey : knd.is s.heap k key) (hm : DictV knd s.heap d xs)
    (hQ : ∀ h', DictV knd h' d (storedV xs k key v) → Heap.SameBut d s.heap h' → Q () { s with heap := h', toks := s.toks + knd.draws k })
    (hsz : xs.length ≤ sizeLine := by size_fits) :
    wpAny (model prog w) A (setItem (.ref d) (key) v) Q E s := by
  unfold setItem
  try with_reducible refine wpAny_holding ?_
  refine wpAny_bind (wpAny_sequenceKey hm.typeIs (by decide) ?_)
  refine wpAny_bind (wpAny_callSpecial?_slot (name := Str.ofString "__setitem__") hm.typeIs slot_dict_setitem
    (wpAny_call_entry slot_dict_setitem hm.typeIs entry_dict_setitem ?_ (args_dict_setitem _ _ _)))
  show wpAny _ _ (Builtin.Dict.notOrdered "__setitem__" ⟨[.ref d, key, v], []⟩ >>= _) _ _ s
  refine wpAny_bind (wpAny_notOrdered_dict hm.typeIs ?_)
  show wpAny _ _ (dictSet d (key) v >>= _) _ _ s
  exact wpAny_bind (dset (hsz := hsz) hu hkey hm fun h' hm' hs' => wpAny_pure ⟨.none, rfl, wpAny_pure (hQ h' hm' hs')⟩)
theorem call_setd {dflt : Value} {Q : Value → Shared → Prop} (hu : knd.room A.in1) (hkey : knd.is s.heap k key) (hd : (d == sysModules) = false) (hm : DictV knd s.heap d xs)
    (h1 : ∀ p, atK xs k = some p → Q p.2 { s with toks := s.toks + knd.draws k })
    (h2 : atK xs k = none → ∀ h', DictV knd h' d (storedV xs k key dflt) → Heap.SameBut d s.heap h' → Q dflt { s with heap := h', toks := s.toks + knd.draws k })
    (hsz : xs.length ≤ sizeLine := by size_fits) : wpAny (model prog w) A (call (.builtin "dict.setdefault") [.ref d, key, dflt]) Q E s :=
  call_meetsIn F.slot_dict_setdefault hm.typeIs F.entry_dict_setdefault (F.args_dict_setdefault_3 _ _ _) (meets_setd knd d key hd dflt) ⟨hu, k, xs, hkey, hm, hsz, h1, h2⟩
end
end Vd
namespace Vd
open PySem L2
/-- a key: None, an int, a text, or a tuple of ints and texts -/
inductive Vk where
  | a (x : Option Key)
  | t (ks : List Key)
  deriving DecidableEq
def vkIs (P : Program) (w : World) (h : Heap) : Vk → Value → Prop
  | .a o, v => nkIs o v = true
  | .t ks, v => ∃ a, v = .ref a ∧ IsTupleKey (mixKind P w) h ks a
theorem nk_shape {o : Option Key} {v : Value} (h : nkIs o v = true) : (∃ z t, v = Value.str z t) ∨ (∃ z t, v = Value.int z t) ∨ v = Value.none := by
  cases o with
  | none => exact .inr (.inr (nk_none h))
  | some k =>
    rcases keyIs_shape (k := k) (v := v) h with ⟨i, t, _, e⟩ | ⟨x, t, _, e⟩
    · exact .inr (.inl ⟨i, t, e⟩)
    · exact .inl ⟨x, t, e⟩
theorem nk_ref {o : Option Key} {a : Addr} (h : nkIs o (.ref a) = true) : False := by
  rcases nk_shape h with ⟨_, _, e⟩ | ⟨_, _, e⟩ | e <;> cases e
def vkind (P : Program) (w : World) : VKind P w Vk where
  is := vkIs P w
  hash := fun k => match k with
    | .a o => (noneKind P w).hash o
    | .t ks => (tupleKind (mixKind P w)).hash ks
  draws := fun k => match k with
    | .a _ => 1
    | .t ks => (tupleKind (mixKind P w)).draws ks
  room := fun A => A.units < cLine
  inj := fun {h v x y} hx hy => by
    cases x with
    | a o =>
      cases y with
      | a o' => exact congrArg Vk.a ((noneKind P w).inj v o o' hx hy)
      | t ks => obtain ⟨b, rfl, _⟩ := hy; exact (nk_ref hx).elim
    | t ks =>
      obtain ⟨b, rfl, hb⟩ := hx
      cases y with
      | a o' => exact (nk_ref hy).elim
      | t ks' => obtain ⟨b', e, hb'⟩ := hy; cases e; exact congrArg Vk.t (hb.inj hb')
  keeps := fun {h h' k v d o es ep} x ho hd hs => by
    cases k with
    | a o => exact x
    | t ks => obtain ⟨b, rfl, hb⟩ := x; exact ⟨b, rfl, hb.keeps ho hd hs⟩
  hash_ := fun {A E s k v Q} hu hk h => by
    cases k with
    | a o => exact (noneKind P w).pyHash (k := o) hk h
    | t ks => obtain ⟨b, rfl, hb⟩ := hk; exact (tupleKind (mixKind P w)).pyHash (k := ks) hu hb h
  eq_ := fun {A E s x y u v Q} hu hx hy h => by
    cases x with
    | a o =>
      cases y with
      | a o' =>
        refine (noneKind P w).eqBool (a := o) (b := o') hx hy ?_
        by_cases e : o = o'
        · rw [decide_eq_true e]; rwa [decide_eq_true (congrArg Vk.a e)] at h
        · rw [decide_eq_false e]; rwa [decide_eq_false (fun z => e (Vk.a.inj z))] at h
      | t ks =>
        obtain ⟨b, rfl, ob, its, n, h1, h2, h3, _⟩ := hy
        rw [decide_eq_false (fun z => nomatch z)] at h
        have hl : s.heap.IsTuple b its := ⟨ob, h1, h2, n, h3⟩
        rcases nk_shape hx with ⟨z, t, rfl⟩ | ⟨z, t, rfl⟩ | rfl
        · exact SeqAt.EqAt.str_tuple z t hl hu _ _ _ _ h
        · exact SeqAt.EqAt.int_tuple z t hl hu _ _ _ _ h
        · exact SeqAt.EqAt.none_tuple hl hu _ _ _ _ h
    | t ks =>
      obtain ⟨b, rfl, hb⟩ := hx
      cases y with
      | a o' =>
        obtain ⟨ob, its, n, h1, h2, h3, _⟩ := hb
        rw [decide_eq_false (fun z => nomatch z)] at h
        have hl : s.heap.IsTuple b its := ⟨ob, h1, h2, n, h3⟩
        rcases nk_shape hy with ⟨z, t, rfl⟩ | ⟨z, t, rfl⟩ | rfl
        · exact SeqAt.EqAt.tuple_str z t hl hu _ _ _ _ h
        · exact SeqAt.EqAt.tuple_int z t hl hu _ _ _ _ h
        · exact SeqAt.EqAt.tuple_none hl hu _ _ _ _ h
      | t ks' =>
        obtain ⟨b', rfl, hb'⟩ := hy
        refine (tupleKind (mixKind P w)).eqBool (x := ks) (y := ks') hu hb hb' ?_
        by_cases e : ks = ks'
        · rw [decide_eq_true e]; rwa [decide_eq_true (congrArg Vk.t e)] at h
        · rw [decide_eq_false e]; rwa [decide_eq_false (fun z => e (Vk.t.inj z))] at h
  quiet := fun {A E s k v Q} hk h => by
    cases k with
    | a o =>
      rw [eqIsQuiet_byValue 8 ((noneKind P w).byValue o v hk)]
      exact wpAny_pure h
    | t ks => obtain ⟨b, rfl, hb⟩ := hk; exact (tupleKind (mixKind P w)).quiet (k := ks) hb h
  shape := fun {h k v} hk => by
    cases k with
    | a o => rcases nk_shape hk with h | h | h; exact .inl h; exact .inr (.inl h); exact .inr (.inr (.inl h))
    | t ks => obtain ⟨b, rfl, _⟩ := hk; exact .inr (.inr (.inr ⟨b, rfl⟩))
  strs_ := fun {h k k' z t v} hk hk' => by
    cases k with
    | t ks => obtain ⟨b, e, _⟩ := hk; cases e
    | a o =>
      cases k' with
      | t ks =>
        obtain ⟨b, rfl, _⟩ := hk'
        exact ⟨(fun e => by cases e), (fun e => by cases e)⟩
      | a o' =>
        have q := (noneKind P w).«strs» o z t v hk
        constructor
        · intro e; cases e; rw [← q]; exact hk'
        · intro e; exact congrArg Vk.a ((noneKind P w).inj v o' o hk' (by rw [q]; exact e))
theorem room1 {P : Program} {w : World} {A : Around} (hu : A.units + 1 < cLine) : (vkind P w).room A.in1 := hu
end Vd
/-! LyM: mirrors: what a def does, as a function of a store of cells (what may change) and data (what stays). -/
namespace Ly
open PySem L2 Evl PyProof.Rows
/-- a value of the mirror: a datum, or a cell's number -/
inductive Av where
  | d (x : D)
  | o (i : Nat)
/-- what stands in a cell -/
inductive Cl where
  | gone
  | lst (xs : List Av)
  | dk (kvs : List (Key × Av))
  | dt (kvs : List (List Key × Av))
  | dv (kvs : List (Vd.Vk × Av))
  | ins (c : Str) (fs : List (Str × Av))
  | lk (c : Cl)
/-- an exception: its class's name, and the number that it may bear -/
structure Xn where
  cls : Str
  row : Option Int := none
inductive Rs (α : Type) where
  | ok (a : α)
  | ex (e : Xn)
abbrev Sg := List Cl
abbrev M (α : Type) := Sg → Option (Rs α × Sg)
abbrev Sl := List (Option Av)
abbrev AE := Sl → M Av
abbrev AT := Sl → M Bool
abbrev AA := Sl → M (List Av)
inductive Fl where
  | nx | bk | ct
  | rt (x : Av)
  | ex (e : Xn)
abbrev AS := Sl → Sg → Option (Fl × Sl × Sg)
/-- a def's mirror -/
abbrev AF := List Av → M Av
/-- what an operation does: no exception -/
abbrev Op0 := Sg → Option (Av × Sg)
def ret {α : Type} (a : α) : M α := fun S => some (.ok a, S)
def rse {α : Type} (e : Xn) : M α := fun S => some (.ex e, S)
def stuck {α : Type} : M α := fun _ => none
def bnd {α β : Type} (m : M α) (f : α → M β) : M β := fun S => match m S with
  | some (.ok a, S1) => f a S1
  | some (.ex e, S1) => some (.ex e, S1)
  | none => none
def lf {α : Type} (m : Sg → Option (α × Sg)) : M α := fun S => match m S with
  | some (a, S1) => some (.ok a, S1)
  | none => none
theorem bnd_ok {α β : Type} {m : M α} {f : α → M β} {S S1 : Sg} {a : α} (h : m S = some (.ok a, S1)) : bnd m f S = f a S1 := by unfold bnd; rw [h]
theorem bnd_ex {α β : Type} {m : M α} {f : α → M β} {S S1 : Sg} {e : Xn} (h : m S = some (.ex e, S1)) : bnd m f S = some (.ex e, S1) := by unfold bnd; rw [h]
theorem bnd_inv {α β : Type} {m : M α} {f : α → M β} {S S2 : Sg} {r : Rs β} (h : bnd m f S = some (r, S2)) :
    (∃ a S1, m S = some (.ok a, S1) ∧ f a S1 = some (r, S2)) ∨ ∃ e, m S = some (.ex e, S2) ∧ r = .ex e := by
  unfold bnd at h
  split at h
  · rename_i a S1 q; exact .inl ⟨a, S1, q, h⟩
  · rename_i e S1 q; cases h; exact .inr ⟨e, q, rfl⟩
  · cases h
theorem lf_inv {α : Type} {m : Sg → Option (α × Sg)} {S S1 : Sg} {r : Rs α} (h : lf m S = some (r, S1)) : ∃ a, m S = some (a, S1) ∧ r = .ok a := by
  unfold lf at h
  split at h
  · rename_i a S2 q; cases h; exact ⟨a, q, rfl⟩
  · cases h
/-! ### what a mirror's state says of the heap -/
def clsA (mg : Str → Option Value) (n : Str) : Addr := match mg n with
  | some (.ref a) => a
  | _ => 0
section
variable (P : Program) (wd : World) (K : Fg) (mg : Str → Option Value)
/-- a dict whose keys are tuples, each with the place of its key -/
def DXf (P : Program) (w : World) (a : Addr) (ks : List (List Key × Addr × V)) (h : Heap) : Prop := ks.length ≤ sizeLine ∧ (a == sysModules) = false ∧ ∃ us : List (List Key × Addr × Value),
  Paired (fun p q => p.1 = q.1 ∧ p.2.1 = q.2.1 ∧ RelV p.2.2 q.2.2) ks us ∧ ∃ o es ep, h.get? a = some o ∧ o.ExactDict ∧ o.data = .dict es ep ∧ es.toList = us.map (entryOfKey (tupleKind (mixKind P w))) ∧ (us.map (·.1)).Nodup
/-- a dict whose keys are None, ints, texts or tuples, each as it stands -/
def DVf (P : Program) (w : World) (a : Addr) (ks : List (Vd.Vk × V × V)) (h : Heap) : Prop := ks.length ≤ sizeLine ∧ (a == sysModules) = false ∧ ∃ us : List (Vd.Vk × Value × Value),
  Paired (fun p q => p.1 = q.1 ∧ RelV p.2.1 q.2.1 ∧ RelV p.2.2 q.2.2) ks us ∧ ∃ o es ep, h.get? a = some o ∧ o.ExactDict ∧ o.data = .dict es ep ∧ es.toList = us.map (Vd.entV (Vd.vkind P w)) ∧ (us.map (·.1)).Nodup
/-- a value that is a key -/
def KyV (F : Hp) (v : V) : Vd.Vk → Prop
  | .a none => v = .non
  | .a (some k) => v = kV k
  | .t ks => ∃ b, v = .ref b ∧ SqT K F b (ks.map kV)
def VR (ρ : List Addr) (F : Hp) (v : V) : Av → Prop
  | .d x => Dp K F v x
  | .o i => ∃ a, ρ[i]? = some a ∧ v = .ref a
abbrev VRs (ρ : List Addr) (F : Hp) : List V → List Av → Prop := Paired (VR K ρ F)
abbrev KR {κ : Type} (ρ : List Addr) (F : Hp) : List (κ × V) → List (κ × Av) → Prop := Paired fun p q => p.1 = q.1 ∧ VR K ρ F p.2 q.2
def TR (ρ : List Addr) (F : Hp) : List (List Key × Addr × V) → List (List Key × Av) → Prop := Paired fun p q => p.1 = q.1 ∧ SqT K F p.2.1 (p.1.map kV) ∧ VR K ρ F p.2.2 q.2
def VTR (ρ : List Addr) (F : Hp) : List (Vd.Vk × V × V) → List (Vd.Vk × Av) → Prop := Paired fun p q => p.1 = q.1 ∧ KyV K F p.2.1 p.1 ∧ VR K ρ F p.2.2 q.2
def dkC : Cl → Bool
  | .dk _ => true
  | .dt _ => true
  | .dv _ => true
  | _ => false
/-- an exception that stands by itself -/
def ExA (a C : Addr) (h : Heap) : Prop := ∃ oe, h.get? a = some oe ∧ L2N.Zn (.ref C) none oe ∧ ∃ vs, oe.data = .fields vs
def CR (ρ : List Addr) (F : Hp) (a : Addr) : Cl → HO → Prop
  | .gone, _ => True
  | .lst xs, o => ∃ vs, o = .lst vs ∧ VRs K ρ F vs xs
  | .dk kvs, o => ∃ ks, o = .dK ks ∧ KR K ρ F ks kvs
  | .dt kvs, o => ∃ ks, o = .ext (DXf P wd a ks) ∧ TR K ρ F ks kvs
  | .dv kvs, o => ∃ ks, o = .ext (DVf P wd a ks) ∧ VTR K ρ F ks kvs
  | .ins c fs, o => ∃ dx gs, o = .ins (clsA mg c) dx gs ∧ KR K ρ F gs fs
  | .lk c, o => ((∃ ob u, o = .frz ob u ∧ CR ρ F a c u) ∧ dkC c = true) ∨ (∃ n, c = .ins n [] ∧ o = .ext (ExA a (clsA mg n))) ∨ ∃ xs vs, c = .lst xs ∧ o = .tup vs ∧ VRs K ρ F vs xs
structure Rel (ρ : List Addr) (S : Sg) (F H : Hp) : Prop where
  len : ρ.length = S.length
  inj : ∀ (i j : Nat) (a : Addr), ρ[i]? = some a → ρ[j]? = some a → i = j
  fh : Ex F H
  al : ∀ a ∈ ρ, H a ≠ none
  cell : ∀ (i : Nat) (a : Addr) (c : Cl), ρ[i]? = some a → S[i]? = some c → c ≠ .gone → F a = none ∧ ∃ o, H a = some o ∧ CR P wd K mg ρ F a c o
structure Gw (ρ : List Addr) (F H : Hp) (ρ' : List Addr) (F' H' : Hp) : Prop where
  pre : ∃ t, ρ' = ρ ++ t
  fx : Ex F F'
  out : ∀ p, H p ≠ none → p ∉ ρ → H' p = H p ∧ p ∉ ρ' ∧ F' p = F p
  fz : ∀ p o u, H p = some (.frz o u) → H' p = some (.frz o u)
def SR (ρ : List Addr) (F : Hp) (σ : L2.St) (σa : Sl) : Prop := σ.length = σa.length ∧ ∀ (i : Nat) (x : Av), σa[i]? = some (some x) → ∃ v, σ[i]? = some (some v) ∧ VR K ρ F v x
def XR (H : Hp) (e : Xn) (c : Value) (d : Option Addr) : Prop := c = .ref (clsA mg e.cls) ∧ match e.row with
  | none => d = none
  | some n => ∃ a, d = some a ∧ H a = some (.xd [("row", .int n)])
/-- what an expression's reading does, by its mirror -/
def SimE (W : WX) (te : TE) (ae : AE) : Prop := ∀ σ σa ρ S F H, Rel P wd K mg ρ S F H → SR K ρ F σ σa → ∀ r S', ae σa S = some (r, S') → ∀ Q : VK,
  (∀ x, r = .ok x → ∀ ρ' F' H' v, Gw ρ F H ρ' F' H' → Rel P wd K mg ρ' S' F' H' → VR K ρ' F' v x → Q v H') →
  (∀ e, r = .ex e → ∀ ρ' F' H' c d, Gw ρ F H ρ' F' H' → Rel P wd K mg ρ' S' F' H' → XR mg H' e c d → W c d σ H') → te σ H Q
def SimT (W : WX) (tt : TT) (at' : AT) : Prop := ∀ σ σa ρ S F H, Rel P wd K mg ρ S F H → SR K ρ F σ σa → ∀ r S', at' σa S = some (r, S') → ∀ Q : Bool → Hp → Prop,
  (∀ b, r = .ok b → ∀ ρ' F' H', Gw ρ F H ρ' F' H' → Rel P wd K mg ρ' S' F' H' → Q b H') →
  (∀ e, r = .ex e → ∀ ρ' F' H' c d, Gw ρ F H ρ' F' H' → Rel P wd K mg ρ' S' F' H' → XR mg H' e c d → W c d σ H') → tt σ H Q
def SimA (W : WX) (ta : TA) (aa : AA) : Prop := ∀ σ σa ρ S F H, Rel P wd K mg ρ S F H → SR K ρ F σ σa → ∀ r S', aa σa S = some (r, S') → ∀ Q : List V → Hp → Prop,
  (∀ xs, r = .ok xs → ∀ ρ' F' H' vs, Gw ρ F H ρ' F' H' → Rel P wd K mg ρ' S' F' H' → VRs K ρ' F' vs xs → Q vs H') →
  (∀ e, r = .ex e → ∀ ρ' F' H' c d, Gw ρ F H ρ' F' H' → Rel P wd K mg ρ' S' F' H' → XR mg H' e c d → W c d σ H') → ta σ H Q
/-- what is wanted of a statement's end -/
def FlQ (W : WX) (D' : Ends) (ρ : List Addr) (F H : Hp) (fl : Fl) (σa : Sl) (S : Sg) : Prop := match fl with
  | .nx => ∀ ρ' F' H' σ', Gw ρ F H ρ' F' H' → Rel P wd K mg ρ' S F' H' → SR K ρ' F' σ' σa → D'.nx σ' H'
  | .bk => ∀ ρ' F' H' σ', Gw ρ F H ρ' F' H' → Rel P wd K mg ρ' S F' H' → SR K ρ' F' σ' σa → D'.bk σ' H'
  | .ct => ∀ ρ' F' H' σ', Gw ρ F H ρ' F' H' → Rel P wd K mg ρ' S F' H' → SR K ρ' F' σ' σa → D'.ct σ' H'
  | .rt x => ∀ ρ' F' H' v, Gw ρ F H ρ' F' H' → Rel P wd K mg ρ' S F' H' → VR K ρ' F' v x → D'.rt v H'
  | .ex e => ∀ ρ' F' H' σ' c d, Gw ρ F H ρ' F' H' → Rel P wd K mg ρ' S F' H' → SR K ρ' F' σ' σa → XR mg H' e c d → W c d σ' H'
def SimS (W : WX) (ts : TS) (as : AS) : Prop := ∀ σ σa ρ S F H, Rel P wd K mg ρ S F H → SR K ρ F σ σa → ∀ fl σa' S', as σa S = some (fl, σa', S') → ∀ D' : Ends, FlQ P wd K mg W D' ρ F H fl σa' S' → ts D' σ H
def SimG (W : WX) (tg : TG) (ag : Av → AS) : Prop := ∀ v x σ σa ρ S F H, Rel P wd K mg ρ S F H → SR K ρ F σ σa → VR K ρ F v x → ∀ fl σa' S', ag x σa S = some (fl, σa', S') → ∀ D' : Ends, FlQ P wd K mg W D' ρ F H fl σa' S' → tg v σ H D'.nx
end
section
variable {P : Program} {wd : World} {K : Fg} {mg : Str → Option Value} {ρ ρ' ρ'' : List Addr} {S S' : Sg} {F F' F'' H H' H'' : Hp} {σ : L2.St} {σa : Sl} {v : V} {x : Av} {c : Cl} {o : HO} {p a : Addr} {i : Nat} {W : WX}
theorem Gw.refl : Gw ρ F H ρ F H := ⟨⟨[], (List.append_nil _).symm⟩, Ex.refl F, fun p _ h => ⟨rfl, h, rfl⟩, fun _ _ _ h => h⟩
theorem Gw.trans (a : Gw ρ F H ρ' F' H') (b : Gw ρ' F' H' ρ'' F'' H'') : Gw ρ F H ρ'' F'' H'' := by
  obtain ⟨t, e⟩ := a.pre
  obtain ⟨u, e'⟩ := b.pre
  refine ⟨⟨t ++ u, by rw [e', e, List.append_assoc]⟩, a.fx.trans b.fx, fun p hp hn => ?_, fun p o u h => b.fz p o u (a.fz p o u h)⟩
  obtain ⟨h1, h2, h3⟩ := a.out p hp hn
  obtain ⟨h4, h5, h6⟩ := b.out p (by rw [h1]; exact hp) h2
  exact ⟨h4.trans h1, h5, h6.trans h3⟩
theorem pre_get {t : List Addr} {a : Addr} (h : ρ[i]? = some a) : (ρ ++ t)[i]? = some a := by
  rw [List.getElem?_append_left (List.getElem?_eq_some_iff.mp h).1]; exact h
theorem VR.up (h : VR K ρ F v x) (e : ∃ t, ρ' = ρ ++ t) (f : Ex F F') : VR K ρ' F' v x := by
  cases x with
  | d x => exact Dp.up h f
  | o i =>
    obtain ⟨a, h1, h2⟩ := h
    obtain ⟨t, rfl⟩ := e
    exact ⟨a, pre_get h1, h2⟩
theorem VR.gw (h : VR K ρ F v x) (g : Gw ρ F H ρ' F' H') : VR K ρ' F' v x := h.up g.pre g.fx
theorem VRs.gw {vs : List V} {xs : List Av} (h : VRs K ρ F vs xs) (g : Gw ρ F H ρ' F' H') : VRs K ρ' F' vs xs := L2.Paired.mapP h fun _ _ q => q.gw g
theorem TR.up {ks : List (List Key × Addr × V)} {kvs : List (List Key × Av)} (h : TR K ρ F ks kvs) (e : ∃ t, ρ' = ρ ++ t) (f : Ex F F') : TR K ρ' F' ks kvs := L2.Paired.mapP h fun _ _ q => ⟨q.1, ex_t f q.2.1, q.2.2.up e f⟩
theorem KyV.up {k : Vd.Vk} {v : V} (h : KyV K F v k) (f : Ex F F') : KyV K F' v k := by
  match k, h with
  | .a none, h => exact h
  | .a (some k), h => exact h
  | .t ks, h => obtain ⟨b, e, h⟩ := h; exact ⟨b, e, ex_t f h⟩
theorem VTR.up {ks : List (Vd.Vk × V × V)} {kvs : List (Vd.Vk × Av)} (h : VTR K ρ F ks kvs) (e : ∃ t, ρ' = ρ ++ t) (f : Ex F F') : VTR K ρ' F' ks kvs := L2.Paired.mapP h fun _ _ q => ⟨q.1, q.2.1.up f, q.2.2.up e f⟩
theorem KR.up {κ : Type} {ks : List (κ × V)} {kvs : List (κ × Av)} (h : KR K ρ F ks kvs) (e : ∃ t, ρ' = ρ ++ t) (f : Ex F F') : KR K ρ' F' ks kvs := L2.Paired.mapP h fun _ _ q => ⟨q.1, q.2.up e f⟩
theorem CR.up (h : CR P wd K mg ρ F a c o) (e : ∃ t, ρ' = ρ ++ t) (f : Ex F F') : CR P wd K mg ρ' F' a c o := by
  induction c generalizing o with
  | gone => trivial
  | lst xs => obtain ⟨vs, rfl, h⟩ := h; exact ⟨vs, rfl, L2.Paired.mapP h fun _ _ q => q.up e f⟩
  | dk kvs => obtain ⟨vs, rfl, h⟩ := h; exact ⟨vs, rfl, KR.up h e f⟩
  | dt kvs => obtain ⟨vs, rfl, h⟩ := h; exact ⟨vs, rfl, TR.up h e f⟩
  | dv kvs => obtain ⟨vs, rfl, h⟩ := h; exact ⟨vs, rfl, VTR.up h e f⟩
  | ins c fs => obtain ⟨dx, gs, rfl, h⟩ := h; exact ⟨dx, gs, rfl, KR.up h e f⟩
  | lk c ih =>
    rcases h with ⟨⟨ob, u, rfl, h⟩, hn⟩ | h | ⟨xs, vs, h1, h2, h3⟩
    · exact .inl ⟨⟨ob, u, rfl, ih h⟩, hn⟩
    · exact .inr (.inl h)
    · exact .inr (.inr ⟨xs, vs, h1, h2, L2.Paired.mapP h3 fun _ _ q => q.up e f⟩)
theorem SR.up (h : SR K ρ F σ σa) (e : ∃ t, ρ' = ρ ++ t) (f : Ex F F') : SR K ρ' F' σ σa := ⟨h.1, fun i x q => let ⟨v, h1, h2⟩ := h.2 i x q; ⟨v, h1, h2.up e f⟩⟩
theorem SR.gw (h : SR K ρ F σ σa) (g : Gw ρ F H ρ' F' H') : SR K ρ' F' σ σa := h.up g.pre g.fx
theorem SR.set {j : Nat} (h : SR K ρ F σ σa) (hv : VR K ρ F v x) : SR K ρ F (σ.set j (some v)) (σa.set j (some x)) := by
  refine ⟨by rw [List.length_set, List.length_set]; exact h.1, fun i y q => ?_⟩
  by_cases e : j = i
  · subst e
    by_cases hl : j < σa.length
    · rw [List.getElem?_set_self hl] at q
      cases q
      exact ⟨v, by rw [List.getElem?_set_self (by rw [h.1]; exact hl)], hv⟩
    · rw [List.getElem?_eq_none (by rw [List.length_set]; omega)] at q
      cases q
  · rw [List.getElem?_set_ne e] at q ⊢
    exact h.2 i y q
/-- a new cell -/
theorem Rel.new (r : Rel P wd K mg ρ S F H) (hp : H p = none) (hc : CR P wd K mg (ρ ++ [p]) F p c o) : Rel P wd K mg (ρ ++ [p]) (S ++ [c]) F (upd H p o) ∧ Gw ρ F H (ρ ++ [p]) F (upd H p o) := by
  have hpn : p ∉ ρ := fun h => r.al p h hp
  have fp : F p = none := fresh_back r.fh hp
  have split : ∀ {i a}, (ρ ++ [p])[i]? = some a → (i < ρ.length ∧ ρ[i]? = some a) ∨ (i = ρ.length ∧ a = p) := fun {i a} h => by
    by_cases hl : i < ρ.length
    · rw [List.getElem?_append_left hl] at h; exact .inl ⟨hl, h⟩
    · rw [List.getElem?_append_right (by omega)] at h
      have : i - ρ.length = 0 := by
        have := (List.getElem?_eq_some_iff.mp h).1
        simp at this; omega
      rw [this] at h
      exact .inr ⟨by omega, (Option.some.inj h).symm⟩
  refine ⟨⟨by simp [r.len], fun i j a h1 h2 => ?_, r.fh.trans (Ex.new hp), fun a ha => ?_, fun i a c' h1 h2 hg => ?_⟩, ⟨⟨_, rfl⟩, Ex.refl F, fun q hq hn => ?_, fun q o u h => by rw [upd_ne (ne_of_none h hp)]; exact h⟩⟩
  · rcases split h1 with ⟨l1, e1⟩ | ⟨rfl, rfl⟩ <;> rcases split h2 with ⟨l2, e2⟩ | ⟨l2, e2⟩
    · exact r.inj i j a e1 e2
    · subst e2; exact absurd (List.mem_of_getElem? e1) hpn
    · exact absurd (List.mem_of_getElem? e2) hpn
    · exact l2.symm
  · by_cases e : a = p
    · subst e; rw [upd_same]; exact fun z => nomatch z
    · rw [upd_ne e]
      rcases List.mem_append.mp ha with h | h
      · exact r.al a h
      · exact absurd (List.mem_singleton.mp h) e
  · rcases split h1 with ⟨l1, e1⟩ | ⟨rfl, rfl⟩
    · rw [List.getElem?_append_left (by rw [← r.len]; exact l1)] at h2
      obtain ⟨f, o', ho, hco⟩ := r.cell i a c' e1 h2 hg
      have ne : a ≠ p := fun z => hpn (z ▸ List.mem_of_getElem? e1)
      exact ⟨f, o', by rw [upd_ne ne]; exact ho, hco.up ⟨_, rfl⟩ (Ex.refl F)⟩
    · rw [r.len, List.getElem?_append_right (Nat.le_refl _)] at h2
      simp at h2
      subst h2
      exact ⟨fp, o, upd_same, hc⟩
  · have ne : q ≠ p := fun z => hq (z ▸ hp)
    refine ⟨upd_ne ne, fun h => ?_, rfl⟩
    rcases List.mem_append.mp h with h | h
    · exact hn h
    · exact ne (List.mem_singleton.mp h)
/-- a new thing that stays -/
theorem Rel.newF (r : Rel P wd K mg ρ S F H) (hp : H p = none) : Rel P wd K mg ρ S (upd F p o) (upd H p o) ∧ Gw ρ F H ρ (upd F p o) (upd H p o) := by
  have hpn : p ∉ ρ := fun h => r.al p h hp
  have fp : F p = none := fresh_back r.fh hp
  have fx : Ex F (upd F p o) := Ex.new fp
  refine ⟨⟨r.len, r.inj, fun b u h => ?_, fun a ha => ?_, fun i a c' h1 h2 hg => ?_⟩, ⟨⟨[], (List.append_nil _).symm⟩, fx, fun q hq hn => ?_, fun q o u h => by rw [upd_ne (ne_of_none h hp)]; exact h⟩⟩
  · by_cases e : b = p
    · subst e; rw [upd_same] at h ⊢; exact h
    · rw [upd_ne e] at h ⊢; exact r.fh b u h
  · rw [upd_ne (fun z : a = p => hpn (by rw [← z]; exact ha))]; exact r.al a ha
  · obtain ⟨f, o', ho, hco⟩ := r.cell i a c' h1 h2 hg
    have ne : a ≠ p := fun z => hpn (z ▸ List.mem_of_getElem? h1)
    exact ⟨by rw [upd_ne ne]; exact f, o', by rw [upd_ne ne]; exact ho, hco.up ⟨[], (List.append_nil _).symm⟩ fx⟩
  · have ne : q ≠ p := fun z => hq (z ▸ hp)
    exact ⟨upd_ne ne, hn, upd_ne ne⟩
/-- a cell changes -/
theorem Rel.set {c0 : Cl} (r : Rel P wd K mg ρ S F H) (hi : ρ[i]? = some p) (hs : S[i]? = some c0) (hg : c0 ≠ .gone) (hc : CR P wd K mg ρ F p c o) (hk : ∀ c', c0 ≠ .lk c' := by intro _ z; cases z) : Rel P wd K mg ρ (S.set i c) F (upd H p o) ∧ Gw ρ F H ρ F (upd H p o) := by
  obtain ⟨fp, o0, ho0, hc0⟩ := r.cell i p c0 hi hs hg
  have nfz : ∀ ob u, H p ≠ some (.frz ob u) := fun ob u z => by
    rw [ho0] at z
    cases z
    cases c0 with
    | gone => exact hg rfl
    | lst xs => obtain ⟨_, e, _⟩ := hc0; cases e
    | dk xs => obtain ⟨_, e, _⟩ := hc0; cases e
    | dt xs => obtain ⟨_, e, _⟩ := hc0; cases e
    | dv xs => obtain ⟨_, e, _⟩ := hc0; cases e
    | ins c xs => obtain ⟨_, _, e, _⟩ := hc0; cases e
    | lk c => exact hk c rfl
  refine ⟨⟨by rw [List.length_set]; exact r.len, r.inj, fun b u h => ?_, fun a ha => ?_, fun j a c' h1 h2 hg' => ?_⟩, ⟨⟨[], (List.append_nil _).symm⟩, Ex.refl F, fun q hq hn => ?_, fun q ob u h => by rw [upd_ne (fun z : q = p => nfz ob u (by rw [← z]; exact h))]; exact h⟩⟩
  · rw [upd_ne (ne_of_none h fp)]; exact r.fh b u h
  · by_cases e : a = p
    · subst e; rw [upd_same]; exact fun z => nomatch z
    · rw [upd_ne e]; exact r.al a ha
  · by_cases e : i = j
    · subst e
      rw [List.getElem?_set_self (List.getElem?_eq_some_iff.mp hs).1] at h2
      cases h2
      rw [hi] at h1
      cases h1
      exact ⟨fp, o, upd_same, hc⟩
    · rw [List.getElem?_set_ne e] at h2
      obtain ⟨f, o', ho, hco⟩ := r.cell j a c' h1 h2 hg'
      have ne : a ≠ p := fun z => e (r.inj i j p hi (z ▸ h1))
      exact ⟨f, o', by rw [upd_ne ne]; exact ho, hco⟩
  · have ne : q ≠ p := fun z => hn (by rw [z]; exact List.mem_of_getElem? hi)
    exact ⟨upd_ne ne, hn, rfl⟩
/-- a cell is handed out: what stands there stays from now on -/
theorem Rel.fix {c0 : Cl} (r : Rel P wd K mg ρ S F H) (hi : ρ[i]? = some p) (hs : S[i]? = some c0) (hg : c0 ≠ .gone) (ho : H p = some o) : Rel P wd K mg ρ (S.set i .gone) (upd F p o) H ∧ Gw ρ F H ρ (upd F p o) H := by
  obtain ⟨fp, _, _, _⟩ := r.cell i p c0 hi hs hg
  have fx : Ex F (upd F p o) := Ex.new fp
  refine ⟨⟨by rw [List.length_set]; exact r.len, r.inj, fun b u h => ?_, r.al, fun j a c' h1 h2 hg' => ?_⟩, ⟨⟨[], (List.append_nil _).symm⟩, fx, fun q hq hn => ?_, fun _ _ _ h => h⟩⟩
  · by_cases e : b = p
    · subst e; rw [upd_same] at h; cases h; exact ho
    · rw [upd_ne e] at h; exact r.fh b u h
  · by_cases e : i = j
    · subst e
      rw [List.getElem?_set_self (List.getElem?_eq_some_iff.mp hs).1] at h2
      cases h2
      exact absurd rfl hg'
    · rw [List.getElem?_set_ne e] at h2
      obtain ⟨f, o', ho', hco⟩ := r.cell j a c' h1 h2 hg'
      have ne : a ≠ p := fun z => e (r.inj i j p hi (z ▸ h1))
      exact ⟨by rw [upd_ne ne]; exact f, o', ho', hco.up ⟨[], (List.append_nil _).symm⟩ fx⟩
  · have ne : q ≠ p := fun z => hn (by rw [z]; exact List.mem_of_getElem? hi)
    exact ⟨rfl, hn, upd_ne ne⟩
theorem VRs.len {vs : List V} {xs : List Av} (h : VRs K ρ F vs xs) : vs.length = xs.length := Paired.length h
theorem FlQ.gw {D' : Ends} {fl : Fl} (h : FlQ P wd K mg W D' ρ F H fl σa S) (g : Gw ρ F H ρ' F' H') : FlQ P wd K mg W D' ρ' F' H' fl σa S := by
  cases fl with
  | nx => exact fun a b c d e f i => h a b c d (g.trans e) f i
  | bk => exact fun a b c d e f i => h a b c d (g.trans e) f i
  | ct => exact fun a b c d e f i => h a b c d (g.trans e) f i
  | rt x => exact fun a b c d e f i => h a b c d (g.trans e) f i
  | ex x => exact fun a b c d e f g' f' i => h a b c d e f (g.trans g') f' i
end
end Ly
/-! LyN: the mirror of each construct, and that it says what the reading asks. -/
namespace Ly
open PySem L2 Evl PyProof.Rows
/-! ### mirrors -/
def aVar (i : Nat) : AE := fun σ S => match σ[i]? with
  | some (some x) => some (.ok x, S)
  | _ => none
def aD (x : D) : AE := fun _ => ret (.d x)
def aOp (f : Av → Av → Op0) (a b : AE) : AE := fun σ => bnd (a σ) fun x => bnd (b σ) fun y => lf (f x y)
def aUn (f : Av → Op0) (a : AE) : AE := fun σ => bnd (a σ) fun x => lf (f x)
def aNil : AA := fun _ => ret []
def aCons (a : AE) (t : AA) : AA := fun σ => bnd (a σ) fun x => bnd (t σ) fun xs => ret (x :: xs)
def aCB (f : List Av → Op0) (t : AA) : AE := fun σ => bnd (t σ) fun xs => lf (f xs)
def aBM (f : Av → List Av → Op0) (a : AE) (t : AA) : AE := fun σ => bnd (a σ) fun x => bnd (t σ) fun xs => lf (f x xs)
def allD : List Av → Option (List D)
  | [] => some []
  | .d x :: xs => (allD xs).map (x :: ·)
  | .o _ :: _ => none
def mkTup (xs : List Av) : Op0 := fun S => if xs.length ≤ 100000 then (allD xs).map fun ds => (.d (.tuple ds), S) else none
def mkLstF (xs : List Av) : Op0 := fun S => if xs.length ≤ 100000 then (allD xs).map fun ds => (.d (.list ds), S) else none
def mkLstC (xs : List Av) : Op0 := fun S => if xs.length ≤ 100000 then some (.o S.length, S ++ [.lst xs]) else none
def aTup (t : AA) : AE := fun σ => bnd (t σ) fun xs => lf (mkTup xs)
def aLstF (t : AA) : AE := fun σ => bnd (t σ) fun xs => lf (mkLstF xs)
def aLstC (t : AA) : AE := fun σ => bnd (t σ) fun xs => lf (mkLstC xs)
def aCall (f : AF) (t : AA) : AE := fun σ => bnd (t σ) f
def bitOf : Av → Option Bool
  | .d (.bool b) => some b
  | _ => none
def asB (x : Av) : M Bool := fun S => (bitOf x).map fun b => (.ok b, S)
def aB (a : AE) : AT := fun σ => bnd (a σ) asB
def aAnd (t u : AT) : AT := fun σ => bnd (t σ) fun c => if c = true then u σ else ret false
def aOr (t u : AT) : AT := fun σ => bnd (t σ) fun c => if c = true then ret true else u σ
def aNot (t : AT) : AT := fun σ => bnd (t σ) fun c => ret (!c)
def aAndV (a b : AE) : AE := fun σ => bnd (a σ) fun x => bnd (asB x) fun c => if c = true then b σ else ret (.d (.bool false))
def aOrV (a b : AE) : AE := fun σ => bnd (a σ) fun x => bnd (asB x) fun c => if c = true then ret (.d (.bool true)) else b σ
def aNotV (a : AE) : AE := fun σ => bnd (a σ) fun x => bnd (asB x) fun c => ret (.d (.bool (!c)))
def aIf (t : AT) (a b : AE) : AE := fun σ => bnd (t σ) fun c => if c = true then a σ else b σ
def aChain (f g : Av → Av → Op0) (a b c : AE) : AE := fun σ => bnd (a σ) fun x => bnd (b σ) fun y => bnd (lf (f x y)) fun z => bnd (asB z) fun k =>
  if k = true then bnd (c σ) fun w => lf (g y w) else ret (.d (.bool false))
/-! statements -/
def stb {α : Type} (m : M α) (σ : Sl) (f : α → Sg → Option (Fl × Sl × Sg)) : Sg → Option (Fl × Sl × Sg) := fun S => match m S with
  | some (.ok a, S1) => f a S1
  | some (.ex e, S1) => some (.ex e, σ, S1)
  | none => none
theorem stb_inv {α : Type} {m : M α} {σ : Sl} {f : α → Sg → Option (Fl × Sl × Sg)} {S S2 : Sg} {fl : Fl} {σ' : Sl} (h : stb m σ f S = some (fl, σ', S2)) :
    (∃ a S1, m S = some (.ok a, S1) ∧ f a S1 = some (fl, σ', S2)) ∨ ∃ e, m S = some (.ex e, S2) ∧ fl = .ex e ∧ σ' = σ := by
  unfold stb at h
  split at h
  · rename_i a S1 q; exact .inl ⟨a, S1, q, h⟩
  · rename_i e S1 q; cases h; exact .inr ⟨e, q, rfl, rfl⟩
  · cases h
def aNext : AS := fun σ S => some (.nx, σ, S)
def aBreak : AS := fun σ S => some (.bk, σ, S)
def aCont : AS := fun σ S => some (.ct, σ, S)
def aSeq (s t : AS) : AS := fun σ S => match s σ S with
  | some (.nx, σ1, S1) => t σ1 S1
  | r => r
def aDrop (a : AE) : AS := fun σ => stb (a σ) σ fun _ S => some (.nx, σ, S)
def aRet (a : AE) : AS := fun σ => stb (a σ) σ fun x S => some (.rt x, σ, S)
def aRetN : AS := fun σ S => some (.rt (.d .none), σ, S)
def aIfS (t : AT) (s u : AS) : AS := fun σ => stb (t σ) σ fun b => if b = true then s σ else u σ
def agName (i : Nat) : Av → AS := fun x σ S => some (.nx, σ.set i (some x), S)
def aAsg (a : AE) (g : Av → AS) : AS := fun σ => stb (a σ) σ fun x => g x σ
def aAug (i : Nat) (a : AE) (f : Av → Av → Op0) : AS := fun σ S => match σ[i]? with
  | some (some x) => stb (bnd (a σ) fun y => lf (f x y)) σ (fun z S => some (.nx, σ.set i (some z), S)) S
  | _ => none
/-! targets of several names -/
def agNil : List Av → AS := fun xs σ S => match xs with
  | [] => some (.nx, σ, S)
  | _ => none
def agCons (g : Av → AS) (gs : List Av → AS) : List Av → AS := fun xs σ S => match xs with
  | x :: r => match g x σ S with
    | some (.nx, σ1, S1) => gs r σ1 S1
    | _ => none
  | [] => none
def agTup (n : Nat) (gs : List Av → AS) : Av → AS := fun x σ S => match x with
  | .d (.tuple ds) => if ds.length = n then gs (ds.map .d) σ S else none
  | _ => none
/-! loops -/
def fu : Nat := 1000000
/-- what is walked: at a turn, nothing more or an item -/
abbrev Itm := Nat → Sg → Option (Option Av)
def fgo (it : Itm) (g : Av → AS) (b : AS) : Nat → Nat → AS
  | 0, _, _, _ => none
  | n + 1, i, σ, S => match it i S with
    | none => none
    | some none => some (.nx, σ, S)
    | some (some x) => match g x σ S with
      | some (.nx, σ1, S1) => match b σ1 S1 with
        | some (.nx, σ2, S2) => fgo it g b n (i + 1) σ2 S2
        | some (.ct, σ2, S2) => fgo it g b n (i + 1) σ2 S2
        | some (.bk, σ2, S2) => some (.nx, σ2, S2)
        | r => r
      | _ => none
def aFor (ai : Sl → M Itm) (g : Av → AS) (b : AS) : AS := fun σ => stb (ai σ) σ fun it => fgo it g b fu 0 σ
def wgo (t : AT) (b : AS) : Nat → AS
  | 0, _, _ => none
  | n + 1, σ, S => stb (t σ) σ (fun c S1 => if c = true then
      match b σ S1 with
      | some (.nx, σ2, S2) => wgo t b n σ2 S2
      | some (.ct, σ2, S2) => wgo t b n σ2 S2
      | some (.bk, σ2, S2) => some (.nx, σ2, S2)
      | r => r
    else some (.nx, σ, S1)) S
def aWhile (t : AT) (b : AS) : AS := wgo t b fu
/-! comprehensions -/
def wipeA (σ : Sl) : List Nat → Sl
  | [] => σ
  | v :: vs => (wipeA σ vs).set v none
def lgo (it : Itm) (g : Av → AS) (tt : AT) (e : AE) (σ : Sl) : Nat → Nat → List Av → Sg → Option (List Av × Sg)
  | 0, _, _, _ => none
  | n + 1, i, acc, S => match it i S with
    | none => none
    | some none => some (acc, S)
    | some (some x) => match g x σ S with
      | some (.nx, σ1, S1) => match tt σ1 S1 with
        | some (.ok true, S2) => match e σ1 S2 with
          | some (.ok y, S3) => if acc.length < 100000 then lgo it g tt e σ n (i + 1) (acc ++ [y]) S3 else none
          | _ => none
        | some (.ok false, S2) => lgo it g tt e σ n (i + 1) acc S2
        | _ => none
      | _ => none
def aLc (mk : List Av → Op0) (ai : Sl → M Itm) (g : Av → AS) (tt : AT) (e : AE) (vs : List Nat) : AE := fun σ => bnd (ai σ) fun it => bnd (lf (lgo it g tt e (wipeA σ vs) fu 0 [])) fun xs => lf (mk xs)
def aYes : AT := fun _ => ret true
/-- a new list, frozen; one's own -/
def lcF (xs : List Av) : Op0 := fun S => (allD xs).map fun ds => (.d (.list ds), S)
def lcC (xs : List Av) : Op0 := fun S => some (.o S.length, S ++ [.lst xs])
/-! ### soundness: ways -/
section
variable {P : Program} {wd : World} {K : Fg} {mg : Str → Option Value} {W : WX} {ρ : List Addr} {S S' : Sg} {F H : Hp} {σ : L2.St} {σa σa' : Sl}
/-- what an operation's relation does -/
def OpS (P : Program) (wd : World) (K : Fg) (mg : Str → Option Value) (r : R2) (f : Av → Av → Op0) : Prop := ∀ ρ S F H, Rel P wd K mg ρ S F H → ∀ v w x y, VR K ρ F v x → VR K ρ F w y → ∀ z S', f x y S = some (z, S') → ∀ Q : VK,
  (∀ ρ' F' H' u, Gw ρ F H ρ' F' H' → Rel P wd K mg ρ' S' F' H' → VR K ρ' F' u z → Q u H') → r v w H Q
def UnS (P : Program) (wd : World) (K : Fg) (mg : Str → Option Value) (r : V → Hp → VK → Prop) (f : Av → Op0) : Prop := ∀ ρ S F H, Rel P wd K mg ρ S F H → ∀ v x, VR K ρ F v x → ∀ z S', f x S = some (z, S') → ∀ Q : VK,
  (∀ ρ' F' H' u, Gw ρ F H ρ' F' H' → Rel P wd K mg ρ' S' F' H' → VR K ρ' F' u z → Q u H') → r v H Q
def CallS (P : Program) (wd : World) (K : Fg) (mg : Str → Option Value) (r : List V → Hp → VK → Prop) (f : List Av → Op0) : Prop := ∀ ρ S F H, Rel P wd K mg ρ S F H → ∀ vs xs, VRs K ρ F vs xs → ∀ z S', f xs S = some (z, S') → ∀ Q : VK,
  (∀ ρ' F' H' u, Gw ρ F H ρ' F' H' → Rel P wd K mg ρ' S' F' H' → VR K ρ' F' u z → Q u H') → r vs H Q
/-- a walk's reading -/
def WkA (P : Program) (wd : World) (K : Fg) (mg : Str → Option Value) (ρ0 : List Addr) (F0 H0 : Hp) (J : It) (it : Itm) : Prop := ∀ ρ S F H, Gw ρ0 F0 H0 ρ F H → Rel P wd K mg ρ S F H → ∀ i o, it i S = some o →
  match o with
  | none => J.stop i H
  | some x => J.go i H ∧ ∀ v H', J.yld i H v H' → ∃ ρ' F', Gw ρ F H ρ' F' H' ∧ Rel P wd K mg ρ' S F' H' ∧ VR K ρ' F' v x
def SimI (P : Program) (wd : World) (K : Fg) (mg : Str → Option Value) (W : WX) (wi : TI) (ai : Sl → M Itm) : Prop := ∀ σ σa ρ S F H, Rel P wd K mg ρ S F H → SR K ρ F σ σa → ∀ r S', ai σa S = some (r, S') → ∀ R : It → Hp → Prop,
  (∀ it, r = .ok it → ∀ ρ' F' H' J, Gw ρ F H ρ' F' H' → Rel P wd K mg ρ' S' F' H' → WkA P wd K mg ρ' F' H' J it → R J H') →
  (∀ e, r = .ex e → ∀ ρ' F' H' c d, Gw ρ F H ρ' F' H' → Rel P wd K mg ρ' S' F' H' → XR mg H' e c d → W c d σ H') → wi σ H R
section
variable {α : Type} {r : Rs α} {te ta tb tc : TE} {ae aa ab ac : AE} {tt tu : TT} {at' au : AT} {tg : TA} {ag : AA}
/-- the exception's way, gone on -/
def ExQ (P : Program) (wd : World) (K : Fg) (mg : Str → Option Value) (W : WX) (ρ : List Addr) (F H : Hp) (σ : L2.St) (r : Rs α) (S : Sg) : Prop := ∀ e, r = .ex e → ∀ ρ' F' H' c d, Gw ρ F H ρ' F' H' → Rel P wd K mg ρ' S F' H' → XR mg H' e c d → W c d σ H'
theorem ExQ.gw {ρ' : List Addr} {F' H' : Hp} (q : ExQ P wd K mg W ρ F H σ r S) (g : Gw ρ F H ρ' F' H') : ExQ P wd K mg W ρ' F' H' σ r S := fun e he a b c d f g' h x => q e he a b c d f (g.trans g') h x
theorem ExQ.gwS {ρ' : List Addr} {F' H' : Hp} (q : ExQ P wd K mg W ρ F H σ r S) (g : Gw ρ F H ρ' F' H') : ExQ P wd K mg W ρ' F' H' σ r S := q.gw g
theorem SimE.bind {f : Av → M α} (ha : SimE P wd K mg W ta aa) (hr : Rel P wd K mg ρ S F H) (hs : SR K ρ F σ σa) (h : bnd (aa σa) f S = some (r, S')) {Q : VK} (qe : ExQ P wd K mg W ρ F H σ r S')
    (k : ∀ x S1 ρ1 F1 H1 v, f x S1 = some (r, S') → Gw ρ F H ρ1 F1 H1 → Rel P wd K mg ρ1 S1 F1 H1 → VR K ρ1 F1 v x → Q v H1) : ta σ H Q := by
  rcases bnd_inv h with ⟨x, S1, e1, h⟩ | ⟨e, e1, rfl⟩
  · exact ha σ σa ρ S F H hr hs _ _ e1 Q (fun x' hx ρ1 F1 H1 v g1 r1 v1 => by cases hx; exact k x S1 ρ1 F1 H1 v h g1 r1 v1) (fun e he => nomatch he)
  · exact ha σ σa ρ S F H hr hs _ _ e1 Q (fun x' hx => nomatch hx) (fun e' he a b c d f g h x => by cases he; exact qe _ rfl a b c d f g h x)
theorem SimT.bind {f : Bool → M α} (ha : SimT P wd K mg W tt at') (hr : Rel P wd K mg ρ S F H) (hs : SR K ρ F σ σa) (h : bnd (at' σa) f S = some (r, S')) {Q : Bool → Hp → Prop} (qe : ExQ P wd K mg W ρ F H σ r S')
    (k : ∀ x S1 ρ1 F1 H1, f x S1 = some (r, S') → Gw ρ F H ρ1 F1 H1 → Rel P wd K mg ρ1 S1 F1 H1 → Q x H1) : tt σ H Q := by
  rcases bnd_inv h with ⟨x, S1, e1, h⟩ | ⟨e, e1, rfl⟩
  · exact ha σ σa ρ S F H hr hs _ _ e1 Q (fun x' hx ρ1 F1 H1 g1 r1 => by cases hx; exact k x S1 ρ1 F1 H1 h g1 r1) (fun e he => nomatch he)
  · exact ha σ σa ρ S F H hr hs _ _ e1 Q (fun x' hx => nomatch hx) (fun e' he a b c d f g h x => by cases he; exact qe _ rfl a b c d f g h x)
theorem SimA.bind {f : List Av → M α} (ha : SimA P wd K mg W tg ag) (hr : Rel P wd K mg ρ S F H) (hs : SR K ρ F σ σa) (h : bnd (ag σa) f S = some (r, S')) {Q : List V → Hp → Prop} (qe : ExQ P wd K mg W ρ F H σ r S')
    (k : ∀ xs S1 ρ1 F1 H1 vs, f xs S1 = some (r, S') → Gw ρ F H ρ1 F1 H1 → Rel P wd K mg ρ1 S1 F1 H1 → VRs K ρ1 F1 vs xs → Q vs H1) : tg σ H Q := by
  rcases bnd_inv h with ⟨x, S1, e1, h⟩ | ⟨e, e1, rfl⟩
  · exact ha σ σa ρ S F H hr hs _ _ e1 Q (fun x' hx ρ1 F1 H1 v g1 r1 v1 => by cases hx; exact k x S1 ρ1 F1 H1 v h g1 r1 v1) (fun e he => nomatch he)
  · exact ha σ σa ρ S F H hr hs _ _ e1 Q (fun x' hx => nomatch hx) (fun e' he a b c d f g h x => by cases he; exact qe _ rfl a b c d f g h x)
theorem SimI.bind {f : Itm → M α} {wi : TI} {ai : Sl → M Itm} (ha : SimI P wd K mg W wi ai) (hr : Rel P wd K mg ρ S F H) (hs : SR K ρ F σ σa) (h : bnd (ai σa) f S = some (r, S')) {Q : It → Hp → Prop} (qe : ExQ P wd K mg W ρ F H σ r S')
    (k : ∀ it S1 ρ1 F1 H1 J, f it S1 = some (r, S') → Gw ρ F H ρ1 F1 H1 → Rel P wd K mg ρ1 S1 F1 H1 → WkA P wd K mg ρ1 F1 H1 J it → Q J H1) : wi σ H Q := by
  rcases bnd_inv h with ⟨x, S1, e1, h⟩ | ⟨e, e1, rfl⟩
  · exact ha σ σa ρ S F H hr hs _ _ e1 Q (fun x' hx ρ1 F1 H1 v g1 r1 v1 => by cases hx; exact k x S1 ρ1 F1 H1 v h g1 r1 v1) (fun e he => nomatch he)
  · exact ha σ σa ρ S F H hr hs _ _ e1 Q (fun x' hx => nomatch hx) (fun e' he a b c d f g h x => by cases he; exact qe _ rfl a b c d f g h x)
end
/-! ### soundness: expressions -/
section
variable {te ta tb tc : TE} {ae aa ab ac : AE} {tt tu : TT} {at' au : AT} {tg : TA} {ag : AA} {r r' : R2} {f f' : Av → Av → Op0} {x : D} {v : V}
theorem sm_var {i : Nat} : SimE P wd K mg W (tVar i) (aVar i) := by
  intro σ σa ρ S F H hr hs r S' h Q qo qe
  unfold aVar at h
  split at h
  · rename_i y q
    cases h
    obtain ⟨v, e, hv⟩ := hs.2 _ _ q
    exact ⟨v, e, qo _ rfl ρ F H v Gw.refl hr hv⟩
  · cases h
theorem sm_c (hx : ∀ F, Dp K F v x) : SimE P wd K mg W (tC v) (aD x) := by
  intro σ σa ρ S F H hr hs r S' h Q qo qe
  cases h
  exact qo _ rfl ρ F H v Gw.refl hr (hx F)
theorem sm_int {i : Int} : SimE P wd K mg W (tC (.int i)) (aD (.int i)) := sm_c fun _ => .int i
theorem sm_str {i : Str} : SimE P wd K mg W (tC (.str i)) (aD (.str i)) := sm_c fun _ => .str i
theorem sm_bl {i : Bool} : SimE P wd K mg W (tC (.bl i)) (aD (.bool i)) := sm_c fun _ => .bl i
theorem sm_non : SimE P wd K mg W (tC .non) (aD .none) := sm_c fun _ => .non
theorem sm_op (hop : OpS P wd K mg r f) (ha : SimE P wd K mg W ta aa) (hb : SimE P wd K mg W tb ab) : SimE P wd K mg W (tOp r ta tb) (aOp f aa ab) := by
  intro σ σa ρ S F H hr hs rr S' h Q qo qe
  refine ha.bind hr hs h qe fun x S1 ρ1 F1 H1 v h g1 r1 v1 => ?_
  refine hb.bind r1 (hs.gw g1) h (ExQ.gw qe g1) fun y S2 ρ2 F2 H2 w h g2 r2 v2 => ?_
  obtain ⟨z, hz, rfl⟩ := lf_inv h
  clear h
  have h := hz
  exact hop ρ2 S2 F2 H2 r2 v w x y (v1.gw g2) v2 z S' h Q fun ρ3 F3 H3 u g3 r3 v3 => qo _ rfl ρ3 F3 H3 u ((g1.trans g2).trans g3) r3 v3
theorem sm_un {ru : V → Hp → VK → Prop} {fu : Av → Op0} (hop : UnS P wd K mg ru fu) (ha : SimE P wd K mg W ta aa) : SimE P wd K mg W (tUn ru ta) (aUn fu aa) := by
  intro σ σa ρ S F H hr hs rr S' h Q qo qe
  refine ha.bind hr hs h qe fun x S1 ρ1 F1 H1 v h g1 r1 v1 => ?_
  obtain ⟨z, hz, rfl⟩ := lf_inv h
  clear h
  have h := hz
  exact hop ρ1 S1 F1 H1 r1 v x v1 z S' h Q fun ρ3 F3 H3 u g3 r3 v3 => qo _ rfl ρ3 F3 H3 u (g1.trans g3) r3 v3
theorem sa_nil : SimA P wd K mg W tNil aNil := by
  intro σ σa ρ S F H hr hs rr S' h Q qo qe
  cases h
  exact qo _ rfl ρ F H [] Gw.refl hr .nil
theorem sa_cons (ha : SimE P wd K mg W ta aa) (hb : SimA P wd K mg W tg ag) : SimA P wd K mg W (tCons ta tg) (aCons aa ag) := by
  intro σ σa ρ S F H hr hs rr S' h Q qo qe
  refine ha.bind hr hs h qe fun x S1 ρ1 F1 H1 v h g1 r1 v1 => ?_
  refine hb.bind r1 (hs.gw g1) h (ExQ.gw qe g1) fun xs S2 ρ2 F2 H2 vs h g2 r2 v2 => ?_
  cases h
  exact qo _ rfl ρ2 F2 H2 _ (g1.trans g2) r2 (.cons (v1.gw g2) v2)
theorem sm_cb {rc : List V → Hp → VK → Prop} {fc : List Av → Op0} (hop : CallS P wd K mg rc fc) (ha : SimA P wd K mg W tg ag) : SimE P wd K mg W (tCB rc tg) (aCB fc ag) := by
  intro σ σa ρ S F H hr hs rr S' h Q qo qe
  refine ha.bind hr hs h qe fun x S1 ρ1 F1 H1 v h g1 r1 v1 => ?_
  obtain ⟨z, hz, rfl⟩ := lf_inv h
  clear h
  have h := hz
  exact hop ρ1 S1 F1 H1 r1 v x v1 z S' h Q fun ρ3 F3 H3 u g3 r3 v3 => qo _ rfl ρ3 F3 H3 u (g1.trans g3) r3 v3
theorem allD_inv : ∀ {xs : List Av} {ds : List D}, allD xs = some ds → xs = ds.map .d
  | [], ds, h => by cases h; rfl
  | .d x :: xs, ds, h => by
    obtain ⟨es, e1, rfl⟩ := Option.map_eq_some_iff.mp (show (allD xs).map (x :: ·) = some ds from h)
    rw [allD_inv e1]; rfl
  | .o _ :: _, _, h => by cases h
theorem allD_map : ∀ ds : List D, allD (ds.map .d) = some ds
  | [] => rfl
  | d :: ds => by show (allD (ds.map .d)).map (d :: ·) = _; rw [allD_map ds]; rfl
theorem dps_of : ∀ {vs : List V} {ds : List D}, VRs K ρ F vs (ds.map .d) → DpAll K F vs ds
  | _, [], h => by cases h; exact .nil
  | _, d :: ds, h => by
    cases h with
    | cons h1 h2 => exact .cons h1 (dps_of h2)
theorem vrs_of : ∀ {vs : List V} {ds : List D}, DpAll K F vs ds → VRs K ρ F vs (ds.map .d)
  | _, [], h => by cases h; exact .nil
  | _, d :: ds, h => by
    cases h with
    | cons h1 h2 => exact .cons h1 (vrs_of h2)
theorem sm_tup (ha : SimA P wd K mg W tg ag) : SimE P wd K mg W (tTup tg) (aTup ag) := by
  intro σ σa ρ S F H hr hs rr S' h Q qo qe
  refine ha.bind hr hs h qe fun xs S1 ρ1 F1 H1 vs h g1 r1 v1 => ?_
  obtain ⟨z, hz, rfl⟩ := lf_inv h
  clear h
  have h := hz
  unfold mkTup at h
  split at h
  · rename_i hl
    obtain ⟨ds, e1, e2⟩ := Option.map_eq_some_iff.mp h
    cases e2
    rw [allD_inv e1] at v1 hl
    rw [List.length_map] at hl
    have hd := dps_of v1
    refine ⟨by rw [hd.length]; exact sz_of hl, fun p hp => ?_⟩
    obtain ⟨r2, g2⟩ := r1.newF (o := .tup vs) hp
    exact qo _ rfl _ _ _ (.ref p) (g1.trans g2) r2 (.tup (st_of upd_same) (hd.up g2.fx))
  · cases h
theorem sm_lstF (ha : SimA P wd K mg W tg ag) : SimE P wd K mg W (tLst tg) (aLstF ag) := by
  intro σ σa ρ S F H hr hs rr S' h Q qo qe
  refine ha.bind hr hs h qe fun xs S1 ρ1 F1 H1 vs h g1 r1 v1 => ?_
  obtain ⟨z, hz, rfl⟩ := lf_inv h
  clear h
  have h := hz
  unfold mkLstF at h
  split at h
  · rename_i hl
    obtain ⟨ds, e1, e2⟩ := Option.map_eq_some_iff.mp h
    cases e2
    rw [allD_inv e1] at v1 hl
    rw [List.length_map] at hl
    have hd := dps_of v1
    refine ⟨by rw [hd.length]; exact sz_of hl, fun p hp => ?_⟩
    obtain ⟨r2, g2⟩ := r1.newF (o := .lst vs) hp
    exact qo _ rfl _ _ _ (.ref p) (g1.trans g2) r2 (.lst (sq_of upd_same) (hd.up g2.fx))
  · cases h
theorem get_new {ρ : List Addr} {p : Addr} : (ρ ++ [p])[ρ.length]? = some p := by simp
theorem sm_lstC (ha : SimA P wd K mg W tg ag) : SimE P wd K mg W (tLst tg) (aLstC ag) := by
  intro σ σa ρ S F H hr hs rr S' h Q qo qe
  refine ha.bind hr hs h qe fun xs S1 ρ1 F1 H1 vs h g1 r1 v1 => ?_
  obtain ⟨z, hz, rfl⟩ := lf_inv h
  clear h
  have h := hz
  unfold mkLstC at h
  split at h
  · rename_i hl
    cases h
    refine ⟨by rw [v1.len]; exact sz_of hl, fun p hp => ?_⟩
    obtain ⟨r2, g2⟩ := r1.new (c := .lst xs) (o := .lst vs) hp ⟨vs, rfl, L2.Paired.mapP v1 fun _ _ q => q.up ⟨_, rfl⟩ (Ex.refl _)⟩
    exact qo _ rfl _ _ _ (.ref p) (g1.trans g2) r2 ⟨p, by rw [← r1.len]; exact get_new, rfl⟩
  · cases h
theorem asB_inv {x : Av} {rr : Rs Bool} {S1 : Sg} (h : asB x S = some (rr, S1)) : ∃ b, x = .d (.bool b) ∧ rr = .ok b ∧ S1 = S := by
  unfold asB at h
  obtain ⟨b, e1, e2⟩ := Option.map_eq_some_iff.mp h
  cases e2
  unfold bitOf at e1
  split at e1
  · cases e1; exact ⟨_, rfl, rfl, rfl⟩
  · cases e1
theorem asB_bnd {α : Type} {x : Av} {f : Bool → M α} {rr : Rs α} {S1 : Sg} (h : bnd (asB x) f S = some (rr, S1)) : ∃ b, x = .d (.bool b) ∧ f b S = some (rr, S1) := by
  rcases bnd_inv h with ⟨b, S2, e1, h⟩ | ⟨e, e1, rfl⟩
  · obtain ⟨b', rfl, e2, rfl⟩ := asB_inv e1
    cases e2
    exact ⟨b, rfl, h⟩
  · obtain ⟨b', rfl, e2, rfl⟩ := asB_inv e1
    cases e2
theorem st_B (ha : SimE P wd K mg W ta aa) : SimT P wd K mg W (tB ta) (aB aa) := by
  intro σ σa ρ S F H hr hs rr S' h Q qo qe
  refine ha.bind hr hs h qe fun x S1 ρ1 F1 H1 v h g1 r1 v1 => ?_
  obtain ⟨b, rfl, rfl, rfl⟩ := asB_inv h
  cases v1
  exact ⟨b, rfl, qo _ rfl _ _ _ g1 r1⟩
theorem st_test (ha : SimE P wd K mg W ta aa) : SimT P wd K mg W (tTest ta) (aB aa) := st_B ha
theorem st_and (ha : SimT P wd K mg W tt at') (hb : SimT P wd K mg W tu au) : SimT P wd K mg W (tAnd tt tu) (aAnd at' au) := by
  intro σ σa ρ S F H hr hs rr S' h Q qo qe
  refine ha.bind hr hs h qe fun x S1 ρ1 F1 H1 h g1 r1 => ?_
  cases x with
  | true => exact hb σ σa ρ1 S1 F1 H1 r1 (hs.gw g1) rr S' h Q (fun b hb ρ2 F2 H2 g2 r2 => qo b hb ρ2 F2 H2 (g1.trans g2) r2) (ExQ.gw qe g1)
  | false =>
    cases (show ret false S1 = some (rr, S') from h)
    exact qo _ rfl ρ1 F1 H1 g1 r1
theorem st_or (ha : SimT P wd K mg W tt at') (hb : SimT P wd K mg W tu au) : SimT P wd K mg W (tOr tt tu) (aOr at' au) := by
  intro σ σa ρ S F H hr hs rr S' h Q qo qe
  refine ha.bind hr hs h qe fun x S1 ρ1 F1 H1 h g1 r1 => ?_
  cases x with
  | false => exact hb σ σa ρ1 S1 F1 H1 r1 (hs.gw g1) rr S' h Q (fun b hb ρ2 F2 H2 g2 r2 => qo b hb ρ2 F2 H2 (g1.trans g2) r2) (ExQ.gw qe g1)
  | true =>
    cases (show ret true S1 = some (rr, S') from h)
    exact qo _ rfl ρ1 F1 H1 g1 r1
theorem st_not (ha : SimT P wd K mg W tt at') : SimT P wd K mg W (tNot tt) (aNot at') := by
  intro σ σa ρ S F H hr hs rr S' h Q qo qe
  refine ha.bind hr hs h qe fun x S1 ρ1 F1 H1 h g1 r1 => ?_
  cases h
  exact qo _ rfl ρ1 F1 H1 g1 r1
theorem sm_and (ha : SimE P wd K mg W ta aa) (hb : SimE P wd K mg W tb ab) : SimE P wd K mg W (tAndV ta tb) (aAndV aa ab) := by
  intro σ σa ρ S F H hr hs rr S' h Q qo qe
  refine ha.bind hr hs h qe fun x S1 ρ1 F1 H1 v h g1 r1 v1 => ?_
  obtain ⟨b, rfl, h⟩ := asB_bnd h
  cases v1
  refine ⟨b, rfl, ?_⟩
  cases b with
  | true => exact hb σ σa ρ1 S1 F1 H1 r1 (hs.gw g1) rr S' h Q (fun b hb ρ2 F2 H2 v g2 r2 v2 => qo b hb ρ2 F2 H2 v (g1.trans g2) r2 v2) (ExQ.gw qe g1)
  | false =>
    cases (show ret (.d (.bool false)) S1 = some (rr, S') from h)
    exact qo _ rfl ρ1 F1 H1 _ g1 r1 (.bl false)
theorem sm_or (ha : SimE P wd K mg W ta aa) (hb : SimE P wd K mg W tb ab) : SimE P wd K mg W (tOrV ta tb) (aOrV aa ab) := by
  intro σ σa ρ S F H hr hs rr S' h Q qo qe
  refine ha.bind hr hs h qe fun x S1 ρ1 F1 H1 v h g1 r1 v1 => ?_
  obtain ⟨b, rfl, h⟩ := asB_bnd h
  cases v1
  refine ⟨b, rfl, ?_⟩
  cases b with
  | false => exact hb σ σa ρ1 S1 F1 H1 r1 (hs.gw g1) rr S' h Q (fun b hb ρ2 F2 H2 v g2 r2 v2 => qo b hb ρ2 F2 H2 v (g1.trans g2) r2 v2) (ExQ.gw qe g1)
  | true =>
    cases (show ret (.d (.bool true)) S1 = some (rr, S') from h)
    exact qo _ rfl ρ1 F1 H1 _ g1 r1 (.bl true)
theorem sm_not (ha : SimE P wd K mg W ta aa) : SimE P wd K mg W (tNotV ta) (aNotV aa) := by
  intro σ σa ρ S F H hr hs rr S' h Q qo qe
  refine ha.bind hr hs h qe fun x S1 ρ1 F1 H1 v h g1 r1 v1 => ?_
  obtain ⟨b, rfl, h⟩ := asB_bnd h
  cases v1
  cases h
  exact ⟨b, rfl, qo _ rfl ρ1 F1 H1 _ g1 r1 (.bl _)⟩
theorem sm_if (ht : SimT P wd K mg W tt at') (ha : SimE P wd K mg W ta aa) (hb : SimE P wd K mg W tb ab) : SimE P wd K mg W (tIf tt ta tb) (aIf at' aa ab) := by
  intro σ σa ρ S F H hr hs rr S' h Q qo qe
  refine ht.bind hr hs h qe fun x S1 ρ1 F1 H1 h g1 r1 => ?_
  cases x with
  | true => exact ha σ σa ρ1 S1 F1 H1 r1 (hs.gw g1) rr S' h Q (fun b hb ρ2 F2 H2 v g2 r2 v2 => qo b hb ρ2 F2 H2 v (g1.trans g2) r2 v2) (ExQ.gw qe g1)
  | false => exact hb σ σa ρ1 S1 F1 H1 r1 (hs.gw g1) rr S' h Q (fun b hb ρ2 F2 H2 v g2 r2 v2 => qo b hb ρ2 F2 H2 v (g1.trans g2) r2 v2) (ExQ.gw qe g1)
theorem sm_chain (h1 : OpS P wd K mg r f) (h2 : OpS P wd K mg r' f') (ha : SimE P wd K mg W ta aa) (hb : SimE P wd K mg W tb ab) (hc : SimE P wd K mg W tc ac) : SimE P wd K mg W (tChain r r' ta tb tc) (aChain f f' aa ab ac) := by
  intro σ σa ρ S F H hr hs rr S' h Q qo qe
  refine ha.bind hr hs h qe fun x S1 ρ1 F1 H1 v h g1 r1 v1 => ?_
  refine hb.bind r1 (hs.gw g1) h (ExQ.gw qe g1) fun y S2 ρ2 F2 H2 w h g2 r2 v2 => ?_
  rcases bnd_inv h with ⟨z, S3, e3, h⟩ | ⟨e, e3, rfl⟩
  · obtain ⟨z', e3, e4⟩ := lf_inv e3
    cases e4
    refine h1 ρ2 S2 F2 H2 r2 v w x y (v1.gw g2) v2 z S3 e3 _ fun ρ3 F3 H3 u g3 r3 v3 => ?_
    obtain ⟨b, rfl, h⟩ := asB_bnd h
    cases v3
    refine ⟨b, rfl, ?_⟩
    have g13 := (g1.trans g2).trans g3
    cases b with
    | false =>
      cases (show ret (.d (.bool false)) S3 = some (rr, S') from h)
      exact qo _ rfl ρ3 F3 H3 _ g13 r3 (.bl false)
    | true =>
      refine hc.bind r3 (hs.gw g13) h (ExQ.gw qe g13) fun z S4 ρ4 F4 H4 w' h g4 r4 v4 => ?_
      obtain ⟨z', hz, rfl⟩ := lf_inv h
      clear h
      have h := hz
      exact h2 ρ4 S4 F4 H4 r4 w w' y z (v2.gw (g3.trans g4)) v4 z' S' h Q fun ρ5 F5 H5 u g5 r5 v5 => qo _ rfl ρ5 F5 H5 u ((g13.trans g4).trans g5) r5 v5
  · obtain ⟨z', e3, e4⟩ := lf_inv e3
    cases e4
end
end
end Ly
/-! LyO: mirrors of statements, targets, loops, comprehensions. -/
namespace Ly
open PySem L2 Evl PyProof.Rows
section
variable {P : Program} {wd : World} {K : Fg} {mg : Str → Option Value} {W : WX} {ρ : List Addr} {S S' : Sg} {F H : Hp} {σ : L2.St} {σa σa' : Sl}
variable {te ta tb tc : TE} {ae aa ab ac : AE} {tt tu : TT} {at' au : AT} {tg : TA} {ag : AA} {r r' : R2} {f f' : Av → Av → Op0} {x : D} {v : V} {ts tr : TS} {as ar : AS} {gt : TG} {gs : TGs} {gm : Av → AS} {gn : List Av → AS} {fl : Fl} {D' : Ends}
/-- an exception on the way of a statement -/
theorem ExQ.of {α : Type} (q : FlQ P wd K mg W D' ρ F H fl σa' S') (hs : SR K ρ F σ σa) {rr : Rs α} (h : ∀ e, rr = .ex e → fl = .ex e ∧ σa' = σa) : ExQ P wd K mg W ρ F H σ rr S' := fun e he ρ1 F1 H1 c d g1 r1 x1 => by
  obtain ⟨rfl, rfl⟩ := h e he
  exact q ρ1 F1 H1 σ c d g1 r1 (hs.gw g1) x1
theorem SimE.stb {f : Av → Sg → Option (Fl × Sl × Sg)} (ha : SimE P wd K mg W ta aa) (hr : Rel P wd K mg ρ S F H) (hs : SR K ρ F σ σa) (h : stb (aa σa) σa f S = some (fl, σa', S')) {Q : VK} (q : FlQ P wd K mg W D' ρ F H fl σa' S')
    (k : ∀ x S1 ρ1 F1 H1 v, f x S1 = some (fl, σa', S') → Gw ρ F H ρ1 F1 H1 → Rel P wd K mg ρ1 S1 F1 H1 → VR K ρ1 F1 v x → Q v H1) : ta σ H Q := by
  rcases stb_inv h with ⟨x, S1, e1, h⟩ | ⟨e, e1, rfl, rfl⟩
  · exact ha σ σa ρ S F H hr hs _ _ e1 Q (fun x' hx ρ1 F1 H1 v g1 r1 v1 => by cases hx; exact k x S1 ρ1 F1 H1 v h g1 r1 v1) (fun e he => nomatch he)
  · exact ha σ _ ρ S F H hr hs _ _ e1 Q (fun x' hx => nomatch hx) (fun e' he a b c d f' g1 h x => by cases he; exact q a b c σ d f' g1 h (hs.gw g1) x)
theorem SimT.stb {f : Bool → Sg → Option (Fl × Sl × Sg)} (ha : SimT P wd K mg W tt at') (hr : Rel P wd K mg ρ S F H) (hs : SR K ρ F σ σa) (h : stb (at' σa) σa f S = some (fl, σa', S')) {Q : Bool → Hp → Prop} (q : FlQ P wd K mg W D' ρ F H fl σa' S')
    (k : ∀ x S1 ρ1 F1 H1, f x S1 = some (fl, σa', S') → Gw ρ F H ρ1 F1 H1 → Rel P wd K mg ρ1 S1 F1 H1 → Q x H1) : tt σ H Q := by
  rcases stb_inv h with ⟨x, S1, e1, h⟩ | ⟨e, e1, rfl, rfl⟩
  · exact ha σ σa ρ S F H hr hs _ _ e1 Q (fun x' hx ρ1 F1 H1 g1 r1 => by cases hx; exact k x S1 ρ1 F1 H1 h g1 r1) (fun e he => nomatch he)
  · exact ha σ _ ρ S F H hr hs _ _ e1 Q (fun x' hx => nomatch hx) (fun e' he a b c d f' g1 h x => by cases he; exact q a b c σ d f' g1 h (hs.gw g1) x)
theorem SimI.stb {wi : TI} {ai : Sl → M Itm} {f : Itm → Sg → Option (Fl × Sl × Sg)} (ha : SimI P wd K mg W wi ai) (hr : Rel P wd K mg ρ S F H) (hs : SR K ρ F σ σa) (h : stb (ai σa) σa f S = some (fl, σa', S')) {Q : It → Hp → Prop} (q : FlQ P wd K mg W D' ρ F H fl σa' S')
    (k : ∀ it S1 ρ1 F1 H1 J, f it S1 = some (fl, σa', S') → Gw ρ F H ρ1 F1 H1 → Rel P wd K mg ρ1 S1 F1 H1 → WkA P wd K mg ρ1 F1 H1 J it → Q J H1) : wi σ H Q := by
  rcases stb_inv h with ⟨x, S1, e1, h⟩ | ⟨e, e1, rfl, rfl⟩
  · exact ha σ σa ρ S F H hr hs _ _ e1 Q (fun x' hx ρ1 F1 H1 J g1 r1 w1 => by cases hx; exact k x S1 ρ1 F1 H1 J h g1 r1 w1) (fun e he => nomatch he)
  · exact ha σ _ ρ S F H hr hs _ _ e1 Q (fun x' hx => nomatch hx) (fun e' he a b c d f' g1 h x => by cases he; exact q a b c σ d f' g1 h (hs.gw g1) x)
theorem ss_next : SimS P wd K mg W tNext aNext := by
  intro σ σa ρ S F H hr hs fl σa' S' h D' q
  cases h
  exact q ρ F H σ Gw.refl hr hs
theorem ss_break : SimS P wd K mg W tBreak aBreak := by
  intro σ σa ρ S F H hr hs fl σa' S' h D' q
  cases h
  exact q ρ F H σ Gw.refl hr hs
theorem ss_cont : SimS P wd K mg W tCont aCont := by
  intro σ σa ρ S F H hr hs fl σa' S' h D' q
  cases h
  exact q ρ F H σ Gw.refl hr hs
theorem ss_seq (h1 : SimS P wd K mg W ts as) (h2 : SimS P wd K mg W tr ar) : SimS P wd K mg W (tSeq ts tr) (aSeq as ar) := by
  intro σ σa ρ S F H hr hs fl σa' S' h D' q
  unfold aSeq at h
  split at h
  · rename_i σ1 S1 e1
    refine h1 σ σa ρ S F H hr hs _ _ _ e1 { D' with nx := tr D' } ?_
    intro ρ1 F1 H1 σ' g1 r1 s1
    exact h2 σ' σ1 ρ1 S1 F1 H1 r1 s1 _ _ _ h D' (q.gw g1)
  · rename_i hne
    refine h1 σ σa ρ S F H hr hs _ _ _ h { D' with nx := tr D' } ?_
    cases fl with
    | nx => exact absurd h (hne _ _)
    | bk => exact q
    | ct => exact q
    | rt x => exact q
    | ex e => exact q
theorem ss_drop (ha : SimE P wd K mg W ta aa) : SimS P wd K mg W (tDrop ta) (aDrop aa) := by
  intro σ σa ρ S F H hr hs fl σa' S' h D' q
  refine ha.stb hr hs h q fun x S1 ρ1 F1 H1 v h g1 r1 v1 => ?_
  cases h
  exact q ρ1 F1 H1 σ g1 r1 (hs.gw g1)
theorem ss_ret (ha : SimE P wd K mg W ta aa) : SimS P wd K mg W (tRet ta) (aRet aa) := by
  intro σ σa ρ S F H hr hs fl σa' S' h D' q
  refine ha.stb hr hs h q fun x S1 ρ1 F1 H1 v h g1 r1 v1 => ?_
  cases h
  exact q ρ1 F1 H1 v g1 r1 v1
theorem ss_retN : SimS P wd K mg W tRetN aRetN := by
  intro σ σa ρ S F H hr hs fl σa' S' h D' q
  cases h
  exact q ρ F H .non Gw.refl hr .non
theorem ss_if (ht : SimT P wd K mg W tt at') (h1 : SimS P wd K mg W ts as) (h2 : SimS P wd K mg W tr ar) : SimS P wd K mg W (tIfS tt ts tr) (aIfS at' as ar) := by
  intro σ σa ρ S F H hr hs fl σa' S' h D' q
  refine ht.stb hr hs h q fun b S1 ρ1 F1 H1 h g1 r1 => ?_
  cases b with
  | true => exact h1 σ σa ρ1 S1 F1 H1 r1 (hs.gw g1) _ _ _ h D' (q.gw g1)
  | false => exact h2 σ σa ρ1 S1 F1 H1 r1 (hs.gw g1) _ _ _ h D' (q.gw g1)
theorem sg_name {i : Nat} : SimG P wd K mg W (gName i) (agName i) := by
  intro v x σ σa ρ S F H hr hs hv fl σa' S' h D' q
  cases h
  exact q ρ F H _ Gw.refl hr (hs.set hv)
theorem ss_asg (ha : SimE P wd K mg W ta aa) (hg : SimG P wd K mg W gt gm) : SimS P wd K mg W (tAsg ta gt) (aAsg aa gm) := by
  intro σ σa ρ S F H hr hs fl σa' S' h D' q
  refine ha.stb hr hs h q fun x S1 ρ1 F1 H1 v h g1 r1 v1 => ?_
  exact hg v x σ σa ρ1 S1 F1 H1 r1 (hs.gw g1) v1 _ _ _ h D' (q.gw g1)
/-- an operation in place, of values -/
def IpS (P : Program) (wd : World) (K : Fg) (mg : Str → Option Value) (r : TIp) (f : Av → Av → Op0) : Prop := ∀ ρ S F H, Rel P wd K mg ρ S F H → ∀ v w x y, VR K ρ F v x → VR K ρ F w y → ∀ z S', f x y S = some (z, S') → ∀ Q : VK,
  (∀ ρ' F' H' u, Gw ρ F H ρ' F' H' → Rel P wd K mg ρ' S' F' H' → VR K ρ' F' u z → Q u H') → r v w H Q
theorem ss_aug {i : Nat} {ti : TIp} (hop : IpS P wd K mg ti f) (ha : SimE P wd K mg W ta aa) : SimS P wd K mg W (tAug i ta ti) (aAug i aa f) := by
  intro σ σa ρ S F H hr hs fl σa' S' h D' q
  unfold aAug at h
  split at h
  · rename_i x hx
    obtain ⟨v, e, hv⟩ := hs.2 _ _ hx
    refine ⟨v, e, ?_⟩
    rcases stb_inv h with ⟨z, S1, e1, h⟩ | ⟨e, e1, rfl, rfl⟩
    · cases h
      refine ha.bind hr hs e1 (fun e he => nomatch he) fun y S2 ρ2 F2 H2 w h g2 r2 v2 => ?_
      obtain ⟨z', hz, ez⟩ := lf_inv h
      cases ez
      exact hop ρ2 S2 F2 H2 r2 v w x y (hv.gw g2) v2 z _ hz _ fun ρ3 F3 H3 u g3 r3 v3 => q ρ3 F3 H3 _ (g2.trans g3) r3 ((hs.gw (g2.trans g3)).set v3)
    · refine ha.bind hr hs e1 (ExQ.of q hs fun e' he => by cases he; exact ⟨rfl, rfl⟩) fun y S2 ρ2 F2 H2 w h g2 r2 v2 => ?_
      obtain ⟨z', hz, ez⟩ := lf_inv h
      cases ez
  · cases h
/-! targets of several names -/
def SimGs (P : Program) (wd : World) (K : Fg) (mg : Str → Option Value) (W : WX) (tg : TGs) (ag : List Av → AS) : Prop := ∀ vs xs σ σa ρ S F H, Rel P wd K mg ρ S F H → SR K ρ F σ σa → VRs K ρ F vs xs → ∀ σa' S', ag xs σa S = some (.nx, σa', S') → ∀ Q : L2.St → Hp → Prop,
  (∀ ρ' F' H' σ', Gw ρ F H ρ' F' H' → Rel P wd K mg ρ' S' F' H' → SR K ρ' F' σ' σa' → Q σ' H') → tg vs σ H Q
theorem sgs_nil : SimGs P wd K mg W gNil agNil := by
  intro vs xs σ σa ρ S F H hr hs hv σa' S' h Q q
  cases hv with
  | nil => cases h; exact ⟨rfl, q ρ F H σ Gw.refl hr hs⟩
  | cons _ _ => cases h
theorem sgs_cons (hg : SimG P wd K mg W gt gm) (hn : SimGs P wd K mg W gs gn) : SimGs P wd K mg W (gCons gt gs) (agCons gm gn) := by
  intro vs xs σ σa ρ S F H hr hs hv σa' S' h Q q
  cases hv with
  | nil => cases h
  | @cons v x vs xs h1 h2 =>
    have h : (match gm x σa S with
      | some (.nx, σ1, S1) => gn xs σ1 S1
      | _ => none) = some (.nx, σa', S') := h
    split at h
    · rename_i σ1 S1 e1
      refine ⟨v, vs, rfl, hg v x σ σa ρ S F H hr hs h1 _ _ _ e1 ⟨fun σ' H' => gs vs σ' H' Q, fun _ _ => False, fun _ _ => False, fun _ _ => False⟩ ?_⟩
      intro ρ1 F1 H1 σ' g1 r1 s1
      exact hn vs xs σ' σ1 ρ1 S1 F1 H1 r1 s1 (VRs.gw h2 g1) _ _ h Q fun ρ2 F2 H2 σ2 g2 r2 s2 => q ρ2 F2 H2 σ2 (g1.trans g2) r2 s2
    · cases h
theorem agCons_nx {x : List Av} {fl : Fl} (h : agCons gm gn x σa S = some (fl, σa', S')) (hn : ∀ xs σ S fl σ' S', gn xs σ S = some (fl, σ', S') → fl = .nx) : fl = .nx := by
  unfold agCons at h
  split at h
  · split at h
    · exact hn _ _ _ _ _ _ h
    · cases h
  · cases h
theorem agNil_nx {x : List Av} {fl : Fl} (h : agNil x σa S = some (fl, σa', S')) : fl = .nx := by
  unfold agNil at h
  split at h
  · cases h; rfl
  · cases h
theorem sg_tup {n : Nat} (hn : SimGs P wd K mg W gs gn) (hx : ∀ xs σ S fl σ' S', gn xs σ S = some (fl, σ', S') → fl = .nx) : SimG P wd K mg W (gTup K n gs) (agTup n gn) := by
  intro v x σ σa ρ S F H hr hs hv fl σa' S' h D' q
  unfold agTup at h
  split at h
  · rename_i ds
    split at h
    · rename_i hl
      have hv : Dp K F v (.tuple ds) := hv
      cases hv with
      | @tup a vs _ h1 h2 =>
        cases hx _ _ _ _ _ _ h
        exact ⟨a, vs, rfl, ex_t hr.fh h1, by rw [h2.length]; exact hl, hn vs _ σ σa ρ S F H hr hs (vrs_of h2) _ _ h D'.nx q⟩
    · cases h
  · cases h
/-! ### loops -/
theorem fgo_sound {J : It} {it : Itm} {b : AS} {tb : TS} {D' : Ends} {ρ0 : List Addr} {F0 H0 : Hp} (hw : WkA P wd K mg ρ0 F0 H0 J it) (hg : SimG P wd K mg W gt gm) (hb : SimS P wd K mg W tb b) :
    ∀ i m σ H, (∃ ρ S F σa fl σa' S', Gw ρ0 F0 H0 ρ F H ∧ Rel P wd K mg ρ S F H ∧ SR K ρ F σ σa ∧ fgo it gm b m i σa S = some (fl, σa', S') ∧ FlQ P wd K mg W D' ρ F H fl σa' S') →
      (J.stop i H ∧ D'.nx σ H) ∨ (J.go i H ∧ ∃ N : L2.St → Hp → Prop, (∀ σ' H', N σ' H' → ∃ m', m' < m ∧ ∃ ρ S F σa fl σa' S', Gw ρ0 F0 H0 ρ F H' ∧ Rel P wd K mg ρ S F H' ∧ SR K ρ F σ' σa ∧ fgo it gm b m' (i + 1) σa S = some (fl, σa', S') ∧ FlQ P wd K mg W D' ρ F H' fl σa' S') ∧
        ∀ x H', J.yld i H x H' → gt x σ H' fun σ2 H2 => tb { D' with nx := N, ct := N, bk := D'.nx } σ2 H2) := by
  rintro i m σ H ⟨ρ, S, F, σa, fl, σa', S', g, r, s, h, q⟩
  cases m with
  | zero => cases h
  | succ m =>
    unfold fgo at h
    split at h
    · cases h
    · rename_i e
      cases h
      exact .inl ⟨hw ρ S F H g r i _ e, q ρ F H σ Gw.refl r s⟩
    · rename_i x e
      obtain ⟨h1, h2⟩ := hw ρ S F H g r i _ e
      refine .inr ⟨h1, fun σ' H' => ∃ ρ S F σa fl σa' S', Gw ρ0 F0 H0 ρ F H' ∧ Rel P wd K mg ρ S F H' ∧ SR K ρ F σ' σa ∧ fgo it gm b m (i + 1) σa S = some (fl, σa', S') ∧ FlQ P wd K mg W D' ρ F H' fl σa' S', fun σ' H' n => ⟨m, Nat.lt_succ_self m, n⟩, fun v H' y => ?_⟩
      obtain ⟨ρ1, F1, g1, r1, v1⟩ := h2 v H' y
      split at h
      · rename_i σ1 S1 e1
        refine hg v x σ σa ρ1 S F1 H' r1 (s.gw g1) v1 _ _ _ e1 ⟨_, fun _ _ => False, fun _ _ => False, fun _ _ => False⟩ ?_
        intro ρ2 F2 H2 σ2 g2 r2 s2
        have g02 := (g.trans g1).trans g2
        have q2 := (q.gw g1).gw g2
        split at h
        · rename_i σ3 S3 e3
          refine hb σ2 σ1 ρ2 S1 F2 H2 r2 s2 _ _ _ e3 _ ?_
          intro ρ3 F3 H3 σ3' g3 r3 s3
          exact ⟨ρ3, S3, F3, σ3, fl, σa', S', g02.trans g3, r3, s3, h, q2.gw g3⟩
        · rename_i σ3 S3 e3
          refine hb σ2 σ1 ρ2 S1 F2 H2 r2 s2 _ _ _ e3 _ ?_
          intro ρ3 F3 H3 σ3' g3 r3 s3
          exact ⟨ρ3, S3, F3, σ3, fl, σa', S', g02.trans g3, r3, s3, h, q2.gw g3⟩
        · rename_i σ3 S3 e3
          cases h
          exact hb σ2 σ1 ρ2 S1 F2 H2 r2 s2 _ _ _ e3 _ q2
        · rename_i n1 n2 n3
          refine hb σ2 σ1 ρ2 S1 F2 H2 r2 s2 _ _ _ h _ ?_
          cases fl with
          | nx => exact absurd h (n1 _ _)
          | ct => exact absurd h (n2 _ _)
          | bk => exact absurd h (n3 _ _)
          | rt x => exact q2
          | ex e => exact q2
      · cases h
theorem ss_for {wi : TI} {ai : Sl → M Itm} {b : AS} {tb : TS} (hi : SimI P wd K mg W wi ai) (hg : SimG P wd K mg W gt gm) (hb : SimS P wd K mg W tb b) : SimS P wd K mg W (tFor wi gt tb) (aFor ai gm b) := by
  intro σ σa ρ S F H hr hs fl σa' S' h D' q
  refine hi.stb hr hs h q fun it S1 ρ1 F1 H1 J h g1 r1 w1 => ?_
  exact ⟨fun i m σ H => ∃ ρ S F σa fl σa' S', Gw ρ1 F1 H1 ρ F H ∧ Rel P wd K mg ρ S F H ∧ SR K ρ F σ σa ∧ fgo it gm b m i σa S = some (fl, σa', S') ∧ FlQ P wd K mg W D' ρ F H fl σa' S', ⟨fu, ρ1, S1, F1, σa, fl, σa', S', Gw.refl, r1, hs.gw g1, h, q.gw g1⟩, fgo_sound w1 hg hb⟩
theorem ss_while {b : AS} {tb : TS} (ht : SimT P wd K mg W tt at') (hb : SimS P wd K mg W tb b) : SimS P wd K mg W (tWhile tt tb) (aWhile at' b) := by
  intro σ σa ρ S F H hr hs fl σa' S' h D' q
  refine ⟨fun m σ H => ∃ ρ S F σa fl σa' S', Rel P wd K mg ρ S F H ∧ SR K ρ F σ σa ∧ wgo at' b m σa S = some (fl, σa', S') ∧ FlQ P wd K mg W D' ρ F H fl σa' S', ⟨fu, ρ, S, F, σa, fl, σa', S', hr, hs, h, q⟩, ?_⟩
  rintro m σ H ⟨ρ, S, F, σa, fl, σa', S', r, s, h, q⟩
  cases m with
  | zero => cases h
  | succ m =>
    unfold wgo at h
    refine ht.stb r s h q fun c S1 ρ1 F1 H1 h g1 r1 => ?_
    have q1 := q.gw g1
    cases c with
    | false =>
      cases (show some (Fl.nx, σa, S1) = some (fl, σa', S') from h)
      exact q ρ1 F1 H1 σ g1 r1 (s.gw g1)
    | true =>
      refine ⟨fun σ' H' => ∃ ρ S F σa fl σa' S', Rel P wd K mg ρ S F H' ∧ SR K ρ F σ' σa ∧ wgo at' b m σa S = some (fl, σa', S') ∧ FlQ P wd K mg W D' ρ F H' fl σa' S', fun σ' H' n => ⟨m, Nat.lt_succ_self m, n⟩, ?_⟩
      have h : (match b σa S1 with
        | some (.nx, σ2, S2) => wgo at' b m σ2 S2
        | some (.ct, σ2, S2) => wgo at' b m σ2 S2
        | some (.bk, σ2, S2) => some (.nx, σ2, S2)
        | r => r) = some (fl, σa', S') := h
      split at h
      · rename_i σ3 S3 e3
        refine hb σ σa ρ1 S1 F1 H1 r1 (s.gw g1) _ _ _ e3 _ ?_
        intro ρ3 F3 H3 σ3' g3 r3 s3
        exact ⟨ρ3, S3, F3, σ3, fl, σa', S', r3, s3, h, q1.gw g3⟩
      · rename_i σ3 S3 e3
        refine hb σ σa ρ1 S1 F1 H1 r1 (s.gw g1) _ _ _ e3 _ ?_
        intro ρ3 F3 H3 σ3' g3 r3 s3
        exact ⟨ρ3, S3, F3, σ3, fl, σa', S', r3, s3, h, q1.gw g3⟩
      · rename_i σ3 S3 e3
        cases h
        exact hb σ σa ρ1 S1 F1 H1 r1 (s.gw g1) _ _ _ e3 _ q1
      · rename_i n1 n2 n3
        refine hb σ σa ρ1 S1 F1 H1 r1 (s.gw g1) _ _ _ h _ ?_
        cases fl with
        | nx => exact absurd h (n1 _ _)
        | ct => exact absurd h (n2 _ _)
        | bk => exact absurd h (n3 _ _)
        | rt x => exact q1
        | ex e => exact q1
/-! ### comprehensions -/
theorem wipe_SR (h : SR K ρ F σ σa) : ∀ vs : List Nat, SR K ρ F (wipe σ vs) (wipeA σa vs)
  | [] => h
  | v :: vs => by
    have ih := wipe_SR h vs
    refine ⟨by unfold wipe wipeA; rw [List.length_set, List.length_set]; exact ih.1, fun i x q => ?_⟩
    unfold wipe
    unfold wipeA at q
    by_cases e : v = i
    · subst e
      by_cases hl : v < (wipeA σa vs).length
      · rw [List.getElem?_set_self hl] at q; cases q
      · rw [List.getElem?_eq_none (by rw [List.length_set]; omega)] at q; cases q
    · rw [List.getElem?_set_ne e] at q ⊢
      exact ih.2 i x q
/-- the heap changes at a tracked place that is no cell and no datum -/
theorem Rel.beside {p : Addr} {o : HO} (r : Rel P wd K mg ρ S F H) (hp : p ∉ ρ) (fp : F p = none) : Rel P wd K mg ρ S F (upd H p o) := by
  refine ⟨r.len, r.inj, fun b u h => ?_, fun a ha => ?_, fun i a c h1 h2 hg => ?_⟩
  · rw [upd_ne (ne_of_none h fp)]; exact r.fh b u h
  · rw [upd_ne (fun z : a = p => hp (by rw [← z]; exact ha))]; exact r.al a ha
  · obtain ⟨f, o', ho, hco⟩ := r.cell i a c h1 h2 hg
    have ne : a ≠ p := fun z => hp (by rw [← z]; exact List.mem_of_getElem? h1)
    exact ⟨f, o', by rw [upd_ne ne]; exact ho, hco⟩
/-- a tracked thing becomes a cell -/
theorem Rel.take {p : Addr} {o : HO} {c : Cl} (r : Rel P wd K mg ρ S F H) (hp : p ∉ ρ) (fp : F p = none) (ho : H p = some o) (hc : CR P wd K mg (ρ ++ [p]) F p c o) : Rel P wd K mg (ρ ++ [p]) (S ++ [c]) F H := by
  have split : ∀ {i a}, (ρ ++ [p])[i]? = some a → (i < ρ.length ∧ ρ[i]? = some a) ∨ (i = ρ.length ∧ a = p) := fun {i a} h => by
    by_cases hl : i < ρ.length
    · rw [List.getElem?_append_left hl] at h; exact .inl ⟨hl, h⟩
    · rw [List.getElem?_append_right (by omega)] at h
      have : i - ρ.length = 0 := by
        have := (List.getElem?_eq_some_iff.mp h).1
        simp at this; omega
      rw [this] at h
      exact .inr ⟨by omega, (Option.some.inj h).symm⟩
  refine ⟨by simp [r.len], fun i j a h1 h2 => ?_, r.fh, fun a ha => ?_, fun i a c' h1 h2 hg => ?_⟩
  · rcases split h1 with ⟨l1, e1⟩ | ⟨rfl, rfl⟩ <;> rcases split h2 with ⟨l2, e2⟩ | ⟨l2, e2⟩
    · exact r.inj i j a e1 e2
    · subst e2; exact absurd (List.mem_of_getElem? e1) hp
    · exact absurd (List.mem_of_getElem? e2) hp
    · exact l2.symm
  · rcases List.mem_append.mp ha with h | h
    · exact r.al a h
    · rw [List.mem_singleton.mp h, ho]; exact fun z => nomatch z
  · rcases split h1 with ⟨l1, e1⟩ | ⟨rfl, rfl⟩
    · rw [List.getElem?_append_left (by rw [← r.len]; exact l1)] at h2
      obtain ⟨f, o', ho', hco⟩ := r.cell i a c' e1 h2 hg
      exact ⟨f, o', ho', hco.up ⟨_, rfl⟩ (Ex.refl F)⟩
    · rw [r.len, List.getElem?_append_right (Nat.le_refl _)] at h2
      simp at h2
      subst h2
      exact ⟨fp, o, ho, hc⟩
/-- a tracked thing is handed out -/
theorem Rel.takeF {p : Addr} {o : HO} (r : Rel P wd K mg ρ S F H) (hp : p ∉ ρ) (fp : F p = none) (ho : H p = some o) : Rel P wd K mg ρ S (upd F p o) H := by
  refine ⟨r.len, r.inj, fun b u h => ?_, r.al, fun i a c' h1 h2 hg => ?_⟩
  · by_cases e : b = p
    · subst e; rw [upd_same] at h; cases h; exact ho
    · rw [upd_ne e] at h; exact r.fh b u h
  · obtain ⟨f, o', ho', hco⟩ := r.cell i a c' h1 h2 hg
    have ne : a ≠ p := fun z => hp (by rw [← z]; exact List.mem_of_getElem? h1)
    exact ⟨by rw [upd_ne ne]; exact f, o', ho', hco.up ⟨[], (List.append_nil _).symm⟩ (Ex.new fp)⟩
/-- how a new list that stands aside becomes a value -/
def MkS (P : Program) (wd : World) (K : Fg) (mg : Str → Option Value) (mk : List Av → Op0) : Prop := ∀ ρ0 F0 H0 ρ S F H p xs vs z S', Gw ρ0 F0 H0 ρ F H → H0 p = none → Rel P wd K mg ρ S F H → p ∉ ρ → F p = none → H p = some (.lst vs) → VRs K ρ F vs xs → mk xs S = some (z, S') →
  ∃ ρ' F', Gw ρ0 F0 H0 ρ' F' H ∧ Rel P wd K mg ρ' S' F' H ∧ VR K ρ' F' (.ref p) z
theorem mk_F : MkS P wd K mg lcF := by
  intro ρ0 F0 H0 ρ S F H p xs vs z S' g hp0 r hp fp ho hv h
  obtain ⟨ds, e1, e2⟩ := Option.map_eq_some_iff.mp h
  cases e2
  rw [allD_inv e1] at hv
  have hd := dps_of hv
  have fx : Ex F (upd F p (.lst vs)) := Ex.new fp
  refine ⟨ρ, upd F p (.lst vs), ⟨g.pre, g.fx.trans fx, fun q hq hn => ?_, g.fz⟩, r.takeF hp fp ho, .lst (sq_of upd_same) (hd.up fx)⟩
  obtain ⟨h1, h2, h3⟩ := g.out q hq hn
  exact ⟨h1, h2, by rw [upd_ne (fun z : q = p => hq (by rw [z]; exact hp0))]; exact h3⟩
theorem mk_C : MkS P wd K mg lcC := by
  intro ρ0 F0 H0 ρ S F H p xs vs z S' g hp0 r hp fp ho hv h
  cases h
  obtain ⟨t, et⟩ := g.pre
  refine ⟨ρ ++ [p], F, ⟨⟨t ++ [p], by rw [et, List.append_assoc]⟩, g.fx, fun q hq hn => ?_, g.fz⟩, r.take hp fp ho ⟨vs, rfl, L2.Paired.mapP hv fun _ _ q => q.up ⟨_, rfl⟩ (Ex.refl _)⟩, ⟨p, by rw [← r.len]; exact get_new, rfl⟩⟩
  obtain ⟨h1, h2, h3⟩ := g.out q hq hn
  refine ⟨h1, fun hm => ?_, h3⟩
  rcases List.mem_append.mp hm with h | h
  · exact h2 h
  · exact hq (by rw [List.mem_singleton.mp h]; exact hp0)
/-- what a target does to the slots that a block may see -/
theorem sm_lc {wi : TI} {ai : Sl → M Itm} {mk : List Av → Op0} {vs : List Nat} (hmk : MkS P wd K mg mk) (hi : SimI P wd K mg W wi ai) (hg : SimG P wd K mg (fun _ _ _ _ => False) gt gm) (hw : ∀ (x : V) (σ : L2.St) (H : Hp) (Q : L2.St → Hp → Prop), gt x (wipe σ vs) H Q → gt x (wipe σ vs) H fun σ2 H2 => wipe σ2 vs = wipe σ vs ∧ Q σ2 H2)
    (ht : SimT P wd K mg (fun _ _ _ _ => False) tt at') (he : SimE P wd K mg (fun _ _ _ _ => False) te ae) : SimE P wd K mg W (tLc wi gt tt te vs) (aLc mk ai gm at' ae vs) := by
  intro σ σa ρ S F H hr hs rr S' h Q qo qe
  refine hi.bind hr hs h qe fun it S1 ρ1 F1 H1 J h g1 r1 w1 => fun p hp => ?_
  rcases bnd_inv h with ⟨ys, S2, e2, h⟩ | ⟨e, e2, rfl⟩
  · obtain ⟨ys', e2, e3⟩ := lf_inv e2
    cases e3
    obtain ⟨z, hz, rfl⟩ := lf_inv h
    have f1 : F1 p = none := fresh_back r1.fh hp
    have p1 : p ∉ ρ1 := fun z => r1.al p z hp
    have up : ∀ {ρ' F' H'} (o : HO), Gw ρ1 F1 H1 ρ' F' H' → Gw ρ1 F1 H1 ρ' F' (upd H' p o) := fun {ρ' F' H'} o g => ⟨g.pre, g.fx, fun q hq hn => by
      obtain ⟨a, b, c⟩ := g.out q hq hn
      exact ⟨by rw [upd_ne (fun z : q = p => hq (by rw [z]; exact hp))]; exact a, b, c⟩, fun q o u h => by rw [upd_ne (fun z : q = p => by rw [z, hp] at h; cases h)]; exact g.fz q o u h⟩
    refine ⟨fun i m H' => ∃ ρ2 Sx F2 acc us, Gw ρ1 F1 H1 ρ2 F2 H' ∧ Rel P wd K mg ρ2 Sx F2 H' ∧ p ∉ ρ2 ∧ F2 p = none ∧ H' p = some (.lst us) ∧ VRs K ρ2 F2 us acc ∧ lgo it gm at' ae (wipeA σa vs) m i acc Sx = some (ys, S2),
      ⟨fu, ρ1, S1, F1, [], [], up _ Gw.refl, r1.beside p1 f1, p1, f1, upd_same, .nil, e2⟩, ?_⟩
    rintro i m H' ⟨ρ2, Sx, F2, acc, us, g2, r2, p2, f2, hp2, ha, hl⟩
    have s2 : SR K ρ2 F2 (wipe σ vs) (wipeA σa vs) := (wipe_SR (hs.gw g1) vs).gw g2
    cases m with
    | zero => cases hl
    | succ m =>
      unfold lgo at hl
      split at hl
      · cases hl
      · rename_i e
        cases hl
        refine .inl ⟨w1 ρ2 S2 F2 H' g2 r2 i _ e, ?_⟩
        obtain ⟨ρ3, F3, g3, r3, v3⟩ := hmk ρ1 F1 H1 ρ2 S2 F2 H' p ys us z S' g2 hp r2 p2 f2 hp2 ha hz
        exact qo _ rfl ρ3 F3 H' (.ref p) (g1.trans g3) r3 v3
      · rename_i x e
        obtain ⟨h1, h2⟩ := w1 ρ2 Sx F2 H' g2 r2 i _ e
        refine .inr ⟨h1, fun H' => ∃ ρ2 Sx F2 acc us, Gw ρ1 F1 H1 ρ2 F2 H' ∧ Rel P wd K mg ρ2 Sx F2 H' ∧ p ∉ ρ2 ∧ F2 p = none ∧ H' p = some (.lst us) ∧ VRs K ρ2 F2 us acc ∧ lgo it gm at' ae (wipeA σa vs) m (i + 1) acc Sx = some (ys, S2), fun H' n => ⟨m, Nat.lt_succ_self m, n⟩, fun v H3 y => ?_⟩
        obtain ⟨ρ3, F3, g3, r3, v3⟩ := h2 v H3 y
        have np : H' p ≠ none := by rw [hp2]; exact fun z => nomatch z
        obtain ⟨o3, p3, f3⟩ := g3.out p np p2
        refine hw v σ H3 _ ?_
        split at hl
        · rename_i σ1 S3 e4
          refine hg v x (wipe σ vs) (wipeA σa vs) ρ3 Sx F3 H3 r3 (s2.gw g3) v3 _ _ _ e4 ⟨_, fun _ _ => False, fun _ _ => False, fun _ _ => False⟩ ?_
          intro ρ4 F4 H4 σ4 g4 r4 s4
          obtain ⟨o4, p4, f4⟩ := g4.out p (by rw [o3]; exact np) p3
          split at hl
          · rename_i S5 e5
            refine ht σ4 σ1 ρ4 S3 F4 H4 r4 s4 _ _ e5 _ (fun b hb ρ5 F5 H5 g5 r5 => ?_) fun e he => nomatch he
            cases hb
            obtain ⟨o5, p5, f5⟩ := g5.out p (by rw [o4, o3]; exact np) p4
            split at hl
            · rename_i yv S6 e6
              split at hl
              · rename_i hlen
                refine he σ4 σ1 ρ5 S5 F5 H5 r5 (s4.gw g5) _ _ e6 _ (fun y' hy ρ6 F6 H6 w g6 r6 v6 => ?_) fun e he => nomatch he
                cases hy
                obtain ⟨o6, p6, f6⟩ := g6.out p (by rw [o5, o4, o3]; exact np) p5
                have g36 := ((g3.trans g4).trans g5).trans g6
                refine ⟨us, by rw [o6, o5, o4, o3]; exact hp2, sz_lt (by rw [ha.len]; exact hlen), ρ6, S6, F6, acc ++ [yv], us ++ [w], up _ (g2.trans g36), r6.beside p6 (by rw [f6, f5, f4, f3]; exact f2), p6, by rw [f6, f5, f4, f3]; exact f2, upd_same, ?_, hl⟩
                have app : ∀ {us : List V} {acc : List Av}, VRs K ρ6 F6 us acc → VRs K ρ6 F6 (us ++ [w]) (acc ++ [yv]) := fun {us acc} h => by
                  induction h with
                  | nil => exact .cons v6 .nil
                  | cons a _ ih => exact .cons a ih
                exact app (ha.gw g36)
              · cases hl
            · cases hl
          · rename_i S5 e5
            refine ht σ4 σ1 ρ4 S3 F4 H4 r4 s4 _ _ e5 _ (fun b hb ρ5 F5 H5 g5 r5 => ?_) fun e he => nomatch he
            cases hb
            obtain ⟨o5, p5, f5⟩ := g5.out p (by rw [o4, o3]; exact np) p4
            have g35 := (g3.trans g4).trans g5
            exact ⟨ρ5, S5, F5, acc, us, g2.trans g35, r5, p5, by rw [f5, f4, f3]; exact f2, by rw [o5, o4, o3]; exact hp2, ha.gw g35, hl⟩
          · cases hl
        · cases hl
  · obtain ⟨ys', e2, e3⟩ := lf_inv e2
    cases e3
theorem st_yes : SimT P wd K mg W tYes aYes := by
  intro σ σa ρ S F H hr hs rr S' h Q qo qe
  cases h
  exact qo _ rfl ρ F H Gw.refl hr
/-! what the names of a target leave -/
theorem gw_name {vs : List Nat} {j : Nat} (hw : ∀ (σ : L2.St) (x : V), wipe ((wipe σ vs).set j (some x)) vs = wipe σ vs) : ∀ x σ H Q, gName j x (wipe σ vs) H Q → gName j x (wipe σ vs) H fun σ2 H2 => wipe σ2 vs = wipe σ vs ∧ Q σ2 H2 := fun x σ H Q h => ⟨hw σ x, h⟩
end
end Ly
/-! LyP: operations as functions: data, lists that are cells. -/
namespace Ly
open PySem L2 Evl PyProof.Rows
/-! ### functions of data -/
def isTrue' (p : Prop) [Decidable p] : Bool := decide p
def fAdd : D → D → Option D
  | .int i, .int j => some (.int (i + j))
  | .str x, .str y => if x.length + y.length ≤ 100000 then some (.str (x ++ y)) else none
  | .tuple xs, .tuple ys => if xs.length + ys.length ≤ 100000 then some (.tuple (xs ++ ys)) else none
  | .list xs, .list ys => if xs.length + ys.length ≤ 100000 then some (.list (xs ++ ys)) else none
  | _, _ => none
theorem fAdd_ok : ∀ a b r, fAdd a b = some r → AddD a b r := by
  intro a b r h
  unfold fAdd at h
  split at h
  · cases h; exact .int _ _
  · split at h
    · rename_i q; cases h; exact .str _ _ q
    · cases h
  · split at h
    · rename_i q; cases h; exact .tup _ _ q
    · cases h
  · split at h
    · rename_i q; cases h; exact .list _ _ q
    · cases h
  · cases h
def fSub : D → D → Option D
  | .int i, .int j => some (.int (i - j))
  | _, _ => none
theorem fSub_ok : ∀ a b r, fSub a b = some r → SubD a b r := by
  intro a b r h
  unfold fSub at h
  split at h
  · cases h; exact .int _ _
  · cases h
open Classical in
noncomputable def fMul : D → D → Option D
  | .int i, .int j => if CMul i j ∨ CMulX i j then some (.int (i * j)) else none
  | _, _ => none
theorem fMul_ok : ∀ a b r, fMul a b = some r → MulD a b r := by
  intro a b r h
  unfold fMul at h
  split at h
  · split at h
    · rename_i q
      cases h
      rcases q with q | q
      · exact .int _ _ q
      · exact .intW _ _ q
    · cases h
  · cases h
open Classical in
noncomputable def fDiv : D → D → Option D
  | .int i, .int j => if (0 < j ∧ j < 1073741824) ∨ CDivW i j then some (.int (i / j)) else none
  | _, _ => none
theorem fDiv_ok : ∀ a b r, fDiv a b = some r → DivD a b r := by
  intro a b r h
  unfold fDiv at h
  split at h
  · split at h
    · rename_i q
      cases h
      rcases q with q | q
      · exact .int _ _ q
      · exact .intW _ _ q
    · cases h
  · cases h
def fMod : D → D → Option D
  | .int i, .int j => if 0 < j then some (.int (i % j)) else none
  | _, _ => none
theorem fMod_ok : ∀ a b r, fMod a b = some r → ModD a b r := by
  intro a b r h
  unfold fMod at h
  split at h
  · split at h
    · rename_i q; cases h; exact .int _ _ q
    · cases h
  · cases h
def fPow : D → D → Option D
  | .int i, .int j => if 0 ≤ j ∧ j ≤ 1000000 ∧ i.natAbs < 2 ^ 64 then some (.int (i ^ j.toNat)) else none
  | _, _ => none
theorem fPow_ok : ∀ a b r, fPow a b = some r → PowD a b r := by
  intro a b r h
  unfold fPow at h
  split at h
  · split at h
    · rename_i q; cases h; exact .int _ _ q
    · cases h
  · cases h
def fShr : D → D → Option D
  | .int i, .int j => if 0 ≤ j then some (.int (i / 2 ^ j.toNat)) else none
  | _, _ => none
theorem fShr_ok : ∀ a b r, fShr a b = some r → ShrD a b r := by
  intro a b r h
  unfold fShr at h
  split at h
  · split at h
    · rename_i q; cases h; exact .int _ _ q
    · cases h
  · cases h
def fBand : D → D → Option D
  | .int i, .int j => if j = 2147483647 then some (.int (i % 2147483648)) else none
  | _, _ => none
theorem fBand_ok : ∀ a b r, fBand a b = some r → BandD a b r := by
  intro a b r h
  unfold fBand at h
  split at h
  · split at h
    · rename_i q; cases h; subst q; exact .m31 _
    · cases h
  · cases h
def fLt : D → D → Option D
  | .int i, .int j => some (.bool (decide (i < j)))
  | _, _ => none
theorem fLt_ok : ∀ a b r, fLt a b = some r → LtD a b r := by
  intro a b r h
  unfold fLt at h
  split at h
  · cases h; exact .int _ _
  · cases h
def fGt : D → D → Option D
  | .int i, .int j => some (.bool (decide (j < i)))
  | _, _ => none
theorem fGt_ok : ∀ a b r, fGt a b = some r → GtD a b r := by
  intro a b r h
  unfold fGt at h
  split at h
  · cases h; exact .int _ _
  · cases h
def fLe : D → D → Option D
  | .int i, .int j => some (.bool (decide (i ≤ j)))
  | _, _ => none
theorem fLe_ok : ∀ a b r, fLe a b = some r → LeD a b r := by
  intro a b r h
  unfold fLe at h
  split at h
  · cases h; exact .int _ _
  · cases h
def fGe : D → D → Option D
  | .int i, .int j => some (.bool (decide (j ≤ i)))
  | _, _ => none
theorem fGe_ok : ∀ a b r, fGe a b = some r → GeD a b r := by
  intro a b r h
  unfold fGe at h
  split at h
  · cases h; exact .int _ _
  · cases h
def fNeg : D → Option D
  | .int i => some (.int (-i))
  | _ => none
theorem fNeg_ok : ∀ a r, fNeg a = some r → NegD a r := by
  intro a r h
  unfold fNeg at h
  split at h
  · cases h; exact .int _
  · cases h
def fEq : D → D → Option Bool
  | .int i, .int j => some (decide (i = j))
  | .str i, .str j => some (decide (i = j))
  | .bool i, .bool j => some (decide (i = j))
  | d, e => if SeqAt.shaped d = true ∧ SeqAt.shaped e = true then some (PyData.eqv d e) else none
theorem fEq_ok : ∀ a b r, fEq a b = some r → EqD a b (.bool r) := by
  intro a b r h
  unfold fEq at h
  split at h
  · cases h; exact .int _ _
  · cases h; exact .str _ _
  · cases h; exact .bool _ _
  · split at h
    · rename_i q; cases h; exact .gen _ _ q.1 q.2
    · cases h
theorem fNe_ok : ∀ a b r, fEq a b = some r → NeD a b (.bool (!r)) := by
  intro a b r h
  unfold fEq at h
  split at h
  · cases h; exact .int _ _
  · cases h; exact .str _ _
  · cases h; exact .bool _ _
  · split at h
    · rename_i q; cases h; exact .gen _ _ q.1 q.2
    · cases h
def fIn : D → D → Option Bool
  | .str x, .str z => match x.cps.toList with
    | [c] => some (decide (c ∈ z.cps.toList))
    | _ => none
  | d, .list ds => if SeqAt.shaped d = true ∧ SeqAt.shaped (.list ds) = true then some (ds.any fun z => PyData.eqv z d) else none
  | _, _ => none
theorem one_sign {x : Str} {c : Nat} (h : x.cps.toList = [c]) : x = ⟨#[c]⟩ := by
  obtain ⟨a⟩ := x
  have : a = #[c] := by
    have h : a.toList = [c] := h
    rw [← Array.toArray_toList (xs := a), h]
  rw [this]
theorem fIn_ok : ∀ a b r, fIn a b = some r → InD a b (.bool r) := by
  intro a b r h
  unfold fIn at h
  split at h
  · rename_i x z
    split at h
    · rename_i c q; cases h; rw [one_sign q]; exact .sign _ _
    · cases h
  · split at h
    · rename_i q; cases h; exact .list _ _ q.1 q.2
    · cases h
  · cases h
theorem fNin_ok : ∀ a b r, fIn a b = some r → NinD a b (.bool (!r)) := by
  intro a b r h
  unfold fIn at h
  split at h
  · rename_i x z
    split at h
    · rename_i c q; cases h; rw [one_sign q]; exact .sign _ _
    · cases h
  · split at h
    · rename_i q; cases h; exact .list _ _ q.1 q.2
    · cases h
  · cases h
def fIs : D → D → Option D
  | d, .none => some (.bool (isNon d))
  | d, .bool y => some (.bool (isBit d y))
  | _, _ => none
theorem fIs_ok : ∀ a b r, fIs a b = some r → IsD a b r := by
  intro a b r h
  unfold fIs at h
  split at h
  · cases h; exact .non _
  · cases h; exact .bit _ _
  · cases h
def fNis : D → D → Option D
  | d, .none => some (.bool (!isNon d))
  | d, .bool y => some (.bool (!isBit d y))
  | _, _ => none
theorem fNis_ok : ∀ a b r, fNis a b = some r → NisD a b r := by
  intro a b r h
  unfold fNis at h
  split at h
  · cases h; exact .non _
  · cases h; exact .bit _ _
  · cases h
def fIx : D → D → Option D
  | .list ds, .int i => atI ds i
  | .tuple ds, .int i => atI ds i
  | .str z, .int i => if z.length ≤ 100000 then (atI z.cps.toList i).map fun c => .str ⟨#[c]⟩ else none
  | _, _ => none
theorem fIx_ok : ∀ a b r, fIx a b = some r → IxD a b r := by
  intro a b r h
  unfold fIx at h
  split at h
  · exact .list _ _ _ h
  · exact .tup _ _ _ h
  · split at h
    · rename_i q
      obtain ⟨c, e1, rfl⟩ := Option.map_eq_some_iff.mp h
      exact .str _ _ _ q e1
    · cases h
  · cases h
def fSl : D → Option Int → Option Int → Option D
  | .list ds, lo, hi => some (.list (cutD ds lo hi))
  | .tuple ds, lo, hi => some (.tuple (cutD ds lo hi))
  | .str z, lo, hi => if z.length ≤ 100000 then some (.str (cutS z lo hi)) else none
  | _, _, _ => none
theorem fSl_ok : ∀ a lo hi r, fSl a lo hi = some r → SlD a lo hi r := by
  intro a lo hi r h
  unfold fSl at h
  split at h
  · cases h; exact .list _ _ _
  · cases h; exact .tup _ _ _
  · split at h
    · rename_i q; cases h; exact .str _ _ _ q
    · cases h
  · cases h
/-! calls -/
def intsOf : List D → Option (List Int)
  | [] => some []
  | .int i :: ds => (intsOf ds).map (i :: ·)
  | _ :: _ => none
def strsOf : List D → Option (List Str)
  | [] => some []
  | .str i :: ds => (strsOf ds).map (i :: ·)
  | _ :: _ => none
def boolsOf : List D → Option (List Bool)
  | [] => some []
  | .bool i :: ds => (boolsOf ds).map (i :: ·)
  | _ :: _ => none
theorem intsOf_inv : ∀ {ds : List D} {ns : List Int}, intsOf ds = some ns → ds = ns.map PyData.int
  | [], ns, h => by cases h; rfl
  | d :: ds, ns, h => by
    cases d with
    | int i =>
      obtain ⟨ms, e1, rfl⟩ := Option.map_eq_some_iff.mp (show (intsOf ds).map (i :: ·) = some ns from h)
      rw [intsOf_inv e1]; rfl
    | _ => cases h
theorem strsOf_inv : ∀ {ds : List D} {ns : List Str}, strsOf ds = some ns → ds = ns.map PyData.str
  | [], ns, h => by cases h; rfl
  | d :: ds, ns, h => by
    cases d with
    | str i =>
      obtain ⟨ms, e1, rfl⟩ := Option.map_eq_some_iff.mp (show (strsOf ds).map (i :: ·) = some ns from h)
      rw [strsOf_inv e1]; rfl
    | _ => cases h
theorem boolsOf_inv : ∀ {ds : List D} {ns : List Bool}, boolsOf ds = some ns → ds = ns.map PyData.bool
  | [], ns, h => by cases h; rfl
  | d :: ds, ns, h => by
    cases d with
    | bool i =>
      obtain ⟨ms, e1, rfl⟩ := Option.map_eq_some_iff.mp (show (boolsOf ds).map (i :: ·) = some ns from h)
      rw [boolsOf_inv e1]; rfl
    | _ => cases h
theorem intsOf_map : ∀ ns : List Int, intsOf (ns.map PyData.int) = some ns
  | [] => rfl
  | n :: ns => by show (intsOf (ns.map PyData.int)).map (n :: ·) = _; rw [intsOf_map ns]; rfl
theorem strsOf_map : ∀ ns : List Str, strsOf (ns.map PyData.str) = some ns
  | [] => rfl
  | n :: ns => by show (strsOf (ns.map PyData.str)).map (n :: ·) = _; rw [strsOf_map ns]; rfl
theorem boolsOf_map : ∀ ns : List Bool, boolsOf (ns.map PyData.bool) = some ns
  | [] => rfl
  | n :: ns => by show (boolsOf (ns.map PyData.bool)).map (n :: ·) = _; rw [boolsOf_map ns]; rfl
def fLen : List D → Option D
  | [.list ds] => some (.int (ds.length : Nat))
  | [.tuple ds] => some (.int (ds.length : Nat))
  | [.str z] => if z.length ≤ 100000 then some (.int (z.length : Nat)) else none
  | _ => none
theorem fLen_ok : ∀ ds r, fLen ds = some r → LenD ds r := by
  intro ds r h
  unfold fLen at h
  split at h
  · cases h; exact .list _
  · cases h; exact .tup _
  · split at h
    · rename_i q; cases h; exact .str _ q
    · cases h
  · cases h
def fMax : List D → Option D
  | [.int i, .int j] => some (.int (max i j))
  | _ => none
theorem fMax_ok : ∀ ds r, fMax ds = some r → MaxD ds r := by
  intro ds r h
  unfold fMax at h
  split at h
  · cases h; exact .int _ _
  · cases h
def fMin : List D → Option D
  | [.int i, .int j] => some (.int (min i j))
  | _ => none
theorem fMin_ok : ∀ ds r, fMin ds = some r → MinD ds r := by
  intro ds r h
  unfold fMin at h
  split at h
  · cases h; exact .int _ _
  · cases h
def fIntB : List D → Option D
  | [.bool b] => some (.int (if b then 1 else 0))
  | _ => none
theorem fIntB_ok : ∀ ds r, fIntB ds = some r → IntD ds r := by
  intro ds r h
  unfold fIntB at h
  split at h
  · cases h; exact .bool _
  · cases h
def fAll : List D → Option D
  | [.list ds] => (boolsOf ds).map fun bs => .bool (bs.all id)
  | _ => none
theorem fAll_ok : ∀ ds r, fAll ds = some r → AllD ds r := by
  intro ds r h
  unfold fAll at h
  split at h
  · obtain ⟨bs, e1, rfl⟩ := Option.map_eq_some_iff.mp h
    rw [boolsOf_inv e1]; exact .list bs
  · cases h
def fAny : List D → Option D
  | [.list ds] => (boolsOf ds).map fun bs => .bool (bs.any id)
  | _ => none
theorem fAny_ok : ∀ ds r, fAny ds = some r → AnyD ds r := by
  intro ds r h
  unfold fAny at h
  split at h
  · obtain ⟨bs, e1, rfl⟩ := Option.map_eq_some_iff.mp h
    rw [boolsOf_inv e1]; exact .list bs
  · cases h
def fSum : List D → Option D
  | [.list ds] => (intsOf ds).map fun ns => .int ns.sum
  | [.tuple ds] => (intsOf ds).map fun ns => .int ns.sum
  | _ => none
theorem fSum_ok : ∀ ds r, fSum ds = some r → SumTD ds r := by
  intro ds r h
  unfold fSum at h
  split at h
  · obtain ⟨bs, e1, rfl⟩ := Option.map_eq_some_iff.mp h
    rw [intsOf_inv e1]; exact .list bs
  · obtain ⟨bs, e1, rfl⟩ := Option.map_eq_some_iff.mp h
    rw [intsOf_inv e1]; exact .tup bs
  · cases h
def fDivmod : List D → Option D
  | [.int i, .int j] => if 0 < j ∧ j < 1073741824 then some (.tuple [.int (i / j), .int (i % j)]) else none
  | _ => none
theorem fDivmod_ok : ∀ ds r, fDivmod ds = some r → DivmodD ds r := by
  intro ds r h
  unfold fDivmod at h
  split at h
  · split at h
    · rename_i q; cases h; exact .int _ _ q
    · cases h
  · cases h
def fStr : List D → Option D
  | [.int i] => if i.natAbs.log2 < 1920 then some (.str (toString i)) else none
  | [.str z] => some (.str z)
  | _ => none
theorem fStr_ok : ∀ ds r, fStr ds = some r → StrD ds r := by
  intro ds r h
  unfold fStr at h
  split at h
  · split at h
    · rename_i q; cases h; exact .int _ q
    · cases h
  · cases h; exact .str _
  · cases h
/-! methods of texts -/
def fIndexS : D → List D → Option D
  | .str a, [.str b] => match Builtin.Str.occurrences a b 0 a.length 1 with
    | i :: _ => some (.int (i : Int))
    | [] => none
  | _, _ => none
theorem fIndexS_ok : ∀ d ds r, fIndexS d ds = some r → IndexD d ds r := by
  intro d ds r h
  unfold fIndexS at h
  split at h
  · split at h
    · rename_i q; cases h; exact .mk _ _ _ _ q
    · cases h
  · cases h
def fJoin : D → List D → Option D
  | .str a, [.list ds] => match strsOf ds with
    | some ys => if (ys.map (·.length)).sum + ys.length * a.length ≤ 16777216 then some (.str (Txt.join a ys)) else none
    | none => none
  | _, _ => none
theorem fJoin_ok : ∀ d ds r, fJoin d ds = some r → JoinD d ds r := by
  intro d ds r h
  unfold fJoin at h
  split at h
  · split at h
    · rename_i q
      split at h
      · rename_i q2; cases h; rw [strsOf_inv q]; exact .list _ _ q2
      · cases h
    · cases h
  · cases h
/-! ### data operations in the mirror -/
def opD (f : D → D → Option D) : Av → Av → Op0 := fun x y S => match x, y with
  | .d a, .d b => (f a b).map fun r => (.d r, S)
  | _, _ => none
def unD (f : D → Option D) : Av → Op0 := fun x S => match x with
  | .d a => (f a).map fun r => (.d r, S)
  | _ => none
/-- what a value is as a datum, now -/
def dvn : Nat → Sg → Av → Option D
  | _, _, .d x => some x
  | 0, _, .o _ => none
  | n + 1, S, .o j => match S[j]? with
    | some (.lst xs) => (xs.mapM (dvn n S)).map .list
    | _ => none
/-- of data as they stand now; the answer a truth -/
def opB (f : D → D → Option Bool) : Av → Av → Op0 := fun x y S => match dvn 4 S x, dvn 4 S y with
  | some a, some b => (f a b).map fun r => (.d (.bool r), S)
  | _, _ => none
def opBn (f : D → D → Option Bool) : Av → Av → Op0 := fun x y S => match dvn 4 S x, dvn 4 S y with
  | some a, some b => (f a b).map fun r => (.d (.bool (!r)), S)
  | _, _ => none
/-- is: a cell is never None, True, False -/
def opIs (f : D → D → Option D) (neg : Bool) : Av → Av → Op0 := fun x y S => match x, y with
  | .d a, .d b => (f a b).map fun r => (.d r, S)
  | .o j, .d .none => match S[j]? with
    | some c => some (.d (.bool neg), S)
    | none => none
  | _, _ => none
def cbD (f : List D → Option D) : List Av → Op0 := fun xs S => match allD xs with
  | some ds => (f ds).map fun r => (.d r, S)
  | none => none
/-- .. of lists as they stand now -/
def dvs (S : Sg) : List Av → Option (List D) := fun xs => xs.mapM (dvn 4 S)
def cbN (f : List D → Option D) : List Av → Op0 := fun xs S => match dvs S xs with
  | some ds => (f ds).map fun r => (.d r, S)
  | none => none
def bmD (f : D → List D → Option D) : Av → List Av → Op0 := fun x xs S => match x, dvs S xs with
  | .d a, some ds => (f a ds).map fun r => (.d r, S)
  | _, _ => none
section
variable {P : Program} {wd : World} {K : Fg} {mg : Str → Option Value} {W : WX} {ρ : List Addr} {S S' : Sg} {F H F2 H2 : Hp} {σ : L2.St} {σa σa' : Sl} {v : V} {x : Av}
theorem Rel.gr (r : Rel P wd K mg ρ S F H) (g : Gr F H F2 H2) : Rel P wd K mg ρ S F2 H2 ∧ Gw ρ F H ρ F2 H2 := by
  have n0 : ∃ t, ρ = ρ ++ t := ⟨[], (List.append_nil _).symm⟩
  refine ⟨⟨r.len, r.inj, g.fh, fun a ha => ex_nn g.hx (r.al a ha), fun i a c h1 h2 hg => ?_⟩, ⟨n0, g.fx, fun p hp hn => ?_, fun p o u h => g.hx p _ h⟩⟩
  · obtain ⟨f, o, ho, hc⟩ := r.cell i a c h1 h2 hg
    exact ⟨(g.old a (by rw [ho]; exact fun z => nomatch z)).trans f, o, g.hx a o ho, hc.up n0 g.fx⟩
  · refine ⟨?_, hn, g.old p hp⟩
    cases q : H p with
    | none => exact absurd q hp
    | some o => exact g.hx p o q
theorem Rel.grH (r : Rel P wd K mg ρ S F H) (g : Gr H H F2 H2) : Rel P wd K mg ρ S F H2 ∧ Gw ρ F H ρ F H2 := r.gr ⟨Ex.refl F, g.hx, r.fh.trans g.hx, fun _ _ => rfl⟩
theorem os_D {R : D → D → D → Prop} {f : D → D → Option D} (h : ∀ a b r, f a b = some r → R a b r) : OpS P wd K mg (rD2 K R) (opD f) := by
  intro ρ S F H hr v w x y hv hw z S' e Q q
  unfold opD at e
  split at e
  · rename_i a b
    obtain ⟨r, e1, e2⟩ := Option.map_eq_some_iff.mp e
    cases e2
    exact ⟨F, a, b, r, hr.fh, hv, hw, h _ _ _ e1, fun u F2 H2 g hu => q ρ F2 H2 u (hr.gr g).2 (hr.gr g).1 hu⟩
  · cases e
theorem us_D {R : D → D → Prop} {f : D → Option D} (h : ∀ a r, f a = some r → R a r) : UnS P wd K mg (rD1 K R) (unD f) := by
  intro ρ S F H hr v x hv z S' e Q q
  unfold unD at e
  split at e
  · rename_i a
    obtain ⟨r, e1, e2⟩ := Option.map_eq_some_iff.mp e
    cases e2
    exact ⟨F, a, r, hr.fh, hv, h _ _ e1, fun u F2 H2 g hu => q ρ F2 H2 u (hr.gr g).2 (hr.gr g).1 hu⟩
  · cases e
theorem Rel.at (r : Rel P wd K mg ρ S F H) {j : Nat} {c : Cl} (hv : VR K ρ F v (.o j)) (hs : S[j]? = some c) (hg : c ≠ .gone) : ∃ a o, v = .ref a ∧ ρ[j]? = some a ∧ F a = none ∧ H a = some o ∧ CR P wd K mg ρ F a c o := by
  obtain ⟨a, h1, rfl⟩ := hv
  obtain ⟨f, o, ho, hc⟩ := r.cell j a c h1 hs hg
  exact ⟨a, o, rfl, h1, f, ho, hc⟩
theorem Rel.atL (r : Rel P wd K mg ρ S F H) {j : Nat} {xs : List Av} (hv : VR K ρ F v (.o j)) (hs : S[j]? = some (.lst xs)) : ∃ a vs, v = .ref a ∧ ρ[j]? = some a ∧ F a = none ∧ H a = some (.lst vs) ∧ VRs K ρ F vs xs := by
  obtain ⟨a, o, e, h1, h2, h3, vs, rfl, h4⟩ := r.at hv hs (fun z => nomatch z)
  exact ⟨a, vs, e, h1, h2, h3, h4⟩
theorem mapM_cons_some {α β : Type} {f : α → Option β} {x : α} {xs : List α} {r : List β} (h : (x :: xs).mapM f = some r) : ∃ y ys, f x = some y ∧ xs.mapM f = some ys ∧ r = y :: ys := by
  rw [List.mapM_cons] at h
  cases e1 : f x with
  | none => rw [e1] at h; cases h
  | some y =>
    rw [e1] at h
    cases e2 : xs.mapM f with
    | none => rw [e2] at h; cases h
    | some ys =>
      rw [e2] at h
      cases h
      exact ⟨y, ys, rfl, rfl, rfl⟩
/-- a value as it stands is that datum -/
theorem dvn_ok (r : Rel P wd K mg ρ S F H) : ∀ (n : Nat) (x : Av) (v : V) (d : D), dvn n S x = some d → VR K ρ F v x → Dp K H v d
  | n, .d x, v, d, h, hv => by
    have e : dvn n S (.d x) = some x := by cases n <;> rfl
    rw [e] at h
    cases h
    exact Dp.up hv r.fh
  | 0, .o _, v, d, h, hv => by cases h
  | n + 1, .o j, v, d, h, hv => by
    unfold dvn at h
    split at h
    · rename_i xs hs
      obtain ⟨ds, e1, rfl⟩ := Option.map_eq_some_iff.mp h
      obtain ⟨a, vs, rfl, h1, h2, h3, h4⟩ := r.atL hv hs
      refine .lst (sq_of h3) ?_
      clear h hs hv h3
      have all : ∀ (xs : List Av) (vs : List V) (ds : List D), xs.mapM (dvn n S) = some ds → VRs K ρ F vs xs → DpAll K H vs ds := by
        intro xs
        induction xs with
        | nil => intro vs ds e h; cases h; cases e; exact .nil
        | cons x xs ih =>
          intro vs ds e h
          obtain ⟨y, ys, ey, eys, rfl⟩ := mapM_cons_some e
          cases h with
          | cons a b => exact .cons (dvn_ok r n _ _ _ ey a) (ih _ _ eys b)
      exact all xs vs ds e1 h4
    · cases h
theorem dvs_ok (r : Rel P wd K mg ρ S F H) : ∀ (xs : List Av) (vs : List V) (ds : List D), dvs S xs = some ds → VRs K ρ F vs xs → DpAll K H vs ds
  | [], _, ds, h, hv => by cases hv; cases h; exact .nil
  | x :: xs, _, ds, h, hv => by
    obtain ⟨y, ys, ey, eys, rfl⟩ := mapM_cons_some h
    cases hv with
    | cons a b => exact .cons (dvn_ok r 4 _ _ _ ey a) (dvs_ok r xs _ _ eys b)
/-- scalars -/
def isSc : D → Bool
  | .none => true
  | .bool _ => true
  | .int _ => true
  | .str _ => true
  | _ => false
theorem sc_up {d : D} {F F' : Hp} (h : isSc d = true) (hv : Dp K F v d) : Dp K F' v d := by
  cases hv <;> first | constructor; done | cases h
theorem os_B {R : D → D → D → Prop} {f : D → D → Option Bool} (h : ∀ a b r, f a b = some r → R a b (.bool r)) : OpS P wd K mg (rD2 K R) (opB f) := by
  intro ρ S F H hr v w x y hv hw z S' e Q q
  unfold opB at e
  split at e
  · rename_i a b e1 e2
    obtain ⟨r, e3, e4⟩ := Option.map_eq_some_iff.mp e
    cases e4
    exact ⟨H, a, b, _, Ex.refl H, dvn_ok hr _ _ _ _ e1 hv, dvn_ok hr _ _ _ _ e2 hw, h _ _ _ e3, fun u F2 H2 g hu => q ρ F H2 u (hr.grH g).2 (hr.grH g).1 (sc_up (d := .bool r) rfl hu)⟩
  · cases e
theorem os_Bn {R : D → D → D → Prop} {f : D → D → Option Bool} (h : ∀ a b r, f a b = some r → R a b (.bool (!r))) : OpS P wd K mg (rD2 K R) (opBn f) := by
  intro ρ S F H hr v w x y hv hw z S' e Q q
  unfold opBn at e
  split at e
  · rename_i a b e1 e2
    obtain ⟨r, e3, e4⟩ := Option.map_eq_some_iff.mp e
    cases e4
    exact ⟨H, a, b, _, Ex.refl H, dvn_ok hr _ _ _ _ e1 hv, dvn_ok hr _ _ _ _ e2 hw, h _ _ _ e3, fun u F2 H2 g hu => q ρ F H2 u (hr.grH g).2 (hr.grH g).1 (sc_up (d := .bool (!r)) rfl hu)⟩
  · cases e
theorem cs_D {R : List D → D → Prop} {f : List D → Option D} (h : ∀ ds r, f ds = some r → R ds r) : CallS P wd K mg (rDn K R) (cbD f) := by
  intro ρ S F H hr vs xs hv z S' e Q q
  unfold cbD at e
  split at e
  · rename_i ds e1
    obtain ⟨r, e3, e4⟩ := Option.map_eq_some_iff.mp e
    cases e4
    rw [allD_inv e1] at hv
    exact ⟨F, ds, r, hr.fh, dps_of hv, h _ _ e3, fun u F2 H2 g hu => q ρ F2 H2 u (hr.gr g).2 (hr.gr g).1 hu⟩
  · cases e
theorem cs_N {R : List D → D → Prop} {f : List D → Option D} (h : ∀ ds r, f ds = some r → R ds r) (hsc : ∀ ds r, f ds = some r → isSc r = true) : CallS P wd K mg (rDn K R) (cbN f) := by
  intro ρ S F H hr vs xs hv z S' e Q q
  unfold cbN at e
  split at e
  · rename_i ds e1
    obtain ⟨r, e3, e4⟩ := Option.map_eq_some_iff.mp e
    cases e4
    exact ⟨H, ds, r, Ex.refl H, dvs_ok hr _ _ _ e1 hv, h _ _ e3, fun u F2 H2 g hu => q ρ F H2 u (hr.grH g).2 (hr.grH g).1 (sc_up (hsc _ _ e3) hu)⟩
  · cases e
end
end Ly
/-! LyQ: defs by mirrors, calls, freezing, walks, lists that are cells. -/
namespace Ly
open PySem L2 Evl PyProof.Rows
/-! ### defs -/
def aDef (np n : Nat) (b : AS) : AF := fun xs S => if xs.length = np then
    match b (xs.map some ++ List.replicate (n - np) none) S with
    | some (.rt x, _, S') => some (.ok x, S')
    | some (.nx, _, S') => some (.ok (.d .none), S')
    | some (.ex e, _, S') => some (.ex e, S')
    | _ => none
  else none
section
variable (P : Program) (wd : World) (K : Fg) (mg : Str → Option Value)
def spA (f : AF) : Sp := fun vs H Q E => ∃ ρ S F xs r S', Rel P wd K mg ρ S F H ∧ VRs K ρ F vs xs ∧ f xs S = some (r, S') ∧
  (∀ x, r = .ok x → ∀ ρ' F' H' v, Gw ρ F H ρ' F' H' → Rel P wd K mg ρ' S' F' H' → VR K ρ' F' v x → Q v H') ∧
  (∀ e, r = .ex e → ∀ ρ' F' H' c d, Gw ρ F H ρ' F' H' → Rel P wd K mg ρ' S' F' H' → XR mg H' e c d → E c d H')
end
section
variable {P : Program} {w : World} {K : Fg} {mg : Str → Option Value} {base : Heap}
theorem takesN0 {X : Cx} : L2N.Takes X (fun _ _ _ _ => False) := fun _ _ x => by
  obtain ⟨a, B, sI, pins, σ, H, cls, d, _, _, _, _, _, _, _, _, z⟩ := x
  exact z.elim
/-- as the kit's Fun.okX, the exceptions that fly out being without a context -/
theorem fun_okN {x qual : Str} {st : Stmt} {f : Addr} {fd : FuncData} {N ps : List Str} {k : Nat} {sp : Sp} (F : Fun K x qual st f fd) (S : FnScope N ps (defScope st)) (len : ∀ vs H Q E, sp vs H Q E → vs.length = ps.length)
    (hbody : ∀ (cdv : Value) (A : Around) (outer : List Env) (s : Shared) (H : Hp) (vs : List V) (Q : VK) (E : XK), Room k (A.deeper (envOfC qual (defScope st) s.heap.objs.size f cdv)) → sp vs H Q E →
      ∃ t, PSs (cxOf (L2N.CX P w) P w K mg base N qual (defScope st) f cdv A outer s H E) (defBody st) t ∧ t { nx := fun _ H' => Q .non H', rt := Q } (start N vs) H) : FnOk P w K mg base (L2N.CX P w) (k + 1) f fd ps sp := by
  obtain ⟨oc, od, kV, doc, pm, an, cdv, ct, osl, rfl, lk, hcd⟩ := F.ex
  exact fn_of lk hcd S len fun A outer s H vs Q E hr hsp => hbody cdv A outer s H vs Q E hr hsp
end
/-- a def that keeps its mirror's promise stands under its name -/
structure DkA (P : Program) (w : World) (K : Fg) (mg : Str → Option Value) (base : Heap) (k : Nat) (x : Str) (ps : List Str) (f : AF) : Prop where
  ex : ∃ a fd, mg x = some (.ref a) ∧ FnOk P w K mg base (L2N.CX P w) k a fd ps (spA P w K mg f) ∧ PySem.W.keepIn K (.ref a) = true ∧ Binds K fd ps [] ∧ ∃ o, K.lookup a = some o ∧ o.data = .func fd
def WOf (E : XK) : WX := fun c d _ H => E c d H
section
variable {P : Program} {w wd : World} {K : Fg} {mg : Str → Option Value} {base : Heap} {k : Nat} {x : Str} {st : Stmt} {N ps : List Str} {W : WX} {ρ : List Addr} {S S' : Sg} {F H : Hp} {σ : L2.St} {σa σa' : Sl}
theorem start_SR {vs : List V} {xs : List Av} (h : VRs K ρ F vs xs) (hl : xs.length ≤ N.length) : SR K ρ F (L2.start N vs) (xs.map some ++ List.replicate (N.length - xs.length) none) := by
  have e := h.len
  unfold L2.start
  rw [e]
  have all : ∀ {vs : List V} {xs : List Av} (m : Nat), VRs K ρ F vs xs → SR K ρ F (vs.map some ++ List.replicate m none) (xs.map some ++ List.replicate m none) := by
    intro vs xs m h
    induction h with
    | nil =>
      refine ⟨by simp, fun i x q => ?_⟩
      simp only [List.map_nil, List.nil_append] at q
      have := List.mem_of_getElem? q
      rw [List.mem_replicate] at this
      exact nomatch this.2
    | @cons v y vs ys h1 h2 ih =>
      refine ⟨by simp [Paired.length h2], fun i x q => ?_⟩
      cases i with
      | zero =>
        have q : some (some y) = some (some x) := q
        cases q
        exact ⟨v, rfl, h1⟩
      | succ i => exact ih.2 i x q
  exact all _ h
theorem aDef_inv {np n : Nat} {b : AS} {xs : List Av} {r : Rs Av} (h : aDef np n b xs S = some (r, S')) : xs.length = np ∧ ∃ fl σ', b (xs.map some ++ List.replicate (n - np) none) S = some (fl, σ', S') ∧
    ((∃ x, fl = .rt x ∧ r = .ok x) ∨ (fl = .nx ∧ r = .ok (.d .none)) ∨ ∃ e, fl = .ex e ∧ r = .ex e) := by
  unfold aDef at h
  split at h
  · rename_i hl
    refine ⟨hl, ?_⟩
    split at h
    · rename_i q; cases h; exact ⟨_, _, q, .inl ⟨_, rfl, rfl⟩⟩
    · rename_i q; cases h; exact ⟨_, _, q, .inr (.inl ⟨rfl, rfl⟩)⟩
    · rename_i q; cases h; exact ⟨_, _, q, .inr (.inr ⟨_, rfl, rfl⟩)⟩
    · cases h
  · cases h
theorem Df.dkA {np n : Nat} {as : AS} (D0 : Df K mg x st ps) (S0 : FnScope N ps (defScope st)) (hb : ∀ (f : Addr) (cdv : Value) (A : Around) (outer : List Env) (s : Shared) (H : Hp) (E : XK), Room k (A.deeper (envOfC x (defScope st) s.heap.objs.size f cdv)) →
      ∃ t, PSs (cxOf (L2N.CX P w) P w K mg base N x (defScope st) f cdv A outer s H E) (defBody st) t ∧ SimS P w K mg (WOf E) t as) (h1 : np = ps.length := by rfl) (h2 : n = N.length := by rfl) (h3 : ps.length ≤ N.length := by decide) : DkA P w K mg base (k + 1) x ps (aDef np n as) := by
  subst h1 h2
  obtain ⟨f, fd, Fn, hm, b⟩ := D0.ex
  refine ⟨f, fd, hm, fun_okN Fn S0 (fun vs H Q E ⟨ρ, S, F, xs, r, S', hr, hv, hf, _, _⟩ => by rw [hv.len]; exact (aDef_inv hf).1) fun cdv A outer s H vs Q E hr h => ?_, Fn.kp, .all b, fun_at Fn⟩
  obtain ⟨t, p1, p2⟩ := hb f cdv A outer s H E hr
  refine ⟨t, p1, ?_⟩
  obtain ⟨ρ, S, F, xs, r, S', hR, hv, hf, q1, q2⟩ := h
  obtain ⟨hl, fl, σ', e1, e2⟩ := aDef_inv hf
  rw [← hl] at e1
  refine p2 _ _ ρ S F H hR (start_SR hv (by rw [hl]; exact h3)) _ _ _ e1 _ ?_
  rcases e2 with ⟨x, rfl, rfl⟩ | ⟨rfl, rfl⟩ | ⟨e, rfl, rfl⟩
  · exact fun ρ' F' H' v g r' v' => q1 _ rfl ρ' F' H' v g r' v'
  · exact fun ρ' F' H' σ2 g r' s' => q1 _ rfl ρ' F' H' .non g r' .non
  · exact fun ρ' F' H' σ2 c d g r' s' x' => q2 _ rfl ρ' F' H' c d g r' x'
theorem DkA.mono {f : AF} {j : Nat} (h : DkA P w K mg base k x ps f) (hj : k ≤ j) : DkA P w K mg base j x ps f := by
  obtain ⟨a, fd, h1, h2, h3, h4, h5⟩ := h.ex
  exact ⟨a, fd, h1, h2.mono hj, h3, h4, h5⟩
/-- a mirror that is more often stuck -/
theorem DkA.imp {f g : AF} (h : DkA P w K mg base k x ps f) (e : ∀ xs S r S', g xs S = some (r, S') → f xs S = some (r, S')) : DkA P w K mg base k x ps g := by
  obtain ⟨a, fd, h1, h2, h3, h4, h5⟩ := h.ex
  exact ⟨a, fd, h1, h2.imp fun vs H Q E ⟨ρ, S, F, xs, r, S', a1, a2, a3, a4, a5⟩ => ⟨ρ, S, F, xs, r, S', a1, a2, e _ _ _ _ a3, a4, a5⟩, h3, h4, h5⟩
/-- of a def that is never called so, anything -/
theorem Df.dkA0 (D0 : Df K mg x st ps) : DkA P w K mg base k x ps (fun _ => stuck) := by
  obtain ⟨f, fd, F, hm, b⟩ := D0.ex
  exact ⟨f, fd, hm, ⟨fun vs H Q E ⟨ρ, S, F, xs, r, S', a1, a2, a3, _⟩ => (by cases a3), fun A outer s H args us vs Q E hr he hb hv ⟨ρ, S, F, xs, r, S', a1, a2, a3, _⟩ => (by cases a3)⟩, F.kp, .all b, fun_at F⟩
/-! calls -/
theorem clA {X : Cx} {f : AF} {p pos : Pos} {e : Expr} {es : List Expr} {t : TA} {j : Nat} (h : DkA P w K mg base k x ps f) (hr : Room j X.A) (tk : L2N.Takes X W) (ha : PA X (e :: es) t) (hj : k ≤ j := by first | decide | omega) (hg : Gl X x := by rfl)
    (hP : X.prog = P := by rfl) (hw : X.w = w := by rfl) (hK : X.K = K := by rfl) (hm : X.mg = mg := by rfl) (hB : X.base = base := by rfl)
    (hdb : (x == ("__debug__" : Str)) = false := by decide) (he : starEach (e :: es) X.env = (false, eval e X.env) :: starEach es X.env := by rfl) (hpl : (backTo pos (starEach es X.env)).any (·.1) = false := by rfl) :
    PE X (.Call (.Name x p) (e :: es) [] pos) (tCallS (spA P w K mg f) (WE W) t) := by
  subst hP hw hK hm hB
  obtain ⟨a, fd, h1, h2, h3, h4, _⟩ := h.ex
  exact pe_callS h2 (hr.mono hj) hg h1 h3 h4 (L2N.passAt tk) ha hdb he hpl
/-- a def's mirror among cells -/
theorem sm_call {f : AF} {t : TA} {ag : AA} (ha : SimA P w K mg W t ag) : SimE P w K mg W (tCallS (spA P w K mg f) (WE W) t) (aCall f ag) := by
  intro σ σa ρ S F H hr hs rr S' h Q qo qe
  refine ha.bind hr hs h qe fun xs S1 ρ1 F1 H1 vs h g1 r1 v1 => ?_
  exact ⟨ρ1, S1, F1, xs, rr, S', r1, v1, h, fun x hx ρ' F' H' v g r v' => qo x hx ρ' F' H' v (g1.trans g) r v', fun e he ρ' F' H' c d g r x' => qe e he ρ' F' H' c d (g1.trans g) r x'⟩
/-- what a mirror gives of data, with no cells about -/
def pf (f : AF) (ds : List D) : Option (Rs D) := match f (ds.map .d) [] with
  | some (.ok (.d r), _) => some (.ok r)
  | some (.ex e, _) => some (.ex e)
  | _ => none
def aCallP (f : AF) (t : AA) : AE := fun σ => bnd (t σ) fun xs S => match allD xs with
  | some ds => match pf f ds with
    | some (.ok r) => some (.ok (.d r), S)
    | some (.ex e) => some (.ex e, S)
    | none => none
  | none => none
/-- .. of cells as they stand now, the answer a scalar -/
def aCallN (f : AF) (t : AA) : AE := fun σ => bnd (t σ) fun xs S => match dvs S xs with
  | some ds => match pf f ds with
    | some (.ok r) => if isSc r then some (.ok (.d r), S) else none
    | some (.ex e) => some (.ex e, S)
    | none => none
  | none => none
theorem Rel.none {F H : Hp} (fh : Ex F H) : Rel P w K mg [] [] F H := ⟨rfl, fun i j a h => (by simp at h), fh, fun a ha => (nomatch ha), fun i a c h => (by simp at h)⟩
/-- what a call among no cells leaves -/
theorem Rel.alone {ρ' : List Addr} {F' H' : Hp} {S2 : Sg} (r : Rel P w K mg ρ S F H) (g : Gw [] F H ρ' F' H') (r' : Rel P w K mg ρ' S2 F' H') : Rel P w K mg ρ S F' H' ∧ Gw ρ F H ρ F' H' := by
  refine ⟨⟨r.len, r.inj, r'.fh, fun a ha => ?_, fun i a c h1 h2 hg => ?_⟩, ⟨⟨[], (List.append_nil _).symm⟩, g.fx, fun p hp hn => ?_, g.fz⟩⟩
  · rw [(g.out a (r.al a ha) (by simp)).1]; exact r.al a ha
  · obtain ⟨f, o, ho, hc⟩ := r.cell i a c h1 h2 hg
    obtain ⟨e1, e2, e3⟩ := g.out a (by rw [ho]; exact fun z => nomatch z) (by simp)
    exact ⟨by rw [e3]; exact f, o, by rw [e1]; exact ho, hc.up ⟨[], (List.append_nil _).symm⟩ g.fx⟩
  · obtain ⟨e1, e2, e3⟩ := g.out p hp (by simp)
    exact ⟨e1, hn, e3⟩
theorem Rel.aloneH {ρ' : List Addr} {F' H' : Hp} {S2 : Sg} (r : Rel P w K mg ρ S F H) (g : Gw [] H H ρ' F' H') (r' : Rel P w K mg ρ' S2 F' H') : Rel P w K mg ρ S F H' ∧ Gw ρ F H ρ F H' := by
  refine ⟨⟨r.len, r.inj, fun b u h => r'.fh b u (g.fx b u (r.fh b u h)), fun a ha => ?_, fun i a c h1 h2 hg => ?_⟩, ⟨⟨[], (List.append_nil _).symm⟩, Ex.refl F, fun p hp hn => ?_, g.fz⟩⟩
  · rw [(g.out a (r.al a ha) (by simp)).1]; exact r.al a ha
  · obtain ⟨f, o, ho, hc⟩ := r.cell i a c h1 h2 hg
    obtain ⟨e1, e2, e3⟩ := g.out a (by rw [ho]; exact fun z => nomatch z) (by simp)
    exact ⟨f, o, by rw [e1]; exact ho, hc⟩
  · obtain ⟨e1, e2, e3⟩ := g.out p hp (by simp)
    exact ⟨e1, hn, rfl⟩
theorem pf_inv {f : AF} {ds : List D} {r : Rs D} (h : pf f ds = some r) : ∃ S2, f (ds.map .d) [] = some ((match r with | .ok x => .ok (.d x) | .ex e => .ex e), S2) := by
  unfold pf at h
  split at h
  · rename_i S2 q; cases h; exact ⟨S2, q⟩
  · rename_i S2 q; cases h; exact ⟨S2, q⟩
  · cases h
theorem sm_callP {f : AF} {t : TA} {ag : AA} (ha : SimA P w K mg W t ag) : SimE P w K mg W (tCallS (spA P w K mg f) (WE W) t) (aCallP f ag) := by
  intro σ σa ρ S F H hr hs rr S' h Q qo qe
  refine ha.bind hr hs h qe fun xs S1 ρ1 F1 H1 vs h0 g1 r1 v1 => ?_
  have hm : (match allD xs with
    | some ds => match pf f ds with
      | some (.ok r) => some (.ok (.d r), S1)
      | some (.ex e) => some (.ex e, S1)
      | none => none
    | none => none) = some (rr, S') := h0
  clear h0 h
  split at hm
  · rename_i ds ed
    have ex := allD_inv ed
    subst ex
    split at hm
    · rename_i r q
      cases hm
      obtain ⟨S2, q⟩ := pf_inv q
      refine ⟨[], [], F1, ds.map .d, _, S2, Rel.none r1.fh, vrs_of (dps_of v1), q, fun x hx ρ' F' H' v g r' v' => ?_, fun e he => nomatch he⟩
      cases hx
      obtain ⟨a1, a2⟩ := r1.alone g r'
      exact qo _ rfl ρ1 F' H' v (g1.trans a2) a1 v'
    · rename_i e q
      cases hm
      obtain ⟨S2, q⟩ := pf_inv q
      refine ⟨[], [], F1, ds.map .d, _, S2, Rel.none r1.fh, vrs_of (dps_of v1), q, fun x hx => (nomatch hx), fun e he ρ' F' H' c d g r' x' => ?_⟩
      cases he
      obtain ⟨a1, a2⟩ := r1.alone g r'
      exact qe _ rfl ρ1 F' H' c d (g1.trans a2) a1 x'
    · cases hm
  · cases hm
theorem sm_callN {f : AF} {t : TA} {ag : AA} (ha : SimA P w K mg W t ag) : SimE P w K mg W (tCallS (spA P w K mg f) (WE W) t) (aCallN f ag) := by
  intro σ σa ρ S F H hr hs rr S' h Q qo qe
  refine ha.bind hr hs h qe fun xs S1 ρ1 F1 H1 vs h0 g1 r1 v1 => ?_
  have hm : (match dvs S1 xs with
    | some ds => match pf f ds with
      | some (.ok r) => if isSc r then some (.ok (.d r), S1) else none
      | some (.ex e) => some (.ex e, S1)
      | none => none
    | none => none) = some (rr, S') := h0
  clear h0 h
  split at hm
  · rename_i ds ed
    have hd := dvs_ok r1 _ _ _ ed v1
    split at hm
    · rename_i r q
      split at hm
      · rename_i hsc
        cases hm
        obtain ⟨S2, q⟩ := pf_inv q
        refine ⟨[], [], H1, ds.map .d, _, S2, Rel.none (Ex.refl H1), vrs_of hd, q, fun x hx ρ' F' H' v g r' v' => ?_, fun e he => nomatch he⟩
        cases hx
        obtain ⟨a1, a2⟩ := r1.aloneH g r'
        exact qo _ rfl ρ1 F1 H' v (g1.trans a2) a1 (sc_up hsc v')
      · cases hm
    · rename_i e q
      cases hm
      obtain ⟨S2, q⟩ := pf_inv q
      refine ⟨[], [], H1, ds.map .d, _, S2, Rel.none (Ex.refl H1), vrs_of hd, q, fun x hx => (nomatch hx), fun e he ρ' F' H' c d g r' x' => ?_⟩
      cases he
      obtain ⟨a1, a2⟩ := r1.aloneH g r'
      exact qe _ rfl ρ1 F1 H' c d (g1.trans a2) a1 x'
    · cases hm
  · cases hm
/-- a def whose promise is a relation of data -/
theorem sm_callR {R : List D → D → Prop} {fn : List D → Option D} {t : TA} {ag : AA} (h : ∀ ds r, fn ds = some r → R ds r) (ha : SimA P w K mg W t ag) : SimE P w K mg W (tCall (spR K R) [] E0 t) (aCB (cbD fn) ag) := by
  intro σ σa ρ S F H hr hs rr S' hh Q qo qe
  refine ha.bind hr hs hh qe fun xs S1 ρ1 F1 H1 vs h' g1 r1 v1 => ?_
  obtain ⟨z, hz, rfl⟩ := lf_inv h'
  show rDn K R (vs ++ []) H1 Q
  rw [List.append_nil]
  exact cs_D h ρ1 S1 F1 H1 r1 vs xs v1 z S' hz Q fun ρ3 F3 H3 u g3 r3 v3 => qo _ rfl ρ3 F3 H3 u (g1.trans g3) r3 v3
/-! ### a list that is one's own is handed out -/
def frzO (x : Av) : Op0 := fun S => match x with
  | .d x => some (.d x, S)
  | .o j => match S[j]? with
    | some (.lst xs) => (allD xs).map fun ds => (.d (.list ds), S.set j .gone)
    | _ => none
def aFrz (a : AE) : AE := fun σ => bnd (a σ) fun x => lf (frzO x)
theorem sm_frz {te : TE} {ae : AE} (ha : SimE P w K mg W te ae) : SimE P w K mg W te (aFrz ae) := by
  intro σ σa ρ S F H hr hs rr S' h Q qo qe
  refine ha.bind hr hs h qe fun x S1 ρ1 F1 H1 v h g1 r1 v1 => ?_
  obtain ⟨z, hz, rfl⟩ := lf_inv h
  clear h
  unfold frzO at hz
  split at hz
  · cases hz; exact qo _ rfl ρ1 F1 H1 v g1 r1 v1
  · rename_i j
    split at hz
    · rename_i xs e
      obtain ⟨ds, e1, e2⟩ := Option.map_eq_some_iff.mp hz
      cases e2
      obtain ⟨a, vs, rfl, h1, h2, h3, h4⟩ := r1.atL v1 e
      obtain ⟨r2, g2⟩ := r1.fix h1 e (fun z => nomatch z) h3
      rw [allD_inv e1] at h4
      exact qo _ rfl _ _ _ _ (g1.trans g2) r2 (.lst (sq_of upd_same) ((dps_of h4).up g2.fx))
    · cases hz
/-! ### walks -/
def itL (xs : List Av) : Itm := fun i _ => some xs[i]?
def itC (j : Nat) : Itm := fun i S => match S[j]? with
  | some (.lst xs) => some xs[i]?
  | _ => none
def itOf (x : Av) : M Itm := fun S => match x with
  | .d (.list ds) => some (.ok (itL (ds.map .d)), S)
  | .d (.tuple ds) => some (.ok (itL (ds.map .d)), S)
  | .d (.str z) => some (.ok (itL (z.cps.toList.map fun c => .d (signD c))), S)
  | .o j => match S[j]? with
    | some (.lst _) => some (.ok (itC j), S)
    | _ => none
  | _ => none
def aiAny (a : AE) : Sl → M Itm := fun σ => bnd (a σ) itOf
def itR (lo : Int) (n : Nat) : Itm := fun i _ => some (if i < n then some (.d (.int (lo + (i : Int)))) else none)
def aiR1 (t : AA) : Sl → M Itm := fun σ => bnd (t σ) fun xs S => match xs with
  | [.d (.int j)] => if -(2 ^ 62) ≤ j ∧ j < 2 ^ 62 then some (.ok (itR 0 j.toNat), S) else none
  | _ => none
def aiR2 (t : AA) : Sl → M Itm := fun σ => bnd (t σ) fun xs S => match xs with
  | [.d (.int i), .d (.int j)] => if -(2 ^ 62) ≤ i ∧ i < 2 ^ 62 ∧ -(2 ^ 62) ≤ j ∧ j < 2 ^ 62 then some (.ok (itR i (j - i).toNat), S) else none
  | _ => none
theorem wk_L {a : Addr} {vs : List V} {ds : List D} {J : It} (hgo : ∀ i H, Ex F H → i < vs.length → J.go i H) (hst : ∀ i H, Ex F H → vs.length ≤ i → J.stop i H) (hy : ∀ i H, Ex F H → ∀ v H', J.yld i H v H' → H' = H ∧ vs[i]? = some v) (ha : DpAll K F vs ds) : WkA P w K mg ρ F H J (itL (ds.map .d)) := by
  intro ρ1 S1 F1 H1 g r i o e
  have hl := ha.length
  have fh := g.fx.trans r.fh
  cases e
  cases q : (ds.map Av.d)[i]? with
  | none =>
    refine hst i H1 fh ?_
    rw [List.getElem?_eq_none_iff, List.length_map] at q
    omega
  | some x =>
    rw [List.getElem?_map] at q
    obtain ⟨d, e1, rfl⟩ := Option.map_eq_some_iff.mp q
    refine ⟨hgo i H1 fh (by rw [hl]; exact (List.getElem?_eq_some_iff.mp e1).1), fun v H' y => ?_⟩
    obtain ⟨rfl, hv⟩ := hy i H1 fh v H' y
    obtain ⟨d', e2, hd⟩ := ha.getV hv
    rw [e1] at e2
    cases e2
    exact ⟨ρ1, F1, Gw.refl, r, hd.up g.fx⟩
theorem si_any {tl : TE} {ae : AE} (ha : SimE P w K mg W tl ae) : SimI P w K mg W (iAny K tl) (aiAny ae) := by
  intro σ σa ρ S F H hr hs rr S' h R qo qe
  rcases bnd_inv h with ⟨x, S1, e1, h⟩ | ⟨e, e1, rfl⟩
  · unfold itOf at h
    split at h
    · rename_i ds
      cases h
      refine .inl (ha σ σa ρ S F H hr hs _ _ e1 _ (fun x' hx ρ1 F1 H1 v g1 r1 v1 => ?_) fun e he => nomatch he)
      cases hx
      have v1 : Dp K F1 v (.list ds) := v1
      cases v1 with
      | @lst a vs _ s1 a1 =>
        refine ⟨a, rfl, ⟨vs, ex_l r1.fh s1⟩, qo _ rfl ρ1 F1 H1 _ g1 r1 (wk_L (a := a) (vs := vs) (fun i H e hi => ?_) (fun i H e hi => ⟨vs, ex_l e s1, hi⟩) (fun i H e v H' y => ⟨y.1, y.2 vs (ex_l e s1)⟩) a1)⟩
        obtain ⟨x, hx⟩ := get_lt hi
        exact ⟨vs, x, ex_l e s1, hx⟩
    · rename_i ds
      cases h
      refine .inr (.inl (ha σ σa ρ S F H hr hs _ _ e1 _ (fun x' hx ρ1 F1 H1 v g1 r1 v1 => ?_) fun e he => nomatch he))
      cases hx
      have v1 : Dp K F1 v (.tuple ds) := v1
      cases v1 with
      | @tup a vs _ s1 a1 =>
        refine ⟨a, rfl, ⟨vs, ex_t r1.fh s1⟩, qo _ rfl ρ1 F1 H1 _ g1 r1 (wk_L (a := a) (vs := vs) (fun i H e hi => ?_) (fun i H e hi => ⟨vs, ex_t e s1, hi⟩) (fun i H e v H' y => ⟨y.1, y.2 vs (ex_t e s1)⟩) a1)⟩
        obtain ⟨x, hx⟩ := get_lt hi
        exact ⟨vs, x, ex_t e s1, hx⟩
    · rename_i z
      cases h
      refine .inr (.inr (ha σ σa ρ S F H hr hs _ _ e1 _ (fun x' hx ρ1 F1 H1 v g1 r1 v1 => ?_) fun e he => nomatch he))
      cases hx
      have v1 : Dp K F1 v (.str z) := v1
      cases v1
      refine ⟨z, rfl, qo _ rfl ρ1 F1 H1 _ g1 r1 ?_⟩
      have e : (z.cps.toList.map fun c => Av.d (signD c)) = (z.cps.toList.map signD).map Av.d := by rw [List.map_map]; rfl
      rw [e]
      have all : ∀ cs : List Nat, DpAll K F1 (cs.map fun c => V.str ⟨#[c]⟩) (cs.map signD) := fun cs => by
        induction cs with
        | nil => exact .nil
        | cons c cs ih => exact .cons (.str _) ih
      refine wk_L (a := 0) (vs := z.cps.toList.map fun c => V.str ⟨#[c]⟩) (fun i H e hi => ?_) (fun i H e hi => ?_) (fun i H e v H' y => ?_) (all _)
      · show i < z.cps.size
        simpa using hi
      · show z.cps.size ≤ i
        simpa using hi
      · obtain ⟨rfl, c, hc, rfl⟩ := y
        refine ⟨rfl, ?_⟩
        rw [List.getElem?_map, Array.getElem?_toList, hc]
        rfl
    · rename_i j
      split at h
      · rename_i xs0 e0
        cases h
        refine .inl (ha σ σa ρ S F H hr hs _ _ e1 _ (fun x' hx ρ1 F1 H1 v g1 r1 v1 => ?_) fun e he => nomatch he)
        cases hx
        obtain ⟨a, vs, rfl, h1, h2, h3, h4⟩ := r1.atL v1 e0
        refine ⟨a, rfl, ⟨vs, sq_of h3⟩, qo _ rfl ρ1 F1 H1 _ g1 r1 ?_⟩
        intro ρ2 S2 F2 H2 g2 r2 i o e
        unfold itC at e
        split at e
        · rename_i xs ex
          cases e
          obtain ⟨a', vs', ea, h1', h2', h3', h4'⟩ := r2.atL (VR.gw v1 g2) ex
          cases ea
          have hl := h4'.len
          cases q : xs[i]? with
          | none =>
            refine ⟨vs', sq_of h3', ?_⟩
            rw [List.getElem?_eq_none_iff] at q
            omega
          | some x =>
            obtain ⟨y, ey⟩ := get_lt (xs := vs') (i := i) (by rw [hl]; exact (List.getElem?_eq_some_iff.mp q).1)
            refine ⟨⟨vs', y, sq_of h3', ey⟩, fun v H' yy => ?_⟩
            obtain ⟨rfl, hy⟩ := yy
            have hv := hy vs' (sq_of h3')
            rw [hv] at ey
            cases ey
            have get : ∀ {vs : List V} {xs : List Av} {i : Nat} {x : Av} {v : V}, VRs K ρ2 F2 vs xs → xs[i]? = some x → vs[i]? = some v → VR K ρ2 F2 v x := by
              intro vs xs i x v h
              induction h generalizing i with
              | nil => intro e; simp at e
              | cons a b ih =>
                intro e1 e2
                cases i with
                | zero => simp at e1 e2; subst e1 e2; exact a
                | succ i => simp at e1 e2; exact ih e1 e2
            exact ⟨ρ2, F2, Gw.refl, r2, get h4' q hv⟩
        · cases e
      · cases h
    · cases h
  · exact .inl (ha σ σa ρ S F H hr hs _ _ e1 _ (fun x' hx => nomatch hx) fun e' he a b c d f g h x => by cases he; exact qe _ rfl a b c d f g h x)
theorem wk_R {lo : Int} {n : Nat} : WkA P w K mg ρ F H (Itr lo n) (itR lo n) := by
  intro ρ1 S1 F1 H1 g r i o e
  unfold itR at e
  split at e
  · rename_i hi
    cases e
    refine ⟨hi, fun v H' y => ?_⟩
    obtain ⟨rfl, rfl⟩ := y
    exact ⟨ρ1, F1, Gw.refl, r, .int _⟩
  · rename_i hi
    cases e
    exact Nat.le_of_not_lt hi
theorem si_r1 {t : TA} {ag : AA} (ha : SimA P w K mg W t ag) : SimI P w K mg W (iRng1 t) (aiR1 ag) := by
  intro σ σa ρ S F H hr hs rr S' h R qo qe
  refine ha.bind hr hs h qe fun xs S1 ρ1 F1 H1 vs h g1 r1 v1 => ?_
  split at h
  · split at h
    · rename_i j hj
      cases h
      obtain ⟨v, rfl, hv⟩ := dps1 (dps_of (ds := [.int j]) v1)
      cases hv
      exact ⟨j, rfl, hj.1, hj.2, qo _ rfl ρ1 F1 H1 _ g1 r1 wk_R⟩
    · cases h
  · cases h
theorem si_r2 {t : TA} {ag : AA} (ha : SimA P w K mg W t ag) : SimI P w K mg W (iRng2 t) (aiR2 ag) := by
  intro σ σa ρ S F H hr hs rr S' h R qo qe
  refine ha.bind hr hs h qe fun xs S1 ρ1 F1 H1 vs h g1 r1 v1 => ?_
  split at h
  · split at h
    · rename_i i j hj
      cases h
      obtain ⟨v, u, rfl, hv, hu⟩ := dps2 (dps_of (ds := [.int i, .int j]) v1)
      cases hv
      cases hu
      exact ⟨i, j, rfl, hj, qo _ rfl ρ1 F1 H1 _ g1 r1 wk_R⟩
    · cases h
  · cases h
end
end Ly
/-! LyR: cells that are lists: items, methods; isinstance; slices; len. -/
namespace Ly
open PySem L2 Evl PyProof.Rows
section
variable {P : Program} {w wd : World} {K : Fg} {mg : Str → Option Value} {W : WX} {ρ : List Addr} {S S' : Sg} {F H : Hp} {σ : L2.St} {σa σa' : Sl}
theorem vrs_get : ∀ {vs : List V} {xs : List Av} {i : Nat} {x : Av}, VRs K ρ F vs xs → xs[i]? = some x → ∃ v, vs[i]? = some v ∧ VR K ρ F v x := by
  intro vs xs i x h
  induction h generalizing i with
  | nil => intro e; simp at e
  | @cons v y vs ys a b ih =>
    intro e1
    cases i with
    | zero => simp at e1; subst e1; exact ⟨v, by simp, a⟩
    | succ i => simp at e1; simpa using ih e1
theorem vrs_at {vs : List V} {xs : List Av} {i : Int} {x : Av} (h : VRs K ρ F vs xs) (e : atI xs i = some x) : ∃ v, atI vs i = some v ∧ VR K ρ F v x := by
  unfold atI at e ⊢
  rw [h.len]
  obtain ⟨j, e1, e2⟩ := Option.bind_eq_some_iff.mp e
  obtain ⟨v, e3, hv⟩ := vrs_get h e2
  exact ⟨v, by rw [e1]; exact e3, hv⟩
theorem vrs_app {vs us : List V} {xs ys : List Av} (h : VRs K ρ F vs xs) (h' : VRs K ρ F us ys) : VRs K ρ F (vs ++ us) (xs ++ ys) := by
  induction h with
  | nil => exact h'
  | cons a _ ih => exact .cons a ih
theorem vrs_set {vs : List V} {xs : List Av} {v : V} {x : Av} (h : VRs K ρ F vs xs) (hv : VR K ρ F v x) : ∀ n : Nat, VRs K ρ F (vs.set n v) (xs.set n x) := by
  induction h with
  | nil => intro n; exact .nil
  | cons a b ih =>
    intro n
    cases n with
    | zero => exact .cons hv b
    | succ n => exact .cons a (ih n)
theorem vrs_take {vs : List V} {xs : List Av} (h : VRs K ρ F vs xs) : ∀ n : Nat, VRs K ρ F (vs.take n) (xs.take n) := by
  induction h with
  | nil => intro n; simp; exact .nil
  | cons a b ih =>
    intro n
    cases n with
    | zero => exact .nil
    | succ n => exact .cons a (ih n)
theorem vrs_drop {vs : List V} {xs : List Av} (h : VRs K ρ F vs xs) : ∀ n : Nat, VRs K ρ F (vs.drop n) (xs.drop n) := by
  induction h with
  | nil => intro n; simp; exact .nil
  | cons a b ih =>
    intro n
    cases n with
    | zero => exact .cons a b
    | succ n => exact ih n
theorem vrs_dl {vs : List V} {xs : List Av} (h : VRs K ρ F vs xs) : VRs K ρ F vs.dropLast xs.dropLast := by
  rw [List.dropLast_eq_take, List.dropLast_eq_take, h.len]
  exact vrs_take h _
theorem vrs_rev {vs : List V} {xs : List Av} (h : VRs K ρ F vs xs) : VRs K ρ F vs.reverse xs.reverse := by
  induction h with
  | nil => exact .nil
  | cons a _ ih => rw [List.reverse_cons, List.reverse_cons]; exact vrs_app ih (.cons a .nil)
/-! methods -/
def MtS (P : Program) (wd : World) (K : Fg) (mg : Str → Option Value) (r : V → List V → Hp → VK → Prop) (f : Av → List Av → Op0) : Prop := ∀ ρ S F H, Rel P wd K mg ρ S F H → ∀ v x vs xs, VR K ρ F v x → VRs K ρ F vs xs → ∀ z S', f x xs S = some (z, S') → ∀ Q : VK,
  (∀ ρ' F' H' u, Gw ρ F H ρ' F' H' → Rel P wd K mg ρ' S' F' H' → VR K ρ' F' u z → Q u H') → r v vs H Q
def isL (S : Sg) : Av → Bool
  | .d (.list _) => true
  | .o j => match S[j]? with
    | some (.lst _) => true
    | _ => false
  | _ => false
def isS : Av → Bool
  | .d (.str _) => true
  | _ => false
/-- xs.m(..), xs a list -/
def aBML (f : Av → List Av → Op0) (a : AE) (t : AA) : AE := fun σ => bnd (a σ) fun x S => if isL S x = true then bnd (t σ) (fun xs => lf (f x xs)) S else none
def aBMS (f : Av → List Av → Op0) (a : AE) (t : AA) : AE := fun σ => bnd (a σ) fun x S => if isS x = true then bnd (t σ) (fun xs => lf (f x xs)) S else none
theorem isL_ty (r : Rel P w K mg ρ S F H) {v : V} {x : Av} (hv : VR K ρ F v x) (h : isL S x = true) : tyV K "list" v H := by
  unfold isL at h
  split at h
  · have hv : Dp K F v (.list _) := hv
    cases hv with
    | lst s1 a1 => exact .inl ⟨rfl, _, ex_l r.fh s1⟩
  · split at h
    · rename_i e
      obtain ⟨a, vs, rfl, h1, h2, h3, h4⟩ := r.atL hv e
      exact .inl ⟨rfl, vs, sq_of h3⟩
    · cases h
  · cases h
theorem isS_ty {v : V} {x : Av} (hv : VR K ρ F v x) (h : isS x = true) : tyV K "str" v H := by
  unfold isS at h
  split at h
  · have hv : Dp K F v (.str _) := hv
    cases hv; rfl
  · cases h
theorem sm_bmL {rm : V → List V → Hp → VK → Prop} {f : Av → List Av → Op0} {te : TE} {ae : AE} {t : TA} {ag : AA} (hm : MtS P w K mg rm f) (ha : SimE P w K mg W te ae) (hg : SimA P w K mg W t ag) : SimE P w K mg W (tBM K "list" rm te t) (aBML f ae ag) := by
  intro σ σa ρ S F H hr hs rr S' h Q qo qe
  refine ha.bind hr hs h qe fun x S1 ρ1 F1 H1 v h g1 r1 v1 => ?_
  split at h
  · rename_i hl
    refine ⟨isL_ty r1 v1 hl, hg.bind r1 (hs.gw g1) h (ExQ.gw qe g1) fun xs S2 ρ2 F2 H2 vs h g2 r2 v2 => ?_⟩
    obtain ⟨z, hz, rfl⟩ := lf_inv h
    exact hm ρ2 S2 F2 H2 r2 v x vs xs (v1.gw g2) v2 z S' hz Q fun ρ3 F3 H3 u g3 r3 v3 => qo _ rfl ρ3 F3 H3 u ((g1.trans g2).trans g3) r3 v3
  · cases h
theorem sm_bmL0 {rm : V → List V → Hp → VK → Prop} {f : Av → List Av → Op0} {te : TE} {ae : AE} (hm : MtS P w K mg rm f) (ha : SimE P w K mg W te ae) : SimE P w K mg W (tBM0 K "list" rm te) (aBML f ae aNil) := by
  intro σ σa ρ S F H hr hs rr S' h Q qo qe
  refine ha.bind hr hs h qe fun x S1 ρ1 F1 H1 v h g1 r1 v1 => ?_
  split at h
  · rename_i hl
    obtain ⟨z, hz, rfl⟩ := lf_inv (show lf (f x []) S1 = some (rr, S') from h)
    exact ⟨isL_ty r1 v1 hl, hm ρ1 S1 F1 H1 r1 v x [] [] v1 .nil z S' hz Q fun ρ3 F3 H3 u g3 r3 v3 => qo _ rfl ρ3 F3 H3 u (g1.trans g3) r3 v3⟩
  · cases h
theorem sm_bmS {rm : V → List V → Hp → VK → Prop} {f : Av → List Av → Op0} {te : TE} {ae : AE} {t : TA} {ag : AA} (hm : MtS P w K mg rm f) (ha : SimE P w K mg W te ae) (hg : SimA P w K mg W t ag) : SimE P w K mg W (tBM K "str" rm te t) (aBMS f ae ag) := by
  intro σ σa ρ S F H hr hs rr S' h Q qo qe
  refine ha.bind hr hs h qe fun x S1 ρ1 F1 H1 v h g1 r1 v1 => ?_
  split at h
  · rename_i hl
    refine ⟨isS_ty v1 hl, hg.bind r1 (hs.gw g1) h (ExQ.gw qe g1) fun xs S2 ρ2 F2 H2 vs h g2 r2 v2 => ?_⟩
    obtain ⟨z, hz, rfl⟩ := lf_inv h
    exact hm ρ2 S2 F2 H2 r2 v x vs xs (v1.gw g2) v2 z S' hz Q fun ρ3 F3 H3 u g3 r3 v3 => qo _ rfl ρ3 F3 H3 u ((g1.trans g2).trans g3) r3 v3
  · cases h
theorem ms_D {R : D → List D → D → Prop} {f : D → List D → Option D} (h : ∀ a ds r, f a ds = some r → R a ds r) (hsc : ∀ a ds r, f a ds = some r → isSc r = true) : MtS P wd K mg (rDm K R) (bmD f) := by
  intro ρ S F H hr v x vs xs hv hvs z S' e Q q
  unfold bmD at e
  split at e
  · rename_i a ds e1
    obtain ⟨r, e3, e4⟩ := Option.map_eq_some_iff.mp e
    cases e4
    exact ⟨H, a, ds, r, Ex.refl H, Dp.up hv hr.fh, dvs_ok hr _ _ _ e1 hvs, h _ _ _ e3, fun u F2 H2 g hu => q ρ F H2 u (hr.grH g).2 (hr.grH g).1 (sc_up (hsc _ _ _ e3) hu)⟩
  · cases e
/-- changes of a list that is a cell -/
def mdL (f : List Av → List Av → Option (Av × List Av)) : Av → List Av → Op0 := fun x ys S => match x with
  | .o j => match S[j]? with
    | some (.lst xs) => (f xs ys).map fun r => (r.1, S.set j (.lst r.2))
    | _ => none
  | _ => none
theorem ms_L {rm : V → List V → Hp → VK → Prop} {f : List Av → List Av → Option (Av × List Av)}
    (h : ∀ ρ (F H : Hp) a vs xs us ys r, H a = some (.lst vs) → VRs K ρ F vs xs → VRs K ρ F us ys → Ex F H → f xs ys = some r → ∀ Q : VK, (∀ vs' u, VRs K ρ F vs' r.2 → VR K ρ F u r.1 → Q u (upd H a (.lst vs'))) → rm (.ref a) us H Q) : MtS P wd K mg rm (mdL f) := by
  intro ρ S F H hr v x vs xs hv hvs z S' e Q q
  unfold mdL at e
  split at e
  · rename_i j
    split at e
    · rename_i zs ez
      obtain ⟨r, e1, e2⟩ := Option.map_eq_some_iff.mp e
      cases e2
      obtain ⟨a, us, rfl, h1, h2, h3, h4⟩ := hr.atL hv ez
      refine h ρ F H a us zs vs xs r h3 h4 hvs hr.fh e1 Q fun vs' u hv' hu => ?_
      obtain ⟨r2, g2⟩ := hr.set (o := .lst vs') (c := .lst r.2) h1 ez (fun z => nomatch z) ⟨vs', rfl, hv'⟩
      exact q _ _ _ u g2 r2 hu
    · cases e
  · cases e
def fAppend : List Av → List Av → Option (Av × List Av) := fun xs ys => match ys with
  | [y] => if xs.length < 100000 then some (.d .none, xs ++ [y]) else none
  | _ => none
theorem ms_append : MtS P wd K mg rAppend (mdL fAppend) := ms_L fun ρ F H a vs xs us ys r ha hv hu fh e Q q => by
  unfold fAppend at e
  split at e
  · split at e
    · rename_i y hl
      cases e
      cases hu with
      | cons hy hn =>
        cases hn
        exact ⟨a, vs, _, rfl, rfl, ha, sz_lt (by rw [hv.len]; exact hl), q _ .non (vrs_app hv (.cons hy .nil)) .non⟩
    · cases e
  · cases e
def fPop : List Av → List Av → Option (Av × List Av) := fun xs ys => match ys with
  | [] => (xs[xs.length - 1]?).map fun x => (x, xs.dropLast)
  | _ => none
theorem ms_pop : MtS P wd K mg rPop (mdL fPop) := ms_L fun ρ F H a vs xs us ys r ha hv hu fh e Q q => by
  unfold fPop at e
  split at e
  · cases hu
    obtain ⟨x, e1, rfl⟩ := Option.map_eq_some_iff.mp e
    obtain ⟨v, e2, hx⟩ := vrs_get hv e1
    exact ⟨a, vs, v, rfl, rfl, ha, by rw [hv.len]; exact e2, q _ v (vrs_dl hv) hx⟩
  · cases e
def fRev : List Av → List Av → Option (Av × List Av) := fun xs ys => match ys with
  | [] => some (.d .none, xs.reverse)
  | _ => none
theorem ms_reverse : MtS P wd K mg rReverse (mdL fRev) := ms_L fun ρ F H a vs xs us ys r ha hv hu fh e Q q => by
  unfold fRev at e
  split at e
  · cases hu
    cases e
    exact ⟨a, vs, rfl, rfl, ha, q _ .non (vrs_rev hv) .non⟩
  · cases e
def fClear : List Av → List Av → Option (Av × List Av) := fun xs ys => match ys with
  | [] => some (.d .none, [])
  | _ => none
theorem ms_clear : MtS P wd K mg rClear (mdL fClear) := ms_L fun ρ F H a vs xs us ys r ha hv hu fh e Q q => by
  unfold fClear at e
  split at e
  · cases hu
    cases e
    exact ⟨a, vs, rfl, rfl, ha, q _ .non .nil .non⟩
  · cases e
/-! ### items -/
def valA {κ : Type} [DecidableEq κ] (kvs : List (κ × Av)) (k : κ) : Option Av := (kvs.find? fun kv => decide (kv.1 = k)).map (·.2)
def putA {κ : Type} [DecidableEq κ] (kvs : List (κ × Av)) (k : κ) (v : Av) : List (κ × Av) :=
  if (kvs.any fun kv => decide (kv.1 = k)) = true then kvs.map (fun kv => if kv.1 = k then (kv.1, v) else kv) else kvs ++ [(k, v)]
def dropA {κ : Type} [DecidableEq κ] (kvs : List (κ × Av)) (k : κ) : List (κ × Av) := kvs.filter fun kv => decide (kv.1 ≠ k)
def keyOf : D → Option Key
  | .int i => some (.inl i)
  | .str x => some (.inr x)
  | _ => none
def keysOf : List D → Option (List Key)
  | [] => some []
  | d :: ds => match keyOf d, keysOf ds with
    | some k, some ks => some (k :: ks)
    | _, _ => none
def tkeyOf : D → Option (List Key)
  | .tuple ds => keysOf ds
  | _ => none
def vkOf : D → Option Vd.Vk
  | .none => some (.a none)
  | .tuple ds => (keysOf ds).map .t
  | .int i => some (.a (some (.inl i)))
  | .str x => some (.a (some (.inr x)))
  | _ => none
def peel : Cl → Cl
  | .lk (.dk kvs) => .dk kvs
  | .lk (.dt kvs) => .dt kvs
  | .lk (.dv kvs) => .dv kvs
  | .lk _ => .gone
  | c => c
def getC (c : Cl) (d : D) : Option Av := match c with
  | .lst xs => match d with
    | .int n => atI xs n
    | _ => none
  | .dk kvs => (keyOf d).bind (valA kvs)
  | .dt kvs => (tkeyOf d).bind (valA kvs)
  | .dv kvs => (vkOf d).bind (valA kvs)
  | _ => none
def opIx : Av → Av → Op0 := fun x y S => match x, y with
  | .d a, .d b => (fIx a b).map fun r => (.d r, S)
  | .o j, .d b => match S[j]? with
    | some c => (getC (peel c) b).map fun r => (r, S)
    | none => none
  | _, _ => none
def lenC : Cl → Option Nat
  | .lst xs => some xs.length
  | .dk kvs => some kvs.length
  | _ => none
def cbLen : List Av → Op0 := fun xs S => match xs with
  | [.d x] => (fLen [x]).map fun r => (.d r, S)
  | [.o j] => match S[j]? with
    | some c => (lenC (peel c)).map fun n => (.d (.int (n : Nat)), S)
    | none => none
  | _ => none
/-! ### isinstance -/
def tyA (S : Sg) : Av → Option String
  | .d x => some (tyN x)
  | .o j => match S[j]? with
    | some (.lst _) => some "list"
    | _ => none
def aIsi (n : String) (a : AE) : AE := fun σ => bnd (a σ) fun x S => match tyA S x with
  | some t => match kitB t n with
    | some b => some (.ok (.d (.bool b)), S)
    | none => none
  | none => none
theorem tyA_ok (r : Rel P w K mg ρ S F H) {v : V} {x : Av} {t : String} (hv : VR K ρ F v x) (h : tyA S x = some t) : TyX K H v (.type t) := by
  unfold tyA at h
  split at h
  · cases h; exact dp_ty (Dp.up hv r.fh)
  · split at h
    · rename_i e
      cases h
      obtain ⟨a, vs, rfl, h1, h2, h3, h4⟩ := r.atL hv e
      exact .base (.lst h3)
    · cases h
theorem sm_isi {te : TE} {ae : AE} {n : String} (ha : SimE P w K mg W te ae) : SimE P w K mg W (tCB (rIsi K) (tCons te (tCons (tC (.ty n)) tNil))) (aIsi n ae) := by
  intro σ σa ρ S F H hr hs rr S' h Q qo qe
  refine ha.bind hr hs h qe fun x S1 ρ1 F1 H1 v h g1 r1 v1 => ?_
  split at h
  · rename_i t et
    split at h
    · rename_i b eb
      cases h
      exact ⟨v, .ty n, _, _, b, rfl, .ty n, tyA_ok r1 v1 et, kit_ty eb, qo _ rfl ρ1 F1 H1 _ g1 r1 (.bl b)⟩
    · cases h
  · cases h
/-! ### slices -/
def aSl (a : AE) (lo hi : Sl → M (Option Int)) : AE := fun σ => bnd (a σ) fun x => bnd (lo σ) fun l => bnd (hi σ) fun h S => match x with
  | .d d => (fSl d l h).map fun r => (.ok (.d r), S)
  | _ => none
def aoN : Sl → M (Option Int) := fun _ => ret none
def aoS (a : AE) : Sl → M (Option Int) := fun σ => bnd (a σ) fun x S => match x with
  | .d (.int i) => some (.ok (some i), S)
  | _ => none
def SimO (P : Program) (wd : World) (K : Fg) (mg : Str → Option Value) (W : WX) (to : TO) (ao : Sl → M (Option Int)) : Prop := ∀ σ σa ρ S F H, Rel P wd K mg ρ S F H → SR K ρ F σ σa → ∀ r S', ao σa S = some (r, S') → ∀ Q : Option Int → Hp → Prop,
  (∀ o, r = .ok o → ∀ ρ' F' H', Gw ρ F H ρ' F' H' → Rel P wd K mg ρ' S' F' H' → Q o H') →
  (∀ e, r = .ex e → ∀ ρ' F' H' c d, Gw ρ F H ρ' F' H' → Rel P wd K mg ρ' S' F' H' → XR mg H' e c d → W c d σ H') → to σ H Q
theorem so_none : SimO P wd K mg W tNoPart aoN := by
  intro σ σa ρ S F H hr hs rr S' h Q qo qe
  cases h
  exact qo _ rfl ρ F H Gw.refl hr
theorem so_some {te : TE} {ae : AE} (ha : SimE P wd K mg W te ae) : SimO P wd K mg W (tPart te) (aoS ae) := by
  intro σ σa ρ S F H hr hs rr S' h Q qo qe
  refine ha.bind hr hs h qe fun x S1 ρ1 F1 H1 v h g1 r1 v1 => ?_
  split at h
  · cases h
    have v1 : Dp K F1 v (.int _) := v1
    cases v1
    exact ⟨_, rfl, qo _ rfl ρ1 F1 H1 g1 r1⟩
  · cases h
theorem SimO.bind {α : Type} {r : Rs α} {to : TO} {ao : Sl → M (Option Int)} {f : Option Int → M α} (ha : SimO P wd K mg W to ao) (hr : Rel P wd K mg ρ S F H) (hs : SR K ρ F σ σa) (h : bnd (ao σa) f S = some (r, S')) {Q : Option Int → Hp → Prop} (qe : ExQ P wd K mg W ρ F H σ r S')
    (k : ∀ x S1 ρ1 F1 H1, f x S1 = some (r, S') → Gw ρ F H ρ1 F1 H1 → Rel P wd K mg ρ1 S1 F1 H1 → Q x H1) : to σ H Q := by
  rcases bnd_inv h with ⟨x, S1, e1, h⟩ | ⟨e, e1, rfl⟩
  · exact ha σ σa ρ S F H hr hs _ _ e1 Q (fun x' hx ρ1 F1 H1 g1 r1 => by cases hx; exact k x S1 ρ1 F1 H1 h g1 r1) (fun e he => nomatch he)
  · exact ha σ σa ρ S F H hr hs _ _ e1 Q (fun x' hx => nomatch hx) (fun e' he a b c d f g h x => by cases he; exact qe _ rfl a b c d f g h x)
theorem sm_sl {te : TE} {ae : AE} {tl th : TO} {al ah : Sl → M (Option Int)} (ha : SimE P wd K mg W te ae) (hl : SimO P wd K mg W tl al) (hh : SimO P wd K mg W th ah) : SimE P wd K mg W (tSl (rDs K SlD) te tl th) (aSl ae al ah) := by
  intro σ σa ρ S F H hr hs rr S' h Q qo qe
  refine ha.bind hr hs h qe fun x S1 ρ1 F1 H1 v h g1 r1 v1 => ?_
  refine hl.bind r1 (hs.gw g1) h (ExQ.gw qe g1) fun lo S2 ρ2 F2 H2 h g2 r2 => ?_
  have g12 := g1.trans g2
  refine hh.bind r2 (hs.gw g12) h (ExQ.gw qe g12) fun hi S3 ρ3 F3 H3 h g3 r3 => ?_
  cases x with
  | o j => cases h
  | d d =>
    obtain ⟨r, e1, e2⟩ := Option.map_eq_some_iff.mp (show (fSl d lo hi).map (fun r => ((Rs.ok (Av.d r) : Rs Av), S3)) = some (rr, S') from h)
    cases e2
    exact ⟨F3, d, r, r3.fh, v1.gw (g2.trans g3), fSl_ok _ _ _ _ e1, fun u F4 H4 g4 hu => qo _ rfl ρ3 F4 H4 u ((g12.trans g3).trans (r3.gr g4).2) (r3.gr g4).1 hu⟩
/-! ### stores -/
def agSub (o i : AE) (f : Av → Av → Av → Sg → Option Sg) : Av → AS := fun v σ => stb (o σ) σ fun x => stb (i σ) σ fun y S => (f x y v S).map fun S1 => (.nx, σ, S1)
def StS (P : Program) (wd : World) (K : Fg) (mg : Str → Option Value) (t : TSet) (f : Av → Av → Av → Sg → Option Sg) : Prop := ∀ ρ S F H, Rel P wd K mg ρ S F H → ∀ o i v x y z, VR K ρ F o x → VR K ρ F i y → VR K ρ F v z → ∀ S', f x y z S = some S' → ∀ Q : Hp → Prop,
  (∀ ρ' F' H', Gw ρ F H ρ' F' H' → Rel P wd K mg ρ' S' F' H' → Q H') → t o i v H Q
theorem sg_sub {to ti : TE} {ao ai : AE} {t : TSet} {f : Av → Av → Av → Sg → Option Sg} (ho : SimE P wd K mg W to ao) (hi : SimE P wd K mg W ti ai) (hf : StS P wd K mg t f) : SimG P wd K mg W (gSub to ti t) (agSub ao ai f) := by
  intro v z σ σa ρ S F H hr hs hv fl σa' S' h D' q
  refine ho.stb hr hs h q fun x S1 ρ1 F1 H1 o h g1 r1 v1 => ?_
  refine hi.stb r1 (hs.gw g1) h (q.gw g1) fun y S2 ρ2 F2 H2 i h g2 r2 v2 => ?_
  obtain ⟨S3, e1, e2⟩ := Option.map_eq_some_iff.mp h
  cases e2
  have g12 := g1.trans g2
  exact hf ρ2 S2 F2 H2 r2 o i v x y z (v1.gw g2) v2 (hv.gw g12) _ e1 _ fun ρ3 F3 H3 g3 r3 => q ρ3 F3 H3 σ (g12.trans g3) r3 (hs.gw (g12.trans g3))
end
end Ly
/-! LyS: dicts whose keys are tuples that may stand in the written part; dict rules for both kinds. -/
namespace Ly
open PySem L2 Evl PyProof.Rows
abbrev XT : List (List Key × Addr × V) → List (List Key × Addr × Value) → Prop := Paired fun p q => p.1 = q.1 ∧ p.2.1 = q.2.1 ∧ RelV p.2.2 q.2.2
def valX (ks : List (List Key × Addr × V)) (k : List Key) : Option V := (ks.find? fun p => decide (p.1 = k)).map (·.2.2)
def putX (ks : List (List Key × Addr × V)) (k : List Key) (b : Addr) (v : V) : List (List Key × Addr × V) :=
  if (ks.any fun p => decide (p.1 = k)) = true then ks.map (fun p => if p.1 = k then (p.1, p.2.1, v) else p) else ks ++ [(k, b, v)]
def dropX (ks : List (List Key × Addr × V)) (k : List Key) : List (List Key × Addr × V) := ks.filter fun p => decide (p.1 ≠ k)
theorem XT.val {ks : List (List Key × Addr × V)} {us : List (List Key × Addr × Value)} (r : XT ks us) (k : List Key) : RelO (valX ks k) ((atKey us k).map (·.2)) := by
  induction r with
  | nil => trivial
  | @cons p q ps qs h t ih =>
    obtain ⟨h1, h2, h3⟩ := h
    unfold valX atKey at *
    rw [List.find?_cons, List.find?_cons]
    by_cases e : p.1 = k
    · have e' : q.1 = k := h1 ▸ e
      rw [decide_eq_true e, decide_eq_true e']
      exact h3
    · have e' : ¬ q.1 = k := h1 ▸ e
      rw [decide_eq_false e, decide_eq_false e']
      exact ih
theorem XT.any {ks : List (List Key × Addr × V)} {us : List (List Key × Addr × Value)} (r : XT ks us) (k : List Key) : (atKey us k).isSome = ks.any fun p => decide (p.1 = k) := by
  induction r with
  | nil => rfl
  | @cons p q ps qs h t ih =>
    unfold atKey at *
    rw [List.find?_cons, List.any_cons, ← ih, h.1]
    by_cases e : q.1 = k
    · rw [decide_eq_true e]; rfl
    · rw [decide_eq_false e]; rfl
theorem XT.put {ks : List (List Key × Addr × V)} {us : List (List Key × Addr × Value)} (r : XT ks us) (k : List Key) (b : Addr) {v : V} {u : Value} (rv : RelV v u) : XT (putX ks k b v) (storedH us k b u) := by
  unfold putX storedH
  rw [r.any k]
  split
  · rename_i hc
    clear hc
    induction r with
    | nil => exact .nil
    | @cons p q ps qs h t ih =>
      refine .cons ?_ ih
      obtain ⟨h1, h2, h3⟩ := h
      unfold putAt
      by_cases e : p.1 = k
      · have e' : q.1 = k := h1 ▸ e
        dsimp only
        rw [if_pos e, if_pos e']
        exact ⟨h1, h2, rv⟩
      · have e' : ¬ q.1 = k := h1 ▸ e
        dsimp only
        rw [if_neg e, if_neg e']
        exact ⟨h1, h2, h3⟩
  · have app : ∀ {ks us}, XT ks us → XT (ks ++ [(k, b, v)]) (us ++ [(k, b, u)]) := fun {ks us} h => by
      induction h with
      | nil => exact .cons ⟨rfl, rfl, rv⟩ .nil
      | cons a _ ih => exact .cons a ih
    exact app r
theorem XT.drop {ks : List (List Key × Addr × V)} {us : List (List Key × Addr × Value)} (r : XT ks us) (k : List Key) : XT (dropX ks k) (withoutH us k) := by
  induction r with
  | nil => exact .nil
  | @cons p q ps qs h t ih =>
    unfold dropX withoutH at *
    rw [List.filter_cons, List.filter_cons, h.1]
    by_cases e : q.1 = k
    · rw [if_neg (by simp [e]), if_neg (by simp [e])]; exact ih
    · rw [if_pos (by simp [e]), if_pos (by simp [e])]; exact .cons h ih
theorem length_putX (ks : List (List Key × Addr × V)) (k : List Key) (b : Addr) (v : V) : (putX ks k b v).length ≤ ks.length + 1 := by
  unfold putX
  split
  · rw [List.length_map]; omega
  · rw [List.length_append]; exact Nat.le_refl _
abbrev VXT : List (Vd.Vk × V × V) → List (Vd.Vk × Value × Value) → Prop := Paired fun p q => p.1 = q.1 ∧ RelV p.2.1 q.2.1 ∧ RelV p.2.2 q.2.2
def valW (ks : List (Vd.Vk × V × V)) (k : Vd.Vk) : Option V := (ks.find? fun p => decide (p.1 = k)).map (·.2.2)
def putW (ks : List (Vd.Vk × V × V)) (k : Vd.Vk) (b v : V) : List (Vd.Vk × V × V) :=
  if (ks.any fun p => decide (p.1 = k)) = true then ks.map (fun p => if p.1 = k then (p.1, p.2.1, v) else p) else ks ++ [(k, b, v)]
theorem VXT.val {ks : List (Vd.Vk × V × V)} {us : List (Vd.Vk × Value × Value)} (r : VXT ks us) (k : Vd.Vk) : RelO (valW ks k) ((Vd.atK us k).map (·.2)) := by
  induction r with
  | nil => trivial
  | @cons p q ps qs h t ih =>
    obtain ⟨h1, h2, h3⟩ := h
    unfold valW Vd.atK at *
    rw [List.find?_cons, List.find?_cons]
    by_cases e : p.1 = k
    · have e' : q.1 = k := h1 ▸ e
      rw [decide_eq_true e, decide_eq_true e']
      exact h3
    · have e' : ¬ q.1 = k := h1 ▸ e
      rw [decide_eq_false e, decide_eq_false e']
      exact ih
theorem VXT.any {ks : List (Vd.Vk × V × V)} {us : List (Vd.Vk × Value × Value)} (r : VXT ks us) (k : Vd.Vk) : (Vd.atK us k).isSome = ks.any fun p => decide (p.1 = k) := by
  induction r with
  | nil => rfl
  | @cons p q ps qs h t ih =>
    unfold Vd.atK at *
    rw [List.find?_cons, List.any_cons, ← ih, h.1]
    by_cases e : q.1 = k
    · rw [decide_eq_true e]; rfl
    · rw [decide_eq_false e]; rfl
theorem VXT.put {ks : List (Vd.Vk × V × V)} {us : List (Vd.Vk × Value × Value)} (r : VXT ks us) (k : Vd.Vk) {b : V} {c : Value} {v : V} {u : Value} (rb : RelV b c) (rv : RelV v u) : VXT (putW ks k b v) (Vd.storedV us k c u) := by
  unfold putW Vd.storedV
  rw [r.any k]
  split
  · rename_i hc
    clear hc
    induction r with
    | nil => exact .nil
    | @cons p q ps qs h t ih =>
      refine .cons ?_ ih
      obtain ⟨h1, h2, h3⟩ := h
      unfold Vd.putK1
      by_cases e : p.1 = k
      · have e' : q.1 = k := h1 ▸ e
        dsimp only
        rw [if_pos e, if_pos e']
        exact ⟨h1, h2, rv⟩
      · have e' : ¬ q.1 = k := h1 ▸ e
        dsimp only
        rw [if_neg e, if_neg e']
        exact ⟨h1, h2, h3⟩
  · have app : ∀ {ks us}, VXT ks us → VXT (ks ++ [(k, b, v)]) (us ++ [(k, c, u)]) := fun {ks us} h => by
      induction h with
      | nil => exact .cons ⟨rfl, rb, rv⟩ .nil
      | cons a _ ih => exact .cons a ih
    exact app r
theorem length_putW (ks : List (Vd.Vk × V × V)) (k : Vd.Vk) (b v : V) : (putW ks k b v).length ≤ ks.length + 1 := by
  unfold putW
  split
  · rw [List.length_map]; omega
  · rw [List.length_append]; exact Nat.le_refl _
def VsOk (K : Fg) (H : Hp) (ks : List (Vd.Vk × V × V)) : Prop := ∀ p ∈ ks, KyV K H p.2.1 p.1
def KsOk (K : Fg) (H : Hp) (ks : List (List Key × Addr × V)) : Prop := ∀ p ∈ ks, SqT K H p.2.1 (p.1.map kV)
section
variable {X : Cx} {pins : List (Addr × Obj)} {σ : L2.St} {H H' : Hp} {s : Shared} {a b : Addr} {y v : V} {u r : Value} {o : Option V} {A : Around} {E : Value → Shared → Prop} {ks : List (List Key × Addr × V)} {k : List Key}
theorem keyX (I : Inv X pins σ H s) (h : SqT X.K H b (k.map kV)) : (tupleKind (mixKind X.prog X.w)).is s.heap k b := by
  obtain ⟨its, r, ⟨o, h1, h2, n, h3⟩, _⟩ := I.tuple h
  exact ⟨o, its.toArray, n, h1, h2, h3, by simpa using items_are r⟩
theorem dx_rd (I : Inv X pins σ H s) (e : Rd H a (.ext (DXf X.prog X.w a ks))) (hk : KsOk X.K H ks) : ks.length ≤ sizeLine ∧ (a == sysModules) = false ∧
    ∃ us, XT ks us ∧ s.heap.DictOfH (tupleKind (mixKind X.prog X.w)) a us := by
  have ok : ObjOk X.prog X.w H s.heap a (.ext (DXf X.prog X.w a ks)) := rd_of I.hok e
  obtain ⟨⟨z, y, us, r, o, es, ep, h1, h2, h3, h4, h5⟩, _, _⟩ := ok
  refine ⟨z, y, us, r, o, es, ep, h1, h2, h3, h4, fun x hx => ?_, h5⟩
  have all : ∀ {l : List (List Key × Addr × V)} {m : List (List Key × Addr × Value)}, XT l m → KsOk X.K H l → ∀ x ∈ m, (tupleKind (mixKind X.prog X.w)).is s.heap x.1 x.2.1 := by
    intro l m q
    induction q with
    | nil => intro _ x hx; exact nomatch hx
    | @cons p q ps qs hq t ih =>
      intro hl x hx
      rcases List.mem_cons.mp hx with e | hx
      · subst e
        obtain ⟨e1, e2, _⟩ := hq
        have := hl p (List.mem_cons_self ..)
        rw [e1, e2] at this
        exact keyX I this
      · exact ih (fun p hp => hl p (List.mem_cons_of_mem _ hp)) x hx
  exact all r hk x hx
theorem dx_new {h : Heap} {us : List (List Key × Addr × Value)} {H0 : Hp} {P : Program} {w : World} (hz : ks.length ≤ sizeLine) (hd : (a == sysModules) = false) (r : XT ks us) (dd : h.DictOfH (tupleKind (mixKind P w)) a us) : ObjOk P w H0 h a (.ext (DXf P w a ks)) := by
  obtain ⟨o, es, ep, h1, h2, h3, h4, _, h5⟩ := dd
  refine ⟨⟨hz, hd, us, r, o, es, ep, h1, h2, h3, h4, h5⟩, ⟨o, h1⟩, fun h1 h2 ⟨z, y, us, r, o, es, ep, g1, g2⟩ st => ⟨z, y, us, r, o, es, ep, st o g1, g2⟩⟩
theorem keyW {kk : Vd.Vk} (I : Inv X pins σ H s) (h : KyV X.K H y kk) (ry : RelV y u) : (Vd.vkind X.prog X.w).is s.heap kk u := by
  match kk, h with
  | .a none, h =>
    subst h
    cases (show u = Value.none from ry)
    rfl
  | .a (some (.inl i)), h =>
    subst h
    obtain ⟨t, rfl⟩ : ∃ t, u = Value.int i t := ry
    exact keyIs_int i t
  | .a (some (.inr x)), h =>
    subst h
    obtain ⟨t, rfl⟩ : ∃ t, u = Value.str x t := ry
    exact keyIs_str x t
  | .t ks, h =>
    obtain ⟨b, rfl, hb⟩ := h
    cases (show u = Value.ref b from ry)
    exact ⟨b, rfl, keyX I hb⟩
theorem dv_rd {ks : List (Vd.Vk × V × V)} (I : Inv X pins σ H s) (e : Rd H a (.ext (DVf X.prog X.w a ks))) (hk : VsOk X.K H ks) : ks.length ≤ sizeLine ∧ (a == sysModules) = false ∧
    ∃ us, VXT ks us ∧ Vd.DictV (Vd.vkind X.prog X.w) s.heap a us := by
  have ok : ObjOk X.prog X.w H s.heap a (.ext (DVf X.prog X.w a ks)) := rd_of I.hok e
  obtain ⟨⟨z, y, us, r, o, es, ep, h1, h2, h3, h4, h5⟩, _, _⟩ := ok
  refine ⟨z, y, us, r, o, es, ep, h1, h2, h3, h4, fun x hx => ?_, h5⟩
  have all : ∀ {l : List (Vd.Vk × V × V)} {m : List (Vd.Vk × Value × Value)}, VXT l m → VsOk X.K H l → ∀ x ∈ m, (Vd.vkind X.prog X.w).is s.heap x.1 x.2.1 := by
    intro l m q
    induction q with
    | nil => intro _ x hx; exact nomatch hx
    | @cons p q ps qs hq t ih =>
      intro hl x hx
      rcases List.mem_cons.mp hx with e | hx
      · subst e
        obtain ⟨e1, e2, _⟩ := hq
        have := hl p (List.mem_cons_self ..)
        rw [e1] at this
        exact keyW I this e2
      · exact ih (fun p hp => hl p (List.mem_cons_of_mem _ hp)) x hx
  exact all r hk x hx
theorem dv_new {ks : List (Vd.Vk × V × V)} {h : Heap} {us : List (Vd.Vk × Value × Value)} {H0 : Hp} {P : Program} {w : World} (hz : ks.length ≤ sizeLine) (hd : (a == sysModules) = false) (r : VXT ks us) (dd : Vd.DictV (Vd.vkind P w) h a us) : ObjOk P w H0 h a (.ext (DVf P w a ks)) := by
  obtain ⟨o, es, ep, h1, h2, h3, h4, _, h5⟩ := dd
  refine ⟨⟨hz, hd, us, r, o, es, ep, h1, h2, h3, h4, h5⟩, ⟨o, h1⟩, fun h1 h2 ⟨z, y, us, r, o, es, ep, g1, g2⟩ st => ⟨z, y, us, r, o, es, ep, st o g1, g2⟩⟩
/-- what a dict holds at a key -/
def GetX (P : Program) (w : World) (K : Fg) (H : Hp) (a : Addr) (y : V) (o : Option V) : Prop :=
  (∃ kvs k, Rd H a (.dK kvs) ∧ y = kV k ∧ o = valV kvs k) ∨ (∃ ks k b, Rd H a (.ext (DXf P w a ks)) ∧ KsOk K H ks ∧ y = .ref b ∧ SqT K H b (k.map kV) ∧ o = valX ks k) ∨
  ∃ ks k, Rd H a (.ext (DVf P w a ks)) ∧ VsOk K H ks ∧ KyV K H y k ∧ o = valW ks k
def PutX (P : Program) (w : World) (K : Fg) (H : Hp) (a : Addr) (y v : V) (H' : Hp) : Prop :=
  (∃ kvs k, H a = some (.dK kvs) ∧ y = kV k ∧ kvs.length < sizeLine ∧ H' = upd H a (.dK (putK kvs k v))) ∨
  (∃ ks k b, H a = some (.ext (DXf P w a ks)) ∧ KsOk K H ks ∧ y = .ref b ∧ SqT K H b (k.map kV) ∧ ks.length < sizeLine ∧ H' = upd H a (.ext (DXf P w a (putX ks k b v)))) ∨
  ∃ ks k, H a = some (.ext (DVf P w a ks)) ∧ VsOk K H ks ∧ KyV K H y k ∧ ks.length < sizeLine ∧ H' = upd H a (.ext (DVf P w a (putW ks k y v)))
def DropX (P : Program) (w : World) (K : Fg) (H : Hp) (a : Addr) (y v : V) (H' : Hp) : Prop :=
  (∃ kvs k, H a = some (.dK kvs) ∧ y = kV k ∧ valV kvs k = some v ∧ H' = upd H a (.dK (dropK kvs k))) ∨
  ∃ ks k b, H a = some (.ext (DXf P w a ks)) ∧ KsOk K H ks ∧ y = .ref b ∧ SqT K H b (k.map kV) ∧ valX ks k = some v ∧ H' = upd H a (.ext (DXf P w a (dropX ks k)))
def IsX (P : Program) (w : World) (H : Hp) (K : Fg) (a : Addr) : Prop := (∃ kvs, Rd H a (.dK kvs)) ∨ (∃ ks, Rd H a (.ext (DXf P w a ks)) ∧ KsOk K H ks) ∨ ∃ ks, Rd H a (.ext (DVf P w a ks)) ∧ VsOk K H ks
theorem x_getItem {Q : Value → Shared → Prop} (hu : A.units + 1 < cLine) (I : Inv X pins σ H s) (g : GetX X.prog X.w X.K H a y (some v)) (ry : RelV y u) (h : ∀ w' s', Inv X pins σ H s' → RelV v w' → Q w' s') :
    wpAny (model X.prog X.w) A (getItem (.ref a) u) Q E s := by
  rcases g with g | ⟨ks, k, b, e, hk, ey, eb, l⟩ | ⟨ks, k, e, hk, ky, l⟩
  · exact d_getItem hu I (.inl g) ry h
  · subst ey
    cases (show u = Value.ref b from ry)
    obtain ⟨z, hd, xs, rel, dd⟩ := dx_rd I e hk
    obtain ⟨w', hw, rw'⟩ := RelO.some_of (v := v) (o := (atKey xs k).map (·.2)) (by rw [l]; exact rel.val k)
    obtain ⟨p, hp, hp2⟩ := Option.map_eq_some_iff.mp hw
    refine wpAny_getItem_heap (tupleKind_room_in1 hu) (keyX I eb) dd hp ?_
    rw [hp2]
    exact h w' _ (I.tok _) rw'
  · obtain ⟨z, hd, xs, rel, dd⟩ := dv_rd I e hk
    obtain ⟨w', hw, rw'⟩ := RelO.some_of (v := v) (o := (Vd.atK xs k).map (·.2)) (by rw [l]; exact rel.val k)
    obtain ⟨p, hp, hp2⟩ := Option.map_eq_some_iff.mp hw
    refine Vd.getItem_ (Vd.room1 hu) (keyW I ky ry) dd hp ?_
    rw [hp2]
    exact h w' _ (I.tok _) rw'
theorem x_in {Q : Value → Shared → Prop} (hu : A.units + 1 < cLine) (I : Inv X pins σ H s) (g : GetX X.prog X.w X.K H a y o) (ry : RelV y u) (h : ∀ s', Inv X pins σ H s' → Q (.bool o.isSome) s') :
    wpAny (model X.prog X.w) A (compareOp .In u (.ref a)) Q E s := by
  rcases g with g | ⟨ks, k, b, e, hk, ey, eb, l⟩ | ⟨ks, k, e, hk, ky, l⟩
  · exact d_in hu I (.inl g) ry h
  · subst ey
    cases (show u = Value.ref b from ry)
    obtain ⟨z, hd, xs, rel, dd⟩ := dx_rd I e hk
    refine wpAny_in_heap (tupleKind_room_in1 hu) (keyX I eb) hd dd ?_
    have q := (rel.val k).isSome_eq
    rw [Option.isSome_map] at q
    rw [← q, ← l]
    exact h _ (I.tok _)
  · obtain ⟨z, hd, xs, rel, dd⟩ := dv_rd I e hk
    refine Vd.in_ (Vd.room1 hu) (keyW I ky ry) hd dd ?_
    have q := (rel.val k).isSome_eq
    rw [Option.isSome_map] at q
    rw [← q, ← l]
    exact h _ (I.tok _)
theorem x_notIn {Q : Value → Shared → Prop} (hu : A.units + 1 < cLine) (I : Inv X pins σ H s) (g : GetX X.prog X.w X.K H a y o) (ry : RelV y u) (h : ∀ s', Inv X pins σ H s' → Q (.bool (!o.isSome)) s') :
    wpAny (model X.prog X.w) A (compareOp .NotIn u (.ref a)) Q E s := by
  rcases g with g | ⟨ks, k, b, e, hk, ey, eb, l⟩ | ⟨ks, k, e, hk, ky, l⟩
  · exact d_notIn hu I (.inl g) ry h
  · subst ey
    cases (show u = Value.ref b from ry)
    obtain ⟨z, hd, xs, rel, dd⟩ := dx_rd I e hk
    refine wpAny_notIn_heap (tupleKind_room_in1 hu) (keyX I eb) hd dd ?_
    have q := (rel.val k).isSome_eq
    rw [Option.isSome_map] at q
    rw [← q, ← l]
    exact h _ (I.tok _)
  · obtain ⟨z, hd, xs, rel, dd⟩ := dv_rd I e hk
    refine Vd.notIn_ (Vd.room1 hu) (keyW I ky ry) hd dd ?_
    have q := (rel.val k).isSome_eq
    rw [Option.isSome_map] at q
    rw [← q, ← l]
    exact h _ (I.tok _)
theorem x_setItem {Q : Unit → Shared → Prop} (hu : A.units + 1 < cLine) (I : Inv X pins σ H s) (g : PutX X.prog X.w X.K H a y v H') (ry : RelV y u) (rv : RelV v r) (h : ∀ s', Inv X pins σ H' s' → Q () s') :
    wpAny (model X.prog X.w) A (setItem (.ref a) u r) Q E s := by
  rcases g with g | ⟨ks, k, b, e, hk, ey, eb, l, eH⟩ | ⟨ks, k, e, hk, ky, l, eH⟩
  · exact d_setItem hu I (.inl g) ry rv h
  · subst ey eH
    cases (show u = Value.ref b from ry)
    obtain ⟨z, hd, xs, rel, dd⟩ := dx_rd I (.inl e) hk
    have hz : xs.length ≤ sizeLine := by rw [← Paired.length rel]; exact z
    have hl : (putX ks k b v).length ≤ sizeLine := by have := length_putX ks k b v; omega
    refine wpAny_setItem_heap (hsz := hz) (tupleKind_room_in1 hu) (keyX I eb) dd fun h' dd' hs => h _ ?_
    have he : ∃ q, h'.get? a = some q := let ⟨q, _, _, hq, _⟩ := dd'; ⟨q, hq⟩
    exact d_write I (by rw [e]; exact True.intro) hs he (dx_new hl hd (rel.put k b rv) dd')
  · subst eH
    obtain ⟨z, hd, xs, rel, dd⟩ := dv_rd I (.inl e) hk
    have hz : xs.length ≤ sizeLine := by rw [← Paired.length rel]; exact z
    have hl : (putW ks k y v).length ≤ sizeLine := by have := length_putW ks k y v; omega
    refine Vd.setItem_ (hsz := hz) (Vd.room1 hu) (keyW I ky ry) dd fun h' dd' hs => h _ ?_
    have he : ∃ q, h'.get? a = some q := let ⟨q, _, _, hq, _⟩ := dd'; ⟨q, hq⟩
    exact d_write I (by rw [e]; exact True.intro) hs he (dv_new hl hd (rel.put k ry rv) dd')
theorem x_get1 {Q : Value → Shared → Prop} (hu : A.units + 1 < cLine) (I : Inv X pins σ H s) (g : GetX X.prog X.w X.K H a y o) (ry : RelV y u) (h : ∀ w' s', Inv X pins σ H s' → RelV (o.getD .non) w' → Q w' s') :
    wpAny (model X.prog X.w) A (call (.builtin "dict.get") [.ref a, u]) Q E s := by
  rcases g with g | ⟨ks, k, b, e, hk, ey, eb, l⟩ | ⟨ks, k, e, hk, ky, l⟩
  · exact d_get1 hu I (.inl g) ry h
  · subst ey
    cases (show u = Value.ref b from ry)
    obtain ⟨z, hd, xs, rel, dd⟩ := dx_rd I e hk
    refine call_meetsIn PySem.F.slot_dict_get dd.typeIs PySem.F.entry_dict_get (PySem.F.args_dict_get_2 _ _) (meetsH_dict_get (tupleKind (mixKind X.prog X.w)) a b hd) ⟨tupleKind_room_in1 hu, k, xs, keyX I eb, dd, h _ _ (I.tok _) ?_⟩
    rw [l]
    exact (rel.val k).getD rfl
  · obtain ⟨z, hd, xs, rel, dd⟩ := dv_rd I e hk
    refine call_meetsIn PySem.F.slot_dict_get dd.typeIs PySem.F.entry_dict_get (PySem.F.args_dict_get_2 _ _) (Vd.meets_get1 (Vd.vkind X.prog X.w) a _ hd) ⟨Vd.room1 hu, k, xs, keyW I ky ry, dd, h _ _ (I.tok _) ?_⟩
    rw [l]
    exact (rel.val k).getD rfl
theorem x_get2 {d : V} {Q : Value → Shared → Prop} (hu : A.units + 1 < cLine) (I : Inv X pins σ H s) (g : GetX X.prog X.w X.K H a y o) (ry : RelV y u) (rd : RelV d r) (h : ∀ w' s', Inv X pins σ H s' → RelV (o.getD d) w' → Q w' s') :
    wpAny (model X.prog X.w) A (call (.builtin "dict.get") [.ref a, u, r]) Q E s := by
  rcases g with g | ⟨ks, k, b, e, hk, ey, eb, l⟩ | ⟨ks, k, e, hk, ky, l⟩
  · exact d_get2 hu I (.inl g) ry rd h
  · subst ey
    cases (show u = Value.ref b from ry)
    obtain ⟨z, hd, xs, rel, dd⟩ := dx_rd I e hk
    refine call_meetsIn PySem.F.slot_dict_get dd.typeIs PySem.F.entry_dict_get (PySem.F.args_dict_get_3 _ _ _) (meetsH_dict_get_default (tupleKind (mixKind X.prog X.w)) a b hd r) ⟨tupleKind_room_in1 hu, k, xs, keyX I eb, dd, h _ _ (I.tok _) ?_⟩
    rw [l]
    exact (rel.val k).getD rd
  · obtain ⟨z, hd, xs, rel, dd⟩ := dv_rd I e hk
    refine call_meetsIn PySem.F.slot_dict_get dd.typeIs PySem.F.entry_dict_get (PySem.F.args_dict_get_3 _ _ _) (Vd.meets_get2 (Vd.vkind X.prog X.w) a _ hd r) ⟨Vd.room1 hu, k, xs, keyW I ky ry, dd, h _ _ (I.tok _) ?_⟩
    rw [l]
    exact (rel.val k).getD rd
/-- d.setdefault(y, z) -/
theorem x_setd {z : V} {Q : Value → Shared → Prop} (hu : A.units + 1 < cLine) (I : Inv X pins σ H s) (e : H a = some (.ext (DXf X.prog X.w a ks))) (hk : KsOk X.K H ks) (eb : SqT X.K H b (k.map kV)) (rz : RelV z r) (hl : ks.length < sizeLine)
    (h1 : ∀ v, valX ks k = some v → ∀ w' s', Inv X pins σ H s' → RelV v w' → Q w' s') (h2 : valX ks k = none → ∀ s', Inv X pins σ (upd H a (.ext (DXf X.prog X.w a (putX ks k b z)))) s' → Q r s') :
    wpAny (model X.prog X.w) A (call (.builtin "dict.setdefault") [.ref a, .ref b, r]) Q E s := by
  obtain ⟨zl, hd, xs, rel, dd⟩ := dx_rd I (.inl e) hk
  have hz : xs.length ≤ sizeLine := by rw [← Paired.length rel]; exact zl
  refine call_setdefault_heap (hsz := hz) (tupleKind_room_in1 hu) (keyX I eb) hd dd (fun p hp => ?_) fun hn h' dd' hs => ?_
  · have q := rel.val k
    rw [hp] at q
    cases q0 : valX ks k with
    | none =>
      rw [q0] at q
      exact (show False from q).elim
    | some v0 =>
      rw [q0] at q
      exact h1 v0 q0 _ _ (I.tok _) q
  · have q := rel.val k
    rw [hn] at q
    cases q0 : valX ks k with
    | some v0 =>
      rw [q0] at q
      exact (show False from q).elim
    | none =>
      have hl2 : (putX ks k b z).length ≤ sizeLine := by have := length_putX ks k b z; omega
      have he : ∃ q, h'.get? a = some q := let ⟨q, _, _, hq, _⟩ := dd'; ⟨q, hq⟩
      exact h2 q0 _ (d_write I (by rw [e]; exact True.intro) hs he (dx_new hl2 hd (rel.put k b rz) dd'))
theorem w_setd {z : V} {ks : List (Vd.Vk × V × V)} {k : Vd.Vk} {Q : Value → Shared → Prop} (hu : A.units + 1 < cLine) (I : Inv X pins σ H s) (e : H a = some (.ext (DVf X.prog X.w a ks))) (hk : VsOk X.K H ks) (ky : KyV X.K H y k) (ry : RelV y u) (rz : RelV z r) (hl : ks.length < sizeLine)
    (h1 : ∀ v, valW ks k = some v → ∀ w' s', Inv X pins σ H s' → RelV v w' → Q w' s') (h2 : valW ks k = none → ∀ s', Inv X pins σ (upd H a (.ext (DVf X.prog X.w a (putW ks k y z)))) s' → Q r s') :
    wpAny (model X.prog X.w) A (call (.builtin "dict.setdefault") [.ref a, u, r]) Q E s := by
  obtain ⟨zl, hd, xs, rel, dd⟩ := dv_rd I (.inl e) hk
  have hz : xs.length ≤ sizeLine := by rw [← Paired.length rel]; exact zl
  refine Vd.call_setd (hsz := hz) (Vd.room1 hu) (keyW I ky ry) hd dd (fun p hp => ?_) fun hn h' dd' hs => ?_
  · have q := rel.val k
    rw [hp] at q
    cases q0 : valW ks k with
    | none =>
      rw [q0] at q
      exact (show False from q).elim
    | some v0 =>
      rw [q0] at q
      exact h1 v0 q0 _ _ (I.tok _) q
  · have q := rel.val k
    rw [hn] at q
    cases q0 : valW ks k with
    | some v0 =>
      rw [q0] at q
      exact (show False from q).elim
    | none =>
      have hl2 : (putW ks k y z).length ≤ sizeLine := by have := length_putW ks k y z; omega
      have he : ∃ q, h'.get? a = some q := let ⟨q, _, _, hq, _⟩ := dd'; ⟨q, hq⟩
      exact h2 q0 _ (d_write I (by rw [e]; exact True.intro) hs he (dv_new hl2 hd (rel.put k ry rz) dd'))
/-- d.pop(y), there -/
theorem x_pop {Q : Value → Shared → Prop} (hu : A.units + 1 < cLine) (I : Inv X pins σ H s) (e : H a = some (.ext (DXf X.prog X.w a ks))) (hk : KsOk X.K H ks) (eb : SqT X.K H b (k.map kV)) (hv : valX ks k = some v)
    (h : ∀ w' s', Inv X pins σ (upd H a (.ext (DXf X.prog X.w a (dropX ks k)))) s' → RelV v w' → Q w' s') : wpAny (model X.prog X.w) A (call (.builtin "dict.pop") [.ref a, .ref b]) Q E s := by
  obtain ⟨zl, hd, xs, rel, dd⟩ := dx_rd I (.inl e) hk
  have hz : xs.length ≤ sizeLine := by rw [← Paired.length rel]; exact zl
  obtain ⟨w', hw, rw'⟩ := RelO.some_of (v := v) (o := (atKey xs k).map (·.2)) (by rw [← hv]; exact rel.val k)
  obtain ⟨p, hp, hp2⟩ := Option.map_eq_some_iff.mp hw
  refine call_pop_heap (hsz := hz) (.inl rfl) (PySem.F.args_dict_pop_2 _ _) (tupleKind_room_in1 hu) (keyX I eb) hd dd hp fun h' dd' hs => ?_
  have he : ∃ q, h'.get? a = some q := let ⟨q, _, _, hq, _⟩ := dd'; ⟨q, hq⟩
  rw [hp2]
  exact h w' _ (d_write I (by rw [e]; exact True.intro) hs he (dx_new (Nat.le_trans (List.length_filter_le _ _) zl) hd (rel.drop k) dd')) rw'
end
end Ly
/-! LyT: items, membership, lengths, stores of dicts and lists; dict methods; instances. -/
namespace Ly
open PySem L2 Evl PyProof.Rows
/-! ### rules over values -/
def rIxM (P : Program) (w : World) (K : Fg) : R2 := fun x y H Q => rIxU K x y H Q ∨ ∃ a v, x = .ref a ∧ GetX P w K H a y (some v) ∧ Q v H
def rInF (P : Program) (w : World) (K : Fg) : R2 := fun y x H Q => rD2 K InD y x H Q ∨ rIn K false y x H Q ∨ ∃ a o, x = .ref a ∧ GetX P w K H a y o ∧ Q (.bl o.isSome) H
def rNinF (P : Program) (w : World) (K : Fg) : R2 := fun y x H Q => rD2 K NinD y x H Q ∨ rIn K true y x H Q ∨ ∃ a o, x = .ref a ∧ GetX P w K H a y o ∧ Q (.bl (!o.isSome)) H
def rLenM (K : Fg) : List V → Hp → VK → Prop := fun vs H Q => rDn K LenD vs H Q ∨ (∃ p ys, vs = [.ref p] ∧ (SqL K H p ys ∨ SqT K H p ys) ∧ Q (.int ys.length) H) ∨ ∃ a kvs, vs = [V.ref a] ∧ Rd H a (.dK kvs) ∧ Q (.int kvs.length) H
def rSetM (P : Program) (w : World) (K : Fg) : TSet := fun o i v H Q => L2.rSetL o i v H Q ∨ ∃ a H', o = .ref a ∧ PutX P w K H a i v H' ∧ Q H'
def rGetM (P : Program) (w : World) (K : Fg) : V → V → Hp → VK → Prop := fun o i H Q => rGetL o i H Q ∨ ∃ a v, o = .ref a ∧ GetX P w K H a i (some v) ∧ Q v H
def tyX (P : Program) (w : World) (K : Fg) (x : V) (H : Hp) : Prop := ∃ a, x = .ref a ∧ IsX P w H K a
def tBMX (P : Program) (w : World) (K : Fg) (r : V → List V → Hp → VK → Prop) (to : TE) (t : TA) : TE := fun σ H Q => to σ H fun x H1 => tyX P w K x H1 ∧ t σ H1 fun xs H2 => r x xs H2 Q
def rGet2 (P : Program) (w : World) (K : Fg) : V → List V → Hp → VK → Prop := fun x vs H Q => ∃ a y z o, x = .ref a ∧ vs = [y, z] ∧ GetX P w K H a y o ∧ Q (o.getD z) H
def rGet1 (P : Program) (w : World) (K : Fg) : V → List V → Hp → VK → Prop := fun x vs H Q => ∃ a y o, x = .ref a ∧ vs = [y] ∧ GetX P w K H a y o ∧ Q (o.getD .non) H
def rSetd (P : Program) (w : World) (K : Fg) : V → List V → Hp → VK → Prop := fun x vs H Q => ∃ a y z, x = .ref a ∧ vs = [y, z] ∧
  ((∃ kvs k, H a = some (.dK kvs) ∧ y = kV k ∧ kvs.length < sizeLine ∧ (∀ v, valV kvs k = some v → Q v H) ∧ (valV kvs k = none → Q z (upd H a (.dK (putK kvs k z))))) ∨
    (∃ ks k b, H a = some (.ext (DXf P w a ks)) ∧ KsOk K H ks ∧ y = .ref b ∧ SqT K H b (k.map kV) ∧ ks.length < sizeLine ∧ (∀ v, valX ks k = some v → Q v H) ∧ (valX ks k = none → Q z (upd H a (.ext (DXf P w a (putX ks k b z)))))) ∨
    ∃ ks k, H a = some (.ext (DVf P w a ks)) ∧ VsOk K H ks ∧ KyV K H y k ∧ ks.length < sizeLine ∧ (∀ v, valW ks k = some v → Q v H) ∧ (valW ks k = none → Q z (upd H a (.ext (DVf P w a (putW ks k y z))))))
def rPopX (P : Program) (w : World) (K : Fg) : V → List V → Hp → VK → Prop := fun x vs H Q => ∃ a y v, x = .ref a ∧ vs = [y] ∧
  ((∃ kvs k, H a = some (.dK kvs) ∧ y = kV k ∧ valV kvs k = some v ∧ Q v (upd H a (.dK (dropK kvs k)))) ∨
    ∃ ks k b, H a = some (.ext (DXf P w a ks)) ∧ KsOk K H ks ∧ y = .ref b ∧ SqT K H b (k.map kV) ∧ valX ks k = some v ∧ Q v (upd H a (.ext (DXf P w a (dropX ks k)))))
section
variable {X : Cx} {P : Program} {w : World} {K : Fg}
theorem IsX.at {pins : List (Addr × Obj)} {σ : L2.St} {H : Hp} {s : Shared} {a : Addr} (I : Inv X pins σ H s) (d : IsX X.prog X.w H X.K a) :
    s.TypeIs (.ref a) "dict" ∧ (∀ b, Value.ref a = .ref b → ∃ ob, s.heap.get? b = some ob ∧ ob.dict = none) := by
  rcases d with d | ⟨ks, e, hk⟩ | ⟨ks, e, hk⟩
  · obtain ⟨h1, h2, _⟩ := isD_at I (.inl d)
    exact ⟨h1, h2⟩
  · obtain ⟨_, _, us, _, dd⟩ := dx_rd I e hk
    refine ⟨dd.typeIs, fun b q => ?_⟩
    cases q
    obtain ⟨ob, _, _, h1, h2, _⟩ := dd
    exact ⟨ob, h1, h2.2.1⟩
  · obtain ⟨_, _, us, _, dd⟩ := dv_rd I e hk
    refine ⟨dd.typeIs, fun b q => ?_⟩
    cases q
    obtain ⟨ob, _, _, h1, h2, _⟩ := dd
    exact ⟨ob, h1, h2.2.1⟩
theorem GetX.is {H : Hp} {a : Addr} {y : V} {o : Option V} (g : GetX P w K H a y o) : IsX P w H K a := by
  rcases g with ⟨kvs, k, e, _⟩ | ⟨ks, k, b, e, hk, _⟩ | ⟨ks, k, e, hk, _⟩
  · exact .inl ⟨kvs, e⟩
  · exact .inr (.inl ⟨ks, e, hk⟩)
  · exact .inr (.inr ⟨ks, e, hk⟩)
theorem ix_dict (hu : X.A.units + 1 < cLine) (hP : X.prog = P := by rfl) (hw : X.w = w := by rfl) (hK : X.K = K := by rfl) : IxR X (fun x y H Q => ∃ a v, x = .ref a ∧ GetX P w K H a y (some v) ∧ Q v H) := by
  subst hP hw hK
  intro value slice pins s σ H x y v u Q I rx ry ⟨a, z, ex, g, q⟩ hs
  subst ex
  obtain rfl : v = Value.ref a := rx
  obtain ⟨t1, t2⟩ := g.is.at I
  unfold subscriptTail
  refine wpAny_bind ?_
  rw [getitemInPython_of_ne t1.not_modules]
  refine wpAny_bind (wpAny_specialOf t1 PySem.F.slot_dict_getitem.lookup ?_)
  have fin : wpAny (model X.prog X.w) X.A (subscripted slice false (.ref a) u) (fun r s₃ => wpAny (model X.prog X.w) X.A (letTemporaryGo value (.ref a) r >>= fun _ => pure r) (EP X pins σ Q) X.xe s₃) X.xe s := by
    rw [hs]
    exact wpAny_operating (x_getItem hu I g ry fun w' s3 I3 rw' => wpAny_bind (wpAny_letTemporaryGo (wpAny_pure ⟨z, H, I3, rw', q⟩)))
  first
    | exact wpAny_pure (wpAny_bind fin)
    | exact wpAny_bind (wpAny_pure (wpAny_bind fin))
    | exact wpAny_bind fin
theorem kIxM (hu : X.A.units + 1 < cLine) (hP : X.prog = P := by rfl) (hw : X.w = w := by rfl) (hK : X.K = K := by rfl) : IxR X (rIxM P w K) := by
  subst hP hw hK
  exact IxR.or kIxU (ix_dict hu)
theorem kInM (hu : X.A.units + 65 < cLine) (hP : X.prog = P := by rfl) (hw : X.w = w := by rfl) (hK : X.K = K := by rfl) : OpR X (compareOp .In) (rInF P w K) := by
  subst hP hw hK
  refine (oIn hu).or (op_in_seq.or ?_)
  intro pins s σ H y x v u Q I ry rx ⟨a, o, ex, g, q⟩
  subst ex
  obtain rfl : u = Value.ref a := rx
  exact x_in (by omega) I g ry fun s3 I3 => ⟨.bl o.isSome, H, I3, rfl, q⟩
theorem kNinM (hu : X.A.units + 65 < cLine) (hP : X.prog = P := by rfl) (hw : X.w = w := by rfl) (hK : X.K = K := by rfl) : OpR X (compareOp .NotIn) (rNinF P w K) := by
  subst hP hw hK
  refine (oNin hu).or (op_notIn_seq.or ?_)
  intro pins s σ H y x v u Q I ry rx ⟨a, o, ex, g, q⟩
  subst ex
  obtain rfl : u = Value.ref a := rx
  exact x_notIn (by omega) I g ry fun s3 I3 => ⟨.bl (!o.isSome), H, I3, rfl, q⟩
theorem kLenM (hK : X.K = K := by rfl) : CallR X (.builtin "len") (rLenM K) := by
  subst hK
  refine CallR.or jLen (call_len_seq.or ?_)
  intro pins s σ H xs us Q I r h
  obtain ⟨a, kvs, rfl, ha, q⟩ := h
  obtain ⟨u, rfl, ru⟩ := vals1 r
  cases ru
  exact d_len I ha fun t s' I' => ⟨.int kvs.length, H, I', ⟨t, rfl⟩, q⟩
theorem set_M (hu : X.A.units + 1 < cLine) (hP : X.prog = P := by rfl) (hw : X.w = w := by rfl) (hK : X.K = K := by rfl) : PSet X (rSetM P w K) := by
  subst hP hw hK
  intro pins s σ H o i v ov iv u Q I ro ri rv h
  rcases h with h | ⟨a, H', ex, g, q⟩
  · exact set_list pins s σ H o i v ov iv u Q I ro ri rv h
  · subst ex
    obtain rfl : ov = Value.ref a := ro
    exact x_setItem hu I g ri rv fun s' I' => ⟨H', I', q⟩
theorem get_M (hu : X.A.units + 1 < cLine) (hP : X.prog = P := by rfl) (hw : X.w = w := by rfl) (hK : X.K = K := by rfl) : PGet X (rGetM P w K) := by
  subst hP hw hK
  intro pins s σ H o i ov iv Q I ro ri h
  rcases h with h | ⟨a, v, ex, g, q⟩
  · exact get_list pins s σ H o i ov iv Q I ro ri h
  · subst ex
    obtain rfl : ov = Value.ref a := ro
    exact x_getItem hu I g ri fun w' s' I' rw' => ⟨v, H, I', rw', q⟩
theorem pe_bmX {o e : Expr} {es : List Expr} {to : TE} {t : TA} {name id : String} {apos cpos : Pos} {r : V → List V → Hp → VK → Prop} (slot : Slot "dict" name id) (hty : typeOf (.builtin id) = pure (.type "method_descriptor")) (hm : MtR X id r) (ho : PE X o to) (ha : PA X (e :: es) t)
    (hP : X.prog = P := by rfl) (hw : X.w = w := by rfl) (hK : X.K = K := by rfl) (hbase : attributeBase o name X.env (eval o X.env) = eval o X.env := by rfl)
    (hfew : ((backTo cpos (starEach (e :: es) X.env)).all (fun x => !x.1) && (backToKw cpos (keywordEach [] X.env)).all (fun x => x.1.isSome)
      && decide ((e :: es).length + ([] : List Keyword).length + (if ([] : List Keyword).isEmpty then 0 else 1) < 30)) = true := by rfl)
    (hline : (apos.endLine == cpos.line) = true := by rfl) (hs : starEach (e :: es) X.env = (false, eval e X.env) :: starEach es X.env := by rfl) (hplain : (backTo cpos (starEach es X.env)).any (·.1) = false := by rfl) :
    PE X (.Call (.Attribute o name apos) (e :: es) [] cpos) (tBMX P w K r to t) := by
  subst hP hw hK
  refine ⟨fun pins s σ H Q I h => ?_⟩
  refine wpAny_Call_method_late hbase hfew hline rfl (thn (ho.run pins s σ H _ I h) fun v s1 ⟨x, H1, I1, r1, ⟨a, ex, ty⟩, q1⟩ => ?_)
  subst ex
  obtain rfl : v = Value.ref a := r1
  obtain ⟨h1, h2⟩ := ty.at I1
  refine ⟨"dict", id, PySem.F.plainAttrs_dict, slot, hty, h1, h2, ?_⟩
  have hA := ha.run cpos pins s1 σ H1 _ I1 q1
  rw [hs] at hA ⊢
  refine Calls.callWith_builtin (by show (false || (backTo cpos (starEach es X.env)).any (·.1)) = false; rw [hplain] <;> rfl) (Calls.evalArgs_plain ?_)
  exact thn hA fun us s2 ⟨vs, H2, I2, r2, q2⟩ => hm pins s2 σ H2 (.ref a) vs (.ref a) us Q I2 rfl r2 q2
theorem vals2 {x y : V} {us : List Value} (r : Vals [x, y] us) : ∃ u v, us = [u, v] ∧ RelV x u ∧ RelV y v := by
  cases r with
  | cons a b =>
    cases b with
    | cons c d => cases d; exact ⟨_, _, rfl, a, c⟩
theorem mtx_get2 (hu : X.A.units + 1 < cLine) (hP : X.prog = P := by rfl) (hw : X.w = w := by rfl) (hK : X.K = K := by rfl) : MtR X "dict.get" (rGet2 P w K) := by
  subst hP hw hK
  intro pins s σ H x vs v us Q I rx rv ⟨a, y, z, o, ex, ev, g, q⟩
  subst ex ev
  obtain rfl : v = Value.ref a := rx
  obtain ⟨u, r, rfl, ru, rr⟩ := vals2 rv
  exact x_get2 hu I g ru rr fun w' s' I' rw' => ⟨_, H, I', rw', q⟩
theorem mtx_get1 (hu : X.A.units + 1 < cLine) (hP : X.prog = P := by rfl) (hw : X.w = w := by rfl) (hK : X.K = K := by rfl) : MtR X "dict.get" (rGet1 P w K) := by
  subst hP hw hK
  intro pins s σ H x vs v us Q I rx rv ⟨a, y, o, ex, ev, g, q⟩
  subst ex ev
  obtain rfl : v = Value.ref a := rx
  obtain ⟨u, rfl, ru⟩ := vals1 rv
  exact x_get1 hu I g ru fun w' s' I' rw' => ⟨_, H, I', rw', q⟩
theorem mtx_setd (hu : X.A.units + 1 < cLine) (hP : X.prog = P := by rfl) (hw : X.w = w := by rfl) (hK : X.K = K := by rfl) : MtR X "dict.setdefault" (rSetd P w K) := by
  subst hP hw hK
  intro pins s σ H x vs v us Q I rx rv ⟨a, y, z, ex, ev, h⟩
  subst ex ev
  obtain rfl : v = Value.ref a := rx
  obtain ⟨u, r, rfl, ru, rr⟩ := vals2 rv
  rcases h with ⟨kvs, k, e, ey, hl, q1, q2⟩ | ⟨ks, k, b, e, hk, ey, eb, hl, q1, q2⟩ | ⟨ks, k, e, hk, ky, hl, q1, q2⟩
  · subst ey
    exact d_setd I e ru rr hl (fun v hv w' s' I' rw' => ⟨v, _, I', rw', q1 v hv⟩) fun hn w' s' I' rw' => ⟨z, _, I', rw', q2 hn⟩
  · subst ey
    obtain rfl : u = Value.ref b := ru
    exact x_setd hu I e hk eb rr hl (fun v hv w' s' I' rw' => ⟨v, _, I', rw', q1 v hv⟩) fun hn s' I' => ⟨z, _, I', rr, q2 hn⟩
  · exact w_setd hu I e hk ky ru rr hl (fun v hv w' s' I' rw' => ⟨v, _, I', rw', q1 v hv⟩) fun hn s' I' => ⟨z, _, I', rr, q2 hn⟩
theorem mtx_pop (hu : X.A.units + 1 < cLine) (hP : X.prog = P := by rfl) (hw : X.w = w := by rfl) (hK : X.K = K := by rfl) : MtR X "dict.pop" (rPopX P w K) := by
  subst hP hw hK
  intro pins s σ H x vs v us Q I rx rv ⟨a, y, z, ex, ev, h⟩
  subst ex ev
  obtain rfl : v = Value.ref a := rx
  obtain ⟨u, rfl, ru⟩ := vals1 rv
  rcases h with ⟨kvs, k, e, ey, hv, q⟩ | ⟨ks, k, b, e, hk, ey, eb, hv, q⟩
  · subst ey
    exact d_pop I e ru hv (.inl rfl) fun w' s' I' rw' => ⟨z, _, I', rw', q⟩
  · subst ey
    obtain rfl : u = Value.ref b := ru
    exact x_pop hu I e hk eb hv fun w' s' I' rw' => ⟨z, _, I', rw', q⟩
def tDNewV (P : Program) (w : World) : TE := fun _ H Q => ∀ p, H p = none → Q (.ref p) (upd H p (.ext (DVf P w p [])))
theorem pe_dnewV {pos : Pos} (hP : X.prog = P := by rfl) (hw : X.w = w := by rfl) : PE X (.Dict [] [] pos) (tDNewV P w) := by
  subst hP hw
  exact ⟨fun pins s σ H Q I h =>
    wpAny_Dict_empty ⟨.ref s.heap.objs.size, _, I.laid (a := s.heap.objs.size) (o := .ext (DVf X.prog X.w s.heap.objs.size [])) (t' := s.toks) (fun _ _ q => Heap.get?_push_of_some _ q) (Nat.le_refl _)
      (dv_new (Nat.zero_le _) (beq_eq_false_iff_ne.mpr (Ne.symm (Nat.ne_of_lt I.big))) .nil (Vd.DictV.new s.heap)), rfl, h _ (I.hok.fresh (Nat.le_refl _))⟩⟩
def tDNewX (P : Program) (w : World) : TE := fun _ H Q => ∀ p, H p = none → Q (.ref p) (upd H p (.ext (DXf P w p [])))
theorem pe_dnewX {pos : Pos} (hP : X.prog = P := by rfl) (hw : X.w = w := by rfl) : PE X (.Dict [] [] pos) (tDNewX P w) := by
  subst hP hw
  exact ⟨fun pins s σ H Q I h =>
    wpAny_Dict_empty ⟨.ref s.heap.objs.size, _, I.laid (a := s.heap.objs.size) (o := .ext (DXf X.prog X.w s.heap.objs.size [])) (t' := s.toks) (fun _ _ q => Heap.get?_push_of_some _ q) (Nat.le_refl _)
      (dx_new (Nat.zero_le _) (beq_eq_false_iff_ne.mpr (Ne.symm (Nat.ne_of_lt I.big))) .nil (Heap.DictOfH.new s.heap)), rfl, h _ (I.hok.fresh (Nat.le_refl _))⟩⟩
end
end Ly
/-! LyU: mirrors of items, membership, lengths, stores, dict methods. -/
namespace Ly
open PySem L2 Evl PyProof.Rows
/-! ### mirrors -/
def lookC (c : Cl) (d : D) : Option (Option Av) := match c with
  | .dk kvs => (keyOf d).map (valA kvs)
  | .dt kvs => (tkeyOf d).map (valA kvs)
  | .dv kvs => (vkOf d).map (valA kvs)
  | _ => none
def inTup (d : D) (ds : List D) : Option Bool := match scV d, ds.mapM scV with
  | some v, some vs => if flatV v = true ∧ vs.all flatV = true then some (inV v vs) else none
  | _, _ => none
def inB (S : Sg) (y x : Av) : Option Bool := match x with
  | .o j => match S[j]? with
    | some (.lst _) => match dvn 4 S y, dvn 4 S x with
      | some a, some b => fIn a b
      | _, _ => none
    | some c => match y with
      | .d d => (lookC (peel c) d).map Option.isSome
      | _ => none
    | none => none
  | .d (.tuple ds) => match y with
    | .d d => inTup d ds
    | _ => none
  | .d b => match dvn 4 S y with
    | some a => fIn a b
    | none => none
def opIn (neg : Bool) : Av → Av → Op0 := fun y x S => (inB S y x).map fun b => (.d (.bool (if neg then !b else b)), S)
def isX (S : Sg) : Av → Bool
  | .o j => match S[j]? with
    | some c => match peel c with
      | .dk _ => true
      | .dt _ => true
      | .dv _ => true
      | _ => false
    | none => false
  | _ => false
def aBMX (f : Av → List Av → Op0) (a : AE) (t : AA) : AE := fun σ => bnd (a σ) fun x S => if isX S x = true then bnd (t σ) (fun xs => lf (f x xs)) S else none
def bGet2 : Av → List Av → Op0 := fun x ys S => match x, ys with
  | .o j, [.d k, z] => match S[j]? with
    | some c => (lookC (peel c) k).map fun o => (o.getD z, S)
    | none => none
  | _, _ => none
def bGet1 : Av → List Av → Op0 := fun x ys S => match x, ys with
  | .o j, [.d k] => match S[j]? with
    | some c => (lookC (peel c) k).map fun o => (o.getD (.d .none), S)
    | none => none
  | _, _ => none
def putC (c : Cl) (d : D) (v : Av) : Option Cl := match c with
  | .dk kvs => if kvs.length < 100000 then (keyOf d).map fun k => .dk (putA kvs k v) else none
  | .dt kvs => if kvs.length < 100000 then (tkeyOf d).map fun k => .dt (putA kvs k v) else none
  | .dv kvs => if kvs.length < 100000 then (vkOf d).map fun k => .dv (putA kvs k v) else none
  | .lst xs => match d with
    | .int n => (ixN xs.length n).map fun j => .lst (xs.set j v)
    | _ => none
  | _ => none
def dropC (c : Cl) (d : D) : Option Cl := match c with
  | .dk kvs => (keyOf d).map fun k => .dk (dropA kvs k)
  | .dt kvs => (tkeyOf d).map fun k => .dt (dropA kvs k)
  | _ => none
def isDk : Cl → Bool
  | .dk _ => true
  | .dt _ => true
  | .dv _ => true
  | _ => false
def bSetd : Av → List Av → Op0 := fun x ys S => match x, ys with
  | .o j, [.d k, z] => match S[j]? with
    | some c => if isDk c = true then match lookC c k with
      | some (some v) => if (putC c k z).isSome then some (v, S) else none
      | some none => (putC c k z).map fun c' => (z, S.set j c')
      | none => none
      else none
    | none => none
  | _, _ => none
def bPop : Av → List Av → Op0 := fun x ys S => match x, ys with
  | .o j, [.d k] => match S[j]? with
    | some c => if isDk c = true then match lookC c k with
      | some (some v) => (dropC c k).map fun c' => (v, S.set j c')
      | _ => none
      else none
    | none => none
  | _, _ => none
def stM : Av → Av → Av → Sg → Option Sg := fun o i v S => match o, i with
  | .o j, .d d => match S[j]? with
    | some c => (putC c d v).map fun c' => S.set j c'
    | none => none
  | _, _ => none
/-- what stands at an item that is to be stored anew -/
def gtM : Av → Av → Sg → Option Av := fun x y S => match x, y with
  | .o j, .d d => match S[j]? with
    | some (.lst xs) => match d with
      | .int n => if 0 ≤ n then xs[n.toNat]? else none
      | _ => none
    | some c => match lookC (peel c) d with
      | some o => o
      | none => none
    | none => none
  | _, _ => none
/-- xs[i] op= e -/
def aAugS (o i a : AE) (f : Av → Av → Op0) : AS := fun σ => stb (o σ) σ fun x => stb (i σ) σ fun y S => match gtM x y S with
  | some old => stb (a σ) σ (fun b => stb (lf (f old b)) σ fun z S => (stM x y z S).map fun S1 => (.nx, σ, S1)) S
  | none => none
def aDNewK : AE := fun _ S => some (.ok (.o S.length), S ++ [.dk []])
def aDNewV : AE := fun _ S => some (.ok (.o S.length), S ++ [.dv []])
def aDNewX : AE := fun _ S => some (.ok (.o S.length), S ++ [.dt []])
section
variable {P : Program} {w wd : World} {K : Fg} {mg : Str → Option Value} {W : WX} {ρ : List Addr} {S S' : Sg} {F H : Hp} {σ : L2.St} {σa σa' : Sl}
/-- a value where there is one -/
def OV (K : Fg) (ρ : List Addr) (F : Hp) (f : Option V) : Option Av → Prop
  | some x => ∃ y, f = some y ∧ VR K ρ F y x
  | none => f = none
theorem keyOf_V {d : D} {k : Key} {v : V} (h : keyOf d = some k) (hv : Dp K F v d) : v = kV k := by
  unfold keyOf at h
  split at h
  · cases h; cases hv; rfl
  · cases h; cases hv; rfl
  · cases h
theorem keysOf_V : ∀ {ds : List D} {ks : List Key} {vs : List V}, keysOf ds = some ks → DpAll K F vs ds → vs = ks.map kV
  | [], ks, vs, h, hv => by cases h; cases hv; rfl
  | d :: ds, ks, vs, h, hv => by
    unfold keysOf at h
    split at h
    · rename_i k ks' e1 e2
      cases h
      cases hv with
      | cons a b => rw [keyOf_V e1 a, keysOf_V e2 b]; rfl
    · cases h
theorem tkeyOf_V {d : D} {k : List Key} {v : V} (h : tkeyOf d = some k) (hv : Dp K F v d) : ∃ b, v = .ref b ∧ SqT K F b (k.map kV) := by
  unfold tkeyOf at h
  split at h
  · cases hv with
    | tup s a => rw [keysOf_V h a] at s; exact ⟨_, rfl, s⟩
  · cases h
theorem KR.val {κ : Type} [DecidableEq κ] {ks : List (κ × V)} {kvs : List (κ × Av)} (r : KR K ρ F ks kvs) (k : κ) : OV K ρ F (valV ks k) (valA kvs k) := by
  induction r with
  | nil => rfl
  | @cons p q ps qs h t ih =>
    unfold valA valV at *
    rw [List.find?_cons, List.find?_cons]
    by_cases e : q.1 = k
    · have e' : p.1 = k := h.1.trans e
      rw [decide_eq_true e, decide_eq_true e']
      exact ⟨p.2, rfl, h.2⟩
    · have e' : ¬ p.1 = k := fun z => e (h.1.symm.trans z)
      rw [decide_eq_false e, decide_eq_false e']
      exact ih
theorem TR.val {ks : List (List Key × Addr × V)} {kvs : List (List Key × Av)} (r : TR K ρ F ks kvs) (k : List Key) : OV K ρ F (valX ks k) (valA kvs k) := by
  unfold TR at r
  induction r with
  | nil => rfl
  | @cons p q ps qs h t ih =>
    unfold valA valX at *
    rw [List.find?_cons, List.find?_cons]
    by_cases e : q.1 = k
    · have e' : p.1 = k := h.1.trans e
      rw [decide_eq_true e, decide_eq_true e']
      exact ⟨p.2.2, rfl, h.2.2⟩
    · have e' : ¬ p.1 = k := fun z => e (h.1.symm.trans z)
      rw [decide_eq_false e, decide_eq_false e']
      exact ih
theorem vkOf_V {d : D} {k : Vd.Vk} {v : V} (h : vkOf d = some k) (hv : Dp K F v d) : KyV K F v k := by
  unfold vkOf at h
  split at h
  · cases h; cases hv; rfl
  · obtain ⟨ks, e, rfl⟩ := Option.map_eq_some_iff.mp h
    cases hv with
    | tup s a => rw [keysOf_V e a] at s; exact ⟨_, rfl, s⟩
  · cases h; cases hv; rfl
  · cases h; cases hv; rfl
  · cases h
theorem VTR.val {ks : List (Vd.Vk × V × V)} {kvs : List (Vd.Vk × Av)} (r : VTR K ρ F ks kvs) (k : Vd.Vk) : OV K ρ F (valW ks k) (valA kvs k) := by
  unfold VTR at r
  induction r with
  | nil => rfl
  | @cons p q ps qs h t ih =>
    unfold valA valW at *
    rw [List.find?_cons, List.find?_cons]
    by_cases e : q.1 = k
    · have e' : p.1 = k := h.1.trans e
      rw [decide_eq_true e, decide_eq_true e']
      exact ⟨p.2.2, rfl, h.2.2⟩
    · have e' : ¬ p.1 = k := fun z => e (h.1.symm.trans z)
      rw [decide_eq_false e, decide_eq_false e']
      exact ih
theorem VTR.put {ks : List (Vd.Vk × V × V)} {kvs : List (Vd.Vk × Av)} (r : VTR K ρ F ks kvs) (k : Vd.Vk) {b v : V} {x : Av} (hb : KyV K F b k) (hv : VR K ρ F v x) : VTR K ρ F (putW ks k b v) (putA kvs k x) := by
  have ea : (ks.any fun p => decide (p.1 = k)) = kvs.any fun kv => decide (kv.1 = k) := by
    unfold VTR at r
    induction r with
    | nil => rfl
    | @cons p q ps qs h t ih => rw [List.any_cons, List.any_cons, ih, h.1]
  unfold putW putA
  rw [ea]
  split
  · rename_i hc
    clear hc ea
    unfold VTR at r ⊢
    induction r with
    | nil => exact .nil
    | @cons p q ps qs h t ih =>
      refine .cons ?_ ih
      by_cases e : q.1 = k
      · have e' : p.1 = k := h.1.trans e
        dsimp only
        rw [if_pos e, if_pos e']
        exact ⟨h.1, h.2.1, hv⟩
      · have e' : ¬ p.1 = k := fun z => e (h.1.symm.trans z)
        dsimp only
        rw [if_neg e, if_neg e']
        exact h
  · clear ea
    have app : ∀ {ks kvs}, VTR K ρ F ks kvs → VTR K ρ F (ks ++ [(k, b, v)]) (kvs ++ [(k, x)]) := fun {ks kvs} h => by
      unfold VTR at h ⊢
      induction h with
      | nil => exact .cons ⟨rfl, hb, hv⟩ .nil
      | cons a _ ih => exact .cons a ih
    exact app r
theorem VTR.ok (r : Rel P w K mg ρ S F H) {ks : List (Vd.Vk × V × V)} {kvs : List (Vd.Vk × Av)} (h : VTR K ρ F ks kvs) : VsOk K H ks := by
  have fh := r.fh
  unfold VTR at h
  clear r
  induction h with
  | nil => exact fun p hp => nomatch hp
  | @cons p q ps qs a _ ih =>
    intro x hx
    rcases List.mem_cons.mp hx with e | hx
    · subst e; exact a.2.1.up fh
    · exact ih x hx
theorem VTR.len {ks : List (Vd.Vk × V × V)} {kvs : List (Vd.Vk × Av)} (h : VTR K ρ F ks kvs) : ks.length = kvs.length := Paired.length h
theorem KR.put {κ : Type} [DecidableEq κ] {ks : List (κ × V)} {kvs : List (κ × Av)} (r : KR K ρ F ks kvs) (k : κ) {v : V} {x : Av} (hv : VR K ρ F v x) : KR K ρ F (putK ks k v) (putA kvs k x) := by
  have ea : (ks.any fun kv => decide (kv.1 = k)) = kvs.any fun kv => decide (kv.1 = k) := by
    induction r with
    | nil => rfl
    | @cons p q ps qs h t ih => rw [List.any_cons, List.any_cons, ih, h.1]
  unfold putK putA
  rw [ea]
  split
  · rename_i hc
    clear hc ea
    induction r with
    | nil => exact .nil
    | @cons p q ps qs h t ih =>
      refine .cons ?_ ih
      by_cases e : q.1 = k
      · have e' : p.1 = k := h.1.trans e
        dsimp only
        rw [if_pos e, if_pos e']
        exact ⟨h.1, hv⟩
      · have e' : ¬ p.1 = k := fun z => e (h.1.symm.trans z)
        dsimp only
        rw [if_neg e, if_neg e']
        exact h
  · clear ea
    induction r with
    | nil => exact .cons ⟨rfl, hv⟩ .nil
    | cons a _ ih =>
      rename_i hc
      refine .cons a (ih ?_)
      intro z
      apply hc
      rw [List.any_cons, z, Bool.or_true]
theorem TR.put {ks : List (List Key × Addr × V)} {kvs : List (List Key × Av)} (r : TR K ρ F ks kvs) (k : List Key) {b : Addr} {v : V} {x : Av} (hb : SqT K F b (k.map kV)) (hv : VR K ρ F v x) : TR K ρ F (putX ks k b v) (putA kvs k x) := by
  have ea : (ks.any fun p => decide (p.1 = k)) = kvs.any fun kv => decide (kv.1 = k) := by
    unfold TR at r
    induction r with
    | nil => rfl
    | @cons p q ps qs h t ih => rw [List.any_cons, List.any_cons, ih, h.1]
  unfold putX putA
  rw [ea]
  split
  · rename_i hc
    clear hc ea
    unfold TR at r ⊢
    induction r with
    | nil => exact .nil
    | @cons p q ps qs h t ih =>
      refine .cons ?_ ih
      by_cases e : q.1 = k
      · have e' : p.1 = k := h.1.trans e
        dsimp only
        rw [if_pos e, if_pos e']
        exact ⟨h.1, h.2.1, hv⟩
      · have e' : ¬ p.1 = k := fun z => e (h.1.symm.trans z)
        dsimp only
        rw [if_neg e, if_neg e']
        exact h
  · clear ea
    have app : ∀ {ks kvs}, TR K ρ F ks kvs → TR K ρ F (ks ++ [(k, b, v)]) (kvs ++ [(k, x)]) := fun {ks kvs} h => by
      unfold TR at h ⊢
      induction h with
      | nil => exact .cons ⟨rfl, hb, hv⟩ .nil
      | cons a _ ih => exact .cons a ih
    exact app r
theorem KR.drop {κ : Type} [DecidableEq κ] {ks : List (κ × V)} {kvs : List (κ × Av)} (r : KR K ρ F ks kvs) (k : κ) : KR K ρ F (dropK ks k) (dropA kvs k) := by
  induction r with
  | nil => exact .nil
  | @cons p q ps qs h t ih =>
    unfold dropK dropA at *
    rw [List.filter_cons, List.filter_cons, h.1]
    by_cases e : q.1 = k
    · rw [if_neg (by simp [e]), if_neg (by simp [e])]; exact ih
    · rw [if_pos (by simp [e]), if_pos (by simp [e])]; exact .cons h ih
theorem TR.drop {ks : List (List Key × Addr × V)} {kvs : List (List Key × Av)} (r : TR K ρ F ks kvs) (k : List Key) : TR K ρ F (dropX ks k) (dropA kvs k) := by
  unfold TR at r ⊢
  induction r with
  | nil => exact .nil
  | @cons p q ps qs h t ih =>
    unfold dropX dropA at *
    rw [List.filter_cons, List.filter_cons, h.1]
    by_cases e : q.1 = k
    · rw [if_neg (by simp [e]), if_neg (by simp [e])]; exact ih
    · rw [if_pos (by simp [e]), if_pos (by simp [e])]; exact .cons h ih
theorem TR.ok (r : Rel P w K mg ρ S F H) {ks : List (List Key × Addr × V)} {kvs : List (List Key × Av)} (h : TR K ρ F ks kvs) : KsOk K H ks := by
  have fh := r.fh
  unfold TR at h
  clear r
  induction h with
  | nil => exact fun p hp => nomatch hp
  | @cons p q ps qs a _ ih =>
    intro x hx
    rcases List.mem_cons.mp hx with e | hx
    · subst e; exact ex_t fh a.2.1
    · exact ih x hx
theorem TR.len {ks : List (List Key × Addr × V)} {kvs : List (List Key × Av)} (h : TR K ρ F ks kvs) : ks.length = kvs.length := Paired.length h
theorem Rel.rd (r : Rel P w K mg ρ S F H) {v : V} {j : Nat} {c : Cl} (hv : VR K ρ F v (.o j)) (hs : S[j]? = some c) (hg : peel c ≠ .gone) : ∃ a u, v = .ref a ∧ ρ[j]? = some a ∧ Rd H a u ∧ CR P w K mg ρ F a (peel c) u := by
  have hg' : c ≠ .gone := by
    intro z; subst z; exact hg rfl
  obtain ⟨a, o, e, h1, h2, h3, h4⟩ := r.at hv hs hg'
  cases c with
  | lk c =>
    rcases h4 with ⟨⟨ob, u, rfl, h⟩, hd⟩ | ⟨n, rfl, _⟩ | ⟨xs, vs, rfl, _⟩
    · have hp : peel (.lk c) = c := by
        cases c with
        | dk _ => rfl
        | dt _ => rfl
        | dv _ => rfl
        | _ => cases hd
      rw [hp]
      exact ⟨a, u, e, h1, .inr ⟨ob, h3⟩, h⟩
    · exact absurd rfl hg
    · exact absurd rfl hg
  | gone => exact absurd rfl hg
  | lst xs => exact ⟨a, o, e, h1, .inl h3, h4⟩
  | dk xs => exact ⟨a, o, e, h1, .inl h3, h4⟩
  | dt xs => exact ⟨a, o, e, h1, .inl h3, h4⟩
  | dv xs => exact ⟨a, o, e, h1, .inl h3, h4⟩
  | ins c xs => exact ⟨a, o, e, h1, .inl h3, h4⟩
/-- what a look into a dict finds -/
theorem look_ok (r : Rel P w K mg ρ S F H) {v u : V} {j : Nat} {c : Cl} {d : D} {o : Option Av} (hv : VR K ρ F v (.o j)) (hu : Dp K F u d) (hs : S[j]? = some c) (h : lookC (peel c) d = some o) :
    ∃ a o', v = .ref a ∧ GetX P w K H a u o' ∧ OV K ρ F o' o := by
  unfold lookC at h
  split at h
  · rename_i kvs e
    obtain ⟨a, ob, rfl, h1, h2, h3⟩ := r.rd hv hs (by rw [e]; exact fun z => nomatch z)
    rw [e] at h3
    obtain ⟨ks, rfl, h3⟩ := h3
    obtain ⟨k, e1, e2⟩ := Option.map_eq_some_iff.mp h
    subst e2
    refine ⟨a, valV ks k, rfl, .inl ⟨ks, k, h2, keyOf_V e1 hu, rfl⟩, ?_⟩
    exact h3.val k
  · rename_i kvs e
    obtain ⟨a, ob, rfl, h1, h2, h3⟩ := r.rd hv hs (by rw [e]; exact fun z => nomatch z)
    rw [e] at h3
    obtain ⟨ks, rfl, h3⟩ := h3
    obtain ⟨k, e1, e2⟩ := Option.map_eq_some_iff.mp h
    subst e2
    obtain ⟨b, rfl, hb⟩ := tkeyOf_V e1 hu
    refine ⟨a, valX ks k, rfl, .inr (.inl ⟨ks, k, b, h2, TR.ok r h3, rfl, ex_t r.fh hb, rfl⟩), ?_⟩
    exact TR.val h3 k
  · rename_i kvs e
    obtain ⟨a, ob, rfl, h1, h2, h3⟩ := r.rd hv hs (by rw [e]; exact fun z => nomatch z)
    rw [e] at h3
    obtain ⟨ks, rfl, h3⟩ := h3
    obtain ⟨k, e1, e2⟩ := Option.map_eq_some_iff.mp h
    subst e2
    refine ⟨a, valW ks k, rfl, .inr (.inr ⟨ks, k, h2, VTR.ok r h3, (vkOf_V e1 hu).up r.fh, rfl⟩), ?_⟩
    exact VTR.val h3 k
  · cases h
theorem os_Ix : OpS P wd K mg (rIxM P wd K) opIx := by
  intro ρ S F H hr v u x y hv hw z S' e Q q
  unfold opIx at e
  split at e
  · rename_i a b
    obtain ⟨r, e1, e2⟩ := Option.map_eq_some_iff.mp e
    cases e2
    exact .inl (.inl ⟨F, a, b, r, hr.fh, hv, hw, fIx_ok _ _ _ e1, fun u F2 H2 g hu => q ρ F2 H2 u (hr.gr g).2 (hr.gr g).1 hu⟩)
  · rename_i j d
    split at e
    · rename_i c hs
      obtain ⟨r, e1, e2⟩ := Option.map_eq_some_iff.mp e
      cases e2
      unfold getC at e1
      split at e1
      · rename_i xs ec
        split at e1
        · rename_i n
          obtain ⟨a, ob, rfl, h1, h2, h3⟩ := hr.rd hv hs (by rw [ec]; exact fun z => nomatch z)
          rw [ec] at h3
          obtain ⟨vs, rfl, h3⟩ := h3
          have hw : Dp K F u (.int n) := hw
          cases hw
          obtain ⟨y, ey, hy⟩ := vrs_at h3 e1
          exact .inl (.inr ⟨a, vs, n, y, rfl, rfl, .inl h2, ey, q ρ F H y Gw.refl hr hy⟩)
        · cases e1
      · rename_i kvs ec
        obtain ⟨k, e2, e3⟩ := Option.bind_eq_some_iff.mp e1
        obtain ⟨a, o', rfl, g, h⟩ := look_ok (d := d) (o := some z) hr hv hw hs (by rw [ec]; unfold lookC; rw [e2]; exact congrArg some e3)
        obtain ⟨y, rfl, hy⟩ := h
        exact .inr ⟨a, y, rfl, g, q ρ F H y Gw.refl hr hy⟩
      · rename_i kvs ec
        obtain ⟨k, e2, e3⟩ := Option.bind_eq_some_iff.mp e1
        obtain ⟨a, o', rfl, g, h⟩ := look_ok (d := d) (o := some z) hr hv hw hs (by rw [ec]; unfold lookC; rw [e2]; exact congrArg some e3)
        obtain ⟨y, rfl, hy⟩ := h
        exact .inr ⟨a, y, rfl, g, q ρ F H y Gw.refl hr hy⟩
      · rename_i kvs ec
        obtain ⟨k, e2, e3⟩ := Option.bind_eq_some_iff.mp e1
        obtain ⟨a, o', rfl, g, h⟩ := look_ok (d := d) (o := some z) hr hv hw hs (by rw [ec]; unfold lookC; rw [e2]; exact congrArg some e3)
        obtain ⟨y, rfl, hy⟩ := h
        exact .inr ⟨a, y, rfl, g, q ρ F H y Gw.refl hr hy⟩
      · cases e1
    · cases e
  · cases e
theorem scVs_dp : ∀ {ds : List D} {vs us : List V}, ds.mapM scV = some vs → DpAll K F us ds → us = vs
  | [], vs, us, h, hv => by cases hv; cases h; rfl
  | d :: ds, vs, us, h, hv => by
    obtain ⟨y, ys, ey, eys, rfl⟩ := mapM_cons_some h
    cases hv with
    | cons a b => rw [scV_inv ey a, scVs_dp eys b]
theorem inB_ok (hr : Rel P wd K mg ρ S F H) {v u : V} {y x : Av} (hv : VR K ρ F v y) (hu : VR K ρ F u x) {b : Bool} (e : inB S y x = some b) :
    (∃ dy dx, Dp K H v dy ∧ Dp K H u dx ∧ fIn dy dx = some b) ∨ (∃ p xs, u = .ref p ∧ SqT K H p xs ∧ flatV v = true ∧ xs.all flatV = true ∧ inV v xs = b) ∨ ∃ a o, u = .ref a ∧ GetX P wd K H a v o ∧ o.isSome = b := by
  unfold inB at e
  split at e
  · rename_i j
    split at e
    · split at e
      · rename_i da db e1 e2
        exact .inl ⟨da, db, dvn_ok hr _ _ _ _ e1 hv, dvn_ok hr _ _ _ _ e2 hu, e⟩
      · cases e
    · rename_i c _ hs
      split at e
      · rename_i d
        obtain ⟨o, e1, e2⟩ := Option.map_eq_some_iff.mp e
        obtain ⟨a, o', rfl, g, h⟩ := look_ok hr hu hv hs e1
        refine .inr (.inr ⟨a, o', rfl, g, ?_⟩)
        subst e2
        cases o with
        | none => rw [show o' = none from h]; rfl
        | some x => obtain ⟨y, rfl, _⟩ := h; rfl
      · cases e
    · cases e
  · rename_i ds
    split at e
    · rename_i d
      unfold inTup at e
      split at e
      · rename_i v0 vs e1 e2
        split at e
        · rename_i hf
          cases e
          have hu : Dp K F u (.tuple ds) := hu
          cases hu with
          | @tup a us _ s1 a1 =>
            have ev : v = v0 := scV_inv e1 hv
            have eu := scVs_dp e2 a1
            subst ev eu
            exact .inr (.inl ⟨a, us, rfl, ex_t hr.fh s1, hf.1, hf.2, rfl⟩)
        · cases e
      · cases e
    · cases e
  · split at e
    · rename_i da e1
      exact .inl ⟨da, _, dvn_ok hr _ _ _ _ e1 hv, Dp.up hu hr.fh, e⟩
    · cases e
theorem os_In : OpS P wd K mg (rInF P wd K) (opIn false) := by
  intro ρ S F H hr v u y x hv hu z S' e Q q
  obtain ⟨b, e1, e2⟩ := Option.map_eq_some_iff.mp e
  cases e2
  rcases inB_ok hr hv hu e1 with ⟨dy, dx, h1, h2, h3⟩ | ⟨p, xs, rfl, h1, h2, h3, h4⟩ | ⟨a, o, rfl, g, h⟩
  · exact .inl ⟨H, dy, dx, _, Ex.refl H, h1, h2, fIn_ok _ _ _ h3, fun u F2 H2 g hu => q ρ F H2 u (hr.grH g).2 (hr.grH g).1 (sc_up (d := .bool b) rfl hu)⟩
  · refine .inr (.inl ⟨p, xs, rfl, .inr h1, h2, h3, ?_⟩)
    exact q ρ F H _ Gw.refl hr (by rw [h4]; exact .bl b)
  · exact .inr (.inr ⟨a, o, rfl, g, q ρ F H _ Gw.refl hr (by rw [h]; exact .bl b)⟩)
theorem os_Nin : OpS P wd K mg (rNinF P wd K) (opIn true) := by
  intro ρ S F H hr v u y x hv hu z S' e Q q
  obtain ⟨b, e1, e2⟩ := Option.map_eq_some_iff.mp e
  cases e2
  rcases inB_ok hr hv hu e1 with ⟨dy, dx, h1, h2, h3⟩ | ⟨p, xs, rfl, h1, h2, h3, h4⟩ | ⟨a, o, rfl, g, h⟩
  · exact .inl ⟨H, dy, dx, _, Ex.refl H, h1, h2, fNin_ok _ _ _ h3, fun u F2 H2 g hu => q ρ F H2 u (hr.grH g).2 (hr.grH g).1 (sc_up (d := .bool (!b)) rfl hu)⟩
  · refine .inr (.inl ⟨p, xs, rfl, .inr h1, h2, h3, ?_⟩)
    exact q ρ F H _ Gw.refl hr (by rw [h4]; exact .bl (!b))
  · exact .inr (.inr ⟨a, o, rfl, g, q ρ F H _ Gw.refl hr (by rw [h]; exact .bl (!b))⟩)
theorem cs_Len : CallS P wd K mg (rLenM K) cbLen := by
  intro ρ S F H hr vs xs hv z S' e Q q
  unfold cbLen at e
  split at e
  · rename_i d
    obtain ⟨r, e1, e2⟩ := Option.map_eq_some_iff.mp e
    cases e2
    exact .inl ⟨F, [d], r, hr.fh, dps_of (ds := [d]) hv, fLen_ok _ _ e1, fun u F2 H2 g hu => q ρ F2 H2 u (hr.gr g).2 (hr.gr g).1 hu⟩
  · rename_i j
    split at e
    · rename_i c hs
      obtain ⟨n, e1, e2⟩ := Option.map_eq_some_iff.mp e
      cases e2
      cases hv with
      | @cons v _ us _ hv hn =>
        cases hn
        unfold lenC at e1
        split at e1
        · rename_i ys ec
          cases e1
          obtain ⟨a, ob, rfl, h1, h2, h3⟩ := hr.rd hv hs (by rw [ec]; exact fun z => nomatch z)
          rw [ec] at h3
          obtain ⟨vs, rfl, h3⟩ := h3
          exact .inr (.inl ⟨a, vs, rfl, .inl (.inl h2), q ρ F H _ Gw.refl hr (by rw [h3.len]; exact .int _)⟩)
        · rename_i kvs ec
          cases e1
          obtain ⟨a, ob, rfl, h1, h2, h3⟩ := hr.rd hv hs (by rw [ec]; exact fun z => nomatch z)
          rw [ec] at h3
          obtain ⟨ks, rfl, h3⟩ := h3
          exact .inr (.inr ⟨a, ks, rfl, h2, q ρ F H _ Gw.refl hr (by rw [Paired.length h3]; exact .int _)⟩)
        · cases e1
    · cases e
  · cases e
/-! dict methods -/
theorem isX_ty (hr : Rel P wd K mg ρ S F H) {v : V} {x : Av} (hv : VR K ρ F v x) (h : isX S x = true) : tyX P wd K v H := by
  unfold isX at h
  split at h
  · split at h
    · rename_i c hs
      split at h
      · rename_i kvs ec
        obtain ⟨a, ob, rfl, h1, h2, h3⟩ := hr.rd hv hs (by rw [ec]; exact fun z => nomatch z)
        rw [ec] at h3
        obtain ⟨ks, rfl, h3⟩ := h3
        exact ⟨a, rfl, .inl ⟨ks, h2⟩⟩
      · rename_i kvs ec
        obtain ⟨a, ob, rfl, h1, h2, h3⟩ := hr.rd hv hs (by rw [ec]; exact fun z => nomatch z)
        rw [ec] at h3
        obtain ⟨ks, rfl, h3⟩ := h3
        exact ⟨a, rfl, .inr (.inl ⟨ks, h2, TR.ok hr h3⟩)⟩
      · rename_i kvs ec
        obtain ⟨a, ob, rfl, h1, h2, h3⟩ := hr.rd hv hs (by rw [ec]; exact fun z => nomatch z)
        rw [ec] at h3
        obtain ⟨ks, rfl, h3⟩ := h3
        exact ⟨a, rfl, .inr (.inr ⟨ks, h2, VTR.ok hr h3⟩)⟩
      · cases h
    · cases h
  · cases h
theorem sm_bmX {rm : V → List V → Hp → VK → Prop} {f : Av → List Av → Op0} {te : TE} {ae : AE} {t : TA} {ag : AA} (hm : MtS P wd K mg rm f) (ha : SimE P wd K mg W te ae) (hg : SimA P wd K mg W t ag) : SimE P wd K mg W (tBMX P wd K rm te t) (aBMX f ae ag) := by
  intro σ σa ρ S F H hr hs rr S' h Q qo qe
  refine ha.bind hr hs h qe fun x S1 ρ1 F1 H1 v h g1 r1 v1 => ?_
  split at h
  · rename_i hl
    refine ⟨isX_ty r1 v1 hl, hg.bind r1 (hs.gw g1) h (ExQ.gw qe g1) fun xs S2 ρ2 F2 H2 vs h g2 r2 v2 => ?_⟩
    obtain ⟨z, hz, rfl⟩ := lf_inv h
    exact hm ρ2 S2 F2 H2 r2 v x vs xs (v1.gw g2) v2 z S' hz Q fun ρ3 F3 H3 u g3 r3 v3 => qo _ rfl ρ3 F3 H3 u ((g1.trans g2).trans g3) r3 v3
  · cases h
theorem vrs1 {vs : List V} {x : Av} (h : VRs K ρ F vs [x]) : ∃ v, vs = [v] ∧ VR K ρ F v x := by
  cases h with
  | cons a b => cases b; exact ⟨_, rfl, a⟩
theorem vrs2 {vs : List V} {x y : Av} (h : VRs K ρ F vs [x, y]) : ∃ v u, vs = [v, u] ∧ VR K ρ F v x ∧ VR K ρ F u y := by
  cases h with
  | cons a b =>
    obtain ⟨u, rfl, hu⟩ := vrs1 b
    exact ⟨_, u, rfl, a, hu⟩
theorem ms_get2 : MtS P wd K mg (rGet2 P wd K) bGet2 := by
  intro ρ S F H hr v x vs xs hv hvs z S' e Q q
  unfold bGet2 at e
  split at e
  · rename_i j k zz
    split at e
    · rename_i c hs
      obtain ⟨o, e1, e2⟩ := Option.map_eq_some_iff.mp e
      cases e2
      obtain ⟨u, t, rfl, hu, ht⟩ := vrs2 hvs
      obtain ⟨a, o', rfl, g, h⟩ := look_ok hr hv hu hs e1
      refine ⟨a, u, t, o', rfl, rfl, g, ?_⟩
      cases o with
      | none => rw [show o' = none from h]; exact q ρ F H _ Gw.refl hr ht
      | some x => obtain ⟨y, rfl, hy⟩ := h; exact q ρ F H _ Gw.refl hr hy
    · cases e
  · cases e
theorem ms_get1 : MtS P wd K mg (rGet1 P wd K) bGet1 := by
  intro ρ S F H hr v x vs xs hv hvs z S' e Q q
  unfold bGet1 at e
  split at e
  · rename_i j k
    split at e
    · rename_i c hs
      obtain ⟨o, e1, e2⟩ := Option.map_eq_some_iff.mp e
      cases e2
      obtain ⟨u, rfl, hu⟩ := vrs1 hvs
      obtain ⟨a, o', rfl, g, h⟩ := look_ok hr hv hu hs e1
      refine ⟨a, u, o', rfl, rfl, g, ?_⟩
      cases o with
      | none => rw [show o' = none from h]; exact q ρ F H _ Gw.refl hr .non
      | some x => obtain ⟨y, rfl, hy⟩ := h; exact q ρ F H _ Gw.refl hr hy
    · cases e
  · cases e
theorem Rel.atK (r : Rel P wd K mg ρ S F H) {v : V} {j : Nat} {kvs : List (Key × Av)} (hv : VR K ρ F v (.o j)) (hs : S[j]? = some (.dk kvs)) : ∃ a ks, v = .ref a ∧ ρ[j]? = some a ∧ H a = some (.dK ks) ∧ KR K ρ F ks kvs := by
  obtain ⟨a, o, e, h1, h2, h3, ks, rfl, h4⟩ := r.at hv hs (fun z => nomatch z)
  exact ⟨a, ks, e, h1, h3, h4⟩
theorem Rel.atT (r : Rel P wd K mg ρ S F H) {v : V} {j : Nat} {kvs : List (List Key × Av)} (hv : VR K ρ F v (.o j)) (hs : S[j]? = some (.dt kvs)) : ∃ a ks, v = .ref a ∧ ρ[j]? = some a ∧ H a = some (.ext (DXf P wd a ks)) ∧ TR K ρ F ks kvs := by
  obtain ⟨a, o, e, h1, h2, h3, ks, rfl, h4⟩ := r.at hv hs (fun z => nomatch z)
  exact ⟨a, ks, e, h1, h3, h4⟩
theorem Rel.atW (r : Rel P wd K mg ρ S F H) {v : V} {j : Nat} {kvs : List (Vd.Vk × Av)} (hv : VR K ρ F v (.o j)) (hs : S[j]? = some (.dv kvs)) : ∃ a ks, v = .ref a ∧ ρ[j]? = some a ∧ H a = some (.ext (DVf P wd a ks)) ∧ VTR K ρ F ks kvs := by
  obtain ⟨a, o, e, h1, h2, h3, ks, rfl, h4⟩ := r.at hv hs (fun z => nomatch z)
  exact ⟨a, ks, e, h1, h3, h4⟩
theorem putC_dv (kvs : List (Vd.Vk × Av)) (d : D) (v : Av) : putC (.dv kvs) d v = if kvs.length < 100000 then (vkOf d).map fun k => .dv (putA kvs k v) else none := rfl
theorem putC_dk (kvs : List (Key × Av)) (d : D) (v : Av) : putC (.dk kvs) d v = if kvs.length < 100000 then (keyOf d).map fun k => .dk (putA kvs k v) else none := rfl
theorem putC_dt (kvs : List (List Key × Av)) (d : D) (v : Av) : putC (.dt kvs) d v = if kvs.length < 100000 then (tkeyOf d).map fun k => .dt (putA kvs k v) else none := rfl
theorem ms_setd : MtS P wd K mg (rSetd P wd K) bSetd := by
  intro ρ S F H hr v x vs xs hv hvs z S' e Q q
  unfold bSetd at e
  split at e
  · rename_i j k zz
    split at e
    · rename_i c hs
      split at e
      · rename_i hd
        obtain ⟨u, t, rfl, hu, ht⟩ := vrs2 hvs
        cases c with
        | dk kvs =>
          obtain ⟨a, ks, rfl, h1, h2, h3⟩ := hr.atK hv hs
          cases ek : keyOf k with
          | none => simp [lookC, ek] at e
          | some kk =>
            have hval := h3.val kk
            refine ⟨a, u, t, rfl, rfl, .inl ⟨ks, kk, h2, keyOf_V ek hu, ?_, fun y hy => ?_, fun hn => ?_⟩⟩
            · have hl : kvs.length < 100000 := by
                refine Classical.byContradiction fun hl => ?_
                have hp : putC (.dk kvs) k zz = none := by show (if kvs.length < 100000 then _ else none) = none; rw [if_neg hl]
                rw [hp] at e
                simp only [lookC, ek, Option.map_some] at e
                split at e <;> cases e
              rw [Paired.length h3]; exact sz_lt hl
            · cases q0 : valA kvs kk with
              | none => rw [q0] at hval; have hval : valV ks kk = none := hval; rw [hval] at hy; cases hy
              | some x0 =>
                rw [q0] at hval
                obtain ⟨y', e1, hy'⟩ := hval
                rw [e1] at hy; cases hy
                simp only [lookC, ek, Option.map_some, q0] at e
                split at e
                · cases e; exact q ρ F H _ Gw.refl hr hy'
                · cases e
            · cases q0 : valA kvs kk with
              | some x0 => rw [q0] at hval; obtain ⟨y', e1, _⟩ := hval; rw [e1] at hn; cases hn
              | none =>
                simp only [lookC, ek, Option.map_some, q0] at e
                obtain ⟨c', e1, e2⟩ := Option.map_eq_some_iff.mp e
                cases e2
                rw [putC_dk] at e1
                split at e1
                · rw [ek] at e1
                  cases e1
                  obtain ⟨r2, g2⟩ := hr.set (o := .dK (putK ks kk t)) (c := .dk (putA kvs kk _)) h1 hs (fun z => nomatch z) ⟨_, rfl, h3.put kk ht⟩
                  exact q _ _ _ _ g2 r2 ht
                · cases e1
        | dt kvs =>
          obtain ⟨a, ks, rfl, h1, h2, h3⟩ := hr.atT hv hs
          cases ek : tkeyOf k with
          | none => simp [lookC, ek] at e
          | some kk =>
            have hval := TR.val h3 kk
            obtain ⟨b, rfl, hb⟩ := tkeyOf_V ek hu
            refine ⟨a, .ref b, t, rfl, rfl, .inr (.inl ⟨ks, kk, b, h2, TR.ok hr h3, rfl, ex_t hr.fh hb, ?_, fun y hy => ?_, fun hn => ?_⟩)⟩
            · have hl : kvs.length < 100000 := by
                refine Classical.byContradiction fun hl => ?_
                have hp : putC (.dt kvs) k zz = none := by show (if kvs.length < 100000 then _ else none) = none; rw [if_neg hl]
                rw [hp] at e
                simp only [lookC, ek, Option.map_some] at e
                split at e <;> cases e
              rw [TR.len h3]; exact sz_lt hl
            · cases q0 : valA kvs kk with
              | none => rw [q0] at hval; have hval : valX ks kk = none := hval; rw [hval] at hy; cases hy
              | some x0 =>
                rw [q0] at hval
                obtain ⟨y', e1, hy'⟩ := hval
                rw [e1] at hy; cases hy
                simp only [lookC, ek, Option.map_some, q0] at e
                split at e
                · cases e; exact q ρ F H _ Gw.refl hr hy'
                · cases e
            · cases q0 : valA kvs kk with
              | some x0 => rw [q0] at hval; obtain ⟨y', e1, _⟩ := hval; rw [e1] at hn; cases hn
              | none =>
                simp only [lookC, ek, Option.map_some, q0] at e
                obtain ⟨c', e1, e2⟩ := Option.map_eq_some_iff.mp e
                cases e2
                rw [putC_dt] at e1
                split at e1
                · rw [ek] at e1
                  cases e1
                  obtain ⟨r2, g2⟩ := hr.set (o := .ext (DXf P wd a (putX ks kk b t))) (c := .dt (putA kvs kk _)) h1 hs (fun z => nomatch z) ⟨_, rfl, TR.put h3 kk hb ht⟩
                  exact q _ _ _ _ g2 r2 ht
                · cases e1
        | dv kvs =>
          obtain ⟨a, ks, rfl, h1, h2, h3⟩ := hr.atW hv hs
          cases ek : vkOf k with
          | none => simp [lookC, ek] at e
          | some kk =>
            have hval := VTR.val h3 kk
            have ky := vkOf_V ek hu
            refine ⟨a, u, t, rfl, rfl, .inr (.inr ⟨ks, kk, h2, VTR.ok hr h3, ky.up hr.fh, ?_, fun y hy => ?_, fun hn => ?_⟩)⟩
            · have hl : kvs.length < 100000 := by
                refine Classical.byContradiction fun hl => ?_
                have hp : putC (.dv kvs) k zz = none := by show (if kvs.length < 100000 then _ else none) = none; rw [if_neg hl]
                rw [hp] at e
                simp only [lookC, ek, Option.map_some] at e
                split at e <;> cases e
              rw [VTR.len h3]; exact sz_lt hl
            · cases q0 : valA kvs kk with
              | none => rw [q0] at hval; have hval : valW ks kk = none := hval; rw [hval] at hy; cases hy
              | some x0 =>
                rw [q0] at hval
                obtain ⟨y', e1, hy'⟩ := hval
                rw [e1] at hy; cases hy
                simp only [lookC, ek, Option.map_some, q0] at e
                split at e
                · cases e; exact q ρ F H _ Gw.refl hr hy'
                · cases e
            · cases q0 : valA kvs kk with
              | some x0 => rw [q0] at hval; obtain ⟨y', e1, _⟩ := hval; rw [e1] at hn; cases hn
              | none =>
                simp only [lookC, ek, Option.map_some, q0] at e
                obtain ⟨c', e1, e2⟩ := Option.map_eq_some_iff.mp e
                cases e2
                rw [putC_dv] at e1
                split at e1
                · rw [ek] at e1
                  cases e1
                  obtain ⟨r2, g2⟩ := hr.set (o := .ext (DVf P wd a (putW ks kk u t))) (c := .dv (putA kvs kk _)) h1 hs (fun z => nomatch z) ⟨_, rfl, VTR.put h3 kk ky ht⟩
                  exact q _ _ _ _ g2 r2 ht
                · cases e1
        | _ => cases hd
      · cases e
    · cases e
  · cases e
theorem ms_popX : MtS P wd K mg (rPopX P wd K) bPop := by
  intro ρ S F H hr v x vs xs hv hvs z S' e Q q
  unfold bPop at e
  split at e
  · rename_i j k
    split at e
    · rename_i c hs
      split at e
      · rename_i hd
        obtain ⟨u, rfl, hu⟩ := vrs1 hvs
        cases c with
        | dk kvs =>
          obtain ⟨a, ks, rfl, h1, h2, h3⟩ := hr.atK hv hs
          cases ek : keyOf k with
          | none => simp [lookC, ek] at e
          | some kk =>
            have hval := h3.val kk
            cases q0 : valA kvs kk with
            | none => simp [lookC, ek, q0] at e
            | some x0 =>
              rw [q0] at hval
              obtain ⟨y', e1, hy'⟩ := hval
              simp only [lookC, ek, Option.map_some, q0, dropC] at e
              cases e
              obtain ⟨r2, g2⟩ := hr.set (o := .dK (dropK ks kk)) (c := .dk (dropA kvs kk)) h1 hs (fun z => nomatch z) ⟨_, rfl, h3.drop kk⟩
              exact ⟨a, u, y', rfl, rfl, .inl ⟨ks, kk, h2, keyOf_V ek hu, e1, q _ _ _ _ g2 r2 hy'⟩⟩
        | dt kvs =>
          obtain ⟨a, ks, rfl, h1, h2, h3⟩ := hr.atT hv hs
          cases ek : tkeyOf k with
          | none => simp [lookC, ek] at e
          | some kk =>
            have hval := TR.val h3 kk
            obtain ⟨b, rfl, hb⟩ := tkeyOf_V ek hu
            cases q0 : valA kvs kk with
            | none => simp [lookC, ek, q0] at e
            | some x0 =>
              rw [q0] at hval
              obtain ⟨y', e1, hy'⟩ := hval
              simp only [lookC, ek, Option.map_some, q0, dropC] at e
              cases e
              obtain ⟨r2, g2⟩ := hr.set (o := .ext (DXf P wd a (dropX ks kk))) (c := .dt (dropA kvs kk)) h1 hs (fun z => nomatch z) ⟨_, rfl, TR.drop h3 kk⟩
              exact ⟨a, .ref b, y', rfl, rfl, .inr ⟨ks, kk, b, h2, TR.ok hr h3, rfl, ex_t hr.fh hb, e1, q _ _ _ _ g2 r2 hy'⟩⟩
        | dv kvs =>
          exfalso
          cases ek : vkOf k with
          | none => simp [lookC, ek] at e
          | some kk =>
            cases q0 : valA kvs kk with
            | none => simp [lookC, ek, q0] at e
            | some x0 => simp [lookC, ek, q0, dropC] at e
        | _ => cases hd
      · cases e
    · cases e
  · cases e
/-! stores -/
theorem ss_M : StS P wd K mg (rSetM P wd K) stM := by
  intro ρ S F H hr o i v x y z ho hi hv S' e Q q
  unfold stM at e
  split at e
  · rename_i j d
    split at e
    · rename_i c hs
      obtain ⟨c', e1, rfl⟩ := Option.map_eq_some_iff.mp e
      have hi : Dp K F i d := hi
      unfold putC at e1
      split at e1
      · rename_i kvs
        split at e1
        · rename_i hl
          obtain ⟨k, ek, rfl⟩ := Option.map_eq_some_iff.mp e1
          obtain ⟨a, ks, rfl, h1, h2, h3⟩ := hr.atK ho hs
          obtain ⟨r2, g2⟩ := hr.set (o := .dK (putK ks k v)) (c := .dk (putA kvs k z)) h1 hs (fun z => nomatch z) ⟨_, rfl, h3.put k hv⟩
          exact .inr ⟨a, _, rfl, .inl ⟨ks, k, h2, keyOf_V ek hi, by rw [Paired.length h3]; exact sz_lt hl, rfl⟩, q _ _ _ g2 r2⟩
        · cases e1
      · rename_i kvs
        split at e1
        · rename_i hl
          obtain ⟨k, ek, rfl⟩ := Option.map_eq_some_iff.mp e1
          obtain ⟨a, ks, rfl, h1, h2, h3⟩ := hr.atT ho hs
          obtain ⟨b, rfl, hb⟩ := tkeyOf_V ek hi
          obtain ⟨r2, g2⟩ := hr.set (o := .ext (DXf P wd a (putX ks k b v))) (c := .dt (putA kvs k z)) h1 hs (fun z => nomatch z) ⟨_, rfl, TR.put h3 k hb hv⟩
          exact .inr ⟨a, _, rfl, .inr (.inl ⟨ks, k, b, h2, TR.ok hr h3, rfl, ex_t hr.fh hb, by rw [TR.len h3]; exact sz_lt hl, rfl⟩), q _ _ _ g2 r2⟩
        · cases e1
      · rename_i kvs
        split at e1
        · rename_i hl
          obtain ⟨k, ek, rfl⟩ := Option.map_eq_some_iff.mp e1
          obtain ⟨a, ks, rfl, h1, h2, h3⟩ := hr.atW ho hs
          have ky := vkOf_V ek hi
          obtain ⟨r2, g2⟩ := hr.set (o := .ext (DVf P wd a (putW ks k i v))) (c := .dv (putA kvs k z)) h1 hs (fun z => nomatch z) ⟨_, rfl, VTR.put h3 k ky hv⟩
          exact .inr ⟨a, _, rfl, .inr (.inr ⟨ks, k, h2, VTR.ok hr h3, ky.up hr.fh, by rw [VTR.len h3]; exact sz_lt hl, rfl⟩), q _ _ _ g2 r2⟩
        · cases e1
      · rename_i xs
        cases d with
        | int n =>
          obtain ⟨m, en, rfl⟩ := Option.map_eq_some_iff.mp (show (ixN xs.length n).map (fun j => Cl.lst (xs.set j z)) = some _ from e1)
          obtain ⟨a, vs, rfl, h1, h2, h3, h4⟩ := hr.atL ho hs
          obtain rfl : i = V.int n := by cases hi; rfl
          obtain ⟨r2, g2⟩ := hr.set (o := .lst (vs.set m v)) (c := .lst (xs.set m z)) h1 hs (fun z => nomatch z) ⟨_, rfl, vrs_set h4 hv m⟩
          exact .inl ⟨a, vs, n, m, rfl, rfl, h3, by rw [h4.len]; exact en, q _ _ _ g2 r2⟩
        | _ => cases e1
      · cases e1
    · cases e
  · cases e
theorem sm_dnewK : SimE P wd K mg W tDNewK aDNewK := by
  intro σ σa ρ S F H hr hs rr S' h Q qo qe
  cases h
  intro p hp
  obtain ⟨r2, g2⟩ := hr.new (c := .dk []) (o := .dK []) hp ⟨[], rfl, .nil⟩
  exact qo _ rfl _ _ _ (.ref p) g2 r2 ⟨p, by rw [← hr.len]; exact get_new, rfl⟩
theorem sm_dnewV : SimE P wd K mg W (tDNewV P wd) aDNewV := by
  intro σ σa ρ S F H hr hs rr S' h Q qo qe
  cases h
  intro p hp
  obtain ⟨r2, g2⟩ := hr.new (c := .dv []) (o := .ext (DVf P wd p [])) hp ⟨[], rfl, .nil⟩
  exact qo _ rfl _ _ _ (.ref p) g2 r2 ⟨p, by rw [← hr.len]; exact get_new, rfl⟩
theorem sm_dnewX : SimE P wd K mg W (tDNewX P wd) aDNewX := by
  intro σ σa ρ S F H hr hs rr S' h Q qo qe
  cases h
  intro p hp
  obtain ⟨r2, g2⟩ := hr.new (c := .dt []) (o := .ext (DXf P wd p [])) hp ⟨[], rfl, .nil⟩
  exact qo _ rfl _ _ _ (.ref p) g2 r2 ⟨p, by rw [← hr.len]; exact get_new, rfl⟩
end
end Ly
/-! LyV: instances, methods, new instances, exceptions, try, xs[i] op= e. -/
namespace Ly
open PySem L2 Evl PyProof.Rows
/-! ### mirrors -/
def putFA (f : Str) (v : Av) : List (Str × Av) → List (Str × Av)
  | [] => [(f, v)]
  | (g, x) :: r => if g = f then (g, v) :: r else (g, x) :: putFA f v r
def aFld (cs : List Str) (f : Str) (a : AE) : AE := fun σ => bnd (a σ) fun x S => match x with
  | .o j => match S[j]? with
    | some (.ins c fs) => if c ∈ cs then (fs.lookup f).map fun v => (.ok v, S) else none
    | _ => none
  | _ => none
def aSetF (cs : List Str) (f : Str) (o a : AE) : AS := fun σ => stb (a σ) σ fun y => stb (o σ) σ fun x S => match x with
  | .o j => match S[j]? with
    | some (.ins c fs) => if c ∈ cs ∧ fs.length < 900 then some (.nx, σ, S.set j (.ins c (putFA f y fs))) else none
    | _ => none
  | _ => none
def aMeth (c m : Str) (f : AF) (a : AE) (t : AA) : AE := fun σ => bnd (a σ) fun x S => match x with
  | .o j => match S[j]? with
    | some (.ins c' fs) => if c' = c ∧ fs.lookup m = none then bnd (t σ) (fun xs => f (.o j :: xs)) S else none
    | _ => none
  | _ => none
def aMake (c : Str) (f : AF) (t : AA) : AE := fun σ => bnd (t σ) fun xs S => match f (.o S.length :: xs) (S ++ [.ins c []]) with
  | some (.ok (.d .none), S') => some (.ok (.o S.length), S')
  | some (.ex e, S') => some (.ex e, S')
  | _ => none
def aRaise (c : Str) : AS := fun σ S => some (.ex ⟨c, none⟩, σ, S)
/-- try .. except C: .. (several) -/
def aTry (all : List Str) (sub : Str → Str → Bool) (b : AS) (hs : List (Str × AS)) : AS := fun σ S => match b σ S with
  | some (.ex e, σ1, S1) => if e.cls ∈ all then (match hs.find? fun h => sub e.cls h.1 with
      | some h => h.2 σ1 S1
      | none => some (.ex e, σ1, S1)) else none
  | r => r
/-! ### rules with what is raised at the slots -/
def tMethS (C : Addr) (m : Str) (sp : Sp) (E : L2.St → XK) (ta : TE) (t : TA) : TE := fun σ H Q => ta σ H fun x H1 => ∃ a dx fs, x = .ref a ∧ H1 a = some (.ins C dx fs) ∧ fs.lookup m = none ∧ t σ H1 fun vs H2 => sp (x :: vs) H2 Q (E σ)
def tMakeS (C : Addr) (sp : Sp) (E : L2.St → XK) (t : TA) : TE := fun σ H Q => t σ H fun vs H1 => ∀ x dx, H1 x = none → H1 dx = none → dx ≠ x →
  sp (.ref x :: vs) (upd (upd H1 dx (.own x)) x (.ins C dx [])) (fun v H2 => v = .non ∧ Q (.ref x) H2) (E σ)
/-- a method stands in its class -/
structure DfM (K : Fg) (mg : Str → Option Value) (c m q : Str) (st : Stmt) (ps : List Str) : Prop where
  ex : ∃ f fd, Fun K m q st f fd ∧ Meth K (clsA mg c) m f ∧ Cls K (clsA mg c) ∧ ∀ us : List Value, us.length = ps.length → bindArgs fd ⟨us, []⟩ = pure (ps.zip us)
structure DkM (P : Program) (w : World) (K : Fg) (mg : Str → Option Value) (base : Heap) (k : Nat) (c m : Str) (ps : List Str) (f : AF) : Prop where
  ex : ∃ a fd, Meth K (clsA mg c) m a ∧ Cls K (clsA mg c) ∧ FnOk P w K mg base (L2N.CX P w) k a fd ps (spA P w K mg f) ∧ Binds K fd ps []
/-- a class whose instances are made by its __init__ -/
structure ClM (K : Fg) (mg : Str → Option Value) (c : Str) : Prop where
  at_ : mg c = some (.ref (clsA mg c))
  makes : PySem.W.makesIn K (clsA mg c) = true
  kp : PySem.W.keepIn K (.ref (clsA mg c)) = true
/-- an exception class of one's own -/
structure ExM (K : Fg) (mg : Str → Option Value) (c : Str) (bm : List Value) : Prop where
  at_ : mg c = some (.ref (clsA mg c))
  ex : PySem.W.excIn K (clsA mg c) bm "ValueError.__new__" = true
  kp : PySem.W.keepIn K (.ref (clsA mg c)) = true
  sb : PySem.W.subIn K (.ref (clsA mg c)) (.type "BaseException") = some true
  ty : PySem.W.typeIn K (.ref (clsA mg c)) = some (.type "type")
section
variable {P : Program} {w wd : World} {K : Fg} {mg : Str → Option Value} {base : Heap} {W : WX} {ρ : List Addr} {S S' : Sg} {F H : Hp} {σ : L2.St} {σa σa' : Sl} {X : Cx} {k : Nat} {c m q : Str} {st : Stmt} {N ps : List Str}
theorem DfM.dkM {np n : Nat} {as : AS} (D0 : DfM K mg c m q st ps) (S0 : FnScope N ps (defScope st)) (hb : ∀ (f : Addr) (cdv : Value) (A : Around) (outer : List Env) (s : Shared) (H : Hp) (E : XK), Room k (A.deeper (envOfC q (defScope st) s.heap.objs.size f cdv)) →
      ∃ t, PSs (cxOf (L2N.CX P w) P w K mg base N q (defScope st) f cdv A outer s H E) (defBody st) t ∧ SimS P w K mg (WOf E) t as) (h1 : np = ps.length := by rfl) (h2 : n = N.length := by rfl) (h3 : ps.length ≤ N.length := by decide) : DkM P w K mg base (k + 1) c m ps (aDef np n as) := by
  subst h1 h2
  obtain ⟨f, fd, Fn, hm, hc, b⟩ := D0.ex
  refine ⟨f, fd, hm, hc, fun_okN Fn S0 (fun vs H Q E ⟨ρ, S, F, xs, r, S', hr, hv, hf, _, _⟩ => by rw [hv.len]; exact (aDef_inv hf).1) fun cdv A outer s H vs Q E hr h => ?_, .all b⟩
  obtain ⟨t, p1, p2⟩ := hb f cdv A outer s H E hr
  refine ⟨t, p1, ?_⟩
  obtain ⟨ρ, S, F, xs, r, S', hR, hv, hf, q1, q2⟩ := h
  obtain ⟨hl, fl, σ', e1, e2⟩ := aDef_inv hf
  rw [← hl] at e1
  refine p2 _ _ ρ S F H hR (start_SR hv (by rw [hl]; exact h3)) _ _ _ e1 _ ?_
  rcases e2 with ⟨x, rfl, rfl⟩ | ⟨rfl, rfl⟩ | ⟨e, rfl, rfl⟩
  · exact fun ρ' F' H' v g r' v' => q1 _ rfl ρ' F' H' v g r' v'
  · exact fun ρ' F' H' σ2 g r' s' => q1 _ rfl ρ' F' H' .non g r' .non
  · exact fun ρ' F' H' σ2 c d g r' s' x' => q2 _ rfl ρ' F' H' c d g r' x'
theorem DkM.mono {f : AF} {j : Nat} (h : DkM P w K mg base k c m ps f) (hj : k ≤ j) : DkM P w K mg base j c m ps f := by
  obtain ⟨a, fd, h1, h2, h3, h4⟩ := h.ex
  exact ⟨a, fd, h1, h2, h3.mono hj, h4⟩
theorem DfM.dkM0 (D0 : DfM K mg c m q st ps) : DkM P w K mg base k c m ps (fun _ => stuck) := by
  obtain ⟨f, fd, F, hm, hc, b⟩ := D0.ex
  exact ⟨f, fd, hm, hc, ⟨fun vs H Q E ⟨ρ, S, F, xs, r, S', a1, a2, a3, _⟩ => (by cases a3), fun A outer s H args us vs Q E hr he hb hv ⟨ρ, S, F, xs, r, S', a1, a2, a3, _⟩ => (by cases a3)⟩, .all b⟩
theorem mtA {f : AF} {pos apos : Pos} {o e : Expr} {es : List Expr} {ta : TE} {t : TA} {j : Nat} {pl : Sem Bool} (h : DkM P w K mg base k c m ps f) (hr : Room j X.A) (tk : L2N.Takes X W) (ho : PE X o ta) (ha : PA X (e :: es) t) (hj : k ≤ j := by first | decide | omega)
    (hP : X.prog = P := by rfl) (hw : X.w = w := by rfl) (hK : X.K = K := by rfl) (hm : X.mg = mg := by rfl) (hB : X.base = base := by rfl)
    (hst : starEach (e :: es) X.env = (false, eval e X.env) :: starEach es X.env := by rfl) (hpl : (backTo pos (starEach es X.env)).any (·.1) = false := by rfl)
    (ht : eval (.Call (.Attribute o m apos) (e :: es) [] pos) X.env = (do
      let ov ← eval o X.env
      standAt apos.atName
      let (f, first) ← holding [ov] (getMethod ov m pl)
      callWith pos f first (backTo pos (starEach (e :: es) X.env)) (backToKw pos (keywordEach [] X.env))) := by rfl) :
    PE X (.Call (.Attribute o m apos) (e :: es) [] pos) (tMethS (clsA mg c) m (spA P w K mg f) (WE W) ta t) := by
  subst hP hw hK hm hB
  obtain ⟨a, fd, h1, h2, h3, h4⟩ := h.ex
  refine ⟨fun pins s σ H Q I h => ?_⟩
  refine PySem.W.methodCall_KW (pl := pl) (thn (ho.run pins s σ H _ I h) fun u s1 ⟨x, H1, I1, rx, a, dx, fs, ex, ea, l, q⟩ => ?_) ht
  subst ex
  obtain rfl : u = Value.ref a := rx
  refine getmeth_ok I1 ea h2 h1 l ?_
  refine PySem.W.callWith_K (first := [.ref a]) (h₀ := X.base) I.ok.mod.kin h1.kp (thn (ha.run pos pins s1 σ H1 _ I1 q) fun us s2 ⟨vs, H2, I2, r, q2⟩ => ⟨I2.kIn, ?_⟩) hst hpl
  exact run_fnS (us := .ref a :: us) (vs := .ref a :: vs) h3 (hr.mono hj) h4 (L2N.passAt tk σ) I2 (.cons rfl r) q2
theorem mtA0 {f : AF} {pos apos : Pos} {o : Expr} {ta : TE} {j : Nat} {pl : Sem Bool} (h : DkM P w K mg base k c m ps f) (hr : Room j X.A) (tk : L2N.Takes X W) (ho : PE X o ta) (hj : k ≤ j := by first | decide | omega)
    (hP : X.prog = P := by rfl) (hw : X.w = w := by rfl) (hK : X.K = K := by rfl) (hm : X.mg = mg := by rfl) (hB : X.base = base := by rfl)
    (ht : eval (.Call (.Attribute o m apos) [] [] pos) X.env = (do
      let ov ← eval o X.env
      standAt apos.atName
      let (f, first) ← holding [ov] (getMethod ov m pl)
      callWith pos f first (backTo pos (starEach [] X.env)) (backToKw pos (keywordEach [] X.env))) := by rfl) :
    PE X (.Call (.Attribute o m apos) [] [] pos) (tMethS (clsA mg c) m (spA P w K mg f) (WE W) ta tNil) := by
  subst hP hw hK hm hB
  obtain ⟨a, fd, h1, h2, h3, h4⟩ := h.ex
  refine ⟨fun pins s σ H Q I h => ?_⟩
  refine PySem.W.methodCall_KW (pl := pl) (thn (ho.run pins s σ H _ I h) fun u s1 ⟨x, H1, I1, rx, a, dx, fs, ex, ea, l, q⟩ => ?_) ht
  subst ex
  obtain rfl : u = Value.ref a := rx
  refine getmeth_ok I1 ea h2 h1 l ?_
  refine PySem.W.callWith_K0 (first := [.ref a]) I1.kIn h1.kp ?_
  exact run_fnS (us := [.ref a]) (vs := [.ref a]) h3 (hr.mono hj) h4 (L2N.passAt tk σ) I1 (.cons rfl .nil) q
theorem run_makeS {C f : Addr} {fd : FuncData} {sp : Sp} {E : L2.St → XK} {pins : List (Addr × Obj)} {σ : L2.St} {H : Hp} {s : Shared} {Q : VK} {us : List Value} {vs : List V} (M : Mk X.K C f) (F : FnOk X.prog X.w X.K X.mg X.base (L2N.CX X.prog X.w) k f fd ps sp) (hr : Room (k + 1) X.A) (hb : Binds X.K fd ps [])
    (hx : PassesAt (L2N.CX X.prog X.w) X σ (E σ)) (I : Inv X pins σ H s) (r : Vals vs us)
    (h : ∀ x dx, H x = none → H dx = none → dx ≠ x → sp (.ref x :: vs) (upd (upd H dx (.own x)) x (.ins C dx [])) (fun v H2 => v = .non ∧ Q (.ref x) H2) (E σ)) :
    wpAny (model X.prog X.w) X.A (call (.ref C) us) (EP X pins σ Q) X.xe s := by
  have hq := h (s.heap.objs.size + 1) s.heap.objs.size (I.hok.fresh (Nat.le_succ _)) (I.hok.fresh (Nat.le_refl _)) (Nat.ne_of_lt (Nat.lt_succ_self _))
  have I2 := Inv.made (C := C) I
  have r2 : Vals (V.ref (s.heap.objs.size + 1) :: vs) (Value.ref (s.heap.objs.size + 1) :: us) := .cons rfl r
  have hl : (Value.ref (s.heap.objs.size + 1) :: us).length = ps.length := by
    have e := r2.length
    rw [F.len _ _ _ _ hq] at e
    exact e.symm
  have b := hb _ (Value.ref (s.heap.objs.size + 1) :: us) I2.kIn (by rw [List.append_nil]; exact hl)
  rw [List.append_nil] at b
  refine wpAny_call (make_map (f := f) I.kIn M.makes M.init (beq_iff_eq.mp M.fn) (codeAny_mono (F.run _ X.stack _ _ ⟨Value.ref (s.heap.objs.size + 1) :: us, []⟩ (Value.ref (s.heap.objs.size + 1) :: us) _ _ (E σ) (hr.make C us [])
    (I2.env0.make C us []) b r2 hq) fun r s' hq' => ?_))
  cases r with
  | error e => exact hx pins _ _ e s' I2 hq'
  | ok fl =>
    cases fl with
    | ret u =>
      obtain ⟨v, H', I3, rv, ev, q3⟩ := I2.after hq'
      subst ev
      exact ⟨rv, ⟨V.ref (s.heap.objs.size + 1), H', I3, rfl, q3⟩⟩
    | next => exact False.elim hq'
    | brk => exact False.elim hq'
    | cont => exact False.elim hq'
theorem mkA {f : AF} {p pos : Pos} {e : Expr} {es : List Expr} {t : TA} {j : Nat} (h : DkM P w K mg base k c "__init__" ps f) (cm : ClM K mg c) (hr : Room j X.A) (tk : L2N.Takes X W) (ha : PA X (e :: es) t) (hj : k + 1 ≤ j := by first | decide | omega) (hg : Gl X c := by rfl)
    (hP : X.prog = P := by rfl) (hw : X.w = w := by rfl) (hK : X.K = K := by rfl) (hm : X.mg = mg := by rfl) (hB : X.base = base := by rfl)
    (hdb : (c == ("__debug__" : Str)) = false := by decide) (he : starEach (e :: es) X.env = (false, eval e X.env) :: starEach es X.env := by rfl) (hpl : (backTo pos (starEach es X.env)).any (·.1) = false := by rfl) :
    PE X (.Call (.Name c p) (e :: es) [] pos) (tMakeS (clsA mg c) (spA P w K mg f) (WE W) t) := by
  subst hP hw hK hm hB
  obtain ⟨a, fd, h1, h2, h3, h4⟩ := h.ex
  refine ⟨fun pins s σ H Q I h => ?_⟩
  refine wpAny_Call_Name_kw (ld_glob I hg cm.at_ ?_ hdb)
  refine PySem.W.callWith_K (h₀ := X.base) I.ok.mod.kin cm.kp (thn (ha.run pos pins s σ H _ I h) fun us s1 ⟨vs, H1, I1, r, q⟩ => ⟨I1.kIn, ?_⟩) he hpl
  exact run_makeS (E := WE W) ⟨cm.makes, h1.at_, h1.fn, cm.kp⟩ h3 (hr.mono hj) h4 (L2N.passAt tk σ) I1 r q
/-! ### soundness -/
theorem lookup_KR {ks : List (Str × V)} {fs : List (Str × Av)} (h : KR K ρ F ks fs) (f : Str) : OV K ρ F (ks.lookup f) (fs.lookup f) := by
  induction h with
  | nil => rfl
  | @cons p q ps qs a _ ih =>
    obtain ⟨g, v⟩ := p
    obtain ⟨g', x⟩ := q
    obtain ⟨e, hv⟩ := a
    cases e
    rw [List.lookup_cons, List.lookup_cons]
    cases (f == g) with
    | true => exact ⟨v, rfl, hv⟩
    | false => exact ih
theorem putF_KR {ks : List (Str × V)} {fs : List (Str × Av)} (h : KR K ρ F ks fs) (f : Str) {v : V} {x : Av} (hv : VR K ρ F v x) : KR K ρ F (putF f v ks) (putFA f x fs) := by
  induction h with
  | nil => exact .cons ⟨rfl, hv⟩ .nil
  | @cons p q ps qs a b ih =>
    obtain ⟨g, u⟩ := p
    obtain ⟨g', y⟩ := q
    obtain ⟨e, hu⟩ := a
    cases e
    unfold putF putFA
    by_cases e : g = f
    · rw [if_pos e, if_pos e]; exact .cons ⟨rfl, hv⟩ b
    · rw [if_neg e, if_neg e]; exact .cons ⟨rfl, hu⟩ ih
theorem Rel.atI (r : Rel P wd K mg ρ S F H) {v : V} {j : Nat} {c : Str} {fs : List (Str × Av)} (hv : VR K ρ F v (.o j)) (hs : S[j]? = some (.ins c fs)) : ∃ a dx gs, v = .ref a ∧ ρ[j]? = some a ∧ H a = some (.ins (clsA mg c) dx gs) ∧ KR K ρ F gs fs := by
  obtain ⟨a, o, e, h1, h2, h3, dx, gs, rfl, h4⟩ := r.at hv hs (fun z => nomatch z)
  exact ⟨a, dx, gs, e, h1, h3, h4⟩
def CA (K : Fg) (mg : Str → Option Value) (cs : List Str) (f : Str) : Prop := ∀ c ∈ cs, Cls K (clsA mg c) ∧ NoAttr K (clsA mg c) f
theorem sm_fld {cs : List Str} {f : Str} {te : TE} {ae : AE} (hc : CA K mg cs f) (ha : SimE P wd K mg W te ae) : SimE P wd K mg W (tFld K te f) (aFld cs f ae) := by
  intro σ σa ρ S F H hr hs rr S' h Q qo qe
  refine ha.bind hr hs h qe fun x S1 ρ1 F1 H1 v h g1 r1 v1 => ?_
  split at h
  · rename_i j
    split at h
    · rename_i c fs ec
      split at h
      · rename_i hm
        obtain ⟨y, e1, e2⟩ := Option.map_eq_some_iff.mp h
        cases e2
        obtain ⟨a, dx, gs, rfl, h1, h2, h3⟩ := r1.atI v1 ec
        have := lookup_KR h3 f
        rw [e1] at this
        obtain ⟨u, eu, hu⟩ := this
        exact ⟨a, _, dx, gs, u, rfl, h2, (hc c hm).1, (hc c hm).2, eu, qo _ rfl ρ1 F1 H1 u g1 r1 hu⟩
      · cases h
    · cases h
  · cases h
theorem ss_fld {cs : List Str} {f : Str} {to tv : TE} {ao av : AE} (hc : CA K mg cs f) (ho : SimE P wd K mg W to ao) (hv : SimE P wd K mg W tv av) : SimS P wd K mg W (sFld K to tv f) (aSetF cs f ao av) := by
  intro σ σa ρ S F H hr hs fl σa' S' h D' q
  refine hv.stb hr hs h q fun y S1 ρ1 F1 H1 u h g1 r1 v1 => ?_
  refine ho.stb r1 (hs.gw g1) h (q.gw g1) fun x S2 ρ2 F2 H2 v h g2 r2 v2 => ?_
  have g12 := g1.trans g2
  split at h
  · rename_i j
    split at h
    · rename_i c fs ec
      split at h
      · rename_i hm
        cases h
        obtain ⟨a, dx, gs, rfl, h1, h2, h3⟩ := r2.atI v2 ec
        obtain ⟨r3, g3⟩ := r2.set (o := .ins (clsA mg c) dx (putF f u gs)) (c := .ins c (putFA f y fs)) h1 ec (fun z => nomatch z) ⟨dx, _, rfl, putF_KR h3 f (v1.gw g2)⟩
        exact ⟨a, _, dx, gs, rfl, h2, (hc c hm.1).1, (hc c hm.1).2, by rw [Paired.length h3]; omega, q _ _ _ σ (g12.trans g3) r3 (hs.gw (g12.trans g3))⟩
      · cases h
    · cases h
  · cases h
theorem sm_meth {f : AF} {te : TE} {ae : AE} {t : TA} {ag : AA} (ha : SimE P w K mg W te ae) (hg : SimA P w K mg W t ag) : SimE P w K mg W (tMethS (clsA mg c) m (spA P w K mg f) (WE W) te t) (aMeth c m f ae ag) := by
  intro σ σa ρ S F H hr hs rr S' h Q qo qe
  refine ha.bind hr hs h qe fun x S1 ρ1 F1 H1 v hh g1 r1 v1 => ?_
  split at hh
  · rename_i j
    split at hh
    · rename_i c' fs ec
      split at hh
      · rename_i hm
        obtain ⟨rfl, hl⟩ := hm
        obtain ⟨a, dx, gs, rfl, h1, h2, h3⟩ := r1.atI v1 ec
        have := lookup_KR h3 m
        rw [hl] at this
        refine ⟨a, dx, gs, rfl, h2, this, hg.bind r1 (hs.gw g1) hh (ExQ.gw qe g1) fun xs S2 ρ2 F2 H2 vs h g2 r2 v2 => ?_⟩
        have g12 := g1.trans g2
        exact ⟨ρ2, S2, F2, _, rr, S', r2, .cons (v1.gw g2) v2, h, fun x hx ρ' F' H' v g r v' => qo x hx ρ' F' H' v (g12.trans g) r v', fun e he ρ' F' H' c d g r x' => qe e he ρ' F' H' c d (g12.trans g) r x'⟩
      · cases hh
    · cases hh
  · cases hh
theorem sm_make {f : AF} {t : TA} {ag : AA} (hg : SimA P w K mg W t ag) : SimE P w K mg W (tMakeS (clsA mg c) (spA P w K mg f) (WE W) t) (aMake c f ag) := by
  intro σ σa ρ S F H hr hs rr S' h Q qo qe
  refine hg.bind hr hs h qe fun xs S1 ρ1 F1 H1 vs h0 g1 r1 v1 => fun p dx hp hdx hne => ?_
  have hm : (match f (.o S1.length :: xs) (S1 ++ [.ins c []]) with
    | some (.ok (.d .none), S') => some (.ok (.o S1.length), S')
    | some (.ex e, S') => some (.ex e, S')
    | _ => none) = some (rr, S') := h0
  clear h0 h
  have hpu : upd H1 dx (.own p) p = none := by rw [upd_ne (Ne.symm hne)]; exact hp
  have rb : Rel P w K mg ρ1 S1 F1 (upd H1 dx (.own p)) := r1.beside (fun z => r1.al dx z hdx) (fresh_back r1.fh hdx)
  obtain ⟨r2, g2⟩ := rb.new (c := .ins c []) (o := .ins (clsA mg c) dx []) hpu ⟨dx, [], rfl, .nil⟩
  have gb : Gw ρ1 F1 H1 (ρ1 ++ [p]) F1 (upd (upd H1 dx (.own p)) p (.ins (clsA mg c) dx [])) := ⟨⟨_, rfl⟩, Ex.refl F1, fun q hq hn => by
    obtain ⟨e1, e2, e3⟩ := g2.out q (by rw [upd_ne (fun z : q = dx => hq (by rw [z]; exact hdx))]; exact hq) hn
    exact ⟨by rw [e1, upd_ne (fun z : q = dx => hq (by rw [z]; exact hdx))], e2, e3⟩, fun q o u h => g2.fz q o u (by rw [upd_ne (fun z : q = dx => by rw [z, hdx] at h; cases h)]; exact h)⟩
  have vp : VR K (ρ1 ++ [p]) F1 (.ref p) (.o S1.length) := ⟨p, by rw [← r1.len]; exact get_new, rfl⟩
  split at hm
  · rename_i S2 e
    cases hm
    refine ⟨ρ1 ++ [p], _, F1, _, _, _, r2, .cons vp (VRs.gw v1 gb), e, fun x hx ρ' F' H' v g r v' => ?_, fun e he => nomatch he⟩
    cases hx
    have v' : Dp K F' v .none := v'
    cases v'
    exact ⟨rfl, qo _ rfl ρ' F' H' _ ((g1.trans gb).trans g) r (vp.gw g)⟩
  · rename_i e0 S2 e
    cases hm
    exact ⟨ρ1 ++ [p], _, F1, _, _, _, r2, .cons vp (VRs.gw v1 gb), e, fun x hx => (nomatch hx), fun e he ρ' F' H' c d g r x' => by cases he; exact qe _ rfl ρ' F' H' c d ((g1.trans gb).trans g) r x'⟩
  · cases hm
/-! raise -/
def tRaise (W : WX) (C : Addr) : TS := fun _ σ H => W (.ref C) none σ H
theorem rsA {x msg : Str} {bm : List Value} {j : Nat} {p p2 pos rpos : Pos} (e : ExM K mg x bm) (F : ExcBaseFacts B newId initId bm) (hn : newId = "ValueError.__new__") (hc : X.calm = true) (tk : L2N.Takes X W) (hg : Gl X x := by rfl) (hK : X.K = K := by rfl) (hm : X.mg = mg := by rfl)
    (hdb : (x == ("__debug__" : Str)) = false := by decide) : PS X (.Raise (some (.Call (.Name x p) [.Constant (.str msg) j p2] [] pos)) none rpos) (tRaise W (clsA mg x)) := by
  subst hK hm hn
  exact L2N.ps_raise hc tk (L2N.pmk_own F e.ex e.at_ e.kp (raises_own e.sb e.ty) hg hdb)
theorem ss_raise {x : Str} : SimS P wd K mg W (tRaise W (clsA mg x)) (aRaise x) := by
  intro σ σa ρ S F H hr hs fl σa' S' h D' q
  cases h
  exact q ρ F H σ _ none Gw.refl hr hs ⟨rfl, rfl⟩
/-! try -/
/-- what is known of the classes -/
def XMs (K : Fg) (mg : Str → Option Value) (all hs : List Str) (sub : Str → Str → Bool) : Prop := ∀ c ∈ all, ∀ h ∈ hs, PySem.W.exmOne K (.ref (clsA mg c)) (.ref (clsA mg h)) = some (sub c h)
theorem ss_try {all : List Str} {sub : Str → Str → Bool} {tb : WX → TS} {b : AS} {hs : List (Str × AS)} {l : List (Value × (Addr → Value → Option Addr → TS))} (hx : XMs K mg all (hs.map (·.1)) sub) (hb : ∀ W', SimS P wd K mg W' (tb W') b)
    (hh : Paired (fun (p : Value × (Addr → Value → Option Addr → TS)) (q : Str × AS) => p.1 = .ref (clsA mg q.1) ∧ ∀ a c d, SimS P wd K mg (fun _ _ _ _ => False) (p.2 a c d) q.2) l hs) (hnx : ∀ q ∈ hs, ∀ σ S e σ' S', q.2 σ S ≠ some (.ex e, σ', S')) :
    SimS P wd K mg W (fun D σ H => tb (wMany K W D l) D σ H) (aTry all sub b hs) := by
  intro σ σa ρ S F H hr hs' fl σa' S' h D' q
  unfold aTry at h
  split at h
  · rename_i e σ1 S1 e1
    split at h
    · rename_i hm
      refine hb _ σ σa ρ S F H hr hs' _ _ _ e1 D' ?_
      intro ρ1 F1 H1 σ2 cv d g1 r1 s1 x1
      obtain ⟨ec, ed⟩ := x1
      have go : ∀ {hs : List (Str × AS)} {l : List (Value × (Addr → Value → Option Addr → TS))}, Paired (fun (p : Value × (Addr → Value → Option Addr → TS)) (q : Str × AS) => p.1 = .ref (clsA mg q.1) ∧ ∀ a c d, SimS P wd K mg (fun _ _ _ _ => False) (p.2 a c d) q.2) l hs →
          (∀ h ∈ hs.map (·.1), PySem.W.exmOne K (.ref (clsA mg e.cls)) (.ref (clsA mg h)) = some (sub e.cls h)) → (∀ q ∈ hs, ∀ σ S e σ' S', q.2 σ S ≠ some (.ex e, σ', S')) →
          (match hs.find? fun h => sub e.cls h.1 with
            | some h => h.2 σ1 S1
            | none => some (.ex e, σ1, S1)) = some (fl, σa', S') → wMany K W D' l cv d σ2 H1 := by
        intro hs l hh
        induction hh with
        | nil =>
          intro _ _ h
          cases h
          exact q ρ1 F1 H1 σ2 cv d g1 r1 s1 ⟨ec, ed⟩
        | @cons p r ps rs a _ ih =>
          intro hx hn h
          obtain ⟨ep, es⟩ := a
          obtain ⟨pv, pt⟩ := p
          cases ep
          have hx0 := hx r.1 (by simp)
          refine ⟨sub e.cls r.1, by rw [ec]; exact hx0, fun hb a _ => ?_, fun hb => ?_⟩
          · have hb' : sub e.cls r.1 = true := hb
            rw [List.find?_cons, hb'] at h
            refine es a cv d σ2 σ1 ρ1 S1 F1 H1 r1 s1 _ _ _ h D' ?_
            have q1 := q.gw g1
            cases fl with
            | nx => exact q1
            | bk => exact q1
            | ct => exact q1
            | rt x => exact q1
            | ex e => exact absurd h (hn r (List.mem_cons_self ..) σ1 S1 e σa' S')
          · have hb' : sub e.cls r.1 = false := hb
            rw [List.find?_cons, hb'] at h
            exact ih (fun h' hm => hx h' (by rw [List.map_cons]; exact List.mem_cons_of_mem _ hm)) (fun q hq => hn q (List.mem_cons_of_mem _ hq)) h
      exact go hh (hx e.cls hm) hnx h
    · cases h
  · rename_i hne
    refine hb _ σ σa ρ S F H hr hs' _ _ _ h D' ?_
    cases fl with
    | nx => exact q
    | bk => exact q
    | ct => exact q
    | rt x => exact q
    | ex e => exact absurd h (hne _ _ _)
/-! xs[i] op= e -/
theorem gtM_ok (r : Rel P wd K mg ρ S F H) {o i : V} {x y z : Av} (ho : VR K ρ F o x) (hi : VR K ρ F i y) (h : gtM x y S = some z) : ∃ u, VR K ρ F u z ∧ ∀ Q : VK, Q u H → rGetM P wd K o i H Q := by
  unfold gtM at h
  split at h
  · rename_i j d
    split at h
    · rename_i xs hs
      split at h
      · rename_i n
        split at h
        · rename_i hn
          obtain ⟨a, vs, rfl, h1, h2, h3, h4⟩ := r.atL ho hs
          obtain ⟨u, e1, hu⟩ := vrs_get h4 h
          have hi : Dp K F i (.int n) := hi
          cases hi
          exact ⟨u, hu, fun Q q => .inl ⟨a, vs, n.toNat, u, rfl, by rw [Int.toNat_of_nonneg hn], h3, e1, q⟩⟩
        · cases h
      · cases h
    · rename_i c _ hs
      split at h
      · rename_i o e
        subst h
        obtain ⟨a, o', rfl, g, hv⟩ := look_ok r ho hi hs e
        obtain ⟨u, rfl, hu⟩ := hv
        exact ⟨u, hu, fun Q q => .inr ⟨a, u, rfl, g, q⟩⟩
      · cases h
    · cases h
  · cases h
theorem ss_augS {to ti te : TE} {ao ai ae : AE} {tip : TIp} {f : Av → Av → Op0} (hop : IpS P wd K mg tip f) (ho : SimE P wd K mg W to ao) (hi : SimE P wd K mg W ti ai) (he : SimE P wd K mg W te ae) : SimS P wd K mg W (tAugS to ti te (rGetM P wd K) tip (rSetM P wd K)) (aAugS ao ai ae f) := by
  intro σ σa ρ S F H hr hs fl σa' S' h D' q
  refine ho.stb hr hs h q fun x S1 ρ1 F1 H1 o h g1 r1 v1 => ?_
  refine hi.stb r1 (hs.gw g1) h (q.gw g1) fun y S2 ρ2 F2 H2 i h g2 r2 v2 => ?_
  have g12 := g1.trans g2
  split at h
  · rename_i old eo
    obtain ⟨u, hu, hQ⟩ := gtM_ok r2 (v1.gw g2) v2 eo
    refine hQ _ ?_
    refine he.stb r2 (hs.gw g12) h (q.gw g12) fun b S3 ρ3 F3 H3 ub h g3 r3 v3 => ?_
    have g13 := g12.trans g3
    rcases stb_inv h with ⟨z, S4, e4, h⟩ | ⟨e, e4, rfl, rfl⟩
    · obtain ⟨z', e4, e5⟩ := lf_inv e4
      cases e5
      obtain ⟨S5, e6, e7⟩ := Option.map_eq_some_iff.mp h
      cases e7
      refine hop ρ3 S3 F3 H3 r3 u ub old b (hu.gw g3) v3 z S4 e4 _ fun ρ4 F4 H4 uz g4 r4 v4 => ?_
      have g14 := g13.trans g4
      exact ss_M ρ4 S4 F4 H4 r4 o i uz x y z (v1.gw ((g2.trans g3).trans g4)) (v2.gw (g3.trans g4)) v4 _ e6 _ fun ρ5 F5 H5 g5 r5 => q ρ5 F5 H5 σ (g14.trans g5) r5 (hs.gw (g14.trans g5))
    · obtain ⟨z', e4, e5⟩ := lf_inv e4
      cases e5
  · cases h
end
end Ly
/-! LyW: walks over dicts, zip, enumerate; list(), tuple(), len(set()). -/
namespace Ly
open PySem L2 Evl PyProof.Rows
/-! ### list(), tuple() of lists and tuples, as they stand -/
def seqD (S : Sg) : Av → Option (List D)
  | .d (.list ds) => some ds
  | .d (.tuple ds) => some ds
  | .o j => match S[j]? with
    | some (.lst xs) => allD xs
    | _ => none
  | _ => none
def seqA (S : Sg) : Av → Option (List Av)
  | .d (.list ds) => some (ds.map .d)
  | .d (.tuple ds) => some (ds.map .d)
  | .o j => match S[j]? with
    | some (.lst xs) => some xs
    | _ => none
  | _ => none
def cbTup : List Av → Op0 := fun xs S => match xs with
  | [x] => (seqD S x).map fun ds => (.d (.tuple ds), S)
  | _ => none
def cbLstF : List Av → Op0 := fun xs S => match xs with
  | [x] => (seqD S x).map fun ds => (.d (.list ds), S)
  | _ => none
def cbLstC : List Av → Op0 := fun xs S => match xs with
  | [x] => (seqA S x).map fun ys => (.o S.length, S ++ [.lst ys])
  | _ => none
def rTupL (K : Fg) : List V → Hp → VK → Prop := fun xs H Q => ∃ p ys, xs = [.ref p] ∧ ((SqL K H p ys ∧ ∀ l, H l = none → Q (.ref l) (upd H l (.tup ys))) ∨ (SqT K H p ys ∧ Q (.ref p) H))
def rLstL (K : Fg) : List V → Hp → VK → Prop := fun xs H Q => ∃ p ys, xs = [.ref p] ∧ (SqL K H p ys ∨ SqT K H p ys) ∧ ∀ l, H l = none → Q (.ref l) (upd H l (.lst ys))
section
variable {P : Program} {w wd : World} {K : Fg} {mg : Str → Option Value} {W : WX} {ρ : List Addr} {S S' : Sg} {F H : Hp} {σ : L2.St} {σa σa' : Sl} {X : Cx}
theorem kTupL (hK : X.K = K := by rfl) : CallR X (.type "tuple") (rTupL K) := by subst hK; exact call_tuple_of
theorem kLstL (hK : X.K = K := by rfl) : CallR X (.type "list") (rLstL K) := by subst hK; exact call_list_of
theorem seqD_ok (r : Rel P wd K mg ρ S F H) {v : V} {x : Av} {ds : List D} (hv : VR K ρ F v x) (h : seqD S x = some ds) : ∃ a vs, v = .ref a ∧ DpAll K F vs ds ∧ ((SqL K H a vs) ∨ (SqT K H a vs ∧ SqT K F a vs ∧ x = .d (.tuple ds))) := by
  unfold seqD at h
  split at h
  · cases h
    have hv : Dp K F v (.list ds) := hv
    cases hv with
    | lst s a => exact ⟨_, _, rfl, a, .inl (ex_l r.fh s)⟩
  · cases h
    have hv : Dp K F v (.tuple ds) := hv
    cases hv with
    | tup s a => exact ⟨_, _, rfl, a, .inr ⟨ex_t r.fh s, s, rfl⟩⟩
  · split at h
    · rename_i xs e
      obtain ⟨a, vs, rfl, h1, h2, h3, h4⟩ := r.atL hv e
      rw [allD_inv h] at h4
      exact ⟨a, vs, rfl, dps_of h4, .inl (sq_of h3)⟩
    · cases h
  · cases h
theorem seqA_ok (r : Rel P wd K mg ρ S F H) {v : V} {x : Av} {ys : List Av} (hv : VR K ρ F v x) (h : seqA S x = some ys) : ∃ a vs, v = .ref a ∧ VRs K ρ F vs ys ∧ (SqL K H a vs ∨ SqT K H a vs) := by
  unfold seqA at h
  split at h
  · cases h
    have hv : Dp K F v (.list _) := hv
    cases hv with
    | lst s a => exact ⟨_, _, rfl, vrs_of a, .inl (ex_l r.fh s)⟩
  · cases h
    have hv : Dp K F v (.tuple _) := hv
    cases hv with
    | tup s a => exact ⟨_, _, rfl, vrs_of a, .inr (ex_t r.fh s)⟩
  · split at h
    · rename_i xs e
      cases h
      obtain ⟨a, vs, rfl, h1, h2, h3, h4⟩ := r.atL hv e
      exact ⟨a, vs, rfl, h4, .inl (sq_of h3)⟩
    · cases h
  · cases h
theorem cs_Tup : CallS P wd K mg (rTupL K) cbTup := by
  intro ρ S F H hr vs xs hv z S' e Q q
  unfold cbTup at e
  split at e
  · obtain ⟨ds, e1, e2⟩ := Option.map_eq_some_iff.mp e
    cases e2
    obtain ⟨v, rfl, hv1⟩ := vrs1 hv
    obtain ⟨a, us, rfl, hd, h⟩ := seqD_ok hr hv1 e1
    refine ⟨a, us, rfl, ?_⟩
    rcases h with h | ⟨h, hF, ex⟩
    · refine .inl ⟨h, fun p hp => ?_⟩
      obtain ⟨r2, g2⟩ := hr.newF (o := .tup us) hp
      exact q _ _ _ _ g2 r2 (.tup (st_of upd_same) (hd.up g2.fx))
    · exact .inr ⟨h, q ρ F H _ Gw.refl hr (.tup hF hd)⟩
  · cases e
theorem cs_LstF : CallS P wd K mg (rLstL K) cbLstF := by
  intro ρ S F H hr vs xs hv z S' e Q q
  unfold cbLstF at e
  split at e
  · obtain ⟨ds, e1, e2⟩ := Option.map_eq_some_iff.mp e
    cases e2
    obtain ⟨v, rfl, hv1⟩ := vrs1 hv
    obtain ⟨a, us, rfl, hd, h⟩ := seqD_ok hr hv1 e1
    refine ⟨a, us, rfl, h.imp id (·.1), fun p hp => ?_⟩
    obtain ⟨r2, g2⟩ := hr.newF (o := .lst us) hp
    exact q _ _ _ _ g2 r2 (.lst (sq_of upd_same) (hd.up g2.fx))
  · cases e
theorem cs_LstC : CallS P wd K mg (rLstL K) cbLstC := by
  intro ρ S F H hr vs xs hv z S' e Q q
  unfold cbLstC at e
  split at e
  · obtain ⟨ys, e1, e2⟩ := Option.map_eq_some_iff.mp e
    cases e2
    obtain ⟨v, rfl, hv1⟩ := vrs1 hv
    obtain ⟨a, us, rfl, hd, h⟩ := seqA_ok hr hv1 e1
    refine ⟨a, us, rfl, h, fun p hp => ?_⟩
    obtain ⟨r2, g2⟩ := hr.new (c := .lst ys) (o := .lst us) hp ⟨us, rfl, L2.Paired.mapP hd fun _ _ q => q.up ⟨_, rfl⟩ (Ex.refl _)⟩
    exact q _ _ _ _ g2 r2 ⟨p, by rw [← hr.len]; exact get_new, rfl⟩
  · cases e
/-! ### len(set(xs)), xs texts -/
def seqL (S : Sg) : Av → Option (List D)
  | .d (.list ds) => some ds
  | .o j => match S[j]? with
    | some (.lst xs) => allD xs
    | _ => none
  | _ => none
def aLenSet (a : AE) : AE := fun σ => bnd (a σ) fun x S => match seqL S x with
  | some ds => match strsOf ds with
    | some zs => if zs.length < 64 then some (.ok (.d (.int ((uniq zs).length : Nat))), S) else none
    | none => none
  | none => none
theorem seqL_ok (r : Rel P wd K mg ρ S F H) {v : V} {x : Av} {ds : List D} (hv : VR K ρ F v x) (h : seqL S x = some ds) : ∃ a vs, v = .ref a ∧ DpAll K F vs ds ∧ SqL K H a vs := by
  unfold seqL at h
  split at h
  · cases h
    have hv : Dp K F v (.list ds) := hv
    cases hv with
    | lst s a => exact ⟨_, _, rfl, a, ex_l r.fh s⟩
  · split at h
    · rename_i xs e
      obtain ⟨a, vs, rfl, h1, h2, h3, h4⟩ := r.atL hv e
      rw [allD_inv h] at h4
      exact ⟨a, vs, rfl, dps_of h4, sq_of h3⟩
    · cases h
  · cases h
theorem sm_lenSet {te : TE} {ae : AE} (ha : SimE P wd K mg W te ae) : SimE P wd K mg W (tCB (rLenK P wd) (tCons (tCB (rSetL K P wd) (tCons te tNil)) tNil)) (aLenSet ae) := by
  intro σ σa ρ S F H hr hs rr S' h Q qo qe
  refine ha.bind hr hs h qe fun x S1 ρ1 F1 H1 v hh g1 r1 v1 => ?_
  split at hh
  · rename_i ds ed
    split at hh
    · rename_i zs ez
      split at hh
      · rename_i hl
        cases hh
        obtain ⟨a, us, rfl, hd, h⟩ := seqL_ok r1 v1 ed
        rw [strsOf_inv ez] at hd
        have e := dps_strs_inv zs hd
        subst e
        refine ⟨a, zs.map (Sum.inr : Str → Key), rfl, by rw [kv_strs]; exact h, by rw [List.length_map]; exact hl, fun p hp => ?_⟩
        have hu : (uniq (zs.map (Sum.inr : Str → Key))).length = (uniq zs).length := by
          rw [uniq_map Sum.inr (fun a b h => Sum.inr.inj h), List.length_map]
        refine ⟨p, _, (uniq zs).length, rfl, by rw [upd_same, hu], by have := uniq_len zs; omega, ?_⟩
        have r2 := r1.beside (o := SetK P wd p (setIs (zs.map (Sum.inr : Str → Key))) (uniq (zs.map (Sum.inr : Str → Key))).length) (fun z => r1.al p z hp) (fresh_back r1.fh hp)
        refine qo _ rfl ρ1 F1 _ _ (g1.trans ⟨⟨[], (List.append_nil _).symm⟩, Ex.refl _, fun q hq hn => ⟨upd_ne (fun z : q = p => hq (by rw [z]; exact hp)), hn, rfl⟩, fun q o u h => by rw [upd_ne (fun z : q = p => by rw [z, hp] at h; cases h)]; exact h⟩) r2 (.int _)
      · cases hh
    · cases hh
  · cases hh
/-! ### dicts locked while they are walked -/
def keyD : Key → D
  | .inl i => .int i
  | .inr x => .str x
def aLockS (a : AE) (s : AS) : AS := fun σ S => match a σ S with
  | some (.ok (.o j), _) => match S[j]? with
    | some c => if isDk c = true then match s σ (S.set j (.lk c)) with
        | some (.ex _, _, _) => none
        | some (fl, σ', S') => match S'[j]? with
          | some (.lk _) => some (fl, σ', S'.set j c)
          | _ => none
        | none => none
      else none
    | none => none
  | _ => none
def aLockE (a : AE) (e : AE) : AE := fun σ S => match a σ S with
  | some (.ok (.o j), _) => match S[j]? with
    | some c => if isDk c = true then match e σ (S.set j (.lk c)) with
        | some (.ok x, S') => match S'[j]? with
          | some (.lk _) => some (.ok x, S'.set j c)
          | _ => none
        | _ => none
      else none
    | none => none
  | _ => none
/-- what a locked dict gives -/
def lkK : Cl → Option (List (Key × Av))
  | .lk (.dk kvs) => some kvs
  | _ => none
def aiKeys (a : AE) : Sl → M Itm := fun σ => bnd (a σ) fun x S => match x with
  | .o j => match S[j]? with
    | some c => (lkK c).map fun kvs => (.ok (itL (kvs.map fun p => .d (keyD p.1))), S)
    | none => none
  | _ => none
def aiVals (a : AE) : Sl → M Itm := fun σ => bnd (a σ) fun x S => match x with
  | .o j => match S[j]? with
    | some c => (lkK c).map fun kvs => (.ok (itL (kvs.map fun p => p.2)), S)
    | none => none
  | _ => none
def pairD : List (Key × Av) → Option (List Av)
  | [] => some []
  | (k, .d x) :: r => (pairD r).map (.d (.tuple [keyD k, x]) :: ·)
  | _ :: _ => none
def aiItems (a : AE) : Sl → M Itm := fun σ => bnd (a σ) fun x S => match x with
  | .o j => match S[j]? with
    | some c => match lkK c with
      | some kvs => (pairD kvs).map fun ys => (.ok (itL ys), S)
      | none => none
    | none => none
  | _ => none
theorem isDk_ho {a : Addr} {c : Cl} {o : HO} (h : CR P wd K mg ρ F a c o) (hd : isDk c = true) : Mut (some o) ∧ (∀ ob u, o ≠ .frz ob u) ∧ c ≠ .gone ∧ ∀ c', c ≠ .lk c' := by
  cases c with
  | dk kvs => obtain ⟨ks, rfl, _⟩ := h; exact ⟨trivial, fun _ _ z => (nomatch z), fun z => (nomatch z), fun _ z => nomatch z⟩
  | dt kvs => obtain ⟨ks, rfl, _⟩ := h; exact ⟨trivial, fun _ _ z => (nomatch z), fun z => (nomatch z), fun _ z => nomatch z⟩
  | dv kvs => obtain ⟨ks, rfl, _⟩ := h; exact ⟨trivial, fun _ _ z => (nomatch z), fun z => (nomatch z), fun _ z => nomatch z⟩
  | _ => cases hd
/-- locked, then unlocked -/
theorem unlock {a : Addr} {j : Nat} {c c' : Cl} {o : HO} {od : Obj} {ρ' : List Addr} {F' H' : Hp} {S2 : Sg} (r : Rel P wd K mg ρ S F H) (h1 : ρ[j]? = some a) (hs : S[j]? = some c) (hd : isDk c = true) (ho : H a = some o) (hc : CR P wd K mg ρ F a c o)
    (g : Gw ρ F (upd H a (.frz od o)) ρ' F' H') (r' : Rel P wd K mg ρ' S2 F' H') (hs2 : S2[j]? = some (.lk c')) : H' a = some (.frz od o) ∧ Gw ρ F H ρ' F' (upd H' a o) ∧ Rel P wd K mg ρ' (S2.set j c) F' (upd H' a o) := by
  obtain ⟨mu, nf, ng, nl⟩ := isDk_ho hc hd
  have hf := g.fz a od o upd_same
  have h1' : ρ'[j]? = some a := by obtain ⟨t, e⟩ := g.pre; rw [e]; exact pre_get h1
  have ham : a ∈ ρ := List.mem_of_getElem? h1
  obtain ⟨fp, _, _, _⟩ := r'.cell j a _ h1' hs2 (fun z => nomatch z)
  refine ⟨hf, ⟨g.pre, g.fx, fun p hp hn => ?_, fun p o' u h => ?_⟩, ?_⟩
  · have ne : p ≠ a := fun z => hn (by rw [z]; exact ham)
    obtain ⟨e1, e2, e3⟩ := g.out p (by rw [upd_ne ne]; exact hp) hn
    exact ⟨by rw [upd_ne ne, e1, upd_ne ne], e2, e3⟩
  · have ne : p ≠ a := fun z => by rw [z, ho] at h; cases h; exact nf _ _ rfl
    rw [upd_ne ne]
    exact g.fz p o' u (by rw [upd_ne ne]; exact h)
  · refine ⟨by rw [List.length_set]; exact r'.len, r'.inj, fun b u h => ?_, fun b hb => ?_, fun i b c2 e1 e2 hg => ?_⟩
    · rw [upd_ne (ne_of_none h fp)]; exact r'.fh b u h
    · by_cases e : b = a
      · subst e; rw [upd_same]; exact fun z => nomatch z
      · rw [upd_ne e]; exact r'.al b hb
    · by_cases e : j = i
      · subst e
        rw [List.getElem?_set_self (List.getElem?_eq_some_iff.mp hs2).1] at e2
        cases e2
        rw [h1'] at e1
        cases e1
        exact ⟨fp, o, upd_same, hc.up g.pre g.fx⟩
      · rw [List.getElem?_set_ne e] at e2
        obtain ⟨f, o', ho', hco⟩ := r'.cell i b c2 e1 e2 hg
        have ne : b ≠ a := fun z => e (r'.inj j i a h1' (z ▸ e1))
        exact ⟨f, o', by rw [upd_ne ne]; exact ho', hco⟩
theorem lockR {a : Addr} {j : Nat} {c : Cl} {o : HO} {od : Obj} (r : Rel P wd K mg ρ S F H) (h1 : ρ[j]? = some a) (hs : S[j]? = some c) (hd : isDk c = true) (ho : H a = some o) (hc : CR P wd K mg ρ F a c o) : Rel P wd K mg ρ (S.set j (.lk c)) F (upd H a (.frz od o)) := by
  obtain ⟨mu, nf, ng, nl⟩ := isDk_ho hc hd
  exact (r.set (c := .lk c) (o := .frz od o) h1 hs ng (.inl ⟨⟨od, o, rfl, hc⟩, by cases c <;> first | rfl | (cases hd)⟩) nl).1
/-- a value that may be had without a step -/
def Seen (P : Program) (wd : World) (K : Fg) (mg : Str → Option Value) (ae : AE) : Prop := ∀ σ S x S', ae σ S = some (.ok x, S') → ∀ σ0 ρ F H, Rel P wd K mg ρ S F H → SR K ρ F σ0 σ → S' = S ∧ ∃ v, VR K ρ F v x
theorem se_var {i : Nat} : Seen P wd K mg (aVar i) := by
  intro σ S x S' h σ0 ρ F H hr hs
  unfold aVar at h
  split at h
  · rename_i y q
    cases h
    obtain ⟨v, _, hv⟩ := hs.2 _ _ q
    exact ⟨rfl, v, hv⟩
  · cases h
theorem se_fld {cs : List Str} {f : Str} {ae : AE} (ha : Seen P wd K mg ae) : Seen P wd K mg (aFld cs f ae) := by
  intro σ S x S' h0 σ0 ρ F H hr hs
  rcases bnd_inv h0 with ⟨y, S1, ea, h⟩ | ⟨e, e1, h⟩
  · clear h0
    obtain ⟨rfl, v, hv⟩ := ha _ _ _ _ ea σ0 ρ F H hr hs
    split at h
    · rename_i j
      split at h
      · rename_i c fs ec
        split at h
        · obtain ⟨y, e1, e2⟩ := Option.map_eq_some_iff.mp h
          cases e2
          obtain ⟨a, dx, gs, rfl, h1, h2, h3⟩ := hr.atI hv ec
          have := lookup_KR h3 f
          rw [e1] at this
          obtain ⟨u, eu, hu⟩ := this
          exact ⟨rfl, u, hu⟩
        · cases h
      · cases h
    · cases h
  · cases h
theorem se_ixs {k : D} {ae : AE} (ha : Seen P wd K mg ae) : Seen P wd K mg (aOp opIx ae (aD k)) := by
  intro σ S x S' h0 σ0 ρ F H hr hs
  rcases bnd_inv h0 with ⟨y, S1, ea, h⟩ | ⟨e, e1, h⟩
  · clear h0
    obtain ⟨rfl, v, hv⟩ := ha _ _ _ _ ea σ0 ρ F H hr hs
    rcases bnd_inv h with ⟨z, S2, e2, h⟩ | ⟨e, e2, h⟩
    · cases e2
      obtain ⟨z, hz, e3⟩ := lf_inv h
      cases e3
      unfold opIx at hz
      split at hz
      · rename_i a b e5
        obtain ⟨r, e1, e2⟩ := Option.map_eq_some_iff.mp hz
        cases e2
        have hi := fIx_ok _ _ _ e1
        cases hi with
        | list ds i d h =>
          have hv : Dp K F v (.list ds) := hv
          cases hv with
          | lst s a => obtain ⟨u, _, hu⟩ := dps_at a h; exact ⟨rfl, u, hu⟩
        | tup ds i d h =>
          have hv : Dp K F v (.tuple ds) := hv
          cases hv with
          | tup s a => obtain ⟨u, _, hu⟩ := dps_at a h; exact ⟨rfl, u, hu⟩
        | str z i c h h' => exact ⟨rfl, _, .str _⟩
      · rename_i j b
        split at hz
        · rename_i c hs'
          obtain ⟨r, e1, e2⟩ := Option.map_eq_some_iff.mp hz
          cases e2
          unfold getC at e1
          split at e1
          · rename_i xs ec
            split at e1
            · obtain ⟨a, ob, rfl, h1, h2, h3⟩ := hr.rd hv hs' (by rw [ec]; exact fun z => nomatch z)
              rw [ec] at h3
              obtain ⟨vs, rfl, h3⟩ := h3
              obtain ⟨y, ey, hy⟩ := vrs_at h3 e1
              exact ⟨rfl, y, hy⟩
            · cases e1
          · rename_i kvs ec
            obtain ⟨a, ob, rfl, h1, h2, h3⟩ := hr.rd hv hs' (by rw [ec]; exact fun z => nomatch z)
            rw [ec] at h3
            obtain ⟨ks, rfl, h3⟩ := h3
            obtain ⟨kk, e2, e3⟩ := Option.bind_eq_some_iff.mp e1
            have := h3.val kk
            rw [e3] at this
            obtain ⟨y, _, hy⟩ := this
            exact ⟨rfl, y, hy⟩
          · rename_i kvs ec
            obtain ⟨a, ob, rfl, h1, h2, h3⟩ := hr.rd hv hs' (by rw [ec]; exact fun z => nomatch z)
            rw [ec] at h3
            obtain ⟨ks, rfl, h3⟩ := h3
            obtain ⟨kk, e2, e3⟩ := Option.bind_eq_some_iff.mp e1
            have := TR.val h3 kk
            rw [e3] at this
            obtain ⟨y, _, hy⟩ := this
            exact ⟨rfl, y, hy⟩
          · rename_i kvs ec
            obtain ⟨a, ob, rfl, h1, h2, h3⟩ := hr.rd hv hs' (by rw [ec]; exact fun z => nomatch z)
            rw [ec] at h3
            obtain ⟨ks, rfl, h3⟩ := h3
            obtain ⟨kk, e2, e3⟩ := Option.bind_eq_some_iff.mp e1
            have := VTR.val h3 kk
            rw [e3] at this
            obtain ⟨y, _, hy⟩ := this
            exact ⟨rfl, y, hy⟩
          · cases e1
        · cases hz
      · cases hz
    · cases e2
  · cases h
theorem ss_lock {ts : TS} {as : AS} {ae : AE} (h : SimS P wd K mg W ts as) (hae : Seen P wd K mg ae) : SimS P wd K mg W (tLock ts) (aLockS ae as) := by
  intro σ σa ρ S F H hr hs fl σa' S' h0 D' q
  unfold aLockS at h0
  split at h0
  · rename_i j Sx e1
    split at h0
    · rename_i c e2
      split at h0
      · rename_i hd
        split at h0
        · cases h0
        · rename_i fl2 σ2 S2 nex e3
          split at h0
          · rename_i c' e4
            cases h0
            obtain ⟨_, v, hv⟩ := hae _ _ _ _ e1 σ ρ F H hr hs
            obtain ⟨a, o, rfl, h1, h2, h3, h4⟩ := hr.at hv e2 (by intro z; subst z; cases hd)
            obtain ⟨mu, nf, ng, nl⟩ := isDk_ho h4 hd
            refine ⟨a, o, h3, mu, fun od => ?_⟩
            have rl := lockR (od := od) hr h1 e2 hd h3 h4
            refine h σ σa ρ _ F _ rl hs _ _ _ e3 _ ?_
            cases fl with
            | nx => intro ρ' F' H' σ' g r s; obtain ⟨u1, u2, u3⟩ := unlock hr h1 e2 hd h3 h4 g r e4; exact ⟨u1, q _ _ _ _ u2 u3 s⟩
            | bk => intro ρ' F' H' σ' g r s; obtain ⟨u1, u2, u3⟩ := unlock hr h1 e2 hd h3 h4 g r e4; exact ⟨u1, q _ _ _ _ u2 u3 s⟩
            | ct => intro ρ' F' H' σ' g r s; obtain ⟨u1, u2, u3⟩ := unlock hr h1 e2 hd h3 h4 g r e4; exact ⟨u1, q _ _ _ _ u2 u3 s⟩
            | rt x => intro ρ' F' H' v g r s; obtain ⟨u1, u2, u3⟩ := unlock hr h1 e2 hd h3 h4 g r e4; exact ⟨u1, q _ _ _ _ u2 u3 s⟩
            | ex e => exact absurd rfl (nex e)
          · cases h0
        · cases h0
      · cases h0
    · cases h0
  · cases h0
theorem sm_lock {te : TE} {ae e : AE} (h : SimE P wd K mg W te e) (hae : Seen P wd K mg ae) : SimE P wd K mg W (tLockE te) (aLockE ae e) := by
  intro σ σa ρ S F H hr hs rr S' h0 Q qo qe
  unfold aLockE at h0
  split at h0
  · rename_i j Sx e1
    split at h0
    · rename_i c e2
      split at h0
      · rename_i hd
        split at h0
        · rename_i x S2 e3
          split at h0
          · rename_i c' e4
            cases h0
            obtain ⟨_, v, hv⟩ := hae _ _ _ _ e1 σ ρ F H hr hs
            obtain ⟨a, o, rfl, h1, h2, h3, h4⟩ := hr.at hv e2 (by intro z; subst z; cases hd)
            obtain ⟨mu, nf, ng, nl⟩ := isDk_ho h4 hd
            refine ⟨a, o, h3, mu, fun od => ?_⟩
            have rl := lockR (od := od) hr h1 e2 hd h3 h4
            refine h σ σa ρ _ F _ rl hs _ _ e3 _ (fun y hy ρ' F' H' u g r vu => ?_) fun e he => nomatch he
            cases hy
            obtain ⟨u1, u2, u3⟩ := unlock hr h1 e2 hd h3 h4 g r e4
            exact ⟨u1, qo _ rfl _ _ _ _ u2 u3 vu⟩
          · cases h0
        · cases h0
      · cases h0
    · cases h0
  · cases h0
theorem wk_A {d : Addr} {od : Obj} {ks : List (Key × V)} {ys : List Av} {J : It} (hd : H d = some (.frz od (.dK ks))) (hl : ks.length = ys.length) (hgo : ∀ i H, H d = some (.frz od (.dK ks)) → i < ks.length → J.go i H) (hst : ∀ i H, H d = some (.frz od (.dK ks)) → ks.length ≤ i → J.stop i H)
    (hy : ∀ i ρ1 S1 F1 H1, Gw ρ F H ρ1 F1 H1 → Rel P wd K mg ρ1 S1 F1 H1 → ∀ v H' x, ys[i]? = some x → J.yld i H1 v H' → ∃ ρ' F', Gw ρ1 F1 H1 ρ' F' H' ∧ Rel P wd K mg ρ' S1 F' H' ∧ VR K ρ' F' v x) : WkA P wd K mg ρ F H J (itL ys) := by
  intro ρ1 S1 F1 H1 g r i o e
  have hd1 := g.fz d od _ hd
  cases e
  cases q : ys[i]? with
  | none =>
    rw [List.getElem?_eq_none_iff] at q
    exact hst i H1 hd1 (by omega)
  | some x =>
    exact ⟨hgo i H1 hd1 (by rw [hl]; exact (List.getElem?_eq_some_iff.mp q).1), fun v H' y => hy i ρ1 S1 F1 H1 g r v H' x q y⟩
theorem lkK_ok (hr : Rel P wd K mg ρ S F H) {v : V} {j : Nat} {c : Cl} {kvs : List (Key × Av)} (hv : VR K ρ F v (.o j)) (hs : S[j]? = some c) (h : lkK c = some kvs) : ∃ a od ks, v = .ref a ∧ H a = some (.frz od (.dK ks)) ∧ KR K ρ F ks kvs := by
  unfold lkK at h
  split at h
  · cases h
    obtain ⟨a, o, e, h1, h2, h3, ⟨⟨ob, u, rfl, ks, rfl, h5⟩, _⟩ | ⟨_, z, _⟩ | ⟨_, _, z, _⟩⟩ := hr.at hv hs (fun z => nomatch z)
    · exact ⟨a, ob, ks, e, h3, h5⟩
    · cases z
    · cases z
  · cases h
theorem kr_get {ks : List (Key × V)} {kvs : List (Key × Av)} {i : Nat} (h : KR K ρ F ks kvs) {k : Key} {v : V} (e : ks[i]? = some (k, v)) : ∃ x, kvs[i]? = some (k, x) ∧ VR K ρ F v x := by
  induction h generalizing i with
  | nil => simp at e
  | @cons p q ps qs a b ih =>
    cases i with
    | zero =>
      simp at e; subst e
      obtain ⟨e1, e2⟩ := a
      obtain ⟨k', y⟩ := q
      cases e1
      exact ⟨y, by simp, e2⟩
    | succ i => simp at e; simpa using ih e
theorem key_dp (k : Key) : Dp K F (kV k) (keyD k) := by cases k with
  | inl i => exact .int i
  | inr x => exact .str x
theorem si_keys {td : TE} {ae : AE} (ha : SimE P wd K mg W td ae) : SimI P wd K mg W (iKeys td) (aiKeys ae) := by
  intro σ σa ρ S F H hr hs rr S' h R qo qe
  refine ha.bind hr hs h qe fun x S1 ρ1 F1 H1 v h g1 r1 v1 => ?_
  split at h
  · split at h
    · rename_i j c ec
      obtain ⟨kvs, e1, e2⟩ := Option.map_eq_some_iff.mp h
      cases e2
      obtain ⟨a, od, ks, rfl, h1, h2⟩ := lkK_ok r1 v1 ec e1
      refine ⟨a, od, rfl, .inl ⟨ks, h1, qo _ rfl ρ1 F1 H1 _ g1 r1 (wk_A h1 (by rw [List.length_map]; exact Paired.length h2) (fun i H e hi => ⟨e, hi⟩) (fun i H e hi => ⟨e, hi⟩) fun i ρ2 S2 F2 H2 g r v H' x ex y => ?_)⟩⟩
      obtain ⟨rfl, k, v, e3, rfl⟩ := y
      obtain ⟨z, e4, hz⟩ := kr_get h2 e3
      rw [List.getElem?_map, e4] at ex
      cases ex
      exact ⟨ρ2, F2, Gw.refl, r, key_dp k⟩
    · cases h
  · cases h
theorem si_vals {td : TE} {ae : AE} (ha : SimE P wd K mg W td ae) : SimI P wd K mg W (iVals td) (aiVals ae) := by
  intro σ σa ρ S F H hr hs rr S' h R qo qe
  refine ha.bind hr hs h qe fun x S1 ρ1 F1 H1 v h g1 r1 v1 => ?_
  split at h
  · split at h
    · rename_i j c ec
      obtain ⟨kvs, e1, e2⟩ := Option.map_eq_some_iff.mp h
      cases e2
      obtain ⟨a, od, ks, rfl, h1, h2⟩ := lkK_ok r1 v1 ec e1
      refine ⟨a, od, ks, rfl, h1, qo _ rfl ρ1 F1 H1 _ g1 r1 (wk_A h1 (by rw [List.length_map]; exact Paired.length h2) (fun i H e hi => ⟨e, hi⟩) (fun i H e hi => ⟨e, hi⟩) fun i ρ2 S2 F2 H2 g r v H' x ex y => ?_)⟩
      obtain ⟨rfl, k, e3⟩ := y
      obtain ⟨z, e4, hz⟩ := kr_get h2 e3
      rw [List.getElem?_map, e4] at ex
      cases ex
      exact ⟨ρ2, F2, Gw.refl, r, hz.gw g⟩
    · cases h
  · cases h
theorem pairD_get : ∀ {kvs : List (Key × Av)} {ys : List Av} {i : Nat} {k : Key} {x : Av}, pairD kvs = some ys → kvs[i]? = some (k, x) → ∃ d, x = .d d ∧ ys[i]? = some (.d (.tuple [keyD k, d]))
  | [], _, i, k, x, h, e => by simp at e
  | (k0, x0) :: r, ys, i, k, x, h, e => by
    cases x0 with
    | o j => cases h
    | d d0 =>
      obtain ⟨zs, e1, rfl⟩ := Option.map_eq_some_iff.mp (show (pairD r).map (.d (.tuple [keyD k0, d0]) :: ·) = some ys from h)
      cases i with
      | zero => simp at e; obtain ⟨rfl, rfl⟩ := e; exact ⟨d0, rfl, by simp⟩
      | succ i => simp at e; obtain ⟨d, h1, h2⟩ := pairD_get e1 e; exact ⟨d, h1, by simpa using h2⟩
theorem pairD_len : ∀ {kvs : List (Key × Av)} {ys : List Av}, pairD kvs = some ys → kvs.length = ys.length
  | [], _, h => by cases h; rfl
  | (k0, x0) :: r, ys, h => by
    cases x0 with
    | o j => cases h
    | d d0 =>
      obtain ⟨zs, e1, rfl⟩ := Option.map_eq_some_iff.mp (show (pairD r).map (.d (.tuple [keyD k0, d0]) :: ·) = some ys from h)
      simp [pairD_len e1]
theorem si_items {td : TE} {ae : AE} (ha : SimE P wd K mg W td ae) : SimI P wd K mg W (iItems td) (aiItems ae) := by
  intro σ σa ρ S F H hr hs rr S' h R qo qe
  refine ha.bind hr hs h qe fun x S1 ρ1 F1 H1 v h g1 r1 v1 => ?_
  split at h
  · split at h
    · rename_i j c ec
      split at h
      · rename_i kvs e1
        obtain ⟨ys, e5, e2⟩ := Option.map_eq_some_iff.mp h
        cases e2
        obtain ⟨a, od, ks, rfl, h1, h2⟩ := lkK_ok r1 v1 ec e1
        refine ⟨a, od, ks, rfl, h1, qo _ rfl ρ1 F1 H1 _ g1 r1 (wk_A h1 (by rw [← pairD_len e5]; exact Paired.length h2) (fun i H e hi => ⟨e, hi⟩) (fun i H e hi => ⟨e, hi⟩) fun i ρ2 S2 F2 H2 g r v H' x ex y => ?_)⟩
        obtain ⟨T, k, u, e3, rfl, hT, rfl⟩ := y
        obtain ⟨z, e4, hz⟩ := kr_get h2 e3
        obtain ⟨d, rfl, e6⟩ := pairD_get e5 e4
        rw [e6] at ex
        cases ex
        obtain ⟨r3, g3⟩ := r.newF (o := .tup [kV k, u]) hT
        exact ⟨ρ2, _, g3, r3, .tup (st_of upd_same) (.cons (key_dp k) (.cons ((hz.gw g).gw g3) .nil))⟩
      · cases h
    · cases h
  · cases h
end
end Ly
/-! LyX: ends, small rules for the printed texts, equations of mirrors. -/
namespace Ly
open PySem L2 Evl PyProof.Rows
abbrev veB : List Value := [.type "ValueError", .type "Exception", .type "BaseException", .type "object"]
section
variable {P : Program} {w wd : World} {K : Fg} {mg : Str → Option Value} {base : Heap} {k : Nat} {x : Str} {st : Stmt} {N ps : List Str} {W : WX} {ρ : List Addr} {S S' : Sg} {F H : Hp} {σ : L2.St} {σa σa' : Sl}
theorem DkA.fin {A : AF} {a : Str} {fa : Addr} (D0 : Df K mg x st [a]) (hfa : mg x = some (.ref fa)) (h : ∀ base, K.In base → base.Ns mainGlobals mg → DkA P w K mg base k x [a] A)
    (hA : ∀ ns : List Int, ns.length ≤ 63 → ∃ S', A [.d (.list (ns.map PyData.int))] [] = some (.ok (.d (.bool true)), S')) :
    ∃ fd : FuncData, (∀ (s : Shared) (u : Value), BindsTo s fd ⟨[u], []⟩ [(a, u)]) ∧ ∀ base : Heap, K.In base → base.Ns mainGlobals mg → FnOk P w K mg base (L2N.CX P w) k fa fd [a] (spR K RLaw) := by
  obtain ⟨f, fd, F, hm, b⟩ := D0.ex
  have e := hfa.symm.trans hm
  cases e
  refine ⟨fd, fun s u => .of_eq (b [u] rfl), fun base h1 h2 => ?_⟩
  obtain ⟨f', fd', hm', ok, _, _, o', l', d'⟩ := (h base h1 h2).ex
  have e := hm.symm.trans hm'
  cases e
  obtain ⟨o, l, d⟩ := fun_at F
  have e := l.symm.trans l'
  cases e
  have e := d.symm.trans d'
  cases e
  refine ok.imp fun vs H Q E ⟨F0, ds, r, fh, ha, ⟨ns, hl, e1, e2⟩, q⟩ => ?_
  subst e1 e2
  obtain ⟨S', hS⟩ := hA ns hl
  refine ⟨[], [], F0, [.d (.list (ns.map PyData.int))], _, S', Rel.none fh, vrs_of (ds := [.list (ns.map PyData.int)]) ha, hS, fun y hy ρ' F' H' v g r v' => ?_, fun e he => nomatch he⟩
  cases hy
  have v' : Dp K F' v (.bool true) := v'
  cases v'
  have r0 : Rel P w K mg [] [] F0 H := Rel.none fh
  refine q (.bl true) F0 H' ⟨Ex.refl F0, fun p o h => ?_, fun p o h => ?_, fun _ _ => rfl⟩ (.bl true)
  · rw [(g.out p (by rw [h]; exact fun z => nomatch z) (by simp)).1]; exact h
  · have h2 := fh p o h
    rw [(g.out p (by rw [h2]; exact fun z => nomatch z) (by simp)).1]; exact h2
theorem cx_false {H : Hp} {s : Shared} {e : Value} {s' : Shared} (h : L2N.CX P w [] H s (fun _ _ _ => False) e s') : False := by
  obtain ⟨a, B, H', cls, d, _, _, _, _, _, _, _, q⟩ := h
  exact q
theorem DfM.of {c m q : Str} {C : Addr} (r : clsA mg c = C) (h : ∃ f fd, Fun K m q st f fd ∧ Meth K C m f ∧ Cls K C ∧ ∀ us : List Value, us.length = ps.length → bindArgs fd ⟨us, []⟩ = pure (ps.zip us)) : DfM K mg c m q st ps := by
  subst r; exact ⟨h⟩
theorem mem_nil {α : Type} {p : α → Prop} : ∀ x ∈ ([] : List α), p x := fun x h => nomatch h
theorem mem_cons {α : Type} {p : α → Prop} {a : α} {l : List α} (h : p a) (t : ∀ x ∈ l, p x) : ∀ x ∈ a :: l, p x := fun x hx => by
  rcases List.mem_cons.mp hx with e | hx
  · subst e; exact h
  · exact t x hx
/-! targets in comprehensions -/
theorem gw1 (j : Nat) : ∀ (σ : L2.St) (x : V), wipe ((wipe σ [j]).set j (some x)) [j] = wipe σ [j] := fun σ x => by simp [wipe, List.set_set]
theorem gw_tup2 {i j : Nat} (hij : i ≠ j) : ∀ (x : V) (σ : L2.St) (H : Hp) (Q : L2.St → Hp → Prop), gTup K 2 (gCons (gName i) (gCons (gName j) gNil)) x (wipe σ [i, j]) H Q → gTup K 2 (gCons (gName i) (gCons (gName j) gNil)) x (wipe σ [i, j]) H fun σ2 H2 => wipe σ2 [i, j] = wipe σ [i, j] ∧ Q σ2 H2 := by
  rintro x σ H Q ⟨a, xs, e, hs, hl, v1, r1, e1, v2, r2, e2, e3, q⟩
  refine ⟨a, xs, e, hs, hl, v1, r1, e1, v2, r2, e2, e3, ?_, q⟩
  simp only [wipe]
  apply List.ext_getElem?
  intro n
  simp only [List.getElem?_set, List.length_set]
  grind
/-! x op= e -/
def ipI2 (f : Int → Int → Int) : Av → Av → Op0 := fun x y S => match x, y with
  | .d (.int i), .d (.int j) => some (.d (.int (f i j)), S)
  | _, _ => none
abbrev ipo_add := ipI2 fun i j => i + j
abbrev ipo_sub := ipI2 fun i j => i - j
theorem is_I (f : Int → Int → Int) : IpS P wd K mg (ipI f) (ipI2 f) := by
  intro ρ S F H hr v u x y hv hu z S' e Q q
  unfold ipI2 at e
  split at e
  · rename_i i j
    cases e
    have hv : Dp K F v (.int i) := hv
    have hu : Dp K F u (.int j) := hu
    cases hv
    cases hu
    exact ⟨i, j, rfl, rfl, q ρ F H _ Gw.refl hr (.int _)⟩
  · cases e
theorem is_add : IpS P wd K mg (ipI fun i j => i + j) ipo_add := is_I _
theorem is_sub : IpS P wd K mg (ipI fun i j => i - j) ipo_sub := is_I _
/-! methods of texts -/
theorem fIndexS_sc : ∀ a ds r, fIndexS a ds = some r → isSc r = true := by
  intro a ds r h
  unfold fIndexS at h
  split at h
  · split at h
    · cases h; rfl
    · cases h
  · cases h
theorem fJoin_sc : ∀ a ds r, fJoin a ds = some r → isSc r = true := by
  intro a ds r h
  unfold fJoin at h
  split at h
  · split at h
    · split at h
      · cases h; rfl
      · cases h
    · cases h
  · cases h
end
end Ly
/-! LyY: reasoning about mirrors: loops, comprehensions, pure calls. -/
namespace Ly
open PySem L2 Evl PyProof.Rows
/-- a for over a list that stays -/
def forL (g : Av → AS) (b : AS) : List Av → AS
  | [], σ, S => some (.nx, σ, S)
  | x :: xs, σ, S => match g x σ S with
    | some (.nx, σ1, S1) => match b σ1 S1 with
      | some (.nx, σ2, S2) => forL g b xs σ2 S2
      | some (.ct, σ2, S2) => forL g b xs σ2 S2
      | some (.bk, σ2, S2) => some (.nx, σ2, S2)
      | r => r
    | _ => none
theorem fgo_itL (g : Av → AS) (b : AS) (xs : List Av) : ∀ (n i : Nat) (σ : Sl) (S : Sg), i ≤ xs.length → xs.length < i + n → fgo (itL xs) g b n i σ S = forL g b (xs.drop i) σ S
  | 0, i, σ, S, h0, h => by omega
  | n + 1, i, σ, S, h0, h => by
    unfold fgo
    by_cases hl : i < xs.length
    · have hd : xs.drop i = xs[i] :: xs.drop (i + 1) := List.drop_eq_getElem_cons hl
      have hx : itL xs i S = some (some xs[i]) := by unfold itL; rw [List.getElem?_eq_getElem hl]
      rw [hd, hx]
      show (match g xs[i] σ S with
        | some (.nx, σ1, S1) => match b σ1 S1 with
          | some (.nx, σ2, S2) => fgo (itL xs) g b n (i + 1) σ2 S2
          | some (.ct, σ2, S2) => fgo (itL xs) g b n (i + 1) σ2 S2
          | some (.bk, σ2, S2) => some (.nx, σ2, S2)
          | r => r
        | _ => none) = forL g b (xs[i] :: xs.drop (i + 1)) σ S
      rw [forL]
      have ih := fun σ S => fgo_itL g b xs n (i + 1) σ S hl (by omega)
      simp only [ih]
    · have e : xs.drop i = [] := List.drop_eq_nil_of_le (by omega)
      have hx : itL xs i S = some none := by unfold itL; rw [List.getElem?_eq_none (by omega)]
      rw [e, hx]
      rfl

theorem aFor_list {ai : Sl → M Itm} {g : Av → AS} {b : AS} {xs : List Av} {σ : Sl} {S S1 : Sg} (hi : ai σ S = some (.ok (itL xs), S1)) (hl : xs.length < 1000000) : aFor ai g b σ S = forL g b xs σ S1 := by
  unfold aFor stb
  rw [hi]
  exact fgo_itL g b xs fu 0 σ S1 (Nat.zero_le _) (by show xs.length < 0 + 1000000; omega)
/-- a walk by its invariant -/
theorem forL_wp {g : Av → AS} {b : AS} {Q : Fl → Sl → Sg → Prop} (I : Nat → Sl → Sg → Prop) (xs : List Av)
    (step : ∀ i x σ S, xs[i]? = some x → I i σ S → ∃ σ1 S1, g x σ S = some (.nx, σ1, S1) ∧ ∃ fl σ' S', b σ1 S1 = some (fl, σ', S') ∧ (match fl with | .nx => I (i + 1) σ' S' | .ct => I (i + 1) σ' S' | .bk => Q .nx σ' S' | .rt x => Q (.rt x) σ' S' | .ex e => Q (.ex e) σ' S'))
    (hend : ∀ σ S, I xs.length σ S → Q .nx σ S) : ∀ (n : Nat) (σ : Sl) (S : Sg), n ≤ xs.length → I (xs.length - n) σ S → ∃ fl σ' S', forL g b (xs.drop (xs.length - n)) σ S = some (fl, σ', S') ∧ Q fl σ' S'
  | 0, σ, S, h, hI => by
    rw [Nat.sub_zero, List.drop_length]
    rw [Nat.sub_zero] at hI
    exact ⟨_, _, _, rfl, hend _ _ hI⟩
  | n + 1, σ, S, h, hI => by
    have hl : xs.length - (n + 1) < xs.length := by omega
    have hd : xs.drop (xs.length - (n + 1)) = xs[xs.length - (n + 1)] :: xs.drop (xs.length - n) := by
      rw [List.drop_eq_getElem_cons hl]
      have : xs.length - (n + 1) + 1 = xs.length - n := by omega
      rw [this]
    have hi : xs.length - (n + 1) + 1 = xs.length - n := by omega
    obtain ⟨σ1, S1, e1, fl, σ2, S2, e2, q⟩ := step _ _ σ S (List.getElem?_eq_getElem hl) hI
    rw [hi] at q
    rw [hd]
    unfold forL
    rw [e1]
    dsimp only
    rw [e2]
    cases fl with
    | nx => exact forL_wp I xs step hend n σ2 S2 (by omega) q
    | ct => exact forL_wp I xs step hend n σ2 S2 (by omega) q
    | bk => exact ⟨_, _, _, rfl, q⟩
    | rt x => exact ⟨_, _, _, rfl, q⟩
    | ex e => exact ⟨_, _, _, rfl, q⟩
theorem for_wp {ai : Sl → M Itm} {g : Av → AS} {b : AS} {xs : List Av} {σ : Sl} {S S1 : Sg} {Q : Fl → Sl → Sg → Prop} (I : Nat → Sl → Sg → Prop) (hi : ai σ S = some (.ok (itL xs), S1)) (hl : xs.length < 1000000) (h0 : I 0 σ S1)
    (step : ∀ i x σ S, xs[i]? = some x → I i σ S → ∃ σ1 S1, g x σ S = some (.nx, σ1, S1) ∧ ∃ fl σ' S', b σ1 S1 = some (fl, σ', S') ∧ (match fl with | .nx => I (i + 1) σ' S' | .ct => I (i + 1) σ' S' | .bk => Q .nx σ' S' | .rt x => Q (.rt x) σ' S' | .ex e => Q (.ex e) σ' S'))
    (hend : ∀ σ S, I xs.length σ S → Q .nx σ S) : ∃ fl σ' S', aFor ai g b σ S = some (fl, σ', S') ∧ Q fl σ' S' := by
  rw [aFor_list hi hl]
  have := forL_wp I xs step hend xs.length σ S1 (Nat.le_refl _) (by rw [Nat.sub_self]; exact h0)
  rwa [Nat.sub_self, List.drop_zero] at this
/-- a while by its measure -/
theorem wgo_wp {t : AT} {b : AS} {Q : Fl → Sl → Sg → Prop} (I : Nat → Sl → Sg → Prop)
    (step : ∀ m σ S, I m σ S → ∃ c S1, t σ S = some (.ok c, S1) ∧ (c = false → Q .nx σ S1) ∧ (c = true → ∃ fl σ' S', b σ S1 = some (fl, σ', S') ∧ (match fl with | .nx => ∃ m', m' < m ∧ I m' σ' S' | .ct => ∃ m', m' < m ∧ I m' σ' S' | .bk => Q .nx σ' S' | .rt x => Q (.rt x) σ' S' | .ex e => Q (.ex e) σ' S'))) :
    ∀ (n m : Nat) (σ : Sl) (S : Sg), m < n → I m σ S → ∃ fl σ' S', wgo t b n σ S = some (fl, σ', S') ∧ Q fl σ' S'
  | 0, m, σ, S, h, _ => by omega
  | n + 1, m, σ, S, h, hI => by
    obtain ⟨c, S1, e1, hf, ht⟩ := step m σ S hI
    unfold wgo stb
    rw [e1]
    cases c with
    | false => exact ⟨_, _, _, rfl, hf rfl⟩
    | true =>
      obtain ⟨fl, σ2, S2, e2, q⟩ := ht rfl
      dsimp only
      rw [if_pos rfl, e2]
      cases fl with
      | nx => obtain ⟨m', hm, hI'⟩ := q; exact wgo_wp I step n m' σ2 S2 (by omega) hI'
      | ct => obtain ⟨m', hm, hI'⟩ := q; exact wgo_wp I step n m' σ2 S2 (by omega) hI'
      | bk => exact ⟨_, _, _, rfl, q⟩
      | rt x => exact ⟨_, _, _, rfl, q⟩
      | ex e => exact ⟨_, _, _, rfl, q⟩
theorem while_wp {t : AT} {b : AS} {σ : Sl} {S : Sg} {Q : Fl → Sl → Sg → Prop} (I : Nat → Sl → Sg → Prop) (m : Nat) (hm : m < 1000000) (h0 : I m σ S)
    (step : ∀ m σ S, I m σ S → ∃ c S1, t σ S = some (.ok c, S1) ∧ (c = false → Q .nx σ S1) ∧ (c = true → ∃ fl σ' S', b σ S1 = some (fl, σ', S') ∧ (match fl with | .nx => ∃ m', m' < m ∧ I m' σ' S' | .ct => ∃ m', m' < m ∧ I m' σ' S' | .bk => Q .nx σ' S' | .rt x => Q (.rt x) σ' S' | .ex e => Q (.ex e) σ' S'))) :
    ∃ fl σ' S', aWhile t b σ S = some (fl, σ', S') ∧ Q fl σ' S' := wgo_wp I step fu m σ S hm h0
/-! ranges are lists -/
theorem itR_eq (lo : Int) (n : Nat) : itR lo n = itL ((rangeD lo n).map .d) := by
  funext i S
  unfold itR itL rangeD
  rw [List.map_map, List.getElem?_map]
  by_cases h : i < n
  · rw [if_pos h, List.getElem?_range h]; rfl
  · rw [if_neg h, List.getElem?_eq_none (by rw [List.length_range]; omega)]; rfl
theorem signs_eq (z : Str) : (z.cps.toList.map fun c => Av.d (signD c)) = (z.cps.toList.map signD).map .d := by rw [List.map_map]; rfl
/-! comprehensions -/
theorem lgo_pure (g : Av → AS) (tt : AT) (e : AE) (σ : Sl) (S : Sg) (xs : List Av) (f : Av → Bool) (h : Av → Av) (hb : ∀ x ∈ xs, ∃ σ1, g x σ S = some (.nx, σ1, S) ∧ tt σ1 S = some (.ok (f x), S) ∧ (f x = true → e σ1 S = some (.ok (h x), S))) :
    ∀ (n i : Nat) (acc : List Av), i ≤ xs.length → xs.length < i + n → acc.length + (xs.length - i) ≤ 100000 → lgo (itL xs) g tt e σ n i acc S = some (acc ++ ((xs.drop i).filter f).map h, S)
  | 0, i, acc, h0, h1, _ => by omega
  | n + 1, i, acc, h0, h1, h2 => by
    unfold lgo
    by_cases hl : i < xs.length
    · have hd : xs.drop i = xs[i] :: xs.drop (i + 1) := List.drop_eq_getElem_cons hl
      have hx : itL xs i S = some (some xs[i]) := by unfold itL; rw [List.getElem?_eq_getElem hl]
      obtain ⟨σ1, e1, e2, e3⟩ := hb xs[i] (List.getElem_mem hl)
      rw [hd, hx]
      dsimp only
      rw [e1]
      dsimp only
      rw [e2]
      cases hf : f xs[i] with
      | true =>
        dsimp only
        rw [e3 hf]
        dsimp only
        rw [if_pos (by omega), lgo_pure g tt e σ S xs f h hb n (i + 1) _ hl (by omega) (by rw [List.length_append, List.length_singleton]; omega), List.filter_cons, hf, if_pos rfl, List.map_cons, List.append_assoc]
        rfl
      | false =>
        dsimp only
        rw [lgo_pure g tt e σ S xs f h hb n (i + 1) _ hl (by omega) (by omega), List.filter_cons, hf]
        rfl
    · have e : xs.drop i = [] := List.drop_eq_nil_of_le (by omega)
      have hx : itL xs i S = some none := by unfold itL; rw [List.getElem?_eq_none (by omega)]
      rw [e, hx]
      simp
theorem filter_map_d (f : Av → Bool) (h : D → D) (ds : List D) (hh : Av → Av) (e : ∀ d ∈ ds, hh (.d d) = .d (h d)) : ((ds.map Av.d).filter f).map hh = ((ds.filter fun d => f (.d d)).map h).map .d := by
  induction ds with
  | nil => rfl
  | cons d ds ih =>
    have ih := ih fun d hd => e d (List.mem_cons_of_mem _ hd)
    rw [List.map_cons, List.filter_cons, List.filter_cons]
    cases f (.d d) with
    | true => rw [if_pos rfl, if_pos rfl, List.map_cons, List.map_cons, List.map_cons, ih, e d (List.mem_cons_self ..)]
    | false => exact ih
/-- a comprehension over data that stay, elements plain -/
theorem aLc_map {ai : Sl → M Itm} {g : Av → AS} {tt : AT} {e : AE} {vs : List Nat} {σ : Sl} {S : Sg} {ds : List D} (f : D → Bool) (h : D → D) (hi : ai σ S = some (.ok (itL (ds.map .d)), S)) (hl : ds.length ≤ 100000)
    (hb : ∀ d ∈ ds, ∃ σ1, g (.d d) (wipeA σ vs) S = some (.nx, σ1, S) ∧ tt σ1 S = some (.ok (f d), S) ∧ (f d = true → e σ1 S = some (.ok (.d (h d)), S))) :
    aLc lcF ai g tt e vs σ S = some (.ok (.d (.list ((ds.filter f).map h))), S) := by
  have hq : lgo (itL (ds.map .d)) g tt e (wipeA σ vs) fu 0 [] S = some ((((ds.filter f).map h).map .d), S) := by
    have := lgo_pure g tt e (wipeA σ vs) S (ds.map .d) (fun x => match x with | .d d => f d | _ => false) (fun x => match x with | .d d => .d (h d) | x => x) (fun x hx => by
      obtain ⟨d, hd, rfl⟩ := List.mem_map.mp hx
      obtain ⟨σ1, e1, e2, e3⟩ := hb d hd
      exact ⟨σ1, e1, e2, e3⟩) fu 0 [] (Nat.zero_le _) (by rw [List.length_map]; show ds.length < 0 + 1000000; omega) (by rw [List.length_map]; show 0 + (ds.length - 0) ≤ 100000; omega)
    rw [this, List.drop_zero, List.nil_append, filter_map_d _ h _ _ (fun d _ => rfl)]
  unfold aLc bnd lf
  rw [hi]
  dsimp only
  rw [hq]
  dsimp only
  unfold lcF
  rw [allD_map]
  rfl
theorem aLc_map1 {ai : Sl → M Itm} {g : Av → AS} {e : AE} {vs : List Nat} {σ : Sl} {S : Sg} {ds : List D} (h : D → D) (hi : ai σ S = some (.ok (itL (ds.map .d)), S)) (hl : ds.length ≤ 100000)
    (hb : ∀ d ∈ ds, ∃ σ1, g (.d d) (wipeA σ vs) S = some (.nx, σ1, S) ∧ e σ1 S = some (.ok (.d (h d)), S)) :
    aLc lcF ai g aYes e vs σ S = some (.ok (.d (.list (ds.map h))), S) := by
  have := aLc_map (tt := aYes) (fun _ => true) h hi hl (fun d hd => by
    obtain ⟨σ1, e1, e2⟩ := hb d hd
    exact ⟨σ1, e1, rfl, fun _ => e2⟩)
  rwa [filter_all] at this
/-! pure calls -/
theorem aCallP_ok {f : AF} {t : AA} {σ : Sl} {S S1 : Sg} {ds : List D} {r : D} (h1 : t σ S = some (.ok (ds.map .d), S1)) (h2 : pf f ds = some (.ok r)) : aCallP f t σ S = some (.ok (.d r), S1) := by
  unfold aCallP bnd
  rw [h1]
  dsimp only
  rw [allD_map]
  dsimp only
  rw [h2]
theorem pf_def {np n : Nat} {b : AS} {ds : List D} (h : ds.length = np) : pf (aDef np n b) ds = match b ((ds.map Av.d).map some ++ List.replicate (n - np) none) [] with
    | some (.rt (.d x), _, _) => some (.ok x)
    | some (.nx, _, _) => some (.ok .none)
    | some (.ex e, _, _) => some (.ex e)
    | _ => none := by
  unfold pf aDef
  rw [if_pos (by rw [List.length_map]; exact h)]
  cases b ((ds.map Av.d).map some ++ List.replicate (n - np) none) [] with
  | none => rfl
  | some p =>
    obtain ⟨fl, σ, S⟩ := p
    cases fl with
    | rt x => cases x <;> rfl
    | _ => rfl
/-- a pure def by a statement about its body -/
theorem pf_wp {np n : Nat} {b : AS} {ds : List D} {r : D} (h : ds.length = np) (hb : ∃ fl σ' S', b ((ds.map Av.d).map some ++ List.replicate (n - np) none) [] = some (fl, σ', S') ∧ (match fl with | .rt x => x = .d r | .nx => r = .none | _ => False)) : pf (aDef np n b) ds = some (.ok r) := by
  rw [pf_def h]
  obtain ⟨fl, σ', S', e, q⟩ := hb
  rw [e]
  cases fl with
  | rt x => cases q; rfl
  | nx => cases q; rfl
  | _ => exact q.elim
end Ly
/-! LyZ: mirrors run step by step. -/
namespace Ly
open PySem L2 Evl PyProof.Rows
section
variable {σ : Sl} {S S1 S2 S3 : Sg} {a b c : AE} {t : AA} {u v : AT} {x y z : Av} {xs : List Av} {f g : Av → Av → Op0} {d e r : D} {p q : Bool} {i j : Nat}
/-! values -/
theorem e_var (h : σ[i]? = some (some x)) : aVar i σ S = some (.ok x, S) := by unfold aVar; rw [h]
theorem e_D : aD d σ S = some (.ok (.d d), S) := rfl
theorem e_op (ha : a σ S = some (.ok x, S1)) (hb : b σ S1 = some (.ok y, S2)) (hf : f x y S2 = some (z, S3)) : aOp f a b σ S = some (.ok z, S3) := by
  unfold aOp; rw [bnd_ok ha, bnd_ok hb]; unfold lf; rw [hf]
theorem e_un {f : Av → Op0} (ha : a σ S = some (.ok x, S1)) (hf : f x S1 = some (z, S2)) : aUn f a σ S = some (.ok z, S2) := by
  unfold aUn; rw [bnd_ok ha]; unfold lf; rw [hf]
theorem es_nil : aNil σ S = some (.ok [], S) := rfl
theorem es_cons (ha : a σ S = some (.ok x, S1)) (ht : t σ S1 = some (.ok xs, S2)) : aCons a t σ S = some (.ok (x :: xs), S2) := by
  unfold aCons; rw [bnd_ok ha, bnd_ok ht]; rfl
theorem e_cb {f : List Av → Op0} (ht : t σ S = some (.ok xs, S1)) (hf : f xs S1 = some (z, S2)) : aCB f t σ S = some (.ok z, S2) := by
  unfold aCB; rw [bnd_ok ht]; unfold lf; rw [hf]
theorem e_bmL {f : Av → List Av → Op0} (ha : a σ S = some (.ok x, S1)) (hl : isL S1 x = true) (ht : t σ S1 = some (.ok xs, S2)) (hf : f x xs S2 = some (z, S3)) : aBML f a t σ S = some (.ok z, S3) := by
  unfold aBML; rw [bnd_ok ha]; (try dsimp only); rw [if_pos hl, bnd_ok ht]; unfold lf; rw [hf]
theorem e_bmS {f : Av → List Av → Op0} (ha : a σ S = some (.ok x, S1)) (hl : isS x = true) (ht : t σ S1 = some (.ok xs, S2)) (hf : f x xs S2 = some (z, S3)) : aBMS f a t σ S = some (.ok z, S3) := by
  unfold aBMS; rw [bnd_ok ha]; (try dsimp only); rw [if_pos hl, bnd_ok ht]; unfold lf; rw [hf]
theorem e_bmX {f : Av → List Av → Op0} (ha : a σ S = some (.ok x, S1)) (hl : isX S1 x = true) (ht : t σ S1 = some (.ok xs, S2)) (hf : f x xs S2 = some (z, S3)) : aBMX f a t σ S = some (.ok z, S3) := by
  unfold aBMX; rw [bnd_ok ha]; (try dsimp only); rw [if_pos hl, bnd_ok ht]; unfold lf; rw [hf]
theorem e_tup {ds : List D} (ht : t σ S = some (.ok xs, S1)) (h : allD xs = some ds) (hl : xs.length ≤ 100000) : aTup t σ S = some (.ok (.d (.tuple ds)), S1) := by
  unfold aTup; rw [bnd_ok ht]; unfold lf mkTup; rw [if_pos hl, h]; rfl
theorem e_lstF {ds : List D} (ht : t σ S = some (.ok xs, S1)) (h : allD xs = some ds) (hl : xs.length ≤ 100000) : aLstF t σ S = some (.ok (.d (.list ds)), S1) := by
  unfold aLstF; rw [bnd_ok ht]; unfold lf mkLstF; rw [if_pos hl, h]; rfl
theorem e_lstC (ht : t σ S = some (.ok xs, S1)) (hl : xs.length ≤ 100000) : aLstC t σ S = some (.ok (.o S1.length), S1 ++ [.lst xs]) := by
  unfold aLstC; rw [bnd_ok ht]; unfold lf mkLstC; rw [if_pos hl]
theorem e_callP {f : AF} {ds : List D} (ht : t σ S = some (.ok xs, S1)) (h : allD xs = some ds) (hp : pf f ds = some (.ok r)) : aCallP f t σ S = some (.ok (.d r), S1) := by
  rw [allD_inv h] at ht
  exact aCallP_ok ht hp
theorem e_callN {f : AF} {ds : List D} (ht : t σ S = some (.ok xs, S1)) (h : dvs S1 xs = some ds) (hp : pf f ds = some (.ok r)) (hs : isSc r = true) : aCallN f t σ S = some (.ok (.d r), S1) := by
  unfold aCallN; rw [bnd_ok ht]; (try dsimp only); rw [h]; (try dsimp only); rw [hp]; (try dsimp only); rw [if_pos hs]
theorem e_call {f : AF} {rr : Rs Av} (ht : t σ S = some (.ok xs, S1)) (hp : f xs S1 = some (rr, S2)) : aCall f t σ S = some (rr, S2) := by
  unfold aCall; rw [bnd_ok ht]; exact hp
theorem e_isi {n tn : String} (ha : a σ S = some (.ok x, S1)) (h1 : tyA S1 x = some tn) (h2 : kitB tn n = some p) : aIsi n a σ S = some (.ok (.d (.bool p)), S1) := by
  unfold aIsi; rw [bnd_ok ha]; (try dsimp only); rw [h1]; (try dsimp only); rw [h2]
theorem e_sl {lo hi : Sl → M (Option Int)} {l h : Option Int} (ha : a σ S = some (.ok (.d d), S)) (hl : lo σ S = some (.ok l, S)) (hh : hi σ S = some (.ok h, S)) (hf : fSl d l h = some r) : aSl a lo hi σ S = some (.ok (.d r), S) := by
  unfold aSl; rw [bnd_ok ha, bnd_ok hl, bnd_ok hh]; (try dsimp only); rw [hf]; rfl
theorem o_N : aoN σ S = some (.ok none, S) := rfl
theorem o_S {n : Int} (ha : a σ S = some (.ok (.d (.int n)), S)) : aoS a σ S = some (.ok (some n), S) := by unfold aoS; rw [bnd_ok ha]
theorem e_frzD (ha : a σ S = some (.ok (.d d), S1)) : aFrz a σ S = some (.ok (.d d), S1) := by unfold aFrz; rw [bnd_ok ha]; rfl
theorem e_frz {ds : List D} (ha : a σ S = some (.ok (.o j), S1)) (h : S1[j]? = some (.lst (ds.map .d))) : aFrz a σ S = some (.ok (.d (.list ds)), S1.set j .gone) := by
  unfold aFrz; rw [bnd_ok ha]; unfold lf frzO; (try dsimp only); rw [h]; (try dsimp only); rw [allD_map]; rfl
theorem e_fld {cs : List Str} {fn cn : Str} {fs : List (Str × Av)} (ha : a σ S = some (.ok (.o j), S1)) (h : S1[j]? = some (.ins cn fs)) (hm : cn ∈ cs) (hl : fs.lookup fn = some x) : aFld cs fn a σ S = some (.ok x, S1) := by
  unfold aFld; rw [bnd_ok ha]; (try dsimp only); rw [h]; (try dsimp only); rw [if_pos hm, hl]; rfl
theorem e_meth {cn m : Str} {f : AF} {fs : List (Str × Av)} {rr : Rs Av} (ha : a σ S = some (.ok (.o j), S1)) (h : S1[j]? = some (.ins cn fs)) (hm : fs.lookup m = none) (ht : t σ S1 = some (.ok xs, S2)) (hf : f (.o j :: xs) S2 = some (rr, S3)) : aMeth cn m f a t σ S = some (rr, S3) := by
  unfold aMeth; rw [bnd_ok ha]; (try dsimp only); rw [h]; (try dsimp only); rw [if_pos ⟨rfl, hm⟩, bnd_ok ht]; exact hf
theorem e_make {cn : Str} {f : AF} (ht : t σ S = some (.ok xs, S1)) (hf : f (.o S1.length :: xs) (S1 ++ [.ins cn []]) = some (.ok (.d .none), S2)) : aMake cn f t σ S = some (.ok (.o S1.length), S2) := by
  unfold aMake; rw [bnd_ok ht]; (try dsimp only); rw [hf]
/-! truths -/
theorem t_B (ha : a σ S = some (.ok (.d (.bool p)), S1)) : aB a σ S = some (.ok p, S1) := by unfold aB; rw [bnd_ok ha]; rfl
theorem t_and (h1 : u σ S = some (.ok p, S)) (h2 : p = true → v σ S = some (.ok q, S)) : aAnd u v σ S = some (.ok (p && q), S) := by
  unfold aAnd; rw [bnd_ok h1]
  cases p with
  | true => rw [if_pos rfl]; exact h2 rfl
  | false => rfl
theorem t_or (h1 : u σ S = some (.ok p, S)) (h2 : p = false → v σ S = some (.ok q, S)) : aOr u v σ S = some (.ok (p || q), S) := by
  unfold aOr; rw [bnd_ok h1]
  cases p with
  | false => exact h2 rfl
  | true => rfl
theorem t_not (h1 : u σ S = some (.ok p, S1)) : aNot u σ S = some (.ok (!p), S1) := by unfold aNot; rw [bnd_ok h1]; rfl
theorem t_to (h : u σ S = some (.ok p, S1)) (e : p = q) : u σ S = some (.ok q, S1) := e ▸ h
theorem e_to (h : a σ S = some (.ok x, S1)) (e : x = y) : a σ S = some (.ok y, S1) := e ▸ h
theorem e_andV (h1 : a σ S = some (.ok (.d (.bool p)), S)) (h2 : p = true → b σ S = some (.ok (.d (.bool q)), S)) : aAndV a b σ S = some (.ok (.d (.bool (p && q))), S) := by
  unfold aAndV; rw [bnd_ok h1]
  cases p with
  | true => exact h2 rfl
  | false => rfl
theorem e_orV (h1 : a σ S = some (.ok (.d (.bool p)), S)) (h2 : p = false → b σ S = some (.ok (.d (.bool q)), S)) : aOrV a b σ S = some (.ok (.d (.bool (p || q))), S) := by
  unfold aOrV; rw [bnd_ok h1]
  cases p with
  | false => exact h2 rfl
  | true => rfl
theorem e_notV (h1 : a σ S = some (.ok (.d (.bool p)), S1)) : aNotV a σ S = some (.ok (.d (.bool (!p))), S1) := by unfold aNotV; rw [bnd_ok h1]; rfl
theorem e_ifT (h : u σ S = some (.ok p, S1)) (hp : p = true) (ha : a σ S1 = some (.ok x, S2)) : aIf u a b σ S = some (.ok x, S2) := by subst hp; unfold aIf; rw [bnd_ok h]; exact ha
theorem e_ifF (h : u σ S = some (.ok p, S1)) (hp : p = false) (ha : b σ S1 = some (.ok x, S2)) : aIf u a b σ S = some (.ok x, S2) := by subst hp; unfold aIf; rw [bnd_ok h]; exact ha
theorem e_if (h : u σ S = some (.ok p, S)) (ha : p = true → a σ S = some (.ok (.d d), S)) (hb : p = false → b σ S = some (.ok (.d e), S)) : aIf u a b σ S = some (.ok (.d (if p = true then d else e)), S) := by
  unfold aIf; rw [bnd_ok h]
  cases p with
  | true => exact ha rfl
  | false => exact hb rfl
theorem e_chain (ha : a σ S = some (.ok x, S)) (hb : b σ S = some (.ok y, S)) (hf : f x y S = some (.d (.bool p), S)) (hc : p = true → c σ S = some (.ok z, S)) (hg : p = true → g y z S = some (.d (.bool q), S)) : aChain f g a b c σ S = some (.ok (.d (.bool (p && q))), S) := by
  unfold aChain; rw [bnd_ok ha, bnd_ok hb]
  have e1 : lf (f x y) S = some (.ok (.d (.bool p)), S) := by unfold lf; rw [hf]
  rw [bnd_ok e1]
  have e2 : asB (.d (.bool p)) S = some (.ok p, S) := rfl
  rw [bnd_ok e2]
  cases p with
  | true => rw [if_pos rfl, bnd_ok (hc rfl)]; unfold lf; rw [hg rfl]; rfl
  | false => rfl
/-! operations -/
theorem f_D {f : D → D → Option D} (h : f d e = some r) : opD f (.d d) (.d e) S = some (.d r, S) := by unfold opD; (try dsimp only); rw [h]; rfl
theorem f_U {f : D → Option D} (h : f d = some r) : unD f (.d d) S = some (.d r, S) := by unfold unD; (try dsimp only); rw [h]; rfl
theorem f_B {f : D → D → Option Bool} (h1 : dvn 4 S x = some d) (h2 : dvn 4 S y = some e) (h : f d e = some p) : opB f x y S = some (.d (.bool p), S) := by unfold opB; rw [h1, h2]; (try dsimp only); rw [h]; rfl
theorem f_Bn {f : D → D → Option Bool} (h1 : dvn 4 S x = some d) (h2 : dvn 4 S y = some e) (h : f d e = some p) : opBn f x y S = some (.d (.bool (!p)), S) := by unfold opBn; rw [h1, h2]; (try dsimp only); rw [h]; rfl
theorem f_ixD (h : fIx d e = some r) : opIx (.d d) (.d e) S = some (.d r, S) := by unfold opIx; (try dsimp only); rw [h]; rfl
theorem f_ixL {xs : List Av} {n : Int} (h : S[j]? = some (.lst xs)) (h2 : atI xs n = some x) : opIx (.o j) (.d (.int n)) S = some (x, S) := by
  unfold opIx; (try dsimp only); rw [h]; dsimp only; unfold peel getC; (try dsimp only); rw [h2]; rfl
theorem f_ixC {cl : Cl} (h : S[j]? = some cl) (h2 : getC (peel cl) d = some x) : opIx (.o j) (.d d) S = some (x, S) := by
  unfold opIx; (try dsimp only); rw [h]; (try dsimp only); rw [h2]; rfl
theorem f_cbD {f : List D → Option D} {ds : List D} (h1 : allD xs = some ds) (h : f ds = some r) : cbD f xs S = some (.d r, S) := by unfold cbD; rw [h1]; (try dsimp only); rw [h]; rfl
theorem f_lenD (h : fLen [d] = some r) : cbLen [.d d] S = some (.d r, S) := by unfold cbLen; (try dsimp only); rw [h]; rfl
theorem f_lenC {cl : Cl} {n : Nat} (h : S[j]? = some cl) (h2 : lenC (peel cl) = some n) : cbLen [.o j] S = some (.d (.int (n : Nat)), S) := by unfold cbLen; (try dsimp only); rw [h]; (try dsimp only); rw [h2]; rfl
theorem f_bmD {f : D → List D → Option D} {ds : List D} (h1 : dvs S xs = some ds) (h : f d ds = some r) : bmD f (.d d) xs S = some (.d r, S) := by unfold bmD; rw [h1]; (try dsimp only); rw [h]; rfl
theorem f_in {neg : Bool} (h : inB S x y = some p) : opIn neg x y S = some (.d (.bool (if neg = true then !p else p)), S) := by unfold opIn; rw [h]; rfl
theorem f_inF (h : inB S x y = some p) : opIn false x y S = some (.d (.bool p), S) := f_in h
theorem f_inT (h : inB S x y = some p) : opIn true x y S = some (.d (.bool (!p)), S) := f_in h
theorem f_tup {ds : List D} (h : seqD S x = some ds) : cbTup [x] S = some (.d (.tuple ds), S) := by unfold cbTup; (try dsimp only); rw [h]; rfl
theorem f_lst {ds : List D} (h : seqD S x = some ds) : cbLstF [x] S = some (.d (.list ds), S) := by unfold cbLstF; (try dsimp only); rw [h]; rfl
theorem f_mdL {f : List Av → List Av → Option (Av × List Av)} {ys zs : List Av} (h : S[j]? = some (.lst xs)) (hf : f xs ys = some (z, zs)) : mdL f (.o j) ys S = some (z, S.set j (.lst zs)) := by unfold mdL; (try dsimp only); rw [h]; (try dsimp only); rw [hf]; rfl
theorem fMod_s {i j : Int} (h : 0 < j) : fMod (.int i) (.int j) = some (.int (i % j)) := by unfold fMod; (try dsimp only); rw [if_pos h]
theorem fShr_s {i j : Int} (h : 0 ≤ j) : fShr (.int i) (.int j) = some (.int (i / 2 ^ j.toNat)) := by unfold fShr; (try dsimp only); rw [if_pos h]
theorem fBand_s {i : Int} : fBand (.int i) (.int 2147483647) = some (.int (i % 2147483648)) := rfl
theorem fMul_l {i j : Int} (h : -(2 ^ 64) < i ∧ i < 2 ^ 64) : fMul (.int i) (.int j) = some (.int (i * j)) := by unfold fMul; (try dsimp only); rw [if_pos (.inl (.inl h))]
theorem fMul_r {i j : Int} (h : -(2 ^ 64) < j ∧ j < 2 ^ 64) : fMul (.int i) (.int j) = some (.int (i * j)) := by unfold fMul; (try dsimp only); rw [if_pos (.inl (.inr h))]
theorem fMul_W {i j : Int} (h : CMulX i j) : fMul (.int i) (.int j) = some (.int (i * j)) := by unfold fMul; (try dsimp only); rw [if_pos (.inr h)]
theorem fDiv_s {i j : Int} (h : 0 < j ∧ j < 1073741824) : fDiv (.int i) (.int j) = some (.int (i / j)) := by unfold fDiv; (try dsimp only); rw [if_pos (.inl h)]
theorem fDiv_W {i j : Int} (h : CDivW i j) : fDiv (.int i) (.int j) = some (.int (i / j)) := by unfold fDiv; (try dsimp only); rw [if_pos (.inr h)]
theorem fPow_s {i j : Int} (h : 0 ≤ j ∧ j ≤ 1000000 ∧ i.natAbs < 2 ^ 64) : fPow (.int i) (.int j) = some (.int (i ^ j.toNat)) := by unfold fPow; (try dsimp only); rw [if_pos h]
theorem fAdd_str {x y : Str} (h : x.length + y.length ≤ 100000) : fAdd (.str x) (.str y) = some (.str (x ++ y)) := by unfold fAdd; (try dsimp only); rw [if_pos h]
theorem fAdd_tup {x y : List D} (h : x.length + y.length ≤ 100000) : fAdd (.tuple x) (.tuple y) = some (.tuple (x ++ y)) := by unfold fAdd; (try dsimp only); rw [if_pos h]
theorem fAdd_lst {x y : List D} (h : x.length + y.length ≤ 100000) : fAdd (.list x) (.list y) = some (.list (x ++ y)) := by unfold fAdd; (try dsimp only); rw [if_pos h]
theorem fLen_str {z : Str} (h : z.length ≤ 100000) : fLen [.str z] = some (.int (z.length : Nat)) := by unfold fLen; (try dsimp only); rw [if_pos h]
theorem fIx_str {z : Str} {n : Int} {c : Nat} (h : z.length ≤ 100000) (h2 : atI z.cps.toList n = some c) : fIx (.str z) (.int n) = some (.str ⟨#[c]⟩) := by unfold fIx; (try dsimp only); rw [if_pos h, h2]; rfl
theorem fSl_str {z : Str} {l h : Option Int} (hz : z.length ≤ 100000) : fSl (.str z) l h = some (.str (cutS z l h)) := by unfold fSl; (try dsimp only); rw [if_pos hz]
theorem fIn_list {d : D} {ds : List D} (h1 : SeqAt.shaped d = true) (h2 : SeqAt.shaped (.list ds) = true) : fIn d (.list ds) = some (ds.any fun z => PyData.eqv z d) := by
  have e : fIn d (.list ds) = if SeqAt.shaped d = true ∧ SeqAt.shaped (.list ds) = true then some (ds.any fun z => PyData.eqv z d) else none := by cases d <;> rfl
  rw [e, if_pos ⟨h1, h2⟩]
/-! statements -/
def wS (s : AS) (σ : Sl) (S : Sg) (Q : Fl → Sl → Sg → Prop) : Prop := ∃ fl σ' S', s σ S = some (fl, σ', S') ∧ Q fl σ' S'
def sq (t : AS) (Q : Fl → Sl → Sg → Prop) : Fl → Sl → Sg → Prop := fun fl σ S => match fl with
  | .nx => wS t σ S Q
  | .bk => Q .bk σ S
  | .ct => Q .ct σ S
  | .rt x => Q (.rt x) σ S
  | .ex e => Q (.ex e) σ S
section
variable {Q : Fl → Sl → Sg → Prop} {s s' t' : AS}
theorem wseq (h : wS s σ S (sq t' Q)) : wS (aSeq s t') σ S Q := by
  obtain ⟨fl, σ1, S1, e, q⟩ := h
  unfold wS aSeq
  rw [e]
  cases fl with
  | nx => exact q
  | bk => exact ⟨_, _, _, rfl, q⟩
  | ct => exact ⟨_, _, _, rfl, q⟩
  | rt x => exact ⟨_, _, _, rfl, q⟩
  | ex e => exact ⟨_, _, _, rfl, q⟩
theorem wset (ha : a σ S = some (.ok x, S1)) (k : Q .nx (σ.set i (some x)) S1) : wS (aAsg a (agName i)) σ S Q := by
  refine ⟨_, _, _, ?_, k⟩
  unfold aAsg stb; rw [ha]; rfl
theorem vset (ha : a σ S = some (.ok x, S1)) (k : wS t' (σ.set i (some x)) S1 Q) : wS (aSeq (aAsg a (agName i)) t') σ S Q := wseq (wset ha k)
theorem wdrop (ha : a σ S = some (.ok x, S1)) (k : Q .nx σ S1) : wS (aDrop a) σ S Q := by
  refine ⟨_, _, _, ?_, k⟩
  unfold aDrop stb; rw [ha]
theorem vdrop (ha : a σ S = some (.ok x, S1)) (k : wS t' σ S1 Q) : wS (aSeq (aDrop a) t') σ S Q := wseq (wdrop ha k)
theorem wret (ha : a σ S = some (.ok x, S1)) (k : Q (.rt x) σ S1) : wS (aRet a) σ S Q := by
  refine ⟨_, _, _, ?_, k⟩
  unfold aRet stb; rw [ha]
theorem wretN (k : Q (.rt (.d .none)) σ S) : wS aRetN σ S Q := ⟨_, _, _, rfl, k⟩
theorem wnext (k : Q .nx σ S) : wS aNext σ S Q := ⟨_, _, _, rfl, k⟩
theorem wbrk (k : Q .bk σ S) : wS aBreak σ S Q := ⟨_, _, _, rfl, k⟩
theorem wcnt (k : Q .ct σ S) : wS aCont σ S Q := ⟨_, _, _, rfl, k⟩
theorem wraise {c : Str} (k : Q (.ex ⟨c, none⟩) σ S) : wS (aRaise c) σ S Q := ⟨_, _, _, rfl, k⟩
/-- an expression that raises -/
theorem wset_ex {e : Xn} (ha : a σ S = some (.ex e, S1)) (k : Q (.ex e) σ S1) : wS (aAsg a (agName i)) σ S Q := by
  refine ⟨_, _, _, ?_, k⟩
  unfold aAsg stb; rw [ha]
theorem wdrop_ex {e : Xn} (ha : a σ S = some (.ex e, S1)) (k : Q (.ex e) σ S1) : wS (aDrop a) σ S Q := by
  refine ⟨_, _, _, ?_, k⟩
  unfold aDrop stb; rw [ha]
theorem wret_ex {e : Xn} (ha : a σ S = some (.ex e, S1)) (k : Q (.ex e) σ S1) : wS (aRet a) σ S Q := by
  refine ⟨_, _, _, ?_, k⟩
  unfold aRet stb; rw [ha]
theorem wifS (h : u σ S = some (.ok p, S1)) (h1 : p = true → wS s σ S1 Q) (h2 : p = false → wS s' σ S1 Q) : wS (aIfS u s s') σ S Q := by
  cases p with
  | true =>
    obtain ⟨fl, σ1, S2, e, q⟩ := h1 rfl
    refine ⟨fl, σ1, S2, ?_, q⟩
    unfold aIfS stb; rw [h]; exact e
  | false =>
    obtain ⟨fl, σ1, S2, e, q⟩ := h2 rfl
    refine ⟨fl, σ1, S2, ?_, q⟩
    unfold aIfS stb; rw [h]; exact e
theorem vifS (h : u σ S = some (.ok p, S1)) (h1 : p = true → wS s σ S1 (sq t' Q)) (h2 : p = false → wS s' σ S1 (sq t' Q)) : wS (aSeq (aIfS u s s') t') σ S Q := wseq (wifS h h1 h2)
theorem vwhenS (h : u σ S = some (.ok p, S1)) (h1 : p = true → wS s σ S1 (sq t' Q)) (h2 : p = false → wS t' σ S1 Q) : wS (aSeq (aIfS u s aNext) t') σ S Q := vifS h h1 fun e => wnext (h2 e)
theorem wwhenS (h : u σ S = some (.ok p, S1)) (h1 : p = true → wS s σ S1 Q) (h2 : p = false → Q .nx σ S1) : wS (aIfS u s aNext) σ S Q := wifS h h1 fun e => wnext (h2 e)
theorem wif (h : u σ S = some (.ok p, S)) (h1 : p = true → wS s σ S Q) (h2 : p = false → wS s' σ S Q) : wS (aIfS u s s') σ S Q := wifS h h1 h2
theorem vif (h : u σ S = some (.ok p, S)) (h1 : p = true → wS s σ S (sq t' Q)) (h2 : p = false → wS s' σ S (sq t' Q)) : wS (aSeq (aIfS u s s') t') σ S Q := vifS h h1 h2
theorem vwhen (h : u σ S = some (.ok p, S)) (h1 : p = true → wS s σ S (sq t' Q)) (h2 : p = false → wS t' σ S Q) : wS (aSeq (aIfS u s aNext) t') σ S Q := vwhenS h h1 h2
theorem wwhen (h : u σ S = some (.ok p, S)) (h1 : p = true → wS s σ S Q) (h2 : p = false → Q .nx σ S) : wS (aIfS u s aNext) σ S Q := wwhenS h h1 h2
theorem wsub {o l : AE} (ha : a σ S = some (.ok x, S1)) (ho : o σ S1 = some (.ok y, S2)) (hl : l σ S2 = some (.ok z, S3)) {S4 : Sg} (hs : Ly.stM y z x S3 = some S4) (k : Q .nx σ S4) : wS (aAsg a (agSub o l Ly.stM)) σ S Q := by
  refine ⟨_, _, _, ?_, k⟩
  unfold aAsg stb; rw [ha]; dsimp only
  unfold agSub stb; rw [ho]; dsimp only; rw [hl]; dsimp only; rw [hs]; rfl
theorem vsub {o l : AE} (ha : a σ S = some (.ok x, S1)) (ho : o σ S1 = some (.ok y, S2)) (hl : l σ S2 = some (.ok z, S3)) {S4 : Sg} (hs : Ly.stM y z x S3 = some S4) (k : wS t' σ S4 Q) : wS (aSeq (aAsg a (agSub o l Ly.stM)) t') σ S Q := wseq (wsub ha ho hl hs k)
theorem waug {ff : Int → Int → Int} {m n : Int} (hx : σ[i]? = some (some (.d (.int m)))) (ha : a σ S = some (.ok (.d (.int n)), S1)) (k : Q .nx (σ.set i (some (.d (.int (ff m n))))) S1) : wS (aAug i a (ipI2 ff)) σ S Q := by
  refine ⟨_, _, _, ?_, k⟩
  unfold aAug; rw [hx]; dsimp only; unfold stb; rw [bnd_ok ha]; rfl
theorem vaug {ff : Int → Int → Int} {m n : Int} (hx : σ[i]? = some (some (.d (.int m)))) (ha : a σ S = some (.ok (.d (.int n)), S1)) (k : wS t' (σ.set i (some (.d (.int (ff m n))))) S1 Q) : wS (aSeq (aAug i a (ipI2 ff)) t') σ S Q := wseq (waug hx ha k)
theorem wasg2 {d1 d2 : D} {i j : Nat} (ha : a σ S = some (.ok (.d (.tuple [d1, d2])), S1)) (k : Q .nx ((σ.set i (some (.d d1))).set j (some (.d d2))) S1) : wS (aAsg a (agTup 2 (agCons (agName i) (agCons (agName j) agNil)))) σ S Q := by
  refine ⟨_, _, _, ?_, k⟩
  unfold aAsg stb; rw [ha]; rfl
theorem vasg2 {d1 d2 : D} {i j : Nat} (ha : a σ S = some (.ok (.d (.tuple [d1, d2])), S1)) (k : wS t' ((σ.set i (some (.d d1))).set j (some (.d d2))) S1 Q) : wS (aSeq (aAsg a (agTup 2 (agCons (agName i) (agCons (agName j) agNil)))) t') σ S Q := wseq (wasg2 ha k)
theorem wfld {o : AE} {cs : List Str} {fn cn : Str} {fs : List (Str × Av)} (ha : a σ S = some (.ok x, S1)) (ho : o σ S1 = some (.ok (.o j), S2)) (h : S2[j]? = some (.ins cn fs)) (hm : cn ∈ cs ∧ fs.length < 900) (k : Q .nx σ (S2.set j (.ins cn (putFA fn x fs)))) : wS (aSetF cs fn o a) σ S Q := by
  refine ⟨_, _, _, ?_, k⟩
  unfold aSetF stb; rw [ha]; dsimp only; rw [ho]; dsimp only; rw [h]; dsimp only; rw [if_pos hm]
theorem vfld {o : AE} {cs : List Str} {fn cn : Str} {fs : List (Str × Av)} (ha : a σ S = some (.ok x, S1)) (ho : o σ S1 = some (.ok (.o j), S2)) (h : S2[j]? = some (.ins cn fs)) (hm : cn ∈ cs ∧ fs.length < 900) (k : wS t' σ (S2.set j (.ins cn (putFA fn x fs))) Q) : wS (aSeq (aSetF cs fn o a) t') σ S Q := wseq (wfld ha ho h hm k)
theorem wfor {ai : Sl → M Itm} {gt : Av → AS} {xs : List Av} (I : Nat → Sl → Sg → Prop) (hi : ai σ S = some (.ok (itL xs), S1)) (hl : xs.length < 1000000) (h0 : I 0 σ S1)
    (step : ∀ i x σ S, xs[i]? = some x → I i σ S → ∃ σ1 S1, gt x σ S = some (.nx, σ1, S1) ∧ wS s σ1 S1 (fun fl σ' S' => match fl with | .nx => I (i + 1) σ' S' | .ct => I (i + 1) σ' S' | .bk => Q .nx σ' S' | .rt x => Q (.rt x) σ' S' | .ex e => Q (.ex e) σ' S'))
    (hend : ∀ σ S, I xs.length σ S → Q .nx σ S) : wS (aFor ai gt s) σ S Q := for_wp I hi hl h0 step hend
/-- the target a name -/
theorem wforN {ai : Sl → M Itm} {xs : List Av} {j : Nat} (I : Nat → Sl → Sg → Prop) (hi : ai σ S = some (.ok (itL xs), S1)) (hl : xs.length < 1000000) (h0 : I 0 σ S1)
    (step : ∀ i x σ S, xs[i]? = some x → I i σ S → wS s (σ.set j (some x)) S (fun fl σ' S' => match fl with | .nx => I (i + 1) σ' S' | .ct => I (i + 1) σ' S' | .bk => Q .nx σ' S' | .rt x => Q (.rt x) σ' S' | .ex e => Q (.ex e) σ' S'))
    (hend : ∀ σ S, I xs.length σ S → Q .nx σ S) : wS (aFor ai (agName j) s) σ S Q := wfor I hi hl h0 (fun i x σ S hx hI => ⟨_, _, rfl, step i x σ S hx hI⟩) hend
theorem vforN {ai : Sl → M Itm} {xs : List Av} {j : Nat} (I : Nat → Sl → Sg → Prop) (hi : ai σ S = some (.ok (itL xs), S1)) (hl : xs.length < 1000000) (h0 : I 0 σ S1)
    (step : ∀ i x σ S, xs[i]? = some x → I i σ S → wS s (σ.set j (some x)) S (fun fl σ' S' => match fl with | .nx => I (i + 1) σ' S' | .ct => I (i + 1) σ' S' | .bk => wS t' σ' S' Q | .rt x => Q (.rt x) σ' S' | .ex e => Q (.ex e) σ' S'))
    (hend : ∀ σ S, I xs.length σ S → wS t' σ S Q) : wS (aSeq (aFor ai (agName j) s) t') σ S Q := wseq (wforN I hi hl h0 (fun i x σ S hx hI => by
      obtain ⟨fl, σ1, S1, e, q⟩ := step i x σ S hx hI
      exact ⟨fl, σ1, S1, e, by cases fl <;> exact q⟩) hend)
/-- a pure def by its body -/
theorem pf_of {np n : Nat} {b : AS} {ds : List D} {r : D} (h : wS b ((ds.map Av.d).map some ++ List.replicate (n - np) none) [] (fun fl _ _ => match fl with | .rt x => x = .d r | .nx => r = .none | _ => False)) (hl : ds.length = np := by rfl) : pf (aDef np n b) ds = some (.ok r) := pf_wp hl h
end
theorem i_list {ds : List D} (ha : a σ S = some (.ok (.d (.list ds)), S1)) : aiAny a σ S = some (.ok (itL (ds.map .d)), S1) := by unfold aiAny; rw [bnd_ok ha]; rfl
theorem i_tup {ds : List D} (ha : a σ S = some (.ok (.d (.tuple ds)), S1)) : aiAny a σ S = some (.ok (itL (ds.map .d)), S1) := by unfold aiAny; rw [bnd_ok ha]; rfl
theorem i_str {z : Str} (ha : a σ S = some (.ok (.d (.str z)), S1)) : aiAny a σ S = some (.ok (itL ((z.cps.toList.map signD).map .d)), S1) := by unfold aiAny; rw [bnd_ok ha, ← signs_eq]; rfl
theorem i_r1 {n : Int} (ht : t σ S = some (.ok [.d (.int n)], S1)) (hn : -(2 ^ 62) ≤ n ∧ n < 2 ^ 62) : aiR1 t σ S = some (.ok (itL ((rangeD 0 n.toNat).map .d)), S1) := by unfold aiR1; rw [bnd_ok ht]; dsimp only; rw [if_pos hn, itR_eq]
theorem i_r2 {m n : Int} (ht : t σ S = some (.ok [.d (.int m), .d (.int n)], S1)) (hn : -(2 ^ 62) ≤ m ∧ m < 2 ^ 62 ∧ -(2 ^ 62) ≤ n ∧ n < 2 ^ 62) : aiR2 t σ S = some (.ok (itL ((rangeD m (n - m).toNat).map .d)), S1) := by unfold aiR2; rw [bnd_ok ht]; dsimp only; rw [if_pos hn, itR_eq]
theorem fEq_gen {d e : D} (h1 : SeqAt.shaped d = true) (h2 : SeqAt.shaped e = true) (n1 : (isSc d && isSc e) = false) : fEq d e = some (PyData.eqv d e) := by
  have : fEq d e = if SeqAt.shaped d = true ∧ SeqAt.shaped e = true then some (PyData.eqv d e) else none := by
    cases d <;> cases e <;> first | rfl | cases n1
  rw [this, if_pos ⟨h1, h2⟩]
end
/-! isinstance -/
theorem isi_str {S : Sg} (d : D) : tyA S (.d d) = some (tyN d) ∧ kitB (tyN d) "str" = some (isStr d) := ⟨rfl, by cases d <;> (simp only [tyN, isStr]; decide +kernel)⟩
theorem isi_int {S : Sg} (d : D) : tyA S (.d d) = some (tyN d) ∧ kitB (tyN d) "int" = some (isInt d) := ⟨rfl, by cases d <;> (simp only [tyN, isInt]; decide +kernel)⟩
theorem isi_bol {S : Sg} (d : D) : tyA S (.d d) = some (tyN d) ∧ kitB (tyN d) "bool" = some (isBol d) := ⟨rfl, by cases d <;> (simp only [tyN, isBol]; decide +kernel)⟩
theorem isi_tup {S : Sg} (d : D) : tyA S (.d d) = some (tyN d) ∧ kitB (tyN d) "tuple" = some (isTup d) := ⟨rfl, by cases d <;> (simp only [tyN, isTup]; decide +kernel)⟩
theorem isi_lst {S : Sg} (d : D) : tyA S (.d d) = some (tyN d) ∧ kitB (tyN d) "list" = some (isLst d) := ⟨rfl, by cases d <;> (simp only [tyN, isLst]; decide +kernel)⟩
theorem e_isStr {a : AE} {σ : Sl} {S S1 : Sg} {d : D} (h : a σ S = some (.ok (.d d), S1)) : aIsi "str" a σ S = some (.ok (.d (.bool (isStr d))), S1) := e_isi h (isi_str d).1 (isi_str (S := S1) d).2
theorem e_isInt {a : AE} {σ : Sl} {S S1 : Sg} {d : D} (h : a σ S = some (.ok (.d d), S1)) : aIsi "int" a σ S = some (.ok (.d (.bool (isInt d))), S1) := e_isi h (isi_int d).1 (isi_int (S := S1) d).2
theorem e_isBol {a : AE} {σ : Sl} {S S1 : Sg} {d : D} (h : a σ S = some (.ok (.d d), S1)) : aIsi "bool" a σ S = some (.ok (.d (.bool (isBol d))), S1) := e_isi h (isi_bol d).1 (isi_bol (S := S1) d).2
theorem e_isTup {a : AE} {σ : Sl} {S S1 : Sg} {d : D} (h : a σ S = some (.ok (.d d), S1)) : aIsi "tuple" a σ S = some (.ok (.d (.bool (isTup d))), S1) := e_isi h (isi_tup d).1 (isi_tup (S := S1) d).2
theorem e_isLst {a : AE} {σ : Sl} {S S1 : Sg} {d : D} (h : a σ S = some (.ok (.d d), S1)) : aIsi "list" a σ S = some (.ok (.d (.bool (isLst d))), S1) := e_isi h (isi_lst d).1 (isi_lst (S := S1) d).2
/-- a pure def's answer, of which something holds -/
theorem pf_ex {np n : Nat} {b : AS} {ds : List D} {Pr : D → Prop} (h : wS b ((ds.map Av.d).map some ++ List.replicate (n - np) none) [] (fun fl _ _ => match fl with | .rt (.d x) => Pr x | .nx => Pr .none | _ => False)) (hl : ds.length = np := by rfl) : ∃ r, pf (aDef np n b) ds = some (.ok r) ∧ Pr r := by
  obtain ⟨fl, σ', S', e, q⟩ := h
  rw [pf_def hl, e]
  cases fl with
  | rt x => cases x with
    | d x => exact ⟨x, rfl, q⟩
    | o j => exact q.elim
  | nx => exact ⟨_, rfl, q⟩
  | _ => exact q.elim
/-- two ways meet -/
theorem vcut {s t' : AS} {σ : Sl} {S : Sg} {Q : Fl → Sl → Sg → Prop} (J : Sl → Sg → Prop) (h : wS s σ S (fun fl σ' S' => match fl with | .nx => J σ' S' | .bk => Q .bk σ' S' | .ct => Q .ct σ' S' | .rt x => Q (.rt x) σ' S' | .ex e => Q (.ex e) σ' S')) (k : ∀ σ S, J σ S → wS t' σ S Q) : wS (aSeq s t') σ S Q := by
  refine wseq ?_
  obtain ⟨fl, σ1, S1, e, q⟩ := h
  refine ⟨fl, σ1, S1, e, ?_⟩
  cases fl with
  | nx => exact k _ _ q
  | bk => exact q
  | ct => exact q
  | rt x => exact q
  | ex e => exact q
/-- a comprehension over data, each element's answer known by what holds of it -/
theorem aLc_ex {mk : List Av → Op0} {ai : Sl → M Itm} {g : Av → AS} {e : AE} {vs : List Nat} {σ : Sl} {S : Sg} {ds : List D} (Pr : D → D → Prop) (hi : ai σ S = some (.ok (itL (ds.map .d)), S)) (hl : ds.length ≤ 100000)
    (hb : ∀ d ∈ ds, ∃ σ1 r, g (.d d) (wipeA σ vs) S = some (.nx, σ1, S) ∧ e σ1 S = some (.ok (.d r), S) ∧ Pr d r) :
    ∃ rs : List D, rs.length = ds.length ∧ (∀ r ∈ rs, ∃ d ∈ ds, Pr d r) ∧ aLc mk ai g aYes e vs σ S = lf (mk (rs.map .d)) S := by
  classical
  let h : D → D := fun d => if hd : d ∈ ds then Classical.choose (Classical.choose_spec (hb d hd)) else .none
  have hh : ∀ d (hd : d ∈ ds), ∃ σ1, g (.d d) (wipeA σ vs) S = some (.nx, σ1, S) ∧ e σ1 S = some (.ok (.d (h d)), S) ∧ Pr d (h d) := fun d hd => by
    have e1 : h d = Classical.choose (Classical.choose_spec (hb d hd)) := by show (if hd : d ∈ ds then _ else _) = _; rw [dif_pos hd]
    rw [e1]
    exact ⟨_, Classical.choose_spec (Classical.choose_spec (hb d hd))⟩
  refine ⟨ds.map h, List.length_map .., fun r hr => ?_, ?_⟩
  · obtain ⟨d, hd, rfl⟩ := List.mem_map.mp hr
    obtain ⟨_, _, _, q⟩ := hh d hd
    exact ⟨d, hd, q⟩
  · have hq : lgo (itL (ds.map .d)) g aYes e (wipeA σ vs) fu 0 [] S = some (((ds.map h).map .d), S) := by
      have := lgo_pure g aYes e (wipeA σ vs) S (ds.map .d) (fun _ => true) (fun x => match x with | .d d => .d (h d) | x => x) (fun x hx => by
        obtain ⟨d, hd, rfl⟩ := List.mem_map.mp hx
        obtain ⟨σ1, e1, e2, _⟩ := hh d hd
        exact ⟨σ1, e1, rfl, fun _ => e2⟩) fu 0 [] (Nat.zero_le _) (by rw [List.length_map]; show ds.length < 0 + 1000000; omega) (by rw [List.length_map]; show 0 + (ds.length - 0) ≤ 100000; omega)
      rw [this, List.drop_zero, List.nil_append, filter_map_d _ h _ _ (fun d _ => rfl), filter_all]
    unfold aLc bnd
    rw [hi]
    dsimp only
    have e1 : lf (lgo (itL (ds.map .d)) g aYes e (wipeA σ vs) fu 0 []) S = some (.ok ((ds.map h).map .d), S) := by unfold lf; rw [hq]
    rw [e1]
theorem str_app_len (x y : Str) : (x ++ y).length = x.length + y.length := by
  have h : (x ++ y : Str) = ⟨x.cps ++ y.cps⟩ := rfl
  rw [h]
  show (x.cps ++ y.cps).size = _
  rw [Array.size_append]
  rfl
theorem fAll_bools (bs : List Bool) : fAll [.list (bs.map PyData.bool)] = some (.bool (bs.all id)) := by unfold fAll; dsimp only; rw [boolsOf_map]; rfl
theorem fAny_bools (bs : List Bool) : fAny [.list (bs.map PyData.bool)] = some (.bool (bs.any id)) := by unfold fAny; dsimp only; rw [boolsOf_map]; rfl
theorem fSum_ints (ns : List Int) : fSum [.list (ns.map PyData.int)] = some (.int ns.sum) := by unfold fSum; dsimp only; rw [intsOf_map]; rfl
theorem mapM_dvn (n : Nat) (S : Sg) : ∀ ds : List D, (ds.map Av.d).mapM (dvn n S) = some ds
  | [] => rfl
  | d :: ds => by
    have e : dvn n S (.d d) = some d := by cases n <;> rfl
    rw [List.map_cons, List.mapM_cons, mapM_dvn n S ds, e]
    rfl
theorem dvn_lst {S : Sg} {j : Nat} {ds : List D} (h : S[j]? = some (.lst (ds.map .d))) : dvn 4 S (.o j) = some (.list ds) := by
  unfold dvn; rw [h]; dsimp only; rw [mapM_dvn]; rfl
theorem inB_lst {S : Sg} {j : Nat} {y : Av} {ds : List D} {a : D} (h : S[j]? = some (.lst (ds.map .d))) (h1 : dvn 4 S y = some a) : inB S y (.o j) = fIn a (.list ds) := by
  have h2 := dvn_lst h
  unfold inB; dsimp only; rw [h]; dsimp only; rw [h1, h2]
end Ly
/-! LyZA: more methods of lists. -/
namespace Ly
open PySem L2 Evl PyProof.Rows
section
variable {P : Program} {w wd : World} {K : Fg} {mg : Str → Option Value} {W : WX} {ρ : List Addr} {S S' : Sg} {F H : Hp} {σ : L2.St} {σa σa' : Sl}
theorem vrs_erase {vs : List V} {xs : List Av} (h : VRs K ρ F vs xs) : ∀ n : Nat, VRs K ρ F (vs.eraseIdx n) (xs.eraseIdx n) := by
  induction h with
  | nil => intro n; simp; exact .nil
  | cons a b ih =>
    intro n
    cases n with
    | zero => exact b
    | succ n => exact .cons a (ih n)
theorem vr_int {v : V} {i : Int} (h : VR K ρ F v (.d (.int i))) : v = .int i := by
  have h : Dp K F v (.int i) := h
  cases h; rfl
def fPopAt : List Av → List Av → Option (Av × List Av) := fun xs ys => match ys with
  | [.d (.int i)] => if -(2 ^ 63) ≤ i ∧ i < 2 ^ 63 then (match seqIndex? i xs.length with
    | some k => (xs[k]?).map fun x => (x, xs.eraseIdx k)
    | none => none) else none
  | _ => none
theorem ms_popAt : MtS P wd K mg rPopAt (mdL fPopAt) := ms_L fun ρ F H a vs xs us ys r ha hv hu fh e Q q => by
  unfold fPopAt at e
  split at e
  · rename_i i
    split at e
    · rename_i hi
      split at e
      · rename_i k ek
        obtain ⟨x, e1, rfl⟩ := Option.map_eq_some_iff.mp e
        obtain ⟨v, e2, hx⟩ := vrs_get hv e1
        cases hu with
        | cons hy hn =>
          cases hn
          rw [vr_int hy]
          exact ⟨a, vs, i, k, v, rfl, rfl, ha, hi.1, hi.2, by rw [hv.len]; exact ek, e2, q _ v (vrs_erase hv k) hx⟩
      · cases e
    · cases e
  · cases e
def rInsert : V → List V → Hp → VK → Prop := fun x vs H Q => ∃ (l : Addr) (xs : List V) (i : Int) (y : V), x = .ref l ∧ vs = [.int i, y] ∧ H l = some (.lst xs) ∧ xs.length < sizeLine ∧ 0 ≤ i ∧ i < 2 ^ 63 ∧
    Q .non (upd H l (.lst (xs.take i.toNat ++ [y] ++ xs.drop i.toNat)))
theorem mt_insertR {X : Cx} : MtR X "list.insert" rInsert := L2.mt_insert
def fInsert : List Av → List Av → Option (Av × List Av) := fun xs ys => match ys with
  | [.d (.int i), y] => if xs.length < 100000 ∧ 0 ≤ i ∧ i < 2 ^ 63 then some (.d .none, xs.take i.toNat ++ [y] ++ xs.drop i.toNat) else none
  | _ => none
theorem ms_insert : MtS P wd K mg rInsert (mdL fInsert) := ms_L fun ρ F H a vs xs us ys r ha hv hu fh e Q q => by
  unfold fInsert at e
  split at e
  · rename_i i y
    split at e
    · rename_i hl
      cases e
      cases hu with
      | cons hi hn =>
        cases hn with
        | cons hy hn =>
          cases hn
          rw [vr_int hi]
          exact ⟨a, vs, i, _, rfl, rfl, ha, sz_lt (by rw [hv.len]; exact hl.1), hl.2.1, hl.2.2, q _ .non (vrs_app (vrs_app (vrs_take hv _) (.cons hy .nil)) (vrs_drop hv _)) .non⟩
    · cases e
  · cases e
/-! entering any def -/
theorem def_ex {np n : Nat} {b : AS} {xs : List Av} {S : Sg} {Pr : Rs Av → Sg → Prop} (h : wS b (xs.map some ++ List.replicate (n - np) none) S (fun fl _ S' => match fl with | .rt x => Pr (.ok x) S' | .nx => Pr (.ok (.d .none)) S' | .ex e => Pr (.ex e) S' | _ => False)) (hl : xs.length = np := by rfl) : ∃ r S', aDef np n b xs S = some (r, S') ∧ Pr r S' := by
  obtain ⟨fl, σ', S', e, q⟩ := h
  unfold aDef
  rw [if_pos hl, e]
  cases fl with
  | rt x => exact ⟨_, _, rfl, q⟩
  | nx => exact ⟨_, _, rfl, q⟩
  | ex e => exact ⟨_, _, rfl, q⟩
  | bk => exact q.elim
  | ct => exact q.elim
/-! dicts by their keys -/
theorem valA_in {κ : Type} [DecidableEq κ] {k : κ} : ∀ {kvs : List (κ × Av)}, k ∈ kvs.map (·.1) → ∃ v, valA kvs k = some v ∧ (k, v) ∈ kvs
  | [], h => by simp at h
  | kv :: kvs, h => by
    by_cases e : kv.1 = k
    · refine ⟨kv.2, ?_, ?_⟩
      · unfold valA; rw [List.find?_cons]; simp [e]
      · rw [← e]; exact List.mem_cons_self ..
    · have h2 : k ∈ kvs.map (·.1) := by
        rw [List.map_cons, List.mem_cons] at h
        rcases h with h | h
        · exact absurd h.symm e
        · exact h
      obtain ⟨v, h3, h4⟩ := valA_in h2
      refine ⟨v, ?_, List.mem_cons_of_mem _ h4⟩
      unfold valA at h3 ⊢
      rw [List.find?_cons]
      simp only [e, decide_false]
      exact h3
theorem valA_no {κ : Type} [DecidableEq κ] {k : κ} {kvs : List (κ × Av)} (h : k ∉ kvs.map (·.1)) : valA kvs k = none := by
  unfold valA
  rw [List.find?_eq_none.mpr]
  · rfl
  · intro kv hm he
    exact h (List.mem_map.mpr ⟨kv, hm, of_decide_eq_true he⟩)
theorem putA_no {κ : Type} [DecidableEq κ] {k : κ} {kvs : List (κ × Av)} (v : Av) (h : k ∉ kvs.map (·.1)) : putA kvs k v = kvs ++ [(k, v)] := by
  unfold putA
  rw [if_neg]
  intro he
  obtain ⟨kv, hm, he⟩ := List.any_eq_true.mp he
  exact h (List.mem_map.mpr ⟨kv, hm, of_decide_eq_true he⟩)
theorem get_app {α : Type} {l m : List α} {i : Nat} {x : α} (h : l[i]? = some x) : (l ++ m)[i]? = some x := by
  have := (List.getElem?_eq_some_iff.mp h).1
  rw [List.getElem?_append_left this]
  exact h
theorem get_last {α : Type} (l : List α) (x : α) : (l ++ [x])[l.length]? = some x := by simp
theorem get_set_ne {α : Type} {l : List α} {i j : Nat} {x y : α} (h : l[i]? = some x) (ne : j ≠ i) : (l.set j y)[i]? = some x := by
  rw [List.getElem?_set_ne ne]
  exact h
theorem get_set_self {α : Type} {l : List α} {i : Nat} {x : α} (y : α) (h : l[i]? = some x) : (l.set i y)[i]? = some y := by
  have := (List.getElem?_eq_some_iff.mp h).1
  rw [List.getElem?_set_self this]
/-! a text in a tuple of texts -/
theorem mapM_strs : ∀ ws : List Str, (ws.map PyData.str).mapM scV = some (ws.map V.str)
  | [] => rfl
  | w :: ws => by
    rw [List.map_cons, List.mapM_cons, mapM_strs ws]
    rfl
theorem inV_strs (w : Str) : ∀ ws : List Str, inV (.str w) (ws.map V.str) = decide (w ∈ ws)
  | [] => rfl
  | z :: ws => by
    have ih := inV_strs w ws
    unfold inV at ih ⊢
    rw [List.map_cons, List.any_cons, ih]
    have e : eqV (.str z) (.str w) = decide (z = w) := rfl
    rw [e]
    by_cases h : z = w
    · subst h; simp
    · have h' : ¬ w = z := fun q => h q.symm
      simp [h, h']
theorem inT_strs {S : Sg} (w : Str) (ws : List Str) : inB S (.d (.str w)) (.d (.tuple (ws.map PyData.str))) = some (decide (w ∈ ws)) := by
  show inTup (.str w) (ws.map PyData.str) = _
  unfold inTup
  rw [mapM_strs]
  show (if flatV (.str w) = true ∧ (ws.map V.str).all flatV = true then some (inV (.str w) (ws.map V.str)) else none) = _
  rw [if_pos ⟨rfl, by rw [List.all_map, List.all_eq_true]; intro x _; rfl⟩, inV_strs]
end
end Ly
/-! LyZB: sorted. -/
namespace Ly
open PySem L2 Evl PyProof.Rows
open PySem.W (AllAlike Sortable alike dataLe EachIs sorted_data)
section
variable {P : Program} {w wd : World} {K : Fg} {mg : Str → Option Value} {W : WX} {ρ : List Addr} {S S' : Sg} {F H : Hp} {σ : L2.St} {σa σa' : Sl}
def srt (ds : List D) : List D := ds.mergeSort (dataLe false id)
def rSortM (K : Fg) : List V → Hp → VK → Prop := fun vs H Q => ∃ a xs ds, vs = [V.ref a] ∧ SqL K H a xs ∧ DpAll K H xs ds ∧ AllAlike ds ∧ Sortable ds ∧ ds.length ≤ 100000 ∧ (∀ d ∈ ds, PyData.depth d ≤ 60) ∧
  ∀ (bs : List (V × D)) p, (∀ b ∈ bs, b ∈ xs.zip ds) → bs.map (·.2) = srt ds → H p = none → Q (.ref p) (upd H p (.lst (bs.map (·.1))))
theorem each_zip {K : Fg} {H : Hp} : ∀ {its : List Value} {xs : List V} {ds : List D}, Vals xs its → DpAll K H xs ds → EachIs (fun (u : Value) (b : V × D) => RelV b.1 u) its (xs.zip ds) ∧ (xs.zip ds).map (·.2) = ds ∧ ∀ b ∈ xs.zip ds, Dp K H b.1 b.2
  | _, _, _, .nil, .nil => ⟨.nil, rfl, fun b h => nomatch h⟩
  | _, _, _, .cons r rs, .cons h hs => by
    obtain ⟨e1, e2, e3⟩ := each_zip rs hs
    refine ⟨.cons r e1, ?_, fun b hb => ?_⟩
    · exact congrArg (_ :: ·) e2
    · rcases List.mem_cons.mp hb with rfl | hb
      · exact h
      · exact e3 b hb
theorem each_vals : ∀ {out : List Value} {bs : List (V × D)}, EachIs (fun (u : Value) (b : V × D) => RelV b.1 u) out bs → Vals (bs.map (·.1)) out
  | _, _, .nil => .nil
  | _, _, .cons h t => .cons h (each_vals t)
theorem all_dp {K : Fg} {H : Hp} : ∀ {bs : List (V × D)}, (∀ b ∈ bs, Dp K H b.1 b.2) → DpAll K H (bs.map (·.1)) (bs.map (·.2))
  | [], _ => .nil
  | b :: bs, h => .cons (h b (List.mem_cons_self ..)) (all_dp fun b hb => h b (List.mem_cons_of_mem _ hb))
theorem zip_dp {K : Fg} {F : Hp} : ∀ {xs : List V} {ds : List D}, DpAll K F xs ds → ∀ b ∈ xs.zip ds, Dp K F b.1 b.2
  | _, _, .nil, b, h => nomatch h
  | _, _, .cons h hs, b, hb => by
    rcases List.mem_cons.mp hb with rfl | hb
    · exact h
    · exact zip_dp hs b hb
theorem call_sortM {X : Cx} (hu : X.A.units + 64 < cLine) : CallR X (.builtin "sorted") (rSortM X.K) := by
  intro pins s σ H vs us Q I r h
  obtain ⟨a, xs, ds, rfl, hs, hd, hal, hso, hlen, hdep, q⟩ := h
  obtain ⟨its, rv, hl, hz⟩ := I.list hs
  rw [Vals.ref1 r]
  obtain ⟨e1, e2, e3⟩ := each_zip rv hd
  have hlz : (xs.zip ds).length = ds.length := by rw [← List.length_map (f := (·.2)), e2]
  have er : EachIs (fun (v : Value) (b : V × D) => ∃ as, Reads s.heap v b.2 as) its (xs.zip ds) := by
    have : ∀ {its : List Value} {bs : List (V × D)}, EachIs (fun (u : Value) (b : V × D) => RelV b.1 u) its bs → (∀ b ∈ bs, Dp X.K H b.1 b.2) → EachIs (fun (v : Value) (b : V × D) => ∃ as, Reads s.heap v b.2 as) its bs := by
      intro its bs e
      induction e with
      | nil => intro _; exact .nil
      | cons h t ih => intro hb; exact .cons (Dp.reads I _ _ _ (hb _ (List.mem_cons_self ..)) h) (ih fun b q => hb b (List.mem_cons_of_mem _ q))
    exact this e1 e3
  refine sorted_data (R := fun (u : Value) (b : V × D) => RelV b.1 u) (enc := fun b : V × D => b.2) (bs := xs.zip ds) hl.isList e1 er (by rw [e2]; exact hal) (by rw [e2]; exact hso) (by rw [hlz, sizeLine_eq]; omega) (fun b hb => ?_) fun out ho eo => ?_
  · have hm : b.2 ∈ ds := by rw [← e2]; exact List.mem_map.mpr ⟨b, hb, rfl⟩
    have := hdep _ hm
    omega
  · have hperm := List.mergeSort_perm (xs.zip ds) (dataLe false fun b : V × D => b.2)
    have hm : ((xs.zip ds).mergeSort (dataLe false fun b : V × D => b.2)).map (·.2) = srt ds := by
      unfold srt
      exact (List.map_mergeSort (r := dataLe false fun b : V × D => b.2) (s := dataLe false id) (f := fun b : V × D => b.2) (l := xs.zip ds) (fun a _ b _ => rfl)).trans (congrArg (fun l => l.mergeSort (dataLe false id)) e2)
    obtain ⟨ep, he'⟩ := PyProof.Rows.sortedAll_at s.heap its out.toArray
    have hl2 : (((xs.zip ds).mergeSort (dataLe false fun b : V × D => b.2)).map (·.1)).length ≤ sizeLine := by rw [List.length_map, hperm.length_eq, hlz, sizeLine_eq]; omega
    exact ⟨.ref _, upd H (s.heap.objs.size + 1) (.lst (((xs.zip ds).mergeSort (dataLe false fun b : V × D => b.2)).map (·.1))), I.laid (t' := s.toks) (fun _ _ => PyProof.Rows.sortedAll_old) (Nat.le_succ _) ⟨hl2, out, ep, each_vals eo, he'⟩, rfl, q _ _ (fun b hb => hperm.mem_iff.mp hb) hm (I.hok.fresh (Nat.le_succ _))⟩
theorem kSortM {X : Cx} (hu : X.A.units + 64 < cLine) (hK : X.K = K := by rfl) : CallR X (.builtin "sorted") (rSortM K) := by
  subst hK
  exact call_sortM hu
def tupN : D → Bool
  | .tuple (_ :: _) => true
  | _ => false
def othN : D → Bool
  | .none => false
  | .tuple _ => false
  | _ => true
def sortOk (ds : List D) : Bool := (ds.all fun d => ds.all fun e => alike d e) && (ds.all tupN || ds.all othN) && decide (ds.length ≤ 100000) && ds.all fun d => decide (PyData.depth d ≤ 60)
theorem sortOk_iff {ds : List D} (h : sortOk ds = true) : AllAlike ds ∧ Sortable ds ∧ ds.length ≤ 100000 ∧ ∀ d ∈ ds, PyData.depth d ≤ 60 := by
  unfold sortOk at h
  simp only [Bool.and_eq_true, Bool.or_eq_true, List.all_eq_true, decide_eq_true_eq] at h
  obtain ⟨⟨⟨h1, h2⟩, h3⟩, h4⟩ := h
  refine ⟨h1, ?_, h3, h4⟩
  rcases h2 with h2 | h2
  · left
    intro d hd
    have := h2 d hd
    unfold tupN at this
    split at this
    · exact ⟨_, _, rfl⟩
    · cases this
  · right
    intro d hd
    have := h2 d hd
    unfold othN at this
    split at this
    · cases this
    · cases this
    · rename_i n1 n2
      exact ⟨n1, n2⟩
def cbSort : List Av → Op0 := fun xs S => match xs with
  | [x] => match seqL S x with
    | some ds => if sortOk ds = true then some (.d (.list (srt ds)), S) else none
    | none => none
  | _ => none
theorem cs_Sort : CallS P wd K mg (rSortM K) cbSort := by
  intro ρ S F H hr vs xs hv z S' e Q q
  unfold cbSort at e
  split at e
  · split at e
    · rename_i ds e1
      split at e
      · rename_i hk
        cases e
        obtain ⟨v, rfl, hv1⟩ := vrs1 hv
        obtain ⟨a, us, rfl, hd, h⟩ := seqL_ok hr hv1 e1
        obtain ⟨k1, k2, k3, k4⟩ := sortOk_iff hk
        refine ⟨a, us, ds, rfl, h, hd.up hr.fh, k1, k2, k3, k4, fun bs p hb hs hp => ?_⟩
        have hy : DpAll K F (bs.map (·.1)) (srt ds) := by
          rw [← hs]
          exact all_dp fun b hm => zip_dp hd b (hb b hm)
        obtain ⟨r2, g2⟩ := hr.newF (o := .lst (bs.map (·.1))) hp
        exact q _ _ _ _ g2 r2 (.lst (sq_of upd_same) (hy.up g2.fx))
      · cases e
    · cases e
  · cases e
end
end Ly
/-! LyZC: extend, enumerate, zip, set(tuple), list(dict), written dicts. -/
namespace Ly
open PySem PySem.Spec L2 RZ Evl PyProof.Rows
section
variable {prog : Program} {w : World} {A : Around} {E : Value → Shared → Prop} {s : Shared}
variable {κ : Type} [DecidableEq κ] {knd : PySem.KeyKind prog w κ}
/-- set.__init__ of a fresh set at the heap's end, fed by a list -/
theorem set_initT {l : Addr} {items : Array Value} {ks : List κ} {led : Bool} {R : Result → Shared → Prop} (hh : A.handled = none) (hl : s.heap.IsTuple l items) (hn : ks.length = items.size) (hb : ks.length < 64)
    (hv : ∀ (i : Nat) (v : Value), items[i]? = some v → ∃ k, ks[i]? = some k ∧ knd.is k v = true ∧ v.scannable = true)
    (h : ∀ (h' : Heap) (tk : Nat), h'.SetOf knd s.heap.objs.size (setIs ks) (uniq ks).length → (∀ b o, s.heap.get? b = some o → h'.get? b = some o) → R (.ok (.ret .none)) { s with heap := h', toks := tk }) :
    codeAny (model prog w) A (.call (.builtin "set.__init__") ⟨[.ref s.heap.objs.size, .ref l], []⟩) R { s with heap := s.heap.push (setObj led) } := by
  have hS : (s.heap.push (setObj led)).get? s.heap.objs.size = some (setObj led) := Heap.get?_push_size _ rfl
  have hT : Shared.TypeIs { s with heap := s.heap.push (setObj led) } (.ref s.heap.objs.size) "set" := ⟨_, hS, rfl⟩
  obtain ⟨⟨ocls, odict, odata, oslots⟩, hol, hcl, nl, hdl⟩ := id hl
  simp only at hcl hdl
  subst hcl hdl
  have hol' : (s.heap.push (setObj led)).get? l = some { cls := .type "tuple", dict := odict, data := .seq items nl, slots := oslots } := Heap.get?_push_of_some _ hol
  have hl1 : (s.heap.push (setObj led)).IsTuple l items := ⟨_, hol', rfl, nl, rfl⟩
  have hlS : l < s.heap.objs.size := Heap.lt_size hol
  refine codeAny_call_builtin PySem.F.called_set.init.plain PySem.F.entry_set_init (check_set_init_1 hT ?_)
  have q1 := PySem.F.sub_tuple_set
  have q2 := PySem.F.sub_tuple_frozenset
  have q3 : (Value.type "tuple" == Value.type "dict") = false := by decide
  unfold Builtin.«set.__init__» noKeywords Builtin.Frozenset.updateFrom
  generalize hPI : pyIter = PI
  wp_walk
  subst hPI
  refine wpAny_pyIter_tuple hl1 ?_
  refine wpAny_bind (wpAny_runValue ?_)
  have h3 : A.in1.in1.handled = none := by simp [hh]
  have hI : (s.heap.push (setObj led)).objs.size = s.heap.objs.size + 1 := Heap.size_push ..
  have hlI : l ≠ (s.heap.push (setObj led)).objs.size := by
    rw [hI]
    exact Nat.ne_of_lt (Nat.lt_succ_of_lt hlS)
  have haf : s.heap.objs.size ∉ [(s.heap.push (setObj led)).objs.size, l] := by
    rw [hI]
    simp only [List.mem_cons, List.not_mem_nil, or_false, not_or]
    exact ⟨Nat.ne_of_lt (Nat.lt_succ_self _), fun z => Nat.lt_irrefl _ (z ▸ hlS)⟩
  refine set_loop ((Walks.tuple h3 _ l hlI items).toS) s.heap.objs.size haf ks hn (by omega) hv (items.size - 0) 0 _ (by omega) (Nat.zero_le _) ?hst ?hS0 ?hR
  case hst => exact ⟨⟨_, Heap.get?_push_size _ rfl, rfl, rfl⟩, (hl1.push _)⟩
  case hS0 =>
    refine setOf_congr ((PyProof.Rows.setObjOf_fresh (knd := knd) led).setOf (Heap.get?_push_of_some _ hS) (by unfold scanBound; omega)) (fun k => ?_) rfl
    simp [setIs, uniq, uniqA]
  case hR =>
    intro s' mv hS'
    obtain ⟨h', g', d', tk', os'⟩ := s'
    obtain rfl : g' = s.gens := mv.gens
    obtain rfl : d' = s.drawn := mv.drawn
    obtain rfl : os' = s.os := mv.os
    refine wpAny_pure ?_
    refine wpAny_pure (h h' tk' hS' fun b o e => ?_)
    have hbs : b < s.heap.objs.size := Heap.lt_size e
    refine mv.heap b o ?_ (Heap.get?_push_of_some _ (Heap.get?_push_of_some _ e))
    simp only [List.mem_cons, List.not_mem_nil, or_false, not_or, hI]
    exact ⟨Nat.ne_of_lt hbs, Nat.ne_of_lt (Nat.lt_succ_of_lt hbs)⟩
/-- set(xs) -/
theorem call_setT {l : Addr} {items : Array Value} {ks : List κ} {Q : Value → Shared → Prop} (hh : A.handled = none) (hl : s.heap.IsTuple l items) (hn : ks.length = items.size) (hb : ks.length < 64)
    (hv : ∀ (i : Nat) (v : Value), items[i]? = some v → ∃ k, ks[i]? = some k ∧ knd.is k v = true ∧ v.scannable = true)
    (h : ∀ (h' : Heap) (tk : Nat), h'.SetOf knd s.heap.objs.size (setIs ks) (uniq ks).length → (∀ b o, s.heap.get? b = some o → h'.get? b = some o) → Q (.ref s.heap.objs.size) { s with heap := h', toks := tk }) :
    wpAny (model prog w) A (call (.type "set") [.ref l]) Q E s := by
  obtain ⟨c, tl, hmro⟩ := PySem.F.called_set.mro
  have f1 := PySem.F.called_set.made
  have f2 := PySem.F.called_set.sub
  have f3 := PySem.F.called_set.notType
  have f4 := PySem.F.called_set.canCreate
  have f5 := PySem.F.typeCall_set_1 (.ref l)
  have f6 := PySem.F.called_set.init.lookup
  have f7 := PySem.F.called_set.init.bind (.ref s.heap.objs.size)
  refine wpAny_call (codeAny_of_tree ?_)
  show wpAny _ _ (callAny (.type "set") _) _ _ _
  refine wpAny_pure ⟨Code.quiet_builtin _ (by decide +kernel), codeAny_builtin PySem.F.entry_type_call ?_⟩
  rw [Around.under_plain (weight_type_call_type "set" [.ref l] []) rfl]
  repeat (any_goals (first | assumption | wp_step))
  refine codeAny_mono (code_set_new_1 (.ref l) (E := E) (Q₁ := fun obj s1 => ∃ led : Bool, obj = .ref s.heap.objs.size ∧ s1 = { s with heap := s.heap.push (setObj led) }) fun led => ⟨led, rfl, rfl⟩) fun r s1 hr => ?_
  match r, hr with
  | .error e, hr => exact hr
  | .ok (.ret obj), hr =>
    obtain ⟨led, rfl, rfl⟩ := hr
    have hS : (s.heap.push (setObj led)).get? s.heap.objs.size = some (setObj led) := Heap.get?_push_size _ rfl
    have hT : Shared.TypeIs { s with heap := s.heap.push (setObj led) } (.ref s.heap.objs.size) "set" := ⟨_, hS, rfl⟩
    repeat (any_goals (first | assumption | wp_step))
    refine codeAny_mono (set_initT (knd := knd) (R := wants (fun r s2 => r = .none ∧ ∃ h' tk, s2 = { s with heap := h', toks := tk } ∧ h'.SetOf knd s.heap.objs.size (setIs ks) (uniq ks).length ∧ ∀ b o, s.heap.get? b = some o → h'.get? b = some o) E)
      (by simp [hh]) hl hn hb hv fun h' tk q1 q2 => ⟨rfl, h', tk, rfl, q1, q2⟩) fun r2 s2 hr2 => ?_
    match r2, hr2 with
    | .error e, hr2 => exact hr2
    | .ok (.ret v), hr2 =>
      obtain ⟨rfl, h', tk, rfl, q1, q2⟩ := hr2
      repeat (any_goals (first | assumption | wp_step))
      exact h _ _ q1 q2
    | .ok .next, hr2 => exact hr2.elim
    | .ok .brk, hr2 => exact hr2.elim
end
section
variable {X : Cx} {P : Program} {w wd : World} {K : Fg} {mg : Str → Option Value} {W : WX} {ρ : List Addr} {S S' : Sg} {F H : Hp} {σ : L2.St} {σa σa' : Sl} {v : V} {x : Av}
/-! ### set of a list or a tuple -/
def rSetQ (K : Fg) (P : Program) (w : World) : List V → Hp → VK → Prop := fun vs H Q => ∃ (l : Addr) (ks : List Key), vs = [.ref l] ∧ (SqL K H l (ks.map kV) ∨ SqT K H l (ks.map kV)) ∧ ks.length < 64 ∧
  ∀ p, H p = none → Q (.ref p) (upd H p (SetK P w p (setIs ks) (uniq ks).length))
theorem jSetQ (hc : X.calm = true) (hK : X.K = K := by rfl) (hP : X.prog = P := by rfl) (hw : X.w = w := by rfl) : CallR X (.type "set") (rSetQ K P w) := by
  subst hK hP hw
  intro pins s σ H xs us Q I r h
  obtain ⟨l, ks, rfl, hl, hf, q⟩ := h
  rcases hl with hl | hl
  · exact (jSetL (X := X) hc) pins s σ H _ us Q I r ⟨l, ks, rfl, hl, hf, q⟩
  rw [Vals.ref1 r]
  obtain ⟨its, rv, pl, hz⟩ := I.tuple hl
  have hlen : ks.length = its.toArray.size := by rw [List.size_toArray, ← rv.length, List.length_map]
  refine call_setT (knd := mixKind X.prog X.w) (ks := ks) (I.ok.hd hc) pl hlen hf (fun i v hi => ?_) fun h' tk hS hk => ?_
  · have hi : its[i]? = some v := by simpa using hi
    have hlt : i < ks.length := by
      rw [hlen, List.size_toArray]
      exact (List.getElem?_eq_some_iff.mp hi).1
    have hk : (ks.map kV)[i]? = some (kV ks[i]) := by rw [List.getElem?_map, List.getElem?_eq_getElem hlt]; rfl
    obtain ⟨u, hu, ru⟩ := rv.get hk
    rw [hi] at hu
    cases hu
    exact ⟨ks[i], List.getElem?_eq_getElem hlt, kV_is ru, key_scan ru⟩
  · exact ⟨.ref s.heap.objs.size, _, I.laid (t' := tk) hk (Nat.le_refl _) (setK_new hS), rfl, q _ I.fresh⟩
def aLenSetM (a : AE) : AE := fun σ => bnd (a σ) fun x S => match seqD S x with
  | some ds => match strsOf ds with
    | some zs => if zs.length < 64 then some (.ok (.d (.int ((uniq zs).length : Nat))), S) else none
    | none => none
  | none => none
theorem sm_lenSetM {te : TE} {ae : AE} (ha : SimE P wd K mg W te ae) : SimE P wd K mg W (tCB (rLenK P wd) (tCons (tCB (rSetQ K P wd) (tCons te tNil)) tNil)) (aLenSetM ae) := by
  intro σ σa ρ S F H hr hs rr S' h Q qo qe
  refine ha.bind hr hs h qe fun x S1 ρ1 F1 H1 v hh g1 r1 v1 => ?_
  split at hh
  · rename_i ds ed
    split at hh
    · rename_i zs ez
      split at hh
      · rename_i hl
        cases hh
        obtain ⟨a, us, rfl, hd, h⟩ := seqD_ok r1 v1 ed
        rw [strsOf_inv ez] at hd
        have e := dps_strs_inv zs hd
        subst e
        refine ⟨a, zs.map (Sum.inr : Str → Key), rfl, by rw [kv_strs]; exact h.imp id (·.1), by rw [List.length_map]; exact hl, fun p hp => ?_⟩
        have hu : (uniq (zs.map (Sum.inr : Str → Key))).length = (uniq zs).length := by
          rw [uniq_map Sum.inr (fun a b h => Sum.inr.inj h), List.length_map]
        refine ⟨p, _, (uniq zs).length, rfl, by rw [upd_same, hu], by have := uniq_len zs; omega, ?_⟩
        have r2 := r1.beside (o := SetK P wd p (setIs (zs.map (Sum.inr : Str → Key))) (uniq (zs.map (Sum.inr : Str → Key))).length) (fun z => r1.al p z hp) (fresh_back r1.fh hp)
        refine qo _ rfl ρ1 F1 _ _ (g1.trans ⟨⟨[], (List.append_nil _).symm⟩, Ex.refl _, fun q hq hn => ⟨upd_ne (fun z : q = p => hq (by rw [z]; exact hp)), hn, rfl⟩, fun q o u h => by rw [upd_ne (fun z : q = p => by rw [z, hp] at h; cases h)]; exact h⟩) r2 (.int _)
      · cases hh
    · cases hh
  · cases hh
/-! ### xs.extend(ys), both lists one's own -/
def mdE : Av → List Av → Op0 := fun x ys S => match x, ys with
  | .o j, [.o i] => match S[j]?, S[i]? with
    | some (.lst xs), some (.lst zs) => if xs.length + zs.length ≤ 100000 then some (.d .none, S.set j (.lst (xs ++ zs))) else none
    | _, _ => none
  | _, _ => none
theorem mExtend : MtM X "list.extend" rExtend := mt_extend
theorem ms_extend : MtS P wd K mg rExtend mdE := by
  intro ρ S F H hr v x vs xs hv hvs z S' e Q q
  unfold mdE at e
  split at e
  · rename_i j i
    split at e
    · rename_i xs zs ex ez
      split at e
      · rename_i hl
        cases e
        obtain ⟨u, rfl, hu⟩ := vrs1 hvs
        obtain ⟨a, us, rfl, h1, h2, h3, h4⟩ := hr.atL hv ex
        obtain ⟨b, ws, rfl, k1, k2, k3, k4⟩ := hr.atL hu ez
        have hv' := vrs_app h4 k4
        obtain ⟨r2, g2⟩ := hr.set (o := .lst (us ++ ws)) (c := .lst (xs ++ zs)) h1 ex (fun z => nomatch z) ⟨_, rfl, hv'⟩
        exact ⟨a, b, us, ws, rfl, rfl, h3, k3, by rw [h4.len, k4.len]; exact Nat.le_trans hl (by rw [sizeLine_eq]; omega), q _ _ _ _ g2 r2 .non⟩
      · cases e
    · cases e
  · cases e
/-! ### enumerate(xs), xs a list of one's own -/
def itE (j : Nat) : Itm := fun i S => match S[j]? with
  | some (.lst xs) => match xs[i]? with
    | none => some none
    | some (.d x) => some (some (.d (.tuple [.int (i : Nat), x])))
    | some (.o _) => none
  | _ => none
def aiEnum (t : AA) : Sl → M Itm := fun σ => bnd (t σ) fun xs S => match xs with
  | [.o j] => match S[j]? with
    | some (.lst _) => some (.ok (itE j), S)
    | _ => none
  | _ => none
theorem si_enum {t : TA} {ag : AA} (ha : SimA P w K mg W t ag) : SimI P w K mg W (iEnum K t) (aiEnum ag) := by
  intro σ σa ρ S F H hr hs rr S' h R qo qe
  refine ha.bind hr hs h qe fun xs S1 ρ1 F1 H1 vs h g1 r1 v1 => ?_
  split at h
  · rename_i j
    split at h
    · rename_i ys ey
      cases h
      obtain ⟨v, rfl, hv⟩ := vrs1 v1
      obtain ⟨a, us, rfl, h1, h2, h3, h4⟩ := r1.atL hv ey
      refine ⟨a, us, rfl, sq_of h3, qo _ rfl ρ1 F1 H1 _ g1 r1 ?_⟩
      intro ρ2 S2 F2 H2 g2 r2 i o e
      unfold itE at e
      split at e
      · rename_i zs ez
        obtain ⟨a', us', ea, h1', h2', h3', h4'⟩ := r2.atL (VR.gw hv g2) ez
        cases ea
        have hl := h4'.len
        split at e
        · rename_i en
          cases e
          refine ⟨us', sq_of h3', ?_⟩
          rw [List.getElem?_eq_none_iff] at en
          omega
        · rename_i x ex
          cases e
          obtain ⟨y, hy⟩ := get_lt (xs := us') (i := i) (by rw [hl]; exact (List.getElem?_eq_some_iff.mp ex).1)
          refine ⟨⟨us', y, sq_of h3', hy⟩, fun v H' yy => ?_⟩
          obtain ⟨T, z1, rfl, hT, rfl, hz⟩ := yy
          have hz := hz us' (sq_of h3')
          rw [hz] at hy
          cases hy
          obtain ⟨r3, g3⟩ := r2.newF (o := .tup [.int (i : Nat), y]) hT
          refine ⟨ρ2, _, g3, r3, .tup (st_of upd_same) (.cons (.int _) (.cons ?_ .nil))⟩
          obtain ⟨v9, e9, hx9⟩ := vrs_get h4' ex
          rw [hz] at e9
          cases e9
          exact Dp.up hx9 g3.fx
        · cases e
      · cases e
    · cases h
  · cases h
/-! ### zip(xs, ys), data -/
def zipD (xs ys : List D) : List Av := (xs.zip ys).map fun p => .d (.tuple [p.1, p.2])
def aiZip (t : AA) : Sl → M Itm := fun σ => bnd (t σ) fun xs S => match xs with
  | [.d (.tuple as), .d (.tuple bs)] => some (.ok (itL (zipD as bs)), S)
  | [.d (.list as), .d (.list bs)] => some (.ok (itL (zipD as bs)), S)
  | _ => none
theorem wk_Z {J : It} {us ws : List V} {as bs : List D} (hu : DpAll K F us as) (hw : DpAll K F ws bs)
    (hgo : ∀ i H x y, Ex F H → us[i]? = some x → ws[i]? = some y → J.go i H) (hst : ∀ i H, Ex F H → (us.length ≤ i ∨ ws.length ≤ i) → J.stop i H)
    (hy : ∀ i H, Ex F H → ∀ v H', J.yld i H v H' → ∃ T x y, v = .ref T ∧ H T = none ∧ H' = upd H T (.tup [x, y]) ∧ us[i]? = some x ∧ ws[i]? = some y) : WkA P w K mg ρ F H J (itL (zipD as bs)) := by
  intro ρ1 S1 F1 H1 g r i o e
  have fh := g.fx.trans r.fh
  have l1 := hu.length
  have l2 := hw.length
  cases e
  unfold zipD
  cases q : ((as.zip bs).map fun p => Av.d (.tuple [p.1, p.2]))[i]? with
  | none =>
    refine hst i H1 fh ?_
    rw [List.getElem?_eq_none_iff, List.length_map, List.length_zip] at q
    omega
  | some x =>
    rw [List.getElem?_map] at q
    obtain ⟨p, e1, rfl⟩ := Option.map_eq_some_iff.mp q
    obtain ⟨e2, e3⟩ := List.getElem?_zip_eq_some.mp e1
    obtain ⟨y1, f1⟩ := get_lt (xs := us) (i := i) (by rw [l1]; exact (List.getElem?_eq_some_iff.mp e2).1)
    obtain ⟨y2, f2⟩ := get_lt (xs := ws) (i := i) (by rw [l2]; exact (List.getElem?_eq_some_iff.mp e3).1)
    refine ⟨hgo i H1 y1 y2 fh f1 f2, fun v H' y => ?_⟩
    obtain ⟨T, z1, z2, rfl, hT, rfl, k1, k2⟩ := hy i H1 fh v H' y
    obtain ⟨d1, m1, n1⟩ := hu.getV k1
    obtain ⟨d2, m2, n2⟩ := hw.getV k2
    rw [e2] at m1
    rw [e3] at m2
    cases m1
    cases m2
    obtain ⟨r3, g3⟩ := r.newF (o := .tup [z1, z2]) hT
    exact ⟨ρ1, _, g3, r3, .tup (st_of upd_same) (.cons (n1.up (g.fx.trans g3.fx)) (.cons (n2.up (g.fx.trans g3.fx)) .nil))⟩
theorem si_zip {t : TA} {ag : AA} (ha : SimA P w K mg W t ag) : SimI P w K mg W (iZipA K t) (aiZip ag) := by
  intro σ σa ρ S F H hr hs rr S' h R qo qe
  refine ha.bind hr hs h qe fun xs S1 ρ1 F1 H1 vs h g1 r1 v1 => ?_
  split at h
  · rename_i as bs
    cases h
    obtain ⟨v, u, rfl, hv, hu⟩ := vrs2 v1
    have hv : Dp K F1 v (.tuple as) := hv
    have hu : Dp K F1 u (.tuple bs) := hu
    cases hv with
    | @tup a us _ s1 a1 =>
      cases hu with
      | @tup b ws _ s2 a2 =>
        refine ⟨a, b, us, ws, rfl, .inr ⟨ex_t r1.fh s1, ex_t r1.fh s2, qo _ rfl ρ1 F1 H1 _ g1 r1 (wk_Z a1 a2 (fun i H x y e f1 f2 => ⟨us, ws, x, y, ex_t e s1, ex_t e s2, f1, f2⟩) (fun i H e h => ⟨us, ws, ex_t e s1, ex_t e s2, h⟩) (fun i H e v H' y => ?_))⟩⟩
        obtain ⟨T, x, y, e1, e2, e3, e4, e5⟩ := y
        exact ⟨T, x, y, e1, e2, e3, e4 us (ex_t e s1), e5 ws (ex_t e s2)⟩
  · rename_i as bs
    cases h
    obtain ⟨v, u, rfl, hv, hu⟩ := vrs2 v1
    have hv : Dp K F1 v (.list as) := hv
    have hu : Dp K F1 u (.list bs) := hu
    cases hv with
    | @lst a us _ s1 a1 =>
      cases hu with
      | @lst b ws _ s2 a2 =>
        refine ⟨a, b, us, ws, rfl, .inl ⟨ex_l r1.fh s1, ex_l r1.fh s2, qo _ rfl ρ1 F1 H1 _ g1 r1 (wk_Z a1 a2 (fun i H x y e f1 f2 => ⟨us, ws, x, y, ex_l e s1, ex_l e s2, f1, f2⟩) (fun i H e h => ⟨us, ws, ex_l e s1, ex_l e s2, h⟩) (fun i H e v H' y => ?_))⟩⟩
        obtain ⟨T, x, y, e1, e2, e3, e4, e5⟩ := y
        exact ⟨T, x, y, e1, e2, e3, e4 us (ex_l e s1), e5 ws (ex_l e s2)⟩
  · cases h
/-! ### list(d), d a dict -/
def rLstD (K : Fg) : List V → Hp → VK → Prop := fun xs H Q => ∃ (a : Addr) (kvs : List (Key × V)), xs = [.ref a] ∧ Rd H a (.dK kvs) ∧ ∀ p, H p = none → Q (.ref p) (upd H p (.lst (kvs.map fun kv => kV kv.1)))
theorem kLstD (hc : X.calm = true) : CallR X (.type "list") (rLstD K) := call_listD hc
def cbLstD : List Av → Op0 := fun xs S => match xs with
  | [.o j] => match S[j]? with
    | some (.dk kvs) => some (.d (.list (kvs.map fun p => keyD p.1)), S)
    | _ => none
  | _ => none
theorem dp_key (k : Key) : Dp K F (kV k) (keyD k) := by
  cases k with
  | inl i => exact .int i
  | inr z => exact .str z
theorem kr_keys {κ : Type} : ∀ {ks : List (κ × V)} {kvs : List (κ × Av)}, KR K ρ F ks kvs → ks.map (·.1) = kvs.map (·.1)
  | _, _, .nil => rfl
  | _, _, .cons h t => by rw [List.map_cons, List.map_cons, h.1, kr_keys t]
theorem dps_keys : ∀ ks : List Key, DpAll K F (ks.map kV) (ks.map keyD)
  | [] => .nil
  | k :: ks => .cons (dp_key k) (dps_keys ks)
theorem cs_LstD : CallS P wd K mg (rLstD K) cbLstD := by
  intro ρ S F H hr vs xs hv z S' e Q q
  unfold cbLstD at e
  split at e
  · rename_i j
    split at e
    · rename_i kvs ek
      cases e
      obtain ⟨v, rfl, hv1⟩ := vrs1 hv
      obtain ⟨a, ks, rfl, h1, h3, h4⟩ := hr.atK hv1 ek
      refine ⟨a, ks, rfl, .of h3, fun p hp => ?_⟩
      obtain ⟨r2, g2⟩ := hr.newF (o := .lst (ks.map fun kv => kV kv.1)) hp
      refine q _ _ _ _ g2 r2 (.lst (sq_of upd_same) ?_)
      have e1 : (ks.map fun kv => kV kv.1) = (ks.map (·.1)).map kV := by rw [List.map_map]; rfl
      have e2 : (kvs.map fun kv => keyD kv.1) = (kvs.map (·.1)).map keyD := by rw [List.map_map]; rfl
      rw [e1, e2, kr_keys h4]
      exact dps_keys _
    · cases e
  · cases e
/-! ### a written dict, texts to ints -/
structure KdA (K : Fg) (w : World) (d : Addr) (ks : List (Str × Int)) : Prop where
  at_ : ∃ es n, KDict K w d es n
  get : ∀ z, ∃ r, PySem.W.nsIn K d z = some r ∧ match ks.lookup z with
    | some i => ∃ t, r = some (.int i t)
    | none => r = none
def rKin (K : Fg) (d : Addr) (neg : Bool) : R2 := fun x y H Q => ∃ (z : Str) (r : Option Value), x = .str z ∧ y = .ref d ∧ PySem.W.nsIn K d z = some r ∧ Q (.bl (if neg then !r.isSome else r.isSome)) H
theorem kKin {d : Addr} {ks : List (Str × Int)} (h : KdA K w d ks) (hK : X.K = K := by rfl) (hw : X.w = w := by rfl) : OpR X (compareOp .In) (rKin K d false) := by
  subst hK hw
  obtain ⟨es, n, D⟩ := h.at_
  exact op_in_kd D
theorem kKnin {d : Addr} {ks : List (Str × Int)} (h : KdA K w d ks) (hK : X.K = K := by rfl) (hw : X.w = w := by rfl) : OpR X (compareOp .NotIn) (rKin K d true) := by
  subst hK hw
  obtain ⟨es, n, D⟩ := h.at_
  exact op_notIn_kd D
def aKin (neg : Bool) (ks : List Str) (a : AE) : AE := fun σ => bnd (a σ) fun x S => match x with
  | .d (.str z) => some (.ok (.d (.bool (if neg then !(decide (z ∈ ks)) else decide (z ∈ ks)))), S)
  | _ => none
theorem lookup_mem (z : Str) : ∀ ks : List (Str × Int), (ks.lookup z).isSome = decide (z ∈ ks.map (·.1))
  | [] => rfl
  | (k, i) :: ks => by
    rw [List.lookup_cons]
    by_cases e : z = k
    · subst e; simp
    · have e2 : (z == k) = false := by simpa using e
      rw [e2]
      have ih := lookup_mem z ks
      simp only [List.map_cons, List.mem_cons]
      rw [ih]
      simp [e]
theorem sm_kin {d : Addr} {ks : List (Str × Int)} {neg : Bool} {te : TE} {ae : AE} (hd : KdA K wd d ks) (ha : SimE P wd K mg W te ae) : SimE P wd K mg W (tOp (rKin K d neg) te (tC (.ref d))) (aKin neg (ks.map (·.1)) ae) := by
  intro σ σa ρ S F H hr hs rr S' h Q qo qe
  refine ha.bind hr hs h qe fun x S1 ρ1 F1 H1 v hh g1 r1 v1 => ?_
  split at hh
  · rename_i z
    cases hh
    have v1 : Dp K F1 v (.str z) := v1
    cases v1
    obtain ⟨r, e1, e2⟩ := hd.get z
    refine ⟨z, r, rfl, rfl, e1, qo _ rfl ρ1 F1 H1 _ g1 r1 ?_⟩
    have e3 : r.isSome = decide (z ∈ ks.map (·.1)) := by
      rw [← lookup_mem]
      cases q : ks.lookup z with
      | none => rw [q] at e2; rw [e2]; rfl
      | some i => rw [q] at e2; obtain ⟨t, e2⟩ := e2; rw [e2]; rfl
    rw [e3]
    exact .bl _
  · cases hh
def rKix (K : Fg) (d : Addr) : R2 := fun x y H Q => ∃ (z : Str) (u0 : Value) (v0 : V), x = .ref d ∧ y = .str z ∧ PySem.W.nsIn K d z = some (some u0) ∧ RelV v0 u0 ∧ Q v0 H
theorem kKix {d : Addr} {ks : List (Str × Int)} (h : KdA K w d ks) (hK : X.K = K := by rfl) (hw : X.w = w := by rfl) : IxR X (rIxD K w) := by
  subst hK hw
  exact ix_kdict
def aKix (ks : List (Str × Int)) (a : AE) : AE := fun σ => bnd (a σ) fun x S => match x with
  | .d (.str z) => (ks.lookup z).map fun i => (.ok (.d (.int i)), S)
  | _ => none
theorem sm_kix {d : Addr} {ks : List (Str × Int)} {te : TE} {ae : AE} (hd : KdA K wd d ks) (ha : SimE P wd K mg W te ae) : SimE P wd K mg W (tOp (rIxD K wd) (tC (.ref d)) te) (aKix ks ae) := by
  intro σ σa ρ S F H hr hs rr S' h Q qo qe
  refine ha.bind hr hs h qe fun x S1 ρ1 F1 H1 v hh g1 r1 v1 => ?_
  split at hh
  · rename_i z
    obtain ⟨i, q, e⟩ := Option.map_eq_some_iff.mp hh
    cases e
    have v1 : Dp K F1 v (.str z) := v1
    cases v1
    obtain ⟨es, n, D⟩ := hd.at_
    obtain ⟨r, e1, e2⟩ := hd.get z
    rw [q] at e2
    obtain ⟨t, rfl⟩ := e2
    exact ⟨d, z, .int i, rfl, rfl, ⟨es, n, _, D.at_, D.lit, e1, ⟨t, rfl⟩⟩, qo _ rfl ρ1 F1 H1 _ g1 r1 (.int i)⟩
  · cases hh
end
end Ly
namespace Ly
open PySem PySem.Spec L2 Evl PyProof.Rows
theorem kSortQ {X : Cx} {K : Fg} (hu : X.A.units + 65 < cLine) (hK : X.K = K := by rfl) : CallR X (.builtin "sorted") (rSortM K) := kSortM (by omega) hK
def KdL (P : Params) : List DictEntry → List (Str × Int) → Prop
  | [], [] => True
  | e :: r, (k, i) :: ks => (∃ t, e.key = .str k t) ∧ e.hash = PyData.keyHash P k ∧ (∃ t, e.val = .int i t) ∧ KdL P r ks
  | _, _ => False
theorem KdL.lit {P : Params} : ∀ {l : List DictEntry} {ks : List (Str × Int)}, KdL P l ks → PySem.W.KeysLit P l
  | [], [], _ => trivial
  | e :: r, (k, i) :: ks, ⟨⟨t, h1⟩, h2, _, h4⟩ => ⟨⟨k, t, h1, h2⟩, KdL.lit h4⟩
theorem KdL.get {P : Params} (z : Str) : ∀ {l : List DictEntry} {ks : List (Str × Int)}, KdL P l ks → ∃ r, (match l.find? (·.key.isStr z) with
      | some e => some (some e.val)
      | none => if l.any (·.refKey) then none else some none) = some r ∧ match ks.lookup z with
    | some i => ∃ t, r = some (.int i t)
    | none => r = none
  | [], [], _ => ⟨none, rfl, rfl⟩
  | e :: r, (k, i) :: ks, ⟨⟨t, h1⟩, h2, ⟨t2, h3⟩, h4⟩ => by
    obtain ⟨r0, e1, e2⟩ := KdL.get z h4
    rw [List.lookup_cons, List.find?_cons]
    by_cases q : k = z
    · subst q
      have e3 : e.key.isStr k = true := by rw [h1]; simp [Value.isStr]
      rw [e3]
      simp only [beq_self_eq_true]
      exact ⟨_, rfl, t2, by rw [h3]⟩
    · have e3 : e.key.isStr z = false := by rw [h1]; simp [Value.isStr, q]
      have e4 : (z == k) = false := by simpa using fun w => q w.symm
      have e5 : e.refKey = false := by unfold DictEntry.refKey; rw [h1]
      rw [e3, e4, List.any_cons, e5]
      exact ⟨r0, e1, e2⟩
theorem KdA.of {K : Fg} {w : World} {d : Addr} {ks : List (Str × Int)} {es : Array DictEntry} {n : Nat} (h1 : K.lookup d = some ⟨.type "dict", none, .dict es n, #[]⟩) (h2 : (d == sysModules) = false) (h3 : KdL w.params es.toList ks) : KdA K w d ks := by
  refine ⟨⟨es, n, h1, h3.lit, h2⟩, fun z => ?_⟩
  obtain ⟨r, e1, e2⟩ := h3.get z
  refine ⟨r, ?_, e2⟩
  unfold PySem.W.nsIn
  rw [h1]
  exact e1
end Ly
namespace Ly
/-! handlers that raise nothing -/
def Tx (s : AS) : Prop := ∀ σ S e σ' S', s σ S ≠ some (.ex e, σ', S')
theorem tx_nil : ∀ q ∈ ([] : List (Str × AS)), Tx q.2 := fun q h => nomatch h
theorem tx_cons {n : Str} {s : AS} {hs : List (Str × AS)} (h : Tx s) (t : ∀ q ∈ hs, Tx q.2) : ∀ q ∈ (n, s) :: hs, Tx q.2 := fun q hq => by
  rcases List.mem_cons.mp hq with rfl | hq
  · exact h
  · exact t q hq
theorem tx_D {d : D} : Tx (aRet (aD d)) := fun σ S e σ' S' h => by
  cases (show some (Fl.rt (.d d), σ, S) = some (.ex e, σ', S') from h)
theorem tx_var {i : Nat} : Tx (aRet (aVar i)) := fun σ S e σ' S' h => by
  rcases stb_inv h with ⟨x, S1, e1, h⟩ | ⟨e1, h, _⟩
  · cases h
  · unfold aVar at h
    split at h <;> cases h
theorem tx_next : Tx aNext := fun σ S e σ' S' h => by cases (show some (Fl.nx, σ, S) = some (.ex e, σ', S') from h)
theorem tx_cont : Tx aCont := fun σ S e σ' S' h => by cases (show some (Fl.ct, σ, S) = some (.ex e, σ', S') from h)
theorem tx_brk : Tx aBreak := fun σ S e σ' S' h => by cases (show some (Fl.bk, σ, S) = some (.ex e, σ', S') from h)
theorem tx_asgD {d : D} {i : Nat} : Tx (aAsg (aD d) (agName i)) := fun σ S e σ' S' h => by
  cases (show some (Fl.nx, σ.set i (some (.d d)), S) = some (.ex e, σ', S') from h)
theorem tx_seq {s t : AS} (h1 : Tx s) (h2 : Tx t) : Tx (aSeq s t) := fun σ S e σ' S' h => by
  unfold aSeq at h
  split at h
  · exact h2 _ _ _ _ _ h
  · exact h1 _ _ _ _ _ h
end Ly
/-! LyZD: what stands apart: cells by their roles. -/
namespace Ly
open PySem L2 Evl PyProof.Rows
/-! ### lists of keys with values -/
section
variable {κ β γ μ : Type} [DecidableEq κ] [DecidableEq μ]
def vl (kvs : List (κ × β)) (k : κ) : Option β := (kvs.find? fun kv => decide (kv.1 = k)).map (·.2)
def pu (kvs : List (κ × β)) (k : κ) (v : β) : List (κ × β) := if k ∈ kvs.map (·.1) then kvs.map (fun kv => if kv.1 = k then (k, v) else kv) else kvs ++ [(k, v)]
def dr (kvs : List (κ × β)) (k : κ) : List (κ × β) := kvs.filter fun kv => decide (kv.1 ≠ k)
theorem vl_nil {k : κ} : vl ([] : List (κ × β)) k = none := rfl
theorem vl_cons {a k : κ} {v : β} {kvs : List (κ × β)} : vl ((a, v) :: kvs) k = if a = k then some v else vl kvs k := by
  unfold vl
  rw [List.find?_cons]
  by_cases h : a = k
  · simp [h]
  · simp [h]
theorem vl_none {kvs : List (κ × β)} {k : κ} : vl kvs k = none ↔ k ∉ kvs.map (·.1) := by
  induction kvs with
  | nil => simp [vl]
  | cons p r ih =>
    obtain ⟨a, v⟩ := p
    rw [vl_cons, List.map_cons, List.mem_cons]
    by_cases h : a = k
    · simp [h]
    · have h' : ¬ k = a := fun z => h z.symm
      simp only [h, h', if_false, false_or]; exact ih
theorem vl_mem {kvs : List (κ × β)} {k : κ} {v : β} (h : vl kvs k = some v) : (k, v) ∈ kvs := by
  induction kvs with
  | nil => cases h
  | cons p r ih =>
    obtain ⟨a, u⟩ := p
    rw [vl_cons] at h
    by_cases e : a = k
    · rw [if_pos e] at h; cases h; rw [e]; exact List.mem_cons_self ..
    · rw [if_neg e] at h; exact List.mem_cons_of_mem _ (ih h)
theorem vl_key {kvs : List (κ × β)} {k : κ} {v : β} (h : vl kvs k = some v) : k ∈ kvs.map (·.1) := List.mem_map.mpr ⟨_, vl_mem h, rfl⟩
theorem vl_in {kvs : List (κ × β)} {k : κ} (h : k ∈ kvs.map (·.1)) : ∃ v, vl kvs k = some v := by
  cases e : vl kvs k with
  | some v => exact ⟨v, rfl⟩
  | none => exact absurd h (vl_none.mp e)
theorem mem_vl {kvs : List (κ × β)} {k : κ} {v : β} (hn : (kvs.map (·.1)).Nodup) (h : (k, v) ∈ kvs) : vl kvs k = some v := by
  induction kvs with
  | nil => nomatch h
  | cons p r ih =>
    obtain ⟨a, u⟩ := p
    rw [List.map_cons, List.nodup_cons] at hn
    rw [vl_cons]
    rcases List.mem_cons.mp h with e | e
    · cases e; rw [if_pos rfl]
    · have : a ≠ k := fun z => hn.1 (List.mem_map.mpr ⟨_, e, z.symm⟩)
      rw [if_neg this]; exact ih hn.2 e
theorem vl_map {f : κ → β → γ} {kvs : List (κ × β)} {k : κ} : vl (kvs.map fun p => (p.1, f p.1 p.2)) k = (vl kvs k).map (f k) := by
  induction kvs with
  | nil => rfl
  | cons p r ih =>
    obtain ⟨a, u⟩ := p
    rw [List.map_cons, vl_cons, vl_cons, ih]
    by_cases e : a = k
    · subst e; simp
    · simp [e]
theorem pu_in {kvs : List (κ × β)} {k : κ} {v : β} (h : k ∈ kvs.map (·.1)) : pu kvs k v = kvs.map (fun kv => if kv.1 = k then (k, v) else kv) := by unfold pu; rw [if_pos h]
theorem pu_no {kvs : List (κ × β)} {k : κ} {v : β} (h : k ∉ kvs.map (·.1)) : pu kvs k v = kvs ++ [(k, v)] := by unfold pu; rw [if_neg h]
theorem pu_cons {a k : κ} {u v : β} {kvs : List (κ × β)} (h : a ≠ k) : pu ((a, u) :: kvs) k v = (a, u) :: pu kvs k v := by
  have h' : ¬ k = a := fun z => h z.symm
  by_cases hk : k ∈ kvs.map (·.1)
  · rw [pu_in hk, pu_in (by rw [List.map_cons]; exact List.mem_cons_of_mem _ hk), List.map_cons, if_neg h]
  · rw [pu_no hk, pu_no (by rw [List.map_cons, List.mem_cons]; exact fun z => z.elim h' hk)]; rfl
theorem vl_app {k : κ} {v : β} : ∀ {kvs : List (κ × β)} {l : List (κ × β)}, vl (kvs ++ l) k = (vl kvs k).or (vl l k)
  | [], l => rfl
  | (a, u) :: r, l => by
    rw [List.cons_append, vl_cons, vl_cons, vl_app (v := v)]
    by_cases e : a = k
    · simp [e]
    · simp [e]
theorem vl_mapif {k j : κ} {v : β} : ∀ {kvs : List (κ × β)}, k ∈ kvs.map (·.1) → vl (kvs.map (fun kv => if kv.1 = k then (k, v) else kv)) j = if k = j then some v else vl kvs j
  | [], hk => by simp at hk
  | (a, u) :: r, hk => by
    rw [List.map_cons]
    by_cases hr : k ∈ r.map (·.1)
    · have ih := vl_mapif (j := j) (v := v) hr
      by_cases e : a = k
      · subst e
        rw [if_pos rfl, vl_cons, ih, vl_cons]
        by_cases e2 : a = j <;> simp [e2]
      · rw [if_neg e, vl_cons, ih, vl_cons]
        by_cases e2 : a = j
        · subst e2; have : ¬ k = a := fun z => e z.symm
          simp [this]
        · simp [e2]
    · have e : a = k := by
        rw [List.map_cons, List.mem_cons] at hk
        rcases hk with q | q
        · exact q.symm
        · exact absurd q hr
      subst e
      rw [if_pos rfl, vl_cons, vl_cons]
      have : r.map (fun kv => if kv.1 = a then (a, v) else kv) = r := by
        conv => rhs; rw [← List.map_id r]
        refine List.map_congr_left fun q hq => ?_
        rw [if_neg (fun z => hr (List.mem_map.mpr ⟨q, hq, z⟩))]; rfl
      rw [this]
      by_cases e2 : a = j <;> simp [e2]
theorem vl_pu {k j : κ} {v : β} {kvs : List (κ × β)} : vl (pu kvs k v) j = if k = j then some v else vl kvs j := by
  by_cases hk : k ∈ kvs.map (·.1)
  · rw [pu_in hk, vl_mapif hk]
  · rw [pu_no hk, vl_app (v := v)]
    by_cases e : k = j
    · subst e
      rw [vl_none.mpr hk, if_pos rfl, vl_cons, if_pos rfl]; rfl
    · rw [if_neg e, vl_cons, if_neg e, vl_nil]; cases vl kvs j <;> rfl
theorem keys_in {kvs : List (κ × β)} {k : κ} {v : β} (h : k ∈ kvs.map (·.1)) : (pu kvs k v).map (·.1) = kvs.map (·.1) := by
  rw [pu_in h, List.map_map]
  refine List.map_congr_left fun p _ => ?_
  show (if p.1 = k then (k, v) else p).1 = p.1
  by_cases e : p.1 = k
  · rw [if_pos e]; exact e.symm
  · rw [if_neg e]
theorem keys_no {kvs : List (κ × β)} {k : κ} {v : β} (h : k ∉ kvs.map (·.1)) : (pu kvs k v).map (·.1) = kvs.map (·.1) ++ [k] := by
  rw [pu_no h, List.map_append]; rfl
theorem keys_mem {kvs : List (κ × β)} {k j : κ} {v : β} : j ∈ (pu kvs k v).map (·.1) ↔ j = k ∨ j ∈ kvs.map (·.1) := by
  by_cases h : k ∈ kvs.map (·.1)
  · rw [keys_in h]
    exact ⟨.inr, fun z => z.elim (fun e => by rw [e]; exact h) id⟩
  · rw [keys_no h, List.mem_append, List.mem_singleton]
    exact Or.comm
theorem keys_nodup {kvs : List (κ × β)} {k : κ} {v : β} (h : (kvs.map (·.1)).Nodup) : ((pu kvs k v).map (·.1)).Nodup := by
  by_cases hk : k ∈ kvs.map (·.1)
  · rw [keys_in hk]; exact h
  · rw [keys_no hk, List.nodup_append]
    exact ⟨h, by simp, fun a ha b hb e => hk (by rw [List.mem_singleton.mp hb] at e; rw [← e]; exact ha)⟩
theorem mem_pu {kvs : List (κ × β)} {k : κ} {v : β} {p : κ × β} (h : p ∈ pu kvs k v) : p = (k, v) ∨ (p.1 ≠ k ∧ p ∈ kvs) := by
  by_cases hk : k ∈ kvs.map (·.1)
  · rw [pu_in hk] at h
    obtain ⟨q, hq, rfl⟩ := List.mem_map.mp h
    by_cases e : q.1 = k
    · rw [if_pos e]; exact .inl rfl
    · rw [if_neg e]; exact .inr ⟨e, hq⟩
  · rw [pu_no hk] at h
    rcases List.mem_append.mp h with q | q
    · exact .inr ⟨fun e => hk (List.mem_map.mpr ⟨_, q, e⟩), q⟩
    · exact .inl (List.mem_singleton.mp q)
theorem pu_len {kvs : List (κ × β)} {k : κ} {v : β} : (pu kvs k v).length ≤ kvs.length + 1 := by
  by_cases hk : k ∈ kvs.map (·.1)
  · rw [pu_in hk, List.length_map]; omega
  · rw [pu_no hk, List.length_append]; exact Nat.le_refl _
theorem pu_pu {kvs : List (κ × β)} {k : κ} {u v : β} : pu (pu kvs k u) k v = pu kvs k v := by
  by_cases hk : k ∈ kvs.map (·.1)
  · rw [pu_in (by rw [keys_in hk]; exact hk), pu_in hk, pu_in hk, List.map_map]
    refine List.map_congr_left fun p _ => ?_
    show (if (if p.1 = k then (k, u) else p).1 = k then (k, v) else (if p.1 = k then (k, u) else p)) = if p.1 = k then (k, v) else p
    by_cases e : p.1 = k
    · rw [if_pos e, if_pos rfl, if_pos e]
    · rw [if_neg e, if_neg e]
  · rw [pu_in (by rw [keys_no hk]; simp), pu_no hk, pu_no hk, List.map_append]
    congr 1
    · conv => rhs; rw [← List.map_id kvs]
      refine List.map_congr_left fun q hq => ?_
      rw [if_neg (fun z => hk (List.mem_map.mpr ⟨q, hq, z⟩))]; rfl
    · rw [List.map_singleton, if_pos rfl]
theorem pu_self {kvs : List (κ × β)} {k : κ} {v : β} (hn : (kvs.map (·.1)).Nodup) (h : vl kvs k = some v) : pu kvs k v = kvs := by
  rw [pu_in (vl_key h)]
  conv => rhs; rw [← List.map_id kvs]
  refine List.map_congr_left fun q hq => ?_
  by_cases e : q.1 = k
  · rw [if_pos e]
    have : vl kvs k = some q.2 := mem_vl hn (by rw [← e]; exact hq)
    have h2 : v = q.2 := Option.some.inj (h.symm.trans this)
    rw [h2, ← e]; rfl
  · rw [if_neg e]; rfl
theorem mem_dr {kvs : List (κ × β)} {k : κ} {p : κ × β} : p ∈ dr kvs k ↔ p.1 ≠ k ∧ p ∈ kvs := by
  unfold dr
  rw [List.mem_filter]
  simp [and_comm]
theorem vl_dr {kvs : List (κ × β)} {k j : κ} : vl (dr kvs k) j = if k = j then none else vl kvs j := by
  induction kvs with
  | nil => simp [dr, vl]
  | cons p r ih =>
    obtain ⟨a, u⟩ := p
    unfold dr at ih ⊢
    rw [List.filter_cons]
    by_cases e : a = k
    · subst e
      rw [if_neg (by simp), ih, vl_cons]
      by_cases e2 : a = j <;> simp [e2]
    · rw [if_pos (by simpa using e), vl_cons, ih, vl_cons]
      by_cases e2 : a = j
      · subst e2
        have : ¬ k = a := fun z => e z.symm
        simp [this]
      · simp [e2]
theorem dr_nodup {kvs : List (κ × β)} {k : κ} (h : (kvs.map (·.1)).Nodup) : ((dr kvs k).map (·.1)).Nodup := h.sublist (List.Sublist.map _ List.filter_sublist)
theorem keys_dr {kvs : List (κ × β)} {k : κ} : (dr kvs k).map (·.1) = (kvs.map (·.1)).filter fun x => decide (x ≠ k) := by
  unfold dr
  rw [List.filter_map]; rfl
/-! in a cell -/
theorem valA_map {f : κ → μ} (hf : ∀ a b, f a = f b → a = b) {g : κ → β → Av} {kvs : List (κ × β)} {k : κ} : valA (kvs.map fun p => (f p.1, g p.1 p.2)) (f k) = (vl kvs k).map (g k) := by
  induction kvs with
  | nil => rfl
  | cons p r ih =>
    obtain ⟨a, u⟩ := p
    rw [vl_cons, List.map_cons]
    unfold valA at ih ⊢
    rw [List.find?_cons]
    by_cases e : a = k
    · subst e; simp
    · have : f a ≠ f k := fun z => e (hf _ _ z)
      simp only [this, decide_false, e, if_false]; exact ih
theorem putA_map {f : κ → μ} (hf : ∀ a b, f a = f b → a = b) {g : κ → β → Av} {kvs : List (κ × β)} {k : κ} {v : β} {x : Av} (hx : x = g k v) : putA (kvs.map fun p => (f p.1, g p.1 p.2)) (f k) x = (pu kvs k v).map fun p => (f p.1, g p.1 p.2) := by
  subst hx
  have hm : ((kvs.map fun p => (f p.1, g p.1 p.2)).any fun kv => decide (kv.1 = f k)) = true ↔ k ∈ kvs.map (·.1) := by
    rw [List.any_map, List.any_eq_true, List.mem_map]
    refine ⟨fun ⟨p, hp, e⟩ => ⟨p, hp, hf _ _ (of_decide_eq_true e)⟩, fun ⟨p, hp, e⟩ => ⟨p, hp, decide_eq_true (by rw [← e])⟩⟩
  unfold putA
  by_cases hk : k ∈ kvs.map (·.1)
  · rw [if_pos (hm.mpr hk), pu_in hk, List.map_map, List.map_map]
    refine List.map_congr_left fun p _ => ?_
    show (if f p.1 = f k then (f p.1, g k v) else (f p.1, g p.1 p.2)) = (f (if p.1 = k then (k, v) else p).1, g (if p.1 = k then (k, v) else p).1 (if p.1 = k then (k, v) else p).2)
    by_cases e : p.1 = k
    · rw [if_pos (by rw [e]), if_pos e, e]
    · rw [if_neg (fun z => e (hf _ _ z)), if_neg e]
  · rw [if_neg (fun z => hk (hm.mp z)), pu_no hk, List.map_append]; rfl
theorem dropA_map {f : κ → μ} (hf : ∀ a b, f a = f b → a = b) {g : κ → β → Av} {kvs : List (κ × β)} {k : κ} : dropA (kvs.map fun p => (f p.1, g p.1 p.2)) (f k) = (dr kvs k).map fun p => (f p.1, g p.1 p.2) := by
  unfold dropA dr
  rw [List.filter_map]
  congr 1
  refine List.filter_congr fun p _ => ?_
  show decide (f p.1 ≠ f k) = decide (p.1 ≠ k)
  exact decide_eq_decide.mpr ⟨fun z e => z (by rw [e]), fun z e => z (hf _ _ e)⟩
/-- what stands there by the key alone -/
theorem map_pu_key {g : κ → γ} {kvs : List (κ × β)} {k : κ} {v : β} (h : k ∈ kvs.map (·.1)) : (pu kvs k v).map (fun p => g p.1) = kvs.map fun p => g p.1 := by
  have := congrArg (List.map g) (keys_in (v := v) h)
  rwa [List.map_map, List.map_map] at this
end
/-! ### roles -/
section
variable {R : Type} {ct ct' ct'' : R → Option Cl} {ℓ ℓ' ℓ'' : R → Nat} {S S' S'' : Sg} {r s : R} {c : Cl} {b : Nat}
structure RR (ct : R → Option Cl) (ℓ : R → Nat) (S : Sg) : Prop where
  at_ : ∀ r c, ct r = some c → S[ℓ r]? = some c
  inj : ∀ r s, ct r ≠ none → ct s ≠ none → ℓ r = ℓ s → r = s
def Fr (T : Nat → Prop) (S S' : Sg) : Prop := S.length ≤ S'.length ∧ ∀ i, i < S.length → ¬ T i → S'[i]? = S[i]?
def Im (ct : R → Option Cl) (ℓ : R → Nat) (i : Nat) : Prop := ∃ r, ct r ≠ none ∧ ℓ r = i
structure Stp (ct ct' : R → Option Cl) (ℓ ℓ' : R → Nat) (S S' : Sg) : Prop where
  fr : Fr (Im ct ℓ) S S'
  keep : ∀ r, ct r ≠ none → ct' r ≠ none ∧ ℓ' r = ℓ r
  new : ∀ r, ct r = none → ct' r ≠ none → S.length ≤ ℓ' r
  rr : RR ct' ℓ' S'
theorem RR.lt (h : RR ct ℓ S) (hr : ct r ≠ none) : ℓ r < S.length := by
  cases e : ct r with
  | none => exact absurd e hr
  | some c => exact (List.getElem?_eq_some_iff.mp (h.at_ r c e)).1
theorem Fr.refl {T : Nat → Prop} : Fr T S S := ⟨Nat.le_refl _, fun _ _ _ => rfl⟩
theorem Fr.trans {T T' : Nat → Prop} (a : Fr T S S') (h : Fr T' S' S'') (hT : ∀ i, i < S.length → T' i → T i) : Fr T S S'' :=
  ⟨Nat.le_trans a.1 h.1, fun i hi hn => (h.2 i (Nat.lt_of_lt_of_le hi a.1) fun z => hn (hT i hi z)).trans (a.2 i hi hn)⟩
theorem Fr.mono {T T' : Nat → Prop} (a : Fr T S S') (hT : ∀ i, i < S.length → T i → T' i) : Fr T' S S' := ⟨a.1, fun i hi hn => a.2 i hi fun z => hn (hT i hi z)⟩
theorem Fr.app {T : Nat → Prop} (a : Fr T S S') : Fr T S (S' ++ [c]) := ⟨by rw [List.length_append]; exact Nat.le_trans a.1 (by simp), fun i hi hn => by
  rw [List.getElem?_append_left (Nat.lt_of_lt_of_le hi a.1)]; exact a.2 i hi hn⟩
theorem Fr.set {T : Nat → Prop} (a : Fr T S S') (hb : b < S.length → T b) : Fr T S (S'.set b c) := ⟨by rw [List.length_set]; exact a.1, fun i hi hn => by
  rw [List.getElem?_set_ne (fun z => hn (by subst z; exact hb hi))]; exact a.2 i hi hn⟩
theorem Fr.get {T : Nat → Prop} {i : Nat} (a : Fr T S S') (h : S[i]? = some c) (hn : ¬ T i) : S'[i]? = some c := by
  rw [a.2 i (List.getElem?_eq_some_iff.mp h).1 hn]; exact h
theorem RR.app (h : RR ct ℓ S) : RR ct ℓ (S ++ [c]) := ⟨fun r c e => get_app (h.at_ r c e), h.inj⟩
theorem RR.off (h : RR ct ℓ S) (hb : ¬ Im ct ℓ b) : RR ct ℓ (S.set b c) := ⟨fun r c e => get_set_ne (h.at_ r c e) fun z => hb ⟨r, (by rw [e]; exact fun q => nomatch q), z.symm⟩, h.inj⟩
theorem RR.set [DecidableEq R] (h : RR ct ℓ S) (hr : ct r ≠ none) (he : ∀ s, ct' s = if s = r then some c else ct s) : RR ct' ℓ (S.set (ℓ r) c) := by
  have live : ∀ s, ct' s ≠ none → ct s ≠ none := fun s hs => by
    rw [he] at hs
    by_cases e : s = r
    · rw [e]; exact hr
    · rw [if_neg e] at hs; exact hs
  refine ⟨fun s c0 e => ?_, fun s t hs ht => h.inj s t (live s hs) (live t ht)⟩
  rw [he] at e
  by_cases e1 : s = r
  · rw [if_pos e1] at e; cases e; subst e1
    exact List.getElem?_set_self (h.lt hr)
  · rw [if_neg e1] at e
    exact get_set_ne (h.at_ s c0 e) fun z => e1 (h.inj s r (by rw [e]; exact fun q => nomatch q) hr z.symm)
/-- a cell that stands apart takes a role -/
theorem RR.adopt [DecidableEq R] (h : RR ct ℓ S) (hb : S[b]? = some c) (hn : ¬ Im ct ℓ b) (hr : ct r = none) (he : ∀ s, ct' s = if s = r then some c else ct s) (hl : ∀ s, ℓ' s = if s = r then b else ℓ s) : RR ct' ℓ' S := by
  have hlr : ℓ' r = b := by rw [hl, if_pos rfl]
  have live : ∀ s, s ≠ r → ct' s ≠ none → ct s ≠ none := fun s e hs => by rw [he, if_neg e] at hs; exact hs
  refine ⟨fun s c0 e => ?_, fun s t hs ht e => ?_⟩
  · rw [he] at e
    by_cases e1 : s = r
    · rw [if_pos e1] at e; cases e; subst e1; rw [hlr]; exact hb
    · rw [if_neg e1] at e; rw [hl, if_neg e1]; exact h.at_ s c0 e
  · by_cases e1 : s = r
    · by_cases e2 : t = r
      · rw [e1, e2]
      · rw [e1, hlr, hl, if_neg e2] at e
        exact absurd ⟨t, live t e2 ht, e.symm⟩ hn
    · by_cases e2 : t = r
      · rw [e2, hlr, hl, if_neg e1] at e
        exact absurd ⟨s, live s e1 hs, e⟩ hn
      · rw [hl, hl, if_neg e1, if_neg e2] at e
        exact h.inj s t (live s e1 hs) (live t e2 ht) e
theorem Stp.refl (h : RR ct ℓ S) : Stp ct ct ℓ ℓ S S := ⟨Fr.refl, fun r hr => ⟨hr, rfl⟩, fun r h1 h2 => absurd h1 h2, h⟩
theorem Stp.im (h : Stp ct ct' ℓ ℓ' S S') {i : Nat} (hi : i < S.length) (hm : Im ct' ℓ' i) : Im ct ℓ i := by
  obtain ⟨r, h1, h2⟩ := hm
  by_cases e : ct r = none
  · have := h.new r e h1; omega
  · exact ⟨r, e, by rw [← (h.keep r e).2]; exact h2⟩
theorem Stp.trans (h : Stp ct ct' ℓ ℓ' S S') (k : Stp ct' ct'' ℓ' ℓ'' S' S'') : Stp ct ct'' ℓ ℓ'' S S'' := by
  refine ⟨h.fr.trans k.fr fun i hi => h.im hi, fun r hr => ?_, fun r h1 h2 => ?_, k.rr⟩
  · obtain ⟨h1, h2⟩ := h.keep r hr
    obtain ⟨h3, h4⟩ := k.keep r h1
    exact ⟨h3, h4.trans h2⟩
  · by_cases e : ct' r = none
    · exact Nat.le_trans h.fr.1 (k.new r e h2)
    · rw [(k.keep r e).2]; exact h.new r h1 e
theorem Stp.app (h : Stp ct ct' ℓ ℓ' S S') : Stp ct ct' ℓ ℓ' S (S' ++ [c]) := ⟨h.fr.app, h.keep, h.new, h.rr.app⟩
/-- what stands apart: neither of the first roles nor of the last -/
theorem Stp.apart (h : Stp ct ct' ℓ ℓ' S S') (hb : b < S.length) (hn : ¬ Im ct ℓ b) : ¬ Im ct' ℓ' b := fun z => hn (h.im hb z)
theorem Stp.get (h : Stp ct ct' ℓ ℓ' S S') {c : Cl} (hb : S[b]? = some c) (hn : ¬ Im ct ℓ b) : S'[b]? = some c := h.fr.get hb hn
theorem Stp.off (h : Stp ct ct' ℓ ℓ' S S') (hb : S.length ≤ b) (hn : ¬ Im ct' ℓ' b) : Stp ct ct' ℓ ℓ' S (S'.set b c) := ⟨h.fr.set fun z => by omega, h.keep, h.new, h.rr.off hn⟩
theorem Stp.set [DecidableEq R] (h : Stp ct ct' ℓ ℓ' S S') (hr : ct' r ≠ none) (he : ∀ s, ct'' s = if s = r then some c else ct' s) : Stp ct ct'' ℓ ℓ' S (S'.set (ℓ' r) c) := by
  have live : ∀ s, ct'' s ≠ none ↔ ct' s ≠ none := fun s => by
    rw [he]
    by_cases e : s = r
    · rw [if_pos e, e]; exact ⟨fun _ => hr, fun _ q => nomatch q⟩
    · rw [if_neg e]
  refine ⟨h.fr.set fun hlt => h.im hlt ⟨r, hr, rfl⟩, fun s hs => ?_, fun s h1 h2 => h.new s h1 ((live s).mp h2), h.rr.set hr he⟩
  obtain ⟨h1, h2⟩ := h.keep s hs
  exact ⟨(live s).mpr h1, h2⟩
theorem Stp.adopt [DecidableEq R] (h : Stp ct ct' ℓ ℓ' S S') (hb : S'[b]? = some c) (hge : S.length ≤ b) (hn : ¬ Im ct' ℓ' b) (hr : ct' r = none) (he : ∀ s, ct'' s = if s = r then some c else ct' s) (hl : ∀ s, ℓ'' s = if s = r then b else ℓ' s) : Stp ct ct'' ℓ ℓ'' S S' := by
  refine ⟨h.fr, fun s hs => ?_, fun s h1 h2 => ?_, h.rr.adopt hb hn hr he hl⟩
  · obtain ⟨h1, h2⟩ := h.keep s hs
    have : s ≠ r := fun z => h1 (z ▸ hr)
    rw [he, hl, if_neg this, if_neg this]
    exact ⟨h1, h2⟩
  · by_cases e : s = r
    · rw [hl, if_pos e]; exact hge
    · rw [he, if_neg e] at h2
      rw [hl, if_neg e]; exact h.new s h1 h2
theorem Im.no_len (h : RR ct ℓ S) : ¬ Im ct ℓ S.length := fun ⟨r, h1, h2⟩ => by have := h.lt h1; omega
theorem Im.no_ge (h : RR ct ℓ S) {i : Nat} (hi : S.length ≤ i) : ¬ Im ct ℓ i := fun ⟨r, h1, h2⟩ => by have := h.lt h1; omega
end
/-! ### comprehensions over anything walked -/
theorem lgo_itI {it : Itm} {xs : List Av} {S : Sg} (hit : ∀ i, it i S = some xs[i]?) (g : Av → AS) (tt : AT) (e : AE) (σ : Sl) (f : Av → Bool) (h : Av → Av) (hb : ∀ x ∈ xs, ∃ σ1, g x σ S = some (.nx, σ1, S) ∧ tt σ1 S = some (.ok (f x), S) ∧ (f x = true → e σ1 S = some (.ok (h x), S))) :
    ∀ (n i : Nat) (acc : List Av), i ≤ xs.length → xs.length < i + n → acc.length + (xs.length - i) ≤ 100000 → lgo it g tt e σ n i acc S = some (acc ++ ((xs.drop i).filter f).map h, S)
  | 0, i, acc, h0, h1, _ => by omega
  | n + 1, i, acc, h0, h1, h2 => by
    unfold lgo
    rw [hit]
    by_cases hl : i < xs.length
    · have hd : xs.drop i = xs[i] :: xs.drop (i + 1) := List.drop_eq_getElem_cons hl
      obtain ⟨σ1, e1, e2, e3⟩ := hb xs[i] (List.getElem_mem hl)
      rw [hd, List.getElem?_eq_getElem hl]
      dsimp only
      rw [e1]
      dsimp only
      rw [e2]
      cases hf : f xs[i] with
      | true =>
        dsimp only
        rw [e3 hf]
        dsimp only
        rw [if_pos (by omega), lgo_itI hit g tt e σ f h hb n (i + 1) _ hl (by omega) (by rw [List.length_append, List.length_singleton]; omega), List.filter_cons, hf, if_pos rfl, List.map_cons, List.append_assoc]
        rfl
      | false =>
        dsimp only
        rw [lgo_itI hit g tt e σ f h hb n (i + 1) _ hl (by omega) (by omega), List.filter_cons, hf]
        rfl
    · rw [List.drop_eq_nil_of_le (by omega), List.getElem?_eq_none (by omega)]
      simp
theorem aLc_I {mk : List Av → Op0} {ai : Sl → M Itm} {it : Itm} {g : Av → AS} {tt : AT} {e : AE} {vs : List Nat} {σ : Sl} {S : Sg} {xs : List Av} (f : Av → Bool) (h : Av → Av) (hi : ai σ S = some (.ok it, S)) (hit : ∀ i, it i S = some xs[i]?) (hl : xs.length ≤ 100000)
    (hb : ∀ x ∈ xs, ∃ σ1, g x (wipeA σ vs) S = some (.nx, σ1, S) ∧ tt σ1 S = some (.ok (f x), S) ∧ (f x = true → e σ1 S = some (.ok (h x), S))) :
    aLc mk ai g tt e vs σ S = lf (mk ((xs.filter f).map h)) S := by
  have hq := lgo_itI hit g tt e (wipeA σ vs) f h hb fu 0 [] (Nat.zero_le _) (by show xs.length < 0 + 1000000; omega) (by show 0 + (xs.length - 0) ≤ 100000; omega)
  rw [List.drop_zero, List.nil_append] at hq
  unfold aLc bnd
  rw [hi]
  dsimp only
  unfold lf
  rw [hq]
theorem itL_it (xs : List Av) (S : Sg) : ∀ i, itL xs i S = some xs[i]? := fun i => rfl
theorem lcF_ok {xs : List Av} {ds : List D} {S : Sg} (h : allD xs = some ds) : lf (lcF xs) S = some (.ok (.d (.list ds)), S) := by unfold lf lcF; rw [h]; rfl
theorem lcC_ok {xs : List Av} {S : Sg} : lf (lcC xs) S = some (.ok (.o S.length), S ++ [.lst xs]) := rfl
/-- all of typed things, frozen -/
theorem aLc_T {α : Type} {ai : Sl → M Itm} {it : Itm} {g : Av → AS} {tt : AT} {e : AE} {vs : List Nat} {σ : Sl} {S : Sg} (as : List α) (u : α → Av) (p : α → Bool) (r : α → D) (hi : ai σ S = some (.ok it, S)) (hit : ∀ i, it i S = some (as.map u)[i]?) (hl : as.length ≤ 100000)
    (hb : ∀ a ∈ as, ∃ σ1, g (u a) (wipeA σ vs) S = some (.nx, σ1, S) ∧ tt σ1 S = some (.ok (p a), S) ∧ (p a = true → e σ1 S = some (.ok (.d (r a)), S))) :
    aLc lcF ai g tt e vs σ S = some (.ok (.d (.list ((as.filter p).map r))), S) := by
  have key : ∀ (n i : Nat) (acc : List Av), i ≤ as.length → as.length < i + n → acc.length + (as.length - i) ≤ 100000 → lgo it g tt e (wipeA σ vs) n i acc S = some (acc ++ ((as.drop i).filter p).map fun a => .d (r a), S) := by
    intro n
    induction n with
    | zero => intro i acc h0 h1 _; omega
    | succ n ih =>
      intro i acc h0 h1 h2
      unfold lgo
      rw [hit, List.getElem?_map]
      by_cases hl : i < as.length
      · have hd : as.drop i = as[i] :: as.drop (i + 1) := List.drop_eq_getElem_cons hl
        obtain ⟨σ1, e1, e2, e3⟩ := hb as[i] (List.getElem_mem hl)
        rw [hd, List.getElem?_eq_getElem hl]
        dsimp only [Option.map_some]
        rw [e1]
        dsimp only
        rw [e2]
        cases hf : p as[i] with
        | true =>
          dsimp only
          rw [e3 hf]
          dsimp only
          rw [if_pos (by omega), ih (i + 1) _ hl (by omega) (by rw [List.length_append, List.length_singleton]; omega), List.filter_cons, hf, if_pos rfl, List.map_cons, List.append_assoc]
          rfl
        | false =>
          dsimp only
          rw [ih (i + 1) _ hl (by omega) (by omega), List.filter_cons, hf]
          rfl
      · rw [List.drop_eq_nil_of_le (by omega), List.getElem?_eq_none (by omega)]
        simp
  have hq := key fu 0 [] (Nat.zero_le _) (by show as.length < 0 + 1000000; omega) (by show 0 + (as.length - 0) ≤ 100000; omega)
  rw [List.drop_zero, List.nil_append] at hq
  have : allD (((as.filter p).map fun a => Av.d (r a))) = some ((as.filter p).map r) := by
    have := allD_map ((as.filter p).map r)
    rwa [List.map_map] at this
  unfold aLc bnd
  rw [hi]
  dsimp only
  unfold lf
  rw [hq]
  dsimp only
  unfold lcF
  rw [this]
  rfl
theorem aLc_T1 {α : Type} {ai : Sl → M Itm} {it : Itm} {g : Av → AS} {e : AE} {vs : List Nat} {σ : Sl} {S : Sg} (as : List α) (u : α → Av) (r : α → D) (hi : ai σ S = some (.ok it, S)) (hit : ∀ i, it i S = some (as.map u)[i]?) (hl : as.length ≤ 100000)
    (hb : ∀ a ∈ as, ∃ σ1, g (u a) (wipeA σ vs) S = some (.nx, σ1, S) ∧ e σ1 S = some (.ok (.d (r a)), S)) :
    aLc lcF ai g aYes e vs σ S = some (.ok (.d (.list (as.map r))), S) := by
  have := aLc_T (tt := aYes) as u (fun _ => true) r hi hit hl (fun a ha => by
    obtain ⟨σ1, e1, e2⟩ := hb a ha
    exact ⟨σ1, e1, rfl, fun _ => e2⟩)
  rwa [List.filter_eq_self.mpr (fun _ _ => rfl)] at this
/-! ### steps -/
section
variable {σ : Sl} {S S1 S2 S3 : Sg} {a : AE} {t : AA} {x y z : Av} {d : D} {j : Nat} {c : Cl}
theorem at_nat {α : Type} {xs : List α} {n : Nat} {x : α} (h : xs[n]? = some x) : atI xs (n : Int) = some x := by
  have hl := (List.getElem?_eq_some_iff.mp h).1
  unfold atI ixN
  rw [if_pos (by omega), if_pos (by omega)]
  exact h
theorem ix_nat {n m : Nat} (h : n < m) : ixN m (n : Int) = some n := by
  unfold ixN
  rw [if_pos (by omega), if_pos (by omega)]; rfl
theorem f_get2 {o : Option Av} (h : S[j]? = some c) (hl : lookC (peel c) d = some o) : bGet2 (.o j) [.d d, z] S = some (o.getD z, S) := by unfold bGet2; dsimp only; rw [h]; dsimp only; rw [hl]; rfl
theorem f_setd_in {c' : Cl} (h : S[j]? = some c) (hd : isDk c = true) (hl : lookC c d = some (some x)) (hp : putC c d z = some c') : bSetd (.o j) [.d d, z] S = some (x, S) := by
  unfold bSetd; dsimp only; rw [h]; dsimp only; rw [if_pos hd, hl]; dsimp only; rw [hp]; rfl
theorem f_setd_no {c' : Cl} (h : S[j]? = some c) (hd : isDk c = true) (hl : lookC c d = some none) (hp : putC c d z = some c') : bSetd (.o j) [.d d, z] S = some (z, S.set j c') := by
  unfold bSetd; dsimp only; rw [h]; dsimp only; rw [if_pos hd, hl]; dsimp only; rw [hp]; rfl
theorem f_popX {c' : Cl} (h : S[j]? = some c) (hd : isDk c = true) (hl : lookC c d = some (some x)) (hp : dropC c d = some c') : bPop (.o j) [.d d] S = some (x, S.set j c') := by
  unfold bPop; dsimp only; rw [h]; dsimp only; rw [if_pos hd, hl]; dsimp only; rw [hp]; rfl
theorem f_stM {c' : Cl} (h : S[j]? = some c) (hp : putC c d z = some c') : Ly.stM (.o j) (.d d) z S = some (S.set j c') := by
  unfold Ly.stM; dsimp only; rw [h]; dsimp only; rw [hp]; rfl
theorem f_inX {o : Option Av} (h : S[j]? = some c) (hd : isDk (peel c) = true) (hl : lookC (peel c) d = some o) : inB S (.d d) (.o j) = some o.isSome := by
  unfold inB; dsimp only; rw [h]
  cases c with
  | lst xs => cases hd
  | gone => cases hd
  | ins c fs => cases hd
  | dk kvs => dsimp only; rw [hl]; rfl
  | dt kvs => dsimp only; rw [hl]; rfl
  | dv kvs => dsimp only; rw [hl]; rfl
  | lk c => dsimp only; rw [hl]; rfl
theorem isX_of (h : S[j]? = some c) (hd : isDk (peel c) = true) : isX S (.o j) = true := by
  unfold isX; dsimp only; rw [h]; dsimp only
  cases e : peel c with
  | dk kvs => rfl
  | dt kvs => rfl
  | dv kvs => rfl
  | lst xs => rw [e] at hd; cases hd
  | gone => rw [e] at hd; cases hd
  | ins c fs => rw [e] at hd; cases hd
  | lk c => rw [e] at hd; cases hd
theorem isL_of {xs : List Av} (h : S[j]? = some (.lst xs)) : isL S (.o j) = true := by unfold isL; dsimp only; rw [h]
theorem e_dnewK : aDNewK σ S = some (.ok (.o S.length), S ++ [.dk []]) := rfl
theorem e_dnewV : aDNewV σ S = some (.ok (.o S.length), S ++ [.dv []]) := rfl
theorem e_dnewX : aDNewX σ S = some (.ok (.o S.length), S ++ [.dt []]) := rfl
theorem e_lcC {ai : Sl → M Itm} {it : Itm} {g : Av → AS} {tt : AT} {e : AE} {vs : List Nat} {xs : List Av} (f : Av → Bool) (h : Av → Av) (hi : ai σ S = some (.ok it, S)) (hit : ∀ i, it i S = some xs[i]?) (hl : xs.length ≤ 100000)
    (hb : ∀ x ∈ xs, ∃ σ1, g x (wipeA σ vs) S = some (.nx, σ1, S) ∧ tt σ1 S = some (.ok (f x), S) ∧ (f x = true → e σ1 S = some (.ok (h x), S))) :
    aLc lcC ai g tt e vs σ S = some (.ok (.o S.length), S ++ [.lst ((xs.filter f).map h)]) := aLc_I f h hi hit hl hb
theorem seqD_lst {ds : List D} (h : S[j]? = some (.lst (ds.map .d))) : seqD S (.o j) = some ds := by unfold seqD; dsimp only; rw [h]; exact allD_map ds
theorem i_enum {xs : List Av} (ht : t σ S = some (.ok [.o j], S)) (h : S[j]? = some (.lst xs)) : aiEnum t σ S = some (.ok (itE j), S) := by
  unfold aiEnum; rw [bnd_ok ht]; dsimp only; rw [h]
theorem itE_it {ds : List D} (h : S[j]? = some (.lst (ds.map .d))) : ∀ i, itE j i S = some ((ds.mapIdx fun i d => Av.d (.tuple [.int (i : Nat), d]))[i]?) := fun i => by
  unfold itE; rw [h]; dsimp only
  rw [List.getElem?_mapIdx, List.getElem?_map]
  cases ds[i]? with
  | none => rfl
  | some d => rfl
theorem i_zipT {as bs : List D} (ht : t σ S = some (.ok [.d (.tuple as), .d (.tuple bs)], S)) : aiZip t σ S = some (.ok (itL (zipD as bs)), S) := by unfold aiZip; rw [bnd_ok ht]
theorem i_vals {kvs : List (Key × Av)} (ha : a σ S = some (.ok (.o j), S)) (h : S[j]? = some (.lk (.dk kvs))) : aiVals a σ S = some (.ok (itL (kvs.map fun p => p.2)), S) := by
  unfold aiVals; rw [bnd_ok ha]; dsimp only; rw [h]; rfl
theorem i_keys {kvs : List (Key × Av)} (ha : a σ S = some (.ok (.o j), S)) (h : S[j]? = some (.lk (.dk kvs))) : aiKeys a σ S = some (.ok (itL (kvs.map fun p => .d (keyD p.1))), S) := by
  unfold aiKeys; rw [bnd_ok ha]; dsimp only; rw [h]; rfl
theorem i_items {kvs : List (Key × Av)} {ys : List Av} (ha : a σ S = some (.ok (.o j), S)) (h : S[j]? = some (.lk (.dk kvs))) (hp : pairD kvs = some ys) : aiItems a σ S = some (.ok (itL ys), S) := by
  unfold aiItems; rw [bnd_ok ha]; dsimp only; rw [h]; dsimp only [lkK]; rw [hp]; rfl
/-- under a lock: nothing but what is said -/
theorem e_lock {e : AE} {x : Av} (ha : a σ S = some (.ok (.o j), S1)) (h : S[j]? = some c) (hd : isDk c = true) (he : e σ (S.set j (.lk c)) = some (.ok x, S.set j (.lk c))) : aLockE a e σ S = some (.ok x, S) := by
  have hl := (List.getElem?_eq_some_iff.mp h).1
  unfold aLockE; rw [ha]; dsimp only; rw [h]; dsimp only; rw [if_pos hd, he]; dsimp only; rw [List.getElem?_set_self hl]; dsimp only
  rw [List.set_set]
  have : S.set j c = S := by
    obtain ⟨_, e⟩ := List.getElem?_eq_some_iff.mp h
    rw [← e]; exact List.set_getElem_self hl
  rw [this]
theorem wlock {s : AS} {Q : Fl → Sl → Sg → Prop} (ha : a σ S = some (.ok (.o j), S1)) (h : S[j]? = some c) (hd : isDk c = true)
    (hs : wS s σ (S.set j (.lk c)) (fun fl σ' S' => (∃ c', S'[j]? = some (.lk c')) ∧ (∀ e, fl ≠ .ex e) ∧ Q fl σ' (S'.set j c))) : wS (aLockS a s) σ S Q := by
  obtain ⟨fl, σ', S', e1, ⟨c', e2⟩, e3, e4⟩ := hs
  refine ⟨fl, σ', _, ?_, e4⟩
  unfold aLockS; rw [ha]; dsimp only; rw [h]; dsimp only; rw [if_pos hd, e1]
  cases fl with
  | ex e => exact absurd rfl (e3 e)
  | nx => dsimp only; rw [e2]
  | bk => dsimp only; rw [e2]
  | ct => dsimp only; rw [e2]
  | rt x => dsimp only; rw [e2]
/-- walks with pairs -/
theorem wforT {s : AS} {Q : Fl → Sl → Sg → Prop} {α : Type} {ai : Sl → M Itm} {i1 i2 : Nat} {as : List α} (u v : α → D) (I : Nat → Sl → Sg → Prop) (hi : ai σ S = some (.ok (itL (as.map fun p => .d (.tuple [u p, v p]))), S1)) (hl : as.length < 1000000) (h0 : I 0 σ S1)
    (step : ∀ i p σ S, as[i]? = some p → I i σ S → wS s ((σ.set i1 (some (.d (u p)))).set i2 (some (.d (v p)))) S (fun fl σ' S' => match fl with | .nx => I (i + 1) σ' S' | .ct => I (i + 1) σ' S' | .bk => Q .nx σ' S' | .rt x => Q (.rt x) σ' S' | .ex e => Q (.ex e) σ' S'))
    (hend : ∀ σ S, I as.length σ S → Q .nx σ S) : wS (aFor ai (agTup 2 (agCons (agName i1) (agCons (agName i2) agNil))) s) σ S Q := by
  refine wfor I hi (by rw [List.length_map]; exact hl) h0 (fun i x σ S hx hI => ?_) (fun σ S hI => hend σ S (by rwa [List.length_map] at hI))
  rw [List.getElem?_map] at hx
  obtain ⟨p, hp, rfl⟩ := Option.map_eq_some_iff.mp hx
  exact ⟨_, _, rfl, step i p σ S hp hI⟩
theorem wforT3 {s : AS} {Q : Fl → Sl → Sg → Prop} {α : Type} {ai : Sl → M Itm} {i1 i2 i3 : Nat} {as : List α} (u v w : α → D) (I : Nat → Sl → Sg → Prop) (hi : ai σ S = some (.ok (itL (as.map fun p => .d (.tuple [u p, v p, w p]))), S1)) (hl : as.length < 1000000) (h0 : I 0 σ S1)
    (step : ∀ i p σ S, as[i]? = some p → I i σ S → wS s (((σ.set i1 (some (.d (u p)))).set i2 (some (.d (v p)))).set i3 (some (.d (w p)))) S (fun fl σ' S' => match fl with | .nx => I (i + 1) σ' S' | .ct => I (i + 1) σ' S' | .bk => Q .nx σ' S' | .rt x => Q (.rt x) σ' S' | .ex e => Q (.ex e) σ' S'))
    (hend : ∀ σ S, I as.length σ S → Q .nx σ S) : wS (aFor ai (agTup 3 (agCons (agName i1) (agCons (agName i2) (agCons (agName i3) agNil)))) s) σ S Q := by
  refine wfor I hi (by rw [List.length_map]; exact hl) h0 (fun i x σ S hx hI => ?_) (fun σ S hI => hend σ S (by rwa [List.length_map] at hI))
  rw [List.getElem?_map] at hx
  obtain ⟨p, hp, rfl⟩ := Option.map_eq_some_iff.mp hx
  exact ⟨_, _, rfl, step i p σ S hp hI⟩
theorem wforA {s : AS} {Q : Fl → Sl → Sg → Prop} {α : Type} {ai : Sl → M Itm} {i1 : Nat} {as : List α} (u : α → Av) (I : Nat → Sl → Sg → Prop) (hi : ai σ S = some (.ok (itL (as.map u)), S1)) (hl : as.length < 1000000) (h0 : I 0 σ S1)
    (step : ∀ i p σ S, as[i]? = some p → I i σ S → wS s (σ.set i1 (some (u p))) S (fun fl σ' S' => match fl with | .nx => I (i + 1) σ' S' | .ct => I (i + 1) σ' S' | .bk => Q .nx σ' S' | .rt x => Q (.rt x) σ' S' | .ex e => Q (.ex e) σ' S'))
    (hend : ∀ σ S, I as.length σ S → Q .nx σ S) : wS (aFor ai (agName i1) s) σ S Q := by
  refine wforN I hi (by rw [List.length_map]; exact hl) h0 (fun i x σ S hx hI => ?_) (fun σ S hI => hend σ S (by rwa [List.length_map] at hI))
  rw [List.getElem?_map] at hx
  obtain ⟨p, hp, rfl⟩ := Option.map_eq_some_iff.mp hx
  exact step i p σ S hp hI
theorem sq_mono {t' : AS} {Q : Fl → Sl → Sg → Prop} {P' : Sl → Sg → Prop} {s : AS} (h : wS s σ S (fun fl σ' S' => match fl with | .nx => P' σ' S' | _ => False)) (k : ∀ σ' S', P' σ' S' → wS t' σ' S' Q) : wS (aSeq s t') σ S Q := by
  obtain ⟨fl, σ1, S1, e, q⟩ := h
  refine wseq ⟨fl, σ1, S1, e, ?_⟩
  cases fl with
  | nx => exact k _ _ q
  | _ => exact q.elim
/-- entering a def that only reads -/
theorem def_ro {np n : Nat} {b : AS} {xs : List Av} {rr : Rs Av} (h : wS b (xs.map some ++ List.replicate (n - np) none) S (fun fl _ S' => S' = S ∧ match fl with | .rt x => rr = .ok x | .nx => rr = .ok (.d .none) | .ex e => rr = .ex e | _ => False)) (hl : xs.length = np := by rfl) : aDef np n b xs S = some (rr, S) := by
  obtain ⟨fl, σ', S', e, rfl, q⟩ := h
  unfold aDef
  rw [if_pos hl, e]
  cases fl with
  | rt x => rw [q]
  | nx => rw [q]
  | ex e => rw [q]
  | bk => exact q.elim
  | ct => exact q.elim
end
end Ly
/-! LyZE: zip of a tuple and a list. -/
namespace Ly
open PySem PySem.Spec PyProof.Rows L2
section
abbrev oIt (c : String) (a : Addr) : Obj := { cls := .type c, data := .fields #[.ref a, .int 0 0] }
abbrev oTu (u v : Value) : Obj := { cls := .type "tuple", data := .seq #[u, v] }
abbrev zm1 (h : Heap) (t : Addr) : Heap := h.push (oIt "tuple_iterator" t)
abbrev zm2 (h : Heap) (t l : Addr) : Heap := (zm1 h t).push (oIt "list_iterator" l)
abbrev zm3 (h : Heap) (t l : Addr) : Heap := (zm2 h t l).push (oTu (.ref h.objs.size) (.ref (zm1 h t).objs.size))
abbrev zm4 (h : Heap) (t l : Addr) : Heap := (zm3 h t l).push (oTu .none .none)
abbrev zm5 (h : Heap) (t l : Addr) : Heap := (zm4 h t l).push { cls := .type "zip", data := .fields #[.none, .bool false, .bool false, .ref (zm2 h t l).objs.size, .ref (zm3 h t l).objs.size] }
theorem meets_zm (t l : Addr) (us ws : Array Value) : Meets (Builtin.«zip.__new__» ⟨[.type "zip", .ref t, .ref l], []⟩) (fun _ R s => s.heap.IsTuple t us ∧ s.heap.IsList l ws ∧ R (.ok (.ret (.ref (zm4 s.heap t l).objs.size))) { s with heap := zm5 s.heap t l }) :=
  .of_wp fun prog w A R s h => by
    obtain ⟨hp, g, d, tk, os⟩ := s
    obtain ⟨ht, hl, h⟩ := h
    have hsub := sub_zip
    have q1 : Heap.IsTuple (Shared.heap ⟨hp, g, d, tk, os⟩) t us := ht
    have q2 : Heap.IsList (Shared.heap ⟨hp.push (oIt "tuple_iterator" t), g, d, tk, os⟩) l ws := Heap.IsList.push hl _
    wp_walk using wpAny_pyIter_tuple q1, wpAny_pyIter_list q2
    exact ⟨_, rfl, h⟩
variable {prog : Program} {w : World} {A : Around} {E : Value → Shared → Prop} {s : Shared}
theorem call_zm {t l : Addr} {us ws : Array Value} {Q : Value → Shared → Prop} (ht : s.heap.IsTuple t us) (hl : s.heap.IsList l ws)
    (h : ∀ h', IsZip h' (s.heap.objs.size + 4) (s.heap.objs.size + 2) (s.heap.objs.size + 3) .none ∧ IsPair h' (s.heap.objs.size + 2) (.ref s.heap.objs.size) (.ref (s.heap.objs.size + 1)) ∧ IsPair h' (s.heap.objs.size + 3) .none .none ∧
      h'.IsTupleIter s.heap.objs.size t 0 ∧ h'.IsListIter (s.heap.objs.size + 1) l 0 ∧ (∀ c o, s.heap.get? c = some o → h'.get? c = some o) → Q (.ref (s.heap.objs.size + 4)) { s with heap := h' }) : wpAny (model prog w) A (call (.type "zip") [.ref t, .ref l]) Q E s := by
  refine callType_new F.called_zip (by decide) (F.typeCall_zip_2 _ _) (F.newCall_zip_2 _ _) (fun obj => F.args_object_init_3 obj _ _) F.entry_zip_new (meets_zm t l us ws) ⟨ht, hl, ?_⟩
  have sz : ∀ (h : Heap) (o : Obj), (h.push o).objs.size = h.objs.size + 1 := fun h o => Heap.size_push ..
  have e1 : (zm1 s.heap t).objs.size = s.heap.objs.size + 1 := sz _ _
  have e2 : (zm2 s.heap t l).objs.size = s.heap.objs.size + 2 := by rw [sz, e1]
  have e3 : (zm3 s.heap t l).objs.size = s.heap.objs.size + 3 := by rw [sz, e2]
  have e4 : (zm4 s.heap t l).objs.size = s.heap.objs.size + 4 := by rw [sz, e3]
  have up : ∀ {h : Heap} {c : Addr} {o q : Obj}, h.get? c = some o → (h.push q).get? c = some o := fun e => Heap.get?_push_of_some _ e
  have k5 : (zm5 s.heap t l).get? (zm4 s.heap t l).objs.size = some _ := Heap.get?_push_size _ rfl
  have k4 : (zm5 s.heap t l).get? (zm3 s.heap t l).objs.size = some _ := up (Heap.get?_push_size _ rfl)
  have k3 : (zm5 s.heap t l).get? (zm2 s.heap t l).objs.size = some _ := up (up (Heap.get?_push_size _ rfl))
  have k2 : (zm5 s.heap t l).get? (zm1 s.heap t).objs.size = some _ := up (up (up (Heap.get?_push_size _ rfl)))
  have k1 : (zm5 s.heap t l).get? s.heap.objs.size = some _ := up (up (up (up (Heap.get?_push_size _ rfl))))
  show _ ∧ _
  rw [e2, e3, e4] at k5
  rw [e1, e2] at k3
  rw [e3] at k4
  rw [e1] at k2
  rw [e4]
  exact ⟨⟨_, k5, rfl⟩, h _ ⟨k5, k3, k4, ⟨_, k1, rfl, rfl⟩, ⟨_, k2, rfl, rfl⟩, fun c o x => up (up (up (up (up x))))⟩⟩
end
/-- a tuple at a, a list at b, as they stand at each turn -/
def ItzM (K : PySem.W.Frag) (a b : Addr) : It :=
  ⟨fun i H => ∃ (us ws : List V) (x y : V), SqT K H a us ∧ SqL K H b ws ∧ us[i]? = some x ∧ ws[i]? = some y,
    fun i H v H' => ∃ T x y, v = .ref T ∧ H T = none ∧ H' = upd H T (.tup [x, y]) ∧ (∀ us, SqT K H a us → us[i]? = some x) ∧ ∀ ws, SqL K H b ws → ws[i]? = some y,
    fun i H => ∃ us ws : List V, SqT K H a us ∧ SqL K H b ws ∧ (us.length ≤ i ∨ ws.length ≤ i)⟩
theorem sep_of {z TI TO i1 i2 a b : Addr} (D : ZipApart z TI TO i1 i2 a b) (h12 : i1 ≠ b) (h21 : i2 ≠ a) : ZipSep2 z TI TO i1 i2 [i1, a] [i2, b] where
  TIz := D.TIz
  TOz := D.TOz
  TITO := D.TITO
  TIi1 := D.TIi1
  mem1 := by simp
  zf1 := by simp [D.i1z.symm, D.l1z.symm]
  Tf1 := by simp [D.TOi1, D.l1TO.symm]
  TIi2 := D.TIi2
  mem2 := by simp
  zf2 := by simp [D.i2z.symm, D.l2z.symm]
  Tf2 := by simp [D.TOi2, D.l2TO.symm]
  sep1_2 := by simp [D.i12, h12]
  sep2_1 := by simp [D.i12.symm, h21]
def zmSt (a b z TI TO i1 i2 : Addr) (i : Nat) (h : Heap) : Prop := IsZip h z TI TO .none ∧ IsPair h TI (.ref i1) (.ref i2) ∧ (∃ x y, IsPair h TO x y) ∧ h.IsTupleIter i1 a i ∧ h.IsListIter i2 b i
theorem dEndT {prog : Program} {w : World} {A : Around} (hh : A.handled = none) (it t : Addr) (us : Array Value) (i : Nat) (hx : us[i]? = none) : Draws prog w A it [it, t] i (fun _ _ => True) (fun j h => j = i ∧ h.IsTupleIter it t i ∧ h.IsTuple t us) :=
  ⟨fun _ _ st => let ⟨o, ho, _⟩ := st.2.1; ⟨o, ho⟩, fun _ _ _ st hk => ⟨st.1, st.2.1.at fun o => hk it (by simp) o, st.2.2.at fun o => hk t (by simp) o⟩, fun j s Q E hj st => absurd st.1 (Nat.ne_of_lt hj), fun s Q E st hE => wpAny_nextOf_tuple_end hh st.2.1 st.2.2 hx hE⟩
theorem dEndL {prog : Program} {w : World} {A : Around} (hh : A.handled = none) (it t : Addr) (us : Array Value) (i : Nat) (hx : us[i]? = none) : Draws prog w A it [it, t] i (fun _ _ => True) (fun j h => j = i ∧ h.IsListIter it t i ∧ h.IsList t us) :=
  ⟨fun _ _ st => let ⟨o, ho, _⟩ := st.2.1; ⟨o, ho⟩, fun _ _ _ st hk => ⟨st.1, st.2.1.at fun o => hk it (by simp) o, st.2.2.at fun o => hk t (by simp) o⟩, fun j s Q E hj st => absurd st.1 (Nat.ne_of_lt hj), fun s Q E st hE => wpAny_nextOf_list_end hh st.2.1 st.2.2 hx hE⟩
theorem turn_zm {P : Program} {w : World} {K : PySem.W.Frag} {elts : List Expr} {kk : Nat} {tpos : Pos} {a b z TI TO i1 i2 : Addr} (D : ZipApart z TI TO i1 i2 a b) :
    Turn P w K (.Tuple elts kk tpos) (ItzM K a b) [z, TI, TO, i1, i2] z (zmSt a b z TI TO i1 i2) := by
  have S := sep_of D D.l2i1.symm D.l1i2.symm
  have five : ∀ {c : Addr}, c ∈ [z, TI, TO, i1, i2] → c = z ∨ c = TI ∨ c = TO ∨ c = i1 ∨ c = i2 := fun h => by simpa using h
  refine ⟨by simp, fun i h st c hc => ?_, fun i h h' st k => ?_, ?_, ?_, fun A i s Q E st h => wpAny_pyIter_zip st.1 h⟩
  · obtain ⟨hz, hTI, ⟨x, y, hTO⟩, ⟨o1, e1, _, d1⟩, ⟨o2, e2, _, d2⟩⟩ := st
    rcases five hc with rfl | rfl | rfl | rfl | rfl
    · exact ⟨_, hz, fun v q => nomatch q⟩
    · exact ⟨_, hTI, fun v q => nomatch q⟩
    · exact ⟨_, hTO, fun v q => nomatch q⟩
    · exact ⟨_, e1, fun v q => by rw [d1] at q; cases q⟩
    · exact ⟨_, e2, fun v q => by rw [d2] at q; cases q⟩
  · obtain ⟨hz, hTI, ⟨x, y, hTO⟩, j1, j2⟩ := st
    have kp : ∀ {c o}, c ∈ [z, TI, TO, i1, i2] → h.get? c = some o → h'.get? c = some o := fun m e => k _ m _ e
    exact ⟨kp (by simp) hz, kp (by simp) hTI, ⟨x, y, kp (by simp) hTO⟩, j1.at fun o => kp (by simp), j2.at fun o => kp (by simp)⟩
  · rintro X rfl rfl rfl hc i pins s σ H E I hf ⟨hz, hTI, ⟨x0, y0, hTO⟩, j1, j2⟩ ⟨us, ws, x, y, qu, qw, hx, hy⟩
    obtain ⟨its, rv, p, _⟩ := I.tuple qu
    obtain ⟨its2, rv2, p2, _⟩ := I.list qw
    have l1 := rv.length
    have l2 := rv2.length
    have hlx := (List.getElem?_eq_some_iff.mp hx).1
    have hly := (List.getElem?_eq_some_iff.mp hy).1
    have hzl : z < s.heap.objs.size := Heap.lt_size hz
    refine wpAny_pyNext_zipD2_item S (Draws.tuple (A := X.A.in1) (I.ok.hd hc) i1 a D.l1i1 its.toArray) (Draws.list (A := X.A.in1) (I.ok.hd hc) i2 b D.l2i2 its2.toArray) hz hTI hTO ⟨j1, p⟩ ⟨j2, p2.isList⟩ (by simp; omega) (by simp; omega) fun v1 v2 h' tk f1 f2 z' TO' st1 st2 hT hsz hk => ?_
    obtain ⟨u, hu, ru⟩ := rv.get hx
    obtain ⟨u2, hu2, ru2⟩ := rv2.get hy
    have g1 : v1 = u := by
      have f1 : its.toArray[i]? = some v1 := f1
      have hu : its.toArray[i]? = some u := by simpa using hu
      exact Option.some.inj (f1.symm.trans hu)
    have g2 : v2 = u2 := by
      have f2 : its2.toArray[i]? = some v2 := f2
      have hu2 : its2.toArray[i]? = some u2 := by simpa using hu2
      exact Option.some.inj (f2.symm.trans hu2)
    subst g1 g2
    refine ⟨_, rfl, wpAny_letOwnedTupleGo_zip (s := { s with heap := h', toks := tk }) z' fun h'' z'' sb => ?_⟩
    have keep : ∀ c o, c ∉ [z, TI, TO, i1, i2] → s.heap.get? c = some o → h''.get? c = some o := fun c o hb q => by
      simp only [List.mem_cons, List.not_mem_nil, or_false, not_or] at hb
      exact (sb.2 c hb.1).trans (hk c o hb.1 hb.2.2.1 hb.2.2.2.1 hb.2.2.2.2 q)
    have hT2 : h''.get? s.heap.objs.size = some { cls := .type "tuple", data := .seq #[v1, v2] } := (sb.2 _ (Nat.ne_of_gt hzl)).trans hT
    have new : ObjOk X.prog X.w (upd H s.heap.objs.size (.tup [x, y])) h'' s.heap.objs.size (.tup [x, y]) := ⟨by show 2 ≤ sizeLine; decide, [v1, v2], .cons ru (.cons ru2 .nil), _, hT2, rfl, _, rfl⟩
    have I1 := I.turnedNew (t' := tk) (ch := [z, TI, TO, i1, i2]) keep hf (Nat.le_refl _) new
    refine ⟨.ref s.heap.objs.size, _, I1, rfl, ⟨_, x, y, rfl, I.hok.fresh (Nat.le_refl _), rfl, fun q hq => ?_, fun q hq => ?_⟩, ⟨z'', ?_, ⟨v1, v2, ?_⟩, ?_, ?_⟩, fun c hcm => ?_⟩
    · rw [I.tuple_inj hq qu]; exact hx
    · rw [I.list_inj hq qw]; exact hy
    · exact (sb.2 _ D.TIz).trans (hk _ _ D.TIz D.TITO D.TIi1 D.TIi2 hTI)
    · exact (sb.2 _ D.TOz).trans TO'
    · exact st1.1.at fun o q => (sb.2 _ D.i1z).trans q
    · exact st2.1.at fun o q => (sb.2 _ D.i2z).trans q
    · have hlt : c < s.heap.objs.size := by
        obtain ⟨_, k1, _⟩ := j1
        obtain ⟨_, k2, _⟩ := j2
        rcases five hcm with rfl | rfl | rfl | rfl | rfl
        · exact hzl
        · exact Heap.lt_size hTI
        · exact Heap.lt_size hTO
        · exact Heap.lt_size k1
        · exact Heap.lt_size k2
      rw [upd_ne (Nat.ne_of_lt hlt)]
      exact (hf c hcm).1
  · rintro X rfl rfl rfl hc i pins s σ H E I hf ⟨hz, hTI, ⟨x0, y0, hTO⟩, j1, j2⟩ ⟨us, ws, qu, qw, hend⟩
    obtain ⟨its, rv, p, _⟩ := I.tuple qu
    obtain ⟨its2, rv2, p2, _⟩ := I.list qw
    have l1 := rv.length
    have l2 := rv2.length
    have fin : ∀ h' tk, (∀ c o, c ≠ z → c ≠ TO → c ≠ i1 → c ≠ i2 → s.heap.get? c = some o → h'.get? c = some o) → (none : Option Value) = none ∧ Inv X pins σ H { s with heap := h', toks := tk } := fun h' tk hk => ⟨rfl, I.turnedL (t' := tk) (ch := [z, TI, TO, i1, i2]) (fun c o hb q => by
      simp only [List.mem_cons, List.not_mem_nil, or_false, not_or] at hb
      exact hk c o hb.1 hb.2.2.1 hb.2.2.2.1 hb.2.2.2.2 q) hf⟩
    have nn : ∀ (vs : List Value), vs.length ≤ i → vs.toArray[i]? = none := fun vs h => by simp; omega
    by_cases c1 : us.length ≤ i
    · by_cases c2 : ws.length ≤ i
      · exact wpAny_pyNext_zipD2_end S (dEndT (A := X.A.in1) (I.ok.hd hc) i1 a its.toArray i (nn _ (by omega))) (dEndL (A := X.A.in1) (I.ok.hd hc) i2 b its2.toArray i (nn _ (by omega))) hz hTI hTO ⟨rfl, j1, p⟩ ⟨rfl, j2, p2.isList⟩ (Nat.le_refl _) (Nat.le_refl _) (.inl rfl) fin
      · exact wpAny_pyNext_zipD2_end S (dEndT (A := X.A.in1) (I.ok.hd hc) i1 a its.toArray i (nn _ (by omega))) (Draws.list (A := X.A.in1) (I.ok.hd hc) i2 b D.l2i2 its2.toArray) hz hTI hTO ⟨rfl, j1, p⟩ ⟨j2, p2.isList⟩ (Nat.le_refl _) (by simp; omega) (.inl rfl) fin
    · have c2 : ws.length ≤ i := hend.resolve_left c1
      exact wpAny_pyNext_zipD2_end S (Draws.tuple (A := X.A.in1) (I.ok.hd hc) i1 a D.l1i1 its.toArray) (dEndL (A := X.A.in1) (I.ok.hd hc) i2 b its2.toArray i (nn _ (by omega))) hz hTI hTO ⟨j1, p⟩ ⟨rfl, j2, p2.isList⟩ (by simp; omega) (Nat.le_refl _) (.inr rfl) fin
def iZipB (K : PySem.W.Frag) (ta : TA) : TI := fun σ H R => ta σ H fun vs H1 => ∃ a b us ws, vs = [.ref a, .ref b] ∧ ((SqL K H1 a us ∧ SqL K H1 b ws ∧ R (Itz K a b) H1) ∨ (SqT K H1 a us ∧ SqT K H1 b ws ∧ R (RZ.ItzT K a b) H1) ∨ (SqT K H1 a us ∧ SqL K H1 b ws ∧ R (ItzM K a b) H1))
theorem pi_zipB {X : Cx} {e e2 : Expr} {ta : TA} {p pos tpos : Pos} {elts : List Expr} {kk : Nat} (hg : Gl X "zip") (hm : X.mg "zip" = none) (ha : PA X [e, e2] ta)
    (hs : starEach [e, e2] X.env = (false, eval e X.env) :: starEach [e2] X.env := by rfl) (hpl : (backTo pos (starEach [e2] X.env)).any (·.1) = false := by rfl) : PI X (.Tuple elts kk tpos) (.Call (.Name "zip" p) [e, e2] [] pos) (iZipB X.K ta) := by
  refine ⟨fun pins s σ H R I h => Call_ (ld_blt I hg hm PyProof.Rows.boot_zip (PyProof.Rows.callWith_type1 (thn (ha.run pos pins s σ H _ I h) fun us s1 ⟨vs, H1, I1, r1, a, b, xs, ys, ex, q1⟩ => ?_) hs hpl))⟩
  subst ex
  rcases r1 with _ | ⟨ra, _ | ⟨rb, _ | _⟩⟩
  cases ra
  cases rb
  have fp5 : ∀ c ∈ [s1.heap.objs.size + 4, s1.heap.objs.size + 2, s1.heap.objs.size + 3, s1.heap.objs.size, s1.heap.objs.size + 1], FpOk X pins H1 c := fun c hcm => by
    have hle : s1.heap.objs.size ≤ c := by
      simp only [List.mem_cons, List.not_mem_nil, or_false] at hcm
      rcases hcm with rfl | rfl | rfl | rfl | rfl
      · exact Nat.le_add_right _ _
      · exact Nat.le_add_right _ _
      · exact Nat.le_add_right _ _
      · exact Nat.le_refl _
      · exact Nat.le_add_right _ _
    exact I1.fpOk hle (I1.hok.fresh hle)
  rcases q1 with ⟨q1, q2, q⟩ | ⟨q1, q2, q⟩ | ⟨q1, q2, q⟩
  · obtain ⟨its, rv, p1, _⟩ := I1.list q1
    obtain ⟨its2, rv2, p2, _⟩ := I1.list q2
    exact call_zip_2 p1.isList p2.isList fun h' hz hTI hTO h1 h2 hsz hk => wpAny_pyIter_zip hz ⟨_, _, _, _, H1, rfl, I1.kept (t' := s1.toks) hk, turn_zip (PySem.W.ktu_apart s1.heap.objs.size a b p1.lt p2.lt), ⟨hz, hTI, ⟨_, _, hTO⟩, h1, h2⟩, fp5, q⟩
  · obtain ⟨its, rv, p1, _⟩ := I1.tuple q1
    obtain ⟨its2, rv2, p2, _⟩ := I1.tuple q2
    obtain ⟨o1, k1, _⟩ := id p1
    obtain ⟨o2, k2, _⟩ := id p2
    exact RZ.call_zipT (show s1.heap.IsTuple a its.toArray from p1) (show s1.heap.IsTuple b its2.toArray from p2) fun h' hz hTI hTO h1 h2 hsz hk => wpAny_pyIter_zip hz ⟨_, _, _, _, H1, rfl, I1.kept (t' := s1.toks) hk, RZ.turn_zipT (PySem.W.ktu_apart s1.heap.objs.size a b (Heap.lt_size k1) (Heap.lt_size k2)), ⟨hz, hTI, ⟨_, _, hTO⟩, h1, h2⟩, fp5, q⟩
  · obtain ⟨its, rv, p1, _⟩ := I1.tuple q1
    obtain ⟨its2, rv2, p2, _⟩ := I1.list q2
    obtain ⟨o1, k1, _⟩ := id p1
    exact call_zm (show s1.heap.IsTuple a its.toArray from p1) p2.isList fun h' ⟨hz, hTI, hTO, h1, h2, hk⟩ => wpAny_pyIter_zip hz ⟨_, _, _, _, H1, rfl, I1.kept (t' := s1.toks) hk, turn_zm (PySem.W.ktu_apart s1.heap.objs.size a b (Heap.lt_size k1) p2.lt), ⟨hz, hTI, ⟨_, _, hTO⟩, h1, h2⟩, fp5, q⟩
end Ly
namespace Ly
open PySem L2 Evl PyProof.Rows
section
variable {X : Cx} {P : Program} {w wd : World} {K : Fg} {mg : Str → Option Value} {W : WX} {ρ : List Addr} {S S' : Sg} {F H : Hp} {σ : L2.St} {σa σa' : Sl} {v : V} {x : Av}
def aiZipB (t : AA) : Sl → M Itm := fun σ => bnd (t σ) fun xs S => match xs with
  | [.d (.tuple as), .d (.tuple bs)] => some (.ok (itL (zipD as bs)), S)
  | [.d (.list as), .d (.list bs)] => some (.ok (itL (zipD as bs)), S)
  | [.d (.tuple as), .d (.list bs)] => some (.ok (itL (zipD as bs)), S)
  | _ => none
theorem si_zipB {t : TA} {ag : AA} (ha : SimA P w K mg W t ag) : SimI P w K mg W (iZipB K t) (aiZipB ag) := by
  intro σ σa ρ S F H hr hs rr S' h R qo qe
  refine ha.bind hr hs h qe fun xs S1 ρ1 F1 H1 vs h g1 r1 v1 => ?_
  split at h
  · rename_i as bs
    cases h
    obtain ⟨v, u, rfl, hv, hu⟩ := vrs2 v1
    rcases (hv : Dp K F1 v (.tuple as)) with _ | _ | _ | _ | _ | _
    rename_i a us s1 a1
    rcases (hu : Dp K F1 u (.tuple bs)) with _ | _ | _ | _ | _ | _
    rename_i b ws s2 a2
    refine ⟨a, b, us, ws, rfl, .inr (.inl ⟨ex_t r1.fh s1, ex_t r1.fh s2, qo _ rfl ρ1 F1 H1 _ g1 r1 (wk_Z a1 a2 (fun i H x y e f1 f2 => ⟨us, ws, x, y, ex_t e s1, ex_t e s2, f1, f2⟩) (fun i H e h => ⟨us, ws, ex_t e s1, ex_t e s2, h⟩) (fun i H e v H' ⟨T, x, y, e1, e2, e3, e4, e5⟩ => ⟨T, x, y, e1, e2, e3, e4 us (ex_t e s1), e5 ws (ex_t e s2)⟩))⟩)⟩
  · rename_i as bs
    cases h
    obtain ⟨v, u, rfl, hv, hu⟩ := vrs2 v1
    rcases (hv : Dp K F1 v (.list as)) with _ | _ | _ | _ | _ | _
    rename_i a us s1 a1
    rcases (hu : Dp K F1 u (.list bs)) with _ | _ | _ | _ | _ | _
    rename_i b ws s2 a2
    refine ⟨a, b, us, ws, rfl, .inl ⟨ex_l r1.fh s1, ex_l r1.fh s2, qo _ rfl ρ1 F1 H1 _ g1 r1 (wk_Z a1 a2 (fun i H x y e f1 f2 => ⟨us, ws, x, y, ex_l e s1, ex_l e s2, f1, f2⟩) (fun i H e h => ⟨us, ws, ex_l e s1, ex_l e s2, h⟩) (fun i H e v H' ⟨T, x, y, e1, e2, e3, e4, e5⟩ => ⟨T, x, y, e1, e2, e3, e4 us (ex_l e s1), e5 ws (ex_l e s2)⟩))⟩⟩
  · rename_i as bs
    cases h
    obtain ⟨v, u, rfl, hv, hu⟩ := vrs2 v1
    rcases (hv : Dp K F1 v (.tuple as)) with _ | _ | _ | _ | _ | _
    rename_i a us s1 a1
    rcases (hu : Dp K F1 u (.list bs)) with _ | _ | _ | _ | _ | _
    rename_i b ws s2 a2
    refine ⟨a, b, us, ws, rfl, .inr (.inr ⟨ex_t r1.fh s1, ex_l r1.fh s2, qo _ rfl ρ1 F1 H1 _ g1 r1 (wk_Z a1 a2 (fun i H x y e f1 f2 => ⟨us, ws, x, y, ex_t e s1, ex_l e s2, f1, f2⟩) (fun i H e h => ⟨us, ws, ex_t e s1, ex_l e s2, h⟩) (fun i H e v H' ⟨T, x, y, e1, e2, e3, e4, e5⟩ => ⟨T, x, y, e1, e2, e3, e4 us (ex_t e s1), e5 ws (ex_l e s2)⟩))⟩)⟩
  · cases h
theorem i_zipTL {σ : Sl} {S : Sg} {t : AA} {as bs : List D} (ht : t σ S = some (.ok [.d (.tuple as), .d (.list bs)], S)) : aiZipB t σ S = some (.ok (itL (zipD as bs)), S) := by unfold aiZipB; rw [bnd_ok ht]
theorem i_zipTT {σ : Sl} {S : Sg} {t : AA} {as bs : List D} (ht : t σ S = some (.ok [.d (.tuple as), .d (.tuple bs)], S)) : aiZipB t σ S = some (.ok (itL (zipD as bs)), S) := by unfold aiZipB; rw [bnd_ok ht]
/-! ### list + list, also of lists that are one's own -/
def rAddM (K : Fg) : R2 := fun x y H Q => rD2 K AddD x y H Q ∨ rCatL K x y H Q
theorem kAddM (hK : X.K = K := by rfl) : OpR X (binaryOp .Add) (rAddM K) := by
  subst hK
  exact oAdd.or op_catL
def opAddM : Av → Av → Op0 := fun x y S => match seqL S x, seqL S y with
  | some as, some bs => if as.length + bs.length ≤ 100000 then some (.d (.list (as ++ bs)), S) else none
  | _, _ => none
theorem os_AddM : OpS P wd K mg (rAddM K) opAddM := by
  intro ρ S F H hr v w x y hv hw z S' e Q q
  unfold opAddM at e
  split at e
  · rename_i as bs e1 e2
    split at e
    · rename_i hl
      cases e
      obtain ⟨a, us, rfl, h1, h2⟩ := seqL_ok hr hv e1
      obtain ⟨b, ws, rfl, h3, h4⟩ := seqL_ok hr hw e2
      refine .inr ⟨a, b, us, ws, rfl, rfl, h2, h4, by rw [h1.length, h3.length]; exact sz_of hl, fun p hp => ?_⟩
      obtain ⟨r2, g2⟩ := hr.newF (o := .lst (us ++ ws)) hp
      exact q ρ _ _ _ g2 r2 (.lst (.inl (.inl upd_same)) ((h1.append h3).up g2.fx))
    · cases e
  · cases e
theorem f_addM {S : Sg} {x y : Av} {as bs : List D} (h1 : seqL S x = some as) (h2 : seqL S y = some bs) (hl : as.length + bs.length ≤ 100000) : opAddM x y S = some (.d (.list (as ++ bs)), S) := by
  unfold opAddM
  rw [h1, h2]
  dsimp only
  rw [if_pos hl]
end
end Ly
/-! LyZF: a def's facts in one piece, for the closing part. -/
namespace Ly
open PySem L2 Evl PyProof.Rows
structure FnP (K : Fg) (q : Str) (st : Stmt) : Prop where
  ex : ∃ (f : Addr) (od an : Option Addr) (sl : Array (Option Value)) (oc kV dc pm cd ct : Value), PySem.W.nsIn K mainGlobals q = some (some (.ref f)) ∧
    K.lookup f = some ⟨oc, od, .func (PySem.W.fnOf q q (defArgs st) (defBody st) (defScope st) .none kV dc pm an cd ct), sl⟩ ∧ PySem.W.codeIn K cd q = true ∧ PySem.W.keepIn K (.ref f) = true
structure FnM (K : Fg) (C : Addr) (x q : Str) (st : Stmt) : Prop where
  ex : ∃ (f : Addr) (od an : Option Addr) (sl : Array (Option Value)) (oc kV dc pm cd ct : Value), PySem.W.findIn K (.ref C) x = some (some (.ref f)) ∧ PySem.W.isFn K (.ref f) = true ∧
    K.lookup f = some ⟨oc, od, .func (PySem.W.fnOf x q (defArgs st) (defBody st) (defScope st) .none kV dc pm an cd ct), sl⟩ ∧ PySem.W.codeIn K cd q = true ∧ PySem.W.keepIn K (.ref f) = true
theorem FnP.df {K : Fg} {h : Heap} {mg : Str → Option Value} {q : Str} {st : Stmt} {ps : List Str} (p : FnP K q st) (X : K.In h) (Gn : h.Ns mainGlobals mg)
    (hb : ∀ (kV dc pm cd ct : Value) (an : Option Addr) (us : List Value), us.length = ps.length → bindArgs (PySem.W.fnOf q q (defArgs st) (defBody st) (defScope st) .none kV dc pm an cd ct) ⟨us, []⟩ = pure (ps.zip us)) : Df K mg q st ps := by
  obtain ⟨f, od, an, sl, oc, kV, dc, pm, cd, ct, a, l, c, k⟩ := p.ex
  exact ⟨f, _, fun_mk (st := st) l c k, PySem.W.mg_of X Gn a, hb kV dc pm cd ct an⟩
theorem FnM.df {K : Fg} {mg : Str → Option Value} {c x q : Str} {C : Addr} {st : Stmt} {ps : List Str} (p : FnM K C x q st) (r : clsA mg c = C) (hc : Cls K C)
    (hb : ∀ (kV dc pm cd ct : Value) (an : Option Addr) (us : List Value), us.length = ps.length → bindArgs (PySem.W.fnOf x q (defArgs st) (defBody st) (defScope st) .none kV dc pm an cd ct) ⟨us, []⟩ = pure (ps.zip us)) : DfM K mg c x q st ps := by
  obtain ⟨f, od, an, sl, oc, kV, dc, pm, cd, ct, a, i, l, c, k⟩ := p.ex
  exact DfM.of r ⟨f, _, fun_mk (st := st) l c k, ⟨a, i, k⟩, hc, hb kV dc pm cd ct an⟩
/-! a part of a list that is one's own -/
section
variable {P : Program} {wd : World} {K : Fg} {mg : Str → Option Value} {W : WX}
theorem kSlC {X : Cx} (hK : X.K = K := by rfl) : SlR X (rSlL K) := by subst hK; exact sl_list
def aSlC (a : AE) (lo hi : Sl → M (Option Int)) : AE := fun σ => bnd (a σ) fun x => bnd (lo σ) fun l => bnd (hi σ) fun h S => match seqL S x with
  | some ds => some (.ok (.d (.list (cutD ds l h))), S)
  | none => none
theorem sm_slC {te : TE} {ae : AE} {tl th : TO} {al ah : Sl → M (Option Int)} (ha : SimE P wd K mg W te ae) (hl : SimO P wd K mg W tl al) (hh : SimO P wd K mg W th ah) : SimE P wd K mg W (tSl (rSlL K) te tl th) (aSlC ae al ah) := by
  intro σ σa ρ S F H hr hs rr S' h Q qo qe
  refine ha.bind hr hs h qe fun x S1 ρ1 F1 H1 v h g1 r1 v1 => ?_
  refine hl.bind r1 (hs.gw g1) h (ExQ.gw qe g1) fun lo S2 ρ2 F2 H2 h g2 r2 => ?_
  have g12 := g1.trans g2
  refine hh.bind r2 (hs.gw g12) h (ExQ.gw qe g12) fun hi S3 ρ3 F3 H3 h g3 r3 => ?_
  cases hq : seqL S3 x with
  | none => rw [hq] at h; cases h
  | some ds =>
    rw [hq] at h
    cases h
    obtain ⟨a, vs, rfl, hd, hq⟩ := seqL_ok r3 (v1.gw (g2.trans g3)) hq
    refine ⟨a, vs, rfl, hq, fun p hp => ?_⟩
    obtain ⟨r4, g4⟩ := r3.newF (o := .lst (cutV vs lo hi)) hp
    exact qo _ rfl _ _ _ _ ((g12.trans g3).trans g4) r4 (.lst (sq_of upd_same) ((dps_cut lo hi hd).up g4.fx))
theorem e_slC {lo hi : Sl → M (Option Int)} {l h : Option Int} {a : AE} {σ : Sl} {S : Sg} {x : Av} {ds : List D} (ha : a σ S = some (.ok x, S)) (hl : lo σ S = some (.ok l, S)) (hh : hi σ S = some (.ok h, S)) (hf : seqL S x = some ds) : aSlC a lo hi σ S = some (.ok (.d (.list (cutD ds l h))), S) := by
  unfold aSlC; rw [bnd_ok ha, bnd_ok hl, bnd_ok hh]; rw [hf]
theorem seqL_lst {S : Sg} {j : Nat} {ds : List D} (h : S[j]? = some (.lst (ds.map .d))) : seqL S (.o j) = some ds := by
  unfold seqL; dsimp only; rw [h]; exact allD_map ds
/-! try -/
theorem try_ok {all : List Str} {sub : Str → Str → Bool} {b : AS} {hs : List (Str × AS)} {σ σ1 : Sl} {S S1 : Sg} {fl : Fl} (h : b σ S = some (fl, σ1, S1)) (hne : ∀ e, fl ≠ .ex e) : aTry all sub b hs σ S = some (fl, σ1, S1) := by
  unfold aTry
  rw [h]
  cases fl with
  | ex e => exact absurd rfl (hne e)
  | _ => rfl
theorem try_ex {all : List Str} {sub : Str → Str → Bool} {b : AS} {hs : List (Str × AS)} {σ σ1 : Sl} {S S1 : Sg} {e : Xn} {s : Str × AS} (h : b σ S = some (.ex e, σ1, S1)) (hm : e.cls ∈ all) (hf : hs.find? (fun h => sub e.cls h.1) = some s) : aTry all sub b hs σ S = s.2 σ1 S1 := by
  unfold aTry
  rw [h]
  dsimp only
  rw [if_pos hm, hf]
theorem wtry_ok {all : List Str} {sub : Str → Str → Bool} {b : AS} {hs : List (Str × AS)} {σ σ1 : Sl} {S S1 : Sg} {fl : Fl} {Q : Fl → Sl → Sg → Prop} (h : b σ S = some (fl, σ1, S1)) (hne : ∀ e, fl ≠ .ex e) (q : Q fl σ1 S1) : wS (aTry all sub b hs) σ S Q := ⟨_, _, _, try_ok h hne, q⟩
theorem wtry_ex {all : List Str} {sub : Str → Str → Bool} {b : AS} {hs : List (Str × AS)} {σ σ1 : Sl} {S S1 : Sg} {e : Xn} {s : Str × AS} {Q : Fl → Sl → Sg → Prop} (h : b σ S = some (.ex e, σ1, S1)) (hm : e.cls ∈ all) (hf : hs.find? (fun h => sub e.cls h.1) = some s) (q : wS s.2 σ1 S1 Q) : wS (aTry all sub b hs) σ S Q := by
  obtain ⟨fl, σ', S', e1, q⟩ := q
  exact ⟨fl, σ', S', (try_ex h hm hf).trans e1, q⟩
theorem asg_ok {a : AE} {σ : Sl} {S S1 : Sg} {x : Av} {i : Nat} (ha : a σ S = some (.ok x, S1)) : aAsg a (agName i) σ S = some (.nx, σ.set i (some x), S1) := by unfold aAsg stb; rw [ha]; rfl
theorem asg_ex {a : AE} {σ : Sl} {S S1 : Sg} {e : Xn} {g : Av → AS} (ha : a σ S = some (.ex e, S1)) : aAsg a g σ S = some (.ex e, σ, S1) := by unfold aAsg stb; rw [ha]
theorem drop_ok {a : AE} {σ : Sl} {S S1 : Sg} {x : Av} (ha : a σ S = some (.ok x, S1)) : aDrop a σ S = some (.nx, σ, S1) := by unfold aDrop stb; rw [ha]
theorem drop_ex {a : AE} {σ : Sl} {S S1 : Sg} {e : Xn} (ha : a σ S = some (.ex e, S1)) : aDrop a σ S = some (.ex e, σ, S1) := by unfold aDrop stb; rw [ha]
theorem t_andS {u v : AT} {σ : Sl} {S S1 S2 : Sg} {p q : Bool} (h1 : u σ S = some (.ok p, S1)) (h2 : p = true → v σ S1 = some (.ok q, S2)) (h3 : p = false → S2 = S1) : aAnd u v σ S = some (.ok (p && q), S2) := by
  unfold aAnd; rw [bnd_ok h1]
  cases p with
  | true => exact h2 rfl
  | false => rw [h3 rfl]; rfl
end
end Ly
/-! LyZG: displays of dicts with texts as keys. -/
namespace Ly
open PySem L2 Evl PyProof.Rows
section
variable {P : Program} {wd : World} {K : Fg} {mg : Str → Option Value} {W : WX} {ρ : List Addr} {S S' : Sg} {F H : Hp}
def aPairs : List (Str × AE) → Sl → M (List (Key × Av))
  | [], _ => ret []
  | p :: r, σ => bnd (p.2 σ) fun x => bnd (aPairs r σ) fun xs => ret ((.inr p.1, x) :: xs)
def mergeA (acc kvs : List (Key × Av)) : List (Key × Av) := kvs.foldl (fun acc kv => putA acc kv.1 kv.2) acc
def aDisp (ps : List (Str × AE)) : AE := fun σ S => match aPairs ps σ (S ++ [.dk []]) with
  | some (.ok kvs, S') => match S'[S.length]? with
    | some (.dk []) => if kvs.length ≤ 15 then some (.ok (.o S.length), S'.set S.length (.dk (mergeA [] kvs))) else none
    | _ => none
  | some (.ex e, S') => some (.ex e, S')
  | none => none
inductive SimPs (P : Program) (wd : World) (K : Fg) (mg : Str → Option Value) (W : WX) : List (TE × TE) → List (Str × AE) → Prop
  | nil : SimPs P wd K mg W [] []
  | cons {k : Str} {tv : TE} {a : AE} {trs : List (TE × TE)} {ps : List (Str × AE)} (h : SimE P wd K mg W tv a) (t : SimPs P wd K mg W trs ps) : SimPs P wd K mg W ((tC (.str k), tv) :: trs) ((k, a) :: ps)
theorem SimPs.run {trs : List (TE × TE)} {ps : List (Str × AE)} (h : SimPs P wd K mg W trs ps) : ∀ σ σa ρ S F H, Rel P wd K mg ρ S F H → SR K ρ F σ σa → ∀ r S', aPairs ps σa S = some (r, S') → ∀ Q : List (V × V) → Hp → Prop,
    (∀ kvs, r = .ok kvs → ∀ ρ' F' H' ks, Gw ρ F H ρ' F' H' → Rel P wd K mg ρ' S' F' H' → KR K ρ' F' ks kvs → Q (ks.map fun kv => (kV kv.1, kv.2)) H') →
    ExQ P wd K mg W ρ F H σ r S' → tPairs trs σ H Q := by
  induction h with
  | nil =>
    intro σ σa ρ S F H hr hs r S' e Q qo qe
    cases e
    exact qo _ rfl ρ F H [] Gw.refl hr .nil
  | @cons k tv a trs ps ha ht ih =>
    intro σ σa ρ S F H hr hs r S' e Q qo qe
    show tv σ H fun y H2 => tPairs trs σ H2 fun ps H3 => Q ((.str k, y) :: ps) H3
    have e : (bnd (a σa) fun x => bnd (aPairs ps σa) fun xs => ret (((.inr k : Key), x) :: xs)) S = some (r, S') := e
    rcases bnd_inv e with ⟨x, S1, e1, e⟩ | ⟨ex, e1, rfl⟩
    · refine ha σ σa ρ S F H hr hs _ _ e1 _ (fun x' hx ρ1 F1 H1 v g1 r1 v1 => ?_) (fun ex hx => nomatch hx)
      cases hx
      rcases bnd_inv e with ⟨kvs, S2, e1, e⟩ | ⟨ex, e1, rfl⟩
      · refine ih σ σa ρ1 S1 F1 H1 r1 (hs.gw g1) _ _ e1 _ (fun kvs' hk ρ2 F2 H2 ks g2 r2 k2 => ?_) (fun ex hx => nomatch hx)
        cases hk
        cases e
        exact qo _ rfl ρ2 F2 H2 ((.inr k, v) :: ks) (g1.trans g2) r2 (.cons ⟨rfl, v1.gw g2⟩ k2)
      · refine ih σ σa ρ1 S1 F1 H1 r1 (hs.gw g1) _ _ e1 _ (fun kvs' hk => nomatch hk) (fun ex' hx ρ2 F2 H2 c d g2 r2 x2 => ?_)
        cases hx
        exact qe _ rfl ρ2 F2 H2 c d (g1.trans g2) r2 x2
    · refine ha σ σa ρ S F H hr hs _ _ e1 _ (fun x hx => nomatch hx) (fun ex' hx ρ2 F2 H2 c d g2 r2 x2 => ?_)
      cases hx
      exact qe _ rfl ρ2 F2 H2 c d g2 r2 x2
theorem KR.merge {ks : List (Key × V)} {kvs : List (Key × Av)} (r : KR K ρ F ks kvs) : ∀ {as : List (Key × V)} {bs : List (Key × Av)}, KR K ρ F as bs → KR K ρ F (mergeK as ks) (mergeA bs kvs) := by
  induction r with
  | nil => intro as bs h; exact h
  | @cons p q ps qs h t ih =>
    intro as bs r0
    have e : KR K ρ F (putK as p.1 p.2) (putA bs q.1 q.2) := by
      rw [h.1]; exact r0.put q.1 h.2
    exact ih e
theorem sm_disp {trs : List (TE × TE)} {ps : List (Str × AE)} (h : SimPs P wd K mg W trs ps) : SimE P wd K mg W (tDisp trs) (aDisp ps) := by
  intro σ σa ρ S F H hr hs rr S' e Q qo qe p hp
  obtain ⟨r1, g1⟩ := hr.new (c := .dk []) (o := .dK []) hp ⟨[], rfl, .nil⟩
  unfold aDisp at e
  cases hq : aPairs ps σa (S ++ [.dk []]) with
  | none => rw [hq] at e; cases e
  | some z =>
    obtain ⟨r, S1⟩ := z
    rw [hq] at e
    refine h.run σ σa _ _ F _ r1 (hs.gw g1) r S1 hq _ (fun kvs hk ρ2 F2 H2 ks g2 r2 k2 => ?_) (fun ex hx ρ2 F2 H2 c d g2 r2 x2 => ?_)
    · subst hk
      dsimp only at e
      have hpre : ρ2[S.length]? = some p := by
        obtain ⟨t, ht⟩ := g2.pre
        rw [ht, ← hr.len, List.getElem?_append_left (by rw [List.length_append, List.length_singleton]; omega)]
        exact get_new
      have key : S1[S.length]? = some (.dk []) ∧ kvs.length ≤ 15 ∧ rr = .ok (.o S.length) ∧ S' = S1.set S.length (.dk (mergeA [] kvs)) := by
        split at e
        · rename_i hc
          split at e
          · rename_i hl
            cases e
            exact ⟨hc, hl, rfl, rfl⟩
          · cases e
        · cases e
      obtain ⟨hc, hl, rfl, rfl⟩ := key
      obtain ⟨_, o, ho, ks0, rfl, k0⟩ := r2.cell S.length p (.dk []) hpre hc (fun z => nomatch z)
      cases k0
      obtain ⟨r3, g3⟩ := r2.set (o := .dK (mergeK [] ks)) (c := .dk (mergeA [] kvs)) hpre hc (fun z => nomatch z) ⟨_, rfl, KR.merge k2 .nil⟩
      refine ⟨ho, ks, rfl, ?_, qo _ rfl _ _ _ (.ref p) ((g1.trans g2).trans g3) r3 ⟨p, hpre, rfl⟩⟩
      have := k2.length
      omega
    · subst hx
      cases e
      exact qe ex rfl ρ2 F2 H2 c d (g1.trans g2) r2 x2
/-! three targets in a comprehension -/
theorem gw_tup3 {i j k : Nat} (hij : i ≠ j) (hik : i ≠ k) (hjk : j ≠ k) : ∀ (x : V) (σ : L2.St) (H : Hp) (Q : L2.St → Hp → Prop), gTup K 3 (gCons (gName i) (gCons (gName j) (gCons (gName k) gNil))) x (wipe σ [i, j, k]) H Q → gTup K 3 (gCons (gName i) (gCons (gName j) (gCons (gName k) gNil))) x (wipe σ [i, j, k]) H fun σ2 H2 => wipe σ2 [i, j, k] = wipe σ [i, j, k] ∧ Q σ2 H2 := by
  rintro x σ H Q ⟨a, xs, e, hs, hl, v1, r1, e1, v2, r2, e2, v3, r3, e3, e4, q⟩
  refine ⟨a, xs, e, hs, hl, v1, r1, e1, v2, r2, e2, v3, r3, e3, e4, ?_, q⟩
  simp only [wipe]
  apply List.ext_getElem?
  intro n
  simp only [List.getElem?_set, List.length_set]
  grind
theorem ap_nil {σ : Sl} {S : Sg} : aPairs [] σ S = some (.ok [], S) := rfl
theorem ap_cons {k : Str} {a : AE} {r : List (Str × AE)} {σ : Sl} {S S1 S2 : Sg} {x : Av} {xs : List (Key × Av)} (ha : a σ S = some (.ok x, S1)) (hr : aPairs r σ S1 = some (.ok xs, S2)) : aPairs ((k, a) :: r) σ S = some (.ok ((.inr k, x) :: xs), S2) := by
  show (bnd (a σ) fun x => bnd (aPairs r σ) fun xs => ret (((.inr k : Key), x) :: xs)) S = _
  rw [bnd_ok ha, bnd_ok hr]; rfl
theorem e_disp {ps : List (Str × AE)} {σ : Sl} {S S1 : Sg} {kvs : List (Key × Av)} (h : aPairs ps σ (S ++ [.dk []]) = some (.ok kvs, S1)) (hc : S1[S.length]? = some (.dk [])) (hl : kvs.length ≤ 15) : aDisp ps σ S = some (.ok (.o S.length), S1.set S.length (.dk (mergeA [] kvs))) := by
  unfold aDisp
  rw [h]
  dsimp only
  rw [hc]
  dsimp only
  rw [if_pos hl]
end
end Ly
/-! LyZH: list.count, of any data that can be laid out. -/
namespace Ly
open PySem L2 Evl PyProof.Rows
open PySem.Spec
inductive CountD : D → List D → D → Prop
  | mk (ds : List D) (d : D) (h : SeqAt.shaped (.list ds) = true) (h' : SeqAt.shaped d = true) : CountD (.list ds) [d] (.int ((ds.countP fun z => PyData.eqv z d : Nat) : Int))
section
variable {X : Cx} {K : Fg}
theorem mt_countD (hu : X.A.units + 65 < cLine) : MtR X "list.count" (rDm X.K CountD) := by
  intro pins s σ H x xs v us Q I rx rxs h
  obtain ⟨F, d0, ds0, z, fh, hl, hxs0, hR, q⟩ := h
  obtain ⟨ds, d, sl, sd⟩ := hR
  obtain ⟨y, rfl, hy⟩ := dps1 hxs0
  have hy := hy.up fh
  have hl := hl.up fh
  cases hl with
  | lst hs ha =>
    cases rx
    cases rxs with
    | cons ry rt =>
      rename_i uy ut
      cases rt
      obtain ⟨bs, r1⟩ := Dp.reads I d y uy hy ry
      have hxs : PyData.canLayAll0 ds = true := SeqAt.canLay_of_shaped sl
      have hroom : X.A.units + 1 + min (PyData.depthAll ds) d.depth < cLine := room_in_shaped sd hu
      obtain ⟨its, rv, ⟨⟨cls, dd, data, sls⟩, n, ho, hc, hdn, hdt⟩, hlen⟩ := I.list hs
      simp only at hc hdt
      subst hc hdt
      obtain ⟨as, h4⟩ := Dp.readsAll I ds _ its ha rv
      have hmap : its.map (SeqAt.readOf s.heap) = ds := SeqAt.readsAll_map ds its as hxs h4
      refine call_meets PySem.F.slot_list_count ⟨_, ho, rfl⟩ PySem.F.entry_list_count (PySem.F.args_list_count_2 _ _)
        (SeqAt.list_countAt _ its.toArray n dd sls uy (fun u => PyData.eqv (SeqAt.readOf s.heap u) d)) ⟨ho, SeqAt.items_eqAt (vs := its.toArray) (by rw [List.toList_toArray]; exact h4) r1 hxs (SeqAt.canLay_of_shaped sd) hroom, ?_⟩
      have ec : its.toArray.toList.countP (fun u => PyData.eqv (SeqAt.readOf s.heap u) d) = ds.countP fun z => PyData.eqv z d := by
        rw [← hmap, List.countP_map] <;> rfl
      refine ⟨.int ((ds.countP fun z => PyData.eqv z d : Nat) : Int), H, I.tok _, ⟨s.toks, ?_⟩, q.sc fh rfl⟩
      show Value.int ((its.toArray.toList.countP (fun u => PyData.eqv (SeqAt.readOf s.heap u) d) : Nat) : Int) s.toks = _
      rw [ec]
theorem mCount (hu : X.A.units + 65 < cLine) (hK : X.K = K := by rfl) : MtR X "list.count" (rDm K CountD) := by
  subst hK; exact mt_countD hu
end
def fCountL : D → List D → Option D
  | .list ds, [d] => if SeqAt.shaped (.list ds) = true ∧ SeqAt.shaped d = true then some (.int ((ds.countP fun z => PyData.eqv z d : Nat) : Int)) else none
  | _, _ => none
theorem fCountL_ok : ∀ d ds r, fCountL d ds = some r → CountD d ds r := by
  intro d ds r h
  unfold fCountL at h
  split at h
  · split at h
    · rename_i q; cases h; exact .mk _ _ q.1 q.2
    · cases h
  · cases h
theorem fCountL_sc : ∀ a ds r, fCountL a ds = some r → isSc r = true := by
  intro a ds r h
  unfold fCountL at h
  split at h
  · split at h
    · cases h; rfl
    · cases h
  · cases h
theorem f_count {ds : List D} {d : D} {S : Sg} {xs : List Av} (h : dvs S xs = some [d]) (h1 : SeqAt.shaped (.list ds) = true) (h2 : SeqAt.shaped d = true) : bmD fCountL (.d (.list ds)) xs S = some (.d (.int ((ds.countP fun z => PyData.eqv z d : Nat) : Int)), S) := f_bmD h (by unfold fCountL; dsimp only; rw [if_pos ⟨h1, h2⟩])
end Ly
/-! LyZI: try .. except C as e, with isinstance(e, ..) in the suite. -/
namespace Ly
open PySem L2 Evl PyProof.Rows
/-- the slot in which the exception stands -/
abbrev JE (i : Nat) (a : Addr) (σ : L2.St) : Prop := σ[i]? = some (some (.ref a))
def withJ (J : L2.St → Prop) (te : TE) : TE := fun σ H Q => J σ → te σ H Q
def withJA (J : L2.St → Prop) (te : TA) : TA := fun σ H Q => J σ → te σ H Q
def withJT (J : L2.St → Prop) (te : TT) : TT := fun σ H Q => J σ → te σ H Q
def DJ (J : L2.St → Prop) (D : Ends) : Ends := { D with nx := fun σ H => J σ → D.nx σ H }
def rIsG (K : Fg) (a : Addr) (cls : Value) (d : Option Addr) : List V → Hp → VK → Prop := fun xs H Q => ∃ D, cls = .ref D ∧ d = none ∧ ExcC K D ∧ rIsE K D a xs H Q
theorem call_isG {X : Cx} {a : Addr} {oe : Obj} {pn : List (Addr × Obj)} {cls : Value} {d : Option Addr} {K : Fg} (hz : L2N.Zn cls d oe) (hf : ∃ vs, oe.data = .fields vs) (hK : X.K = K := by rfl) : CallR (X.suite a ((a, oe) :: pn)) (.builtin "isinstance") (rIsG K a cls d) := by
  subst hK
  intro pins s σ H xs us Q I hv ⟨D, e1, e2, hx, h⟩
  subst e1 e2
  exact call_isE hx hz.zc hf pins s σ H xs us Q I hv h
section
variable {P : Program} {wd : World} {K : Fg} {mg : Str → Option Value} {W : WX} {J : L2.St → Prop}
variable {te ta tb tc : TE} {ae aa ab ac : AE} {tt tu : TT} {at' au : AT} {tg : TA} {ag : AA} {r : R2} {f : Av → Av → Op0} {ts tr : TS} {as ar : AS}
theorem smJ_of (h : SimE P wd K mg W te ae) : SimE P wd K mg W (withJ J te) ae := fun σ σa ρ S F H hr hs r S' e Q qo qe _ => h σ σa ρ S F H hr hs r S' e Q qo qe
theorem smJ_op (hop : OpS P wd K mg r f) (ha : SimE P wd K mg W (withJ J ta) aa) (hb : SimE P wd K mg W (withJ J tb) ab) : SimE P wd K mg W (withJ J (tOp r ta tb)) (aOp f aa ab) := fun σ σa ρ S F H hr hs r' S' e Q qo qe hj => by
  have := sm_op hop ha hb σ σa ρ S F H hr hs r' S' e Q qo qe
  simpa only [tOp, withJ, hj, forall_const] using this
theorem saJ_of (h : SimA P wd K mg W tg ag) : SimA P wd K mg W (withJA J tg) ag := fun σ σa ρ S F H hr hs r S' e Q qo qe _ => h σ σa ρ S F H hr hs r S' e Q qo qe
theorem saJ_cons (ha : SimE P wd K mg W (withJ J ta) aa) (hb : SimA P wd K mg W (withJA J tg) ag) : SimA P wd K mg W (withJA J (tCons ta tg)) (aCons aa ag) := fun σ σa ρ S F H hr hs r' S' e Q qo qe hj => by
  have := sa_cons ha hb σ σa ρ S F H hr hs r' S' e Q qo qe
  simpa only [tCons, withJ, withJA, hj, forall_const] using this
theorem smJ_lstF (ha : SimA P wd K mg W (withJA J tg) ag) : SimE P wd K mg W (withJ J (tLst tg)) (aLstF ag) := fun σ σa ρ S F H hr hs r' S' e Q qo qe hj => by
  have := sm_lstF ha σ σa ρ S F H hr hs r' S' e Q qo qe
  simpa only [tLst, withJ, withJA, hj, forall_const] using this
theorem stJ_of (h : SimT P wd K mg W tt at') : SimT P wd K mg W (withJT J tt) at' := fun σ σa ρ S F H hr hs r S' e Q qo qe _ => h σ σa ρ S F H hr hs r S' e Q qo qe
theorem stJ_B (ha : SimE P wd K mg W (withJ J ta) aa) : SimT P wd K mg W (withJT J (tB ta)) (aB aa) := fun σ σa ρ S F H hr hs r' S' e Q qo qe hj => by
  have := st_B ha σ σa ρ S F H hr hs r' S' e Q qo qe
  simpa only [tB, withJ, withJT, hj, forall_const] using this
theorem stJ_not (ha : SimT P wd K mg W (withJT J tt) at') : SimT P wd K mg W (withJT J (tNot tt)) (aNot at') := fun σ σa ρ S F H hr hs r' S' e Q qo qe hj => by
  have := st_not ha σ σa ρ S F H hr hs r' S' e Q qo qe
  simpa only [tNot, withJT, hj, forall_const] using this
theorem stJ_or (ha : SimT P wd K mg W (withJT J tt) at') (hb : SimT P wd K mg W (withJT J tu) au) : SimT P wd K mg W (withJT J (tOr tt tu)) (aOr at' au) := fun σ σa ρ S F H hr hs r' S' e Q qo qe hj => by
  have := st_or ha hb σ σa ρ S F H hr hs r' S' e Q qo qe
  simpa only [tOr, withJT, hj, forall_const] using this
/-- isinstance(e, C) -/
theorem smJ_isE {i : Nat} {a : Addr} {C : Str} {e : Xn} {b : Bool} {cls : Value} {d : Option Addr} (hc : cls = .ref (clsA mg e.cls)) (hd : d = none) (hx : ExcC K (clsA mg e.cls)) (hk : PySem.W.kitOne K (.ref (clsA mg e.cls)) (.ref (clsA mg C)) = some b) :
    SimE P wd K mg W (withJ (JE i a) (tCB (rIsG K a cls d) (tCons (tVar i) (tCons (tC (.ref (clsA mg C))) tNil)))) (aD (.bool b)) := fun σ σa ρ S F H hr hs r' S' h Q qo qe hj => by
  cases h
  refine ⟨.ref a, hj, ?_⟩
  refine ⟨_, hc, hd, hx, _, .ref (clsA mg C), b, rfl, fun u hu => hu, hk, ?_⟩
  exact qo _ rfl ρ F H _ Gw.refl hr (.bl b)
theorem smJ_isT {i : Nat} {a : Addr} {n : String} {e : Xn} {b : Bool} {cls : Value} {d : Option Addr} (hc : cls = .ref (clsA mg e.cls)) (hd : d = none) (hx : ExcC K (clsA mg e.cls)) (hk : PySem.W.kitOne K (.ref (clsA mg e.cls)) (.type n) = some b) :
    SimE P wd K mg W (withJ (JE i a) (tCB (rIsG K a cls d) (tCons (tVar i) (tCons (tC (.ty n)) tNil)))) (aD (.bool b)) := fun σ σa ρ S F H hr hs r' S' h Q qo qe hj => by
  cases h
  refine ⟨.ref a, hj, ?_⟩
  refine ⟨_, hc, hd, hx, _, .type n, b, rfl, fun u hu => hu, hk, ?_⟩
  exact qo _ rfl ρ F H _ Gw.refl hr (.bl b)
variable (P wd K mg) in
def SimSJ (W : WX) (J : L2.St → Prop) (ts : TS) (as : AS) : Prop := ∀ σ σa ρ S F H, J σ → Rel P wd K mg ρ S F H → SR K ρ F σ σa → ∀ fl σa' S', as σa S = some (fl, σa', S') → ∀ D' : Ends, FlQ P wd K mg W (DJ J D') ρ F H fl σa' S' → ts D' σ H
theorem ssJ_seq (h1 : SimSJ P wd K mg W J ts as) (h2 : SimSJ P wd K mg W J tr ar) : SimSJ P wd K mg W J (tSeq ts tr) (aSeq as ar) := by
  intro σ σa ρ S F H hj hr hs fl σa' S' h D' q
  unfold aSeq at h
  split at h
  · rename_i σ1 S1 e1
    refine h1 σ σa ρ S F H hj hr hs _ _ _ e1 { D' with nx := tr D' } ?_
    intro ρ1 F1 H1 σ' g1 r1 s1 hj1
    exact h2 σ' σ1 ρ1 S1 F1 H1 hj1 r1 s1 _ _ _ h D' (q.gw g1)
  · rename_i hne
    refine h1 σ σa ρ S F H hj hr hs _ _ _ h { D' with nx := tr D' } ?_
    cases fl with
    | nx => exact absurd h (hne _ _)
    | bk => exact q
    | ct => exact q
    | rt x => exact q
    | ex e => exact q
theorem ssJ_ret (ha : SimE P wd K mg W (withJ J ta) aa) : SimSJ P wd K mg W J (tRet ta) (aRet aa) := fun σ σa ρ S F H hj hr hs fl σa' S' h D' q => by
  have := ss_ret ha σ σa ρ S F H hr hs fl σa' S' h (DJ J D') q
  simpa only [tRet, withJ, hj, forall_const, DJ] using this
theorem ssJ_next : SimSJ P wd K mg W J tNext aNext := fun σ σa ρ S F H hj hr hs fl σa' S' h D' q => by
  cases h
  exact q ρ F H σ Gw.refl hr hs hj
theorem ssJ_if (ht : SimT P wd K mg W (withJT J tt) at') (h1 : SimSJ P wd K mg W J ts as) (h2 : SimSJ P wd K mg W J tr ar) : SimSJ P wd K mg W J (tIfS tt ts tr) (aIfS at' as ar) := by
  intro σ σa ρ S F H hj hr hs fl σa' S' h D' q
  refine ht.stb hr hs h q (fun b S1 ρ1 F1 H1 h g1 r1 => ?_) hj
  cases b with
  | true => exact h1 σ σa ρ1 S1 F1 H1 hj r1 (hs.gw g1) _ _ _ h D' (q.gw g1)
  | false => exact h2 σ σa ρ1 S1 F1 H1 hj r1 (hs.gw g1) _ _ _ h D' (q.gw g1)
theorem ssJ_asg {i k : Nat} {a : Addr} (hk : k ≠ i) (ha : SimE P wd K mg W (withJ (JE i a) ta) aa) : SimSJ P wd K mg W (JE i a) (tAsg ta (gName k)) (aAsg aa (agName k)) := by
  intro σ σa ρ S F H hj hr hs fl σa' S' h D' q
  refine ha.stb hr hs h q (fun x S1 ρ1 F1 H1 v h g1 r1 v1 => ?_) hj
  cases h
  exact q ρ1 F1 H1 _ g1 r1 ((hs.gw g1).set v1) (by show (σ.set k _)[i]? = _; rw [List.getElem?_set_ne hk]; exact hj)
theorem SR.clr {ρ : List Addr} {F : Hp} {σ : L2.St} {σa : Sl} (h : SR K ρ F σ σa) (i : Nat) (v : Option V) : SR K ρ F (σ.set i v) (σa.set i none) := by
  refine ⟨by rw [List.length_set, List.length_set]; exact h.1, fun j x q => ?_⟩
  by_cases e : i = j
  · subst e
    by_cases hl : i < σa.length
    · rw [List.getElem?_set_self hl] at q; cases q
    · rw [List.getElem?_eq_none (by rw [List.length_set]; omega)] at q; cases q
  · rw [List.getElem?_set_ne e] at q ⊢
    exact h.2 j x q
/-- try .. except C as e -/
def aTryAs (all : List Str) (sub : Str → Str → Bool) (b : AS) (C : Str) (i : Nat) (q : Xn → AS) : AS := fun σ S => match b σ S with
  | some (.ex e, σ1, S1) => if e.cls ∈ all ∧ e.row = none ∧ i < σ1.length then (if sub e.cls C = true then (match q e (σ1.set i none) S1 with
      | some (.ex _, _, _) => none
      | some (fl, σ2, S2) => some (fl, σ2.set i none, S2)
      | none => none) else some (.ex e, σ1, S1)) else none
  | r => r
theorem ss_tryAs {all : List Str} {sub : Str → Str → Bool} {tb : WX → TS} {b : AS} {C : Str} {i : Nat} {tq : Addr → Value → Option Addr → TS} {q : Xn → AS} (hx : XMs K mg all [C] sub) (hb : ∀ W', SimS P wd K mg W' (tb W') b)
    (hh : ∀ (e : Xn), e.cls ∈ all → ∀ (a : Addr) (c : Value) (d : Option Addr), c = .ref (clsA mg e.cls) → d = none → SimSJ P wd K mg (fun _ _ _ _ => False) (JE i a) (tq a c d) (q e)) :
    SimS P wd K mg W (fun D σ H => tb (wAs K (.ref (clsA mg C)) i tq W D) D σ H) (aTryAs all sub b C i q) := by
  intro σ σa ρ S F H hr hs' fl σa' S' h D' qq
  unfold aTryAs at h
  split at h
  · rename_i e σ1 S1 e1
    split at h
    · rename_i hm
      refine hb _ σ σa ρ S F H hr hs' _ _ _ e1 D' ?_
      intro ρ1 F1 H1 σ2 cv d g1 r1 s1 x1
      obtain ⟨ec, ed⟩ := x1
      rw [hm.2.1] at ed
      have ed : d = none := ed
      have hx0 := hx e.cls hm.1 C (List.mem_singleton.mpr rfl)
      refine ⟨sub e.cls C, by rw [ec]; exact hx0, fun hb1 a _ => ?_, fun hb1 => ?_⟩
      · have hb1 : sub e.cls C = true := hb1
        rw [if_pos hb1] at h
        have q1 := qq.gw g1
        have hlen : i < σ2.length := by rw [s1.1]; exact hm.2.2
        split at h
        · cases h
        · rename_i fl2 σ3 S3 hne e3
          cases h
          refine hh e hm.1 a cv d ec ed (σ2.set i (some (.ref a))) (σ1.set i none) ρ1 S1 F1 H1 (List.getElem?_set_self hlen) r1 (s1.clr i _) _ _ _ e3 _ ?_
          cases fl with
          | nx => exact fun ρ' F' H' σ' g r s _ => q1 ρ' F' H' _ g r (s.clr i _)
          | bk => exact fun ρ' F' H' σ' g r s => q1 ρ' F' H' _ g r (s.clr i _)
          | ct => exact fun ρ' F' H' σ' g r s => q1 ρ' F' H' _ g r (s.clr i _)
          | rt x => exact q1
          | ex e => exact False.elim (by first | exact hne _ rfl | exact hne rfl | exact hne _ _)
        · cases h
      · have hb1 : sub e.cls C = false := hb1
        rw [if_neg (by rw [hb1]; exact fun z => nomatch z)] at h
        cases h
        exact qq ρ1 F1 H1 σ2 cv d g1 r1 s1 ⟨ec, by rw [hm.2.1]; exact ed⟩
    · cases h
  · rename_i hne
    refine hb _ σ σa ρ S F H hr hs' _ _ _ h D' ?_
    cases fl with
    | nx => exact qq
    | bk => exact qq
    | ct => exact qq
    | rt x => exact qq
    | ex e => exact absurd h (hne _ _ _)
end
theorem hu_ofS {k : Nat} {A A' : Around} (r : Room k A) (e : A'.units = A.units := by rfl) : A'.units + 1 < cLine := by have := r.un; omega
theorem room0S {k : Nat} {A A' : Around} (r : Room k A) (e : A'.units = A.units := by rfl) : A'.units < cLine := by have := r.un; omega
theorem room64S {k : Nat} {A A' : Around} (r : Room k A) (e : A'.units = A.units := by rfl) : A'.units + 64 < cLine := by have := r.un; omega
theorem room65S {k : Nat} {A A' : Around} (r : Room k A) (e : A'.units = A.units := by rfl) : A'.units + 65 < cLine := by have := r.un; omega
/-- isinstance of an exception, from what except clauses know -/
theorem kit_of {K : Fg} {mg : Str → Option Value} {all hs : List Str} {sub : Str → Str → Bool} (hx : XMs K mg all hs sub) {c h : Str} (hc : c ∈ all) (hh : h ∈ hs) (hha : h ∈ all) (hr : sub h h = true) : PySem.W.kitOne K (.ref (clsA mg c)) (.ref (clsA mg h)) = some (sub c h) := by
  have e1 := hx c hc h hh
  have e2 := hx h hha h hh
  unfold PySem.W.kitOne
  by_cases e : ((Value.ref (clsA mg c)) == (Value.ref (clsA mg h))) = true
  · rw [if_pos e]
    have : (Value.ref (clsA mg c)) = (Value.ref (clsA mg h)) := eq_of_beq e
    rw [this, e2] at e1
    rw [← e1, hr]
  · rw [if_neg e]
    unfold PySem.W.exmOne at e1
    split at e1
    · exact e1
    · cases e1
theorem kit_tyE {K : Fg} {C : Addr} {n : String} {b : Bool} (h : PySem.W.subIn K (.ref C) (.type n) = some b) (hm : PySem.W.kitMeta n = true) : PySem.W.kitOne K (.ref C) (.type n) = some b := by
  unfold PySem.W.kitOne
  rw [if_neg (fun z => by have := eq_of_beq z; cases this)]
  unfold PySem.W.kitCls
  dsimp only
  rw [if_pos hm]
  exact h
end Ly
/-! LyZJ: split, partition, startswith, int of a text. -/
namespace Ly
open PySem L2 Evl PyProof.Rows
def rSplitM : V → List V → Hp → VK → Prop := fun x xs H Q => ∃ a b, x = .str a ∧ xs = [.str b] ∧ (b.length == 0) = false ∧ a.length + 2 ≤ sizeLine ∧ rNewStrs (Txt.split a b) H Q
def rPartM : V → List V → Hp → VK → Prop := fun x xs H Q => ∃ a b, x = .str a ∧ xs = [.str b] ∧ (b.length == 0) = false ∧ a.length ≤ sizeLine ∧ ∀ p, H p = none → Q (.ref p) (upd H p (.tup [.str (Txt.partition a b).1, .str (Txt.partition a b).2.1, .str (Txt.partition a b).2.2]))
def rStartsM : V → List V → Hp → VK → Prop := fun x xs H Q => ∃ a b, x = .str a ∧ xs = [.str b] ∧ Q (.bl (Txt.startswith a b)) H
theorem mSplit {X : Cx} {K : Fg} : MtR X "str.split" rSplitM := mt_split
theorem mPart {X : Cx} {K : Fg} : MtR X "str.partition" rPartM := mt_partition
theorem mStarts {X : Cx} {K : Fg} : MtR X "str.startswith" rStartsM := mt_startswith
def bSplit : Av → List Av → Op0 := fun x xs S => match x, xs with
  | .d (.str a), [.d (.str b)] => if (b.length == 0) = false ∧ a.length + 2 ≤ 100000 then some (.d (.list ((Txt.split a b).map PyData.str)), S) else none
  | _, _ => none
def bPart : Av → List Av → Op0 := fun x xs S => match x, xs with
  | .d (.str a), [.d (.str b)] => if (b.length == 0) = false ∧ a.length ≤ 100000 then some (.d (.tuple [.str (Txt.partition a b).1, .str (Txt.partition a b).2.1, .str (Txt.partition a b).2.2]), S) else none
  | _, _ => none
def bStarts : Av → List Av → Op0 := fun x xs S => match x, xs with
  | .d (.str a), [.d (.str b)] => some (.d (.bool (Txt.startswith a b)), S)
  | _, _ => none
section
variable {P : Program} {wd : World} {K : Fg} {mg : Str → Option Value}
theorem dps_str (F : Hp) : ∀ zs : List Str, DpAll K F (zs.map V.str) (zs.map PyData.str)
  | [] => .nil
  | z :: zs => .cons (.str z) (dps_str F zs)
theorem vrsS {ρ : List Addr} {F : Hp} {vs : List V} {b : Str} (h : VRs K ρ F vs [.d (.str b)]) : vs = [.str b] := by
  cases h with
  | cons h1 h2 =>
    cases h2
    have h1 : Dp K F _ (.str b) := h1
    cases h1
    rfl
theorem ms_split : MtS P wd K mg rSplitM bSplit := by
  intro ρ S F H hr v x vs xs hv hvs z S' e Q q
  unfold bSplit at e
  split at e
  · rename_i a b
    split at e
    · rename_i h
      cases e
      have hv : Dp K F v (.str a) := hv
      cases hv
      rw [vrsS hvs]
      refine ⟨a, b, rfl, rfl, h.1, sz_of h.2, fun p hp => ?_⟩
      obtain ⟨r2, g2⟩ := hr.newF (o := .lst ((Txt.split a b).map V.str)) hp
      exact q _ _ _ (.ref p) g2 r2 (.lst (sq_of upd_same) (dps_str _ _))
    · cases e
  · cases e
theorem ms_part : MtS P wd K mg rPartM bPart := by
  intro ρ S F H hr v x vs xs hv hvs z S' e Q q
  unfold bPart at e
  split at e
  · rename_i a b
    split at e
    · rename_i h
      cases e
      have hv : Dp K F v (.str a) := hv
      cases hv
      rw [vrsS hvs]
      refine ⟨a, b, rfl, rfl, h.1, sz_of h.2, fun p hp => ?_⟩
      obtain ⟨r2, g2⟩ := hr.newF (o := .tup [.str (Txt.partition a b).1, .str (Txt.partition a b).2.1, .str (Txt.partition a b).2.2]) hp
      exact q _ _ _ (.ref p) g2 r2 (.tup (st_of upd_same) (.cons (.str _) (.cons (.str _) (.cons (.str _) .nil))))
    · cases e
  · cases e
theorem ms_starts : MtS P wd K mg rStartsM bStarts := by
  intro ρ S F H hr v x vs xs hv hvs z S' e Q q
  unfold bStarts at e
  split at e
  · rename_i a b
    cases e
    have hv : Dp K F v (.str a) := hv
    cases hv
    rw [vrsS hvs]
    exact ⟨a, b, rfl, rfl, q ρ F H _ Gw.refl hr (.bl _)⟩
  · cases e
/-! int(text) -/
def rIntT (K : Fg) : List V → Hp → VK → Prop := fun xs H Q => rDn K IntD xs H Q ∨ ∃ a n, xs = [V.str a] ∧ PySem.intText? a = some n ∧ a.length ≤ 640 ∧ Q (.int n) H
theorem jIntT {X : Cx} (hK : X.K = K := by rfl) : CallR X (.type "int") (rIntT K) := by
  subst hK
  exact CallR.or (jInt rfl) call_int_str
def cbIntT : List Av → Op0 := fun xs S => match xs with
  | [.d (.str a)] => if a.length ≤ 640 then (PySem.intText? a).map fun n => (.d (.int n), S) else none
  | _ => cbD fIntB xs S
theorem cs_IntT : CallS P wd K mg (rIntT K) cbIntT := by
  intro ρ S F H hr vs xs hv z S' e Q q
  unfold cbIntT at e
  split at e
  · rename_i a
    split at e
    · rename_i hl
      obtain ⟨n, e1, e2⟩ := Option.map_eq_some_iff.mp e
      cases e2
      exact .inr ⟨a, n, vrsS hv, e1, hl, q ρ F H _ Gw.refl hr (.int n)⟩
    · cases e
  · exact .inl (cs_D fIntB_ok ρ S F H hr vs xs hv z S' e Q q)
end
/-! steps -/
section
variable {σ : Sl} {S : Sg} {a b : Str}
theorem f_split (h1 : (b.length == 0) = false) (h2 : a.length ≤ 99998) : bSplit (.d (.str a)) [.d (.str b)] S = some (.d (.list ((Txt.split a b).map PyData.str)), S) := by
  unfold bSplit; dsimp only; rw [if_pos ⟨h1, by omega⟩]
theorem f_part (h1 : (b.length == 0) = false) (h2 : a.length ≤ 100000) : bPart (.d (.str a)) [.d (.str b)] S = some (.d (.tuple [.str (Txt.partition a b).1, .str (Txt.partition a b).2.1, .str (Txt.partition a b).2.2]), S) := by
  unfold bPart; dsimp only; rw [if_pos ⟨h1, h2⟩]
theorem f_starts : bStarts (.d (.str a)) [.d (.str b)] S = some (.d (.bool (Txt.startswith a b)), S) := rfl
theorem f_intT {n : Int} (h1 : a.length ≤ 640) (h2 : PySem.intText? a = some n) : cbIntT [.d (.str a)] S = some (.d (.int n), S) := by
  unfold cbIntT; dsimp only; rw [if_pos h1, h2]; rfl
end
end Ly
/-! LyZK: try .. except (A, B): two classes in one clause. -/
namespace PySem.W
open PySem PySem.Spec PySem.Calls PyProof.Rows
/-- the first class takes it -/
theorem exm_tupT {M : Model} {K : Frag} {c1 c2 cls cls' : Value} {b' : Bool} {tp e : Addr} {h : Heap} (X : K.In h) (LT : Looks M h (typeOf (.ref e)) cls) (hp : h.get? tp = some { cls := .type "tuple", data := .seq [c1, c2].toArray }) (x1 : exmOne K cls c1 = some true) (x2 : exmOne K cls' c2 = some b') :
    Looks M h (excMatches (.ref e) (.ref tp)) true := by
  intro A Q E s k₀ q
  obtain ⟨hh, g, d, tk, os⟩ := s
  have k : ∀ b o, h.get? b = some o → hh.get? b = some o := k₀
  have LT0 : Looks M h (isInstance (.ref tp) (.type "tuple")) true := ((Looks.ld hp).andThen .now).andThen (Looks.of_pure isSubtype_tuple_tuple)
  obtain ⟨e1, S1⟩ := exm_cls (M := M) X x1
  have e1 := e1.keeps k
  have S1 := S1.keeps k
  obtain ⟨e2, S2⟩ := exm_cls (M := M) X x2
  have e2 := e2.keeps k
  have LT := LT.keeps k
  have LT0 := LT0.keeps k
  have hp' := k _ _ hp
  unfold excMatches
  refine wpAny_bind (LT0.at ?_)
  dsimp only
  rw [if_pos rfl]
  first
    | refine wpAny_bind (wpAny_seqItems hp' rfl ?_)
    | refine wpAny_bind (wpAny_bind (wpAny_seqItems hp' rfl (wpAny_pure ?_)))
  dsimp only [Option.getD_some, Option.getD]
  ((repeat (first | simp only [List.forIn_cons, List.forIn_nil, Bool.not_true, Bool.false_eq_true, if_false, if_true] | lk)); exact q)
end PySem.W
namespace Ly
open PySem PySem.Spec L2 Evl PyProof.Rows
theorem fly_up {base h h' : Heap} {l : List Env} {e : Addr} {Z : Obj → Prop} (k : ∀ b o, h.get? b = some o → h'.get? b = some o) (x : HandSPX.FlyingZ base l e Z h) : HandSPX.FlyingZ base l e Z h' := by
  obtain ⟨k1, k2, k3, oe, vs, T, oT, ts, he, hz, hd, h1, hr⟩ := x
  refine ⟨fun b o q => k b o (k1 b o q), k2, Heap.FunFrames.of_keeps (fun b o q _ => ⟨o, k b o q, rfl⟩) k3, oe, vs, T, oT, ts, k _ _ he, hz, hd, h1, ?_⟩
  obtain ⟨a1, a2, a3, a4⟩ := hr
  exact ⟨a1, a2, k _ _ a3, a4⟩
inductive HdsOkT (X : Cx) : List ExceptHandler → List (Value × (Addr → Value → Option Addr → TS)) → Prop
  | nil : HdsOkT X [] []
  | cons {x : Str} {c : Value} {ts : Addr → Value → Option Addr → TS} {b₀ : Stmt} {suite : List Stmt} {np pos' : Pos} {hds : List ExceptHandler} {l : List (Value × (Addr → Value → Option Addr → TS))} (hc : Names X x c)
      (hsu : ∀ (a : Addr) (oe : Obj) (cls : Value) (d : Option Addr) (pn : List (Addr × Obj)), L2N.Zn cls d oe → (∃ vs, oe.data = .fields vs) → PSs (X.suite a ((a, oe) :: pn)) (b₀ :: suite) (ts a cls d)) (r : HdsOkT X hds l) :
      HdsOkT X (.ExceptHandler (some (.Name x np)) none (b₀ :: suite) pos' :: hds) ((c, ts) :: l)
  | tup {x y : Str} {c1 c2 cls' : Value} {b' : Bool} {ts : Addr → Value → Option Addr → TS} {b₀ : Stmt} {suite : List Stmt} {np np2 tp pos' : Pos} {kk : Nat} {hds : List ExceptHandler} {l : List (Value × (Addr → Value → Option Addr → TS))} (hc1 : Names X x c1) (hc2 : Names X y c2)
      (hx : PySem.W.exmOne X.K cls' c2 = some b')
      (hsu : ∀ (a : Addr) (oe : Obj) (cls : Value) (d : Option Addr) (pn : List (Addr × Obj)), L2N.Zn cls d oe → (∃ vs, oe.data = .fields vs) → PSs (X.suite a ((a, oe) :: pn)) (b₀ :: suite) (ts a cls d)) (r : HdsOkT X hds l) :
      HdsOkT X (.ExceptHandler (some (.Tuple [.Name x np, .Name y np2] kk tp)) none (b₀ :: suite) pos' :: hds) ((c1, ts) :: (c2, ts) :: l)
section
variable {X : Cx} {body : List Stmt} {h₀ : ExceptHandler} {hds : List ExceptHandler} {l : List (Value × (Addr → Value → Option Addr → TS))} {pos : Pos} {tb : WX → TS} {Wout : WX}
theorem ps_try_tup (hs : X.stack = X.env :: X.outer) (hf : X.env.frame = some X.env.locals) (tk : L2N.Takes X Wout)
    (hb : ∀ (W : WX) (pn : List (Addr × Obj)) (xe : Value → Shared → Prop), L2N.Takes (X.tr pn xe) W → PassesOwn (model X.prog X.w) X.A X.env xe → PSs (X.tr pn xe) body (tb W))
    (hh : HdsOkT X (h₀ :: hds) l) : PS X (.Try body (h₀ :: hds) [] [] pos) (fun D σ H => tb (wMany X.K Wout D l) D σ H) := by
  refine ⟨fun pins s σ H D I h => ?_⟩
  have ok := I.ok
  have hfr : X.A.frames = some (X.env :: X.outer) := by rw [ok.frames, hs]
  refine wpAny_Try_except ?_
  refine wpAny_mono ((hb (wMany X.K Wout D l) (X.pn ++ pins) (fun e s₁ => wpAny (model X.prog X.w) X.A (noteFrame e X.env) (fun _ s₂ => wpAny (model X.prog X.w) X.A (setFlight e none) (fun _ s₃ =>
    wpAny (model X.prog X.w) X.A (handleBy e X.env (h₀ :: hds)) (SP X pins D) X.xe s₃) X.xe s₂) X.xe s₁) (fun u s' xx => ?_) PassesOwn.looking).run [] s σ H D (I.toTry _) h) (fun f s1 hsp => ?_) (fun e s1 he => he)
  · -- the catch
    obtain ⟨a, B, sI, pins', σ', H', cls, d, rfl, J', nb, up, sky, na, os, ag, w⟩ := xx
    have J : Inv X pins σ' H' sI := J'.ofTry ok
    have sky' : Sky B (X.env :: X.outer) a (L2N.Zn cls d) X.env.locals s'.heap := by rw [← hs]; exact sky
    show wpAny (model X.prog X.w) X.A (noteFrame (.ref a) X.env) _ _ _
    refine L2N.Sky.land L2N.Zn.steady hfr hf sky' fun h3 fl3 up3 => ?_
    have notFr : ∀ {h : Heap} {o : Obj} {vs : Array Value}, h.FunFrames B (X.env :: X.outer) → h.get? a = some o → o.data = .fields vs → a ∉ frs (X.env :: X.outer) := fun {h o vs} ff e dd hm => by
      obtain ⟨_, o', e', hnf⟩ := ff.mem hm
      rw [e] at e'; cases e'
      exact hnf _ dd
    have go : ∀ {hds' : List ExceptHandler} {l' : List (Value × (Addr → Value → Option Addr → TS))}, HdsOkT X hds' l' → ∀ h3 : Heap, HandSPX.FlyingZ B (X.env :: X.outer) a (L2N.Zn cls d) h3 → s'.heap.UpToSlots h3 → wMany X.K Wout D l' cls d σ' H' →
        wpAny (model X.prog X.w) X.A (handleBy (.ref a) X.env hds') (SP X pins D) X.xe { s' with heap := h3 } := by
      intro hds' l' hk
      induction hk with
      | nil =>
        intro h3 fl3 up3 w
        refine wpAny_handleBy_nil ?_
        obtain ⟨k1, k2, k3, oe, vs, T, oT, ts', he, hz, hd, h1, hr⟩ := id fl3
        unfold PySem.passOn
        refine wpAny_bind (wpAny_field he hd h1 ?_)
        rw [if_neg (show ¬ ((Value.ref T == Value.none) = true) from by simp)]
        have fin : wpAny (model X.prog X.w) X.A (setFlight (.ref a) X.env.frame) (fun _ s4 => wpAny (model X.prog X.w) X.A (throw (.ref a) : Sem Flow) (SP X pins D) X.xe s4) X.xe { s' with heap := h3 } := by
          rw [hf]
          refine HandSPX.setFlight_upZ fl3 fun h4 hh4 up4 => wpAny_throw (tk _ _ ?_)
          exact ⟨a, B, sI, pins, σ', H', cls, d, rfl, J, nb, (up.trans up3).trans up4, .inr (.inr (by rw [hs]; exact hh4)), na, os, ag, w⟩
        first
          | exact wpAny_bind (wpAny_pure (wpAny_bind fin))
          | exact wpAny_bind fin
      | @cons x c ts b₀ suite np pos' hds2 l2 hc hsu r ih =>
        intro h3 fl3 up3 w
        have J3 : Inv X pins σ' H' { s' with heap := h3 } := J.landed nb fl3.1 (up.trans up3) os ag
        obtain ⟨oe3, vs3, he3, hz3, hd3⟩ := fl3.there
        have nfr := notFr fl3.2.2.1 he3 hd3
        have nL : a ≠ X.env.locals := fun z => nfr (List.mem_filterMap.mpr ⟨X.env, List.mem_cons_self, by rw [hf, z]⟩)
        have nF : a ∉ X.fs := fun hm => by
          obtain ⟨e, he, q⟩ := List.mem_filterMap.mp hm
          exact nfr (List.mem_filterMap.mpr ⟨e, List.mem_cons_of_mem _ he, q⟩)
        have S3 := J3.suite he3 hd3 na nL nF
        obtain ⟨b, hb1, hyes, hno⟩ := w
        refine wpAny_handleBy_cons (codeAny_handlers_test ?_) (by intro q; cases q)
        have LT : PySem.W.Looks (model X.prog X.w) h3 (typeOf (.ref a)) cls := fun A Q E s k q => wpAny_typeOf_ref (k _ _ he3) (by rw [hz3.1]; exact q)
        have LM := PySem.W.exm_one (M := model X.prog X.w) (J3.kIn) LT hb1
        have test : ∀ {Q : Value → Shared → Prop} {E : Value → Shared → Prop}, Q c { s' with heap := h3 } → wpAny (model X.prog X.w) (X.A.mark (some (.ref a))) (eval (.Name x np) X.env) Q E { s' with heap := h3 } := fun {Q E} q => by
          obtain ⟨hg, hdbg, hm | ⟨hm, hv, hnn⟩⟩ := hc
          · exact ld_glob (X := X.suite a ((a, oe3) :: (X.pn ++ pins))) S3 hg hm q hdbg
          · exact ld_blt (X := X.suite a ((a, oe3) :: (X.pn ++ pins))) S3 hg hm hv q hnn hdbg
        refine test (LM.here ?_)
        cases b with
        | true =>
          refine codeAny_handlers_suite ?_
          refine HandSPX.lands_againZ fl3 fun h4 fl4 up4 => ?_
          have J4 : Inv X pins σ' H' { s' with heap := h4 } := J.landed nb fl4.1 ((up.trans up3).trans up4) os ag
          obtain ⟨oe4, vs4, he4, hz4, hd4⟩ := fl4.there
          have S4 := J4.suite he4 hd4 na nL nF
          refine wpAny_mono ((hsu a oe4 cls d (X.pn ++ pins) hz4 ⟨_, hd4⟩).run [] _ _ H' _ S4 (hyes rfl a na)) (fun f s6 hsp => ?_) (fun _ _ z => False.elim z)
          cases f with
          | next =>
            obtain ⟨σ6, H6, S6, q6⟩ := hsp
            exact ⟨_, _, S6.unsuite ok, q6⟩
          | brk =>
            obtain ⟨σ6, H6, S6, q6⟩ := hsp
            exact ⟨_, _, S6.unsuite ok, q6⟩
          | cont =>
            obtain ⟨σ6, H6, S6, q6⟩ := hsp
            exact ⟨_, _, S6.unsuite ok, q6⟩
          | ret u =>
            obtain ⟨v6, σ6, H6, S6, r6, q6⟩ := hsp
            exact ⟨_, _, _, S6.unsuite ok, r6, q6⟩
        | false =>
          show wpAny _ X.A (handleBy (.ref a) X.env hds2) _ _ _
          exact ih h3 fl3 up3 (hno rfl)
      | @tup x y c1 c2 cls' b' ts b₀ suite np np2 tp pos' kk hds2 l2 hc1 hc2 hx hsu r ih =>
        intro h3 fl3 up3 w
        have J3 : Inv X pins σ' H' { s' with heap := h3 } := J.landed nb fl3.1 (up.trans up3) os ag
        obtain ⟨oe3, vs3, he3, hz3, hd3⟩ := fl3.there
        have nfr := notFr fl3.2.2.1 he3 hd3
        have nL : a ≠ X.env.locals := fun z => nfr (List.mem_filterMap.mpr ⟨X.env, List.mem_cons_self, by rw [hf, z]⟩)
        have nF : a ∉ X.fs := fun hm => by
          obtain ⟨e, he, q⟩ := List.mem_filterMap.mp hm
          exact nfr (List.mem_filterMap.mpr ⟨e, List.mem_cons_of_mem _ he, q⟩)
        have S3 := J3.suite he3 hd3 na nL nF
        have kp : ∀ q o, h3.get? q = some o → (h3.push { cls := .type "tuple", data := .seq [c1, c2].toArray }).get? q = some o := fun _ _ z => Heap.get?_push_of_some _ z
        have fl5 := fly_up kp fl3
        have up5 : s'.heap.UpToSlots (h3.push { cls := .type "tuple", data := .seq [c1, c2].toArray }) := up3.trans fun b o q _ => ⟨o.slots, by rw [kp b o q]⟩
        have LT : PySem.W.Looks (model X.prog X.w) (h3.push { cls := .type "tuple", data := .seq [c1, c2].toArray }) (typeOf (.ref a)) cls := fun A Q E s k q => wpAny_typeOf_ref (k _ _ (kp _ _ he3)) (by rw [hz3.1]; exact q)
        have hp : (h3.push { cls := .type "tuple", data := .seq [c1, c2].toArray }).get? h3.objs.size = some { cls := .type "tuple", data := .seq [c1, c2].toArray } := Heap.get?_push_size h3 rfl
        have kIn5 : X.K.In (h3.push { cls := .type "tuple", data := .seq [c1, c2].toArray }) := J3.kIn.keeps kp
        have name : ∀ {z : Str} {c : Value} {zp : Pos}, Names X z c → ∀ {Q : Value → Shared → Prop} {E : Value → Shared → Prop}, Q c { s' with heap := h3 } → wpAny (model X.prog X.w) (X.A.mark (some (.ref a))) (eval (.Name z zp) X.env) Q E { s' with heap := h3 } := fun {z c zp} hc {Q E} q => by
          obtain ⟨hg, hdbg, hm | ⟨hm, hv, hnn⟩⟩ := hc
          · exact ld_glob (X := X.suite a ((a, oe3) :: (X.pn ++ pins))) S3 hg hm q hdbg
          · exact ld_blt (X := X.suite a ((a, oe3) :: (X.pn ++ pins))) S3 hg hm hv q hnn hdbg
        have test : ∀ {Q : Value → Shared → Prop} {E : Value → Shared → Prop}, Q (.ref h3.objs.size) { s' with heap := h3.push { cls := .type "tuple", data := .seq [c1, c2].toArray } } → wpAny (model X.prog X.w) (X.A.mark (some (.ref a))) (eval (.Tuple [.Name x np, .Name y np2] kk tp) X.env) Q E { s' with heap := h3 } := fun {Q E} q => by
          refine wpAny_Tuple ?_
          refine wpAny_items_cons (name hc1 ?_)
          refine wpAny_items_cons (name hc2 ?_)
          exact wpAny_items_nil ⟨by size_fits, q⟩
        refine wpAny_handleBy_cons (codeAny_handlers_test ?_) (by intro q; cases q)
        obtain ⟨b1, hb1, hyes, hno⟩ := w
        cases b1 with
        | true =>
          have LM := PySem.W.exm_tupT (M := model X.prog X.w) kIn5 LT hp hb1 hx
          refine test (LM.here ?_)
          refine codeAny_handlers_suite ?_
          refine HandSPX.lands_againZ fl5 fun h4 fl4 up4 => ?_
          have J4 : Inv X pins σ' H' { s' with heap := h4 } := J.landed nb fl4.1 ((up.trans up5).trans up4) os ag
          obtain ⟨oe4, vs4, he4, hz4, hd4⟩ := fl4.there
          have S4 := J4.suite he4 hd4 na nL nF
          refine wpAny_mono ((hsu a oe4 cls d (X.pn ++ pins) hz4 ⟨_, hd4⟩).run [] _ _ H' _ S4 (hyes rfl a na)) (fun f s6 hsp => ?_) (fun _ _ z => False.elim z)
          cases f with
          | next =>
            obtain ⟨σ6, H6, S6, q6⟩ := hsp
            exact ⟨_, _, S6.unsuite ok, q6⟩
          | brk =>
            obtain ⟨σ6, H6, S6, q6⟩ := hsp
            exact ⟨_, _, S6.unsuite ok, q6⟩
          | cont =>
            obtain ⟨σ6, H6, S6, q6⟩ := hsp
            exact ⟨_, _, S6.unsuite ok, q6⟩
          | ret u =>
            obtain ⟨v6, σ6, H6, S6, r6, q6⟩ := hsp
            exact ⟨_, _, _, S6.unsuite ok, r6, q6⟩
        | false =>
          obtain ⟨b2, hb2, hyes2, hno2⟩ := hno rfl
          have ex : PySem.W.exmAny X.K cls [c1, c2] = some b2 := by
            unfold PySem.W.exmAny PySem.W.exmAny PySem.W.exmAny
            rw [hb1, hb2]
            cases b2 <;> rfl
          have LM := PySem.W.exm_tup2 (M := model X.prog X.w) kIn5 LT hp ex
          refine test (LM.here ?_)
          cases b2 with
          | true =>
            refine codeAny_handlers_suite ?_
            refine HandSPX.lands_againZ fl5 fun h4 fl4 up4 => ?_
            have J4 : Inv X pins σ' H' { s' with heap := h4 } := J.landed nb fl4.1 ((up.trans up5).trans up4) os ag
            obtain ⟨oe4, vs4, he4, hz4, hd4⟩ := fl4.there
            have S4 := J4.suite he4 hd4 na nL nF
            refine wpAny_mono ((hsu a oe4 cls d (X.pn ++ pins) hz4 ⟨_, hd4⟩).run [] _ _ H' _ S4 (hyes2 rfl a na)) (fun f s6 hsp => ?_) (fun _ _ z => False.elim z)
            cases f with
            | next =>
              obtain ⟨σ6, H6, S6, q6⟩ := hsp
              exact ⟨_, _, S6.unsuite ok, q6⟩
            | brk =>
              obtain ⟨σ6, H6, S6, q6⟩ := hsp
              exact ⟨_, _, S6.unsuite ok, q6⟩
            | cont =>
              obtain ⟨σ6, H6, S6, q6⟩ := hsp
              exact ⟨_, _, S6.unsuite ok, q6⟩
            | ret u =>
              obtain ⟨v6, σ6, H6, S6, r6, q6⟩ := hsp
              exact ⟨_, _, _, S6.unsuite ok, r6, q6⟩
          | false =>
            show wpAny _ X.A (handleBy (.ref a) X.env hds2) _ _ _
            exact ih _ fl5 up5 (hno2 rfl)
    exact go hh h3 fl3 up3 w
  · cases f with
    | next =>
      obtain ⟨σ', H', J', q⟩ := hsp
      exact wpAny_execs_nil ⟨σ', H', J'.ofTry ok, q⟩
    | brk =>
      obtain ⟨σ', H', J', q⟩ := hsp
      exact ⟨σ', H', J'.ofTry ok, q⟩
    | cont =>
      obtain ⟨σ', H', J', q⟩ := hsp
      exact ⟨σ', H', J'.ofTry ok, q⟩
    | ret u =>
      obtain ⟨v, σ', H', J', r, q⟩ := hsp
      exact ⟨v, σ', H', J'.ofTry ok, r, q⟩
end
end Ly
namespace Ly
open PySem PySem.Spec L2 Evl PyProof.Rows
/-! dict(xs), xs a list of pairs (text, data), all texts different -/
def pairK : D → Option (Key × D)
  | .tuple [.str z, d] => some (.inr z, d)
  | _ => none
def pairKs : List D → Option (List (Key × D))
  | [] => some []
  | d :: ds => match pairK d, pairKs ds with
    | some p, some ps => some (p :: ps)
    | _, _ => none
def cbDictP : List Av → Op0 := fun xs S => match xs with
  | [x] => match seqL S x with
    | some ds => match pairKs ds with
      | some ps => if (ps.map (·.1)).Nodup then some (.o S.length, S ++ [.dk (ps.map fun p => (p.1, Av.d p.2))]) else none
      | none => none
    | none => none
  | _ => none
def rDictP (K : Fg) : List V → Hp → VK → Prop := fun xs H Q => ∃ (a : Addr) (ps : List Addr) (kvs : List (Key × V)), xs = [.ref a] ∧ SqL K H a (ps.map V.ref) ∧ Paired (fun p kv => SqT K H p [kV kv.1, kv.2]) ps kvs ∧ ∀ p, H p = none → Q (.ref p) (upd H p (.dK (mergeK [] kvs)))
theorem putK_new {kvs : List (Key × V)} {k : Key} {v : V} (h : k ∉ kvs.map (·.1)) : putK kvs k v = kvs ++ [(k, v)] := by
  unfold putK
  rw [if_neg]
  intro e
  obtain ⟨p, hp, e⟩ := List.any_eq_true.mp e
  exact h (List.mem_map.mpr ⟨p, hp, of_decide_eq_true e⟩)
theorem mergeK_new : ∀ (more kvs : List (Key × V)), ((kvs ++ more).map (·.1)).Nodup → mergeK kvs more = kvs ++ more
  | [], kvs, _ => by unfold mergeK; simp
  | p :: more, kvs, h => by
    have h1 : p.1 ∉ kvs.map (·.1) := fun hc => by
      rw [List.map_append, List.nodup_append] at h
      exact h.2.2 _ hc p.1 (by simp) rfl
    have e : mergeK kvs (p :: more) = mergeK (putK kvs p.1 p.2) more := rfl
    rw [e, putK_new h1, mergeK_new more _ (by simpa using h)]
    simp
section
variable {P : Program} {w wd : World} {K : Fg} {mg : Str → Option Value} {W : WX} {ρ : List Addr} {S S' : Sg} {F H : Hp} {σ : L2.St} {σa σa' : Sl} {X : Cx}
theorem kDictP (hc : X.calm = true) (hK : X.K = K := by rfl) : CallR X (.type "dict") (rDictP K) := by subst hK; exact call_dictP hc
theorem pairs_ok (hf : Ex F H) : ∀ {us : List V} {ds : List D} {ps : List (Key × D)}, DpAll K F us ds → pairKs ds = some ps → ∃ (as : List Addr) (kvs : List (Key × V)), us = as.map V.ref ∧ Paired (fun p kv => SqT K H p [kV kv.1, kv.2]) as kvs ∧ kvs.map (·.1) = ps.map (·.1) ∧ ∀ ρ, KR K ρ F kvs (ps.map fun p => (p.1, Av.d p.2)) := by
  intro us ds ps hd
  induction ds generalizing us ps with
  | nil =>
    intro e
    cases hd
    cases e
    exact ⟨[], [], rfl, .nil, rfl, fun _ => .nil⟩
  | cons d ds ih =>
    intro e
    cases hd with
    | cons h t =>
      unfold pairKs at e
      split at e
      · rename_i p ps' e1 e2
        cases e
        obtain ⟨as, kvs, rfl, h1, h2, h3⟩ := ih t e2
        unfold pairK at e1
        split at e1
        · rename_i z d'
          cases e1
          cases h with
          | tup s a =>
            obtain ⟨v1, v2, rfl, a1, a2⟩ := dps2 a
            cases a1
            exact ⟨_ :: as, (.inr z, v2) :: kvs, rfl, .cons (ex_t hf s) h1, by rw [List.map_cons, List.map_cons, h2], fun ρ => .cons ⟨rfl, a2⟩ (h3 ρ)⟩
        · cases e1
      · cases e
theorem cs_DictP : CallS P wd K mg (rDictP K) cbDictP := by
  intro ρ S F H hr vs xs hv z S' e Q q
  unfold cbDictP at e
  split at e
  · split at e
    · rename_i ds e1
      split at e
      · rename_i ps e2
        split at e
        · rename_i hn
          cases e
          obtain ⟨v, rfl, hv1⟩ := vrs1 hv
          obtain ⟨a, us, rfl, hd, h⟩ := seqL_ok hr hv1 e1
          obtain ⟨as, kvs, rfl, h1, h2, h3⟩ := pairs_ok (H := H) hr.fh hd e2
          refine ⟨a, as, kvs, rfl, h, h1, fun p hp => ?_⟩
          rw [mergeK_new kvs [] (by rw [List.nil_append, h2]; exact hn), List.nil_append]
          obtain ⟨r2, g2⟩ := hr.new (c := .dk (ps.map fun p => (p.1, Av.d p.2))) (o := .dK kvs) hp ⟨kvs, rfl, h3 _⟩
          exact q _ _ _ _ g2 r2 ⟨p, by rw [← hr.len]; exact get_new, rfl⟩
        · cases e
      · cases e
    · cases e
  · cases e
end
end Ly
/-! LyZL: an exception caught and kept: try .. except C as e: bad = e; and isinstance(bad, ..) behind it. -/
namespace Ly
open PySem PySem.Spec L2 Evl PyProof.Rows
theorem hok_extend {P : Program} {w : World} {H : Hp} {h : Heap} {a : Addr} {o : HO} (x : HOk P w H h) (hn : H a = none) (new : ObjOk P w (upd H a o) h a o) : HOk P w (upd H a o) h := fun b u e => by
  by_cases hb : b = a
  · subst hb; rw [upd_same] at e; cases e; exact new
  · rw [upd_ne hb] at e
    exact (x b u e).stay (fun c v _ q => q) (fun c q => by rw [upd_ne (ne_of_none q hn)]; exact q) fun c xs q => by rw [upd_ne (ne_of_none q hn)]; exact q
theorem inv_extend {X : Cx} {pins : List (Addr × Obj)} {σ : L2.St} {H : Hp} {s : Shared} {a : Addr} {oe : Obj} {vs : Array Value} {o : HO} (I : Inv X pins σ H s) (ha : s.heap.get? a = some oe) (hd : oe.data = .fields vs) (na : H a = none) (nL : a ≠ X.env.locals)
    (np : ∀ p ∈ X.pn ++ pins, p.1 ≠ a) (nz : a ∈ X.ex ∨ X.s_0.heap.get? a = none) (new : ObjOk X.prog X.w (upd H a o) s.heap a o) : Inv X pins σ (upd H a o) s := by
  have ne : ∀ {b : Addr} {u : HO}, H b = some u → b ≠ a := fun q => ne_of_none q na
  refine ⟨I.ok, I.os, I.bare, ⟨I.base.keep, I.base.slot, fun b u e n hx => ?_, I.base.there, fun b xs q => ?_, fun b ob u q => ?_, fun b ps q => ?_⟩, I.loc, I.cell, ?_, fun x c q => ?_, fun p hp => ?_, hok_extend I.hok na new, I.len⟩
  · have hb : b ≠ a := fun z => by
      subst z
      rcases nz with q | q
      · exact hx q
      · rw [q] at e; cases e
    rw [upd_ne hb]; exact I.base.free b u e n hx
  · have := I.base.tups b xs q
    rw [upd_ne (ne this)]; exact this
  · have := I.base.frzs b ob u q
    rw [upd_ne (ne this)]; exact this
  · obtain ⟨more, this⟩ := I.base.tbls b ps q
    exact ⟨more, by rw [upd_ne (ne this)]; exact this⟩
  · rw [upd_ne (fun z => nL z.symm)]; exact I.free
  · have hc : c ≠ a := fun z => by
      subst z
      obtain ⟨v, oc, hoc, hdc⟩ := I.cell x c q
      rw [ha] at hoc; cases hoc
      rw [hd] at hdc; cases hdc
    rw [upd_ne hc]; exact I.freeC x c q
  · obtain ⟨p1, p2, p3⟩ := I.pin p hp
    exact ⟨p1, by rw [upd_ne (np p hp)]; exact p2, p3⟩
/-- an exception that stands by itself, its class whatever it be -/
def ExG (a : Addr) (cls : Value) (d : Option Addr) (h : Heap) : Prop := ∃ oe, h.get? a = some oe ∧ L2N.Zn cls d oe ∧ ∃ vs, oe.data = .fields vs
theorem exg_ok {P : Program} {w : World} {H : Hp} {h : Heap} {a : Addr} {cls : Value} {d : Option Addr} {oe : Obj} {vs : Array Value} (he : h.get? a = some oe) (hz : L2N.Zn cls d oe) (hd : oe.data = .fields vs) : ObjOk P w H h a (.ext (ExG a cls d)) :=
  ⟨⟨oe, he, hz, vs, hd⟩, ⟨oe, he⟩, fun h1 h2 ⟨oe, e, z, v⟩ k => ⟨oe, k _ e, z, v⟩⟩
/-- what the clause wishes: behind it the exception stands in the store -/
def wKeep (K : PySem.W.Frag) (c : Value) (i : Nat) (ts : Addr → Value → Option Addr → TS) (Wout : WX) (D : Ends) : WX := fun cls d σ H =>
  ∃ b, PySem.W.exmOne K cls c = some b ∧ (b = true → ∀ a, H a = none → ts a cls d { nx := fun σ' H' => H' a = none → D.nx (σ'.set i none) (upd H' a (.ext (ExG a cls d))), rt := D.rt, bk := fun σ' H' => D.bk (σ'.set i none) H', ct := fun σ' H' => D.ct (σ'.set i none) H' } (σ.set i (some (.ref a))) H) ∧
    (b = false → Wout cls d σ H)
section
variable {X : Cx} {x n : Str} {c : Value} {i : Nat} {body suite : List Stmt} {b₀ : Stmt} {np pos pos' : Pos} {tb : WX → TS} {ts : Addr → Value → Option Addr → TS} {Wout : WX}
theorem ps_try_keep (hs : X.stack = X.env :: X.outer) (hf : X.env.frame = some X.env.locals) (hN : X.N.Nodup) (hi : X.N[i]? = some n) (hln : X.env.kindOf n = some .local) (hc : Names X x c) (tk : L2N.Takes X Wout)
    (hb : ∀ (W : WX) (pn : List (Addr × Obj)) (xe : Value → Shared → Prop), L2N.Takes (X.tr pn xe) W → PassesOwn (model X.prog X.w) X.A X.env xe → PSs (X.tr pn xe) body (tb W))
    (hsu : ∀ (a : Addr) (oe : Obj) (cls : Value) (d : Option Addr) (pn : List (Addr × Obj)), L2N.Zn cls d oe → (∃ vs, oe.data = .fields vs) → PSs (X.suite a ((a, oe) :: pn)) (b₀ :: suite) (ts a cls d)) :
    PS X (.Try body [.ExceptHandler (some (.Name x np)) (some n) (b₀ :: suite) pos'] [] [] pos) (fun D σ H => tb (wKeep X.K c i ts Wout D) D σ H) := by
  refine ⟨fun pins s σ H D I h => ?_⟩
  have ok := I.ok
  have hfr : X.A.frames = some (X.env :: X.outer) := by rw [ok.frames, hs]
  have hloc : Loc X.env.scope n := .inl hln
  refine wpAny_Try_except ?_
  refine wpAny_mono ((hb (wKeep X.K c i ts Wout D) (X.pn ++ pins) (fun e s₁ => wpAny (model X.prog X.w) X.A (noteFrame e X.env) (fun _ s₂ => wpAny (model X.prog X.w) X.A (setFlight e none) (fun _ s₃ =>
    wpAny (model X.prog X.w) X.A (handleBy e X.env [.ExceptHandler (some (.Name x np)) (some n) (b₀ :: suite) pos']) (SP X pins D) X.xe s₃) X.xe s₂) X.xe s₁) (fun u s' xx => ?_) PassesOwn.looking).run [] s σ H D (I.toTry _) h) (fun f s1 hsp => ?_) (fun e s1 he => he)
  · -- the catch
    obtain ⟨a, B, sI, pins', σ', H', cls, d, rfl, J', nb, up, sky, na, os, ag, b, hb1, hyes, hno⟩ := xx
    have J : Inv X pins σ' H' sI := J'.ofTry ok
    have sky' : Sky B (X.env :: X.outer) a (L2N.Zn cls d) X.env.locals s'.heap := by rw [← hs]; exact sky
    show wpAny (model X.prog X.w) X.A (noteFrame (.ref a) X.env) _ _ _
    refine L2N.Sky.land L2N.Zn.steady hfr hf sky' fun h3 fl3 up3 => ?_
    have J3 : Inv X pins σ' H' { s' with heap := h3 } := J.landed nb fl3.1 (up.trans up3) os ag
    obtain ⟨oe3, vs3, he3, hz3, hd3⟩ := fl3.there
    have notFr : ∀ {h : Heap} {o : Obj} {vs : Array Value}, h.FunFrames B (X.env :: X.outer) → h.get? a = some o → o.data = .fields vs → a ∉ frs (X.env :: X.outer) := fun {h o vs} ff e dd hm => by
      obtain ⟨_, o', e', hnf⟩ := ff.mem hm
      rw [e] at e'; cases e'
      exact hnf _ dd
    have nfr := notFr fl3.2.2.1 he3 hd3
    have nL : a ≠ X.env.locals := fun z => nfr (List.mem_filterMap.mpr ⟨X.env, List.mem_cons_self, by rw [hf, z]⟩)
    have nF : a ∉ X.fs := fun hm => by
      obtain ⟨e, he, q⟩ := List.mem_filterMap.mp hm
      exact nfr (List.mem_filterMap.mpr ⟨e, List.mem_cons_of_mem _ he, q⟩)
    have nB : B.get? a = none := fl3.2.1
    have npin : ∀ p ∈ X.pn ++ pins, p.1 ≠ a := fun p hp z => by
      obtain ⟨p1, p2, p3, p4, _⟩ := J.pin p hp
      have := nb p.1 p.2 p1 fun hm => by
        rw [hs] at hm
        rw [z] at hm
        exact nfr hm
      rw [z, nB] at this
      cases this
    have nz : a ∈ X.ex ∨ X.s_0.heap.get? a = none := by
      by_cases hx : a ∈ X.ex
      · exact .inl hx
      · right
        cases q : X.s_0.heap.get? a with
        | none => rfl
        | some o =>
          obtain ⟨o', ho'⟩ := J.base.there a o q hx
          have := nb a o' ho' fun hm => by rw [hs] at hm; exact nfr hm
          rw [nB] at this
          cases this
    have S3 := J3.suite he3 hd3 na nL nF
    refine wpAny_handleBy_cons (codeAny_handlers_test ?_) (by intro q; cases q)
    have LT : PySem.W.Looks (model X.prog X.w) h3 (typeOf (.ref a)) cls := fun A Q E s k q => wpAny_typeOf_ref (k _ _ he3) (by rw [hz3.1]; exact q)
    have LM := PySem.W.exm_one (M := model X.prog X.w) (J3.kIn) LT hb1
    have test : ∀ {Q : Value → Shared → Prop} {E : Value → Shared → Prop}, Q c { s' with heap := h3 } → wpAny (model X.prog X.w) (X.A.mark (some (.ref a))) (eval (.Name x np) X.env) Q E { s' with heap := h3 } := fun {Q E} q => by
      obtain ⟨hg, hdbg, hm | ⟨hm, hv, hnn⟩⟩ := hc
      · exact ld_glob (X := X.suite a ((a, oe3) :: (X.pn ++ pins))) S3 hg hm q hdbg
      · exact ld_blt (X := X.suite a ((a, oe3) :: (X.pn ++ pins))) S3 hg hm hv q hnn hdbg
    refine test (LM.here ?_)
    cases b with
    | true =>
      refine codeAny_handlers_suite_as ?_
      refine HandSPX.lands_againZ fl3 fun h4 fl4 up4 => ?_
      have J4 : Inv X pins σ' H' { s' with heap := h4 } := J.landed nb fl4.1 ((up.trans up3).trans up4) os ag
      obtain ⟨oe4, vs4, he4, hz4, hd4⟩ := fl4.there
      have S4 := J4.suite he4 hd4 na nL nF
      refine store_ok (X := X.suite a ((a, oe4) :: (X.pn ++ pins))) (v := .ref a) S4 hN hi hloc rfl (fun s5 S5 => ?_) (.inr hln)
      refine wpAny_mono ((hsu a oe4 cls d (X.pn ++ pins) hz4 ⟨_, hd4⟩).run [] s5 _ H' _ S5 (hyes rfl a na)) (fun f s6 hsp => ?_) (fun _ _ z => False.elim z)
      have end_ : ∀ {σ6 : L2.St} {H6 : Hp} {Q : Shared → Prop}, Inv (X.suite a ((a, oe4) :: (X.pn ++ pins))) [] σ6 H6 s6 → (∀ s7, Inv X pins (σ6.set i none) H6 s7 → Q s7) →
          wpAny (model X.prog X.w) X.A (do bindName X.env n .none; unbindBehindTheSuite X.env n pos') (fun _ s7 => Q s7) X.xe s6 := fun {σ6 H6 Q} S6 hq => gone_ok (S6.unsuite ok) hN hi hln hq
      cases f with
      | next =>
        obtain ⟨σ6, H6, S6, q6⟩ := hsp
        obtain ⟨g1, g2, _⟩ := S6.pin (a, oe4) (List.mem_append.mpr (.inl List.mem_cons_self))
        have K6 : Inv X pins σ6 (upd H6 a (.ext (ExG a cls d))) s6 := inv_extend (S6.unsuite ok) g1 hd4 g2 nL npin nz (exg_ok g1 hz4 hd4)
        exact gone_ok K6 hN hi hln fun s7 J7 => ⟨_, _, J7, q6 g2⟩
      | brk =>
        obtain ⟨σ6, H6, S6, q6⟩ := hsp
        exact end_ S6 fun s7 J7 => ⟨_, _, J7, q6⟩
      | cont =>
        obtain ⟨σ6, H6, S6, q6⟩ := hsp
        exact end_ S6 fun s7 J7 => ⟨_, _, J7, q6⟩
      | ret u =>
        obtain ⟨v6, σ6, H6, S6, r6, q6⟩ := hsp
        exact end_ S6 fun s7 J7 => ⟨_, _, _, J7, r6, q6⟩
    | false =>
      show wpAny _ X.A (handleBy (.ref a) X.env []) _ _ _
      refine wpAny_handleBy_nil ?_
      obtain ⟨k1, k2, k3, oe, vs, T, oT, ts', he, hz, hd, h1, hr⟩ := id fl3
      unfold PySem.passOn
      refine wpAny_bind (wpAny_field he hd h1 ?_)
      rw [if_neg (show ¬ ((Value.ref T == Value.none) = true) from by simp)]
      have fin : wpAny (model X.prog X.w) X.A (setFlight (.ref a) X.env.frame) (fun _ s4 => wpAny (model X.prog X.w) X.A (throw (.ref a) : Sem Flow) (SP X pins D) X.xe s4) X.xe { s' with heap := h3 } := by
        rw [hf]
        refine HandSPX.setFlight_upZ fl3 fun h4 hh4 up4 => wpAny_throw (tk _ _ ?_)
        exact ⟨a, B, sI, pins, σ', H', cls, d, rfl, J, nb, (up.trans up3).trans up4, .inr (.inr (by rw [hs]; exact hh4)), na, os, ag, hno rfl⟩
      first
        | exact wpAny_bind (wpAny_pure (wpAny_bind fin))
        | exact wpAny_bind fin
  · cases f with
    | next =>
      obtain ⟨σ', H', J', q⟩ := hsp
      exact wpAny_execs_nil ⟨σ', H', J'.ofTry ok, q⟩
    | brk =>
      obtain ⟨σ', H', J', q⟩ := hsp
      exact ⟨σ', H', J'.ofTry ok, q⟩
    | cont =>
      obtain ⟨σ', H', J', q⟩ := hsp
      exact ⟨σ', H', J'.ofTry ok, q⟩
    | ret u =>
      obtain ⟨v, σ', H', J', r, q⟩ := hsp
      exact ⟨v, σ', H', J'.ofTry ok, r, q⟩
end
/-! the mirror -/
section
variable {P : Program} {wd : World} {K : Fg} {mg : Str → Option Value} {W : WX}
/-- try .. except C as e: bad = e -/
def aTryKeep (all : List Str) (sub : Str → Str → Bool) (b : AS) (C : Str) (i k : Nat) : AS := fun σ S => match b σ S with
  | some (.ex e, σ1, S1) => if e.cls ∈ all ∧ e.row = none ∧ i < σ1.length then (if sub e.cls C = true then some (.nx, ((σ1.set i none).set k (some (.o S1.length))).set i none, S1 ++ [.lk (.ins e.cls [])]) else some (.ex e, σ1, S1)) else none
  | r => r
theorem ss_tryKeep {all : List Str} {sub : Str → Str → Bool} {tb : WX → TS} {b : AS} {C : Str} {i k : Nat} (hx : XMs K mg all [C] sub) (hb : ∀ W', SimS P wd K mg W' (tb W') b) (hik : i ≠ k) :
    SimS P wd K mg W (fun D σ H => tb (wKeep K (.ref (clsA mg C)) i (fun _ _ _ => tAsg (tVar i) (gName k)) W D) D σ H) (aTryKeep all sub b C i k) := by
  intro σ σa ρ S F H hr hs' fl σa' S' h D' qq
  unfold aTryKeep at h
  split at h
  · rename_i e σ1 S1 e1
    split at h
    · rename_i hm
      refine hb _ σ σa ρ S F H hr hs' _ _ _ e1 D' ?_
      intro ρ1 F1 H1 σ2 cv d g1 r1 s1 x1
      obtain ⟨ec, ed⟩ := x1
      rw [hm.2.1] at ed
      have ed : d = none := ed
      have hx0 := hx e.cls hm.1 C (List.mem_singleton.mpr rfl)
      refine ⟨sub e.cls C, by rw [ec]; exact hx0, fun hb1 a na => ?_, fun hb1 => ?_⟩
      · have hb1 : sub e.cls C = true := hb1
        rw [if_pos hb1] at h
        cases h
        have q1 := qq.gw g1
        have hlen : i < σ2.length := by rw [s1.1]; exact hm.2.2
        refine ⟨.ref a, List.getElem?_set_self hlen, ?_⟩
        intro na'
        subst ec ed
        obtain ⟨r2, g2⟩ := r1.new (c := .lk (.ins e.cls [])) (o := .ext (ExG a (.ref (clsA mg e.cls)) none)) na' (.inr (.inl ⟨e.cls, rfl, rfl⟩))
        have v2 : VR K (ρ1 ++ [a]) F1 (.ref a) (.o S1.length) := ⟨a, by rw [← r1.len]; exact get_new, rfl⟩
        exact q1 _ _ _ _ g2 r2 ((((s1.clr i (some (.ref a))).gw g2).set v2).clr i none)
      · have hb1 : sub e.cls C = false := hb1
        rw [if_neg (by rw [hb1]; exact fun z => nomatch z)] at h
        cases h
        exact qq ρ1 F1 H1 σ2 cv d g1 r1 s1 ⟨ec, by rw [hm.2.1]; exact ed⟩
    · cases h
  · rename_i hne
    refine hb _ σ σa ρ S F H hr hs' _ _ _ h D' ?_
    cases fl with
    | nx => exact qq
    | bk => exact qq
    | ct => exact qq
    | rt x => exact qq
    | ex e => exact absurd h (hne _ _ _)
end
/-! isinstance of an exception that is kept -/
theorem inst_of {h : Heap} {a D : Addr} (e : ExA a D h) : ∃ oe, PySem.W.InstAt h a oe D none := by
  obtain ⟨oe, hget, hz, vs, hv⟩ := e
  obtain ⟨oc, od, oda, osl⟩ := oe
  obtain ⟨h1, h2, _⟩ := hz
  dsimp only at h1 h2 hv
  subst h1 h2 hv
  exact ⟨_, hget, rfl, rfl, trivial⟩
def rIsX (K : Fg) : List V → Hp → VK → Prop := fun xs H Q => ∃ (a D : Addr) (c : V) (cv : Value) (b : Bool), xs = [.ref a, c] ∧ H a = some (.ext (ExA a D)) ∧ ExcC K D ∧ (∀ u, RelV c u → u = cv) ∧ PySem.W.kitOne K (.ref D) cv = some b ∧ Q (.bl b) H
theorem jIsX {X : Cx} {K : Fg} (hK : X.K = K := by rfl) : CallR X (.builtin "isinstance") (rIsX K) := by
  subst hK
  intro pins s σ H xs us Q I r h
  obtain ⟨a, D, c, cv, b, rfl, ha, hx, hcv, e, q⟩ := h
  cases r with
  | cons rx rr =>
    cases rr with
    | cons rt rr =>
      cases rr
      cases rx
      have ec := hcv _ rt
      subst ec
      obtain ⟨ex, _⟩ := I.hok a _ ha
      obtain ⟨oe, J⟩ := inst_of ex
      exact PySem.W.kia_one (PySem.W.handS_kitx_exc hx.hg hx.hk hx.hs hx.hd hx.ha hx.hn hx.ht hx.hm) I.kIn J e (fun z => nomatch z) fun tk => ⟨.bl b, H, I.kept (t' := tk) fun _ _ z => z, rfl, q⟩
def rIsXU (K : Fg) : List V → Hp → VK → Prop := fun xs H Q => ∃ (a D p : Addr) (cs : List Addr) (b : Bool), xs = [.ref a, .ref p] ∧ H a = some (.ext (ExA a D)) ∧ ExcC K D ∧ H p = some (.tup (cs.map V.ref)) ∧ PySem.W.kitAny K (.ref D) (cs.map Value.ref) = some b ∧ Q (.bl b) H
theorem jIsXU {X : Cx} {K : Fg} (hK : X.K = K := by rfl) : CallR X (.builtin "isinstance") (rIsXU K) := by
  subst hK
  intro pins s σ H xs us Q I r h
  obtain ⟨a, D, p, cs, b, rfl, ha, hx, hp, e, q⟩ := h
  cases r with
  | cons rx rr =>
    cases rr with
    | cons rt rr =>
      cases rr
      cases rx
      cases rt
      obtain ⟨ex, _⟩ := I.hok a _ ha
      obtain ⟨oe, J⟩ := inst_of ex
      obtain ⟨_, its, rv, it⟩ := I.hok p _ hp
      have ei := refs_at rv
      subst ei
      obtain ⟨o, ho, hc, n, hd⟩ := it
      obtain ⟨oc, od, oda, osl⟩ := o
      dsimp only at hc hd
      subst hc hd
      exact PySem.W.kia_tup (PySem.W.handS_kitx_exc hx.hg hx.hk hx.hs hx.hd hx.ha hx.hn hx.ht hx.hm) I.kIn J ho e (fun z => nomatch z) fun tk => ⟨.bl b, H, I.kept (t' := tk) fun _ _ z => z, rfl, q⟩
def aIsX (all : List Str) (tst : Str → Bool) (ae : AE) : AE := fun σ => bnd (ae σ) fun x S => match x with
  | .o j => match S[j]? with
    | some (.lk (.ins c [])) => if c ∈ all then some (.ok (.d (.bool (tst c))), S) else none
    | _ => none
  | _ => none
section
variable {P : Program} {wd : World} {K : Fg} {mg : Str → Option Value} {W : WX} {te : TE} {ae : AE}
theorem isx_inv {ρ : List Addr} {S : Sg} {F H : Hp} {v : V} {j : Nat} {c : Str} (r : Rel P wd K mg ρ S F H) (hv : VR K ρ F v (.o j)) (hs : S[j]? = some (.lk (.ins c []))) : ∃ a, v = .ref a ∧ H a = some (.ext (ExA a (clsA mg c))) := by
  obtain ⟨a, o, e, h1, h2, h3, h4⟩ := r.at hv hs (fun z => nomatch z)
  rcases h4 with ⟨_, hn⟩ | ⟨n, z, rfl⟩ | ⟨_, _, z, _⟩
  · cases hn
  · cases z
    exact ⟨a, e, h3⟩
  · cases z
theorem isx_of {ρ : List Addr} {S : Sg} {F H : Hp} {σ : L2.St} {σa : Sl} {all : List Str} {tst : Str → Bool} {r : Rs Av} {S' : Sg} (ha : SimE P wd K mg W te ae) (hr : Rel P wd K mg ρ S F H) (hs : SR K ρ F σ σa) (h : aIsX all tst ae σa S = some (r, S')) (Q : VK)
    (qe : ∀ e, r = .ex e → ∀ ρ' F' H' c d, Gw ρ F H ρ' F' H' → Rel P wd K mg ρ' S' F' H' → XR mg H' e c d → W c d σ H')
    (k : ∀ c ∈ all, r = .ok (.d (.bool (tst c))) → ∀ ρ' F' H' a, Gw ρ F H ρ' F' H' → Rel P wd K mg ρ' S' F' H' → H' a = some (.ext (ExA a (clsA mg c))) → Q (.ref a) H') : te σ H Q := by
  refine ha.bind hr hs h qe fun x S1 ρ1 F1 H1 v h g1 r1 v1 => ?_
  cases x with
  | d d => cases h
  | o j =>
    dsimp only at h
    split at h
    · rename_i c hc
      split at h
      · rename_i hm
        cases h
        obtain ⟨a, rfl, hx⟩ := isx_inv r1 v1 hc
        exact k c hm rfl _ _ _ a g1 r1 hx
      · cases h
    · cases h
theorem sm_isX {all : List Str} {C : Str} {tst : Str → Bool} (ha : SimE P wd K mg W te ae) (hx : ∀ c ∈ all, ExcC K (clsA mg c)) (hk : ∀ c ∈ all, PySem.W.kitOne K (.ref (clsA mg c)) (.ref (clsA mg C)) = some (tst c)) :
    SimE P wd K mg W (tCB (rIsX K) (tCons te (tCons (tC (.ref (clsA mg C))) tNil))) (aIsX all tst ae) := by
  intro σ σa ρ S F H hr hs r S' h Q qo qe
  refine isx_of ha hr hs h _ qe fun c hc e ρ' F' H' a g r' hH => ?_
  exact ⟨a, _, _, _, _, rfl, hH, hx c hc, fun u hu => hu, hk c hc, qo _ e ρ' F' H' _ g r' (.bl _)⟩
theorem sm_isXT {all : List Str} {n : String} {tst : Str → Bool} (ha : SimE P wd K mg W te ae) (hx : ∀ c ∈ all, ExcC K (clsA mg c)) (hk : ∀ c ∈ all, PySem.W.kitOne K (.ref (clsA mg c)) (.type n) = some (tst c)) :
    SimE P wd K mg W (tCB (rIsX K) (tCons te (tCons (tC (.ty n)) tNil))) (aIsX all tst ae) := by
  intro σ σa ρ S F H hr hs r S' h Q qo qe
  refine isx_of ha hr hs h _ qe fun c hc e ρ' F' H' a g r' hH => ?_
  exact ⟨a, _, _, _, _, rfl, hH, hx c hc, fun u hu => hu, hk c hc, qo _ e ρ' F' H' _ g r' (.bl _)⟩
def tRefs : List Addr → TA
  | [] => tNil
  | a :: as => tCons (tC (.ref a)) (tRefs as)
theorem t_refs : ∀ (as : List Addr) {σ : L2.St} {H : Hp} {Q : List V → Hp → Prop}, Q (as.map V.ref) H → tRefs as σ H Q
  | [], _, _, _, q => q
  | a :: as, σ, H, Q, q => t_refs as (Q := fun vs H => Q (.ref a :: vs) H) q
/-- isinstance(x, (C1, C2, ..)) -/
theorem sm_isXU {all : List Str} {Cs : List Str} {tst : Str → Bool} (hl : Cs.length ≤ 1000) (ha : SimE P wd K mg W te ae) (hx : ∀ c ∈ all, ExcC K (clsA mg c)) (hk : ∀ c ∈ all, PySem.W.kitAny K (.ref (clsA mg c)) ((Cs.map (clsA mg)).map Value.ref) = some (tst c)) :
    SimE P wd K mg W (tCB (rIsXU K) (tCons te (tCons (tTup (tRefs (Cs.map (clsA mg)))) tNil))) (aIsX all tst ae) := by
  intro σ σa ρ S F H hr hs r S' h Q qo qe
  refine isx_of ha hr hs h _ qe fun c hc e ρ' F' H' a g r' hH => ?_
  refine t_refs _ ⟨by rw [List.length_map, List.length_map, sizeLine_eq]; omega, fun p hp => ?_⟩
  obtain ⟨r2, g2⟩ := r'.newF (o := .tup ((Cs.map (clsA mg)).map V.ref)) hp
  have ne : a ≠ p := ne_of_none hH hp
  exact ⟨a, _, p, _, _, rfl, by rw [upd_ne ne]; exact hH, hx c hc, upd_same, hk c hc, qo _ e ρ' _ _ _ (g.trans g2) r2 (.bl _)⟩
/-- what is asked of all classes, from what is known of one by one -/
theorem kit_any {K : Fg} {mg : Str → Option Value} {c : Str} {sub : Str → Str → Bool} : ∀ (Cs : List Str), (∀ C ∈ Cs, PySem.W.kitOne K (.ref (clsA mg c)) (.ref (clsA mg C)) = some (sub c C)) → PySem.W.kitAny K (.ref (clsA mg c)) ((Cs.map (clsA mg)).map Value.ref) = some (Cs.any fun C => sub c C)
  | [], _ => rfl
  | C :: Cs, h => by
    have h1 := h C (List.mem_cons_self ..)
    have h2 := kit_any Cs fun D hD => h D (List.mem_cons_of_mem _ hD)
    show (match PySem.W.kitOne K (.ref (clsA mg c)) (.ref (clsA mg C)) with
      | some true => some true
      | some false => PySem.W.kitAny K (.ref (clsA mg c)) ((Cs.map (clsA mg)).map Value.ref)
      | none => none) = _
    rw [h1, List.any_cons]
    cases sub c C with
    | true => rfl
    | false => rw [Bool.false_or]; exact h2
end
/-! x is None, x a thing of one's own -/
def rIsN (K : Fg) : R2 := fun x y H Q => rD2 K IsD x y H Q ∨ ((∃ a, x = .ref a) ∧ y = .non ∧ Q (.bl false) H)
def rNisN (K : Fg) : R2 := fun x y H Q => rD2 K NisD x y H Q ∨ ((∃ a, x = .ref a) ∧ y = .non ∧ Q (.bl true) H)
theorem kIsN {X : Cx} {K : Fg} (hK : X.K = K := by rfl) : OpR X (compareOp .Is) (rIsN K) := by
  subst hK
  intro pins s σ H x y v u Q I rx ry h
  rcases h with h | ⟨⟨a, rfl⟩, rfl, q⟩
  · exact oIs pins s σ H x y v u Q I rx ry h
  · exact op_isN pins s σ H _ _ v u Q I rx ry ⟨rfl, q⟩
theorem kNisN {X : Cx} {K : Fg} (hK : X.K = K := by rfl) : OpR X (compareOp .IsNot) (rNisN K) := by
  subst hK
  intro pins s σ H x y v u Q I rx ry h
  rcases h with h | ⟨⟨a, rfl⟩, rfl, q⟩
  · exact oNis pins s σ H x y v u Q I rx ry h
  · exact op_notN pins s σ H _ _ v u Q I rx ry ⟨rfl, q⟩
def opIsN : Av → Av → Op0 := fun x y S => match x, y with
  | .d a, .d b => (fIs a b).map fun r => (.d r, S)
  | .o _, .d .none => some (.d (.bool false), S)
  | _, _ => none
def opNisN : Av → Av → Op0 := fun x y S => match x, y with
  | .d a, .d b => (fNis a b).map fun r => (.d r, S)
  | .o _, .d .none => some (.d (.bool true), S)
  | _, _ => none
section
variable {P : Program} {wd : World} {K : Fg} {mg : Str → Option Value}
theorem os_IsN : OpS P wd K mg (rIsN K) opIsN := by
  intro ρ S F H hr v w x y hv hw z S' e Q q
  unfold opIsN at e
  split at e
  · exact .inl (os_D fIs_ok ρ S F H hr v w _ _ hv hw z S' e Q q)
  · cases e
    obtain ⟨a, _, rfl⟩ := hv
    cases hw
    exact .inr ⟨⟨a, rfl⟩, rfl, q ρ F H _ Gw.refl hr (.bl false)⟩
  · cases e
theorem os_NisN : OpS P wd K mg (rNisN K) opNisN := by
  intro ρ S F H hr v w x y hv hw z S' e Q q
  unfold opNisN at e
  split at e
  · exact .inl (os_D fNis_ok ρ S F H hr v w _ _ hv hw z S' e Q q)
  · cases e
    obtain ⟨a, _, rfl⟩ := hv
    cases hw
    exact .inr ⟨⟨a, rfl⟩, rfl, q ρ F H _ Gw.refl hr (.bl true)⟩
  · cases e
end
/-! a tuple of things of one's own -/
theorem kIxT {X : Cx} {K : Fg} (hK : X.K = K := by rfl) : IxR X (rIxT K) := by subst hK; exact ix_tup
def opIxT : Av → Av → Op0 := fun x y S => match x, y with
  | .o j, .d (.int n) => match S[j]? with
    | some (.lk (.lst xs)) => (atI xs n).map fun r => (r, S)
    | _ => none
  | _, _ => none
def aTupO (t : AA) : AE := fun σ => bnd (t σ) fun xs S => if xs.length ≤ 1000 then some (.ok (.o S.length), S ++ [.lk (.lst xs)]) else none
section
variable {P : Program} {wd : World} {K : Fg} {mg : Str → Option Value} {W : WX} {tg : TA} {ag : AA}
theorem os_IxT : OpS P wd K mg (rIxT K) opIxT := by
  intro ρ S F H hr v w x y hv hw z S' e Q q
  unfold opIxT at e
  split at e
  · rename_i j n
    split at e
    · rename_i xs hs
      obtain ⟨r, e1, e2⟩ := Option.map_eq_some_iff.mp e
      cases e2
      obtain ⟨a, o, rfl, h1, h2, h3, h4⟩ := hr.at hv hs (fun z => nomatch z)
      rcases h4 with ⟨_, hn⟩ | ⟨n, z, _⟩ | ⟨ys, vs, z, rfl, hv'⟩
      · cases hn
      · cases z
      · cases z
        have hw : Dp K F w (.int n) := hw
        cases hw
        obtain ⟨y, ey, hy⟩ := vrs_at hv' e1
        exact ⟨a, vs, n, y, rfl, rfl, st_of h3, ey, q ρ F H y Gw.refl hr hy⟩
    · cases e
  · cases e
theorem sm_tupO (ha : SimA P wd K mg W tg ag) : SimE P wd K mg W (tTup tg) (aTupO ag) := by
  intro σ σa ρ S F H hr hs rr S' h Q qo qe
  refine ha.bind hr hs h qe fun xs S1 ρ1 F1 H1 vs h g1 r1 v1 => ?_
  split at h
  · rename_i hl
    cases h
    have hlen : vs.length = xs.length := Paired.length v1
    refine ⟨by rw [hlen, sizeLine_eq]; omega, fun p hp => ?_⟩
    obtain ⟨r2, g2⟩ := r1.new (c := .lk (.lst xs)) (o := .tup vs) hp (.inr (.inr ⟨xs, vs, rfl, rfl, L2.Paired.mapP v1 fun _ _ q => q.up ⟨_, rfl⟩ (Ex.refl _)⟩))
    exact qo _ rfl _ _ _ _ (g1.trans g2) r2 ⟨p, by rw [← r1.len]; exact get_new, rfl⟩
  · cases h
end
end Ly
/-! LyZM: list + list into a list of one's own that is changed later. -/
namespace Ly
open PySem PySem.Spec L2 Evl PyProof.Rows
section
variable {X : Cx} {P : Program} {w wd : World} {K : Fg} {mg : Str → Option Value} {W : WX} {ρ : List Addr} {S S' : Sg} {F H : Hp} {σ : L2.St} {σa σa' : Sl} {v : V} {x : Av}
def opAddK : Av → Av → Op0 := fun x y S => match seqL S x, seqL S y with
  | some as, some bs => if as.length + bs.length ≤ 100000 then some (.o S.length, S ++ [.lst ((as ++ bs).map .d)]) else none
  | _, _ => none
theorem os_AddK : OpS P wd K mg (rAddM K) opAddK := by
  intro ρ S F H hr v w x y hv hw z S' e Q q
  unfold opAddK at e
  split at e
  · rename_i as bs e1 e2
    split at e
    · rename_i hl
      cases e
      obtain ⟨a, us, rfl, h1, h2⟩ := seqL_ok hr hv e1
      obtain ⟨b, ws, rfl, h3, h4⟩ := seqL_ok hr hw e2
      refine .inr ⟨a, b, us, ws, rfl, rfl, h2, h4, by rw [h1.length, h3.length]; exact sz_of hl, fun p hp => ?_⟩
      have hv : VRs K ρ F (us ++ ws) ((as ++ bs).map .d) := vrs_of (h1.append h3)
      obtain ⟨r2, g2⟩ := hr.new (c := .lst ((as ++ bs).map .d)) (o := .lst (us ++ ws)) hp ⟨us ++ ws, rfl, L2.Paired.mapP hv fun _ _ q => q.up ⟨_, rfl⟩ (Ex.refl _)⟩
      exact q _ _ _ _ g2 r2 ⟨p, by rw [← hr.len]; exact get_new, rfl⟩
    · cases e
  · cases e
theorem f_addK {S : Sg} {x y : Av} {as bs : List D} (h1 : seqL S x = some as) (h2 : seqL S y = some bs) (hl : as.length + bs.length ≤ 100000) : opAddK x y S = some (.o S.length, S ++ [.lst ((as ++ bs).map .d)]) := by
  unfold opAddK
  rw [h1, h2]
  dsimp only
  rw [if_pos hl]
end
/-- a class that stands under its name, for isinstance alone -/
structure AtM (mg : Str → Option Value) (c : Str) : Prop where
  at_ : mg c = some (.ref (clsA mg c))
end Ly
/-! LyZN: comprehensions over a range within an except suite; a, b = x, y. -/
namespace Ly
open PySem PySem.Spec L2 Evl PyProof.Rows
/-- the suite of a caught exception, which has no context -/
theorem suite_hot {X : Cx} {a : Addr} {oe : Obj} {cls : Value} {d : Option Addr} {pn : List (Addr × Obj)} (hz : L2N.Zn cls d oe) (hf : ∃ vs, oe.data = .fields vs) : L2H.HotC (X.suite a ((a, oe) :: pn)) := by
  obtain ⟨vs, e⟩ := hf
  exact ⟨(a, oe), ⟨rfl, vs, e, hz.2.2 vs e⟩, List.mem_cons_self ..⟩
section
variable {X : Cx}
theorem hot_lc {pins : List (Addr × Obj)} {s : Shared} {σ : L2.St} {H : Hp} {Q : VK} {elt tg iter : Expr} {ifs : List Expr} {scope : Scope} {own : List (Str × Nat)} {pos pos' : Pos} {wi : TI} {g : TG} {tt : TT} {te : TE} {use : Option (Value → Sem Unit)} {Qf : Value → Shared → Prop}
    (hot : L2H.HotC X) (hN : X.N.Nodup) (I : Inv X pins σ H s) (hi : L2H.PIH X tg iter wi) (ok : BlkOk X.N X.env.scope scope own)
    (hg : ∀ (s : Shared) (H : Hp) (C : Addr) (cl : List (Str × Addr)) (fp : List Addr), PG (X.blk s H scope (compEnvC scope cl C X.env) fp) tg g) (ht : ∀ (s : Shared) (H : Hp) (C : Addr) (cl : List (Str × Addr)) (fp : List Addr), PTs (X.blk s H scope (compEnvC scope cl C X.env) fp) ifs tt)
    (he : ∀ (s : Shared) (H : Hp) (C : Addr) (cl : List (Str × Addr)) (fp : List Addr), PE (X.blk s H scope (compEnvC scope cl C X.env) fp) elt te) (hs : ∀ x, foldedSetIterable iter X.env x = pure x)
    (h : tLc wi g tt te (own.map (·.2)) σ H Q)
    (hRR : ∀ D C s' m H', Inv X pins σ H' s' → Q (.ref D) H' → s'.heap.Ns C m → FpOk X pins H' C → compPost (model X.prog X.w) X.A X.xe use Qf (.ref D) C (.ok .next) s') :
    wpAny (model X.prog X.w) X.A (comprehension (.ListComp elt [⟨tg, iter, ifs, 0⟩] scope pos) scope X.env pos' (newList []) false (eval iter X.env) use) Qf X.xe s := by
  obtain ⟨pe0, hot1, hpm⟩ := hot
  refine wpAny_comprehension_free (use := use) rfl hs (closure_ok fun y hy e => ?_) ok.kind (fun y hy e => by rw [ok.uniq y hy, e]) (thn (hi.run pins s σ H _ I h) fun xv s1 hx => thn hx fun itv s2 h2 => ?_)
  · rcases ok.free y hy e with k | k
    · exact I.ok.has _ (.inl k)
    · exact I.ok.has _ (.inr k)
  obtain ⟨it, fp, tn, J, H2, rfl, I2, T, st2, f2, q⟩ := h2
  refine wpAny_newObj_type (newEnv_comp ?_) (by show 0 ≤ sizeLine; decide)
  generalize hD : s2.heap.objs.size = D
  have hDn : H2 D = none := I2.hok.fresh (Nat.le_of_eq hD)
  obtain ⟨W, ⟨m0, w0⟩, turn⟩ := q D hDn
  generalize hs3 : ({ s2 with heap := s2.heap.push { cls := .type "list", data := .seq ([] : List Value).toArray } } : Shared) = s3
  have h3 : s3.heap = s2.heap.push { cls := .type "list", data := .seq ([] : List Value).toArray } := by rw [← hs3]
  have I3 : Inv X pins σ (upd H2 D (.lst [])) s3 := by
    subst hs3
    refine I2.laid (t' := s2.toks) (fun b o e => Heap.get?_push_of_some _ e) (Nat.le_of_eq hD) ⟨Nat.zero_le _, [], 0, .nil, ?_⟩
    subst hD
    exact Heap.get?_push_size _ rfl
  have f3 : ∀ b ∈ fp, FpOk X pins (upd H2 D (.lst [])) b ∧ b < s3.heap.objs.size := fun b hb => by
    obtain ⟨o, e, _⟩ := T.obj _ _ st2 b hb
    have hlt : b < s2.heap.objs.size := Heap.lt_size e
    refine ⟨⟨?_, (f2 b hb).2⟩, by rw [h3, Heap.size_push]; exact Nat.lt_succ_of_lt hlt⟩
    rw [upd_ne (by rw [← hD]; exact Nat.ne_of_lt hlt)]
    exact (f2 b hb).1
  have st3 : tn 0 s3.heap := T.keep _ _ _ st2 fun b _ o e => by rw [h3]; exact Heap.get?_push_of_some _ e
  have I4 := block_start I3 ok hN f3
  have pg := hg s3 (upd H2 D (.lst [])) s3.heap.objs.size (cellsFrom (s3.heap.objs.size + 1) scope.names (cloFrom X.env.cells scope.names [])) fp
  have pt := ht s3 (upd H2 D (.lst [])) s3.heap.objs.size (cellsFrom (s3.heap.objs.size + 1) scope.names (cloFrom X.env.cells scope.names [])) fp
  have pe := he s3 (upd H2 D (.lst [])) s3.heap.objs.size (cellsFrom (s3.heap.objs.size + 1) scope.names (cloFrom X.env.cells scope.names [])) fp
  show codeAny _ _ (.compStart (.ListComp elt [⟨tg, iter, ifs, 0⟩] scope pos) 0 (.ref it) (.ref D) (compEnvC scope (cellsFrom (s3.heap.objs.size + 1) scope.names (cloFrom X.env.cells scope.names [])) s3.heap.objs.size X.env)) (compPost (model X.prog X.w) X.A X.xe use Qf (.ref D) s3.heap.objs.size) { s3 with heap := pushCells (s3.heap.push { cls := .type "dict", data := .dict #[] }) scope.names }
  have nfp : ∀ b ∈ fp, (upd H2 D (.lst [])) b = none := fun b hb => (f3 b hb).1.1
  obtain ⟨pp1, pp2, pp3, pp4, pp5⟩ := I3.pin pe0 (List.mem_append_left _ hpm)
  have pfp : ∀ b ∈ fp, pe0.1 ≠ b := fun b hb => (f3 b hb).1.2.2.2.2.2 pe0 (List.mem_append_left _ hpm)
  have pst : pe0.1 ∉ frs X.stack := fun hm => by
    rcases List.mem_cons.mp (I3.stkSub _ hm) with z | z
    · exact pp3 z
    · exact pp4 z
  generalize hce : compEnvC scope (cellsFrom (s3.heap.objs.size + 1) scope.names (cloFrom X.env.cells scope.names [])) s3.heap.objs.size X.env = ce at I4 pg pt pe ⊢
  have cL : ce.locals = s3.heap.objs.size := by subst hce; rfl
  generalize hH3 : upd H2 D (.lst []) = H3 at I3 I4 pg pt pe w0 nfp f3 pp2
  generalize hs4 : ({ s3 with heap := pushCells (s3.heap.push { cls := .type "dict", data := .dict #[] }) scope.names } : Shared) = s4 at I4 ⊢
  have k34 : ∀ b o, s3.heap.get? b = some o → s4.heap.get? b = some o := fun b o e => by subst hs4; exact pushCells_keeps _ _ _ _ (Heap.get?_push_of_some _ e)
  have st4 : tn 0 s4.heap := T.keep _ _ _ st3 fun b _ o e => k34 b o e
  -- the handled exception stands in the block's states, too
  have J4 : Inv (X.blk s3 H3 scope ce fp) [pe0] (wipe σ (own.map (·.2))) H3 s4 := I4.pins_of fun p hp => by
    obtain rfl : p = pe0 := List.mem_singleton.mp hp
    refine ⟨k34 _ _ pp1, pp2, fun z => ?_, pst, pp5⟩
    have z : p.1 = ce.locals := z
    rw [cL] at z
    exact Nat.lt_irrefl _ (z ▸ Heap.lt_size pp1)
  have stat : ∀ {σ' : L2.St} {H' : Hp} {s' : Shared}, Inv (X.blk s3 H3 scope ce fp) [pe0] σ' H' s' → (∀ b ∈ fp, H' b = none) → ∀ b ∈ fp, FpOk (X.blk s3 H3 scope ce fp) [pe0] H' b := fun {σ' H' s'} I' hn b hb =>
    ⟨hn b hb, (I'.ok.exf b hb).1, I'.ok.exfs b hb, .inl hb, fun x c e => (I'.ok.exf b hb).2 x c e, fun p hp => by
      obtain rfl : p = pe0 := List.mem_singleton.mp hp
      exact pfp b hb⟩
  have hotB : L2H.HotC ((X.blk s3 H3 scope ce fp).tr (([] : List (Addr × Obj)) ++ [pe0]) fun _ _ => False) := ⟨pe0, hot1, List.mem_singleton.mpr rfl⟩
  have loop : codeAny (model X.prog X.w) X.A (.compLoop (.ListComp elt [⟨tg, iter, ifs, 0⟩] scope pos) 0 (.ref it) (.ref D) ce) (compPost (model X.prog X.w) X.A X.xe use Qf (.ref D) s3.heap.objs.size) s4 := by
    refine compLoop_any (fun n s' => ∃ i H', Inv (X.blk s3 H3 scope ce fp) [pe0] (wipe σ (own.map (·.2))) H' s' ∧ tn i s'.heap ∧ (∀ b ∈ fp, H' b = none) ∧ W i n H') ?_ m0 ⟨0, H3, J4, st4, nfp, w0⟩
    rintro n s5 ⟨i, H5, I5, st5, n5, w5⟩
    have statT : ∀ b ∈ fp, FpOk ((X.blk s3 H3 scope ce fp).tr (([] : List (Addr × Obj)) ++ [pe0]) fun _ _ => False) [] H5 b := fun b hb => stat I5 n5 b hb
    have I5t : Inv ((X.blk s3 H3 scope ce fp).tr (([] : List (Addr × Obj)) ++ [pe0]) fun _ _ => False) [] (wipe σ (own.map (·.2))) H5 s5 := Inv.toTry (X := X.blk s3 H3 scope ce fp) (pins := [pe0]) I5 _
    rcases turn i n H5 w5 with ⟨stop, qq⟩ | ⟨go, Nx, hNx, step⟩
    · refine thnF (T.done ((X.blk s3 H3 scope ce fp).tr (([] : List (Addr × Obj)) ++ [pe0]) fun _ _ => False) rfl rfl rfl hotB i [] s5 _ H5 (fun _ _ => False) I5t statT st5 stop) fun r s6 ⟨hr, I6t⟩ => ?_
      subst hr
      have I6 : Inv (X.blk s3 H3 scope ce fp) [pe0] (wipe σ (own.map (·.2))) H5 s6 := Inv.ofTry (X := X.blk s3 H3 scope ce fp) (pins := [pe0]) I6t I5.ok
      have I7 : Inv X pins σ H5 s6 := I3.call' (ch := fp) I6.os I6.base I6.hok I6.bare fun b hb => ⟨(f3 b hb).1.2.2.2.1, (f3 b hb).1.2.1, (f3 b hb).1.2.2.2.2.1, (f3 b hb).1.2.2.2.2.2⟩
      have nC : H5 s3.heap.objs.size = none := by
        have z : H5 ce.locals = none := I6.free
        rwa [cL] at z
      obtain ⟨m, hn, _⟩ := I6.loc
      have hn : s6.heap.Ns ce.locals m := hn
      rw [cL] at hn
      exact hRR D s3.heap.objs.size s6 m H5 I7 qq hn (I3.fpOk (Nat.le_refl _) nC)
    · refine thnF (T.item ((X.blk s3 H3 scope ce fp).tr (([] : List (Addr × Obj)) ++ [pe0]) fun _ _ => False) rfl rfl rfl hotB i [] s5 _ H5 (fun _ _ => False) I5t statT st5 go) fun r s6 ⟨u, hr, h6⟩ => ?_
      subst hr
      refine thnF h6 fun _ s7 ⟨x, H7, I7t, r7, y7, st7, n7⟩ => ?_
      have I7 : Inv (X.blk s3 H3 scope ce fp) [pe0] (wipe σ (own.map (·.2))) H7 s7 := Inv.ofTry (X := X.blk s3 H3 scope ce fp) (pins := [pe0]) I7t I5.ok
      have I7' := I7.pinned (stat I7 n7) (T.obj _ _ st7)
      refine thnF (pg.run _ s7 _ H7 x u _ I7' r7 (step x H7 y7)) fun _ s8 ⟨σ8, H8, I8, hw8, q8⟩ => ?_
      refine thnF (pt.run _ s8 σ8 H8 _ I8 q8) fun b s9 ⟨H9, I9, q9⟩ => ?_
      have fin : ∀ {s' : Shared} {H' : Hp}, Inv (X.blk s3 H3 scope ce fp) ([pe0] ++ pinsAt fp s7.heap) σ8 H' s' → Nx H' → ∃ m, m < n ∧ ∃ i H', Inv (X.blk s3 H3 scope ce fp) [pe0] (wipe σ (own.map (·.2))) H' s' ∧ tn i s'.heap ∧ (∀ b ∈ fp, H' b = none) ∧ W i m H' := fun {s' H'} I' nx => by
        obtain ⟨m', hm, w'⟩ := hNx H' nx
        have pin' : ∀ b ∈ fp, ∀ o, s7.heap.get? b = some o → s'.heap.get? b = some o ∧ H' b = none := fun b hb o e =>
          let z := I'.pin (b, o) (List.mem_append_right _ (List.mem_append_right _ (mem_pinsAt hb e)))
          ⟨z.1, z.2.1⟩
        have hl : (wipe σ (own.map (·.2))).length = σ8.length := by rw [← hw8, wipe_length]
        refine ⟨m', hm, i + 1, H', (I'.unpinned (pins := [pe0])).weak hl (fun j v e => ?_), T.keep _ _ _ st7 fun b hb o e => (pin' b hb o e).1, fun b hb => ?_, w'⟩
        · rw [← hw8] at e
          exact (wipe_some e).1
        · obtain ⟨o, e, _⟩ := T.obj _ _ st7 b hb
          exact (pin' b hb o e).2
      cases b with
      | false =>
        simp only [Bool.false_eq_true, if_false] at q9 ⊢
        exact fin I9 q9
      | true =>
        simp only [if_true] at q9 ⊢
        refine thnF (pe.run _ s9 σ8 H9 _ I9 q9) fun z s10 ⟨yv, H10, I10, r10, acc, hD10, hz10, nx⟩ => ?_
        exact app_ok (X := X.blk s3 H3 scope ce fp) I10 hD10 hz10 r10 fun s11 I11 => fin I11 nx
  exact codeAny_compStart_list loop (T.self X.A 0 _ _ _ st4 loop)
/-- a list made in a suite, as a value -/
theorem pe_lcH {elt tg iter : Expr} {ifs : List Expr} {scope : Scope} {own : List (Str × Nat)} {pos : Pos} {wi : TI} {g : TG} {tt : TT} {te : TE} (hot : L2H.HotC X) (hN : X.N.Nodup) (hi : L2H.PIH X tg iter wi) (ok : BlkOk X.N X.env.scope scope own)
    (hg : ∀ (s : Shared) (H : Hp) (C : Addr) (cl : List (Str × Addr)) (fp : List Addr), PG (X.blk s H scope (compEnvC scope cl C X.env) fp) tg g) (ht : ∀ (s : Shared) (H : Hp) (C : Addr) (cl : List (Str × Addr)) (fp : List Addr), PTs (X.blk s H scope (compEnvC scope cl C X.env) fp) ifs tt)
    (he : ∀ (s : Shared) (H : Hp) (C : Addr) (cl : List (Str × Addr)) (fp : List Addr), PE (X.blk s H scope (compEnvC scope cl C X.env) fp) elt te) (hs : ∀ x, foldedSetIterable iter X.env x = pure x := by intro _; rfl) :
    PE X (.ListComp elt [⟨tg, iter, ifs, 0⟩] scope pos) (tLc wi g tt te (own.map (·.2))) := by
  refine ⟨fun pins s σ H Q I h => ?_⟩
  rw [eval_ListComp]
  refine hot_lc hot hN I hi ok hg ht he hs h fun D C s' m H' I' q hn ⟨f0, f1, _, f3, f4, f5⟩ => ⟨m, hn, fun h'' sb => ?_⟩
  exact ⟨.ref D, H', I'.turned (t' := s'.toks) (fun b o hb e => (sb.2 b hb).trans e) f0 f1 f3 f4 f5, rfl, q⟩
/-- the same, set to a local at once -/
theorem ps_setLcH {i : Nat} {y : Str} {py : Pos} {elt tg iter : Expr} {ifs : List Expr} {scope : Scope} {own : List (Str × Nat)} {pos spos : Pos} {wi : TI} {g : TG} {tt : TT} {te : TE} (hot : L2H.HotC X) (hN : X.N.Nodup) (hy : X.N[i]? = some y) (hyl : X.env.scope.names.lookup y = some .local)
    (hsw : swapsWith (.ListComp elt [⟨tg, iter, ifs, 0⟩] scope pos) (some (.Name y py)) spos.line X.env = pure true) (hi : L2H.PIH X tg iter wi) (ok : BlkOk X.N X.env.scope scope own)
    (hg : ∀ (s : Shared) (H : Hp) (C : Addr) (cl : List (Str × Addr)) (fp : List Addr), PG (X.blk s H scope (compEnvC scope cl C X.env) fp) tg g) (ht : ∀ (s : Shared) (H : Hp) (C : Addr) (cl : List (Str × Addr)) (fp : List Addr), PTs (X.blk s H scope (compEnvC scope cl C X.env) fp) ifs tt)
    (he : ∀ (s : Shared) (H : Hp) (C : Addr) (cl : List (Str × Addr)) (fp : List Addr), PE (X.blk s H scope (compEnvC scope cl C X.env) fp) elt te) (hs : ∀ x, foldedSetIterable iter X.env x = pure x := by intro _; rfl) :
    PS X (.Assign [.Name y py] (.ListComp elt [⟨tg, iter, ifs, 0⟩] scope pos) spos) (tAsg (tLc wi g tt te (own.map (·.2))) (gName i)) := by
  refine ⟨fun pins s σ H D I h => ?_⟩
  rw [exec_Assign_Name_used _ _ _ _ hsw]
  refine wpAny_bind (wpAny_standAt (wpAny_bind ?_))
  show wpAny _ X.A (do let _ ← comprehension (.ListComp elt [⟨tg, iter, ifs, 0⟩] scope pos) scope X.env (firstIterPos [⟨tg, iter, ifs, 0⟩] pos) (newList []) false (eval iter X.env) (some (assign (.Name y py) X.env))) _ _ s
  have h : tLc wi g tt te (own.map (·.2)) σ H (fun x H1 => gName i x σ H1 D.nx) := h
  refine wpAny_bind (thn (hot_lc (Qf := fun _ s' => SP X pins D .next s') hot hN I hi ok hg ht he hs h fun L C s' m H' I' q hn ⟨f0, f1, _, f3, f4, f5⟩ => ?_) fun _ s' hq => wpAny_pure (wpAny_pure hq))
  show wpAny _ _ (assign (.Name y py) X.env (.ref L)) _ _ _
  refine wpAny_assign_Name (store_ok2 (v := V.ref L) I' hN hy (.inl hyl) rfl (fun s2 I2 ⟨a, sb, ha⟩ => ?_) (.inr hyl))
  have haC : C ≠ a := by
    rcases ha with z | z
    · rw [z]; exact f1
    · exact fun e => f4 y a z e.symm
  exact ⟨m, hn.sameBut sb haC, fun h3 sb3 => ⟨_, H', I2.turned (t' := s2.toks) (fun b o hb e => (sb3.2 b hb).trans e) f0 f1 f3 f4 f5, q⟩⟩
end
/-! list(d), d a dict, as a list of one's own -/
section
variable {P : Program} {wd : World} {K : Fg} {mg : Str → Option Value} {ρ : List Addr} {F : Hp}
def cbLstDC : List Av → Op0 := fun xs S => match xs with
  | [.o j] => match S[j]? with
    | some (.dk kvs) => some (.o S.length, S ++ [.lst (kvs.map fun p => .d (keyD p.1))])
    | _ => none
  | _ => none
theorem vrs_keys : ∀ ks : List Key, VRs K ρ F (ks.map kV) (ks.map fun k => Av.d (keyD k))
  | [] => .nil
  | k :: ks => .cons (dp_key k) (vrs_keys ks)
theorem cs_LstDC : CallS P wd K mg (rLstD K) cbLstDC := by
  intro ρ S F H hr vs xs hv z S' e Q q
  unfold cbLstDC at e
  split at e
  · rename_i j
    split at e
    · rename_i kvs ek
      cases e
      obtain ⟨v, rfl, hv1⟩ := vrs1 hv
      obtain ⟨a, ks, rfl, h1, h3, h4⟩ := hr.atK hv1 ek
      refine ⟨a, ks, rfl, .of h3, fun p hp => ?_⟩
      have e1 : (ks.map fun kv => kV kv.1) = (kvs.map (·.1)).map kV := by rw [← kr_keys h4, List.map_map]; rfl
      have e2 : (kvs.map fun kv => Av.d (keyD kv.1)) = (kvs.map (·.1)).map fun k => Av.d (keyD k) := by rw [List.map_map]; rfl
      rw [e1]
      rw [e2] at q
      obtain ⟨r2, g2⟩ := hr.new (c := .lst ((kvs.map (·.1)).map fun k => Av.d (keyD k))) (o := .lst ((kvs.map (·.1)).map kV)) hp ⟨_, rfl, vrs_keys _⟩
      exact q _ _ _ _ g2 r2 ⟨p, by rw [← hr.len]; exact get_new, rfl⟩
    · cases e
  · cases e
end
/-! a, b = x, y: the mirror -/
section
variable {P : Program} {wd : World} {K : Fg} {mg : Str → Option Value} {W : WX} {t : TA} {ag : AA}
def aPar (i j : Nat) (t : AA) : AS := fun σ S => match t σ S with
  | some (.ok [x, y], S1) => some (.nx, (σ.set i (some x)).set j (some y), S1)
  | some (.ex e, S1) => some (.ex e, σ, S1)
  | _ => none
theorem ss_par {i j : Nat} (ha : SimA P wd K mg W t ag) : SimS P wd K mg W (tPar i j t) (aPar i j ag) := by
  intro σ σa ρ S F H hr hs fl σa' S' h D' q
  unfold aPar at h
  split at h
  · rename_i x y S1 e
    cases h
    refine ha σ σa ρ S F H hr hs _ _ e _ (fun x' hx ρ1 F1 H1 v g1 r1 v1 => ?_) fun e he => nomatch he
    cases hx
    cases v1 with
    | cons a b =>
      cases b with
      | cons c d =>
        cases d
        exact ⟨_, _, rfl, q ρ1 F1 H1 _ g1 r1 (((hs.gw g1).set a).set c)⟩
  · rename_i e0 S1 e
    cases h
    exact ha σ σa ρ S F H hr hs _ _ e _ (fun x' hx => nomatch hx) fun e' he ρ1 F1 H1 c d g1 r1 x1 => by cases he; exact q ρ1 F1 H1 σ c d g1 r1 (hs.gw g1) x1
  · cases h
theorem vpar {i j : Nat} {x y : Av} {σ : Sl} {S S1 : Sg} {t' : AS} {Q : Fl → Sl → Sg → Prop} (ha : ag σ S = some (.ok [x, y], S1)) (k : wS t' ((σ.set i (some x)).set j (some y)) S1 Q) : wS (aSeq (aPar i j ag) t') σ S Q := wseq ⟨.nx, _, _, by unfold aPar; rw [ha], k⟩
theorem wpar {i j : Nat} {x y : Av} {σ : Sl} {S S1 : Sg} {Q : Fl → Sl → Sg → Prop} (ha : ag σ S = some (.ok [x, y], S1)) (k : Q .nx ((σ.set i (some x)).set j (some y)) S1) : wS (aPar i j ag) σ S Q := ⟨.nx, _, _, by unfold aPar; rw [ha], k⟩
end
end Ly
/-! LyZO: list.index of any data; methods of a list that is a cell as it stands. -/
namespace Ly
open PySem L2 Evl PyProof.Rows
open PySem.Spec
inductive IdxLD : D → List D → D → Prop
  | mk (ds : List D) (d : D) (j : Nat) (z : D) (h : SeqAt.shaped (.list ds) = true) (h' : SeqAt.shaped d = true) (hz : ds[j]? = some z) (he : PyData.eqv z d = true) (hn : ∀ (m : Nat) (z' : D), m < j → ds[m]? = some z' → PyData.eqv z' d = false) : IdxLD (.list ds) [d] (.int (j : Nat))
section
variable {X : Cx} {K : Fg}
theorem mIndexL (hu : X.A.units + 65 < cLine) (hK : X.K = K := by rfl) : MtR X "list.index" (rDm K IdxLD) := by
  subst hK
  intro pins s σ H x xs v us Q I rx rxs h
  obtain ⟨F, d0, ds0, z0, fh, hl, hxs0, hR, q⟩ := h
  obtain ⟨ds, d, j, z, sl, sd, hz, he, hn⟩ := hR
  obtain ⟨y, rfl, hy⟩ := dps1 hxs0
  have hy := hy.up fh
  have hl := hl.up fh
  cases hl with
  | lst hs ha => exact mt_indexD hu pins s σ H _ _ v us Q I rx rxs ⟨_, y, d, ds, j, z, rfl, rfl, .lst hs ha, hy, sl, sd, hz, he, hn, q.sc fh rfl⟩
end
def fIndexL : D → List D → Option D
  | .list ds, [d] => if SeqAt.shaped (.list ds) = true ∧ SeqAt.shaped d = true then (ds.findIdx? fun z => PyData.eqv z d).map fun j : Nat => .int (j : Nat) else none
  | _, _ => none
theorem fIndexL_ok : ∀ d ds r, fIndexL d ds = some r → IdxLD d ds r := by
  intro d ds r h
  unfold fIndexL at h
  split at h
  · rename_i ds d
    split at h
    · rename_i q
      obtain ⟨j, e, rfl⟩ := Option.map_eq_some_iff.mp h
      obtain ⟨hj, h1, h2⟩ := List.findIdx?_eq_some_iff_getElem.mp e
      refine .mk _ _ j ds[j] q.1 q.2 (List.getElem?_eq_getElem hj) h1 fun m z' hm hz => ?_
      have hml : m < ds.length := by omega
      rw [List.getElem?_eq_getElem hml] at hz
      cases hz
      simpa using h2 m hm
    · cases h
  · cases h
theorem fIndexL_sc : ∀ a ds r, fIndexL a ds = some r → isSc r = true := by
  intro a ds r h
  unfold fIndexL at h
  split at h
  · split at h
    · obtain ⟨j, e, rfl⟩ := Option.map_eq_some_iff.mp h; rfl
    · cases h
  · cases h
/-- a method that only looks, of a list as it stands -/
def bmN (f : D → List D → Option D) : Av → List Av → Op0 := fun x xs S => match dvn 4 S x, dvs S xs with
  | some a, some ds => (f a ds).map fun r => (.d r, S)
  | _, _ => none
section
variable {P : Program} {w wd : World} {K : Fg} {mg : Str → Option Value} {W : WX}
theorem ms_N {R : D → List D → D → Prop} {f : D → List D → Option D} (h : ∀ a ds r, f a ds = some r → R a ds r) (hsc : ∀ a ds r, f a ds = some r → isSc r = true) : MtS P wd K mg (rDm K R) (bmN f) := by
  intro ρ S F H hr v x vs xs hv hvs z S' e Q q
  unfold bmN at e
  split at e
  · rename_i a ds e0 e1
    obtain ⟨r, e3, e4⟩ := Option.map_eq_some_iff.mp e
    cases e4
    exact ⟨H, a, ds, r, Ex.refl H, dvn_ok hr _ _ _ _ e0 hv, dvs_ok hr _ _ _ e1 hvs, h _ _ _ e3, fun u F2 H2 g hu => q ρ F H2 u (hr.grH g).2 (hr.grH g).1 (sc_up (hsc _ _ _ e3) hu)⟩
  · cases e
end
theorem f_bmN {f : D → List D → Option D} {S : Sg} {j : Nat} {ds es : List D} {xs : List Av} {r : D} (h : S[j]? = some (.lst (ds.map .d))) (h1 : dvs S xs = some es) (h2 : f (.list ds) es = some r) : bmN f (.o j) xs S = some (.d r, S) := by
  have : dvn 4 S (.o j) = some (.list ds) := dvn_lst h
  unfold bmN; rw [this, h1]; dsimp only; rw [h2]; rfl
end Ly
/-! LyZP: dict(xs) of a list of pairs whose keys are of any shape, no key twice. -/
namespace Vd
open PySem PySem.Spec L2 PyProof.Rows
theorem vk_at {P : Program} {w : World} {h h' : Heap} {k : Vk} {v : Value} (x : vkIs P w h k v) (hk : ∀ a o, h.get? a = some o → o.cls = .type "tuple" → h'.get? a = some o) : vkIs P w h' k v := by
  cases k with
  | a o => exact x
  | t ks =>
    obtain ⟨b, rfl, o, its, n, h1, h2, h3, h4⟩ := x
    exact ⟨b, rfl, o, its, n, hk b o h1 h2, h2, h3, h4⟩
theorem dv_at {P : Program} {w : World} {h h' : Heap} {d : Addr} {xs : Ent Vk} (x : DictV (vkind P w) h d xs) (hd : ∀ o, h.get? d = some o → h'.get? d = some o) (hk : ∀ a o, h.get? a = some o → o.cls = .type "tuple" → h'.get? a = some o) : DictV (vkind P w) h' d xs := by
  obtain ⟨o, es, ep, h1, h2, h3, h4, h5, h6⟩ := x
  exact ⟨o, es, ep, hd o h1, h2, h3, h4, fun y hy => vk_at (h5 y hy) hk, h6⟩
section
variable {prog : Program} {w : World} {A : Around} {E : Value → Shared → Prop}
/-- the walk over the pairs -/
theorem upd_loop {R : Result → Shared → Prop} {S I l : Addr} {items : Array Value} {res : Value} (hh : A.handled = none) (hu : A.units + 1 < cLine) (hlI : l ≠ I) (hSI : S ≠ I) (hSl : S ≠ l) :
    ∀ (rest : Ent Vk) (i : Nat) (acc : Ent Vk) (ix : Int) (t : Tok) (s : Shared), items.size = i + rest.length → acc.length + rest.length ≤ sizeLine → ((acc ++ rest).map (·.1)).Nodup →
      (∀ (j : Nat) (q : Vk × Value × Value), rest[j]? = some q → ∃ b : Addr, items[i + j]? = some (.ref b) ∧ b ≠ S ∧ b ≠ I ∧ IsTup s.heap b #[q.2.1, q.2.2] ∧ vkIs prog w s.heap q.1 q.2.1) →
      s.heap.IsListIter I l i → s.heap.IsList l items → DictV (vkind prog w) s.heap S acc →
      (∀ h' tk, DictV (vkind prog w) h' S (acc ++ rest) → (∀ b o, b ≠ S → b ≠ I → s.heap.get? b = some o → h'.get? b = some o) → R (.ok (.ret res)) { s with heap := h', toks := tk }) →
      codeAny (model prog w) A (.builtin "dict.update.loop" ⟨[.ref S, .ref I, .int ix t, res], []⟩) R s
  | [], i, acc, ix, t, s, hsz, hln, hnd, ht, hit, hl, hm, hR => by
    refine codeAny_builtin ud_entry ?_
    rw [Around.under_plainId ud_plain _]
    have hit0 := hit
    show wpAny _ A.in1 (pyNext (.ref I) >>= _) _ _ s
    refine wpAny_bind (wpAny_pyNext_list_end (A := A.in1) hh hit hl (by first | exact Array.getElem?_eq_none (Nat.le_of_eq hsz) | (simp at hsz; simp; omega)) fun h' he => ?_)
    show wpAny _ A.in1 (Builtin.Dict.addKeywords S [] >>= _) _ _ _
    refine wpAny_bind (wpAny_pure (wpAny_pure ?_))
    have nI : ∀ a o, s.heap.get? a = some o → o.cls = .type "tuple" → a ≠ I := fun a o h1 h2 e => by
      obtain ⟨oi, h3, h4, _⟩ := hit0
      rw [e, h3] at h1
      cases h1
      rw [h4] at h2
      exact absurd h2 (by decide)
    have := hR h' s.toks (by rw [List.append_nil]; exact dv_at hm (fun o e => he S o hSI e) fun a o h1 h2 => he a o (nI a o h1 h2) h1) fun b o _ hb e => he b o hb e
    exact this
  | q :: rest, i, acc, ix, t, s, hsz, hln, hnd, ht, hit, hl, hm, hR => by
    obtain ⟨b, hb, hbS, hbI, htup, hk⟩ := ht 0 q rfl
    rw [List.length_cons] at hsz hln
    have nI : ∀ a o, s.heap.get? a = some o → o.cls = .type "tuple" → a ≠ I := fun a o h1 h2 e => by
      obtain ⟨oi, h3, h4, _⟩ := hit
      rw [e, h3] at h1
      cases h1
      rw [h4] at h2
      exact absurd h2 (by decide)
    refine codeAny_builtin ud_entry ?_
    rw [Around.under_plainId ud_plain _]
    show wpAny _ A.in1 (pyNext (.ref I) >>= _) _ _ s
    refine wpAny_bind (wpAny_pyNext_list_item (x := .ref b) hit hl (by simpa using hb) fun h1 hit1 hs1 => ?_)
    have k1 : ∀ a o, s.heap.get? a = some o → o.cls = .type "tuple" → h1.get? a = some o := fun a o g1 g2 => hs1.extBut a o (nI a o g1 g2) g1
    have ht1 : IsTup h1 b #[q.2.1, q.2.2] := htup.extBut hs1.extBut hbI
    have hl1 : h1.IsList l items := hl.extBut hs1.extBut hlI
    have hm1 : DictV (vkind prog w) h1 S acc := dv_at hm (fun o e => hs1.extBut S o hSI e) k1
    obtain ⟨o, ho, hc, n, hd⟩ := id ht1
    show wpAny _ A.in1 (holding [Value.ref b] _ >>= _) _ _ _
    refine wpAny_bind (wpAny_holding ?_)
    refine wpAny_bind (wpAny_tryCatch ?_)
    unfold Builtin.Dict.pairItems
    refine wpAny_bind (wpAny_typeOf (T := "tuple") ⟨o, ho, hc⟩ ?_)
    rw [if_pos (by first | decide | rfl | simp)]
    refine wpAny_bind (wpAny_seqItems ho hd (wpAny_pure ?_))
    show wpAny _ A.in1 (holding [q.2.1, q.2.2] (dictSet S q.2.1 q.2.2)) _ _ _
    have hno : q.1 ∉ acc.map (·.1) := fun hc => by
      rw [List.map_append, List.nodup_append] at hnd
      exact hnd.2.2 _ hc q.1 (by simp) rfl
    have hst : storedV acc q.1 q.2.1 q.2.2 = acc ++ [q] := by
      have : atK acc q.1 = none := atK_none fun j p e => hno (List.mem_map.mpr ⟨(q.1, p), List.mem_of_getElem? e, rfl⟩)
      rw [storedV_new this]
    refine wpAny_holding (dset (knd := vkind prog w) (k := q.1) (room1 hu) (vk_at hk k1) hm1 (fun h2 hm2 hs2 => ?_) (by omega))
    rw [hst] at hm2
    have nS : ∀ a o, h1.get? a = some o → o.cls = .type "tuple" → a ≠ S := fun a o g1 g2 e => by
      obtain ⟨od, _, _, g3, g4, _⟩ := hm1
      rw [e, g3] at g1
      cases g1
      rw [g4.1] at g2
      exact absurd g2 (by decide)
    have k2 : ∀ a o, h1.get? a = some o → o.cls = .type "tuple" → h2.get? a = some o := fun a o g1 g2 => hs2.extBut a o (nS a o g1 g2) g1
    refine wpAny_pure ⟨plainId_quiet ud_plain _, upd_loop (items := items) hh hu hlI hSI hSl rest (i + 1) (acc ++ [q]) (ix + 1) 0 _ (show items.size = i + 1 + rest.length by omega) ?_ (by rw [List.append_assoc]; exact hnd) (fun j q' e => ?_) ?_ ?_ hm2 fun h' tk hd' k => ?_⟩
    · rw [List.length_append, List.length_singleton]
      omega
    · obtain ⟨b', hb', hbS', hbI', htup', hk'⟩ := ht (j + 1) q' (by simpa using e)
      refine ⟨b', ?_, hbS', hbI', (htup'.extBut hs1.extBut hbI').extBut hs2.extBut hbS', vk_at (vk_at hk' k1) k2⟩
      rw [show i + 1 + j = i + (j + 1) by omega]
      exact hb'
    · exact hit1.at fun o' e => hs2.extBut I o' (Ne.symm hSI) e
    · exact hl1.extBut hs2.extBut (Ne.symm hSl)
    · rw [List.append_assoc] at hd'
      exact hR h' tk hd' fun c oc h3 h4 e => k c oc h3 h4 (hs2.extBut c oc h3 (hs1.extBut c oc h4 e))
/-- dict(l) of a list of pairs -/
theorem call_dict_pairs {s : Shared} {l : Addr} {ol : Obj} {items : Array Value} {n : Nat} {prs : Ent Vk} {Q : Value → Shared → Prop} (hh : A.handled = none) (hu : A.units + 2 < cLine) (hl : s.heap.get? l = some ol) (hc : ol.cls = .type "list") (hd : ol.dict = none)
    (hdat : ol.data = .seq items n) (hsz : items.size = prs.length) (hln : prs.length ≤ sizeLine) (hnd : (prs.map (·.1)).Nodup)
    (ht : ∀ (j : Nat) (q : Vk × Value × Value), prs[j]? = some q → ∃ b : Addr, items[j]? = some (.ref b) ∧ IsTup s.heap b #[q.2.1, q.2.2] ∧ vkIs prog w s.heap q.1 q.2.1)
    (h : ∀ h' tk, DictV (vkind prog w) h' s.heap.objs.size prs → (∀ b o, s.heap.get? b = some o → h'.get? b = some o) → Q (.ref s.heap.objs.size) { s with heap := h', toks := tk }) :
    wpAny (model prog w) A (call (.type "dict") [.ref l]) Q E s := by
  refine callType_codes (Q₁ := fun obj s₁ => obj = .ref s.heap.objs.size ∧ s₁ = { s with heap := s.heap.push { cls := .type "dict", data := .dict #[] } }) PySem.F.kt_called_dict (PySem.F.kt_typeCall_dict_1 _) PySem.F.entry_dict_init (kt_code_dict_new _ ⟨rfl, rfl⟩) ?_
  rintro obj s₁ ⟨rfl, rfl⟩
  have hnew : DictV (vkind prog w) (s.heap.push { cls := .type "dict", data := .dict #[] }) s.heap.objs.size [] := DictV.new s.heap
  have k0 : ∀ b o, s.heap.get? b = some o → (s.heap.push { cls := .type "dict", data := .dict #[] }).get? b = some o := fun b o e => Heap.get?_push_of_some _ e
  have hty : ({ s with heap := s.heap.push { cls := .type "dict", data := .dict #[] } } : Shared).TypeIs (.ref s.heap.objs.size) "dict" := DictV.typeIs (s := { s with heap := s.heap.push { cls := .type "dict", data := .dict #[] } }) hnew
  refine ⟨hty, PySem.F.args_dict_init_2 _ _, ?_⟩
  unfold Builtin.«dict.__init__»
  refine wpAny_bind ?_
  unfold Builtin.Dict.selfAndRest
  refine wpAny_bind (wpAny_notOrdered_dict hty ?_)
  show wpAny _ _ (pure (s.heap.objs.size, [Value.ref l])) _ _ _
  refine wpAny_pure ?_
  show wpAny _ _ (Builtin.Dict.updateFrom "dict.__init__" s.heap.objs.size (.ref l) [] .none) _ _ _
  unfold Builtin.Dict.updateFrom
  refine wpAny_bind (wpAny_typeOf (T := "list") ⟨ol, k0 _ _ hl, hc⟩ ?_)
  rw [if_pos (by first | decide | rfl | simp)]
  refine wpAny_bind (miss_list (k0 _ _ hl) hc hdat hd hh fun h1 tk1 hk1 => ?_)
  rw [if_pos (show (none : Option Value).isNone = true from rfl)]
  refine wpAny_bind (wpAny_rule ?_)
  have hl1 : h1.IsList l items := ⟨ol, hk1 _ _ (k0 _ _ hl), hc, n, hdat⟩
  have hS1 : s.heap.objs.size < h1.objs.size := by
    have e : (s.heap.push { cls := .type "dict", data := .dict #[] }).get? s.heap.objs.size = some { cls := .type "dict", data := .dict #[] } := Heap.get?_push_size _ rfl
    exact Heap.lt_size (hk1 _ _ e)
  refine wpAny_bind (wpAny_pyIter_list hl1 ?_)
  have k2 : ∀ b o, h1.get? b = some o → (h1.push { cls := .type "list_iterator", data := .fields #[.ref l, .int 0 0] }).get? b = some o := fun b o e => Heap.get?_push_of_some _ e
  have kAll : ∀ b o, s.heap.get? b = some o → (h1.push { cls := .type "list_iterator", data := .fields #[.ref l, .int 0 0] }).get? b = some o := fun b o e => k2 _ _ (hk1 _ _ (k0 _ _ e))
  have hlt : l < s.heap.objs.size := Heap.lt_size hl
  have key := upd_loop (prog := prog) (w := w) (A := A.in1) (R := wants (fun r s₂ => r = .none ∧ Q (.ref s.heap.objs.size) s₂) E) (S := s.heap.objs.size) (I := h1.objs.size) (l := l) (items := items) (res := Value.none) hh (show A.units + 1 + 1 < cLine by omega)
    (Nat.ne_of_lt (Nat.lt_trans hlt hS1)) (Nat.ne_of_lt hS1) (Nat.ne_of_gt hlt) prs 0 [] 0 0
    { s with heap := h1.push { cls := .type "list_iterator", data := .fields #[.ref l, .int 0 0] }, toks := tk1 } (by rw [hsz, Nat.zero_add]) (by rw [List.length_nil, Nat.zero_add]; exact hln) hnd
    (fun j q e => by
      obtain ⟨b, e1, e2, e3⟩ := ht j q e
      have hb : b < s.heap.objs.size := e2.lt
      exact ⟨b, by rw [Nat.zero_add]; exact e1, Nat.ne_of_lt hb, Nat.ne_of_lt (Nat.lt_trans hb hS1), e2.keeps fun c o z => kAll c o z, vk_at e3 fun a o g1 _ => kAll a o g1⟩)
    ⟨_, Heap.get?_push_size _ rfl, rfl, rfl⟩ (hl1.at fun o e => k2 _ _ e) (dv_at hnew (fun o e => k2 _ _ (hk1 _ _ e)) fun a o g1 _ => k2 _ _ (hk1 _ _ g1))
    (fun h' tk hd' k => ⟨rfl, h h' tk hd' fun b o e => k b o (Nat.ne_of_lt (Heap.lt_size e)) (Nat.ne_of_lt (Nat.lt_trans (Heap.lt_size e) hS1)) (kAll _ _ e)⟩)
  first
    | exact wpAny_pure ⟨plainId_quiet ud_plain _, key⟩
    | exact wpAny_bind (wpAny_pure (wpAny_pure ⟨plainId_quiet ud_plain _, key⟩))
end
end Vd
namespace Ly
open PySem PySem.Spec L2 Evl PyProof.Rows
section
variable {X : Cx}
theorem pairs_ofV {pins : List (Addr × Obj)} {σ : L2.St} {H : Hp} {s : Shared} (I : Inv X pins σ H s) : ∀ {ps : List Addr} {kvs : List (Vd.Vk × V × V)}, Paired (fun p kv => SqT X.K H p [kv.2.1, kv.2.2] ∧ KyV X.K H kv.2.1 kv.1) ps kvs →
    ∃ prs : List (Vd.Vk × Value × Value), VXT kvs prs ∧ prs.length = ps.length ∧ ∀ (j : Nat) (q : Vd.Vk × Value × Value), prs[j]? = some q → ∃ b : Addr, ps[j]? = some b ∧ IsTup s.heap b #[q.2.1, q.2.2] ∧ Vd.vkIs X.prog X.w s.heap q.1 q.2.1
  | _, _, .nil => ⟨[], .nil, rfl, fun j q e => by simp at e⟩
  | _, _, .cons (a := p) (b := kv) h t => by
    obtain ⟨prs, r, hl, hp⟩ := pairs_ofV I t
    obtain ⟨its, rv, ht, _⟩ := I.tuple h.1
    obtain ⟨u, y, ei, ru, ry⟩ := vals2 rv
    subst ei
    refine ⟨(kv.1, u, y) :: prs, .cons ⟨rfl, ru, ry⟩ r, by rw [List.length_cons, List.length_cons, hl], fun j q e => ?_⟩
    cases j with
    | zero =>
      have e' : (kv.1, u, y) = q := Option.some.inj e
      subst e'
      exact ⟨p, rfl, ht, keyW I h.2 ru⟩
    | succ j =>
      obtain ⟨b, e1, e2, e3⟩ := hp j q (by simpa using e)
      exact ⟨b, by simpa using e1, e2, e3⟩
def rDictV (P : Program) (w : World) (K : Fg) : List V → Hp → VK → Prop := fun xs H Q => ∃ (a : Addr) (ps : List Addr) (kvs : List (Vd.Vk × V × V)), xs = [.ref a] ∧ SqL K H a (ps.map V.ref) ∧ Paired (fun p kv => SqT K H p [kv.2.1, kv.2.2] ∧ KyV K H kv.2.1 kv.1) ps kvs ∧ (kvs.map (·.1)).Nodup ∧ ∀ p, H p = none → Q (.ref p) (upd H p (.ext (DVf P w p kvs)))
theorem keys_VXT {kvs : List (Vd.Vk × V × V)} {prs : List (Vd.Vk × Value × Value)} (r : VXT kvs prs) : prs.map (·.1) = kvs.map (·.1) := by
  induction r with
  | nil => rfl
  | cons h _ ih => rw [List.map_cons, List.map_cons, ih, h.1]
theorem call_dictV (hcalm : X.calm = true) (hu : X.A.units + 2 < cLine) : CallR X (.type "dict") (rDictV X.prog X.w X.K) := by
  intro pins s σ H xs us Q I r q
  obtain ⟨a, ps, kvs, ex, hq, hp, hn, q⟩ := q
  subst ex
  obtain ⟨u, eu, rx⟩ := vals1 r
  subst eu
  cases rx
  obtain ⟨its, rv, pl, hz⟩ := I.list hq
  have ei := refs_at rv
  subst ei
  rw [List.length_map] at hz
  obtain ⟨prs, rel, hl, hpr⟩ := pairs_ofV I hp
  obtain ⟨o, n, ho, hc, hd, hdat⟩ := pl
  refine Vd.call_dict_pairs (prs := prs) (I.ok.hd hcalm) hu ho hc hd hdat (by simp [hl]) (by rw [hl]; exact hz) (by rw [keys_VXT rel]; exact hn) (fun j q' e => ?_) fun h' tk hd' k => ?_
  · obtain ⟨b, e1, e2, e3⟩ := hpr j q' e
    exact ⟨b, by simp [e1], e2, e3⟩
  · have hm : (s.heap.objs.size == sysModules) = false := beq_eq_false_iff_ne.mpr (Nat.ne_of_gt I.big)
    have hlen : kvs.length ≤ sizeLine := by
      have := Paired.length rel
      rw [this, hl]
      exact hz
    exact ⟨.ref s.heap.objs.size, upd H s.heap.objs.size (.ext (DVf X.prog X.w s.heap.objs.size kvs)), I.laid (t' := tk) k (Nat.le_refl _) (dv_new hlen hm rel hd'), rfl, q _ (I.hok.fresh (Nat.le_refl _))⟩
theorem kDictV {P : Program} {w : World} {K : Fg} (hc : X.calm = true) (hu : X.A.units + 65 < cLine) (hP : X.prog = P := by rfl) (hw : X.w = w := by rfl) (hK : X.K = K := by rfl) : CallR X (.type "dict") (rDictV P w K) := by subst hP hw hK; exact call_dictV hc (by omega)
end
def pairV : D → Option (Vd.Vk × D)
  | .tuple [k, d] => (vkOf k).map fun k => (k, d)
  | _ => none
def pairVs : List D → Option (List (Vd.Vk × D))
  | [] => some []
  | d :: ds => match pairV d, pairVs ds with
    | some p, some ps => some (p :: ps)
    | _, _ => none
def cbDictV : List Av → Op0 := fun xs S => match xs with
  | [x] => match seqL S x with
    | some ds => match pairVs ds with
      | some ps => if (ps.map (·.1)).Nodup then some (.o S.length, S ++ [.dv (ps.map fun p => (p.1, Av.d p.2))]) else none
      | none => none
    | none => none
  | _ => none
section
variable {P : Program} {w wd : World} {K : Fg} {mg : Str → Option Value} {W : WX} {ρ : List Addr} {S S' : Sg} {F H : Hp} {σ : L2.St} {σa σa' : Sl} {X : Cx}
theorem pairsV_ok (hf : Ex F H) : ∀ {us : List V} {ds : List D} {ps : List (Vd.Vk × D)}, DpAll K F us ds → pairVs ds = some ps → ∃ (as : List Addr) (kvs : List (Vd.Vk × V × V)), us = as.map V.ref ∧ Paired (fun p kv => SqT K H p [kv.2.1, kv.2.2] ∧ KyV K H kv.2.1 kv.1) as kvs ∧ kvs.map (·.1) = ps.map (·.1) ∧ ∀ ρ, VTR K ρ F kvs (ps.map fun p => (p.1, Av.d p.2)) := by
  intro us ds ps hd
  induction ds generalizing us ps with
  | nil =>
    intro e
    cases hd
    cases e
    exact ⟨[], [], rfl, .nil, rfl, fun _ => .nil⟩
  | cons d ds ih =>
    intro e
    cases hd with
    | cons h t =>
      unfold pairVs at e
      split at e
      · rename_i p ps' e1 e2
        cases e
        obtain ⟨as, kvs, rfl, h1, h2, h3⟩ := ih t e2
        unfold pairV at e1
        split at e1
        · rename_i k d'
          obtain ⟨kk, ek, rfl⟩ := Option.map_eq_some_iff.mp e1
          cases h with
          | tup s a =>
            obtain ⟨v1, v2, rfl, a1, a2⟩ := dps2 a
            have ky := vkOf_V ek a1
            exact ⟨_ :: as, (kk, v1, v2) :: kvs, rfl, .cons ⟨ex_t hf s, ky.up hf⟩ h1, by rw [List.map_cons, List.map_cons, h2], fun ρ => .cons ⟨rfl, ky, a2⟩ (h3 ρ)⟩
        · cases e1
      · cases e
theorem cs_DictV : CallS P wd K mg (rDictV P wd K) cbDictV := by
  intro ρ S F H hr vs xs hv z S' e Q q
  unfold cbDictV at e
  split at e
  · split at e
    · rename_i ds e1
      split at e
      · rename_i ps e2
        split at e
        · rename_i hn
          cases e
          obtain ⟨v, rfl, hv1⟩ := vrs1 hv
          obtain ⟨a, us, rfl, hd, h⟩ := seqL_ok hr hv1 e1
          obtain ⟨as, kvs, rfl, h1, h2, h3⟩ := pairsV_ok (H := H) hr.fh hd e2
          refine ⟨a, as, kvs, rfl, h, h1, by rw [h2]; exact hn, fun p hp => ?_⟩
          obtain ⟨r2, g2⟩ := hr.new (c := .dv (ps.map fun p => (p.1, Av.d p.2))) (o := .ext (DVf P wd p kvs)) hp ⟨kvs, rfl, h3 _⟩
          exact q _ _ _ _ g2 r2 ⟨p, by rw [← hr.len]; exact get_new, rfl⟩
        · cases e
      · cases e
    · cases e
  · cases e
end
end Ly

namespace My
open PySem L2 Evl Ly
/-! ### the mirrors' words, local -/
local macro_rules | `(tactic| wtm_at "tx") => `(tactic| first | exact tx_D | exact tx_var | exact tx_next | exact tx_cont | exact tx_brk | exact tx_asgD | (apply tx_seq <;> wtm_at "tx"))
local macro_rules | `(tactic| wtm_at "tryx") => `(tactic| (repeat (apply tx_cons (by wtm_at "tx"))); exact tx_nil)
local macro_rules | `(tactic| wtm_at "side") => `(tactic| first | assumption | omega | decide | exact rfl | trivial)
local macro_rules | `(tactic| wtm_at "fd") => `(tactic| first
  | assumption
  | ((with_reducible apply fMul_l); focus (omega; done)) | ((with_reducible apply fMul_r); focus (omega; done)) | ((with_reducible apply fDiv_s); focus (omega; done)) | ((with_reducible apply fMod_s); (wtm_at "side")) | ((with_reducible apply fShr_s); (wtm_at "side"))
  | with_reducible exact fBand_s | ((with_reducible apply fPow_s); focus (decide; done)) | ((with_reducible apply fAdd_str); (wtm_at "side")) | ((with_reducible apply fAdd_tup); (wtm_at "side")) | ((with_reducible apply fAdd_lst); (wtm_at "side"))
  | ((with_reducible apply fLen_str); (wtm_at "side")) | ((with_reducible apply fIx_str) <;> (wtm_at "side")) | ((with_reducible apply fSl_str); (wtm_at "side")) | ((with_reducible apply fIn_list) <;> (wtm_at "side"))
  | ((with_reducible apply fEq_gen) <;> (first | assumption | rfl))
  | exact rfl)
local macro_rules | `(tactic| wtm_at "fo") => `(tactic| first
  | assumption
  | ((with_reducible apply f_D); wtm_at "fd") | ((with_reducible apply f_U); wtm_at "fd") | ((with_reducible apply f_B); (first | assumption | exact rfl); (first | assumption | exact rfl); wtm_at "fd") | ((with_reducible apply f_Bn); (first | assumption | exact rfl); (first | assumption | exact rfl); wtm_at "fd")
  | ((with_reducible apply f_ixD); wtm_at "fd") | ((with_reducible apply f_ixL); exact rfl; (first | assumption | exact rfl))
  | ((with_reducible apply f_lenD); wtm_at "fd") | ((with_reducible apply f_lenC); exact rfl; exact rfl)
  | ((with_reducible apply f_cbD); exact rfl; wtm_at "fd") | ((with_reducible apply f_bmD); exact rfl; wtm_at "fd")
  | ((with_reducible apply f_inF); (first | assumption | exact rfl)) | ((with_reducible apply f_inT); (first | assumption | exact rfl))
  | ((with_reducible apply f_tup); (first | assumption | exact rfl)) | ((with_reducible apply f_lst); (first | assumption | exact rfl))
  | (apply f_mdL; exact rfl; (first | assumption | exact rfl))
  | exact rfl)
local macro_rules | `(tactic| wtm_at "ev") => `(tactic| first
  | assumption
  | ((with_reducible apply e_var); exact rfl)
  | with_reducible exact e_D
  | ((with_reducible apply e_op); wtm_at "ev"; wtm_at "ev"; wtm_at "fo")
  | ((with_reducible apply e_un); wtm_at "ev"; wtm_at "fo")
  | ((with_reducible apply e_callP); wtm_at "evs"; exact rfl; first | assumption | wtm_at "pf")
  | ((with_reducible apply e_callN); wtm_at "evs"; first | assumption | exact rfl; first | assumption | wtm_at "pf"; exact rfl)
  | ((with_reducible apply e_call); wtm_at "evs"; first | assumption | wtm_at "pf")
  | ((with_reducible apply e_cb); wtm_at "evs"; wtm_at "fo")
  | ((with_reducible apply e_bmL); wtm_at "ev"; (first | assumption | exact rfl); wtm_at "evs"; wtm_at "fo")
  | ((with_reducible apply e_bmS); wtm_at "ev"; exact rfl; wtm_at "evs"; wtm_at "fo")
  | ((with_reducible apply e_tup); wtm_at "evs"; exact rfl; focus (simp; done))
  | ((with_reducible apply e_lstF); wtm_at "evs"; exact rfl; focus (simp; done))
  | ((with_reducible apply e_lstC); wtm_at "evs"; focus (simp; done))
  | ((with_reducible apply e_isStr); wtm_at "ev") | ((with_reducible apply e_isInt); wtm_at "ev") | ((with_reducible apply e_isBol); wtm_at "ev") | ((with_reducible apply e_isTup); wtm_at "ev") | ((with_reducible apply e_isLst); wtm_at "ev")
  | ((with_reducible apply e_isi); wtm_at "ev"; (first | assumption | exact rfl); (first | assumption | decide +kernel))
  | ((with_reducible apply e_sl); wtm_at "ev"; wtm_at "evo"; wtm_at "evo"; wtm_at "fd")
  | ((with_reducible apply e_frz); wtm_at "ev"; (first | assumption | exact rfl))
  | ((with_reducible apply e_andV); wtm_at "ev"; intro _; wtm_at "ev") | ((with_reducible apply e_orV); wtm_at "ev"; intro _; wtm_at "ev") | ((with_reducible apply e_notV); wtm_at "ev")
  | ((with_reducible apply e_chain); wtm_at "ev"; wtm_at "ev"; wtm_at "fo"; (intro _; wtm_at "ev"); (intro _; wtm_at "fo"))
  | ((with_reducible apply e_if); wtm_at "evt"; (intro _; wtm_at "ev"); (intro _; wtm_at "ev")))
local macro_rules | `(tactic| wtm_at "evs") => `(tactic| first | with_reducible exact es_nil | ((with_reducible apply es_cons); wtm_at "ev"; wtm_at "evs"))
local macro_rules | `(tactic| wtm_at "evo") => `(tactic| first | with_reducible exact o_N | ((with_reducible apply o_S); wtm_at "ev"))
local macro_rules | `(tactic| wtm_at "evt") => `(tactic| first
  | assumption
  | ((with_reducible apply t_B); wtm_at "ev")
  | ((with_reducible apply t_and); wtm_at "evt"; intro _; wtm_at "evt") | ((with_reducible apply t_or); wtm_at "evt"; intro _; wtm_at "evt") | ((with_reducible apply t_not); wtm_at "evt"))
local macro_rules | `(tactic| wtm_at "evi") => `(tactic| first
  | assumption
  | ((with_reducible apply i_r1); wtm_at "evs"; (wtm_at "side")) | ((with_reducible apply i_r2); wtm_at "evs"; (wtm_at "side"))
  | (apply i_list; wtm_at "ev") | (apply i_tup; wtm_at "ev") | (apply i_str; wtm_at "ev"))

def top (i : Nat) : Stmt := PySem.Challenge.pw_layersplit_k12_places_stay_while_growing.main.body.getD i (.Pass ⟨0, 0, 0, 0⟩)
abbrev s__wall : Stmt := top 0
abbrev N__wall : List Str := ["k"]
theorem sc__wall : FnScope N__wall ["k"] (defScope s__wall) := ⟨rfl, rfl, rfl, by decide +kernel, rfl, by decide +kernel, by decide +kernel⟩
abbrev s_Table___init__ : Stmt := inClass (top 5) 0
abbrev N_Table___init__ : List Str := ["self", "many", "place"]
theorem sc_Table___init__ : FnScope N_Table___init__ ["self", "many"] (defScope s_Table___init__) := ⟨rfl, rfl, rfl, by decide +kernel, rfl, by decide +kernel, by decide +kernel⟩
abbrev s_Table_owner_of : Stmt := inClass (top 5) 1
abbrev N_Table_owner_of : List Str := ["self", "place"]
theorem sc_Table_owner_of : FnScope N_Table_owner_of ["self", "place"] (defScope s_Table_owner_of) := ⟨rfl, rfl, rfl, by decide +kernel, rfl, by decide +kernel, by decide +kernel⟩
abbrev s_Table_places_of : Stmt := inClass (top 5) 2
abbrev N_Table_places_of : List Str := ["self", "owner"]
theorem sc_Table_places_of : FnScope N_Table_places_of ["self", "owner"] (defScope s_Table_places_of) := ⟨rfl, rfl, rfl, by decide +kernel, rfl, by decide +kernel, by decide +kernel⟩
abbrev s_Table_free : Stmt := inClass (top 5) 3
abbrev N_Table_free : List Str := ["self", "place", "holder"]
theorem sc_Table_free : FnScope N_Table_free ["self"] (defScope s_Table_free) := ⟨rfl, rfl, rfl, by decide +kernel, rfl, by decide +kernel, by decide +kernel⟩
abbrev s_Table_give_back : Stmt := inClass (top 5) 4
abbrev N_Table_give_back : List Str := ["self", "owner", "number", "kept", "back", "place"]
theorem sc_Table_give_back : FnScope N_Table_give_back ["self", "owner", "number"] (defScope s_Table_give_back) := ⟨rfl, rfl, rfl, by decide +kernel, rfl, by decide +kernel, by decide +kernel⟩
abbrev s_Table_take : Stmt := inClass (top 5) 5
abbrev N_Table_take : List Str := ["self", "owner", "number", "kept", "place"]
theorem sc_Table_take : FnScope N_Table_take ["self", "owner", "number"] (defScope s_Table_take) := ⟨rfl, rfl, rfl, by decide +kernel, rfl, by decide +kernel, by decide +kernel⟩
abbrev s_Table_told : Stmt := inClass (top 5) 6
abbrev N_Table_told : List Str := ["self", "wanted", "room", "owner", "number", "back"]
theorem sc_Table_told : FnScope N_Table_told ["self", "wanted"] (defScope s_Table_told) := ⟨rfl, rfl, rfl, by decide +kernel, rfl, by decide +kernel, by decide +kernel⟩
abbrev s__law_cell_at : Stmt := top 7
abbrev N__law_cell_at : List Str := ["_law_script", "_law_k"]
theorem sc__law_cell_at : FnScope N__law_cell_at ["_law_script", "_law_k"] (defScope s__law_cell_at) := ⟨rfl, rfl, rfl, by decide +kernel, rfl, by decide +kernel, by decide +kernel⟩
abbrev s__law_mixed : Stmt := top 8
abbrev N__law_mixed : List Str := ["_law_script", "_law_k", "_law_salt", "_law_cell", "_law_lap", "_law_near"]
theorem sc__law_mixed : FnScope N__law_mixed ["_law_script", "_law_k", "_law_salt"] (defScope s__law_mixed) := ⟨rfl, rfl, rfl, by decide +kernel, rfl, by decide +kernel, by decide +kernel⟩
abbrev s__law_whole : Stmt := top 9
abbrev N__law_whole : List Str := ["_law_found"]
theorem sc__law_whole : FnScope N__law_whole ["_law_found"] (defScope s__law_whole) := ⟨rfl, rfl, rfl, by decide +kernel, rfl, by decide +kernel, by decide +kernel⟩
abbrev s__law_owner : Stmt := top 10
abbrev N__law_owner : List Str := ["_law_number", "_law_k", "_law_stem", "_law_at", "_law_name"]
theorem sc__law_owner : FnScope N__law_owner ["_law_number", "_law_k"] (defScope s__law_owner) := ⟨rfl, rfl, rfl, by decide +kernel, rfl, by decide +kernel, by decide +kernel⟩
abbrev s__law_asked : Stmt := top 11
abbrev N__law_asked : List Str := ["_law_table", "_law_wanted_here", "_law_found", "_law_handed"]
theorem sc__law_asked : FnScope N__law_asked ["_law_table", "_law_wanted_here"] (defScope s__law_asked) := ⟨rfl, rfl, rfl, by decide +kernel, rfl, by decide +kernel, by decide +kernel⟩
abbrev s__law_wanted : Stmt := top 12
abbrev N__law_wanted : List Str := ["_law_script", "_law_k", "_law_some", "_law_many", "_law_number", "_law_order", "_law_wanted_here", "_law_j", "_law_more", "_law_owner_here", "_law_count"]
theorem sc__law_wanted : FnScope N__law_wanted ["_law_script", "_law_k", "_law_some", "_law_many"] (defScope s__law_wanted) := ⟨rfl, rfl, rfl, by decide +kernel, rfl, by decide +kernel, by decide +kernel⟩
abbrev s__law_stays : Stmt := top 13
abbrev N__law_stays : List Str := ["_law_owner_here", "_law_ahead", "_law_behind", "_law_number", "_law_fresh", "_law_kept", "_law_place"]
theorem sc__law_stays : FnScope N__law_stays ["_law_owner_here", "_law_ahead", "_law_behind", "_law_number", "_law_fresh"] (defScope s__law_stays) := ⟨rfl, rfl, rfl, by decide +kernel, rfl, by decide +kernel, by decide +kernel⟩
abbrev s__law_right : Stmt := top 14
abbrev N__law_right : List Str := ["_law_table", "_law_some", "_law_wanted_here", "_law_ahead", "_law_owner_here", "_law_fresh", "_law_back", "_law_gone", "_law_numbers", "_law_number"]
theorem sc__law_right : FnScope N__law_right ["_law_table", "_law_some", "_law_wanted_here"] (defScope s__law_right) := ⟨rfl, rfl, rfl, by decide +kernel, rfl, by decide +kernel, by decide +kernel⟩
abbrev s_law : Stmt := top 15
abbrev N_law : List Str := ["_law_script", "_law_number", "_law_many", "_law_k", "_law_some", "_law_table"]
theorem sc_law : FnScope N_law ["_law_script"] (defScope s_law) := ⟨rfl, rfl, rfl, by decide +kernel, rfl, by decide +kernel, by decide +kernel⟩
def allX : List Str := ["NoRoom"]
def hX : List Str := ["NoRoom"]
def subX (a b : Str) : Bool := decide ((a, b) ∈ ([("NoRoom", "NoRoom")] : List (Str × Str)))
structure G (K : Fg) (mg : Str → Option Value) : Prop where
  b_bool : mg "bool" = none
  b_dict : mg "dict" = none
  b_enumerate : mg "enumerate" = none
  b_int : mg "int" = none
  b_isinstance : mg "isinstance" = none
  b_len : mg "len" = none
  b_list : mg "list" = none
  b_max : mg "max" = none
  b_min : mg "min" = none
  b_range : mg "range" = none
  b_sorted : mg "sorted" = none
  cl_Table : ClM K mg "Table"
  ex_NoRoom : ExM K mg "NoRoom" veB
  at_holders : CA K mg ["Table"] "holders"
  at_lists : CA K mg ["Table"] "lists"
  xm : XMs K mg allX hX subX
  f__wall : Df K mg "_wall" s__wall ["k"]
  f_Table___init__ : DfM K mg "Table" "__init__" "Table.__init__" s_Table___init__ ["self", "many"]
  f_Table_owner_of : DfM K mg "Table" "owner_of" "Table.owner_of" s_Table_owner_of ["self", "place"]
  f_Table_places_of : DfM K mg "Table" "places_of" "Table.places_of" s_Table_places_of ["self", "owner"]
  f_Table_free : DfM K mg "Table" "free" "Table.free" s_Table_free ["self"]
  f_Table_give_back : DfM K mg "Table" "give_back" "Table.give_back" s_Table_give_back ["self", "owner", "number"]
  f_Table_take : DfM K mg "Table" "take" "Table.take" s_Table_take ["self", "owner", "number"]
  f_Table_told : DfM K mg "Table" "told" "Table.told" s_Table_told ["self", "wanted"]
  f__law_cell_at : Df K mg "_law_cell_at" s__law_cell_at ["_law_script", "_law_k"]
  f__law_mixed : Df K mg "_law_mixed" s__law_mixed ["_law_script", "_law_k", "_law_salt"]
  f__law_whole : Df K mg "_law_whole" s__law_whole ["_law_found"]
  f__law_owner : Df K mg "_law_owner" s__law_owner ["_law_number", "_law_k"]
  f__law_asked : Df K mg "_law_asked" s__law_asked ["_law_table", "_law_wanted_here"]
  f__law_wanted : Df K mg "_law_wanted" s__law_wanted ["_law_script", "_law_k", "_law_some", "_law_many"]
  f__law_stays : Df K mg "_law_stays" s__law_stays ["_law_owner_here", "_law_ahead", "_law_behind", "_law_number", "_law_fresh"]
  f__law_right : Df K mg "_law_right" s__law_right ["_law_table", "_law_some", "_law_wanted_here"]
  f_law : Df K mg "law" s_law ["_law_script"]
theorem xms {K : Fg} {mg : Str → Option Value} (g : G K mg) (hs : List Str) (h : ∀ x ∈ hs, x ∈ hX) : XMs K mg allX hs subX := fun c hc x hx => g.xm c hc x (h x hx)
section
variable {P : Program} {w : World} {K : Fg} {mg : Str → Option Value} {base : Heap}
noncomputable def B__wall : AS := (aWhile (aB (aD (.bool true))) aNext)
noncomputable def A__wall : AF := aDef 1 1 B__wall
theorem ok__wall (g : G K mg) : DkA P w K mg base 1 "_wall" ["k"] A__wall := g.f__wall.dkA sc__wall fun f cdv A outer s H E hr => ⟨_, (pss_one (ps_while (passes_of rfl) (pt_val pe_bl)
    (pss_one ps_pass))),
    (ss_while (st_B sm_bl) ss_next)⟩
noncomputable def B_Table___init__ : AS := (aSeq (aSetF ["Table"] "holders" (aVar 0) (aLc lcC (aiR1 (aCons (aVar 1) aNil)) (agName 2) aYes (aD .none) [2]))
    (aSetF ["Table"] "lists" (aVar 0) aDNewV))
noncomputable def A_Table___init__ : AF := aDef 2 3 B_Table___init__
theorem ok_Table___init__ (g : G K mg) : DkM P w K mg base 1 "Table" "__init__" ["self", "many"] A_Table___init__ := g.f_Table___init__.dkM sc_Table___init__ fun f cdv A outer s H E hr => ⟨_, (pss_cons (ps_fld (pv 0) (pe_lc (own := [("place", 2)]) (g := gName 2) rfl sc_Table___init__.nd (pi_range1 (by rfl) g.b_range (pa_cons (pv 1) pa_nil)) (blkOk_by (own := [("place", 2)]) (N := N_Table___init__) (sc := defScope s_Table___init__) (by decide +kernel)) (fun _ _ _ _ _ => (pg_name (i := 2) sc_Table___init__.nd rfl (Or.inl rfl))) (fun _ _ _ _ _ => pts_nil) (fun _ _ _ _ _ => pe_non)) rfl)
    (pss_one (ps_fld (pv 0) pe_dnewV rfl))),
    (ss_seq (ss_fld g.at_holders sm_var (sm_lc mk_C (si_r1 (sa_cons sm_var sa_nil)) sg_name (gw_name (gw1 2)) st_yes sm_non))
    (ss_fld g.at_lists sm_var sm_dnewV))⟩
noncomputable def B_Table_places_of : AS := (aRet (aCB cbLstF (aCons (aBMX bGet2 (aFld ["Table"] "lists" (aVar 0)) (aCons (aVar 1) (aCons (aLstF aNil) aNil))) aNil)))
noncomputable def A_Table_places_of : AF := aDef 2 2 B_Table_places_of
theorem ok_Table_places_of (g : G K mg) : DkM P w K mg base 1 "Table" "places_of" ["self", "owner"] A_Table_places_of := g.f_Table_places_of.dkM sc_Table_places_of fun f cdv A outer s H E hr => ⟨_, (pss_one (ps_ret (bt (kLstL (K := K)) g.b_list (pa_cons (pe_bmX (P := P) (w := w) (K := K) PySem.F.slot_dict_get PySem.F.type_dict_get (mtx_get2 (hu_of hr)) (pe_fld (pv 0) rfl) (pa_cons (pv 1) (pa_cons (pe_lst pa_nil) pa_nil))) pa_nil)))),
    (ss_ret (sm_cb cs_LstF (sa_cons (sm_bmX ms_get2 (sm_fld g.at_lists sm_var) (sa_cons sm_var (sa_cons (sm_lstF sa_nil) sa_nil))) sa_nil)))⟩
noncomputable def B_Table_free : AS := (aRet (aLc lcF (aiEnum (aCons (aFld ["Table"] "holders" (aVar 0)) aNil)) (agTup 2 (agCons (agName 1) (agCons (agName 2) agNil))) (aB (aOp (opD fIs) (aVar 2) (aD .none))) (aVar 1) [1, 2]))
noncomputable def A_Table_free : AF := aDef 1 3 B_Table_free
theorem ok_Table_free (g : G K mg) : DkM P w K mg base 1 "Table" "free" ["self"] A_Table_free := g.f_Table_free.dkM sc_Table_free fun f cdv A outer s H E hr => ⟨_, (pss_one (ps_ret (pe_lc (own := [("place", 1), ("holder", 2)]) (g := gTup K 2 (gCons (gName 1) (gCons (gName 2) gNil))) rfl sc_Table_free.nd (pi_enum (by rfl) g.b_enumerate (pa_cons (pe_fld (pv 0) rfl) pa_nil)) (blkOk_by (own := [("place", 1), ("holder", 2)]) (N := N_Table_free) (sc := defScope s_Table_free) (by decide +kernel)) (fun _ _ _ _ _ => (pg_tup rfl (pgs_cons (pg_name (i := 1) sc_Table_free.nd rfl (Or.inl rfl)) (pgs_cons (pg_name (i := 2) sc_Table_free.nd rfl (Or.inl rfl)) pgs_nil)))) (fun _ _ _ _ _ => (pts_one (pt_cmpR (kIs (K := K)) (pv 2) pe_non (nomark _)))) (fun _ _ _ _ _ => (pv 1))))),
    (ss_ret (sm_lc mk_F (si_enum (sa_cons (sm_fld g.at_holders sm_var) sa_nil)) (sg_tup (sgs_cons sg_name (sgs_cons sg_name sgs_nil)) (fun _ _ _ _ _ _ h => agCons_nx h (fun _ _ _ _ _ _ h => agCons_nx h (fun _ _ _ _ _ _ h => agNil_nx h)))) (gw_tup2 (by decide)) (st_test (sm_op (os_D fIs_ok) sm_var sm_non)) sm_var))⟩
noncomputable def B_Table_give_back : AS := (aSeq (aAsg (aBMX bSetd (aFld ["Table"] "lists" (aVar 0)) (aCons (aVar 1) (aCons (aLstC aNil) aNil))) (agName 3))
    (aSeq (aAsg (aLstC aNil) (agName 4))
    (aSeq (aWhile (aB (aOp (opD fGt) (aCB cbLen (aCons (aVar 3) aNil)) (aVar 2))) (aSeq (aAsg (aBML (mdL fPop) (aVar 3) aNil) (agName 5))
    (aSeq (aAsg (aD .none) (agSub (aFld ["Table"] "holders" (aVar 0)) (aVar 5) stM))
    (aDrop (aBML (mdL fAppend) (aVar 4) (aCons (aVar 5) aNil))))))
    (aRet (aVar 4)))))
noncomputable def A_Table_give_back : AF := aDef 3 6 B_Table_give_back
theorem ok_Table_give_back (g : G K mg) : DkM P w K mg base 1 "Table" "give_back" ["self", "owner", "number"] A_Table_give_back := g.f_Table_give_back.dkM sc_Table_give_back fun f cdv A outer s H E hr => ⟨_, (pss_cons (ps_set (i := 3) sc_Table_give_back.nd rfl (Or.inl rfl) (pe_bmX (P := P) (w := w) (K := K) PySem.F.slot_dict_setdefault PySem.F.type_dict_setdefault (mtx_setd (hu_of hr)) (pe_fld (pv 0) rfl) (pa_cons (pv 1) (pa_cons (pe_lst pa_nil) pa_nil))))
    (pss_cons (ps_set (i := 4) sc_Table_give_back.nd rfl (Or.inl rfl) (pe_lst pa_nil))
    (pss_cons (ps_while (passes_of rfl) (pt_cmpR (kGt (K := K)) (bi (kLenM (K := K)) g.b_len (pa_cons (pv 3) pa_nil)) (pv 2) (nomark _))
    (pss_cons (ps_set (i := 5) sc_Table_give_back.nd rfl (Or.inl rfl) (bm0 (K := K) PySem.F.plainAttrs_list PySem.F.slot_list_pop PySem.F.type_list_pop mt_pop (pv 3)))
    (pss_cons (ps_asg pe_non (pg_sub (pe_fld (pv 0) rfl) (pv 5) (set_M (P := P) (w := w) (K := K) (hu_of hr))))
    (pss_one (ps_expr (bm (K := K) PySem.F.plainAttrs_list PySem.F.slot_list_append PySem.F.type_list_append mt_append (pv 4) (pa_cons (pv 5) pa_nil)))))))
    (pss_one (ps_ret (pv 4)))))),
    (ss_seq (ss_asg (sm_bmX ms_setd (sm_fld g.at_lists sm_var) (sa_cons sm_var (sa_cons (sm_lstC sa_nil) sa_nil))) sg_name)
    (ss_seq (ss_asg (sm_lstC sa_nil) sg_name)
    (ss_seq (ss_while (st_test (sm_op (os_D fGt_ok) (sm_cb cs_Len (sa_cons sm_var sa_nil)) sm_var)) (ss_seq (ss_asg (sm_bmL0 ms_pop sm_var) sg_name)
    (ss_seq (ss_asg sm_non (sg_sub (sm_fld g.at_holders sm_var) sm_var ss_M))
    (ss_drop (sm_bmL ms_append sm_var (sa_cons sm_var sa_nil))))))
    (ss_ret sm_var))))⟩
noncomputable def B__law_cell_at : AS := (aSeq (aIfS (aB (aOp (opB fEq) (aCB cbLen (aCons (aVar 0) aNil)) (aD (.int 0)))) (aRet (aD (.int 0))) aNext)
    (aRet (aOp opIx (aVar 0) (aOp (opD fMod) (aVar 1) (aCB cbLen (aCons (aVar 0) aNil))))))
noncomputable def A__law_cell_at : AF := aDef 2 2 B__law_cell_at
theorem ok__law_cell_at (g : G K mg) : DkA P w K mg base 1 "_law_cell_at" ["_law_script", "_law_k"] A__law_cell_at := g.f__law_cell_at.dkA sc__law_cell_at fun f cdv A outer s H E hr => ⟨_, (pss_cons (ps_if (pt_cmpR (kEq (room64 hr) (K := K)) (bi (kLenM (K := K)) g.b_len (pa_cons (pv 0) pa_nil)) pe_int (nomark _))
    (pss_one (ps_ret pe_int))
    pss_nil)
    (pss_one (ps_ret (pe_ix (kIxM (P := P) (w := w) (K := K) (hu_of hr)) (pv 0) (pe_op (kMod (K := K)) (pv 1) (bi (kLenM (K := K)) g.b_len (pa_cons (pv 0) pa_nil))) (fun _ _ => rfl))))),
    (ss_seq (ss_if (st_test (sm_op (os_B fEq_ok) (sm_cb cs_Len (sa_cons sm_var sa_nil)) sm_int)) (ss_ret sm_int) ss_next)
    (ss_ret (sm_op os_Ix sm_var (sm_op (os_D fMod_ok) sm_var (sm_cb cs_Len (sa_cons sm_var sa_nil))))))⟩
noncomputable def B__law_whole : AS := (aRet (aAndV (aIsi "int" (aVar 0)) (aNotV (aIsi "bool" (aVar 0)))))
noncomputable def A__law_whole : AF := aDef 1 1 B__law_whole
theorem ok__law_whole (g : G K mg) : DkA P w K mg base 1 "_law_whole" ["_law_found"] A__law_whole := g.f__law_whole.dkA sc__law_whole fun f cdv A outer s H E hr => ⟨_, (pss_one (ps_ret (pe_and (bi (jIsi (K := K)) g.b_isinstance (pa_cons (pv 0) (pa_cons (bty (n := "int") g.b_int) pa_nil))) (pe_one (pe_not (bi (jIsi (K := K)) g.b_isinstance (pa_cons (pv 0) (pa_cons (bty (n := "bool") g.b_bool) pa_nil)))))))),
    (ss_ret (sm_and (sm_isi sm_var) (sm_not (sm_isi sm_var))))⟩
noncomputable def B__law_owner : AS := (aSeq (aIfS (aAnd (aB (aOp (opB fEq) (aOp (opD fMod) (aOp (opD fDiv) (aVar 0) (aD (.int 160))) (aD (.int 4))) (aD (.int 0)))) (aB (aOp (opD fLt) (aVar 1) (aD (.int 2))))) (aRet (aOp opIx (aLstF (aCons (aD (.str "")) (aCons (aTup aNil) aNil))) (aVar 1))) aNext)
    (aSeq (aAsg (aOp opIx (aLstF (aCons (aD (.str "")) (aCons (aD (.str "soap")) (aCons (aD (.str "aaaaaaaa")) (aCons (aD (.str "two words")) aNil))))) (aOp (opD fMod) (aVar 0) (aD (.int 4)))) (agName 2))
    (aSeq (aAsg (aOp (opD fMod) (aOp (opD fDiv) (aVar 0) (aD (.int 4))) (aOp (opD fAdd) (aCB cbLen (aCons (aVar 2) aNil)) (aD (.int 1)))) (agName 3))
    (aSeq (aAsg (aOp (opD fAdd) (aOp (opD fAdd) (aSl (aVar 2) aoN (aoS (aVar 3))) (aOp opIx (aD (.str "abcdefgh")) (aVar 1))) (aSl (aVar 2) (aoS (aVar 3)) aoN)) (agName 4))
    (aRet (aOp opIx (aLstF (aCons (aVar 4) (aCons (aTup (aCons (aVar 4) (aCons (aD (.str "old")) aNil))) (aCons (aTup (aCons (aD (.str "old")) (aCons (aVar 4) aNil))) (aCons (aTup (aCons (aD (.str "old")) (aCons (aVar 2) (aCons (aVar 4) aNil)))) aNil))))) (aOp (opD fMod) (aOp (opD fDiv) (aVar 0) (aD (.int 40))) (aD (.int 4)))))))))
noncomputable def A__law_owner : AF := aDef 2 5 B__law_owner
theorem ok__law_owner (g : G K mg) : DkA P w K mg base 1 "_law_owner" ["_law_number", "_law_k"] A__law_owner := g.f__law_owner.dkA sc__law_owner fun f cdv A outer s H E hr => ⟨_, (pss_cons (ps_if (PW.pt (pw_and (pt_cmpR (kEq (room64 hr) (K := K)) (pe_op (kMod (K := K)) (pe_op (kDiv (K := K)) (pv 0) pe_int) pe_int) pe_int (nomark _)) (pw_and1 (pt_cmpR (kLt (K := K)) (pv 1) pe_int (nomark _)))))
    (pss_one (ps_ret (pe_ix (kIxM (P := P) (w := w) (K := K) (hu_of hr)) (pe_lst (pa_cons pe_str (pa_cons (pe_tup pa_nil) pa_nil))) (pv 1) (fun _ _ => rfl))))
    pss_nil)
    (pss_cons (ps_set (i := 2) sc__law_owner.nd rfl (Or.inl rfl) (pe_ix (kIxM (P := P) (w := w) (K := K) (hu_of hr)) (pe_lst (pa_cons pe_str (pa_cons pe_str (pa_cons pe_str (pa_cons pe_str pa_nil))))) (pe_op (kMod (K := K)) (pv 0) pe_int) (fun _ _ => rfl)))
    (pss_cons (ps_set (i := 3) sc__law_owner.nd rfl (Or.inl rfl) (pe_op (kMod (K := K)) (pe_op (kDiv (K := K)) (pv 0) pe_int) (pe_op (kAdd (K := K)) (bi (kLenM (K := K)) g.b_len (pa_cons (pv 2) pa_nil)) pe_int)))
    (pss_cons (ps_set (i := 4) sc__law_owner.nd rfl (Or.inl rfl) (pe_op (kAdd (K := K)) (pe_op (kAdd (K := K)) (pe_slice (kSl (K := K)) (pv 2) po_none (po_some (pv 3))) (pe_ix (kIxM (P := P) (w := w) (K := K) (hu_of hr)) pe_str (pv 1) (fun _ _ => rfl))) (pe_slice (kSl (K := K)) (pv 2) (po_some (pv 3)) po_none)))
    (pss_one (ps_ret (pe_ix (kIxM (P := P) (w := w) (K := K) (hu_of hr)) (pe_lst (pa_cons (pv 4) (pa_cons (pe_tup (pa_cons (pv 4) (pa_cons pe_str pa_nil))) (pa_cons (pe_tup (pa_cons pe_str (pa_cons (pv 4) pa_nil))) (pa_cons (pe_tup (pa_cons pe_str (pa_cons (pv 2) (pa_cons (pv 4) pa_nil)))) pa_nil))))) (pe_op (kMod (K := K)) (pe_op (kDiv (K := K)) (pv 0) pe_int) pe_int) (fun _ _ => rfl)))))))),
    (ss_seq (ss_if (st_and (st_test (sm_op (os_B fEq_ok) (sm_op (os_D fMod_ok) (sm_op (os_D fDiv_ok) sm_var sm_int) sm_int) sm_int)) (st_test (sm_op (os_D fLt_ok) sm_var sm_int))) (ss_ret (sm_op os_Ix (sm_lstF (sa_cons sm_str (sa_cons (sm_tup sa_nil) sa_nil))) sm_var)) ss_next)
    (ss_seq (ss_asg (sm_op os_Ix (sm_lstF (sa_cons sm_str (sa_cons sm_str (sa_cons sm_str (sa_cons sm_str sa_nil))))) (sm_op (os_D fMod_ok) sm_var sm_int)) sg_name)
    (ss_seq (ss_asg (sm_op (os_D fMod_ok) (sm_op (os_D fDiv_ok) sm_var sm_int) (sm_op (os_D fAdd_ok) (sm_cb cs_Len (sa_cons sm_var sa_nil)) sm_int)) sg_name)
    (ss_seq (ss_asg (sm_op (os_D fAdd_ok) (sm_op (os_D fAdd_ok) (sm_sl sm_var so_none (so_some sm_var)) (sm_op os_Ix sm_str sm_var)) (sm_sl sm_var (so_some sm_var) so_none)) sg_name)
    (ss_ret (sm_op os_Ix (sm_lstF (sa_cons sm_var (sa_cons (sm_tup (sa_cons sm_var (sa_cons sm_str sa_nil))) (sa_cons (sm_tup (sa_cons sm_str (sa_cons sm_var sa_nil))) (sa_cons (sm_tup (sa_cons sm_str (sa_cons sm_var (sa_cons sm_var sa_nil)))) sa_nil))))) (sm_op (os_D fMod_ok) (sm_op (os_D fDiv_ok) sm_var sm_int) sm_int)))))))⟩
noncomputable def B_Table_owner_of : AS := (aDrop (aCallP A__wall (aCons (aD (.int 0)) aNil)))
noncomputable def A_Table_owner_of : AF := aDef 2 2 B_Table_owner_of
theorem ok_Table_owner_of (g : G K mg) : DkM P w K mg base 2 "Table" "owner_of" ["self", "place"] A_Table_owner_of := g.f_Table_owner_of.dkM sc_Table_owner_of fun f cdv A outer s H E hr => ⟨_, (pss_one (ps_expr (clA (ok__wall g) hr (L2N.takes_of rfl rfl rfl rfl) (pa_cons pe_int pa_nil)))),
    (ss_drop (sm_callP (sa_cons sm_int sa_nil)))⟩
noncomputable def B_Table_take : AS := (aSeq (aAsg (aOp opIx (aFld ["Table"] "lists" (aVar 0)) (aVar 1)) (agName 3))
    (aFor (aiAny (aSl (aMeth "Table" "free" A_Table_free (aVar 0) aNil) aoN (aoS (aCB (cbD fMax) (aCons (aD (.int 0)) (aCons (aOp (opD fSub) (aVar 2) (aCB cbLen (aCons (aVar 3) aNil))) aNil)))))) (agName 4) (aSeq (aAsg (aVar 1) (agSub (aFld ["Table"] "holders" (aVar 0)) (aVar 4) stM))
    (aDrop (aBML (mdL fAppend) (aVar 3) (aCons (aVar 4) aNil))))))
noncomputable def A_Table_take : AF := aDef 3 5 B_Table_take
theorem ok_Table_take (g : G K mg) : DkM P w K mg base 2 "Table" "take" ["self", "owner", "number"] A_Table_take := g.f_Table_take.dkM sc_Table_take fun f cdv A outer s H E hr => ⟨_, (pss_cons (ps_set (i := 3) sc_Table_take.nd rfl (Or.inl rfl) (pe_ix (kIxM (P := P) (w := w) (K := K) (hu_of hr)) (pe_fld (pv 0) rfl) (pv 1) (fun _ _ => rfl)))
    (pss_one (ps_for (passes_of rfl) rfl (pi_any (K := K) (pe_slice (kSl (K := K)) (mtA0 (ok_Table_free g) hr (L2N.takes_of rfl rfl rfl rfl) (pv 0)) po_none (po_some (bi (jMax rfl (K := K)) g.b_max (pa_cons pe_int (pa_cons (pe_op (kSub (K := K)) (pv 2) (bi (kLenM (K := K)) g.b_len (pa_cons (pv 3) pa_nil))) pa_nil)))))) (pg_name (i := 4) sc_Table_take.nd rfl (Or.inl rfl))
    (pss_cons (ps_asg (pv 1) (pg_sub (pe_fld (pv 0) rfl) (pv 4) (set_M (P := P) (w := w) (K := K) (hu_of hr))))
    (pss_one (ps_expr (bm (K := K) PySem.F.plainAttrs_list PySem.F.slot_list_append PySem.F.type_list_append mt_append (pv 3) (pa_cons (pv 4) pa_nil)))))))),
    (ss_seq (ss_asg (sm_op os_Ix (sm_fld g.at_lists sm_var) sm_var) sg_name)
    (ss_for (si_any (sm_sl (sm_meth sm_var sa_nil) so_none (so_some (sm_cb (cs_D fMax_ok) (sa_cons sm_int (sa_cons (sm_op (os_D fSub_ok) sm_var (sm_cb cs_Len (sa_cons sm_var sa_nil))) sa_nil)))))) sg_name (ss_seq (ss_asg sm_var (sg_sub (sm_fld g.at_holders sm_var) sm_var ss_M))
    (ss_drop (sm_bmL ms_append sm_var (sa_cons sm_var sa_nil))))))⟩
noncomputable def B__law_mixed : AS := (aSeq (aAsg (aCallP A__law_cell_at (aCons (aVar 0) (aCons (aVar 1) aNil))) (agName 3))
    (aSeq (aAsg (aOp (opD fDiv) (aVar 1) (aCB (cbD fMax) (aCons (aD (.int 1)) (aCons (aCB cbLen (aCons (aVar 0) aNil)) aNil)))) (agName 4))
    (aSeq (aAsg (aOp (opD fAdd) (aOp (opD fAdd) (aOp (opD fAdd) (aOp (opD fBand) (aVar 3) (aD (.int 2147483647))) (aOp (opD fMul) (aOp (opD fMul) (aD (.int 1009)) (aVar 1)) (aVar 1))) (aOp (opD fMul) (aOp (opD fMul) (aD (.int 7919)) (aVar 2)) (aVar 2))) (aD (.int 12))) (agName 5))
    (aSeq (aAsg (aOp (opD fMod) (aOp (opD fMul) (aVar 5) (aD (.int 48271))) (aD (.int 2147483647))) (agName 5))
    (aRet (aOp (opD fBand) (aOp (opD fAdd) (aOp (opD fShr) (aVar 3) (aOp (opD fMul) (aD (.int 31)) (aOp (opD fAdd) (aVar 2) (aOp (opD fMul) (aD (.int 128)) (aVar 4))))) (aOp (opD fMod) (aOp (opD fMul) (aVar 5) (aVar 5)) (aD (.int 2147483629)))) (aD (.int 2147483647))))))))
noncomputable def A__law_mixed : AF := aDef 3 6 B__law_mixed
theorem ok__law_mixed (g : G K mg) : DkA P w K mg base 2 "_law_mixed" ["_law_script", "_law_k", "_law_salt"] A__law_mixed := g.f__law_mixed.dkA sc__law_mixed fun f cdv A outer s H E hr => ⟨_, (pss_cons (ps_set (i := 3) sc__law_mixed.nd rfl (Or.inl rfl) (clA (ok__law_cell_at g) hr (L2N.takes_of rfl rfl rfl rfl) (pa_cons (pv 0) (pa_cons (pv 1) pa_nil))))
    (pss_cons (ps_set (i := 4) sc__law_mixed.nd rfl (Or.inl rfl) (pe_op (kDiv (K := K)) (pv 1) (bi (jMax rfl (K := K)) g.b_max (pa_cons pe_int (pa_cons (bi (kLenM (K := K)) g.b_len (pa_cons (pv 0) pa_nil)) pa_nil)))))
    (pss_cons (ps_set (i := 5) sc__law_mixed.nd rfl (Or.inl rfl) (pe_op (kAdd (K := K)) (pe_op (kAdd (K := K)) (pe_op (kAdd (K := K)) (pe_op (kBand (K := K)) (pv 3) pe_int) (pe_op (kMul (K := K)) (pe_op (kMul (K := K)) pe_int (pv 1)) (pv 1))) (pe_op (kMul (K := K)) (pe_op (kMul (K := K)) pe_int (pv 2)) (pv 2))) pe_int))
    (pss_cons (ps_set (i := 5) sc__law_mixed.nd rfl (Or.inl rfl) (pe_op (kMod (K := K)) (pe_op (kMul (K := K)) (pv 5) pe_int) pe_int))
    (pss_one (ps_ret (pe_op (kBand (K := K)) (pe_op (kAdd (K := K)) (pe_op (kShr (K := K)) (pv 3) (pe_op (kMul (K := K)) pe_int (pe_op (kAdd (K := K)) (pv 2) (pe_op (kMul (K := K)) pe_int (pv 4))))) (pe_op (kMod (K := K)) (pe_op (kMul (K := K)) (pv 5) (pv 5)) pe_int)) pe_int))))))),
    (ss_seq (ss_asg (sm_callP (sa_cons sm_var (sa_cons sm_var sa_nil))) sg_name)
    (ss_seq (ss_asg (sm_op (os_D fDiv_ok) sm_var (sm_cb (cs_D fMax_ok) (sa_cons sm_int (sa_cons (sm_cb cs_Len (sa_cons sm_var sa_nil)) sa_nil)))) sg_name)
    (ss_seq (ss_asg (sm_op (os_D fAdd_ok) (sm_op (os_D fAdd_ok) (sm_op (os_D fAdd_ok) (sm_op (os_D fBand_ok) sm_var sm_int) (sm_op (os_D fMul_ok) (sm_op (os_D fMul_ok) sm_int sm_var) sm_var)) (sm_op (os_D fMul_ok) (sm_op (os_D fMul_ok) sm_int sm_var) sm_var)) sm_int) sg_name)
    (ss_seq (ss_asg (sm_op (os_D fMod_ok) (sm_op (os_D fMul_ok) sm_var sm_int) sm_int) sg_name)
    (ss_ret (sm_op (os_D fBand_ok) (sm_op (os_D fAdd_ok) (sm_op (os_D fShr_ok) sm_var (sm_op (os_D fMul_ok) sm_int (sm_op (os_D fAdd_ok) sm_var (sm_op (os_D fMul_ok) sm_int sm_var)))) (sm_op (os_D fMod_ok) (sm_op (os_D fMul_ok) sm_var sm_var) sm_int)) sm_int))))))⟩
noncomputable def B__law_stays : AS := (aSeq (aIfS (aB (aOp (opBn fEq) (aCB cbLen (aCons (aVar 2) aNil)) (aVar 3))) (aRet (aD (.bool false))) aNext)
    (aSeq (aAsg (aCB (cbD fMin) (aCons (aCB cbLen (aCons (aVar 1) aNil)) (aCons (aVar 3) aNil))) (agName 5))
    (aSeq (aIfS (aB (aOp (opBn fEq) (aSl (aVar 2) aoN (aoS (aVar 5))) (aSl (aVar 1) aoN (aoS (aVar 5))))) (aRet (aD (.bool false))) aNext)
    (aSeq (aFor (aiAny (aSl (aVar 2) (aoS (aVar 5)) aoN)) (agName 6) (aIfS (aOr (aNot (aB (aCallP A__law_whole (aCons (aVar 6) aNil)))) (aB (aOp (opIn true) (aVar 6) (aVar 4)))) (aRet (aD (.bool false))) aNext))
    (aRet (aD (.bool true)))))))
noncomputable def A__law_stays : AF := aDef 5 7 B__law_stays
theorem ok__law_stays (g : G K mg) : DkA P w K mg base 2 "_law_stays" ["_law_owner_here", "_law_ahead", "_law_behind", "_law_number", "_law_fresh"] A__law_stays := g.f__law_stays.dkA sc__law_stays fun f cdv A outer s H E hr => ⟨_, (pss_cons (ps_if (pt_cmpR (kNe (room64 hr) (K := K)) (bi (kLenM (K := K)) g.b_len (pa_cons (pv 2) pa_nil)) (pv 3) (nomark _))
    (pss_one (ps_ret pe_bl))
    pss_nil)
    (pss_cons (ps_set (i := 5) sc__law_stays.nd rfl (Or.inl rfl) (bi (jMin rfl (K := K)) g.b_min (pa_cons (bi (kLenM (K := K)) g.b_len (pa_cons (pv 1) pa_nil)) (pa_cons (pv 3) pa_nil))))
    (pss_cons (ps_if (pt_cmpR (kNe (room64 hr) (K := K)) (pe_slice (kSl (K := K)) (pv 2) po_none (po_some (pv 5))) (pe_slice (kSl (K := K)) (pv 1) po_none (po_some (pv 5))) (nomark _))
    (pss_one (ps_ret pe_bl))
    pss_nil)
    (pss_cons (ps_for (passes_of rfl) rfl (pi_any (K := K) (pe_slice (kSl (K := K)) (pv 2) (po_some (pv 5)) po_none)) (pg_name (i := 6) sc__law_stays.nd rfl (Or.inl rfl))
    (pss_one (ps_if (PW.pt (pw_or (pt_not (pt_val (clA (ok__law_whole g) hr (L2N.takes_of rfl rfl rfl rfl) (pa_cons (pv 6) pa_nil)))) (pw_or1 (pt_cmpR (kNinM (P := P) (w := w) (K := K) (room65 hr)) (pv 6) (pv 4) (by rfl)))))
    (pss_one (ps_ret pe_bl))
    pss_nil)))
    (pss_one (ps_ret pe_bl)))))),
    (ss_seq (ss_if (st_test (sm_op (os_Bn fNe_ok) (sm_cb cs_Len (sa_cons sm_var sa_nil)) sm_var)) (ss_ret sm_bl) ss_next)
    (ss_seq (ss_asg (sm_cb (cs_D fMin_ok) (sa_cons (sm_cb cs_Len (sa_cons sm_var sa_nil)) (sa_cons sm_var sa_nil))) sg_name)
    (ss_seq (ss_if (st_test (sm_op (os_Bn fNe_ok) (sm_sl sm_var so_none (so_some sm_var)) (sm_sl sm_var so_none (so_some sm_var)))) (ss_ret sm_bl) ss_next)
    (ss_seq (ss_for (si_any (sm_sl sm_var (so_some sm_var) so_none)) sg_name (ss_if (st_or (st_not (st_B (sm_callP (sa_cons sm_var sa_nil)))) (st_test (sm_op os_Nin sm_var sm_var))) (ss_ret sm_bl) ss_next))
    (ss_ret sm_bl)))))⟩
noncomputable def B_Table_told : AS := (aSeq (aAsg (aCB cbLen (aCons (aMeth "Table" "free" A_Table_free (aVar 0) aNil) aNil)) (agName 2))
    (aSeq (aFor (aiAny (aVar 1)) (agTup 2 (agCons (agName 3) (agCons (agName 4) agNil))) (aAug 2 (aOp (opD fSub) (aCB cbLen (aCons (aMeth "Table" "places_of" A_Table_places_of (aVar 0) (aCons (aVar 3) aNil)) aNil)) (aVar 4)) ipo_add))
    (aSeq (aIfS (aB (aOp (opD fLt) (aVar 2) (aD (.int 0)))) (aRaise "NoRoom") aNext)
    (aSeq (aAsg (aLstC aNil) (agName 5))
    (aSeq (aFor (aiAny (aVar 1)) (agTup 2 (agCons (agName 3) (agCons (agName 4) agNil))) (aDrop (aBML mdE (aVar 5) (aCons (aMeth "Table" "give_back" A_Table_give_back (aVar 0) (aCons (aVar 3) (aCons (aVar 4) aNil))) aNil))))
    (aSeq (aFor (aiAny (aVar 1)) (agTup 2 (agCons (agName 3) (agCons (agName 4) agNil))) (aDrop (aMeth "Table" "take" A_Table_take (aVar 0) (aCons (aVar 3) (aCons (aVar 4) aNil)))))
    (aRet (aFrz (aVar 5)))))))))
noncomputable def A_Table_told : AF := aDef 2 6 B_Table_told
theorem ok_Table_told (g : G K mg) : DkM P w K mg base 3 "Table" "told" ["self", "wanted"] A_Table_told := g.f_Table_told.dkM sc_Table_told fun f cdv A outer s H E hr => ⟨_, (pss_cons (ps_set (i := 2) sc_Table_told.nd rfl (Or.inl rfl) (bi (kLenM (K := K)) g.b_len (pa_cons (mtA0 (ok_Table_free g) hr (L2N.takes_of rfl rfl rfl rfl) (pv 0)) pa_nil)))
    (pss_cons (ps_for (passes_of rfl) rfl (pi_any (K := K) (pv 1)) (pg_tup rfl (pgs_cons (pg_name (i := 3) sc_Table_told.nd rfl (Or.inl rfl)) (pgs_cons (pg_name (i := 4) sc_Table_told.nd rfl (Or.inl rfl)) pgs_nil)))
    (pss_one (ps_aug (i := 2) sc_Table_told.nd rfl (Or.inl rfl) (pe_op (kSub (K := K)) (bi (kLenM (K := K)) g.b_len (pa_cons (mtA (ok_Table_places_of g) hr (L2N.takes_of rfl rfl rfl rfl) (pv 0) (pa_cons (pv 3) pa_nil)) pa_nil)) (pv 4)) ip_add)))
    (pss_cons (ps_if (pt_cmpR (kLt (K := K)) (pv 2) pe_int (nomark _))
    (pss_one (rsA g.ex_NoRoom PySem.F.excBase_ValueError rfl rfl (L2N.takes_of rfl rfl rfl rfl)))
    pss_nil)
    (pss_cons (ps_set (i := 5) sc_Table_told.nd rfl (Or.inl rfl) (pe_lst pa_nil))
    (pss_cons (ps_for (passes_of rfl) rfl (pi_any (K := K) (pv 1)) (pg_tup rfl (pgs_cons (pg_name (i := 3) sc_Table_told.nd rfl (Or.inl rfl)) (pgs_cons (pg_name (i := 4) sc_Table_told.nd rfl (Or.inl rfl)) pgs_nil)))
    (pss_one (ps_expr (bm (K := K) PySem.F.plainAttrs_list PySem.F.slot_list_extend PySem.F.type_list_extend mExtend (pv 5) (pa_cons (mtA (ok_Table_give_back g) hr (L2N.takes_of rfl rfl rfl rfl) (pv 0) (pa_cons (pv 3) (pa_cons (pv 4) pa_nil))) pa_nil)))))
    (pss_cons (ps_for (passes_of rfl) rfl (pi_any (K := K) (pv 1)) (pg_tup rfl (pgs_cons (pg_name (i := 3) sc_Table_told.nd rfl (Or.inl rfl)) (pgs_cons (pg_name (i := 4) sc_Table_told.nd rfl (Or.inl rfl)) pgs_nil)))
    (pss_one (ps_expr (mtA (ok_Table_take g) hr (L2N.takes_of rfl rfl rfl rfl) (pv 0) (pa_cons (pv 3) (pa_cons (pv 4) pa_nil))))))
    (pss_one (ps_ret (pv 5))))))))),
    (ss_seq (ss_asg (sm_cb cs_Len (sa_cons (sm_meth sm_var sa_nil) sa_nil)) sg_name)
    (ss_seq (ss_for (si_any sm_var) (sg_tup (sgs_cons sg_name (sgs_cons sg_name sgs_nil)) (fun _ _ _ _ _ _ h => agCons_nx h (fun _ _ _ _ _ _ h => agCons_nx h (fun _ _ _ _ _ _ h => agNil_nx h)))) (ss_aug is_add (sm_op (os_D fSub_ok) (sm_cb cs_Len (sa_cons (sm_meth sm_var (sa_cons sm_var sa_nil)) sa_nil)) sm_var)))
    (ss_seq (ss_if (st_test (sm_op (os_D fLt_ok) sm_var sm_int)) ss_raise ss_next)
    (ss_seq (ss_asg (sm_lstC sa_nil) sg_name)
    (ss_seq (ss_for (si_any sm_var) (sg_tup (sgs_cons sg_name (sgs_cons sg_name sgs_nil)) (fun _ _ _ _ _ _ h => agCons_nx h (fun _ _ _ _ _ _ h => agCons_nx h (fun _ _ _ _ _ _ h => agNil_nx h)))) (ss_drop (sm_bmL ms_extend sm_var (sa_cons (sm_meth sm_var (sa_cons sm_var (sa_cons sm_var sa_nil))) sa_nil))))
    (ss_seq (ss_for (si_any sm_var) (sg_tup (sgs_cons sg_name (sgs_cons sg_name sgs_nil)) (fun _ _ _ _ _ _ h => agCons_nx h (fun _ _ _ _ _ _ h => agCons_nx h (fun _ _ _ _ _ _ h => agNil_nx h)))) (ss_drop (sm_meth sm_var (sa_cons sm_var (sa_cons sm_var sa_nil)))))
    (ss_ret (sm_frz sm_var))))))))⟩
noncomputable def B__law_wanted : AS := (aSeq (aAsg (aCallP A__law_mixed (aCons (aVar 0) (aCons (aVar 1) (aCons (aD (.int 2)) aNil)))) (agName 4))
    (aSeq (aAsg (aCB cbLstC (aCons (aVar 2) aNil)) (agName 5))
    (aSeq (aAsg (aLstC aNil) (agName 6))
    (aSeq (aFor (aiR1 (aCons (aOp (opD fAdd) (aD (.int 1)) (aOp (opD fMod) (aVar 4) (aD (.int 5)))) aNil)) (agName 7) (aSeq (aAsg (aCallP A__law_mixed (aCons (aVar 0) (aCons (aVar 1) (aCons (aOp (opD fAdd) (aD (.int 3)) (aVar 7)) aNil)))) (agName 8))
    (aSeq (aAsg (aBML (mdL fPopAt) (aVar 5) (aCons (aOp (opD fMod) (aVar 8) (aCB cbLen (aCons (aVar 5) aNil))) aNil)) (agName 9))
    (aSeq (aAsg (aOp (opD fMod) (aOp (opD fDiv) (aVar 8) (aD (.int 5))) (aOp (opD fAdd) (aOp (opD fDiv) (aVar 3) (aD (.int 2))) (aD (.int 1)))) (agName 10))
    (aSeq (aIfS (aB (aOp (opB fEq) (aOp (opD fMod) (aOp (opD fDiv) (aVar 8) (aD (.int 5000))) (aD (.int 6))) (aD (.int 0)))) (aAsg (aOp (opD fMod) (aOp (opD fDiv) (aVar 8) (aD (.int 5))) (aOp (opD fAdd) (aVar 3) (aD (.int 3)))) (agName 10)) aNext)
    (aDrop (aBML (mdL fAppend) (aVar 6) (aCons (aTup (aCons (aVar 9) (aCons (aVar 10) aNil))) aNil))))))))
    (aRet (aFrz (aVar 6)))))))
noncomputable def A__law_wanted : AF := aDef 4 11 B__law_wanted
theorem ok__law_wanted (g : G K mg) : DkA P w K mg base 3 "_law_wanted" ["_law_script", "_law_k", "_law_some", "_law_many"] A__law_wanted := g.f__law_wanted.dkA sc__law_wanted fun f cdv A outer s H E hr => ⟨_, (pss_cons (ps_set (i := 4) sc__law_wanted.nd rfl (Or.inl rfl) (clA (ok__law_mixed g) hr (L2N.takes_of rfl rfl rfl rfl) (pa_cons (pv 0) (pa_cons (pv 1) (pa_cons pe_int pa_nil)))))
    (pss_cons (ps_set (i := 5) sc__law_wanted.nd rfl (Or.inl rfl) (bt (kLstL (K := K)) g.b_list (pa_cons (pv 2) pa_nil)))
    (pss_cons (ps_set (i := 6) sc__law_wanted.nd rfl (Or.inl rfl) (pe_lst pa_nil))
    (pss_cons (ps_for (passes_of rfl) rfl (pi_range1 (by rfl) g.b_range (pa_cons (pe_op (kAdd (K := K)) pe_int (pe_op (kMod (K := K)) (pv 4) pe_int)) pa_nil)) (pg_name (i := 7) sc__law_wanted.nd rfl (Or.inl rfl))
    (pss_cons (ps_set (i := 8) sc__law_wanted.nd rfl (Or.inl rfl) (clA (ok__law_mixed g) hr (L2N.takes_of rfl rfl rfl rfl) (pa_cons (pv 0) (pa_cons (pv 1) (pa_cons (pe_op (kAdd (K := K)) pe_int (pv 7)) pa_nil)))))
    (pss_cons (ps_set (i := 9) sc__law_wanted.nd rfl (Or.inl rfl) (bm (K := K) PySem.F.plainAttrs_list PySem.F.slot_list_pop PySem.F.type_list_pop mt_popAt (pv 5) (pa_cons (pe_op (kMod (K := K)) (pv 8) (bi (kLenM (K := K)) g.b_len (pa_cons (pv 5) pa_nil))) pa_nil)))
    (pss_cons (ps_set (i := 10) sc__law_wanted.nd rfl (Or.inl rfl) (pe_op (kMod (K := K)) (pe_op (kDiv (K := K)) (pv 8) pe_int) (pe_op (kAdd (K := K)) (pe_op (kDiv (K := K)) (pv 3) pe_int) pe_int)))
    (pss_cons (ps_if (pt_cmpR (kEq (room64 hr) (K := K)) (pe_op (kMod (K := K)) (pe_op (kDiv (K := K)) (pv 8) pe_int) pe_int) pe_int (nomark _))
    (pss_one (ps_set (i := 10) sc__law_wanted.nd rfl (Or.inl rfl) (pe_op (kMod (K := K)) (pe_op (kDiv (K := K)) (pv 8) pe_int) (pe_op (kAdd (K := K)) (pv 3) pe_int))))
    pss_nil)
    (pss_one (ps_expr (bm (K := K) PySem.F.plainAttrs_list PySem.F.slot_list_append PySem.F.type_list_append mt_append (pv 6) (pa_cons (pe_tup (pa_cons (pv 9) (pa_cons (pv 10) pa_nil))) pa_nil)))))))))
    (pss_one (ps_ret (pv 6))))))),
    (ss_seq (ss_asg (sm_callP (sa_cons sm_var (sa_cons sm_var (sa_cons sm_int sa_nil)))) sg_name)
    (ss_seq (ss_asg (sm_cb cs_LstC (sa_cons sm_var sa_nil)) sg_name)
    (ss_seq (ss_asg (sm_lstC sa_nil) sg_name)
    (ss_seq (ss_for (si_r1 (sa_cons (sm_op (os_D fAdd_ok) sm_int (sm_op (os_D fMod_ok) sm_var sm_int)) sa_nil)) sg_name (ss_seq (ss_asg (sm_callP (sa_cons sm_var (sa_cons sm_var (sa_cons (sm_op (os_D fAdd_ok) sm_int sm_var) sa_nil)))) sg_name)
    (ss_seq (ss_asg (sm_bmL ms_popAt sm_var (sa_cons (sm_op (os_D fMod_ok) sm_var (sm_cb cs_Len (sa_cons sm_var sa_nil))) sa_nil)) sg_name)
    (ss_seq (ss_asg (sm_op (os_D fMod_ok) (sm_op (os_D fDiv_ok) sm_var sm_int) (sm_op (os_D fAdd_ok) (sm_op (os_D fDiv_ok) sm_var sm_int) sm_int)) sg_name)
    (ss_seq (ss_if (st_test (sm_op (os_B fEq_ok) (sm_op (os_D fMod_ok) (sm_op (os_D fDiv_ok) sm_var sm_int) sm_int) sm_int)) (ss_asg (sm_op (os_D fMod_ok) (sm_op (os_D fDiv_ok) sm_var sm_int) (sm_op (os_D fAdd_ok) sm_var sm_int)) sg_name) ss_next)
    (ss_drop (sm_bmL ms_append sm_var (sa_cons (sm_tup (sa_cons sm_var (sa_cons sm_var sa_nil))) sa_nil))))))))
    (ss_ret (sm_frz sm_var))))))⟩
noncomputable def B__law_asked : AS := (aSeq (aAsg (aD .none) (agName 2))
    (aSeq (aAsg (aCB cbLstF (aCons (aVar 1) aNil)) (agName 3))
    (aSeq (aTry allX subX (aAsg (aMeth "Table" "told" A_Table_told (aVar 0) (aCons (aVar 3) aNil)) (agName 2)) [("NoRoom", (aAsg (aD .none) (agName 2)))])
    (aSeq (aIfS (aB (aOp (opBn fEq) (aVar 3) (aVar 1))) (aRet (aD (.str "changed"))) aNext)
    (aRet (aVar 2))))))
noncomputable def A__law_asked : AF := aDef 2 4 B__law_asked
theorem ok__law_asked (g : G K mg) : DkA P w K mg base 4 "_law_asked" ["_law_table", "_law_wanted_here"] A__law_asked := g.f__law_asked.dkA sc__law_asked fun f cdv A outer s H E hr => ⟨_, (pss_cons (ps_set (i := 2) sc__law_asked.nd rfl (Or.inl rfl) pe_non)
    (pss_cons (ps_set (i := 3) sc__law_asked.nd rfl (Or.inl rfl) (bt (kLstL (K := K)) g.b_list (pa_cons (pv 1) pa_nil)))
    (pss_cons (L2N.ps_try_many (tb := fun W => _) rfl rfl (L2N.takes_of rfl rfl rfl rfl) (fun W _ _ tk po => (pss_one (ps_set (i := 2) sc__law_asked.nd rfl (Or.inl rfl) (mtA (ok_Table_told g) hr tk (pv 0) (pa_cons (pv 3) pa_nil))))) (L2N.HdsOk.cons (c := .ref (clsA mg "NoRoom")) ⟨rfl, by decide, .inl g.ex_NoRoom.at_⟩ (fun _ _ _ _ _ _ _ => (pss_one (ps_set (i := 2) sc__law_asked.nd rfl (Or.inl rfl) pe_non))) L2N.HdsOk.nil))
    (pss_cons (ps_if (pt_cmpR (kNe (room64 hr) (K := K)) (pv 3) (pv 1) (nomark _))
    (pss_one (ps_ret pe_str))
    pss_nil)
    (pss_one (ps_ret (pv 2))))))),
    (ss_seq (ss_asg sm_non sg_name)
    (ss_seq (ss_asg (sm_cb cs_LstF (sa_cons sm_var sa_nil)) sg_name)
    (ss_seq (ss_try (xms g ["NoRoom"] (by decide)) (fun W => (ss_asg (sm_meth sm_var (sa_cons sm_var sa_nil)) sg_name)) (.cons ⟨rfl, fun _ _ _ => (ss_asg sm_non sg_name)⟩ .nil) (by wtm_at "tryx"))
    (ss_seq (ss_if (st_test (sm_op (os_Bn fNe_ok) sm_var sm_var)) (ss_ret sm_str) ss_next)
    (ss_ret sm_var)))))⟩
noncomputable def B__law_right : AS := (aSeq (aAsg aDNewV (agName 3))
    (aSeq (aFor (aiAny (aVar 1)) (agName 4) (aAsg (aMeth "Table" "places_of" A_Table_places_of (aVar 0) (aCons (aVar 4) aNil)) (agSub (aVar 3) (aVar 4) stM)))
    (aSeq (aAsg (aMeth "Table" "free" A_Table_free (aVar 0) aNil) (agName 5))
    (aSeq (aAsg (aCall A__law_asked (aCons (aVar 0) (aCons (aVar 2) aNil))) (agName 6))
    (aSeq (aIfS (aB (aOp opIsN (aVar 6) (aD .none))) (aSeq (aFor (aiAny (aVar 1)) (agName 4) (aIfS (aB (aOp (opBn fEq) (aMeth "Table" "places_of" A_Table_places_of (aVar 0) (aCons (aVar 4) aNil)) (aOp opIx (aVar 3) (aVar 4)))) (aRet (aD (.bool false))) aNext))
    (aRet (aOp (opB fEq) (aMeth "Table" "free" A_Table_free (aVar 0) aNil) (aVar 5)))) aNext)
    (aSeq (aIfS (aNot (aB (aIsi "list" (aVar 6)))) (aRet (aD (.bool false))) aNext)
    (aSeq (aAsg (aLstF aNil) (agName 7))
    (aSeq (aAsg (aCB cbDictV (aCons (aVar 2) aNil)) (agName 8))
    (aSeq (aFor (aiAny (aVar 1)) (agName 4) (aSeq (aAsg (aBMX bGet2 (aVar 8) (aCons (aVar 4) (aCons (aCB cbLen (aCons (aOp opIx (aVar 3) (aVar 4)) aNil)) aNil))) (agName 9))
    (aSeq (aIfS (aNot (aB (aCallP A__law_stays (aCons (aVar 4) (aCons (aOp opIx (aVar 3) (aVar 4)) (aCons (aMeth "Table" "places_of" A_Table_places_of (aVar 0) (aCons (aVar 4) aNil)) (aCons (aVar 9) (aCons (aOp (opD fAdd) (aVar 5) (aVar 6)) aNil)))))))) (aRet (aD (.bool false))) aNext)
    (aAsg (aOp (opD fAdd) (aVar 7) (aSl (aOp opIx (aVar 3) (aVar 4)) (aoS (aVar 9)) aoN)) (agName 7)))))
    (aRet (aOp (opB fEq) (aCB cbSort (aCons (aVar 6) aNil)) (aCB cbSort (aCons (aVar 7) aNil)))))))))))))
noncomputable def A__law_right : AF := aDef 3 10 B__law_right
theorem ok__law_right (g : G K mg) : DkA P w K mg base 5 "_law_right" ["_law_table", "_law_some", "_law_wanted_here"] A__law_right := g.f__law_right.dkA sc__law_right fun f cdv A outer s H E hr => ⟨_, (pss_cons (ps_set (i := 3) sc__law_right.nd rfl (Or.inl rfl) pe_dnewV)
    (pss_cons (ps_for (passes_of rfl) rfl (pi_any (K := K) (pv 1)) (pg_name (i := 4) sc__law_right.nd rfl (Or.inl rfl))
    (pss_one (ps_asg (mtA (ok_Table_places_of g) hr (L2N.takes_of rfl rfl rfl rfl) (pv 0) (pa_cons (pv 4) pa_nil)) (pg_sub (pv 3) (pv 4) (set_M (P := P) (w := w) (K := K) (hu_of hr))))))
    (pss_cons (ps_set (i := 5) sc__law_right.nd rfl (Or.inl rfl) (mtA0 (ok_Table_free g) hr (L2N.takes_of rfl rfl rfl rfl) (pv 0)))
    (pss_cons (ps_set (i := 6) sc__law_right.nd rfl (Or.inl rfl) (clA (ok__law_asked g) hr (L2N.takes_of rfl rfl rfl rfl) (pa_cons (pv 0) (pa_cons (pv 2) pa_nil))))
    (pss_cons (ps_if (pt_cmpR (kIsN (K := K)) (pv 6) pe_non (nomark _))
    (pss_cons (ps_for (passes_of rfl) rfl (pi_any (K := K) (pv 1)) (pg_name (i := 4) sc__law_right.nd rfl (Or.inl rfl))
    (pss_one (ps_if (pt_cmpR (kNe (room64 hr) (K := K)) (mtA (ok_Table_places_of g) hr (L2N.takes_of rfl rfl rfl rfl) (pv 0) (pa_cons (pv 4) pa_nil)) (pe_ix (kIxM (P := P) (w := w) (K := K) (hu_of hr)) (pv 3) (pv 4) (fun _ _ => rfl)) (nomark _))
    (pss_one (ps_ret pe_bl))
    pss_nil)))
    (pss_one (ps_ret (pe_cmpR (kEq (room64 hr) (K := K)) (mtA0 (ok_Table_free g) hr (L2N.takes_of rfl rfl rfl rfl) (pv 0)) (pv 5) (nomark _)))))
    pss_nil)
    (pss_cons (ps_if (pt_not (pt_val (bi (jIsi (K := K)) g.b_isinstance (pa_cons (pv 6) (pa_cons (bty (n := "list") g.b_list) pa_nil)))))
    (pss_one (ps_ret pe_bl))
    pss_nil)
    (pss_cons (ps_set (i := 7) sc__law_right.nd rfl (Or.inl rfl) (pe_lst pa_nil))
    (pss_cons (ps_set (i := 8) sc__law_right.nd rfl (Or.inl rfl) (bt (kDictV (P := P) (w := w) (K := K) rfl (room65 hr)) g.b_dict (pa_cons (pv 2) pa_nil)))
    (pss_cons (ps_for (passes_of rfl) rfl (pi_any (K := K) (pv 1)) (pg_name (i := 4) sc__law_right.nd rfl (Or.inl rfl))
    (pss_cons (ps_set (i := 9) sc__law_right.nd rfl (Or.inl rfl) (pe_bmX (P := P) (w := w) (K := K) PySem.F.slot_dict_get PySem.F.type_dict_get (mtx_get2 (hu_of hr)) (pv 8) (pa_cons (pv 4) (pa_cons (bi (kLenM (K := K)) g.b_len (pa_cons (pe_ix (kIxM (P := P) (w := w) (K := K) (hu_of hr)) (pv 3) (pv 4) (fun _ _ => rfl)) pa_nil)) pa_nil))))
    (pss_cons (ps_if (pt_not (pt_val (clA (ok__law_stays g) hr (L2N.takes_of rfl rfl rfl rfl) (pa_cons (pv 4) (pa_cons (pe_ix (kIxM (P := P) (w := w) (K := K) (hu_of hr)) (pv 3) (pv 4) (fun _ _ => rfl)) (pa_cons (mtA (ok_Table_places_of g) hr (L2N.takes_of rfl rfl rfl rfl) (pv 0) (pa_cons (pv 4) pa_nil)) (pa_cons (pv 9) (pa_cons (pe_op (kAdd (K := K)) (pv 5) (pv 6)) pa_nil))))))))
    (pss_one (ps_ret pe_bl))
    pss_nil)
    (pss_one (ps_set (i := 7) sc__law_right.nd rfl (Or.inl rfl) (pe_op (kAdd (K := K)) (pv 7) (pe_slice (kSl (K := K)) (pe_ix (kIxM (P := P) (w := w) (K := K) (hu_of hr)) (pv 3) (pv 4) (fun _ _ => rfl)) (po_some (pv 9)) po_none)))))))
    (pss_one (ps_ret (pe_cmpR (kEq (room64 hr) (K := K)) (bi (kSortQ (K := K) (room65 hr)) g.b_sorted (pa_cons (pv 6) pa_nil)) (bi (kSortQ (K := K) (room65 hr)) g.b_sorted (pa_cons (pv 7) pa_nil)) (nomark _))))))))))))),
    (ss_seq (ss_asg sm_dnewV sg_name)
    (ss_seq (ss_for (si_any sm_var) sg_name (ss_asg (sm_meth sm_var (sa_cons sm_var sa_nil)) (sg_sub sm_var sm_var ss_M)))
    (ss_seq (ss_asg (sm_meth sm_var sa_nil) sg_name)
    (ss_seq (ss_asg (sm_call (sa_cons sm_var (sa_cons sm_var sa_nil))) sg_name)
    (ss_seq (ss_if (st_test (sm_op os_IsN sm_var sm_non)) (ss_seq (ss_for (si_any sm_var) sg_name (ss_if (st_test (sm_op (os_Bn fNe_ok) (sm_meth sm_var (sa_cons sm_var sa_nil)) (sm_op os_Ix sm_var sm_var))) (ss_ret sm_bl) ss_next))
    (ss_ret (sm_op (os_B fEq_ok) (sm_meth sm_var sa_nil) sm_var))) ss_next)
    (ss_seq (ss_if (st_not (st_B (sm_isi sm_var))) (ss_ret sm_bl) ss_next)
    (ss_seq (ss_asg (sm_lstF sa_nil) sg_name)
    (ss_seq (ss_asg (sm_cb cs_DictV (sa_cons sm_var sa_nil)) sg_name)
    (ss_seq (ss_for (si_any sm_var) sg_name (ss_seq (ss_asg (sm_bmX ms_get2 sm_var (sa_cons sm_var (sa_cons (sm_cb cs_Len (sa_cons (sm_op os_Ix sm_var sm_var) sa_nil)) sa_nil))) sg_name)
    (ss_seq (ss_if (st_not (st_B (sm_callP (sa_cons sm_var (sa_cons (sm_op os_Ix sm_var sm_var) (sa_cons (sm_meth sm_var (sa_cons sm_var sa_nil)) (sa_cons sm_var (sa_cons (sm_op (os_D fAdd_ok) sm_var sm_var) sa_nil)))))))) (ss_ret sm_bl) ss_next)
    (ss_asg (sm_op (os_D fAdd_ok) sm_var (sm_sl (sm_op os_Ix sm_var sm_var) (so_some sm_var) so_none)) sg_name))))
    (ss_ret (sm_op (os_B fEq_ok) (sm_cb cs_Sort (sa_cons sm_var sa_nil)) (sm_cb cs_Sort (sa_cons sm_var sa_nil)))))))))))))⟩
noncomputable def B_law : AS := (aSeq (aAsg (aCallP A__law_mixed (aCons (aVar 0) (aCons (aD (.int 0)) (aCons (aD (.int 1)) aNil)))) (agName 1))
    (aSeq (aAsg (aOp (opD fAdd) (aD (.int 1)) (aOp (opD fMod) (aOp (opD fDiv) (aVar 1) (aD (.int 6))) (aD (.int 24)))) (agName 2))
    (aSeq (aIfS (aB (aOp (opB fEq) (aOp (opD fMod) (aVar 1) (aD (.int 6))) (aD (.int 0)))) (aAsg (aOp (opD fAdd) (aD (.int 1)) (aOp (opD fMod) (aOp (opD fDiv) (aVar 1) (aD (.int 6))) (aD (.int 200)))) (agName 2)) aNext)
    (aSeq (aAsg (aLc lcF (aiR1 (aCons (aD (.int 5)) aNil)) (agName 3) aYes (aCallP A__law_owner (aCons (aOp (opD fDiv) (aVar 1) (aD (.int 144))) (aCons (aVar 3) aNil))) [3]) (agName 4))
    (aSeq (aAsg (aMake "Table" A_Table___init__ (aCons (aVar 2) aNil)) (agName 5))
    (aSeq (aFor (aiR1 (aCons (aCB (cbD fMin) (aCons (aOp (opD fAdd) (aCB cbLen (aCons (aVar 0) aNil)) (aD (.int 2))) (aCons (aD (.int 30)) aNil))) aNil)) (agName 3) (aIfS (aNot (aB (aCall A__law_right (aCons (aVar 5) (aCons (aVar 4) (aCons (aCallP A__law_wanted (aCons (aVar 0) (aCons (aVar 3) (aCons (aVar 4) (aCons (aVar 2) aNil))))) aNil)))))) (aRet (aD (.bool false))) aNext))
    (aRet (aD (.bool true)))))))))
noncomputable def A_law : AF := aDef 1 6 B_law
theorem ok_law (g : G K mg) : DkA P w K mg base 6 "law" ["_law_script"] A_law := g.f_law.dkA sc_law fun f cdv A outer s H E hr => ⟨_, (pss_cons (ps_set (i := 1) sc_law.nd rfl (Or.inr rfl) (clA (ok__law_mixed g) hr (L2N.takes_of rfl rfl rfl rfl) (pa_cons (pv 0) (pa_cons pe_int (pa_cons pe_int pa_nil)))))
    (pss_cons (ps_set (i := 2) sc_law.nd rfl (Or.inl rfl) (pe_op (kAdd (K := K)) pe_int (pe_op (kMod (K := K)) (pe_op (kDiv (K := K)) (pv 1) pe_int) pe_int)))
    (pss_cons (ps_if (pt_cmpR (kEq (room64 hr) (K := K)) (pe_op (kMod (K := K)) (pv 1) pe_int) pe_int (nomark _))
    (pss_one (ps_set (i := 2) sc_law.nd rfl (Or.inl rfl) (pe_op (kAdd (K := K)) pe_int (pe_op (kMod (K := K)) (pe_op (kDiv (K := K)) (pv 1) pe_int) pe_int))))
    pss_nil)
    (pss_cons (ps_setLc (i := 4) (own := [("_law_k", 3)]) (g := gName 3) rfl sc_law.nd rfl rfl (sw_true rfl rfl rfl (by decide +kernel)) (pi_range1 (by rfl) g.b_range (pa_cons pe_int pa_nil)) (blkOk_by (own := [("_law_k", 3)]) (N := N_law) (sc := defScope s_law) (by decide +kernel)) (fun _ _ _ _ _ => (pg_name (i := 3) sc_law.nd rfl (Or.inl rfl))) (fun _ _ _ _ _ => pts_nil) (fun _ _ _ _ _ => (clA (ok__law_owner g) hr takesN0 (pa_cons (pe_op (kDiv (K := K)) (pv 1) pe_int) (pa_cons (pv 3) pa_nil)))))
    (pss_cons (ps_set (i := 5) sc_law.nd rfl (Or.inl rfl) (mkA (ok_Table___init__ g) g.cl_Table hr (L2N.takes_of rfl rfl rfl rfl) (pa_cons (pv 2) pa_nil)))
    (pss_cons (ps_for (passes_of rfl) rfl (pi_range1 (by rfl) g.b_range (pa_cons (bi (jMin rfl (K := K)) g.b_min (pa_cons (pe_op (kAdd (K := K)) (bi (kLenM (K := K)) g.b_len (pa_cons (pv 0) pa_nil)) pe_int) (pa_cons pe_int pa_nil))) pa_nil)) (pg_name (i := 3) sc_law.nd rfl (Or.inl rfl))
    (pss_one (ps_if (pt_not (pt_val (clA (ok__law_right g) hr (L2N.takes_of rfl rfl rfl rfl) (pa_cons (pv 5) (pa_cons (pv 4) (pa_cons (clA (ok__law_wanted g) hr (L2N.takes_of rfl rfl rfl rfl) (pa_cons (pv 0) (pa_cons (pv 3) (pa_cons (pv 4) (pa_cons (pv 2) pa_nil))))) pa_nil))))))
    (pss_one (ps_ret pe_bl))
    pss_nil)))
    (pss_one (ps_ret pe_bl)))))))),
    (ss_seq (ss_asg (sm_callP (sa_cons sm_var (sa_cons sm_int (sa_cons sm_int sa_nil)))) sg_name)
    (ss_seq (ss_asg (sm_op (os_D fAdd_ok) sm_int (sm_op (os_D fMod_ok) (sm_op (os_D fDiv_ok) sm_var sm_int) sm_int)) sg_name)
    (ss_seq (ss_if (st_test (sm_op (os_B fEq_ok) (sm_op (os_D fMod_ok) sm_var sm_int) sm_int)) (ss_asg (sm_op (os_D fAdd_ok) sm_int (sm_op (os_D fMod_ok) (sm_op (os_D fDiv_ok) sm_var sm_int) sm_int)) sg_name) ss_next)
    (ss_seq (ss_asg (sm_lc mk_F (si_r1 (sa_cons sm_int sa_nil)) sg_name (gw_name (gw1 3)) st_yes (sm_callP (sa_cons (sm_op (os_D fDiv_ok) sm_var sm_int) (sa_cons sm_var sa_nil)))) sg_name)
    (ss_seq (ss_asg (sm_make (sa_cons sm_var sa_nil)) sg_name)
    (ss_seq (ss_for (si_r1 (sa_cons (sm_cb (cs_D fMin_ok) (sa_cons (sm_op (os_D fAdd_ok) (sm_cb cs_Len (sa_cons sm_var sa_nil)) sm_int) (sa_cons sm_int sa_nil))) sa_nil)) sg_name (ss_if (st_not (st_B (sm_call (sa_cons sm_var (sa_cons sm_var (sa_cons (sm_callP (sa_cons sm_var (sa_cons sm_var (sa_cons sm_var (sa_cons sm_var sa_nil))))) sa_nil)))))) (ss_ret sm_bl) ss_next))
    (ss_ret sm_bl)))))))⟩
end

theorem atI_ints {ns : List Int} {i : Int} (h0 : 0 ≤ i) (h1 : i < (ns.length : Int)) : atI (ns.map PyData.int) i = some (.int (ns.getD i.toNat 0)) := by
  have hj : i.toNat < ns.length := by omega
  have e : i = ((i.toNat : Nat) : Int) := by omega
  have h : (ns.map PyData.int)[i.toNat]? = some (.int (ns.getD i.toNat 0)) := by
    rw [List.getElem?_map, List.getElem?_eq_getElem hj, List.getD_eq_getElem?_getD, List.getElem?_eq_getElem hj]
    rfl
  rw [e]
  exact atI_nat h
theorem atI_getD {α : Type} {ds : List α} {i : Int} (z : α) (h0 : 0 ≤ i) (h1 : i < (ds.length : Int)) : atI ds i = some (ds.getD i.toNat z) := by
  have hj : i.toNat < ds.length := by omega
  have e : i = ((i.toNat : Nat) : Int) := by omega
  have h : ds[i.toNat]? = some (ds.getD i.toNat z) := by
    rw [List.getElem?_eq_getElem hj, List.getD_eq_getElem?_getD, List.getElem?_eq_getElem hj]
    rfl
  exact (congrArg (atI ds) e).trans (atI_nat h)
def cellAt (ns : List Int) (k : Int) : Int := if ns.length = 0 then 0 else ns.getD (k % (ns.length : Int)).toNat 0
theorem pf_cell_at (ns : List Int) (k : Int) : pf A__law_cell_at [.list (ns.map PyData.int), .int k] = some (.ok (.int (cellAt ns k))) := by
  refine pf_of ?_
  refine vwhen (p := decide (((ns.map PyData.int).length : Int) = 0)) (by wtm_at "evt") (fun hb => ?_) fun hb => ?_
  · have hb := of_decide_eq_true hb
    rw [List.length_map] at hb
    refine wret (by wtm_at "ev") ?_
    show Av.d (.int 0) = _
    unfold cellAt
    rw [if_pos (by omega)]
  · have hb := of_decide_eq_false hb
    rw [List.length_map] at hb
    have hp : 0 < (((ns.map PyData.int).length : Nat) : Int) := by rw [List.length_map]; omega
    have h1 := Int.emod_nonneg k (show (((ns.map PyData.int).length : Nat) : Int) ≠ 0 by omega)
    have h2 := Int.emod_lt_of_pos k hp
    have hix : fIx (.list (ns.map PyData.int)) (.int (k % (((ns.map PyData.int).length : Nat) : Int))) = some (.int (ns.getD (k % (((ns.map PyData.int).length : Nat) : Int)).toNat 0)) := atI_ints h1 (by rw [List.length_map] at h2 ⊢; exact h2)
    refine wret (by wtm_at "ev") ?_
    show Av.d _ = _
    unfold cellAt
    rw [if_neg (by omega), List.length_map]
def lapOf (ns : List Int) (k : Int) : Int := k / max 1 (ns.length : Int)
def nearOf (ns : List Int) (k s : Int) : Int := (cellAt ns k % 2147483648 + 1009 * k * k + 7919 * s * s + 12) * 48271 % 2147483647
def mixF (ns : List Int) (k s : Int) : Int := (cellAt ns k / 2 ^ (31 * (s + 128 * lapOf ns k)).toNat + nearOf ns k s * nearOf ns k s % 2147483629) % 2147483648
theorem mixF_nn (ns : List Int) (k s : Int) : 0 ≤ mixF ns k s := by unfold mixF; omega
theorem mixF_lt (ns : List Int) (k s : Int) : mixF ns k s < 2147483648 := by unfold mixF; omega
theorem pf_mixed (ns : List Int) (k s : Int) (hl : ns.length ≤ 63) (hk : 0 ≤ k ∧ k ≤ 1000000) (hs : 0 ≤ s ∧ s ≤ 1000000) : pf A__law_mixed [.list (ns.map PyData.int), .int k, .int s] = some (.ok (.int (mixF ns k s))) := by
  have c := pf_cell_at ns k
  have hlen : (ns.map PyData.int).length = ns.length := List.length_map ..
  have hl0 : 0 ≤ k / max 1 (((ns.map PyData.int).length : Nat) : Int) := Int.ediv_nonneg hk.1 (by omega)
  refine pf_of ?_
  refine vset (by wtm_at "ev") ?_
  refine vset (by wtm_at "ev") ?_
  refine vset (by wtm_at "ev") ?_
  refine vset (by wtm_at "ev") ?_
  refine wret (by wtm_at "ev") ?_
  show Av.d _ = _
  unfold mixF nearOf lapOf
  rw [hlen]



/-! ### more words: fields, methods, dicts -/
local macro_rules | `(tactic| wtm_at "mem") => `(tactic| first | exact List.Mem.head _ | exact List.Mem.tail _ (List.Mem.head _))
local macro_rules | `(tactic| wtm_at "fo") => `(tactic| first
  | ((with_reducible apply f_ixL); assumption; assumption)
  | ((with_reducible apply f_ixC); assumption; (first | assumption | exact rfl))
  | ((with_reducible apply f_lenC); assumption; exact rfl)
  | ((with_reducible apply f_get2); assumption; (first | assumption | exact rfl))
  | ((with_reducible apply f_inF); assumption) | ((with_reducible apply f_inT); assumption)
  | ((with_reducible apply f_lst); (first | assumption | exact rfl)) | ((with_reducible apply f_tup); (first | assumption | exact rfl)))
local macro_rules | `(tactic| wtm_at "ev") => `(tactic| first
  | ((with_reducible apply e_fld); wtm_at "ev"; assumption; wtm_at "mem"; exact rfl)
  | ((with_reducible apply e_meth); wtm_at "ev"; assumption; exact rfl; wtm_at "evs"; assumption)
  | ((with_reducible apply e_bmX); wtm_at "ev"; ((apply isX_of); assumption; exact rfl); wtm_at "evs"; wtm_at "fo")
  | ((with_reducible apply e_bmL); wtm_at "ev"; ((apply isL_of); assumption); wtm_at "evs"; wtm_at "fo"))

/-! ### tables, plain -/
/-- an owner: a text, or a tuple of texts -/
inductive Kk where
  | s (x : Str)
  | t (xs : List Str)
  deriving DecidableEq
def toV : Kk → Vd.Vk
  | .s x => .a (some (.inr x))
  | .t xs => .t (xs.map .inr)
def kD : Kk → D
  | .s x => .str x
  | .t xs => .tuple (xs.map .str)
theorem keysOf_map : ∀ k : List Str, keysOf (k.map PyData.str) = some (k.map Sum.inr)
  | [] => rfl
  | a :: k => by rw [List.map_cons]; unfold keysOf; rw [keysOf_map k] <;> rfl
theorem vk_kD (k : Kk) : vkOf (kD k) = some (toV k) := by
  cases k with
  | s x => rfl
  | t xs =>
    show (keysOf (xs.map PyData.str)).map Vd.Vk.t = _
    rw [keysOf_map] <;> rfl
theorem toV_inj (j k : Kk) (h : toV j = toV k) : j = k := by
  cases j with
  | s x =>
    cases k with
    | s y => cases h; rfl
    | t ys => cases h
  | t xs =>
    cases k with
    | s y => cases h
    | t ys =>
      have h := Vd.Vk.t.inj h
      have : ∀ xs ys : List Str, xs.map (Sum.inr : Str → Key) = ys.map Sum.inr → xs = ys := fun xs => by
        induction xs with
        | nil => intro ys h; cases ys with
          | nil => rfl
          | cons y ys => cases h
        | cons x xs ih => intro ys h; cases ys with
          | nil => cases h
          | cons y ys =>
            rw [List.map_cons, List.map_cons] at h
            injection h with h1 h2
            rw [Sum.inr.inj h1, ih ys h2]
      rw [this xs ys h]
theorem kD_inj {j k : Kk} (h : kD j = kD k) : j = k := by
  have := congrArg vkOf h
  rw [vk_kD, vk_kD] at this
  exact toV_inj _ _ (Option.some.inj this)
def hD : Option Kk → D
  | none => .none
  | some k => kD k
def nD (n : Nat) : D := .int (n : Int)
structure Tab where
  hold : List (Option Kk)
  own : List (Kk × List Nat)
def plc (T : Tab) (k : Kk) : List Nat := (vl T.own k).getD []
def frees (T : Tab) : List Nat := (T.hold.zipIdx.filter fun p => p.1.isNone).map (·.2)
def wipe (h : List (Option Kk)) (xs : List Nat) (v : Option Kk) : List (Option Kk) := xs.foldl (fun h x => h.set x v) h
def gbT (T : Tab) (k : Kk) (n : Nat) : Tab := ⟨wipe T.hold ((plc T k).drop n).reverse none, pu T.own k ((plc T k).take n)⟩
def gbB (T : Tab) (k : Kk) (n : Nat) : List Nat := ((plc T k).drop n).reverse
def tkF (T : Tab) (k : Kk) (n : Nat) : List Nat := (frees T).take (n - (plc T k).length)
def tkT (T : Tab) (k : Kk) (n : Nat) : Tab := ⟨wipe T.hold (tkF T k n) (some k), pu T.own k (plc T k ++ tkF T k n)⟩
def room (T : Tab) (ws : List (Kk × Nat)) : Int := (frees T).length + (ws.map fun w => ((plc T w.1).length : Int) - w.2).sum
def gbs : Tab → List (Kk × Nat) → Tab
  | T, [] => T
  | T, w :: ws => gbs (gbT T w.1 w.2) ws
def gbsB : Tab → List (Kk × Nat) → List Nat
  | T, [] => []
  | T, w :: ws => gbB T w.1 w.2 ++ gbsB (gbT T w.1 w.2) ws
def tks : Tab → List (Kk × Nat) → Tab
  | T, [] => T
  | T, w :: ws => tks (tkT T w.1 w.2) ws
def toldT (T : Tab) (ws : List (Kk × Nat)) : Option (Tab × List Nat) := if room T ws < 0 then none else some (tks (gbs T ws) ws, gbsB T ws)
structure TabOk (T : Tab) : Prop where
  keys : (T.own.map (·.1)).Nodup
  lst : ∀ k ps, vl T.own k = some ps → ps.Nodup ∧ ∀ x ∈ ps, T.hold[x]? = some (some k)
  has : ∀ x k, T.hold[x]? = some (some k) → x ∈ plc T k
  len : T.hold.length ≤ 1000
theorem wipe_len (v : Option Kk) : ∀ (xs : List Nat) (h : List (Option Kk)), (wipe h xs v).length = h.length
  | [], h => rfl
  | x :: xs, h => by
    show (wipe (h.set x v) xs v).length = _
    rw [wipe_len v xs, List.length_set]
theorem wipe_get (v : Option Kk) (i : Nat) : ∀ (xs : List Nat) (h : List (Option Kk)), (wipe h xs v)[i]? = if i ∈ xs ∧ i < h.length then some v else h[i]?
  | [], h => by simp [wipe]
  | x :: xs, h => by
    show (wipe (h.set x v) xs v)[i]? = _
    rw [wipe_get v i xs, List.length_set, List.getElem?_set]
    by_cases hl : i < h.length
    · by_cases hx : i ∈ xs
      · simp [hl, hx]
      · by_cases e : x = i
        · subst e; simp [hl, hx]
        · have e' : ¬ i = x := fun z => e z.symm
          simp [hl, hx, e, e']
    · rw [List.getElem?_eq_none (by omega)]
      simp [hl]
      intro e; omega
theorem mem_frees {T : Tab} {x : Nat} : x ∈ frees T ↔ T.hold[x]? = some none := by
  unfold frees
  rw [List.mem_map]
  constructor
  · rintro ⟨⟨o, i⟩, h, rfl⟩
    rw [List.mem_filter] at h
    obtain ⟨h1, h2⟩ := h
    have h2 : o.isNone = true := h2
    rw [Option.isNone_iff_eq_none] at h2
    subst h2
    exact List.mk_mem_zipIdx_iff_getElem?.mp h1
  · intro h
    exact ⟨(none, x), List.mem_filter.mpr ⟨List.mk_mem_zipIdx_iff_getElem?.mpr h, rfl⟩, rfl⟩
theorem frees_lt {T : Tab} : (frees T).Pairwise (· < ·) := by
  unfold frees
  rw [List.pairwise_map]
  refine List.Pairwise.filter _ ?_
  rw [List.pairwise_iff_getElem]
  intro i j hi hj hij
  rw [List.getElem_zipIdx, List.getElem_zipIdx]
  simpa using hij
theorem frees_nodup {T : Tab} : (frees T).Nodup := frees_lt.imp fun h => Nat.ne_of_lt h
theorem nodup_len {xs : List Nat} {n : Nat} (hn : xs.Nodup) (h : ∀ x ∈ xs, x < n) : xs.length ≤ n := by
  have := hn.length_le_of_subset (l₂ := List.range n) fun x hx => List.mem_range.mpr (h x hx)
  rwa [List.length_range] at this
theorem get_lt {α : Type} {l : List α} {i : Nat} {x : α} (h : l[i]? = some x) : i < l.length := (List.getElem?_eq_some_iff.mp h).1
section
variable {T : Tab} {k : Kk} {n : Nat}
theorem TabOk.plc (h : TabOk T) (k : Kk) : (plc T k).Nodup ∧ ∀ x ∈ plc T k, T.hold[x]? = some (some k) := by
  unfold My.plc
  cases e : vl T.own k with
  | none => exact ⟨List.nodup_nil, fun x hx => nomatch hx⟩
  | some ps => exact h.lst k ps e
theorem TabOk.plen (h : TabOk T) (k : Kk) : (My.plc T k).length ≤ 1000 := Nat.le_trans (nodup_len (h.plc k).1 fun x hx => get_lt ((h.plc k).2 x hx)) h.len
theorem TabOk.flen (h : TabOk T) : (frees T).length ≤ 1000 := Nat.le_trans (nodup_len frees_nodup fun x hx => get_lt (mem_frees.mp hx)) h.len
theorem gbT_plc (j : Kk) : plc (gbT T k n) j = if k = j then (plc T k).take n else plc T j := by
  unfold plc gbT
  dsimp only
  rw [vl_pu]
  by_cases e : k = j
  · rw [if_pos e, if_pos e] <;> rfl
  · rw [if_neg e, if_neg e]
theorem tkT_plc (j : Kk) : plc (tkT T k n) j = if k = j then plc T k ++ tkF T k n else plc T j := by
  unfold plc tkT
  dsimp only
  rw [vl_pu]
  by_cases e : k = j
  · rw [if_pos e, if_pos e] <;> rfl
  · rw [if_neg e, if_neg e]
theorem gbT_ok (h : TabOk T) : TabOk (gbT T k n) := by
  have hp := h.plc k
  have hl : (gbT T k n).hold.length = T.hold.length := wipe_len ..
  have hg : ∀ i, (gbT T k n).hold[i]? = if i ∈ (plc T k).drop n then some none else T.hold[i]? := fun i => by
    show (wipe T.hold ((plc T k).drop n).reverse none)[i]? = _
    rw [wipe_get]
    by_cases hi : i ∈ (plc T k).drop n
    · rw [if_pos ⟨by simpa using hi, get_lt (hp.2 i (List.mem_of_mem_drop hi))⟩, if_pos hi]
    · rw [if_neg (fun z => hi (by simpa using z.1)), if_neg hi]
  have hd : ∀ x ∈ (plc T k).take n, x ∉ (plc T k).drop n := fun x h1 h2 => by
    have := hp.1
    rw [← List.take_append_drop n (plc T k), List.nodup_append] at this
    exact this.2.2 x h1 x h2 rfl
  refine ⟨keys_nodup h.keys, fun j ps e => ?_, fun x j e => ?_, by rw [hl]; exact h.len⟩
  · have e : vl (pu T.own k ((plc T k).take n)) j = some ps := e
    rw [vl_pu] at e
    by_cases ej : k = j
    · rw [if_pos ej] at e; cases e; subst ej
      refine ⟨hp.1.sublist (List.take_sublist ..), fun x hx => ?_⟩
      rw [hg, if_neg (hd x hx)]
      exact hp.2 x (List.mem_of_mem_take hx)
    · rw [if_neg ej] at e
      obtain ⟨h1, h2⟩ := h.lst j ps e
      refine ⟨h1, fun x hx => ?_⟩
      rw [hg, if_neg (fun z => ej ?_)]
      · exact h2 x hx
      · have a := hp.2 x (List.mem_of_mem_drop z)
        rw [h2 x hx] at a
        exact (Option.some.inj (Option.some.inj a)).symm
  · rw [hg] at e
    by_cases hx : x ∈ (plc T k).drop n
    · rw [if_pos hx] at e; cases e
    · rw [if_neg hx] at e
      have a := h.has x j e
      rw [gbT_plc]
      by_cases ej : k = j
      · rw [if_pos ej]; subst ej
        rw [← List.take_append_drop n (plc T k), List.mem_append] at a
        exact a.resolve_right hx
      · rw [if_neg ej]; exact a
theorem tkT_ok (h : TabOk T) : TabOk (tkT T k n) := by
  have hp := h.plc k
  have hl : (tkT T k n).hold.length = T.hold.length := wipe_len ..
  have hf : ∀ x ∈ tkF T k n, T.hold[x]? = some none := fun x hx => mem_frees.mp (List.mem_of_mem_take hx)
  have hg : ∀ i, (tkT T k n).hold[i]? = if i ∈ tkF T k n then some (some k) else T.hold[i]? := fun i => by
    show (wipe T.hold (tkF T k n) (some k))[i]? = _
    rw [wipe_get]
    by_cases hi : i ∈ tkF T k n
    · rw [if_pos ⟨hi, get_lt (hf i hi)⟩, if_pos hi]
    · rw [if_neg (fun z => hi z.1), if_neg hi]
  have no : ∀ x j, T.hold[x]? = some (some j) → x ∉ tkF T k n := fun x j e z => by
    rw [hf x z] at e; cases e
  refine ⟨keys_nodup h.keys, fun j ps e => ?_, fun x j e => ?_, by rw [hl]; exact h.len⟩
  · have e : vl (pu T.own k (plc T k ++ tkF T k n)) j = some ps := e
    rw [vl_pu] at e
    by_cases ej : k = j
    · rw [if_pos ej] at e; cases e; subst ej
      refine ⟨?_, fun x hx => ?_⟩
      · rw [List.nodup_append]
        exact ⟨hp.1, frees_nodup.sublist (List.take_sublist ..), fun a ha b hb z => no b k (z ▸ hp.2 a ha) hb⟩
      · rw [hg]
        rcases List.mem_append.mp hx with z | z
        · rw [if_neg (no x k (hp.2 x z))]; exact hp.2 x z
        · rw [if_pos z]
    · rw [if_neg ej] at e
      obtain ⟨h1, h2⟩ := h.lst j ps e
      refine ⟨h1, fun x hx => ?_⟩
      rw [hg, if_neg (no x j (h2 x hx))]
      exact h2 x hx
  · rw [hg] at e
    rw [tkT_plc]
    by_cases hx : x ∈ tkF T k n
    · rw [if_pos hx] at e
      rw [if_pos (Option.some.inj (Option.some.inj e))]
      exact List.mem_append_right _ hx
    · rw [if_neg hx] at e
      have a := h.has x j e
      by_cases ej : k = j
      · rw [if_pos ej]; subst ej; exact List.mem_append_left _ a
      · rw [if_neg ej]; exact a
theorem gbT_key {j : Kk} : j ∈ (gbT T k n).own.map (·.1) ↔ j = k ∨ j ∈ T.own.map (·.1) := keys_mem
theorem tkT_key {j : Kk} : j ∈ (tkT T k n).own.map (·.1) ↔ j = k ∨ j ∈ T.own.map (·.1) := keys_mem
theorem gbs_app : ∀ (ws vs : List (Kk × Nat)) (T : Tab), gbs T (ws ++ vs) = gbs (gbs T ws) vs
  | [], vs, T => rfl
  | w :: ws, vs, T => gbs_app ws vs _
theorem gbsB_app : ∀ (ws vs : List (Kk × Nat)) (T : Tab), gbsB T (ws ++ vs) = gbsB T ws ++ gbsB (gbs T ws) vs
  | [], vs, T => rfl
  | w :: ws, vs, T => by
    show gbB T w.1 w.2 ++ gbsB _ (ws ++ vs) = gbB T w.1 w.2 ++ gbsB _ ws ++ _
    rw [gbsB_app ws vs, List.append_assoc] <;> rfl
theorem tks_app : ∀ (ws vs : List (Kk × Nat)) (T : Tab), tks T (ws ++ vs) = tks (tks T ws) vs
  | [], vs, T => rfl
  | w :: ws, vs, T => tks_app ws vs _
theorem gbs_ok : ∀ (ws : List (Kk × Nat)) (T : Tab), TabOk T → TabOk (gbs T ws)
  | [], T, h => h
  | w :: ws, T, h => gbs_ok ws _ (gbT_ok h)
theorem tks_ok : ∀ (ws : List (Kk × Nat)) (T : Tab), TabOk T → TabOk (tks T ws)
  | [], T, h => h
  | w :: ws, T, h => tks_ok ws _ (tkT_ok h)
theorem toldT_ok {ws : List (Kk × Nat)} {T2 : Tab} {B : List Nat} (h : TabOk T) (e : toldT T ws = some (T2, B)) : TabOk T2 := by
  unfold toldT at e
  split at e
  · cases e
  · cases e; exact tks_ok _ _ (gbs_ok _ _ h)
theorem gbs_len : ∀ (ws : List (Kk × Nat)) (T : Tab), (gbs T ws).hold.length = T.hold.length
  | [], T => rfl
  | w :: ws, T => (gbs_len ws _).trans (wipe_len ..)
theorem tks_len : ∀ (ws : List (Kk × Nat)) (T : Tab), (tks T ws).hold.length = T.hold.length
  | [], T => rfl
  | w :: ws, T => (tks_len ws _).trans (wipe_len ..)
theorem toldT_len {ws : List (Kk × Nat)} {T2 : Tab} {B : List Nat} (e : toldT T ws = some (T2, B)) : T2.hold.length = T.hold.length := by
  unfold toldT at e
  split at e
  · cases e
  · cases e; rw [tks_len, gbs_len]
theorem gbs_keyw : ∀ (ws : List (Kk × Nat)) (T : Tab) (j : Kk), j ∈ (gbs T ws).own.map (·.1) ↔ j ∈ ws.map (·.1) ∨ j ∈ T.own.map (·.1)
  | [], T, j => by simp [gbs]
  | w :: ws, T, j => by
    show j ∈ (gbs (gbT T w.1 w.2) ws).own.map (·.1) ↔ _
    rw [gbs_keyw ws, gbT_key, List.map_cons, List.mem_cons]
    constructor
    · rintro (h | h | h)
      · exact .inl (.inr h)
      · exact .inl (.inl h)
      · exact .inr h
    · rintro ((h | h) | h)
      · exact .inr (.inl h)
      · exact .inl h
      · exact .inr (.inr h)
theorem gbsB_len : ∀ (ws : List (Kk × Nat)) (T : Tab), TabOk T → (gbsB T ws).length ≤ 1000 * ws.length
  | [], T, _ => Nat.zero_le _
  | w :: ws, T, h => by
    have h1 := gbsB_len ws _ (gbT_ok (k := w.1) (n := w.2) h)
    have h2 : (gbB T w.1 w.2).length ≤ 1000 := by
      unfold gbB
      rw [List.length_reverse, List.length_drop]
      have := h.plen w.1
      omega
    show (gbB T w.1 w.2 ++ gbsB _ ws).length ≤ 1000 * (ws.length + 1)
    rw [List.length_append]; omega
end

/-! ### tables: their cells -/
inductive RT where
  | tb | ho | li
  | ow (k : Kk)
  deriving DecidableEq
def ctT (T : Tab) (ℓ : RT → Nat) : RT → Option Cl
  | .tb => some (.ins "Table" [("holders", .o (ℓ .ho)), ("lists", .o (ℓ .li))])
  | .ho => some (.lst ((T.hold.map hD).map .d))
  | .li => some (.dv (T.own.map fun p => (toV p.1, .o (ℓ (.ow p.1)))))
  | .ow k => (vl T.own k).map fun ps => .lst ((ps.map nD).map .d)
abbrev Rdy {R : Type} (ct : R → Option Cl) (ℓ : R → Nat) (S : Sg) : Prop := ∀ r c, ct r = some c → S[ℓ r]? = some c
section
variable {T : Tab} {ℓ : RT → Nat} {S : Sg} {k : Kk} {n : Nat}
theorem ctT_own {v : List Nat} (hk : k ∈ T.own.map (·.1)) (s : RT) : ctT ⟨T.hold, pu T.own k v⟩ ℓ s = if s = .ow k then some (.lst ((v.map nD).map .d)) else ctT T ℓ s := by
  cases s with
  | tb => rfl
  | ho => rfl
  | li =>
    rw [if_neg (fun z => nomatch z)]
    show some (Cl.dv ((pu T.own k v).map fun p => (toV p.1, .o (ℓ (.ow p.1))))) = some (Cl.dv (T.own.map fun p => (toV p.1, .o (ℓ (.ow p.1)))))
    rw [map_pu_key (g := fun a => (toV a, Av.o (ℓ (.ow a)))) hk]
  | ow j =>
    show (vl (pu T.own k v) j).map _ = if RT.ow j = .ow k then _ else (vl T.own j).map _
    rw [vl_pu]
    by_cases e : k = j
    · subst e; rw [if_pos rfl, if_pos rfl] <;> rfl
    · rw [if_neg e, if_neg (fun z => e (by cases z; rfl))]
theorem ctT_hold {h : List (Option Kk)} (s : RT) : ctT ⟨h, T.own⟩ ℓ s = if s = .ho then some (.lst ((h.map hD).map .d)) else ctT T ℓ s := by
  cases s <;> rfl
theorem look_own (k : Kk) : lookC (.dv (T.own.map fun p => (toV p.1, .o (ℓ (.ow p.1))))) (kD k) = some ((vl T.own k).map fun _ => .o (ℓ (.ow k))) := by
  show (vkOf (kD k)).map (valA _) = _
  rw [vk_kD]
  exact congrArg some (valA_map (f := toV) toV_inj (g := fun k _ => Av.o (ℓ (.ow k))))
theorem places_ok (hr : Rdy (ctT T ℓ) ℓ S) (k : Kk) : A_Table_places_of [.o (ℓ .tb), .d (kD k)] S = some (.ok (.d (.list ((plc T k).map nD))), S) := by
  have h1 := hr .tb _ rfl
  have h2 := hr .li _ rfl
  have h3 := look_own (T := T) (ℓ := ℓ) k
  cases e : vl T.own k with
  | none =>
    have e2 : plc T k = [] := by unfold plc; rw [e] <;> rfl
    rw [e] at h3
    refine def_ro (wret (e_cb (es_cons (e_bmX (by wtm_at "ev") (isX_of h2 rfl) (by wtm_at "evs") (f_get2 h2 h3)) es_nil) (f_lst (ds := []) rfl)) ⟨rfl, ?_⟩)
    rw [e2] <;> rfl
  | some ps =>
    have e2 : plc T k = ps := by unfold plc; rw [e] <;> rfl
    rw [e] at h3
    have h4 := seqD_lst (hr (.ow k) (.lst ((ps.map nD).map .d)) (by show (vl T.own k).map _ = _; rw [e] <;> rfl))
    refine def_ro (wret (e_cb (es_cons (e_bmX (by wtm_at "ev") (isX_of h2 rfl) (by wtm_at "evs") (f_get2 h2 h3)) es_nil) (f_lst h4)) ⟨rfl, ?_⟩)
    rw [e2]
theorem enum_zip (ds : List (Option Kk)) : ((ds.map hD).mapIdx fun i d => Av.d (.tuple [.int (i : Nat), d])) = ds.zipIdx.map fun p => Av.d (.tuple [.int (p.2 : Nat), hD p.1]) := by
  rw [List.mapIdx_eq_zipIdx_map, List.zipIdx_map, List.map_map] <;> rfl
theorem free_ok (hr : Rdy (ctT T ℓ) ℓ S) (hl : T.hold.length ≤ 100000) : A_Table_free [.o (ℓ .tb)] S = some (.ok (.d (.list ((frees T).map nD))), S) := by
  have h1 := hr .tb _ rfl
  have h2 := hr .ho _ rfl
  refine def_ro (wret (x := .d (.list ((frees T).map nD))) ?_ ⟨rfl, rfl⟩)
  unfold frees
  rw [List.map_map]
  refine aLc_T T.hold.zipIdx (fun p => Av.d (.tuple [.int (p.2 : Nat), hD p.1])) (fun p => p.1.isNone) (fun p => nD p.2) (i_enum (xs := (T.hold.map hD).map .d) (by wtm_at "evs") h2) (fun i => ?_) (by rw [List.length_zipIdx]; exact hl) fun p hp => ?_
  · rw [itE_it h2, enum_zip]
  · refine ⟨_, rfl, ?_, fun _ => by wtm_at "ev"⟩
    have h4 : fIs (hD p.1) .none = some (.bool p.1.isNone) := by
      cases p.1 with
      | none => rfl
      | some k => cases k <;> rfl
    wtm_at "evt"
end


section
variable {R : Type} {ct ct' : R → Option Cl} {ℓ : R → Nat} {c : Cl} {r : R} {b : Nat}
theorem Im.of_set [DecidableEq R] (he : ∀ s, ct' s = if s = r then some c else ct s) (hr : ct r ≠ none) (h : ¬ Im ct ℓ b) : ¬ Im ct' ℓ b := fun ⟨s, h1, h2⟩ => h ⟨s, (by
  rw [he] at h1
  by_cases e : s = r
  · rw [e]; exact hr
  · rwa [if_neg e] at h1), h2⟩
end
section
variable {α : Type} {f : α → D}
theorem pop_map (xs : List α) (x : α) : fPop (((xs ++ [x]).map f).map Av.d) [] = some (.d (f x), (xs.map f).map .d) := by
  unfold fPop
  dsimp only
  rw [List.map_append, List.map_append, List.length_append, List.map_singleton, List.map_singleton, List.length_singleton, Nat.add_sub_cancel, get_last, List.dropLast_concat] <;> rfl
theorem app_map (xs : List α) (x : α) (h : xs.length < 100000) : fAppend ((xs.map f).map Av.d) [.d (f x)] = some (.d .none, ((xs ++ [x]).map f).map .d) := by
  unfold fAppend
  dsimp only
  rw [if_pos (by rw [List.length_map, List.length_map]; exact h), List.map_append, List.map_append]; rfl
theorem set_map (xs : List α) (x : α) {n : Nat} (h : n < xs.length) : putC (.lst ((xs.map f).map Av.d)) (nD n) (.d (f x)) = some (.lst (((xs.set n x).map f).map .d)) := by
  unfold putC nD
  dsimp only
  rw [ix_nat (by rw [List.length_map, List.length_map]; exact h), List.map_set, List.map_set]; rfl
end
theorem wwhile {t : AT} {b : AS} {σ : Sl} {S : Sg} {Q : Fl → Sl → Sg → Prop} (I : Nat → Sl → Sg → Prop) (m : Nat) (hm : m < 1000000) (h0 : I m σ S)
    (step : ∀ m σ S, I m σ S → ∃ c, t σ S = some (.ok c, S) ∧ (c = false → Q .nx σ S) ∧ (c = true → wS b σ S (fun fl σ' S' => match fl with | .nx => ∃ m', m' < m ∧ I m' σ' S' | .ct => ∃ m', m' < m ∧ I m' σ' S' | .bk => Q .nx σ' S' | .rt x => Q (.rt x) σ' S' | .ex e => Q (.ex e) σ' S'))) : wS (aWhile t b) σ S Q :=
  while_wp I m hm h0 fun m σ S h => by
    obtain ⟨c, e, h1, h2⟩ := step m σ S h
    exact ⟨c, S, e, h1, h2⟩
section
variable {T : Tab} {ℓ : RT → Nat} {S : Sg} {k : Kk} {n : Nat}
def ℓn (ℓ : RT → Nat) (k : Kk) (b : Nat) : RT → Nat := fun r => if r = .ow k then b else ℓ r
theorem ctT_new (hk : k ∉ T.own.map (·.1)) (b : Nat) (s : RT) : ctT ⟨T.hold, pu T.own k []⟩ (ℓn ℓ k b) s = if s = .li then some (.dv (putA (T.own.map fun p => (toV p.1, Av.o (ℓ (.ow p.1)))) (toV k) (.o b))) else if s = .ow k then some (.lst []) else ctT T ℓ s := by
  cases s with
  | tb => rfl
  | ho => rfl
  | li =>
    rw [if_pos rfl]
    show some (Cl.dv ((pu T.own k []).map fun p => (toV p.1, .o (ℓn ℓ k b (.ow p.1))))) = _
    have hk' : toV k ∉ (T.own.map fun p => (toV p.1, Av.o (ℓ (.ow p.1)))).map (·.1) := by
      rw [List.map_map]
      intro hm
      obtain ⟨p, hp, e⟩ := List.mem_map.mp hm
      exact hk (toV_inj _ _ e ▸ List.mem_map.mpr ⟨p, hp, rfl⟩)
    rw [putA_no _ hk', pu_no hk, List.map_append]
    congr 3
    · refine List.map_congr_left fun p hp => ?_
      have : ¬ RT.ow p.1 = .ow k := fun z => hk (by cases z; exact List.mem_map.mpr ⟨p, hp, rfl⟩)
      unfold ℓn
      rw [if_neg this]
    · unfold ℓn
      rw [List.map_singleton, if_pos rfl]
  | ow j =>
    rw [if_neg (fun z => nomatch z)]
    show (vl (pu T.own k []) j).map _ = if RT.ow j = .ow k then _ else (vl T.own j).map _
    rw [vl_pu]
    by_cases e : k = j
    · subst e; rw [if_pos rfl, if_pos rfl] <;> rfl
    · rw [if_neg e, if_neg (fun z => e (by cases z; rfl))]
theorem setd_ok (h : RR (ctT T ℓ) ℓ S) (hn : (T.own.map (·.1)).Nodup) (hl : T.own.length < 100000) {σ : Sl} (h0 : σ[0]? = some (some (.o (ℓ .tb)))) (h1 : σ[1]? = some (some (.d (kD k)))) :
    ∃ ℓ1 S1, aBMX bSetd (aFld ["Table"] "lists" (aVar 0)) (aCons (aVar 1) (aCons (aLstC aNil) aNil)) σ S = some (.ok (.o (ℓ1 (.ow k))), S1) ∧ Stp (ctT T ℓ) (ctT ⟨T.hold, pu T.own k (plc T k)⟩ ℓ1) ℓ ℓ1 S S1 := by
  have g1 := h.at_ .tb _ rfl
  have g2 := h.at_ .li _ rfl
  have g3 := look_own (T := T) (ℓ := ℓ) k
  have pc : putC (.dv (T.own.map fun p => (toV p.1, .o (ℓ (.ow p.1))))) (kD k) (.o S.length) = some (.dv (putA (T.own.map fun p => (toV p.1, Av.o (ℓ (.ow p.1)))) (toV k) (.o S.length))) := by
    unfold putC
    dsimp only
    rw [if_pos (by rw [List.length_map]; exact hl), vk_kD]; rfl
  have ev1 : aFld ["Table"] "lists" (aVar 0) σ S = some (.ok (.o (ℓ .li)), S) := e_fld (e_var h0) g1 (by wtm_at "mem") rfl
  have ev2 : (aCons (aVar 1) (aCons (aLstC aNil) aNil)) σ S = some (.ok [.d (kD k), .o S.length], S ++ [.lst []]) := es_cons (e_var h1) (es_cons (by wtm_at "ev") es_nil)
  cases e : vl T.own k with
  | some ps =>
    have e2 : plc T k = ps := by unfold plc; rw [e] <;> rfl
    rw [e] at g3
    refine ⟨ℓ, S ++ [.lst []], e_bmX ev1 (isX_of g2 rfl) ev2 (f_setd_in (get_app g2) rfl g3 pc), ?_⟩
    rw [e2, pu_self hn e]
    exact (Stp.refl h).app
  | none =>
    have e2 : plc T k = [] := by unfold plc; rw [e] <;> rfl
    rw [e] at g3
    have hk := vl_none.mp e
    have hc : ctT T ℓ (.ow k) = none := by show (vl T.own k).map _ = none; rw [e] <;> rfl
    have en : ℓn ℓ k S.length (.ow k) = S.length := by unfold ℓn; rw [if_pos rfl]
    refine ⟨ℓn ℓ k S.length, (S ++ [Cl.lst []]).set (ℓ .li) (.dv (putA (T.own.map fun p => (toV p.1, Av.o (ℓ (.ow p.1)))) (toV k) (.o S.length))), ?_, ?_⟩
    · rw [en]
      exact e_bmX ev1 (isX_of g2 rfl) ev2 (f_setd_no (get_app g2) rfl g3 pc)
    · rw [e2]
      have s1 : Stp (ctT T ℓ) (ctT T ℓ) ℓ ℓ S (S ++ [Cl.lst []]) := (Stp.refl h).app
      have s2 := s1.adopt (r := .ow k) (ct'' := fun s => if s = .ow k then some (Cl.lst []) else ctT T ℓ s) (ℓ'' := ℓn ℓ k S.length) (get_last S (Cl.lst [])) (Nat.le_refl _) (Im.no_len h) hc (fun s => rfl) (fun s => rfl)
      exact s2.set (r := .li) (by rw [if_neg (fun z => nomatch z)]; exact fun z => nomatch z) (ctT_new hk S.length)
theorem gb_ok (h : RR (ctT T ℓ) ℓ S) (hT : TabOk T) (hl : T.own.length < 100000) : ∃ b ℓ' S', A_Table_give_back [.o (ℓ .tb), .d (kD k), .d (nD n)] S = some (.ok (.o b), S') ∧ Stp (ctT T ℓ) (ctT (gbT T k n) ℓ') ℓ ℓ' S S' ∧ S.length ≤ b ∧ S'[b]? = some (.lst (((gbB T k n).map nD).map .d)) ∧ ¬ Im (ctT (gbT T k n) ℓ') ℓ' b := by
  obtain ⟨ℓ1, S1, e1, st1⟩ := setd_ok (k := k) (σ := [some (.o (ℓ .tb)), some (.d (kD k)), some (.d (nD n)), none, none, none]) h hT.keys hl rfl rfl
  have htb : ℓ1 .tb = ℓ .tb := (st1.keep .tb (fun z => nomatch z)).2
  have hp := hT.plc k
  have main : ∃ r S', A_Table_give_back [.o (ℓ .tb), .d (kD k), .d (nD n)] S = some (r, S') ∧ (∃ b ℓ', r = .ok (.o b) ∧ Stp (ctT T ℓ) (ctT (gbT T k n) ℓ') ℓ ℓ' S S' ∧ S.length ≤ b ∧ S'[b]? = some (.lst (((gbB T k n).map nD).map .d)) ∧ ¬ Im (ctT (gbT T k n) ℓ') ℓ' b) := by
    refine def_ex (vset e1 (vset (x := .o S1.length) (S1 := S1 ++ [Cl.lst []]) (by wtm_at "ev") (wseq (wwhile (fun m σ S' => ∃ (hh : List (Option Kk)) (qs bs : List Nat) (x5 : Option Av), m = qs.length - n ∧ σ = [some (.o (ℓ .tb)), some (.d (kD k)), some (.d (nD n)), some (.o (ℓ1 (.ow k))), some (.o S1.length), x5] ∧ Stp (ctT T ℓ) (ctT ⟨hh, pu T.own k qs⟩ ℓ1) ℓ ℓ1 S S' ∧ S'[S1.length]? = some (.lst ((bs.map nD).map .d)) ∧ (¬ Im (ctT ⟨hh, pu T.own k qs⟩ ℓ1) ℓ1 S1.length) ∧ wipe hh (qs.drop n).reverse none = (gbT T k n).hold ∧ qs.take n = (plc T k).take n ∧ bs ++ (qs.drop n).reverse = gbB T k n ∧ (∀ x ∈ qs, x < hh.length) ∧ bs.length + qs.length ≤ 1000) ((plc T k).length - n) ?_ ?_ ?_))))
    · have := hT.plen k; omega
    · exact ⟨T.hold, plc T k, [], none, rfl, rfl, st1.app, get_last .., Im.no_len st1.rr, rfl, rfl, rfl, fun x hx => get_lt (hp.2 x hx), by have := hT.plen k; simpa using this⟩
    · rintro m σ S' ⟨hh, qs, bs, x5, rfl, rfl, st, hb, hi, w1, w2, w3, w4, w5⟩
      have hlive : ctT ⟨hh, pu T.own k qs⟩ ℓ1 (.ow k) = some (.lst ((qs.map nD).map .d)) := by show (vl (pu T.own k qs) k).map _ = _; rw [vl_pu, if_pos rfl] <;> rfl
      have k1 := st.rr.at_ (.ow k) _ hlive
      have k2 : S'[ℓ .tb]? = some (.ins "Table" [("holders", .o (ℓ1 .ho)), ("lists", .o (ℓ1 .li))]) := by rw [← htb]; exact st.rr.at_ .tb _ rfl
      have k3 := st.rr.at_ .ho _ rfl
      refine ⟨decide ((n : Int) < (qs.length : Int)), t_to (by wtm_at "evt") (by rw [List.length_map, List.length_map]), fun hc => ?_, fun hc => ?_⟩
      · have hc := of_decide_eq_false hc
        have hd : qs.drop n = [] := List.drop_eq_nil_of_le (by omega)
        have ht : qs.take n = qs := List.take_of_length_le (by omega)
        rw [hd] at w1 w3
        rw [ht] at w2
        have eT : (⟨hh, pu T.own k qs⟩ : Tab) = gbT T k n := by
          show (⟨hh, pu T.own k qs⟩ : Tab) = ⟨(gbT T k n).hold, pu T.own k ((plc T k).take n)⟩
          rw [← w1, ← w2] <;> rfl
        rw [eT] at st hi
        refine wret (by wtm_at "ev") ⟨S1.length, ℓ1, rfl, st, st1.fr.1, ?_, hi⟩
        rw [← w3, List.reverse_nil, List.append_nil]; exact hb
      · have hc := of_decide_eq_true hc
        obtain ⟨qs', x, rfl⟩ : ∃ qs' x, qs = qs' ++ [x] := ⟨qs.dropLast, qs.getLast (fun z => by rw [z] at hc; simp at hc; omega), (List.dropLast_concat_getLast _).symm⟩
        rw [List.length_append, List.length_singleton] at hc
        have hnl : n ≤ qs'.length := by omega
        have hdr : (qs' ++ [x]).drop n = qs'.drop n ++ [x] := List.drop_append_of_le_length hnl
        have htk : (qs' ++ [x]).take n = qs'.take n := List.take_append_of_le_length hnl
        have hkin : k ∈ (pu T.own k (qs' ++ [x])).map (·.1) := keys_mem.mpr (.inl rfl)
        have he1 : ∀ s, ctT ⟨hh, pu T.own k qs'⟩ ℓ1 s = if s = .ow k then some (.lst ((qs'.map nD).map .d)) else ctT ⟨hh, pu T.own k (qs' ++ [x])⟩ ℓ1 s := fun s => by
          have := ctT_own (T := ⟨hh, pu T.own k (qs' ++ [x])⟩) (ℓ := ℓ1) (v := qs') hkin s
          rwa [pu_pu] at this
        have s1 := st.set (r := .ow k) (by rw [hlive]; exact fun z => nomatch z) he1
        have i1 : ¬ Im (ctT ⟨hh, pu T.own k qs'⟩ ℓ1) ℓ1 S1.length := Im.of_set he1 (by rw [hlive]; exact fun z => nomatch z) hi
        have he2 : ∀ s, ctT ⟨hh.set x none, pu T.own k qs'⟩ ℓ1 s = if s = .ho then some (.lst (((hh.set x none).map hD).map .d)) else ctT ⟨hh, pu T.own k qs'⟩ ℓ1 s := fun s => ctT_hold (T := ⟨hh, pu T.own k qs'⟩) s
        have s2 := s1.set (r := .ho) (fun z => nomatch z) he2
        have i2 : ¬ Im (ctT ⟨hh.set x none, pu T.own k qs'⟩ ℓ1) ℓ1 S1.length := Im.of_set he2 (fun z => nomatch z) i1
        have s3 := s2.off (b := S1.length) (c := .lst (((bs ++ [x]).map nD).map .d)) st1.fr.1 i2
        have nb1 : ℓ1 (.ow k) ≠ S1.length := fun z => hi ⟨.ow k, (by rw [hlive]; exact fun z => nomatch z), z⟩
        have nb2 : ℓ1 .ho ≠ S1.length := fun z => hi ⟨.ho, (fun z => nomatch z), z⟩
        have ntb := s1.rr.at_ .tb _ rfl
        rw [htb] at ntb
        have nho := s1.rr.at_ .ho _ rfl
        have nbb : ((S'.set (ℓ1 (.ow k)) (.lst ((qs'.map nD).map .d))).set (ℓ1 .ho) (.lst (((hh.set x none).map hD).map .d)))[S1.length]? = some (.lst ((bs.map nD).map .d)) := get_set_ne (get_set_ne hb nb1) nb2
        have xlt := w4 x (List.mem_append_right _ (List.mem_singleton.mpr rfl))
        refine vset (e_bmL (e_var rfl) (isL_of k1) es_nil (f_mdL k1 (pop_map qs' x))) (vsub (x := .d (hD none)) rfl (by wtm_at "ev") (by wtm_at "ev") (f_stM nho (set_map hh none xlt)) (wdrop (e_bmL (e_var rfl) (isL_of nbb) (by wtm_at "evs") (f_mdL nbb (app_map bs x (by simp at w5; omega)))) ?_))
        refine ⟨qs'.length - n, by rw [List.length_append, List.length_singleton]; omega, hh.set x none, qs', bs ++ [x], _, rfl, rfl, s3, List.getElem?_set_self (by rw [List.length_set, List.length_set]; exact get_lt hb), i2, ?_, ?_, ?_, ?_, ?_⟩
        · rw [hdr, List.reverse_append, List.reverse_singleton] at w1; exact w1
        · rw [htk] at w2; exact w2
        · rw [hdr, List.reverse_append, List.reverse_singleton] at w3; rw [List.append_assoc]; exact w3
        · intro y hy; rw [List.length_set]; exact w4 y (List.mem_append_left _ hy)
        · simp at w5 ⊢; omega
  obtain ⟨r, S', e, b, ℓ', rfl, q⟩ := main
  exact ⟨b, ℓ', S', e, q⟩
end


section
variable {T : Tab} {ℓ : RT → Nat} {S : Sg} {k : Kk} {n : Nat}
theorem cut_take {α : Type} (f : α → D) (xs : List α) (m : Nat) : cutD (xs.map f) none (some (m : Int)) = (xs.take m).map f := by
  unfold cutD
  have e1 : HT.sIx (xs.map f).length 0 none = 0 := rfl
  have e2 : HT.sIx (xs.map f).length (xs.map f).length (some (m : Int)) = min m xs.length := by
    rw [HT.sIx_nat, List.length_map]
  rw [e1, e2, List.drop_zero, Nat.sub_zero, ← List.map_take]
  congr 1
  by_cases h : m ≤ xs.length
  · rw [Nat.min_eq_left h]
  · rw [Nat.min_eq_right (by omega), List.take_of_length_le (Nat.le_refl _), List.take_of_length_le (by omega)]
theorem take_ok (h : RR (ctT T ℓ) ℓ S) (hT : TabOk T) (hk : k ∈ T.own.map (·.1)) : ∃ S', A_Table_take [.o (ℓ .tb), .d (kD k), .d (nD n)] S = some (.ok (.d .none), S') ∧ Stp (ctT T ℓ) (ctT (tkT T k n) ℓ) ℓ ℓ S S' := by
  have g1 := h.at_ .tb _ rfl
  have g2 := h.at_ .li _ rfl
  obtain ⟨ps, e⟩ := vl_in hk
  have e2 : plc T k = ps := by unfold plc; rw [e] <;> rfl
  have hp := hT.plc k
  have hpl := hT.plen k
  have hfl := hT.flen
  rw [e2] at hp hpl
  have g3 := look_own (T := T) (ℓ := ℓ) k
  rw [e] at g3
  have g3 : getC (peel (.dv (T.own.map fun p => (toV p.1, .o (ℓ (.ow p.1)))))) (kD k) = some (.o (ℓ (.ow k))) := by
    unfold lookC at g3
    dsimp only at g3
    obtain ⟨a, b⟩ := Option.map_eq_some_iff.mp g3
    show (vkOf (kD k)).bind (valA _) = _
    rw [b.1]; exact b.2
  have g4 := h.at_ (.ow k) (.lst ((ps.map nD).map .d)) (by show (vl T.own k).map _ = _; rw [e] <;> rfl)
  have hfree := free_ok (fun r c => h.at_ r c) (Nat.le_trans hT.len (by decide))
  have main : ∃ r S', A_Table_take [.o (ℓ .tb), .d (kD k), .d (nD n)] S = some (r, S') ∧ (r = .ok (.d .none) ∧ Stp (ctT T ℓ) (ctT (tkT T k n) ℓ) ℓ ℓ S S') := by
    refine def_ex (vset (x := .o (ℓ (.ow k))) (S1 := S) (by wtm_at "ev") (wforA (as := tkF T k n) (fun x => .d (nD x)) (fun i σ S' => ∃ x4, σ = [some (.o (ℓ .tb)), some (.d (kD k)), some (.d (nD n)), some (.o (ℓ (.ow k))), x4] ∧ Stp (ctT T ℓ) (ctT ⟨wipe T.hold ((tkF T k n).take i) (some k), pu T.own k (ps ++ (tkF T k n).take i)⟩ ℓ) ℓ ℓ S S') (S1 := S) ?_ ?_ ?_ ?_ ?_))
    · have hm : fMax [.int 0, .int ((n : Int) - (ps.length : Nat))] = some (.int ((n - ps.length : Nat) : Int)) := by
        show some (PyData.int (max 0 _)) = _
        congr 2; omega
      have hs : fSl (.list ((frees T).map nD)) none (some ((n - ps.length : Nat) : Int)) = some (.list ((tkF T k n).map nD)) := by
        show some (PyData.list (cutD _ _ _)) = _
        rw [cut_take]
        unfold tkF
        rw [e2]
      have el : cbLen [.o (ℓ (.ow k))] S = some (.d (.int (ps.length : Nat)), S) := by
        have := f_lenC (n := ((ps.map nD).map Av.d).length) g4 rfl
        rwa [List.length_map, List.length_map] at this
      have := i_list (σ := [some (.o (ℓ .tb)), some (.d (kD k)), some (.d (nD n)), some (.o (ℓ (.ow k))), none]) (S := S) (S1 := S) (a := aSl (aMeth "Table" "free" A_Table_free (aVar 0) aNil) aoN (aoS (aCB (cbD fMax) (aCons (aD (.int 0)) (aCons (aOp (opD fSub) (aVar 2) (aCB cbLen (aCons (aVar 3) aNil))) aNil))))) (ds := (tkF T k n).map nD)
        (e_sl (d := .list ((frees T).map nD)) (by wtm_at "ev") (by wtm_at "evo") (o_S (e_cb (es_cons e_D (es_cons (e_op (x := .d (nD n)) (e_var rfl) (e_cb (es_cons (e_var rfl) es_nil) el) rfl) es_nil)) (f_cbD rfl hm))) hs)
      rwa [List.map_map] at this
    · unfold tkF; rw [List.length_take]; omega
    · refine ⟨none, rfl, ?_⟩
      rw [List.take_zero, List.append_nil]
      have : (⟨wipe T.hold [] (some k), pu T.own k ps⟩ : Tab) = T := by rw [pu_self hT.keys e] <;> rfl
      rw [this]
      exact Stp.refl h
    · rintro i x σ S' hx ⟨x4, rfl, st⟩
      have hki : k ∈ (pu T.own k (ps ++ (tkF T k n).take i)).map (·.1) := keys_mem.mpr (.inl rfl)
      have hil := get_lt hx
      have hix : (tkF T k n).take (i + 1) = (tkF T k n).take i ++ [x] := by
        rw [List.take_succ_eq_append_getElem hil]
        rw [List.getElem?_eq_getElem hil] at hx
        rw [Option.some.inj hx]
      have hxf : x ∈ frees T := List.mem_of_mem_take (List.mem_of_getElem? hx)
      have hxl : x < (wipe T.hold ((tkF T k n).take i) (some k)).length := by rw [wipe_len]; exact get_lt (mem_frees.mp hxf)
      have hlen : (ps ++ (tkF T k n).take i).length < 100000 := by
        rw [List.length_append, List.length_take]
        unfold tkF
        rw [List.length_take]
        omega
      have hlive : ctT ⟨wipe T.hold ((tkF T k n).take i) (some k), pu T.own k (ps ++ (tkF T k n).take i)⟩ ℓ (.ow k) = some (.lst (((ps ++ (tkF T k n).take i).map nD).map .d)) := by show (vl (pu T.own k _) k).map _ = _; rw [vl_pu, if_pos rfl] <;> rfl
      have k1 := st.rr.at_ .tb _ rfl
      have k2 := st.rr.at_ .ho _ rfl
      have he1 : ∀ s, ctT ⟨wipe T.hold ((tkF T k n).take (i + 1)) (some k), pu T.own k (ps ++ (tkF T k n).take i)⟩ ℓ s = if s = .ho then some (.lst (((wipe T.hold ((tkF T k n).take (i + 1)) (some k)).map hD).map .d)) else ctT ⟨wipe T.hold ((tkF T k n).take i) (some k), pu T.own k (ps ++ (tkF T k n).take i)⟩ ℓ s := fun s => ctT_hold (T := ⟨wipe T.hold ((tkF T k n).take i) (some k), pu T.own k (ps ++ (tkF T k n).take i)⟩) s
      have s1 := st.set (r := .ho) (fun z => nomatch z) he1
      have hlive1 : ctT ⟨wipe T.hold ((tkF T k n).take (i + 1)) (some k), pu T.own k (ps ++ (tkF T k n).take i)⟩ ℓ (.ow k) = some (.lst (((ps ++ (tkF T k n).take i).map nD).map .d)) := hlive
      have k3 := s1.rr.at_ (.ow k) _ hlive1
      have he2 : ∀ s, ctT ⟨wipe T.hold ((tkF T k n).take (i + 1)) (some k), pu T.own k (ps ++ (tkF T k n).take (i + 1))⟩ ℓ s = if s = .ow k then some (.lst (((ps ++ (tkF T k n).take (i + 1)).map nD).map .d)) else ctT ⟨wipe T.hold ((tkF T k n).take (i + 1)) (some k), pu T.own k (ps ++ (tkF T k n).take i)⟩ ℓ s := fun s => by
        have := ctT_own (T := ⟨wipe T.hold ((tkF T k n).take (i + 1)) (some k), pu T.own k (ps ++ (tkF T k n).take i)⟩) (ℓ := ℓ) (v := ps ++ (tkF T k n).take (i + 1)) hki s
        rwa [pu_pu] at this
      have s2 := s1.set (r := .ow k) (by rw [hlive1]; exact fun z => nomatch z) he2
      have hw : wipe T.hold ((tkF T k n).take (i + 1)) (some k) = (wipe T.hold ((tkF T k n).take i) (some k)).set x (some k) := by
        rw [hix]; unfold wipe; rw [List.foldl_append] <;> rfl
      refine vsub (x := .d (hD (some k))) (e_var rfl) (by wtm_at "ev") (e_var rfl) (f_stM k2 (set_map _ (some k) hxl)) ?_
      rw [← hw]
      refine wdrop (e_bmL (e_var rfl) (isL_of k3) (es_cons (e_var rfl) es_nil) (f_mdL k3 (app_map _ x hlen))) ⟨_, rfl, ?_⟩
      rw [hix, ← List.append_assoc] at s2
      rw [hix, ← List.append_assoc]
      exact s2
    · rintro σ S' ⟨x4, rfl, st⟩
      refine ⟨rfl, ?_⟩
      rw [List.take_of_length_le (Nat.le_refl _)] at st
      have : tkT T k n = ⟨wipe T.hold (tkF T k n) (some k), pu T.own k (ps ++ tkF T k n)⟩ := by unfold tkT; rw [e2]
      rw [this]
      exact st
  obtain ⟨r, S', e, rfl, q⟩ := main
  exact ⟨S', e, q⟩
end


def wD (w : Kk × Nat) : D := .tuple [kD w.1, nD w.2]
section
variable {T : Tab} {ℓ : RT → Nat} {S : Sg}
theorem ext_map {α : Type} {f : α → D} {b b' : Nat} {xs ys : List α} (h : S[b]? = some (.lst ((xs.map f).map .d))) (h' : S[b']? = some (.lst ((ys.map f).map .d))) (hl : xs.length + ys.length ≤ 100000) : mdE (.o b) [.o b'] S = some (.d .none, S.set b (.lst (((xs ++ ys).map f).map .d))) := by
  unfold mdE
  dsimp only
  rw [h, h']
  dsimp only
  rw [if_pos (by simpa using hl), List.map_append, List.map_append]
theorem told_ok (h : RR (ctT T ℓ) ℓ S) (hT : TabOk T) (ws : List (Kk × Nat)) (hw : ws.length ≤ 64) (hl : T.own.length < 90000) :
    ∃ r S', A_Table_told [.o (ℓ .tb), .d (.list (ws.map wD))] S = some (r, S') ∧ match toldT T ws with
      | none => r = .ex ⟨"NoRoom", none⟩ ∧ S' = S
      | some (T2, B) => r = .ok (.d (.list (B.map nD))) ∧ ∃ ℓ', Stp (ctT T ℓ) (ctT T2 ℓ') ℓ ℓ' S S' := by
  have g1 := h.at_ .tb _ rfl
  have hfree := free_ok (fun r c => h.at_ r c) (Nat.le_trans hT.len (by decide))
  have hws : ∀ (σ : Sl) (S : Sg), σ[1]? = some (some (.d (.list (ws.map wD)))) → aiAny (aVar 1) σ S = some (.ok (itL (ws.map fun w => .d (.tuple [kD w.1, nD w.2]))), S) := fun σ S e => by
    have := i_list (S := S) (e_var e)
    rwa [List.map_map] at this
  have tk : ∀ i w, ws[i]? = some w → ws.take (i + 1) = ws.take i ++ [w] := fun i w hx => by
    have hil := get_lt hx
    rw [List.take_succ_eq_append_getElem hil]
    rw [List.getElem?_eq_getElem hil] at hx
    rw [Option.some.inj hx]
  refine def_ex (vset (x := .d (nD (frees T).length)) (S1 := S) ?_ (wseq (wforT (as := ws) (fun w => kD w.1) (fun w => nD w.2) (fun i σ S' => S' = S ∧ ∃ x3 x4, σ = [some (.o (ℓ .tb)), some (.d (.list (ws.map wD))), some (.d (.int ((frees T).length + ((ws.take i).map fun w => ((plc T w.1).length : Int) - w.2).sum))), x3, x4, none]) (S1 := S) (hws _ _ rfl) (by omega) ⟨rfl, none, none, ?_⟩ ?_ ?_)))
  · have : fLen [.list ((frees T).map nD)] = some (.int ((frees T).length : Nat)) := by
      show some (PyData.int _) = _
      rw [List.length_map]
    wtm_at "ev"
  · simp [nD]
  · rintro i w σ S' hx ⟨rfl, x3, x4, rfl⟩
    have hpl := places_ok (fun r c => h.at_ r c) w.1
    have e1 : fLen [.list ((plc T w.1).map nD)] = some (.int ((plc T w.1).length : Nat)) := by
      show some (PyData.int _) = _
      rw [List.length_map]
    refine waug (ff := (· + ·)) (n := ((plc T w.1).length : Int) - w.2) rfl (by wtm_at "ev") ⟨rfl, some (.d (kD w.1)), some (.d (nD w.2)), ?_⟩
    rw [tk i w hx, List.map_append, List.sum_append]
    simp [Int.add_assoc]
  · rintro σ S' ⟨rfl, x3, x4, rfl⟩
    rw [List.take_of_length_le (Nat.le_refl _)]
    refine vwhen (p := decide (room T ws < 0)) (by unfold room; wtm_at "evt") (fun hb => ?_) fun hb => ?_
    · have hb := of_decide_eq_true hb
      have : toldT T ws = none := by unfold toldT; rw [if_pos hb]
      rw [this]
      exact wraise ⟨rfl, rfl⟩
    · have hb := of_decide_eq_false hb
      have : toldT T ws = some (tks (gbs T ws) ws, gbsB T ws) := by unfold toldT; rw [if_neg hb]
      rw [this]
      dsimp only
      have hBl := gbsB_len ws T hT
      refine vset (x := .o S'.length) (S1 := S' ++ [Cl.lst []]) (by wtm_at "ev") (wseq (wforT (as := ws) (fun w => kD w.1) (fun w => nD w.2) (fun i σ S1 => (∃ x2 x3 x4, σ = [some (.o (ℓ .tb)), some (.d (.list (ws.map wD))), x2, x3, x4, some (.o S'.length)]) ∧ ∃ ℓ1, Stp (ctT T ℓ) (ctT (gbs T (ws.take i)) ℓ1) ℓ ℓ1 S' S1 ∧ S1[S'.length]? = some (.lst (((gbsB T (ws.take i)).map nD).map .d)) ∧ ¬ Im (ctT (gbs T (ws.take i)) ℓ1) ℓ1 S'.length) (hws _ _ rfl) (by omega) ⟨⟨_, _, _, rfl⟩, ℓ, (Stp.refl h).app, get_last .., Im.no_len h⟩ ?_ ?_))
      · rintro i w σ S1 hx ⟨⟨x2, x3, x4, rfl⟩, ℓ1, st, hb1, hi⟩
        have hTi := gbs_ok (ws.take i) T hT
        have htb : ℓ1 .tb = ℓ .tb := (st.keep .tb (fun z => nomatch z)).2
        have hkl : (gbs T (ws.take i)).own.length < 100000 := by
          have : ∀ (vs : List (Kk × Nat)) (T : Tab), (gbs T vs).own.length ≤ T.own.length + vs.length := by
            intro vs
            induction vs with
            | nil => intro T; exact Nat.le_refl _
            | cons v vs ih =>
              intro T
              have h1 := ih (gbT T v.1 v.2)
              have h2 : (gbT T v.1 v.2).own.length ≤ T.own.length + 1 := pu_len
              show (gbs (gbT T v.1 v.2) vs).own.length ≤ T.own.length + (vs.length + 1)
              omega
          have h1 := this (ws.take i) T
          rw [List.length_take] at h1
          omega
        obtain ⟨b', ℓ2, S2, e2, st2, hge, hb2, hi2⟩ := gb_ok (k := w.1) (n := w.2) st.rr hTi hkl
        rw [htb] at e2
        have k1 := st.rr.at_ .tb _ rfl
        rw [htb] at k1
        have hb1' := st2.get hb1 hi
        have hi' := st2.apart (get_lt hb1) hi
        have hne : b' ≠ S'.length := fun z => by have := get_lt hb1; omega
        have hBi := gbsB_len (ws.take i) T hT
        have hg2 : (gbB (gbs T (ws.take i)) w.1 w.2).length ≤ 1000 := by
          unfold gbB
          rw [List.length_reverse, List.length_drop]
          have := hTi.plen w.1
          omega
        have hll : (gbsB T (ws.take i)).length + (gbB (gbs T (ws.take i)) w.1 w.2).length ≤ 100000 := by
          rw [List.length_take] at hBi
          omega
        have e3 : (gbs T (ws.take (i + 1))) = gbT (gbs T (ws.take i)) w.1 w.2 := by rw [tk i w hx, gbs_app] <;> rfl
        have e4 : gbsB T (ws.take (i + 1)) = gbsB T (ws.take i) ++ gbB (gbs T (ws.take i)) w.1 w.2 := by
          rw [tk i w hx, gbsB_app]
          show _ ++ (gbB _ _ _ ++ []) = _
          rw [List.append_nil]
        refine wdrop (e_bmL (e_var rfl) (isL_of hb1) (es_cons (e_meth (e_var rfl) k1 rfl (by wtm_at "evs") e2) es_nil) (ext_map hb1' hb2 hll)) ⟨⟨_, _, _, rfl⟩, ℓ2, ?_, ?_, ?_⟩
        · rw [e3]; exact (st.trans st2).off (Nat.le_refl _) hi'
        · rw [e4]; exact List.getElem?_set_self (get_lt hb1')
        · rw [e3]; exact hi'
      · rintro σ S1 ⟨⟨x2, x3, x4, rfl⟩, ℓ1, st, hb1, hi⟩
        rw [List.take_of_length_le (Nat.le_refl _)] at st hb1 hi
        refine wseq (wforT (as := ws) (fun w => kD w.1) (fun w => nD w.2) (fun i σ S1 => (∃ x2 x3 x4, σ = [some (.o (ℓ .tb)), some (.d (.list (ws.map wD))), x2, x3, x4, some (.o S'.length)]) ∧ Stp (ctT T ℓ) (ctT (tks (gbs T ws) (ws.take i)) ℓ1) ℓ ℓ1 S' S1 ∧ S1[S'.length]? = some (.lst (((gbsB T ws).map nD).map .d)) ∧ ¬ Im (ctT (tks (gbs T ws) (ws.take i)) ℓ1) ℓ1 S'.length) (hws _ _ rfl) (by omega) ⟨⟨_, _, _, rfl⟩, st, hb1, hi⟩ ?_ ?_)
        · rintro i w σ S1 hx ⟨⟨x2, x3, x4, rfl⟩, st, hb1, hi⟩
          have hTi := tks_ok (ws.take i) _ (gbs_ok ws T hT)
          have htb : ℓ1 .tb = ℓ .tb := (st.keep .tb (fun z => nomatch z)).2
          have hkey : ∀ (vs : List (Kk × Nat)) (T : Tab) (j : Kk), j ∈ T.own.map (·.1) → j ∈ (tks T vs).own.map (·.1) := by
            intro vs
            induction vs with
            | nil => intro T j hj; exact hj
            | cons v vs ih => intro T j hj; exact ih _ j (tkT_key.mpr (.inr hj))
          have hk : w.1 ∈ (tks (gbs T ws) (ws.take i)).own.map (·.1) := hkey _ _ _ ((gbs_keyw ws T w.1).mpr (.inl (List.mem_map.mpr ⟨w, List.mem_of_getElem? hx, rfl⟩)))
          obtain ⟨S2, e2, st2⟩ := take_ok (n := w.2) st.rr hTi hk
          rw [htb] at e2
          have k1 := st.rr.at_ .tb _ rfl
          rw [htb] at k1
          have e3 : tks (gbs T ws) (ws.take (i + 1)) = tkT (tks (gbs T ws) (ws.take i)) w.1 w.2 := by rw [tk i w hx, tks_app] <;> rfl
          refine wdrop (e_meth (e_var rfl) k1 rfl (by wtm_at "evs") e2) ⟨⟨_, _, _, rfl⟩, ?_, st2.get hb1 hi, ?_⟩
          · rw [e3]; exact st.trans st2
          · rw [e3]; exact st2.apart (get_lt hb1) hi
        · rintro σ S1 ⟨⟨x2, x3, x4, rfl⟩, st, hb1, hi⟩
          rw [List.take_of_length_le (Nat.le_refl _)] at st hi
          exact wret (e_frz (e_var rfl) hb1) ⟨rfl, ℓ1, st.off (Nat.le_refl _) hi⟩
end


/-! ### plain facts of tables, and of what can be laid out -/
theorem shaped_of {d : D} (h1 : PyData.canLay0 d = true) (h2 : PyData.depth d ≤ 64) : SeqAt.shaped d = true := by
  show (PyData.canLay0 d && decide (PyData.depth d ≤ 64)) = true
  rw [h1, decide_eq_true h2]
  rfl
def freN (hold : List (Option Kk)) : Nat := hold.countP fun o => o.isNone
theorem fre_eq (T : Tab) : (frees T).length = freN T.hold := by
  unfold frees freN
  rw [List.length_map, ← List.countP_eq_length_filter]
  have := List.countP_map (p := fun o : Option Kk => o.isNone) (f := Prod.fst) (l := T.hold.zipIdx)
  rw [List.zipIdx_map_fst] at this
  exact this.symm
theorem fre_out {hold : List (Option Kk)} {i : Nat} {k : Kk} (h : hold[i]? = some (some k)) : freN (hold.set i none) = freN hold + 1 := by
  obtain ⟨hi, e⟩ := List.getElem?_eq_some_iff.mp h
  unfold freN
  rw [List.countP_set hi, e] <;> rfl
theorem fre_in {hold : List (Option Kk)} {i : Nat} {k : Kk} (h : hold[i]? = some none) : freN (hold.set i (some k)) + 1 = freN hold := by
  obtain ⟨hi, e⟩ := List.getElem?_eq_some_iff.mp h
  have hp : 0 < hold.countP fun o => o.isNone := List.countP_pos_iff.mpr ⟨none, by rw [← e]; exact List.getElem_mem hi, rfl⟩
  unfold freN
  rw [List.countP_set hi, e]
  show hold.countP (fun o => o.isNone) - 1 + 0 + 1 = _
  omega
theorem frees_rise (T : Tab) : (frees T).Pairwise (· < ·) := by
  unfold frees
  refine List.Pairwise.sublist (l₂ := T.hold.zipIdx.map Prod.snd) (List.Sublist.map _ List.filter_sublist) ?_
  rw [List.zipIdx_map_snd]
  exact List.pairwise_lt_range'
theorem tkF_succ {V : Tab} {k : Kk} {r : Nat} (h : (plc V k).length ≤ r) (hr : r - (plc V k).length < (frees V).length) : tkF V k (r + 1) = tkF V k r ++ [(frees V)[r - (plc V k).length]] := by
  unfold tkF
  rw [show r + 1 - (plc V k).length = r - (plc V k).length + 1 by omega, List.take_succ_eq_append_getElem hr]
theorem tkF_len {V : Tab} {k : Kk} {r : Nat} (hr : r - (plc V k).length ≤ (frees V).length) : (tkF V k r).length = r - (plc V k).length := by
  unfold tkF
  rw [List.length_take]; omega
/-- the least free place behind those that were taken -/
theorem tk_least {V : Tab} {k : Kk} {r : Nat} (hr : r - (plc V k).length < (frees V).length) :
    (wipe V.hold (tkF V k r) (some k))[(frees V)[r - (plc V k).length]]? = some none ∧ ∀ i, i < (frees V)[r - (plc V k).length] → ∃ o, (wipe V.hold (tkF V k r) (some k))[i]? = some (some o) := by
  have hp := List.pairwise_iff_getElem.mp (frees_rise V)
  generalize hj : r - (plc V k).length = j at hr
  have hx : V.hold[(frees V)[j]]? = some none := mem_frees.mp (List.getElem_mem hr)
  have hni : ∀ x, x ∈ tkF V k r ↔ ∃ j', ∃ h : j' < (frees V).length, j' < j ∧ (frees V)[j'] = x := fun x => by
    unfold tkF
    rw [hj, List.mem_take_iff_getElem]
    constructor
    · rintro ⟨j', h1, h2⟩
      exact ⟨j', by omega, by omega, h2⟩
    · rintro ⟨j', h1, h2, h3⟩
      exact ⟨j', by omega, h3⟩
  refine ⟨?_, fun i hi => ?_⟩
  · rw [wipe_get, if_neg]
    · exact hx
    · rintro ⟨h1, _⟩
      obtain ⟨j', h1, h2, h3⟩ := (hni _).mp h1
      have := hp j' j h1 hr h2
      omega
  · rw [wipe_get]
    by_cases hm : i ∈ tkF V k r
    · have : i < V.hold.length := by
        have := get_lt hx
        omega
      rw [if_pos ⟨hm, this⟩]
      exact ⟨k, rfl⟩
    · rw [if_neg (fun z => hm z.1)]
      have hil : i < V.hold.length := by
        have := get_lt hx
        omega
      cases e : V.hold[i]? with
      | none => rw [List.getElem?_eq_getElem hil] at e; exact nomatch e
      | some o =>
        cases o with
        | some o => exact ⟨o, rfl⟩
        | none =>
          have := mem_frees.mpr e
          obtain ⟨j', h1, h2⟩ := List.mem_iff_getElem.mp this
          refine absurd ((hni i).mpr ⟨j', h1, ?_, h2⟩) hm
          by_cases hlt : j' < j
          · exact hlt
          · by_cases he : j' = j
            · subst he; omega
            · have := hp j j' hr h1 (by omega)
              omega
theorem wipe_snoc (h : List (Option Kk)) (xs : List Nat) (x : Nat) (v : Option Kk) : wipe h (xs ++ [x]) v = (wipe h xs v).set x v := by
  unfold wipe
  rw [List.foldl_append] <;> rfl
theorem gbs_no : ∀ (ws : List (Kk × Nat)) (T : Tab) (k : Kk), k ∉ ws.map (·.1) → plc (gbs T ws) k = plc T k
  | [], T, k, _ => rfl
  | w :: ws, T, k, h => by
    rw [List.map_cons, List.mem_cons] at h
    have h1 : w.1 ≠ k := fun e => h (.inl e.symm)
    show plc (gbs (gbT T w.1 w.2) ws) k = _
    rw [gbs_no ws _ k (fun z => h (.inr z)), gbT_plc, if_neg h1]
theorem gbs_in : ∀ (ws : List (Kk × Nat)) (T : Tab), (ws.map (·.1)).Nodup → ∀ w ∈ ws, plc (gbs T ws) w.1 = (plc T w.1).take w.2
  | [], T, _, w, hw => nomatch hw
  | v :: ws, T, hn, w, hw => by
    rw [List.map_cons, List.nodup_cons] at hn
    show plc (gbs (gbT T v.1 v.2) ws) w.1 = _
    rcases List.mem_cons.mp hw with rfl | hw
    · rw [gbs_no ws _ _ hn.1, gbT_plc, if_pos rfl]
    · have hne : v.1 ≠ w.1 := fun e => hn.1 (by rw [e]; exact List.mem_map.mpr ⟨w, hw, rfl⟩)
      rw [gbs_in ws _ hn.2 w hw, gbT_plc, if_neg hne]
theorem tks_no : ∀ (ws : List (Kk × Nat)) (T : Tab) (k : Kk), k ∉ ws.map (·.1) → plc (tks T ws) k = plc T k
  | [], T, k, _ => rfl
  | w :: ws, T, k, h => by
    rw [List.map_cons, List.mem_cons] at h
    have h1 : w.1 ≠ k := fun e => h (.inl e.symm)
    show plc (tks (tkT T w.1 w.2) ws) k = _
    rw [tks_no ws _ k (fun z => h (.inr z)), tkT_plc, if_neg h1]
/-! ### the free places, counted -/
theorem freN_out {k : Kk} : ∀ (xs : List Nat) (hold : List (Option Kk)), xs.Nodup → (∀ x ∈ xs, hold[x]? = some (some k)) → freN (wipe hold xs none) = freN hold + xs.length
  | [], hold, _, _ => rfl
  | x :: xs, hold, hn, hx => by
    rw [List.nodup_cons] at hn
    have h1 := fre_out (hx x (List.mem_cons_self ..))
    have h2 := freN_out (k := k) xs (hold.set x none) hn.2 fun y hy => by
      rw [List.getElem?_set_ne fun e => hn.1 (by rw [e]; exact hy)]
      exact hx y (List.mem_cons_of_mem _ hy)
    show freN (wipe (hold.set x none) xs none) = freN hold + (xs.length + 1)
    omega
theorem freN_in {k : Kk} : ∀ (xs : List Nat) (hold : List (Option Kk)), xs.Nodup → (∀ x ∈ xs, hold[x]? = some none) → freN (wipe hold xs (some k)) + xs.length = freN hold
  | [], hold, _, _ => rfl
  | x :: xs, hold, hn, hx => by
    rw [List.nodup_cons] at hn
    have h1 := fre_in (k := k) (hx x (List.mem_cons_self ..))
    have h2 := freN_in (k := k) xs (hold.set x (some k)) hn.2 fun y hy => by
      rw [List.getElem?_set_ne fun e => hn.1 (by rw [e]; exact hy)]
      exact hx y (List.mem_cons_of_mem _ hy)
    show freN (wipe (hold.set x (some k)) xs (some k)) + (xs.length + 1) = freN hold
    omega
theorem freN_gb {T : Tab} (h : TabOk T) (k : Kk) (n : Nat) : freN (gbT T k n).hold = freN T.hold + ((plc T k).length - n) := by
  have hp := h.plc k
  have := freN_out (k := k) ((plc T k).drop n).reverse T.hold ((List.reverse_perm _).nodup_iff.mpr (hp.1.sublist (List.drop_sublist ..))) fun x hx => hp.2 x (List.mem_of_mem_drop (List.mem_reverse.mp hx))
  rw [List.length_reverse, List.length_drop] at this
  exact this
theorem freN_tk {T : Tab} (k : Kk) (n : Nat) (hr : n - (plc T k).length ≤ (frees T).length) : freN (tkT T k n).hold + (n - (plc T k).length) = freN T.hold := by
  have hf : ∀ x ∈ tkF T k n, T.hold[x]? = some none := fun x hx => mem_frees.mp (List.mem_of_mem_take hx)
  have := freN_in (k := k) (tkF T k n) T.hold (frees_nodup.sublist (List.take_sublist ..)) hf
  rw [tkF_len hr] at this
  exact this
theorem freN_gbs : ∀ (ws : List (Kk × Nat)) (T : Tab), TabOk T → (ws.map (·.1)).Nodup → freN (gbs T ws).hold = freN T.hold + (ws.map fun w => (plc T w.1).length - w.2).sum
  | [], T, _, _ => rfl
  | w :: ws, T, ht, hn => by
    rw [List.map_cons, List.nodup_cons] at hn
    have h1 := freN_gbs ws (gbT T w.1 w.2) (gbT_ok ht) hn.2
    have h2 := freN_gb ht w.1 w.2
    have h3 : (ws.map fun v => (plc (gbT T w.1 w.2) v.1).length - v.2) = ws.map fun v => (plc T v.1).length - v.2 := List.map_congr_left fun v hv => by
      have hne : w.1 ≠ v.1 := fun e => hn.1 (by rw [e]; exact List.mem_map.mpr ⟨v, hv, rfl⟩)
      rw [gbT_plc, if_neg hne]
    rw [h3] at h1
    show freN (gbs (gbT T w.1 w.2) ws).hold = _
    rw [List.map_cons, List.sum_cons]
    omega
theorem sum_split (T : Tab) : ∀ ws : List (Kk × Nat), (ws.map fun w => ((plc T w.1).length : Int) - w.2).sum = ((ws.map fun w => (plc T w.1).length - w.2).sum : Nat) - ((ws.map fun w => w.2 - (plc T w.1).length).sum : Nat)
  | [] => rfl
  | w :: ws => by
    have := sum_split T ws
    rw [List.map_cons, List.map_cons, List.map_cons, List.sum_cons, List.sum_cons, List.sum_cons]
    omega
theorem room_gbs {T : Tab} {ws : List (Kk × Nat)} (ht : TabOk T) (hn : (ws.map (·.1)).Nodup) (h : ¬ room T ws < 0) : (ws.map fun w => w.2 - (plc (gbs T ws) w.1).length).sum ≤ freN (gbs T ws).hold := by
  have h1 := freN_gbs ws T ht hn
  have h2 : (ws.map fun w => w.2 - (plc (gbs T ws) w.1).length) = ws.map fun w => w.2 - (plc T w.1).length := List.map_congr_left fun w hw => by
    rw [gbs_in ws T hn w hw, List.length_take]; omega
  have h3 := sum_split T ws
  unfold room at h
  rw [fre_eq] at h
  rw [h2]
  omega
theorem tks_room : ∀ (ws : List (Kk × Nat)) (V : Tab), TabOk V → (ws.map (·.1)).Nodup → (ws.map fun w => w.2 - (plc V w.1).length).sum ≤ freN V.hold → ∀ (i : Nat) (w : Kk × Nat), ws[i]? = some w → w.2 - (plc (tks V (ws.take i)) w.1).length ≤ (frees (tks V (ws.take i))).length
  | [], V, _, _, _, i, w, hx => by rw [List.getElem?_nil] at hx; exact nomatch hx
  | v :: ws, V, hv, hn, hs, 0, w, hx => by
    cases hx
    rw [List.map_cons, List.sum_cons] at hs
    show v.2 - (plc V v.1).length ≤ (frees V).length
    rw [fre_eq]; omega
  | v :: ws, V, hv, hn, hs, i + 1, w, hx => by
    rw [List.map_cons, List.nodup_cons] at hn
    rw [List.map_cons, List.sum_cons] at hs
    have h2 := freN_tk v.1 v.2 (T := V) (by rw [fre_eq]; omega)
    have h3 : (ws.map fun u => u.2 - (plc (tkT V v.1 v.2) u.1).length) = ws.map fun u => u.2 - (plc V u.1).length := List.map_congr_left fun u hu => by
      have hne : v.1 ≠ u.1 := fun e => hn.1 (by rw [e]; exact List.mem_map.mpr ⟨u, hu, rfl⟩)
      rw [tkT_plc, if_neg hne]
    exact tks_room ws (tkT V v.1 v.2) (tkT_ok hv) hn.2 (by rw [h3]; omega) i w hx
theorem i_listA {α : Type} {σ : Sl} {S S1 : Sg} {a : AE} (f : α → D) (xs : List α) (h : a σ S = some (.ok (.d (.list (xs.map f))), S1)) : aiAny a σ S = some (.ok (itL (xs.map fun x => Av.d (f x))), S1) := by
  have := i_list (ds := xs.map f) h
  rw [List.map_map] at this
  exact this
theorem str_lay {z : Str} (h : PyData.strOk z = true) : PyData.canLay0 (.str z) = true ∧ PyData.depth (.str z) ≤ 0 := ⟨by simp only [PyData.canLay0]; exact h, by simp [PyData.depth]⟩
theorem int_lay (n : Int) : PyData.canLay0 (.int n) = true ∧ PyData.depth (.int n) ≤ 0 := ⟨by simp [PyData.canLay0], by simp [PyData.depth]⟩
theorem lay_up {d : D} {n m : Nat} (h : PyData.canLay0 d = true ∧ PyData.depth d ≤ n) (e : n ≤ m) : PyData.canLay0 d = true ∧ PyData.depth d ≤ m := ⟨h.1, by omega⟩
theorem lay_sh {d : D} {n : Nat} (h : PyData.canLay0 d = true ∧ PyData.depth d ≤ n) (e : n ≤ 60) : SeqAt.shaped d = true := shaped_of h.1 (by omega)
theorem lay_all : ∀ {ds : List D} {n : Nat}, (∀ d ∈ ds, PyData.canLay0 d = true ∧ PyData.depth d ≤ n) → PyData.canLayAll0 ds = true ∧ PyData.depthAll ds ≤ n
  | [], n, _ => ⟨rfl, by simp [PyData.depthAll]⟩
  | d :: ds, n, h => by
    obtain ⟨a, b⟩ := lay_all (n := n) fun e he => h e (List.mem_cons_of_mem _ he)
    obtain ⟨c, e⟩ := h d (List.mem_cons_self ..)
    refine ⟨?_, ?_⟩
    · show (PyData.canLay0 d && PyData.canLayAll0 ds) = true
      rw [a, c] <;> rfl
    · show max (PyData.depth d) (PyData.depthAll ds) ≤ n
      omega
theorem tup_lay {ds : List D} {n : Nat} (h : ∀ d ∈ ds, PyData.canLay0 d = true ∧ PyData.depth d ≤ n) : PyData.canLay0 (.tuple ds) = true ∧ PyData.depth (.tuple ds) ≤ n + 1 := by
  obtain ⟨a, b⟩ := lay_all h
  exact ⟨by simp only [PyData.canLay0]; exact a, by simp only [PyData.depth]; omega⟩
def LD (n : Nat) (d : D) : Prop := PyData.canLay0 d = true ∧ PyData.depth d ≤ n
theorem LD.up {d : D} {n m : Nat} (h : LD n d) (e : n ≤ m) : LD m d := lay_up h e
theorem ld_str {z : Str} (h : PyData.strOk z = true) : LD 0 (.str z) := str_lay h
theorem ld_int (n : Int) : LD 0 (.int n) := int_lay n
theorem ld_tup {ds : List D} {n : Nat} (h : ∀ d ∈ ds, LD n d) : LD (n + 1) (.tuple ds) := tup_lay h
theorem ld_lst {ds : List D} {n : Nat} (h : ∀ d ∈ ds, LD n d) : LD (n + 1) (.list ds) := by
  obtain ⟨a, b⟩ := lay_all h
  exact ⟨by simp only [PyData.canLay0]; exact a, by simp only [PyData.depth]; omega⟩
theorem ld_tup2 {a b : D} {n : Nat} (h1 : LD n a) (h2 : LD n b) : LD (n + 1) (.tuple [a, b]) := ld_tup fun d hd => by
  simp only [List.mem_cons, List.not_mem_nil, or_false] at hd
  rcases hd with rfl | rfl
  · exact h1
  · exact h2
theorem ld_tup3 {a b c : D} {n : Nat} (h1 : LD n a) (h2 : LD n b) (h3 : LD n c) : LD (n + 1) (.tuple [a, b, c]) := ld_tup fun d hd => by
  simp only [List.mem_cons, List.not_mem_nil, or_false] at hd
  rcases hd with rfl | rfl | rfl
  · exact h1
  · exact h2
  · exact h3
theorem ld_lst_map {α : Type} {xs : List α} {f : α → D} {n : Nat} (h : ∀ x ∈ xs, LD n (f x)) : LD (n + 1) (.list (xs.map f)) := ld_lst fun d hd => by
  obtain ⟨x, hx, rfl⟩ := List.mem_map.mp hd
  exact h x hx
theorem ld_tup_map {α : Type} {xs : List α} {f : α → D} {n : Nat} (h : ∀ x ∈ xs, LD n (f x)) : LD (n + 1) (.tuple (xs.map f)) := ld_tup fun d hd => by
  obtain ⟨x, hx, rfl⟩ := List.mem_map.mp hd
  exact h x hx
theorem ld_sh {d : D} {n : Nat} (h : LD n d) (e : n ≤ 60) : SeqAt.shaped d = true := lay_sh h e
theorem ld_eq {d : D} {n : Nat} (l : LD n d) (hn : n ≤ 60) (hs : isSc d = false) : fEq d d = some true := by
  rw [fEq_gen (ld_sh l hn) (ld_sh l hn) (by rw [hs] <;> rfl), SeqAt.eqv_refl _ l.1]



/-! ### new tables; the owners drawn -/
section
variable {S : Sg} {b : Nat}
theorem hold_new (p : Nat) : ((List.replicate p (none : Option Kk)).map hD).map Av.d = List.replicate p (Av.d .none) := by
  rw [List.map_replicate, List.map_replicate] <;> rfl
theorem Fr.own {S S' : Sg} {b : Nat} {c : Cl} (f : Fr (fun i => i = b) S S') : Fr (fun i => i = b) S (S'.set b c) := f.set fun _ => rfl
theorem tinit_ok (hb : S[b]? = some (.ins "Table" [])) {p : Int} (hp : 1 ≤ p ∧ p ≤ 997) : ∃ S', A_Table___init__ [.o b, .d (.int p)] S = some (.ok (.d .none), S') ∧ (Fr (fun i => i = b) S S' ∧ S'.length = S.length + 2 ∧
    S'[b]? = some (.ins "Table" [("holders", .o S.length), ("lists", .o (S.length + 1))]) ∧ S'[S.length]? = some (.lst (((List.replicate p.toNat (none : Option Kk)).map hD).map .d)) ∧ S'[S.length + 1]? = some (.dv [])) := by
  have hlt := get_lt hb
  have main : ∃ rr S', A_Table___init__ [.o b, .d (.int p)] S = some (rr, S') ∧ (rr = .ok (.d .none) ∧ (Fr (fun i => i = b) S S' ∧ S'.length = S.length + 2 ∧
    S'[b]? = some (.ins "Table" [("holders", .o S.length), ("lists", .o (S.length + 1))]) ∧ S'[S.length]? = some (.lst (((List.replicate p.toNat (none : Option Kk)).map hD).map .d)) ∧ S'[S.length + 1]? = some (.dv []))) := by
    have e1 : aCons (aVar 1) aNil [some (.o b), some (.d (.int p)), none] S = some (.ok [.d (.int p)], S) := by wtm_at "evs"
    have iv := i_r1 e1 (by omega)
    have el := e_lcC (e := aD .none) (vs := [2]) (tt := aYes) (g := agName 2) (σ := [some (.o b), some (.d (.int p)), none]) (S := S) (xs := (rangeD 0 p.toNat).map .d) (fun _ => true) (fun _ => .d .none) iv (itL_it _ _) (by rw [List.length_map]; unfold rangeD; rw [List.length_map, List.length_range]; omega) (fun x hx => ⟨_, rfl, rfl, fun _ => by wtm_at "ev"⟩)
    rw [List.filter_eq_self.mpr (fun _ _ => rfl), List.map_map] at el
    have e3 : ((rangeD 0 p.toNat).map ((fun _ => Av.d .none) ∘ Av.d)) = ((List.replicate p.toNat (none : Option Kk)).map hD).map Av.d := by
      rw [hold_new]
      have : ((fun _ => Av.d PyData.none) ∘ Av.d) = fun _ => Av.d PyData.none := rfl
      rw [this, List.map_const']
      unfold rangeD
      rw [List.length_map, List.length_range]
    rw [e3] at el
    have hb1 : (S ++ [Cl.lst (((List.replicate p.toNat (none : Option Kk)).map hD).map .d)])[b]? = some (.ins "Table" []) := get_app hb
    refine def_ex (vfld el (e_var rfl) hb1 ⟨by wtm_at "mem", by simp⟩ ?_)
    have hb2 : ((S ++ [Cl.lst (((List.replicate p.toNat (none : Option Kk)).map hD).map .d)]).set b (.ins "Table" [("holders", .o S.length)]))[b]? = some (.ins "Table" [("holders", .o S.length)]) := List.getElem?_set_self (get_lt hb1)
    have hb3 : (((S ++ [Cl.lst (((List.replicate p.toNat (none : Option Kk)).map hD).map .d)]).set b (.ins "Table" [("holders", .o S.length)])) ++ [Cl.dv []])[b]? = some (.ins "Table" [("holders", .o S.length)]) := get_app hb2
    refine wfld (x := .o (S.length + 1)) (S1 := ((S ++ [Cl.lst (((List.replicate p.toNat (none : Option Kk)).map hD).map .d)]).set b (.ins "Table" [("holders", .o S.length)])) ++ [Cl.dv []]) ?_ (e_var rfl) hb3 ⟨by wtm_at "mem", by simp⟩ ⟨rfl, ?_, ?_, ?_, ?_, ?_⟩
    · have := e_dnewV (σ := [some (.o b), some (.d (.int p)), none]) (S := (S ++ [Cl.lst (((List.replicate p.toNat (none : Option Kk)).map hD).map .d)]).set b (.ins "Table" [("holders", .o S.length)]))
      rw [List.length_set, List.length_append, List.length_singleton] at this
      exact this
    · exact Fr.own (Fr.app (Fr.own (Fr.app Fr.refl)))
    · simp
    · rw [List.getElem?_set_self (get_lt hb3)] <;> rfl
    · refine get_set_ne (get_app (get_set_ne (get_last S _) ?_)) ?_ <;> omega
    · refine get_set_ne ?_ (by omega)
      have := get_last ((S ++ [Cl.lst (((List.replicate p.toNat (none : Option Kk)).map hD).map .d)]).set b (.ins "Table" [("holders", .o S.length)])) (Cl.dv [])
      rwa [List.length_set, List.length_append, List.length_singleton] at this
  obtain ⟨rr, S', e, rfl, q⟩ := main
  exact ⟨S', e, q⟩
end
def newTab (p : Int) : Tab := ⟨List.replicate p.toNat none, []⟩
theorem newTab_ok {p : Int} (hp : 1 ≤ p ∧ p ≤ 997) : TabOk (newTab p) := by
  refine ⟨List.nodup_nil, fun k ps e => (nomatch e), fun x k e => ?_, ?_⟩
  · have h1 : (List.replicate p.toNat (none : Option Kk))[x]? = some (some k) := e
    have := List.mem_of_getElem? h1
    rw [List.mem_replicate] at this
    exact nomatch this.2
  · show (List.replicate p.toNat (none : Option Kk)).length ≤ 1000
    rw [List.length_replicate]; omega
def signAt (signs : Str) (i : Nat) : Str := ⟨#[signs.cps.toList.getD i 0]⟩
def wedge (signs stem : Str) (at' : Int) (i : Nat) : Str := (cutS stem none (some at') ++ signAt signs i) ++ cutS stem (some at') none
def atW (stem : Str) (m : Int) : Int := m / 4 % ((stem.length : Int) + 1)
def stemOf (stems : List Str) (m : Int) : Str := stems.getD (m % 4).toNat ""
theorem fIx_strs {zs : List Str} {i : Int} (h0 : 0 ≤ i) (h1 : i < (zs.length : Int)) : fIx (.list (zs.map PyData.str)) (.int i) = some (.str (zs.getD i.toNat "")) := by
  show atI (zs.map PyData.str) i = _
  rw [atI_getD (PyData.str "") h0 (by rw [List.length_map]; exact h1)]
  congr 1
  rw [List.getD_eq_getElem?_getD, List.getD_eq_getElem?_getD, List.getElem?_map]
  have hj : i.toNat < zs.length := by omega
  rw [List.getElem?_eq_getElem hj] <;> rfl
theorem fIx_sign {z : Str} (hz : z.length ≤ 100000) {i : Int} (h0 : 0 ≤ i) (h1 : i < (z.length : Int)) : fIx (.str z) (.int i) = some (.str (signAt z i.toNat)) := by
  have h2 : atI z.cps.toList i = some (z.cps.toList.getD i.toNat 0) := atI_getD 0 h0 h1
  exact fIx_str hz h2
theorem cut_len (z : Str) (a b : Option Int) : (cutS z a b).length ≤ z.length := cutS_length z a b
theorem stem_len {stems : List Str} (m : Int) (h : ∀ z ∈ stems, z.length ≤ 1000) : (stemOf stems m).length ≤ 1000 := by
  unfold stemOf
  rw [List.getD_eq_getElem?_getD]
  cases e : stems[(m % 4).toNat]? with
  | none => show (("" : Str)).length ≤ 1000; decide
  | some z => exact h z (List.mem_of_getElem? e)
theorem mem_getD {α : Type} {l : List α} {i : Nat} {z : α} (h : i < l.length) : l.getD i z ∈ l := by
  rw [List.getD_eq_getElem?_getD, List.getElem?_eq_getElem h]
  exact List.getElem_mem h

def stemO : List Str := ["", "soap", "aaaaaaaa", "two words"]
def eightS : Str := "abcdefgh"
def nameO (m : Int) (k : Nat) : Str := wedge eightS (stemOf stemO m) (atW (stemOf stemO m) m) k
def kindsO (stem name : Str) : List Kk := [.s name, .t [name, "old"], .t ["old", name], .t ["old", stem, name]]
def ownO (m : Int) (k : Nat) : Kk := if m / 160 % 4 = 0 ∧ k < 2 then (if k = 0 then .s "" else .t []) else (kindsO (stemOf stemO m) (nameO m k)).getD (m / 40 % 4).toNat (.s "")
theorem pf_owner {m : Int} (hm : 0 ≤ m) {k : Nat} (hk : k < 8) : pf A__law_owner [.int m, .int (k : Int)] = some (.ok (kD (ownO m k))) := by
  have n4 : 0 ≤ m % 4 ∧ m % 4 < 4 := ⟨Int.emod_nonneg _ (by omega), Int.emod_lt_of_pos _ (by omega)⟩
  have n40 : 0 ≤ m / 40 % 4 ∧ m / 40 % 4 < 4 := ⟨Int.emod_nonneg _ (by omega), Int.emod_lt_of_pos _ (by omega)⟩
  have i2 : fIx (.list [.str "", .str "soap", .str "aaaaaaaa", .str "two words"]) (.int (m % 4)) = some (.str (stemOf stemO m)) := fIx_strs (zs := stemO) n4.1 n4.2
  have i3 : fIx (.str eightS) (.int (k : Int)) = some (.str (signAt eightS k)) := fIx_sign (i := (k : Int)) (by decide +kernel) (by omega) (by show (k : Int) < 8; omega)
  have hsl := stem_len (stems := stemO) m (by decide +kernel)
  have hown : ownO m k = if m / 160 % 4 = 0 ∧ k < 2 then (if k = 0 then .s "" else .t []) else (kindsO (stemOf stemO m) ((cutS (stemOf stemO m) none (some (m / 4 % (((stemOf stemO m).length : Int) + 1))) ++ signAt eightS k) ++ cutS (stemOf stemO m) (some (m / 4 % (((stemOf stemO m).length : Int) + 1))) none)).getD (m / 40 % 4).toNat (.s "") := rfl
  generalize stemOf stemO m = stem at i2 hsl hown
  have hat : 0 ≤ m / 4 % ((stem.length : Int) + 1) ∧ m / 4 % ((stem.length : Int) + 1) < (stem.length : Int) + 1 := ⟨Int.emod_nonneg _ (by omega), Int.emod_lt_of_pos _ (by omega)⟩
  have hp : 0 < (stem.length : Int) + 1 := by omega
  have c1 := cut_len stem none (some (m / 4 % ((stem.length : Int) + 1)))
  have c2 := cut_len stem (some (m / 4 % ((stem.length : Int) + 1))) none
  have l1 : (cutS stem none (some (m / 4 % ((stem.length : Int) + 1)))).length + (signAt eightS k).length ≤ 100000 := by show _ + 1 ≤ _; omega
  have l2 : ((cutS stem none (some (m / 4 % ((stem.length : Int) + 1)))) ++ (signAt eightS k)).length + (cutS stem (some (m / 4 % ((stem.length : Int) + 1))) none).length ≤ 100000 := by rw [str_app_len]; show _ + 1 + _ ≤ _; omega
  have hs2 : stem.length ≤ 100000 := by omega
  rw [hown]
  refine pf_of (vwhen (p := decide (m / 160 % 4 = 0) && decide ((k : Int) < 2)) (t_and (t_B (e_op (e_op (e_op (e_var rfl) e_D (f_D (fDiv_s (by omega)))) e_D (f_D (fMod_s (by omega)))) e_D (f_B rfl rfl rfl))) fun _ => t_B (e_op (e_var rfl) e_D (f_D rfl))) (fun hb => ?_) fun hb => ?_)
  · rw [Bool.and_eq_true] at hb
    have h1 := of_decide_eq_true hb.1
    have h2 := of_decide_eq_true hb.2
    rw [if_pos ⟨h1, by omega⟩]
    have h01 : k = 0 ∨ k = 1 := by omega
    rcases h01 with rfl | rfl
    · exact wret (e_op (x := .d (.list [.str "", .tuple []])) (e_lstF (es_cons e_D (es_cons (e_tup es_nil rfl (by simp)) es_nil)) rfl (by simp)) (e_var rfl) (f_D rfl)) rfl
    · exact wret (e_op (x := .d (.list [.str "", .tuple []])) (e_lstF (es_cons e_D (es_cons (e_tup es_nil rfl (by simp)) es_nil)) rfl (by simp)) (e_var rfl) (f_D rfl)) rfl
  · have hn : ¬ (m / 160 % 4 = 0 ∧ k < 2) := fun ⟨a, b⟩ => by
      rw [decide_eq_true a, decide_eq_true (by omega)] at hb
      exact nomatch hb
    rw [if_neg hn]
    refine vset (x := .d (.str stem)) (S1 := []) (by wtm_at "ev") ?_
    refine vset (by wtm_at "ev") ?_
    refine vset (by wtm_at "ev") ?_
    generalize hnm : (cutS stem none (some (m / 4 % ((stem.length : Int) + 1))) ++ signAt eightS k) ++ cutS stem (some (m / 4 % ((stem.length : Int) + 1))) none = name at l2
    have hix : fIx (.list [.str name, .tuple [.str name, .str "old"], .tuple [.str "old", .str name], .tuple [.str "old", .str stem, .str name]]) (.int (m / 40 % 4)) = some (kD ((kindsO stem name).getD (m / 40 % 4).toNat (.s ""))) := by
      show atI ((kindsO stem name).map kD) (m / 40 % 4) = _
      rw [atI_getD (kD (.s "")) n40.1 (by rw [List.length_map]; exact n40.2)]
      congr 1
      rw [List.getD_eq_getElem?_getD, List.getD_eq_getElem?_getD, List.getElem?_map]
      have hj : (m / 40 % 4).toNat < (kindsO stem name).length := by show _ < 4; omega
      rw [List.getElem?_eq_getElem hj] <;> rfl
    refine wret (e_op (x := .d (.list [.str name, .tuple [.str name, .str "old"], .tuple [.str "old", .str name], .tuple [.str "old", .str stem, .str name]])) (e_lstF (es_cons (e_var rfl) (es_cons (e_tup (es_cons (e_var rfl) (es_cons e_D es_nil)) rfl (by simp)) (es_cons (e_tup (es_cons e_D (es_cons (e_var rfl) es_nil)) rfl (by simp)) (es_cons (e_tup (es_cons e_D (es_cons (e_var rfl) (es_cons (e_var rfl) es_nil))) rfl (by simp)) es_nil)))) rfl (by simp)) (e_op (e_op (e_var rfl) e_D (f_D (fDiv_s (by omega)))) e_D (f_D (fMod_s (by omega)))) (f_D hix)) rfl
theorem ok_names : ∀ s ∈ stemO, PyData.strOk s = true ∧ ∀ a : Nat, a < s.length + 1 → ∀ i : Nat, i < 8 → PyData.strOk (wedge eightS s (a : Int) i) = true := by decide +kernel
theorem ok_old : PyData.strOk "old" = true ∧ PyData.strOk "" = true := by decide +kernel
theorem atW_nat (stem : Str) (m : Int) : ∃ a : Nat, atW stem m = (a : Int) ∧ a < stem.length + 1 := by
  unfold atW
  have := Int.emod_nonneg (m / 4) (show (stem.length : Int) + 1 ≠ 0 by omega)
  have := Int.emod_lt_of_pos (m / 4) (show 0 < (stem.length : Int) + 1 by omega)
  exact ⟨(m / 4 % ((stem.length : Int) + 1)).toNat, by omega, by omega⟩
theorem ld_own (m : Int) {k : Nat} (hk : k < 8) : LD 1 (kD (ownO m k)) := by
  have n4 : 0 ≤ m % 4 ∧ m % 4 < 4 := ⟨Int.emod_nonneg _ (by omega), Int.emod_lt_of_pos _ (by omega)⟩
  have hst : stemOf stemO m ∈ stemO := mem_getD (by show _ < 4; omega)
  obtain ⟨hs, hw⟩ := ok_names _ hst
  obtain ⟨a, ea, ha⟩ := atW_nat (stemOf stemO m) m
  have hnm : PyData.strOk (nameO m k) = true := by
    unfold nameO
    rw [ea]
    exact hw a ha k hk
  unfold ownO
  split
  · split
    · exact (ld_str ok_old.2).up (by omega)
    · exact ld_tup fun d hd => nomatch hd
  · generalize hi : (m / 40 % 4).toNat = i
    have all : ∀ x ∈ kindsO (stemOf stemO m) (nameO m k), LD 1 (kD x) := fun x hx => by
      unfold kindsO at hx
      simp only [List.mem_cons, List.not_mem_nil, or_false] at hx
      rcases hx with rfl | rfl | rfl | rfl
      · exact (ld_str hnm).up (by omega)
      · exact ld_tup2 (ld_str hnm) (ld_str ok_old.1)
      · exact ld_tup2 (ld_str ok_old.1) (ld_str hnm)
      · exact ld_tup3 (ld_str ok_old.1) (ld_str hs) (ld_str hnm)
    rw [List.getD_eq_getElem?_getD]
    cases e : (kindsO (stemOf stemO m) (nameO m k))[i]? with
    | none => exact (ld_str ok_old.2).up (by omega)
    | some x => exact all x (List.mem_of_getElem? e)


/-! ### unlike owners; a list of owners told -/
theorem names_inj : ∀ s ∈ stemO, ∀ a : Nat, a < s.length + 1 → ((List.range 8).map fun i => wedge eightS s (a : Int) i).Nodup ∧ ∀ i : Nat, i < 8 → wedge eightS s (a : Int) i ≠ "" := by decide +kernel
theorem nameO_inj (m : Int) {i j : Nat} (hi : i < 8) (hj : j < 8) (e : nameO m i = nameO m j) : i = j := by
  have n4 : 0 ≤ m % 4 ∧ m % 4 < 4 := ⟨Int.emod_nonneg _ (by omega), Int.emod_lt_of_pos _ (by omega)⟩
  have hst : stemOf stemO m ∈ stemO := mem_getD (by show _ < 4; omega)
  obtain ⟨a, ea, ha⟩ := atW_nat (stemOf stemO m) m
  obtain ⟨hn, _⟩ := names_inj _ hst a ha
  unfold nameO at e
  rw [ea] at e
  have g : ∀ k, k < 8 → ((List.range 8).map fun i => wedge eightS (stemOf stemO m) (a : Int) i)[k]? = some (wedge eightS (stemOf stemO m) (a : Int) k) := fun k hk => by
    rw [List.getElem?_map, List.getElem?_range hk] <;> rfl
  exact (List.getElem?_inj (by rw [List.length_map, List.length_range]; exact hi) hn).mp (by rw [g i hi, g j hj, e])
theorem nameO_ne (m : Int) {i : Nat} (hi : i < 8) : nameO m i ≠ "" := by
  have n4 : 0 ≤ m % 4 ∧ m % 4 < 4 := ⟨Int.emod_nonneg _ (by omega), Int.emod_lt_of_pos _ (by omega)⟩
  have hst : stemOf stemO m ∈ stemO := mem_getD (by show _ < 4; omega)
  obtain ⟨a, ea, ha⟩ := atW_nat (stemOf stemO m) m
  unfold nameO
  rw [ea]
  exact (names_inj _ hst a ha).2 i hi
theorem kinds_at (stem name : Str) (m : Int) : (kindsO stem name).getD (m / 40 % 4).toNat (.s "") = .s name ∨ (kindsO stem name).getD (m / 40 % 4).toNat (.s "") = .t [name, "old"] ∨ (kindsO stem name).getD (m / 40 % 4).toNat (.s "") = .t ["old", name] ∨ (kindsO stem name).getD (m / 40 % 4).toNat (.s "") = .t ["old", stem, name] := by
  have n4 : 0 ≤ m / 40 % 4 ∧ m / 40 % 4 < 4 := ⟨Int.emod_nonneg _ (by omega), Int.emod_lt_of_pos _ (by omega)⟩
  generalize hi : (m / 40 % 4).toNat = i
  have : i = 0 ∨ i = 1 ∨ i = 2 ∨ i = 3 := by omega
  rcases this with rfl | rfl | rfl | rfl
  · exact .inl rfl
  · exact .inr (.inl rfl)
  · exact .inr (.inr (.inl rfl))
  · exact .inr (.inr (.inr rfl))
theorem ownO_inj (m : Int) {i j : Nat} (hi : i < 8) (hj : j < 8) (e : ownO m i = ownO m j) : i = j := by
  have same : ∀ a b : Str, (kindsO (stemOf stemO m) a).getD (m / 40 % 4).toNat (.s "") = (kindsO (stemOf stemO m) b).getD (m / 40 % 4).toNat (.s "") → a = b := fun a b h => by
    have n4 : 0 ≤ m / 40 % 4 ∧ m / 40 % 4 < 4 := ⟨Int.emod_nonneg _ (by omega), Int.emod_lt_of_pos _ (by omega)⟩
    generalize hk : (m / 40 % 4).toNat = k at h
    have : k = 0 ∨ k = 1 ∨ k = 2 ∨ k = 3 := by omega
    rcases this with rfl | rfl | rfl | rfl
    · exact Kk.s.inj h
    · exact (List.cons.inj (Kk.t.inj h)).1
    · exact (List.cons.inj (List.cons.inj (Kk.t.inj h)).2).1
    · exact (List.cons.inj (List.cons.inj (List.cons.inj (Kk.t.inj h)).2).2).1
  have odd : ∀ {i j : Nat}, j < 8 → m / 160 % 4 = 0 ∧ i < 2 → ¬ (m / 160 % 4 = 0 ∧ j < 2) → ownO m i ≠ ownO m j := fun {i j} hj h1 h2 z => by
    unfold ownO at z
    rw [if_pos h1, if_neg h2] at z
    have hn := nameO_ne m hj
    rcases kinds_at (stemOf stemO m) (nameO m j) m with q | q | q | q <;> rw [q] at z <;> split at z
    · exact hn (Kk.s.inj z).symm
    · cases z
    all_goals first | (cases z; done) | exact nomatch z | (exact absurd (Kk.t.inj z) (by simp))
  by_cases h1 : m / 160 % 4 = 0 ∧ i < 2
  · by_cases h2 : m / 160 % 4 = 0 ∧ j < 2
    · unfold ownO at e
      rw [if_pos h1, if_pos h2] at e
      by_cases a : i = 0
      · by_cases b : j = 0
        · omega
        · rw [if_pos a, if_neg b] at e; cases e
      · by_cases b : j = 0
        · rw [if_neg a, if_pos b] at e; cases e
        · omega
    · exact absurd e (odd hj h1 h2)
  · by_cases h2 : m / 160 % 4 = 0 ∧ j < 2
    · exact absurd e.symm (odd hi h2 h1)
    · unfold ownO at e
      rw [if_neg h1, if_neg h2] at e
      exact nameO_inj m hi hj (same _ _ e)
def someO (m : Int) : List Kk := (List.range 5).map (ownO m)
theorem someO_nodup (m : Int) : (someO m).Nodup := by
  unfold someO
  refine List.pairwise_map.mpr ?_
  refine List.Pairwise.imp_of_mem (R := (· < ·)) (fun {a b} ha hb hab e => ?_) List.pairwise_lt_range
  have := ownO_inj m (by have := List.mem_range.mp ha; omega) (by have := List.mem_range.mp hb; omega) e
  omega
theorem someO_ld (m : Int) : ∀ k ∈ someO m, LD 1 (kD k) := fun k hk => by
  obtain ⟨i, hi, rfl⟩ := List.mem_map.mp hk
  exact ld_own m (by have := List.mem_range.mp hi; omega)
/-- what is told: unlike owners of those drawn -/
structure WsOk (some_ : List Kk) (ws : List (Kk × Nat)) : Prop where
  nd : (ws.map (·.1)).Nodup
  len : ws.length ≤ 5
  mem : ∀ w ∈ ws, w.1 ∈ some_
theorem pop_at {α : Type} (f : α → D) (xs : List α) {i : Int} (h0 : 0 ≤ i) (h1 : i < (xs.length : Int)) (hl : xs.length ≤ 1000) : ∃ x, xs[i.toNat]? = some x ∧ fPopAt ((xs.map f).map Av.d) [.d (.int i)] = some (.d (f x), ((xs.eraseIdx i.toNat).map f).map .d) := by
  have hi : i.toNat < xs.length := by omega
  refine ⟨xs[i.toNat], List.getElem?_eq_getElem hi, ?_⟩
  unfold fPopAt
  dsimp only
  have es : seqIndex? i ((xs.map f).map Av.d).length = some i.toNat := by
    rw [List.length_map, List.length_map]
    unfold seqIndex?
    have e0 : (if i < 0 then i + (xs.length : Int) else i) = i := if_neg (by omega)
    simp only [e0]
    exact if_pos (by simp [h0, h1])
  rw [if_pos ⟨by omega, by omega⟩, es]
  dsimp only
  rw [List.getElem?_map, List.getElem?_map, List.getElem?_eq_getElem hi]
  show some (Av.d (f xs[i.toNat]), ((xs.map f).map Av.d).eraseIdx i.toNat) = _
  rw [← map_eraseIdx, ← map_eraseIdx]
theorem nodup_move {os : List Kk} {ks : List Kk} {i : Nat} {k : Kk} (hk : os[i]? = some k) (hn : (ks ++ os).Nodup) : ((ks ++ [k]) ++ os.eraseIdx i).Nodup := by
  have hi := get_lt hk
  have hp : (os.eraseIdx i ++ [k]).Perm os := by
    rw [List.getElem?_eq_getElem hi] at hk
    have e1 : os = os.take i ++ k :: os.drop (i + 1) := by
      rw [← Option.some.inj hk, ← List.drop_eq_getElem_cons hi, List.take_append_drop]
    rw [List.eraseIdx_eq_take_drop_succ]
    refine List.Perm.trans ?_ (List.Perm.of_eq e1.symm)
    rw [List.append_assoc]
    exact List.Perm.append_left _ (List.perm_append_singleton k _)
  have : ((ks ++ [k]) ++ os.eraseIdx i).Perm (ks ++ os) := by
    rw [List.append_assoc]
    exact List.Perm.append_left ks ((List.perm_append_comm).trans hp)
  exact this.nodup_iff.mpr hn


theorem pf_lwhole (d : D) : pf A__law_whole [d] = some (.ok (.bool (isInt d && !isBol d))) := pf_of (wret (by wtm_at "ev") rfl)
theorem nr_all : ("NoRoom" : Str) ∈ allX ∧ subX "NoRoom" "NoRoom" = true := by decide +kernel
theorem ld_ws {ws : List (Kk × Nat)} (gw : ∀ w ∈ ws, LD 1 (kD w.1)) : LD 3 (.list (ws.map wD)) := ld_lst_map fun w hw => ld_tup2 (gw w hw) ((ld_int _).up (by omega))


theorem asked_ok {t : Nat} {fs : List (Str × Av)} {ws : List (Kk × Nat)} (gw : ∀ w ∈ ws, LD 1 (kD w.1)) {S S2 : Sg} {r2 : Rs Av} {d : D} (ht : S[t]? = some (.ins "Table" fs)) (hf : List.lookup (Str.ofString "told") fs = none) (e2 : A_Table_told [.o t, .d (.list (ws.map wD))] S = some (r2, S2)) (hd : (r2 = .ok (.d d)) ∨ (r2 = .ex ⟨"NoRoom", none⟩ ∧ d = .none)) :
    A__law_asked [.o t, .d (.list (ws.map wD))] S = some (.ok (.d d), S2) := by
  have hq := ld_eq (ld_ws gw) (by decide) rfl
  have main : ∃ rr S', A__law_asked [.o t, .d (.list (ws.map wD))] S = some (rr, S') ∧ (rr = .ok (.d d) ∧ S' = S2) := by
    refine def_ex (vset (x := .d .none) e_D (vset (x := .d (.list (ws.map wD))) (S1 := S) (e_cb (es_cons (e_var rfl) es_nil) (f_lst rfl)) ?_))
    have fin : ∀ x, wS (aSeq (aIfS (aB (aOp (opBn fEq) (aVar 3) (aVar 1))) (aRet (aD (.str "changed"))) aNext) (aRet (aVar 2))) [some (.o t), some (.d (.list (ws.map wD))), some (.d x), some (.d (.list (ws.map wD)))] S2 (fun fl σ' S' => match fl with | .rt z => Rs.ok z = .ok (.d x) ∧ S' = S2 | _ => False) := fun x => vwhen (p := !true) (t_B (e_op (e_var rfl) (e_var rfl) (f_Bn rfl rfl hq))) (fun z => nomatch z) fun _ => wret (e_var rfl) ⟨rfl, rfl⟩
    rcases hd with rfl | ⟨rfl, rfl⟩
    · have ecall : aMeth "Table" "told" A_Table_told (aVar 0) (aCons (aVar 3) aNil) [some (.o t), some (.d (.list (ws.map wD))), some (.d .none), some (.d (.list (ws.map wD)))] S = some (.ok (.d d), S2) := e_meth (e_var rfl) ht hf (es_cons (e_var rfl) es_nil) e2
      refine wseq (wtry_ok (asg_ok ecall) (fun e z => by cases z) ?_)
      obtain ⟨fl, σ', S', e, q⟩ := fin d
      refine ⟨fl, σ', S', e, ?_⟩
      cases fl with
      | rt z => exact q
      | _ => exact q.elim
    · have ecall : aMeth "Table" "told" A_Table_told (aVar 0) (aCons (aVar 3) aNil) [some (.o t), some (.d (.list (ws.map wD))), some (.d .none), some (.d (.list (ws.map wD)))] S = some (.ex ⟨"NoRoom", none⟩, S2) := e_meth (e_var rfl) ht hf (es_cons (e_var rfl) es_nil) e2
      refine wseq (wtry_ex (asg_ex ecall) nr_all.1 (s := ("NoRoom", aAsg (aD .none) (agName 2))) (by simp only [List.find?_cons, nr_all.2]) (wset e_D ?_))
      obtain ⟨fl, σ', S', e, q⟩ := fin .none
      refine ⟨fl, σ', S', e, ?_⟩
      cases fl with
      | rt z => exact q
      | _ => exact q.elim
  obtain ⟨rr, S', e, rfl, rfl⟩ := main
  exact e


/-! ### what is told: unlike owners, drawn -/
theorem f_lstC0 {ds : List D} {S : Sg} : cbLstC [.d (.list ds)] S = some (.o S.length, S ++ [.lst (ds.map .d)]) := rfl
theorem pf_wanted (ns : List Int) (hl : ns.length ≤ 63) {k : Nat} (hk : k ≤ 100) (m many : Int) (hm : 1 ≤ many ∧ many ≤ 1000) : ∃ ws, pf A__law_wanted [.list (ns.map PyData.int), .int (k : Int), .list ((someO m).map kD), .int many] = some (.ok (.list (ws.map wD))) ∧ WsOk (someO m) ws ∧ 1 ≤ ws.length := by
  have m2 := pf_mixed ns (k : Int) 2 hl (by omega) (by decide)
  have hm2 := mixF_nn ns (k : Int) 2
  have main : ∃ r, pf A__law_wanted [.list (ns.map PyData.int), .int (k : Int), .list ((someO m).map kD), .int many] = some (.ok r) ∧ ∃ ws, r = .list (ws.map wD) ∧ WsOk (someO m) ws ∧ 1 ≤ ws.length := by
    refine pf_ex (Pr := fun r => ∃ ws, r = .list (ws.map wD) ∧ WsOk (someO m) ws ∧ 1 ≤ ws.length) ?_
    refine vset (x := .d (.int (mixF ns (k : Int) 2))) (S1 := []) (e_callP (es_cons (e_var rfl) (es_cons (e_var rfl) (es_cons e_D es_nil))) rfl m2) ?_
    generalize mixF ns (k : Int) 2 = m2 at hm2
    refine vset (x := .o 0) (S1 := [.lst (((someO m).map kD).map .d)]) (e_cb (es_cons (e_var rfl) es_nil) f_lstC0) ?_
    refine vset (x := .o 1) (S1 := [.lst (((someO m).map kD).map .d), .lst []]) (e_lstC es_nil (by simp)) ?_
    have hN : 1 ≤ (1 + m2 % 5) ∧ (1 + m2 % 5) ≤ 5 := by
      have h1 := Int.emod_nonneg m2 (show (5 : Int) ≠ 0 by omega)
      have h2 := Int.emod_lt_of_pos m2 (show (0 : Int) < 5 by omega)
      omega
    generalize hNe : (1 + m2 % 5) = N at hN
    refine wseq (wforN (fun i σ S => ∃ (x7 x8 x9 x10 : Option Av) (ws : List (Kk × Nat)) (os : List Kk), σ = [some (.d (.list (ns.map PyData.int))), some (.d (.int (k : Int))), some (.d (.list ((someO m).map kD))), some (.d (.int many)), some (.d (.int m2)), some (.o 0), some (.o 1), x7, x8, x9, x10] ∧ S = [.lst ((os.map kD).map .d), .lst ((ws.map wD).map .d)] ∧ ws.length = i ∧ os.length = 5 - i ∧ ((ws.map (·.1)) ++ os).Nodup ∧ (∀ w ∈ ws, w.1 ∈ someO m) ∧ ∀ k ∈ os, k ∈ someO m) (i_r1 (S1 := [.lst (((someO m).map kD).map .d), .lst []]) (n := N) (es_cons (e_to (e_op e_D (e_op (e_var rfl) e_D (f_D (fMod_s (by omega)))) (f_D rfl)) (by rw [hNe])) es_nil) (by omega)) (by rw [List.length_map, rangeD_len]; omega) ⟨none, none, none, none, [], someO m, rfl, rfl, rfl, by unfold someO; rw [List.length_map, List.length_range], someO_nodup m, fun w hw => (nomatch hw), fun k hk => hk⟩ (fun i x σ S hx hI => ?_) fun σ S hI => ?_)
    · obtain ⟨x7, x8, x9, x10, ws, os, rfl, rfl, hwl, hol, hnd, hmw, hmo⟩ := hI
      rw [List.getElem?_map] at hx
      obtain ⟨d, hd, rfl⟩ := Option.map_eq_some_iff.mp hx
      obtain ⟨h1, rfl⟩ := rangeD_get hd
      rw [Int.zero_add]
      have hi : i < 5 := by omega
      have m8 := pf_mixed ns (k : Int) (3 + (i : Int)) hl (by omega) (by omega)
      have hm8 := mixF_nn ns (k : Int) (3 + (i : Int))
      refine vset (x := .d (.int (mixF ns (k : Int) (3 + (i : Int))))) (S1 := [.lst ((os.map kD).map .d), .lst ((ws.map wD).map .d)]) (e_callP (ds := [.list (ns.map PyData.int), .int (k : Int), .int (3 + (i : Int))]) (es_cons (e_var rfl) (es_cons (e_var rfl) (es_cons (e_op e_D (e_var rfl) (f_D rfl)) es_nil))) rfl m8) ?_
      generalize mixF ns (k : Int) (3 + (i : Int)) = m8 at hm8
      have hop : 0 < (os.length : Int) := by omega
      obtain ⟨o, ho, hp⟩ := pop_at kD os (i := m8 % (os.length : Int)) (Int.emod_nonneg _ (by omega)) (Int.emod_lt_of_pos _ hop) (by omega)
      have el : cbLen [.o 0] [.lst ((os.map kD).map Av.d), .lst ((ws.map wD).map Av.d)] = some (.d (.int ((os.length : Nat) : Int)), [.lst ((os.map kD).map Av.d), .lst ((ws.map wD).map Av.d)]) := by
        have := f_lenC (S := [.lst ((os.map kD).map Av.d), .lst ((ws.map wD).map Av.d)]) (j := 0) (n := ((os.map kD).map Av.d).length) rfl rfl
        rwa [List.length_map, List.length_map] at this
      refine vset (x := .d (kD o)) (S1 := [.lst (((os.eraseIdx (m8 % (os.length : Int)).toNat).map kD).map .d), .lst ((ws.map wD).map .d)]) (e_bmL (e_var rfl) (isL_of (xs := (os.map kD).map .d) rfl) (es_cons (e_op (e_var rfl) (e_cb (es_cons (e_var rfl) es_nil) el) (f_D (fMod_s hop))) es_nil) (f_mdL rfl hp)) ?_
      have hdv : 0 ≤ many / 2 := Int.ediv_nonneg (by omega) (by omega)
      refine vset (x := .d (.int (m8 / 5 % (many / 2 + 1)))) (S1 := [.lst (((os.eraseIdx (m8 % (os.length : Int)).toNat).map kD).map .d), .lst ((ws.map wD).map .d)]) (e_op (e_op (e_var rfl) e_D (f_D (fDiv_s (by omega)))) (e_op (e_op (e_var rfl) e_D (f_D (fDiv_s (by omega)))) e_D (f_D rfl)) (f_D (fMod_s (by omega)))) ?_
      refine sq_mono (P' := fun σ' S' => S' = [.lst (((os.eraseIdx (m8 % (os.length : Int)).toNat).map kD).map .d), .lst ((ws.map wD).map .d)] ∧ ∃ n : Nat, σ' = [some (.d (.list (ns.map PyData.int))), some (.d (.int (k : Int))), some (.d (.list ((someO m).map kD))), some (.d (.int many)), some (.d (.int m2)), some (.o 0), some (.o 1), some (.d (.int (i : Int))), some (.d (.int m8)), some (.d (kD o)), some (.d (nD n))]) ?_ ?_
      · have c1 : 0 ≤ m8 / 5 % (many / 2 + 1) := Int.emod_nonneg _ (by omega)
        refine wwhenS (p := decide (m8 / 5000 % 6 = 0)) (t_B (e_op (e_op (e_op (e_var rfl) e_D (f_D (fDiv_s (by omega)))) e_D (f_D (fMod_s (by omega)))) e_D (f_B rfl rfl rfl))) (fun _ => ?_) fun _ => ⟨rfl, (m8 / 5 % (many / 2 + 1)).toNat, ?_⟩
        · have c2 : 0 ≤ m8 / 5 % (many + 3) := Int.emod_nonneg _ (by omega)
          refine wset (x := .d (.int (m8 / 5 % (many + 3)))) (S1 := [.lst (((os.eraseIdx (m8 % (os.length : Int)).toNat).map kD).map .d), .lst ((ws.map wD).map .d)]) (e_op (e_op (e_var rfl) e_D (f_D (fDiv_s (by omega)))) (e_op (e_var rfl) e_D (f_D rfl)) (f_D (fMod_s (by omega)))) ⟨rfl, (m8 / 5 % (many + 3)).toNat, ?_⟩
          unfold nD
          rw [show (((m8 / 5 % (many + 3)).toNat : Nat) : Int) = m8 / 5 % (many + 3) from Int.toNat_of_nonneg c2] <;> rfl
        · unfold nD
          rw [show (((m8 / 5 % (many / 2 + 1)).toNat : Nat) : Int) = m8 / 5 % (many / 2 + 1) from Int.toNat_of_nonneg c1] <;> rfl
      rintro σ' S' ⟨rfl, n, rfl⟩
      have hnd2 := nodup_move ho hnd
      have hsub : (os.eraseIdx (m8 % (os.length : Int)).toNat).length = 5 - (i + 1) := by
        rw [List.length_eraseIdx, if_pos (get_lt ho), hol]
        omega
      have hmo' : ∀ z ∈ os.eraseIdx (m8 % (os.length : Int)).toNat, z ∈ someO m := fun z hz => hmo z (List.mem_of_mem_eraseIdx hz)
      generalize os.eraseIdx (m8 % (os.length : Int)).toNat = os' at hnd2 hsub hmo'
      · have hap := app_map (f := wD) ws (o, n) (by omega)
        refine wdrop (S1 := [.lst ((os'.map kD).map .d), .lst (((ws ++ [(o, n)]).map wD).map .d)]) (e_bmL (e_var rfl) (isL_of (xs := (ws.map wD).map .d) rfl) (es_cons (e_tup (ds := [kD o, nD n]) (es_cons (e_var rfl) (es_cons (e_var rfl) es_nil)) rfl (by simp)) es_nil) (f_mdL rfl hap)) ⟨_, _, _, _, ws ++ [(o, n)], os', rfl, rfl, by rw [List.length_append, List.length_singleton, hwl], hsub, by rw [List.map_append]; exact hnd2, fun w hw => ?_, hmo'⟩
        rcases List.mem_append.mp hw with hw | hw
        · exact hmw w hw
        · rw [List.mem_singleton.mp hw]
          exact hmo o (List.mem_of_getElem? ho)
    · obtain ⟨x7, x8, x9, x10, ws, os, rfl, rfl, hwl, hol, hnd, hmw, hmo⟩ := hI
      rw [List.length_map, rangeD_len] at hwl
      rw [List.nodup_append] at hnd
      exact wret (e_frz (j := 1) (ds := ws.map wD) (e_var rfl) rfl) ⟨ws, rfl, ⟨hnd.1, by omega, hmw⟩, by omega⟩
  obtain ⟨r, e, ws, rfl, h⟩ := main
  exact ⟨ws, e, h⟩


/-! ### places stay while growing -/
theorem cut_drop {α : Type} (f : α → D) (xs : List α) (m : Nat) : cutD (xs.map f) (some (m : Int)) none = (xs.drop m).map f := by
  unfold cutD
  have e1 : HT.sIx (xs.map f).length (xs.map f).length none = (xs.map f).length := rfl
  have e2 : HT.sIx (xs.map f).length 0 (some (m : Int)) = min m xs.length := by
    rw [HT.sIx_nat, List.length_map]
  rw [e1, e2, List.length_map, ← List.map_drop, ← List.map_take]
  congr 1
  by_cases h : m ≤ xs.length
  · rw [Nat.min_eq_left h, List.take_of_length_le (by rw [List.length_drop]; omega)]
  · rw [Nat.min_eq_right (by omega), List.drop_of_length_le (by omega), List.drop_of_length_le (by omega), List.take_nil]

def leN (a b : Nat) : Bool := PySem.W.dataLe false id (nD a) (nD b)
theorem leN_iff (a b : Nat) : leN a b = true ↔ a ≤ b := by
  have e : leN a b = !PySem.W.dataLt (.int (b : Int)) (.int (a : Int)) := rfl
  rw [e, PySem.W.dataLt_int, PySem.W.not_lt_int, decide_eq_true_iff]
  omega
theorem srt_nats {xs ys : List Nat} (h : xs.Perm ys) : srt (xs.map nD) = srt (ys.map nD) := by
  have e : ∀ zs : List Nat, srt (zs.map nD) = (zs.mergeSort leN).map nD := fun zs => by
    unfold srt
    exact (List.map_mergeSort (r := leN) (s := PySem.W.dataLe false id) (f := nD) (l := zs) (fun a _ b _ => rfl)).symm
  rw [e, e]
  congr 1
  have tr : ∀ a b c : Nat, leN a b = true → leN b c = true → leN a c = true := fun a b c h1 h2 => by
    rw [leN_iff] at *; omega
  have to : ∀ a b : Nat, (leN a b || leN b a) = true := fun a b => by
    rw [Bool.or_eq_true, leN_iff, leN_iff]; omega
  exact List.Perm.eq_of_pairwise (le := fun a b => leN a b = true) (fun a b _ _ h1 h2 => by rw [leN_iff] at *; omega) (List.pairwise_mergeSort tr to xs) (List.pairwise_mergeSort tr to ys) (((List.mergeSort_perm xs leN).trans h).trans (List.mergeSort_perm ys leN).symm)
theorem sort_nats (xs : List Nat) (hl : xs.length ≤ 100000) {S : Sg} : cbSort [.d (.list (xs.map nD))] S = some (.d (.list (srt (xs.map nD))), S) := by
  have : sortOk (xs.map nD) = true := by
    unfold sortOk
    have h1 : ((xs.map nD).all fun d => (xs.map nD).all fun e => PySem.W.alike d e) = true := by
      rw [List.all_eq_true]
      intro d hd
      rw [List.all_eq_true]
      intro e he
      obtain ⟨a, _, rfl⟩ := List.mem_map.mp hd
      obtain ⟨b, _, rfl⟩ := List.mem_map.mp he
      rfl
    have h2 : (xs.map nD).all othN = true := by
      rw [List.all_eq_true]
      intro d hd
      obtain ⟨a, _, rfl⟩ := List.mem_map.mp hd
      rfl
    have h3 : ((xs.map nD).all fun d => decide (PyData.depth d ≤ 60)) = true := by
      rw [List.all_eq_true]
      intro d hd
      obtain ⟨a, _, rfl⟩ := List.mem_map.mp hd
      rfl
    rw [h1, h2, h3, decide_eq_true (by rw [List.length_map]; exact hl), Bool.or_true] <;> rfl
  unfold cbSort
  show (match seqL S (.d (.list (xs.map nD))) with | some ds => if sortOk ds = true then some (Av.d (.list (srt ds)), S) else none | none => none) = _
  show (if sortOk (xs.map nD) = true then some (Av.d (.list (srt (xs.map nD))), S) else none) = _
  rw [if_pos this]
theorem frees_tk {T : Tab} {k : Kk} {n x : Nat} (h : x ∈ frees (tkT T k n)) : x ∈ frees T := by
  have h := mem_frees.mp h
  have h : (wipe T.hold (tkF T k n) (some k))[x]? = some none := h
  rw [wipe_get] at h
  split at h
  · cases h
  · exact mem_frees.mpr h
theorem tks_in : ∀ (ws : List (Kk × Nat)) (V : Tab), TabOk V → (ws.map (·.1)).Nodup → (ws.map fun w => w.2 - (plc V w.1).length).sum ≤ freN V.hold → ∀ w ∈ ws, ∃ xs, plc (tks V ws) w.1 = plc V w.1 ++ xs ∧ xs.length = w.2 - (plc V w.1).length ∧ ∀ x ∈ xs, x ∈ frees V
  | [], V, _, _, _, w, hw => nomatch hw
  | v :: ws, V, hv, hn, hs, w, hw => by
    rw [List.map_cons, List.nodup_cons] at hn
    rw [List.map_cons, List.sum_cons] at hs
    have hr : v.2 - (plc V v.1).length ≤ (frees V).length := by rw [fre_eq]; omega
    rcases List.mem_cons.mp hw with rfl | hw
    · refine ⟨tkF V w.1 w.2, ?_, tkF_len hr, fun x hx => List.mem_of_mem_take hx⟩
      show plc (tks (tkT V w.1 w.2) ws) w.1 = _
      rw [tks_no ws _ _ hn.1, tkT_plc, if_pos rfl]
    · have h2 := freN_tk v.1 v.2 (T := V) hr
      have h3 : (ws.map fun u => u.2 - (plc (tkT V v.1 v.2) u.1).length) = ws.map fun u => u.2 - (plc V u.1).length := List.map_congr_left fun u hu => by
        have hne : v.1 ≠ u.1 := fun e => hn.1 (by rw [e]; exact List.mem_map.mpr ⟨u, hu, rfl⟩)
        rw [tkT_plc, if_neg hne]
      obtain ⟨xs, e1, e2, e3⟩ := tks_in ws (tkT V v.1 v.2) (tkT_ok hv) hn.2 (by rw [h3]; omega) w hw
      have hne : v.1 ≠ w.1 := fun e => hn.1 (by rw [e]; exact List.mem_map.mpr ⟨w, hw, rfl⟩)
      rw [tkT_plc, if_neg hne] at e1 e2
      exact ⟨xs, e1, e2, fun x hx => frees_tk (e3 x hx)⟩
theorem frees_gbs : ∀ (ws : List (Kk × Nat)) (T : Tab), ∀ x ∈ frees (gbs T ws), x ∈ frees T ∨ x ∈ gbsB T ws
  | [], T, x, h => .inl h
  | w :: ws, T, x, h => by
    rcases frees_gbs ws (gbT T w.1 w.2) x h with h | h
    · have h := mem_frees.mp h
      have h : (wipe T.hold ((plc T w.1).drop w.2).reverse none)[x]? = some none := h
      rw [wipe_get] at h
      split at h
      · rename_i c
        exact .inr (List.mem_append_left _ c.1)
      · exact .inl (mem_frees.mpr h)
    · exact .inr (List.mem_append_right _ h)
theorem gbsB_perm : ∀ (ws : List (Kk × Nat)) (T : Tab), (ws.map (·.1)).Nodup → (gbsB T ws).Perm (ws.flatMap fun w => (plc T w.1).drop w.2)
  | [], T, _ => List.Perm.refl _
  | w :: ws, T, hn => by
    rw [List.map_cons, List.nodup_cons] at hn
    have ih := gbsB_perm ws (gbT T w.1 w.2) hn.2
    have e : (ws.flatMap fun v => (plc (gbT T w.1 w.2) v.1).drop v.2) = ws.flatMap fun v => (plc T v.1).drop v.2 := by
      have : ∀ vs : List (Kk × Nat), (∀ v ∈ vs, v.1 ≠ w.1) → (vs.flatMap fun v => (plc (gbT T w.1 w.2) v.1).drop v.2) = vs.flatMap fun v => (plc T v.1).drop v.2 := fun vs => by
        induction vs with
        | nil => intro _; rfl
        | cons v vs ih =>
          intro h
          rw [List.flatMap_cons, List.flatMap_cons, ih fun u hu => h u (List.mem_cons_of_mem _ hu), gbT_plc, if_neg fun z => h v (List.mem_cons_self ..) z.symm]
      exact this ws fun v hv z => hn.1 (by rw [← z]; exact List.mem_map.mpr ⟨v, hv, rfl⟩)
    rw [e] at ih
    show (gbB T w.1 w.2 ++ gbsB (gbT T w.1 w.2) ws).Perm (((plc T w.1).drop w.2) ++ _)
    exact List.Perm.append (List.reverse_perm _) ih
def numL (T : Tab) (ws : List (Kk × Nat)) (k : Kk) : Nat := (vl ws k).getD (plc T k).length
theorem num_in {T : Tab} {ws : List (Kk × Nat)} (hn : (ws.map (·.1)).Nodup) {w : Kk × Nat} (h : w ∈ ws) : numL T ws w.1 = w.2 := by
  unfold numL
  rw [mem_vl hn h] <;> rfl
theorem num_no {T : Tab} {ws : List (Kk × Nat)} {k : Kk} (h : k ∉ ws.map (·.1)) : numL T ws k = (plc T k).length := by
  unfold numL
  rw [vl_none.mpr h] <;> rfl
/-- what is given back is what owners have no longer -/
theorem gone_perm {T : Tab} {ws : List (Kk × Nat)} (hn : (ws.map (·.1)).Nodup) {some_ : List Kk} (hs : some_.Nodup) (hm : ∀ w ∈ ws, w.1 ∈ some_) : (gbsB T ws).Perm (some_.flatMap fun k => (plc T k).drop (numL T ws k)) := by
  refine (gbsB_perm ws T hn).trans ?_
  have e1 : (ws.flatMap fun w => (plc T w.1).drop w.2) = (ws.map (·.1)).flatMap fun k => (plc T k).drop (numL T ws k) := by
    have : ∀ vs : List (Kk × Nat), (∀ v ∈ vs, v ∈ ws) → (vs.flatMap fun w => (plc T w.1).drop w.2) = (vs.map (·.1)).flatMap fun k => (plc T k).drop (numL T ws k) := fun vs => by
      induction vs with
      | nil => intro _; rfl
      | cons v vs ih =>
        intro h
        rw [List.flatMap_cons, List.map_cons, List.flatMap_cons, ih fun u hu => h u (List.mem_cons_of_mem _ hu), num_in hn (h v (List.mem_cons_self ..))]
    exact this ws fun v h => h
  rw [e1]
  have hp : some_.Perm (ws.map (·.1) ++ some_.filter fun k => decide (k ∉ ws.map (·.1))) := by
    refine (List.perm_ext_iff_of_nodup hs ?_).mpr fun k => ?_
    · rw [List.nodup_append]
      refine ⟨hn, hs.sublist List.filter_sublist, fun a ha b hb e => ?_⟩
      have := (List.mem_filter.mp hb).2
      exact (of_decide_eq_true this) (e ▸ ha)
    · rw [List.mem_append, List.mem_filter]
      constructor
      · intro h
        by_cases c : k ∈ ws.map (·.1)
        · exact .inl c
        · exact .inr ⟨h, decide_eq_true c⟩
      · rintro (h | h)
        · obtain ⟨w, hw, rfl⟩ := List.mem_map.mp h
          exact hm w hw
        · exact h.1
  refine (List.Perm.symm ?_)
  refine (List.Perm.flatMap_right _ hp).trans ?_
  rw [List.flatMap_append]
  have e2 : ((some_.filter fun k => decide (k ∉ ws.map (·.1))).flatMap fun k => (plc T k).drop (numL T ws k)) = [] := by
    rw [List.flatMap_eq_nil_iff]
    intro k hk
    rw [num_no (of_decide_eq_true (List.mem_filter.mp hk).2)]
    exact List.drop_length
  rw [e2, List.append_nil]
/-- what is asked of each owner -/
theorem stays {T : Tab} (hT : TabOk T) {ws : List (Kk × Nat)} (hn : (ws.map (·.1)).Nodup) (hr : ¬ room T ws < 0) (k : Kk) :
    (plc (tks (gbs T ws) ws) k).length = numL T ws k ∧ (plc (tks (gbs T ws) ws) k).take (min (plc T k).length (numL T ws k)) = (plc T k).take (min (plc T k).length (numL T ws k)) ∧
      ∀ x ∈ (plc (tks (gbs T ws) ws) k).drop (min (plc T k).length (numL T ws k)), x ∈ frees T ++ gbsB T ws := by
  by_cases c : k ∈ ws.map (·.1)
  · obtain ⟨w, hw, rfl⟩ := List.mem_map.mp c
    obtain ⟨xs, e1, e2, e3⟩ := tks_in ws (gbs T ws) (gbs_ok ws T hT) hn (room_gbs hT hn hr) w hw
    rw [gbs_in ws T hn w hw] at e1 e2
    rw [List.length_take] at e2
    rw [num_in hn hw, e1]
    have hl : ((plc T w.1).take w.2).length = min (plc T w.1).length w.2 := by rw [List.length_take, Nat.min_comm]
    refine ⟨by rw [List.length_append, List.length_take, e2]; omega, ?_, fun x hx => ?_⟩
    · rw [List.take_append_of_le_length (by rw [hl]; exact Nat.le_refl _), ← hl, List.take_length]
      rw [hl]
      by_cases h : (plc T w.1).length ≤ w.2
      · rw [Nat.min_eq_left h, List.take_of_length_le h, List.take_length]
      · rw [Nat.min_eq_right (by omega)]
    · rw [← hl, List.drop_left] at hx
      rcases frees_gbs ws T x (e3 x hx) with h | h
      · exact List.mem_append_left _ h
      · exact List.mem_append_right _ h
  · rw [num_no c, tks_no ws _ k c, gbs_no ws T k c, Nat.min_self, List.drop_length]
    exact ⟨rfl, rfl, fun x hx => nomatch hx⟩
theorem in_nats (S : Sg) (x : Nat) (xs : List Nat) : inB S (.d (nD x)) (.d (.list (xs.map nD))) = some (decide (x ∈ xs)) := by
  show (match dvn 4 S (.d (nD x)) with | some a => fIn a (.list (xs.map nD)) | none => none) = _
  show fIn (nD x) (.list (xs.map nD)) = _
  unfold fIn nD
  dsimp only
  have hs : SeqAt.shaped (.list (xs.map nD)) = true := ld_sh (ld_lst_map (n := 0) fun y _ => ld_int _) (by decide)
  rw [if_pos ⟨rfl, hs⟩]
  congr 1
  rw [Bool.eq_iff_iff, List.any_eq_true, decide_eq_true_iff]
  constructor
  · rintro ⟨d, hd, e⟩
    obtain ⟨y, hy, rfl⟩ := List.mem_map.mp hd
    have : decide ((y : Int) = (x : Int)) = true := e
    have := of_decide_eq_true this
    have : y = x := by omega
    rw [← this]; exact hy
  · intro h
    exact ⟨nD x, List.mem_map_of_mem h, by show decide ((x : Int) = (x : Int)) = true; exact decide_eq_true rfl⟩
theorem len_nats (xs : List Nat) : fLen [.list (xs.map nD)] = some (.int ((xs.length : Nat) : Int)) := by
  show some (PyData.int (((xs.map nD).length : Nat) : Int)) = _
  rw [List.length_map]
theorem eq_nats (xs : List Nat) : fEq (.list (xs.map nD)) (.list (xs.map nD)) = some true := ld_eq (ld_lst_map (n := 0) fun x _ => ld_int _) (by decide) rfl
theorem take_nats (xs : List Nat) (m : Nat) : fSl (.list (xs.map nD)) none (some (m : Int)) = some (.list ((xs.take m).map nD)) := by
  show some (PyData.list (cutD _ _ _)) = _
  rw [cut_take]
theorem drop_nats (xs : List Nat) (m : Nat) : fSl (.list (xs.map nD)) (some (m : Int)) none = some (.list ((xs.drop m).map nD)) := by
  show some (PyData.list (cutD _ _ _)) = _
  rw [cut_drop]
theorem pf_stays (k : Kk) (a b fr : List Nat) (n : Nat) (hb : b.length = n) (hl : b.length ≤ 900000) (ht : b.take (min a.length n) = a.take (min a.length n)) (hf : ∀ x ∈ b.drop (min a.length n), x ∈ fr) :
    pf A__law_stays [kD k, .list (a.map nD), .list (b.map nD), nD n, .list (fr.map nD)] = some (.ok (.bool true)) := by
  refine pf_of (vwhen (p := !true) (t_to (t_B (e_op (e_cb (es_cons (e_var rfl) es_nil) (f_lenD (len_nats b))) (e_var rfl) (f_Bn rfl rfl rfl))) ?_) (fun z => nomatch z) fun _ => ?_)
  · rw [hb, decide_eq_true rfl]
  have hm : (min ((a.length : Nat) : Int) (n : Int)) = ((min a.length n : Nat) : Int) := by omega
  refine vset (x := .d (nD (min a.length n))) (S1 := []) (e_cb (es_cons (e_cb (es_cons (e_var rfl) es_nil) (f_lenD (len_nats a))) (es_cons (e_var rfl) es_nil)) (f_cbD rfl (by show some (PyData.int (min ((a.length : Nat) : Int) (n : Int))) = _; rw [hm] <;> rfl))) ?_
  generalize min a.length n = m at ht hf
  refine vwhen (p := !true) (t_B (e_op (e_sl (e_var rfl) o_N (o_S (e_var rfl)) (take_nats b m)) (e_sl (e_var rfl) o_N (o_S (e_var rfl)) (take_nats a m)) (f_Bn rfl rfl (by rw [ht]; exact eq_nats _)))) (fun z => nomatch z) fun _ => ?_
  have iv := i_listA (S := []) (S1 := []) (σ := [some (.d (kD k)), some (.d (.list (a.map nD))), some (.d (.list (b.map nD))), some (.d (nD n)), some (.d (.list (fr.map nD))), some (.d (nD m)), none]) (a := aSl (aVar 2) (aoS (aVar 5)) aoN) nD (b.drop m) (e_sl (e_var rfl) (o_S (e_var rfl)) o_N (drop_nats b m))
  refine wseq (wforA (as := b.drop m) (fun x => Av.d (nD x)) (fun i σ S' => (∃ x6, σ = [some (.d (kD k)), some (.d (.list (a.map nD))), some (.d (.list (b.map nD))), some (.d (nD n)), some (.d (.list (fr.map nD))), some (.d (nD m)), x6]) ∧ S' = []) iv (by rw [List.length_drop]; omega) ⟨⟨_, rfl⟩, rfl⟩ ?_ ?_)
  · rintro i x σ S' hx ⟨⟨x6, rfl⟩, rfl⟩
    have hin := hf x (List.mem_of_getElem? hx)
    have h1 := in_nats [] x fr
    rw [decide_eq_true hin] at h1
    exact wwhenS (p := !true || !true) (t_or (t_not (t_B (e_to (e_callP (ds := [nD x]) (es_cons (e_var rfl) es_nil) rfl (pf_lwhole (nD x))) rfl))) fun _ => t_B (e_op (e_var rfl) (e_var rfl) (f_inT h1))) (fun z => nomatch z) fun _ => ⟨⟨_, rfl⟩, rfl⟩
  · rintro σ S' ⟨⟨x6, rfl⟩, rfl⟩
    exact wret e_D rfl


/-! ### what is told, looked at; the law -/
def aC (m : List (Kk × List Nat)) : Cl := .dv (m.map fun p => (toV p.1, Av.d (.list (p.2.map nD))))
def nC (ws : List (Kk × Nat)) : Cl := .dv (ws.map fun w => (toV w.1, Av.d (nD w.2)))
theorem aC_look (m : List (Kk × List Nat)) (k : Kk) : valA (m.map fun p => (toV p.1, Av.d (.list (p.2.map nD)))) (toV k) = (vl m k).map fun ps => Av.d (.list (ps.map nD)) := valA_map (f := toV) toV_inj (g := fun _ (ps : List Nat) => Av.d (.list (ps.map nD)))
theorem aC_put {m : List (Kk × List Nat)} {k : Kk} {ps : List Nat} (hl : m.length < 100000) : putC (aC m) (kD k) (.d (.list (ps.map nD))) = some (aC (pu m k ps)) := by
  have := putA_map (f := toV) toV_inj (g := fun (_ : Kk) (ps : List Nat) => Av.d (.list (ps.map nD))) (kvs := m) (k := k) (v := ps) (x := .d (.list (ps.map nD))) rfl
  unfold aC
  rw [putC_dv, if_pos (by rw [List.length_map]; exact hl), vk_kD]
  exact congrArg (fun z => some (Cl.dv z)) this
theorem aC_get {S : Sg} {j : Nat} {m : List (Kk × List Nat)} {k : Kk} {ps : List Nat} (h : S[j]? = some (aC m)) (e : vl m k = some ps) : opIx (.o j) (.d (kD k)) S = some (.d (.list (ps.map nD)), S) := by
  refine f_ixC h ?_
  show (vkOf (kD k)).bind (valA _) = _
  rw [vk_kD]
  show valA _ (toV k) = _
  rw [aC_look, e] <;> rfl
theorem nC_look (ws : List (Kk × Nat)) (k : Kk) : lookC (peel (nC ws)) (kD k) = some ((vl ws k).map fun n => Av.d (nD n)) := by
  show (vkOf (kD k)).map (valA _) = _
  rw [vk_kD]
  exact congrArg some (valA_map (f := toV) toV_inj (g := fun _ (n : Nat) => Av.d (nD n)))
theorem f_nums {ws : List (Kk × Nat)} (hn : (ws.map (·.1)).Nodup) (S : Sg) : cbDictV [.d (.list (ws.map wD))] S = some (.o S.length, S ++ [nC ws]) := by
  have e : ∀ l : List (Kk × Nat), pairVs (l.map wD) = some (l.map fun w => (toV w.1, nD w.2)) := fun l => by
    induction l with
    | nil => rfl
    | cons w l ih =>
      rw [List.map_cons]
      unfold pairVs
      rw [ih]
      have : pairV (wD w) = some (toV w.1, nD w.2) := by
        show (vkOf (kD w.1)).map _ = _
        rw [vk_kD] <;> rfl
      rw [this] <;> rfl
  have hn2 : ((ws.map fun w => (toV w.1, nD w.2)).map (·.1)).Nodup := by
    rw [List.map_map]
    have : ((fun x : Vd.Vk × D => x.1) ∘ fun w : Kk × Nat => (toV w.1, nD w.2)) = toV ∘ fun w : Kk × Nat => w.1 := rfl
    rw [this, ← List.map_map]
    exact List.pairwise_map.mpr (hn.imp fun hab e => hab (toV_inj _ _ e))
  have es : seqL S (.d (.list (ws.map wD))) = some (ws.map wD) := rfl
  unfold cbDictV
  dsimp only
  rw [es]
  dsimp only
  rw [e ws]
  dsimp only
  rw [if_pos hn2, List.map_map] <;> rfl
theorem own_gbs : ∀ (vs : List (Kk × Nat)) (T : Tab), (gbs T vs).own.length ≤ T.own.length + vs.length
  | [], T => Nat.le_refl _
  | v :: vs, T => by
    have h1 := own_gbs vs (gbT T v.1 v.2)
    have h2 : (gbT T v.1 v.2).own.length ≤ T.own.length + 1 := pu_len
    show (gbs (gbT T v.1 v.2) vs).own.length ≤ T.own.length + (vs.length + 1)
    omega
theorem own_tks : ∀ (vs : List (Kk × Nat)) (T : Tab), (tks T vs).own.length ≤ T.own.length + vs.length
  | [], T => Nat.le_refl _
  | v :: vs, T => by
    have h1 := own_tks vs (tkT T v.1 v.2)
    have h2 : (tkT T v.1 v.2).own.length ≤ T.own.length + 1 := pu_len
    show (tks (tkT T v.1 v.2) vs).own.length ≤ T.own.length + (vs.length + 1)
    omega
theorem right_ok {T : Tab} {ℓ : RT → Nat} {S : Sg} {N : Nat} (r : RR (ctT T ℓ) ℓ S) (hT : TabOk T) (ho : T.own.length ≤ N) (hN : N ≤ 80000) {ks : List Kk} (hk : ks.length ≤ 5) (hnk : ks.Nodup) {ws : List (Kk × Nat)} (hw : WsOk ks ws) (gw : ∀ w ∈ ws, LD 1 (kD w.1)) :
    ∃ S', A__law_right [.o (ℓ .tb), .d (.list (ks.map kD)), .d (.list (ws.map wD))] S = some (.ok (.d (.bool true)), S') ∧ ∃ T' ℓ', RR (ctT T' ℓ') ℓ' S' ∧ TabOk T' ∧ T'.own.length ≤ N + 10 ∧ ℓ' .tb = ℓ .tb := by
  have hlen := hT.len
  have hwl := hw.len
  have main : ∃ rr S', A__law_right [.o (ℓ .tb), .d (.list (ks.map kD)), .d (.list (ws.map wD))] S = some (rr, S') ∧ (rr = .ok (.d (.bool true)) ∧ ∃ T' ℓ', RR (ctT T' ℓ') ℓ' S' ∧ TabOk T' ∧ T'.own.length ≤ N + 10 ∧ ℓ' .tb = ℓ .tb) := by
    refine def_ex (vset e_dnewV ?_)
    have lst : ∀ {σ : Sl} {S : Sg}, σ[1]? = some (some (.d (.list (ks.map kD)))) → aiAny (aVar 1) σ S = some (.ok (itL (ks.map fun k => Av.d (kD k))), S) := fun h => i_listA kD ks (e_var h)
    refine wseq (wforA (as := ks) (fun k => Av.d (kD k)) (fun i σ S' => (∃ x4, σ = [some (.o (ℓ .tb)), some (.d (.list (ks.map kD))), some (.d (.list (ws.map wD))), some (.o S.length), x4, none, none, none, none, none]) ∧ ∃ m : List (Kk × List Nat), S' = S ++ [aC m] ∧ m.length ≤ i ∧ ∀ j ∈ ks.take i, vl m j = some (plc T j)) (lst rfl) (by omega) ⟨⟨_, rfl⟩, [], rfl, Nat.le_refl _, fun j hj => by rw [List.take_zero] at hj; cases hj⟩ ?_ ?_)
    · rintro i k σ S' hx ⟨⟨x4, rfl⟩, m, rfl, hml, hm⟩
      have hil := get_lt hx
      have htk : ks.take (i + 1) = ks.take i ++ [k] := by rw [List.take_add_one, hx] <;> rfl
      have r1 : RR (ctT T ℓ) ℓ (S ++ [aC m]) := r.app
      have hS : (S ++ [aC m])[S.length]? = some (aC m) := get_last _ _
      refine wsub (x := .d (.list ((plc T k).map nD))) (e_meth (e_var rfl) (r1.at_ .tb _ rfl) rfl (es_cons (e_var rfl) es_nil) (places_ok (fun r c => r1.at_ r c) k)) (e_var rfl) (e_var rfl) (f_stM hS (aC_put (by omega))) ⟨⟨_, rfl⟩, pu m k (plc T k), by simp, ?_, fun j hj => ?_⟩
      · have := pu_len (kvs := m) (k := k) (v := plc T k)
        omega
      · rw [htk] at hj
        rw [vl_pu]
        by_cases e : k = j
        · subst e; rw [if_pos rfl]
        · rw [if_neg e]
          rcases List.mem_append.mp hj with h | h
          · exact hm j h
          · exact absurd (List.mem_singleton.mp h).symm e
    · rintro σ S' ⟨⟨x4, rfl⟩, m, rfl, _, hm⟩
      rw [List.take_length] at hm
      have r1 : RR (ctT T ℓ) ℓ (S ++ [aC m]) := r.app
      have hS : (S ++ [aC m])[S.length]? = some (aC m) := get_last _ _
      have hni : ¬ Im (ctT T ℓ) ℓ S.length := Im.no_len r
      generalize S ++ [aC m] = S1 at r1 hS
      have k1 := r1.at_ .tb _ rfl
      refine vset (x := .d (.list ((frees T).map nD))) (S1 := S1) (e_meth (e_var rfl) k1 rfl es_nil (free_ok (fun r c => r1.at_ r c) (Nat.le_trans hlen (by decide)))) ?_
      obtain ⟨r2, S2, e2, q⟩ := told_ok r1 hT ws (by omega) (by omega)
      cases et : toldT T ws with
      | none =>
        rw [et] at q
        obtain ⟨rfl, rfl⟩ := q
        refine vset (x := .d .none) (S1 := S2) (e_call (es_cons (e_var rfl) (es_cons (e_var rfl) es_nil)) (asked_ok gw k1 rfl e2 (.inr ⟨rfl, rfl⟩))) ?_
        refine vwhen (p := true) (t_B (e_op (x := .d .none) (y := .d .none) (z := .d (.bool true)) (e_var rfl) e_D rfl)) (fun _ => ?_) fun z => nomatch z
        refine wseq (wforA (as := ks) (fun k => Av.d (kD k)) (fun i σ S' => (∃ x4, σ = [some (.o (ℓ .tb)), some (.d (.list (ks.map kD))), some (.d (.list (ws.map wD))), some (.o S.length), x4, some (.d (.list ((frees T).map nD))), some (.d .none), none, none, none]) ∧ S' = S2) (lst rfl) (by omega) ⟨⟨_, rfl⟩, rfl⟩ ?_ ?_)
        · rintro i k σ S' hx ⟨⟨x4, rfl⟩, rfl⟩
          have hg := aC_get hS (hm k (List.mem_of_getElem? hx))
          exact wwhenS (p := !true) (t_B (e_op (e_meth (e_var rfl) k1 rfl (es_cons (e_var rfl) es_nil) (places_ok (fun r c => r1.at_ r c) k)) (e_op (e_var rfl) (e_var rfl) hg) (f_Bn rfl rfl (eq_nats _)))) (fun z => nomatch z) fun _ => ⟨⟨_, rfl⟩, rfl⟩
        · rintro σ S' ⟨⟨x4, rfl⟩, rfl⟩
          exact wret (e_op (e_meth (e_var rfl) k1 rfl es_nil (free_ok (fun r c => r1.at_ r c) (Nat.le_trans hlen (by decide)))) (e_var rfl) (f_B rfl rfl (eq_nats _))) ⟨rfl, T, ℓ, r1, hT, by omega, rfl⟩
      | some qq =>
        rw [et] at q
        obtain ⟨rfl, ℓ', st⟩ := q
        have hr : ¬ room T ws < 0 := fun c => by
          unfold toldT at et
          rw [if_pos c] at et
          cases et
        have eqq : qq = (tks (gbs T ws) ws, gbsB T ws) := by
          unfold toldT at et
          rw [if_neg hr] at et
          exact (Option.some.inj et).symm
        subst eqq
        have hT2 : TabOk (tks (gbs T ws) ws) := tks_ok ws _ (gbs_ok ws T hT)
        have hB : (gbsB T ws).length ≤ 5000 := by
          have h1 := gbsB_len ws T hT
          have h2 := Nat.mul_le_mul_right 1000 hwl
          omega
        have hfl := hT.flen
        have hol : (tks (gbs T ws) ws).own.length ≤ N + 10 := by
          have := own_tks ws (gbs T ws)
          have := own_gbs ws T
          omega
        have hsta := stays hT hw.nd hr
        have hperm := gone_perm hw.nd hnk hw.mem (T := T)
        refine vset (x := .d (.list ((gbsB T ws).map nD))) (S1 := S2) (e_call (es_cons (e_var rfl) (es_cons (e_var rfl) es_nil)) (asked_ok gw k1 rfl e2 (.inl rfl))) ?_
        refine vwhen (p := false) (t_B (e_op (x := .d (.list ((gbsB T ws).map nD))) (y := .d .none) (z := .d (.bool false)) (e_var rfl) e_D rfl)) (fun z => nomatch z) fun _ => ?_
        refine vwhen (p := !true) (t_not (t_B (e_to (e_isLst (e_var rfl)) rfl))) (fun z => nomatch z) fun _ => ?_
        refine vset (x := .d (.list [])) (S1 := S2) (e_lstF es_nil rfl (by simp)) ?_
        refine vset (x := .o S2.length) (S1 := S2 ++ [nC ws]) (e_cb (es_cons (e_var rfl) es_nil) (f_nums hw.nd S2)) ?_
        have r3 : RR (ctT (tks (gbs T ws) ws) ℓ') ℓ' (S2 ++ [nC ws]) := st.rr.app
        have hS3 : (S2 ++ [nC ws])[S.length]? = some (aC m) := get_app (st.get hS hni)
        have hN3 : (S2 ++ [nC ws])[S2.length]? = some (nC ws) := get_last _ _
        have etb : ℓ' .tb = ℓ .tb := (st.keep .tb (fun z => nomatch z)).2
        generalize S2.length = jn at hN3
        generalize S2 ++ [nC ws] = S3 at r3 hS3 hN3
        have k3 := r3.at_ .tb _ rfl
        have pl3 := fun k => places_ok (fun r c => r3.at_ r c) k
        rw [etb] at k3 pl3
        generalize tks (gbs T ws) ws = T2 at hT2 hol hsta k3 pl3 r3
        have hgl : ∀ i, ((ks.take i).flatMap fun k => (plc T k).drop (numL T ws k)).length ≤ 5000 := fun i => by
          have : ∀ l : List Kk, (l.flatMap fun k => (plc T k).drop (numL T ws k)).length ≤ l.length * 1000 := fun l => by
            induction l with
            | nil => exact Nat.zero_le _
            | cons k l ih =>
              rw [List.flatMap_cons, List.length_append, List.length_drop, List.length_cons, Nat.succ_mul]
              have := hT.plen k
              omega
          have h1 := this (ks.take i)
          have h2 := List.length_take_le' i ks
          have h3 := Nat.mul_le_mul_right 1000 (Nat.le_trans h2 hk)
          omega
        refine wseq (wforA (as := ks) (fun k => Av.d (kD k)) (fun i σ S' => (∃ x4 x9, σ = [some (.o (ℓ .tb)), some (.d (.list (ks.map kD))), some (.d (.list (ws.map wD))), some (.o S.length), x4, some (.d (.list ((frees T).map nD))), some (.d (.list ((gbsB T ws).map nD))), some (.d (.list (((ks.take i).flatMap fun k => (plc T k).drop (numL T ws k)).map nD))), some (.o jn), x9]) ∧ S' = S3) (lst rfl) (by omega) ⟨⟨_, _, rfl⟩, rfl⟩ ?_ ?_)
        · rintro i k σ S' hx ⟨⟨x4, x9, rfl⟩, rfl⟩
          have htk : ks.take (i + 1) = ks.take i ++ [k] := by rw [List.take_add_one, hx] <;> rfl
          have hg := aC_get hS3 (hm k (List.mem_of_getElem? hx))
          have hgi := hgl i
          have hgi1 := hgl (i + 1)
          obtain ⟨s1, s2, s3⟩ := hsta k
          have hnum : ((vl ws k).map fun n => Av.d (nD n)).getD (.d (nD (plc T k).length)) = .d (nD (numL T ws k)) := by
            unfold numL
            cases vl ws k <;> rfl
          refine vset (x := .d (nD (numL T ws k))) (S1 := S') (e_to (e_bmX (x := .o jn) (xs := [.d (kD k), .d (nD (plc T k).length)]) (e_var rfl) (isX_of hN3 rfl) (es_cons (e_var rfl) (es_cons (e_cb (es_cons (e_op (e_var rfl) (e_var rfl) hg) es_nil) (f_lenD (len_nats _))) es_nil)) (f_get2 hN3 (nC_look ws k))) hnum) ?_
          have eadd : fAdd (.list ((frees T).map nD)) (.list ((gbsB T ws).map nD)) = some (.list ((frees T ++ gbsB T ws).map nD)) := by
            unfold fAdd
            dsimp only
            rw [if_pos (by rw [List.length_map, List.length_map]; omega), List.map_append]
          have ps := pf_stays k (plc T k) (plc T2 k) (frees T ++ gbsB T ws) (numL T ws k) s1 (by have := hT2.plen k; omega) s2 s3
          refine vwhen (p := !true) (t_not (t_B (e_callP (ds := [kD k, .list ((plc T k).map nD), .list ((plc T2 k).map nD), nD (numL T ws k), .list ((frees T ++ gbsB T ws).map nD)]) (es_cons (e_var rfl) (es_cons (e_op (e_var rfl) (e_var rfl) hg) (es_cons (e_meth (e_var rfl) k3 rfl (es_cons (e_var rfl) es_nil) (pl3 k)) (es_cons (e_var rfl) (es_cons (e_op (e_var rfl) (e_var rfl) (f_D eadd)) es_nil))))) rfl ps))) (fun z => nomatch z) fun _ => ?_
          have eg : fAdd (.list (((ks.take i).flatMap fun k => (plc T k).drop (numL T ws k)).map nD)) (.list (((plc T k).drop (numL T ws k)).map nD)) = some (.list (((ks.take (i + 1)).flatMap fun k => (plc T k).drop (numL T ws k)).map nD)) := by
            unfold fAdd
            dsimp only
            rw [htk, List.flatMap_append, List.flatMap_cons, List.flatMap_nil, List.append_nil] at hgi1 ⊢
            rw [List.length_append] at hgi1
            rw [if_pos (by rw [List.length_map, List.length_map]; omega), List.map_append]
          exact wset (e_op (e_var rfl) (e_sl (e_op (e_var rfl) (e_var rfl) hg) (o_S (e_var rfl)) o_N (drop_nats (plc T k) (numL T ws k))) (f_D eg)) ⟨⟨_, _, rfl⟩, rfl⟩
        · rintro σ S' ⟨⟨x4, x9, rfl⟩, rfl⟩
          have hgf := hgl ks.length
          rw [List.take_length] at hgf ⊢
          have es := srt_nats hperm
          refine wret (e_op (e_cb (es_cons (e_var rfl) es_nil) (sort_nats _ (by omega))) (e_cb (es_cons (e_var rfl) es_nil) (sort_nats _ (by omega))) (f_B rfl rfl ?_)) ⟨rfl, T2, ℓ', r3, hT2, hol, etb⟩
          rw [es]
          refine ld_eq (n := 1) (ld_lst fun d hd => ?_) (by decide) rfl
          have hd : d ∈ ((ks.flatMap fun k => (plc T k).drop (numL T ws k)).map nD).mergeSort (PySem.W.dataLe false id) := hd
          obtain ⟨x, _, rfl⟩ := List.mem_map.mp (List.mem_mergeSort.mp hd)
          exact ld_int _
  obtain ⟨rr, S', e, rfl, q⟩ := main
  exact ⟨S', e, q⟩
def manyF (m : Int) : Int := if m % 6 = 0 then 1 + m / 6 % 200 else 1 + m / 6 % 24
theorem many_ok {m : Int} : 1 ≤ manyF m ∧ manyF m ≤ 200 := by
  have h1 := Int.emod_nonneg (m / 6) (show (200 : Int) ≠ 0 by omega)
  have h2 := Int.emod_lt_of_pos (m / 6) (show (0 : Int) < 200 by omega)
  have h3 := Int.emod_nonneg (m / 6) (show (24 : Int) ≠ 0 by omega)
  have h4 := Int.emod_lt_of_pos (m / 6) (show (0 : Int) < 24 by omega)
  unfold manyF
  split <;> omega
theorem law_true (ns : List Int) (hl : ns.length ≤ 63) : ∃ S', A_law [.d (.list (ns.map PyData.int))] [] = some (.ok (.d (.bool true)), S') := by
  have main : ∃ rr S', A_law [.d (.list (ns.map PyData.int))] [] = some (rr, S') ∧ rr = .ok (.d (.bool true)) := by
    have m01 := pf_mixed ns 0 1 hl (by decide) (by decide)
    have hm0 := mixF_nn ns 0 1
    refine def_ex (vset (x := .d (.int (mixF ns 0 1))) (S1 := []) (e_callP (es_cons (e_var rfl) (es_cons e_D (es_cons e_D es_nil))) rfl m01) ?_)
    generalize mixF ns 0 1 = m0 at hm0
    obtain ⟨M1, M2⟩ := many_ok (m := m0)
    refine vset (x := .d (.int (1 + m0 / 6 % 24))) (S1 := []) (e_op e_D (e_op (e_op (e_var rfl) e_D (f_D (fDiv_s (by omega)))) e_D (f_D (fMod_s (by omega)))) (f_D rfl)) ?_
    refine sq_mono (P' := fun σ S => S = [] ∧ σ = [some (.d (.list (ns.map PyData.int))), some (.d (.int m0)), some (.d (.int (manyF m0))), none, none, none]) ?_ ?_
    · refine wwhenS (p := decide (m0 % 6 = 0)) (t_B (e_op (e_op (e_var rfl) e_D (f_D (fMod_s (by omega)))) e_D (f_B rfl rfl rfl))) (fun hb => ?_) fun hb => ?_
      · refine wset (x := .d (.int (1 + m0 / 6 % 200))) (S1 := []) (e_op e_D (e_op (e_op (e_var rfl) e_D (f_D (fDiv_s (by omega)))) e_D (f_D (fMod_s (by omega)))) (f_D rfl)) ⟨rfl, ?_⟩
        unfold manyF
        rw [if_pos (of_decide_eq_true hb)] <;> rfl
      · refine ⟨rfl, ?_⟩
        unfold manyF
        rw [if_neg (of_decide_eq_false hb)] <;> rfl
    rintro σ S ⟨rfl, rfl⟩
    generalize manyF m0 = M at M1 M2
    have hdv : 0 ≤ m0 / 144 := Int.ediv_nonneg hm0 (by omega)
    have lcS := aLc_T (tt := aYes) (e := aCallP A__law_owner (aCons (aOp (opD fDiv) (aVar 1) (aD (.int 144))) (aCons (aVar 3) aNil))) (g := agName 3) (vs := [3]) (σ := [some (.d (.list (ns.map PyData.int))), some (.d (.int m0)), some (.d (.int M)), none, none, none]) (S := []) (List.range 5) (fun i : Nat => Av.d (.int (i : Int))) (fun _ => true) (fun i => kD (ownO (m0 / 144) i)) (ai := aiR1 (aCons (aD (.int 5)) aNil)) (it := itL ((List.range 5).map fun i : Nat => Av.d (.int (i : Int)))) (by
      have := i_r1 (σ := [some (.d (.list (ns.map PyData.int))), some (.d (.int m0)), some (.d (.int M)), none, none, none]) (S := []) (S1 := []) (t := aCons (aD (.int 5)) aNil) (n := 5) (es_cons e_D es_nil) (by omega)
      rw [this] <;> rfl) (itL_it _ _) (by rw [List.length_range]; omega) (fun i hi => ⟨_, rfl, rfl, fun _ => e_callP (ds := [.int (m0 / 144), .int (i : Int)]) (es_cons (e_op (e_var rfl) e_D (f_D (fDiv_s (by omega)))) (es_cons (e_var rfl) es_nil)) rfl (pf_owner hdv (by have := List.mem_range.mp hi; omega))⟩)
    have eS : (((List.range 5).filter fun _ => true).map fun i => kD (ownO (m0 / 144) i)) = (someO (m0 / 144)).map kD := by
      unfold someO
      rw [List.filter_eq_self.mpr (fun _ _ => rfl), List.map_map] <;> rfl
    rw [eS] at lcS
    refine vset lcS ?_
    have hld := someO_ld (m0 / 144)
    have hnd := someO_nodup (m0 / 144)
    have hsl : (someO (m0 / 144)).length = 5 := by unfold someO; rw [List.length_map, List.length_range]
    generalize m0 / 144 = mo at hld hsl hnd
    obtain ⟨S1, e1, f1, l1, b1, b2, b3⟩ := tinit_ok (S := [] ++ [Cl.ins "Table" []]) (b := 0) (p := M) rfl ⟨M1, by omega⟩
    refine vset (x := .o 0) (S1 := S1) (e_make (xs := [.d (.int M)]) (es_cons (e_var rfl) es_nil) e1) ?_
    have b2 : S1[1]? = some (.lst (((newTab M).hold.map hD).map .d)) := b2
    have b3 : S1[2]? = some (.dv []) := b3
    have tb : ∃ T ℓ, RR (ctT T ℓ) ℓ S1 ∧ TabOk T ∧ T.own.length ≤ 10 * 0 ∧ ℓ .tb = 0 := by
      refine ⟨newTab M, fun r => match r with | .tb => 0 | .ho => 1 | .li => 2 | .ow _ => 0, ⟨fun r c e => ?_, fun r s hr hs e => ?_⟩, newTab_ok ⟨M1, by omega⟩, Nat.le_refl _, rfl⟩
      · cases r with
        | tb => cases e; exact b1
        | ho => cases e; exact b2
        | li => cases e; exact b3
        | ow k => cases e
      · cases r with
        | tb => cases s with
          | tb => rfl
          | ho => cases e
          | li => cases e
          | ow k => exact absurd rfl hs
        | ho => cases s with
          | tb => cases e
          | ho => rfl
          | li => cases e
          | ow k => exact absurd rfl hs
        | li => cases s with
          | tb => cases e
          | ho => cases e
          | li => rfl
          | ow k => exact absurd rfl hs
        | ow k => exact absurd rfl hr
    have iv := i_r1 (σ := [some (.d (.list (ns.map PyData.int))), some (.d (.int m0)), some (.d (.int M)), none, some (.d (.list ((someO mo).map kD))), some (.o 0)]) (S := S1) (S1 := S1) (t := aCons (aCB (cbD fMin) (aCons (aOp (opD fAdd) (aCB cbLen (aCons (aVar 0) aNil)) (aD (.int 2))) (aCons (aD (.int 30)) aNil))) aNil) (n := min (((ns.length : Nat) : Int) + 2) 30) (es_cons (e_cb (es_cons (e_op (e_cb (es_cons (e_var rfl) es_nil) (f_lenD (show fLen [.list (ns.map PyData.int)] = some (.int ((ns.length : Nat) : Int)) by
        show some (PyData.int (((ns.map PyData.int).length : Nat) : Int)) = _
        rw [List.length_map]))) e_D (f_D rfl)) (es_cons e_D es_nil)) (f_cbD rfl rfl)) es_nil) (by omega)
    obtain ⟨T, ℓ, r, hT, hol, htb⟩ := tb
    refine wseq (wforN (fun i σ S => (∃ x3, σ = [some (.d (.list (ns.map PyData.int))), some (.d (.int m0)), some (.d (.int M)), x3, some (.d (.list ((someO mo).map kD))), some (.o 0)]) ∧ ∃ T ℓ, RR (ctT T ℓ) ℓ S ∧ TabOk T ∧ T.own.length ≤ 10 * i ∧ ℓ .tb = 0) iv (by rw [List.length_map, rangeD_len]; omega) ⟨⟨_, rfl⟩, T, ℓ, r, hT, hol, htb⟩ (fun i x σ S hx hI => ?_) fun σ S hI => ?_)
    · obtain ⟨⟨x3, rfl⟩, T, ℓ, r, hT, hol, htb⟩ := hI
      rw [List.getElem?_map] at hx
      obtain ⟨d, hd, rfl⟩ := Option.map_eq_some_iff.mp hx
      obtain ⟨h1, rfl⟩ := rangeD_get hd
      rw [Int.zero_add]
      have hi : i ≤ 30 := by omega
      obtain ⟨ws, ew, hw, _⟩ := pf_wanted ns hl (k := i) (by omega) mo M ⟨M1, by omega⟩
      obtain ⟨S2, e2, T', ℓ', r', hT', hol', htb'⟩ := right_ok r hT hol (by omega) (by omega) hnd hw fun w h => hld _ (hw.mem w h)
      rw [htb] at e2 htb'
      exact wwhenS (p := !true) (t_not (t_B (e_call (es_cons (e_var rfl) (es_cons (e_var rfl) (es_cons (e_callP (es_cons (e_var rfl) (es_cons (e_var rfl) (es_cons (e_var rfl) (es_cons (e_var rfl) es_nil)))) rfl ew) es_nil))) e2))) (fun z => nomatch z) fun _ => ⟨⟨_, rfl⟩, T', ℓ', r', hT', by omega, htb'⟩
    · obtain ⟨⟨x3, rfl⟩, _⟩ := hI
      exact wret e_D rfl
  obtain ⟨rr, S', e, rfl⟩ := main
  exact ⟨S', e⟩


def TpL : List Value → List Str → Prop
  | [], [] => True
  | v :: vs, z :: zs => (∃ t, v = .str z t) ∧ TpL vs zs
  | _, _ => False
structure TpK (K : Fg) (t : Addr) (ws : List Str) : Prop where
  ex : ∃ (od : Option Addr) (its : Array Value) (n : Nat) (sl : Array (Option Value)), K.lookup t = some ⟨.type "tuple", od, .seq its n, sl⟩ ∧ its.size ≤ 1000 ∧ TpL its.toList ws
theorem TpL.vals : ∀ {vs : List Value} {ws : List Str}, TpL vs ws → Vals (ws.map V.str) vs
  | [], [], _ => .nil
  | v :: vs, z :: zs, ⟨⟨t, e⟩, h⟩ => .cons ⟨t, e⟩ h.vals
  | [], _ :: _, h => h.elim
  | _ :: _, [], h => h.elim
theorem TpK.dp {K : Fg} {t : Addr} {ws : List Str} (h : TpK K t ws) : ∀ F : Hp, Dp K F (.ref t) (.tuple (ws.map PyData.str)) := fun F => by
  obtain ⟨od, its, n, sl, e, h1, h2⟩ := h.ex
  refine .tup (xs := ws.map V.str) (.inr ⟨_, its, n, e, rfl, rfl, by rw [sizeLine_eq]; omega, h2.vals⟩) ?_
  clear h h1 h2
  induction ws with
  | nil => exact .nil
  | cons w ws ih => exact .cons (.str w) ih
theorem g_mk {w : World} {K : Fg} {h : Heap} {mg : Str → Option Value} (X : K.In h) (Gn : h.Ns mainGlobals mg)
    (z_bool : PySem.W.nsIn K mainGlobals "bool" = some none)
    (z_dict : PySem.W.nsIn K mainGlobals "dict" = some none)
    (z_enumerate : PySem.W.nsIn K mainGlobals "enumerate" = some none)
    (z_int : PySem.W.nsIn K mainGlobals "int" = some none)
    (z_isinstance : PySem.W.nsIn K mainGlobals "isinstance" = some none)
    (z_len : PySem.W.nsIn K mainGlobals "len" = some none)
    (z_list : PySem.W.nsIn K mainGlobals "list" = some none)
    (z_max : PySem.W.nsIn K mainGlobals "max" = some none)
    (z_min : PySem.W.nsIn K mainGlobals "min" = some none)
    (z_range : PySem.W.nsIn K mainGlobals "range" = some none)
    (z_sorted : PySem.W.nsIn K mainGlobals "sorted" = some none)
    {C_Table : Addr} (y_Table : PySem.W.nsIn K mainGlobals "Table" = some (some (.ref C_Table)))
    {C_NoRoom : Addr} (y_NoRoom : PySem.W.nsIn K mainGlobals "NoRoom" = some (some (.ref C_NoRoom)))
    (cls_Table : Cls K C_Table)
    (mk_Table : PySem.W.makesIn K C_Table = true) (mp_Table : PySem.W.keepIn K (.ref C_Table) = true)
    (e1_NoRoom : PySem.W.excIn K C_NoRoom veB "ValueError.__new__" = true) (e2_NoRoom : PySem.W.keepIn K (.ref C_NoRoom) = true) (e3_NoRoom : PySem.W.subIn K (.ref C_NoRoom) (.type "BaseException") = some true) (e4_NoRoom : PySem.W.typeIn K (.ref C_NoRoom) = some (.type "type"))
    (x_NoRoom_NoRoom : PySem.W.exmOne K (.ref C_NoRoom) (.ref C_NoRoom) = some true)
    (n_holders_Table : NoAttr K C_Table "holders")
    (n_lists_Table : NoAttr K C_Table "lists")
    (p0 : FnP K "_wall" s__wall)
    (p1 : FnM K C_Table "__init__" "Table.__init__" s_Table___init__)
    (p2 : FnM K C_Table "owner_of" "Table.owner_of" s_Table_owner_of)
    (p3 : FnM K C_Table "places_of" "Table.places_of" s_Table_places_of)
    (p4 : FnM K C_Table "free" "Table.free" s_Table_free)
    (p5 : FnM K C_Table "give_back" "Table.give_back" s_Table_give_back)
    (p6 : FnM K C_Table "take" "Table.take" s_Table_take)
    (p7 : FnM K C_Table "told" "Table.told" s_Table_told)
    (p8 : FnP K "_law_cell_at" s__law_cell_at)
    (p9 : FnP K "_law_mixed" s__law_mixed)
    (p10 : FnP K "_law_whole" s__law_whole)
    (p11 : FnP K "_law_owner" s__law_owner)
    (p12 : FnP K "_law_asked" s__law_asked)
    (p13 : FnP K "_law_wanted" s__law_wanted)
    (p14 : FnP K "_law_stays" s__law_stays)
    (p15 : FnP K "_law_right" s__law_right)
    (p16 : FnP K "law" s_law) : G K mg := by
  have m_Table := PySem.W.mg_of X Gn y_Table
  have r_Table : clsA mg "Table" = C_Table := by unfold clsA; rw [m_Table]
  have m_NoRoom := PySem.W.mg_of X Gn y_NoRoom
  have r_NoRoom : clsA mg "NoRoom" = C_NoRoom := by unfold clsA; rw [m_NoRoom]
  exact {
    b_bool := PySem.W.mg_none_of X Gn z_bool,
    b_dict := PySem.W.mg_none_of X Gn z_dict,
    b_enumerate := PySem.W.mg_none_of X Gn z_enumerate,
    b_int := PySem.W.mg_none_of X Gn z_int,
    b_isinstance := PySem.W.mg_none_of X Gn z_isinstance,
    b_len := PySem.W.mg_none_of X Gn z_len,
    b_list := PySem.W.mg_none_of X Gn z_list,
    b_max := PySem.W.mg_none_of X Gn z_max,
    b_min := PySem.W.mg_none_of X Gn z_min,
    b_range := PySem.W.mg_none_of X Gn z_range,
    b_sorted := PySem.W.mg_none_of X Gn z_sorted,
    cl_Table := ⟨by rw [r_Table]; exact m_Table, by rw [r_Table]; exact mk_Table, by rw [r_Table]; exact mp_Table⟩,
    ex_NoRoom := ⟨by rw [r_NoRoom]; exact m_NoRoom, by rw [r_NoRoom]; exact e1_NoRoom, by rw [r_NoRoom]; exact e2_NoRoom, by rw [r_NoRoom]; exact e3_NoRoom, by rw [r_NoRoom]; exact e4_NoRoom⟩,
    at_holders := (mem_cons (by rw [r_Table]; exact ⟨cls_Table, n_holders_Table⟩) mem_nil),
    at_lists := (mem_cons (by rw [r_Table]; exact ⟨cls_Table, n_lists_Table⟩) mem_nil),
    xm := (mem_cons (mem_cons (by rw [r_NoRoom]; exact x_NoRoom_NoRoom) mem_nil) mem_nil),
    f__wall := p0.df X Gn (fun _ _ _ _ _ _ us hl => match us, hl with | [_], _ => rfl),
    f_Table___init__ := p1.df r_Table cls_Table (fun _ _ _ _ _ _ us hl => match us, hl with | [_, _], _ => rfl),
    f_Table_owner_of := p2.df r_Table cls_Table (fun _ _ _ _ _ _ us hl => match us, hl with | [_, _], _ => rfl),
    f_Table_places_of := p3.df r_Table cls_Table (fun _ _ _ _ _ _ us hl => match us, hl with | [_, _], _ => rfl),
    f_Table_free := p4.df r_Table cls_Table (fun _ _ _ _ _ _ us hl => match us, hl with | [_], _ => rfl),
    f_Table_give_back := p5.df r_Table cls_Table (fun _ _ _ _ _ _ us hl => match us, hl with | [_, _, _], _ => rfl),
    f_Table_take := p6.df r_Table cls_Table (fun _ _ _ _ _ _ us hl => match us, hl with | [_, _, _], _ => rfl),
    f_Table_told := p7.df r_Table cls_Table (fun _ _ _ _ _ _ us hl => match us, hl with | [_, _], _ => rfl),
    f__law_cell_at := p8.df X Gn (fun _ _ _ _ _ _ us hl => match us, hl with | [_, _], _ => rfl),
    f__law_mixed := p9.df X Gn (fun _ _ _ _ _ _ us hl => match us, hl with | [_, _, _], _ => rfl),
    f__law_whole := p10.df X Gn (fun _ _ _ _ _ _ us hl => match us, hl with | [_], _ => rfl),
    f__law_owner := p11.df X Gn (fun _ _ _ _ _ _ us hl => match us, hl with | [_, _], _ => rfl),
    f__law_asked := p12.df X Gn (fun _ _ _ _ _ _ us hl => match us, hl with | [_, _], _ => rfl),
    f__law_wanted := p13.df X Gn (fun _ _ _ _ _ _ us hl => match us, hl with | [_, _, _, _], _ => rfl),
    f__law_stays := p14.df X Gn (fun _ _ _ _ _ _ us hl => match us, hl with | [_, _, _, _, _], _ => rfl),
    f__law_right := p15.df X Gn (fun _ _ _ _ _ _ us hl => match us, hl with | [_, _, _], _ => rfl),
    f_law := p16.df X Gn (fun _ _ _ _ _ _ us hl => match us, hl with | [_], _ => rfl) }
end My
def PySem.W.Fast.tw11144717315356567365 : Unit := ()
def PySem.W.Fast.tw11338949735761993058 : Unit := ()
def PySem.W.Fast.tw11976518021779391940 : Unit := ()
def PySem.W.Fast.tw152889197661283990 : Unit := ()
def PySem.W.Fast.tw16108603991535824345 : Unit := ()
def PySem.W.Fast.tw17468658526206456962 : Unit := ()
def PySem.W.Fast.tw3277135053628782429 : Unit := ()
def PySem.W.Fast.tw3899227552731173056 : Unit := ()
def PySem.W.Fast.tw5247772207611788303 : Unit := ()
def PySem.W.Fast.tw633822046348839929 : Unit := ()
open PySem PySem.W PyProof.Rows
set_option maxRecDepth 100000 in
set_option maxHeartbeats 0 in
theorem PySem.Challenge.cw_layersplit_k12_places_stay_while_growing_holds : PySem.Challenge.rw_layersplit_k12_places_stay_while_growing.Holds := by
  w_on; o_law; k_head; (case hw => w_witness2)
  k_fill
  refine L2.walk_of (l := PySem.Challenge.rw_layersplit_k12_places_stay_while_growing) (n := 63) (k := 6) (x := "_law_script") (CX := fun w => L2N.CX PySem.Challenge.rw_layersplit_k12_places_stay_while_growing.prog w) (sp := fun w => Ly.spR _ Ly.RLaw) rfl (by decide) rfl ⟨rfl, by decide, by decide⟩ (fun w h Y => PySem.W.kIn_of Y) ?F (fun w H a ns hl _ hS => Ly.law_start hl hS) (fun w H s e s2 h => Ly.cx_false h)
  case F =>
    intro w mg fa h KX Gn hmg
    refine' (fun g => Ly.DkA.fin (My.G.f_law g) hmg (fun base _ _ => My.ok_law g) My.law_true) (My.g_mk (w := w) KX Gn ?z_bool ?z_dict ?z_enumerate ?z_int ?z_isinstance ?z_len ?z_list ?z_max ?z_min ?z_range ?z_sorted ?y_Table ?y_NoRoom ?cls_Table ?mk_Table ?mp_Table ?e1_NoRoom ?e2_NoRoom ?e3_NoRoom ?e4_NoRoom ?x_NoRoom_NoRoom ?n_holders_Table ?n_lists_Table ?p0 ?p1 ?p2 ?p3 ?p4 ?p5 ?p6 ?p7 ?p8 ?p9 ?p10 ?p11 ?p12 ?p13 ?p14 ?p15 ?p16)
    (case z_bool => k_is)
    (case z_dict => k_is)
    (case z_enumerate => k_is)
    (case z_int => k_is)
    (case z_isinstance => k_is)
    (case z_len => k_is)
    (case z_list => k_is)
    (case z_max => k_is)
    (case z_min => k_is)
    (case z_range => k_is)
    (case z_sorted => k_is)
    (case y_Table => k_is)
    (case y_NoRoom => k_is)
    (case cls_Table => exact ⟨by k_is, by k_is, by k_is, by k_is⟩)
    (case mk_Table => k_is)
    (case mp_Table => k_is)
    (case e1_NoRoom => k_exc)
    (case e2_NoRoom => k_is)
    (case e3_NoRoom => k_is)
    (case e4_NoRoom => k_is)
    (case x_NoRoom_NoRoom => kts_exm)
    (case n_holders_Table => (show PySem.W.findIn _ _ _ = some none; k_is))
    (case n_lists_Table => (show PySem.W.findIn _ _ _ = some none; k_is))
    (case p0 => exact ⟨⟨_, _, _, _, _, _, _, _, _, _, by k_is, by k_is, by k_is, by k_is⟩⟩)
    (case p1 => exact ⟨⟨_, _, _, _, _, _, _, _, _, _, by k_is, by k_is, by k_is, by k_is, by k_is⟩⟩)
    (case p2 => exact ⟨⟨_, _, _, _, _, _, _, _, _, _, by k_is, by k_is, by k_is, by k_is, by k_is⟩⟩)
    (case p3 => exact ⟨⟨_, _, _, _, _, _, _, _, _, _, by k_is, by k_is, by k_is, by k_is, by k_is⟩⟩)
    (case p4 => exact ⟨⟨_, _, _, _, _, _, _, _, _, _, by k_is, by k_is, by k_is, by k_is, by k_is⟩⟩)
    (case p5 => exact ⟨⟨_, _, _, _, _, _, _, _, _, _, by k_is, by k_is, by k_is, by k_is, by k_is⟩⟩)
    (case p6 => exact ⟨⟨_, _, _, _, _, _, _, _, _, _, by k_is, by k_is, by k_is, by k_is, by k_is⟩⟩)
    (case p7 => exact ⟨⟨_, _, _, _, _, _, _, _, _, _, by k_is, by k_is, by k_is, by k_is, by k_is⟩⟩)
    (case p8 => exact ⟨⟨_, _, _, _, _, _, _, _, _, _, by k_is, by k_is, by k_is, by k_is⟩⟩)
    (case p9 => exact ⟨⟨_, _, _, _, _, _, _, _, _, _, by k_is, by k_is, by k_is, by k_is⟩⟩)
    (case p10 => exact ⟨⟨_, _, _, _, _, _, _, _, _, _, by k_is, by k_is, by k_is, by k_is⟩⟩)
    (case p11 => exact ⟨⟨_, _, _, _, _, _, _, _, _, _, by k_is, by k_is, by k_is, by k_is⟩⟩)
    (case p12 => exact ⟨⟨_, _, _, _, _, _, _, _, _, _, by k_is, by k_is, by k_is, by k_is⟩⟩)
    (case p13 => exact ⟨⟨_, _, _, _, _, _, _, _, _, _, by k_is, by k_is, by k_is, by k_is⟩⟩)
    (case p14 => exact ⟨⟨_, _, _, _, _, _, _, _, _, _, by k_is, by k_is, by k_is, by k_is⟩⟩)
    (case p15 => exact ⟨⟨_, _, _, _, _, _, _, _, _, _, by k_is, by k_is, by k_is, by k_is⟩⟩)
    (case p16 => exact ⟨⟨_, _, _, _, _, _, _, _, _, _, by k_is, by k_is, by k_is, by k_is⟩⟩)
