import PyProof.Rows.All
import Wide.All
import OpenK.AllK
import Wide.FinOn
import HandS.ForMost
import HandS.Evl
import HandS.Wide
import HandS.WideBits
import HandS.Deep
import HandS.TupAny
import HandS.TupLe
import HandS.IsInst
import HandS.Replace
import KE.KTupSum
import HandS.Codes
import HandS.RaiseMore
import HandS.SetKeys
import HandS.Strs
import HandS.Exc
import HandS.TryOnly
import HandS.TryMany
import HandS.ExcOwn
import HandS.WordsExc
import HandS.DictTup
import PyProof.DictMoreH
import HandS.Zip
import HandS.More
import PySem.Challenge.RW_layersplit_k15_rules_known
set_option Elab.async false
set_option linter.all false
set_option maxRecDepth 100000
set_option maxHeartbeats 4000000
/-! LyA: judgements over data: a frozen part F of the heap H carries all data; what is owned stands in H alone. -/
namespace Ly
open PySem L2 Evl

theorem no_of {p : Prop} [Decidable p] (h : (!decide p) = true) : ¬ p := fun z => by rw [decide_eq_true z] at h; cases h
theorem yes_of {p : Prop} [Decidable p] (h : (!decide p) = false) : p := by
  by_cases z : p
  · exact z
  · rw [decide_eq_false z] at h; cases h
abbrev D := PySem.PyData
abbrev Fg := PySem.W.Frag

/-! ### growth -/
structure Gr (F H F2 H2 : Hp) : Prop where
  fx : Ex F F2
  hx : Ex H H2
  fh : Ex F2 H2
  old : ∀ p, H p ≠ none → F2 p = F p
section
variable {F H F1 H1 F2 H2 F3 H3 : Hp} {p l : Addr} {o : HO} {K : Fg}
theorem Gr.refl (h : Ex F H) : Gr F H F H := ⟨Ex.refl F, Ex.refl H, h, fun _ _ => rfl⟩
theorem ex_nn (e : Ex H H2) (h : H p ≠ none) : H2 p ≠ none := by
  cases q : H p with
  | none => exact absurd q h
  | some o => rw [e p o q]; exact fun z => nomatch z
theorem Gr.trans (a : Gr F H F2 H2) (b : Gr F2 H2 F3 H3) : Gr F H F3 H3 :=
  ⟨a.fx.trans b.fx, a.hx.trans b.hx, b.fh, fun p h => (b.old p (ex_nn a.hx h)).trans (a.old p h)⟩
theorem Gr.grow (a : Gr F H F2 H2) (e : Ex H2 H3) : Gr F H F2 H3 := ⟨a.fx, a.hx.trans e, a.fh.trans e, a.old⟩
theorem Gr.new (fh : Ex F H) (hp : H p = none) : Gr F H (upd F p o) (upd H p o) := by
  have fp : F p = none := fresh_back fh hp
  refine ⟨Ex.new fp, Ex.new hp, fun b u h => ?_, fun b hb => ?_⟩
  · by_cases e : b = p
    · subst e; rw [upd_same] at h ⊢; exact h
    · rw [upd_ne e] at h ⊢; exact fh b u h
  · have e : b ≠ p := fun z => hb (by rw [z]; exact hp)
    rw [upd_ne e]
/-- a thing is made that stays one's own -/
theorem Gr.own (fh : Ex F H) (hp : H p = none) : Gr F H F (upd H p o) := ⟨Ex.refl F, Ex.new hp, fh.trans (Ex.new hp), fun _ _ => rfl⟩
/-- what is one's own changes -/
theorem Gr.mut (g : Gr F H F2 H2) (h0 : H l = none) (hf : F2 l = none) : Gr F H F2 (upd H2 l o) := by
  refine ⟨g.fx, fun b u h => ?_, fun b u h => ?_, g.old⟩
  · rw [upd_ne (ne_of_none h h0)]; exact g.hx b u h
  · rw [upd_ne (ne_of_none h hf)]; exact g.fh b u h
/-- what is one's own is handed out -/
theorem Gr.give (g : Gr F H F2 H2) (h0 : H l = none) (hl : H2 l = some o) (hf : F2 l = none) : Gr F H (upd F2 l o) H2 := by
  refine ⟨g.fx.trans (Ex.new hf), g.hx, fun b u h => ?_, fun b hb => ?_⟩
  · by_cases e : b = l
    · subst e; rw [upd_same] at h; cases h; exact hl
    · rw [upd_ne e] at h; exact g.fh b u h
  · have e : b ≠ l := fun z => hb (by rw [z]; exact h0)
    rw [upd_ne e]; exact g.old b hb
theorem Gr.non (g : Gr F H F2 H2) (h : H l ≠ none) (hf : F l = none) : F2 l = none := (g.old l h).trans hf
theorem Gr.back (g : Gr F H F2 H2) (h : H2 l = none) : H l = none := fresh_back g.hx h

/-! ### data -/
mutual
theorem dp_mono (e : Ex F F2) : ∀ (d : D) (v : V), Dp K F v d → Dp K F2 v d
  | .none, _, h => by cases h; exact .non
  | .bool b, _, h => by cases h; exact .bl b
  | .int i, _, h => by cases h; exact .int i
  | .str x, _, h => by cases h; exact .str x
  | .list ds, _, h => by
    cases h with
    | lst hs ha => exact .lst (ex_l e hs) (dps_mono e ds _ ha)
  | .tuple ds, _, h => by
    cases h with
    | tup hs ha => exact .tup (ex_t e hs) (dps_mono e ds _ ha)
  | .dict _, _, h => by cases h
theorem dps_mono (e : Ex F F2) : ∀ (ds : List D) (vs : List V), DpAll K F vs ds → DpAll K F2 vs ds
  | [], _, h => by cases h; exact .nil
  | d :: ds, _, h => by
    cases h with
    | cons h1 h2 => exact .cons (dp_mono e d _ h1) (dps_mono e ds _ h2)
end
end
end Ly
namespace L2
open PySem Ly Evl
section
variable {K : PySem.W.Frag} {F F2 : Hp} {v : V} {vs : List V} {d : PyData} {ds es : List PyData}
theorem Dp.up (h : Dp K F v d) (e : Ex F F2) : Dp K F2 v d := dp_mono e d v h
theorem DpAll.up (h : DpAll K F vs ds) (e : Ex F F2) : DpAll K F2 vs ds := dps_mono e ds vs h
theorem DpAll.length : ∀ {vs : List V} {ds : List PyData}, DpAll K F vs ds → vs.length = ds.length
  | _, [], h => by cases h; rfl
  | _, d :: ds, h => by
    cases h with
    | cons _ h2 => rw [List.length_cons, List.length_cons, DpAll.length h2]
theorem DpAll.get : ∀ {vs : List V} {ds : List PyData} {i : Nat} {d : PyData}, DpAll K F vs ds → ds[i]? = some d → ∃ v, vs[i]? = some v ∧ Dp K F v d
  | _, [], i, d, h, e => by simp at e
  | _, x :: ds, 0, d, h, e => by
    cases h with
    | cons h1 h2 =>
      have q : x = d := Option.some.inj e
      subst q
      exact ⟨_, rfl, h1⟩
  | _, x :: ds, i + 1, d, h, e => by
    cases h with
    | cons h1 h2 =>
      obtain ⟨v, e1, r⟩ := DpAll.get (i := i) (d := d) h2 (by simpa using e)
      exact ⟨v, by simpa using e1, r⟩
theorem DpAll.getV : ∀ {vs : List V} {ds : List PyData} {i : Nat} {v : V}, DpAll K F vs ds → vs[i]? = some v → ∃ d, ds[i]? = some d ∧ Dp K F v d
  | _, [], i, v, h, e => by cases h; simp at e
  | _, x :: ds, 0, v, h, e => by
    cases h with
    | cons h1 h2 =>
      have q := Option.some.inj e
      subst q
      exact ⟨_, rfl, h1⟩
  | _, x :: ds, i + 1, v, h, e => by
    cases h with
    | cons h1 h2 =>
      obtain ⟨d, e1, r⟩ := DpAll.getV (i := i) (v := v) h2 (by simpa using e)
      exact ⟨d, by simpa using e1, r⟩
theorem DpAll.append : ∀ {vs ws : List V} {ds es : List PyData}, DpAll K F vs ds → DpAll K F ws es → DpAll K F (vs ++ ws) (ds ++ es)
  | _, _, [], _, h, k => by cases h; exact k
  | _, _, d :: ds, _, h, k => by
    cases h with
    | cons h1 h2 => exact .cons h1 (DpAll.append h2 k)
theorem DpAll.take : ∀ {vs : List V} {ds : List PyData} (n : Nat), DpAll K F vs ds → DpAll K F (vs.take n) (ds.take n)
  | _, _, 0, _ => .nil
  | _, [], _ + 1, h => by cases h; exact .nil
  | _, d :: ds, n + 1, h => by
    cases h with
    | cons h1 h2 => exact .cons h1 (DpAll.take n h2)
theorem DpAll.drop : ∀ {vs : List V} {ds : List PyData} (n : Nat), DpAll K F vs ds → DpAll K F (vs.drop n) (ds.drop n)
  | _, _, 0, h => h
  | _, [], _ + 1, h => by cases h; exact .nil
  | _, d :: ds, n + 1, h => by
    cases h with
    | cons h1 h2 => exact DpAll.drop n h2
theorem dps_ints : ∀ (ns : List Int), DpAll K F (ns.map V.int) (ns.map PyData.int)
  | [] => .nil
  | n :: ns => .cons (.int n) (dps_ints ns)
theorem dps_strs : ∀ (ns : List Str), DpAll K F (ns.map V.str) (ns.map PyData.str)
  | [] => .nil
  | n :: ns => .cons (.str n) (dps_strs ns)
theorem dps_bools : ∀ (ns : List Bool), DpAll K F (ns.map V.bl) (ns.map PyData.bool)
  | [] => .nil
  | n :: ns => .cons (.bl n) (dps_bools ns)
theorem dps_ints_inv : ∀ (ns : List Int) {vs : List V}, DpAll K F vs (ns.map PyData.int) → vs = ns.map V.int
  | [], _, h => by cases h; rfl
  | n :: ns, _, h => by
    cases h with
    | cons h1 h2 =>
      cases h1
      rw [dps_ints_inv ns h2]
      rfl
theorem dps_bools_inv : ∀ (ns : List Bool) {vs : List V}, DpAll K F vs (ns.map PyData.bool) → vs = ns.map V.bl
  | [], _, h => by cases h; rfl
  | n :: ns, _, h => by
    cases h with
    | cons h1 h2 =>
      cases h1
      rw [dps_bools_inv ns h2]
      rfl
theorem dps_strs_inv : ∀ (ns : List Str) {vs : List V}, DpAll K F vs (ns.map PyData.str) → vs = ns.map V.str
  | [], _, h => by cases h; rfl
  | n :: ns, _, h => by
    cases h with
    | cons h1 h2 =>
      cases h1
      rw [dps_strs_inv ns h2]
      rfl
theorem dp_ints {a : Addr} {ns : List Int} (h : SqL K F a (ns.map V.int)) : Dp K F (.ref a) (.list (ns.map PyData.int)) := .lst h (dps_ints ns)
end
end L2
namespace Ly
open PySem L2 Evl
/-- a value that is its own datum -/
def scV : D → Option V
  | .none => some .non
  | .bool b => some (.bl b)
  | .int i => some (.int i)
  | .str x => some (.str x)
  | _ => none
theorem scV_inv {K : Fg} {F : Hp} {v w : V} {d : D} (e : scV d = some v) (h : Dp K F w d) : w = v := by
  cases h <;> (unfold scV at e; first | (cases e; rfl) | cases e)
theorem scV_dp {K : Fg} {F : Hp} {v : V} {d : D} (e : scV d = some v) : Dp K F v d := by
  cases d <;> (unfold scV at e; first | (cases e; constructor; done) | cases e)

/-! ### readings over data -/
/-- what is handed back: a value that bears the datum -/
def Ans (K : Fg) (F H : Hp) (r : D) (Q : VK) : Prop := ∀ v F2 H2, Gr F H F2 H2 → Dp K F2 v r → Q v H2
def rD2 (K : Fg) (R : D → D → D → Prop) : R2 := fun x y H Q => ∃ F d e r, Ex F H ∧ Dp K F x d ∧ Dp K F y e ∧ R d e r ∧ Ans K F H r Q
def rD1 (K : Fg) (R : D → D → Prop) : V → Hp → VK → Prop := fun x H Q => ∃ F d r, Ex F H ∧ Dp K F x d ∧ R d r ∧ Ans K F H r Q
def rDn (K : Fg) (R : List D → D → Prop) : List V → Hp → VK → Prop := fun vs H Q => ∃ F ds r, Ex F H ∧ DpAll K F vs ds ∧ R ds r ∧ Ans K F H r Q
def rDm (K : Fg) (R : D → List D → D → Prop) : V → List V → Hp → VK → Prop := fun x vs H Q => ∃ F d ds r, Ex F H ∧ Dp K F x d ∧ DpAll K F vs ds ∧ R d ds r ∧ Ans K F H r Q
def rDs (K : Fg) (R : D → Option Int → Option Int → D → Prop) : V → Option Int → Option Int → Hp → VK → Prop := fun x lo hi H Q => ∃ F d r, Ex F H ∧ Dp K F x d ∧ R d lo hi r ∧ Ans K F H r Q
/-- the promise of a def that is a relation of data -/
def spR (K : Fg) (R : List D → D → Prop) : Sp := fun vs H Q _ => rDn K R vs H Q
theorem spR_len {K : Fg} {R : List D → D → Prop} {n : Nat} (h : ∀ ds r, R ds r → ds.length = n) : ∀ vs H Q E, spR K R vs H Q E → vs.length = n := fun vs H Q E ⟨F, ds, r, _, ha, hr, _⟩ => by
  rw [ha.length]; exact h ds r hr

/-! ### what evaluates to what -/
def EvD (K : Fg) (te : TE) (σ : L2.St) (F H : Hp) (d : D) : Prop := ∀ F1 H1, Ex F F1 → Ex H H1 → Ex F1 H1 → ∀ Q : VK, (∀ v F2 H2, Gr F1 H1 F2 H2 → Dp K F2 v d → Q v H2) → te σ H1 Q
def EvDs (K : Fg) (ta : TA) (σ : L2.St) (F H : Hp) (ds : List D) : Prop := ∀ F1 H1, Ex F F1 → Ex H H1 → Ex F1 H1 → ∀ Q : List V → Hp → Prop, (∀ vs F2 H2, Gr F1 H1 F2 H2 → DpAll K F2 vs ds → Q vs H2) → ta σ H1 Q
def EvB (t : TT) (σ : L2.St) (F H : Hp) (b : Bool) : Prop := ∀ F1 H1, Ex F F1 → Ex H H1 → Ex F1 H1 → ∀ Q : Bool → Hp → Prop, (∀ H2, Ex H1 H2 → Q b H2) → t σ H1 Q
def EvI (K : Fg) (to : TO) (σ : L2.St) (F H : Hp) (o : Option Int) : Prop := ∀ F1 H1, Ex F F1 → Ex H H1 → Ex F1 H1 → ∀ Q : Option Int → Hp → Prop, (∀ H2, Ex H1 H2 → Q o H2) → to σ H1 Q

section
variable {K : Fg} {σ : L2.St} {F H F' H' : Hp} {ta tb te tx : TE} {t u : TT} {x y z v : V} {d e r : D} {b : Bool}
theorem EvD.up (h : EvD K te σ F H d) (a : Ex F F') (c : Ex H H') : EvD K te σ F' H' d := fun F1 H1 e1 e2 => h F1 H1 (a.trans e1) (c.trans e2)
theorem EvB.up (h : EvB t σ F H b) (a : Ex F F') (c : Ex H H') : EvB t σ F' H' b := fun F1 H1 e1 e2 => h F1 H1 (a.trans e1) (c.trans e2)
theorem EvD.to (h : EvD K te σ F H d) (q : d = e) : EvD K te σ F H e := q ▸ h
theorem EvB.to {c : Bool} (h : EvB t σ F H b) (q : b = c) : EvB t σ F H c := q ▸ h
theorem EvDs.to {ds es : List D} {ta : TA} (h : EvDs K ta σ F H ds) (q : ds = es) : EvDs K ta σ F H es := q ▸ h
/-- told with what stands beside -/
theorem EvD.own (h : EvD K te σ F' H d) (hs : scV d = some v) (h1 : ∀ F1 H1, Ex F F1 → Ex H H1 → Ex F1 H1 → ∃ F2, Ex F' F2 ∧ Ex F2 H1) : EvD K te σ F H d := fun F1 H1 e1 e2 e3 Q q => by
  obtain ⟨F2, a, c⟩ := h1 F1 H1 e1 e2 e3
  refine h F2 H1 a e2 c Q fun w F3 H3 g hw => ?_
  have ew := scV_inv hs hw
  subst ew
  exact q _ F1 H3 ⟨Ex.refl _, g.hx, e3.trans g.hx, fun _ _ => rfl⟩ (scV_dp hs)
theorem EvB.own (h : EvB t σ F' H b) (h1 : ∀ F1 H1, Ex F F1 → Ex H H1 → Ex F1 H1 → ∃ F2, Ex F' F2 ∧ Ex F2 H1) : EvB t σ F H b := fun F1 H1 e1 e2 e3 Q q => by
  obtain ⟨F2, a, c⟩ := h1 F1 H1 e1 e2 e3
  exact h F2 H1 a e2 c Q q
/-- with one's own list at l beside -/
theorem ownL {l : Addr} {o : HO} (hl : H l = some o) : ∀ F1 H1, Ex F F1 → Ex H H1 → Ex F1 H1 → ∃ F2, Ex (upd F l o) F2 ∧ Ex F2 H1 := fun F1 H1 e1 e2 e3 =>
  ⟨upd F1 l o, fun b u q => by
    by_cases eb : b = l
    · subst eb; rw [upd_same] at q ⊢; exact q
    · rw [upd_ne eb] at q ⊢; exact e1 b u q, fun b u q => by
    by_cases eb : b = l
    · subst eb; rw [upd_same] at q; cases q; exact e2 _ _ hl
    · rw [upd_ne eb] at q; exact e3 b u q⟩
/-! values -/
theorem d_var {i : Nat} (h : σ[i]? = some (some v)) (hd : Dp K F v d) : EvD K (tVar i) σ F H d := fun F1 H1 e1 _ e3 _ q => ⟨v, h, q v F1 H1 (Gr.refl e3) (hd.up e1)⟩
theorem d_c (hd : Dp K F v d) : EvD K (tC v) σ F H d := fun F1 H1 e1 _ e3 _ q => q v F1 H1 (Gr.refl e3) (hd.up e1)
theorem ex_join {F1 H1 F2 H2 : Hp} (g : Gr F1 H1 F2 H2) (h : Ex H H1) : Ex H H2 := h.trans g.hx
theorem d_op2 {R : D → D → D → Prop} (ha : EvD K ta σ F H d) (hb : EvD K tb σ F H e) (hr : R d e r) : EvD K (tOp (rD2 K R) ta tb) σ F H r := fun F1 H1 e1 e2 e3 Q q =>
  ha F1 H1 e1 e2 e3 _ fun x F2 H2 g2 hx => hb F2 H2 (e1.trans g2.fx) (e2.trans g2.hx) g2.fh _ fun y F3 H3 g3 hy =>
    ⟨F3, d, e, r, g3.fh, hx.up g3.fx, hy, hr, fun v F4 H4 g4 hv => q v F4 H4 ((g2.trans g3).trans g4) hv⟩
theorem d_un {R : D → D → Prop} (ha : EvD K ta σ F H d) (hr : R d r) : EvD K (tUn (rD1 K R) ta) σ F H r := fun F1 H1 e1 e2 e3 Q q =>
  ha F1 H1 e1 e2 e3 _ fun x F2 H2 g2 hx => ⟨F2, d, r, g2.fh, hx, hr, fun v F4 H4 g4 hv => q v F4 H4 (g2.trans g4) hv⟩
theorem ds_nil : EvDs K tNil σ F H [] := fun F1 H1 _ _ e3 _ q => q [] F1 H1 (Gr.refl e3) .nil
theorem ds_cons {tr : TA} {ds : List D} (ha : EvD K ta σ F H d) (hr : EvDs K tr σ F H ds) : EvDs K (tCons ta tr) σ F H (d :: ds) := fun F1 H1 e1 e2 e3 Q q =>
  ha F1 H1 e1 e2 e3 _ fun x F2 H2 g2 hx => hr F2 H2 (e1.trans g2.fx) (e2.trans g2.hx) g2.fh _ fun xs F3 H3 g3 hxs => q (x :: xs) F3 H3 (g2.trans g3) (.cons (hx.up g3.fx) hxs)
theorem d_call {R : List D → D → Prop} {E : XK} {ta : TA} {ds : List D} (ha : EvDs K ta σ F H ds) (hr : R ds r) : EvD K (tCall (spR K R) [] E ta) σ F H r := fun F1 H1 e1 e2 e3 Q q =>
  ha F1 H1 e1 e2 e3 _ fun xs F2 H2 g2 hx => by
    show rDn K R (xs ++ []) H2 Q
    rw [List.append_nil]
    exact ⟨F2, ds, r, g2.fh, hx, hr, fun v F4 H4 g4 hv => q v F4 H4 (g2.trans g4) hv⟩
theorem d_cb {R : List D → D → Prop} {ta : TA} {ds : List D} (ha : EvDs K ta σ F H ds) (hr : R ds r) : EvD K (tCB (rDn K R) ta) σ F H r := fun F1 H1 e1 e2 e3 Q q =>
  ha F1 H1 e1 e2 e3 _ fun xs F2 H2 g2 hx => ⟨F2, ds, r, g2.fh, hx, hr, fun v F4 H4 g4 hv => q v F4 H4 (g2.trans g4) hv⟩
theorem d_tup {ta : TA} {ds : List D} (ha : EvDs K ta σ F H ds) (hl : ds.length ≤ 100000) : EvD K (tTup ta) σ F H (.tuple ds) := fun F1 H1 e1 e2 e3 Q q =>
  ha F1 H1 e1 e2 e3 _ fun xs F2 H2 g2 hx => ⟨by rw [hx.length]; exact sz_of hl, fun p hp => q (.ref p) _ _ (g2.trans (Gr.new g2.fh hp)) (.tup (st_of upd_same) (hx.up (Ex.new (fresh_back g2.fh hp))))⟩
theorem d_lst {ta : TA} {ds : List D} (ha : EvDs K ta σ F H ds) (hl : ds.length ≤ 100000) : EvD K (tLst ta) σ F H (.list ds) := fun F1 H1 e1 e2 e3 Q q =>
  ha F1 H1 e1 e2 e3 _ fun xs F2 H2 g2 hx => ⟨by rw [hx.length]; exact sz_of hl, fun p hp => q (.ref p) _ _ (g2.trans (Gr.new g2.fh hp)) (.lst (sq_of upd_same) (hx.up (Ex.new (fresh_back g2.fh hp))))⟩
theorem d_sl {R : D → Option Int → Option Int → D → Prop} {tl th : TO} {lo hi : Option Int} (ha : EvD K te σ F H d) (h1 : EvI K tl σ F H lo) (h2 : EvI K th σ F H hi) (hr : R d lo hi r) : EvD K (tSl (rDs K R) te tl th) σ F H r := fun F1 H1 e1 e2 e3 Q q =>
  ha F1 H1 e1 e2 e3 _ fun x F2 H2 g2 hx => h1 F2 H2 (e1.trans g2.fx) (e2.trans g2.hx) g2.fh _ fun H3 x3 => h2 F2 H3 (e1.trans g2.fx) ((e2.trans g2.hx).trans x3) (g2.fh.trans x3) _ fun H4 x4 =>
    ⟨F2, d, r, (g2.fh.trans x3).trans x4, hx, hr, fun v F5 H5 g5 hv => q v F5 H5 (((g2.grow x3).grow x4).trans g5) hv⟩
theorem i_none : EvI K tNoPart σ F H none := fun _ H1 _ _ _ _ q => q H1 (Ex.refl H1)
theorem i_some {i : Int} (h : EvD K te σ F H (.int i)) : EvI K (tPart te) σ F H (some i) := fun F1 H1 e1 e2 e3 Q q =>
  h F1 H1 e1 e2 e3 _ fun v F2 H2 g hv => by
    cases hv
    exact ⟨i, rfl, q H2 g.hx⟩
/-! tests -/
theorem b_test (h : EvD K te σ F H (.bool b)) : EvB (tTest te) σ F H b := fun F1 H1 e1 e2 e3 Q q => h F1 H1 e1 e2 e3 _ fun v F2 H2 g hv => by
  cases hv
  exact ⟨b, rfl, q H2 g.hx⟩
theorem b_B (h : EvD K te σ F H (.bool b)) : EvB (tB te) σ F H b := fun F1 H1 e1 e2 e3 Q q => h F1 H1 e1 e2 e3 _ fun v F2 H2 g hv => by
  cases hv
  exact ⟨b, rfl, q H2 g.hx⟩
theorem b_var {i : Nat} (h : σ[i]? = some (some (.bl b))) : EvB (tB (tVar i)) σ F H b := fun _ H1 _ _ _ _ q => ⟨.bl b, h, b, rfl, q H1 (Ex.refl H1)⟩
theorem b_yes : EvB tYes σ F H true := fun _ H1 _ _ _ _ q => q H1 (Ex.refl H1)
theorem b_and {a b : Bool} (h1 : EvB t σ F H a) (h2 : a = true → EvB u σ F H b) : EvB (tAnd t u) σ F H (a && b) := fun F1 H1 e1 e2 e3 Q q => h1 F1 H1 e1 e2 e3 _ fun H2 g => by
  cases a with
  | true =>
    show u σ H2 Q
    exact h2 rfl F1 H2 e1 (e2.trans g) (e3.trans g) Q fun H3 k => q H3 (g.trans k)
  | false =>
    show Q false H2
    exact q H2 g
theorem b_or {a b : Bool} (h1 : EvB t σ F H a) (h2 : a = false → EvB u σ F H b) : EvB (tOr t u) σ F H (a || b) := fun F1 H1 e1 e2 e3 Q q => h1 F1 H1 e1 e2 e3 _ fun H2 g => by
  cases a with
  | true =>
    show Q true H2
    exact q H2 g
  | false =>
    show u σ H2 Q
    exact h2 rfl F1 H2 e1 (e2.trans g) (e3.trans g) Q fun H3 k => q H3 (g.trans k)
theorem b_not {a : Bool} (h1 : EvB t σ F H a) : EvB (tNot t) σ F H (!a) := fun F1 H1 e1 e2 e3 _ q => h1 F1 H1 e1 e2 e3 _ fun H2 g => q H2 g
theorem d_andV {a b : Bool} (h1 : EvD K ta σ F H (.bool a)) (h2 : a = true → EvD K tb σ F H (.bool b)) : EvD K (tAndV ta tb) σ F H (.bool (a && b)) := fun F1 H1 e1 e2 e3 Q q => h1 F1 H1 e1 e2 e3 _ fun v F2 H2 g hv => by
  cases hv
  refine ⟨a, rfl, ?_⟩
  cases a with
  | true =>
    show tb σ H2 Q
    exact h2 rfl F2 H2 (e1.trans g.fx) (e2.trans g.hx) g.fh Q fun v F3 H3 g3 hv => q v F3 H3 (g.trans g3) hv
  | false =>
    show Q (.bl false) H2
    exact q _ F2 H2 g (.bl _)
theorem d_orV {a b : Bool} (h1 : EvD K ta σ F H (.bool a)) (h2 : a = false → EvD K tb σ F H (.bool b)) : EvD K (tOrV ta tb) σ F H (.bool (a || b)) := fun F1 H1 e1 e2 e3 Q q => h1 F1 H1 e1 e2 e3 _ fun v F2 H2 g hv => by
  cases hv
  refine ⟨a, rfl, ?_⟩
  cases a with
  | true =>
    show Q (.bl true) H2
    exact q _ F2 H2 g (.bl _)
  | false =>
    show tb σ H2 Q
    exact h2 rfl F2 H2 (e1.trans g.fx) (e2.trans g.hx) g.fh Q fun v F3 H3 g3 hv => q v F3 H3 (g.trans g3) hv
theorem d_notV {a : Bool} (h1 : EvD K ta σ F H (.bool a)) : EvD K (tNotV ta) σ F H (.bool (!a)) := fun F1 H1 e1 e2 e3 Q q => h1 F1 H1 e1 e2 e3 _ fun v F2 H2 g hv => by
  cases hv
  exact ⟨a, rfl, q _ F2 H2 g (.bl _)⟩
theorem d_if (h : EvB t σ F H b) (h1 : b = true → EvD K ta σ F H d) (h2 : b = false → EvD K tb σ F H d) : EvD K (tIf t ta tb) σ F H d := fun F1 H1 e1 e2 e3 Q q => h F1 H1 e1 e2 e3 _ fun H2 g => by
  cases b with
  | true =>
    show ta σ H2 Q
    exact h1 rfl F1 H2 e1 (e2.trans g) (e3.trans g) Q fun v F3 H3 g3 hv => q v F3 H3 ⟨g3.fx, g.trans g3.hx, g3.fh, fun p hp => g3.old p (ex_nn g hp)⟩ hv
  | false =>
    show tb σ H2 Q
    exact h2 rfl F1 H2 e1 (e2.trans g) (e3.trans g) Q fun v F3 H3 g3 hv => q v F3 H3 ⟨g3.fx, g.trans g3.hx, g3.fh, fun p hp => g3.old p (ex_nn g hp)⟩ hv
/-- a < b < c -/
theorem d_chain {R R' : D → D → D → Prop} {tc : TE} {f : D} {p q : Bool} (ha : EvD K ta σ F H d) (hb : EvD K tb σ F H e) (hr : R d e (.bool p)) (h2 : p = true → EvD K tc σ F H f) (h3 : p = true → R' e f (.bool q)) :
    EvD K (tChain (rD2 K R) (rD2 K R') ta tb tc) σ F H (.bool (p && q)) := fun F1 H1 e1 e2 e3 Q k =>
  ha F1 H1 e1 e2 e3 _ fun x F2 H2 g2 hx => hb F2 H2 (e1.trans g2.fx) (e2.trans g2.hx) g2.fh _ fun y F3 H3 g3 hy =>
    ⟨F3, d, e, .bool p, g3.fh, hx.up g3.fx, hy, hr, fun v F4 H4 g4 hv => by
      cases hv
      refine ⟨p, rfl, ?_⟩
      have g := (g2.trans g3).trans g4
      cases p with
      | false =>
        show Q (.bl false) H4
        exact k _ F4 H4 g (.bl _)
      | true =>
        refine h2 rfl F4 H4 (e1.trans g.fx) (e2.trans g.hx) g.fh _ fun w F5 H5 g5 hw => ?_
        exact ⟨F5, e, f, .bool q, g5.fh, hy.up (g4.fx.trans g5.fx), hw, h3 rfl, fun v F6 H6 g6 hv => k v F6 H6 ((g.trans g5).trans g6) hv⟩⟩
end
end Ly
/-! LyB: Python's operations as relations of data. -/
namespace Ly
open PySem L2 Evl
/-! ### answers -/
section
variable {K : Fg} {F H : Hp} {d r : D} {Q : VK} {v : V}
theorem Ans.sc (q : Ans K F H r Q) (fh : Ex F H) (h : scV r = some v) : Q v H := q v F H (Gr.refl fh) (scV_dp h)
theorem Ans.dp (q : Ans K F H r Q) (fh : Ex F H) (h : Dp K F v r) : Q v H := q v F H (Gr.refl fh) h
theorem Ans.tup (q : Ans K F H (.tuple ds) Q) (fh : Ex F H) {vs : List V} (h : DpAll K F vs ds) {p : Addr} (hp : H p = none) : Q (.ref p) (upd H p (.tup vs)) :=
  q _ _ _ (Gr.new fh hp) (.tup (st_of upd_same) (h.up (Ex.new (fresh_back fh hp))))
theorem Ans.lst (q : Ans K F H (.list ds) Q) (fh : Ex F H) {vs : List V} (h : DpAll K F vs ds) {p : Addr} (hp : H p = none) : Q (.ref p) (upd H p (.lst vs)) :=
  q _ _ _ (Gr.new fh hp) (.lst (sq_of upd_same) (h.up (Ex.new (fresh_back fh hp))))
end
/-! ### numbers -/
inductive AddD : D → D → D → Prop
  | int (i j : Int) : AddD (.int i) (.int j) (.int (i + j))
  | str (x y : Str) (h : x.length + y.length ≤ 100000) : AddD (.str x) (.str y) (.str (x ++ y))
  | tup (xs ys : List D) (h : xs.length + ys.length ≤ 100000) : AddD (.tuple xs) (.tuple ys) (.tuple (xs ++ ys))
  | list (xs ys : List D) (h : xs.length + ys.length ≤ 100000) : AddD (.list xs) (.list ys) (.list (xs ++ ys))
inductive SubD : D → D → D → Prop
  | int (i j : Int) : SubD (.int i) (.int j) (.int (i - j))
inductive MulD : D → D → D → Prop
  | int (i j : Int) (h : CMul i j) : MulD (.int i) (.int j) (.int (i * j))
  | intW (i j : Int) (h : CMulX i j) : MulD (.int i) (.int j) (.int (i * j))
inductive DivD : D → D → D → Prop
  | int (i j : Int) (h : 0 < j ∧ j < 1073741824) : DivD (.int i) (.int j) (.int (i / j))
  | intW (i j : Int) (h : CDivW i j) : DivD (.int i) (.int j) (.int (i / j))
inductive ModD : D → D → D → Prop
  | int (i j : Int) (h : 0 < j) : ModD (.int i) (.int j) (.int (i % j))
inductive PowD : D → D → D → Prop
  | int (i j : Int) (h : CPow i j) : PowD (.int i) (.int j) (.int (i ^ j.toNat))
inductive ShrD : D → D → D → Prop
  | int (i j : Int) (h : 0 ≤ j) : ShrD (.int i) (.int j) (.int (i / 2 ^ j.toNat))
inductive BandD : D → D → D → Prop
  | m31 (i : Int) : BandD (.int i) (.int 2147483647) (.int (i % 2147483648))
inductive LtD : D → D → D → Prop
  | int (i j : Int) : LtD (.int i) (.int j) (.bool (decide (i < j)))
inductive LeD : D → D → D → Prop
  | int (i j : Int) : LeD (.int i) (.int j) (.bool (decide (i ≤ j)))
  | tup (ns ms : List Int) : LeD (.tuple (ns.map PyData.int)) (.tuple (ms.map PyData.int))
      (.bool (Ob.lexAt (fun j => decide (ns.getD j 0 = ms.getD j 0)) (fun j => decide (ns.getD j 0 ≤ ms.getD j 0)) (decide (ns.length ≤ ms.length)) 0 (min ns.length ms.length)))
inductive GtD : D → D → D → Prop
  | int (i j : Int) : GtD (.int i) (.int j) (.bool (decide (j < i)))
inductive GeD : D → D → D → Prop
  | int (i j : Int) : GeD (.int i) (.int j) (.bool (decide (j ≤ i)))
inductive NegD : D → D → Prop
  | int (i : Int) : NegD (.int i) (.int (-i))
/-! ### == -/
inductive EqD : D → D → D → Prop
  | int (i j : Int) : EqD (.int i) (.int j) (.bool (decide (i = j)))
  | str (x y : Str) : EqD (.str x) (.str y) (.bool (decide (x = y)))
  | bool (x y : Bool) : EqD (.bool x) (.bool y) (.bool (decide (x = y)))
  | gen (d e : D) (h : SeqAt.shaped d = true) (h' : SeqAt.shaped e = true) : EqD d e (.bool (PyData.eqv d e))
inductive NeD : D → D → D → Prop
  | int (i j : Int) : NeD (.int i) (.int j) (.bool (!decide (i = j)))
  | str (x y : Str) : NeD (.str x) (.str y) (.bool (!decide (x = y)))
  | bool (x y : Bool) : NeD (.bool x) (.bool y) (.bool (!decide (x = y)))
  | gen (d e : D) (h : SeqAt.shaped d = true) (h' : SeqAt.shaped e = true) : NeD d e (.bool (!PyData.eqv d e))
/-! ### is -/
def isNon : D → Bool
  | .none => true
  | _ => false
def isBit : D → Bool → Bool
  | .bool a, b => decide (a = b)
  | _, _ => false
inductive IsD : D → D → D → Prop
  | non (d : D) : IsD d .none (.bool (isNon d))
  | bool (x y : Bool) : IsD (.bool x) (.bool y) (.bool (decide (x = y)))
  | bit (d : D) (y : Bool) : IsD d (.bool y) (.bool (isBit d y))
inductive NisD : D → D → D → Prop
  | non (d : D) : NisD d .none (.bool (!isNon d))
  | bool (x y : Bool) : NisD (.bool x) (.bool y) (.bool (!decide (x = y)))
  | bit (d : D) (y : Bool) : NisD d (.bool y) (.bool (!isBit d y))
/-! ### in -/
inductive InD : D → D → D → Prop
  | sign (c : Nat) (z : Str) : InD (.str ⟨#[c]⟩) (.str z) (.bool (decide (c ∈ z.cps.toList)))
  | list (d : D) (ds : List D) (h : SeqAt.shaped d = true) (h' : SeqAt.shaped (.list ds) = true) : InD d (.list ds) (.bool (ds.any fun z => PyData.eqv z d))
inductive NinD : D → D → D → Prop
  | sign (c : Nat) (z : Str) : NinD (.str ⟨#[c]⟩) (.str z) (.bool (!decide (c ∈ z.cps.toList)))
  | list (d : D) (ds : List D) (h : SeqAt.shaped d = true) (h' : SeqAt.shaped (.list ds) = true) : NinD d (.list ds) (.bool (!ds.any fun z => PyData.eqv z d))
/-! ### items, slices -/
inductive IxD : D → D → D → Prop
  | list (ds : List D) (i : Int) (d : D) (h : atI ds i = some d) : IxD (.list ds) (.int i) d
  | tup (ds : List D) (i : Int) (d : D) (h : atI ds i = some d) : IxD (.tuple ds) (.int i) d
  | str (z : Str) (i : Int) (c : Nat) (h : z.length ≤ 100000) (h' : atI z.cps.toList i = some c) : IxD (.str z) (.int i) (.str ⟨#[c]⟩)
def cutD (xs : List D) (lo hi : Option Int) : List D := (xs.drop (HT.sIx xs.length 0 lo)).take (HT.sIx xs.length xs.length hi - HT.sIx xs.length 0 lo)
inductive SlD : D → Option Int → Option Int → D → Prop
  | list (ds : List D) (lo hi : Option Int) : SlD (.list ds) lo hi (.list (cutD ds lo hi))
  | tup (ds : List D) (lo hi : Option Int) : SlD (.tuple ds) lo hi (.tuple (cutD ds lo hi))
  | str (z : Str) (lo hi : Option Int) (h : z.length ≤ 100000) : SlD (.str z) lo hi (.str (cutS z lo hi))
/-! ### calls of built-ins -/
inductive LenD : List D → D → Prop
  | list (ds : List D) : LenD [.list ds] (.int (ds.length : Nat))
  | tup (ds : List D) : LenD [.tuple ds] (.int (ds.length : Nat))
  | str (z : Str) (h : z.length ≤ 100000) : LenD [.str z] (.int (z.length : Nat))
inductive MaxD : List D → D → Prop
  | int (i j : Int) : MaxD [.int i, .int j] (.int (max i j))
inductive MinD : List D → D → Prop
  | int (i j : Int) : MinD [.int i, .int j] (.int (min i j))
inductive IntD : List D → D → Prop
  | bool (b : Bool) : IntD [.bool b] (.int (if b then 1 else 0))
inductive TupleD : List D → D → Prop
  | list (ds : List D) : TupleD [.list ds] (.tuple ds)
inductive ListD : List D → D → Prop
  | list (ds : List D) : ListD [.list ds] (.list ds)
  | tup (ds : List D) : ListD [.tuple ds] (.list ds)
inductive AllD : List D → D → Prop
  | list (bs : List Bool) : AllD [.list (bs.map PyData.bool)] (.bool (bs.all id))
inductive AnyD : List D → D → Prop
  | list (bs : List Bool) : AnyD [.list (bs.map PyData.bool)] (.bool (bs.any id))
inductive SumD : List D → D → Prop
  | list (ns : List Int) : SumD [.list (ns.map PyData.int)] (.int ns.sum)
inductive DivmodD : List D → D → Prop
  | int (i j : Int) (h : CDiv i j) : DivmodD [.int i, .int j] (.tuple [.int (i / j), .int (i % j)])
/-- the name of a datum's type -/
def tyN : D → String
  | .none => "NoneType"
  | .bool _ => "bool"
  | .int _ => "int"
  | .str _ => "str"
  | .list _ => "list"
  | .tuple _ => "tuple"
  | .dict _ => "dict"
section
variable {K : Fg} {F H : Hp} {v : V} {d : D}
theorem dp_ty (h : Dp K F v d) : TyX K F v (.type (tyN d)) := by
  cases h with
  | non => exact .base .non
  | bl b => exact .base (.bl b)
  | int i => exact .base (.int i)
  | str x => exact .base (.str x)
  | lst hs _ =>
    rcases hs with (e | ⟨o, e⟩) | ⟨o, its, n, e, c, _⟩
    · exact .base (.lst e)
    · exact .base (.frz e)
    · exact .kList e c
  | tup hs _ =>
    rcases hs with (e | ⟨o, e⟩) | ⟨o, its, n, e, c, _⟩
    · exact .base (.tup e)
    · exact .fTuple e
    · exact .kTuple e c
theorem tyV_str {z : Str} (h : Dp K F v (.str z)) : tyV K "str" v H := by
  cases h
  exact rfl
theorem tyV_list {ds : List D} (h : Dp K F v (.list ds)) (e : Ex F H) : tyV K "list" v H := by
  have h := h.up e
  cases h with
  | lst hs _ => exact .inl ⟨rfl, _, hs⟩
end
theorem atI_map {α β : Type} {xs : List α} {i : Int} {a : α} (h : atI xs i = some a) : ∃ j : Nat, ixN xs.length i = some j ∧ xs[j]? = some a := by
  unfold atI at h
  cases e : ixN xs.length i with
  | none => rw [e] at h; cases h
  | some j => rw [e] at h; exact ⟨j, rfl, h⟩
theorem dps_at {K : Fg} {F : Hp} {vs : List V} {ds : List D} {i : Int} {d : D} (ha : DpAll K F vs ds) (h : atI ds i = some d) : ∃ v, atI vs i = some v ∧ Dp K F v d := by
  obtain ⟨j, e1, e2⟩ := atI_map (β := D) h
  obtain ⟨v, e3, hv⟩ := ha.get e2
  refine ⟨v, ?_, hv⟩
  unfold atI
  rw [ha.length, e1]
  exact e3
theorem dps_cut {K : Fg} {F : Hp} {vs : List V} {ds : List D} (lo hi : Option Int) (ha : DpAll K F vs ds) : DpAll K F (cutV vs lo hi) (cutD ds lo hi) := by
  unfold cutV cutD
  rw [ha.length]
  exact (ha.drop _).take _
theorem int_max {i j : Int} : (if j > i then j else i) = max i j := by
  have := Int.max_def i j
  by_cases h : j > i
  · rw [if_pos h]; omega
  · rw [if_neg h]; omega
theorem int_min {i j : Int} : (if j < i then j else i) = min i j := by
  have := Int.min_def i j
  by_cases h : j < i
  · rw [if_pos h]; omega
  · rw [if_neg h]; omega
section
variable {X : Cx}
theorem op2_of {op : Value → Value → Sem Value} {r : R2} {R : D → D → D → Prop} (h : OpR X op r)
    (hr : ∀ F H x y d e z Q, Ex F H → Dp X.K F x d → Dp X.K F y e → R d e z → Ans X.K F H z Q → r x y H Q) : OpR X op (rD2 X.K R) :=
  fun pins s σ H x y v u Q I rx ry ⟨F, d, e, z, fh, hx, hy, hR, q⟩ => h pins s σ H x y v u Q I rx ry (hr F H x y d e z Q fh hx hy hR q)
/-- list + list -/
def rCatL (K : Fg) : R2 := fun x y H Q => ∃ l b xs zs, x = .ref l ∧ y = .ref b ∧ SqL K H l xs ∧ SqL K H b zs ∧ xs.length + zs.length ≤ sizeLine ∧ ∀ p, H p = none → Q (.ref p) (upd H p (.lst (xs ++ zs)))
theorem op_catL : OpR X (binaryOp .Add) (rCatL X.K) := by
  intro pins s σ H x y v u Q I rx ry h
  obtain ⟨l, b, xs, zs, rfl, rfl, hH, hB, hz, q⟩ := h
  cases rx
  cases ry
  obtain ⟨its, r, p1, _⟩ := I.list hH
  obtain ⟨its2, r2, p2, _⟩ := I.list hB
  obtain ⟨⟨cls, dd, data, sl⟩, ho, hc, n, hd⟩ := p1.isList
  obtain ⟨⟨cls2, dd2, data2, sl2⟩, ho2, hc2, n2, hd2⟩ := p2.isList
  simp only at hc hd hc2 hd2
  subst hc hd hc2 hd2
  have e : its.toArray ++ its2.toArray = (its ++ its2).toArray := by simp
  have hl1 := r.length
  have hl2 := r2.length
  refine PySem.concat_meets ⟨_, ho, rfl⟩ ⟨_, ho2, rfl⟩ noFill_list_add seq_list_add PySem.F.slot_list_add PySem.F.entry_list_add (PySem.F.args_list_add_2 _ _) (PyProof.Rows.list_addW l b its.toArray its2.toArray n n2 dd dd2 sl sl2 (by rw [List.size_toArray, List.size_toArray, ← hl1, ← hl2]; exact hz)) ⟨ho, ho2, ?_⟩
  rw [e]
  exact ⟨.ref _, _, I.lnew (t' := s.toks) (r.append r2) (by rw [List.length_append]; omega), rfl, q _ I.fresh⟩
theorem oAdd : OpR X (binaryOp .Add) (rD2 X.K AddD) := by
  refine op2_of (op_add.or (op_add_str.or (op_catA.or op_catL))) fun F H x y d e z Q fh hx hy hR q => ?_
  cases hR with
  | int i j => cases hx; cases hy; exact .inl ⟨i, j, rfl, rfl, q.sc fh rfl⟩
  | str a b h => cases hx; cases hy; exact .inr (.inl ⟨a, b, rfl, rfl, sz_of h, q.sc fh rfl⟩)
  | tup as bs h =>
    cases hx with
    | tup s1 a1 =>
      cases hy with
      | tup s2 a2 =>
        refine .inr (.inr (.inl ⟨_, _, _, _, rfl, rfl, ex_t fh s1, ex_t fh s2, by rw [a1.length, a2.length]; exact sz_of h, fun e => ?_, fun _ e => ?_, fun _ _ p hp => q.tup fh (a1.append a2) hp⟩))
        · subst e; cases a1; exact q.dp fh (.tup s2 a2)
        · subst e; cases a2; rw [List.append_nil] at q; exact q.dp fh (.tup s1 a1)
  | list as bs h =>
    cases hx with
    | lst s1 a1 =>
      cases hy with
      | lst s2 a2 => exact .inr (.inr (.inr ⟨_, _, _, _, rfl, rfl, ex_l fh s1, ex_l fh s2, by rw [a1.length, a2.length]; exact sz_of h, fun p hp => q.lst fh (a1.append a2) hp⟩))
theorem oSub : OpR X (binaryOp .Sub) (rD2 X.K SubD) := by
  refine op2_of op_sub fun F H x y d e z Q fh hx hy hR q => ?_
  cases hR with
  | int i j => cases hx; cases hy; exact ⟨i, j, rfl, rfl, q.sc fh rfl⟩
theorem oMul : OpR X (binaryOp .Mult) (rD2 X.K MulD) := by
  refine op2_of (op_mul.or op_mulX) fun F H x y d e z Q fh hx hy hR q => ?_
  cases hR with
  | int i j h => cases hx; cases hy; exact .inl ⟨i, j, rfl, rfl, h, q.sc fh rfl⟩
  | intW i j h => cases hx; cases hy; exact .inr ⟨i, j, rfl, rfl, h, q.sc fh rfl⟩
theorem oDiv : OpR X (binaryOp .FloorDiv) (rD2 X.K DivD) := by
  refine op2_of (op_fdiv.or op_fdivW) fun F H x y d e z Q fh hx hy hR q => ?_
  cases hR with
  | int i j h => cases hx; cases hy; exact .inl ⟨i, j, rfl, rfl, h, q.sc fh rfl⟩
  | intW i j h => cases hx; cases hy; exact .inr ⟨i, j, rfl, rfl, h, q.sc fh rfl⟩
theorem oMod : OpR X (binaryOp .Mod) (rD2 X.K ModD) := by
  refine op2_of op_mod fun F H x y d e z Q fh hx hy hR q => ?_
  cases hR with
  | int i j h => cases hx; cases hy; exact ⟨i, j, rfl, rfl, h, q.sc fh rfl⟩
theorem oPow : OpR X (binaryOp .Pow) (rD2 X.K PowD) := by
  refine op2_of op_pow fun F H x y d e z Q fh hx hy hR q => ?_
  cases hR with
  | int i j h => cases hx; cases hy; exact ⟨i, j, rfl, rfl, h, q.sc fh rfl⟩
theorem oShr : OpR X (binaryOp .RShift) (rD2 X.K ShrD) := by
  refine op2_of op_shr fun F H x y d e z Q fh hx hy hR q => ?_
  cases hR with
  | int i j h => cases hx; cases hy; exact ⟨i, j, rfl, rfl, h, q.sc fh rfl⟩
theorem oBand : OpR X (binaryOp .BitAnd) (rD2 X.K BandD) := by
  refine op2_of op_andM fun F H x y d e z Q fh hx hy hR q => ?_
  cases hR with
  | m31 i => cases hx; cases hy; exact ⟨i, 31, rfl, by decide, q.sc fh rfl⟩
theorem oLt : OpR X (compareOp .Lt) (rD2 X.K LtD) := by
  refine op2_of op_lt fun F H x y d e z Q fh hx hy hR q => ?_
  cases hR with
  | int i j => cases hx; cases hy; exact ⟨i, j, rfl, rfl, q.sc fh rfl⟩
theorem oGt : OpR X (compareOp .Gt) (rD2 X.K GtD) := by
  refine op2_of op_gt fun F H x y d e z Q fh hx hy hR q => ?_
  cases hR with
  | int i j => cases hx; cases hy; exact ⟨i, j, rfl, rfl, q.sc fh rfl⟩
theorem oGe : OpR X (compareOp .GtE) (rD2 X.K GeD) := by
  refine op2_of op_ge fun F H x y d e z Q fh hx hy hR q => ?_
  cases hR with
  | int i j => cases hx; cases hy; exact ⟨i, j, rfl, rfl, q.sc fh rfl⟩
theorem oLe (hu : X.A.units < cLine) : OpR X (compareOp .LtE) (rD2 X.K LeD) := by
  refine op2_of (op_le.or (op_leT hu)) fun F H x y d e z Q fh hx hy hR q => ?_
  cases hR with
  | int i j => cases hx; cases hy; exact .inl ⟨i, j, rfl, rfl, q.sc fh rfl⟩
  | tup ns ms =>
    cases hx with
    | tup s1 a1 =>
      cases hy with
      | tup s2 a2 =>
        have e1 := dps_ints_inv ns a1
        have e2 := dps_ints_inv ms a2
        subst e1 e2
        exact .inr ⟨_, _, ns, ms, rfl, rfl, ex_t fh s1, ex_t fh s2, q.sc fh rfl⟩
theorem oNeg : UnR X (unaryOp .USub) (rD1 X.K NegD) := fun pins s σ H x v Q I rx ⟨F, d, z, fh, hx, hR, q⟩ => by
  cases hR with
  | int i => cases hx; exact un_neg pins s σ H _ v Q I rx ⟨i, rfl, q.sc fh rfl⟩
theorem oEq (hu : X.A.units + 64 < cLine) : OpR X (compareOp .Eq) (rD2 X.K EqD) := by
  refine op2_of (op_eq.or (op_eqD hu)) fun F H x y d e z Q fh hx hy hR q => ?_
  cases hR with
  | int i j =>
    cases hx; cases hy
    refine .inl ⟨rfl, ?_⟩
    have w : decide (V.int i = V.int j) = decide (i = j) := by simp
    rw [w]; exact q.sc fh rfl
  | str i j =>
    cases hx; cases hy
    refine .inl ⟨rfl, ?_⟩
    have w : decide (V.str i = V.str j) = decide (i = j) := by simp
    rw [w]; exact q.sc fh rfl
  | bool i j =>
    cases hx; cases hy
    refine .inl ⟨rfl, ?_⟩
    have w : decide (V.bl i = V.bl j) = decide (i = j) := by simp
    rw [w]; exact q.sc fh rfl
  | gen d e h h' => exact .inr ⟨d, e, hx.up fh, hy.up fh, h, h', q.sc fh rfl⟩
theorem oNe (hu : X.A.units + 64 < cLine) : OpR X (compareOp .NotEq) (rD2 X.K NeD) := by
  refine op2_of (op_ne.or (op_neD hu)) fun F H x y d e z Q fh hx hy hR q => ?_
  cases hR with
  | int i j =>
    cases hx; cases hy
    refine .inl ⟨rfl, ?_⟩
    have w : decide (V.int i = V.int j) = decide (i = j) := by simp
    rw [w]; exact q.sc fh rfl
  | str i j =>
    cases hx; cases hy
    refine .inl ⟨rfl, ?_⟩
    have w : decide (V.str i = V.str j) = decide (i = j) := by simp
    rw [w]; exact q.sc fh rfl
  | bool i j =>
    cases hx; cases hy
    refine .inl ⟨rfl, ?_⟩
    have w : decide (V.bl i = V.bl j) = decide (i = j) := by simp
    rw [w]; exact q.sc fh rfl
  | gen d e h h' => exact .inr ⟨d, e, hx.up fh, hy.up fh, h, h', q.sc fh rfl⟩
theorem dp_non {K : Fg} {F : Hp} {v : V} {d : D} (h : Dp K F v d) : decide (v = .non) = isNon d := by
  cases h <;> (unfold isNon; simp)
def bitV (x : V) (b r : Bool) : Prop := match x with
  | .bl a => r = decide (a = b)
  | .int _ => r = false
  | .str _ => r = false
  | .non => r = false
  | .ref _ => r = false
  | _ => False
theorem dp_bit {K : Fg} {F : Hp} {v : V} {d : D} (h : Dp K F v d) (b : Bool) : bitV v b (isBit d b) := by
  cases h <;> exact rfl
theorem op_is_bit : OpR X (compareOp .Is) (fun x y H Q => ∃ b r, y = .bl b ∧ bitV x b r ∧ Q (.bl r) H) := by
  intro pins s σ H x y v u Q I rx ry h
  obtain ⟨b, r, rfl, hb, q⟩ := h
  cases x with
  | bl a =>
    cases (show r = decide (a = b) from hb)
    exact op_is_bl pins s σ H _ _ v u Q I rx ry ⟨a, b, rfl, rfl, q⟩
  | int i => obtain ⟨t, rfl⟩ := rx; cases (show u = Value.bool b from ry); cases (show r = false from hb); exact wpAny_is_other rfl (fun z => nomatch z) ⟨.bl false, H, I, rfl, q⟩
  | str i => obtain ⟨t, rfl⟩ := rx; cases (show u = Value.bool b from ry); cases (show r = false from hb); exact wpAny_is_other rfl (fun z => nomatch z) ⟨.bl false, H, I, rfl, q⟩
  | non => cases rx; cases (show u = Value.bool b from ry); cases (show r = false from hb); exact wpAny_is_other rfl (fun z => nomatch z) ⟨.bl false, H, I, rfl, q⟩
  | ref i => cases rx; cases (show u = Value.bool b from ry); cases (show r = false from hb); exact wpAny_is_other rfl (fun z => nomatch z) ⟨.bl false, H, I, rfl, q⟩
  | _ => exact hb.elim
theorem op_isnot_bit : OpR X (compareOp .IsNot) (fun x y H Q => ∃ b r, y = .bl b ∧ bitV x b r ∧ Q (.bl (!r)) H) := by
  intro pins s σ H x y v u Q I rx ry h
  obtain ⟨b, r, rfl, hb, q⟩ := h
  cases x with
  | bl a =>
    cases (show r = decide (a = b) from hb)
    exact op_isnot_bl pins s σ H _ _ v u Q I rx ry ⟨a, b, rfl, rfl, q⟩
  | int i => obtain ⟨t, rfl⟩ := rx; cases (show u = Value.bool b from ry); cases (show r = false from hb); exact wpAny_isNot_other rfl (fun z => nomatch z) ⟨.bl true, H, I, rfl, q⟩
  | str i => obtain ⟨t, rfl⟩ := rx; cases (show u = Value.bool b from ry); cases (show r = false from hb); exact wpAny_isNot_other rfl (fun z => nomatch z) ⟨.bl true, H, I, rfl, q⟩
  | non => cases rx; cases (show u = Value.bool b from ry); cases (show r = false from hb); exact wpAny_isNot_other rfl (fun z => nomatch z) ⟨.bl true, H, I, rfl, q⟩
  | ref i => cases rx; cases (show u = Value.bool b from ry); cases (show r = false from hb); exact wpAny_isNot_other rfl (fun z => nomatch z) ⟨.bl true, H, I, rfl, q⟩
  | _ => exact hb.elim
theorem oIs : OpR X (compareOp .Is) (rD2 X.K IsD) := by
  refine op2_of (op_isN.or (op_is_bl.or op_is_bit)) fun F H x y d e z Q fh hx hy hR q => ?_
  cases hR with
  | non d =>
    cases hy
    refine .inl ⟨rfl, ?_⟩
    rw [dp_non hx]; exact q.sc fh rfl
  | bool i j => cases hx; cases hy; exact .inr (.inl ⟨i, j, rfl, rfl, q.sc fh rfl⟩)
  | bit d b => cases hy; exact .inr (.inr ⟨b, _, rfl, dp_bit hx b, q.sc fh rfl⟩)
theorem oNis : OpR X (compareOp .IsNot) (rD2 X.K NisD) := by
  refine op2_of (op_notN.or (op_isnot_bl.or op_isnot_bit)) fun F H x y d e z Q fh hx hy hR q => ?_
  cases hR with
  | non d =>
    cases hy
    refine .inl ⟨rfl, ?_⟩
    rw [dp_non hx]; exact q.sc fh rfl
  | bool i j => cases hx; cases hy; exact .inr (.inl ⟨i, j, rfl, rfl, q.sc fh rfl⟩)
  | bit d b => cases hy; exact .inr (.inr ⟨b, _, rfl, dp_bit hx b, q.sc fh rfl⟩)
theorem oIn (hu : X.A.units + 65 < cLine) : OpR X (compareOp .In) (rD2 X.K InD) := by
  refine op2_of (op_in_sign.or (op_inD hu)) fun F H x y d e z Q fh hx hy hR q => ?_
  cases hR with
  | sign c z => cases hx; cases hy; exact .inl ⟨c, z, rfl, rfl, q.sc fh rfl⟩
  | list d ds h h' => exact .inr ⟨d, ds, hx.up fh, hy.up fh, h, h', q.sc fh rfl⟩
theorem oNin (hu : X.A.units + 65 < cLine) : OpR X (compareOp .NotIn) (rD2 X.K NinD) := by
  refine op2_of (op_notIn_sign.or (op_notInD hu)) fun F H x y d e z Q fh hx hy hR q => ?_
  cases hR with
  | sign c z => cases hx; cases hy; exact .inl ⟨c, z, rfl, rfl, q.sc fh rfl⟩
  | list d ds h h' => exact .inr ⟨d, ds, hx.up fh, hy.up fh, h, h', q.sc fh rfl⟩
theorem oIx : IxR X (rD2 X.K IxD) := by
  rintro va sl pins s σ H x y v u Q I rx ry ⟨F, d, e, z, fh, hx, hy, hR, q⟩ hs
  refine ix_seq va sl pins s σ H x y v u Q I rx ry ?_ hs
  cases hR with
  | list ds i d h =>
    cases hy
    cases hx with
    | lst s1 a1 =>
      obtain ⟨w, e1, hw⟩ := dps_at a1 h
      exact .inl ⟨_, _, i, w, rfl, rfl, ex_l fh s1, e1, q.dp fh hw⟩
  | tup ds i d h =>
    cases hy
    cases hx with
    | tup s1 a1 =>
      obtain ⟨w, e1, hw⟩ := dps_at a1 h
      exact .inr (.inl ⟨_, _, i, w, rfl, rfl, ex_t fh s1, e1, q.dp fh hw⟩)
  | str z i c h h' =>
    cases hy
    cases hx
    exact .inr (.inr ⟨z, i, c, rfl, rfl, sz_of h, h', q.sc fh rfl⟩)
theorem oSl : SlR X (rDs X.K SlD) := by
  rintro pins s σ H x v vl vu lo hi sl Q I rx hs pl pu ⟨F, d, z, fh, hx, hR, q⟩
  refine (sl_list.or (sl_tupA.or sl_str)) pins s σ H x v vl vu lo hi sl Q I rx hs pl pu ?_
  cases hR with
  | list ds lo hi =>
    cases hx with
    | lst s1 a1 => exact .inl ⟨_, _, rfl, ex_l fh s1, fun p hp => q.lst fh (dps_cut lo hi a1) hp⟩
  | tup ds lo hi =>
    cases hx with
    | tup s1 a1 =>
      refine .inr (.inl ⟨_, _, rfl, ex_t fh s1, fun hw => ?_, fun _ p hp => q.tup fh (dps_cut lo hi a1) hp⟩)
      have ec : cutD ds lo hi = ds := by
        unfold cutD
        rw [← a1.length, hw.1, hw.2]
        rw [a1.length]
        simp
      rw [ec] at q
      exact q.dp fh (.tup s1 a1)
  | str z lo hi h =>
    cases hx
    exact .inr (.inr ⟨z, rfl, sz_of h, q.sc fh rfl⟩)
/-! calls -/
theorem cn_of {f : Value} {r : List V → Hp → VK → Prop} {R : List D → D → Prop} (h : CallR X f r)
    (hr : ∀ F H xs ds z Q, Ex F H → DpAll X.K F xs ds → R ds z → Ans X.K F H z Q → r xs H Q) : CallR X f (rDn X.K R) :=
  fun pins s σ H xs us Q I rx ⟨F, ds, z, fh, hx, hR, q⟩ => h pins s σ H xs us Q I rx (hr F H xs ds z Q fh hx hR q)
theorem dps1 {K : Fg} {F : Hp} {vs : List V} {d : D} (h : DpAll K F vs [d]) : ∃ v, vs = [v] ∧ Dp K F v d := by
  cases h with
  | cons h1 h2 => cases h2; exact ⟨_, rfl, h1⟩
theorem dps2 {K : Fg} {F : Hp} {vs : List V} {d e : D} (h : DpAll K F vs [d, e]) : ∃ v w, vs = [v, w] ∧ Dp K F v d ∧ Dp K F w e := by
  cases h with
  | cons h1 h2 =>
    obtain ⟨w, rfl, hw⟩ := dps1 h2
    exact ⟨_, _, rfl, h1, hw⟩
theorem cLen : CallR X (.builtin "len") (rDn X.K LenD) := by
  refine cn_of (call_len_seq.or call_len_str) fun F H xs ds z Q fh hx hR q => ?_
  cases hR with
  | list ds =>
    obtain ⟨v, rfl, hv⟩ := dps1 hx
    cases hv with
    | lst s1 a1 =>
      refine .inl ⟨_, _, rfl, .inl (ex_l fh s1), ?_⟩
      rw [a1.length]; exact q.sc fh rfl
  | tup ds =>
    obtain ⟨v, rfl, hv⟩ := dps1 hx
    cases hv with
    | tup s1 a1 =>
      refine .inl ⟨_, _, rfl, .inr (ex_t fh s1), ?_⟩
      rw [a1.length]; exact q.sc fh rfl
  | str z h =>
    obtain ⟨v, rfl, hv⟩ := dps1 hx
    cases hv
    exact .inr ⟨z, rfl, sz_of h, q.sc fh rfl⟩
theorem cMax (hc : X.calm = true) : CallR X (.builtin "max") (rDn X.K MaxD) := by
  refine cn_of (call_max2 hc) fun F H xs ds z Q fh hx hR q => ?_
  cases hR with
  | int i j =>
    obtain ⟨v, w, rfl, hv, hw⟩ := dps2 hx
    cases hv; cases hw
    refine ⟨i, j, rfl, ?_⟩
    rw [int_max]; exact q.sc fh rfl
theorem cMin (hc : X.calm = true) : CallR X (.builtin "min") (rDn X.K MinD) := by
  refine cn_of (call_min2 hc) fun F H xs ds z Q fh hx hR q => ?_
  cases hR with
  | int i j =>
    obtain ⟨v, w, rfl, hv, hw⟩ := dps2 hx
    cases hv; cases hw
    refine ⟨i, j, rfl, ?_⟩
    rw [int_min]; exact q.sc fh rfl
theorem cInt : CallR X (.type "int") (rDn X.K IntD) := by
  refine cn_of call_int1 fun F H xs ds z Q fh hx hR q => ?_
  cases hR with
  | bool b =>
    obtain ⟨v, rfl, hv⟩ := dps1 hx
    cases hv
    exact .inr ⟨b, rfl, q.sc fh rfl⟩
theorem cTuple : CallR X (.type "tuple") (rDn X.K TupleD) := by
  refine cn_of call_tuple_of fun F H xs ds z Q fh hx hR q => ?_
  cases hR with
  | list ds =>
    obtain ⟨v, rfl, hv⟩ := dps1 hx
    cases hv with
    | lst s1 a1 => exact ⟨_, _, rfl, .inl ⟨ex_l fh s1, fun p hp => q.tup fh a1 hp⟩⟩
theorem cList : CallR X (.type "list") (rDn X.K ListD) := by
  refine cn_of call_list_of fun F H xs ds z Q fh hx hR q => ?_
  cases hR with
  | list ds =>
    obtain ⟨v, rfl, hv⟩ := dps1 hx
    cases hv with
    | lst s1 a1 => exact ⟨_, _, rfl, .inl (ex_l fh s1), fun p hp => q.lst fh a1 hp⟩
  | tup ds =>
    obtain ⟨v, rfl, hv⟩ := dps1 hx
    cases hv with
    | tup s1 a1 => exact ⟨_, _, rfl, .inr (ex_t fh s1), fun p hp => q.lst fh a1 hp⟩
end
/-! the same with the written part named -/
section
variable {X : Cx} {K : Fg}
theorem kAdd  (hK : X.K = K := by rfl) : OpR X (binaryOp .Add) (rD2 K AddD) := by
  subst hK
  exact oAdd
theorem kSub  (hK : X.K = K := by rfl) : OpR X (binaryOp .Sub) (rD2 K SubD) := by
  subst hK
  exact oSub
theorem kMul  (hK : X.K = K := by rfl) : OpR X (binaryOp .Mult) (rD2 K MulD) := by
  subst hK
  exact oMul
theorem kDiv  (hK : X.K = K := by rfl) : OpR X (binaryOp .FloorDiv) (rD2 K DivD) := by
  subst hK
  exact oDiv
theorem kMod  (hK : X.K = K := by rfl) : OpR X (binaryOp .Mod) (rD2 K ModD) := by
  subst hK
  exact oMod
theorem kPow  (hK : X.K = K := by rfl) : OpR X (binaryOp .Pow) (rD2 K PowD) := by
  subst hK
  exact oPow
theorem kShr  (hK : X.K = K := by rfl) : OpR X (binaryOp .RShift) (rD2 K ShrD) := by
  subst hK
  exact oShr
theorem kBand  (hK : X.K = K := by rfl) : OpR X (binaryOp .BitAnd) (rD2 K BandD) := by
  subst hK
  exact oBand
theorem kLt  (hK : X.K = K := by rfl) : OpR X (compareOp .Lt) (rD2 K LtD) := by
  subst hK
  exact oLt
theorem kGt  (hK : X.K = K := by rfl) : OpR X (compareOp .Gt) (rD2 K GtD) := by
  subst hK
  exact oGt
theorem kGe  (hK : X.K = K := by rfl) : OpR X (compareOp .GtE) (rD2 K GeD) := by
  subst hK
  exact oGe
theorem kLe (hu : X.A.units < cLine) (hK : X.K = K := by rfl) : OpR X (compareOp .LtE) (rD2 K LeD) := by
  subst hK
  exact oLe hu
theorem kNeg  (hK : X.K = K := by rfl) : UnR X (unaryOp .USub) (rD1 K NegD) := by
  subst hK
  exact oNeg
theorem kEq (hu : X.A.units + 64 < cLine) (hK : X.K = K := by rfl) : OpR X (compareOp .Eq) (rD2 K EqD) := by
  subst hK
  exact oEq hu
theorem kNe (hu : X.A.units + 64 < cLine) (hK : X.K = K := by rfl) : OpR X (compareOp .NotEq) (rD2 K NeD) := by
  subst hK
  exact oNe hu
theorem kIs  (hK : X.K = K := by rfl) : OpR X (compareOp .Is) (rD2 K IsD) := by
  subst hK
  exact oIs
theorem kNis  (hK : X.K = K := by rfl) : OpR X (compareOp .IsNot) (rD2 K NisD) := by
  subst hK
  exact oNis
theorem kIn (hu : X.A.units + 65 < cLine) (hK : X.K = K := by rfl) : OpR X (compareOp .In) (rD2 K InD) := by
  subst hK
  exact oIn hu
theorem kNin (hu : X.A.units + 65 < cLine) (hK : X.K = K := by rfl) : OpR X (compareOp .NotIn) (rD2 K NinD) := by
  subst hK
  exact oNin hu
theorem kIx  (hK : X.K = K := by rfl) : IxR X (rD2 K IxD) := by
  subst hK
  exact oIx
/-- an item, by data or (of a list that is one's own) by values -/
def rIxU (K : Fg) : R2 := fun x y H Q => rD2 K IxD x y H Q ∨ rIxL K x y H Q
theorem kIxU (hK : X.K = K := by rfl) : IxR X (rIxU K) := by
  subst hK
  exact oIx.or ix_list
theorem kSl  (hK : X.K = K := by rfl) : SlR X (rDs K SlD) := by
  subst hK
  exact oSl
theorem jLen  (hK : X.K = K := by rfl) : CallR X (.builtin "len") (rDn K LenD) := by
  subst hK
  exact cLen
theorem jMax (hc : X.calm = true) (hK : X.K = K := by rfl) : CallR X (.builtin "max") (rDn K MaxD) := by
  subst hK
  exact cMax hc
theorem jMin (hc : X.calm = true) (hK : X.K = K := by rfl) : CallR X (.builtin "min") (rDn K MinD) := by
  subst hK
  exact cMin hc
theorem jInt  (hK : X.K = K := by rfl) : CallR X (.type "int") (rDn K IntD) := by
  subst hK
  exact cInt
theorem jTuple  (hK : X.K = K := by rfl) : CallR X (.type "tuple") (rDn K TupleD) := by
  subst hK
  exact cTuple
theorem jList  (hK : X.K = K := by rfl) : CallR X (.type "list") (rDn K ListD) := by
  subst hK
  exact cList
theorem jIsi (hK : X.K = K := by rfl) : CallR X (.builtin "isinstance") (rIsi K) := by
  subst hK
  exact call_isi
end
end Ly
/-! LyC: defs by relations, statements, loops, comprehensions. -/
namespace Ly
open PySem L2 Evl PyProof.Rows
/-! ### defs -/
/-- a def of the text stands under its name -/
structure Df (K : Fg) (mg : Str → Option Value) (x : Str) (st : Stmt) (ps : List Str) : Prop where
  ex : ∃ f fd, Fun K x x st f fd ∧ mg x = some (.ref f) ∧ ∀ us : List Value, us.length = ps.length → bindArgs fd ⟨us, []⟩ = pure (ps.zip us)
/-- a def that keeps its promise stands under its name -/
structure Dk (P : Program) (w : World) (K : Fg) (mg : Str → Option Value) (base : Heap) (k : Nat) (x : Str) (ps : List Str) (sp : Sp) : Prop where
  ex : ∃ f fd, mg x = some (.ref f) ∧ FnOk P w K mg base CX0 k f fd ps sp ∧ PySem.W.keepIn K (.ref f) = true ∧ Binds K fd ps [] ∧ ∃ o, K.lookup f = some o ∧ o.data = .func fd
section
variable {P : Program} {w : World} {K : Fg} {mg : Str → Option Value} {base : Heap} {k : Nat} {x : Str} {st : Stmt} {N ps : List Str}
theorem fun_at {q : Str} {f : Addr} {fd : FuncData} (F : Fun K x q st f fd) : ∃ o, K.lookup f = some o ∧ o.data = .func fd := by
  obtain ⟨oc, od, kV, doc, pm, an, cdv, ct, osl, _, lk, _⟩ := F.ex
  exact ⟨_, lk, rfl⟩
/-- for any promise -/
theorem Df.dkS {sp : Sp} (D0 : Df K mg x st ps) (S : FnScope N ps (defScope st)) (hl : ∀ vs H Q E, sp vs H Q E → vs.length = ps.length)
    (hb : ∀ (f : Addr) (cdv : Value) (A : Around) (outer : List Env) (s : Shared) (H : Hp) (E : XK), Room k (A.deeper (envOfC x (defScope st) s.heap.objs.size f cdv)) →
      ∃ t, PSs (cxOf CX0 P w K mg base N x (defScope st) f cdv A outer s H E).nox (defBody st) t ∧
        ∀ vs Q, sp vs H Q E → t { nx := fun _ H' => Q .non H', rt := Q } (start N vs) H) : Dk P w K mg base (k + 1) x ps sp := by
  obtain ⟨f, fd, F, hm, b⟩ := D0.ex
  refine ⟨f, fd, hm, F.ok S hl fun cdv A outer s H vs Q E hr h => ?_, F.kp, .all b, fun_at F⟩
  obtain ⟨t, h1, h2⟩ := hb f cdv A outer s H E hr
  exact ⟨t, h1, h2 vs Q h⟩
theorem Df.dk {R : List D → D → Prop} (D0 : Df K mg x st ps) (S : FnScope N ps (defScope st)) (hl : ∀ ds r, R ds r → ds.length = ps.length)
    (hb : ∀ (f : Addr) (cdv : Value) (A : Around) (outer : List Env) (s : Shared) (H : Hp) (E : XK), Room k (A.deeper (envOfC x (defScope st) s.heap.objs.size f cdv)) →
      ∃ t, PSs (cxOf CX0 P w K mg base N x (defScope st) f cdv A outer s H E).nox (defBody st) t ∧
        ∀ vs F0 ds r Q, Ex F0 H → DpAll K F0 vs ds → R ds r → Ans K F0 H r Q → t { nx := fun _ H' => Q .non H', rt := Q } (start N vs) H) : Dk P w K mg base (k + 1) x ps (spR K R) := by
  refine D0.dkS S (spR_len hl) fun f cdv A outer s H E hr => ?_
  obtain ⟨t, h1, h2⟩ := hb f cdv A outer s H E hr
  exact ⟨t, h1, fun vs Q ⟨F0, ds, r, fh, ha, hR, q⟩ => h2 vs F0 ds r Q fh ha hR q⟩
/-- the law's own end -/
theorem Df.fin {sp : Sp} {a : Str} {fa : Addr} (D0 : Df K mg x st [a]) (hfa : mg x = some (.ref fa)) (h : ∀ base, K.In base → base.Ns mainGlobals mg → Dk P w K mg base k x [a] sp) :
    ∃ fd : FuncData, (∀ (s : Shared) (u : Value), BindsTo s fd ⟨[u], []⟩ [(a, u)]) ∧ ∀ base : Heap, K.In base → base.Ns mainGlobals mg → FnOk P w K mg base CX0 k fa fd [a] sp := by
  obtain ⟨f, fd, F, hm, b⟩ := D0.ex
  have e := hfa.symm.trans hm
  cases e
  refine ⟨fd, fun s u => .of_eq (b [u] rfl), fun base h1 h2 => ?_⟩
  obtain ⟨f', fd', hm', ok, _, _, o', l', d'⟩ := (h base h1 h2).ex
  have e := hm.symm.trans hm'
  cases e
  obtain ⟨o, l, d⟩ := fun_at F
  have e := l.symm.trans l'
  cases e
  have e := d.symm.trans d'
  cases e
  exact ok
theorem Dk.mono {sp : Sp} {j : Nat} (h : Dk P w K mg base k x ps sp) (hj : k ≤ j) : Dk P w K mg base j x ps sp := by
  obtain ⟨f, fd, h1, h2, h3, h4, h5⟩ := h.ex
  exact ⟨f, fd, h1, h2.mono hj, h3, h4, h5⟩
theorem cl {X : Cx} {sp : Sp} {p pos : Pos} {e : Expr} {es : List Expr} {t : TA} {j : Nat} (h : Dk P w K mg base k x ps sp) (hr : Room j X.A) (ha : PA X (e :: es) t) (hj : k ≤ j := by first | decide | omega) (hg : Gl X x := by rfl)
    (hP : X.prog = P := by rfl) (hw : X.w = w := by rfl) (hK : X.K = K := by rfl) (hm : X.mg = mg := by rfl) (hB : X.base = base := by rfl)
    (hdb : (x == ("__debug__" : Str)) = false := by decide) (he : starEach (e :: es) X.env = (false, eval e X.env) :: starEach es X.env := by rfl) (hpl : (backTo pos (starEach es X.env)).any (·.1) = false := by rfl) :
    PE X (.Call (.Name x p) (e :: es) [] pos) (tCall sp [] E0 t) := by
  subst hP hw hK hm hB
  obtain ⟨f, fd, h1, h2, h3, h4, _⟩ := h.ex
  exact pe_call h2 (hr.mono hj) hg h1 h3 h4 .nil pass0 ha hdb he hpl
theorem cl0 {X : Cx} {sp : Sp} {p pos : Pos} {j : Nat} (h : Dk P w K mg base k x ps sp) (hr : Room j X.A) (hj : k ≤ j := by first | decide | omega) (hg : Gl X x := by rfl)
    (hP : X.prog = P := by rfl) (hw : X.w = w := by rfl) (hK : X.K = K := by rfl) (hm : X.mg = mg := by rfl) (hB : X.base = base := by rfl)
    (hdb : (x == ("__debug__" : Str)) = false := by decide) :
    PE X (.Call (.Name x p) [] [] pos) (tCall sp [] E0 tNil) := by
  subst hP hw hK hm hB
  obtain ⟨f, fd, h1, h2, h3, h4, _⟩ := h.ex
  exact pe_call0 h2 (hr.mono hj) hg h1 h3 h4 .nil pass0 hdb
end
/-- what a law is asked: any script of at most 63 ints; True -/
def RLaw : List D → D → Prop := fun ds r => ∃ ns : List Int, ns.length ≤ 63 ∧ ds = [.list (ns.map PyData.int)] ∧ r = .bool true
theorem RLaw.len : ∀ ds r, RLaw ds r → ds.length = 1 := fun ds r ⟨ns, _, h, _⟩ => by rw [h]; rfl
theorem law_start {K : Fg} {H : Hp} {a : Addr} {ns : List Int} {E : XK} (hl : ns.length ≤ 63) (hS : SqL K H a (ns.map V.int)) : spR K RLaw [.ref a] H (fun v _ => v = .bl true) E :=
  ⟨H, _, _, Ex.refl H, .cons (dp_ints hS) .nil, ⟨ns, hl, rfl, rfl⟩, fun v F2 H2 _ h => by cases h; rfl⟩
theorem room64 {k : Nat} {A : Around} (r : Room k A) : A.units + 64 < cLine := by have := r.un; omega
theorem room65 {k : Nat} {A : Around} (r : Room k A) : A.units + 65 < cLine := by have := r.un; omega
theorem room0 {k : Nat} {A : Around} (r : Room k A) : A.units < cLine := by have := r.un; omega
/-! ### built-ins by name -/
section
variable {X : Cx} {x : Str} {id : String} {p pos : Pos} {e : Expr} {es : List Expr} {r : List V → Hp → VK → Prop} {t : TA}
theorem bi (hc : CallR X (.builtin id) r) (hm : X.mg x = none) (ha : PA X (e :: es) t) (hg : Gl X x := by rfl) (hv : bootBuiltins x = some (.builtin id) := by decide +kernel) (hn : x ≠ "__name__" := by decide) (hdb : (x == ("__debug__" : Str)) = false := by decide)
    (he : starEach (e :: es) X.env = (false, eval e X.env) :: starEach es X.env := by rfl) (hpl : (backTo pos (starEach es X.env)).any (·.1) = false := by rfl) : PE X (.Call (.Name x p) (e :: es) [] pos) (tCB r t) := pe_callB hc hg hm hv ha hn hdb he hpl
theorem bt (hc : CallR X (.type id) r) (hm : X.mg x = none) (ha : PA X (e :: es) t) (hg : Gl X x := by rfl) (hv : bootBuiltins x = some (.type id) := by decide +kernel) (hn : x ≠ "__name__" := by decide) (hdb : (x == ("__debug__" : Str)) = false := by decide)
    (he : starEach (e :: es) X.env = (false, eval e X.env) :: starEach es X.env := by rfl) (hpl : (backTo pos (starEach es X.env)).any (·.1) = false := by rfl) : PE X (.Call (.Name x p) (e :: es) [] pos) (tCB r t) := pe_callTy hc hg hm hv ha hn hdb he hpl
/-- a built-in class as a value -/
theorem bty {n : String} (hm : X.mg x = none) (hg : Gl X x := by rfl) (hv : bootBuiltins x = some (.type n) := by decide +kernel) (hn : x ≠ "__name__" := by decide) (hdb : (x == ("__debug__" : Str)) = false := by decide) : PE X (.Name x pos) (tC (.ty n)) := pe_bltn hg hm hv rfl hn hdb
theorem gint {i : Int} (hm : ∃ u, X.mg x = some (.int i u)) (hg : Gl X x := by rfl) (hdb : (x == ("__debug__" : Str)) = false := by decide) : PE X (.Name x pos) (tC (.int i)) := by
  obtain ⟨u, hm⟩ := hm
  exact pe_glob hg hm ⟨u, rfl⟩ hdb
theorem gstr {i : Str} (hm : ∃ u, X.mg x = some (.str i u)) (hg : Gl X x := by rfl) (hdb : (x == ("__debug__" : Str)) = false := by decide) : PE X (.Name x pos) (tC (.str i)) := by
  obtain ⟨u, hm⟩ := hm
  exact pe_glob hg hm ⟨u, rfl⟩ hdb
theorem gref {i : Addr} (hm : X.mg x = some (.ref i)) (hg : Gl X x := by rfl) (hdb : (x == ("__debug__" : Str)) = false := by decide) : PE X (.Name x pos) (tC (.ref i)) := pe_glob hg hm rfl hdb
end
/-! ### isinstance -/
def isInt : D → Bool | .int _ => true | .bool _ => true | _ => false
def isBol : D → Bool | .bool _ => true | _ => false
def isStr : D → Bool | .str _ => true | _ => false
def isTup : D → Bool | .tuple _ => true | _ => false
def isLst : D → Bool | .list _ => true | _ => false
section
variable {K : Fg} {σ : L2.St} {F H : Hp} {te : TE} {d : D}
theorem d_isi {n : String} {b : Bool} (h : EvD K te σ F H d) (hb : kitB (tyN d) n = some b) : EvD K (tCB (rIsi K) (tCons te (tCons (tC (.ty n)) tNil))) σ F H (.bool b) := fun F1 H1 e1 e2 e3 Q q =>
  h F1 H1 e1 e2 e3 _ fun v F2 H2 g hv => ⟨v, .ty n, _, _, b, rfl, .ty n, dp_ty (hv.up g.fh), kit_ty hb, q _ F2 H2 g (.bl b)⟩
theorem d_isInt (h : EvD K te σ F H d) : EvD K (tCB (rIsi K) (tCons te (tCons (tC (.ty "int")) tNil))) σ F H (.bool (isInt d)) := d_isi h (by cases d <;> (simp only [tyN, isInt, isBol, isStr, isTup, isLst]; decide +kernel))
theorem d_isBol (h : EvD K te σ F H d) : EvD K (tCB (rIsi K) (tCons te (tCons (tC (.ty "bool")) tNil))) σ F H (.bool (isBol d)) := d_isi h (by cases d <;> (simp only [tyN, isInt, isBol, isStr, isTup, isLst]; decide +kernel))
theorem d_isStr (h : EvD K te σ F H d) : EvD K (tCB (rIsi K) (tCons te (tCons (tC (.ty "str")) tNil))) σ F H (.bool (isStr d)) := d_isi h (by cases d <;> (simp only [tyN, isInt, isBol, isStr, isTup, isLst]; decide +kernel))
theorem d_isTup (h : EvD K te σ F H d) : EvD K (tCB (rIsi K) (tCons te (tCons (tC (.ty "tuple")) tNil))) σ F H (.bool (isTup d)) := d_isi h (by cases d <;> (simp only [tyN, isInt, isBol, isStr, isTup, isLst]; decide +kernel))
theorem d_isLst (h : EvD K te σ F H d) : EvD K (tCB (rIsi K) (tCons te (tCons (tC (.ty "list")) tNil))) σ F H (.bool (isLst d)) := d_isi h (by cases d <;> (simp only [tyN, isInt, isBol, isStr, isTup, isLst]; decide +kernel))
end
/-! ### new lists -/
def EvN (K : Fg) (te : TE) (σ : L2.St) (F H : Hp) (ds : List D) : Prop := ∀ F1 H1, Ex F F1 → Ex H H1 → Ex F1 H1 → ∀ Q : VK,
  (∀ p vs F2 H2, Gr F1 H1 F2 H2 → H1 p = none → F2 p = none → H2 p = some (.lst vs) → DpAll K F2 vs ds → Q (.ref p) H2) → te σ H1 Q
section
variable {K : Fg} {σ : L2.St} {F H F0 H0 : Hp} {te ta tl : TE} {tt t : TT} {d : D} {ds es : List D} {v : V} {i j : Nat} {D' : Ends} {tu tw tz : TS} {gt : TG} {wi : TI}
theorem EvN.dd (h : EvN K te σ F H ds) : EvD K te σ F H (.list ds) := fun F1 H1 e1 e2 e3 Q q => h F1 H1 e1 e2 e3 _ fun p vs F2 H2 g hp fp hl ha =>
  q (.ref p) (upd F2 p (.lst vs)) H2 (g.give hp hl fp) (.lst (sq_of upd_same) (ha.up (Ex.new fp)))
theorem EvN.to (h : EvN K te σ F H ds) (q : ds = es) : EvN K te σ F H es := q ▸ h
theorem n_lst {ta : TA} (ha : EvDs K ta σ F H ds) (hl : ds.length ≤ 100000) : EvN K (tLst ta) σ F H ds := fun F1 H1 e1 e2 e3 Q q =>
  ha F1 H1 e1 e2 e3 _ fun xs F2 H2 g2 hx => ⟨by rw [hx.length]; exact sz_of hl, fun p hp => q p xs F2 _ (g2.trans (Gr.own g2.fh hp)) (g2.back hp) (fresh_back g2.fh hp) upd_same hx⟩
theorem n_cut {lo hi : Option Int} {to th : TO} (h : EvD K te σ F H (.list ds)) (h1 : EvI K to σ F H lo) (h2 : EvI K th σ F H hi) : EvD K (tSl (rDs K SlD) te to th) σ F H (.list (cutD ds lo hi)) := d_sl h h1 h2 (.list ds lo hi)
theorem d_ix {tb : TE} {e r : D} (ha : EvD K te σ F H d) (hb : EvD K tb σ F H e) (hr : IxD d e r) : EvD K (tOp (rIxU K) te tb) σ F H r := fun F1 H1 e1 e2 e3 Q q =>
  ha F1 H1 e1 e2 e3 _ fun x F2 H2 g2 hx => hb F2 H2 (e1.trans g2.fx) (e2.trans g2.hx) g2.fh _ fun y F3 H3 g3 hy =>
    .inl ⟨F3, d, e, r, g3.fh, hx.up g3.fx, hy, hr, fun v F4 H4 g4 hv => q v F4 H4 ((g2.trans g3).trans g4) hv⟩
/-- an item of one's own list -/
theorem d_ixO {tb : TE} {l : Addr} {vs : List V} {n : Int} {r : D} (hv : σ[i]? = some (some (.ref l))) (hl : H l = some (.lst vs)) (ha : DpAll K F vs ds) (hb : EvD K tb σ F H (.int n)) (hr : atI ds n = some r) : EvD K (tOp (rIxU K) (tVar i) tb) σ F H r := fun F1 H1 e1 e2 e3 Q q =>
  ⟨.ref l, hv, hb F1 H1 e1 e2 e3 _ fun y F3 H3 g3 hy => by
    cases hy
    obtain ⟨w, ew, hw⟩ := dps_at ha hr
    exact .inr ⟨l, vs, n, w, rfl, rfl, sq_of (g3.hx _ _ (e2 _ _ hl)), ew, q w F3 H3 g3 (hw.up (e1.trans g3.fx))⟩⟩
/-! ### statements -/
/-- xs.clear(), xs one's own -/
theorem s_clear {l : Addr} {xs : List V} (g : Gr F0 H0 F H) (hl0 : H0 l = none) (fl : F l = none) (hl : H l = some (.lst xs)) (hv : σ[i]? = some (some (.ref l))) (k : ∀ H2, Gr F0 H0 F H2 → (∀ p o, p ≠ l → H p = some o → H2 p = some o) → H2 l = some (.lst []) → D'.nx σ H2) :
    tDrop (tBM0 K "list" rClear (tVar i)) D' σ H :=
  ⟨.ref l, hv, .inl ⟨rfl, xs, sq_of hl⟩, l, xs, rfl, rfl, hl, k _ (g.mut hl0 fl) (fun p o hp ho => by rw [upd_ne hp]; exact ho) upd_same⟩
theorem q_clear {l : Addr} {xs : List V} (g : Gr F0 H0 F H) (hl0 : H0 l = none) (fl : F l = none) (hl : H l = some (.lst xs)) (hv : σ[i]? = some (some (.ref l))) (k : ∀ H2, Gr F0 H0 F H2 → (∀ p o, p ≠ l → H p = some o → H2 p = some o) → H2 l = some (.lst []) → tz D' σ H2) :
    tSeq (tDrop (tBM0 K "list" rClear (tVar i))) tz D' σ H := s_clear (D' := { D' with nx := tz D' }) g hl0 fl hl hv k
/-! promises of a new list -/
def AnsN (K : Fg) (F H : Hp) (es : List D) (Q : VK) : Prop := ∀ p ws F2 H2, Gr F H F2 H2 → H p = none → F2 p = none → H2 p = some (.lst ws) → DpAll K F2 ws es → Q (.ref p) H2
def spN (K : Fg) (R : List D → List D → Prop) : Sp := fun vs H Q _ => ∃ F ds es, Ex F H ∧ DpAll K F vs ds ∧ R ds es ∧ AnsN K F H es Q
theorem n_call {R : List D → List D → Prop} {E : XK} {ta : TA} (ha : EvDs K ta σ F H ds) (hr : R ds es) : EvN K (tCall (spN K R) [] E ta) σ F H es := fun F1 H1 e1 e2 e3 Q q =>
  ha F1 H1 e1 e2 e3 _ fun xs F2 H2 g2 hx => by
    show spN K R (xs ++ []) H2 Q E
    rw [List.append_nil]
    exact ⟨F2, ds, es, g2.fh, hx, hr, fun p ws F3 H3 g3 hp fp hl ha => q p ws F3 H3 (g2.trans g3) (g2.back hp) fp hl ha⟩
theorem s_retN (g : Gr F0 H0 F H) (h : EvN K te σ F H ds) (q : AnsN K F0 H0 ds D'.rt) : tRet te D' σ H :=
  h F H (Ex.refl F) (Ex.refl H) g.fh _ fun p ws F2 H2 s hp fp hl ha => q p ws F2 H2 (g.trans s) (g.back hp) fp hl ha
/-- one's own list is handed back -/
theorem s_retO {l : Addr} {vs : List V} (g : Gr F0 H0 F H) (hl0 : H0 l = none) (fl : F l = none) (hl : H l = some (.lst vs)) (ha : DpAll K F vs ds) (hv : σ[i]? = some (some (.ref l))) (q : AnsN K F0 H0 ds D'.rt) : tRet (tVar i) D' σ H :=
  ⟨.ref l, hv, q l vs F H g hl0 fl hl ha⟩
/-! ### statements -/
theorem s_set (g : Gr F0 H0 F H) (h : EvD K te σ F H d) (k : ∀ v F2 H2, Gr F0 H0 F2 H2 → Gr F H F2 H2 → Dp K F2 v d → D'.nx (σ.set i (some v)) H2) : tAsg te (gName i) D' σ H :=
  h F H (Ex.refl F) (Ex.refl H) g.fh _ fun v F2 H2 s hv => k v F2 H2 (g.trans s) s hv
theorem s_setV (g : Gr F0 H0 F H) (h : EvD K te σ F H d) (hs : scV d = some v) (k : ∀ H2, Gr F0 H0 F H2 → Ex H H2 → D'.nx (σ.set i (some v)) H2) : tAsg te (gName i) D' σ H :=
  h F H (Ex.refl F) (Ex.refl H) g.fh _ fun w F2 H2 s hv => by
    have e := scV_inv hs hv
    subst e
    exact k H2 (g.grow s.hx) s.hx
theorem s_setN (g : Gr F0 H0 F H) (h : EvN K te σ F H ds) (k : ∀ p vs F2 H2, Gr F0 H0 F2 H2 → Gr F H F2 H2 → H p = none → F2 p = none → H2 p = some (.lst vs) → DpAll K F2 vs ds → D'.nx (σ.set i (some (.ref p))) H2) : tAsg te (gName i) D' σ H :=
  h F H (Ex.refl F) (Ex.refl H) g.fh _ fun p vs F2 H2 s hp fp hl ha => k p vs F2 H2 (g.trans s) s hp fp hl ha
theorem s_ret (g : Gr F0 H0 F H) (h : EvD K te σ F H d) (q : Ans K F0 H0 d D'.rt) : tRet te D' σ H :=
  h F H (Ex.refl F) (Ex.refl H) g.fh _ fun v F2 H2 s hv => q v F2 H2 (g.trans s) hv
theorem s_drop (g : Gr F0 H0 F H) (h : EvD K te σ F H d) (k : ∀ H2, Gr F0 H0 F H2 → Ex H H2 → D'.nx σ H2) : tDrop te D' σ H :=
  h F H (Ex.refl F) (Ex.refl H) g.fh _ fun v F2 H2 s _ => k H2 (g.grow s.hx) s.hx
theorem s_if {b : Bool} (g : Gr F0 H0 F H) (h : EvB t σ F H b) (h1 : b = true → ∀ H2, Gr F0 H0 F H2 → Ex H H2 → tu D' σ H2) (h2 : b = false → ∀ H2, Gr F0 H0 F H2 → Ex H H2 → tw D' σ H2) : tIfS t tu tw D' σ H :=
  h F H (Ex.refl F) (Ex.refl H) g.fh _ fun H2 e => by
    cases b with
    | true =>
      show tu D' σ H2
      exact h1 rfl H2 (g.grow e) e
    | false =>
      show tw D' σ H2
      exact h2 rfl H2 (g.grow e) e
theorem s_aug {f : Int → Int → Int} {a b : Int} (g : Gr F0 H0 F H) (hx : σ[i]? = some (some (.int a))) (h : EvD K te σ F H (.int b)) (k : ∀ H2, Gr F0 H0 F H2 → Ex H H2 → D'.nx (σ.set i (some (.int (f a b)))) H2) : tAug i te (ipI f) D' σ H :=
  ⟨.int a, hx, h F H (Ex.refl F) (Ex.refl H) g.fh _ fun v F2 H2 s hv => by
    cases hv
    exact ⟨a, b, rfl, rfl, k H2 (g.grow s.hx) s.hx⟩⟩
/-- xs.append(e), xs one's own list -/
theorem s_app {l : Addr} {xs : List V} (g : Gr F0 H0 F H) (hl0 : H0 l = none) (fl : F l = none) (hl : H l = some (.lst xs)) (hv : σ[i]? = some (some (.ref l))) (hz : xs.length < 100000) (h : EvD K te σ F H d)
    (k : ∀ v F2 H2, Gr F0 H0 F2 H2 → Ex F F2 → (∀ p, H p ≠ none → F2 p = F p) → (∀ p o, p ≠ l → H p = some o → H2 p = some o) → H2 l = some (.lst (xs ++ [v])) → Dp K F2 v d → D'.nx σ H2) :
    tDrop (tBM K "list" rAppend (tVar i) (tCons te tNil)) D' σ H := by
  refine ⟨.ref l, hv, .inl ⟨rfl, xs, sq_of hl⟩, h F H (Ex.refl F) (Ex.refl H) g.fh _ fun v F2 H2 s hd => ?_⟩
  refine ⟨l, xs, v, rfl, rfl, s.hx l _ hl, sz_lt hz, ?_⟩
  have f2 : F2 l = none := (s.old l (by rw [hl]; exact fun z => nomatch z)).trans fl
  refine k v F2 _ ((g.trans s).mut hl0 f2) s.fx s.old (fun p o hp ho => ?_) upd_same hd
  rw [upd_ne hp]
  exact s.hx p o ho
/-- xs[i] = e, xs one's own list -/
theorem s_setL {l : Addr} {xs : List V} {n : Nat} {tb : TE} (g : Gr F0 H0 F H) (hl0 : H0 l = none) (fl : F l = none) (hl : H l = some (.lst xs)) (hv : σ[i]? = some (some (.ref l))) (h : EvD K te σ F H d) (hb : EvD K tb σ F H (.int (n : Int))) (hn : n < xs.length)
    (k : ∀ v F2 H2, Gr F0 H0 F2 H2 → Ex F F2 → (∀ p, H p ≠ none → F2 p = F p) → (∀ p o, p ≠ l → H p = some o → H2 p = some o) → H2 l = some (.lst (xs.set n v)) → Dp K F2 v d → D'.nx σ H2) :
    tAsg te (gSub (tVar i) tb rSetL) D' σ H := by
  refine h F H (Ex.refl F) (Ex.refl H) g.fh _ fun v F2 H2 s hd => ?_
  refine ⟨.ref l, hv, hb F2 H2 s.fx s.hx s.fh _ fun w F3 H3 s3 hw => ?_⟩
  cases hw
  have f2 : F2 l = none := (s.old l (by rw [hl]; exact fun z => nomatch z)).trans fl
  refine ⟨l, xs, _, n, rfl, rfl, s3.hx l _ (s.hx l _ hl), ixN_nat hn, ?_⟩
  refine k v F2 _ (((g.trans s).grow s3.hx).mut hl0 f2) s.fx s.old (fun p o hp ho => ?_) upd_same hd
  rw [upd_ne hp]
  exact s3.hx p o (s.hx p o ho)
/-! behind which more stands -/
theorem q_set (g : Gr F0 H0 F H) (h : EvD K te σ F H d) (k : ∀ v F2 H2, Gr F0 H0 F2 H2 → Gr F H F2 H2 → Dp K F2 v d → tz D' (σ.set i (some v)) H2) : tSeq (tAsg te (gName i)) tz D' σ H := s_set (D' := { D' with nx := tz D' }) g h k
theorem q_setV (g : Gr F0 H0 F H) (h : EvD K te σ F H d) (hs : scV d = some v) (k : ∀ H2, Gr F0 H0 F H2 → Ex H H2 → tz D' (σ.set i (some v)) H2) : tSeq (tAsg te (gName i)) tz D' σ H := s_setV (D' := { D' with nx := tz D' }) g h hs k
theorem q_setN (g : Gr F0 H0 F H) (h : EvN K te σ F H ds) (k : ∀ p vs F2 H2, Gr F0 H0 F2 H2 → Gr F H F2 H2 → H p = none → F2 p = none → H2 p = some (.lst vs) → DpAll K F2 vs ds → tz D' (σ.set i (some (.ref p))) H2) : tSeq (tAsg te (gName i)) tz D' σ H := s_setN (D' := { D' with nx := tz D' }) g h k
theorem q_drop (g : Gr F0 H0 F H) (h : EvD K te σ F H d) (k : ∀ H2, Gr F0 H0 F H2 → Ex H H2 → tz D' σ H2) : tSeq (tDrop te) tz D' σ H := s_drop (D' := { D' with nx := tz D' }) g h k
theorem q_if {b : Bool} (g : Gr F0 H0 F H) (h : EvB t σ F H b) (h1 : b = true → ∀ H2, Gr F0 H0 F H2 → Ex H H2 → tu { D' with nx := tz D' } σ H2) (h2 : b = false → ∀ H2, Gr F0 H0 F H2 → Ex H H2 → tw { D' with nx := tz D' } σ H2) : tSeq (tIfS t tu tw) tz D' σ H := s_if (D' := { D' with nx := tz D' }) g h h1 h2
/-- an if without else -/
theorem q_when {b : Bool} (g : Gr F0 H0 F H) (h : EvB t σ F H b) (h1 : b = true → ∀ H2, Gr F0 H0 F H2 → Ex H H2 → tu { D' with nx := tz D' } σ H2) (h2 : b = false → ∀ H2, Gr F0 H0 F H2 → Ex H H2 → tz D' σ H2) : tSeq (tIfS t tu tNext) tz D' σ H := s_if (D' := { D' with nx := tz D' }) g h h1 h2
theorem s_when {b : Bool} (g : Gr F0 H0 F H) (h : EvB t σ F H b) (h1 : b = true → ∀ H2, Gr F0 H0 F H2 → Ex H H2 → tu D' σ H2) (h2 : b = false → ∀ H2, Gr F0 H0 F H2 → Ex H H2 → D'.nx σ H2) : tIfS t tu tNext D' σ H := s_if g h h1 h2
/-- if c: x = e, where x is a plain value behind it either way -/
theorem q_ifSet {b : Bool} (g : Gr F0 H0 F H) (h : EvB t σ F H b) (h1 : b = true → EvD K te σ F H d) (h2 : b = false → σ.set i (some v) = σ) (hs : scV d = some v) (k : ∀ H2, Gr F0 H0 F H2 → Ex H H2 → tz D' (σ.set i (some v)) H2) : tSeq (tIfS t (tAsg te (gName i)) tNext) tz D' σ H :=
  q_when g h (fun hb H2 g2 e2 => s_setV (D' := { D' with nx := tz D' }) g2 ((h1 hb).up (Ex.refl F) e2) hs fun H3 g3 e3 => k H3 g3 (e2.trans e3)) fun hb H2 g2 e2 => by
    have z := k H2 g2 e2
    rw [h2 hb] at z
    exact z
theorem q_aug {f : Int → Int → Int} {a b : Int} (g : Gr F0 H0 F H) (hx : σ[i]? = some (some (.int a))) (h : EvD K te σ F H (.int b)) (k : ∀ H2, Gr F0 H0 F H2 → Ex H H2 → tz D' (σ.set i (some (.int (f a b)))) H2) : tSeq (tAug i te (ipI f)) tz D' σ H := s_aug (D' := { D' with nx := tz D' }) g hx h k
theorem q_app {l : Addr} {xs : List V} (g : Gr F0 H0 F H) (hl0 : H0 l = none) (fl : F l = none) (hl : H l = some (.lst xs)) (hv : σ[i]? = some (some (.ref l))) (hz : xs.length < 100000) (h : EvD K te σ F H d)
    (k : ∀ v F2 H2, Gr F0 H0 F2 H2 → Ex F F2 → (∀ p, H p ≠ none → F2 p = F p) → (∀ p o, p ≠ l → H p = some o → H2 p = some o) → H2 l = some (.lst (xs ++ [v])) → Dp K F2 v d → tz D' σ H2) :
    tSeq (tDrop (tBM K "list" rAppend (tVar i) (tCons te tNil))) tz D' σ H := s_app (D' := { D' with nx := tz D' }) g hl0 fl hl hv hz h k
theorem q_setL {l : Addr} {xs : List V} {n : Nat} {tb : TE} (g : Gr F0 H0 F H) (hl0 : H0 l = none) (fl : F l = none) (hl : H l = some (.lst xs)) (hv : σ[i]? = some (some (.ref l))) (h : EvD K te σ F H d) (hb : EvD K tb σ F H (.int (n : Int))) (hn : n < xs.length)
    (k : ∀ v F2 H2, Gr F0 H0 F2 H2 → Ex F F2 → (∀ p, H p ≠ none → F2 p = F p) → (∀ p o, p ≠ l → H p = some o → H2 p = some o) → H2 l = some (.lst (xs.set n v)) → Dp K F2 v d → tz D' σ H2) :
    tSeq (tAsg te (gSub (tVar i) tb rSetL)) tz D' σ H := s_setL (D' := { D' with nx := tz D' }) g hl0 fl hl hv h hb hn k
/-! ### what is walked -/
/-- an iterator that gives the data ds, one a turn -/
structure Wk (K : Fg) (J : It) (F : Hp) (ds : List D) : Prop where
  go : ∀ H i, Ex F H → i < ds.length → J.go i H
  yld : ∀ F1 H i x H', i < ds.length → Ex F F1 → Ex F1 H → J.yld i H x H' → ∃ F2 d, Gr F1 H F2 H' ∧ ds[i]? = some d ∧ Dp K F2 x d
  stop : ∀ H i, Ex F H → ds.length ≤ i → J.stop i H
def EvW (K : Fg) (wi : TI) (σ : L2.St) (F H : Hp) (ds : List D) : Prop := ∀ F1 H1, Ex F F1 → Ex H H1 → Ex F1 H1 → ∀ R : It → Hp → Prop, (∀ J F2 H2, Gr F1 H1 F2 H2 → Wk K J F2 ds → R J H2) → wi σ H1 R
theorem get_lt {α : Type} {xs : List α} {i : Nat} (h : i < xs.length) : ∃ x, xs[i]? = some x := ⟨_, List.getElem?_eq_getElem h⟩
theorem w_list (h : EvD K tl σ F H (.list ds)) : EvW K (iList K tl) σ F H ds := fun F1 H1 e1 e2 e3 R q => h F1 H1 e1 e2 e3 _ fun v F2 H2 g hv => by
  cases hv with
  | @lst a xs _ hs ha =>
    have hl := ha.length
    refine ⟨a, rfl, ⟨xs, ex_l g.fh hs⟩, q _ F2 H2 g ⟨fun H i e hi => ?_, fun F3 H i x H' hi e e' hy => ?_, fun H i e hi => ⟨xs, ex_l e hs, by rw [hl]; exact hi⟩⟩⟩
    · obtain ⟨x, hx⟩ := get_lt (xs := xs) (by rw [hl]; exact hi)
      exact ⟨xs, x, ex_l e hs, hx⟩
    · obtain ⟨rfl, hy⟩ := hy
      obtain ⟨d, h1, h2⟩ := ha.getV (hy xs (ex_l (e.trans e') hs))
      exact ⟨F3, d, Gr.refl e', h1, h2.up e⟩
theorem w_tup (h : EvD K tl σ F H (.tuple ds)) : EvW K (iTup K tl) σ F H ds := fun F1 H1 e1 e2 e3 R q => h F1 H1 e1 e2 e3 _ fun v F2 H2 g hv => by
  cases hv with
  | @tup a xs _ hs ha =>
    have hl := ha.length
    refine ⟨a, rfl, ⟨xs, ex_t g.fh hs⟩, q _ F2 H2 g ⟨fun H i e hi => ?_, fun F3 H i x H' hi e e' hy => ?_, fun H i e hi => ⟨xs, ex_t e hs, by rw [hl]; exact hi⟩⟩⟩
    · obtain ⟨x, hx⟩ := get_lt (xs := xs) (by rw [hl]; exact hi)
      exact ⟨xs, x, ex_t e hs, hx⟩
    · obtain ⟨rfl, hy⟩ := hy
      obtain ⟨d, h1, h2⟩ := ha.getV (hy xs (ex_t (e.trans e') hs))
      exact ⟨F3, d, Gr.refl e', h1, h2.up e⟩
def signD (c : Nat) : D := .str ⟨#[c]⟩
theorem w_str {z : Str} (h : EvD K tl σ F H (.str z)) : EvW K (iStr tl) σ F H (z.cps.toList.map signD) := fun F1 H1 e1 e2 e3 R q => h F1 H1 e1 e2 e3 _ fun v F2 H2 g hv => by
  cases hv
  have hl : (z.cps.toList.map signD).length = z.cps.size := by simp
  refine ⟨z, rfl, q _ F2 H2 g ⟨fun H i e hi => by rw [hl] at hi; exact hi, fun F3 H i x H' hi e e' hy => ?_, fun H i e hi => by rw [hl] at hi; exact hi⟩⟩
  obtain ⟨rfl, c, hc, rfl⟩ := hy
  refine ⟨F3, signD c, Gr.refl e', ?_, .str _⟩
  rw [List.getElem?_map, Array.getElem?_toList, hc]
  rfl
def iAny (K : Fg) (tl : TE) : TI := fun σ H R => iList K tl σ H R ∨ iTup K tl σ H R ∨ iStr tl σ H R
theorem pi_any {X : Cx} {K : Fg} {tg l : Expr} {tl : TE} (hl : PE X l tl) (hK : X.K = K := by rfl) : PI X tg l (iAny K tl) := hK ▸ ⟨fun pins s σ H R I h => by
  rcases h with h | h | h
  · exact (pi_list hl).run pins s σ H R I h
  · exact (pi_tup hl).run pins s σ H R I h
  · exact (pi_str hl).run pins s σ H R I h⟩
theorem w_anyL (h : EvD K tl σ F H (.list ds)) : EvW K (iAny K tl) σ F H ds := fun F1 H1 e1 e2 e3 R q => .inl (w_list h F1 H1 e1 e2 e3 R q)
theorem w_anyT (h : EvD K tl σ F H (.tuple ds)) : EvW K (iAny K tl) σ F H ds := fun F1 H1 e1 e2 e3 R q => .inr (.inl (w_tup h F1 H1 e1 e2 e3 R q))
theorem w_anyS {z : Str} (h : EvD K tl σ F H (.str z)) : EvW K (iAny K tl) σ F H (z.cps.toList.map signD) := fun F1 H1 e1 e2 e3 R q => .inr (.inr (w_str h F1 H1 e1 e2 e3 R q))
def rangeD (lo : Int) (n : Nat) : List D := (List.range n).map fun (i : Nat) => .int (lo + (i : Int))
theorem rangeD_len (lo : Int) (n : Nat) : (rangeD lo n).length = n := by unfold rangeD; simp
theorem rangeD_get {lo : Int} {n i : Nat} {d : D} (h : (rangeD lo n)[i]? = some d) : i < n ∧ d = .int (lo + (i : Int)) := by
  have hi : i < n := by
    have := (List.getElem?_eq_some_iff.mp h).1
    rwa [rangeD_len] at this
  refine ⟨hi, ?_⟩
  unfold rangeD at h
  rw [List.getElem?_map, List.getElem?_range hi] at h
  exact (Option.some.inj h).symm
theorem rangeD_mem {lo : Int} {n : Nat} {d : D} (h : d ∈ rangeD lo n) : ∃ i : Nat, i < n ∧ d = .int (lo + (i : Int)) := by
  unfold rangeD at h
  obtain ⟨i, hi, e⟩ := List.mem_map.mp h
  exact ⟨i, List.mem_range.mp hi, e.symm⟩
theorem wk_range {lo : Int} {n : Nat} : Wk K (Itr lo n) F (rangeD lo n) := by
  refine ⟨fun H i e hi => by rw [rangeD_len] at hi; exact hi, fun F3 H i x H' hi e e' hy => ?_, fun H i e hi => by rw [rangeD_len] at hi; exact hi⟩
  obtain ⟨rfl, rfl⟩ := hy
  rw [rangeD_len] at hi
  refine ⟨F3, .int (lo + (i : Int)), Gr.refl e', ?_, .int _⟩
  unfold rangeD
  rw [List.getElem?_map, List.getElem?_range hi]
  rfl
theorem w_range1 {ta : TA} {n : Int} (h : EvDs K ta σ F H [.int n]) (h1 : -(2 ^ 62) ≤ n) (h2 : n < 2 ^ 62) : EvW K (iRng1 ta) σ F H (rangeD 0 n.toNat) := fun F1 H1 e1 e2 e3 R q => h F1 H1 e1 e2 e3 _ fun vs F2 H2 g hv => by
  obtain ⟨w, rfl, hw⟩ := dps1 hv
  cases hw
  exact ⟨n, rfl, h1, h2, q _ F2 H2 g wk_range⟩
theorem w_range2 {ta : TA} {lo n : Int} (h : EvDs K ta σ F H [.int lo, .int n]) (h0 : -(2 ^ 62) ≤ lo ∧ lo < 2 ^ 62 ∧ -(2 ^ 62) ≤ n ∧ n < 2 ^ 62) : EvW K (iRng2 ta) σ F H (rangeD lo (n - lo).toNat) := fun F1 H1 e1 e2 e3 R q => h F1 H1 e1 e2 e3 _ fun vs F2 H2 g hv => by
  obtain ⟨v, w, rfl, hv, hw⟩ := dps2 hv
  cases hv
  cases hw
  exact ⟨lo, n, rfl, h0, q _ F2 H2 g wk_range⟩
/-! ### for -/
/-- what stands between two turns -/
def Btw (F0 H0 Fb : Hp) (P : L2.St → Hp → Hp → Prop) (σ : L2.St) (H : Hp) : Prop := ∃ F, Gr F0 H0 F H ∧ Ex Fb F ∧ P σ F H
theorem s_for (g : Gr F0 H0 F H) (h : EvW K wi σ F H ds)
    (k : ∀ F2 H2, Gr F0 H0 F2 H2 → Gr F H F2 H2 → ∃ P : Nat → L2.St → Hp → Hp → Prop, P 0 σ F2 H2 ∧
      (∀ i d σ' F' H', ds[i]? = some d → Gr F0 H0 F' H' → Ex F2 F' → P i σ' F' H' → ∀ x F3 H3, Gr F' H' F3 H3 → Dp K F3 x d →
        gt x σ' H3 fun σ2 H4 => tu { D' with nx := Btw F0 H0 F2 (P (i + 1)), ct := Btw F0 H0 F2 (P (i + 1)), bk := D'.nx } σ2 H4) ∧
      (∀ σ' F' H', Gr F0 H0 F' H' → Ex F2 F' → P ds.length σ' F' H' → D'.nx σ' H')) : tFor wi gt tu D' σ H :=
  h F H (Ex.refl F) (Ex.refl H) g.fh _ fun J F2 H2 s wk => by
    obtain ⟨P, p0, hs, hd⟩ := k F2 H2 (g.trans s) s
    refine ⟨fun i m σ' H' => m = ds.length - i ∧ i ≤ ds.length ∧ Btw F0 H0 F2 (P i) σ' H', ⟨ds.length, rfl, Nat.zero_le _, F2, g.trans s, Ex.refl _, p0⟩, ?_⟩
    rintro i m σ' H' ⟨rfl, hi, F', g', e', p⟩
    by_cases hlt : i < ds.length
    · refine .inr ⟨wk.go H' i (e'.trans g'.fh) hlt, Btw F0 H0 F2 (P (i + 1)), fun σ2 H3 p' => ⟨ds.length - (i + 1), by omega, rfl, hlt, p'⟩, fun x H3 y => ?_⟩
      obtain ⟨F3, d, g3, hd3, hx⟩ := wk.yld F' H' i x H3 hlt e' g'.fh y
      exact hs i d σ' F' H' hd3 g' e' p x F3 H3 g3 hx
    · have e : i = ds.length := by omega
      subst e
      exact .inl ⟨wk.stop H' _ (e'.trans g'.fh) (Nat.le_refl _), hd σ' F' H' g' e' p⟩
theorem q_for (g : Gr F0 H0 F H) (h : EvW K wi σ F H ds)
    (k : ∀ F2 H2, Gr F0 H0 F2 H2 → Gr F H F2 H2 → ∃ P : Nat → L2.St → Hp → Hp → Prop, P 0 σ F2 H2 ∧
      (∀ i d σ' F' H', ds[i]? = some d → Gr F0 H0 F' H' → Ex F2 F' → P i σ' F' H' → ∀ x F3 H3, Gr F' H' F3 H3 → Dp K F3 x d →
        gt x σ' H3 fun σ2 H4 => tu { D' with nx := Btw F0 H0 F2 (P (i + 1)), ct := Btw F0 H0 F2 (P (i + 1)), bk := tz D' } σ2 H4) ∧
      (∀ σ' F' H', Gr F0 H0 F' H' → Ex F2 F' → P ds.length σ' F' H' → tz D' σ' H')) : tSeq (tFor wi gt tu) tz D' σ H := s_for (D' := { D' with nx := tz D' }) g h k
/-- while: W falls; between two turns P -/
theorem s_while (g : Gr F0 H0 F H) (P : Nat → L2.St → Hp → Hp → Prop) (m0 : Nat) (p0 : P m0 σ F H)
    (hs : ∀ m σ' F' H', Gr F0 H0 F' H' → Ex F F' → P m σ' F' H' → ∃ b, EvB t σ' F' H' b ∧
      (b = true → ∀ H1, Gr F0 H0 F' H1 → Ex H' H1 → tu { D' with nx := fun σ2 H2 => ∃ m', m' < m ∧ Btw F0 H0 F (P m') σ2 H2, ct := fun σ2 H2 => ∃ m', m' < m ∧ Btw F0 H0 F (P m') σ2 H2, bk := D'.nx } σ' H1) ∧
      (b = false → ∀ H1, Gr F0 H0 F' H1 → Ex H' H1 → D'.nx σ' H1)) : tWhile t tu D' σ H :=
  ⟨fun m σ' H' => Btw F0 H0 F (P m) σ' H', ⟨m0, F, g, Ex.refl F, p0⟩, fun m σ' H' ⟨F', g', e', p⟩ => by
    obtain ⟨b, hb, h1, h2⟩ := hs m σ' F' H' g' e' p
    refine hb F' H' (Ex.refl _) (Ex.refl _) g'.fh _ fun H1 e => ?_
    cases b with
    | true => exact ⟨_, fun σ2 H2 n => n, h1 rfl H1 (g'.grow e) e⟩
    | false => exact h2 rfl H1 (g'.grow e) e⟩
theorem q_while (g : Gr F0 H0 F H) (P : Nat → L2.St → Hp → Hp → Prop) (m0 : Nat) (p0 : P m0 σ F H)
    (hs : ∀ m σ' F' H', Gr F0 H0 F' H' → Ex F F' → P m σ' F' H' → ∃ b, EvB t σ' F' H' b ∧
      (b = true → ∀ H1, Gr F0 H0 F' H1 → Ex H' H1 → tu { D' with nx := fun σ2 H2 => ∃ m', m' < m ∧ Btw F0 H0 F (P m') σ2 H2, ct := fun σ2 H2 => ∃ m', m' < m ∧ Btw F0 H0 F (P m') σ2 H2, bk := tz D' } σ' H1) ∧
      (b = false → ∀ H1, Gr F0 H0 F' H1 → Ex H' H1 → tz D' σ' H1)) : tSeq (tWhile t tu) tz D' σ H := s_while (D' := { D' with nx := tz D' }) g P m0 p0 hs
/-- the target a name -/
theorem s_forN (g : Gr F0 H0 F H) (h : EvW K wi σ F H ds)
    (k : ∀ F2 H2, Gr F0 H0 F2 H2 → Gr F H F2 H2 → ∃ P : Nat → L2.St → Hp → Hp → Prop, P 0 σ F2 H2 ∧
      (∀ i d σ' F' H', ds[i]? = some d → Gr F0 H0 F' H' → Ex F2 F' → P i σ' F' H' → ∀ x F3 H3, Gr F' H' F3 H3 → Dp K F3 x d →
        tu { D' with nx := Btw F0 H0 F2 (P (i + 1)), ct := Btw F0 H0 F2 (P (i + 1)), bk := D'.nx } (σ'.set j (some x)) H3) ∧
      (∀ σ' F' H', Gr F0 H0 F' H' → Ex F2 F' → P ds.length σ' F' H' → D'.nx σ' H')) : tFor wi (gName j) tu D' σ H := s_for (K := K) g h k
theorem q_forN (g : Gr F0 H0 F H) (h : EvW K wi σ F H ds)
    (k : ∀ F2 H2, Gr F0 H0 F2 H2 → Gr F H F2 H2 → ∃ P : Nat → L2.St → Hp → Hp → Prop, P 0 σ F2 H2 ∧
      (∀ i d σ' F' H', ds[i]? = some d → Gr F0 H0 F' H' → Ex F2 F' → P i σ' F' H' → ∀ x F3 H3, Gr F' H' F3 H3 → Dp K F3 x d →
        tu { D' with nx := Btw F0 H0 F2 (P (i + 1)), ct := Btw F0 H0 F2 (P (i + 1)), bk := tz D' } (σ'.set j (some x)) H3) ∧
      (∀ σ' F' H', Gr F0 H0 F' H' → Ex F2 F' → P ds.length σ' F' H' → tz D' σ' H')) : tSeq (tFor wi (gName j) tu) tz D' σ H := s_forN (D' := { D' with nx := tz D' }) g h k
/-- over range(n): what holds between two turns, of the slots and the heap alone -/
theorem s_forR {ta : TA} {n : Int} (g : Gr F0 H0 F H) (h : EvDs K ta σ F H [.int n]) (h1 : -(2 ^ 62) ≤ n) (h2 : n < 2 ^ 62) (P : Nat → L2.St → Hp → Hp → Prop) (p0 : ∀ H2, Gr F0 H0 F H2 → Ex H H2 → P 0 σ F H2)
    (hs : ∀ (i : Nat) σ' F' H', (i : Int) < n → Gr F0 H0 F' H' → Ex F F' → P i σ' F' H' → tu { D' with nx := Btw F0 H0 F (P (i + 1)), ct := Btw F0 H0 F (P (i + 1)), bk := D'.nx } (σ'.set j (some (.int (i : Int)))) H')
    (hd : ∀ σ' F' H', Gr F0 H0 F' H' → Ex F F' → P n.toNat σ' F' H' → D'.nx σ' H') : tFor (iRng1 ta) (gName j) tu D' σ H :=
  h F H (Ex.refl F) (Ex.refl H) g.fh _ fun vs F2 H2 s hv => by
    obtain ⟨w, rfl, hw⟩ := dps1 hv
    cases hw
    refine ⟨n, rfl, h1, h2, ?_⟩
    refine ⟨fun i m σ' H' => m = n.toNat - i ∧ i ≤ n.toNat ∧ Btw F0 H0 F (P i) σ' H', ⟨n.toNat, rfl, Nat.zero_le _, F, g.grow s.hx, Ex.refl _, p0 H2 (g.grow s.hx) s.hx⟩, ?_⟩
    rintro i m σ' H' ⟨rfl, hi, F', g', e', p⟩
    by_cases hlt : i < n.toNat
    · refine .inr ⟨hlt, Btw F0 H0 F (P (i + 1)), fun σ2 H3 p' => ⟨n.toNat - (i + 1), by omega, rfl, hlt, p'⟩, fun x H3 y => ?_⟩
      obtain ⟨rfl, rfl⟩ := y
      have e0 : (0 : Int) + (i : Int) = (i : Int) := Int.zero_add _
      rw [e0]
      exact hs i σ' F' _ (by omega) g' e' p
    · have e : i = n.toNat := by omega
      subst e
      exact .inl ⟨Nat.le_refl _, hd σ' F' H' g' e' p⟩
theorem q_forR {ta : TA} {n : Int} (g : Gr F0 H0 F H) (h : EvDs K ta σ F H [.int n]) (h1 : -(2 ^ 62) ≤ n) (h2 : n < 2 ^ 62) (P : Nat → L2.St → Hp → Hp → Prop) (p0 : ∀ H2, Gr F0 H0 F H2 → Ex H H2 → P 0 σ F H2)
    (hs : ∀ (i : Nat) σ' F' H', (i : Int) < n → Gr F0 H0 F' H' → Ex F F' → P i σ' F' H' → tu { D' with nx := Btw F0 H0 F (P (i + 1)), ct := Btw F0 H0 F (P (i + 1)), bk := tz D' } (σ'.set j (some (.int (i : Int)))) H')
    (hd : ∀ σ' F' H', Gr F0 H0 F' H' → Ex F F' → P n.toNat σ' F' H' → tz D' σ' H') : tSeq (tFor (iRng1 ta) (gName j) tu) tz D' σ H := s_forR (D' := { D' with nx := tz D' }) g h h1 h2 P p0 hs hd
theorem s_forR2 {ta : TA} {lo n : Int} (g : Gr F0 H0 F H) (h : EvDs K ta σ F H [.int lo, .int n]) (h1 : -(2 ^ 62) ≤ lo ∧ lo < 2 ^ 62 ∧ -(2 ^ 62) ≤ n ∧ n < 2 ^ 62) (P : Nat → L2.St → Hp → Hp → Prop) (p0 : ∀ H2, Gr F0 H0 F H2 → Ex H H2 → P 0 σ F H2)
    (hs : ∀ (i : Nat) σ' F' H', lo + (i : Int) < n → Gr F0 H0 F' H' → Ex F F' → P i σ' F' H' → tu { D' with nx := Btw F0 H0 F (P (i + 1)), ct := Btw F0 H0 F (P (i + 1)), bk := D'.nx } (σ'.set j (some (.int (lo + (i : Int))))) H')
    (hd : ∀ σ' F' H', Gr F0 H0 F' H' → Ex F F' → P (n - lo).toNat σ' F' H' → D'.nx σ' H') : tFor (iRng2 ta) (gName j) tu D' σ H :=
  h F H (Ex.refl F) (Ex.refl H) g.fh _ fun vs F2 H2 s hv => by
    obtain ⟨u, w, rfl, hu, hw⟩ := dps2 hv
    cases hu; cases hw
    refine ⟨lo, n, rfl, h1, ?_⟩
    refine ⟨fun i m σ' H' => m = (n - lo).toNat - i ∧ i ≤ (n - lo).toNat ∧ Btw F0 H0 F (P i) σ' H', ⟨(n - lo).toNat, rfl, Nat.zero_le _, F, g.grow s.hx, Ex.refl _, p0 H2 (g.grow s.hx) s.hx⟩, ?_⟩
    rintro i m σ' H' ⟨rfl, hi, F', g', e', p⟩
    by_cases hlt : i < (n - lo).toNat
    · refine .inr ⟨hlt, Btw F0 H0 F (P (i + 1)), fun σ2 H3 p' => ⟨(n - lo).toNat - (i + 1), by omega, rfl, hlt, p'⟩, fun x H3 y => ?_⟩
      obtain ⟨rfl, rfl⟩ := y
      exact hs i σ' F' _ (by omega) g' e' p
    · have e : i = (n - lo).toNat := by omega
      subst e
      exact .inl ⟨Nat.le_refl _, hd σ' F' H' g' e' p⟩
theorem q_forR2 {ta : TA} {lo n : Int} (g : Gr F0 H0 F H) (h : EvDs K ta σ F H [.int lo, .int n]) (h1 : -(2 ^ 62) ≤ lo ∧ lo < 2 ^ 62 ∧ -(2 ^ 62) ≤ n ∧ n < 2 ^ 62) (P : Nat → L2.St → Hp → Hp → Prop) (p0 : ∀ H2, Gr F0 H0 F H2 → Ex H H2 → P 0 σ F H2)
    (hs : ∀ (i : Nat) σ' F' H', lo + (i : Int) < n → Gr F0 H0 F' H' → Ex F F' → P i σ' F' H' → tu { D' with nx := Btw F0 H0 F (P (i + 1)), ct := Btw F0 H0 F (P (i + 1)), bk := tz D' } (σ'.set j (some (.int (lo + (i : Int))))) H')
    (hd : ∀ σ' F' H', Gr F0 H0 F' H' → Ex F F' → P (n - lo).toNat σ' F' H' → tz D' σ' H') : tSeq (tFor (iRng2 ta) (gName j) tu) tz D' σ H := s_forR2 (D' := { D' with nx := tz D' }) g h h1 P p0 hs hd
/-- if c: x = e, an int behind it either way, of which something holds -/
theorem q_ifInt {b : Bool} {S : Int → Prop} (g : Gr F0 H0 F H) (h : EvB t σ F H b) (h1 : b = true → ∃ z, EvD K te σ F H (.int z) ∧ S z) (h2 : b = false → ∃ z, σ.set i (some (.int z)) = σ ∧ S z)
    (k : ∀ z H2, S z → Gr F0 H0 F H2 → Ex H H2 → tz D' (σ.set i (some (.int z))) H2) : tSeq (tIfS t (tAsg te (gName i)) tNext) tz D' σ H :=
  q_when g h (fun hb H2 g2 e2 => by
    obtain ⟨z, hz, sz⟩ := h1 hb
    exact s_setV (D' := { D' with nx := tz D' }) g2 (hz.up (Ex.refl F) e2) rfl fun H3 g3 e3 => k z H3 sz g3 (e2.trans e3)) fun hb H2 g2 e2 => by
    obtain ⟨z, hz, sz⟩ := h2 hb
    have q := k z H2 sz g2 e2
    rw [hz] at q
    exact q
/-! ### comprehensions -/
theorem n_lc {vs : List Nat} (h : EvW K wi σ F H ds) (hz : ds.length ≤ 50000) (f : D → Bool) (e : D → D) (hw : ∀ x, wipe ((wipe σ vs).set j (some x)) vs = wipe σ vs)
    (ht : ∀ d x F' H', d ∈ ds → Ex F F' → Ex H H' → Ex F' H' → Dp K F' x d → EvB tt ((wipe σ vs).set j (some x)) F' H' (f d))
    (he : ∀ d x F' H', d ∈ ds → f d = true → Ex F F' → Ex H H' → Ex F' H' → Dp K F' x d → EvD K te ((wipe σ vs).set j (some x)) F' H' (e d)) :
    EvN K (tLc wi (gName j) tt te vs) σ F H ((ds.filter f).map e) := fun F1 H1 e1 e2 e3 Q q => h F1 H1 e1 e2 e3 _ fun J F2 H2 g2 wk Dl hD => by
  have f2 : F2 Dl = none := fresh_back g2.fh hD
  refine ⟨fun i m H' => m = ds.length - i ∧ i ≤ ds.length ∧ ∃ F' ws, Gr F2 H2 F' H' ∧ F' Dl = none ∧ H' Dl = some (.lst ws) ∧ DpAll K F' ws (((ds.take i).filter f).map e),
    ⟨ds.length, rfl, Nat.zero_le _, F2, [], Gr.own g2.fh hD, f2, upd_same, .nil⟩, ?_⟩
  rintro i m H' ⟨rfl, hi, F', ws, g', fl, hl, ha⟩
  by_cases hlt : i < ds.length
  · refine .inr ⟨wk.go H' i (g'.fx.trans g'.fh) hlt, fun H'' => ∃ F'' ws', Gr F2 H2 F'' H'' ∧ F'' Dl = none ∧ H'' Dl = some (.lst ws') ∧ DpAll K F'' ws' (((ds.take (i + 1)).filter f).map e), fun H'' p' => ⟨ds.length - (i + 1), by omega, rfl, hlt, p'⟩, fun x H3 y => ?_⟩
    obtain ⟨F3, d, g3, hd3, hx⟩ := wk.yld F' H' i x H3 hlt g'.fx g'.fh y
    have hm : d ∈ ds := List.mem_of_getElem? hd3
    have hne : H' Dl ≠ none := by rw [hl]; exact fun z => nomatch z
    have f3 : F3 Dl = none := (g3.old Dl hne).trans fl
    have l3 := g3.hx Dl _ hl
    have x1 : Ex F F3 := ((e1.trans g2.fx).trans g'.fx).trans g3.fx
    have x2 : Ex H H3 := ((e2.trans g2.hx).trans g'.hx).trans g3.hx
    have et : ds.take (i + 1) = ds.take i ++ [d] := by rw [List.take_add_one, hd3]; rfl
    refine ⟨hw x, ht d x F3 H3 hm x1 x2 g3.fh hx F3 H3 (Ex.refl _) (Ex.refl _) g3.fh _ fun H4 e4 => ?_⟩
    have g4 : Gr F2 H2 F3 H4 := (g'.trans g3).grow e4
    cases hf : f d with
    | true =>
      show te _ H4 _
      refine he d x F3 H4 hm hf x1 (x2.trans e4) g4.fh hx F3 H4 (Ex.refl _) (Ex.refl _) g4.fh _ fun v F5 H5 g5 hv => ?_
      have l4 := e4 Dl _ l3
      have l5 := g5.hx Dl _ l4
      have f5 : F5 Dl = none := (g5.old Dl (by rw [l4]; exact fun z => nomatch z)).trans f3
      have hlen : ws.length ≤ i := by
        rw [ha.length, List.length_map]
        exact Nat.le_trans (List.length_filter_le _ _) (by rw [List.length_take]; omega)
      refine ⟨ws, l5, sz_lt (by omega), F5, ws ++ [v], (g4.trans g5).mut hD f5, f5, upd_same, ?_⟩
      rw [et, List.filter_append, List.map_append]
      have : [d].filter f = [d] := by simp [hf]
      rw [this]
      exact (ha.up (g3.fx.trans g5.fx)).append (.cons hv .nil)
    | false =>
      show ∃ F'' ws', _
      refine ⟨F3, ws, g4, f3, e4 Dl _ l3, ?_⟩
      rw [et, List.filter_append, List.map_append]
      have : [d].filter f = [] := by simp [hf]
      rw [this, List.map_nil, List.append_nil]
      exact ha.up g3.fx
  · have ei : i = ds.length := by omega
    subst ei
    rw [List.take_length] at ha
    refine .inl ⟨wk.stop H' _ (g'.fx.trans g'.fh) (Nat.le_refl _), q Dl ws F' H' (g2.trans g') (g2.back hD) fl hl ha⟩
theorem filter_all {α : Type} (xs : List α) : xs.filter (fun _ => true) = xs := by induction xs with
  | nil => rfl
  | cons x r ih => simp [List.filter_cons]
/-- without if -/
theorem n_lc1 {vs : List Nat} (h : EvW K wi σ F H ds) (hz : ds.length ≤ 50000) (e : D → D) (hw : ∀ x, wipe ((wipe σ vs).set j (some x)) vs = wipe σ vs)
    (he : ∀ d x F' H', d ∈ ds → Ex F F' → Ex H H' → Ex F' H' → Dp K F' x d → EvD K te ((wipe σ vs).set j (some x)) F' H' (e d)) :
    EvN K (tLc wi (gName j) tYes te vs) σ F H (ds.map e) :=
  (n_lc h hz (fun _ => true) e hw (fun _ _ _ _ _ _ _ _ _ => b_yes) (fun d x F' H' hm _ => he d x F' H' hm)).to (by rw [filter_all])
end
section
variable {P : Program} {w : World} {K : Fg} {mg : Str → Option Value} {base : Heap} {k : Nat} {x : Str} {st : Stmt} {N ps : List Str}
theorem Df.dkN {R : List D → List D → Prop} (D0 : Df K mg x st ps) (S : FnScope N ps (defScope st)) (hl : ∀ ds r, R ds r → ds.length = ps.length)
    (hb : ∀ (f : Addr) (cdv : Value) (A : Around) (outer : List Env) (s : Shared) (H : Hp) (E : XK), Room k (A.deeper (envOfC x (defScope st) s.heap.objs.size f cdv)) →
      ∃ t, PSs (cxOf CX0 P w K mg base N x (defScope st) f cdv A outer s H E).nox (defBody st) t ∧
        ∀ vs F0 ds es Q, Ex F0 H → DpAll K F0 vs ds → R ds es → AnsN K F0 H es Q → t { nx := fun _ H' => Q .non H', rt := Q } (start N vs) H) : Dk P w K mg base (k + 1) x ps (spN K R) := by
  refine D0.dkS S (fun vs H Q E ⟨F, ds, es, _, ha, hr, _⟩ => by rw [ha.length]; exact hl ds es hr) fun f cdv A outer s H E hr => ?_
  obtain ⟨t, h1, h2⟩ := hb f cdv A outer s H E hr
  exact ⟨t, h1, fun vs Q ⟨F0, ds, r, fh, ha, hR, q⟩ => h2 vs F0 ds r Q fh ha hR q⟩
end
end Ly
/-! LyD: methods of texts and lists, more built-ins. -/
namespace Ly
open PySem L2 Evl PyProof.Rows
section
variable {X : Cx} {K : Fg} {o e : Expr} {es : List Expr} {to : TE} {t : TA} {name : Str} {apos cpos : Pos} {T id : String} {r : V → List V → Hp → VK → Prop}
theorem bm0 (pa : PlainAttrs T) (slot : Slot T name id) (hty : typeOf (.builtin id) = pure (.type "method_descriptor")) (hm : MtR X id r) (ho : PE X o to) (hK : X.K = K := by rfl)
    (hbase : attributeBase o name X.env (eval o X.env) = eval o X.env := by rfl) (hline : (apos.endLine == cpos.line) = true := by rfl) : PE X (.Call (.Attribute o name apos) [] [] cpos) (tBM0 K T r to) := by
  subst hK
  exact pe_bm0 pa slot hty hm ho hbase hline
theorem bm (pa : PlainAttrs T) (slot : Slot T name id) (hty : typeOf (.builtin id) = pure (.type "method_descriptor")) (hm : MtR X id r) (ho : PE X o to) (ha : PA X (e :: es) t) (hK : X.K = K := by rfl)
    (hbase : attributeBase o name X.env (eval o X.env) = eval o X.env := by rfl)
    (hfew : ((backTo cpos (starEach (e :: es) X.env)).all (fun x => !x.1) && (backToKw cpos (keywordEach [] X.env)).all (fun x => x.1.isSome)
      && decide ((e :: es).length + ([] : List Keyword).length + (if ([] : List Keyword).isEmpty then 0 else 1) < 30)) = true := by rfl)
    (hline : (apos.endLine == cpos.line) = true := by rfl) (hs : starEach (e :: es) X.env = (false, eval e X.env) :: starEach es X.env := by rfl) (hplain : (backTo cpos (starEach es X.env)).any (·.1) = false := by rfl) :
    PE X (.Call (.Attribute o name apos) (e :: es) [] cpos) (tBM K T r to t) := by
  subst hK
  exact pe_bm pa slot hty hm ho ha hbase hfew hline hs hplain
end
/-! ### methods of texts -/
inductive IndexD : D → List D → D → Prop
  | mk (a b : Str) (i : Nat) (rest : List Nat) (h : Builtin.Str.occurrences a b 0 a.length 1 = i :: rest) : IndexD (.str a) [.str b] (.int (i : Int))
inductive FindD : D → List D → D → Prop
  | mk (a b : Str) : FindD (.str a) [.str b] (.int (match Builtin.Str.occurrences a b 0 a.length 1 with | i :: _ => (i : Int) | [] => -1))
inductive JoinD : D → List D → D → Prop
  | list (a : Str) (ys : List Str) (h : (ys.map (·.length)).sum + ys.length * a.length ≤ 16777216) : JoinD (.str a) [.list (ys.map PyData.str)] (.str (Txt.join a ys))
section
variable {K : Fg} {X : Cx} {σ : L2.St} {F H : Hp} {to : TE} {t : TA} {ds : List D} {r : D} {z : Str}
theorem mt_of {id : String} {rr : V → List V → Hp → VK → Prop} {R : D → List D → D → Prop} (h : MtR X id rr)
    (hr : ∀ F H x xs d ds z Q, Ex F H → Dp X.K F x d → DpAll X.K F xs ds → R d ds z → Ans X.K F H z Q → rr x xs H Q) (hK : X.K = K := by rfl) : MtR X id (rDm K R) := by
  subst hK
  exact fun pins s σ H x xs v us Q I rx rs ⟨F, d, ds, z, fh, hx, hxs, hR, q⟩ => h pins s σ H x xs v us Q I rx rs (hr F H x xs d ds z Q fh hx hxs hR q)
theorem mIndex (hK : X.K = K := by rfl) : MtR X "str.index" (rDm K IndexD) := mt_of mt_sindex (fun F H x xs d ds z Q fh hx hxs hR q => by
  obtain ⟨a, b, i, rest, h⟩ := hR
  obtain ⟨v, rfl, hv⟩ := dps1 hxs
  cases hx; cases hv
  exact ⟨a, b, i, rest, rfl, rfl, h, q.sc fh rfl⟩) hK
theorem mFind (hK : X.K = K := by rfl) : MtR X "str.find" (rDm K FindD) := mt_of mt_find (fun F H x xs d ds z Q fh hx hxs hR q => by
  obtain ⟨a, b⟩ := hR
  obtain ⟨v, rfl, hv⟩ := dps1 hxs
  cases hx; cases hv
  exact ⟨a, b, rfl, rfl, q.sc fh rfl⟩) hK
theorem mJoin (hK : X.K = K := by rfl) : MtR X "str.join" (rDm K JoinD) := mt_of mt_join (fun F H x xs d ds z Q fh hx hxs hR q => by
  obtain ⟨a, ys, h⟩ := hR
  obtain ⟨v, rfl, hv⟩ := dps1 hxs
  cases hx
  cases hv with
  | lst s1 a1 =>
    have e := dps_strs_inv ys a1
    subst e
    exact ⟨a, _, ys, rfl, rfl, .inl (ex_l fh s1), h, q.sc fh rfl⟩) hK
theorem d_bm {R : D → List D → D → Prop} (ho : EvD K to σ F H (.str z)) (ha : EvDs K t σ F H ds) (hr : R (.str z) ds r) : EvD K (tBM K "str" (rDm K R) to t) σ F H r := fun F1 H1 e1 e2 e3 Q q =>
  ho F1 H1 e1 e2 e3 _ fun x F2 H2 g2 hx => ⟨tyV_str hx, ha F2 H2 (e1.trans g2.fx) (e2.trans g2.hx) g2.fh _ fun xs F3 H3 g3 hxs => ⟨F3, .str z, ds, r, g3.fh, hx.up g3.fx, hxs, hr, fun v F4 H4 g4 hv => q v F4 H4 ((g2.trans g3).trans g4) hv⟩⟩
end
/-! ### more calls -/
section
variable {X : Cx} {K : Fg}
theorem jDivmod (hK : X.K = K := by rfl) : CallR X (.builtin "divmod") (rDn K DivmodD) := by
  subst hK
  refine cn_of call_divmod fun F H xs ds z Q fh hx hR q => ?_
  cases hR with
  | int i j h =>
    obtain ⟨v, w, rfl, hv, hw⟩ := dps2 hx
    cases hv; cases hw
    exact ⟨i, j, rfl, h, fun p hp => q.tup fh (.cons (.int _) (.cons (.int _) .nil)) hp⟩
theorem jAll (hc : X.calm = true) (hK : X.K = K := by rfl) : CallR X (.builtin "all") (rDn K AllD) := by
  subst hK
  refine cn_of (cr_all hc) fun F H xs ds z Q fh hx hR q => ?_
  cases hR with
  | list bs =>
    obtain ⟨v, rfl, hv⟩ := dps1 hx
    cases hv with
    | lst s1 a1 =>
      have e := dps_bools_inv bs a1
      subst e
      exact ⟨_, bs, rfl, ex_l fh s1, q.sc fh rfl⟩
theorem jAny (hc : X.calm = true) (hK : X.K = K := by rfl) : CallR X (.builtin "any") (rDn K AnyD) := by
  subst hK
  refine cn_of (cr_any hc) fun F H xs ds z Q fh hx hR q => ?_
  cases hR with
  | list bs =>
    obtain ⟨v, rfl, hv⟩ := dps1 hx
    cases hv with
    | lst s1 a1 =>
      have e := dps_bools_inv bs a1
      subst e
      exact ⟨_, bs, rfl, ex_l fh s1, q.sc fh rfl⟩
theorem jSum (hc : X.calm = true) (hK : X.K = K := by rfl) : CallR X (.builtin "sum") (rDn K SumD) := by
  subst hK
  refine cn_of (cr_sum hc) fun F H xs ds z Q fh hx hR q => ?_
  cases hR with
  | list ns =>
    obtain ⟨v, rfl, hv⟩ := dps1 hx
    cases hv with
    | lst s1 a1 =>
      have e := dps_ints_inv ns a1
      subst e
      exact ⟨_, ns, rfl, ex_l fh s1, q.sc fh rfl⟩
end
/-! ### texts by their signs -/
theorem str_app (a b : List Nat) : (⟨a.toArray⟩ ++ ⟨b.toArray⟩ : Str) = ⟨(a ++ b).toArray⟩ := by
  show Str.append _ _ = _
  unfold Str.append
  simp
theorem str_len (a : List Nat) : (⟨a.toArray⟩ : Str).length = a.length := by
  unfold Str.length
  simp
end Ly
namespace Ly
open PySem L2 Evl PyProof.Rows
/-! ### calls with keywords, n positional ones ahead, the keywords in the parameters' order -/
def gOf {α : Type} (n : Nat) (us ws : List α) : List α := if us.length = n then us ++ ws else []
section
variable {P : Program} {w : World} {K : Fg} {mg : Str → Option Value} {base : Heap} {k : Nat} {x : Str} {st : Stmt} {ps ks : List Str}
theorem clK {X : Cx} {sp : Sp} {p pos : Pos} {e : Expr} {es : List Expr} {kws : List Keyword} {t tk : TA} {j : Nat} (h : Dk P w K mg base k x ps sp) (D0 : Df K mg x st ps) (hr : Room j X.A) (n m : Nat) (hn : 0 < ps.length) (hnm : n + m = ps.length)
    (hb : ∀ (kV doc pm : Value) (an : Option Addr) (cdv ct : Value) (us ws : List Value), us.length = n → ws.length = m → bindArgs (PySem.W.fnOf x x (defArgs st) (defBody st) (defScope st) .none kV doc pm an cdv ct) ⟨us, ks.zip ws⟩ = pure (ps.zip (us ++ ws)))
    (ha : PA X (e :: es) t) (hkw : PK X kws tk) (hj : k ≤ j := by first | decide | omega) (hg : Gl X x := by rfl)
    (hP : X.prog = P := by rfl) (hw : X.w = w := by rfl) (hK : X.K = K := by rfl) (hm : X.mg = mg := by rfl) (hB : X.base = base := by rfl)
    (hall : (backToKw pos (keywordEach kws X.env)).all (·.1.isSome) = true := by rfl) (hks : (backToKw pos (keywordEach kws X.env)).filterMap (·.1) = ks := by rfl)
    (hdb : (x == ("__debug__" : Str)) = false := by decide) (he : starEach (e :: es) X.env = (false, eval e X.env) :: starEach es X.env := by rfl)
    (hpl : ((backTo pos (starEach (e :: es) X.env)).any (·.1) || (backToKw pos (keywordEach kws X.env)).any (·.1.isNone)) = false := by rfl) :
    PE X (.Call (.Name x p) (e :: es) kws pos) (tCallK sp (gOf n) E0 t tk) := by
  subst hP hw hK hm hB
  obtain ⟨f, fd, h1, h2, h3, h4, o, l, d⟩ := h.ex
  obtain ⟨f', fd', F, hm', _⟩ := D0.ex
  have e1 := h1.symm.trans hm'
  cases e1
  obtain ⟨o', l', d'⟩ := fun_at F
  have e2 := l.symm.trans l'
  cases e2
  have e3 := d.symm.trans d'
  cases e3
  obtain ⟨oc, od, kV, doc, pm, an, cdv, ct, osl, rfl, lk, hcd⟩ := F.ex
  refine pe_callK h2 (hr.mono hj) hg h1 h3 (g := gOf n) (gV := gOf n) ⟨fun s us ws _ hl => ?_, fun {vs us zs ws} r1 r2 => ?_⟩ pass0 ha hkw hall hks hdb he hpl
  · unfold gOf at hl ⊢
    split at hl
    · rename_i hu
      rw [if_pos hu]
      refine .of_eq (hb kV doc pm an cdv ct us ws hu ?_)
      rw [List.length_append] at hl
      omega
    · rw [List.length_nil] at hl
      omega
  · unfold gOf
    rw [r1.length]
    split
    · exact r1.append r2
    · exact .nil
theorem d_callK {R : List D → D → Prop} {E : XK} {σ : L2.St} {F H : Hp} {ta tk : TA} {n : Nat} {ds es : List D} {r : D} (ha : EvDs K ta σ F H ds) (hk : EvDs K tk σ F H es) (hn : ds.length = n) (hr : R (ds ++ es) r) : EvD K (tCallK (spR K R) (gOf n) E ta tk) σ F H r := fun F1 H1 e1 e2 e3 Q q =>
  ha F1 H1 e1 e2 e3 _ fun xs F2 H2 g2 hx => hk F2 H2 (e1.trans g2.fx) (e2.trans g2.hx) g2.fh _ fun ys F3 H3 g3 hy => by
    show rDn K R (gOf n xs ys) H3 Q
    have e : gOf n xs ys = xs ++ ys := by unfold gOf; rw [if_pos (by rw [hx.length]; exact hn)]
    rw [e]
    exact ⟨F3, ds ++ es, r, g3.fh, (hx.up g3.fx).append hy, hr, fun v F4 H4 g4 hv => q v F4 H4 ((g2.trans g3).trans g4) hv⟩
end
end Ly
/-! LyE: xs[i] += e, sums of tuples. -/
namespace Ly
open PySem L2 Evl PyProof.Rows
/-! ### xs[i] op= e of a list that is one's own -/
def rGetL : V → V → Hp → VK → Prop := fun o i H Q => ∃ (l : Addr) (xs : List V) (n : Nat) (v : V), o = .ref l ∧ i = .int (n : Int) ∧ H l = some (.lst xs) ∧ xs[n]? = some v ∧ Q v H
theorem get_list {X : Cx} : PGet X rGetL := by
  intro pins s σ H o i ov iv Q I ro ri h
  obtain ⟨l, xs, n, v, rfl, rfl, hl, hx, q⟩ := h
  cases ro
  obtain ⟨t, rfl⟩ := ri
  obtain ⟨its, r, pl, hz⟩ := I.list (SqL.of hl)
  obtain ⟨u, hu, ru⟩ := r.get hx
  have hn := (List.getElem?_eq_some_iff.mp hx).1
  have h63 := line63
  exact wpAny_getItem_list pl.isList (Int.natCast_nonneg n) (by omega) (by rw [Int.toNat_natCast]; simpa using hu) ⟨v, H, I, ru, q⟩
section
variable {K : Fg} {σ : L2.St} {F H F0 H0 : Hp} {te ti : TE} {i : Nat} {D' : Ends} {tz : TS}
theorem s_augL {f : Int → Int → Int} {l : Addr} {xs : List V} {n : Nat} {a b : Int} (g : Gr F0 H0 F H) (hl0 : H0 l = none) (fl : F l = none) (hl : H l = some (.lst xs)) (hv : σ[i]? = some (some (.ref l))) (hi : EvD K ti σ F H (.int (n : Int))) (hx : xs[n]? = some (.int a)) (h : EvD K te σ F H (.int b))
    (k : ∀ H2, Gr F0 H0 F H2 → (∀ p o, p ≠ l → H p = some o → H2 p = some o) → H2 l = some (.lst (xs.set n (.int (f a b)))) → D'.nx σ H2) : tAugS (tVar i) ti te rGetL (ipI f) rSetL D' σ H := by
  refine ⟨.ref l, hv, hi F H (Ex.refl F) (Ex.refl H) g.fh _ fun w F2 H2 s2 hw => ?_⟩
  cases hw
  refine ⟨l, xs, n, .int a, rfl, rfl, s2.hx _ _ hl, hx, h F H2 (Ex.refl F) s2.hx (g.fh.trans s2.hx) _ fun w F3 H3 s3 hw => ?_⟩
  cases hw
  have hn := (List.getElem?_eq_some_iff.mp hx).1
  refine ⟨a, b, rfl, rfl, l, xs, (n : Int), n, rfl, rfl, s3.hx _ _ (s2.hx _ _ hl), ixN_nat hn, ?_⟩
  refine k _ (((g.grow s2.hx).grow s3.hx).mut hl0 fl) (fun p o hp ho => ?_) upd_same
  rw [upd_ne hp]
  exact s3.hx p o (s2.hx p o ho)
theorem q_augL {f : Int → Int → Int} {l : Addr} {xs : List V} {n : Nat} {a b : Int} (g : Gr F0 H0 F H) (hl0 : H0 l = none) (fl : F l = none) (hl : H l = some (.lst xs)) (hv : σ[i]? = some (some (.ref l))) (hi : EvD K ti σ F H (.int (n : Int))) (hx : xs[n]? = some (.int a)) (h : EvD K te σ F H (.int b))
    (k : ∀ H2, Gr F0 H0 F H2 → (∀ p o, p ≠ l → H p = some o → H2 p = some o) → H2 l = some (.lst (xs.set n (.int (f a b)))) → tz D' σ H2) : tSeq (tAugS (tVar i) ti te rGetL (ipI f) rSetL) tz D' σ H := s_augL (D' := { D' with nx := tz D' }) g hl0 fl hl hv hi hx h k
end
/-! ### calls that hand out a new list -/
def rNew (K : Fg) (R : List D → List D → Prop) : List V → Hp → VK → Prop := fun vs H Q => ∃ F ds es, Ex F H ∧ DpAll K F vs ds ∧ R ds es ∧ AnsN K F H es Q
inductive ListN : List D → List D → Prop
  | list (ds : List D) : ListN [.list ds] ds
  | tup (ds : List D) : ListN [.tuple ds] ds
theorem AnsN.lst {K : Fg} {F H : Hp} {es : List D} {Q : VK} (q : AnsN K F H es Q) (fh : Ex F H) {vs : List V} (h : DpAll K F vs es) {p : Addr} (hp : H p = none) : Q (.ref p) (upd H p (.lst vs)) :=
  q p vs F _ (Gr.own fh hp) hp (fresh_back fh hp) upd_same h
theorem jListN {X : Cx} {K : Fg} (hK : X.K = K := by rfl) : CallR X (.type "list") (rNew K ListN) := by
  subst hK
  rintro pins s σ H xs us Q I rx ⟨F, ds, es, fh, hx, hR, q⟩
  refine call_list_of pins s σ H xs us Q I rx ?_
  cases hR with
  | list ds =>
    obtain ⟨v, rfl, hv⟩ := dps1 hx
    cases hv with
    | lst s1 a1 => exact ⟨_, _, rfl, .inl (ex_l fh s1), fun p hp => q.lst fh a1 hp⟩
  | tup ds =>
    obtain ⟨v, rfl, hv⟩ := dps1 hx
    cases hv with
    | tup s1 a1 => exact ⟨_, _, rfl, .inr (ex_t fh s1), fun p hp => q.lst fh a1 hp⟩
theorem n_cb {K : Fg} {σ : L2.St} {F H : Hp} {R : List D → List D → Prop} {ta : TA} {ds es : List D} (ha : EvDs K ta σ F H ds) (hr : R ds es) : EvN K (tCB (rNew K R) ta) σ F H es := fun F1 H1 e1 e2 e3 Q q =>
  ha F1 H1 e1 e2 e3 _ fun xs F2 H2 g2 hx => ⟨F2, ds, es, g2.fh, hx, hr, fun p ws F3 H3 g3 hp fp hl ha => q p ws F3 H3 (g2.trans g3) (g2.back hp) fp hl ha⟩
/-! ### sum of a tuple of ints -/
inductive SumTD : List D → D → Prop
  | list (ns : List Int) : SumTD [.list (ns.map PyData.int)] (.int ns.sum)
  | tup (ns : List Int) : SumTD [.tuple (ns.map PyData.int)] (.int ns.sum)
theorem sum_rawT {prog : Program} {w : World} {A : Around} {E : Value → Shared → Prop} {s : Shared} {l : Addr} {its : List Value} {ns : List Int} {Q : Value → Shared → Prop} (hh : A.handled = none) (hl : s.heap.IsTuple l its.toArray) (hi : IntsAre its ns)
    (h : ∀ h' tk t', (∀ b o, s.heap.get? b = some o → h'.get? b = some o) → Q (.int ns.sum t') { s with heap := h', toks := tk }) : wpAny (model prog w) A (call (.builtin "sum") [.ref l]) Q E s := by
  obtain ⟨xs, e⟩ := hi.allInts.items
  have hn : numsOf (intItems xs).toList = ns := by rw [← e]; exact hi.numsOf
  rw [nums_intItems] at hn
  rw [e] at hl
  refine PySem.W.ktm_sumG hh hl fun h' tk t' hk => ?_
  have := h h' tk t' hk
  rw [preSum_eq, List.take_of_length_le (by simp), hn]; exact this
section
variable {X : Cx} {K : Fg}
theorem jSumT (hc : X.calm = true) (hK : X.K = K := by rfl) : CallR X (.builtin "sum") (rDn K SumTD) := by
  subst hK
  rintro pins s σ H xs us Q I rx ⟨F, ds, z, fh, hx, hR, q⟩
  cases hR with
  | list ns =>
    obtain ⟨v, rfl, hv⟩ := dps1 hx
    cases hv with
    | lst s1 a1 =>
      have e := dps_ints_inv ns a1
      subst e
      exact cr_sum hc pins s σ H _ us Q I rx ⟨_, ns, rfl, ex_l fh s1, q.sc fh rfl⟩
  | tup ns =>
    obtain ⟨v, rfl, hv⟩ := dps1 hx
    cases hv with
    | tup s1 a1 =>
      have e := dps_ints_inv ns a1
      subst e
      obtain ⟨its, rv, hl, _⟩ := I.tuple (ex_t fh s1)
      rw [Vals.ref1 rx]
      exact sum_rawT (I.ok.hd hc) hl rv.ints fun h' tk t' hk => ⟨.int _, H, I.kept hk, ⟨_, rfl⟩, q.sc fh rfl⟩
end
end Ly
/-! LyF: ifs that meet again, texts joined. -/
namespace Ly
open PySem L2 Evl PyProof.Rows
section
variable {K : Fg} {σ : L2.St} {F H F0 H0 : Hp} {t : TT} {D' : Ends} {tu tw tz : TS}
/-- an if whose branches meet again in J -/
theorem q_ifJ {b : Bool} (J : L2.St → Hp → Hp → Prop) (g : Gr F0 H0 F H) (h : EvB t σ F H b) (k : ∀ σ' F' H', Gr F0 H0 F' H' → Ex F F' → Ex H H' → J σ' F' H' → tz D' σ' H')
    (h1 : b = true → ∀ H2, Gr F0 H0 F H2 → Ex H H2 → (∀ σ' F' H', Gr F0 H0 F' H' → Ex F F' → Ex H H' → J σ' F' H' → tz D' σ' H') → tu { D' with nx := tz D' } σ H2)
    (h2 : b = false → ∀ H2, Gr F0 H0 F H2 → Ex H H2 → (∀ σ' F' H', Gr F0 H0 F' H' → Ex F F' → Ex H H' → J σ' F' H' → tz D' σ' H') → tw { D' with nx := tz D' } σ H2) : tSeq (tIfS t tu tw) tz D' σ H :=
  q_if g h (fun hb H2 g2 e2 => h1 hb H2 g2 e2 k) fun hb H2 g2 e2 => h2 hb H2 g2 e2 k
end
/-! ### joined signs -/
theorem joinL_one : ∀ cs : List Nat, TL.joinL [] (cs.map fun c => [c]) = cs
  | [] => rfl
  | [c] => rfl
  | c :: d :: r => by
    have h := joinL_one (d :: r)
    show [c] ++ ([] ++ TL.joinL [] ((d :: r).map fun c => [c])) = _
    rw [h]
    rfl
theorem join_signs (cs : List Nat) : Txt.join ⟨#[]⟩ (cs.map fun c => (⟨#[c]⟩ : Str)) = ⟨cs.toArray⟩ := by
  have h := SX.join_S [] (cs.map fun c => [c])
  rw [List.map_map, joinL_one] at h
  exact h
theorem sum_ones : ∀ cs : List Nat, ((cs.map fun c => (⟨#[c]⟩ : Str)).map (·.length)).sum = cs.length
  | [] => rfl
  | c :: r => by
    have h := sum_ones r
    simp only [List.map_cons, List.sum_cons, List.length_cons]
    rw [h]
    show 1 + r.length = r.length + 1
    omega
theorem atI_getN {cs : List Nat} {i : Int} (h0 : 0 ≤ i) (h1 : i < (cs.length : Int)) : atI cs i = some (cs.getD i.toNat 0) := by
  have hj : i.toNat < cs.length := by omega
  have e : i = ((i.toNat : Nat) : Int) := by omega
  have h : cs[i.toNat]? = some (cs.getD i.toNat 0) := by
    rw [List.getElem?_eq_getElem hj, List.getD_eq_getElem?_getD, List.getElem?_eq_getElem hj]
    rfl
  exact (congrArg (atI cs) e).trans (atI_nat h)
end Ly
/-! LyG: recursion, pairs as targets, pop, reverse, str(). -/
namespace Ly
open PySem L2 Evl PyProof.Rows
section
variable {P : Program} {w : World} {K : Fg} {mg : Str → Option Value} {base : Heap} {k : Nat} {x : Str} {st : Stmt} {N ps : List Str}
/-- of a def that is never called so, anything -/
theorem Df.dk0 {R : List D → D → Prop} (D0 : Df K mg x st ps) (no : ∀ ds r, ¬ R ds r) : Dk P w K mg base k x ps (spR K R) := by
  obtain ⟨f, fd, F, hm, b⟩ := D0.ex
  have no' : ∀ vs H Q E, ¬ spR K R vs H Q E := fun vs H Q E ⟨_, ds, r, _, _, hR, _⟩ => no ds r hR
  exact ⟨f, fd, hm, ⟨fun vs H Q E h => (no' vs H Q E h).elim, fun A outer s H args us vs Q E _ _ _ _ h => (no' vs H Q E h).elim⟩, F.kp, .all b, fun_at F⟩
end
section
variable {K : Fg} {σ : L2.St} {F H F0 H0 : Hp} {te ti : TE} {i j m : Nat} {D' : Ends} {tz : TS} {gt : TG} {ds : List D} {d : D}
/-! ### a pair as target -/
theorem g_two {x : V} {d1 d2 : D} {Q : L2.St → Hp → Prop} (hx : Dp K F x (.tuple [d1, d2])) (e : Ex F H) (k : ∀ v1 v2, Dp K F v1 d1 → Dp K F v2 d2 → Q ((σ.set i (some v1)).set j (some v2)) H) : gTup K 2 (gCons (gName i) (gCons (gName j) gNil)) x σ H Q := by
  cases hx with
  | tup hs ha =>
    obtain ⟨v1, v2, rfl, h1, h2⟩ := dps2 ha
    exact ⟨_, _, rfl, ex_t e hs, rfl, v1, [v2], rfl, v2, [], rfl, rfl, k v1 v2 h1 h2⟩
/-- a, b = e -/
theorem s_set2 {d1 d2 : D} (g : Gr F0 H0 F H) (h : EvD K te σ F H (.tuple [d1, d2])) (k : ∀ v1 v2 F2 H2, Gr F0 H0 F2 H2 → Gr F H F2 H2 → Dp K F2 v1 d1 → Dp K F2 v2 d2 → D'.nx ((σ.set i (some v1)).set j (some v2)) H2) : tAsg te (gTup K 2 (gCons (gName i) (gCons (gName j) gNil))) D' σ H :=
  h F H (Ex.refl F) (Ex.refl H) g.fh _ fun v F2 H2 s hv => g_two hv s.fh fun v1 v2 h1 h2 => k v1 v2 F2 H2 (g.trans s) s h1 h2
theorem q_set2 {d1 d2 : D} (g : Gr F0 H0 F H) (h : EvD K te σ F H (.tuple [d1, d2])) (k : ∀ v1 v2 F2 H2, Gr F0 H0 F2 H2 → Gr F H F2 H2 → Dp K F2 v1 d1 → Dp K F2 v2 d2 → tz D' ((σ.set i (some v1)).set j (some v2)) H2) : tSeq (tAsg te (gTup K 2 (gCons (gName i) (gCons (gName j) gNil)))) tz D' σ H := s_set2 (D' := { D' with nx := tz D' }) g h k
/-! ### xs.pop() of one's own list -/
theorem dpsLast : ∀ {vs : List V} {ds : List D} {d : D}, DpAll K F vs (ds ++ [d]) → ∃ us v, vs = us ++ [v] ∧ DpAll K F us ds ∧ Dp K F v d
  | _, [], _, h => by
    obtain ⟨v, rfl, hv⟩ := dps1 h
    exact ⟨[], v, rfl, .nil, hv⟩
  | _, _ :: _, _, .cons h1 h2 => by
    obtain ⟨us, v, rfl, h3, h4⟩ := dpsLast h2
    exact ⟨_ :: us, v, rfl, .cons h1 h3, h4⟩
/-- what a pop gives, told of the reading -/
theorem t_pop {l : Addr} {vs : List V} {Q : VK} (g : Gr F0 H0 F H) (hl0 : H0 l = none) (fl : F l = none) (hl : H l = some (.lst vs)) (hv : σ[i]? = some (some (.ref l))) (ha : DpAll K F vs (ds ++ [d]))
    (k : ∀ us v H2, Gr F0 H0 F H2 → (∀ p o, p ≠ l → H p = some o → H2 p = some o) → H2 l = some (.lst us) → DpAll K F us ds → Dp K F v d → Q v H2) : (tBM0 K "list" rPop (tVar i)) σ H Q := by
  obtain ⟨us, v, rfl, h1, h2⟩ := dpsLast ha
  refine ⟨.ref l, hv, .inl ⟨rfl, _, sq_of hl⟩, l, us ++ [v], v, rfl, rfl, hl, by simp, ?_⟩
  rw [List.dropLast_concat]
  exact k us v _ (g.mut hl0 fl) (fun p o hp ho => by rw [upd_ne hp]; exact ho) upd_same h1 h2
theorem q_pop {l : Addr} {vs : List V} (g : Gr F0 H0 F H) (hl0 : H0 l = none) (fl : F l = none) (hl : H l = some (.lst vs)) (hv : σ[i]? = some (some (.ref l))) (ha : DpAll K F vs (ds ++ [d]))
    (k : ∀ us v H2, Gr F0 H0 F H2 → (∀ p o, p ≠ l → H p = some o → H2 p = some o) → H2 l = some (.lst us) → DpAll K F us ds → Dp K F v d → tz D' (σ.set j (some v)) H2) :
    tSeq (tAsg (tBM0 K "list" rPop (tVar i)) (gName j)) tz D' σ H := t_pop g hl0 fl hl hv ha k
theorem q_pop2 {l : Addr} {vs : List V} {d1 d2 : D} (g : Gr F0 H0 F H) (hl0 : H0 l = none) (fl : F l = none) (hl : H l = some (.lst vs)) (hv : σ[i]? = some (some (.ref l))) (ha : DpAll K F vs (ds ++ [.tuple [d1, d2]]))
    (k : ∀ us v1 v2 H2, Gr F0 H0 F H2 → (∀ p o, p ≠ l → H p = some o → H2 p = some o) → H2 l = some (.lst us) → DpAll K F us ds → Dp K F v1 d1 → Dp K F v2 d2 → tz D' ((σ.set j (some v1)).set m (some v2)) H2) :
    tSeq (tAsg (tBM0 K "list" rPop (tVar i)) (gTup K 2 (gCons (gName j) (gCons (gName m) gNil)))) tz D' σ H :=
  t_pop g hl0 fl hl hv ha fun us v H2 g2 o2 l2 h1 h2 => g_two h2 g2.fh fun v1 v2 h3 h4 => k us v1 v2 H2 g2 o2 l2 h1 h3 h4
/-! ### xs.reverse() -/
theorem dpsRev : ∀ {vs : List V} {ds : List D}, DpAll K F vs ds → DpAll K F vs.reverse ds.reverse
  | [], [], .nil => .nil
  | _ :: _, _ :: _, .cons h1 h2 => by
    rw [List.reverse_cons, List.reverse_cons]
    exact (dpsRev h2).append (.cons h1 .nil)
theorem s_rev {l : Addr} {xs : List V} (g : Gr F0 H0 F H) (hl0 : H0 l = none) (fl : F l = none) (hl : H l = some (.lst xs)) (hv : σ[i]? = some (some (.ref l))) (k : ∀ H2, Gr F0 H0 F H2 → (∀ p o, p ≠ l → H p = some o → H2 p = some o) → H2 l = some (.lst xs.reverse) → D'.nx σ H2) :
    tDrop (tBM0 K "list" rReverse (tVar i)) D' σ H :=
  ⟨.ref l, hv, .inl ⟨rfl, xs, sq_of hl⟩, l, xs, rfl, rfl, hl, k _ (g.mut hl0 fl) (fun p o hp ho => by rw [upd_ne hp]; exact ho) upd_same⟩
/-! ### comprehensions over pairs -/
theorem n_lcT {vs : List Nat} {wi : TI} {tt : TT} (h : EvW K wi σ F H ds) (hz : ds.length ≤ 50000) (a b : D → D) (hp : ∀ d ∈ ds, d = .tuple [a d, b d]) (f : D → Bool) (e : D → D) (hw : ∀ x y, wipe (((wipe σ vs).set i (some x)).set j (some y)) vs = wipe σ vs)
    (ht : ∀ d x y F' H', d ∈ ds → Ex F F' → Ex H H' → Ex F' H' → Dp K F' x (a d) → Dp K F' y (b d) → EvB tt (((wipe σ vs).set i (some x)).set j (some y)) F' H' (f d))
    (he : ∀ d x y F' H', d ∈ ds → f d = true → Ex F F' → Ex H H' → Ex F' H' → Dp K F' x (a d) → Dp K F' y (b d) → EvD K te (((wipe σ vs).set i (some x)).set j (some y)) F' H' (e d)) :
    EvN K (tLc wi (gTup K 2 (gCons (gName i) (gCons (gName j) gNil))) tt te vs) σ F H ((ds.filter f).map e) := fun F1 H1 e1 e2 e3 Q q => h F1 H1 e1 e2 e3 _ fun J F2 H2 g2 wk Dl hD => by
  have f2 : F2 Dl = none := fresh_back g2.fh hD
  refine ⟨fun i m H' => m = ds.length - i ∧ i ≤ ds.length ∧ ∃ F' ws, Gr F2 H2 F' H' ∧ F' Dl = none ∧ H' Dl = some (.lst ws) ∧ DpAll K F' ws (((ds.take i).filter f).map e),
    ⟨ds.length, rfl, Nat.zero_le _, F2, [], Gr.own g2.fh hD, f2, upd_same, .nil⟩, ?_⟩
  rintro i m H' ⟨rfl, hi, F', ws, g', fl, hl, ha⟩
  by_cases hlt : i < ds.length
  · refine .inr ⟨wk.go H' i (g'.fx.trans g'.fh) hlt, fun H'' => ∃ F'' ws', Gr F2 H2 F'' H'' ∧ F'' Dl = none ∧ H'' Dl = some (.lst ws') ∧ DpAll K F'' ws' (((ds.take (i + 1)).filter f).map e), fun H'' p' => ⟨ds.length - (i + 1), by omega, rfl, hlt, p'⟩, fun x H3 y => ?_⟩
    obtain ⟨F3, d, g3, hd3, hx⟩ := wk.yld F' H' i x H3 hlt g'.fx g'.fh y
    have hm : d ∈ ds := List.mem_of_getElem? hd3
    have hne : H' Dl ≠ none := by rw [hl]; exact fun z => nomatch z
    have f3 : F3 Dl = none := (g3.old Dl hne).trans fl
    have l3 := g3.hx Dl _ hl
    have x1 : Ex F F3 := ((e1.trans g2.fx).trans g'.fx).trans g3.fx
    have x2 : Ex H H3 := ((e2.trans g2.hx).trans g'.hx).trans g3.hx
    have et : ds.take (i + 1) = ds.take i ++ [d] := by rw [List.take_add_one, hd3]; rfl
    rw [hp d hm] at hx
    refine g_two hx g3.fh fun v1 v2 h1 h2 => ?_
    refine ⟨hw v1 v2, ht d v1 v2 F3 H3 hm x1 x2 g3.fh h1 h2 F3 H3 (Ex.refl _) (Ex.refl _) g3.fh _ fun H4 e4 => ?_⟩
    have g4 : Gr F2 H2 F3 H4 := (g'.trans g3).grow e4
    cases hf : f d with
    | true =>
      show te _ H4 _
      refine he d v1 v2 F3 H4 hm hf x1 (x2.trans e4) g4.fh h1 h2 F3 H4 (Ex.refl _) (Ex.refl _) g4.fh _ fun v F5 H5 g5 hv => ?_
      have l4 := e4 Dl _ l3
      have l5 := g5.hx Dl _ l4
      have f5 : F5 Dl = none := (g5.old Dl (by rw [l4]; exact fun z => nomatch z)).trans f3
      have hlen : ws.length ≤ i := by
        rw [ha.length, List.length_map]
        exact Nat.le_trans (List.length_filter_le _ _) (by rw [List.length_take]; omega)
      refine ⟨ws, l5, sz_lt (by omega), F5, ws ++ [v], (g4.trans g5).mut hD f5, f5, upd_same, ?_⟩
      rw [et, List.filter_append, List.map_append]
      have : [d].filter f = [d] := by simp [hf]
      rw [this]
      exact (ha.up (g3.fx.trans g5.fx)).append (.cons hv .nil)
    | false =>
      show ∃ F'' ws', _
      refine ⟨F3, ws, g4, f3, e4 Dl _ l3, ?_⟩
      rw [et, List.filter_append, List.map_append]
      have : [d].filter f = [] := by simp [hf]
      rw [this, List.map_nil, List.append_nil]
      exact ha.up g3.fx
  · have ei : i = ds.length := by omega
    subst ei
    rw [List.take_length] at ha
    refine .inl ⟨wk.stop H' _ (g'.fx.trans g'.fh) (Nat.le_refl _), q Dl ws F' H' (g2.trans g') (g2.back hD) fl hl ha⟩
end
/-! ### str() -/
inductive StrD : List D → D → Prop
  | int (i : Int) (h : i.natAbs.log2 < 1920) : StrD [.int i] (.str (toString i))
  | str (z : Str) : StrD [.str z] (.str z)
section
variable {X : Cx} {K : Fg}
theorem jStr (hK : X.K = K := by rfl) : CallR X (.type "str") (rDn K StrD) := by
  subst hK
  refine cn_of (call_str_int.or SkE.call_str_str) fun F H xs ds z Q fh hx hR q => ?_
  cases hR with
  | int i h =>
    obtain ⟨v, rfl, hv⟩ := dps1 hx
    cases hv
    exact .inl ⟨i, rfl, h, q.sc fh rfl⟩
  | str z =>
    obtain ⟨v, rfl, hv⟩ := dps1 hx
    cases hv
    exact .inr ⟨z, rfl, q.sc fh rfl⟩
end
end Ly
/-! LyH: sets made of a list, keys of any kind. -/
namespace Ly
open PySem PySem.Spec L2 Evl PyProof.Rows
/-! ### the list without repeats -/
section
variable {α : Type} [DecidableEq α]
def uniqA (acc : List α) : List α → List α
  | [] => acc
  | x :: xs => if x ∈ acc then uniqA acc xs else uniqA (acc ++ [x]) xs
def uniq (xs : List α) : List α := uniqA [] xs
theorem uniqA_snoc (x : α) : ∀ (xs acc : List α), uniqA acc (xs ++ [x]) = if x ∈ uniqA acc xs then uniqA acc xs else uniqA acc xs ++ [x]
  | [], acc => rfl
  | y :: ys, acc => by
    show (if y ∈ acc then uniqA acc (ys ++ [x]) else uniqA (acc ++ [y]) (ys ++ [x])) = _
    by_cases h : y ∈ acc
    · rw [if_pos h, uniqA_snoc x ys acc]
      show _ = if x ∈ (if y ∈ acc then uniqA acc ys else uniqA (acc ++ [y]) ys) then _ else _
      rw [if_pos h]
      show _ = if x ∈ uniqA acc ys then (if y ∈ acc then uniqA acc ys else uniqA (acc ++ [y]) ys) else (if y ∈ acc then uniqA acc ys else uniqA (acc ++ [y]) ys) ++ [x]
      rw [if_pos h]
    · rw [if_neg h, uniqA_snoc x ys (acc ++ [y])]
      show _ = if x ∈ (if y ∈ acc then uniqA acc ys else uniqA (acc ++ [y]) ys) then (if y ∈ acc then uniqA acc ys else uniqA (acc ++ [y]) ys) else (if y ∈ acc then uniqA acc ys else uniqA (acc ++ [y]) ys) ++ [x]
      rw [if_neg h]
theorem uniq_snoc (xs : List α) (x : α) : uniq (xs ++ [x]) = if x ∈ uniq xs then uniq xs else uniq xs ++ [x] := uniqA_snoc x xs []
theorem mem_uniqA (z : α) : ∀ (xs acc : List α), z ∈ uniqA acc xs ↔ z ∈ acc ∨ z ∈ xs
  | [], acc => by simp [uniqA]
  | y :: ys, acc => by
    show z ∈ (if y ∈ acc then uniqA acc ys else uniqA (acc ++ [y]) ys) ↔ _
    by_cases h : y ∈ acc
    · rw [if_pos h, mem_uniqA z ys acc, List.mem_cons]
      constructor
      · rintro (q | q)
        · exact .inl q
        · exact .inr (.inr q)
      · rintro (q | q | q)
        · exact .inl q
        · subst q; exact .inl h
        · exact .inr q
    · rw [if_neg h, mem_uniqA z ys (acc ++ [y]), List.mem_cons, List.mem_append, List.mem_singleton, or_assoc]
theorem mem_uniq {xs : List α} {z : α} : z ∈ uniq xs ↔ z ∈ xs := by
  have h := mem_uniqA z xs []
  unfold uniq
  simpa using h
theorem uniqA_nodup : ∀ (xs acc : List α), acc.Nodup → (uniqA acc xs).Nodup
  | [], acc, h => h
  | y :: ys, acc, h => by
    show (if y ∈ acc then uniqA acc ys else uniqA (acc ++ [y]) ys).Nodup
    by_cases e : y ∈ acc
    · rw [if_pos e]; exact uniqA_nodup ys acc h
    · rw [if_neg e]
      refine uniqA_nodup ys _ ?_
      rw [List.nodup_append]
      exact ⟨h, by simp, fun a ha b hb q => e (by rw [← List.mem_singleton.mp hb, ← q]; exact ha)⟩
theorem uniq_nodup (xs : List α) : (uniq xs).Nodup := uniqA_nodup xs [] List.nodup_nil
theorem uniqA_len : ∀ (xs acc : List α), (uniqA acc xs).length ≤ acc.length + xs.length
  | [], acc => Nat.le_refl _
  | y :: ys, acc => by
    show (if y ∈ acc then uniqA acc ys else uniqA (acc ++ [y]) ys).length ≤ _
    by_cases e : y ∈ acc
    · rw [if_pos e]
      have := uniqA_len ys acc
      rw [List.length_cons]; omega
    · rw [if_neg e]
      have := uniqA_len ys (acc ++ [y])
      rw [List.length_append, List.length_singleton] at this
      rw [List.length_cons]; omega
theorem uniq_len (xs : List α) : (uniq xs).length ≤ xs.length := by
  have := uniqA_len xs []
  simpa [uniq] using this
end
/-! ### the loop of set.update -/
section
variable {prog : Program} {w : World} {A : Around} {R : Result → Shared → Prop} {I : Addr} {fp wr : List Addr} {G : Array GenState → Array GenState → Prop} {n : Nat} {P : Nat → Value → Prop} {St : Nat → Shared → Prop}
variable {κ : Type} [DecidableEq κ] {knd : PySem.KeyKind prog w κ}
theorem setOf_congr {h : Heap} {a : Addr} {S S' : κ → Bool} {m m' : Nat} (hS : h.SetOf knd a S m) (e : ∀ k, S k = S' k) (en : m = m') : h.SetOf knd a S' m' := by
  obtain rfl : S = S' := funext e
  subst en
  exact hS
def setIs (ks : List κ) : κ → Bool := fun k => decide (k ∈ uniq ks)
theorem set_loop (W : WalksS prog w A.in1 I fp wr G n P St) (a : Addr) (haf : a ∉ fp) (ks : List κ) (hn : ks.length = n) (hb : n < 64)
    (hv : ∀ i v, P i v → ∃ k, ks[i]? = some k ∧ knd.is k v = true ∧ v.scannable = true) :
    ∀ (m i : Nat) (s : Shared), n - i = m → i ≤ n → St i s → s.heap.SetOf knd a (setIs (ks.take i)) (uniq (ks.take i)).length →
      (∀ s', Moved (a :: wr) G s s' → s'.heap.SetOf knd a (setIs ks) (uniq ks).length → R (.ok (.ret .none)) s') →
      codeAny (model prog w) A (.builtin "set.update.loop" ⟨[.ref a, .ref I], []⟩) R s := by
  have hw : a ∉ wr := fun h => haf (W.sub _ h)
  intro m
  induction m with
  | zero =>
    intro i s hm hi st hS hR
    obtain rfl : i = n := by omega
    refine codeAny_builtin PyProof.Rows.F.entry_set_update_loop ?_
    rw [Around.under_plainId PyProof.Rows.F.plain_set_update_loop _]
    refine wpAny_bind (W.done s _ _ st fun s' mv => ?_)
    refine wpAny_pure (hR s' (mv.mono fun b hb' => List.mem_cons_of_mem _ hb') ?_)
    have et : ks.take i = ks := by rw [← hn, List.take_length]
    rw [et] at hS
    obtain ⟨o, es, ep, t, ho, rest⟩ := hS
    exact ⟨o, es, ep, t, mv.heap a _ hw ho, rest⟩
  | succ m ih =>
    intro i s hm hi st hS hR
    have hlt : i < n := by omega
    refine codeAny_builtin PyProof.Rows.F.entry_set_update_loop ?_
    rw [Around.under_plainId PyProof.Rows.F.plain_set_update_loop _]
    refine wpAny_bind (W.item i s _ _ hlt st fun v s' hP st' mv => ?_)
    obtain ⟨k, hk, hki, hks⟩ := hv i v hP
    have hS1 : s'.heap.SetOf knd a (setIs (ks.take i)) (uniq (ks.take i)).length := by
      obtain ⟨o, es, ep, t, ho, rest⟩ := hS
      exact ⟨o, es, ep, t, mv.heap a _ hw ho, rest⟩
    have hroom : (uniq (ks.take i)).length + 1 < scanBound := by
      have h1 := uniq_len (ks.take i)
      rw [List.length_take] at h1
      unfold scanBound
      omega
    have et : ks.take (i + 1) = ks.take i ++ [k] := by rw [List.take_add_one, hk]; rfl
    refine wpAny_bind (wpAny_holding ?_)
    unfold setAdd
    refine wpAny_holding ?_
    refine wpAny_bind (knd.pyHash hki ?_)
    refine wpAny_setAddHashed_of (s := { s' with toks := s'.toks + 1 }) hki hks hS1 hroom fun h' sb hS2 => ?_
    have hS3 : h'.SetOf knd a (setIs (ks.take (i + 1))) (uniq (ks.take (i + 1))).length := by
      refine setOf_congr hS2 (fun z => ?_) ?_
      · unfold setIs
        rw [et, uniq_snoc]
        by_cases e : k ∈ uniq (ks.take i)
        · rw [if_pos e]
          by_cases ez : z = k
          · subst ez; simp [e]
          · simp [ez]
        · rw [if_neg e]
          simp [List.mem_append]
      · unfold setIs
        rw [et, uniq_snoc]
        by_cases e : k ∈ uniq (ks.take i)
        · simp [e]
        · simp [e]
    refine wpAny_pure ⟨plainId_quiet PyProof.Rows.F.plain_set_update_loop _, ih (i + 1) _ (by omega) hlt (W.frame _ s' _ _ st' (Nat.le_succ _) fun b hb' o e => ?_) hS3 fun s2 mv2 hS4 => ?_⟩
    · rw [sb.2 b (fun h => haf (by rw [← h]; exact hb'))]; exact e
    · refine hR s2 (Moved.trans W.gtrans ((mv.mono fun b hb' => List.mem_cons_of_mem _ hb').then_heap (Nat.le_succ _) fun b o hb' e => ?_) mv2) hS4
      rw [sb.2 b (fun h => hb' (by rw [h]; exact List.mem_cons_self))]; exact e
end
/-! ### set(xs), xs a list -/
section
variable {prog : Program} {w : World} {A : Around} {E : Value → Shared → Prop} {s : Shared}
variable {κ : Type} [DecidableEq κ] {knd : PySem.KeyKind prog w κ}
abbrev setObj (led : Bool) : Obj := { cls := .type "set", dict := none, data := .set #[] 0 (.fresh 0 0 led) }
/-- set.__init__ of a fresh set at the heap's end, fed by a list -/
theorem set_init {l : Addr} {items : Array Value} {ks : List κ} {led : Bool} {R : Result → Shared → Prop} (hh : A.handled = none) (hl : s.heap.IsList l items) (hn : ks.length = items.size) (hb : ks.length < 64)
    (hv : ∀ (i : Nat) (v : Value), items[i]? = some v → ∃ k, ks[i]? = some k ∧ knd.is k v = true ∧ v.scannable = true)
    (h : ∀ (h' : Heap) (tk : Nat), h'.SetOf knd s.heap.objs.size (setIs ks) (uniq ks).length → (∀ b o, s.heap.get? b = some o → h'.get? b = some o) → R (.ok (.ret .none)) { s with heap := h', toks := tk }) :
    codeAny (model prog w) A (.call (.builtin "set.__init__") ⟨[.ref s.heap.objs.size, .ref l], []⟩) R { s with heap := s.heap.push (setObj led) } := by
  have hS : (s.heap.push (setObj led)).get? s.heap.objs.size = some (setObj led) := Heap.get?_push_size _ rfl
  have hT : Shared.TypeIs { s with heap := s.heap.push (setObj led) } (.ref s.heap.objs.size) "set" := ⟨_, hS, rfl⟩
  obtain ⟨⟨ocls, odict, odata, oslots⟩, hol, hcl, nl, hdl⟩ := id hl
  simp only at hcl hdl
  subst hcl hdl
  have hol' : (s.heap.push (setObj led)).get? l = some { cls := .type "list", dict := odict, data := .seq items nl, slots := oslots } := Heap.get?_push_of_some _ hol
  have hl1 : (s.heap.push (setObj led)).IsList l items := ⟨_, hol', rfl, nl, rfl⟩
  have hlS : l < s.heap.objs.size := Heap.lt_size hol
  refine codeAny_call_builtin PySem.F.called_set.init.plain PySem.F.entry_set_init (check_set_init_1 hT ?_)
  have q1 := PySem.F.sub_list_set
  have q2 := PySem.F.sub_list_frozenset
  have q3 : (Value.type "list" == Value.type "dict") = false := by decide
  unfold Builtin.«set.__init__» noKeywords Builtin.Frozenset.updateFrom
  generalize hPI : pyIter = PI
  wp_walk
  subst hPI
  refine wpAny_pyIter_list hl1 ?_
  refine wpAny_bind (wpAny_runValue ?_)
  have h3 : A.in1.in1.handled = none := by simp [hh]
  have hI : (s.heap.push (setObj led)).objs.size = s.heap.objs.size + 1 := Heap.size_push ..
  have hlI : l ≠ (s.heap.push (setObj led)).objs.size := by
    rw [hI]
    exact Nat.ne_of_lt (Nat.lt_succ_of_lt hlS)
  have haf : s.heap.objs.size ∉ [(s.heap.push (setObj led)).objs.size, l] := by
    rw [hI]
    simp only [List.mem_cons, List.not_mem_nil, or_false, not_or]
    exact ⟨Nat.ne_of_lt (Nat.lt_succ_self _), fun z => Nat.lt_irrefl _ (z ▸ hlS)⟩
  refine set_loop ((Walks.list h3 _ l hlI items).toS) s.heap.objs.size haf ks hn (by omega) hv (items.size - 0) 0 _ (by omega) (Nat.zero_le _) ?hst ?hS0 ?hR
  case hst => exact ⟨⟨_, Heap.get?_push_size _ rfl, rfl, rfl⟩, (hl1.push _)⟩
  case hS0 =>
    refine setOf_congr ((PyProof.Rows.setObjOf_fresh (knd := knd) led).setOf (Heap.get?_push_of_some _ hS) (by unfold scanBound; omega)) (fun k => ?_) rfl
    simp [setIs, uniq, uniqA]
  case hR =>
    intro s' mv hS'
    obtain ⟨h', g', d', tk', os'⟩ := s'
    obtain rfl : g' = s.gens := mv.gens
    obtain rfl : d' = s.drawn := mv.drawn
    obtain rfl : os' = s.os := mv.os
    refine wpAny_pure ?_
    refine wpAny_pure (h h' tk' hS' fun b o e => ?_)
    have hbs : b < s.heap.objs.size := Heap.lt_size e
    refine mv.heap b o ?_ (Heap.get?_push_of_some _ (Heap.get?_push_of_some _ e))
    simp only [List.mem_cons, List.not_mem_nil, or_false, not_or, hI]
    exact ⟨Nat.ne_of_lt hbs, Nat.ne_of_lt (Nat.lt_succ_of_lt hbs)⟩
/-- set(xs) -/
theorem call_setL {l : Addr} {items : Array Value} {ks : List κ} {Q : Value → Shared → Prop} (hh : A.handled = none) (hl : s.heap.IsList l items) (hn : ks.length = items.size) (hb : ks.length < 64)
    (hv : ∀ (i : Nat) (v : Value), items[i]? = some v → ∃ k, ks[i]? = some k ∧ knd.is k v = true ∧ v.scannable = true)
    (h : ∀ (h' : Heap) (tk : Nat), h'.SetOf knd s.heap.objs.size (setIs ks) (uniq ks).length → (∀ b o, s.heap.get? b = some o → h'.get? b = some o) → Q (.ref s.heap.objs.size) { s with heap := h', toks := tk }) :
    wpAny (model prog w) A (call (.type "set") [.ref l]) Q E s := by
  obtain ⟨c, tl, hmro⟩ := PySem.F.called_set.mro
  have f1 := PySem.F.called_set.made
  have f2 := PySem.F.called_set.sub
  have f3 := PySem.F.called_set.notType
  have f4 := PySem.F.called_set.canCreate
  have f5 := PySem.F.typeCall_set_1 (.ref l)
  have f6 := PySem.F.called_set.init.lookup
  have f7 := PySem.F.called_set.init.bind (.ref s.heap.objs.size)
  refine wpAny_call (codeAny_of_tree ?_)
  show wpAny _ _ (callAny (.type "set") _) _ _ _
  refine wpAny_pure ⟨Code.quiet_builtin _ (by decide +kernel), codeAny_builtin PySem.F.entry_type_call ?_⟩
  rw [Around.under_plain (weight_type_call_type "set" [.ref l] []) rfl]
  repeat (any_goals (first | assumption | wp_step))
  refine codeAny_mono (code_set_new_1 (.ref l) (E := E) (Q₁ := fun obj s1 => ∃ led : Bool, obj = .ref s.heap.objs.size ∧ s1 = { s with heap := s.heap.push (setObj led) }) fun led => ⟨led, rfl, rfl⟩) fun r s1 hr => ?_
  match r, hr with
  | .error e, hr => exact hr
  | .ok (.ret obj), hr =>
    obtain ⟨led, rfl, rfl⟩ := hr
    have hS : (s.heap.push (setObj led)).get? s.heap.objs.size = some (setObj led) := Heap.get?_push_size _ rfl
    have hT : Shared.TypeIs { s with heap := s.heap.push (setObj led) } (.ref s.heap.objs.size) "set" := ⟨_, hS, rfl⟩
    repeat (any_goals (first | assumption | wp_step))
    refine codeAny_mono (set_init (knd := knd) (R := wants (fun r s2 => r = .none ∧ ∃ h' tk, s2 = { s with heap := h', toks := tk } ∧ h'.SetOf knd s.heap.objs.size (setIs ks) (uniq ks).length ∧ ∀ b o, s.heap.get? b = some o → h'.get? b = some o) E)
      (by simp [hh]) hl hn hb hv fun h' tk q1 q2 => ⟨rfl, h', tk, rfl, q1, q2⟩) fun r2 s2 hr2 => ?_
    match r2, hr2 with
    | .error e, hr2 => exact hr2
    | .ok (.ret v), hr2 =>
      obtain ⟨rfl, h', tk, rfl, q1, q2⟩ := hr2
      repeat (any_goals (first | assumption | wp_step))
      exact h _ _ q1 q2
    | .ok .next, hr2 => exact hr2.elim
    | .ok .brk, hr2 => exact hr2.elim
end
end Ly
/-! LyI: len(set(xs)), xs data. -/
namespace Ly
open PySem PySem.Spec L2 Evl PyProof.Rows
section
variable {X : Cx} {K : Fg} {P : Program} {w : World}
/-- set(xs), xs a list of texts and ints -/
def rSetL (K : Fg) (P : Program) (w : World) : List V → Hp → VK → Prop := fun vs H Q => ∃ (l : Addr) (ks : List Key), vs = [.ref l] ∧ SqL K H l (ks.map kV) ∧ ks.length < 64 ∧
  ∀ p, H p = none → Q (.ref p) (upd H p (SetK P w p (setIs ks) (uniq ks).length))
theorem jSetL (hc : X.calm = true) (hK : X.K = K := by rfl) (hP : X.prog = P := by rfl) (hw : X.w = w := by rfl) : CallR X (.type "set") (rSetL K P w) := by
  subst hK hP hw
  intro pins s σ H xs us Q I r h
  obtain ⟨l, ks, rfl, hl, hf, q⟩ := h
  rw [Vals.ref1 r]
  obtain ⟨its, rv, pl, hz⟩ := I.list hl
  have hlen : ks.length = its.toArray.size := by rw [List.size_toArray, ← rv.length, List.length_map]
  refine call_setL (knd := mixKind X.prog X.w) (ks := ks) (I.ok.hd hc) pl.isList hlen hf (fun i v hi => ?_) fun h' tk hS hk => ?_
  · have hi : its[i]? = some v := by simpa using hi
    have hlt : i < ks.length := by
      rw [hlen, List.size_toArray]
      exact (List.getElem?_eq_some_iff.mp hi).1
    have hk : (ks.map kV)[i]? = some (kV ks[i]) := by rw [List.getElem?_map, List.getElem?_eq_getElem hlt]; rfl
    obtain ⟨u, hu, ru⟩ := rv.get hk
    rw [hi] at hu
    cases hu
    exact ⟨ks[i], List.getElem?_eq_getElem hlt, kV_is ru, key_scan ru⟩
  · exact ⟨.ref s.heap.objs.size, _, I.laid (t' := tk) hk (Nat.le_refl _) (setK_new hS), rfl, q _ I.fresh⟩
/-- len of a set -/
def rLenK (P : Program) (w : World) : List V → Hp → VK → Prop := fun vs H Q => ∃ (a : Addr) (S : Key → Bool) (n : Nat), vs = [.ref a] ∧ H a = some (SetK P w a S n) ∧ n < 64 ∧ Q (.int n) H
theorem jLenK (hP : X.prog = P := by rfl) (hw : X.w = w := by rfl) : CallR X (.builtin "len") (rLenK P w) := by
  subst hP hw
  intro pins s σ H xs us Q I r h
  obtain ⟨a, S, n, rfl, ha, hn, q⟩ := h
  rw [Vals.ref1 r]
  obtain ⟨o, es, ep, t, ho, hex, hd, _, _, _, hf, hes⟩ := setK_get I ha
  exact call_len_set ho hex hd hf (by rw [hes]; omega) ⟨.int n, H, I.tok _, ⟨_, by rw [hes]⟩, q⟩
end
section
variable {K : Fg} {P : Program} {w : World} {σ : L2.St} {F H : Hp} {te : TE}
theorem kv_strs (zs : List Str) : (zs.map (Sum.inr : Str → Key)).map kV = zs.map V.str := by rw [List.map_map]; rfl
theorem kv_ints (zs : List Int) : (zs.map (Sum.inl : Int → Key)).map kV = zs.map V.int := by rw [List.map_map]; rfl
theorem uniqA_map {α β : Type} [DecidableEq α] [DecidableEq β] (f : α → β) (hf : ∀ a b, f a = f b → a = b) : ∀ (xs acc : List α), uniqA (acc.map f) (xs.map f) = (uniqA acc xs).map f
  | [], acc => rfl
  | x :: xs, acc => by
    show (if f x ∈ acc.map f then uniqA (acc.map f) (xs.map f) else uniqA (acc.map f ++ [f x]) (xs.map f)) = (if x ∈ acc then uniqA acc xs else uniqA (acc ++ [x]) xs).map f
    have e : f x ∈ acc.map f ↔ x ∈ acc := by
      constructor
      · intro h
        obtain ⟨y, hy, q⟩ := List.mem_map.mp h
        rw [← hf _ _ q]; exact hy
      · exact List.mem_map_of_mem
    by_cases h : x ∈ acc
    · rw [if_pos h, if_pos (e.mpr h), uniqA_map f hf xs acc]
    · rw [if_neg h, if_neg (fun z => h (e.mp z)), ← uniqA_map f hf xs (acc ++ [x]), List.map_append]
      rfl
theorem uniq_map {α β : Type} [DecidableEq α] [DecidableEq β] (f : α → β) (hf : ∀ a b, f a = f b → a = b) (xs : List α) : uniq (xs.map f) = (uniq xs).map f := uniqA_map f hf xs []
/-- len(set(xs)), xs texts -/
theorem d_lenSetS {zs : List Str} (h : EvD K te σ F H (.list (zs.map PyData.str))) (hz : zs.length < 64) :
    EvD K (tCB (rLenK P w) (tCons (tCB (rSetL K P w) (tCons te tNil)) tNil)) σ F H (.int (((uniq zs).length : Nat) : Int)) := fun F1 H1 e1 e2 e3 Q q =>
  h F1 H1 e1 e2 e3 _ fun v F2 H2 g2 hv => by
    cases hv with
    | @lst a xs _ hs ha =>
      have e := dps_strs_inv zs ha
      subst e
      refine ⟨a, zs.map (Sum.inr : Str → Key), rfl, by rw [kv_strs]; exact ex_l g2.fh hs, by rw [List.length_map]; exact hz, fun p hp => ?_⟩
      have hu : (uniq (zs.map (Sum.inr : Str → Key))).length = (uniq zs).length := by
        rw [uniq_map Sum.inr (fun a b h => Sum.inr.inj h), List.length_map]
      refine ⟨p, _, (uniq zs).length, rfl, by rw [upd_same, hu], by have := uniq_len zs; omega, ?_⟩
      exact q _ F2 _ (g2.trans (Gr.own g2.fh hp)) (.int _)
end
end Ly
/-! LyM: mirrors: what a def does, as a function of a store of cells (what may change) and data (what stays). -/
namespace Ly
open PySem L2 Evl PyProof.Rows
/-- a value of the mirror: a datum, or a cell's number -/
inductive Av where
  | d (x : D)
  | o (i : Nat)
/-- what stands in a cell -/
inductive Cl where
  | gone
  | lst (xs : List Av)
  | dk (kvs : List (Key × Av))
  | dt (kvs : List (List Key × Av))
  | ins (c : Str) (fs : List (Str × Av))
  | lk (c : Cl)
/-- an exception: its class's name, and the number that it may bear -/
structure Xn where
  cls : Str
  row : Option Int := none
inductive Rs (α : Type) where
  | ok (a : α)
  | ex (e : Xn)
abbrev Sg := List Cl
abbrev M (α : Type) := Sg → Option (Rs α × Sg)
abbrev Sl := List (Option Av)
abbrev AE := Sl → M Av
abbrev AT := Sl → M Bool
abbrev AA := Sl → M (List Av)
inductive Fl where
  | nx | bk | ct
  | rt (x : Av)
  | ex (e : Xn)
abbrev AS := Sl → Sg → Option (Fl × Sl × Sg)
/-- a def's mirror -/
abbrev AF := List Av → M Av
/-- what an operation does: no exception -/
abbrev Op0 := Sg → Option (Av × Sg)
def ret {α : Type} (a : α) : M α := fun S => some (.ok a, S)
def rse {α : Type} (e : Xn) : M α := fun S => some (.ex e, S)
def stuck {α : Type} : M α := fun _ => none
def bnd {α β : Type} (m : M α) (f : α → M β) : M β := fun S => match m S with
  | some (.ok a, S1) => f a S1
  | some (.ex e, S1) => some (.ex e, S1)
  | none => none
def lf {α : Type} (m : Sg → Option (α × Sg)) : M α := fun S => match m S with
  | some (a, S1) => some (.ok a, S1)
  | none => none
theorem bnd_ok {α β : Type} {m : M α} {f : α → M β} {S S1 : Sg} {a : α} (h : m S = some (.ok a, S1)) : bnd m f S = f a S1 := by unfold bnd; rw [h]
theorem bnd_ex {α β : Type} {m : M α} {f : α → M β} {S S1 : Sg} {e : Xn} (h : m S = some (.ex e, S1)) : bnd m f S = some (.ex e, S1) := by unfold bnd; rw [h]
theorem bnd_inv {α β : Type} {m : M α} {f : α → M β} {S S2 : Sg} {r : Rs β} (h : bnd m f S = some (r, S2)) :
    (∃ a S1, m S = some (.ok a, S1) ∧ f a S1 = some (r, S2)) ∨ ∃ e, m S = some (.ex e, S2) ∧ r = .ex e := by
  unfold bnd at h
  split at h
  · rename_i a S1 q; exact .inl ⟨a, S1, q, h⟩
  · rename_i e S1 q; cases h; exact .inr ⟨e, q, rfl⟩
  · cases h
theorem lf_inv {α : Type} {m : Sg → Option (α × Sg)} {S S1 : Sg} {r : Rs α} (h : lf m S = some (r, S1)) : ∃ a, m S = some (a, S1) ∧ r = .ok a := by
  unfold lf at h
  split at h
  · rename_i a S2 q; cases h; exact ⟨a, q, rfl⟩
  · cases h
/-! ### what a mirror's state says of the heap -/
def clsA (mg : Str → Option Value) (n : Str) : Addr := match mg n with
  | some (.ref a) => a
  | _ => 0
section
variable (P : Program) (wd : World) (K : Fg) (mg : Str → Option Value)
/-- a dict whose keys are tuples, each with the place of its key -/
def DXf (P : Program) (w : World) (a : Addr) (ks : List (List Key × Addr × V)) (h : Heap) : Prop := ks.length ≤ sizeLine ∧ (a == sysModules) = false ∧ ∃ us : List (List Key × Addr × Value),
  Paired (fun p q => p.1 = q.1 ∧ p.2.1 = q.2.1 ∧ RelV p.2.2 q.2.2) ks us ∧ ∃ o es ep, h.get? a = some o ∧ o.ExactDict ∧ o.data = .dict es ep ∧ es.toList = us.map (entryOfKey (tupleKind (mixKind P w))) ∧ (us.map (·.1)).Nodup
def VR (ρ : List Addr) (F : Hp) (v : V) : Av → Prop
  | .d x => Dp K F v x
  | .o i => ∃ a, ρ[i]? = some a ∧ v = .ref a
abbrev VRs (ρ : List Addr) (F : Hp) : List V → List Av → Prop := Paired (VR K ρ F)
abbrev KR {κ : Type} (ρ : List Addr) (F : Hp) : List (κ × V) → List (κ × Av) → Prop := Paired fun p q => p.1 = q.1 ∧ VR K ρ F p.2 q.2
def TR (ρ : List Addr) (F : Hp) : List (List Key × Addr × V) → List (List Key × Av) → Prop := Paired fun p q => p.1 = q.1 ∧ SqT K F p.2.1 (p.1.map kV) ∧ VR K ρ F p.2.2 q.2
def CR (ρ : List Addr) (F : Hp) (a : Addr) : Cl → HO → Prop
  | .gone, _ => True
  | .lst xs, o => ∃ vs, o = .lst vs ∧ VRs K ρ F vs xs
  | .dk kvs, o => ∃ ks, o = .dK ks ∧ KR K ρ F ks kvs
  | .dt kvs, o => ∃ ks, o = .ext (DXf P wd a ks) ∧ TR K ρ F ks kvs
  | .ins c fs, o => ∃ dx gs, o = .ins (clsA mg c) dx gs ∧ KR K ρ F gs fs
  | .lk c, o => ∃ ob u, o = .frz ob u ∧ CR ρ F a c u
structure Rel (ρ : List Addr) (S : Sg) (F H : Hp) : Prop where
  len : ρ.length = S.length
  inj : ∀ (i j : Nat) (a : Addr), ρ[i]? = some a → ρ[j]? = some a → i = j
  fh : Ex F H
  al : ∀ a ∈ ρ, H a ≠ none
  cell : ∀ (i : Nat) (a : Addr) (c : Cl), ρ[i]? = some a → S[i]? = some c → c ≠ .gone → F a = none ∧ ∃ o, H a = some o ∧ CR P wd K mg ρ F a c o
structure Gw (ρ : List Addr) (F H : Hp) (ρ' : List Addr) (F' H' : Hp) : Prop where
  pre : ∃ t, ρ' = ρ ++ t
  fx : Ex F F'
  out : ∀ p, H p ≠ none → p ∉ ρ → H' p = H p ∧ p ∉ ρ' ∧ F' p = F p
  fz : ∀ p o u, H p = some (.frz o u) → H' p = some (.frz o u)
def SR (ρ : List Addr) (F : Hp) (σ : L2.St) (σa : Sl) : Prop := σ.length = σa.length ∧ ∀ (i : Nat) (x : Av), σa[i]? = some (some x) → ∃ v, σ[i]? = some (some v) ∧ VR K ρ F v x
def XR (H : Hp) (e : Xn) (c : Value) (d : Option Addr) : Prop := c = .ref (clsA mg e.cls) ∧ match e.row with
  | none => d = none
  | some n => ∃ a, d = some a ∧ H a = some (.xd [("row", .int n)])
/-- what an expression's reading does, by its mirror -/
def SimE (W : WX) (te : TE) (ae : AE) : Prop := ∀ σ σa ρ S F H, Rel P wd K mg ρ S F H → SR K ρ F σ σa → ∀ r S', ae σa S = some (r, S') → ∀ Q : VK,
  (∀ x, r = .ok x → ∀ ρ' F' H' v, Gw ρ F H ρ' F' H' → Rel P wd K mg ρ' S' F' H' → VR K ρ' F' v x → Q v H') →
  (∀ e, r = .ex e → ∀ ρ' F' H' c d, Gw ρ F H ρ' F' H' → Rel P wd K mg ρ' S' F' H' → XR mg H' e c d → W c d σ H') → te σ H Q
def SimT (W : WX) (tt : TT) (at' : AT) : Prop := ∀ σ σa ρ S F H, Rel P wd K mg ρ S F H → SR K ρ F σ σa → ∀ r S', at' σa S = some (r, S') → ∀ Q : Bool → Hp → Prop,
  (∀ b, r = .ok b → ∀ ρ' F' H', Gw ρ F H ρ' F' H' → Rel P wd K mg ρ' S' F' H' → Q b H') →
  (∀ e, r = .ex e → ∀ ρ' F' H' c d, Gw ρ F H ρ' F' H' → Rel P wd K mg ρ' S' F' H' → XR mg H' e c d → W c d σ H') → tt σ H Q
def SimA (W : WX) (ta : TA) (aa : AA) : Prop := ∀ σ σa ρ S F H, Rel P wd K mg ρ S F H → SR K ρ F σ σa → ∀ r S', aa σa S = some (r, S') → ∀ Q : List V → Hp → Prop,
  (∀ xs, r = .ok xs → ∀ ρ' F' H' vs, Gw ρ F H ρ' F' H' → Rel P wd K mg ρ' S' F' H' → VRs K ρ' F' vs xs → Q vs H') →
  (∀ e, r = .ex e → ∀ ρ' F' H' c d, Gw ρ F H ρ' F' H' → Rel P wd K mg ρ' S' F' H' → XR mg H' e c d → W c d σ H') → ta σ H Q
/-- what is wanted of a statement's end -/
def FlQ (W : WX) (D' : Ends) (ρ : List Addr) (F H : Hp) (fl : Fl) (σa : Sl) (S : Sg) : Prop := match fl with
  | .nx => ∀ ρ' F' H' σ', Gw ρ F H ρ' F' H' → Rel P wd K mg ρ' S F' H' → SR K ρ' F' σ' σa → D'.nx σ' H'
  | .bk => ∀ ρ' F' H' σ', Gw ρ F H ρ' F' H' → Rel P wd K mg ρ' S F' H' → SR K ρ' F' σ' σa → D'.bk σ' H'
  | .ct => ∀ ρ' F' H' σ', Gw ρ F H ρ' F' H' → Rel P wd K mg ρ' S F' H' → SR K ρ' F' σ' σa → D'.ct σ' H'
  | .rt x => ∀ ρ' F' H' v, Gw ρ F H ρ' F' H' → Rel P wd K mg ρ' S F' H' → VR K ρ' F' v x → D'.rt v H'
  | .ex e => ∀ ρ' F' H' σ' c d, Gw ρ F H ρ' F' H' → Rel P wd K mg ρ' S F' H' → SR K ρ' F' σ' σa → XR mg H' e c d → W c d σ' H'
def SimS (W : WX) (ts : TS) (as : AS) : Prop := ∀ σ σa ρ S F H, Rel P wd K mg ρ S F H → SR K ρ F σ σa → ∀ fl σa' S', as σa S = some (fl, σa', S') → ∀ D' : Ends, FlQ P wd K mg W D' ρ F H fl σa' S' → ts D' σ H
def SimG (W : WX) (tg : TG) (ag : Av → AS) : Prop := ∀ v x σ σa ρ S F H, Rel P wd K mg ρ S F H → SR K ρ F σ σa → VR K ρ F v x → ∀ fl σa' S', ag x σa S = some (fl, σa', S') → ∀ D' : Ends, FlQ P wd K mg W D' ρ F H fl σa' S' → tg v σ H D'.nx
end
section
variable {P : Program} {wd : World} {K : Fg} {mg : Str → Option Value} {ρ ρ' ρ'' : List Addr} {S S' : Sg} {F F' F'' H H' H'' : Hp} {σ : L2.St} {σa : Sl} {v : V} {x : Av} {c : Cl} {o : HO} {p a : Addr} {i : Nat} {W : WX}
theorem Gw.refl : Gw ρ F H ρ F H := ⟨⟨[], (List.append_nil _).symm⟩, Ex.refl F, fun p _ h => ⟨rfl, h, rfl⟩, fun _ _ _ h => h⟩
theorem Gw.trans (a : Gw ρ F H ρ' F' H') (b : Gw ρ' F' H' ρ'' F'' H'') : Gw ρ F H ρ'' F'' H'' := by
  obtain ⟨t, e⟩ := a.pre
  obtain ⟨u, e'⟩ := b.pre
  refine ⟨⟨t ++ u, by rw [e', e, List.append_assoc]⟩, a.fx.trans b.fx, fun p hp hn => ?_, fun p o u h => b.fz p o u (a.fz p o u h)⟩
  obtain ⟨h1, h2, h3⟩ := a.out p hp hn
  obtain ⟨h4, h5, h6⟩ := b.out p (by rw [h1]; exact hp) h2
  exact ⟨h4.trans h1, h5, h6.trans h3⟩
theorem pre_get {t : List Addr} {a : Addr} (h : ρ[i]? = some a) : (ρ ++ t)[i]? = some a := by
  rw [List.getElem?_append_left (List.getElem?_eq_some_iff.mp h).1]; exact h
theorem VR.up (h : VR K ρ F v x) (e : ∃ t, ρ' = ρ ++ t) (f : Ex F F') : VR K ρ' F' v x := by
  cases x with
  | d x => exact Dp.up h f
  | o i =>
    obtain ⟨a, h1, h2⟩ := h
    obtain ⟨t, rfl⟩ := e
    exact ⟨a, pre_get h1, h2⟩
theorem VR.gw (h : VR K ρ F v x) (g : Gw ρ F H ρ' F' H') : VR K ρ' F' v x := h.up g.pre g.fx
theorem VRs.gw {vs : List V} {xs : List Av} (h : VRs K ρ F vs xs) (g : Gw ρ F H ρ' F' H') : VRs K ρ' F' vs xs := L2.Paired.mapP h fun _ _ q => q.gw g
theorem TR.up {ks : List (List Key × Addr × V)} {kvs : List (List Key × Av)} (h : TR K ρ F ks kvs) (e : ∃ t, ρ' = ρ ++ t) (f : Ex F F') : TR K ρ' F' ks kvs := L2.Paired.mapP h fun _ _ q => ⟨q.1, ex_t f q.2.1, q.2.2.up e f⟩
theorem KR.up {κ : Type} {ks : List (κ × V)} {kvs : List (κ × Av)} (h : KR K ρ F ks kvs) (e : ∃ t, ρ' = ρ ++ t) (f : Ex F F') : KR K ρ' F' ks kvs := L2.Paired.mapP h fun _ _ q => ⟨q.1, q.2.up e f⟩
theorem CR.up (h : CR P wd K mg ρ F a c o) (e : ∃ t, ρ' = ρ ++ t) (f : Ex F F') : CR P wd K mg ρ' F' a c o := by
  induction c generalizing o with
  | gone => trivial
  | lst xs => obtain ⟨vs, rfl, h⟩ := h; exact ⟨vs, rfl, L2.Paired.mapP h fun _ _ q => q.up e f⟩
  | dk kvs => obtain ⟨vs, rfl, h⟩ := h; exact ⟨vs, rfl, KR.up h e f⟩
  | dt kvs => obtain ⟨vs, rfl, h⟩ := h; exact ⟨vs, rfl, TR.up h e f⟩
  | ins c fs => obtain ⟨dx, gs, rfl, h⟩ := h; exact ⟨dx, gs, rfl, KR.up h e f⟩
  | lk c ih => obtain ⟨ob, u, rfl, h⟩ := h; exact ⟨ob, u, rfl, ih h⟩
theorem SR.up (h : SR K ρ F σ σa) (e : ∃ t, ρ' = ρ ++ t) (f : Ex F F') : SR K ρ' F' σ σa := ⟨h.1, fun i x q => let ⟨v, h1, h2⟩ := h.2 i x q; ⟨v, h1, h2.up e f⟩⟩
theorem SR.gw (h : SR K ρ F σ σa) (g : Gw ρ F H ρ' F' H') : SR K ρ' F' σ σa := h.up g.pre g.fx
theorem SR.set {j : Nat} (h : SR K ρ F σ σa) (hv : VR K ρ F v x) : SR K ρ F (σ.set j (some v)) (σa.set j (some x)) := by
  refine ⟨by rw [List.length_set, List.length_set]; exact h.1, fun i y q => ?_⟩
  by_cases e : j = i
  · subst e
    by_cases hl : j < σa.length
    · rw [List.getElem?_set_self hl] at q
      cases q
      exact ⟨v, by rw [List.getElem?_set_self (by rw [h.1]; exact hl)], hv⟩
    · rw [List.getElem?_eq_none (by rw [List.length_set]; omega)] at q
      cases q
  · rw [List.getElem?_set_ne e] at q ⊢
    exact h.2 i y q
/-- a new cell -/
theorem Rel.new (r : Rel P wd K mg ρ S F H) (hp : H p = none) (hc : CR P wd K mg (ρ ++ [p]) F p c o) : Rel P wd K mg (ρ ++ [p]) (S ++ [c]) F (upd H p o) ∧ Gw ρ F H (ρ ++ [p]) F (upd H p o) := by
  have hpn : p ∉ ρ := fun h => r.al p h hp
  have fp : F p = none := fresh_back r.fh hp
  have split : ∀ {i a}, (ρ ++ [p])[i]? = some a → (i < ρ.length ∧ ρ[i]? = some a) ∨ (i = ρ.length ∧ a = p) := fun {i a} h => by
    by_cases hl : i < ρ.length
    · rw [List.getElem?_append_left hl] at h; exact .inl ⟨hl, h⟩
    · rw [List.getElem?_append_right (by omega)] at h
      have : i - ρ.length = 0 := by
        have := (List.getElem?_eq_some_iff.mp h).1
        simp at this; omega
      rw [this] at h
      exact .inr ⟨by omega, (Option.some.inj h).symm⟩
  refine ⟨⟨by simp [r.len], fun i j a h1 h2 => ?_, r.fh.trans (Ex.new hp), fun a ha => ?_, fun i a c' h1 h2 hg => ?_⟩, ⟨⟨_, rfl⟩, Ex.refl F, fun q hq hn => ?_, fun q o u h => by rw [upd_ne (ne_of_none h hp)]; exact h⟩⟩
  · rcases split h1 with ⟨l1, e1⟩ | ⟨rfl, rfl⟩ <;> rcases split h2 with ⟨l2, e2⟩ | ⟨l2, e2⟩
    · exact r.inj i j a e1 e2
    · subst e2; exact absurd (List.mem_of_getElem? e1) hpn
    · exact absurd (List.mem_of_getElem? e2) hpn
    · exact l2.symm
  · by_cases e : a = p
    · subst e; rw [upd_same]; exact fun z => nomatch z
    · rw [upd_ne e]
      rcases List.mem_append.mp ha with h | h
      · exact r.al a h
      · exact absurd (List.mem_singleton.mp h) e
  · rcases split h1 with ⟨l1, e1⟩ | ⟨rfl, rfl⟩
    · rw [List.getElem?_append_left (by rw [← r.len]; exact l1)] at h2
      obtain ⟨f, o', ho, hco⟩ := r.cell i a c' e1 h2 hg
      have ne : a ≠ p := fun z => hpn (z ▸ List.mem_of_getElem? e1)
      exact ⟨f, o', by rw [upd_ne ne]; exact ho, hco.up ⟨_, rfl⟩ (Ex.refl F)⟩
    · rw [r.len, List.getElem?_append_right (Nat.le_refl _)] at h2
      simp at h2
      subst h2
      exact ⟨fp, o, upd_same, hc⟩
  · have ne : q ≠ p := fun z => hq (z ▸ hp)
    refine ⟨upd_ne ne, fun h => ?_, rfl⟩
    rcases List.mem_append.mp h with h | h
    · exact hn h
    · exact ne (List.mem_singleton.mp h)
/-- a new thing that stays -/
theorem Rel.newF (r : Rel P wd K mg ρ S F H) (hp : H p = none) : Rel P wd K mg ρ S (upd F p o) (upd H p o) ∧ Gw ρ F H ρ (upd F p o) (upd H p o) := by
  have hpn : p ∉ ρ := fun h => r.al p h hp
  have fp : F p = none := fresh_back r.fh hp
  have fx : Ex F (upd F p o) := Ex.new fp
  refine ⟨⟨r.len, r.inj, fun b u h => ?_, fun a ha => ?_, fun i a c' h1 h2 hg => ?_⟩, ⟨⟨[], (List.append_nil _).symm⟩, fx, fun q hq hn => ?_, fun q o u h => by rw [upd_ne (ne_of_none h hp)]; exact h⟩⟩
  · by_cases e : b = p
    · subst e; rw [upd_same] at h ⊢; exact h
    · rw [upd_ne e] at h ⊢; exact r.fh b u h
  · rw [upd_ne (fun z : a = p => hpn (by rw [← z]; exact ha))]; exact r.al a ha
  · obtain ⟨f, o', ho, hco⟩ := r.cell i a c' h1 h2 hg
    have ne : a ≠ p := fun z => hpn (z ▸ List.mem_of_getElem? h1)
    exact ⟨by rw [upd_ne ne]; exact f, o', by rw [upd_ne ne]; exact ho, hco.up ⟨[], (List.append_nil _).symm⟩ fx⟩
  · have ne : q ≠ p := fun z => hq (z ▸ hp)
    exact ⟨upd_ne ne, hn, upd_ne ne⟩
/-- a cell changes -/
theorem Rel.set {c0 : Cl} (r : Rel P wd K mg ρ S F H) (hi : ρ[i]? = some p) (hs : S[i]? = some c0) (hg : c0 ≠ .gone) (hc : CR P wd K mg ρ F p c o) (hk : ∀ c', c0 ≠ .lk c' := by intro _ z; cases z) : Rel P wd K mg ρ (S.set i c) F (upd H p o) ∧ Gw ρ F H ρ F (upd H p o) := by
  obtain ⟨fp, o0, ho0, hc0⟩ := r.cell i p c0 hi hs hg
  have nfz : ∀ ob u, H p ≠ some (.frz ob u) := fun ob u z => by
    rw [ho0] at z
    cases z
    cases c0 with
    | gone => exact hg rfl
    | lst xs => obtain ⟨_, e, _⟩ := hc0; cases e
    | dk xs => obtain ⟨_, e, _⟩ := hc0; cases e
    | dt xs => obtain ⟨_, e, _⟩ := hc0; cases e
    | ins c xs => obtain ⟨_, _, e, _⟩ := hc0; cases e
    | lk c => exact hk c rfl
  refine ⟨⟨by rw [List.length_set]; exact r.len, r.inj, fun b u h => ?_, fun a ha => ?_, fun j a c' h1 h2 hg' => ?_⟩, ⟨⟨[], (List.append_nil _).symm⟩, Ex.refl F, fun q hq hn => ?_, fun q ob u h => by rw [upd_ne (fun z : q = p => nfz ob u (by rw [← z]; exact h))]; exact h⟩⟩
  · rw [upd_ne (ne_of_none h fp)]; exact r.fh b u h
  · by_cases e : a = p
    · subst e; rw [upd_same]; exact fun z => nomatch z
    · rw [upd_ne e]; exact r.al a ha
  · by_cases e : i = j
    · subst e
      rw [List.getElem?_set_self (List.getElem?_eq_some_iff.mp hs).1] at h2
      cases h2
      rw [hi] at h1
      cases h1
      exact ⟨fp, o, upd_same, hc⟩
    · rw [List.getElem?_set_ne e] at h2
      obtain ⟨f, o', ho, hco⟩ := r.cell j a c' h1 h2 hg'
      have ne : a ≠ p := fun z => e (r.inj i j p hi (z ▸ h1))
      exact ⟨f, o', by rw [upd_ne ne]; exact ho, hco⟩
  · have ne : q ≠ p := fun z => hn (by rw [z]; exact List.mem_of_getElem? hi)
    exact ⟨upd_ne ne, hn, rfl⟩
/-- a cell is handed out: what stands there stays from now on -/
theorem Rel.fix {c0 : Cl} (r : Rel P wd K mg ρ S F H) (hi : ρ[i]? = some p) (hs : S[i]? = some c0) (hg : c0 ≠ .gone) (ho : H p = some o) : Rel P wd K mg ρ (S.set i .gone) (upd F p o) H ∧ Gw ρ F H ρ (upd F p o) H := by
  obtain ⟨fp, _, _, _⟩ := r.cell i p c0 hi hs hg
  have fx : Ex F (upd F p o) := Ex.new fp
  refine ⟨⟨by rw [List.length_set]; exact r.len, r.inj, fun b u h => ?_, r.al, fun j a c' h1 h2 hg' => ?_⟩, ⟨⟨[], (List.append_nil _).symm⟩, fx, fun q hq hn => ?_, fun _ _ _ h => h⟩⟩
  · by_cases e : b = p
    · subst e; rw [upd_same] at h; cases h; exact ho
    · rw [upd_ne e] at h; exact r.fh b u h
  · by_cases e : i = j
    · subst e
      rw [List.getElem?_set_self (List.getElem?_eq_some_iff.mp hs).1] at h2
      cases h2
      exact absurd rfl hg'
    · rw [List.getElem?_set_ne e] at h2
      obtain ⟨f, o', ho', hco⟩ := r.cell j a c' h1 h2 hg'
      have ne : a ≠ p := fun z => e (r.inj i j p hi (z ▸ h1))
      exact ⟨by rw [upd_ne ne]; exact f, o', ho', hco.up ⟨[], (List.append_nil _).symm⟩ fx⟩
  · have ne : q ≠ p := fun z => hn (by rw [z]; exact List.mem_of_getElem? hi)
    exact ⟨rfl, hn, upd_ne ne⟩
theorem VRs.len {vs : List V} {xs : List Av} (h : VRs K ρ F vs xs) : vs.length = xs.length := Paired.length h
theorem FlQ.gw {D' : Ends} {fl : Fl} (h : FlQ P wd K mg W D' ρ F H fl σa S) (g : Gw ρ F H ρ' F' H') : FlQ P wd K mg W D' ρ' F' H' fl σa S := by
  cases fl with
  | nx => exact fun a b c d e f i => h a b c d (g.trans e) f i
  | bk => exact fun a b c d e f i => h a b c d (g.trans e) f i
  | ct => exact fun a b c d e f i => h a b c d (g.trans e) f i
  | rt x => exact fun a b c d e f i => h a b c d (g.trans e) f i
  | ex x => exact fun a b c d e f g' f' i => h a b c d e f (g.trans g') f' i
end
end Ly
/-! LyN: the mirror of each construct, and that it says what the reading asks. -/
namespace Ly
open PySem L2 Evl PyProof.Rows
/-! ### mirrors -/
def aVar (i : Nat) : AE := fun σ S => match σ[i]? with
  | some (some x) => some (.ok x, S)
  | _ => none
def aD (x : D) : AE := fun _ => ret (.d x)
def aOp (f : Av → Av → Op0) (a b : AE) : AE := fun σ => bnd (a σ) fun x => bnd (b σ) fun y => lf (f x y)
def aUn (f : Av → Op0) (a : AE) : AE := fun σ => bnd (a σ) fun x => lf (f x)
def aNil : AA := fun _ => ret []
def aCons (a : AE) (t : AA) : AA := fun σ => bnd (a σ) fun x => bnd (t σ) fun xs => ret (x :: xs)
def aCB (f : List Av → Op0) (t : AA) : AE := fun σ => bnd (t σ) fun xs => lf (f xs)
def aBM (f : Av → List Av → Op0) (a : AE) (t : AA) : AE := fun σ => bnd (a σ) fun x => bnd (t σ) fun xs => lf (f x xs)
def allD : List Av → Option (List D)
  | [] => some []
  | .d x :: xs => (allD xs).map (x :: ·)
  | .o _ :: _ => none
def mkTup (xs : List Av) : Op0 := fun S => if xs.length ≤ 100000 then (allD xs).map fun ds => (.d (.tuple ds), S) else none
def mkLstF (xs : List Av) : Op0 := fun S => if xs.length ≤ 100000 then (allD xs).map fun ds => (.d (.list ds), S) else none
def mkLstC (xs : List Av) : Op0 := fun S => if xs.length ≤ 100000 then some (.o S.length, S ++ [.lst xs]) else none
def aTup (t : AA) : AE := fun σ => bnd (t σ) fun xs => lf (mkTup xs)
def aLstF (t : AA) : AE := fun σ => bnd (t σ) fun xs => lf (mkLstF xs)
def aLstC (t : AA) : AE := fun σ => bnd (t σ) fun xs => lf (mkLstC xs)
def aCall (f : AF) (t : AA) : AE := fun σ => bnd (t σ) f
def bitOf : Av → Option Bool
  | .d (.bool b) => some b
  | _ => none
def asB (x : Av) : M Bool := fun S => (bitOf x).map fun b => (.ok b, S)
def aB (a : AE) : AT := fun σ => bnd (a σ) asB
def aAnd (t u : AT) : AT := fun σ => bnd (t σ) fun c => if c = true then u σ else ret false
def aOr (t u : AT) : AT := fun σ => bnd (t σ) fun c => if c = true then ret true else u σ
def aNot (t : AT) : AT := fun σ => bnd (t σ) fun c => ret (!c)
def aAndV (a b : AE) : AE := fun σ => bnd (a σ) fun x => bnd (asB x) fun c => if c = true then b σ else ret (.d (.bool false))
def aOrV (a b : AE) : AE := fun σ => bnd (a σ) fun x => bnd (asB x) fun c => if c = true then ret (.d (.bool true)) else b σ
def aNotV (a : AE) : AE := fun σ => bnd (a σ) fun x => bnd (asB x) fun c => ret (.d (.bool (!c)))
def aIf (t : AT) (a b : AE) : AE := fun σ => bnd (t σ) fun c => if c = true then a σ else b σ
def aChain (f g : Av → Av → Op0) (a b c : AE) : AE := fun σ => bnd (a σ) fun x => bnd (b σ) fun y => bnd (lf (f x y)) fun z => bnd (asB z) fun k =>
  if k = true then bnd (c σ) fun w => lf (g y w) else ret (.d (.bool false))
/-! statements -/
def stb {α : Type} (m : M α) (σ : Sl) (f : α → Sg → Option (Fl × Sl × Sg)) : Sg → Option (Fl × Sl × Sg) := fun S => match m S with
  | some (.ok a, S1) => f a S1
  | some (.ex e, S1) => some (.ex e, σ, S1)
  | none => none
theorem stb_inv {α : Type} {m : M α} {σ : Sl} {f : α → Sg → Option (Fl × Sl × Sg)} {S S2 : Sg} {fl : Fl} {σ' : Sl} (h : stb m σ f S = some (fl, σ', S2)) :
    (∃ a S1, m S = some (.ok a, S1) ∧ f a S1 = some (fl, σ', S2)) ∨ ∃ e, m S = some (.ex e, S2) ∧ fl = .ex e ∧ σ' = σ := by
  unfold stb at h
  split at h
  · rename_i a S1 q; exact .inl ⟨a, S1, q, h⟩
  · rename_i e S1 q; cases h; exact .inr ⟨e, q, rfl, rfl⟩
  · cases h
def aNext : AS := fun σ S => some (.nx, σ, S)
def aBreak : AS := fun σ S => some (.bk, σ, S)
def aCont : AS := fun σ S => some (.ct, σ, S)
def aSeq (s t : AS) : AS := fun σ S => match s σ S with
  | some (.nx, σ1, S1) => t σ1 S1
  | r => r
def aDrop (a : AE) : AS := fun σ => stb (a σ) σ fun _ S => some (.nx, σ, S)
def aRet (a : AE) : AS := fun σ => stb (a σ) σ fun x S => some (.rt x, σ, S)
def aRetN : AS := fun σ S => some (.rt (.d .none), σ, S)
def aIfS (t : AT) (s u : AS) : AS := fun σ => stb (t σ) σ fun b => if b = true then s σ else u σ
def agName (i : Nat) : Av → AS := fun x σ S => some (.nx, σ.set i (some x), S)
def aAsg (a : AE) (g : Av → AS) : AS := fun σ => stb (a σ) σ fun x => g x σ
def aAug (i : Nat) (a : AE) (f : Av → Av → Op0) : AS := fun σ S => match σ[i]? with
  | some (some x) => stb (bnd (a σ) fun y => lf (f x y)) σ (fun z S => some (.nx, σ.set i (some z), S)) S
  | _ => none
/-! targets of several names -/
def agNil : List Av → AS := fun xs σ S => match xs with
  | [] => some (.nx, σ, S)
  | _ => none
def agCons (g : Av → AS) (gs : List Av → AS) : List Av → AS := fun xs σ S => match xs with
  | x :: r => match g x σ S with
    | some (.nx, σ1, S1) => gs r σ1 S1
    | _ => none
  | [] => none
def agTup (n : Nat) (gs : List Av → AS) : Av → AS := fun x σ S => match x with
  | .d (.tuple ds) => if ds.length = n then gs (ds.map .d) σ S else none
  | _ => none
/-! loops -/
def fu : Nat := 1000000
/-- what is walked: at a turn, nothing more or an item -/
abbrev Itm := Nat → Sg → Option (Option Av)
def fgo (it : Itm) (g : Av → AS) (b : AS) : Nat → Nat → AS
  | 0, _, _, _ => none
  | n + 1, i, σ, S => match it i S with
    | none => none
    | some none => some (.nx, σ, S)
    | some (some x) => match g x σ S with
      | some (.nx, σ1, S1) => match b σ1 S1 with
        | some (.nx, σ2, S2) => fgo it g b n (i + 1) σ2 S2
        | some (.ct, σ2, S2) => fgo it g b n (i + 1) σ2 S2
        | some (.bk, σ2, S2) => some (.nx, σ2, S2)
        | r => r
      | _ => none
def aFor (ai : Sl → M Itm) (g : Av → AS) (b : AS) : AS := fun σ => stb (ai σ) σ fun it => fgo it g b fu 0 σ
def wgo (t : AT) (b : AS) : Nat → AS
  | 0, _, _ => none
  | n + 1, σ, S => stb (t σ) σ (fun c S1 => if c = true then
      match b σ S1 with
      | some (.nx, σ2, S2) => wgo t b n σ2 S2
      | some (.ct, σ2, S2) => wgo t b n σ2 S2
      | some (.bk, σ2, S2) => some (.nx, σ2, S2)
      | r => r
    else some (.nx, σ, S1)) S
def aWhile (t : AT) (b : AS) : AS := wgo t b fu
/-! comprehensions -/
def wipeA (σ : Sl) : List Nat → Sl
  | [] => σ
  | v :: vs => (wipeA σ vs).set v none
def lgo (it : Itm) (g : Av → AS) (tt : AT) (e : AE) (σ : Sl) : Nat → Nat → List Av → Sg → Option (List Av × Sg)
  | 0, _, _, _ => none
  | n + 1, i, acc, S => match it i S with
    | none => none
    | some none => some (acc, S)
    | some (some x) => match g x σ S with
      | some (.nx, σ1, S1) => match tt σ1 S1 with
        | some (.ok true, S2) => match e σ1 S2 with
          | some (.ok y, S3) => if acc.length < 100000 then lgo it g tt e σ n (i + 1) (acc ++ [y]) S3 else none
          | _ => none
        | some (.ok false, S2) => lgo it g tt e σ n (i + 1) acc S2
        | _ => none
      | _ => none
def aLc (mk : List Av → Op0) (ai : Sl → M Itm) (g : Av → AS) (tt : AT) (e : AE) (vs : List Nat) : AE := fun σ => bnd (ai σ) fun it => bnd (lf (lgo it g tt e (wipeA σ vs) fu 0 [])) fun xs => lf (mk xs)
def aYes : AT := fun _ => ret true
/-- a new list, frozen; one's own -/
def lcF (xs : List Av) : Op0 := fun S => (allD xs).map fun ds => (.d (.list ds), S)
def lcC (xs : List Av) : Op0 := fun S => some (.o S.length, S ++ [.lst xs])
/-! ### soundness: ways -/
section
variable {P : Program} {wd : World} {K : Fg} {mg : Str → Option Value} {W : WX} {ρ : List Addr} {S S' : Sg} {F H : Hp} {σ : L2.St} {σa σa' : Sl}
/-- what an operation's relation does -/
def OpS (P : Program) (wd : World) (K : Fg) (mg : Str → Option Value) (r : R2) (f : Av → Av → Op0) : Prop := ∀ ρ S F H, Rel P wd K mg ρ S F H → ∀ v w x y, VR K ρ F v x → VR K ρ F w y → ∀ z S', f x y S = some (z, S') → ∀ Q : VK,
  (∀ ρ' F' H' u, Gw ρ F H ρ' F' H' → Rel P wd K mg ρ' S' F' H' → VR K ρ' F' u z → Q u H') → r v w H Q
def UnS (P : Program) (wd : World) (K : Fg) (mg : Str → Option Value) (r : V → Hp → VK → Prop) (f : Av → Op0) : Prop := ∀ ρ S F H, Rel P wd K mg ρ S F H → ∀ v x, VR K ρ F v x → ∀ z S', f x S = some (z, S') → ∀ Q : VK,
  (∀ ρ' F' H' u, Gw ρ F H ρ' F' H' → Rel P wd K mg ρ' S' F' H' → VR K ρ' F' u z → Q u H') → r v H Q
def CallS (P : Program) (wd : World) (K : Fg) (mg : Str → Option Value) (r : List V → Hp → VK → Prop) (f : List Av → Op0) : Prop := ∀ ρ S F H, Rel P wd K mg ρ S F H → ∀ vs xs, VRs K ρ F vs xs → ∀ z S', f xs S = some (z, S') → ∀ Q : VK,
  (∀ ρ' F' H' u, Gw ρ F H ρ' F' H' → Rel P wd K mg ρ' S' F' H' → VR K ρ' F' u z → Q u H') → r vs H Q
/-- a walk's reading -/
def WkA (P : Program) (wd : World) (K : Fg) (mg : Str → Option Value) (ρ0 : List Addr) (F0 H0 : Hp) (J : It) (it : Itm) : Prop := ∀ ρ S F H, Gw ρ0 F0 H0 ρ F H → Rel P wd K mg ρ S F H → ∀ i o, it i S = some o →
  match o with
  | none => J.stop i H
  | some x => J.go i H ∧ ∀ v H', J.yld i H v H' → ∃ ρ' F', Gw ρ F H ρ' F' H' ∧ Rel P wd K mg ρ' S F' H' ∧ VR K ρ' F' v x
def SimI (P : Program) (wd : World) (K : Fg) (mg : Str → Option Value) (W : WX) (wi : TI) (ai : Sl → M Itm) : Prop := ∀ σ σa ρ S F H, Rel P wd K mg ρ S F H → SR K ρ F σ σa → ∀ r S', ai σa S = some (r, S') → ∀ R : It → Hp → Prop,
  (∀ it, r = .ok it → ∀ ρ' F' H' J, Gw ρ F H ρ' F' H' → Rel P wd K mg ρ' S' F' H' → WkA P wd K mg ρ' F' H' J it → R J H') →
  (∀ e, r = .ex e → ∀ ρ' F' H' c d, Gw ρ F H ρ' F' H' → Rel P wd K mg ρ' S' F' H' → XR mg H' e c d → W c d σ H') → wi σ H R
section
variable {α : Type} {r : Rs α} {te ta tb tc : TE} {ae aa ab ac : AE} {tt tu : TT} {at' au : AT} {tg : TA} {ag : AA}
/-- the exception's way, gone on -/
def ExQ (P : Program) (wd : World) (K : Fg) (mg : Str → Option Value) (W : WX) (ρ : List Addr) (F H : Hp) (σ : L2.St) (r : Rs α) (S : Sg) : Prop := ∀ e, r = .ex e → ∀ ρ' F' H' c d, Gw ρ F H ρ' F' H' → Rel P wd K mg ρ' S F' H' → XR mg H' e c d → W c d σ H'
theorem ExQ.gw {ρ' : List Addr} {F' H' : Hp} (q : ExQ P wd K mg W ρ F H σ r S) (g : Gw ρ F H ρ' F' H') : ExQ P wd K mg W ρ' F' H' σ r S := fun e he a b c d f g' h x => q e he a b c d f (g.trans g') h x
theorem ExQ.gwS {ρ' : List Addr} {F' H' : Hp} (q : ExQ P wd K mg W ρ F H σ r S) (g : Gw ρ F H ρ' F' H') : ExQ P wd K mg W ρ' F' H' σ r S := q.gw g
theorem SimE.bind {f : Av → M α} (ha : SimE P wd K mg W ta aa) (hr : Rel P wd K mg ρ S F H) (hs : SR K ρ F σ σa) (h : bnd (aa σa) f S = some (r, S')) {Q : VK} (qe : ExQ P wd K mg W ρ F H σ r S')
    (k : ∀ x S1 ρ1 F1 H1 v, f x S1 = some (r, S') → Gw ρ F H ρ1 F1 H1 → Rel P wd K mg ρ1 S1 F1 H1 → VR K ρ1 F1 v x → Q v H1) : ta σ H Q := by
  rcases bnd_inv h with ⟨x, S1, e1, h⟩ | ⟨e, e1, rfl⟩
  · exact ha σ σa ρ S F H hr hs _ _ e1 Q (fun x' hx ρ1 F1 H1 v g1 r1 v1 => by cases hx; exact k x S1 ρ1 F1 H1 v h g1 r1 v1) (fun e he => nomatch he)
  · exact ha σ σa ρ S F H hr hs _ _ e1 Q (fun x' hx => nomatch hx) (fun e' he a b c d f g h x => by cases he; exact qe _ rfl a b c d f g h x)
theorem SimT.bind {f : Bool → M α} (ha : SimT P wd K mg W tt at') (hr : Rel P wd K mg ρ S F H) (hs : SR K ρ F σ σa) (h : bnd (at' σa) f S = some (r, S')) {Q : Bool → Hp → Prop} (qe : ExQ P wd K mg W ρ F H σ r S')
    (k : ∀ x S1 ρ1 F1 H1, f x S1 = some (r, S') → Gw ρ F H ρ1 F1 H1 → Rel P wd K mg ρ1 S1 F1 H1 → Q x H1) : tt σ H Q := by
  rcases bnd_inv h with ⟨x, S1, e1, h⟩ | ⟨e, e1, rfl⟩
  · exact ha σ σa ρ S F H hr hs _ _ e1 Q (fun x' hx ρ1 F1 H1 g1 r1 => by cases hx; exact k x S1 ρ1 F1 H1 h g1 r1) (fun e he => nomatch he)
  · exact ha σ σa ρ S F H hr hs _ _ e1 Q (fun x' hx => nomatch hx) (fun e' he a b c d f g h x => by cases he; exact qe _ rfl a b c d f g h x)
theorem SimA.bind {f : List Av → M α} (ha : SimA P wd K mg W tg ag) (hr : Rel P wd K mg ρ S F H) (hs : SR K ρ F σ σa) (h : bnd (ag σa) f S = some (r, S')) {Q : List V → Hp → Prop} (qe : ExQ P wd K mg W ρ F H σ r S')
    (k : ∀ xs S1 ρ1 F1 H1 vs, f xs S1 = some (r, S') → Gw ρ F H ρ1 F1 H1 → Rel P wd K mg ρ1 S1 F1 H1 → VRs K ρ1 F1 vs xs → Q vs H1) : tg σ H Q := by
  rcases bnd_inv h with ⟨x, S1, e1, h⟩ | ⟨e, e1, rfl⟩
  · exact ha σ σa ρ S F H hr hs _ _ e1 Q (fun x' hx ρ1 F1 H1 v g1 r1 v1 => by cases hx; exact k x S1 ρ1 F1 H1 v h g1 r1 v1) (fun e he => nomatch he)
  · exact ha σ σa ρ S F H hr hs _ _ e1 Q (fun x' hx => nomatch hx) (fun e' he a b c d f g h x => by cases he; exact qe _ rfl a b c d f g h x)
theorem SimI.bind {f : Itm → M α} {wi : TI} {ai : Sl → M Itm} (ha : SimI P wd K mg W wi ai) (hr : Rel P wd K mg ρ S F H) (hs : SR K ρ F σ σa) (h : bnd (ai σa) f S = some (r, S')) {Q : It → Hp → Prop} (qe : ExQ P wd K mg W ρ F H σ r S')
    (k : ∀ it S1 ρ1 F1 H1 J, f it S1 = some (r, S') → Gw ρ F H ρ1 F1 H1 → Rel P wd K mg ρ1 S1 F1 H1 → WkA P wd K mg ρ1 F1 H1 J it → Q J H1) : wi σ H Q := by
  rcases bnd_inv h with ⟨x, S1, e1, h⟩ | ⟨e, e1, rfl⟩
  · exact ha σ σa ρ S F H hr hs _ _ e1 Q (fun x' hx ρ1 F1 H1 v g1 r1 v1 => by cases hx; exact k x S1 ρ1 F1 H1 v h g1 r1 v1) (fun e he => nomatch he)
  · exact ha σ σa ρ S F H hr hs _ _ e1 Q (fun x' hx => nomatch hx) (fun e' he a b c d f g h x => by cases he; exact qe _ rfl a b c d f g h x)
end
/-! ### soundness: expressions -/
section
variable {te ta tb tc : TE} {ae aa ab ac : AE} {tt tu : TT} {at' au : AT} {tg : TA} {ag : AA} {r r' : R2} {f f' : Av → Av → Op0} {x : D} {v : V}
theorem sm_var {i : Nat} : SimE P wd K mg W (tVar i) (aVar i) := by
  intro σ σa ρ S F H hr hs r S' h Q qo qe
  unfold aVar at h
  split at h
  · rename_i y q
    cases h
    obtain ⟨v, e, hv⟩ := hs.2 _ _ q
    exact ⟨v, e, qo _ rfl ρ F H v Gw.refl hr hv⟩
  · cases h
theorem sm_c (hx : ∀ F, Dp K F v x) : SimE P wd K mg W (tC v) (aD x) := by
  intro σ σa ρ S F H hr hs r S' h Q qo qe
  cases h
  exact qo _ rfl ρ F H v Gw.refl hr (hx F)
theorem sm_int {i : Int} : SimE P wd K mg W (tC (.int i)) (aD (.int i)) := sm_c fun _ => .int i
theorem sm_str {i : Str} : SimE P wd K mg W (tC (.str i)) (aD (.str i)) := sm_c fun _ => .str i
theorem sm_bl {i : Bool} : SimE P wd K mg W (tC (.bl i)) (aD (.bool i)) := sm_c fun _ => .bl i
theorem sm_non : SimE P wd K mg W (tC .non) (aD .none) := sm_c fun _ => .non
theorem sm_op (hop : OpS P wd K mg r f) (ha : SimE P wd K mg W ta aa) (hb : SimE P wd K mg W tb ab) : SimE P wd K mg W (tOp r ta tb) (aOp f aa ab) := by
  intro σ σa ρ S F H hr hs rr S' h Q qo qe
  refine ha.bind hr hs h qe fun x S1 ρ1 F1 H1 v h g1 r1 v1 => ?_
  refine hb.bind r1 (hs.gw g1) h (ExQ.gw qe g1) fun y S2 ρ2 F2 H2 w h g2 r2 v2 => ?_
  obtain ⟨z, hz, rfl⟩ := lf_inv h
  clear h
  have h := hz
  exact hop ρ2 S2 F2 H2 r2 v w x y (v1.gw g2) v2 z S' h Q fun ρ3 F3 H3 u g3 r3 v3 => qo _ rfl ρ3 F3 H3 u ((g1.trans g2).trans g3) r3 v3
theorem sm_un {ru : V → Hp → VK → Prop} {fu : Av → Op0} (hop : UnS P wd K mg ru fu) (ha : SimE P wd K mg W ta aa) : SimE P wd K mg W (tUn ru ta) (aUn fu aa) := by
  intro σ σa ρ S F H hr hs rr S' h Q qo qe
  refine ha.bind hr hs h qe fun x S1 ρ1 F1 H1 v h g1 r1 v1 => ?_
  obtain ⟨z, hz, rfl⟩ := lf_inv h
  clear h
  have h := hz
  exact hop ρ1 S1 F1 H1 r1 v x v1 z S' h Q fun ρ3 F3 H3 u g3 r3 v3 => qo _ rfl ρ3 F3 H3 u (g1.trans g3) r3 v3
theorem sa_nil : SimA P wd K mg W tNil aNil := by
  intro σ σa ρ S F H hr hs rr S' h Q qo qe
  cases h
  exact qo _ rfl ρ F H [] Gw.refl hr .nil
theorem sa_cons (ha : SimE P wd K mg W ta aa) (hb : SimA P wd K mg W tg ag) : SimA P wd K mg W (tCons ta tg) (aCons aa ag) := by
  intro σ σa ρ S F H hr hs rr S' h Q qo qe
  refine ha.bind hr hs h qe fun x S1 ρ1 F1 H1 v h g1 r1 v1 => ?_
  refine hb.bind r1 (hs.gw g1) h (ExQ.gw qe g1) fun xs S2 ρ2 F2 H2 vs h g2 r2 v2 => ?_
  cases h
  exact qo _ rfl ρ2 F2 H2 _ (g1.trans g2) r2 (.cons (v1.gw g2) v2)
theorem sm_cb {rc : List V → Hp → VK → Prop} {fc : List Av → Op0} (hop : CallS P wd K mg rc fc) (ha : SimA P wd K mg W tg ag) : SimE P wd K mg W (tCB rc tg) (aCB fc ag) := by
  intro σ σa ρ S F H hr hs rr S' h Q qo qe
  refine ha.bind hr hs h qe fun x S1 ρ1 F1 H1 v h g1 r1 v1 => ?_
  obtain ⟨z, hz, rfl⟩ := lf_inv h
  clear h
  have h := hz
  exact hop ρ1 S1 F1 H1 r1 v x v1 z S' h Q fun ρ3 F3 H3 u g3 r3 v3 => qo _ rfl ρ3 F3 H3 u (g1.trans g3) r3 v3
theorem allD_inv : ∀ {xs : List Av} {ds : List D}, allD xs = some ds → xs = ds.map .d
  | [], ds, h => by cases h; rfl
  | .d x :: xs, ds, h => by
    obtain ⟨es, e1, rfl⟩ := Option.map_eq_some_iff.mp (show (allD xs).map (x :: ·) = some ds from h)
    rw [allD_inv e1]; rfl
  | .o _ :: _, _, h => by cases h
theorem allD_map : ∀ ds : List D, allD (ds.map .d) = some ds
  | [] => rfl
  | d :: ds => by show (allD (ds.map .d)).map (d :: ·) = _; rw [allD_map ds]; rfl
theorem dps_of : ∀ {vs : List V} {ds : List D}, VRs K ρ F vs (ds.map .d) → DpAll K F vs ds
  | _, [], h => by cases h; exact .nil
  | _, d :: ds, h => by
    cases h with
    | cons h1 h2 => exact .cons h1 (dps_of h2)
theorem vrs_of : ∀ {vs : List V} {ds : List D}, DpAll K F vs ds → VRs K ρ F vs (ds.map .d)
  | _, [], h => by cases h; exact .nil
  | _, d :: ds, h => by
    cases h with
    | cons h1 h2 => exact .cons h1 (vrs_of h2)
theorem sm_tup (ha : SimA P wd K mg W tg ag) : SimE P wd K mg W (tTup tg) (aTup ag) := by
  intro σ σa ρ S F H hr hs rr S' h Q qo qe
  refine ha.bind hr hs h qe fun xs S1 ρ1 F1 H1 vs h g1 r1 v1 => ?_
  obtain ⟨z, hz, rfl⟩ := lf_inv h
  clear h
  have h := hz
  unfold mkTup at h
  split at h
  · rename_i hl
    obtain ⟨ds, e1, e2⟩ := Option.map_eq_some_iff.mp h
    cases e2
    rw [allD_inv e1] at v1 hl
    rw [List.length_map] at hl
    have hd := dps_of v1
    refine ⟨by rw [hd.length]; exact sz_of hl, fun p hp => ?_⟩
    obtain ⟨r2, g2⟩ := r1.newF (o := .tup vs) hp
    exact qo _ rfl _ _ _ (.ref p) (g1.trans g2) r2 (.tup (st_of upd_same) (hd.up g2.fx))
  · cases h
theorem sm_lstF (ha : SimA P wd K mg W tg ag) : SimE P wd K mg W (tLst tg) (aLstF ag) := by
  intro σ σa ρ S F H hr hs rr S' h Q qo qe
  refine ha.bind hr hs h qe fun xs S1 ρ1 F1 H1 vs h g1 r1 v1 => ?_
  obtain ⟨z, hz, rfl⟩ := lf_inv h
  clear h
  have h := hz
  unfold mkLstF at h
  split at h
  · rename_i hl
    obtain ⟨ds, e1, e2⟩ := Option.map_eq_some_iff.mp h
    cases e2
    rw [allD_inv e1] at v1 hl
    rw [List.length_map] at hl
    have hd := dps_of v1
    refine ⟨by rw [hd.length]; exact sz_of hl, fun p hp => ?_⟩
    obtain ⟨r2, g2⟩ := r1.newF (o := .lst vs) hp
    exact qo _ rfl _ _ _ (.ref p) (g1.trans g2) r2 (.lst (sq_of upd_same) (hd.up g2.fx))
  · cases h
theorem get_new {ρ : List Addr} {p : Addr} : (ρ ++ [p])[ρ.length]? = some p := by simp
theorem sm_lstC (ha : SimA P wd K mg W tg ag) : SimE P wd K mg W (tLst tg) (aLstC ag) := by
  intro σ σa ρ S F H hr hs rr S' h Q qo qe
  refine ha.bind hr hs h qe fun xs S1 ρ1 F1 H1 vs h g1 r1 v1 => ?_
  obtain ⟨z, hz, rfl⟩ := lf_inv h
  clear h
  have h := hz
  unfold mkLstC at h
  split at h
  · rename_i hl
    cases h
    refine ⟨by rw [v1.len]; exact sz_of hl, fun p hp => ?_⟩
    obtain ⟨r2, g2⟩ := r1.new (c := .lst xs) (o := .lst vs) hp ⟨vs, rfl, L2.Paired.mapP v1 fun _ _ q => q.up ⟨_, rfl⟩ (Ex.refl _)⟩
    exact qo _ rfl _ _ _ (.ref p) (g1.trans g2) r2 ⟨p, by rw [← r1.len]; exact get_new, rfl⟩
  · cases h
theorem asB_inv {x : Av} {rr : Rs Bool} {S1 : Sg} (h : asB x S = some (rr, S1)) : ∃ b, x = .d (.bool b) ∧ rr = .ok b ∧ S1 = S := by
  unfold asB at h
  obtain ⟨b, e1, e2⟩ := Option.map_eq_some_iff.mp h
  cases e2
  unfold bitOf at e1
  split at e1
  · cases e1; exact ⟨_, rfl, rfl, rfl⟩
  · cases e1
theorem asB_bnd {α : Type} {x : Av} {f : Bool → M α} {rr : Rs α} {S1 : Sg} (h : bnd (asB x) f S = some (rr, S1)) : ∃ b, x = .d (.bool b) ∧ f b S = some (rr, S1) := by
  rcases bnd_inv h with ⟨b, S2, e1, h⟩ | ⟨e, e1, rfl⟩
  · obtain ⟨b', rfl, e2, rfl⟩ := asB_inv e1
    cases e2
    exact ⟨b, rfl, h⟩
  · obtain ⟨b', rfl, e2, rfl⟩ := asB_inv e1
    cases e2
theorem st_B (ha : SimE P wd K mg W ta aa) : SimT P wd K mg W (tB ta) (aB aa) := by
  intro σ σa ρ S F H hr hs rr S' h Q qo qe
  refine ha.bind hr hs h qe fun x S1 ρ1 F1 H1 v h g1 r1 v1 => ?_
  obtain ⟨b, rfl, rfl, rfl⟩ := asB_inv h
  cases v1
  exact ⟨b, rfl, qo _ rfl _ _ _ g1 r1⟩
theorem st_test (ha : SimE P wd K mg W ta aa) : SimT P wd K mg W (tTest ta) (aB aa) := st_B ha
theorem st_and (ha : SimT P wd K mg W tt at') (hb : SimT P wd K mg W tu au) : SimT P wd K mg W (tAnd tt tu) (aAnd at' au) := by
  intro σ σa ρ S F H hr hs rr S' h Q qo qe
  refine ha.bind hr hs h qe fun x S1 ρ1 F1 H1 h g1 r1 => ?_
  cases x with
  | true => exact hb σ σa ρ1 S1 F1 H1 r1 (hs.gw g1) rr S' h Q (fun b hb ρ2 F2 H2 g2 r2 => qo b hb ρ2 F2 H2 (g1.trans g2) r2) (ExQ.gw qe g1)
  | false =>
    cases (show ret false S1 = some (rr, S') from h)
    exact qo _ rfl ρ1 F1 H1 g1 r1
theorem st_or (ha : SimT P wd K mg W tt at') (hb : SimT P wd K mg W tu au) : SimT P wd K mg W (tOr tt tu) (aOr at' au) := by
  intro σ σa ρ S F H hr hs rr S' h Q qo qe
  refine ha.bind hr hs h qe fun x S1 ρ1 F1 H1 h g1 r1 => ?_
  cases x with
  | false => exact hb σ σa ρ1 S1 F1 H1 r1 (hs.gw g1) rr S' h Q (fun b hb ρ2 F2 H2 g2 r2 => qo b hb ρ2 F2 H2 (g1.trans g2) r2) (ExQ.gw qe g1)
  | true =>
    cases (show ret true S1 = some (rr, S') from h)
    exact qo _ rfl ρ1 F1 H1 g1 r1
theorem st_not (ha : SimT P wd K mg W tt at') : SimT P wd K mg W (tNot tt) (aNot at') := by
  intro σ σa ρ S F H hr hs rr S' h Q qo qe
  refine ha.bind hr hs h qe fun x S1 ρ1 F1 H1 h g1 r1 => ?_
  cases h
  exact qo _ rfl ρ1 F1 H1 g1 r1
theorem sm_and (ha : SimE P wd K mg W ta aa) (hb : SimE P wd K mg W tb ab) : SimE P wd K mg W (tAndV ta tb) (aAndV aa ab) := by
  intro σ σa ρ S F H hr hs rr S' h Q qo qe
  refine ha.bind hr hs h qe fun x S1 ρ1 F1 H1 v h g1 r1 v1 => ?_
  obtain ⟨b, rfl, h⟩ := asB_bnd h
  cases v1
  refine ⟨b, rfl, ?_⟩
  cases b with
  | true => exact hb σ σa ρ1 S1 F1 H1 r1 (hs.gw g1) rr S' h Q (fun b hb ρ2 F2 H2 v g2 r2 v2 => qo b hb ρ2 F2 H2 v (g1.trans g2) r2 v2) (ExQ.gw qe g1)
  | false =>
    cases (show ret (.d (.bool false)) S1 = some (rr, S') from h)
    exact qo _ rfl ρ1 F1 H1 _ g1 r1 (.bl false)
theorem sm_or (ha : SimE P wd K mg W ta aa) (hb : SimE P wd K mg W tb ab) : SimE P wd K mg W (tOrV ta tb) (aOrV aa ab) := by
  intro σ σa ρ S F H hr hs rr S' h Q qo qe
  refine ha.bind hr hs h qe fun x S1 ρ1 F1 H1 v h g1 r1 v1 => ?_
  obtain ⟨b, rfl, h⟩ := asB_bnd h
  cases v1
  refine ⟨b, rfl, ?_⟩
  cases b with
  | false => exact hb σ σa ρ1 S1 F1 H1 r1 (hs.gw g1) rr S' h Q (fun b hb ρ2 F2 H2 v g2 r2 v2 => qo b hb ρ2 F2 H2 v (g1.trans g2) r2 v2) (ExQ.gw qe g1)
  | true =>
    cases (show ret (.d (.bool true)) S1 = some (rr, S') from h)
    exact qo _ rfl ρ1 F1 H1 _ g1 r1 (.bl true)
theorem sm_not (ha : SimE P wd K mg W ta aa) : SimE P wd K mg W (tNotV ta) (aNotV aa) := by
  intro σ σa ρ S F H hr hs rr S' h Q qo qe
  refine ha.bind hr hs h qe fun x S1 ρ1 F1 H1 v h g1 r1 v1 => ?_
  obtain ⟨b, rfl, h⟩ := asB_bnd h
  cases v1
  cases h
  exact ⟨b, rfl, qo _ rfl ρ1 F1 H1 _ g1 r1 (.bl _)⟩
theorem sm_if (ht : SimT P wd K mg W tt at') (ha : SimE P wd K mg W ta aa) (hb : SimE P wd K mg W tb ab) : SimE P wd K mg W (tIf tt ta tb) (aIf at' aa ab) := by
  intro σ σa ρ S F H hr hs rr S' h Q qo qe
  refine ht.bind hr hs h qe fun x S1 ρ1 F1 H1 h g1 r1 => ?_
  cases x with
  | true => exact ha σ σa ρ1 S1 F1 H1 r1 (hs.gw g1) rr S' h Q (fun b hb ρ2 F2 H2 v g2 r2 v2 => qo b hb ρ2 F2 H2 v (g1.trans g2) r2 v2) (ExQ.gw qe g1)
  | false => exact hb σ σa ρ1 S1 F1 H1 r1 (hs.gw g1) rr S' h Q (fun b hb ρ2 F2 H2 v g2 r2 v2 => qo b hb ρ2 F2 H2 v (g1.trans g2) r2 v2) (ExQ.gw qe g1)
theorem sm_chain (h1 : OpS P wd K mg r f) (h2 : OpS P wd K mg r' f') (ha : SimE P wd K mg W ta aa) (hb : SimE P wd K mg W tb ab) (hc : SimE P wd K mg W tc ac) : SimE P wd K mg W (tChain r r' ta tb tc) (aChain f f' aa ab ac) := by
  intro σ σa ρ S F H hr hs rr S' h Q qo qe
  refine ha.bind hr hs h qe fun x S1 ρ1 F1 H1 v h g1 r1 v1 => ?_
  refine hb.bind r1 (hs.gw g1) h (ExQ.gw qe g1) fun y S2 ρ2 F2 H2 w h g2 r2 v2 => ?_
  rcases bnd_inv h with ⟨z, S3, e3, h⟩ | ⟨e, e3, rfl⟩
  · obtain ⟨z', e3, e4⟩ := lf_inv e3
    cases e4
    refine h1 ρ2 S2 F2 H2 r2 v w x y (v1.gw g2) v2 z S3 e3 _ fun ρ3 F3 H3 u g3 r3 v3 => ?_
    obtain ⟨b, rfl, h⟩ := asB_bnd h
    cases v3
    refine ⟨b, rfl, ?_⟩
    have g13 := (g1.trans g2).trans g3
    cases b with
    | false =>
      cases (show ret (.d (.bool false)) S3 = some (rr, S') from h)
      exact qo _ rfl ρ3 F3 H3 _ g13 r3 (.bl false)
    | true =>
      refine hc.bind r3 (hs.gw g13) h (ExQ.gw qe g13) fun z S4 ρ4 F4 H4 w' h g4 r4 v4 => ?_
      obtain ⟨z', hz, rfl⟩ := lf_inv h
      clear h
      have h := hz
      exact h2 ρ4 S4 F4 H4 r4 w w' y z (v2.gw (g3.trans g4)) v4 z' S' h Q fun ρ5 F5 H5 u g5 r5 v5 => qo _ rfl ρ5 F5 H5 u ((g13.trans g4).trans g5) r5 v5
  · obtain ⟨z', e3, e4⟩ := lf_inv e3
    cases e4
end
end
end Ly
/-! LyO: mirrors of statements, targets, loops, comprehensions. -/
namespace Ly
open PySem L2 Evl PyProof.Rows
section
variable {P : Program} {wd : World} {K : Fg} {mg : Str → Option Value} {W : WX} {ρ : List Addr} {S S' : Sg} {F H : Hp} {σ : L2.St} {σa σa' : Sl}
variable {te ta tb tc : TE} {ae aa ab ac : AE} {tt tu : TT} {at' au : AT} {tg : TA} {ag : AA} {r r' : R2} {f f' : Av → Av → Op0} {x : D} {v : V} {ts tr : TS} {as ar : AS} {gt : TG} {gs : TGs} {gm : Av → AS} {gn : List Av → AS} {fl : Fl} {D' : Ends}
/-- an exception on the way of a statement -/
theorem ExQ.of {α : Type} (q : FlQ P wd K mg W D' ρ F H fl σa' S') (hs : SR K ρ F σ σa) {rr : Rs α} (h : ∀ e, rr = .ex e → fl = .ex e ∧ σa' = σa) : ExQ P wd K mg W ρ F H σ rr S' := fun e he ρ1 F1 H1 c d g1 r1 x1 => by
  obtain ⟨rfl, rfl⟩ := h e he
  exact q ρ1 F1 H1 σ c d g1 r1 (hs.gw g1) x1
theorem SimE.stb {f : Av → Sg → Option (Fl × Sl × Sg)} (ha : SimE P wd K mg W ta aa) (hr : Rel P wd K mg ρ S F H) (hs : SR K ρ F σ σa) (h : stb (aa σa) σa f S = some (fl, σa', S')) {Q : VK} (q : FlQ P wd K mg W D' ρ F H fl σa' S')
    (k : ∀ x S1 ρ1 F1 H1 v, f x S1 = some (fl, σa', S') → Gw ρ F H ρ1 F1 H1 → Rel P wd K mg ρ1 S1 F1 H1 → VR K ρ1 F1 v x → Q v H1) : ta σ H Q := by
  rcases stb_inv h with ⟨x, S1, e1, h⟩ | ⟨e, e1, rfl, rfl⟩
  · exact ha σ σa ρ S F H hr hs _ _ e1 Q (fun x' hx ρ1 F1 H1 v g1 r1 v1 => by cases hx; exact k x S1 ρ1 F1 H1 v h g1 r1 v1) (fun e he => nomatch he)
  · exact ha σ _ ρ S F H hr hs _ _ e1 Q (fun x' hx => nomatch hx) (fun e' he a b c d f' g1 h x => by cases he; exact q a b c σ d f' g1 h (hs.gw g1) x)
theorem SimT.stb {f : Bool → Sg → Option (Fl × Sl × Sg)} (ha : SimT P wd K mg W tt at') (hr : Rel P wd K mg ρ S F H) (hs : SR K ρ F σ σa) (h : stb (at' σa) σa f S = some (fl, σa', S')) {Q : Bool → Hp → Prop} (q : FlQ P wd K mg W D' ρ F H fl σa' S')
    (k : ∀ x S1 ρ1 F1 H1, f x S1 = some (fl, σa', S') → Gw ρ F H ρ1 F1 H1 → Rel P wd K mg ρ1 S1 F1 H1 → Q x H1) : tt σ H Q := by
  rcases stb_inv h with ⟨x, S1, e1, h⟩ | ⟨e, e1, rfl, rfl⟩
  · exact ha σ σa ρ S F H hr hs _ _ e1 Q (fun x' hx ρ1 F1 H1 g1 r1 => by cases hx; exact k x S1 ρ1 F1 H1 h g1 r1) (fun e he => nomatch he)
  · exact ha σ _ ρ S F H hr hs _ _ e1 Q (fun x' hx => nomatch hx) (fun e' he a b c d f' g1 h x => by cases he; exact q a b c σ d f' g1 h (hs.gw g1) x)
theorem SimI.stb {wi : TI} {ai : Sl → M Itm} {f : Itm → Sg → Option (Fl × Sl × Sg)} (ha : SimI P wd K mg W wi ai) (hr : Rel P wd K mg ρ S F H) (hs : SR K ρ F σ σa) (h : stb (ai σa) σa f S = some (fl, σa', S')) {Q : It → Hp → Prop} (q : FlQ P wd K mg W D' ρ F H fl σa' S')
    (k : ∀ it S1 ρ1 F1 H1 J, f it S1 = some (fl, σa', S') → Gw ρ F H ρ1 F1 H1 → Rel P wd K mg ρ1 S1 F1 H1 → WkA P wd K mg ρ1 F1 H1 J it → Q J H1) : wi σ H Q := by
  rcases stb_inv h with ⟨x, S1, e1, h⟩ | ⟨e, e1, rfl, rfl⟩
  · exact ha σ σa ρ S F H hr hs _ _ e1 Q (fun x' hx ρ1 F1 H1 J g1 r1 w1 => by cases hx; exact k x S1 ρ1 F1 H1 J h g1 r1 w1) (fun e he => nomatch he)
  · exact ha σ _ ρ S F H hr hs _ _ e1 Q (fun x' hx => nomatch hx) (fun e' he a b c d f' g1 h x => by cases he; exact q a b c σ d f' g1 h (hs.gw g1) x)
theorem ss_next : SimS P wd K mg W tNext aNext := by
  intro σ σa ρ S F H hr hs fl σa' S' h D' q
  cases h
  exact q ρ F H σ Gw.refl hr hs
theorem ss_break : SimS P wd K mg W tBreak aBreak := by
  intro σ σa ρ S F H hr hs fl σa' S' h D' q
  cases h
  exact q ρ F H σ Gw.refl hr hs
theorem ss_cont : SimS P wd K mg W tCont aCont := by
  intro σ σa ρ S F H hr hs fl σa' S' h D' q
  cases h
  exact q ρ F H σ Gw.refl hr hs
theorem ss_seq (h1 : SimS P wd K mg W ts as) (h2 : SimS P wd K mg W tr ar) : SimS P wd K mg W (tSeq ts tr) (aSeq as ar) := by
  intro σ σa ρ S F H hr hs fl σa' S' h D' q
  unfold aSeq at h
  split at h
  · rename_i σ1 S1 e1
    refine h1 σ σa ρ S F H hr hs _ _ _ e1 { D' with nx := tr D' } ?_
    intro ρ1 F1 H1 σ' g1 r1 s1
    exact h2 σ' σ1 ρ1 S1 F1 H1 r1 s1 _ _ _ h D' (q.gw g1)
  · rename_i hne
    refine h1 σ σa ρ S F H hr hs _ _ _ h { D' with nx := tr D' } ?_
    cases fl with
    | nx => exact absurd h (hne _ _)
    | bk => exact q
    | ct => exact q
    | rt x => exact q
    | ex e => exact q
theorem ss_drop (ha : SimE P wd K mg W ta aa) : SimS P wd K mg W (tDrop ta) (aDrop aa) := by
  intro σ σa ρ S F H hr hs fl σa' S' h D' q
  refine ha.stb hr hs h q fun x S1 ρ1 F1 H1 v h g1 r1 v1 => ?_
  cases h
  exact q ρ1 F1 H1 σ g1 r1 (hs.gw g1)
theorem ss_ret (ha : SimE P wd K mg W ta aa) : SimS P wd K mg W (tRet ta) (aRet aa) := by
  intro σ σa ρ S F H hr hs fl σa' S' h D' q
  refine ha.stb hr hs h q fun x S1 ρ1 F1 H1 v h g1 r1 v1 => ?_
  cases h
  exact q ρ1 F1 H1 v g1 r1 v1
theorem ss_retN : SimS P wd K mg W tRetN aRetN := by
  intro σ σa ρ S F H hr hs fl σa' S' h D' q
  cases h
  exact q ρ F H .non Gw.refl hr .non
theorem ss_if (ht : SimT P wd K mg W tt at') (h1 : SimS P wd K mg W ts as) (h2 : SimS P wd K mg W tr ar) : SimS P wd K mg W (tIfS tt ts tr) (aIfS at' as ar) := by
  intro σ σa ρ S F H hr hs fl σa' S' h D' q
  refine ht.stb hr hs h q fun b S1 ρ1 F1 H1 h g1 r1 => ?_
  cases b with
  | true => exact h1 σ σa ρ1 S1 F1 H1 r1 (hs.gw g1) _ _ _ h D' (q.gw g1)
  | false => exact h2 σ σa ρ1 S1 F1 H1 r1 (hs.gw g1) _ _ _ h D' (q.gw g1)
theorem sg_name {i : Nat} : SimG P wd K mg W (gName i) (agName i) := by
  intro v x σ σa ρ S F H hr hs hv fl σa' S' h D' q
  cases h
  exact q ρ F H _ Gw.refl hr (hs.set hv)
theorem ss_asg (ha : SimE P wd K mg W ta aa) (hg : SimG P wd K mg W gt gm) : SimS P wd K mg W (tAsg ta gt) (aAsg aa gm) := by
  intro σ σa ρ S F H hr hs fl σa' S' h D' q
  refine ha.stb hr hs h q fun x S1 ρ1 F1 H1 v h g1 r1 v1 => ?_
  exact hg v x σ σa ρ1 S1 F1 H1 r1 (hs.gw g1) v1 _ _ _ h D' (q.gw g1)
/-- an operation in place, of values -/
def IpS (P : Program) (wd : World) (K : Fg) (mg : Str → Option Value) (r : TIp) (f : Av → Av → Op0) : Prop := ∀ ρ S F H, Rel P wd K mg ρ S F H → ∀ v w x y, VR K ρ F v x → VR K ρ F w y → ∀ z S', f x y S = some (z, S') → ∀ Q : VK,
  (∀ ρ' F' H' u, Gw ρ F H ρ' F' H' → Rel P wd K mg ρ' S' F' H' → VR K ρ' F' u z → Q u H') → r v w H Q
theorem ss_aug {i : Nat} {ti : TIp} (hop : IpS P wd K mg ti f) (ha : SimE P wd K mg W ta aa) : SimS P wd K mg W (tAug i ta ti) (aAug i aa f) := by
  intro σ σa ρ S F H hr hs fl σa' S' h D' q
  unfold aAug at h
  split at h
  · rename_i x hx
    obtain ⟨v, e, hv⟩ := hs.2 _ _ hx
    refine ⟨v, e, ?_⟩
    rcases stb_inv h with ⟨z, S1, e1, h⟩ | ⟨e, e1, rfl, rfl⟩
    · cases h
      refine ha.bind hr hs e1 (fun e he => nomatch he) fun y S2 ρ2 F2 H2 w h g2 r2 v2 => ?_
      obtain ⟨z', hz, ez⟩ := lf_inv h
      cases ez
      exact hop ρ2 S2 F2 H2 r2 v w x y (hv.gw g2) v2 z _ hz _ fun ρ3 F3 H3 u g3 r3 v3 => q ρ3 F3 H3 _ (g2.trans g3) r3 ((hs.gw (g2.trans g3)).set v3)
    · refine ha.bind hr hs e1 (ExQ.of q hs fun e' he => by cases he; exact ⟨rfl, rfl⟩) fun y S2 ρ2 F2 H2 w h g2 r2 v2 => ?_
      obtain ⟨z', hz, ez⟩ := lf_inv h
      cases ez
  · cases h
/-! targets of several names -/
def SimGs (P : Program) (wd : World) (K : Fg) (mg : Str → Option Value) (W : WX) (tg : TGs) (ag : List Av → AS) : Prop := ∀ vs xs σ σa ρ S F H, Rel P wd K mg ρ S F H → SR K ρ F σ σa → VRs K ρ F vs xs → ∀ σa' S', ag xs σa S = some (.nx, σa', S') → ∀ Q : L2.St → Hp → Prop,
  (∀ ρ' F' H' σ', Gw ρ F H ρ' F' H' → Rel P wd K mg ρ' S' F' H' → SR K ρ' F' σ' σa' → Q σ' H') → tg vs σ H Q
theorem sgs_nil : SimGs P wd K mg W gNil agNil := by
  intro vs xs σ σa ρ S F H hr hs hv σa' S' h Q q
  cases hv with
  | nil => cases h; exact ⟨rfl, q ρ F H σ Gw.refl hr hs⟩
  | cons _ _ => cases h
theorem sgs_cons (hg : SimG P wd K mg W gt gm) (hn : SimGs P wd K mg W gs gn) : SimGs P wd K mg W (gCons gt gs) (agCons gm gn) := by
  intro vs xs σ σa ρ S F H hr hs hv σa' S' h Q q
  cases hv with
  | nil => cases h
  | @cons v x vs xs h1 h2 =>
    have h : (match gm x σa S with
      | some (.nx, σ1, S1) => gn xs σ1 S1
      | _ => none) = some (.nx, σa', S') := h
    split at h
    · rename_i σ1 S1 e1
      refine ⟨v, vs, rfl, hg v x σ σa ρ S F H hr hs h1 _ _ _ e1 ⟨fun σ' H' => gs vs σ' H' Q, fun _ _ => False, fun _ _ => False, fun _ _ => False⟩ ?_⟩
      intro ρ1 F1 H1 σ' g1 r1 s1
      exact hn vs xs σ' σ1 ρ1 S1 F1 H1 r1 s1 (VRs.gw h2 g1) _ _ h Q fun ρ2 F2 H2 σ2 g2 r2 s2 => q ρ2 F2 H2 σ2 (g1.trans g2) r2 s2
    · cases h
theorem agCons_nx {x : List Av} {fl : Fl} (h : agCons gm gn x σa S = some (fl, σa', S')) (hn : ∀ xs σ S fl σ' S', gn xs σ S = some (fl, σ', S') → fl = .nx) : fl = .nx := by
  unfold agCons at h
  split at h
  · split at h
    · exact hn _ _ _ _ _ _ h
    · cases h
  · cases h
theorem agNil_nx {x : List Av} {fl : Fl} (h : agNil x σa S = some (fl, σa', S')) : fl = .nx := by
  unfold agNil at h
  split at h
  · cases h; rfl
  · cases h
theorem sg_tup {n : Nat} (hn : SimGs P wd K mg W gs gn) (hx : ∀ xs σ S fl σ' S', gn xs σ S = some (fl, σ', S') → fl = .nx) : SimG P wd K mg W (gTup K n gs) (agTup n gn) := by
  intro v x σ σa ρ S F H hr hs hv fl σa' S' h D' q
  unfold agTup at h
  split at h
  · rename_i ds
    split at h
    · rename_i hl
      have hv : Dp K F v (.tuple ds) := hv
      cases hv with
      | @tup a vs _ h1 h2 =>
        cases hx _ _ _ _ _ _ h
        exact ⟨a, vs, rfl, ex_t hr.fh h1, by rw [h2.length]; exact hl, hn vs _ σ σa ρ S F H hr hs (vrs_of h2) _ _ h D'.nx q⟩
    · cases h
  · cases h
/-! ### loops -/
theorem fgo_sound {J : It} {it : Itm} {b : AS} {tb : TS} {D' : Ends} {ρ0 : List Addr} {F0 H0 : Hp} (hw : WkA P wd K mg ρ0 F0 H0 J it) (hg : SimG P wd K mg W gt gm) (hb : SimS P wd K mg W tb b) :
    ∀ i m σ H, (∃ ρ S F σa fl σa' S', Gw ρ0 F0 H0 ρ F H ∧ Rel P wd K mg ρ S F H ∧ SR K ρ F σ σa ∧ fgo it gm b m i σa S = some (fl, σa', S') ∧ FlQ P wd K mg W D' ρ F H fl σa' S') →
      (J.stop i H ∧ D'.nx σ H) ∨ (J.go i H ∧ ∃ N : L2.St → Hp → Prop, (∀ σ' H', N σ' H' → ∃ m', m' < m ∧ ∃ ρ S F σa fl σa' S', Gw ρ0 F0 H0 ρ F H' ∧ Rel P wd K mg ρ S F H' ∧ SR K ρ F σ' σa ∧ fgo it gm b m' (i + 1) σa S = some (fl, σa', S') ∧ FlQ P wd K mg W D' ρ F H' fl σa' S') ∧
        ∀ x H', J.yld i H x H' → gt x σ H' fun σ2 H2 => tb { D' with nx := N, ct := N, bk := D'.nx } σ2 H2) := by
  rintro i m σ H ⟨ρ, S, F, σa, fl, σa', S', g, r, s, h, q⟩
  cases m with
  | zero => cases h
  | succ m =>
    unfold fgo at h
    split at h
    · cases h
    · rename_i e
      cases h
      exact .inl ⟨hw ρ S F H g r i _ e, q ρ F H σ Gw.refl r s⟩
    · rename_i x e
      obtain ⟨h1, h2⟩ := hw ρ S F H g r i _ e
      refine .inr ⟨h1, fun σ' H' => ∃ ρ S F σa fl σa' S', Gw ρ0 F0 H0 ρ F H' ∧ Rel P wd K mg ρ S F H' ∧ SR K ρ F σ' σa ∧ fgo it gm b m (i + 1) σa S = some (fl, σa', S') ∧ FlQ P wd K mg W D' ρ F H' fl σa' S', fun σ' H' n => ⟨m, Nat.lt_succ_self m, n⟩, fun v H' y => ?_⟩
      obtain ⟨ρ1, F1, g1, r1, v1⟩ := h2 v H' y
      split at h
      · rename_i σ1 S1 e1
        refine hg v x σ σa ρ1 S F1 H' r1 (s.gw g1) v1 _ _ _ e1 ⟨_, fun _ _ => False, fun _ _ => False, fun _ _ => False⟩ ?_
        intro ρ2 F2 H2 σ2 g2 r2 s2
        have g02 := (g.trans g1).trans g2
        have q2 := (q.gw g1).gw g2
        split at h
        · rename_i σ3 S3 e3
          refine hb σ2 σ1 ρ2 S1 F2 H2 r2 s2 _ _ _ e3 _ ?_
          intro ρ3 F3 H3 σ3' g3 r3 s3
          exact ⟨ρ3, S3, F3, σ3, fl, σa', S', g02.trans g3, r3, s3, h, q2.gw g3⟩
        · rename_i σ3 S3 e3
          refine hb σ2 σ1 ρ2 S1 F2 H2 r2 s2 _ _ _ e3 _ ?_
          intro ρ3 F3 H3 σ3' g3 r3 s3
          exact ⟨ρ3, S3, F3, σ3, fl, σa', S', g02.trans g3, r3, s3, h, q2.gw g3⟩
        · rename_i σ3 S3 e3
          cases h
          exact hb σ2 σ1 ρ2 S1 F2 H2 r2 s2 _ _ _ e3 _ q2
        · rename_i n1 n2 n3
          refine hb σ2 σ1 ρ2 S1 F2 H2 r2 s2 _ _ _ h _ ?_
          cases fl with
          | nx => exact absurd h (n1 _ _)
          | ct => exact absurd h (n2 _ _)
          | bk => exact absurd h (n3 _ _)
          | rt x => exact q2
          | ex e => exact q2
      · cases h
theorem ss_for {wi : TI} {ai : Sl → M Itm} {b : AS} {tb : TS} (hi : SimI P wd K mg W wi ai) (hg : SimG P wd K mg W gt gm) (hb : SimS P wd K mg W tb b) : SimS P wd K mg W (tFor wi gt tb) (aFor ai gm b) := by
  intro σ σa ρ S F H hr hs fl σa' S' h D' q
  refine hi.stb hr hs h q fun it S1 ρ1 F1 H1 J h g1 r1 w1 => ?_
  exact ⟨fun i m σ H => ∃ ρ S F σa fl σa' S', Gw ρ1 F1 H1 ρ F H ∧ Rel P wd K mg ρ S F H ∧ SR K ρ F σ σa ∧ fgo it gm b m i σa S = some (fl, σa', S') ∧ FlQ P wd K mg W D' ρ F H fl σa' S', ⟨fu, ρ1, S1, F1, σa, fl, σa', S', Gw.refl, r1, hs.gw g1, h, q.gw g1⟩, fgo_sound w1 hg hb⟩
theorem ss_while {b : AS} {tb : TS} (ht : SimT P wd K mg W tt at') (hb : SimS P wd K mg W tb b) : SimS P wd K mg W (tWhile tt tb) (aWhile at' b) := by
  intro σ σa ρ S F H hr hs fl σa' S' h D' q
  refine ⟨fun m σ H => ∃ ρ S F σa fl σa' S', Rel P wd K mg ρ S F H ∧ SR K ρ F σ σa ∧ wgo at' b m σa S = some (fl, σa', S') ∧ FlQ P wd K mg W D' ρ F H fl σa' S', ⟨fu, ρ, S, F, σa, fl, σa', S', hr, hs, h, q⟩, ?_⟩
  rintro m σ H ⟨ρ, S, F, σa, fl, σa', S', r, s, h, q⟩
  cases m with
  | zero => cases h
  | succ m =>
    unfold wgo at h
    refine ht.stb r s h q fun c S1 ρ1 F1 H1 h g1 r1 => ?_
    have q1 := q.gw g1
    cases c with
    | false =>
      cases (show some (Fl.nx, σa, S1) = some (fl, σa', S') from h)
      exact q ρ1 F1 H1 σ g1 r1 (s.gw g1)
    | true =>
      refine ⟨fun σ' H' => ∃ ρ S F σa fl σa' S', Rel P wd K mg ρ S F H' ∧ SR K ρ F σ' σa ∧ wgo at' b m σa S = some (fl, σa', S') ∧ FlQ P wd K mg W D' ρ F H' fl σa' S', fun σ' H' n => ⟨m, Nat.lt_succ_self m, n⟩, ?_⟩
      have h : (match b σa S1 with
        | some (.nx, σ2, S2) => wgo at' b m σ2 S2
        | some (.ct, σ2, S2) => wgo at' b m σ2 S2
        | some (.bk, σ2, S2) => some (.nx, σ2, S2)
        | r => r) = some (fl, σa', S') := h
      split at h
      · rename_i σ3 S3 e3
        refine hb σ σa ρ1 S1 F1 H1 r1 (s.gw g1) _ _ _ e3 _ ?_
        intro ρ3 F3 H3 σ3' g3 r3 s3
        exact ⟨ρ3, S3, F3, σ3, fl, σa', S', r3, s3, h, q1.gw g3⟩
      · rename_i σ3 S3 e3
        refine hb σ σa ρ1 S1 F1 H1 r1 (s.gw g1) _ _ _ e3 _ ?_
        intro ρ3 F3 H3 σ3' g3 r3 s3
        exact ⟨ρ3, S3, F3, σ3, fl, σa', S', r3, s3, h, q1.gw g3⟩
      · rename_i σ3 S3 e3
        cases h
        exact hb σ σa ρ1 S1 F1 H1 r1 (s.gw g1) _ _ _ e3 _ q1
      · rename_i n1 n2 n3
        refine hb σ σa ρ1 S1 F1 H1 r1 (s.gw g1) _ _ _ h _ ?_
        cases fl with
        | nx => exact absurd h (n1 _ _)
        | ct => exact absurd h (n2 _ _)
        | bk => exact absurd h (n3 _ _)
        | rt x => exact q1
        | ex e => exact q1
/-! ### comprehensions -/
theorem wipe_SR (h : SR K ρ F σ σa) : ∀ vs : List Nat, SR K ρ F (wipe σ vs) (wipeA σa vs)
  | [] => h
  | v :: vs => by
    have ih := wipe_SR h vs
    refine ⟨by unfold wipe wipeA; rw [List.length_set, List.length_set]; exact ih.1, fun i x q => ?_⟩
    unfold wipe
    unfold wipeA at q
    by_cases e : v = i
    · subst e
      by_cases hl : v < (wipeA σa vs).length
      · rw [List.getElem?_set_self hl] at q; cases q
      · rw [List.getElem?_eq_none (by rw [List.length_set]; omega)] at q; cases q
    · rw [List.getElem?_set_ne e] at q ⊢
      exact ih.2 i x q
/-- the heap changes at a tracked place that is no cell and no datum -/
theorem Rel.beside {p : Addr} {o : HO} (r : Rel P wd K mg ρ S F H) (hp : p ∉ ρ) (fp : F p = none) : Rel P wd K mg ρ S F (upd H p o) := by
  refine ⟨r.len, r.inj, fun b u h => ?_, fun a ha => ?_, fun i a c h1 h2 hg => ?_⟩
  · rw [upd_ne (ne_of_none h fp)]; exact r.fh b u h
  · rw [upd_ne (fun z : a = p => hp (by rw [← z]; exact ha))]; exact r.al a ha
  · obtain ⟨f, o', ho, hco⟩ := r.cell i a c h1 h2 hg
    have ne : a ≠ p := fun z => hp (by rw [← z]; exact List.mem_of_getElem? h1)
    exact ⟨f, o', by rw [upd_ne ne]; exact ho, hco⟩
/-- a tracked thing becomes a cell -/
theorem Rel.take {p : Addr} {o : HO} {c : Cl} (r : Rel P wd K mg ρ S F H) (hp : p ∉ ρ) (fp : F p = none) (ho : H p = some o) (hc : CR P wd K mg (ρ ++ [p]) F p c o) : Rel P wd K mg (ρ ++ [p]) (S ++ [c]) F H := by
  have split : ∀ {i a}, (ρ ++ [p])[i]? = some a → (i < ρ.length ∧ ρ[i]? = some a) ∨ (i = ρ.length ∧ a = p) := fun {i a} h => by
    by_cases hl : i < ρ.length
    · rw [List.getElem?_append_left hl] at h; exact .inl ⟨hl, h⟩
    · rw [List.getElem?_append_right (by omega)] at h
      have : i - ρ.length = 0 := by
        have := (List.getElem?_eq_some_iff.mp h).1
        simp at this; omega
      rw [this] at h
      exact .inr ⟨by omega, (Option.some.inj h).symm⟩
  refine ⟨by simp [r.len], fun i j a h1 h2 => ?_, r.fh, fun a ha => ?_, fun i a c' h1 h2 hg => ?_⟩
  · rcases split h1 with ⟨l1, e1⟩ | ⟨rfl, rfl⟩ <;> rcases split h2 with ⟨l2, e2⟩ | ⟨l2, e2⟩
    · exact r.inj i j a e1 e2
    · subst e2; exact absurd (List.mem_of_getElem? e1) hp
    · exact absurd (List.mem_of_getElem? e2) hp
    · exact l2.symm
  · rcases List.mem_append.mp ha with h | h
    · exact r.al a h
    · rw [List.mem_singleton.mp h, ho]; exact fun z => nomatch z
  · rcases split h1 with ⟨l1, e1⟩ | ⟨rfl, rfl⟩
    · rw [List.getElem?_append_left (by rw [← r.len]; exact l1)] at h2
      obtain ⟨f, o', ho', hco⟩ := r.cell i a c' e1 h2 hg
      exact ⟨f, o', ho', hco.up ⟨_, rfl⟩ (Ex.refl F)⟩
    · rw [r.len, List.getElem?_append_right (Nat.le_refl _)] at h2
      simp at h2
      subst h2
      exact ⟨fp, o, ho, hc⟩
/-- a tracked thing is handed out -/
theorem Rel.takeF {p : Addr} {o : HO} (r : Rel P wd K mg ρ S F H) (hp : p ∉ ρ) (fp : F p = none) (ho : H p = some o) : Rel P wd K mg ρ S (upd F p o) H := by
  refine ⟨r.len, r.inj, fun b u h => ?_, r.al, fun i a c' h1 h2 hg => ?_⟩
  · by_cases e : b = p
    · subst e; rw [upd_same] at h; cases h; exact ho
    · rw [upd_ne e] at h; exact r.fh b u h
  · obtain ⟨f, o', ho', hco⟩ := r.cell i a c' h1 h2 hg
    have ne : a ≠ p := fun z => hp (by rw [← z]; exact List.mem_of_getElem? h1)
    exact ⟨by rw [upd_ne ne]; exact f, o', ho', hco.up ⟨[], (List.append_nil _).symm⟩ (Ex.new fp)⟩
/-- how a new list that stands aside becomes a value -/
def MkS (P : Program) (wd : World) (K : Fg) (mg : Str → Option Value) (mk : List Av → Op0) : Prop := ∀ ρ0 F0 H0 ρ S F H p xs vs z S', Gw ρ0 F0 H0 ρ F H → H0 p = none → Rel P wd K mg ρ S F H → p ∉ ρ → F p = none → H p = some (.lst vs) → VRs K ρ F vs xs → mk xs S = some (z, S') →
  ∃ ρ' F', Gw ρ0 F0 H0 ρ' F' H ∧ Rel P wd K mg ρ' S' F' H ∧ VR K ρ' F' (.ref p) z
theorem mk_F : MkS P wd K mg lcF := by
  intro ρ0 F0 H0 ρ S F H p xs vs z S' g hp0 r hp fp ho hv h
  obtain ⟨ds, e1, e2⟩ := Option.map_eq_some_iff.mp h
  cases e2
  rw [allD_inv e1] at hv
  have hd := dps_of hv
  have fx : Ex F (upd F p (.lst vs)) := Ex.new fp
  refine ⟨ρ, upd F p (.lst vs), ⟨g.pre, g.fx.trans fx, fun q hq hn => ?_, g.fz⟩, r.takeF hp fp ho, .lst (sq_of upd_same) (hd.up fx)⟩
  obtain ⟨h1, h2, h3⟩ := g.out q hq hn
  exact ⟨h1, h2, by rw [upd_ne (fun z : q = p => hq (by rw [z]; exact hp0))]; exact h3⟩
theorem mk_C : MkS P wd K mg lcC := by
  intro ρ0 F0 H0 ρ S F H p xs vs z S' g hp0 r hp fp ho hv h
  cases h
  obtain ⟨t, et⟩ := g.pre
  refine ⟨ρ ++ [p], F, ⟨⟨t ++ [p], by rw [et, List.append_assoc]⟩, g.fx, fun q hq hn => ?_, g.fz⟩, r.take hp fp ho ⟨vs, rfl, L2.Paired.mapP hv fun _ _ q => q.up ⟨_, rfl⟩ (Ex.refl _)⟩, ⟨p, by rw [← r.len]; exact get_new, rfl⟩⟩
  obtain ⟨h1, h2, h3⟩ := g.out q hq hn
  refine ⟨h1, fun hm => ?_, h3⟩
  rcases List.mem_append.mp hm with h | h
  · exact h2 h
  · exact hq (by rw [List.mem_singleton.mp h]; exact hp0)
/-- what a target does to the slots that a block may see -/
theorem sm_lc {wi : TI} {ai : Sl → M Itm} {mk : List Av → Op0} {vs : List Nat} (hmk : MkS P wd K mg mk) (hi : SimI P wd K mg W wi ai) (hg : SimG P wd K mg (fun _ _ _ _ => False) gt gm) (hw : ∀ (x : V) (σ : L2.St) (H : Hp) (Q : L2.St → Hp → Prop), gt x (wipe σ vs) H Q → gt x (wipe σ vs) H fun σ2 H2 => wipe σ2 vs = wipe σ vs ∧ Q σ2 H2)
    (ht : SimT P wd K mg (fun _ _ _ _ => False) tt at') (he : SimE P wd K mg (fun _ _ _ _ => False) te ae) : SimE P wd K mg W (tLc wi gt tt te vs) (aLc mk ai gm at' ae vs) := by
  intro σ σa ρ S F H hr hs rr S' h Q qo qe
  refine hi.bind hr hs h qe fun it S1 ρ1 F1 H1 J h g1 r1 w1 => fun p hp => ?_
  rcases bnd_inv h with ⟨ys, S2, e2, h⟩ | ⟨e, e2, rfl⟩
  · obtain ⟨ys', e2, e3⟩ := lf_inv e2
    cases e3
    obtain ⟨z, hz, rfl⟩ := lf_inv h
    have f1 : F1 p = none := fresh_back r1.fh hp
    have p1 : p ∉ ρ1 := fun z => r1.al p z hp
    have up : ∀ {ρ' F' H'} (o : HO), Gw ρ1 F1 H1 ρ' F' H' → Gw ρ1 F1 H1 ρ' F' (upd H' p o) := fun {ρ' F' H'} o g => ⟨g.pre, g.fx, fun q hq hn => by
      obtain ⟨a, b, c⟩ := g.out q hq hn
      exact ⟨by rw [upd_ne (fun z : q = p => hq (by rw [z]; exact hp))]; exact a, b, c⟩, fun q o u h => by rw [upd_ne (fun z : q = p => by rw [z, hp] at h; cases h)]; exact g.fz q o u h⟩
    refine ⟨fun i m H' => ∃ ρ2 Sx F2 acc us, Gw ρ1 F1 H1 ρ2 F2 H' ∧ Rel P wd K mg ρ2 Sx F2 H' ∧ p ∉ ρ2 ∧ F2 p = none ∧ H' p = some (.lst us) ∧ VRs K ρ2 F2 us acc ∧ lgo it gm at' ae (wipeA σa vs) m i acc Sx = some (ys, S2),
      ⟨fu, ρ1, S1, F1, [], [], up _ Gw.refl, r1.beside p1 f1, p1, f1, upd_same, .nil, e2⟩, ?_⟩
    rintro i m H' ⟨ρ2, Sx, F2, acc, us, g2, r2, p2, f2, hp2, ha, hl⟩
    have s2 : SR K ρ2 F2 (wipe σ vs) (wipeA σa vs) := (wipe_SR (hs.gw g1) vs).gw g2
    cases m with
    | zero => cases hl
    | succ m =>
      unfold lgo at hl
      split at hl
      · cases hl
      · rename_i e
        cases hl
        refine .inl ⟨w1 ρ2 S2 F2 H' g2 r2 i _ e, ?_⟩
        obtain ⟨ρ3, F3, g3, r3, v3⟩ := hmk ρ1 F1 H1 ρ2 S2 F2 H' p ys us z S' g2 hp r2 p2 f2 hp2 ha hz
        exact qo _ rfl ρ3 F3 H' (.ref p) (g1.trans g3) r3 v3
      · rename_i x e
        obtain ⟨h1, h2⟩ := w1 ρ2 Sx F2 H' g2 r2 i _ e
        refine .inr ⟨h1, fun H' => ∃ ρ2 Sx F2 acc us, Gw ρ1 F1 H1 ρ2 F2 H' ∧ Rel P wd K mg ρ2 Sx F2 H' ∧ p ∉ ρ2 ∧ F2 p = none ∧ H' p = some (.lst us) ∧ VRs K ρ2 F2 us acc ∧ lgo it gm at' ae (wipeA σa vs) m (i + 1) acc Sx = some (ys, S2), fun H' n => ⟨m, Nat.lt_succ_self m, n⟩, fun v H3 y => ?_⟩
        obtain ⟨ρ3, F3, g3, r3, v3⟩ := h2 v H3 y
        have np : H' p ≠ none := by rw [hp2]; exact fun z => nomatch z
        obtain ⟨o3, p3, f3⟩ := g3.out p np p2
        refine hw v σ H3 _ ?_
        split at hl
        · rename_i σ1 S3 e4
          refine hg v x (wipe σ vs) (wipeA σa vs) ρ3 Sx F3 H3 r3 (s2.gw g3) v3 _ _ _ e4 ⟨_, fun _ _ => False, fun _ _ => False, fun _ _ => False⟩ ?_
          intro ρ4 F4 H4 σ4 g4 r4 s4
          obtain ⟨o4, p4, f4⟩ := g4.out p (by rw [o3]; exact np) p3
          split at hl
          · rename_i S5 e5
            refine ht σ4 σ1 ρ4 S3 F4 H4 r4 s4 _ _ e5 _ (fun b hb ρ5 F5 H5 g5 r5 => ?_) fun e he => nomatch he
            cases hb
            obtain ⟨o5, p5, f5⟩ := g5.out p (by rw [o4, o3]; exact np) p4
            split at hl
            · rename_i yv S6 e6
              split at hl
              · rename_i hlen
                refine he σ4 σ1 ρ5 S5 F5 H5 r5 (s4.gw g5) _ _ e6 _ (fun y' hy ρ6 F6 H6 w g6 r6 v6 => ?_) fun e he => nomatch he
                cases hy
                obtain ⟨o6, p6, f6⟩ := g6.out p (by rw [o5, o4, o3]; exact np) p5
                have g36 := ((g3.trans g4).trans g5).trans g6
                refine ⟨us, by rw [o6, o5, o4, o3]; exact hp2, sz_lt (by rw [ha.len]; exact hlen), ρ6, S6, F6, acc ++ [yv], us ++ [w], up _ (g2.trans g36), r6.beside p6 (by rw [f6, f5, f4, f3]; exact f2), p6, by rw [f6, f5, f4, f3]; exact f2, upd_same, ?_, hl⟩
                have app : ∀ {us : List V} {acc : List Av}, VRs K ρ6 F6 us acc → VRs K ρ6 F6 (us ++ [w]) (acc ++ [yv]) := fun {us acc} h => by
                  induction h with
                  | nil => exact .cons v6 .nil
                  | cons a _ ih => exact .cons a ih
                exact app (ha.gw g36)
              · cases hl
            · cases hl
          · rename_i S5 e5
            refine ht σ4 σ1 ρ4 S3 F4 H4 r4 s4 _ _ e5 _ (fun b hb ρ5 F5 H5 g5 r5 => ?_) fun e he => nomatch he
            cases hb
            obtain ⟨o5, p5, f5⟩ := g5.out p (by rw [o4, o3]; exact np) p4
            have g35 := (g3.trans g4).trans g5
            exact ⟨ρ5, S5, F5, acc, us, g2.trans g35, r5, p5, by rw [f5, f4, f3]; exact f2, by rw [o5, o4, o3]; exact hp2, ha.gw g35, hl⟩
          · cases hl
        · cases hl
  · obtain ⟨ys', e2, e3⟩ := lf_inv e2
    cases e3
theorem st_yes : SimT P wd K mg W tYes aYes := by
  intro σ σa ρ S F H hr hs rr S' h Q qo qe
  cases h
  exact qo _ rfl ρ F H Gw.refl hr
/-! what the names of a target leave -/
theorem gw_name {vs : List Nat} {j : Nat} (hw : ∀ (σ : L2.St) (x : V), wipe ((wipe σ vs).set j (some x)) vs = wipe σ vs) : ∀ x σ H Q, gName j x (wipe σ vs) H Q → gName j x (wipe σ vs) H fun σ2 H2 => wipe σ2 vs = wipe σ vs ∧ Q σ2 H2 := fun x σ H Q h => ⟨hw σ x, h⟩
end
end Ly
/-! LyP: operations as functions: data, lists that are cells. -/
namespace Ly
open PySem L2 Evl PyProof.Rows
/-! ### functions of data -/
def isTrue' (p : Prop) [Decidable p] : Bool := decide p
def fAdd : D → D → Option D
  | .int i, .int j => some (.int (i + j))
  | .str x, .str y => if x.length + y.length ≤ 100000 then some (.str (x ++ y)) else none
  | .tuple xs, .tuple ys => if xs.length + ys.length ≤ 100000 then some (.tuple (xs ++ ys)) else none
  | .list xs, .list ys => if xs.length + ys.length ≤ 100000 then some (.list (xs ++ ys)) else none
  | _, _ => none
theorem fAdd_ok : ∀ a b r, fAdd a b = some r → AddD a b r := by
  intro a b r h
  unfold fAdd at h
  split at h
  · cases h; exact .int _ _
  · split at h
    · rename_i q; cases h; exact .str _ _ q
    · cases h
  · split at h
    · rename_i q; cases h; exact .tup _ _ q
    · cases h
  · split at h
    · rename_i q; cases h; exact .list _ _ q
    · cases h
  · cases h
def fSub : D → D → Option D
  | .int i, .int j => some (.int (i - j))
  | _, _ => none
theorem fSub_ok : ∀ a b r, fSub a b = some r → SubD a b r := by
  intro a b r h
  unfold fSub at h
  split at h
  · cases h; exact .int _ _
  · cases h
open Classical in
noncomputable def fMul : D → D → Option D
  | .int i, .int j => if CMul i j ∨ CMulX i j then some (.int (i * j)) else none
  | _, _ => none
theorem fMul_ok : ∀ a b r, fMul a b = some r → MulD a b r := by
  intro a b r h
  unfold fMul at h
  split at h
  · split at h
    · rename_i q
      cases h
      rcases q with q | q
      · exact .int _ _ q
      · exact .intW _ _ q
    · cases h
  · cases h
open Classical in
noncomputable def fDiv : D → D → Option D
  | .int i, .int j => if (0 < j ∧ j < 1073741824) ∨ CDivW i j then some (.int (i / j)) else none
  | _, _ => none
theorem fDiv_ok : ∀ a b r, fDiv a b = some r → DivD a b r := by
  intro a b r h
  unfold fDiv at h
  split at h
  · split at h
    · rename_i q
      cases h
      rcases q with q | q
      · exact .int _ _ q
      · exact .intW _ _ q
    · cases h
  · cases h
def fMod : D → D → Option D
  | .int i, .int j => if 0 < j then some (.int (i % j)) else none
  | _, _ => none
theorem fMod_ok : ∀ a b r, fMod a b = some r → ModD a b r := by
  intro a b r h
  unfold fMod at h
  split at h
  · split at h
    · rename_i q; cases h; exact .int _ _ q
    · cases h
  · cases h
def fPow : D → D → Option D
  | .int i, .int j => if 0 ≤ j ∧ j ≤ 1000000 ∧ i.natAbs < 2 ^ 64 then some (.int (i ^ j.toNat)) else none
  | _, _ => none
theorem fPow_ok : ∀ a b r, fPow a b = some r → PowD a b r := by
  intro a b r h
  unfold fPow at h
  split at h
  · split at h
    · rename_i q; cases h; exact .int _ _ q
    · cases h
  · cases h
def fShr : D → D → Option D
  | .int i, .int j => if 0 ≤ j then some (.int (i / 2 ^ j.toNat)) else none
  | _, _ => none
theorem fShr_ok : ∀ a b r, fShr a b = some r → ShrD a b r := by
  intro a b r h
  unfold fShr at h
  split at h
  · split at h
    · rename_i q; cases h; exact .int _ _ q
    · cases h
  · cases h
def fBand : D → D → Option D
  | .int i, .int j => if j = 2147483647 then some (.int (i % 2147483648)) else none
  | _, _ => none
theorem fBand_ok : ∀ a b r, fBand a b = some r → BandD a b r := by
  intro a b r h
  unfold fBand at h
  split at h
  · split at h
    · rename_i q; cases h; subst q; exact .m31 _
    · cases h
  · cases h
def fLt : D → D → Option D
  | .int i, .int j => some (.bool (decide (i < j)))
  | _, _ => none
theorem fLt_ok : ∀ a b r, fLt a b = some r → LtD a b r := by
  intro a b r h
  unfold fLt at h
  split at h
  · cases h; exact .int _ _
  · cases h
def fGt : D → D → Option D
  | .int i, .int j => some (.bool (decide (j < i)))
  | _, _ => none
theorem fGt_ok : ∀ a b r, fGt a b = some r → GtD a b r := by
  intro a b r h
  unfold fGt at h
  split at h
  · cases h; exact .int _ _
  · cases h
def fLe : D → D → Option D
  | .int i, .int j => some (.bool (decide (i ≤ j)))
  | _, _ => none
theorem fLe_ok : ∀ a b r, fLe a b = some r → LeD a b r := by
  intro a b r h
  unfold fLe at h
  split at h
  · cases h; exact .int _ _
  · cases h
def fGe : D → D → Option D
  | .int i, .int j => some (.bool (decide (j ≤ i)))
  | _, _ => none
theorem fGe_ok : ∀ a b r, fGe a b = some r → GeD a b r := by
  intro a b r h
  unfold fGe at h
  split at h
  · cases h; exact .int _ _
  · cases h
def fNeg : D → Option D
  | .int i => some (.int (-i))
  | _ => none
theorem fNeg_ok : ∀ a r, fNeg a = some r → NegD a r := by
  intro a r h
  unfold fNeg at h
  split at h
  · cases h; exact .int _
  · cases h
def fEq : D → D → Option Bool
  | .int i, .int j => some (decide (i = j))
  | .str i, .str j => some (decide (i = j))
  | .bool i, .bool j => some (decide (i = j))
  | d, e => if SeqAt.shaped d = true ∧ SeqAt.shaped e = true then some (PyData.eqv d e) else none
theorem fEq_ok : ∀ a b r, fEq a b = some r → EqD a b (.bool r) := by
  intro a b r h
  unfold fEq at h
  split at h
  · cases h; exact .int _ _
  · cases h; exact .str _ _
  · cases h; exact .bool _ _
  · split at h
    · rename_i q; cases h; exact .gen _ _ q.1 q.2
    · cases h
theorem fNe_ok : ∀ a b r, fEq a b = some r → NeD a b (.bool (!r)) := by
  intro a b r h
  unfold fEq at h
  split at h
  · cases h; exact .int _ _
  · cases h; exact .str _ _
  · cases h; exact .bool _ _
  · split at h
    · rename_i q; cases h; exact .gen _ _ q.1 q.2
    · cases h
def fIn : D → D → Option Bool
  | .str x, .str z => match x.cps.toList with
    | [c] => some (decide (c ∈ z.cps.toList))
    | _ => none
  | d, .list ds => if SeqAt.shaped d = true ∧ SeqAt.shaped (.list ds) = true then some (ds.any fun z => PyData.eqv z d) else none
  | _, _ => none
theorem one_sign {x : Str} {c : Nat} (h : x.cps.toList = [c]) : x = ⟨#[c]⟩ := by
  obtain ⟨a⟩ := x
  have : a = #[c] := by
    have h : a.toList = [c] := h
    rw [← Array.toArray_toList (xs := a), h]
  rw [this]
theorem fIn_ok : ∀ a b r, fIn a b = some r → InD a b (.bool r) := by
  intro a b r h
  unfold fIn at h
  split at h
  · rename_i x z
    split at h
    · rename_i c q; cases h; rw [one_sign q]; exact .sign _ _
    · cases h
  · split at h
    · rename_i q; cases h; exact .list _ _ q.1 q.2
    · cases h
  · cases h
theorem fNin_ok : ∀ a b r, fIn a b = some r → NinD a b (.bool (!r)) := by
  intro a b r h
  unfold fIn at h
  split at h
  · rename_i x z
    split at h
    · rename_i c q; cases h; rw [one_sign q]; exact .sign _ _
    · cases h
  · split at h
    · rename_i q; cases h; exact .list _ _ q.1 q.2
    · cases h
  · cases h
def fIs : D → D → Option D
  | d, .none => some (.bool (isNon d))
  | d, .bool y => some (.bool (isBit d y))
  | _, _ => none
theorem fIs_ok : ∀ a b r, fIs a b = some r → IsD a b r := by
  intro a b r h
  unfold fIs at h
  split at h
  · cases h; exact .non _
  · cases h; exact .bit _ _
  · cases h
def fNis : D → D → Option D
  | d, .none => some (.bool (!isNon d))
  | d, .bool y => some (.bool (!isBit d y))
  | _, _ => none
theorem fNis_ok : ∀ a b r, fNis a b = some r → NisD a b r := by
  intro a b r h
  unfold fNis at h
  split at h
  · cases h; exact .non _
  · cases h; exact .bit _ _
  · cases h
def fIx : D → D → Option D
  | .list ds, .int i => atI ds i
  | .tuple ds, .int i => atI ds i
  | .str z, .int i => if z.length ≤ 100000 then (atI z.cps.toList i).map fun c => .str ⟨#[c]⟩ else none
  | _, _ => none
theorem fIx_ok : ∀ a b r, fIx a b = some r → IxD a b r := by
  intro a b r h
  unfold fIx at h
  split at h
  · exact .list _ _ _ h
  · exact .tup _ _ _ h
  · split at h
    · rename_i q
      obtain ⟨c, e1, rfl⟩ := Option.map_eq_some_iff.mp h
      exact .str _ _ _ q e1
    · cases h
  · cases h
def fSl : D → Option Int → Option Int → Option D
  | .list ds, lo, hi => some (.list (cutD ds lo hi))
  | .tuple ds, lo, hi => some (.tuple (cutD ds lo hi))
  | .str z, lo, hi => if z.length ≤ 100000 then some (.str (cutS z lo hi)) else none
  | _, _, _ => none
theorem fSl_ok : ∀ a lo hi r, fSl a lo hi = some r → SlD a lo hi r := by
  intro a lo hi r h
  unfold fSl at h
  split at h
  · cases h; exact .list _ _ _
  · cases h; exact .tup _ _ _
  · split at h
    · rename_i q; cases h; exact .str _ _ _ q
    · cases h
  · cases h
/-! calls -/
def intsOf : List D → Option (List Int)
  | [] => some []
  | .int i :: ds => (intsOf ds).map (i :: ·)
  | _ :: _ => none
def strsOf : List D → Option (List Str)
  | [] => some []
  | .str i :: ds => (strsOf ds).map (i :: ·)
  | _ :: _ => none
def boolsOf : List D → Option (List Bool)
  | [] => some []
  | .bool i :: ds => (boolsOf ds).map (i :: ·)
  | _ :: _ => none
theorem intsOf_inv : ∀ {ds : List D} {ns : List Int}, intsOf ds = some ns → ds = ns.map PyData.int
  | [], ns, h => by cases h; rfl
  | d :: ds, ns, h => by
    cases d with
    | int i =>
      obtain ⟨ms, e1, rfl⟩ := Option.map_eq_some_iff.mp (show (intsOf ds).map (i :: ·) = some ns from h)
      rw [intsOf_inv e1]; rfl
    | _ => cases h
theorem strsOf_inv : ∀ {ds : List D} {ns : List Str}, strsOf ds = some ns → ds = ns.map PyData.str
  | [], ns, h => by cases h; rfl
  | d :: ds, ns, h => by
    cases d with
    | str i =>
      obtain ⟨ms, e1, rfl⟩ := Option.map_eq_some_iff.mp (show (strsOf ds).map (i :: ·) = some ns from h)
      rw [strsOf_inv e1]; rfl
    | _ => cases h
theorem boolsOf_inv : ∀ {ds : List D} {ns : List Bool}, boolsOf ds = some ns → ds = ns.map PyData.bool
  | [], ns, h => by cases h; rfl
  | d :: ds, ns, h => by
    cases d with
    | bool i =>
      obtain ⟨ms, e1, rfl⟩ := Option.map_eq_some_iff.mp (show (boolsOf ds).map (i :: ·) = some ns from h)
      rw [boolsOf_inv e1]; rfl
    | _ => cases h
theorem intsOf_map : ∀ ns : List Int, intsOf (ns.map PyData.int) = some ns
  | [] => rfl
  | n :: ns => by show (intsOf (ns.map PyData.int)).map (n :: ·) = _; rw [intsOf_map ns]; rfl
theorem strsOf_map : ∀ ns : List Str, strsOf (ns.map PyData.str) = some ns
  | [] => rfl
  | n :: ns => by show (strsOf (ns.map PyData.str)).map (n :: ·) = _; rw [strsOf_map ns]; rfl
theorem boolsOf_map : ∀ ns : List Bool, boolsOf (ns.map PyData.bool) = some ns
  | [] => rfl
  | n :: ns => by show (boolsOf (ns.map PyData.bool)).map (n :: ·) = _; rw [boolsOf_map ns]; rfl
def fLen : List D → Option D
  | [.list ds] => some (.int (ds.length : Nat))
  | [.tuple ds] => some (.int (ds.length : Nat))
  | [.str z] => if z.length ≤ 100000 then some (.int (z.length : Nat)) else none
  | _ => none
theorem fLen_ok : ∀ ds r, fLen ds = some r → LenD ds r := by
  intro ds r h
  unfold fLen at h
  split at h
  · cases h; exact .list _
  · cases h; exact .tup _
  · split at h
    · rename_i q; cases h; exact .str _ q
    · cases h
  · cases h
def fMax : List D → Option D
  | [.int i, .int j] => some (.int (max i j))
  | _ => none
theorem fMax_ok : ∀ ds r, fMax ds = some r → MaxD ds r := by
  intro ds r h
  unfold fMax at h
  split at h
  · cases h; exact .int _ _
  · cases h
def fMin : List D → Option D
  | [.int i, .int j] => some (.int (min i j))
  | _ => none
theorem fMin_ok : ∀ ds r, fMin ds = some r → MinD ds r := by
  intro ds r h
  unfold fMin at h
  split at h
  · cases h; exact .int _ _
  · cases h
def fIntB : List D → Option D
  | [.bool b] => some (.int (if b then 1 else 0))
  | _ => none
theorem fIntB_ok : ∀ ds r, fIntB ds = some r → IntD ds r := by
  intro ds r h
  unfold fIntB at h
  split at h
  · cases h; exact .bool _
  · cases h
def fAll : List D → Option D
  | [.list ds] => (boolsOf ds).map fun bs => .bool (bs.all id)
  | _ => none
theorem fAll_ok : ∀ ds r, fAll ds = some r → AllD ds r := by
  intro ds r h
  unfold fAll at h
  split at h
  · obtain ⟨bs, e1, rfl⟩ := Option.map_eq_some_iff.mp h
    rw [boolsOf_inv e1]; exact .list bs
  · cases h
def fAny : List D → Option D
  | [.list ds] => (boolsOf ds).map fun bs => .bool (bs.any id)
  | _ => none
theorem fAny_ok : ∀ ds r, fAny ds = some r → AnyD ds r := by
  intro ds r h
  unfold fAny at h
  split at h
  · obtain ⟨bs, e1, rfl⟩ := Option.map_eq_some_iff.mp h
    rw [boolsOf_inv e1]; exact .list bs
  · cases h
def fSum : List D → Option D
  | [.list ds] => (intsOf ds).map fun ns => .int ns.sum
  | [.tuple ds] => (intsOf ds).map fun ns => .int ns.sum
  | _ => none
theorem fSum_ok : ∀ ds r, fSum ds = some r → SumTD ds r := by
  intro ds r h
  unfold fSum at h
  split at h
  · obtain ⟨bs, e1, rfl⟩ := Option.map_eq_some_iff.mp h
    rw [intsOf_inv e1]; exact .list bs
  · obtain ⟨bs, e1, rfl⟩ := Option.map_eq_some_iff.mp h
    rw [intsOf_inv e1]; exact .tup bs
  · cases h
def fDivmod : List D → Option D
  | [.int i, .int j] => if 0 < j ∧ j < 1073741824 then some (.tuple [.int (i / j), .int (i % j)]) else none
  | _ => none
theorem fDivmod_ok : ∀ ds r, fDivmod ds = some r → DivmodD ds r := by
  intro ds r h
  unfold fDivmod at h
  split at h
  · split at h
    · rename_i q; cases h; exact .int _ _ q
    · cases h
  · cases h
def fStr : List D → Option D
  | [.int i] => if i.natAbs.log2 < 1920 then some (.str (toString i)) else none
  | [.str z] => some (.str z)
  | _ => none
theorem fStr_ok : ∀ ds r, fStr ds = some r → StrD ds r := by
  intro ds r h
  unfold fStr at h
  split at h
  · split at h
    · rename_i q; cases h; exact .int _ q
    · cases h
  · cases h; exact .str _
  · cases h
/-! methods of texts -/
def fIndexS : D → List D → Option D
  | .str a, [.str b] => match Builtin.Str.occurrences a b 0 a.length 1 with
    | i :: _ => some (.int (i : Int))
    | [] => none
  | _, _ => none
theorem fIndexS_ok : ∀ d ds r, fIndexS d ds = some r → IndexD d ds r := by
  intro d ds r h
  unfold fIndexS at h
  split at h
  · split at h
    · rename_i q; cases h; exact .mk _ _ _ _ q
    · cases h
  · cases h
def fJoin : D → List D → Option D
  | .str a, [.list ds] => match strsOf ds with
    | some ys => if (ys.map (·.length)).sum + ys.length * a.length ≤ 16777216 then some (.str (Txt.join a ys)) else none
    | none => none
  | _, _ => none
theorem fJoin_ok : ∀ d ds r, fJoin d ds = some r → JoinD d ds r := by
  intro d ds r h
  unfold fJoin at h
  split at h
  · split at h
    · rename_i q
      split at h
      · rename_i q2; cases h; rw [strsOf_inv q]; exact .list _ _ q2
      · cases h
    · cases h
  · cases h
/-! ### data operations in the mirror -/
def opD (f : D → D → Option D) : Av → Av → Op0 := fun x y S => match x, y with
  | .d a, .d b => (f a b).map fun r => (.d r, S)
  | _, _ => none
def unD (f : D → Option D) : Av → Op0 := fun x S => match x with
  | .d a => (f a).map fun r => (.d r, S)
  | _ => none
/-- what a value is as a datum, now -/
def dvn : Nat → Sg → Av → Option D
  | _, _, .d x => some x
  | 0, _, .o _ => none
  | n + 1, S, .o j => match S[j]? with
    | some (.lst xs) => (xs.mapM (dvn n S)).map .list
    | _ => none
/-- of data as they stand now; the answer a truth -/
def opB (f : D → D → Option Bool) : Av → Av → Op0 := fun x y S => match dvn 4 S x, dvn 4 S y with
  | some a, some b => (f a b).map fun r => (.d (.bool r), S)
  | _, _ => none
def opBn (f : D → D → Option Bool) : Av → Av → Op0 := fun x y S => match dvn 4 S x, dvn 4 S y with
  | some a, some b => (f a b).map fun r => (.d (.bool (!r)), S)
  | _, _ => none
/-- is: a cell is never None, True, False -/
def opIs (f : D → D → Option D) (neg : Bool) : Av → Av → Op0 := fun x y S => match x, y with
  | .d a, .d b => (f a b).map fun r => (.d r, S)
  | .o j, .d .none => match S[j]? with
    | some c => some (.d (.bool neg), S)
    | none => none
  | _, _ => none
def cbD (f : List D → Option D) : List Av → Op0 := fun xs S => match allD xs with
  | some ds => (f ds).map fun r => (.d r, S)
  | none => none
/-- .. of lists as they stand now -/
def dvs (S : Sg) : List Av → Option (List D) := fun xs => xs.mapM (dvn 4 S)
def cbN (f : List D → Option D) : List Av → Op0 := fun xs S => match dvs S xs with
  | some ds => (f ds).map fun r => (.d r, S)
  | none => none
def bmD (f : D → List D → Option D) : Av → List Av → Op0 := fun x xs S => match x, dvs S xs with
  | .d a, some ds => (f a ds).map fun r => (.d r, S)
  | _, _ => none
section
variable {P : Program} {wd : World} {K : Fg} {mg : Str → Option Value} {W : WX} {ρ : List Addr} {S S' : Sg} {F H F2 H2 : Hp} {σ : L2.St} {σa σa' : Sl} {v : V} {x : Av}
theorem Rel.gr (r : Rel P wd K mg ρ S F H) (g : Gr F H F2 H2) : Rel P wd K mg ρ S F2 H2 ∧ Gw ρ F H ρ F2 H2 := by
  have n0 : ∃ t, ρ = ρ ++ t := ⟨[], (List.append_nil _).symm⟩
  refine ⟨⟨r.len, r.inj, g.fh, fun a ha => ex_nn g.hx (r.al a ha), fun i a c h1 h2 hg => ?_⟩, ⟨n0, g.fx, fun p hp hn => ?_, fun p o u h => g.hx p _ h⟩⟩
  · obtain ⟨f, o, ho, hc⟩ := r.cell i a c h1 h2 hg
    exact ⟨(g.old a (by rw [ho]; exact fun z => nomatch z)).trans f, o, g.hx a o ho, hc.up n0 g.fx⟩
  · refine ⟨?_, hn, g.old p hp⟩
    cases q : H p with
    | none => exact absurd q hp
    | some o => exact g.hx p o q
theorem Rel.grH (r : Rel P wd K mg ρ S F H) (g : Gr H H F2 H2) : Rel P wd K mg ρ S F H2 ∧ Gw ρ F H ρ F H2 := r.gr ⟨Ex.refl F, g.hx, r.fh.trans g.hx, fun _ _ => rfl⟩
theorem os_D {R : D → D → D → Prop} {f : D → D → Option D} (h : ∀ a b r, f a b = some r → R a b r) : OpS P wd K mg (rD2 K R) (opD f) := by
  intro ρ S F H hr v w x y hv hw z S' e Q q
  unfold opD at e
  split at e
  · rename_i a b
    obtain ⟨r, e1, e2⟩ := Option.map_eq_some_iff.mp e
    cases e2
    exact ⟨F, a, b, r, hr.fh, hv, hw, h _ _ _ e1, fun u F2 H2 g hu => q ρ F2 H2 u (hr.gr g).2 (hr.gr g).1 hu⟩
  · cases e
theorem us_D {R : D → D → Prop} {f : D → Option D} (h : ∀ a r, f a = some r → R a r) : UnS P wd K mg (rD1 K R) (unD f) := by
  intro ρ S F H hr v x hv z S' e Q q
  unfold unD at e
  split at e
  · rename_i a
    obtain ⟨r, e1, e2⟩ := Option.map_eq_some_iff.mp e
    cases e2
    exact ⟨F, a, r, hr.fh, hv, h _ _ e1, fun u F2 H2 g hu => q ρ F2 H2 u (hr.gr g).2 (hr.gr g).1 hu⟩
  · cases e
theorem Rel.at (r : Rel P wd K mg ρ S F H) {j : Nat} {c : Cl} (hv : VR K ρ F v (.o j)) (hs : S[j]? = some c) (hg : c ≠ .gone) : ∃ a o, v = .ref a ∧ ρ[j]? = some a ∧ F a = none ∧ H a = some o ∧ CR P wd K mg ρ F a c o := by
  obtain ⟨a, h1, rfl⟩ := hv
  obtain ⟨f, o, ho, hc⟩ := r.cell j a c h1 hs hg
  exact ⟨a, o, rfl, h1, f, ho, hc⟩
theorem Rel.atL (r : Rel P wd K mg ρ S F H) {j : Nat} {xs : List Av} (hv : VR K ρ F v (.o j)) (hs : S[j]? = some (.lst xs)) : ∃ a vs, v = .ref a ∧ ρ[j]? = some a ∧ F a = none ∧ H a = some (.lst vs) ∧ VRs K ρ F vs xs := by
  obtain ⟨a, o, e, h1, h2, h3, vs, rfl, h4⟩ := r.at hv hs (fun z => nomatch z)
  exact ⟨a, vs, e, h1, h2, h3, h4⟩
theorem mapM_cons_some {α β : Type} {f : α → Option β} {x : α} {xs : List α} {r : List β} (h : (x :: xs).mapM f = some r) : ∃ y ys, f x = some y ∧ xs.mapM f = some ys ∧ r = y :: ys := by
  rw [List.mapM_cons] at h
  cases e1 : f x with
  | none => rw [e1] at h; cases h
  | some y =>
    rw [e1] at h
    cases e2 : xs.mapM f with
    | none => rw [e2] at h; cases h
    | some ys =>
      rw [e2] at h
      cases h
      exact ⟨y, ys, rfl, rfl, rfl⟩
/-- a value as it stands is that datum -/
theorem dvn_ok (r : Rel P wd K mg ρ S F H) : ∀ (n : Nat) (x : Av) (v : V) (d : D), dvn n S x = some d → VR K ρ F v x → Dp K H v d
  | n, .d x, v, d, h, hv => by
    have e : dvn n S (.d x) = some x := by cases n <;> rfl
    rw [e] at h
    cases h
    exact Dp.up hv r.fh
  | 0, .o _, v, d, h, hv => by cases h
  | n + 1, .o j, v, d, h, hv => by
    unfold dvn at h
    split at h
    · rename_i xs hs
      obtain ⟨ds, e1, rfl⟩ := Option.map_eq_some_iff.mp h
      obtain ⟨a, vs, rfl, h1, h2, h3, h4⟩ := r.atL hv hs
      refine .lst (sq_of h3) ?_
      clear h hs hv h3
      have all : ∀ (xs : List Av) (vs : List V) (ds : List D), xs.mapM (dvn n S) = some ds → VRs K ρ F vs xs → DpAll K H vs ds := by
        intro xs
        induction xs with
        | nil => intro vs ds e h; cases h; cases e; exact .nil
        | cons x xs ih =>
          intro vs ds e h
          obtain ⟨y, ys, ey, eys, rfl⟩ := mapM_cons_some e
          cases h with
          | cons a b => exact .cons (dvn_ok r n _ _ _ ey a) (ih _ _ eys b)
      exact all xs vs ds e1 h4
    · cases h
theorem dvs_ok (r : Rel P wd K mg ρ S F H) : ∀ (xs : List Av) (vs : List V) (ds : List D), dvs S xs = some ds → VRs K ρ F vs xs → DpAll K H vs ds
  | [], _, ds, h, hv => by cases hv; cases h; exact .nil
  | x :: xs, _, ds, h, hv => by
    obtain ⟨y, ys, ey, eys, rfl⟩ := mapM_cons_some h
    cases hv with
    | cons a b => exact .cons (dvn_ok r 4 _ _ _ ey a) (dvs_ok r xs _ _ eys b)
/-- scalars -/
def isSc : D → Bool
  | .none => true
  | .bool _ => true
  | .int _ => true
  | .str _ => true
  | _ => false
theorem sc_up {d : D} {F F' : Hp} (h : isSc d = true) (hv : Dp K F v d) : Dp K F' v d := by
  cases hv <;> first | constructor; done | cases h
theorem os_B {R : D → D → D → Prop} {f : D → D → Option Bool} (h : ∀ a b r, f a b = some r → R a b (.bool r)) : OpS P wd K mg (rD2 K R) (opB f) := by
  intro ρ S F H hr v w x y hv hw z S' e Q q
  unfold opB at e
  split at e
  · rename_i a b e1 e2
    obtain ⟨r, e3, e4⟩ := Option.map_eq_some_iff.mp e
    cases e4
    exact ⟨H, a, b, _, Ex.refl H, dvn_ok hr _ _ _ _ e1 hv, dvn_ok hr _ _ _ _ e2 hw, h _ _ _ e3, fun u F2 H2 g hu => q ρ F H2 u (hr.grH g).2 (hr.grH g).1 (sc_up (d := .bool r) rfl hu)⟩
  · cases e
theorem os_Bn {R : D → D → D → Prop} {f : D → D → Option Bool} (h : ∀ a b r, f a b = some r → R a b (.bool (!r))) : OpS P wd K mg (rD2 K R) (opBn f) := by
  intro ρ S F H hr v w x y hv hw z S' e Q q
  unfold opBn at e
  split at e
  · rename_i a b e1 e2
    obtain ⟨r, e3, e4⟩ := Option.map_eq_some_iff.mp e
    cases e4
    exact ⟨H, a, b, _, Ex.refl H, dvn_ok hr _ _ _ _ e1 hv, dvn_ok hr _ _ _ _ e2 hw, h _ _ _ e3, fun u F2 H2 g hu => q ρ F H2 u (hr.grH g).2 (hr.grH g).1 (sc_up (d := .bool (!r)) rfl hu)⟩
  · cases e
theorem cs_D {R : List D → D → Prop} {f : List D → Option D} (h : ∀ ds r, f ds = some r → R ds r) : CallS P wd K mg (rDn K R) (cbD f) := by
  intro ρ S F H hr vs xs hv z S' e Q q
  unfold cbD at e
  split at e
  · rename_i ds e1
    obtain ⟨r, e3, e4⟩ := Option.map_eq_some_iff.mp e
    cases e4
    rw [allD_inv e1] at hv
    exact ⟨F, ds, r, hr.fh, dps_of hv, h _ _ e3, fun u F2 H2 g hu => q ρ F2 H2 u (hr.gr g).2 (hr.gr g).1 hu⟩
  · cases e
theorem cs_N {R : List D → D → Prop} {f : List D → Option D} (h : ∀ ds r, f ds = some r → R ds r) (hsc : ∀ ds r, f ds = some r → isSc r = true) : CallS P wd K mg (rDn K R) (cbN f) := by
  intro ρ S F H hr vs xs hv z S' e Q q
  unfold cbN at e
  split at e
  · rename_i ds e1
    obtain ⟨r, e3, e4⟩ := Option.map_eq_some_iff.mp e
    cases e4
    exact ⟨H, ds, r, Ex.refl H, dvs_ok hr _ _ _ e1 hv, h _ _ e3, fun u F2 H2 g hu => q ρ F H2 u (hr.grH g).2 (hr.grH g).1 (sc_up (hsc _ _ e3) hu)⟩
  · cases e
end
end Ly
/-! LyQ: defs by mirrors, calls, freezing, walks, lists that are cells. -/
namespace Ly
open PySem L2 Evl PyProof.Rows
/-! ### defs -/
def aDef (np n : Nat) (b : AS) : AF := fun xs S => if xs.length = np then
    match b (xs.map some ++ List.replicate (n - np) none) S with
    | some (.rt x, _, S') => some (.ok x, S')
    | some (.nx, _, S') => some (.ok (.d .none), S')
    | some (.ex e, _, S') => some (.ex e, S')
    | _ => none
  else none
section
variable (P : Program) (wd : World) (K : Fg) (mg : Str → Option Value)
def spA (f : AF) : Sp := fun vs H Q E => ∃ ρ S F xs r S', Rel P wd K mg ρ S F H ∧ VRs K ρ F vs xs ∧ f xs S = some (r, S') ∧
  (∀ x, r = .ok x → ∀ ρ' F' H' v, Gw ρ F H ρ' F' H' → Rel P wd K mg ρ' S' F' H' → VR K ρ' F' v x → Q v H') ∧
  (∀ e, r = .ex e → ∀ ρ' F' H' c d, Gw ρ F H ρ' F' H' → Rel P wd K mg ρ' S' F' H' → XR mg H' e c d → E c d H')
end
/-- a def that keeps its mirror's promise stands under its name -/
structure DkA (P : Program) (w : World) (K : Fg) (mg : Str → Option Value) (base : Heap) (k : Nat) (x : Str) (ps : List Str) (f : AF) : Prop where
  ex : ∃ a fd, mg x = some (.ref a) ∧ FnOk P w K mg base (L2.CX P w) k a fd ps (spA P w K mg f) ∧ PySem.W.keepIn K (.ref a) = true ∧ Binds K fd ps [] ∧ ∃ o, K.lookup a = some o ∧ o.data = .func fd
def WOf (E : XK) : WX := fun c d _ H => E c d H
section
variable {P : Program} {w wd : World} {K : Fg} {mg : Str → Option Value} {base : Heap} {k : Nat} {x : Str} {st : Stmt} {N ps : List Str} {W : WX} {ρ : List Addr} {S S' : Sg} {F H : Hp} {σ : L2.St} {σa σa' : Sl}
theorem start_SR {vs : List V} {xs : List Av} (h : VRs K ρ F vs xs) (hl : xs.length ≤ N.length) : SR K ρ F (L2.start N vs) (xs.map some ++ List.replicate (N.length - xs.length) none) := by
  have e := h.len
  unfold L2.start
  rw [e]
  have all : ∀ {vs : List V} {xs : List Av} (m : Nat), VRs K ρ F vs xs → SR K ρ F (vs.map some ++ List.replicate m none) (xs.map some ++ List.replicate m none) := by
    intro vs xs m h
    induction h with
    | nil =>
      refine ⟨by simp, fun i x q => ?_⟩
      simp only [List.map_nil, List.nil_append] at q
      have := List.mem_of_getElem? q
      rw [List.mem_replicate] at this
      exact nomatch this.2
    | @cons v y vs ys h1 h2 ih =>
      refine ⟨by simp [Paired.length h2], fun i x q => ?_⟩
      cases i with
      | zero =>
        have q : some (some y) = some (some x) := q
        cases q
        exact ⟨v, rfl, h1⟩
      | succ i => exact ih.2 i x q
  exact all _ h
theorem aDef_inv {np n : Nat} {b : AS} {xs : List Av} {r : Rs Av} (h : aDef np n b xs S = some (r, S')) : xs.length = np ∧ ∃ fl σ', b (xs.map some ++ List.replicate (n - np) none) S = some (fl, σ', S') ∧
    ((∃ x, fl = .rt x ∧ r = .ok x) ∨ (fl = .nx ∧ r = .ok (.d .none)) ∨ ∃ e, fl = .ex e ∧ r = .ex e) := by
  unfold aDef at h
  split at h
  · rename_i hl
    refine ⟨hl, ?_⟩
    split at h
    · rename_i q; cases h; exact ⟨_, _, q, .inl ⟨_, rfl, rfl⟩⟩
    · rename_i q; cases h; exact ⟨_, _, q, .inr (.inl ⟨rfl, rfl⟩)⟩
    · rename_i q; cases h; exact ⟨_, _, q, .inr (.inr ⟨_, rfl, rfl⟩)⟩
    · cases h
  · cases h
theorem Df.dkA {np n : Nat} {as : AS} (D0 : Df K mg x st ps) (S0 : FnScope N ps (defScope st)) (hb : ∀ (f : Addr) (cdv : Value) (A : Around) (outer : List Env) (s : Shared) (H : Hp) (E : XK), Room k (A.deeper (envOfC x (defScope st) s.heap.objs.size f cdv)) →
      ∃ t, PSs (cxOf (L2.CX P w) P w K mg base N x (defScope st) f cdv A outer s H E) (defBody st) t ∧ SimS P w K mg (WOf E) t as) (h1 : np = ps.length := by rfl) (h2 : n = N.length := by rfl) (h3 : ps.length ≤ N.length := by decide) : DkA P w K mg base (k + 1) x ps (aDef np n as) := by
  subst h1 h2
  obtain ⟨f, fd, Fn, hm, b⟩ := D0.ex
  refine ⟨f, fd, hm, Fn.okX S0 (fun vs H Q E ⟨ρ, S, F, xs, r, S', hr, hv, hf, _, _⟩ => by rw [hv.len]; exact (aDef_inv hf).1) fun cdv A outer s H vs Q E hr h => ?_, Fn.kp, .all b, fun_at Fn⟩
  obtain ⟨t, p1, p2⟩ := hb f cdv A outer s H E hr
  refine ⟨t, p1, ?_⟩
  obtain ⟨ρ, S, F, xs, r, S', hR, hv, hf, q1, q2⟩ := h
  obtain ⟨hl, fl, σ', e1, e2⟩ := aDef_inv hf
  rw [← hl] at e1
  refine p2 _ _ ρ S F H hR (start_SR hv (by rw [hl]; exact h3)) _ _ _ e1 _ ?_
  rcases e2 with ⟨x, rfl, rfl⟩ | ⟨rfl, rfl⟩ | ⟨e, rfl, rfl⟩
  · exact fun ρ' F' H' v g r' v' => q1 _ rfl ρ' F' H' v g r' v'
  · exact fun ρ' F' H' σ2 g r' s' => q1 _ rfl ρ' F' H' .non g r' .non
  · exact fun ρ' F' H' σ2 c d g r' s' x' => q2 _ rfl ρ' F' H' c d g r' x'
theorem DkA.mono {f : AF} {j : Nat} (h : DkA P w K mg base k x ps f) (hj : k ≤ j) : DkA P w K mg base j x ps f := by
  obtain ⟨a, fd, h1, h2, h3, h4, h5⟩ := h.ex
  exact ⟨a, fd, h1, h2.mono hj, h3, h4, h5⟩
/-- a mirror that is more often stuck -/
theorem DkA.imp {f g : AF} (h : DkA P w K mg base k x ps f) (e : ∀ xs S r S', g xs S = some (r, S') → f xs S = some (r, S')) : DkA P w K mg base k x ps g := by
  obtain ⟨a, fd, h1, h2, h3, h4, h5⟩ := h.ex
  exact ⟨a, fd, h1, h2.imp fun vs H Q E ⟨ρ, S, F, xs, r, S', a1, a2, a3, a4, a5⟩ => ⟨ρ, S, F, xs, r, S', a1, a2, e _ _ _ _ a3, a4, a5⟩, h3, h4, h5⟩
/-- of a def that is never called so, anything -/
theorem Df.dkA0 (D0 : Df K mg x st ps) : DkA P w K mg base k x ps (fun _ => stuck) := by
  obtain ⟨f, fd, F, hm, b⟩ := D0.ex
  exact ⟨f, fd, hm, ⟨fun vs H Q E ⟨ρ, S, F, xs, r, S', a1, a2, a3, _⟩ => (by cases a3), fun A outer s H args us vs Q E hr he hb hv ⟨ρ, S, F, xs, r, S', a1, a2, a3, _⟩ => (by cases a3)⟩, F.kp, .all b, fun_at F⟩
/-! calls -/
theorem clA {X : Cx} {f : AF} {p pos : Pos} {e : Expr} {es : List Expr} {t : TA} {j : Nat} (h : DkA P w K mg base k x ps f) (hr : Room j X.A) (tk : Takes X W) (ha : PA X (e :: es) t) (hj : k ≤ j := by first | decide | omega) (hg : Gl X x := by rfl)
    (hP : X.prog = P := by rfl) (hw : X.w = w := by rfl) (hK : X.K = K := by rfl) (hm : X.mg = mg := by rfl) (hB : X.base = base := by rfl)
    (hdb : (x == ("__debug__" : Str)) = false := by decide) (he : starEach (e :: es) X.env = (false, eval e X.env) :: starEach es X.env := by rfl) (hpl : (backTo pos (starEach es X.env)).any (·.1) = false := by rfl) :
    PE X (.Call (.Name x p) (e :: es) [] pos) (tCallS (spA P w K mg f) (WE W) t) := by
  subst hP hw hK hm hB
  obtain ⟨a, fd, h1, h2, h3, h4, _⟩ := h.ex
  exact pe_callS h2 (hr.mono hj) hg h1 h3 h4 (passAt tk) ha hdb he hpl
/-- a def's mirror among cells -/
theorem sm_call {f : AF} {t : TA} {ag : AA} (ha : SimA P w K mg W t ag) : SimE P w K mg W (tCallS (spA P w K mg f) (WE W) t) (aCall f ag) := by
  intro σ σa ρ S F H hr hs rr S' h Q qo qe
  refine ha.bind hr hs h qe fun xs S1 ρ1 F1 H1 vs h g1 r1 v1 => ?_
  exact ⟨ρ1, S1, F1, xs, rr, S', r1, v1, h, fun x hx ρ' F' H' v g r v' => qo x hx ρ' F' H' v (g1.trans g) r v', fun e he ρ' F' H' c d g r x' => qe e he ρ' F' H' c d (g1.trans g) r x'⟩
/-- what a mirror gives of data, with no cells about -/
def pf (f : AF) (ds : List D) : Option (Rs D) := match f (ds.map .d) [] with
  | some (.ok (.d r), _) => some (.ok r)
  | some (.ex e, _) => some (.ex e)
  | _ => none
def aCallP (f : AF) (t : AA) : AE := fun σ => bnd (t σ) fun xs S => match allD xs with
  | some ds => match pf f ds with
    | some (.ok r) => some (.ok (.d r), S)
    | some (.ex e) => some (.ex e, S)
    | none => none
  | none => none
/-- .. of cells as they stand now, the answer a scalar -/
def aCallN (f : AF) (t : AA) : AE := fun σ => bnd (t σ) fun xs S => match dvs S xs with
  | some ds => match pf f ds with
    | some (.ok r) => if isSc r then some (.ok (.d r), S) else none
    | some (.ex e) => some (.ex e, S)
    | none => none
  | none => none
theorem Rel.none {F H : Hp} (fh : Ex F H) : Rel P w K mg [] [] F H := ⟨rfl, fun i j a h => (by simp at h), fh, fun a ha => (nomatch ha), fun i a c h => (by simp at h)⟩
/-- what a call among no cells leaves -/
theorem Rel.alone {ρ' : List Addr} {F' H' : Hp} {S2 : Sg} (r : Rel P w K mg ρ S F H) (g : Gw [] F H ρ' F' H') (r' : Rel P w K mg ρ' S2 F' H') : Rel P w K mg ρ S F' H' ∧ Gw ρ F H ρ F' H' := by
  refine ⟨⟨r.len, r.inj, r'.fh, fun a ha => ?_, fun i a c h1 h2 hg => ?_⟩, ⟨⟨[], (List.append_nil _).symm⟩, g.fx, fun p hp hn => ?_, g.fz⟩⟩
  · rw [(g.out a (r.al a ha) (by simp)).1]; exact r.al a ha
  · obtain ⟨f, o, ho, hc⟩ := r.cell i a c h1 h2 hg
    obtain ⟨e1, e2, e3⟩ := g.out a (by rw [ho]; exact fun z => nomatch z) (by simp)
    exact ⟨by rw [e3]; exact f, o, by rw [e1]; exact ho, hc.up ⟨[], (List.append_nil _).symm⟩ g.fx⟩
  · obtain ⟨e1, e2, e3⟩ := g.out p hp (by simp)
    exact ⟨e1, hn, e3⟩
theorem Rel.aloneH {ρ' : List Addr} {F' H' : Hp} {S2 : Sg} (r : Rel P w K mg ρ S F H) (g : Gw [] H H ρ' F' H') (r' : Rel P w K mg ρ' S2 F' H') : Rel P w K mg ρ S F H' ∧ Gw ρ F H ρ F H' := by
  refine ⟨⟨r.len, r.inj, fun b u h => r'.fh b u (g.fx b u (r.fh b u h)), fun a ha => ?_, fun i a c h1 h2 hg => ?_⟩, ⟨⟨[], (List.append_nil _).symm⟩, Ex.refl F, fun p hp hn => ?_, g.fz⟩⟩
  · rw [(g.out a (r.al a ha) (by simp)).1]; exact r.al a ha
  · obtain ⟨f, o, ho, hc⟩ := r.cell i a c h1 h2 hg
    obtain ⟨e1, e2, e3⟩ := g.out a (by rw [ho]; exact fun z => nomatch z) (by simp)
    exact ⟨f, o, by rw [e1]; exact ho, hc⟩
  · obtain ⟨e1, e2, e3⟩ := g.out p hp (by simp)
    exact ⟨e1, hn, rfl⟩
theorem pf_inv {f : AF} {ds : List D} {r : Rs D} (h : pf f ds = some r) : ∃ S2, f (ds.map .d) [] = some ((match r with | .ok x => .ok (.d x) | .ex e => .ex e), S2) := by
  unfold pf at h
  split at h
  · rename_i S2 q; cases h; exact ⟨S2, q⟩
  · rename_i S2 q; cases h; exact ⟨S2, q⟩
  · cases h
theorem sm_callP {f : AF} {t : TA} {ag : AA} (ha : SimA P w K mg W t ag) : SimE P w K mg W (tCallS (spA P w K mg f) (WE W) t) (aCallP f ag) := by
  intro σ σa ρ S F H hr hs rr S' h Q qo qe
  refine ha.bind hr hs h qe fun xs S1 ρ1 F1 H1 vs h0 g1 r1 v1 => ?_
  have hm : (match allD xs with
    | some ds => match pf f ds with
      | some (.ok r) => some (.ok (.d r), S1)
      | some (.ex e) => some (.ex e, S1)
      | none => none
    | none => none) = some (rr, S') := h0
  clear h0 h
  split at hm
  · rename_i ds ed
    have ex := allD_inv ed
    subst ex
    split at hm
    · rename_i r q
      cases hm
      obtain ⟨S2, q⟩ := pf_inv q
      refine ⟨[], [], F1, ds.map .d, _, S2, Rel.none r1.fh, vrs_of (dps_of v1), q, fun x hx ρ' F' H' v g r' v' => ?_, fun e he => nomatch he⟩
      cases hx
      obtain ⟨a1, a2⟩ := r1.alone g r'
      exact qo _ rfl ρ1 F' H' v (g1.trans a2) a1 v'
    · rename_i e q
      cases hm
      obtain ⟨S2, q⟩ := pf_inv q
      refine ⟨[], [], F1, ds.map .d, _, S2, Rel.none r1.fh, vrs_of (dps_of v1), q, fun x hx => (nomatch hx), fun e he ρ' F' H' c d g r' x' => ?_⟩
      cases he
      obtain ⟨a1, a2⟩ := r1.alone g r'
      exact qe _ rfl ρ1 F' H' c d (g1.trans a2) a1 x'
    · cases hm
  · cases hm
theorem sm_callN {f : AF} {t : TA} {ag : AA} (ha : SimA P w K mg W t ag) : SimE P w K mg W (tCallS (spA P w K mg f) (WE W) t) (aCallN f ag) := by
  intro σ σa ρ S F H hr hs rr S' h Q qo qe
  refine ha.bind hr hs h qe fun xs S1 ρ1 F1 H1 vs h0 g1 r1 v1 => ?_
  have hm : (match dvs S1 xs with
    | some ds => match pf f ds with
      | some (.ok r) => if isSc r then some (.ok (.d r), S1) else none
      | some (.ex e) => some (.ex e, S1)
      | none => none
    | none => none) = some (rr, S') := h0
  clear h0 h
  split at hm
  · rename_i ds ed
    have hd := dvs_ok r1 _ _ _ ed v1
    split at hm
    · rename_i r q
      split at hm
      · rename_i hsc
        cases hm
        obtain ⟨S2, q⟩ := pf_inv q
        refine ⟨[], [], H1, ds.map .d, _, S2, Rel.none (Ex.refl H1), vrs_of hd, q, fun x hx ρ' F' H' v g r' v' => ?_, fun e he => nomatch he⟩
        cases hx
        obtain ⟨a1, a2⟩ := r1.aloneH g r'
        exact qo _ rfl ρ1 F1 H' v (g1.trans a2) a1 (sc_up hsc v')
      · cases hm
    · rename_i e q
      cases hm
      obtain ⟨S2, q⟩ := pf_inv q
      refine ⟨[], [], H1, ds.map .d, _, S2, Rel.none (Ex.refl H1), vrs_of hd, q, fun x hx => (nomatch hx), fun e he ρ' F' H' c d g r' x' => ?_⟩
      cases he
      obtain ⟨a1, a2⟩ := r1.aloneH g r'
      exact qe _ rfl ρ1 F1 H' c d (g1.trans a2) a1 x'
    · cases hm
  · cases hm
/-- a def whose promise is a relation of data -/
theorem sm_callR {R : List D → D → Prop} {fn : List D → Option D} {t : TA} {ag : AA} (h : ∀ ds r, fn ds = some r → R ds r) (ha : SimA P w K mg W t ag) : SimE P w K mg W (tCall (spR K R) [] E0 t) (aCB (cbD fn) ag) := by
  intro σ σa ρ S F H hr hs rr S' hh Q qo qe
  refine ha.bind hr hs hh qe fun xs S1 ρ1 F1 H1 vs h' g1 r1 v1 => ?_
  obtain ⟨z, hz, rfl⟩ := lf_inv h'
  show rDn K R (vs ++ []) H1 Q
  rw [List.append_nil]
  exact cs_D h ρ1 S1 F1 H1 r1 vs xs v1 z S' hz Q fun ρ3 F3 H3 u g3 r3 v3 => qo _ rfl ρ3 F3 H3 u (g1.trans g3) r3 v3
/-! ### a list that is one's own is handed out -/
def frzO (x : Av) : Op0 := fun S => match x with
  | .d x => some (.d x, S)
  | .o j => match S[j]? with
    | some (.lst xs) => (allD xs).map fun ds => (.d (.list ds), S.set j .gone)
    | _ => none
def aFrz (a : AE) : AE := fun σ => bnd (a σ) fun x => lf (frzO x)
theorem sm_frz {te : TE} {ae : AE} (ha : SimE P w K mg W te ae) : SimE P w K mg W te (aFrz ae) := by
  intro σ σa ρ S F H hr hs rr S' h Q qo qe
  refine ha.bind hr hs h qe fun x S1 ρ1 F1 H1 v h g1 r1 v1 => ?_
  obtain ⟨z, hz, rfl⟩ := lf_inv h
  clear h
  unfold frzO at hz
  split at hz
  · cases hz; exact qo _ rfl ρ1 F1 H1 v g1 r1 v1
  · rename_i j
    split at hz
    · rename_i xs e
      obtain ⟨ds, e1, e2⟩ := Option.map_eq_some_iff.mp hz
      cases e2
      obtain ⟨a, vs, rfl, h1, h2, h3, h4⟩ := r1.atL v1 e
      obtain ⟨r2, g2⟩ := r1.fix h1 e (fun z => nomatch z) h3
      rw [allD_inv e1] at h4
      exact qo _ rfl _ _ _ _ (g1.trans g2) r2 (.lst (sq_of upd_same) ((dps_of h4).up g2.fx))
    · cases hz
/-! ### walks -/
def itL (xs : List Av) : Itm := fun i _ => some xs[i]?
def itC (j : Nat) : Itm := fun i S => match S[j]? with
  | some (.lst xs) => some xs[i]?
  | _ => none
def itOf (x : Av) : M Itm := fun S => match x with
  | .d (.list ds) => some (.ok (itL (ds.map .d)), S)
  | .d (.tuple ds) => some (.ok (itL (ds.map .d)), S)
  | .d (.str z) => some (.ok (itL (z.cps.toList.map fun c => .d (signD c))), S)
  | .o j => match S[j]? with
    | some (.lst _) => some (.ok (itC j), S)
    | _ => none
  | _ => none
def aiAny (a : AE) : Sl → M Itm := fun σ => bnd (a σ) itOf
def itR (lo : Int) (n : Nat) : Itm := fun i _ => some (if i < n then some (.d (.int (lo + (i : Int)))) else none)
def aiR1 (t : AA) : Sl → M Itm := fun σ => bnd (t σ) fun xs S => match xs with
  | [.d (.int j)] => if -(2 ^ 62) ≤ j ∧ j < 2 ^ 62 then some (.ok (itR 0 j.toNat), S) else none
  | _ => none
def aiR2 (t : AA) : Sl → M Itm := fun σ => bnd (t σ) fun xs S => match xs with
  | [.d (.int i), .d (.int j)] => if -(2 ^ 62) ≤ i ∧ i < 2 ^ 62 ∧ -(2 ^ 62) ≤ j ∧ j < 2 ^ 62 then some (.ok (itR i (j - i).toNat), S) else none
  | _ => none
theorem wk_L {a : Addr} {vs : List V} {ds : List D} {J : It} (hgo : ∀ i H, Ex F H → i < vs.length → J.go i H) (hst : ∀ i H, Ex F H → vs.length ≤ i → J.stop i H) (hy : ∀ i H, Ex F H → ∀ v H', J.yld i H v H' → H' = H ∧ vs[i]? = some v) (ha : DpAll K F vs ds) : WkA P w K mg ρ F H J (itL (ds.map .d)) := by
  intro ρ1 S1 F1 H1 g r i o e
  have hl := ha.length
  have fh := g.fx.trans r.fh
  cases e
  cases q : (ds.map Av.d)[i]? with
  | none =>
    refine hst i H1 fh ?_
    rw [List.getElem?_eq_none_iff, List.length_map] at q
    omega
  | some x =>
    rw [List.getElem?_map] at q
    obtain ⟨d, e1, rfl⟩ := Option.map_eq_some_iff.mp q
    refine ⟨hgo i H1 fh (by rw [hl]; exact (List.getElem?_eq_some_iff.mp e1).1), fun v H' y => ?_⟩
    obtain ⟨rfl, hv⟩ := hy i H1 fh v H' y
    obtain ⟨d', e2, hd⟩ := ha.getV hv
    rw [e1] at e2
    cases e2
    exact ⟨ρ1, F1, Gw.refl, r, hd.up g.fx⟩
theorem si_any {tl : TE} {ae : AE} (ha : SimE P w K mg W tl ae) : SimI P w K mg W (iAny K tl) (aiAny ae) := by
  intro σ σa ρ S F H hr hs rr S' h R qo qe
  rcases bnd_inv h with ⟨x, S1, e1, h⟩ | ⟨e, e1, rfl⟩
  · unfold itOf at h
    split at h
    · rename_i ds
      cases h
      refine .inl (ha σ σa ρ S F H hr hs _ _ e1 _ (fun x' hx ρ1 F1 H1 v g1 r1 v1 => ?_) fun e he => nomatch he)
      cases hx
      have v1 : Dp K F1 v (.list ds) := v1
      cases v1 with
      | @lst a vs _ s1 a1 =>
        refine ⟨a, rfl, ⟨vs, ex_l r1.fh s1⟩, qo _ rfl ρ1 F1 H1 _ g1 r1 (wk_L (a := a) (vs := vs) (fun i H e hi => ?_) (fun i H e hi => ⟨vs, ex_l e s1, hi⟩) (fun i H e v H' y => ⟨y.1, y.2 vs (ex_l e s1)⟩) a1)⟩
        obtain ⟨x, hx⟩ := get_lt hi
        exact ⟨vs, x, ex_l e s1, hx⟩
    · rename_i ds
      cases h
      refine .inr (.inl (ha σ σa ρ S F H hr hs _ _ e1 _ (fun x' hx ρ1 F1 H1 v g1 r1 v1 => ?_) fun e he => nomatch he))
      cases hx
      have v1 : Dp K F1 v (.tuple ds) := v1
      cases v1 with
      | @tup a vs _ s1 a1 =>
        refine ⟨a, rfl, ⟨vs, ex_t r1.fh s1⟩, qo _ rfl ρ1 F1 H1 _ g1 r1 (wk_L (a := a) (vs := vs) (fun i H e hi => ?_) (fun i H e hi => ⟨vs, ex_t e s1, hi⟩) (fun i H e v H' y => ⟨y.1, y.2 vs (ex_t e s1)⟩) a1)⟩
        obtain ⟨x, hx⟩ := get_lt hi
        exact ⟨vs, x, ex_t e s1, hx⟩
    · rename_i z
      cases h
      refine .inr (.inr (ha σ σa ρ S F H hr hs _ _ e1 _ (fun x' hx ρ1 F1 H1 v g1 r1 v1 => ?_) fun e he => nomatch he))
      cases hx
      have v1 : Dp K F1 v (.str z) := v1
      cases v1
      refine ⟨z, rfl, qo _ rfl ρ1 F1 H1 _ g1 r1 ?_⟩
      have e : (z.cps.toList.map fun c => Av.d (signD c)) = (z.cps.toList.map signD).map Av.d := by rw [List.map_map]; rfl
      rw [e]
      have all : ∀ cs : List Nat, DpAll K F1 (cs.map fun c => V.str ⟨#[c]⟩) (cs.map signD) := fun cs => by
        induction cs with
        | nil => exact .nil
        | cons c cs ih => exact .cons (.str _) ih
      refine wk_L (a := 0) (vs := z.cps.toList.map fun c => V.str ⟨#[c]⟩) (fun i H e hi => ?_) (fun i H e hi => ?_) (fun i H e v H' y => ?_) (all _)
      · show i < z.cps.size
        simpa using hi
      · show z.cps.size ≤ i
        simpa using hi
      · obtain ⟨rfl, c, hc, rfl⟩ := y
        refine ⟨rfl, ?_⟩
        rw [List.getElem?_map, Array.getElem?_toList, hc]
        rfl
    · rename_i j
      split at h
      · rename_i xs0 e0
        cases h
        refine .inl (ha σ σa ρ S F H hr hs _ _ e1 _ (fun x' hx ρ1 F1 H1 v g1 r1 v1 => ?_) fun e he => nomatch he)
        cases hx
        obtain ⟨a, vs, rfl, h1, h2, h3, h4⟩ := r1.atL v1 e0
        refine ⟨a, rfl, ⟨vs, sq_of h3⟩, qo _ rfl ρ1 F1 H1 _ g1 r1 ?_⟩
        intro ρ2 S2 F2 H2 g2 r2 i o e
        unfold itC at e
        split at e
        · rename_i xs ex
          cases e
          obtain ⟨a', vs', ea, h1', h2', h3', h4'⟩ := r2.atL (VR.gw v1 g2) ex
          cases ea
          have hl := h4'.len
          cases q : xs[i]? with
          | none =>
            refine ⟨vs', sq_of h3', ?_⟩
            rw [List.getElem?_eq_none_iff] at q
            omega
          | some x =>
            obtain ⟨y, ey⟩ := get_lt (xs := vs') (i := i) (by rw [hl]; exact (List.getElem?_eq_some_iff.mp q).1)
            refine ⟨⟨vs', y, sq_of h3', ey⟩, fun v H' yy => ?_⟩
            obtain ⟨rfl, hy⟩ := yy
            have hv := hy vs' (sq_of h3')
            rw [hv] at ey
            cases ey
            have get : ∀ {vs : List V} {xs : List Av} {i : Nat} {x : Av} {v : V}, VRs K ρ2 F2 vs xs → xs[i]? = some x → vs[i]? = some v → VR K ρ2 F2 v x := by
              intro vs xs i x v h
              induction h generalizing i with
              | nil => intro e; simp at e
              | cons a b ih =>
                intro e1 e2
                cases i with
                | zero => simp at e1 e2; subst e1 e2; exact a
                | succ i => simp at e1 e2; exact ih e1 e2
            exact ⟨ρ2, F2, Gw.refl, r2, get h4' q hv⟩
        · cases e
      · cases h
    · cases h
  · exact .inl (ha σ σa ρ S F H hr hs _ _ e1 _ (fun x' hx => nomatch hx) fun e' he a b c d f g h x => by cases he; exact qe _ rfl a b c d f g h x)
theorem wk_R {lo : Int} {n : Nat} : WkA P w K mg ρ F H (Itr lo n) (itR lo n) := by
  intro ρ1 S1 F1 H1 g r i o e
  unfold itR at e
  split at e
  · rename_i hi
    cases e
    refine ⟨hi, fun v H' y => ?_⟩
    obtain ⟨rfl, rfl⟩ := y
    exact ⟨ρ1, F1, Gw.refl, r, .int _⟩
  · rename_i hi
    cases e
    exact Nat.le_of_not_lt hi
theorem si_r1 {t : TA} {ag : AA} (ha : SimA P w K mg W t ag) : SimI P w K mg W (iRng1 t) (aiR1 ag) := by
  intro σ σa ρ S F H hr hs rr S' h R qo qe
  refine ha.bind hr hs h qe fun xs S1 ρ1 F1 H1 vs h g1 r1 v1 => ?_
  split at h
  · split at h
    · rename_i j hj
      cases h
      obtain ⟨v, rfl, hv⟩ := dps1 (dps_of (ds := [.int j]) v1)
      cases hv
      exact ⟨j, rfl, hj.1, hj.2, qo _ rfl ρ1 F1 H1 _ g1 r1 wk_R⟩
    · cases h
  · cases h
theorem si_r2 {t : TA} {ag : AA} (ha : SimA P w K mg W t ag) : SimI P w K mg W (iRng2 t) (aiR2 ag) := by
  intro σ σa ρ S F H hr hs rr S' h R qo qe
  refine ha.bind hr hs h qe fun xs S1 ρ1 F1 H1 vs h g1 r1 v1 => ?_
  split at h
  · split at h
    · rename_i i j hj
      cases h
      obtain ⟨v, u, rfl, hv, hu⟩ := dps2 (dps_of (ds := [.int i, .int j]) v1)
      cases hv
      cases hu
      exact ⟨i, j, rfl, hj, qo _ rfl ρ1 F1 H1 _ g1 r1 wk_R⟩
    · cases h
  · cases h
end
end Ly
/-! LyR: cells that are lists: items, methods; isinstance; slices; len. -/
namespace Ly
open PySem L2 Evl PyProof.Rows
section
variable {P : Program} {w wd : World} {K : Fg} {mg : Str → Option Value} {W : WX} {ρ : List Addr} {S S' : Sg} {F H : Hp} {σ : L2.St} {σa σa' : Sl}
theorem vrs_get : ∀ {vs : List V} {xs : List Av} {i : Nat} {x : Av}, VRs K ρ F vs xs → xs[i]? = some x → ∃ v, vs[i]? = some v ∧ VR K ρ F v x := by
  intro vs xs i x h
  induction h generalizing i with
  | nil => intro e; simp at e
  | @cons v y vs ys a b ih =>
    intro e1
    cases i with
    | zero => simp at e1; subst e1; exact ⟨v, by simp, a⟩
    | succ i => simp at e1; simpa using ih e1
theorem vrs_at {vs : List V} {xs : List Av} {i : Int} {x : Av} (h : VRs K ρ F vs xs) (e : atI xs i = some x) : ∃ v, atI vs i = some v ∧ VR K ρ F v x := by
  unfold atI at e ⊢
  rw [h.len]
  obtain ⟨j, e1, e2⟩ := Option.bind_eq_some_iff.mp e
  obtain ⟨v, e3, hv⟩ := vrs_get h e2
  exact ⟨v, by rw [e1]; exact e3, hv⟩
theorem vrs_app {vs us : List V} {xs ys : List Av} (h : VRs K ρ F vs xs) (h' : VRs K ρ F us ys) : VRs K ρ F (vs ++ us) (xs ++ ys) := by
  induction h with
  | nil => exact h'
  | cons a _ ih => exact .cons a ih
theorem vrs_set {vs : List V} {xs : List Av} {v : V} {x : Av} (h : VRs K ρ F vs xs) (hv : VR K ρ F v x) : ∀ n : Nat, VRs K ρ F (vs.set n v) (xs.set n x) := by
  induction h with
  | nil => intro n; exact .nil
  | cons a b ih =>
    intro n
    cases n with
    | zero => exact .cons hv b
    | succ n => exact .cons a (ih n)
theorem vrs_take {vs : List V} {xs : List Av} (h : VRs K ρ F vs xs) : ∀ n : Nat, VRs K ρ F (vs.take n) (xs.take n) := by
  induction h with
  | nil => intro n; simp; exact .nil
  | cons a b ih =>
    intro n
    cases n with
    | zero => exact .nil
    | succ n => exact .cons a (ih n)
theorem vrs_drop {vs : List V} {xs : List Av} (h : VRs K ρ F vs xs) : ∀ n : Nat, VRs K ρ F (vs.drop n) (xs.drop n) := by
  induction h with
  | nil => intro n; simp; exact .nil
  | cons a b ih =>
    intro n
    cases n with
    | zero => exact .cons a b
    | succ n => exact ih n
theorem vrs_dl {vs : List V} {xs : List Av} (h : VRs K ρ F vs xs) : VRs K ρ F vs.dropLast xs.dropLast := by
  rw [List.dropLast_eq_take, List.dropLast_eq_take, h.len]
  exact vrs_take h _
theorem vrs_rev {vs : List V} {xs : List Av} (h : VRs K ρ F vs xs) : VRs K ρ F vs.reverse xs.reverse := by
  induction h with
  | nil => exact .nil
  | cons a _ ih => rw [List.reverse_cons, List.reverse_cons]; exact vrs_app ih (.cons a .nil)
/-! methods -/
def MtS (P : Program) (wd : World) (K : Fg) (mg : Str → Option Value) (r : V → List V → Hp → VK → Prop) (f : Av → List Av → Op0) : Prop := ∀ ρ S F H, Rel P wd K mg ρ S F H → ∀ v x vs xs, VR K ρ F v x → VRs K ρ F vs xs → ∀ z S', f x xs S = some (z, S') → ∀ Q : VK,
  (∀ ρ' F' H' u, Gw ρ F H ρ' F' H' → Rel P wd K mg ρ' S' F' H' → VR K ρ' F' u z → Q u H') → r v vs H Q
def isL (S : Sg) : Av → Bool
  | .d (.list _) => true
  | .o j => match S[j]? with
    | some (.lst _) => true
    | _ => false
  | _ => false
def isS : Av → Bool
  | .d (.str _) => true
  | _ => false
/-- xs.m(..), xs a list -/
def aBML (f : Av → List Av → Op0) (a : AE) (t : AA) : AE := fun σ => bnd (a σ) fun x S => if isL S x = true then bnd (t σ) (fun xs => lf (f x xs)) S else none
def aBMS (f : Av → List Av → Op0) (a : AE) (t : AA) : AE := fun σ => bnd (a σ) fun x S => if isS x = true then bnd (t σ) (fun xs => lf (f x xs)) S else none
theorem isL_ty (r : Rel P w K mg ρ S F H) {v : V} {x : Av} (hv : VR K ρ F v x) (h : isL S x = true) : tyV K "list" v H := by
  unfold isL at h
  split at h
  · have hv : Dp K F v (.list _) := hv
    cases hv with
    | lst s1 a1 => exact .inl ⟨rfl, _, ex_l r.fh s1⟩
  · split at h
    · rename_i e
      obtain ⟨a, vs, rfl, h1, h2, h3, h4⟩ := r.atL hv e
      exact .inl ⟨rfl, vs, sq_of h3⟩
    · cases h
  · cases h
theorem isS_ty {v : V} {x : Av} (hv : VR K ρ F v x) (h : isS x = true) : tyV K "str" v H := by
  unfold isS at h
  split at h
  · have hv : Dp K F v (.str _) := hv
    cases hv; rfl
  · cases h
theorem sm_bmL {rm : V → List V → Hp → VK → Prop} {f : Av → List Av → Op0} {te : TE} {ae : AE} {t : TA} {ag : AA} (hm : MtS P w K mg rm f) (ha : SimE P w K mg W te ae) (hg : SimA P w K mg W t ag) : SimE P w K mg W (tBM K "list" rm te t) (aBML f ae ag) := by
  intro σ σa ρ S F H hr hs rr S' h Q qo qe
  refine ha.bind hr hs h qe fun x S1 ρ1 F1 H1 v h g1 r1 v1 => ?_
  split at h
  · rename_i hl
    refine ⟨isL_ty r1 v1 hl, hg.bind r1 (hs.gw g1) h (ExQ.gw qe g1) fun xs S2 ρ2 F2 H2 vs h g2 r2 v2 => ?_⟩
    obtain ⟨z, hz, rfl⟩ := lf_inv h
    exact hm ρ2 S2 F2 H2 r2 v x vs xs (v1.gw g2) v2 z S' hz Q fun ρ3 F3 H3 u g3 r3 v3 => qo _ rfl ρ3 F3 H3 u ((g1.trans g2).trans g3) r3 v3
  · cases h
theorem sm_bmL0 {rm : V → List V → Hp → VK → Prop} {f : Av → List Av → Op0} {te : TE} {ae : AE} (hm : MtS P w K mg rm f) (ha : SimE P w K mg W te ae) : SimE P w K mg W (tBM0 K "list" rm te) (aBML f ae aNil) := by
  intro σ σa ρ S F H hr hs rr S' h Q qo qe
  refine ha.bind hr hs h qe fun x S1 ρ1 F1 H1 v h g1 r1 v1 => ?_
  split at h
  · rename_i hl
    obtain ⟨z, hz, rfl⟩ := lf_inv (show lf (f x []) S1 = some (rr, S') from h)
    exact ⟨isL_ty r1 v1 hl, hm ρ1 S1 F1 H1 r1 v x [] [] v1 .nil z S' hz Q fun ρ3 F3 H3 u g3 r3 v3 => qo _ rfl ρ3 F3 H3 u (g1.trans g3) r3 v3⟩
  · cases h
theorem sm_bmS {rm : V → List V → Hp → VK → Prop} {f : Av → List Av → Op0} {te : TE} {ae : AE} {t : TA} {ag : AA} (hm : MtS P w K mg rm f) (ha : SimE P w K mg W te ae) (hg : SimA P w K mg W t ag) : SimE P w K mg W (tBM K "str" rm te t) (aBMS f ae ag) := by
  intro σ σa ρ S F H hr hs rr S' h Q qo qe
  refine ha.bind hr hs h qe fun x S1 ρ1 F1 H1 v h g1 r1 v1 => ?_
  split at h
  · rename_i hl
    refine ⟨isS_ty v1 hl, hg.bind r1 (hs.gw g1) h (ExQ.gw qe g1) fun xs S2 ρ2 F2 H2 vs h g2 r2 v2 => ?_⟩
    obtain ⟨z, hz, rfl⟩ := lf_inv h
    exact hm ρ2 S2 F2 H2 r2 v x vs xs (v1.gw g2) v2 z S' hz Q fun ρ3 F3 H3 u g3 r3 v3 => qo _ rfl ρ3 F3 H3 u ((g1.trans g2).trans g3) r3 v3
  · cases h
theorem ms_D {R : D → List D → D → Prop} {f : D → List D → Option D} (h : ∀ a ds r, f a ds = some r → R a ds r) (hsc : ∀ a ds r, f a ds = some r → isSc r = true) : MtS P wd K mg (rDm K R) (bmD f) := by
  intro ρ S F H hr v x vs xs hv hvs z S' e Q q
  unfold bmD at e
  split at e
  · rename_i a ds e1
    obtain ⟨r, e3, e4⟩ := Option.map_eq_some_iff.mp e
    cases e4
    exact ⟨H, a, ds, r, Ex.refl H, Dp.up hv hr.fh, dvs_ok hr _ _ _ e1 hvs, h _ _ _ e3, fun u F2 H2 g hu => q ρ F H2 u (hr.grH g).2 (hr.grH g).1 (sc_up (hsc _ _ _ e3) hu)⟩
  · cases e
/-- changes of a list that is a cell -/
def mdL (f : List Av → List Av → Option (Av × List Av)) : Av → List Av → Op0 := fun x ys S => match x with
  | .o j => match S[j]? with
    | some (.lst xs) => (f xs ys).map fun r => (r.1, S.set j (.lst r.2))
    | _ => none
  | _ => none
theorem ms_L {rm : V → List V → Hp → VK → Prop} {f : List Av → List Av → Option (Av × List Av)}
    (h : ∀ ρ (F H : Hp) a vs xs us ys r, H a = some (.lst vs) → VRs K ρ F vs xs → VRs K ρ F us ys → Ex F H → f xs ys = some r → ∀ Q : VK, (∀ vs' u, VRs K ρ F vs' r.2 → VR K ρ F u r.1 → Q u (upd H a (.lst vs'))) → rm (.ref a) us H Q) : MtS P wd K mg rm (mdL f) := by
  intro ρ S F H hr v x vs xs hv hvs z S' e Q q
  unfold mdL at e
  split at e
  · rename_i j
    split at e
    · rename_i zs ez
      obtain ⟨r, e1, e2⟩ := Option.map_eq_some_iff.mp e
      cases e2
      obtain ⟨a, us, rfl, h1, h2, h3, h4⟩ := hr.atL hv ez
      refine h ρ F H a us zs vs xs r h3 h4 hvs hr.fh e1 Q fun vs' u hv' hu => ?_
      obtain ⟨r2, g2⟩ := hr.set (o := .lst vs') (c := .lst r.2) h1 ez (fun z => nomatch z) ⟨vs', rfl, hv'⟩
      exact q _ _ _ u g2 r2 hu
    · cases e
  · cases e
def fAppend : List Av → List Av → Option (Av × List Av) := fun xs ys => match ys with
  | [y] => if xs.length < 100000 then some (.d .none, xs ++ [y]) else none
  | _ => none
theorem ms_append : MtS P wd K mg rAppend (mdL fAppend) := ms_L fun ρ F H a vs xs us ys r ha hv hu fh e Q q => by
  unfold fAppend at e
  split at e
  · split at e
    · rename_i y hl
      cases e
      cases hu with
      | cons hy hn =>
        cases hn
        exact ⟨a, vs, _, rfl, rfl, ha, sz_lt (by rw [hv.len]; exact hl), q _ .non (vrs_app hv (.cons hy .nil)) .non⟩
    · cases e
  · cases e
def fPop : List Av → List Av → Option (Av × List Av) := fun xs ys => match ys with
  | [] => (xs[xs.length - 1]?).map fun x => (x, xs.dropLast)
  | _ => none
theorem ms_pop : MtS P wd K mg rPop (mdL fPop) := ms_L fun ρ F H a vs xs us ys r ha hv hu fh e Q q => by
  unfold fPop at e
  split at e
  · cases hu
    obtain ⟨x, e1, rfl⟩ := Option.map_eq_some_iff.mp e
    obtain ⟨v, e2, hx⟩ := vrs_get hv e1
    exact ⟨a, vs, v, rfl, rfl, ha, by rw [hv.len]; exact e2, q _ v (vrs_dl hv) hx⟩
  · cases e
def fRev : List Av → List Av → Option (Av × List Av) := fun xs ys => match ys with
  | [] => some (.d .none, xs.reverse)
  | _ => none
theorem ms_reverse : MtS P wd K mg rReverse (mdL fRev) := ms_L fun ρ F H a vs xs us ys r ha hv hu fh e Q q => by
  unfold fRev at e
  split at e
  · cases hu
    cases e
    exact ⟨a, vs, rfl, rfl, ha, q _ .non (vrs_rev hv) .non⟩
  · cases e
def fClear : List Av → List Av → Option (Av × List Av) := fun xs ys => match ys with
  | [] => some (.d .none, [])
  | _ => none
theorem ms_clear : MtS P wd K mg rClear (mdL fClear) := ms_L fun ρ F H a vs xs us ys r ha hv hu fh e Q q => by
  unfold fClear at e
  split at e
  · cases hu
    cases e
    exact ⟨a, vs, rfl, rfl, ha, q _ .non .nil .non⟩
  · cases e
/-! ### items -/
def valA {κ : Type} [DecidableEq κ] (kvs : List (κ × Av)) (k : κ) : Option Av := (kvs.find? fun kv => decide (kv.1 = k)).map (·.2)
def putA {κ : Type} [DecidableEq κ] (kvs : List (κ × Av)) (k : κ) (v : Av) : List (κ × Av) :=
  if (kvs.any fun kv => decide (kv.1 = k)) = true then kvs.map (fun kv => if kv.1 = k then (kv.1, v) else kv) else kvs ++ [(k, v)]
def dropA {κ : Type} [DecidableEq κ] (kvs : List (κ × Av)) (k : κ) : List (κ × Av) := kvs.filter fun kv => decide (kv.1 ≠ k)
def keyOf : D → Option Key
  | .int i => some (.inl i)
  | .str x => some (.inr x)
  | _ => none
def keysOf : List D → Option (List Key)
  | [] => some []
  | d :: ds => match keyOf d, keysOf ds with
    | some k, some ks => some (k :: ks)
    | _, _ => none
def tkeyOf : D → Option (List Key)
  | .tuple ds => keysOf ds
  | _ => none
def peel : Cl → Cl
  | .lk c => c
  | c => c
def getC (c : Cl) (d : D) : Option Av := match c with
  | .lst xs => match d with
    | .int n => atI xs n
    | _ => none
  | .dk kvs => (keyOf d).bind (valA kvs)
  | .dt kvs => (tkeyOf d).bind (valA kvs)
  | _ => none
def opIx : Av → Av → Op0 := fun x y S => match x, y with
  | .d a, .d b => (fIx a b).map fun r => (.d r, S)
  | .o j, .d b => match S[j]? with
    | some c => (getC (peel c) b).map fun r => (r, S)
    | none => none
  | _, _ => none
def lenC : Cl → Option Nat
  | .lst xs => some xs.length
  | .dk kvs => some kvs.length
  | _ => none
def cbLen : List Av → Op0 := fun xs S => match xs with
  | [.d x] => (fLen [x]).map fun r => (.d r, S)
  | [.o j] => match S[j]? with
    | some c => (lenC (peel c)).map fun n => (.d (.int (n : Nat)), S)
    | none => none
  | _ => none
/-! ### isinstance -/
def tyA (S : Sg) : Av → Option String
  | .d x => some (tyN x)
  | .o j => match S[j]? with
    | some (.lst _) => some "list"
    | _ => none
def aIsi (n : String) (a : AE) : AE := fun σ => bnd (a σ) fun x S => match tyA S x with
  | some t => match kitB t n with
    | some b => some (.ok (.d (.bool b)), S)
    | none => none
  | none => none
theorem tyA_ok (r : Rel P w K mg ρ S F H) {v : V} {x : Av} {t : String} (hv : VR K ρ F v x) (h : tyA S x = some t) : TyX K H v (.type t) := by
  unfold tyA at h
  split at h
  · cases h; exact dp_ty (Dp.up hv r.fh)
  · split at h
    · rename_i e
      cases h
      obtain ⟨a, vs, rfl, h1, h2, h3, h4⟩ := r.atL hv e
      exact .base (.lst h3)
    · cases h
theorem sm_isi {te : TE} {ae : AE} {n : String} (ha : SimE P w K mg W te ae) : SimE P w K mg W (tCB (rIsi K) (tCons te (tCons (tC (.ty n)) tNil))) (aIsi n ae) := by
  intro σ σa ρ S F H hr hs rr S' h Q qo qe
  refine ha.bind hr hs h qe fun x S1 ρ1 F1 H1 v h g1 r1 v1 => ?_
  split at h
  · rename_i t et
    split at h
    · rename_i b eb
      cases h
      exact ⟨v, .ty n, _, _, b, rfl, .ty n, tyA_ok r1 v1 et, kit_ty eb, qo _ rfl ρ1 F1 H1 _ g1 r1 (.bl b)⟩
    · cases h
  · cases h
/-! ### slices -/
def aSl (a : AE) (lo hi : Sl → M (Option Int)) : AE := fun σ => bnd (a σ) fun x => bnd (lo σ) fun l => bnd (hi σ) fun h S => match x with
  | .d d => (fSl d l h).map fun r => (.ok (.d r), S)
  | _ => none
def aoN : Sl → M (Option Int) := fun _ => ret none
def aoS (a : AE) : Sl → M (Option Int) := fun σ => bnd (a σ) fun x S => match x with
  | .d (.int i) => some (.ok (some i), S)
  | _ => none
def SimO (P : Program) (wd : World) (K : Fg) (mg : Str → Option Value) (W : WX) (to : TO) (ao : Sl → M (Option Int)) : Prop := ∀ σ σa ρ S F H, Rel P wd K mg ρ S F H → SR K ρ F σ σa → ∀ r S', ao σa S = some (r, S') → ∀ Q : Option Int → Hp → Prop,
  (∀ o, r = .ok o → ∀ ρ' F' H', Gw ρ F H ρ' F' H' → Rel P wd K mg ρ' S' F' H' → Q o H') →
  (∀ e, r = .ex e → ∀ ρ' F' H' c d, Gw ρ F H ρ' F' H' → Rel P wd K mg ρ' S' F' H' → XR mg H' e c d → W c d σ H') → to σ H Q
theorem so_none : SimO P wd K mg W tNoPart aoN := by
  intro σ σa ρ S F H hr hs rr S' h Q qo qe
  cases h
  exact qo _ rfl ρ F H Gw.refl hr
theorem so_some {te : TE} {ae : AE} (ha : SimE P wd K mg W te ae) : SimO P wd K mg W (tPart te) (aoS ae) := by
  intro σ σa ρ S F H hr hs rr S' h Q qo qe
  refine ha.bind hr hs h qe fun x S1 ρ1 F1 H1 v h g1 r1 v1 => ?_
  split at h
  · cases h
    have v1 : Dp K F1 v (.int _) := v1
    cases v1
    exact ⟨_, rfl, qo _ rfl ρ1 F1 H1 g1 r1⟩
  · cases h
theorem SimO.bind {α : Type} {r : Rs α} {to : TO} {ao : Sl → M (Option Int)} {f : Option Int → M α} (ha : SimO P wd K mg W to ao) (hr : Rel P wd K mg ρ S F H) (hs : SR K ρ F σ σa) (h : bnd (ao σa) f S = some (r, S')) {Q : Option Int → Hp → Prop} (qe : ExQ P wd K mg W ρ F H σ r S')
    (k : ∀ x S1 ρ1 F1 H1, f x S1 = some (r, S') → Gw ρ F H ρ1 F1 H1 → Rel P wd K mg ρ1 S1 F1 H1 → Q x H1) : to σ H Q := by
  rcases bnd_inv h with ⟨x, S1, e1, h⟩ | ⟨e, e1, rfl⟩
  · exact ha σ σa ρ S F H hr hs _ _ e1 Q (fun x' hx ρ1 F1 H1 g1 r1 => by cases hx; exact k x S1 ρ1 F1 H1 h g1 r1) (fun e he => nomatch he)
  · exact ha σ σa ρ S F H hr hs _ _ e1 Q (fun x' hx => nomatch hx) (fun e' he a b c d f g h x => by cases he; exact qe _ rfl a b c d f g h x)
theorem sm_sl {te : TE} {ae : AE} {tl th : TO} {al ah : Sl → M (Option Int)} (ha : SimE P wd K mg W te ae) (hl : SimO P wd K mg W tl al) (hh : SimO P wd K mg W th ah) : SimE P wd K mg W (tSl (rDs K SlD) te tl th) (aSl ae al ah) := by
  intro σ σa ρ S F H hr hs rr S' h Q qo qe
  refine ha.bind hr hs h qe fun x S1 ρ1 F1 H1 v h g1 r1 v1 => ?_
  refine hl.bind r1 (hs.gw g1) h (ExQ.gw qe g1) fun lo S2 ρ2 F2 H2 h g2 r2 => ?_
  have g12 := g1.trans g2
  refine hh.bind r2 (hs.gw g12) h (ExQ.gw qe g12) fun hi S3 ρ3 F3 H3 h g3 r3 => ?_
  cases x with
  | o j => cases h
  | d d =>
    obtain ⟨r, e1, e2⟩ := Option.map_eq_some_iff.mp (show (fSl d lo hi).map (fun r => ((Rs.ok (Av.d r) : Rs Av), S3)) = some (rr, S') from h)
    cases e2
    exact ⟨F3, d, r, r3.fh, v1.gw (g2.trans g3), fSl_ok _ _ _ _ e1, fun u F4 H4 g4 hu => qo _ rfl ρ3 F4 H4 u ((g12.trans g3).trans (r3.gr g4).2) (r3.gr g4).1 hu⟩
/-! ### stores -/
def agSub (o i : AE) (f : Av → Av → Av → Sg → Option Sg) : Av → AS := fun v σ => stb (o σ) σ fun x => stb (i σ) σ fun y S => (f x y v S).map fun S1 => (.nx, σ, S1)
def StS (P : Program) (wd : World) (K : Fg) (mg : Str → Option Value) (t : TSet) (f : Av → Av → Av → Sg → Option Sg) : Prop := ∀ ρ S F H, Rel P wd K mg ρ S F H → ∀ o i v x y z, VR K ρ F o x → VR K ρ F i y → VR K ρ F v z → ∀ S', f x y z S = some S' → ∀ Q : Hp → Prop,
  (∀ ρ' F' H', Gw ρ F H ρ' F' H' → Rel P wd K mg ρ' S' F' H' → Q H') → t o i v H Q
theorem sg_sub {to ti : TE} {ao ai : AE} {t : TSet} {f : Av → Av → Av → Sg → Option Sg} (ho : SimE P wd K mg W to ao) (hi : SimE P wd K mg W ti ai) (hf : StS P wd K mg t f) : SimG P wd K mg W (gSub to ti t) (agSub ao ai f) := by
  intro v z σ σa ρ S F H hr hs hv fl σa' S' h D' q
  refine ho.stb hr hs h q fun x S1 ρ1 F1 H1 o h g1 r1 v1 => ?_
  refine hi.stb r1 (hs.gw g1) h (q.gw g1) fun y S2 ρ2 F2 H2 i h g2 r2 v2 => ?_
  obtain ⟨S3, e1, e2⟩ := Option.map_eq_some_iff.mp h
  cases e2
  have g12 := g1.trans g2
  exact hf ρ2 S2 F2 H2 r2 o i v x y z (v1.gw g2) v2 (hv.gw g12) _ e1 _ fun ρ3 F3 H3 g3 r3 => q ρ3 F3 H3 σ (g12.trans g3) r3 (hs.gw (g12.trans g3))
end
end Ly
/-! LyS: dicts whose keys are tuples that may stand in the written part; dict rules for both kinds. -/
namespace Ly
open PySem L2 Evl PyProof.Rows
abbrev XT : List (List Key × Addr × V) → List (List Key × Addr × Value) → Prop := Paired fun p q => p.1 = q.1 ∧ p.2.1 = q.2.1 ∧ RelV p.2.2 q.2.2
def valX (ks : List (List Key × Addr × V)) (k : List Key) : Option V := (ks.find? fun p => decide (p.1 = k)).map (·.2.2)
def putX (ks : List (List Key × Addr × V)) (k : List Key) (b : Addr) (v : V) : List (List Key × Addr × V) :=
  if (ks.any fun p => decide (p.1 = k)) = true then ks.map (fun p => if p.1 = k then (p.1, p.2.1, v) else p) else ks ++ [(k, b, v)]
def dropX (ks : List (List Key × Addr × V)) (k : List Key) : List (List Key × Addr × V) := ks.filter fun p => decide (p.1 ≠ k)
theorem XT.val {ks : List (List Key × Addr × V)} {us : List (List Key × Addr × Value)} (r : XT ks us) (k : List Key) : RelO (valX ks k) ((atKey us k).map (·.2)) := by
  induction r with
  | nil => trivial
  | @cons p q ps qs h t ih =>
    obtain ⟨h1, h2, h3⟩ := h
    unfold valX atKey at *
    rw [List.find?_cons, List.find?_cons]
    by_cases e : p.1 = k
    · have e' : q.1 = k := h1 ▸ e
      rw [decide_eq_true e, decide_eq_true e']
      exact h3
    · have e' : ¬ q.1 = k := h1 ▸ e
      rw [decide_eq_false e, decide_eq_false e']
      exact ih
theorem XT.any {ks : List (List Key × Addr × V)} {us : List (List Key × Addr × Value)} (r : XT ks us) (k : List Key) : (atKey us k).isSome = ks.any fun p => decide (p.1 = k) := by
  induction r with
  | nil => rfl
  | @cons p q ps qs h t ih =>
    unfold atKey at *
    rw [List.find?_cons, List.any_cons, ← ih, h.1]
    by_cases e : q.1 = k
    · rw [decide_eq_true e]; rfl
    · rw [decide_eq_false e]; rfl
theorem XT.put {ks : List (List Key × Addr × V)} {us : List (List Key × Addr × Value)} (r : XT ks us) (k : List Key) (b : Addr) {v : V} {u : Value} (rv : RelV v u) : XT (putX ks k b v) (storedH us k b u) := by
  unfold putX storedH
  rw [r.any k]
  split
  · rename_i hc
    clear hc
    induction r with
    | nil => exact .nil
    | @cons p q ps qs h t ih =>
      refine .cons ?_ ih
      obtain ⟨h1, h2, h3⟩ := h
      unfold putAt
      by_cases e : p.1 = k
      · have e' : q.1 = k := h1 ▸ e
        dsimp only
        rw [if_pos e, if_pos e']
        exact ⟨h1, h2, rv⟩
      · have e' : ¬ q.1 = k := h1 ▸ e
        dsimp only
        rw [if_neg e, if_neg e']
        exact ⟨h1, h2, h3⟩
  · have app : ∀ {ks us}, XT ks us → XT (ks ++ [(k, b, v)]) (us ++ [(k, b, u)]) := fun {ks us} h => by
      induction h with
      | nil => exact .cons ⟨rfl, rfl, rv⟩ .nil
      | cons a _ ih => exact .cons a ih
    exact app r
theorem XT.drop {ks : List (List Key × Addr × V)} {us : List (List Key × Addr × Value)} (r : XT ks us) (k : List Key) : XT (dropX ks k) (withoutH us k) := by
  induction r with
  | nil => exact .nil
  | @cons p q ps qs h t ih =>
    unfold dropX withoutH at *
    rw [List.filter_cons, List.filter_cons, h.1]
    by_cases e : q.1 = k
    · rw [if_neg (by simp [e]), if_neg (by simp [e])]; exact ih
    · rw [if_pos (by simp [e]), if_pos (by simp [e])]; exact .cons h ih
theorem length_putX (ks : List (List Key × Addr × V)) (k : List Key) (b : Addr) (v : V) : (putX ks k b v).length ≤ ks.length + 1 := by
  unfold putX
  split
  · rw [List.length_map]; omega
  · rw [List.length_append]; exact Nat.le_refl _
def KsOk (K : Fg) (H : Hp) (ks : List (List Key × Addr × V)) : Prop := ∀ p ∈ ks, SqT K H p.2.1 (p.1.map kV)
section
variable {X : Cx} {pins : List (Addr × Obj)} {σ : L2.St} {H H' : Hp} {s : Shared} {a b : Addr} {y v : V} {u r : Value} {o : Option V} {A : Around} {E : Value → Shared → Prop} {ks : List (List Key × Addr × V)} {k : List Key}
theorem keyX (I : Inv X pins σ H s) (h : SqT X.K H b (k.map kV)) : (tupleKind (mixKind X.prog X.w)).is s.heap k b := by
  obtain ⟨its, r, ⟨o, h1, h2, n, h3⟩, _⟩ := I.tuple h
  exact ⟨o, its.toArray, n, h1, h2, h3, by simpa using items_are r⟩
theorem dx_rd (I : Inv X pins σ H s) (e : Rd H a (.ext (DXf X.prog X.w a ks))) (hk : KsOk X.K H ks) : ks.length ≤ sizeLine ∧ (a == sysModules) = false ∧
    ∃ us, XT ks us ∧ s.heap.DictOfH (tupleKind (mixKind X.prog X.w)) a us := by
  have ok : ObjOk X.prog X.w H s.heap a (.ext (DXf X.prog X.w a ks)) := rd_of I.hok e
  obtain ⟨⟨z, y, us, r, o, es, ep, h1, h2, h3, h4, h5⟩, _, _⟩ := ok
  refine ⟨z, y, us, r, o, es, ep, h1, h2, h3, h4, fun x hx => ?_, h5⟩
  have all : ∀ {l : List (List Key × Addr × V)} {m : List (List Key × Addr × Value)}, XT l m → KsOk X.K H l → ∀ x ∈ m, (tupleKind (mixKind X.prog X.w)).is s.heap x.1 x.2.1 := by
    intro l m q
    induction q with
    | nil => intro _ x hx; exact nomatch hx
    | @cons p q ps qs hq t ih =>
      intro hl x hx
      rcases List.mem_cons.mp hx with e | hx
      · subst e
        obtain ⟨e1, e2, _⟩ := hq
        have := hl p (List.mem_cons_self ..)
        rw [e1, e2] at this
        exact keyX I this
      · exact ih (fun p hp => hl p (List.mem_cons_of_mem _ hp)) x hx
  exact all r hk x hx
theorem dx_new {h : Heap} {us : List (List Key × Addr × Value)} {H0 : Hp} {P : Program} {w : World} (hz : ks.length ≤ sizeLine) (hd : (a == sysModules) = false) (r : XT ks us) (dd : h.DictOfH (tupleKind (mixKind P w)) a us) : ObjOk P w H0 h a (.ext (DXf P w a ks)) := by
  obtain ⟨o, es, ep, h1, h2, h3, h4, _, h5⟩ := dd
  refine ⟨⟨hz, hd, us, r, o, es, ep, h1, h2, h3, h4, h5⟩, ⟨o, h1⟩, fun h1 h2 ⟨z, y, us, r, o, es, ep, g1, g2⟩ st => ⟨z, y, us, r, o, es, ep, st o g1, g2⟩⟩
/-- what a dict holds at a key -/
def GetX (P : Program) (w : World) (K : Fg) (H : Hp) (a : Addr) (y : V) (o : Option V) : Prop :=
  (∃ kvs k, Rd H a (.dK kvs) ∧ y = kV k ∧ o = valV kvs k) ∨ ∃ ks k b, Rd H a (.ext (DXf P w a ks)) ∧ KsOk K H ks ∧ y = .ref b ∧ SqT K H b (k.map kV) ∧ o = valX ks k
def PutX (P : Program) (w : World) (K : Fg) (H : Hp) (a : Addr) (y v : V) (H' : Hp) : Prop :=
  (∃ kvs k, H a = some (.dK kvs) ∧ y = kV k ∧ kvs.length < sizeLine ∧ H' = upd H a (.dK (putK kvs k v))) ∨
  ∃ ks k b, H a = some (.ext (DXf P w a ks)) ∧ KsOk K H ks ∧ y = .ref b ∧ SqT K H b (k.map kV) ∧ ks.length < sizeLine ∧ H' = upd H a (.ext (DXf P w a (putX ks k b v)))
def DropX (P : Program) (w : World) (K : Fg) (H : Hp) (a : Addr) (y v : V) (H' : Hp) : Prop :=
  (∃ kvs k, H a = some (.dK kvs) ∧ y = kV k ∧ valV kvs k = some v ∧ H' = upd H a (.dK (dropK kvs k))) ∨
  ∃ ks k b, H a = some (.ext (DXf P w a ks)) ∧ KsOk K H ks ∧ y = .ref b ∧ SqT K H b (k.map kV) ∧ valX ks k = some v ∧ H' = upd H a (.ext (DXf P w a (dropX ks k)))
def IsX (P : Program) (w : World) (H : Hp) (K : Fg) (a : Addr) : Prop := (∃ kvs, Rd H a (.dK kvs)) ∨ ∃ ks, Rd H a (.ext (DXf P w a ks)) ∧ KsOk K H ks
theorem x_getItem {Q : Value → Shared → Prop} (hu : A.units + 1 < cLine) (I : Inv X pins σ H s) (g : GetX X.prog X.w X.K H a y (some v)) (ry : RelV y u) (h : ∀ w' s', Inv X pins σ H s' → RelV v w' → Q w' s') :
    wpAny (model X.prog X.w) A (getItem (.ref a) u) Q E s := by
  rcases g with g | ⟨ks, k, b, e, hk, ey, eb, l⟩
  · exact d_getItem hu I (.inl g) ry h
  · subst ey
    cases (show u = Value.ref b from ry)
    obtain ⟨z, hd, xs, rel, dd⟩ := dx_rd I e hk
    obtain ⟨w', hw, rw'⟩ := RelO.some_of (v := v) (o := (atKey xs k).map (·.2)) (by rw [l]; exact rel.val k)
    obtain ⟨p, hp, hp2⟩ := Option.map_eq_some_iff.mp hw
    refine wpAny_getItem_heap (tupleKind_room_in1 hu) (keyX I eb) dd hp ?_
    rw [hp2]
    exact h w' _ (I.tok _) rw'
theorem x_in {Q : Value → Shared → Prop} (hu : A.units + 1 < cLine) (I : Inv X pins σ H s) (g : GetX X.prog X.w X.K H a y o) (ry : RelV y u) (h : ∀ s', Inv X pins σ H s' → Q (.bool o.isSome) s') :
    wpAny (model X.prog X.w) A (compareOp .In u (.ref a)) Q E s := by
  rcases g with g | ⟨ks, k, b, e, hk, ey, eb, l⟩
  · exact d_in hu I (.inl g) ry h
  · subst ey
    cases (show u = Value.ref b from ry)
    obtain ⟨z, hd, xs, rel, dd⟩ := dx_rd I e hk
    refine wpAny_in_heap (tupleKind_room_in1 hu) (keyX I eb) hd dd ?_
    have q := (rel.val k).isSome_eq
    rw [Option.isSome_map] at q
    rw [← q, ← l]
    exact h _ (I.tok _)
theorem x_notIn {Q : Value → Shared → Prop} (hu : A.units + 1 < cLine) (I : Inv X pins σ H s) (g : GetX X.prog X.w X.K H a y o) (ry : RelV y u) (h : ∀ s', Inv X pins σ H s' → Q (.bool (!o.isSome)) s') :
    wpAny (model X.prog X.w) A (compareOp .NotIn u (.ref a)) Q E s := by
  rcases g with g | ⟨ks, k, b, e, hk, ey, eb, l⟩
  · exact d_notIn hu I (.inl g) ry h
  · subst ey
    cases (show u = Value.ref b from ry)
    obtain ⟨z, hd, xs, rel, dd⟩ := dx_rd I e hk
    refine wpAny_notIn_heap (tupleKind_room_in1 hu) (keyX I eb) hd dd ?_
    have q := (rel.val k).isSome_eq
    rw [Option.isSome_map] at q
    rw [← q, ← l]
    exact h _ (I.tok _)
theorem x_setItem {Q : Unit → Shared → Prop} (hu : A.units + 1 < cLine) (I : Inv X pins σ H s) (g : PutX X.prog X.w X.K H a y v H') (ry : RelV y u) (rv : RelV v r) (h : ∀ s', Inv X pins σ H' s' → Q () s') :
    wpAny (model X.prog X.w) A (setItem (.ref a) u r) Q E s := by
  rcases g with g | ⟨ks, k, b, e, hk, ey, eb, l, eH⟩
  · exact d_setItem hu I (.inl g) ry rv h
  · subst ey eH
    cases (show u = Value.ref b from ry)
    obtain ⟨z, hd, xs, rel, dd⟩ := dx_rd I (.inl e) hk
    have hz : xs.length ≤ sizeLine := by rw [← Paired.length rel]; exact z
    have hl : (putX ks k b v).length ≤ sizeLine := by have := length_putX ks k b v; omega
    refine wpAny_setItem_heap (hsz := hz) (tupleKind_room_in1 hu) (keyX I eb) dd fun h' dd' hs => h _ ?_
    have he : ∃ q, h'.get? a = some q := let ⟨q, _, _, hq, _⟩ := dd'; ⟨q, hq⟩
    exact d_write I (by rw [e]; exact True.intro) hs he (dx_new hl hd (rel.put k b rv) dd')
theorem x_get1 {Q : Value → Shared → Prop} (hu : A.units + 1 < cLine) (I : Inv X pins σ H s) (g : GetX X.prog X.w X.K H a y o) (ry : RelV y u) (h : ∀ w' s', Inv X pins σ H s' → RelV (o.getD .non) w' → Q w' s') :
    wpAny (model X.prog X.w) A (call (.builtin "dict.get") [.ref a, u]) Q E s := by
  rcases g with g | ⟨ks, k, b, e, hk, ey, eb, l⟩
  · exact d_get1 hu I (.inl g) ry h
  · subst ey
    cases (show u = Value.ref b from ry)
    obtain ⟨z, hd, xs, rel, dd⟩ := dx_rd I e hk
    refine call_meetsIn PySem.F.slot_dict_get dd.typeIs PySem.F.entry_dict_get (PySem.F.args_dict_get_2 _ _) (meetsH_dict_get (tupleKind (mixKind X.prog X.w)) a b hd) ⟨tupleKind_room_in1 hu, k, xs, keyX I eb, dd, h _ _ (I.tok _) ?_⟩
    rw [l]
    exact (rel.val k).getD rfl
theorem x_get2 {d : V} {Q : Value → Shared → Prop} (hu : A.units + 1 < cLine) (I : Inv X pins σ H s) (g : GetX X.prog X.w X.K H a y o) (ry : RelV y u) (rd : RelV d r) (h : ∀ w' s', Inv X pins σ H s' → RelV (o.getD d) w' → Q w' s') :
    wpAny (model X.prog X.w) A (call (.builtin "dict.get") [.ref a, u, r]) Q E s := by
  rcases g with g | ⟨ks, k, b, e, hk, ey, eb, l⟩
  · exact d_get2 hu I (.inl g) ry rd h
  · subst ey
    cases (show u = Value.ref b from ry)
    obtain ⟨z, hd, xs, rel, dd⟩ := dx_rd I e hk
    refine call_meetsIn PySem.F.slot_dict_get dd.typeIs PySem.F.entry_dict_get (PySem.F.args_dict_get_3 _ _ _) (meetsH_dict_get_default (tupleKind (mixKind X.prog X.w)) a b hd r) ⟨tupleKind_room_in1 hu, k, xs, keyX I eb, dd, h _ _ (I.tok _) ?_⟩
    rw [l]
    exact (rel.val k).getD rd
/-- d.setdefault(y, z) -/
theorem x_setd {z : V} {Q : Value → Shared → Prop} (hu : A.units + 1 < cLine) (I : Inv X pins σ H s) (e : H a = some (.ext (DXf X.prog X.w a ks))) (hk : KsOk X.K H ks) (eb : SqT X.K H b (k.map kV)) (rz : RelV z r) (hl : ks.length < sizeLine)
    (h1 : ∀ v, valX ks k = some v → ∀ w' s', Inv X pins σ H s' → RelV v w' → Q w' s') (h2 : valX ks k = none → ∀ s', Inv X pins σ (upd H a (.ext (DXf X.prog X.w a (putX ks k b z)))) s' → Q r s') :
    wpAny (model X.prog X.w) A (call (.builtin "dict.setdefault") [.ref a, .ref b, r]) Q E s := by
  obtain ⟨zl, hd, xs, rel, dd⟩ := dx_rd I (.inl e) hk
  have hz : xs.length ≤ sizeLine := by rw [← Paired.length rel]; exact zl
  refine call_setdefault_heap (hsz := hz) (tupleKind_room_in1 hu) (keyX I eb) hd dd (fun p hp => ?_) fun hn h' dd' hs => ?_
  · have q := rel.val k
    rw [hp] at q
    cases q0 : valX ks k with
    | none =>
      rw [q0] at q
      exact (show False from q).elim
    | some v0 =>
      rw [q0] at q
      exact h1 v0 q0 _ _ (I.tok _) q
  · have q := rel.val k
    rw [hn] at q
    cases q0 : valX ks k with
    | some v0 =>
      rw [q0] at q
      exact (show False from q).elim
    | none =>
      have hl2 : (putX ks k b z).length ≤ sizeLine := by have := length_putX ks k b z; omega
      have he : ∃ q, h'.get? a = some q := let ⟨q, _, _, hq, _⟩ := dd'; ⟨q, hq⟩
      exact h2 q0 _ (d_write I (by rw [e]; exact True.intro) hs he (dx_new hl2 hd (rel.put k b rz) dd'))
/-- d.pop(y), there -/
theorem x_pop {Q : Value → Shared → Prop} (hu : A.units + 1 < cLine) (I : Inv X pins σ H s) (e : H a = some (.ext (DXf X.prog X.w a ks))) (hk : KsOk X.K H ks) (eb : SqT X.K H b (k.map kV)) (hv : valX ks k = some v)
    (h : ∀ w' s', Inv X pins σ (upd H a (.ext (DXf X.prog X.w a (dropX ks k)))) s' → RelV v w' → Q w' s') : wpAny (model X.prog X.w) A (call (.builtin "dict.pop") [.ref a, .ref b]) Q E s := by
  obtain ⟨zl, hd, xs, rel, dd⟩ := dx_rd I (.inl e) hk
  have hz : xs.length ≤ sizeLine := by rw [← Paired.length rel]; exact zl
  obtain ⟨w', hw, rw'⟩ := RelO.some_of (v := v) (o := (atKey xs k).map (·.2)) (by rw [← hv]; exact rel.val k)
  obtain ⟨p, hp, hp2⟩ := Option.map_eq_some_iff.mp hw
  refine call_pop_heap (hsz := hz) (.inl rfl) (PySem.F.args_dict_pop_2 _ _) (tupleKind_room_in1 hu) (keyX I eb) hd dd hp fun h' dd' hs => ?_
  have he : ∃ q, h'.get? a = some q := let ⟨q, _, _, hq, _⟩ := dd'; ⟨q, hq⟩
  rw [hp2]
  exact h w' _ (d_write I (by rw [e]; exact True.intro) hs he (dx_new (Nat.le_trans (List.length_filter_le _ _) zl) hd (rel.drop k) dd')) rw'
end
end Ly
/-! LyT: items, membership, lengths, stores of dicts and lists; dict methods; instances. -/
namespace Ly
open PySem L2 Evl PyProof.Rows
/-! ### rules over values -/
def rIxM (P : Program) (w : World) (K : Fg) : R2 := fun x y H Q => rIxU K x y H Q ∨ ∃ a v, x = .ref a ∧ GetX P w K H a y (some v) ∧ Q v H
def rInF (P : Program) (w : World) (K : Fg) : R2 := fun y x H Q => rD2 K InD y x H Q ∨ rIn K false y x H Q ∨ ∃ a o, x = .ref a ∧ GetX P w K H a y o ∧ Q (.bl o.isSome) H
def rNinF (P : Program) (w : World) (K : Fg) : R2 := fun y x H Q => rD2 K NinD y x H Q ∨ rIn K true y x H Q ∨ ∃ a o, x = .ref a ∧ GetX P w K H a y o ∧ Q (.bl (!o.isSome)) H
def rLenM (K : Fg) : List V → Hp → VK → Prop := fun vs H Q => rDn K LenD vs H Q ∨ (∃ p ys, vs = [.ref p] ∧ (SqL K H p ys ∨ SqT K H p ys) ∧ Q (.int ys.length) H) ∨ ∃ a kvs, vs = [V.ref a] ∧ Rd H a (.dK kvs) ∧ Q (.int kvs.length) H
def rSetM (P : Program) (w : World) (K : Fg) : TSet := fun o i v H Q => L2.rSetL o i v H Q ∨ ∃ a H', o = .ref a ∧ PutX P w K H a i v H' ∧ Q H'
def rGetM (P : Program) (w : World) (K : Fg) : V → V → Hp → VK → Prop := fun o i H Q => rGetL o i H Q ∨ ∃ a v, o = .ref a ∧ GetX P w K H a i (some v) ∧ Q v H
def tyX (P : Program) (w : World) (K : Fg) (x : V) (H : Hp) : Prop := ∃ a, x = .ref a ∧ IsX P w H K a
def tBMX (P : Program) (w : World) (K : Fg) (r : V → List V → Hp → VK → Prop) (to : TE) (t : TA) : TE := fun σ H Q => to σ H fun x H1 => tyX P w K x H1 ∧ t σ H1 fun xs H2 => r x xs H2 Q
def rGet2 (P : Program) (w : World) (K : Fg) : V → List V → Hp → VK → Prop := fun x vs H Q => ∃ a y z o, x = .ref a ∧ vs = [y, z] ∧ GetX P w K H a y o ∧ Q (o.getD z) H
def rGet1 (P : Program) (w : World) (K : Fg) : V → List V → Hp → VK → Prop := fun x vs H Q => ∃ a y o, x = .ref a ∧ vs = [y] ∧ GetX P w K H a y o ∧ Q (o.getD .non) H
def rSetd (P : Program) (w : World) (K : Fg) : V → List V → Hp → VK → Prop := fun x vs H Q => ∃ a y z, x = .ref a ∧ vs = [y, z] ∧
  ((∃ kvs k, H a = some (.dK kvs) ∧ y = kV k ∧ kvs.length < sizeLine ∧ (∀ v, valV kvs k = some v → Q v H) ∧ (valV kvs k = none → Q z (upd H a (.dK (putK kvs k z))))) ∨
    ∃ ks k b, H a = some (.ext (DXf P w a ks)) ∧ KsOk K H ks ∧ y = .ref b ∧ SqT K H b (k.map kV) ∧ ks.length < sizeLine ∧ (∀ v, valX ks k = some v → Q v H) ∧ (valX ks k = none → Q z (upd H a (.ext (DXf P w a (putX ks k b z))))))
def rPopX (P : Program) (w : World) (K : Fg) : V → List V → Hp → VK → Prop := fun x vs H Q => ∃ a y v, x = .ref a ∧ vs = [y] ∧
  ((∃ kvs k, H a = some (.dK kvs) ∧ y = kV k ∧ valV kvs k = some v ∧ Q v (upd H a (.dK (dropK kvs k)))) ∨
    ∃ ks k b, H a = some (.ext (DXf P w a ks)) ∧ KsOk K H ks ∧ y = .ref b ∧ SqT K H b (k.map kV) ∧ valX ks k = some v ∧ Q v (upd H a (.ext (DXf P w a (dropX ks k)))))
section
variable {X : Cx} {P : Program} {w : World} {K : Fg}
theorem IsX.at {pins : List (Addr × Obj)} {σ : L2.St} {H : Hp} {s : Shared} {a : Addr} (I : Inv X pins σ H s) (d : IsX X.prog X.w H X.K a) :
    s.TypeIs (.ref a) "dict" ∧ (∀ b, Value.ref a = .ref b → ∃ ob, s.heap.get? b = some ob ∧ ob.dict = none) := by
  rcases d with d | ⟨ks, e, hk⟩
  · obtain ⟨h1, h2, _⟩ := isD_at I (.inl d)
    exact ⟨h1, h2⟩
  · obtain ⟨_, _, us, _, dd⟩ := dx_rd I e hk
    refine ⟨dd.typeIs, fun b q => ?_⟩
    cases q
    obtain ⟨ob, _, _, h1, h2, _⟩ := dd
    exact ⟨ob, h1, h2.2.1⟩
theorem GetX.is {H : Hp} {a : Addr} {y : V} {o : Option V} (g : GetX P w K H a y o) : IsX P w H K a := by
  rcases g with ⟨kvs, k, e, _⟩ | ⟨ks, k, b, e, hk, _⟩
  · exact .inl ⟨kvs, e⟩
  · exact .inr ⟨ks, e, hk⟩
theorem ix_dict (hu : X.A.units + 1 < cLine) (hP : X.prog = P := by rfl) (hw : X.w = w := by rfl) (hK : X.K = K := by rfl) : IxR X (fun x y H Q => ∃ a v, x = .ref a ∧ GetX P w K H a y (some v) ∧ Q v H) := by
  subst hP hw hK
  intro value slice pins s σ H x y v u Q I rx ry ⟨a, z, ex, g, q⟩ hs
  subst ex
  obtain rfl : v = Value.ref a := rx
  obtain ⟨t1, t2⟩ := g.is.at I
  unfold subscriptTail
  refine wpAny_bind ?_
  rw [getitemInPython_of_ne t1.not_modules]
  refine wpAny_bind (wpAny_specialOf t1 PySem.F.slot_dict_getitem.lookup ?_)
  have fin : wpAny (model X.prog X.w) X.A (subscripted slice false (.ref a) u) (fun r s₃ => wpAny (model X.prog X.w) X.A (letTemporaryGo value (.ref a) r >>= fun _ => pure r) (EP X pins σ Q) X.xe s₃) X.xe s := by
    rw [hs]
    exact wpAny_operating (x_getItem hu I g ry fun w' s3 I3 rw' => wpAny_bind (wpAny_letTemporaryGo (wpAny_pure ⟨z, H, I3, rw', q⟩)))
  first
    | exact wpAny_pure (wpAny_bind fin)
    | exact wpAny_bind (wpAny_pure (wpAny_bind fin))
    | exact wpAny_bind fin
theorem kIxM (hu : X.A.units + 1 < cLine) (hP : X.prog = P := by rfl) (hw : X.w = w := by rfl) (hK : X.K = K := by rfl) : IxR X (rIxM P w K) := by
  subst hP hw hK
  exact IxR.or kIxU (ix_dict hu)
theorem kInM (hu : X.A.units + 65 < cLine) (hP : X.prog = P := by rfl) (hw : X.w = w := by rfl) (hK : X.K = K := by rfl) : OpR X (compareOp .In) (rInF P w K) := by
  subst hP hw hK
  refine (oIn hu).or (op_in_seq.or ?_)
  intro pins s σ H y x v u Q I ry rx ⟨a, o, ex, g, q⟩
  subst ex
  obtain rfl : u = Value.ref a := rx
  exact x_in (by omega) I g ry fun s3 I3 => ⟨.bl o.isSome, H, I3, rfl, q⟩
theorem kNinM (hu : X.A.units + 65 < cLine) (hP : X.prog = P := by rfl) (hw : X.w = w := by rfl) (hK : X.K = K := by rfl) : OpR X (compareOp .NotIn) (rNinF P w K) := by
  subst hP hw hK
  refine (oNin hu).or (op_notIn_seq.or ?_)
  intro pins s σ H y x v u Q I ry rx ⟨a, o, ex, g, q⟩
  subst ex
  obtain rfl : u = Value.ref a := rx
  exact x_notIn (by omega) I g ry fun s3 I3 => ⟨.bl (!o.isSome), H, I3, rfl, q⟩
theorem kLenM (hK : X.K = K := by rfl) : CallR X (.builtin "len") (rLenM K) := by
  subst hK
  refine CallR.or jLen (call_len_seq.or ?_)
  intro pins s σ H xs us Q I r h
  obtain ⟨a, kvs, rfl, ha, q⟩ := h
  obtain ⟨u, rfl, ru⟩ := vals1 r
  cases ru
  exact d_len I ha fun t s' I' => ⟨.int kvs.length, H, I', ⟨t, rfl⟩, q⟩
theorem set_M (hu : X.A.units + 1 < cLine) (hP : X.prog = P := by rfl) (hw : X.w = w := by rfl) (hK : X.K = K := by rfl) : PSet X (rSetM P w K) := by
  subst hP hw hK
  intro pins s σ H o i v ov iv u Q I ro ri rv h
  rcases h with h | ⟨a, H', ex, g, q⟩
  · exact set_list pins s σ H o i v ov iv u Q I ro ri rv h
  · subst ex
    obtain rfl : ov = Value.ref a := ro
    exact x_setItem hu I g ri rv fun s' I' => ⟨H', I', q⟩
theorem get_M (hu : X.A.units + 1 < cLine) (hP : X.prog = P := by rfl) (hw : X.w = w := by rfl) (hK : X.K = K := by rfl) : PGet X (rGetM P w K) := by
  subst hP hw hK
  intro pins s σ H o i ov iv Q I ro ri h
  rcases h with h | ⟨a, v, ex, g, q⟩
  · exact get_list pins s σ H o i ov iv Q I ro ri h
  · subst ex
    obtain rfl : ov = Value.ref a := ro
    exact x_getItem hu I g ri fun w' s' I' rw' => ⟨v, H, I', rw', q⟩
theorem pe_bmX {o e : Expr} {es : List Expr} {to : TE} {t : TA} {name id : String} {apos cpos : Pos} {r : V → List V → Hp → VK → Prop} (slot : Slot "dict" name id) (hty : typeOf (.builtin id) = pure (.type "method_descriptor")) (hm : MtR X id r) (ho : PE X o to) (ha : PA X (e :: es) t)
    (hP : X.prog = P := by rfl) (hw : X.w = w := by rfl) (hK : X.K = K := by rfl) (hbase : attributeBase o name X.env (eval o X.env) = eval o X.env := by rfl)
    (hfew : ((backTo cpos (starEach (e :: es) X.env)).all (fun x => !x.1) && (backToKw cpos (keywordEach [] X.env)).all (fun x => x.1.isSome)
      && decide ((e :: es).length + ([] : List Keyword).length + (if ([] : List Keyword).isEmpty then 0 else 1) < 30)) = true := by rfl)
    (hline : (apos.endLine == cpos.line) = true := by rfl) (hs : starEach (e :: es) X.env = (false, eval e X.env) :: starEach es X.env := by rfl) (hplain : (backTo cpos (starEach es X.env)).any (·.1) = false := by rfl) :
    PE X (.Call (.Attribute o name apos) (e :: es) [] cpos) (tBMX P w K r to t) := by
  subst hP hw hK
  refine ⟨fun pins s σ H Q I h => ?_⟩
  refine wpAny_Call_method_late hbase hfew hline rfl (thn (ho.run pins s σ H _ I h) fun v s1 ⟨x, H1, I1, r1, ⟨a, ex, ty⟩, q1⟩ => ?_)
  subst ex
  obtain rfl : v = Value.ref a := r1
  obtain ⟨h1, h2⟩ := ty.at I1
  refine ⟨"dict", id, PySem.F.plainAttrs_dict, slot, hty, h1, h2, ?_⟩
  have hA := ha.run cpos pins s1 σ H1 _ I1 q1
  rw [hs] at hA ⊢
  refine Calls.callWith_builtin (by show (false || (backTo cpos (starEach es X.env)).any (·.1)) = false; rw [hplain] <;> rfl) (Calls.evalArgs_plain ?_)
  exact thn hA fun us s2 ⟨vs, H2, I2, r2, q2⟩ => hm pins s2 σ H2 (.ref a) vs (.ref a) us Q I2 rfl r2 q2
theorem vals2 {x y : V} {us : List Value} (r : Vals [x, y] us) : ∃ u v, us = [u, v] ∧ RelV x u ∧ RelV y v := by
  cases r with
  | cons a b =>
    cases b with
    | cons c d => cases d; exact ⟨_, _, rfl, a, c⟩
theorem mtx_get2 (hu : X.A.units + 1 < cLine) (hP : X.prog = P := by rfl) (hw : X.w = w := by rfl) (hK : X.K = K := by rfl) : MtR X "dict.get" (rGet2 P w K) := by
  subst hP hw hK
  intro pins s σ H x vs v us Q I rx rv ⟨a, y, z, o, ex, ev, g, q⟩
  subst ex ev
  obtain rfl : v = Value.ref a := rx
  obtain ⟨u, r, rfl, ru, rr⟩ := vals2 rv
  exact x_get2 hu I g ru rr fun w' s' I' rw' => ⟨_, H, I', rw', q⟩
theorem mtx_get1 (hu : X.A.units + 1 < cLine) (hP : X.prog = P := by rfl) (hw : X.w = w := by rfl) (hK : X.K = K := by rfl) : MtR X "dict.get" (rGet1 P w K) := by
  subst hP hw hK
  intro pins s σ H x vs v us Q I rx rv ⟨a, y, o, ex, ev, g, q⟩
  subst ex ev
  obtain rfl : v = Value.ref a := rx
  obtain ⟨u, rfl, ru⟩ := vals1 rv
  exact x_get1 hu I g ru fun w' s' I' rw' => ⟨_, H, I', rw', q⟩
theorem mtx_setd (hu : X.A.units + 1 < cLine) (hP : X.prog = P := by rfl) (hw : X.w = w := by rfl) (hK : X.K = K := by rfl) : MtR X "dict.setdefault" (rSetd P w K) := by
  subst hP hw hK
  intro pins s σ H x vs v us Q I rx rv ⟨a, y, z, ex, ev, h⟩
  subst ex ev
  obtain rfl : v = Value.ref a := rx
  obtain ⟨u, r, rfl, ru, rr⟩ := vals2 rv
  rcases h with ⟨kvs, k, e, ey, hl, q1, q2⟩ | ⟨ks, k, b, e, hk, ey, eb, hl, q1, q2⟩
  · subst ey
    exact d_setd I e ru rr hl (fun v hv w' s' I' rw' => ⟨v, _, I', rw', q1 v hv⟩) fun hn w' s' I' rw' => ⟨z, _, I', rw', q2 hn⟩
  · subst ey
    obtain rfl : u = Value.ref b := ru
    exact x_setd hu I e hk eb rr hl (fun v hv w' s' I' rw' => ⟨v, _, I', rw', q1 v hv⟩) fun hn s' I' => ⟨z, _, I', rr, q2 hn⟩
theorem mtx_pop (hu : X.A.units + 1 < cLine) (hP : X.prog = P := by rfl) (hw : X.w = w := by rfl) (hK : X.K = K := by rfl) : MtR X "dict.pop" (rPopX P w K) := by
  subst hP hw hK
  intro pins s σ H x vs v us Q I rx rv ⟨a, y, z, ex, ev, h⟩
  subst ex ev
  obtain rfl : v = Value.ref a := rx
  obtain ⟨u, rfl, ru⟩ := vals1 rv
  rcases h with ⟨kvs, k, e, ey, hv, q⟩ | ⟨ks, k, b, e, hk, ey, eb, hv, q⟩
  · subst ey
    exact d_pop I e ru hv (.inl rfl) fun w' s' I' rw' => ⟨z, _, I', rw', q⟩
  · subst ey
    obtain rfl : u = Value.ref b := ru
    exact x_pop hu I e hk eb hv fun w' s' I' rw' => ⟨z, _, I', rw', q⟩
def tDNewX (P : Program) (w : World) : TE := fun _ H Q => ∀ p, H p = none → Q (.ref p) (upd H p (.ext (DXf P w p [])))
theorem pe_dnewX {pos : Pos} (hP : X.prog = P := by rfl) (hw : X.w = w := by rfl) : PE X (.Dict [] [] pos) (tDNewX P w) := by
  subst hP hw
  exact ⟨fun pins s σ H Q I h =>
    wpAny_Dict_empty ⟨.ref s.heap.objs.size, _, I.laid (a := s.heap.objs.size) (o := .ext (DXf X.prog X.w s.heap.objs.size [])) (t' := s.toks) (fun _ _ q => Heap.get?_push_of_some _ q) (Nat.le_refl _)
      (dx_new (Nat.zero_le _) (beq_eq_false_iff_ne.mpr (Ne.symm (Nat.ne_of_lt I.big))) .nil (Heap.DictOfH.new s.heap)), rfl, h _ (I.hok.fresh (Nat.le_refl _))⟩⟩
end
end Ly
/-! LyU: mirrors of items, membership, lengths, stores, dict methods. -/
namespace Ly
open PySem L2 Evl PyProof.Rows
/-! ### mirrors -/
def lookC (c : Cl) (d : D) : Option (Option Av) := match c with
  | .dk kvs => (keyOf d).map (valA kvs)
  | .dt kvs => (tkeyOf d).map (valA kvs)
  | _ => none
def inTup (d : D) (ds : List D) : Option Bool := match scV d, ds.mapM scV with
  | some v, some vs => if flatV v = true ∧ vs.all flatV = true then some (inV v vs) else none
  | _, _ => none
def inB (S : Sg) (y x : Av) : Option Bool := match x with
  | .o j => match S[j]? with
    | some (.lst _) => match dvn 4 S y, dvn 4 S x with
      | some a, some b => fIn a b
      | _, _ => none
    | some c => match y with
      | .d d => (lookC (peel c) d).map Option.isSome
      | _ => none
    | none => none
  | .d (.tuple ds) => match y with
    | .d d => inTup d ds
    | _ => none
  | .d b => match dvn 4 S y with
    | some a => fIn a b
    | none => none
def opIn (neg : Bool) : Av → Av → Op0 := fun y x S => (inB S y x).map fun b => (.d (.bool (if neg then !b else b)), S)
def isX (S : Sg) : Av → Bool
  | .o j => match S[j]? with
    | some c => match peel c with
      | .dk _ => true
      | .dt _ => true
      | _ => false
    | none => false
  | _ => false
def aBMX (f : Av → List Av → Op0) (a : AE) (t : AA) : AE := fun σ => bnd (a σ) fun x S => if isX S x = true then bnd (t σ) (fun xs => lf (f x xs)) S else none
def bGet2 : Av → List Av → Op0 := fun x ys S => match x, ys with
  | .o j, [.d k, z] => match S[j]? with
    | some c => (lookC (peel c) k).map fun o => (o.getD z, S)
    | none => none
  | _, _ => none
def bGet1 : Av → List Av → Op0 := fun x ys S => match x, ys with
  | .o j, [.d k] => match S[j]? with
    | some c => (lookC (peel c) k).map fun o => (o.getD (.d .none), S)
    | none => none
  | _, _ => none
def putC (c : Cl) (d : D) (v : Av) : Option Cl := match c with
  | .dk kvs => if kvs.length < 100000 then (keyOf d).map fun k => .dk (putA kvs k v) else none
  | .dt kvs => if kvs.length < 100000 then (tkeyOf d).map fun k => .dt (putA kvs k v) else none
  | .lst xs => match d with
    | .int n => (ixN xs.length n).map fun j => .lst (xs.set j v)
    | _ => none
  | _ => none
def dropC (c : Cl) (d : D) : Option Cl := match c with
  | .dk kvs => (keyOf d).map fun k => .dk (dropA kvs k)
  | .dt kvs => (tkeyOf d).map fun k => .dt (dropA kvs k)
  | _ => none
def isDk : Cl → Bool
  | .dk _ => true
  | .dt _ => true
  | _ => false
def bSetd : Av → List Av → Op0 := fun x ys S => match x, ys with
  | .o j, [.d k, z] => match S[j]? with
    | some c => if isDk c = true then match lookC c k with
      | some (some v) => if (putC c k z).isSome then some (v, S) else none
      | some none => (putC c k z).map fun c' => (z, S.set j c')
      | none => none
      else none
    | none => none
  | _, _ => none
def bPop : Av → List Av → Op0 := fun x ys S => match x, ys with
  | .o j, [.d k] => match S[j]? with
    | some c => if isDk c = true then match lookC c k with
      | some (some v) => (dropC c k).map fun c' => (v, S.set j c')
      | _ => none
      else none
    | none => none
  | _, _ => none
def stM : Av → Av → Av → Sg → Option Sg := fun o i v S => match o, i with
  | .o j, .d d => match S[j]? with
    | some c => (putC c d v).map fun c' => S.set j c'
    | none => none
  | _, _ => none
/-- what stands at an item that is to be stored anew -/
def gtM : Av → Av → Sg → Option Av := fun x y S => match x, y with
  | .o j, .d d => match S[j]? with
    | some (.lst xs) => match d with
      | .int n => if 0 ≤ n then xs[n.toNat]? else none
      | _ => none
    | some c => match lookC (peel c) d with
      | some o => o
      | none => none
    | none => none
  | _, _ => none
/-- xs[i] op= e -/
def aAugS (o i a : AE) (f : Av → Av → Op0) : AS := fun σ => stb (o σ) σ fun x => stb (i σ) σ fun y S => match gtM x y S with
  | some old => stb (a σ) σ (fun b => stb (lf (f old b)) σ fun z S => (stM x y z S).map fun S1 => (.nx, σ, S1)) S
  | none => none
def aDNewK : AE := fun _ S => some (.ok (.o S.length), S ++ [.dk []])
def aDNewX : AE := fun _ S => some (.ok (.o S.length), S ++ [.dt []])
section
variable {P : Program} {w wd : World} {K : Fg} {mg : Str → Option Value} {W : WX} {ρ : List Addr} {S S' : Sg} {F H : Hp} {σ : L2.St} {σa σa' : Sl}
/-- a value where there is one -/
def OV (K : Fg) (ρ : List Addr) (F : Hp) (f : Option V) : Option Av → Prop
  | some x => ∃ y, f = some y ∧ VR K ρ F y x
  | none => f = none
theorem keyOf_V {d : D} {k : Key} {v : V} (h : keyOf d = some k) (hv : Dp K F v d) : v = kV k := by
  unfold keyOf at h
  split at h
  · cases h; cases hv; rfl
  · cases h; cases hv; rfl
  · cases h
theorem keysOf_V : ∀ {ds : List D} {ks : List Key} {vs : List V}, keysOf ds = some ks → DpAll K F vs ds → vs = ks.map kV
  | [], ks, vs, h, hv => by cases h; cases hv; rfl
  | d :: ds, ks, vs, h, hv => by
    unfold keysOf at h
    split at h
    · rename_i k ks' e1 e2
      cases h
      cases hv with
      | cons a b => rw [keyOf_V e1 a, keysOf_V e2 b]; rfl
    · cases h
theorem tkeyOf_V {d : D} {k : List Key} {v : V} (h : tkeyOf d = some k) (hv : Dp K F v d) : ∃ b, v = .ref b ∧ SqT K F b (k.map kV) := by
  unfold tkeyOf at h
  split at h
  · cases hv with
    | tup s a => rw [keysOf_V h a] at s; exact ⟨_, rfl, s⟩
  · cases h
theorem KR.val {κ : Type} [DecidableEq κ] {ks : List (κ × V)} {kvs : List (κ × Av)} (r : KR K ρ F ks kvs) (k : κ) : OV K ρ F (valV ks k) (valA kvs k) := by
  induction r with
  | nil => rfl
  | @cons p q ps qs h t ih =>
    unfold valA valV at *
    rw [List.find?_cons, List.find?_cons]
    by_cases e : q.1 = k
    · have e' : p.1 = k := h.1.trans e
      rw [decide_eq_true e, decide_eq_true e']
      exact ⟨p.2, rfl, h.2⟩
    · have e' : ¬ p.1 = k := fun z => e (h.1.symm.trans z)
      rw [decide_eq_false e, decide_eq_false e']
      exact ih
theorem TR.val {ks : List (List Key × Addr × V)} {kvs : List (List Key × Av)} (r : TR K ρ F ks kvs) (k : List Key) : OV K ρ F (valX ks k) (valA kvs k) := by
  unfold TR at r
  induction r with
  | nil => rfl
  | @cons p q ps qs h t ih =>
    unfold valA valX at *
    rw [List.find?_cons, List.find?_cons]
    by_cases e : q.1 = k
    · have e' : p.1 = k := h.1.trans e
      rw [decide_eq_true e, decide_eq_true e']
      exact ⟨p.2.2, rfl, h.2.2⟩
    · have e' : ¬ p.1 = k := fun z => e (h.1.symm.trans z)
      rw [decide_eq_false e, decide_eq_false e']
      exact ih
theorem KR.put {κ : Type} [DecidableEq κ] {ks : List (κ × V)} {kvs : List (κ × Av)} (r : KR K ρ F ks kvs) (k : κ) {v : V} {x : Av} (hv : VR K ρ F v x) : KR K ρ F (putK ks k v) (putA kvs k x) := by
  have ea : (ks.any fun kv => decide (kv.1 = k)) = kvs.any fun kv => decide (kv.1 = k) := by
    induction r with
    | nil => rfl
    | @cons p q ps qs h t ih => rw [List.any_cons, List.any_cons, ih, h.1]
  unfold putK putA
  rw [ea]
  split
  · rename_i hc
    clear hc ea
    induction r with
    | nil => exact .nil
    | @cons p q ps qs h t ih =>
      refine .cons ?_ ih
      by_cases e : q.1 = k
      · have e' : p.1 = k := h.1.trans e
        dsimp only
        rw [if_pos e, if_pos e']
        exact ⟨h.1, hv⟩
      · have e' : ¬ p.1 = k := fun z => e (h.1.symm.trans z)
        dsimp only
        rw [if_neg e, if_neg e']
        exact h
  · clear ea
    induction r with
    | nil => exact .cons ⟨rfl, hv⟩ .nil
    | cons a _ ih =>
      rename_i hc
      refine .cons a (ih ?_)
      intro z
      apply hc
      rw [List.any_cons, z, Bool.or_true]
theorem TR.put {ks : List (List Key × Addr × V)} {kvs : List (List Key × Av)} (r : TR K ρ F ks kvs) (k : List Key) {b : Addr} {v : V} {x : Av} (hb : SqT K F b (k.map kV)) (hv : VR K ρ F v x) : TR K ρ F (putX ks k b v) (putA kvs k x) := by
  have ea : (ks.any fun p => decide (p.1 = k)) = kvs.any fun kv => decide (kv.1 = k) := by
    unfold TR at r
    induction r with
    | nil => rfl
    | @cons p q ps qs h t ih => rw [List.any_cons, List.any_cons, ih, h.1]
  unfold putX putA
  rw [ea]
  split
  · rename_i hc
    clear hc ea
    unfold TR at r ⊢
    induction r with
    | nil => exact .nil
    | @cons p q ps qs h t ih =>
      refine .cons ?_ ih
      by_cases e : q.1 = k
      · have e' : p.1 = k := h.1.trans e
        dsimp only
        rw [if_pos e, if_pos e']
        exact ⟨h.1, h.2.1, hv⟩
      · have e' : ¬ p.1 = k := fun z => e (h.1.symm.trans z)
        dsimp only
        rw [if_neg e, if_neg e']
        exact h
  · clear ea
    have app : ∀ {ks kvs}, TR K ρ F ks kvs → TR K ρ F (ks ++ [(k, b, v)]) (kvs ++ [(k, x)]) := fun {ks kvs} h => by
      unfold TR at h ⊢
      induction h with
      | nil => exact .cons ⟨rfl, hb, hv⟩ .nil
      | cons a _ ih => exact .cons a ih
    exact app r
theorem KR.drop {κ : Type} [DecidableEq κ] {ks : List (κ × V)} {kvs : List (κ × Av)} (r : KR K ρ F ks kvs) (k : κ) : KR K ρ F (dropK ks k) (dropA kvs k) := by
  induction r with
  | nil => exact .nil
  | @cons p q ps qs h t ih =>
    unfold dropK dropA at *
    rw [List.filter_cons, List.filter_cons, h.1]
    by_cases e : q.1 = k
    · rw [if_neg (by simp [e]), if_neg (by simp [e])]; exact ih
    · rw [if_pos (by simp [e]), if_pos (by simp [e])]; exact .cons h ih
theorem TR.drop {ks : List (List Key × Addr × V)} {kvs : List (List Key × Av)} (r : TR K ρ F ks kvs) (k : List Key) : TR K ρ F (dropX ks k) (dropA kvs k) := by
  unfold TR at r ⊢
  induction r with
  | nil => exact .nil
  | @cons p q ps qs h t ih =>
    unfold dropX dropA at *
    rw [List.filter_cons, List.filter_cons, h.1]
    by_cases e : q.1 = k
    · rw [if_neg (by simp [e]), if_neg (by simp [e])]; exact ih
    · rw [if_pos (by simp [e]), if_pos (by simp [e])]; exact .cons h ih
theorem TR.ok (r : Rel P w K mg ρ S F H) {ks : List (List Key × Addr × V)} {kvs : List (List Key × Av)} (h : TR K ρ F ks kvs) : KsOk K H ks := by
  have fh := r.fh
  unfold TR at h
  clear r
  induction h with
  | nil => exact fun p hp => nomatch hp
  | @cons p q ps qs a _ ih =>
    intro x hx
    rcases List.mem_cons.mp hx with e | hx
    · subst e; exact ex_t fh a.2.1
    · exact ih x hx
theorem TR.len {ks : List (List Key × Addr × V)} {kvs : List (List Key × Av)} (h : TR K ρ F ks kvs) : ks.length = kvs.length := Paired.length h
theorem Rel.rd (r : Rel P w K mg ρ S F H) {v : V} {j : Nat} {c : Cl} (hv : VR K ρ F v (.o j)) (hs : S[j]? = some c) (hg : peel c ≠ .gone) : ∃ a u, v = .ref a ∧ ρ[j]? = some a ∧ Rd H a u ∧ CR P w K mg ρ F a (peel c) u := by
  have hg' : c ≠ .gone := by
    intro z; subst z; exact hg rfl
  obtain ⟨a, o, e, h1, h2, h3, h4⟩ := r.at hv hs hg'
  cases c with
  | lk c =>
    obtain ⟨ob, u, rfl, h⟩ := h4
    exact ⟨a, u, e, h1, .inr ⟨ob, h3⟩, h⟩
  | gone => exact absurd rfl hg
  | lst xs => exact ⟨a, o, e, h1, .inl h3, h4⟩
  | dk xs => exact ⟨a, o, e, h1, .inl h3, h4⟩
  | dt xs => exact ⟨a, o, e, h1, .inl h3, h4⟩
  | ins c xs => exact ⟨a, o, e, h1, .inl h3, h4⟩
/-- what a look into a dict finds -/
theorem look_ok (r : Rel P w K mg ρ S F H) {v u : V} {j : Nat} {c : Cl} {d : D} {o : Option Av} (hv : VR K ρ F v (.o j)) (hu : Dp K F u d) (hs : S[j]? = some c) (h : lookC (peel c) d = some o) :
    ∃ a o', v = .ref a ∧ GetX P w K H a u o' ∧ OV K ρ F o' o := by
  unfold lookC at h
  split at h
  · rename_i kvs e
    obtain ⟨a, ob, rfl, h1, h2, h3⟩ := r.rd hv hs (by rw [e]; exact fun z => nomatch z)
    rw [e] at h3
    obtain ⟨ks, rfl, h3⟩ := h3
    obtain ⟨k, e1, e2⟩ := Option.map_eq_some_iff.mp h
    subst e2
    refine ⟨a, valV ks k, rfl, .inl ⟨ks, k, h2, keyOf_V e1 hu, rfl⟩, ?_⟩
    exact h3.val k
  · rename_i kvs e
    obtain ⟨a, ob, rfl, h1, h2, h3⟩ := r.rd hv hs (by rw [e]; exact fun z => nomatch z)
    rw [e] at h3
    obtain ⟨ks, rfl, h3⟩ := h3
    obtain ⟨k, e1, e2⟩ := Option.map_eq_some_iff.mp h
    subst e2
    obtain ⟨b, rfl, hb⟩ := tkeyOf_V e1 hu
    refine ⟨a, valX ks k, rfl, .inr ⟨ks, k, b, h2, TR.ok r h3, rfl, ex_t r.fh hb, rfl⟩, ?_⟩
    exact TR.val h3 k
  · cases h
theorem os_Ix : OpS P wd K mg (rIxM P wd K) opIx := by
  intro ρ S F H hr v u x y hv hw z S' e Q q
  unfold opIx at e
  split at e
  · rename_i a b
    obtain ⟨r, e1, e2⟩ := Option.map_eq_some_iff.mp e
    cases e2
    exact .inl (.inl ⟨F, a, b, r, hr.fh, hv, hw, fIx_ok _ _ _ e1, fun u F2 H2 g hu => q ρ F2 H2 u (hr.gr g).2 (hr.gr g).1 hu⟩)
  · rename_i j d
    split at e
    · rename_i c hs
      obtain ⟨r, e1, e2⟩ := Option.map_eq_some_iff.mp e
      cases e2
      unfold getC at e1
      split at e1
      · rename_i xs ec
        split at e1
        · rename_i n
          obtain ⟨a, ob, rfl, h1, h2, h3⟩ := hr.rd hv hs (by rw [ec]; exact fun z => nomatch z)
          rw [ec] at h3
          obtain ⟨vs, rfl, h3⟩ := h3
          have hw : Dp K F u (.int n) := hw
          cases hw
          obtain ⟨y, ey, hy⟩ := vrs_at h3 e1
          exact .inl (.inr ⟨a, vs, n, y, rfl, rfl, .inl h2, ey, q ρ F H y Gw.refl hr hy⟩)
        · cases e1
      · rename_i kvs ec
        obtain ⟨k, e2, e3⟩ := Option.bind_eq_some_iff.mp e1
        obtain ⟨a, o', rfl, g, h⟩ := look_ok (d := d) (o := some z) hr hv hw hs (by rw [ec]; unfold lookC; rw [e2]; exact congrArg some e3)
        obtain ⟨y, rfl, hy⟩ := h
        exact .inr ⟨a, y, rfl, g, q ρ F H y Gw.refl hr hy⟩
      · rename_i kvs ec
        obtain ⟨k, e2, e3⟩ := Option.bind_eq_some_iff.mp e1
        obtain ⟨a, o', rfl, g, h⟩ := look_ok (d := d) (o := some z) hr hv hw hs (by rw [ec]; unfold lookC; rw [e2]; exact congrArg some e3)
        obtain ⟨y, rfl, hy⟩ := h
        exact .inr ⟨a, y, rfl, g, q ρ F H y Gw.refl hr hy⟩
      · cases e1
    · cases e
  · cases e
theorem scVs_dp : ∀ {ds : List D} {vs us : List V}, ds.mapM scV = some vs → DpAll K F us ds → us = vs
  | [], vs, us, h, hv => by cases hv; cases h; rfl
  | d :: ds, vs, us, h, hv => by
    obtain ⟨y, ys, ey, eys, rfl⟩ := mapM_cons_some h
    cases hv with
    | cons a b => rw [scV_inv ey a, scVs_dp eys b]
theorem inB_ok (hr : Rel P wd K mg ρ S F H) {v u : V} {y x : Av} (hv : VR K ρ F v y) (hu : VR K ρ F u x) {b : Bool} (e : inB S y x = some b) :
    (∃ dy dx, Dp K H v dy ∧ Dp K H u dx ∧ fIn dy dx = some b) ∨ (∃ p xs, u = .ref p ∧ SqT K H p xs ∧ flatV v = true ∧ xs.all flatV = true ∧ inV v xs = b) ∨ ∃ a o, u = .ref a ∧ GetX P wd K H a v o ∧ o.isSome = b := by
  unfold inB at e
  split at e
  · rename_i j
    split at e
    · split at e
      · rename_i da db e1 e2
        exact .inl ⟨da, db, dvn_ok hr _ _ _ _ e1 hv, dvn_ok hr _ _ _ _ e2 hu, e⟩
      · cases e
    · rename_i c _ hs
      split at e
      · rename_i d
        obtain ⟨o, e1, e2⟩ := Option.map_eq_some_iff.mp e
        obtain ⟨a, o', rfl, g, h⟩ := look_ok hr hu hv hs e1
        refine .inr (.inr ⟨a, o', rfl, g, ?_⟩)
        subst e2
        cases o with
        | none => rw [show o' = none from h]; rfl
        | some x => obtain ⟨y, rfl, _⟩ := h; rfl
      · cases e
    · cases e
  · rename_i ds
    split at e
    · rename_i d
      unfold inTup at e
      split at e
      · rename_i v0 vs e1 e2
        split at e
        · rename_i hf
          cases e
          have hu : Dp K F u (.tuple ds) := hu
          cases hu with
          | @tup a us _ s1 a1 =>
            have ev : v = v0 := scV_inv e1 hv
            have eu := scVs_dp e2 a1
            subst ev eu
            exact .inr (.inl ⟨a, us, rfl, ex_t hr.fh s1, hf.1, hf.2, rfl⟩)
        · cases e
      · cases e
    · cases e
  · split at e
    · rename_i da e1
      exact .inl ⟨da, _, dvn_ok hr _ _ _ _ e1 hv, Dp.up hu hr.fh, e⟩
    · cases e
theorem os_In : OpS P wd K mg (rInF P wd K) (opIn false) := by
  intro ρ S F H hr v u y x hv hu z S' e Q q
  obtain ⟨b, e1, e2⟩ := Option.map_eq_some_iff.mp e
  cases e2
  rcases inB_ok hr hv hu e1 with ⟨dy, dx, h1, h2, h3⟩ | ⟨p, xs, rfl, h1, h2, h3, h4⟩ | ⟨a, o, rfl, g, h⟩
  · exact .inl ⟨H, dy, dx, _, Ex.refl H, h1, h2, fIn_ok _ _ _ h3, fun u F2 H2 g hu => q ρ F H2 u (hr.grH g).2 (hr.grH g).1 (sc_up (d := .bool b) rfl hu)⟩
  · refine .inr (.inl ⟨p, xs, rfl, .inr h1, h2, h3, ?_⟩)
    exact q ρ F H _ Gw.refl hr (by rw [h4]; exact .bl b)
  · exact .inr (.inr ⟨a, o, rfl, g, q ρ F H _ Gw.refl hr (by rw [h]; exact .bl b)⟩)
theorem os_Nin : OpS P wd K mg (rNinF P wd K) (opIn true) := by
  intro ρ S F H hr v u y x hv hu z S' e Q q
  obtain ⟨b, e1, e2⟩ := Option.map_eq_some_iff.mp e
  cases e2
  rcases inB_ok hr hv hu e1 with ⟨dy, dx, h1, h2, h3⟩ | ⟨p, xs, rfl, h1, h2, h3, h4⟩ | ⟨a, o, rfl, g, h⟩
  · exact .inl ⟨H, dy, dx, _, Ex.refl H, h1, h2, fNin_ok _ _ _ h3, fun u F2 H2 g hu => q ρ F H2 u (hr.grH g).2 (hr.grH g).1 (sc_up (d := .bool (!b)) rfl hu)⟩
  · refine .inr (.inl ⟨p, xs, rfl, .inr h1, h2, h3, ?_⟩)
    exact q ρ F H _ Gw.refl hr (by rw [h4]; exact .bl (!b))
  · exact .inr (.inr ⟨a, o, rfl, g, q ρ F H _ Gw.refl hr (by rw [h]; exact .bl (!b))⟩)
theorem cs_Len : CallS P wd K mg (rLenM K) cbLen := by
  intro ρ S F H hr vs xs hv z S' e Q q
  unfold cbLen at e
  split at e
  · rename_i d
    obtain ⟨r, e1, e2⟩ := Option.map_eq_some_iff.mp e
    cases e2
    exact .inl ⟨F, [d], r, hr.fh, dps_of (ds := [d]) hv, fLen_ok _ _ e1, fun u F2 H2 g hu => q ρ F2 H2 u (hr.gr g).2 (hr.gr g).1 hu⟩
  · rename_i j
    split at e
    · rename_i c hs
      obtain ⟨n, e1, e2⟩ := Option.map_eq_some_iff.mp e
      cases e2
      cases hv with
      | @cons v _ us _ hv hn =>
        cases hn
        unfold lenC at e1
        split at e1
        · rename_i ys ec
          cases e1
          obtain ⟨a, ob, rfl, h1, h2, h3⟩ := hr.rd hv hs (by rw [ec]; exact fun z => nomatch z)
          rw [ec] at h3
          obtain ⟨vs, rfl, h3⟩ := h3
          exact .inr (.inl ⟨a, vs, rfl, .inl (.inl h2), q ρ F H _ Gw.refl hr (by rw [h3.len]; exact .int _)⟩)
        · rename_i kvs ec
          cases e1
          obtain ⟨a, ob, rfl, h1, h2, h3⟩ := hr.rd hv hs (by rw [ec]; exact fun z => nomatch z)
          rw [ec] at h3
          obtain ⟨ks, rfl, h3⟩ := h3
          exact .inr (.inr ⟨a, ks, rfl, h2, q ρ F H _ Gw.refl hr (by rw [Paired.length h3]; exact .int _)⟩)
        · cases e1
    · cases e
  · cases e
/-! dict methods -/
theorem isX_ty (hr : Rel P wd K mg ρ S F H) {v : V} {x : Av} (hv : VR K ρ F v x) (h : isX S x = true) : tyX P wd K v H := by
  unfold isX at h
  split at h
  · split at h
    · rename_i c hs
      split at h
      · rename_i kvs ec
        obtain ⟨a, ob, rfl, h1, h2, h3⟩ := hr.rd hv hs (by rw [ec]; exact fun z => nomatch z)
        rw [ec] at h3
        obtain ⟨ks, rfl, h3⟩ := h3
        exact ⟨a, rfl, .inl ⟨ks, h2⟩⟩
      · rename_i kvs ec
        obtain ⟨a, ob, rfl, h1, h2, h3⟩ := hr.rd hv hs (by rw [ec]; exact fun z => nomatch z)
        rw [ec] at h3
        obtain ⟨ks, rfl, h3⟩ := h3
        exact ⟨a, rfl, .inr ⟨ks, h2, TR.ok hr h3⟩⟩
      · cases h
    · cases h
  · cases h
theorem sm_bmX {rm : V → List V → Hp → VK → Prop} {f : Av → List Av → Op0} {te : TE} {ae : AE} {t : TA} {ag : AA} (hm : MtS P wd K mg rm f) (ha : SimE P wd K mg W te ae) (hg : SimA P wd K mg W t ag) : SimE P wd K mg W (tBMX P wd K rm te t) (aBMX f ae ag) := by
  intro σ σa ρ S F H hr hs rr S' h Q qo qe
  refine ha.bind hr hs h qe fun x S1 ρ1 F1 H1 v h g1 r1 v1 => ?_
  split at h
  · rename_i hl
    refine ⟨isX_ty r1 v1 hl, hg.bind r1 (hs.gw g1) h (ExQ.gw qe g1) fun xs S2 ρ2 F2 H2 vs h g2 r2 v2 => ?_⟩
    obtain ⟨z, hz, rfl⟩ := lf_inv h
    exact hm ρ2 S2 F2 H2 r2 v x vs xs (v1.gw g2) v2 z S' hz Q fun ρ3 F3 H3 u g3 r3 v3 => qo _ rfl ρ3 F3 H3 u ((g1.trans g2).trans g3) r3 v3
  · cases h
theorem vrs1 {vs : List V} {x : Av} (h : VRs K ρ F vs [x]) : ∃ v, vs = [v] ∧ VR K ρ F v x := by
  cases h with
  | cons a b => cases b; exact ⟨_, rfl, a⟩
theorem vrs2 {vs : List V} {x y : Av} (h : VRs K ρ F vs [x, y]) : ∃ v u, vs = [v, u] ∧ VR K ρ F v x ∧ VR K ρ F u y := by
  cases h with
  | cons a b =>
    obtain ⟨u, rfl, hu⟩ := vrs1 b
    exact ⟨_, u, rfl, a, hu⟩
theorem ms_get2 : MtS P wd K mg (rGet2 P wd K) bGet2 := by
  intro ρ S F H hr v x vs xs hv hvs z S' e Q q
  unfold bGet2 at e
  split at e
  · rename_i j k zz
    split at e
    · rename_i c hs
      obtain ⟨o, e1, e2⟩ := Option.map_eq_some_iff.mp e
      cases e2
      obtain ⟨u, t, rfl, hu, ht⟩ := vrs2 hvs
      obtain ⟨a, o', rfl, g, h⟩ := look_ok hr hv hu hs e1
      refine ⟨a, u, t, o', rfl, rfl, g, ?_⟩
      cases o with
      | none => rw [show o' = none from h]; exact q ρ F H _ Gw.refl hr ht
      | some x => obtain ⟨y, rfl, hy⟩ := h; exact q ρ F H _ Gw.refl hr hy
    · cases e
  · cases e
theorem ms_get1 : MtS P wd K mg (rGet1 P wd K) bGet1 := by
  intro ρ S F H hr v x vs xs hv hvs z S' e Q q
  unfold bGet1 at e
  split at e
  · rename_i j k
    split at e
    · rename_i c hs
      obtain ⟨o, e1, e2⟩ := Option.map_eq_some_iff.mp e
      cases e2
      obtain ⟨u, rfl, hu⟩ := vrs1 hvs
      obtain ⟨a, o', rfl, g, h⟩ := look_ok hr hv hu hs e1
      refine ⟨a, u, o', rfl, rfl, g, ?_⟩
      cases o with
      | none => rw [show o' = none from h]; exact q ρ F H _ Gw.refl hr .non
      | some x => obtain ⟨y, rfl, hy⟩ := h; exact q ρ F H _ Gw.refl hr hy
    · cases e
  · cases e
theorem Rel.atK (r : Rel P wd K mg ρ S F H) {v : V} {j : Nat} {kvs : List (Key × Av)} (hv : VR K ρ F v (.o j)) (hs : S[j]? = some (.dk kvs)) : ∃ a ks, v = .ref a ∧ ρ[j]? = some a ∧ H a = some (.dK ks) ∧ KR K ρ F ks kvs := by
  obtain ⟨a, o, e, h1, h2, h3, ks, rfl, h4⟩ := r.at hv hs (fun z => nomatch z)
  exact ⟨a, ks, e, h1, h3, h4⟩
theorem Rel.atT (r : Rel P wd K mg ρ S F H) {v : V} {j : Nat} {kvs : List (List Key × Av)} (hv : VR K ρ F v (.o j)) (hs : S[j]? = some (.dt kvs)) : ∃ a ks, v = .ref a ∧ ρ[j]? = some a ∧ H a = some (.ext (DXf P wd a ks)) ∧ TR K ρ F ks kvs := by
  obtain ⟨a, o, e, h1, h2, h3, ks, rfl, h4⟩ := r.at hv hs (fun z => nomatch z)
  exact ⟨a, ks, e, h1, h3, h4⟩
theorem putC_dk (kvs : List (Key × Av)) (d : D) (v : Av) : putC (.dk kvs) d v = if kvs.length < 100000 then (keyOf d).map fun k => .dk (putA kvs k v) else none := rfl
theorem putC_dt (kvs : List (List Key × Av)) (d : D) (v : Av) : putC (.dt kvs) d v = if kvs.length < 100000 then (tkeyOf d).map fun k => .dt (putA kvs k v) else none := rfl
theorem ms_setd : MtS P wd K mg (rSetd P wd K) bSetd := by
  intro ρ S F H hr v x vs xs hv hvs z S' e Q q
  unfold bSetd at e
  split at e
  · rename_i j k zz
    split at e
    · rename_i c hs
      split at e
      · rename_i hd
        obtain ⟨u, t, rfl, hu, ht⟩ := vrs2 hvs
        cases c with
        | dk kvs =>
          obtain ⟨a, ks, rfl, h1, h2, h3⟩ := hr.atK hv hs
          cases ek : keyOf k with
          | none => simp [lookC, ek] at e
          | some kk =>
            have hval := h3.val kk
            refine ⟨a, u, t, rfl, rfl, .inl ⟨ks, kk, h2, keyOf_V ek hu, ?_, fun y hy => ?_, fun hn => ?_⟩⟩
            · have hl : kvs.length < 100000 := by
                refine Classical.byContradiction fun hl => ?_
                have hp : putC (.dk kvs) k zz = none := by show (if kvs.length < 100000 then _ else none) = none; rw [if_neg hl]
                rw [hp] at e
                simp only [lookC, ek, Option.map_some] at e
                split at e <;> cases e
              rw [Paired.length h3]; exact sz_lt hl
            · cases q0 : valA kvs kk with
              | none => rw [q0] at hval; have hval : valV ks kk = none := hval; rw [hval] at hy; cases hy
              | some x0 =>
                rw [q0] at hval
                obtain ⟨y', e1, hy'⟩ := hval
                rw [e1] at hy; cases hy
                simp only [lookC, ek, Option.map_some, q0] at e
                split at e
                · cases e; exact q ρ F H _ Gw.refl hr hy'
                · cases e
            · cases q0 : valA kvs kk with
              | some x0 => rw [q0] at hval; obtain ⟨y', e1, _⟩ := hval; rw [e1] at hn; cases hn
              | none =>
                simp only [lookC, ek, Option.map_some, q0] at e
                obtain ⟨c', e1, e2⟩ := Option.map_eq_some_iff.mp e
                cases e2
                rw [putC_dk] at e1
                split at e1
                · rw [ek] at e1
                  cases e1
                  obtain ⟨r2, g2⟩ := hr.set (o := .dK (putK ks kk t)) (c := .dk (putA kvs kk _)) h1 hs (fun z => nomatch z) ⟨_, rfl, h3.put kk ht⟩
                  exact q _ _ _ _ g2 r2 ht
                · cases e1
        | dt kvs =>
          obtain ⟨a, ks, rfl, h1, h2, h3⟩ := hr.atT hv hs
          cases ek : tkeyOf k with
          | none => simp [lookC, ek] at e
          | some kk =>
            have hval := TR.val h3 kk
            obtain ⟨b, rfl, hb⟩ := tkeyOf_V ek hu
            refine ⟨a, .ref b, t, rfl, rfl, .inr ⟨ks, kk, b, h2, TR.ok hr h3, rfl, ex_t hr.fh hb, ?_, fun y hy => ?_, fun hn => ?_⟩⟩
            · have hl : kvs.length < 100000 := by
                refine Classical.byContradiction fun hl => ?_
                have hp : putC (.dt kvs) k zz = none := by show (if kvs.length < 100000 then _ else none) = none; rw [if_neg hl]
                rw [hp] at e
                simp only [lookC, ek, Option.map_some] at e
                split at e <;> cases e
              rw [TR.len h3]; exact sz_lt hl
            · cases q0 : valA kvs kk with
              | none => rw [q0] at hval; have hval : valX ks kk = none := hval; rw [hval] at hy; cases hy
              | some x0 =>
                rw [q0] at hval
                obtain ⟨y', e1, hy'⟩ := hval
                rw [e1] at hy; cases hy
                simp only [lookC, ek, Option.map_some, q0] at e
                split at e
                · cases e; exact q ρ F H _ Gw.refl hr hy'
                · cases e
            · cases q0 : valA kvs kk with
              | some x0 => rw [q0] at hval; obtain ⟨y', e1, _⟩ := hval; rw [e1] at hn; cases hn
              | none =>
                simp only [lookC, ek, Option.map_some, q0] at e
                obtain ⟨c', e1, e2⟩ := Option.map_eq_some_iff.mp e
                cases e2
                rw [putC_dt] at e1
                split at e1
                · rw [ek] at e1
                  cases e1
                  obtain ⟨r2, g2⟩ := hr.set (o := .ext (DXf P wd a (putX ks kk b t))) (c := .dt (putA kvs kk _)) h1 hs (fun z => nomatch z) ⟨_, rfl, TR.put h3 kk hb ht⟩
                  exact q _ _ _ _ g2 r2 ht
                · cases e1
        | _ => cases hd
      · cases e
    · cases e
  · cases e
theorem ms_popX : MtS P wd K mg (rPopX P wd K) bPop := by
  intro ρ S F H hr v x vs xs hv hvs z S' e Q q
  unfold bPop at e
  split at e
  · rename_i j k
    split at e
    · rename_i c hs
      split at e
      · rename_i hd
        obtain ⟨u, rfl, hu⟩ := vrs1 hvs
        cases c with
        | dk kvs =>
          obtain ⟨a, ks, rfl, h1, h2, h3⟩ := hr.atK hv hs
          cases ek : keyOf k with
          | none => simp [lookC, ek] at e
          | some kk =>
            have hval := h3.val kk
            cases q0 : valA kvs kk with
            | none => simp [lookC, ek, q0] at e
            | some x0 =>
              rw [q0] at hval
              obtain ⟨y', e1, hy'⟩ := hval
              simp only [lookC, ek, Option.map_some, q0, dropC] at e
              cases e
              obtain ⟨r2, g2⟩ := hr.set (o := .dK (dropK ks kk)) (c := .dk (dropA kvs kk)) h1 hs (fun z => nomatch z) ⟨_, rfl, h3.drop kk⟩
              exact ⟨a, u, y', rfl, rfl, .inl ⟨ks, kk, h2, keyOf_V ek hu, e1, q _ _ _ _ g2 r2 hy'⟩⟩
        | dt kvs =>
          obtain ⟨a, ks, rfl, h1, h2, h3⟩ := hr.atT hv hs
          cases ek : tkeyOf k with
          | none => simp [lookC, ek] at e
          | some kk =>
            have hval := TR.val h3 kk
            obtain ⟨b, rfl, hb⟩ := tkeyOf_V ek hu
            cases q0 : valA kvs kk with
            | none => simp [lookC, ek, q0] at e
            | some x0 =>
              rw [q0] at hval
              obtain ⟨y', e1, hy'⟩ := hval
              simp only [lookC, ek, Option.map_some, q0, dropC] at e
              cases e
              obtain ⟨r2, g2⟩ := hr.set (o := .ext (DXf P wd a (dropX ks kk))) (c := .dt (dropA kvs kk)) h1 hs (fun z => nomatch z) ⟨_, rfl, TR.drop h3 kk⟩
              exact ⟨a, .ref b, y', rfl, rfl, .inr ⟨ks, kk, b, h2, TR.ok hr h3, rfl, ex_t hr.fh hb, e1, q _ _ _ _ g2 r2 hy'⟩⟩
        | _ => cases hd
      · cases e
    · cases e
  · cases e
/-! stores -/
theorem ss_M : StS P wd K mg (rSetM P wd K) stM := by
  intro ρ S F H hr o i v x y z ho hi hv S' e Q q
  unfold stM at e
  split at e
  · rename_i j d
    split at e
    · rename_i c hs
      obtain ⟨c', e1, rfl⟩ := Option.map_eq_some_iff.mp e
      have hi : Dp K F i d := hi
      unfold putC at e1
      split at e1
      · rename_i kvs
        split at e1
        · rename_i hl
          obtain ⟨k, ek, rfl⟩ := Option.map_eq_some_iff.mp e1
          obtain ⟨a, ks, rfl, h1, h2, h3⟩ := hr.atK ho hs
          obtain ⟨r2, g2⟩ := hr.set (o := .dK (putK ks k v)) (c := .dk (putA kvs k z)) h1 hs (fun z => nomatch z) ⟨_, rfl, h3.put k hv⟩
          exact .inr ⟨a, _, rfl, .inl ⟨ks, k, h2, keyOf_V ek hi, by rw [Paired.length h3]; exact sz_lt hl, rfl⟩, q _ _ _ g2 r2⟩
        · cases e1
      · rename_i kvs
        split at e1
        · rename_i hl
          obtain ⟨k, ek, rfl⟩ := Option.map_eq_some_iff.mp e1
          obtain ⟨a, ks, rfl, h1, h2, h3⟩ := hr.atT ho hs
          obtain ⟨b, rfl, hb⟩ := tkeyOf_V ek hi
          obtain ⟨r2, g2⟩ := hr.set (o := .ext (DXf P wd a (putX ks k b v))) (c := .dt (putA kvs k z)) h1 hs (fun z => nomatch z) ⟨_, rfl, TR.put h3 k hb hv⟩
          exact .inr ⟨a, _, rfl, .inr ⟨ks, k, b, h2, TR.ok hr h3, rfl, ex_t hr.fh hb, by rw [TR.len h3]; exact sz_lt hl, rfl⟩, q _ _ _ g2 r2⟩
        · cases e1
      · rename_i xs
        cases d with
        | int n =>
          obtain ⟨m, en, rfl⟩ := Option.map_eq_some_iff.mp (show (ixN xs.length n).map (fun j => Cl.lst (xs.set j z)) = some _ from e1)
          obtain ⟨a, vs, rfl, h1, h2, h3, h4⟩ := hr.atL ho hs
          obtain rfl : i = V.int n := by cases hi; rfl
          obtain ⟨r2, g2⟩ := hr.set (o := .lst (vs.set m v)) (c := .lst (xs.set m z)) h1 hs (fun z => nomatch z) ⟨_, rfl, vrs_set h4 hv m⟩
          exact .inl ⟨a, vs, n, m, rfl, rfl, h3, by rw [h4.len]; exact en, q _ _ _ g2 r2⟩
        | _ => cases e1
      · cases e1
    · cases e
  · cases e
theorem sm_dnewK : SimE P wd K mg W tDNewK aDNewK := by
  intro σ σa ρ S F H hr hs rr S' h Q qo qe
  cases h
  intro p hp
  obtain ⟨r2, g2⟩ := hr.new (c := .dk []) (o := .dK []) hp ⟨[], rfl, .nil⟩
  exact qo _ rfl _ _ _ (.ref p) g2 r2 ⟨p, by rw [← hr.len]; exact get_new, rfl⟩
theorem sm_dnewX : SimE P wd K mg W (tDNewX P wd) aDNewX := by
  intro σ σa ρ S F H hr hs rr S' h Q qo qe
  cases h
  intro p hp
  obtain ⟨r2, g2⟩ := hr.new (c := .dt []) (o := .ext (DXf P wd p [])) hp ⟨[], rfl, .nil⟩
  exact qo _ rfl _ _ _ (.ref p) g2 r2 ⟨p, by rw [← hr.len]; exact get_new, rfl⟩
end
end Ly
/-! LyV: instances, methods, new instances, exceptions, try, xs[i] op= e. -/
namespace Ly
open PySem L2 Evl PyProof.Rows
/-! ### mirrors -/
def putFA (f : Str) (v : Av) : List (Str × Av) → List (Str × Av)
  | [] => [(f, v)]
  | (g, x) :: r => if g = f then (g, v) :: r else (g, x) :: putFA f v r
def aFld (cs : List Str) (f : Str) (a : AE) : AE := fun σ => bnd (a σ) fun x S => match x with
  | .o j => match S[j]? with
    | some (.ins c fs) => if c ∈ cs then (fs.lookup f).map fun v => (.ok v, S) else none
    | _ => none
  | _ => none
def aSetF (cs : List Str) (f : Str) (o a : AE) : AS := fun σ => stb (a σ) σ fun y => stb (o σ) σ fun x S => match x with
  | .o j => match S[j]? with
    | some (.ins c fs) => if c ∈ cs ∧ fs.length < 900 then some (.nx, σ, S.set j (.ins c (putFA f y fs))) else none
    | _ => none
  | _ => none
def aMeth (c m : Str) (f : AF) (a : AE) (t : AA) : AE := fun σ => bnd (a σ) fun x S => match x with
  | .o j => match S[j]? with
    | some (.ins c' fs) => if c' = c ∧ fs.lookup m = none then bnd (t σ) (fun xs => f (.o j :: xs)) S else none
    | _ => none
  | _ => none
def aMake (c : Str) (f : AF) (t : AA) : AE := fun σ => bnd (t σ) fun xs S => match f (.o S.length :: xs) (S ++ [.ins c []]) with
  | some (.ok (.d .none), S') => some (.ok (.o S.length), S')
  | some (.ex e, S') => some (.ex e, S')
  | _ => none
def aRaise (c : Str) : AS := fun σ S => some (.ex ⟨c, none⟩, σ, S)
/-- try .. except C: .. (several) -/
def aTry (all : List Str) (sub : Str → Str → Bool) (b : AS) (hs : List (Str × AS)) : AS := fun σ S => match b σ S with
  | some (.ex e, σ1, S1) => if e.cls ∈ all then (match hs.find? fun h => sub e.cls h.1 with
      | some h => h.2 σ1 S1
      | none => some (.ex e, σ1, S1)) else none
  | r => r
/-! ### rules with what is raised at the slots -/
def tMethS (C : Addr) (m : Str) (sp : Sp) (E : L2.St → XK) (ta : TE) (t : TA) : TE := fun σ H Q => ta σ H fun x H1 => ∃ a dx fs, x = .ref a ∧ H1 a = some (.ins C dx fs) ∧ fs.lookup m = none ∧ t σ H1 fun vs H2 => sp (x :: vs) H2 Q (E σ)
def tMakeS (C : Addr) (sp : Sp) (E : L2.St → XK) (t : TA) : TE := fun σ H Q => t σ H fun vs H1 => ∀ x dx, H1 x = none → H1 dx = none → dx ≠ x →
  sp (.ref x :: vs) (upd (upd H1 dx (.own x)) x (.ins C dx [])) (fun v H2 => v = .non ∧ Q (.ref x) H2) (E σ)
/-- a method stands in its class -/
structure DfM (K : Fg) (mg : Str → Option Value) (c m q : Str) (st : Stmt) (ps : List Str) : Prop where
  ex : ∃ f fd, Fun K m q st f fd ∧ Meth K (clsA mg c) m f ∧ Cls K (clsA mg c) ∧ ∀ us : List Value, us.length = ps.length → bindArgs fd ⟨us, []⟩ = pure (ps.zip us)
structure DkM (P : Program) (w : World) (K : Fg) (mg : Str → Option Value) (base : Heap) (k : Nat) (c m : Str) (ps : List Str) (f : AF) : Prop where
  ex : ∃ a fd, Meth K (clsA mg c) m a ∧ Cls K (clsA mg c) ∧ FnOk P w K mg base (L2.CX P w) k a fd ps (spA P w K mg f) ∧ Binds K fd ps []
/-- a class whose instances are made by its __init__ -/
structure ClM (K : Fg) (mg : Str → Option Value) (c : Str) : Prop where
  at_ : mg c = some (.ref (clsA mg c))
  makes : PySem.W.makesIn K (clsA mg c) = true
  kp : PySem.W.keepIn K (.ref (clsA mg c)) = true
/-- an exception class of one's own -/
structure ExM (K : Fg) (mg : Str → Option Value) (c : Str) (bm : List Value) : Prop where
  at_ : mg c = some (.ref (clsA mg c))
  ex : PySem.W.excIn K (clsA mg c) bm "ValueError.__new__" = true
  kp : PySem.W.keepIn K (.ref (clsA mg c)) = true
  sb : PySem.W.subIn K (.ref (clsA mg c)) (.type "BaseException") = some true
  ty : PySem.W.typeIn K (.ref (clsA mg c)) = some (.type "type")
section
variable {P : Program} {w wd : World} {K : Fg} {mg : Str → Option Value} {base : Heap} {W : WX} {ρ : List Addr} {S S' : Sg} {F H : Hp} {σ : L2.St} {σa σa' : Sl} {X : Cx} {k : Nat} {c m q : Str} {st : Stmt} {N ps : List Str}
theorem DfM.dkM {np n : Nat} {as : AS} (D0 : DfM K mg c m q st ps) (S0 : FnScope N ps (defScope st)) (hb : ∀ (f : Addr) (cdv : Value) (A : Around) (outer : List Env) (s : Shared) (H : Hp) (E : XK), Room k (A.deeper (envOfC q (defScope st) s.heap.objs.size f cdv)) →
      ∃ t, PSs (cxOf (L2.CX P w) P w K mg base N q (defScope st) f cdv A outer s H E) (defBody st) t ∧ SimS P w K mg (WOf E) t as) (h1 : np = ps.length := by rfl) (h2 : n = N.length := by rfl) (h3 : ps.length ≤ N.length := by decide) : DkM P w K mg base (k + 1) c m ps (aDef np n as) := by
  subst h1 h2
  obtain ⟨f, fd, Fn, hm, hc, b⟩ := D0.ex
  refine ⟨f, fd, hm, hc, Fn.okX S0 (fun vs H Q E ⟨ρ, S, F, xs, r, S', hr, hv, hf, _, _⟩ => by rw [hv.len]; exact (aDef_inv hf).1) fun cdv A outer s H vs Q E hr h => ?_, .all b⟩
  obtain ⟨t, p1, p2⟩ := hb f cdv A outer s H E hr
  refine ⟨t, p1, ?_⟩
  obtain ⟨ρ, S, F, xs, r, S', hR, hv, hf, q1, q2⟩ := h
  obtain ⟨hl, fl, σ', e1, e2⟩ := aDef_inv hf
  rw [← hl] at e1
  refine p2 _ _ ρ S F H hR (start_SR hv (by rw [hl]; exact h3)) _ _ _ e1 _ ?_
  rcases e2 with ⟨x, rfl, rfl⟩ | ⟨rfl, rfl⟩ | ⟨e, rfl, rfl⟩
  · exact fun ρ' F' H' v g r' v' => q1 _ rfl ρ' F' H' v g r' v'
  · exact fun ρ' F' H' σ2 g r' s' => q1 _ rfl ρ' F' H' .non g r' .non
  · exact fun ρ' F' H' σ2 c d g r' s' x' => q2 _ rfl ρ' F' H' c d g r' x'
theorem DkM.mono {f : AF} {j : Nat} (h : DkM P w K mg base k c m ps f) (hj : k ≤ j) : DkM P w K mg base j c m ps f := by
  obtain ⟨a, fd, h1, h2, h3, h4⟩ := h.ex
  exact ⟨a, fd, h1, h2, h3.mono hj, h4⟩
theorem DfM.dkM0 (D0 : DfM K mg c m q st ps) : DkM P w K mg base k c m ps (fun _ => stuck) := by
  obtain ⟨f, fd, F, hm, hc, b⟩ := D0.ex
  exact ⟨f, fd, hm, hc, ⟨fun vs H Q E ⟨ρ, S, F, xs, r, S', a1, a2, a3, _⟩ => (by cases a3), fun A outer s H args us vs Q E hr he hb hv ⟨ρ, S, F, xs, r, S', a1, a2, a3, _⟩ => (by cases a3)⟩, .all b⟩
theorem mtA {f : AF} {pos apos : Pos} {o e : Expr} {es : List Expr} {ta : TE} {t : TA} {j : Nat} {pl : Sem Bool} (h : DkM P w K mg base k c m ps f) (hr : Room j X.A) (tk : Takes X W) (ho : PE X o ta) (ha : PA X (e :: es) t) (hj : k ≤ j := by first | decide | omega)
    (hP : X.prog = P := by rfl) (hw : X.w = w := by rfl) (hK : X.K = K := by rfl) (hm : X.mg = mg := by rfl) (hB : X.base = base := by rfl)
    (hst : starEach (e :: es) X.env = (false, eval e X.env) :: starEach es X.env := by rfl) (hpl : (backTo pos (starEach es X.env)).any (·.1) = false := by rfl)
    (ht : eval (.Call (.Attribute o m apos) (e :: es) [] pos) X.env = (do
      let ov ← eval o X.env
      standAt apos.atName
      let (f, first) ← holding [ov] (getMethod ov m pl)
      callWith pos f first (backTo pos (starEach (e :: es) X.env)) (backToKw pos (keywordEach [] X.env))) := by rfl) :
    PE X (.Call (.Attribute o m apos) (e :: es) [] pos) (tMethS (clsA mg c) m (spA P w K mg f) (WE W) ta t) := by
  subst hP hw hK hm hB
  obtain ⟨a, fd, h1, h2, h3, h4⟩ := h.ex
  refine ⟨fun pins s σ H Q I h => ?_⟩
  refine PySem.W.methodCall_KW (pl := pl) (thn (ho.run pins s σ H _ I h) fun u s1 ⟨x, H1, I1, rx, a, dx, fs, ex, ea, l, q⟩ => ?_) ht
  subst ex
  obtain rfl : u = Value.ref a := rx
  refine getmeth_ok I1 ea h2 h1 l ?_
  refine PySem.W.callWith_K (first := [.ref a]) (h₀ := X.base) I.ok.mod.kin h1.kp (thn (ha.run pos pins s1 σ H1 _ I1 q) fun us s2 ⟨vs, H2, I2, r, q2⟩ => ⟨I2.kIn, ?_⟩) hst hpl
  exact run_fnS (us := .ref a :: us) (vs := .ref a :: vs) h3 (hr.mono hj) h4 (passAt tk σ) I2 (.cons rfl r) q2
theorem mtA0 {f : AF} {pos apos : Pos} {o : Expr} {ta : TE} {j : Nat} {pl : Sem Bool} (h : DkM P w K mg base k c m ps f) (hr : Room j X.A) (tk : Takes X W) (ho : PE X o ta) (hj : k ≤ j := by first | decide | omega)
    (hP : X.prog = P := by rfl) (hw : X.w = w := by rfl) (hK : X.K = K := by rfl) (hm : X.mg = mg := by rfl) (hB : X.base = base := by rfl)
    (ht : eval (.Call (.Attribute o m apos) [] [] pos) X.env = (do
      let ov ← eval o X.env
      standAt apos.atName
      let (f, first) ← holding [ov] (getMethod ov m pl)
      callWith pos f first (backTo pos (starEach [] X.env)) (backToKw pos (keywordEach [] X.env))) := by rfl) :
    PE X (.Call (.Attribute o m apos) [] [] pos) (tMethS (clsA mg c) m (spA P w K mg f) (WE W) ta tNil) := by
  subst hP hw hK hm hB
  obtain ⟨a, fd, h1, h2, h3, h4⟩ := h.ex
  refine ⟨fun pins s σ H Q I h => ?_⟩
  refine PySem.W.methodCall_KW (pl := pl) (thn (ho.run pins s σ H _ I h) fun u s1 ⟨x, H1, I1, rx, a, dx, fs, ex, ea, l, q⟩ => ?_) ht
  subst ex
  obtain rfl : u = Value.ref a := rx
  refine getmeth_ok I1 ea h2 h1 l ?_
  refine PySem.W.callWith_K0 (first := [.ref a]) I1.kIn h1.kp ?_
  exact run_fnS (us := [.ref a]) (vs := [.ref a]) h3 (hr.mono hj) h4 (passAt tk σ) I1 (.cons rfl .nil) q
theorem run_makeS {C f : Addr} {fd : FuncData} {sp : Sp} {E : L2.St → XK} {pins : List (Addr × Obj)} {σ : L2.St} {H : Hp} {s : Shared} {Q : VK} {us : List Value} {vs : List V} (M : Mk X.K C f) (F : FnOk X.prog X.w X.K X.mg X.base (L2.CX X.prog X.w) k f fd ps sp) (hr : Room (k + 1) X.A) (hb : Binds X.K fd ps [])
    (hx : PassesAt (L2.CX X.prog X.w) X σ (E σ)) (I : Inv X pins σ H s) (r : Vals vs us)
    (h : ∀ x dx, H x = none → H dx = none → dx ≠ x → sp (.ref x :: vs) (upd (upd H dx (.own x)) x (.ins C dx [])) (fun v H2 => v = .non ∧ Q (.ref x) H2) (E σ)) :
    wpAny (model X.prog X.w) X.A (call (.ref C) us) (EP X pins σ Q) X.xe s := by
  have hq := h (s.heap.objs.size + 1) s.heap.objs.size (I.hok.fresh (Nat.le_succ _)) (I.hok.fresh (Nat.le_refl _)) (Nat.ne_of_lt (Nat.lt_succ_self _))
  have I2 := Inv.made (C := C) I
  have r2 : Vals (V.ref (s.heap.objs.size + 1) :: vs) (Value.ref (s.heap.objs.size + 1) :: us) := .cons rfl r
  have hl : (Value.ref (s.heap.objs.size + 1) :: us).length = ps.length := by
    have e := r2.length
    rw [F.len _ _ _ _ hq] at e
    exact e.symm
  have b := hb _ (Value.ref (s.heap.objs.size + 1) :: us) I2.kIn (by rw [List.append_nil]; exact hl)
  rw [List.append_nil] at b
  refine wpAny_call (make_map (f := f) I.kIn M.makes M.init (beq_iff_eq.mp M.fn) (codeAny_mono (F.run _ X.stack _ _ ⟨Value.ref (s.heap.objs.size + 1) :: us, []⟩ (Value.ref (s.heap.objs.size + 1) :: us) _ _ (E σ) (hr.make C us [])
    (I2.env0.make C us []) b r2 hq) fun r s' hq' => ?_))
  cases r with
  | error e => exact hx pins _ _ e s' I2 hq'
  | ok fl =>
    cases fl with
    | ret u =>
      obtain ⟨v, H', I3, rv, ev, q3⟩ := I2.after hq'
      subst ev
      exact ⟨rv, ⟨V.ref (s.heap.objs.size + 1), H', I3, rfl, q3⟩⟩
    | next => exact False.elim hq'
    | brk => exact False.elim hq'
    | cont => exact False.elim hq'
theorem mkA {f : AF} {p pos : Pos} {e : Expr} {es : List Expr} {t : TA} {j : Nat} (h : DkM P w K mg base k c "__init__" ps f) (cm : ClM K mg c) (hr : Room j X.A) (tk : Takes X W) (ha : PA X (e :: es) t) (hj : k + 1 ≤ j := by first | decide | omega) (hg : Gl X c := by rfl)
    (hP : X.prog = P := by rfl) (hw : X.w = w := by rfl) (hK : X.K = K := by rfl) (hm : X.mg = mg := by rfl) (hB : X.base = base := by rfl)
    (hdb : (c == ("__debug__" : Str)) = false := by decide) (he : starEach (e :: es) X.env = (false, eval e X.env) :: starEach es X.env := by rfl) (hpl : (backTo pos (starEach es X.env)).any (·.1) = false := by rfl) :
    PE X (.Call (.Name c p) (e :: es) [] pos) (tMakeS (clsA mg c) (spA P w K mg f) (WE W) t) := by
  subst hP hw hK hm hB
  obtain ⟨a, fd, h1, h2, h3, h4⟩ := h.ex
  refine ⟨fun pins s σ H Q I h => ?_⟩
  refine wpAny_Call_Name_kw (ld_glob I hg cm.at_ ?_ hdb)
  refine PySem.W.callWith_K (h₀ := X.base) I.ok.mod.kin cm.kp (thn (ha.run pos pins s σ H _ I h) fun us s1 ⟨vs, H1, I1, r, q⟩ => ⟨I1.kIn, ?_⟩) he hpl
  exact run_makeS (E := WE W) ⟨cm.makes, h1.at_, h1.fn, cm.kp⟩ h3 (hr.mono hj) h4 (passAt tk σ) I1 r q
/-! ### soundness -/
theorem lookup_KR {ks : List (Str × V)} {fs : List (Str × Av)} (h : KR K ρ F ks fs) (f : Str) : OV K ρ F (ks.lookup f) (fs.lookup f) := by
  induction h with
  | nil => rfl
  | @cons p q ps qs a _ ih =>
    obtain ⟨g, v⟩ := p
    obtain ⟨g', x⟩ := q
    obtain ⟨e, hv⟩ := a
    cases e
    rw [List.lookup_cons, List.lookup_cons]
    cases (f == g) with
    | true => exact ⟨v, rfl, hv⟩
    | false => exact ih
theorem putF_KR {ks : List (Str × V)} {fs : List (Str × Av)} (h : KR K ρ F ks fs) (f : Str) {v : V} {x : Av} (hv : VR K ρ F v x) : KR K ρ F (putF f v ks) (putFA f x fs) := by
  induction h with
  | nil => exact .cons ⟨rfl, hv⟩ .nil
  | @cons p q ps qs a b ih =>
    obtain ⟨g, u⟩ := p
    obtain ⟨g', y⟩ := q
    obtain ⟨e, hu⟩ := a
    cases e
    unfold putF putFA
    by_cases e : g = f
    · rw [if_pos e, if_pos e]; exact .cons ⟨rfl, hv⟩ b
    · rw [if_neg e, if_neg e]; exact .cons ⟨rfl, hu⟩ ih
theorem Rel.atI (r : Rel P wd K mg ρ S F H) {v : V} {j : Nat} {c : Str} {fs : List (Str × Av)} (hv : VR K ρ F v (.o j)) (hs : S[j]? = some (.ins c fs)) : ∃ a dx gs, v = .ref a ∧ ρ[j]? = some a ∧ H a = some (.ins (clsA mg c) dx gs) ∧ KR K ρ F gs fs := by
  obtain ⟨a, o, e, h1, h2, h3, dx, gs, rfl, h4⟩ := r.at hv hs (fun z => nomatch z)
  exact ⟨a, dx, gs, e, h1, h3, h4⟩
def CA (K : Fg) (mg : Str → Option Value) (cs : List Str) (f : Str) : Prop := ∀ c ∈ cs, Cls K (clsA mg c) ∧ NoAttr K (clsA mg c) f
theorem sm_fld {cs : List Str} {f : Str} {te : TE} {ae : AE} (hc : CA K mg cs f) (ha : SimE P wd K mg W te ae) : SimE P wd K mg W (tFld K te f) (aFld cs f ae) := by
  intro σ σa ρ S F H hr hs rr S' h Q qo qe
  refine ha.bind hr hs h qe fun x S1 ρ1 F1 H1 v h g1 r1 v1 => ?_
  split at h
  · rename_i j
    split at h
    · rename_i c fs ec
      split at h
      · rename_i hm
        obtain ⟨y, e1, e2⟩ := Option.map_eq_some_iff.mp h
        cases e2
        obtain ⟨a, dx, gs, rfl, h1, h2, h3⟩ := r1.atI v1 ec
        have := lookup_KR h3 f
        rw [e1] at this
        obtain ⟨u, eu, hu⟩ := this
        exact ⟨a, _, dx, gs, u, rfl, h2, (hc c hm).1, (hc c hm).2, eu, qo _ rfl ρ1 F1 H1 u g1 r1 hu⟩
      · cases h
    · cases h
  · cases h
theorem ss_fld {cs : List Str} {f : Str} {to tv : TE} {ao av : AE} (hc : CA K mg cs f) (ho : SimE P wd K mg W to ao) (hv : SimE P wd K mg W tv av) : SimS P wd K mg W (sFld K to tv f) (aSetF cs f ao av) := by
  intro σ σa ρ S F H hr hs fl σa' S' h D' q
  refine hv.stb hr hs h q fun y S1 ρ1 F1 H1 u h g1 r1 v1 => ?_
  refine ho.stb r1 (hs.gw g1) h (q.gw g1) fun x S2 ρ2 F2 H2 v h g2 r2 v2 => ?_
  have g12 := g1.trans g2
  split at h
  · rename_i j
    split at h
    · rename_i c fs ec
      split at h
      · rename_i hm
        cases h
        obtain ⟨a, dx, gs, rfl, h1, h2, h3⟩ := r2.atI v2 ec
        obtain ⟨r3, g3⟩ := r2.set (o := .ins (clsA mg c) dx (putF f u gs)) (c := .ins c (putFA f y fs)) h1 ec (fun z => nomatch z) ⟨dx, _, rfl, putF_KR h3 f (v1.gw g2)⟩
        exact ⟨a, _, dx, gs, rfl, h2, (hc c hm.1).1, (hc c hm.1).2, by rw [Paired.length h3]; omega, q _ _ _ σ (g12.trans g3) r3 (hs.gw (g12.trans g3))⟩
      · cases h
    · cases h
  · cases h
theorem sm_meth {f : AF} {te : TE} {ae : AE} {t : TA} {ag : AA} (ha : SimE P w K mg W te ae) (hg : SimA P w K mg W t ag) : SimE P w K mg W (tMethS (clsA mg c) m (spA P w K mg f) (WE W) te t) (aMeth c m f ae ag) := by
  intro σ σa ρ S F H hr hs rr S' h Q qo qe
  refine ha.bind hr hs h qe fun x S1 ρ1 F1 H1 v hh g1 r1 v1 => ?_
  split at hh
  · rename_i j
    split at hh
    · rename_i c' fs ec
      split at hh
      · rename_i hm
        obtain ⟨rfl, hl⟩ := hm
        obtain ⟨a, dx, gs, rfl, h1, h2, h3⟩ := r1.atI v1 ec
        have := lookup_KR h3 m
        rw [hl] at this
        refine ⟨a, dx, gs, rfl, h2, this, hg.bind r1 (hs.gw g1) hh (ExQ.gw qe g1) fun xs S2 ρ2 F2 H2 vs h g2 r2 v2 => ?_⟩
        have g12 := g1.trans g2
        exact ⟨ρ2, S2, F2, _, rr, S', r2, .cons (v1.gw g2) v2, h, fun x hx ρ' F' H' v g r v' => qo x hx ρ' F' H' v (g12.trans g) r v', fun e he ρ' F' H' c d g r x' => qe e he ρ' F' H' c d (g12.trans g) r x'⟩
      · cases hh
    · cases hh
  · cases hh
theorem sm_make {f : AF} {t : TA} {ag : AA} (hg : SimA P w K mg W t ag) : SimE P w K mg W (tMakeS (clsA mg c) (spA P w K mg f) (WE W) t) (aMake c f ag) := by
  intro σ σa ρ S F H hr hs rr S' h Q qo qe
  refine hg.bind hr hs h qe fun xs S1 ρ1 F1 H1 vs h0 g1 r1 v1 => fun p dx hp hdx hne => ?_
  have hm : (match f (.o S1.length :: xs) (S1 ++ [.ins c []]) with
    | some (.ok (.d .none), S') => some (.ok (.o S1.length), S')
    | some (.ex e, S') => some (.ex e, S')
    | _ => none) = some (rr, S') := h0
  clear h0 h
  have hpu : upd H1 dx (.own p) p = none := by rw [upd_ne (Ne.symm hne)]; exact hp
  have rb : Rel P w K mg ρ1 S1 F1 (upd H1 dx (.own p)) := r1.beside (fun z => r1.al dx z hdx) (fresh_back r1.fh hdx)
  obtain ⟨r2, g2⟩ := rb.new (c := .ins c []) (o := .ins (clsA mg c) dx []) hpu ⟨dx, [], rfl, .nil⟩
  have gb : Gw ρ1 F1 H1 (ρ1 ++ [p]) F1 (upd (upd H1 dx (.own p)) p (.ins (clsA mg c) dx [])) := ⟨⟨_, rfl⟩, Ex.refl F1, fun q hq hn => by
    obtain ⟨e1, e2, e3⟩ := g2.out q (by rw [upd_ne (fun z : q = dx => hq (by rw [z]; exact hdx))]; exact hq) hn
    exact ⟨by rw [e1, upd_ne (fun z : q = dx => hq (by rw [z]; exact hdx))], e2, e3⟩, fun q o u h => g2.fz q o u (by rw [upd_ne (fun z : q = dx => by rw [z, hdx] at h; cases h)]; exact h)⟩
  have vp : VR K (ρ1 ++ [p]) F1 (.ref p) (.o S1.length) := ⟨p, by rw [← r1.len]; exact get_new, rfl⟩
  split at hm
  · rename_i S2 e
    cases hm
    refine ⟨ρ1 ++ [p], _, F1, _, _, _, r2, .cons vp (VRs.gw v1 gb), e, fun x hx ρ' F' H' v g r v' => ?_, fun e he => nomatch he⟩
    cases hx
    have v' : Dp K F' v .none := v'
    cases v'
    exact ⟨rfl, qo _ rfl ρ' F' H' _ ((g1.trans gb).trans g) r (vp.gw g)⟩
  · rename_i e0 S2 e
    cases hm
    exact ⟨ρ1 ++ [p], _, F1, _, _, _, r2, .cons vp (VRs.gw v1 gb), e, fun x hx => (nomatch hx), fun e he ρ' F' H' c d g r x' => by cases he; exact qe _ rfl ρ' F' H' c d ((g1.trans gb).trans g) r x'⟩
  · cases hm
/-! raise -/
def tRaise (W : WX) (C : Addr) : TS := fun _ σ H => W (.ref C) none σ H
theorem rsA {x msg : Str} {bm : List Value} {j : Nat} {p p2 pos rpos : Pos} (e : ExM K mg x bm) (F : ExcBaseFacts B newId initId bm) (hn : newId = "ValueError.__new__") (hc : X.calm = true) (tk : Takes X W) (hg : Gl X x := by rfl) (hK : X.K = K := by rfl) (hm : X.mg = mg := by rfl)
    (hdb : (x == ("__debug__" : Str)) = false := by decide) : PS X (.Raise (some (.Call (.Name x p) [.Constant (.str msg) j p2] [] pos)) none rpos) (tRaise W (clsA mg x)) := by
  subst hK hm hn
  exact ps_raise hc tk (pmk_own F e.ex e.at_ e.kp (raises_own e.sb e.ty) hg hdb)
theorem ss_raise {x : Str} : SimS P wd K mg W (tRaise W (clsA mg x)) (aRaise x) := by
  intro σ σa ρ S F H hr hs fl σa' S' h D' q
  cases h
  exact q ρ F H σ _ none Gw.refl hr hs ⟨rfl, rfl⟩
/-! try -/
/-- what is known of the classes -/
def XMs (K : Fg) (mg : Str → Option Value) (all hs : List Str) (sub : Str → Str → Bool) : Prop := ∀ c ∈ all, ∀ h ∈ hs, PySem.W.exmOne K (.ref (clsA mg c)) (.ref (clsA mg h)) = some (sub c h)
theorem ss_try {all : List Str} {sub : Str → Str → Bool} {tb : WX → TS} {b : AS} {hs : List (Str × AS)} {l : List (Value × (Addr → Value → Option Addr → TS))} (hx : XMs K mg all (hs.map (·.1)) sub) (hb : ∀ W', SimS P wd K mg W' (tb W') b)
    (hh : Paired (fun (p : Value × (Addr → Value → Option Addr → TS)) (q : Str × AS) => p.1 = .ref (clsA mg q.1) ∧ ∀ a c d, SimS P wd K mg (fun _ _ _ _ => False) (p.2 a c d) q.2) l hs) (hnx : ∀ q ∈ hs, ∀ σ S e σ' S', q.2 σ S ≠ some (.ex e, σ', S')) :
    SimS P wd K mg W (fun D σ H => tb (wMany K W D l) D σ H) (aTry all sub b hs) := by
  intro σ σa ρ S F H hr hs' fl σa' S' h D' q
  unfold aTry at h
  split at h
  · rename_i e σ1 S1 e1
    split at h
    · rename_i hm
      refine hb _ σ σa ρ S F H hr hs' _ _ _ e1 D' ?_
      intro ρ1 F1 H1 σ2 cv d g1 r1 s1 x1
      obtain ⟨ec, ed⟩ := x1
      have go : ∀ {hs : List (Str × AS)} {l : List (Value × (Addr → Value → Option Addr → TS))}, Paired (fun (p : Value × (Addr → Value → Option Addr → TS)) (q : Str × AS) => p.1 = .ref (clsA mg q.1) ∧ ∀ a c d, SimS P wd K mg (fun _ _ _ _ => False) (p.2 a c d) q.2) l hs →
          (∀ h ∈ hs.map (·.1), PySem.W.exmOne K (.ref (clsA mg e.cls)) (.ref (clsA mg h)) = some (sub e.cls h)) → (∀ q ∈ hs, ∀ σ S e σ' S', q.2 σ S ≠ some (.ex e, σ', S')) →
          (match hs.find? fun h => sub e.cls h.1 with
            | some h => h.2 σ1 S1
            | none => some (.ex e, σ1, S1)) = some (fl, σa', S') → wMany K W D' l cv d σ2 H1 := by
        intro hs l hh
        induction hh with
        | nil =>
          intro _ _ h
          cases h
          exact q ρ1 F1 H1 σ2 cv d g1 r1 s1 ⟨ec, ed⟩
        | @cons p r ps rs a _ ih =>
          intro hx hn h
          obtain ⟨ep, es⟩ := a
          obtain ⟨pv, pt⟩ := p
          cases ep
          have hx0 := hx r.1 (by simp)
          refine ⟨sub e.cls r.1, by rw [ec]; exact hx0, fun hb a _ => ?_, fun hb => ?_⟩
          · have hb' : sub e.cls r.1 = true := hb
            rw [List.find?_cons, hb'] at h
            refine es a cv d σ2 σ1 ρ1 S1 F1 H1 r1 s1 _ _ _ h D' ?_
            have q1 := q.gw g1
            cases fl with
            | nx => exact q1
            | bk => exact q1
            | ct => exact q1
            | rt x => exact q1
            | ex e => exact absurd h (hn r (List.mem_cons_self ..) σ1 S1 e σa' S')
          · have hb' : sub e.cls r.1 = false := hb
            rw [List.find?_cons, hb'] at h
            exact ih (fun h' hm => hx h' (by rw [List.map_cons]; exact List.mem_cons_of_mem _ hm)) (fun q hq => hn q (List.mem_cons_of_mem _ hq)) h
      exact go hh (hx e.cls hm) hnx h
    · cases h
  · rename_i hne
    refine hb _ σ σa ρ S F H hr hs' _ _ _ h D' ?_
    cases fl with
    | nx => exact q
    | bk => exact q
    | ct => exact q
    | rt x => exact q
    | ex e => exact absurd h (hne _ _ _)
/-! xs[i] op= e -/
theorem gtM_ok (r : Rel P wd K mg ρ S F H) {o i : V} {x y z : Av} (ho : VR K ρ F o x) (hi : VR K ρ F i y) (h : gtM x y S = some z) : ∃ u, VR K ρ F u z ∧ ∀ Q : VK, Q u H → rGetM P wd K o i H Q := by
  unfold gtM at h
  split at h
  · rename_i j d
    split at h
    · rename_i xs hs
      split at h
      · rename_i n
        split at h
        · rename_i hn
          obtain ⟨a, vs, rfl, h1, h2, h3, h4⟩ := r.atL ho hs
          obtain ⟨u, e1, hu⟩ := vrs_get h4 h
          have hi : Dp K F i (.int n) := hi
          cases hi
          exact ⟨u, hu, fun Q q => .inl ⟨a, vs, n.toNat, u, rfl, by rw [Int.toNat_of_nonneg hn], h3, e1, q⟩⟩
        · cases h
      · cases h
    · rename_i c _ hs
      split at h
      · rename_i o e
        subst h
        obtain ⟨a, o', rfl, g, hv⟩ := look_ok r ho hi hs e
        obtain ⟨u, rfl, hu⟩ := hv
        exact ⟨u, hu, fun Q q => .inr ⟨a, u, rfl, g, q⟩⟩
      · cases h
    · cases h
  · cases h
theorem ss_augS {to ti te : TE} {ao ai ae : AE} {tip : TIp} {f : Av → Av → Op0} (hop : IpS P wd K mg tip f) (ho : SimE P wd K mg W to ao) (hi : SimE P wd K mg W ti ai) (he : SimE P wd K mg W te ae) : SimS P wd K mg W (tAugS to ti te (rGetM P wd K) tip (rSetM P wd K)) (aAugS ao ai ae f) := by
  intro σ σa ρ S F H hr hs fl σa' S' h D' q
  refine ho.stb hr hs h q fun x S1 ρ1 F1 H1 o h g1 r1 v1 => ?_
  refine hi.stb r1 (hs.gw g1) h (q.gw g1) fun y S2 ρ2 F2 H2 i h g2 r2 v2 => ?_
  have g12 := g1.trans g2
  split at h
  · rename_i old eo
    obtain ⟨u, hu, hQ⟩ := gtM_ok r2 (v1.gw g2) v2 eo
    refine hQ _ ?_
    refine he.stb r2 (hs.gw g12) h (q.gw g12) fun b S3 ρ3 F3 H3 ub h g3 r3 v3 => ?_
    have g13 := g12.trans g3
    rcases stb_inv h with ⟨z, S4, e4, h⟩ | ⟨e, e4, rfl, rfl⟩
    · obtain ⟨z', e4, e5⟩ := lf_inv e4
      cases e5
      obtain ⟨S5, e6, e7⟩ := Option.map_eq_some_iff.mp h
      cases e7
      refine hop ρ3 S3 F3 H3 r3 u ub old b (hu.gw g3) v3 z S4 e4 _ fun ρ4 F4 H4 uz g4 r4 v4 => ?_
      have g14 := g13.trans g4
      exact ss_M ρ4 S4 F4 H4 r4 o i uz x y z (v1.gw ((g2.trans g3).trans g4)) (v2.gw (g3.trans g4)) v4 _ e6 _ fun ρ5 F5 H5 g5 r5 => q ρ5 F5 H5 σ (g14.trans g5) r5 (hs.gw (g14.trans g5))
    · obtain ⟨z', e4, e5⟩ := lf_inv e4
      cases e5
  · cases h
end
end Ly
/-! LyW: walks over dicts, zip, enumerate; list(), tuple(), len(set()). -/
namespace Ly
open PySem L2 Evl PyProof.Rows
/-! ### list(), tuple() of lists and tuples, as they stand -/
def seqD (S : Sg) : Av → Option (List D)
  | .d (.list ds) => some ds
  | .d (.tuple ds) => some ds
  | .o j => match S[j]? with
    | some (.lst xs) => allD xs
    | _ => none
  | _ => none
def seqA (S : Sg) : Av → Option (List Av)
  | .d (.list ds) => some (ds.map .d)
  | .d (.tuple ds) => some (ds.map .d)
  | .o j => match S[j]? with
    | some (.lst xs) => some xs
    | _ => none
  | _ => none
def cbTup : List Av → Op0 := fun xs S => match xs with
  | [x] => (seqD S x).map fun ds => (.d (.tuple ds), S)
  | _ => none
def cbLstF : List Av → Op0 := fun xs S => match xs with
  | [x] => (seqD S x).map fun ds => (.d (.list ds), S)
  | _ => none
def cbLstC : List Av → Op0 := fun xs S => match xs with
  | [x] => (seqA S x).map fun ys => (.o S.length, S ++ [.lst ys])
  | _ => none
def rTupL (K : Fg) : List V → Hp → VK → Prop := fun xs H Q => ∃ p ys, xs = [.ref p] ∧ ((SqL K H p ys ∧ ∀ l, H l = none → Q (.ref l) (upd H l (.tup ys))) ∨ (SqT K H p ys ∧ Q (.ref p) H))
def rLstL (K : Fg) : List V → Hp → VK → Prop := fun xs H Q => ∃ p ys, xs = [.ref p] ∧ (SqL K H p ys ∨ SqT K H p ys) ∧ ∀ l, H l = none → Q (.ref l) (upd H l (.lst ys))
section
variable {P : Program} {w wd : World} {K : Fg} {mg : Str → Option Value} {W : WX} {ρ : List Addr} {S S' : Sg} {F H : Hp} {σ : L2.St} {σa σa' : Sl} {X : Cx}
theorem kTupL (hK : X.K = K := by rfl) : CallR X (.type "tuple") (rTupL K) := by subst hK; exact call_tuple_of
theorem kLstL (hK : X.K = K := by rfl) : CallR X (.type "list") (rLstL K) := by subst hK; exact call_list_of
theorem seqD_ok (r : Rel P wd K mg ρ S F H) {v : V} {x : Av} {ds : List D} (hv : VR K ρ F v x) (h : seqD S x = some ds) : ∃ a vs, v = .ref a ∧ DpAll K F vs ds ∧ ((SqL K H a vs) ∨ (SqT K H a vs ∧ SqT K F a vs ∧ x = .d (.tuple ds))) := by
  unfold seqD at h
  split at h
  · cases h
    have hv : Dp K F v (.list ds) := hv
    cases hv with
    | lst s a => exact ⟨_, _, rfl, a, .inl (ex_l r.fh s)⟩
  · cases h
    have hv : Dp K F v (.tuple ds) := hv
    cases hv with
    | tup s a => exact ⟨_, _, rfl, a, .inr ⟨ex_t r.fh s, s, rfl⟩⟩
  · split at h
    · rename_i xs e
      obtain ⟨a, vs, rfl, h1, h2, h3, h4⟩ := r.atL hv e
      rw [allD_inv h] at h4
      exact ⟨a, vs, rfl, dps_of h4, .inl (sq_of h3)⟩
    · cases h
  · cases h
theorem seqA_ok (r : Rel P wd K mg ρ S F H) {v : V} {x : Av} {ys : List Av} (hv : VR K ρ F v x) (h : seqA S x = some ys) : ∃ a vs, v = .ref a ∧ VRs K ρ F vs ys ∧ (SqL K H a vs ∨ SqT K H a vs) := by
  unfold seqA at h
  split at h
  · cases h
    have hv : Dp K F v (.list _) := hv
    cases hv with
    | lst s a => exact ⟨_, _, rfl, vrs_of a, .inl (ex_l r.fh s)⟩
  · cases h
    have hv : Dp K F v (.tuple _) := hv
    cases hv with
    | tup s a => exact ⟨_, _, rfl, vrs_of a, .inr (ex_t r.fh s)⟩
  · split at h
    · rename_i xs e
      cases h
      obtain ⟨a, vs, rfl, h1, h2, h3, h4⟩ := r.atL hv e
      exact ⟨a, vs, rfl, h4, .inl (sq_of h3)⟩
    · cases h
  · cases h
theorem cs_Tup : CallS P wd K mg (rTupL K) cbTup := by
  intro ρ S F H hr vs xs hv z S' e Q q
  unfold cbTup at e
  split at e
  · obtain ⟨ds, e1, e2⟩ := Option.map_eq_some_iff.mp e
    cases e2
    obtain ⟨v, rfl, hv1⟩ := vrs1 hv
    obtain ⟨a, us, rfl, hd, h⟩ := seqD_ok hr hv1 e1
    refine ⟨a, us, rfl, ?_⟩
    rcases h with h | ⟨h, hF, ex⟩
    · refine .inl ⟨h, fun p hp => ?_⟩
      obtain ⟨r2, g2⟩ := hr.newF (o := .tup us) hp
      exact q _ _ _ _ g2 r2 (.tup (st_of upd_same) (hd.up g2.fx))
    · exact .inr ⟨h, q ρ F H _ Gw.refl hr (.tup hF hd)⟩
  · cases e
theorem cs_LstF : CallS P wd K mg (rLstL K) cbLstF := by
  intro ρ S F H hr vs xs hv z S' e Q q
  unfold cbLstF at e
  split at e
  · obtain ⟨ds, e1, e2⟩ := Option.map_eq_some_iff.mp e
    cases e2
    obtain ⟨v, rfl, hv1⟩ := vrs1 hv
    obtain ⟨a, us, rfl, hd, h⟩ := seqD_ok hr hv1 e1
    refine ⟨a, us, rfl, h.imp id (·.1), fun p hp => ?_⟩
    obtain ⟨r2, g2⟩ := hr.newF (o := .lst us) hp
    exact q _ _ _ _ g2 r2 (.lst (sq_of upd_same) (hd.up g2.fx))
  · cases e
theorem cs_LstC : CallS P wd K mg (rLstL K) cbLstC := by
  intro ρ S F H hr vs xs hv z S' e Q q
  unfold cbLstC at e
  split at e
  · obtain ⟨ys, e1, e2⟩ := Option.map_eq_some_iff.mp e
    cases e2
    obtain ⟨v, rfl, hv1⟩ := vrs1 hv
    obtain ⟨a, us, rfl, hd, h⟩ := seqA_ok hr hv1 e1
    refine ⟨a, us, rfl, h, fun p hp => ?_⟩
    obtain ⟨r2, g2⟩ := hr.new (c := .lst ys) (o := .lst us) hp ⟨us, rfl, L2.Paired.mapP hd fun _ _ q => q.up ⟨_, rfl⟩ (Ex.refl _)⟩
    exact q _ _ _ _ g2 r2 ⟨p, by rw [← hr.len]; exact get_new, rfl⟩
  · cases e
/-! ### len(set(xs)), xs texts -/
def seqL (S : Sg) : Av → Option (List D)
  | .d (.list ds) => some ds
  | .o j => match S[j]? with
    | some (.lst xs) => allD xs
    | _ => none
  | _ => none
def aLenSet (a : AE) : AE := fun σ => bnd (a σ) fun x S => match seqL S x with
  | some ds => match strsOf ds with
    | some zs => if zs.length < 64 then some (.ok (.d (.int ((uniq zs).length : Nat))), S) else none
    | none => none
  | none => none
theorem seqL_ok (r : Rel P wd K mg ρ S F H) {v : V} {x : Av} {ds : List D} (hv : VR K ρ F v x) (h : seqL S x = some ds) : ∃ a vs, v = .ref a ∧ DpAll K F vs ds ∧ SqL K H a vs := by
  unfold seqL at h
  split at h
  · cases h
    have hv : Dp K F v (.list ds) := hv
    cases hv with
    | lst s a => exact ⟨_, _, rfl, a, ex_l r.fh s⟩
  · split at h
    · rename_i xs e
      obtain ⟨a, vs, rfl, h1, h2, h3, h4⟩ := r.atL hv e
      rw [allD_inv h] at h4
      exact ⟨a, vs, rfl, dps_of h4, sq_of h3⟩
    · cases h
  · cases h
theorem sm_lenSet {te : TE} {ae : AE} (ha : SimE P wd K mg W te ae) : SimE P wd K mg W (tCB (rLenK P wd) (tCons (tCB (rSetL K P wd) (tCons te tNil)) tNil)) (aLenSet ae) := by
  intro σ σa ρ S F H hr hs rr S' h Q qo qe
  refine ha.bind hr hs h qe fun x S1 ρ1 F1 H1 v hh g1 r1 v1 => ?_
  split at hh
  · rename_i ds ed
    split at hh
    · rename_i zs ez
      split at hh
      · rename_i hl
        cases hh
        obtain ⟨a, us, rfl, hd, h⟩ := seqL_ok r1 v1 ed
        rw [strsOf_inv ez] at hd
        have e := dps_strs_inv zs hd
        subst e
        refine ⟨a, zs.map (Sum.inr : Str → Key), rfl, by rw [kv_strs]; exact h, by rw [List.length_map]; exact hl, fun p hp => ?_⟩
        have hu : (uniq (zs.map (Sum.inr : Str → Key))).length = (uniq zs).length := by
          rw [uniq_map Sum.inr (fun a b h => Sum.inr.inj h), List.length_map]
        refine ⟨p, _, (uniq zs).length, rfl, by rw [upd_same, hu], by have := uniq_len zs; omega, ?_⟩
        have r2 := r1.beside (o := SetK P wd p (setIs (zs.map (Sum.inr : Str → Key))) (uniq (zs.map (Sum.inr : Str → Key))).length) (fun z => r1.al p z hp) (fresh_back r1.fh hp)
        refine qo _ rfl ρ1 F1 _ _ (g1.trans ⟨⟨[], (List.append_nil _).symm⟩, Ex.refl _, fun q hq hn => ⟨upd_ne (fun z : q = p => hq (by rw [z]; exact hp)), hn, rfl⟩, fun q o u h => by rw [upd_ne (fun z : q = p => by rw [z, hp] at h; cases h)]; exact h⟩) r2 (.int _)
      · cases hh
    · cases hh
  · cases hh
/-! ### dicts locked while they are walked -/
def keyD : Key → D
  | .inl i => .int i
  | .inr x => .str x
def aLockS (a : AE) (s : AS) : AS := fun σ S => match a σ S with
  | some (.ok (.o j), _) => match S[j]? with
    | some c => if isDk c = true then match s σ (S.set j (.lk c)) with
        | some (.ex _, _, _) => none
        | some (fl, σ', S') => match S'[j]? with
          | some (.lk _) => some (fl, σ', S'.set j c)
          | _ => none
        | none => none
      else none
    | none => none
  | _ => none
def aLockE (a : AE) (e : AE) : AE := fun σ S => match a σ S with
  | some (.ok (.o j), _) => match S[j]? with
    | some c => if isDk c = true then match e σ (S.set j (.lk c)) with
        | some (.ok x, S') => match S'[j]? with
          | some (.lk _) => some (.ok x, S'.set j c)
          | _ => none
        | _ => none
      else none
    | none => none
  | _ => none
/-- what a locked dict gives -/
def lkK : Cl → Option (List (Key × Av))
  | .lk (.dk kvs) => some kvs
  | _ => none
def aiKeys (a : AE) : Sl → M Itm := fun σ => bnd (a σ) fun x S => match x with
  | .o j => match S[j]? with
    | some c => (lkK c).map fun kvs => (.ok (itL (kvs.map fun p => .d (keyD p.1))), S)
    | none => none
  | _ => none
def aiVals (a : AE) : Sl → M Itm := fun σ => bnd (a σ) fun x S => match x with
  | .o j => match S[j]? with
    | some c => (lkK c).map fun kvs => (.ok (itL (kvs.map fun p => p.2)), S)
    | none => none
  | _ => none
def pairD : List (Key × Av) → Option (List Av)
  | [] => some []
  | (k, .d x) :: r => (pairD r).map (.d (.tuple [keyD k, x]) :: ·)
  | _ :: _ => none
def aiItems (a : AE) : Sl → M Itm := fun σ => bnd (a σ) fun x S => match x with
  | .o j => match S[j]? with
    | some c => match lkK c with
      | some kvs => (pairD kvs).map fun ys => (.ok (itL ys), S)
      | none => none
    | none => none
  | _ => none
theorem isDk_ho {a : Addr} {c : Cl} {o : HO} (h : CR P wd K mg ρ F a c o) (hd : isDk c = true) : Mut (some o) ∧ (∀ ob u, o ≠ .frz ob u) ∧ c ≠ .gone ∧ ∀ c', c ≠ .lk c' := by
  cases c with
  | dk kvs => obtain ⟨ks, rfl, _⟩ := h; exact ⟨trivial, fun _ _ z => (nomatch z), fun z => (nomatch z), fun _ z => nomatch z⟩
  | dt kvs => obtain ⟨ks, rfl, _⟩ := h; exact ⟨trivial, fun _ _ z => (nomatch z), fun z => (nomatch z), fun _ z => nomatch z⟩
  | _ => cases hd
/-- locked, then unlocked -/
theorem unlock {a : Addr} {j : Nat} {c c' : Cl} {o : HO} {od : Obj} {ρ' : List Addr} {F' H' : Hp} {S2 : Sg} (r : Rel P wd K mg ρ S F H) (h1 : ρ[j]? = some a) (hs : S[j]? = some c) (hd : isDk c = true) (ho : H a = some o) (hc : CR P wd K mg ρ F a c o)
    (g : Gw ρ F (upd H a (.frz od o)) ρ' F' H') (r' : Rel P wd K mg ρ' S2 F' H') (hs2 : S2[j]? = some (.lk c')) : H' a = some (.frz od o) ∧ Gw ρ F H ρ' F' (upd H' a o) ∧ Rel P wd K mg ρ' (S2.set j c) F' (upd H' a o) := by
  obtain ⟨mu, nf, ng, nl⟩ := isDk_ho hc hd
  have hf := g.fz a od o upd_same
  have h1' : ρ'[j]? = some a := by obtain ⟨t, e⟩ := g.pre; rw [e]; exact pre_get h1
  have ham : a ∈ ρ := List.mem_of_getElem? h1
  obtain ⟨fp, _, _, _⟩ := r'.cell j a _ h1' hs2 (fun z => nomatch z)
  refine ⟨hf, ⟨g.pre, g.fx, fun p hp hn => ?_, fun p o' u h => ?_⟩, ?_⟩
  · have ne : p ≠ a := fun z => hn (by rw [z]; exact ham)
    obtain ⟨e1, e2, e3⟩ := g.out p (by rw [upd_ne ne]; exact hp) hn
    exact ⟨by rw [upd_ne ne, e1, upd_ne ne], e2, e3⟩
  · have ne : p ≠ a := fun z => by rw [z, ho] at h; cases h; exact nf _ _ rfl
    rw [upd_ne ne]
    exact g.fz p o' u (by rw [upd_ne ne]; exact h)
  · refine ⟨by rw [List.length_set]; exact r'.len, r'.inj, fun b u h => ?_, fun b hb => ?_, fun i b c2 e1 e2 hg => ?_⟩
    · rw [upd_ne (ne_of_none h fp)]; exact r'.fh b u h
    · by_cases e : b = a
      · subst e; rw [upd_same]; exact fun z => nomatch z
      · rw [upd_ne e]; exact r'.al b hb
    · by_cases e : j = i
      · subst e
        rw [List.getElem?_set_self (List.getElem?_eq_some_iff.mp hs2).1] at e2
        cases e2
        rw [h1'] at e1
        cases e1
        exact ⟨fp, o, upd_same, hc.up g.pre g.fx⟩
      · rw [List.getElem?_set_ne e] at e2
        obtain ⟨f, o', ho', hco⟩ := r'.cell i b c2 e1 e2 hg
        have ne : b ≠ a := fun z => e (r'.inj j i a h1' (z ▸ e1))
        exact ⟨f, o', by rw [upd_ne ne]; exact ho', hco⟩
theorem lockR {a : Addr} {j : Nat} {c : Cl} {o : HO} {od : Obj} (r : Rel P wd K mg ρ S F H) (h1 : ρ[j]? = some a) (hs : S[j]? = some c) (hd : isDk c = true) (ho : H a = some o) (hc : CR P wd K mg ρ F a c o) : Rel P wd K mg ρ (S.set j (.lk c)) F (upd H a (.frz od o)) := by
  obtain ⟨mu, nf, ng, nl⟩ := isDk_ho hc hd
  exact (r.set (c := .lk c) (o := .frz od o) h1 hs ng ⟨od, o, rfl, hc⟩ nl).1
/-- a value that may be had without a step -/
def Seen (P : Program) (wd : World) (K : Fg) (mg : Str → Option Value) (ae : AE) : Prop := ∀ σ S x S', ae σ S = some (.ok x, S') → ∀ σ0 ρ F H, Rel P wd K mg ρ S F H → SR K ρ F σ0 σ → S' = S ∧ ∃ v, VR K ρ F v x
theorem se_var {i : Nat} : Seen P wd K mg (aVar i) := by
  intro σ S x S' h σ0 ρ F H hr hs
  unfold aVar at h
  split at h
  · rename_i y q
    cases h
    obtain ⟨v, _, hv⟩ := hs.2 _ _ q
    exact ⟨rfl, v, hv⟩
  · cases h
theorem se_fld {cs : List Str} {f : Str} {ae : AE} (ha : Seen P wd K mg ae) : Seen P wd K mg (aFld cs f ae) := by
  intro σ S x S' h0 σ0 ρ F H hr hs
  rcases bnd_inv h0 with ⟨y, S1, ea, h⟩ | ⟨e, e1, h⟩
  · clear h0
    obtain ⟨rfl, v, hv⟩ := ha _ _ _ _ ea σ0 ρ F H hr hs
    split at h
    · rename_i j
      split at h
      · rename_i c fs ec
        split at h
        · obtain ⟨y, e1, e2⟩ := Option.map_eq_some_iff.mp h
          cases e2
          obtain ⟨a, dx, gs, rfl, h1, h2, h3⟩ := hr.atI hv ec
          have := lookup_KR h3 f
          rw [e1] at this
          obtain ⟨u, eu, hu⟩ := this
          exact ⟨rfl, u, hu⟩
        · cases h
      · cases h
    · cases h
  · cases h
theorem se_ixs {k : D} {ae : AE} (ha : Seen P wd K mg ae) : Seen P wd K mg (aOp opIx ae (aD k)) := by
  intro σ S x S' h0 σ0 ρ F H hr hs
  rcases bnd_inv h0 with ⟨y, S1, ea, h⟩ | ⟨e, e1, h⟩
  · clear h0
    obtain ⟨rfl, v, hv⟩ := ha _ _ _ _ ea σ0 ρ F H hr hs
    rcases bnd_inv h with ⟨z, S2, e2, h⟩ | ⟨e, e2, h⟩
    · cases e2
      obtain ⟨z, hz, e3⟩ := lf_inv h
      cases e3
      unfold opIx at hz
      split at hz
      · rename_i a b e5
        obtain ⟨r, e1, e2⟩ := Option.map_eq_some_iff.mp hz
        cases e2
        have hi := fIx_ok _ _ _ e1
        cases hi with
        | list ds i d h =>
          have hv : Dp K F v (.list ds) := hv
          cases hv with
          | lst s a => obtain ⟨u, _, hu⟩ := dps_at a h; exact ⟨rfl, u, hu⟩
        | tup ds i d h =>
          have hv : Dp K F v (.tuple ds) := hv
          cases hv with
          | tup s a => obtain ⟨u, _, hu⟩ := dps_at a h; exact ⟨rfl, u, hu⟩
        | str z i c h h' => exact ⟨rfl, _, .str _⟩
      · rename_i j b
        split at hz
        · rename_i c hs'
          obtain ⟨r, e1, e2⟩ := Option.map_eq_some_iff.mp hz
          cases e2
          unfold getC at e1
          split at e1
          · rename_i xs ec
            split at e1
            · obtain ⟨a, ob, rfl, h1, h2, h3⟩ := hr.rd hv hs' (by rw [ec]; exact fun z => nomatch z)
              rw [ec] at h3
              obtain ⟨vs, rfl, h3⟩ := h3
              obtain ⟨y, ey, hy⟩ := vrs_at h3 e1
              exact ⟨rfl, y, hy⟩
            · cases e1
          · rename_i kvs ec
            obtain ⟨a, ob, rfl, h1, h2, h3⟩ := hr.rd hv hs' (by rw [ec]; exact fun z => nomatch z)
            rw [ec] at h3
            obtain ⟨ks, rfl, h3⟩ := h3
            obtain ⟨kk, e2, e3⟩ := Option.bind_eq_some_iff.mp e1
            have := h3.val kk
            rw [e3] at this
            obtain ⟨y, _, hy⟩ := this
            exact ⟨rfl, y, hy⟩
          · rename_i kvs ec
            obtain ⟨a, ob, rfl, h1, h2, h3⟩ := hr.rd hv hs' (by rw [ec]; exact fun z => nomatch z)
            rw [ec] at h3
            obtain ⟨ks, rfl, h3⟩ := h3
            obtain ⟨kk, e2, e3⟩ := Option.bind_eq_some_iff.mp e1
            have := TR.val h3 kk
            rw [e3] at this
            obtain ⟨y, _, hy⟩ := this
            exact ⟨rfl, y, hy⟩
          · cases e1
        · cases hz
      · cases hz
    · cases e2
  · cases h
theorem ss_lock {ts : TS} {as : AS} {te : TE} {ae : AE} (h : SimS P wd K mg W ts as) (hae : Seen P wd K mg ae) : SimS P wd K mg W (tLock ts) (aLockS ae as) := by
  intro σ σa ρ S F H hr hs fl σa' S' h0 D' q
  unfold aLockS at h0
  split at h0
  · rename_i j Sx e1
    split at h0
    · rename_i c e2
      split at h0
      · rename_i hd
        split at h0
        · cases h0
        · rename_i fl2 σ2 S2 nex e3
          split at h0
          · rename_i c' e4
            cases h0
            obtain ⟨_, v, hv⟩ := hae _ _ _ _ e1 σ ρ F H hr hs
            obtain ⟨a, o, rfl, h1, h2, h3, h4⟩ := hr.at hv e2 (by intro z; subst z; cases hd)
            obtain ⟨mu, nf, ng, nl⟩ := isDk_ho h4 hd
            refine ⟨a, o, h3, mu, fun od => ?_⟩
            have rl := lockR (od := od) hr h1 e2 hd h3 h4
            refine h σ σa ρ _ F _ rl hs _ _ _ e3 _ ?_
            cases fl with
            | nx => intro ρ' F' H' σ' g r s; obtain ⟨u1, u2, u3⟩ := unlock hr h1 e2 hd h3 h4 g r e4; exact ⟨u1, q _ _ _ _ u2 u3 s⟩
            | bk => intro ρ' F' H' σ' g r s; obtain ⟨u1, u2, u3⟩ := unlock hr h1 e2 hd h3 h4 g r e4; exact ⟨u1, q _ _ _ _ u2 u3 s⟩
            | ct => intro ρ' F' H' σ' g r s; obtain ⟨u1, u2, u3⟩ := unlock hr h1 e2 hd h3 h4 g r e4; exact ⟨u1, q _ _ _ _ u2 u3 s⟩
            | rt x => intro ρ' F' H' v g r s; obtain ⟨u1, u2, u3⟩ := unlock hr h1 e2 hd h3 h4 g r e4; exact ⟨u1, q _ _ _ _ u2 u3 s⟩
            | ex e => exact absurd rfl (nex e)
          · cases h0
        · cases h0
      · cases h0
    · cases h0
  · cases h0
theorem sm_lock {te : TE} {ae e : AE} (h : SimE P wd K mg W te e) (hae : Seen P wd K mg ae) : SimE P wd K mg W (tLockE te) (aLockE ae e) := by
  intro σ σa ρ S F H hr hs rr S' h0 Q qo qe
  unfold aLockE at h0
  split at h0
  · rename_i j Sx e1
    split at h0
    · rename_i c e2
      split at h0
      · rename_i hd
        split at h0
        · rename_i x S2 e3
          split at h0
          · rename_i c' e4
            cases h0
            obtain ⟨_, v, hv⟩ := hae _ _ _ _ e1 σ ρ F H hr hs
            obtain ⟨a, o, rfl, h1, h2, h3, h4⟩ := hr.at hv e2 (by intro z; subst z; cases hd)
            obtain ⟨mu, nf, ng, nl⟩ := isDk_ho h4 hd
            refine ⟨a, o, h3, mu, fun od => ?_⟩
            have rl := lockR (od := od) hr h1 e2 hd h3 h4
            refine h σ σa ρ _ F _ rl hs _ _ e3 _ (fun y hy ρ' F' H' u g r vu => ?_) fun e he => nomatch he
            cases hy
            obtain ⟨u1, u2, u3⟩ := unlock hr h1 e2 hd h3 h4 g r e4
            exact ⟨u1, qo _ rfl _ _ _ _ u2 u3 vu⟩
          · cases h0
        · cases h0
      · cases h0
    · cases h0
  · cases h0
theorem wk_A {d : Addr} {od : Obj} {ks : List (Key × V)} {ys : List Av} {J : It} (hd : H d = some (.frz od (.dK ks))) (hl : ks.length = ys.length) (hgo : ∀ i H, H d = some (.frz od (.dK ks)) → i < ks.length → J.go i H) (hst : ∀ i H, H d = some (.frz od (.dK ks)) → ks.length ≤ i → J.stop i H)
    (hy : ∀ i ρ1 S1 F1 H1, Gw ρ F H ρ1 F1 H1 → Rel P wd K mg ρ1 S1 F1 H1 → ∀ v H' x, ys[i]? = some x → J.yld i H1 v H' → ∃ ρ' F', Gw ρ1 F1 H1 ρ' F' H' ∧ Rel P wd K mg ρ' S1 F' H' ∧ VR K ρ' F' v x) : WkA P wd K mg ρ F H J (itL ys) := by
  intro ρ1 S1 F1 H1 g r i o e
  have hd1 := g.fz d od _ hd
  cases e
  cases q : ys[i]? with
  | none =>
    rw [List.getElem?_eq_none_iff] at q
    exact hst i H1 hd1 (by omega)
  | some x =>
    exact ⟨hgo i H1 hd1 (by rw [hl]; exact (List.getElem?_eq_some_iff.mp q).1), fun v H' y => hy i ρ1 S1 F1 H1 g r v H' x q y⟩
theorem lkK_ok (hr : Rel P wd K mg ρ S F H) {v : V} {j : Nat} {c : Cl} {kvs : List (Key × Av)} (hv : VR K ρ F v (.o j)) (hs : S[j]? = some c) (h : lkK c = some kvs) : ∃ a od ks, v = .ref a ∧ H a = some (.frz od (.dK ks)) ∧ KR K ρ F ks kvs := by
  unfold lkK at h
  split at h
  · cases h
    obtain ⟨a, o, e, h1, h2, h3, ob, u, rfl, ks, rfl, h5⟩ := hr.at hv hs (fun z => nomatch z)
    exact ⟨a, ob, ks, e, h3, h5⟩
  · cases h
theorem kr_get {ks : List (Key × V)} {kvs : List (Key × Av)} {i : Nat} (h : KR K ρ F ks kvs) {k : Key} {v : V} (e : ks[i]? = some (k, v)) : ∃ x, kvs[i]? = some (k, x) ∧ VR K ρ F v x := by
  induction h generalizing i with
  | nil => simp at e
  | @cons p q ps qs a b ih =>
    cases i with
    | zero =>
      simp at e; subst e
      obtain ⟨e1, e2⟩ := a
      obtain ⟨k', y⟩ := q
      cases e1
      exact ⟨y, by simp, e2⟩
    | succ i => simp at e; simpa using ih e
theorem key_dp (k : Key) : Dp K F (kV k) (keyD k) := by cases k with
  | inl i => exact .int i
  | inr x => exact .str x
theorem si_keys {td : TE} {ae : AE} (ha : SimE P wd K mg W td ae) : SimI P wd K mg W (iKeys td) (aiKeys ae) := by
  intro σ σa ρ S F H hr hs rr S' h R qo qe
  refine ha.bind hr hs h qe fun x S1 ρ1 F1 H1 v h g1 r1 v1 => ?_
  split at h
  · split at h
    · rename_i j c ec
      obtain ⟨kvs, e1, e2⟩ := Option.map_eq_some_iff.mp h
      cases e2
      obtain ⟨a, od, ks, rfl, h1, h2⟩ := lkK_ok r1 v1 ec e1
      refine ⟨a, od, rfl, .inl ⟨ks, h1, qo _ rfl ρ1 F1 H1 _ g1 r1 (wk_A h1 (by rw [List.length_map]; exact Paired.length h2) (fun i H e hi => ⟨e, hi⟩) (fun i H e hi => ⟨e, hi⟩) fun i ρ2 S2 F2 H2 g r v H' x ex y => ?_)⟩⟩
      obtain ⟨rfl, k, v, e3, rfl⟩ := y
      obtain ⟨z, e4, hz⟩ := kr_get h2 e3
      rw [List.getElem?_map, e4] at ex
      cases ex
      exact ⟨ρ2, F2, Gw.refl, r, key_dp k⟩
    · cases h
  · cases h
theorem si_vals {td : TE} {ae : AE} (ha : SimE P wd K mg W td ae) : SimI P wd K mg W (iVals td) (aiVals ae) := by
  intro σ σa ρ S F H hr hs rr S' h R qo qe
  refine ha.bind hr hs h qe fun x S1 ρ1 F1 H1 v h g1 r1 v1 => ?_
  split at h
  · split at h
    · rename_i j c ec
      obtain ⟨kvs, e1, e2⟩ := Option.map_eq_some_iff.mp h
      cases e2
      obtain ⟨a, od, ks, rfl, h1, h2⟩ := lkK_ok r1 v1 ec e1
      refine ⟨a, od, ks, rfl, h1, qo _ rfl ρ1 F1 H1 _ g1 r1 (wk_A h1 (by rw [List.length_map]; exact Paired.length h2) (fun i H e hi => ⟨e, hi⟩) (fun i H e hi => ⟨e, hi⟩) fun i ρ2 S2 F2 H2 g r v H' x ex y => ?_)⟩
      obtain ⟨rfl, k, e3⟩ := y
      obtain ⟨z, e4, hz⟩ := kr_get h2 e3
      rw [List.getElem?_map, e4] at ex
      cases ex
      exact ⟨ρ2, F2, Gw.refl, r, hz.gw g⟩
    · cases h
  · cases h
theorem pairD_get : ∀ {kvs : List (Key × Av)} {ys : List Av} {i : Nat} {k : Key} {x : Av}, pairD kvs = some ys → kvs[i]? = some (k, x) → ∃ d, x = .d d ∧ ys[i]? = some (.d (.tuple [keyD k, d]))
  | [], _, i, k, x, h, e => by simp at e
  | (k0, x0) :: r, ys, i, k, x, h, e => by
    cases x0 with
    | o j => cases h
    | d d0 =>
      obtain ⟨zs, e1, rfl⟩ := Option.map_eq_some_iff.mp (show (pairD r).map (.d (.tuple [keyD k0, d0]) :: ·) = some ys from h)
      cases i with
      | zero => simp at e; obtain ⟨rfl, rfl⟩ := e; exact ⟨d0, rfl, by simp⟩
      | succ i => simp at e; obtain ⟨d, h1, h2⟩ := pairD_get e1 e; exact ⟨d, h1, by simpa using h2⟩
theorem pairD_len : ∀ {kvs : List (Key × Av)} {ys : List Av}, pairD kvs = some ys → kvs.length = ys.length
  | [], _, h => by cases h; rfl
  | (k0, x0) :: r, ys, h => by
    cases x0 with
    | o j => cases h
    | d d0 =>
      obtain ⟨zs, e1, rfl⟩ := Option.map_eq_some_iff.mp (show (pairD r).map (.d (.tuple [keyD k0, d0]) :: ·) = some ys from h)
      simp [pairD_len e1]
theorem si_items {td : TE} {ae : AE} (ha : SimE P wd K mg W td ae) : SimI P wd K mg W (iItems td) (aiItems ae) := by
  intro σ σa ρ S F H hr hs rr S' h R qo qe
  refine ha.bind hr hs h qe fun x S1 ρ1 F1 H1 v h g1 r1 v1 => ?_
  split at h
  · split at h
    · rename_i j c ec
      split at h
      · rename_i kvs e1
        obtain ⟨ys, e5, e2⟩ := Option.map_eq_some_iff.mp h
        cases e2
        obtain ⟨a, od, ks, rfl, h1, h2⟩ := lkK_ok r1 v1 ec e1
        refine ⟨a, od, ks, rfl, h1, qo _ rfl ρ1 F1 H1 _ g1 r1 (wk_A h1 (by rw [← pairD_len e5]; exact Paired.length h2) (fun i H e hi => ⟨e, hi⟩) (fun i H e hi => ⟨e, hi⟩) fun i ρ2 S2 F2 H2 g r v H' x ex y => ?_)⟩
        obtain ⟨T, k, u, e3, rfl, hT, rfl⟩ := y
        obtain ⟨z, e4, hz⟩ := kr_get h2 e3
        obtain ⟨d, rfl, e6⟩ := pairD_get e5 e4
        rw [e6] at ex
        cases ex
        obtain ⟨r3, g3⟩ := r.newF (o := .tup [kV k, u]) hT
        exact ⟨ρ2, _, g3, r3, .tup (st_of upd_same) (.cons (key_dp k) (.cons ((hz.gw g).gw g3) .nil))⟩
      · cases h
    · cases h
  · cases h
end
end Ly
/-! LyX: ends, small rules for the printed texts, equations of mirrors. -/
namespace Ly
open PySem L2 Evl PyProof.Rows
abbrev veB : List Value := [.type "ValueError", .type "Exception", .type "BaseException", .type "object"]
section
variable {P : Program} {w wd : World} {K : Fg} {mg : Str → Option Value} {base : Heap} {k : Nat} {x : Str} {st : Stmt} {N ps : List Str} {W : WX} {ρ : List Addr} {S S' : Sg} {F H : Hp} {σ : L2.St} {σa σa' : Sl}
theorem DkA.fin {A : AF} {a : Str} {fa : Addr} (D0 : Df K mg x st [a]) (hfa : mg x = some (.ref fa)) (h : ∀ base, K.In base → base.Ns mainGlobals mg → DkA P w K mg base k x [a] A)
    (hA : ∀ ns : List Int, ns.length ≤ 63 → ∃ S', A [.d (.list (ns.map PyData.int))] [] = some (.ok (.d (.bool true)), S')) :
    ∃ fd : FuncData, (∀ (s : Shared) (u : Value), BindsTo s fd ⟨[u], []⟩ [(a, u)]) ∧ ∀ base : Heap, K.In base → base.Ns mainGlobals mg → FnOk P w K mg base (L2.CX P w) k fa fd [a] (spR K RLaw) := by
  obtain ⟨f, fd, F, hm, b⟩ := D0.ex
  have e := hfa.symm.trans hm
  cases e
  refine ⟨fd, fun s u => .of_eq (b [u] rfl), fun base h1 h2 => ?_⟩
  obtain ⟨f', fd', hm', ok, _, _, o', l', d'⟩ := (h base h1 h2).ex
  have e := hm.symm.trans hm'
  cases e
  obtain ⟨o, l, d⟩ := fun_at F
  have e := l.symm.trans l'
  cases e
  have e := d.symm.trans d'
  cases e
  refine ok.imp fun vs H Q E ⟨F0, ds, r, fh, ha, ⟨ns, hl, e1, e2⟩, q⟩ => ?_
  subst e1 e2
  obtain ⟨S', hS⟩ := hA ns hl
  refine ⟨[], [], F0, [.d (.list (ns.map PyData.int))], _, S', Rel.none fh, vrs_of (ds := [.list (ns.map PyData.int)]) ha, hS, fun y hy ρ' F' H' v g r v' => ?_, fun e he => nomatch he⟩
  cases hy
  have v' : Dp K F' v (.bool true) := v'
  cases v'
  have r0 : Rel P w K mg [] [] F0 H := Rel.none fh
  refine q (.bl true) F0 H' ⟨Ex.refl F0, fun p o h => ?_, fun p o h => ?_, fun _ _ => rfl⟩ (.bl true)
  · rw [(g.out p (by rw [h]; exact fun z => nomatch z) (by simp)).1]; exact h
  · have h2 := fh p o h
    rw [(g.out p (by rw [h2]; exact fun z => nomatch z) (by simp)).1]; exact h2
theorem cx_false {H : Hp} {s : Shared} {e : Value} {s' : Shared} (h : L2.CX P w [] H s (fun _ _ _ => False) e s') : False := by
  obtain ⟨a, B, H', cls, d, _, _, _, _, _, _, _, q⟩ := h
  exact q
theorem DfM.of {c m q : Str} {C : Addr} (r : clsA mg c = C) (h : ∃ f fd, Fun K m q st f fd ∧ Meth K C m f ∧ Cls K C ∧ ∀ us : List Value, us.length = ps.length → bindArgs fd ⟨us, []⟩ = pure (ps.zip us)) : DfM K mg c m q st ps := by
  subst r; exact ⟨h⟩
theorem mem_nil {α : Type} {p : α → Prop} : ∀ x ∈ ([] : List α), p x := fun x h => nomatch h
theorem mem_cons {α : Type} {p : α → Prop} {a : α} {l : List α} (h : p a) (t : ∀ x ∈ l, p x) : ∀ x ∈ a :: l, p x := fun x hx => by
  rcases List.mem_cons.mp hx with e | hx
  · subst e; exact h
  · exact t x hx
/-! targets in comprehensions -/
theorem gw1 (j : Nat) : ∀ (σ : L2.St) (x : V), wipe ((wipe σ [j]).set j (some x)) [j] = wipe σ [j] := fun σ x => by simp [wipe, List.set_set]
theorem gw_tup2 {i j : Nat} (hij : i ≠ j) : ∀ (x : V) (σ : L2.St) (H : Hp) (Q : L2.St → Hp → Prop), gTup K 2 (gCons (gName i) (gCons (gName j) gNil)) x (wipe σ [i, j]) H Q → gTup K 2 (gCons (gName i) (gCons (gName j) gNil)) x (wipe σ [i, j]) H fun σ2 H2 => wipe σ2 [i, j] = wipe σ [i, j] ∧ Q σ2 H2 := by
  rintro x σ H Q ⟨a, xs, e, hs, hl, v1, r1, e1, v2, r2, e2, e3, q⟩
  refine ⟨a, xs, e, hs, hl, v1, r1, e1, v2, r2, e2, e3, ?_, q⟩
  simp only [wipe]
  apply List.ext_getElem?
  intro n
  simp only [List.getElem?_set, List.length_set]
  grind
/-! x op= e -/
def ipI2 (f : Int → Int → Int) : Av → Av → Op0 := fun x y S => match x, y with
  | .d (.int i), .d (.int j) => some (.d (.int (f i j)), S)
  | _, _ => none
abbrev ipo_add := ipI2 fun i j => i + j
abbrev ipo_sub := ipI2 fun i j => i - j
theorem is_I (f : Int → Int → Int) : IpS P wd K mg (ipI f) (ipI2 f) := by
  intro ρ S F H hr v u x y hv hu z S' e Q q
  unfold ipI2 at e
  split at e
  · rename_i i j
    cases e
    have hv : Dp K F v (.int i) := hv
    have hu : Dp K F u (.int j) := hu
    cases hv
    cases hu
    exact ⟨i, j, rfl, rfl, q ρ F H _ Gw.refl hr (.int _)⟩
  · cases e
theorem is_add : IpS P wd K mg (ipI fun i j => i + j) ipo_add := is_I _
theorem is_sub : IpS P wd K mg (ipI fun i j => i - j) ipo_sub := is_I _
/-! methods of texts -/
theorem fIndexS_sc : ∀ a ds r, fIndexS a ds = some r → isSc r = true := by
  intro a ds r h
  unfold fIndexS at h
  split at h
  · split at h
    · cases h; rfl
    · cases h
  · cases h
theorem fJoin_sc : ∀ a ds r, fJoin a ds = some r → isSc r = true := by
  intro a ds r h
  unfold fJoin at h
  split at h
  · split at h
    · split at h
      · cases h; rfl
      · cases h
    · cases h
  · cases h
end
end Ly
/-! LyY: reasoning about mirrors: loops, comprehensions, pure calls. -/
namespace Ly
open PySem L2 Evl PyProof.Rows
/-- a for over a list that stays -/
def forL (g : Av → AS) (b : AS) : List Av → AS
  | [], σ, S => some (.nx, σ, S)
  | x :: xs, σ, S => match g x σ S with
    | some (.nx, σ1, S1) => match b σ1 S1 with
      | some (.nx, σ2, S2) => forL g b xs σ2 S2
      | some (.ct, σ2, S2) => forL g b xs σ2 S2
      | some (.bk, σ2, S2) => some (.nx, σ2, S2)
      | r => r
    | _ => none
theorem fgo_itL (g : Av → AS) (b : AS) (xs : List Av) : ∀ (n i : Nat) (σ : Sl) (S : Sg), i ≤ xs.length → xs.length < i + n → fgo (itL xs) g b n i σ S = forL g b (xs.drop i) σ S
  | 0, i, σ, S, h0, h => by omega
  | n + 1, i, σ, S, h0, h => by
    unfold fgo
    by_cases hl : i < xs.length
    · have hd : xs.drop i = xs[i] :: xs.drop (i + 1) := List.drop_eq_getElem_cons hl
      have hx : itL xs i S = some (some xs[i]) := by unfold itL; rw [List.getElem?_eq_getElem hl]
      rw [hd, hx]
      show (match g xs[i] σ S with
        | some (.nx, σ1, S1) => match b σ1 S1 with
          | some (.nx, σ2, S2) => fgo (itL xs) g b n (i + 1) σ2 S2
          | some (.ct, σ2, S2) => fgo (itL xs) g b n (i + 1) σ2 S2
          | some (.bk, σ2, S2) => some (.nx, σ2, S2)
          | r => r
        | _ => none) = forL g b (xs[i] :: xs.drop (i + 1)) σ S
      rw [forL]
      have ih := fun σ S => fgo_itL g b xs n (i + 1) σ S hl (by omega)
      simp only [ih]
    · have e : xs.drop i = [] := List.drop_eq_nil_of_le (by omega)
      have hx : itL xs i S = some none := by unfold itL; rw [List.getElem?_eq_none (by omega)]
      rw [e, hx]
      rfl

theorem aFor_list {ai : Sl → M Itm} {g : Av → AS} {b : AS} {xs : List Av} {σ : Sl} {S S1 : Sg} (hi : ai σ S = some (.ok (itL xs), S1)) (hl : xs.length < 1000000) : aFor ai g b σ S = forL g b xs σ S1 := by
  unfold aFor stb
  rw [hi]
  exact fgo_itL g b xs fu 0 σ S1 (Nat.zero_le _) (by show xs.length < 0 + 1000000; omega)
/-- a walk by its invariant -/
theorem forL_wp {g : Av → AS} {b : AS} {Q : Fl → Sl → Sg → Prop} (I : Nat → Sl → Sg → Prop) (xs : List Av)
    (step : ∀ i x σ S, xs[i]? = some x → I i σ S → ∃ σ1 S1, g x σ S = some (.nx, σ1, S1) ∧ ∃ fl σ' S', b σ1 S1 = some (fl, σ', S') ∧ (match fl with | .nx => I (i + 1) σ' S' | .ct => I (i + 1) σ' S' | .bk => Q .nx σ' S' | .rt x => Q (.rt x) σ' S' | .ex e => Q (.ex e) σ' S'))
    (hend : ∀ σ S, I xs.length σ S → Q .nx σ S) : ∀ (n : Nat) (σ : Sl) (S : Sg), n ≤ xs.length → I (xs.length - n) σ S → ∃ fl σ' S', forL g b (xs.drop (xs.length - n)) σ S = some (fl, σ', S') ∧ Q fl σ' S'
  | 0, σ, S, h, hI => by
    rw [Nat.sub_zero, List.drop_length]
    rw [Nat.sub_zero] at hI
    exact ⟨_, _, _, rfl, hend _ _ hI⟩
  | n + 1, σ, S, h, hI => by
    have hl : xs.length - (n + 1) < xs.length := by omega
    have hd : xs.drop (xs.length - (n + 1)) = xs[xs.length - (n + 1)] :: xs.drop (xs.length - n) := by
      rw [List.drop_eq_getElem_cons hl]
      have : xs.length - (n + 1) + 1 = xs.length - n := by omega
      rw [this]
    have hi : xs.length - (n + 1) + 1 = xs.length - n := by omega
    obtain ⟨σ1, S1, e1, fl, σ2, S2, e2, q⟩ := step _ _ σ S (List.getElem?_eq_getElem hl) hI
    rw [hi] at q
    rw [hd]
    unfold forL
    rw [e1]
    dsimp only
    rw [e2]
    cases fl with
    | nx => exact forL_wp I xs step hend n σ2 S2 (by omega) q
    | ct => exact forL_wp I xs step hend n σ2 S2 (by omega) q
    | bk => exact ⟨_, _, _, rfl, q⟩
    | rt x => exact ⟨_, _, _, rfl, q⟩
    | ex e => exact ⟨_, _, _, rfl, q⟩
theorem for_wp {ai : Sl → M Itm} {g : Av → AS} {b : AS} {xs : List Av} {σ : Sl} {S S1 : Sg} {Q : Fl → Sl → Sg → Prop} (I : Nat → Sl → Sg → Prop) (hi : ai σ S = some (.ok (itL xs), S1)) (hl : xs.length < 1000000) (h0 : I 0 σ S1)
    (step : ∀ i x σ S, xs[i]? = some x → I i σ S → ∃ σ1 S1, g x σ S = some (.nx, σ1, S1) ∧ ∃ fl σ' S', b σ1 S1 = some (fl, σ', S') ∧ (match fl with | .nx => I (i + 1) σ' S' | .ct => I (i + 1) σ' S' | .bk => Q .nx σ' S' | .rt x => Q (.rt x) σ' S' | .ex e => Q (.ex e) σ' S'))
    (hend : ∀ σ S, I xs.length σ S → Q .nx σ S) : ∃ fl σ' S', aFor ai g b σ S = some (fl, σ', S') ∧ Q fl σ' S' := by
  rw [aFor_list hi hl]
  have := forL_wp I xs step hend xs.length σ S1 (Nat.le_refl _) (by rw [Nat.sub_self]; exact h0)
  rwa [Nat.sub_self, List.drop_zero] at this
/-- a while by its measure -/
theorem wgo_wp {t : AT} {b : AS} {Q : Fl → Sl → Sg → Prop} (I : Nat → Sl → Sg → Prop)
    (step : ∀ m σ S, I m σ S → ∃ c S1, t σ S = some (.ok c, S1) ∧ (c = false → Q .nx σ S1) ∧ (c = true → ∃ fl σ' S', b σ S1 = some (fl, σ', S') ∧ (match fl with | .nx => ∃ m', m' < m ∧ I m' σ' S' | .ct => ∃ m', m' < m ∧ I m' σ' S' | .bk => Q .nx σ' S' | .rt x => Q (.rt x) σ' S' | .ex e => Q (.ex e) σ' S'))) :
    ∀ (n m : Nat) (σ : Sl) (S : Sg), m < n → I m σ S → ∃ fl σ' S', wgo t b n σ S = some (fl, σ', S') ∧ Q fl σ' S'
  | 0, m, σ, S, h, _ => by omega
  | n + 1, m, σ, S, h, hI => by
    obtain ⟨c, S1, e1, hf, ht⟩ := step m σ S hI
    unfold wgo stb
    rw [e1]
    cases c with
    | false => exact ⟨_, _, _, rfl, hf rfl⟩
    | true =>
      obtain ⟨fl, σ2, S2, e2, q⟩ := ht rfl
      dsimp only
      rw [if_pos rfl, e2]
      cases fl with
      | nx => obtain ⟨m', hm, hI'⟩ := q; exact wgo_wp I step n m' σ2 S2 (by omega) hI'
      | ct => obtain ⟨m', hm, hI'⟩ := q; exact wgo_wp I step n m' σ2 S2 (by omega) hI'
      | bk => exact ⟨_, _, _, rfl, q⟩
      | rt x => exact ⟨_, _, _, rfl, q⟩
      | ex e => exact ⟨_, _, _, rfl, q⟩
theorem while_wp {t : AT} {b : AS} {σ : Sl} {S : Sg} {Q : Fl → Sl → Sg → Prop} (I : Nat → Sl → Sg → Prop) (m : Nat) (hm : m < 1000000) (h0 : I m σ S)
    (step : ∀ m σ S, I m σ S → ∃ c S1, t σ S = some (.ok c, S1) ∧ (c = false → Q .nx σ S1) ∧ (c = true → ∃ fl σ' S', b σ S1 = some (fl, σ', S') ∧ (match fl with | .nx => ∃ m', m' < m ∧ I m' σ' S' | .ct => ∃ m', m' < m ∧ I m' σ' S' | .bk => Q .nx σ' S' | .rt x => Q (.rt x) σ' S' | .ex e => Q (.ex e) σ' S'))) :
    ∃ fl σ' S', aWhile t b σ S = some (fl, σ', S') ∧ Q fl σ' S' := wgo_wp I step fu m σ S hm h0
/-! ranges are lists -/
theorem itR_eq (lo : Int) (n : Nat) : itR lo n = itL ((rangeD lo n).map .d) := by
  funext i S
  unfold itR itL rangeD
  rw [List.map_map, List.getElem?_map]
  by_cases h : i < n
  · rw [if_pos h, List.getElem?_range h]; rfl
  · rw [if_neg h, List.getElem?_eq_none (by rw [List.length_range]; omega)]; rfl
theorem signs_eq (z : Str) : (z.cps.toList.map fun c => Av.d (signD c)) = (z.cps.toList.map signD).map .d := by rw [List.map_map]; rfl
/-! comprehensions -/
theorem lgo_pure (g : Av → AS) (tt : AT) (e : AE) (σ : Sl) (S : Sg) (xs : List Av) (f : Av → Bool) (h : Av → Av) (hb : ∀ x ∈ xs, ∃ σ1, g x σ S = some (.nx, σ1, S) ∧ tt σ1 S = some (.ok (f x), S) ∧ (f x = true → e σ1 S = some (.ok (h x), S))) :
    ∀ (n i : Nat) (acc : List Av), i ≤ xs.length → xs.length < i + n → acc.length + (xs.length - i) ≤ 100000 → lgo (itL xs) g tt e σ n i acc S = some (acc ++ ((xs.drop i).filter f).map h, S)
  | 0, i, acc, h0, h1, _ => by omega
  | n + 1, i, acc, h0, h1, h2 => by
    unfold lgo
    by_cases hl : i < xs.length
    · have hd : xs.drop i = xs[i] :: xs.drop (i + 1) := List.drop_eq_getElem_cons hl
      have hx : itL xs i S = some (some xs[i]) := by unfold itL; rw [List.getElem?_eq_getElem hl]
      obtain ⟨σ1, e1, e2, e3⟩ := hb xs[i] (List.getElem_mem hl)
      rw [hd, hx]
      dsimp only
      rw [e1]
      dsimp only
      rw [e2]
      cases hf : f xs[i] with
      | true =>
        dsimp only
        rw [e3 hf]
        dsimp only
        rw [if_pos (by omega), lgo_pure g tt e σ S xs f h hb n (i + 1) _ hl (by omega) (by rw [List.length_append, List.length_singleton]; omega), List.filter_cons, hf, if_pos rfl, List.map_cons, List.append_assoc]
        rfl
      | false =>
        dsimp only
        rw [lgo_pure g tt e σ S xs f h hb n (i + 1) _ hl (by omega) (by omega), List.filter_cons, hf]
        rfl
    · have e : xs.drop i = [] := List.drop_eq_nil_of_le (by omega)
      have hx : itL xs i S = some none := by unfold itL; rw [List.getElem?_eq_none (by omega)]
      rw [e, hx]
      simp
theorem filter_map_d (f : Av → Bool) (h : D → D) (ds : List D) (hh : Av → Av) (e : ∀ d ∈ ds, hh (.d d) = .d (h d)) : ((ds.map Av.d).filter f).map hh = ((ds.filter fun d => f (.d d)).map h).map .d := by
  induction ds with
  | nil => rfl
  | cons d ds ih =>
    have ih := ih fun d hd => e d (List.mem_cons_of_mem _ hd)
    rw [List.map_cons, List.filter_cons, List.filter_cons]
    cases f (.d d) with
    | true => rw [if_pos rfl, if_pos rfl, List.map_cons, List.map_cons, List.map_cons, ih, e d (List.mem_cons_self ..)]
    | false => exact ih
/-- a comprehension over data that stay, elements plain -/
theorem aLc_map {ai : Sl → M Itm} {g : Av → AS} {tt : AT} {e : AE} {vs : List Nat} {σ : Sl} {S : Sg} {ds : List D} (f : D → Bool) (h : D → D) (hi : ai σ S = some (.ok (itL (ds.map .d)), S)) (hl : ds.length ≤ 100000)
    (hb : ∀ d ∈ ds, ∃ σ1, g (.d d) (wipeA σ vs) S = some (.nx, σ1, S) ∧ tt σ1 S = some (.ok (f d), S) ∧ (f d = true → e σ1 S = some (.ok (.d (h d)), S))) :
    aLc lcF ai g tt e vs σ S = some (.ok (.d (.list ((ds.filter f).map h))), S) := by
  have hq : lgo (itL (ds.map .d)) g tt e (wipeA σ vs) fu 0 [] S = some ((((ds.filter f).map h).map .d), S) := by
    have := lgo_pure g tt e (wipeA σ vs) S (ds.map .d) (fun x => match x with | .d d => f d | _ => false) (fun x => match x with | .d d => .d (h d) | x => x) (fun x hx => by
      obtain ⟨d, hd, rfl⟩ := List.mem_map.mp hx
      obtain ⟨σ1, e1, e2, e3⟩ := hb d hd
      exact ⟨σ1, e1, e2, e3⟩) fu 0 [] (Nat.zero_le _) (by rw [List.length_map]; show ds.length < 0 + 1000000; omega) (by rw [List.length_map]; show 0 + (ds.length - 0) ≤ 100000; omega)
    rw [this, List.drop_zero, List.nil_append, filter_map_d _ h _ _ (fun d _ => rfl)]
  unfold aLc bnd lf
  rw [hi]
  dsimp only
  rw [hq]
  dsimp only
  unfold lcF
  rw [allD_map]
  rfl
theorem aLc_map1 {ai : Sl → M Itm} {g : Av → AS} {e : AE} {vs : List Nat} {σ : Sl} {S : Sg} {ds : List D} (h : D → D) (hi : ai σ S = some (.ok (itL (ds.map .d)), S)) (hl : ds.length ≤ 100000)
    (hb : ∀ d ∈ ds, ∃ σ1, g (.d d) (wipeA σ vs) S = some (.nx, σ1, S) ∧ e σ1 S = some (.ok (.d (h d)), S)) :
    aLc lcF ai g aYes e vs σ S = some (.ok (.d (.list (ds.map h))), S) := by
  have := aLc_map (tt := aYes) (fun _ => true) h hi hl (fun d hd => by
    obtain ⟨σ1, e1, e2⟩ := hb d hd
    exact ⟨σ1, e1, rfl, fun _ => e2⟩)
  rwa [filter_all] at this
/-! pure calls -/
theorem aCallP_ok {f : AF} {t : AA} {σ : Sl} {S S1 : Sg} {ds : List D} {r : D} (h1 : t σ S = some (.ok (ds.map .d), S1)) (h2 : pf f ds = some (.ok r)) : aCallP f t σ S = some (.ok (.d r), S1) := by
  unfold aCallP bnd
  rw [h1]
  dsimp only
  rw [allD_map]
  dsimp only
  rw [h2]
theorem pf_def {np n : Nat} {b : AS} {ds : List D} (h : ds.length = np) : pf (aDef np n b) ds = match b ((ds.map Av.d).map some ++ List.replicate (n - np) none) [] with
    | some (.rt (.d x), _, _) => some (.ok x)
    | some (.nx, _, _) => some (.ok .none)
    | some (.ex e, _, _) => some (.ex e)
    | _ => none := by
  unfold pf aDef
  rw [if_pos (by rw [List.length_map]; exact h)]
  cases b ((ds.map Av.d).map some ++ List.replicate (n - np) none) [] with
  | none => rfl
  | some p =>
    obtain ⟨fl, σ, S⟩ := p
    cases fl with
    | rt x => cases x <;> rfl
    | _ => rfl
/-- a pure def by a statement about its body -/
theorem pf_wp {np n : Nat} {b : AS} {ds : List D} {r : D} (h : ds.length = np) (hb : ∃ fl σ' S', b ((ds.map Av.d).map some ++ List.replicate (n - np) none) [] = some (fl, σ', S') ∧ (match fl with | .rt x => x = .d r | .nx => r = .none | _ => False)) : pf (aDef np n b) ds = some (.ok r) := by
  rw [pf_def h]
  obtain ⟨fl, σ', S', e, q⟩ := hb
  rw [e]
  cases fl with
  | rt x => cases q; rfl
  | nx => cases q; rfl
  | _ => exact q.elim
end Ly
/-! LyZ: mirrors run step by step. -/
namespace Ly
open PySem L2 Evl PyProof.Rows
section
variable {σ : Sl} {S S1 S2 S3 : Sg} {a b c : AE} {t : AA} {u v : AT} {x y z : Av} {xs : List Av} {f g : Av → Av → Op0} {d e r : D} {p q : Bool} {i j : Nat}
/-! values -/
theorem e_var (h : σ[i]? = some (some x)) : aVar i σ S = some (.ok x, S) := by unfold aVar; rw [h]
theorem e_D : aD d σ S = some (.ok (.d d), S) := rfl
theorem e_op (ha : a σ S = some (.ok x, S1)) (hb : b σ S1 = some (.ok y, S2)) (hf : f x y S2 = some (z, S3)) : aOp f a b σ S = some (.ok z, S3) := by
  unfold aOp; rw [bnd_ok ha, bnd_ok hb]; unfold lf; rw [hf]
theorem e_un {f : Av → Op0} (ha : a σ S = some (.ok x, S1)) (hf : f x S1 = some (z, S2)) : aUn f a σ S = some (.ok z, S2) := by
  unfold aUn; rw [bnd_ok ha]; unfold lf; rw [hf]
theorem es_nil : aNil σ S = some (.ok [], S) := rfl
theorem es_cons (ha : a σ S = some (.ok x, S1)) (ht : t σ S1 = some (.ok xs, S2)) : aCons a t σ S = some (.ok (x :: xs), S2) := by
  unfold aCons; rw [bnd_ok ha, bnd_ok ht]; rfl
theorem e_cb {f : List Av → Op0} (ht : t σ S = some (.ok xs, S1)) (hf : f xs S1 = some (z, S2)) : aCB f t σ S = some (.ok z, S2) := by
  unfold aCB; rw [bnd_ok ht]; unfold lf; rw [hf]
theorem e_bmL {f : Av → List Av → Op0} (ha : a σ S = some (.ok x, S1)) (hl : isL S1 x = true) (ht : t σ S1 = some (.ok xs, S2)) (hf : f x xs S2 = some (z, S3)) : aBML f a t σ S = some (.ok z, S3) := by
  unfold aBML; rw [bnd_ok ha]; (try dsimp only); rw [if_pos hl, bnd_ok ht]; unfold lf; rw [hf]
theorem e_bmS {f : Av → List Av → Op0} (ha : a σ S = some (.ok x, S1)) (hl : isS x = true) (ht : t σ S1 = some (.ok xs, S2)) (hf : f x xs S2 = some (z, S3)) : aBMS f a t σ S = some (.ok z, S3) := by
  unfold aBMS; rw [bnd_ok ha]; (try dsimp only); rw [if_pos hl, bnd_ok ht]; unfold lf; rw [hf]
theorem e_bmX {f : Av → List Av → Op0} (ha : a σ S = some (.ok x, S1)) (hl : isX S1 x = true) (ht : t σ S1 = some (.ok xs, S2)) (hf : f x xs S2 = some (z, S3)) : aBMX f a t σ S = some (.ok z, S3) := by
  unfold aBMX; rw [bnd_ok ha]; (try dsimp only); rw [if_pos hl, bnd_ok ht]; unfold lf; rw [hf]
theorem e_tup {ds : List D} (ht : t σ S = some (.ok xs, S1)) (h : allD xs = some ds) (hl : xs.length ≤ 100000) : aTup t σ S = some (.ok (.d (.tuple ds)), S1) := by
  unfold aTup; rw [bnd_ok ht]; unfold lf mkTup; rw [if_pos hl, h]; rfl
theorem e_lstF {ds : List D} (ht : t σ S = some (.ok xs, S1)) (h : allD xs = some ds) (hl : xs.length ≤ 100000) : aLstF t σ S = some (.ok (.d (.list ds)), S1) := by
  unfold aLstF; rw [bnd_ok ht]; unfold lf mkLstF; rw [if_pos hl, h]; rfl
theorem e_lstC (ht : t σ S = some (.ok xs, S1)) (hl : xs.length ≤ 100000) : aLstC t σ S = some (.ok (.o S1.length), S1 ++ [.lst xs]) := by
  unfold aLstC; rw [bnd_ok ht]; unfold lf mkLstC; rw [if_pos hl]
theorem e_callP {f : AF} {ds : List D} (ht : t σ S = some (.ok xs, S1)) (h : allD xs = some ds) (hp : pf f ds = some (.ok r)) : aCallP f t σ S = some (.ok (.d r), S1) := by
  rw [allD_inv h] at ht
  exact aCallP_ok ht hp
theorem e_callN {f : AF} {ds : List D} (ht : t σ S = some (.ok xs, S1)) (h : dvs S1 xs = some ds) (hp : pf f ds = some (.ok r)) (hs : isSc r = true) : aCallN f t σ S = some (.ok (.d r), S1) := by
  unfold aCallN; rw [bnd_ok ht]; (try dsimp only); rw [h]; (try dsimp only); rw [hp]; (try dsimp only); rw [if_pos hs]
theorem e_call {f : AF} {rr : Rs Av} (ht : t σ S = some (.ok xs, S1)) (hp : f xs S1 = some (rr, S2)) : aCall f t σ S = some (rr, S2) := by
  unfold aCall; rw [bnd_ok ht]; exact hp
theorem e_isi {n tn : String} (ha : a σ S = some (.ok x, S1)) (h1 : tyA S1 x = some tn) (h2 : kitB tn n = some p) : aIsi n a σ S = some (.ok (.d (.bool p)), S1) := by
  unfold aIsi; rw [bnd_ok ha]; (try dsimp only); rw [h1]; (try dsimp only); rw [h2]
theorem e_sl {lo hi : Sl → M (Option Int)} {l h : Option Int} (ha : a σ S = some (.ok (.d d), S)) (hl : lo σ S = some (.ok l, S)) (hh : hi σ S = some (.ok h, S)) (hf : fSl d l h = some r) : aSl a lo hi σ S = some (.ok (.d r), S) := by
  unfold aSl; rw [bnd_ok ha, bnd_ok hl, bnd_ok hh]; (try dsimp only); rw [hf]; rfl
theorem o_N : aoN σ S = some (.ok none, S) := rfl
theorem o_S {n : Int} (ha : a σ S = some (.ok (.d (.int n)), S)) : aoS a σ S = some (.ok (some n), S) := by unfold aoS; rw [bnd_ok ha]
theorem e_frzD (ha : a σ S = some (.ok (.d d), S1)) : aFrz a σ S = some (.ok (.d d), S1) := by unfold aFrz; rw [bnd_ok ha]; rfl
theorem e_frz {ds : List D} (ha : a σ S = some (.ok (.o j), S1)) (h : S1[j]? = some (.lst (ds.map .d))) : aFrz a σ S = some (.ok (.d (.list ds)), S1.set j .gone) := by
  unfold aFrz; rw [bnd_ok ha]; unfold lf frzO; (try dsimp only); rw [h]; (try dsimp only); rw [allD_map]; rfl
theorem e_fld {cs : List Str} {fn cn : Str} {fs : List (Str × Av)} (ha : a σ S = some (.ok (.o j), S1)) (h : S1[j]? = some (.ins cn fs)) (hm : cn ∈ cs) (hl : fs.lookup fn = some x) : aFld cs fn a σ S = some (.ok x, S1) := by
  unfold aFld; rw [bnd_ok ha]; (try dsimp only); rw [h]; (try dsimp only); rw [if_pos hm, hl]; rfl
theorem e_meth {cn m : Str} {f : AF} {fs : List (Str × Av)} {rr : Rs Av} (ha : a σ S = some (.ok (.o j), S1)) (h : S1[j]? = some (.ins cn fs)) (hm : fs.lookup m = none) (ht : t σ S1 = some (.ok xs, S2)) (hf : f (.o j :: xs) S2 = some (rr, S3)) : aMeth cn m f a t σ S = some (rr, S3) := by
  unfold aMeth; rw [bnd_ok ha]; (try dsimp only); rw [h]; (try dsimp only); rw [if_pos ⟨rfl, hm⟩, bnd_ok ht]; exact hf
theorem e_make {cn : Str} {f : AF} (ht : t σ S = some (.ok xs, S1)) (hf : f (.o S1.length :: xs) (S1 ++ [.ins cn []]) = some (.ok (.d .none), S2)) : aMake cn f t σ S = some (.ok (.o S1.length), S2) := by
  unfold aMake; rw [bnd_ok ht]; (try dsimp only); rw [hf]
/-! truths -/
theorem t_B (ha : a σ S = some (.ok (.d (.bool p)), S1)) : aB a σ S = some (.ok p, S1) := by unfold aB; rw [bnd_ok ha]; rfl
theorem t_and (h1 : u σ S = some (.ok p, S)) (h2 : p = true → v σ S = some (.ok q, S)) : aAnd u v σ S = some (.ok (p && q), S) := by
  unfold aAnd; rw [bnd_ok h1]
  cases p with
  | true => rw [if_pos rfl]; exact h2 rfl
  | false => rfl
theorem t_or (h1 : u σ S = some (.ok p, S)) (h2 : p = false → v σ S = some (.ok q, S)) : aOr u v σ S = some (.ok (p || q), S) := by
  unfold aOr; rw [bnd_ok h1]
  cases p with
  | false => exact h2 rfl
  | true => rfl
theorem t_not (h1 : u σ S = some (.ok p, S1)) : aNot u σ S = some (.ok (!p), S1) := by unfold aNot; rw [bnd_ok h1]; rfl
theorem t_to (h : u σ S = some (.ok p, S1)) (e : p = q) : u σ S = some (.ok q, S1) := e ▸ h
theorem e_to (h : a σ S = some (.ok x, S1)) (e : x = y) : a σ S = some (.ok y, S1) := e ▸ h
theorem e_andV (h1 : a σ S = some (.ok (.d (.bool p)), S)) (h2 : p = true → b σ S = some (.ok (.d (.bool q)), S)) : aAndV a b σ S = some (.ok (.d (.bool (p && q))), S) := by
  unfold aAndV; rw [bnd_ok h1]
  cases p with
  | true => exact h2 rfl
  | false => rfl
theorem e_orV (h1 : a σ S = some (.ok (.d (.bool p)), S)) (h2 : p = false → b σ S = some (.ok (.d (.bool q)), S)) : aOrV a b σ S = some (.ok (.d (.bool (p || q))), S) := by
  unfold aOrV; rw [bnd_ok h1]
  cases p with
  | false => exact h2 rfl
  | true => rfl
theorem e_notV (h1 : a σ S = some (.ok (.d (.bool p)), S1)) : aNotV a σ S = some (.ok (.d (.bool (!p))), S1) := by unfold aNotV; rw [bnd_ok h1]; rfl
theorem e_ifT (h : u σ S = some (.ok p, S1)) (hp : p = true) (ha : a σ S1 = some (.ok x, S2)) : aIf u a b σ S = some (.ok x, S2) := by subst hp; unfold aIf; rw [bnd_ok h]; exact ha
theorem e_ifF (h : u σ S = some (.ok p, S1)) (hp : p = false) (ha : b σ S1 = some (.ok x, S2)) : aIf u a b σ S = some (.ok x, S2) := by subst hp; unfold aIf; rw [bnd_ok h]; exact ha
theorem e_if (h : u σ S = some (.ok p, S)) (ha : p = true → a σ S = some (.ok (.d d), S)) (hb : p = false → b σ S = some (.ok (.d e), S)) : aIf u a b σ S = some (.ok (.d (if p = true then d else e)), S) := by
  unfold aIf; rw [bnd_ok h]
  cases p with
  | true => exact ha rfl
  | false => exact hb rfl
theorem e_chain (ha : a σ S = some (.ok x, S)) (hb : b σ S = some (.ok y, S)) (hf : f x y S = some (.d (.bool p), S)) (hc : p = true → c σ S = some (.ok z, S)) (hg : p = true → g y z S = some (.d (.bool q), S)) : aChain f g a b c σ S = some (.ok (.d (.bool (p && q))), S) := by
  unfold aChain; rw [bnd_ok ha, bnd_ok hb]
  have e1 : lf (f x y) S = some (.ok (.d (.bool p)), S) := by unfold lf; rw [hf]
  rw [bnd_ok e1]
  have e2 : asB (.d (.bool p)) S = some (.ok p, S) := rfl
  rw [bnd_ok e2]
  cases p with
  | true => rw [if_pos rfl, bnd_ok (hc rfl)]; unfold lf; rw [hg rfl]; rfl
  | false => rfl
/-! operations -/
theorem f_D {f : D → D → Option D} (h : f d e = some r) : opD f (.d d) (.d e) S = some (.d r, S) := by unfold opD; (try dsimp only); rw [h]; rfl
theorem f_U {f : D → Option D} (h : f d = some r) : unD f (.d d) S = some (.d r, S) := by unfold unD; (try dsimp only); rw [h]; rfl
theorem f_B {f : D → D → Option Bool} (h1 : dvn 4 S x = some d) (h2 : dvn 4 S y = some e) (h : f d e = some p) : opB f x y S = some (.d (.bool p), S) := by unfold opB; rw [h1, h2]; (try dsimp only); rw [h]; rfl
theorem f_Bn {f : D → D → Option Bool} (h1 : dvn 4 S x = some d) (h2 : dvn 4 S y = some e) (h : f d e = some p) : opBn f x y S = some (.d (.bool (!p)), S) := by unfold opBn; rw [h1, h2]; (try dsimp only); rw [h]; rfl
theorem f_ixD (h : fIx d e = some r) : opIx (.d d) (.d e) S = some (.d r, S) := by unfold opIx; (try dsimp only); rw [h]; rfl
theorem f_ixL {xs : List Av} {n : Int} (h : S[j]? = some (.lst xs)) (h2 : atI xs n = some x) : opIx (.o j) (.d (.int n)) S = some (x, S) := by
  unfold opIx; (try dsimp only); rw [h]; dsimp only; unfold peel getC; (try dsimp only); rw [h2]; rfl
theorem f_ixC {cl : Cl} (h : S[j]? = some cl) (h2 : getC (peel cl) d = some x) : opIx (.o j) (.d d) S = some (x, S) := by
  unfold opIx; (try dsimp only); rw [h]; (try dsimp only); rw [h2]; rfl
theorem f_cbD {f : List D → Option D} {ds : List D} (h1 : allD xs = some ds) (h : f ds = some r) : cbD f xs S = some (.d r, S) := by unfold cbD; rw [h1]; (try dsimp only); rw [h]; rfl
theorem f_lenD (h : fLen [d] = some r) : cbLen [.d d] S = some (.d r, S) := by unfold cbLen; (try dsimp only); rw [h]; rfl
theorem f_lenC {cl : Cl} {n : Nat} (h : S[j]? = some cl) (h2 : lenC (peel cl) = some n) : cbLen [.o j] S = some (.d (.int (n : Nat)), S) := by unfold cbLen; (try dsimp only); rw [h]; (try dsimp only); rw [h2]; rfl
theorem f_bmD {f : D → List D → Option D} {ds : List D} (h1 : dvs S xs = some ds) (h : f d ds = some r) : bmD f (.d d) xs S = some (.d r, S) := by unfold bmD; rw [h1]; (try dsimp only); rw [h]; rfl
theorem f_in {neg : Bool} (h : inB S x y = some p) : opIn neg x y S = some (.d (.bool (if neg = true then !p else p)), S) := by unfold opIn; rw [h]; rfl
theorem f_inF (h : inB S x y = some p) : opIn false x y S = some (.d (.bool p), S) := f_in h
theorem f_inT (h : inB S x y = some p) : opIn true x y S = some (.d (.bool (!p)), S) := f_in h
theorem f_tup {ds : List D} (h : seqD S x = some ds) : cbTup [x] S = some (.d (.tuple ds), S) := by unfold cbTup; (try dsimp only); rw [h]; rfl
theorem f_lst {ds : List D} (h : seqD S x = some ds) : cbLstF [x] S = some (.d (.list ds), S) := by unfold cbLstF; (try dsimp only); rw [h]; rfl
theorem f_mdL {f : List Av → List Av → Option (Av × List Av)} {ys zs : List Av} (h : S[j]? = some (.lst xs)) (hf : f xs ys = some (z, zs)) : mdL f (.o j) ys S = some (z, S.set j (.lst zs)) := by unfold mdL; (try dsimp only); rw [h]; (try dsimp only); rw [hf]; rfl
theorem fMod_s {i j : Int} (h : 0 < j) : fMod (.int i) (.int j) = some (.int (i % j)) := by unfold fMod; (try dsimp only); rw [if_pos h]
theorem fShr_s {i j : Int} (h : 0 ≤ j) : fShr (.int i) (.int j) = some (.int (i / 2 ^ j.toNat)) := by unfold fShr; (try dsimp only); rw [if_pos h]
theorem fBand_s {i : Int} : fBand (.int i) (.int 2147483647) = some (.int (i % 2147483648)) := rfl
theorem fMul_l {i j : Int} (h : -(2 ^ 64) < i ∧ i < 2 ^ 64) : fMul (.int i) (.int j) = some (.int (i * j)) := by unfold fMul; (try dsimp only); rw [if_pos (.inl (.inl h))]
theorem fMul_r {i j : Int} (h : -(2 ^ 64) < j ∧ j < 2 ^ 64) : fMul (.int i) (.int j) = some (.int (i * j)) := by unfold fMul; (try dsimp only); rw [if_pos (.inl (.inr h))]
theorem fMul_W {i j : Int} (h : CMulX i j) : fMul (.int i) (.int j) = some (.int (i * j)) := by unfold fMul; (try dsimp only); rw [if_pos (.inr h)]
theorem fDiv_s {i j : Int} (h : 0 < j ∧ j < 1073741824) : fDiv (.int i) (.int j) = some (.int (i / j)) := by unfold fDiv; (try dsimp only); rw [if_pos (.inl h)]
theorem fDiv_W {i j : Int} (h : CDivW i j) : fDiv (.int i) (.int j) = some (.int (i / j)) := by unfold fDiv; (try dsimp only); rw [if_pos (.inr h)]
theorem fPow_s {i j : Int} (h : 0 ≤ j ∧ j ≤ 1000000 ∧ i.natAbs < 2 ^ 64) : fPow (.int i) (.int j) = some (.int (i ^ j.toNat)) := by unfold fPow; (try dsimp only); rw [if_pos h]
theorem fAdd_str {x y : Str} (h : x.length + y.length ≤ 100000) : fAdd (.str x) (.str y) = some (.str (x ++ y)) := by unfold fAdd; (try dsimp only); rw [if_pos h]
theorem fAdd_tup {x y : List D} (h : x.length + y.length ≤ 100000) : fAdd (.tuple x) (.tuple y) = some (.tuple (x ++ y)) := by unfold fAdd; (try dsimp only); rw [if_pos h]
theorem fAdd_lst {x y : List D} (h : x.length + y.length ≤ 100000) : fAdd (.list x) (.list y) = some (.list (x ++ y)) := by unfold fAdd; (try dsimp only); rw [if_pos h]
theorem fLen_str {z : Str} (h : z.length ≤ 100000) : fLen [.str z] = some (.int (z.length : Nat)) := by unfold fLen; (try dsimp only); rw [if_pos h]
theorem fIx_str {z : Str} {n : Int} {c : Nat} (h : z.length ≤ 100000) (h2 : atI z.cps.toList n = some c) : fIx (.str z) (.int n) = some (.str ⟨#[c]⟩) := by unfold fIx; (try dsimp only); rw [if_pos h, h2]; rfl
theorem fSl_str {z : Str} {l h : Option Int} (hz : z.length ≤ 100000) : fSl (.str z) l h = some (.str (cutS z l h)) := by unfold fSl; (try dsimp only); rw [if_pos hz]
theorem fIn_list {d : D} {ds : List D} (h1 : SeqAt.shaped d = true) (h2 : SeqAt.shaped (.list ds) = true) : fIn d (.list ds) = some (ds.any fun z => PyData.eqv z d) := by
  have e : fIn d (.list ds) = if SeqAt.shaped d = true ∧ SeqAt.shaped (.list ds) = true then some (ds.any fun z => PyData.eqv z d) else none := by cases d <;> rfl
  rw [e, if_pos ⟨h1, h2⟩]
/-! statements -/
def wS (s : AS) (σ : Sl) (S : Sg) (Q : Fl → Sl → Sg → Prop) : Prop := ∃ fl σ' S', s σ S = some (fl, σ', S') ∧ Q fl σ' S'
def sq (t : AS) (Q : Fl → Sl → Sg → Prop) : Fl → Sl → Sg → Prop := fun fl σ S => match fl with
  | .nx => wS t σ S Q
  | .bk => Q .bk σ S
  | .ct => Q .ct σ S
  | .rt x => Q (.rt x) σ S
  | .ex e => Q (.ex e) σ S
section
variable {Q : Fl → Sl → Sg → Prop} {s s' t' : AS}
theorem wseq (h : wS s σ S (sq t' Q)) : wS (aSeq s t') σ S Q := by
  obtain ⟨fl, σ1, S1, e, q⟩ := h
  unfold wS aSeq
  rw [e]
  cases fl with
  | nx => exact q
  | bk => exact ⟨_, _, _, rfl, q⟩
  | ct => exact ⟨_, _, _, rfl, q⟩
  | rt x => exact ⟨_, _, _, rfl, q⟩
  | ex e => exact ⟨_, _, _, rfl, q⟩
theorem wset (ha : a σ S = some (.ok x, S1)) (k : Q .nx (σ.set i (some x)) S1) : wS (aAsg a (agName i)) σ S Q := by
  refine ⟨_, _, _, ?_, k⟩
  unfold aAsg stb; rw [ha]; rfl
theorem vset (ha : a σ S = some (.ok x, S1)) (k : wS t' (σ.set i (some x)) S1 Q) : wS (aSeq (aAsg a (agName i)) t') σ S Q := wseq (wset ha k)
theorem wdrop (ha : a σ S = some (.ok x, S1)) (k : Q .nx σ S1) : wS (aDrop a) σ S Q := by
  refine ⟨_, _, _, ?_, k⟩
  unfold aDrop stb; rw [ha]
theorem vdrop (ha : a σ S = some (.ok x, S1)) (k : wS t' σ S1 Q) : wS (aSeq (aDrop a) t') σ S Q := wseq (wdrop ha k)
theorem wret (ha : a σ S = some (.ok x, S1)) (k : Q (.rt x) σ S1) : wS (aRet a) σ S Q := by
  refine ⟨_, _, _, ?_, k⟩
  unfold aRet stb; rw [ha]
theorem wretN (k : Q (.rt (.d .none)) σ S) : wS aRetN σ S Q := ⟨_, _, _, rfl, k⟩
theorem wnext (k : Q .nx σ S) : wS aNext σ S Q := ⟨_, _, _, rfl, k⟩
theorem wbrk (k : Q .bk σ S) : wS aBreak σ S Q := ⟨_, _, _, rfl, k⟩
theorem wcnt (k : Q .ct σ S) : wS aCont σ S Q := ⟨_, _, _, rfl, k⟩
theorem wraise {c : Str} (k : Q (.ex ⟨c, none⟩) σ S) : wS (aRaise c) σ S Q := ⟨_, _, _, rfl, k⟩
/-- an expression that raises -/
theorem wset_ex {e : Xn} (ha : a σ S = some (.ex e, S1)) (k : Q (.ex e) σ S1) : wS (aAsg a (agName i)) σ S Q := by
  refine ⟨_, _, _, ?_, k⟩
  unfold aAsg stb; rw [ha]
theorem wdrop_ex {e : Xn} (ha : a σ S = some (.ex e, S1)) (k : Q (.ex e) σ S1) : wS (aDrop a) σ S Q := by
  refine ⟨_, _, _, ?_, k⟩
  unfold aDrop stb; rw [ha]
theorem wret_ex {e : Xn} (ha : a σ S = some (.ex e, S1)) (k : Q (.ex e) σ S1) : wS (aRet a) σ S Q := by
  refine ⟨_, _, _, ?_, k⟩
  unfold aRet stb; rw [ha]
theorem wifS (h : u σ S = some (.ok p, S1)) (h1 : p = true → wS s σ S1 Q) (h2 : p = false → wS s' σ S1 Q) : wS (aIfS u s s') σ S Q := by
  cases p with
  | true =>
    obtain ⟨fl, σ1, S2, e, q⟩ := h1 rfl
    refine ⟨fl, σ1, S2, ?_, q⟩
    unfold aIfS stb; rw [h]; exact e
  | false =>
    obtain ⟨fl, σ1, S2, e, q⟩ := h2 rfl
    refine ⟨fl, σ1, S2, ?_, q⟩
    unfold aIfS stb; rw [h]; exact e
theorem vifS (h : u σ S = some (.ok p, S1)) (h1 : p = true → wS s σ S1 (sq t' Q)) (h2 : p = false → wS s' σ S1 (sq t' Q)) : wS (aSeq (aIfS u s s') t') σ S Q := wseq (wifS h h1 h2)
theorem vwhenS (h : u σ S = some (.ok p, S1)) (h1 : p = true → wS s σ S1 (sq t' Q)) (h2 : p = false → wS t' σ S1 Q) : wS (aSeq (aIfS u s aNext) t') σ S Q := vifS h h1 fun e => wnext (h2 e)
theorem wwhenS (h : u σ S = some (.ok p, S1)) (h1 : p = true → wS s σ S1 Q) (h2 : p = false → Q .nx σ S1) : wS (aIfS u s aNext) σ S Q := wifS h h1 fun e => wnext (h2 e)
theorem wif (h : u σ S = some (.ok p, S)) (h1 : p = true → wS s σ S Q) (h2 : p = false → wS s' σ S Q) : wS (aIfS u s s') σ S Q := wifS h h1 h2
theorem vif (h : u σ S = some (.ok p, S)) (h1 : p = true → wS s σ S (sq t' Q)) (h2 : p = false → wS s' σ S (sq t' Q)) : wS (aSeq (aIfS u s s') t') σ S Q := vifS h h1 h2
theorem vwhen (h : u σ S = some (.ok p, S)) (h1 : p = true → wS s σ S (sq t' Q)) (h2 : p = false → wS t' σ S Q) : wS (aSeq (aIfS u s aNext) t') σ S Q := vwhenS h h1 h2
theorem wwhen (h : u σ S = some (.ok p, S)) (h1 : p = true → wS s σ S Q) (h2 : p = false → Q .nx σ S) : wS (aIfS u s aNext) σ S Q := wwhenS h h1 h2
theorem wsub {o l : AE} (ha : a σ S = some (.ok x, S1)) (ho : o σ S1 = some (.ok y, S2)) (hl : l σ S2 = some (.ok z, S3)) {S4 : Sg} (hs : Ly.stM y z x S3 = some S4) (k : Q .nx σ S4) : wS (aAsg a (agSub o l Ly.stM)) σ S Q := by
  refine ⟨_, _, _, ?_, k⟩
  unfold aAsg stb; rw [ha]; dsimp only
  unfold agSub stb; rw [ho]; dsimp only; rw [hl]; dsimp only; rw [hs]; rfl
theorem vsub {o l : AE} (ha : a σ S = some (.ok x, S1)) (ho : o σ S1 = some (.ok y, S2)) (hl : l σ S2 = some (.ok z, S3)) {S4 : Sg} (hs : Ly.stM y z x S3 = some S4) (k : wS t' σ S4 Q) : wS (aSeq (aAsg a (agSub o l Ly.stM)) t') σ S Q := wseq (wsub ha ho hl hs k)
theorem waug {ff : Int → Int → Int} {m n : Int} (hx : σ[i]? = some (some (.d (.int m)))) (ha : a σ S = some (.ok (.d (.int n)), S1)) (k : Q .nx (σ.set i (some (.d (.int (ff m n))))) S1) : wS (aAug i a (ipI2 ff)) σ S Q := by
  refine ⟨_, _, _, ?_, k⟩
  unfold aAug; rw [hx]; dsimp only; unfold stb; rw [bnd_ok ha]; rfl
theorem vaug {ff : Int → Int → Int} {m n : Int} (hx : σ[i]? = some (some (.d (.int m)))) (ha : a σ S = some (.ok (.d (.int n)), S1)) (k : wS t' (σ.set i (some (.d (.int (ff m n))))) S1 Q) : wS (aSeq (aAug i a (ipI2 ff)) t') σ S Q := wseq (waug hx ha k)
theorem wasg2 {d1 d2 : D} {i j : Nat} (ha : a σ S = some (.ok (.d (.tuple [d1, d2])), S1)) (k : Q .nx ((σ.set i (some (.d d1))).set j (some (.d d2))) S1) : wS (aAsg a (agTup 2 (agCons (agName i) (agCons (agName j) agNil)))) σ S Q := by
  refine ⟨_, _, _, ?_, k⟩
  unfold aAsg stb; rw [ha]; rfl
theorem vasg2 {d1 d2 : D} {i j : Nat} (ha : a σ S = some (.ok (.d (.tuple [d1, d2])), S1)) (k : wS t' ((σ.set i (some (.d d1))).set j (some (.d d2))) S1 Q) : wS (aSeq (aAsg a (agTup 2 (agCons (agName i) (agCons (agName j) agNil)))) t') σ S Q := wseq (wasg2 ha k)
theorem wfld {o : AE} {cs : List Str} {fn cn : Str} {fs : List (Str × Av)} (ha : a σ S = some (.ok x, S1)) (ho : o σ S1 = some (.ok (.o j), S2)) (h : S2[j]? = some (.ins cn fs)) (hm : cn ∈ cs ∧ fs.length < 900) (k : Q .nx σ (S2.set j (.ins cn (putFA fn x fs)))) : wS (aSetF cs fn o a) σ S Q := by
  refine ⟨_, _, _, ?_, k⟩
  unfold aSetF stb; rw [ha]; dsimp only; rw [ho]; dsimp only; rw [h]; dsimp only; rw [if_pos hm]
theorem vfld {o : AE} {cs : List Str} {fn cn : Str} {fs : List (Str × Av)} (ha : a σ S = some (.ok x, S1)) (ho : o σ S1 = some (.ok (.o j), S2)) (h : S2[j]? = some (.ins cn fs)) (hm : cn ∈ cs ∧ fs.length < 900) (k : wS t' σ (S2.set j (.ins cn (putFA fn x fs))) Q) : wS (aSeq (aSetF cs fn o a) t') σ S Q := wseq (wfld ha ho h hm k)
theorem wfor {ai : Sl → M Itm} {gt : Av → AS} {xs : List Av} (I : Nat → Sl → Sg → Prop) (hi : ai σ S = some (.ok (itL xs), S1)) (hl : xs.length < 1000000) (h0 : I 0 σ S1)
    (step : ∀ i x σ S, xs[i]? = some x → I i σ S → ∃ σ1 S1, gt x σ S = some (.nx, σ1, S1) ∧ wS s σ1 S1 (fun fl σ' S' => match fl with | .nx => I (i + 1) σ' S' | .ct => I (i + 1) σ' S' | .bk => Q .nx σ' S' | .rt x => Q (.rt x) σ' S' | .ex e => Q (.ex e) σ' S'))
    (hend : ∀ σ S, I xs.length σ S → Q .nx σ S) : wS (aFor ai gt s) σ S Q := for_wp I hi hl h0 step hend
/-- the target a name -/
theorem wforN {ai : Sl → M Itm} {xs : List Av} {j : Nat} (I : Nat → Sl → Sg → Prop) (hi : ai σ S = some (.ok (itL xs), S1)) (hl : xs.length < 1000000) (h0 : I 0 σ S1)
    (step : ∀ i x σ S, xs[i]? = some x → I i σ S → wS s (σ.set j (some x)) S (fun fl σ' S' => match fl with | .nx => I (i + 1) σ' S' | .ct => I (i + 1) σ' S' | .bk => Q .nx σ' S' | .rt x => Q (.rt x) σ' S' | .ex e => Q (.ex e) σ' S'))
    (hend : ∀ σ S, I xs.length σ S → Q .nx σ S) : wS (aFor ai (agName j) s) σ S Q := wfor I hi hl h0 (fun i x σ S hx hI => ⟨_, _, rfl, step i x σ S hx hI⟩) hend
theorem vforN {ai : Sl → M Itm} {xs : List Av} {j : Nat} (I : Nat → Sl → Sg → Prop) (hi : ai σ S = some (.ok (itL xs), S1)) (hl : xs.length < 1000000) (h0 : I 0 σ S1)
    (step : ∀ i x σ S, xs[i]? = some x → I i σ S → wS s (σ.set j (some x)) S (fun fl σ' S' => match fl with | .nx => I (i + 1) σ' S' | .ct => I (i + 1) σ' S' | .bk => wS t' σ' S' Q | .rt x => Q (.rt x) σ' S' | .ex e => Q (.ex e) σ' S'))
    (hend : ∀ σ S, I xs.length σ S → wS t' σ S Q) : wS (aSeq (aFor ai (agName j) s) t') σ S Q := wseq (wforN I hi hl h0 (fun i x σ S hx hI => by
      obtain ⟨fl, σ1, S1, e, q⟩ := step i x σ S hx hI
      exact ⟨fl, σ1, S1, e, by cases fl <;> exact q⟩) hend)
/-- a pure def by its body -/
theorem pf_of {np n : Nat} {b : AS} {ds : List D} {r : D} (h : wS b ((ds.map Av.d).map some ++ List.replicate (n - np) none) [] (fun fl _ _ => match fl with | .rt x => x = .d r | .nx => r = .none | _ => False)) (hl : ds.length = np := by rfl) : pf (aDef np n b) ds = some (.ok r) := pf_wp hl h
end
theorem i_list {ds : List D} (ha : a σ S = some (.ok (.d (.list ds)), S1)) : aiAny a σ S = some (.ok (itL (ds.map .d)), S1) := by unfold aiAny; rw [bnd_ok ha]; rfl
theorem i_tup {ds : List D} (ha : a σ S = some (.ok (.d (.tuple ds)), S1)) : aiAny a σ S = some (.ok (itL (ds.map .d)), S1) := by unfold aiAny; rw [bnd_ok ha]; rfl
theorem i_str {z : Str} (ha : a σ S = some (.ok (.d (.str z)), S1)) : aiAny a σ S = some (.ok (itL ((z.cps.toList.map signD).map .d)), S1) := by unfold aiAny; rw [bnd_ok ha, ← signs_eq]; rfl
theorem i_r1 {n : Int} (ht : t σ S = some (.ok [.d (.int n)], S1)) (hn : -(2 ^ 62) ≤ n ∧ n < 2 ^ 62) : aiR1 t σ S = some (.ok (itL ((rangeD 0 n.toNat).map .d)), S1) := by unfold aiR1; rw [bnd_ok ht]; dsimp only; rw [if_pos hn, itR_eq]
theorem i_r2 {m n : Int} (ht : t σ S = some (.ok [.d (.int m), .d (.int n)], S1)) (hn : -(2 ^ 62) ≤ m ∧ m < 2 ^ 62 ∧ -(2 ^ 62) ≤ n ∧ n < 2 ^ 62) : aiR2 t σ S = some (.ok (itL ((rangeD m (n - m).toNat).map .d)), S1) := by unfold aiR2; rw [bnd_ok ht]; dsimp only; rw [if_pos hn, itR_eq]
theorem fEq_gen {d e : D} (h1 : SeqAt.shaped d = true) (h2 : SeqAt.shaped e = true) (n1 : (isSc d && isSc e) = false) : fEq d e = some (PyData.eqv d e) := by
  have : fEq d e = if SeqAt.shaped d = true ∧ SeqAt.shaped e = true then some (PyData.eqv d e) else none := by
    cases d <;> cases e <;> first | rfl | cases n1
  rw [this, if_pos ⟨h1, h2⟩]
end
/-! isinstance -/
theorem isi_str {S : Sg} (d : D) : tyA S (.d d) = some (tyN d) ∧ kitB (tyN d) "str" = some (isStr d) := ⟨rfl, by cases d <;> (simp only [tyN, isStr]; decide +kernel)⟩
theorem isi_int {S : Sg} (d : D) : tyA S (.d d) = some (tyN d) ∧ kitB (tyN d) "int" = some (isInt d) := ⟨rfl, by cases d <;> (simp only [tyN, isInt]; decide +kernel)⟩
theorem isi_bol {S : Sg} (d : D) : tyA S (.d d) = some (tyN d) ∧ kitB (tyN d) "bool" = some (isBol d) := ⟨rfl, by cases d <;> (simp only [tyN, isBol]; decide +kernel)⟩
theorem isi_tup {S : Sg} (d : D) : tyA S (.d d) = some (tyN d) ∧ kitB (tyN d) "tuple" = some (isTup d) := ⟨rfl, by cases d <;> (simp only [tyN, isTup]; decide +kernel)⟩
theorem isi_lst {S : Sg} (d : D) : tyA S (.d d) = some (tyN d) ∧ kitB (tyN d) "list" = some (isLst d) := ⟨rfl, by cases d <;> (simp only [tyN, isLst]; decide +kernel)⟩
theorem e_isStr {a : AE} {σ : Sl} {S S1 : Sg} {d : D} (h : a σ S = some (.ok (.d d), S1)) : aIsi "str" a σ S = some (.ok (.d (.bool (isStr d))), S1) := e_isi h (isi_str d).1 (isi_str (S := S1) d).2
theorem e_isInt {a : AE} {σ : Sl} {S S1 : Sg} {d : D} (h : a σ S = some (.ok (.d d), S1)) : aIsi "int" a σ S = some (.ok (.d (.bool (isInt d))), S1) := e_isi h (isi_int d).1 (isi_int (S := S1) d).2
theorem e_isBol {a : AE} {σ : Sl} {S S1 : Sg} {d : D} (h : a σ S = some (.ok (.d d), S1)) : aIsi "bool" a σ S = some (.ok (.d (.bool (isBol d))), S1) := e_isi h (isi_bol d).1 (isi_bol (S := S1) d).2
theorem e_isTup {a : AE} {σ : Sl} {S S1 : Sg} {d : D} (h : a σ S = some (.ok (.d d), S1)) : aIsi "tuple" a σ S = some (.ok (.d (.bool (isTup d))), S1) := e_isi h (isi_tup d).1 (isi_tup (S := S1) d).2
theorem e_isLst {a : AE} {σ : Sl} {S S1 : Sg} {d : D} (h : a σ S = some (.ok (.d d), S1)) : aIsi "list" a σ S = some (.ok (.d (.bool (isLst d))), S1) := e_isi h (isi_lst d).1 (isi_lst (S := S1) d).2
/-- a pure def's answer, of which something holds -/
theorem pf_ex {np n : Nat} {b : AS} {ds : List D} {Pr : D → Prop} (h : wS b ((ds.map Av.d).map some ++ List.replicate (n - np) none) [] (fun fl _ _ => match fl with | .rt (.d x) => Pr x | .nx => Pr .none | _ => False)) (hl : ds.length = np := by rfl) : ∃ r, pf (aDef np n b) ds = some (.ok r) ∧ Pr r := by
  obtain ⟨fl, σ', S', e, q⟩ := h
  rw [pf_def hl, e]
  cases fl with
  | rt x => cases x with
    | d x => exact ⟨x, rfl, q⟩
    | o j => exact q.elim
  | nx => exact ⟨_, rfl, q⟩
  | _ => exact q.elim
/-- two ways meet -/
theorem vcut {s t' : AS} {σ : Sl} {S : Sg} {Q : Fl → Sl → Sg → Prop} (J : Sl → Sg → Prop) (h : wS s σ S (fun fl σ' S' => match fl with | .nx => J σ' S' | .bk => Q .bk σ' S' | .ct => Q .ct σ' S' | .rt x => Q (.rt x) σ' S' | .ex e => Q (.ex e) σ' S')) (k : ∀ σ S, J σ S → wS t' σ S Q) : wS (aSeq s t') σ S Q := by
  refine wseq ?_
  obtain ⟨fl, σ1, S1, e, q⟩ := h
  refine ⟨fl, σ1, S1, e, ?_⟩
  cases fl with
  | nx => exact k _ _ q
  | bk => exact q
  | ct => exact q
  | rt x => exact q
  | ex e => exact q
/-- a comprehension over data, each element's answer known by what holds of it -/
theorem aLc_ex {mk : List Av → Op0} {ai : Sl → M Itm} {g : Av → AS} {e : AE} {vs : List Nat} {σ : Sl} {S : Sg} {ds : List D} (Pr : D → D → Prop) (hi : ai σ S = some (.ok (itL (ds.map .d)), S)) (hl : ds.length ≤ 100000)
    (hb : ∀ d ∈ ds, ∃ σ1 r, g (.d d) (wipeA σ vs) S = some (.nx, σ1, S) ∧ e σ1 S = some (.ok (.d r), S) ∧ Pr d r) :
    ∃ rs : List D, rs.length = ds.length ∧ (∀ r ∈ rs, ∃ d ∈ ds, Pr d r) ∧ aLc mk ai g aYes e vs σ S = lf (mk (rs.map .d)) S := by
  classical
  let h : D → D := fun d => if hd : d ∈ ds then Classical.choose (Classical.choose_spec (hb d hd)) else .none
  have hh : ∀ d (hd : d ∈ ds), ∃ σ1, g (.d d) (wipeA σ vs) S = some (.nx, σ1, S) ∧ e σ1 S = some (.ok (.d (h d)), S) ∧ Pr d (h d) := fun d hd => by
    have e1 : h d = Classical.choose (Classical.choose_spec (hb d hd)) := by show (if hd : d ∈ ds then _ else _) = _; rw [dif_pos hd]
    rw [e1]
    exact ⟨_, Classical.choose_spec (Classical.choose_spec (hb d hd))⟩
  refine ⟨ds.map h, List.length_map .., fun r hr => ?_, ?_⟩
  · obtain ⟨d, hd, rfl⟩ := List.mem_map.mp hr
    obtain ⟨_, _, _, q⟩ := hh d hd
    exact ⟨d, hd, q⟩
  · have hq : lgo (itL (ds.map .d)) g aYes e (wipeA σ vs) fu 0 [] S = some (((ds.map h).map .d), S) := by
      have := lgo_pure g aYes e (wipeA σ vs) S (ds.map .d) (fun _ => true) (fun x => match x with | .d d => .d (h d) | x => x) (fun x hx => by
        obtain ⟨d, hd, rfl⟩ := List.mem_map.mp hx
        obtain ⟨σ1, e1, e2, _⟩ := hh d hd
        exact ⟨σ1, e1, rfl, fun _ => e2⟩) fu 0 [] (Nat.zero_le _) (by rw [List.length_map]; show ds.length < 0 + 1000000; omega) (by rw [List.length_map]; show 0 + (ds.length - 0) ≤ 100000; omega)
      rw [this, List.drop_zero, List.nil_append, filter_map_d _ h _ _ (fun d _ => rfl), filter_all]
    unfold aLc bnd
    rw [hi]
    dsimp only
    have e1 : lf (lgo (itL (ds.map .d)) g aYes e (wipeA σ vs) fu 0 []) S = some (.ok ((ds.map h).map .d), S) := by unfold lf; rw [hq]
    rw [e1]
theorem str_app_len (x y : Str) : (x ++ y).length = x.length + y.length := by
  have h : (x ++ y : Str) = ⟨x.cps ++ y.cps⟩ := rfl
  rw [h]
  show (x.cps ++ y.cps).size = _
  rw [Array.size_append]
  rfl
theorem fAll_bools (bs : List Bool) : fAll [.list (bs.map PyData.bool)] = some (.bool (bs.all id)) := by unfold fAll; dsimp only; rw [boolsOf_map]; rfl
theorem fAny_bools (bs : List Bool) : fAny [.list (bs.map PyData.bool)] = some (.bool (bs.any id)) := by unfold fAny; dsimp only; rw [boolsOf_map]; rfl
theorem fSum_ints (ns : List Int) : fSum [.list (ns.map PyData.int)] = some (.int ns.sum) := by unfold fSum; dsimp only; rw [intsOf_map]; rfl
theorem mapM_dvn (n : Nat) (S : Sg) : ∀ ds : List D, (ds.map Av.d).mapM (dvn n S) = some ds
  | [] => rfl
  | d :: ds => by
    have e : dvn n S (.d d) = some d := by cases n <;> rfl
    rw [List.map_cons, List.mapM_cons, mapM_dvn n S ds, e]
    rfl
theorem dvn_lst {S : Sg} {j : Nat} {ds : List D} (h : S[j]? = some (.lst (ds.map .d))) : dvn 4 S (.o j) = some (.list ds) := by
  unfold dvn; rw [h]; dsimp only; rw [mapM_dvn]; rfl
theorem inB_lst {S : Sg} {j : Nat} {y : Av} {ds : List D} {a : D} (h : S[j]? = some (.lst (ds.map .d))) (h1 : dvn 4 S y = some a) : inB S y (.o j) = fIn a (.list ds) := by
  have h2 := dvn_lst h
  unfold inB; dsimp only; rw [h]; dsimp only; rw [h1, h2]
end Ly
/-! LyZA: more methods of lists. -/
namespace Ly
open PySem L2 Evl PyProof.Rows
section
variable {P : Program} {w wd : World} {K : Fg} {mg : Str → Option Value} {W : WX} {ρ : List Addr} {S S' : Sg} {F H : Hp} {σ : L2.St} {σa σa' : Sl}
theorem vrs_erase {vs : List V} {xs : List Av} (h : VRs K ρ F vs xs) : ∀ n : Nat, VRs K ρ F (vs.eraseIdx n) (xs.eraseIdx n) := by
  induction h with
  | nil => intro n; simp; exact .nil
  | cons a b ih =>
    intro n
    cases n with
    | zero => exact b
    | succ n => exact .cons a (ih n)
theorem vr_int {v : V} {i : Int} (h : VR K ρ F v (.d (.int i))) : v = .int i := by
  have h : Dp K F v (.int i) := h
  cases h; rfl
def fPopAt : List Av → List Av → Option (Av × List Av) := fun xs ys => match ys with
  | [.d (.int i)] => if -(2 ^ 63) ≤ i ∧ i < 2 ^ 63 then (match seqIndex? i xs.length with
    | some k => (xs[k]?).map fun x => (x, xs.eraseIdx k)
    | none => none) else none
  | _ => none
theorem ms_popAt : MtS P wd K mg rPopAt (mdL fPopAt) := ms_L fun ρ F H a vs xs us ys r ha hv hu fh e Q q => by
  unfold fPopAt at e
  split at e
  · rename_i i
    split at e
    · rename_i hi
      split at e
      · rename_i k ek
        obtain ⟨x, e1, rfl⟩ := Option.map_eq_some_iff.mp e
        obtain ⟨v, e2, hx⟩ := vrs_get hv e1
        cases hu with
        | cons hy hn =>
          cases hn
          rw [vr_int hy]
          exact ⟨a, vs, i, k, v, rfl, rfl, ha, hi.1, hi.2, by rw [hv.len]; exact ek, e2, q _ v (vrs_erase hv k) hx⟩
      · cases e
    · cases e
  · cases e
def rInsert : V → List V → Hp → VK → Prop := fun x vs H Q => ∃ (l : Addr) (xs : List V) (i : Int) (y : V), x = .ref l ∧ vs = [.int i, y] ∧ H l = some (.lst xs) ∧ xs.length < sizeLine ∧ 0 ≤ i ∧ i < 2 ^ 63 ∧
    Q .non (upd H l (.lst (xs.take i.toNat ++ [y] ++ xs.drop i.toNat)))
theorem mt_insertR {X : Cx} : MtR X "list.insert" rInsert := L2.mt_insert
def fInsert : List Av → List Av → Option (Av × List Av) := fun xs ys => match ys with
  | [.d (.int i), y] => if xs.length < 100000 ∧ 0 ≤ i ∧ i < 2 ^ 63 then some (.d .none, xs.take i.toNat ++ [y] ++ xs.drop i.toNat) else none
  | _ => none
theorem ms_insert : MtS P wd K mg rInsert (mdL fInsert) := ms_L fun ρ F H a vs xs us ys r ha hv hu fh e Q q => by
  unfold fInsert at e
  split at e
  · rename_i i y
    split at e
    · rename_i hl
      cases e
      cases hu with
      | cons hi hn =>
        cases hn with
        | cons hy hn =>
          cases hn
          rw [vr_int hi]
          exact ⟨a, vs, i, _, rfl, rfl, ha, sz_lt (by rw [hv.len]; exact hl.1), hl.2.1, hl.2.2, q _ .non (vrs_app (vrs_app (vrs_take hv _) (.cons hy .nil)) (vrs_drop hv _)) .non⟩
    · cases e
  · cases e
/-! entering any def -/
theorem def_ex {np n : Nat} {b : AS} {xs : List Av} {S : Sg} {Pr : Rs Av → Sg → Prop} (h : wS b (xs.map some ++ List.replicate (n - np) none) S (fun fl _ S' => match fl with | .rt x => Pr (.ok x) S' | .nx => Pr (.ok (.d .none)) S' | .ex e => Pr (.ex e) S' | _ => False)) (hl : xs.length = np := by rfl) : ∃ r S', aDef np n b xs S = some (r, S') ∧ Pr r S' := by
  obtain ⟨fl, σ', S', e, q⟩ := h
  unfold aDef
  rw [if_pos hl, e]
  cases fl with
  | rt x => exact ⟨_, _, rfl, q⟩
  | nx => exact ⟨_, _, rfl, q⟩
  | ex e => exact ⟨_, _, rfl, q⟩
  | bk => exact q.elim
  | ct => exact q.elim
/-! dicts by their keys -/
theorem valA_in {κ : Type} [DecidableEq κ] {k : κ} : ∀ {kvs : List (κ × Av)}, k ∈ kvs.map (·.1) → ∃ v, valA kvs k = some v ∧ (k, v) ∈ kvs
  | [], h => by simp at h
  | kv :: kvs, h => by
    by_cases e : kv.1 = k
    · refine ⟨kv.2, ?_, ?_⟩
      · unfold valA; rw [List.find?_cons]; simp [e]
      · rw [← e]; exact List.mem_cons_self ..
    · have h2 : k ∈ kvs.map (·.1) := by
        rw [List.map_cons, List.mem_cons] at h
        rcases h with h | h
        · exact absurd h.symm e
        · exact h
      obtain ⟨v, h3, h4⟩ := valA_in h2
      refine ⟨v, ?_, List.mem_cons_of_mem _ h4⟩
      unfold valA at h3 ⊢
      rw [List.find?_cons]
      simp only [e, decide_false]
      exact h3
theorem valA_no {κ : Type} [DecidableEq κ] {k : κ} {kvs : List (κ × Av)} (h : k ∉ kvs.map (·.1)) : valA kvs k = none := by
  unfold valA
  rw [List.find?_eq_none.mpr]
  · rfl
  · intro kv hm he
    exact h (List.mem_map.mpr ⟨kv, hm, of_decide_eq_true he⟩)
theorem putA_no {κ : Type} [DecidableEq κ] {k : κ} {kvs : List (κ × Av)} (v : Av) (h : k ∉ kvs.map (·.1)) : putA kvs k v = kvs ++ [(k, v)] := by
  unfold putA
  rw [if_neg]
  intro he
  obtain ⟨kv, hm, he⟩ := List.any_eq_true.mp he
  exact h (List.mem_map.mpr ⟨kv, hm, of_decide_eq_true he⟩)
theorem get_app {α : Type} {l m : List α} {i : Nat} {x : α} (h : l[i]? = some x) : (l ++ m)[i]? = some x := by
  have := (List.getElem?_eq_some_iff.mp h).1
  rw [List.getElem?_append_left this]
  exact h
theorem get_last {α : Type} (l : List α) (x : α) : (l ++ [x])[l.length]? = some x := by simp
theorem get_set_ne {α : Type} {l : List α} {i j : Nat} {x y : α} (h : l[i]? = some x) (ne : j ≠ i) : (l.set j y)[i]? = some x := by
  rw [List.getElem?_set_ne ne]
  exact h
theorem get_set_self {α : Type} {l : List α} {i : Nat} {x : α} (y : α) (h : l[i]? = some x) : (l.set i y)[i]? = some y := by
  have := (List.getElem?_eq_some_iff.mp h).1
  rw [List.getElem?_set_self this]
/-! a text in a tuple of texts -/
theorem mapM_strs : ∀ ws : List Str, (ws.map PyData.str).mapM scV = some (ws.map V.str)
  | [] => rfl
  | w :: ws => by
    rw [List.map_cons, List.mapM_cons, mapM_strs ws]
    rfl
theorem inV_strs (w : Str) : ∀ ws : List Str, inV (.str w) (ws.map V.str) = decide (w ∈ ws)
  | [] => rfl
  | z :: ws => by
    have ih := inV_strs w ws
    unfold inV at ih ⊢
    rw [List.map_cons, List.any_cons, ih]
    have e : eqV (.str z) (.str w) = decide (z = w) := rfl
    rw [e]
    by_cases h : z = w
    · subst h; simp
    · have h' : ¬ w = z := fun q => h q.symm
      simp [h, h']
theorem inT_strs {S : Sg} (w : Str) (ws : List Str) : inB S (.d (.str w)) (.d (.tuple (ws.map PyData.str))) = some (decide (w ∈ ws)) := by
  show inTup (.str w) (ws.map PyData.str) = _
  unfold inTup
  rw [mapM_strs]
  show (if flatV (.str w) = true ∧ (ws.map V.str).all flatV = true then some (inV (.str w) (ws.map V.str)) else none) = _
  rw [if_pos ⟨rfl, by rw [List.all_map, List.all_eq_true]; intro x _; rfl⟩, inV_strs]
end
end Ly

namespace My
open PySem L2 Evl Ly
/-! ### the mirrors' words, local -/
local macro_rules | `(tactic| wtm_at "tryx") => `(tactic| (intro q hq; simp only [List.mem_cons, List.not_mem_nil, or_false] at hq; rcases hq with rfl | rfl | rfl | rfl <;> (intro σ S e σ' S' h; simp [aRet, aD, stb, Ly.ret, aNext, aAsg, agName, aCont, aBreak] at h)))
local macro_rules | `(tactic| wtm_at "side") => `(tactic| first | assumption | omega | decide | exact rfl | trivial)
local macro_rules | `(tactic| wtm_at "fd") => `(tactic| first
  | assumption
  | ((with_reducible apply fMul_l); focus (omega; done)) | ((with_reducible apply fMul_r); focus (omega; done)) | ((with_reducible apply fDiv_s); focus (omega; done)) | ((with_reducible apply fMod_s); (wtm_at "side")) | ((with_reducible apply fShr_s); (wtm_at "side"))
  | with_reducible exact fBand_s | ((with_reducible apply fPow_s); focus (decide; done)) | ((with_reducible apply fAdd_str); (wtm_at "side")) | ((with_reducible apply fAdd_tup); (wtm_at "side")) | ((with_reducible apply fAdd_lst); (wtm_at "side"))
  | ((with_reducible apply fLen_str); (wtm_at "side")) | ((with_reducible apply fIx_str) <;> (wtm_at "side")) | ((with_reducible apply fSl_str); (wtm_at "side")) | ((with_reducible apply fIn_list) <;> (wtm_at "side"))
  | ((with_reducible apply fEq_gen) <;> (first | assumption | rfl))
  | exact rfl)
local macro_rules | `(tactic| wtm_at "fo") => `(tactic| first
  | assumption
  | ((with_reducible apply f_D); wtm_at "fd") | ((with_reducible apply f_U); wtm_at "fd") | ((with_reducible apply f_B); (first | assumption | exact rfl); (first | assumption | exact rfl); wtm_at "fd") | ((with_reducible apply f_Bn); (first | assumption | exact rfl); (first | assumption | exact rfl); wtm_at "fd")
  | ((with_reducible apply f_ixD); wtm_at "fd") | ((with_reducible apply f_ixL); exact rfl; (first | assumption | exact rfl))
  | ((with_reducible apply f_lenD); wtm_at "fd") | ((with_reducible apply f_lenC); exact rfl; exact rfl)
  | ((with_reducible apply f_cbD); exact rfl; wtm_at "fd") | ((with_reducible apply f_bmD); exact rfl; wtm_at "fd")
  | ((with_reducible apply f_inF); (first | assumption | exact rfl)) | ((with_reducible apply f_inT); (first | assumption | exact rfl))
  | ((with_reducible apply f_tup); (first | assumption | exact rfl)) | ((with_reducible apply f_lst); (first | assumption | exact rfl))
  | (apply f_mdL; exact rfl; (first | assumption | exact rfl))
  | exact rfl)
local macro_rules | `(tactic| wtm_at "ev") => `(tactic| first
  | assumption
  | ((with_reducible apply e_var); exact rfl)
  | with_reducible exact e_D
  | ((with_reducible apply e_op); wtm_at "ev"; wtm_at "ev"; wtm_at "fo")
  | ((with_reducible apply e_un); wtm_at "ev"; wtm_at "fo")
  | ((with_reducible apply e_callP); wtm_at "evs"; exact rfl; first | assumption | wtm_at "pf")
  | ((with_reducible apply e_callN); wtm_at "evs"; first | assumption | exact rfl; first | assumption | wtm_at "pf"; exact rfl)
  | ((with_reducible apply e_call); wtm_at "evs"; first | assumption | wtm_at "pf")
  | ((with_reducible apply e_cb); wtm_at "evs"; wtm_at "fo")
  | ((with_reducible apply e_bmL); wtm_at "ev"; (first | assumption | exact rfl); wtm_at "evs"; wtm_at "fo")
  | ((with_reducible apply e_bmS); wtm_at "ev"; exact rfl; wtm_at "evs"; wtm_at "fo")
  | ((with_reducible apply e_tup); wtm_at "evs"; exact rfl; focus (simp; done))
  | ((with_reducible apply e_lstF); wtm_at "evs"; exact rfl; focus (simp; done))
  | ((with_reducible apply e_lstC); wtm_at "evs"; focus (simp; done))
  | ((with_reducible apply e_isStr); wtm_at "ev") | ((with_reducible apply e_isInt); wtm_at "ev") | ((with_reducible apply e_isBol); wtm_at "ev") | ((with_reducible apply e_isTup); wtm_at "ev") | ((with_reducible apply e_isLst); wtm_at "ev")
  | ((with_reducible apply e_isi); wtm_at "ev"; (first | assumption | exact rfl); (first | assumption | decide +kernel))
  | ((with_reducible apply e_sl); wtm_at "ev"; wtm_at "evo"; wtm_at "evo"; wtm_at "fd")
  | ((with_reducible apply e_frz); wtm_at "ev"; (first | assumption | exact rfl))
  | ((with_reducible apply e_andV); wtm_at "ev"; intro _; wtm_at "ev") | ((with_reducible apply e_orV); wtm_at "ev"; intro _; wtm_at "ev") | ((with_reducible apply e_notV); wtm_at "ev")
  | ((with_reducible apply e_chain); wtm_at "ev"; wtm_at "ev"; wtm_at "fo"; (intro _; wtm_at "ev"); (intro _; wtm_at "fo"))
  | ((with_reducible apply e_if); wtm_at "evt"; (intro _; wtm_at "ev"); (intro _; wtm_at "ev")))
local macro_rules | `(tactic| wtm_at "evs") => `(tactic| first | with_reducible exact es_nil | ((with_reducible apply es_cons); wtm_at "ev"; wtm_at "evs"))
local macro_rules | `(tactic| wtm_at "evo") => `(tactic| first | with_reducible exact o_N | ((with_reducible apply o_S); wtm_at "ev"))
local macro_rules | `(tactic| wtm_at "evt") => `(tactic| first
  | assumption
  | ((with_reducible apply t_B); wtm_at "ev")
  | ((with_reducible apply t_and); wtm_at "evt"; intro _; wtm_at "evt") | ((with_reducible apply t_or); wtm_at "evt"; intro _; wtm_at "evt") | ((with_reducible apply t_not); wtm_at "evt"))
local macro_rules | `(tactic| wtm_at "evi") => `(tactic| first
  | assumption
  | ((with_reducible apply i_r1); wtm_at "evs"; (wtm_at "side")) | ((with_reducible apply i_r2); wtm_at "evs"; (wtm_at "side"))
  | (apply i_list; wtm_at "ev") | (apply i_tup; wtm_at "ev") | (apply i_str; wtm_at "ev"))

def top (i : Nat) : Stmt := PySem.Challenge.pw_layersplit_k15_rules_known.main.body.getD i (.Pass ⟨0, 0, 0, 0⟩)
abbrev s_is_whole : Stmt := top 2
abbrev N_is_whole : List Str := ["thing"]
theorem sc_is_whole : FnScope N_is_whole ["thing"] (defScope s_is_whole) := ⟨rfl, rfl, rfl, by decide +kernel, rfl, by decide +kernel, by decide +kernel⟩
abbrev s_made_of : Stmt := top 3
abbrev N_made_of : List Str := ["thing", "signs", "most", "sign"]
theorem sc_made_of : FnScope N_made_of ["thing", "signs", "most"] (defScope s_made_of) := ⟨rfl, rfl, rfl, by decide +kernel, rfl, by decide +kernel, by decide +kernel⟩
abbrev s_is_word : Stmt := top 4
abbrev N_is_word : List Str := ["thing"]
theorem sc_is_word : FnScope N_is_word ["thing"] (defScope s_is_word) := ⟨rfl, rfl, rfl, by decide +kernel, rfl, by decide +kernel, by decide +kernel⟩
abbrev s_is_near : Stmt := top 10
abbrev N_is_near : List Str := ["thing"]
theorem sc_is_near : FnScope N_is_near ["thing"] (defScope s_is_near) := ⟨rfl, rfl, rfl, by decide +kernel, rfl, by decide +kernel, by decide +kernel⟩
abbrev s_is_shaped : Stmt := top 11
abbrev N_is_shaped : List Str := ["thing", "deep", "word"]
theorem sc_is_shaped : FnScope N_is_shaped ["thing", "deep"] (defScope s_is_shaped) := ⟨rfl, rfl, rfl, by decide +kernel, rfl, by decide +kernel, by decide +kernel⟩
abbrev s_rules_in : Stmt := top 12
abbrev N_rules_in : List Str := ["rule"]
theorem sc_rules_in : FnScope N_rules_in ["rule"] (defScope s_rules_in) := ⟨rfl, rfl, rfl, by decide +kernel, rfl, by decide +kernel, by decide +kernel⟩
abbrev s_many_parts : Stmt := top 13
abbrev N_many_parts : List Str := ["rule", "inner"]
theorem sc_many_parts : FnScope N_many_parts ["rule"] (defScope s_many_parts) := ⟨rfl, rfl, rfl, by decide +kernel, rfl, by decide +kernel, by decide +kernel⟩
abbrev s_gather : Stmt := top 14
abbrev N_gather : List Str := ["rule", "numbers", "inner"]
theorem sc_gather : FnScope N_gather ["rule", "numbers"] (defScope s_gather) := ⟨rfl, rfl, rfl, by decide +kernel, rfl, by decide +kernel, by decide +kernel⟩
abbrev s_is_rule : Stmt := top 15
abbrev N_is_rule : List Str := ["thing", "numbers"]
theorem sc_is_rule : FnScope N_is_rule ["thing"] (defScope s_is_rule) := ⟨rfl, rfl, rfl, by decide +kernel, rfl, by decide +kernel, by decide +kernel⟩
abbrev s__law_cell_at : Stmt := top 17
abbrev N__law_cell_at : List Str := ["_law_script", "_law_k"]
theorem sc__law_cell_at : FnScope N__law_cell_at ["_law_script", "_law_k"] (defScope s__law_cell_at) := ⟨rfl, rfl, rfl, by decide +kernel, rfl, by decide +kernel, by decide +kernel⟩
abbrev s__law_mixed : Stmt := top 18
abbrev N__law_mixed : List Str := ["_law_script", "_law_k", "_law_salt", "_law_cell", "_law_lap", "_law_near"]
theorem sc__law_mixed : FnScope N__law_mixed ["_law_script", "_law_k", "_law_salt"] (defScope s__law_mixed) := ⟨rfl, rfl, rfl, by decide +kernel, rfl, by decide +kernel, by decide +kernel⟩
abbrev s__law_whole : Stmt := top 19
abbrev N__law_whole : List Str := ["_law_found"]
theorem sc__law_whole : FnScope N__law_whole ["_law_found"] (defScope s__law_whole) := ⟨rfl, rfl, rfl, by decide +kernel, rfl, by decide +kernel, by decide +kernel⟩
abbrev s__law_odd : Stmt := top 20
abbrev N__law_odd : List Str := ["_law_number", "_law_some"]
theorem sc__law_odd : FnScope N__law_odd ["_law_number"] (defScope s__law_odd) := ⟨rfl, rfl, rfl, by decide +kernel, rfl, by decide +kernel, by decide +kernel⟩
abbrev s__law_leaf : Stmt := top 21
abbrev N__law_leaf : List Str := ["_law_script", "_law_k", "_law_odd_here", "_law_words", "_law_number", "_law_word", "_law_cell", "_law_far"]
theorem sc__law_leaf : FnScope N__law_leaf ["_law_script", "_law_k", "_law_odd_here", "_law_words"] (defScope s__law_leaf) := ⟨rfl, rfl, rfl, by decide +kernel, rfl, by decide +kernel, by decide +kernel⟩
abbrev s__law_built : Stmt := top 22
abbrev N__law_built : List Str := ["_law_script", "_law_at", "_law_many", "_law_odd_here", "_law_words", "_law_pile", "_law_k", "_law_number", "_law_other", "_law_one"]
theorem sc__law_built : FnScope N__law_built ["_law_script", "_law_at", "_law_many", "_law_odd_here", "_law_words"] (defScope s__law_built) := ⟨rfl, rfl, rfl, by decide +kernel, rfl, by decide +kernel, by decide +kernel⟩
abbrev s__law_even : Stmt := top 23
abbrev N__law_even : List Str := ["_law_script", "_law_k", "_law_many", "_law_leaves", "_law_layer", "_law_j"]
theorem sc__law_even : FnScope N__law_even ["_law_script", "_law_k", "_law_many"] (defScope s__law_even) := ⟨rfl, rfl, rfl, by decide +kernel, rfl, by decide +kernel, by decide +kernel⟩
abbrev s__law_thing : Stmt := top 24
abbrev N__law_thing : List Str := ["_law_script", "_law_k", "_law_number", "_law_rule", "_law_j", "_law_many"]
theorem sc__law_thing : FnScope N__law_thing ["_law_script", "_law_k"] (defScope s__law_thing) := ⟨rfl, rfl, rfl, by decide +kernel, rfl, by decide +kernel, by decide +kernel⟩
abbrev s__law_word_good : Stmt := top 25
abbrev N__law_word_good : List Str := ["_law_word", "_law_sign"]
theorem sc__law_word_good : FnScope N__law_word_good ["_law_word"] (defScope s__law_word_good) := ⟨rfl, rfl, rfl, by decide +kernel, rfl, by decide +kernel, by decide +kernel⟩
abbrev s__law_seen : Stmt := top 26
abbrev N__law_seen : List Str := ["_law_rule", "_law_high", "_law_many", "_law_words", "_law_part", "_law_seen_here"]
theorem sc__law_seen : FnScope N__law_seen ["_law_rule"] (defScope s__law_seen) := ⟨rfl, rfl, rfl, by decide +kernel, rfl, by decide +kernel, by decide +kernel⟩
abbrev s_law : Stmt := top 27
abbrev N_law : List Str := ["_law_script", "_law_k", "_law_thing_here", "_law_seen_here", "_law_due", "_law_found"]
theorem sc_law : FnScope N_law ["_law_script"] (defScope s_law) := ⟨rfl, rfl, rfl, by decide +kernel, rfl, by decide +kernel, by decide +kernel⟩
structure G (K : Fg) (mg : Str → Option Value) : Prop where
  b_all : mg "all" = none
  b_bool : mg "bool" = none
  b_int : mg "int" = none
  b_isinstance : mg "isinstance" = none
  b_len : mg "len" = none
  b_list : mg "list" = none
  b_max : mg "max" = none
  b_min : mg "min" = none
  b_range : mg "range" = none
  b_set : mg "set" = none
  b_str : mg "str" = none
  b_sum : mg "sum" = none
  b_tuple : mg "tuple" = none
  c_DEEPEST : ∃ t, mg "DEEPEST" = some (.int 6 t)
  c_FAR : ∃ t, mg "FAR" = some (.int 1000000000000000000000000000000 t)
  c_LETTERS : ∃ t, mg "LETTERS" = some (.str "abcdefghijklmnopqrstuvwxyz" t)
  c_MOST_PARTS : ∃ t, mg "MOST_PARTS" = some (.int 30 t)
  c_MOST_WORDS : ∃ t, mg "MOST_WORDS" = some (.int 3 t)
  f_is_whole : Df K mg "is_whole" s_is_whole ["thing"]
  f_made_of : Df K mg "made_of" s_made_of ["thing", "signs", "most"]
  f_is_word : Df K mg "is_word" s_is_word ["thing"]
  f_is_near : Df K mg "is_near" s_is_near ["thing"]
  f_is_shaped : Df K mg "is_shaped" s_is_shaped ["thing", "deep"]
  f_rules_in : Df K mg "rules_in" s_rules_in ["rule"]
  f_many_parts : Df K mg "many_parts" s_many_parts ["rule"]
  f_gather : Df K mg "gather" s_gather ["rule", "numbers"]
  f_is_rule : Df K mg "is_rule" s_is_rule ["thing"]
  f__law_cell_at : Df K mg "_law_cell_at" s__law_cell_at ["_law_script", "_law_k"]
  f__law_mixed : Df K mg "_law_mixed" s__law_mixed ["_law_script", "_law_k", "_law_salt"]
  f__law_whole : Df K mg "_law_whole" s__law_whole ["_law_found"]
  f__law_odd : Df K mg "_law_odd" s__law_odd ["_law_number"]
  f__law_leaf : Df K mg "_law_leaf" s__law_leaf ["_law_script", "_law_k", "_law_odd_here", "_law_words"]
  f__law_built : Df K mg "_law_built" s__law_built ["_law_script", "_law_at", "_law_many", "_law_odd_here", "_law_words"]
  f__law_even : Df K mg "_law_even" s__law_even ["_law_script", "_law_k", "_law_many"]
  f__law_thing : Df K mg "_law_thing" s__law_thing ["_law_script", "_law_k"]
  f__law_word_good : Df K mg "_law_word_good" s__law_word_good ["_law_word"]
  f__law_seen : Df K mg "_law_seen" s__law_seen ["_law_rule"]
  f_law : Df K mg "law" s_law ["_law_script"]
section
variable {P : Program} {w : World} {K : Fg} {mg : Str → Option Value} {base : Heap}
noncomputable def B_is_whole : AS := (aRet (aAndV (aIsi "int" (aVar 0)) (aNotV (aIsi "bool" (aVar 0)))))
noncomputable def A_is_whole : AF := aDef 1 1 B_is_whole
theorem ok_is_whole (g : G K mg) : DkA P w K mg base 1 "is_whole" ["thing"] A_is_whole := g.f_is_whole.dkA sc_is_whole fun f cdv A outer s H E hr => ⟨_, (pss_one (ps_ret (pe_and (bi (jIsi (K := K)) g.b_isinstance (pa_cons (pv 0) (pa_cons (bty (n := "int") g.b_int) pa_nil))) (pe_one (pe_not (bi (jIsi (K := K)) g.b_isinstance (pa_cons (pv 0) (pa_cons (bty (n := "bool") g.b_bool) pa_nil)))))))),
    (ss_ret (sm_and (sm_isi sm_var) (sm_not (sm_isi sm_var))))⟩
noncomputable def B_made_of : AS := (aSeq (aIfS (aOr (aNot (aB (aIsi "str" (aVar 0)))) (aNot (aB (aChain (opD fLe) (opD fLe) (aD (.int 1)) (aCB cbLen (aCons (aVar 0) aNil)) (aVar 2))))) (aRet (aD (.bool false))) aNext)
    (aRet (aCB (cbD fAll) (aCons (aLc lcF (aiAny (aVar 0)) (agName 3) aYes (aOp (opIn false) (aVar 3) (aVar 1)) [3]) aNil))))
noncomputable def A_made_of : AF := aDef 3 4 B_made_of
theorem ok_made_of (g : G K mg) : DkA P w K mg base 1 "made_of" ["thing", "signs", "most"] A_made_of := g.f_made_of.dkA sc_made_of fun f cdv A outer s H E hr => ⟨_, (pss_cons (ps_if (PW.pt (pw_or (pt_not (pt_val (bi (jIsi (K := K)) g.b_isinstance (pa_cons (pv 0) (pa_cons (bty (n := "str") g.b_str) pa_nil))))) (pw_or1 (pt_not (pt_chain (kLe (room0 hr) (K := K)) (kLe (room0 hr) (K := K)) pe_int (bi (kLenM (K := K)) g.b_len (pa_cons (pv 0) pa_nil)) (pv 2))))))
    (pss_one (ps_ret pe_bl))
    pss_nil)
    (pss_one (ps_ret (bi (jAll rfl (K := K)) g.b_all (pa_cons (pe_lc (own := [("sign", 3)]) (g := gName 3) rfl sc_made_of.nd (pi_any (K := K) (pv 0)) (blkOk_by (own := [("sign", 3)]) (N := N_made_of) (sc := defScope s_made_of) (by decide +kernel)) (fun _ _ _ _ _ => (pg_name (i := 3) sc_made_of.nd rfl (Or.inl rfl))) (fun _ _ _ _ _ => pts_nil) (fun _ _ _ _ _ => (pe_cmpR (kInM (P := P) (w := w) (K := K) (room65 hr)) (pv 3) (pv 1) (by rfl)))) pa_nil))))),
    (ss_seq (ss_if (st_or (st_not (st_B (sm_isi sm_var))) (st_not (st_test (sm_chain (os_D fLe_ok) (os_D fLe_ok) sm_int (sm_cb cs_Len (sa_cons sm_var sa_nil)) sm_var)))) (ss_ret sm_bl) ss_next)
    (ss_ret (sm_cb (cs_D fAll_ok) (sa_cons (sm_lc mk_F (si_any sm_var) sg_name (gw_name (gw1 3)) st_yes (sm_op os_In sm_var sm_var)) sa_nil))))⟩
noncomputable def B_is_word : AS := (aRet (aCallP A_made_of (aCons (aVar 0) (aCons (aD (.str "abcdefghijklmnopqrstuvwxyz")) (aCons (aD (.int 12)) aNil)))))
noncomputable def A_is_word : AF := aDef 1 1 B_is_word
theorem ok_is_word (g : G K mg) : DkA P w K mg base 2 "is_word" ["thing"] A_is_word := g.f_is_word.dkA sc_is_word fun f cdv A outer s H E hr => ⟨_, (pss_one (ps_ret (clA (ok_made_of g) hr (takes_of rfl rfl rfl rfl) (pa_cons (pv 0) (pa_cons (gstr g.c_LETTERS) (pa_cons pe_int pa_nil)))))),
    (ss_ret (sm_callP (sa_cons sm_var (sa_cons sm_str (sa_cons sm_int sa_nil)))))⟩
noncomputable def B_is_near : AS := (aRet (aAndV (aCallP A_is_whole (aCons (aVar 0) aNil)) (aChain (opD fLe) (opD fLe) (aUn (unD fNeg) (aD (.int 1000000000000000000000000000000))) (aVar 0) (aD (.int 1000000000000000000000000000000)))))
noncomputable def A_is_near : AF := aDef 1 1 B_is_near
theorem ok_is_near (g : G K mg) : DkA P w K mg base 2 "is_near" ["thing"] A_is_near := g.f_is_near.dkA sc_is_near fun f cdv A outer s H E hr => ⟨_, (pss_one (ps_ret (pe_and (clA (ok_is_whole g) hr (takes_of rfl rfl rfl rfl) (pa_cons (pv 0) pa_nil)) (pe_one (pe_chain (kLe (room0 hr) (K := K)) (kLe (room0 hr) (K := K)) (pe_un (kNeg (K := K)) (gint g.c_FAR)) (pv 0) (gint g.c_FAR)))))),
    (ss_ret (sm_and (sm_callP (sa_cons sm_var sa_nil)) (sm_chain (os_D fLe_ok) (os_D fLe_ok) (sm_un (us_D fNeg_ok) sm_int) sm_var sm_int)))⟩
noncomputable def B_is_shaped (A : Nat → AF) (n : Nat) : AS := (aSeq (aIfS (aOr (aB (aOp (opB fEq) (aVar 1) (aD (.int 0)))) (aOr (aNot (aB (aIsi "tuple" (aVar 0)))) (aB (aOp (opB fEq) (aCB cbLen (aCons (aVar 0) aNil)) (aD (.int 0)))))) (aRet (aD (.bool false))) aNext)
    (aSeq (aAsg (aOp opIx (aVar 0) (aD (.int 0))) (agName 2))
    (aSeq (aIfS (aB (aOp (opB fEq) (aVar 2) (aD (.str "any")))) (aRet (aOp (opB fEq) (aCB cbLen (aCons (aVar 0) aNil)) (aD (.int 1)))) aNext)
    (aSeq (aIfS (aB (aOp (opB fEq) (aVar 2) (aD (.str "has")))) (aRet (aAndV (aOp (opB fEq) (aCB cbLen (aCons (aVar 0) aNil)) (aD (.int 2))) (aCallP A_is_word (aCons (aOp opIx (aVar 0) (aD (.int 1))) aNil)))) aNext)
    (aSeq (aIfS (aB (aOp (opB fEq) (aVar 2) (aD (.str "least")))) (aRet (aAndV (aOp (opB fEq) (aCB cbLen (aCons (aVar 0) aNil)) (aD (.int 3))) (aAndV (aCallP A_is_word (aCons (aOp opIx (aVar 0) (aD (.int 1))) aNil)) (aCallP A_is_near (aCons (aOp opIx (aVar 0) (aD (.int 2))) aNil))))) aNext)
    (aSeq (aIfS (aB (aOp (opB fEq) (aVar 2) (aD (.str "not")))) (aRet (aAndV (aOp (opB fEq) (aCB cbLen (aCons (aVar 0) aNil)) (aD (.int 2))) (aCallP (A n) (aCons (aOp opIx (aVar 0) (aD (.int 1))) (aCons (aOp (opD fSub) (aVar 1) (aD (.int 1))) aNil))))) aNext)
    (aSeq (aIfS (aOr (aB (aOp (opB fEq) (aVar 2) (aD (.str "both")))) (aB (aOp (opB fEq) (aVar 2) (aD (.str "either"))))) (aRet (aAndV (aOp (opB fEq) (aCB cbLen (aCons (aVar 0) aNil)) (aD (.int 3))) (aAndV (aCallP (A n) (aCons (aOp opIx (aVar 0) (aD (.int 1))) (aCons (aOp (opD fSub) (aVar 1) (aD (.int 1))) aNil))) (aCallP (A n) (aCons (aOp opIx (aVar 0) (aD (.int 2))) (aCons (aOp (opD fSub) (aVar 1) (aD (.int 1))) aNil)))))) aNext)
    (aRet (aD (.bool false))))))))))
noncomputable def A_is_shaped : Nat → AF
  | 0 => fun _ => stuck
  | n + 1 => aDef 2 3 (B_is_shaped (fun _ => A_is_shaped n) n)
theorem A_is_shaped_succ (n : Nat) : A_is_shaped (n + 1) = aDef 2 3 (B_is_shaped (fun _ => A_is_shaped n) n) := rfl
theorem ok_is_shaped (g : G K mg) : ∀ n, DkA P w K mg base (2 + n) "is_shaped" ["thing", "deep"] (A_is_shaped n)
  | 0 => g.f_is_shaped.dkA0
  | n + 1 => by
    have ih := ok_is_shaped g n
    rw [A_is_shaped_succ]
    unfold B_is_shaped
    refine (show DkA P w K mg base (2 + n + 1) "is_shaped" ["thing", "deep"] _ from ?_)
    exact g.f_is_shaped.dkA sc_is_shaped fun f cdv A outer s H E hr => ⟨_, (pss_cons (ps_if (PW.pt (pw_or (pt_cmpR (kEq (room64 hr) (K := K)) (pv 1) pe_int (nomark _)) (pw_or (pt_not (pt_val (bi (jIsi (K := K)) g.b_isinstance (pa_cons (pv 0) (pa_cons (bty (n := "tuple") g.b_tuple) pa_nil))))) (pw_or1 (pt_cmpR (kEq (room64 hr) (K := K)) (bi (kLenM (K := K)) g.b_len (pa_cons (pv 0) pa_nil)) pe_int (nomark _))))))
    (pss_one (ps_ret pe_bl))
    pss_nil)
    (pss_cons (ps_set (i := 2) sc_is_shaped.nd rfl (Or.inl rfl) (pe_ix (kIxM (P := P) (w := w) (K := K) (hu_of hr)) (pv 0) pe_int (fun _ _ => rfl)))
    (pss_cons (ps_if (pt_cmpR (kEq (room64 hr) (K := K)) (pv 2) pe_str (nomark _))
    (pss_one (ps_ret (pe_cmpR (kEq (room64 hr) (K := K)) (bi (kLenM (K := K)) g.b_len (pa_cons (pv 0) pa_nil)) pe_int (nomark _))))
    pss_nil)
    (pss_cons (ps_if (pt_cmpR (kEq (room64 hr) (K := K)) (pv 2) pe_str (nomark _))
    (pss_one (ps_ret (pe_and (pe_cmpR (kEq (room64 hr) (K := K)) (bi (kLenM (K := K)) g.b_len (pa_cons (pv 0) pa_nil)) pe_int (nomark _)) (pe_one (clA (ok_is_word g) hr (takes_of rfl rfl rfl rfl) (pa_cons (pe_ix (kIxM (P := P) (w := w) (K := K) (hu_of hr)) (pv 0) pe_int (fun _ _ => rfl)) pa_nil))))))
    pss_nil)
    (pss_cons (ps_if (pt_cmpR (kEq (room64 hr) (K := K)) (pv 2) pe_str (nomark _))
    (pss_one (ps_ret (pe_and (pe_cmpR (kEq (room64 hr) (K := K)) (bi (kLenM (K := K)) g.b_len (pa_cons (pv 0) pa_nil)) pe_int (nomark _)) (pe_and (clA (ok_is_word g) hr (takes_of rfl rfl rfl rfl) (pa_cons (pe_ix (kIxM (P := P) (w := w) (K := K) (hu_of hr)) (pv 0) pe_int (fun _ _ => rfl)) pa_nil)) (pe_one (clA (ok_is_near g) hr (takes_of rfl rfl rfl rfl) (pa_cons (pe_ix (kIxM (P := P) (w := w) (K := K) (hu_of hr)) (pv 0) pe_int (fun _ _ => rfl)) pa_nil)))))))
    pss_nil)
    (pss_cons (ps_if (pt_cmpR (kEq (room64 hr) (K := K)) (pv 2) pe_str (nomark _))
    (pss_one (ps_ret (pe_and (pe_cmpR (kEq (room64 hr) (K := K)) (bi (kLenM (K := K)) g.b_len (pa_cons (pv 0) pa_nil)) pe_int (nomark _)) (pe_one (clA ih hr (takes_of rfl rfl rfl rfl) (pa_cons (pe_ix (kIxM (P := P) (w := w) (K := K) (hu_of hr)) (pv 0) pe_int (fun _ _ => rfl)) (pa_cons (pe_op (kSub (K := K)) (pv 1) pe_int) pa_nil)))))))
    pss_nil)
    (pss_cons (ps_if (PW.pt (pw_or (pt_cmpR (kEq (room64 hr) (K := K)) (pv 2) pe_str (nomark _)) (pw_or1 (pt_cmpR (kEq (room64 hr) (K := K)) (pv 2) pe_str (nomark _)))))
    (pss_one (ps_ret (pe_and (pe_cmpR (kEq (room64 hr) (K := K)) (bi (kLenM (K := K)) g.b_len (pa_cons (pv 0) pa_nil)) pe_int (nomark _)) (pe_and (clA ih hr (takes_of rfl rfl rfl rfl) (pa_cons (pe_ix (kIxM (P := P) (w := w) (K := K) (hu_of hr)) (pv 0) pe_int (fun _ _ => rfl)) (pa_cons (pe_op (kSub (K := K)) (pv 1) pe_int) pa_nil))) (pe_one (clA ih hr (takes_of rfl rfl rfl rfl) (pa_cons (pe_ix (kIxM (P := P) (w := w) (K := K) (hu_of hr)) (pv 0) pe_int (fun _ _ => rfl)) (pa_cons (pe_op (kSub (K := K)) (pv 1) pe_int) pa_nil))))))))
    pss_nil)
    (pss_one (ps_ret pe_bl))))))))),
    (ss_seq (ss_if (st_or (st_test (sm_op (os_B fEq_ok) sm_var sm_int)) (st_or (st_not (st_B (sm_isi sm_var))) (st_test (sm_op (os_B fEq_ok) (sm_cb cs_Len (sa_cons sm_var sa_nil)) sm_int)))) (ss_ret sm_bl) ss_next)
    (ss_seq (ss_asg (sm_op os_Ix sm_var sm_int) sg_name)
    (ss_seq (ss_if (st_test (sm_op (os_B fEq_ok) sm_var sm_str)) (ss_ret (sm_op (os_B fEq_ok) (sm_cb cs_Len (sa_cons sm_var sa_nil)) sm_int)) ss_next)
    (ss_seq (ss_if (st_test (sm_op (os_B fEq_ok) sm_var sm_str)) (ss_ret (sm_and (sm_op (os_B fEq_ok) (sm_cb cs_Len (sa_cons sm_var sa_nil)) sm_int) (sm_callP (sa_cons (sm_op os_Ix sm_var sm_int) sa_nil)))) ss_next)
    (ss_seq (ss_if (st_test (sm_op (os_B fEq_ok) sm_var sm_str)) (ss_ret (sm_and (sm_op (os_B fEq_ok) (sm_cb cs_Len (sa_cons sm_var sa_nil)) sm_int) (sm_and (sm_callP (sa_cons (sm_op os_Ix sm_var sm_int) sa_nil)) (sm_callP (sa_cons (sm_op os_Ix sm_var sm_int) sa_nil))))) ss_next)
    (ss_seq (ss_if (st_test (sm_op (os_B fEq_ok) sm_var sm_str)) (ss_ret (sm_and (sm_op (os_B fEq_ok) (sm_cb cs_Len (sa_cons sm_var sa_nil)) sm_int) (sm_callP (sa_cons (sm_op os_Ix sm_var sm_int) (sa_cons (sm_op (os_D fSub_ok) sm_var sm_int) sa_nil))))) ss_next)
    (ss_seq (ss_if (st_or (st_test (sm_op (os_B fEq_ok) sm_var sm_str)) (st_test (sm_op (os_B fEq_ok) sm_var sm_str))) (ss_ret (sm_and (sm_op (os_B fEq_ok) (sm_cb cs_Len (sa_cons sm_var sa_nil)) sm_int) (sm_and (sm_callP (sa_cons (sm_op os_Ix sm_var sm_int) (sa_cons (sm_op (os_D fSub_ok) sm_var sm_int) sa_nil))) (sm_callP (sa_cons (sm_op os_Ix sm_var sm_int) (sa_cons (sm_op (os_D fSub_ok) sm_var sm_int) sa_nil)))))) ss_next)
    (ss_ret sm_bl))))))))⟩
noncomputable def B_rules_in : AS := (aSeq (aIfS (aB (aOp (opIn false) (aOp opIx (aVar 0) (aD (.int 0))) (aTup (aCons (aD (.str "any")) (aCons (aD (.str "has")) (aCons (aD (.str "least")) aNil)))))) (aRet (aLstF aNil)) aNext)
    (aRet (aCB cbLstF (aCons (aSl (aVar 0) (aoS (aD (.int 1))) aoN) aNil))))
noncomputable def A_rules_in : AF := aDef 1 1 B_rules_in
theorem ok_rules_in (g : G K mg) : DkA P w K mg base 1 "rules_in" ["rule"] A_rules_in := g.f_rules_in.dkA sc_rules_in fun f cdv A outer s H E hr => ⟨_, (pss_cons (ps_if (pt_cmpR (kInM (P := P) (w := w) (K := K) (room65 hr)) (pe_ix (kIxM (P := P) (w := w) (K := K) (hu_of hr)) (pv 0) pe_int (fun _ _ => rfl)) (pe_tup (pa_cons pe_str (pa_cons pe_str (pa_cons pe_str pa_nil)))) (by rfl))
    (pss_one (ps_ret (pe_lst pa_nil)))
    pss_nil)
    (pss_one (ps_ret (bt (kLstL (K := K)) g.b_list (pa_cons (pe_slice (kSl (K := K)) (pv 0) (po_some pe_int) po_none) pa_nil))))),
    (ss_seq (ss_if (st_test (sm_op os_In (sm_op os_Ix sm_var sm_int) (sm_tup (sa_cons sm_str (sa_cons sm_str (sa_cons sm_str sa_nil)))))) (ss_ret (sm_lstF sa_nil)) ss_next)
    (ss_ret (sm_cb cs_LstF (sa_cons (sm_sl sm_var (so_some sm_int) so_none) sa_nil))))⟩
noncomputable def B_many_parts (A : Nat → AF) (n : Nat) : AS := (aRet (aOp (opD fAdd) (aD (.int 1)) (aCB (cbD fSum) (aCons (aLc lcF (aiAny (aCallP A_rules_in (aCons (aVar 0) aNil))) (agName 1) aYes (aCallP (A n) (aCons (aVar 1) aNil)) [1]) aNil))))
noncomputable def A_many_parts : Nat → AF
  | 0 => fun _ => stuck
  | n + 1 => aDef 1 2 (B_many_parts (fun _ => A_many_parts n) n)
theorem A_many_parts_succ (n : Nat) : A_many_parts (n + 1) = aDef 1 2 (B_many_parts (fun _ => A_many_parts n) n) := rfl
theorem ok_many_parts (g : G K mg) : ∀ n, DkA P w K mg base (1 + n) "many_parts" ["rule"] (A_many_parts n)
  | 0 => g.f_many_parts.dkA0
  | n + 1 => by
    have ih := ok_many_parts g n
    rw [A_many_parts_succ]
    unfold B_many_parts
    refine (show DkA P w K mg base (1 + n + 1) "many_parts" ["rule"] _ from ?_)
    exact g.f_many_parts.dkA sc_many_parts fun f cdv A outer s H E hr => ⟨_, (pss_one (ps_ret (pe_op (kAdd (K := K)) pe_int (bi (jSumT rfl (K := K)) g.b_sum (pa_cons (pe_lc (own := [("inner", 1)]) (g := gName 1) rfl sc_many_parts.nd (pi_any (K := K) (clA (ok_rules_in g) hr (takes_of rfl rfl rfl rfl) (pa_cons (pv 0) pa_nil))) (blkOk_by (own := [("inner", 1)]) (N := N_many_parts) (sc := defScope s_many_parts) (by decide +kernel)) (fun _ _ _ _ _ => (pg_name (i := 1) sc_many_parts.nd rfl (Or.inl rfl))) (fun _ _ _ _ _ => pts_nil) (fun _ _ _ _ _ => (clA ih hr takes0 (pa_cons (pv 1) pa_nil)))) pa_nil))))),
    (ss_ret (sm_op (os_D fAdd_ok) sm_int (sm_cb (cs_D fSum_ok) (sa_cons (sm_lc mk_F (si_any (sm_callP (sa_cons sm_var sa_nil))) sg_name (gw_name (gw1 1)) st_yes (sm_callP (sa_cons sm_var sa_nil))) sa_nil))))⟩
noncomputable def B_gather (A : Nat → AF) (n : Nat) : AS := (aSeq (aIfS (aB (aOp (opB fEq) (aOp opIx (aVar 0) (aD (.int 0))) (aD (.str "has")))) (aDrop (aBMX bSetd (aVar 1) (aCons (aOp opIx (aVar 0) (aD (.int 1))) (aCons (aLstC aNil) aNil)))) aNext)
    (aSeq (aIfS (aB (aOp (opB fEq) (aOp opIx (aVar 0) (aD (.int 0))) (aD (.str "least")))) (aDrop (aBML (mdL fAppend) (aBMX bSetd (aVar 1) (aCons (aOp opIx (aVar 0) (aD (.int 1))) (aCons (aLstC aNil) aNil))) (aCons (aOp opIx (aVar 0) (aD (.int 2))) aNil))) aNext)
    (aFor (aiAny (aCallP A_rules_in (aCons (aVar 0) aNil))) (agName 2) (aDrop (aCall (A n) (aCons (aVar 2) (aCons (aVar 1) aNil)))))))
noncomputable def A_gather : Nat → AF
  | 0 => fun _ => stuck
  | n + 1 => aDef 2 3 (B_gather (fun _ => A_gather n) n)
theorem A_gather_succ (n : Nat) : A_gather (n + 1) = aDef 2 3 (B_gather (fun _ => A_gather n) n) := rfl
theorem ok_gather (g : G K mg) : ∀ n, DkA P w K mg base (1 + n) "gather" ["rule", "numbers"] (A_gather n)
  | 0 => g.f_gather.dkA0
  | n + 1 => by
    have ih := ok_gather g n
    rw [A_gather_succ]
    unfold B_gather
    refine (show DkA P w K mg base (1 + n + 1) "gather" ["rule", "numbers"] _ from ?_)
    exact g.f_gather.dkA sc_gather fun f cdv A outer s H E hr => ⟨_, (pss_cons (ps_if (pt_cmpR (kEq (room64 hr) (K := K)) (pe_ix (kIxM (P := P) (w := w) (K := K) (hu_of hr)) (pv 0) pe_int (fun _ _ => rfl)) pe_str (nomark _))
    (pss_one (ps_expr (pe_bmX (P := P) (w := w) (K := K) PySem.F.slot_dict_setdefault PySem.F.type_dict_setdefault (mtx_setd (hu_of hr)) (pv 1) (pa_cons (pe_ix (kIxM (P := P) (w := w) (K := K) (hu_of hr)) (pv 0) pe_int (fun _ _ => rfl)) (pa_cons (pe_lst pa_nil) pa_nil)))))
    pss_nil)
    (pss_cons (ps_if (pt_cmpR (kEq (room64 hr) (K := K)) (pe_ix (kIxM (P := P) (w := w) (K := K) (hu_of hr)) (pv 0) pe_int (fun _ _ => rfl)) pe_str (nomark _))
    (pss_one (ps_expr (bm (K := K) PySem.F.plainAttrs_list PySem.F.slot_list_append PySem.F.type_list_append mt_append (pe_bmX (P := P) (w := w) (K := K) PySem.F.slot_dict_setdefault PySem.F.type_dict_setdefault (mtx_setd (hu_of hr)) (pv 1) (pa_cons (pe_ix (kIxM (P := P) (w := w) (K := K) (hu_of hr)) (pv 0) pe_int (fun _ _ => rfl)) (pa_cons (pe_lst pa_nil) pa_nil))) (pa_cons (pe_ix (kIxM (P := P) (w := w) (K := K) (hu_of hr)) (pv 0) pe_int (fun _ _ => rfl)) pa_nil))))
    pss_nil)
    (pss_one (ps_for (passes_of rfl) rfl (pi_any (K := K) (clA (ok_rules_in g) hr (takes_of rfl rfl rfl rfl) (pa_cons (pv 0) pa_nil))) (pg_name (i := 2) sc_gather.nd rfl (Or.inl rfl))
    (pss_one (ps_expr (clA ih hr (takes_of rfl rfl rfl rfl) (pa_cons (pv 2) (pa_cons (pv 1) pa_nil))))))))),
    (ss_seq (ss_if (st_test (sm_op (os_B fEq_ok) (sm_op os_Ix sm_var sm_int) sm_str)) (ss_drop (sm_bmX ms_setd sm_var (sa_cons (sm_op os_Ix sm_var sm_int) (sa_cons (sm_lstC sa_nil) sa_nil)))) ss_next)
    (ss_seq (ss_if (st_test (sm_op (os_B fEq_ok) (sm_op os_Ix sm_var sm_int) sm_str)) (ss_drop (sm_bmL ms_append (sm_bmX ms_setd sm_var (sa_cons (sm_op os_Ix sm_var sm_int) (sa_cons (sm_lstC sa_nil) sa_nil))) (sa_cons (sm_op os_Ix sm_var sm_int) sa_nil))) ss_next)
    (ss_for (si_any (sm_callP (sa_cons sm_var sa_nil))) sg_name (ss_drop (sm_call (sa_cons sm_var (sa_cons sm_var sa_nil)))))))⟩
noncomputable def B_is_rule : AS := (aSeq (aIfS (aOr (aNot (aB (aCallP (A_is_shaped 7) (aCons (aVar 0) (aCons (aD (.int 6)) aNil))))) (aB (aOp (opD fGt) (aCallP (A_many_parts 6) (aCons (aVar 0) aNil)) (aD (.int 30))))) (aRet (aD (.bool false))) aNext)
    (aSeq (aAsg aDNewK (agName 1))
    (aSeq (aDrop (aCall (A_gather 6) (aCons (aVar 0) (aCons (aVar 1) aNil))))
    (aRet (aOp (opD fLe) (aCB cbLen (aCons (aVar 1) aNil)) (aD (.int 3)))))))
noncomputable def A_is_rule : AF := aDef 1 2 B_is_rule
theorem ok_is_rule (g : G K mg) : DkA P w K mg base 10 "is_rule" ["thing"] A_is_rule := g.f_is_rule.dkA sc_is_rule fun f cdv A outer s H E hr => ⟨_, (pss_cons (ps_if (PW.pt (pw_or (pt_not (pt_val (clA (ok_is_shaped g 7) hr (takes_of rfl rfl rfl rfl) (pa_cons (pv 0) (pa_cons (gint g.c_DEEPEST) pa_nil))))) (pw_or1 (pt_cmpR (kGt (K := K)) (clA (ok_many_parts g 6) hr (takes_of rfl rfl rfl rfl) (pa_cons (pv 0) pa_nil)) (gint g.c_MOST_PARTS) (nomark _)))))
    (pss_one (ps_ret pe_bl))
    pss_nil)
    (pss_cons (ps_set (i := 1) sc_is_rule.nd rfl (Or.inl rfl) pe_dnewK)
    (pss_cons (ps_expr (clA (ok_gather g 6) hr (takes_of rfl rfl rfl rfl) (pa_cons (pv 0) (pa_cons (pv 1) pa_nil))))
    (pss_one (ps_ret (pe_cmpR (kLe (room0 hr) (K := K)) (bi (kLenM (K := K)) g.b_len (pa_cons (pv 1) pa_nil)) (gint g.c_MOST_WORDS) (nomark _))))))),
    (ss_seq (ss_if (st_or (st_not (st_B (sm_callP (sa_cons sm_var (sa_cons sm_int sa_nil))))) (st_test (sm_op (os_D fGt_ok) (sm_callP (sa_cons sm_var sa_nil)) sm_int))) (ss_ret sm_bl) ss_next)
    (ss_seq (ss_asg sm_dnewK sg_name)
    (ss_seq (ss_drop (sm_call (sa_cons sm_var (sa_cons sm_var sa_nil))))
    (ss_ret (sm_op (os_D fLe_ok) (sm_cb cs_Len (sa_cons sm_var sa_nil)) sm_int)))))⟩
noncomputable def B__law_cell_at : AS := (aSeq (aIfS (aB (aOp (opB fEq) (aCB cbLen (aCons (aVar 0) aNil)) (aD (.int 0)))) (aRet (aD (.int 0))) aNext)
    (aRet (aOp opIx (aVar 0) (aOp (opD fMod) (aVar 1) (aCB cbLen (aCons (aVar 0) aNil))))))
noncomputable def A__law_cell_at : AF := aDef 2 2 B__law_cell_at
theorem ok__law_cell_at (g : G K mg) : DkA P w K mg base 1 "_law_cell_at" ["_law_script", "_law_k"] A__law_cell_at := g.f__law_cell_at.dkA sc__law_cell_at fun f cdv A outer s H E hr => ⟨_, (pss_cons (ps_if (pt_cmpR (kEq (room64 hr) (K := K)) (bi (kLenM (K := K)) g.b_len (pa_cons (pv 0) pa_nil)) pe_int (nomark _))
    (pss_one (ps_ret pe_int))
    pss_nil)
    (pss_one (ps_ret (pe_ix (kIxM (P := P) (w := w) (K := K) (hu_of hr)) (pv 0) (pe_op (kMod (K := K)) (pv 1) (bi (kLenM (K := K)) g.b_len (pa_cons (pv 0) pa_nil))) (fun _ _ => rfl))))),
    (ss_seq (ss_if (st_test (sm_op (os_B fEq_ok) (sm_cb cs_Len (sa_cons sm_var sa_nil)) sm_int)) (ss_ret sm_int) ss_next)
    (ss_ret (sm_op os_Ix sm_var (sm_op (os_D fMod_ok) sm_var (sm_cb cs_Len (sa_cons sm_var sa_nil))))))⟩
noncomputable def B__law_mixed : AS := (aSeq (aAsg (aCallP A__law_cell_at (aCons (aVar 0) (aCons (aVar 1) aNil))) (agName 3))
    (aSeq (aAsg (aOp (opD fDiv) (aVar 1) (aCB (cbD fMax) (aCons (aD (.int 1)) (aCons (aCB cbLen (aCons (aVar 0) aNil)) aNil)))) (agName 4))
    (aSeq (aAsg (aOp (opD fAdd) (aOp (opD fAdd) (aOp (opD fAdd) (aOp (opD fBand) (aVar 3) (aD (.int 2147483647))) (aOp (opD fMul) (aOp (opD fMul) (aD (.int 1009)) (aVar 1)) (aVar 1))) (aOp (opD fMul) (aOp (opD fMul) (aD (.int 7919)) (aVar 2)) (aVar 2))) (aD (.int 12))) (agName 5))
    (aSeq (aAsg (aOp (opD fMod) (aOp (opD fMul) (aVar 5) (aD (.int 48271))) (aD (.int 2147483647))) (agName 5))
    (aRet (aOp (opD fBand) (aOp (opD fAdd) (aOp (opD fShr) (aVar 3) (aOp (opD fMul) (aD (.int 31)) (aOp (opD fAdd) (aVar 2) (aOp (opD fMul) (aD (.int 128)) (aVar 4))))) (aOp (opD fMod) (aOp (opD fMul) (aVar 5) (aVar 5)) (aD (.int 2147483629)))) (aD (.int 2147483647))))))))
noncomputable def A__law_mixed : AF := aDef 3 6 B__law_mixed
theorem ok__law_mixed (g : G K mg) : DkA P w K mg base 2 "_law_mixed" ["_law_script", "_law_k", "_law_salt"] A__law_mixed := g.f__law_mixed.dkA sc__law_mixed fun f cdv A outer s H E hr => ⟨_, (pss_cons (ps_set (i := 3) sc__law_mixed.nd rfl (Or.inl rfl) (clA (ok__law_cell_at g) hr (takes_of rfl rfl rfl rfl) (pa_cons (pv 0) (pa_cons (pv 1) pa_nil))))
    (pss_cons (ps_set (i := 4) sc__law_mixed.nd rfl (Or.inl rfl) (pe_op (kDiv (K := K)) (pv 1) (bi (jMax rfl (K := K)) g.b_max (pa_cons pe_int (pa_cons (bi (kLenM (K := K)) g.b_len (pa_cons (pv 0) pa_nil)) pa_nil)))))
    (pss_cons (ps_set (i := 5) sc__law_mixed.nd rfl (Or.inl rfl) (pe_op (kAdd (K := K)) (pe_op (kAdd (K := K)) (pe_op (kAdd (K := K)) (pe_op (kBand (K := K)) (pv 3) pe_int) (pe_op (kMul (K := K)) (pe_op (kMul (K := K)) pe_int (pv 1)) (pv 1))) (pe_op (kMul (K := K)) (pe_op (kMul (K := K)) pe_int (pv 2)) (pv 2))) pe_int))
    (pss_cons (ps_set (i := 5) sc__law_mixed.nd rfl (Or.inl rfl) (pe_op (kMod (K := K)) (pe_op (kMul (K := K)) (pv 5) pe_int) pe_int))
    (pss_one (ps_ret (pe_op (kBand (K := K)) (pe_op (kAdd (K := K)) (pe_op (kShr (K := K)) (pv 3) (pe_op (kMul (K := K)) pe_int (pe_op (kAdd (K := K)) (pv 2) (pe_op (kMul (K := K)) pe_int (pv 4))))) (pe_op (kMod (K := K)) (pe_op (kMul (K := K)) (pv 5) (pv 5)) pe_int)) pe_int))))))),
    (ss_seq (ss_asg (sm_callP (sa_cons sm_var (sa_cons sm_var sa_nil))) sg_name)
    (ss_seq (ss_asg (sm_op (os_D fDiv_ok) sm_var (sm_cb (cs_D fMax_ok) (sa_cons sm_int (sa_cons (sm_cb cs_Len (sa_cons sm_var sa_nil)) sa_nil)))) sg_name)
    (ss_seq (ss_asg (sm_op (os_D fAdd_ok) (sm_op (os_D fAdd_ok) (sm_op (os_D fAdd_ok) (sm_op (os_D fBand_ok) sm_var sm_int) (sm_op (os_D fMul_ok) (sm_op (os_D fMul_ok) sm_int sm_var) sm_var)) (sm_op (os_D fMul_ok) (sm_op (os_D fMul_ok) sm_int sm_var) sm_var)) sm_int) sg_name)
    (ss_seq (ss_asg (sm_op (os_D fMod_ok) (sm_op (os_D fMul_ok) sm_var sm_int) sm_int) sg_name)
    (ss_ret (sm_op (os_D fBand_ok) (sm_op (os_D fAdd_ok) (sm_op (os_D fShr_ok) sm_var (sm_op (os_D fMul_ok) sm_int (sm_op (os_D fAdd_ok) sm_var (sm_op (os_D fMul_ok) sm_int sm_var)))) (sm_op (os_D fMod_ok) (sm_op (os_D fMul_ok) sm_var sm_var) sm_int)) sm_int))))))⟩
noncomputable def B__law_whole : AS := (aRet (aAndV (aIsi "int" (aVar 0)) (aNotV (aIsi "bool" (aVar 0)))))
noncomputable def A__law_whole : AF := aDef 1 1 B__law_whole
theorem ok__law_whole (g : G K mg) : DkA P w K mg base 1 "_law_whole" ["_law_found"] A__law_whole := g.f__law_whole.dkA sc__law_whole fun f cdv A outer s H E hr => ⟨_, (pss_one (ps_ret (pe_and (bi (jIsi (K := K)) g.b_isinstance (pa_cons (pv 0) (pa_cons (bty (n := "int") g.b_int) pa_nil))) (pe_one (pe_not (bi (jIsi (K := K)) g.b_isinstance (pa_cons (pv 0) (pa_cons (bty (n := "bool") g.b_bool) pa_nil)))))))),
    (ss_ret (sm_and (sm_isi sm_var) (sm_not (sm_isi sm_var))))⟩
noncomputable def B__law_odd : AS := (aSeq (aAsg (aLstF (aCons (aTup (aCons (aD (.str "any")) (aCons (aD (.int 1)) aNil))) (aCons (aTup (aCons (aD (.str "has")) aNil)) (aCons (aTup (aCons (aD (.str "has")) (aCons (aD (.str "")) aNil))) (aCons (aTup (aCons (aD (.str "has")) (aCons (aD (.str "abcdefghijklm")) aNil))) (aCons (aTup (aCons (aD (.str "has")) (aCons (aD (.str "Age")) aNil))) (aCons (aTup (aCons (aD (.str "has")) (aCons (aD (.int 3)) aNil))) (aCons (aTup (aCons (aD (.str "has")) (aCons (aD (.str "a")) (aCons (aD (.int 1)) aNil)))) aNil)))))))) (agName 1))
    (aSeq (aAsg (aOp (opD fAdd) (aVar 1) (aLstF (aCons (aTup (aCons (aD (.str "least")) (aCons (aD (.str "a")) aNil))) (aCons (aTup (aCons (aD (.str "least")) (aCons (aD (.str "a")) (aCons (aD (.bool true)) aNil)))) (aCons (aTup (aCons (aD (.str "least")) (aCons (aD (.str "a")) (aCons (aOp (opD fAdd) (aOp (opD fPow) (aD (.int 10)) (aD (.int 30))) (aD (.int 1))) aNil)))) (aCons (aTup (aCons (aD (.str "least")) (aCons (aD (.str "a")) (aCons (aOp (opD fSub) (aUn (unD fNeg) (aOp (opD fPow) (aD (.int 10)) (aD (.int 30)))) (aD (.int 1))) aNil)))) aNil)))))) (agName 1))
    (aSeq (aAsg (aOp (opD fAdd) (aVar 1) (aLstF (aCons (aTup (aCons (aD (.str "least")) (aCons (aD (.str "a")) (aCons (aD (.str "1")) aNil)))) (aCons (aTup (aCons (aD (.str "least")) (aCons (aD (.int 1)) (aCons (aD (.str "a")) aNil)))) (aCons (aTup (aCons (aD (.str "least")) (aCons (aD (.str "a")) (aCons (aD .none) aNil)))) (aCons (aTup (aCons (aD (.str "not")) aNil)) (aCons (aTup (aCons (aD (.str "not")) (aCons (aD (.str "any")) aNil))) (aCons (aTup aNil) aNil)))))))) (agName 1))
    (aSeq (aAsg (aOp (opD fAdd) (aVar 1) (aLstF (aCons (aTup (aCons (aD (.str "not")) (aCons (aTup (aCons (aD (.str "any")) aNil)) (aCons (aTup (aCons (aD (.str "any")) aNil)) aNil)))) (aCons (aTup (aCons (aD (.str "both")) (aCons (aTup (aCons (aD (.str "any")) aNil)) aNil))) (aCons (aTup (aCons (aD (.str "either")) (aCons (aTup (aCons (aD (.str "any")) aNil)) (aCons (aTup (aCons (aD (.str "any")) aNil)) (aCons (aTup (aCons (aD (.str "any")) aNil)) aNil))))) (aCons (aD (.str "any")) aNil)))))) (agName 1))
    (aSeq (aAsg (aOp (opD fAdd) (aVar 1) (aLstF (aCons (aLstF (aCons (aD (.str "any")) aNil)) (aCons (aD .none) (aCons (aD (.int 7)) (aCons (aTup (aCons (aD (.str "Any")) aNil)) (aCons (aTup (aCons (aD (.str "most")) (aCons (aD (.str "a")) (aCons (aD (.int 1)) aNil)))) (aCons (aTup (aCons (aD (.str "not")) (aCons (aLstF (aCons (aD (.str "any")) aNil)) aNil))) (aCons (aTup (aCons (aTup (aCons (aD (.str "any")) aNil)) aNil)) (aCons (aTup (aCons (aD (.str "least")) (aCons (aD (.str "a b")) (aCons (aD (.int 1)) aNil)))) aNil)))))))))) (agName 1))
    (aSeq (aAsg (aOp (opD fAdd) (aVar 1) (aLstF (aCons (aTup (aCons (aLstF (aCons (aD (.str "any")) aNil)) aNil)) (aCons (aTup (aCons (aLstF (aCons (aD (.str "has")) aNil)) (aCons (aD (.str "a")) aNil))) (aCons (aTup (aCons (aD .none) (aCons (aD (.str "a")) aNil))) (aCons (aTup (aCons (aD (.int 7)) aNil)) (aCons (aTup (aCons (aD (.str "has")) (aCons (aLstF (aCons (aD (.str "a")) aNil)) aNil))) aNil))))))) (agName 1))
    (aRet (aOp opIx (aVar 1) (aOp (opD fMod) (aVar 0) (aCB cbLen (aCons (aVar 1) aNil)))))))))))
noncomputable def A__law_odd : AF := aDef 1 2 B__law_odd
theorem ok__law_odd (g : G K mg) : DkA P w K mg base 1 "_law_odd" ["_law_number"] A__law_odd := g.f__law_odd.dkA sc__law_odd fun f cdv A outer s H E hr => ⟨_, (pss_cons (ps_set (i := 1) sc__law_odd.nd rfl (Or.inl rfl) (pe_lst (pa_cons (pe_tup (pa_cons pe_str (pa_cons pe_int pa_nil))) (pa_cons (pe_tup (pa_cons pe_str pa_nil)) (pa_cons (pe_tup (pa_cons pe_str (pa_cons pe_str pa_nil))) (pa_cons (pe_tup (pa_cons pe_str (pa_cons pe_str pa_nil))) (pa_cons (pe_tup (pa_cons pe_str (pa_cons pe_str pa_nil))) (pa_cons (pe_tup (pa_cons pe_str (pa_cons pe_int pa_nil))) (pa_cons (pe_tup (pa_cons pe_str (pa_cons pe_str (pa_cons pe_int pa_nil)))) pa_nil)))))))))
    (pss_cons (ps_set (i := 1) sc__law_odd.nd rfl (Or.inl rfl) (pe_op (kAdd (K := K)) (pv 1) (pe_lst (pa_cons (pe_tup (pa_cons pe_str (pa_cons pe_str pa_nil))) (pa_cons (pe_tup (pa_cons pe_str (pa_cons pe_str (pa_cons pe_bl pa_nil)))) (pa_cons (pe_tup (pa_cons pe_str (pa_cons pe_str (pa_cons (pe_op (kAdd (K := K)) (pe_op (kPow (K := K)) pe_int pe_int) pe_int) pa_nil)))) (pa_cons (pe_tup (pa_cons pe_str (pa_cons pe_str (pa_cons (pe_op (kSub (K := K)) (pe_un (kNeg (K := K)) (pe_op (kPow (K := K)) pe_int pe_int)) pe_int) pa_nil)))) pa_nil)))))))
    (pss_cons (ps_set (i := 1) sc__law_odd.nd rfl (Or.inl rfl) (pe_op (kAdd (K := K)) (pv 1) (pe_lst (pa_cons (pe_tup (pa_cons pe_str (pa_cons pe_str (pa_cons pe_str pa_nil)))) (pa_cons (pe_tup (pa_cons pe_str (pa_cons pe_int (pa_cons pe_str pa_nil)))) (pa_cons (pe_tup (pa_cons pe_str (pa_cons pe_str (pa_cons pe_non pa_nil)))) (pa_cons (pe_tup (pa_cons pe_str pa_nil)) (pa_cons (pe_tup (pa_cons pe_str (pa_cons pe_str pa_nil))) (pa_cons (pe_tup pa_nil) pa_nil)))))))))
    (pss_cons (ps_set (i := 1) sc__law_odd.nd rfl (Or.inl rfl) (pe_op (kAdd (K := K)) (pv 1) (pe_lst (pa_cons (pe_tup (pa_cons pe_str (pa_cons (pe_tup (pa_cons pe_str pa_nil)) (pa_cons (pe_tup (pa_cons pe_str pa_nil)) pa_nil)))) (pa_cons (pe_tup (pa_cons pe_str (pa_cons (pe_tup (pa_cons pe_str pa_nil)) pa_nil))) (pa_cons (pe_tup (pa_cons pe_str (pa_cons (pe_tup (pa_cons pe_str pa_nil)) (pa_cons (pe_tup (pa_cons pe_str pa_nil)) (pa_cons (pe_tup (pa_cons pe_str pa_nil)) pa_nil))))) (pa_cons pe_str pa_nil)))))))
    (pss_cons (ps_set (i := 1) sc__law_odd.nd rfl (Or.inl rfl) (pe_op (kAdd (K := K)) (pv 1) (pe_lst (pa_cons (pe_lst (pa_cons pe_str pa_nil)) (pa_cons pe_non (pa_cons pe_int (pa_cons (pe_tup (pa_cons pe_str pa_nil)) (pa_cons (pe_tup (pa_cons pe_str (pa_cons pe_str (pa_cons pe_int pa_nil)))) (pa_cons (pe_tup (pa_cons pe_str (pa_cons (pe_lst (pa_cons pe_str pa_nil)) pa_nil))) (pa_cons (pe_tup (pa_cons (pe_tup (pa_cons pe_str pa_nil)) pa_nil)) (pa_cons (pe_tup (pa_cons pe_str (pa_cons pe_str (pa_cons pe_int pa_nil)))) pa_nil)))))))))))
    (pss_cons (ps_set (i := 1) sc__law_odd.nd rfl (Or.inl rfl) (pe_op (kAdd (K := K)) (pv 1) (pe_lst (pa_cons (pe_tup (pa_cons (pe_lst (pa_cons pe_str pa_nil)) pa_nil)) (pa_cons (pe_tup (pa_cons (pe_lst (pa_cons pe_str pa_nil)) (pa_cons pe_str pa_nil))) (pa_cons (pe_tup (pa_cons pe_non (pa_cons pe_str pa_nil))) (pa_cons (pe_tup (pa_cons pe_int pa_nil)) (pa_cons (pe_tup (pa_cons pe_str (pa_cons (pe_lst (pa_cons pe_str pa_nil)) pa_nil))) pa_nil))))))))
    (pss_one (ps_ret (pe_ix (kIxM (P := P) (w := w) (K := K) (hu_of hr)) (pv 1) (pe_op (kMod (K := K)) (pv 0) (bi (kLenM (K := K)) g.b_len (pa_cons (pv 1) pa_nil))) (fun _ _ => rfl)))))))))),
    (ss_seq (ss_asg (sm_lstF (sa_cons (sm_tup (sa_cons sm_str (sa_cons sm_int sa_nil))) (sa_cons (sm_tup (sa_cons sm_str sa_nil)) (sa_cons (sm_tup (sa_cons sm_str (sa_cons sm_str sa_nil))) (sa_cons (sm_tup (sa_cons sm_str (sa_cons sm_str sa_nil))) (sa_cons (sm_tup (sa_cons sm_str (sa_cons sm_str sa_nil))) (sa_cons (sm_tup (sa_cons sm_str (sa_cons sm_int sa_nil))) (sa_cons (sm_tup (sa_cons sm_str (sa_cons sm_str (sa_cons sm_int sa_nil)))) sa_nil)))))))) sg_name)
    (ss_seq (ss_asg (sm_op (os_D fAdd_ok) sm_var (sm_lstF (sa_cons (sm_tup (sa_cons sm_str (sa_cons sm_str sa_nil))) (sa_cons (sm_tup (sa_cons sm_str (sa_cons sm_str (sa_cons sm_bl sa_nil)))) (sa_cons (sm_tup (sa_cons sm_str (sa_cons sm_str (sa_cons (sm_op (os_D fAdd_ok) (sm_op (os_D fPow_ok) sm_int sm_int) sm_int) sa_nil)))) (sa_cons (sm_tup (sa_cons sm_str (sa_cons sm_str (sa_cons (sm_op (os_D fSub_ok) (sm_un (us_D fNeg_ok) (sm_op (os_D fPow_ok) sm_int sm_int)) sm_int) sa_nil)))) sa_nil)))))) sg_name)
    (ss_seq (ss_asg (sm_op (os_D fAdd_ok) sm_var (sm_lstF (sa_cons (sm_tup (sa_cons sm_str (sa_cons sm_str (sa_cons sm_str sa_nil)))) (sa_cons (sm_tup (sa_cons sm_str (sa_cons sm_int (sa_cons sm_str sa_nil)))) (sa_cons (sm_tup (sa_cons sm_str (sa_cons sm_str (sa_cons sm_non sa_nil)))) (sa_cons (sm_tup (sa_cons sm_str sa_nil)) (sa_cons (sm_tup (sa_cons sm_str (sa_cons sm_str sa_nil))) (sa_cons (sm_tup sa_nil) sa_nil)))))))) sg_name)
    (ss_seq (ss_asg (sm_op (os_D fAdd_ok) sm_var (sm_lstF (sa_cons (sm_tup (sa_cons sm_str (sa_cons (sm_tup (sa_cons sm_str sa_nil)) (sa_cons (sm_tup (sa_cons sm_str sa_nil)) sa_nil)))) (sa_cons (sm_tup (sa_cons sm_str (sa_cons (sm_tup (sa_cons sm_str sa_nil)) sa_nil))) (sa_cons (sm_tup (sa_cons sm_str (sa_cons (sm_tup (sa_cons sm_str sa_nil)) (sa_cons (sm_tup (sa_cons sm_str sa_nil)) (sa_cons (sm_tup (sa_cons sm_str sa_nil)) sa_nil))))) (sa_cons sm_str sa_nil)))))) sg_name)
    (ss_seq (ss_asg (sm_op (os_D fAdd_ok) sm_var (sm_lstF (sa_cons (sm_lstF (sa_cons sm_str sa_nil)) (sa_cons sm_non (sa_cons sm_int (sa_cons (sm_tup (sa_cons sm_str sa_nil)) (sa_cons (sm_tup (sa_cons sm_str (sa_cons sm_str (sa_cons sm_int sa_nil)))) (sa_cons (sm_tup (sa_cons sm_str (sa_cons (sm_lstF (sa_cons sm_str sa_nil)) sa_nil))) (sa_cons (sm_tup (sa_cons (sm_tup (sa_cons sm_str sa_nil)) sa_nil)) (sa_cons (sm_tup (sa_cons sm_str (sa_cons sm_str (sa_cons sm_int sa_nil)))) sa_nil)))))))))) sg_name)
    (ss_seq (ss_asg (sm_op (os_D fAdd_ok) sm_var (sm_lstF (sa_cons (sm_tup (sa_cons (sm_lstF (sa_cons sm_str sa_nil)) sa_nil)) (sa_cons (sm_tup (sa_cons (sm_lstF (sa_cons sm_str sa_nil)) (sa_cons sm_str sa_nil))) (sa_cons (sm_tup (sa_cons sm_non (sa_cons sm_str sa_nil))) (sa_cons (sm_tup (sa_cons sm_int sa_nil)) (sa_cons (sm_tup (sa_cons sm_str (sa_cons (sm_lstF (sa_cons sm_str sa_nil)) sa_nil))) sa_nil))))))) sg_name)
    (ss_ret (sm_op os_Ix sm_var (sm_op (os_D fMod_ok) sm_var (sm_cb cs_Len (sa_cons sm_var sa_nil)))))))))))⟩
noncomputable def B__law_leaf : AS := (aSeq (aAsg (aCallP A__law_mixed (aCons (aVar 0) (aCons (aVar 1) (aCons (aD (.int 11)) aNil)))) (agName 4))
    (aSeq (aIfS (aAnd (aB (aVar 2)) (aB (aOp (opB fEq) (aOp (opD fMod) (aVar 4) (aD (.int 7))) (aD (.int 3))))) (aRet (aCallP A__law_odd (aCons (aOp (opD fDiv) (aVar 4) (aD (.int 7))) aNil))) aNext)
    (aSeq (aAsg (aOp opIx (aLstF (aCons (aD (.str "age")) (aCons (aD (.str "agee")) (aCons (aD (.str "size")) (aCons (aD (.str "z")) (aCons (aD (.str "abcdefghijkl")) aNil)))))) (aOp (opD fMod) (aOp (opD fDiv) (aVar 4) (aD (.int 7))) (aVar 3))) (agName 5))
    (aSeq (aAsg (aOp (opD fSub) (aOp (opD fMod) (aCallP A__law_cell_at (aCons (aVar 0) (aCons (aVar 1) aNil))) (aOp (opD fAdd) (aOp (opD fMul) (aD (.int 2)) (aOp (opD fPow) (aD (.int 10)) (aD (.int 30)))) (aD (.int 1)))) (aOp (opD fPow) (aD (.int 10)) (aD (.int 30)))) (agName 6))
    (aSeq (aAsg (aOp opIx (aLstF (aCons (aVar 6) (aCons (aOp (opD fPow) (aD (.int 10)) (aD (.int 30))) (aCons (aUn (unD fNeg) (aOp (opD fPow) (aD (.int 10)) (aD (.int 30)))) (aCons (aD (.int 0)) aNil))))) (aOp (opD fMod) (aOp (opD fDiv) (aVar 4) (aD (.int 35))) (aD (.int 4)))) (agName 7))
    (aRet (aOp opIx (aLstF (aCons (aTup (aCons (aD (.str "any")) aNil)) (aCons (aTup (aCons (aD (.str "has")) (aCons (aVar 5) aNil))) (aCons (aTup (aCons (aD (.str "least")) (aCons (aVar 5) (aCons (aVar 7) aNil)))) aNil)))) (aOp (opD fMod) (aVar 4) (aD (.int 3))))))))))
noncomputable def A__law_leaf : AF := aDef 4 8 B__law_leaf
theorem ok__law_leaf (g : G K mg) : DkA P w K mg base 3 "_law_leaf" ["_law_script", "_law_k", "_law_odd_here", "_law_words"] A__law_leaf := g.f__law_leaf.dkA sc__law_leaf fun f cdv A outer s H E hr => ⟨_, (pss_cons (ps_set (i := 4) sc__law_leaf.nd rfl (Or.inl rfl) (clA (ok__law_mixed g) hr (takes_of rfl rfl rfl rfl) (pa_cons (pv 0) (pa_cons (pv 1) (pa_cons pe_int pa_nil)))))
    (pss_cons (ps_if (PW.pt (pw_and (pt_val (pv 2)) (pw_and1 (pt_cmpR (kEq (room64 hr) (K := K)) (pe_op (kMod (K := K)) (pv 4) pe_int) pe_int (nomark _)))))
    (pss_one (ps_ret (clA (ok__law_odd g) hr (takes_of rfl rfl rfl rfl) (pa_cons (pe_op (kDiv (K := K)) (pv 4) pe_int) pa_nil))))
    pss_nil)
    (pss_cons (ps_set (i := 5) sc__law_leaf.nd rfl (Or.inl rfl) (pe_ix (kIxM (P := P) (w := w) (K := K) (hu_of hr)) (pe_lst (pa_cons pe_str (pa_cons pe_str (pa_cons pe_str (pa_cons pe_str (pa_cons pe_str pa_nil)))))) (pe_op (kMod (K := K)) (pe_op (kDiv (K := K)) (pv 4) pe_int) (pv 3)) (fun _ _ => rfl)))
    (pss_cons (ps_set (i := 6) sc__law_leaf.nd rfl (Or.inl rfl) (pe_op (kSub (K := K)) (pe_op (kMod (K := K)) (clA (ok__law_cell_at g) hr (takes_of rfl rfl rfl rfl) (pa_cons (pv 0) (pa_cons (pv 1) pa_nil))) (pe_op (kAdd (K := K)) (pe_op (kMul (K := K)) pe_int (pe_op (kPow (K := K)) pe_int pe_int)) pe_int)) (pe_op (kPow (K := K)) pe_int pe_int)))
    (pss_cons (ps_set (i := 7) sc__law_leaf.nd rfl (Or.inl rfl) (pe_ix (kIxM (P := P) (w := w) (K := K) (hu_of hr)) (pe_lst (pa_cons (pv 6) (pa_cons (pe_op (kPow (K := K)) pe_int pe_int) (pa_cons (pe_un (kNeg (K := K)) (pe_op (kPow (K := K)) pe_int pe_int)) (pa_cons pe_int pa_nil))))) (pe_op (kMod (K := K)) (pe_op (kDiv (K := K)) (pv 4) pe_int) pe_int) (fun _ _ => rfl)))
    (pss_one (ps_ret (pe_ix (kIxM (P := P) (w := w) (K := K) (hu_of hr)) (pe_lst (pa_cons (pe_tup (pa_cons pe_str pa_nil)) (pa_cons (pe_tup (pa_cons pe_str (pa_cons (pv 5) pa_nil))) (pa_cons (pe_tup (pa_cons pe_str (pa_cons (pv 5) (pa_cons (pv 7) pa_nil)))) pa_nil)))) (pe_op (kMod (K := K)) (pv 4) pe_int) (fun _ _ => rfl))))))))),
    (ss_seq (ss_asg (sm_callP (sa_cons sm_var (sa_cons sm_var (sa_cons sm_int sa_nil)))) sg_name)
    (ss_seq (ss_if (st_and (st_B sm_var) (st_test (sm_op (os_B fEq_ok) (sm_op (os_D fMod_ok) sm_var sm_int) sm_int))) (ss_ret (sm_callP (sa_cons (sm_op (os_D fDiv_ok) sm_var sm_int) sa_nil))) ss_next)
    (ss_seq (ss_asg (sm_op os_Ix (sm_lstF (sa_cons sm_str (sa_cons sm_str (sa_cons sm_str (sa_cons sm_str (sa_cons sm_str sa_nil)))))) (sm_op (os_D fMod_ok) (sm_op (os_D fDiv_ok) sm_var sm_int) sm_var)) sg_name)
    (ss_seq (ss_asg (sm_op (os_D fSub_ok) (sm_op (os_D fMod_ok) (sm_callP (sa_cons sm_var (sa_cons sm_var sa_nil))) (sm_op (os_D fAdd_ok) (sm_op (os_D fMul_ok) sm_int (sm_op (os_D fPow_ok) sm_int sm_int)) sm_int)) (sm_op (os_D fPow_ok) sm_int sm_int)) sg_name)
    (ss_seq (ss_asg (sm_op os_Ix (sm_lstF (sa_cons sm_var (sa_cons (sm_op (os_D fPow_ok) sm_int sm_int) (sa_cons (sm_un (us_D fNeg_ok) (sm_op (os_D fPow_ok) sm_int sm_int)) (sa_cons sm_int sa_nil))))) (sm_op (os_D fMod_ok) (sm_op (os_D fDiv_ok) sm_var sm_int) sm_int)) sg_name)
    (ss_ret (sm_op os_Ix (sm_lstF (sa_cons (sm_tup (sa_cons sm_str sa_nil)) (sa_cons (sm_tup (sa_cons sm_str (sa_cons sm_var sa_nil))) (sa_cons (sm_tup (sa_cons sm_str (sa_cons sm_var (sa_cons sm_var sa_nil)))) sa_nil)))) (sm_op (os_D fMod_ok) sm_var sm_int))))))))⟩
noncomputable def B__law_built : AS := (aSeq (aAsg (aLstC aNil) (agName 5))
    (aSeq (aFor (aiR2 (aCons (aVar 1) (aCons (aOp (opD fAdd) (aVar 1) (aVar 2)) aNil))) (agName 6) (aSeq (aAsg (aCallP A__law_mixed (aCons (aVar 0) (aCons (aVar 6) (aCons (aD (.int 12)) aNil)))) (agName 7))
    (aIfS (aAnd (aB (aOp (opB fEq) (aOp (opD fMod) (aVar 7) (aD (.int 5))) (aD (.int 0)))) (aB (aOp (opD fGt) (aCB cbLen (aCons (aVar 5) aNil)) (aD (.int 0))))) (aDrop (aBML (mdL fAppend) (aVar 5) (aCons (aTup (aCons (aD (.str "not")) (aCons (aBML (mdL fPop) (aVar 5) aNil) aNil))) aNil))) (aIfS (aAnd (aB (aOp (opD fLt) (aOp (opD fMod) (aVar 7) (aD (.int 5))) (aD (.int 3)))) (aB (aOp (opD fGt) (aCB cbLen (aCons (aVar 5) aNil)) (aD (.int 1))))) (aSeq (aAsg (aBML (mdL fPop) (aVar 5) aNil) (agName 8))
    (aDrop (aBML (mdL fAppend) (aVar 5) (aCons (aTup (aCons (aOp opIx (aLstF (aCons (aD (.str "both")) (aCons (aD (.str "either")) aNil))) (aOp (opD fMod) (aVar 7) (aD (.int 2)))) (aCons (aBML (mdL fPop) (aVar 5) aNil) (aCons (aVar 8) aNil)))) aNil)))) (aDrop (aBML (mdL fAppend) (aVar 5) (aCons (aCallP A__law_leaf (aCons (aVar 0) (aCons (aVar 6) (aCons (aVar 3) (aCons (aVar 4) aNil))))) aNil)))))))
    (aSeq (aWhile (aB (aOp (opD fGt) (aCB cbLen (aCons (aVar 5) aNil)) (aD (.int 1)))) (aSeq (aAsg (aBML (mdL fPop) (aVar 5) aNil) (agName 8))
    (aSeq (aAsg (aBML (mdL fPopAt) (aVar 5) (aCons (aD (.int 0)) aNil)) (agName 9))
    (aDrop (aBML (mdL fInsert) (aVar 5) (aCons (aD (.int 0)) (aCons (aTup (aCons (aD (.str "both")) (aCons (aVar 9) (aCons (aVar 8) aNil)))) aNil)))))))
    (aRet (aOp opIx (aVar 5) (aD (.int 0)))))))
noncomputable def A__law_built : AF := aDef 5 10 B__law_built
theorem ok__law_built (g : G K mg) : DkA P w K mg base 4 "_law_built" ["_law_script", "_law_at", "_law_many", "_law_odd_here", "_law_words"] A__law_built := g.f__law_built.dkA sc__law_built fun f cdv A outer s H E hr => ⟨_, (pss_cons (ps_set (i := 5) sc__law_built.nd rfl (Or.inl rfl) (pe_lst pa_nil))
    (pss_cons (ps_for (passes_of rfl) rfl (pi_range2 (by rfl) g.b_range (pa_cons (pv 1) (pa_cons (pe_op (kAdd (K := K)) (pv 1) (pv 2)) pa_nil))) (pg_name (i := 6) sc__law_built.nd rfl (Or.inl rfl))
    (pss_cons (ps_set (i := 7) sc__law_built.nd rfl (Or.inl rfl) (clA (ok__law_mixed g) hr (takes_of rfl rfl rfl rfl) (pa_cons (pv 0) (pa_cons (pv 6) (pa_cons pe_int pa_nil)))))
    (pss_one (ps_if (PW.pt (pw_and (pt_cmpR (kEq (room64 hr) (K := K)) (pe_op (kMod (K := K)) (pv 7) pe_int) pe_int (nomark _)) (pw_and1 (pt_cmpR (kGt (K := K)) (bi (kLenM (K := K)) g.b_len (pa_cons (pv 5) pa_nil)) pe_int (nomark _)))))
    (pss_one (ps_expr (bm (K := K) PySem.F.plainAttrs_list PySem.F.slot_list_append PySem.F.type_list_append mt_append (pv 5) (pa_cons (pe_tup (pa_cons pe_str (pa_cons (bm0 (K := K) PySem.F.plainAttrs_list PySem.F.slot_list_pop PySem.F.type_list_pop mt_pop (pv 5)) pa_nil))) pa_nil))))
    (pss_one (ps_if (PW.pt (pw_and (pt_cmpR (kLt (K := K)) (pe_op (kMod (K := K)) (pv 7) pe_int) pe_int (nomark _)) (pw_and1 (pt_cmpR (kGt (K := K)) (bi (kLenM (K := K)) g.b_len (pa_cons (pv 5) pa_nil)) pe_int (nomark _)))))
    (pss_cons (ps_set (i := 8) sc__law_built.nd rfl (Or.inl rfl) (bm0 (K := K) PySem.F.plainAttrs_list PySem.F.slot_list_pop PySem.F.type_list_pop mt_pop (pv 5)))
    (pss_one (ps_expr (bm (K := K) PySem.F.plainAttrs_list PySem.F.slot_list_append PySem.F.type_list_append mt_append (pv 5) (pa_cons (pe_tup (pa_cons (pe_ix (kIxM (P := P) (w := w) (K := K) (hu_of hr)) (pe_lst (pa_cons pe_str (pa_cons pe_str pa_nil))) (pe_op (kMod (K := K)) (pv 7) pe_int) (fun _ _ => rfl)) (pa_cons (bm0 (K := K) PySem.F.plainAttrs_list PySem.F.slot_list_pop PySem.F.type_list_pop mt_pop (pv 5)) (pa_cons (pv 8) pa_nil)))) pa_nil)))))
    (pss_one (ps_expr (bm (K := K) PySem.F.plainAttrs_list PySem.F.slot_list_append PySem.F.type_list_append mt_append (pv 5) (pa_cons (clA (ok__law_leaf g) hr (takes_of rfl rfl rfl rfl) (pa_cons (pv 0) (pa_cons (pv 6) (pa_cons (pv 3) (pa_cons (pv 4) pa_nil))))) pa_nil))))))))))
    (pss_cons (ps_while (passes_of rfl) (pt_cmpR (kGt (K := K)) (bi (kLenM (K := K)) g.b_len (pa_cons (pv 5) pa_nil)) pe_int (nomark _))
    (pss_cons (ps_set (i := 8) sc__law_built.nd rfl (Or.inl rfl) (bm0 (K := K) PySem.F.plainAttrs_list PySem.F.slot_list_pop PySem.F.type_list_pop mt_pop (pv 5)))
    (pss_cons (ps_set (i := 9) sc__law_built.nd rfl (Or.inl rfl) (bm (K := K) PySem.F.plainAttrs_list PySem.F.slot_list_pop PySem.F.type_list_pop mt_popAt (pv 5) (pa_cons pe_int pa_nil)))
    (pss_one (ps_expr (bm (K := K) PySem.F.plainAttrs_list PySem.F.slot_list_insert PySem.F.type_list_insert mt_insertR (pv 5) (pa_cons pe_int (pa_cons (pe_tup (pa_cons pe_str (pa_cons (pv 9) (pa_cons (pv 8) pa_nil)))) pa_nil))))))))
    (pss_one (ps_ret (pe_ix (kIxM (P := P) (w := w) (K := K) (hu_of hr)) (pv 5) pe_int (fun _ _ => rfl))))))),
    (ss_seq (ss_asg (sm_lstC sa_nil) sg_name)
    (ss_seq (ss_for (si_r2 (sa_cons sm_var (sa_cons (sm_op (os_D fAdd_ok) sm_var sm_var) sa_nil))) sg_name (ss_seq (ss_asg (sm_callP (sa_cons sm_var (sa_cons sm_var (sa_cons sm_int sa_nil)))) sg_name)
    (ss_if (st_and (st_test (sm_op (os_B fEq_ok) (sm_op (os_D fMod_ok) sm_var sm_int) sm_int)) (st_test (sm_op (os_D fGt_ok) (sm_cb cs_Len (sa_cons sm_var sa_nil)) sm_int))) (ss_drop (sm_bmL ms_append sm_var (sa_cons (sm_tup (sa_cons sm_str (sa_cons (sm_bmL0 ms_pop sm_var) sa_nil))) sa_nil))) (ss_if (st_and (st_test (sm_op (os_D fLt_ok) (sm_op (os_D fMod_ok) sm_var sm_int) sm_int)) (st_test (sm_op (os_D fGt_ok) (sm_cb cs_Len (sa_cons sm_var sa_nil)) sm_int))) (ss_seq (ss_asg (sm_bmL0 ms_pop sm_var) sg_name)
    (ss_drop (sm_bmL ms_append sm_var (sa_cons (sm_tup (sa_cons (sm_op os_Ix (sm_lstF (sa_cons sm_str (sa_cons sm_str sa_nil))) (sm_op (os_D fMod_ok) sm_var sm_int)) (sa_cons (sm_bmL0 ms_pop sm_var) (sa_cons sm_var sa_nil)))) sa_nil)))) (ss_drop (sm_bmL ms_append sm_var (sa_cons (sm_callP (sa_cons sm_var (sa_cons sm_var (sa_cons sm_var (sa_cons sm_var sa_nil))))) sa_nil)))))))
    (ss_seq (ss_while (st_test (sm_op (os_D fGt_ok) (sm_cb cs_Len (sa_cons sm_var sa_nil)) sm_int)) (ss_seq (ss_asg (sm_bmL0 ms_pop sm_var) sg_name)
    (ss_seq (ss_asg (sm_bmL ms_popAt sm_var (sa_cons sm_int sa_nil)) sg_name)
    (ss_drop (sm_bmL ms_insert sm_var (sa_cons sm_int (sa_cons (sm_tup (sa_cons sm_str (sa_cons sm_var (sa_cons sm_var sa_nil)))) sa_nil)))))))
    (ss_ret (sm_op os_Ix sm_var sm_int)))))⟩
noncomputable def B__law_even : AS := (aSeq (aAsg (aLc lcF (aiR1 (aCons (aD (.int 16)) aNil)) (agName 5) aYes (aCallP A__law_leaf (aCons (aVar 0) (aCons (aOp (opD fAdd) (aVar 1) (aVar 5)) (aCons (aD (.bool false)) (aCons (aD (.int 3)) aNil))))) [5]) (agName 3))
    (aSeq (aAsg (aLc lcC (aiR1 (aCons (aD (.int 8)) aNil)) (agName 5) aYes (aTup (aCons (aD (.str "both")) (aCons (aOp opIx (aVar 3) (aOp (opD fMul) (aD (.int 2)) (aVar 5))) (aCons (aOp opIx (aVar 3) (aOp (opD fAdd) (aOp (opD fMul) (aD (.int 2)) (aVar 5)) (aD (.int 1)))) aNil)))) [5]) (agName 4))
    (aSeq (aAsg (aOp opIx (aLstF (aCons (aOp opIx (aVar 3) (aD (.int 10))) (aCons (aTup (aCons (aD (.str "not")) (aCons (aOp opIx (aVar 3) (aD (.int 10))) aNil))) (aCons (aOp opIx (aVar 4) (aD (.int 5))) aNil)))) (aOp (opD fSub) (aVar 2) (aD (.int 29)))) (agSub (aVar 4) (aD (.int 5)) stM))
    (aSeq (aWhile (aB (aOp (opD fGt) (aCB cbLen (aCons (aVar 4) aNil)) (aD (.int 1)))) (aAsg (aLc lcC (aiR1 (aCons (aOp (opD fDiv) (aCB cbLen (aCons (aVar 4) aNil)) (aD (.int 2))) aNil)) (agName 5) aYes (aTup (aCons (aD (.str "either")) (aCons (aOp opIx (aVar 4) (aOp (opD fMul) (aD (.int 2)) (aVar 5))) (aCons (aOp opIx (aVar 4) (aOp (opD fAdd) (aOp (opD fMul) (aD (.int 2)) (aVar 5)) (aD (.int 1)))) aNil)))) [5]) (agName 4)))
    (aRet (aOp opIx (aVar 4) (aD (.int 0))))))))
noncomputable def A__law_even : AF := aDef 3 6 B__law_even
theorem ok__law_even (g : G K mg) : DkA P w K mg base 4 "_law_even" ["_law_script", "_law_k", "_law_many"] A__law_even := g.f__law_even.dkA sc__law_even fun f cdv A outer s H E hr => ⟨_, (pss_cons (ps_set (i := 3) sc__law_even.nd rfl (Or.inr rfl) (pe_lc (own := [("_law_j", 5)]) (g := gName 5) rfl sc__law_even.nd (pi_range1 (by rfl) g.b_range (pa_cons pe_int pa_nil)) (blkOk_by (own := [("_law_j", 5)]) (N := N__law_even) (sc := defScope s__law_even) (by decide +kernel)) (fun _ _ _ _ _ => (pg_name (i := 5) sc__law_even.nd rfl (Or.inl rfl))) (fun _ _ _ _ _ => pts_nil) (fun _ _ _ _ _ => (clA (ok__law_leaf g) hr takes0 (pa_cons (pv 0) (pa_cons (pe_op (kAdd (K := K)) (pv 1) (pv 5)) (pa_cons pe_bl (pa_cons pe_int pa_nil))))))))
    (pss_cons (ps_set (i := 4) sc__law_even.nd rfl (Or.inr rfl) (pe_lc (own := [("_law_j", 5)]) (g := gName 5) rfl sc__law_even.nd (pi_range1 (by rfl) g.b_range (pa_cons pe_int pa_nil)) (blkOk_by (own := [("_law_j", 5)]) (N := N__law_even) (sc := defScope s__law_even) (by decide +kernel)) (fun _ _ _ _ _ => (pg_name (i := 5) sc__law_even.nd rfl (Or.inl rfl))) (fun _ _ _ _ _ => pts_nil) (fun _ _ _ _ _ => (pe_tup (pa_cons pe_str (pa_cons (pe_ix (kIxM (P := P) (w := w) (K := K) (hu_of hr)) (pv 3) (pe_op (kMul (K := K)) pe_int (pv 5)) (fun _ _ => rfl)) (pa_cons (pe_ix (kIxM (P := P) (w := w) (K := K) (hu_of hr)) (pv 3) (pe_op (kAdd (K := K)) (pe_op (kMul (K := K)) pe_int (pv 5)) pe_int) (fun _ _ => rfl)) pa_nil)))))))
    (pss_cons (ps_asg (pe_ix (kIxM (P := P) (w := w) (K := K) (hu_of hr)) (pe_lst (pa_cons (pe_ix (kIxM (P := P) (w := w) (K := K) (hu_of hr)) (pv 3) pe_int (fun _ _ => rfl)) (pa_cons (pe_tup (pa_cons pe_str (pa_cons (pe_ix (kIxM (P := P) (w := w) (K := K) (hu_of hr)) (pv 3) pe_int (fun _ _ => rfl)) pa_nil))) (pa_cons (pe_ix (kIxM (P := P) (w := w) (K := K) (hu_of hr)) (pv 4) pe_int (fun _ _ => rfl)) pa_nil)))) (pe_op (kSub (K := K)) (pv 2) pe_int) (fun _ _ => rfl)) (pg_sub (pv 4) pe_int (set_M (P := P) (w := w) (K := K) (hu_of hr))))
    (pss_cons (ps_while (passes_of rfl) (pt_cmpR (kGt (K := K)) (bi (kLenM (K := K)) g.b_len (pa_cons (pv 4) pa_nil)) pe_int (nomark _))
    (pss_one (ps_set (i := 4) sc__law_even.nd rfl (Or.inr rfl) (pe_lc (own := [("_law_j", 5)]) (g := gName 5) rfl sc__law_even.nd (pi_range1 (by rfl) g.b_range (pa_cons (pe_op (kDiv (K := K)) (bi (kLenM (K := K)) g.b_len (pa_cons (pv 4) pa_nil)) pe_int) pa_nil)) (blkOk_by (own := [("_law_j", 5)]) (N := N__law_even) (sc := defScope s__law_even) (by decide +kernel)) (fun _ _ _ _ _ => (pg_name (i := 5) sc__law_even.nd rfl (Or.inl rfl))) (fun _ _ _ _ _ => pts_nil) (fun _ _ _ _ _ => (pe_tup (pa_cons pe_str (pa_cons (pe_ix (kIxM (P := P) (w := w) (K := K) (hu_of hr)) (pv 4) (pe_op (kMul (K := K)) pe_int (pv 5)) (fun _ _ => rfl)) (pa_cons (pe_ix (kIxM (P := P) (w := w) (K := K) (hu_of hr)) (pv 4) (pe_op (kAdd (K := K)) (pe_op (kMul (K := K)) pe_int (pv 5)) pe_int) (fun _ _ => rfl)) pa_nil)))))))))
    (pss_one (ps_ret (pe_ix (kIxM (P := P) (w := w) (K := K) (hu_of hr)) (pv 4) pe_int (fun _ _ => rfl)))))))),
    (ss_seq (ss_asg (sm_lc mk_F (si_r1 (sa_cons sm_int sa_nil)) sg_name (gw_name (gw1 5)) st_yes (sm_callP (sa_cons sm_var (sa_cons (sm_op (os_D fAdd_ok) sm_var sm_var) (sa_cons sm_bl (sa_cons sm_int sa_nil)))))) sg_name)
    (ss_seq (ss_asg (sm_lc mk_C (si_r1 (sa_cons sm_int sa_nil)) sg_name (gw_name (gw1 5)) st_yes (sm_tup (sa_cons sm_str (sa_cons (sm_op os_Ix sm_var (sm_op (os_D fMul_ok) sm_int sm_var)) (sa_cons (sm_op os_Ix sm_var (sm_op (os_D fAdd_ok) (sm_op (os_D fMul_ok) sm_int sm_var) sm_int)) sa_nil))))) sg_name)
    (ss_seq (ss_asg (sm_op os_Ix (sm_lstF (sa_cons (sm_op os_Ix sm_var sm_int) (sa_cons (sm_tup (sa_cons sm_str (sa_cons (sm_op os_Ix sm_var sm_int) sa_nil))) (sa_cons (sm_op os_Ix sm_var sm_int) sa_nil)))) (sm_op (os_D fSub_ok) sm_var sm_int)) (sg_sub sm_var sm_int ss_M))
    (ss_seq (ss_while (st_test (sm_op (os_D fGt_ok) (sm_cb cs_Len (sa_cons sm_var sa_nil)) sm_int)) (ss_asg (sm_lc mk_C (si_r1 (sa_cons (sm_op (os_D fDiv_ok) (sm_cb cs_Len (sa_cons sm_var sa_nil)) sm_int) sa_nil)) sg_name (gw_name (gw1 5)) st_yes (sm_tup (sa_cons sm_str (sa_cons (sm_op os_Ix sm_var (sm_op (os_D fMul_ok) sm_int sm_var)) (sa_cons (sm_op os_Ix sm_var (sm_op (os_D fAdd_ok) (sm_op (os_D fMul_ok) sm_int sm_var) sm_int)) sa_nil))))) sg_name))
    (ss_ret (sm_op os_Ix sm_var sm_int))))))⟩
noncomputable def B__law_thing : AS := (aSeq (aAsg (aCallP A__law_mixed (aCons (aVar 0) (aCons (aVar 1) (aCons (aD (.int 13)) aNil)))) (agName 2))
    (aSeq (aIfS (aB (aOp (opB fEq) (aOp (opD fMod) (aVar 2) (aD (.int 8))) (aD (.int 1)))) (aSeq (aAsg (aOp opIx (aLstF (aCons (aTup (aCons (aD (.str "any")) aNil)) (aCons (aTup (aCons (aD (.str "has")) (aCons (aD (.str "age")) aNil))) (aCons (aTup (aCons (aD (.str "least")) (aCons (aD (.str "z")) (aCons (aD (.int 0)) aNil)))) aNil)))) (aOp (opD fMod) (aOp (opD fDiv) (aVar 2) (aD (.int 8))) (aD (.int 3)))) (agName 3))
    (aSeq (aFor (aiR1 (aCons (aOp (opD fAdd) (aD (.int 4)) (aOp (opD fMod) (aOp (opD fDiv) (aVar 2) (aD (.int 24))) (aD (.int 3)))) aNil)) (agName 4) (aAsg (aTup (aCons (aD (.str "not")) (aCons (aVar 3) aNil))) (agName 3)))
    (aRet (aVar 3)))) aNext)
    (aSeq (aIfS (aB (aOp (opB fEq) (aOp (opD fMod) (aVar 2) (aD (.int 8))) (aD (.int 2)))) (aRet (aCallP A__law_even (aCons (aVar 0) (aCons (aVar 1) (aCons (aOp (opD fAdd) (aD (.int 29)) (aOp (opD fMod) (aOp (opD fDiv) (aVar 2) (aD (.int 8))) (aD (.int 3)))) aNil))))) aNext)
    (aSeq (aIfS (aB (aOp (opB fEq) (aOp (opD fMod) (aVar 2) (aD (.int 8))) (aD (.int 3)))) (aRet (aCallP A__law_odd (aCons (aOp (opD fDiv) (aVar 2) (aD (.int 8))) aNil))) aNext)
    (aSeq (aAsg (aOp (opD fAdd) (aD (.int 1)) (aOp (opD fMod) (aOp (opD fDiv) (aVar 2) (aD (.int 8))) (aD (.int 24)))) (agName 5))
    (aSeq (aIfS (aB (aOp (opB fEq) (aOp (opD fMod) (aOp (opD fDiv) (aVar 2) (aD (.int 272))) (aD (.int 2))) (aD (.int 0)))) (aAsg (aOp (opD fAdd) (aD (.int 1)) (aOp (opD fMod) (aVar 5) (aD (.int 9)))) (agName 5)) aNext)
    (aRet (aCallP A__law_built (aCons (aVar 0) (aCons (aVar 1) (aCons (aVar 5) (aCons (aOp (opB fEq) (aOp (opD fMod) (aOp (opD fDiv) (aVar 2) (aD (.int 544))) (aD (.int 2))) (aD (.int 0))) (aCons (aOp (opD fAdd) (aD (.int 1)) (aOp (opD fMod) (aOp (opD fDiv) (aVar 2) (aD (.int 1088))) (aD (.int 5)))) aNil)))))))))))))
noncomputable def A__law_thing : AF := aDef 2 6 B__law_thing
theorem ok__law_thing (g : G K mg) : DkA P w K mg base 5 "_law_thing" ["_law_script", "_law_k"] A__law_thing := g.f__law_thing.dkA sc__law_thing fun f cdv A outer s H E hr => ⟨_, (pss_cons (ps_set (i := 2) sc__law_thing.nd rfl (Or.inl rfl) (clA (ok__law_mixed g) hr (takes_of rfl rfl rfl rfl) (pa_cons (pv 0) (pa_cons (pv 1) (pa_cons pe_int pa_nil)))))
    (pss_cons (ps_if (pt_cmpR (kEq (room64 hr) (K := K)) (pe_op (kMod (K := K)) (pv 2) pe_int) pe_int (nomark _))
    (pss_cons (ps_set (i := 3) sc__law_thing.nd rfl (Or.inl rfl) (pe_ix (kIxM (P := P) (w := w) (K := K) (hu_of hr)) (pe_lst (pa_cons (pe_tup (pa_cons pe_str pa_nil)) (pa_cons (pe_tup (pa_cons pe_str (pa_cons pe_str pa_nil))) (pa_cons (pe_tup (pa_cons pe_str (pa_cons pe_str (pa_cons pe_int pa_nil)))) pa_nil)))) (pe_op (kMod (K := K)) (pe_op (kDiv (K := K)) (pv 2) pe_int) pe_int) (fun _ _ => rfl)))
    (pss_cons (ps_for (passes_of rfl) rfl (pi_range1 (by rfl) g.b_range (pa_cons (pe_op (kAdd (K := K)) pe_int (pe_op (kMod (K := K)) (pe_op (kDiv (K := K)) (pv 2) pe_int) pe_int)) pa_nil)) (pg_name (i := 4) sc__law_thing.nd rfl (Or.inl rfl))
    (pss_one (ps_set (i := 3) sc__law_thing.nd rfl (Or.inl rfl) (pe_tup (pa_cons pe_str (pa_cons (pv 3) pa_nil))))))
    (pss_one (ps_ret (pv 3)))))
    pss_nil)
    (pss_cons (ps_if (pt_cmpR (kEq (room64 hr) (K := K)) (pe_op (kMod (K := K)) (pv 2) pe_int) pe_int (nomark _))
    (pss_one (ps_ret (clA (ok__law_even g) hr (takes_of rfl rfl rfl rfl) (pa_cons (pv 0) (pa_cons (pv 1) (pa_cons (pe_op (kAdd (K := K)) pe_int (pe_op (kMod (K := K)) (pe_op (kDiv (K := K)) (pv 2) pe_int) pe_int)) pa_nil))))))
    pss_nil)
    (pss_cons (ps_if (pt_cmpR (kEq (room64 hr) (K := K)) (pe_op (kMod (K := K)) (pv 2) pe_int) pe_int (nomark _))
    (pss_one (ps_ret (clA (ok__law_odd g) hr (takes_of rfl rfl rfl rfl) (pa_cons (pe_op (kDiv (K := K)) (pv 2) pe_int) pa_nil))))
    pss_nil)
    (pss_cons (ps_set (i := 5) sc__law_thing.nd rfl (Or.inl rfl) (pe_op (kAdd (K := K)) pe_int (pe_op (kMod (K := K)) (pe_op (kDiv (K := K)) (pv 2) pe_int) pe_int)))
    (pss_cons (ps_if (pt_cmpR (kEq (room64 hr) (K := K)) (pe_op (kMod (K := K)) (pe_op (kDiv (K := K)) (pv 2) pe_int) pe_int) pe_int (nomark _))
    (pss_one (ps_set (i := 5) sc__law_thing.nd rfl (Or.inl rfl) (pe_op (kAdd (K := K)) pe_int (pe_op (kMod (K := K)) (pv 5) pe_int))))
    pss_nil)
    (pss_one (ps_ret (clA (ok__law_built g) hr (takes_of rfl rfl rfl rfl) (pa_cons (pv 0) (pa_cons (pv 1) (pa_cons (pv 5) (pa_cons (pe_cmpR (kEq (room64 hr) (K := K)) (pe_op (kMod (K := K)) (pe_op (kDiv (K := K)) (pv 2) pe_int) pe_int) pe_int (nomark _)) (pa_cons (pe_op (kAdd (K := K)) pe_int (pe_op (kMod (K := K)) (pe_op (kDiv (K := K)) (pv 2) pe_int) pe_int)) pa_nil)))))))))))))),
    (ss_seq (ss_asg (sm_callP (sa_cons sm_var (sa_cons sm_var (sa_cons sm_int sa_nil)))) sg_name)
    (ss_seq (ss_if (st_test (sm_op (os_B fEq_ok) (sm_op (os_D fMod_ok) sm_var sm_int) sm_int)) (ss_seq (ss_asg (sm_op os_Ix (sm_lstF (sa_cons (sm_tup (sa_cons sm_str sa_nil)) (sa_cons (sm_tup (sa_cons sm_str (sa_cons sm_str sa_nil))) (sa_cons (sm_tup (sa_cons sm_str (sa_cons sm_str (sa_cons sm_int sa_nil)))) sa_nil)))) (sm_op (os_D fMod_ok) (sm_op (os_D fDiv_ok) sm_var sm_int) sm_int)) sg_name)
    (ss_seq (ss_for (si_r1 (sa_cons (sm_op (os_D fAdd_ok) sm_int (sm_op (os_D fMod_ok) (sm_op (os_D fDiv_ok) sm_var sm_int) sm_int)) sa_nil)) sg_name (ss_asg (sm_tup (sa_cons sm_str (sa_cons sm_var sa_nil))) sg_name))
    (ss_ret sm_var))) ss_next)
    (ss_seq (ss_if (st_test (sm_op (os_B fEq_ok) (sm_op (os_D fMod_ok) sm_var sm_int) sm_int)) (ss_ret (sm_callP (sa_cons sm_var (sa_cons sm_var (sa_cons (sm_op (os_D fAdd_ok) sm_int (sm_op (os_D fMod_ok) (sm_op (os_D fDiv_ok) sm_var sm_int) sm_int)) sa_nil))))) ss_next)
    (ss_seq (ss_if (st_test (sm_op (os_B fEq_ok) (sm_op (os_D fMod_ok) sm_var sm_int) sm_int)) (ss_ret (sm_callP (sa_cons (sm_op (os_D fDiv_ok) sm_var sm_int) sa_nil))) ss_next)
    (ss_seq (ss_asg (sm_op (os_D fAdd_ok) sm_int (sm_op (os_D fMod_ok) (sm_op (os_D fDiv_ok) sm_var sm_int) sm_int)) sg_name)
    (ss_seq (ss_if (st_test (sm_op (os_B fEq_ok) (sm_op (os_D fMod_ok) (sm_op (os_D fDiv_ok) sm_var sm_int) sm_int) sm_int)) (ss_asg (sm_op (os_D fAdd_ok) sm_int (sm_op (os_D fMod_ok) sm_var sm_int)) sg_name) ss_next)
    (ss_ret (sm_callP (sa_cons sm_var (sa_cons sm_var (sa_cons sm_var (sa_cons (sm_op (os_B fEq_ok) (sm_op (os_D fMod_ok) (sm_op (os_D fDiv_ok) sm_var sm_int) sm_int) sm_int) (sa_cons (sm_op (os_D fAdd_ok) sm_int (sm_op (os_D fMod_ok) (sm_op (os_D fDiv_ok) sm_var sm_int) sm_int)) sa_nil)))))))))))))⟩
noncomputable def B__law_word_good : AS := (aSeq (aIfS (aOr (aNot (aB (aIsi "str" (aVar 0)))) (aNot (aB (aChain (opD fLe) (opD fLe) (aD (.int 1)) (aCB cbLen (aCons (aVar 0) aNil)) (aD (.int 12)))))) (aRet (aD (.bool false))) aNext)
    (aRet (aOp (opB fEq) (aCB cbLen (aCons (aLc lcF (aiAny (aVar 0)) (agName 1) (aB (aOp (opIn true) (aVar 1) (aD (.str "abcdefghijklmnopqrstuvwxyz")))) (aVar 1) [1]) aNil)) (aD (.int 0)))))
noncomputable def A__law_word_good : AF := aDef 1 2 B__law_word_good
theorem ok__law_word_good (g : G K mg) : DkA P w K mg base 1 "_law_word_good" ["_law_word"] A__law_word_good := g.f__law_word_good.dkA sc__law_word_good fun f cdv A outer s H E hr => ⟨_, (pss_cons (ps_if (PW.pt (pw_or (pt_not (pt_val (bi (jIsi (K := K)) g.b_isinstance (pa_cons (pv 0) (pa_cons (bty (n := "str") g.b_str) pa_nil))))) (pw_or1 (pt_not (pt_chain (kLe (room0 hr) (K := K)) (kLe (room0 hr) (K := K)) pe_int (bi (kLenM (K := K)) g.b_len (pa_cons (pv 0) pa_nil)) pe_int)))))
    (pss_one (ps_ret pe_bl))
    pss_nil)
    (pss_one (ps_ret (pe_cmpR (kEq (room64 hr) (K := K)) (bi (kLenM (K := K)) g.b_len (pa_cons (pe_lc (own := [("_law_sign", 1)]) (g := gName 1) rfl sc__law_word_good.nd (pi_any (K := K) (pv 0)) (blkOk_by (own := [("_law_sign", 1)]) (N := N__law_word_good) (sc := defScope s__law_word_good) (by decide +kernel)) (fun _ _ _ _ _ => (pg_name (i := 1) sc__law_word_good.nd rfl (Or.inl rfl))) (fun _ _ _ _ _ => (pts_one (pt_cmpR (kNinM (P := P) (w := w) (K := K) (room65 hr)) (pv 1) pe_str (by rfl)))) (fun _ _ _ _ _ => (pv 1))) pa_nil)) pe_int (nomark _))))),
    (ss_seq (ss_if (st_or (st_not (st_B (sm_isi sm_var))) (st_not (st_test (sm_chain (os_D fLe_ok) (os_D fLe_ok) sm_int (sm_cb cs_Len (sa_cons sm_var sa_nil)) sm_int)))) (ss_ret sm_bl) ss_next)
    (ss_ret (sm_op (os_B fEq_ok) (sm_cb cs_Len (sa_cons (sm_lc mk_F (si_any sm_var) sg_name (gw_name (gw1 1)) (st_test (sm_op os_Nin sm_var sm_str)) sm_var) sa_nil)) sm_int)))⟩
noncomputable def B__law_seen (A : Nat → AF) (n : Nat) : AS := (aSeq (aIfS (aOr (aNot (aB (aIsi "tuple" (aVar 0)))) (aOr (aB (aOp (opB fEq) (aCB cbLen (aCons (aVar 0) aNil)) (aD (.int 0)))) (aNot (aB (aIsi "str" (aOp opIx (aVar 0) (aD (.int 0)))))))) (aRet (aD .none)) aNext)
    (aSeq (aIfS (aB (aOp (opB fEq) (aVar 0) (aTup (aCons (aD (.str "any")) aNil)))) (aRet (aTup (aCons (aD (.int 1)) (aCons (aD (.int 1)) (aCons (aLstF aNil) aNil))))) aNext)
    (aSeq (aIfS (aAnd (aB (aOp (opB fEq) (aOp opIx (aVar 0) (aD (.int 0))) (aD (.str "has")))) (aAnd (aB (aOp (opB fEq) (aCB cbLen (aCons (aVar 0) aNil)) (aD (.int 2)))) (aB (aCallP A__law_word_good (aCons (aOp opIx (aVar 0) (aD (.int 1))) aNil))))) (aRet (aTup (aCons (aD (.int 1)) (aCons (aD (.int 1)) (aCons (aLstF (aCons (aOp opIx (aVar 0) (aD (.int 1))) aNil)) aNil))))) aNext)
    (aSeq (aIfS (aAnd (aB (aOp (opB fEq) (aOp opIx (aVar 0) (aD (.int 0))) (aD (.str "least")))) (aAnd (aB (aOp (opB fEq) (aCB cbLen (aCons (aVar 0) aNil)) (aD (.int 3)))) (aAnd (aB (aCallP A__law_word_good (aCons (aOp opIx (aVar 0) (aD (.int 1))) aNil))) (aB (aCallP A__law_whole (aCons (aOp opIx (aVar 0) (aD (.int 2))) aNil)))))) (aRet (aOp opIx (aLstF (aCons (aD .none) (aCons (aTup (aCons (aD (.int 1)) (aCons (aD (.int 1)) (aCons (aLstF (aCons (aOp opIx (aVar 0) (aD (.int 1))) aNil)) aNil)))) aNil))) (aCB (cbD fIntB) (aCons (aChain (opD fLe) (opD fLe) (aUn (unD fNeg) (aOp (opD fPow) (aD (.int 10)) (aD (.int 30)))) (aOp opIx (aVar 0) (aD (.int 2))) (aOp (opD fPow) (aD (.int 10)) (aD (.int 30)))) aNil)))) aNext)
    (aSeq (aIfS (aOr (aB (aOp (opIn true) (aOp opIx (aVar 0) (aD (.int 0))) (aLstF (aCons (aD (.str "not")) (aCons (aD (.str "both")) (aCons (aD (.str "either")) aNil)))))) (aB (aOp (opBn fEq) (aCB cbLen (aCons (aVar 0) aNil)) (aOp (opD fSub) (aD (.int 3)) (aCB (cbD fIntB) (aCons (aOp (opB fEq) (aOp opIx (aVar 0) (aD (.int 0))) (aD (.str "not"))) aNil)))))) (aRet (aD .none)) aNext)
    (aSeq (aAsg (aD (.int 0)) (agName 1))
    (aSeq (aAsg (aD (.int 1)) (agName 2))
    (aSeq (aAsg (aLstF aNil) (agName 3))
    (aSeq (aFor (aiAny (aSl (aVar 0) (aoS (aD (.int 1))) aoN)) (agName 4) (aSeq (aAsg (aCallP (A n) (aCons (aVar 4) aNil)) (agName 5))
    (aSeq (aIfS (aB (aOp (opD fIs) (aVar 5) (aD .none))) (aRet (aD .none)) aNext)
    (aSeq (aAsg (aCB (cbD fMax) (aCons (aVar 1) (aCons (aOp opIx (aVar 5) (aD (.int 0))) aNil))) (agName 1))
    (aSeq (aAsg (aOp (opD fAdd) (aVar 2) (aOp opIx (aVar 5) (aD (.int 1)))) (agName 2))
    (aAsg (aOp (opD fAdd) (aVar 3) (aOp opIx (aVar 5) (aD (.int 2)))) (agName 3)))))))
    (aRet (aTup (aCons (aOp (opD fAdd) (aVar 1) (aD (.int 1))) (aCons (aVar 2) (aCons (aVar 3) aNil))))))))))))))
noncomputable def A__law_seen : Nat → AF
  | 0 => fun _ => stuck
  | n + 1 => aDef 1 6 (B__law_seen (fun _ => A__law_seen n) n)
theorem A__law_seen_succ (n : Nat) : A__law_seen (n + 1) = aDef 1 6 (B__law_seen (fun _ => A__law_seen n) n) := rfl
theorem ok__law_seen (g : G K mg) : ∀ n, DkA P w K mg base (1 + n) "_law_seen" ["_law_rule"] (A__law_seen n)
  | 0 => g.f__law_seen.dkA0
  | n + 1 => by
    have ih := ok__law_seen g n
    rw [A__law_seen_succ]
    unfold B__law_seen
    refine (show DkA P w K mg base (1 + n + 1) "_law_seen" ["_law_rule"] _ from ?_)
    exact g.f__law_seen.dkA sc__law_seen fun f cdv A outer s H E hr => ⟨_, (pss_cons (ps_if (PW.pt (pw_or (pt_not (pt_val (bi (jIsi (K := K)) g.b_isinstance (pa_cons (pv 0) (pa_cons (bty (n := "tuple") g.b_tuple) pa_nil))))) (pw_or (pt_cmpR (kEq (room64 hr) (K := K)) (bi (kLenM (K := K)) g.b_len (pa_cons (pv 0) pa_nil)) pe_int (nomark _)) (pw_or1 (pt_not (pt_val (bi (jIsi (K := K)) g.b_isinstance (pa_cons (pe_ix (kIxM (P := P) (w := w) (K := K) (hu_of hr)) (pv 0) pe_int (fun _ _ => rfl)) (pa_cons (bty (n := "str") g.b_str) pa_nil)))))))))
    (pss_one (ps_ret pe_non))
    pss_nil)
    (pss_cons (ps_if (pt_cmpR (kEq (room64 hr) (K := K)) (pv 0) (pe_tup (pa_cons pe_str pa_nil)) (nomark _))
    (pss_one (ps_ret (pe_tup (pa_cons pe_int (pa_cons pe_int (pa_cons (pe_lst pa_nil) pa_nil))))))
    pss_nil)
    (pss_cons (ps_if (PW.pt (pw_and (pt_cmpR (kEq (room64 hr) (K := K)) (pe_ix (kIxM (P := P) (w := w) (K := K) (hu_of hr)) (pv 0) pe_int (fun _ _ => rfl)) pe_str (nomark _)) (pw_and (pt_cmpR (kEq (room64 hr) (K := K)) (bi (kLenM (K := K)) g.b_len (pa_cons (pv 0) pa_nil)) pe_int (nomark _)) (pw_and1 (pt_val (clA (ok__law_word_good g) hr (takes_of rfl rfl rfl rfl) (pa_cons (pe_ix (kIxM (P := P) (w := w) (K := K) (hu_of hr)) (pv 0) pe_int (fun _ _ => rfl)) pa_nil)))))))
    (pss_one (ps_ret (pe_tup (pa_cons pe_int (pa_cons pe_int (pa_cons (pe_lst (pa_cons (pe_ix (kIxM (P := P) (w := w) (K := K) (hu_of hr)) (pv 0) pe_int (fun _ _ => rfl)) pa_nil)) pa_nil))))))
    pss_nil)
    (pss_cons (ps_if (PW.pt (pw_and (pt_cmpR (kEq (room64 hr) (K := K)) (pe_ix (kIxM (P := P) (w := w) (K := K) (hu_of hr)) (pv 0) pe_int (fun _ _ => rfl)) pe_str (nomark _)) (pw_and (pt_cmpR (kEq (room64 hr) (K := K)) (bi (kLenM (K := K)) g.b_len (pa_cons (pv 0) pa_nil)) pe_int (nomark _)) (pw_and (pt_val (clA (ok__law_word_good g) hr (takes_of rfl rfl rfl rfl) (pa_cons (pe_ix (kIxM (P := P) (w := w) (K := K) (hu_of hr)) (pv 0) pe_int (fun _ _ => rfl)) pa_nil))) (pw_and1 (pt_val (clA (ok__law_whole g) hr (takes_of rfl rfl rfl rfl) (pa_cons (pe_ix (kIxM (P := P) (w := w) (K := K) (hu_of hr)) (pv 0) pe_int (fun _ _ => rfl)) pa_nil))))))))
    (pss_one (ps_ret (pe_ix (kIxM (P := P) (w := w) (K := K) (hu_of hr)) (pe_lst (pa_cons pe_non (pa_cons (pe_tup (pa_cons pe_int (pa_cons pe_int (pa_cons (pe_lst (pa_cons (pe_ix (kIxM (P := P) (w := w) (K := K) (hu_of hr)) (pv 0) pe_int (fun _ _ => rfl)) pa_nil)) pa_nil)))) pa_nil))) (bt (jInt (K := K)) g.b_int (pa_cons (pe_chain (kLe (room0 hr) (K := K)) (kLe (room0 hr) (K := K)) (pe_un (kNeg (K := K)) (pe_op (kPow (K := K)) pe_int pe_int)) (pe_ix (kIxM (P := P) (w := w) (K := K) (hu_of hr)) (pv 0) pe_int (fun _ _ => rfl)) (pe_op (kPow (K := K)) pe_int pe_int)) pa_nil)) (fun _ _ => rfl))))
    pss_nil)
    (pss_cons (ps_if (PW.pt (pw_or (pt_cmpR (kNinM (P := P) (w := w) (K := K) (room65 hr)) (pe_ix (kIxM (P := P) (w := w) (K := K) (hu_of hr)) (pv 0) pe_int (fun _ _ => rfl)) (pe_lst (pa_cons pe_str (pa_cons pe_str (pa_cons pe_str pa_nil)))) (by rfl)) (pw_or1 (pt_cmpR (kNe (room64 hr) (K := K)) (bi (kLenM (K := K)) g.b_len (pa_cons (pv 0) pa_nil)) (pe_op (kSub (K := K)) pe_int (bt (jInt (K := K)) g.b_int (pa_cons (pe_cmpR (kEq (room64 hr) (K := K)) (pe_ix (kIxM (P := P) (w := w) (K := K) (hu_of hr)) (pv 0) pe_int (fun _ _ => rfl)) pe_str (nomark _)) pa_nil))) (nomark _)))))
    (pss_one (ps_ret pe_non))
    pss_nil)
    (pss_cons (ps_set (i := 1) sc__law_seen.nd rfl (Or.inl rfl) pe_int)
    (pss_cons (ps_set (i := 2) sc__law_seen.nd rfl (Or.inl rfl) pe_int)
    (pss_cons (ps_set (i := 3) sc__law_seen.nd rfl (Or.inl rfl) (pe_lst pa_nil))
    (pss_cons (ps_for (passes_of rfl) rfl (pi_any (K := K) (pe_slice (kSl (K := K)) (pv 0) (po_some pe_int) po_none)) (pg_name (i := 4) sc__law_seen.nd rfl (Or.inl rfl))
    (pss_cons (ps_set (i := 5) sc__law_seen.nd rfl (Or.inl rfl) (clA ih hr (takes_of rfl rfl rfl rfl) (pa_cons (pv 4) pa_nil)))
    (pss_cons (ps_if (pt_cmpR (kIs (K := K)) (pv 5) pe_non (nomark _))
    (pss_one (ps_ret pe_non))
    pss_nil)
    (pss_cons (ps_set (i := 1) sc__law_seen.nd rfl (Or.inl rfl) (bi (jMax rfl (K := K)) g.b_max (pa_cons (pv 1) (pa_cons (pe_ix (kIxM (P := P) (w := w) (K := K) (hu_of hr)) (pv 5) pe_int (fun _ _ => rfl)) pa_nil))))
    (pss_cons (ps_set (i := 2) sc__law_seen.nd rfl (Or.inl rfl) (pe_op (kAdd (K := K)) (pv 2) (pe_ix (kIxM (P := P) (w := w) (K := K) (hu_of hr)) (pv 5) pe_int (fun _ _ => rfl))))
    (pss_one (ps_set (i := 3) sc__law_seen.nd rfl (Or.inl rfl) (pe_op (kAdd (K := K)) (pv 3) (pe_ix (kIxM (P := P) (w := w) (K := K) (hu_of hr)) (pv 5) pe_int (fun _ _ => rfl))))))))))
    (pss_one (ps_ret (pe_tup (pa_cons (pe_op (kAdd (K := K)) (pv 1) pe_int) (pa_cons (pv 2) (pa_cons (pv 3) pa_nil))))))))))))))),
    (ss_seq (ss_if (st_or (st_not (st_B (sm_isi sm_var))) (st_or (st_test (sm_op (os_B fEq_ok) (sm_cb cs_Len (sa_cons sm_var sa_nil)) sm_int)) (st_not (st_B (sm_isi (sm_op os_Ix sm_var sm_int)))))) (ss_ret sm_non) ss_next)
    (ss_seq (ss_if (st_test (sm_op (os_B fEq_ok) sm_var (sm_tup (sa_cons sm_str sa_nil)))) (ss_ret (sm_tup (sa_cons sm_int (sa_cons sm_int (sa_cons (sm_lstF sa_nil) sa_nil))))) ss_next)
    (ss_seq (ss_if (st_and (st_test (sm_op (os_B fEq_ok) (sm_op os_Ix sm_var sm_int) sm_str)) (st_and (st_test (sm_op (os_B fEq_ok) (sm_cb cs_Len (sa_cons sm_var sa_nil)) sm_int)) (st_B (sm_callP (sa_cons (sm_op os_Ix sm_var sm_int) sa_nil))))) (ss_ret (sm_tup (sa_cons sm_int (sa_cons sm_int (sa_cons (sm_lstF (sa_cons (sm_op os_Ix sm_var sm_int) sa_nil)) sa_nil))))) ss_next)
    (ss_seq (ss_if (st_and (st_test (sm_op (os_B fEq_ok) (sm_op os_Ix sm_var sm_int) sm_str)) (st_and (st_test (sm_op (os_B fEq_ok) (sm_cb cs_Len (sa_cons sm_var sa_nil)) sm_int)) (st_and (st_B (sm_callP (sa_cons (sm_op os_Ix sm_var sm_int) sa_nil))) (st_B (sm_callP (sa_cons (sm_op os_Ix sm_var sm_int) sa_nil)))))) (ss_ret (sm_op os_Ix (sm_lstF (sa_cons sm_non (sa_cons (sm_tup (sa_cons sm_int (sa_cons sm_int (sa_cons (sm_lstF (sa_cons (sm_op os_Ix sm_var sm_int) sa_nil)) sa_nil)))) sa_nil))) (sm_cb (cs_D fIntB_ok) (sa_cons (sm_chain (os_D fLe_ok) (os_D fLe_ok) (sm_un (us_D fNeg_ok) (sm_op (os_D fPow_ok) sm_int sm_int)) (sm_op os_Ix sm_var sm_int) (sm_op (os_D fPow_ok) sm_int sm_int)) sa_nil)))) ss_next)
    (ss_seq (ss_if (st_or (st_test (sm_op os_Nin (sm_op os_Ix sm_var sm_int) (sm_lstF (sa_cons sm_str (sa_cons sm_str (sa_cons sm_str sa_nil)))))) (st_test (sm_op (os_Bn fNe_ok) (sm_cb cs_Len (sa_cons sm_var sa_nil)) (sm_op (os_D fSub_ok) sm_int (sm_cb (cs_D fIntB_ok) (sa_cons (sm_op (os_B fEq_ok) (sm_op os_Ix sm_var sm_int) sm_str) sa_nil)))))) (ss_ret sm_non) ss_next)
    (ss_seq (ss_asg sm_int sg_name)
    (ss_seq (ss_asg sm_int sg_name)
    (ss_seq (ss_asg (sm_lstF sa_nil) sg_name)
    (ss_seq (ss_for (si_any (sm_sl sm_var (so_some sm_int) so_none)) sg_name (ss_seq (ss_asg (sm_callP (sa_cons sm_var sa_nil)) sg_name)
    (ss_seq (ss_if (st_test (sm_op (os_D fIs_ok) sm_var sm_non)) (ss_ret sm_non) ss_next)
    (ss_seq (ss_asg (sm_cb (cs_D fMax_ok) (sa_cons sm_var (sa_cons (sm_op os_Ix sm_var sm_int) sa_nil))) sg_name)
    (ss_seq (ss_asg (sm_op (os_D fAdd_ok) sm_var (sm_op os_Ix sm_var sm_int)) sg_name)
    (ss_asg (sm_op (os_D fAdd_ok) sm_var (sm_op os_Ix sm_var sm_int)) sg_name))))))
    (ss_ret (sm_tup (sa_cons (sm_op (os_D fAdd_ok) sm_var sm_int) (sa_cons sm_var (sa_cons sm_var sa_nil))))))))))))))⟩
noncomputable def B_law : AS := (aSeq (aFor (aiR1 (aCons (aCB (cbD fMin) (aCons (aOp (opD fAdd) (aCB cbLen (aCons (aVar 0) aNil)) (aD (.int 2))) (aCons (aD (.int 12)) aNil))) aNil)) (agName 1) (aSeq (aAsg (aCallP A__law_thing (aCons (aVar 0) (aCons (aVar 1) aNil))) (agName 2))
    (aSeq (aAsg (aCallP (A__law_seen 60) (aCons (aVar 2) aNil)) (agName 3))
    (aSeq (aAsg (aAndV (aOp (opD fNis) (aVar 3) (aD .none)) (aAndV (aOp (opD fLe) (aOp opIx (aVar 3) (aD (.int 0))) (aD (.int 6))) (aAndV (aOp (opD fLe) (aOp opIx (aVar 3) (aD (.int 1))) (aD (.int 30))) (aOp (opD fLe) (aLenSet (aOp opIx (aVar 3) (aD (.int 2)))) (aD (.int 3)))))) (agName 4))
    (aSeq (aAsg (aCall A_is_rule (aCons (aVar 2) aNil)) (agName 5))
    (aIfS (aOr (aNot (aB (aIsi "bool" (aVar 5)))) (aB (aOp (opBn fEq) (aVar 5) (aVar 4)))) (aRet (aD (.bool false))) aNext))))))
    (aRet (aD (.bool true))))
noncomputable def A_law : AF := aDef 1 6 B_law
theorem ok_law (g : G K mg) : DkA P w K mg base 62 "law" ["_law_script"] A_law := g.f_law.dkA sc_law fun f cdv A outer s H E hr => ⟨_, (pss_cons (ps_for (passes_of rfl) rfl (pi_range1 (by rfl) g.b_range (pa_cons (bi (jMin rfl (K := K)) g.b_min (pa_cons (pe_op (kAdd (K := K)) (bi (kLenM (K := K)) g.b_len (pa_cons (pv 0) pa_nil)) pe_int) (pa_cons pe_int pa_nil))) pa_nil)) (pg_name (i := 1) sc_law.nd rfl (Or.inl rfl))
    (pss_cons (ps_set (i := 2) sc_law.nd rfl (Or.inl rfl) (clA (ok__law_thing g) hr (takes_of rfl rfl rfl rfl) (pa_cons (pv 0) (pa_cons (pv 1) pa_nil))))
    (pss_cons (ps_set (i := 3) sc_law.nd rfl (Or.inl rfl) (clA (ok__law_seen g 60) hr (takes_of rfl rfl rfl rfl) (pa_cons (pv 2) pa_nil)))
    (pss_cons (ps_set (i := 4) sc_law.nd rfl (Or.inl rfl) (pe_and (pe_cmpR (kNis (K := K)) (pv 3) pe_non (nomark _)) (pe_and (pe_cmpR (kLe (room0 hr) (K := K)) (pe_ix (kIxM (P := P) (w := w) (K := K) (hu_of hr)) (pv 3) pe_int (fun _ _ => rfl)) pe_int (nomark _)) (pe_and (pe_cmpR (kLe (room0 hr) (K := K)) (pe_ix (kIxM (P := P) (w := w) (K := K) (hu_of hr)) (pv 3) pe_int (fun _ _ => rfl)) pe_int (nomark _)) (pe_one (pe_cmpR (kLe (room0 hr) (K := K)) (bi (jLenK (P := P) (w := w)) g.b_len (pa_cons (bt (jSetL (K := K) (P := P) (w := w) rfl) g.b_set (pa_cons (pe_ix (kIxM (P := P) (w := w) (K := K) (hu_of hr)) (pv 3) pe_int (fun _ _ => rfl)) pa_nil)) pa_nil)) pe_int (nomark _)))))))
    (pss_cons (ps_set (i := 5) sc_law.nd rfl (Or.inl rfl) (clA (ok_is_rule g) hr (takes_of rfl rfl rfl rfl) (pa_cons (pv 2) pa_nil)))
    (pss_one (ps_if (PW.pt (pw_or (pt_not (pt_val (bi (jIsi (K := K)) g.b_isinstance (pa_cons (pv 5) (pa_cons (bty (n := "bool") g.b_bool) pa_nil))))) (pw_or1 (pt_cmpR (kNe (room64 hr) (K := K)) (pv 5) (pv 4) (nomark _)))))
    (pss_one (ps_ret pe_bl))
    pss_nil)))))))
    (pss_one (ps_ret pe_bl))),
    (ss_seq (ss_for (si_r1 (sa_cons (sm_cb (cs_D fMin_ok) (sa_cons (sm_op (os_D fAdd_ok) (sm_cb cs_Len (sa_cons sm_var sa_nil)) sm_int) (sa_cons sm_int sa_nil))) sa_nil)) sg_name (ss_seq (ss_asg (sm_callP (sa_cons sm_var (sa_cons sm_var sa_nil))) sg_name)
    (ss_seq (ss_asg (sm_callP (sa_cons sm_var sa_nil)) sg_name)
    (ss_seq (ss_asg (sm_and (sm_op (os_D fNis_ok) sm_var sm_non) (sm_and (sm_op (os_D fLe_ok) (sm_op os_Ix sm_var sm_int) sm_int) (sm_and (sm_op (os_D fLe_ok) (sm_op os_Ix sm_var sm_int) sm_int) (sm_op (os_D fLe_ok) (sm_lenSet (sm_op os_Ix sm_var sm_int)) sm_int)))) sg_name)
    (ss_seq (ss_asg (sm_call (sa_cons sm_var sa_nil)) sg_name)
    (ss_if (st_or (st_not (st_B (sm_isi sm_var))) (st_test (sm_op (os_Bn fNe_ok) sm_var sm_var))) (ss_ret sm_bl) ss_next))))))
    (ss_ret sm_bl))⟩
end

theorem atI_ints {ns : List Int} {i : Int} (h0 : 0 ≤ i) (h1 : i < (ns.length : Int)) : atI (ns.map PyData.int) i = some (.int (ns.getD i.toNat 0)) := by
  have hj : i.toNat < ns.length := by omega
  have e : i = ((i.toNat : Nat) : Int) := by omega
  have h : (ns.map PyData.int)[i.toNat]? = some (.int (ns.getD i.toNat 0)) := by
    rw [List.getElem?_map, List.getElem?_eq_getElem hj, List.getD_eq_getElem?_getD, List.getElem?_eq_getElem hj]
    rfl
  rw [e]
  exact atI_nat h
theorem atI_getD {α : Type} {ds : List α} {i : Int} (z : α) (h0 : 0 ≤ i) (h1 : i < (ds.length : Int)) : atI ds i = some (ds.getD i.toNat z) := by
  have hj : i.toNat < ds.length := by omega
  have e : i = ((i.toNat : Nat) : Int) := by omega
  have h : ds[i.toNat]? = some (ds.getD i.toNat z) := by
    rw [List.getElem?_eq_getElem hj, List.getD_eq_getElem?_getD, List.getElem?_eq_getElem hj]
    rfl
  exact (congrArg (atI ds) e).trans (atI_nat h)
def cellAt (ns : List Int) (k : Int) : Int := if ns.length = 0 then 0 else ns.getD (k % (ns.length : Int)).toNat 0
theorem pf_cell_at (ns : List Int) (k : Int) : pf A__law_cell_at [.list (ns.map PyData.int), .int k] = some (.ok (.int (cellAt ns k))) := by
  refine pf_of ?_
  refine vwhen (p := decide (((ns.map PyData.int).length : Int) = 0)) (by wtm_at "evt") (fun hb => ?_) fun hb => ?_
  · have hb := of_decide_eq_true hb
    rw [List.length_map] at hb
    refine wret (by wtm_at "ev") ?_
    show Av.d (.int 0) = _
    unfold cellAt
    rw [if_pos (by omega)]
  · have hb := of_decide_eq_false hb
    rw [List.length_map] at hb
    have hp : 0 < (((ns.map PyData.int).length : Nat) : Int) := by rw [List.length_map]; omega
    have h1 := Int.emod_nonneg k (show (((ns.map PyData.int).length : Nat) : Int) ≠ 0 by omega)
    have h2 := Int.emod_lt_of_pos k hp
    have hix : fIx (.list (ns.map PyData.int)) (.int (k % (((ns.map PyData.int).length : Nat) : Int))) = some (.int (ns.getD (k % (((ns.map PyData.int).length : Nat) : Int)).toNat 0)) := atI_ints h1 (by rw [List.length_map] at h2 ⊢; exact h2)
    refine wret (by wtm_at "ev") ?_
    show Av.d _ = _
    unfold cellAt
    rw [if_neg (by omega), List.length_map]
def lapOf (ns : List Int) (k : Int) : Int := k / max 1 (ns.length : Int)
def nearOf (ns : List Int) (k s : Int) : Int := (cellAt ns k % 2147483648 + 1009 * k * k + 7919 * s * s + 12) * 48271 % 2147483647
def mixF (ns : List Int) (k s : Int) : Int := (cellAt ns k / 2 ^ (31 * (s + 128 * lapOf ns k)).toNat + nearOf ns k s * nearOf ns k s % 2147483629) % 2147483648
theorem mixF_nn (ns : List Int) (k s : Int) : 0 ≤ mixF ns k s := by unfold mixF; omega
theorem mixF_lt (ns : List Int) (k s : Int) : mixF ns k s < 2147483648 := by unfold mixF; omega
theorem pf_mixed (ns : List Int) (k s : Int) (hl : ns.length ≤ 63) (hk : 0 ≤ k ∧ k ≤ 1000000) (hs : 0 ≤ s ∧ s ≤ 1000000) : pf A__law_mixed [.list (ns.map PyData.int), .int k, .int s] = some (.ok (.int (mixF ns k s))) := by
  have c := pf_cell_at ns k
  have hlen : (ns.map PyData.int).length = ns.length := List.length_map ..
  have hl0 : 0 ≤ k / max 1 (((ns.map PyData.int).length : Nat) : Int) := Int.ediv_nonneg hk.1 (by omega)
  refine pf_of ?_
  refine vset (by wtm_at "ev") ?_
  refine vset (by wtm_at "ev") ?_
  refine vset (by wtm_at "ev") ?_
  refine vset (by wtm_at "ev") ?_
  refine wret (by wtm_at "ev") ?_
  show Av.d _ = _
  unfold mixF nearOf lapOf
  rw [hlen]


/-! ### texts of given signs -/
def inS (signs z : Str) : Bool := z.cps.toList.all fun c => decide (c ∈ signs.cps.toList)
def madeF (signs : Str) (most : Int) : D → Bool
  | .str z => decide (1 ≤ (z.length : Int) ∧ (z.length : Int) ≤ most) && inS signs z
  | _ => false
def szD : D → Prop
  | .str z => z.length ≤ 50000
  | _ => True
abbrev lettersS : Str := "abcdefghijklmnopqrstuvwxyz"
abbrev signsS : Str := "abcdefghijklmnopqrstuvwxyz0123456789"
def sgIn (signs : Str) : D → Bool
  | .str z => decide (z.cps.toList.getD 0 0 ∈ signs.cps.toList)
  | _ => false
theorem madeF_str (signs : Str) (most : Int) (z : Str) : madeF signs most (.str z) = (decide (1 ≤ (z.length : Int) ∧ (z.length : Int) ≤ most) && inS signs z) := rfl
theorem sg_all (z signs : Str) : (z.cps.toList.map signD).map (fun d => PyData.bool (sgIn signs d)) = (z.cps.toList.map fun c => decide (c ∈ signs.cps.toList)).map PyData.bool := by
  rw [List.map_map, List.map_map]
  rfl
theorem sg_all1 (z signs : Str) : (z.cps.toList.map fun c => decide (c ∈ signs.cps.toList)).all id = inS signs z := by
  unfold inS
  rw [List.all_map]
  rfl
theorem notStr {d : D} (h : isStr d = false) (signs : Str) (most : Int) : madeF signs most d = false := by
  cases d <;> first | rfl | (simp [isStr] at h)
theorem isStr_of {d : D} (h : isStr d = true) : ∃ z, d = .str z := by
  cases d <;> first | exact ⟨_, rfl⟩ | (simp [isStr] at h)
/-! ### marks, as the program knows them -/
def nearI : D → Bool
  | .int n => decide (-1000000000000000000000000000000 ≤ n ∧ n ≤ 1000000000000000000000000000000)
  | _ => false
def markD : D → Bool
  | .tuple [x, y] => madeF lettersS 12 x && nearI y
  | _ => false
def wordOf : D → Str
  | .tuple (.str w :: _) => w
  | _ => ""
def marksGo : List Str → List D → Bool
  | _, [] => true
  | ws, d :: ds => if markD d = true then (if wordOf d ∈ ws then false else marksGo (ws ++ [wordOf d]) ds) else false
def areM : D → Bool
  | .tuple ds => decide (ds.length ≤ 8) && marksGo [] ds
  | _ => false
def itemOk (d : D) : Prop := ∀ x y, d = .tuple [x, y] → szD x
def thingOk : D → Prop
  | .tuple ds => ∀ d ∈ ds, itemOk d
  | _ => True
theorem whole_int {d : D} (h : (isInt d && !isBol d) = true) : ∃ n, d = .int n := by
  cases d <;> first | exact ⟨_, rfl⟩ | (simp [isInt, isBol] at h)
theorem near_no {d : D} (h : (isInt d && !isBol d) = false) : nearI d = false := by
  cases d <;> first | rfl | (simp [isInt, isBol] at h)
theorem lett_strOk : ∀ c ∈ lettersS.cps.toList, c < 0x110000 := by decide +kernel
theorem strOk_iff (x : Str) : PyData.strOk x = true ↔ ∀ c ∈ x.cps.toList, c < 0x110000 := by
  unfold PyData.strOk
  rw [← Array.all_toList, List.all_eq_true]
  simp
theorem made_strOk {z : Str} {most : Int} (h : madeF lettersS most (.str z) = true) : PyData.strOk z = true := by
  rw [madeF_str, Bool.and_eq_true] at h
  rw [strOk_iff]
  intro c hc
  have h2 := h.2
  unfold inS at h2
  rw [List.all_eq_true] at h2
  exact lett_strOk c (of_decide_eq_true (h2 c hc))
theorem isTup_of {d : D} (h : isTup d = true) : ∃ ds, d = .tuple ds := by
  cases d <;> first | exact ⟨_, rfl⟩ | (simp [isTup] at h)
theorem markD_no {d : D} (h : isTup d = false) : markD d = false := by
  cases d <;> first | rfl | (simp [isTup] at h)
theorem markD_len {ds : List D} (h : ds.length ≠ 2) : markD (.tuple ds) = false := by
  match ds with
  | [] => rfl
  | [_] => rfl
  | [_, _] => exact absurd rfl h
  | _ :: _ :: _ :: _ => rfl
theorem two_of {ds : List D} (h : ds.length = 2) : ∃ x y, ds = [x, y] := by
  match ds with
  | [x, y] => exact ⟨x, y, rfl⟩
theorem strs_shaped0 : ∀ zs : List Str, (∀ z ∈ zs, PyData.strOk z = true) → PyData.canLayAll0 (zs.map PyData.str) = true ∧ PyData.depthAll (zs.map PyData.str) ≤ 1
  | [], _ => ⟨by simp [PyData.canLayAll0], by simp [PyData.depthAll]⟩
  | z :: zs, h => by
    have ih := strs_shaped0 zs fun y hy => h y (List.mem_cons_of_mem _ hy)
    refine ⟨?_, ?_⟩
    · simp only [List.map_cons, PyData.canLayAll0, PyData.canLay0, Bool.and_eq_true]
      exact ⟨h z (List.mem_cons_self ..), ih.1⟩
    · have i2 := ih.2
      simp only [List.map_cons, PyData.depthAll, PyData.depth]
      omega
theorem shaped_of {d : D} (h1 : PyData.canLay0 d = true) (h2 : PyData.depth d ≤ 64) : SeqAt.shaped d = true := by
  show (PyData.canLay0 d && decide (PyData.depth d ≤ 64)) = true
  rw [h1, decide_eq_true h2]
  rfl
theorem strs_shaped {zs : List Str} (h : ∀ z ∈ zs, PyData.strOk z = true) : SeqAt.shaped (.list (zs.map PyData.str)) = true := by
  have h1 := strs_shaped0 zs h
  refine shaped_of (by simp only [PyData.canLay0]; exact h1.1) ?_
  simp only [PyData.depth]
  omega
theorem str_shaped {z : Str} (h : PyData.strOk z = true) : SeqAt.shaped (.str z) = true := shaped_of (by simp only [PyData.canLay0]; exact h) (by simp [PyData.depth])
theorem eqv_str (a b : Str) : PyData.eqv (.str a) (.str b) = decide (a = b) := by
  have h : PyData.eqv (.str a) (.str b) = (a == b) := by simp [PyData.eqv]
  rw [h, Bool.eq_iff_iff]
  simp
theorem any_strs (zs : List Str) (w : Str) : ((zs.map PyData.str).any fun z => PyData.eqv z (.str w)) = decide (w ∈ zs) := by
  induction zs with
  | nil => rfl
  | cons z zs ih =>
    rw [List.map_cons, List.any_cons, ih, eqv_str]
    by_cases e : z = w
    · subst e; simp
    · have e' : ¬ w = z := fun q => e q.symm
      simp [e, e']
theorem goStep {ws : List Str} {d : D} {ds : List D} : marksGo ws (d :: ds) = if markD d = true then (if wordOf d ∈ ws then false else marksGo (ws ++ [wordOf d]) ds) else false := rfl

theorem pf_whole (d : D) : pf A_is_whole [d] = some (.ok (.bool (isInt d && !isBol d))) := pf_of (wret (by wtm_at "ev") rfl)
theorem pf_lwhole (d : D) : pf A__law_whole [d] = some (.ok (.bool (isInt d && !isBol d))) := pf_of (wret (by wtm_at "ev") rfl)
theorem pf_made (d : D) (signs : Str) (most : Int) (h : szD d) : pf A_made_of [d, .str signs, .int most] = some (.ok (.bool (madeF signs most d))) := by
  refine pf_of ?_
  cases hd : isStr d with
  | false =>
    refine vwhen (p := true || true) (t_or (t_to (by wtm_at "evt") (by rw [hd]; rfl)) fun z => nomatch z) (fun hb => ?_) fun hb => nomatch hb
    refine wret (by wtm_at "ev") ?_
    show Av.d (.bool false) = _
    rw [notStr hd]
  | true =>
    obtain ⟨z, rfl⟩ := isStr_of hd
    have h : z.length ≤ 50000 := h
    refine vwhen (p := !decide (1 ≤ (z.length : Int) ∧ (z.length : Int) ≤ most)) (t_to (by wtm_at "evt") ?_) (fun hb => ?_) fun hb => ?_
    · simp [isStr]
    · refine wret (by wtm_at "ev") ?_
      show Av.d (.bool false) = _
      rw [madeF_str, decide_eq_false (no_of hb)]; rfl
    · have hb := yes_of hb
      have hl : (z.cps.toList.map signD).length ≤ 100000 := by rw [List.length_map]; exact Nat.le_trans h (by omega)
      refine wret (e_cb (es_cons (aLc_map1 (fun d => .bool (sgIn signs d)) (by wtm_at "evi") hl fun d hm => ?_) es_nil) (f_cbD rfl (r := .bool (inS signs z)) ?_)) ?_
      · obtain ⟨c, _, rfl⟩ := List.mem_map.mp hm
        exact ⟨_, rfl, by wtm_at "ev"⟩
      · rw [sg_all, fAll_bools, sg_all1]
      · show Av.d _ = Av.d _
        rw [madeF_str, decide_eq_true hb]; rfl
theorem pf_word (d : D) (h : szD d) : pf A_is_word [d] = some (.ok (.bool (madeF lettersS 12 d))) := by
  have := pf_made d lettersS 12 h
  exact pf_of (wret (by wtm_at "ev") rfl)
theorem pf_near (d : D) : pf A_is_near [d] = some (.ok (.bool (nearI d))) := by
  have hw := pf_whole d
  refine pf_of ?_
  cases hq : (isInt d && !isBol d) with
  | false =>
    rw [hq] at hw
    refine wret (e_andV (p := false) (by wtm_at "ev") (q := false) (fun z => nomatch z)) ?_
    show Av.d _ = Av.d _
    rw [near_no hq]; rfl
  | true =>
    obtain ⟨n, rfl⟩ := whole_int hq
    refine wret (by wtm_at "ev") ?_
    show Av.d _ = Av.d _
    simp [isInt, isBol, nearI]

/-! ### rules, seen step by step -/
inductive Kd where
  | any | has (x : D) | least (x y : D) | not (a : D) | two (a b : D) | bad
def view : D → Kd
  | .tuple [.str w] => if w = "any" then .any else .bad
  | .tuple [.str w, x] => if w = "has" then .has x else if w = "not" then .not x else .bad
  | .tuple [.str w, x, y] => if w = "least" then .least x y else if w = "both" ∨ w = "either" then .two x y else .bad
  | _ => .bad
def shF : Nat → D → Bool
  | 0, _ => false
  | n + 1, d => match view d with
    | .any => true
    | .has x => madeF lettersS 12 x
    | .least x y => madeF lettersS 12 x && nearI y
    | .not a => shF n a
    | .two a b => shF n a && shF n b
    | .bad => false
def txt : D → Str
  | .str z => z
  | _ => ""
structure Sn where
  high : Nat
  many : Nat
  words : List Str
def seenF : Nat → D → Option Sn
  | 0, _ => none
  | n + 1, d => match view d with
    | .any => some ⟨1, 1, []⟩
    | .has x => if madeF lettersS 12 x = true then some ⟨1, 1, [txt x]⟩ else none
    | .least x y => if (madeF lettersS 12 x && nearI y) = true then some ⟨1, 1, [txt x]⟩ else none
    | .not a => match seenF n a with
      | some s => some ⟨s.high + 1, s.many + 1, s.words⟩
      | none => none
    | .two a b => match seenF n a, seenF n b with
      | some s, some r => some ⟨max s.high r.high + 1, 1 + s.many + r.many, s.words ++ r.words⟩
      | _, _ => none
    | .bad => none
def fine : Nat → D → Prop
  | 0, _ => False
  | k + 1, d => SeqAt.shaped d = true ∧ match view d with
    | .has x => szD x
    | .least x _ => szD x
    | .not a => fine k a
    | .two a b => fine k a ∧ fine k b
    | _ => True
theorem fine_sh : ∀ {k : Nat} {d : D}, fine k d → SeqAt.shaped d = true
  | k + 1, d, h => h.1
theorem fine_up : ∀ {k j : Nat} {d : D}, fine k d → k ≤ j → fine j d
  | k + 1, 0, d, h, e => absurd e (by omega)
  | k + 1, j + 1, d, h, e => by
    refine ⟨h.1, ?_⟩
    have h2 := h.2
    cases hv : view d <;> rw [hv] at h2 <;> simp only at h2 ⊢
    · exact h2
    · exact h2
    · exact fine_up h2 (by omega)
    · exact ⟨fine_up h2.1 (by omega), fine_up h2.2 (by omega)⟩
theorem sh_seen : ∀ (n k : Nat) (d : D), n ≤ k → shF n d = true → ∃ s, seenF k d = some s ∧ s.high ≤ n
  | 0, k, d, _, h => nomatch h
  | n + 1, 0, d, e, h => absurd e (by omega)
  | n + 1, k + 1, d, e, h => by
    have h : (match view d with
      | .any => true
      | .has x => madeF lettersS 12 x
      | .least x y => madeF lettersS 12 x && nearI y
      | .not a => shF n a
      | .two a b => shF n a && shF n b
      | .bad => false) = true := h
    unfold seenF
    cases hv : view d <;> rw [hv] at h <;> simp only at h ⊢
    · exact ⟨_, rfl, by show 1 ≤ _; omega⟩
    · exact ⟨_, if_pos h, by show 1 ≤ _; omega⟩
    · exact ⟨_, if_pos h, by show 1 ≤ _; omega⟩
    · obtain ⟨s, e1, e2⟩ := sh_seen n k _ (by omega) h
      rw [e1]
      exact ⟨_, rfl, by show s.high + 1 ≤ _; omega⟩
    · rw [Bool.and_eq_true] at h
      obtain ⟨s, e1, e2⟩ := sh_seen n k _ (by omega) h.1
      obtain ⟨r, e3, e4⟩ := sh_seen n k _ (by omega) h.2
      rw [e1, e3]
      exact ⟨_, rfl, by show max s.high r.high + 1 ≤ _; omega⟩
    · cases h
theorem seen_sh : ∀ (k n : Nat) (d : D) (s : Sn), seenF k d = some s → s.high ≤ n → shF n d = true
  | 0, n, d, s, h, _ => nomatch h
  | k + 1, n, d, s, h, e => by
    unfold seenF at h
    cases hv : view d <;> rw [hv] at h <;> simp only at h
    · cases h
      match n, e with
      | n + 1, _ => show (match view d with | .any => _ | .has x => _ | .least x y => _ | .not a => _ | .two a b => _ | .bad => _) = true; rw [hv]
    · split at h
      · rename_i hm
        cases h
        match n, e with
        | n + 1, _ => show (match view d with | .any => _ | .has x => _ | .least x y => _ | .not a => _ | .two a b => _ | .bad => _) = true; rw [hv]; exact hm
      · cases h
    · split at h
      · rename_i hm
        cases h
        match n, e with
        | n + 1, _ => show (match view d with | .any => _ | .has x => _ | .least x y => _ | .not a => _ | .two a b => _ | .bad => _) = true; rw [hv]; exact hm
      · cases h
    · split at h
      · rename_i s1 e1
        cases h
        match n, e with
        | n + 1, e => 
          show (match view d with | .any => _ | .has x => _ | .least x y => _ | .not a => _ | .two a b => _ | .bad => _) = true; rw [hv]
          exact seen_sh k n _ _ e1 (by have e : s1.high + 1 ≤ n + 1 := e; omega)
      · cases h
    · split at h
      · rename_i s1 s2 e1 e2
        cases h
        match n, e with
        | n + 1, e => 
          have e : max s1.high s2.high + 1 ≤ n + 1 := e
          show (match view d with | .any => _ | .has x => _ | .least x y => _ | .not a => _ | .two a b => _ | .bad => _) = true; rw [hv]
          simp only [Bool.and_eq_true]
          exact ⟨seen_sh k n _ _ e1 (by omega), seen_sh k n _ _ e2 (by omega)⟩
      · cases h
    · cases h


def isW (s : Str) : D → Bool
  | .str z => decide (z = s)
  | _ => false
theorem fEq_word {x : D} {s : Str} (hx : SeqAt.shaped x = true) (hs : SeqAt.shaped (.str s) = true) : fEq x (.str s) = some (isW s x) := by
  cases hq : isStr x with
  | true => obtain ⟨z, rfl⟩ := isStr_of hq; rfl
  | false =>
    have e : fEq x (.str s) = if SeqAt.shaped x = true ∧ SeqAt.shaped (.str s) = true then some (PyData.eqv x (.str s)) else none := by
      cases x <;> first | rfl | (simp [isStr] at hq)
    rw [e, if_pos ⟨hx, hs⟩]
    cases x <;> first | (simp [isStr] at hq; done) | simp [PyData.eqv, isW]
theorem isW_of {x : D} {s : Str} (h : isW s x = true) : x = .str s := by
  cases x <;> first
    | (have h := of_decide_eq_true h; rw [h]; done)
    | (exact (nomatch h))
theorem w_any : SeqAt.shaped (.str "any") = true := by decide +kernel
theorem w_has : SeqAt.shaped (.str "has") = true := by decide +kernel
theorem w_least : SeqAt.shaped (.str "least") = true := by decide +kernel
theorem w_not : SeqAt.shaped (.str "not") = true := by decide +kernel
theorem w_both : SeqAt.shaped (.str "both") = true := by decide +kernel
theorem w_either : SeqAt.shaped (.str "either") = true := by decide +kernel
theorem shaped_all {n : Nat} : ∀ {ds : List D}, PyData.canLayAll0 ds = true → PyData.depthAll ds ≤ n → ∀ d ∈ ds, PyData.canLay0 d = true ∧ PyData.depth d ≤ n
  | [], _, _, d, hd => nomatch hd
  | x :: xs, h1, h2, d, hd => by
    simp only [PyData.canLayAll0, Bool.and_eq_true] at h1
    simp only [PyData.depthAll] at h2
    rcases List.mem_cons.mp hd with rfl | hd
    · exact ⟨h1.1, by omega⟩
    · exact shaped_all h1.2 (by omega) d hd
theorem shaped_iff {d : D} : SeqAt.shaped d = true ↔ PyData.canLay0 d = true ∧ PyData.depth d ≤ 64 := by
  have e : SeqAt.shaped d = (PyData.canLay0 d && decide (PyData.depth d ≤ 64)) := rfl
  rw [e, Bool.and_eq_true, decide_eq_true_eq]
theorem shaped_tup {ds : List D} (h : SeqAt.shaped (.tuple ds) = true) : ∀ d ∈ ds, SeqAt.shaped d = true := by
  intro d hd
  have h := shaped_iff.mp h
  simp only [PyData.canLay0, PyData.depth] at h
  obtain ⟨h1, h2⟩ := shaped_all h.1 (n := 64) (by omega) d hd
  exact shaped_iff.mpr ⟨h1, h2⟩
theorem view_no {d : D} (h : isTup d = false) : view d = .bad := by
  cases d <;> first | rfl | (simp [isTup] at h)
/-- the word of none of the six: no rule -/
theorem view_un {x : D} {rest : List D} (h1 : isW "any" x = false) (h2 : isW "has" x = false) (h3 : isW "least" x = false) (h4 : isW "not" x = false) (h5 : isW "both" x = false) (h6 : isW "either" x = false) : view (.tuple (x :: rest)) = .bad := by
  cases x <;> first
    | rfl
    | skip
  rename_i w
  have h1 : ¬ w = "any" := of_decide_eq_false h1
  have h2 : ¬ w = "has" := of_decide_eq_false h2
  have h3 : ¬ w = "least" := of_decide_eq_false h3
  have h4 : ¬ w = "not" := of_decide_eq_false h4
  have h5 : ¬ w = "both" := of_decide_eq_false h5
  have h6 : ¬ w = "either" := of_decide_eq_false h6
  match rest with
  | [] => unfold view; simp [h1]
  | [a] => unfold view; simp [h2, h4]
  | [a, b] => unfold view; simp [h3, h5, h6]
  | _ :: _ :: _ :: _ => rfl
theorem shF_bad {n : Nat} {d : D} (h : view d = .bad) : shF n d = false := by
  cases n with
  | zero => rfl
  | succ n => unfold shF; rw [h]
theorem fin_at {k : Nat} {d : D} (h : fine (k + 1) d) : SeqAt.shaped d = true ∧ match view d with
    | .has x => szD x
    | .least x _ => szD x
    | .not a => fine k a
    | .two a b => fine k a ∧ fine k b
    | _ => True := h


theorem fIx0 (x : D) (rest : List D) : fIx (.tuple (x :: rest)) (.int 0) = some x := atI_nat (xs := x :: rest) (j := 0) rfl
theorem view_any0 (rest : List D) : view (.tuple (.str "any" :: rest)) = if rest.length = 0 then .any else .bad := by
  match rest with
  | [] => rfl
  | [_] => rfl
  | [_, _] => rfl
  | _ :: _ :: _ :: _ => rfl
theorem shF_any {n : Nat} {rest : List D} : shF (n + 1) (.tuple (.str "any" :: rest)) = decide ((((PyData.str "any" :: rest).length : Nat) : Int) = 1) := by
  unfold shF
  rw [view_any0]
  split
  · rename_i h
    split at h
    · rename_i h2
      exact (decide_eq_true (by rw [List.length_cons]; omega)).symm
    · cases h
  all_goals rename_i h
  all_goals split at h
  all_goals first | (cases h; done) | skip
  rename_i h2
  exact (decide_eq_false (by rw [List.length_cons]; omega)).symm
theorem fine_has {k : Nat} {x : D} (h : fine (k + 1) (.tuple [.str "has", x])) : szD x := h.2
theorem fine_least {k : Nat} {x y : D} (h : fine (k + 1) (.tuple [.str "least", x, y])) : szD x := h.2
theorem fine_not {k : Nat} {x : D} (h : fine (k + 1) (.tuple [.str "not", x])) : fine k x := h.2
theorem fine_both {k : Nat} {x y : D} (h : fine (k + 1) (.tuple [.str "both", x, y])) : fine k x ∧ fine k y := h.2
theorem fine_either {k : Nat} {x y : D} (h : fine (k + 1) (.tuple [.str "either", x, y])) : fine k x ∧ fine k y := h.2
theorem bad_has {rest : List D} (h : ((PyData.str "has" :: rest).length : Int) ≠ 2) : view (.tuple (.str "has" :: rest)) = .bad := by
  match rest, h with
  | [], _ => rfl
  | [_], h => exact absurd rfl h
  | [_, _], _ => rfl
  | _ :: _ :: _ :: _, _ => rfl
theorem bad_not {rest : List D} (h : ((PyData.str "not" :: rest).length : Int) ≠ 2) : view (.tuple (.str "not" :: rest)) = .bad := by
  match rest, h with
  | [], _ => rfl
  | [_], h => exact absurd rfl h
  | [_, _], _ => rfl
  | _ :: _ :: _ :: _, _ => rfl
theorem bad_3 {w : Str} {rest : List D} (hw : w = "least" ∨ w = "both" ∨ w = "either") (h : ((PyData.str w :: rest).length : Int) ≠ 3) : view (.tuple (.str w :: rest)) = .bad := by
  match rest, h with
  | [], _ => rcases hw with rfl | rfl | rfl <;> rfl
  | [_], _ => rcases hw with rfl | rfl | rfl <;> rfl
  | [_, _], h => exact absurd rfl h
  | _ :: _ :: _ :: _, _ => rfl
theorem one_of {rest : List D} {x : D} (h : ((x :: rest).length : Int) = 2) : ∃ a, rest = [a] := by
  match rest, h with
  | [a], _ => exact ⟨a, rfl⟩
  | [], h => simp at h
  | _ :: _ :: _, h => simp at h; omega
theorem two_of1 {rest : List D} {x : D} (h : ((x :: rest).length : Int) = 3) : ∃ a b, rest = [a, b] := by
  match rest, h with
  | [a, b], _ => exact ⟨a, b, rfl⟩
  | [], h => simp at h
  | [_], h => simp at h
  | _ :: _ :: _ :: _, h => simp at h; omega
theorem nn {n : Nat} : ((n + 1 : Nat) : Int) - 1 = (n : Int) := by omega
theorem pf_sh : ∀ (n k : Nat) (d : D), fine k d → pf (A_is_shaped (n + 1)) [d, .int (n : Int)] = some (.ok (.bool (shF n d)))
  | 0, k, d, hf => by
    rw [A_is_shaped_succ]
    refine pf_of ?_
    refine vwhen (p := true || true) (t_or (t_to (by wtm_at "evt") rfl) fun z => nomatch z) (fun hb => ?_) fun hb => nomatch hb
    refine wret (by wtm_at "ev") ?_
    rfl
  | n + 1, k + 1, d, hf => by
    have hs := hf.1
    rw [A_is_shaped_succ]
    refine pf_of ?_
    have n0 : decide (((n + 1 : Nat) : Int) = 0) = false := decide_eq_false (by omega)
    cases hti : isTup d with
    | false =>
      refine vwhen (p := false || (true || true)) (t_or (p := false) (t_to (by wtm_at "evt") n0) fun _ => t_or (t_to (by wtm_at "evt") (by rw [hti]; rfl)) fun z => nomatch z) (fun hb => ?_) fun hb => nomatch hb
      refine wret (by wtm_at "ev") ?_
      show Av.d (.bool false) = _
      rw [shF_bad (view_no hti)]
    | true =>
      obtain ⟨ys, rfl⟩ := isTup_of hti
      match ys, hf, hs with
      | [], hf, hs =>
        refine vwhen (p := false || (false || true)) (t_or (p := false) (t_to (by wtm_at "evt") n0) fun _ => t_or (p := false) (t_to (by wtm_at "evt") (by rfl)) fun _ => t_to (by wtm_at "evt") (by rfl)) (fun hb => ?_) fun hb => nomatch hb
        refine wret (by wtm_at "ev") ?_
        rfl
      | x :: rest, hf, hs =>
        have hx := shaped_tup hs x (List.mem_cons_self ..)
        have e1 := fEq_word hx w_any
        have e2 := fEq_word hx w_has
        have e3 := fEq_word hx w_least
        have e4 := fEq_word hx w_not
        have e5 := fEq_word hx w_both
        have e6 := fEq_word hx w_either
        have k0 := fIx0 x rest
        refine vwhen (p := false || (false || false)) (t_or (p := false) (t_to (by wtm_at "evt") n0) fun _ => t_or (p := false) (t_to (by wtm_at "evt") (by rfl)) fun _ => t_to (by wtm_at "evt") (by simp; omega)) (fun hb => nomatch hb) fun _ => ?_
        refine vset (by wtm_at "ev") ?_
        refine vwhen (by wtm_at "evt") (fun hb => ?_) fun h1 => ?_
        · cases isW_of hb
          refine wret (by wtm_at "ev") ?_
          show Av.d _ = Av.d (.bool (shF (n + 1) _))
          rw [shF_any]
        refine vwhen (by wtm_at "evt") (fun hb => ?_) fun h2 => ?_
        · cases isW_of hb
          by_cases hl : ((PyData.str "has" :: rest).length : Int) = 2
          · obtain ⟨a, rfl⟩ := one_of hl
            have i1 := pf_word a (fine_has hf)
            have k1 : fIx (.tuple [.str "has", a]) (.int 1) = some a := rfl
            refine wret (by wtm_at "ev") ?_
            rfl
          · refine wret (e_andV (p := false) (q := false) (e_to (by wtm_at "ev") (by rw [decide_eq_false hl])) fun z => nomatch z) ?_
            show Av.d (.bool false) = _
            rw [shF_bad (bad_has hl)]
        refine vwhen (by wtm_at "evt") (fun hb => ?_) fun h3 => ?_
        · cases isW_of hb
          by_cases hl : ((PyData.str "least" :: rest).length : Int) = 3
          · obtain ⟨a, b, rfl⟩ := two_of1 hl
            have i1 := pf_word a (fine_least hf)
            have i2 := pf_near b
            have k1 : fIx (.tuple [.str "least", a, b]) (.int 1) = some a := rfl
            have k2 : fIx (.tuple [.str "least", a, b]) (.int 2) = some b := rfl
            refine wret (by wtm_at "ev") ?_
            rfl
          · refine wret (e_andV (p := false) (q := false) (e_to (by wtm_at "ev") (by rw [decide_eq_false hl])) fun z => nomatch z) ?_
            show Av.d (.bool false) = _
            rw [shF_bad (bad_3 (by decide) hl)]
        refine vwhen (by wtm_at "evt") (fun hb => ?_) fun h4 => ?_
        · cases isW_of hb
          by_cases hl : ((PyData.str "not" :: rest).length : Int) = 2
          · obtain ⟨a, rfl⟩ := one_of hl
            have i1 := pf_sh n k a (fine_not hf)
            rw [← nn] at i1
            have k1 : fIx (.tuple [.str "not", a]) (.int 1) = some a := rfl
            refine wret (by wtm_at "ev") ?_
            rfl
          · refine wret (e_andV (p := false) (q := false) (e_to (by wtm_at "ev") (by rw [decide_eq_false hl])) fun z => nomatch z) ?_
            show Av.d (.bool false) = _
            rw [shF_bad (bad_not hl)]
        refine vwhen (by wtm_at "evt") (fun hb => ?_) fun h5 => ?_
        · rw [Bool.or_eq_true] at hb
          rcases hb with hb | hb
          · cases isW_of hb
            by_cases hl : ((PyData.str "both" :: rest).length : Int) = 3
            · obtain ⟨a, b, rfl⟩ := two_of1 hl
              have i1 := pf_sh n k a (fine_both hf).1
              have i2 := pf_sh n k b (fine_both hf).2
              rw [← nn] at i1 i2
              have k1 : fIx (.tuple [.str "both", a, b]) (.int 1) = some a := rfl
              have k2 : fIx (.tuple [.str "both", a, b]) (.int 2) = some b := rfl
              refine wret (by wtm_at "ev") ?_
              rfl
            · refine wret (e_andV (p := false) (q := false) (e_to (by wtm_at "ev") (by rw [decide_eq_false hl])) fun z => nomatch z) ?_
              show Av.d (.bool false) = _
              rw [shF_bad (bad_3 (by decide) hl)]
          · cases isW_of hb
            by_cases hl : ((PyData.str "either" :: rest).length : Int) = 3
            · obtain ⟨a, b, rfl⟩ := two_of1 hl
              have i1 := pf_sh n k a (fine_either hf).1
              have i2 := pf_sh n k b (fine_either hf).2
              rw [← nn] at i1 i2
              have k1 : fIx (.tuple [.str "either", a, b]) (.int 1) = some a := rfl
              have k2 : fIx (.tuple [.str "either", a, b]) (.int 2) = some b := rfl
              refine wret (by wtm_at "ev") ?_
              rfl
            · refine wret (e_andV (p := false) (q := false) (e_to (by wtm_at "ev") (by rw [decide_eq_false hl])) fun z => nomatch z) ?_
              show Av.d (.bool false) = _
              rw [shF_bad (bad_3 (by decide) hl)]
        · refine wret (by wtm_at "ev") ?_
          rw [Bool.or_eq_false_iff] at h5
          show Av.d (.bool false) = _
          rw [shF_bad (view_un h1 h2 h3 h4 h5.1 h5.2)]


/-! ### parts counted, words gathered -/
theorem view_any_inv {d : D} (h : view d = .any) : d = .tuple [.str "any"] := by
  unfold view at h
  split at h
  · split at h
    · rename_i w hw; rw [hw]
    · cases h
  · split at h
    · cases h
    · split at h <;> cases h
  · split at h
    · cases h
    · split at h <;> cases h
  · cases h
theorem view_has_inv {d x : D} (h : view d = .has x) : d = .tuple [.str "has", x] := by
  unfold view at h
  split at h
  · split at h <;> cases h
  · split at h
    · rename_i w y hw; cases h; rw [hw]
    · split at h <;> cases h
  · split at h
    · cases h
    · split at h <;> cases h
  · cases h
theorem view_not_inv {d x : D} (h : view d = .not x) : d = .tuple [.str "not", x] := by
  unfold view at h
  split at h
  · split at h <;> cases h
  · split at h
    · cases h
    · split at h
      · rename_i w y _ hw; cases h; rw [hw]
      · cases h
  · split at h
    · cases h
    · split at h <;> cases h
  · cases h
theorem view_least_inv {d x y : D} (h : view d = .least x y) : d = .tuple [.str "least", x, y] := by
  unfold view at h
  split at h
  · split at h <;> cases h
  · split at h
    · cases h
    · split at h <;> cases h
  · split at h
    · rename_i w a b hw; cases h; rw [hw]
    · split at h <;> cases h
  · cases h
theorem view_two_inv {d x y : D} (h : view d = .two x y) : d = .tuple [.str "both", x, y] ∨ d = .tuple [.str "either", x, y] := by
  unfold view at h
  split at h
  · split at h <;> cases h
  · split at h
    · cases h
    · split at h <;> cases h
  · split at h
    · cases h
    · split at h
      · rename_i w a b _ hw
        cases h
        rcases hw with rfl | rfl
        · exact .inl rfl
        · exact .inr rfl
      · cases h
  · cases h
theorem in_leaf (w : Str) : inB [] (.d (.str w)) (.d (.tuple [.str "any", .str "has", .str "least"])) = some (decide (w ∈ (["any", "has", "least"] : List Str))) := inT_strs w ["any", "has", "least"]
theorem pf_in_leaf {w : Str} {rest : List D} (h0 : decide (w ∈ (["any", "has", "least"] : List Str)) = true) : pf A_rules_in [.tuple (.str w :: rest)] = some (.ok (.list [])) := by
  have k0 := fIx0 (.str w) rest
  have h := in_leaf w
  rw [h0] at h
  refine pf_of ?_
  refine vwhen (p := true) (by wtm_at "evt") (fun hb => ?_) fun hb => nomatch hb
  refine wret (by wtm_at "ev") ?_
  rfl
theorem pf_in_more {w : Str} {rest : List D} (h0 : decide (w ∈ (["any", "has", "least"] : List Str)) = false) (h2 : fSl (.tuple (.str w :: rest)) (some 1) none = some (.tuple rest)) : pf A_rules_in [.tuple (.str w :: rest)] = some (.ok (.list rest)) := by
  have k0 := fIx0 (.str w) rest
  have k1 : seqD [] (.d (.tuple rest)) = some rest := rfl
  have h := in_leaf w
  rw [h0] at h
  refine pf_of ?_
  refine vwhen (p := false) (by wtm_at "evt") (fun hb => nomatch hb) fun hb => ?_
  refine wret (by wtm_at "ev") ?_
  rfl
def mny (k : Nat) (d : D) : Int := match seenF k d with
  | some s => (s.many : Int)
  | none => 0
theorem pf_parts0 (n : Nat) (d : D) (ds : List D) (ns : List Int) (f : D → Int) (h1 : pf A_rules_in [d] = some (.ok (.list ds))) (h2 : ds.length ≤ 100) (h3 : ∀ e ∈ ds, pf (A_many_parts n) [e] = some (.ok (.int (f e)))) (h4 : ds.map f = ns) :
    pf (A_many_parts (n + 1)) [d] = some (.ok (.int (1 + ns.sum))) := by
  rw [A_many_parts_succ]
  refine pf_of ?_
  have hs := fSum_ints ns
  have e : (ds.map fun e => PyData.int (f e)) = ns.map PyData.int := by rw [← h4, List.map_map]; rfl
  rw [← e] at hs
  refine wret (e_op e_D (e_cb (es_cons (aLc_map1 (fun e => .int (f e)) (by wtm_at "evi") (by omega) fun e he => ?_) es_nil) (f_cbD rfl hs)) (f_D rfl)) ?_
  · have := h3 e he
    exact ⟨_, rfl, by wtm_at "ev"⟩
  · rfl
theorem pf_parts : ∀ (n k : Nat) (d : D) (s : Sn), seenF k d = some s → s.high ≤ n → pf (A_many_parts n) [d] = some (.ok (.int (s.many : Int)))
  | n, 0, d, s, h, _ => nomatch h
  | 0, k + 1, d, s, h, e => by
    exfalso
    unfold seenF at h
    cases hv : view d <;> rw [hv] at h <;> simp only at h
    · cases h; exact absurd e (by show ¬ 1 ≤ 0; omega)
    · split at h
      · cases h; exact absurd e (by show ¬ 1 ≤ 0; omega)
      · cases h
    · split at h
      · cases h; exact absurd e (by show ¬ 1 ≤ 0; omega)
      · cases h
    · split at h
      · cases h; exact absurd e (by show ¬ _ + 1 ≤ 0; omega)
      · cases h
    · split at h
      · cases h; exact absurd e (by show ¬ _ + 1 ≤ 0; omega)
      · cases h
    · cases h
  | n + 1, k + 1, d, s, h, e => by
    unfold seenF at h
    cases hv : view d with
    | any =>
      rw [hv] at h
      cases h
      have := view_any_inv hv
      subst this
      exact pf_parts0 n _ [] [] (fun _ => 0) (pf_in_leaf (by decide +kernel)) (by simp) (fun e he => nomatch he) rfl
    | has x =>
      rw [hv] at h
      simp only at h
      split at h
      · cases h
        have := view_has_inv hv
        subst this
        exact pf_parts0 n _ [] [] (fun _ => 0) (pf_in_leaf (by decide +kernel)) (by simp) (fun e he => nomatch he) rfl
      · cases h
    | least x y =>
      rw [hv] at h
      simp only at h
      split at h
      · cases h
        have := view_least_inv hv
        subst this
        exact pf_parts0 n _ [] [] (fun _ => 0) (pf_in_leaf (by decide +kernel)) (by simp) (fun e he => nomatch he) rfl
      · cases h
    | not x =>
      rw [hv] at h
      simp only at h
      cases e1 : seenF k x with
      | none => rw [e1] at h; cases h
      | some s1 =>
        rw [e1] at h
        cases h
        have := view_not_inv hv
        subst this
        have e : s1.high + 1 ≤ n + 1 := e
        have i1 := pf_parts n k x s1 e1 (by omega)
        have := pf_parts0 n (.tuple [.str "not", x]) [x] [(s1.many : Int)] (fun _ => (s1.many : Int)) (pf_in_more (by decide +kernel) (by rfl)) (by simp) (fun e he => by rw [List.mem_singleton.mp he]; exact i1) rfl
        rw [this]
        have e9 : (1 : Int) + [(s1.many : Int)].sum = ((s1.many + 1 : Nat) : Int) := by simp; omega
        rw [e9]
    | two x y =>
      rw [hv] at h
      simp only at h
      cases e1 : seenF k x with
      | none => rw [e1] at h; cases h
      | some s1 =>
        cases e2 : seenF k y with
        | none => rw [e1, e2] at h; cases h
        | some s2 =>
          rw [e1, e2] at h
          cases h
          have e : max s1.high s2.high + 1 ≤ n + 1 := e
          have i1 := pf_parts n k x s1 e1 (by omega)
          have i2 := pf_parts n k y s2 e2 (by omega)
          have m1 : mny k x = s1.many := by unfold mny; rw [e1]
          have m2 : mny k y = s2.many := by unfold mny; rw [e2]
          have key : ∀ w : Str, pf A_rules_in [.tuple [.str w, x, y]] = some (.ok (.list [x, y])) → pf (A_many_parts (n + 1)) [.tuple [.str w, x, y]] = some (.ok (.int ((1 + s1.many + s2.many : Nat) : Int))) := by
            intro w hw
            have := pf_parts0 n (.tuple [.str w, x, y]) [x, y] [(s1.many : Int), (s2.many : Int)] (mny k) hw (by simp) (fun e he => by
              rcases List.mem_cons.mp he with rfl | he
              · rw [m1]; exact i1
              · rw [List.mem_singleton.mp he, m2]; exact i2) (by simp [m1, m2])
            rw [this]
            have e9 : (1 : Int) + [(s1.many : Int), (s2.many : Int)].sum = ((1 + s1.many + s2.many : Nat) : Int) := by simp; omega
            rw [e9]
          rcases view_two_inv hv with rfl | rfl
          · exact key _ (pf_in_more (by decide +kernel) (by rfl))
          · exact key _ (pf_in_more (by decide +kernel) (by rfl))
    | bad => rw [hv] at h; cases h


def DkS (S : Sg) (j : Nat) (zs : List Str) (b : Nat) : Prop := ∃ kvs : List (Key × Av), S[j]? = some (.dk kvs) ∧ kvs.map (·.1) = zs.map Sum.inr ∧ ∀ kv ∈ kvs, ∃ i xs, kv.2 = .o i ∧ i ≠ j ∧ S[i]? = some (.lst xs) ∧ xs.length ≤ b
theorem mem_inr {w : Str} {zs : List Str} : (Sum.inr w : Key) ∈ zs.map Sum.inr ↔ w ∈ zs := by
  rw [List.mem_map]
  exact ⟨fun ⟨z, h, e⟩ => by cases e; exact h, fun h => ⟨w, h, rfl⟩⟩
theorem uniqA_app (a : List Str) : ∀ (xs acc : List Str), uniqA acc (xs ++ a) = uniqA (uniqA acc xs) a
  | [], acc => rfl
  | x :: xs, acc => by
    show (if x ∈ acc then uniqA acc (xs ++ a) else uniqA (acc ++ [x]) (xs ++ a)) = uniqA (if x ∈ acc then uniqA acc xs else uniqA (acc ++ [x]) xs) a
    split
    · exact uniqA_app a xs acc
    · exact uniqA_app a xs _
theorem uniqA_one (w : Str) (zs : List Str) : uniqA zs [w] = if w ∈ zs then zs else zs ++ [w] := rfl
theorem DkS.up {S S2 : Sg} {j b b2 : Nat} {zs : List Str} (h : DkS S j zs b) (hb : b ≤ b2) (he : ∀ (i : Nat) (c : Cl), S[i]? = some c → S2[i]? = some c) : DkS S2 j zs b2 := by
  obtain ⟨kvs, h1, h2, h3⟩ := h
  refine ⟨kvs, he _ _ h1, h2, fun kv hm => ?_⟩
  obtain ⟨i, xs, e1, e2, e3, e4⟩ := h3 kv hm
  exact ⟨i, xs, e1, e2, he _ _ e3, by omega⟩
theorem setd_step {S : Sg} {j b : Nat} {zs : List Str} (w : Str) (h : DkS S j zs b) (hl : zs.length < 100000) :
    ∃ i S2, bSetd (.o j) [.d (.str w), .o S.length] (S ++ [.lst []]) = some (.o i, S2) ∧ i ≠ j ∧ (∃ xs, S2[i]? = some (.lst xs) ∧ xs.length ≤ b) ∧ DkS S2 j (uniqA zs [w]) b := by
  have h0 := h
  obtain ⟨kvs, h1, h2, h3⟩ := h
  have hj := (List.getElem?_eq_some_iff.mp h1).1
  have g1 : (S ++ [Cl.lst []])[j]? = some (.dk kvs) := get_app h1
  have hlen : kvs.length = zs.length := by rw [← List.length_map (f := (·.1)), h2, List.length_map]
  have hp : ∀ v, putC (.dk kvs) (.str w) v = some (.dk (putA kvs (.inr w) v)) := fun v => by
    unfold putC; dsimp only; rw [if_pos (by omega)]; rfl
  by_cases hm : w ∈ zs
  · obtain ⟨v, e1, e2⟩ := valA_in (k := (Sum.inr w : Key)) (kvs := kvs) (by rw [h2]; exact mem_inr.mpr hm)
    obtain ⟨i, xs, e3, e4, e5, e6⟩ := h3 _ e2
    have e3 : v = .o i := e3
    subst e3
    refine ⟨i, S ++ [.lst []], ?_, e4, ⟨xs, get_app e5, e6⟩, ?_⟩
    · unfold bSetd
      dsimp only
      rw [g1]
      dsimp only
      rw [if_pos (by rfl)]
      have : lookC (.dk kvs) (.str w) = some (some (.o i)) := by show (keyOf (.str w)).map (valA kvs) = _; show some (valA kvs (.inr w)) = _; rw [e1]
      rw [this]
      dsimp only
      rw [hp]
      rfl
    · rw [uniqA_one, if_pos hm]
      exact DkS.up h0 (Nat.le_refl _) fun i c e => get_app e
  · have e1 := valA_no (k := (Sum.inr w : Key)) (kvs := kvs) (by rw [h2]; exact fun q => hm (mem_inr.mp q))
    have e2 := putA_no (k := (Sum.inr w : Key)) (kvs := kvs) (.o S.length) (by rw [h2]; exact fun q => hm (mem_inr.mp q))
    refine ⟨S.length, (S ++ [Cl.lst []]).set j (Cl.dk (kvs ++ [((Sum.inr w : Key), Av.o S.length)])), ?_, by omega, ⟨[], get_set_ne (get_last S _) (by omega), by simp⟩, ?_⟩
    · unfold bSetd
      dsimp only
      rw [g1]
      dsimp only
      rw [if_pos (by rfl)]
      have : lookC (.dk kvs) (.str w) = some none := by show some (valA kvs (.inr w)) = _; rw [e1]
      rw [this]
      dsimp only
      rw [hp, e2]
      rfl
    · rw [uniqA_one, if_neg hm]
      refine ⟨_, get_set_self _ g1, ?_, fun kv hv => ?_⟩
      · rw [List.map_append, List.map_append, h2]; rfl
      · rcases List.mem_append.mp hv with hv | hv
        · obtain ⟨i, xs, e1, e2, e3, e4⟩ := h3 kv hv
          exact ⟨i, xs, e1, e2, get_set_ne (get_app e3) (fun q => e2 q.symm), e4⟩
        · rw [List.mem_singleton.mp hv]
          exact ⟨S.length, [], rfl, by omega, get_set_ne (get_last S _) (by omega), by simp⟩
theorem app_step {S : Sg} {j b i : Nat} {zs : List Str} {xs : List Av} (v : Av) (h : DkS S j zs b) (hi : i ≠ j) (hx : S[i]? = some (.lst xs)) (hl : xs.length ≤ b) (hb : b < 100000) :
    mdL fAppend (.o i) [v] S = some (.d .none, S.set i (.lst (xs ++ [v]))) ∧ DkS (S.set i (.lst (xs ++ [v]))) j zs (b + 1) := by
  constructor
  · unfold mdL
    dsimp only
    rw [hx]
    dsimp only
    unfold fAppend
    dsimp only
    rw [if_pos (by omega)]
    rfl
  · obtain ⟨kvs, h1, h2, h3⟩ := h
    refine ⟨kvs, get_set_ne h1 hi, h2, fun kv hm => ?_⟩
    obtain ⟨i2, ys, e1, e2, e3, e4⟩ := h3 kv hm
    by_cases he : i = i2
    · subst he
      rw [hx] at e3
      cases e3
      exact ⟨i, _, e1, e2, get_set_self _ hx, by rw [List.length_append]; simp; omega⟩
    · exact ⟨i2, ys, e1, e2, get_set_ne e3 he, by omega⟩
theorem words_le : ∀ (k : Nat) (d : D) (s : Sn), seenF k d = some s → s.words.length ≤ s.many
  | 0, d, s, h => nomatch h
  | k + 1, d, s, h => by
    unfold seenF at h
    cases hv : view d with
    | any => rw [hv] at h; cases h; simp
    | has x =>
      rw [hv] at h
      simp only at h
      split at h <;> cases h
      simp
    | least x y =>
      rw [hv] at h
      simp only at h
      split at h <;> cases h
      simp
    | not x =>
      rw [hv] at h
      simp only at h
      cases e1 : seenF k x with
      | none => rw [e1] at h; cases h
      | some s1 =>
        rw [e1] at h
        cases h
        have := words_le k x s1 e1
        show s1.words.length ≤ s1.many + 1
        omega
    | two x y =>
      rw [hv] at h
      simp only at h
      cases e1 : seenF k x with
      | none => rw [e1] at h; cases h
      | some s1 =>
        cases e2 : seenF k y with
        | none => rw [e1, e2] at h; cases h
        | some s2 =>
          rw [e1, e2] at h
          cases h
          have := words_le k x s1 e1
          have := words_le k y s2 e2
          show (s1.words ++ s2.words).length ≤ 1 + s1.many + s2.many
          rw [List.length_append]
          omega
    | bad => rw [hv] at h; cases h


def gOk (n j : Nat) (d : D) (s : Sn) : Prop := ∀ (S : Sg) (zs : List Str) (b : Nat), DkS S j zs b → b + s.many ≤ 50000 → zs.length + s.many ≤ 50000 → ∃ S', A_gather n [.d d, .o j] S = some (.ok (.d .none), S') ∧ DkS S' j (uniqA zs s.words) (b + s.many)
def gW (ss : List Sn) : List Str := ss.flatMap Sn.words
def gM (ss : List Sn) : Nat := (ss.map Sn.many).sum
theorem gW_le : ∀ {ss : List Sn}, (∀ s ∈ ss, s.words.length ≤ s.many) → (gW ss).length ≤ gM ss
  | [], _ => Nat.le_refl _
  | s :: ss, h => by
    have h1 := h s (List.mem_cons_self ..)
    have h2 := gW_le fun s hs => h s (List.mem_cons_of_mem _ hs)
    unfold gW gM at h2 ⊢
    rw [List.flatMap_cons, List.length_append, List.map_cons, List.sum_cons]
    omega
theorem gW_app (a b : List Sn) : gW (a ++ b) = gW a ++ gW b := List.flatMap_append
theorem gM_app (a b : List Sn) : gM (a ++ b) = gM a + gM b := by unfold gM; rw [List.map_append, List.sum_append]
theorem gth_for {n j : Nat} {d : D} {ds : List D} {ss : List Sn} {S : Sg} {zs : List Str} {b : Nat} {x : Option Av} {Q : Fl → Sl → Sg → Prop} (hin : pf A_rules_in [d] = some (.ok (.list ds))) (hl : ss.length = ds.length) (hd : ds.length ≤ 10)
    (hg : ∀ (i : Nat) (e : D) (s : Sn), ds[i]? = some e → ss[i]? = some s → gOk n j e s) (hw : ∀ s ∈ ss, s.words.length ≤ s.many) (h : DkS S j zs b) (hb : b + gM ss ≤ 50000) (hz : zs.length + gM ss ≤ 50000)
    (hQ : ∀ σ' S', DkS S' j (uniqA zs (gW ss)) (b + gM ss) → Q .nx σ' S') :
    wS (aFor (aiAny (aCallP A_rules_in (aCons (aVar 0) aNil))) (agName 2) (aDrop (aCall (A_gather n) (aCons (aVar 2) (aCons (aVar 1) aNil))))) [some (.d d), some (.o j), x] S Q := by
  refine wforN (fun i σ S => (∃ y, σ = [some (.d d), some (.o j), y]) ∧ DkS S j (uniqA zs (gW (ss.take i))) (b + gM (ss.take i))) (xs := ds.map .d) (by wtm_at "evi") (by rw [List.length_map]; omega) ⟨⟨_, rfl⟩, h⟩ (fun i y σ S hx hI => ?_) fun σ S hI => ?_
  · obtain ⟨⟨y0, rfl⟩, hS⟩ := hI
    rw [List.getElem?_map] at hx
    obtain ⟨e, he, rfl⟩ := Option.map_eq_some_iff.mp hx
    have hi := (List.getElem?_eq_some_iff.mp he).1
    have hs : ss[i]? = some (ss[i]'(by omega)) := List.getElem?_eq_getElem (by omega)
    have ht : ss.take (i + 1) = ss.take i ++ [ss[i]'(by omega)] := (List.take_append_getElem (by omega)).symm
    have hsplit : gM ss = gM (ss.take (i + 1)) + gM (ss.drop (i + 1)) := by rw [← gM_app, List.take_append_drop]
    rw [ht, gM_app] at hsplit
    have one : gM [ss[i]'(by omega)] = (ss[i]'(by omega)).many := by unfold gM; simp
    rw [one] at hsplit
    have hlen := uniqA_len (gW (ss.take i)) zs
    have hwl := gW_le (ss := ss.take i) fun s hs => hw s (List.mem_of_mem_take hs)
    obtain ⟨S', e1, e2⟩ := hg i e _ he hs S _ _ hS (by omega) (by omega)
    refine wdrop (e_call (by wtm_at "evs") e1) ?_
    refine ⟨⟨_, rfl⟩, ?_⟩
    rw [ht, gW_app, gM_app, one, uniqA_app]
    have : gW [ss[i]'(by omega)] = (ss[i]'(by omega)).words := by unfold gW; simp
    rw [this, ← Nat.add_assoc]
    exact e2
  · obtain ⟨⟨y0, rfl⟩, hS⟩ := hI
    rw [List.length_map, ← hl, List.take_length] at hS
    exact hQ _ _ hS
theorem e_has (w : Str) (h : w ≠ "has") : decide (w = "has") = false := decide_eq_false h
theorem gth : ∀ (n k j : Nat) (d : D) (s : Sn), seenF k d = some s → s.high ≤ n → gOk n j d s
  | n, 0, j, d, s, h, _ => nomatch h
  | 0, k + 1, j, d, s, h, e => by
    exfalso
    have := seen_sh (k + 1) 0 d s h e
    cases this
  | n + 1, k + 1, j, d, s, h, e => by
    intro S zs b hS hb hz
    have key : ∃ r S', A_gather (n + 1) [.d d, .o j] S = some (r, S') ∧ (r = .ok (.d .none) ∧ DkS S' j (uniqA zs s.words) (b + s.many)) := by
      rw [A_gather_succ]
      refine def_ex ?_
      unfold seenF at h
      cases hv : view d with
      | any =>
        rw [hv] at h
        cases h
        have := view_any_inv hv
        subst this
        have k0 := fIx0 (.str "any") []
        refine vwhen (p := false) (t_to (by wtm_at "evt") (by decide +kernel)) (fun hb => nomatch hb) fun _ => ?_
        refine vwhen (p := false) (t_to (by wtm_at "evt") (by decide +kernel)) (fun hb => nomatch hb) fun _ => ?_
        exact gth_for (ds := []) (ss := []) (pf_in_leaf (by decide +kernel)) rfl (by simp) (fun i e s h => nomatch h) (fun s h => nomatch h) hS (by have hb : b + 1 ≤ 50000 := hb; show b + 0 ≤ _; omega) (by have hz : zs.length + 1 ≤ 50000 := hz; show _ + 0 ≤ _; omega) fun σ' S' h' => ⟨rfl, h'.up (by show b + 0 ≤ b + 1; omega) fun _ _ e => e⟩
      | has x =>
        rw [hv] at h
        simp only at h
        split at h
        · rename_i hm
          cases h
          have hb : b + 1 ≤ 50000 := hb
          have hz : zs.length + 1 ≤ 50000 := hz
          have := view_has_inv hv
          subst this
          obtain ⟨w, rfl⟩ : ∃ w, x = .str w := by
            cases hq : isStr x with
            | false => rw [notStr hq] at hm; cases hm
            | true => exact isStr_of hq
          have k0 := fIx0 (.str "has") [.str w]
          have k1 : fIx (.tuple [.str "has", .str w]) (.int 1) = some (.str w) := rfl
          obtain ⟨i, S2, e1, e2, ⟨xs, e3, e4⟩, e5⟩ := setd_step w hS (by omega)
          have hX : isX S (.o j) = true := by
            obtain ⟨kvs, h1, _⟩ := hS
            unfold isX
            dsimp only
            rw [h1]
            rfl
          refine vwhenS (p := true) (t_to (by wtm_at "evt") (by decide +kernel)) (fun _ => ?_) fun hb => nomatch hb
          refine wdrop (e_bmX (e_var rfl) hX (es_cons (by wtm_at "ev") (es_cons (e_lstC es_nil (by simp)) es_nil)) e1) ?_
          show wS _ _ _ _
          refine vwhen (p := false) (t_to (by wtm_at "evt") (by decide +kernel)) (fun hb => nomatch hb) fun _ => ?_
          exact gth_for (ds := []) (ss := []) (pf_in_leaf (by decide +kernel)) rfl (by simp) (fun i e s h => nomatch h) (fun s h => nomatch h) e5 (by show b + 0 ≤ _; omega) (by rw [uniqA_one]; show _ + 0 ≤ _; split <;> (try rw [List.length_append]) <;> simp <;> omega) fun σ' S' h' => ⟨rfl, DkS.up h' (by show b + 0 ≤ b + 1; omega) fun _ _ e => e⟩
        · cases h
      | least x y =>
        rw [hv] at h
        simp only at h
        split at h
        · rename_i hm
          cases h
          have hb : b + 1 ≤ 50000 := hb
          have hz : zs.length + 1 ≤ 50000 := hz
          have := view_least_inv hv
          subst this
          obtain ⟨w, rfl⟩ : ∃ w, x = .str w := by
            rw [Bool.and_eq_true] at hm
            cases hq : isStr x with
            | false => rw [notStr hq] at hm; cases hm.1
            | true => exact isStr_of hq
          have k0 := fIx0 (.str "least") [.str w, y]
          have k1 : fIx (.tuple [.str "least", .str w, y]) (.int 1) = some (.str w) := rfl
          have k2 : fIx (.tuple [.str "least", .str w, y]) (.int 2) = some y := rfl
          obtain ⟨i, S2, e1, e2, ⟨xs, e3, e4⟩, e5⟩ := setd_step w hS (by omega)
          obtain ⟨e6, e7⟩ := app_step (.d y) e5 e2 e3 e4 (by omega)
          have hX : isX S (.o j) = true := by
            obtain ⟨kvs, h1, _⟩ := hS
            unfold isX
            dsimp only
            rw [h1]
            rfl
          have hL : isL S2 (.o i) = true := by
            unfold isL
            dsimp only
            rw [e3]
          refine vwhen (p := false) (t_to (by wtm_at "evt") (by decide +kernel)) (fun hb => nomatch hb) fun _ => ?_
          refine vwhenS (p := true) (t_to (by wtm_at "evt") (by decide +kernel)) (fun _ => ?_) fun hb => nomatch hb
          refine wdrop (e_bmL (e_bmX (e_var rfl) hX (es_cons (by wtm_at "ev") (es_cons (e_lstC es_nil (by simp)) es_nil)) e1) hL (by wtm_at "evs") e6) ?_
          show wS _ _ _ _
          exact gth_for (ds := []) (ss := []) (pf_in_leaf (by decide +kernel)) rfl (by simp) (fun i e s h => nomatch h) (fun s h => nomatch h) e7 (by show b + 1 + 0 ≤ _; omega) (by rw [uniqA_one]; show _ + 0 ≤ _; split <;> (try rw [List.length_append]) <;> simp <;> omega) fun σ' S' h' => ⟨rfl, h'⟩
        · cases h
      | not x =>
        rw [hv] at h
        simp only at h
        cases e1 : seenF k x with
        | none => rw [e1] at h; cases h
        | some s1 =>
          rw [e1] at h
          cases h
          have hb : b + (s1.many + 1) ≤ 50000 := hb
          have hz : zs.length + (s1.many + 1) ≤ 50000 := hz
          have e : s1.high + 1 ≤ n + 1 := e
          have := view_not_inv hv
          subst this
          have i1 := gth n k j x s1 e1 (by omega)
          have k0 := fIx0 (.str "not") [x]
          refine vwhen (p := false) (t_to (by wtm_at "evt") (by decide +kernel)) (fun hb => nomatch hb) fun _ => ?_
          refine vwhen (p := false) (t_to (by wtm_at "evt") (by decide +kernel)) (fun hb => nomatch hb) fun _ => ?_
          refine gth_for (ds := [x]) (ss := [s1]) (pf_in_more (by decide +kernel) (by rfl)) rfl (by simp) (fun i e s h1 h2 => ?_) (fun s h => ?_) hS (by show b + (s1.many + 0) ≤ _; omega) (by show _ + (s1.many + 0) ≤ _; omega) fun σ' S' h' => ⟨rfl, DkS.up ?_ (by show b + (s1.many + 0) ≤ b + (s1.many + 1); omega) fun _ _ e => e⟩
          · match i, h1, h2 with
            | 0, h1, h2 => cases h1; cases h2; exact i1
          · rw [List.mem_singleton.mp h]; exact words_le k x s1 e1
          · have : gW [s1] = s1.words := by unfold gW; simp
            rw [this] at h'
            exact h'
      | two x y =>
        rw [hv] at h
        simp only at h
        cases e1 : seenF k x with
        | none => rw [e1] at h; cases h
        | some s1 =>
          cases e2 : seenF k y with
          | none => rw [e1, e2] at h; cases h
          | some s2 =>
            rw [e1, e2] at h
            cases h
            have hb : b + (1 + s1.many + s2.many) ≤ 50000 := hb
            have hz : zs.length + (1 + s1.many + s2.many) ≤ 50000 := hz
            have e : max s1.high s2.high + 1 ≤ n + 1 := e
            have i1 := gth n k j x s1 e1 (by omega)
            have i2 := gth n k j y s2 e2 (by omega)
            have fin : ∀ w : Str, decide (w ∈ (["any", "has", "least"] : List Str)) = false → decide (w = "has") = false → decide (w = "least") = false → wS (B_gather (fun _ => A_gather n) n) ([Av.d (.tuple [.str w, x, y]), .o j].map some ++ List.replicate (3 - 2) none) S (fun fl _ S' => match fl with
                | .rt z => z = .d .none ∧ DkS S' j (uniqA zs (s1.words ++ s2.words)) (b + (1 + s1.many + s2.many)) | .nx => DkS S' j (uniqA zs (s1.words ++ s2.words)) (b + (1 + s1.many + s2.many)) | _ => False) := by
              intro w hw1 hw2 hw3
              have k0 := fIx0 (.str w) [x, y]
              refine vwhen (p := false) (t_to (by wtm_at "evt") hw2) (fun hb => nomatch hb) fun _ => ?_
              refine vwhen (p := false) (t_to (by wtm_at "evt") hw3) (fun hb => nomatch hb) fun _ => ?_
              refine gth_for (ds := [x, y]) (ss := [s1, s2]) (pf_in_more hw1 (by rfl)) rfl (by simp) (fun i e s h1 h2 => ?_) (fun s h => ?_) hS (by show b + (s1.many + (s2.many + 0)) ≤ _; omega) (by show _ + (s1.many + (s2.many + 0)) ≤ _; omega) fun σ' S' h' => DkS.up ?_ (by show b + (s1.many + (s2.many + 0)) ≤ b + (1 + s1.many + s2.many); omega) fun _ _ e => e
              · match i, h1, h2 with
                | 0, h1, h2 => cases h1; cases h2; exact i1
                | 1, h1, h2 => cases h1; cases h2; exact i2
              · rcases List.mem_cons.mp h with rfl | h
                · exact words_le k x _ e1
                · rw [List.mem_singleton.mp h]; exact words_le k y s2 e2
              · have : gW [s1, s2] = s1.words ++ s2.words := by unfold gW; simp
                rw [this] at h'
                exact h'
            have wrap : ∀ w : Str, d = .tuple [.str w, x, y] → decide (w ∈ (["any", "has", "least"] : List Str)) = false → decide (w = "has") = false → decide (w = "least") = false → wS (B_gather (fun _ => A_gather n) n) ([Av.d d, .o j].map some ++ List.replicate (3 - 2) none) S (fun fl _ S' => match fl with
                | .rt z => (Rs.ok z : Rs Av) = .ok (.d .none) ∧ DkS S' j (uniqA zs (s1.words ++ s2.words)) (b + (1 + s1.many + s2.many)) | .nx => (Rs.ok (.d .none) : Rs Av) = .ok (.d .none) ∧ DkS S' j (uniqA zs (s1.words ++ s2.words)) (b + (1 + s1.many + s2.many)) | .ex e => (Rs.ex e : Rs Av) = .ok (.d .none) ∧ DkS S' j (uniqA zs (s1.words ++ s2.words)) (b + (1 + s1.many + s2.many)) | _ => False) := by
              intro w hd a1 a2 a3
              subst hd
              obtain ⟨fl, σ', S', q1, q2⟩ := fin w a1 a2 a3
              refine ⟨fl, σ', S', q1, ?_⟩
              cases fl with
              | rt z => exact ⟨by rw [q2.1], q2.2⟩
              | nx => exact ⟨rfl, q2⟩
              | ex e => exact q2.elim
              | bk => exact q2.elim
              | ct => exact q2.elim
            rcases view_two_inv hv with hd | hd
            · exact wrap _ hd (by decide +kernel) (by decide +kernel) (by decide +kernel)
            · exact wrap _ hd (by decide +kernel) (by decide +kernel) (by decide +kernel)
      | bad => rw [hv] at h; cases h
    obtain ⟨r, S', e1, rfl, e2⟩ := key
    exact ⟨S', e1, e2⟩


/-! ### is_rule -/
def ruleF (d : D) : Bool := match seenF 60 d with
  | some s => decide (s.high ≤ 6) && (decide (s.many ≤ 30) && decide ((uniq s.words).length ≤ 3))
  | none => false
theorem pf_rule {d : D} (hf : fine 60 d) (S : Sg) : ∃ S', A_is_rule [.d d] S = some (.ok (.d (.bool (ruleF d))), S') := by
  have key : ∃ r S', A_is_rule [.d d] S = some (r, S') ∧ r = .ok (.d (.bool (ruleF d))) := by
    refine def_ex ?_
    have h1 := pf_sh 6 60 d hf
    cases hs : shF 6 d with
    | false =>
      rw [hs] at h1
      refine vwhen (p := true || true) (t_or (t_to (by wtm_at "evt") (by rfl)) fun z => nomatch z) (fun hb => ?_) fun hb => nomatch hb
      refine wret (by wtm_at "ev") ?_
      have : ruleF d = false := by
        unfold ruleF
        cases e : seenF 60 d with
        | none => rfl
        | some s =>
          have : ¬ s.high ≤ 6 := fun q => by rw [seen_sh 60 6 d s e q] at hs; cases hs
          simp only [decide_eq_false this, Bool.false_and]
      show Rs.ok (Av.d (.bool false)) = _
      rw [this]
    | true =>
      rw [hs] at h1
      obtain ⟨s, e, h6⟩ := sh_seen 6 60 d (by omega) hs
      have h2 := pf_parts 6 60 d s e h6
      by_cases h30 : (30 : Int) < (s.many : Int)
      · refine vwhen (p := false || true) (t_or (p := false) (t_to (by wtm_at "evt") (by rfl)) fun _ => t_to (by wtm_at "evt") (decide_eq_true h30)) (fun hb => ?_) fun hb => nomatch hb
        refine wret (by wtm_at "ev") ?_
        have : ruleF d = false := by
          unfold ruleF
          rw [e]
          have : ¬ s.many ≤ 30 := by omega
          simp only [decide_eq_false this, Bool.false_and, Bool.and_false]
        show Rs.ok (Av.d (.bool false)) = _
        rw [this]
      · refine vwhen (p := false || false) (t_or (p := false) (t_to (by wtm_at "evt") (by rfl)) fun _ => t_to (by wtm_at "evt") (decide_eq_false h30)) (fun hb => nomatch hb) fun _ => ?_
        refine vset (x := .o S.length) (S1 := S ++ [.dk []]) rfl ?_
        have hD : DkS (S ++ [.dk []]) S.length [] 0 := ⟨[], get_last S _, rfl, fun kv h => nomatch h⟩
        obtain ⟨S', g1, g2⟩ := gth 6 60 S.length d s e h6 _ _ _ hD (by omega) (by show 0 + _ ≤ _; omega)
        refine vdrop (e_call (by wtm_at "evs") g1) ?_
        obtain ⟨kvs, k1, k2, _⟩ := g2
        have hlen : kvs.length = (uniq s.words).length := by rw [← List.length_map (f := (·.1)), k2, List.length_map]; rfl
        refine wret (e_op (e_cb (by wtm_at "evs") (f_lenC k1 rfl)) e_D (by wtm_at "fo")) ?_
        show Rs.ok (Av.d _) = _
        unfold ruleF
        rw [e]
        have : s.many ≤ 30 := by omega
        simp only [decide_eq_true h6, decide_eq_true this, Bool.true_and]
        rw [hlen]
        congr 4
        exact propext ⟨fun q => by omega, fun q => by omega⟩
  obtain ⟨r, S', e, rfl⟩ := key
  exact ⟨S', e⟩
/-! ### the law's walk -/
def lv : Nat → D → Nat
  | 0, _ => 1
  | k + 1, d => match view d with
    | .not a => lv k a
    | .two a b => lv k a + lv k b
    | _ => 1
theorem words_lv : ∀ (k : Nat) (d : D) (s : Sn), seenF k d = some s → s.words.length ≤ lv k d
  | 0, d, s, h => nomatch h
  | k + 1, d, s, h => by
    unfold seenF at h
    unfold lv
    cases hv : view d with
    | any => rw [hv] at h; cases h; simp
    | has x =>
      rw [hv] at h
      simp only at h
      split at h <;> cases h
      simp
    | least x y =>
      rw [hv] at h
      simp only at h
      split at h <;> cases h
      simp
    | not x =>
      rw [hv] at h
      simp only at h ⊢
      cases e1 : seenF k x with
      | none => rw [e1] at h; cases h
      | some s1 =>
        rw [e1] at h
        cases h
        exact words_lv k x s1 e1
    | two x y =>
      rw [hv] at h
      simp only at h ⊢
      cases e1 : seenF k x with
      | none => rw [e1] at h; cases h
      | some s1 =>
        cases e2 : seenF k y with
        | none => rw [e1, e2] at h; cases h
        | some s2 =>
          rw [e1, e2] at h
          cases h
          have := words_lv k x s1 e1
          have := words_lv k y s2 e2
          show (s1.words ++ s2.words).length ≤ _
          rw [List.length_append]
          omega
    | bad => rw [hv] at h; cases h
theorem lv_pos : ∀ (k : Nat) (d : D), 1 ≤ lv k d
  | 0, _ => Nat.le_refl _
  | k + 1, d => by
    unfold lv
    split
    · exact lv_pos k _
    · have := lv_pos k
      exact Nat.le_trans (this _) (Nat.le_add_right ..)
    · exact Nat.le_refl _
def snD : Option Sn → D
  | none => .none
  | some s => .tuple [.int s.high, .int s.many, .list (s.words.map PyData.str)]
structure Ac where
  h : Int
  m : Int
  ws : List Str
def goS (k : Nat) : List D → Ac → Option Ac
  | [], a => some a
  | d :: ds, a => match seenF k d with
    | some s => goS k ds ⟨max a.h s.high, a.m + s.many, a.ws ++ s.words⟩
    | none => none
def acD : Option Ac → D
  | none => .none
  | some a => .tuple [.int (a.h + 1), .int a.m, .list (a.ws.map PyData.str)]


theorem signs_none (z : Str) : ((z.cps.toList.map signD).filter (fun d => !(sgIn lettersS d))).length = 0 ↔ inS lettersS z = true := by
  unfold inS
  rw [List.all_eq_true, List.length_eq_zero_iff, List.filter_eq_nil_iff]
  constructor
  · intro h c hc
    have := h (signD c) (List.mem_map.mpr ⟨c, hc, rfl⟩)
    have e : sgIn lettersS (signD c) = decide (c ∈ lettersS.cps.toList) := rfl
    rw [e] at this
    revert this
    cases decide (c ∈ lettersS.cps.toList) <;> simp
  · intro h d hd
    obtain ⟨c, hc, rfl⟩ := List.mem_map.mp hd
    have e : sgIn lettersS (signD c) = decide (c ∈ lettersS.cps.toList) := rfl
    rw [e, h c hc]
    simp
theorem big30 : (10 : Int) ^ (30 : Int).toNat = 1000000000000000000000000000000 := by decide
theorem str_of_shaped {w : Str} (h : SeqAt.shaped (.str w) = true) : PyData.strOk w = true := by
  have h := (shaped_iff.mp h).1
  simpa only [PyData.canLay0] using h
theorem inL_strs {S : Sg} {w : Str} {ws : List Str} (h1 : PyData.strOk w = true) (h2 : ∀ z ∈ ws, PyData.strOk z = true) : inB S (.d (.str w)) (.d (.list (ws.map PyData.str))) = some (decide (w ∈ ws)) := by
  have e : inB S (.d (.str w)) (.d (.list (ws.map PyData.str))) = fIn (.str w) (.list (ws.map PyData.str)) := rfl
  rw [e, fIn_list (str_shaped h1) (strs_shaped h2), any_strs]
theorem kinds_ok : ∀ z ∈ (["not", "both", "either"] : List Str), PyData.strOk z = true := by decide +kernel
theorem tup_any_shaped : SeqAt.shaped (.tuple [.str "any"]) = true := by decide +kernel
theorem fEq_any {w : Str} {rest : List D} (h : SeqAt.shaped (.tuple (.str w :: rest)) = true) : fEq (.tuple (.str w :: rest)) (.tuple [.str "any"]) = some (decide (w = "any") && rest.isEmpty) := by
  rw [fEq_gen h tup_any_shaped rfl]
  congr 1
  cases rest with
  | nil =>
    rw [Bool.eq_iff_iff]
    simp [PyData.eqv, PyData.eqvAll]
  | cons a r => simp [PyData.eqv, PyData.eqvAll]
theorem pf_good (d : D) (h : szD d) : pf A__law_word_good [d] = some (.ok (.bool (madeF lettersS 12 d))) := by
  refine pf_of ?_
  cases hs : isStr d with
  | false =>
    refine vwhen (p := true || true) (t_or (t_to (by wtm_at "evt") (by rw [hs]; rfl)) fun z => nomatch z) (fun hb => ?_) fun hb => nomatch hb
    refine wret (by wtm_at "ev") ?_
    show Av.d (.bool false) = _
    rw [notStr hs]
  | true =>
    obtain ⟨z, rfl⟩ := isStr_of hs
    have h : z.length ≤ 50000 := h
    refine vwhen (p := !decide (1 ≤ (z.length : Int) ∧ (z.length : Int) ≤ 12)) (t_to (by wtm_at "evt") (by simp [isStr])) (fun hb => ?_) fun hb => ?_
    · refine wret (by wtm_at "ev") ?_
      show Av.d (.bool false) = _
      rw [madeF_str, decide_eq_false (no_of hb)]; rfl
    · have hb := yes_of hb
      have hl : (z.cps.toList.map signD).length ≤ 100000 := by rw [List.length_map]; exact Nat.le_trans h (by omega)
      refine wret (e_op (e_cb (es_cons (aLc_map (fun d => !(sgIn lettersS d)) (fun d => d) (by wtm_at "evi") hl fun d hm => ?_) es_nil) (f_lenD rfl)) e_D (f_B rfl rfl rfl)) ?_
      · obtain ⟨c, _, rfl⟩ := List.mem_map.mp hm
        exact ⟨_, rfl, by wtm_at "evt", fun _ => by wtm_at "ev"⟩
      · show Av.d _ = .d (.bool (madeF lettersS 12 (.str z)))
        rw [madeF_str, decide_eq_true hb, Bool.true_and, List.map_id']
        congr 2
        have := signs_none z
        cases hi : inS lettersS z with
        | true => rw [decide_eq_true (by have := this.mpr hi; omega)]
        | false => rw [decide_eq_false (fun q => by rw [this.mp (by omega)] at hi; cases hi)]
theorem pf_loop {k : Nat} {ds : List D} {d : D} {aa : AE} {e f : Option Av} {Q : Fl → Sl → Sg → Prop} (ih : ∀ d ∈ ds, pf (A__law_seen k) [d] = some (.ok (snD (seenF k d)))) (hl : ds.length ≤ 100) (hs : (ds.map (lv k)).sum ≤ 1000)
    (hi : ∀ σ' : Sl, σ'.head? = some (some (.d d)) → aiAny aa σ' [] = some (.ok (itL (ds.map .d)), []))
    (hQ : ∀ σ' S', Q (.rt (.d (acD (goS k ds ⟨0, 1, []⟩)))) σ' S') :
    wS (aSeq (aFor (aiAny aa) (agName 4) (aSeq (aAsg (aCallP (A__law_seen k) (aCons (aVar 4) aNil)) (agName 5))
    (aSeq (aIfS (aB (aOp (opD fIs) (aVar 5) (aD .none))) (aRet (aD .none)) aNext)
    (aSeq (aAsg (aCB (cbD fMax) (aCons (aVar 1) (aCons (aOp opIx (aVar 5) (aD (.int 0))) aNil))) (agName 1))
    (aSeq (aAsg (aOp (opD fAdd) (aVar 2) (aOp opIx (aVar 5) (aD (.int 1)))) (agName 2))
    (aAsg (aOp (opD fAdd) (aVar 3) (aOp opIx (aVar 5) (aD (.int 2)))) (agName 3)))))))
    (aRet (aTup (aCons (aOp (opD fAdd) (aVar 1) (aD (.int 1))) (aCons (aVar 2) (aCons (aVar 3) aNil)))))) [some (.d d), some (.d (.int 0)), some (.d (.int 1)), some (.d (.list [])), e, f] [] Q := by
  refine vforN (fun i σ S => S = [] ∧ ∃ (a : Ac) (y z : Option Av), σ = [some (.d d), some (.d (.int a.h)), some (.d (.int a.m)), some (.d (.list (a.ws.map PyData.str))), y, z] ∧ goS k ds ⟨0, 1, []⟩ = goS k (ds.drop i) a ∧ a.ws.length + ((ds.drop i).map (lv k)).sum ≤ 1000) (xs := ds.map .d) (hi _ rfl) (by rw [List.length_map]; omega) ⟨rfl, ⟨0, 1, []⟩, e, f, rfl, rfl, by show 0 + _ ≤ _; rw [List.drop_zero]; omega⟩ (fun i x σ S hx hI => ?_) fun σ S hI => ?_
  · obtain ⟨rfl, a, y, z, rfl, hg, hb⟩ := hI
    rw [List.getElem?_map] at hx
    obtain ⟨d1, hd, rfl⟩ := Option.map_eq_some_iff.mp hx
    obtain ⟨hlt, he⟩ := List.getElem?_eq_some_iff.mp hd
    have hdr : ds.drop i = d1 :: ds.drop (i + 1) := by rw [List.drop_eq_getElem_cons hlt, he]
    have i1 := ih d1 (List.mem_of_getElem? hd)
    rw [hdr] at hg hb
    have hg : goS k ds ⟨0, 1, []⟩ = (match seenF k d1 with
      | some s => goS k (ds.drop (i + 1)) ⟨max a.h s.high, a.m + s.many, a.ws ++ s.words⟩
      | none => none) := hg
    rw [List.map_cons, List.sum_cons] at hb
    refine vset (by wtm_at "ev") ?_
    cases hsn : seenF k d1 with
    | none =>
      rw [hsn] at hg
      refine vwhen (p := true) (by wtm_at "evt") (fun _ => ?_) fun hb => nomatch hb
      refine wret (by wtm_at "ev") ?_
      have := hQ
      rw [hg] at this
      exact this _ _
    | some s =>
      rw [hsn] at hg
      have hw := words_lv k d1 s hsn
      refine vwhen (p := false) (by wtm_at "evt") (fun hb => nomatch hb) fun _ => ?_
      have k0 : fIx (snD (some s)) (.int 0) = some (.int s.high) := rfl
      have k1 : fIx (snD (some s)) (.int 1) = some (.int s.many) := rfl
      have k2 : fIx (snD (some s)) (.int 2) = some (.list (s.words.map PyData.str)) := rfl
      have hll : (a.ws.map PyData.str).length + (s.words.map PyData.str).length ≤ 100000 := by rw [List.length_map, List.length_map]; omega
      refine vset (by wtm_at "ev") ?_
      refine vset (by wtm_at "ev") ?_
      refine wset (by wtm_at "ev") ?_
      refine ⟨rfl, ⟨max a.h s.high, a.m + s.many, a.ws ++ s.words⟩, some (.d d1), some (.d (snD (some s))), ?_, hg, ?_⟩
      · show _ = [some (Av.d d), some (Av.d (.int (max a.h s.high))), some (Av.d (.int (a.m + s.many))), some (Av.d (.list ((a.ws ++ s.words).map PyData.str))), some (.d d1), some (.d (snD (some s)))]
        rw [List.map_append]
        rfl
      · show (a.ws ++ s.words).length + _ ≤ _
        rw [List.length_append]
        omega
  · obtain ⟨rfl, a, y, z, rfl, hg, hb⟩ := hI
    rw [List.length_map, List.drop_length] at hg
    refine wret (by wtm_at "ev") ?_
    have := hQ
    rw [hg] at this
    exact this _ _


theorem view_ns {x : D} {rest : List D} (h : isStr x = false) : view (.tuple (x :: rest)) = .bad := by
  cases x <;> first | rfl | (simp [isStr] at h)
theorem seen_bad {k : Nat} {d : D} (h : view d = .bad) : seenF k d = none := by
  cases k with
  | zero => rfl
  | succ n => unfold seenF; rw [h]
theorem pf_seen : ∀ (k : Nat) (d : D), fine k d → lv k d ≤ 1000 → pf (A__law_seen k) [d] = some (.ok (snD (seenF k d)))
  | k + 1, d, hf, hv => by
    have hs := hf.1
    rw [A__law_seen_succ]
    refine pf_of ?_
    cases hti : isTup d with
    | false =>
      refine vwhen (p := true || true) (t_or (t_to (by wtm_at "evt") (by rw [hti]; rfl)) fun z => nomatch z) (fun hb => ?_) fun hb => nomatch hb
      refine wret (by wtm_at "ev") ?_
      show Av.d .none = _
      rw [seen_bad (view_no hti)]; rfl
    | true =>
      obtain ⟨ys, rfl⟩ := isTup_of hti
      match ys, hf, hs, hv with
      | [], hf, hs, hv =>
        refine vwhen (p := false || (true || true)) (t_or (p := false) (t_to (by wtm_at "evt") (by rfl)) fun _ => t_or (t_to (by wtm_at "evt") (by rfl)) fun z => nomatch z) (fun hb => ?_) fun hb => nomatch hb
        refine wret (by wtm_at "ev") ?_
        rfl
      | x :: rest, hf, hs, hv =>
        have k0 := fIx0 x rest
        cases hxs : isStr x with
        | false =>
          refine vwhen (p := false || (false || true)) (t_or (p := false) (t_to (by wtm_at "evt") (by rfl)) fun _ => t_or (p := false) (t_to (by wtm_at "evt") (by simp; omega)) fun _ => t_to (by wtm_at "evt") (by rw [hxs]; rfl)) (fun hb => ?_) fun hb => nomatch hb
          refine wret (by wtm_at "ev") ?_
          show Av.d .none = _
          rw [seen_bad (view_ns hxs)]; rfl
        | true =>
          obtain ⟨w, rfl⟩ := isStr_of hxs
          have hw := str_of_shaped (shaped_tup hs _ (List.mem_cons_self ..))
          have eA := fEq_any hs
          have eI : ∀ S, inB S (.d (.str w)) (.d (.list [.str "not", .str "both", .str "either"])) = some (decide (w ∈ (["not", "both", "either"] : List Str))) := fun S => inL_strs (ws := ["not", "both", "either"]) hw kinds_ok
          have eI0 := eI []
          refine vwhen (p := false || (false || false)) (t_or (p := false) (t_to (by wtm_at "evt") (by rfl)) fun _ => t_or (p := false) (t_to (by wtm_at "evt") (by simp; omega)) fun _ => t_to (by wtm_at "evt") (by rfl)) (fun hb => nomatch hb) fun _ => ?_
          by_cases hwa : w = "any" ∧ rest = []
          · obtain ⟨rfl, rfl⟩ := hwa
            refine vwhen (p := true) (t_to (by wtm_at "evt") (by decide +kernel)) (fun _ => ?_) fun hb => nomatch hb
            refine wret (by wtm_at "ev") ?_
            rfl
          refine vwhen (p := false) (t_to (by wtm_at "evt") (by
            cases rest with
            | nil => rw [decide_eq_false (fun q => hwa ⟨q, rfl⟩)]; rfl
            | cons a r => simp)) (fun hb => nomatch hb) fun _ => ?_
          by_cases hwh : w = "has" ∧ ((PyData.str w :: rest).length : Int) = 2
          · obtain ⟨rfl, hl⟩ := hwh
            obtain ⟨a, rfl⟩ := one_of hl
            have g1 := pf_good a (fine_has hf)
            have k1 : fIx (.tuple [.str "has", a]) (.int 1) = some a := rfl
            have hsn : seenF (k + 1) (.tuple [.str "has", a]) = if madeF lettersS 12 a = true then some ⟨1, 1, [txt a]⟩ else none := rfl
            refine vwhen (p := madeF lettersS 12 a) (t_to (by wtm_at "evt") (by simp)) (fun hb => ?_) fun hb => ?_
            · rw [hsn, if_pos hb]
              cases hq : isStr a with
              | false => rw [notStr hq] at hb; cases hb
              | true =>
                obtain ⟨z, rfl⟩ := isStr_of hq
                refine wret (by wtm_at "ev") ?_
                rfl
            · rw [hsn, if_neg (by rw [hb]; exact Bool.false_ne_true)]
              refine vwhen (p := false) (t_to (t_and (p := false) (q := false) (t_to (by wtm_at "evt") (by decide +kernel)) fun z => nomatch z) rfl) (fun hb => nomatch hb) fun _ => ?_
              refine vwhen (p := true) (t_to (t_or (p := true) (q := true) (t_to (by wtm_at "evt") (by decide +kernel)) fun z => nomatch z) rfl) (fun _ => ?_) fun hb => nomatch hb
              refine wret (by wtm_at "ev") ?_
              rfl
          refine vwhen (p := false) (t_to (t_and (p := decide (w = "has")) (q := false) (by wtm_at "evt") fun hq => t_to (t_and (p := false) (q := false) (t_to (by wtm_at "evt") (decide_eq_false fun q => hwh ⟨of_decide_eq_true hq, q⟩)) fun z => nomatch z) rfl) (by simp)) (fun hb => nomatch hb) fun _ => ?_
          by_cases hwl : w = "least" ∧ ((PyData.str w :: rest).length : Int) = 3
          · obtain ⟨rfl, hl⟩ := hwl
            obtain ⟨a, b, rfl⟩ := two_of1 hl
            have g1 := pf_good a (fine_least hf)
            have g2 := pf_lwhole b
            have k1 : fIx (.tuple [.str "least", a, b]) (.int 1) = some a := rfl
            have k2 : fIx (.tuple [.str "least", a, b]) (.int 2) = some b := rfl
            have hsn : seenF (k + 1) (.tuple [.str "least", a, b]) = if (madeF lettersS 12 a && nearI b) = true then some ⟨1, 1, [txt a]⟩ else none := rfl
            refine vwhen (p := madeF lettersS 12 a && (isInt b && !isBol b)) (t_to (by wtm_at "evt") (by simp)) (fun hb => ?_) fun hb => ?_
            · rw [Bool.and_eq_true] at hb
              obtain ⟨n, rfl⟩ := whole_int hb.2
              have hb30 := big30
              cases hq : isStr a with
              | false => rw [notStr hq] at hb; cases hb.1
              | true =>
                obtain ⟨z, rfl⟩ := isStr_of hq
                have kx : ∀ c : Bool, fIx (.list [.none, .tuple [.int 1, .int 1, .list [.str z]]]) (.int (if c = true then 1 else 0)) = some (if c = true then .tuple [.int 1, .int 1, .list [.str z]] else .none) := by intro c; cases c <;> rfl
                have kx1 := kx (decide (-((10 : Int) ^ (30 : Int).toNat) ≤ n) && decide (n ≤ (10 : Int) ^ (30 : Int).toNat))
                refine wret (by wtm_at "ev") ?_
                rw [hsn, hb.1, Bool.true_and]
                show Av.d _ = Av.d _
                rw [hb30]
                have : (decide (-(1000000000000000000000000000000 : Int) ≤ n) && decide (n ≤ 1000000000000000000000000000000)) = nearI (.int n) := by
                  unfold nearI
                  rw [Bool.eq_iff_iff]
                  simp
                rw [this]
                cases nearI (.int n) <;> rfl
            · have : (madeF lettersS 12 a && nearI b) = false := by
                cases hm : madeF lettersS 12 a with
                | false => rfl
                | true =>
                  rw [hm, Bool.true_and] at hb
                  rw [near_no hb]; rfl
              rw [hsn, if_neg (by rw [this]; exact Bool.false_ne_true)]
              refine vwhen (p := true) (t_to (t_or (p := true) (q := true) (t_to (by wtm_at "evt") (by decide +kernel)) fun z => nomatch z) rfl) (fun _ => ?_) fun hb => nomatch hb
              refine wret (by wtm_at "ev") ?_
              rfl
          refine vwhen (p := false) (t_to (t_and (p := decide (w = "least")) (q := false) (by wtm_at "evt") fun hq => t_to (t_and (p := false) (q := false) (t_to (by wtm_at "evt") (decide_eq_false fun q => hwl ⟨of_decide_eq_true hq, q⟩)) fun z => nomatch z) rfl) (by simp)) (fun hb => nomatch hb) fun _ => ?_
          by_cases hwn : w = "not" ∧ ((PyData.str w :: rest).length : Int) = 2
          · obtain ⟨rfl, hl⟩ := hwn
            obtain ⟨a, rfl⟩ := one_of hl
            have i1 := pf_seen k a (fine_not hf) hv
            have hfs : fSl (.tuple [.str "not", a]) (some 1) none = some (.tuple [a]) := by rfl
            refine vwhen (p := false) (t_to (t_or (p := false) (q := false) (t_to (by wtm_at "evt") (by decide +kernel)) fun _ => t_to (by wtm_at "evt") (by simp)) rfl) (fun hb => nomatch hb) fun _ => ?_
            refine vset (by wtm_at "ev") ?_
            refine vset (by wtm_at "ev") ?_
            refine vset (by wtm_at "ev") ?_
            refine pf_loop (ds := [a]) (fun d hd => by rw [List.mem_singleton.mp hd]; exact i1) (by simp) (by simp; exact hv) (fun σ' h => i_tup (e_sl (e_var (by rw [← List.head?_eq_getElem?]; exact h)) (o_S e_D) o_N hfs)) fun σ' S' => ?_
            show Av.d _ = Av.d _
            have hsn : seenF (k + 1) (.tuple [.str "not", a]) = match seenF k a with
              | some s => some ⟨s.high + 1, s.many + 1, s.words⟩
              | none => none := rfl
            rw [hsn]
            unfold goS goS
            cases seenF k a with
            | none => rfl
            | some s =>
              show Av.d (.tuple [.int (max 0 (s.high : Int) + 1), .int (1 + (s.many : Int)), .list (([] ++ s.words).map PyData.str)]) = Av.d (.tuple [.int ((s.high + 1 : Nat) : Int), .int ((s.many + 1 : Nat) : Int), .list (s.words.map PyData.str)])
              have e1 : max 0 (s.high : Int) + 1 = ((s.high + 1 : Nat) : Int) := by omega
              have e2 : 1 + (s.many : Int) = ((s.many + 1 : Nat) : Int) := by omega
              rw [e1, e2, List.nil_append]
          by_cases hw2 : (w = "both" ∨ w = "either") ∧ ((PyData.str w :: rest).length : Int) = 3
          · obtain ⟨hwk, hl⟩ := hw2
            obtain ⟨a, b, rfl⟩ := two_of1 hl
            have hfab : fine k a ∧ fine k b := by rcases hwk with rfl | rfl <;> exact hf.2
            have hvab : lv k a + lv k b ≤ 1000 := by rcases hwk with rfl | rfl <;> exact hv
            have i1 := pf_seen k a hfab.1 (by omega)
            have i2 := pf_seen k b hfab.2 (by omega)
            have hfs : fSl (.tuple [.str w, a, b]) (some 1) none = some (.tuple [a, b]) := by rfl
            have hnn : decide (w = "not") = false := by rcases hwk with rfl | rfl <;> decide +kernel
            have hin : decide (w ∈ (["not", "both", "either"] : List Str)) = true := by rcases hwk with rfl | rfl <;> decide +kernel
            refine vwhen (p := false) (t_to (t_or (p := false) (q := false) (t_to (by wtm_at "evt") (by rw [hin]; rfl)) fun _ => t_to (by wtm_at "evt") (by rw [hnn]; simp)) rfl) (fun hb => nomatch hb) fun _ => ?_
            refine vset (by wtm_at "ev") ?_
            refine vset (by wtm_at "ev") ?_
            refine vset (by wtm_at "ev") ?_
            refine pf_loop (ds := [a, b]) (fun d hd => by
              rcases List.mem_cons.mp hd with rfl | hd
              · exact i1
              · rw [List.mem_singleton.mp hd]; exact i2) (by simp) (by simp; exact hvab) (fun σ' h => i_tup (e_sl (e_var (by rw [← List.head?_eq_getElem?]; exact h)) (o_S e_D) o_N hfs)) fun σ' S' => ?_
            show Av.d _ = Av.d _
            have hsn : seenF (k + 1) (.tuple [.str w, a, b]) = match seenF k a, seenF k b with
              | some s, some r => some ⟨max s.high r.high + 1, 1 + s.many + r.many, s.words ++ r.words⟩
              | _, _ => none := by rcases hwk with rfl | rfl <;> rfl
            rw [hsn]
            unfold goS goS goS
            cases seenF k a with
            | none => rfl
            | some s =>
              cases seenF k b with
              | none => rfl
              | some r =>
                show Av.d (.tuple [.int (max (max 0 (s.high : Int)) (r.high : Int) + 1), .int (1 + (s.many : Int) + (r.many : Int)), .list ((([] ++ s.words) ++ r.words).map PyData.str)]) = Av.d (.tuple [.int ((max s.high r.high + 1 : Nat) : Int), .int ((1 + s.many + r.many : Nat) : Int), .list ((s.words ++ r.words).map PyData.str)])
                have e1 : max (max 0 (s.high : Int)) (r.high : Int) + 1 = ((max s.high r.high + 1 : Nat) : Int) := by omega
                have e2 : 1 + (s.many : Int) + (r.many : Int) = ((1 + s.many + r.many : Nat) : Int) := by omega
                rw [e1, e2, List.nil_append]
          have hbad : view (.tuple (.str w :: rest)) = .bad := by
            match rest with
            | [] => unfold view; dsimp only; rw [if_neg fun q => hwa ⟨q, rfl⟩]
            | [a] => unfold view; dsimp only; rw [if_neg fun q => hwh ⟨q, rfl⟩, if_neg fun q => hwn ⟨q, rfl⟩]
            | [a, b] => unfold view; dsimp only; rw [if_neg fun q => hwl ⟨q, rfl⟩, if_neg fun q => hw2 ⟨q, rfl⟩]
            | _ :: _ :: _ :: _ => rfl
          refine vwhen (p := true) ?last (fun _ => ?_) fun hb => nomatch hb
          case last =>
            by_cases hin : w ∈ (["not", "both", "either"] : List Str)
            · have hi1 := decide_eq_true hin
              refine t_to (t_or (p := false) (q := true) (t_to (by wtm_at "evt") (by rw [hi1]; rfl)) fun _ => t_to (by wtm_at "evt") ?_) rfl
              rw [Bool.not_eq_true', decide_eq_false_iff_not]
              rcases List.mem_cons.mp hin with rfl | hin
              · rw [decide_eq_true rfl]
                exact fun q => hwn ⟨rfl, q⟩
              · have hw3 : w = "both" ∨ w = "either" := by
                  rcases List.mem_cons.mp hin with rfl | hin
                  · exact .inl rfl
                  · exact .inr (List.mem_singleton.mp hin)
                have hnn : decide (w = "not") = false := by rcases hw3 with rfl | rfl <;> decide +kernel
                rw [hnn]
                exact fun q => hw2 ⟨hw3, q⟩
            · have hi1 := decide_eq_false hin
              exact t_to (t_or (p := true) (q := true) (t_to (by wtm_at "evt") (by rw [hi1]; rfl)) fun z => nomatch z) rfl
          refine wret (by wtm_at "ev") ?_
          show Av.d .none = _
          rw [seen_bad hbad]; rfl


theorem vwhile {tt : AT} {b t' : AS} {σ : Sl} {S : Sg} {Q : Fl → Sl → Sg → Prop} (I : Nat → Sl → Sg → Prop) (m : Nat) (hm : m < 1000000) (h0 : I m σ S)
    (step : ∀ m σ S, I m σ S → ∃ c, tt σ S = some (.ok c, S) ∧ (c = false → wS t' σ S Q) ∧ (c = true → wS b σ S (fun fl σ' S' => match fl with | .nx => ∃ m', m' < m ∧ I m' σ' S' | .ct => ∃ m', m' < m ∧ I m' σ' S' | .bk => wS t' σ' S' Q | .rt x => Q (.rt x) σ' S' | .ex e => Q (.ex e) σ' S'))) :
    wS (aSeq (aWhile tt b) t') σ S Q := by
  refine wseq ?_
  refine while_wp I m hm h0 fun m σ S hI => ?_
  obtain ⟨c, e, h1, h2⟩ := step m σ S hI
  refine ⟨c, S, e, h1, fun hc => ?_⟩
  obtain ⟨fl, σ', S', e2, q⟩ := h2 hc
  refine ⟨fl, σ', S', e2, ?_⟩
  cases fl <;> exact q
/-! ### what the things are made of -/
def Th (h l : Nat) (d : D) : Prop := fine h d ∧ (∀ k, lv k d ≤ l) ∧ PyData.canLay0 d = true ∧ PyData.depth d ≤ h + 2
theorem Th.up {h l h2 l2 : Nat} {d : D} (t : Th h l d) (e1 : h ≤ h2) (e2 : l ≤ l2) : Th h2 l2 d := ⟨fine_up t.1 e1, fun k => Nat.le_trans (t.2.1 k) e2, t.2.2.1, by have := t.2.2.2; omega⟩
theorem six_ok : ∀ z ∈ (["any", "has", "least", "not", "both", "either"] : List Str), PyData.strOk z = true := by decide +kernel
theorem Th.not {h l : Nat} {d : D} (t : Th h l d) (hh : h ≤ 60) : Th (h + 1) l (.tuple [.str "not", d]) := by
  obtain ⟨t1, t2, t3, t4⟩ := t
  have c : PyData.canLay0 (.tuple [.str "not", d]) = true := by
    simp only [PyData.canLay0, PyData.canLayAll0, Bool.and_eq_true, and_true]
    exact ⟨six_ok _ (by simp), t3⟩
  have dp : PyData.depth (.tuple [.str "not", d]) ≤ h + 3 := by
    simp only [PyData.depth, PyData.depthAll]
    omega
  refine ⟨⟨shaped_iff.mpr ⟨c, by omega⟩, t1⟩, fun k => ?_, c, by omega⟩
  cases k with
  | zero => exact Nat.le_trans (Nat.le_refl 1) (t2 0)
  | succ k => exact t2 k
theorem Th.two {h l l2 : Nat} {w : Str} {a b : D} (hw : w = "both" ∨ w = "either") (t : Th h l a) (s : Th h l2 b) (hh : h ≤ 60) : Th (h + 1) (l + l2) (.tuple [.str w, a, b]) := by
  obtain ⟨t1, t2, t3, t4⟩ := t
  obtain ⟨s1, s2, s3, s4⟩ := s
  have hv : view (.tuple [.str w, a, b]) = .two a b := by rcases hw with rfl | rfl <;> rfl
  have hwo : PyData.strOk w = true := by rcases hw with rfl | rfl <;> exact six_ok _ (by simp)
  have c : PyData.canLay0 (.tuple [.str w, a, b]) = true := by
    simp only [PyData.canLay0, PyData.canLayAll0, Bool.and_eq_true, and_true]
    exact ⟨hwo, t3, s3⟩
  have dp : PyData.depth (.tuple [.str w, a, b]) ≤ h + 3 := by
    simp only [PyData.depth, PyData.depthAll]
    omega
  refine ⟨⟨shaped_iff.mpr ⟨c, by omega⟩, ?_⟩, fun k => ?_, c, by omega⟩
  · rw [hv]; exact ⟨t1, s1⟩
  · cases k with
    | zero => have := t2 0; exact Nat.le_trans (Nat.le_refl 1) (Nat.le_trans this (Nat.le_add_right ..))
    | succ k =>
      unfold lv
      rw [hv]
      exact Nat.add_le_add (t2 k) (s2 k)
def szB : D → Bool
  | .str z => decide (z.length ≤ 50000)
  | _ => true
theorem szB_ok {d : D} (h : szB d = true) : szD d := by
  cases d <;> first | trivial | exact (show Str.length _ ≤ 50000 from of_decide_eq_true h)
def isBad : Kd → Bool
  | .bad => true
  | _ => false
def chk (d : D) : Bool := PyData.canLay0 d && (decide (PyData.depth d ≤ 4) && match view d with
  | .has x => szB x
  | .least x _ => szB x
  | .not a => PyData.canLay0 a && (decide (PyData.depth a ≤ 4) && isBad (view a))
  | .two _ _ => false
  | _ => true)
theorem Th.chk {d : D} (h : chk d = true) : Th 2 1 d := by
  unfold My.chk at h
  rw [Bool.and_eq_true, Bool.and_eq_true, decide_eq_true_eq] at h
  obtain ⟨h1, h2, h3⟩ := h
  have hs : SeqAt.shaped d = true := shaped_iff.mpr ⟨h1, by omega⟩
  cases hv : view d with
  | any =>
    refine ⟨⟨hs, by rw [hv]; trivial⟩, fun k => ?_, h1, h2⟩
    cases k with
    | zero => exact Nat.le_refl _
    | succ k => unfold lv; rw [hv]; exact Nat.le_refl _
  | has x =>
    rw [hv] at h3
    refine ⟨⟨hs, by rw [hv]; exact szB_ok h3⟩, fun k => ?_, h1, h2⟩
    cases k with
    | zero => exact Nat.le_refl _
    | succ k => unfold lv; rw [hv]; exact Nat.le_refl _
  | least x y =>
    rw [hv] at h3
    refine ⟨⟨hs, by rw [hv]; exact szB_ok h3⟩, fun k => ?_, h1, h2⟩
    cases k with
    | zero => exact Nat.le_refl _
    | succ k => unfold lv; rw [hv]; exact Nat.le_refl _
  | not a =>
    rw [hv] at h3
    simp only [Bool.and_eq_true, decide_eq_true_eq] at h3
    obtain ⟨a1, a2, a3⟩ := h3
    have hb : view a = .bad := by cases hq : view a <;> rw [hq] at a3 <;> first | rfl | cases a3
    refine ⟨⟨hs, by rw [hv]; exact ⟨shaped_iff.mpr ⟨a1, by omega⟩, by rw [hb]; trivial⟩⟩, fun k => ?_, h1, h2⟩
    cases k with
    | zero => exact Nat.le_refl _
    | succ k =>
      unfold lv
      rw [hv]
      cases k with
      | zero => exact Nat.le_refl _
      | succ k => show lv (k + 1) a ≤ 1; unfold lv; rw [hb]; exact Nat.le_refl _
  | two a b => rw [hv] at h3; cases h3
  | bad =>
    refine ⟨⟨hs, by rw [hv]; trivial⟩, fun k => ?_, h1, h2⟩
    cases k with
    | zero => exact Nat.le_refl _
    | succ k => unfold lv; rw [hv]; exact Nat.le_refl _
theorem all_consB {d : D} {ds : List D} (h : chk d = true) (t : ∀ d ∈ ds, chk d = true) : ∀ e ∈ d :: ds, chk e = true := by
  intro e he
  rcases List.mem_cons.mp he with rfl | he
  · exact h
  · exact t e he
theorem pf_odd (n : Int) : ∃ r, pf A__law_odd [.int n] = some (.ok r) ∧ Th 2 1 r := by
  refine pf_ex ?_
  refine vset (by wtm_at "ev") ?_
  refine vset (by wtm_at "ev") ?_
  refine vset (by wtm_at "ev") ?_
  refine vset (by wtm_at "ev") ?_
  refine vset (by wtm_at "ev") ?_
  refine vcut (fun σ S => ∃ ds : List D, ds.length = 34 ∧ (∀ d ∈ ds, chk d = true) ∧ S = [] ∧ σ = [some (.d (.int n)), some (.d (.list ds))]) (wset (by wtm_at "ev") ⟨_, ?_, ?_, rfl, rfl⟩) fun σ S hJ => ?_
  · rfl
  · decide +kernel
  · obtain ⟨ds, hl, h, rfl, rfl⟩ := hJ
    have h1 := Int.emod_nonneg n (show ((ds.length : Nat) : Int) ≠ 0 by omega)
    have h2 := Int.emod_lt_of_pos n (show 0 < ((ds.length : Nat) : Int) by omega)
    have h3 : fIx (.list ds) (.int (n % ((ds.length : Nat) : Int))) = some (ds.getD (n % ((ds.length : Nat) : Int)).toNat (PyData.none : D)) := atI_getD (PyData.none : D) h1 h2
    refine wret (by wtm_at "ev") ?_
    refine Th.chk (h _ ?_)
    rw [List.getD_eq_getElem?_getD, List.getElem?_eq_getElem (by omega)]
    exact List.getElem_mem _


abbrev five : List Str := ["age", "agee", "size", "z", "abcdefghijkl"]
theorem getD_map {α β : Type} (f : α → β) (l : List α) (i : Nat) (z : α) : (l.map f).getD i (f z) = f (l.getD i z) := by
  rw [List.getD_eq_getElem?_getD, List.getD_eq_getElem?_getD, List.getElem?_map, Option.getD_map]
theorem five_ok : ∀ z ∈ five, PyData.strOk z = true ∧ z.length ≤ 50000 := by decide +kernel
theorem Th.any : Th 2 1 (.tuple [.str "any"]) := Th.chk (by decide +kernel)
theorem Th.has {w : Str} (h : PyData.strOk w = true ∧ w.length ≤ 50000) : Th 2 1 (.tuple [.str "has", .str w]) := by
  refine Th.chk ?_
  have e : view (.tuple [.str "has", .str w]) = .has (.str w) := rfl
  have c : PyData.canLay0 (.tuple [.str "has", .str w]) = true := by
    simp only [PyData.canLay0, PyData.canLayAll0, Bool.and_eq_true, and_true]
    exact ⟨six_ok _ (by simp), h.1⟩
  have dp : PyData.depth (.tuple [.str "has", .str w]) ≤ 4 := by
    simp only [PyData.depth, PyData.depthAll]
    omega
  unfold My.chk
  rw [e, c, decide_eq_true dp, Bool.true_and, Bool.true_and]
  exact decide_eq_true h.2
theorem Th.least {w : Str} {n : Int} (h : PyData.strOk w = true ∧ w.length ≤ 50000) : Th 2 1 (.tuple [.str "least", .str w, .int n]) := by
  refine Th.chk ?_
  have e : view (.tuple [.str "least", .str w, .int n]) = .least (.str w) (.int n) := rfl
  have c : PyData.canLay0 (.tuple [.str "least", .str w, .int n]) = true := by
    simp only [PyData.canLay0, PyData.canLayAll0, Bool.and_eq_true, and_true]
    exact ⟨six_ok _ (by simp), h.1⟩
  have dp : PyData.depth (.tuple [.str "least", .str w, .int n]) ≤ 4 := by
    simp only [PyData.depth, PyData.depthAll]
    omega
  unfold My.chk
  rw [e, c, decide_eq_true dp, Bool.true_and, Bool.true_and]
  exact decide_eq_true h.2
theorem getD_mem {α : Type} {l : List α} {i : Nat} (z : α) (h : i < l.length) : l.getD i z ∈ l := by
  rw [List.getD_eq_getElem?_getD, List.getElem?_eq_getElem h]
  exact List.getElem_mem _
theorem mod_at {α : Type} (ds : List α) (z : α) (x m : Int) (h : 0 < m ∧ m ≤ (ds.length : Int)) : atI ds (x % m) = some (ds.getD (x % m).toNat z) ∧ ds.getD (x % m).toNat z ∈ ds := by
  have h1 := Int.emod_nonneg x (show m ≠ 0 by omega)
  have h2 := Int.emod_lt_of_pos x h.1
  exact ⟨atI_getD z h1 (by omega), getD_mem z (by omega)⟩
theorem pf_leaf (ns : List Int) (k m : Int) (o : Bool) (hl : ns.length ≤ 63) (hk : 0 ≤ k ∧ k ≤ 1000) (hm : 1 ≤ m ∧ m ≤ 5) : ∃ r, pf A__law_leaf [.list (ns.map PyData.int), .int k, .bool o, .int m] = some (.ok r) ∧ Th 2 1 r := by
  have mx := pf_mixed ns k 11 hl (by omega) (by omega)
  have c := pf_cell_at ns k
  have hb30 := big30
  obtain ⟨ro, ho1, ho2⟩ := pf_odd (mixF ns k 11 / 7)
  have i1 : fIx (.list [.str "age", .str "agee", .str "size", .str "z", .str "abcdefghijkl"]) (.int (mixF ns k 11 / 7 % m)) = some (.str (five.getD (mixF ns k 11 / 7 % m).toNat "z")) := by
    have := (mod_at (five.map PyData.str) (.str "z") (mixF ns k 11 / 7) m ⟨by omega, by show m ≤ 5; omega⟩).1
    rw [getD_map] at this
    exact this
  have i2 := (mod_at five "z" (mixF ns k 11 / 7) m ⟨by omega, by show m ≤ 5; omega⟩).2
  generalize (five.getD (mixF ns k 11 / 7 % m).toNat "z") = w at i1 i2
  have hw := five_ok w i2
  refine pf_ex ?_
  refine vset (by wtm_at "ev") ?_
  refine vwhen (by wtm_at "evt") (fun hb => ?_) fun hb => ?_
  · refine wret (by wtm_at "ev") ?_
    exact ho2
  refine vset (by wtm_at "ev") ?_
  refine vset (by wtm_at "ev") ?_
  have i3 : ∀ a : Int, fIx (.list [.int a, .int ((10 : Int) ^ (30 : Int).toNat), .int (-((10 : Int) ^ (30 : Int).toNat)), .int 0]) (.int (mixF ns k 11 / 35 % 4)) = some (.int ([a, (10 : Int) ^ (30 : Int).toNat, -((10 : Int) ^ (30 : Int).toNat), 0].getD (mixF ns k 11 / 35 % 4).toNat 0)) := fun a => by
    have := (mod_at ([a, (10 : Int) ^ (30 : Int).toNat, -((10 : Int) ^ (30 : Int).toNat), 0].map PyData.int) (.int 0) (mixF ns k 11 / 35) 4 ⟨by omega, by show (4 : Int) ≤ 4; omega⟩).1
    rw [getD_map] at this
    exact this
  have i4 := i3 (cellAt ns k % (2 * (10 : Int) ^ (30 : Int).toNat + 1) - (10 : Int) ^ (30 : Int).toNat)
  refine vset (by wtm_at "ev") ?_
  generalize ([cellAt ns k % (2 * (10 : Int) ^ (30 : Int).toNat + 1) - (10 : Int) ^ (30 : Int).toNat, (10 : Int) ^ (30 : Int).toNat, -((10 : Int) ^ (30 : Int).toNat), 0].getD (mixF ns k 11 / 35 % 4).toNat 0) = far at *
  obtain ⟨i5, i6⟩ := mod_at [PyData.tuple [.str "any"], .tuple [.str "has", .str w], .tuple [.str "least", .str w, .int far]] .none (mixF ns k 11) 3 ⟨by omega, by show (3 : Int) ≤ 3; omega⟩
  have i5 : fIx (.list [PyData.tuple [.str "any"], .tuple [.str "has", .str w], .tuple [.str "least", .str w, .int far]]) (.int (mixF ns k 11 % 3)) = _ := i5
  refine wret (by wtm_at "ev") ?_
  generalize [PyData.tuple [.str "any"], .tuple [.str "has", .str w], .tuple [.str "least", .str w, .int far]].getD (mixF ns k 11 % 3).toNat .none = r at *
  show Th 2 1 r
  simp only [List.mem_cons, List.not_mem_nil, or_false] at i6
  rcases i6 with rfl | rfl | rfl
  · exact Th.any
  · exact Th.has hw
  · exact Th.least hw


/-! ### piles -/
def Pile (h l : Nat) (ps : List (D × Nat)) : Prop := (∀ p ∈ ps, Th h p.2 p.1) ∧ (ps.map (·.2)).sum ≤ l
abbrev cells (ps : List (D × Nat)) : List Av := ps.map fun p => Av.d p.1
theorem Pile.up {h l h2 l2 : Nat} {ps : List (D × Nat)} (p : Pile h l ps) (e1 : h ≤ h2) (e2 : l ≤ l2) : Pile h2 l2 ps := ⟨fun q hq => (p.1 q hq).up e1 (Nat.le_refl _), Nat.le_trans p.2 e2⟩
theorem Pile.app {h l l2 : Nat} {ps qs : List (D × Nat)} (p : Pile h l ps) (q : Pile h l2 qs) : Pile h (l + l2) (ps ++ qs) := by
  refine ⟨fun x hx => ?_, ?_⟩
  · rcases List.mem_append.mp hx with hx | hx
    · exact p.1 x hx
    · exact q.1 x hx
  · rw [List.map_append, List.sum_append]
    have := p.2; have := q.2; omega
theorem Pile.one {h l : Nat} {d : D} (t : Th h l d) : Pile h l [(d, l)] := ⟨fun x hx => by rw [List.mem_singleton.mp hx]; exact t, by simp⟩
theorem Pile.last {h l : Nat} {ps : List (D × Nat)} (p : Pile h l ps) (hl : 0 < ps.length) : ∃ qs q, ps = qs ++ [q] ∧ Th h q.2 q.1 ∧ Pile h (l - q.2) qs ∧ q.2 ≤ l := by
  have hne : ps ≠ [] := fun e => by rw [e] at hl; cases hl
  refine ⟨ps.dropLast, ps.getLast hne, (List.dropLast_concat_getLast hne).symm, p.1 _ (List.getLast_mem hne), ⟨fun x hx => p.1 x ((List.dropLast_sublist _).subset hx), ?_⟩, ?_⟩
  · have := p.2
    rw [← List.dropLast_concat_getLast hne, List.map_append, List.sum_append] at this
    simp only [List.map_cons, List.map_nil, List.sum_cons, List.sum_nil] at this
    omega
  · have := p.2
    rw [← List.dropLast_concat_getLast hne, List.map_append, List.sum_append] at this
    simp only [List.map_cons, List.map_nil, List.sum_cons, List.sum_nil] at this
    omega
theorem Pile.first {h l : Nat} {ps : List (D × Nat)} (p : Pile h l ps) (hl : 0 < ps.length) : ∃ q qs, ps = q :: qs ∧ Th h q.2 q.1 ∧ Pile h (l - q.2) qs ∧ q.2 ≤ l := by
  match ps, p, hl with
  | q :: qs, p, _ =>
    have := p.2
    rw [List.map_cons, List.sum_cons] at this
    exact ⟨q, qs, rfl, p.1 q (List.mem_cons_self ..), ⟨fun x hx => p.1 x (List.mem_cons_of_mem _ hx), by omega⟩, by omega⟩
theorem cells_app (a b : List (D × Nat)) : cells (a ++ b) = cells a ++ cells b := List.map_append
theorem pop_at (X : List Av) (y : Av) : fPop (X ++ [y]) [] = some (y, X) := by
  unfold fPop
  dsimp only
  rw [List.length_append, List.length_singleton, Nat.add_sub_cancel, get_last, List.dropLast_concat]
  rfl
theorem app_at (X : List Av) (y : Av) (h : X.length < 100000) : fAppend X [y] = some (.d .none, X ++ [y]) := by
  unfold fAppend
  dsimp only
  rw [if_pos h]
theorem pop0_at (X : List Av) (y : Av) : fPopAt (y :: X) [.d (.int 0)] = some (y, X) := by
  unfold fPopAt
  dsimp only
  rw [if_pos (by decide)]
  have : seqIndex? 0 (y :: X).length = some 0 := by
    unfold seqIndex?
    simp
  rw [this]
  rfl
theorem ins0_at (X : List Av) (y : Av) (h : X.length < 100000) : fInsert X [.d (.int 0), y] = some (.d .none, y :: X) := by
  unfold fInsert
  dsimp only
  rw [if_pos ⟨h, by decide⟩]
  rfl
theorem pf_built (ns : List Int) (k n m : Int) (o : Bool) (hl : ns.length ≤ 63) (hk : 0 ≤ k ∧ k ≤ 900) (hn : 1 ≤ n ∧ n ≤ 24) (hm : 1 ≤ m ∧ m ≤ 5) : ∃ r, pf A__law_built [.list (ns.map PyData.int), .int k, .int n, .bool o, .int m] = some (.ok r) ∧ Th 60 24 r := by
  refine pf_ex ?_
  refine vset (x := .o 0) (S1 := [.lst []]) rfl ?_
  refine vforN (fun i σ S => ∃ (ps : List (D × Nat)) (y6 y7 y8 y9 : Option Av), S = [.lst (cells ps)] ∧ Pile (i + 2) i ps ∧ ps.length ≤ i ∧ (1 ≤ i → 1 ≤ ps.length) ∧ σ = [some (.d (.list (ns.map PyData.int))), some (.d (.int k)), some (.d (.int n)), some (.d (.bool o)), some (.d (.int m)), some (.o 0), y6, y7, y8, y9]) (xs := (rangeD k ((k + n) - k).toNat).map .d) (show aiR2 _ _ [Cl.lst []] = some (.ok (itL _), [Cl.lst []]) from by wtm_at "evi") (by rw [List.length_map, rangeD_len]; omega) ⟨[], _, _, _, _, rfl, ⟨fun x hx => (nomatch hx), Nat.le_refl _⟩, Nat.le_refl _, fun h => absurd h (by omega), rfl⟩ (fun i x σ S hx hI => ?_) fun σ S hI => ?_
  · obtain ⟨ps, y6, y7, y8, y9, rfl, hp, hlen, h1, rfl⟩ := hI
    obtain ⟨j, rfl, hj⟩ : ∃ j : Int, x = .d (.int j) ∧ 0 ≤ j ∧ j ≤ 1000 ∧ i < 24 := by
      rw [List.getElem?_map] at hx
      obtain ⟨d, hd, rfl⟩ := Option.map_eq_some_iff.mp hx
      obtain ⟨h1, h2⟩ := rangeD_get hd
      exact ⟨_, by rw [h2], by omega, by omega, by omega⟩
    have mx := pf_mixed ns j 12 hl (by omega) (by omega)
    have hcl : (cells ps).length = ps.length := List.length_map ..
    obtain ⟨rl, hr1, hr2⟩ := pf_leaf ns j m o hl ⟨hj.1, hj.2.1⟩ hm
    refine vset (by wtm_at "ev") ?_
    refine wif (by wtm_at "evt") (fun hb => ?_) fun hb => ?_
    · rw [Bool.and_eq_true, decide_eq_true_eq, decide_eq_true_eq, hcl] at hb
      obtain ⟨qs, q, rfl, hq, hqs, hql⟩ := hp.last (by omega)
      rw [List.length_append, List.length_singleton] at hlen
      have f1 := pop_at (cells qs) (.d q.1)
      have f2 := app_at (cells qs) (.d (.tuple [.str "not", q.1])) (by rw [List.length_map]; omega)
      rw [cells_app]
      refine wdrop (e_bmL (e_var rfl) rfl (es_cons (e_tup (es_cons e_D (es_cons (e_bmL (e_var rfl) rfl es_nil (f_mdL rfl f1)) es_nil)) rfl (by simp)) es_nil) (f_mdL rfl f2)) ?_
      refine ⟨qs ++ [(.tuple [.str "not", q.1], q.2)], _, _, _, _, by rw [cells_app]; rfl, ?_, by rw [List.length_append, List.length_singleton]; omega, fun _ => by rw [List.length_append, List.length_singleton]; omega, rfl⟩
      exact (Pile.app (hqs.up (Nat.le_succ _) (Nat.le_refl _)) (Pile.one (hq.not (by omega)))).up (Nat.le_refl _) (by omega)
    · refine wif (by wtm_at "evt") (fun hb2 => ?_) fun hb2 => ?_
      · rw [Bool.and_eq_true, decide_eq_true_eq, decide_eq_true_eq, hcl] at hb2
        obtain ⟨qs, q, rfl, hq, hqs, hql⟩ := hp.last (by omega)
        rw [List.length_append, List.length_singleton] at hlen hb2
        obtain ⟨rs, r, rfl, hr, hrs, hrl⟩ := hqs.last (by omega)
        rw [List.length_append, List.length_singleton] at hlen hb2
        have f1 := pop_at (cells (rs ++ [r])) (.d q.1)
        have f2 := pop_at (cells rs) (.d r.1)
        obtain ⟨i5, i6⟩ := mod_at [PyData.str "both", .str "either"] .none (mixF ns j 12) 2 ⟨by omega, by show (2 : Int) ≤ 2; omega⟩
        obtain ⟨w, hw1, hw2⟩ : ∃ w : Str, [PyData.str "both", .str "either"].getD (mixF ns j 12 % 2).toNat .none = .str w ∧ (w = "both" ∨ w = "either") := by
          simp only [List.mem_cons, List.not_mem_nil, or_false] at i6
          rcases i6 with h | h
          · exact ⟨_, h, .inl rfl⟩
          · exact ⟨_, h, .inr rfl⟩
        rw [hw1] at i5
        have i5 : fIx (.list [.str "both", .str "either"]) (.int (mixF ns j 12 % 2)) = some (.str w) := i5
        have f3 := app_at (cells rs) (.d (.tuple [.str w, r.1, q.1])) (by rw [List.length_map]; omega)
        rw [cells_app]
        refine vset (e_bmL (e_var rfl) rfl es_nil (f_mdL rfl f1)) ?_
        rw [cells_app]
        refine wdrop (e_bmL (e_var rfl) rfl (es_cons (e_tup (es_cons (by wtm_at "ev") (es_cons (e_bmL (e_var rfl) rfl es_nil (f_mdL rfl f2)) (es_cons (e_var rfl) es_nil))) rfl (by simp)) es_nil) (f_mdL rfl f3)) ?_
        refine ⟨rs ++ [(.tuple [.str w, r.1, q.1], r.2 + q.2)], _, _, _, _, by rw [cells_app]; rfl, ?_, by rw [List.length_append, List.length_singleton]; omega, fun _ => by rw [List.length_append, List.length_singleton]; omega, rfl⟩
        exact (Pile.app (hrs.up (Nat.le_succ _) (Nat.le_refl _)) (Pile.one (Th.two hw2 hr hq (by omega)))).up (Nat.le_refl _) (by omega)
      · have f1 := app_at (cells ps) (.d rl) (by rw [hcl]; omega)
        refine wdrop (e_bmL (e_var rfl) rfl (by wtm_at "evs") (f_mdL rfl f1)) ?_
        refine ⟨ps ++ [(rl, 1)], _, _, _, _, by rw [cells_app]; rfl, ?_, by rw [List.length_append, List.length_singleton]; omega, fun _ => by rw [List.length_append, List.length_singleton]; omega, rfl⟩
        exact (Pile.app (hp.up (Nat.le_succ _) (Nat.le_refl _)) (Pile.one (hr2.up (by omega) (Nat.le_refl _))))
  · obtain ⟨ps, y6, y7, y8, y9, rfl, hp, hlen, h1, rfl⟩ := hI
    rw [List.length_map, rangeD_len] at hp hlen h1
    have hp0 := hp.up (h2 := 50 - 24) (l2 := 24) (by omega) (by omega)
    have hl0 : ps.length ≤ 24 := by omega
    have h10 := h1 (by omega)
    clear hp h1 hlen
    refine vwhile (fun c σ S => ∃ (ps : List (D × Nat)) (y6 y7 y8 y9 : Option Av), S = [.lst (cells ps)] ∧ Pile (50 - c) 24 ps ∧ ps.length ≤ c ∧ c ≤ 24 ∧ 1 ≤ ps.length ∧ σ = [some (.d (.list (ns.map PyData.int))), some (.d (.int k)), some (.d (.int n)), some (.d (.bool o)), some (.d (.int m)), some (.o 0), y6, y7, y8, y9]) 24 (by omega) ⟨ps, y6, y7, y8, y9, rfl, hp0, hl0, Nat.le_refl _, h10, rfl⟩ fun c σ S hI => ?_
    obtain ⟨ps, y6, y7, y8, y9, rfl, hp, hlen, hc, h1, rfl⟩ := hI
    have hcl : (cells ps).length = ps.length := List.length_map ..
    refine ⟨_, by wtm_at "evt", fun hb => ?_, fun hb => ?_⟩
    · have hb := of_decide_eq_false hb
      rw [hcl] at hb
      match ps, hp, h1, hb with
      | [p], hp, _, _ =>
        refine wret (e_op (e_var rfl) e_D (f_ixL rfl (x := .d p.1) (by rfl))) ?_
        exact (hp.1 p (List.mem_singleton.mpr rfl)).up (by omega) (by have := hp.2; simp at this; omega)
      | _ :: _ :: _, _, _, hb => simp at hb; omega
    · have hb := of_decide_eq_true hb
      rw [hcl] at hb
      obtain ⟨qs, q, rfl, hq, hqs, hql⟩ := hp.last (by omega)
      rw [List.length_append, List.length_singleton] at hlen hb h1
      obtain ⟨r, rs, rfl, hr, hrs, hrl⟩ := hqs.first (by omega)
      rw [List.length_cons] at hlen hb
      have f1 := pop_at (cells (r :: rs)) (.d q.1)
      have f2 : fPopAt (cells (r :: rs)) [.d (.int 0)] = some (.d r.1, cells rs) := pop0_at (cells rs) (.d r.1)
      have f3 := ins0_at (cells rs) (.d (.tuple [.str "both", r.1, q.1])) (by rw [List.length_map]; omega)
      rw [cells_app]
      refine vset (e_bmL (e_var rfl) rfl es_nil (f_mdL rfl f1)) ?_
      refine vset (e_bmL (e_var rfl) rfl (es_cons e_D es_nil) (f_mdL rfl f2)) ?_
      refine wdrop (e_bmL (e_var rfl) rfl (es_cons e_D (es_cons (e_tup (es_cons e_D (es_cons (e_var rfl) (es_cons (e_var rfl) es_nil))) rfl (by simp)) es_nil)) (f_mdL rfl f3)) ?_
      refine ⟨c - 1, by omega, (.tuple [.str "both", r.1, q.1], r.2 + q.2) :: rs, _, _, _, _, rfl, ?_, by rw [List.length_cons]; omega, by omega, by rw [List.length_cons]; omega, rfl⟩
      have e0 : 50 - (c - 1) = 50 - c + 1 := by omega
      rw [e0]
      exact (Pile.app (ps := [_]) (Pile.one (Th.two (.inl rfl) hr hq (by omega))) (hrs.up (Nat.le_succ _) (Nat.le_refl _))).up (Nat.le_refl _) (by omega)


theorem vlcF {ai : Sl → M Itm} {g : Av → AS} {e : AE} {vs : List Nat} {σ : Sl} {S : Sg} {ds : List D} {i : Nat} {t' : AS} {Q : Fl → Sl → Sg → Prop} (Pr : D → D → Prop) (hi : ai σ S = some (.ok (itL (ds.map .d)), S)) (hl : ds.length ≤ 100000)
    (hb : ∀ d ∈ ds, ∃ σ1 r, g (.d d) (wipeA σ vs) S = some (.nx, σ1, S) ∧ e σ1 S = some (.ok (.d r), S) ∧ Pr d r)
    (k : ∀ rs : List D, rs.length = ds.length → (∀ r ∈ rs, ∃ d ∈ ds, Pr d r) → wS t' (σ.set i (some (.d (.list rs)))) S Q) :
    wS (aSeq (aAsg (aLc lcF ai g aYes e vs) (agName i)) t') σ S Q := by
  obtain ⟨rs, h1, h2, h3⟩ := aLc_ex (mk := lcF) Pr hi hl hb
  have e9 : lf (lcF (rs.map .d)) S = some (.ok (.d (.list rs)), S) := by unfold lf lcF; rw [allD_map]; rfl
  exact vset (h3.trans e9) (k rs h1 h2)
theorem wlcC {ai : Sl → M Itm} {g : Av → AS} {e : AE} {vs : List Nat} {σ : Sl} {S : Sg} {ds : List D} {i : Nat} {Q : Fl → Sl → Sg → Prop} (Pr : D → D → Prop) (hi : ai σ S = some (.ok (itL (ds.map .d)), S)) (hl : ds.length ≤ 100000)
    (hb : ∀ d ∈ ds, ∃ σ1 r, g (.d d) (wipeA σ vs) S = some (.nx, σ1, S) ∧ e σ1 S = some (.ok (.d r), S) ∧ Pr d r)
    (k : ∀ rs : List D, rs.length = ds.length → (∀ r ∈ rs, ∃ d ∈ ds, Pr d r) → Q .nx (σ.set i (some (.o S.length))) (S ++ [.lst (rs.map .d)])) :
    wS (aAsg (aLc lcC ai g aYes e vs) (agName i)) σ S Q := by
  obtain ⟨rs, h1, h2, h3⟩ := aLc_ex (mk := lcC) Pr hi hl hb
  exact wset (h3.trans rfl) (k rs h1 h2)
theorem vlcC {ai : Sl → M Itm} {g : Av → AS} {e : AE} {vs : List Nat} {σ : Sl} {S : Sg} {ds : List D} {i : Nat} {t' : AS} {Q : Fl → Sl → Sg → Prop} (Pr : D → D → Prop) (hi : ai σ S = some (.ok (itL (ds.map .d)), S)) (hl : ds.length ≤ 100000)
    (hb : ∀ d ∈ ds, ∃ σ1 r, g (.d d) (wipeA σ vs) S = some (.nx, σ1, S) ∧ e σ1 S = some (.ok (.d r), S) ∧ Pr d r)
    (k : ∀ rs : List D, rs.length = ds.length → (∀ r ∈ rs, ∃ d ∈ ds, Pr d r) → wS t' (σ.set i (some (.o S.length))) (S ++ [.lst (rs.map .d)]) Q) :
    wS (aSeq (aAsg (aLc lcC ai g aYes e vs) (agName i)) t') σ S Q := by
  obtain ⟨rs, h1, h2, h3⟩ := aLc_ex (mk := lcC) Pr hi hl hb
  exact vset (h3.trans rfl) (k rs h1 h2)
theorem atI_mapd (ds : List D) (i : Int) : atI (ds.map Av.d) i = (atI ds i).map Av.d := by
  unfold atI
  rw [List.length_map, Option.map_bind]
  congr 1
  funext j
  exact List.getElem?_map ..
theorem at_ds (ds : List D) (i : Int) (h0 : 0 ≤ i) (h1 : i < (ds.length : Int)) : ∃ d, atI ds i = some d ∧ d ∈ ds := ⟨_, atI_getD (PyData.none : D) h0 h1, getD_mem _ (by omega)⟩
theorem range_at {n : Nat} {d : D} (h : d ∈ rangeD 0 n) : ∃ j : Int, d = .int j ∧ 0 ≤ j ∧ j < n := by
  obtain ⟨i, hi⟩ := List.getElem?_of_mem h
  obtain ⟨h1, h2⟩ := rangeD_get hi
  exact ⟨_, h2, by omega, by omega⟩
theorem ixN_of {n : Nat} {i : Int} (h0 : 0 ≤ i) (h1 : i < (n : Int)) : ixN n i = some i.toNat := by
  unfold ixN
  split <;> simp_all <;> omega
theorem pf_even (ns : List Int) (k n : Int) (hl : ns.length ≤ 63) (hk : 0 ≤ k ∧ k ≤ 900) (hn : 29 ≤ n ∧ n ≤ 31) : ∃ r, pf A__law_even [.list (ns.map PyData.int), .int k, .int n] = some (.ok r) ∧ Th 60 24 r := by
  refine pf_ex ?_
  refine vlcF (fun _ r => Th 2 1 r) (by wtm_at "evi") (by rw [rangeD_len]; omega) (fun d hd => ?_) fun rs hrl hrs => ?_
  · obtain ⟨j, rfl, hj1, hj2⟩ := range_at hd
    obtain ⟨r, hr, ht⟩ := pf_leaf ns (k + j) 3 false hl (by omega) (by omega)
    exact ⟨_, r, rfl, by wtm_at "ev", ht⟩
  rw [rangeD_len] at hrl
  have hrl : rs.length = 16 := hrl
  have hrs : ∀ r ∈ rs, Th 2 1 r := fun r hr => by obtain ⟨_, _, q⟩ := hrs r hr; exact q
  refine vlcC (fun _ r => Th 3 2 r) (by wtm_at "evi") (by rw [rangeD_len]; omega) (fun d hd => ?_) fun ts htl hts => ?_
  · obtain ⟨j, rfl, hj1, hj2⟩ := range_at hd
    have hj2 : j < 8 := hj2
    obtain ⟨a, a1, a2⟩ := at_ds rs (2 * j) (by omega) (by omega)
    obtain ⟨b, b1, b2⟩ := at_ds rs (2 * j + 1) (by omega) (by omega)
    have a1 : fIx (.list rs) (.int (2 * j)) = some a := a1
    have b1 : fIx (.list rs) (.int (2 * j + 1)) = some b := b1
    exact ⟨_, .tuple [.str "both", a, b], rfl, by wtm_at "ev", (Th.two (.inl rfl) (hrs a a2) (hrs b b2) (by omega))⟩
  rw [rangeD_len] at htl
  have htl : ts.length = 8 := htl
  have hts : ∀ r ∈ ts, Th 3 2 r := fun r hr => by obtain ⟨_, _, q⟩ := hts r hr; exact q
  obtain ⟨a, a1, a2⟩ := at_ds rs 10 (by omega) (by omega)
  have a1 : fIx (.list rs) (.int 10) = some a := a1
  obtain ⟨b, b1, b2⟩ := at_ds ts 5 (by omega) (by omega)
  have b3 : atI (ts.map Av.d) 5 = some (.d b) := by rw [atI_mapd, b1]; rfl
  obtain ⟨c, c1, c2⟩ := at_ds [a, .tuple [.str "not", a], b] (n - 29) (by omega) (by show _ < (3 : Int); omega)
  have c1 : fIx (.list [a, .tuple [.str "not", a], b]) (.int (n - 29)) = some c := c1
  have hc : Th 3 2 c := by
    simp only [List.mem_cons, List.not_mem_nil, or_false] at c2
    rcases c2 with rfl | rfl | rfl
    · exact (hrs _ a2).up (by omega) (by omega)
    · exact ((hrs a a2).not (by omega)).up (by omega) (by omega)
    · exact hts _ b2
  have hput : putC (.lst (ts.map Av.d)) (.int 5) (.d c) = some (.lst ((ts.set 5 c).map Av.d)) := by
    unfold putC; dsimp only; rw [List.length_map, ixN_of (by omega) (by omega)]
    show some (Cl.lst ((ts.map Av.d).set 5 (.d c))) = _
    rw [List.map_set]
  refine vsub (by wtm_at "ev") (e_var rfl) e_D (S4 := [.lst ((ts.set 5 c).map Av.d)]) (by unfold Ly.stM; dsimp only; exact congrArg (Option.map _) hput) ?_
  have hts2 : ∀ r ∈ ts.set 5 c, Th 3 2 r := by
    intro r hr
    rcases List.mem_or_eq_of_mem_set hr with h1 | rfl
    · exact hts r h1
    · exact hc
  refine vwhile (fun c σ S => ∃ (j : Nat) (us : List D) (x3 y5 : Option Av), S[j]? = some (.lst (us.map .d)) ∧ us.length = 2 ^ c ∧ c ≤ 3 ∧ (∀ r ∈ us, Th (6 - c) (2 ^ (4 - c)) r) ∧ σ = [some (.d (.list (ns.map PyData.int))), some (.d (.int k)), some (.d (.int n)), x3, some (.o j), y5]) 3 (by omega) ⟨0, ts.set 5 c, _, _, rfl, by rw [List.length_set, htl], Nat.le_refl _, hts2, rfl⟩ fun c σ S hI => ?_
  obtain ⟨j, us, x3, y5, hS, hul, hc3, hus, rfl⟩ := hI
  have hcl : (us.map Av.d).length = us.length := List.length_map ..
  refine ⟨_, t_B (e_op (e_cb (es_cons (e_var rfl) es_nil) (f_lenC hS rfl)) e_D (by wtm_at "fo")), fun hb => ?_, fun hb => ?_⟩
  · have hb := of_decide_eq_false hb
    rw [hcl] at hb
    match us, hS, hus, hul, hb with
    | [], _, _, hul, _ => exact absurd hul.symm (Nat.ne_of_gt (Nat.two_pow_pos c))
    | [u], hS, hus, hul, _ =>
      refine wret (e_op (e_var rfl) e_D (f_ixL hS (x := .d u) (by rfl))) ?_
      have hc0 : c = 0 := by
        match c, hul with
        | 0, _ => rfl
        | c + 1, hul =>
          have := Nat.two_pow_pos c
          rw [Nat.pow_succ] at hul
          simp only [List.length_cons, List.length_nil] at hul
          omega
      subst hc0
      exact (hus u (List.mem_singleton.mpr rfl)).up (by omega) (by decide)
    | _ :: _ :: _, _, _, _, hb => simp at hb; omega
  · have hb := of_decide_eq_true hb
    rw [hcl] at hb
    match c, hul, hc3, hus with
    | 0, hul, _, _ => simp at hul; omega
    | c + 1, hul, hc3, hus =>
      have hul : us.length = 2 ^ c * 2 := hul
      refine wlcC (fun _ r => Th (6 - c) (2 ^ (4 - c)) r) (i_r1 (n := ((us.map Av.d).length : Int) / 2) (es_cons (e_op (e_cb (es_cons (e_var rfl) es_nil) (f_lenC hS rfl)) e_D (by wtm_at "fo")) es_nil) ?_) ?_ (fun d hd => ?_) fun ts htl hts => ?_
      · rw [hcl]
        have : 2 ^ c ≤ 8 := Nat.pow_le_pow_right (n := 2) (by omega) (show c ≤ 3 by omega)
        omega
      · rw [rangeD_len, hcl]
        have : 2 ^ c ≤ 8 := Nat.pow_le_pow_right (n := 2) (by omega) (show c ≤ 3 by omega)
        omega
      · obtain ⟨i, rfl, hj1, hj2⟩ := range_at hd
        rw [hcl] at hj2
        obtain ⟨a, a1, a2⟩ := at_ds us (2 * i) (by omega) (by omega)
        obtain ⟨b, b1, b2⟩ := at_ds us (2 * i + 1) (by omega) (by omega)
        have a3 : atI (us.map Av.d) (2 * i) = some (.d a) := by rw [atI_mapd, a1]; rfl
        have b3 : atI (us.map Av.d) (2 * i + 1) = some (.d b) := by rw [atI_mapd, b1]; rfl
        refine ⟨_, .tuple [.str "either", a, b], rfl, e_tup (es_cons e_D (es_cons (e_op (e_var rfl) (by wtm_at "ev") (f_ixL hS a3)) (es_cons (e_op (e_var rfl) (by wtm_at "ev") (f_ixL hS b3)) es_nil))) rfl (by simp), ?_⟩
        have := Th.two (.inr rfl) (hus a a2) (hus b b2) (by omega)
        exact this.up (by omega) (by
          have e : 4 - c = (4 - (c + 1)) + 1 := by omega
          rw [e, Nat.pow_succ]
          omega)
      · rw [rangeD_len, hcl] at htl
        exact ⟨c, by omega, S.length, ts, _, _, get_last S _, by rw [htl]; omega, by omega, fun r hr => by obtain ⟨_, _, q⟩ := hts r hr; exact q, rfl⟩


theorem pf_thing (ns : List Int) (k : Int) (hl : ns.length ≤ 63) (hk : 0 ≤ k ∧ k ≤ 900) : ∃ r, pf A__law_thing [.list (ns.map PyData.int), .int k] = some (.ok r) ∧ Th 60 24 r := by
  have mx := pf_mixed ns k 13 hl (by omega) (by omega)
  have m0 := mixF_nn ns k 13
  refine pf_ex ?_
  refine vset (by wtm_at "ev") ?_
  refine vwhen (by wtm_at "evt") (fun hb => ?_) fun hb => ?_
  · obtain ⟨i5, i6⟩ := mod_at [PyData.tuple [.str "any"], .tuple [.str "has", .str "age"], .tuple [.str "least", .str "z", .int 0]] .none (mixF ns k 13 / 8) 3 ⟨by omega, by show (3 : Int) ≤ 3; omega⟩
    have i5 : fIx (.list [PyData.tuple [.str "any"], .tuple [.str "has", .str "age"], .tuple [.str "least", .str "z", .int 0]]) (.int (mixF ns k 13 / 8 % 3)) = _ := i5
    have h0 : Th 2 1 ([PyData.tuple [.str "any"], .tuple [.str "has", .str "age"], .tuple [.str "least", .str "z", .int 0]].getD (mixF ns k 13 / 8 % 3).toNat .none) := by
      simp only [List.mem_cons, List.not_mem_nil, or_false] at i6
      rcases i6 with h | h | h <;> rw [h]
      · exact Th.any
      · exact Th.has (five_ok _ (by simp))
      · exact Th.least (five_ok _ (by simp))
    refine vset (by wtm_at "ev") ?_
    refine vforN (fun i σ S => S = [] ∧ ∃ (d : D) (y : Option Av), Th (2 + i) 1 d ∧ i ≤ 6 ∧ σ = [some (.d (.list (ns.map PyData.int))), some (.d (.int k)), some (.d (.int (mixF ns k 13))), some (.d d), y, none]) (by wtm_at "evi") (by rw [List.length_map, rangeD_len]; omega) ⟨rfl, _, _, h0, by omega, rfl⟩ (fun i x σ S hx hI => ?_) fun σ S hI => ?_
    · obtain ⟨rfl, d, y, hd, hi, rfl⟩ := hI
      have hlt := (List.getElem?_eq_some_iff.mp hx).1
      rw [List.length_map, rangeD_len] at hlt
      refine wset (by wtm_at "ev") ⟨rfl, _, _, hd.not (by omega), by omega, rfl⟩
    · obtain ⟨rfl, d, y, hd, hi, rfl⟩ := hI
      rw [List.length_map, rangeD_len] at hd hi
      refine wret (by wtm_at "ev") ?_
      exact hd.up (by omega) (by omega)
  refine vwhen (by wtm_at "evt") (fun hb => ?_) fun hb => ?_
  · obtain ⟨r, h1, h2⟩ := pf_even ns k (29 + mixF ns k 13 / 8 % 3) hl hk (by omega)
    refine wret (by wtm_at "ev") ?_
    exact h2
  refine vwhen (by wtm_at "evt") (fun hb => ?_) fun hb => ?_
  · obtain ⟨r, h1, h2⟩ := pf_odd (mixF ns k 13 / 8)
    refine wret (by wtm_at "ev") ?_
    exact h2.up (by omega) (by omega)
  refine vset (by wtm_at "ev") ?_
  refine vcut (fun σ S => S = [] ∧ ∃ n : Int, 1 ≤ n ∧ n ≤ 24 ∧ σ = [some (.d (.list (ns.map PyData.int))), some (.d (.int k)), some (.d (.int (mixF ns k 13))), none, none, some (.d (.int n))]) (wwhen (by wtm_at "evt") (fun hb => ?_) fun hb => ?_) fun σ S hJ => ?_
  · refine wset (by wtm_at "ev") ⟨rfl, _, ?_, ?_, rfl⟩ <;> omega
  · exact ⟨rfl, _, by omega, by omega, rfl⟩
  · obtain ⟨rfl, n, hn1, hn2, rfl⟩ := hJ
    obtain ⟨r, h1, h2⟩ := pf_built ns k n (1 + mixF ns k 13 / 1088 % 5) (decide (mixF ns k 13 / 544 % 2 = 0)) hl hk ⟨hn1, hn2⟩ (by omega)
    refine wret (by wtm_at "ev") ?_
    exact h2
theorem e_lenSet {a : AE} {σ : Sl} {S S1 : Sg} {zs : List Str} (ha : a σ S = some (.ok (.d (.list (zs.map PyData.str))), S1)) (hl : zs.length < 64) : aLenSet a σ S = some (.ok (.d (.int ((uniq zs).length : Nat))), S1) := by
  unfold aLenSet; rw [bnd_ok ha]; show (match strsOf (zs.map PyData.str) with | some zs => _ | none => _) = _; rw [strsOf_map]; exact if_pos hl
theorem law_true (ns : List Int) (hl : ns.length ≤ 63) : ∃ S', A_law [.d (.list (ns.map PyData.int))] [] = some (.ok (.d (.bool true)), S') := by
  have key : ∃ r S', A_law [.d (.list (ns.map PyData.int))] [] = some (r, S') ∧ r = .ok (.d (.bool true)) := by
    refine def_ex ?_
    refine vforN (fun i σ S => ∃ a b c d e, σ = [some (.d (.list (ns.map PyData.int))), a, b, c, d, e]) (by wtm_at "evi") (by rw [List.length_map, rangeD_len]; omega) ⟨_, _, _, _, _, (by rfl)⟩ (fun i x σ S hx hI => ?_) fun σ S hI => ?_
    · obtain ⟨a, b, c, d, e, rfl⟩ := hI
      obtain ⟨k, rfl, hk⟩ : ∃ k : Int, x = .d (.int k) ∧ 0 ≤ k ∧ k ≤ 900 := by
        rw [List.getElem?_map] at hx
        obtain ⟨d, hd, rfl⟩ := Option.map_eq_some_iff.mp hx
        obtain ⟨h1, h2⟩ := rangeD_get hd
        exact ⟨_, by rw [h2], by omega, by omega⟩
      obtain ⟨r, hr, ht⟩ := pf_thing ns k hl hk
      have hs := pf_seen 60 r ht.1 (Nat.le_trans (ht.2.1 60) (by omega))
      refine vset (by wtm_at "ev") ?_
      refine vset (by wtm_at "ev") ?_
      refine vset (x := .d (.bool (ruleF r))) (S1 := S) ?due ?_
      case due =>
        unfold ruleF
        cases hq : seenF 60 r with
        | none => exact e_to (e_andV (p := false) (q := false) (e_op (e_var rfl) e_D (f_D rfl)) fun z => nomatch z) rfl
        | some s =>
          have hw := words_lv 60 r s hq
          have hw2 := ht.2.1 60
          have k0 : fIx (snD (some s)) (.int 0) = some (.int s.high) := rfl
          have k1 : fIx (snD (some s)) (.int 1) = some (.int s.many) := rfl
          have k2 : fIx (snD (some s)) (.int 2) = some (.list (s.words.map PyData.str)) := rfl
          refine e_to (e_andV (p := true) (e_op (e_var rfl) e_D (f_D rfl)) fun _ => e_andV (by wtm_at "ev") fun _ => e_andV (by wtm_at "ev") fun _ => e_op (e_lenSet (by wtm_at "ev") (by omega)) e_D (by wtm_at "fo")) ?_
          show Av.d _ = Av.d _
          congr 2
          have z1 : decide ((s.high : Int) ≤ 6) = decide (s.high ≤ 6) := decide_eq_decide.mpr (by omega)
          have z2 : decide ((s.many : Int) ≤ 30) = decide (s.many ≤ 30) := decide_eq_decide.mpr (by omega)
          have z3 : decide (((uniq s.words).length : Int) ≤ 3) = decide ((uniq s.words).length ≤ 3) := decide_eq_decide.mpr (by omega)
          rw [z1, z2, z3]
          rfl
      obtain ⟨S', hS'⟩ := pf_rule ht.1 S
      refine vset (e_call (by wtm_at "evs") hS') ?_
      refine wwhen (p := false) (t_to (by wtm_at "evt") (by simp [isBol])) (fun hb => nomatch hb) fun hb => ?_
      exact ⟨_, _, _, _, _, rfl⟩
    · obtain ⟨a, b, c, d, e, rfl⟩ := hI
      refine wret (by wtm_at "ev") ?_
      rfl
  obtain ⟨r, S', e, rfl⟩ := key
  exact ⟨S', e⟩

theorem g_mk {K : Fg} {h : Heap} {mg : Str → Option Value} (X : K.In h) (Gn : h.Ns mainGlobals mg)
    {t_DEEPEST : Tok} (q_DEEPEST : PySem.W.nsIn K mainGlobals "DEEPEST" = some (some (.int 6 t_DEEPEST)))
    {t_FAR : Tok} (q_FAR : PySem.W.nsIn K mainGlobals "FAR" = some (some (.int 1000000000000000000000000000000 t_FAR)))
    {t_LETTERS : Tok} (q_LETTERS : PySem.W.nsIn K mainGlobals "LETTERS" = some (some (.str "abcdefghijklmnopqrstuvwxyz" t_LETTERS)))
    {t_MOST_PARTS : Tok} (q_MOST_PARTS : PySem.W.nsIn K mainGlobals "MOST_PARTS" = some (some (.int 30 t_MOST_PARTS)))
    {t_MOST_WORDS : Tok} (q_MOST_WORDS : PySem.W.nsIn K mainGlobals "MOST_WORDS" = some (some (.int 3 t_MOST_WORDS)))
    (z_all : PySem.W.nsIn K mainGlobals "all" = some none)
    (z_bool : PySem.W.nsIn K mainGlobals "bool" = some none)
    (z_int : PySem.W.nsIn K mainGlobals "int" = some none)
    (z_isinstance : PySem.W.nsIn K mainGlobals "isinstance" = some none)
    (z_len : PySem.W.nsIn K mainGlobals "len" = some none)
    (z_list : PySem.W.nsIn K mainGlobals "list" = some none)
    (z_max : PySem.W.nsIn K mainGlobals "max" = some none)
    (z_min : PySem.W.nsIn K mainGlobals "min" = some none)
    (z_range : PySem.W.nsIn K mainGlobals "range" = some none)
    (z_set : PySem.W.nsIn K mainGlobals "set" = some none)
    (z_str : PySem.W.nsIn K mainGlobals "str" = some none)
    (z_sum : PySem.W.nsIn K mainGlobals "sum" = some none)
    (z_tuple : PySem.W.nsIn K mainGlobals "tuple" = some none)
    {f0 : Addr} {od0 an0 : Option Addr} {sl0 : Array (Option Value)} {oc0 kV0 dc0 pm0 cd0 ct0 : Value} (a0 : PySem.W.nsIn K mainGlobals "is_whole" = some (some (.ref f0))) (l0 : K.lookup f0 = some ⟨oc0, od0, .func (PySem.W.fnOf "is_whole" "is_whole" (defArgs s_is_whole) (defBody s_is_whole) (defScope s_is_whole) .none kV0 dc0 pm0 an0 cd0 ct0), sl0⟩) (cc0 : PySem.W.codeIn K cd0 "is_whole" = true) (k0 : PySem.W.keepIn K (.ref f0) = true)
    {f1 : Addr} {od1 an1 : Option Addr} {sl1 : Array (Option Value)} {oc1 kV1 dc1 pm1 cd1 ct1 : Value} (a1 : PySem.W.nsIn K mainGlobals "made_of" = some (some (.ref f1))) (l1 : K.lookup f1 = some ⟨oc1, od1, .func (PySem.W.fnOf "made_of" "made_of" (defArgs s_made_of) (defBody s_made_of) (defScope s_made_of) .none kV1 dc1 pm1 an1 cd1 ct1), sl1⟩) (cc1 : PySem.W.codeIn K cd1 "made_of" = true) (k1 : PySem.W.keepIn K (.ref f1) = true)
    {f2 : Addr} {od2 an2 : Option Addr} {sl2 : Array (Option Value)} {oc2 kV2 dc2 pm2 cd2 ct2 : Value} (a2 : PySem.W.nsIn K mainGlobals "is_word" = some (some (.ref f2))) (l2 : K.lookup f2 = some ⟨oc2, od2, .func (PySem.W.fnOf "is_word" "is_word" (defArgs s_is_word) (defBody s_is_word) (defScope s_is_word) .none kV2 dc2 pm2 an2 cd2 ct2), sl2⟩) (cc2 : PySem.W.codeIn K cd2 "is_word" = true) (k2 : PySem.W.keepIn K (.ref f2) = true)
    {f3 : Addr} {od3 an3 : Option Addr} {sl3 : Array (Option Value)} {oc3 kV3 dc3 pm3 cd3 ct3 : Value} (a3 : PySem.W.nsIn K mainGlobals "is_near" = some (some (.ref f3))) (l3 : K.lookup f3 = some ⟨oc3, od3, .func (PySem.W.fnOf "is_near" "is_near" (defArgs s_is_near) (defBody s_is_near) (defScope s_is_near) .none kV3 dc3 pm3 an3 cd3 ct3), sl3⟩) (cc3 : PySem.W.codeIn K cd3 "is_near" = true) (k3 : PySem.W.keepIn K (.ref f3) = true)
    {f4 : Addr} {od4 an4 : Option Addr} {sl4 : Array (Option Value)} {oc4 kV4 dc4 pm4 cd4 ct4 : Value} (a4 : PySem.W.nsIn K mainGlobals "is_shaped" = some (some (.ref f4))) (l4 : K.lookup f4 = some ⟨oc4, od4, .func (PySem.W.fnOf "is_shaped" "is_shaped" (defArgs s_is_shaped) (defBody s_is_shaped) (defScope s_is_shaped) .none kV4 dc4 pm4 an4 cd4 ct4), sl4⟩) (cc4 : PySem.W.codeIn K cd4 "is_shaped" = true) (k4 : PySem.W.keepIn K (.ref f4) = true)
    {f5 : Addr} {od5 an5 : Option Addr} {sl5 : Array (Option Value)} {oc5 kV5 dc5 pm5 cd5 ct5 : Value} (a5 : PySem.W.nsIn K mainGlobals "rules_in" = some (some (.ref f5))) (l5 : K.lookup f5 = some ⟨oc5, od5, .func (PySem.W.fnOf "rules_in" "rules_in" (defArgs s_rules_in) (defBody s_rules_in) (defScope s_rules_in) .none kV5 dc5 pm5 an5 cd5 ct5), sl5⟩) (cc5 : PySem.W.codeIn K cd5 "rules_in" = true) (k5 : PySem.W.keepIn K (.ref f5) = true)
    {f6 : Addr} {od6 an6 : Option Addr} {sl6 : Array (Option Value)} {oc6 kV6 dc6 pm6 cd6 ct6 : Value} (a6 : PySem.W.nsIn K mainGlobals "many_parts" = some (some (.ref f6))) (l6 : K.lookup f6 = some ⟨oc6, od6, .func (PySem.W.fnOf "many_parts" "many_parts" (defArgs s_many_parts) (defBody s_many_parts) (defScope s_many_parts) .none kV6 dc6 pm6 an6 cd6 ct6), sl6⟩) (cc6 : PySem.W.codeIn K cd6 "many_parts" = true) (k6 : PySem.W.keepIn K (.ref f6) = true)
    {f7 : Addr} {od7 an7 : Option Addr} {sl7 : Array (Option Value)} {oc7 kV7 dc7 pm7 cd7 ct7 : Value} (a7 : PySem.W.nsIn K mainGlobals "gather" = some (some (.ref f7))) (l7 : K.lookup f7 = some ⟨oc7, od7, .func (PySem.W.fnOf "gather" "gather" (defArgs s_gather) (defBody s_gather) (defScope s_gather) .none kV7 dc7 pm7 an7 cd7 ct7), sl7⟩) (cc7 : PySem.W.codeIn K cd7 "gather" = true) (k7 : PySem.W.keepIn K (.ref f7) = true)
    {f8 : Addr} {od8 an8 : Option Addr} {sl8 : Array (Option Value)} {oc8 kV8 dc8 pm8 cd8 ct8 : Value} (a8 : PySem.W.nsIn K mainGlobals "is_rule" = some (some (.ref f8))) (l8 : K.lookup f8 = some ⟨oc8, od8, .func (PySem.W.fnOf "is_rule" "is_rule" (defArgs s_is_rule) (defBody s_is_rule) (defScope s_is_rule) .none kV8 dc8 pm8 an8 cd8 ct8), sl8⟩) (cc8 : PySem.W.codeIn K cd8 "is_rule" = true) (k8 : PySem.W.keepIn K (.ref f8) = true)
    {f9 : Addr} {od9 an9 : Option Addr} {sl9 : Array (Option Value)} {oc9 kV9 dc9 pm9 cd9 ct9 : Value} (a9 : PySem.W.nsIn K mainGlobals "_law_cell_at" = some (some (.ref f9))) (l9 : K.lookup f9 = some ⟨oc9, od9, .func (PySem.W.fnOf "_law_cell_at" "_law_cell_at" (defArgs s__law_cell_at) (defBody s__law_cell_at) (defScope s__law_cell_at) .none kV9 dc9 pm9 an9 cd9 ct9), sl9⟩) (cc9 : PySem.W.codeIn K cd9 "_law_cell_at" = true) (k9 : PySem.W.keepIn K (.ref f9) = true)
    {f10 : Addr} {od10 an10 : Option Addr} {sl10 : Array (Option Value)} {oc10 kV10 dc10 pm10 cd10 ct10 : Value} (a10 : PySem.W.nsIn K mainGlobals "_law_mixed" = some (some (.ref f10))) (l10 : K.lookup f10 = some ⟨oc10, od10, .func (PySem.W.fnOf "_law_mixed" "_law_mixed" (defArgs s__law_mixed) (defBody s__law_mixed) (defScope s__law_mixed) .none kV10 dc10 pm10 an10 cd10 ct10), sl10⟩) (cc10 : PySem.W.codeIn K cd10 "_law_mixed" = true) (k10 : PySem.W.keepIn K (.ref f10) = true)
    {f11 : Addr} {od11 an11 : Option Addr} {sl11 : Array (Option Value)} {oc11 kV11 dc11 pm11 cd11 ct11 : Value} (a11 : PySem.W.nsIn K mainGlobals "_law_whole" = some (some (.ref f11))) (l11 : K.lookup f11 = some ⟨oc11, od11, .func (PySem.W.fnOf "_law_whole" "_law_whole" (defArgs s__law_whole) (defBody s__law_whole) (defScope s__law_whole) .none kV11 dc11 pm11 an11 cd11 ct11), sl11⟩) (cc11 : PySem.W.codeIn K cd11 "_law_whole" = true) (k11 : PySem.W.keepIn K (.ref f11) = true)
    {f12 : Addr} {od12 an12 : Option Addr} {sl12 : Array (Option Value)} {oc12 kV12 dc12 pm12 cd12 ct12 : Value} (a12 : PySem.W.nsIn K mainGlobals "_law_odd" = some (some (.ref f12))) (l12 : K.lookup f12 = some ⟨oc12, od12, .func (PySem.W.fnOf "_law_odd" "_law_odd" (defArgs s__law_odd) (defBody s__law_odd) (defScope s__law_odd) .none kV12 dc12 pm12 an12 cd12 ct12), sl12⟩) (cc12 : PySem.W.codeIn K cd12 "_law_odd" = true) (k12 : PySem.W.keepIn K (.ref f12) = true)
    {f13 : Addr} {od13 an13 : Option Addr} {sl13 : Array (Option Value)} {oc13 kV13 dc13 pm13 cd13 ct13 : Value} (a13 : PySem.W.nsIn K mainGlobals "_law_leaf" = some (some (.ref f13))) (l13 : K.lookup f13 = some ⟨oc13, od13, .func (PySem.W.fnOf "_law_leaf" "_law_leaf" (defArgs s__law_leaf) (defBody s__law_leaf) (defScope s__law_leaf) .none kV13 dc13 pm13 an13 cd13 ct13), sl13⟩) (cc13 : PySem.W.codeIn K cd13 "_law_leaf" = true) (k13 : PySem.W.keepIn K (.ref f13) = true)
    {f14 : Addr} {od14 an14 : Option Addr} {sl14 : Array (Option Value)} {oc14 kV14 dc14 pm14 cd14 ct14 : Value} (a14 : PySem.W.nsIn K mainGlobals "_law_built" = some (some (.ref f14))) (l14 : K.lookup f14 = some ⟨oc14, od14, .func (PySem.W.fnOf "_law_built" "_law_built" (defArgs s__law_built) (defBody s__law_built) (defScope s__law_built) .none kV14 dc14 pm14 an14 cd14 ct14), sl14⟩) (cc14 : PySem.W.codeIn K cd14 "_law_built" = true) (k14 : PySem.W.keepIn K (.ref f14) = true)
    {f15 : Addr} {od15 an15 : Option Addr} {sl15 : Array (Option Value)} {oc15 kV15 dc15 pm15 cd15 ct15 : Value} (a15 : PySem.W.nsIn K mainGlobals "_law_even" = some (some (.ref f15))) (l15 : K.lookup f15 = some ⟨oc15, od15, .func (PySem.W.fnOf "_law_even" "_law_even" (defArgs s__law_even) (defBody s__law_even) (defScope s__law_even) .none kV15 dc15 pm15 an15 cd15 ct15), sl15⟩) (cc15 : PySem.W.codeIn K cd15 "_law_even" = true) (k15 : PySem.W.keepIn K (.ref f15) = true)
    {f16 : Addr} {od16 an16 : Option Addr} {sl16 : Array (Option Value)} {oc16 kV16 dc16 pm16 cd16 ct16 : Value} (a16 : PySem.W.nsIn K mainGlobals "_law_thing" = some (some (.ref f16))) (l16 : K.lookup f16 = some ⟨oc16, od16, .func (PySem.W.fnOf "_law_thing" "_law_thing" (defArgs s__law_thing) (defBody s__law_thing) (defScope s__law_thing) .none kV16 dc16 pm16 an16 cd16 ct16), sl16⟩) (cc16 : PySem.W.codeIn K cd16 "_law_thing" = true) (k16 : PySem.W.keepIn K (.ref f16) = true)
    {f17 : Addr} {od17 an17 : Option Addr} {sl17 : Array (Option Value)} {oc17 kV17 dc17 pm17 cd17 ct17 : Value} (a17 : PySem.W.nsIn K mainGlobals "_law_word_good" = some (some (.ref f17))) (l17 : K.lookup f17 = some ⟨oc17, od17, .func (PySem.W.fnOf "_law_word_good" "_law_word_good" (defArgs s__law_word_good) (defBody s__law_word_good) (defScope s__law_word_good) .none kV17 dc17 pm17 an17 cd17 ct17), sl17⟩) (cc17 : PySem.W.codeIn K cd17 "_law_word_good" = true) (k17 : PySem.W.keepIn K (.ref f17) = true)
    {f18 : Addr} {od18 an18 : Option Addr} {sl18 : Array (Option Value)} {oc18 kV18 dc18 pm18 cd18 ct18 : Value} (a18 : PySem.W.nsIn K mainGlobals "_law_seen" = some (some (.ref f18))) (l18 : K.lookup f18 = some ⟨oc18, od18, .func (PySem.W.fnOf "_law_seen" "_law_seen" (defArgs s__law_seen) (defBody s__law_seen) (defScope s__law_seen) .none kV18 dc18 pm18 an18 cd18 ct18), sl18⟩) (cc18 : PySem.W.codeIn K cd18 "_law_seen" = true) (k18 : PySem.W.keepIn K (.ref f18) = true)
    {f19 : Addr} {od19 an19 : Option Addr} {sl19 : Array (Option Value)} {oc19 kV19 dc19 pm19 cd19 ct19 : Value} (a19 : PySem.W.nsIn K mainGlobals "law" = some (some (.ref f19))) (l19 : K.lookup f19 = some ⟨oc19, od19, .func (PySem.W.fnOf "law" "law" (defArgs s_law) (defBody s_law) (defScope s_law) .none kV19 dc19 pm19 an19 cd19 ct19), sl19⟩) (cc19 : PySem.W.codeIn K cd19 "law" = true) (k19 : PySem.W.keepIn K (.ref f19) = true) : G K mg := by
  exact {
    b_all := PySem.W.mg_none_of X Gn z_all,
    b_bool := PySem.W.mg_none_of X Gn z_bool,
    b_int := PySem.W.mg_none_of X Gn z_int,
    b_isinstance := PySem.W.mg_none_of X Gn z_isinstance,
    b_len := PySem.W.mg_none_of X Gn z_len,
    b_list := PySem.W.mg_none_of X Gn z_list,
    b_max := PySem.W.mg_none_of X Gn z_max,
    b_min := PySem.W.mg_none_of X Gn z_min,
    b_range := PySem.W.mg_none_of X Gn z_range,
    b_set := PySem.W.mg_none_of X Gn z_set,
    b_str := PySem.W.mg_none_of X Gn z_str,
    b_sum := PySem.W.mg_none_of X Gn z_sum,
    b_tuple := PySem.W.mg_none_of X Gn z_tuple,
    c_DEEPEST := ⟨_, PySem.W.mg_of X Gn q_DEEPEST⟩,
    c_FAR := ⟨_, PySem.W.mg_of X Gn q_FAR⟩,
    c_LETTERS := ⟨_, PySem.W.mg_of X Gn q_LETTERS⟩,
    c_MOST_PARTS := ⟨_, PySem.W.mg_of X Gn q_MOST_PARTS⟩,
    c_MOST_WORDS := ⟨_, PySem.W.mg_of X Gn q_MOST_WORDS⟩,
    f_is_whole := ⟨f0, _, fun_mk (st := s_is_whole) l0 cc0 k0, PySem.W.mg_of X Gn a0, fun us hl => match us, hl with | [_], _ => rfl⟩,
    f_made_of := ⟨f1, _, fun_mk (st := s_made_of) l1 cc1 k1, PySem.W.mg_of X Gn a1, fun us hl => match us, hl with | [_, _, _], _ => rfl⟩,
    f_is_word := ⟨f2, _, fun_mk (st := s_is_word) l2 cc2 k2, PySem.W.mg_of X Gn a2, fun us hl => match us, hl with | [_], _ => rfl⟩,
    f_is_near := ⟨f3, _, fun_mk (st := s_is_near) l3 cc3 k3, PySem.W.mg_of X Gn a3, fun us hl => match us, hl with | [_], _ => rfl⟩,
    f_is_shaped := ⟨f4, _, fun_mk (st := s_is_shaped) l4 cc4 k4, PySem.W.mg_of X Gn a4, fun us hl => match us, hl with | [_, _], _ => rfl⟩,
    f_rules_in := ⟨f5, _, fun_mk (st := s_rules_in) l5 cc5 k5, PySem.W.mg_of X Gn a5, fun us hl => match us, hl with | [_], _ => rfl⟩,
    f_many_parts := ⟨f6, _, fun_mk (st := s_many_parts) l6 cc6 k6, PySem.W.mg_of X Gn a6, fun us hl => match us, hl with | [_], _ => rfl⟩,
    f_gather := ⟨f7, _, fun_mk (st := s_gather) l7 cc7 k7, PySem.W.mg_of X Gn a7, fun us hl => match us, hl with | [_, _], _ => rfl⟩,
    f_is_rule := ⟨f8, _, fun_mk (st := s_is_rule) l8 cc8 k8, PySem.W.mg_of X Gn a8, fun us hl => match us, hl with | [_], _ => rfl⟩,
    f__law_cell_at := ⟨f9, _, fun_mk (st := s__law_cell_at) l9 cc9 k9, PySem.W.mg_of X Gn a9, fun us hl => match us, hl with | [_, _], _ => rfl⟩,
    f__law_mixed := ⟨f10, _, fun_mk (st := s__law_mixed) l10 cc10 k10, PySem.W.mg_of X Gn a10, fun us hl => match us, hl with | [_, _, _], _ => rfl⟩,
    f__law_whole := ⟨f11, _, fun_mk (st := s__law_whole) l11 cc11 k11, PySem.W.mg_of X Gn a11, fun us hl => match us, hl with | [_], _ => rfl⟩,
    f__law_odd := ⟨f12, _, fun_mk (st := s__law_odd) l12 cc12 k12, PySem.W.mg_of X Gn a12, fun us hl => match us, hl with | [_], _ => rfl⟩,
    f__law_leaf := ⟨f13, _, fun_mk (st := s__law_leaf) l13 cc13 k13, PySem.W.mg_of X Gn a13, fun us hl => match us, hl with | [_, _, _, _], _ => rfl⟩,
    f__law_built := ⟨f14, _, fun_mk (st := s__law_built) l14 cc14 k14, PySem.W.mg_of X Gn a14, fun us hl => match us, hl with | [_, _, _, _, _], _ => rfl⟩,
    f__law_even := ⟨f15, _, fun_mk (st := s__law_even) l15 cc15 k15, PySem.W.mg_of X Gn a15, fun us hl => match us, hl with | [_, _, _], _ => rfl⟩,
    f__law_thing := ⟨f16, _, fun_mk (st := s__law_thing) l16 cc16 k16, PySem.W.mg_of X Gn a16, fun us hl => match us, hl with | [_, _], _ => rfl⟩,
    f__law_word_good := ⟨f17, _, fun_mk (st := s__law_word_good) l17 cc17 k17, PySem.W.mg_of X Gn a17, fun us hl => match us, hl with | [_], _ => rfl⟩,
    f__law_seen := ⟨f18, _, fun_mk (st := s__law_seen) l18 cc18 k18, PySem.W.mg_of X Gn a18, fun us hl => match us, hl with | [_], _ => rfl⟩,
    f_law := ⟨f19, _, fun_mk (st := s_law) l19 cc19 k19, PySem.W.mg_of X Gn a19, fun us hl => match us, hl with | [_], _ => rfl⟩ }
end My
open PySem PySem.W PyProof.Rows
set_option maxRecDepth 100000 in
set_option maxHeartbeats 0 in
theorem PySem.Challenge.cw_layersplit_k15_rules_known_holds : PySem.Challenge.rw_layersplit_k15_rules_known.Holds := by
  w_on; o_law; k_head; (case hw => w_witness2)
  k_fill
  refine L2.walk_of (l := PySem.Challenge.rw_layersplit_k15_rules_known) (n := 63) (k := 62) (x := "_law_script") (CX := fun w => L2.CX PySem.Challenge.rw_layersplit_k15_rules_known.prog w) (sp := fun w => Ly.spR _ Ly.RLaw) rfl (by decide) rfl ⟨rfl, by decide, by decide⟩ (fun w h Y => PySem.W.kIn_of Y) ?F (fun w H a ns hl _ hS => Ly.law_start hl hS) (fun w H s e s2 h => Ly.cx_false h)
  case F =>
    intro w mg fa h KX Gn hmg
    refine' (fun g => Ly.DkA.fin (My.G.f_law g) hmg (fun base _ _ => My.ok_law g) My.law_true) (My.g_mk KX Gn ?q_DEEPEST ?q_FAR ?q_LETTERS ?q_MOST_PARTS ?q_MOST_WORDS ?z_all ?z_bool ?z_int ?z_isinstance ?z_len ?z_list ?z_max ?z_min ?z_range ?z_set ?z_str ?z_sum ?z_tuple ?a0 ?l0 ?cc0 ?k0 ?a1 ?l1 ?cc1 ?k1 ?a2 ?l2 ?cc2 ?k2 ?a3 ?l3 ?cc3 ?k3 ?a4 ?l4 ?cc4 ?k4 ?a5 ?l5 ?cc5 ?k5 ?a6 ?l6 ?cc6 ?k6 ?a7 ?l7 ?cc7 ?k7 ?a8 ?l8 ?cc8 ?k8 ?a9 ?l9 ?cc9 ?k9 ?a10 ?l10 ?cc10 ?k10 ?a11 ?l11 ?cc11 ?k11 ?a12 ?l12 ?cc12 ?k12 ?a13 ?l13 ?cc13 ?k13 ?a14 ?l14 ?cc14 ?k14 ?a15 ?l15 ?cc15 ?k15 ?a16 ?l16 ?cc16 ?k16 ?a17 ?l17 ?cc17 ?k17 ?a18 ?l18 ?cc18 ?k18 ?a19 ?l19 ?cc19 ?k19)
    (case q_DEEPEST => k_is)
    (case q_FAR => k_is)
    (case q_LETTERS => k_is)
    (case q_MOST_PARTS => k_is)
    (case q_MOST_WORDS => k_is)
    (case z_all => k_is)
    (case z_bool => k_is)
    (case z_int => k_is)
    (case z_isinstance => k_is)
    (case z_len => k_is)
    (case z_list => k_is)
    (case z_max => k_is)
    (case z_min => k_is)
    (case z_range => k_is)
    (case z_set => k_is)
    (case z_str => k_is)
    (case z_sum => k_is)
    (case z_tuple => k_is)
    (case a0 => k_is)
    (case l0 => k_is)
    (case cc0 => k_is)
    (case k0 => k_is)
    (case a1 => k_is)
    (case l1 => k_is)
    (case cc1 => k_is)
    (case k1 => k_is)
    (case a2 => k_is)
    (case l2 => k_is)
    (case cc2 => k_is)
    (case k2 => k_is)
    (case a3 => k_is)
    (case l3 => k_is)
    (case cc3 => k_is)
    (case k3 => k_is)
    (case a4 => k_is)
    (case l4 => k_is)
    (case cc4 => k_is)
    (case k4 => k_is)
    (case a5 => k_is)
    (case l5 => k_is)
    (case cc5 => k_is)
    (case k5 => k_is)
    (case a6 => k_is)
    (case l6 => k_is)
    (case cc6 => k_is)
    (case k6 => k_is)
    (case a7 => k_is)
    (case l7 => k_is)
    (case cc7 => k_is)
    (case k7 => k_is)
    (case a8 => k_is)
    (case l8 => k_is)
    (case cc8 => k_is)
    (case k8 => k_is)
    (case a9 => k_is)
    (case l9 => k_is)
    (case cc9 => k_is)
    (case k9 => k_is)
    (case a10 => k_is)
    (case l10 => k_is)
    (case cc10 => k_is)
    (case k10 => k_is)
    (case a11 => k_is)
    (case l11 => k_is)
    (case cc11 => k_is)
    (case k11 => k_is)
    (case a12 => k_is)
    (case l12 => k_is)
    (case cc12 => k_is)
    (case k12 => k_is)
    (case a13 => k_is)
    (case l13 => k_is)
    (case cc13 => k_is)
    (case k13 => k_is)
    (case a14 => k_is)
    (case l14 => k_is)
    (case cc14 => k_is)
    (case k14 => k_is)
    (case a15 => k_is)
    (case l15 => k_is)
    (case cc15 => k_is)
    (case k15 => k_is)
    (case a16 => k_is)
    (case l16 => k_is)
    (case cc16 => k_is)
    (case k16 => k_is)
    (case a17 => k_is)
    (case l17 => k_is)
    (case cc17 => k_is)
    (case k17 => k_is)
    (case a18 => k_is)
    (case l18 => k_is)
    (case cc18 => k_is)
    (case k18 => k_is)
    (case a19 => k_is)
    (case l19 => k_is)
    (case cc19 => k_is)
    (case k19 => k_is)
