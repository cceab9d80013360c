import PyProof.Rows.All
import Wide.All
import OpenK.AllK
import Wide.FinOn
import HandS.ForMost
import HandS.Deep
import HandS.IsInst
import HandS.TupAny
import HandS.Wide
import HandS.Flow
import HandS.Style
import HandS.TupSets
import KE.SortData
import KE.KDictDisplayH
import KE.KeyNested
import PySem.Challenge.RW_meshcore_k40_whole_lists_of_pseudo_trian
set_option Elab.async false
set_option linter.all false
section
set_option maxRecDepth 100000
set_option maxHeartbeats 4000000
namespace Q40
open PySem PySem.Spec PyProof.Rows L2

/-! ### data and heaps -/
abbrev DEnv := List (Option PyData)
theorem sqT_same {K : PySem.W.Frag} {H H' : Hp} {a : Addr} {xs : List V} (e : Same H H') (h : SqT K H a xs) : SqT K H' a xs := by
  rcases h with (h | ⟨o, h⟩) | h
  · exact .inl (.inl (e _ _ h))
  · exact .inl (.inr ⟨o, e _ _ h⟩)
  · exact .inr h
mutual
theorem dp_same {K : PySem.W.Frag} {H H' : Hp} (e : Same H H') : ∀ (d : PyData) (v : V), Dp K H v d → Dp K H' v d
  | .none, _, h => by cases h; exact .non
  | .bool _, _, h => by cases h; exact .bl _
  | .int _, _, h => by cases h; exact .int _
  | .str _, _, h => by cases h; exact .str _
  | .list ds, _, h => by
    cases h with
    | lst hs ha => exact .lst (e.seq hs) (dps_same e ds _ ha)
  | .tuple ds, _, h => by
    cases h with
    | tup hs ha => exact .tup (sqT_same e hs) (dps_same e ds _ ha)
  | .dict _, _, h => by cases h
theorem dps_same {K : PySem.W.Frag} {H H' : Hp} (e : Same H H') : ∀ (ds : List PyData) (vs : List V), DpAll K H vs ds → DpAll K H' vs ds
  | [], _, h => by cases h; exact .nil
  | d :: ds, _, h => by
    cases h with
    | cons h1 h2 => exact .cons (dp_same e d _ h1) (dps_same e ds _ h2)
end
theorem same_upd {H : Hp} {p : Addr} {o : HO} (h : H p = none) : Same H (upd H p o) := fun b x e => by
  rw [upd_ne (ne_of_none e h)]
  exact e
section
variable {K : PySem.W.Frag} {H H' : Hp}
theorem dps_len : ∀ {ds : List PyData} {vs : List V}, DpAll K H vs ds → vs.length = ds.length
  | [], _, h => by cases h; rfl
  | d :: ds, _, h => by
    cases h with
    | cons h1 h2 => rw [List.length_cons, List.length_cons, dps_len h2]
theorem dps_get : ∀ {ds : List PyData} {vs : List V} {i : Nat} {d : PyData}, DpAll K H vs ds → ds[i]? = some d → ∃ v, vs[i]? = some v ∧ Dp K H v d
  | [], _, _, _, _, q => by simp at q
  | d :: ds, _, 0, _, h, q => by
    cases h with
    | cons h1 h2 =>
      have e : d = _ := Option.some.inj q
      subst e
      exact ⟨_, rfl, h1⟩
  | d :: ds, _, i + 1, _, h, q => by
    cases h with
    | cons h1 h2 =>
      obtain ⟨v, a, b⟩ := dps_get (i := i) h2 q
      exact ⟨v, a, b⟩
theorem dps_get' : ∀ {ds : List PyData} {vs : List V} {i : Nat} {v : V}, DpAll K H vs ds → vs[i]? = some v → ∃ d, ds[i]? = some d ∧ Dp K H v d
  | [], _, i, _, h, q => by cases h; simp at q
  | d :: ds, _, 0, _, h, q => by
    cases h with
    | cons h1 h2 =>
      have e := Option.some.inj q
      subst e
      exact ⟨_, rfl, h1⟩
  | d :: ds, _, i + 1, _, h, q => by
    cases h with
    | cons h1 h2 =>
      obtain ⟨v, a, b⟩ := dps_get' (i := i) h2 q
      exact ⟨v, a, b⟩
theorem dps_app : ∀ {ds es : List PyData} {vs ws : List V}, DpAll K H vs ds → DpAll K H ws es → DpAll K H (vs ++ ws) (ds ++ es)
  | [], _, _, _, h, g => by cases h; exact g
  | d :: ds, _, _, _, h, g => by
    cases h with
    | cons h1 h2 => exact .cons h1 (dps_app h2 g)
theorem dps_take : ∀ {ds : List PyData} {vs : List V} (n : Nat), DpAll K H vs ds → DpAll K H (vs.take n) (ds.take n)
  | _, _, 0, _ => .nil
  | [], _, _ + 1, h => by cases h; exact .nil
  | d :: ds, _, n + 1, h => by
    cases h with
    | cons h1 h2 => exact .cons h1 (dps_take n h2)
theorem dps_drop : ∀ {ds : List PyData} {vs : List V} (n : Nat), DpAll K H vs ds → DpAll K H (vs.drop n) (ds.drop n)
  | _, _, 0, h => h
  | [], _, _ + 1, h => by cases h; exact .nil
  | d :: ds, _, n + 1, h => by
    cases h with
    | cons h1 h2 => exact dps_drop n h2
theorem dp_int {v : V} {i : Int} (h : Dp K H v (.int i)) : v = .int i := by cases h; rfl
theorem dp_bool {v : V} {i : Bool} (h : Dp K H v (.bool i)) : v = .bl i := by cases h; rfl
theorem dp_non {v : V} (h : Dp K H v .none) : v = .non := by cases h; rfl
theorem dp_list {v : V} {ds : List PyData} (h : Dp K H v (.list ds)) : ∃ a xs, v = .ref a ∧ SqL K H a xs ∧ DpAll K H xs ds := by cases h with | lst a b => exact ⟨_, _, rfl, a, b⟩
theorem dp_tup {v : V} {ds : List PyData} (h : Dp K H v (.tuple ds)) : ∃ a xs, v = .ref a ∧ SqT K H a xs ∧ DpAll K H xs ds := by cases h with | tup a b => exact ⟨_, _, rfl, a, b⟩
theorem dps_ints : ∀ {ns : List Int} {vs : List V}, DpAll K H vs (ns.map PyData.int) → vs = ns.map V.int
  | [], _, h => by cases h; rfl
  | n :: ns, _, h => by
    cases h with
    | cons h1 h2 =>
      cases dp_int h1
      rw [dps_ints h2]
      rfl
theorem dps_of_ints : ∀ (ns : List Int), DpAll K H (ns.map V.int) (ns.map PyData.int)
  | [] => .nil
  | n :: ns => .cons (.int n) (dps_of_ints ns)
theorem dps_one {v : V} {d : PyData} (h : Dp K H v d) : DpAll K H [v] [d] := .cons h .nil
end

/-- the slots hold the data -/
structure EnvD (K : PySem.W.Frag) (H : Hp) (σ : L2.St) (ρ : DEnv) : Prop where
  len : σ.length = ρ.length
  at_ : ∀ (i : Nat) (d : PyData), ρ[i]? = some (some d) → ∃ v, σ[i]? = some (some v) ∧ Dp K H v d
theorem EnvD.same {K : PySem.W.Frag} {H H' : Hp} {σ : L2.St} {ρ : DEnv} (h : EnvD K H σ ρ) (e : Same H H') : EnvD K H' σ ρ :=
  ⟨h.len, fun i d q => let ⟨v, a, b⟩ := h.at_ i d q; ⟨v, a, dp_same e d v b⟩⟩
theorem EnvD.set {K : PySem.W.Frag} {H : Hp} {σ : L2.St} {ρ : DEnv} {i : Nat} {v : V} {d : PyData} (h : EnvD K H σ ρ) (hd : Dp K H v d) : EnvD K H (σ.set i (some v)) (ρ.set i (some d)) := by
  refine ⟨by rw [List.length_set, List.length_set, h.len], fun j e q => ?_⟩
  by_cases hj : j = i
  · subst hj
    by_cases hl : j < ρ.length
    · rw [List.getElem?_set_self hl] at q
      cases q
      exact ⟨v, by rw [List.getElem?_set_self (by rw [h.len]; exact hl)], hd⟩
    · rw [List.getElem?_eq_none (by rw [List.length_set]; omega)] at q
      cases q
  · rw [List.getElem?_set_ne (Ne.symm hj)] at q
    obtain ⟨w, a, b⟩ := h.at_ j e q
    exact ⟨w, by rw [List.getElem?_set_ne (Ne.symm hj)]; exact a, b⟩
def wipeD (ρ : DEnv) : List Nat → DEnv
  | [] => ρ
  | v :: vs => (wipeD ρ vs).set v none
theorem EnvD.setN {K : PySem.W.Frag} {H : Hp} {σ : L2.St} {ρ : DEnv} {i : Nat} (h : EnvD K H σ ρ) : EnvD K H (σ.set i none) (ρ.set i none) := by
  refine ⟨by rw [List.length_set, List.length_set, h.len], fun j e q => ?_⟩
  by_cases hj : j = i
  · subst hj
    by_cases hl : j < ρ.length
    · rw [List.getElem?_set_self hl] at q
      cases q
    · rw [List.getElem?_eq_none (by rw [List.length_set]; omega)] at q
      cases q
  · rw [List.getElem?_set_ne (Ne.symm hj)] at q
    obtain ⟨w, a, b⟩ := h.at_ j e q
    exact ⟨w, by rw [List.getElem?_set_ne (Ne.symm hj)]; exact a, b⟩
theorem EnvD.wipe {K : PySem.W.Frag} {H : Hp} {σ : L2.St} {ρ : DEnv} (h : EnvD K H σ ρ) : ∀ vs : List Nat, EnvD K H (wipe σ vs) (wipeD ρ vs)
  | [] => h
  | v :: vs => (EnvD.wipe h vs).setN
theorem envD_start {K : PySem.W.Frag} {H : Hp} {N : List Str} {vs : List V} {ds : List PyData} (h : DpAll K H vs ds) : EnvD K H (L2.start N vs) (ds.map some ++ List.replicate (N.length - ds.length) none) := by
  have hl := dps_len h
  refine ⟨by unfold L2.start; simp [hl], fun i d q => ?_⟩
  by_cases hi : i < ds.length
  · rw [List.getElem?_append_left (by simpa using hi), List.getElem?_map] at q
    have e : ds[i]? = some d := by
      cases z : ds[i]? with
      | none => rw [z] at q; simp at q
      | some y => rw [z] at q; simp at q; rw [q]
    obtain ⟨v, a, b⟩ := dps_get h e
    refine ⟨v, ?_, b⟩
    unfold L2.start
    rw [List.getElem?_append_left (by simp; omega), List.getElem?_map, a]
    rfl
  · rw [List.getElem?_append_right (by simp; omega)] at q
    have := List.getElem?_eq_some_iff.mp q
    obtain ⟨h1, h2⟩ := this
    rw [List.getElem_replicate] at h2
    cases h2

/-! ### the weakest readings -/
def EAt (X : Cx) (e : Expr) : TE := fun σ H Q => ∀ (pins : List (Addr × Obj)) (s : Shared), Inv X pins σ H s → wpAny (model X.prog X.w) X.A (eval e X.env) (EP X pins σ Q) X.xe s
def TAt (X : Cx) (e : Expr) : TT := fun σ H Q => ∀ (pins : List (Addr × Obj)) (s : Shared), Inv X pins σ H s → wpAny (model X.prog X.w) X.A (isTrue e X.env (eval e X.env)) (TP X pins σ Q) X.xe s
def WAt (X : Cx) (e : Expr) : TT := fun σ H Q => ∀ (whole : Sem Value) (pins : List (Addr × Obj)) (s : Shared), Inv X pins σ H s → wpAny (model X.prog X.w) X.A (isTrue e X.env whole) (TP X pins σ Q) X.xe s
def AAt (X : Cx) (es : List Expr) : TA := fun σ H Q => ∀ (pos : Pos) (pins : List (Addr × Obj)) (s : Shared), Inv X pins σ H s → wpAny (model X.prog X.w) X.A (spliced (backTo pos (starEach es X.env))) (AP X pins σ Q) X.xe s
def SAt (X : Cx) (st : Stmt) : TS := fun D σ H => ∀ (pins : List (Addr × Obj)) (s : Shared), Inv X pins σ H s → wpAny (model X.prog X.w) X.A (exec st X.env) (SP X pins D) X.xe s
def BAt (X : Cx) (st : List Stmt) : TS := fun D σ H => ∀ (pins : List (Addr × Obj)) (s : Shared), Inv X pins σ H s → wpAny (model X.prog X.w) X.A (execs st X.env) (SP X pins D) X.xe s
section
variable {X : Cx} {e : Expr} {es : List Expr} {st : Stmt} {sts : List Stmt} {σ : L2.St} {H : Hp}
theorem eat : PE X e (EAt X e) := ⟨fun pins s _ _ _ I h => h pins s I⟩
theorem tat : PT X e (TAt X e) := ⟨fun pins s _ _ _ I h => h pins s I⟩
theorem wat : PW X e (WAt X e) := ⟨fun wh pins s _ _ _ I h => h wh pins s I⟩
theorem aat : PA X es (AAt X es) := ⟨fun pos pins s _ _ _ I h => h pos pins s I⟩
theorem sat : PS X st (SAt X st) := ⟨fun pins s _ _ _ I h => h pins s I⟩
theorem bat : PSs X sts (BAt X sts) := ⟨fun pins s _ _ _ I h => h pins s I⟩
theorem EAt.of {t : TE} (h : PE X e t) {Q : VK} (q : t σ H Q) : EAt X e σ H Q := fun pins s I => h.run pins s σ H Q I q
theorem TAt.of {t : TT} (h : PT X e t) {Q : Bool → Hp → Prop} (q : t σ H Q) : TAt X e σ H Q := fun pins s I => h.run pins s σ H Q I q
theorem WAt.of {t : TT} (h : PW X e t) {Q : Bool → Hp → Prop} (q : t σ H Q) : WAt X e σ H Q := fun wh pins s I => h.run wh pins s σ H Q I q
theorem AAt.of {t : TA} (h : PA X es t) {Q : List V → Hp → Prop} (q : t σ H Q) : AAt X es σ H Q := fun pos pins s I => h.run pos pins s σ H Q I q
theorem SAt.of {t : TS} (h : PS X st t) {D : Ends} (q : t D σ H) : SAt X st D σ H := fun pins s I => h.run pins s σ H D I q
theorem BAt.of {t : TS} (h : PSs X sts t) {D : Ends} (q : t D σ H) : BAt X sts D σ H := fun pins s I => h.run pins s σ H D I q
end

/-! ### what evaluates to what -/
def Ev (X : Cx) (e : Expr) (ρ : DEnv) (d : PyData) : Prop := ∀ σ H, EnvD X.K H σ ρ → ∀ Q : VK, (∀ v H', Same H H' → Dp X.K H' v d → Q v H') → EAt X e σ H Q
def EvT (X : Cx) (e : Expr) (ρ : DEnv) (b : Bool) : Prop := ∀ σ H, EnvD X.K H σ ρ → ∀ Q : Bool → Hp → Prop, (∀ H', Same H H' → Q b H') → TAt X e σ H Q
def EvW (X : Cx) (e : Expr) (ρ : DEnv) (b : Bool) : Prop := ∀ σ H, EnvD X.K H σ ρ → ∀ Q : Bool → Hp → Prop, (∀ H', Same H H' → Q b H') → WAt X e σ H Q
def EvA (X : Cx) (es : List Expr) (ρ : DEnv) (ds : List PyData) : Prop := ∀ σ H, EnvD X.K H σ ρ → ∀ Q : List V → Hp → Prop, (∀ vs H', Same H H' → DpAll X.K H' vs ds → Q vs H') → AAt X es σ H Q
section
variable {X : Cx} {e a b c : Expr} {es : List Expr} {ρ : DEnv} {d x y z : PyData} {pos : Pos}
theorem Ev.is {d' : PyData} (h : Ev X e ρ d) (q : d = d') : Ev X e ρ d' := q ▸ h
theorem EvT.is {k k' : Bool} (h : EvT X e ρ k) (q : k = k') : EvT X e ρ k' := q ▸ h
theorem ev_var (i : Nat) {x : Str} (h : ρ[i]? = some (some d) := by rfl) (hN : X.N[i]? = some x := by rfl) (hv : Vis X.env.scope x := by first | exact Or.inl rfl | exact Or.inr (Or.inl rfl) | exact Or.inr (Or.inr rfl)) (hd : (x == ("__debug__" : Str)) = false := by decide)
    (hcd : (x == ("__classdict__" : Str)) = false := by decide) : Ev X (.Name x pos) ρ d := fun σ H E Q q => by
  obtain ⟨v, h1, h2⟩ := E.at_ i d h
  exact EAt.of (pe_var hN hv hd hcd) ⟨v, h1, q v H (Same.refl H) h2⟩
theorem ev_int {i : Int} {j : Nat} : Ev X (.Constant (.int i) j pos) ρ (.int i) := fun σ H E Q q => EAt.of pe_int (q _ H (Same.refl H) (.int i))
theorem ev_bl {i : Bool} {j : Nat} : Ev X (.Constant (.bool i) j pos) ρ (.bool i) := fun σ H E Q q => EAt.of pe_bl (q _ H (Same.refl H) (.bl i))
theorem ev_non {j : Nat} : Ev X (.Constant .none j pos) ρ .none := fun σ H E Q q => EAt.of pe_non (q _ H (Same.refl H) .non)
theorem ev_glob {x : Str} {i : Int} {t : Tok} (hg : Gl X x) (hm : X.mg x = some (.int i t)) (hd : (x == ("__debug__" : Str)) = false := by decide) : Ev X (.Name x pos) ρ (.int i) := fun σ H E Q q =>
  EAt.of (pe_glob (v := .int i) hg hm ⟨_, rfl⟩ hd) (q _ H (Same.refl H) (.int i))
/-- two operands, by a rule on values -/
theorem bin_at {r : R2} {σ : L2.St} {H : Hp} {Q : VK} (ha : Ev X a ρ x) (hb : Ev X b ρ y) (E : EnvD X.K H σ ρ)
    (hr : ∀ u v H', Same H H' → Dp X.K H' u x → Dp X.K H' v y → r u v H' Q) : tOp r (EAt X a) (EAt X b) σ H Q :=
  ha σ H E _ fun u H1 s1 d1 => hb σ H1 (E.same s1) _ fun v H2 s2 d2 => hr u v H2 (s1.trans s2) (dp_same s2 _ _ d1) d2
theorem ev_bin {op : Operator} {r : R2} (ho : OpR X (binaryOp op) r) (ha : Ev X a ρ x) (hb : Ev X b ρ y)
    (hr : ∀ u v H Q, Dp X.K H u x → Dp X.K H v y → (∀ w H', Same H H' → Dp X.K H' w z → Q w H') → r u v H Q) : Ev X (.BinOp a op b pos) ρ z := fun σ H E Q q =>
  EAt.of (pe_op ho eat eat) (bin_at ha hb E fun u v H' s du dv => hr u v H' Q du dv fun w H2 s2 dw => q w H2 (s.trans s2) dw)
theorem ev_cmp {op : CmpOp} {r : R2} (ho : OpR X (compareOp op) r) (ha : Ev X a ρ x) (hb : Ev X b ρ y) (hm : behindInMarks op b = false)
    (hr : ∀ u v H Q, Dp X.K H u x → Dp X.K H v y → (∀ w H', Same H H' → Dp X.K H' w z → Q w H') → r u v H Q) : Ev X (.Compare a [op] [b] pos) ρ z := fun σ H E Q q =>
  EAt.of (pe_cmpR ho eat eat hm) (bin_at ha hb E fun u v H' s du dv => hr u v H' Q du dv fun w H2 s2 dw => q w H2 (s.trans s2) dw)
theorem et_cmp {op : CmpOp} {r : R2} {k : Bool} (ho : OpR X (compareOp op) r) (ha : Ev X a ρ x) (hb : Ev X b ρ y) (hm : behindInMarks op b = false)
    (hr : ∀ u v H Q, Dp X.K H u x → Dp X.K H v y → (∀ w H', Same H H' → Dp X.K H' w (.bool k) → Q w H') → r u v H Q) : EvT X (.Compare a [op] [b] pos) ρ k := fun σ H E Q q =>
  TAt.of (pt_cmpR ho eat eat hm) (bin_at ha hb E fun u v H' s du dv => hr u v H' _ du dv fun w H2 s2 dw => ⟨k, dp_bool dw, q H2 (s.trans s2)⟩)

/-! ints -/
theorem rI0_of {g : Int → Int → V} {i j : Int} {H : Hp} {u v : V} {Q : VK} {K : PySem.W.Frag} (du : Dp K H u (.int i)) (dv : Dp K H v (.int j)) (q : Q (g i j) H) : rI0 g u v H Q := by
  cases dp_int du; cases dp_int dv; exact ⟨i, j, rfl, rfl, q⟩
theorem rI_of {C : Int → Int → Prop} {g : Int → Int → V} {i j : Int} {H : Hp} {u v : V} {Q : VK} {K : PySem.W.Frag} (du : Dp K H u (.int i)) (dv : Dp K H v (.int j)) (hc : C i j) (q : Q (g i j) H) : rI C g u v H Q := by
  cases dp_int du; cases dp_int dv; exact ⟨i, j, rfl, rfl, hc, q⟩
variable {i j : Int}
theorem ev_add (ha : Ev X a ρ (.int i)) (hb : Ev X b ρ (.int j)) : Ev X (.BinOp a .Add b pos) ρ (.int (i + j)) := ev_bin op_add ha hb fun u v H Q du dv q => rI0_of du dv (q _ H (Same.refl H) (.int _))
theorem ev_sub (ha : Ev X a ρ (.int i)) (hb : Ev X b ρ (.int j)) : Ev X (.BinOp a .Sub b pos) ρ (.int (i - j)) := ev_bin op_sub ha hb fun u v H Q du dv q => rI0_of du dv (q _ H (Same.refl H) (.int _))
theorem ev_mul (ha : Ev X a ρ (.int i)) (hb : Ev X b ρ (.int j)) (hc : CMul i j) : Ev X (.BinOp a .Mult b pos) ρ (.int (i * j)) := ev_bin op_mul ha hb fun u v H Q du dv q => rI_of du dv hc (q _ H (Same.refl H) (.int _))
theorem ev_mulW (ha : Ev X a ρ (.int i)) (hb : Ev X b ρ (.int j)) (hc : CMulW i j) : Ev X (.BinOp a .Mult b pos) ρ (.int (i * j)) := ev_bin op_mulW ha hb fun u v H Q du dv q => rI_of du dv hc (q _ H (Same.refl H) (.int _))
theorem ev_div (ha : Ev X a ρ (.int i)) (hb : Ev X b ρ (.int j)) (hc : CDiv i j) : Ev X (.BinOp a .FloorDiv b pos) ρ (.int (i / j)) := ev_bin op_fdiv ha hb fun u v H Q du dv q => rI_of du dv hc (q _ H (Same.refl H) (.int _))
theorem ev_divW (ha : Ev X a ρ (.int i)) (hb : Ev X b ρ (.int j)) (hc : CDivW i j) : Ev X (.BinOp a .FloorDiv b pos) ρ (.int (i / j)) := ev_bin op_fdivW ha hb fun u v H Q du dv q => rI_of du dv hc (q _ H (Same.refl H) (.int _))
theorem ev_divN (ha : Ev X a ρ (.int i)) (hb : Ev X b ρ (.int j)) (hc : CDivN i j) : Ev X (.BinOp a .FloorDiv b pos) ρ (.int (i.fdiv j)) := ev_bin op_fdivN ha hb fun u v H Q du dv q => rI_of du dv hc (q _ H (Same.refl H) (.int _))
theorem ev_mod (ha : Ev X a ρ (.int i)) (hb : Ev X b ρ (.int j)) (hc : 0 < j) : Ev X (.BinOp a .Mod b pos) ρ (.int (i % j)) := ev_bin op_mod ha hb fun u v H Q du dv q => rI_of du dv hc (q _ H (Same.refl H) (.int _))
theorem ev_pow (ha : Ev X a ρ (.int i)) (hb : Ev X b ρ (.int j)) (hc : CPow i j) : Ev X (.BinOp a .Pow b pos) ρ (.int (i ^ j.toNat)) := ev_bin op_pow ha hb fun u v H Q du dv q => rI_of du dv hc (q _ H (Same.refl H) (.int _))
theorem ev_neg (ha : Ev X a ρ (.int i)) : Ev X (.UnaryOp .USub a pos) ρ (.int (-i)) := fun σ H E Q q =>
  EAt.of (pe_un un_neg eat) (ha σ H E _ fun u H1 s1 d1 => ⟨i, dp_int d1, q _ H1 s1 (.int _)⟩)
theorem ev_lt (ha : Ev X a ρ (.int i)) (hb : Ev X b ρ (.int j)) : Ev X (.Compare a [.Lt] [b] pos) ρ (.bool (decide (i < j))) := ev_cmp op_lt ha hb (nomark _) fun u v H Q du dv q => rI0_of du dv (q _ H (Same.refl H) (.bl _))
theorem ev_le (ha : Ev X a ρ (.int i)) (hb : Ev X b ρ (.int j)) : Ev X (.Compare a [.LtE] [b] pos) ρ (.bool (decide (i ≤ j))) := ev_cmp op_le ha hb (nomark _) fun u v H Q du dv q => rI0_of du dv (q _ H (Same.refl H) (.bl _))
theorem ev_gt (ha : Ev X a ρ (.int i)) (hb : Ev X b ρ (.int j)) : Ev X (.Compare a [.Gt] [b] pos) ρ (.bool (decide (j < i))) := ev_cmp op_gt ha hb (nomark _) fun u v H Q du dv q => rI0_of du dv (q _ H (Same.refl H) (.bl _))
theorem ev_ge (ha : Ev X a ρ (.int i)) (hb : Ev X b ρ (.int j)) : Ev X (.Compare a [.GtE] [b] pos) ρ (.bool (decide (j ≤ i))) := ev_cmp op_ge ha hb (nomark _) fun u v H Q du dv q => rI0_of du dv (q _ H (Same.refl H) (.bl _))
theorem et_lt (ha : Ev X a ρ (.int i)) (hb : Ev X b ρ (.int j)) : EvT X (.Compare a [.Lt] [b] pos) ρ (decide (i < j)) := et_cmp op_lt ha hb (nomark _) fun u v H Q du dv q => rI0_of du dv (q _ H (Same.refl H) (.bl _))
theorem et_le (ha : Ev X a ρ (.int i)) (hb : Ev X b ρ (.int j)) : EvT X (.Compare a [.LtE] [b] pos) ρ (decide (i ≤ j)) := et_cmp op_le ha hb (nomark _) fun u v H Q du dv q => rI0_of du dv (q _ H (Same.refl H) (.bl _))
theorem et_gt (ha : Ev X a ρ (.int i)) (hb : Ev X b ρ (.int j)) : EvT X (.Compare a [.Gt] [b] pos) ρ (decide (j < i)) := et_cmp op_gt ha hb (nomark _) fun u v H Q du dv q => rI0_of du dv (q _ H (Same.refl H) (.bl _))
theorem et_ge (ha : Ev X a ρ (.int i)) (hb : Ev X b ρ (.int j)) : EvT X (.Compare a [.GtE] [b] pos) ρ (decide (j ≤ i)) := et_cmp op_ge ha hb (nomark _) fun u v H Q du dv q => rI0_of du dv (q _ H (Same.refl H) (.bl _))

/-! == and !=, in and not in, of data -/
theorem hu64 {k : Nat} {A : Around} (hr : Room k A) : A.units + 64 < cLine := by have := hr.un; omega
theorem hu65 {k : Nat} {A : Around} (hr : Room k A) : A.units + 65 < cLine := by have := hr.un; omega
variable {k : Nat}
theorem ev_eq (hr : Room k X.A) (ha : Ev X a ρ x) (hb : Ev X b ρ y) (sx : SeqAt.shaped x = true) (sy : SeqAt.shaped y = true) : Ev X (.Compare a [.Eq] [b] pos) ρ (.bool (PyData.eqv x y)) :=
  ev_cmp (op_eqD (hu64 hr)) ha hb (nomark _) fun u v H Q du dv q => ⟨x, y, du, dv, sx, sy, q _ H (Same.refl H) (.bl _)⟩
theorem et_eq (hr : Room k X.A) (ha : Ev X a ρ x) (hb : Ev X b ρ y) (sx : SeqAt.shaped x = true) (sy : SeqAt.shaped y = true) : EvT X (.Compare a [.Eq] [b] pos) ρ (PyData.eqv x y) :=
  et_cmp (op_eqD (hu64 hr)) ha hb (nomark _) fun u v H Q du dv q => ⟨x, y, du, dv, sx, sy, q _ H (Same.refl H) (.bl _)⟩
theorem ev_ne (hr : Room k X.A) (ha : Ev X a ρ x) (hb : Ev X b ρ y) (sx : SeqAt.shaped x = true) (sy : SeqAt.shaped y = true) : Ev X (.Compare a [.NotEq] [b] pos) ρ (.bool (!PyData.eqv x y)) :=
  ev_cmp (op_neD (hu64 hr)) ha hb (nomark _) fun u v H Q du dv q => ⟨x, y, du, dv, sx, sy, q _ H (Same.refl H) (.bl _)⟩
theorem et_ne (hr : Room k X.A) (ha : Ev X a ρ x) (hb : Ev X b ρ y) (sx : SeqAt.shaped x = true) (sy : SeqAt.shaped y = true) : EvT X (.Compare a [.NotEq] [b] pos) ρ (!PyData.eqv x y) :=
  et_cmp (op_neD (hu64 hr)) ha hb (nomark _) fun u v H Q du dv q => ⟨x, y, du, dv, sx, sy, q _ H (Same.refl H) (.bl _)⟩
end
end Q40
end

section
set_option maxRecDepth 100000
set_option maxHeartbeats 4000000
namespace Q40
open PySem PySem.Spec PyProof.Rows L2

/-! ### rules that the layer lacks -/
section
variable {X : Cx}
theorem op_subB : OpR X (binaryOp .Sub) (fun x y H Q => ∃ i k, x = .bl i ∧ y = .bl k ∧ Q (.int (b2i i - b2i k)) H) := by
  intro pins s σ H x y v u Q I rx ry h
  obtain ⟨i, k, rfl, rfl, q⟩ := h
  cases rx
  cases ry
  exact sub_bool ⟨.int _, H, I.tok _, ⟨_, rfl⟩, q⟩
def rInDT (K : PySem.W.Frag) : R2 := fun x y H Q => ∃ d ds, Dp K H x d ∧ Dp K H y (.tuple ds) ∧ SeqAt.shaped d = true ∧ PyData.canLayAll0 ds = true ∧ Q (.bl (ds.any fun z => PyData.eqv z d)) H
def rNotInDT (K : PySem.W.Frag) : R2 := fun x y H Q => ∃ d ds, Dp K H x d ∧ Dp K H y (.tuple ds) ∧ SeqAt.shaped d = true ∧ PyData.canLayAll0 ds = true ∧ Q (.bl (!ds.any fun z => PyData.eqv z d)) H
theorem op_inDT (hu : X.A.units + 65 < cLine) : OpR X (compareOp .In) (rInDT X.K) := by
  intro pins s σ H x y v u Q I rx ry h
  obtain ⟨d, ds, hd, he, sd, se, q⟩ := h
  obtain ⟨as, r1⟩ := Dp.reads I d x v hd rx
  obtain ⟨bs, r2⟩ := Dp.reads I (.tuple ds) y u he ry
  exact SeqAt.in_tuple_reads r2 r1 se (SeqAt.canLay_of_shaped sd) (room_in_shaped sd hu) ⟨.bl _, H, I, rfl, q⟩
theorem op_notInDT (hu : X.A.units + 65 < cLine) : OpR X (compareOp .NotIn) (rNotInDT X.K) := by
  intro pins s σ H x y v u Q I rx ry h
  obtain ⟨d, ds, hd, he, sd, se, q⟩ := h
  obtain ⟨as, r1⟩ := Dp.reads I d x v hd rx
  obtain ⟨bs, r2⟩ := Dp.reads I (.tuple ds) y u he ry
  exact SeqAt.notIn_tuple_reads r2 r1 se (SeqAt.canLay_of_shaped sd) (room_in_shaped sd hu) ⟨.bl _, H, I, rfl, q⟩
/-- list + list, of any lists that are read -/
def rCatD (K : PySem.W.Frag) : R2 := fun x y H Q => ∃ l b xs zs, x = .ref l ∧ y = .ref b ∧ SqL K H l xs ∧ SqL K H b zs ∧ xs.length + zs.length ≤ sizeLine ∧ ∀ p, H p = none → Q (.ref p) (upd H p (.lst (xs ++ zs)))
theorem op_catD : OpR X (binaryOp .Add) (rCatD X.K) := by
  intro pins s σ H x y v u Q I rx ry h
  obtain ⟨l, b, xs, zs, rfl, rfl, hH, hB, hz, q⟩ := h
  cases rx
  cases ry
  obtain ⟨its, r, pl, z⟩ := I.list hH
  obtain ⟨its2, r2, pl2, z2⟩ := I.list hB
  have l1 := r.length
  have l2 := r2.length
  obtain ⟨⟨cls, dd, data, sl⟩, n, ho, hc, hdd, hd⟩ := pl
  obtain ⟨⟨cls2, dd2, data2, sl2⟩, n2, ho2, hc2, hdd2, hd2⟩ := pl2
  simp only at hc hd hc2 hd2
  subst hc hd hc2 hd2
  have ea : its.toArray ++ its2.toArray = (its ++ its2).toArray := by simp
  refine concat_meets ⟨_, ho, rfl⟩ ⟨_, ho2, rfl⟩ noFill_list_add seq_list_add PySem.F.slot_list_add PySem.F.entry_list_add (PySem.F.args_list_add_2 _ _) (list_addW l b its.toArray its2.toArray n n2 dd dd2 sl sl2 (by rw [List.size_toArray, List.size_toArray]; omega)) ⟨ho, ho2, ?_⟩
  rw [ea]
  exact ⟨.ref _, _, I.lnew (t' := s.toks) (r.append r2) (by rw [List.length_append]; omega), rfl, q _ I.fresh⟩
end

section
variable {X : Cx} {e a b c : Expr} {es : List Expr} {ρ : DEnv} {d x y z : PyData} {pos : Pos} {p q : Bool} {i j : Int} {k : Nat} {ds : List PyData}
theorem ev_subB (ha : Ev X a ρ (.bool p)) (hb : Ev X b ρ (.bool q)) : Ev X (.BinOp a .Sub b pos) ρ (.int (b2i p - b2i q)) :=
  ev_bin op_subB ha hb fun u v H Q du dv k => ⟨p, q, dp_bool du, dp_bool dv, k _ H (Same.refl H) (.int _)⟩
theorem ev_catL {es : List PyData} (ha : Ev X a ρ (.list ds)) (hb : Ev X b ρ (.list es)) (hz : ds.length + es.length ≤ sizeLine) : Ev X (.BinOp a .Add b pos) ρ (.list (ds ++ es)) :=
  ev_bin op_catD ha hb fun u v H Q du dv k => by
    obtain ⟨l, xs, rfl, h1, h2⟩ := dp_list du
    obtain ⟨m, ys, rfl, h3, h4⟩ := dp_list dv
    refine ⟨l, m, xs, ys, rfl, rfl, h1, h3, by rw [dps_len h2, dps_len h4]; exact hz, fun p hp => ?_⟩
    have s := same_upd (o := .lst (xs ++ ys)) hp
    exact k _ _ s (.lst (SqL.of upd_same) (dps_app (dps_same s _ _ h2) (dps_same s _ _ h4)))
theorem ev_catT {es : List PyData} (ha : Ev X a ρ (.tuple ds)) (hb : Ev X b ρ (.tuple es)) (hz : ds.length + es.length ≤ sizeLine) : Ev X (.BinOp a .Add b pos) ρ (.tuple (ds ++ es)) :=
  ev_bin op_catA ha hb fun u v H Q du dv k => by
    obtain ⟨l, xs, rfl, h1, h2⟩ := dp_tup du
    obtain ⟨m, ys, rfl, h3, h4⟩ := dp_tup dv
    refine ⟨l, m, xs, ys, rfl, rfl, h1, h3, by rw [dps_len h2, dps_len h4]; exact hz, fun hx => ?_, fun _ hy => ?_, fun _ _ p hp => ?_⟩
    · subst hx
      cases h2
      exact k _ H (Same.refl H) (.tup h3 h4)
    · subst hy
      cases h4
      rw [List.append_nil] at k
      exact k _ H (Same.refl H) (.tup h1 h2)
    · have s := same_upd (o := .tup (xs ++ ys)) hp
      exact k _ _ s (.tup (SqT.of upd_same) (dps_app (dps_same s _ _ h2) (dps_same s _ _ h4)))
theorem shaped_list (h : PyData.canLayAll0 ds = true) (h2 : PyData.depthAll ds ≤ 60) : SeqAt.shaped (.list ds) = true := by
  have e : PyData.depth (.list ds) ≤ 64 := by
    simp only [PyData.depth]
    omega
  show (PyData.canLay0 (.list ds) && decide (PyData.depth (.list ds) ≤ 64)) = true
  rw [Bool.and_eq_true]
  exact ⟨by simp only [PyData.canLay0]; exact h, decide_eq_true e⟩
theorem canAll_of_shaped (h : SeqAt.shaped (.list ds) = true) : PyData.canLayAll0 ds = true := by
  have := SeqAt.canLay_of_shaped h
  simpa only [PyData.canLay0] using this
theorem ev_inL (hr : Room k X.A) (ha : Ev X a ρ x) (hb : Ev X b ρ (.list ds)) (sx : SeqAt.shaped x = true) (sd : SeqAt.shaped (.list ds) = true) (hm : behindInMarks .In b = false := by rfl) : Ev X (.Compare a [.In] [b] pos) ρ (.bool (ds.any fun z => PyData.eqv z x)) :=
  ev_cmp (op_inD (hu65 hr)) ha hb hm fun u v H Q du dv k => ⟨x, ds, du, dv, sx, sd, k _ H (Same.refl H) (.bl _)⟩
theorem et_inL (hr : Room k X.A) (ha : Ev X a ρ x) (hb : Ev X b ρ (.list ds)) (sx : SeqAt.shaped x = true) (sd : SeqAt.shaped (.list ds) = true) (hm : behindInMarks .In b = false := by rfl) : EvT X (.Compare a [.In] [b] pos) ρ (ds.any fun z => PyData.eqv z x) :=
  et_cmp (op_inD (hu65 hr)) ha hb hm fun u v H Q du dv k => ⟨x, ds, du, dv, sx, sd, k _ H (Same.refl H) (.bl _)⟩
theorem ev_ninL (hr : Room k X.A) (ha : Ev X a ρ x) (hb : Ev X b ρ (.list ds)) (sx : SeqAt.shaped x = true) (sd : SeqAt.shaped (.list ds) = true) (hm : behindInMarks .NotIn b = false := by rfl) : Ev X (.Compare a [.NotIn] [b] pos) ρ (.bool (!ds.any fun z => PyData.eqv z x)) :=
  ev_cmp (op_notInD (hu65 hr)) ha hb hm fun u v H Q du dv k => ⟨x, ds, du, dv, sx, sd, k _ H (Same.refl H) (.bl _)⟩
theorem et_ninL (hr : Room k X.A) (ha : Ev X a ρ x) (hb : Ev X b ρ (.list ds)) (sx : SeqAt.shaped x = true) (sd : SeqAt.shaped (.list ds) = true) (hm : behindInMarks .NotIn b = false := by rfl) : EvT X (.Compare a [.NotIn] [b] pos) ρ (!ds.any fun z => PyData.eqv z x) :=
  et_cmp (op_notInD (hu65 hr)) ha hb hm fun u v H Q du dv k => ⟨x, ds, du, dv, sx, sd, k _ H (Same.refl H) (.bl _)⟩
theorem ev_inT (hr : Room k X.A) (ha : Ev X a ρ x) (hb : Ev X b ρ (.tuple ds)) (sx : SeqAt.shaped x = true) (sd : SeqAt.shaped (.list ds) = true) (hm : behindInMarks .In b = false := by rfl) : Ev X (.Compare a [.In] [b] pos) ρ (.bool (ds.any fun z => PyData.eqv z x)) :=
  ev_cmp (op_inDT (hu65 hr)) ha hb hm fun u v H Q du dv k => ⟨x, ds, du, dv, sx, canAll_of_shaped sd, k _ H (Same.refl H) (.bl _)⟩
theorem et_inT (hr : Room k X.A) (ha : Ev X a ρ x) (hb : Ev X b ρ (.tuple ds)) (sx : SeqAt.shaped x = true) (sd : SeqAt.shaped (.list ds) = true) (hm : behindInMarks .In b = false := by rfl) : EvT X (.Compare a [.In] [b] pos) ρ (ds.any fun z => PyData.eqv z x) :=
  et_cmp (op_inDT (hu65 hr)) ha hb hm fun u v H Q du dv k => ⟨x, ds, du, dv, sx, canAll_of_shaped sd, k _ H (Same.refl H) (.bl _)⟩
theorem et_ninT (hr : Room k X.A) (ha : Ev X a ρ x) (hb : Ev X b ρ (.tuple ds)) (sx : SeqAt.shaped x = true) (sd : SeqAt.shaped (.list ds) = true) (hm : behindInMarks .NotIn b = false := by rfl) : EvT X (.Compare a [.NotIn] [b] pos) ρ (!ds.any fun z => PyData.eqv z x) :=
  et_cmp (op_notInDT (hu65 hr)) ha hb hm fun u v H Q du dv k => ⟨x, ds, du, dv, sx, canAll_of_shaped sd, k _ H (Same.refl H) (.bl _)⟩

/-! and, or, not, if, chains -/
variable {rest : List Expr}
theorem et_w (h : EvW X e ρ p) : EvT X e ρ p := fun σ H E Q q pins s I => h σ H E Q q _ pins s I
theorem ew_and1 (h : EvT X a ρ p) : EvW X (.BoolOp .And [a] pos) ρ p := fun σ H E Q q => WAt.of (pw_and1 tat) (h σ H E Q q)
theorem ew_or1 (h : EvT X a ρ p) : EvW X (.BoolOp .Or [a] pos) ρ p := fun σ H E Q q => WAt.of (pw_or1 tat) (h σ H E Q q)
theorem ew_and (h : EvT X a ρ p) (h2 : p = true → EvW X (.BoolOp .And (b :: rest) pos) ρ q) : EvW X (.BoolOp .And (a :: b :: rest) pos) ρ (p && q) := fun σ H E Q k =>
  WAt.of (pw_and tat wat) (h σ H E _ fun H1 s1 => by
    cases p with
    | true => exact iteT (h2 rfl σ H1 (E.same s1) Q fun H2 s2 => k H2 (s1.trans s2))
    | false => exact iteF (k H1 s1))
theorem ew_or (h : EvT X a ρ p) (h2 : p = false → EvW X (.BoolOp .Or (b :: rest) pos) ρ q) : EvW X (.BoolOp .Or (a :: b :: rest) pos) ρ (p || q) := fun σ H E Q k =>
  WAt.of (pw_or tat wat) (h σ H E _ fun H1 s1 => by
    cases p with
    | true => exact iteT (k H1 s1)
    | false => exact iteF (h2 rfl σ H1 (E.same s1) Q fun H2 s2 => k H2 (s1.trans s2)))
theorem et_not (h : EvT X a ρ p) : EvT X (.UnaryOp .Not a pos) ρ (!p) := fun σ H E Q k => TAt.of (pt_not tat) (h σ H E _ fun H1 s1 => k H1 s1)
theorem et_val (h : Ev X e ρ (.bool p)) (he : ∀ whole, isTrue e X.env whole = (do let v ← whole; standAt e.pos; holding [v] (truthy v)) := by intro _; rfl) : EvT X e ρ p := fun σ H E Q k =>
  TAt.of (pt_val eat he) (h σ H E _ fun v H1 s1 d1 => ⟨p, dp_bool d1, k H1 s1⟩)
theorem ev_one {op : BoolOp} (h : Ev X a ρ d) : Ev X (.BoolOp op [a] pos) ρ d := fun σ H E Q k => EAt.of (pe_one eat) (h σ H E Q k)
theorem ev_and (h : Ev X a ρ (.bool p)) (h2 : p = true → Ev X (.BoolOp .And (b :: rest) pos) ρ (.bool q)) : Ev X (.BoolOp .And (a :: b :: rest) pos) ρ (.bool (p && q)) := fun σ H E Q k =>
  EAt.of (pe_and eat eat) (h σ H E _ fun v H1 s1 d1 => ⟨p, dp_bool d1, by
    cases p with
    | true => exact iteT (h2 rfl σ H1 (E.same s1) Q fun v2 H2 s2 d2 => k v2 H2 (s1.trans s2) d2)
    | false => exact iteF (k _ H1 s1 (.bl false))⟩)
theorem ev_or (h : Ev X a ρ (.bool p)) (h2 : p = false → Ev X (.BoolOp .Or (b :: rest) pos) ρ (.bool q)) : Ev X (.BoolOp .Or (a :: b :: rest) pos) ρ (.bool (p || q)) := fun σ H E Q k =>
  EAt.of (pe_or eat eat) (h σ H E _ fun v H1 s1 d1 => ⟨p, dp_bool d1, by
    cases p with
    | true => exact iteT (k _ H1 s1 (.bl true))
    | false => exact iteF (h2 rfl σ H1 (E.same s1) Q fun v2 H2 s2 d2 => k v2 H2 (s1.trans s2) d2)⟩)
theorem ev_not (h : Ev X a ρ (.bool p)) : Ev X (.UnaryOp .Not a pos) ρ (.bool (!p)) := fun σ H E Q k => EAt.of (pe_not eat) (h σ H E _ fun v H1 s1 d1 => ⟨p, dp_bool d1, k _ H1 s1 (.bl _)⟩)
theorem ev_if (h : EvT X c ρ p) (h1 : p = true → Ev X a ρ d) (h2 : p = false → Ev X b ρ d) : Ev X (.IfExp c a b pos) ρ d := fun σ H E Q k =>
  EAt.of (pe_ifExp tat eat eat) (h σ H E _ fun H1 s1 => by
    cases p with
    | true => exact iteT (h1 rfl σ H1 (E.same s1) Q fun v H2 s2 d2 => k v H2 (s1.trans s2) d2)
    | false => exact iteF (h2 rfl σ H1 (E.same s1) Q fun v H2 s2 d2 => k v H2 (s1.trans s2) d2))
/-- least <= value <= most -/
theorem ev_chain_le {l : Int} (ha : Ev X a ρ (.int i)) (hb : Ev X b ρ (.int j)) (hc : Ev X c ρ (.int l)) (hm : lastMarks [.LtE, .LtE] [b, c] = false := by with_unfolding_all rfl) :
    Ev X (.Compare a [.LtE, .LtE] [b, c] pos) ρ (.bool (decide (i ≤ j ∧ j ≤ l))) := fun σ H E Q k =>
  EAt.of (pe_chain op_le op_le eat eat eat hm) (ha σ H E _ fun u H1 s1 d1 => hb σ H1 (E.same s1) _ fun v H2 s2 d2 => by
    cases dp_int d1
    cases dp_int d2
    refine ⟨i, j, rfl, rfl, _, rfl, ?_⟩
    by_cases h : i ≤ j
    · rw [decide_eq_true h]
      refine iteT (hc σ H2 (E.same (s1.trans s2)) _ fun w H3 s3 d3 => ?_)
      cases dp_int d3
      refine ⟨j, l, rfl, rfl, ?_⟩
      have e : decide (j ≤ l) = decide (i ≤ j ∧ j ≤ l) := by simp [h]
      show Q (V.bl (decide (j ≤ l))) H3
      rw [e]
      exact k _ H3 ((s1.trans s2).trans s3) (.bl _)
    · rw [decide_eq_false h]
      refine iteF ?_
      have e : false = decide (i ≤ j ∧ j ≤ l) := by simp [h]
      rw [e]
      exact k _ H2 (s1.trans s2) (.bl _))
theorem et_chain_le {l : Int} (ha : Ev X a ρ (.int i)) (hb : Ev X b ρ (.int j)) (hc : Ev X c ρ (.int l)) (hm : lastMarks [.LtE, .LtE] [b, c] = false := by with_unfolding_all rfl) :
    EvT X (.Compare a [.LtE, .LtE] [b, c] pos) ρ (decide (i ≤ j ∧ j ≤ l)) := fun σ H E Q k =>
  TAt.of (pt_chain op_le op_le eat eat eat hm) (ha σ H E _ fun u H1 s1 d1 => hb σ H1 (E.same s1) _ fun v H2 s2 d2 => by
    cases dp_int d1
    cases dp_int d2
    refine ⟨i, j, rfl, rfl, _, rfl, ?_⟩
    by_cases h : i ≤ j
    · rw [decide_eq_true h]
      refine iteT (hc σ H2 (E.same (s1.trans s2)) _ fun w H3 s3 d3 => ?_)
      cases dp_int d3
      refine ⟨j, l, rfl, rfl, _, rfl, ?_⟩
      have e : decide (j ≤ l) = decide (i ≤ j ∧ j ≤ l) := by simp [h]
      rw [e]
      exact k H3 ((s1.trans s2).trans s3)
    · rw [decide_eq_false h]
      refine iteF ⟨_, rfl, ?_⟩
      have e : false = decide (i ≤ j ∧ j ≤ l) := by simp [h]
      rw [e]
      exact k H2 (s1.trans s2))
theorem ev_isN {jj : Nat} {ps : Pos} (n : Bool) (ha : Ev X a ρ d) (hn : ∀ H v, Dp X.K H v d → decide (v = .non) = n) : Ev X (.Compare a [.Is] [.Constant .none jj ps] pos) ρ (.bool n) := fun σ H E Q k =>
  EAt.of (pe_cmp (pc_isN eat) rfl) (ha σ H E _ fun v H1 s1 d1 => by rw [hn H1 v d1]; exact k _ H1 s1 (.bl _))
theorem et_isN {jj : Nat} {ps : Pos} (n : Bool) (ha : Ev X a ρ d) (hn : ∀ H v, Dp X.K H v d → decide (v = .non) = n) : EvT X (.Compare a [.Is] [.Constant .none jj ps] pos) ρ n := fun σ H E Q k =>
  TAt.of (pt_cmp (pc_isN eat) rfl) (ha σ H E _ fun v H1 s1 d1 => ⟨_, rfl, by rw [hn H1 v d1]; exact k H1 s1⟩)
theorem et_notN {jj : Nat} {ps : Pos} (n : Bool) (ha : Ev X a ρ d) (hn : ∀ H v, Dp X.K H v d → decide (v = .non) = n) : EvT X (.Compare a [.IsNot] [.Constant .none jj ps] pos) ρ (!n) := fun σ H E Q k =>
  TAt.of (pt_cmp (pc_notN eat) rfl) (ha σ H E _ fun v H1 s1 d1 => ⟨_, rfl, by rw [hn H1 v d1]; exact k H1 s1⟩)

/-! displays, subscripts, slices -/
theorem ea_nil : EvA X [] ρ [] := fun σ H E Q k => AAt.of pa_nil (k [] H (Same.refl H) .nil)
theorem ea_cons (h : Ev X e ρ d) (hs : EvA X es ρ ds) (hst : starEach (e :: es) X.env = (false, eval e X.env) :: starEach es X.env := by rfl) : EvA X (e :: es) ρ (d :: ds) := fun σ H E Q k =>
  AAt.of (pa_cons eat aat hst) (h σ H E _ fun v H1 s1 d1 => hs σ H1 (E.same s1) _ fun vs H2 s2 d2 => k (v :: vs) H2 (s1.trans s2) (.cons (dp_same s2 _ _ d1) d2))
theorem ev_tup {n : Nat} (h : EvA X es ρ ds) (hz : ds.length ≤ 1000 := by exact Nat.le_of_ble_eq_true rfl) : Ev X (.Tuple es n pos) ρ (.tuple ds) := fun σ H E Q k =>
  EAt.of (pe_tup aat) (h σ H E _ fun vs H1 s1 d1 => ⟨by rw [dps_len d1]; exact Nat.le_of_lt (small1000 hz), fun p hp => by
    have s := same_upd (o := .tup vs) hp
    exact k _ _ (s1.trans s) (.tup (SqT.of upd_same) (dps_same s _ _ d1))⟩)
theorem ev_lst (h : EvA X es ρ ds) (hz : ds.length ≤ 1000 := by exact Nat.le_of_ble_eq_true rfl) : Ev X (.List es pos) ρ (.list ds) := fun σ H E Q k =>
  EAt.of (pe_lst aat) (h σ H E _ fun vs H1 s1 d1 => ⟨by rw [dps_len d1]; exact Nat.le_of_lt (small1000 hz), fun p hp => by
    have s := same_upd (o := .lst vs) hp
    exact k _ _ (s1.trans s) (.lst (SqL.of upd_same) (dps_same s _ _ d1))⟩)
theorem atI_dps {K : PySem.W.Frag} {H : Hp} {vs : List V} (h : DpAll K H vs ds) {i : Int} (q : atI ds i = some d) : ∃ v, atI vs i = some v ∧ Dp K H v d := by
  unfold atI at q ⊢
  rw [dps_len h]
  cases z : ixN ds.length i with
  | none => rw [z] at q; cases q
  | some j =>
    rw [z] at q
    exact dps_get (i := j) h q
theorem ev_ixT (ha : Ev X a ρ (.tuple ds)) (hb : Ev X b ρ (.int i)) (q : atI ds i = some d := by rfl) (hs : PlainIx b := by exact fun _ _ => rfl) : Ev X (.Subscript a b pos) ρ d := fun σ H E Q k =>
  EAt.of (pe_ix ix_tup eat eat hs) (bin_at ha hb E fun u v H1 s1 du dv => by
    obtain ⟨l, xs, rfl, h1, h2⟩ := dp_tup du
    cases dp_int dv
    obtain ⟨v, e1, e2⟩ := atI_dps h2 q
    exact ⟨l, xs, i, v, rfl, rfl, h1, e1, k v H1 s1 e2⟩)
theorem ev_ixL (ha : Ev X a ρ (.list ds)) (hb : Ev X b ρ (.int i)) (q : atI ds i = some d := by rfl) (hs : PlainIx b := by exact fun _ _ => rfl) : Ev X (.Subscript a b pos) ρ d := fun σ H E Q k =>
  EAt.of (pe_ix ix_list eat eat hs) (bin_at ha hb E fun u v H1 s1 du dv => by
    obtain ⟨l, xs, rfl, h1, h2⟩ := dp_list du
    cases dp_int dv
    obtain ⟨v, e1, e2⟩ := atI_dps h2 q
    exact ⟨l, xs, i, v, rfl, rfl, h1, e1, k v H1 s1 e2⟩)
/-- xs[:n] -/
theorem cutV_take (xs : List V) (n : Nat) : cutV xs none (some (n : Int)) = xs.take n := by
  unfold cutV
  rw [HT.sIx_none, HT.sIx_nat, List.drop_zero, Nat.sub_zero]
  by_cases h : n ≤ xs.length
  · rw [Nat.min_eq_left h]
  · rw [Nat.min_eq_right (by omega), List.take_of_length_le (Nat.le_refl _), List.take_of_length_le (by omega)]
theorem ev_toL {n : Nat} {p2 : Pos} (ha : Ev X a ρ (.list ds)) (hb : Ev X b ρ (.int (n : Int))) : Ev X (.Subscript a (.Slice none (some b) none p2) pos) ρ (.list (ds.take n)) := fun σ H E Q k =>
  EAt.of (pe_slice sl_list eat po_none (po_some eat)) (ha σ H E _ fun u H1 s1 d1 => hb σ H1 (E.same s1) _ fun v H2 s2 d2 => by
    obtain ⟨l, xs, rfl, h1, h2⟩ := dp_list (dp_same s2 _ _ d1)
    refine ⟨n, dp_int d2, l, xs, rfl, h1, fun p hp => ?_⟩
    have s := same_upd (o := .lst (cutV xs none (some (n : Int)))) hp
    have g : DpAll X.K H2 (cutV xs none (some (n : Int))) (ds.take n) := by rw [cutV_take]; exact dps_take n h2
    exact k _ _ ((s1.trans s2).trans s) (.lst (SqL.of upd_same) (dps_same s _ _ g)))
theorem ev_toT {n : Nat} {p2 : Pos} (ha : Ev X a ρ (.tuple ds)) (hb : Ev X b ρ (.int (n : Int))) : Ev X (.Subscript a (.Slice none (some b) none p2) pos) ρ (.tuple (ds.take n)) := fun σ H E Q k =>
  EAt.of (pe_slice sl_tupA eat po_none (po_some eat)) (ha σ H E _ fun u H1 s1 d1 => hb σ H1 (E.same s1) _ fun v H2 s2 d2 => by
    obtain ⟨l, xs, rfl, h1, h2⟩ := dp_tup (dp_same s2 _ _ d1)
    refine ⟨n, dp_int d2, l, xs, rfl, h1, fun hw => ?_, fun _ p hp => ?_⟩
    · obtain ⟨_, hw⟩ := hw
      rw [HT.sIx_nat] at hw
      have hl := dps_len h2
      have e : ds.take n = ds := List.take_of_length_le (by omega)
      rw [e] at k
      exact k _ H2 (s1.trans s2) (.tup h1 h2)
    · have s := same_upd (o := .tup (cutV xs none (some (n : Int)))) hp
      have g : DpAll X.K H2 (cutV xs none (some (n : Int))) (ds.take n) := by rw [cutV_take]; exact dps_take n h2
      exact k _ _ ((s1.trans s2).trans s) (.tup (SqT.of upd_same) (dps_same s _ _ g)))

/-! calls -/
theorem ev_cb {r : List V → Hp → VK → Prop} {x : Str} {id : String} {ps : Pos} (hc : CallR X (.builtin id) r) (hm : X.mg x = none) (hv : bootBuiltins x = some (.builtin id)) (ha : EvA X (e :: es) ρ ds)
    (hr : ∀ vs H Q, DpAll X.K H vs ds → (∀ v H', Same H H' → Dp X.K H' v d → Q v H') → r vs H Q) (hg : Gl X x := by rfl) (hn : x ≠ "__name__" := by decide) (hdb : (x == ("__debug__" : Str)) = false := by decide)
    (he : starEach (e :: es) X.env = (false, eval e X.env) :: starEach es X.env := by rfl) (hpl : (backTo pos (starEach es X.env)).any (·.1) = false := by rfl) : Ev X (.Call (.Name x ps) (e :: es) [] pos) ρ d := fun σ H E Q k =>
  EAt.of (pe_callB hc hg hm hv aat hn hdb he hpl) (ha σ H E _ fun vs H1 s1 d1 => hr vs H1 Q d1 fun v H2 s2 d2 => k v H2 (s1.trans s2) d2)
theorem ev_ct {r : List V → Hp → VK → Prop} {x : Str} {id : String} {ps : Pos} (hc : CallR X (.type id) r) (hm : X.mg x = none) (hv : bootBuiltins x = some (.type id)) (ha : EvA X (e :: es) ρ ds)
    (hr : ∀ vs H Q, DpAll X.K H vs ds → (∀ v H', Same H H' → Dp X.K H' v d → Q v H') → r vs H Q) (hg : Gl X x := by rfl) (hn : x ≠ "__name__" := by decide) (hdb : (x == ("__debug__" : Str)) = false := by decide)
    (he : starEach (e :: es) X.env = (false, eval e X.env) :: starEach es X.env := by rfl) (hpl : (backTo pos (starEach es X.env)).any (·.1) = false := by rfl) : Ev X (.Call (.Name x ps) (e :: es) [] pos) ρ d := fun σ H E Q k =>
  EAt.of (pe_callTy hc hg hm hv aat hn hdb he hpl) (ha σ H E _ fun vs H1 s1 d1 => hr vs H1 Q d1 fun v H2 s2 d2 => k v H2 (s1.trans s2) d2)
end
end Q40
end

section
set_option maxRecDepth 100000
set_option maxHeartbeats 4000000
namespace Q40
open PySem PySem.Spec PyProof.Rows L2

/-! ### built-ins -/
/-- the module's names hide no built-in -/
structure NoB (mg : Str → Option Value) : Prop where
  len : mg "len" = none
  range : mg "range" = none
  isinstance : mg "isinstance" = none
  int : mg "int" = none
  bool : mg "bool" = none
  tuple : mg "tuple" = none
  list : mg "list" = none
  abs : mg "abs" = none
  min : mg "min" = none
  max : mg "max" = none
  sorted : mg "sorted" = none
  set : mg "set" = none
  str : mg "str" = none
theorem bt_len : bootBuiltins "len" = some (.builtin "len") := by decide +kernel
theorem bt_isinstance : bootBuiltins "isinstance" = some (.builtin "isinstance") := by decide +kernel
theorem bt_abs : bootBuiltins "abs" = some (.builtin "abs") := by decide +kernel
theorem bt_min : bootBuiltins "min" = some (.builtin "min") := by decide +kernel
theorem bt_max : bootBuiltins "max" = some (.builtin "max") := by decide +kernel
theorem bt_sorted : bootBuiltins "sorted" = some (.builtin "sorted") := by decide +kernel
theorem bt_int : bootBuiltins "int" = some (.type "int") := by decide +kernel
theorem bt_bool : bootBuiltins "bool" = some (.type "bool") := by decide +kernel
theorem bt_tuple : bootBuiltins "tuple" = some (.type "tuple") := by decide +kernel
theorem bt_list : bootBuiltins "list" = some (.type "list") := by decide +kernel
theorem bt_set : bootBuiltins "set" = some (.type "set") := by decide +kernel
theorem bt_str : bootBuiltins "str" = some (.type "str") := by decide +kernel

section
variable {X : Cx} {e a b c : Expr} {es : List Expr} {ρ : DEnv} {d x y z : PyData} {pos pf : Pos} {p q : Bool} {i j : Int} {k : Nat} {ds : List PyData}
theorem dps1 {K : PySem.W.Frag} {H : Hp} {vs : List V} (h : DpAll K H vs [d]) : ∃ v, vs = [v] ∧ Dp K H v d := by
  cases h with
  | cons h1 h2 => cases h2; exact ⟨_, rfl, h1⟩
theorem dps2 {K : PySem.W.Frag} {H : Hp} {vs : List V} (h : DpAll K H vs [x, y]) : ∃ v w, vs = [v, w] ∧ Dp K H v x ∧ Dp K H w y := by
  cases h with
  | cons h1 h2 =>
    obtain ⟨w, rfl, h3⟩ := dps1 h2
    exact ⟨_, w, rfl, h1, h3⟩
theorem dps3 {K : PySem.W.Frag} {H : Hp} {vs : List V} (h : DpAll K H vs [x, y, z]) : ∃ u v w, vs = [u, v, w] ∧ Dp K H u x ∧ Dp K H v y ∧ Dp K H w z := by
  cases h with
  | cons h1 h2 =>
    obtain ⟨v, w, rfl, h3, h4⟩ := dps2 h2
    exact ⟨_, v, w, rfl, h1, h3, h4⟩
theorem ev_lenL (B : NoB X.mg) (h : Ev X a ρ (.list ds)) (hst : starEach [a] X.env = [(false, eval a X.env)] := by rfl) (hg : Gl X "len" := by rfl) : Ev X (.Call (.Name "len" pf) [a] [] pos) ρ (.int (ds.length : Int)) :=
  ev_cb call_len_seq B.len bt_len (ea_cons h ea_nil hst) (fun vs H Q d1 k => by
    obtain ⟨v, rfl, h1⟩ := dps1 d1
    obtain ⟨l, xs, rfl, h2, h3⟩ := dp_list h1
    refine ⟨l, xs, rfl, .inl h2, ?_⟩
    rw [dps_len h3]
    exact k _ H (Same.refl H) (.int _)) hg (he := hst)
theorem ev_lenT (B : NoB X.mg) (h : Ev X a ρ (.tuple ds)) (hst : starEach [a] X.env = [(false, eval a X.env)] := by rfl) (hg : Gl X "len" := by rfl) : Ev X (.Call (.Name "len" pf) [a] [] pos) ρ (.int (ds.length : Int)) :=
  ev_cb call_len_seq B.len bt_len (ea_cons h ea_nil hst) (fun vs H Q d1 k => by
    obtain ⟨v, rfl, h1⟩ := dps1 d1
    obtain ⟨l, xs, rfl, h2, h3⟩ := dp_tup h1
    refine ⟨l, xs, rfl, .inr h2, ?_⟩
    rw [dps_len h3]
    exact k _ H (Same.refl H) (.int _)) hg (he := hst)
theorem ev_listL (B : NoB X.mg) (h : Ev X a ρ (.list ds)) (hst : starEach [a] X.env = [(false, eval a X.env)] := by rfl) (hg : Gl X "list" := by rfl) : Ev X (.Call (.Name "list" pf) [a] [] pos) ρ (.list ds) :=
  ev_ct call_list_of B.list bt_list (ea_cons h ea_nil hst) (fun vs H Q d1 k => by
    obtain ⟨v, rfl, h1⟩ := dps1 d1
    obtain ⟨l, xs, rfl, h2, h3⟩ := dp_list h1
    refine ⟨l, xs, rfl, .inl h2, fun p hp => ?_⟩
    have s := same_upd (o := .lst xs) hp
    exact k _ _ s (.lst (SqL.of upd_same) (dps_same s _ _ h3))) hg (he := hst)
theorem ev_listT (B : NoB X.mg) (h : Ev X a ρ (.tuple ds)) (hst : starEach [a] X.env = [(false, eval a X.env)] := by rfl) (hg : Gl X "list" := by rfl) : Ev X (.Call (.Name "list" pf) [a] [] pos) ρ (.list ds) :=
  ev_ct call_list_of B.list bt_list (ea_cons h ea_nil hst) (fun vs H Q d1 k => by
    obtain ⟨v, rfl, h1⟩ := dps1 d1
    obtain ⟨l, xs, rfl, h2, h3⟩ := dp_tup h1
    refine ⟨l, xs, rfl, .inr h2, fun p hp => ?_⟩
    have s := same_upd (o := .lst xs) hp
    exact k _ _ s (.lst (SqL.of upd_same) (dps_same s _ _ h3))) hg (he := hst)
theorem ev_tupleL (B : NoB X.mg) (h : Ev X a ρ (.list ds)) (hst : starEach [a] X.env = [(false, eval a X.env)] := by rfl) (hg : Gl X "tuple" := by rfl) : Ev X (.Call (.Name "tuple" pf) [a] [] pos) ρ (.tuple ds) :=
  ev_ct call_tuple_of B.tuple bt_tuple (ea_cons h ea_nil hst) (fun vs H Q d1 k => by
    obtain ⟨v, rfl, h1⟩ := dps1 d1
    obtain ⟨l, xs, rfl, h2, h3⟩ := dp_list h1
    refine ⟨l, xs, rfl, .inl ⟨h2, fun p hp => ?_⟩⟩
    have s := same_upd (o := .tup xs) hp
    exact k _ _ s (.tup (SqT.of upd_same) (dps_same s _ _ h3))) hg (he := hst)
theorem ev_abs (B : NoB X.mg) (h : Ev X a ρ (.int i)) (hst : starEach [a] X.env = [(false, eval a X.env)] := by rfl) (hg : Gl X "abs" := by rfl) : Ev X (.Call (.Name "abs" pf) [a] [] pos) ρ (.int (i.natAbs : Int)) :=
  ev_cb call_abs B.abs bt_abs (ea_cons h ea_nil hst) (fun vs H Q d1 k => by
    obtain ⟨v, rfl, h1⟩ := dps1 d1
    cases dp_int h1
    refine ⟨i, rfl, ?_⟩
    have e : (if i < 0 then -i else i) = (i.natAbs : Int) := by split <;> omega
    rw [e]
    exact k _ H (Same.refl H) (.int _)) hg (he := hst)
theorem ev_toint (B : NoB X.mg) (h : Ev X a ρ (.int i)) (hst : starEach [a] X.env = [(false, eval a X.env)] := by rfl) (hg : Gl X "int" := by rfl) : Ev X (.Call (.Name "int" pf) [a] [] pos) ρ (.int i) :=
  ev_ct call_int1 B.int bt_int (ea_cons h ea_nil hst) (fun vs H Q d1 k => by
    obtain ⟨v, rfl, h1⟩ := dps1 d1
    cases dp_int h1
    exact .inl ⟨i, rfl, k _ H (Same.refl H) (.int _)⟩) hg (he := hst)
theorem ev_minI {ns : List Int} (B : NoB X.mg) (hc : X.calm = true) (h : Ev X a ρ (.list (ns.map .int))) (h0 : 0 < ns.length) (m : Int) (hm : m ∈ ns) (hl : ∀ y ∈ ns, m ≤ y) (hst : starEach [a] X.env = [(false, eval a X.env)] := by rfl) (hg : Gl X "min" := by rfl) : Ev X (.Call (.Name "min" pf) [a] [] pos) ρ (.int m) :=
  ev_cb (cr_min hc) B.min bt_min (ea_cons h ea_nil hst) (fun vs H Q d1 k => by
    obtain ⟨v, rfl, h1⟩ := dps1 d1
    obtain ⟨l, xs, rfl, h2, h3⟩ := dp_list h1
    rw [dps_ints h3] at h2
    refine ⟨l, ns, rfl, h2, h0, fun m' hm' hl' => ?_⟩
    have e : m' = m := Int.le_antisymm (hl' m hm) (hl m' hm')
    rw [e]
    exact k _ H (Same.refl H) (.int _)) hg (he := hst)
theorem ev_maxI {ns : List Int} (B : NoB X.mg) (hc : X.calm = true) (h : Ev X a ρ (.list (ns.map .int))) (h0 : 0 < ns.length) (m : Int) (hm : m ∈ ns) (hl : ∀ y ∈ ns, y ≤ m) (hst : starEach [a] X.env = [(false, eval a X.env)] := by rfl) (hg : Gl X "max" := by rfl) : Ev X (.Call (.Name "max" pf) [a] [] pos) ρ (.int m) :=
  ev_cb (cr_max hc) B.max bt_max (ea_cons h ea_nil hst) (fun vs H Q d1 k => by
    obtain ⟨v, rfl, h1⟩ := dps1 d1
    obtain ⟨l, xs, rfl, h2, h3⟩ := dp_list h1
    rw [dps_ints h3] at h2
    refine ⟨l, ns, rfl, h2, h0, fun m' hm' hl' => ?_⟩
    have e : m' = m := Int.le_antisymm (hl m' hm') (hl' m hm)
    rw [e]
    exact k _ H (Same.refl H) (.int _)) hg (he := hst)

/-! isinstance -/
def clsOf : PyData → String
  | .none => "NoneType" | .bool _ => "bool" | .int _ => "int" | .str _ => "str" | .list _ => "list" | .tuple _ => "tuple" | .dict _ => "dict"
theorem tyx_of {K : PySem.W.Frag} {H : Hp} {v : V} (h : Dp K H v d) : TyX K H v (.type (clsOf d)) := by
  cases h with
  | non => exact .base .non
  | bl b => exact .base (.bl b)
  | int i => exact .base (.int i)
  | str x => exact .base (.str x)
  | lst hs _ =>
    rcases hs with (h | ⟨o, h⟩) | ⟨o, its, n, hk, hc, _⟩
    · exact .base (.lst h)
    · exact .base (.frz h)
    · exact .kList hk hc
  | tup hs _ =>
    rcases hs with (h | ⟨o, h⟩) | ⟨o, its, n, hk, hc, _⟩
    · exact .base (.tup h)
    · exact .fTuple h
    · exact .kTuple hk hc
theorem ev_ty {T : String} {x : Str} (hm : X.mg x = none) (hv : bootBuiltins x = some (.type T)) (hg : Gl X x := by rfl) (hn : x ≠ "__name__" := by decide) (hd : (x == ("__debug__" : Str)) = false := by decide) :
    ∀ σ H (Q : VK), Q (.ty T) H → EAt X (.Name x pos) σ H Q := fun σ H Q q => EAt.of (pe_bltn (v := .ty T) hg hm hv rfl hn hd) q
theorem ev_isi {T : String} {xT : Str} {pT : Pos} (B : NoB X.mg) (h : Ev X a ρ d) (hmT : X.mg xT = none) (hvT : bootBuiltins xT = some (.type T)) (r : kitB (clsOf d) T = some p) (hgT : Gl X xT := by rfl) (hnT : xT ≠ "__name__" := by decide) (hdT : (xT == ("__debug__" : Str)) = false := by decide)
    (hst : starEach [a, .Name xT pT] X.env = (false, eval a X.env) :: starEach [.Name xT pT] X.env := by rfl) (hst2 : starEach [.Name xT pT] X.env = [(false, eval (.Name xT pT) X.env)] := by rfl) (hg : Gl X "isinstance" := by rfl) (hpl : (backTo pos (starEach [.Name xT pT] X.env)).any (·.1) = false := by rfl) :
    Ev X (.Call (.Name "isinstance" pf) [a, .Name xT pT] [] pos) ρ (.bool p) := fun σ H E Q k =>
  EAt.of (pe_callB call_isi hg B.isinstance bt_isinstance (pa_cons eat (pa_cons (pe_bltn (v := .ty T) hgT hmT hvT rfl hnT hdT) pa_nil hst2) hst) (he := hst) (hpl := hpl)) (h σ H E _ fun v H1 s1 d1 =>
    ⟨v, .ty T, .type (clsOf d), .type T, p, rfl, .ty T, tyx_of d1, kit_ty r, k _ H1 s1 (.bl _)⟩)
end

/-! ### promises of pure defs -/
def spF (K : PySem.W.Frag) (F : List PyData → PyData → Prop) : Sp := fun vs H Q _ => ∃ ds r, DpAll K H vs ds ∧ F ds r ∧ ∀ v H', Same H H' → Dp K H' v r → Q v H'
structure Callee (P : Program) (w : World) (K : PySem.W.Frag) (mg : Str → Option Value) (base : Heap) (x : Str) (k : Nat) (F : List PyData → PyData → Prop) : Prop where
  ex : ∃ (f : Addr) (fd : FuncData) (ps : List Str), FnOk P w K mg base CX0 k f fd ps (spF K F) ∧ Binds K fd ps [] ∧ mg x = some (.ref f) ∧ PySem.W.keepIn K (.ref f) = true
section
variable {X : Cx} {e a b c : Expr} {es : List Expr} {ρ : DEnv} {d r : PyData} {pos pf : Pos} {k j : Nat} {ds : List PyData} {F : List PyData → PyData → Prop} {x : Str}
theorem ev_call (G : Callee X.prog X.w X.K X.mg X.base x k F) (hr : Room j X.A) (hj : k ≤ j) (ha : EvA X (e :: es) ρ ds) (hF : F ds r) (hg : Gl X x := by rfl) (hdb : (x == ("__debug__" : Str)) = false := by decide)
    (he : starEach (e :: es) X.env = (false, eval e X.env) :: starEach es X.env := by rfl) (hpl : (backTo pos (starEach es X.env)).any (·.1) = false := by rfl) : Ev X (.Call (.Name x pf) (e :: es) [] pos) ρ r := fun σ H E Q q => by
  obtain ⟨f, fd, ps, G1, G2, G3, G4⟩ := G.ex
  refine EAt.of (pe_call G1 (hr.mono hj) hg G3 G4 G2 .nil pass0 aat hdb he hpl) (ha σ H E _ fun vs H1 s1 d1 => ?_)
  rw [List.append_nil]
  exact ⟨ds, r, d1, hF, fun v H2 s2 d2 => q v H2 (s1.trans s2) d2⟩
end

/-! ### statements -/
structure DEnds where
  nx : DEnv → Prop
  rt : PyData → Prop
  bk : DEnv → Prop := fun _ => False
  ct : DEnv → Prop := fun _ => False
def endsD (K : PySem.W.Frag) (H : Hp) (D : DEnds) : Ends where
  nx := fun σ' H' => Same H H' ∧ ∃ ρ', EnvD K H' σ' ρ' ∧ D.nx ρ'
  rt := fun v H' => Same H H' ∧ ∃ d, Dp K H' v d ∧ D.rt d
  bk := fun σ' H' => Same H H' ∧ ∃ ρ', EnvD K H' σ' ρ' ∧ D.bk ρ'
  ct := fun σ' H' => Same H H' ∧ ∃ ρ', EnvD K H' σ' ρ' ∧ D.ct ρ'
def St1 (X : Cx) (st : Stmt) (ρ : DEnv) (D : DEnds) : Prop := ∀ σ H, EnvD X.K H σ ρ → SAt X st (endsD X.K H D) σ H
def Bk (X : Cx) (sts : List Stmt) (ρ : DEnv) (D : DEnds) : Prop := ∀ σ H, EnvD X.K H σ ρ → BAt X sts (endsD X.K H D) σ H
theorem SP.imp {X : Cx} {pins : List (Addr × Obj)} {D D' : Ends} (h1 : ∀ σ H, D.nx σ H → D'.nx σ H) (h2 : ∀ v H, D.rt v H → D'.rt v H) (h3 : ∀ σ H, D.bk σ H → D'.bk σ H) (h4 : ∀ σ H, D.ct σ H → D'.ct σ H) {f : PySem.Flow} {s : Shared} (h : SP X pins D f s) : SP X pins D' f s := by
  cases f with
  | next => obtain ⟨σ, H, I, q⟩ := h; exact ⟨σ, H, I, h1 _ _ q⟩
  | brk => obtain ⟨σ, H, I, q⟩ := h; exact ⟨σ, H, I, h3 _ _ q⟩
  | cont => obtain ⟨σ, H, I, q⟩ := h; exact ⟨σ, H, I, h4 _ _ q⟩
  | ret u => obtain ⟨v, σ, H, I, r, q⟩ := h; exact ⟨v, σ, H, I, r, h2 _ _ q⟩
theorem BAt.imp {X : Cx} {sts : List Stmt} {D D' : Ends} {σ : L2.St} {H : Hp} (h : BAt X sts D σ H) (h1 : ∀ σ H, D.nx σ H → D'.nx σ H) (h2 : ∀ v H, D.rt v H → D'.rt v H) (h3 : ∀ σ H, D.bk σ H → D'.bk σ H) (h4 : ∀ σ H, D.ct σ H → D'.ct σ H) : BAt X sts D' σ H :=
  fun pins s I => thn (h pins s I) fun f s' q => SP.imp h1 h2 h3 h4 q
/-- from a later heap -/
theorem Bk.at {X : Cx} {sts : List Stmt} {ρ : DEnv} {D : DEnds} (h : Bk X sts ρ D) {σ : L2.St} {H H0 : Hp} (E : EnvD X.K H σ ρ) (s : Same H0 H) : BAt X sts (endsD X.K H0 D) σ H :=
  (h σ H E).imp (fun _ _ q => ⟨s.trans q.1, q.2⟩) (fun _ _ q => ⟨s.trans q.1, q.2⟩) (fun _ _ q => ⟨s.trans q.1, q.2⟩) fun _ _ q => ⟨s.trans q.1, q.2⟩
section
variable {X : Cx} {st : Stmt} {sts body : List Stmt} {ρ : DEnv} {D : DEnds} {e a b c : Expr} {d x y z : PyData} {pos ps pt p2 : Pos}
theorem bk_nil (h : D.nx ρ) : Bk X [] ρ D := fun σ H E => BAt.of pss_nil (show (endsD X.K H D).nx σ H from ⟨Same.refl H, ρ, E, h⟩)
theorem bk_cons (h : St1 X st ρ { D with nx := fun ρ' => Bk X sts ρ' D }) : Bk X (st :: sts) ρ D := fun σ H E => by
  refine BAt.of (pss_cons sat bat) (fun pins s I => thn (h σ H E pins s I) fun f s' q => ?_)
  refine SP.imp (D := endsD X.K H { D with nx := fun ρ' => Bk X sts ρ' D }) (D' := { endsD X.K H D with nx := BAt X sts (endsD X.K H D) }) (fun σ' H' q => ?_) (fun _ _ q => q) (fun _ _ q => q) (fun _ _ q => q) q
  obtain ⟨s1, ρ', E', h'⟩ := q
  exact h'.at E' s1
theorem st_pass (h : D.nx ρ) : St1 X (.Pass pos) ρ D := fun σ H E => SAt.of ps_pass (show (endsD X.K H D).nx σ H from ⟨Same.refl H, ρ, E, h⟩)
theorem st_ret (h : Ev X e ρ d) (hr : D.rt d) : St1 X (.Return (some e) pos) ρ D := fun σ H E => SAt.of (ps_ret eat) (h σ H E _ fun v H' s q => ⟨s, d, q, hr⟩)
theorem st_set {i : Nat} {n : Str} (h : Ev X e ρ d) (k : D.nx (ρ.set i (some d))) (hN : X.N.Nodup) (hi : X.N[i]? = some n := by rfl) (hx : Loc X.env.scope n := by first | exact .inl rfl | exact .inr rfl)
    (hs : swapsWith e (some (.Name n pt)) pos.line X.env = pure false := by rfl) (hf : X.fn n = true ∨ X.env.scope.names.lookup n = some .local := by first | exact .inl rfl | exact .inr rfl) : St1 X (.Assign [.Name n pt] e pos) ρ D := fun σ H E =>
  SAt.of (ps_set (i := i) hN hi hx eat hs hf) (h σ H E _ fun v H' s q => ⟨s, _, (E.same s).set q, k⟩)
theorem st_par {i j : Nat} {n m : Str} {kt k2 : Nat} {pa pb pc : Pos} (h1 : Ev X a ρ x) (h2 : Ev X b ρ y) (k : D.nx ((ρ.set i (some x)).set j (some y))) (hN : X.N.Nodup) (hc : X.calm = true := by rfl) (hi : X.N[i]? = some n := by rfl) (hj : X.N[j]? = some m := by rfl) (hij : i ≠ j := by decide)
    (hx : X.env.scope.names.lookup n = some .local := by rfl) (hy : X.env.scope.names.lookup m = some .local := by rfl) (hsa : starEach [a, b] X.env = (false, eval a X.env) :: starEach [b] X.env := by rfl) (hsb : starEach [b] X.env = [(false, eval b X.env)] := by rfl)
    (hw : swappedStores [.Tuple [.Name n pa, .Name m pb] kt pc] (.Tuple [a, b] k2 p2) X.env = pure (some [n, m]) := by rfl) (hs : swapsWithSole [.Tuple [.Name n pa, .Name m pb] kt pc] (.Tuple [a, b] k2 p2) pos.line X.env = pure false := by rfl) :
    St1 X (.Assign [.Tuple [.Name n pa, .Name m pb] kt pc] (.Tuple [a, b] k2 p2) pos) ρ D := fun σ H E =>
  SAt.of (ps_par (i := i) (j := j) hc hN hi hj hij hx hy aat hw hs) ((ea_cons h1 (ea_cons h2 ea_nil hsb) hsa) σ H E _ fun vs H' s q => by
    obtain ⟨v, w, rfl, q1, q2⟩ := dps2 q
    exact ⟨v, w, rfl, s, _, ((E.same s).set q1).set q2, k⟩)
theorem st_if {p : Bool} {A B : List Stmt} (h : EvT X c ρ p) (h1 : p = true → Bk X A ρ D) (h2 : p = false → Bk X B ρ D) : St1 X (.If c A B pos) ρ D := fun σ H E =>
  SAt.of (ps_if tat bat bat) (h σ H E _ fun H1 s1 => by
    cases p with
    | true => exact iteT ((h1 rfl).at (E.same s1) s1)
    | false => exact iteF ((h2 rfl).at (E.same s1) s1))
/-- for name in a list | a tuple | a range -/
theorem st_forL {j : Nat} {n : Str} {ds : List PyData} {it : Expr} (hi : Ev X it ρ (.list ds)) (I : Nat → DEnv → Prop) (h0 : I 0 ρ)
    (hs : ∀ i d ρ', ds[i]? = some d → I i ρ' → Bk X body (ρ'.set j (some d)) { D with nx := I (i + 1), ct := I (i + 1), bk := D.nx }) (hd : ∀ ρ', I ds.length ρ' → D.nx ρ')
    (hp : PassesOwn (model X.prog X.w) X.A X.env X.xe) (hN : X.N.Nodup) (hc : X.calm = true := by rfl) (hj : X.N[j]? = some n := by rfl) (hx : Loc X.env.scope n := by first | exact .inl rfl | exact .inr rfl)
    (hf : X.fn n = true ∨ X.env.scope.names.lookup n = some .local := by first | exact .inl rfl | exact .inr rfl) (hfo : ∀ x, foldedSetIterable it X.env x = pure x := by intro _; rfl) : St1 X (.For (.Name n pt) it body [] pos) ρ D := fun σ H E =>
  SAt.of (ps_for hp hc (pi_list eat) (pg_name (i := j) hN hj hx hf) bat hfo) (hi σ H E _ fun v H1 s1 d1 => by
    obtain ⟨l, xs, rfl, h1, h2⟩ := dp_list d1
    refine ⟨l, rfl, ⟨xs, h1⟩, for_list (K := X.K) (a := l) (xs := xs) (fun i σ' H' => Same H1 H' ∧ ∃ ρ', EnvD X.K H' σ' ρ' ∧ I i ρ') ⟨Same.refl _, ρ, E.same s1, h0⟩ (fun i σ' H' _ q => q.1.seq h1) (fun i u σ' H' hu q => ?_) (fun σ' H' q => ?_)⟩
    · obtain ⟨s2, ρ', E', hI⟩ := q
      obtain ⟨d, e1, e2⟩ := dps_get' h2 hu
      refine ((hs i d ρ' e1 hI).at (E'.set (dp_same s2 _ _ e2)) (Same.refl _)).imp (fun _ _ q => ⟨s2.trans q.1, q.2⟩) (fun _ _ q => ⟨(s1.trans s2).trans q.1, q.2⟩) (fun _ _ q => ⟨(s1.trans s2).trans q.1, q.2⟩) fun _ _ q => ⟨s2.trans q.1, q.2⟩
    · obtain ⟨s2, ρ', E', hI⟩ := q
      rw [dps_len h2] at hI
      exact ⟨s1.trans s2, ρ', E', hd ρ' hI⟩)
theorem st_forT {j : Nat} {n : Str} {ds : List PyData} {it : Expr} (hi : Ev X it ρ (.tuple ds)) (I : Nat → DEnv → Prop) (h0 : I 0 ρ)
    (hs : ∀ i d ρ', ds[i]? = some d → I i ρ' → Bk X body (ρ'.set j (some d)) { D with nx := I (i + 1), ct := I (i + 1), bk := D.nx }) (hd : ∀ ρ', I ds.length ρ' → D.nx ρ')
    (hp : PassesOwn (model X.prog X.w) X.A X.env X.xe) (hN : X.N.Nodup) (hc : X.calm = true := by rfl) (hj : X.N[j]? = some n := by rfl) (hx : Loc X.env.scope n := by first | exact .inl rfl | exact .inr rfl)
    (hf : X.fn n = true ∨ X.env.scope.names.lookup n = some .local := by first | exact .inl rfl | exact .inr rfl) (hfo : ∀ x, foldedSetIterable it X.env x = pure x := by intro _; rfl) : St1 X (.For (.Name n pt) it body [] pos) ρ D := fun σ H E =>
  SAt.of (ps_for hp hc (pi_tup eat) (pg_name (i := j) hN hj hx hf) bat hfo) (hi σ H E _ fun v H1 s1 d1 => by
    obtain ⟨l, xs, rfl, h1, h2⟩ := dp_tup d1
    refine ⟨l, rfl, ⟨xs, h1⟩, for_tup (K := X.K) (a := l) (xs := xs) (fun i σ' H' => Same H1 H' ∧ ∃ ρ', EnvD X.K H' σ' ρ' ∧ I i ρ') ⟨Same.refl _, ρ, E.same s1, h0⟩ (fun i σ' H' _ q => sqT_same q.1 h1) (fun i u σ' H' hu q => ?_) (fun σ' H' q => ?_)⟩
    · obtain ⟨s2, ρ', E', hI⟩ := q
      obtain ⟨d, e1, e2⟩ := dps_get' h2 hu
      refine ((hs i d ρ' e1 hI).at (E'.set (dp_same s2 _ _ e2)) (Same.refl _)).imp (fun _ _ q => ⟨s2.trans q.1, q.2⟩) (fun _ _ q => ⟨(s1.trans s2).trans q.1, q.2⟩) (fun _ _ q => ⟨(s1.trans s2).trans q.1, q.2⟩) fun _ _ q => ⟨s2.trans q.1, q.2⟩
    · obtain ⟨s2, ρ', E', hI⟩ := q
      rw [dps_len h2] at hI
      exact ⟨s1.trans s2, ρ', E', hd ρ' hI⟩)
theorem st_forR {j : Nat} {n : Str} {a : Expr} {m : Nat} {pr : Pos} (B : NoB X.mg) (hi : Ev X a ρ (.int (m : Int))) (hm : m ≤ 100000) (I : Nat → DEnv → Prop) (h0 : I 0 ρ)
    (hs : ∀ (i : Nat) ρ', i < m → I i ρ' → Bk X body (ρ'.set j (some (.int (i : Int)))) { D with nx := I (i + 1), ct := I (i + 1), bk := D.nx }) (hd : ∀ ρ', I m ρ' → D.nx ρ')
    (hp : PassesOwn (model X.prog X.w) X.A X.env X.xe) (hN : X.N.Nodup) (hc : X.calm = true := by rfl) (hj : X.N[j]? = some n := by rfl) (hx : Loc X.env.scope n := by first | exact .inl rfl | exact .inr rfl)
    (hf : X.fn n = true ∨ X.env.scope.names.lookup n = some .local := by first | exact .inl rfl | exact .inr rfl) (hg : Gl X "range" := by rfl) (hst : starEach [a] X.env = [(false, eval a X.env)] := by rfl)
    (hfo : ∀ x, foldedSetIterable (.Call (.Name "range" pr) [a] [] p2) X.env x = pure x := by intro _; rfl) : St1 X (.For (.Name n pt) (.Call (.Name "range" pr) [a] [] p2) body [] pos) ρ D := fun σ H E =>
  SAt.of (ps_for hp hc (pi_range1 hg B.range aat hst) (pg_name (i := j) hN hj hx hf) bat hfo) ((ea_cons hi ea_nil hst) σ H E _ fun vs H1 s1 d1 => by
    obtain ⟨v, rfl, d2⟩ := dps1 d1
    cases dp_int d2
    refine ⟨(m : Int), rfl, by omega, by omega, for_range (lo := 0) (n := ((m : Int)).toNat) (fun i σ' H' => Same H1 H' ∧ ∃ ρ', EnvD X.K H' σ' ρ' ∧ I i ρ') ⟨Same.refl _, ρ, E.same s1, h0⟩ (fun i σ' H' hu q => ?_) (fun σ' H' q => ?_)⟩
    · obtain ⟨s2, ρ', E', hI⟩ := q
      rw [Int.zero_add]
      refine ((hs i ρ' (by omega) hI).at (E'.set (.int _)) (Same.refl _)).imp (fun _ _ q => ⟨s2.trans q.1, q.2⟩) (fun _ _ q => ⟨(s1.trans s2).trans q.1, q.2⟩) (fun _ _ q => ⟨(s1.trans s2).trans q.1, q.2⟩) fun _ _ q => ⟨s2.trans q.1, q.2⟩
    · obtain ⟨s2, ρ', E', hI⟩ := q
      rw [show ((m : Int)).toNat = m by omega] at hI
      exact ⟨s1.trans s2, ρ', E', hd ρ' hI⟩)
/-- while, by an invariant with its measure -/
theorem st_while (I : Nat → DEnv → Prop) {m0 : Nat} (h0 : I m0 ρ) (hs : ∀ m ρ', I m ρ' → ∃ p, EvT X c ρ' p ∧ (p = true → Bk X body ρ' { D with nx := fun ρ2 => ∃ m', m' < m ∧ I m' ρ2, ct := fun ρ2 => ∃ m', m' < m ∧ I m' ρ2, bk := D.nx }) ∧ (p = false → D.nx ρ'))
    (hp : PassesOwn (model X.prog X.w) X.A X.env X.xe) : St1 X (.While c body [] pos) ρ D := fun σ H E =>
  SAt.of (ps_while hp tat bat) ⟨fun m σ' H' => Same H H' ∧ ∃ ρ', EnvD X.K H' σ' ρ' ∧ I m ρ', ⟨m0, Same.refl _, ρ, E, h0⟩, fun m σ' H' q => by
    obtain ⟨s1, ρ', E', hI⟩ := q
    obtain ⟨p, hc, h1, h2⟩ := hs m ρ' hI
    refine hc σ' H' E' _ fun H2 s2 => ?_
    cases p with
    | true =>
      refine iteT ⟨fun σ2 H3 => Same H H3 ∧ ∃ ρ2, EnvD X.K H3 σ2 ρ2 ∧ ∃ m', m' < m ∧ I m' ρ2, fun σ2 H3 q => ?_, ?_⟩
      · obtain ⟨s3, ρ2, E2, m', hm, hI'⟩ := q
        exact ⟨m', hm, s3, ρ2, E2, hI'⟩
      · refine ((h1 rfl).at (E'.same s2) (Same.refl _)).imp (fun _ _ q => ⟨(s1.trans s2).trans q.1, q.2⟩) (fun _ _ q => ⟨(s1.trans s2).trans q.1, q.2⟩) (fun _ _ q => ⟨(s1.trans s2).trans q.1, q.2⟩) fun _ _ q => ⟨(s1.trans s2).trans q.1, q.2⟩
    | false => exact iteF ⟨s1.trans s2, ρ', E'.same s2, h2 rfl⟩⟩
end

/-! ### a def by its body -/
abbrev bodyCx (P : Program) (w : World) (K : PySem.W.Frag) (mg : Str → Option Value) (base : Heap) (N : List Str) (qual : Str) (st : Stmt) (f : Addr) (cdv : Value) (A : Around) (outer : List Env) (s : Shared) (H : Hp) (E : XK) : Cx :=
  (cxOf CX0 P w K mg base N qual (defScope st) f cdv A outer s H E).nox
theorem pure_ok {P : Program} {w : World} {K : PySem.W.Frag} {mg : Str → Option Value} {base : Heap} {x qual : Str} {st : Stmt} {f : Addr} {fd : FuncData} {N ps : List Str} {k : Nat} {F : List PyData → PyData → Prop} (Fn : Fun K x qual st f fd) (S : FnScope N ps (defScope st))
    (hlen : ∀ ds r, F ds r → ds.length = ps.length)
    (h : ∀ (cdv : Value) (A : Around) (outer : List Env) (s : Shared) (H : Hp) (E : XK), Room k (A.deeper (envOfC qual (defScope st) s.heap.objs.size f cdv)) → ∀ ds r, F ds r →
      Bk (bodyCx P w K mg base N qual st f cdv A outer s H E) (defBody st) (ds.map some ++ List.replicate (N.length - ds.length) none) { nx := fun _ => r = .none, rt := fun d => d = r }) :
    FnOk P w K mg base CX0 (k + 1) f fd ps (spF K F) := by
  refine Fn.ok S (fun vs H Q E h => ?_) (fun cdv A outer s H vs Q E hr hsp => ?_)
  · obtain ⟨ds, r, h1, h2, _⟩ := h
    rw [dps_len h1, hlen ds r h2]
  · obtain ⟨ds, r, h1, h2, q⟩ := hsp
    refine ⟨_, bat, (h cdv A outer s H E hr ds r h2 (L2.start N vs) H (envD_start h1)).imp (fun σ' H' z => ?_) (fun v H' z => ?_) (fun _ _ z => ?_) fun _ _ z => ?_⟩
    · obtain ⟨s1, ρ', _, e⟩ := z
      exact q .non H' s1 (by rw [e]; exact .non)
    · obtain ⟨s1, d, d1, e⟩ := z
      have e' : d = r := e
      subst e'
      exact q v H' s1 d1
    · obtain ⟨_, _, _, z⟩ := z
      exact z
    · obtain ⟨_, _, _, z⟩ := z
      exact z
theorem callee_of {P : Program} {w : World} {K : PySem.W.Frag} {mg : Str → Option Value} {base : Heap} {x : Str} {f : Addr} {fd : FuncData} {ps : List Str} {k : Nat} {F : List PyData → PyData → Prop} (h : FnOk P w K mg base CX0 k f fd ps (spF K F)) (hb : Binds K fd ps []) (hm : mg x = some (.ref f))
    (hk : PySem.W.keepIn K (.ref f) = true) : Callee P w K mg base x k F := ⟨f, fd, ps, h, hb, hm, hk⟩
end Q40
end

section
set_option maxRecDepth 100000
set_option maxHeartbeats 4000000
namespace Q40
open PySem PySem.Spec PyProof.Rows L2

/-! ### a heap without one object -/
def del (H : Hp) (D : Addr) : Hp := fun b => if b = D then none else H b
theorem del_ne {H : Hp} {D b : Addr} (h : b ≠ D) : del H D b = H b := if_neg h
theorem del_self {H : Hp} {D : Addr} : del H D D = none := if_pos rfl
theorem same_del {H : Hp} {D : Addr} : Same (del H D) H := fun b o e => by
  by_cases h : b = D
  · subst h; rw [del_self] at e; cases e
  · rw [del_ne h] at e; exact e
theorem same_del2 {H H' : Hp} {D : Addr} (s : Same H H') : Same (del H D) (del H' D) := fun b o e => by
  by_cases h : b = D
  · subst h; rw [del_self] at e; cases e
  · rw [del_ne h] at e ⊢; exact s _ _ e
theorem same_del_upd {H : Hp} {D : Addr} {u : HO} : Same (del H D) (del (upd H D u) D) := fun b o e => by
  by_cases h : b = D
  · subst h; rw [del_self] at e; cases e
  · rw [del_ne h] at e ⊢; rw [upd_ne h]; exact e
theorem same_mut {H H' : Hp} {D : Addr} {u : HO} (s : Same H H') (h : H D = none) : Same H (upd H' D u) := fun b o e => by
  rw [upd_ne (ne_of_none e h)]
  exact s _ _ e
theorem same_to_del {H H' : Hp} {D : Addr} (s : Same H H') (h : H D = none) : Same H (del H' D) := fun b o e => by
  rw [del_ne (ne_of_none e h)]
  exact s _ _ e
mutual
def lfree : PyData → Bool
  | .none => true
  | .bool _ => true
  | .int _ => true
  | .str _ => true
  | .list _ => false
  | .tuple xs => lfreeAll xs
  | .dict _ => false
def lfreeAll : List PyData → Bool
  | [] => true
  | x :: xs => lfree x && lfreeAll xs
end
/-- what does not hold a tuple may go -/
def NoTup (o : Option HO) : Prop := (∀ xs, o ≠ some (.tup xs)) ∧ ∀ u xs, o ≠ some (.frz u (.tup xs))
theorem noTup_lst {xs : List V} : NoTup (some (.lst xs)) := ⟨fun _ h => (by cases h), fun _ _ h => (by cases h)⟩
theorem noTup_ext {φ : Heap → Prop} : NoTup (some (.ext φ)) := ⟨fun _ h => (by cases h), fun _ _ h => (by cases h)⟩
mutual
theorem dp_lfree {K : PySem.W.Frag} {H H' : Hp} (s : ∀ a xs, SqT K H a xs → SqT K H' a xs) : ∀ (d : PyData) (v : V), lfree d = true → Dp K H v d → Dp K H' v d
  | .none, _, _, h => by cases h; exact .non
  | .bool _, _, _, h => by cases h; exact .bl _
  | .int _, _, _, h => by cases h; exact .int _
  | .str _, _, _, h => by cases h; exact .str _
  | .list ds, _, l, h => by simp [lfree] at l
  | .tuple ds, _, l, h => by
    cases h with
    | tup hs ha => exact .tup (s _ _ hs) (dps_lfree s ds _ (by simpa only [lfree] using l) ha)
  | .dict _, _, _, h => by cases h
theorem dps_lfree {K : PySem.W.Frag} {H H' : Hp} (s : ∀ a xs, SqT K H a xs → SqT K H' a xs) : ∀ (ds : List PyData) (vs : List V), lfreeAll ds = true → DpAll K H vs ds → DpAll K H' vs ds
  | [], _, _, h => by cases h; exact .nil
  | d :: ds, _, l, h => by
    rw [lfreeAll, Bool.and_eq_true] at l
    cases h with
    | cons h1 h2 => exact .cons (dp_lfree s d _ l.1 h1) (dps_lfree s ds _ l.2 h2)
end
theorem sqT_but {K : PySem.W.Frag} {H H' : Hp} {D : Addr} (hn : NoTup (H D)) (k : ∀ b, b ≠ D → H' b = H b) : ∀ a xs, SqT K H a xs → SqT K H' a xs := fun a xs h => by
  rcases h with (h | ⟨o, h⟩) | h
  · exact .inl (.inl (by rw [k a (fun e => hn.1 xs (e ▸ h))]; exact h))
  · exact .inl (.inr ⟨o, by rw [k a (fun e => hn.2 o xs (e ▸ h))]; exact h⟩)
  · exact .inr h
theorem dp_del {K : PySem.W.Frag} {H : Hp} {D : Addr} {d : PyData} {v : V} (hn : NoTup (H D)) (l : lfree d = true) (h : Dp K H v d) : Dp K (del H D) v d := dp_lfree (sqT_but hn fun _ hb => del_ne hb) d v l h
theorem dps_del {K : PySem.W.Frag} {H : Hp} {D : Addr} {d : List PyData} {v : List V} (hn : NoTup (H D)) (l : lfreeAll d = true) (h : DpAll K H v d) : DpAll K (del H D) v d := dps_lfree (sqT_but hn fun _ hb => del_ne hb) d v l h
theorem dp_mut {K : PySem.W.Frag} {H : Hp} {D : Addr} {d : PyData} {v : V} {u : HO} (hn : NoTup (H D)) (l : lfree d = true) (h : Dp K H v d) : Dp K (upd H D u) v d := dp_lfree (sqT_but hn fun _ hb => upd_ne hb) d v l h
theorem dps_mut {K : PySem.W.Frag} {H : Hp} {D : Addr} {d : List PyData} {v : List V} {u : HO} (hn : NoTup (H D)) (l : lfreeAll d = true) (h : DpAll K H v d) : DpAll K (upd H D u) v d := dps_lfree (sqT_but hn fun _ hb => upd_ne hb) d v l h
theorem lfree_of : ∀ {ds : List PyData}, (∀ d ∈ ds, lfree d = true) → lfreeAll ds = true
  | [], _ => rfl
  | d :: ds, h => by
    rw [lfreeAll, h d List.mem_cons_self, lfree_of fun e he => h e (List.mem_cons_of_mem _ he)]
    rfl
theorem lfree_all : ∀ {ds : List PyData}, lfreeAll ds = true → ∀ d ∈ ds, lfree d = true
  | [], _, _, h => by cases h
  | d :: ds, l, e, h => by
    rw [lfreeAll, Bool.and_eq_true] at l
    rcases List.mem_cons.mp h with rfl | h
    · exact l.1
    · exact lfree_all l.2 e h

/-! ### wiping -/
theorem wipe_get (σ : L2.St) (i : Nat) : ∀ vs : List Nat, (wipe σ vs)[i]? = if i ∈ vs ∧ i < σ.length then some none else σ[i]?
  | [] => by simp [wipe]
  | v :: vs => by
    unfold wipe
    by_cases h : v = i
    · subst h
      by_cases hl : v < σ.length
      · rw [List.getElem?_set_self (by rw [wipe_length]; exact hl), if_pos ⟨List.mem_cons_self, hl⟩]
      · rw [List.getElem?_eq_none (by rw [List.length_set, wipe_length]; omega), if_neg (fun q => hl q.2), List.getElem?_eq_none (by omega)]
    · rw [List.getElem?_set_ne h, wipe_get σ i vs]
      have e : (i ∈ v :: vs ∧ i < σ.length) ↔ (i ∈ vs ∧ i < σ.length) := by
        constructor
        · rintro ⟨a, b⟩
          rcases List.mem_cons.mp a with a | a
          · exact absurd a.symm h
          · exact ⟨a, b⟩
        · rintro ⟨a, b⟩
          exact ⟨List.mem_cons_of_mem _ a, b⟩
      by_cases hc : i ∈ vs ∧ i < σ.length
      · rw [if_pos hc, if_pos (e.mpr hc)]
      · rw [if_neg hc, if_neg (fun q => hc (e.mp q))]
theorem wipe_set (σ : L2.St) {j : Nat} {x : Option V} {vs : List Nat} (h : j ∈ vs) : wipe (σ.set j x) vs = wipe σ vs := by
  apply List.ext_getElem?
  intro i
  rw [wipe_get, wipe_get, List.length_set]
  by_cases hi : i = j
  · subst hi
    by_cases hl : i < σ.length
    · rw [if_pos ⟨h, hl⟩, if_pos ⟨h, hl⟩]
    · rw [if_neg (fun q => hl q.2), if_neg (fun q => hl q.2), List.getElem?_eq_none (by rw [List.length_set]; omega), List.getElem?_eq_none (by omega)]
  · rw [List.getElem?_set_ne (Ne.symm hi)]
theorem wipe_wipe (σ : L2.St) (vs : List Nat) : wipe (wipe σ vs) vs = wipe σ vs := by
  apply List.ext_getElem?
  intro i
  rw [wipe_get, wipe_get, wipe_length]
  by_cases h : i ∈ vs ∧ i < σ.length
  · rw [if_pos h, if_pos h]
  · rw [if_neg h, if_neg h]

/-! ### comprehensions -/
def EBlk (X : Cx) (scope : Scope) (e : Expr) : TE := fun σ H Q => ∀ (s : Shared) (H0 : Hp) (C : Addr) (cl : List (Str × Addr)) (fp : List Addr), EAt (X.blk s H0 scope (compEnvC scope cl C X.env) fp) e σ H Q
def TsAt (X : Cx) (ifs : List Expr) : TT := fun σ H Q => ∀ (pins : List (Addr × Obj)) (s : Shared), Inv X pins σ H s →
  wpAny (model X.prog X.w) X.A (forIn ifs true fun c r => if r = true then do let ok ← isTrue c X.env (eval c X.env); pure (ForInStep.yield ok) else pure (ForInStep.yield r)) (TP X pins σ Q) X.xe s
def TBlk (X : Cx) (scope : Scope) (ifs : List Expr) : TT := fun σ H Q => ∀ (s : Shared) (H0 : Hp) (C : Addr) (cl : List (Str × Addr)) (fp : List Addr), TsAt (X.blk s H0 scope (compEnvC scope cl C X.env) fp) ifs σ H Q
def EvTs (X : Cx) (ifs : List Expr) (ρ : DEnv) (b : Bool) : Prop := ∀ σ H, EnvD X.K H σ ρ → ∀ Q : Bool → Hp → Prop, (∀ H', Same H H' → Q b H') → TsAt X ifs σ H Q
def EvB (X : Cx) (scope : Scope) (e : Expr) (ρ : DEnv) (d : PyData) : Prop := ∀ (s : Shared) (H0 : Hp) (C : Addr) (cl : List (Str × Addr)) (fp : List Addr), Ev (X.blk s H0 scope (compEnvC scope cl C X.env) fp) e ρ d
def EvTB (X : Cx) (scope : Scope) (ifs : List Expr) (ρ : DEnv) (b : Bool) : Prop := ∀ (s : Shared) (H0 : Hp) (C : Addr) (cl : List (Str × Addr)) (fp : List Addr), EvTs (X.blk s H0 scope (compEnvC scope cl C X.env) fp) ifs ρ b
/-- the value does not lean on a list that stands there -/
def EvX (X : Cx) (e : Expr) (ρ : DEnv) (d : PyData) : Prop := ∀ σ H, EnvD X.K H σ ρ → ∀ D xs, H D = some (.lst xs) → ∀ Q : VK, (∀ v H', Same H H' → Dp X.K (del H' D) v d → Q v H') → EAt X e σ H Q
def EvXB (X : Cx) (scope : Scope) (e : Expr) (ρ : DEnv) (d : PyData) : Prop := ∀ (s : Shared) (H0 : Hp) (C : Addr) (cl : List (Str × Addr)) (fp : List Addr), EvX (X.blk s H0 scope (compEnvC scope cl C X.env) fp) e ρ d
/-- a new list -/
def EvN (X : Cx) (e : Expr) (ρ : DEnv) (ds : List PyData) : Prop := ∀ σ H, EnvD X.K H σ ρ → ∀ Q : VK, (∀ D acc H', H D = none → Same H H' → H' D = some (.lst acc) → DpAll X.K (del H' D) acc ds → Q (.ref D) H') → EAt X e σ H Q
section
variable {X : Cx} {e c : Expr} {ρ : DEnv} {d : PyData} {ds : List PyData} {b : Bool} {scope : Scope}
theorem EvN.ev (h : EvN X e ρ ds) : Ev X e ρ (.list ds) := fun σ H E Q q => h σ H E Q fun D acc H' _ s h1 h2 => q _ H' s (.lst (SqL.of h1) (dps_same same_del _ _ h2))
theorem EvN.evX (h : EvN X e ρ ds) (l : lfreeAll ds = true) : EvX X e ρ (.list ds) := fun σ H E D xs hD Q q => h σ H E Q fun D2 acc H' hn s h1 h2 => by
  have ne : D2 ≠ D := fun z => by rw [z, hD] at hn; cases hn
  refine q _ H' s (.lst (SqL.of (by rw [del_ne ne]; exact h1)) (dps_del ?_ l (dps_same same_del _ _ h2)))
  rw [s _ _ hD]
  exact noTup_lst
theorem Ev.evX (h : Ev X e ρ d) (l : lfree d = true) : EvX X e ρ d := fun σ H E D xs hD Q q => h σ H E Q fun v H' s h1 => q v H' s (dp_del (by rw [s _ _ hD]; exact noTup_lst) l h1)
theorem ets_nil : EvTs X [] ρ true := fun σ H E Q q pins s I => (pts_nil (X := X)).run pins s σ H Q I (q H (Same.refl H))
theorem ets_one (h : EvT X c ρ b) : EvTs X [c] ρ b := fun σ H E Q q pins s I => (pts_one (X := X) (tat (e := c))).run pins s σ H Q I (h σ H E Q q)
/-- how a target is stored -/
structure TgOk (K : PySem.W.Frag) (g : TG) (vs : List Nat) (ρ : DEnv) (d : PyData) (ρt : DEnv) : Prop where
  to : ∀ (σ : L2.St) (H : Hp) (v : V) (Q : L2.St → Hp → Prop), EnvD K H σ ρ → Dp K H v d → (∀ σ2, EnvD K H σ2 ρt → wipe σ2 vs = wipe σ vs → Q σ2 H) → g v (wipe σ vs) H Q
theorem tg_name {K : PySem.W.Frag} {j : Nat} {vs : List Nat} (h : j ∈ vs) : TgOk K (gName j) vs ρ d ((wipeD ρ vs).set j (some d)) := ⟨fun σ H v Q E hd q =>
  q _ ((E.wipe vs).set hd) (by rw [wipe_set _ h, wipe_wipe])⟩
theorem tg_pair {K : PySem.W.Frag} {j l : Nat} {vs : List Nat} {x y : PyData} (h : j ∈ vs) (h' : l ∈ vs) : TgOk K (gTup K 2 (gCons (gName j) (gCons (gName l) gNil))) vs ρ (.tuple [x, y]) (((wipeD ρ vs).set j (some x)).set l (some y)) := ⟨fun σ H v Q E hd q => by
  obtain ⟨a, xs, rfl, h1, h2⟩ := dp_tup hd
  obtain ⟨u, w, rfl, d1, d2⟩ := dps2 h2
  exact ⟨a, [u, w], rfl, h1, rfl, u, [w], rfl, w, [], rfl, rfl, q _ (((E.wipe vs).set d1).set d2) (by rw [wipe_set _ h', wipe_set _ h, wipe_wipe])⟩⟩
theorem take_filter {α : Type} {xs : List α} {x : α} (p : α → Bool) (f : α → PyData) {i : Nat} (h : xs[i]? = some x) : ((xs.take (i + 1)).filter p).map f = ((xs.take i).filter p).map f ++ (if p x = true then [f x] else []) := by
  rw [List.take_add_one, h, List.filter_append, List.map_append]
  show _ ++ (([x] : List α).filter p).map f = _
  rw [List.filter_cons]
  by_cases hp : p x = true
  · rw [if_pos hp, if_pos hp]; rfl
  · rw [if_neg hp, if_neg hp]; rfl
theorem map_get {α : Type} {xs : List α} {enc : α → PyData} {i : Nat} {d : PyData} (h : (xs.map enc)[i]? = some d) : ∃ x, xs[i]? = some x ∧ d = enc x := by
  rw [List.getElem?_map] at h
  cases e : xs[i]? with
  | none => rw [e] at h; cases h
  | some x => rw [e] at h; exact ⟨x, rfl, (Option.some.inj h).symm⟩
/-- one turn -/
theorem lc_turn {α : Type} {xs : List α} {x : α} {d : PyData} {g : TG} {vs : List Nat} {ifs : List Expr} {elt : Expr} {p : α → Bool} {f : α → PyData} {ρt : DEnv} {i : Nat} {σ : L2.St} {H1 H' : Hp} {D : Addr} {v : V} (hi : xs[i]? = some x) (htg : TgOk X.K g vs ρ d ρt)
    (ht : EvTB X scope ifs ρt (p x)) (he : p x = true → EvXB X scope elt ρt (f x)) (hz : xs.length ≤ 1000) (E : EnvD X.K H1 σ ρ) (hD : H1 D = none) (s : Same H1 H') {acc : List V} (h1 : H' D = some (.lst acc)) (h2 : DpAll X.K (del H' D) acc (((xs.take i).filter p).map f)) (hv : Dp X.K H' v d) :
    g v (wipe σ vs) H' fun σ2 H2 => wipe σ2 vs = wipe σ vs ∧ TBlk X scope ifs σ2 H2 fun b H3 => if b = true then EBlk X scope elt σ2 H3 fun y H4 => ∃ acc, H4 D = some (.lst acc) ∧ acc.length < sizeLine ∧
      (Same H1 (upd H4 D (.lst (acc ++ [y]))) ∧ ∃ a2, (upd H4 D (.lst (acc ++ [y]))) D = some (.lst a2) ∧ DpAll X.K (del (upd H4 D (.lst (acc ++ [y]))) D) a2 (((xs.take (i + 1)).filter p).map f))
      else Same H1 H3 ∧ ∃ a2, H3 D = some (.lst a2) ∧ DpAll X.K (del H3 D) a2 (((xs.take (i + 1)).filter p).map f) := by
  refine htg.to σ H' v _ (E.same s) hv fun σ2 E2 hw => ⟨hw, fun s0 H0 C cl fp => ?_⟩
  refine ht s0 H0 C cl fp σ2 H' E2 _ fun H3 s3 => ?_
  rw [take_filter p f hi]
  cases hp : p x with
  | true =>
    refine iteT fun s0 H0 C cl fp => ?_
    refine he hp s0 H0 C cl fp σ2 H3 (E2.same s3) D acc (s3 _ _ h1) _ fun y H4 s4 hy => ?_
    refine ⟨acc, s4 _ _ (s3 _ _ h1), ?_, same_mut ((s.trans s3).trans s4) hD, acc ++ [y], upd_same, ?_⟩
    · refine small1000 ?_
      rw [dps_len h2, List.length_map]
      refine Nat.le_trans (List.length_filter_le _ _) ?_
      rw [List.length_take]
      omega
    · rw [if_pos rfl]
      refine dps_app (dps_same same_del_upd _ _ (dps_same (same_del2 (s3.trans s4)) _ _ h2)) (dps_one (dp_same same_del_upd _ _ hy))
  | false =>
    refine iteF ⟨s.trans s3, acc, s3 _ _ h1, ?_⟩
    rw [if_neg (by decide), List.append_nil]
    exact dps_same (same_del2 s3) _ _ h2
section
variable {α : Type} {xs : List α} {enc : α → PyData} {g : TG} {vs : List Nat} {ifs : List Expr} {elt it : Expr} {p : α → Bool} {f : α → PyData} {ρt : α → DEnv}
theorem lcL (hi : Ev X it ρ (.list (xs.map enc))) (htg : ∀ x ∈ xs, TgOk X.K g vs ρ (enc x) (ρt x)) (ht : ∀ x ∈ xs, EvTB X scope ifs (ρt x) (p x)) (he : ∀ x ∈ xs, p x = true → EvXB X scope elt (ρt x) (f x)) (hz : xs.length ≤ 1000)
    {σ : L2.St} {H : Hp} (E : EnvD X.K H σ ρ) {Q : VK} (q : ∀ D acc H', H D = none → Same H H' → H' D = some (.lst acc) → DpAll X.K (del H' D) acc ((xs.filter p).map f) → Q (.ref D) H') :
    tLc (iList X.K (EAt X it)) g (TBlk X scope ifs) (EBlk X scope elt) vs σ H Q :=
  hi σ H E _ fun v H1 s1 d1 => by
    obtain ⟨l, us, rfl, h1, h2⟩ := dp_list d1
    refine ⟨l, rfl, ⟨us, h1⟩, fun D hD => lc_list (K := X.K) (a := l) (xs := us) (fun i H' => Same H1 H' ∧ ∃ acc, H' D = some (.lst acc) ∧ DpAll X.K (del H' D) acc (((xs.take i).filter p).map f)) ⟨same_upd hD, [], upd_same, .nil⟩ (fun i H' _ z => z.1.seq h1) (fun i u H' hu z => ?_) (fun H' z => ?_)⟩
    · obtain ⟨s2, acc, a1, a2⟩ := z
      obtain ⟨d, e1, e2⟩ := dps_get' h2 hu
      obtain ⟨x, e3, rfl⟩ := map_get e1
      have hm : x ∈ xs := List.mem_of_getElem? e3
      exact lc_turn e3 (htg x hm) (ht x hm) (he x hm) hz (E.same s1) hD s2 a1 a2 (dp_same s2 _ _ e2)
    · obtain ⟨s2, acc, a1, a2⟩ := z
      rw [dps_len h2, List.length_map, List.take_length] at a2
      exact q D acc H' (s1.free hD) (s1.trans s2) a1 a2
theorem lcT (hi : Ev X it ρ (.tuple (xs.map enc))) (htg : ∀ x ∈ xs, TgOk X.K g vs ρ (enc x) (ρt x)) (ht : ∀ x ∈ xs, EvTB X scope ifs (ρt x) (p x)) (he : ∀ x ∈ xs, p x = true → EvXB X scope elt (ρt x) (f x)) (hz : xs.length ≤ 1000)
    {σ : L2.St} {H : Hp} (E : EnvD X.K H σ ρ) {Q : VK} (q : ∀ D acc H', H D = none → Same H H' → H' D = some (.lst acc) → DpAll X.K (del H' D) acc ((xs.filter p).map f) → Q (.ref D) H') :
    tLc (iTup X.K (EAt X it)) g (TBlk X scope ifs) (EBlk X scope elt) vs σ H Q :=
  hi σ H E _ fun v H1 s1 d1 => by
    obtain ⟨l, us, rfl, h1, h2⟩ := dp_tup d1
    refine ⟨l, rfl, ⟨us, h1⟩, fun D hD => lc_tup (K := X.K) (a := l) (xs := us) (fun i H' => Same H1 H' ∧ ∃ acc, H' D = some (.lst acc) ∧ DpAll X.K (del H' D) acc (((xs.take i).filter p).map f)) ⟨same_upd hD, [], upd_same, .nil⟩ (fun i H' _ z => sqT_same z.1 h1) (fun i u H' hu z => ?_) (fun H' z => ?_)⟩
    · obtain ⟨s2, acc, a1, a2⟩ := z
      obtain ⟨d, e1, e2⟩ := dps_get' h2 hu
      obtain ⟨x, e3, rfl⟩ := map_get e1
      have hm : x ∈ xs := List.mem_of_getElem? e3
      exact lc_turn e3 (htg x hm) (ht x hm) (he x hm) hz (E.same s1) hD s2 a1 a2 (dp_same s2 _ _ e2)
    · obtain ⟨s2, acc, a1, a2⟩ := z
      rw [dps_len h2, List.length_map, List.take_length] at a2
      exact q D acc H' (s1.free hD) (s1.trans s2) a1 a2
theorem lcR {lo : Int} {n : Nat} {p : Nat → Bool} {f : Nat → PyData} {ρt : Nat → DEnv} (htg : ∀ i, i < n → TgOk X.K g vs ρ (.int (lo + (i : Int))) (ρt i)) (ht : ∀ i, i < n → EvTB X scope ifs (ρt i) (p i)) (he : ∀ i, i < n → p i = true → EvXB X scope elt (ρt i) (f i)) (hz : n ≤ 1000)
    {σ : L2.St} {H : Hp} (E : EnvD X.K H σ ρ) {Qd : Addr → Hp → Prop} (q : ∀ D acc H', H D = none → Same H H' → H' D = some (.lst acc) → DpAll X.K (del H' D) acc (((List.range n).filter p).map f) → Qd D H') :
    ∀ D, H D = none → ∃ W : Nat → Nat → Hp → Prop, (∃ m, W 0 m (upd H D (.lst []))) ∧ ∀ i m H, W i m H →
      ((Itr lo n).stop i H ∧ Qd D H) ∨ ((Itr lo n).go i H ∧ ∃ Nx : Hp → Prop, (∀ H', Nx H' → ∃ m', m' < m ∧ W (i + 1) m' H') ∧ ∀ x H', (Itr lo n).yld i H x H' → g x (wipe σ vs) H' fun σ2 H2 => wipe σ2 vs = wipe σ vs ∧ TBlk X scope ifs σ2 H2 fun b H3 =>
        if b = true then EBlk X scope elt σ2 H3 fun y H4 => ∃ acc, H4 D = some (.lst acc) ∧ acc.length < sizeLine ∧ Nx (upd H4 D (.lst (acc ++ [y]))) else Nx H3) := fun D hD =>
  lc_range (lo := lo) (n := n) (fun i H' => Same H H' ∧ ∃ acc, H' D = some (.lst acc) ∧ DpAll X.K (del H' D) acc ((((List.range n).take i).filter p).map f)) ⟨same_upd hD, [], upd_same, .nil⟩ (fun i H' hu z => by
    obtain ⟨s2, acc, a1, a2⟩ := z
    exact lc_turn (List.getElem?_range hu) (htg i hu) (ht i hu) (he i hu) (by rw [List.length_range]; exact hz) E hD s2 a1 a2 (.int _)) (fun H' z => by
    obtain ⟨s2, acc, a1, a2⟩ := z
    rw [show (List.range n).take n = List.range n from List.take_of_length_le (by rw [List.length_range]; exact Nat.le_refl _)] at a2
    exact q D acc H' hD s2 a1 a2)
end
end

/-! the rules -/
theorem eblk {X : Cx} {scope : Scope} {elt : Expr} (s : Shared) (H : Hp) (C : Addr) (cl : List (Str × Addr)) (fp : List Addr) : PE (X.blk s H scope (compEnvC scope cl C X.env) fp) elt (EBlk X scope elt) := ⟨fun pins s' _ _ _ I h => h s H C cl fp pins s' I⟩
theorem tblk {X : Cx} {scope : Scope} {ifs : List Expr} (s : Shared) (H : Hp) (C : Addr) (cl : List (Str × Addr)) (fp : List Addr) : PTs (X.blk s H scope (compEnvC scope cl C X.env) fp) ifs (TBlk X scope ifs) := ⟨fun pins s' _ _ _ I h => h s H C cl fp pins s' I⟩
abbrev PGB (X : Cx) (scope : Scope) (tg : Expr) (g : TG) : Prop := ∀ (s : Shared) (H : Hp) (C : Addr) (cl : List (Str × Addr)) (fp : List Addr), PG (X.blk s H scope (compEnvC scope cl C X.env) fp) tg g
section
variable {X : Cx} {ρ : DEnv} {scope : Scope} {g : TG} {ifs : List Expr} {elt it tg : Expr} {α : Type} {xs : List α} {enc : α → PyData} (p : α → Bool) (f : α → PyData) (ρt : α → DEnv) {own : List (Str × Nat)} {pos : Pos}
theorem en_lcL (hi : Ev X it ρ (.list (xs.map enc))) (htg : ∀ x ∈ xs, TgOk X.K g (own.map (·.2)) ρ (enc x) (ρt x)) (ht : ∀ x ∈ xs, EvTB X scope ifs (ρt x) (p x)) (he : ∀ x ∈ xs, p x = true → EvXB X scope elt (ρt x) (f x)) (hz : xs.length ≤ 1000)
    (hg : PGB X scope tg g) (ok : BlkOk X.N X.env.scope scope own) (hN : X.N.Nodup) (hc : X.calm = true := by rfl) (hs : ∀ x, foldedSetIterable it X.env x = pure x := by intro _; rfl) : EvN X (.ListComp elt [⟨tg, it, ifs, 0⟩] scope pos) ρ ((xs.filter p).map f) := fun σ H E Q q =>
  EAt.of (pe_lc hc hN (pi_list eat) ok hg tblk eblk hs) (lcL hi htg ht he hz E q)
theorem en_lcT (hi : Ev X it ρ (.tuple (xs.map enc))) (htg : ∀ x ∈ xs, TgOk X.K g (own.map (·.2)) ρ (enc x) (ρt x)) (ht : ∀ x ∈ xs, EvTB X scope ifs (ρt x) (p x)) (he : ∀ x ∈ xs, p x = true → EvXB X scope elt (ρt x) (f x)) (hz : xs.length ≤ 1000)
    (hg : PGB X scope tg g) (ok : BlkOk X.N X.env.scope scope own) (hN : X.N.Nodup) (hc : X.calm = true := by rfl) (hs : ∀ x, foldedSetIterable it X.env x = pure x := by intro _; rfl) : EvN X (.ListComp elt [⟨tg, it, ifs, 0⟩] scope pos) ρ ((xs.filter p).map f) := fun σ H E Q q =>
  EAt.of (pe_lc hc hN (pi_tup eat) ok hg tblk eblk hs) (lcT hi htg ht he hz E q)
/-- over range(m) -/
theorem en_lcR {a : Expr} {m : Nat} {pr p2 : Pos} (B : NoB X.mg) (hi : Ev X a ρ (.int (m : Int))) (p : Nat → Bool) (f : Nat → PyData) (ρt : Nat → DEnv) (htg : ∀ i, i < m → TgOk X.K g (own.map (·.2)) ρ (.int (0 + (i : Int))) (ρt i)) (ht : ∀ i, i < m → EvTB X scope ifs (ρt i) (p i)) (he : ∀ i, i < m → p i = true → EvXB X scope elt (ρt i) (f i)) (hz : m ≤ 1000)
    (hg : PGB X scope tg g) (ok : BlkOk X.N X.env.scope scope own) (hN : X.N.Nodup) (hc : X.calm = true := by rfl) (hgr : Gl X "range" := by rfl) (hst : starEach [a] X.env = [(false, eval a X.env)] := by rfl)
    (hs : ∀ x, foldedSetIterable (.Call (.Name "range" pr) [a] [] p2) X.env x = pure x := by intro _; rfl) : EvN X (.ListComp elt [⟨tg, .Call (.Name "range" pr) [a] [] p2, ifs, 0⟩] scope pos) ρ (((List.range m).filter p).map f) := fun σ H E Q q =>
  EAt.of (pe_lc hc hN (pi_range1 hgr B.range aat hst) ok hg tblk eblk hs) ((ea_cons hi ea_nil hst) σ H E _ fun us H1 s1 d1 => by
    obtain ⟨v, rfl, d2⟩ := dps1 d1
    cases dp_int d2
    refine ⟨(m : Int), rfl, by omega, by omega, ?_⟩
    rw [show ((m : Int)).toNat = m by omega]
    exact lcR htg ht he hz (E.same s1) (Qd := fun D H => Q (.ref D) H) fun D acc H' h1 s2 => q D acc H' (s1.free h1) (s1.trans s2))
/-- over range(lo, hi) -/
theorem en_lcR2 {a b : Expr} {lo : Int} {hi : Int} {m : Nat} {pr p2 : Pos} (B : NoB X.mg) (h1 : Ev X a ρ (.int lo)) (h2 : Ev X b ρ (.int hi)) (hm : (hi - lo).toNat = m) (hb : -1000 ≤ lo ∧ lo ≤ 1000 ∧ -1000 ≤ hi ∧ hi ≤ 1000) (p : Nat → Bool) (f : Nat → PyData) (ρt : Nat → DEnv) (htg : ∀ i, i < m → TgOk X.K g (own.map (·.2)) ρ (.int (lo + (i : Int))) (ρt i)) (ht : ∀ i, i < m → EvTB X scope ifs (ρt i) (p i)) (he : ∀ i, i < m → p i = true → EvXB X scope elt (ρt i) (f i)) (hz : m ≤ 1000)
    (hg : PGB X scope tg g) (ok : BlkOk X.N X.env.scope scope own) (hN : X.N.Nodup) (hc : X.calm = true := by rfl) (hgr : Gl X "range" := by rfl) (hst : starEach [a, b] X.env = [(false, eval a X.env), (false, eval b X.env)] := by rfl) (hst2 : starEach [b] X.env = [(false, eval b X.env)] := by rfl)
    (hs : ∀ x, foldedSetIterable (.Call (.Name "range" pr) [a, b] [] p2) X.env x = pure x := by intro _; rfl) : EvN X (.ListComp elt [⟨tg, .Call (.Name "range" pr) [a, b] [] p2, ifs, 0⟩] scope pos) ρ (((List.range m).filter p).map f) := fun σ H E Q q =>
  EAt.of (pe_lc hc hN (pi_range2 hgr B.range aat hst hst2) ok hg tblk eblk hs) ((ea_cons h1 (ea_cons h2 ea_nil hst2) (by rw [hst, hst2])) σ H E _ fun us H1 s1 d1 => by
    obtain ⟨v, w, rfl, d2, d3⟩ := dps2 d1
    cases dp_int d2
    cases dp_int d3
    refine ⟨lo, hi, rfl, ⟨by omega, by omega, by omega, by omega⟩, ?_⟩
    rw [hm]
    exact lcR htg ht he hz (E.same s1) (Qd := fun D H => Q (.ref D) H) fun D acc H' h1 s2 => q D acc H' (s1.free h1) (s1.trans s2))
/-- name = [..] over a list | a tuple -/
theorem st_lcL {D : DEnds} {i : Nat} {y : Str} {py spos : Pos} (hi : Ev X it ρ (.list (xs.map enc))) (htg : ∀ x ∈ xs, TgOk X.K g (own.map (·.2)) ρ (enc x) (ρt x)) (ht : ∀ x ∈ xs, EvTB X scope ifs (ρt x) (p x)) (he : ∀ x ∈ xs, p x = true → EvXB X scope elt (ρt x) (f x)) (hz : xs.length ≤ 1000)
    (k : D.nx (ρ.set i (some (.list ((xs.filter p).map f))))) (hg : PGB X scope tg g) (ok : BlkOk X.N X.env.scope scope own) (hsw : swapsWith (.ListComp elt [⟨tg, it, ifs, 0⟩] scope pos) (some (.Name y py)) spos.line X.env = pure true) (hN : X.N.Nodup) (hc : X.calm = true := by rfl) (hy : X.N[i]? = some y := by rfl) (hyl : X.env.scope.names.lookup y = some .local := by rfl)
    (hs : ∀ x, foldedSetIterable it X.env x = pure x := by intro _; rfl) : St1 X (.Assign [.Name y py] (.ListComp elt [⟨tg, it, ifs, 0⟩] scope pos) spos) ρ D := fun σ H E =>
  SAt.of (ps_setLc hc hN hy hyl hsw (pi_list eat) ok hg tblk eblk hs) (lcL hi htg ht he hz E fun D' acc H' _ s a1 a2 => ⟨s, _, (E.same s).set (.lst (SqL.of a1) (dps_same same_del _ _ a2)), k⟩)
theorem st_lcT {D : DEnds} {i : Nat} {y : Str} {py spos : Pos} (hi : Ev X it ρ (.tuple (xs.map enc))) (htg : ∀ x ∈ xs, TgOk X.K g (own.map (·.2)) ρ (enc x) (ρt x)) (ht : ∀ x ∈ xs, EvTB X scope ifs (ρt x) (p x)) (he : ∀ x ∈ xs, p x = true → EvXB X scope elt (ρt x) (f x)) (hz : xs.length ≤ 1000)
    (k : D.nx (ρ.set i (some (.list ((xs.filter p).map f))))) (hg : PGB X scope tg g) (ok : BlkOk X.N X.env.scope scope own) (hsw : swapsWith (.ListComp elt [⟨tg, it, ifs, 0⟩] scope pos) (some (.Name y py)) spos.line X.env = pure true) (hN : X.N.Nodup) (hc : X.calm = true := by rfl) (hy : X.N[i]? = some y := by rfl) (hyl : X.env.scope.names.lookup y = some .local := by rfl)
    (hs : ∀ x, foldedSetIterable it X.env x = pure x := by intro _; rfl) : St1 X (.Assign [.Name y py] (.ListComp elt [⟨tg, it, ifs, 0⟩] scope pos) spos) ρ D := fun σ H E =>
  SAt.of (ps_setLc hc hN hy hyl hsw (pi_tup eat) ok hg tblk eblk hs) (lcT hi htg ht he hz E fun D' acc H' _ s a1 a2 => ⟨s, _, (E.same s).set (.lst (SqL.of a1) (dps_same same_del _ _ a2)), k⟩)
end
end Q40
namespace Q40
open PySem PySem.Spec PyProof.Rows L2
section
variable {X : Cx} {body : List Stmt} {ρ : DEnv} {D : DEnds} {pos pt p2 : Pos} {α : Type} {xs : List α} {enc : α → PyData}
theorem st_forLm {j : Nat} {n : Str} {it : Expr} (hi : Ev X it ρ (.list (xs.map enc))) (I : Nat → DEnv → Prop) (h0 : I 0 ρ)
    (hs : ∀ (i : Nat) x ρ', xs[i]? = some x → I i ρ' → Bk X body (ρ'.set j (some (enc x))) { D with nx := I (i + 1), ct := I (i + 1), bk := D.nx }) (hd : ∀ ρ', I xs.length ρ' → D.nx ρ')
    (hp : PassesOwn (model X.prog X.w) X.A X.env X.xe) (hN : X.N.Nodup) (hc : X.calm = true := by rfl) (hj : X.N[j]? = some n := by rfl) (hx : Loc X.env.scope n := by first | exact .inl rfl | exact .inr rfl)
    (hf : X.fn n = true ∨ X.env.scope.names.lookup n = some .local := by first | exact .inl rfl | exact .inr rfl) (hfo : ∀ x, foldedSetIterable it X.env x = pure x := by intro _; rfl) : St1 X (.For (.Name n pt) it body [] pos) ρ D :=
  st_forL hi I h0 (fun i d ρ' e h => by obtain ⟨x, e1, rfl⟩ := map_get e; exact hs i x ρ' e1 h) (fun ρ' h => hd ρ' (by rw [List.length_map] at h; exact h)) hp hN hc hj hx hf hfo
theorem st_forTm {j : Nat} {n : Str} {it : Expr} (hi : Ev X it ρ (.tuple (xs.map enc))) (I : Nat → DEnv → Prop) (h0 : I 0 ρ)
    (hs : ∀ (i : Nat) x ρ', xs[i]? = some x → I i ρ' → Bk X body (ρ'.set j (some (enc x))) { D with nx := I (i + 1), ct := I (i + 1), bk := D.nx }) (hd : ∀ ρ', I xs.length ρ' → D.nx ρ')
    (hp : PassesOwn (model X.prog X.w) X.A X.env X.xe) (hN : X.N.Nodup) (hc : X.calm = true := by rfl) (hj : X.N[j]? = some n := by rfl) (hx : Loc X.env.scope n := by first | exact .inl rfl | exact .inr rfl)
    (hf : X.fn n = true ∨ X.env.scope.names.lookup n = some .local := by first | exact .inl rfl | exact .inr rfl) (hfo : ∀ x, foldedSetIterable it X.env x = pure x := by intro _; rfl) : St1 X (.For (.Name n pt) it body [] pos) ρ D :=
  st_forT hi I h0 (fun i d ρ' e h => by obtain ⟨x, e1, rfl⟩ := map_get e; exact hs i x ρ' e1 h) (fun ρ' h => hd ρ' (by rw [List.length_map] at h; exact h)) hp hN hc hj hx hf hfo
end
end Q40
namespace Q40
open PySem PySem.Spec PyProof.Rows L2
theorem st_expr {X : Cx} {e : Expr} {ρ : DEnv} {d : PyData} {pos : Pos} {D : DEnds} (h : Ev X e ρ d) (k : D.nx ρ) (hs : swapsWith e none pos.line X.env = pure false := by rfl) : St1 X (.Expr e pos) ρ D := fun σ H E =>
  SAt.of (ps_expr eat hs) (h σ H E _ fun v H' s q => ⟨s, ρ, E.same s, k⟩)
end Q40
namespace Q40
open PySem PySem.Spec PyProof.Rows L2
/-- a, b = e, the value a tuple -/
theorem st_tup2 {X : Cx} {e : Expr} {ρ : DEnv} {x y : PyData} {i j : Nat} {n m : Str} {kt : Nat} {pa pb pc pos : Pos} {D : DEnds} (h : Ev X e ρ (.tuple [x, y])) (k : D.nx ((ρ.set i (some x)).set j (some y))) (hN : X.N.Nodup) (hc : X.calm = true := by rfl) (hi : X.N[i]? = some n := by rfl) (hj : X.N[j]? = some m := by rfl)
    (hx : Loc X.env.scope n := by first | exact .inl rfl | exact .inr rfl) (hy : Loc X.env.scope m := by first | exact .inl rfl | exact .inr rfl)
    (hfx : X.fn n = true ∨ X.env.scope.names.lookup n = some .local := by first | exact .inl rfl | exact .inr rfl) (hfy : X.fn m = true ∨ X.env.scope.names.lookup m = some .local := by first | exact .inl rfl | exact .inr rfl)
    (hs : swapsWithSole [.Tuple [.Name n pa, .Name m pb] kt pc] e pos.line X.env = pure false := by rfl) (hw : swappedStores [.Tuple [.Name n pa, .Name m pb] kt pc] e X.env = pure none := by rfl) : St1 X (.Assign [.Tuple [.Name n pa, .Name m pb] kt pc] e pos) ρ D := fun σ H E =>
  SAt.of (ps_asg eat (pg_tup hc (pgs_cons (pg_name (i := i) hN hi hx hfx) (pgs_cons (pg_name (i := j) hN hj hy hfy) pgs_nil))) hs hw) (h σ H E _ fun v H' s q => by
    obtain ⟨a, xs, rfl, h1, h2⟩ := dp_tup q
    obtain ⟨u, w, rfl, d1, d2⟩ := dps2 h2
    exact ⟨a, [u, w], rfl, h1, rfl, u, [w], rfl, w, [], rfl, rfl, s, _, ((E.same s).set d1).set d2, k⟩)
end Q40
end

section
set_option maxRecDepth 100000
namespace Q40
open PySem PySem.Spec PyProof.Rows L2
def topS (i : Nat) : Stmt := PySem.Challenge.pw_meshcore_k40_whole_lists_of_pseudo_trian.main.body.getD i (.Pass ⟨0, 0, 0, 0⟩)
abbrev s_is_in : Stmt := topS 7
abbrev n_is_in : List Str := ["value", "least", "most"]
theorem sc_is_in : FnScope n_is_in ["value", "least", "most"] (defScope s_is_in) := ⟨rfl, rfl, rfl, by decide +kernel, rfl, by decide +kernel, by decide +kernel⟩
abbrev s_gcd : Stmt := topS 8
abbrev n_gcd : List Str := ["one", "other"]
theorem sc_gcd : FnScope n_gcd ["one", "other"] (defScope s_gcd) := ⟨rfl, rfl, rfl, by decide +kernel, rfl, by decide +kernel, by decide +kernel⟩
abbrev s_sign : Stmt := topS 9
abbrev n_sign : List Str := ["number"]
theorem sc_sign : FnScope n_sign ["number"] (defScope s_sign) := ⟨rfl, rfl, rfl, by decide +kernel, rfl, by decide +kernel, by decide +kernel⟩
abbrev s_is_point : Stmt := topS 13
abbrev n_is_point : List Str := ["value"]
theorem sc_is_point : FnScope n_is_point ["value"] (defScope s_is_point) := ⟨rfl, rfl, rfl, by decide +kernel, rfl, by decide +kernel, by decide +kernel⟩
abbrev s_need_points : Stmt := topS 14
abbrev n_need_points : List Str := ["value", "at"]
theorem sc_need_points : FnScope n_need_points ["value"] (defScope s_need_points) := ⟨rfl, rfl, rfl, by decide +kernel, rfl, by decide +kernel, by decide +kernel⟩
abbrev s_doubled : Stmt := topS 16
abbrev n_doubled : List Str := ["a", "b", "c", "first", "second"]
theorem sc_doubled : FnScope n_doubled ["a", "b", "c"] (defScope s_doubled) := ⟨rfl, rfl, rfl, by decide +kernel, rfl, by decide +kernel, by decide +kernel⟩
abbrev s_turn_of : Stmt := topS 17
abbrev n_turn_of : List Str := ["a", "b", "c"]
theorem sc_turn_of : FnScope n_turn_of ["a", "b", "c"] (defScope s_turn_of) := ⟨rfl, rfl, rfl, by decide +kernel, rfl, by decide +kernel, by decide +kernel⟩
abbrev s_is_crossing : Stmt := topS 19
abbrev n_is_crossing : List Str := ["a", "b", "c", "d"]
theorem sc_is_crossing : FnScope n_is_crossing ["a", "b", "c", "d"] (defScope s_is_crossing) := ⟨rfl, rfl, rfl, by decide +kernel, rfl, by decide +kernel, by decide +kernel⟩
abbrev s_need_general : Stmt := topS 21
abbrev n_need_general : List Str := ["points", "a", "b", "c"]
theorem sc_need_general : FnScope n_need_general ["points"] (defScope s_need_general) := ⟨rfl, rfl, rfl, by decide +kernel, rfl, by decide +kernel, by decide +kernel⟩
abbrev s_need_places : Stmt := topS 24
abbrev n_need_places : List Str := ["points"]
theorem sc_need_places : FnScope n_need_places ["points"] (defScope s_need_places) := ⟨rfl, rfl, rfl, by decide +kernel, rfl, by decide +kernel, by decide +kernel⟩
abbrev s_cross : Stmt := topS 25
abbrev n_cross : List Str := ["points", "one", "other"]
theorem sc_cross : FnScope n_cross ["points", "one", "other"] (defScope s_cross) := ⟨rfl, rfl, rfl, by decide +kernel, rfl, by decide +kernel, by decide +kernel⟩
abbrev s_ends_at : Stmt := topS 26
abbrev n_ends_at : List Str := ["edges", "i", "a", "b"]
theorem sc_ends_at : FnScope n_ends_at ["edges", "i"] (defScope s_ends_at) := ⟨rfl, rfl, rfl, by decide +kernel, rfl, by decide +kernel, by decide +kernel⟩
abbrev s_is_pointed_at : Stmt := topS 27
abbrev n_is_pointed_at : List Str := ["points", "edges", "i", "others", "j", "k"]
theorem sc_is_pointed_at : FnScope n_is_pointed_at ["points", "edges", "i"] (defScope s_is_pointed_at) := ⟨rfl, rfl, rfl, by decide +kernel, rfl, by decide +kernel, by decide +kernel⟩
abbrev s_can_have : Stmt := topS 28
abbrev n_can_have : List Str := ["points", "edges", "edge", "one", "more"]
theorem sc_can_have : FnScope n_can_have ["points", "edges", "edge"] (defScope s_can_have) := ⟨rfl, rfl, rfl, by decide +kernel, rfl, by decide +kernel, by decide +kernel⟩
abbrev s_pairs_of : Stmt := topS 31
abbrev n_pairs_of : List Str := ["many", "i", "j"]
theorem sc_pairs_of : FnScope n_pairs_of ["many"] (defScope s_pairs_of) := ⟨rfl, rfl, rfl, by decide +kernel, rfl, by decide +kernel, by decide +kernel⟩
abbrev s_filled : Stmt := topS 32
abbrev n_filled : List Str := ["points", "edges", "found", "edge"]
theorem sc_filled : FnScope n_filled ["points", "edges"] (defScope s_filled) := ⟨rfl, rfl, rfl, by decide +kernel, rfl, by decide +kernel, by decide +kernel⟩
abbrev s_is_outer : Stmt := topS 33
abbrev n_is_outer : List Str := ["points", "edge", "sides", "p"]
theorem sc_is_outer : FnScope n_is_outer ["points", "edge"] (defScope s_is_outer) := ⟨rfl, rfl, rfl, by decide +kernel, rfl, by decide +kernel, by decide +kernel⟩
abbrev s_exchanged : Stmt := topS 34
abbrev n_exchanged : List Str := ["points", "edges", "edge", "rest", "one", "other"]
theorem sc_exchanged : FnScope n_exchanged ["points", "edges", "edge"] (defScope s_exchanged) := ⟨rfl, rfl, rfl, by decide +kernel, rfl, by decide +kernel, by decide +kernel⟩
abbrev s_all_pseudo : Stmt := topS 35
abbrev n_all_pseudo : List Str := ["points", "found", "seen", "at", "edge", "other", "edges", "one"]
theorem sc_all_pseudo : FnScope n_all_pseudo ["points"] (defScope s_all_pseudo) := ⟨rfl, rfl, rfl, by decide +kernel, rfl, by decide +kernel, by decide +kernel⟩
abbrev s_law_taken : Stmt := topS 37
abbrev n_law_taken : List Str := ["_law_row", "_law_many", "_law_found", "_law_cell"]
theorem sc_law_taken : FnScope n_law_taken ["_law_row", "_law_many"] (defScope s_law_taken) := ⟨rfl, rfl, rfl, by decide +kernel, rfl, by decide +kernel, by decide +kernel⟩
abbrev s_law_pick : Stmt := topS 38
abbrev n_law_pick : List Str := ["_law_row", "_law_things"]
theorem sc_law_pick : FnScope n_law_pick ["_law_row", "_law_things"] (defScope s_law_pick) := ⟨rfl, rfl, rfl, by decide +kernel, rfl, by decide +kernel, by decide +kernel⟩
abbrev s_law_signed : Stmt := topS 39
abbrev n_law_signed : List Str := ["_law_row", "_law_most"]
theorem sc_law_signed : FnScope n_law_signed ["_law_row", "_law_most"] (defScope s_law_signed) := ⟨rfl, rfl, rfl, by decide +kernel, rfl, by decide +kernel, by decide +kernel⟩
abbrev s_law_grid : Stmt := topS 40
abbrev n_law_grid : List Str := ["_law_row", "_law_size"]
theorem sc_law_grid : FnScope n_law_grid ["_law_row", "_law_size"] (defScope s_law_grid) := ⟨rfl, rfl, rfl, by decide +kernel, rfl, by decide +kernel, by decide +kernel⟩
abbrev s_law_sign : Stmt := topS 41
abbrev n_law_sign : List Str := ["_law_number"]
theorem sc_law_sign : FnScope n_law_sign ["_law_number"] (defScope s_law_sign) := ⟨rfl, rfl, rfl, by decide +kernel, rfl, by decide +kernel, by decide +kernel⟩
abbrev s_law_doubled : Stmt := topS 42
abbrev n_law_doubled : List Str := ["_law_a", "_law_b", "_law_c", "_law_x", "_law_y", "_law_p", "_law_q"]
theorem sc_law_doubled : FnScope n_law_doubled ["_law_a", "_law_b", "_law_c"] (defScope s_law_doubled) := ⟨rfl, rfl, rfl, by decide +kernel, rfl, by decide +kernel, by decide +kernel⟩
abbrev s_law_turn : Stmt := topS 43
abbrev n_law_turn : List Str := ["_law_a", "_law_b", "_law_c"]
theorem sc_law_turn : FnScope n_law_turn ["_law_a", "_law_b", "_law_c"] (defScope s_law_turn) := ⟨rfl, rfl, rfl, by decide +kernel, rfl, by decide +kernel, by decide +kernel⟩
abbrev s_law_general : Stmt := topS 44
abbrev n_law_general : List Str := ["_law_row", "_law_least", "_law_most", "_law_found", "_law_many", "_law_size", "_law_turn_here", "_law_p", "_law_bad", "_law_i", "_law_q"]
theorem sc_law_general : FnScope n_law_general ["_law_row", "_law_least", "_law_most"] (defScope s_law_general) := ⟨rfl, rfl, rfl, by decide +kernel, rfl, by decide +kernel, by decide +kernel⟩
abbrev s_law_pairs : Stmt := topS 45
abbrev n_law_pairs : List Str := ["_law_many", "_law_found", "_law_i", "_law_j"]
theorem sc_law_pairs : FnScope n_law_pairs ["_law_many"] (defScope s_law_pairs) := ⟨rfl, rfl, rfl, by decide +kernel, rfl, by decide +kernel, by decide +kernel⟩
abbrev s_law_gcd : Stmt := topS 46
abbrev n_law_gcd : List Str := ["_law_one", "_law_other"]
theorem sc_law_gcd : FnScope n_law_gcd ["_law_one", "_law_other"] (defScope s_law_gcd) := ⟨rfl, rfl, rfl, by decide +kernel, rfl, by decide +kernel, by decide +kernel⟩
abbrev s_law_ratio : Stmt := topS 47
abbrev n_law_ratio : List Str := ["_law_numerator", "_law_denominator", "_law_common_here"]
theorem sc_law_ratio : FnScope n_law_ratio ["_law_numerator", "_law_denominator"] (defScope s_law_ratio) := ⟨rfl, rfl, rfl, by decide +kernel, rfl, by decide +kernel, by decide +kernel⟩
abbrev s_law_times : Stmt := topS 48
abbrev n_law_times : List Str := ["_law_one", "_law_other"]
theorem sc_law_times : FnScope n_law_times ["_law_one", "_law_other"] (defScope s_law_times) := ⟨rfl, rfl, rfl, by decide +kernel, rfl, by decide +kernel, by decide +kernel⟩
abbrev s_law_plus : Stmt := topS 49
abbrev n_law_plus : List Str := ["_law_one", "_law_other"]
theorem sc_law_plus : FnScope n_law_plus ["_law_one", "_law_other"] (defScope s_law_plus) := ⟨rfl, rfl, rfl, by decide +kernel, rfl, by decide +kernel, by decide +kernel⟩
abbrev s_law_lowest : Stmt := topS 50
abbrev n_law_lowest : List Str := ["_law_x", "_law_y", "_law_w", "_law_common_here"]
theorem sc_law_lowest : FnScope n_law_lowest ["_law_x", "_law_y", "_law_w"] (defScope s_law_lowest) := ⟨rfl, rfl, rfl, by decide +kernel, rfl, by decide +kernel, by decide +kernel⟩
abbrev s_law_cross : Stmt := topS 51
abbrev n_law_cross : List Str := ["_law_a", "_law_b", "_law_c", "_law_d", "_law_x", "_law_y", "_law_p", "_law_q", "_law_whole", "_law_one", "_law_part", "_law_first", "_law_second"]
theorem sc_law_cross : FnScope n_law_cross ["_law_a", "_law_b", "_law_c", "_law_d"] (defScope s_law_cross) := ⟨rfl, rfl, rfl, by decide +kernel, rfl, by decide +kernel, by decide +kernel⟩
abbrev s_law_order : Stmt := topS 52
abbrev n_law_order : List Str := ["_law_a", "_law_b", "_law_found"]
theorem sc_law_order : FnScope n_law_order ["_law_a", "_law_b"] (defScope s_law_order) := ⟨rfl, rfl, rfl, by decide +kernel, rfl, by decide +kernel, by decide +kernel⟩
abbrev s_law_between : Stmt := topS 53
abbrev n_law_between : List Str := ["_law_a", "_law_b", "_law_p", "_law_low", "_law_high"]
theorem sc_law_between : FnScope n_law_between ["_law_a", "_law_b", "_law_p"] (defScope s_law_between) := ⟨rfl, rfl, rfl, by decide +kernel, rfl, by decide +kernel, by decide +kernel⟩
abbrev s_law_common : Stmt := topS 54
abbrev n_law_common : List Str := ["_law_a", "_law_b", "_law_c", "_law_d", "_law_p", "_law_found", "_law_low", "_law_high"]
theorem sc_law_common : FnScope n_law_common ["_law_a", "_law_b", "_law_c", "_law_d"] (defScope s_law_common) := ⟨rfl, rfl, rfl, by decide +kernel, rfl, by decide +kernel, by decide +kernel⟩
abbrev s_law_cross_edges : Stmt := topS 55
abbrev n_law_cross_edges : List Str := ["_law_points", "_law_one", "_law_other"]
theorem sc_law_cross_edges : FnScope n_law_cross_edges ["_law_points", "_law_one", "_law_other"] (defScope s_law_cross_edges) := ⟨rfl, rfl, rfl, by decide +kernel, rfl, by decide +kernel, by decide +kernel⟩
abbrev s_law_pointed_at : Stmt := topS 56
abbrev n_law_pointed_at : List Str := ["_law_points", "_law_edges", "_law_i", "_law_ends", "_law_a", "_law_b", "_law_rights", "_law_j", "_law_k"]
theorem sc_law_pointed_at : FnScope n_law_pointed_at ["_law_points", "_law_edges", "_law_i"] (defScope s_law_pointed_at) := ⟨rfl, rfl, rfl, by decide +kernel, rfl, by decide +kernel, by decide +kernel⟩
abbrev s_law_can_add : Stmt := topS 57
abbrev n_law_can_add : List Str := ["_law_points", "_law_edges", "_law_edge", "_law_one", "_law_more"]
theorem sc_law_can_add : FnScope n_law_can_add ["_law_points", "_law_edges", "_law_edge"] (defScope s_law_can_add) := ⟨rfl, rfl, rfl, by decide +kernel, rfl, by decide +kernel, by decide +kernel⟩
abbrev s_law_all_pseudo : Stmt := topS 58
abbrev n_law_all_pseudo : List Str := ["_law_points", "_law_found", "_law_goal", "_law_pairs_here", "_law_at", "_law_longer", "_law_edges"]
theorem sc_law_all_pseudo : FnScope n_law_all_pseudo ["_law_points"] (defScope s_law_all_pseudo) := ⟨rfl, rfl, rfl, by decide +kernel, rfl, by decide +kernel, by decide +kernel⟩
abbrev s_law_alike : Stmt := topS 59
abbrev n_law_alike : List Str := ["_law_found", "_law_due", "_law_k"]
theorem sc_law_alike : FnScope n_law_alike ["_law_found", "_law_due"] (defScope s_law_alike) := ⟨rfl, rfl, rfl, by decide +kernel, rfl, by decide +kernel, by decide +kernel⟩
abbrev s_law_moved : Stmt := topS 60
abbrev n_law_moved : List Str := ["_law_row", "_law_points", "_law_way", "_law_below", "_law_factor", "_law_x", "_law_y", "_law_p"]
theorem sc_law_moved : FnScope n_law_moved ["_law_row", "_law_points"] (defScope s_law_moved) := ⟨rfl, rfl, rfl, by decide +kernel, rfl, by decide +kernel, by decide +kernel⟩
abbrev s_law_unpointed : Stmt := topS 61
abbrev n_law_unpointed : List Str := ["_law_points", "_law_edges", "_law_i"]
theorem sc_law_unpointed : FnScope n_law_unpointed ["_law_points", "_law_edges"] (defScope s_law_unpointed) := ⟨rfl, rfl, rfl, by decide +kernel, rfl, by decide +kernel, by decide +kernel⟩
abbrev s_law_good_edges : Stmt := topS 62
abbrev n_law_good_edges : List Str := ["_law_points", "_law_edges", "_law_a", "_law_b"]
theorem sc_law_good_edges : FnScope n_law_good_edges ["_law_points", "_law_edges"] (defScope s_law_good_edges) := ⟨rfl, rfl, rfl, by decide +kernel, rfl, by decide +kernel, by decide +kernel⟩
abbrev s_law : Stmt := topS 63
abbrev n_law : List Str := ["_law_script", "_law_row", "_law_many", "_law_points", "_law_k", "_law_found", "_law_edges", "_law_due", "_law_reached", "_law_at", "_law_turn_here", "_law_other", "_law_edge"]
theorem sc_law : FnScope n_law ["_law_script"] (defScope s_law) := ⟨rfl, rfl, rfl, by decide +kernel, rfl, by decide +kernel, by decide +kernel⟩
end Q40
end

section
set_option maxRecDepth 100000
set_option maxHeartbeats 4000000
namespace Q40
open PySem PySem.Spec PyProof.Rows L2

abbrev Pt := Int × Int × Int
def pD (p : Pt) : PyData := .tuple [.int p.1, .int p.2.1, .int p.2.2]
structure PtOk (p : Pt) : Prop where
  x : -1000000000000 ≤ p.1 ∧ p.1 ≤ 1000000000000
  y : -1000000000000 ≤ p.2.1 ∧ p.2.1 ≤ 1000000000000
  w : 0 < p.2.2 ∧ p.2.2 ≤ 1000000000000
theorem mulL {i j : Int} (h : -1000000000000000 ≤ i ∧ i ≤ 1000000000000000) : CMul i j := .inl (by omega)
theorem mulR {i j : Int} (h : -1000000000000000 ≤ j ∧ j ≤ 1000000000000000) : CMul i j := .inr (by omega)
/-- twice the signed area, as the program reckons it -/
def dbl (a b c : Pt) : Int := a.1 * (b.2.1 * c.2.2 - c.2.1 * b.2.2) - a.2.1 * (b.1 * c.2.2 - c.1 * b.2.2) + a.2.2 * (b.1 * c.2.1 - c.1 * b.2.1)
def sgn (n : Int) : Int := b2i (decide (0 < n)) - b2i (decide (n < 0))
def trn (a b c : Pt) : Int := sgn (dbl a b c)
theorem sgn_cases (n : Int) : (0 < n ∧ sgn n = 1) ∨ (n = 0 ∧ sgn n = 0) ∨ (n < 0 ∧ sgn n = -1) := by
  unfold sgn
  rcases Int.lt_trichotomy n 0 with h | h | h
  · right; right
    rw [decide_eq_false (by omega), decide_eq_true h]
    exact ⟨h, rfl⟩
  · right; left
    rw [decide_eq_false (by omega), decide_eq_false (by omega)]
    exact ⟨h, rfl⟩
  · left
    rw [decide_eq_true h, decide_eq_false (by omega)]
    exact ⟨h, rfl⟩
theorem sgn_bd (n : Int) : -1 ≤ sgn n ∧ sgn n ≤ 1 := by
  rcases sgn_cases n with ⟨_, h⟩ | ⟨_, h⟩ | ⟨_, h⟩ <;> omega

def F_sign : List PyData → PyData → Prop := fun ds r => ∃ n : Int, ds = [.int n] ∧ r = .int (sgn n)
def F_dbl : List PyData → PyData → Prop := fun ds r => ∃ a b c : Pt, PtOk a ∧ PtOk b ∧ PtOk c ∧ ds = [pD a, pD b, pD c] ∧ r = .int (dbl a b c)
def F_trn : List PyData → PyData → Prop := fun ds r => ∃ a b c : Pt, PtOk a ∧ PtOk b ∧ PtOk c ∧ ds = [pD a, pD b, pD c] ∧ r = .int (trn a b c)
def crs (a b c d : Pt) : Bool := decide (trn a b c * trn a b d < 0 ∧ trn c d a * trn c d b < 0)
def F_crs : List PyData → PyData → Prop := fun ds r => ∃ a b c d : Pt, PtOk a ∧ PtOk b ∧ PtOk c ∧ PtOk d ∧ ds = [pD a, pD b, pD c, pD d] ∧ r = .bool (crs a b c d)

section
variable {P : Program} {w : World} {K : PySem.W.Frag} {mg : Str → Option Value} {base : Heap} {f : Addr} {fd : FuncData}
theorem ok_sign (Fn : Fun K "sign" "sign" s_sign f fd) : FnOk P w K mg base CX0 1 f fd ["number"] (spF K F_sign) := by
  refine pure_ok Fn sc_sign (fun ds r h => by obtain ⟨n, rfl, _⟩ := h; rfl) fun cdv A outer s H E hr ds r h => ?_
  obtain ⟨n, rfl, rfl⟩ := h
  exact bk_cons (st_ret (ev_subB (ev_gt (ev_var 0) ev_int) (ev_lt (ev_var 0) ev_int)) rfl)
theorem ok_doubled (Fn : Fun K "doubled" "doubled" s_doubled f fd) : FnOk P w K mg base CX0 1 f fd ["a", "b", "c"] (spF K F_dbl) := by
  refine pure_ok Fn sc_doubled (fun ds r h => by obtain ⟨a, b, c, _, _, _, rfl, _⟩ := h; rfl) fun cdv A outer s H E hr ds r h => ?_
  obtain ⟨a, b, c, ha, hb, hc, rfl, rfl⟩ := h
  have a1 := ha.x; have a2 := ha.y; have a3 := ha.w
  have b1 := hb.x; have b2 := hb.y; have b3 := hb.w
  have c1 := hc.x; have c2 := hc.y; have c3 := hc.w
  refine bk_cons (st_set (i := 3) (ev_mul (ev_ixT (ev_var 0) ev_int) (ev_sub (ev_mul (ev_ixT (ev_var 1) ev_int) (ev_ixT (ev_var 2) ev_int) ?_) (ev_mul (ev_ixT (ev_var 2) ev_int) (ev_ixT (ev_var 1) ev_int) ?_)) ?_) ?_ sc_doubled.nd)
  rotate_left 3
  refine bk_cons (st_set (i := 4) (ev_mul (ev_ixT (ev_var 0) ev_int) (ev_sub (ev_mul (ev_ixT (ev_var 1) ev_int) (ev_ixT (ev_var 2) ev_int) ?_) (ev_mul (ev_ixT (ev_var 2) ev_int) (ev_ixT (ev_var 1) ev_int) ?_)) ?_) ?_ sc_doubled.nd)
  rotate_left 3
  refine bk_cons (st_ret (ev_add (ev_sub (ev_var 3) (ev_var 4)) (ev_mul (ev_ixT (ev_var 0) ev_int) (ev_sub (ev_mul (ev_ixT (ev_var 1) ev_int) (ev_ixT (ev_var 2) ev_int) ?_) (ev_mul (ev_ixT (ev_var 2) ev_int) (ev_ixT (ev_var 1) ev_int) ?_)) ?_)) rfl)
  all_goals exact mulL (by omega)
theorem ok_turn_of {k : Nat} (Fn : Fun K "turn_of" "turn_of" s_turn_of f fd) (G1 : Callee P w K mg base "sign" 1 F_sign) (G2 : Callee P w K mg base "doubled" 1 F_dbl) : FnOk P w K mg base CX0 2 f fd ["a", "b", "c"] (spF K F_trn) := by
  refine pure_ok Fn sc_turn_of (fun ds r h => by obtain ⟨a, b, c, _, _, _, rfl, _⟩ := h; rfl) fun cdv A outer s H E hr ds r h => ?_
  obtain ⟨a, b, c, ha, hb, hc, rfl, rfl⟩ := h
  exact bk_cons (st_ret (ev_call G1 hr (Nat.le_refl _) (ea_cons (ev_call G2 hr (Nat.le_refl _) (ea_cons (ev_var 0) (ea_cons (ev_var 1) (ea_cons (ev_var 2) ea_nil))) ⟨a, b, c, ha, hb, hc, rfl, rfl⟩) ea_nil) ⟨_, rfl, rfl⟩) rfl)
theorem ok_is_crossing (Fn : Fun K "is_crossing" "is_crossing" s_is_crossing f fd) (G : Callee P w K mg base "turn_of" 2 F_trn) : FnOk P w K mg base CX0 3 f fd ["a", "b", "c", "d"] (spF K F_crs) := by
  refine pure_ok Fn sc_is_crossing (fun ds r h => by obtain ⟨a, b, c, d, _, _, _, _, rfl, _⟩ := h; rfl) fun cdv A outer s H E hr ds r h => ?_
  obtain ⟨a, b, c, d, ha, hb, hc, hd, rfl, rfl⟩ := h
  refine bk_cons (st_if (et_ge (ev_mul (ev_call G hr (Nat.le_refl _) (ea_cons (ev_var 0) (ea_cons (ev_var 1) (ea_cons (ev_var 2) ea_nil))) ⟨a, b, c, ha, hb, hc, rfl, rfl⟩) (ev_call G hr (Nat.le_refl _) (ea_cons (ev_var 0) (ea_cons (ev_var 1) (ea_cons (ev_var 3) ea_nil))) ⟨a, b, d, ha, hb, hd, rfl, rfl⟩) ?_) ev_int) (fun h => ?_) (fun h => ?_))
  · have := sgn_bd (dbl a b c)
    exact mulL (show -1000000000000000 ≤ trn a b c ∧ trn a b c ≤ 1000000000000000 by unfold trn; omega)
  · refine bk_cons (st_ret ev_bl ?_)
    have h2 := of_decide_eq_true h
    show PyData.bool false = PyData.bool (crs a b c d)
    unfold crs
    rw [decide_eq_false (fun z => by omega)]
  · refine bk_nil (bk_cons (st_ret (ev_lt (ev_mul (ev_call G hr (Nat.le_refl _) (ea_cons (ev_var 2) (ea_cons (ev_var 3) (ea_cons (ev_var 0) ea_nil))) ⟨c, d, a, hc, hd, ha, rfl, rfl⟩) (ev_call G hr (Nat.le_refl _) (ea_cons (ev_var 2) (ea_cons (ev_var 3) (ea_cons (ev_var 1) ea_nil))) ⟨c, d, b, hc, hd, hb, rfl, rfl⟩) ?_) ev_int) ?_))
    · have := sgn_bd (dbl c d a)
      exact mulL (show -1000000000000000 ≤ trn c d a ∧ trn c d a ≤ 1000000000000000 by unfold trn; omega)
    · have h2 := of_decide_eq_false h
      show PyData.bool (decide (trn c d a * trn c d b < 0)) = PyData.bool (crs a b c d)
      unfold crs
      congr 1
      rw [decide_eq_decide]
      constructor
      · intro z; exact ⟨by omega, z⟩
      · intro z; exact z.2
end
end Q40
end

section
set_option maxRecDepth 100000
set_option maxHeartbeats 4000000
namespace Q40
open PySem PySem.Spec PyProof.Rows L2

/-! ### numbers -/
def F_isin : List PyData → PyData → Prop := fun ds r => ∃ v lo hi : Int, ds = [.int v, .int lo, .int hi] ∧ r = .bool (decide (lo ≤ v ∧ v ≤ hi))
def F_gcd : List PyData → PyData → Prop := fun ds r => ∃ a b : Int, ds = [.int a, .int b] ∧ r = .int (Int.gcd a b : Int)
theorem shaped_int (i : Int) : SeqAt.shaped (.int i) = true := by
  show (PyData.canLay0 (.int i) && decide (PyData.depth (.int i) ≤ 64)) = true
  rw [Bool.and_eq_true]
  exact ⟨by simp [PyData.canLay0], decide_eq_true (by simp [PyData.depth])⟩
theorem eqv_int (i j : Int) : PyData.eqv (.int i) (.int j) = decide (i = j) := by
  simp only [PyData.eqv]
  rw [Bool.eq_iff_iff, beq_iff_eq, decide_eq_true_eq]
theorem kb_ii : kitB "int" "int" = some true := by decide +kernel
theorem kb_ib : kitB "int" "bool" = some false := by decide +kernel
theorem kb_tt : kitB "tuple" "tuple" = some true := by decide +kernel
section
variable {P : Program} {w : World} {K : PySem.W.Frag} {mg : Str → Option Value} {base : Heap} {f : Addr} {fd : FuncData}
theorem ok_is_in (Fn : Fun K "is_in" "is_in" s_is_in f fd) (B : NoB mg) : FnOk P w K mg base CX0 1 f fd ["value", "least", "most"] (spF K F_isin) := by
  refine pure_ok Fn sc_is_in (fun ds r h => by obtain ⟨a, b, c, rfl, _⟩ := h; rfl) fun cdv A outer s H E hr ds r h => ?_
  obtain ⟨v, lo, hi, rfl, rfl⟩ := h
  refine bk_cons (st_ret (ev_and (ev_isi (T := "int") B (ev_var 0) B.int bt_int (p := true) (by exact kb_ii)) fun _ => ev_and (ev_not (ev_isi (T := "bool") B (ev_var 0) B.bool bt_bool (p := false) (by exact kb_ib))) fun _ => ev_one (ev_chain_le (ev_var 1) (ev_var 0) (ev_var 2))) ?_)
  show PyData.bool _ = PyData.bool _
  congr 1
theorem ok_gcd (Fn : Fun K "gcd" "gcd" s_gcd f fd) (B : NoB mg) : FnOk P w K mg base CX0 1 f fd ["one", "other"] (spF K F_gcd) := by
  refine pure_ok Fn sc_gcd (fun ds r h => by obtain ⟨a, b, rfl, _⟩ := h; rfl) fun cdv A outer s H E hr ds r h => ?_
  obtain ⟨a, b, rfl, rfl⟩ := h
  refine bk_cons (st_par (i := 0) (j := 1) (ev_abs B (ev_var 0)) (ev_abs B (ev_var 1)) ?_ sc_gcd.nd)
  refine bk_cons (st_while (fun m ρ => ∃ x : Nat, ρ = [some (.int (x : Int)), some (.int (m : Int))] ∧ Nat.gcd x m = Int.gcd a b) (m0 := b.natAbs) ⟨a.natAbs, rfl, rfl⟩ (fun m ρ' h => ?_) PassesOwn.never)
  obtain ⟨x, rfl, hx⟩ := h
  refine ⟨_, et_ne hr (ev_var 1) ev_int (shaped_int _) (shaped_int _), fun h => ?_, fun h => ?_⟩
  · rw [eqv_int] at h
    have hm : m ≠ 0 := by
      rintro rfl
      simp at h
    refine bk_cons (st_par (i := 0) (j := 1) (ev_var 1) (ev_mod (ev_var 0) (ev_var 1) (by omega)) ?_ sc_gcd.nd)
    refine bk_nil ⟨x % m, Nat.mod_lt _ (by omega), m, ?_, ?_⟩
    · show [some (PyData.int (m : Int)), some (PyData.int ((x : Int) % (m : Int)))] = _
      rw [Int.natCast_emod]
    · rw [← hx, Nat.gcd_comm x m, Nat.gcd_rec m x, Nat.gcd_comm]
  · rw [eqv_int] at h
    have hm : m = 0 := by
      by_cases z : (m : Int) = 0
      · omega
      · rw [decide_eq_false z] at h; cases h
    subst hm
    refine bk_cons (st_ret (ev_var 0) ?_)
    rw [Nat.gcd_zero_right] at hx
    show PyData.int (x : Int) = _
    rw [hx]
end

/-! ### points -/
structure PtIn (p : Pt) : Prop extends PtOk p where
  g : Int.gcd (Int.gcd p.1 p.2.1 : Int) p.2.2 = 1
def F_ispt : List PyData → PyData → Prop := fun ds r => ∃ p : Pt, PtIn p ∧ ds = [pD p] ∧ r = .bool true
def ptsT (ps : List Pt) : PyData := .tuple (ps.map pD)
structure PtsIn (ps : List Pt) : Prop where
  all : ∀ p ∈ ps, PtIn p
  nd : ps.Nodup
  lo : 2 ≤ ps.length
  hi : ps.length ≤ 12
  gen : ∀ i j k : Nat, ∀ p q r, i < j → j < k → ps[i]? = some p → ps[j]? = some q → ps[k]? = some r → dbl r q p ≠ 0
def F_need : List PyData → PyData → Prop := fun ds r => ∃ ps : List Pt, PtsIn ps ∧ ds = [ptsT ps] ∧ r = .none
theorem eqv_pD (p q : Pt) : PyData.eqv (pD p) (pD q) = decide (p = q) := by
  obtain ⟨a, b, c⟩ := p
  obtain ⟨a', b', c'⟩ := q
  simp only [pD, PyData.eqv, PyData.eqvAll, Bool.and_true]
  rw [Bool.eq_iff_iff]
  simp only [Bool.and_eq_true, decide_eq_true_eq, Prod.mk.injEq, beq_iff_eq]
theorem shaped_pD (p : Pt) : SeqAt.shaped (pD p) = true := by
  show (PyData.canLay0 (pD p) && decide (PyData.depth (pD p) ≤ 64)) = true
  rw [Bool.and_eq_true]
  exact ⟨by simp [pD, PyData.canLay0, PyData.canLayAll0], decide_eq_true (by simp [pD, PyData.depth, PyData.depthAll])⟩
theorem shapes_pD : ∀ ps : List Pt, PyData.canLayAll0 (ps.map pD) = true ∧ PyData.depthAll (ps.map pD) ≤ 1
  | [] => by simp [PyData.canLayAll0, PyData.depthAll]
  | p :: ps => by
    obtain ⟨h1, h2⟩ := shapes_pD ps
    have h3 : (pD p).canLay0 = true := SeqAt.canLay_of_shaped (shaped_pD p)
    have h4 : (pD p).depth = 1 := by simp [pD, PyData.depth, PyData.depthAll]
    simp only [List.map_cons, PyData.canLayAll0, PyData.depthAll, h3, h1, Bool.and_self, true_and]
    omega
theorem shapedL_pD (ps : List Pt) : SeqAt.shaped (.list (ps.map pD)) = true := shaped_list (shapes_pD ps).1 (by have := (shapes_pD ps).2; omega)
theorem atI_map {α : Type} {xs : List α} {enc : α → PyData} {i : Nat} {x : α} (h : xs[i]? = some x) : atI (xs.map enc) (i : Int) = some (enc x) := atI_nat (by rw [List.getElem?_map, h]; rfl)
/-- the module's numbers -/
structure Nums (mg : Str → Option Value) : Prop where
  largest : ∃ t, mg "LARGEST" = some (.int 1000000000000 t)
  points : ∃ t, mg "MOST_POINTS" = some (.int 40 t)
  pointed : ∃ t, mg "MOST_POINTED" = some (.int 12 t)
  pseudo : ∃ t, mg "MOST_PSEUDO" = some (.int 2000 t)
section
variable {P : Program} {w : World} {K : PySem.W.Frag} {mg : Str → Option Value} {base : Heap} {f : Addr} {fd : FuncData}
theorem ok_is_point (Fn : Fun K "is_point" "is_point" s_is_point f fd) (B : NoB mg) (C : Nums mg) (G1 : Callee P w K mg base "is_in" 1 F_isin) (G2 : Callee P w K mg base "gcd" 1 F_gcd) : FnOk P w K mg base CX0 2 f fd ["value"] (spF K F_ispt) := by
  refine pure_ok Fn sc_is_point (fun ds r h => by obtain ⟨a, _, rfl, _⟩ := h; rfl) fun cdv A outer s H E hr ds r h => ?_
  obtain ⟨p, hp, rfl, rfl⟩ := h
  obtain ⟨t, hL⟩ := C.largest
  have h1 := hp.x; have h2 := hp.y; have h3 := hp.w
  refine bk_cons (st_if (p := false) (et_w (ew_or (et_not (et_val (ev_isi (T := "tuple") B (ev_var 0) B.tuple bt_tuple (p := true) (by exact kb_tt)))) fun _ => ew_or1 (EvT.is (et_ne hr (ev_lenT B (ev_var 0)) ev_int (shaped_int _) (shaped_int _)) (by rw [eqv_int]; rfl)))) (fun h => by cases h) fun _ => bk_nil ?_)
  refine bk_cons (st_if (p := false) (et_w (ew_or (p := false) (q := false) (et_not (et_val ((ev_call G1 hr (by decide) (ea_cons (ev_ixT (ev_var 0) ev_int) (ea_cons (ev_neg (ev_glob (by rfl) hL)) (ea_cons (ev_glob (by rfl) hL) ea_nil))) ⟨_, _, _, rfl, rfl⟩).is (d' := .bool true) (by rw [decide_eq_true (by omega)])))) fun _ => ew_or1 (et_not (et_val ((ev_call G1 hr (by decide) (ea_cons (ev_ixT (ev_var 0) ev_int) (ea_cons (ev_neg (ev_glob (by rfl) hL)) (ea_cons (ev_glob (by rfl) hL) ea_nil))) ⟨_, _, _, rfl, rfl⟩).is (d' := .bool true) (by rw [decide_eq_true (by omega)])))))) (fun h => by cases h) fun _ => bk_nil ?_)
  refine bk_cons (st_ret ((ev_and (p := true) (q := true) ((ev_call G1 hr (by decide) (ea_cons (ev_ixT (ev_var 0) ev_int) (ea_cons ev_int (ea_cons (ev_glob (by rfl) hL) ea_nil))) ⟨_, _, _, rfl, rfl⟩).is (d' := .bool true) (by rw [decide_eq_true (by omega)])) fun _ => ev_one ((ev_eq hr (ev_call G2 hr (by decide) (ea_cons (ev_call G2 hr (by decide) (ea_cons (ev_ixT (ev_var 0) ev_int) (ea_cons (ev_ixT (ev_var 0) ev_int) ea_nil)) ⟨_, _, rfl, rfl⟩) (ea_cons (ev_ixT (ev_var 0) ev_int) ea_nil)) ⟨_, _, rfl, rfl⟩) ev_int (shaped_int _) (shaped_int _)).is ?_))) rfl)
  rw [eqv_int, hp.g]
  rfl
end
end Q40
end

section
set_option maxRecDepth 100000
set_option maxHeartbeats 4000000
namespace Q40
open PySem PySem.Spec PyProof.Rows L2

theorem mem_take_idx {α : Type} {xs : List α} {x : α} {n : Nat} (h : x ∈ xs.take n) : ∃ i, i < n ∧ xs[i]? = some x := by
  obtain ⟨i, hi, e⟩ := List.getElem_of_mem h
  rw [List.length_take] at hi
  rw [List.getElem_take] at e
  exact ⟨i, by omega, by rw [List.getElem?_eq_getElem (by omega), e]⟩
theorem nodup_idx {α : Type} {xs : List α} {x : α} {i j : Nat} (h : xs.Nodup) (h1 : xs[i]? = some x) (h2 : xs[j]? = some x) : i = j := by
  obtain ⟨a, e1⟩ := List.getElem?_eq_some_iff.mp h1
  obtain ⟨b, e2⟩ := List.getElem?_eq_some_iff.mp h2
  exact (List.getElem_inj h).mp (e1.trans e2.symm)
theorem any_pD (ps : List Pt) (p : Pt) : ((ps.map pD).any fun z => PyData.eqv z (pD p)) = decide (p ∈ ps) := by
  rw [Bool.eq_iff_iff, List.any_eq_true, decide_eq_true_eq]
  constructor
  · rintro ⟨z, hz, e⟩
    obtain ⟨q, hq, rfl⟩ := List.mem_map.mp hz
    rw [eqv_pD, decide_eq_true_eq] at e
    exact e ▸ hq
  · intro h
    exact ⟨pD p, List.mem_map.mpr ⟨p, h, rfl⟩, by rw [eqv_pD]; simp⟩
section
variable {P : Program} {w : World} {K : PySem.W.Frag} {mg : Str → Option Value} {base : Heap} {f : Addr} {fd : FuncData}
theorem ok_need_points (Fn : Fun K "need_points" "need_points" s_need_points f fd) (B : NoB mg) (C : Nums mg) (G : Callee P w K mg base "is_point" 2 F_ispt) : FnOk P w K mg base CX0 3 f fd ["value"] (spF K F_need) := by
  refine pure_ok Fn sc_need_points (fun ds r h => by obtain ⟨a, _, rfl, _⟩ := h; rfl) fun cdv A outer s H E hr ds r h => ?_
  obtain ⟨ps, hp, rfl, rfl⟩ := h
  obtain ⟨t, hM⟩ := C.points
  have hl := hp.lo; have hh := hp.hi
  have hlen : (ps.map pD).length = ps.length := List.length_map _
  refine bk_cons (st_if (p := false) (et_w (ew_or (p := false) (q := false) (et_not (et_val (ev_isi (T := "tuple") B (ev_var 0) B.tuple bt_tuple (p := true) (by exact kb_tt)))) fun _ => ew_or1 (et_not ((et_chain_le ev_int (ev_lenT B (ev_var 0)) (ev_glob (by rfl) hM)).is (k' := true) ?_)))) (fun h => by cases h) fun _ => bk_nil ?_)
  · rw [hlen]
    exact decide_eq_true (by omega)
  refine bk_cons (st_forR B (j := 1) (ev_lenT B (ev_var 0)) (by omega) (fun _ ρ => ∃ o, ρ = [some (ptsT ps), o]) ⟨none, rfl⟩ (fun i ρ' hi hI => ?_) (fun ρ' _ => ?_) PassesOwn.never sc_need_points.nd)
  · obtain ⟨o, rfl⟩ := hI
    rw [hlen] at hi
    obtain ⟨p, hpi⟩ : ∃ p, ps[i]? = some p := ⟨ps[i], List.getElem?_eq_getElem hi⟩
    have hin := hp.all p (List.mem_of_getElem? hpi)
    refine bk_cons (st_if (p := false) (et_w (ew_or (p := false) (q := false) (et_not (p := true) (et_val (ev_call G hr (by decide) (ea_cons (ev_ixT (ev_var 0) (ev_var 1) (atI_map hpi)) ea_nil) ⟨p, hin, rfl, rfl⟩))) fun _ => ew_or1 ((et_inT hr (ev_ixT (ev_var 0) (ev_var 1) (atI_map hpi)) (ev_toT (n := i) (ev_var 0) (ev_var 1)) (shaped_pD p) ?_).is ?_))) (fun h => by cases h) fun _ => bk_nil (bk_nil ⟨_, rfl⟩))
    · rw [← List.map_take]
      exact shapedL_pD _
    · rw [← List.map_take, any_pD, decide_eq_false]
      intro z
      obtain ⟨j, hj, e⟩ := mem_take_idx z
      have := nodup_idx hp.nd e hpi
      omega
  · exact bk_nil rfl
theorem ok_need_general (Fn : Fun K "need_general" "need_general" s_need_general f fd) (B : NoB mg) (G1 : Callee P w K mg base "need_points" 3 F_need) (G2 : Callee P w K mg base "turn_of" 2 F_trn) : FnOk P w K mg base CX0 4 f fd ["points"] (spF K F_need) := by
  refine pure_ok Fn sc_need_general (fun ds r h => by obtain ⟨a, _, rfl, _⟩ := h; rfl) fun cdv A outer s H E hr ds r h => ?_
  obtain ⟨ps, hp, rfl, rfl⟩ := h
  have hh := hp.hi
  have hlen : (ps.map pD).length = ps.length := List.length_map _
  refine bk_cons (st_expr (ev_call G1 hr (by decide) (ea_cons (ev_var 0) ea_nil) ⟨ps, hp, rfl, rfl⟩) ?_)
  refine bk_cons (st_forR B (j := 1) (ev_lenT B (ev_var 0)) (by omega) (fun _ ρ => ∃ o p q, ρ = [some (ptsT ps), o, p, q]) ⟨none, none, none, rfl⟩ (fun a ρ' ha hI => ?_) (fun ρ' _ => bk_nil rfl) PassesOwn.never sc_need_general.nd)
  obtain ⟨o, p, q, rfl⟩ := hI
  rw [hlen] at ha
  refine bk_cons (st_forR B (j := 2) (m := a) (ev_var 1) (by omega) (fun _ ρ => ∃ p q, ρ = [some (ptsT ps), some (.int (a : Int)), p, q]) ⟨p, q, rfl⟩ (fun b ρ' hb hI => ?_) (fun ρ' hI => ?_) PassesOwn.never sc_need_general.nd)
  · obtain ⟨p, q, rfl⟩ := hI
    refine bk_cons (st_forR B (j := 3) (m := b) (ev_var 2) (by omega) (fun _ ρ => ∃ q, ρ = [some (ptsT ps), some (.int (a : Int)), some (.int (b : Int)), q]) ⟨q, rfl⟩ (fun c ρ' hc hI => ?_) (fun ρ' hI => ?_) PassesOwn.never sc_need_general.nd)
    · obtain ⟨q, rfl⟩ := hI
      have ea := List.getElem?_eq_getElem (l := ps) (i := a) (by omega)
      have eb := List.getElem?_eq_getElem (l := ps) (i := b) (by omega)
      have ec := List.getElem?_eq_getElem (l := ps) (i := c) (by omega)
      refine bk_cons (st_if (p := false) ((et_eq hr (ev_call G2 hr (by decide) (ea_cons (ev_ixT (ev_var 0) (ev_var 1) (atI_map ea)) (ea_cons (ev_ixT (ev_var 0) (ev_var 2) (atI_map eb)) (ea_cons (ev_ixT (ev_var 0) (ev_var 3) (atI_map ec)) ea_nil)))
        ⟨_, _, _, (hp.all _ (List.mem_of_getElem? ea)).toPtOk, (hp.all _ (List.mem_of_getElem? eb)).toPtOk, (hp.all _ (List.mem_of_getElem? ec)).toPtOk, rfl, rfl⟩) ev_int (shaped_int _) (shaped_int _)).is ?_) (fun h => by cases h) fun _ => bk_nil (bk_nil ⟨_, rfl⟩))
      rw [eqv_int]
      refine decide_eq_false fun z => ?_
      have := hp.gen c b a _ _ _ hc hb ec eb ea
      unfold trn at z
      rcases sgn_cases (dbl ps[a] ps[b] ps[c]) with ⟨_, h⟩ | ⟨h, _⟩ | ⟨_, h⟩
      · omega
      · exact this h
      · omega
    · obtain ⟨q, rfl⟩ := hI
      exact bk_nil ⟨_, _, rfl⟩
  · obtain ⟨p, q, rfl⟩ := hI
    exact bk_nil ⟨_, _, _, rfl⟩
theorem ok_need_places (Fn : Fun K "need_places" "need_places" s_need_places f fd) (B : NoB mg) (C : Nums mg) (G1 : Callee P w K mg base "need_points" 3 F_need) (G2 : Callee P w K mg base "need_general" 4 F_need) : FnOk P w K mg base CX0 5 f fd ["points"] (spF K F_need) := by
  refine pure_ok Fn sc_need_places (fun ds r h => by obtain ⟨a, _, rfl, _⟩ := h; rfl) fun cdv A outer s H E hr ds r h => ?_
  obtain ⟨ps, hp, rfl, rfl⟩ := h
  obtain ⟨t, hM⟩ := C.pointed
  have hl := hp.lo; have hh := hp.hi
  have hlen : (ps.map pD).length = ps.length := List.length_map _
  refine bk_cons (st_expr (ev_call G1 hr (by decide) (ea_cons (ev_var 0) ea_nil) ⟨ps, hp, rfl, rfl⟩) ?_)
  refine bk_cons (st_if (p := false) ((et_lt (ev_lenT B (ev_var 0)) ev_int).is ?_) (fun h => by cases h) fun _ => bk_nil ?_)
  · rw [hlen]; exact decide_eq_false (by omega)
  refine bk_cons (st_if (p := false) ((et_gt (ev_lenT B (ev_var 0)) (ev_glob (by rfl) hM)).is ?_) (fun h => by cases h) fun _ => bk_nil ?_)
  · rw [hlen]; exact decide_eq_false (by omega)
  exact bk_cons (st_expr (ev_call G2 hr (by decide) (ea_cons (ev_var 0) ea_nil) ⟨ps, hp, rfl, rfl⟩) (bk_nil rfl))
end
end Q40
end

section
set_option maxRecDepth 100000
set_option maxHeartbeats 4000000
namespace Q40
open PySem PySem.Spec PyProof.Rows L2

/-! ### edges, by the signs of turns -/
abbrev Ed := Nat × Nat
def nD (n : Nat) : PyData := .int (n : Int)
def eD (e : Ed) : PyData := .tuple [.int (e.1 : Int), .int (e.2 : Int)]
abbrev Tau := Nat → Nat → Nat → Int
def tau (ps : List Pt) : Tau := fun i j k => trn (ps.getD i (0, 0, 1)) (ps.getD j (0, 0, 1)) (ps.getD k (0, 0, 1))
def crsT (t : Tau) (e f : Ed) : Bool := decide (t e.1 e.2 f.1 * t e.1 e.2 f.2 < 0 ∧ t f.1 f.2 e.1 * t f.1 f.2 e.2 < 0)
def endsT (es : List Ed) (i : Nat) : List Nat := (es.filter fun e => decide (e.1 = i) || decide (e.2 = i)).map fun e => if e.1 = i then e.2 else e.1
def pntT (t : Tau) (es : List Ed) (i : Nat) : Bool := decide ((endsT es i).length < 2) || (endsT es i).any fun j => ((endsT es i).filter fun k => !decide (k = j) && decide (t i j k < 0)).isEmpty
def canT (t : Tau) (es : List Ed) (e : Ed) : Bool := !decide (e ∈ es) && (es.filter fun o => crsT t o e).isEmpty && pntT t (es ++ [e]) e.1 && pntT t (es ++ [e]) e.2
def pairsN (n : Nat) : List Ed := (List.range n).flatMap fun i => (List.range (n - (i + 1))).map fun j => (i, i + 1 + j)
def outT (t : Tau) (n : Nat) (e : Ed) : Bool := ((List.range n).all fun k => decide (0 ≤ t e.1 e.2 k)) || ((List.range n).all fun k => decide (t e.1 e.2 k ≤ 0))
def exchT (t : Tau) (n : Nat) (es : List Ed) (e : Ed) : Option Ed := (pairsN n).find? fun o => !decide (o = e) && canT t (es.filter fun o => !decide (o = e)) o
structure PtsB (ps : List Pt) : Prop where
  all : ∀ p ∈ ps, PtOk p
  hi : ps.length ≤ 12
theorem PtsIn.b {ps : List Pt} (h : PtsIn ps) : PtsB ps := ⟨fun p hp => (h.all p hp).toPtOk, h.hi⟩
def EdIn (n : Nat) (e : Ed) : Prop := e.1 < n ∧ e.2 < n
theorem PtsB.at {ps : List Pt} (h : PtsB ps) {i : Nat} (hi : i < ps.length) : ps[i]? = some (ps.getD i (0, 0, 1)) ∧ PtOk (ps.getD i (0, 0, 1)) := by
  have e : ps[i]? = some ps[i] := List.getElem?_eq_getElem hi
  have e2 : ps.getD i (0, 0, 1) = ps[i] := by rw [List.getD_eq_getElem?_getD, e]; rfl
  rw [e2]
  exact ⟨e, h.all _ (List.getElem_mem hi)⟩
theorem eqv_eD (p q : Ed) : PyData.eqv (eD p) (eD q) = decide (p = q) := by
  obtain ⟨a, b⟩ := p
  obtain ⟨a', b'⟩ := q
  simp only [eD, PyData.eqv, PyData.eqvAll, Bool.and_true]
  rw [Bool.eq_iff_iff]
  simp only [Bool.and_eq_true, decide_eq_true_eq, Prod.mk.injEq, beq_iff_eq]
  omega
theorem shaped_eD (p : Ed) : SeqAt.shaped (eD p) = true := by
  show (PyData.canLay0 (eD p) && decide (PyData.depth (eD p) ≤ 64)) = true
  rw [Bool.and_eq_true]
  exact ⟨by simp [eD, PyData.canLay0, PyData.canLayAll0], decide_eq_true (by simp [eD, PyData.depth, PyData.depthAll])⟩
theorem shapes_eD : ∀ ps : List Ed, PyData.canLayAll0 (ps.map eD) = true ∧ PyData.depthAll (ps.map eD) ≤ 1
  | [] => by simp [PyData.canLayAll0, PyData.depthAll]
  | p :: ps => by
    obtain ⟨h1, h2⟩ := shapes_eD ps
    have h3 : (eD p).canLay0 = true := SeqAt.canLay_of_shaped (shaped_eD p)
    have h4 : (eD p).depth = 1 := by simp [eD, PyData.depth, PyData.depthAll]
    simp only [List.map_cons, PyData.canLayAll0, PyData.depthAll, h3, h1, Bool.and_self, true_and]
    omega
theorem shapedL_eD (ps : List Ed) : SeqAt.shaped (.list (ps.map eD)) = true := shaped_list (shapes_eD ps).1 (by have := (shapes_eD ps).2; omega)
theorem shapes_nD : ∀ ps : List Nat, PyData.canLayAll0 (ps.map nD) = true ∧ PyData.depthAll (ps.map nD) ≤ 1
  | [] => by simp [PyData.canLayAll0, PyData.depthAll]
  | p :: ps => by
    obtain ⟨h1, h2⟩ := shapes_nD ps
    have h3 : (nD p).canLay0 = true := SeqAt.canLay_of_shaped (shaped_int _)
    have h4 : (nD p).depth = 0 := by simp [nD, PyData.depth]
    simp only [List.map_cons, PyData.canLayAll0, PyData.depthAll, h3, h1, Bool.and_self, true_and]
    omega
theorem shapedL_nD (ps : List Nat) : SeqAt.shaped (.list (ps.map nD)) = true := shaped_list (shapes_nD ps).1 (by have := (shapes_nD ps).2; omega)
theorem any_eD (ps : List Ed) (p : Ed) : ((ps.map eD).any fun z => PyData.eqv z (eD p)) = decide (p ∈ ps) := by
  rw [Bool.eq_iff_iff, List.any_eq_true, decide_eq_true_eq]
  constructor
  · rintro ⟨z, hz, e⟩
    obtain ⟨q, hq, rfl⟩ := List.mem_map.mp hz
    rw [eqv_eD, decide_eq_true_eq] at e
    exact e ▸ hq
  · intro h
    exact ⟨eD p, List.mem_map.mpr ⟨p, h, rfl⟩, by rw [eqv_eD]; simp⟩
/-- a list beside [] -/
theorem eqv_nil {α : Type} (xs : List α) (f : α → PyData) : PyData.eqv (.list (xs.map f)) (.list []) = xs.isEmpty := by
  cases xs with
  | nil => simp [PyData.eqv, PyData.eqvAll]
  | cons x r => simp [PyData.eqv, PyData.eqvAll]
theorem lfree_eD (e : Ed) : lfree (eD e) = true := by simp [eD, lfree, lfreeAll]
theorem lfree_nD (n : Nat) : lfree (nD n) = true := by simp [nD, lfree]
theorem lfree_int (n : Int) : lfree (.int n) = true := by simp [lfree]

def F_cross : List PyData → PyData → Prop := fun ds r => ∃ (ps : List Pt) (e f : Ed), PtsB ps ∧ EdIn ps.length e ∧ EdIn ps.length f ∧ ds = [ptsT ps, eD e, eD f] ∧ r = .bool (crsT (tau ps) e f)
def F_ends : List PyData → PyData → Prop := fun ds r => ∃ (es : List Ed) (i : Nat), es.length ≤ 100 ∧ ds = [.list (es.map eD), nD i] ∧ r = .list ((endsT es i).map nD)
def F_pnt : List PyData → PyData → Prop := fun ds r => ∃ (ps : List Pt) (es : List Ed) (i : Nat), PtsB ps ∧ es.length ≤ 100 ∧ (∀ e ∈ es, EdIn ps.length e) ∧ i < ps.length ∧ ds = [ptsT ps, .list (es.map eD), nD i] ∧ r = .bool (pntT (tau ps) es i)
def F_can : List PyData → PyData → Prop := fun ds r => ∃ (ps : List Pt) (es : List Ed) (e : Ed), PtsB ps ∧ es.length ≤ 99 ∧ (∀ e ∈ es, EdIn ps.length e) ∧ EdIn ps.length e ∧ ds = [ptsT ps, .list (es.map eD), eD e] ∧ r = .bool (canT (tau ps) es e)
theorem endsT_in {es : List Ed} {i n k : Nat} (h : ∀ e ∈ es, EdIn n e) (hk : k ∈ endsT es i) : k < n := by
  unfold endsT at hk
  obtain ⟨e, he, rfl⟩ := List.mem_map.mp hk
  have := h e (List.mem_filter.mp he).1
  split
  · exact this.2
  · exact this.1
theorem endsT_len (es : List Ed) (i : Nat) : (endsT es i).length ≤ es.length := by
  unfold endsT
  rw [List.length_map]
  exact List.length_filter_le _ _
theorem Ev.nat {X : Cx} {e : Expr} {ρ : DEnv} {n : Nat} (h : Ev X e ρ (nD n)) : Ev X e ρ (.int (n : Int)) := h
section
variable {P : Program} {w : World} {K : PySem.W.Frag} {mg : Str → Option Value} {base : Heap} {f : Addr} {fd : FuncData}
theorem ok_cross (Fn : Fun K "cross" "cross" s_cross f fd) (G : Callee P w K mg base "is_crossing" 3 F_crs) : FnOk P w K mg base CX0 4 f fd ["points", "one", "other"] (spF K F_cross) := by
  refine pure_ok Fn sc_cross (fun ds r h => by obtain ⟨a, b, c, _, _, _, rfl, _⟩ := h; rfl) fun cdv A outer s H E hr ds r h => ?_
  obtain ⟨ps, e, f, hp, he, hf, rfl, rfl⟩ := h
  obtain ⟨a1, a2⟩ := hp.at he.1
  obtain ⟨b1, b2⟩ := hp.at he.2
  obtain ⟨c1, c2⟩ := hp.at hf.1
  obtain ⟨d1, d2⟩ := hp.at hf.2
  exact bk_cons (st_ret (ev_call G hr (by decide) (ea_cons (ev_ixT (ev_var 0) (ev_ixT (ev_var 1) ev_int) (atI_map a1)) (ea_cons (ev_ixT (ev_var 0) (ev_ixT (ev_var 1) ev_int) (atI_map b1)) (ea_cons (ev_ixT (ev_var 0) (ev_ixT (ev_var 2) ev_int) (atI_map c1)) (ea_cons (ev_ixT (ev_var 0) (ev_ixT (ev_var 2) ev_int) (atI_map d1)) ea_nil))))
    ⟨_, _, _, _, a2, b2, c2, d2, rfl, rfl⟩) rfl)
theorem ok_ends_at (Fn : Fun K "ends_at" "ends_at" s_ends_at f fd) (B : NoB mg) : FnOk P w K mg base CX0 1 f fd ["edges", "i"] (spF K F_ends) := by
  refine pure_ok Fn sc_ends_at (fun ds r h => by obtain ⟨a, b, _, rfl, _⟩ := h; rfl) fun cdv A outer s H E hr ds r h => ?_
  obtain ⟨es, i, hl, rfl, rfl⟩ := h
  refine bk_cons (st_ret (EvN.ev (en_lcL (own := [("a", 2), ("b", 3)]) (xs := es) (enc := eD) (fun e => decide (e.1 = i) || decide (e.2 = i)) (fun e => nD (if e.1 = i then e.2 else e.1)) (fun e => [some (.list (es.map eD)), some (nD i), some (.int (e.1 : Int)), some (.int (e.2 : Int))]) (ev_var 0)
    (fun e _ => tg_pair (j := 2) (l := 3) (by decide) (by decide)) (fun e _ _ _ _ _ _ => ets_one ((et_inT hr (ev_var 1) (ev_tup (ea_cons (ev_var 2) (ea_cons (ev_var 3) ea_nil))) (shaped_int _) (shaped_list ?_ ?_)).is ?_)) (fun e _ _ _ _ _ _ _ => Ev.evX (ev_if (et_eq hr (ev_var 2) (ev_var 1) (shaped_int _) (shaped_int _)) (fun h => ?_) (fun h => ?_)) (lfree_nD _)) (by omega)
    (fun _ _ _ _ _ => pg_tup rfl (pgs_cons (pg_name (i := 2) sc_ends_at.nd rfl (.inl rfl)) (pgs_cons (pg_name (i := 3) sc_ends_at.nd rfl (.inl rfl)) pgs_nil))) (blkOk_by (N := n_ends_at) (sc := defScope s_ends_at) (by decide +kernel)) sc_ends_at.nd)) ?_)
  · simp [PyData.canLayAll0, PyData.canLay0]
  · simp [PyData.depthAll, PyData.depth]
  · simp only [List.any_cons, List.any_nil, Bool.or_false, eqv_int]
    rw [Bool.eq_iff_iff]
    simp only [Bool.or_eq_true, decide_eq_true_eq]
    omega
  · refine (ev_var 3).is ?_
    rw [eqv_int, decide_eq_true_eq] at h
    rw [if_pos (by omega)]
    rfl
  · refine (ev_var 2).is ?_
    rw [eqv_int, decide_eq_false_iff_not] at h
    rw [if_neg (by omega)]
    rfl
  · show PyData.list _ = PyData.list _
    unfold endsT
    rw [List.map_map]
    rfl
theorem ok_is_pointed_at (Fn : Fun K "is_pointed_at" "is_pointed_at" s_is_pointed_at f fd) (B : NoB mg) (G1 : Callee P w K mg base "ends_at" 1 F_ends) (G2 : Callee P w K mg base "turn_of" 2 F_trn) : FnOk P w K mg base CX0 3 f fd ["points", "edges", "i"] (spF K F_pnt) := by
  refine pure_ok Fn sc_is_pointed_at (fun ds r h => by obtain ⟨a, b, c, _, _, _, _, rfl, _⟩ := h; rfl) fun cdv A outer s H E hr ds r h => ?_
  obtain ⟨ps, es, i, hp, hl, hes, hi, rfl, rfl⟩ := h
  refine bk_cons (st_set (i := 3) (ev_call G1 hr (by decide) (ea_cons (ev_var 1) (ea_cons (ev_var 2) ea_nil)) ⟨es, i, hl, rfl, rfl⟩) ?_ sc_is_pointed_at.nd)
  have hol := endsT_len es i
  have hin : ∀ k ∈ endsT es i, k < ps.length := fun k hk => endsT_in hes hk
  generalize ho : endsT es i = o at hol hin ⊢
  have hlen : (o.map nD).length = o.length := List.length_map _
  refine bk_cons (st_if (et_lt (ev_lenL B (ev_var 3)) ev_int) (fun h => ?_) (fun h => bk_nil ?_))
  · refine bk_cons (st_ret ev_bl ?_)
    rw [hlen, decide_eq_true_eq] at h
    show PyData.bool true = PyData.bool _
    unfold pntT
    rw [ho, decide_eq_true (show o.length < 2 by omega)]
    rfl
  rw [hlen, decide_eq_false_iff_not] at h
  refine bk_cons (st_forLm (xs := o) (enc := nD) (j := 4) (ev_var 3) (fun m ρ => (∀ j ∈ o.take m, (o.filter fun k => !decide (k = j) && decide (tau ps i j k < 0)).isEmpty = false) ∧ ∃ u, ρ = [some (ptsT ps), some (.list (es.map eD)), some (nD i), some (.list (o.map nD)), u, none])
    ⟨fun j hj => (by cases hj), none, rfl⟩ (fun m j ρ' hm hI => ?_) (fun ρ' hI => ?_) PassesOwn.never sc_is_pointed_at.nd)
  · obtain ⟨hI, u, rfl⟩ := hI
    have hj := hin j (List.mem_of_getElem? hm)
    obtain ⟨a1, a2⟩ := hp.at hi
    obtain ⟨b1, b2⟩ := hp.at hj
    refine bk_cons (st_if (et_eq hr (EvN.ev (en_lcL (own := [("k", 5)]) (xs := o) (enc := nD) (fun k => !decide (k = j) && decide (tau ps i j k < 0)) nD (fun k => [some (ptsT ps), some (.list (es.map eD)), some (nD i), some (.list (o.map nD)), some (nD j), some (nD k)]) (ev_var 3)
      (fun k _ => tg_name (by decide)) (fun k hk _ _ _ _ _ => ets_one (et_w (ew_and ((et_ne hr (ev_var 5) (ev_var 4) (shaped_int _) (shaped_int _)).is ?_) fun _ => ew_and1 (et_lt (ev_call G2 hr (by decide) (ea_cons (ev_ixT (ev_var 0) (ev_var 2) (atI_map a1)) (ea_cons (ev_ixT (ev_var 0) (ev_var 4) (atI_map b1)) (ea_cons (ev_ixT (ev_var 0) (ev_var 5) (atI_map (hp.at (hin k hk)).1)) ea_nil)))
        ⟨_, _, _, a2, b2, (hp.at (hin k hk)).2, rfl, rfl⟩) ev_int)))) (fun k _ _ _ _ _ _ _ => Ev.evX (ev_var 5) (lfree_nD _)) (by omega)
      (fun _ _ _ _ _ => pg_name (i := 5) sc_is_pointed_at.nd rfl (.inl rfl)) (blkOk_by (N := n_is_pointed_at) (sc := defScope s_is_pointed_at) (by decide +kernel)) sc_is_pointed_at.nd)) (ev_lst ea_nil) (shapedL_nD _) (shapedL_nD [])) (fun h => ?_) (fun h => bk_nil (bk_nil ?_)))
    · rw [eqv_int]
      congr 1
      rw [decide_eq_decide]
      omega
    · refine bk_cons (st_ret ev_bl ?_)
      rw [eqv_nil] at h
      show PyData.bool true = PyData.bool _
      unfold pntT
      rw [ho, Eq.comm]
      congr 1
      rw [Bool.or_eq_true, List.any_eq_true]
      exact .inr ⟨j, List.mem_of_getElem? hm, h⟩
    · rw [eqv_nil] at h
      refine ⟨fun j' hj' => ?_, _, rfl⟩
      rw [List.take_add_one, hm] at hj'
      rcases List.mem_append.mp hj' with z | z
      · exact hI j' z
      · have e : j' = j := by simpa using z
        rw [e]
        exact h
  · obtain ⟨hI, u, rfl⟩ := hI
    rw [List.take_length] at hI
    refine bk_cons (st_ret ev_bl ?_)
    show PyData.bool false = PyData.bool _
    unfold pntT
    rw [ho, Eq.comm]
    congr 1
    rw [Bool.or_eq_false_iff]
    refine ⟨decide_eq_false (by omega), ?_⟩
    rw [List.any_eq_false]
    intro j hj z
    rw [hI j hj] at z
    cases z
theorem ok_can_have (Fn : Fun K "can_have" "can_have" s_can_have f fd) (B : NoB mg) (G1 : Callee P w K mg base "cross" 4 F_cross) (G2 : Callee P w K mg base "is_pointed_at" 3 F_pnt) : FnOk P w K mg base CX0 5 f fd ["points", "edges", "edge"] (spF K F_can) := by
  refine pure_ok Fn sc_can_have (fun ds r h => by obtain ⟨a, b, c, _, _, _, _, rfl, _⟩ := h; rfl) fun cdv A outer s H E hr ds r h => ?_
  obtain ⟨ps, es, e, hp, hl, hes, he, rfl, rfl⟩ := h
  have hlen : (es.map eD).length = es.length := List.length_map _
  refine bk_cons (st_if (et_w (ew_or ((et_inL hr (ev_var 2) (ev_var 1) (shaped_eD e) (shapedL_eD es)).is (any_eD es e)) fun _ => ew_or1 (et_ne hr (EvN.ev (en_lcL (own := [("one", 3)]) (xs := es) (enc := eD) (fun o => crsT (tau ps) o e) eD (fun o => [some (ptsT ps), some (.list (es.map eD)), some (eD e), some (eD o), none]) (ev_var 1)
      (fun k _ => tg_name (by decide)) (fun k hk _ _ _ _ _ => ets_one (et_val (ev_call G1 hr (by decide) (ea_cons (ev_var 0) (ea_cons (ev_var 3) (ea_cons (ev_var 2) ea_nil))) ⟨ps, k, e, hp, hes k hk, he, rfl, rfl⟩))) (fun k _ _ _ _ _ _ _ => Ev.evX (ev_var 3) (lfree_eD _)) (by omega)
      (fun _ _ _ _ _ => pg_name (i := 3) sc_can_have.nd rfl (.inl rfl)) (blkOk_by (N := n_can_have) (sc := defScope s_can_have) (by decide +kernel)) sc_can_have.nd)) (ev_lst ea_nil) (shapedL_eD _) (shapedL_eD [])))) (fun h => ?_) (fun h => bk_nil ?_))
  · refine bk_cons (st_ret ev_bl ?_)
    rw [eqv_nil] at h
    show PyData.bool false = PyData.bool _
    unfold canT
    congr 1
    cases h1 : decide (e ∈ es) with
    | true => rfl
    | false =>
      rw [h1] at h
      have h2 : (es.filter fun o => crsT (tau ps) o e).isEmpty = false := by
        cases q : (es.filter fun o => crsT (tau ps) o e).isEmpty with
        | false => rfl
        | true => rw [q] at h; cases h
      rw [h2]
      rfl
  · rw [eqv_nil, Bool.or_eq_false_iff] at h
    obtain ⟨h1, h2⟩ := h
    have h3 : (es.filter fun o => crsT (tau ps) o e).isEmpty = true := by
      cases q : (es.filter fun o => crsT (tau ps) o e).isEmpty with
      | true => rfl
      | false => rw [q] at h2; cases h2
    have hall : ∀ o ∈ es ++ [e], EdIn ps.length o := fun o ho => by
      rcases List.mem_append.mp ho with z | z
      · exact hes o z
      · have q : o = e := by simpa using z
        rw [q]; exact he
    refine bk_cons (st_set (i := 4) ((ev_catL (ev_listL B (ev_var 1)) (ev_lst (ea_cons (ev_var 2) ea_nil)) (by rw [hlen]; exact Nat.le_of_lt (small1000 (by show es.length + 1 ≤ 1000; omega)))).is (d' := .list ((es ++ [e]).map eD)) (by rw [List.map_append]; rfl)) ?_ sc_can_have.nd)
    refine bk_cons (st_ret (ev_and (ev_call G2 hr (by decide) (ea_cons (ev_var 0) (ea_cons (ev_var 4) (ea_cons (ev_ixT (ev_var 2) ev_int) ea_nil))) ⟨ps, es ++ [e], e.1, hp, by rw [List.length_append]; show es.length + 1 ≤ 100; omega, hall, he.1, rfl, rfl⟩) fun _ =>
      ev_one (ev_call G2 hr (by decide) (ea_cons (ev_var 0) (ea_cons (ev_var 4) (ea_cons (ev_ixT (ev_var 2) ev_int) ea_nil))) ⟨ps, es ++ [e], e.2, hp, by rw [List.length_append]; show es.length + 1 ≤ 100; omega, hall, he.2, rfl, rfl⟩)) ?_)
    show PyData.bool _ = PyData.bool _
    unfold canT
    rw [h1, h3]
    rfl
end
end Q40
end

section
set_option maxRecDepth 100000
set_option maxHeartbeats 4000000
namespace Q40
open PySem PySem.Spec PyProof.Rows L2

/-! ### [elt for x in range(m) for y in range(a, b)] -/
def ABlk (X : Cx) (scope : Scope) (es : List Expr) : TA := fun σ H Q => ∀ (s : Shared) (H0 : Hp) (C : Addr) (cl : List (Str × Addr)) (fp : List Addr), AAt (X.blk s H0 scope (compEnvC scope cl C X.env) fp) es σ H Q
theorem yes_of {G : Bool → Hp → Prop} {σ : L2.St} {H : Hp} (h : G true H) : tYes σ H G := h
theorem ablk {X : Cx} {scope : Scope} {es : List Expr} (s : Shared) (H : Hp) (C : Addr) (cl : List (Str × Addr)) (fp : List Addr) : PA (X.blk s H scope (compEnvC scope cl C X.env) fp) es (ABlk X scope es) := ⟨fun pos pins s' _ _ _ I h => h s H C cl fp pos pins s' I⟩
section
variable {X : Cx} {ρ : DEnv} {scope : Scope} {elt : Expr} {own : List (Str × Nat)} {pos : Pos}
theorem en_lc2R {a a1 b1 : Expr} {n1 n2 : Str} {i1 i2 : Nat} {m : Nat} {pr p2 pr1 p21 pt1 pt2 : Pos} (lo : Nat → Int) (cnt : Nat → Nat) (f : Nat → Nat → PyData) (B : NoB X.mg) (hi : Ev X a ρ (.int (m : Int)))
    (h1 : ∀ i, i < m → ∀ (s : Shared) (H0 : Hp) (C : Addr) (cl : List (Str × Addr)) (fp : List Addr), EvA (X.blk s H0 scope (compEnvC scope cl C X.env) fp) [a1, b1] ((wipeD ρ (own.map (·.2))).set i1 (some (.int (i : Int)))) [.int (lo i), .int (m : Int)])
    (hc1 : ∀ i, i < m → ((m : Int) - lo i).toNat = cnt i) (hl : ∀ i, i < m → 0 ≤ lo i ∧ lo i ≤ 1000)
    (he : ∀ i j, i < m → j < cnt i → EvXB X scope elt ((wipeD ((wipeD ρ (own.map (·.2))).set i1 (some (.int (i : Int)))) [i2]).set i2 (some (.int (lo i + (j : Int))))) (f i j)) (hz : m ≤ 30) (hz2 : ∀ i, cnt i ≤ m)
    (m1 : i1 ∈ own.map (·.2)) (m2 : i2 ∈ own.map (·.2)) (hg : PGB X scope (.Name n1 pt1) (gName i1)) (hg1 : PGB X scope (.Name n2 pt2) (gName i2)) (ok : BlkOk X.N X.env.scope scope own) (hN : X.N.Nodup)
    (hcalm : X.calm = true := by rfl) (hgr : Gl X "range" := by rfl) (hgr1 : ∀ (C : Addr) (cl : List (Str × Addr)), (compEnvC scope cl C X.env).kindOf "range" = some .globalImplicit := by intro _ _; rfl)
    (hst : starEach [a] X.env = [(false, eval a X.env)] := by rfl) (hst1 : ∀ env, starEach [a1, b1] env = [(false, eval a1 env), (false, eval b1 env)] := by intro _; rfl) (hst2 : ∀ env, starEach [b1] env = [(false, eval b1 env)] := by intro _; rfl)
    (hs : ∀ x, foldedSetIterable (.Call (.Name "range" pr) [a] [] p2) X.env x = pure x := by intro _; rfl) (hs1 : ∀ env x, foldedSetIterable (.Call (.Name "range" pr1) [a1, b1] [] p21) env x = pure x := by intro _ _; rfl) :
    EvN X (.ListComp elt [⟨.Name n1 pt1, .Call (.Name "range" pr) [a] [] p2, [], 0⟩, ⟨.Name n2 pt2, .Call (.Name "range" pr1) [a1, b1] [] p21, [], 0⟩] scope pos) ρ ((List.range m).flatMap fun i => (List.range (cnt i)).map (f i)) := fun σ H E Q q => by
  refine EAt.of (pe_lc2 (wi1 := iRng2 (ABlk X scope [a1, b1])) (g := gName i1) (g1 := gName i2) (tt := tYes) (tt1 := tYes) (vs1 := [i2]) hcalm hN (pi_range1 hgr B.range aat hst) ok (fun i h => by simp at h; rw [h]; exact m2) hg (fun _ _ _ _ _ => pts_nil) (fun s H0 C cl fp => pi_range2 (hgr1 C cl) B.range (ablk s H0 C cl fp) (hst1 _) (hst2 _)) hg1 (fun _ _ _ _ _ => pts_nil) eblk hs hs1) ?_
  refine (ea_cons hi ea_nil hst) σ H E _ fun us H1 s1 d1 => ?_
  obtain ⟨v, rfl, d2⟩ := dps1 d1
  cases dp_int d2
  refine ⟨(m : Int), rfl, by omega, by omega, fun D hD => ?_⟩
  rw [show ((m : Int)).toNat = m by omega]
  have E1 := E.same s1
  have hpart : ∀ k, k ≤ m → ((List.range k).flatMap fun i => (List.range (cnt i)).map (f i)).length ≤ k * m := by
    intro k
    induction k with
    | zero => intro _; simp
    | succ k ih =>
      intro hk
      rw [List.range_succ, List.flatMap_append, List.length_append]
      have e1 := ih (by omega)
      have e2 := hz2 k
      simp only [List.flatMap_cons, List.flatMap_nil, List.append_nil, List.length_map, List.length_range]
      have e3 : (k + 1) * m = k * m + m := Nat.succ_mul k m
      omega
  refine ⟨fun i k H' => i + k = m ∧ Same H1 H' ∧ ∃ acc, H' D = some (.lst acc) ∧ DpAll X.K (del H' D) acc ((List.range i).flatMap fun i => (List.range (cnt i)).map (f i)), ⟨m, by omega, same_upd hD, [], upd_same, .nil⟩, fun i k H' hW => ?_⟩
  obtain ⟨hk, s2, acc, a1', a2'⟩ := hW
  by_cases him : i < m
  · refine .inr ⟨him, fun H2 => Same H1 H2 ∧ ∃ acc, H2 D = some (.lst acc) ∧ DpAll X.K (del H2 D) acc ((List.range (i + 1)).flatMap fun i => (List.range (cnt i)).map (f i)), fun H2 z => ⟨k - 1, by omega, by omega, z⟩, fun x H2 hy => ?_⟩
    obtain ⟨rfl, rfl⟩ := hy
    rw [Int.zero_add]
    refine ⟨?_, ?_⟩
    · show wipe ((wipe σ (own.map (·.2))).set i1 (some (V.int (i : Int)))) _ = _
      rw [wipe_set _ m1, wipe_wipe]
    · refine yes_of ?_
      rw [if_pos rfl]
      have E2 : EnvD X.K H2 ((wipe σ (own.map (·.2))).set i1 (some (V.int (i : Int)))) ((wipeD ρ (own.map (·.2))).set i1 (some (.int (i : Int)))) := ((E1.same s2).wipe _).set (.int _)
      intro s0 H0 C cl fp
      refine h1 i him s0 H0 C cl fp _ H2 E2 _ fun us H3 s3 d3 => ?_
      obtain ⟨u, u', rfl, d4, d5⟩ := dps2 d3
      cases dp_int d4
      cases dp_int d5
      have hb := hl i him
      refine ⟨lo i, (m : Int), rfl, ⟨by omega, by omega, by omega, by omega⟩, ?_⟩
      rw [hc1 i him]
      refine ⟨fun j k H' => j + k = cnt i ∧ Same H1 H' ∧ ∃ acc, H' D = some (.lst acc) ∧ DpAll X.K (del H' D) acc (((List.range i).flatMap fun i => (List.range (cnt i)).map (f i)) ++ (List.range j).map (f i)),
        ⟨cnt i, by omega, s2.trans s3, acc, s3 _ _ a1', by rw [List.range_zero, List.map_nil, List.append_nil]; exact dps_same (same_del2 s3) _ _ a2'⟩, fun j k2 H4 hW => ?_⟩
      obtain ⟨hk2, s4, acc2, b1', b2'⟩ := hW
      by_cases hj : j < cnt i
      · refine .inr ⟨hj, fun H5 => Same H1 H5 ∧ ∃ acc, H5 D = some (.lst acc) ∧ DpAll X.K (del H5 D) acc (((List.range i).flatMap fun i => (List.range (cnt i)).map (f i)) ++ (List.range (j + 1)).map (f i)), fun H5 z => ⟨k2 - 1, by omega, by omega, z⟩, fun x H5 hy => ?_⟩
        obtain ⟨rfl, rfl⟩ := hy
        refine ⟨?_, ?_⟩
        · show wipe ((wipe _ [i2]).set i2 _) [i2] = _
          rw [wipe_set _ (List.mem_singleton.mpr rfl), wipe_wipe]
        · refine yes_of ?_
          rw [if_pos rfl]
          intro s0 H0 C cl fp
          have E5 : EnvD X.K H5 ((wipe ((wipe σ (own.map (·.2))).set i1 (some (V.int (i : Int)))) [i2]).set i2 (some (V.int (lo i + (j : Int))))) ((wipeD ((wipeD ρ (own.map (·.2))).set i1 (some (.int (i : Int)))) [i2]).set i2 (some (.int (lo i + (j : Int))))) :=
            ((((E1.same s4).wipe _).set (.int _)).wipe _).set (.int _)
          refine he i j him hj s0 H0 C cl fp _ H5 E5 D acc2 b1' _ fun y H6 s6 hy => ?_
          refine ⟨acc2, s6 _ _ b1', ?_, same_mut (s4.trans s6) hD, acc2 ++ [y], upd_same, ?_⟩
          · refine small1000 ?_
            rw [dps_len b2', List.length_append, List.length_map, List.length_range]
            have e1 := hpart i (by omega)
            have e2 := hz2 i
            have e3 : i * m ≤ 29 * 30 := Nat.mul_le_mul (by omega) hz
            omega
          · rw [List.range_succ, List.map_append, ← List.append_assoc]
            exact dps_app (dps_same same_del_upd _ _ (dps_same (same_del2 s6) _ _ b2')) (dps_one (dp_same same_del_upd _ _ hy))
      · refine .inl ⟨by show cnt i ≤ j; omega, s4, acc2, b1', ?_⟩
        have ej : j = cnt i := by omega
        rw [List.range_succ, List.flatMap_append]
        simp only [List.flatMap_cons, List.flatMap_nil, List.append_nil]
        rw [ej] at b2'
        exact b2'
  · refine .inl ⟨by show m ≤ i; omega, ?_⟩
    have ei : i = m := by omega
    rw [ei] at a2'
    exact q D acc H' (s1.free hD) (s1.trans s2) a1' a2'
end

def F_pairs : List PyData → PyData → Prop := fun ds r => ∃ n : Nat, n ≤ 30 ∧ ds = [nD n] ∧ r = .list ((pairsN n).map eD)
def F_out : List PyData → PyData → Prop := fun ds r => ∃ (ps : List Pt) (e : Ed), PtsB ps ∧ 0 < ps.length ∧ EdIn ps.length e ∧ ds = [ptsT ps, eD e] ∧ r = .bool (outT (tau ps) ps.length e)
def F_exch : List PyData → PyData → Prop := fun ds r => ∃ (ps : List Pt) (es : List Ed) (e : Ed), PtsB ps ∧ es.length ≤ 99 ∧ (∀ o ∈ es, EdIn ps.length o) ∧ ds = [ptsT ps, .tuple (es.map eD), eD e] ∧ r = (match exchT (tau ps) ps.length es e with | some o => eD o | none => .none)
theorem pairsN_in {n : Nat} {e : Ed} (h : e ∈ pairsN n) : EdIn n e := by
  unfold pairsN at h
  obtain ⟨i, hi, h⟩ := List.mem_flatMap.mp h
  obtain ⟨j, hj, rfl⟩ := List.mem_map.mp h
  have a := List.mem_range.mp hi
  have b := List.mem_range.mp hj
  exact ⟨a, by show i + 1 + j < n; omega⟩
theorem least_of : ∀ (ns : List Int), 0 < ns.length → ∃ m ∈ ns, ∀ y ∈ ns, m ≤ y
  | [x], _ => ⟨x, List.mem_singleton.mpr rfl, fun y hy => by rw [List.mem_singleton.mp hy]; exact Int.le_refl _⟩
  | x :: z :: r, _ => by
    obtain ⟨m, hm, hl⟩ := least_of (z :: r) (by simp)
    by_cases h : x ≤ m
    · exact ⟨x, List.mem_cons_self, fun y hy => by
        rcases List.mem_cons.mp hy with rfl | hy
        · exact Int.le_refl _
        · exact Int.le_trans h (hl y hy)⟩
    · exact ⟨m, List.mem_cons_of_mem _ hm, fun y hy => by
        rcases List.mem_cons.mp hy with rfl | hy
        · omega
        · exact hl y hy⟩
theorem most_of (ns : List Int) (h : 0 < ns.length) : ∃ m ∈ ns, ∀ y ∈ ns, y ≤ m := by
  obtain ⟨m, hm, hl⟩ := least_of (ns.map fun x => -x) (by rw [List.length_map]; exact h)
  obtain ⟨x, hx, rfl⟩ := List.mem_map.mp hm
  refine ⟨x, hx, fun y hy => ?_⟩
  have := hl (-y) (List.mem_map.mpr ⟨y, hy, rfl⟩)
  omega
section
variable {P : Program} {w : World} {K : PySem.W.Frag} {mg : Str → Option Value} {base : Heap} {f : Addr} {fd : FuncData}
theorem ok_pairs_of (Fn : Fun K "pairs_of" "pairs_of" s_pairs_of f fd) (B : NoB mg) : FnOk P w K mg base CX0 1 f fd ["many"] (spF K F_pairs) := by
  refine pure_ok Fn sc_pairs_of (fun ds r h => by obtain ⟨a, _, rfl, _⟩ := h; rfl) fun cdv A outer s H E hr ds r h => ?_
  obtain ⟨n, hn, rfl, rfl⟩ := h
  refine bk_cons (st_ret (EvN.ev (en_lc2R (own := [("i", 1), ("j", 2)]) (i1 := 1) (i2 := 2) (m := n) (fun i => (i : Int) + 1) (fun i => n - (i + 1)) (fun i j => .tuple [.int (i : Int), .int ((i : Int) + 1 + (j : Int))]) B (ev_var 0)
    (fun i _ _ _ _ _ _ => ea_cons (ev_add (ev_var 1) ev_int) (ea_cons (ev_var 0) ea_nil)) (fun i h => by omega) (fun i h => by omega) (fun i j _ _ _ _ _ _ _ => Ev.evX (ev_tup (ea_cons (ev_var 1) (ea_cons (ev_var 2) ea_nil))) (by simp [lfree, lfreeAll])) hn (fun i => Nat.sub_le _ _)
    (by decide) (by decide) (fun _ _ _ _ _ => pg_name (i := 1) sc_pairs_of.nd rfl (.inl rfl)) (fun _ _ _ _ _ => pg_name (i := 2) sc_pairs_of.nd rfl (.inl rfl)) (blkOk_by (N := n_pairs_of) (sc := defScope s_pairs_of) (by decide +kernel)) sc_pairs_of.nd)) ?_)
  show PyData.list _ = PyData.list _
  unfold pairsN
  rw [List.map_flatMap]
  congr 1
  congr 1
  funext i
  rw [List.map_map]
  refine List.map_congr_left fun j _ => ?_
  show PyData.tuple [.int (i : Int), .int ((i : Int) + 1 + (j : Int))] = PyData.tuple [.int (i : Int), .int (((i + 1 + j : Nat)) : Int)]
  rw [show (((i + 1 + j : Nat)) : Int) = (i : Int) + 1 + (j : Int) by omega]
theorem ok_is_outer (Fn : Fun K "is_outer" "is_outer" s_is_outer f fd) (B : NoB mg) (G : Callee P w K mg base "turn_of" 2 F_trn) : FnOk P w K mg base CX0 3 f fd ["points", "edge"] (spF K F_out) := by
  refine pure_ok Fn sc_is_outer (fun ds r h => by obtain ⟨a, b, _, _, _, rfl, _⟩ := h; rfl) fun cdv A outer s H E hr ds r h => ?_
  obtain ⟨ps, e, hp, h0, he, rfl, rfl⟩ := h
  have hhi := hp.hi
  obtain ⟨a1, a2⟩ := hp.at he.1
  obtain ⟨b1, b2⟩ := hp.at he.2
  refine bk_cons (st_lcT (i := 2) (own := [("p", 3)]) (xs := ps) (enc := pD) (fun _ => true) (fun p => .int (trn (ps.getD e.1 (0, 0, 1)) (ps.getD e.2 (0, 0, 1)) p)) (fun p => [some (ptsT ps), some (eD e), none, some (pD p)]) (ev_var 0)
    (fun p _ => tg_name (by decide)) (fun p _ _ _ _ _ _ => ets_nil) (fun p hpp _ _ _ _ _ _ => Ev.evX (ev_call G hr (by decide) (ea_cons (ev_ixT (ev_var 0) (ev_ixT (ev_var 1) ev_int) (atI_map a1)) (ea_cons (ev_ixT (ev_var 0) (ev_ixT (ev_var 1) ev_int) (atI_map b1)) (ea_cons (ev_var 3) ea_nil))) ⟨_, _, _, a2, b2, hp.all p hpp, rfl, rfl⟩) (lfree_int _)) (by omega)
    ?_ (fun _ _ _ _ _ => pg_name (i := 3) sc_is_outer.nd rfl (.inl rfl)) (blkOk_by (N := n_is_outer) (sc := defScope s_is_outer) (by decide +kernel)) (sw_true rfl rfl rfl (by decide +kernel)) sc_is_outer.nd)
  have e1 : (ps.filter fun _ => true) = ps := List.filter_eq_self.mpr fun _ _ => rfl
  have e2 : ps.map (fun p => PyData.int (trn (ps.getD e.1 (0, 0, 1)) (ps.getD e.2 (0, 0, 1)) p)) = (ps.map fun p => trn (ps.getD e.1 (0, 0, 1)) (ps.getD e.2 (0, 0, 1)) p).map PyData.int := by rw [List.map_map]; rfl
  rw [e1, e2]
  generalize hns : (ps.map fun p => trn (ps.getD e.1 (0, 0, 1)) (ps.getD e.2 (0, 0, 1)) p) = ns
  have hl : ns.length = ps.length := by rw [← hns, List.length_map]
  have hget : ∀ k, k < ps.length → tau ps e.1 e.2 k ∈ ns := fun k hk => by
    rw [← hns]
    exact List.mem_map.mpr ⟨ps.getD k (0, 0, 1), List.mem_of_getElem? (hp.at hk).1, rfl⟩
  have hmem : ∀ y ∈ ns, ∃ k, k < ps.length ∧ y = tau ps e.1 e.2 k := fun y hy => by
    rw [← hns] at hy
    obtain ⟨p, hpm, rfl⟩ := List.mem_map.mp hy
    obtain ⟨k, hk, rfl⟩ := List.getElem_of_mem hpm
    refine ⟨k, hk, ?_⟩
    unfold tau
    rw [show ps.getD k (0, 0, 1) = ps[k] by rw [List.getD_eq_getElem?_getD, List.getElem?_eq_getElem hk]; rfl]
  obtain ⟨mn, m1, m2⟩ := least_of ns (by omega)
  obtain ⟨mx, x1, x2⟩ := most_of ns (by omega)
  refine bk_cons (st_ret (ev_or (ev_ge (ev_minI B rfl (ev_var 2) (by omega) mn m1 m2) ev_int) fun _ => ev_one (ev_le (ev_maxI B rfl (ev_var 2) (by omega) mx x1 x2) ev_int)) ?_)
  show PyData.bool _ = PyData.bool _
  unfold outT
  congr 1
  congr 1
  · rw [Bool.eq_iff_iff, decide_eq_true_eq, List.all_eq_true]
    constructor
    · intro h k hk
      have := m2 _ (hget k (List.mem_range.mp hk))
      exact decide_eq_true (by omega)
    · intro h
      obtain ⟨k, hk, rfl⟩ := hmem mn m1
      exact of_decide_eq_true (h k (List.mem_range.mpr hk))
  · rw [Bool.eq_iff_iff, decide_eq_true_eq, List.all_eq_true]
    constructor
    · intro h k hk
      have := x2 _ (hget k (List.mem_range.mp hk))
      exact decide_eq_true (by omega)
    · intro h
      obtain ⟨k, hk, rfl⟩ := hmem mx x1
      exact of_decide_eq_true (h k (List.mem_range.mpr hk))
theorem ok_exchanged (Fn : Fun K "exchanged" "exchanged" s_exchanged f fd) (B : NoB mg) (G1 : Callee P w K mg base "pairs_of" 1 F_pairs) (G2 : Callee P w K mg base "can_have" 5 F_can) : FnOk P w K mg base CX0 6 f fd ["points", "edges", "edge"] (spF K F_exch) := by
  refine pure_ok Fn sc_exchanged (fun ds r h => by obtain ⟨a, b, c, _, _, _, rfl, _⟩ := h; rfl) fun cdv A outer s H E hr ds r h => ?_
  obtain ⟨ps, es, e, hp, hl, hes, rfl, rfl⟩ := h
  have hhi := hp.hi
  have hlen : (ps.map pD).length = ps.length := List.length_map _
  refine bk_cons (st_lcT (i := 3) (own := [("one", 4)]) (xs := es) (enc := eD) (fun o => !decide (o = e)) eD (fun o => [some (ptsT ps), some (.tuple (es.map eD)), some (eD e), none, some (eD o), none]) (ev_var 1)
    (fun p _ => tg_name (by decide)) (fun o _ _ _ _ _ _ => ets_one ((et_ne hr (ev_var 4) (ev_var 2) (shaped_eD _) (shaped_eD _)).is (by rw [eqv_eD]))) (fun p hpp _ _ _ _ _ _ => Ev.evX (ev_var 4) (lfree_eD _)) (by omega)
    ?_ (fun _ _ _ _ _ => pg_name (i := 4) sc_exchanged.nd rfl (.inl rfl)) (blkOk_by (N := n_exchanged) (sc := defScope s_exchanged) (by decide +kernel)) (sw_true rfl rfl rfl (by decide +kernel)) sc_exchanged.nd)
  generalize hrest : (es.filter fun o => !decide (o = e)) = rest
  have hrl : rest.length ≤ 99 := by rw [← hrest]; exact Nat.le_trans (List.length_filter_le _ _) hl
  have hre : ∀ o ∈ rest, EdIn ps.length o := fun o ho => by rw [← hrest] at ho; exact hes o (List.mem_filter.mp ho).1
  refine bk_cons (st_forLm (xs := pairsN ps.length) (enc := eD) (j := 5) (ev_call G1 hr (by decide) (ea_cons ((ev_lenT B (ev_var 0)).is (d' := nD ps.length) (by rw [hlen]; rfl)) ea_nil) ⟨ps.length, by omega, rfl, rfl⟩)
    (fun m ρ => (∀ o ∈ (pairsN ps.length).take m, (!decide (o = e) && canT (tau ps) rest o) = false) ∧ ∃ u, ρ = [some (ptsT ps), some (.tuple (es.map eD)), some (eD e), some (.list (rest.map eD)), none, u])
    ⟨fun o ho => (by cases ho), none, rfl⟩ (fun m o ρ' hm hI => ?_) (fun ρ' hI => ?_) PassesOwn.never sc_exchanged.nd)
  · obtain ⟨hI, u, rfl⟩ := hI
    have ho := pairsN_in (List.mem_of_getElem? hm)
    refine bk_cons (st_if (et_w (ew_and ((et_ne hr (ev_var 5) (ev_var 2) (shaped_eD _) (shaped_eD _)).is (by rw [eqv_eD])) fun _ => ew_and1 (et_val (ev_call G2 hr (by decide) (ea_cons (ev_var 0) (ea_cons (ev_var 3) (ea_cons (ev_var 5) ea_nil))) ⟨ps, rest, o, hp, hrl, hre, ho, rfl, rfl⟩)))) (fun h => ?_) (fun h => bk_nil (bk_nil ?_)))
    · refine bk_cons (st_ret (ev_var 5) ?_)
      have : exchT (tau ps) ps.length es e = some o := by
        unfold exchT
        rw [hrest, List.find?_eq_some_iff_getElem]
        obtain ⟨hlt, hge⟩ := List.getElem?_eq_some_iff.mp hm
        refine ⟨h, m, hlt, hge, fun j hj => ?_⟩
        have := hI (pairsN ps.length)[j] (List.mem_of_getElem? (i := j) (by rw [List.getElem?_take_of_lt hj]; exact List.getElem?_eq_getElem (by omega)))
        rw [this]
        rfl
      show eD o = _
      rw [this]
    · refine ⟨fun o' ho' => ?_, _, rfl⟩
      rw [List.take_add_one, hm] at ho'
      rcases List.mem_append.mp ho' with z | z
      · exact hI o' z
      · have q : o' = o := by simpa using z
        rw [q]
        exact h
  · obtain ⟨hI, u, rfl⟩ := hI
    rw [List.take_length] at hI
    refine bk_cons (st_ret ev_non ?_)
    have : exchT (tau ps) ps.length es e = none := by
      unfold exchT
      rw [hrest, List.find?_eq_none]
      intro o ho z
      rw [hI o ho] at z
      cases z
    show PyData.none = _
    rw [this]
end
end Q40
end

section
set_option maxRecDepth 100000
set_option maxHeartbeats 4000000
namespace Q40
open PySem PySem.Spec PyProof.Rows L2

/-! ### the law's ratios -/
def gsg (g : Nat) (d : Int) : Int := if d < 0 then 0 - (g : Int) else (g : Int)
def rat (n d : Int) : Int × Int := (n / gsg (Int.gcd n d) d, d / gsg (Int.gcd n d) d)
def low (x y w : Int) : Pt := (x / gsg (Int.gcd (Int.gcd x y : Int) w) w, y / gsg (Int.gcd (Int.gcd x y : Int) w) w, w / gsg (Int.gcd (Int.gcd x y : Int) w) w)
def ratMul (r s : Int × Int) : Int × Int := rat (r.1 * s.1) (r.2 * s.2)
def ratAdd (r s : Int × Int) : Int × Int := rat (r.1 * s.2 + s.1 * r.2) (r.2 * s.2)
theorem gsg_dvd {g : Nat} {d n : Int} (h : (g : Int) ∣ n) : gsg g d ∣ n := by
  unfold gsg
  split
  · rw [Int.zero_sub]; exact Int.neg_dvd.mpr h
  · exact h
theorem gcd_pos' {n d : Int} (h : d ≠ 0) : 0 < Int.gcd n d := Int.gcd_pos_of_ne_zero_right _ h
theorem rat_sgn {n d : Int} (h : d ≠ 0) : 0 < (rat n d).2 := by
  have g := gcd_pos' (n := n) h
  have dv : (Int.gcd n d : Int) ∣ d := Int.gcd_dvd_right ..
  show 0 < d / gsg (Int.gcd n d) d
  have e := Int.ediv_mul_cancel (gsg_dvd (d := d) dv)
  by_cases hd : d < 0
  · have z : gsg (Int.gcd n d) d < 0 := by unfold gsg; rw [if_pos hd]; omega
    rcases Int.lt_trichotomy (d / gsg (Int.gcd n d) d) 0 with q | q | q
    · have := Int.mul_pos_of_neg_of_neg q z
      omega
    · rw [q] at e; omega
    · exact q
  · have z : 0 < gsg (Int.gcd n d) d := by unfold gsg; rw [if_neg hd]; omega
    rcases Int.lt_trichotomy (d / gsg (Int.gcd n d) d) 0 with q | q | q
    · have := Int.mul_neg_of_neg_of_pos q z
      omega
    · rw [q] at e; omega
    · exact q
theorem rat_eq {n d : Int} : (rat n d).1 * d = n * (rat n d).2 := by
  have d1 : (Int.gcd n d : Int) ∣ n := Int.gcd_dvd_left ..
  have d2 : (Int.gcd n d : Int) ∣ d := Int.gcd_dvd_right ..
  have e1 := Int.ediv_mul_cancel (gsg_dvd (d := d) d1)
  have e2 := Int.ediv_mul_cancel (gsg_dvd (d := d) d2)
  show n / gsg (Int.gcd n d) d * d = n * (d / gsg (Int.gcd n d) d)
  generalize gsg (Int.gcd n d) d = g at e1 e2 ⊢
  generalize n / g = n' at e1 ⊢
  generalize d / g = d' at e2 ⊢
  rw [← e1, ← e2]
  grind
theorem natAbs_ediv_le (a b : Int) (h : b ∣ a) : (a / b).natAbs ≤ a.natAbs := by
  by_cases hb : b = 0
  · subst hb
    rw [Int.ediv_zero]
    simp
  obtain ⟨c, rfl⟩ := h
  rw [Int.mul_ediv_cancel_left c hb, Int.natAbs_mul]
  exact Nat.le_mul_of_pos_left _ (by omega)
theorem rat_bd1 {n d : Int} : (rat n d).1.natAbs ≤ n.natAbs := natAbs_ediv_le _ _ (gsg_dvd (Int.gcd_dvd_left ..))
theorem rat_bd2 {n d : Int} : (rat n d).2.natAbs ≤ d.natAbs := natAbs_ediv_le _ _ (gsg_dvd (Int.gcd_dvd_right ..))
structure LowOk (x y w : Int) (p : Pt) : Prop where
  pos : 0 < p.2.2
  ex : p.1 * w = x * p.2.2
  ey : p.2.1 * w = y * p.2.2
theorem low_ok {x y w : Int} (h : 0 < w) : LowOk x y w (low x y w) := by
  have g : 0 < Int.gcd (Int.gcd x y : Int) w := gcd_pos' (by omega)
  have dg : (Int.gcd (Int.gcd x y : Int) w : Int) ∣ (Int.gcd x y : Int) := Int.gcd_dvd_left ..
  have d1 : (Int.gcd (Int.gcd x y : Int) w : Int) ∣ x := Int.dvd_trans dg (Int.gcd_dvd_left ..)
  have d2 : (Int.gcd (Int.gcd x y : Int) w : Int) ∣ y := Int.dvd_trans dg (Int.gcd_dvd_right ..)
  have d3 : (Int.gcd (Int.gcd x y : Int) w : Int) ∣ w := Int.gcd_dvd_right ..
  have e : gsg (Int.gcd (Int.gcd x y : Int) w) w = (Int.gcd (Int.gcd x y : Int) w : Int) := by unfold gsg; rw [if_neg (by omega)]
  have e1 := Int.ediv_mul_cancel d1
  have e2 := Int.ediv_mul_cancel d2
  have e3 := Int.ediv_mul_cancel d3
  refine ⟨?_, ?_, ?_⟩
  · show 0 < w / gsg _ w
    rw [e]
    rcases Int.lt_trichotomy (w / (Int.gcd (Int.gcd x y : Int) w : Int)) 0 with q | q | q
    · have := Int.mul_neg_of_neg_of_pos q (show (0 : Int) < (Int.gcd (Int.gcd x y : Int) w : Int) by omega)
      omega
    · rw [q] at e3; omega
    · exact q
  · show x / gsg _ w * w = x * (w / gsg _ w)
    rw [e]
    generalize (Int.gcd (Int.gcd x y : Int) w : Int) = g at e1 e2 e3
    generalize x / g = x' at e1 ⊢
    generalize w / g = w' at e3 ⊢
    rw [← e1, ← e3]
    grind
  · show y / gsg _ w * w = y * (w / gsg _ w)
    rw [e]
    generalize (Int.gcd (Int.gcd x y : Int) w : Int) = g at e1 e2 e3
    generalize y / g = x' at e2 ⊢
    generalize w / g = w' at e3 ⊢
    rw [← e2, ← e3]
    grind
/-- small points -/
structure Sm (p : Pt) : Prop where
  x : -1099511627776 ≤ p.1 ∧ p.1 ≤ 1099511627776
  y : -1099511627776 ≤ p.2.1 ∧ p.2.1 ≤ 1099511627776
  w : 0 < p.2.2 ∧ p.2.2 ≤ 1024
/-- below a power of two -/
def Bd (k : Nat) (n : Int) : Prop := n.natAbs < 2 ^ k
theorem Bd.mul {i j : Nat} {a b : Int} (ha : Bd i a) (hb : Bd j b) : Bd (i + j) (a * b) := wide_lt ha hb
theorem Bd.mono {i j : Nat} {a : Int} (h : Bd i a) (hj : i ≤ j) : Bd j a := Nat.lt_of_lt_of_le h (Nat.pow_le_pow_right (by decide) hj)
theorem Bd.add {i : Nat} {a b : Int} (ha : Bd i a) (hb : Bd i b) : Bd (i + 1) (a + b) := by
  unfold Bd at *
  rw [Nat.pow_succ]
  omega
theorem Bd.sub {i : Nat} {a b : Int} (ha : Bd i a) (hb : Bd i b) : Bd (i + 1) (a - b) := by
  unfold Bd at *
  rw [Nat.pow_succ]
  omega
theorem Bd.le {i : Nat} {a b : Int} (ha : Bd i b) (h : a.natAbs ≤ b.natAbs) : Bd i a := Nat.lt_of_le_of_lt h ha
theorem Bd.w {i j : Nat} {a b : Int} (ha : Bd i a) (hb : Bd j b) (h0 : 0 < i) (h1 : 0 < j) (h : i + j ≤ 1000000) : CMulW a b := wide_mul ha hb h0 h1 h
theorem Bd.d {j : Nat} {a b : Int} (hb : Bd j b) (h : 0 < b) (h0 : 0 < j) (h9 : j ≤ 9000) : CDivW a b := wide_div h hb h0 h9
theorem Sm.bx {p : Pt} (h : Sm p) : Bd 41 p.1 := by
  have := h.x
  show p.1.natAbs < 2199023255552
  omega
theorem Sm.by' {p : Pt} (h : Sm p) : Bd 41 p.2.1 := by
  have := h.y
  show p.2.1.natAbs < 2199023255552
  omega
theorem Sm.bw {p : Pt} (h : Sm p) : Bd 11 p.2.2 := by
  have := h.w
  show p.2.2.natAbs < 2048
  omega
theorem Bd.l {k : Nat} {i j : Int} (h : Bd k i) (hk : k ≤ 63) : CMul i j := by
  have h2 : i.natAbs < 9223372036854775808 := h.mono hk
  exact .inl (by omega)
theorem Bd.r {k : Nat} {i j : Int} (h : Bd k j) (hk : k ≤ 63) : CMul i j := by
  have h2 : j.natAbs < 9223372036854775808 := h.mono hk
  exact .inr (by omega)
/-- the way from a to b, times both weights -/
def wx (a b : Pt) : Int := b.1 * a.2.2 - a.1 * b.2.2
def wy (a b : Pt) : Int := b.2.1 * a.2.2 - a.2.1 * b.2.2
theorem Sm.wx {a b : Pt} (ha : Sm a) (hb : Sm b) : Bd 53 (wx a b) := (hb.bx.mul ha.bw).sub (ha.bx.mul hb.bw)
theorem Sm.wy {a b : Pt} (ha : Sm a) (hb : Sm b) : Bd 53 (wy a b) := (hb.by'.mul ha.bw).sub (ha.by'.mul hb.bw)
theorem dbl_way (a b c : Pt) : wx a b * wy a c - wx a c * wy a b = dbl a b c * a.2.2 := by
  obtain ⟨a0, a1, a2⟩ := a
  obtain ⟨b0, b1, b2⟩ := b
  obtain ⟨c0, c1, c2⟩ := c
  simp only [wx, wy, dbl]
  grind
def whl (a b c d : Pt) : Int := wx a b * wy c d - wy a b * wx c d
def lcross (a b c d : Pt) : Pt :=
  let one := rat (wx a c * wy c d - wy a c * wx c d) (c.2.2 * a.2.2)
  let part := ratMul (ratMul one (rat (b.2.2 * a.2.2) (whl a b c d))) (rat 1 1)
  let first := ratAdd (rat a.1 a.2.2) (ratMul part (rat (wx a b) (a.2.2 * b.2.2)))
  let second := ratAdd (rat a.2.1 a.2.2) (ratMul part (rat (wy a b) (a.2.2 * b.2.2)))
  low (first.1 * second.2) (second.1 * first.2) (first.2 * second.2)
def lsg (n : Int) : Int := if 0 < n then 1 else if n < 0 then -1 else 0
theorem lsg_eq (n : Int) : lsg n = sgn n := by
  unfold lsg
  rcases sgn_cases n with ⟨h, e⟩ | ⟨h, e⟩ | ⟨h, e⟩
  · rw [if_pos h, e]
  · rw [if_neg (by omega), if_neg (by omega), e]
  · rw [if_neg (by omega), if_pos h, e]
def ord (a b : Pt) : Int := if sgn (a.1 * b.2.2 - b.1 * a.2.2) ≠ 0 then sgn (a.1 * b.2.2 - b.1 * a.2.2) else sgn (a.2.1 * b.2.2 - b.2.1 * a.2.2)

def rD (r : Int × Int) : PyData := .tuple [.int r.1, .int r.2]
def F_rat : List PyData → PyData → Prop := fun ds r => ∃ n d : Int, ((0 < d ∧ Bd 8000 d) ∨ (d < 0 ∧ n ≠ 0 ∧ n.natAbs < 1073741824)) ∧ ds = [.int n, .int d] ∧ r = rD (rat n d)
def F_low : List PyData → PyData → Prop := fun ds r => ∃ x y w : Int, 0 < w ∧ Bd 8000 w ∧ ds = [.int x, .int y, .int w] ∧ r = pD (low x y w)
def F_times : List PyData → PyData → Prop := fun ds r => ∃ a b : Int × Int, Bd 2000 a.1 ∧ Bd 2000 a.2 ∧ Bd 2000 b.1 ∧ Bd 2000 b.2 ∧ 0 < a.2 ∧ 0 < b.2 ∧ ds = [rD a, rD b] ∧ r = rD (ratMul a b)
def F_plus : List PyData → PyData → Prop := fun ds r => ∃ a b : Int × Int, Bd 2000 a.1 ∧ Bd 2000 a.2 ∧ Bd 2000 b.1 ∧ Bd 2000 b.2 ∧ 0 < a.2 ∧ 0 < b.2 ∧ ds = [rD a, rD b] ∧ r = rD (ratAdd a b)
def F_ldbl : List PyData → PyData → Prop := fun ds r => ∃ a b c : Pt, Sm a ∧ Sm b ∧ ds = [pD a, pD b, pD c] ∧ r = .int (dbl a b c)
def F_lturn : List PyData → PyData → Prop := fun ds r => ∃ a b c : Pt, Sm a ∧ Sm b ∧ ds = [pD a, pD b, pD c] ∧ r = .int (trn a b c)
def F_ord : List PyData → PyData → Prop := fun ds r => ∃ a b : Pt, (Sm a ∨ Sm b) ∧ ds = [pD a, pD b] ∧ r = .int (ord a b)
section
variable {P : Program} {w : World} {K : PySem.W.Frag} {mg : Str → Option Value} {base : Heap} {f : Addr} {fd : FuncData}
theorem ok_law_sign (Fn : Fun K "_law_sign" "_law_sign" s_law_sign f fd) : FnOk P w K mg base CX0 1 f fd ["_law_number"] (spF K F_sign) := by
  refine pure_ok Fn sc_law_sign (fun ds r h => by obtain ⟨n, rfl, _⟩ := h; rfl) fun cdv A outer s H E hr ds r h => ?_
  obtain ⟨n, rfl, rfl⟩ := h
  rw [← lsg_eq]
  refine bk_cons (st_ret (d := .int (lsg n)) (ev_if (et_gt (ev_var 0) ev_int) (fun h => ?_) (fun h => ev_if (et_lt (ev_var 0) ev_int) (fun h2 => ?_) (fun h2 => ?_))) rfl)
  · exact ev_int.is (by unfold lsg; rw [if_pos (of_decide_eq_true h)])
  · exact (ev_neg ev_int).is (by unfold lsg; rw [if_neg (of_decide_eq_false h), if_pos (of_decide_eq_true h2)])
  · exact ev_int.is (by unfold lsg; rw [if_neg (of_decide_eq_false h), if_neg (of_decide_eq_false h2)])
theorem ok_law_gcd (Fn : Fun K "_law_gcd" "_law_gcd" s_law_gcd f fd) (B : NoB mg) : FnOk P w K mg base CX0 1 f fd ["_law_one", "_law_other"] (spF K F_gcd) := by
  refine pure_ok Fn sc_law_gcd (fun ds r h => by obtain ⟨a, b, rfl, _⟩ := h; rfl) fun cdv A outer s H E hr ds r h => ?_
  obtain ⟨a, b, rfl, rfl⟩ := h
  refine bk_cons (st_par (i := 0) (j := 1) (ev_abs B (ev_var 0)) (ev_abs B (ev_var 1)) ?_ sc_law_gcd.nd)
  refine bk_cons (st_while (fun m ρ => ∃ x : Nat, ρ = [some (.int (x : Int)), some (.int (m : Int))] ∧ Nat.gcd x m = Int.gcd a b) (m0 := b.natAbs) ⟨a.natAbs, rfl, rfl⟩ (fun m ρ' h => ?_) PassesOwn.never)
  obtain ⟨x, rfl, hx⟩ := h
  refine ⟨_, et_ne hr (ev_var 1) ev_int (shaped_int _) (shaped_int _), fun h => ?_, fun h => ?_⟩
  · rw [eqv_int] at h
    have hm : m ≠ 0 := by
      rintro rfl
      simp at h
    refine bk_cons (st_par (i := 0) (j := 1) (ev_var 1) (ev_mod (ev_toint B (ev_var 0)) (ev_var 1) (by omega)) ?_ sc_law_gcd.nd)
    refine bk_nil ⟨x % m, Nat.mod_lt _ (by omega), m, ?_, ?_⟩
    · show [some (PyData.int (m : Int)), some (PyData.int ((x : Int) % (m : Int)))] = _
      rw [Int.natCast_emod]
    · rw [← hx, Nat.gcd_comm x m, Nat.gcd_rec m x, Nat.gcd_comm]
  · rw [eqv_int] at h
    have hm : m = 0 := by
      by_cases z : (m : Int) = 0
      · omega
      · rw [decide_eq_false z] at h; cases h
    subst hm
    refine bk_cons (st_ret (ev_var 0) ?_)
    rw [Nat.gcd_zero_right] at hx
    show PyData.int (x : Int) = _
    rw [hx]
theorem ok_law_doubled (Fn : Fun K "_law_doubled" "_law_doubled" s_law_doubled f fd) : FnOk P w K mg base CX0 1 f fd ["_law_a", "_law_b", "_law_c"] (spF K F_ldbl) := by
  refine pure_ok Fn sc_law_doubled (fun ds r h => by obtain ⟨a, b, c, _, _, rfl, _⟩ := h; rfl) fun cdv A outer s H E hr ds r h => ?_
  obtain ⟨a, b, c, ha, hb, rfl, rfl⟩ := h
  refine bk_cons (st_par (i := 3) (j := 4) (ev_sub (ev_mul (ev_ixT (ev_var 1) ev_int) (ev_ixT (ev_var 0) ev_int) (hb.bx.l (by decide))) (ev_mul (ev_ixT (ev_var 0) ev_int) (ev_ixT (ev_var 1) ev_int) (ha.bx.l (by decide))))
    (ev_sub (ev_mul (ev_ixT (ev_var 1) ev_int) (ev_ixT (ev_var 0) ev_int) (hb.by'.l (by decide))) (ev_mul (ev_ixT (ev_var 0) ev_int) (ev_ixT (ev_var 1) ev_int) (ha.by'.l (by decide)))) ?_ sc_law_doubled.nd)
  refine bk_cons (st_par (i := 5) (j := 6) (ev_sub (ev_mul (ev_ixT (ev_var 2) ev_int) (ev_ixT (ev_var 0) ev_int) (ha.bw.r (by decide))) (ev_mul (ev_ixT (ev_var 0) ev_int) (ev_ixT (ev_var 2) ev_int) (ha.bx.l (by decide))))
    (ev_sub (ev_mul (ev_ixT (ev_var 2) ev_int) (ev_ixT (ev_var 0) ev_int) (ha.bw.r (by decide))) (ev_mul (ev_ixT (ev_var 0) ev_int) (ev_ixT (ev_var 2) ev_int) (ha.by'.l (by decide)))) ?_ sc_law_doubled.nd)
  refine bk_cons (st_ret (ev_div (ev_sub (ev_mul (ev_var 3) (ev_var 6) ((ha.wx hb).l (by decide))) (ev_mul (ev_var 5) (ev_var 4) ((ha.wy hb).r (by decide)))) (ev_ixT (ev_var 0) ev_int) ⟨ha.w.1, by have := ha.w; omega⟩) ?_)
  show PyData.int ((wx a b * wy a c - wx a c * wy a b) / a.2.2) = _
  rw [dbl_way, Int.mul_ediv_cancel _ (by have := ha.w; omega)]
theorem ok_law_turn (Fn : Fun K "_law_turn" "_law_turn" s_law_turn f fd) (G1 : Callee P w K mg base "_law_sign" 1 F_sign) (G2 : Callee P w K mg base "_law_doubled" 1 F_ldbl) : FnOk P w K mg base CX0 2 f fd ["_law_a", "_law_b", "_law_c"] (spF K F_lturn) := by
  refine pure_ok Fn sc_law_turn (fun ds r h => by obtain ⟨a, b, c, _, _, rfl, _⟩ := h; rfl) fun cdv A outer s H E hr ds r h => ?_
  obtain ⟨a, b, c, ha, hb, rfl, rfl⟩ := h
  exact bk_cons (st_ret (ev_call G1 hr (Nat.le_refl _) (ea_cons (ev_call G2 hr (Nat.le_refl _) (ea_cons (ev_var 0) (ea_cons (ev_var 1) (ea_cons (ev_var 2) ea_nil))) ⟨a, b, c, ha, hb, rfl, rfl⟩) ea_nil) ⟨_, rfl, rfl⟩) rfl)
theorem ok_law_ratio (Fn : Fun K "_law_ratio" "_law_ratio" s_law_ratio f fd) (G : Callee P w K mg base "_law_gcd" 1 F_gcd) : FnOk P w K mg base CX0 2 f fd ["_law_numerator", "_law_denominator"] (spF K F_rat) := by
  refine pure_ok Fn sc_law_ratio (fun ds r h => by obtain ⟨n, d, _, rfl, _⟩ := h; rfl) fun cdv A outer s H E hr ds r h => ?_
  obtain ⟨n, d, hd, rfl, rfl⟩ := h
  refine bk_cons (st_set (i := 2) (ev_call G hr (by decide) (ea_cons (ev_var 0) (ea_cons (ev_var 1) ea_nil)) ⟨n, d, rfl, rfl⟩) ?_ sc_law_ratio.nd)
  refine bk_cons (st_set (i := 2) (d := .int (gsg (Int.gcd n d) d)) (ev_if (et_lt (ev_var 1) ev_int) (fun h => (ev_sub ev_int (ev_var 2)).is (by unfold gsg; rw [if_pos (of_decide_eq_true h)])) (fun h => (ev_var 2).is (by unfold gsg; rw [if_neg (of_decide_eq_false h)]))) ?_ sc_law_ratio.nd)
  rcases hd with ⟨h0, hb⟩ | ⟨h0, hn, hb⟩
  · have g0 : 0 < Int.gcd n d := gcd_pos' (by omega)
    have gl : (Int.gcd n d : Int) ≤ d := Int.le_of_dvd h0 (Int.gcd_dvd_right ..)
    have e : gsg (Int.gcd n d) d = (Int.gcd n d : Int) := by unfold gsg; rw [if_neg (by omega)]
    have hdv : ∀ i, CDivW i (gsg (Int.gcd n d) d) := fun i => by rw [e]; exact Bd.d (hb.le (by omega)) (by omega) (by decide) (by decide)
    exact bk_cons (st_ret (ev_tup (ea_cons (ev_divW (ev_var 0) (ev_var 2) (hdv _)) (ea_cons (ev_divW (ev_var 1) (ev_var 2) (hdv _)) ea_nil))) rfl)
  · have g0 : 0 < Int.gcd n d := gcd_pos' (by omega)
    have gl : (Int.gcd n d : Int) ≤ (n.natAbs : Int) := Int.le_of_dvd (by omega) (Int.dvd_natAbs.mpr (Int.gcd_dvd_left ..))
    have e : gsg (Int.gcd n d) d = 0 - (Int.gcd n d : Int) := by unfold gsg; rw [if_pos (by omega)]
    have hdv : ∀ i, CDivN i (gsg (Int.gcd n d) d) := fun i => by rw [e]; exact ⟨by omega, by omega⟩
    refine bk_cons (st_ret (ev_tup (ea_cons (ev_divN (ev_var 0) (ev_var 2) (hdv _)) (ea_cons (ev_divN (ev_var 1) (ev_var 2) (hdv _)) ea_nil))) ?_)
    show PyData.tuple [.int (n.fdiv (gsg (Int.gcd n d) d)), .int (d.fdiv (gsg (Int.gcd n d) d))] = _
    rw [Int.fdiv_eq_ediv_of_dvd (gsg_dvd (Int.gcd_dvd_left ..)), Int.fdiv_eq_ediv_of_dvd (gsg_dvd (Int.gcd_dvd_right ..))]
    rfl
theorem ok_law_times (Fn : Fun K "_law_times" "_law_times" s_law_times f fd) (G : Callee P w K mg base "_law_ratio" 2 F_rat) : FnOk P w K mg base CX0 3 f fd ["_law_one", "_law_other"] (spF K F_times) := by
  refine pure_ok Fn sc_law_times (fun ds r h => by obtain ⟨n, d, _, _, _, _, _, _, rfl, _⟩ := h; rfl) fun cdv A outer s H E hr ds r h => ?_
  obtain ⟨a, b, a1, a2, b1, b2, ha, hb, rfl, rfl⟩ := h
  exact bk_cons (st_ret (ev_call G hr (by decide) (ea_cons (ev_mulW (ev_ixT (ev_var 0) ev_int) (ev_ixT (ev_var 1) ev_int) (a1.w b1 (by decide) (by decide) (by decide))) (ea_cons (ev_mulW (ev_ixT (ev_var 0) ev_int) (ev_ixT (ev_var 1) ev_int) (a2.w b2 (by decide) (by decide) (by decide))) ea_nil))
    ⟨_, _, .inl ⟨Int.mul_pos ha hb, (a2.mul b2).mono (by decide)⟩, rfl, rfl⟩) rfl)
theorem ok_law_plus (Fn : Fun K "_law_plus" "_law_plus" s_law_plus f fd) (G : Callee P w K mg base "_law_ratio" 2 F_rat) : FnOk P w K mg base CX0 3 f fd ["_law_one", "_law_other"] (spF K F_plus) := by
  refine pure_ok Fn sc_law_plus (fun ds r h => by obtain ⟨n, d, _, _, _, _, _, _, rfl, _⟩ := h; rfl) fun cdv A outer s H E hr ds r h => ?_
  obtain ⟨a, b, a1, a2, b1, b2, ha, hb, rfl, rfl⟩ := h
  exact bk_cons (st_ret (ev_call G hr (by decide) (ea_cons (ev_add (ev_mulW (ev_ixT (ev_var 0) ev_int) (ev_ixT (ev_var 1) ev_int) (a1.w b2 (by decide) (by decide) (by decide))) (ev_mulW (ev_ixT (ev_var 1) ev_int) (ev_ixT (ev_var 0) ev_int) (b1.w a2 (by decide) (by decide) (by decide))))
    (ea_cons (ev_mulW (ev_ixT (ev_var 0) ev_int) (ev_ixT (ev_var 1) ev_int) (a2.w b2 (by decide) (by decide) (by decide))) ea_nil))
    ⟨_, _, .inl ⟨Int.mul_pos ha hb, (a2.mul b2).mono (by decide)⟩, rfl, rfl⟩) rfl)
theorem ok_law_lowest (Fn : Fun K "_law_lowest" "_law_lowest" s_law_lowest f fd) (G : Callee P w K mg base "_law_gcd" 1 F_gcd) : FnOk P w K mg base CX0 2 f fd ["_law_x", "_law_y", "_law_w"] (spF K F_low) := by
  refine pure_ok Fn sc_law_lowest (fun ds r h => by obtain ⟨x, y, z, _, _, rfl, _⟩ := h; rfl) fun cdv A outer s H E hr ds r h => ?_
  obtain ⟨x, y, z, hz, hb, rfl, rfl⟩ := h
  refine bk_cons (st_set (i := 3) (ev_call G hr (by decide) (ea_cons (ev_call G hr (by decide) (ea_cons (ev_var 0) (ea_cons (ev_var 1) ea_nil)) ⟨x, y, rfl, rfl⟩) (ea_cons (ev_var 2) ea_nil)) ⟨_, z, rfl, rfl⟩) ?_ sc_law_lowest.nd)
  refine bk_cons (st_set (i := 3) (d := .int (gsg (Int.gcd (Int.gcd x y : Int) z) z)) (ev_if (et_lt (ev_var 2) ev_int) (fun h => (ev_sub ev_int (ev_var 3)).is (by unfold gsg; rw [if_pos (of_decide_eq_true h)])) (fun h => (ev_var 3).is (by unfold gsg; rw [if_neg (of_decide_eq_false h)]))) ?_ sc_law_lowest.nd)
  have g0 : 0 < Int.gcd (Int.gcd x y : Int) z := gcd_pos' (by omega)
  have gl : (Int.gcd (Int.gcd x y : Int) z : Int) ≤ z := Int.le_of_dvd hz (Int.gcd_dvd_right ..)
  have e : gsg (Int.gcd (Int.gcd x y : Int) z) z = (Int.gcd (Int.gcd x y : Int) z : Int) := by unfold gsg; rw [if_neg (by omega)]
  have hdv : ∀ i, CDivW i (gsg (Int.gcd (Int.gcd x y : Int) z) z) := fun i => by rw [e]; exact Bd.d (hb.le (by omega)) (by omega) (by decide) (by decide)
  exact bk_cons (st_ret (ev_tup (ea_cons (ev_divW (ev_var 0) (ev_var 3) (hdv _)) (ea_cons (ev_divW (ev_var 1) (ev_var 3) (hdv _)) (ea_cons (ev_divW (ev_var 2) (ev_var 3) (hdv _)) ea_nil)))) rfl)
theorem ok_law_order (Fn : Fun K "_law_order" "_law_order" s_law_order f fd) (G : Callee P w K mg base "_law_sign" 1 F_sign) : FnOk P w K mg base CX0 2 f fd ["_law_a", "_law_b"] (spF K F_ord) := by
  refine pure_ok Fn sc_law_order (fun ds r h => by obtain ⟨a, b, _, rfl, _⟩ := h; rfl) fun cdv A outer s H E hr ds r h => ?_
  obtain ⟨a, b, hab, rfl, rfl⟩ := h
  have c1 : CMul a.1 b.2.2 := by rcases hab with h | h; exact h.bx.l (by decide); exact h.bw.r (by decide)
  have c2 : CMul b.1 a.2.2 := by rcases hab with h | h; exact h.bw.r (by decide); exact h.bx.l (by decide)
  have c3 : CMul a.2.1 b.2.2 := by rcases hab with h | h; exact h.by'.l (by decide); exact h.bw.r (by decide)
  have c4 : CMul b.2.1 a.2.2 := by rcases hab with h | h; exact h.bw.r (by decide); exact h.by'.l (by decide)
  refine bk_cons (st_set (i := 2) (ev_call G hr (by decide) (ea_cons (ev_sub (ev_mul (ev_ixT (ev_var 0) ev_int) (ev_ixT (ev_var 1) ev_int) c1) (ev_mul (ev_ixT (ev_var 1) ev_int) (ev_ixT (ev_var 0) ev_int) c2)) ea_nil) ⟨_, rfl, rfl⟩) ?_ sc_law_order.nd)
  refine bk_cons (st_ret (d := .int (ord a b)) (ev_if (et_ne hr (ev_var 2) ev_int (shaped_int _) (shaped_int _)) (fun h => (ev_var 2).is ?_) (fun h => (ev_call G hr (by decide) (ea_cons (ev_sub (ev_mul (ev_ixT (ev_var 0) ev_int) (ev_ixT (ev_var 1) ev_int) c3) (ev_mul (ev_ixT (ev_var 1) ev_int) (ev_ixT (ev_var 0) ev_int) c4)) ea_nil) ⟨_, rfl, rfl⟩).is ?_)) rfl)
  · rw [eqv_int] at h
    unfold ord
    rw [if_pos]
    intro z
    rw [decide_eq_true z] at h
    cases h
  · rw [eqv_int] at h
    unfold ord
    rw [if_neg]
    intro z
    rw [decide_eq_false z] at h
    cases h
end
end Q40
end

section
set_option maxRecDepth 100000
set_option maxHeartbeats 4000000
namespace Q40
open PySem PySem.Spec PyProof.Rows L2

/-! ### the meeting point of two lines -/
structure Rep (r : Int × Int) (u v : Int) : Prop where
  eq : r.1 * v = u * r.2
  pos : 0 < r.2
  ne : v ≠ 0
theorem rat_rep {n d : Int} (h : d ≠ 0) : Rep (rat n d) n d := ⟨rat_eq, rat_sgn h, h⟩
theorem mul_rep {r s : Int × Int} {u v u' v' : Int} (h : Rep r u v) (g : Rep s u' v') : Rep (ratMul r s) (u * u') (v * v') := by
  have h1 := h.pos
  have h2 := g.pos
  have hp : 0 < r.2 * s.2 := Int.mul_pos h1 h2
  have k := rat_eq (n := r.1 * s.1) (d := r.2 * s.2)
  refine ⟨?_, rat_sgn (Int.ne_of_gt hp), Int.mul_ne_zero h.ne g.ne⟩
  show (rat (r.1 * s.1) (r.2 * s.2)).1 * (v * v') = u * u' * (rat (r.1 * s.1) (r.2 * s.2)).2
  generalize rat (r.1 * s.1) (r.2 * s.2) = t at k ⊢
  have e1 := h.eq
  have e2 := g.eq
  refine Int.eq_of_mul_eq_mul_right (Int.ne_of_gt hp) ?_
  have q : t.1 * (v * v') * (r.2 * s.2) = t.1 * (r.2 * s.2) * (v * v') := by grind
  rw [q, k]
  have q2 : r.1 * s.1 * t.2 * (v * v') = (r.1 * v) * (s.1 * v') * t.2 := by grind
  rw [q2, e1, e2]
  grind
theorem add_rep {r s : Int × Int} {u v u' v' : Int} (h : Rep r u v) (g : Rep s u' v') : Rep (ratAdd r s) (u * v' + u' * v) (v * v') := by
  have h1 := h.pos
  have h2 := g.pos
  have hp : 0 < r.2 * s.2 := Int.mul_pos h1 h2
  have k := rat_eq (n := r.1 * s.2 + s.1 * r.2) (d := r.2 * s.2)
  refine ⟨?_, rat_sgn (Int.ne_of_gt hp), Int.mul_ne_zero h.ne g.ne⟩
  show (rat (r.1 * s.2 + s.1 * r.2) (r.2 * s.2)).1 * (v * v') = (u * v' + u' * v) * (rat (r.1 * s.2 + s.1 * r.2) (r.2 * s.2)).2
  generalize rat (r.1 * s.2 + s.1 * r.2) (r.2 * s.2) = t at k ⊢
  have e1 := h.eq
  have e2 := g.eq
  refine Int.eq_of_mul_eq_mul_right (Int.ne_of_gt hp) ?_
  have q : t.1 * (v * v') * (r.2 * s.2) = t.1 * (r.2 * s.2) * (v * v') := by grind
  rw [q, k]
  have q2 : (r.1 * s.2 + s.1 * r.2) * t.2 * (v * v') = ((r.1 * v) * (s.2 * v') + (s.1 * v') * (r.2 * v)) * t.2 := by grind
  rw [q2, e1, e2]
  grind
def cOne (a b c d : Pt) : Int × Int := rat (wx a c * wy c d - wy a c * wx c d) (c.2.2 * a.2.2)
def cPart (a b c d : Pt) : Int × Int := ratMul (ratMul (cOne a b c d) (rat (b.2.2 * a.2.2) (whl a b c d))) (rat 1 1)
def cX (a b c d : Pt) : Int × Int := ratAdd (rat a.1 a.2.2) (ratMul (cPart a b c d) (rat (wx a b) (a.2.2 * b.2.2)))
def cY (a b c d : Pt) : Int × Int := ratAdd (rat a.2.1 a.2.2) (ratMul (cPart a b c d) (rat (wy a b) (a.2.2 * b.2.2)))
theorem lcross_eq (a b c d : Pt) : lcross a b c d = low ((cX a b c d).1 * (cY a b c d).2) ((cY a b c d).1 * (cX a b c d).2) ((cX a b c d).2 * (cY a b c d).2) := rfl
/-- c's way to d as seen from a -/
theorem num_eq (a c d : Pt) : wx a c * wy c d - wy a c * wx c d = c.2.2 * dbl c d a := by
  obtain ⟨a0, a1, a2⟩ := a
  obtain ⟨c0, c1, c2⟩ := c
  obtain ⟨d0, d1, d2⟩ := d
  simp only [wx, wy, dbl]
  grind
theorem whl_eq (a b c d : Pt) : whl a b c d = dbl c d a * b.2.2 - dbl c d b * a.2.2 := by
  obtain ⟨a0, a1, a2⟩ := a
  obtain ⟨b0, b1, b2⟩ := b
  obtain ⟨c0, c1, c2⟩ := c
  obtain ⟨d0, d1, d2⟩ := d
  simp only [whl, wx, wy, dbl]
  grind
theorem whl_swap (a b c d : Pt) : whl c d a b = - whl a b c d := by
  simp only [whl]
  grind
structure Meet (a b c d p : Pt) : Prop where
  pos : 0 < p.2.2
  ex : p.1 * (a.2.2 * whl a b c d) = (a.1 * whl a b c d + dbl c d a * wx a b) * p.2.2
  ey : p.2.1 * (a.2.2 * whl a b c d) = (a.2.1 * whl a b c d + dbl c d a * wy a b) * p.2.2
theorem meet_lcross {a b c d : Pt} (ha : 0 < a.2.2) (hb : 0 < b.2.2) (hc : 0 < c.2.2) (hw : whl a b c d ≠ 0) : Meet a b c d (lcross a b c d) ∧ Rep (cPart a b c d) ((c.2.2 * dbl c d a) * (b.2.2 * a.2.2) * 1) ((c.2.2 * a.2.2) * whl a b c d * 1) ∧ 0 < (cX a b c d).2 ∧ 0 < (cY a b c d).2 := by
  have a0 : a.2.2 ≠ 0 := Int.ne_of_gt ha
  have b0 : b.2.2 ≠ 0 := Int.ne_of_gt hb
  have c0 : c.2.2 ≠ 0 := Int.ne_of_gt hc
  have r1 : Rep (cOne a b c d) (c.2.2 * dbl c d a) (c.2.2 * a.2.2) := by
    unfold cOne
    rw [num_eq]
    exact rat_rep (Int.mul_ne_zero c0 a0)
  have r2 : Rep (cPart a b c d) ((c.2.2 * dbl c d a) * (b.2.2 * a.2.2) * 1) ((c.2.2 * a.2.2) * whl a b c d * 1) := mul_rep (mul_rep r1 (rat_rep hw)) (rat_rep (by decide))
  have rX : Rep (cX a b c d) _ _ := add_rep (rat_rep (n := a.1) a0) (mul_rep r2 (rat_rep (n := wx a b) (Int.mul_ne_zero a0 b0)))
  have rY : Rep (cY a b c d) _ _ := add_rep (rat_rep (n := a.2.1) a0) (mul_rep r2 (rat_rep (n := wy a b) (Int.mul_ne_zero a0 b0)))
  have pX := rX.pos
  have pY := rY.pos
  have lo : LowOk ((cX a b c d).1 * (cY a b c d).2) ((cY a b c d).1 * (cX a b c d).2) ((cX a b c d).2 * (cY a b c d).2) (lcross a b c d) := by
    rw [lcross_eq]
    exact low_ok (Int.mul_pos pX pY)
  refine ⟨⟨lo.pos, ?_, ?_⟩, r2, pX, pY⟩
  · have e1 := lo.ex
    have e2 := rX.eq
    have k : c.2.2 * a.2.2 * a.2.2 * b.2.2 ≠ 0 := Int.mul_ne_zero (Int.mul_ne_zero (Int.mul_ne_zero c0 a0) a0) b0
    generalize lcross a b c d = p at e1 ⊢
    generalize cX a b c d = X at e1 e2 pX
    generalize cY a b c d = Y at e1 pY
    have e3 : p.1 * X.2 = X.1 * p.2.2 := by
      refine Int.eq_of_mul_eq_mul_right (Int.ne_of_gt pY) ?_
      rw [show p.1 * X.2 * Y.2 = p.1 * (X.2 * Y.2) by grind, e1]
      grind
    refine Int.eq_of_mul_eq_mul_right (Int.mul_ne_zero k (Int.ne_of_gt pX)) ?_
    rw [show p.1 * (a.2.2 * whl a b c d) * (c.2.2 * a.2.2 * a.2.2 * b.2.2 * X.2) = (p.1 * X.2) * (a.2.2 * (c.2.2 * a.2.2 * whl a b c d * 1 * (a.2.2 * b.2.2))) by grind, e3,
      show X.1 * p.2.2 * (a.2.2 * (c.2.2 * a.2.2 * whl a b c d * 1 * (a.2.2 * b.2.2))) = (X.1 * (a.2.2 * (c.2.2 * a.2.2 * whl a b c d * 1 * (a.2.2 * b.2.2)))) * p.2.2 by grind, e2]
    grind
  · have e1 := lo.ey
    have e2 := rY.eq
    have k : c.2.2 * a.2.2 * a.2.2 * b.2.2 ≠ 0 := Int.mul_ne_zero (Int.mul_ne_zero (Int.mul_ne_zero c0 a0) a0) b0
    generalize lcross a b c d = p at e1 ⊢
    generalize cX a b c d = X at e1 pX
    generalize cY a b c d = Y at e1 e2 pY
    have e3 : p.2.1 * Y.2 = Y.1 * p.2.2 := by
      refine Int.eq_of_mul_eq_mul_right (Int.ne_of_gt pX) ?_
      rw [show p.2.1 * Y.2 * X.2 = p.2.1 * (X.2 * Y.2) by grind, e1]
      grind
    refine Int.eq_of_mul_eq_mul_right (Int.mul_ne_zero k (Int.ne_of_gt pY)) ?_
    rw [show p.2.1 * (a.2.2 * whl a b c d) * (c.2.2 * a.2.2 * a.2.2 * b.2.2 * Y.2) = (p.2.1 * Y.2) * (a.2.2 * (c.2.2 * a.2.2 * whl a b c d * 1 * (a.2.2 * b.2.2))) by grind, e3,
      show Y.1 * p.2.2 * (a.2.2 * (c.2.2 * a.2.2 * whl a b c d * 1 * (a.2.2 * b.2.2))) = (Y.1 * (a.2.2 * (c.2.2 * a.2.2 * whl a b c d * 1 * (a.2.2 * b.2.2)))) * p.2.2 by grind, e2]
    grind
theorem Meet.swap {a b c d p : Pt} (h : Meet a b c d p) (ha : 0 < a.2.2) (hw : whl a b c d ≠ 0) : Meet c d a b p := by
  have e1 := h.ex
  have e2 := h.ey
  have a0 : a.2.2 ≠ 0 := Int.ne_of_gt ha
  refine ⟨h.pos, ?_, ?_⟩
  · rw [whl_swap]
    refine Int.eq_of_mul_eq_mul_right a0 ?_
    rw [show p.1 * (c.2.2 * -whl a b c d) * a.2.2 = (p.1 * (a.2.2 * whl a b c d)) * (- c.2.2) by grind, e1]
    have id : (a.1 * whl a b c d + dbl c d a * wx a b) * c.2.2 = a.2.2 * (c.1 * whl a b c d - dbl a b c * wx c d) := by
      obtain ⟨a0, a1, a2⟩ := a
      obtain ⟨b0, b1, b2⟩ := b
      obtain ⟨c0, c1, c2⟩ := c
      obtain ⟨d0, d1, d2⟩ := d
      simp only [whl, wx, wy, dbl]
      grind
    rw [show (a.1 * whl a b c d + dbl c d a * wx a b) * p.2.2 * -c.2.2 = -((a.1 * whl a b c d + dbl c d a * wx a b) * c.2.2) * p.2.2 by grind, id]
    grind
  · rw [whl_swap]
    refine Int.eq_of_mul_eq_mul_right a0 ?_
    rw [show p.2.1 * (c.2.2 * -whl a b c d) * a.2.2 = (p.2.1 * (a.2.2 * whl a b c d)) * (- c.2.2) by grind, e2]
    have id : (a.2.1 * whl a b c d + dbl c d a * wy a b) * c.2.2 = a.2.2 * (c.2.1 * whl a b c d - dbl a b c * wy c d) := by
      obtain ⟨a0, a1, a2⟩ := a
      obtain ⟨b0, b1, b2⟩ := b
      obtain ⟨c0, c1, c2⟩ := c
      obtain ⟨d0, d1, d2⟩ := d
      simp only [whl, wx, wy, dbl]
      grind
    rw [show (a.2.1 * whl a b c d + dbl c d a * wy a b) * p.2.2 * -c.2.2 = -((a.2.1 * whl a b c d + dbl c d a * wy a b) * c.2.2) * p.2.2 by grind, id]
    grind

/-! ### where it lies -/
theorem sgn_mul (m n : Int) : sgn (m * n) = sgn m * sgn n := by
  rcases sgn_cases m with ⟨h, e⟩ | ⟨h, e⟩ | ⟨h, e⟩ <;> rcases sgn_cases n with ⟨g, f⟩ | ⟨g, f⟩ | ⟨g, f⟩ <;> rw [e, f]
  · have := Int.mul_pos h g
    rcases sgn_cases (m * n) with ⟨_, q⟩ | ⟨_, q⟩ | ⟨_, q⟩ <;> omega
  · rw [g, Int.mul_zero]; rfl
  · have := Int.mul_neg_of_pos_of_neg h g
    rcases sgn_cases (m * n) with ⟨_, q⟩ | ⟨_, q⟩ | ⟨_, q⟩ <;> omega
  · rw [h, Int.zero_mul]; rfl
  · rw [h, Int.zero_mul]; rfl
  · rw [h, Int.zero_mul]; rfl
  · have := Int.mul_neg_of_neg_of_pos h g
    rcases sgn_cases (m * n) with ⟨_, q⟩ | ⟨_, q⟩ | ⟨_, q⟩ <;> omega
  · rw [g, Int.mul_zero]; rfl
  · have := Int.mul_pos_of_neg_of_neg h g
    rcases sgn_cases (m * n) with ⟨_, q⟩ | ⟨_, q⟩ | ⟨_, q⟩ <;> omega
theorem sgn_neg (n : Int) : sgn (-n) = - sgn n := by
  rcases sgn_cases n with ⟨g, f⟩ | ⟨g, f⟩ | ⟨g, f⟩ <;> rcases sgn_cases (-n) with ⟨h, e⟩ | ⟨h, e⟩ | ⟨h, e⟩ <;> omega
theorem sgn_pos {n : Int} (h : 0 < n) : sgn n = 1 := by rcases sgn_cases n with ⟨g, f⟩ | ⟨g, f⟩ | ⟨g, f⟩ <;> omega
theorem sgn_unit {n : Int} (h : n ≠ 0) : sgn n = 1 ∨ sgn n = -1 := by rcases sgn_cases n with ⟨g, f⟩ | ⟨g, f⟩ | ⟨g, f⟩ <;> omega
theorem ord_swap (a b : Pt) : ord b a = - ord a b := by
  unfold ord
  rw [show b.1 * a.2.2 - a.1 * b.2.2 = -(a.1 * b.2.2 - b.1 * a.2.2) by omega, show b.2.1 * a.2.2 - a.2.1 * b.2.2 = -(a.2.1 * b.2.2 - b.2.1 * a.2.2) by omega, sgn_neg, sgn_neg]
  by_cases h : sgn (a.1 * b.2.2 - b.1 * a.2.2) = 0
  · rw [if_neg (by omega), if_neg (by omega)]
  · rw [if_pos (by omega), if_pos (by omega)]
/-- signs that turn together -/
theorem ord_scale {a b p q : Pt} {k : Int} (hk : k = 1 ∨ k = -1) (h1 : sgn (p.1 * q.2.2 - q.1 * p.2.2) = k * sgn (a.1 * b.2.2 - b.1 * a.2.2)) (h2 : sgn (p.2.1 * q.2.2 - q.2.1 * p.2.2) = k * sgn (a.2.1 * b.2.2 - b.2.1 * a.2.2)) : ord p q = k * ord a b := by
  unfold ord
  rw [h1, h2]
  by_cases h : sgn (a.1 * b.2.2 - b.1 * a.2.2) = 0
  · rw [h, Int.mul_zero, if_neg (by simp), if_neg (by simp)]
  · have : k * sgn (a.1 * b.2.2 - b.1 * a.2.2) ≠ 0 := Int.mul_ne_zero (by omega) h
    rw [if_pos this, if_pos h]
theorem unit_solve {s w t : Int} (hw : w = 1 ∨ w = -1) (h : s * w = t) : s = w * t := by
  rcases hw with rfl | rfl
  · omega
  · omega
theorem meet_ord {a b c d p : Pt} (h : Meet a b c d p) (ha : 0 < a.2.2) (hw : whl a b c d ≠ 0) (hDa : dbl c d a ≠ 0) (hDb : dbl c d b ≠ 0) :
    ord a p = (sgn (whl a b c d) * sgn (dbl c d a)) * ord a b ∧ ord p b = (- (sgn (whl a b c d) * sgn (dbl c d b))) * ord a b ∧ dbl a b p = 0 := by
  have e1 := h.ex
  have e2 := h.ey
  have hp := sgn_pos h.pos
  have uw := sgn_unit hw
  have ua := sgn_unit hDa
  have ub := sgn_unit hDb
  have hwe := whl_eq a b c d
  have a0 : a.2.2 ≠ 0 := Int.ne_of_gt ha
  refine ⟨ord_scale ?_ ?_ ?_, ord_scale ?_ ?_ ?_, ?_⟩
  · rcases uw with q | q <;> rcases ua with r | r <;> rw [q, r] <;> decide
  · have k : (a.1 * p.2.2 - p.1 * a.2.2) * whl a b c d = (p.2.2 * dbl c d a) * (a.1 * b.2.2 - b.1 * a.2.2) := by
      rw [show (a.1 * p.2.2 - p.1 * a.2.2) * whl a b c d = a.1 * p.2.2 * whl a b c d - p.1 * (a.2.2 * whl a b c d) by grind, e1]
      simp only [wx]
      grind
    have k2 := congrArg sgn k
    rw [sgn_mul, sgn_mul, sgn_mul, hp, Int.one_mul] at k2
    rw [unit_solve uw k2]
    grind
  · have k : (a.2.1 * p.2.2 - p.2.1 * a.2.2) * whl a b c d = (p.2.2 * dbl c d a) * (a.2.1 * b.2.2 - b.2.1 * a.2.2) := by
      rw [show (a.2.1 * p.2.2 - p.2.1 * a.2.2) * whl a b c d = a.2.1 * p.2.2 * whl a b c d - p.2.1 * (a.2.2 * whl a b c d) by grind, e2]
      simp only [wy]
      grind
    have k2 := congrArg sgn k
    rw [sgn_mul, sgn_mul, sgn_mul, hp, Int.one_mul] at k2
    rw [unit_solve uw k2]
    grind
  · rcases uw with q | q <;> rcases ub with r | r <;> rw [q, r] <;> decide
  · have k : (p.1 * b.2.2 - b.1 * p.2.2) * whl a b c d = (p.2.2 * dbl c d b) * -(a.1 * b.2.2 - b.1 * a.2.2) := by
      refine Int.eq_of_mul_eq_mul_right a0 ?_
      rw [show (p.1 * b.2.2 - b.1 * p.2.2) * whl a b c d * a.2.2 = p.1 * (a.2.2 * whl a b c d) * b.2.2 - b.1 * p.2.2 * whl a b c d * a.2.2 by grind, e1]
      rw [show (a.1 * whl a b c d + dbl c d a * wx a b) * p.2.2 * b.2.2 - b.1 * p.2.2 * whl a b c d * a.2.2 = ((a.1 * b.2.2 - b.1 * a.2.2) * whl a b c d + dbl c d a * b.2.2 * wx a b) * p.2.2 by grind]
      rw [hwe]
      simp only [wx]
      grind
    have k2 := congrArg sgn k
    rw [sgn_mul, sgn_mul, sgn_mul, hp, Int.one_mul, sgn_neg] at k2
    rw [unit_solve uw k2]
    grind
  · have k : (p.2.1 * b.2.2 - b.2.1 * p.2.2) * whl a b c d = (p.2.2 * dbl c d b) * -(a.2.1 * b.2.2 - b.2.1 * a.2.2) := by
      refine Int.eq_of_mul_eq_mul_right a0 ?_
      rw [show (p.2.1 * b.2.2 - b.2.1 * p.2.2) * whl a b c d * a.2.2 = p.2.1 * (a.2.2 * whl a b c d) * b.2.2 - b.2.1 * p.2.2 * whl a b c d * a.2.2 by grind, e2]
      rw [show (a.2.1 * whl a b c d + dbl c d a * wy a b) * p.2.2 * b.2.2 - b.2.1 * p.2.2 * whl a b c d * a.2.2 = ((a.2.1 * b.2.2 - b.2.1 * a.2.2) * whl a b c d + dbl c d a * b.2.2 * wy a b) * p.2.2 by grind]
      rw [hwe]
      simp only [wy]
      grind
    have k2 := congrArg sgn k
    rw [sgn_mul, sgn_mul, sgn_mul, hp, Int.one_mul, sgn_neg] at k2
    rw [unit_solve uw k2]
    grind
  · refine Int.eq_of_mul_eq_mul_right (Int.mul_ne_zero a0 hw) ?_
    rw [Int.zero_mul]
    have q : dbl a b p * (a.2.2 * whl a b c d) = (p.2.1 * (a.2.2 * whl a b c d)) * wx a b - (p.1 * (a.2.2 * whl a b c d)) * wy a b + p.2.2 * (a.1 * b.2.1 - a.2.1 * b.1) * (a.2.2 * whl a b c d) := by
      simp only [dbl, wx, wy]
      grind
    rw [q, e1, e2]
    simp only [wx, wy]
    grind
def betw (a b p : Pt) : Bool :=
  if trn a b p ≠ 0 ∨ a = b then decide (p = a) else
  if ord a b < 0 then decide (ord a p ≤ 0) && decide (ord p b ≤ 0) else decide (ord b p ≤ 0) && decide (ord p a ≤ 0)
theorem betw_meet {a b c d p : Pt} (h : Meet a b c d p) (ha : 0 < a.2.2) (hb : 0 < b.2.2) (hw : whl a b c d ≠ 0) (hDa : dbl c d a ≠ 0) (hDb : dbl c d b ≠ 0) (hab : ord a b ≠ 0) : betw a b p = decide (trn c d a * trn c d b < 0) := by
  obtain ⟨o1, o2, o3⟩ := meet_ord h ha hw hDa hDb
  have hne : a ≠ b := fun z => hab (by
    subst z
    have := ord_swap a a
    omega)
  have ho : ord a b = 1 ∨ ord a b = -1 := by
    have h1 := sgn_bd (a.1 * b.2.2 - b.1 * a.2.2)
    have h2 := sgn_bd (a.2.1 * b.2.2 - b.2.1 * a.2.2)
    unfold ord at hab ⊢
    split at hab <;> rename_i q
    · rw [if_pos q]; omega
    · rw [if_neg q]; omega
  have ht : trn a b p = 0 := by unfold trn; rw [o3]; rfl
  have s1 := ord_swap p b
  have s2 := ord_swap a p
  unfold betw
  rw [if_neg (by rintro (z | z); exact z ht; exact hne z)]
  have uw := sgn_unit hw
  have ua := sgn_unit hDa
  have ub := sgn_unit hDb
  have hwe := whl_eq a b c d
  have k1 : sgn (dbl c d a) = 1 → sgn (dbl c d b) = -1 → sgn (whl a b c d) = 1 := fun q r => by
    have d1 : 0 < dbl c d a := by rcases sgn_cases (dbl c d a) with ⟨g, f⟩ | ⟨g, f⟩ | ⟨g, f⟩ <;> omega
    have d2 : dbl c d b < 0 := by rcases sgn_cases (dbl c d b) with ⟨g, f⟩ | ⟨g, f⟩ | ⟨g, f⟩ <;> omega
    have m1 := Int.mul_pos d1 hb
    have m2 := Int.mul_neg_of_neg_of_pos d2 ha
    exact sgn_pos (by omega)
  have k2 : sgn (dbl c d a) = -1 → sgn (dbl c d b) = 1 → sgn (whl a b c d) = -1 := fun q r => by
    have d1 : dbl c d a < 0 := by rcases sgn_cases (dbl c d a) with ⟨g, f⟩ | ⟨g, f⟩ | ⟨g, f⟩ <;> omega
    have d2 : 0 < dbl c d b := by rcases sgn_cases (dbl c d b) with ⟨g, f⟩ | ⟨g, f⟩ | ⟨g, f⟩ <;> omega
    have m1 := Int.mul_neg_of_neg_of_pos d1 hb
    have m2 := Int.mul_pos d2 ha
    rcases sgn_cases (whl a b c d) with ⟨g, f⟩ | ⟨g, f⟩ | ⟨g, f⟩ <;> omega
  rw [o1] at s2
  rw [o2] at s1
  rw [s1, s2, o1, o2]
  unfold trn
  generalize sgn (whl a b c d) = W at *
  generalize sgn (dbl c d a) = A at *
  generalize sgn (dbl c d b) = Bb at *
  generalize ord a b = O at *
  rcases ho with rfl | rfl <;> rcases ua with rfl | rfl <;> rcases ub with rfl | rfl <;> rcases uw with rfl | rfl <;> first | decide | (exfalso; have := k1 rfl rfl; omega) | (exfalso; have := k2 rfl rfl; omega)
end Q40
end

section
set_option maxRecDepth 100000
set_option maxHeartbeats 4000000
namespace Q40
open PySem PySem.Spec PyProof.Rows L2

def F_lcross : List PyData → PyData → Prop := fun ds r => ∃ a b c d : Pt, Sm a ∧ Sm b ∧ Sm c ∧ Sm d ∧ ds = [pD a, pD b, pD c, pD d] ∧ r = (if whl a b c d = 0 then .none else pD (lcross a b c d))
def F_betw : List PyData → PyData → Prop := fun ds r => ∃ a b p : Pt, Sm a ∧ Sm b ∧ ds = [pD a, pD b, pD p] ∧ r = .bool (betw a b p)
/-- four points of which no three are on a line -/
structure Gen4 (a b c d : Pt) : Prop where
  abc : dbl a b c ≠ 0
  abd : dbl a b d ≠ 0
  cda : dbl c d a ≠ 0
  cdb : dbl c d b ≠ 0
  sa : Sm a
  sb : Sm b
  sc : Sm c
  sd : Sm d
def F_common : List PyData → PyData → Prop := fun ds r => ∃ a b c d : Pt, Gen4 a b c d ∧ ds = [pD a, pD b, pD c, pD d] ∧ r = .tuple (if crs a b c d = true then [pD (lcross a b c d)] else [])
theorem sized {a b c d : Pt} (ha : Sm a) (hb : Sm b) (hc : Sm c) (hd : Sm d) (hw : whl a b c d ≠ 0) :
    Bd 300 (cPart a b c d).1 ∧ Bd 300 (cPart a b c d).2 ∧ 0 < (cPart a b c d).2 ∧ Bd 700 (cX a b c d).1 ∧ Bd 700 (cX a b c d).2 ∧ Bd 700 (cY a b c d).1 ∧ Bd 700 (cY a b c d).2 ∧ Bd 200 (whl a b c d) ∧ Bd 300 (ratMul (cOne a b c d) (rat (b.2.2 * a.2.2) (whl a b c d))).1 ∧ Bd 300 (ratMul (cOne a b c d) (rat (b.2.2 * a.2.2) (whl a b c d))).2 ∧
      0 < (ratMul (cOne a b c d) (rat (b.2.2 * a.2.2) (whl a b c d))).2 := by
  have a0 : a.2.2 ≠ 0 := Int.ne_of_gt ha.w.1
  have b0 : b.2.2 ≠ 0 := Int.ne_of_gt hb.w.1
  have c0 : c.2.2 ≠ 0 := Int.ne_of_gt hc.w.1
  have wW : Bd 107 (whl a b c d) := ((ha.wx hb).mul (hc.wy hd)).sub ((ha.wy hb).mul (hc.wx hd))
  have o1 : Bd 107 (cOne a b c d).1 := Bd.le (((ha.wx hc).mul (hc.wy hd)).sub ((ha.wy hc).mul (hc.wx hd))) rat_bd1
  have o2 : Bd 22 (cOne a b c d).2 := Bd.le (hc.bw.mul ha.bw) rat_bd2
  have o3 : 0 < (cOne a b c d).2 := rat_sgn (Int.mul_ne_zero c0 a0)
  have r1 : Bd 22 (rat (b.2.2 * a.2.2) (whl a b c d)).1 := Bd.le (hb.bw.mul ha.bw) rat_bd1
  have r2 : Bd 107 (rat (b.2.2 * a.2.2) (whl a b c d)).2 := Bd.le wW rat_bd2
  have r3 : 0 < (rat (b.2.2 * a.2.2) (whl a b c d)).2 := rat_sgn hw
  have p1 : Bd 129 (ratMul (cOne a b c d) (rat (b.2.2 * a.2.2) (whl a b c d))).1 := Bd.le (o1.mul r1) rat_bd1
  have p2 : Bd 129 (ratMul (cOne a b c d) (rat (b.2.2 * a.2.2) (whl a b c d))).2 := Bd.le (o2.mul r2) rat_bd2
  have p3 : 0 < (ratMul (cOne a b c d) (rat (b.2.2 * a.2.2) (whl a b c d))).2 := rat_sgn (Int.ne_of_gt (Int.mul_pos o3 r3))
  have u1 : Bd 1 (rat 1 1).1 := by show (rat 1 1).1.natAbs < 2; decide
  have u2 : Bd 1 (rat 1 1).2 := by show (rat 1 1).2.natAbs < 2; decide
  have u3 : 0 < (rat 1 1).2 := by decide
  have q1 : Bd 130 (cPart a b c d).1 := Bd.le (p1.mul u1) rat_bd1
  have q2 : Bd 130 (cPart a b c d).2 := Bd.le (p2.mul u2) rat_bd2
  have q3 : 0 < (cPart a b c d).2 := rat_sgn (Int.ne_of_gt (Int.mul_pos p3 u3))
  have x1 : Bd 53 (rat (wx a b) (a.2.2 * b.2.2)).1 := Bd.le (ha.wx hb) rat_bd1
  have x2 : Bd 22 (rat (wx a b) (a.2.2 * b.2.2)).2 := Bd.le (ha.bw.mul hb.bw) rat_bd2
  have x3 : 0 < (rat (wx a b) (a.2.2 * b.2.2)).2 := rat_sgn (Int.mul_ne_zero a0 b0)
  have y1 : Bd 53 (rat (wy a b) (a.2.2 * b.2.2)).1 := Bd.le (ha.wy hb) rat_bd1
  have y2 : Bd 22 (rat (wy a b) (a.2.2 * b.2.2)).2 := Bd.le (ha.bw.mul hb.bw) rat_bd2
  have y3 : 0 < (rat (wy a b) (a.2.2 * b.2.2)).2 := rat_sgn (Int.mul_ne_zero a0 b0)
  have s1 : Bd 183 (ratMul (cPart a b c d) (rat (wx a b) (a.2.2 * b.2.2))).1 := Bd.le (q1.mul x1) rat_bd1
  have s2 : Bd 152 (ratMul (cPart a b c d) (rat (wx a b) (a.2.2 * b.2.2))).2 := Bd.le (q2.mul x2) rat_bd2
  have t1 : Bd 183 (ratMul (cPart a b c d) (rat (wy a b) (a.2.2 * b.2.2))).1 := Bd.le (q1.mul y1) rat_bd1
  have t2 : Bd 152 (ratMul (cPart a b c d) (rat (wy a b) (a.2.2 * b.2.2))).2 := Bd.le (q2.mul y2) rat_bd2
  have m1 : Bd 41 (rat a.1 a.2.2).1 := Bd.le ha.bx rat_bd1
  have m2 : Bd 11 (rat a.1 a.2.2).2 := Bd.le ha.bw rat_bd2
  have n1 : Bd 41 (rat a.2.1 a.2.2).1 := Bd.le ha.by' rat_bd1
  have n2 : Bd 11 (rat a.2.1 a.2.2).2 := Bd.le ha.bw rat_bd2
  refine ⟨q1.mono (by decide), q2.mono (by decide), q3, Bd.le (Bd.mono (((m1.mul s2).mono (j := 194) (by decide)).add ((s1.mul m2).mono (j := 194) (by decide))) (by decide)) rat_bd1, Bd.le ((m2.mul s2).mono (by decide)) rat_bd2,
    Bd.le (Bd.mono (((n1.mul t2).mono (j := 194) (by decide)).add ((t1.mul n2).mono (j := 194) (by decide))) (by decide)) rat_bd1, Bd.le ((n2.mul t2).mono (by decide)) rat_bd2, wW.mono (by decide), p1.mono (by decide), p2.mono (by decide), p3⟩
section
variable {P : Program} {w : World} {K : PySem.W.Frag} {mg : Str → Option Value} {base : Heap} {f : Addr} {fd : FuncData}
theorem ok_law_cross (Fn : Fun K "_law_cross" "_law_cross" s_law_cross f fd) (GR : Callee P w K mg base "_law_ratio" 2 F_rat) (GT : Callee P w K mg base "_law_times" 3 F_times) (GP : Callee P w K mg base "_law_plus" 3 F_plus) (GL : Callee P w K mg base "_law_lowest" 2 F_low) : FnOk P w K mg base CX0 4 f fd ["_law_a", "_law_b", "_law_c", "_law_d"] (spF K F_lcross) := by
  refine pure_ok Fn sc_law_cross (fun ds r h => by obtain ⟨a, b, c, d, _, _, _, _, rfl, _⟩ := h; rfl) fun cdv A outer s H E hr ds r h => ?_
  obtain ⟨a, b, c, d, ha, hb, hc, hd, rfl, rfl⟩ := h
  have a0 : a.2.2 ≠ 0 := Int.ne_of_gt ha.w.1
  have b0 : b.2.2 ≠ 0 := Int.ne_of_gt hb.w.1
  have c0 : c.2.2 ≠ 0 := Int.ne_of_gt hc.w.1
  refine bk_cons (st_par (i := 4) (j := 5) (x := .int (wx a b)) (y := .int (wy a b)) (ev_sub (ev_mul (ev_ixT (ev_var 1) ev_int) (ev_ixT (ev_var 0) ev_int) (hb.bx.l (by decide))) (ev_mul (ev_ixT (ev_var 0) ev_int) (ev_ixT (ev_var 1) ev_int) (ha.bx.l (by decide))))
    (ev_sub (ev_mul (ev_ixT (ev_var 1) ev_int) (ev_ixT (ev_var 0) ev_int) (hb.by'.l (by decide))) (ev_mul (ev_ixT (ev_var 0) ev_int) (ev_ixT (ev_var 1) ev_int) (ha.by'.l (by decide)))) ?_ sc_law_cross.nd)
  refine bk_cons (st_par (i := 6) (j := 7) (x := .int (wx c d)) (y := .int (wy c d)) (ev_sub (ev_mul (ev_ixT (ev_var 3) ev_int) (ev_ixT (ev_var 2) ev_int) (hd.bx.l (by decide))) (ev_mul (ev_ixT (ev_var 2) ev_int) (ev_ixT (ev_var 3) ev_int) (hc.bx.l (by decide))))
    (ev_sub (ev_mul (ev_ixT (ev_var 3) ev_int) (ev_ixT (ev_var 2) ev_int) (hd.by'.l (by decide))) (ev_mul (ev_ixT (ev_var 2) ev_int) (ev_ixT (ev_var 3) ev_int) (hc.by'.l (by decide)))) ?_ sc_law_cross.nd)
  refine bk_cons (st_set (i := 8) (d := .int (whl a b c d)) (ev_sub (ev_mul (ev_var 4) (ev_var 7) ((ha.wx hb).l (by decide))) (ev_mul (ev_var 5) (ev_var 6) ((ha.wy hb).l (by decide)))) ?_ sc_law_cross.nd)
  refine bk_cons (st_if ((et_eq hr (ev_var 8) ev_int (shaped_int _) (shaped_int _)).is (eqv_int _ _)) (fun h => ?_) (fun h => bk_nil ?_))
  · refine bk_cons (st_ret ev_non ?_)
    rw [decide_eq_true_eq] at h
    show PyData.none = if whl a b c d = 0 then PyData.none else _
    rw [if_pos h]
  rw [decide_eq_false_iff_not] at h
  obtain ⟨q1, q2, q3, x1, x2, y1, y2, wW, p1, p2, p3⟩ := sized ha hb hc hd h
  have acx : CMul (wx a c) (wy c d) := (ha.wx hc).l (by decide)
  have acy : CMul (wy a c) (wx c d) := (ha.wy hc).l (by decide)
  have hca : 0 < c.2.2 * a.2.2 := Int.mul_pos hc.w.1 ha.w.1
  have hab : 0 < a.2.2 * b.2.2 := Int.mul_pos ha.w.1 hb.w.1
  have hba : 0 < b.2.2 * a.2.2 := Int.mul_pos hb.w.1 ha.w.1
  have o1 : Bd 107 (cOne a b c d).1 := Bd.le (((ha.wx hc).mul (hc.wy hd)).sub ((ha.wy hc).mul (hc.wx hd))) rat_bd1
  have o2 : Bd 22 (cOne a b c d).2 := Bd.le (hc.bw.mul ha.bw) rat_bd2
  have o3 : 0 < (cOne a b c d).2 := rat_sgn (Int.ne_of_gt hca)
  refine bk_cons (st_set (i := 9) (d := rD (cOne a b c d)) (ev_call GR hr (by decide) (ea_cons (ev_sub (ev_mul (ev_sub (ev_mul (ev_ixT (ev_var 2) ev_int) (ev_ixT (ev_var 0) ev_int) (hc.bx.l (by decide))) (ev_mul (ev_ixT (ev_var 0) ev_int) (ev_ixT (ev_var 2) ev_int) (ha.bx.l (by decide)))) (ev_var 7) acx)
    (ev_mul (ev_sub (ev_mul (ev_ixT (ev_var 2) ev_int) (ev_ixT (ev_var 0) ev_int) (hc.by'.l (by decide))) (ev_mul (ev_ixT (ev_var 0) ev_int) (ev_ixT (ev_var 2) ev_int) (ha.by'.l (by decide)))) (ev_var 6) acy))
    (ea_cons (ev_mul (ev_ixT (ev_var 2) ev_int) (ev_ixT (ev_var 0) ev_int) (hc.bw.l (by decide))) ea_nil)) ⟨_, _, .inl ⟨hca, (hc.bw.mul ha.bw).mono (by decide)⟩, rfl, rfl⟩) ?_ sc_law_cross.nd)
  have hw2 : (0 < whl a b c d ∧ Bd 8000 (whl a b c d)) ∨ (whl a b c d < 0 ∧ b.2.2 * a.2.2 ≠ 0 ∧ (b.2.2 * a.2.2).natAbs < 1073741824) := by
    rcases Int.lt_trichotomy (whl a b c d) 0 with z | z | z
    · refine .inr ⟨z, Int.ne_of_gt hba, ?_⟩
      have : (b.2.2 * a.2.2).natAbs < 4194304 := hb.bw.mul ha.bw
      omega
    · exact absurd z h
    · exact .inl ⟨z, wW.mono (by decide)⟩
  have r1 : Bd 22 (rat (b.2.2 * a.2.2) (whl a b c d)).1 := Bd.le (hb.bw.mul ha.bw) rat_bd1
  have r2 : Bd 200 (rat (b.2.2 * a.2.2) (whl a b c d)).2 := Bd.le wW rat_bd2
  have r3 : 0 < (rat (b.2.2 * a.2.2) (whl a b c d)).2 := rat_sgn h
  refine bk_cons (st_set (i := 10) (d := rD (ratMul (cOne a b c d) (rat (b.2.2 * a.2.2) (whl a b c d)))) (ev_call GT hr (by decide) (ea_cons (ev_var 9) (ea_cons (ev_call GR hr (by decide) (ea_cons (ev_mul (ev_ixT (ev_var 1) ev_int) (ev_ixT (ev_var 0) ev_int) (hb.bw.l (by decide))) (ea_cons (ev_var 8) ea_nil)) ⟨_, _, hw2, rfl, rfl⟩) ea_nil))
    ⟨cOne a b c d, rat (b.2.2 * a.2.2) (whl a b c d), o1.mono (by decide), o2.mono (by decide), r1.mono (by decide), r2.mono (by decide), o3, r3, rfl, rfl⟩) ?_ sc_law_cross.nd)
  have u1 : Bd 1 (rat 1 1).1 := by show (rat 1 1).1.natAbs < 2; decide
  have u2 : Bd 1 (rat 1 1).2 := by show (rat 1 1).2.natAbs < 2; decide
  have u3 : 0 < (rat 1 1).2 := by decide
  refine bk_cons (st_set (i := 10) (d := rD (cPart a b c d)) (ev_call GT hr (by decide) (ea_cons (ev_var 10) (ea_cons (ev_call GR hr (by decide) (ea_cons ev_int (ea_cons ev_int ea_nil)) ⟨1, 1, .inl ⟨by decide, by show (1 : Int).natAbs < 2 ^ 8000; exact Nat.one_lt_two_pow (by decide)⟩, rfl, rfl⟩) ea_nil))
    ⟨ratMul (cOne a b c d) (rat (b.2.2 * a.2.2) (whl a b c d)), rat 1 1, p1.mono (by decide), p2.mono (by decide), u1.mono (by decide), u2.mono (by decide), p3, u3, rfl, rfl⟩) ?_ sc_law_cross.nd)
  have X1 : Bd 53 (rat (wx a b) (a.2.2 * b.2.2)).1 := Bd.le (ha.wx hb) rat_bd1
  have X2 : Bd 22 (rat (wx a b) (a.2.2 * b.2.2)).2 := Bd.le (ha.bw.mul hb.bw) rat_bd2
  have X3 : 0 < (rat (wx a b) (a.2.2 * b.2.2)).2 := rat_sgn (Int.ne_of_gt hab)
  have Y1 : Bd 53 (rat (wy a b) (a.2.2 * b.2.2)).1 := Bd.le (ha.wy hb) rat_bd1
  have Y2 : Bd 22 (rat (wy a b) (a.2.2 * b.2.2)).2 := Bd.le (ha.bw.mul hb.bw) rat_bd2
  have Y3 : 0 < (rat (wy a b) (a.2.2 * b.2.2)).2 := rat_sgn (Int.ne_of_gt hab)
  have S1 : Bd 353 (ratMul (cPart a b c d) (rat (wx a b) (a.2.2 * b.2.2))).1 := Bd.le (q1.mul X1) rat_bd1
  have S2 : Bd 322 (ratMul (cPart a b c d) (rat (wx a b) (a.2.2 * b.2.2))).2 := Bd.le (q2.mul X2) rat_bd2
  have S3 : 0 < (ratMul (cPart a b c d) (rat (wx a b) (a.2.2 * b.2.2))).2 := rat_sgn (Int.ne_of_gt (Int.mul_pos q3 X3))
  have T1 : Bd 353 (ratMul (cPart a b c d) (rat (wy a b) (a.2.2 * b.2.2))).1 := Bd.le (q1.mul Y1) rat_bd1
  have T2 : Bd 322 (ratMul (cPart a b c d) (rat (wy a b) (a.2.2 * b.2.2))).2 := Bd.le (q2.mul Y2) rat_bd2
  have T3 : 0 < (ratMul (cPart a b c d) (rat (wy a b) (a.2.2 * b.2.2))).2 := rat_sgn (Int.ne_of_gt (Int.mul_pos q3 Y3))
  have m1 : Bd 41 (rat a.1 a.2.2).1 := Bd.le ha.bx rat_bd1
  have m2 : Bd 11 (rat a.1 a.2.2).2 := Bd.le ha.bw rat_bd2
  have m3 : 0 < (rat a.1 a.2.2).2 := rat_sgn a0
  have n1 : Bd 41 (rat a.2.1 a.2.2).1 := Bd.le ha.by' rat_bd1
  have n2 : Bd 11 (rat a.2.1 a.2.2).2 := Bd.le ha.bw rat_bd2
  have n3 : 0 < (rat a.2.1 a.2.2).2 := rat_sgn a0
  refine bk_cons (st_set (i := 11) (d := rD (cX a b c d)) (ev_call GP hr (by decide) (ea_cons (ev_call GR hr (by decide) (ea_cons (ev_ixT (ev_var 0) ev_int) (ea_cons (ev_ixT (ev_var 0) ev_int) ea_nil)) ⟨_, _, .inl ⟨ha.w.1, ha.bw.mono (by decide)⟩, rfl, rfl⟩)
    (ea_cons (ev_call GT hr (by decide) (ea_cons (ev_var 10) (ea_cons (ev_call GR hr (by decide) (ea_cons (ev_var 4) (ea_cons (ev_mul (ev_ixT (ev_var 0) ev_int) (ev_ixT (ev_var 1) ev_int) (ha.bw.l (by decide))) ea_nil)) ⟨_, _, .inl ⟨hab, (ha.bw.mul hb.bw).mono (by decide)⟩, rfl, rfl⟩) ea_nil))
      ⟨cPart a b c d, rat (wx a b) (a.2.2 * b.2.2), q1.mono (by decide), q2.mono (by decide), X1.mono (by decide), X2.mono (by decide), q3, X3, rfl, rfl⟩) ea_nil))
    ⟨rat a.1 a.2.2, ratMul (cPart a b c d) (rat (wx a b) (a.2.2 * b.2.2)), m1.mono (by decide), m2.mono (by decide), S1.mono (by decide), S2.mono (by decide), m3, S3, rfl, rfl⟩) ?_ sc_law_cross.nd)
  refine bk_cons (st_set (i := 12) (d := rD (cY a b c d)) (ev_call GP hr (by decide) (ea_cons (ev_call GR hr (by decide) (ea_cons (ev_ixT (ev_var 0) ev_int) (ea_cons (ev_ixT (ev_var 0) ev_int) ea_nil)) ⟨_, _, .inl ⟨ha.w.1, ha.bw.mono (by decide)⟩, rfl, rfl⟩)
    (ea_cons (ev_call GT hr (by decide) (ea_cons (ev_var 10) (ea_cons (ev_call GR hr (by decide) (ea_cons (ev_var 5) (ea_cons (ev_mul (ev_ixT (ev_var 0) ev_int) (ev_ixT (ev_var 1) ev_int) (ha.bw.l (by decide))) ea_nil)) ⟨_, _, .inl ⟨hab, (ha.bw.mul hb.bw).mono (by decide)⟩, rfl, rfl⟩) ea_nil))
      ⟨cPart a b c d, rat (wy a b) (a.2.2 * b.2.2), q1.mono (by decide), q2.mono (by decide), Y1.mono (by decide), Y2.mono (by decide), q3, Y3, rfl, rfl⟩) ea_nil))
    ⟨rat a.2.1 a.2.2, ratMul (cPart a b c d) (rat (wy a b) (a.2.2 * b.2.2)), n1.mono (by decide), n2.mono (by decide), T1.mono (by decide), T2.mono (by decide), n3, T3, rfl, rfl⟩) ?_ sc_law_cross.nd)
  have hX : 0 < (cX a b c d).2 := rat_sgn (Int.ne_of_gt (Int.mul_pos m3 S3))
  have hY : 0 < (cY a b c d).2 := rat_sgn (Int.ne_of_gt (Int.mul_pos n3 T3))
  refine bk_cons (st_ret (ev_call GL hr (by decide) (ea_cons (ev_mulW (ev_ixT (ev_var 11) ev_int) (ev_ixT (ev_var 12) ev_int) (x1.w y2 (by decide) (by decide) (by decide))) (ea_cons (ev_mulW (ev_ixT (ev_var 12) ev_int) (ev_ixT (ev_var 11) ev_int) (y1.w x2 (by decide) (by decide) (by decide))) (ea_cons (ev_mulW (ev_ixT (ev_var 11) ev_int) (ev_ixT (ev_var 12) ev_int) (x2.w y2 (by decide) (by decide) (by decide))) ea_nil)))
    ⟨_, _, _, Int.mul_pos hX hY, (x2.mul y2).mono (by decide), rfl, rfl⟩) ?_)
  show _ = if whl a b c d = 0 then PyData.none else _
  rw [if_neg h, lcross_eq]
theorem ok_law_between (Fn : Fun K "_law_between" "_law_between" s_law_between f fd) (GT : Callee P w K mg base "_law_turn" 2 F_lturn) (GO : Callee P w K mg base "_law_order" 2 F_ord) : FnOk P w K mg base CX0 3 f fd ["_law_a", "_law_b", "_law_p"] (spF K F_betw) := by
  refine pure_ok Fn sc_law_between (fun ds r h => by obtain ⟨a, b, c, _, _, rfl, _⟩ := h; rfl) fun cdv A outer s H E hr ds r h => ?_
  obtain ⟨a, b, p, ha, hb, rfl, rfl⟩ := h
  refine bk_cons (st_if (et_w (ew_or ((et_ne hr (ev_call GT hr (by decide) (ea_cons (ev_var 0) (ea_cons (ev_var 1) (ea_cons (ev_var 2) ea_nil))) ⟨a, b, p, ha, hb, rfl, rfl⟩) ev_int (shaped_int _) (shaped_int _)).is (by rw [eqv_int])) fun _ => ew_or1 ((et_eq hr (ev_var 0) (ev_var 1) (shaped_pD _) (shaped_pD _)).is (eqv_pD _ _)))) (fun h => ?_) (fun h => bk_nil ?_))
  · refine bk_cons (st_ret (ev_eq hr (ev_var 2) (ev_var 0) (shaped_pD _) (shaped_pD _)) ?_)
    show PyData.bool _ = PyData.bool _
    unfold betw
    rw [eqv_pD, if_pos]
    rw [Bool.or_eq_true] at h
    rcases h with h | h
    · left
      intro z
      rw [decide_eq_true z] at h
      cases h
    · exact .inr (of_decide_eq_true h)
  rw [Bool.or_eq_false_iff] at h
  obtain ⟨h1, h2⟩ := h
  have n1 : ¬ (trn a b p ≠ 0 ∨ a = b) := by
    rintro (z | z)
    · rw [decide_eq_false z] at h1; cases h1
    · rw [decide_eq_true z] at h2; cases h2
  refine bk_cons (st_tup2 (i := 3) (j := 4) (x := if ord a b < 0 then pD a else pD b) (y := if ord a b < 0 then pD b else pD a) (ev_if (et_lt (ev_call GO hr (by decide) (ea_cons (ev_var 0) (ea_cons (ev_var 1) ea_nil)) ⟨a, b, .inl ha, rfl, rfl⟩) ev_int) (fun h => (ev_tup (ea_cons (ev_var 0) (ea_cons (ev_var 1) ea_nil))).is ?_) (fun h => (ev_tup (ea_cons (ev_var 1) (ea_cons (ev_var 0) ea_nil))).is ?_)) ?_ sc_law_between.nd)
  · have := of_decide_eq_true h
    rw [if_pos this, if_pos this]
  · have := of_decide_eq_false h
    rw [if_neg this, if_neg this]
  by_cases ho : ord a b < 0
  · rw [if_pos ho, if_pos ho]
    refine bk_cons (st_ret (ev_and (ev_le (ev_call GO hr (by decide) (ea_cons (ev_var 3) (ea_cons (ev_var 2) ea_nil)) ⟨a, p, .inl ha, rfl, rfl⟩) ev_int) fun _ => ev_one (ev_le (ev_call GO hr (by decide) (ea_cons (ev_var 2) (ea_cons (ev_var 4) ea_nil)) ⟨p, b, .inr hb, rfl, rfl⟩) ev_int)) ?_)
    show PyData.bool _ = PyData.bool _
    unfold betw
    rw [if_neg n1, if_pos ho]
  · rw [if_neg ho, if_neg ho]
    refine bk_cons (st_ret (ev_and (ev_le (ev_call GO hr (by decide) (ea_cons (ev_var 3) (ea_cons (ev_var 2) ea_nil)) ⟨b, p, .inl hb, rfl, rfl⟩) ev_int) fun _ => ev_one (ev_le (ev_call GO hr (by decide) (ea_cons (ev_var 2) (ea_cons (ev_var 4) ea_nil)) ⟨p, a, .inr ha, rfl, rfl⟩) ev_int)) ?_)
    show PyData.bool _ = PyData.bool _
    unfold betw
    rw [if_neg n1, if_neg ho]
end
end Q40
end

section
set_option maxRecDepth 100000
set_option maxHeartbeats 4000000
namespace Q40
open PySem PySem.Spec PyProof.Rows L2

/-! ### what two segments have in common -/
theorem ord_ne {a b c : Pt} (h : dbl a b c ≠ 0) (ha : 0 < a.2.2) : ord a b ≠ 0 := by
  intro z
  unfold ord at z
  have k : wx a b = 0 ∧ wy a b = 0 := by
    split at z
    · rename_i q; exact absurd z q
    · rename_i q
      have q1 : sgn (a.1 * b.2.2 - b.1 * a.2.2) = 0 := Decidable.of_not_not q
      unfold wx wy
      constructor
      · rcases sgn_cases (a.1 * b.2.2 - b.1 * a.2.2) with ⟨g, f⟩ | ⟨g, f⟩ | ⟨g, f⟩ <;> omega
      · rcases sgn_cases (a.2.1 * b.2.2 - b.2.1 * a.2.2) with ⟨g, f⟩ | ⟨g, f⟩ | ⟨g, f⟩ <;> omega
  have e := dbl_way a b c
  rw [k.1, k.2, Int.zero_mul, Int.mul_zero, Int.sub_self] at e
  exact Int.mul_ne_zero h (Int.ne_of_gt ha) e.symm
theorem dbl_aba (a b : Pt) : dbl a b a = 0 := by
  simp only [dbl]
  grind
theorem dbl_abb (a b : Pt) : dbl a b b = 0 := by
  simp only [dbl]
  grind
theorem dbl_aab (a b : Pt) : dbl a a b = 0 := by
  simp only [dbl]
  grind
theorem betw_no {c d a : Pt} (h : dbl c d a ≠ 0) : betw c d a = false := by
  unfold betw
  have ht : trn c d a ≠ 0 := by
    unfold trn
    rcases sgn_cases (dbl c d a) with ⟨g, f⟩ | ⟨g, f⟩ | ⟨g, f⟩ <;> omega
  rw [if_pos (.inl ht)]
  refine decide_eq_false fun z => h ?_
  rw [z]
  exact dbl_aba c d
theorem crs_par {a b c d : Pt} (g : Gen4 a b c d) (h : whl a b c d = 0) : crs a b c d = false := by
  unfold crs
  refine decide_eq_false fun z => ?_
  have e := whl_eq a b c d
  rw [h] at e
  have e2 : dbl c d a * b.2.2 = dbl c d b * a.2.2 := by omega
  have k := congrArg sgn e2
  rw [sgn_mul, sgn_mul, sgn_pos g.sb.w.1, sgn_pos g.sa.w.1, Int.mul_one, Int.mul_one] at k
  have z2 := z.2
  unfold trn at z2
  rw [k] at z2
  rcases sgn_cases (dbl c d b) with ⟨_, f⟩ | ⟨_, f⟩ | ⟨_, f⟩ <;> rw [f] at z2 <;> omega
theorem crs_meet {a b c d : Pt} (g : Gen4 a b c d) (h : whl a b c d ≠ 0) : (betw a b (lcross a b c d) && betw c d (lcross a b c d)) = crs a b c d := by
  obtain ⟨m, _⟩ := meet_lcross (d := d) g.sa.w.1 g.sb.w.1 g.sc.w.1 h
  have m2 := m.swap g.sa.w.1 h
  have h2 : whl c d a b ≠ 0 := by rw [whl_swap]; omega
  rw [betw_meet m g.sa.w.1 g.sb.w.1 h g.cda g.cdb (ord_ne g.abc g.sa.w.1), betw_meet m2 g.sc.w.1 g.sd.w.1 h2 g.abc g.abd (ord_ne g.cda g.sc.w.1)]
  unfold crs
  rw [Bool.eq_iff_iff, Bool.and_eq_true, decide_eq_true_eq, decide_eq_true_eq, decide_eq_true_eq]
  exact And.comm
section
variable {P : Program} {w : World} {K : PySem.W.Frag} {mg : Str → Option Value} {base : Heap} {f : Addr} {fd : FuncData}
theorem ok_law_common (Fn : Fun K "_law_common" "_law_common" s_law_common f fd) (B : NoB mg) (GC : Callee P w K mg base "_law_cross" 4 F_lcross) (GB : Callee P w K mg base "_law_between" 3 F_betw) : FnOk P w K mg base CX0 5 f fd ["_law_a", "_law_b", "_law_c", "_law_d"] (spF K F_common) := by
  refine pure_ok Fn sc_law_common (fun ds r h => by obtain ⟨a, b, c, d, _, rfl, _⟩ := h; rfl) fun cdv A outer s H E hr ds r h => ?_
  obtain ⟨a, b, c, d, g, rfl, rfl⟩ := h
  refine bk_cons (st_set (i := 4) (ev_call GC hr (by decide) (ea_cons (ev_var 0) (ea_cons (ev_var 1) (ea_cons (ev_var 2) (ea_cons (ev_var 3) ea_nil)))) ⟨a, b, c, d, g.sa, g.sb, g.sc, g.sd, rfl, rfl⟩) ?_ sc_law_common.nd)
  by_cases hw : whl a b c d = 0
  · rw [if_pos hw]
    refine bk_cons (st_if (et_notN true (ev_var 4) (fun H v h => by cases dp_non h; rfl)) (fun h => by cases h) fun _ => bk_nil ?_)
    refine bk_cons (st_lcL (i := 5) (own := [("_law_p", 4)]) (xs := [a, b]) (enc := pD) (fun p => betw c d p) pD (fun p => [some (pD a), some (pD b), some (pD c), some (pD d), some (pD p), none, none, none]) (ev_lst (ea_cons (ev_var 0) (ea_cons (ev_var 1) ea_nil)))
      (fun p _ => tg_name (by decide)) (fun p _ _ _ _ _ _ => ets_one (et_val (ev_call GB hr (by decide) (ea_cons (ev_var 2) (ea_cons (ev_var 3) (ea_cons (ev_var 4) ea_nil))) ⟨c, d, p, g.sc, g.sd, rfl, rfl⟩))) (fun p hpp _ _ _ _ _ _ => Ev.evX (ev_var 4) (by simp [pD, lfree, lfreeAll])) (Nat.le_of_ble_eq_true rfl)
      ?_ (fun _ _ _ _ _ => pg_name (i := 4) sc_law_common.nd rfl (.inl rfl)) (blkOk_by (N := n_law_common) (sc := defScope s_law_common) (by decide +kernel)) (sw_true rfl rfl rfl (by decide +kernel)) sc_law_common.nd)
    refine bk_cons (st_set (i := 5) (ev_catL (ev_var 5) (EvN.ev (en_lcL (own := [("_law_p", 4)]) (xs := [c, d]) (enc := pD) (fun p => betw a b p) pD (fun p => [some (pD a), some (pD b), some (pD c), some (pD d), some (pD p), some (.list (([a, b].filter fun p => betw c d p).map pD)), none, none]) (ev_lst (ea_cons (ev_var 2) (ea_cons (ev_var 3) ea_nil)))
      (fun p _ => tg_name (by decide)) (fun p _ _ _ _ _ _ => ets_one (et_val (ev_call GB hr (by decide) (ea_cons (ev_var 0) (ea_cons (ev_var 1) (ea_cons (ev_var 4) ea_nil))) ⟨a, b, p, g.sa, g.sb, rfl, rfl⟩))) (fun p hpp _ _ _ _ _ _ => Ev.evX (ev_var 4) (by simp [pD, lfree, lfreeAll])) (Nat.le_of_ble_eq_true rfl)
      (fun _ _ _ _ _ => pg_name (i := 4) sc_law_common.nd rfl (.inl rfl)) (blkOk_by (N := n_law_common) (sc := defScope s_law_common) (by decide +kernel)) sc_law_common.nd)) ?_) ?_ sc_law_common.nd)
    · rw [List.length_map, List.length_map]
      have := List.length_filter_le (fun p => betw c d p) [a, b]
      have := List.length_filter_le (fun p => betw a b p) [c, d]
      exact Nat.le_of_lt (small1000 (by simp only [List.length_cons, List.length_nil] at *; omega))
    have e1 : [a, b].filter (fun p => betw c d p) = [] := by simp [betw_no g.cda, betw_no g.cdb]
    have e2 : [c, d].filter (fun p => betw a b p) = [] := by simp [betw_no g.abc, betw_no g.abd]
    rw [e1, e2]
    refine bk_cons (st_if (p := true) ((et_eq hr (ev_var 5) (ev_lst ea_nil) (shapedL_nD []) (shapedL_nD [])).is (by simp [PyData.eqv, PyData.eqvAll])) (fun _ => ?_) (fun h => by cases h))
    refine bk_cons (st_ret (ev_tup ea_nil) ?_)
    show PyData.tuple [] = PyData.tuple (if crs a b c d = true then _ else _)
    rw [crs_par g hw]
    rfl
  · rw [if_neg hw]
    refine bk_cons (st_if (et_notN false (ev_var 4) (fun H v h => by obtain ⟨l, xs, rfl, _⟩ := dp_tup h; rfl)) (fun _ => ?_) (fun h => by cases h))
    refine bk_cons (st_ret (ev_if (et_w (ew_and (et_val (ev_call GB hr (by decide) (ea_cons (ev_var 0) (ea_cons (ev_var 1) (ea_cons (ev_var 4) ea_nil))) ⟨a, b, _, g.sa, g.sb, rfl, rfl⟩)) fun _ => ew_and1 (et_val (ev_call GB hr (by decide) (ea_cons (ev_var 2) (ea_cons (ev_var 3) (ea_cons (ev_var 4) ea_nil))) ⟨c, d, _, g.sc, g.sd, rfl, rfl⟩))))
      (fun h => (ev_tup (ea_cons (ev_var 4) ea_nil)).is (d' := .tuple (if crs a b c d = true then [pD (lcross a b c d)] else [])) ?_) (fun h => (ev_tup ea_nil).is ?_)) rfl)
    · rw [crs_meet g hw] at h
      rw [h]
      rfl
    · rw [crs_meet g hw] at h
      rw [h]
      rfl
end

/-! ### the law's words over edges -/
structure PtsG (ps : List Pt) : Prop where
  sm : ∀ p ∈ ps, Sm p
  hi : ps.length ≤ 12
  gen : ∀ i j k : Nat, i < ps.length → j < ps.length → k < ps.length → i ≠ j → j ≠ k → i ≠ k → dbl (ps.getD i (0, 0, 1)) (ps.getD j (0, 0, 1)) (ps.getD k (0, 0, 1)) ≠ 0
theorem PtsG.at {ps : List Pt} (h : PtsG ps) {i : Nat} (hi : i < ps.length) : ps[i]? = some (ps.getD i (0, 0, 1)) ∧ Sm (ps.getD i (0, 0, 1)) := by
  have e : ps[i]? = some ps[i] := List.getElem?_eq_getElem hi
  have e2 : ps.getD i (0, 0, 1) = ps[i] := by rw [List.getD_eq_getElem?_getD, e]; rfl
  rw [e2]
  exact ⟨e, h.sm _ (List.getElem_mem hi)⟩
def EdOk (n : Nat) (e : Ed) : Prop := e.1 < n ∧ e.2 < n ∧ e.1 ≠ e.2
def lpntT (t : Tau) (es : List Ed) (i : Nat) : Bool := decide ((endsT es i).length < 2) || (endsT es i).any fun j => ((endsT es i).filter fun k => decide (0 < t i j k)).isEmpty
def lcanT (t : Tau) (es : List Ed) (e : Ed) : Bool := !decide (e ∈ es) && (es.filter fun o => crsT t o e).isEmpty && lpntT t (es ++ [e]) e.1 && lpntT t (es ++ [e]) e.2
def F_lce : List PyData → PyData → Prop := fun ds r => ∃ (ps : List Pt) (e f : Ed), PtsG ps ∧ EdOk ps.length e ∧ EdOk ps.length f ∧ ds = [ptsT ps, eD e, eD f] ∧ r = .bool (crsT (tau ps) e f)
def F_lpnt : List PyData → PyData → Prop := fun ds r => ∃ (ps : List Pt) (es : List Ed) (i : Nat), PtsG ps ∧ es.length ≤ 100 ∧ (∀ e ∈ es, EdOk ps.length e) ∧ i < ps.length ∧ (ds = [ptsT ps, .list (es.map eD), nD i] ∨ ds = [ptsT ps, .tuple (es.map eD), nD i]) ∧ r = .bool (lpntT (tau ps) es i)
def F_lcan : List PyData → PyData → Prop := fun ds r => ∃ (ps : List Pt) (es : List Ed) (e : Ed), PtsG ps ∧ es.length ≤ 99 ∧ (∀ e ∈ es, EdOk ps.length e) ∧ EdOk ps.length e ∧ ds = [ptsT ps, .tuple (es.map eD), eD e] ∧ r = .bool (lcanT (tau ps) es e)
theorem trn_zero {a b c : Pt} (h : dbl a b c = 0) : trn a b c = 0 := by unfold trn; rw [h]; rfl
theorem blk_in {N : List Str} {sc scope scope2 : Scope} {own : List (Str × Nat)} {cl : List (Str × Addr)} {C : Addr} {env : Env} (hs : env.scope = sc) (h : blkC N (relS scope sc) scope2 own = true) : BlkOk N (compEnvC scope cl C env).scope scope2 own := by
  subst hs
  exact blkOk_by h
section
variable {P : Program} {w : World} {K : PySem.W.Frag} {mg : Str → Option Value} {base : Heap} {f : Addr} {fd : FuncData}
theorem ok_law_cross_edges (Fn : Fun K "_law_cross_edges" "_law_cross_edges" s_law_cross_edges f fd) (G : Callee P w K mg base "_law_common" 5 F_common) : FnOk P w K mg base CX0 6 f fd ["_law_points", "_law_one", "_law_other"] (spF K F_lce) := by
  refine pure_ok Fn sc_law_cross_edges (fun ds r h => by obtain ⟨a, b, c, _, _, _, rfl, _⟩ := h; rfl) fun cdv A outer s H E hr ds r h => ?_
  obtain ⟨ps, e, f, hp, he, hf, rfl, rfl⟩ := h
  obtain ⟨a1, a2⟩ := hp.at he.1
  obtain ⟨b1, b2⟩ := hp.at he.2.1
  obtain ⟨c1, c2⟩ := hp.at hf.1
  obtain ⟨d1, d2⟩ := hp.at hf.2.1
  have hin : ∀ n : Nat, ([PyData.int (f.1 : Int), PyData.int (f.2 : Int)].any fun z => PyData.eqv z (.int (n : Int))) = decide (n = f.1 ∨ n = f.2) := fun n => by
    simp only [List.any_cons, List.any_nil, Bool.or_false, eqv_int]
    rw [Bool.eq_iff_iff]
    simp only [Bool.or_eq_true, decide_eq_true_eq]
    omega
  refine bk_cons (st_if (et_w (ew_or ((et_inT hr (ev_ixT (ev_var 1) ev_int) (ev_var 2) (shaped_int _) (shapedL_nD [f.1, f.2])).is (hin e.1)) fun _ => ew_or1 ((et_inT hr (ev_ixT (ev_var 1) ev_int) (ev_var 2) (shaped_int _) (shapedL_nD [f.1, f.2])).is (hin e.2)))) (fun h => ?_) (fun h => bk_nil ?_))
  · refine bk_cons (st_ret ev_bl ?_)
    show PyData.bool false = PyData.bool _
    rw [Bool.or_eq_true, decide_eq_true_eq, decide_eq_true_eq] at h
    have : crsT (tau ps) e f = false := by
      unfold crsT tau
      refine decide_eq_false fun z => ?_
      rcases h with (h | h) | (h | h) <;> rw [← h] at z
      · rw [trn_zero (dbl_aba _ _)] at z; omega
      · rw [trn_zero (dbl_aba _ _)] at z; omega
      · rw [trn_zero (dbl_abb _ _)] at z; omega
      · rw [trn_zero (dbl_abb _ _)] at z; omega
    rw [this]
  rw [Bool.or_eq_false_iff, decide_eq_false_iff_not, decide_eq_false_iff_not] at h
  obtain ⟨h1, h2⟩ := h
  have h3 := he.2.2
  have h4 := hf.2.2
  have l1 := he.1; have l2 := he.2.1; have l3 := hf.1; have l4 := hf.2.1
  have g : Gen4 (ps.getD e.1 (0, 0, 1)) (ps.getD e.2 (0, 0, 1)) (ps.getD f.1 (0, 0, 1)) (ps.getD f.2 (0, 0, 1)) :=
    ⟨hp.gen _ _ _ l1 l2 l3 (by omega) (by omega) (by omega), hp.gen _ _ _ l1 l2 l4 (by omega) (by omega) (by omega), hp.gen _ _ _ l3 l4 l1 (by omega) (by omega) (by omega), hp.gen _ _ _ l3 l4 l2 (by omega) (by omega) (by omega), a2, b2, c2, d2⟩
  refine bk_cons (st_ret (ev_ne hr (ev_call G hr (by decide) (ea_cons (ev_ixT (ev_var 0) (ev_ixT (ev_var 1) ev_int) (atI_map a1)) (ea_cons (ev_ixT (ev_var 0) (ev_ixT (ev_var 1) ev_int) (atI_map b1)) (ea_cons (ev_ixT (ev_var 0) (ev_ixT (ev_var 2) ev_int) (atI_map c1)) (ea_cons (ev_ixT (ev_var 0) (ev_ixT (ev_var 2) ev_int) (atI_map d1)) ea_nil))))
    ⟨_, _, _, _, g, rfl, rfl⟩) (ev_tup ea_nil) ?_ (by decide +kernel)) ?_)
  · split
    · show (PyData.canLay0 _ && decide (PyData.depth _ ≤ 64)) = true
      rw [Bool.and_eq_true]
      exact ⟨by simp [pD, PyData.canLay0, PyData.canLayAll0], decide_eq_true (by simp [pD, PyData.depth, PyData.depthAll])⟩
    · decide +kernel
  · show PyData.bool _ = PyData.bool _
    congr 1
    show _ = crs _ _ _ _
    cases crs (ps.getD e.1 (0, 0, 1)) (ps.getD e.2 (0, 0, 1)) (ps.getD f.1 (0, 0, 1)) (ps.getD f.2 (0, 0, 1)) with
    | true => simp [PyData.eqv, PyData.eqvAll]
    | false => simp [PyData.eqv, PyData.eqvAll]
end
end Q40
end

section
set_option maxRecDepth 100000
set_option maxHeartbeats 4000000
namespace Q40
open PySem PySem.Spec PyProof.Rows L2

theorem shapes_rows : ∀ rs : List (List Nat), PyData.canLayAll0 (rs.map fun r => .list (r.map nD)) = true ∧ PyData.depthAll (rs.map fun r => .list (r.map nD)) ≤ 2
  | [] => by simp [PyData.canLayAll0, PyData.depthAll]
  | r :: rs => by
    obtain ⟨h1, h2⟩ := shapes_rows rs
    obtain ⟨h3, h4⟩ := shapes_nD r
    simp only [List.map_cons, PyData.canLayAll0, PyData.canLay0, PyData.depthAll, PyData.depth, h3, h1, Bool.and_self, true_and]
    omega
theorem eqv_nil2 {α : Type} (xs : List α) (f : α → PyData) : PyData.eqv (.list (xs.map f)) (.list []) = xs.isEmpty := eqv_nil xs f
section
variable {P : Program} {w : World} {K : PySem.W.Frag} {mg : Str → Option Value} {base : Heap} {f : Addr} {fd : FuncData}
theorem ok_law_pointed_at (Fn : Fun K "_law_pointed_at" "_law_pointed_at" s_law_pointed_at f fd) (B : NoB mg) (G : Callee P w K mg base "_law_turn" 2 F_lturn) : FnOk P w K mg base CX0 3 f fd ["_law_points", "_law_edges", "_law_i"] (spF K F_lpnt) := by
  refine pure_ok Fn sc_law_pointed_at (fun ds r h => by obtain ⟨a, b, c, _, _, _, _, h, _⟩ := h; rcases h with rfl | rfl <;> rfl) fun cdv A outer s H E hr ds r h => ?_
  obtain ⟨ps, es, i, hp, hl, hes, hi, hds, rfl⟩ := h
  have hol := endsT_len es i
  have hin : ∀ k ∈ endsT es i, k < ps.length := fun k hk => endsT_in (fun e he => ⟨(hes e he).1, (hes e he).2.1⟩) hk
  -- behind the ends
  have rest : ∀ u : PyData, Bk (bodyCx P w K mg base n_law_pointed_at "_law_pointed_at" s_law_pointed_at f cdv A outer s H E) ((defBody s_law_pointed_at).drop 1) [some (ptsT ps), some u, some (nD i), some (.list ((endsT es i).map nD)), none, none, none, none, none] { nx := fun _ => PyData.bool (lpntT (tau ps) es i) = .none, rt := fun d => d = .bool (lpntT (tau ps) es i) } := by
    intro u
    generalize ho : endsT es i = o at hol hin ⊢
    have hlen : (o.map nD).length = o.length := List.length_map _
    obtain ⟨a1, a2⟩ := hp.at hi
    refine bk_cons (st_if (et_lt (ev_lenL B (ev_var 3)) ev_int) (fun h => ?_) (fun h => bk_nil ?_))
    · refine bk_cons (st_ret ev_bl ?_)
      rw [hlen, decide_eq_true_eq] at h
      show PyData.bool true = PyData.bool _
      unfold lpntT
      rw [ho, decide_eq_true (show o.length < 2 by omega)]
      rfl
    rw [hlen, decide_eq_false_iff_not] at h
    refine bk_cons (st_lcL (i := 6) (own := [("_law_j", 7)]) (xs := o) (enc := nD) (fun _ => true) (fun j => .list ((o.filter fun k => decide (0 < tau ps i j k)).map nD)) (fun j => [some (ptsT ps), some u, some (nD i), some (.list (o.map nD)), none, none, none, some (nD j), none]) (ev_var 3)
      (fun p _ => tg_name (by decide)) (fun p _ _ _ _ _ _ => ets_nil) (fun j hj _ _ _ _ _ _ => EvN.evX (en_lcL (own := [("_law_k", 8)]) (xs := o) (enc := nD) (fun k => decide (0 < tau ps i j k)) nD (fun k => [some (ptsT ps), some u, some (nD i), some (.list (o.map nD)), none, none, none, some (nD j), some (nD k)]) (ev_var 3)
        (fun p _ => tg_name (by decide)) (fun k hk _ _ _ _ _ => ets_one (et_gt (ev_call G hr (by decide) (ea_cons (ev_ixT (ev_var 0) (ev_var 2) (atI_map a1)) (ea_cons (ev_ixT (ev_var 0) (ev_var 7) (atI_map (hp.at (hin j hj)).1)) (ea_cons (ev_ixT (ev_var 0) (ev_var 8) (atI_map (hp.at (hin k hk)).1)) ea_nil)))
          ⟨_, _, _, a2, (hp.at (hin j hj)).2, rfl, rfl⟩) ev_int)) (fun k _ _ _ _ _ _ _ => Ev.evX (ev_var 8) (lfree_nD _)) (by omega)
        (fun _ _ _ _ _ => pg_name (i := 8) sc_law_pointed_at.nd rfl (.inl rfl)) (blk_in (N := n_law_pointed_at) (sc := defScope s_law_pointed_at) rfl (by decide +kernel)) sc_law_pointed_at.nd) (lfree_of fun d hd => by obtain ⟨k, _, rfl⟩ := List.mem_map.mp hd; exact lfree_nD k)) (by omega)
      ?_ (fun _ _ _ _ _ => pg_name (i := 7) sc_law_pointed_at.nd rfl (.inr rfl)) (blkOk_by (N := n_law_pointed_at) (sc := defScope s_law_pointed_at) (by decide +kernel)) (sw_true rfl rfl rfl (by decide +kernel)) sc_law_pointed_at.nd)
    have e1 : (o.filter fun _ => true) = o := List.filter_eq_self.mpr fun _ _ => rfl
    rw [e1]
    have e2 : (o.map fun j => PyData.list ((o.filter fun k => decide (0 < tau ps i j k)).map nD)) = ((o.map fun j => o.filter fun k => decide (0 < tau ps i j k)).map fun r => PyData.list (r.map nD)) := by rw [List.map_map]; rfl
    refine bk_cons (st_ret (ev_inL hr (ev_lst ea_nil) (ev_var 6) (shapedL_nD []) ?_) ?_)
    · rw [e2]
      exact shaped_list (shapes_rows _).1 (by have := (shapes_rows (o.map fun j => o.filter fun k => decide (0 < tau ps i j k))).2; omega)
    · show PyData.bool _ = PyData.bool _
      unfold lpntT
      rw [ho, decide_eq_false (show ¬ o.length < 2 by omega), Bool.false_or, List.any_map]
      congr 1
      congr 1
      funext j
      exact eqv_nil _ _
  rcases hds with rfl | rfl
  · refine bk_cons (st_set (i := 3) (EvN.ev (en_lcL (own := [("_law_a", 4), ("_law_b", 5)]) (xs := es) (enc := eD) (fun e => decide (e.1 = i) || decide (e.2 = i)) (fun e => nD (if e.1 = i then e.2 else e.1)) (fun e => [some (ptsT ps), some (.list (es.map eD)), some (nD i), none, some (.int (e.1 : Int)), some (.int (e.2 : Int)), none, none, none]) (ev_var 1)
      (fun e _ => tg_pair (j := 4) (l := 5) (by decide) (by decide)) (fun e _ _ _ _ _ _ => ets_one ((et_inL hr (ev_var 2) (ev_lst (ea_cons (ev_var 4) (ea_cons (ev_var 5) ea_nil))) (shaped_int _) (shapedL_nD [e.1, e.2])).is ?_)) (fun e _ _ _ _ _ _ _ => Ev.evX (ev_if (et_eq hr (ev_var 4) (ev_var 2) (shaped_int _) (shaped_int _)) (fun h => ?_) (fun h => ?_)) (lfree_nD _)) (by omega)
      (fun _ _ _ _ _ => pg_tup rfl (pgs_cons (pg_name (i := 4) sc_law_pointed_at.nd rfl (.inl rfl)) (pgs_cons (pg_name (i := 5) sc_law_pointed_at.nd rfl (.inl rfl)) pgs_nil))) (blkOk_by (N := n_law_pointed_at) (sc := defScope s_law_pointed_at) (by decide +kernel)) sc_law_pointed_at.nd)) ?_ sc_law_pointed_at.nd)
    · simp only [nD, List.any_cons, List.any_nil, Bool.or_false, eqv_int]
      rw [Bool.eq_iff_iff]
      simp only [Bool.or_eq_true, decide_eq_true_eq]
      omega
    · refine (ev_var 5).is ?_
      rw [eqv_int, decide_eq_true_eq] at h
      rw [if_pos (by omega)]
      rfl
    · refine (ev_var 4).is ?_
      rw [eqv_int, decide_eq_false_iff_not] at h
      rw [if_neg (by omega)]
      rfl
    · rw [show ((es.filter fun e => decide (e.1 = i) || decide (e.2 = i)).map fun e => nD (if e.1 = i then e.2 else e.1)) = (endsT es i).map nD by unfold endsT; rw [List.map_map]; rfl]
      exact rest _
  · refine bk_cons (st_set (i := 3) (EvN.ev (en_lcT (own := [("_law_a", 4), ("_law_b", 5)]) (xs := es) (enc := eD) (fun e => decide (e.1 = i) || decide (e.2 = i)) (fun e => nD (if e.1 = i then e.2 else e.1)) (fun e => [some (ptsT ps), some (.tuple (es.map eD)), some (nD i), none, some (.int (e.1 : Int)), some (.int (e.2 : Int)), none, none, none]) (ev_var 1)
      (fun e _ => tg_pair (j := 4) (l := 5) (by decide) (by decide)) (fun e _ _ _ _ _ _ => ets_one ((et_inL hr (ev_var 2) (ev_lst (ea_cons (ev_var 4) (ea_cons (ev_var 5) ea_nil))) (shaped_int _) (shapedL_nD [e.1, e.2])).is ?_)) (fun e _ _ _ _ _ _ _ => Ev.evX (ev_if (et_eq hr (ev_var 4) (ev_var 2) (shaped_int _) (shaped_int _)) (fun h => ?_) (fun h => ?_)) (lfree_nD _)) (by omega)
      (fun _ _ _ _ _ => pg_tup rfl (pgs_cons (pg_name (i := 4) sc_law_pointed_at.nd rfl (.inl rfl)) (pgs_cons (pg_name (i := 5) sc_law_pointed_at.nd rfl (.inl rfl)) pgs_nil))) (blkOk_by (N := n_law_pointed_at) (sc := defScope s_law_pointed_at) (by decide +kernel)) sc_law_pointed_at.nd)) ?_ sc_law_pointed_at.nd)
    · simp only [nD, List.any_cons, List.any_nil, Bool.or_false, eqv_int]
      rw [Bool.eq_iff_iff]
      simp only [Bool.or_eq_true, decide_eq_true_eq]
      omega
    · refine (ev_var 5).is ?_
      rw [eqv_int, decide_eq_true_eq] at h
      rw [if_pos (by omega)]
      rfl
    · refine (ev_var 4).is ?_
      rw [eqv_int, decide_eq_false_iff_not] at h
      rw [if_neg (by omega)]
      rfl
    · rw [show ((es.filter fun e => decide (e.1 = i) || decide (e.2 = i)).map fun e => nD (if e.1 = i then e.2 else e.1)) = (endsT es i).map nD by unfold endsT; rw [List.map_map]; rfl]
      exact rest _
theorem ok_law_can_add (Fn : Fun K "_law_can_add" "_law_can_add" s_law_can_add f fd) (B : NoB mg) (G1 : Callee P w K mg base "_law_cross_edges" 6 F_lce) (G2 : Callee P w K mg base "_law_pointed_at" 3 F_lpnt) : FnOk P w K mg base CX0 7 f fd ["_law_points", "_law_edges", "_law_edge"] (spF K F_lcan) := by
  refine pure_ok Fn sc_law_can_add (fun ds r h => by obtain ⟨a, b, c, _, _, _, _, rfl, _⟩ := h; rfl) fun cdv A outer s H E hr ds r h => ?_
  obtain ⟨ps, es, e, hp, hl, hes, he, rfl, rfl⟩ := h
  have hlen : (es.map eD).length = es.length := List.length_map _
  refine bk_cons (st_if (et_w (ew_or ((et_inT hr (ev_var 2) (ev_var 1) (shaped_eD e) (shapedL_eD es)).is (any_eD es e)) fun _ => ew_or1 (et_ne hr (EvN.ev (en_lcT (own := [("_law_one", 3)]) (xs := es) (enc := eD) (fun o => crsT (tau ps) o e) eD (fun o => [some (ptsT ps), some (.tuple (es.map eD)), some (eD e), some (eD o), none]) (ev_var 1)
      (fun k _ => tg_name (by decide)) (fun k hk _ _ _ _ _ => ets_one (et_val (ev_call G1 hr (by decide) (ea_cons (ev_var 0) (ea_cons (ev_var 3) (ea_cons (ev_var 2) ea_nil))) ⟨ps, k, e, hp, hes k hk, he, rfl, rfl⟩))) (fun k _ _ _ _ _ _ _ => Ev.evX (ev_var 3) (lfree_eD _)) (by omega)
      (fun _ _ _ _ _ => pg_name (i := 3) sc_law_can_add.nd rfl (.inl rfl)) (blkOk_by (N := n_law_can_add) (sc := defScope s_law_can_add) (by decide +kernel)) sc_law_can_add.nd)) (ev_lst ea_nil) (shapedL_eD _) (shapedL_eD [])))) (fun h => ?_) (fun h => bk_nil ?_))
  · refine bk_cons (st_ret ev_bl ?_)
    rw [eqv_nil] at h
    show PyData.bool false = PyData.bool _
    unfold lcanT
    congr 1
    cases h1 : decide (e ∈ es) with
    | true => rfl
    | false =>
      rw [h1] at h
      have h2 : (es.filter fun o => crsT (tau ps) o e).isEmpty = false := by
        cases q : (es.filter fun o => crsT (tau ps) o e).isEmpty with
        | false => rfl
        | true => rw [q] at h; cases h
      rw [h2]
      rfl
  · rw [eqv_nil, Bool.or_eq_false_iff] at h
    obtain ⟨h1, h2⟩ := h
    have h3 : (es.filter fun o => crsT (tau ps) o e).isEmpty = true := by
      cases q : (es.filter fun o => crsT (tau ps) o e).isEmpty with
      | true => rfl
      | false => rw [q] at h2; cases h2
    have hall : ∀ o ∈ es ++ [e], EdOk ps.length o := fun o ho => by
      rcases List.mem_append.mp ho with z | z
      · exact hes o z
      · have q : o = e := by simpa using z
        rw [q]; exact he
    have hz : (es ++ [e]).length ≤ 100 := by rw [List.length_append]; show es.length + 1 ≤ 100; omega
    refine bk_cons (st_set (i := 4) ((ev_catL (ev_listT B (ev_var 1)) (ev_lst (ea_cons (ev_var 2) ea_nil)) (by rw [hlen]; exact Nat.le_of_lt (small1000 (by show es.length + 1 ≤ 1000; omega)))).is (d' := .list ((es ++ [e]).map eD)) (by rw [List.map_append]; rfl)) ?_ sc_law_can_add.nd)
    refine bk_cons (st_ret (ev_and (ev_call G2 hr (by decide) (ea_cons (ev_var 0) (ea_cons (ev_var 4) (ea_cons (ev_ixT (ev_var 2) ev_int) ea_nil))) ⟨ps, es ++ [e], e.1, hp, hz, hall, he.1, .inl rfl, rfl⟩) fun _ =>
      ev_one (ev_call G2 hr (by decide) (ea_cons (ev_var 0) (ea_cons (ev_var 4) (ea_cons (ev_ixT (ev_var 2) ev_int) ea_nil))) ⟨ps, es ++ [e], e.2, hp, hz, hall, he.2.1, .inl rfl, rfl⟩)) ?_)
    show PyData.bool _ = PyData.bool _
    unfold lcanT
    rw [h1, h3]
    rfl
theorem ok_law_pairs (Fn : Fun K "_law_pairs" "_law_pairs" s_law_pairs f fd) (B : NoB mg) : FnOk P w K mg base CX0 1 f fd ["_law_many"] (spF K F_pairs) := by
  refine pure_ok Fn sc_law_pairs (fun ds r h => by obtain ⟨a, _, rfl, _⟩ := h; rfl) fun cdv A outer s H E hr ds r h => ?_
  obtain ⟨n, hn, rfl, rfl⟩ := h
  refine bk_cons (st_set (i := 1) (ev_lst ea_nil) ?_ sc_law_pairs.nd)
  have hlen : ∀ k, k ≤ n → ((List.range k).flatMap fun i => (List.range (n - (i + 1))).map fun j => ((i, i + 1 + j) : Ed)).length ≤ k * n := by
    intro k
    induction k with
    | zero => intro _; simp
    | succ k ih =>
      intro hk
      rw [List.range_succ, List.flatMap_append, List.length_append]
      have e1 := ih (by omega)
      simp only [List.flatMap_cons, List.flatMap_nil, List.append_nil, List.length_map, List.length_range]
      have e3 : (k + 1) * n = k * n + n := Nat.succ_mul k n
      omega
  refine bk_cons (st_forR B (j := 2) (m := n) (ev_var 0) (by omega) (fun k ρ => ∃ u, ρ = [some (nD n), some (.list (((List.range k).flatMap fun i => (List.range (n - (i + 1))).map fun j => ((i, i + 1 + j) : Ed)).map eD)), u, none]) ⟨none, rfl⟩ (fun i ρ' hi hI => ?_) (fun ρ' hI => ?_) PassesOwn.never sc_law_pairs.nd)
  · obtain ⟨u, rfl⟩ := hI
    have hk := hlen i (by omega)
    have hk2 : i * n ≤ 30 * 30 := Nat.mul_le_mul (by omega) hn
    refine bk_cons (st_set (i := 1) (ev_catL (ev_var 1) (EvN.ev (en_lcR2 (own := [("_law_j", 3)]) (m := n - (i + 1)) (lo := (i : Int) + 1) (hi := (n : Int)) B (ev_add (ev_var 2) ev_int) (ev_var 0) (by omega) ⟨by omega, by omega, by omega, by omega⟩
      (fun _ => true) (fun j => eD (i, i + 1 + j)) (fun j => [some (nD n), some (.list (((List.range i).flatMap fun i => (List.range (n - (i + 1))).map fun j => ((i, i + 1 + j) : Ed)).map eD)), some (.int (i : Int)), some (.int ((i : Int) + 1 + (j : Int)))])
      (fun j _ => tg_name (by decide)) (fun j _ _ _ _ _ _ => ets_nil) (fun j _ _ _ _ _ _ _ => Ev.evX ((ev_tup (ea_cons (ev_var 2) (ea_cons (ev_var 3) ea_nil))).is ?_) (lfree_eD _)) (by omega)
      (fun _ _ _ _ _ => pg_name (i := 3) sc_law_pairs.nd rfl (.inl rfl)) (blkOk_by (N := n_law_pairs) (sc := defScope s_law_pairs) (by decide +kernel)) sc_law_pairs.nd)) ?_) (bk_nil ?_) sc_law_pairs.nd)
    · show PyData.tuple [.int (i : Int), .int ((i : Int) + 1 + (j : Int))] = PyData.tuple [.int (i : Int), .int (((i + 1 + j : Nat)) : Int)]
      rw [show (((i + 1 + j : Nat)) : Int) = (i : Int) + 1 + (j : Int) by omega]
    · rw [List.length_map, List.length_map]
      have e4 := List.length_filter_le (fun _ => true) (List.range (n - (i + 1)))
      rw [List.length_range] at e4
      exact Nat.le_of_lt (small1000 (by omega))
    · refine ⟨some (.int (i : Int)), ?_⟩
      rw [List.range_succ, List.flatMap_append, List.map_append, show ((List.range (n - (i + 1))).filter fun _ => true) = List.range (n - (i + 1)) from List.filter_eq_self.mpr fun _ _ => rfl]
      simp only [List.flatMap_cons, List.flatMap_nil, List.append_nil, List.map_map]
      rfl
  · obtain ⟨u, rfl⟩ := hI
    exact bk_cons (st_ret (ev_var 1) rfl)
end
end Q40
end

section
set_option maxRecDepth 100000
set_option maxHeartbeats 4000000
namespace Q40
open PySem PySem.Spec PyProof.Rows L2

/-! ### nested tuples of whole numbers -/
inductive TT' where
  | i (n : Int)
  | t (xs : List TT')
mutual
def ttD : TT' → PyData
  | .i n => .int n
  | .t xs => .tuple (ttDs xs)
def ttDs : List TT' → List PyData
  | [] => []
  | x :: xs => ttD x :: ttDs xs
end
mutual
def ttH : TT' → Nat
  | .i _ => 0
  | .t xs => ttHs xs + 1
def ttHs : List TT' → Nat
  | [] => 0
  | x :: xs => max (ttH x) (ttHs xs)
end
mutual
def NarH : TT' → Prop
  | .i _ => True
  | .t xs => xs.length ≤ 500 ∧ NarHs xs
def NarHs : List TT' → Prop
  | [] => True
  | x :: xs => NarH x ∧ NarHs xs
end
theorem narHs_mem : ∀ {xs : List TT'}, NarHs xs → ∀ x ∈ xs, NarH x
  | [], _, _, h => by cases h
  | y :: ys, h, x, hx => by
    rw [NarHs] at h
    rcases List.mem_cons.mp hx with rfl | hx
    · exact h.1
    · exact narHs_mem h.2 x hx
theorem EvW.is {X : Cx} {e : Expr} {ρ : DEnv} {p q : Bool} (h : EvW X e ρ p) (he : p = q) : EvW X e ρ q := he ▸ h
/- the law's test: found, due -/
mutual
def alk : TT' → TT' → Bool
  | .i m, .i n => decide (m = n)
  | .t xs, .t ys => alks xs ys
  | _, _ => false
def alks : List TT' → List TT' → Bool
  | [], [] => true
  | x :: xs, y :: ys => alk x y && alks xs ys
  | _, _ => false
end
theorem ttDs_map : ∀ xs : List TT', ttDs xs = xs.map ttD
  | [] => rfl
  | x :: xs => by rw [ttDs, ttDs_map xs]; rfl
theorem ttHs_le {n : Nat} : ∀ {xs : List TT'}, ttHs xs ≤ n → ∀ x ∈ xs, ttH x ≤ n
  | [], _, _, h => by cases h
  | y :: ys, h, x, hx => by
    rw [ttHs] at h
    rcases List.mem_cons.mp hx with rfl | hx
    · omega
    · exact ttHs_le (by omega) x hx
theorem alks_iff : ∀ (xs ys : List TT'), alks xs ys = (decide (xs.length = ys.length) && (List.range ys.length).all fun k => match xs[k]?, ys[k]? with | some x, some y => alk x y | _, _ => true)
  | [], [] => by simp [alks]
  | [], y :: ys => by simp [alks]
  | x :: xs, [] => by simp [alks]
  | x :: xs, y :: ys => by
    rw [alks, alks_iff xs ys, List.length_cons, List.length_cons, List.range_succ_eq_map, List.all_cons, List.all_map]
    show (alk x y && _) = (_ && (alk x y && _))
    rw [show decide (xs.length + 1 = ys.length + 1) = decide (xs.length = ys.length) by rw [decide_eq_decide]; omega]
    rw [← Bool.and_assoc, ← Bool.and_assoc, Bool.and_comm (alk x y)]
    congr 1
def F_alike (n : Nat) : List PyData → PyData → Prop := fun ds r => ∃ x y : TT', ttH y ≤ n ∧ NarH y ∧ ds = [ttD x, ttD y] ∧ r = .bool (alk x y)
theorem shaped_bool (b : Bool) : SeqAt.shaped (.bool b) = true := by
  show (PyData.canLay0 (.bool b) && decide (PyData.depth (.bool b) ≤ 64)) = true
  rw [Bool.and_eq_true]
  exact ⟨by simp [PyData.canLay0], decide_eq_true (by simp [PyData.depth])⟩
theorem eqv_bool (i j : Bool) : PyData.eqv (.bool i) (.bool j) = (i == j) := by simp only [PyData.eqv]
theorem kb_tl : kitB "tuple" "list" = some false := by decide +kernel
theorem kb_it : kitB "int" "tuple" = some false := by decide +kernel
theorem kb_il : kitB "int" "list" = some false := by decide +kernel
theorem kb_is : kitB "int" "str" = some false := by decide +kernel
theorem kb_ti : kitB "tuple" "int" = some false := by decide +kernel
theorem kb_tb : kitB "tuple" "bool" = some false := by decide +kernel
def isT : TT' → Bool
  | .i _ => false
  | .t _ => true
theorem kit_T (x : TT') : kitB (clsOf (ttD x)) "tuple" = some (isT x) := by
  cases x with
  | i n => exact kb_it
  | t xs => exact kb_tt
theorem kit_L (x : TT') : kitB (clsOf (ttD x)) "list" = some false := by
  cases x with
  | i n => exact kb_il
  | t xs => exact kb_tl
theorem kit_I (x : TT') : kitB (clsOf (ttD x)) "int" = some (!isT x) := by
  cases x with
  | i n => exact kb_ii
  | t xs => exact kb_ti
theorem kit_B (x : TT') : kitB (clsOf (ttD x)) "bool" = some false := by
  cases x with
  | i n => exact kb_ib
  | t xs => exact kb_tb
section
variable {X : Cx} {a : Expr} {ρ : DEnv} {d : PyData} {pos pf : Pos} {p q : Bool}
/-- isinstance(a, (T1, T2)) -/
theorem ev_isi2 {T1 T2 : String} {x1 x2 : Str} {p1 p2 pt : Pos} {n : Nat} (B : NoB X.mg) (h : Ev X a ρ d) (hm1 : X.mg x1 = none) (hv1 : bootBuiltins x1 = some (.type T1)) (hm2 : X.mg x2 = none) (hv2 : bootBuiltins x2 = some (.type T2)) (r1 : kitB (clsOf d) T1 = some p) (r2 : kitB (clsOf d) T2 = some q)
    (hg1 : Gl X x1 := by rfl) (hn1 : x1 ≠ "__name__" := by decide) (hd1 : (x1 == ("__debug__" : Str)) = false := by decide) (hg2 : Gl X x2 := by rfl) (hn2 : x2 ≠ "__name__" := by decide) (hd2 : (x2 == ("__debug__" : Str)) = false := by decide)
    (hst : starEach [a, .Tuple [.Name x1 p1, .Name x2 p2] n pt] X.env = (false, eval a X.env) :: starEach [.Tuple [.Name x1 p1, .Name x2 p2] n pt] X.env := by rfl) (hst2 : starEach [.Tuple [.Name x1 p1, .Name x2 p2] n pt] X.env = [(false, eval (.Tuple [.Name x1 p1, .Name x2 p2] n pt) X.env)] := by rfl)
    (hs3 : starEach [.Name x1 p1, .Name x2 p2] X.env = (false, eval (.Name x1 p1) X.env) :: starEach [.Name x2 p2] X.env := by rfl) (hs4 : starEach [.Name x2 p2] X.env = [(false, eval (.Name x2 p2) X.env)] := by rfl)
    (hg : Gl X "isinstance" := by rfl) (hpl : (backTo pos (starEach [.Tuple [.Name x1 p1, .Name x2 p2] n pt] X.env)).any (·.1) = false := by rfl) :
    Ev X (.Call (.Name "isinstance" pf) [a, .Tuple [.Name x1 p1, .Name x2 p2] n pt] [] pos) ρ (.bool (p || q)) := fun σ H E Q k =>
  EAt.of (pe_callB call_isiT hg B.isinstance bt_isinstance (pa_cons eat (pa_cons (pe_tup (pa_cons (pe_bltn (v := .ty T1) hg1 hm1 hv1 rfl hn1 hd1) (pa_cons (pe_bltn (v := .ty T2) hg2 hm2 hv2 rfl hn2 hd2) pa_nil hs4) hs3)) pa_nil hst2) hst) (he := hst) (hpl := hpl)) (h σ H E _ fun v H1 s1 d1 =>
    ⟨by show 2 ≤ sizeLine; decide, fun tp htp => by
      have s2 := same_upd (o := .tup [.ty T1, .ty T2]) htp
      refine ⟨v, tp, [.ty T1, .ty T2], .type (clsOf d), [.type T1, .type T2], p || q, rfl, upd_same, .cons (.ty T1) (.cons (.ty T2) .nil), tyx_of (dp_same s2 _ _ d1), ?_, k _ _ (s1.trans s2) (.bl _)⟩
      refine kitAny_cons (b := p) (kit_ty r1) (fun hp => ?_) (fun hp => by rw [hp]; rfl)
      rw [hp, Bool.false_or]
      exact kitAny_cons (b := q) (kit_ty r2) (fun hq => by rw [hq]; exact kitAny_nil) (fun hq => hq)⟩)
end
section
variable {P : Program} {w : World} {K : PySem.W.Frag} {mg : Str → Option Value} {base : Heap} {f : Addr} {fd : FuncData}
theorem tt_get {xs : List TT'} {k : Nat} {x : TT'} (h : xs[k]? = some x) : atI (ttDs xs) (k : Int) = some (ttD x) := by
  rw [ttDs_map]
  exact atI_map h
theorem ok_law_alike_tree (Fn : Fun K "_law_alike" "_law_alike" s_law_alike f fd) (B : NoB mg) (n : Nat) (ih : ∀ m, m < n → Callee P w K mg base "_law_alike" (m + 1) (F_alike m)) : FnOk P w K mg base CX0 (n + 1) f fd ["_law_found", "_law_due"] (spF K (F_alike n)) := by
  refine pure_ok Fn sc_law_alike (fun ds r h => by obtain ⟨a, b, _, _, rfl, _⟩ := h; rfl) fun cdv A outer s H E hr ds r h => ?_
  obtain ⟨x, y, hh, hw, rfl, rfl⟩ := h
  cases y with
  | i j =>
    refine bk_cons (st_if (p := false) (et_val (ev_isi2 (T1 := "tuple") (T2 := "list") B (ev_var 1) B.tuple bt_tuple B.list bt_list (p := false) (q := false) (by exact kb_it) (by exact kb_il))) (fun h => by cases h) fun _ => bk_nil ?_)
    refine bk_cons (st_if (p := false) (et_w (ew_or (p := false) (q := false) (et_isN false (ev_var 1) (fun H v h => by cases dp_int h; rfl)) fun _ => ew_or1 (et_val (ev_isi (T := "str") B (ev_var 1) B.str bt_str (p := false) (by exact kb_is))))) (fun h => by cases h) fun _ => bk_nil ?_)
    refine bk_cons (st_ret (d := .bool (alk x (.i j))) ((ev_and (p := !isT x) (q := alk x (.i j)) (ev_isi (T := "int") B (ev_var 0) B.int bt_int (by exact kit_I x)) fun hx => (ev_and (p := true) (q := alk x (.i j)) ((ev_eq hr (ev_isi (T := "bool") B (ev_var 0) B.bool bt_bool (p := false) (by exact kit_B x)) (ev_isi (T := "bool") B (ev_var 1) B.bool bt_bool (p := false) (by exact kb_ib)) (shaped_bool _) (shaped_bool _)).is ?_) fun _ => ev_one ?_).is ?_).is ?_) rfl)
    · rw [eqv_bool]; rfl
    · cases x with
      | t xs => cases hx
      | i m => exact (ev_eq hr (ev_var 0) (ev_var 1) (shaped_int _) (shaped_int _)).is (by rw [eqv_int]; rfl)
    · rw [Bool.true_and]
    · cases x with
      | t xs => rfl
      | i m => rfl
  | t ys =>
    refine bk_cons (st_if (p := true) (et_val (ev_isi2 (T1 := "tuple") (T2 := "list") B (ev_var 1) B.tuple bt_tuple B.list bt_list (p := true) (q := false) (by exact kb_tt) (by exact kb_tl))) (fun _ => ?_) (fun h => by cases h))
    refine bk_cons (st_if (p := !isT x) (et_w (((ew_or (p := !isT x) (q := false) ((et_not (et_val (ev_isi2 (T1 := "tuple") (T2 := "list") B (ev_var 0) B.tuple bt_tuple B.list bt_list (p := isT x) (q := false) (by exact kit_T x) (by exact kit_L x)))).is ?_) fun hx => ew_or1 ((et_ne hr (ev_isi (T := "list") B (ev_var 0) B.list bt_list (p := false) (by exact kit_L x)) (ev_isi (T := "list") B (ev_var 1) B.list bt_list (p := false) (by exact kb_tl)) (shaped_bool _) (shaped_bool _)).is ?_))) |> fun h => EvW.is h ?_)) (fun hx => ?_) (fun hx => bk_nil ?_))
    · rw [Bool.or_false]
    · rw [Bool.or_false]
    · rw [eqv_bool]; rfl
    · refine bk_cons (st_ret ev_bl ?_)
      cases x with
      | i m => rfl
      | t xs => cases hx
    cases x with
    | i m => cases hx
    | t xs =>
      have l1 : (ttDs xs).length = xs.length := by rw [ttDs_map, List.length_map]
      have l2 : (ttDs ys).length = ys.length := by rw [ttDs_map, List.length_map]
      refine bk_cons (st_if (p := !decide (xs.length = ys.length)) ((et_ne hr (ev_lenT B (ev_var 0)) (ev_lenT B (ev_var 1)) (shaped_int _) (shaped_int _)).is ?_) (fun hl => ?_) (fun hl => bk_nil ?_))
      · rw [l1, l2, eqv_int]
        congr 1
        rw [decide_eq_decide]
        omega
      · refine bk_cons (st_ret ev_bl ?_)
        show PyData.bool false = PyData.bool (alks xs ys)
        rw [alks_iff]
        have : decide (xs.length = ys.length) = false := by simpa using hl
        rw [this, Bool.false_and]
      have hl' : xs.length = ys.length := by simpa using hl
      have hb : ys.length ≤ 500 := by rw [NarH] at hw; exact hw.1
      have hH : ∀ z ∈ ys, ttH z ≤ n - 1 := ttHs_le (by rw [ttH] at hh; omega)
      have hn : n - 1 < n := by rw [ttH] at hh; omega
      refine bk_cons (st_ret (ev_eq hr (EvN.ev (en_lcR (own := [("_law_k", 2)]) (m := ys.length) B ((ev_lenT B (ev_var 1)).is (by rw [l2])) (fun k => !(match xs[k]?, ys[k]? with | some x, some y => alk x y | _, _ => true)) nD (fun k => [some (ttD (.t xs)), some (ttD (.t ys)), some (.int (0 + (k : Int)))])
        (fun k _ => tg_name (by decide)) (fun k hk _ _ _ _ _ => ets_one ((et_not (et_val ((ev_call (ih (n - 1) hn) hr (by omega) (ea_cons (ev_ixT (ev_var 0) (ev_var 2) ?_) (ea_cons (ev_ixT (ev_var 1) (ev_var 2) ?_) ea_nil)) ⟨xs[k]'(by omega), ys[k], hH _ (List.getElem_mem hk), narHs_mem (by rw [NarH] at hw; exact hw.2) _ (List.getElem_mem hk), rfl, rfl⟩)))).is ?_)) (fun k _ _ _ _ _ _ _ => Ev.evX ((ev_var 2).is ?_) (lfree_nD _)) (by omega)
        (fun _ _ _ _ _ => pg_name (i := 2) sc_law_alike.nd rfl (.inl rfl)) (blkOk_by (N := n_law_alike) (sc := defScope s_law_alike) (by decide +kernel)) sc_law_alike.nd)) (ev_lst ea_nil) (shapedL_nD _) (shapedL_nD [])) ?_)
      · rw [Int.zero_add]
        exact tt_get (List.getElem?_eq_getElem (by omega))
      · rw [Int.zero_add]
        exact tt_get (List.getElem?_eq_getElem hk)
      · rw [List.getElem?_eq_getElem hk, List.getElem?_eq_getElem (show k < xs.length by omega)]
      · show PyData.int (0 + (k : Int)) = PyData.int (k : Int)
        rw [Int.zero_add]
      · rw [eqv_nil]
        show PyData.bool _ = PyData.bool (alks xs ys)
        rw [alks_iff, decide_eq_true hl', Bool.true_and]
        congr 1
        rw [Bool.eq_iff_iff, List.isEmpty_iff, List.filter_eq_nil_iff, List.all_eq_true]
        constructor
        · intro h k hk
          have := h k hk
          simpa using this
        · intro h k hk
          have := h k hk
          rw [this]
          decide
end
end Q40
end

section
set_option maxRecDepth 100000
set_option maxHeartbeats 4000000
namespace Q40
open PySem PySem.Spec PyProof.Rows L2

def F_unp : List PyData → PyData → Prop := fun ds r => ∃ (ps : List Pt) (es : List Ed), PtsG ps ∧ es.length ≤ 100 ∧ (∀ e ∈ es, EdOk ps.length e) ∧ (∀ i, i < ps.length → lpntT (tau ps) es i = true) ∧ ds = [ptsT ps, .tuple (es.map eD)] ∧ r = .list []
def F_good : List PyData → PyData → Prop := fun ds r => ∃ (ps : List Pt) (es : List Ed), PtsG ps ∧ es.length ≤ 100 ∧ (∀ e ∈ es, EdOk ps.length e) ∧ (∀ i, i < ps.length → lpntT (tau ps) es i = true) ∧ (∀ e ∈ es, ∀ f ∈ es, crsT (tau ps) e f = false) ∧ ds = [ptsT ps, .tuple (es.map eD)] ∧ r = .bool true
section
variable {P : Program} {w : World} {K : PySem.W.Frag} {mg : Str → Option Value} {base : Heap} {f : Addr} {fd : FuncData}
theorem ok_law_unpointed (Fn : Fun K "_law_unpointed" "_law_unpointed" s_law_unpointed f fd) (B : NoB mg) (G : Callee P w K mg base "_law_pointed_at" 3 F_lpnt) : FnOk P w K mg base CX0 4 f fd ["_law_points", "_law_edges"] (spF K F_unp) := by
  refine pure_ok Fn sc_law_unpointed (fun ds r h => by obtain ⟨a, b, _, _, _, _, rfl, _⟩ := h; rfl) fun cdv A outer s H E hr ds r h => ?_
  obtain ⟨ps, es, hp, hl, hes, hpt, rfl, rfl⟩ := h
  have hlen : (ps.map pD).length = ps.length := List.length_map _
  have hh := hp.hi
  refine bk_cons (st_ret (EvN.ev (en_lcR (own := [("_law_i", 2)]) (m := ps.length) B ((ev_lenT B (ev_var 0)).is (by rw [hlen])) (fun _ => false) nD (fun k => [some (ptsT ps), some (.tuple (es.map eD)), some (.int (0 + (k : Int)))])
    (fun k _ => tg_name (by decide)) (fun k hk _ _ _ _ _ => ets_one (et_not (p := true) (et_val (ev_call G hr (by decide) (ea_cons (ev_var 0) (ea_cons (ev_var 1) (ea_cons (ev_var 2) ea_nil))) ⟨ps, es, k, hp, hl, hes, hk, .inr (by rw [Int.zero_add]; rfl), by rw [hpt k hk]⟩)))) (fun k _ h => by cases h) (by omega)
    (fun _ _ _ _ _ => pg_name (i := 2) sc_law_unpointed.nd rfl (.inl rfl)) (blkOk_by (N := n_law_unpointed) (sc := defScope s_law_unpointed) (by decide +kernel)) sc_law_unpointed.nd)) ?_)
  show PyData.list _ = PyData.list _
  rw [List.filter_eq_nil_iff.mpr (fun _ _ => by decide)]
  rfl
theorem ok_law_good_edges (Fn : Fun K "_law_good_edges" "_law_good_edges" s_law_good_edges f fd) (B : NoB mg) (G1 : Callee P w K mg base "_law_cross_edges" 6 F_lce) (G2 : Callee P w K mg base "_law_unpointed" 4 F_unp) : FnOk P w K mg base CX0 7 f fd ["_law_points", "_law_edges"] (spF K F_good) := by
  refine pure_ok Fn sc_law_good_edges (fun ds r h => by obtain ⟨a, b, _, _, _, _, _, rfl, _⟩ := h; rfl) fun cdv A outer s H E hr ds r h => ?_
  obtain ⟨ps, es, hp, hl, hes, hpt, hcr, rfl, rfl⟩ := h
  have hlen : (es.map eD).length = es.length := List.length_map _
  refine bk_cons (st_forR B (j := 2) (ev_lenT B (ev_var 1)) (by omega) (fun _ ρ => ∃ o p, ρ = [some (ptsT ps), some (.tuple (es.map eD)), o, p]) ⟨none, none, rfl⟩ (fun a ρ' ha hI => ?_) (fun ρ' hI => ?_) PassesOwn.never sc_law_good_edges.nd)
  · obtain ⟨o, p, rfl⟩ := hI
    rw [hlen] at ha
    refine bk_cons (st_forR B (j := 3) (m := a) (ev_var 2) (by omega) (fun _ ρ => ∃ p, ρ = [some (ptsT ps), some (.tuple (es.map eD)), some (.int (a : Int)), p]) ⟨p, rfl⟩ (fun b ρ' hb hI => ?_) (fun ρ' hI => ?_) PassesOwn.never sc_law_good_edges.nd)
    · obtain ⟨q, rfl⟩ := hI
      have ea := List.getElem?_eq_getElem (l := es) (i := a) (by omega)
      have eb := List.getElem?_eq_getElem (l := es) (i := b) (by omega)
      refine bk_cons (st_if (p := false) (et_val (ev_call G1 hr (by decide) (ea_cons (ev_var 0) (ea_cons (ev_ixT (ev_var 1) (ev_var 2) (atI_map ea)) (ea_cons (ev_ixT (ev_var 1) (ev_var 3) (atI_map eb)) ea_nil))) ⟨ps, es[a], es[b], hp, hes _ (List.getElem_mem _), hes _ (List.getElem_mem _), rfl, by rw [hcr _ (List.getElem_mem _) _ (List.getElem_mem _)]⟩)) (fun h => by cases h) fun _ => bk_nil (bk_nil ⟨_, rfl⟩))
    · obtain ⟨q, rfl⟩ := hI
      exact bk_nil ⟨_, _, rfl⟩
  · obtain ⟨o, p, rfl⟩ := hI
    refine bk_cons (st_ret (ev_eq hr (ev_call G2 hr (by decide) (ea_cons (ev_var 0) (ea_cons (ev_var 1) ea_nil)) ⟨ps, es, hp, hl, hes, hpt, rfl, rfl⟩) (ev_lst ea_nil) (shapedL_nD []) (shapedL_nD [])) ?_)
    show PyData.bool _ = PyData.bool _
    simp only [PyData.eqv, PyData.eqvAll]
end
end Q40
end

section
set_option maxRecDepth 100000
set_option maxHeartbeats 4000000
namespace Q40
open PySem PySem.Spec PyProof.Rows L2

/-! ### a heap without some objects -/
def dels (H : Hp) (as : List Addr) : Hp := fun b => if b ∈ as then none else H b
theorem dels_ne {H : Hp} {as : List Addr} {b : Addr} (h : b ∉ as) : dels H as b = H b := if_neg h
theorem dels_in {H : Hp} {as : List Addr} {b : Addr} (h : b ∈ as) : dels H as b = none := if_pos h
theorem same_dels {H : Hp} {as : List Addr} : Same (dels H as) H := fun b o e => by
  by_cases h : b ∈ as
  · rw [dels_in h] at e; cases e
  · rw [dels_ne h] at e; exact e
theorem same_dels2 {H H' : Hp} {as : List Addr} (s : Same H H') : Same (dels H as) (dels H' as) := fun b o e => by
  by_cases h : b ∈ as
  · rw [dels_in h] at e; cases e
  · rw [dels_ne h] at e ⊢; exact s _ _ e
theorem dels_upd {H : Hp} {as : List Addr} {a : Addr} {o : HO} (h : a ∈ as) : dels (upd H a o) as = dels H as := by
  funext b
  by_cases hb : b ∈ as
  · rw [dels_in hb, dels_in hb]
  · rw [dels_ne hb, dels_ne hb, upd_ne (fun z : b = a => hb (z.symm ▸ h))]
theorem dels_sub {H : Hp} {as bs : List Addr} (h : ∀ b ∈ bs, b ∈ as) : Same (dels H as) (dels H bs) := fun b o e => by
  by_cases hb : b ∈ as
  · rw [dels_in hb] at e; cases e
  · rw [dels_ne hb] at e
    rw [dels_ne (fun z => hb (h b z))]; exact e
theorem dels_grow {H H' : Hp} {as bs : List Addr} (s : Same (dels H as) (dels H' as)) (hn : ∀ b ∈ bs, dels H as b = none) : Same (dels H as) (dels H' bs) := fun b o e => by
  by_cases hb : b ∈ bs
  · rw [hn b hb] at e; cases e
  · rw [dels_ne hb]
    exact same_dels _ _ (s _ _ e)
/-- the row of draws -/
def ScrN (K : PySem.W.Frag) (H : Hp) (v : V) (ns : List Int) : Prop := ∃ (a : Addr), v = .ref a ∧ ns.length ≤ 63 ∧ ((∃ o, H a = some (.frz o (.lst (ns.map V.int)))) ∨
  ∃ (o : Obj) (its : Array Value) (n : Nat), K.lookup a = some o ∧ o.cls = .type "list" ∧ o.dict = none ∧ o.data = .seq its n ∧ its.size ≤ sizeLine ∧ Vals (ns.map V.int) its.toList)
def ScrAt (K : PySem.W.Frag) (H : Hp) (v : V) : Prop := ∃ ns, ScrN K H v ns
def RowOk (K : PySem.W.Frag) (H : Hp) (R : Addr) : Prop := ∃ (sv : V) (c s r : Int), H R = some (.lst [sv, .int c, .int s, .int r]) ∧ ScrAt K H sv ∧ 0 ≤ c ∧ 0 ≤ s ∧ s < 2147483647 ∧ 0 ≤ r
def FrzStay (H H' : Hp) : Prop := ∀ b o u, H b = some (.frz o u) → H' b = some (.frz o u)
theorem ScrN.to {K : PySem.W.Frag} {H H' : Hp} {v : V} {ns : List Int} (h : ScrN K H v ns) (s : FrzStay H H') : ScrN K H' v ns := by
  obtain ⟨a, e, l, h⟩ := h
  refine ⟨a, e, l, ?_⟩
  rcases h with ⟨o, h⟩ | h
  · exact .inl ⟨o, s _ _ _ h⟩
  · exact .inr h
theorem ScrN.dp {K : PySem.W.Frag} {H : Hp} {v : V} {ns : List Int} (h : ScrN K H v ns) : Dp K H v (.list (ns.map .int)) := by
  obtain ⟨a, rfl, l, h⟩ := h
  refine .lst (xs := ns.map V.int) ?_ (dps_of_ints ns)
  rcases h with ⟨o, h⟩ | h
  · exact .inl (.inr ⟨o, h⟩)
  · exact .inr h
theorem ScrAt.to {K : PySem.W.Frag} {H H' : Hp} {v : V} (h : ScrAt K H v) (s : FrzStay H H') : ScrAt K H' v := by
  obtain ⟨ns, h⟩ := h
  exact ⟨ns, h.to s⟩
theorem RowOk.to {K : PySem.W.Frag} {H H' : Hp} {R : Addr} (h : RowOk K H R) (e : H' R = H R) (s : FrzStay H H') : RowOk K H' R := by
  obtain ⟨sv, c, t, r, h1, h2, h3⟩ := h
  exact ⟨sv, c, t, r, e.trans h1, h2.to s, h3⟩

/-! ### owned lists; none: the row -/
inductive Cont where
  | lst (ds : List PyData)
  | row
  | row4 (sv : V) (ns : List Int) (c s r : Int)
  | ext (mkO : List PyData → List Addr → Addr → Heap → Prop) (ds : List PyData)
def OwnAt (K : PySem.W.Frag) (H F : Hp) (a : Addr) : Cont → Prop
  | .row => RowOk K H a
  | .row4 sv ns c s r => H a = some (.lst [sv, .int c, .int s, .int r]) ∧ ScrN K H sv ns
  | .lst ds => ∃ xs, H a = some (.lst xs) ∧ DpAll K F xs ds
  | .ext mkO ds => ∃ ks : List Addr, H a = some (.ext (mkO ds ks a)) ∧ DpAll K F (ks.map V.ref) ds
theorem OwnAt.lst {K : PySem.W.Frag} {H F : Hp} {a : Addr} {c : Cont} (h : OwnAt K H F a c) : ∃ o, H a = some o ∧ NoTup (some o) ∧ ∀ u x, o ≠ .frz u x := by
  cases c with
  | row => obtain ⟨_, _, _, _, h, _⟩ := h; exact ⟨_, h, noTup_lst, fun _ _ z => by cases z⟩
  | row4 sv ns c s r => exact ⟨_, h.1, noTup_lst, fun _ _ z => by cases z⟩
  | lst ds => obtain ⟨xs, h, _⟩ := h; exact ⟨_, h, noTup_lst, fun _ _ z => by cases z⟩
  | ext mkO ds => obtain ⟨ks, h, _⟩ := h; exact ⟨_, h, noTup_ext, fun _ _ z => by cases z⟩
theorem OwnAt.to {K : PySem.W.Frag} {H F H' F' : Hp} {a : Addr} {c : Cont} (h : OwnAt K H F a c) (e : H' a = H a) (s : FrzStay H H') (f : Same F F') : OwnAt K H' F' a c := by
  cases c with
  | row => exact RowOk.to h e s
  | row4 sv ns c t r => exact ⟨e.trans h.1, h.2.to s⟩
  | lst ds =>
    obtain ⟨xs, h1, h2⟩ := h
    exact ⟨xs, e.trans h1, dps_same f _ _ h2⟩
  | ext mkO ds =>
    obtain ⟨ks, h1, h2⟩ := h
    exact ⟨ks, e.trans h1, dps_same f _ _ h2⟩
def Owns (K : PySem.W.Frag) (H F : Hp) : List Addr → List Cont → Prop
  | [], [] => True
  | a :: as, c :: cs => OwnAt K H F a c ∧ Owns K H F as cs
  | _, _ => False
def InSl (σ : L2.St) : List Nat → List Addr → Prop
  | [], [] => True
  | i :: is, a :: as => (i < σ.length → σ[i]? = some (some (.ref a))) ∧ InSl σ is as
  | _, _ => False
theorem Owns.to {K : PySem.W.Frag} {H F H' F' : Hp} (s : FrzStay H H') (f : Same F F') : ∀ {as : List Addr} {cs : List Cont}, Owns K H F as cs → (∀ a ∈ as, H' a = H a) → Owns K H' F' as cs
  | [], [], _, _ => trivial
  | [], _ :: _, h, _ => h.elim
  | _ :: _, [], h, _ => h.elim
  | a :: as, c :: cs, h, e => ⟨h.1.to (e a List.mem_cons_self) s f, Owns.to s f h.2 fun b hb => e b (List.mem_cons_of_mem _ hb)⟩
theorem Owns.lst {K : PySem.W.Frag} {H F : Hp} : ∀ {as : List Addr} {cs : List Cont}, Owns K H F as cs → ∀ a ∈ as, ∃ o, H a = some o ∧ NoTup (some o) ∧ ∀ u x, o ≠ .frz u x
  | [], [], _, _, h => by cases h
  | [], _ :: _, h, _, _ => h.elim
  | _ :: _, [], h, _, _ => h.elim
  | a :: as, c :: cs, h, b, hb => by
    rcases List.mem_cons.mp hb with rfl | hb
    · exact h.1.lst
    · exact Owns.lst h.2 b hb
theorem Owns.get {K : PySem.W.Frag} {H F : Hp} : ∀ {as : List Addr} {cs : List Cont} {k : Nat} {c : Cont}, Owns K H F as cs → cs[k]? = some c → ∃ a, as[k]? = some a ∧ OwnAt K H F a c
  | [], [], _, _, _, q => by simp at q
  | [], _ :: _, _, _, h, _ => h.elim
  | _ :: _, [], _, _, h, _ => h.elim
  | a :: as, c :: cs, 0, _, h, q => by
    have e := Option.some.inj q
    subst e
    exact ⟨a, rfl, h.1⟩
  | a :: as, c :: cs, k + 1, _, h, q => Owns.get (k := k) h.2 q
theorem InSl.get {σ : L2.St} : ∀ {is : List Nat} {as : List Addr} {k i : Nat} {a : Addr}, InSl σ is as → is[k]? = some i → as[k]? = some a → i < σ.length → σ[i]? = some (some (.ref a))
  | [], [], _, _, _, _, q, _, _ => by simp at q
  | [], _ :: _, _, _, _, h, _, _, _ => h.elim
  | _ :: _, [], _, _, _, h, _, _, _ => h.elim
  | i :: is, a :: as, 0, _, _, h, q, q2, hl => by
    have e := Option.some.inj q
    have e2 := Option.some.inj q2
    subst e; subst e2
    exact h.1 hl
  | i :: is, a :: as, k + 1, _, _, h, q, q2, hl => InSl.get (k := k) h.2 q q2 hl
theorem InSl.set {σ : L2.St} {j : Nat} {v : Option V} : ∀ {is : List Nat} {as : List Addr}, InSl σ is as → j ∉ is → InSl (σ.set j v) is as
  | [], [], _, _ => trivial
  | [], _ :: _, h, _ => h.elim
  | _ :: _, [], h, _ => h.elim
  | i :: is, a :: as, h, n => ⟨fun hl => by
    rw [List.length_set] at hl
    rw [List.getElem?_set_ne (fun z : j = i => n (by rw [z]; exact List.mem_cons_self))]
    exact h.1 hl, InSl.set h.2 fun z => n (List.mem_cons_of_mem _ z)⟩
/-- one object is written -/
theorem Owns.put {K : PySem.W.Frag} {H H' F : Hp} (s : FrzStay H H') : ∀ {as : List Addr} {cs : List Cont} {k : Nat} {a : Addr} {c : Cont}, Owns K H F as cs → as.Nodup → as[k]? = some a → (∀ b ∈ as, b ≠ a → H' b = H b) → OwnAt K H' F a c → Owns K H' F as (cs.set k c)
  | [], [], _, _, _, _, _, q, _, _ => by simp at q
  | [], _ :: _, _, _, _, h, _, _, _, _ => h.elim
  | _ :: _, [], _, _, _, h, _, _, _, _ => h.elim
  | b :: as, d :: cs, 0, a, c, h, nd, q, e, hc => by
    have z := Option.some.inj q
    subst z
    refine ⟨hc, Owns.to s (Same.refl _) h.2 fun x hx => e x (List.mem_cons_of_mem _ hx) fun z => ?_⟩
    subst z
    exact (List.nodup_cons.mp nd).1 hx
  | b :: as, d :: cs, k + 1, a, c, h, nd, q, e, hc => by
    have q' : as[k]? = some a := q
    have hm := List.mem_of_getElem? q'
    refine ⟨h.1.to (e b List.mem_cons_self fun z => ?_) s (Same.refl _), Owns.put s (k := k) h.2 (List.nodup_cons.mp nd).2 q' (fun x hx => e x (List.mem_cons_of_mem _ hx)) hc⟩
    subst z
    exact (List.nodup_cons.mp nd).1 hm
/-- what can be read -/
def fullD (ρ : DEnv) : List Nat → List Cont → DEnv
  | i :: is, .lst ds :: cs => (fullD ρ is cs).set i (some (.list ds))
  | i :: is, .row4 _ ns c s r :: cs => (fullD ρ is cs).set i (some (.list [.list (ns.map .int), .int c, .int s, .int r]))
  | _ :: is, .row :: cs => fullD ρ is cs
  | _ :: is, .ext _ _ :: cs => fullD ρ is cs
  | _, _ => ρ
structure EnvM (K : PySem.W.Frag) (H : Hp) (σ : L2.St) (is : List Nat) (as : List Addr) (ρ : DEnv) (cs : List Cont) : Prop where
  rest : EnvD K (dels H as) σ ρ
  sl : InSl σ is as
  own : Owns K H (dels H as) as cs
  nd : as.Nodup
theorem EnvD.put {K : PySem.W.Frag} {H : Hp} {σ : L2.St} {ρ : DEnv} {i : Nat} {v : V} {d : PyData} (h : EnvD K H σ ρ) (hv : i < σ.length → σ[i]? = some (some v)) (hd : Dp K H v d) : EnvD K H σ (ρ.set i (some d)) := by
  refine ⟨by rw [List.length_set, h.len], fun j e q => ?_⟩
  by_cases hj : j = i
  · subst hj
    by_cases hl : j < ρ.length
    · rw [List.getElem?_set_self hl] at q
      cases q
      exact ⟨v, hv (by rw [h.len]; exact hl), hd⟩
    · rw [List.getElem?_eq_none (by rw [List.length_set]; omega)] at q
      cases q
  · rw [List.getElem?_set_ne (Ne.symm hj)] at q
    exact h.at_ j e q
theorem full_aux {K : PySem.W.Frag} {H F : Hp} {σ : L2.St} {ρ : DEnv} (h : EnvD K H σ ρ) (f : Same F H) : ∀ {is : List Nat} {as : List Addr} {cs : List Cont}, InSl σ is as → Owns K H F as cs → EnvD K H σ (fullD ρ is cs)
  | [], [], [], _, _ => h
  | [], [], _ :: _, _, q => q.elim
  | [], _ :: _, _, q, _ => q.elim
  | _ :: _, [], _, q, _ => q.elim
  | _ :: _, _ :: _, [], _, q => q.elim
  | i :: is, a :: as, .row4 sv ns c t r :: cs, s, o => by
    obtain ⟨h1, h2⟩ := o.1
    exact (full_aux h f s.2 o.2).put s.1 (.lst (SqL.of h1) (.cons h2.dp (.cons (.int _) (.cons (.int _) (.cons (.int _) .nil)))))
  | i :: is, a :: as, .ext _ _ :: cs, s, o => by
    have := full_aux (is := is) (as := as) (cs := cs) h f s.2 o.2
    exact this
  | i :: is, a :: as, .row :: cs, s, o => by
    have := full_aux (is := is) (as := as) (cs := cs) h f s.2 o.2
    exact this
  | i :: is, a :: as, .lst ds :: cs, s, o => by
    obtain ⟨xs, h1, h2⟩ := o.1
    exact (full_aux h f s.2 o.2).put s.1 (.lst (SqL.of h1) (dps_same f _ _ h2))
section
variable {K : PySem.W.Frag} {H H' : Hp} {σ : L2.St} {is : List Nat} {as : List Addr} {ρ : DEnv} {cs cs' : List Cont}
theorem EnvM.full (h : EnvM K H σ is as ρ cs) : EnvD K H σ (fullD ρ is cs) := full_aux (h.rest.same same_dels) same_dels h.sl h.own
theorem EnvM.to (h : EnvM K H σ is as ρ cs) (s : Same (dels H as) (dels H' as)) (o : Owns K H' (dels H' as) as cs') : EnvM K H' σ is as ρ cs' := ⟨h.rest.same s, h.sl, o, h.nd⟩
theorem frz_same (s : Same H H') : FrzStay H H' := fun b o u e => s _ _ e
theorem frz_upd {a : Addr} {xs : List V} {o : HO} (h : H a = some (.lst xs)) : FrzStay H (upd H a o) := fun b q u e => by
  rw [upd_ne (fun z => by rw [z, h] at e; cases e)]
  exact e
theorem frz_updO {a : Addr} {o0 o : HO} (h : H a = some o0) (hf : ∀ u x, o0 ≠ .frz u x) : FrzStay H (upd H a o) := fun b q u e => by
  rw [upd_ne (fun z => by rw [z, h] at e; exact hf _ _ (Option.some.inj e))]
  exact e
theorem EnvM.same (h : EnvM K H σ is as ρ cs) (s : Same H H') : EnvM K H' σ is as ρ cs :=
  h.to (same_dels2 s) (Owns.to (frz_same s) (same_dels2 s) h.own fun a ha => by
    obtain ⟨xs, e, e0⟩ := Owns.lst h.own a ha
    rw [e, s _ _ e])
theorem EnvM.set (h : EnvM K H σ is as ρ cs) {j : Nat} {v : V} {d : PyData} (hj : j ∉ is) (hd : Dp K (dels H as) v d) : EnvM K H (σ.set j (some v)) is as (ρ.set j (some d)) cs := ⟨h.rest.set hd, h.sl.set hj, h.own, h.nd⟩
theorem EnvM.noTup (h : EnvM K H σ is as ρ cs) : ∀ a ∈ as, NoTup (H a) := fun a ha => by
  obtain ⟨xs, e, e0⟩ := Owns.lst h.own a ha
  rw [e]; exact e0.1
theorem dp_dels {d : PyData} {v : V} (hn : ∀ a ∈ as, NoTup (H a)) (l : lfree d = true) (h : Dp K H v d) : Dp K (dels H as) v d := dp_lfree (fun a xs q => by
  rcases q with (q | ⟨o, q⟩) | q
  · exact .inl (.inl (by rw [dels_ne fun z => (hn a z).1 xs q]; exact q))
  · exact .inl (.inr ⟨o, by rw [dels_ne fun z => (hn a z).2 o xs q]; exact q⟩)
  · exact .inr q) d v l h
theorem dps_dels {d : List PyData} {v : List V} (hn : ∀ a ∈ as, NoTup (H a)) (l : lfreeAll d = true) (h : DpAll K H v d) : DpAll K (dels H as) v d := dps_lfree (fun a xs q => by
  rcases q with (q | ⟨o, q⟩) | q
  · exact .inl (.inl (by rw [dels_ne fun z => (hn a z).1 xs q]; exact q))
  · exact .inl (.inr ⟨o, by rw [dels_ne fun z => (hn a z).2 o xs q]; exact q⟩)
  · exact .inr q) d v l h
end

/-! ### evaluation beside owned lists -/
def EvM (X : Cx) (is : List Nat) (e : Expr) (ρ : DEnv) (cs : List Cont) (P : PyData → Prop) : Prop :=
  ∀ σ H as, EnvM X.K H σ is as ρ cs → ∀ Q : VK, (∀ v H' d, P d → Same (dels H as) (dels H' as) → EnvM X.K H' σ is as ρ cs → Dp X.K (dels H' as) v d → Q v H') → EAt X e σ H Q
def EvMT (X : Cx) (is : List Nat) (e : Expr) (ρ : DEnv) (cs : List Cont) (P : Bool → Prop) : Prop :=
  ∀ σ H as, EnvM X.K H σ is as ρ cs → ∀ Q : Bool → Hp → Prop, (∀ b H', P b → Same (dels H as) (dels H' as) → EnvM X.K H' σ is as ρ cs → Q b H') → TAt X e σ H Q
def EvMA (X : Cx) (is : List Nat) (es : List Expr) (ρ : DEnv) (cs : List Cont) (P : List PyData → Prop) : Prop :=
  ∀ σ H as, EnvM X.K H σ is as ρ cs → ∀ Q : List V → Hp → Prop, (∀ vs H' ds, P ds → Same (dels H as) (dels H' as) → EnvM X.K H' σ is as ρ cs → DpAll X.K (dels H' as) vs ds → Q vs H') → AAt X es σ H Q
section
variable {X : Cx} {is : List Nat} {e a b c : Expr} {es : List Expr} {ρ : DEnv} {cs : List Cont} {d : PyData} {ds : List PyData} {pos pf : Pos} {P P1 P2 : PyData → Prop} {PA1 : List PyData → Prop} {p : Bool}
theorem em_pure (h : Ev X e (fullD ρ is cs) d) (l : lfree d = true) (hP : P d) : EvM X is e ρ cs P := fun σ H as E Q k =>
  h σ H E.full Q fun v H' s hd => k v H' d hP (same_dels2 s) (E.same s) (dp_dels (E.same s).noTup l hd)
theorem em_new (h : EvN X e (fullD ρ is cs) ds) (l : lfreeAll ds = true) (hP : P (.list ds)) : EvM X is e ρ cs P := fun σ H as E Q k =>
  h σ H E.full Q fun D acc H' hn s h1 h2 => by
    have E' := E.same s
    have hD : D ∉ as := fun z => by
      obtain ⟨xs, q, q0⟩ := Owns.lst E.own D z
      rw [hn] at q; cases q
    exact k _ H' _ hP (same_dels2 s) E' (.lst (SqL.of (by rw [dels_ne hD]; exact h1)) (dps_dels E'.noTup l (dps_same same_del _ _ h2)))
/-- a name that holds what stands -/
theorem em_var (i : Nat) {x : Str} (h : ρ[i]? = some (some d) := by rfl) (hP : P d) (hN : X.N[i]? = some x := by rfl) (hv : Vis X.env.scope x := by first | exact Or.inl rfl | exact Or.inr (Or.inl rfl) | exact Or.inr (Or.inr rfl)) (hd : (x == ("__debug__" : Str)) = false := by decide)
    (hcd : (x == ("__classdict__" : Str)) = false := by decide) : EvM X is (.Name x pos) ρ cs P := fun σ H as E Q k => by
  obtain ⟨v, h1, h2⟩ := E.rest.at_ i d h
  exact EAt.of (pe_var hN hv hd hcd) ⟨v, h1, k v H d hP (Same.refl _) E h2⟩
theorem ema_nil (hP : PA1 []) : EvMA X is [] ρ cs PA1 := fun σ H as E Q k => AAt.of pa_nil (k [] H [] hP (Same.refl _) E .nil)
theorem ema_cons (h : EvM X is e ρ cs P1) (hs : ∀ d, P1 d → EvMA X is es ρ cs fun ds => PA1 (d :: ds)) (hst : starEach (e :: es) X.env = (false, eval e X.env) :: starEach es X.env := by rfl) : EvMA X is (e :: es) ρ cs PA1 := fun σ H as E Q k =>
  AAt.of (pa_cons eat aat hst) (h σ H as E _ fun v H1 d hd s1 E1 q1 => hs d hd σ H1 as E1 _ fun vs H2 ds hds s2 E2 q2 => k _ H2 _ hds (s1.trans s2) E2 (.cons (dp_same s2 _ _ q1) q2))
theorem em_imp (h : EvM X is e ρ cs P1) (q : ∀ d, P1 d → P d) : EvM X is e ρ cs P := fun σ H as E Q k => h σ H as E Q fun v H' d hd => k v H' d (q d hd)
theorem em_bin {op : Operator} {r : R2} (ho : OpR X (binaryOp op) r) (ha : EvM X is a ρ cs P1) (hb : EvM X is b ρ cs P2)
    (hr : ∀ x y, P1 x → P2 y → ∃ z, P z ∧ ∀ u v H Q, Dp X.K H u x → Dp X.K H v y → (∀ w, (∀ F : Hp, Dp X.K F w z) → Q w H) → r u v H Q) : EvM X is (.BinOp a op b pos) ρ cs P := fun σ H as E Q k =>
  EAt.of (pe_op ho eat eat) (ha σ H as E _ fun u H1 x hx s1 E1 q1 => hb σ H1 as E1 _ fun v H2 y hy s2 E2 q2 => by
    obtain ⟨z, hz, q⟩ := hr x y hx hy
    exact q u v H2 Q (dp_same same_dels _ _ (dp_same s2 _ _ q1)) (dp_same same_dels _ _ q2) fun w hw => k w H2 z hz (s1.trans s2) E2 (hw _))
def IsI (P : Int → Prop) : PyData → Prop := fun d => ∃ i, d = .int i ∧ P i
theorem em_add {p1 p2 p3 : Int → Prop} (ha : EvM X is a ρ cs (IsI p1)) (hb : EvM X is b ρ cs (IsI p2)) (hr : ∀ i j, p1 i → p2 j → p3 (i + j)) : EvM X is (.BinOp a .Add b pos) ρ cs (IsI p3) :=
  em_bin op_add ha hb fun x y hx hy => by
    obtain ⟨i, rfl, hi⟩ := hx
    obtain ⟨j, rfl, hj⟩ := hy
    exact ⟨.int (i + j), ⟨_, rfl, hr i j hi hj⟩, fun u v H Q du dv q => rI0_of du dv (q _ fun F => .int _)⟩
theorem em_sub {p1 p2 p3 : Int → Prop} (ha : EvM X is a ρ cs (IsI p1)) (hb : EvM X is b ρ cs (IsI p2)) (hr : ∀ i j, p1 i → p2 j → p3 (i - j)) : EvM X is (.BinOp a .Sub b pos) ρ cs (IsI p3) :=
  em_bin op_sub ha hb fun x y hx hy => by
    obtain ⟨i, rfl, hi⟩ := hx
    obtain ⟨j, rfl, hj⟩ := hy
    exact ⟨.int (i - j), ⟨_, rfl, hr i j hi hj⟩, fun u v H Q du dv q => rI0_of du dv (q _ fun F => .int _)⟩
/-- a tuple -/
theorem em_tup {n : Nat} (h : EvMA X is es ρ cs PA1) (hP : ∀ ds, PA1 ds → P (.tuple ds) ∧ ds.length ≤ 1000) : EvM X is (.Tuple es n pos) ρ cs P := fun σ H as E Q k =>
  EAt.of (pe_tup aat) (h σ H as E _ fun vs H1 ds hds s1 E1 q1 => by
    obtain ⟨hp, hz⟩ := hP ds hds
    refine ⟨by rw [dps_len q1]; exact Nat.le_trans hz (by decide), fun p hp1 => ?_⟩
    have s2 := same_upd (o := .tup vs) hp1
    have hpa : p ∉ as := fun z => by
      obtain ⟨xs, q, q0⟩ := Owns.lst E1.own p z
      rw [hp1] at q; cases q
    exact k _ _ _ hp (s1.trans (same_dels2 s2)) (E1.same s2) (.tup (SqT.of (by rw [dels_ne hpa]; exact upd_same)) (dps_same (same_dels2 s2) _ _ q1)))
/-- x if c else y, by a known test -/
theorem em_if (h : EvT X c (fullD ρ is cs) p) (h1 : p = true → EvM X is a ρ cs P) (h2 : p = false → EvM X is b ρ cs P) : EvM X is (.IfExp c a b pos) ρ cs P := fun σ H as E Q k =>
  EAt.of (pe_ifExp tat eat eat) (h σ H E.full _ fun H1 s1 => by
    have E1 := E.same s1
    have z : ∀ v H' d, P d → Same (dels H1 as) (dels H' as) → EnvM X.K H' σ is as ρ cs → Dp X.K (dels H' as) v d → Q v H' := fun v H' d hd s2 => k v H' d hd ((same_dels2 s1).trans s2)
    cases p with
    | true => exact iteT (h1 rfl σ H1 as E1 Q z)
    | false => exact iteF (h2 rfl σ H1 as E1 Q z))
/-- a subscript of a list that stands -/
theorem em_ixL {P2 : Int → Prop} (ha : EvM X is a ρ cs (· = .list ds)) (hb : EvM X is b ρ cs (IsI P2)) (hP : ∀ i, P2 i → ∃ d, atI ds i = some d ∧ P d) (hs : PlainIx b := by exact fun _ _ => rfl) : EvM X is (.Subscript a b pos) ρ cs P := fun σ H as E Q k =>
  EAt.of (pe_ix ix_list eat eat hs) (ha σ H as E _ fun u H1 x hx s1 E1 q1 => hb σ H1 as E1 _ fun v H2 y hy s2 E2 q2 => by
    subst hx
    obtain ⟨i, rfl, hi⟩ := hy
    obtain ⟨d, hd, hp⟩ := hP i hi
    obtain ⟨l, xs, rfl, h2, h3⟩ := dp_list (dp_same s2 _ _ q1)
    cases dp_int q2
    obtain ⟨w, hw, q⟩ := atI_dps h3 hd
    have h2' : SqL X.K H2 l xs := Same.seq same_dels h2
    exact ⟨l, xs, i, w, rfl, rfl, h2', hw, k w H2 d hp (s1.trans s2) E2 q⟩)
/-- a test by a value -/
theorem emt_eqI {p1 p2 : Int → Prop} {k : Nat} (hr : Room k X.A) (ha : EvM X is a ρ cs (IsI p1)) (hb : EvM X is b ρ cs (IsI p2)) {PB : Bool → Prop} (hP : ∀ i j, p1 i → p2 j → PB (decide (i = j))) : EvMT X is (.Compare a [.Eq] [b] pos) ρ cs PB := fun σ H as E Q kk =>
  TAt.of (pt_cmpR (op_eqD (hu64 hr)) eat eat (nomark _)) (ha σ H as E _ fun u H1 x hx s1 E1 q1 => hb σ H1 as E1 _ fun v H2 y hy s2 E2 q2 => by
    obtain ⟨i, rfl, hi⟩ := hx
    obtain ⟨j, rfl, hj⟩ := hy
    refine ⟨.int i, .int j, dp_same same_dels _ _ (dp_same s2 _ _ q1), dp_same same_dels _ _ q2, shaped_int _, shaped_int _, PyData.eqv (.int i) (.int j), rfl, ?_⟩
    rw [eqv_int]
    exact kk _ H2 (hP i j hi hj) (s1.trans s2) E2)
end
end Q40
end

section
set_option maxRecDepth 100000
set_option maxHeartbeats 4000000
namespace Q40
open PySem PySem.Spec PyProof.Rows L2

/-! ### statements beside owned lists -/
structure MEnds where
  nx : DEnv → List Cont → Prop
  rt : PyData → List Cont → Prop
def endsM (K : PySem.W.Frag) (is : List Nat) (as : List Addr) (H : Hp) (D : MEnds) : Ends where
  nx := fun σ' H' => Same (dels H as) (dels H' as) ∧ ∃ ρ' cs', EnvM K H' σ' is as ρ' cs' ∧ D.nx ρ' cs'
  rt := fun v H' => Same (dels H as) (dels H' as) ∧ ∃ cs' d, Owns K H' (dels H' as) as cs' ∧ Dp K (dels H' as) v d ∧ D.rt d cs'
  bk := fun _ _ => False
  ct := fun _ _ => False
def StM (X : Cx) (is : List Nat) (st : Stmt) (ρ : DEnv) (cs : List Cont) (D : MEnds) : Prop := ∀ σ H as, EnvM X.K H σ is as ρ cs → SAt X st (endsM X.K is as H D) σ H
def BkM (X : Cx) (is : List Nat) (sts : List Stmt) (ρ : DEnv) (cs : List Cont) (D : MEnds) : Prop := ∀ σ H as, EnvM X.K H σ is as ρ cs → BAt X sts (endsM X.K is as H D) σ H
section
variable {X : Cx} {is : List Nat} {st : Stmt} {sts body A B : List Stmt} {ρ : DEnv} {cs : List Cont} {D : MEnds} {e a b c : Expr} {d : PyData} {ds : List PyData} {pos ps pt p2 : Pos} {P P1 P2 : PyData → Prop} {PA1 : List PyData → Prop} {PB : Bool → Prop} {p : Bool}
theorem BkM.at (h : BkM X is sts ρ cs D) {σ : L2.St} {H H0 : Hp} {as : List Addr} (E : EnvM X.K H σ is as ρ cs) (s : Same (dels H0 as) (dels H as)) : BAt X sts (endsM X.K is as H0 D) σ H :=
  (h σ H as E).imp (fun _ _ q => ⟨s.trans q.1, q.2⟩) (fun _ _ q => ⟨s.trans q.1, q.2⟩) (fun _ _ q => q) fun _ _ q => q
theorem bkM_nil (h : D.nx ρ cs) : BkM X is [] ρ cs D := fun σ H as E => BAt.of pss_nil (show (endsM X.K is as H D).nx σ H from ⟨Same.refl _, ρ, cs, E, h⟩)
theorem bkM_cons (h : StM X is st ρ cs { D with nx := fun ρ' cs' => BkM X is sts ρ' cs' D }) : BkM X is (st :: sts) ρ cs D := fun σ H as E => by
  refine BAt.of (pss_cons sat bat) (fun pins s I => thn (h σ H as E pins s I) fun f s' q => ?_)
  refine SP.imp (D := endsM X.K is as H { D with nx := fun ρ' cs' => BkM X is sts ρ' cs' D }) (D' := { endsM X.K is as H D with nx := BAt X sts (endsM X.K is as H D) }) (fun σ' H' q => ?_) (fun _ _ q => q) (fun _ _ q => q) (fun _ _ q => q) q
  obtain ⟨s1, ρ', cs', E', h'⟩ := q
  exact h'.at E' s1
theorem stM_set {i : Nat} {n : Str} (h : EvM X is e ρ cs P) (k : ∀ d, P d → D.nx (ρ.set i (some d)) cs) (hN : X.N.Nodup) (hni : i ∉ is := by decide) (hi : X.N[i]? = some n := by rfl) (hx : Loc X.env.scope n := by first | exact .inl rfl | exact .inr rfl)
    (hs : swapsWith e (some (.Name n pt)) pos.line X.env = pure false := by rfl) (hf : X.fn n = true ∨ X.env.scope.names.lookup n = some .local := by first | exact .inl rfl | exact .inr rfl) : StM X is (.Assign [.Name n pt] e pos) ρ cs D := fun σ H as E =>
  SAt.of (ps_set (i := i) hN hi hx eat hs hf) (h σ H as E _ fun v H' d hd s E' q => ⟨s, _, cs, E'.set hni q, k d hd⟩)
theorem stM_par {i j : Nat} {n m : Str} {kt k2 : Nat} {pa pb pc : Pos} (h : EvMA X is [a, b] ρ cs PA1) (k : ∀ ds, PA1 ds → ∃ x y, ds = [x, y] ∧ D.nx ((ρ.set i (some x)).set j (some y)) cs) (hN : X.N.Nodup) (hni : i ∉ is := by decide) (hnj : j ∉ is := by decide) (hc : X.calm = true := by rfl) (hi : X.N[i]? = some n := by rfl) (hj : X.N[j]? = some m := by rfl) (hij : i ≠ j := by decide)
    (hx : X.env.scope.names.lookup n = some .local := by rfl) (hy : X.env.scope.names.lookup m = some .local := by rfl)
    (hw : swappedStores [.Tuple [.Name n pa, .Name m pb] kt pc] (.Tuple [a, b] k2 p2) X.env = pure (some [n, m]) := by rfl) (hs : swapsWithSole [.Tuple [.Name n pa, .Name m pb] kt pc] (.Tuple [a, b] k2 p2) pos.line X.env = pure false := by rfl) :
    StM X is (.Assign [.Tuple [.Name n pa, .Name m pb] kt pc] (.Tuple [a, b] k2 p2) pos) ρ cs D := fun σ H as E =>
  SAt.of (ps_par (i := i) (j := j) hc hN hi hj hij hx hy aat hw hs) (h σ H as E _ fun vs H' ds hds s E' q => by
    obtain ⟨x, y, rfl, hk⟩ := k ds hds
    obtain ⟨v, w, rfl, q1, q2⟩ := dps2 q
    exact ⟨v, w, rfl, s, _, cs, (E'.set hni q1).set hnj q2, hk⟩)
theorem stM_if (h : EvT X c (fullD ρ is cs) p) (h1 : p = true → BkM X is A ρ cs D) (h2 : p = false → BkM X is B ρ cs D) : StM X is (.If c A B pos) ρ cs D := fun σ H as E =>
  SAt.of (ps_if tat bat bat) (h σ H E.full _ fun H1 s1 => by
    cases p with
    | true => exact iteT ((h1 rfl).at (E.same s1) (same_dels2 s1))
    | false => exact iteF ((h2 rfl).at (E.same s1) (same_dels2 s1)))
theorem stM_ifM (h : EvMT X is c ρ cs PB) (h1 : PB true → BkM X is A ρ cs D) (h2 : PB false → BkM X is B ρ cs D) : StM X is (.If c A B pos) ρ cs D := fun σ H as E =>
  SAt.of (ps_if tat bat bat) (h σ H as E _ fun b H1 hb s1 E1 => by
    cases b with
    | true => exact iteT ((h1 hb).at E1 s1)
    | false => exact iteF ((h2 hb).at E1 s1))
theorem stM_ret (h : EvM X is e ρ cs P) (hr : ∀ d, P d → D.rt d cs) : StM X is (.Return (some e) pos) ρ cs D := fun σ H as E => SAt.of (ps_ret eat) (h σ H as E _ fun v H' d hd s E' q => ⟨s, cs, d, E'.own, q, hr d hd⟩)
theorem small_line {n : Nat} (h : n ≤ 100000) : n < sizeLine := Nat.lt_of_le_of_lt h (by decide)
/-- xs.append(e), xs owned -/
theorem stM_app {k i : Nat} {x : Str} {pa pc : Pos} (h : EvM X is e ρ cs P) (hk : is[k]? = some i) (hcs : cs[k]? = some (.lst ds)) (hz : ds.length ≤ 100000) (hl : i < ρ.length) (kk : ∀ d, P d → D.nx ρ (cs.set k (.lst (ds ++ [d]))))
    (hN : X.N[i]? = some x := by rfl) (hv : Vis X.env.scope x := by first | exact Or.inl rfl | exact Or.inr (Or.inl rfl) | exact Or.inr (Or.inr rfl)) (hd : (x == ("__debug__" : Str)) = false := by decide)
    (hcd : (x == ("__classdict__" : Str)) = false := by decide)
    (hb : attributeBase (.Name x ps) "append" X.env (eval (.Name x ps) X.env) = eval (.Name x ps) X.env := by rfl)
    (hfew : ((backTo pc (starEach [e] X.env)).all (fun x => !x.1) && (backToKw pc (keywordEach [] X.env)).all (fun x => x.1.isSome)
      && decide (([e] : List Expr).length + ([] : List Keyword).length + (if ([] : List Keyword).isEmpty then 0 else 1) < 30)) = true := by rfl)
    (hline : (pa.endLine == pc.line) = true := by rfl) (hst : starEach [e] X.env = [(false, eval e X.env)] := by rfl)
    (hs : swapsWith (.Call (.Attribute (.Name x ps) "append" pa) [e] [] pc) none pos.line X.env = pure false := by rfl) : StM X is (.Expr (.Call (.Attribute (.Name x ps) "append" pa) [e] [] pc) pos) ρ cs D := fun σ H as E => by
  obtain ⟨D0, hD, hO⟩ := Owns.get E.own hcs
  obtain ⟨xs, h1, h2⟩ := hO
  have hm := List.mem_of_getElem? hD
  have hσ := InSl.get E.sl hk hD (by rw [E.rest.len]; exact hl)
  refine SAt.of (ps_expr (pe_bm PySem.F.plainAttrs_list PySem.F.slot_list_append PySem.F.type_list_append mt_append (pe_var hN hv hd hcd) (pa_cons eat pa_nil hst) hb hfew hline hst) hs) ?_
  refine ⟨.ref D0, hσ, show tyV X.K "list" (.ref D0) H from .inl ⟨rfl, xs, .inl (.inl h1)⟩, h σ H as E _ fun v H' d hd' s E' q => ?_⟩
  obtain ⟨D1, hD1, hO1⟩ := Owns.get E'.own hcs
  have e1 : D1 = D0 := Option.some.inj (hD1.symm.trans hD)
  subst e1
  obtain ⟨ys, h1', h2'⟩ := hO1
  refine ⟨D1, ys, v, rfl, rfl, h1', by rw [dps_len h2']; exact small_line hz, ?_⟩
  have ed := dels_upd (H := H') (o := .lst (ys ++ [v])) hm
  refine ⟨by rw [ed]; exact s, ρ, _, ⟨by rw [ed]; exact E'.rest, E'.sl, ?_, E'.nd⟩, kk d hd'⟩
  rw [ed]
  exact Owns.put (frz_upd h1') E'.own E'.nd hD1 (fun b _ hb => upd_ne hb) ⟨_, upd_same, dps_app h2' (dps_one q)⟩

/-! loops -/
theorem stM_forR {j : Nat} {n : Str} {a : Expr} {m : Nat} {pr : Pos} (B : NoB X.mg) (hi : Ev X a (fullD ρ is cs) (.int (m : Int))) (hm : m ≤ 100000) (I : Nat → DEnv → List Cont → Prop) (h0 : I 0 ρ cs)
    (hs : ∀ (i : Nat) ρ' cs', i < m → I i ρ' cs' → BkM X is body (ρ'.set j (some (.int (i : Int)))) cs' { D with nx := I (i + 1) }) (hd : ∀ ρ' cs', I m ρ' cs' → D.nx ρ' cs')
    (hp : PassesOwn (model X.prog X.w) X.A X.env X.xe) (hN : X.N.Nodup) (hnj : j ∉ is := by decide) (hc : X.calm = true := by rfl) (hj : X.N[j]? = some n := by rfl) (hx : Loc X.env.scope n := by first | exact .inl rfl | exact .inr rfl)
    (hf : X.fn n = true ∨ X.env.scope.names.lookup n = some .local := by first | exact .inl rfl | exact .inr rfl) (hg : Gl X "range" := by rfl) (hst : starEach [a] X.env = [(false, eval a X.env)] := by rfl)
    (hfo : ∀ x, foldedSetIterable (.Call (.Name "range" pr) [a] [] p2) X.env x = pure x := by intro _; rfl) : StM X is (.For (.Name n pt) (.Call (.Name "range" pr) [a] [] p2) body [] pos) ρ cs D := fun σ H as E =>
  SAt.of (ps_for hp hc (pi_range1 hg B.range aat hst) (pg_name (i := j) hN hj hx hf) bat hfo) ((ea_cons hi ea_nil hst) σ H E.full _ fun vs H1 s1 d1 => by
    obtain ⟨v, rfl, d2⟩ := dps1 d1
    cases dp_int d2
    refine ⟨(m : Int), rfl, by omega, by omega, for_range (lo := 0) (n := ((m : Int)).toNat) (fun i σ' H' => Same (dels H as) (dels H' as) ∧ ∃ ρ' cs', EnvM X.K H' σ' is as ρ' cs' ∧ I i ρ' cs') ⟨same_dels2 s1, ρ, cs, E.same s1, h0⟩ (fun i σ' H' hu q => ?_) (fun σ' H' q => ?_)⟩
    · obtain ⟨s2, ρ', cs', E', hI⟩ := q
      rw [Int.zero_add]
      exact ((hs i ρ' cs' (by omega) hI).at (E'.set hnj (.int _)) s2).imp (fun _ _ q => q) (fun _ _ q => q) (fun _ _ q => q.elim) fun _ _ q => q.elim
    · obtain ⟨s2, ρ', cs', E', hI⟩ := q
      rw [show ((m : Int)).toNat = m by omega] at hI
      exact ⟨s2, ρ', cs', E', hd ρ' cs' hI⟩)
variable {α : Type} {xs : List α} {enc : α → PyData}
theorem stM_forL {j : Nat} {n : Str} {it : Expr} (hi : EvM X is it ρ cs (· = .list (xs.map enc))) (I : Nat → DEnv → List Cont → Prop) (h0 : I 0 ρ cs)
    (hs : ∀ (i : Nat) x ρ' cs', xs[i]? = some x → I i ρ' cs' → BkM X is body (ρ'.set j (some (enc x))) cs' { D with nx := I (i + 1) }) (hd : ∀ ρ' cs', I xs.length ρ' cs' → D.nx ρ' cs')
    (hp : PassesOwn (model X.prog X.w) X.A X.env X.xe) (hN : X.N.Nodup) (hnj : j ∉ is := by decide) (hc : X.calm = true := by rfl) (hj : X.N[j]? = some n := by rfl) (hx : Loc X.env.scope n := by first | exact .inl rfl | exact .inr rfl)
    (hf : X.fn n = true ∨ X.env.scope.names.lookup n = some .local := by first | exact .inl rfl | exact .inr rfl) (hfo : ∀ x, foldedSetIterable it X.env x = pure x := by intro _; rfl) : StM X is (.For (.Name n pt) it body [] pos) ρ cs D := fun σ H as E =>
  SAt.of (ps_for hp hc (pi_list eat) (pg_name (i := j) hN hj hx hf) bat hfo) (hi σ H as E _ fun v H1 d1 hd1 s1 E1 q1 => by
    subst hd1
    obtain ⟨l, vs, rfl, h1, h2⟩ := dp_list q1
    have h1' : SqL X.K H1 l vs := Same.seq same_dels h1
    refine ⟨l, rfl, ⟨vs, h1'⟩, for_list (K := X.K) (a := l) (xs := vs) (fun i σ' H' => Same (dels H1 as) (dels H' as) ∧ ∃ ρ' cs', EnvM X.K H' σ' is as ρ' cs' ∧ I i ρ' cs') ⟨Same.refl _, ρ, cs, E1, h0⟩ (fun i σ' H' _ q => Same.seq same_dels (Same.seq q.1 h1)) (fun i u σ' H' hu q => ?_) (fun σ' H' q => ?_)⟩
    · obtain ⟨s2, ρ', cs', E', hI⟩ := q
      obtain ⟨d, e1, e2⟩ := dps_get' h2 hu
      obtain ⟨x, e3, rfl⟩ := map_get e1
      exact ((hs i x ρ' cs' e3 hI).at (E'.set hnj (dp_same s2 _ _ e2)) (Same.refl _)).imp (fun _ _ q => ⟨s2.trans q.1, q.2⟩) (fun _ _ q => ⟨(s1.trans s2).trans q.1, q.2⟩) (fun _ _ q => q.elim) fun _ _ q => q.elim
    · obtain ⟨s2, ρ', cs', E', hI⟩ := q
      rw [dps_len h2, List.length_map] at hI
      exact ⟨s1.trans s2, ρ', cs', E', hd ρ' cs' hI⟩)
theorem stM_forT {j : Nat} {n : Str} {it : Expr} (hi : EvM X is it ρ cs (· = .tuple (xs.map enc))) (I : Nat → DEnv → List Cont → Prop) (h0 : I 0 ρ cs)
    (hs : ∀ (i : Nat) x ρ' cs', xs[i]? = some x → I i ρ' cs' → BkM X is body (ρ'.set j (some (enc x))) cs' { D with nx := I (i + 1) }) (hd : ∀ ρ' cs', I xs.length ρ' cs' → D.nx ρ' cs')
    (hp : PassesOwn (model X.prog X.w) X.A X.env X.xe) (hN : X.N.Nodup) (hnj : j ∉ is := by decide) (hc : X.calm = true := by rfl) (hj : X.N[j]? = some n := by rfl) (hx : Loc X.env.scope n := by first | exact .inl rfl | exact .inr rfl)
    (hf : X.fn n = true ∨ X.env.scope.names.lookup n = some .local := by first | exact .inl rfl | exact .inr rfl) (hfo : ∀ x, foldedSetIterable it X.env x = pure x := by intro _; rfl) : StM X is (.For (.Name n pt) it body [] pos) ρ cs D := fun σ H as E =>
  SAt.of (ps_for hp hc (pi_tup eat) (pg_name (i := j) hN hj hx hf) bat hfo) (hi σ H as E _ fun v H1 d1 hd1 s1 E1 q1 => by
    subst hd1
    obtain ⟨l, vs, rfl, h1, h2⟩ := dp_tup q1
    have h1' : SqT X.K H1 l vs := sqT_same same_dels h1
    refine ⟨l, rfl, ⟨vs, h1'⟩, for_tup (K := X.K) (a := l) (xs := vs) (fun i σ' H' => Same (dels H1 as) (dels H' as) ∧ ∃ ρ' cs', EnvM X.K H' σ' is as ρ' cs' ∧ I i ρ' cs') ⟨Same.refl _, ρ, cs, E1, h0⟩ (fun i σ' H' _ q => sqT_same same_dels (sqT_same q.1 h1)) (fun i u σ' H' hu q => ?_) (fun σ' H' q => ?_)⟩
    · obtain ⟨s2, ρ', cs', E', hI⟩ := q
      obtain ⟨d, e1, e2⟩ := dps_get' h2 hu
      obtain ⟨x, e3, rfl⟩ := map_get e1
      exact ((hs i x ρ' cs' e3 hI).at (E'.set hnj (dp_same s2 _ _ e2)) (Same.refl _)).imp (fun _ _ q => ⟨s2.trans q.1, q.2⟩) (fun _ _ q => ⟨(s1.trans s2).trans q.1, q.2⟩) (fun _ _ q => q.elim) fun _ _ q => q.elim
    · obtain ⟨s2, ρ', cs', E', hI⟩ := q
      rw [dps_len h2, List.length_map] at hI
      exact ⟨s1.trans s2, ρ', cs', E', hd ρ' cs' hI⟩)
end

/-! ### into and out of the owned -/
section
variable {X : Cx} {is : List Nat} {sts : List Stmt} {st : Stmt} {ρ : DEnv} {cs : List Cont} {D : MEnds} {DD : DEnds} {e : Expr} {ds : List PyData} {pos pt : Pos}
/-- a block that starts beside owned lists and ends with plain data -/
def BkX (X : Cx) (is : List Nat) (sts : List Stmt) (ρ : DEnv) (cs : List Cont) (D : DEnds) : Prop := ∀ σ H as, EnvM X.K H σ is as ρ cs → ∀ H0, (∀ b ∈ as, H0 b = none) → Same H0 H → BAt X sts (endsD X.K H0 D) σ H
theorem bkX_out (h : Bk X sts (fullD ρ is cs) DD) : BkX X is sts ρ cs DD := fun σ H as E H0 hn s => h.at E.full s
theorem same_free {H0 H H' : Hp} {as : List Addr} (hn : ∀ b ∈ as, H0 b = none) (s : Same H0 H) (s2 : Same (dels H as) (dels H' as)) : Same H0 H' := fun b o e => by
  have hb : b ∉ as := fun z => by rw [hn b z] at e; cases e
  exact same_dels _ _ (s2 b o (by rw [dels_ne hb]; exact s _ _ e))
theorem bkX_cons (h : StM X is st ρ cs { nx := fun ρ' cs' => BkX X is sts ρ' cs' DD, rt := fun d _ => DD.rt d }) : BkX X is (st :: sts) ρ cs DD := fun σ H as E H0 hn s0 => by
  refine BAt.of (pss_cons sat bat) (fun pins s I => thn (h σ H as E pins s I) fun f s' q => ?_)
  refine SP.imp (D := endsM X.K is as H { nx := fun ρ' cs' => BkX X is sts ρ' cs' DD, rt := fun d _ => DD.rt d }) (D' := { endsD X.K H0 DD with nx := BAt X sts (endsD X.K H0 DD) }) (fun σ' H' q => ?_) (fun v H' q => ?_) (fun _ _ q => q.elim) (fun _ _ q => q.elim) q
  · obtain ⟨s1, ρ', cs', E', h'⟩ := q
    exact h' σ' H' as E' H0 hn (same_free hn s0 s1)
  · obtain ⟨s1, cs', d, _, q1, q2⟩ := q
    exact ⟨same_free hn s0 s1, d, dp_same same_dels _ _ q1, q2⟩
/-- name = a new list -/
theorem bk_new {i : Nat} {n : Str} (h : EvN X e ρ ds) (k : BkX X [i] sts (ρ.set i none) [.lst ds] DD) (hN : X.N.Nodup) (hl : i < ρ.length) (hi : X.N[i]? = some n := by rfl) (hx : Loc X.env.scope n := by first | exact .inl rfl | exact .inr rfl)
    (hs : swapsWith e (some (.Name n pt)) pos.line X.env = pure false := by rfl) (hf : X.fn n = true ∨ X.env.scope.names.lookup n = some .local := by first | exact .inl rfl | exact .inr rfl) : Bk X (.Assign [.Name n pt] e pos :: sts) ρ DD := fun σ H E => by
  refine BAt.of (pss_cons (ps_set (i := i) hN hi hx eat hs hf) bat) (h σ H E _ fun D0 acc H' hn s h1 h2 => ?_)
  have hd : dels H' [D0] = del H' D0 := by
    funext b
    by_cases hb : b = D0
    · rw [hb, del_self, dels_in (List.mem_singleton.mpr rfl)]
    · rw [del_ne hb, dels_ne (fun z => hb (List.mem_singleton.mp z))]
  have hl' : i < σ.length := by rw [E.len]; exact hl
  refine k _ H' [D0] ⟨?_, ⟨fun _ => List.getElem?_set_self hl', trivial⟩, ⟨⟨acc, h1, by rw [hd]; exact h2⟩, trivial⟩, (by simp)⟩ H (fun b hb => by rw [List.mem_singleton.mp hb]; exact hn) s
  rw [hd]
  have E2 : EnvD X.K (del H' D0) σ ρ := E.same (same_to_del s hn)
  refine ⟨by rw [List.length_set, List.length_set, E2.len], fun j d q => ?_⟩
  by_cases hj : j = i
  · subst hj
    rw [List.getElem?_set_self hl] at q
    cases q
  · rw [List.getElem?_set_ne (Ne.symm hj)] at q ⊢
    exact E2.at_ j d q
end
end Q40
end

section
set_option maxRecDepth 100000
set_option maxHeartbeats 4000000
namespace Q40
open PySem PySem.Spec PyProof.Rows L2

/-! ### defs that draw from the row -/
def spR (K : PySem.W.Frag) (Pre : List PyData → Prop) (Post : List PyData → PyData → Prop) : Sp := fun vs H Q _ => ∃ (R : Addr) (vs' : List V) (ds : List PyData), vs = .ref R :: vs' ∧ RowOk K H R ∧ DpAll K (dels H [R]) vs' ds ∧ Pre ds ∧
  ∀ v H' d, Post ds d → Same (dels H [R]) (dels H' [R]) → RowOk K H' R → Dp K (dels H' [R]) v d → Q v H'
structure CalleeR (P : Program) (w : World) (K : PySem.W.Frag) (mg : Str → Option Value) (base : Heap) (x : Str) (k : Nat) (Pre : List PyData → Prop) (Post : List PyData → PyData → Prop) : Prop where
  ex : ∃ (f : Addr) (fd : FuncData) (ps : List Str), FnOk P w K mg base CX0 k f fd ps (spR K Pre Post) ∧ Binds K fd ps [] ∧ mg x = some (.ref f) ∧ PySem.W.keepIn K (.ref f) = true
theorem calleeR_of {P : Program} {w : World} {K : PySem.W.Frag} {mg : Str → Option Value} {base : Heap} {x : Str} {f : Addr} {fd : FuncData} {ps : List Str} {k : Nat} {Pre : List PyData → Prop} {Post : List PyData → PyData → Prop} (h : FnOk P w K mg base CX0 k f fd ps (spR K Pre Post)) (hb : Binds K fd ps []) (hm : mg x = some (.ref f))
    (hk : PySem.W.keepIn K (.ref f) = true) : CalleeR P w K mg base x k Pre Post := ⟨f, fd, ps, h, hb, hm, hk⟩
theorem Owns.nodupGet {as : List Addr} {k l : Nat} {a : Addr} (nd : as.Nodup) (h1 : as[k]? = some a) (h2 : as[l]? = some a) : k = l := by
  obtain ⟨p, e⟩ := List.getElem?_eq_some_iff.mp h1
  obtain ⟨q, e'⟩ := List.getElem?_eq_some_iff.mp h2
  exact (List.getElem_inj nd).mp (e.trans e'.symm)
theorem RowOk.lst {K : PySem.W.Frag} {H : Hp} {R : Addr} (h : RowOk K H R) : ∃ xs, H R = some (.lst xs) := by
  obtain ⟨_, _, _, _, h, _⟩ := h
  exact ⟨_, h⟩
section
variable {X : Cx} {is : List Nat} {sts : List Stmt} {ρ : DEnv} {cs : List Cont} {D : MEnds} {e : Expr} {es : List Expr} {pos pf rp : Pos} {P : PyData → Prop} {PA1 : List PyData → Prop} {Pre : List PyData → Prop} {Post : List PyData → PyData → Prop}
theorem em_call {x rn : Str} {k j idx i : Nat} (G : CalleeR X.prog X.w X.K X.mg X.base x k Pre Post) (hr : Room j X.A) (hj : k ≤ j) (ha : EvMA X is es ρ cs PA1) (hpre : ∀ ds, PA1 ds → Pre ds) (hpost : ∀ ds d, PA1 ds → Post ds d → P d ∧ lfree d = true)
    (hk : is[idx]? = some i) (hcs : cs[idx]? = some .row) (hl : i < ρ.length)
    (hN : X.N[i]? = some rn := by rfl) (hv : Vis X.env.scope rn := by first | exact Or.inl rfl | exact Or.inr (Or.inl rfl) | exact Or.inr (Or.inr rfl)) (hd : (rn == ("__debug__" : Str)) = false := by decide)
    (hcd : (rn == ("__classdict__" : Str)) = false := by decide)
    (hg : Gl X x := by rfl) (hdb : (x == ("__debug__" : Str)) = false := by decide) (he : starEach (.Name rn rp :: es) X.env = (false, eval (.Name rn rp) X.env) :: starEach es X.env := by rfl) (hpl : (backTo pos (starEach es X.env)).any (·.1) = false := by rfl) :
    EvM X is (.Call (.Name x pf) (.Name rn rp :: es) [] pos) ρ cs P := fun σ H as E Q q => by
  obtain ⟨f, fd, ps, G1, G2, G3, G4⟩ := G.ex
  obtain ⟨R, hR, hO⟩ := Owns.get E.own hcs
  have hm := List.mem_of_getElem? hR
  have hσ := InSl.get E.sl hk hR (by rw [E.rest.len]; exact hl)
  refine EAt.of (pe_call G1 (hr.mono hj) hg G3 G4 G2 .nil pass0 (pa_cons (pe_var hN hv hd hcd) aat he) hdb he hpl) ?_
  refine ⟨.ref R, hσ, ha σ H as E _ fun vs H1 ds hds s1 E1 q1 => ?_⟩
  show spR X.K Pre Post ((V.ref R :: vs) ++ []) H1 Q E0
  rw [List.append_nil]
  obtain ⟨R1, hR1, hO1⟩ := Owns.get E1.own hcs
  have e1 : R1 = R := Option.some.inj (hR1.symm.trans hR)
  subst e1
  have hsub : ∀ b ∈ [R1], b ∈ as := fun b hb => by rw [List.mem_singleton.mp hb]; exact hm
  refine ⟨R1, vs, ds, rfl, hO1, dps_same (dels_sub hsub) _ _ q1, hpre ds hds, fun v H2 d hp s2 hO2 q2 => ?_⟩
  obtain ⟨hP, hlf⟩ := hpost ds d hds hp
  have keep : ∀ b ∈ as, b ≠ R1 → H2 b = H1 b := fun b hb hne => by
    obtain ⟨xs, e, e0⟩ := Owns.lst E1.own b hb
    have := s2 b _ (by rw [dels_ne (fun z => hne (List.mem_singleton.mp z))]; exact e)
    rw [dels_ne (fun z => hne (List.mem_singleton.mp z))] at this
    rw [this, e]
  have s3 : Same (dels H1 as) (dels H2 as) := fun b o eb => by
    by_cases hb : b ∈ as
    · rw [dels_in hb] at eb; cases eb
    · have hne : b ∉ [R1] := fun z => hb (hsub b z)
      rw [dels_ne hb] at eb ⊢
      have := s2 b o (by rw [dels_ne hne]; exact eb)
      rw [dels_ne hne] at this
      exact this
  have fz : FrzStay H1 H2 := fun b o u eb => by
    have hne : b ∉ [R1] := fun z => by
      obtain ⟨xs, e⟩ := RowOk.lst hO1
      rw [List.mem_singleton.mp z, e] at eb; cases eb
    have := s2 b _ (by rw [dels_ne hne]; exact eb)
    rw [dels_ne hne] at this
    exact this
  have own2 : Owns X.K H2 (dels H1 as) as (cs.set idx .row) := Owns.put fz E1.own E1.nd hR1 keep hO2
  have ecs : cs.set idx .row = cs := by
    apply List.ext_getElem?
    intro n
    by_cases hn : idx = n
    · subst hn
      have hlen : idx < cs.length := (List.getElem?_eq_some_iff.mp hcs).1
      rw [List.getElem?_set_self hlen, hcs]
    · rw [List.getElem?_set_ne hn]
  rw [ecs] at own2
  have own3 : Owns X.K H2 (dels H2 as) as cs := Owns.to (fun _ _ _ z => z) s3 own2 fun _ _ => rfl
  have E2 := E1.to s3 own3
  exact q v H2 d hP (s1.trans s3) E2 (dp_dels E2.noTup hlf (dp_same same_dels _ _ q2))
/-- row[k] = an int -/
def rset (k : Nat) (v : Int) : Cont → Cont
  | .row4 sv ns c s r => match k with
    | 1 => .row4 sv ns v s r
    | 2 => .row4 sv ns c v r
    | 3 => .row4 sv ns c s v
    | _ => .row4 sv ns c s r
  | c => c
theorem stM_row {rn : Str} {sv : V} {ns : List Int} {c s r v : Int} {k i jj : Nat} {pk psb : Pos} (hk : k = 1 ∨ k = 2 ∨ k = 3) (h : Ev X e (fullD ρ (i :: is) (.row4 sv ns c s r :: cs)) (.int v)) (kk : D.nx ρ (rset k v (.row4 sv ns c s r) :: cs)) (hl : i < ρ.length)
    (hN : X.N[i]? = some rn := by rfl) (hv : Vis X.env.scope rn := by first | exact Or.inl rfl | exact Or.inr (Or.inl rfl) | exact Or.inr (Or.inr rfl)) (hd : (rn == ("__debug__" : Str)) = false := by decide)
    (hcd : (rn == ("__classdict__" : Str)) = false := by decide)
    (ha : ∀ v, assign (.Subscript (.Name rn rp) (.Constant (.int k) jj pk) psb) X.env v = (do
      let ov ← holding [v] (eval (.Name rn rp) X.env)
      let iv ← holding [v, ov] (eval (.Constant (.int k) jj pk) X.env)
      standAt psb
      holding [v, ov, iv] (setItem ov iv v)
      release [v, ov, iv] []) := by intro _; rfl)
    (hs : swapsWithSole [.Subscript (.Name rn rp) (.Constant (.int k) jj pk) psb] e pos.line X.env = pure false := by rfl) (hw : swappedStores [.Subscript (.Name rn rp) (.Constant (.int k) jj pk) psb] e X.env = pure none := by rfl)
    (h1 : (assignEach [.Subscript (.Name rn rp) (.Constant (.int k) jj pk) psb] X.env).map (·.2) = [assign (.Subscript (.Name rn rp) (.Constant (.int k) jj pk) psb) X.env] := by rfl) :
    StM X (i :: is) (.Assign [.Subscript (.Name rn rp) (.Constant (.int k) jj pk) psb] e pos) ρ (.row4 sv ns c s r :: cs) D := fun σ H as E => by
  refine SAt.of (ps_asg eat (pg_sub (pe_var hN hv hd hcd) pe_int set_list ha) hs hw h1) (h σ H E.full _ fun w H1 s1 d1 => ?_)
  cases dp_int d1
  have E1 := E.same s1
  obtain ⟨R, hR, hO⟩ := Owns.get (k := 0) E1.own rfl
  have hm := List.mem_of_getElem? hR
  have hσ := InSl.get (k := 0) E1.sl rfl hR (by rw [E1.rest.len]; exact hl)
  obtain ⟨h2, h3⟩ := hO
  have hk4 : ixN (4 : Nat) (k : Int) = some k := by rcases hk with rfl | rfl | rfl <;> decide
  refine ⟨.ref R, hσ, ⟨R, _, (k : Int), k, rfl, rfl, h2, hk4, ?_⟩⟩
  have ed := dels_upd (H := H1) (o := .lst ([sv, .int c, .int s, .int r].set k (.int v))) hm
  refine ⟨by rw [ed]; exact same_dels2 s1, ρ, _, ⟨by rw [ed]; exact E1.rest, E1.sl, ?_, E1.nd⟩, kk⟩
  rw [ed]
  have fz := frz_upd (o := .lst ([sv, .int c, .int s, .int r].set k (.int v))) h2
  refine Owns.put (k := 0) (cs := .row4 sv ns c s r :: cs) fz E1.own E1.nd hR (fun b _ hb => upd_ne hb) ?_
  rcases hk with rfl | rfl | rfl
  · exact ⟨upd_same, h3.to fz⟩
  · exact ⟨upd_same, h3.to fz⟩
  · exact ⟨upd_same, h3.to fz⟩
theorem bkM_open {i : Nat} (h : ∀ sv ns c s r, ns.length ≤ 63 → 0 ≤ c → 0 ≤ s → s < 2147483647 → 0 ≤ r → BkM X (i :: is) sts ρ (.row4 sv ns c s r :: cs) D) : BkM X (i :: is) sts ρ (.row :: cs) D := fun σ H as E => by
  have hsl := E.sl
  cases as with
  | nil => exact hsl.elim
  | cons R as =>
    obtain ⟨sv, c, s, r, h1, ⟨ns, h2⟩, h3, h4, h5, h6⟩ := E.own.1
    have hz : ns.length ≤ 63 := by obtain ⟨_, _, hz, _⟩ := h2; exact hz
    exact h sv ns c s r hz h3 h4 h5 h6 σ H _ ⟨E.rest, E.sl, ⟨⟨h1, h2⟩, E.own.2⟩, E.nd⟩
end
def Closes (cs : List Cont) : Prop := cs = [.row] ∨ ∃ sv ns c s r, cs = [.row4 sv ns c s r] ∧ 0 ≤ c ∧ 0 ≤ s ∧ s < 2147483647 ∧ 0 ≤ r
theorem closes_row {K : PySem.W.Frag} {H F : Hp} {R : Addr} {cs : List Cont} (h : Closes cs) (o : Owns K H F [R] cs) : RowOk K H R := by
  rcases h with rfl | ⟨sv, ns, c, s, r, rfl, h3⟩
  · exact o.1
  · exact ⟨sv, c, s, r, o.1.1, ⟨ns, o.1.2⟩, h3⟩
theorem row_ok {P : Program} {w : World} {K : PySem.W.Frag} {mg : Str → Option Value} {base : Heap} {x qual : Str} {st : Stmt} {f : Addr} {fd : FuncData} {N ps : List Str} {k : Nat} {Pre : List PyData → Prop} {Post : List PyData → PyData → Prop} (Fn : Fun K x qual st f fd) (S : FnScope N ps (defScope st))
    (hlen : ∀ ds, Pre ds → ds.length + 1 = ps.length) (h0 : 0 < N.length)
    (h : ∀ (cdv : Value) (A : Around) (outer : List Env) (s : Shared) (H : Hp) (E : XK), Room k (A.deeper (envOfC qual (defScope st) s.heap.objs.size f cdv)) → ∀ ds, Pre ds →
      BkM (bodyCx P w K mg base N qual st f cdv A outer s H E) [0] (defBody st) (none :: (ds.map some ++ List.replicate (N.length - (ds.length + 1)) none)) [.row] { nx := fun _ cs => Closes cs ∧ Post ds .none, rt := fun d cs => Closes cs ∧ Post ds d }) :
    FnOk P w K mg base CX0 (k + 1) f fd ps (spR K Pre Post) := by
  refine Fn.ok S (fun vs H Q E h => ?_) (fun cdv A outer s H vs Q E hr hsp => ?_)
  · obtain ⟨R, vs', ds, rfl, _, h1, h2, _⟩ := h
    rw [List.length_cons, dps_len h1, hlen ds h2]
  · obtain ⟨R, vs', ds, rfl, hR, h1, h2, q⟩ := hsp
    have hE : EnvM K H (L2.start N (.ref R :: vs')) [0] [R] (none :: (ds.map some ++ List.replicate (N.length - (ds.length + 1)) none)) [.row] := by
      have e0 : EnvD K (dels H [R]) (L2.start N (.ref R :: vs')) (none :: (ds.map some ++ List.replicate (N.length - (ds.length + 1)) none)) := by
        have hl := dps_len h1
        refine ⟨by unfold L2.start; simp [hl], fun i d q => ?_⟩
        cases i with
        | zero => cases q
        | succ i =>
          rw [List.getElem?_cons_succ] at q
          by_cases hi : i < ds.length
          · rw [List.getElem?_append_left (by simpa using hi), List.getElem?_map] at q
            have e : ds[i]? = some d := by
              cases z : ds[i]? with
              | none => rw [z] at q; simp at q
              | some y => rw [z] at q; simp at q; rw [q]
            obtain ⟨v, a, b⟩ := dps_get h1 e
            refine ⟨v, ?_, b⟩
            unfold L2.start
            rw [List.map_cons, List.cons_append, List.getElem?_cons_succ, List.getElem?_append_left (by simp; omega), List.getElem?_map, a]
            rfl
          · rw [List.getElem?_append_right (by simp; omega)] at q
            obtain ⟨h1, h2⟩ := List.getElem?_eq_some_iff.mp q
            rw [List.getElem_replicate] at h2
            cases h2
      exact ⟨e0, ⟨fun _ => rfl, trivial⟩, ⟨hR, trivial⟩, by simp⟩
    refine ⟨_, bat, (h cdv A outer s H E hr ds h2 (L2.start N (.ref R :: vs')) H [R] hE).imp (fun σ' H' z => ?_) (fun v H' z => ?_) (fun _ _ z => z.elim) fun _ _ z => z.elim⟩
    · obtain ⟨s1, ρ', cs', E', hc, hp⟩ := z
      exact q .non H' .none hp s1 (closes_row hc E'.own) .non
    · obtain ⟨s1, cs', d, o, q1, hc, hp⟩ := z
      exact q v H' d hp s1 (closes_row hc o) q1
end Q40
end

section
set_option maxRecDepth 100000
set_option maxHeartbeats 4000000
namespace Q40
open PySem PySem.Spec PyProof.Rows L2

def Pre_taken : List PyData → Prop := fun ds => ∃ m : Int, 0 < m ∧ m ≤ 1000 ∧ ds = [.int m]
def Post_taken : List PyData → PyData → Prop := fun ds d => ∃ m k : Int, ds = [.int m] ∧ 0 ≤ k ∧ k < m ∧ d = .int k
theorem ten18 : ((10 : Int) ^ (18 : Int).toNat) = 1000000000000000000 := by decide +kernel
section
variable {P : Program} {w : World} {K : PySem.W.Frag} {mg : Str → Option Value} {base : Heap} {f : Addr} {fd : FuncData}
theorem ok_law_taken (Fn : Fun K "_law_taken" "_law_taken" s_law_taken f fd) (B : NoB mg) : FnOk P w K mg base CX0 1 f fd ["_law_row", "_law_many"] (spR K Pre_taken Post_taken) := by
  refine row_ok Fn sc_law_taken (fun ds h => by obtain ⟨m, _, _, rfl⟩ := h; rfl) (by decide) fun cdv A outer s H E hr ds h => ?_
  obtain ⟨m, h0, h1, rfl⟩ := h
  refine bkM_open fun sv ns c s r hz hc hs hs2 hr0 => ?_
  have hd : CDiv r m := ⟨h0, by omega⟩
  refine bkM_cons (stM_if (et_gt (ev_ixL (ev_var 0) ev_int) ev_int) (fun hp => ?_) (fun hp => bkM_nil ?_))
  · refine bkM_cons (stM_set (i := 2) (em_pure (P := (· = .int (r % m))) (ev_mod (ev_toint B (ev_ixL (ev_var 0) ev_int)) (ev_var 1) h0) rfl rfl) (fun d e => ?_) sc_law_taken.nd)
    subst e
    refine bkM_cons (stM_row (k := 3) (.inr (.inr rfl)) (v := r / m) (ev_div (ev_ixL (ev_var 0) ev_int) (ev_var 1) hd) ?_ (by exact Nat.le_of_ble_eq_true rfl))
    refine bkM_cons (stM_ret (em_pure (P := (· = .int (r % m))) (ev_var 2) rfl rfl) (fun d e => ?_))
    subst e
    exact ⟨.inr ⟨_, _, _, _, _, rfl, hc, hs, hs2, Int.ediv_nonneg hr0 (by omega)⟩, m, _, rfl, Int.emod_nonneg _ (by omega), Int.emod_lt_of_pos _ h0, rfl⟩
  · refine bkM_cons (stM_row (k := 1) (.inl rfl) (v := c + 1) (ev_add (ev_ixL (ev_var 0) ev_int) ev_int) ?_ (by exact Nat.le_of_ble_eq_true rfl))
    refine bkM_cons (stM_if (et_gt (ev_ixL (ev_var 0) ev_int) (ev_lenL B (ev_ixL (ev_var 0) ev_int))) (fun hp => ?_) (fun hp => bkM_nil ?_))
    · refine bkM_cons (stM_row (k := 2) (.inr (.inl rfl)) (v := (s * 48271 + 11) % 2147483647) (ev_mod (ev_toint B (ev_add (ev_mul (ev_ixL (ev_var 0) ev_int) ev_int (.inl ⟨by omega, by omega⟩)) ev_int)) ev_int (by decide)) ?_ (by exact Nat.le_of_ble_eq_true rfl))
      refine bkM_cons (stM_ret (em_pure (P := (· = .int ((s * 48271 + 11) % 2147483647 / 7 % m))) (ev_mod (ev_toint B (ev_div (ev_ixL (ev_var 0) ev_int) ev_int ⟨by decide, by decide⟩)) (ev_var 1) h0) rfl rfl) (fun d e => ?_))
      subst e
      exact ⟨.inr ⟨_, _, _, _, _, rfl, by omega, Int.emod_nonneg _ (by decide), Int.emod_lt_of_pos _ (by decide), hr0⟩, m, _, rfl, Int.emod_nonneg _ (by omega), Int.emod_lt_of_pos _ h0, rfl⟩
    · have hlt : c.toNat < ns.length := by
        rw [List.length_map, decide_eq_false_iff_not] at hp
        omega
      obtain ⟨x, hx⟩ : ∃ x, ns[c.toNat]? = some x := ⟨_, List.getElem?_eq_getElem hlt⟩
      have hat : atI (ns.map PyData.int) (c + 1 - 1) = some (.int x) := by
        rw [show c + 1 - 1 = ((c.toNat : Nat) : Int) by omega]
        exact atI_map hx
      refine bkM_cons (stM_set (i := 3) (em_pure (P := (· = .int x)) (ev_ixL (ev_ixL (ev_var 0) ev_int) (ev_sub (ev_ixL (ev_var 0) ev_int) ev_int) hat) rfl rfl) (fun d e => ?_) sc_law_taken.nd)
      subst e
      refine bkM_cons (stM_row (k := 2) (.inr (.inl rfl)) (v := (s * 48271 + x + 11) % 2147483647) (ev_mod (ev_toint B (ev_add (ev_add (ev_mul (ev_ixL (ev_var 0) ev_int) ev_int (.inl ⟨by omega, by omega⟩)) (ev_var 3)) ev_int)) ev_int (by decide)) ?_ (by exact Nat.le_of_ble_eq_true rfl))
      have hs3 := Int.emod_nonneg (s * 48271 + x + 11) (b := 2147483647) (by decide)
      have hs4 := Int.emod_lt_of_pos (s * 48271 + x + 11) (b := 2147483647) (by decide)
      refine bkM_cons (stM_if (et_ge (ev_var 3) (ev_pow ev_int ev_int ⟨by decide, by decide, by decide⟩)) (fun hp => ?_) (fun hp => bkM_nil ?_))
      · rw [decide_eq_true_eq, ten18] at hp
        refine bkM_cons (stM_row (k := 3) (.inr (.inr rfl)) (v := x / m) (ev_div (ev_var 3) (ev_var 1) ⟨h0, by omega⟩) (bkM_nil ?_) (by exact Nat.le_of_ble_eq_true rfl))
        refine bkM_cons (stM_ret (em_pure (P := (· = .int (x % m))) (ev_mod (ev_toint B (ev_var 3)) (ev_var 1) h0) rfl rfl) (fun d e => ?_))
        subst e
        exact ⟨.inr ⟨_, _, _, _, _, rfl, by omega, hs3, hs4, Int.ediv_nonneg (by omega) (by omega)⟩, m, _, rfl, Int.emod_nonneg _ (by omega), Int.emod_lt_of_pos _ h0, rfl⟩
      · refine bkM_cons (stM_ret (em_pure (P := (· = .int (x % m))) (ev_mod (ev_toint B (ev_var 3)) (ev_var 1) h0) rfl rfl) (fun d e => ?_))
        subst e
        exact ⟨.inr ⟨_, _, _, _, _, rfl, by omega, hs3, hs4, hr0⟩, m, _, rfl, Int.emod_nonneg _ (by omega), Int.emod_lt_of_pos _ h0, rfl⟩
end
end Q40
end

section
set_option maxRecDepth 100000
set_option maxHeartbeats 4000000
namespace Q40
open PySem PySem.Spec PyProof.Rows L2

def Pre_pick : List PyData → Prop := fun ds => ∃ xs : List Int, 0 < xs.length ∧ xs.length ≤ 10 ∧ ds = [.list (xs.map .int)]
def Post_pick : List PyData → PyData → Prop := fun ds d => ∃ (xs : List Int) (x : Int), ds = [.list (xs.map .int)] ∧ x ∈ xs ∧ d = .int x
def Pre_signed : List PyData → Prop := fun ds => ∃ m : Int, 0 ≤ m ∧ m ≤ 100 ∧ ds = [.int m]
def Post_signed : List PyData → PyData → Prop := fun ds d => ∃ m k : Int, ds = [.int m] ∧ -m ≤ k ∧ k ≤ m ∧ d = .int k
def Post_grid : List PyData → PyData → Prop := fun ds d => ∃ m x y : Int, ds = [.int m] ∧ -m ≤ x ∧ x ≤ m ∧ -m ≤ y ∧ y ≤ m ∧ d = pD (x, y, 1)
def BaseP (p : Pt) : Prop := -2000 ≤ p.1 ∧ p.1 ≤ 2000 ∧ -2000 ≤ p.2.1 ∧ p.2.1 ≤ 2000 ∧ p.2.2 = 1
def mvp (f x y b : Int) (p : Pt) : Pt := low (p.1 * f + x * p.2.2) (p.2.1 * f + y * p.2.2) (p.2.2 * b)
def MvOk (f x y b : Int) : Prop := f ∈ [1, 2, 100003] ∧ x ∈ [0, -3, 1000000007] ∧ y ∈ [0, 1, -1000000009] ∧ b ∈ [1, 2, 3, 7]
def Moved (ps qs : List Pt) : Prop := qs = ps ∨ ∃ f x y b, MvOk f x y b ∧ qs = ps.map (mvp f x y b)
def Pre_moved : List PyData → Prop := fun ds => ∃ ps : List Pt, ps.length ≤ 12 ∧ (∀ p ∈ ps, BaseP p) ∧ ds = [ptsT ps]
def Post_moved : List PyData → PyData → Prop := fun ds d => ∃ ps qs : List Pt, ds = [ptsT ps] ∧ Moved ps qs ∧ d = ptsT qs
theorem lfree_pD (p : Pt) : lfree (pD p) = true := rfl
theorem lfree_ptsT (ps : List Pt) : lfree (ptsT ps) = true := by
  show lfreeAll (ps.map pD) = true
  exact lfree_of fun d hd => by obtain ⟨p, _, rfl⟩ := List.mem_map.mp hd; rfl
theorem ten9 : ((10 : Int) ^ (9 : Int).toNat) = 1000000000 := by decide +kernel
theorem ev_lstN {X : Cx} {es : List Expr} {ρ : DEnv} {ds : List PyData} {pos : Pos} (h : EvA X es ρ ds) (l : lfreeAll ds = true) (hz : ds.length ≤ 1000 := by exact Nat.le_of_ble_eq_true rfl) : EvN X (.List es pos) ρ ds := fun σ H E Q k =>
  EAt.of (pe_lst aat) (h σ H E _ fun vs H1 s1 q1 => ⟨by rw [dps_len q1]; exact Nat.le_trans hz (by decide), fun p hp => by
    refine k p vs _ ?_ (s1.trans (same_upd hp)) upd_same (dps_del (H := upd H1 p (.lst vs)) (by rw [upd_same]; exact noTup_lst) l (dps_same (same_upd hp) _ _ q1))
    cases q : H p with
    | none => rfl
    | some o => rw [s1 _ _ q] at hp; cases hp⟩)
theorem stM_tup2 {X : Cx} {is : List Nat} {ρ : DEnv} {cs : List Cont} {D : MEnds} {e : Expr} {P : PyData → Prop} {i j : Nat} {n m : Str} {kt : Nat} {pa pb pc pos : Pos} (h : EvM X is e ρ cs P) (k : ∀ d, P d → ∃ x y, d = .tuple [x, y] ∧ D.nx ((ρ.set i (some x)).set j (some y)) cs) (hN : X.N.Nodup) (hni : i ∉ is := by decide) (hnj : j ∉ is := by decide) (hc : X.calm = true := by rfl) (hi : X.N[i]? = some n := by rfl) (hj : X.N[j]? = some m := by rfl)
    (hx : Loc X.env.scope n := by first | exact .inl rfl | exact .inr rfl) (hy : Loc X.env.scope m := by first | exact .inl rfl | exact .inr rfl)
    (hfx : X.fn n = true ∨ X.env.scope.names.lookup n = some .local := by first | exact .inl rfl | exact .inr rfl) (hfy : X.fn m = true ∨ X.env.scope.names.lookup m = some .local := by first | exact .inl rfl | exact .inr rfl)
    (hs : swapsWithSole [.Tuple [.Name n pa, .Name m pb] kt pc] e pos.line X.env = pure false := by rfl) (hw : swappedStores [.Tuple [.Name n pa, .Name m pb] kt pc] e X.env = pure none := by rfl) : StM X is (.Assign [.Tuple [.Name n pa, .Name m pb] kt pc] e pos) ρ cs D := fun σ H as E =>
  SAt.of (ps_asg eat (pg_tup hc (pgs_cons (pg_name (i := i) hN hi hx hfx) (pgs_cons (pg_name (i := j) hN hj hy hfy) pgs_nil))) hs hw) (h σ H as E _ fun v H' d hd s E' q => by
    obtain ⟨x, y, rfl, hk⟩ := k d hd
    obtain ⟨a, xs, rfl, h1, h2⟩ := dp_tup q
    obtain ⟨u, w, rfl, d1, d2⟩ := dps2 h2
    exact ⟨a, [u, w], rfl, sqT_same same_dels h1, rfl, u, [w], rfl, w, [], rfl, rfl, s, _, cs, (E'.set hni d1).set hnj d2, hk⟩)
section
variable {P : Program} {w : World} {K : PySem.W.Frag} {mg : Str → Option Value} {base : Heap} {f : Addr} {fd : FuncData}
theorem ok_law_pick (Fn : Fun K "_law_pick" "_law_pick" s_law_pick f fd) (B : NoB mg) (G : CalleeR P w K mg base "_law_taken" 1 Pre_taken Post_taken) : FnOk P w K mg base CX0 2 f fd ["_law_row", "_law_things"] (spR K Pre_pick Post_pick) := by
  refine row_ok Fn sc_law_pick (fun ds h => by obtain ⟨m, _, _, rfl⟩ := h; rfl) (by decide) fun cdv A outer s H E hr ds h => ?_
  obtain ⟨xs, h0, h1, rfl⟩ := h
  have hlen : (xs.map PyData.int).length = xs.length := List.length_map _
  refine bkM_cons (stM_ret (P := fun d => ∃ x ∈ xs, d = .int x) (em_ixL (ds := xs.map .int) (P2 := fun k => 0 ≤ k ∧ k < (xs.length : Int)) (em_var 1 rfl rfl) (em_call (PA1 := fun ds => ds = [.int (xs.length : Int)]) G hr (by decide) (ema_cons (P1 := (· = .int (xs.length : Int))) (em_pure (ev_lenL B (ev_var 1)) rfl (by rw [hlen])) fun d hd => ema_nil (by rw [hd]))
    (fun ds e => ⟨_, by omega, by omega, e⟩) (fun ds d e q => by
      obtain ⟨m, k, e2, k0, k1, rfl⟩ := q
      rw [e] at e2
      cases e2
      exact ⟨⟨k, rfl, k0, k1⟩, rfl⟩) (idx := 0) (i := 0) rfl rfl (by exact Nat.le_of_ble_eq_true rfl)) (fun k hk => by
      have hlt : k.toNat < xs.length := by omega
      have e := atI_map (enc := PyData.int) (List.getElem?_eq_getElem hlt)
      rw [show ((k.toNat : Nat) : Int) = k by omega] at e
      exact ⟨.int xs[k.toNat], e, xs[k.toNat], List.getElem_mem _, rfl⟩)) (fun d hd => ?_))
  obtain ⟨x, hx, rfl⟩ := hd
  exact ⟨.inl rfl, xs, x, rfl, hx, rfl⟩
theorem ok_law_signed (Fn : Fun K "_law_signed" "_law_signed" s_law_signed f fd) (G : CalleeR P w K mg base "_law_taken" 1 Pre_taken Post_taken) : FnOk P w K mg base CX0 2 f fd ["_law_row", "_law_most"] (spR K Pre_signed Post_signed) := by
  refine row_ok Fn sc_law_signed (fun ds h => by obtain ⟨m, _, _, rfl⟩ := h; rfl) (by decide) fun cdv A outer s H E hr ds h => ?_
  obtain ⟨m, h0, h1, rfl⟩ := h
  refine bkM_cons (stM_ret (em_sub (p1 := fun k => 0 ≤ k ∧ k < 2 * m + 1) (p2 := (· = m)) (p3 := fun k => -m ≤ k ∧ k ≤ m) (em_call (PA1 := fun ds => ds = [.int (2 * m + 1)]) G hr (by decide) (ema_cons (P1 := (· = .int (2 * m + 1))) (em_pure (ev_add (ev_mul ev_int (ev_var 1) (.inl (by decide))) ev_int) rfl rfl) fun d hd => ema_nil (by rw [hd]))
    (fun ds e => ⟨_, by omega, by omega, e⟩) (fun ds d e q => by
      obtain ⟨m', k, e2, k0, k1, rfl⟩ := q
      rw [e] at e2
      cases e2
      exact ⟨⟨k, rfl, k0, k1⟩, rfl⟩) (idx := 0) (i := 0) rfl rfl (by exact Nat.le_of_ble_eq_true rfl)) (em_pure (ev_var 1) rfl ⟨m, rfl, rfl⟩) (fun i j h1 h2 => by omega)) (fun d hd => ?_))
  obtain ⟨k, rfl, k0, k1⟩ := hd
  exact ⟨.inl rfl, m, k, rfl, k0, k1, rfl⟩
theorem ok_law_grid (Fn : Fun K "_law_grid" "_law_grid" s_law_grid f fd) (G : CalleeR P w K mg base "_law_signed" 2 Pre_signed Post_signed) : FnOk P w K mg base CX0 3 f fd ["_law_row", "_law_size"] (spR K Pre_signed Post_grid) := by
  refine row_ok Fn sc_law_grid (fun ds h => by obtain ⟨m, _, _, rfl⟩ := h; rfl) (by decide) fun cdv A outer s H E hr ds h => ?_
  obtain ⟨m, h0, h1, rfl⟩ := h
  have hpost : ∀ ds d, ds = [PyData.int m] → Post_signed ds d → IsI (fun k => -m ≤ k ∧ k ≤ m) d ∧ lfree d = true := fun ds d e q => by
    obtain ⟨m', k, e2, k0, k1, rfl⟩ := q
    rw [e] at e2
    cases e2
    exact ⟨⟨k, rfl, k0, k1⟩, rfl⟩
  refine bkM_cons (stM_ret (P := fun d => ∃ x y : Int, -m ≤ x ∧ x ≤ m ∧ -m ≤ y ∧ y ≤ m ∧ d = pD (x, y, 1)) (em_tup (PA1 := fun ds => ∃ x y : Int, -m ≤ x ∧ x ≤ m ∧ -m ≤ y ∧ y ≤ m ∧ ds = [.int x, .int y, .int 1])
    (ema_cons (em_call (PA1 := fun ds => ds = [.int m]) G hr (by decide) (ema_cons (P1 := (· = .int m)) (em_pure (ev_var 1) rfl rfl) fun d hd => ema_nil (by rw [hd])) (fun ds e => ⟨_, h0, h1, e⟩) hpost (idx := 0) (i := 0) rfl rfl (by exact Nat.le_of_ble_eq_true rfl)) fun d1 hd1 =>
    ema_cons (em_call (PA1 := fun ds => ds = [.int m]) G hr (by decide) (ema_cons (P1 := (· = .int m)) (em_pure (ev_var 1) rfl rfl) fun d hd => ema_nil (by rw [hd])) (fun ds e => ⟨_, h0, h1, e⟩) hpost (idx := 0) (i := 0) rfl rfl (by exact Nat.le_of_ble_eq_true rfl)) fun d2 hd2 =>
    ema_cons (P1 := (· = .int 1)) (em_pure ev_int rfl rfl) fun d3 hd3 => ema_nil (by
      obtain ⟨x, rfl, x0, x1⟩ := hd1
      obtain ⟨y, rfl, y0, y1⟩ := hd2
      subst hd3
      exact ⟨x, y, x0, x1, y0, y1, rfl⟩)) (fun ds h => by
      obtain ⟨x, y, x0, x1, y0, y1, rfl⟩ := h
      exact ⟨⟨x, y, x0, x1, y0, y1, rfl⟩, by exact Nat.le_of_ble_eq_true rfl⟩)) (fun d hd => ?_))
  obtain ⟨x, y, x0, x1, y0, y1, rfl⟩ := hd
  exact ⟨.inl rfl, m, x, y, rfl, x0, x1, y0, y1, rfl⟩
theorem ok_law_moved (Fn : Fun K "_law_moved" "_law_moved" s_law_moved f fd) (B : NoB mg) (G1 : CalleeR P w K mg base "_law_taken" 1 Pre_taken Post_taken) (G2 : CalleeR P w K mg base "_law_pick" 2 Pre_pick Post_pick) (G3 : Callee P w K mg base "_law_lowest" 2 F_low) : FnOk P w K mg base CX0 3 f fd ["_law_row", "_law_points"] (spR K Pre_moved Post_moved) := by
  refine row_ok Fn sc_law_moved (fun ds h => by obtain ⟨m, _, _, rfl⟩ := h; rfl) (by decide) fun cdv A outer s H E hr ds h => ?_
  obtain ⟨ps, hl, hb, rfl⟩ := h
  refine bkM_cons (stM_set (i := 2) (P := IsI fun k => 0 ≤ k ∧ k < 6) (em_call (PA1 := fun ds => ds = [.int 6]) G1 hr (by decide) (ema_cons (P1 := (· = .int 6)) (em_pure ev_int rfl rfl) fun d hd => ema_nil (by rw [hd]))
    (fun ds e => ⟨_, by decide, by decide, e⟩) (fun ds d e q => by
      obtain ⟨m', k, e2, k0, k1, rfl⟩ := q
      rw [e] at e2
      cases e2
      exact ⟨⟨k, rfl, k0, k1⟩, rfl⟩) (idx := 0) (i := 0) rfl rfl (by exact Nat.le_of_ble_eq_true rfl)) (fun d hd => ?_) sc_law_moved.nd)
  obtain ⟨wy, rfl, w0, w1⟩ := hd
  refine bkM_cons (stM_if (et_gt (ev_var 2) ev_int) (fun hp => ?_) (fun hp => bkM_nil ?_))
  · refine bkM_cons (stM_ret (em_pure (P := (· = ptsT ps)) (ev_var 1) (lfree_ptsT ps) rfl) (fun d e => ?_))
    subst e
    exact ⟨.inl rfl, ps, ps, rfl, .inl rfl, rfl⟩
  have hpick : ∀ (xs : List Int) ds d, ds = [PyData.list (xs.map .int)] → Post_pick ds d → IsI (fun k => k ∈ xs) d ∧ lfree d = true := fun xs ds d e q => by
    obtain ⟨xs', k, e2, k0, rfl⟩ := q
    rw [e] at e2
    have e3 : xs.map PyData.int = xs'.map PyData.int := by injection e2 with e2; injection e2
    have e4 : xs = xs' := (List.map_inj_right (fun a b h => by injection h)).mp e3
    subst e4
    exact ⟨⟨k, rfl, k0⟩, rfl⟩
  refine bkM_cons (stM_tup2 (i := 3) (j := 4) (P := fun d => ∃ b f : Int, b ∈ [1, 2, 3, 7] ∧ f ∈ [1, 2, 100003] ∧ d = .tuple [.int b, .int f]) (em_tup (PA1 := fun ds => ∃ b f : Int, b ∈ [1, 2, 3, 7] ∧ f ∈ [1, 2, 100003] ∧ ds = [.int b, .int f]) (ema_cons (P1 := IsI fun b => b ∈ [1, 2, 3, 7]) (em_if (et_eq hr (ev_var 2) ev_int (shaped_int _) (shaped_int _)) (fun _ => em_imp (em_call (P := IsI fun b => b ∈ [2, 3, 7]) (PA1 := fun ds => ds = [.list ([2, 3, 7].map .int)]) G2 hr (by decide) (ema_cons (P1 := (· = .list ([2, 3, 7].map .int))) (em_new (ev_lstN (ea_cons ev_int (ea_cons ev_int (ea_cons ev_int ea_nil))) rfl) rfl rfl) fun d hd => ema_nil (by rw [hd]))
    (fun ds e => ⟨_, by decide, by decide, e⟩) (hpick _) (idx := 0) (i := 0) rfl rfl (by exact Nat.le_of_ble_eq_true rfl)) (fun d hd => by obtain ⟨k, rfl, hk⟩ := hd; exact ⟨k, rfl, List.mem_cons_of_mem _ hk⟩)) (fun _ => em_pure ev_int rfl ⟨1, rfl, by simp⟩)) fun d1 hd1 =>
    ema_cons (P1 := IsI fun b => b ∈ [1, 2, 100003]) (em_call (PA1 := fun ds => ds = [.list ([1, 2, 100003].map .int)]) G2 hr (by decide) (ema_cons (P1 := (· = .list ([1, 2, 100003].map .int))) (em_new (ev_lstN (ea_cons ev_int (ea_cons ev_int (ea_cons ev_int ea_nil))) rfl) rfl rfl) fun d hd => ema_nil (by rw [hd]))
    (fun ds e => ⟨_, by decide, by decide, e⟩) (hpick _) (idx := 0) (i := 0) rfl rfl (by exact Nat.le_of_ble_eq_true rfl)) fun d2 hd2 => ema_nil (by
      obtain ⟨b, rfl, hb⟩ := hd1
      obtain ⟨f, rfl, hf⟩ := hd2
      exact ⟨b, f, hb, hf, rfl⟩)) (fun ds hds => by
      obtain ⟨b, f, hb, hf, rfl⟩ := hds
      exact ⟨⟨b, f, hb, hf, rfl⟩, by exact Nat.le_of_ble_eq_true rfl⟩)) (fun ds hds => ?_) sc_law_moved.nd)
  obtain ⟨b, f, hb', hf, rfl⟩ := hds
  refine ⟨_, _, rfl, ?_⟩
  refine bkM_cons (stM_tup2 (i := 5) (j := 6) (P := fun d => ∃ x y : Int, x ∈ [0, -3, 1000000007] ∧ y ∈ [0, 1, -1000000009] ∧ d = .tuple [.int x, .int y]) (em_tup (PA1 := fun ds => ∃ x y : Int, x ∈ [0, -3, 1000000007] ∧ y ∈ [0, 1, -1000000009] ∧ ds = [.int x, .int y]) (ema_cons (P1 := IsI fun b => b ∈ [0, -3, 1000000007]) (em_call (PA1 := fun ds => ds = [.list ([0, -3, 1000000007].map .int)]) G2 hr (by decide) (ema_cons (P1 := (· = .list ([0, -3, 1000000007].map .int))) (em_new (ev_lstN (ea_cons ev_int (ea_cons (ev_neg ev_int) (ea_cons (ev_add (ev_pow ev_int ev_int ⟨by decide, by decide, by decide⟩) ev_int) ea_nil))) rfl) rfl (by rw [ten9]; rfl)) fun d hd => ema_nil (by rw [hd]))
    (fun ds e => ⟨_, by decide, by decide, e⟩) (hpick _) (idx := 0) (i := 0) rfl rfl (by exact Nat.le_of_ble_eq_true rfl)) fun d1 hd1 =>
    ema_cons (P1 := IsI fun b => b ∈ [0, 1, -1000000009]) (em_call (PA1 := fun ds => ds = [.list ([0, 1, -1000000009].map .int)]) G2 hr (by decide) (ema_cons (P1 := (· = .list ([0, 1, -1000000009].map .int))) (em_new (ev_lstN (ea_cons ev_int (ea_cons ev_int (ea_cons (ev_sub (ev_neg (ev_pow ev_int ev_int ⟨by decide, by decide, by decide⟩)) ev_int) ea_nil))) rfl) rfl (by rw [ten9]; rfl)) fun d hd => ema_nil (by rw [hd]))
    (fun ds e => ⟨_, by decide, by decide, e⟩) (hpick _) (idx := 0) (i := 0) rfl rfl (by exact Nat.le_of_ble_eq_true rfl)) fun d2 hd2 => ema_nil (by
      obtain ⟨b, rfl, hb⟩ := hd1
      obtain ⟨f, rfl, hf⟩ := hd2
      exact ⟨b, f, hb, hf, rfl⟩)) (fun ds hds => by
      obtain ⟨b, f, hb, hf, rfl⟩ := hds
      exact ⟨⟨b, f, hb, hf, rfl⟩, by exact Nat.le_of_ble_eq_true rfl⟩)) (fun ds hds => ?_) sc_law_moved.nd)
  obtain ⟨x, y, hx, hy, rfl⟩ := hds
  refine ⟨_, _, rfl, ?_⟩
  have fb : 1 ≤ f ∧ f ≤ 100003 := by simp at hf; omega
  have bb : 1 ≤ b ∧ b ≤ 7 := by simp at hb'; omega
  refine bkM_cons (stM_ret (em_pure (P := (· = ptsT (ps.map (mvp f x y b)))) (ev_tupleL B (EvN.ev (en_lcT (own := [("_law_p", 7)]) (xs := ps) (enc := pD) (fun _ => true) (fun p => pD (mvp f x y b p)) (fun p => [none, some (ptsT ps), some (.int wy), some (.int b), some (.int f), some (.int x), some (.int y), some (pD p)]) (ev_var 1)
      (fun p _ => tg_name (by decide)) (fun p _ _ _ _ _ _ => ets_nil) (fun p hp _ _ _ _ _ _ => Ev.evX (ev_call G3 hr (by decide) (ea_cons (ev_add (ev_mul (ev_ixT (ev_var 7) ev_int) (ev_var 4) ?_) (ev_mul (ev_var 5) (ev_ixT (ev_var 7) ev_int) ?_)) (ea_cons (ev_add (ev_mul (ev_ixT (ev_var 7) ev_int) (ev_var 4) ?_) (ev_mul (ev_var 6) (ev_ixT (ev_var 7) ev_int) ?_)) (ea_cons (ev_mul (ev_ixT (ev_var 7) ev_int) (ev_var 3) ?_) ea_nil)))
        ⟨_, _, _, ?_, ?_, rfl, rfl⟩) (lfree_pD _)) (by omega)
      (fun _ _ _ _ _ => pg_name (i := 7) sc_law_moved.nd rfl (.inl rfl)) (blkOk_by (N := n_law_moved) (sc := defScope s_law_moved) (by decide +kernel)) sc_law_moved.nd))) (by
        show lfreeAll _ = true
        exact lfree_of fun d hd => by obtain ⟨p, _, rfl⟩ := List.mem_map.mp hd; rfl) ?_) (fun d e => ?_))
  · exact mulR (by omega)
  · exact mulR (by have := (hb p hp).2.2.2.2; omega)
  · exact mulR (by omega)
  · exact mulR (by have := (hb p hp).2.2.2.2; omega)
  · exact mulR (by omega)
  · rw [(hb p hp).2.2.2.2]; omega
  · rw [(hb p hp).2.2.2.2]
    exact Bd.mono (i := 3) (show (1 * b).natAbs < 2 ^ 3 by omega) (by decide)
  · show PyData.tuple _ = PyData.tuple _
    rw [List.filter_eq_self.mpr fun _ _ => rfl, List.map_map]
    rfl
  · subst e
    exact ⟨.inl rfl, ps, _, rfl, .inr ⟨f, x, y, b, ⟨hf, hx, hy, hb'⟩, rfl⟩, rfl⟩
end
end Q40
end

section
set_option maxRecDepth 100000
set_option maxHeartbeats 4000000
namespace Q40
open PySem PySem.Spec PyProof.Rows L2

theorem Owns.mono {K : PySem.W.Frag} {H F F' : Hp} (f : Same F F') : ∀ {as : List Addr} {cs : List Cont}, Owns K H F as cs → Owns K H F' as cs := fun h => Owns.to (fun _ _ _ z => z) f h fun _ _ => rfl
section
variable {X : Cx} {is : List Nat} {sts : List Stmt} {ρ ρ' : DEnv} {cs : List Cont} {D : MEnds} {a b c : Expr} {pos : Pos} {PA1 : List PyData → Prop}
def tailM (D : MEnds) : MEnds := { nx := fun ρ' cs' => D.nx ρ' cs'.tail, rt := fun d cs' => D.rt d cs'.tail }
/-- one more owned list, new since H -/
theorem bkM_grow {i : Nat} {ct : Cont} (h : BkM X (i :: is) sts ρ (ct :: cs) (tailM D)) {σ : L2.St} {H H1 : Hp} {D0 : Addr} {as : List Addr} (E : EnvM X.K H1 σ (i :: is) (D0 :: as) ρ (ct :: cs)) (hn : dels H as D0 = none) (s : Same (dels H as) (dels H1 as)) : BAt X sts (endsM X.K is as H D) σ H1 := by
  have hD : D0 ∉ as := (List.nodup_cons.mp E.nd).1
  have sub : ∀ b ∈ as, b ∈ D0 :: as := fun b hb => List.mem_cons_of_mem _ hb
  have key : ∀ H', Same (dels H1 (D0 :: as)) (dels H' (D0 :: as)) → Same (dels H as) (dels H' as) := fun H' s2 b o e => by
    have hb : b ∉ D0 :: as := fun z => by
      rcases List.mem_cons.mp z with rfl | z
      · rw [hn] at e; cases e
      · rw [dels_in z] at e; cases e
    have hb2 : b ∉ as := fun z => hb (sub b z)
    have e1 := s b o e
    rw [dels_ne hb2] at e1
    have e2 := s2 b o (by rw [dels_ne hb]; exact e1)
    rw [dels_ne hb] at e2
    rw [dels_ne hb2]; exact e2
  refine (h σ H1 _ E).imp (fun σ' H' q => ?_) (fun v H' q => ?_) (fun _ _ q => q) fun _ _ q => q
  · obtain ⟨s2, ρ', cs', E', hk⟩ := q
    refine ⟨key H' s2, ρ', cs'.tail, ⟨E'.rest.same (dels_sub sub), E'.sl.2, ?_, (List.nodup_cons.mp E'.nd).2⟩, hk⟩
    cases cs' with
    | nil => exact E'.own.elim
    | cons c cs' => exact Owns.mono (dels_sub sub) E'.own.2
  · obtain ⟨s2, cs', d, o, q1, hk⟩ := q
    refine ⟨key H' s2, cs'.tail, d, ?_, dp_same (dels_sub sub) _ _ q1, hk⟩
    cases cs' with
    | nil => exact o.elim
    | cons c cs' => exact Owns.mono (dels_sub sub) o.2
/-- x, y, z = [], b, c with names that a block reads too -/
theorem bkM_new3 {i j l : Nat} {n m o : Str} {kt k2 : Nat} {pa pb pc pd pe pl : Pos} (h : EvMA X (99 :: is) [b, c] ρ (.lst [] :: cs) PA1)
    (k : ∀ ds, PA1 ds → ∃ x y, ds = [x, y] ∧ BkM X (i :: is) sts ((ρ.set j (some x)).set l (some y)) (.lst [] :: cs) (tailM D)) (hN : X.N.Nodup) (h0 : ρ[i]? = some none) (hni : i ∉ is := by decide) (hnj : j ∉ i :: is := by decide) (hnl : l ∉ i :: is := by decide) (hsz : ρ.length ≤ 99 := by exact Nat.le_of_ble_eq_true rfl) (hc : X.calm = true := by rfl)
    (hi : X.N[i]? = some n := by rfl) (hj : X.N[j]? = some m := by rfl) (hl : X.N[l]? = some o := by rfl)
    (hx : Loc X.env.scope n := by first | exact .inl rfl | exact .inr rfl) (hy : Loc X.env.scope m := by first | exact .inl rfl | exact .inr rfl) (hz : Loc X.env.scope o := by first | exact .inl rfl | exact .inr rfl)
    (hfx : X.fn n = true ∨ X.env.scope.names.lookup n = some .local := by first | exact .inl rfl | exact .inr rfl) (hfy : X.fn m = true ∨ X.env.scope.names.lookup m = some .local := by first | exact .inl rfl | exact .inr rfl) (hfz : X.fn o = true ∨ X.env.scope.names.lookup o = some .local := by first | exact .inl rfl | exact .inr rfl)
    (hsa : starEach [.List [] pl, b, c] X.env = (false, eval (.List [] pl) X.env) :: starEach [b, c] X.env := by rfl)
    (hs : swapsWithSole [.Tuple [.Name n pa, .Name m pb, .Name o pc] kt pd] (.Tuple [.List [] pl, b, c] k2 pe) pos.line X.env = pure false := by rfl) (hw : swappedStores [.Tuple [.Name n pa, .Name m pb, .Name o pc] kt pd] (.Tuple [.List [] pl, b, c] k2 pe) X.env = pure none := by rfl) :
    BkM X is (.Assign [.Tuple [.Name n pa, .Name m pb, .Name o pc] kt pd] (.Tuple [.List [] pl, b, c] k2 pe) pos :: sts) ρ cs D := fun σ H as E => by
  refine BAt.of (pss_cons (ps_asg (pe_tup (pa_cons (pe_lst aat) aat hsa)) (pg_tup hc (pgs_cons (pg_name (i := i) hN hi hx hfx) (pgs_cons (pg_name (i := j) hN hj hy hfy) (pgs_cons (pg_name (i := l) hN hl hz hfz) pgs_nil)))) hs hw) bat) ?_
  refine ea_nil (ρ := fullD ρ is cs) σ H E.full _ fun vs0 H0 s0 d0 => ⟨by rw [dps_len d0]; decide, fun D0 hD0 => ?_⟩
  have ev0 : vs0 = [] := by cases d0; rfl
  subst ev0
  have s1 := s0.trans (same_upd (o := .lst []) hD0)
  have E1 := E.same s1
  have hDn : D0 ∉ as := fun z => by
    obtain ⟨xs, q, q0⟩ := Owns.lst (E.same s0).own D0 z
    rw [hD0] at q; cases q
  have hHn : H D0 = none := by
    cases q : H D0 with
    | none => rfl
    | some o => rw [s0 _ _ q] at hD0; cases hD0
  have grow : ∀ F : Hp, Same (dels H0 as) F → F D0 = none → Same (dels H0 as) (dels F (D0 :: as)) := fun F s _ b o e => by
    have hb : b ∉ D0 :: as := fun z => by
      rcases List.mem_cons.mp z with rfl | z
      · rw [dels_ne hDn, hD0] at e; cases e
      · rw [dels_in z] at e; cases e
    rw [dels_ne hb]
    exact s b o e
  -- frozen facts do not know D0
  have fr : Same (dels H0 as) (dels (upd H0 D0 (.lst [])) (D0 :: as)) := fun b o e => by
    have hb : b ∉ D0 :: as := fun z => by
      rcases List.mem_cons.mp z with rfl | z
      · rw [dels_ne hDn, hD0] at e; cases e
      · rw [dels_in z] at e; cases e
    have hb2 : b ∉ as := fun z => hb (List.mem_cons_of_mem _ z)
    have hne : b ≠ D0 := fun z => hb (z ▸ List.mem_cons_self)
    rw [dels_ne hb, upd_ne hne]
    rw [dels_ne hb2] at e
    exact e
  have Em := E.same s0
  have E2 : EnvM X.K (upd H0 D0 (.lst [])) σ (99 :: is) (D0 :: as) ρ (.lst [] :: cs) :=
    ⟨Em.rest.same fr, ⟨fun z => absurd z (by rw [Em.rest.len]; omega), Em.sl⟩, ⟨⟨[], upd_same, .nil⟩, Owns.to (frz_same (same_upd hD0)) fr Em.own fun a ha => upd_ne (fun z => hDn (z ▸ ha))⟩, List.nodup_cons.mpr ⟨hDn, Em.nd⟩⟩
  refine h σ _ _ E2 _ fun vs H3 ds hds s3 E3 q3 => ⟨?_, fun t ht => ?_⟩
  · obtain ⟨x, y, rfl, _⟩ := k ds hds
    rw [List.length_cons, dps_len q3]; show 3 ≤ sizeLine; decide
  obtain ⟨x, y, rfl, hk⟩ := k ds hds
  obtain ⟨v, w, rfl, q1, q2⟩ := dps2 q3
  have s4 := same_upd (o := .tup [.ref D0, v, w]) ht
  have E4 := E3.same s4
  have q1' := dp_same (same_dels2 (as := D0 :: as) s4) _ _ q1
  have q2' := dp_same (same_dels2 (as := D0 :: as) s4) _ _ q2
  refine ⟨t, [.ref D0, v, w], rfl, SqT.of upd_same, rfl, .ref D0, [v, w], rfl, v, [w], rfl, w, [], rfl, rfl, ?_⟩
  have hil : i < ρ.length := (List.getElem?_eq_some_iff.mp h0).1
  have E5 : EnvM X.K (upd H3 t (.tup [.ref D0, v, w])) (σ.set i (some (.ref D0))) (i :: is) (D0 :: as) ρ (.lst [] :: cs) := by
    refine ⟨⟨by rw [List.length_set, E4.rest.len], fun n d q => ?_⟩, ⟨fun z => ?_, InSl.set E4.sl.2 hni⟩, E4.own, E4.nd⟩
    · by_cases hn : n = i
      · subst hn; rw [h0] at q; cases q
      · rw [List.getElem?_set_ne (Ne.symm hn)]
        exact E4.rest.at_ n d q
    · rw [List.length_set] at z
      exact List.getElem?_set_self z
  have E6 := (E5.set (j := j) hnj q1').set (j := l) hnl q2'
  refine bkM_grow hk E6 (by rw [dels_ne hDn]; exact hHn) ?_
  intro b o e
  have hb2 : b ∉ as := fun z => by rw [dels_in z] at e; cases e
  rw [dels_ne hb2] at e
  have hne : b ≠ D0 := fun z => by rw [z, hHn] at e; cases e
  have hb : b ∉ D0 :: as := fun z => by
    rcases List.mem_cons.mp z with z | z
    · exact hne z
    · exact hb2 z
  have e1 := s3 b o (by rw [dels_ne hb, upd_ne hne]; exact s0 _ _ e)
  rw [dels_ne hb] at e1
  rw [dels_ne hb2]
  exact s4 _ _ e1
end
end Q40
end

section
set_option maxRecDepth 100000
set_option maxHeartbeats 4000000
namespace Q40
open PySem PySem.Spec PyProof.Rows L2

def badTo (pts : List Pt) (p : Pt) (n : Nat) : Bool := decide (p ∈ pts) || (List.range n).any fun i => (pts.take i).any fun q => decide (trn q (pts.getD i (0, 0, 1)) p = 0)
theorem badTo_zero {pts : List Pt} {p : Pt} : badTo pts p 0 = decide (p ∈ pts) := by
  unfold badTo
  rw [List.range_zero, List.any_nil, Bool.or_false]
theorem badTo_succ {pts : List Pt} {p : Pt} {i : Nat} (hi : i < pts.length) : badTo pts p (i + 1) = (badTo pts p i || !((pts.take i).filter fun q => decide (trn q pts[i] p = 0)).isEmpty) := by
  unfold badTo
  rw [List.range_succ, List.any_append, List.any_cons, List.any_nil, Bool.or_false, ← Bool.or_assoc]
  congr 1
  rw [List.getD_eq_getElem?_getD, List.getElem?_eq_getElem hi, Option.getD_some, Bool.eq_iff_iff, List.any_eq_true, Bool.not_eq_true', ← Bool.not_eq_true, List.isEmpty_iff, List.filter_eq_nil_iff]
  constructor
  · rintro ⟨q, h1, h2⟩ z
    exact z q h1 h2
  · intro h
    refine Classical.byContradiction fun z => h fun q hq e => z ⟨q, hq, e⟩
theorem BaseP.sm {p : Pt} (h : BaseP p) : Sm p := by
  obtain ⟨h1, h2, h3, h4, h5⟩ := h
  exact ⟨by omega, by omega, by omega⟩
structure Gpts (pts : List Pt) : Prop where
  base : ∀ p ∈ pts, BaseP p
  nd : pts.Nodup
  gen : ∀ i j k : Nat, ∀ p q r, i < j → j < k → pts[i]? = some p → pts[j]? = some q → pts[k]? = some r → trn p q r ≠ 0
theorem Gpts.nil : Gpts [] := ⟨fun _ h => (by cases h), List.nodup_nil, fun i j k p q r _ _ h => (by simp at h)⟩
theorem Gpts.app {pts : List Pt} {p : Pt} (g : Gpts pts) (hp : BaseP p) (h : badTo pts p pts.length = false) : Gpts (pts ++ [p]) := by
  unfold badTo at h
  rw [Bool.or_eq_false_iff, decide_eq_false_iff_not, List.any_eq_false] at h
  obtain ⟨h1, h2⟩ := h
  refine ⟨fun q hq => ?_, ?_, fun i j k a b c hij hjk ha hb hc => ?_⟩
  · rcases List.mem_append.mp hq with z | z
    · exact g.base q z
    · rw [List.mem_singleton.mp z]; exact hp
  · rw [List.nodup_append]
    refine ⟨g.nd, by simp, fun x hx y hy => ?_⟩
    rw [List.mem_singleton.mp hy]
    exact fun z => h1 (z ▸ hx)
  · have hk := (List.getElem?_eq_some_iff.mp hc).1
    rw [List.length_append, List.length_singleton] at hk
    have hjl : j < pts.length := by omega
    have hil : i < pts.length := by omega
    rw [List.getElem?_append_left hjl] at hb
    rw [List.getElem?_append_left hil] at ha
    by_cases hkl : k < pts.length
    · rw [List.getElem?_append_left hkl] at hc
      exact g.gen i j k a b c hij hjk ha hb hc
    · have e : k = pts.length := by omega
      subst e
      rw [List.getElem?_append_right (Nat.le_refl _), Nat.sub_self] at hc
      have e2 : p = c := by simpa using hc
      subst e2
      have := h2 j (List.mem_range.mpr hjl)
      rw [Bool.not_eq_true, List.any_eq_false] at this
      have h3 := this a (List.mem_iff_getElem?.mpr ⟨i, by rw [List.getElem?_take, if_pos hij]; exact ha⟩)
      rw [decide_eq_true_eq, List.getD_eq_getElem?_getD, hb, Option.getD_some] at h3
      exact h3
theorem dec_toNat {n : Nat} {m : Int} (h : 0 ≤ m) : decide ((n : Int) < m) = decide (n < m.toNat) := by rw [decide_eq_decide]; omega
/-- what the parabola's k-th point did -/
def Done (pts : List Pt) (many : Int) (k : Nat) : Prop := pts.length = many.toNat ∨ ∃ ps' : List Pt, badTo ps' ((k : Int), (k : Int) * k + 11, 1) ps'.length = true ∧ (∃ t, pts = ps' ++ t) ∨ ((k : Int), (k : Int) * k + 11, 1) ∈ pts
theorem Done.app {pts : List Pt} {many : Int} {k : Nat} {p : Pt} (h : Done pts many k) (hl : pts.length < many.toNat) : Done (pts ++ [p]) many k := by
  rcases h with h | ⟨ps', ⟨h1, t, h2⟩ | h⟩
  · omega
  · exact .inr ⟨ps', .inl ⟨h1, t ++ [p], by rw [h2, List.append_assoc]⟩⟩
  · exact .inr ⟨[], .inr (List.mem_append_left _ h)⟩
def Pre_gen : List PyData → Prop := fun ds => ds = [.int 2, .int 5]
def Post_gen : List PyData → PyData → Prop := fun _ d => ∃ pts : List Pt, Gpts pts ∧ 2 ≤ pts.length ∧ pts.length ≤ 5 ∧ d = ptsT pts
def cnd (k : Nat) : Pt := ((k : Int), (k : Int) * k + 11, 1)
theorem trn_zero_iff {a b c : Pt} : trn a b c = 0 ↔ dbl a b c = 0 := by
  unfold trn
  rcases sgn_cases (dbl a b c) with ⟨h, e⟩ | ⟨h, e⟩ | ⟨h, e⟩ <;> rw [e] <;> omega
theorem dbl_cnd {a b : Pt} (ha : a.2.2 = 1) (hb : b.2.2 = 1) (k : Nat) : dbl a b (cnd k) = (b.1 - a.1) * ((k : Int) * k) + (a.2.1 - b.2.1) * k + (a.1 * b.2.1 - a.2.1 * b.1 + (b.1 - a.1) * 11) := by
  unfold dbl cnd
  rw [ha, hb]
  grind
theorem quad3 {A B C x y z : Int} (hx : A * (x * x) + B * x + C = 0) (hy : A * (y * y) + B * y + C = 0) (hz : A * (z * z) + B * z + C = 0) (xy : x ≠ y) (xz : x ≠ z) (yz : y ≠ z) : A = 0 ∧ B = 0 := by
  have e1 : (x - y) * (A * (x + y) + B) = 0 := by grind
  have e2 : (x - z) * (A * (x + z) + B) = 0 := by grind
  have f1 : A * (x + y) + B = 0 := by
    rcases Int.mul_eq_zero.mp e1 with h | h
    · omega
    · exact h
  have f2 : A * (x + z) + B = 0 := by
    rcases Int.mul_eq_zero.mp e2 with h | h
    · omega
    · exact h
  have e3 : A * (y - z) = 0 := by grind
  have hA : A = 0 := by
    rcases Int.mul_eq_zero.mp e3 with h | h
    · exact h
    · omega
  subst hA
  rw [Int.zero_mul, Int.zero_add] at f1
  exact ⟨rfl, f1⟩
def roots (a b : Pt) : List Nat := (List.range 40).filter fun k => decide (trn a b (cnd k) = 0)
theorem roots_le {a b : Pt} (ha : a.2.2 = 1) (hb : b.2.2 = 1) (hab : a ≠ b) : (roots a b).length ≤ 2 := by
  have hz : ∀ k ∈ roots a b, dbl a b (cnd k) = 0 := fun k hk => trn_zero_iff.mp (of_decide_eq_true (List.mem_filter.mp hk).2)
  have nd : (roots a b).Nodup := List.nodup_range.filter _
  match h : roots a b with
  | [] => simp
  | [_] => simp
  | [_, _] => simp
  | x :: y :: z :: r =>
    exfalso
    rw [h] at hz nd
    have h1 := hz x (by simp)
    have h2 := hz y (by simp)
    have h3 := hz z (by simp)
    rw [dbl_cnd ha hb] at h1 h2 h3
    simp only [List.nodup_cons, List.mem_cons, not_or] at nd
    obtain ⟨⟨n1, n2, _⟩, ⟨n3, _⟩, _⟩ := nd
    obtain ⟨hA, hB⟩ := quad3 h1 h2 h3 (by omega) (by omega) (by omega)
    refine hab ?_
    obtain ⟨a1, a2, a3⟩ := a
    obtain ⟨b1, b2, b3⟩ := b
    have hA' : b1 - a1 = 0 := hA
    have hB' : a2 - b2 = 0 := hB
    have ha' : a3 = 1 := ha
    have hb' : b3 = 1 := hb
    rw [Prod.mk.injEq, Prod.mk.injEq]
    omega
def rootsTo (pts : List Pt) : List Nat := (List.range pts.length).flatMap fun i => (List.range i).flatMap fun j => roots (pts.getD j (0, 0, 1)) (pts.getD i (0, 0, 1))
theorem flat_le {α β : Type} (l : List α) (f : α → List β) (c : Nat) (h : ∀ x ∈ l, (f x).length ≤ c) : (l.flatMap f).length ≤ l.length * c := by
  induction l with
  | nil => simp
  | cons x l ih =>
    rw [List.flatMap_cons, List.length_append, List.length_cons, Nat.succ_mul]
    have h1 := h x List.mem_cons_self
    have h2 := ih fun y hy => h y (List.mem_cons_of_mem _ hy)
    omega
theorem rootsTo_le {pts : List Pt} (g : Gpts pts) (h4 : pts.length ≤ 4) : (rootsTo pts).length ≤ 24 := by
  have key : ∀ i j, i < pts.length → j < i → (roots (pts.getD j (0, 0, 1)) (pts.getD i (0, 0, 1))).length ≤ 2 := fun i j hi hj => by
    have ej := List.getElem?_eq_getElem (l := pts) (i := j) (by omega)
    have ei := List.getElem?_eq_getElem hi
    rw [List.getD_eq_getElem?_getD, List.getD_eq_getElem?_getD, ej, ei]
    refine roots_le (g.base _ (List.getElem_mem _)).2.2.2.2 (g.base _ (List.getElem_mem _)).2.2.2.2 fun z => ?_
    have := (List.getElem_inj g.nd).mp z
    omega
  have k2 : ∀ i, i < pts.length → ((List.range i).flatMap fun j => roots (pts.getD j (0, 0, 1)) (pts.getD i (0, 0, 1))).length ≤ i * 2 := fun i hi => by
    have := flat_le (List.range i) (fun j => roots (pts.getD j (0, 0, 1)) (pts.getD i (0, 0, 1))) 2 fun j hj => key i j hi (List.mem_range.mp hj)
    rw [List.length_range] at this
    exact this
  have := flat_le (List.range pts.length) (fun i => (List.range i).flatMap fun j => roots (pts.getD j (0, 0, 1)) (pts.getD i (0, 0, 1))) 6 fun i hi => by
    have hi' := List.mem_range.mp hi
    have := k2 i hi'
    omega
  rw [List.length_range] at this
  unfold rootsTo
  omega
theorem done_all {pts : List Pt} {many : Int} (g : Gpts pts) (h2 : 2 ≤ many) (h5 : many ≤ 5) (hl : pts.length ≤ many.toNat) (h : ∀ k, k < 40 → Done pts many k) : pts.length = many.toNat := by
  refine Classical.byContradiction fun hne => ?_
  have h4 : pts.length ≤ 4 := by omega
  have hsub : ∀ k ∈ List.range 40, k ∈ pts.map (fun p => p.1.toNat) ++ rootsTo pts := fun k hk => by
    have hk' := List.mem_range.mp hk
    have inp : cnd k ∈ pts → k ∈ pts.map (fun p => p.1.toNat) ++ rootsTo pts := fun z => List.mem_append_left _ (List.mem_map.mpr ⟨cnd k, z, by show ((k : Int)).toNat = k; omega⟩)
    rcases h k hk' with z | ⟨ps', ⟨hb, t, ht⟩ | z⟩
    · exact absurd z hne
    · subst ht
      have hb' : badTo ps' (cnd k) ps'.length = true := hb
      unfold badTo at hb'
      rw [Bool.or_eq_true, decide_eq_true_eq, List.any_eq_true] at hb'
      rcases hb' with z | ⟨i, hi, z⟩
      · exact inp (List.mem_append_left _ z)
      · rw [List.any_eq_true] at z
        obtain ⟨q, hq, z⟩ := z
        rw [decide_eq_true_eq] at z
        have hi' := List.mem_range.mp hi
        obtain ⟨j, hj⟩ := List.mem_iff_getElem?.mp hq
        rw [List.getElem?_take] at hj
        have hji : j < i := by
          by_cases hji : j < i
          · exact hji
          · rw [if_neg hji] at hj; cases hj
        rw [if_pos hji] at hj
        refine List.mem_append_right _ (List.mem_flatMap.mpr ⟨i, List.mem_range.mpr (by rw [List.length_append]; omega), List.mem_flatMap.mpr ⟨j, List.mem_range.mpr hji, List.mem_filter.mpr ⟨hk, decide_eq_true ?_⟩⟩⟩)
        rw [List.getD_eq_getElem?_getD, List.getElem?_append_left (by omega), hj, Option.getD_some, List.getD_eq_getElem?_getD, List.getElem?_append_left hi', ← List.getD_eq_getElem?_getD]
        exact z
    · exact inp z
  have := nat_nodup_len (List.range 40) _ List.nodup_range hsub
  rw [List.length_range, List.length_append, List.length_map] at this
  have := rootsTo_le g h4
  omega
section
variable {P : Program} {w : World} {K : PySem.W.Frag} {mg : Str → Option Value} {base : Heap} {f : Addr} {fd : FuncData}
theorem ok_law_general (Fn : Fun K "_law_general" "_law_general" s_law_general f fd) (B : NoB mg) (G1 : CalleeR P w K mg base "_law_taken" 1 Pre_taken Post_taken) (G2 : CalleeR P w K mg base "_law_pick" 2 Pre_pick Post_pick) (G4 : CalleeR P w K mg base "_law_grid" 3 Pre_signed Post_grid) (G3 : Callee P w K mg base "_law_turn" 2 F_lturn) : FnOk P w K mg base CX0 4 f fd ["_law_row", "_law_least", "_law_most"] (spR K Pre_gen Post_gen) := by
  refine row_ok Fn sc_law_general (fun ds h => by rw [h]; rfl) (by decide) fun cdv A outer s H E hr ds h => ?_
  have hds : ds = [.int 2, .int 5] := h
  subst hds
  have hpick : ∀ (xs : List Int) ds d, ds = [PyData.list (xs.map .int)] → Post_pick ds d → IsI (fun k => k ∈ xs) d ∧ lfree d = true := fun xs ds d e q => by
    obtain ⟨xs', k, e2, k0, rfl⟩ := q
    rw [e] at e2
    have e3 : xs.map PyData.int = xs'.map PyData.int := by injection e2 with e2; injection e2
    have e4 : xs = xs' := (List.map_inj_right (fun a b h => by injection h)).mp e3
    subst e4
    exact ⟨⟨k, rfl, k0⟩, rfl⟩
  refine bkM_new3 (i := 3) (j := 4) (l := 5) (PA1 := fun ds => ∃ m z : Int, 2 ≤ m ∧ m ≤ 5 ∧ z ∈ [4, 6, 9] ∧ ds = [.int m, .int z])
    (ema_cons (P1 := IsI fun m => 2 ≤ m ∧ m ≤ 5) (em_add (p1 := (· = 2)) (p2 := fun k => 0 ≤ k ∧ k < 4) (em_pure (ev_var 1) rfl ⟨2, rfl, rfl⟩) (em_call (PA1 := fun ds => ds = [.int 4]) G1 hr (by decide) (ema_cons (P1 := (· = .int 4)) (em_pure (ev_add (ev_sub (ev_var 2) (ev_var 1)) ev_int) rfl rfl) fun d hd => ema_nil (by rw [hd]))
      (fun ds e => ⟨_, by decide, by decide, e⟩) (fun ds d e q => by
        obtain ⟨m', k, e2, k0, k1, rfl⟩ := q
        rw [e] at e2
        cases e2
        exact ⟨⟨k, rfl, k0, k1⟩, rfl⟩) (idx := 1) (i := 0) rfl rfl (by exact Nat.le_of_ble_eq_true rfl)) (fun i j h1 h2 => by omega)) fun d1 hd1 =>
    ema_cons (P1 := IsI fun b => b ∈ [4, 6, 9]) (em_call (PA1 := fun ds => ds = [.list ([4, 6, 9].map .int)]) G2 hr (by decide) (ema_cons (P1 := (· = .list ([4, 6, 9].map .int))) (em_new (ev_lstN (ea_cons ev_int (ea_cons ev_int (ea_cons ev_int ea_nil))) rfl) rfl rfl) fun d hd => ema_nil (by rw [hd]))
      (fun ds e => ⟨_, by decide, by decide, e⟩) (hpick _) (idx := 1) (i := 0) rfl rfl (by exact Nat.le_of_ble_eq_true rfl)) fun d2 hd2 => ema_nil (by
      obtain ⟨m, rfl, m0, m1⟩ := hd1
      obtain ⟨z, rfl, hz⟩ := hd2
      exact ⟨m, z, m0, m1, hz, rfl⟩)) (fun ds hds => ?_) sc_law_general.nd rfl
  obtain ⟨many, size, m0, m1, hsz, rfl⟩ := hds
  refine ⟨_, _, rfl, ?_⟩
  have hm0 : 0 ≤ many := by omega
  have hs0 : 4 ≤ size ∧ size ≤ 9 := by simp at hsz; omega
  -- the grid
  refine bkM_cons (stM_forR B (j := 6) (m := (3 * many).toNat) ((ev_mul ev_int (ev_var 4) (.inl (by decide))).is (by rw [Int.toNat_of_nonneg (by omega)])) (by omega) (fun _ ρ cs => ∃ (pts : List Pt) (u1 u2 u3 u4 : Option PyData), Gpts pts ∧ pts.length ≤ many.toNat ∧ ρ = [none, some (.int 2), some (.int 5), none, some (.int many), some (.int size), u1, u2, u3, u4, none] ∧ cs = [.lst (pts.map pD), .row]) ⟨[], _, _, _, _, .nil, by simp, rfl, rfl⟩ (fun t ρ' cs' ht hI => ?_) (fun ρ' cs' hI => ?_) PassesOwn.never sc_law_general.nd)
  · obtain ⟨pts, u1, u2, u3, u4, hg, hl, rfl, rfl⟩ := hI
    generalize hth : ((t : Nat) : Int) = th
    refine bkM_cons (stM_set (i := 7) (P := fun d => ∃ x y : Int, -size ≤ x ∧ x ≤ size ∧ -size ≤ y ∧ y ≤ size ∧ d = pD (x, y, 1)) (em_call (PA1 := fun ds => ds = [.int size]) G4 hr (by decide) (ema_cons (P1 := (· = .int size)) (em_pure (ev_var 5) rfl rfl) fun d hd => ema_nil (by rw [hd])) (fun ds e => ⟨_, by omega, by omega, e⟩) (fun ds d e q => by
      obtain ⟨m, x, y, e2, h1, h2, h3, h4, rfl⟩ := q
      rw [e] at e2
      cases e2
      exact ⟨⟨x, y, h1, h2, h3, h4, rfl⟩, rfl⟩) (idx := 1) (i := 0) rfl rfl (by exact Nat.le_of_ble_eq_true rfl)) (fun d hd => ?_) sc_law_general.nd)
    obtain ⟨x, y, hx0, hx1, hy0, hy1, rfl⟩ := hd
    generalize hpp : ((x, y, 1) : Pt) = p
    have hbp : BaseP p := by subst hpp; exact ⟨by show -2000 ≤ x; omega, by show x ≤ 2000; omega, by show -2000 ≤ y; omega, by show y ≤ 2000; omega, rfl⟩
    have hlp : (pts.map pD).length = pts.length := List.length_map _
    refine bkM_cons (stM_set (i := 8) (em_pure (P := (· = .bool (badTo pts p 0))) ((ev_inL hr (ev_var 7) (ev_var 3) (shaped_pD p) (shapedL_pD pts)).is (by rw [any_pD, badTo_zero])) rfl rfl) (fun d e => ?_) sc_law_general.nd)
    subst e
    refine bkM_cons (stM_forR B (j := 9) (m := pts.length) ((ev_lenL B (ev_var 3)).is (by rw [hlp])) (by omega) (fun i ρ cs => ∃ u, ρ = [none, some (.int 2), some (.int 5), none, some (.int many), some (.int size), some (.int th), some (pD p), some (.bool (badTo pts p i)), u, none] ∧ cs = [.lst (pts.map pD), .row]) ⟨_, rfl, rfl⟩ (fun i ρ' cs' hi hI => ?_) (fun ρ' cs' hI => ?_) PassesOwn.never sc_law_general.nd)
    · obtain ⟨u, rfl, rfl⟩ := hI
      have ei := List.getElem?_eq_getElem hi
      have hbi := hg.base pts[i] (List.getElem_mem _)
      refine bkM_cons (stM_set (i := 8) (em_pure (P := (· = .bool (badTo pts p (i + 1)))) (Ev.is (d := .bool (badTo pts p i || !((pts.take i).filter fun q => decide (trn q pts[i] p = 0)).isEmpty)) (ev_or (ev_var 8) fun _ => ev_one ((ev_ne hr (EvN.ev (en_lcL (own := [("_law_q", 10)]) (xs := pts.take i) (enc := pD) (fun q => decide (trn q pts[i] p = 0)) pD (fun q => [none, some (.int 2), some (.int 5), some (.list (pts.map pD)), some (.int many), some (.int size), some (.int th), some (pD p), some (.bool (badTo pts p i)), some (.int (i : Int)), some (pD q)]) ((ev_toL (ev_var 3) (ev_var 9)).is (by rw [List.map_take]))
        (fun q _ => tg_name (by decide)) (fun q hq _ _ _ _ _ => ets_one ((et_eq hr (ev_call G3 hr (by decide) (ea_cons (ev_var 10) (ea_cons (ev_ixL (ev_var 3) (ev_var 9) (atI_map ei)) (ea_cons (ev_var 7) ea_nil))) ⟨_, _, _, (hg.base q (List.mem_of_mem_take hq)).sm, hbi.sm, rfl, rfl⟩) ev_int (shaped_int _) (shaped_int _)).is (by rw [eqv_int]))) (fun q _ _ _ _ _ _ _ => Ev.evX (ev_var 10) (lfree_pD _)) (by rw [List.length_take]; omega)
        (fun _ _ _ _ _ => pg_name (i := 10) sc_law_general.nd rfl (.inl rfl)) (blkOk_by (N := n_law_general) (sc := defScope s_law_general) (by decide +kernel)) sc_law_general.nd)) (ev_lst ea_nil) (shapedL_pD _) (shapedL_pD [])).is (by rw [eqv_nil])))
        (by rw [badTo_succ hi])) rfl rfl) (fun d e => ?_) sc_law_general.nd)
      subst e
      exact bkM_nil ⟨_, rfl, rfl⟩
    obtain ⟨u, rfl, rfl⟩ := hI
    refine bkM_cons (stM_if (p := !badTo pts p pts.length && decide (pts.length < many.toNat)) (et_w (ew_and (et_not (et_val (ev_var 8))) fun _ => ew_and1 ((et_lt (ev_lenL B (ev_var 3)) (ev_var 4)).is (by rw [hlp]; exact dec_toNat hm0)))) (fun h => ?_) (fun h => bkM_nil (bkM_nil ?_)))
    · rw [Bool.and_eq_true, Bool.not_eq_true', decide_eq_true_eq] at h
      refine bkM_cons (stM_app (k := 0) (i := 3) (em_pure (P := (· = pD p)) (ev_var 7) rfl rfl) rfl rfl (by rw [hlp]; omega) (by exact Nat.le_of_ble_eq_true rfl) (fun d e => bkM_nil (bkM_nil ?_)))
      subst e
      exact ⟨pts ++ [p], _, _, _, _, hg.app hbp h.1, by rw [List.length_append, List.length_singleton]; omega, rfl, by rw [List.map_append]; rfl⟩
    · rw [Bool.and_eq_false_iff, Bool.not_eq_false', decide_eq_false_iff_not] at h
      exact ⟨pts, _, _, _, _, hg, hl, rfl, rfl⟩
  obtain ⟨pts, u1, u2, u3, u4, hg, hl, rfl, rfl⟩ := hI
  -- the parabola
  refine bkM_cons (stM_forR B (j := 6) (m := 40) ev_int (by decide) (fun t ρ cs => ∃ (pts : List Pt) (u1 u2 u3 u4 : Option PyData), Gpts pts ∧ pts.length ≤ many.toNat ∧ (∀ k, k < t → Done pts many k) ∧ ρ = [none, some (.int 2), some (.int 5), none, some (.int many), some (.int size), u1, u2, u3, u4, none] ∧ cs = [.lst (pts.map pD), .row]) ⟨pts, _, _, _, _, hg, hl, fun k hk => absurd hk (Nat.not_lt_zero _), rfl, rfl⟩ (fun t ρ' cs' ht hI => ?_) (fun ρ' cs' hI => ?_) PassesOwn.never sc_law_general.nd)
  · obtain ⟨pts, u1, u2, u3, u4, hg, hl, hd, rfl, rfl⟩ := hI
    generalize hth : ((t : Nat) : Int) = th
    refine bkM_cons (stM_set (i := 7) (em_pure (P := (· = pD (th, th * th + 11, 1))) (ev_tup (ea_cons (ev_var 6) (ea_cons (ev_add (ev_mul (ev_var 6) (ev_var 6) (mulL (by omega))) ev_int) (ea_cons ev_int ea_nil)))) rfl rfl) (fun d e => ?_) sc_law_general.nd)
    subst e
    generalize hpp : ((th, th * th + 11, 1) : Pt) = p
    have hsq : 0 ≤ th * th ∧ th * th ≤ 1521 := by
      have h39 : 0 ≤ th ∧ th ≤ 39 := by omega
      exact ⟨Int.mul_nonneg h39.1 h39.1, Int.le_trans (Int.mul_le_mul h39.2 h39.2 h39.1 (by decide)) (by decide)⟩
    have hbp : BaseP p := by subst hpp; exact ⟨by show -2000 ≤ th; omega, by show th ≤ 2000; omega, by show -2000 ≤ th * th + 11; omega, by show th * th + 11 ≤ 2000; omega, rfl⟩
    have hlp : (pts.map pD).length = pts.length := List.length_map _
    refine bkM_cons (stM_set (i := 8) (em_pure (P := (· = .bool (badTo pts p 0))) ((ev_inL hr (ev_var 7) (ev_var 3) (shaped_pD p) (shapedL_pD pts)).is (by rw [any_pD, badTo_zero])) rfl rfl) (fun d e => ?_) sc_law_general.nd)
    subst e
    refine bkM_cons (stM_forR B (j := 9) (m := pts.length) ((ev_lenL B (ev_var 3)).is (by rw [hlp])) (by omega) (fun i ρ cs => ∃ u, ρ = [none, some (.int 2), some (.int 5), none, some (.int many), some (.int size), some (.int th), some (pD p), some (.bool (badTo pts p i)), u, none] ∧ cs = [.lst (pts.map pD), .row]) ⟨_, rfl, rfl⟩ (fun i ρ' cs' hi hI => ?_) (fun ρ' cs' hI => ?_) PassesOwn.never sc_law_general.nd)
    · obtain ⟨u, rfl, rfl⟩ := hI
      have ei := List.getElem?_eq_getElem hi
      have hbi := hg.base pts[i] (List.getElem_mem _)
      refine bkM_cons (stM_set (i := 8) (em_pure (P := (· = .bool (badTo pts p (i + 1)))) (Ev.is (d := .bool (badTo pts p i || !((pts.take i).filter fun q => decide (trn q pts[i] p = 0)).isEmpty)) (ev_or (ev_var 8) fun _ => ev_one ((ev_ne hr (EvN.ev (en_lcL (own := [("_law_q", 10)]) (xs := pts.take i) (enc := pD) (fun q => decide (trn q pts[i] p = 0)) pD (fun q => [none, some (.int 2), some (.int 5), some (.list (pts.map pD)), some (.int many), some (.int size), some (.int th), some (pD p), some (.bool (badTo pts p i)), some (.int (i : Int)), some (pD q)]) ((ev_toL (ev_var 3) (ev_var 9)).is (by rw [List.map_take]))
        (fun q _ => tg_name (by decide)) (fun q hq _ _ _ _ _ => ets_one ((et_eq hr (ev_call G3 hr (by decide) (ea_cons (ev_var 10) (ea_cons (ev_ixL (ev_var 3) (ev_var 9) (atI_map ei)) (ea_cons (ev_var 7) ea_nil))) ⟨_, _, _, (hg.base q (List.mem_of_mem_take hq)).sm, hbi.sm, rfl, rfl⟩) ev_int (shaped_int _) (shaped_int _)).is (by rw [eqv_int]))) (fun q _ _ _ _ _ _ _ => Ev.evX (ev_var 10) (lfree_pD _)) (by rw [List.length_take]; omega)
        (fun _ _ _ _ _ => pg_name (i := 10) sc_law_general.nd rfl (.inl rfl)) (blkOk_by (N := n_law_general) (sc := defScope s_law_general) (by decide +kernel)) sc_law_general.nd)) (ev_lst ea_nil) (shapedL_pD _) (shapedL_pD [])).is (by rw [eqv_nil])))
        (by rw [badTo_succ hi])) rfl rfl) (fun d e => ?_) sc_law_general.nd)
      subst e
      exact bkM_nil ⟨_, rfl, rfl⟩
    obtain ⟨u, rfl, rfl⟩ := hI
    refine bkM_cons (stM_if (p := !badTo pts p pts.length && decide (pts.length < many.toNat)) (et_w (ew_and (et_not (et_val (ev_var 8))) fun _ => ew_and1 ((et_lt (ev_lenL B (ev_var 3)) (ev_var 4)).is (by rw [hlp]; exact dec_toNat hm0)))) (fun h => ?_) (fun h => bkM_nil (bkM_nil ?_)))
    · rw [Bool.and_eq_true, Bool.not_eq_true', decide_eq_true_eq] at h
      refine bkM_cons (stM_app (k := 0) (i := 3) (em_pure (P := (· = pD p)) (ev_var 7) rfl rfl) rfl rfl (by rw [hlp]; omega) (by exact Nat.le_of_ble_eq_true rfl) (fun d e => bkM_nil (bkM_nil ?_)))
      subst e
      refine ⟨pts ++ [p], _, _, _, _, hg.app hbp h.1, by rw [List.length_append, List.length_singleton]; omega, fun k hk => ?_, rfl, by rw [List.map_append]; rfl⟩
      by_cases hkt : k < t
      · exact (hd k hkt).app h.2
      · have ekt : k = t := by omega
        subst ekt
        refine .inr ⟨[], .inr (List.mem_append_right _ ?_)⟩
        rw [hth, hpp]
        exact List.mem_singleton.mpr rfl
    · rw [Bool.and_eq_false_iff, Bool.not_eq_false', decide_eq_false_iff_not] at h
      refine ⟨pts, _, _, _, _, hg, hl, fun k hk => ?_, rfl, rfl⟩
      by_cases hkt : k < t
      · exact hd k hkt
      · have ekt : k = t := by omega
        subst ekt
        rcases h with h | h
        · exact .inr ⟨pts, .inl ⟨by rw [hth, hpp]; exact h, [], by rw [List.append_nil]⟩⟩
        · exact .inl (by omega)
  obtain ⟨pts, u1, u2, u3, u4, hg, hl, hd, rfl, rfl⟩ := hI
  refine bkM_cons (stM_ret (em_pure (P := (· = ptsT pts)) (ev_tupleL B (ev_var 3)) (lfree_ptsT pts) rfl) (fun d e => ?_))
  subst e
  have hall := done_all hg m0 m1 hl hd
  exact ⟨.inl rfl, pts, hg, by omega, by omega, rfl⟩
end
end Q40
end

section
set_option maxRecDepth 100000
set_option maxHeartbeats 4000000
namespace Q40
open PySem PySem.Spec PyProof.Rows L2

/-! ### sets of edges as masks -/
def mk (n : Nat) (f : Nat → Bool) : Nat → Nat
  | 0 => 0
  | k + 1 => bif f k then mk n f k ||| (1 <<< k) else mk n f k
theorem tb_one (k q : Nat) : Nat.testBit (1 <<< k) q = decide (k = q) := by
  rw [Nat.one_shiftLeft, Nat.testBit_two_pow]
theorem tb_mk {n : Nat} {f : Nat → Bool} : ∀ k q, Nat.testBit (mk n f k) q = (decide (q < k) && f q)
  | 0, q => by simp [mk]
  | k + 1, q => by
    unfold mk
    have ih := tb_mk (n := n) (f := f) k q
    cases h : f k with
    | true =>
      rw [cond_true, Nat.testBit_or, tb_one, ih, Bool.eq_iff_iff]
      simp only [Bool.or_eq_true, Bool.and_eq_true, decide_eq_true_eq]
      constructor
      · rintro (⟨a, b⟩ | rfl)
        · exact ⟨by omega, b⟩
        · exact ⟨by omega, h⟩
      · rintro ⟨a, b⟩
        by_cases e : k = q
        · exact .inr e
        · exact .inl ⟨by omega, b⟩
    | false =>
      rw [cond_false, ih, Bool.eq_iff_iff]
      simp only [Bool.and_eq_true, decide_eq_true_eq]
      constructor
      · rintro ⟨a, b⟩
        exact ⟨by omega, b⟩
      · rintro ⟨a, b⟩
        refine ⟨?_, b⟩
        by_cases e : k = q
        · subst e; rw [h] at b; cases b
        · omega
theorem and_zero {m x : Nat} : (m &&& x) = 0 ↔ ∀ q, Nat.testBit m q = true → Nat.testBit x q = false := by
  constructor
  · intro h q hm
    have := congrArg (fun z => Nat.testBit z q) h
    simp only [Nat.testBit_and, Nat.zero_testBit, hm, Bool.true_and] at this
    exact this
  · intro h
    apply Nat.eq_of_testBit_eq
    intro q
    rw [Nat.testBit_and, Nat.zero_testBit]
    cases hm : Nat.testBit m q with
    | false => rfl
    | true => rw [h q hm]; rfl
structure Row where
  i : Nat
  a : Nat
  b : Nat
  X : Nat
  Ra : Nat
  Rb : Nat
  La : Nat
  Lb : Nat
  out : Bool
def Row.e (r : Row) : Ed := (r.a, r.b)
def has (m : Nat) (r : Row) : Bool := Nat.testBit m r.i
def edgesR (rows : List Row) (m : Nat) : List Ed := (rows.filter (has m)).map Row.e
/-- the other end of an edge at v -/
def oth (e : Ed) (v : Nat) : Nat := if e.1 = v then e.2 else e.1
def atE (e : Ed) (v : Nat) : Bool := decide (e.1 = v) || decide (e.2 = v)
structure RowsOk (n : Nat) (t : Tau) (rows : List Row) : Prop where
  prs : rows.map Row.e = pairsN n
  ix : ∀ (k : Nat) (r : Row), rows[k]? = some r → r.i = k
  X : ∀ r ∈ rows, ∀ o ∈ rows, Nat.testBit r.X o.i = crsT t o.e r.e
  Ra : ∀ r ∈ rows, ∀ o ∈ rows, Nat.testBit r.Ra o.i = (atE o.e r.a && (!decide (oth o.e r.a = r.b) && decide (t r.a r.b (oth o.e r.a) < 0)))
  Rb : ∀ r ∈ rows, ∀ o ∈ rows, Nat.testBit r.Rb o.i = (atE o.e r.b && (!decide (oth o.e r.b = r.a) && decide (t r.b r.a (oth o.e r.b) < 0)))
  La : ∀ r ∈ rows, ∀ o ∈ rows, Nat.testBit r.La o.i = (atE o.e r.a && decide (0 < t r.a r.b (oth o.e r.a)))
  Lb : ∀ r ∈ rows, ∀ o ∈ rows, Nat.testBit r.Lb o.i = (atE o.e r.b && decide (0 < t r.b r.a (oth o.e r.b)))
  out : ∀ r ∈ rows, r.out = outT t n r.e
  ne : ∀ r ∈ rows, r.a ≠ r.b
  bd : ∀ k, ∀ r ∈ rows, (rows.length ≤ k → Nat.testBit r.X k = false ∧ Nat.testBit r.Ra k = false ∧ Nat.testBit r.Rb k = false ∧ Nat.testBit r.La k = false ∧ Nat.testBit r.Lb k = false)
/-- the program's pointed test at v, some edge there -/
def pntM (rows : List Row) (m v : Nat) : Bool := rows.any fun r => has m r && ((r.a == v && (m &&& r.Ra) == 0) || (r.b == v && (m &&& r.Rb) == 0))
def lpntM (rows : List Row) (m v : Nat) : Bool := rows.any fun r => has m r && ((r.a == v && (m &&& r.La) == 0) || (r.b == v && (m &&& r.Lb) == 0))
def plus (m : Nat) (r : Row) : Nat := m ||| (1 <<< r.i)
def canM (rows : List Row) (m : Nat) (r : Row) : Bool := !has m r && ((m &&& r.X) == 0 && (pntM rows (plus m r) r.a && pntM rows (plus m r) r.b))
def lcanM (rows : List Row) (m : Nat) (r : Row) : Bool := !has m r && ((m &&& r.X) == 0 && (lpntM rows (plus m r) r.a && lpntM rows (plus m r) r.b))
/-- the list's edges are the mask's -/
def Mrep (rows : List Row) (m : Nat) (es : List Ed) : Prop := ∀ e, e ∈ es ↔ ∃ r ∈ rows, has m r = true ∧ r.e = e
theorem rep_edges (rows : List Row) (m : Nat) : Mrep rows m (edgesR rows m) := fun e => by
  unfold edgesR
  rw [List.mem_map]
  constructor
  · rintro ⟨r, h, rfl⟩
    rw [List.mem_filter] at h
    exact ⟨r, h.1, h.2, rfl⟩
  · rintro ⟨r, h1, h2, rfl⟩
    exact ⟨r, List.mem_filter.mpr ⟨h1, h2⟩, rfl⟩
section
variable {n : Nat} {t : Tau} {rows : List Row}
theorem RowsOk.inj (R : RowsOk n t rows) (nd : (pairsN n).Nodup) {r o : Row} (hr : r ∈ rows) (ho : o ∈ rows) (e : r.e = o.e) : r = o := by
  obtain ⟨k, hk⟩ := List.mem_iff_getElem?.mp hr
  obtain ⟨l, hl⟩ := List.mem_iff_getElem?.mp ho
  have h1 : (pairsN n)[k]? = some r.e := by rw [← R.prs, List.getElem?_map, hk]; rfl
  have h2 : (pairsN n)[l]? = some o.e := by rw [← R.prs, List.getElem?_map, hl]; rfl
  rw [← e] at h2
  have := nodup_idx nd h1 h2
  subst this
  exact Option.some.inj (hk.symm.trans hl)
theorem RowsOk.ixInj (R : RowsOk n t rows) {r o : Row} (hr : r ∈ rows) (ho : o ∈ rows) (e : r.i = o.i) : r = o := by
  obtain ⟨k, hk⟩ := List.mem_iff_getElem?.mp hr
  obtain ⟨l, hl⟩ := List.mem_iff_getElem?.mp ho
  have h1 := R.ix k r hk
  have h2 := R.ix l o hl
  have : k = l := by omega
  subst this
  exact Option.some.inj (hk.symm.trans hl)
theorem RowsOk.at (R : RowsOk n t rows) {q : Nat} (h : q < rows.length) : ∃ r ∈ rows, r.i = q := ⟨rows[q], List.getElem_mem h, R.ix q _ (List.getElem?_eq_getElem h)⟩
/-- a mask against a table -/
theorem and_tab (R : RowsOk n t rows) {m x : Nat} (hb : ∀ k, rows.length ≤ k → Nat.testBit x k = false) : ((m &&& x) == 0) = true ↔ ∀ o ∈ rows, has m o = true → Nat.testBit x o.i = false := by
  rw [beq_iff_eq, and_zero]
  constructor
  · intro h o _ ho
    exact h o.i ho
  · intro h q hq
    by_cases hl : q < rows.length
    · obtain ⟨r, hr, e⟩ := R.at hl
      rw [← e]
      exact h r hr (by unfold has; rw [e]; exact hq)
    · exact hb q (by omega)
theorem has_plus {m : Nat} {r o : Row} : has (plus m r) o = (has m o || decide (r.i = o.i)) := by
  unfold has plus
  rw [Nat.testBit_or, tb_one]
theorem rep_plus (R : RowsOk n t rows) {m : Nat} {r : Row} {es : List Ed} (hr : r ∈ rows) (h : Mrep rows m es) : Mrep rows (plus m r) (es ++ [r.e]) := fun e => by
  rw [List.mem_append, List.mem_singleton, h e]
  constructor
  · rintro (⟨o, h1, h2, h3⟩ | rfl)
    · exact ⟨o, h1, by rw [has_plus, h2]; rfl, h3⟩
    · exact ⟨r, hr, by rw [has_plus]; simp, rfl⟩
  · rintro ⟨o, h1, h2, rfl⟩
    rw [has_plus, Bool.or_eq_true, decide_eq_true_eq] at h2
    rcases h2 with h2 | h2
    · exact .inl ⟨o, h1, h2, rfl⟩
    · right
      rw [R.ixInj hr h1 h2]
theorem mem_ends {es : List Ed} {v k : Nat} : k ∈ endsT es v ↔ ∃ e ∈ es, atE e v = true ∧ oth e v = k := by
  unfold endsT
  rw [List.mem_map]
  constructor
  · rintro ⟨e, h, rfl⟩
    rw [List.mem_filter] at h
    exact ⟨e, h.1, h.2, rfl⟩
  · rintro ⟨e, h1, h2, rfl⟩
    exact ⟨e, List.mem_filter.mpr ⟨h1, h2⟩, rfl⟩
theorem pntT_any {es : List Ed} {v : Nat} (h : ∃ k, k ∈ endsT es v) : pntT t es v = ((endsT es v).any fun j => ((endsT es v).filter fun k => !decide (k = j) && decide (t v j k < 0)).isEmpty) := by
  unfold pntT
  match q : endsT es v with
  | [] => rw [q] at h; obtain ⟨_, h⟩ := h; cases h
  | [j] => simp
  | a :: b :: l =>
    rw [decide_eq_false (by simp only [List.length_cons]; omega), Bool.false_or]
theorem lpntT_any {es : List Ed} {v : Nat} (h : ∃ k, k ∈ endsT es v) (h0 : ∀ j ∈ endsT es v, ¬ 0 < t v j j) : lpntT t es v = ((endsT es v).any fun j => ((endsT es v).filter fun k => decide (0 < t v j k)).isEmpty) := by
  unfold lpntT
  match q : endsT es v with
  | [] => rw [q] at h; obtain ⟨_, h⟩ := h; cases h
  | [j] =>
    have := h0 j (by rw [q]; simp)
    simp [this]
  | a :: b :: l =>
    rw [decide_eq_false (by simp only [List.length_cons]; omega), Bool.false_or]
theorem isEmpty_filter {α : Type} {l : List α} {p : α → Bool} : (l.filter p).isEmpty = true ↔ ∀ x ∈ l, p x = false := by
  rw [List.isEmpty_iff, List.filter_eq_nil_iff]
  exact ⟨fun h x hx => by have := h x hx; simpa using this, fun h x hx => by rw [h x hx]; decide⟩
theorem atE_a (r : Row) : atE r.e r.a = true := by unfold atE Row.e; simp
theorem atE_b (r : Row) : atE r.e r.b = true := by unfold atE Row.e; simp
theorem oth_a (r : Row) : oth r.e r.a = r.b := by unfold oth Row.e; simp
theorem oth_b {r : Row} (h : r.a ≠ r.b) : oth r.e r.b = r.a := by unfold oth Row.e; simp [h]
theorem pnt_aux (R : RowsOk n t rows) {m v : Nat} {es : List Ed} (h : Mrep rows m es) (f : Nat → Nat → Bool) (Ta Tb : Row → Nat) (ha : ∀ r ∈ rows, ∀ o ∈ rows, Nat.testBit (Ta r) o.i = (atE o.e r.a && f r.b (oth o.e r.a)) ∨ v ≠ r.a)
    (hb : ∀ r ∈ rows, ∀ o ∈ rows, Nat.testBit (Tb r) o.i = (atE o.e r.b && f r.a (oth o.e r.b)) ∨ v ≠ r.b) (bd : ∀ k, ∀ r ∈ rows, rows.length ≤ k → Nat.testBit (Ta r) k = false ∧ Nat.testBit (Tb r) k = false) :
    ((endsT es v).any fun j => ((endsT es v).filter fun k => f j k).isEmpty) = (rows.any fun r => has m r && ((r.a == v && (m &&& Ta r) == 0) || (r.b == v && (m &&& Tb r) == 0))) := by
  rw [Bool.eq_iff_iff, List.any_eq_true, List.any_eq_true]
  have ends : ∀ k, k ∈ endsT es v ↔ ∃ o ∈ rows, has m o = true ∧ atE o.e v = true ∧ oth o.e v = k := fun k => by
    rw [mem_ends]
    constructor
    · rintro ⟨e, h1, h2, h3⟩
      obtain ⟨o, ho, hm, rfl⟩ := (h e).mp h1
      exact ⟨o, ho, hm, h2, h3⟩
    · rintro ⟨o, ho, hm, h2, h3⟩
      exact ⟨o.e, (h _).mpr ⟨o, ho, hm, rfl⟩, h2, h3⟩
  constructor
  · rintro ⟨j, hj, q⟩
    obtain ⟨r, hr, hm, hv, rfl⟩ := (ends j).mp hj
    rw [isEmpty_filter] at q
    refine ⟨r, hr, ?_⟩
    rw [hm, Bool.true_and, Bool.or_eq_true]
    have hv' : r.a = v ∨ r.b = v := by unfold atE Row.e at hv; simpa using hv
    rcases hv' with hv' | hv'
    · left
      subst hv'
      rw [oth_a] at q
      rw [Bool.and_eq_true]
      refine ⟨beq_self_eq_true _, (and_tab R fun k hk => (bd k r hr hk).1).mpr fun o ho hmo => ?_⟩
      rcases ha r hr o ho with e | e
      · rw [e]
        cases hz : atE o.e r.a with
        | false => rfl
        | true => rw [Bool.true_and]; exact q _ ((ends _).mpr ⟨o, ho, hmo, hz, rfl⟩)
      · exact absurd rfl e
    · right
      subst hv'
      rw [oth_b (R.ne r hr)] at q
      rw [Bool.and_eq_true]
      refine ⟨beq_self_eq_true _, (and_tab R fun k hk => (bd k r hr hk).2).mpr fun o ho hmo => ?_⟩
      rcases hb r hr o ho with e | e
      · rw [e]
        cases hz : atE o.e r.b with
        | false => rfl
        | true => rw [Bool.true_and]; exact q _ ((ends _).mpr ⟨o, ho, hmo, hz, rfl⟩)
      · exact absurd rfl e
  · rintro ⟨r, hr, q⟩
    rw [Bool.and_eq_true, Bool.or_eq_true, Bool.and_eq_true, Bool.and_eq_true] at q
    obtain ⟨hm, q⟩ := q
    rw [beq_iff_eq (a := r.a), beq_iff_eq (a := r.b)] at q
    rcases q with ⟨rfl, q⟩ | ⟨rfl, q⟩
    · refine ⟨r.b, (ends _).mpr ⟨r, hr, hm, atE_a r, oth_a r⟩, isEmpty_filter.mpr fun k hk => ?_⟩
      obtain ⟨o, ho, hmo, hz, rfl⟩ := (ends k).mp hk
      have := (and_tab R fun k hk => (bd k r hr hk).1).mp q o ho hmo
      rcases ha r hr o ho with e | e
      · rw [e, hz, Bool.true_and] at this; exact this
      · exact absurd rfl e
    · refine ⟨r.a, (ends _).mpr ⟨r, hr, hm, atE_b r, oth_b (R.ne r hr)⟩, isEmpty_filter.mpr fun k hk => ?_⟩
      obtain ⟨o, ho, hmo, hz, rfl⟩ := (ends k).mp hk
      have := (and_tab R fun k hk => (bd k r hr hk).2).mp q o ho hmo
      rcases hb r hr o ho with e | e
      · rw [e, hz, Bool.true_and] at this; exact this
      · exact absurd rfl e
theorem pnt_mask (R : RowsOk n t rows) {m v : Nat} {es : List Ed} (h : Mrep rows m es) (hv : ∃ k, k ∈ endsT es v) : pntT t es v = pntM rows m v := by
  rw [pntT_any hv]
  refine pnt_aux R h (fun j k => !decide (k = j) && decide (t v j k < 0)) Row.Ra Row.Rb (fun r hr o ho => ?_) (fun r hr o ho => ?_) fun k r hr hk => ⟨(R.bd k r hr hk).2.1, (R.bd k r hr hk).2.2.1⟩
  · by_cases e : v = r.a
    · subst e; exact .inl (R.Ra r hr o ho)
    · exact .inr e
  · by_cases e : v = r.b
    · subst e; exact .inl (R.Rb r hr o ho)
    · exact .inr e
theorem lpnt_mask (R : RowsOk n t rows) (h0 : ∀ i j, ¬ 0 < t i j j) {m v : Nat} {es : List Ed} (h : Mrep rows m es) (hv : ∃ k, k ∈ endsT es v) : lpntT t es v = lpntM rows m v := by
  rw [lpntT_any hv fun j _ => h0 v j]
  refine pnt_aux R h (fun j k => decide (0 < t v j k)) Row.La Row.Lb (fun r hr o ho => ?_) (fun r hr o ho => ?_) fun k r hr hk => ⟨(R.bd k r hr hk).2.2.2.1, (R.bd k r hr hk).2.2.2.2⟩
  · by_cases e : v = r.a
    · subst e; exact .inl (R.La r hr o ho)
    · exact .inr e
  · by_cases e : v = r.b
    · subst e; exact .inl (R.Lb r hr o ho)
    · exact .inr e
theorem mem_mask (R : RowsOk n t rows) (nd : (pairsN n).Nodup) {m : Nat} {r : Row} {es : List Ed} (hr : r ∈ rows) (h : Mrep rows m es) : decide (r.e ∈ es) = has m r := by
  rw [Bool.eq_iff_iff, decide_eq_true_eq, h]
  constructor
  · rintro ⟨o, ho, hm, e⟩
    rw [← R.inj nd ho hr e]; exact hm
  · intro hm
    exact ⟨r, hr, hm, rfl⟩
theorem crs_mask (R : RowsOk n t rows) {m : Nat} {r : Row} {es : List Ed} (hr : r ∈ rows) (h : Mrep rows m es) : (es.filter fun o => crsT t o r.e).isEmpty = ((m &&& r.X) == 0) := by
  rw [Bool.eq_iff_iff, isEmpty_filter, and_tab R fun k hk => (R.bd k r hr hk).1]
  constructor
  · intro q o ho hm
    rw [R.X r hr o ho]
    exact q _ ((h _).mpr ⟨o, ho, hm, rfl⟩)
  · intro q e he
    obtain ⟨o, ho, hm, rfl⟩ := (h e).mp he
    rw [← R.X r hr o ho]
    exact q o ho hm
theorem can_mask (R : RowsOk n t rows) (nd : (pairsN n).Nodup) {m : Nat} {r : Row} {es : List Ed} (hr : r ∈ rows) (h : Mrep rows m es) : canT t es r.e = canM rows m r := by
  unfold canT canM
  have hp := rep_plus R hr h
  have e1 : ∃ k, k ∈ endsT (es ++ [r.e]) r.e.1 := ⟨_, mem_ends.mpr ⟨r.e, by simp, atE_a r, rfl⟩⟩
  have e2 : ∃ k, k ∈ endsT (es ++ [r.e]) r.e.2 := ⟨_, mem_ends.mpr ⟨r.e, by simp, atE_b r, rfl⟩⟩
  rw [mem_mask R nd hr h, crs_mask R hr h, pnt_mask R hp e1, pnt_mask R hp e2, Bool.and_assoc, Bool.and_assoc]
  rfl
theorem lcan_mask (R : RowsOk n t rows) (nd : (pairsN n).Nodup) (h0 : ∀ i j, ¬ 0 < t i j j) {m : Nat} {r : Row} {es : List Ed} (hr : r ∈ rows) (h : Mrep rows m es) : lcanT t es r.e = lcanM rows m r := by
  unfold lcanT lcanM
  have hp := rep_plus R hr h
  have e1 : ∃ k, k ∈ endsT (es ++ [r.e]) r.e.1 := ⟨_, mem_ends.mpr ⟨r.e, by simp, atE_a r, rfl⟩⟩
  have e2 : ∃ k, k ∈ endsT (es ++ [r.e]) r.e.2 := ⟨_, mem_ends.mpr ⟨r.e, by simp, atE_b r, rfl⟩⟩
  rw [mem_mask R nd hr h, crs_mask R hr h, lpnt_mask R h0 hp e1, lpnt_mask R h0 hp e2, Bool.and_assoc, Bool.and_assoc]
  rfl
end
end Q40
end

section
set_option maxRecDepth 100000
set_option maxHeartbeats 4000000
namespace Q40
open PySem PySem.Spec PyProof.Rows L2

/-! ### sorted(xs), xs a list of data -/
def DpV (K : PySem.W.Frag) (H : Hp) (u : Value) (d : PyData) : Prop := ∃ v : V, RelV v u ∧ Dp K H v d
theorem each_dps {K : PySem.W.Frag} {H : Hp} : ∀ {ds : List PyData} {vs : List V} {us : List Value}, DpAll K H vs ds → Vals vs us → PySem.W.EachIs (DpV K H) us ds
  | [], _, _, h, r => by
    cases h; cases r; exact .nil
  | d :: ds, _, _, h, r => by
    cases h with
    | cons h1 h2 =>
      cases r with
      | cons r1 r2 => exact .cons ⟨_, r1, h1⟩ (each_dps h2 r2)
theorem dps_each {K : PySem.W.Frag} {H : Hp} : ∀ {ds : List PyData} {us : List Value}, PySem.W.EachIs (DpV K H) us ds → ∃ vs, Vals vs us ∧ DpAll K H vs ds
  | _, _, .nil => ⟨[], .nil, .nil⟩
  | _, _, .cons ⟨v, r, h⟩ t => by
    obtain ⟨vs, r2, h2⟩ := dps_each t
    exact ⟨v :: vs, .cons r r2, .cons h h2⟩
def rSortD (K : PySem.W.Frag) : List V → Hp → VK → Prop := fun vs H Q => ∃ (a : Addr) (xs : List V) (ds : List PyData), vs = [V.ref a] ∧ SqL K H a xs ∧ DpAll K H xs ds ∧ PySem.W.AllAlike ds ∧ PySem.W.Sortable ds ∧ (∀ d ∈ ds, d.depth ≤ 10) ∧
  ∀ (ys : List V) (p : Addr), DpAll K H ys (ds.mergeSort (PySem.W.dataLe false id)) → H p = none → Q (.ref p) (upd H p (.lst ys))
theorem cr_sortD {X : Cx} {k : Nat} (hr : Room k X.A) : CallR X (.builtin "sorted") (rSortD X.K) := by
  intro pins s σ H vs us Q I r h
  obtain ⟨a, xs, ds, rfl, hs, hd, hal, hso, hdep, q⟩ := h
  obtain ⟨its, rv, hl, hz⟩ := I.list hs
  rw [Vals.ref1 r]
  have hn := rv.length
  have e := each_dps hd rv
  have hb : (ds.map id) = ds := List.map_id _
  refine PySem.W.sorted_data (R := DpV X.K H) (bs := ds) (enc := id) hl.isList e (e.mono fun u d ⟨v, r1, h1⟩ => Dp.reads I d v u h1 r1) (by rw [hb]; exact hal) (by rw [hb]; exact hso) (by rw [← dps_len hd]; exact hz) (fun d hd => ?_) fun out ho he => ?_
  · have h1 := hdep d hd
    have h2 := hr.un
    show X.A.units + 2 + d.depth < cLine
    omega
  · obtain ⟨ep, he'⟩ := PyProof.Rows.sortedAll_at s.heap its (List.toArray out)
    obtain ⟨ys, ry, hy⟩ := dps_each he
    have hlen : ys.length ≤ sizeLine := by rw [ry.length, ho, ← dps_len hd]; exact hz
    exact ⟨.ref _, upd H (s.heap.objs.size + 1) (.lst ys), I.laid (t' := s.toks) (fun _ _ => PyProof.Rows.sortedAll_old) (Nat.le_succ _) ⟨hlen, out, ep, ry, he'⟩, rfl, q _ _ hy (I.hok.fresh (Nat.le_succ _))⟩
section
variable {X : Cx} {a : Expr} {e : Expr} {es : List Expr} {ρ : DEnv} {ds : List PyData} {pos pf : Pos} {k j : Nat}
/-- a built-in's call that leaves a new list -/
theorem new_of {H : Hp} {p : Addr} {ys : List V} {zs : List PyData} {K : PySem.W.Frag} (hp : H p = none) (h : DpAll K H ys zs) : DpAll K (del (upd H p (.lst ys)) p) ys zs := dps_same (same_to_del (same_upd hp) hp) _ _ h
theorem back_none {H H1 : Hp} {p : Addr} (s : Same H H1) (h : H1 p = none) : H p = none := by
  cases q : H p with
  | none => rfl
  | some o => rw [s _ _ q] at h; cases h
theorem en_sorted (hr : Room k X.A) (B : NoB X.mg) (h : Ev X a ρ (.list ds)) (hal : PySem.W.AllAlike ds) (hso : PySem.W.Sortable ds) (hdep : ∀ d ∈ ds, d.depth ≤ 10) (hst : starEach [a] X.env = [(false, eval a X.env)] := by rfl) (hg : Gl X "sorted" := by rfl) (hpl : (backTo pos (starEach [] X.env)).any (·.1) = false := by rfl) :
    EvN X (.Call (.Name "sorted" pf) [a] [] pos) ρ (ds.mergeSort (PySem.W.dataLe false id)) := fun σ H E Q q =>
  EAt.of (pe_callB (cr_sortD hr) hg B.sorted bt_sorted aat (he := hst) (hpl := hpl)) ((ea_cons h ea_nil hst) σ H E _ fun vs H1 s1 d1 => by
    obtain ⟨v, rfl, d2⟩ := dps1 d1
    obtain ⟨l, xs, rfl, h2, h3⟩ := dp_list d2
    exact ⟨l, xs, ds, rfl, h2, h3, hal, hso, hdep, fun ys p hy hp => q p ys _ (back_none s1 hp) (s1.trans (same_upd hp)) upd_same (new_of hp hy)⟩)
theorem en_listT (B : NoB X.mg) (h : Ev X a ρ (.tuple ds)) (hst : starEach [a] X.env = [(false, eval a X.env)] := by rfl) (hg : Gl X "list" := by rfl) (hpl : (backTo pos (starEach [] X.env)).any (·.1) = false := by rfl) : EvN X (.Call (.Name "list" pf) [a] [] pos) ρ ds := fun σ H E Q q =>
  EAt.of (pe_callTy call_list_of hg B.list bt_list aat (he := hst) (hpl := hpl)) ((ea_cons h ea_nil hst) σ H E _ fun vs H1 s1 d1 => by
    obtain ⟨v, rfl, d2⟩ := dps1 d1
    obtain ⟨l, xs, rfl, h2, h3⟩ := dp_tup d2
    exact ⟨l, xs, rfl, .inr h2, fun p hp => q p xs _ (back_none s1 hp) (s1.trans (same_upd hp)) upd_same (new_of hp h3)⟩)
end

/-! ### defs that return a new list -/
def spN (K : PySem.W.Frag) (F : List PyData → List PyData → Prop) : Sp := fun vs H Q _ => ∃ ds r, DpAll K H vs ds ∧ F ds r ∧ ∀ D acc H', H D = none → Same H H' → H' D = some (.lst acc) → DpAll K (del H' D) acc r → Q (.ref D) H'
structure CalleeN (P : Program) (w : World) (K : PySem.W.Frag) (mg : Str → Option Value) (base : Heap) (x : Str) (k : Nat) (F : List PyData → List PyData → Prop) : Prop where
  ex : ∃ (f : Addr) (fd : FuncData) (ps : List Str), FnOk P w K mg base CX0 k f fd ps (spN K F) ∧ Binds K fd ps [] ∧ mg x = some (.ref f) ∧ PySem.W.keepIn K (.ref f) = true
theorem calleeN_of {P : Program} {w : World} {K : PySem.W.Frag} {mg : Str → Option Value} {base : Heap} {x : Str} {f : Addr} {fd : FuncData} {ps : List Str} {k : Nat} {F : List PyData → List PyData → Prop} (h : FnOk P w K mg base CX0 k f fd ps (spN K F)) (hb : Binds K fd ps []) (hm : mg x = some (.ref f))
    (hk : PySem.W.keepIn K (.ref f) = true) : CalleeN P w K mg base x k F := ⟨f, fd, ps, h, hb, hm, hk⟩
section
variable {X : Cx} {e : Expr} {es : List Expr} {ρ : DEnv} {ds r : List PyData} {pos pf : Pos} {k j : Nat} {F : List PyData → List PyData → Prop} {x : Str}
theorem en_call (G : CalleeN X.prog X.w X.K X.mg X.base x k F) (hr : Room j X.A) (hj : k ≤ j) (ha : EvA X (e :: es) ρ ds) (hF : F ds r) (hg : Gl X x := by rfl) (hdb : (x == ("__debug__" : Str)) = false := by decide)
    (he : starEach (e :: es) X.env = (false, eval e X.env) :: starEach es X.env := by rfl) (hpl : (backTo pos (starEach es X.env)).any (·.1) = false := by rfl) : EvN X (.Call (.Name x pf) (e :: es) [] pos) ρ r := fun σ H E Q q => by
  obtain ⟨f, fd, ps, G1, G2, G3, G4⟩ := G.ex
  refine EAt.of (pe_call G1 (hr.mono hj) hg G3 G4 G2 .nil pass0 aat hdb he hpl) (ha σ H E _ fun vs H1 s1 d1 => ?_)
  show spN X.K F (vs ++ []) H1 Q E0
  rw [List.append_nil]
  exact ⟨ds, r, d1, hF, fun D acc H2 hn s2 h1 h2 => q D acc H2 (back_none s1 hn) (s1.trans s2) h1 h2⟩
end
section
variable {P : Program} {w : World} {K : PySem.W.Frag} {mg : Str → Option Value} {base : Heap} {f : Addr} {fd : FuncData}
/-- a def whose body is one return of a new list -/
theorem new_ok {x qual : Str} {st : Stmt} {N ps : List Str} {k : Nat} {F : List PyData → List PyData → Prop} {e : Expr} {pos : Pos} (Fn : Fun K x qual st f fd) (S : FnScope N ps (defScope st)) (hb : defBody st = [.Return (some e) pos])
    (hlen : ∀ ds r, F ds r → ds.length = ps.length)
    (h : ∀ (cdv : Value) (A : Around) (outer : List Env) (s : Shared) (H : Hp) (E : XK), Room k (A.deeper (envOfC qual (defScope st) s.heap.objs.size f cdv)) → ∀ ds r, F ds r →
      EvN (bodyCx P w K mg base N qual st f cdv A outer s H E) e (ds.map some ++ List.replicate (N.length - ds.length) none) r) :
    FnOk P w K mg base CX0 (k + 1) f fd ps (spN K F) := by
  refine Fn.ok S (fun vs H Q E h => ?_) (fun cdv A outer s H vs Q E hr hsp => ?_)
  · obtain ⟨ds, r, h1, h2, _⟩ := h
    rw [dps_len h1, hlen ds r h2]
  · obtain ⟨ds, r, h1, h2, q⟩ := hsp
    refine ⟨_, by rw [hb]; exact pss_cons (ps_ret eat) pss_nil, ?_⟩
    exact h cdv A outer s H E hr ds r h2 (L2.start N vs) H (envD_start h1) _ fun D acc H' hn s1 h3 h4 => q D acc H' hn s1 h3 h4
def F_pairsN : List PyData → List PyData → Prop := fun ds r => ∃ n : Nat, n ≤ 12 ∧ ds = [nD n] ∧ r = (pairsN n).map eD
theorem okN_pairs_of (Fn : Fun K "pairs_of" "pairs_of" s_pairs_of f fd) (B : NoB mg) : FnOk P w K mg base CX0 1 f fd ["many"] (spN K F_pairsN) := by
  refine new_ok Fn sc_pairs_of rfl (fun ds r h => by obtain ⟨a, _, rfl, _⟩ := h; rfl) fun cdv A outer s H E hr ds r h => ?_
  obtain ⟨n, hn, rfl, rfl⟩ := h
  have e : (pairsN n).map eD = (List.range n).flatMap fun i => (List.range (n - (i + 1))).map fun (j : Nat) => PyData.tuple [.int (i : Int), .int ((i : Int) + 1 + ((j : Nat) : Int))] := by
    unfold pairsN
    rw [List.map_flatMap]
    congr 1
    funext i
    rw [List.map_map]
    refine List.map_congr_left fun j _ => ?_
    show PyData.tuple [.int (i : Int), .int (((i + 1 + j : Nat)) : Int)] = PyData.tuple [.int (i : Int), .int ((i : Int) + 1 + (j : Int))]
    rw [show (((i + 1 + j : Nat)) : Int) = (i : Int) + 1 + (j : Int) by omega]
  rw [e]
  exact (en_lc2R (own := [("i", 1), ("j", 2)]) (i1 := 1) (i2 := 2) (m := n) (fun i => (i : Int) + 1) (fun i => n - (i + 1)) (fun i j => .tuple [.int (i : Int), .int ((i : Int) + 1 + (j : Int))]) B (ev_var 0)
    (fun i _ _ _ _ _ _ => ea_cons (ev_add (ev_var 1) ev_int) (ea_cons (ev_var 0) ea_nil)) (fun i h => by omega) (fun i h => by omega) (fun i j _ _ _ _ _ _ _ => Ev.evX (ev_tup (ea_cons (ev_var 1) (ea_cons (ev_var 2) ea_nil))) (by simp [lfree, lfreeAll])) (by omega) (fun i => Nat.sub_le _ _)
    (by decide) (by decide) (fun _ _ _ _ _ => pg_name (i := 1) sc_pairs_of.nd rfl (.inl rfl)) (fun _ _ _ _ _ => pg_name (i := 2) sc_pairs_of.nd rfl (.inl rfl)) (blkOk_by (N := n_pairs_of) (sc := defScope s_pairs_of) (by decide +kernel)) sc_pairs_of.nd)
end
end Q40
end

section
set_option maxRecDepth 100000
set_option maxHeartbeats 4000000
namespace Q40
open PySem PySem.Spec PyProof.Rows L2

/-! ### order of data -/
abbrev leD : PyData → PyData → Bool := PySem.W.dataLe false id
theorem leD_total : ∀ a b : PyData, (leD a b || leD b a) = true := fun a b => by
  have h : ∀ x y : PyData, leD x y = !PySem.W.dataLt y x := fun _ _ => rfl
  rw [h, h]
  cases e : PySem.W.dataLt b a with
  | false => rfl
  | true =>
    cases e2 : PySem.W.dataLt a b with
    | false => rfl
    | true =>
      have := PyProof.Rows.lex_trans _ _ _ e e2
      rw [PyProof.Rows.lex_irrefl] at this
      cases this
theorem leD_trans : ∀ a b c : PyData, leD a b = true → leD b c = true → leD a c = true := fun a b c h1 h2 => by
  have h : ∀ x y : PyData, leD x y = !PySem.W.dataLt y x := fun _ _ => rfl
  rw [h] at h1 h2 ⊢
  rw [Bool.not_eq_true'] at h1 h2 ⊢
  cases e : PySem.W.dataLt c a with
  | false => rfl
  | true =>
    rcases PyProof.Rows.lex_negTrans (O := PyProof.Rows.itemOrd) (PySem.W.keyToks c) (PySem.W.keyToks b) (PySem.W.keyToks a) e with z | z
    · rw [show PySem.W.dataLt c b = true from z] at h2; cases h2
    · rw [show PySem.W.dataLt b a = true from z] at h1; cases h1
theorem leD_anti {a b : PyData} (h1 : leD a b = true) (h2 : leD b a = true) : PySem.W.keyToks a = PySem.W.keyToks b := by
  have h : ∀ x y : PyData, leD x y = !PySem.W.dataLt y x := fun _ _ => rfl
  rw [h, Bool.not_eq_true'] at h1 h2
  exact PyProof.Rows.lex_total _ _ h2 h1
/-- a sorted permutation -/
theorem sort_uniq {ds es : List PyData} (hp : ds.Perm es) (hs : es.Pairwise fun a b => leD a b = true) (hi : ∀ a ∈ es, ∀ b ∈ es, PySem.W.keyToks a = PySem.W.keyToks b → a = b) : ds.mergeSort leD = es := by
  have p2 := (List.mergeSort_perm ds leD).trans hp
  refine List.Perm.eq_of_pairwise (le := fun a b => leD a b = true) (fun a b ha hb h1 h2 => hi a (p2.mem_iff.mp ha) b hb (leD_anti h1 h2)) (List.pairwise_mergeSort leD_trans leD_total ds) hs p2
theorem sort_perm {ds es : List PyData} (hp : ds.Perm es) (hi : ∀ a ∈ es, ∀ b ∈ es, PySem.W.keyToks a = PySem.W.keyToks b → a = b) : ds.mergeSort leD = es.mergeSort leD :=
  sort_uniq (hp.trans (List.mergeSort_perm es leD).symm) (List.pairwise_mergeSort leD_trans leD_total es) fun a ha b hb => hi a ((List.mergeSort_perm es leD).mem_iff.mp ha) b ((List.mergeSort_perm es leD).mem_iff.mp hb)
theorem toks_eD (e : Ed) : PySem.W.keyToks (eD e) = [.inl 1, .inl (e.1 : Int), .inl 1, .inl (e.2 : Int), .inl 0] := by
  simp [eD, PySem.W.keyToks, PySem.W.keyToksAll]
theorem toks_eD_inj {e f : Ed} (h : PySem.W.keyToks (eD e) = PySem.W.keyToks (eD f)) : e = f := by
  rw [toks_eD, toks_eD] at h
  simp only [List.cons.injEq, Sum.inl.injEq, and_true, true_and] at h
  obtain ⟨h1, h2⟩ := h
  rw [Prod.mk.injEq] <;> omega
theorem toks_eDs_inj : ∀ {es fs : List Ed}, PySem.W.keyToksAll (es.map eD) = PySem.W.keyToksAll (fs.map eD) → es = fs
  | [], [], _ => rfl
  | [], f :: fs, h => by simp [PySem.W.keyToksAll] at h
  | e :: es, [], h => by simp [PySem.W.keyToksAll] at h
  | e :: es, f :: fs, h => by
    rw [List.map_cons, List.map_cons, PySem.W.keyToksAll, PySem.W.keyToksAll, toks_eD, toks_eD] at h
    simp only [List.cons.injEq, Sum.inl.injEq, true_and, List.cons_append, List.nil_append] at h
    obtain ⟨h1, h2, h3⟩ := h
    have he : e = f := by
      obtain ⟨a, b⟩ := e
      obtain ⟨c, d⟩ := f
      rw [Prod.mk.injEq]
      simp only at h1 h2
      omega
    rw [he, toks_eDs_inj h3]
/-- edges as a tuple -/
def esT (es : List Ed) : PyData := .tuple (es.map eD)
theorem toks_esT_inj {es fs : List Ed} (h : PySem.W.keyToks (esT es) = PySem.W.keyToks (esT fs)) : es = fs := toks_eDs_inj (by simpa only [esT, PySem.W.keyToks] using h)
def ltE (e f : Ed) : Prop := e.1 < f.1 ∨ (e.1 = f.1 ∧ e.2 < f.2)
theorem leD_eD {e f : Ed} (h : ltE e f) : leD (eD e) (eD f) = true := by
  show (!PySem.W.dataLt (eD f) (eD e)) = true
  unfold eD
  rw [PySem.W.dataLt_ii, Bool.not_eq_true', decide_eq_false_iff_not]
  unfold ltE at h
  omega
instance (e f : Ed) : Decidable (ltE e f) := by unfold ltE; infer_instance
theorem pairs_facts : ∀ n, n ≤ 7 → (pairsN n).Pairwise ltE ∧ (pairsN n).length ≤ 21 := by
  intro n hn
  have : ∀ n ∈ List.range 8, (pairsN n).Pairwise ltE ∧ (pairsN n).length ≤ 21 := by decide +kernel
  exact this n (List.mem_range.mpr (by omega))
theorem ltE_ne {e f : Ed} (h : ltE e f) : e ≠ f := by
  unfold ltE at h
  intro z
  subst z
  omega
theorem pairs_nodup {n : Nat} (hn : n ≤ 7) : (pairsN n).Nodup := (pairs_facts n hn).1.imp ltE_ne
section
variable {n : Nat} {t : Tau} {rows : List Row}
theorem RowsOk.len (R : RowsOk n t rows) (hn : n ≤ 7) : rows.length ≤ 21 := by
  have := (pairs_facts n hn).2
  rw [← R.prs, List.length_map] at this
  exact this
theorem edges_pair (R : RowsOk n t rows) (hn : n ≤ 7) (m : Nat) : (edgesR rows m).Pairwise ltE := by
  have h : (rows.map Row.e).Pairwise ltE := by rw [R.prs]; exact (pairs_facts n hn).1
  exact h.sublist (List.Sublist.map _ List.filter_sublist)
theorem edges_nodup (R : RowsOk n t rows) (hn : n ≤ 7) (m : Nat) : (edgesR rows m).Nodup := (edges_pair R hn m).imp ltE_ne
theorem edges_in (R : RowsOk n t rows) {m : Nat} {e : Ed} (h : e ∈ edgesR rows m) : e ∈ pairsN n := by
  unfold edgesR at h
  obtain ⟨r, hr, rfl⟩ := List.mem_map.mp h
  rw [← R.prs]
  exact List.mem_map.mpr ⟨r, (List.mem_filter.mp hr).1, rfl⟩
theorem edges_len (R : RowsOk n t rows) (hn : n ≤ 7) (m : Nat) : (edgesR rows m).length ≤ 21 := by
  unfold edgesR
  rw [List.length_map]
  exact Nat.le_trans (List.length_filter_le _ _) (R.len hn)
/-- sorting the edges of a mask -/
theorem sort_rep (R : RowsOk n t rows) (hn : n ≤ 7) {m : Nat} {es : List Ed} (h : Mrep rows m es) (nd : es.Nodup) : (es.map eD).mergeSort leD = (edgesR rows m).map eD := by
  refine sort_uniq (List.Perm.map _ ?_) ?_ fun a ha b hb q => ?_
  · refine (List.perm_ext_iff_of_nodup nd (edges_nodup R hn m)).mpr fun e => ?_
    rw [h e, rep_edges rows m e]
  · rw [List.pairwise_map]
    exact (edges_pair R hn m).imp leD_eD
  · obtain ⟨e, _, rfl⟩ := List.mem_map.mp ha
    obtain ⟨f, _, rfl⟩ := List.mem_map.mp hb
    rw [toks_eD_inj q]
theorem alike_eD (es : List Ed) : PySem.W.AllAlike (es.map eD) := PySem.W.AllAlike.of fun b b' => by
  show PySem.W.alike (eD b) (eD b') = true
  simp [eD, PySem.W.alike, PySem.W.alikeAll]
theorem sortable_eD (es : List Ed) : PySem.W.Sortable (es.map eD) := PySem.W.Sortable.tuples fun b => ⟨_, _, rfl⟩
theorem depth_eD (e : Ed) : (eD e).depth = 1 := by simp [eD, PyData.depth, PyData.depthAll]
theorem alikeAll_eD : ∀ es fs : List Ed, PySem.W.alikeAll (es.map eD) (fs.map eD) = true
  | [], _ => by simp [PySem.W.alikeAll]
  | _ :: _, [] => by simp [PySem.W.alikeAll]
  | e :: es, f :: fs => by
    rw [List.map_cons, List.map_cons, PySem.W.alikeAll, alikeAll_eD es fs, Bool.and_true]
    simp [eD, PySem.W.alike, PySem.W.alikeAll]
theorem alike_esT (l : List (List Ed)) : PySem.W.AllAlike (l.map esT) := PySem.W.AllAlike.of fun b b' => by
  show PySem.W.alike (esT b) (esT b') = true
  rw [esT, esT, PySem.W.alike]
  exact alikeAll_eD b b'
theorem sortable_esT {l : List (List Ed)} (h : ∀ es ∈ l, es ≠ []) : PySem.W.Sortable (l.map esT) := .inl fun d hd => by
  obtain ⟨es, he, rfl⟩ := List.mem_map.mp hd
  match es, h es he with
  | e :: es, _ => exact ⟨eD e, es.map eD, rfl⟩
theorem depth_esT (es : List Ed) : (esT es).depth ≤ 3 := by
  have := (shapes_eD es).2
  rw [esT, PyData.depth]
  omega
end
/-! ### the walk's own steps -/
def strict {α : Type} (x : Nat) (f : Nat → α) : α := Nat.rec (f 0) (fun k _ => f (k + 1)) x
theorem strict_eq {α : Type} (x : Nat) (f : Nat → α) : strict x f = f x := by cases x <;> rfl
def filGo (all : List Row) : List Row → Nat → Nat
  | [], m => m
  | r :: rs, m => if canM all m r = true then filGo all rs (plus m r) else filGo all rs m
def minus (m : Nat) (r : Row) : Nat := m ^^^ (1 <<< r.i)
def exM (all : List Row) (m : Nat) (r : Row) : Option Row := all.find? fun o => !decide (o.i = r.i) && canM all (minus m r) o
def stepGo (all : List Row) (m : Nat) : List Row → List Nat → Option (List Nat)
  | [], found => some found
  | r :: rs, found => if r.out = true then stepGo all m rs found else
    match exM all m r with
    | none => none
    | some o => if plus (minus m r) o ∈ found then stepGo all m rs found else stepGo all m rs (found ++ [plus (minus m r) o])
def bfs (all : List Row) : Nat → Nat → List Nat → Option (List Nat)
  | 0, _, _ => none
  | f + 1, k, found => match found[k]? with
    | none => some found
    | some m => match stepGo all m (all.filter (has m)) found with
      | none => none
      | some found' => bfs all f (k + 1) found'
section
variable {n : Nat} {t : Tau} {rows : List Row}
theorem has_minus (R : RowsOk n t rows) {m : Nat} {r o : Row} (hm : has m r = true) : has (minus m r) o = (has m o && !decide (o.i = r.i)) := by
  unfold has minus at *
  rw [Nat.testBit_xor, tb_one]
  by_cases e : r.i = o.i
  · rw [← e, hm]; simp
  · rw [decide_eq_false e, decide_eq_false (fun z => e z.symm)]; simp
theorem rep_minus (R : RowsOk n t rows) (nd : (pairsN n).Nodup) {m : Nat} {r : Row} {es : List Ed} (hr : r ∈ rows) (hm : has m r = true) (h : Mrep rows m es) : Mrep rows (minus m r) (es.filter fun o => !decide (o = r.e)) := fun e => by
  rw [List.mem_filter, h e]
  constructor
  · rintro ⟨⟨o, ho, h1, rfl⟩, h2⟩
    refine ⟨o, ho, ?_, rfl⟩
    rw [has_minus R hm, h1, Bool.true_and]
    rw [Bool.not_eq_true', decide_eq_false_iff_not] at h2 ⊢
    intro z
    exact h2 (by rw [R.ixInj ho hr z])
  · rintro ⟨o, ho, h1, rfl⟩
    rw [has_minus R hm, Bool.and_eq_true, Bool.not_eq_true', decide_eq_false_iff_not] at h1
    refine ⟨⟨o, ho, h1.1, rfl⟩, ?_⟩
    rw [Bool.not_eq_true', decide_eq_false_iff_not]
    intro z
    exact h1.2 (by rw [R.inj nd ho hr z])
theorem exch_mask (R : RowsOk n t rows) (nd : (pairsN n).Nodup) {m : Nat} {r : Row} {es : List Ed} (hr : r ∈ rows) (hm : has m r = true) (h : Mrep rows m es) : exchT t n es r.e = (exM rows m r).map Row.e := by
  unfold exchT exM
  rw [← R.prs, List.find?_map]
  congr 1
  have hrep := rep_minus R nd hr hm h
  have key : ∀ l : List Row, (∀ o ∈ l, o ∈ rows) → l.find? ((fun o => !decide (o = r.e) && canT t (es.filter fun o => !decide (o = r.e)) o) ∘ Row.e) = l.find? fun o => !decide (o.i = r.i) && canM rows (minus m r) o := by
    intro l
    induction l with
    | nil => intro _; rfl
    | cons o l ih =>
      intro hl
      have ho := hl o List.mem_cons_self
      rw [List.find?_cons, List.find?_cons, ih fun x hx => hl x (List.mem_cons_of_mem _ hx)]
      have e1 : ((fun o => !decide (o = r.e) && canT t (es.filter fun o => !decide (o = r.e)) o) ∘ Row.e) o = (!decide (o.i = r.i) && canM rows (minus m r) o) := by
        show (!decide (o.e = r.e) && canT t (es.filter fun o => !decide (o = r.e)) o.e) = _
        rw [can_mask R nd ho hrep]
        congr 2
        rw [decide_eq_decide]
        exact ⟨fun z => by rw [R.inj nd ho hr z], fun z => by rw [R.ixInj ho hr z]⟩
      rw [e1]
  exact key rows fun _ h => h
theorem edges_inj (R : RowsOk n t rows) (nd : (pairsN n).Nodup) {m m' : Nat} (hb : m < 2 ^ rows.length) (hb' : m' < 2 ^ rows.length) (h : edgesR rows m = edgesR rows m') : m = m' := by
  apply Nat.eq_of_testBit_eq
  intro q
  by_cases hq : q < rows.length
  · obtain ⟨r, hr, e⟩ := R.at hq
    have h1 := mem_mask R nd hr (rep_edges rows m)
    have h2 := mem_mask R nd hr (rep_edges rows m')
    rw [h] at h1
    have := h1.symm.trans h2
    unfold has at this
    rw [e] at this
    exact this
  · rw [Nat.testBit_lt_two_pow (Nat.lt_of_lt_of_le hb (Nat.pow_le_pow_right (by decide) (by omega))), Nat.testBit_lt_two_pow (Nat.lt_of_lt_of_le hb' (Nat.pow_le_pow_right (by decide) (by omega)))]
theorem plus_lt (R : RowsOk n t rows) {m : Nat} {r : Row} (hr : r ∈ rows) (h : m < 2 ^ rows.length) : plus m r < 2 ^ rows.length := by
  obtain ⟨k, hk⟩ := List.mem_iff_getElem?.mp hr
  have e := R.ix k r hk
  have hl := (List.getElem?_eq_some_iff.mp hk).1
  unfold plus
  refine Nat.or_lt_two_pow h ?_
  rw [Nat.one_shiftLeft]
  exact Nat.pow_lt_pow_right (by decide) (by omega)
theorem minus_lt (R : RowsOk n t rows) {m : Nat} {r : Row} (hr : r ∈ rows) (h : m < 2 ^ rows.length) : minus m r < 2 ^ rows.length := by
  obtain ⟨k, hk⟩ := List.mem_iff_getElem?.mp hr
  have e := R.ix k r hk
  have hl := (List.getElem?_eq_some_iff.mp hk).1
  unfold minus
  refine Nat.xor_lt_two_pow h ?_
  rw [Nat.one_shiftLeft]
  exact Nat.pow_lt_pow_right (by decide) (by omega)
end
end Q40
end

section
set_option maxRecDepth 100000
set_option maxHeartbeats 4000000
namespace Q40
open PySem PySem.Spec PyProof.Rows L2

/-- points with their table -/
structure Tabl (ps : List Pt) (rows : List Row) : Prop where
  b : PtsB ps
  lo : 2 ≤ ps.length
  hi : ps.length ≤ 7
  R : RowsOk ps.length (tau ps) rows
theorem Tabl.nd {ps : List Pt} {rows : List Row} (h : Tabl ps rows) : (pairsN ps.length).Nodup := pairs_nodup h.hi
theorem Tabl.inn {ps : List Pt} {rows : List Row} (h : Tabl ps rows) {m : Nat} {es : List Ed} (hm : Mrep rows m es) : ∀ e ∈ es, EdIn ps.length e := fun e he => by
  obtain ⟨r, hr, _, rfl⟩ := (hm e).mp he
  exact pairsN_in (by rw [← h.R.prs]; exact List.mem_map.mpr ⟨r, hr, rfl⟩)
theorem Tabl.rin {ps : List Pt} {rows : List Row} (h : Tabl ps rows) {r : Row} (hr : r ∈ rows) : EdIn ps.length r.e := pairsN_in (by rw [← h.R.prs]; exact List.mem_map.mpr ⟨r, hr, rfl⟩)
def encR (rows : List Row) (m : Nat) : PyData := esT (edgesR rows m)
def F_fil : List PyData → PyData → Prop := fun ds r => ∃ (ps : List Pt) (rows : List Row), Tabl ps rows ∧ ds = [ptsT ps, .tuple []] ∧ r = encR rows (filGo rows rows 0)
theorem rep_zero (rows : List Row) : Mrep rows 0 [] := fun e => by
  constructor
  · intro h; cases h
  · rintro ⟨r, _, h, _⟩
    unfold has at h
    rw [Nat.zero_testBit] at h
    cases h
theorem drop_at {α : Type} {l : List α} {i : Nat} {x : α} (h : l[i]? = some x) : l.drop i = x :: l.drop (i + 1) := by
  obtain ⟨h1, h2⟩ := List.getElem?_eq_some_iff.mp h
  rw [List.drop_eq_getElem_cons h1, h2]
section
variable {P : Program} {w : World} {K : PySem.W.Frag} {mg : Str → Option Value} {base : Heap} {f : Addr} {fd : FuncData}
theorem ok_filled (Fn : Fun K "filled" "filled" s_filled f fd) (B : NoB mg) (G1 : CalleeN P w K mg base "pairs_of" 1 F_pairsN) (G2 : Callee P w K mg base "can_have" 5 F_can) : FnOk P w K mg base CX0 6 f fd ["points", "edges"] (spF K F_fil) := by
  refine pure_ok Fn sc_filled (fun ds r h => by obtain ⟨a, b, _, rfl, _⟩ := h; rfl) fun cdv A outer s H E hr ds r h => ?_
  obtain ⟨ps, rows, T, rfl, rfl⟩ := h
  have hlen : (ps.map pD).length = ps.length := List.length_map _
  have hrl := T.R.len T.hi
  refine bk_new (i := 2) (en_listT B (ev_var 1)) ?_ sc_filled.nd (by exact Nat.le_of_ble_eq_true rfl)
  refine bkX_cons (stM_forL (j := 3) (xs := rows) (enc := fun r => eD r.e) (em_new (en_call G1 hr (by decide) (ea_cons (ev_lenT B (ev_var 0)) ea_nil) ⟨ps.length, by have := T.hi; omega, by rw [hlen]; rfl, rfl⟩) (lfree_of fun d hd => by obtain ⟨e, _, rfl⟩ := List.mem_map.mp hd; rfl) (by rw [← T.R.prs, List.map_map]; rfl))
    (fun k ρ cs => ∃ (m : Nat) (es : List Ed) (u : Option PyData), ρ = [some (ptsT ps), some (.tuple []), none, u] ∧ cs = [.lst (es.map eD)] ∧ es.Nodup ∧ es.length ≤ k ∧ Mrep rows m es ∧ filGo rows (rows.drop k) m = filGo rows rows 0)
    ⟨0, [], _, rfl, rfl, List.nodup_nil, Nat.le_refl _, rep_zero rows, rfl⟩ (fun k r ρ' cs' hk hI => ?_) (fun ρ' cs' hI => ?_) PassesOwn.never sc_filled.nd)
  · obtain ⟨m, es, u, rfl, rfl, hnd, hl, hm, hg⟩ := hI
    have hr2 : r ∈ rows := List.mem_of_getElem? hk
    have hkl := (List.getElem?_eq_some_iff.mp hk).1
    rw [drop_at hk] at hg
    refine bkM_cons (stM_if (p := canM rows m r) (et_val ((ev_call G2 hr (by decide) (ea_cons (ev_var 0) (ea_cons (ev_var 2) (ea_cons (ev_var 3) ea_nil))) ⟨ps, es, r.e, T.b, by omega, T.inn hm, T.rin hr2, rfl, rfl⟩).is (by rw [can_mask T.R T.nd hr2 hm]))) (fun hp => ?_) (fun hp => bkM_nil (bkM_nil ⟨m, es, _, rfl, rfl, hnd, by omega, hm, ?_⟩)))
    · refine bkM_cons (stM_app (k := 0) (i := 2) (em_pure (P := (· = eD r.e)) (ev_var 3) rfl rfl) rfl rfl (by rw [List.length_map]; omega) (by exact Nat.le_of_ble_eq_true rfl) (fun d e => bkM_nil (bkM_nil ?_)))
      subst e
      refine ⟨plus m r, es ++ [r.e], _, rfl, by rw [List.map_append]; rfl, ?_, by rw [List.length_append, List.length_singleton]; omega, rep_plus T.R hr2 hm, ?_⟩
      · rw [List.nodup_append]
        refine ⟨hnd, by simp, fun x hx y hy => ?_⟩
        rw [List.mem_singleton.mp hy]
        intro z
        subst z
        have h1 := mem_mask T.R T.nd hr2 hm
        rw [decide_eq_true hx] at h1
        unfold canM at hp
        rw [← h1] at hp
        simp at hp
      · rw [← hg, filGo, if_pos hp]
    · rw [← hg, filGo, if_neg (by rw [hp]; decide)]
  · obtain ⟨m, es, u, rfl, rfl, hnd, hl, hm, hg⟩ := hI
    rw [List.drop_length] at hg
    have hg' : m = filGo rows rows 0 := hg
    rw [hg'] at hm
    refine bkX_out (bk_cons (st_ret (ev_tupleL B (EvN.ev (en_sorted hr B (ev_var 2) (alike_eD es) (sortable_eD es) (fun d hd => by obtain ⟨e, _, rfl⟩ := List.mem_map.mp hd; rw [depth_eD]; decide)))) ?_))
    show PyData.tuple _ = PyData.tuple _
    rw [sort_rep T.R T.hi hm hnd]
end
end Q40
end

section
set_option maxRecDepth 100000
set_option maxHeartbeats 4000000
namespace Q40
open PySem PySem.Spec PyProof.Rows L2

/-! ### the law's own list -/
def lawOne (all : List Row) (goal : Nat) (r : Row) (mc : Nat × Nat) : List (Nat × Nat) :=
  (if goal < mc.2 + (all.length - r.i) then [mc] else []) ++ (if mc.2 < goal ∧ lcanM all mc.1 r = true then [(plus mc.1 r, mc.2 + 1)] else [])
def lawGo (all : List Row) (goal : Nat) : List Row → List (Nat × Nat) → List (Nat × Nat)
  | [], found => found
  | r :: rs, found => lawGo all goal rs (found.flatMap (lawOne all goal r))
def lawL (all : List Row) (goal : Nat) : List Nat := ((lawGo all goal all [(0, 0)]).filter fun mc => decide (mc.2 = goal)).map (·.1)
theorem lawGo_snoc (all : List Row) (goal : Nat) : ∀ (rs : List Row) (r : Row) (l : List (Nat × Nat)), lawGo all goal (rs ++ [r]) l = (lawGo all goal rs l).flatMap (lawOne all goal r)
  | [], r, l => rfl
  | x :: rs, r, l => lawGo_snoc all goal rs r _
theorem take_snoc {α : Type} {l : List α} {i : Nat} {x : α} (h : l[i]? = some x) : l.take (i + 1) = l.take i ++ [x] := by
  rw [List.take_add_one, h]; rfl
theorem lawOne_len (all : List Row) (goal : Nat) (r : Row) (mc : Nat × Nat) : (lawOne all goal r mc).length ≤ 2 := by
  unfold lawOne
  rw [List.length_append]
  split <;> split <;> simp
theorem lawOne_last {all : List Row} {goal : Nat} {r : Row} (h : r.i + 1 = all.length) (mc : Nat × Nat) : (lawOne all goal r mc).length ≤ 1 := by
  unfold lawOne
  rw [List.length_append]
  by_cases h1 : goal < mc.2 + (all.length - r.i)
  · rw [if_pos h1, if_neg (fun z => by have := z.1; omega)]; simp
  · rw [if_neg h1]
    split <;> simp
theorem flat_len {α β : Type} (l : List α) (f : α → List β) (c : Nat) (h : ∀ x ∈ l, (f x).length ≤ c) : (l.flatMap f).length ≤ c * l.length := by
  have := flat_le l f c h
  rw [Nat.mul_comm]; exact this
/-- what stands of a partial list -/
structure LOk (rows : List Row) (k : Nat) (l : List (Nat × Nat)) : Prop where
  cnt : ∀ mc ∈ l, mc.2 = (edgesR rows mc.1).length
  bd : ∀ mc ∈ l, ∀ o ∈ rows, has mc.1 o = true → o.i < k
section
variable {n : Nat} {t : Tau} {rows : List Row}
theorem edges_plus (R : RowsOk n t rows) {m k : Nat} {r : Row} (hk : rows[k]? = some r) (hb : ∀ o ∈ rows, has m o = true → o.i < k) : edgesR rows (plus m r) = edgesR rows m ++ [r.e] := by
  have ei := R.ix k r hk
  obtain ⟨h1, h2⟩ := List.getElem?_eq_some_iff.mp hk
  have hs : rows = rows.take k ++ r :: rows.drop (k + 1) := by
    conv => lhs; rw [← List.take_append_drop k rows, drop_at hk]
  have a1 : ∀ o ∈ rows.take k, o.i < k := fun o ho => by
    obtain ⟨j, hj⟩ := List.mem_iff_getElem?.mp ho
    rw [List.getElem?_take] at hj
    by_cases hjk : j < k
    · rw [if_pos hjk] at hj
      rw [R.ix j o hj]; exact hjk
    · rw [if_neg hjk] at hj; cases hj
  have a2 : ∀ o ∈ rows.drop (k + 1), k < o.i := fun o ho => by
    obtain ⟨j, hj⟩ := List.mem_iff_getElem?.mp ho
    rw [List.getElem?_drop] at hj
    rw [R.ix _ o hj]; omega
  have f1 : (rows.take k).filter (has (plus m r)) = (rows.take k).filter (has m) := List.filter_congr fun o ho => by
    rw [has_plus, decide_eq_false (by have := a1 o ho; omega), Bool.or_false]
  have f2 : (rows.drop (k + 1)).filter (has (plus m r)) = [] := List.filter_eq_nil_iff.mpr fun o ho => by
    have g := a2 o ho
    rw [has_plus, decide_eq_false (by omega), Bool.or_false]
    intro z
    have := hb o (List.mem_of_mem_drop ho) z
    omega
  have f3 : (rows.drop (k + 1)).filter (has m) = [] := List.filter_eq_nil_iff.mpr fun o ho => by
    have g := a2 o ho
    intro z
    have := hb o (List.mem_of_mem_drop ho) z
    omega
  have g1 : has (plus m r) r = true := by rw [has_plus]; simp
  have g2 : has m r = false := by
    cases q : has m r with
    | false => rfl
    | true => have := hb r (List.mem_of_getElem? hk) q; omega
  unfold edgesR
  rw [hs, List.filter_append, List.filter_append, List.filter_cons, List.filter_cons, g1, g2, f1, f2, f3]
  simp
theorem LOk.step (R : RowsOk n t rows) {goal k : Nat} {r : Row} {l : List (Nat × Nat)} (h : LOk rows k l) (hk : rows[k]? = some r) : LOk rows (k + 1) (l.flatMap (lawOne rows goal r)) := by
  have ei := R.ix k r hk
  have key : ∀ mc ∈ l.flatMap (lawOne rows goal r), ∃ md ∈ l, mc = md ∨ mc = (plus md.1 r, md.2 + 1) := fun mc hm => by
    obtain ⟨md, h1, h2⟩ := List.mem_flatMap.mp hm
    refine ⟨md, h1, ?_⟩
    unfold lawOne at h2
    rcases List.mem_append.mp h2 with h2 | h2
    · split at h2
      · exact .inl (List.mem_singleton.mp h2)
      · cases h2
    · split at h2
      · exact .inr (List.mem_singleton.mp h2)
      · cases h2
  constructor
  · intro mc hm
    obtain ⟨md, h1, rfl | rfl⟩ := key mc hm
    · exact h.cnt _ h1
    · show md.2 + 1 = (edgesR rows (plus md.1 r)).length
      rw [edges_plus R hk (h.bd md h1), List.length_append, ← h.cnt md h1]; rfl
  · intro mc hm o ho hh
    obtain ⟨md, h1, rfl | rfl⟩ := key mc hm
    · have := h.bd _ h1 o ho hh
      omega
    · rw [has_plus, Bool.or_eq_true, decide_eq_true_eq] at hh
      rcases hh with hh | hh
      · have := h.bd md h1 o ho hh
        omega
      · omega
theorem LOk.zero (rows : List Row) : LOk rows 0 [(0, 0)] := by
  have hz : ∀ o, has 0 o = false := fun o => by unfold has; rw [Nat.zero_testBit]
  constructor
  · intro mc hm
    rw [List.mem_singleton.mp hm]
    unfold edgesR
    rw [List.filter_eq_nil_iff.mpr (fun o _ => by rw [hz]; decide)]
    rfl
  · intro mc hm o _ hh
    rw [List.mem_singleton.mp hm, hz] at hh
    cases hh
theorem lawGo_ok (R : RowsOk n t rows) (goal : Nat) : ∀ k, k ≤ rows.length → LOk rows k (lawGo rows goal (rows.take k) [(0, 0)]) ∧ (lawGo rows goal (rows.take k) [(0, 0)]).length ≤ 2 ^ k
  | 0, _ => ⟨LOk.zero rows, Nat.le_refl _⟩
  | k + 1, h => by
    obtain ⟨h1, h2⟩ := lawGo_ok R goal k (by omega)
    have hk := List.getElem?_eq_getElem (l := rows) (i := k) (by omega)
    rw [take_snoc hk, lawGo_snoc]
    refine ⟨h1.step R hk, ?_⟩
    have := flat_len (lawGo rows goal (rows.take k) [(0, 0)]) (lawOne rows goal rows[k]) 2 fun mc _ => lawOne_len rows goal rows[k] mc
    rw [Nat.pow_succ]
    omega
theorem lawGo_few (R : RowsOk n t rows) (goal : Nat) (h1 : 1 ≤ rows.length) (h10 : rows.length ≤ 10) {k : Nat} (hk : k ≤ rows.length) : (lawGo rows goal (rows.take k) [(0, 0)]).length ≤ 512 := by
  by_cases e : k = rows.length
  · obtain ⟨j, hj⟩ : ∃ j, k = j + 1 := ⟨k - 1, by omega⟩
    subst hj
    have hr := List.getElem?_eq_getElem (l := rows) (i := j) (by omega)
    have h2 := (lawGo_ok R goal j (by omega)).2
    rw [take_snoc hr, lawGo_snoc]
    have := flat_len (lawGo rows goal (rows.take j) [(0, 0)]) (lawOne rows goal rows[j]) 1 fun mc _ => lawOne_last (all := rows) (goal := goal) (by rw [R.ix j _ hr]; exact e) mc
    have h3 : 2 ^ j ≤ 2 ^ 9 := Nat.pow_le_pow_right (by decide) (by omega)
    omega
  · have h2 := (lawGo_ok R goal k hk).2
    have h3 : 2 ^ k ≤ 2 ^ 9 := Nat.pow_le_pow_right (by decide) (by omega)
    omega
end
structure LTab (ps : List Pt) (rows : List Row) : Prop extends Tabl ps rows where
  G : PtsG ps
  few : rows.length ≤ 10
  one : 1 ≤ rows.length
  irr : ∀ i j, ¬ 0 < tau ps i j j
def F_lall : List PyData → PyData → Prop := fun ds r => ∃ (ps : List Pt) (rows : List Row), LTab ps rows ∧ ds = [ptsT ps] ∧ r = .list ((lawL rows (2 * ps.length - 3)).map (encR rows))
theorem bkM_imp {X : Cx} {is : List Nat} {sts : List Stmt} {ρ : DEnv} {cs : List Cont} {D D' : MEnds} (h : BkM X is sts ρ cs D) (h1 : ∀ ρ cs, D.nx ρ cs → D'.nx ρ cs) (h2 : ∀ d cs, D.rt d cs → D'.rt d cs) : BkM X is sts ρ cs D' := fun σ H as E =>
  (h σ H as E).imp (fun _ _ q => by obtain ⟨s, ρ', cs', E', k⟩ := q; exact ⟨s, ρ', cs', E', h1 _ _ k⟩) (fun _ _ q => by obtain ⟨s, cs', d, o, k, r⟩ := q; exact ⟨s, cs', d, o, k, h2 _ _ r⟩) (fun _ _ q => q) fun _ _ q => q
section
variable {P : Program} {w : World} {K : PySem.W.Frag} {mg : Str → Option Value} {base : Heap} {f : Addr} {fd : FuncData}
theorem lfree_encR (rows : List Row) (m : Nat) : lfree (encR rows m) = true := by
  show lfreeAll _ = true
  exact lfree_of fun d hd => by obtain ⟨e, _, rfl⟩ := List.mem_map.mp hd; rfl
theorem len_encR (rows : List Row) (m : Nat) : ((edgesR rows m).map eD).length = (edgesR rows m).length := List.length_map _
theorem ok_law_all_pseudo (Fn : Fun K "_law_all_pseudo" "_law_all_pseudo" s_law_all_pseudo f fd) (B : NoB mg) (G1 : Callee P w K mg base "_law_pairs" 1 F_pairs) (G2 : Callee P w K mg base "_law_can_add" 7 F_lcan) : FnOk P w K mg base CX0 8 f fd ["_law_points"] (spF K F_lall) := by
  refine pure_ok Fn sc_law_all_pseudo (fun ds r h => by obtain ⟨a, b, _, rfl, _⟩ := h; rfl) fun cdv A outer s H E hr ds r h => ?_
  obtain ⟨ps, rows, T, rfl, rfl⟩ := h
  have hlen : (ps.map pD).length = ps.length := List.length_map _
  have hlo := T.lo
  have hhi := T.hi
  have hrl := T.few
  generalize hgoal : 2 * ps.length - 3 = goal
  have hplen : ((pairsN ps.length).map eD).length = rows.length := by rw [List.length_map, ← T.R.prs, List.length_map]
  refine bk_cons (st_tup2 (i := 1) (j := 2) (x := .list [.tuple []]) (y := .int (goal : Int)) (ev_tup (ea_cons (ev_lst (ea_cons (ev_tup ea_nil) ea_nil)) (ea_cons ((ev_sub (ev_mul ev_int (ev_lenT B (ev_var 0)) (.inl (by decide))) ev_int).is (by rw [hlen]; congr 1; omega)) ea_nil))) ?_ sc_law_all_pseudo.nd)
  refine bk_cons (st_set (i := 3) (ev_call G1 hr (by decide) (ea_cons (ev_lenT B (ev_var 0)) ea_nil) ⟨ps.length, by omega, by rw [hlen]; rfl, rfl⟩) ?_ sc_law_all_pseudo.nd)
  refine bk_cons (st_forR B (j := 4) (m := rows.length) ((ev_lenL B (ev_var 3)).is (by rw [hplen])) (by omega) (fun k ρ => ∃ u4 u5 u6, ρ = [some (ptsT ps), some (.list ((lawGo rows goal (rows.take k) [(0, 0)]).map fun mc => encR rows mc.1)), some (.int (goal : Int)), some (.list ((pairsN ps.length).map eD)), u4, u5, u6]) ⟨none, none, none, ?_⟩ (fun k ρ' hk hI => ?_) (fun ρ' hI => ?_) PassesOwn.never sc_law_all_pseudo.nd)
  · have hz : edgesR rows 0 = [] := by
      unfold edgesR
      rw [List.filter_eq_nil_iff.mpr (fun o _ => by unfold has; rw [Nat.zero_testBit]; decide)]
      rfl
    have : encR rows 0 = .tuple [] := by unfold encR; rw [hz]; rfl
    show _ = [some (ptsT ps), some (.list [encR rows 0]), some (.int (goal : Int)), some (.list ((pairsN ps.length).map eD)), none, none, none]
    rw [this]
    rfl
  · obtain ⟨u4, u5, u6, rfl⟩ := hI
    obtain ⟨hok, _⟩ := lawGo_ok T.R goal k (by omega)
    have hfew := lawGo_few T.R goal T.one T.few (k := k) (by omega)
    have hrk := List.getElem?_eq_getElem (l := rows) (i := k) hk
    generalize hr0 : rows[k] = r at hrk
    have hrm : r ∈ rows := List.mem_of_getElem? hrk
    have hri := T.R.ix k r hrk
    have hnext : lawGo rows goal (rows.take (k + 1)) [(0, 0)] = (lawGo rows goal (rows.take k) [(0, 0)]).flatMap (lawOne rows goal r) := by rw [take_snoc hrk, lawGo_snoc]
    rw [hnext]
    generalize lawGo rows goal (rows.take k) [(0, 0)] = fk at hok hfew
    have hpk : (pairsN ps.length)[k]? = some r.e := by rw [← T.R.prs, List.getElem?_map, hrk]; rfl
    refine bk_new (i := 5) (ev_lstN ea_nil rfl) ?_ sc_law_all_pseudo.nd (by exact Nat.le_of_ble_eq_true rfl)
    refine bkX_cons (stM_forL (j := 6) (xs := fk) (enc := fun mc => encR rows mc.1) (em_var 1 rfl rfl) (fun i ρ cs => ∃ u6, ρ = [some (ptsT ps), some (.list (fk.map fun mc => encR rows mc.1)), some (.int (goal : Int)), some (.list ((pairsN ps.length).map eD)), some (.int (k : Int)), none, u6] ∧ cs = [.lst (((fk.take i).flatMap (lawOne rows goal r)).map fun mc => encR rows mc.1)])
      ⟨u6, rfl, rfl⟩ (fun i mc ρ' cs' hi hI => ?_) (fun ρ' cs' hI => ?_) PassesOwn.never sc_law_all_pseudo.nd)
    · obtain ⟨u6, rfl, rfl⟩ := hI
      have hmc : mc ∈ fk := List.mem_of_getElem? hi
      have hc := hok.cnt mc hmc
      have hil := (List.getElem?_eq_some_iff.mp hi).1
      have hsz : ((fk.take i).flatMap (lawOne rows goal r)).length ≤ 2000 := by
        have := flat_len (fk.take i) (lawOne rows goal r) 2 fun mc _ => lawOne_len rows goal r mc
        rw [List.length_take] at this
        omega
      have hnx : (fk.take (i + 1)).flatMap (lawOne rows goal r) = (fk.take i).flatMap (lawOne rows goal r) ++ lawOne rows goal r mc := by
        rw [take_snoc hi, List.flatMap_append, List.flatMap_cons, List.flatMap_nil, List.append_nil]
      rw [hnx]
      have rep := rep_edges rows mc.1
      have hes : ∀ e ∈ edgesR rows mc.1, EdOk ps.length e := fun e he => by
        obtain ⟨o, ho, _, rfl⟩ := (rep e).mp he
        exact ⟨(T.rin ho).1, (T.rin ho).2, T.R.ne o ho⟩
      have hrok : EdOk ps.length r.e := ⟨(T.rin hrm).1, (T.rin hrm).2, T.R.ne r hrm⟩
      -- the second test
      have rest : ∀ kept : List (Nat × Nat), kept.length ≤ 2001 → BkM (bodyCx P w K mg base n_law_all_pseudo "_law_all_pseudo" s_law_all_pseudo f cdv A outer s H E) [5] ([(match defBody s_law_all_pseudo with | [_, _, .For _ _ (_ :: .For _ _ [_, x] _ _ :: _) _ _, _] => x | _ => .Pass ⟨0, 0, 0, 0⟩)]) [some (ptsT ps), some (.list (fk.map fun mc => encR rows mc.1)), some (.int (goal : Int)), some (.list ((pairsN ps.length).map eD)), some (.int (k : Int)), none, some (encR rows mc.1)] [.lst (kept.map fun mc => encR rows mc.1)]
          { nx := fun ρ cs => ∃ u6, ρ = [some (ptsT ps), some (.list (fk.map fun mc => encR rows mc.1)), some (.int (goal : Int)), some (.list ((pairsN ps.length).map eD)), some (.int (k : Int)), none, u6] ∧ cs = [.lst ((kept ++ (if mc.2 < goal ∧ lcanM rows mc.1 r = true then [(plus mc.1 r, mc.2 + 1)] else [])).map fun mc => encR rows mc.1)], rt := fun _ _ => False } := by
        intro kept hkl
        refine bkM_cons (stM_if (p := decide (mc.2 < goal) && lcanM rows mc.1 r) (et_w (ew_and ((et_lt (ev_lenT B (ev_var 6)) (ev_var 2)).is (by rw [len_encR, ← hc, decide_eq_decide]; omega)) fun hlt => ew_and1 (et_val ((ev_call G2 hr (by decide) (ea_cons (ev_var 0) (ea_cons (ev_var 6) (ea_cons (ev_ixL (ev_var 3) (ev_var 4) (atI_map hpk)) ea_nil))) ⟨ps, edgesR rows mc.1, r.e, T.G, by have := edges_len T.R T.hi mc.1; omega, hes, hrok, rfl, rfl⟩).is (by rw [lcan_mask T.R T.nd T.irr hrm rep]))))) (fun hp => ?_) (fun hp => bkM_nil (bkM_nil ⟨_, rfl, ?_⟩)))
        · rw [Bool.and_eq_true, decide_eq_true_eq] at hp
          rw [if_pos hp]
          refine bkM_cons (stM_app (k := 0) (i := 5) (em_pure (P := (· = encR rows (plus mc.1 r))) (Ev.is (d := .tuple ((edgesR rows mc.1).map eD ++ [eD r.e])) (ev_catT (ev_var 6) (ev_tup (ea_cons (ev_ixL (ev_var 3) (ev_var 4) (atI_map hpk)) ea_nil)) ?_) ?_) (lfree_encR rows _) rfl) rfl rfl (by rw [List.length_map]; omega) (by exact Nat.le_of_ble_eq_true rfl) (fun d e => bkM_nil (bkM_nil ⟨_, rfl, ?_⟩)))
          · have := edges_len T.R T.hi mc.1
            rw [len_encR]
            exact Nat.le_of_lt (small1000 (by show (edgesR rows mc.1).length + 1 ≤ 1000; omega))
          · unfold encR
            rw [edges_plus T.R hrk (hok.bd mc hmc)]
            show _ = PyData.tuple _
            rw [List.map_append]
            rfl
          · subst e
            rw [List.map_append]
            rfl
        · rw [Bool.and_eq_false_iff, decide_eq_false_iff_not] at hp
          rw [if_neg (fun z => by rcases hp with hp | hp; exact hp z.1; rw [z.2] at hp; cases hp), List.append_nil]
      refine bkM_cons (stM_if (p := decide (goal < mc.2 + (rows.length - r.i))) ((et_gt (ev_sub (ev_add (ev_lenT B (ev_var 6)) (ev_lenL B (ev_var 3))) (ev_var 4)) (ev_var 2)).is (by rw [len_encR, hplen, ← hc, hri, decide_eq_decide]; omega)) (fun hp => ?_) (fun hp => bkM_nil ?_))
      · rw [decide_eq_true_eq] at hp
        refine bkM_cons (stM_app (k := 0) (i := 5) (em_pure (P := (· = encR rows mc.1)) (ev_var 6) (lfree_encR rows _) rfl) rfl rfl (by rw [List.length_map]; omega) (by exact Nat.le_of_ble_eq_true rfl) (fun d e => bkM_nil ?_))
        subst e
        have := rest ((fk.take i).flatMap (lawOne rows goal r) ++ [mc]) (by rw [List.length_append, List.length_singleton]; omega)
        unfold lawOne at this ⊢
        rw [if_pos hp, ← List.append_assoc]
        rw [List.map_append] at this
        exact bkM_imp this (fun _ _ q => q) fun _ _ q => q.elim
      · rw [decide_eq_false_iff_not] at hp
        have := rest ((fk.take i).flatMap (lawOne rows goal r)) (by omega)
        refine bkM_imp this (fun _ _ q => ?_) fun _ _ q => q.elim
        unfold lawOne at q ⊢
        rw [if_neg hp, List.nil_append]
        exact q
    · obtain ⟨u6, rfl, rfl⟩ := hI
      rw [List.take_length]
      exact bkX_out (bk_cons (st_set (i := 1) (ev_var 5) (bk_nil ⟨_, _, _, rfl⟩) sc_law_all_pseudo.nd))
  · obtain ⟨u4, u5, u6, rfl⟩ := hI
    rw [List.take_length]
    obtain ⟨hok, _⟩ := lawGo_ok T.R goal rows.length (Nat.le_refl _)
    have hfew := lawGo_few T.R goal T.one T.few (k := rows.length) (Nat.le_refl _)
    rw [List.take_length] at hok hfew
    unfold lawL
    generalize lawGo rows goal rows [(0, 0)] = fk at hok hfew
    refine bk_cons (st_ret (EvN.ev (en_lcL (own := [("_law_edges", 6)]) (xs := fk) (enc := fun mc => encR rows mc.1) (fun mc => decide (mc.2 = goal)) (fun mc => encR rows mc.1) (fun mc => [some (ptsT ps), some (.list (fk.map fun mc => encR rows mc.1)), some (.int (goal : Int)), some (.list ((pairsN ps.length).map eD)), u4, u5, some (encR rows mc.1)]) (ev_var 1)
      (fun mc _ => tg_name (by decide)) (fun mc hmc _ _ _ _ _ => ets_one ((et_eq hr (ev_lenT B (ev_var 6)) (ev_var 2) (shaped_int _) (shaped_int _)).is (by rw [len_encR, ← hok.cnt mc hmc, eqv_int, decide_eq_decide]; omega))) (fun mc _ _ _ _ _ _ _ => Ev.evX (ev_var 6) (lfree_encR rows _)) (by omega)
      (fun _ _ _ _ _ => pg_name (i := 6) sc_law_all_pseudo.nd rfl (.inl rfl)) (blkOk_by (N := n_law_all_pseudo) (sc := defScope s_law_all_pseudo) (by decide +kernel)) sc_law_all_pseudo.nd)) ?_)
    show PyData.list _ = PyData.list _
    rw [List.map_map]
    rfl
end
end Q40
end

section
set_option maxRecDepth 100000
set_option maxHeartbeats 4000000
namespace Q40
open PySem PySem.Spec PyProof.Rows L2

/-! ### tuples in tuples as keys -/
mutual
def nk : PyData → NestedKey
  | .int n => .num n
  | .tuple xs => .tup (nks xs)
  | _ => .none
def nks : List PyData → List NestedKey
  | [] => []
  | x :: xs => nk x :: nks xs
end
mutual
def ti : PyData → Bool
  | .int _ => true
  | .tuple xs => tis xs
  | _ => false
def tis : List PyData → Bool
  | [] => true
  | x :: xs => ti x && tis xs
end
mutual
theorem nk_inj : ∀ (x y : PyData), ti x = true → ti y = true → nk x = nk y → x = y
  | .int a, .int b, _, _, h => by simp only [nk, NestedKey.num.injEq] at h; rw [h]
  | .int a, .tuple ys, _, _, h => by simp [nk] at h
  | .tuple xs, .int b, _, _, h => by simp [nk] at h
  | .tuple xs, .tuple ys, h1, h2, h => by
    simp only [nk, NestedKey.tup.injEq] at h
    rw [nks_inj xs ys (by simpa only [ti] using h1) (by simpa only [ti] using h2) h]
  | .none, _, h1, _, _ => by simp [ti] at h1
  | .bool _, _, h1, _, _ => by simp [ti] at h1
  | .str _, _, h1, _, _ => by simp [ti] at h1
  | .list _, _, h1, _, _ => by simp [ti] at h1
  | .dict _, _, h1, _, _ => by simp [ti] at h1
  | .int _, .none, _, h2, _ => by simp [ti] at h2
  | .int _, .bool _, _, h2, _ => by simp [ti] at h2
  | .int _, .str _, _, h2, _ => by simp [ti] at h2
  | .int _, .list _, _, h2, _ => by simp [ti] at h2
  | .int _, .dict _, _, h2, _ => by simp [ti] at h2
  | .tuple _, .none, _, h2, _ => by simp [ti] at h2
  | .tuple _, .bool _, _, h2, _ => by simp [ti] at h2
  | .tuple _, .str _, _, h2, _ => by simp [ti] at h2
  | .tuple _, .list _, _, h2, _ => by simp [ti] at h2
  | .tuple _, .dict _, _, h2, _ => by simp [ti] at h2
theorem nks_inj : ∀ (xs ys : List PyData), tis xs = true → tis ys = true → nks xs = nks ys → xs = ys
  | [], [], _, _, _ => rfl
  | [], y :: ys, _, _, h => by simp [nks] at h
  | x :: xs, [], _, _, h => by simp [nks] at h
  | x :: xs, y :: ys, h1, h2, h => by
    rw [tis, Bool.and_eq_true] at h1 h2
    simp only [nks, List.cons.injEq] at h
    rw [nk_inj x y h1.1 h2.1 h.1, nks_inj xs ys h1.2 h2.2 h.2]
end
section
variable {X : Cx} {pins : List (Addr × Obj)} {σ : L2.St} {H : Hp} {s : Shared}
mutual
theorem nested_of (I : Inv X pins σ H s) : ∀ (d : PyData) (v : V) (u : Value), ti d = true → Dp X.K H v d → RelV v u → NestedIs s.heap (nk d) u
  | .int n, _, _, _, h, r => by
    cases h
    obtain ⟨t, rfl⟩ := r
    exact .int n t
  | .tuple ds, _, _, t, h, r => by
    cases h with
    | tup hs ha =>
      cases r
      obtain ⟨its, rv, ⟨o, ho, hc, n, hd⟩, _⟩ := I.tuple hs
      exact .tup ho hc hd (by simpa using nested_all I ds _ its (by simpa only [ti] using t) ha rv)
  | .none, _, _, t, _, _ => by simp [ti] at t
  | .bool _, _, _, t, _, _ => by simp [ti] at t
  | .str _, _, _, t, _, _ => by simp [ti] at t
  | .list _, _, _, t, _, _ => by simp [ti] at t
  | .dict _, _, _, t, _, _ => by simp [ti] at t
theorem nested_all (I : Inv X pins σ H s) : ∀ (ds : List PyData) (vs : List V) (us : List Value), tis ds = true → DpAll X.K H vs ds → Vals vs us → NestedAll s.heap (nks ds) us
  | [], _, _, _, h, r => by
    cases h; cases r; exact .nil
  | d :: ds, _, _, t, h, r => by
    rw [tis, Bool.and_eq_true] at t
    cases h with
    | cons h1 h2 =>
      cases r with
      | cons r1 r2 => exact .cons (nested_of I d _ _ t.1 h1 r1) (nested_all I ds _ _ t.2 h2 r2)
end
end
/-- a key: a tuple of such, not deep -/
def KeyD (d : PyData) : Prop := ti d = true ∧ (nk d).depth ≤ 8 ∧ ∃ xs, d = .tuple xs

/-! ### a dict by such keys -/
def DictK (P : Program) (w : World) (ds : List PyData) (ks : List Addr) (S : Addr) : Heap → Prop := fun h => (S == sysModules) = false ∧ ds.length ≤ 100000 ∧ ∃ xs : List (NestedKey × Addr × Value), xs.map (·.1) = ds.map nk ∧ xs.map (·.2.1) = ks ∧ (xs.map (·.1)).Nodup ∧
  ∃ o es ep, h.get? S = some o ∧ o.ExactDict ∧ o.data = .dict es ep ∧ es.toList = xs.map (entryOfKey (nestedKind P w))
theorem dictK_obj {P : Program} {w : World} {H : Hp} {h : Heap} {ds : List PyData} {ks : List Addr} {S : Addr} (q : DictK P w ds ks S h) : ObjOk P w H h S (.ext (DictK P w ds ks S)) := by
  obtain ⟨_, _, _, _, _, _, o, _, _, ho, _⟩ := id q
  refine ⟨q, ⟨o, ho⟩, fun h1 h2 p k => ?_⟩
  obtain ⟨a, b, xs, c1, c2, c3, o', es, ep, h3, h4⟩ := p
  exact ⟨a, b, xs, c1, c2, c3, o', es, ep, k _ h3, h4⟩
theorem atKey_some {xs : List (NestedKey × Addr × Value)} {k : NestedKey} : (atKey xs k).isSome = decide (k ∈ xs.map (·.1)) := by
  unfold atKey
  rw [Option.isSome_map, Bool.eq_iff_iff, List.find?_isSome, decide_eq_true_eq, List.mem_map]
  constructor
  · rintro ⟨x, h1, h2⟩
    exact ⟨x, h1, of_decide_eq_true h2⟩
  · rintro ⟨x, h1, h2⟩
    exact ⟨x, h1, decide_eq_true h2⟩
theorem mem_nk {ds : List PyData} {d : PyData} (hds : ∀ x ∈ ds, KeyD x) (hd : KeyD d) : nk d ∈ ds.map nk ↔ d ∈ ds := by
  rw [List.mem_map]
  constructor
  · rintro ⟨x, h1, h2⟩
    rw [← nk_inj x d (hds x h1).1 hd.1 h2]; exact h1
  · intro h
    exact ⟨d, h, rfl⟩
section
variable {X : Cx} {pins : List (Addr × Obj)} {σ : L2.St} {H : Hp} {s : Shared} {ds : List PyData} {ks : List Addr} {S : Addr}
theorem keys_is (I : Inv X pins σ H s) : ∀ {ds : List PyData} {xs : List (NestedKey × Addr × Value)}, (∀ d ∈ ds, KeyD d) → DpAll X.K H ((xs.map (·.2.1)).map V.ref) ds → xs.map (·.1) = ds.map nk → ∀ x ∈ xs, (nestedKind X.prog X.w).is s.heap x.1 x.2.1
  | [], [], _, _, _, _, h => by cases h
  | d :: ds, [], _, _, e, _, _ => by simp at e
  | [], x :: xs, _, _, e, _, _ => by simp at e
  | d :: ds, x :: xs, hk, hd, e, y, hy => by
    rw [List.map_cons, List.map_cons, List.cons.injEq] at e
    rw [List.map_cons, List.map_cons] at hd
    cases hd with
    | cons h1 h2 =>
      rcases List.mem_cons.mp hy with rfl | hy
      · have q := hk d List.mem_cons_self
        refine ⟨?_, by rw [e.1]; exact q.2.1⟩
        rw [e.1]
        exact nested_of I d _ _ q.1 h1 rfl
      · exact keys_is I (fun z hz => hk z (List.mem_cons_of_mem _ hz)) h2 e.2 y hy
theorem dictK_full (I : Inv X pins σ H s) (hS : H S = some (.ext (DictK X.prog X.w ds ks S))) (hk : ∀ d ∈ ds, KeyD d) (hd : DpAll X.K H (ks.map V.ref) ds) :
    ∃ xs : List (NestedKey × Addr × Value), xs.map (·.1) = ds.map nk ∧ xs.map (·.2.1) = ks ∧ xs.length = ds.length ∧ (S == sysModules) = false ∧ ds.length ≤ 100000 ∧ s.heap.DictOfH (nestedKind X.prog X.w) S xs := by
  obtain ⟨⟨h1, hz, xs, e1, e2, e3, o, es, ep, ho, hx, hdat, hes⟩, _⟩ := I.hok S _ hS
  refine ⟨xs, e1, e2, ?_, h1, hz, o, es, ep, ho, hx, hdat, hes, keys_is I hk (by rw [e2]; exact hd) e1, e3⟩
  have := congrArg List.length e1
  rw [List.length_map, List.length_map] at this
  exact this
end
section
variable {X : Cx}
theorem room8 {k : Nat} (hr : Room k X.A) : (nestedKind X.prog X.w).room X.A.in1 := by
  have := hr.un
  show X.A.in1.units + 8 < cLine
  have : X.A.in1.units ≤ X.A.units + 1 := by first | exact Nat.le_refl _ | (simp [Around.in1] <;> omega)
  omega
/-- key not in dict -/
def rNinK (X : Cx) : R2 := fun u v H Q => ∃ (S : Addr) (ks : List Addr) (ds : List PyData) (d : PyData), v = .ref S ∧ H S = some (.ext (DictK X.prog X.w ds ks S)) ∧ (∀ d ∈ ds, KeyD d) ∧ DpAll X.K H (ks.map V.ref) ds ∧ Dp X.K H u d ∧ KeyD d ∧ ∃ b : Bool, (b = true ↔ d ∈ ds) ∧ Q (.bl (!b)) H
theorem op_ninK {k : Nat} (hr : Room k X.A) : OpR X (compareOp .NotIn) (rNinK X) := by
  intro pins s σ H x y v u Q I rx ry h
  obtain ⟨S, ks, ds, d, rfl, hS, hk, hd, hx, hkd, b, hb, q⟩ := h
  cases ry
  obtain ⟨xs0, rfl⟩ := hkd.2.2
  obtain ⟨a, ys, rfl, _, _⟩ := dp_tup hx
  cases rx
  obtain ⟨xs, e1, e2, _, h1, _, hD⟩ := dictK_full I hS hk hd
  have hkey : (nestedKind X.prog X.w).is s.heap (nk (.tuple xs0)) a := ⟨nested_of I _ _ _ hkd.1 hx rfl, hkd.2.1⟩
  refine notIn_keyed (room8 hr) hkey h1 ⟨xs, hD, rfl⟩ ?_
  refine ⟨_, H, I.tok _, ?_, q⟩
  have e : (valueAt (pairsH xs) (nk (.tuple xs0))).isSome = b := by
    rw [valueAt_pairsH, Option.isSome_map, atKey_some, e1, Bool.eq_iff_iff, decide_eq_true_eq, hb]
    exact mem_nk hk hkd
  rw [e]
  rfl
/-- dict[key] = v, the key not there -/
def rSetK (X : Cx) : TSet := fun o i v H Q => ∃ (S a : Addr) (ks : List Addr) (ds : List PyData) (d : PyData), o = .ref S ∧ i = .ref a ∧ H S = some (.ext (DictK X.prog X.w ds ks S)) ∧ (∀ d ∈ ds, KeyD d) ∧ DpAll X.K H (ks.map V.ref) ds ∧ Dp X.K H (.ref a) d ∧ KeyD d ∧ d ∉ ds ∧ ds.length < 100000 ∧
  Q (upd H S (.ext (DictK X.prog X.w (ds ++ [d]) (ks ++ [a]) S)))
theorem set_keyK {k : Nat} (hr : Room k X.A) : PSet X (rSetK X) := by
  intro pins s σ H o i v ov iv u Q I ro ri rv h
  obtain ⟨S, a, ks, ds, d, rfl, rfl, hS, hk, hd, hx, hkd, hn, hlt, q⟩ := h
  cases ro
  cases ri
  obtain ⟨xs0, e0⟩ := hkd.2.2
  obtain ⟨xs, e1, e2, el, h1, hz, hD⟩ := dictK_full I hS hk hd
  have hkey : (nestedKind X.prog X.w).is s.heap (nk d) a := ⟨nested_of I _ _ _ hkd.1 hx rfl, hkd.2.1⟩
  have hno : atKey xs (nk d) = none := by
    have := atKey_some (xs := xs) (k := nk d)
    rw [e1, decide_eq_false (fun z => hn ((mem_nk hk hkd).mp z))] at this
    cases q : atKey xs (nk d) with
    | none => rfl
    | some p => rw [q] at this; cases this
  refine wpAny_setItem_heap (hsz := by rw [el]; exact Nat.le_trans (Nat.le_of_lt hlt) (by decide)) (room8 hr) hkey hD fun h' hm hsb => ?_
  rw [storedH_new hno] at hm
  obtain ⟨o', es, ep, ho', hx', hd', hes', _, hnd⟩ := hm
  have hnew : DictK X.prog X.w (ds ++ [d]) (ks ++ [a]) S h' := ⟨h1, by rw [List.length_append, List.length_singleton]; omega, _, by rw [List.map_append, List.map_append, e1]; rfl, by rw [List.map_append, e2]; rfl, hnd, o', es, ep, ho', hx', hd', hes'⟩
  exact ⟨_, I.write (t' := s.toks + (nestedKind X.prog X.w).draws (nk d)) (x := S) (e := S) (by rw [hS]; exact True.intro) (.inl rfl) (fun b u hb hu => (hsb.2 b hb).trans hu) ⟨_, ho'⟩ (dictK_obj hnew), q⟩
end
end Q40
end

section
set_option maxRecDepth 100000
set_option maxHeartbeats 4000000
namespace Q40
open PySem PySem.Spec PyProof.Rows L2

section
variable {X : Cx} {is : List Nat} {ρ : DEnv} {cs : List Cont} {D : MEnds} {a c e kx : Expr} {d : PyData} {ds : List PyData} {pos pt : Pos} {body : List Stmt} {p : Bool}
theorem Owns.ext {K : PySem.W.Frag} {H F : Hp} {as : List Addr} {k : Nat} {mkO : List PyData → List Addr → Addr → Heap → Prop} (h : Owns K H F as cs) (hk : cs[k]? = some (.ext mkO ds)) : ∃ S ks, as[k]? = some S ∧ H S = some (.ext (mkO ds ks S)) ∧ DpAll K F (ks.map V.ref) ds := by
  obtain ⟨S, h1, ks, h2, h3⟩ := Owns.get h hk
  exact ⟨S, ks, h1, h2, h3⟩
/-- key not in the owned dict -/
theorem emt_nin {k i kr : Nat} {x : Str} {px : Pos} (hr : Room kr X.A) (ha : Ev X a (fullD ρ is cs) d) (hk : is[k]? = some i) (hcs : cs[k]? = some (.ext (DictK X.prog X.w) ds)) (hl : i < ρ.length) (hks : ∀ d ∈ ds, KeyD d) (hd : KeyD d) (b : Bool) (hb : b = true ↔ d ∈ ds)
    (hN : X.N[i]? = some x := by rfl) (hv : Vis X.env.scope x := by first | exact Or.inl rfl | exact Or.inr (Or.inl rfl) | exact Or.inr (Or.inr rfl)) (hdb : (x == ("__debug__" : Str)) = false := by decide)
    (hcd : (x == ("__classdict__" : Str)) = false := by decide) : EvMT X is (.Compare a [.NotIn] [.Name x px] pos) ρ cs (· = !b) := fun σ H as E Q q =>
  TAt.of (pt_cmpR (op_ninK hr) eat (pe_var hN hv hdb hcd) (by rfl)) (ha σ H E.full _ fun u H1 s1 d1 => by
    have E1 := E.same s1
    obtain ⟨S, ks, hS, h2, h3⟩ := Owns.ext E1.own hcs
    have hσ := InSl.get E1.sl hk hS (by rw [E1.rest.len]; exact hl)
    exact ⟨.ref S, hσ, S, ks, ds, d, rfl, h2, hks, dps_same same_dels _ _ h3, d1, hd, b, hb, !b, rfl, q _ H1 rfl (same_dels2 s1) E1⟩)
/-- dict[key] = True -/
theorem stM_key {k i kr jj : Nat} {x : Str} {px psb pv : Pos} {b : Bool} (hr : Room kr X.A) (ha : Ev X a (fullD ρ is cs) d) (hf : lfree d = true) (hk : is[k]? = some i) (hcs : cs[k]? = some (.ext (DictK X.prog X.w) ds)) (hl : i < ρ.length) (hks : ∀ d ∈ ds, KeyD d) (hd : KeyD d) (hn : d ∉ ds) (hz : ds.length < 100000)
    (kk : D.nx ρ (cs.set k (.ext (DictK X.prog X.w) (ds ++ [d]))))
    (hN : X.N[i]? = some x := by rfl) (hv : Vis X.env.scope x := by first | exact Or.inl rfl | exact Or.inr (Or.inl rfl) | exact Or.inr (Or.inr rfl)) (hdb : (x == ("__debug__" : Str)) = false := by decide)
    (hcd : (x == ("__classdict__" : Str)) = false := by decide)
    (hasg : ∀ v, assign (.Subscript (.Name x px) a psb) X.env v = (do
      let ov ← holding [v] (eval (.Name x px) X.env)
      let iv ← holding [v, ov] (eval a X.env)
      standAt psb
      holding [v, ov, iv] (setItem ov iv v)
      release [v, ov, iv] []) := by intro _; rfl)
    (hs : swapsWithSole [.Subscript (.Name x px) a psb] (.Constant (.bool b) jj pv) pos.line X.env = pure false := by rfl) (hw : swappedStores [.Subscript (.Name x px) a psb] (.Constant (.bool b) jj pv) X.env = pure none := by rfl)
    (h1 : (assignEach [.Subscript (.Name x px) a psb] X.env).map (·.2) = [assign (.Subscript (.Name x px) a psb) X.env] := by rfl) :
    StM X is (.Assign [.Subscript (.Name x px) a psb] (.Constant (.bool b) jj pv) pos) ρ cs D := fun σ H as E => by
  obtain ⟨S, ks0, hS, _, _⟩ := Owns.ext E.own hcs
  have hσ := InSl.get E.sl hk hS (by rw [E.rest.len]; exact hl)
  refine SAt.of (ps_asg pe_bl (pg_sub (pe_var hN hv hdb hcd) eat (set_keyK hr) hasg) hs hw h1) ?_
  refine ⟨.ref S, hσ, ha σ H E.full _ fun u H1 s1 d1 => ?_⟩
  have E1 := E.same s1
  obtain ⟨S1, ks, hS1, h2, h3⟩ := Owns.ext E1.own hcs
  have e1 : S1 = S := Option.some.inj (hS1.symm.trans hS)
  subst e1
  have hm := List.mem_of_getElem? hS1
  obtain ⟨xs0, e0⟩ := hd.2.2
  have d1' := d1
  rw [e0] at d1'
  obtain ⟨t, ys, rfl, _, _⟩ := dp_tup d1'
  refine ⟨S1, t, ks, ds, d, rfl, rfl, h2, hks, dps_same same_dels _ _ h3, d1, hd, hn, hz, ?_⟩
  have ed := dels_upd (H := H1) (o := .ext (DictK X.prog X.w (ds ++ [d]) (ks ++ [t]) S1)) hm
  refine ⟨by rw [ed]; exact same_dels2 s1, ρ, _, ⟨by rw [ed]; exact E1.rest, E1.sl, ?_, E1.nd⟩, kk⟩
  rw [ed]
  refine Owns.put (frz_updO h2 fun _ _ z => by cases z) E1.own E1.nd hS1 (fun b _ hb => upd_ne hb) ⟨ks ++ [t], upd_same, ?_⟩
  rw [List.map_append]
  exact dps_app h3 (dps_one (dp_dels E1.noTup hf d1))
/-- while, beside owned lists -/
theorem stM_while (I : Nat → DEnv → List Cont → Prop) {m0 : Nat} (h0 : I m0 ρ cs) (hs : ∀ m ρ' cs', I m ρ' cs' → ∃ p, EvT X c (fullD ρ' is cs') p ∧ (p = true → BkM X is body ρ' cs' { D with nx := fun ρ2 cs2 => ∃ m', m' < m ∧ I m' ρ2 cs2 }) ∧ (p = false → D.nx ρ' cs'))
    (hp : PassesOwn (model X.prog X.w) X.A X.env X.xe) : StM X is (.While c body [] pos) ρ cs D := fun σ H as E =>
  SAt.of (ps_while hp tat bat) ⟨fun m σ' H' => Same (dels H as) (dels H' as) ∧ ∃ ρ' cs', EnvM X.K H' σ' is as ρ' cs' ∧ I m ρ' cs', ⟨m0, Same.refl _, ρ, cs, E, h0⟩, fun m σ' H' q => by
    obtain ⟨s1, ρ', cs', E', hI⟩ := q
    obtain ⟨p, hc, h1, h2⟩ := hs m ρ' cs' hI
    refine hc σ' H' E'.full _ fun H2 s2 => ?_
    cases p with
    | true =>
      refine iteT ⟨fun σ2 H3 => Same (dels H as) (dels H3 as) ∧ ∃ ρ2 cs2, EnvM X.K H3 σ2 is as ρ2 cs2 ∧ ∃ m', m' < m ∧ I m' ρ2 cs2, fun σ2 H3 q => ?_, ?_⟩
      · obtain ⟨s3, ρ2, cs2, E2, m', hm, hI'⟩ := q
        exact ⟨m', hm, s3, ρ2, cs2, E2, hI'⟩
      · exact ((h1 rfl).at (E'.same s2) (s1.trans (same_dels2 s2))).imp (fun _ _ q => q) (fun _ _ q => q) (fun _ _ q => q.elim) fun _ _ q => q.elim
    | false => exact iteF ⟨s1.trans (same_dels2 s2), ρ', cs', E'.same s2, h2 rfl⟩⟩
/-- name += an int -/
theorem stM_inc {i : Nat} {n : Str} {x y : Int} (h0 : ρ[i]? = some (some (.int x))) (h : Ev X e (fullD ρ is cs) (.int y)) (k : D.nx (ρ.set i (some (.int (x + y)))) cs) (hN : X.N.Nodup) (hni : i ∉ is := by decide) (hi : X.N[i]? = some n := by rfl) (hx : Loc X.env.scope n := by first | exact .inl rfl | exact .inr rfl)
    (hf : X.fn n = true ∨ X.env.scope.names.lookup n = some .local := by first | exact .inl rfl | exact .inr rfl) : StM X is (.AugAssign (.Name n pt) .Add e pos) ρ cs D := fun σ H as E => by
  obtain ⟨v, h1, h2⟩ := E.rest.at_ i _ h0
  cases dp_int h2
  refine SAt.of (ps_aug (i := i) hN hi hx eat ip_add hf) ⟨_, h1, h σ H E.full _ fun w H1 s1 d1 => ?_⟩
  cases dp_int d1
  exact ⟨_, _, rfl, rfl, same_dels2 s1, _, cs, (E.same s1).set hni (.int _), k⟩
end
/-! {key: True} -/
def tDict1 (X : Cx) (te tv : TE) : TE := fun σ H Q => ∀ p, H p = none → te σ (upd H p (.ext (DictK X.prog X.w [] [] p))) fun x H2 => tv σ H2 fun _ H3 => H3 p = some (.ext (DictK X.prog X.w [] [] p)) ∧ ∃ a d, x = .ref a ∧ Dp X.K H3 x d ∧ KeyD d ∧ Q (.ref p) (upd H3 p (.ext (DictK X.prog X.w [d] [a] p)))
theorem dictK_new {P : Program} {w : World} (h : Heap) (hb : sysModules < h.objs.size) : DictK P w [] [] h.objs.size (h.push { cls := .type "dict", data := .dict #[] }) :=
  ⟨beq_eq_false_iff_ne.mpr (Nat.ne_of_gt hb), Nat.zero_le _, [], rfl, rfl, List.nodup_nil, _, #[], 0, Heap.get?_push_size _ rfl, ⟨rfl, rfl, rfl⟩, rfl, rfl⟩
theorem pe_dict1 {X : Cx} {kx vx : Expr} {te tv : TE} {kr : Nat} {pos : Pos} (hr : Room kr X.A) (hk : PE X kx te) (hv : PE X vx tv)
    (hsh : (evalEachOpt [some kx] X.env).zip ((evalEach [vx] X.env).map fun v => do let x ← v; standAt pos; pure x) = [(eval kx X.env, (do let x ← eval vx X.env; standAt pos; pure x : Sem Value))].map fun p => (some p.1, p.2) := by rfl) : PE X (.Dict [some kx] [vx] pos) (tDict1 X te tv) := by
  refine ⟨fun pins s σ H Q I q => ?_⟩
  have hn := I.hok.fresh (Nat.le_refl s.heap.objs.size)
  have I1 := I.laid (a := s.heap.objs.size) (o := .ext (DictK X.prog X.w [] [] s.heap.objs.size)) (h' := s.heap.push { cls := .type "dict", data := .dict #[] }) (t' := s.toks) (fun _ _ q => Heap.get?_push_of_some _ q) (Nat.le_refl _) (dictK_obj (dictK_new s.heap I.big))
  have hroom : (nestedKind X.prog X.w).room X.A := by
    have := hr.un
    show X.A.units + 8 < cLine
    omega
  rw [arm_eval_Dict, hsh, dictDisplay_pairs _ (by simp) (by show 1 < 17; decide)]
  refine wpAny_bind (wpAny_standAt (wpAny_bind (wpAny_subDictH (knd := nestedKind X.prog X.w) hroom (by show 1 ≤ 15; decide) ?_)))
  refine evalPairs_cons (thn (hk.run pins _ σ _ _ I1 (q _ hn)) fun u s1 ⟨x, H2, I2, rx, q2⟩ => wpAny_bind (thn (hv.run pins s1 σ H2 _ I2 q2) fun w2 s2 ⟨y, H3, I3, ry, e3, a, d, ex, hd, hkd, q3⟩ => wpAny_bind (wpAny_standAt (wpAny_pure (evalPairs_nil ?_)))))
  subst ex
  cases rx
  have hkey : (nestedKind X.prog X.w).is s2.heap (nk d) a := ⟨nested_of I3 _ _ _ hkd.1 hd rfl, hkd.2.1⟩
  obtain ⟨⟨hsys, _, xs, f1, _, _, o, es, ep, ho, hx, hdat, hes⟩, _⟩ := I3.hok _ _ e3
  have hx0 : xs = [] := by
    cases xs with
    | nil => rfl
    | cons x xs => simp at f1
  subst hx0
  refine ⟨[(nk d, a, w2)], ⟨rfl, rfl, hkey, True.intro⟩, ⟨o, es, ep, ho, hx, hdat, hes, (fun _ z => by cases z), List.nodup_nil⟩, fun h' tk hm hsb => wpAny_pure ?_⟩
  obtain ⟨o', es', ep', ho', hx', hd', hes', _, hnd⟩ := hm
  have hnew : DictK X.prog X.w [d] [a] s.heap.objs.size h' := ⟨hsys, by show 1 ≤ 100000; decide, _, rfl, rfl, hnd, o', es', ep', ho', hx', hd', hes'⟩
  exact ⟨.ref s.heap.objs.size, _, I3.write (t' := tk) (x := s.heap.objs.size) (e := s.heap.objs.size) (by rw [e3]; exact True.intro) (.inl rfl) (fun b u hb hu => (hsb.2 b hb).trans hu) ⟨_, ho'⟩ (dictK_obj hnew), rfl, q3⟩
/-- s, a = {key: True}, an int, with plain names -/
theorem bkX_dict {X : Cx} {is : List Nat} {sts : List Stmt} {ρ : DEnv} {cs : List Cont} {DD : DEnds} {kx ex : Expr} {d : PyData} {n : Int} {i j : Nat} {nm nj : Str} {kt k2 jb kr : Nat} {pa pb pc pd pe pv pos : Pos} {bv : Bool} (hr : Room kr X.A) (hk : Ev X kx (fullD ρ is cs) d) (hf : lfree d = true) (hkd : KeyD d) (he : ∀ ρ, Ev X ex ρ (.int n))
    (k : BkX X (i :: is) sts (ρ.set j (some (.int n))) (.ext (DictK X.prog X.w) [d] :: cs) DD) (hN : X.N.Nodup) (h0 : ρ[i]? = some none) (hni : i ∉ is := by decide) (hnj : j ∉ i :: is := by decide) (hc : X.calm = true := by rfl)
    (hi : X.N[i]? = some nm := by rfl) (hj : X.N[j]? = some nj := by rfl) (hij : i ≠ j := by decide) (hx : X.env.scope.names.lookup nm = some .local := by rfl) (hy : X.env.scope.names.lookup nj = some .local := by rfl)
    (hsh : (evalEachOpt [some kx] X.env).zip ((evalEach [(.Constant (.bool bv) jb pv : Expr)] X.env).map fun v => do let x ← v; standAt pd; pure x) = [(eval kx X.env, (do let x ← eval (.Constant (.bool bv) jb pv) X.env; standAt pd; pure x : Sem Value))].map fun p => (some p.1, p.2) := by rfl)
    (hsa : starEach [.Dict [some kx] [.Constant (.bool bv) jb pv] pd, ex] X.env = (false, eval (.Dict [some kx] [.Constant (.bool bv) jb pv] pd) X.env) :: starEach [ex] X.env := by rfl) (hsb : starEach [ex] X.env = [(false, eval ex X.env)] := by rfl)
    (hw : swappedStores [.Tuple [.Name nm pa, .Name nj pb] kt pc] (.Tuple [.Dict [some kx] [.Constant (.bool bv) jb pv] pd, ex] k2 pe) X.env = pure (some [nm, nj]) := by rfl) (hs : swapsWithSole [.Tuple [.Name nm pa, .Name nj pb] kt pc] (.Tuple [.Dict [some kx] [.Constant (.bool bv) jb pv] pd, ex] k2 pe) pos.line X.env = pure false := by rfl) :
    BkX X is (.Assign [.Tuple [.Name nm pa, .Name nj pb] kt pc] (.Tuple [.Dict [some kx] [.Constant (.bool bv) jb pv] pd, ex] k2 pe) pos :: sts) ρ cs DD := fun σ H as E H0 hn0 s0 => by
  refine BAt.of (pss_cons (ps_par (i := i) (j := j) hc hN hi hj hij hx hy (pa_cons (pe_dict1 hr eat pe_bl hsh) (pa_cons eat pa_nil hsb) hsa) hw hs) bat) ?_
  refine fun p hp => hk σ _ (E.full.same (same_upd hp)) _ fun u H1 s1 d1 => ?_
  have hpa : p ∉ as := fun z => by
    obtain ⟨o, q, _⟩ := Owns.lst E.own p z
    rw [hp] at q; cases q
  have e1 := s1 _ _ (upd_same (H := H) (a := p) (o := .ext (DictK X.prog X.w [] [] p)))
  obtain ⟨xs0, e0⟩ := hkd.2.2
  have d1' := d1
  rw [e0] at d1'
  obtain ⟨t, ys, rfl, _, _⟩ := dp_tup d1'
  refine ⟨e1, t, d, rfl, d1, hkd, ?_⟩
  -- after the display
  have sH : Same H H1 := (same_upd hp).trans s1
  have E1 := E.same sH
  have sU : Same H (upd H1 p (.ext (DictK X.prog X.w [d] [t] p))) := same_mut sH hp
  have hfr : Same (dels H1 (p :: as)) (dels (upd H1 p (.ext (DictK X.prog X.w [d] [t] p))) (p :: as)) := by rw [dels_upd List.mem_cons_self]; exact Same.refl _
  have hFF : Same (dels H as) (dels H1 (p :: as)) := fun b o e => by
    have hb : b ∉ as := fun z => by rw [dels_in z] at e; cases e
    rw [dels_ne hb] at e
    have hne : b ≠ p := fun z => by rw [z, hp] at e; cases e
    rw [dels_ne (fun z => by rcases List.mem_cons.mp z with z | z; exact hne z; exact hb z)]
    exact sH _ _ e
  have E2 : EnvM X.K (upd H1 p (.ext (DictK X.prog X.w [d] [t] p))) σ is as ρ cs := by
    refine ⟨E.rest.same ?_, E.sl, Owns.to (frz_same sU) (same_dels2 sU) E.own fun a ha => ?_, E.nd⟩
    · exact same_dels2 sU
    · obtain ⟨o, q, _⟩ := Owns.lst E.own a ha
      rw [q, sU _ _ q]
  refine he (fullD ρ is cs) σ _ E2.full _ fun w H3 s3 d3 => ?_
  cases dp_int d3
  have hnt : ∀ a ∈ p :: as, NoTup (H1 a) := fun a ha => by
    rcases List.mem_cons.mp ha with rfl | ha
    · rw [e1]; exact noTup_ext
    · exact E1.noTup a ha
  have s3' : Same (dels H1 (p :: as)) (dels H3 (p :: as)) := hfr.trans (same_dels2 s3)
  have hil : i < ρ.length := (List.getElem?_eq_some_iff.mp h0).1
  have E4 : EnvM X.K H3 (σ.set i (some (.ref p))) (i :: is) (p :: as) ρ (.ext (DictK X.prog X.w) [d] :: cs) := by
    refine ⟨⟨by rw [List.length_set, E.rest.len], fun m dd q => ?_⟩, ⟨fun z => ?_, InSl.set E.sl hni⟩, ⟨⟨[t], s3 _ _ upd_same, ?_⟩, ?_⟩, List.nodup_cons.mpr ⟨hpa, E.nd⟩⟩
    · by_cases hm : m = i
      · subst hm; rw [h0] at q; cases q
      · rw [List.getElem?_set_ne (Ne.symm hm)]
        obtain ⟨v, v1, v2⟩ := E.rest.at_ m dd q
        exact ⟨v, v1, dp_same s3' _ _ (dp_same hFF _ _ v2)⟩
    · rw [List.length_set] at z
      exact List.getElem?_set_self z
    · exact dps_one (dp_same s3' _ _ (dp_dels hnt hf d1))
    · refine Owns.to (frz_same (sU.trans s3)) (hFF.trans s3') E.own fun a ha => ?_
      obtain ⟨o, q, _⟩ := Owns.lst E.own a ha
      rw [q, s3 _ _ (sU _ _ q)]
  have E5 := E4.set (j := j) hnj (v := .int n) (d := .int n) (.int _)
  refine ⟨.ref p, .int n, rfl, k _ H3 _ E5 H0 (fun b hb => ?_) (s0.trans (sU.trans s3))⟩
  rcases List.mem_cons.mp hb with rfl | hb
  · cases q : H0 b with
    | none => rfl
    | some o => rw [s0 _ _ q] at hp; cases hp
  · exact hn0 b hb
end Q40
end

section
set_option maxRecDepth 100000
set_option maxHeartbeats 4000000
namespace Q40
open PySem PySem.Spec PyProof.Rows L2

theorem stepGo_len {all : List Row} {m : Nat} : ∀ {rs : List Row} {fl L : List Nat}, stepGo all m rs fl = some L → fl.length ≤ L.length
  | [], fl, L, h => by
    have e : fl = L := Option.some.inj h
    rw [e]; exact Nat.le_refl _
  | r :: rs, fl, L, h => by
    unfold stepGo at h
    split at h
    · exact stepGo_len h
    · split at h
      · cases h
      · split at h
        · exact stepGo_len h
        · have := stepGo_len h
          rw [List.length_append] at this
          omega
theorem bfs_len {all : List Row} : ∀ {f k : Nat} {fl L : List Nat}, bfs all f k fl = some L → fl.length ≤ L.length
  | 0, _, _, _, h => by cases h
  | f + 1, k, fl, L, h => by
    unfold bfs at h
    split at h
    · have e : fl = L := Option.some.inj h
      rw [e]; exact Nat.le_refl _
    · split at h
      · cases h
      · rename_i q
        exact Nat.le_trans (stepGo_len q) (bfs_len h)
/-- masks that the walk meets -/
structure MOk (rows : List Row) (fl : List Nat) : Prop where
  lt : ∀ m ∈ fl, m < 2 ^ rows.length
  ne : ∀ m ∈ fl, edgesR rows m ≠ []
def F_all : List PyData → PyData → Prop := fun ds r => ∃ (ps : List Pt) (rows : List Row) (L : List Nat), Tabl ps rows ∧ PtsIn ps ∧ bfs rows 100 0 [filGo rows rows 0] = some L ∧ L.length < 2000 ∧ MOk rows [filGo rows rows 0] ∧ ds = [ptsT ps] ∧ r = .tuple ((L.map (encR rows)).mergeSort leD)
section
variable {n : Nat} {t : Tau} {rows : List Row}
theorem eD_inj {e f : Ed} (h : eD e = eD f) : e = f := toks_eD_inj (by rw [h])
theorem encR_inj (R : RowsOk n t rows) (nd : (pairsN n).Nodup) {m m' : Nat} (h1 : m < 2 ^ rows.length) (h2 : m' < 2 ^ rows.length) (h : encR rows m = encR rows m') : m = m' :=
  edges_inj R nd h1 h2 (toks_esT_inj (by show PySem.W.keyToks (encR rows m) = PySem.W.keyToks (encR rows m'); rw [h]))
theorem mem_encR (R : RowsOk n t rows) (nd : (pairsN n).Nodup) {fl : List Nat} {m : Nat} (h : MOk rows fl) (hm : m < 2 ^ rows.length) : encR rows m ∈ fl.map (encR rows) ↔ m ∈ fl := by
  rw [List.mem_map]
  constructor
  · rintro ⟨x, h1, h2⟩
    rw [← encR_inj R nd (h.lt x h1) hm h2]; exact h1
  · intro h
    exact ⟨m, h, rfl⟩
theorem ti_eDs : ∀ es : List Ed, tis (es.map eD) = true
  | [] => rfl
  | e :: es => by
    rw [List.map_cons, tis, ti_eDs es, Bool.and_true]
    rfl
theorem depth_eDs : ∀ es : List Ed, NestedKey.depthAll (nks (es.map eD)) ≤ 1
  | [] => by simp [nks, NestedKey.depthAll]
  | e :: es => by
    have := depth_eDs es
    have h1 : (nk (eD e)).depth = 1 := by simp [eD, nk, nks, NestedKey.depth, NestedKey.depthAll]
    rw [List.map_cons, nks, NestedKey.depthAll, h1]
    omega
theorem keyD_esT (es : List Ed) : KeyD (esT es) := ⟨ti_eDs es, by
  have := depth_eDs es
  have e : (nk (esT es)).depth = NestedKey.depthAll (nks (es.map eD)) + 1 := by rw [esT, nk, NestedKey.depth]
  rw [e]; omega, _, rfl⟩
theorem keyD_all (rows : List Row) (fl : List Nat) : ∀ d ∈ fl.map (encR rows), KeyD d := fun d hd => by
  obtain ⟨m, _, rfl⟩ := List.mem_map.mp hd
  exact keyD_esT _
end
section
variable {P : Program} {w : World} {K : PySem.W.Frag} {mg : Str → Option Value} {base : Heap} {f : Addr} {fd : FuncData}
theorem ok_all_pseudo (Fn : Fun K "all_pseudo" "all_pseudo" s_all_pseudo f fd) (B : NoB mg) (C : Nums mg) (G1 : Callee P w K mg base "need_places" 5 F_need) (G2 : Callee P w K mg base "filled" 6 F_fil) (G3 : Callee P w K mg base "is_outer" 3 F_out) (G4 : Callee P w K mg base "exchanged" 6 F_exch) : FnOk P w K mg base CX0 7 f fd ["points"] (spF K F_all) := by
  refine pure_ok Fn sc_all_pseudo (fun ds r h => by obtain ⟨a, b, c, _, _, _, _, _, rfl, _⟩ := h; rfl) fun cdv A outer s H E hr ds r h => ?_
  obtain ⟨ps, rows, L, T, hin, hL, hLn, hM0, rfl, rfl⟩ := h
  obtain ⟨tk, hM⟩ := C.pseudo
  have hlo := T.lo
  have hhi := T.hi
  refine bk_cons (st_expr (ev_call G1 hr (by decide) (ea_cons (ev_var 0) ea_nil) ⟨ps, hin, rfl, rfl⟩) ?_)
  refine bk_new (i := 1) (ds := [encR rows (filGo rows rows 0)]) (ev_lstN (ea_cons (ev_call G2 hr (by decide) (ea_cons (ev_var 0) (ea_cons (ev_tup ea_nil) ea_nil)) ⟨ps, rows, T, rfl, rfl⟩) ea_nil) (by show (lfree _ && true) = true; rw [lfree_encR]; rfl)) ?_ sc_all_pseudo.nd (by exact Nat.le_of_ble_eq_true rfl)
  refine bkX_dict (i := 2) (j := 3) (d := encR rows (filGo rows rows 0)) (n := 0) hr (ev_ixL (ev_var 1) ev_int) (lfree_encR rows _) (keyD_esT _) (fun _ => ev_int) ?_ sc_all_pseudo.nd rfl
  refine bkX_cons (stM_while (m0 := 100) (fun m ρ cs => ∃ (k : Nat) (fl : List Nat) (u4 u5 u6 : Option PyData), bfs rows m k fl = some L ∧ MOk rows fl ∧ ρ = [some (ptsT ps), none, none, some (.int (k : Int)), u4, u5, u6, none] ∧ cs = [.ext (DictK P w) (fl.map (encR rows)), .lst (fl.map (encR rows))])
    ⟨0, [filGo rows rows 0], _, _, _, hL, hM0, rfl, rfl⟩ (fun m ρ' cs' hI => ?_) PassesOwn.never)
  obtain ⟨k, fl, u4, u5, u6, hb, hok, rfl, rfl⟩ := hI
  have hfl : (fl.map (encR rows)).length = fl.length := List.length_map _
  refine ⟨decide (k < fl.length), (et_lt (ev_var 3) (ev_lenL B (ev_var 1))).is (by rw [hfl, decide_eq_decide]; omega), fun hp => ?_, fun hp => ?_⟩
  · rw [decide_eq_true_eq] at hp
    cases m with
    | zero => cases hb
    | succ m =>
    have hmk := List.getElem?_eq_getElem hp
    generalize fl[k] = mk at hmk
    rw [bfs, hmk] at hb
    have hb : (match stepGo rows mk (rows.filter (has mk)) fl with | none => none | some found' => bfs rows m (k + 1) found') = some L := hb
    cases hst : stepGo rows mk (rows.filter (has mk)) fl with
    | none => rw [hst] at hb; cases hb
    | some fl' =>
    rw [hst] at hb
    have hb' : bfs rows m (k + 1) fl' = some L := hb
    have hxs : ((rows.filter (has mk)).map fun r => eD r.e) = (edgesR rows mk).map eD := by unfold edgesR; rw [List.map_map]; rfl
    refine bkM_cons (stM_forT (j := 4) (xs := rows.filter (has mk)) (enc := fun r => eD r.e) (em_pure (ev_ixL (ev_var 1) (ev_var 3) (atI_map hmk)) (lfree_encR rows _) (by rw [hxs]; rfl))
      (fun i ρ cs => ∃ (fi : List Nat) (u4 u5 u6 : Option PyData), stepGo rows mk ((rows.filter (has mk)).drop i) fi = some fl' ∧ MOk rows fi ∧ fi[k]? = some mk ∧ ρ = [some (ptsT ps), none, none, some (.int (k : Int)), u4, u5, u6, none] ∧ cs = [.ext (DictK P w) (fi.map (encR rows)), .lst (fi.map (encR rows))])
      ⟨fl, _, _, _, hst, hok, hmk, rfl, rfl⟩ (fun i r ρ' cs' hi hI => ?_) (fun ρ' cs' hI => ?_) PassesOwn.never sc_all_pseudo.nd)
    · obtain ⟨fi, u4, u5, u6, hg, hoki, hki, rfl, rfl⟩ := hI
      have hfi : (fi.map (encR rows)).length = fi.length := List.length_map _
      rw [drop_at hi] at hg
      have hrf := List.mem_filter.mp (List.mem_of_getElem? hi)
      obtain ⟨hr2, hhas⟩ := hrf
      have hout := T.R.out r hr2
      refine bkM_cons (stM_if (p := !r.out) (et_not (et_val ((ev_call G3 hr (by decide) (ea_cons (ev_var 0) (ea_cons (ev_var 4) ea_nil)) ⟨ps, r.e, T.b, by omega, T.rin hr2, rfl, rfl⟩).is (by rw [hout])))) (fun hp => ?_) (fun hp => bkM_nil (bkM_nil ⟨fi, _, _, _, ?_, hoki, hki, rfl, rfl⟩)))
      · have ho0 : r.out = false := by cases q : r.out with | false => rfl | true => rw [q] at hp; cases hp
        rw [stepGo, if_neg (by rw [ho0]; decide)] at hg
        cases hex : exM rows mk r with
        | none => rw [hex] at hg; cases hg
        | some o =>
        rw [hex] at hg
        have hg' : (if plus (minus mk r) o ∈ fi then stepGo rows mk ((rows.filter (has mk)).drop (i + 1)) fi else stepGo rows mk ((rows.filter (has mk)).drop (i + 1)) (fi ++ [plus (minus mk r) o])) = some fl' := hg
        have hrep := rep_edges rows mk
        have hexT := exch_mask T.R T.nd hr2 hhas hrep
        rw [hex] at hexT
        have ho := List.find?_some hex
        have hom : o ∈ rows := List.mem_of_find?_eq_some hex
        rw [Bool.and_eq_true] at ho
        have hltk := hoki.lt mk (List.mem_of_getElem? hki)
        have hlt : plus (minus mk r) o < 2 ^ rows.length := plus_lt T.R hom (minus_lt T.R hr2 hltk)
        have hrep2 := rep_plus T.R hom (rep_minus T.R T.nd hr2 hhas hrep)
        have hnd2 : ((edgesR rows mk).filter (fun x => !decide (x = r.e)) ++ [o.e]).Nodup := by
          rw [List.nodup_append]
          refine ⟨(edges_nodup T.R T.hi mk).filter _, by simp, fun x hx y hy => ?_⟩
          rw [List.mem_singleton.mp hy]
          intro z
          subst z
          have h1 := mem_mask T.R T.nd hom (rep_minus T.R T.nd hr2 hhas hrep)
          rw [decide_eq_true hx] at h1
          have h2 := ho.2
          unfold canM at h2
          rw [← h1] at h2
          simp at h2
        refine bkM_cons (stM_set (i := 5) (em_pure (P := (· = eD o.e)) ((ev_call G4 hr (by decide) (ea_cons (ev_var 0) (ea_cons (ev_ixL (ev_var 1) (ev_var 3) (atI_map hki)) (ea_cons (ev_var 4) ea_nil))) ⟨ps, edgesR rows mk, r.e, T.b, by have := edges_len T.R T.hi mk; omega, T.inn hrep, rfl, rfl⟩).is (by rw [hexT]; rfl)) rfl rfl) (fun d e => ?_) sc_all_pseudo.nd)
        subst e
        have hle : ((edgesR rows mk).filter (fun x => !decide (x = r.e))).length ≤ 21 := Nat.le_trans (List.length_filter_le _ _) (edges_len T.R T.hi mk)
        refine bkM_cons (stM_set (i := 6) (em_pure (P := (· = encR rows (plus (minus mk r) o))) (Ev.is (d := .tuple ((((edgesR rows mk).filter (fun x => !decide (x = r.e)) ++ [o.e]).map eD).mergeSort leD)) (ev_tupleL B (EvN.ev (en_sorted hr B (Ev.is (d := .list (((edgesR rows mk).filter (fun x => !decide (x = r.e))).map eD ++ [eD o.e])) (ev_catL (EvN.ev (en_lcT (own := [("one", 7)]) (xs := edgesR rows mk) (enc := eD) (fun x => !decide (x = r.e)) eD (fun x => [some (ptsT ps), some (.list (fi.map (encR rows))), none, some (.int (k : Int)), some (eD r.e), some (eD o.e), u6, some (eD x)]) (Ev.is (d := encR rows mk) (ev_ixL (ds := fi.map (encR rows)) (ev_var 1) (ev_var 3) (atI_map hki)) rfl)
            (fun x _ => tg_name (by decide)) (fun x _ _ _ _ _ _ => ets_one ((et_ne hr (ev_var 7) (ev_var 4) (shaped_eD _) (shaped_eD _)).is (by rw [eqv_eD]))) (fun x _ _ _ _ _ _ _ => Ev.evX (ev_var 7) (lfree_eD _)) (by have := edges_len T.R T.hi mk; omega)
            (fun _ _ _ _ _ => pg_name (i := 7) sc_all_pseudo.nd rfl (.inl rfl)) (blkOk_by (N := n_all_pseudo) (sc := defScope s_all_pseudo) (by decide +kernel)) sc_all_pseudo.nd)) (ev_lst (ea_cons (ev_var 5) ea_nil)) (by rw [List.length_map]; exact Nat.le_of_lt (small1000 (by show _ + 1 ≤ 1000; omega)))) (by rw [List.map_append]; rfl)) (alike_eD _) (sortable_eD _) (fun d hd => by obtain ⟨e, _, rfl⟩ := List.mem_map.mp hd; rw [depth_eD]; decide))))
            (by rw [sort_rep T.R T.hi hrep2 hnd2]; rfl)) (lfree_encR rows _) rfl) (fun d e => ?_) sc_all_pseudo.nd)
        subst e
        refine bkM_cons (stM_ifM (emt_nin (k := 0) (i := 2) hr (ev_var 6) rfl rfl (by exact Nat.le_of_ble_eq_true rfl) (keyD_all rows fi) (keyD_esT _) (decide (plus (minus mk r) o ∈ fi)) (by rw [decide_eq_true_eq]; exact (mem_encR T.R T.nd hoki hlt).symm)) (fun hp => ?_) (fun hp => bkM_nil (bkM_nil (bkM_nil ⟨fi, _, _, _, ?_, hoki, hki, rfl, rfl⟩))))
        · have hnot : plus (minus mk r) o ∉ fi := by
            have : decide (plus (minus mk r) o ∈ fi) = false := by cases q : decide (plus (minus mk r) o ∈ fi) with | false => rfl | true => rw [q] at hp; cases hp
            exact of_decide_eq_false this
          rw [if_neg hnot] at hg'
          have hlen : fi.length < 2000 := by
            have h1 := stepGo_len hg'
            have h2 := bfs_len hb'
            rw [List.length_append] at h1
            omega
          refine bkM_cons (stM_if (p := false) ((et_eq hr (ev_lenL B (ev_var 1)) (ev_glob (by rfl) hM) (shaped_int _) (shaped_int _)).is (by rw [hfi, eqv_int]; exact decide_eq_false (by omega))) (fun h => by cases h) fun _ => bkM_nil ?_)
          refine bkM_cons (stM_key (k := 0) (i := 2) hr (ev_var 6) (lfree_encR rows _) rfl rfl (by exact Nat.le_of_ble_eq_true rfl) (keyD_all rows fi) (keyD_esT _) (fun z => hnot ((mem_encR T.R T.nd hoki hlt).mp z)) (by rw [hfi]; omega) ?_)
          refine bkM_cons (stM_app (k := 1) (i := 1) (em_pure (P := (· = encR rows (plus (minus mk r) o))) (ev_var 6) (lfree_encR rows _) rfl) rfl rfl (by rw [hfi]; omega) (by exact Nat.le_of_ble_eq_true rfl) (fun d e => bkM_nil (bkM_nil (bkM_nil ⟨fi ++ [plus (minus mk r) o], _, _, _, hg', ⟨fun m hm => ?_, fun m hm => ?_⟩, ?_, rfl, ?_⟩))))
          · rcases List.mem_append.mp hm with z | z
            · exact hoki.lt m z
            · rw [List.mem_singleton.mp z]; exact hlt
          · rcases List.mem_append.mp hm with z | z
            · exact hoki.ne m z
            · rw [List.mem_singleton.mp z]
              intro z2
              have h1 := mem_mask T.R T.nd hom (rep_edges rows (plus (minus mk r) o))
              rw [z2, has_plus] at h1
              simp at h1
          · rw [List.getElem?_append_left (List.getElem?_eq_some_iff.mp hki).1]; exact hki
          · subst e
            rw [List.map_append]
            rfl
        · have hyes : plus (minus mk r) o ∈ fi := by
            have : decide (plus (minus mk r) o ∈ fi) = true := by cases q : decide (plus (minus mk r) o ∈ fi) with | true => rfl | false => rw [q] at hp; cases hp
            exact of_decide_eq_true this
          rw [if_pos hyes] at hg'
          exact hg'
      · have ho1 : r.out = true := by cases q : r.out with | true => rfl | false => rw [q] at hp; cases hp
        rw [stepGo, if_pos ho1] at hg
        exact hg
    · obtain ⟨fi, u4, u5, u6, hg, hoki, hki, rfl, rfl⟩ := hI
      rw [List.drop_length] at hg
      have hfl' : fi = fl' := Option.some.inj hg
      subst hfl'
      refine bkM_cons (stM_inc (i := 3) rfl ev_int (bkM_nil ⟨m, Nat.lt_succ_self m, k + 1, fi, _, _, _, hb', hoki, rfl, rfl⟩) sc_all_pseudo.nd)
  · rw [decide_eq_false_iff_not] at hp
    have hfin : fl = L := by
      cases m with
      | zero => cases hb
      | succ m =>
        rw [bfs, List.getElem?_eq_none (by omega)] at hb
        exact Option.some.inj hb
    subst hfin
    refine bkX_out (bk_cons (st_ret (ev_tupleL B (EvN.ev (en_sorted hr B (ev_var 1) ?_ ?_ ?_))) rfl))
    · have := alike_esT (fl.map (edgesR rows))
      rw [List.map_map] at this
      exact this
    · have := sortable_esT (l := fl.map (edgesR rows)) (fun es he => by obtain ⟨m, hm, rfl⟩ := List.mem_map.mp he; exact hok.ne m hm)
      rw [List.map_map] at this
      exact this
    · intro d hd
      obtain ⟨m, _, rfl⟩ := List.mem_map.mp hd
      exact Nat.le_trans (depth_esT _) (by decide)
end
end Q40
end

section
set_option maxRecDepth 100000
set_option maxHeartbeats 4000000
namespace Q40
open PySem PySem.Spec PyProof.Rows L2

/-! ### small questions asked of tuples in tuples -/
mutual
def nt : NestedKey → Bool
  | .num _ => true
  | .tup ks => nts ks
  | _ => false
def nts : List NestedKey → Bool
  | [] => true
  | k :: ks => nt k && nts ks
end
mutual
theorem nt_of : ∀ d : PyData, ti d = true → nt (nk d) = true
  | .int _, _ => rfl
  | .tuple xs, h => by
    rw [nk, nt]
    exact nts_of xs (by simpa only [ti] using h)
  | .none, h => by simp [ti] at h
  | .bool _, h => by simp [ti] at h
  | .str _, h => by simp [ti] at h
  | .list _, h => by simp [ti] at h
  | .dict _, h => by simp [ti] at h
theorem nts_of : ∀ xs : List PyData, tis xs = true → nts (nks xs) = true
  | [], _ => rfl
  | x :: xs, h => by
    rw [tis, Bool.and_eq_true] at h
    rw [nks, nts, nt_of x h.1, nts_of xs h.2]
    rfl
end
abbrev NK (P : Program) (w : World) : HeapKind P w NestedKey := nestedKind P w
abbrev hk (P : Program) (w : World) (k : NestedKey) : Int := (NK P w).hash k
section
variable {P : Program} {w : World} {A : Around} {E : Value → Shared → Prop} {s : Shared}
def IsIt (h : Heap) (n : Nat) (v : Value) : Prop := ∃ k, nt k = true ∧ k.depth ≤ n ∧ NestedIs h k v
theorem nested_items {h : Heap} {n : Nat} : ∀ {ks : List NestedKey} {vs : List Value}, nts ks = true → NestedKey.depthAll ks ≤ n → NestedAll h ks vs → ∀ v ∈ vs, IsIt h n v
  | [], _, _, _, h, v, hv => by cases h; cases hv
  | k :: ks, _, t, d, h, v, hv => by
    rw [nts, Bool.and_eq_true] at t
    rw [NestedKey.depthAll] at d
    cases h with
    | cons h1 h2 =>
      rcases List.mem_cons.mp hv with rfl | hv
      · exact ⟨k, t.1, by omega, h1⟩
      · exact nested_items t.2 (by omega) h2 v hv
theorem ofA_it : ∀ (n : Nat) (v : Value) {Q : Bool → Shared → Prop}, IsIt s.heap n v → Q false s → wpAny (model P w) A (ofAClassStatement n v) Q E s
  | n, v, Q, ⟨.num i, _, _, x⟩, q => by
    cases x with
    | bool e => cases n <;> exact wpAny_pure q
    | int _ t => cases n <;> exact wpAny_pure q
  | 0, v, Q, ⟨.tup ks, _, hd, _⟩, _ => by rw [NestedKey.depth] at hd; omega
  | n + 1, v, Q, ⟨.tup ks, ht, hd, x⟩, q => by
    cases x with
    | @tup b o vs m _ ho hc hdat hall =>
      have its : ∀ v ∈ vs.toList, IsIt s.heap n v := nested_items (by simpa only [nt] using ht) (by rw [NestedKey.depth] at hd; omega) hall
      have ih : ∀ (u : Value) {Q : Bool → Shared → Prop}, IsIt s.heap n u → Q false s → wpAny (model P w) A (ofAClassStatement n u) Q E s := fun u _ => ofA_it n u
      unfold ofAClassStatement
      refine wpAny_bind (wpAny_typeOf ⟨o, ho, hc⟩ ?_)
      dsimp only
      have tt : (("tuple" : String) == "tuple") = true := by decide
      simp only [tt, if_true, Bool.not_true, Bool.false_eq_true, if_false]
      try refine wpAny_bind (wpAny_pure ?_)
      try simp only [Bool.not_true, Bool.false_eq_true, if_false]
      refine wpAny_bind (wpAny_seqItems ho hdat ?_)
      dsimp only
      refine wpAny_bind ?_
      show wpAny _ _ (forIn vs _ _) _ _ s
      rw [← Array.forIn_toList]
      refine wpAny_forIn_list _ (fun rest r s' => r.1 = none ∧ s' = s ∧ ∀ v ∈ rest, IsIt s.heap n v) _ ?_ ?_ _ _ ⟨rfl, rfl, its⟩
      · rintro u rest r s' ⟨hr, rfl, hal⟩
        refine wpAny_bind (ih u (hal u List.mem_cons_self) ?_)
        simp only [Bool.false_eq_true, if_false]
        exact wpAny_pure ⟨rfl, rfl, fun z hz => hal z (List.mem_cons_of_mem _ hz)⟩
      · rintro ⟨r1, r2⟩ s' ⟨hr, rfl, _⟩
        have hr' : r1 = none := hr
        subst hr'
        exact wpAny_pure q
  | n, v, Q, ⟨.none, ht, _, _⟩, _ => by simp [nt] at ht
  | n, v, Q, ⟨.text _, ht, _, _⟩, _ => by simp [nt] at ht
theorem byV_it : ∀ (n : Nat) (v : Value) {Q : Bool → Shared → Prop}, IsIt s.heap n v → Q true s → wpAny (model P w) A (hashByValue n v) Q E s
  | n, v, Q, ⟨.num i, _, _, x⟩, q => by
    cases x with
    | bool e => cases n <;> exact wpAny_pure q
    | int _ t => cases n <;> exact wpAny_pure q
  | 0, v, Q, ⟨.tup ks, _, hd, _⟩, _ => by rw [NestedKey.depth] at hd; omega
  | n + 1, v, Q, ⟨.tup ks, ht, hd, x⟩, q => by
    cases x with
    | @tup b o vs m _ ho hc hdat hall =>
      have its : ∀ v ∈ vs.toList, IsIt s.heap n v := nested_items (by simpa only [nt] using ht) (by rw [NestedKey.depth] at hd; omega) hall
      have hT : s.TypeIs (.ref b) "tuple" := ⟨o, ho, hc⟩
      have ih : ∀ (u : Value) {Q : Bool → Shared → Prop}, IsIt s.heap n u → Q true s → wpAny (model P w) A (hashByValue n u) Q E s := fun u _ => byV_it n u
      unfold hashByValue
      refine wpAny_bind (wpAny_specialOf hT F.slot_tuple_hash.lookup ?_)
      refine wpAny_bind (wpAny_seqItems ho hdat ?_)
      refine wpAny_bind ?_
      show wpAny _ _ (forIn vs _ _) _ _ s
      rw [← Array.forIn_toList]
      refine wpAny_forIn_list _ (fun rest r s' => r.1 = none ∧ s' = s ∧ ∀ v ∈ rest, IsIt s.heap n v) _ ?_ ?_ _ _ ⟨rfl, rfl, its⟩
      · rintro u rest r s' ⟨hr, rfl, hal⟩
        refine wpAny_bind (ih u (hal u List.mem_cons_self) ?_)
        simp only [Bool.not_true, Bool.false_eq_true, if_false]
        exact wpAny_pure ⟨rfl, rfl, fun z hz => hal z (List.mem_cons_of_mem _ hz)⟩
      · rintro ⟨r1, r2⟩ s' ⟨hr, rfl, _⟩
        have hr' : r1 = none := hr
        subst hr'
        exact wpAny_pure q
  | n, v, Q, ⟨.none, ht, _, _⟩, _ => by simp [nt] at ht
  | n, v, Q, ⟨.text _, ht, _, _⟩, _ => by simp [nt] at ht
/-- an element: address, key -/
structure El (P : Program) (w : World) (h : Heap) (p : Addr × NestedKey) : Prop where
  t : nt p.2 = true
  is : (NK P w).is h p.2 p.1
theorem El.it {h : Heap} {p : Addr × NestedKey} (e : El P w h p) : IsIt h 8 (.ref p.1) := ⟨p.2, e.t, e.is.2, e.is.1⟩
theorem El.keep {h h' : Heap} {p : Addr × NestedKey} (e : El P w h p) (k : ∀ c o, h.get? c = some o → h'.get? c = some o) : El P w h' p := ⟨e.t, nestedKind_stays.stays (fun b o _ _ q _ => k b o q) e.is⟩
/-- a search among such shows nothing -/
theorem seen_none {p : Addr × NestedKey} {Q : Bool → Shared → Prop} (hp : El P w s.heap p) {ys : List Value} (hy : ∀ y ∈ ys, ∃ q, y = Value.ref q.1 ∧ El P w s.heap q) (h : Q false s) :
    wpAny (model P w) A (searchCouldBeSeen (.ref p.1) ys) Q E s := by
  unfold searchCouldBeSeen
  refine wpAny_bind (wpAny_forIn_list _ (fun rest r s' => r.1 = none ∧ s' = s ∧ ∀ y ∈ rest, ∃ q, y = Value.ref q.1 ∧ El P w s.heap q) _ ?_ ?_ _ _ ⟨rfl, rfl, hy⟩)
  · rintro v rest r s' ⟨hr, rfl, hal⟩
    obtain ⟨q, rfl, hq⟩ := hal v List.mem_cons_self
    have tl : ∀ y ∈ rest, ∃ q, y = Value.ref q.1 ∧ El P w s'.heap q := fun u hu => hal u (List.mem_cons_of_mem _ hu)
    dsimp only
    by_cases same : (p.1 == q.1 || (carriedByValue (.ref p.1) && carriedByValue (.ref q.1))) = true
    · exact wp_if_pos same (wpAny_pure ⟨rfl, rfl, tl⟩)
    · refine wp_if_neg same (wpAny_bind ((NK P w).quiet hp.is ?_))
      simp only [Bool.not_true, Bool.false_eq_true, if_false]
      refine wpAny_bind ((NK P w).quiet hq.is ?_)
      simp only [Bool.not_true, Bool.false_eq_true, if_false]
      refine wpAny_bind (ofA_it 8 _ hp.it ?_)
      simp only [Bool.false_eq_true, if_false]
      refine wpAny_bind (ofA_it 8 _ hq.it ?_)
      simp only [Bool.false_eq_true, if_false]
      exact wpAny_pure ⟨rfl, rfl, tl⟩
  · rintro ⟨r1, r2⟩ s' ⟨hr, rfl, _⟩
    have hr' : r1 = none := hr
    subst hr'
    exact wpAny_pure h

/-! ### a set of distinct such -/
def rw1 (P : Program) (w : World) (p : Addr × NestedKey) : Int × Value := (hk P w p.2, .ref p.1)
structure NSet (P : Program) (w : World) (h : Heap) (a : Addr) (L : List (Addr × NestedKey)) (es : Array (Int × Value)) (ep : Nat) (t : SetTable) : Prop where
  ob : ∃ o, h.get? a = some o ∧ o.ExactSet ∧ o.data = .set es ep t
  rows : es.toList = L.map (rw1 P w)
  tab : TabOk t (L.map fun p => hk P w p.2)
  plain : t.plain = true
  led : w.params.followText "set-order" = true ∨ t.led = true
  room : L.length * 5 < t.mask * 3
  few : L.length < 64
variable {a : Addr} {L : List (Addr × NestedKey)} {es : Array (Int × Value)} {ep : Nat} {t : SetTable}
theorem NSet.size {h : Heap} (R : NSet P w h a L es ep t) : es.size = L.length := by
  rw [← Array.length_toList, R.rows, List.length_map]
theorem NSet.fits {h : Heap} (R : NSet P w h a L es ep t) : t.fits es.size = true := by
  have h1 := R.tab.sz
  rw [List.length_map] at h1
  have h2 := R.size
  have h3 := R.room
  unfold SetTable.fits SetTable.fill
  rw [R.tab.dm, Bool.and_eq_true, beq_iff_eq, decide_eq_true_eq]
  show t.place.size = es.size ∧ t.place.size + 0 ≤ t.mask
  omega
theorem NSet.at {h : Heap} (R : NSet P w h a L es ep t) {i : Nat} {p : Addr × NestedKey} (q : L[i]? = some p) : es[i]? = some (hk P w p.2, Value.ref p.1) := by
  rw [← Array.getElem?_toList, R.rows, List.getElem?_map, q]
  rfl
theorem NSet.sound {h : Heap} (R : NSet P w h a L es ep t) : ¬ t.gaveWay = true := by
  unfold SetTable.gaveWay
  rw [mask_odd R.tab.mok]
  decide
theorem nth_dummy (m : Nat) : ∀ (n : Nat) (p : SetTable.Probe), p.dummy = none → (nth m p n).dummy = none
  | 0, _, h => h
  | n + 1, p, h => nth_dummy m n (adv m p) (by unfold adv; split <;> exact h)
abbrev st0 (m : Nat) (h : Int) : SetTable.Probe := runAt m (SetTable.bits h % (m + 1)) (SetTable.bits h)
/-- a key that is not there: the search ends at the first empty slot of its way -/
theorem find_free (R : NSet P w s.heap a L es ep t) {x : Addr × NestedKey} (hx : El P w s.heap x) (hu : (NK P w).room A) (el : ∀ p ∈ L, El P w s.heap p ∧ p.2 ≠ x.2) {K : Nat} (hKf : K < 10 * SetTable.turns t.mask)
    (hK : way t.mask (hk P w x.2) K ∉ t.place.toList) (hKb : ∀ c, c < K → way t.mask (hk P w x.2) c ∈ t.place.toList) {Q : SetFound → Shared → Prop} (q : Q (.free (way t.mask (hk P w x.2) K) false) s) :
    ∀ (f c : Nat) (stand : Option SetTable.Probe), stand.getD (t.probeStart (hk P w x.2)) = nth t.mask (st0 t.mask (hk P w x.2)) c → c ≤ K → K - c < f →
      wpAny (model P w) A (setSearchFrom a (.ref x.1) (hk P w x.2) true f stand) Q E s
  | 0, c, stand, _, _, hf => absurd hf (Nat.not_lt_zero _)
  | f + 1, c, stand, hst, hc, hf => by
    obtain ⟨o, ho, hex, hd⟩ := R.ob
    generalize hH : hk P w x.2 = H at *
    rw [setSearchFrom_succ]
    refine wpAny_bind (wpAny_setState_of ho hd R.fits ?_)
    dsimp only
    refine wp_if_neg R.sound ?_
    try refine wpAny_bind (wpAny_pure ?_)
    have sh : ∀ i, nth t.mask (nth t.mask (st0 t.mask H) c) i = nth t.mask (st0 t.mask H) (c + i) := fun i => (nth_add t.mask c _ i).symm
    have shj : ∀ i, (nth t.mask (nth t.mask (st0 t.mask H) c) i).j = way t.mask H (c + i) := fun i => congrArg SetTable.Probe.j (sh i)
    have spec := go_spec t R.tab.ris R.tab.dm (fun i => (es[i]?.map (·.1)).getD 0) H (10 * SetTable.turns t.mask) (K - c) _ (nth_dummy t.mask c _ rfl) (by omega)
      (fun i hi => by rw [shj]; exact hKb (c + i) (by omega)) (by rw [shj, show c + (K - c) = K by omega]; exact hK)
    rcases spec with ⟨d, i, hdK, hi, _, _, hpr⟩ | ⟨_, hpr⟩
    · have met : t.probe (fun i => (es[i]?.map (·.1)).getD 0) H (stand.getD (t.probeStart H)) = some (.candidate (way t.mask H (c + d)) i (nth t.mask (st0 t.mask H) (c + (d + 1)))) := by
        rw [hst, ← shj, ← sh]
        exact hpr
      rw [met]
      dsimp only
      rw [shj] at hi
      have hil : i < L.length := by
        have h1 := (List.getElem?_eq_some_iff.mp hi).1
        have h2 := R.tab.sz
        rw [List.length_map] at h2
        rw [Array.length_toList] at h1
        omega
      have hp := List.getElem?_eq_getElem hil
      generalize L[i] = p at hp
      obtain ⟨pe, pne⟩ := el p (List.mem_of_getElem? hp)
      have onward : wpAny (model P w) A (searchRest a (.ref x.1) H true f es t (way t.mask H (c + d)) i (nth t.mask (st0 t.mask H) (c + (d + 1)))) Q E s := by
        unfold searchRest
        rw [R.at hp]
        dsimp only
        refine wpAny_bind (wpAny_holding ((NK P w).eqBool hu pe.is hx.is ?_))
        refine wpAny_bind (wpAny_setState_of ho hd R.fits ?_)
        dsimp only
        refine wp_if_neg (by simp [pne]) ?_
        try refine wpAny_bind (wpAny_pure ?_)
        rw [sameMem]
        dsimp only
        simp only [if_true, slot_live R.tab.ris hi, R.at hp]
        refine wpAny_bind (wpAny_isSame_ref_self (wpAny_bind (wpAny_pure ?_)))
        simp only [if_true]
        refine wp_if_neg (by simp [pne]) ?_
        have again := find_free R hx hu el (K := K) hKf (by rw [hH]; exact hK) (by rw [hH]; exact hKb) (Q := Q) (by rw [hH]; exact q) f (c + (d + 1)) (some (nth t.mask (st0 t.mask H) (c + (d + 1)))) (by rw [hH]; rfl) (by omega) (by omega)
        rw [hH] at again
        exact again
      by_cases hl : t.led = true
      · refine wp_if_neg (by simp [hl]) ?_
        try refine wpAny_bind (wpAny_pure ?_)
        exact onward
      · refine wp_if_pos (by simp [hl]) (wpAny_bind (seen_none hx (fun y hy => ?_) (wp_if_neg (by decide) ?_)))
        · obtain ⟨e, he, rfl⟩ := List.mem_map.mp hy
          have he1 : e ∈ es ∧ e.1 = H := by simpa using he
          have he2 : e ∈ es.toList := by simpa using he1.1
          rw [R.rows] at he2
          obtain ⟨p2, hp2, rfl⟩ := List.mem_map.mp he2
          exact ⟨p2, rfl, (el p2 hp2).1⟩
        · try refine wpAny_bind (wpAny_pure ?_)
          exact onward
    · have met : t.probe (fun i => (es[i]?.map (·.1)).getD 0) H (stand.getD (t.probeStart H)) = some (.empty (way t.mask H K) none) := by
        have e2 : way t.mask H K = (nth t.mask (nth t.mask (st0 t.mask H) c) (K - c)).j := by rw [shj, show c + (K - c) = K by omega]
        rw [hst, e2]
        exact hpr
      rw [met]
      dsimp only
      exact wpAny_pure q
end
end Q40
end

section
set_option maxRecDepth 100000
set_option maxHeartbeats 4000000
namespace Q40
open PySem PySem.Spec PyProof.Rows L2

section
variable {P : Program} {w : World} {A : Around} {E : Value → Shared → Prop} {s : Shared} {a : Addr} {L : List (Addr × NestedKey)} {es : Array (Int × Value)} {ep : Nat} {t : SetTable}
theorem find_free0 (R : NSet P w s.heap a L es ep t) {x : Addr × NestedKey} (hx : El P w s.heap x) (hu : (NK P w).room A) (el : ∀ p ∈ L, El P w s.heap p ∧ p.2 ≠ x.2) {Q : SetFound → Shared → Prop}
    (q : ∀ K, way t.mask (hk P w x.2) K ∉ t.place.toList → (∀ c, c < K → way t.mask (hk P w x.2) c ∈ t.place.toList) → Q (.free (way t.mask (hk P w x.2) K) false) s) :
    wpAny (model P w) A (setSearch a (.ref x.1) (hk P w x.2) true) Q E s := by
  have room := R.room
  obtain ⟨K, k1, k2, k3⟩ := R.tab.first (by rw [List.length_map]; omega) (hk P w x.2)
  have big : K < 100000 := by
    have : 10 * SetTable.turns t.mask ≤ 1420 := by
      unfold SetTable.turns
      rcases R.tab.mok with e | e | e <;> omega
    omega
  unfold setSearch
  exact find_free R hx hu el k1 k2 k3 (q K k2 k3) 100000 0 none rfl (Nat.zero_le _) (by omega)
/-- the set's object isn't an element's -/
theorem El.same {h h' : Heap} {p : Addr × NestedKey} (e : El P w h p) {o : Obj} (ho : h.get? a = some o) (hd : o.data = .set es ep t) (hs : Heap.SameBut a h h') : El P w h' p :=
  ⟨e.t, nestedKind_stays.stays (fun b u vs n hb hu => (hs.2 b fun z => by
    subst z
    rw [ho] at hb
    cases hb
    rw [hd] at hu
    cases hu).trans hb) e.is⟩
/-- rows in another order -/
theorem rows_order (L : List (Addr × NestedKey)) (es : Array (Int × Value)) (hr : es.toList = L.map (rw1 P w)) {order : Array Nat} (hp : order.toList.Perm (List.range L.length)) :
    ∃ L2 : List (Addr × NestedKey), (order.filterMap (es[·]?)).toList = L2.map (rw1 P w) ∧ L2.Perm L ∧ (L2.map fun p => hk P w p.2) = order.toList.map fun i => (es.map (·.1)).getD i 0 := by
  have get : ∀ i, es[i]? = (L[i]?).map (rw1 P w) := fun i => by rw [← Array.getElem?_toList, hr, List.getElem?_map]
  refine ⟨order.toList.filterMap (L[·]?), ?_, ?_, ?_⟩
  · rw [Array.toList_filterMap, List.map_filterMap]
    congr 1
    funext i
    exact get i
  · have h2 : (List.range L.length).filterMap (fun i => L[i]?) = L := by
      have : ∀ n, n ≤ L.length → (List.range n).filterMap (fun i => L[i]?) = L.take n := by
        intro n
        induction n with
        | zero => intro _; rfl
        | succ n ih =>
          intro h
          have e := List.getElem?_eq_getElem (l := L) (i := n) (by omega)
          rw [List.range_succ, List.filterMap_append, ih (by omega), List.take_add_one, e, List.filterMap_cons_some e]
          rfl
      rw [this _ (Nat.le_refl _), List.take_length]
    have h1 := hp.filterMap (fun i => L[i]?)
    rw [h2] at h1
    exact h1
  · have inr : ∀ i ∈ order.toList, i < L.length := fun i hi => List.mem_range.mp (hp.mem_iff.mp hi)
    revert inr
    generalize order.toList = l
    intro inr
    induction l with
    | nil => rfl
    | cons i l ih =>
      have hi := inr i List.mem_cons_self
      have e1 := List.getElem?_eq_getElem hi
      rw [List.filterMap_cons_some e1, List.map_cons, List.map_cons, ih fun j hj => inr j (List.mem_cons_of_mem _ hj)]
      congr 1
      have e2 : (es.map (·.1))[i]? = some (hk P w (L[i]).2) := by rw [Array.getElem?_map, get, e1]; rfl
      rw [Array.getD_eq_getD_getElem?, e2]
      rfl
/-- the table laid anew -/
theorem relaid_at {o : Obj} (ho : s.heap.get? a = some o) (hex : o.ExactSet) (hd : o.data = .set es ep t) (hrows : es.toList = L.map (rw1 P w)) (hsz : t.place.size = es.size) (hdm : t.dummies = #[]) (hfl : es.size ≤ t.mask) (pl : t.plain = true) (ld : w.params.followText "set-order" = true ∨ t.led = true) (few : L.length < 64)
    {wanted M : Nat} (hw : SetTable.sizeAbove wanted - 1 = M) (hM : MaskOk M) (hw2 : SetTable.sizeAbove wanted ≤ 128) (hn : L.length * 5 < M * 3) {Q : Unit → Shared → Prop}
    (hQ : ∀ h' L' es' ep' t', Heap.SameBut a s.heap h' → NSet P w h' a L' es' ep' t' → L'.Perm L → Q () { s with heap := h' }) : wpAny (model P w) A (setRelay a wanted) Q E s := by
  have hsl : es.size = L.length := by rw [← Array.length_toList, hrows, List.length_map]
  have hfits : t.fits es.size = true := by
    unfold SetTable.fits SetTable.fill
    rw [hdm, Bool.and_eq_true, beq_iff_eq, decide_eq_true_eq]
    show t.place.size = es.size ∧ t.place.size + 0 ≤ t.mask
    omega
  obtain ⟨t', order, e, hp, T, em, el, epl, ed⟩ := relaid_ok t (hs := es.map (·.1)) (wanted := wanted) hw hM (by rw [Array.size_map, hsl]; omega)
  rw [Array.size_map, hsl] at hp
  obtain ⟨L2, r1, r2, r3⟩ := rows_order L es hrows hp
  rw [← r3] at T
  have hs2 : (order.filterMap (es[·]?)).size = es.size := by
    rw [← Array.length_toList, r1, List.length_map, r2.length_eq, hsl]
  rw [setRelay_eq]
  refine wpAny_bind (wpAny_setState_of ho hd hfits ?_)
  dsimp only
  refine wp_if_neg (by rw [sizeLine_eq]; omega) ?_
  try refine wpAny_bind (wpAny_pure ?_)
  rw [e]
  dsimp only
  refine wpAny_bind (wp_if_neg (by rw [hs2]; simp) ?_)
  try refine wpAny_bind (wpAny_pure ?_)
  refine wpAny_pure ?_
  dsimp only
  have sb : Heap.SameBut a s.heap (s.heap.update a (Obj.putSet (order.filterMap (es[·]?)) t')) := Heap.SameBut.update ..
  exact wpAny_storeSet_of ho hd (hQ _ L2 (order.filterMap (es[·]?)) (ep + 1) t' sb ⟨⟨_, store_at ho hd, ⟨hex.1, hex.2.1, hex.2.2⟩, rfl⟩, r1, T, by rw [epl]; exact pl, by rw [el]; exact ld, by rw [r2.length_eq, em]; exact hn, by rw [r2.length_eq]; exact few⟩ r2) (by rw [hs2, hsl, sizeLine_eq]; omega)
/-- a new element -/
theorem add_new (R : NSet P w s.heap a L es ep t) {x : Addr × NestedKey} (hx : El P w s.heap x) (hu : (NK P w).room A) (el : ∀ p ∈ L, El P w s.heap p ∧ p.2 ≠ x.2) (few : L.length + 1 < 64) {Q : Bool → Shared → Prop}
    (hQ : ∀ b h' L' es' ep' t', Heap.SameBut a s.heap h' → NSet P w h' a L' es' ep' t' → L'.Perm (x :: L) → Q b { s with heap := h' }) : wpAny (model P w) A (setAddHashed a (.ref x.1) (hk P w x.2)) Q E s := by
  obtain ⟨o, ho, hex, hd⟩ := R.ob
  have hsl := R.size
  have room := R.room
  unfold setAddHashed
  refine wpAny_holding ?_
  rw [show (100000 : Nat) = 99999 + 1 from rfl, setAddHashedIn_succ]
  refine wpAny_bind (wpAny_setState_of ho hd R.fits ?_)
  dsimp only
  refine wp_if_neg (by simp [byScan, Value.scannable]) ?_
  try refine wpAny_bind (wpAny_pure ?_)
  refine wpAny_bind (find_free0 R hx hu el fun K hK hb => ?_)
  dsimp only
  refine wpAny_bind (wpAny_setState_of ho hd R.fits ?_)
  dsimp only
  generalize hH : hk P w x.2 = H at *
  obtain ⟨q1, q2, q3, q4, q5, q6, q7, q8, q9⟩ := R.tab.put hK hb
  have hp1 : (t.put (way t.mask H K)).1.plain = true := by rw [q6]; exact R.plain
  generalize hpt : t.put (way t.mask H K) = pt at q1 q3 q4 q5 q6 q7 q8 q9 hp1 ⊢
  obtain ⟨t1, p⟩ := pt
  dsimp only at q1 q3 q4 q5 q6 q7 q8 q9 hp1 ⊢
  subst q1
  first
    | (refine wpAny_bind ?_; refine wp_if_pos hp1 ?_; refine byV_it 8 _ hx.it ?_)
    | refine wp_if_pos hp1 (wpAny_bind (byV_it 8 _ hx.it ?_))
  simp only [if_true]
  generalize SetTable.below t.place (way t.mask H K) = p at q2 q3 ⊢
  have hin : (SetTable.insertAt es p (H, Value.ref x.1)).toList = (L.take p ++ x :: L.drop p).map (rw1 P w) := by
    rw [SetTable.toList_insertAt, List.map_append, List.map_cons, List.map_take, List.map_drop, R.rows]
    unfold rw1
    rw [hH]
  have pm := put_perm L p x
  have hlen : (L.take p ++ x :: L.drop p).length = L.length + 1 := pm.length_eq
  have hhs : (L.take p ++ x :: L.drop p).map (fun p => hk P w p.2) = (L.map fun p => hk P w p.2).take p ++ H :: (L.map fun p => hk P w p.2).drop p := by
    rw [List.map_append, List.map_cons, List.map_take, List.map_drop, hH]
  rw [← hhs] at q3
  have hes : (SetTable.insertAt es p (H, Value.ref x.1)).size = L.length + 1 := by rw [← Array.length_toList, hin, List.length_map, hlen]
  generalize SetTable.insertAt es p (H, Value.ref x.1) = es1 at hin hes ⊢
  generalize L.take p ++ x :: L.drop p = L1 at pm hlen q3 hin
  refine wpAny_bind (wpAny_storeSet_of ho hd ?_ (by rw [hes, sizeLine_eq]; omega))
  have sb : Heap.SameBut a s.heap (s.heap.update a (Obj.putSet es1 t1)) := Heap.SameBut.update ..
  have ho1 := store_at (es' := es1) (t' := t1) ho hd
  generalize s.heap.update a (Obj.putSet es1 t1) = h1 at sb ho1 ⊢
  have ld1 : w.params.followText "set-order" = true ∨ t1.led = true := by rw [q5]; exact R.led
  by_cases hf : t1.tooFull = true
  · first
      | (refine wpAny_bind ?_; refine wp_if_pos (by simp [hf]) ?_)
      | (refine wp_if_pos (by simp [hf]) ?_; refine wpAny_bind ?_)
    have full : (L.length + 1) * 5 ≥ t1.mask * 3 := by
      have h := hf
      unfold SetTable.tooFull at h
      rw [decide_eq_true_eq, q9, List.length_map] at h
      exact h
    rw [hsl]
    have sz1 : t1.place.size = es1.size := by
      have h := q3.sz
      rw [List.length_map, hlen] at h
      rw [h, hes]
    have two : (t.mask = 7 ∧ L.length = 4) ∨ (t.mask = 31 ∧ L.length = 18) := by
      rcases R.tab.mok with e | e | e
      · left; rw [q4, e] at full; rw [e] at room; exact ⟨e, by omega⟩
      · right; rw [q4, e] at full; rw [e] at room; exact ⟨e, by omega⟩
      · exfalso; rw [q4, e] at full; omega
    have go : ∀ M, SetTable.sizeAbove (SetTable.grown (L.length + 1)) - 1 = M → MaskOk M → SetTable.sizeAbove (SetTable.grown (L.length + 1)) ≤ 128 → (L.length + 1) * 5 < M * 3 →
        wpAny (model P w) A (setRelay a (SetTable.grown (L.length + 1))) (fun _ s' => wpAny (model P w) A (pure true) Q E s') E { s with heap := h1 } := fun M m1 m2 m3 m4 =>
      relaid_at (s := { s with heap := h1 }) ho1 ⟨hex.1, hex.2.1, hex.2.2⟩ rfl hin sz1 q3.dm (by rw [hes, q4]; rcases two with ⟨e, e2⟩ | ⟨e, e2⟩ <;> omega) hp1 ld1 (by rw [hlen]; exact few) m1 m2 m3 (by rw [hlen]; exact m4)
        fun h2 L2 es2 ep2 t2 sb2 R2 pm2 => wpAny_pure (hQ true h2 L2 es2 ep2 t2 (sb.trans sb2) R2 (pm2.trans pm))
    rcases two with ⟨_, e2⟩ | ⟨_, e2⟩
    · exact go 31 (by rw [e2, size_20]) (.inr (.inl rfl)) (by rw [e2, size_20]; decide) (by omega)
    · exact go 127 (by rw [e2, size_76]) (.inr (.inr rfl)) (by rw [e2, size_76]; decide) (by omega)
  · first
      | refine wp_if_neg (by simp [hf]) ?_
      | (refine wpAny_bind ?_; refine wp_if_neg (by simp [hf]) ?_; refine wpAny_pure ?_)
    refine wpAny_pure (hQ true h1 L1 es1 (ep + 1) t1 sb ⟨⟨_, ho1, ⟨hex.1, hex.2.1, hex.2.2⟩, rfl⟩, hin, q3, hp1, ld1, ?_, by rw [hlen]; exact few⟩ pm)
    have h := hf
    unfold SetTable.tooFull at h
    rw [decide_eq_true_eq, q9, List.length_map] at h
    rw [hlen]
    omega
theorem nset_new {h : Heap} (ho : h.get? a = some { cls := .type "set", dict := none, data := .set #[] 0 (.fresh 0 0 (!w.params.followText "set-order")) }) : NSet P w h a [] #[] 0 (.fresh 0 0 (!w.params.followText "set-order")) where
  ob := ⟨_, ho, ⟨rfl, rfl, rfl⟩, rfl⟩
  rows := rfl
  tab := ⟨List.Pairwise.nil, rfl, rfl, .inl rfl, fun x hx => (by cases hx), fun i h j hi => (by simp at hi)⟩
  plain := rfl
  led := by
    show _ ∨ (!w.params.followText "set-order") = true
    cases w.params.followText "set-order"
    · exact .inr rfl
    · exact .inl rfl
  room := by show 0 * 5 < 7 * 3; decide
  few := by show 0 < 64; decide
theorem NSet.keep {h h' : Heap} (R : NSet P w h a L es ep t) (ha : ∀ o, h.get? a = some o → h'.get? a = some o) : NSet P w h' a L es ep t := by
  obtain ⟨o, ho, r⟩ := R.ob
  exact ⟨⟨o, ha o ho, r⟩, R.rows, R.tab, R.plain, R.led, R.room, R.few⟩
/-- the loop of set.update over distinct elements -/
theorem upd_loop {I : Addr} {fp wr : List Addr} {G : Array GenState → Array GenState → Prop} {n : Nat} {Pv : Nat → Value → Prop} {St : Nat → Shared → Prop} {R : Result → Shared → Prop}
    (W : WalksS P w A.in1 I fp wr G n Pv St) (S : Addr) (hSf : S ∉ fp) (ks : List (Addr × NestedKey)) (hn : n = ks.length) (few : ks.length < 64) (hval : ∀ i v, Pv i v → ∃ p, ks[i]? = some p ∧ v = .ref p.1) (nd : (ks.map (·.2)).Nodup)
    (h0 : Heap) (hks : ∀ p ∈ ks, El P w h0 p) (hS0 : h0.get? S = none) (hw0 : ∀ b ∈ wr, h0.get? b = none) (hu : (NK P w).room A.in1) :
    ∀ (k i : Nat) (s : Shared), n - i = k → i ≤ n → St i s → (∀ b o, h0.get? b = some o → s.heap.get? b = some o) → (∃ L es ep t, NSet P w s.heap S L es ep t ∧ L.Perm (ks.take i)) →
      (∀ s' L es ep t, PySem.Moved (S :: wr) G s s' → NSet P w s'.heap S L es ep t → L.Perm ks → (∀ b o, h0.get? b = some o → s'.heap.get? b = some o) → R (.ok (.ret .none)) s') →
      codeAny (model P w) A (.builtin "set.update.loop" ⟨[.ref S, .ref I], []⟩) R s := by
  have hSw : S ∉ wr := fun h => hSf (W.sub _ h)
  have wider : ∀ b ∈ wr, b ∈ S :: wr := fun b hb => List.mem_cons_of_mem _ hb
  have keepM : ∀ {s s' : Shared}, PySem.Moved wr G s s' → (∀ b o, h0.get? b = some o → s.heap.get? b = some o) → ∀ b o, h0.get? b = some o → s'.heap.get? b = some o := fun hm hkp b o e =>
    hm.heap b o (fun hb => by rw [hw0 b hb] at e; cases e) (hkp b o e)
  intro k
  induction k with
  | zero =>
    intro i s hk' hi hst hkp ⟨L, es, ep, t, hS, g⟩ hR
    have hin : i = n := by omega
    subst hin
    refine codeAny_builtin F.entry_set_update_loop ?_
    rw [Around.under_plainId F.plain_set_update_loop _]
    refine wpAny_bind (W.done s _ _ hst fun s' hm => ?_)
    rw [List.take_of_length_le (by omega)] at g
    exact wpAny_pure (hR s' L es ep t (hm.mono wider) (hS.keep fun o e => hm.heap S o hSw e) g (keepM hm hkp))
  | succ k ih =>
    intro i s hk' hi hst hkp ⟨L, es, ep, t, hS, g⟩ hR
    have hlt : i < n := by omega
    refine codeAny_builtin F.entry_set_update_loop ?_
    rw [Around.under_plainId F.plain_set_update_loop _]
    refine wpAny_bind (W.item i s _ _ hlt hst fun v s' hP hst' hm => ?_)
    obtain ⟨p, hp, rfl⟩ := hval i v hP
    have hkp' := keepM hm hkp
    have hS' : NSet P w s'.heap S L es ep t := hS.keep fun o e => hm.heap S o hSw e
    have hx : El P w s'.heap p := (hks p (List.mem_of_getElem? hp)).keep hkp'
    have el : ∀ q ∈ L, El P w s'.heap q ∧ q.2 ≠ p.2 := fun q hq => by
      have hq' := g.mem_iff.mp hq
      refine ⟨(hks q (List.mem_of_mem_take hq')).keep hkp', fun z => ?_⟩
      obtain ⟨j, hj⟩ := List.mem_iff_getElem?.mp hq'
      rw [List.getElem?_take] at hj
      by_cases hji : j < i
      · rw [if_pos hji] at hj
        have e1 : (ks.map (·.2))[j]? = some p.2 := by rw [List.getElem?_map, hj, ← z]; rfl
        have e2 : (ks.map (·.2))[i]? = some p.2 := by rw [List.getElem?_map, hp]; rfl
        have := nodup_idx nd e1 e2
        omega
      · rw [if_neg hji] at hj; cases hj
    have glen := g.length_eq
    rw [List.length_take] at glen
    show wpAny _ A.in1 (holding [Value.ref p.1] (setAdd S (.ref p.1)) >>= _) _ _ s'
    refine wpAny_bind (wpAny_holding ?_)
    unfold setAdd
    refine wpAny_holding (wpAny_bind ((NK P w).pyHash hu hx.is ?_))
    refine add_new (s := { s' with toks := s'.toks + (NK P w).draws p.2 }) hS' hx hu el (by omega) fun b h' L' es' ep' t' hsb hS2 pm => ?_
    have g' : L'.Perm (ks.take (i + 1)) := by
      rw [take_next hp]
      exact pm.trans ((g.cons p).trans (List.perm_append_singleton p _).symm)
    have hkp2 : ∀ b o, h0.get? b = some o → h'.get? b = some o := fun b o e => (hsb.2 b (fun z => by rw [z, hS0] at e; cases e)).trans (hkp' b o e)
    refine wpAny_pure ⟨plainId_quiet F.plain_set_update_loop _, ih (i + 1) _ (by omega) hlt (W.frame _ s' _ _ hst' (Nat.le_add_right _ _) fun b hb o e => ?_) hkp2 ⟨L', es', ep', t', hS2, g'⟩ fun s'' L2 es2 ep2 t2 hm'' hS'' g'' hkp'' => ?_⟩
    · rw [hsb.2 b (fun z : b = S => hSf (by rw [← z]; exact hb))]; exact e
    · refine hR s'' L2 es2 ep2 t2 (Moved.trans W.gtrans ((hm.mono wider).then_heap (Nat.le_add_right _ _) fun b o hb e => ?_) hm'') hS'' g'' hkp''
      rw [hsb.2 b (fun z : b = S => hb (by rw [z]; exact List.mem_cons_self))]; exact e
end
end Q40
end

section
set_option maxRecDepth 100000
set_option maxHeartbeats 4000000
namespace Q40
open PySem PySem.Spec PyProof.Rows L2

section
variable {P : Program} {w : World} {A : Around} {E : Value → Shared → Prop} {s : Shared}
abbrev newSet (w : World) : Obj := { cls := .type "set", dict := none, data := .set #[] 0 (.fresh 0 0 (!w.params.followText "set-order")) }
set_option maxRecDepth 100000 in
set_option maxHeartbeats 3200000 in
/-- set(t), t a tuple of distinct nested tuples -/
theorem call_set_nested {l : Addr} {items : Array Value} (ks : List (Addr × NestedKey)) {Q : Value → Shared → Prop} (hh : A.handled = none) (hl : s.heap.IsTuple l items) (hit : items.toList = ks.map fun p => Value.ref p.1) (hks : ∀ p ∈ ks, El P w s.heap p) (nd : (ks.map (·.2)).Nodup) (few : ks.length < 64) (hu : A.units + 16 < cLine)
    (h : ∀ (h' : Heap) (tk : Nat) L es ep t, NSet P w h' s.heap.objs.size L es ep t → L.Perm ks → (∀ b o, s.heap.get? b = some o → h'.get? b = some o) → Q (.ref s.heap.objs.size) { s with heap := h', toks := tk }) :
    wpAny (model P w) A (call (.type "set") [.ref l]) Q E s := by
  have hisz : items.size = ks.length := by rw [← Array.length_toList, hit, List.length_map]
  obtain ⟨c, tl, hmro⟩ := F.called_set.mro
  have hmade := F.called_set.made
  have hsub := F.called_set.sub
  refine wpAny_call (codeAny_of_tree ?_)
  show wpAny _ _ (callAny (.type "set") _) _ _ _
  refine wpAny_pure ⟨Code.quiet_builtin _ (by decide +kernel), codeAny_builtin F.entry_type_call ?_⟩
  rw [Around.under_plain (weight_type_call_type "set" [.ref l] []) rfl]
  have h1 := F.called_set.notType
  have h2 := F.called_set.canCreate
  have hct := F.typeCall_set_1 (.ref l)
  repeat (any_goals (first | assumption | wp_step))
  refine codeAny_mono (code_set_led1 (.ref l) (E := E) (Q₁ := fun obj s₁ => obj = .ref s.heap.objs.size ∧ s₁ = { s with heap := s.heap.push (newSet w) }) ⟨rfl, rfl⟩) fun r s₁ hr => ?_
  cases r with
  | error e => exact hr
  | ok fl =>
    cases fl with
    | ret obj =>
      obtain ⟨rfl, rfl⟩ := hr
      have hS : (s.heap.push (newSet w)).get? s.heap.objs.size = some (newSet w) := Heap.get?_push_size _ rfl
      have hT : Shared.TypeIs { s with heap := s.heap.push (newSet w) } (.ref s.heap.objs.size) "set" := ⟨_, hS, rfl⟩
      have hli := F.called_set.init.lookup
      have hbi := F.called_set.init.bind (.ref s.heap.objs.size)
      repeat (any_goals (first | assumption | wp_step))
      refine codeAny_mono (codeAny_call_builtin (R := wants (fun r s₂ => r = .none ∧ ∃ h' tk L es ep t, s₂ = { s with heap := h', toks := tk } ∧ NSet P w h' s.heap.objs.size L es ep t ∧ L.Perm ks ∧ (∀ b o, s.heap.get? b = some o → h'.get? b = some o)) E) F.called_set.init.plain F.entry_set_init (check_set_init_1 hT ?_)) fun r₂ s₂ hr₂ => ?_
      · obtain ⟨ol, hol, hcl, nl, hdl⟩ := hl
        obtain ⟨ocls, odict, odata, oslots⟩ := ol
        simp only at hcl hdl
        subst hcl; subst hdl
        have hol' : (s.heap.push (newSet w)).get? l = some { cls := .type "tuple", dict := odict, data := .seq items nl, slots := oslots } := Heap.get?_push_of_some _ hol
        have hsls := F.sub_tuple_set
        have hslf := F.sub_tuple_frozenset
        have hne : (Value.type "tuple" == Value.type "dict") = false := by decide
        have hl1 : (s.heap.push (newSet w)).IsTuple l items := ⟨_, hol', rfl, nl, rfl⟩
        unfold Builtin.«set.__init__» noKeywords Builtin.Frozenset.updateFrom
        generalize hPI : pyIter = PI
        wp_walk
        subst hPI
        refine wpAny_pyIter_tuple hl1 (wpAny_bind (wpAny_runValue ?_))
        have hlS : l < s.heap.objs.size := Heap.lt_size hol
        have hh3 : A.in1.in1.in1.handled = none := by simp [hh]
        have hneI : l ≠ (s.heap.push (newSet w)).objs.size := by
          rw [Heap.size_push]; exact Nat.ne_of_lt (Nat.lt_succ_of_lt hlS)
        have hSf : s.heap.objs.size ∉ [(s.heap.push (newSet w)).objs.size, l] := by
          rw [Heap.size_push]
          simp only [List.mem_cons, List.not_mem_nil, or_false, not_or]
          exact ⟨Nat.ne_of_lt (Nat.lt_succ_self _), Nat.ne_of_gt hlS⟩
        have hval : ∀ (i : Nat) (v : Value), items[i]? = some v → ∃ p, ks[i]? = some p ∧ v = .ref p.1 := fun i v hv => by
          rw [← Array.getElem?_toList, hit, List.getElem?_map] at hv
          cases q : ks[i]? with
          | none => rw [q] at hv; cases hv
          | some p => rw [q] at hv; exact ⟨p, rfl, (Option.some.inj hv).symm⟩
        have fresh : ∀ b, s.heap.objs.size ≤ b → s.heap.get? b = none := fun b hb => by
          cases q : s.heap.get? b with
          | none => rfl
          | some o => exact absurd (Nat.lt_of_lt_of_le (Heap.lt_size q) hb) (Nat.lt_irrefl _)
        refine upd_loop ((Walks.tuple hh3 _ l hneI items).toS) s.heap.objs.size hSf ks hisz few hval nd s.heap hks (fresh _ (Nat.le_refl _)) (fun b hb => fresh b (by
            rw [List.mem_singleton.mp hb, Heap.size_push]
            exact Nat.le_succ _)) ?room (items.size - 0) 0 _ (by omega) (Nat.zero_le _)
          ⟨⟨_, Heap.get?_push_size _ rfl, rfl, rfl⟩, (hl1.push _)⟩ (fun b o e => Heap.get?_push_of_some _ (Heap.get?_push_of_some _ e)) ?first ?last
        case room =>
          show _ + 8 < cLine
          have : A.in1.in1.in1.units ≤ A.units + 3 := by first | exact Nat.le_refl _ | (simp [Around.in1] <;> omega)
          omega
        case first => exact ⟨[], #[], 0, _, nset_new (Heap.get?_push_of_some _ hS), by rw [List.take_zero]⟩
        case last =>
          intro s' L es ep t hm hS' g' hkp
          obtain ⟨h', g2, d', tk', os'⟩ := s'
          have eg : g2 = s.gens := hm.gens
          have ed : d' = s.drawn := hm.drawn
          have eo : os' = s.os := hm.os
          subst eg; subst ed; subst eo
          show wpAny _ _ _ _ _ _
          refine wpAny_pure ?_
          show wpAny _ _ (ret Value.none) _ _ _
          exact wpAny_pure ⟨rfl, h', tk', L, es, ep, t, rfl, hS', g', hkp⟩
      · cases r₂ with
        | error e => exact hr₂
        | ok fl₂ =>
          cases fl₂ with
          | ret r =>
            obtain ⟨rfl, h', tk, L, es, ep, t, rfl, hS', g', hk'⟩ := hr₂
            repeat (any_goals (first | assumption | wp_step))
            exact h _ _ _ _ _ _ hS' g' hk'
          | _ => exact hr₂.elim
    | _ => exact hr.elim
theorem each_perm {α β : Type} {R : α → β → Prop} {us vs : List α} (p : vs.Perm us) : ∀ {ds : List β}, PySem.W.EachIs R us ds → ∃ ds', ds'.Perm ds ∧ PySem.W.EachIs R vs ds' := by
  induction p with
  | nil => intro ds h; exact ⟨ds, .refl _, h⟩
  | cons x _ ih =>
    intro ds h
    cases h with
    | cons h1 h2 =>
      obtain ⟨ds', p', e⟩ := ih h2
      exact ⟨_, p'.cons _, .cons h1 e⟩
  | swap x y l =>
    intro ds h
    cases h with
    | cons h1 h2 =>
      cases h2 with
      | cons h3 h4 => exact ⟨_, .swap _ _ _, .cons h3 (.cons h1 h4)⟩
  | trans _ _ ih1 ih2 =>
    intro ds h
    obtain ⟨d1, p1, e1⟩ := ih2 h
    obtain ⟨d2, p2, e2⟩ := ih1 e1
    exact ⟨d2, p2.trans p1, e2⟩
/-- sorted of such a set -/
theorem sorted_nested {a : Addr} {L : List (Addr × NestedKey)} {es : Array (Int × Value)} {ep : Nat} {t : SetTable} {R : Value → PyData → Prop} {ds : List PyData} {Q : Value → Shared → Prop} (S : NSet P w s.heap a L es ep t) (hh : A.handled = none)
    (e : PySem.W.EachIs R (L.map fun q => Value.ref q.1) ds) (er : ∀ u d, R u d → ∃ as, Reads s.heap u d as) (hal : PySem.W.AllAlike ds) (hso : PySem.W.Sortable ds) (hu : ∀ d ∈ ds, A.units + 3 + d.depth < cLine)
    (hQ : ∀ s' p (out : List Value) (c : Nat) (zs : List PyData), (∀ b o, s.heap.get? b = some o → s'.heap.get? b = some o) → s'.gens = s.gens → s'.os = s.os → s.heap.objs.size ≤ p → s'.heap.get? p = some (seqObj "list" out.toArray c) → zs.Perm ds → out.length = ds.length → PySem.W.EachIs R out (zs.mergeSort leD) → Q (.ref p) s') :
    wpAny (model P w) A (call (.builtin "sorted") [.ref a]) Q E s := by
  obtain ⟨o, ho, hex, hd⟩ := S.ob
  have hsz := S.size
  have few := S.few
  refine Calls.call_function_entry kind_sorted plain_sorted entry_sorted (args_sorted1 _) ?_
  unfold Builtin.«sorted»
  refine wpAny_bind (m := checkCount "sorted" 1 1 _) (wpAny_pure ?_)
  refine wpAny_bind (collect_set (A := A.in1) hh ⟨o, ho, hex.1, hd⟩ S.fits (by unfold scanBound; omega) S.tab.ris S.led fun s1 vs k1 hz g1 o1 pm => ?_)
  have hes : es.toList.map (·.2) = L.map fun q => Value.ref q.1 := by
    rw [S.rows, List.map_map]
    rfl
  rw [hes] at pm
  obtain ⟨zs, pz, ez⟩ := each_perm pm e
  have hvl : vs.length = ds.length := by rw [ez.length, pz.length_eq]
  have hdl : ds.length < 64 := by rw [← e.length, List.length_map]; exact few
  refine wpAny_bind (wpAny_newList ?_ (by rw [sizeLine_eq]; omega))
  have hoL : (s1.heap.push (seqObj "list" vs.toArray 0)).get? s1.heap.objs.size = some (seqObj "list" vs.toArray 0) := Heap.get?_push_size _ rfl
  have old : ∀ b u, s.heap.get? b = some u → (PySem.W.sortingHeap (s1.heap.push (seqObj "list" vs.toArray 0)) s1.heap.objs.size vs).get? b = some u := fun b u q =>
    PySem.W.sortingHeap_old (Nat.ne_of_lt (Heap.lt_size (k1 b u q))) (Heap.get?_push_of_some _ (k1 b u q))
  have ez' : PySem.W.EachIs (fun v d => ∃ as, Reads (PySem.W.sortingHeap (s1.heap.push (seqObj "list" vs.toArray 0)) s1.heap.objs.size vs) v (id d) as) vs zs := ez.mono fun u d hR => by
    obtain ⟨as, r⟩ := er u d hR
    exact ⟨as, PyProof.Rows.Reads.keeps old r⟩
  have hal' : PySem.W.AllAlike zs := fun d hd d' hd' => hal d (pz.mem_iff.mp hd) d' (pz.mem_iff.mp hd')
  have hso' : PySem.W.Sortable zs := by
    rcases hso with h | h
    · exact .inl fun d hd => h d (pz.mem_iff.mp hd)
    · exact .inr fun d hd => h d (pz.mem_iff.mp hd)
  have hb : zs.map id = zs := List.map_id _
  refine wpAny_bind (wpAny_holding (wpAny_call_entry slot_list_sort ⟨_, hoL, rfl⟩ entry_list_sort (PySem.W.list_sort_vals (κ := PySem.W.dataKind (PySem.W.sortingHeap (s1.heap.push (seqObj "list" vs.toArray 0)) s1.heap.objs.size vs) (zs.map id)) hoL
    (PySem.W.SortsAt.data (s := { s1 with heap := PySem.W.sortingHeap (s1.heap.push (seqObj "list" vs.toArray 0)) s1.heap.objs.size vs }) (by rw [hb]; exact ez') (by rw [hb]; exact hal') (by rw [hb]; exact hso') (fun d hd => ?_)) (by rw [sizeLine_eq]; omega) ⟨.none, rfl, ?_⟩) (args_list_sort _)))
  · rw [hb] at hd
    have := hu d (pz.mem_iff.mp hd)
    have hun : A.in1.in1.units ≤ A.units + 2 := by first | exact Nat.le_refl _ | (simp [Around.in1] <;> omega)
    first
      | omega
      | (have : A.in1.in1.in1.units ≤ A.units + 3 := by first | exact Nat.le_refl _ | (simp [Around.in1] <;> omega)
         omega)
      | (show _ + _ < cLine; omega)
  · obtain ⟨c, hc⟩ := sortedHeap_at (vs := vs) (out := List.toArray (PySem.W.sortVals (PySem.W.dataKind (PySem.W.sortingHeap (s1.heap.push (seqObj "list" vs.toArray 0)) s1.heap.objs.size vs) (zs.map id)) false vs vs)) hoL
    refine wpAny_pure ⟨_, rfl, hQ _ s1.heap.objs.size _ c zs (fun b u q => ?_) g1 o1 hz hc pz ?_ (PySem.W.sortVals_data (enc := id) false ez ez' (by rw [hb]; exact hal'))⟩
    · have q1 := k1 b u q
      have hlt := Heap.lt_size q1
      show (sortedHeap (s1.heap.push (seqObj "list" vs.toArray 0)) s1.heap.objs.size vs _).get? b = some u
      rw [sortedHeap_old (Nat.ne_of_lt hlt) (by rw [size_push']; exact Nat.lt_succ_of_lt hlt)]
      exact Heap.get?_push_of_some _ q1
    · rw [PySem.W.sortVals_length false rfl]
      exact hvl
end
end Q40
end

section
set_option maxRecDepth 100000
set_option maxHeartbeats 4000000
namespace Q40
open PySem PySem.Spec PyProof.Rows L2

def SetNO (P : Program) (w : World) (S : Addr) (L : List (Addr × NestedKey)) : Heap → Prop := fun h => ∃ es ep t, NSet P w h S L es ep t
theorem setNO_obj {P : Program} {w : World} {H : Hp} {h : Heap} {S : Addr} {L : List (Addr × NestedKey)} (q : SetNO P w S L h) : ObjOk P w H h S (.ext (SetNO P w S L)) := by
  obtain ⟨es, ep, t, R⟩ := id q
  obtain ⟨o, ho, _⟩ := R.ob
  refine ⟨q, ⟨o, ho⟩, fun h1 h2 p k => ?_⟩
  obtain ⟨es', ep', t', R'⟩ := p
  exact ⟨es', ep', t', R'.keep k⟩
theorem keys_of {K : PySem.W.Frag} {H : Hp} : ∀ {ds : List PyData} {vs : List V}, (∀ d ∈ ds, KeyD d) → DpAll K H vs ds → ∃ ks : List (Addr × NestedKey), vs = ks.map (fun p => V.ref p.1) ∧ ks.map (·.2) = ds.map nk
  | [], _, _, h => by cases h; exact ⟨[], rfl, rfl⟩
  | d :: ds, _, hk, h => by
    cases h with
    | cons h1 h2 =>
      obtain ⟨ks, e1, e2⟩ := keys_of (fun x hx => hk x (List.mem_cons_of_mem _ hx)) h2
      obtain ⟨xs, e⟩ := (hk d List.mem_cons_self).2.2
      have h1' := h1
      rw [e] at h1'
      obtain ⟨a, ys, rfl, _, _⟩ := dp_tup h1'
      exact ⟨(a, nk d) :: ks, by rw [e1]; rfl, by rw [List.map_cons, e2]; rfl⟩
section
variable {X : Cx} {pins : List (Addr × Obj)} {σ : L2.St} {H : Hp} {s : Shared}
theorem els_of (I : Inv X pins σ H s) : ∀ {ds : List PyData} {ks : List (Addr × NestedKey)}, (∀ d ∈ ds, KeyD d) → DpAll X.K H (ks.map fun p => V.ref p.1) ds → ks.map (·.2) = ds.map nk → ∀ p ∈ ks, El X.prog X.w s.heap p
  | [], [], _, _, _, _, h => by cases h
  | [], _ :: _, _, _, e, _, _ => by simp at e
  | _ :: _, [], _, _, e, _, _ => by simp at e
  | d :: ds, k :: ks, hk, h, e, p, hp => by
    rw [List.map_cons, List.map_cons, List.cons.injEq] at e
    rw [List.map_cons] at h
    cases h with
    | cons h1 h2 =>
      rcases List.mem_cons.mp hp with rfl | hp
      · have q := hk d List.mem_cons_self
        exact ⟨by rw [e.1]; exact nt_of d q.1, by rw [e.1]; exact nested_of I d _ _ q.1 h1 rfl, by rw [e.1]; exact q.2.1⟩
      · exact els_of I (fun x hx => hk x (List.mem_cons_of_mem _ hx)) h2 e.2 p hp
end
theorem vals_refs : ∀ {ks : List (Addr × NestedKey)} {us : List Value}, Vals (ks.map fun p => V.ref p.1) us → us = ks.map fun p => Value.ref p.1
  | [], _, .nil => rfl
  | p :: ks, _, .cons r t => by
    cases r
    rw [vals_refs t]
    rfl
theorem vals_refs' : ∀ (ks : List (Addr × NestedKey)), Vals (ks.map fun p => V.ref p.1) (ks.map fun p => Value.ref p.1)
  | [] => .nil
  | p :: ks => .cons rfl (vals_refs' ks)
section
variable {X : Cx}
def rSetN (X : Cx) : List V → Hp → VK → Prop := fun xs H Q => ∃ (l : Addr) (ks : List (Addr × NestedKey)) (ds : List PyData), xs = [V.ref l] ∧ SqT X.K H l (ks.map fun p => V.ref p.1) ∧ DpAll X.K H (ks.map fun p => V.ref p.1) ds ∧ ks.map (·.2) = ds.map nk ∧ (∀ d ∈ ds, KeyD d) ∧ ds.Nodup ∧ ds.length < 64 ∧
  ∀ S L, H S = none → L.Perm ks → Q (.ref S) (upd H S (.ext (SetNO X.prog X.w S L)))
theorem cr_setN {k : Nat} (hr : Room k X.A) (hc : X.calm = true) : CallR X (.type "set") (rSetN X) := by
  intro pins s σ H xs us Q I r h
  obtain ⟨l, ks, ds, rfl, hl, hd, hk, hkd, nd, few, q⟩ := h
  rw [Vals.ref1 r]
  obtain ⟨its, rv, pl, hz⟩ := I.tuple hl
  have hn : H s.heap.objs.size = none := I.hok.fresh (Nat.le_refl _)
  have hlen : ks.length = ds.length := by
    have := congrArg List.length hk
    rw [List.length_map, List.length_map] at this
    exact this
  have ndk : (ks.map (·.2)).Nodup := by
    rw [hk]
    exact List.Pairwise.map _ (fun a b hab => hab) (List.Pairwise.imp_of_mem (fun {a b} ha hb hne z => hne (nk_inj a b (hkd a ha).1 (hkd b hb).1 z)) nd)
  refine call_set_nested ks (I.ok.hd hc) (show s.heap.IsTuple l its.toArray from pl) (by simpa using vals_refs rv) (els_of I hkd hd hk) ndk (by omega) (by have := hr.un; omega) fun h' tk L es ep t R g kp => ?_
  exact ⟨.ref s.heap.objs.size, _, I.laid (t' := tk) kp (Nat.le_refl _) (setNO_obj ⟨es, ep, t, R⟩), rfl, q _ L hn g⟩
def rSortN (X : Cx) : List V → Hp → VK → Prop := fun xs H Q => ∃ (S : Addr) (L ks : List (Addr × NestedKey)) (ds : List PyData), xs = [V.ref S] ∧ H S = some (.ext (SetNO X.prog X.w S L)) ∧ L.Perm ks ∧ DpAll X.K H (ks.map fun p => V.ref p.1) ds ∧ PySem.W.AllAlike ds ∧ PySem.W.Sortable ds ∧ (∀ d ∈ ds, d.depth ≤ 10) ∧
  ∀ (ys : List V) (zs : List PyData) (p : Addr), zs.Perm ds → DpAll X.K H ys (zs.mergeSort leD) → H p = none → Q (.ref p) (upd H p (.lst ys))
theorem cr_sortN {k : Nat} (hr : Room k X.A) (hc : X.calm = true) : CallR X (.builtin "sorted") (rSortN X) := by
  intro pins s σ H xs us Q I r h
  obtain ⟨S, L, ks, ds, rfl, hS, pm, hd, hal, hso, hdep, q⟩ := h
  rw [Vals.ref1 r]
  obtain ⟨⟨es, ep, t, R⟩, _⟩ := I.hok S _ hS
  have e0 : PySem.W.EachIs (DpV X.K H) (ks.map fun p => Value.ref p.1) ds := each_dps hd (vals_refs' ks)
  obtain ⟨d1, p1, e1⟩ := each_perm (pm.map fun p => Value.ref p.1) e0
  have hlt := R.few
  have hdl : d1.length = L.length := by rw [← e1.length, List.length_map]
  refine sorted_nested R (I.ok.hd hc) e1 (fun u d ⟨v, r1, h1⟩ => Dp.reads I d v u h1 r1) (fun d hd d' hd' => hal d (p1.mem_iff.mp hd) d' (p1.mem_iff.mp hd')) ?_ (fun d hd => ?_) fun s' p out c zs kp g o hp hg pz ol ez => ?_
  · rcases hso with h | h
    · exact .inl fun d hd => h d (p1.mem_iff.mp hd)
    · exact .inr fun d hd => h d (p1.mem_iff.mp hd)
  · have h1 := hdep d (p1.mem_iff.mp hd)
    have h2 := hr.un
    omega
  · obtain ⟨ys, ry, hy⟩ := dps_each ez
    have hn : H p = none := I.hok.fresh hp
    have hlen : ys.length ≤ sizeLine := by
      rw [ry.length, ol, hdl, sizeLine_eq]; omega
    have J : Inv X pins σ (upd H p (.lst ys)) { s with heap := s'.heap, gens := s'.gens, drawn := s'.drawn, toks := s'.toks } :=
      I.call (ch := []) (Un.laid kp hp hn) (I.hok.laid kp hp ⟨hlen, out, c, ry, hg⟩) (by rw [g]; exact I.bare) (fun _ z => nomatch z)
    have e : s' = { s with heap := s'.heap, gens := s'.gens, drawn := s'.drawn, toks := s'.toks } := by
      cases s'
      cases s
      cases o
      rfl
    rw [e]
    exact ⟨.ref p, _, J, rfl, q ys zs p (pz.trans p1) hy hn⟩
variable {a : Expr} {ρ : DEnv} {ds : List PyData} {pos pf ps pg : Pos} {k : Nat}
/-- sorted(set(t)) -/
theorem en_sortset (hr : Room k X.A) (hc : X.calm = true) (B : NoB X.mg) (h : Ev X a ρ (.tuple ds)) (hkd : ∀ d ∈ ds, KeyD d) (nd : ds.Nodup) (few : ds.length < 64) (hal : PySem.W.AllAlike ds) (hso : PySem.W.Sortable ds) (hdep : ∀ d ∈ ds, d.depth ≤ 10) (hi : ∀ a ∈ ds, ∀ b ∈ ds, PySem.W.keyToks a = PySem.W.keyToks b → a = b)
    (hst : starEach [a] X.env = [(false, eval a X.env)] := by rfl) (hst2 : starEach [.Call (.Name "set" pg) [a] [] ps] X.env = [(false, eval (.Call (.Name "set" pg) [a] [] ps) X.env)] := by rfl) (hg : Gl X "sorted" := by rfl) (hg2 : Gl X "set" := by rfl)
    (hpl : (backTo pos (starEach [] X.env)).any (·.1) = false := by rfl) (hpl2 : (backTo ps (starEach [] X.env)).any (·.1) = false := by rfl) :
    EvN X (.Call (.Name "sorted" pf) [.Call (.Name "set" pg) [a] [] ps] [] pos) ρ (ds.mergeSort leD) := fun σ H E Q q => by
  refine EAt.of (pe_callB (cr_sortN hr hc) hg B.sorted bt_sorted (pa_cons (pe_callTy (cr_setN hr hc) hg2 B.set bt_set (pa_cons eat pa_nil hst) (he := hst) (hpl := hpl2)) pa_nil hst2) (he := hst2) (hpl := hpl)) ?_
  refine h σ H E _ fun v H1 s1 d1 => ?_
  obtain ⟨l, xs, rfl, h2, h3⟩ := dp_tup d1
  obtain ⟨ks, rfl, e2⟩ := keys_of hkd h3
  refine ⟨l, ks, ds, rfl, h2, h3, e2, hkd, nd, few, fun S L hS pm => ?_⟩
  have sS := same_upd (o := .ext (SetNO X.prog X.w S L)) hS
  refine ⟨S, L, ks, ds, rfl, upd_same, pm, dps_same sS _ _ h3, hal, hso, hdep, fun ys zs p pz hy hp => ?_⟩
  rw [sort_perm pz hi] at hy
  exact q p ys _ (back_none (s1.trans sS) hp) ((s1.trans sS).trans (same_upd hp)) upd_same (new_of hp hy)
end
end Q40
end

section
set_option maxRecDepth 100000
set_option maxHeartbeats 4000000
namespace Q40
open PySem PySem.Spec PyProof.Rows L2

theorem ScrN.same {K : PySem.W.Frag} {H H' : Hp} {v : V} {ns : List Int} (h : ScrN K H v ns) (s : Same H H') : ScrN K H' v ns := h.to (frz_same s)
section
variable {X : Cx} {sts : List Stmt} {ρ : DEnv} {DD : DEnds} {a b c d e : Expr} {ds : List PyData} {pos pt pl p1 p2 p3 p4 : Pos}
/-- row = [script, 0, n, 0] -/
theorem bk_row {i j : Nat} {x y : Str} {n : Int} {px : Pos} {j1 j2 j3 : Nat} {σ : L2.St} {H : Hp} {sv : V} {ns : List Int} (E : EnvD X.K H σ ρ) (hs : ScrN X.K H sv ns) (hσ : σ[i]? = some (some sv)) (hn0 : 0 ≤ n) (hn1 : n < 2147483647) (k : BkX X [j] sts ρ [.row] DD) (hN : X.N.Nodup) (h0 : ρ[j]? = some none)
    (hi : X.N[i]? = some x := by rfl) (hj : X.N[j]? = some y := by rfl) (hv : Vis X.env.scope x := by first | exact Or.inl rfl | exact Or.inr (Or.inl rfl) | exact Or.inr (Or.inr rfl)) (hdb : (x == ("__debug__" : Str)) = false := by decide) (hcd : (x == ("__classdict__" : Str)) = false := by decide)
    (hx : Loc X.env.scope y := by first | exact .inl rfl | exact .inr rfl) (hf : X.fn y = true ∨ X.env.scope.names.lookup y = some .local := by first | exact .inl rfl | exact .inr rfl)
    (ha : starEach [.Name x px, .Constant (.int 0) j1 p1, .Constant (.int n) j2 p2, .Constant (.int 0) j3 p3] X.env = (false, eval (.Name x px) X.env) :: starEach [.Constant (.int 0) j1 p1, .Constant (.int n) j2 p2, .Constant (.int 0) j3 p3] X.env := by rfl)
    (ha2 : starEach [.Constant (.int 0) j1 p1, .Constant (.int n) j2 p2, .Constant (.int 0) j3 p3] X.env = (false, eval (.Constant (.int 0) j1 p1) X.env) :: starEach [.Constant (.int n) j2 p2, .Constant (.int 0) j3 p3] X.env := by rfl)
    (ha3 : starEach [.Constant (.int n) j2 p2, .Constant (.int 0) j3 p3] X.env = (false, eval (.Constant (.int n) j2 p2) X.env) :: starEach [.Constant (.int 0) j3 p3] X.env := by rfl) (ha4 : starEach [.Constant (.int 0) j3 p3] X.env = [(false, eval (.Constant (.int 0) j3 p3) X.env)] := by rfl)
    (hsw : swapsWith (.List [.Name x px, .Constant (.int 0) j1 p1, .Constant (.int n) j2 p2, .Constant (.int 0) j3 p3] pl) (some (.Name y pt)) pos.line X.env = pure false := by rfl) :
    BAt X (.Assign [.Name y pt] (.List [.Name x px, .Constant (.int 0) j1 p1, .Constant (.int n) j2 p2, .Constant (.int 0) j3 p3] pl) pos :: sts) (endsD X.K H DD) σ H := by
  refine BAt.of (pss_cons (ps_set (i := j) hN hj hx (pe_lst (pa_cons (pe_var hi hv hdb hcd) (pa_cons pe_int (pa_cons pe_int (pa_cons pe_int pa_nil ha4) ha3) ha2) ha)) hsw hf) bat) ?_
  refine ⟨sv, hσ, ⟨by show 4 ≤ sizeLine; decide, fun D0 hD0 => ?_⟩⟩
  have s1 := same_upd (o := .lst [sv, .int 0, .int n, .int 0]) hD0
  have hjl : j < ρ.length := (List.getElem?_eq_some_iff.mp h0).1
  have fr : Same H (dels (upd H D0 (.lst [sv, .int 0, .int n, .int 0])) [D0]) := fun b o e => by
    have hne : b ≠ D0 := fun z => by rw [z, hD0] at e; cases e
    rw [dels_ne (fun z => hne (List.mem_singleton.mp z)), upd_ne hne]
    exact e
  refine k _ _ [D0] ⟨⟨by rw [List.length_set, E.len], fun m dd q => ?_⟩, ⟨fun z => ?_, trivial⟩, ⟨⟨sv, 0, n, 0, upd_same, ⟨ns, hs.same s1⟩, Int.le_refl 0, hn0, hn1, Int.le_refl 0⟩, trivial⟩, by simp⟩ H (fun b hb => by rw [List.mem_singleton.mp hb]; exact hD0) s1
  · by_cases hm : m = j
    · subst hm; rw [h0] at q; cases q
    · rw [List.getElem?_set_ne (Ne.symm hm)]
      obtain ⟨v, v1, v2⟩ := E.at_ m dd q
      exact ⟨v, v1, dp_same fr _ _ v2⟩
  · rw [List.length_set] at z
    exact List.getElem?_set_self z
/-- x, n = a new list, an int, with plain names -/
theorem bk_parnew {i j : Nat} {nm nj : Str} {kt k2 : Nat} {pa pb pc pe : Pos} {n : Int} (h : EvN X a ρ ds) (h2 : ∀ ρ, Ev X b ρ (.int n)) (k : BkX X [i] sts ((ρ.set i none).set j (some (.int n))) [.lst ds] DD) (hN : X.N.Nodup) (hil : i < ρ.length) (hij : i ≠ j := by decide) (hc : X.calm = true := by rfl)
    (hi : X.N[i]? = some nm := by rfl) (hj : X.N[j]? = some nj := by rfl) (hx : X.env.scope.names.lookup nm = some .local := by rfl) (hy : X.env.scope.names.lookup nj = some .local := by rfl)
    (hsa : starEach [a, b] X.env = (false, eval a X.env) :: starEach [b] X.env := by rfl) (hsb : starEach [b] X.env = [(false, eval b X.env)] := by rfl)
    (hw : swappedStores [.Tuple [.Name nm pa, .Name nj pb] kt pc] (.Tuple [a, b] k2 pe) X.env = pure (some [nm, nj]) := by rfl) (hs : swapsWithSole [.Tuple [.Name nm pa, .Name nj pb] kt pc] (.Tuple [a, b] k2 pe) pos.line X.env = pure false := by rfl) :
    Bk X (.Assign [.Tuple [.Name nm pa, .Name nj pb] kt pc] (.Tuple [a, b] k2 pe) pos :: sts) ρ DD := fun σ H E => by
  refine BAt.of (pss_cons (ps_par (i := i) (j := j) hc hN hi hj hij hx hy (pa_cons eat (pa_cons eat pa_nil hsb) hsa) hw hs) bat) ?_
  refine h σ H E _ fun D0 acc H' hn s h1 h2' => h2 ρ σ H' (E.same s) _ fun v H2 s2 d2 => ?_
  cases dp_int d2
  have hd : ∀ F : Hp, dels F [D0] = del F D0 := fun F => by
    funext b
    by_cases hb : b = D0
    · rw [hb, del_self, dels_in (List.mem_singleton.mpr rfl)]
    · rw [del_ne hb, dels_ne (fun z => hb (List.mem_singleton.mp z))]
  have hl' : i < σ.length := by rw [E.len]; exact hil
  have E2 : EnvD X.K (del H2 D0) σ ρ := E.same (same_to_del (s.trans s2) hn)
  refine ⟨.ref D0, .int n, rfl, k _ H2 [D0] ?_ H (fun b hb => by rw [List.mem_singleton.mp hb]; exact hn) (s.trans s2)⟩
  have E3 : EnvM X.K H2 (σ.set i (some (.ref D0))) [i] [D0] (ρ.set i none) [.lst ds] := by
    refine ⟨?_, ⟨fun _ => List.getElem?_set_self hl', trivial⟩, ⟨⟨acc, s2 _ _ h1, by rw [hd]; exact dps_same (same_del2 s2) _ _ h2'⟩, trivial⟩, by simp⟩
    rw [hd]
    refine ⟨by rw [List.length_set, List.length_set, E2.len], fun m d q => ?_⟩
    by_cases hm : m = i
    · subst hm
      rw [List.getElem?_set_self hil] at q
      cases q
    · rw [List.getElem?_set_ne (Ne.symm hm)] at q ⊢
      exact E2.at_ m d q
  exact E3.set (fun z => hij (List.mem_singleton.mp z).symm) (.int n)
end

/-! ### the law's test on lists of edge tuples -/
def tE (e : Ed) : TT' := .t [.i e.1, .i e.2]
def tEs (es : List Ed) : TT' := .t (es.map tE)
def tLs (l : List (List Ed)) : TT' := .t (l.map tEs)
theorem ttD_tE (e : Ed) : ttD (tE e) = eD e := by simp [tE, ttD, ttDs, eD]
theorem ttD_tEs (es : List Ed) : ttD (tEs es) = esT es := by
  rw [tEs, ttD, ttDs_map, List.map_map, esT]
  exact congrArg PyData.tuple (List.map_congr_left fun e _ => ttD_tE e)
theorem ttD_tLs (l : List (List Ed)) : ttD (tLs l) = .tuple (l.map esT) := by
  rw [tLs, ttD, ttDs_map, List.map_map]
  exact congrArg PyData.tuple (List.map_congr_left fun e _ => ttD_tEs e)
mutual
theorem alk_self : ∀ x : TT', alk x x = true
  | .i n => by simp [alk]
  | .t xs => by rw [alk]; exact alks_self xs
theorem alks_self : ∀ xs : List TT', alks xs xs = true
  | [] => by simp [alks]
  | x :: xs => by rw [alks, alk_self x, alks_self xs]; rfl
end
theorem hs_le {n : Nat} : ∀ {xs : List TT'}, (∀ x ∈ xs, ttH x ≤ n) → ttHs xs ≤ n
  | [], _ => Nat.zero_le _
  | x :: xs, h => by
    rw [ttHs]
    have h1 := h x List.mem_cons_self
    have h2 := hs_le fun y hy => h y (List.mem_cons_of_mem _ hy)
    omega
theorem nar_of : ∀ {xs : List TT'}, (∀ x ∈ xs, NarH x) → NarHs xs
  | [], _ => by simp [NarHs]
  | x :: xs, h => by
    rw [NarHs]
    exact ⟨h x List.mem_cons_self, nar_of fun y hy => h y (List.mem_cons_of_mem _ hy)⟩
theorem high_tE (e : Ed) : ttH (tE e) ≤ 1 := by simp [tE, ttH, ttHs]
theorem high_tEs (es : List Ed) : ttH (tEs es) ≤ 2 := by
  rw [tEs, ttH]
  have := hs_le (xs := es.map tE) (n := 1) fun x hx => by obtain ⟨e, _, rfl⟩ := List.mem_map.mp hx; exact high_tE e
  omega
theorem high_tLs (l : List (List Ed)) : ttH (tLs l) ≤ 3 := by
  rw [tLs, ttH]
  have := hs_le (xs := l.map tEs) (n := 2) fun x hx => by obtain ⟨e, _, rfl⟩ := List.mem_map.mp hx; exact high_tEs e
  omega
theorem nar_tE (e : Ed) : NarH (tE e) := by simp [tE, NarH, NarHs]
theorem nar_tLs {l : List (List Ed)} (h : l.length ≤ 500) (h2 : ∀ es ∈ l, es.length ≤ 500) : NarH (tLs l) := by
  rw [tLs, NarH, List.length_map]
  refine ⟨h, nar_of fun x hx => ?_⟩
  obtain ⟨es, he, rfl⟩ := List.mem_map.mp hx
  rw [tEs, NarH, List.length_map]
  exact ⟨h2 es he, nar_of fun y hy => by obtain ⟨e, _, rfl⟩ := List.mem_map.mp hy; exact nar_tE e⟩
/-! == of edge tuples -/
theorem eqv_esT : ∀ es fs : List Ed, PyData.eqvAll (es.map eD) (fs.map eD) = decide (es = fs)
  | [], [] => by simp [PyData.eqvAll]
  | [], f :: fs => by simp [PyData.eqvAll]
  | e :: es, [] => by simp [PyData.eqvAll]
  | e :: es, f :: fs => by
    rw [List.map_cons, List.map_cons, PyData.eqvAll, eqv_eD, eqv_esT es fs, Bool.eq_iff_iff]
    simp
theorem eqv_tup (es fs : List Ed) : PyData.eqv (esT es) (esT fs) = decide (es = fs) := by
  rw [esT, esT, PyData.eqv]
  exact eqv_esT es fs
theorem shaped_esT (es : List Ed) : SeqAt.shaped (esT es) = true := by
  show (PyData.canLay0 (esT es) && decide (PyData.depth (esT es) ≤ 64)) = true
  rw [Bool.and_eq_true]
  refine ⟨?_, decide_eq_true (by have := depth_esT es; omega)⟩
  rw [esT, PyData.canLay0]
  exact (shapes_eD es).1
theorem shapes_esT : ∀ l : List (List Ed), PyData.canLayAll0 (l.map esT) = true ∧ PyData.depthAll (l.map esT) ≤ 3
  | [] => by simp [PyData.canLayAll0, PyData.depthAll]
  | es :: l => by
    obtain ⟨h1, h2⟩ := shapes_esT l
    have h3 : (esT es).canLay0 = true := SeqAt.canLay_of_shaped (shaped_esT es)
    have h4 := depth_esT es
    simp only [List.map_cons, PyData.canLayAll0, PyData.depthAll, h3, h1, Bool.and_self, true_and]
    omega
theorem shapedL_esT (l : List (List Ed)) : SeqAt.shaped (.list (l.map esT)) = true := shaped_list (shapes_esT l).1 (by have := (shapes_esT l).2; omega)
theorem map_encR (rows : List Row) (fl : List Nat) : fl.map (encR rows) = (fl.map (edgesR rows)).map esT := by rw [List.map_map]; rfl
/-- sorting lists of masks -/
theorem sort_enc (rows : List Row) (L : List Nat) : ∃ M : List Nat, M.Perm L ∧ (L.map (encR rows)).mergeSort leD = M.map (encR rows) :=
  ⟨L.mergeSort fun a b => leD (encR rows a) (encR rows b), List.mergeSort_perm _ _, (List.map_mergeSort (f := encR rows) (s := leD) (r := fun a b => leD (encR rows a) (encR rows b)) fun a _ b _ => rfl).symm⟩
theorem toks_encR {rows : List Row} {fl : List Nat} : ∀ a ∈ fl.map (encR rows), ∀ b ∈ fl.map (encR rows), PySem.W.keyToks a = PySem.W.keyToks b → a = b := fun a ha b hb h => by
  obtain ⟨m, _, rfl⟩ := List.mem_map.mp ha
  obtain ⟨m', _, rfl⟩ := List.mem_map.mp hb
  have := toks_esT_inj (es := edgesR rows m) (fs := edgesR rows m') h
  unfold encR
  rw [this]
theorem alike_encR (rows : List Row) (fl : List Nat) : PySem.W.AllAlike (fl.map (encR rows)) := by rw [map_encR]; exact alike_esT _
theorem sortable_encR {rows : List Row} {fl : List Nat} (h : ∀ m ∈ fl, edgesR rows m ≠ []) : PySem.W.Sortable (fl.map (encR rows)) := by
  rw [map_encR]
  exact sortable_esT fun es he => by obtain ⟨m, hm, rfl⟩ := List.mem_map.mp he; exact h m hm
theorem depth_encR (rows : List Row) (fl : List Nat) : ∀ d ∈ fl.map (encR rows), d.depth ≤ 10 := fun d hd => by
  obtain ⟨m, _, rfl⟩ := List.mem_map.mp hd
  exact Nat.le_trans (depth_esT _) (by decide)
end Q40
end

section
set_option maxRecDepth 100000
set_option maxHeartbeats 8000000
namespace Q40
open PySem PySem.Spec PyProof.Rows L2

def convP (n : Nat) : List Pt := (List.range n).map fun (k : Nat) => ((k : Int), (k : Int) * k, 1)
theorem EvN.is {X : Cx} {e : Expr} {ρ : DEnv} {ds ds' : List PyData} (h : EvN X e ρ ds) (q : ds = ds') : EvN X e ρ ds' := q ▸ h
def adj (rows : List Row) (m m' : Nat) : Prop := ((edgesR rows m).filter fun e => !decide (e ∈ edgesR rows m')).length = 1
instance (rows : List Row) (m m' : Nat) : Decidable (adj rows m m') := by unfold adj; infer_instance
structure AOk (ps : List Pt) (rows : List Row) (L : List Nat) : Prop where
  T : Tabl ps rows
  I : PtsIn ps
  G : PtsG ps
  M0 : MOk rows [filGo rows rows 0]
  B : bfs rows 100 0 [filGo rows rows 0] = some L
  nd : L.Nodup
  lt : ∀ m ∈ L, m < 2 ^ rows.length
  cnt : (ps.length = 6 ∧ L.length = 14) ∨ (ps.length = 7 ∧ L.length = 42)
  ec : ∀ m ∈ L, (edgesR rows m).length = 2 * ps.length - 3
  gp : ∀ m ∈ L, ∀ i, i < ps.length → lpntT (tau ps) (edgesR rows m) i = true
  gc : ∀ m ∈ L, ∀ e ∈ edgesR rows m, ∀ f ∈ edgesR rows m, crsT (tau ps) e f = false
structure BOk (ps : List Pt) (rows : List Row) (L : List Nat) : Prop where
  T : LTab ps rows
  I : PtsIn ps
  M0 : MOk rows [filGo rows rows 0]
  B : bfs rows 100 0 [filGo rows rows 0] = some L
  few : L.length ≤ 300
  pos : L ≠ []
  nd : L.Nodup
  lt : ∀ m ∈ L, m < 2 ^ rows.length
  ne : ∀ m ∈ L, edgesR rows m ≠ []
  pm : L.Perm (lawL rows (2 * ps.length - 3))
  conn : ∀ m0 ∈ L, ∀ S : Nat → Prop, S m0 → (∀ m ∈ L, S m → ∀ m' ∈ L, adj rows m m' → S m') → ∀ m ∈ L, S m
/-- the law's own search so far -/
structure RInv (rows : List Row) (D : List Nat) (d0 : Nat) (rl : List Nat) (k t : Nat) : Prop where
  d : d0 ∈ rl
  nd : rl.Nodup
  sub : ∀ m ∈ rl, m ∈ D
  le : k ≤ rl.length
  at_ : k = t ∨ k = rl.length
  cl : ∀ i m, i < k → rl[i]? = some m → ∀ m' ∈ D, adj rows m m' → m' ∈ rl
theorem RInv.full {rows : List Row} {D : List Nat} {d0 : Nat} {rl : List Nat} {k : Nat} (h : RInv rows D d0 rl k D.length) (nd : D.Nodup) (hd : d0 ∈ D) (conn : ∀ m0 ∈ D, ∀ S : Nat → Prop, S m0 → (∀ m ∈ D, S m → ∀ m' ∈ D, adj rows m m' → S m') → ∀ m ∈ D, S m) : rl.length = D.length := by
  have le1 := nat_nodup_len rl D h.nd h.sub
  have hk : k = rl.length := by
    rcases h.at_ with e | e
    · have := h.le
      omega
    · exact e
  have all := conn d0 hd (· ∈ rl) h.d fun m _ hm m' hm' ha => by
    obtain ⟨i, hi⟩ := List.mem_iff_getElem?.mp hm
    exact h.cl i m (by rw [hk]; exact (List.getElem?_eq_some_iff.mp hi).1) hi m' hm' ha
  have le2 := nat_nodup_len D rl nd all
  omega
def spLaw (K : PySem.W.Frag) : Sp := fun vs H Q _ => ∃ (a : Addr) (ns : List Int), vs = [.ref a] ∧ ScrN K H (.ref a) ns ∧ ∀ H', Q (.bl true) H'
theorem lfree_tupR (rows : List Row) (M : List Nat) : lfree (.tuple (M.map (encR rows))) = true := by
  show lfreeAll _ = true
  exact lfree_of fun d hd => by obtain ⟨m, _, rfl⟩ := List.mem_map.mp hd; exact lfree_encR rows m
theorem alike_ok {rows : List Row} {M : List Nat} (hM : M.length ≤ 500) (he : ∀ m ∈ M, (edgesR rows m).length ≤ 500) : F_alike 3 [.tuple (M.map (encR rows)), .tuple (M.map (encR rows))] (.bool true) := by
  refine ⟨tLs (M.map (edgesR rows)), tLs (M.map (edgesR rows)), high_tLs _, nar_tLs (by rw [List.length_map]; exact hM) (fun es he' => by obtain ⟨m, hm, rfl⟩ := List.mem_map.mp he'; exact he m hm), ?_, ?_⟩
  · rw [ttD_tLs, map_encR]
  · rw [alk_self]
theorem base_conv {n : Nat} (hn : n ≤ 7) : ∀ p ∈ convP n, BaseP p := fun p hp => by
  obtain ⟨k, hk, rfl⟩ := List.mem_map.mp hp
  have h := List.mem_range.mp hk
  have h1 : (0 : Int) ≤ (k : Int) * k := Int.mul_nonneg (by omega) (by omega)
  have h2 : (k : Int) * k ≤ 7 * 7 := Int.mul_le_mul (by omega) (by omega) (by omega) (by decide)
  exact ⟨by show -2000 ≤ (k : Int); omega, by show (k : Int) ≤ 2000; omega, by show -2000 ≤ (k : Int) * k; omega, by show (k : Int) * k ≤ 2000; omega, rfl⟩
section
variable {P : Program} {w : World} {K : PySem.W.Frag} {mg : Str → Option Value} {base : Heap} {f : Addr} {fd : FuncData}
theorem ok_law (Fn : Fun K "law" "law" s_law f fd) (B : NoB mg) (HA : ∀ n ps, (n = 6 ∨ n = 7) → Moved (convP n) ps → ps.length = n ∧ ∃ rows L, AOk ps rows L) (HB : ∀ pts ps, Gpts pts → 2 ≤ pts.length → pts.length ≤ 5 → Moved pts ps → ∃ rows L, BOk ps rows L)
    (G1 : CalleeR P w K mg base "_law_taken" 1 Pre_taken Post_taken) (G2 : CalleeR P w K mg base "_law_moved" 3 Pre_moved Post_moved) (G3 : CalleeR P w K mg base "_law_general" 4 Pre_gen Post_gen) (G4 : Callee P w K mg base "all_pseudo" 7 F_all) (G5 : Callee P w K mg base "_law_alike" 4 (F_alike 3)) (G6 : Callee P w K mg base "_law_all_pseudo" 8 F_lall) (G7 : Callee P w K mg base "_law_good_edges" 7 F_good) :
    FnOk P w K mg base CX0 9 f fd ["_law_script"] (spLaw K) := by
  refine Fn.ok sc_law (fun vs H Q E h => ?_) (fun cdv A outer s H vs Q E hr hsp => ?_)
  · obtain ⟨a, ns, rfl, _⟩ := h
    rfl
  obtain ⟨a, ns, rfl, hs, q⟩ := hsp
  have E0 : EnvD K H (L2.start n_law [.ref a]) [some (.list (ns.map .int)), none, none, none, none, none, none, none, none, none, none, none, none] := envD_start (N := n_law) (dps_one hs.dp)
  have hcal : ∀ (m : Int), 0 < m → m ≤ 1000 → ∀ ds d, ds = [PyData.int m] → Post_taken ds d → IsI (fun k => 0 ≤ k ∧ k < m) d ∧ lfree d = true := fun m _ _ ds d e qq => by
    obtain ⟨m', k, e2, k0, k1, rfl⟩ := qq
    rw [e] at e2
    cases e2
    exact ⟨⟨k, rfl, k0, k1⟩, rfl⟩
  suffices main : BkX (bodyCx P w K mg base n_law "law" s_law f cdv A outer s H E) [1] ((defBody s_law).drop 1) [some (.list (ns.map .int)), none, none, none, none, none, none, none, none, none, none, none, none] [.row] { nx := fun _ => False, rt := fun d => d = .bool true } by
    refine ⟨_, bat, (bk_row (X := bodyCx P w K mg base n_law "law" s_law f cdv A outer s H E) (i := 0) (j := 1) E0 hs rfl (by decide) (by decide) main sc_law.nd rfl).imp (fun σ' H' z => ?_) (fun v H' z => ?_) (fun _ _ z => ?_) fun _ _ z => ?_⟩
    · obtain ⟨_, _, _, z⟩ := z
      exact z.elim
    · obtain ⟨_, d, d1, e⟩ := z
      have e' : d = .bool true := e
      subst e'
      cases dp_bool d1
      exact q H'
    · obtain ⟨_, _, _, z⟩ := z
      exact z
    · obtain ⟨_, _, _, z⟩ := z
      exact z
  refine bkX_cons (stM_ifM (PB := fun _ => True) (emt_eqI (p1 := fun k => 0 ≤ k ∧ k < 12) (p2 := (· = 0)) hr (em_call (PA1 := fun ds => ds = [.int 12]) G1 hr (by decide) (ema_cons (P1 := (· = .int 12)) (em_pure ev_int rfl rfl) fun d hd => ema_nil (by rw [hd])) (fun ds e => ⟨_, by decide, by decide, e⟩) (hcal 12 (by decide) (by decide)) (idx := 0) (i := 1) rfl rfl (by exact Nat.le_of_ble_eq_true rfl)) (em_pure ev_int rfl ⟨0, rfl, rfl⟩) fun _ _ _ _ => trivial) (fun _ => ?_) (fun _ => bkM_nil ?_))
  · -- convex places
    refine bkM_cons (stM_set (i := 2) (P := IsI fun m => m = 6 ∨ m = 7) (em_add (p1 := (· = 6)) (p2 := fun k => 0 ≤ k ∧ k < 2) (em_pure ev_int rfl ⟨6, rfl, rfl⟩) (em_call (PA1 := fun ds => ds = [.int 2]) G1 hr (by decide) (ema_cons (P1 := (· = .int 2)) (em_pure ev_int rfl rfl) fun d hd => ema_nil (by rw [hd])) (fun ds e => ⟨_, by decide, by decide, e⟩) (hcal 2 (by decide) (by decide)) (idx := 0) (i := 1) rfl rfl (by exact Nat.le_of_ble_eq_true rfl)) (fun i j h1 h2 => by omega)) (fun d hd => ?_) sc_law.nd)
    obtain ⟨mi, rfl, hmi⟩ := hd
    obtain ⟨n, hn, rfl⟩ : ∃ n : Nat, (n = 6 ∨ n = 7) ∧ mi = (n : Int) := ⟨mi.toNat, by omega, by omega⟩
    have hn7 : n ≤ 7 := by omega
    refine bkM_cons (stM_set (i := 3) (P := fun d => ∃ qs, Moved (convP n) qs ∧ d = ptsT qs) (em_call (PA1 := fun ds => ds = [ptsT (convP n)]) G2 hr (by decide) (ema_cons (P1 := (· = ptsT (convP n))) (em_pure (ev_tupleL B (EvN.ev (en_lcR (own := [("_law_k", 4)]) (m := n) B (ev_var 2) (fun _ => true) (fun k => pD ((k : Int), (k : Int) * k, 1)) (fun k => [some (.list (ns.map .int)), none, some (.int (n : Int)), none, some (.int (0 + (k : Int))), none, none, none, none, none, none, none, none])
        (fun k _ => tg_name (by decide)) (fun k _ _ _ _ _ _ => ets_nil) (fun k hk _ _ _ _ _ _ => Ev.evX (Ev.is (d := .tuple [.int (0 + (k : Int)), .int ((0 + (k : Int)) * (0 + (k : Int))), .int 1]) (ev_tup (ea_cons (ev_var 4) (ea_cons (ev_mul (ev_var 4) (ev_var 4) (mulL (by omega))) (ea_cons ev_int ea_nil)))) (by rw [Int.zero_add]; rfl)) (lfree_pD _)) (by omega)
        (fun _ _ _ _ _ => pg_name (i := 4) sc_law.nd rfl (.inl rfl)) (blkOk_by (N := n_law) (sc := defScope s_law) (by decide +kernel)) sc_law.nd))) (by
          show lfreeAll _ = true
          exact lfree_of fun d hd => by obtain ⟨p, _, rfl⟩ := List.mem_map.mp hd; rfl) (by
          show PyData.tuple _ = PyData.tuple _
          unfold convP
          rw [List.filter_eq_self.mpr fun _ _ => rfl, List.map_map]
          rfl)) fun d hd => ema_nil (by rw [hd])) (fun ds e => ⟨convP n, by rw [convP, List.length_map, List.length_range]; omega, base_conv hn7, e⟩) (fun ds d e qq => by
        obtain ⟨ps, qs, e2, hm, rfl⟩ := qq
        rw [e] at e2
        have e3 : convP n = ps := by
          have e4 : ptsT (convP n) = ptsT ps := by injection e2
          have e5 : (convP n).map pD = ps.map pD := by unfold ptsT at e4; injection e4
          exact (List.map_inj_right (fun a b h => by
            have := eqv_pD a b
            rw [h, eqv_pD] at this
            simpa using this)).mp e5
        rw [← e3] at hm
        exact ⟨⟨qs, hm, rfl⟩, lfree_ptsT qs⟩) (idx := 0) (i := 1) rfl rfl (by exact Nat.le_of_ble_eq_true rfl)) (fun d hd => ?_) sc_law.nd)
    obtain ⟨ps, hmv, rfl⟩ := hd
    obtain ⟨hpl, rows, L, O⟩ := HA n ps hn hmv
    subst hpl
    obtain ⟨M, pm, eM⟩ := sort_enc rows L
    have hLM : M.length = L.length := pm.length_eq
    have hLn : L.length ≤ 42 := by rcases O.cnt with ⟨_, h⟩ | ⟨_, h⟩ <;> omega
    have hMne : ∀ m ∈ M, edgesR rows m ≠ [] := fun m hm z => by
      have := O.ec m (pm.mem_iff.mp hm)
      rw [z] at this
      have h1 := O.T.lo
      have h2 : (0 : Nat) = 2 * ps.length - 3 := this
      omega
    refine bkM_cons (stM_set (i := 5) (em_pure (P := (· = .tuple (M.map (encR rows)))) ((ev_call G4 hr (by decide) (ea_cons (ev_var 3) ea_nil) ⟨ps, rows, L, O.T, O.I, O.B, by omega, O.M0, rfl, rfl⟩).is (by rw [eM])) (lfree_tupR rows M) rfl) (fun d e => ?_) sc_law.nd)
    subst e
    have hsrt : (M.map (encR rows)).mergeSort leD = M.map (encR rows) := by
      rw [sort_perm (pm.map (encR rows)) toks_encR, eM]
    have hnd : (M.map (encR rows)).Nodup := by
      refine List.Pairwise.map _ (fun a b h => h) (List.Pairwise.imp_of_mem (R := (· ≠ ·)) (fun {a b} ha hb hne z => hne (encR_inj O.T.R O.T.nd (O.lt a (pm.mem_iff.mp ha)) (O.lt b (pm.mem_iff.mp hb)) z)) (pm.nodup_iff.mpr O.nd))
    have hMl : (M.map (encR rows)).length = M.length := List.length_map _
    refine bkM_cons (stM_if (p := false) (et_w (ew_or (p := false) (q := false) (et_not (p := true) (et_val (ev_call G5 hr (by decide) (ea_cons (ev_var 5) (ea_cons (ev_tupleL B (EvN.ev (en_sortset hr rfl B (ev_var 5) (keyD_all rows M) hnd (by rw [hMl]; omega) (alike_encR rows M) (sortable_encR hMne) (depth_encR rows M) toks_encR))) ea_nil)) (by rw [hsrt]; exact alike_ok (by omega) fun m hm => by have := edges_len O.T.R O.T.hi m; omega)))) fun _ =>
      ew_or1 ((et_ne hr (ev_lenT B (ev_var 5)) (ev_ixL (ds := [.int 14, .int 42]) (d := .int (M.length : Int)) (ev_lst (ea_cons ev_int (ea_cons ev_int ea_nil))) (ev_sub (ev_var 2) ev_int) ?_) (shaped_int _) (shaped_int _)).is (by rw [hMl, eqv_int]; simp)))) (fun h => by cases h) fun _ => bkM_nil ?_)
    · rcases O.cnt with ⟨h1, h2⟩ | ⟨h1, h2⟩
      · rw [h1, hLM, h2]; rfl
      · rw [h1, hLM, h2]; rfl
    refine bkM_cons (stM_ret (em_pure (P := (· = .bool true)) (Ev.is (d := .bool (PyData.eqv (.list []) (.list []))) (ev_eq hr (EvN.ev (EvN.is (ds' := []) (en_lcT (own := [("_law_edges", 6)]) (xs := M) (enc := encR rows) (fun _ => false) (encR rows) (fun m => [some (.list (ns.map .int)), none, some (.int (ps.length : Int)), some (ptsT ps), none, some (.tuple (M.map (encR rows))), some (encR rows m), none, none, none, none, none, none]) (ev_var 5)
        (fun m _ => tg_name (by decide)) (fun m hm _ _ _ _ _ => ets_one (et_w (ew_or (p := false) (q := false) ((et_ne hr (ev_lenT B (ev_var 6)) (ev_sub (ev_mul ev_int (ev_var 2) (.inl (by decide))) ev_int) (shaped_int _) (shaped_int _)).is ?_) fun _ => ew_or1 (et_not (p := true) (et_val (ev_call G7 hr (by decide) (ea_cons (ev_var 3) (ea_cons (ev_var 6) ea_nil)) ⟨ps, edgesR rows m, O.G, by have := edges_len O.T.R O.T.hi m; omega, fun e he => ?_, O.gp m (pm.mem_iff.mp hm), O.gc m (pm.mem_iff.mp hm), rfl, rfl⟩)))))) (fun _ _ h => by cases h) (by omega)
        (fun _ _ _ _ _ => pg_name (i := 6) sc_law.nd rfl (.inl rfl)) (blkOk_by (N := n_law) (sc := defScope s_law) (by decide +kernel)) sc_law.nd) ?_)) (ev_lst ea_nil) (shapedL_nD []) (shapedL_nD [])) (by simp [PyData.eqv, PyData.eqvAll])) rfl rfl) (fun d e => e))
    · rw [len_encR, O.ec m (pm.mem_iff.mp hm), eqv_int]
      have h1 := O.T.lo
      rw [Bool.not_eq_false', decide_eq_true_eq]
      omega
    · obtain ⟨o, ho, _, rfl⟩ := (rep_edges rows m e).mp he
      exact ⟨(O.T.rin ho).1, (O.T.rin ho).2, O.T.R.ne o ho⟩
    · rw [List.filter_eq_nil_iff.mpr fun _ _ => by decide]
      rfl
  · -- general places
    refine bkX_cons (stM_set (i := 3) (P := fun d => ∃ pts qs, Gpts pts ∧ 2 ≤ pts.length ∧ pts.length ≤ 5 ∧ Moved pts qs ∧ d = ptsT qs) (em_call (PA1 := fun ds => ∃ pts, Gpts pts ∧ 2 ≤ pts.length ∧ pts.length ≤ 5 ∧ ds = [ptsT pts]) G2 hr (by decide) (ema_cons (P1 := fun d => ∃ pts, Gpts pts ∧ 2 ≤ pts.length ∧ pts.length ≤ 5 ∧ d = ptsT pts)
      (em_call (PA1 := fun ds => ds = [.int 2, .int 5]) G3 hr (by decide) (ema_cons (P1 := (· = .int 2)) (em_pure ev_int rfl rfl) fun d1 h1 => ema_cons (P1 := (· = .int 5)) (em_pure ev_int rfl rfl) fun d2 h2 => ema_nil (by rw [h1, h2])) (fun ds e => e) (fun ds d e qq => by
        obtain ⟨pts, g, h1, h2, rfl⟩ := qq
        exact ⟨⟨pts, g, h1, h2, rfl⟩, lfree_ptsT pts⟩) (idx := 0) (i := 1) rfl rfl (by exact Nat.le_of_ble_eq_true rfl)) fun d hd => ema_nil (by
        obtain ⟨pts, g, h1, h2, rfl⟩ := hd
        exact ⟨pts, g, h1, h2, rfl⟩)) (fun ds e => by
        obtain ⟨pts, g, h1, h2, rfl⟩ := e
        exact ⟨pts, by omega, g.base, rfl⟩) (fun ds d e qq => by
        obtain ⟨pts, g, h1, h2, e1⟩ := e
        obtain ⟨ps, qs, e2, hm, rfl⟩ := qq
        rw [e1] at e2
        have e3 : pts = ps := by
          have e4 : ptsT pts = ptsT ps := by injection e2
          have e5 : pts.map pD = ps.map pD := by unfold ptsT at e4; injection e4
          exact (List.map_inj_right (fun a b h => by
            have := eqv_pD a b
            rw [h, eqv_pD] at this
            simpa using this)).mp e5
        rw [← e3] at hm
        exact ⟨⟨pts, qs, g, h1, h2, hm, rfl⟩, lfree_ptsT qs⟩) (idx := 0) (i := 1) rfl rfl (by exact Nat.le_of_ble_eq_true rfl)) (fun d hd => ?_) sc_law.nd)
    obtain ⟨pts, ps, g, hp2, hp5, hmv, rfl⟩ := hd
    obtain ⟨rows, L, O⟩ := HB pts ps g hp2 hp5 hmv
    have T := O.T.toTabl
    refine bkX_out ?_
    obtain ⟨M, pm, eM⟩ := sort_enc rows L
    have hLM : M.length = L.length := pm.length_eq
    have hfew := O.few
    have hMne : ∀ m ∈ M, edgesR rows m ≠ [] := fun m hm => O.ne m (pm.mem_iff.mp hm)
    have hMlt : ∀ m ∈ M, m < 2 ^ rows.length := fun m hm => O.lt m (pm.mem_iff.mp hm)
    have hMnd : M.Nodup := pm.nodup_iff.mpr O.nd
    have hMl : (M.map (encR rows)).length = M.length := List.length_map _
    have eD : ((lawL rows (2 * ps.length - 3)).map (encR rows)).mergeSort leD = M.map (encR rows) := by
      rw [sort_perm (O.pm.symm.map (encR rows)) toks_encR, eM]
    refine bk_cons (st_set (i := 7) (EvN.ev (EvN.is (en_sorted hr B (ev_call G6 hr (by decide) (ea_cons (ev_var 3) ea_nil) ⟨ps, rows, O.T, rfl, rfl⟩) (alike_encR rows _) (sortable_encR fun m hm => O.ne m (O.pm.mem_iff.mpr hm)) (depth_encR rows _)) eD)) ?_ sc_law.nd)
    refine bk_cons (st_if (p := false) (et_not (p := true) (et_val (ev_call G5 hr (by decide) (ea_cons ((ev_call G4 hr (by decide) (ea_cons (ev_var 3) ea_nil) ⟨ps, rows, L, T, O.I, O.B, by omega, O.M0, rfl, rfl⟩).is (by rw [eM])) (ea_cons (ev_tupleL B (ev_var 7)) ea_nil)) (alike_ok (by omega) fun m hm => by have := edges_len T.R T.hi m; omega)))) (fun h => by cases h) fun _ => bk_nil ?_)
    obtain ⟨d0, M1, hM1⟩ : ∃ d0 M1, M = d0 :: M1 := by
      cases M with
      | nil =>
        have := List.length_eq_zero_iff.mp (show L.length = 0 by rw [← hLM]; rfl)
        exact absurd this O.pos
      | cons d0 M1 => exact ⟨d0, M1, rfl⟩
    have hd0 : M[0]? = some d0 := by rw [hM1]; rfl
    have hd0m : d0 ∈ M := List.mem_of_getElem? hd0
    refine bk_parnew (i := 8) (j := 9) (n := 0) (ds := [encR rows d0]) (ev_lstN (ea_cons (ev_ixL (ev_var 7) ev_int (atI_map (i := 0) hd0)) ea_nil) (by show (lfree _ && true) = true; rw [lfree_encR]; rfl)) (fun _ => ev_int) ?_ sc_law.nd (by exact Nat.le_of_ble_eq_true rfl)
    refine bkX_cons (stM_forR B (j := 10) (m := M.length) ((ev_lenL B (ev_var 7)).is (by rw [hMl])) (by omega) (fun t ρ cs => ∃ (k : Nat) (rl : List Nat) (u10 u11 : Option PyData), RInv rows M d0 rl k t ∧ ρ = [some (.list (ns.map .int)), none, none, some (ptsT ps), none, none, none, some (.list (M.map (encR rows))), none, some (.int (k : Int)), u10, u11, none] ∧ cs = [.lst (rl.map (encR rows))])
      ⟨0, [d0], _, _, ⟨by simp, by simp, fun m hm => by rw [List.mem_singleton.mp hm]; exact hd0m, Nat.zero_le _, .inl rfl, fun i m h => by omega⟩, rfl, rfl⟩ (fun t ρ' cs' ht hI => ?_) (fun ρ' cs' hI => ?_) PassesOwn.never sc_law.nd)
    · obtain ⟨k, rl, u10, u11, hR, rfl, rfl⟩ := hI
      have hrl : (rl.map (encR rows)).length = rl.length := List.length_map _
      refine bkM_cons (stM_if (p := decide (k < rl.length)) ((et_lt (ev_var 9) (ev_lenL B (ev_var 8))).is (by rw [hrl, decide_eq_decide]; omega)) (fun hp => ?_) (fun hp => bkM_nil (bkM_nil ⟨k, rl, _, _, ⟨hR.d, hR.nd, hR.sub, hR.le, ?_, hR.cl⟩, rfl, rfl⟩)))
      · rw [decide_eq_true_eq] at hp
        have hmk := List.getElem?_eq_getElem hp
        generalize rl[k] = mk at hmk
        refine bkM_cons (stM_forL (j := 11) (xs := M) (enc := encR rows) (em_var 7 rfl rfl) (fun i ρ cs => ∃ (r2 : List Nat) (u11 : Option PyData), (∃ z, r2 = rl ++ z) ∧ r2.Nodup ∧ (∀ m ∈ r2, m ∈ M) ∧ (∀ j m', j < i → M[j]? = some m' → adj rows mk m' → m' ∈ r2) ∧ ρ = [some (.list (ns.map .int)), none, none, some (ptsT ps), none, none, none, some (.list (M.map (encR rows))), none, some (.int (k : Int)), some (.int (t : Int)), u11, none] ∧ cs = [.lst (r2.map (encR rows))])
          ⟨rl, _, ⟨[], by rw [List.append_nil]⟩, hR.nd, hR.sub, fun j m' h => by omega, rfl, rfl⟩ (fun i mo ρ' cs' hi hI => ?_) (fun ρ' cs' hI => ?_) PassesOwn.never sc_law.nd)
        · obtain ⟨r2, u11, ⟨z, hz⟩, hnd2, hsub2, had, rfl, rfl⟩ := hI
          have hr2 : (r2.map (encR rows)).length = r2.length := List.length_map _
          have hmo : mo ∈ M := List.mem_of_getElem? hi
          have hmk2 : r2[k]? = some mk := by rw [hz, List.getElem?_append_left hp]; exact hmk
          have hin : ((r2.map (encR rows)).any fun x => PyData.eqv x (encR rows mo)) = decide (mo ∈ r2) := by
            rw [Bool.eq_iff_iff, List.any_eq_true, decide_eq_true_eq]
            constructor
            · rintro ⟨x, hx, e⟩
              obtain ⟨m, hm, rfl⟩ := List.mem_map.mp hx
              unfold encR at e
              rw [eqv_tup, decide_eq_true_eq] at e
              rw [← edges_inj T.R T.nd (hMlt m (hsub2 m hm)) (hMlt mo hmo) e]
              exact hm
            · intro hm
              refine ⟨encR rows mo, List.mem_map.mpr ⟨mo, hm, rfl⟩, ?_⟩
              unfold encR
              rw [eqv_tup]
              simp
          have hlen2 : r2.length ≤ M.length := nat_nodup_len r2 M hnd2 hsub2
          refine bkM_cons (stM_if (p := !decide (mo ∈ r2) && decide (adj rows mk mo)) (et_w (ew_and ((et_ninL hr (ev_var 11) (ev_var 8) (shaped_esT _) (by rw [map_encR]; exact shapedL_esT _)).is (by exact congrArg not hin)) fun _ => ew_and1 ((et_eq hr (ev_lenL B (EvN.ev (en_lcT (own := [("_law_edge", 12)]) (xs := edgesR rows mk) (enc := Q40.eD) (fun e => !decide (e ∈ edgesR rows mo)) Q40.eD (fun e => [some (.list (ns.map .int)), none, none, some (ptsT ps), none, none, none, some (.list (M.map (encR rows))), some (.list (r2.map (encR rows))), some (.int (k : Int)), some (.int (t : Int)), some (encR rows mo), some (Q40.eD e)]) (Ev.is (d := encR rows mk) (ev_ixL (ds := r2.map (encR rows)) (ev_var 8) (ev_var 9) (atI_map hmk2)) rfl)
              (fun e _ => tg_name (by decide)) (fun e _ _ _ _ _ _ => ets_one ((et_ninT hr (ev_var 12) (Ev.is (d := .tuple ((edgesR rows mo).map Q40.eD)) (ev_var 11) rfl) (shaped_eD e) (shapedL_eD _)).is (by rw [any_eD]))) (fun e _ _ _ _ _ _ _ => Ev.evX (ev_var 12) (lfree_eD _)) (by have := edges_len T.R T.hi mk; omega)
              (fun _ _ _ _ _ => pg_name (i := 12) sc_law.nd rfl (.inl rfl)) (blkOk_by (N := n_law) (sc := defScope s_law) (by decide +kernel)) sc_law.nd))) ev_int (shaped_int _) (shaped_int _)).is (by rw [List.length_map, eqv_int, decide_eq_decide]; unfold adj; omega)))) (fun hp => ?_) (fun hp => bkM_nil (bkM_nil ⟨r2, _, ⟨z, hz⟩, hnd2, hsub2, fun j m' hj hm' ha => ?_, rfl, rfl⟩)))
          · rw [Bool.and_eq_true, Bool.not_eq_true', decide_eq_false_iff_not] at hp
            refine bkM_cons (stM_app (k := 0) (i := 8) (em_pure (P := (· = encR rows mo)) (ev_var 11) (lfree_encR rows _) rfl) rfl rfl (by rw [hr2]; omega) (by exact Nat.le_of_ble_eq_true rfl) (fun d e => bkM_nil (bkM_nil ⟨r2 ++ [mo], _, ⟨z ++ [mo], by rw [hz, List.append_assoc]⟩, ?_, fun m hm => ?_, fun j m' hj hm' ha => ?_, rfl, ?_⟩)))
            · rw [List.nodup_append]
              refine ⟨hnd2, by simp, fun x hx y hy => ?_⟩
              rw [List.mem_singleton.mp hy]
              exact fun e => hp.1 (e ▸ hx)
            · rcases List.mem_append.mp hm with h | h
              · exact hsub2 m h
              · rw [List.mem_singleton.mp h]; exact hmo
            · by_cases hji : j < i
              · exact List.mem_append_left _ (had j m' hji hm' ha)
              · have : j = i := by omega
                subst this
                rw [hi] at hm'
                cases hm'
                exact List.mem_append_right _ (List.mem_singleton.mpr rfl)
            · subst e
              rw [List.map_append]
              rfl
          · by_cases hji : j < i
            · exact had j m' hji hm' ha
            · have : j = i := by omega
              subst this
              rw [hi] at hm'
              cases hm'
              rw [Bool.and_eq_false_iff, Bool.not_eq_false', decide_eq_true_eq, decide_eq_false_iff_not] at hp
              rcases hp with h | h
              · exact h
              · exact absurd ha h
        · obtain ⟨r2, u11, ⟨z, hz⟩, hnd2, hsub2, had, rfl, rfl⟩ := hI
          refine bkM_cons (stM_set (i := 9) (em_pure (P := (· = .int ((k + 1 : Nat) : Int))) (Ev.is (ev_add (ev_var 9) ev_int) (by rw [Int.natCast_add]; rfl)) rfl rfl) (fun d e => bkM_nil (bkM_nil ⟨k + 1, r2, some (.int (t : Int)), u11, ⟨?_, hnd2, hsub2, ?_, ?_, fun i m hik hm m' hm' ha => ?_⟩, ?_, rfl⟩)) sc_law.nd)
          · rw [hz]; exact List.mem_append_left _ hR.d
          · rw [hz, List.length_append]; omega
          · left
            rcases hR.at_ with h | h
            · omega
            · omega
          · by_cases hik2 : i < k
            · have hm2 : rl[i]? = some m := by
                rw [hz, List.getElem?_append_left (by omega)] at hm
                exact hm
              have := hR.cl i m hik2 hm2 m' hm' ha
              rw [hz]; exact List.mem_append_left _ this
            · have : i = k := by omega
              subst this
              rw [hz, List.getElem?_append_left hp, hmk] at hm
              cases hm
              obtain ⟨j, hj⟩ := List.mem_iff_getElem?.mp hm'
              exact had j m' (List.getElem?_eq_some_iff.mp hj).1 hj ha
          · subst e
            rfl
      · rw [decide_eq_false_iff_not] at hp
        right
        have := hR.le
        omega
    · obtain ⟨k, rl, u10, u11, hR, rfl, rfl⟩ := hI
      have hrl : (rl.map (encR rows)).length = rl.length := List.length_map _
      have hfin := hR.full hMnd hd0m (fun m0 hm0 S h0 hs m hm => O.conn m0 (pm.mem_iff.mp hm0) S h0 (fun a ha hSa b hb hab => hs a (pm.mem_iff.mpr ha) hSa b (pm.mem_iff.mpr hb) hab) m (pm.mem_iff.mp hm))
      refine bkX_out (bk_cons (st_ret (ev_eq hr (ev_lenL B (ev_var 8)) (ev_lenL B (ev_var 7)) (shaped_int _) (shaped_int _)) ?_))
      show PyData.bool _ = PyData.bool true
      rw [hrl, hMl, eqv_int, hfin]
      simp
end
end Q40
end

section
set_option maxRecDepth 100000
set_option maxHeartbeats 4000000
namespace Q40
open PySem PySem.Spec PyProof.Rows L2

/-! ### tables by signs -/
def tix (i j k : Nat) : Nat := i + j * (j - 1) / 2 + k * (k - 1) * (k - 2) / 6
def sg (sv i j k : Nat) : Int := bif Nat.testBit sv (tix i j k) then 1 else -1
def tauS (sv i j k : Nat) : Int := bif Nat.blt j k then sg sv i j k else bif Nat.blt k i then sg sv k i j else bif Nat.blt i k && Nat.blt k j then -(sg sv i k j) else 0
def tauV (sv : Nat) : Tau := fun i j k => bif Nat.blt i j then tauS sv i j k else bif Nat.blt j i then -(tauS sv j i k) else 0
def rowOf (n : Nat) (t : Tau) (ps : List Ed) (p : Nat) (e : Ed) : Row :=
  { i := p, a := e.1, b := e.2, X := mk n (fun q => crsT t (ps.getD q (0, 0)) e) ps.length
    Ra := mk n (fun q => atE (ps.getD q (0, 0)) e.1 && (!decide (oth (ps.getD q (0, 0)) e.1 = e.2) && decide (t e.1 e.2 (oth (ps.getD q (0, 0)) e.1) < 0))) ps.length
    Rb := mk n (fun q => atE (ps.getD q (0, 0)) e.2 && (!decide (oth (ps.getD q (0, 0)) e.2 = e.1) && decide (t e.2 e.1 (oth (ps.getD q (0, 0)) e.2) < 0))) ps.length
    La := mk n (fun q => atE (ps.getD q (0, 0)) e.1 && decide (0 < t e.1 e.2 (oth (ps.getD q (0, 0)) e.1))) ps.length
    Lb := mk n (fun q => atE (ps.getD q (0, 0)) e.2 && decide (0 < t e.2 e.1 (oth (ps.getD q (0, 0)) e.2))) ps.length
    out := outT t n e }
def rowsFrom (n : Nat) (t : Tau) (ps : List Ed) : Nat → List Ed → List Row
  | _, [] => []
  | p, e :: es => rowOf n t ps p e :: rowsFrom n t ps (p + 1) es
def rowsT (n : Nat) (t : Tau) : List Row := rowsFrom n t (pairsN n) 0 (pairsN n)
theorem rowsFrom_get (n : Nat) (t : Tau) (ps : List Ed) : ∀ (es : List Ed) (p k : Nat), (rowsFrom n t ps p es)[k]? = (es[k]?).map fun e => rowOf n t ps (p + k) e
  | [], p, k => by simp [rowsFrom]
  | e :: es, p, 0 => by simp [rowsFrom]
  | e :: es, p, k + 1 => by
    rw [rowsFrom, List.getElem?_cons_succ, List.getElem?_cons_succ, rowsFrom_get n t ps es (p + 1) k, show p + 1 + k = p + (k + 1) by omega]
/-- tables of one sign function serve another that agrees with it -/
theorem rowsT_ok {n : Nat} {t t' : Tau} (h : ∀ i j k, i < n → j < n → k < n → t i j k = t' i j k) (hne : ∀ e ∈ pairsN n, e.1 ≠ e.2) : RowsOk n t (rowsT n t') := by
  have get : ∀ k r, (rowsT n t')[k]? = some r → ∃ e, (pairsN n)[k]? = some e ∧ r = rowOf n t' (pairsN n) k e := fun k r hr => by
    unfold rowsT at hr
    rw [rowsFrom_get, Nat.zero_add] at hr
    cases q : (pairsN n)[k]? with
    | none => rw [q] at hr; cases hr
    | some e => rw [q] at hr; exact ⟨e, rfl, (Option.some.inj hr).symm⟩
  have mem : ∀ r ∈ rowsT n t', ∃ k e, (pairsN n)[k]? = some e ∧ r = rowOf n t' (pairsN n) k e := fun r hr => by
    obtain ⟨k, hk⟩ := List.mem_iff_getElem?.mp hr
    obtain ⟨e, h1, h2⟩ := get k r hk
    exact ⟨k, e, h1, h2⟩
  have inn : ∀ {k : Nat} {e : Ed}, (pairsN n)[k]? = some e → e.1 < n ∧ e.2 < n := fun hk => pairsN_in (List.mem_of_getElem? hk)
  have len : (rowsT n t').length = (pairsN n).length := by
    have : ∀ (es : List Ed) (p : Nat), (rowsFrom n t' (pairsN n) p es).length = es.length := by
      intro es
      induction es with
      | nil => intro p; rfl
      | cons e es ih => intro p; rw [rowsFrom, List.length_cons, List.length_cons, ih]
    exact this _ _
  have crs : ∀ {e f : Ed}, e.1 < n ∧ e.2 < n → f.1 < n ∧ f.2 < n → crsT t e f = crsT t' e f := fun he hf => by
    unfold crsT
    rw [h _ _ _ he.1 he.2 hf.1, h _ _ _ he.1 he.2 hf.2, h _ _ _ hf.1 hf.2 he.1, h _ _ _ hf.1 hf.2 he.2]
  have othn : ∀ {e : Ed} {v : Nat}, e.1 < n ∧ e.2 < n → oth e v < n := fun he => by
    unfold oth
    split
    · exact he.2
    · exact he.1
  have D : ∀ {k : Nat} {e : Ed}, (pairsN n)[k]? = some e → (pairsN n).getD k (0, 0) = e := fun hk => by rw [List.getD_eq_getElem?_getD, hk]; rfl
  have L : ∀ {k : Nat} {e : Ed}, (pairsN n)[k]? = some e → k < (pairsN n).length := fun hk => (List.getElem?_eq_some_iff.mp hk).1
  refine { prs := ?_, ix := ?_, X := ?_, Ra := ?_, Rb := ?_, La := ?_, Lb := ?_, out := ?_, ne := ?_, bd := ?_ }
  · apply List.ext_getElem?
    intro k
    rw [List.getElem?_map]
    unfold rowsT
    rw [rowsFrom_get, Option.map_map]
    cases (pairsN n)[k]? with
    | none => rfl
    | some e => rfl
  · intro k r hr
    obtain ⟨e, _, rfl⟩ := get k r hr
    rfl
  · intro r hr o ho
    obtain ⟨k, e, hk, rfl⟩ := mem r hr
    obtain ⟨l, f, hl, rfl⟩ := mem o ho
    show Nat.testBit (mk _ _ _) l = crsT t f e
    rw [tb_mk, decide_eq_true (L hl), Bool.true_and, D hl, crs (inn hl) (inn hk)]
  · intro r hr o ho
    obtain ⟨k, e, hk, rfl⟩ := mem r hr
    obtain ⟨l, f, hl, rfl⟩ := mem o ho
    show Nat.testBit (mk _ _ _) l = (atE f e.1 && (!decide (oth f e.1 = e.2) && decide (t e.1 e.2 (oth f e.1) < 0)))
    rw [tb_mk, decide_eq_true (L hl), Bool.true_and, D hl, h _ _ _ (inn hk).1 (inn hk).2 (othn (inn hl))]
  · intro r hr o ho
    obtain ⟨k, e, hk, rfl⟩ := mem r hr
    obtain ⟨l, f, hl, rfl⟩ := mem o ho
    show Nat.testBit (mk _ _ _) l = (atE f e.2 && (!decide (oth f e.2 = e.1) && decide (t e.2 e.1 (oth f e.2) < 0)))
    rw [tb_mk, decide_eq_true (L hl), Bool.true_and, D hl, h _ _ _ (inn hk).2 (inn hk).1 (othn (inn hl))]
  · intro r hr o ho
    obtain ⟨k, e, hk, rfl⟩ := mem r hr
    obtain ⟨l, f, hl, rfl⟩ := mem o ho
    show Nat.testBit (mk _ _ _) l = (atE f e.1 && decide (0 < t e.1 e.2 (oth f e.1)))
    rw [tb_mk, decide_eq_true (L hl), Bool.true_and, D hl, h _ _ _ (inn hk).1 (inn hk).2 (othn (inn hl))]
  · intro r hr o ho
    obtain ⟨k, e, hk, rfl⟩ := mem r hr
    obtain ⟨l, f, hl, rfl⟩ := mem o ho
    show Nat.testBit (mk _ _ _) l = (atE f e.2 && decide (0 < t e.2 e.1 (oth f e.2)))
    rw [tb_mk, decide_eq_true (L hl), Bool.true_and, D hl, h _ _ _ (inn hk).2 (inn hk).1 (othn (inn hl))]
  · intro r hr
    obtain ⟨k, e, hk, rfl⟩ := mem r hr
    show outT t' n e = outT t n e
    unfold outT
    congr 1
    · rw [Bool.eq_iff_iff, List.all_eq_true, List.all_eq_true]
      constructor <;> (intro q x hx; have := q x hx; rw [h _ _ _ (inn hk).1 (inn hk).2 (List.mem_range.mp hx)] at *; exact this)
    · rw [Bool.eq_iff_iff, List.all_eq_true, List.all_eq_true]
      constructor <;> (intro q x hx; have := q x hx; rw [h _ _ _ (inn hk).1 (inn hk).2 (List.mem_range.mp hx)] at *; exact this)
  · intro r hr
    obtain ⟨k, e, hk, rfl⟩ := mem r hr
    exact hne e (List.mem_of_getElem? hk)
  · intro q r hr hq
    obtain ⟨k, e, hk, rfl⟩ := mem r hr
    rw [len] at hq
    refine ⟨?_, ?_, ?_, ?_, ?_⟩ <;> (show Nat.testBit (mk _ _ _) q = false; rw [tb_mk, decide_eq_false (by omega)]; rfl)

/-! ### forms that the kernel reckons quickly -/
structure RowK where
  bit : Nat
  a : Nat
  b : Nat
  X : Nat
  Ra : Nat
  Rb : Nat
  La : Nat
  Lb : Nat
  out : Bool
  i : Nat
def kRow (r : Row) : RowK := ⟨1 <<< r.i, r.a, r.b, r.X, r.Ra, r.Rb, r.La, r.Lb, r.out, r.i⟩
noncomputable def pK (all : List RowK) (m v : Nat) : Bool := @List.rec RowK (fun _ => Bool) false (fun r _ ih => cond (Nat.beq (Nat.land m r.bit) 0) ih (cond ((Nat.beq r.a v && Nat.beq (Nat.land m r.Ra) 0) || (Nat.beq r.b v && Nat.beq (Nat.land m r.Rb) 0)) true ih)) all
noncomputable def lpK (all : List RowK) (m v : Nat) : Bool := @List.rec RowK (fun _ => Bool) false (fun r _ ih => cond (Nat.beq (Nat.land m r.bit) 0) ih (cond ((Nat.beq r.a v && Nat.beq (Nat.land m r.La) 0) || (Nat.beq r.b v && Nat.beq (Nat.land m r.Lb) 0)) true ih)) all
noncomputable def canK (all : List RowK) (m : Nat) (r : RowK) : Bool := cond (Nat.beq (Nat.land m r.bit) 0) (cond (Nat.beq (Nat.land m r.X) 0) (strict (Nat.lor m r.bit) fun m' => cond (pK all m' r.a) (pK all m' r.b) false) false) false
noncomputable def lcanK (all : List RowK) (m : Nat) (r : RowK) : Bool := cond (Nat.beq (Nat.land m r.bit) 0) (cond (Nat.beq (Nat.land m r.X) 0) (strict (Nat.lor m r.bit) fun m' => cond (lpK all m' r.a) (lpK all m' r.b) false) false) false
noncomputable def filK (all : List RowK) (l : List RowK) : Nat → Nat := @List.rec RowK (fun _ => Nat → Nat) (fun m => m) (fun r _ ih m => cond (canK all m r) (strict (Nat.lor m r.bit) ih) (ih m)) l
noncomputable def exK (all : List RowK) (m i : Nat) (l : List RowK) : Nat := @List.rec RowK (fun _ => Nat) 0 (fun r _ ih => cond (Nat.beq r.i i) ih (cond (canK all m r) r.bit ih)) l
noncomputable def elK (m : Nat) (l : List Nat) : Bool := @List.rec Nat (fun _ => Bool) false (fun x _ ih => cond (Nat.beq x m) true ih) l
noncomputable def stepK (all : List RowK) (m : Nat) (l : List RowK) : List Nat → (List Nat → Bool) → Bool := @List.rec RowK (fun _ => List Nat → (List Nat → Bool) → Bool) (fun f k => k f) (fun r _ ih f k => cond (Nat.beq (Nat.land m r.bit) 0) (ih f k) (cond r.out (ih f k) (strict (Nat.xor m r.bit) fun m1 => strict (exK all m1 r.i all) fun b => cond (Nat.beq b 0) false (strict (Nat.lor m1 b) fun m' => cond (elK m' f) (ih f k) (ih (f ++ [m']) k))))) l
noncomputable def bfsK (all : List RowK) (k : List Nat → Bool) (f : Nat) : Nat → List Nat → Bool := @Nat.rec (fun _ => Nat → List Nat → Bool) (fun _ _ => false) (fun _ ih at_ found => match found[at_]? with | none => k found | some m => stepK all m all found fun found' => ih (Nat.succ at_) found') f
noncomputable def lawRK (all : List RowK) (goal len : Nat) (r : RowK) (l : List (Nat × Nat)) : (List (Nat × Nat) → Bool) → Bool := @List.rec (Nat × Nat) (fun _ => (List (Nat × Nat) → Bool) → Bool) (fun k => k []) (fun mc _ ih k => ih fun tl =>
   cond (Nat.ble (Nat.succ goal) (Nat.add mc.2 (Nat.sub len r.i)))
     (cond (Nat.ble (Nat.succ mc.2) goal && lcanK all mc.1 r) (strict (Nat.lor mc.1 r.bit) fun m' => strict (Nat.succ mc.2) fun c' => k (mc :: (m', c') :: tl)) (k (mc :: tl)))
     (cond (Nat.ble (Nat.succ mc.2) goal && lcanK all mc.1 r) (strict (Nat.lor mc.1 r.bit) fun m' => strict (Nat.succ mc.2) fun c' => k ((m', c') :: tl)) (k tl))) l
noncomputable def lawK (all : List RowK) (goal len : Nat) (k : List (Nat × Nat) → Bool) (l : List RowK) : List (Nat × Nat) → Bool := @List.rec RowK (fun _ => List (Nat × Nat) → Bool) (fun f => k f) (fun r _ ih f => lawRK all goal len r f ih) l
def frcK {α : Type} : List Row → (List RowK → α) → α
  | [], f => f []
  | r :: rs, f => strict r.i fun i => strict (Nat.shiftLeft 1 i) fun bit => strict r.a fun a => strict r.b fun b => strict r.X fun X => strict r.Ra fun Ra => strict r.Rb fun Rb => strict r.La fun La => strict r.Lb fun Lb =>
    bif r.out then frcK rs fun t => f (⟨bit, a, b, X, Ra, Rb, La, Lb, true, i⟩ :: t) else frcK rs fun t => f (⟨bit, a, b, X, Ra, Rb, La, Lb, false, i⟩ :: t)
theorem frcK_eq {α : Type} : ∀ (rs : List Row) (f : List RowK → α), frcK rs f = f (rs.map kRow)
  | [], f => rfl
  | r :: rs, f => by
    unfold frcK
    simp only [strict_eq, frcK_eq rs]
    obtain ⟨i, a, b, X, Ra, Rb, La, Lb, o⟩ := r
    cases o <;> rfl
theorem bit_has (m : Nat) (r : Row) : Nat.beq (Nat.land m (kRow r).bit) 0 = !has m r := by
  have e : Nat.land m (kRow r).bit = m &&& (1 <<< r.i) := rfl
  rw [e, Bool.eq_iff_iff, Nat.beq_eq, and_zero, Bool.not_eq_true']
  unfold has
  constructor
  · intro h
    cases q : Nat.testBit m r.i with
    | false => rfl
    | true =>
      have := h _ q
      rw [tb_one] at this
      simp at this
  · intro h q hq
    rw [tb_one]
    refine decide_eq_false fun z => ?_
    rw [← z, h] at hq
    cases hq
theorem beq_land (m x : Nat) : Nat.beq (Nat.land m x) 0 = ((m &&& x) == 0) := by
  rw [Bool.eq_iff_iff, Nat.beq_eq, beq_iff_eq]; exact Iff.rfl
theorem beq_nat (a b : Nat) : Nat.beq a b = (a == b) := by
  rw [Bool.eq_iff_iff, Nat.beq_eq, beq_iff_eq]
theorem pK_eq (m v : Nat) : ∀ l : List Row, pK (l.map kRow) m v = pntM l m v
  | [] => rfl
  | r :: l => by
    show cond (Nat.beq (Nat.land m (kRow r).bit) 0) (pK (l.map kRow) m v) (cond ((Nat.beq r.a v && Nat.beq (Nat.land m r.Ra) 0) || (Nat.beq r.b v && Nat.beq (Nat.land m r.Rb) 0)) true (pK (l.map kRow) m v)) = _
    rw [bit_has, pK_eq m v l, beq_land, beq_land, beq_nat, beq_nat]
    show _ = ((has m r && ((r.a == v && (m &&& r.Ra) == 0) || (r.b == v && (m &&& r.Rb) == 0))) || pntM l m v)
    cases has m r <;> cases ((r.a == v && (m &&& r.Ra) == 0) || (r.b == v && (m &&& r.Rb) == 0)) <;> rfl
theorem lpK_eq (m v : Nat) : ∀ l : List Row, lpK (l.map kRow) m v = lpntM l m v
  | [] => rfl
  | r :: l => by
    show cond (Nat.beq (Nat.land m (kRow r).bit) 0) (lpK (l.map kRow) m v) (cond ((Nat.beq r.a v && Nat.beq (Nat.land m r.La) 0) || (Nat.beq r.b v && Nat.beq (Nat.land m r.Lb) 0)) true (lpK (l.map kRow) m v)) = _
    rw [bit_has, lpK_eq m v l, beq_land, beq_land, beq_nat, beq_nat]
    show _ = ((has m r && ((r.a == v && (m &&& r.La) == 0) || (r.b == v && (m &&& r.Lb) == 0))) || lpntM l m v)
    cases has m r <;> cases ((r.a == v && (m &&& r.La) == 0) || (r.b == v && (m &&& r.Lb) == 0)) <;> rfl
theorem canK_eq (all : List Row) (m : Nat) (r : Row) : canK (all.map kRow) m (kRow r) = canM all m r := by
  unfold canK canM
  rw [bit_has, strict_eq, pK_eq, pK_eq]
  show cond (!has m r) (cond (Nat.beq (Nat.land m r.X) 0) (cond (pntM all (plus m r) r.a) (pntM all (plus m r) r.b) false) false) false = _
  rw [beq_land]
  cases has m r <;> cases ((m &&& r.X) == 0) <;> cases pntM all (plus m r) r.a <;> rfl
theorem lcanK_eq (all : List Row) (m : Nat) (r : Row) : lcanK (all.map kRow) m (kRow r) = lcanM all m r := by
  unfold lcanK lcanM
  rw [bit_has, strict_eq, lpK_eq, lpK_eq]
  show cond (!has m r) (cond (Nat.beq (Nat.land m r.X) 0) (cond (lpntM all (plus m r) r.a) (lpntM all (plus m r) r.b) false) false) false = _
  rw [beq_land]
  cases has m r <;> cases ((m &&& r.X) == 0) <;> cases lpntM all (plus m r) r.a <;> rfl
theorem filK_eq (all : List Row) : ∀ (l : List Row) (m : Nat), filK (all.map kRow) (l.map kRow) m = filGo all l m
  | [], m => rfl
  | r :: l, m => by
    show cond (canK (all.map kRow) m (kRow r)) (strict (Nat.lor m (kRow r).bit) (filK (all.map kRow) (l.map kRow))) (filK (all.map kRow) (l.map kRow) m) = _
    rw [canK_eq, strict_eq, filK_eq all l, filK_eq all l, filGo]
    cases canM all m r <;> rfl
theorem bit_pos (r : Row) : (kRow r).bit ≠ 0 := by
  show 1 <<< r.i ≠ 0
  rw [Nat.one_shiftLeft]
  exact Nat.ne_of_gt (Nat.two_pow_pos _)
theorem exK_eq (all : List Row) (m i : Nat) : ∀ l : List Row, exK (all.map kRow) m i (l.map kRow) = match l.find? fun o => !decide (o.i = i) && canM all m o with | none => 0 | some o => (kRow o).bit
  | [] => rfl
  | r :: l => by
    show cond (Nat.beq r.i i) (exK (all.map kRow) m i (l.map kRow)) (cond (canK (all.map kRow) m (kRow r)) (kRow r).bit (exK (all.map kRow) m i (l.map kRow))) = _
    rw [canK_eq, exK_eq all m i l, List.find?_cons]
    have e : Nat.beq r.i i = decide (r.i = i) := by rw [Bool.eq_iff_iff, Nat.beq_eq, decide_eq_true_eq]
    rw [e]
    cases decide (r.i = i) <;> cases canM all m r <;> rfl
theorem elK_eq (m : Nat) : ∀ l : List Nat, elK m l = decide (m ∈ l)
  | [] => by simp [elK]
  | x :: l => by
    show cond (Nat.beq x m) true (elK m l) = _
    rw [elK_eq m l, Bool.eq_iff_iff]
    cases e : Nat.beq x m with
    | true =>
      have := Nat.eq_of_beq_eq_true e
      simp [this]
    | false =>
      have hne : m ≠ x := fun z => by
        rw [z, Nat.beq_refl] at e
        cases e
      simp [hne]
theorem stepK_eq (all : List Row) (m : Nat) : ∀ (l : List Row) (f : List Nat) (k : List Nat → Bool), stepK (all.map kRow) m (l.map kRow) f k = match stepGo all m (l.filter (has m)) f with | none => false | some f' => k f'
  | [], f, k => rfl
  | r :: l, f, k => by
    show cond (Nat.beq (Nat.land m (kRow r).bit) 0) (stepK (all.map kRow) m (l.map kRow) f k) (cond r.out (stepK (all.map kRow) m (l.map kRow) f k) (strict (Nat.xor m (kRow r).bit) fun m1 => strict (exK (all.map kRow) m1 r.i (all.map kRow)) fun b => cond (Nat.beq b 0) false (strict (Nat.lor m1 b) fun m' => cond (elK m' f) (stepK (all.map kRow) m (l.map kRow) f k) (stepK (all.map kRow) m (l.map kRow) (f ++ [m']) k)))) = _
    rw [bit_has, List.filter_cons]
    cases hm : has m r with
    | false => exact stepK_eq all m l f k
    | true =>
      simp only [Bool.not_true, cond_false, if_true]
      rw [stepGo]
      cases ho : r.out with
      | true => exact stepK_eq all m l f k
      | false =>
        simp only [cond_false, Bool.false_eq_true, if_false, strict_eq]
        have ex : exK (all.map kRow) (Nat.xor m (kRow r).bit) r.i (all.map kRow) = match exM all m r with | none => 0 | some o => (kRow o).bit := exK_eq all (minus m r) r.i all
        rw [ex]
        cases exM all m r with
        | none => rfl
        | some o =>
          have hb : Nat.beq (kRow o).bit 0 = false := by
            cases q : Nat.beq (kRow o).bit 0 with
            | false => rfl
            | true => exact absurd (Nat.eq_of_beq_eq_true q) (bit_pos o)
          show cond (Nat.beq (kRow o).bit 0) false (cond (elK (plus (minus m r) o) f) (stepK (all.map kRow) m (l.map kRow) f k) (stepK (all.map kRow) m (l.map kRow) (f ++ [plus (minus m r) o]) k)) = match (if plus (minus m r) o ∈ f then stepGo all m (l.filter (has m)) f else stepGo all m (l.filter (has m)) (f ++ [plus (minus m r) o])) with | none => false | some f' => k f'
          rw [hb, cond_false, elK_eq, stepK_eq all m l, stepK_eq all m l]
          by_cases z : plus (minus m r) o ∈ f
          · rw [decide_eq_true z, if_pos z]; rfl
          · rw [decide_eq_false z, if_neg z]; rfl
theorem bfsK_eq (all : List Row) (k : List Nat → Bool) : ∀ (f p : Nat) (fl : List Nat), bfsK (all.map kRow) k f p fl = match bfs all f p fl with | none => false | some L => k L
  | 0, p, fl => rfl
  | f + 1, p, fl => by
    show (match fl[p]? with | none => k fl | some m => stepK (all.map kRow) m (all.map kRow) fl fun fl' => bfsK (all.map kRow) k f (Nat.succ p) fl') = _
    rw [bfs]
    cases fl[p]? with
    | none => rfl
    | some m =>
      show stepK (all.map kRow) m (all.map kRow) fl (fun fl' => bfsK (all.map kRow) k f (p + 1) fl') = match (match stepGo all m (all.filter (has m)) fl with | none => none | some found' => bfs all f (p + 1) found') with | none => false | some L => k L
      rw [stepK_eq]
      cases stepGo all m (all.filter (has m)) fl with
      | none => rfl
      | some fl' => exact bfsK_eq all k f (p + 1) fl'
theorem lawRK_eq (all : List Row) (goal : Nat) (r : Row) : ∀ (l : List (Nat × Nat)) (k : List (Nat × Nat) → Bool), lawRK (all.map kRow) goal all.length (kRow r) l k = k (l.flatMap (lawOne all goal r))
  | [], k => rfl
  | mc :: l, k => by
    show lawRK (all.map kRow) goal all.length (kRow r) l (fun tl =>
      cond (Nat.ble (Nat.succ goal) (Nat.add mc.2 (Nat.sub all.length r.i)))
        (cond (Nat.ble (Nat.succ mc.2) goal && lcanK (all.map kRow) mc.1 (kRow r)) (strict (Nat.lor mc.1 (kRow r).bit) fun m' => strict (Nat.succ mc.2) fun c' => k (mc :: (m', c') :: tl)) (k (mc :: tl)))
        (cond (Nat.ble (Nat.succ mc.2) goal && lcanK (all.map kRow) mc.1 (kRow r)) (strict (Nat.lor mc.1 (kRow r).bit) fun m' => strict (Nat.succ mc.2) fun c' => k ((m', c') :: tl)) (k tl))) = _
    rw [lawRK_eq all goal r l, lcanK_eq, List.flatMap_cons]
    have e1 : Nat.ble (Nat.succ goal) (Nat.add mc.2 (Nat.sub all.length r.i)) = decide (goal < mc.2 + (all.length - r.i)) := by
      rw [Bool.eq_iff_iff, Nat.ble_eq, decide_eq_true_eq]; exact Iff.rfl
    have e2 : Nat.ble (Nat.succ mc.2) goal = decide (mc.2 < goal) := by rw [Bool.eq_iff_iff, Nat.ble_eq, decide_eq_true_eq]; exact Iff.rfl
    rw [e1, e2]
    simp only [strict_eq]
    unfold lawOne
    by_cases h1 : goal < mc.2 + (all.length - r.i)
    · by_cases h2 : mc.2 < goal <;> cases h3 : lcanM all mc.1 r <;> simp [h1, h2] <;> rfl
    · by_cases h2 : mc.2 < goal <;> cases h3 : lcanM all mc.1 r <;> simp [h1, h2] <;> rfl
theorem lawK_eq (all : List Row) (goal : Nat) (k : List (Nat × Nat) → Bool) : ∀ (l : List Row) (f : List (Nat × Nat)), lawK (all.map kRow) goal all.length k (l.map kRow) f = k (lawGo all goal l f)
  | [], f => rfl
  | r :: l, f => by
    show lawRK (all.map kRow) goal all.length (kRow r) f (lawK (all.map kRow) goal all.length k (l.map kRow)) = _
    rw [lawRK_eq, lawK_eq all goal k l]
    rfl
end Q40
end

section
set_option maxRecDepth 100000
set_option maxHeartbeats 4000000
namespace Q40
open PySem PySem.Spec PyProof.Rows L2

/-! ### the finite check -/
noncomputable def cntK (all : List RowK) (m m' : Nat) : Nat := @List.rec RowK (fun _ => Nat) 0 (fun r _ ih => cond (Nat.beq (Nat.land m r.bit) 0) ih (cond (Nat.beq (Nat.land m' r.bit) 0) (Nat.succ ih) ih)) all
noncomputable def ndK (l : List Nat) : Bool := @List.rec Nat (fun _ => Bool) true (fun x t ih => cond (elK x t) false ih) l
def parB (g : Nat → Nat → Bool) : List Nat → List Nat → Bool
  | _, [] => true
  | seen, m :: rest => (seen.isEmpty || seen.any fun s => g s m && g m s) && parB g (seen ++ [m]) rest
noncomputable def adjK (all : List RowK) (m m' : Nat) : Bool := Nat.beq (cntK all m m') 1
noncomputable def finB (n m0 : Nat) (all : List RowK) (L : List Nat) (f : List (Nat × Nat)) : Bool :=
  Nat.beq L.length ((f.filter fun mc => Nat.beq mc.2 (2 * n - 3)).map (·.1)).length && (ndK L && (L.all (fun m => elK m ((f.filter fun mc => Nat.beq mc.2 (2 * n - 3)).map (·.1))) && (parB (adjK all) [] L && (L.all (fun m => Nat.blt m (2 ^ all.length)) && (Nat.ble L.length 300 && elK m0 L)))))
noncomputable def chkB (n : Nat) (all : List RowK) : Bool := strict (filK all all 0) fun m0 => bfsK all (fun L => lawK all (2 * n - 3) all.length (finB n m0 all L) all [(0, 0)]) 100 0 [m0]
noncomputable def finA (n m0 size : Nat) (all : List RowK) (L : List Nat) : Bool :=
  Nat.beq L.length size && (ndK L && (L.all (fun m => Nat.blt m (2 ^ all.length)) && (elK m0 L && L.all (fun m => Nat.beq (cntK all m 0) (2 * n - 3) && ((List.range n).all (fun v => lpK all m v) && all.all fun r => Nat.beq (Nat.land m r.bit) 0 || Nat.beq (Nat.land m r.X) 0)))))
noncomputable def chkA (n size : Nat) (all : List RowK) : Bool := strict (filK all all 0) fun m0 => bfsK all (finA n m0 size all) 100 0 [m0]
def v4 (sv a b c d : Nat) : Bool := !(sg sv b c d == - sg sv a c d && (sg sv b c d == sg sv a b d && sg sv b c d == -sg sv a b c))
def v5 (sv a b c d e : Nat) : Bool := !(tauV sv a b c * tauV sv a d e == -(tauV sv a b d * tauV sv a c e) && tauV sv a b c * tauV sv a d e == tauV sv a b e * tauV sv a c d)
def valid4 (sv : Nat) : Bool := v4 sv 0 1 2 3
def valid5 (sv : Nat) : Bool := v4 sv 0 1 2 3 && (v4 sv 0 1 2 4 && (v4 sv 0 1 3 4 && (v4 sv 0 2 3 4 && (v4 sv 1 2 3 4 && (v5 sv 0 1 2 3 4 && (v5 sv 1 0 2 3 4 && (v5 sv 2 0 1 3 4 && (v5 sv 3 0 1 2 4 && v5 sv 4 0 1 2 3))))))))
def allTo (f : Nat → Bool) : Nat → Bool
  | 0 => true
  | k + 1 => f k && allTo f k
theorem allTo_at {f : Nat → Bool} : ∀ {n k : Nat}, allTo f n = true → k < n → f k = true
  | 0, _, _, h => absurd h (Nat.not_lt_zero _)
  | n + 1, k, h, hk => by
    rw [allTo, Bool.and_eq_true] at h
    by_cases e : k = n
    · rw [e]; exact h.1
    · exact allTo_at h.2 (by omega)
noncomputable def okB (n : Nat) (v : Nat → Bool) (sv : Nat) : Bool := bif v sv then frcK (rowsT n (tauV sv)) (chkB n) else true
theorem okB_at {n : Nat} {v : Nat → Bool} {sv : Nat} (h : okB n v sv = true) (hv : v sv = true) : chkB n ((rowsT n (tauV sv)).map kRow) = true := by
  unfold okB at h
  rw [hv, cond_true, frcK_eq] at h
  exact h
theorem fin2 : allTo (okB 2 fun _ => true) 1 = true := by decide +kernel
theorem fin3 : allTo (okB 3 fun _ => true) 2 = true := by decide +kernel
theorem fin4 : allTo (okB 4 valid4) 16 = true := by decide +kernel
theorem fin5_0 : allTo (fun v => okB 5 valid5 (0 + v)) 64 = true := by decide +kernel
theorem fin5_1 : allTo (fun v => okB 5 valid5 (64 + v)) 64 = true := by decide +kernel
theorem fin5_2 : allTo (fun v => okB 5 valid5 (128 + v)) 64 = true := by decide +kernel
theorem fin5_3 : allTo (fun v => okB 5 valid5 (192 + v)) 64 = true := by decide +kernel
theorem fin5_4 : allTo (fun v => okB 5 valid5 (256 + v)) 64 = true := by decide +kernel
theorem fin5_5 : allTo (fun v => okB 5 valid5 (320 + v)) 64 = true := by decide +kernel
theorem fin5_6 : allTo (fun v => okB 5 valid5 (384 + v)) 64 = true := by decide +kernel
theorem fin5_7 : allTo (fun v => okB 5 valid5 (448 + v)) 64 = true := by decide +kernel
theorem fin5_8 : allTo (fun v => okB 5 valid5 (512 + v)) 64 = true := by decide +kernel
theorem fin5_9 : allTo (fun v => okB 5 valid5 (576 + v)) 64 = true := by decide +kernel
theorem fin5_10 : allTo (fun v => okB 5 valid5 (640 + v)) 64 = true := by decide +kernel
theorem fin5_11 : allTo (fun v => okB 5 valid5 (704 + v)) 64 = true := by decide +kernel
theorem fin5_12 : allTo (fun v => okB 5 valid5 (768 + v)) 64 = true := by decide +kernel
theorem fin5_13 : allTo (fun v => okB 5 valid5 (832 + v)) 64 = true := by decide +kernel
theorem fin5_14 : allTo (fun v => okB 5 valid5 (896 + v)) 64 = true := by decide +kernel
theorem fin5_15 : allTo (fun v => okB 5 valid5 (960 + v)) 64 = true := by decide +kernel
theorem fin5 {sv : Nat} (h : sv < 1024) : okB 5 valid5 sv = true := by
  obtain ⟨c, v, hc, hv, rfl⟩ : ∃ c v, c < 16 ∧ v < 64 ∧ sv = 64 * c + v := ⟨sv / 64, sv % 64, by omega, by omega, by omega⟩
  have : ∀ c, c < 16 → allTo (fun v => okB 5 valid5 (64 * c + v)) 64 = true := fun c hc => by
    match c, hc with
    | 0, _ => exact fin5_0
    | 1, _ => exact fin5_1
    | 2, _ => exact fin5_2
    | 3, _ => exact fin5_3
    | 4, _ => exact fin5_4
    | 5, _ => exact fin5_5
    | 6, _ => exact fin5_6
    | 7, _ => exact fin5_7
    | 8, _ => exact fin5_8
    | 9, _ => exact fin5_9
    | 10, _ => exact fin5_10
    | 11, _ => exact fin5_11
    | 12, _ => exact fin5_12
    | 13, _ => exact fin5_13
    | 14, _ => exact fin5_14
    | 15, _ => exact fin5_15
    | c + 16, h => omega
  exact allTo_at (f := fun v => okB 5 valid5 (64 * c + v)) (this c hc) hv
noncomputable def okA (n size : Nat) : Bool := frcK (rowsT n (tauV 34359738367)) (chkA n size)
theorem finA6 : okA 6 14 = true := by decide +kernel
theorem finA7 : okA 7 42 = true := by decide +kernel
end Q40
end

section
set_option maxRecDepth 100000
set_option maxHeartbeats 4000000
namespace Q40
open PySem PySem.Spec PyProof.Rows L2

/-! ### moved places -/
theorem dbl_bca (a b c : Pt) : dbl b c a = dbl a b c := by simp only [dbl]; grind
theorem dbl_bac (a b c : Pt) : dbl b a c = - dbl a b c := by simp only [dbl]; grind
theorem dbl_acb (a b c : Pt) : dbl a c b = - dbl a b c := by simp only [dbl]; grind
theorem trn_bca (a b c : Pt) : trn b c a = trn a b c := by unfold trn; rw [dbl_bca]
theorem sgn_neg' (n : Int) : sgn (-n) = - sgn n := by
  rcases sgn_cases n with ⟨h, e⟩ | ⟨h, e⟩ | ⟨h, e⟩ <;> rcases sgn_cases (-n) with ⟨h2, e2⟩ | ⟨h2, e2⟩ | ⟨h2, e2⟩ <;> rw [e, e2] <;> omega
theorem trn_bac (a b c : Pt) : trn b a c = - trn a b c := by unfold trn; rw [dbl_bac, sgn_neg']
theorem trn_acb (a b c : Pt) : trn a c b = - trn a b c := by unfold trn; rw [dbl_acb, sgn_neg']
/-- the un-lowered image -/
def mv0 (f x y b : Int) (p : Pt) : Pt := (p.1 * f + x * p.2.2, p.2.1 * f + y * p.2.2, p.2.2 * b)
theorem dbl_mv0 (f x y b : Int) (p q r : Pt) : dbl (mv0 f x y b p) (mv0 f x y b q) (mv0 f x y b r) = (f * f * b) * dbl p q r := by
  simp only [dbl, mv0]
  grind
/-- p is g times q -/
def Times (g : Int) (p q : Pt) : Prop := p.1 = g * q.1 ∧ p.2.1 = g * q.2.1 ∧ p.2.2 = g * q.2.2
theorem dbl_times {g h k : Int} {a b c a' b' c' : Pt} (ha : Times g a a') (hb : Times h b b') (hc : Times k c c') : dbl a b c = (g * h * k) * dbl a' b' c' := by
  obtain ⟨a1, a2, a3⟩ := ha
  obtain ⟨b1, b2, b3⟩ := hb
  obtain ⟨c1, c2, c3⟩ := hc
  simp only [dbl, a1, a2, a3, b1, b2, b3, c1, c2, c3]
  grind
theorem low_times {x y w : Int} (hw : 0 < w) : ∃ g : Int, 0 < g ∧ Times g (x, y, w) (low x y w) ∧ Int.gcd (Int.gcd (low x y w).1 (low x y w).2.1 : Int) (low x y w).2.2 = 1 ∧ (g : Int) = Int.gcd (Int.gcd x y : Int) w := by
  have hg : 0 < Int.gcd (Int.gcd x y : Int) w := Int.gcd_pos_of_ne_zero_right _ (by omega)
  have e : gsg (Int.gcd (Int.gcd x y : Int) w) w = (Int.gcd (Int.gcd x y : Int) w : Int) := by unfold gsg; rw [if_neg (by omega)]
  have dw : ((Int.gcd (Int.gcd x y : Int) w : Nat) : Int) ∣ w := Int.gcd_dvd_right ..
  have dg : ((Int.gcd (Int.gcd x y : Int) w : Nat) : Int) ∣ (Int.gcd x y : Int) := Int.gcd_dvd_left ..
  have dx : ((Int.gcd (Int.gcd x y : Int) w : Nat) : Int) ∣ x := Int.dvd_trans dg (Int.gcd_dvd_left ..)
  have dy : ((Int.gcd (Int.gcd x y : Int) w : Nat) : Int) ∣ y := Int.dvd_trans dg (Int.gcd_dvd_right ..)
  refine ⟨(Int.gcd (Int.gcd x y : Int) w : Int), by omega, ⟨?_, ?_, ?_⟩, ?_, rfl⟩
  · show x = _ * (x / _)
    rw [e, Int.mul_ediv_cancel' dx]
  · show y = _ * (y / _)
    rw [e, Int.mul_ediv_cancel' dy]
  · show w = _ * (w / _)
    rw [e, Int.mul_ediv_cancel' dw]
  · show Int.gcd (Int.gcd (x / _) (y / _) : Int) (w / _) = 1
    rw [e]
    generalize hG : Int.gcd (Int.gcd x y : Int) w = G at *
    have h1 : Int.gcd (x / (G : Int)) (y / (G : Int)) = Int.gcd x y / G := by
      have := Int.gcd_ediv dx dy
      rw [Int.natAbs_natCast] at this
      exact this
    rw [h1]
    have h2 : ((Int.gcd x y / G : Nat) : Int) = (Int.gcd x y : Int) / (G : Int) := Int.natCast_ediv _ _
    rw [h2]
    have h3 := Int.gcd_ediv dg dw
    rw [Int.natAbs_natCast, hG, Nat.div_self hg] at h3
    exact h3
theorem mv_ok {f x y b : Int} (h : MvOk f x y b) : 1 ≤ f ∧ f ≤ 100003 ∧ -1000000009 ≤ x ∧ x ≤ 1000000009 ∧ -1000000009 ≤ y ∧ y ≤ 1000000009 ∧ 1 ≤ b ∧ b ≤ 7 := by
  obtain ⟨h1, h2, h3, h4⟩ := h
  simp only [List.mem_cons, List.not_mem_nil, or_false] at h1 h2 h3 h4
  omega
/-- what is known of a moved place -/
structure Mv (p q : Pt) : Prop where
  inn : PtIn q
  sm : Sm q
theorem mvp_ok {f x y b : Int} (h : MvOk f x y b) {p : Pt} (hp : BaseP p) : Mv p (mvp f x y b p) ∧ ∃ g : Int, 0 < g ∧ Times g (mv0 f x y b p) (mvp f x y b p) := by
  obtain ⟨f1, f2, x1, x2, y1, y2, b1, b2⟩ := mv_ok h
  obtain ⟨p1, p2, p3, p4, p5⟩ := hp
  have hw : 0 < p.2.2 * b := by rw [p5]; omega
  obtain ⟨g, hg, ⟨t1, t2, t3⟩, hgcd, _⟩ := low_times (x := p.1 * f + x * p.2.2) (y := p.2.1 * f + y * p.2.2) hw
  have bound : ∀ u v : Int, u = g * v → -10000000000 ≤ u → u ≤ 10000000000 → -10000000000 ≤ v ∧ v ≤ 10000000000 := fun u v e h1 h2 => by
    have key : v.natAbs ≤ u.natAbs := by
      rw [e, Int.natAbs_mul]
      exact Nat.le_mul_of_pos_left _ (by omega)
    omega
  have m1 : -10000000000 ≤ p.1 * f + x * p.2.2 ∧ p.1 * f + x * p.2.2 ≤ 10000000000 := by
    rw [p5, Int.mul_one]
    have a1 : p.1 * f ≤ 2000 * 100003 := Int.le_trans (Int.mul_le_mul_of_nonneg_right p2 (by omega)) (Int.mul_le_mul_of_nonneg_left f2 (by decide))
    have a2 : -(2000 * 100003) ≤ p.1 * f := by
      have : (-p.1) * f ≤ 2000 * 100003 := Int.le_trans (Int.mul_le_mul_of_nonneg_right (by omega) (by omega)) (Int.mul_le_mul_of_nonneg_left f2 (by decide))
      rw [Int.neg_mul] at this
      omega
    omega
  have m2 : -10000000000 ≤ p.2.1 * f + y * p.2.2 ∧ p.2.1 * f + y * p.2.2 ≤ 10000000000 := by
    rw [p5, Int.mul_one]
    have a1 : p.2.1 * f ≤ 2000 * 100003 := Int.le_trans (Int.mul_le_mul_of_nonneg_right p4 (by omega)) (Int.mul_le_mul_of_nonneg_left f2 (by decide))
    have a2 : -(2000 * 100003) ≤ p.2.1 * f := by
      have : (-p.2.1) * f ≤ 2000 * 100003 := Int.le_trans (Int.mul_le_mul_of_nonneg_right (by omega) (by omega)) (Int.mul_le_mul_of_nonneg_left f2 (by decide))
      rw [Int.neg_mul] at this
      omega
    omega
  have q1 := bound _ _ t1 m1.1 m1.2
  have q2 := bound _ _ t2 m2.1 m2.2
  have q3 : 0 < (mvp f x y b p).2.2 ∧ (mvp f x y b p).2.2 ≤ 7 := by
    have e : p.2.2 * b = g * (mvp f x y b p).2.2 := t3
    rw [p5, Int.one_mul] at e
    have pos : 0 < (mvp f x y b p).2.2 := by
      rcases Int.lt_trichotomy (mvp f x y b p).2.2 0 with z | z | z
      · have := Int.mul_neg_of_pos_of_neg hg z
        omega
      · rw [z] at e; omega
      · exact z
    refine ⟨pos, ?_⟩
    have e2 := congrArg Int.natAbs e
    rw [Int.natAbs_mul] at e2
    have e3 : (mvp f x y b p).2.2.natAbs ≤ g.natAbs * (mvp f x y b p).2.2.natAbs := Nat.le_mul_of_pos_left _ (by omega)
    omega
  have q1' : -10000000000 ≤ (mvp f x y b p).1 ∧ (mvp f x y b p).1 ≤ 10000000000 := q1
  have q2' : -10000000000 ≤ (mvp f x y b p).2.1 ∧ (mvp f x y b p).2.1 ≤ 10000000000 := q2
  exact ⟨⟨⟨⟨by omega, by omega, by omega⟩, hgcd⟩, ⟨by omega, by omega, by omega⟩⟩, g, hg, t1, t2, t3⟩
theorem base_mv {p : Pt} (hp : BaseP p) : Mv p p := by
  obtain ⟨p1, p2, p3, p4, p5⟩ := hp
  exact ⟨⟨⟨by omega, by omega, by omega⟩, by rw [p5]; exact Int.gcd_one⟩, ⟨by omega, by omega, by omega⟩⟩
theorem sgn_scale {k n : Int} (hk : 0 < k) : sgn (k * n) = sgn n := by
  rw [sgn_mul, sgn_pos hk, Int.one_mul]
theorem trn_mvp {f x y b : Int} (h : MvOk f x y b) {p q r : Pt} (hp : BaseP p) (hq : BaseP q) (hr : BaseP r) : trn (mvp f x y b p) (mvp f x y b q) (mvp f x y b r) = trn p q r := by
  obtain ⟨f1, f2, x1, x2, y1, y2, b1, b2⟩ := mv_ok h
  obtain ⟨_, g1, h1, t1⟩ := mvp_ok h hp
  obtain ⟨_, g2, h2, t2⟩ := mvp_ok h hq
  obtain ⟨_, g3, h3, t3⟩ := mvp_ok h hr
  have e := dbl_times t1 t2 t3
  rw [dbl_mv0] at e
  unfold trn
  have k1 : 0 < f * f * b := Int.mul_pos (Int.mul_pos (by omega) (by omega)) (by omega)
  have k2 : 0 < g1 * g2 * g3 := Int.mul_pos (Int.mul_pos h1 h2) h3
  rw [← sgn_scale (n := dbl p q r) k1, e, sgn_scale k2]
theorem mvp_inj {f x y b : Int} (h : MvOk f x y b) {p q : Pt} (hp : BaseP p) (hq : BaseP q) (e : mvp f x y b p = mvp f x y b q) : p = q := by
  obtain ⟨f1, f2, x1, x2, y1, y2, b1, b2⟩ := mv_ok h
  obtain ⟨o1, g1, h1, t1, t2, t3⟩ := mvp_ok h hp
  obtain ⟨o2, g2, h2, s1, s2, s3⟩ := mvp_ok h hq
  have p5 := hp.2.2.2.2
  have q5 := hq.2.2.2.2
  rw [← e] at s1 s2 s3
  simp only [mv0] at t1 t2 t3 s1 s2 s3
  rw [p5] at t1 t2 t3
  rw [q5] at s1 s2 s3
  have hw := o1.inn.w.1
  have eg : g1 = g2 := by
    have : g1 * (mvp f x y b p).2.2 = g2 * (mvp f x y b p).2.2 := by rw [← t3, ← s3]
    exact Int.eq_of_mul_eq_mul_right (by omega) this
  rw [← eg] at s1 s2
  have ea : p.1 * f = q.1 * f := by omega
  have eb : p.2.1 * f = q.2.1 * f := by omega
  obtain ⟨p1, p2, p3⟩ := p
  obtain ⟨r1, r2, r3⟩ := q
  simp only at ea eb p5 q5
  rw [Prod.mk.injEq, Prod.mk.injEq]
  exact ⟨Int.eq_of_mul_eq_mul_right (by omega) ea, Int.eq_of_mul_eq_mul_right (by omega) eb, by omega⟩
end Q40
end

section
set_option maxRecDepth 100000
set_option maxHeartbeats 4000000
namespace Q40
open PySem PySem.Spec PyProof.Rows L2

/-! ### signs of places -/
theorem trn_aab' (a b : Pt) : trn a a b = 0 := trn_zero (dbl_aab a b)
theorem trn_aba' (a b : Pt) : trn a b a = 0 := trn_zero (dbl_aba a b)
theorem trn_abb' (a b : Pt) : trn a b b = 0 := trn_zero (dbl_abb a b)
theorem tau_of {ps : List Pt} {sv n : Nat} (hs : ∀ i j k, i < j → j < k → k < n → sg sv i j k = tau ps i j k) : ∀ i j k, i < n → j < n → k < n → tau ps i j k = tauV sv i j k := by
  have S : ∀ i j k, i < j → j < n → k < n → tau ps i j k = tauS sv i j k := fun i j k hij hj hk => by
    unfold tauS
    by_cases h1 : j < k
    · rw [show Nat.blt j k = true by rw [Nat.blt_eq]; exact h1, cond_true, hs i j k hij h1 hk]
    · have e1 : Nat.blt j k = false := by
        cases q : Nat.blt j k with
        | false => rfl
        | true => rw [Nat.blt_eq] at q; omega
      rw [e1, cond_false]
      by_cases h2 : k < i
      · rw [show Nat.blt k i = true by rw [Nat.blt_eq]; exact h2, cond_true, hs k i j h2 hij hj]
        exact trn_bca _ _ _
      · have e2 : Nat.blt k i = false := by
          cases q : Nat.blt k i with
          | false => rfl
          | true => rw [Nat.blt_eq] at q; omega
        rw [e2, cond_false]
        by_cases h3 : i < k ∧ k < j
        · rw [show Nat.blt i k = true by rw [Nat.blt_eq]; exact h3.1, show Nat.blt k j = true by rw [Nat.blt_eq]; exact h3.2, Bool.and_self, cond_true, hs i k j h3.1 h3.2 hj]
          exact trn_acb _ _ _
        · have e3 : (Nat.blt i k && Nat.blt k j) = false := by
            cases q : (Nat.blt i k && Nat.blt k j) with
            | false => rfl
            | true =>
              rw [Bool.and_eq_true, Nat.blt_eq, Nat.blt_eq] at q
              exact absurd q h3
          rw [e3, cond_false]
          have : k = i ∨ k = j := by omega
          rcases this with rfl | rfl
          · exact trn_aba' _ _
          · exact trn_abb' _ _
  intro i j k hi hj hk
  unfold tauV
  by_cases h1 : i < j
  · rw [show Nat.blt i j = true by rw [Nat.blt_eq]; exact h1, cond_true]
    exact S i j k h1 hj hk
  · have e1 : Nat.blt i j = false := by
      cases q : Nat.blt i j with
      | false => rfl
      | true => rw [Nat.blt_eq] at q; omega
    rw [e1, cond_false]
    by_cases h2 : j < i
    · rw [show Nat.blt j i = true by rw [Nat.blt_eq]; exact h2, cond_true, ← S j i k h2 hi hk]
      exact trn_bac _ _ _
    · have e2 : Nat.blt j i = false := by
        cases q : Nat.blt j i with
        | false => rfl
        | true => rw [Nat.blt_eq] at q; omega
      rw [e2, cond_false]
      have : i = j := by omega
      subst this
      exact trn_aab' _ _
def trips : List (Nat × Nat × Nat) := [(0, 1, 2), (0, 1, 3), (0, 2, 3), (1, 2, 3), (0, 1, 4), (0, 2, 4), (1, 2, 4), (0, 3, 4), (1, 3, 4), (2, 3, 4)]
theorem trips_at : ∀ i j k, i < j → j < k → k < 5 → trips[tix i j k]? = some (i, j, k) := by
  intro i j k h1 h2 h3
  have : ∀ k ∈ List.range 5, ∀ j ∈ List.range k, ∀ i ∈ List.range j, trips[tix i j k]? = some (i, j, k) := by decide +kernel
  exact this k (List.mem_range.mpr h3) j (List.mem_range.mpr h2) i (List.mem_range.mpr h1)
def svOf (t : Tau) (m : Nat) : Nat := mk 0 (fun q => match trips[q]? with | some (i, j, k) => decide (0 < t i j k) | none => false) m
theorem mk_lt (n : Nat) (f : Nat → Bool) : ∀ m, mk n f m < 2 ^ m
  | 0 => by simp [mk]
  | m + 1 => by
    have ih := mk_lt n f m
    unfold mk
    have h2 : 2 ^ m < 2 ^ (m + 1) := Nat.pow_lt_pow_right (by decide) (Nat.lt_succ_self m)
    cases f m with
    | false => exact Nat.lt_trans ih h2
    | true =>
      refine Nat.or_lt_two_pow (Nat.lt_trans ih h2) ?_
      rw [Nat.one_shiftLeft]; exact h2
theorem sg_svOf {t : Tau} {m i j k : Nat} (h1 : i < j) (h2 : j < k) (h3 : k < 5) (hm : tix i j k < m) (ht : t i j k = 1 ∨ t i j k = -1) : sg (svOf t m) i j k = t i j k := by
  unfold sg svOf
  rw [tb_mk, decide_eq_true hm, Bool.true_and, trips_at i j k h1 h2 h3]
  rcases ht with e | e
  · show cond (decide (0 < t i j k)) 1 (-1) = _
    rw [e]; rfl
  · show cond (decide (0 < t i j k)) 1 (-1) = _
    rw [e]; rfl
theorem trn_pm {a b c : Pt} (h : trn a b c ≠ 0) : trn a b c = 1 ∨ trn a b c = -1 := by
  unfold trn at *
  rcases sgn_cases (dbl a b c) with ⟨_, e⟩ | ⟨_, e⟩ | ⟨_, e⟩
  · exact .inl e
  · exact absurd e h
  · exact .inr e
section
variable {pts : List Pt}
theorem getD_at {i : Nat} (h : i < pts.length) : pts[i]? = some (pts.getD i (0, 0, 1)) := by
  have e : pts[i]? = some pts[i] := List.getElem?_eq_getElem h
  rw [List.getD_eq_getElem?_getD, e]; rfl
theorem Gpts.at (g : Gpts pts) {i : Nat} (h : i < pts.length) : BaseP (pts.getD i (0, 0, 1)) := g.base _ (List.mem_of_getElem? (getD_at h))
theorem Gpts.up (g : Gpts pts) {i j k : Nat} (h1 : i < j) (h2 : j < k) (h3 : k < pts.length) : tau pts i j k ≠ 0 :=
  g.gen i j k _ _ _ h1 h2 (getD_at (by omega)) (getD_at (by omega)) (getD_at h3)
theorem Gpts.any (g : Gpts pts) {i j k : Nat} (hi : i < pts.length) (hj : j < pts.length) (hk : k < pts.length) (h1 : i ≠ j) (h2 : j ≠ k) (h3 : i ≠ k) : tau pts i j k ≠ 0 := by
  have up := fun {i j k : Nat} (h1 : i < j) (h2 : j < k) (h3 : k < pts.length) => g.up h1 h2 h3
  unfold tau at *
  rcases Nat.lt_or_gt_of_ne h1 with a | a <;> rcases Nat.lt_or_gt_of_ne h2 with b | b <;> rcases Nat.lt_or_gt_of_ne h3 with c | c
  · exact up a b hk
  · omega
  · have := up c b hj
    rw [trn_acb]; omega
  · have := up c a hj
    rw [trn_bca]; exact this
  · have := up a c hk
    rw [trn_bac]; omega
  · have := up b c hi
    rw [← trn_bca]; exact this
  · omega
  · have := up b a hi
    rw [trn_bac, trn_bca]; omega
/-! ### what moves keep -/
structure Kept (pts ps : List Pt) : Prop where
  len : ps.length = pts.length
  at_ : ∀ i, i < pts.length → Mv (pts.getD i (0, 0, 1)) (ps.getD i (0, 0, 1))
  tau_ : ∀ i j k, i < pts.length → j < pts.length → k < pts.length → tau ps i j k = tau pts i j k
  nd : ps.Nodup
theorem kept (g : Gpts pts) {ps : List Pt} (h : Moved pts ps) : Kept pts ps := by
  rcases h with rfl | ⟨f, x, y, b, hm, rfl⟩
  · exact ⟨rfl, fun i hi => base_mv (g.at hi), fun _ _ _ _ _ _ => rfl, g.nd⟩
  · have e : ∀ i, i < pts.length → (pts.map (mvp f x y b)).getD i (0, 0, 1) = mvp f x y b (pts.getD i (0, 0, 1)) := fun i hi => by
      rw [List.getD_eq_getElem?_getD, List.getElem?_map, getD_at hi]; rfl
    refine ⟨List.length_map _, fun i hi => ?_, fun i j k hi hj hk => ?_, ?_⟩
    · rw [e i hi]
      exact (mvp_ok hm (g.at hi)).1
    · unfold tau
      rw [e i hi, e j hj, e k hk]
      exact trn_mvp hm (g.at hi) (g.at hj) (g.at hk)
    · refine List.Pairwise.map _ (fun a b h => h) (List.Pairwise.imp_of_mem (R := (· ≠ ·)) (fun {p q} hp hq hne z => hne (mvp_inj hm (g.base p hp) (g.base q hq) z)) g.nd)
theorem Kept.mem {ps : List Pt} (K : Kept pts ps) : ∀ q ∈ ps, ∃ p, Mv p q := fun q hq => by
  obtain ⟨i, hi⟩ := List.mem_iff_getElem?.mp hq
  have hl := (List.getElem?_eq_some_iff.mp hi).1
  have := K.at_ i (by rw [← K.len]; exact hl)
  have e : ps.getD i (0, 0, 1) = q := by rw [List.getD_eq_getElem?_getD, hi]; rfl
  rw [e] at this
  exact ⟨_, this⟩
theorem Kept.inn {ps : List Pt} (K : Kept pts ps) (g : Gpts pts) (h2 : 2 ≤ pts.length) (h12 : pts.length ≤ 12) : PtsIn ps := by
  refine ⟨fun q hq => ?_, K.nd, by rw [K.len]; exact h2, by rw [K.len]; exact h12, fun i j k p q r hij hjk hp hq hr z => ?_⟩
  · obtain ⟨p, m⟩ := K.mem q hq
    exact m.inn
  · have hk := (List.getElem?_eq_some_iff.mp hr).1
    rw [K.len] at hk
    have e : ∀ {i : Nat} {p : Pt}, ps[i]? = some p → ps.getD i (0, 0, 1) = p := fun h => by rw [List.getD_eq_getElem?_getD, h]; rfl
    have := g.any (i := k) (j := j) (k := i) hk (by omega) (by omega) (by omega) (by omega) (by omega)
    rw [← K.tau_ k j i hk (by omega) (by omega)] at this
    unfold tau at this
    rw [e hr, e hq, e hp] at this
    exact this (trn_zero z)
theorem Kept.gen {ps : List Pt} (K : Kept pts ps) (g : Gpts pts) (h12 : pts.length ≤ 12) : PtsG ps := by
  refine ⟨fun q hq => ?_, by rw [K.len]; exact h12, fun i j k hi hj hk h1 h2 h3 z => ?_⟩
  · obtain ⟨p, m⟩ := K.mem q hq
    exact m.sm
  · rw [K.len] at hi hj hk
    have := g.any hi hj hk h1 h2 h3
    rw [← K.tau_ i j k hi hj hk] at this
    exact this (trn_zero z)
/-! ### no contradiction -/
theorem four (g : Gpts pts) {a b c d : Nat} (h1 : a < b) (h2 : b < c) (h3 : c < d) (h4 : d < pts.length) : ¬ (tau pts b c d = - tau pts a c d ∧ tau pts b c d = tau pts a b d ∧ tau pts b c d = - tau pts a b c) := by
  have wa := (g.at (i := a) (by omega)).2.2.2.2
  have wb := (g.at (i := b) (by omega)).2.2.2.2
  have wc := (g.at (i := c) (by omega)).2.2.2.2
  have wd := (g.at (i := d) (by omega)).2.2.2.2
  have n1 := g.up h2 h3 h4
  unfold tau trn at *
  generalize pts.getD a (0, 0, 1) = A at *
  generalize pts.getD b (0, 0, 1) = B at *
  generalize pts.getD c (0, 0, 1) = C at *
  generalize pts.getD d (0, 0, 1) = D at *
  have key : dbl B C D - dbl A C D + dbl A B D - dbl A B C = 0 := by
    simp only [dbl, wa, wb, wc, wd]
    grind
  rintro ⟨e1, e2, e3⟩
  rcases sgn_cases (dbl B C D) with ⟨z1, s1⟩ | ⟨z1, s1⟩ | ⟨z1, s1⟩ <;> rcases sgn_cases (dbl A C D) with ⟨z2, s2⟩ | ⟨z2, s2⟩ | ⟨z2, s2⟩ <;> rcases sgn_cases (dbl A B D) with ⟨z3, s3⟩ | ⟨z3, s3⟩ | ⟨z3, s3⟩ <;> rcases sgn_cases (dbl A B C) with ⟨z4, s4⟩ | ⟨z4, s4⟩ | ⟨z4, s4⟩ <;> omega
theorem sgn_pm_mul {m n : Int} : sgn m * sgn n = sgn (m * n) := (sgn_mul m n).symm
theorem five (a b c d e : Nat) (hn : tau pts a b c * tau pts a d e ≠ 0) : ¬ (tau pts a b c * tau pts a d e = -(tau pts a b d * tau pts a c e) ∧ tau pts a b c * tau pts a d e = tau pts a b e * tau pts a c d) := by
  unfold tau trn at *
  generalize pts.getD a (0, 0, 1) = A at *
  generalize pts.getD b (0, 0, 1) = B at *
  generalize pts.getD c (0, 0, 1) = C at *
  generalize pts.getD d (0, 0, 1) = D at *
  generalize pts.getD e (0, 0, 1) = F at *
  have key : dbl A B C * dbl A D F - dbl A B D * dbl A C F + dbl A B F * dbl A C D = 0 := by
    simp only [dbl]
    grind
  rw [sgn_pm_mul, sgn_pm_mul, sgn_pm_mul] at *
  generalize dbl A B C * dbl A D F = p at *
  generalize dbl A B D * dbl A C F = q at *
  generalize dbl A B F * dbl A C D = r at *
  rintro ⟨e1, e2⟩
  rcases sgn_cases p with ⟨z1, s1⟩ | ⟨z1, s1⟩ | ⟨z1, s1⟩ <;> rcases sgn_cases q with ⟨z2, s2⟩ | ⟨z2, s2⟩ | ⟨z2, s2⟩ <;> rcases sgn_cases r with ⟨z3, s3⟩ | ⟨z3, s3⟩ | ⟨z3, s3⟩ <;> omega
theorem v4_ok (g : Gpts pts) {sv : Nat} (hs : ∀ i j k, i < j → j < k → k < pts.length → sg sv i j k = tau pts i j k) {a b c d : Nat} (h1 : a < b) (h2 : b < c) (h3 : c < d) (h4 : d < pts.length) : v4 sv a b c d = true := by
  unfold v4
  rw [hs b c d h2 h3 h4, hs a c d (by omega) h3 h4, hs a b d h1 (by omega) h4, hs a b c h1 h2 (by omega)]
  have := four g h1 h2 h3 h4
  rw [Bool.not_eq_true', ← Bool.not_eq_true, Bool.and_eq_true, Bool.and_eq_true, beq_iff_eq, beq_iff_eq, beq_iff_eq]
  exact this
theorem v5_ok (g : Gpts pts) {sv : Nat} (ht : ∀ i j k, i < pts.length → j < pts.length → k < pts.length → tau pts i j k = tauV sv i j k) {a b c d e : Nat} (ha : a < pts.length) (hb : b < pts.length) (hc : c < pts.length) (hd : d < pts.length) (he : e < pts.length) (n1 : a ≠ b) (n2 : b ≠ c) (n3 : a ≠ c) (n4 : a ≠ d) (n5 : d ≠ e) (n6 : a ≠ e) : v5 sv a b c d e = true := by
  unfold v5
  rw [← ht a b c ha hb hc, ← ht a d e ha hd he, ← ht a b d ha hb hd, ← ht a c e ha hc he, ← ht a b e ha hb he, ← ht a c d ha hc hd]
  have := five (pts := pts) a b c d e (Int.mul_ne_zero (g.any ha hb hc n1 n2 n3) (g.any ha hd he n4 n5 n6))
  rw [Bool.not_eq_true', ← Bool.not_eq_true, Bool.and_eq_true, beq_iff_eq, beq_iff_eq]
  exact this
end
end Q40
end

section
set_option maxRecDepth 100000
set_option maxHeartbeats 4000000
namespace Q40
open PySem PySem.Spec PyProof.Rows L2

theorem perm_sub {α : Type} [DecidableEq α] : ∀ {L A : List α}, L.Nodup → (∀ x ∈ L, x ∈ A) → A.length = L.length → L.Perm A
  | [], A, _, _, h => by
    have : A = [] := List.length_eq_zero_iff.mp h
    rw [this]
  | x :: L, A, nd, hs, h => by
    obtain ⟨h1, h2⟩ := List.nodup_cons.mp nd
    have hx := hs x List.mem_cons_self
    have p := List.perm_cons_erase hx
    have hl := List.length_erase_of_mem hx
    rw [List.length_cons] at h
    have ih := perm_sub (L := L) (A := A.erase x) h2 (fun y hy => (List.mem_erase_of_ne (fun e : y = x => h1 (e ▸ hy))).2 (hs y (List.mem_cons_of_mem _ hy))) (by omega)
    exact (ih.cons x).trans p.symm
theorem ndK_ok : ∀ {l : List Nat}, ndK l = true → l.Nodup
  | [], _ => List.nodup_nil
  | x :: l, h => by
    have h' : cond (elK x l) false (ndK l) = true := h
    rw [elK_eq] at h'
    by_cases hx : x ∈ l
    · rw [decide_eq_true hx] at h'; cases h'
    · rw [decide_eq_false hx] at h'
      exact List.nodup_cons.mpr ⟨hx, ndK_ok h'⟩
/-- who comes later has a neighbour before -/
theorem parB_at {g : Nat → Nat → Bool} : ∀ {rest seen : List Nat}, parB g seen rest = true → ∀ i m, rest[i]? = some m → seen ++ rest.take i = [] ∨ ∃ s ∈ seen ++ rest.take i, g s m = true ∧ g m s = true
  | [], _, _, i, m, h => by simp at h
  | x :: rest, seen, h, 0, m, hm => by
    have e : x = m := Option.some.inj hm
    subst e
    rw [parB, Bool.and_eq_true, Bool.or_eq_true, List.isEmpty_iff, List.any_eq_true] at h
    rw [List.take_zero, List.append_nil]
    rcases h.1 with h | ⟨s, hs, h⟩
    · exact .inl h
    · rw [Bool.and_eq_true] at h
      exact .inr ⟨s, hs, h⟩
  | x :: rest, seen, h, i + 1, m, hm => by
    rw [parB, Bool.and_eq_true] at h
    have := parB_at h.2 i m hm
    rw [List.append_assoc] at this
    exact this
theorem conn_of {g : Nat → Nat → Bool} {L : List Nat} (h : parB g [] L = true) : ∀ m0 ∈ L, ∀ S : Nat → Prop, S m0 → (∀ m ∈ L, S m → ∀ m' ∈ L, g m m' = true → S m') → ∀ m ∈ L, S m := by
  intro m0 hm0 S h0 hs
  have back : ∀ (i m : Nat), L[i]? = some m → 0 < i → ∃ (j s : Nat), j < i ∧ L[j]? = some s ∧ g s m = true ∧ g m s = true := fun i m hm hi => by
    have hl := (List.getElem?_eq_some_iff.mp hm).1
    rcases parB_at h i m hm with e | ⟨s, hs, e⟩
    · rw [List.nil_append] at e
      have := congrArg List.length e
      rw [List.length_take, List.length_nil] at this
      omega
    · rw [List.nil_append] at hs
      obtain ⟨j, hj⟩ := List.mem_iff_getElem?.mp hs
      rw [List.getElem?_take] at hj
      by_cases hji : j < i
      · rw [if_pos hji] at hj
        exact ⟨j, s, hji, hj, e⟩
      · rw [if_neg hji] at hj; cases hj
  have down : ∀ (i m : Nat), L[i]? = some m → S m → ∃ z, L[0]? = some z ∧ S z := by
    intro i
    induction i using Nat.strongRecOn with
    | ind i ih =>
      intro m hm hS
      by_cases hi : 0 < i
      · obtain ⟨j, s, hji, hj, _, e2⟩ := back i m hm hi
        exact ih j hji s hj (hs m (List.mem_of_getElem? hm) hS s (List.mem_of_getElem? hj) e2)
      · have : i = 0 := by omega
        subst this
        exact ⟨m, hm, hS⟩
  obtain ⟨i0, hi0⟩ := List.mem_iff_getElem?.mp hm0
  obtain ⟨z, hz, hSz⟩ := down i0 m0 hi0 h0
  have up : ∀ (i m : Nat), L[i]? = some m → S m := by
    intro i
    induction i using Nat.strongRecOn with
    | ind i ih =>
      intro m hm
      by_cases hi : 0 < i
      · obtain ⟨j, s, hji, hj, e1, _⟩ := back i m hm hi
        exact hs s (List.mem_of_getElem? hj) (ih j hji s hj) m (List.mem_of_getElem? hm) e1
      · have : i = 0 := by omega
        subst this
        rw [hz] at hm
        rw [← Option.some.inj hm]; exact hSz
  intro m hm
  obtain ⟨i, hi⟩ := List.mem_iff_getElem?.mp hm
  exact up i m hi
theorem cntK_eq (m m' : Nat) : ∀ l : List Row, cntK (l.map kRow) m m' = (l.filter fun r => has m r && !has m' r).length
  | [] => rfl
  | r :: l => by
    show cond (Nat.beq (Nat.land m (kRow r).bit) 0) (cntK (l.map kRow) m m') (cond (Nat.beq (Nat.land m' (kRow r).bit) 0) (Nat.succ (cntK (l.map kRow) m m')) (cntK (l.map kRow) m m')) = _
    rw [bit_has, bit_has, cntK_eq m m' l, List.filter_cons]
    cases has m r <;> cases has m' r <;> rfl
section
variable {n : Nat} {t : Tau} {rows : List Row}
theorem adj_cnt (R : RowsOk n t rows) (nd : (pairsN n).Nodup) (m m' : Nat) : adjK (rows.map kRow) m m' = true ↔ adj rows m m' := by
  unfold adjK adj
  rw [cntK_eq, Nat.beq_eq]
  have : ((edgesR rows m).filter fun e => !decide (e ∈ edgesR rows m')).length = (rows.filter fun r => has m r && !has m' r).length := by
    unfold edgesR
    rw [List.filter_map, List.length_map, List.filter_filter]
    congr 1
    refine List.filter_congr fun r hr => ?_
    have := mem_mask R nd hr (rep_edges rows m')
    unfold edgesR at this
    show (!decide (r.e ∈ (rows.filter (has m')).map Row.e) && has m r) = _
    rw [this, Bool.and_comm]
  rw [this]
end
theorem pairs_len : ∀ n, 2 ≤ n → n ≤ 5 → 1 ≤ (pairsN n).length ∧ (pairsN n).length ≤ 10 := by
  intro n h1 h2
  have : ∀ n ∈ List.range 6, 2 ≤ n → 1 ≤ (pairsN n).length ∧ (pairsN n).length ≤ 10 := by decide +kernel
  exact this n (List.mem_range.mpr (by omega)) h1
theorem pairs_ne : ∀ n, n ≤ 7 → ∀ e ∈ pairsN n, e.1 ≠ e.2 := by
  intro n h
  have : ∀ n ∈ List.range 8, ∀ e ∈ pairsN n, e.1 ≠ e.2 := by decide +kernel
  exact this n (List.mem_range.mpr (by omega))
theorem chkB_facts {ps : List Pt} {rows : List Row} (T : LTab ps rows) (hin : PtsIn ps) (h : chkB ps.length (rows.map kRow) = true) : ∃ L, BOk ps rows L := by
  unfold chkB at h
  rw [strict_eq, filK_eq, bfsK_eq] at h
  cases hb : bfs rows 100 0 [filGo rows rows 0] with
  | none => rw [hb] at h; cases h
  | some L =>
  rw [hb] at h
  have h : lawK (rows.map kRow) (2 * ps.length - 3) (rows.map kRow).length (finB ps.length (filGo rows rows 0) (rows.map kRow) L) (rows.map kRow) [(0, 0)] = true := h
  rw [List.length_map, lawK_eq] at h
  unfold finB at h
  have eA : ((lawGo rows (2 * ps.length - 3) rows [(0, 0)]).filter fun mc => Nat.beq mc.2 (2 * ps.length - 3)).map (·.1) = lawL rows (2 * ps.length - 3) := by
    unfold lawL
    congr 1
    refine List.filter_congr fun mc _ => ?_
    rw [Bool.eq_iff_iff, Nat.beq_eq, decide_eq_true_eq]
  rw [eA] at h
  simp only [Bool.and_eq_true] at h
  obtain ⟨h1, h2, h3, h4, h5, h6, h7⟩ := h
  have hnd := ndK_ok h2
  have hsub : ∀ m ∈ L, m ∈ lawL rows (2 * ps.length - 3) := fun m hm => by
    have := List.all_eq_true.mp h3 m hm
    rw [elK_eq, decide_eq_true_eq] at this
    exact this
  have hlen : (lawL rows (2 * ps.length - 3)).length = L.length := (Nat.eq_of_beq_eq_true h1).symm
  have hlt : ∀ m ∈ L, m < 2 ^ rows.length := fun m hm => by
    have := List.all_eq_true.mp h5 m hm
    rw [Nat.blt_eq, List.length_map] at this
    exact this
  have hne : ∀ m ∈ L, edgesR rows m ≠ [] := fun m hm z => by
    have hm2 := hsub m hm
    unfold lawL at hm2
    obtain ⟨mc, hmc, rfl⟩ := List.mem_map.mp hm2
    rw [List.mem_filter, decide_eq_true_eq] at hmc
    obtain ⟨ok, _⟩ := lawGo_ok T.R (2 * ps.length - 3) rows.length (Nat.le_refl _)
    rw [List.take_length] at ok
    have := ok.cnt mc hmc.1
    rw [z, hmc.2] at this
    have h0 : 2 * ps.length - 3 = 0 := this
    have := T.lo
    omega
  have h0 : filGo rows rows 0 ∈ L := by
    rw [elK_eq, decide_eq_true_eq] at h7
    exact h7
  refine ⟨L, T, hin, ⟨fun m hm => ?_, fun m hm => ?_⟩, hb, Nat.le_of_ble_eq_true h6, fun z => ?_, hnd, hlt, hne, perm_sub hnd hsub hlen, ?_⟩
  · rw [List.mem_singleton.mp hm]; exact hlt _ h0
  · rw [List.mem_singleton.mp hm]; exact hne _ h0
  · rw [z] at h0; cases h0
  · intro m0 hm0 S hS hs
    exact conn_of h4 m0 hm0 S hS fun m hm hSm m' hm' hg => hs m hm hSm m' hm' ((adj_cnt T.R T.toTabl.nd m m').mp hg)
theorem chkA_facts {ps : List Pt} {rows : List Row} {size : Nat} (T : Tabl ps rows) (hin : PtsIn ps) (G : PtsG ps) (irr : ∀ i j, ¬ 0 < tau ps i j j) (hc : (ps.length = 6 ∧ size = 14) ∨ (ps.length = 7 ∧ size = 42)) (h : chkA ps.length size (rows.map kRow) = true) : ∃ L, AOk ps rows L := by
  unfold chkA at h
  rw [strict_eq, filK_eq, bfsK_eq] at h
  cases hb : bfs rows 100 0 [filGo rows rows 0] with
  | none => rw [hb] at h; cases h
  | some L =>
  rw [hb] at h
  have h : finA ps.length (filGo rows rows 0) size (rows.map kRow) L = true := h
  unfold finA at h
  simp only [Bool.and_eq_true] at h
  obtain ⟨h1, h2, h3, h4, h5⟩ := h
  have hlt : ∀ m ∈ L, m < 2 ^ rows.length := fun m hm => by
    have := List.all_eq_true.mp h3 m hm
    rw [Nat.blt_eq, List.length_map] at this
    exact this
  have each : ∀ m ∈ L, (edgesR rows m).length = 2 * ps.length - 3 ∧ (∀ v, v < ps.length → lpntM rows m v = true) ∧ ∀ r ∈ rows, has m r = true → (m &&& r.X) = 0 := fun m hm => by
    have := List.all_eq_true.mp h5 m hm
    simp only [Bool.and_eq_true] at this
    obtain ⟨a1, a2, a3⟩ := this
    refine ⟨?_, fun v hv => ?_, fun r hr hh => ?_⟩
    · have e := Nat.eq_of_beq_eq_true a1
      rw [cntK_eq] at e
      rw [← e]
      unfold edgesR
      rw [List.length_map]
      congr 1
      refine List.filter_congr fun r _ => ?_
      unfold has
      rw [Nat.zero_testBit, Bool.not_false, Bool.and_true]
    · have := List.all_eq_true.mp a2 v (List.mem_range.mpr hv)
      rw [lpK_eq] at this
      exact this
    · have := List.all_eq_true.mp a3 (kRow r) (List.mem_map.mpr ⟨r, hr, rfl⟩)
      rw [bit_has, hh, Bool.not_true, Bool.false_or] at this
      exact Nat.eq_of_beq_eq_true this
  have hne : ∀ m ∈ L, edgesR rows m ≠ [] := fun m hm z => by
    have := (each m hm).1
    rw [z] at this
    have h0 : (0 : Nat) = 2 * ps.length - 3 := this
    have := T.lo
    omega
  have h0 : filGo rows rows 0 ∈ L := by
    rw [elK_eq, decide_eq_true_eq] at h4
    exact h4
  have hl := Nat.eq_of_beq_eq_true h1
  refine ⟨L, T, hin, G, ⟨fun m hm => ?_, fun m hm => ?_⟩, hb, ndK_ok h2, hlt, ?_, fun m hm => (each m hm).1, fun m hm i hi => ?_, fun m hm e he f hf => ?_⟩
  · rw [List.mem_singleton.mp hm]; exact hlt _ h0
  · rw [List.mem_singleton.mp hm]; exact hne _ h0
  · rcases hc with ⟨a, b⟩ | ⟨a, b⟩
    · exact .inl ⟨a, by rw [hl, b]⟩
    · exact .inr ⟨a, by rw [hl, b]⟩
  · by_cases hv : ∃ k, k ∈ endsT (edgesR rows m) i
    · rw [lpnt_mask T.R irr (rep_edges rows m) hv]
      exact (each m hm).2.1 i hi
    · unfold lpntT
      have : endsT (edgesR rows m) i = [] := by
        cases q : endsT (edgesR rows m) i with
        | nil => rfl
        | cons k l => exact absurd ⟨k, by rw [q]; exact List.mem_cons_self⟩ hv
      rw [this]
      rfl
  · obtain ⟨r, hr, hmr, rfl⟩ := (rep_edges rows m e).mp he
    obtain ⟨o, ho, hmo, rfl⟩ := (rep_edges rows m f).mp hf
    rw [← T.R.X o ho r hr]
    exact and_zero.mp ((each m hm).2.2 o ho hmo) r.i hmr
theorem tab_b {ps : List Pt} (h : PtsIn ps) : PtsB ps := h.b
/-- the law's general places -/
theorem HB_ok (pts ps : List Pt) (g : Gpts pts) (h2 : 2 ≤ pts.length) (h5 : pts.length ≤ 5) (hm : Moved pts ps) : ∃ rows L, BOk ps rows L := by
  have K := kept g hm
  have hin := K.inn g h2 (by omega)
  have hG := K.gen g (by omega)
  have main : ∀ (n : Nat) (v : Nat → Bool) (m : Nat), pts.length = n → (∀ i j k, i < j → j < k → k < n → tix i j k < m) → v (svOf (tau pts) m) = true → okB n v (svOf (tau pts) m) = true → ∃ rows L, BOk ps rows L := fun n v m hn htx hv hok => by
    subst hn
    have hs : ∀ i j k, i < j → j < k → k < pts.length → sg (svOf (tau pts) m) i j k = tau pts i j k := fun i j k a b c => sg_svOf a b (by omega) (htx i j k a b c) (trn_pm (g.up a b c))
    have ht := tau_of hs
    have hlen := K.len
    have R : RowsOk ps.length (tau ps) (rowsT ps.length (tauV (svOf (tau pts) m))) := rowsT_ok (fun i j k hi hj hk => by
      rw [K.tau_ i j k (by omega) (by omega) (by omega)]
      exact ht i j k (by omega) (by omega) (by omega)) (pairs_ne _ (by omega))
    have hrl : (rowsT ps.length (tauV (svOf (tau pts) m))).length = (pairsN ps.length).length := by rw [← R.prs, List.length_map]
    have hp := pairs_len ps.length (by omega) (by omega)
    have T : LTab ps (rowsT ps.length (tauV (svOf (tau pts) m))) := ⟨⟨hin.b, by omega, by omega, R⟩, hG, by omega, by omega, fun i j => by
      have : tau ps i j j = 0 := trn_abb' _ _
      omega⟩
    obtain ⟨L, O⟩ := chkB_facts T hin (by rw [hlen]; exact okB_at hok hv)
    exact ⟨_, L, O⟩
  have hs : ∀ m, (∀ i j k, i < j → j < k → k < pts.length → tix i j k < m) → ∀ i j k, i < j → j < k → k < pts.length → sg (svOf (tau pts) m) i j k = tau pts i j k := fun m htx i j k a b c => sg_svOf a b (by omega) (htx i j k a b c) (trn_pm (g.up a b c))
  have tx : ∀ n m, n ≤ 5 → (∀ k ∈ List.range n, ∀ j ∈ List.range k, ∀ i ∈ List.range j, tix i j k < m) → ∀ i j k, i < j → j < k → k < n → tix i j k < m := fun n m _ h i j k a b c => h k (List.mem_range.mpr c) j (List.mem_range.mpr b) i (List.mem_range.mpr a)
  have cases4 : pts.length = 2 ∨ pts.length = 3 ∨ pts.length = 4 ∨ pts.length = 5 := by omega
  have lt := fun m => mk_lt 0 (fun q => match trips[q]? with | some (i, j, k) => decide (0 < tau pts i j k) | none => false) m
  rcases cases4 with hn | hn | hn | hn
  · exact main 2 (fun _ => true) 0 hn (tx 2 0 (by decide) (by decide +kernel)) rfl (allTo_at fin2 (lt 0))
  · exact main 3 (fun _ => true) 1 hn (tx 3 1 (by decide) (by decide +kernel)) rfl (allTo_at fin3 (lt 1))
  · have htx := tx 4 4 (by decide) (by decide +kernel)
    have hs4 := hs 4 (by rw [hn]; exact htx)
    exact main 4 valid4 4 hn htx (v4_ok g hs4 (by decide) (by decide) (by decide) (by omega)) (allTo_at fin4 (lt 4))
  · have htx := tx 5 10 (by decide) (by decide +kernel)
    have hs5 := hs 10 (by rw [hn]; exact htx)
    have ht5 := tau_of hs5
    refine main 5 valid5 10 hn htx ?_ (fin5 (lt 10))
    unfold valid5
    simp only [Bool.and_eq_true]
    exact ⟨v4_ok g hs5 (by decide) (by decide) (by decide) (by omega), v4_ok g hs5 (by decide) (by decide) (by decide) (by omega), v4_ok g hs5 (by decide) (by decide) (by decide) (by omega), v4_ok g hs5 (by decide) (by decide) (by decide) (by omega), v4_ok g hs5 (by decide) (by decide) (by decide) (by omega),
      v5_ok g ht5 (by omega) (by omega) (by omega) (by omega) (by omega) (by decide) (by decide) (by decide) (by decide) (by decide) (by decide), v5_ok g ht5 (by omega) (by omega) (by omega) (by omega) (by omega) (by decide) (by decide) (by decide) (by decide) (by decide) (by decide), v5_ok g ht5 (by omega) (by omega) (by omega) (by omega) (by omega) (by decide) (by decide) (by decide) (by decide) (by decide) (by decide), v5_ok g ht5 (by omega) (by omega) (by omega) (by omega) (by omega) (by decide) (by decide) (by decide) (by decide) (by decide) (by decide), v5_ok g ht5 (by omega) (by omega) (by omega) (by omega) (by omega) (by decide) (by decide) (by decide) (by decide) (by decide) (by decide)⟩
end Q40
end

section
set_option maxRecDepth 100000
set_option maxHeartbeats 4000000
namespace Q40
open PySem PySem.Spec PyProof.Rows L2

/-! ### convex places -/
theorem conv_at {n i : Nat} (h : i < n) : (convP n).getD i (0, 0, 1) = ((i : Int), (i : Int) * i, 1) := by
  unfold convP
  rw [List.getD_eq_getElem?_getD, List.getElem?_map, List.getElem?_range h]
  rfl
theorem dbl_conv (i j k : Int) : dbl (i, i * i, 1) (j, j * j, 1) (k, k * k, 1) = (j - i) * (k - i) * (k - j) := by
  simp only [dbl]
  grind
theorem trn_conv {i j k : Nat} (h1 : i < j) (h2 : j < k) : trn ((i : Int), (i : Int) * i, 1) ((j : Int), (j : Int) * j, 1) ((k : Int), (k : Int) * k, 1) = 1 := by
  unfold trn
  rw [dbl_conv]
  exact sgn_pos (Int.mul_pos (Int.mul_pos (by omega) (by omega)) (by omega))
theorem conv_len (n : Nat) : (convP n).length = n := by unfold convP; rw [List.length_map, List.length_range]
theorem conv_g {n : Nat} (hn : n ≤ 7) : Gpts (convP n) := by
  refine ⟨base_conv hn, ?_, fun i j k p q r h1 h2 hp hq hr => ?_⟩
  · unfold convP
    refine List.Pairwise.map (R := (· ≠ ·)) _ (fun a b hne z => hne ?_) List.nodup_range
    rw [Prod.mk.injEq] at z
    omega
  · have hk := (List.getElem?_eq_some_iff.mp hr).1
    rw [conv_len] at hk
    have e : ∀ {i : Nat} {p : Pt}, i < n → (convP n)[i]? = some p → p = ((i : Int), (i : Int) * i, 1) := fun hi h => by
      rw [← conv_at hi, List.getD_eq_getElem?_getD, h]; rfl
    rw [e (by omega) hp, e (by omega) hq, e hk hr, trn_conv h1 h2]
    decide
theorem tix_lt : ∀ i j k, i < j → j < k → k < 7 → tix i j k < 35 := by
  intro i j k h1 h2 h3
  have : ∀ k ∈ List.range 7, ∀ j ∈ List.range k, ∀ i ∈ List.range j, tix i j k < 35 := by decide +kernel
  exact this k (List.mem_range.mpr h3) j (List.mem_range.mpr h2) i (List.mem_range.mpr h1)
theorem ones : ∀ q, q < 35 → Nat.testBit 34359738367 q = true := by
  intro q hq
  have : ∀ q ∈ List.range 35, Nat.testBit 34359738367 q = true := by decide +kernel
  exact this q (List.mem_range.mpr hq)
theorem HA_ok (n : Nat) (ps : List Pt) (hn : n = 6 ∨ n = 7) (hm : Moved (convP n) ps) : ps.length = n ∧ ∃ rows L, AOk ps rows L := by
  have hn7 : n ≤ 7 := by omega
  have g := conv_g hn7
  have K := kept g hm
  have hl := conv_len n
  have hlen : ps.length = n := by rw [K.len, hl]
  refine ⟨hlen, ?_⟩
  have hin := K.inn g (by omega) (by omega)
  have hG := K.gen g (by omega)
  have hs : ∀ i j k, i < j → j < k → k < n → sg 34359738367 i j k = tau (convP n) i j k := fun i j k a b c => by
    unfold sg tau
    rw [ones _ (tix_lt i j k a b (by omega)), cond_true, conv_at (by omega), conv_at (by omega), conv_at c, trn_conv a b]
  have ht := tau_of hs
  have R : RowsOk ps.length (tau ps) (rowsT ps.length (tauV 34359738367)) := rowsT_ok (fun i j k hi hj hk => by
    rw [K.tau_ i j k (by omega) (by omega) (by omega)]
    exact ht i j k (by omega) (by omega) (by omega)) (pairs_ne _ (by omega))
  have T : Tabl ps (rowsT ps.length (tauV 34359738367)) := ⟨hin.b, by omega, by omega, R⟩
  have irr : ∀ i j, ¬ 0 < tau ps i j j := fun i j => by
    have : tau ps i j j = 0 := trn_abb' _ _
    omega
  rcases hn with rfl | rfl
  · have h : chkA ps.length 14 ((rowsT ps.length (tauV 34359738367)).map kRow) = true := by
      rw [hlen]
      have := finA6
      unfold okA at this
      rw [frcK_eq] at this
      exact this
    obtain ⟨L, O⟩ := chkA_facts T hin hG irr (.inl ⟨hlen, rfl⟩) h
    exact ⟨_, L, O⟩
  · have h : chkA ps.length 42 ((rowsT ps.length (tauV 34359738367)).map kRow) = true := by
      rw [hlen]
      have := finA7
      unfold okA at this
      rw [frcK_eq] at this
      exact this
    obtain ⟨L, O⟩ := chkA_facts T hin hG irr (.inr ⟨hlen, rfl⟩) h
    exact ⟨_, L, O⟩
end Q40
end

section
set_option maxRecDepth 100000
set_option maxHeartbeats 8000000
namespace Q40
open PySem PySem.Spec PyProof.Rows L2

/-! ### the program's top -/
structure DefAt (K : PySem.W.Frag) (mg : Str → Option Value) (x : Str) (st : Stmt) : Prop where
  ex : ∃ (f : Addr) (fd : FuncData), Fun K x x st f fd ∧ mg x = some (.ref f)
theorem def_at {K : PySem.W.Frag} {h : Heap} {mg : Str → Option Value} (X : K.In h) (G : h.Ns mainGlobals mg) {x : Str} {st : Stmt} {f : Addr} {oc : Value} {od an : Option Addr} {osl : Array (Option Value)} {kV doc pm cdv ct : Value} (a : PySem.W.nsIn K mainGlobals x = some (some (.ref f)))
    (l : K.lookup f = some ⟨oc, od, .func (PySem.W.fnOf x x (defArgs st) (defBody st) (defScope st) .none kV doc pm an cdv ct), osl⟩) (c : PySem.W.codeIn K cdv x = true) (k : PySem.W.keepIn K (.ref f) = true) : DefAt K mg x st :=
  ⟨f, _, fun_mk (st := st) l c k, PySem.W.mg_of X G a⟩
theorem num_at {K : PySem.W.Frag} {h : Heap} {mg : Str → Option Value} (X : K.In h) (G : h.Ns mainGlobals mg) {x : Str} {n : Int} {t : Tok} (a : PySem.W.nsIn K mainGlobals x = some (some (.int n t))) : ∃ t, mg x = some (.int n t) := ⟨t, PySem.W.mg_of X G a⟩
theorem law_top {P : Program} {w : World} {K : PySem.W.Frag} {mg : Str → Option Value} {base : Heap} (B : NoB mg) (C : Nums mg)
    (D_is_in : DefAt K mg "is_in" s_is_in)
    (D_gcd : DefAt K mg "gcd" s_gcd)
    (D_sign : DefAt K mg "sign" s_sign)
    (D_is_point : DefAt K mg "is_point" s_is_point)
    (D_need_points : DefAt K mg "need_points" s_need_points)
    (D_doubled : DefAt K mg "doubled" s_doubled)
    (D_turn_of : DefAt K mg "turn_of" s_turn_of)
    (D_is_crossing : DefAt K mg "is_crossing" s_is_crossing)
    (D_need_general : DefAt K mg "need_general" s_need_general)
    (D_need_places : DefAt K mg "need_places" s_need_places)
    (D_cross : DefAt K mg "cross" s_cross)
    (D_ends_at : DefAt K mg "ends_at" s_ends_at)
    (D_is_pointed_at : DefAt K mg "is_pointed_at" s_is_pointed_at)
    (D_can_have : DefAt K mg "can_have" s_can_have)
    (D_pairs_of : DefAt K mg "pairs_of" s_pairs_of)
    (D_filled : DefAt K mg "filled" s_filled)
    (D_is_outer : DefAt K mg "is_outer" s_is_outer)
    (D_exchanged : DefAt K mg "exchanged" s_exchanged)
    (D_all_pseudo : DefAt K mg "all_pseudo" s_all_pseudo)
    (D_law_taken : DefAt K mg "_law_taken" s_law_taken)
    (D_law_pick : DefAt K mg "_law_pick" s_law_pick)
    (D_law_signed : DefAt K mg "_law_signed" s_law_signed)
    (D_law_grid : DefAt K mg "_law_grid" s_law_grid)
    (D_law_sign : DefAt K mg "_law_sign" s_law_sign)
    (D_law_doubled : DefAt K mg "_law_doubled" s_law_doubled)
    (D_law_turn : DefAt K mg "_law_turn" s_law_turn)
    (D_law_general : DefAt K mg "_law_general" s_law_general)
    (D_law_pairs : DefAt K mg "_law_pairs" s_law_pairs)
    (D_law_gcd : DefAt K mg "_law_gcd" s_law_gcd)
    (D_law_ratio : DefAt K mg "_law_ratio" s_law_ratio)
    (D_law_times : DefAt K mg "_law_times" s_law_times)
    (D_law_plus : DefAt K mg "_law_plus" s_law_plus)
    (D_law_lowest : DefAt K mg "_law_lowest" s_law_lowest)
    (D_law_cross : DefAt K mg "_law_cross" s_law_cross)
    (D_law_order : DefAt K mg "_law_order" s_law_order)
    (D_law_between : DefAt K mg "_law_between" s_law_between)
    (D_law_common : DefAt K mg "_law_common" s_law_common)
    (D_law_cross_edges : DefAt K mg "_law_cross_edges" s_law_cross_edges)
    (D_law_pointed_at : DefAt K mg "_law_pointed_at" s_law_pointed_at)
    (D_law_can_add : DefAt K mg "_law_can_add" s_law_can_add)
    (D_law_all_pseudo : DefAt K mg "_law_all_pseudo" s_law_all_pseudo)
    (D_law_moved : DefAt K mg "_law_moved" s_law_moved)
    (D_law_unpointed : DefAt K mg "_law_unpointed" s_law_unpointed)
    (D_law_good_edges : DefAt K mg "_law_good_edges" s_law_good_edges)
    (D_law_alike : DefAt K mg "_law_alike" s_law_alike)
    {f : Addr} {fd : FuncData} (FL : Fun K "law" "law" s_law f fd) : FnOk P w K mg base CX0 9 f fd ["_law_script"] (spLaw K) := by
  obtain ⟨f_sign, fd_sign, Fn_sign, M_sign⟩ := D_sign.ex
  have b_sign := (Fn_sign.binds (ps := ["number"]) fun _ _ _ _ _ _ us hl => match us, hl with | [_], _ => rfl)
  have G_sign : Callee P w K mg base "sign" 1 F_sign := callee_of (ok_sign Fn_sign ) b_sign M_sign Fn_sign.kp
  obtain ⟨f_doubled, fd_doubled, Fn_doubled, M_doubled⟩ := D_doubled.ex
  have b_doubled := (Fn_doubled.binds (ps := ["a", "b", "c"]) fun _ _ _ _ _ _ us hl => match us, hl with | [_, _, _], _ => rfl)
  have G_doubled : Callee P w K mg base "doubled" 1 F_dbl := callee_of (ok_doubled Fn_doubled ) b_doubled M_doubled Fn_doubled.kp
  obtain ⟨f_turn_of, fd_turn_of, Fn_turn_of, M_turn_of⟩ := D_turn_of.ex
  have b_turn_of := (Fn_turn_of.binds (ps := ["a", "b", "c"]) fun _ _ _ _ _ _ us hl => match us, hl with | [_, _, _], _ => rfl)
  have G_turn_of : Callee P w K mg base "turn_of" 2 F_trn := callee_of (ok_turn_of (k := 0) Fn_turn_of G_sign G_doubled) b_turn_of M_turn_of Fn_turn_of.kp
  obtain ⟨f_is_crossing, fd_is_crossing, Fn_is_crossing, M_is_crossing⟩ := D_is_crossing.ex
  have b_is_crossing := (Fn_is_crossing.binds (ps := ["a", "b", "c", "d"]) fun _ _ _ _ _ _ us hl => match us, hl with | [_, _, _, _], _ => rfl)
  have G_is_crossing : Callee P w K mg base "is_crossing" 3 F_crs := callee_of (ok_is_crossing Fn_is_crossing G_turn_of) b_is_crossing M_is_crossing Fn_is_crossing.kp
  obtain ⟨f_is_in, fd_is_in, Fn_is_in, M_is_in⟩ := D_is_in.ex
  have b_is_in := (Fn_is_in.binds (ps := ["value", "least", "most"]) fun _ _ _ _ _ _ us hl => match us, hl with | [_, _, _], _ => rfl)
  have G_is_in : Callee P w K mg base "is_in" 1 F_isin := callee_of (ok_is_in Fn_is_in B) b_is_in M_is_in Fn_is_in.kp
  obtain ⟨f_gcd, fd_gcd, Fn_gcd, M_gcd⟩ := D_gcd.ex
  have b_gcd := (Fn_gcd.binds (ps := ["one", "other"]) fun _ _ _ _ _ _ us hl => match us, hl with | [_, _], _ => rfl)
  have G_gcd : Callee P w K mg base "gcd" 1 F_gcd := callee_of (ok_gcd Fn_gcd B) b_gcd M_gcd Fn_gcd.kp
  obtain ⟨f_is_point, fd_is_point, Fn_is_point, M_is_point⟩ := D_is_point.ex
  have b_is_point := (Fn_is_point.binds (ps := ["value"]) fun _ _ _ _ _ _ us hl => match us, hl with | [_], _ => rfl)
  have G_is_point : Callee P w K mg base "is_point" 2 F_ispt := callee_of (ok_is_point Fn_is_point B C G_is_in G_gcd) b_is_point M_is_point Fn_is_point.kp
  obtain ⟨f_need_points, fd_need_points, Fn_need_points, M_need_points⟩ := D_need_points.ex
  have b_need_points := (Fn_need_points.binds (ps := ["value"]) fun _ _ _ _ _ _ us hl => match us, hl with | [_], _ => rfl)
  have G_need_points : Callee P w K mg base "need_points" 3 F_need := callee_of (ok_need_points Fn_need_points B C G_is_point) b_need_points M_need_points Fn_need_points.kp
  obtain ⟨f_need_general, fd_need_general, Fn_need_general, M_need_general⟩ := D_need_general.ex
  have b_need_general := (Fn_need_general.binds (ps := ["points"]) fun _ _ _ _ _ _ us hl => match us, hl with | [_], _ => rfl)
  have G_need_general : Callee P w K mg base "need_general" 4 F_need := callee_of (ok_need_general Fn_need_general B G_need_points G_turn_of) b_need_general M_need_general Fn_need_general.kp
  obtain ⟨f_need_places, fd_need_places, Fn_need_places, M_need_places⟩ := D_need_places.ex
  have b_need_places := (Fn_need_places.binds (ps := ["points"]) fun _ _ _ _ _ _ us hl => match us, hl with | [_], _ => rfl)
  have G_need_places : Callee P w K mg base "need_places" 5 F_need := callee_of (ok_need_places Fn_need_places B C G_need_points G_need_general) b_need_places M_need_places Fn_need_places.kp
  obtain ⟨f_cross, fd_cross, Fn_cross, M_cross⟩ := D_cross.ex
  have b_cross := (Fn_cross.binds (ps := ["points", "one", "other"]) fun _ _ _ _ _ _ us hl => match us, hl with | [_, _, _], _ => rfl)
  have G_cross : Callee P w K mg base "cross" 4 F_cross := callee_of (ok_cross Fn_cross G_is_crossing) b_cross M_cross Fn_cross.kp
  obtain ⟨f_ends_at, fd_ends_at, Fn_ends_at, M_ends_at⟩ := D_ends_at.ex
  have b_ends_at := (Fn_ends_at.binds (ps := ["edges", "i"]) fun _ _ _ _ _ _ us hl => match us, hl with | [_, _], _ => rfl)
  have G_ends_at : Callee P w K mg base "ends_at" 1 F_ends := callee_of (ok_ends_at Fn_ends_at B) b_ends_at M_ends_at Fn_ends_at.kp
  obtain ⟨f_is_pointed_at, fd_is_pointed_at, Fn_is_pointed_at, M_is_pointed_at⟩ := D_is_pointed_at.ex
  have b_is_pointed_at := (Fn_is_pointed_at.binds (ps := ["points", "edges", "i"]) fun _ _ _ _ _ _ us hl => match us, hl with | [_, _, _], _ => rfl)
  have G_is_pointed_at : Callee P w K mg base "is_pointed_at" 3 F_pnt := callee_of (ok_is_pointed_at Fn_is_pointed_at B G_ends_at G_turn_of) b_is_pointed_at M_is_pointed_at Fn_is_pointed_at.kp
  obtain ⟨f_can_have, fd_can_have, Fn_can_have, M_can_have⟩ := D_can_have.ex
  have b_can_have := (Fn_can_have.binds (ps := ["points", "edges", "edge"]) fun _ _ _ _ _ _ us hl => match us, hl with | [_, _, _], _ => rfl)
  have G_can_have : Callee P w K mg base "can_have" 5 F_can := callee_of (ok_can_have Fn_can_have B G_cross G_is_pointed_at) b_can_have M_can_have Fn_can_have.kp
  obtain ⟨f_pairs_of, fd_pairs_of, Fn_pairs_of, M_pairs_of⟩ := D_pairs_of.ex
  have b_pairs_of := (Fn_pairs_of.binds (ps := ["many"]) fun _ _ _ _ _ _ us hl => match us, hl with | [_], _ => rfl)
  have G_pairs_of : Callee P w K mg base "pairs_of" 1 F_pairs := callee_of (ok_pairs_of Fn_pairs_of B) b_pairs_of M_pairs_of Fn_pairs_of.kp
  have N_pairs_of : CalleeN P w K mg base "pairs_of" 1 F_pairsN := calleeN_of (okN_pairs_of Fn_pairs_of B) b_pairs_of M_pairs_of Fn_pairs_of.kp
  obtain ⟨f_is_outer, fd_is_outer, Fn_is_outer, M_is_outer⟩ := D_is_outer.ex
  have b_is_outer := (Fn_is_outer.binds (ps := ["points", "edge"]) fun _ _ _ _ _ _ us hl => match us, hl with | [_, _], _ => rfl)
  have G_is_outer : Callee P w K mg base "is_outer" 3 F_out := callee_of (ok_is_outer Fn_is_outer B G_turn_of) b_is_outer M_is_outer Fn_is_outer.kp
  obtain ⟨f_exchanged, fd_exchanged, Fn_exchanged, M_exchanged⟩ := D_exchanged.ex
  have b_exchanged := (Fn_exchanged.binds (ps := ["points", "edges", "edge"]) fun _ _ _ _ _ _ us hl => match us, hl with | [_, _, _], _ => rfl)
  have G_exchanged : Callee P w K mg base "exchanged" 6 F_exch := callee_of (ok_exchanged Fn_exchanged B G_pairs_of G_can_have) b_exchanged M_exchanged Fn_exchanged.kp
  obtain ⟨f_filled, fd_filled, Fn_filled, M_filled⟩ := D_filled.ex
  have b_filled := (Fn_filled.binds (ps := ["points", "edges"]) fun _ _ _ _ _ _ us hl => match us, hl with | [_, _], _ => rfl)
  have G_filled : Callee P w K mg base "filled" 6 F_fil := callee_of (ok_filled Fn_filled B N_pairs_of G_can_have) b_filled M_filled Fn_filled.kp
  obtain ⟨f_all_pseudo, fd_all_pseudo, Fn_all_pseudo, M_all_pseudo⟩ := D_all_pseudo.ex
  have b_all_pseudo := (Fn_all_pseudo.binds (ps := ["points"]) fun _ _ _ _ _ _ us hl => match us, hl with | [_], _ => rfl)
  have G_all_pseudo : Callee P w K mg base "all_pseudo" 7 F_all := callee_of (ok_all_pseudo Fn_all_pseudo B C G_need_places G_filled G_is_outer G_exchanged) b_all_pseudo M_all_pseudo Fn_all_pseudo.kp
  obtain ⟨f_law_taken, fd_law_taken, Fn_law_taken, M_law_taken⟩ := D_law_taken.ex
  have b_law_taken := (Fn_law_taken.binds (ps := ["_law_row", "_law_many"]) fun _ _ _ _ _ _ us hl => match us, hl with | [_, _], _ => rfl)
  have G_law_taken : CalleeR P w K mg base "_law_taken" 1 Pre_taken Post_taken := calleeR_of (ok_law_taken Fn_law_taken B) b_law_taken M_law_taken Fn_law_taken.kp
  obtain ⟨f_law_pick, fd_law_pick, Fn_law_pick, M_law_pick⟩ := D_law_pick.ex
  have b_law_pick := (Fn_law_pick.binds (ps := ["_law_row", "_law_things"]) fun _ _ _ _ _ _ us hl => match us, hl with | [_, _], _ => rfl)
  have G_law_pick : CalleeR P w K mg base "_law_pick" 2 Pre_pick Post_pick := calleeR_of (ok_law_pick Fn_law_pick B G_law_taken) b_law_pick M_law_pick Fn_law_pick.kp
  obtain ⟨f_law_signed, fd_law_signed, Fn_law_signed, M_law_signed⟩ := D_law_signed.ex
  have b_law_signed := (Fn_law_signed.binds (ps := ["_law_row", "_law_most"]) fun _ _ _ _ _ _ us hl => match us, hl with | [_, _], _ => rfl)
  have G_law_signed : CalleeR P w K mg base "_law_signed" 2 Pre_signed Post_signed := calleeR_of (ok_law_signed Fn_law_signed G_law_taken) b_law_signed M_law_signed Fn_law_signed.kp
  obtain ⟨f_law_grid, fd_law_grid, Fn_law_grid, M_law_grid⟩ := D_law_grid.ex
  have b_law_grid := (Fn_law_grid.binds (ps := ["_law_row", "_law_size"]) fun _ _ _ _ _ _ us hl => match us, hl with | [_, _], _ => rfl)
  have G_law_grid : CalleeR P w K mg base "_law_grid" 3 Pre_signed Post_grid := calleeR_of (ok_law_grid Fn_law_grid G_law_signed) b_law_grid M_law_grid Fn_law_grid.kp
  obtain ⟨f_law_sign, fd_law_sign, Fn_law_sign, M_law_sign⟩ := D_law_sign.ex
  have b_law_sign := (Fn_law_sign.binds (ps := ["_law_number"]) fun _ _ _ _ _ _ us hl => match us, hl with | [_], _ => rfl)
  have G_law_sign : Callee P w K mg base "_law_sign" 1 F_sign := callee_of (ok_law_sign Fn_law_sign ) b_law_sign M_law_sign Fn_law_sign.kp
  obtain ⟨f_law_doubled, fd_law_doubled, Fn_law_doubled, M_law_doubled⟩ := D_law_doubled.ex
  have b_law_doubled := (Fn_law_doubled.binds (ps := ["_law_a", "_law_b", "_law_c"]) fun _ _ _ _ _ _ us hl => match us, hl with | [_, _, _], _ => rfl)
  have G_law_doubled : Callee P w K mg base "_law_doubled" 1 F_ldbl := callee_of (ok_law_doubled Fn_law_doubled ) b_law_doubled M_law_doubled Fn_law_doubled.kp
  obtain ⟨f_law_turn, fd_law_turn, Fn_law_turn, M_law_turn⟩ := D_law_turn.ex
  have b_law_turn := (Fn_law_turn.binds (ps := ["_law_a", "_law_b", "_law_c"]) fun _ _ _ _ _ _ us hl => match us, hl with | [_, _, _], _ => rfl)
  have G_law_turn : Callee P w K mg base "_law_turn" 2 F_lturn := callee_of (ok_law_turn Fn_law_turn G_law_sign G_law_doubled) b_law_turn M_law_turn Fn_law_turn.kp
  obtain ⟨f_law_general, fd_law_general, Fn_law_general, M_law_general⟩ := D_law_general.ex
  have b_law_general := (Fn_law_general.binds (ps := ["_law_row", "_law_least", "_law_most"]) fun _ _ _ _ _ _ us hl => match us, hl with | [_, _, _], _ => rfl)
  have G_law_general : CalleeR P w K mg base "_law_general" 4 Pre_gen Post_gen := calleeR_of (ok_law_general Fn_law_general B G_law_taken G_law_pick G_law_grid G_law_turn) b_law_general M_law_general Fn_law_general.kp
  obtain ⟨f_law_pairs, fd_law_pairs, Fn_law_pairs, M_law_pairs⟩ := D_law_pairs.ex
  have b_law_pairs := (Fn_law_pairs.binds (ps := ["_law_many"]) fun _ _ _ _ _ _ us hl => match us, hl with | [_], _ => rfl)
  have G_law_pairs : Callee P w K mg base "_law_pairs" 1 F_pairs := callee_of (ok_law_pairs Fn_law_pairs B) b_law_pairs M_law_pairs Fn_law_pairs.kp
  obtain ⟨f_law_gcd, fd_law_gcd, Fn_law_gcd, M_law_gcd⟩ := D_law_gcd.ex
  have b_law_gcd := (Fn_law_gcd.binds (ps := ["_law_one", "_law_other"]) fun _ _ _ _ _ _ us hl => match us, hl with | [_, _], _ => rfl)
  have G_law_gcd : Callee P w K mg base "_law_gcd" 1 F_gcd := callee_of (ok_law_gcd Fn_law_gcd B) b_law_gcd M_law_gcd Fn_law_gcd.kp
  obtain ⟨f_law_ratio, fd_law_ratio, Fn_law_ratio, M_law_ratio⟩ := D_law_ratio.ex
  have b_law_ratio := (Fn_law_ratio.binds (ps := ["_law_numerator", "_law_denominator"]) fun _ _ _ _ _ _ us hl => match us, hl with | [_, _], _ => rfl)
  have G_law_ratio : Callee P w K mg base "_law_ratio" 2 F_rat := callee_of (ok_law_ratio Fn_law_ratio G_law_gcd) b_law_ratio M_law_ratio Fn_law_ratio.kp
  obtain ⟨f_law_times, fd_law_times, Fn_law_times, M_law_times⟩ := D_law_times.ex
  have b_law_times := (Fn_law_times.binds (ps := ["_law_one", "_law_other"]) fun _ _ _ _ _ _ us hl => match us, hl with | [_, _], _ => rfl)
  have G_law_times : Callee P w K mg base "_law_times" 3 F_times := callee_of (ok_law_times Fn_law_times G_law_ratio) b_law_times M_law_times Fn_law_times.kp
  obtain ⟨f_law_plus, fd_law_plus, Fn_law_plus, M_law_plus⟩ := D_law_plus.ex
  have b_law_plus := (Fn_law_plus.binds (ps := ["_law_one", "_law_other"]) fun _ _ _ _ _ _ us hl => match us, hl with | [_, _], _ => rfl)
  have G_law_plus : Callee P w K mg base "_law_plus" 3 F_plus := callee_of (ok_law_plus Fn_law_plus G_law_ratio) b_law_plus M_law_plus Fn_law_plus.kp
  obtain ⟨f_law_lowest, fd_law_lowest, Fn_law_lowest, M_law_lowest⟩ := D_law_lowest.ex
  have b_law_lowest := (Fn_law_lowest.binds (ps := ["_law_x", "_law_y", "_law_w"]) fun _ _ _ _ _ _ us hl => match us, hl with | [_, _, _], _ => rfl)
  have G_law_lowest : Callee P w K mg base "_law_lowest" 2 F_low := callee_of (ok_law_lowest Fn_law_lowest G_law_gcd) b_law_lowest M_law_lowest Fn_law_lowest.kp
  obtain ⟨f_law_cross, fd_law_cross, Fn_law_cross, M_law_cross⟩ := D_law_cross.ex
  have b_law_cross := (Fn_law_cross.binds (ps := ["_law_a", "_law_b", "_law_c", "_law_d"]) fun _ _ _ _ _ _ us hl => match us, hl with | [_, _, _, _], _ => rfl)
  have G_law_cross : Callee P w K mg base "_law_cross" 4 F_lcross := callee_of (ok_law_cross Fn_law_cross G_law_ratio G_law_times G_law_plus G_law_lowest) b_law_cross M_law_cross Fn_law_cross.kp
  obtain ⟨f_law_order, fd_law_order, Fn_law_order, M_law_order⟩ := D_law_order.ex
  have b_law_order := (Fn_law_order.binds (ps := ["_law_a", "_law_b"]) fun _ _ _ _ _ _ us hl => match us, hl with | [_, _], _ => rfl)
  have G_law_order : Callee P w K mg base "_law_order" 2 F_ord := callee_of (ok_law_order Fn_law_order G_law_sign) b_law_order M_law_order Fn_law_order.kp
  obtain ⟨f_law_between, fd_law_between, Fn_law_between, M_law_between⟩ := D_law_between.ex
  have b_law_between := (Fn_law_between.binds (ps := ["_law_a", "_law_b", "_law_p"]) fun _ _ _ _ _ _ us hl => match us, hl with | [_, _, _], _ => rfl)
  have G_law_between : Callee P w K mg base "_law_between" 3 F_betw := callee_of (ok_law_between Fn_law_between G_law_turn G_law_order) b_law_between M_law_between Fn_law_between.kp
  obtain ⟨f_law_common, fd_law_common, Fn_law_common, M_law_common⟩ := D_law_common.ex
  have b_law_common := (Fn_law_common.binds (ps := ["_law_a", "_law_b", "_law_c", "_law_d"]) fun _ _ _ _ _ _ us hl => match us, hl with | [_, _, _, _], _ => rfl)
  have G_law_common : Callee P w K mg base "_law_common" 5 F_common := callee_of (ok_law_common Fn_law_common B G_law_cross G_law_between) b_law_common M_law_common Fn_law_common.kp
  obtain ⟨f_law_cross_edges, fd_law_cross_edges, Fn_law_cross_edges, M_law_cross_edges⟩ := D_law_cross_edges.ex
  have b_law_cross_edges := (Fn_law_cross_edges.binds (ps := ["_law_points", "_law_one", "_law_other"]) fun _ _ _ _ _ _ us hl => match us, hl with | [_, _, _], _ => rfl)
  have G_law_cross_edges : Callee P w K mg base "_law_cross_edges" 6 F_lce := callee_of (ok_law_cross_edges Fn_law_cross_edges G_law_common) b_law_cross_edges M_law_cross_edges Fn_law_cross_edges.kp
  obtain ⟨f_law_pointed_at, fd_law_pointed_at, Fn_law_pointed_at, M_law_pointed_at⟩ := D_law_pointed_at.ex
  have b_law_pointed_at := (Fn_law_pointed_at.binds (ps := ["_law_points", "_law_edges", "_law_i"]) fun _ _ _ _ _ _ us hl => match us, hl with | [_, _, _], _ => rfl)
  have G_law_pointed_at : Callee P w K mg base "_law_pointed_at" 3 F_lpnt := callee_of (ok_law_pointed_at Fn_law_pointed_at B G_law_turn) b_law_pointed_at M_law_pointed_at Fn_law_pointed_at.kp
  obtain ⟨f_law_can_add, fd_law_can_add, Fn_law_can_add, M_law_can_add⟩ := D_law_can_add.ex
  have b_law_can_add := (Fn_law_can_add.binds (ps := ["_law_points", "_law_edges", "_law_edge"]) fun _ _ _ _ _ _ us hl => match us, hl with | [_, _, _], _ => rfl)
  have G_law_can_add : Callee P w K mg base "_law_can_add" 7 F_lcan := callee_of (ok_law_can_add Fn_law_can_add B G_law_cross_edges G_law_pointed_at) b_law_can_add M_law_can_add Fn_law_can_add.kp
  obtain ⟨f_law_all_pseudo, fd_law_all_pseudo, Fn_law_all_pseudo, M_law_all_pseudo⟩ := D_law_all_pseudo.ex
  have b_law_all_pseudo := (Fn_law_all_pseudo.binds (ps := ["_law_points"]) fun _ _ _ _ _ _ us hl => match us, hl with | [_], _ => rfl)
  have G_law_all_pseudo : Callee P w K mg base "_law_all_pseudo" 8 F_lall := callee_of (ok_law_all_pseudo Fn_law_all_pseudo B G_law_pairs G_law_can_add) b_law_all_pseudo M_law_all_pseudo Fn_law_all_pseudo.kp
  obtain ⟨f_law_moved, fd_law_moved, Fn_law_moved, M_law_moved⟩ := D_law_moved.ex
  have b_law_moved := (Fn_law_moved.binds (ps := ["_law_row", "_law_points"]) fun _ _ _ _ _ _ us hl => match us, hl with | [_, _], _ => rfl)
  have G_law_moved : CalleeR P w K mg base "_law_moved" 3 Pre_moved Post_moved := calleeR_of (ok_law_moved Fn_law_moved B G_law_taken G_law_pick G_law_lowest) b_law_moved M_law_moved Fn_law_moved.kp
  obtain ⟨f_law_unpointed, fd_law_unpointed, Fn_law_unpointed, M_law_unpointed⟩ := D_law_unpointed.ex
  have b_law_unpointed := (Fn_law_unpointed.binds (ps := ["_law_points", "_law_edges"]) fun _ _ _ _ _ _ us hl => match us, hl with | [_, _], _ => rfl)
  have G_law_unpointed : Callee P w K mg base "_law_unpointed" 4 F_unp := callee_of (ok_law_unpointed Fn_law_unpointed B G_law_pointed_at) b_law_unpointed M_law_unpointed Fn_law_unpointed.kp
  obtain ⟨f_law_good_edges, fd_law_good_edges, Fn_law_good_edges, M_law_good_edges⟩ := D_law_good_edges.ex
  have b_law_good_edges := (Fn_law_good_edges.binds (ps := ["_law_points", "_law_edges"]) fun _ _ _ _ _ _ us hl => match us, hl with | [_, _], _ => rfl)
  have G_law_good_edges : Callee P w K mg base "_law_good_edges" 7 F_good := callee_of (ok_law_good_edges Fn_law_good_edges B G_law_cross_edges G_law_unpointed) b_law_good_edges M_law_good_edges Fn_law_good_edges.kp
  obtain ⟨f_law_alike, fd_law_alike, Fn_law_alike, M_law_alike⟩ := D_law_alike.ex
  have b_law_alike := (Fn_law_alike.binds (ps := ["_law_found", "_law_due"]) fun _ _ _ _ _ _ us hl => match us, hl with | [_, _], _ => rfl)
  have alike : ∀ n, Callee P w K mg base "_law_alike" (n + 1) (F_alike n) := fun n => by
    induction n using Nat.strongRecOn with
    | ind n ih => exact callee_of (ok_law_alike_tree Fn_law_alike B n ih) b_law_alike M_law_alike Fn_law_alike.kp
  exact ok_law FL B HA_ok HB_ok G_law_taken G_law_moved G_law_general G_all_pseudo (alike 3) G_law_all_pseudo G_law_good_edges
theorem largest_of {mg : Str → Option Value} {h : Heap} {p : Program} {n : Int} (x : PySem.W.XL p [("LARGEST", PySem.W.WData.int n)] mg h) : ∃ t, mg "LARGEST" = some (.int n t) := by
  obtain ⟨v, hv, hr⟩ := x.2.val ("LARGEST", .int n) (by simp)
  cases hr
  exact ⟨_, hv⟩
theorem law_sp {K : PySem.W.Frag} {H : Hp} {a : Addr} {ns : List Int} (hl : ns.length ≤ 63) (hO : Only H) (hS : SqL K H a (ns.map V.int)) : spLaw K [.ref a] H (fun v _ => v = .bl true) fun _ _ _ => False := by
  refine ⟨a, ns, rfl, ⟨a, rfl, hl, ?_⟩, fun _ => rfl⟩
  rcases hS with (h | h) | h
  · rcases hO a with z | ⟨o, xs, z⟩
    · rw [h] at z; cases z
    · rw [h] at z; cases z
  · exact .inl h
  · exact .inr h
/-- the end: the module's loose names handed on -/
theorem walkX {l : PySem.W.OpenLaw} {q : Program} {loose : List Str} {XP : (Str → Option Value) → Heap → Prop} {YP : World → Heap → Prop} {d : DefRec} {K : Params → PySem.W.Frag} (hn : l.most = some 63) (hdf : d.params.defaults = [])
    (hY : ∀ (w : World) (h : Heap), YP w h → (K w.params).In h)
    (F : ∀ (w : World) (mg : Str → Option Value) (fa : Addr) (h : Heap), (K w.params).In h → h.Ns mainGlobals mg → XP mg h → mg d.name = some (.ref fa) →
      ∃ fd : FuncData, (∀ (s : Shared) (u : Value), BindsTo s fd ⟨[u], []⟩ [("_law_script", u)]) ∧ ∀ base : Heap, FnOk l.prog w (K w.params) mg base CX0 9 fa fd ["_law_script"] (spLaw (K w.params))) :
    PySem.W.WalkO q loose XP YP l.row.toRowW d [] (fun f vs => PySem.call f vs) := by
  refine Att.attach_call hn hdf fun w s₀ s₁ mg mb fa o pm cd doc a vs ns G Y ho hd hcd hmg hobj hints hlen hg => ?_
  have KX := hY w _ Y
  obtain ⟨fd, hb, hF⟩ := F w mg fa _ KX G.T.g G.X hmg
  exact law_call (k := 9) (CX := CX0) (sp := spLaw (K w.params)) KX G.T.g G.T.b G.T.builtins G.T.nolimit hg hobj hints (Nat.le_trans hlen (by decide)) ⟨rfl, by decide, by decide⟩ (fun base _ _ => hF base) hb (fun H hO hS => law_sp hlen hO hS) fun _ _ _ z => z
end Q40
end

open PySem PySem.W PyProof.Rows
set_option maxRecDepth 100000 in
set_option maxHeartbeats 0 in
theorem PySem.Challenge.cw_meshcore_k40_whole_lists_of_pseudo_trian_holds : PySem.Challenge.rw_meshcore_k40_whole_lists_of_pseudo_trian.Holds := by
  w_on; o_law; k_head; (case hw => w_witness2)
  k_fill
  refine Q40.walkX (l := PySem.Challenge.rw_meshcore_k40_whole_lists_of_pseudo_trian) rfl rfl (fun w h Y => PySem.W.kIn_of Y) ?F
  case F =>
    intro w mg fa h KX G XP hmg
    have D_is_in : Q40.DefAt (L2.KOf KX) mg "is_in" Q40.s_is_in := by
      refine' Q40.def_at KX G ?a ?l ?c ?k
      (case a => k_is); (case l => k_is); (case c => k_is); (case k => k_is)
    have D_gcd : Q40.DefAt (L2.KOf KX) mg "gcd" Q40.s_gcd := by
      refine' Q40.def_at KX G ?a ?l ?c ?k
      (case a => k_is); (case l => k_is); (case c => k_is); (case k => k_is)
    have D_sign : Q40.DefAt (L2.KOf KX) mg "sign" Q40.s_sign := by
      refine' Q40.def_at KX G ?a ?l ?c ?k
      (case a => k_is); (case l => k_is); (case c => k_is); (case k => k_is)
    have D_is_point : Q40.DefAt (L2.KOf KX) mg "is_point" Q40.s_is_point := by
      refine' Q40.def_at KX G ?a ?l ?c ?k
      (case a => k_is); (case l => k_is); (case c => k_is); (case k => k_is)
    have D_need_points : Q40.DefAt (L2.KOf KX) mg "need_points" Q40.s_need_points := by
      refine' Q40.def_at KX G ?a ?l ?c ?k
      (case a => k_is); (case l => k_is); (case c => k_is); (case k => k_is)
    have D_doubled : Q40.DefAt (L2.KOf KX) mg "doubled" Q40.s_doubled := by
      refine' Q40.def_at KX G ?a ?l ?c ?k
      (case a => k_is); (case l => k_is); (case c => k_is); (case k => k_is)
    have D_turn_of : Q40.DefAt (L2.KOf KX) mg "turn_of" Q40.s_turn_of := by
      refine' Q40.def_at KX G ?a ?l ?c ?k
      (case a => k_is); (case l => k_is); (case c => k_is); (case k => k_is)
    have D_is_crossing : Q40.DefAt (L2.KOf KX) mg "is_crossing" Q40.s_is_crossing := by
      refine' Q40.def_at KX G ?a ?l ?c ?k
      (case a => k_is); (case l => k_is); (case c => k_is); (case k => k_is)
    have D_need_general : Q40.DefAt (L2.KOf KX) mg "need_general" Q40.s_need_general := by
      refine' Q40.def_at KX G ?a ?l ?c ?k
      (case a => k_is); (case l => k_is); (case c => k_is); (case k => k_is)
    have D_need_places : Q40.DefAt (L2.KOf KX) mg "need_places" Q40.s_need_places := by
      refine' Q40.def_at KX G ?a ?l ?c ?k
      (case a => k_is); (case l => k_is); (case c => k_is); (case k => k_is)
    have D_cross : Q40.DefAt (L2.KOf KX) mg "cross" Q40.s_cross := by
      refine' Q40.def_at KX G ?a ?l ?c ?k
      (case a => k_is); (case l => k_is); (case c => k_is); (case k => k_is)
    have D_ends_at : Q40.DefAt (L2.KOf KX) mg "ends_at" Q40.s_ends_at := by
      refine' Q40.def_at KX G ?a ?l ?c ?k
      (case a => k_is); (case l => k_is); (case c => k_is); (case k => k_is)
    have D_is_pointed_at : Q40.DefAt (L2.KOf KX) mg "is_pointed_at" Q40.s_is_pointed_at := by
      refine' Q40.def_at KX G ?a ?l ?c ?k
      (case a => k_is); (case l => k_is); (case c => k_is); (case k => k_is)
    have D_can_have : Q40.DefAt (L2.KOf KX) mg "can_have" Q40.s_can_have := by
      refine' Q40.def_at KX G ?a ?l ?c ?k
      (case a => k_is); (case l => k_is); (case c => k_is); (case k => k_is)
    have D_pairs_of : Q40.DefAt (L2.KOf KX) mg "pairs_of" Q40.s_pairs_of := by
      refine' Q40.def_at KX G ?a ?l ?c ?k
      (case a => k_is); (case l => k_is); (case c => k_is); (case k => k_is)
    have D_filled : Q40.DefAt (L2.KOf KX) mg "filled" Q40.s_filled := by
      refine' Q40.def_at KX G ?a ?l ?c ?k
      (case a => k_is); (case l => k_is); (case c => k_is); (case k => k_is)
    have D_is_outer : Q40.DefAt (L2.KOf KX) mg "is_outer" Q40.s_is_outer := by
      refine' Q40.def_at KX G ?a ?l ?c ?k
      (case a => k_is); (case l => k_is); (case c => k_is); (case k => k_is)
    have D_exchanged : Q40.DefAt (L2.KOf KX) mg "exchanged" Q40.s_exchanged := by
      refine' Q40.def_at KX G ?a ?l ?c ?k
      (case a => k_is); (case l => k_is); (case c => k_is); (case k => k_is)
    have D_all_pseudo : Q40.DefAt (L2.KOf KX) mg "all_pseudo" Q40.s_all_pseudo := by
      refine' Q40.def_at KX G ?a ?l ?c ?k
      (case a => k_is); (case l => k_is); (case c => k_is); (case k => k_is)
    have D_law_taken : Q40.DefAt (L2.KOf KX) mg "_law_taken" Q40.s_law_taken := by
      refine' Q40.def_at KX G ?a ?l ?c ?k
      (case a => k_is); (case l => k_is); (case c => k_is); (case k => k_is)
    have D_law_pick : Q40.DefAt (L2.KOf KX) mg "_law_pick" Q40.s_law_pick := by
      refine' Q40.def_at KX G ?a ?l ?c ?k
      (case a => k_is); (case l => k_is); (case c => k_is); (case k => k_is)
    have D_law_signed : Q40.DefAt (L2.KOf KX) mg "_law_signed" Q40.s_law_signed := by
      refine' Q40.def_at KX G ?a ?l ?c ?k
      (case a => k_is); (case l => k_is); (case c => k_is); (case k => k_is)
    have D_law_grid : Q40.DefAt (L2.KOf KX) mg "_law_grid" Q40.s_law_grid := by
      refine' Q40.def_at KX G ?a ?l ?c ?k
      (case a => k_is); (case l => k_is); (case c => k_is); (case k => k_is)
    have D_law_sign : Q40.DefAt (L2.KOf KX) mg "_law_sign" Q40.s_law_sign := by
      refine' Q40.def_at KX G ?a ?l ?c ?k
      (case a => k_is); (case l => k_is); (case c => k_is); (case k => k_is)
    have D_law_doubled : Q40.DefAt (L2.KOf KX) mg "_law_doubled" Q40.s_law_doubled := by
      refine' Q40.def_at KX G ?a ?l ?c ?k
      (case a => k_is); (case l => k_is); (case c => k_is); (case k => k_is)
    have D_law_turn : Q40.DefAt (L2.KOf KX) mg "_law_turn" Q40.s_law_turn := by
      refine' Q40.def_at KX G ?a ?l ?c ?k
      (case a => k_is); (case l => k_is); (case c => k_is); (case k => k_is)
    have D_law_general : Q40.DefAt (L2.KOf KX) mg "_law_general" Q40.s_law_general := by
      refine' Q40.def_at KX G ?a ?l ?c ?k
      (case a => k_is); (case l => k_is); (case c => k_is); (case k => k_is)
    have D_law_pairs : Q40.DefAt (L2.KOf KX) mg "_law_pairs" Q40.s_law_pairs := by
      refine' Q40.def_at KX G ?a ?l ?c ?k
      (case a => k_is); (case l => k_is); (case c => k_is); (case k => k_is)
    have D_law_gcd : Q40.DefAt (L2.KOf KX) mg "_law_gcd" Q40.s_law_gcd := by
      refine' Q40.def_at KX G ?a ?l ?c ?k
      (case a => k_is); (case l => k_is); (case c => k_is); (case k => k_is)
    have D_law_ratio : Q40.DefAt (L2.KOf KX) mg "_law_ratio" Q40.s_law_ratio := by
      refine' Q40.def_at KX G ?a ?l ?c ?k
      (case a => k_is); (case l => k_is); (case c => k_is); (case k => k_is)
    have D_law_times : Q40.DefAt (L2.KOf KX) mg "_law_times" Q40.s_law_times := by
      refine' Q40.def_at KX G ?a ?l ?c ?k
      (case a => k_is); (case l => k_is); (case c => k_is); (case k => k_is)
    have D_law_plus : Q40.DefAt (L2.KOf KX) mg "_law_plus" Q40.s_law_plus := by
      refine' Q40.def_at KX G ?a ?l ?c ?k
      (case a => k_is); (case l => k_is); (case c => k_is); (case k => k_is)
    have D_law_lowest : Q40.DefAt (L2.KOf KX) mg "_law_lowest" Q40.s_law_lowest := by
      refine' Q40.def_at KX G ?a ?l ?c ?k
      (case a => k_is); (case l => k_is); (case c => k_is); (case k => k_is)
    have D_law_cross : Q40.DefAt (L2.KOf KX) mg "_law_cross" Q40.s_law_cross := by
      refine' Q40.def_at KX G ?a ?l ?c ?k
      (case a => k_is); (case l => k_is); (case c => k_is); (case k => k_is)
    have D_law_order : Q40.DefAt (L2.KOf KX) mg "_law_order" Q40.s_law_order := by
      refine' Q40.def_at KX G ?a ?l ?c ?k
      (case a => k_is); (case l => k_is); (case c => k_is); (case k => k_is)
    have D_law_between : Q40.DefAt (L2.KOf KX) mg "_law_between" Q40.s_law_between := by
      refine' Q40.def_at KX G ?a ?l ?c ?k
      (case a => k_is); (case l => k_is); (case c => k_is); (case k => k_is)
    have D_law_common : Q40.DefAt (L2.KOf KX) mg "_law_common" Q40.s_law_common := by
      refine' Q40.def_at KX G ?a ?l ?c ?k
      (case a => k_is); (case l => k_is); (case c => k_is); (case k => k_is)
    have D_law_cross_edges : Q40.DefAt (L2.KOf KX) mg "_law_cross_edges" Q40.s_law_cross_edges := by
      refine' Q40.def_at KX G ?a ?l ?c ?k
      (case a => k_is); (case l => k_is); (case c => k_is); (case k => k_is)
    have D_law_pointed_at : Q40.DefAt (L2.KOf KX) mg "_law_pointed_at" Q40.s_law_pointed_at := by
      refine' Q40.def_at KX G ?a ?l ?c ?k
      (case a => k_is); (case l => k_is); (case c => k_is); (case k => k_is)
    have D_law_can_add : Q40.DefAt (L2.KOf KX) mg "_law_can_add" Q40.s_law_can_add := by
      refine' Q40.def_at KX G ?a ?l ?c ?k
      (case a => k_is); (case l => k_is); (case c => k_is); (case k => k_is)
    have D_law_all_pseudo : Q40.DefAt (L2.KOf KX) mg "_law_all_pseudo" Q40.s_law_all_pseudo := by
      refine' Q40.def_at KX G ?a ?l ?c ?k
      (case a => k_is); (case l => k_is); (case c => k_is); (case k => k_is)
    have D_law_alike : Q40.DefAt (L2.KOf KX) mg "_law_alike" Q40.s_law_alike := by
      refine' Q40.def_at KX G ?a ?l ?c ?k
      (case a => k_is); (case l => k_is); (case c => k_is); (case k => k_is)
    have D_law_moved : Q40.DefAt (L2.KOf KX) mg "_law_moved" Q40.s_law_moved := by
      refine' Q40.def_at KX G ?a ?l ?c ?k
      (case a => k_is); (case l => k_is); (case c => k_is); (case k => k_is)
    have D_law_unpointed : Q40.DefAt (L2.KOf KX) mg "_law_unpointed" Q40.s_law_unpointed := by
      refine' Q40.def_at KX G ?a ?l ?c ?k
      (case a => k_is); (case l => k_is); (case c => k_is); (case k => k_is)
    have D_law_good_edges : Q40.DefAt (L2.KOf KX) mg "_law_good_edges" Q40.s_law_good_edges := by
      refine' Q40.def_at KX G ?a ?l ?c ?k
      (case a => k_is); (case l => k_is); (case c => k_is); (case k => k_is)
    have D_law : Q40.DefAt (L2.KOf KX) mg "law" Q40.s_law := by
      refine' Q40.def_at KX G ?a ?l ?c ?k
      (case a => k_is); (case l => k_is); (case c => k_is); (case k => k_is)
    have z_len : mg "len" = none := PySem.W.mg_none_of KX G (by k_is)
    have z_range : mg "range" = none := PySem.W.mg_none_of KX G (by k_is)
    have z_isinstance : mg "isinstance" = none := PySem.W.mg_none_of KX G (by k_is)
    have z_int : mg "int" = none := PySem.W.mg_none_of KX G (by k_is)
    have z_bool : mg "bool" = none := PySem.W.mg_none_of KX G (by k_is)
    have z_tuple : mg "tuple" = none := PySem.W.mg_none_of KX G (by k_is)
    have z_list : mg "list" = none := PySem.W.mg_none_of KX G (by k_is)
    have z_abs : mg "abs" = none := PySem.W.mg_none_of KX G (by k_is)
    have z_min : mg "min" = none := PySem.W.mg_none_of KX G (by k_is)
    have z_max : mg "max" = none := PySem.W.mg_none_of KX G (by k_is)
    have z_sorted : mg "sorted" = none := PySem.W.mg_none_of KX G (by k_is)
    have z_set : mg "set" = none := PySem.W.mg_none_of KX G (by k_is)
    have z_str : mg "str" = none := PySem.W.mg_none_of KX G (by k_is)
    have c_points : ∃ t, mg "MOST_POINTS" = some (.int 40 t) := by
      refine' Q40.num_at KX G ?e
      (case e => k_is)
    have c_pointed : ∃ t, mg "MOST_POINTED" = some (.int 12 t) := by
      refine' Q40.num_at KX G ?e
      (case e => k_is)
    have c_pseudo : ∃ t, mg "MOST_PSEUDO" = some (.int 2000 t) := by
      refine' Q40.num_at KX G ?e
      (case e => k_is)
    obtain ⟨f, fd, FL, ML⟩ := D_law.ex
    have e := hmg.symm.trans ML
    cases e
    refine ⟨fd, ?_, fun base => Q40.law_top ⟨z_len, z_range, z_isinstance, z_int, z_bool, z_tuple, z_list, z_abs, z_min, z_max, z_sorted, z_set, z_str⟩ ⟨Q40.largest_of XP, c_points, c_pointed, c_pseudo⟩ D_is_in D_gcd D_sign D_is_point D_need_points D_doubled D_turn_of D_is_crossing D_need_general D_need_places D_cross D_ends_at D_is_pointed_at D_can_have D_pairs_of D_filled D_is_outer D_exchanged D_all_pseudo D_law_taken D_law_pick D_law_signed D_law_grid D_law_sign D_law_doubled D_law_turn D_law_general D_law_pairs D_law_gcd D_law_ratio D_law_times D_law_plus D_law_lowest D_law_cross D_law_order D_law_between D_law_common D_law_cross_edges D_law_pointed_at D_law_can_add D_law_all_pseudo D_law_moved D_law_unpointed D_law_good_edges D_law_alike FL⟩
    obtain ⟨oc, od, kV, doc, pm, an, cdv, ct, osl, e, _, _⟩ := FL.ex
    subst e
    exact fun s v => .of_eq rfl
