import PyProof.Rows.All
import Wide.All
import OpenK.AllK
import Wide.FinOn
import HandS.ForMost
import HandS.Exc
import HandS.WordsExc
import HandS.Wide
import HandS.Defaults
import HandS.Conv
import HandS.IsInst
import KE.KExcInit
import HandS.ExcInit
import HandS.TryOnly
import HandS.HeadHook1
import HandS.ExcOwn
import HandS.ExcField
import KE.KDflt
import HandS.Lambda
import HandS.Comp
import HandS.MakeKwOnly
import HandS.Head0
import HandS.Head1
import HandS.Head2
import HandS.HeadEnd
import HandS.HeadHook2
import HandS.HeadHook3
import HandS.HeadHook4
import HandS.HeadWalk
import KE.DataEq
import PySem.Challenge.RW_keeprows_k42_phases_and_windows
set_option Elab.async false
set_option linter.all false
set_option maxRecDepth 100000
set_option maxHeartbeats 0
/-! Sx: readings by meaning. W, WT, WS are the weakest wishes of an expression, a test, a statement; D, DT, DA what they come to, in every heap that keeps what is known. -/
namespace Sx
open PySem PySem.Spec PyProof.Rows L2

/-! ### expressions -/
def W (X : Cx) (e : Expr) : TE := fun σ H Q => ∀ (pins : List (Addr × Obj)) (s : Shared), Inv X pins σ H s → wpAny (model X.prog X.w) X.A (eval e X.env) (EP X pins σ Q) X.xe s
def WT (X : Cx) (e : Expr) : TT := fun σ H Q => ∀ (pins : List (Addr × Obj)) (s : Shared), Inv X pins σ H s → wpAny (model X.prog X.w) X.A (isTrue e X.env (eval e X.env)) (TP X pins σ Q) X.xe s
def WW (X : Cx) (e : Expr) : TT := fun σ H Q => ∀ (whole : Sem Value) (pins : List (Addr × Obj)) (s : Shared), Inv X pins σ H s → wpAny (model X.prog X.w) X.A (isTrue e X.env whole) (TP X pins σ Q) X.xe s
def WA (X : Cx) (es : List Expr) : TA := fun σ H Q => ∀ (pos : Pos) (pins : List (Addr × Obj)) (s : Shared), Inv X pins σ H s → wpAny (model X.prog X.w) X.A (spliced (backTo pos (starEach es X.env))) (AP X pins σ Q) X.xe s
def WS (X : Cx) (st : Stmt) : TS := fun D σ H => ∀ (pins : List (Addr × Obj)) (s : Shared), Inv X pins σ H s → wpAny (model X.prog X.w) X.A (exec st X.env) (SP X pins D) X.xe s
def WB (X : Cx) (st : List Stmt) : TS := fun D σ H => ∀ (pins : List (Addr × Obj)) (s : Shared), Inv X pins σ H s → wpAny (model X.prog X.w) X.A (execs st X.env) (SP X pins D) X.xe s
section
variable {X : Cx} {e a b c o : Expr} {es : List Expr} {st : Stmt} {sts : List Stmt} {σ : L2.St} {H H1 : Hp} {Q : VK} {QB : Bool → Hp → Prop} {QA : List V → Hp → Prop} {DD : Ends} {t : TE} {tt : TT} {ta : TA} {ts : TS}
theorem pe_w : PE X e (W X e) := ⟨fun pins s σ H Q I h => h pins s I⟩
theorem pt_w : PT X e (WT X e) := ⟨fun pins s σ H Q I h => h pins s I⟩
theorem pw_w : PW X e (WW X e) := ⟨fun wh pins s σ H Q I h => h wh pins s I⟩
theorem pa_w : PA X es (WA X es) := ⟨fun pos pins s σ H Q I h => h pos pins s I⟩
theorem ps_w : PS X st (WS X st) := ⟨fun pins s σ H D I h => h pins s I⟩
theorem pss_w : PSs X sts (WB X sts) := ⟨fun pins s σ H D I h => h pins s I⟩
theorem w_of (h : PE X e t) (q : t σ H Q) : W X e σ H Q := fun pins s I => h.run pins s σ H Q I q
theorem wt_of (h : PT X e tt) (q : tt σ H QB) : WT X e σ H QB := fun pins s I => h.run pins s σ H QB I q
theorem ww_of (h : PW X e tt) (q : tt σ H QB) : WW X e σ H QB := fun wh pins s I => h.run wh pins s σ H QB I q
theorem wa_of (h : PA X es ta) (q : ta σ H QA) : WA X es σ H QA := fun pos pins s I => h.run pos pins s σ H QA I q
theorem ws_of (h : PS X st ts) (q : ts DD σ H) : WS X st DD σ H := fun pins s I => h.run pins s σ H DD I q
theorem wb_of (h : PSs X sts ts) (q : ts DD σ H) : WB X sts DD σ H := fun pins s I => h.run pins s σ H DD I q
theorem W.mono {Q' : VK} (h : W X e σ H Q) (k : ∀ v H', Q v H' → Q' v H') : W X e σ H Q' := fun pins s I => wpAny_mono (h pins s I) (fun _ _ ⟨v, H', I', r, q⟩ => ⟨v, H', I', r, k v H' q⟩) fun _ _ z => z
theorem WT.mono {Q' : Bool → Hp → Prop} (h : WT X e σ H QB) (k : ∀ v H', QB v H' → Q' v H') : WT X e σ H Q' := fun pins s I => wpAny_mono (h pins s I) (fun _ _ ⟨H', I', q⟩ => ⟨H', I', k _ H' q⟩) fun _ _ z => z
theorem ww_t (h : WW X e σ H QB) : WT X e σ H QB := h _

/-! ### what comes out, whatever is known besides -/
/-- e gives a v with P, and keeps all that is known -/
def D (X : Cx) (e : Expr) (σ : L2.St) (H : Hp) (P : V → Hp → Prop) : Prop := ∀ H1, Same H H1 → ∀ Q : VK, (∀ v H2, Same H1 H2 → P v H2 → Q v H2) → W X e σ H1 Q
abbrev DV (X : Cx) (e : Expr) (σ : L2.St) (H : Hp) (v : V) : Prop := D X e σ H (fun w _ => w = v)
def DT (X : Cx) (e : Expr) (σ : L2.St) (H : Hp) (b : Bool) : Prop := ∀ H1, Same H H1 → ∀ Q : Bool → Hp → Prop, (∀ H2, Same H1 H2 → Q b H2) → WT X e σ H1 Q
def DW (X : Cx) (e : Expr) (σ : L2.St) (H : Hp) (b : Bool) : Prop := ∀ H1, Same H H1 → ∀ Q : Bool → Hp → Prop, (∀ H2, Same H1 H2 → Q b H2) → WW X e σ H1 Q
def DA (X : Cx) (es : List Expr) (σ : L2.St) (H : Hp) (vs : List V) : Prop := ∀ H1, Same H H1 → ∀ Q : List V → Hp → Prop, (∀ H2, Same H1 H2 → Q vs H2) → WA X es σ H1 Q
variable {P : V → Hp → Prop} {v x y z : V} {i : Nat} {n : Str} {pos : Pos} {vs : List V}
theorem D.at (h : D X e σ H P) (s : Same H H1) : D X e σ H1 P := fun H2 s2 Q q => h H2 (s.trans s2) Q q
theorem DT.at {b : Bool} (h : DT X e σ H b) (s : Same H H1) : DT X e σ H1 b := fun H2 s2 Q q => h H2 (s.trans s2) Q q
theorem D.imp {P' : V → Hp → Prop} (h : D X e σ H P) (k : ∀ v H', Same H H' → P v H' → P' v H') : D X e σ H P' := fun H1 s1 Q q => h H1 s1 Q fun v H2 s2 p => q v H2 s2 (k v H2 (s1.trans s2) p)
theorem dv_eq (h : DV X e σ H v) (e2 : v = x) : DV X e σ H x := e2 ▸ h
/-- what a by-value expression asks -/
theorem d_of (h : PE X e t) (q : ∀ H1, Same H H1 → ∀ Q : VK, (∀ v H2, Same H1 H2 → P v H2 → Q v H2) → t σ H1 Q) : D X e σ H P := fun H1 s1 Q k => w_of h (q H1 s1 Q k)
theorem dv_of (h : PE X e t) (q : ∀ H1, Same H H1 → ∀ Q : VK, (∀ H2, Same H1 H2 → Q v H2) → t σ H1 Q) : DV X e σ H v := d_of h fun H1 s1 Q k => q H1 s1 Q fun H2 s2 => k v H2 s2 rfl
theorem DV.run (h : DV X e σ H v) (s : Same H H1) (k : ∀ H2, Same H1 H2 → Q v H2) : W X e σ H1 Q := h H1 s Q fun w H2 s2 ew => by
  have ew : w = v := ew
  subst ew
  exact k H2 s2
theorem dv_var (i : Nat) (h : σ[i]? = some (some v) := by rfl) (hN : X.N[i]? = some n := by rfl) (hv : Vis X.env.scope n := by first | exact Or.inl rfl | exact Or.inr (Or.inl rfl) | exact Or.inr (Or.inr rfl)) (hd : (n == ("__debug__" : Str)) = false := by decide)
    (hcd : (n == ("__classdict__" : Str)) = false := by decide) : DV X (.Name n pos) σ H v := dv_of (pe_var hN hv hd hcd) fun H1 _ Q k => ⟨v, h, k H1 (Same.refl _)⟩
theorem dv_int {k : Int} {j : Nat} : DV X (.Constant (.int k) j pos) σ H (.int k) := dv_of pe_int fun H1 _ Q q => q H1 (Same.refl _)
theorem dv_bl {k : Bool} {j : Nat} : DV X (.Constant (.bool k) j pos) σ H (.bl k) := dv_of pe_bl fun H1 _ Q q => q H1 (Same.refl _)
theorem dv_non {j : Nat} : DV X (.Constant .none j pos) σ H .non := dv_of pe_non fun H1 _ Q q => q H1 (Same.refl _)
theorem dv_str {k : Str} {j : Nat} : DV X (.Constant (.str k) j pos) σ H (.str k) := dv_of pe_str fun H1 _ Q q => q H1 (Same.refl _)
theorem dv_glob {u : Value} (hm : X.mg n = some u) (r : RelV v u) (hg : Gl X n := by rfl) (hd : (n == ("__debug__" : Str)) = false := by decide) : DV X (.Name n pos) σ H v := dv_of (pe_glob hg hm r hd) fun H1 _ Q q => q H1 (Same.refl _)
/-- a two-place operation by values -/
theorem dv_op2 {t2 : TE → TE → TE} {f : Expr} (h : ∀ ta tb, PE X a ta → PE X b tb → PE X f (t2 ta tb)) (ha : DV X a σ H x) (hb : DV X b σ H y) (hr : ∀ ta tb H1, Same H H1 → ∀ Q : VK, (∀ H2, Same H1 H2 → Q v H2) → ta σ H1 (fun x' H2 => tb σ H2 fun y' H3 => x' = x ∧ y' = y ∧ Same H1 H3) → t2 ta tb σ H1 Q) : DV X f σ H v := by
  refine dv_of (h _ _ pe_w pe_w) fun H1 s1 Q q => hr _ _ H1 s1 Q q ?_
  refine ha.run s1 fun H2 s2 => ?_
  exact hb.run (s1.trans s2) fun H3 s3 => ⟨rfl, rfl, s2.trans s3⟩
theorem dv_op {op : Operator} {r : R2} (ho : OpR X (binaryOp op) r) (ha : DV X a σ H x) (hb : DV X b σ H y) (hr : ∀ H1, Same H H1 → ∀ Q : VK, (∀ H2, Same H1 H2 → Q v H2) → r x y H1 Q) : DV X (.BinOp a op b pos) σ H v :=
  dv_of (pe_op ho pe_w pe_w) fun H1 s1 Q q => ha.run s1 fun H2 s2 => hb.run (s1.trans s2) fun H3 s3 => hr H3 ((s1.trans s2).trans s3) Q fun H4 s4 => q H4 ((s2.trans s3).trans s4)
theorem dv_cmp {op : CmpOp} {r : R2} (ho : OpR X (compareOp op) r) (ha : DV X a σ H x) (hb : DV X b σ H y) (hr : ∀ H1, Same H H1 → ∀ Q : VK, (∀ H2, Same H1 H2 → Q v H2) → r x y H1 Q) (hm : behindInMarks op b = false) : DV X (.Compare a [op] [b] pos) σ H v :=
  dv_of (pe_cmpR ho pe_w pe_w hm) fun H1 s1 Q q => ha.run s1 fun H2 s2 => hb.run (s1.trans s2) fun H3 s3 => hr H3 ((s1.trans s2).trans s3) Q fun H4 s4 => q H4 ((s2.trans s3).trans s4)
variable {k j : Int}
theorem dv_add (ha : DV X a σ H (.int k)) (hb : DV X b σ H (.int j)) : DV X (.BinOp a .Add b pos) σ H (.int (k + j)) := dv_op op_add ha hb fun H1 _ Q q => ⟨_, _, rfl, rfl, q H1 (Same.refl _)⟩
theorem dv_sub (ha : DV X a σ H (.int k)) (hb : DV X b σ H (.int j)) : DV X (.BinOp a .Sub b pos) σ H (.int (k - j)) := dv_op op_sub ha hb fun H1 _ Q q => ⟨_, _, rfl, rfl, q H1 (Same.refl _)⟩
theorem dv_mul (ha : DV X a σ H (.int k)) (hb : DV X b σ H (.int j)) (hc : CMulW k j) : DV X (.BinOp a .Mult b pos) σ H (.int (k * j)) := dv_op op_mulW ha hb fun H1 _ Q q => ⟨_, _, rfl, rfl, hc, q H1 (Same.refl _)⟩
theorem dv_fdiv (ha : DV X a σ H (.int k)) (hb : DV X b σ H (.int j)) (hc : CDivW k j) : DV X (.BinOp a .FloorDiv b pos) σ H (.int (k / j)) := dv_op op_fdivW ha hb fun H1 _ Q q => ⟨_, _, rfl, rfl, hc, q H1 (Same.refl _)⟩
theorem dv_mod (ha : DV X a σ H (.int k)) (hb : DV X b σ H (.int j)) (hc : 0 < j) : DV X (.BinOp a .Mod b pos) σ H (.int (k % j)) := dv_op op_mod ha hb fun H1 _ Q q => ⟨_, _, rfl, rfl, hc, q H1 (Same.refl _)⟩
theorem dv_lt (ha : DV X a σ H (.int k)) (hb : DV X b σ H (.int j)) : DV X (.Compare a [.Lt] [b] pos) σ H (.bl (decide (k < j))) := dv_cmp op_lt ha hb (fun H1 _ Q q => ⟨_, _, rfl, rfl, q H1 (Same.refl _)⟩) (nomark _)
theorem dv_le (ha : DV X a σ H (.int k)) (hb : DV X b σ H (.int j)) : DV X (.Compare a [.LtE] [b] pos) σ H (.bl (decide (k ≤ j))) := dv_cmp op_le ha hb (fun H1 _ Q q => ⟨_, _, rfl, rfl, q H1 (Same.refl _)⟩) (nomark _)
theorem dv_gt (ha : DV X a σ H (.int k)) (hb : DV X b σ H (.int j)) : DV X (.Compare a [.Gt] [b] pos) σ H (.bl (decide (j < k))) := dv_cmp op_gt ha hb (fun H1 _ Q q => ⟨_, _, rfl, rfl, q H1 (Same.refl _)⟩) (nomark _)
theorem dv_ge (ha : DV X a σ H (.int k)) (hb : DV X b σ H (.int j)) : DV X (.Compare a [.GtE] [b] pos) σ H (.bl (decide (j ≤ k))) := dv_cmp op_ge ha hb (fun H1 _ Q q => ⟨_, _, rfl, rfl, q H1 (Same.refl _)⟩) (nomark _)
theorem dv_cmpEq (ha : DV X a σ H x) (hb : DV X b σ H y) (hc : scal x y = true) : DV X (.Compare a [.Eq] [b] pos) σ H (.bl (decide (x = y))) := dv_cmp op_eq ha hb (fun H1 _ Q q => ⟨hc, q H1 (Same.refl _)⟩) (nomark _)
theorem dv_cmpNe (ha : DV X a σ H x) (hb : DV X b σ H y) (hc : scal x y = true) : DV X (.Compare a [.NotEq] [b] pos) σ H (.bl (!decide (x = y))) := dv_cmp op_ne ha hb (fun H1 _ Q q => ⟨hc, q H1 (Same.refl _)⟩) (nomark _)
theorem dv_eqI (ha : DV X a σ H (.int k)) (hb : DV X b σ H (.int j)) : DV X (.Compare a [.Eq] [b] pos) σ H (.bl (decide (k = j))) := dv_eq (dv_cmpEq ha hb rfl) (by simp)
theorem dv_neI (ha : DV X a σ H (.int k)) (hb : DV X b σ H (.int j)) : DV X (.Compare a [.NotEq] [b] pos) σ H (.bl (!decide (k = j))) := dv_eq (dv_cmpNe ha hb rfl) (by simp)
/-- k <= j <= m, every place asked without a change -/
theorem dv_chain {op op' : CmpOp} {r r' : R2} {k1 k2 : Bool} (ho : OpR X (compareOp op) r) (ho' : OpR X (compareOp op') r') (ha : DV X a σ H x) (hb : DV X b σ H y) (hc : DV X c σ H z)
    (hr : ∀ H1, Same H H1 → ∀ Q : VK, (∀ H2, Same H1 H2 → Q (.bl k1) H2) → r x y H1 Q) (hr' : ∀ H1, Same H H1 → ∀ Q : VK, (∀ H2, Same H1 H2 → Q (.bl k2) H2) → r' y z H1 Q)
    (hm : lastMarks [op, op'] [b, c] = false) : DV X (.Compare a [op, op'] [b, c] pos) σ H (.bl (k1 && k2)) := by
  refine dv_of (pe_chain ho ho' pe_w pe_w pe_w hm) fun H1 s1 Q q => ?_
  refine ha.run s1 fun H2 s2 => hb.run (s1.trans s2) fun H3 s3 => hr H3 ((s1.trans s2).trans s3) _ fun H4 s4 => ⟨k1, rfl, ?_⟩
  have s14 : Same H1 H4 := (s2.trans s3).trans s4
  cases k1 with
  | true =>
    refine iteT ?_
    refine hc.run (s1.trans s14) fun H5 s5 => hr' H5 ((s1.trans s14).trans s5) _ fun H6 s6 => ?_
    exact q H6 ((s14.trans s5).trans s6)
  | false =>
    refine iteF ?_
    exact q H4 s14
theorem dv_le2 {m : Int} (ha : DV X a σ H (.int k)) (hb : DV X b σ H (.int j)) (hc : DV X c σ H (.int m)) (hm : lastMarks [.LtE, .LtE] [b, c] = false := by with_unfolding_all rfl) : DV X (.Compare a [.LtE, .LtE] [b, c] pos) σ H (.bl (decide (k ≤ j) && decide (j ≤ m))) :=
  dv_chain op_le op_le ha hb hc (fun H1 _ Q q => ⟨_, _, rfl, rfl, q H1 (Same.refl _)⟩) (fun H1 _ Q q => ⟨_, _, rfl, rfl, q H1 (Same.refl _)⟩) hm
/-- a attribute of an instance that is known -/
theorem dv_fld {C dx p : Addr} {fs : List (Str × V)} {f : Str} (ho : DV X o σ H (.ref p)) (hp : H p = some (.ins C dx fs)) (c : Cls X.K C) (na : NoAttr X.K C f) (hl : fs.lookup f = some v) (hb : attributeBase o f X.env (eval o X.env) = eval o X.env := by rfl) :
    DV X (.Attribute o f pos) σ H v := dv_of (pe_fld pe_w hb) fun H1 s1 Q q => ho.run s1 fun H2 s2 => ⟨p, C, dx, fs, v, rfl, (s1.trans s2) _ _ hp, c, na, hl, q H2 s2⟩
/-- xs[i] -/
theorem dv_ixL {p : Addr} {xs : List V} (ha : DV X a σ H (.ref p)) (hb : DV X b σ H (.int k)) (hs : SqL X.K H p xs) (hi : atI xs k = some v) (hx : PlainIx b := by exact fun _ _ => rfl) : DV X (.Subscript a b pos) σ H v :=
  dv_of (pe_ix ix_list pe_w pe_w hx) fun H1 s1 Q q => ha.run s1 fun H2 s2 => hb.run (s1.trans s2) fun H3 s3 => ⟨p, xs, k, v, rfl, rfl, ((s1.trans s2).trans s3).seq hs, hi, q H3 (s2.trans s3)⟩
theorem Same.seqT {K : PySem.W.Frag} {H H' : Hp} {a : Addr} {xs : List V} (e : Same H H') (h : SqT K H a xs) : SqT K H' a xs := by
  rcases h with (h | ⟨o, h⟩) | h
  · exact .inl (.inl (e _ _ h))
  · exact .inl (.inr ⟨o, e _ _ h⟩)
  · exact .inr h
theorem dv_ixT {p : Addr} {xs : List V} (ha : DV X a σ H (.ref p)) (hb : DV X b σ H (.int k)) (hs : SqT X.K H p xs) (hi : atI xs k = some v) (hx : PlainIx b := by exact fun _ _ => rfl) : DV X (.Subscript a b pos) σ H v :=
  dv_of (pe_ix ix_tup pe_w pe_w hx) fun H1 s1 Q q => ha.run s1 fun H2 s2 => hb.run (s1.trans s2) fun H3 s3 => ⟨p, xs, k, v, rfl, rfl, Same.seqT ((s1.trans s2).trans s3) hs, hi, q H3 (s2.trans s3)⟩
/-- arguments -/
theorem da_nil : DA X [] σ H [] := fun H1 _ Q q => wa_of pa_nil (q H1 (Same.refl _))
theorem da_cons (ha : DV X e σ H v) (hr : DA X es σ H vs) (hs : starEach (e :: es) X.env = (false, eval e X.env) :: starEach es X.env := by rfl) : DA X (e :: es) σ H (v :: vs) := fun H1 s1 Q q =>
  wa_of (pa_cons pe_w pa_w hs) (ha.run s1 fun H2 s2 => hr H2 (s1.trans s2) _ fun H3 s3 => q H3 (s2.trans s3))
/-- a built-in's call by values -/
theorem dv_callB {id : String} {r : List V → Hp → VK → Prop} (hc : CallR X (.builtin id) r) (hm : X.mg n = none) (ha : DA X (e :: es) σ H vs) (hr : ∀ H1, Same H H1 → ∀ Q : VK, (∀ H2, Same H1 H2 → Q v H2) → r vs H1 Q) (hv : bootBuiltins n = some (.builtin id) := by decide +kernel) (hg : Gl X n := by rfl)
    (hn : n ≠ "__name__" := by decide) (hdb : (n == ("__debug__" : Str)) = false := by decide) (he : starEach (e :: es) X.env = (false, eval e X.env) :: starEach es X.env := by rfl) {pos2 : Pos} (hpl : (backTo pos2 (starEach es X.env)).any (·.1) = false := by rfl) :
    DV X (.Call (.Name n pos) (e :: es) [] pos2) σ H v := dv_of (pe_callB hc hg hm hv pa_w hn hdb he hpl) fun H1 s1 Q q => ha H1 s1 _ fun H2 s2 => hr H2 (s1.trans s2) Q fun H3 s3 => q H3 (s2.trans s3)
theorem d_callB {id : String} {r : List V → Hp → VK → Prop} (hc : CallR X (.builtin id) r) (hm : X.mg n = none) (ha : DA X (e :: es) σ H vs) (hr : ∀ H1, Same H H1 → ∀ Q : VK, (∀ v H2, Same H1 H2 → P v H2 → Q v H2) → r vs H1 Q) (hv : bootBuiltins n = some (.builtin id) := by decide +kernel) (hg : Gl X n := by rfl)
    (hn : n ≠ "__name__" := by decide) (hdb : (n == ("__debug__" : Str)) = false := by decide) (he : starEach (e :: es) X.env = (false, eval e X.env) :: starEach es X.env := by rfl) {pos2 : Pos} (hpl : (backTo pos2 (starEach es X.env)).any (·.1) = false := by rfl) :
    D X (.Call (.Name n pos) (e :: es) [] pos2) σ H P := d_of (pe_callB hc hg hm hv pa_w hn hdb he hpl) fun H1 s1 Q q => ha H1 s1 _ fun H2 s2 => hr H2 (s1.trans s2) Q fun v H3 s3 p => q v H3 (s2.trans s3) p
theorem dv_callT {T : String} {r : List V → Hp → VK → Prop} (hc : CallR X (.type T) r) (hm : X.mg n = none) (ha : DA X (e :: es) σ H vs) (hr : ∀ H1, Same H H1 → ∀ Q : VK, (∀ H2, Same H1 H2 → Q v H2) → r vs H1 Q) (hv : bootBuiltins n = some (.type T) := by decide +kernel) (hg : Gl X n := by rfl)
    (hn : n ≠ "__name__" := by decide) (hdb : (n == ("__debug__" : Str)) = false := by decide) (he : starEach (e :: es) X.env = (false, eval e X.env) :: starEach es X.env := by rfl) {pos2 : Pos} (hpl : (backTo pos2 (starEach es X.env)).any (·.1) = false := by rfl) :
    DV X (.Call (.Name n pos) (e :: es) [] pos2) σ H v := dv_of (pe_callTy hc hg hm hv pa_w hn hdb he hpl) fun H1 s1 Q q => ha H1 s1 _ fun H2 s2 => hr H2 (s1.trans s2) Q fun H3 s3 => q H3 (s2.trans s3)
theorem dv_len {p : Addr} {xs : List V} (ha : DV X e σ H (.ref p)) (hs : SqL X.K H p xs ∨ SqT X.K H p xs) (hm : X.mg "len" = none) (hg : Gl X "len" := by rfl) {pos2 : Pos} (he : starEach [e] X.env = (false, eval e X.env) :: starEach [] X.env := by rfl) : DV X (.Call (.Name "len" pos) [e] [] pos2) σ H (.int xs.length) :=
  dv_callB call_len_seq hm (da_cons ha da_nil he) (fun H1 s1 Q q => ⟨p, xs, rfl, hs.elim (fun h => .inl (s1.seq h)) (fun h => .inr (Same.seqT s1 h)), q H1 (Same.refl _)⟩) PySem.boot_len hg (by decide) (by decide) he
/-! ### tests -/
theorem dt_of {b : Bool} (h : PT X e tt) (q : ∀ H1, Same H H1 → ∀ Q : Bool → Hp → Prop, (∀ H2, Same H1 H2 → Q b H2) → tt σ H1 Q) : DT X e σ H b := fun H1 s1 Q k => wt_of h (q H1 s1 Q k)
theorem dw_of {b : Bool} (h : PW X e tt) (q : ∀ H1, Same H H1 → ∀ Q : Bool → Hp → Prop, (∀ H2, Same H1 H2 → Q b H2) → tt σ H1 Q) : DW X e σ H b := fun H1 s1 Q k => ww_of h (q H1 s1 Q k)
theorem dt_w {b : Bool} (h : DW X e σ H b) : DT X e σ H b := fun H1 s1 Q k => ww_t (h H1 s1 Q k)
theorem dt_val {b : Bool} (h : DV X e σ H (.bl b)) (he : ∀ whole, isTrue e X.env whole = (do let v ← whole; standAt e.pos; holding [v] (truthy v)) := by intro _; rfl) : DT X e σ H b :=
  dt_of (pt_val pe_w he) fun H1 s1 Q q => h.run s1 fun H2 s2 => ⟨b, rfl, q H2 s2⟩
theorem dt_not {b : Bool} (h : DT X a σ H b) : DT X (.UnaryOp .Not a pos) σ H (!b) := dt_of (pt_not pt_w) fun H1 s1 Q q => h H1 s1 _ fun H2 s2 => q H2 s2
theorem dw_and1 {b : Bool} (h : DT X a σ H b) : DW X (.BoolOp .And [a] pos) σ H b := dw_of (pw_and1 pt_w) fun H1 s1 Q q => h H1 s1 _ q
theorem dw_or1 {b : Bool} (h : DT X a σ H b) : DW X (.BoolOp .Or [a] pos) σ H b := dw_of (pw_or1 pt_w) fun H1 s1 Q q => h H1 s1 _ q
theorem dw_and {b1 b2 : Bool} {rest : List Expr} (h1 : DT X a σ H b1) (h2 : b1 = true → DW X (.BoolOp .And (b :: rest) pos) σ H b2) : DW X (.BoolOp .And (a :: b :: rest) pos) σ H (b1 && b2) := dw_of (pw_and pt_w pw_w) fun H1 s1 Q q => h1 H1 s1 _ fun H2 s2 => by
  cases b1 with
  | true => exact iteT (h2 rfl H2 (s1.trans s2) _ fun H3 s3 => q H3 (s2.trans s3))
  | false => exact iteF (q H2 s2)
theorem dw_or {b1 b2 : Bool} {rest : List Expr} (h1 : DT X a σ H b1) (h2 : b1 = false → DW X (.BoolOp .Or (b :: rest) pos) σ H b2) : DW X (.BoolOp .Or (a :: b :: rest) pos) σ H (b1 || b2) := dw_of (pw_or pt_w pw_w) fun H1 s1 Q q => h1 H1 s1 _ fun H2 s2 => by
  cases b1 with
  | true => exact iteT (q H2 s2)
  | false => exact iteF (h2 rfl H2 (s1.trans s2) _ fun H3 s3 => q H3 (s2.trans s3))
/-- x and y as values, all True or False -/
theorem dv_and {b1 b2 : Bool} {rest : List Expr} (h1 : DV X a σ H (.bl b1)) (h2 : b1 = true → DV X (.BoolOp .And (b :: rest) pos) σ H (.bl b2)) : DV X (.BoolOp .And (a :: b :: rest) pos) σ H (.bl (b1 && b2)) := dv_of (pe_and pe_w pe_w) fun H1 s1 Q q => h1.run s1 fun H2 s2 => ⟨b1, rfl, by
  cases b1 with
  | true => exact iteT ((h2 rfl).run (s1.trans s2) fun H3 s3 => q H3 (s2.trans s3))
  | false => exact iteF (q H2 s2)⟩
theorem dv_one {op : BoolOp} (h : DV X a σ H x) : DV X (.BoolOp op [a] pos) σ H x := dv_of (pe_one pe_w) fun H1 s1 Q q => h.run s1 q
theorem dv_or {b1 b2 : Bool} {rest : List Expr} (h1 : DV X a σ H (.bl b1)) (h2 : b1 = false → DV X (.BoolOp .Or (b :: rest) pos) σ H (.bl b2)) : DV X (.BoolOp .Or (a :: b :: rest) pos) σ H (.bl (b1 || b2)) := dv_of (pe_or pe_w pe_w) fun H1 s1 Q q => h1.run s1 fun H2 s2 => ⟨b1, rfl, by
  cases b1 with
  | true => exact iteT (q H2 s2)
  | false => exact iteF ((h2 rfl).run (s1.trans s2) fun H3 s3 => q H3 (s2.trans s3))⟩
theorem dv_not {b1 : Bool} (h : DV X a σ H (.bl b1)) : DV X (.UnaryOp .Not a pos) σ H (.bl (!b1)) := dv_of (pe_not pe_w) fun H1 s1 Q q => h.run s1 fun H2 s2 => ⟨b1, rfl, q H2 s2⟩
theorem dv_if {b1 : Bool} (h : DT X c σ H b1) (h1 : b1 = true → DV X a σ H v) (h2 : b1 = false → DV X b σ H v) : DV X (.IfExp c a b pos) σ H v := dv_of (pe_ifExp pt_w pe_w pe_w) fun H1 s1 Q q => h H1 s1 _ fun H2 s2 => by
  cases b1 with
  | true => exact iteT ((h1 rfl).run (s1.trans s2) fun H3 s3 => q H3 (s2.trans s3))
  | false => exact iteF ((h2 rfl).run (s1.trans s2) fun H3 s3 => q H3 (s2.trans s3))
/-! ### defs -/
/-- a promise that keeps all that is known, and gives a v with P -/
def Gives (sp : Sp) (vs : List V) (H : Hp) (P : V → Hp → Prop) : Prop := ∀ H1, Same H H1 → ∀ (Q : VK) (E : XK), (∀ v H2, Same H1 H2 → P v H2 → Q v H2) → sp vs H1 Q E
theorem gives_v {sp : Sp} (h : Gives sp vs H (fun w _ => w = v)) {E : XK} (s : Same H H1) (k : ∀ H2, Same H1 H2 → Q v H2) : sp vs H1 Q E := h H1 s Q E fun w H2 s2 ew => by
  have ew : w = v := ew
  subst ew
  exact k H2 s2
variable {CX : CXT} {lv : Nat} {f C : Addr} {fd : FuncData} {ps : List Str} {sp : Sp} {dvs : List V} {ds : List Value} {E : XK} {m : Str} {p apos : Pos}
theorem d_call (F : FnOk X.prog X.w X.K X.mg X.base CX lv f fd ps sp) (hr : Room lv X.A) (hm : X.mg n = some (.ref f)) (hk : PySem.W.keepIn X.K (.ref f) = true) (hb : Binds X.K fd ps ds) (hd : Vals dvs ds) (hx : Passes CX X E)
    (ha : DA X (e :: es) σ H vs) (hs : Gives sp (vs ++ dvs) H P) (hg : Gl X n := by rfl) (hdb : (n == ("__debug__" : Str)) = false := by decide) (he : starEach (e :: es) X.env = (false, eval e X.env) :: starEach es X.env := by rfl) (hpl : (backTo pos (starEach es X.env)).any (·.1) = false := by rfl) :
    D X (.Call (.Name n p) (e :: es) [] pos) σ H P := d_of (pe_call F hr hg hm hk hb hd hx pa_w hdb he hpl) fun H1 s1 Q q => ha H1 s1 _ fun H2 s2 => hs H2 (s1.trans s2) Q E fun v H3 s3 pv => q v H3 (s2.trans s3) pv
theorem d_meth (ho : DV X o σ H (.ref a0)) (c : Cls X.K C) (hm : Meth X.K C m f) (F : FnOk X.prog X.w X.K X.mg X.base CX lv f fd ps sp) (hr : Room lv X.A) (hb : Binds X.K fd ps ds) (hd : Vals dvs ds) (hx : Passes CX X E) (ha : DA X (e :: es) σ H vs) {dx : Addr} {fs : List (Str × V)}
    (hp : H a0 = some (.ins C dx fs)) (hl : fs.lookup m = none) (hs : Gives sp (.ref a0 :: (vs ++ dvs)) H P) {pl : Sem Bool} (hst : starEach (e :: es) X.env = (false, eval e X.env) :: starEach es X.env := by rfl) (hpl : (backTo pos (starEach es X.env)).any (·.1) = false := by rfl)
    (ht : eval (.Call (.Attribute o m apos) (e :: es) [] pos) X.env = (do
      let ov ← eval o X.env
      standAt apos.atName
      let (f, first) ← holding [ov] (getMethod ov m pl)
      callWith pos f first (backTo pos (starEach (e :: es) X.env)) (backToKw pos (keywordEach [] X.env))) := by rfl) :
    D X (.Call (.Attribute o m apos) (e :: es) [] pos) σ H P := d_of (pe_meth (pl := pl) pe_w c hm F hr hb hd hx pa_w hst hpl ht) fun H1 s1 Q q => ho.run s1 fun H2 s2 => ⟨a0, dx, fs, rfl, (s1.trans s2) _ _ hp, hl, ha H2 (s1.trans s2) _ fun H3 s3 =>
      hs H3 ((s1.trans s2).trans s3) Q E fun v H4 s4 pv => q v H4 ((s2.trans s3).trans s4) pv⟩
theorem d_meth0 (ho : DV X o σ H (.ref a0)) (c : Cls X.K C) (hm : Meth X.K C m f) (F : FnOk X.prog X.w X.K X.mg X.base CX lv f fd ps sp) (hr : Room lv X.A) (hb : Binds X.K fd ps ds) (hd : Vals dvs ds) (hx : Passes CX X E) {dx : Addr} {fs : List (Str × V)}
    (hp : H a0 = some (.ins C dx fs)) (hl : fs.lookup m = none) (hs : Gives sp (.ref a0 :: dvs) H P) {pl : Sem Bool}
    (ht : eval (.Call (.Attribute o m apos) [] [] pos) X.env = (do
      let ov ← eval o X.env
      standAt apos.atName
      let (f, first) ← holding [ov] (getMethod ov m pl)
      callWith pos f first (backTo pos (starEach [] X.env)) (backToKw pos (keywordEach [] X.env))) := by rfl) :
    D X (.Call (.Attribute o m apos) [] [] pos) σ H P := d_of (pe_meth0 (pl := pl) pe_w c hm F hr hb hd hx ht) fun H1 s1 Q q => ho.run s1 fun H2 s2 => ⟨a0, dx, fs, rfl, (s1.trans s2) _ _ hp, hl,
      hs H2 (s1.trans s2) Q E fun v H3 s3 pv => q v H3 (s2.trans s3) pv⟩
/-! ### statements -/
theorem b_nil (q : DD.nx σ H) : WB X [] DD σ H := wb_of pss_nil q
theorem b_cons (h : WS X st { DD with nx := WB X sts DD } σ H) : WB X (st :: sts) DD σ H := wb_of (pss_cons ps_w pss_w) h
theorem b_one (h : WS X st DD σ H) : WB X [st] DD σ H := wb_of (pss_one ps_w) h
theorem s_ret (h : D X e σ H P) (q : ∀ v H', Same H H' → P v H' → DD.rt v H') : WS X (.Return (some e) pos) DD σ H := ws_of (ps_ret pe_w) (h H (Same.refl _) _ q)
theorem s_retV (h : DV X e σ H v) (q : ∀ H', Same H H' → DD.rt v H') : WS X (.Return (some e) pos) DD σ H := ws_of (ps_ret pe_w) (h.run (Same.refl _) q)
theorem s_if {b1 : Bool} {A B : List Stmt} (h : DT X c σ H b1) (h1 : b1 = true → ∀ H', Same H H' → WB X A DD σ H') (h2 : b1 = false → ∀ H', Same H H' → WB X B DD σ H') : WS X (.If c A B pos) DD σ H := ws_of (ps_if pt_w pss_w pss_w) (h H (Same.refl _) _ fun H2 s2 => by
  cases b1 with
  | true => exact iteT (h1 rfl H2 s2)
  | false => exact iteF (h2 rfl H2 s2))
theorem s_set (h : D X e σ H P) (q : ∀ v H', Same H H' → P v H' → DD.nx (σ.set i (some v)) H') (hN : X.N.Nodup) (hi : X.N[i]? = some n := by rfl) (hx : Loc X.env.scope n := by first | exact Or.inl rfl | exact Or.inr rfl) {p2 : Pos} (hs : swapsWith e (some (.Name n p2)) pos.line X.env = pure false := by rfl)
    (hf : X.fn n = true ∨ X.env.scope.names.lookup n = some .local := by first | exact .inl rfl | exact .inr rfl) : WS X (.Assign [.Name n p2] e pos) DD σ H := ws_of (ps_set hN hi hx pe_w hs hf) (h H (Same.refl _) _ q)
theorem s_setV (h : DV X e σ H v) (q : ∀ H', Same H H' → DD.nx (σ.set i (some v)) H') (hN : X.N.Nodup) (hi : X.N[i]? = some n := by rfl) (hx : Loc X.env.scope n := by first | exact Or.inl rfl | exact Or.inr rfl) {p2 : Pos} (hs : swapsWith e (some (.Name n p2)) pos.line X.env = pure false := by rfl)
    (hf : X.fn n = true ∨ X.env.scope.names.lookup n = some .local := by first | exact .inl rfl | exact .inr rfl) : WS X (.Assign [.Name n p2] e pos) DD σ H := ws_of (ps_set hN hi hx pe_w hs hf) (h.run (Same.refl _) q)
end
end Sx

namespace Sx
open PySem PySem.Spec PyProof.Rows L2

/-! ### objects: names and values -/
/-- an instance: its attributes' names (as far as they are set) and their values -/
abbrev obj (C dx : Addr) (names : List Str) (vals : List V) : HO := .ins C dx (names.zip vals)
theorem lookup_zip : ∀ {names : List Str} {vals : List V} {i : Nat} {f : Str} {v : V}, names.Nodup → names[i]? = some f → vals[i]? = some v → (names.zip vals).lookup f = some v
  | [], _, _, _, _, _, h, _ => by simp at h
  | _ :: _, [], _, _, _, _, _, h => by simp at h
  | a :: r, b :: s, 0, f, v, nd, h, k => by
    simp at h k
    subst h k
    simp [List.lookup]
  | a :: r, b :: s, i + 1, f, v, nd, h, k => by
    simp at h k
    have ne : (f == a) = false := by
      have := List.mem_of_getElem? h
      rw [beq_eq_false_iff_ne]
      intro e
      subst e
      exact (List.nodup_cons.mp nd).1 this
    show List.lookup f ((a, b) :: r.zip s) = some v
    simp only [List.lookup, ne]
    exact lookup_zip (List.nodup_cons.mp nd).2 h k
theorem lookup_zip_none : ∀ {names : List Str} {vals : List V} {f : Str}, f ∉ names → (names.zip vals).lookup f = none
  | [], _, _, _ => by simp
  | _ :: _, [], _, _ => by simp
  | a :: r, b :: s, f, h => by
    have ne : (f == a) = false := by
      rw [beq_eq_false_iff_ne]
      intro e
      exact h (by rw [e]; exact List.mem_cons_self)
    show List.lookup f ((a, b) :: r.zip s) = none
    simp only [List.lookup, ne]
    exact lookup_zip_none fun q => h (List.mem_cons_of_mem _ q)
theorem putF_old : ∀ {names : List Str} {vals : List V} {i : Nat} {f : Str} {v : V}, names.Nodup → names[i]? = some f → i < vals.length → putF f v (names.zip vals) = names.zip (vals.set i v)
  | [], _, _, _, _, _, h, _ => by simp at h
  | _ :: _, [], _, _, _, _, _, h => by simp at h
  | a :: r, b :: s, 0, f, v, nd, h, k => by
    simp at h
    subst h
    show (if a = a then (a, v) :: r.zip s else _) = _
    rw [if_pos rfl]
    rfl
  | a :: r, b :: s, i + 1, f, v, nd, h, k => by
    simp at h k
    have ne : ¬ a = f := by
      intro e
      subst e
      exact (List.nodup_cons.mp nd).1 (List.mem_of_getElem? h)
    show (if a = f then (a, v) :: r.zip s else (a, b) :: putF f v (r.zip s)) = _
    rw [if_neg ne, putF_old (List.nodup_cons.mp nd).2 h k]
    rfl
theorem putF_new : ∀ {names : List Str} {vals : List V} {f : Str} {v : V}, names.Nodup → names[vals.length]? = some f → putF f v (names.zip vals) = names.zip (vals ++ [v])
  | [], _, _, _, _, h => by simp at h
  | a :: r, [], f, v, nd, h => by
    simp at h
    subst h
    simp [putF]
  | a :: r, b :: s, f, v, nd, h => by
    simp at h
    have ne : ¬ a = f := by
      intro e
      subst e
      exact (List.nodup_cons.mp nd).1 (List.mem_of_getElem? h)
    show (if a = f then (a, v) :: r.zip s else (a, b) :: putF f v (r.zip s)) = _
    rw [if_neg ne, putF_new (List.nodup_cons.mp nd).2 h]
    rfl
/-- a class of the text: no class of it has these names -/
structure Kl (K : PySem.W.Frag) (C : Addr) (names : List Str) : Prop where
  cl : Cls K C
  na : ∀ f ∈ names, NoAttr K C f
  nd : names.Nodup
  few : names.length ≤ 100
theorem Kl.at {K : PySem.W.Frag} {C : Addr} {names : List Str} (k : Kl K C names) {i : Nat} {f : Str} (h : names[i]? = some f) : NoAttr K C f := k.na f (List.mem_of_getElem? h)

/-! ### defs as they are called -/
/-- the module's def n keeps the promise sp -/
structure Cal (P : Program) (w : World) (K : PySem.W.Frag) (mg : Str → Option Value) (base : Heap) (lv : Nat) (n : Str) (sp : Sp) : Prop where
  ex : ∃ f fd ps, FnOk P w K mg base (L2.CX P w) lv f fd ps sp ∧ mg n = some (.ref f) ∧ PySem.W.keepIn K (.ref f) = true ∧ Binds K fd ps []
/-- the class at C finds m as a def that keeps the promise sp -/
structure Met (P : Program) (w : World) (K : PySem.W.Frag) (mg : Str → Option Value) (base : Heap) (lv : Nat) (C : Addr) (m : Str) (sp : Sp) : Prop where
  ex : ∃ f fd ps, FnOk P w K mg base (L2.CX P w) lv f fd ps sp ∧ Meth K C m f ∧ Binds K fd ps []
/-- the class n, at C, is made by an __init__ that keeps the promise sp -/
structure Mak (P : Program) (w : World) (K : PySem.W.Frag) (mg : Str → Option Value) (base : Heap) (lv : Nat) (n : Str) (C : Addr) (sp : Sp) : Prop where
  ex : ∃ f fd ps, FnOk P w K mg base (L2.CX P w) lv f fd ps sp ∧ mg n = some (.ref C) ∧ Mk K C f ∧ Binds K fd ps []
theorem FnOk.cx {P : Program} {w : World} {K : PySem.W.Frag} {mg : Str → Option Value} {base : Heap} {lv : Nat} {f : Addr} {fd : FuncData} {ps : List Str} {sp : Sp} (F : FnOk P w K mg base CX0 lv f fd ps sp) : FnOk P w K mg base (L2.CX P w) lv f fd ps sp :=
  ⟨F.len, fun A outer s H args us vs Q E hr e0 hb r h => codeAny_mono (F.run A outer s H args us vs Q E hr e0 hb r h) fun r s' hq => by
    cases r with
    | ok fl => cases fl <;> exact hq
    | error e => exact (show False from hq).elim⟩
section
variable {P : Program} {w : World} {K : PySem.W.Frag} {mg : Str → Option Value} {base : Heap} {lv lw : Nat} {n m : Str} {C : Addr} {sp : Sp}
theorem Cal.mono (c : Cal P w K mg base lv n sp) (h : lv ≤ lw) : Cal P w K mg base lw n sp := let ⟨f, fd, ps, F, r⟩ := c.ex; ⟨⟨f, fd, ps, F.mono h, r⟩⟩
theorem Met.mono (c : Met P w K mg base lv C m sp) (h : lv ≤ lw) : Met P w K mg base lw C m sp := let ⟨f, fd, ps, F, r⟩ := c.ex; ⟨⟨f, fd, ps, F.mono h, r⟩⟩
theorem Mak.mono (c : Mak P w K mg base lv n C sp) (h : lv ≤ lw) : Mak P w K mg base lw n C sp := let ⟨f, fd, ps, F, r⟩ := c.ex; ⟨⟨f, fd, ps, F.mono h, r⟩⟩
/-- a def that lets no exception out -/
theorem fnW {x qual : Str} {st : Stmt} {f : Addr} {fd : FuncData} {N ps : List Str} {k : Nat} {sp : Sp} (F : Fun K x qual st f fd) (S : FnScope N ps (defScope st)) (len : ∀ vs H Q E, sp vs H Q E → vs.length = ps.length)
    (hbody : ∀ (cdv : Value) (A : Around) (outer : List Env) (s : Shared) (H : Hp) (vs : List V) (Q : VK) (E : XK), Room k (A.deeper (envOfC qual (defScope st) s.heap.objs.size f cdv)) → sp vs H Q E →
      WB (cxOf CX0 P w K mg base N qual (defScope st) f cdv A outer s H E).nox (defBody st) { nx := fun _ H' => Q .non H', rt := Q } (start N vs) H) : FnOk P w K mg base (L2.CX P w) (k + 1) f fd ps sp :=
  FnOk.cx (L2.Fun.ok F S len fun cdv A outer s H vs Q E hr h => ⟨_, pss_w, hbody cdv A outer s H vs Q E hr h⟩)
/-- a def that may raise -/
theorem fnX {x qual : Str} {st : Stmt} {f : Addr} {fd : FuncData} {N ps : List Str} {k : Nat} {sp : Sp} (F : Fun K x qual st f fd) (S : FnScope N ps (defScope st)) (len : ∀ vs H Q E, sp vs H Q E → vs.length = ps.length)
    (hbody : ∀ (cdv : Value) (A : Around) (outer : List Env) (s : Shared) (H : Hp) (vs : List V) (Q : VK) (E : XK), Room k (A.deeper (envOfC qual (defScope st) s.heap.objs.size f cdv)) → sp vs H Q E →
      WB (cxOf (L2.CX P w) P w K mg base N qual (defScope st) f cdv A outer s H E) (defBody st) { nx := fun _ H' => Q .non H', rt := Q } (start N vs) H) : FnOk P w K mg base (L2.CX P w) (k + 1) f fd ps sp :=
  L2.Fun.okX F S len fun cdv A outer s H vs Q E hr h => ⟨_, pss_w, hbody cdv A outer s H vs Q E hr h⟩
end

section
variable {X : Cx} {e a b c o : Expr} {es : List Expr} {st : Stmt} {sts : List Stmt} {σ : L2.St} {H H1 : Hp} {Q : VK} {DD : Ends} {P : V → Hp → Prop} {v x y z : V} {i j : Nat} {n m f : Str} {pos p2 p3 : Pos} {vs : List V} {k l : Int} {q r : Nat}
/-! ### numbers from 0 on -/
theorem dn_int {k : Nat} {j : Nat} : DV X (.Constant (.int (k : Int)) j pos) σ H (.int ((k : Nat) : Int)) := dv_int
theorem dn_lit {z : Int} {j : Nat} (k : Nat) (h : z = (k : Int) := by rfl) : DV X (.Constant (.int z) j pos) σ H (.int (k : Int)) := dv_eq dv_int (by rw [h])
theorem dn_add (ha : DV X a σ H (.int (q : Int))) (hb : DV X b σ H (.int (r : Int))) : DV X (.BinOp a .Add b pos) σ H (.int ((q + r : Nat) : Int)) := dv_eq (dv_add ha hb) (by rw [Int.natCast_add])
theorem dn_sub (ha : DV X a σ H (.int (q : Int))) (hb : DV X b σ H (.int (r : Int))) (h : r ≤ q) : DV X (.BinOp a .Sub b pos) σ H (.int ((q - r : Nat) : Int)) := dv_eq (dv_sub ha hb) (by rw [Int.natCast_sub h])
theorem wide_nat {q r a b : Nat} (ha : q < 2 ^ a) (hb : r < 2 ^ b) (h0 : 0 < a) (h1 : 0 < b) (h : a + b ≤ 1000000) : CMulW (q : Int) (r : Int) := wide_mul (by simpa using ha) (by simpa using hb) h0 h1 h
theorem dn_mul (ha : DV X a σ H (.int (q : Int))) (hb : DV X b σ H (.int (r : Int))) (hc : CMulW (q : Int) (r : Int)) : DV X (.BinOp a .Mult b pos) σ H (.int ((q * r : Nat) : Int)) := dv_eq (dv_mul ha hb hc) (by rw [Int.natCast_mul])
theorem dn_fdiv (ha : DV X a σ H (.int (q : Int))) (hb : DV X b σ H (.int (r : Int))) (h : 0 < r) (h2 : r < 2 ^ 9000) : DV X (.BinOp a .FloorDiv b pos) σ H (.int ((q / r : Nat) : Int)) :=
  dv_eq (dv_fdiv ha hb (wide_div (b := 9000) (by omega) (by rw [Int.natAbs_natCast]; exact h2) (by decide) (Nat.le_refl _))) (by rw [Int.natCast_ediv])
theorem dn_mod (ha : DV X a σ H (.int (q : Int))) (hb : DV X b σ H (.int (r : Int))) (h : 0 < r) : DV X (.BinOp a .Mod b pos) σ H (.int ((q % r : Nat) : Int)) := dv_eq (dv_mod ha hb (by omega)) (by rw [Int.natCast_emod])
theorem dec_of {p q : Prop} [Decidable p] [Decidable q] (h : p ↔ q) : V.bl (decide p) = V.bl (decide q) := by rw [decide_eq_decide.mpr h]
theorem dn_lt (ha : DV X a σ H (.int (q : Int))) (hb : DV X b σ H (.int (r : Int))) : DV X (.Compare a [.Lt] [b] pos) σ H (.bl (decide (q < r))) := dv_eq (dv_lt ha hb) (dec_of (by omega))
theorem dn_le (ha : DV X a σ H (.int (q : Int))) (hb : DV X b σ H (.int (r : Int))) : DV X (.Compare a [.LtE] [b] pos) σ H (.bl (decide (q ≤ r))) := dv_eq (dv_le ha hb) (dec_of (by omega))
theorem dn_gt (ha : DV X a σ H (.int (q : Int))) (hb : DV X b σ H (.int (r : Int))) : DV X (.Compare a [.Gt] [b] pos) σ H (.bl (decide (r < q))) := dv_eq (dv_gt ha hb) (dec_of (by omega))
theorem dn_ge (ha : DV X a σ H (.int (q : Int))) (hb : DV X b σ H (.int (r : Int))) : DV X (.Compare a [.GtE] [b] pos) σ H (.bl (decide (r ≤ q))) := dv_eq (dv_ge ha hb) (dec_of (by omega))
theorem dn_eq (ha : DV X a σ H (.int (q : Int))) (hb : DV X b σ H (.int (r : Int))) : DV X (.Compare a [.Eq] [b] pos) σ H (.bl (decide (q = r))) := dv_eq (dv_eqI ha hb) (dec_of (by omega))
theorem dn_ne (ha : DV X a σ H (.int (q : Int))) (hb : DV X b σ H (.int (r : Int))) : DV X (.Compare a [.NotEq] [b] pos) σ H (.bl (!decide (q = r))) := dv_eq (dv_neI ha hb) (by rw [decide_eq_decide.mpr (show ((q : Int) = (r : Int)) ↔ q = r by omega)])
/-! ### comparisons as tests -/
theorem dt_cmp {op : CmpOp} {r : R2} {b1 : Bool} (ho : OpR X (compareOp op) r) (ha : DV X a σ H x) (hb : DV X b σ H y) (hr : ∀ H1, Same H H1 → ∀ Q : VK, (∀ H2, Same H1 H2 → Q (.bl b1) H2) → r x y H1 Q) (hm : behindInMarks op b = false) : DT X (.Compare a [op] [b] pos) σ H b1 :=
  dt_of (pt_cmpR ho pe_w pe_w hm) fun H1 s1 Q q => ha.run s1 fun H2 s2 => hb.run (s1.trans s2) fun H3 s3 => hr H3 ((s1.trans s2).trans s3) _ fun H4 s4 => ⟨b1, rfl, q H4 ((s2.trans s3).trans s4)⟩
theorem dt_eqb {b1 b2 : Bool} (h : DT X e σ H b1) (e2 : b1 = b2) : DT X e σ H b2 := e2 ▸ h
theorem tv_lt (ha : DV X a σ H (.int k)) (hb : DV X b σ H (.int l)) : DT X (.Compare a [.Lt] [b] pos) σ H (decide (k < l)) := dt_cmp op_lt ha hb (fun H1 _ Q q => ⟨_, _, rfl, rfl, q H1 (Same.refl _)⟩) (nomark _)
theorem tv_le (ha : DV X a σ H (.int k)) (hb : DV X b σ H (.int l)) : DT X (.Compare a [.LtE] [b] pos) σ H (decide (k ≤ l)) := dt_cmp op_le ha hb (fun H1 _ Q q => ⟨_, _, rfl, rfl, q H1 (Same.refl _)⟩) (nomark _)
theorem tv_gt (ha : DV X a σ H (.int k)) (hb : DV X b σ H (.int l)) : DT X (.Compare a [.Gt] [b] pos) σ H (decide (l < k)) := dt_cmp op_gt ha hb (fun H1 _ Q q => ⟨_, _, rfl, rfl, q H1 (Same.refl _)⟩) (nomark _)
theorem tv_ge (ha : DV X a σ H (.int k)) (hb : DV X b σ H (.int l)) : DT X (.Compare a [.GtE] [b] pos) σ H (decide (l ≤ k)) := dt_cmp op_ge ha hb (fun H1 _ Q q => ⟨_, _, rfl, rfl, q H1 (Same.refl _)⟩) (nomark _)
theorem tv_eq (ha : DV X a σ H x) (hb : DV X b σ H y) (hc : scal x y = true) : DT X (.Compare a [.Eq] [b] pos) σ H (decide (x = y)) := dt_cmp op_eq ha hb (fun H1 _ Q q => ⟨hc, q H1 (Same.refl _)⟩) (nomark _)
theorem tv_ne (ha : DV X a σ H x) (hb : DV X b σ H y) (hc : scal x y = true) : DT X (.Compare a [.NotEq] [b] pos) σ H (!decide (x = y)) := dt_cmp op_ne ha hb (fun H1 _ Q q => ⟨hc, q H1 (Same.refl _)⟩) (nomark _)
theorem tn_lt (ha : DV X a σ H (.int (q : Int))) (hb : DV X b σ H (.int (r : Int))) : DT X (.Compare a [.Lt] [b] pos) σ H (decide (q < r)) := dt_eqb (tv_lt ha hb) (decide_eq_decide.mpr (by omega))
theorem tn_le (ha : DV X a σ H (.int (q : Int))) (hb : DV X b σ H (.int (r : Int))) : DT X (.Compare a [.LtE] [b] pos) σ H (decide (q ≤ r)) := dt_eqb (tv_le ha hb) (decide_eq_decide.mpr (by omega))
theorem tn_gt (ha : DV X a σ H (.int (q : Int))) (hb : DV X b σ H (.int (r : Int))) : DT X (.Compare a [.Gt] [b] pos) σ H (decide (r < q)) := dt_eqb (tv_gt ha hb) (decide_eq_decide.mpr (by omega))
theorem tn_ge (ha : DV X a σ H (.int (q : Int))) (hb : DV X b σ H (.int (r : Int))) : DT X (.Compare a [.GtE] [b] pos) σ H (decide (r ≤ q)) := dt_eqb (tv_ge ha hb) (decide_eq_decide.mpr (by omega))
theorem tn_eq (ha : DV X a σ H (.int (q : Int))) (hb : DV X b σ H (.int (r : Int))) : DT X (.Compare a [.Eq] [b] pos) σ H (decide (q = r)) := dt_eqb (tv_eq ha hb rfl) (decide_eq_decide.mpr (by rw [V.int.injEq]; omega))
theorem tn_ne (ha : DV X a σ H (.int (q : Int))) (hb : DV X b σ H (.int (r : Int))) : DT X (.Compare a [.NotEq] [b] pos) σ H (!decide (q = r)) := dt_eqb (tv_ne ha hb rfl) (by rw [decide_eq_decide.mpr (show (V.int (q : Int) = V.int (r : Int)) ↔ q = r by rw [V.int.injEq]; omega)])
/-! ### objects -/
/-- self.f of an object by its values -/
theorem dv_at {C dx p : Addr} {names : List Str} {vals : List V} (i : Nat) (kl : Kl X.K C names) (ho : DV X o σ H (.ref p)) (hp : H p = some (obj C dx names vals)) (hv : vals[i]? = some v := by rfl) (hn : names[i]? = some f := by rfl) (hb : attributeBase o f X.env (eval o X.env) = eval o X.env := by rfl) :
    DV X (.Attribute o f pos) σ H v := dv_fld ho hp kl.cl (kl.at hn) (lookup_zip kl.nd hn hv) hb
/-- a call of a module's def -/
theorem d_cal {lv : Nat} {sp : Sp} (c : Cal X.prog X.w X.K X.mg X.base lv n sp) (hr : Room lv X.A) (ha : DA X (e :: es) σ H vs) (hs : Gives sp vs H P) (hg : Gl X n := by rfl) (hdb : (n == ("__debug__" : Str)) = false := by decide)
    (he : starEach (e :: es) X.env = (false, eval e X.env) :: starEach es X.env := by rfl) (hpl : (backTo pos (starEach es X.env)).any (·.1) = false := by rfl) : D X (.Call (.Name n p2) (e :: es) [] pos) σ H P := by
  obtain ⟨f, fd, ps, F, h1, h2, h3⟩ := c.ex
  exact d_call F hr h1 h2 h3 .nil passL ha (by rw [List.append_nil]; exact hs) hg hdb he hpl
theorem d_met {C dx a0 : Addr} {names : List Str} {vals : List V} {lv : Nat} {sp : Sp} (c : Met X.prog X.w X.K X.mg X.base lv C m sp) (hr : Room lv X.A) (kl : Kl X.K C names) (ho : DV X o σ H (.ref a0)) (hp : H a0 = some (obj C dx names vals)) (ha : DA X (e :: es) σ H vs)
    (hs : Gives sp (.ref a0 :: vs) H P) (hm : m ∉ names := by decide +kernel) {pl : Sem Bool} (hst : starEach (e :: es) X.env = (false, eval e X.env) :: starEach es X.env := by rfl) (hpl : (backTo pos (starEach es X.env)).any (·.1) = false := by rfl)
    (ht : eval (.Call (.Attribute o m p2) (e :: es) [] pos) X.env = (do
      let ov ← eval o X.env
      standAt p2.atName
      let (f, first) ← holding [ov] (getMethod ov m pl)
      callWith pos f first (backTo pos (starEach (e :: es) X.env)) (backToKw pos (keywordEach [] X.env))) := by rfl) : D X (.Call (.Attribute o m p2) (e :: es) [] pos) σ H P := by
  obtain ⟨f, fd, ps, F, h1, h2⟩ := c.ex
  exact d_meth ho kl.cl h1 F hr h2 .nil passL ha hp (lookup_zip_none hm) (by rw [List.append_nil]; exact hs) (pl := pl) hst hpl ht
theorem d_met0 {C dx a0 : Addr} {names : List Str} {vals : List V} {lv : Nat} {sp : Sp} (c : Met X.prog X.w X.K X.mg X.base lv C m sp) (hr : Room lv X.A) (kl : Kl X.K C names) (ho : DV X o σ H (.ref a0)) (hp : H a0 = some (obj C dx names vals))
    (hs : Gives sp [.ref a0] H P) (hm : m ∉ names := by decide +kernel) {pl : Sem Bool}
    (ht : eval (.Call (.Attribute o m p2) [] [] pos) X.env = (do
      let ov ← eval o X.env
      standAt p2.atName
      let (f, first) ← holding [ov] (getMethod ov m pl)
      callWith pos f first (backTo pos (starEach [] X.env)) (backToKw pos (keywordEach [] X.env))) := by rfl) : D X (.Call (.Attribute o m p2) [] [] pos) σ H P := by
  obtain ⟨f, fd, ps, F, h1, h2⟩ := c.ex
  exact d_meth0 ho kl.cl h1 F hr h2 .nil passL hp (lookup_zip_none hm) (by simpa using hs) (pl := pl) ht
/-- C(e, ..): the promise of __init__ of a new object -/
theorem d_mak {C : Addr} {lv : Nat} {sp : Sp} (c : Mak X.prog X.w X.K X.mg X.base lv n C sp) (hr : Room (lv + 1) X.A) (ha : DA X (e :: es) σ H vs)
    (hs : ∀ H1, Same H H1 → ∀ x dx, H1 x = none → H1 dx = none → dx ≠ x → ∀ Q : VK, (∀ H2, Same H1 H2 → P (.ref x) H2 → Q .non H2) → sp (.ref x :: vs) (upd (upd H1 dx (.own x)) x (.ins C dx [])) Q E0)
    (hg : Gl X n := by rfl) (hdb : (n == ("__debug__" : Str)) = false := by decide)
    (he : starEach (e :: es) X.env = (false, eval e X.env) :: starEach es X.env := by rfl) (hpl : (backTo pos (starEach es X.env)).any (·.1) = false := by rfl) : D X (.Call (.Name n p2) (e :: es) [] pos) σ H P := by
  obtain ⟨f, fd, ps, F, h1, h2, h3⟩ := c.ex
  refine d_of (pe_make h2 F hr hg h1 h3 .nil passL pa_w hdb he hpl) fun H1 s1 Q q => ha H1 s1 _ fun H2 s2 => fun x dx nx nd ne => ?_
  rw [List.append_nil]
  exact hs H2 (s1.trans s2) x dx nx nd ne _ fun H3 s3 p => ⟨rfl, q _ H3 (s2.trans s3) p⟩
/-- (e, ..) -/
theorem d_tup {xx : Nat} (ha : DA X es σ H vs) (hz : vs.length ≤ 1000) : D X (.Tuple es xx pos) σ H (fun v H' => ∃ p, v = .ref p ∧ H' p = some (.tup vs)) :=
  d_of (pe_tup pa_w) fun H1 s1 Q q => ha H1 s1 _ fun H2 s2 => ⟨Nat.le_of_lt (small1000 hz), fun p hp => q _ _ (s2.trans fun b o e => by rw [upd_ne (ne_of_none e hp)]; exact e) ⟨p, rfl, upd_same⟩⟩
theorem Same.new {H : Hp} {p : Addr} {o : HO} (h : H p = none) : Same H (upd H p o) := fun b u e => by rw [upd_ne (ne_of_none e h)]; exact e
theorem d_lst (ha : DA X es σ H vs) (hz : vs.length ≤ 1000) : D X (.List es pos) σ H (fun v H' => ∃ p, v = .ref p ∧ H p = none ∧ H' p = some (.lst vs)) :=
  d_of (pe_lst pa_w) fun H1 s1 Q q => ha H1 s1 _ fun H2 s2 => ⟨Nat.le_of_lt (small1000 hz), fun p hp => q _ _ (s2.trans (Same.new hp)) ⟨p, rfl, (s1.trans s2).free hp, upd_same⟩⟩
/-! ### statements -/
theorem b_cons' (h : WS X st { nx := WB X sts DD, rt := DD.rt, bk := DD.bk, ct := DD.ct } σ H) : WB X (st :: sts) DD σ H := b_cons h
theorem s_pass (q : DD.nx σ H) : WS X (.Pass pos) DD σ H := ws_of ps_pass q
theorem s_expr (h : D X e σ H P) (q : ∀ v H', Same H H' → P v H' → DD.nx σ H') (hs : swapsWith e none pos.line X.env = pure false := by rfl) : WS X (.Expr e pos) DD σ H := ws_of (ps_expr pe_w hs) (h H (Same.refl _) _ q)
/-- x, y = a, b -/
theorem s_par {px py pt : Pos} {kt k2 : Nat} {pt2 : Pos} (ha : DV X a σ H x) (hb : DV X b σ H y) (q : ∀ H', Same H H' → DD.nx ((σ.set i (some x)).set j (some y)) H') (hc : X.calm = true) (hN : X.N.Nodup) (hij : i ≠ j) (hi : X.N[i]? = some n := by rfl) (hj : X.N[j]? = some m := by rfl)
    (hx : X.env.scope.names.lookup n = some .local := by rfl) (hy : X.env.scope.names.lookup m = some .local := by rfl)
    (hw : swappedStores [.Tuple [.Name n px, .Name m py] kt pt] (.Tuple [a, b] k2 pt2) X.env = pure (some [n, m]) := by rfl)
    (hs : swapsWithSole [.Tuple [.Name n px, .Name m py] kt pt] (.Tuple [a, b] k2 pt2) pos.line X.env = pure false := by rfl)
    (h1 : starEach [a, b] X.env = (false, eval a X.env) :: starEach [b] X.env := by rfl) (h2 : starEach [b] X.env = (false, eval b X.env) :: starEach [] X.env := by rfl) :
    WS X (.Assign [.Tuple [.Name n px, .Name m py] kt pt] (.Tuple [a, b] k2 pt2) pos) DD σ H :=
  ws_of (ps_par hc hN hi hj hij hx hy pa_w hw hs) ((da_cons ha (da_cons hb da_nil h2) h1) H (Same.refl _) _ fun H2 s2 => ⟨x, y, rfl, q H2 s2⟩)
/-- x, y = a tuple of two -/
theorem s_unp2 {px py pt : Pos} {kt : Nat} (h : D X e σ H (fun v H' => ∃ p, v = .ref p ∧ SqT X.K H' p [x, y])) (q : ∀ H', Same H H' → DD.nx ((σ.set i (some x)).set j (some y)) H') (hc : X.calm = true) (hN : X.N.Nodup) (hi : X.N[i]? = some n := by rfl) (hj : X.N[j]? = some m := by rfl)
    (hx : Loc X.env.scope n := by first | exact Or.inl rfl | exact Or.inr rfl) (hy : Loc X.env.scope m := by first | exact Or.inl rfl | exact Or.inr rfl)
    (hf : X.fn n = true ∨ X.env.scope.names.lookup n = some .local := by first | exact .inl rfl | exact .inr rfl) (hf2 : X.fn m = true ∨ X.env.scope.names.lookup m = some .local := by first | exact .inl rfl | exact .inr rfl)
    (hs : swapsWithSole [.Tuple [.Name n px, .Name m py] kt pt] e pos.line X.env = pure false := by rfl) (hw : swappedStores [.Tuple [.Name n px, .Name m py] kt pt] e X.env = pure none := by rfl)
    (h1 : (assignEach [.Tuple [.Name n px, .Name m py] kt pt] X.env).map (·.2) = [assign (.Tuple [.Name n px, .Name m py] kt pt) X.env] := by rfl)
    (a1 : (assignEach [.Name n px, .Name m py] X.env).map (·.2) = assign (.Name n px) X.env :: (assignEach [.Name m py] X.env).map (·.2) := by rfl) (a2 : (assignEach [.Name m py] X.env).map (·.2) = assign (.Name m py) X.env :: (assignEach [] X.env).map (·.2) := by rfl)
    (a3 : (assignEach [.Name n px, .Name m py] X.env).length = 2 := by rfl) (a4 : (assignEach [.Name n px, .Name m py] X.env).findIdx? (·.1) = none := by rfl) :
    WS X (.Assign [.Tuple [.Name n px, .Name m py] kt pt] e pos) DD σ H :=
  ws_of (ps_asg pe_w (pg_tup hc (pgs_cons (pg_name hN hi hx hf) (pgs_cons (pg_name hN hj hy hf2) pgs_nil a2) a1) a3 a4) hs hw h1) (h H (Same.refl _) _ fun v H2 s2 ⟨p, ev, hp⟩ => ⟨p, [x, y], ev, hp, rfl, x, [y], rfl, y, [], rfl, rfl, q H2 s2⟩)
/-- while -/
theorem s_while {body : List Stmt} (Pv : Nat → L2.St → Hp → Prop) (m : Nat) (h0 : Pv m σ H) (hs : ∀ m σ H, Pv m σ H → ∃ b, DT X c σ H b ∧
      (b = true → ∀ H', Same H H' → WB X body { nx := fun σ' H' => ∃ m', m' < m ∧ Pv m' σ' H', ct := fun σ' H' => ∃ m', m' < m ∧ Pv m' σ' H', bk := DD.nx, rt := DD.rt } σ H') ∧ (b = false → ∀ H', Same H H' → DD.nx σ H'))
    (hp : PassesOwn (model X.prog X.w) X.A X.env X.xe := by exact PassesOwn.never) : WS X (.While c body [] pos) DD σ H :=
  ws_of (ps_while hp pt_w pss_w) ⟨Pv, ⟨m, h0⟩, fun m σ H p => by
    obtain ⟨b, h1, h2, h3⟩ := hs m σ H p
    refine h1 H (Same.refl _) _ fun H2 s2 => ?_
    cases b with
    | true => exact iteT ⟨_, fun σ' H' z => z, h2 rfl H2 s2⟩
    | false => exact iteF (h3 rfl H2 s2)⟩
/-- x += e, a local int -/
theorem s_augAdd {px : Pos} (i : Nat) (hv : σ[i]? = some (some (.int k))) (h : DV X e σ H (.int l)) (q : ∀ H', Same H H' → DD.nx (σ.set i (some (.int (k + l)))) H') (hN : X.N.Nodup) (hi : X.N[i]? = some n := by rfl) (hx : Loc X.env.scope n := by first | exact Or.inl rfl | exact Or.inr rfl)
    (hf : X.fn n = true ∨ X.env.scope.names.lookup n = some .local := by first | exact .inl rfl | exact .inr rfl) : WS X (.AugAssign (.Name n px) .Add e pos) DD σ H :=
  ws_of (ps_aug hN hi hx pe_w ip_add hf) ⟨_, hv, h.run (Same.refl _) fun H2 s2 => ⟨k, l, rfl, rfl, q H2 s2⟩⟩
/-- for x in range(a, b) -/
theorem s_forR2 {body : List Stmt} {px : Pos} {u v : Nat} (Pv : Nat → L2.St → Hp → Prop) (ha : DV X a σ H (.int (u : Int))) (hb : DV X b σ H (.int (v : Int))) (hu : u < 2 ^ 62) (hv : v < 2 ^ 62) (h0 : ∀ H', Same H H' → Pv 0 σ H')
    (hs : ∀ t σ H, t < v - u → Pv t σ H → WB X body { nx := Pv (t + 1), ct := Pv (t + 1), bk := DD.nx, rt := DD.rt } (σ.set i (some (.int ((u + t : Nat) : Int)))) H) (hd : ∀ σ H, Pv (v - u) σ H → DD.nx σ H)
    (hN : X.N.Nodup) (hc : X.calm = true) (hm : X.mg "range" = none) (hi : X.N[i]? = some n := by rfl) (hx : Loc X.env.scope n := by first | exact Or.inl rfl | exact Or.inr rfl) (hf : X.fn n = true ∨ X.env.scope.names.lookup n = some .local := by first | exact .inl rfl | exact .inr rfl)
    (hg : Gl X "range" := by rfl) (e1 : starEach [a, b] X.env = [(false, eval a X.env), (false, eval b X.env)] := by rfl) (e2 : starEach [b] X.env = [(false, eval b X.env)] := by rfl)
    (hfs : ∀ x, foldedSetIterable (.Call (.Name "range" p2) [a, b] [] p3) X.env x = pure x := by intro _; rfl) (hp : PassesOwn (model X.prog X.w) X.A X.env X.xe := by exact PassesOwn.never)
    (hl : starEach [] X.env = [] := by rfl) : WS X (.For (.Name n px) (.Call (.Name "range" p2) [a, b] [] p3) body [] pos) DD σ H := by
  refine ws_of (ps_for hp hc (pi_range2 hg hm pa_w e1 e2) (pg_name hN hi hx hf) pss_w hfs) ?_
  refine (da_cons ha (da_cons hb da_nil (by rw [e2, hl])) (by rw [e1, e2])) H (Same.refl _) _ fun H2 s2 => ?_
  have w : ((2 : Int) ^ 62) = ((2 ^ 62 : Nat) : Int) := by norm_cast
  refine ⟨(u : Int), (v : Int), rfl, ⟨by omega, by omega, by omega, by omega⟩, ?_⟩
  have e : ((v : Int) - (u : Int)).toNat = v - u := by omega
  rw [e]
  refine for_range (lo := (u : Int)) (n := v - u) Pv (h0 H2 s2) (fun t σ H ht p => ?_) hd
  have := hs t σ H ht p
  rw [Int.natCast_add] at this
  exact this
end
end Sx

namespace Sx
open PySem PySem.Spec PyProof.Rows L2
/-- e gives a list, a tuple, of these -/
abbrev DL (X : Cx) (e : Expr) (σ : L2.St) (H : Hp) (xs : List V) : Prop := D X e σ H (fun v H' => ∃ p, v = .ref p ∧ SqL X.K H' p xs)
abbrev DU (X : Cx) (e : Expr) (σ : L2.St) (H : Hp) (xs : List V) : Prop := D X e σ H (fun v H' => ∃ p, v = .ref p ∧ SqT X.K H' p xs)
section
variable {X : Cx} {e a b c o : Expr} {es : List Expr} {st : Stmt} {sts : List Stmt} {σ : L2.St} {H H1 : Hp} {Q : VK} {DD : Ends} {P : V → Hp → Prop} {v x y z : V} {i j : Nat} {n m f : Str} {pos p2 p3 : Pos} {vs xs : List V} {k l : Int} {q r : Nat}
theorem dl_of {p : Addr} (h : DV X e σ H (.ref p)) (hs : SqL X.K H p xs) : DL X e σ H xs := h.imp fun v H' s1 e => ⟨p, e, s1.seq hs⟩
theorem du_of {p : Addr} (h : DV X e σ H (.ref p)) (hs : SqT X.K H p xs) : DU X e σ H xs := h.imp fun v H' s1 e => ⟨p, e, Same.seqT s1 hs⟩
theorem dl_new (h : D X e σ H (fun v H' => ∃ p, v = .ref p ∧ H p = none ∧ H' p = some (.lst xs))) : DL X e σ H xs := h.imp fun v H' _ ⟨p, e, _, h⟩ => ⟨p, e, SqL.of h⟩
theorem du_new (h : D X e σ H (fun v H' => ∃ p, v = .ref p ∧ H' p = some (.tup xs))) : DU X e σ H xs := h.imp fun v H' _ ⟨p, e, h⟩ => ⟨p, e, SqT.of h⟩
theorem dv_ixl (ha : DL X a σ H xs) (hb : DV X b σ H (.int k)) (hi : atI xs k = some v) (hx : PlainIx b := by exact fun _ _ => rfl) : DV X (.Subscript a b pos) σ H v :=
  dv_of (pe_ix ix_list pe_w pe_w hx) fun H1 s1 Q q => ha H1 s1 _ fun w H2 s2 ⟨p, ew, hs⟩ => hb.run (s1.trans s2) fun H3 s3 => ⟨p, xs, k, v, ew, rfl, s3.seq hs, hi, q H3 (s2.trans s3)⟩
theorem dv_ixu (ha : DU X a σ H xs) (hb : DV X b σ H (.int k)) (hi : atI xs k = some v) (hx : PlainIx b := by exact fun _ _ => rfl) : DV X (.Subscript a b pos) σ H v :=
  dv_of (pe_ix ix_tup pe_w pe_w hx) fun H1 s1 Q q => ha H1 s1 _ fun w H2 s2 ⟨p, ew, hs⟩ => hb.run (s1.trans s2) fun H3 s3 => ⟨p, xs, k, v, ew, rfl, Same.seqT s3 hs, hi, q H3 (s2.trans s3)⟩
theorem dv_neg (ha : DV X a σ H (.int k)) : DV X (.UnaryOp .USub a pos) σ H (.int (-k)) := dv_of (pe_un un_neg pe_w) fun H1 s1 Q q => ha.run s1 fun H2 s2 => ⟨k, rfl, q H2 s2⟩
theorem dv_lenl (ha : DL X e σ H xs) (hm : X.mg "len" = none) (hg : Gl X "len" := by rfl) {pos2 : Pos} (he : starEach [e] X.env = (false, eval e X.env) :: starEach [] X.env := by rfl) (hpl : (backTo pos2 (starEach [] X.env)).any (·.1) = false := by rfl) : DV X (.Call (.Name "len" pos) [e] [] pos2) σ H (.int xs.length) :=
  dv_of (pe_callB call_len_seq hg hm PySem.boot_len pa_w (by decide) (by decide) he hpl) fun H1 s1 Q q => wa_of (pa_cons pe_w pa_w he) (ha H1 s1 _ fun w H2 s2 ⟨p, ew, hs⟩ => wa_of pa_nil ⟨p, xs, by rw [ew], .inl hs, q H2 s2⟩)
theorem dv_lenu (ha : DU X e σ H xs) (hm : X.mg "len" = none) (hg : Gl X "len" := by rfl) {pos2 : Pos} (he : starEach [e] X.env = (false, eval e X.env) :: starEach [] X.env := by rfl) (hpl : (backTo pos2 (starEach [] X.env)).any (·.1) = false := by rfl) : DV X (.Call (.Name "len" pos) [e] [] pos2) σ H (.int xs.length) :=
  dv_of (pe_callB call_len_seq hg hm PySem.boot_len pa_w (by decide) (by decide) he hpl) fun H1 s1 Q q => wa_of (pa_cons pe_w pa_w he) (ha H1 s1 _ fun w H2 s2 ⟨p, ew, hs⟩ => wa_of pa_nil ⟨p, xs, by rw [ew], .inr hs, q H2 s2⟩)
/-- the greatest of a list of numbers -/
theorem dv_maxl {ns : List Int} {g : Int} (ha : DL X e σ H (ns.map V.int)) (h0 : g ∈ ns) (hg0 : ∀ y ∈ ns, y ≤ g) (hc : X.calm = true) (hm : X.mg "max" = none) (hg : Gl X "max" := by rfl) {pos2 : Pos} (he : starEach [e] X.env = (false, eval e X.env) :: starEach [] X.env := by rfl) (hpl : (backTo pos2 (starEach [] X.env)).any (·.1) = false := by rfl) :
    DV X (.Call (.Name "max" pos) [e] [] pos2) σ H (.int g) :=
  dv_of (pe_callB (cr_max hc) hg hm (by decide +kernel) pa_w (by decide) (by decide) he hpl) fun H1 s1 Q q => wa_of (pa_cons pe_w pa_w he) (ha H1 s1 _ fun w H2 s2 ⟨p, ew, hs⟩ => wa_of pa_nil ⟨p, ns, by rw [ew], hs, List.length_pos_of_mem h0, fun m hm1 hm2 => by
    have e1 : m = g := Int.le_antisymm (hg0 m hm1) (hm2 g h0)
    rw [e1]
    exact q H2 s2⟩)
/-! ### comprehensions -/
theorem wipe_one {σ : L2.St} {i : Nat} {x : Option V} : wipe ((wipe σ [i]).set i x) [i] = wipe σ [i] := by simp [wipe]
/-- a block's test, its element: what is asked of its turn -/
def ttR (σ : L2.St) (H : Hp) (i u : Nat) (pt : Nat → Bool) : TT := fun σ' H' R => ∃ t : Nat, t < u ∧ σ' = (wipe σ [i]).set i (some (.int (t : Int))) ∧ Same H H' ∧ ∀ H2, Same H' H2 → R (pt t) H2
def teR (σ : L2.St) (H : Hp) (i u : Nat) (pt : Nat → Bool) (ft : Nat → V) : TE := fun σ' H' R => ∃ t : Nat, t < u ∧ pt t = true ∧ σ' = (wipe σ [i]).set i (some (.int (t : Int))) ∧ Same H H' ∧ ∀ H2, Same H' H2 → R (ft t) H2
/-- [elt for n in range(a) if c] -/
theorem d_lcR1t {elt : Expr} {scope : Scope} {u : Nat} {px pr pr2 : Pos} (pt : Nat → Bool) (ft : Nat → V) (ha : DV X a σ H (.int (u : Int))) (hu : u ≤ 1000000)
    (ht : ∀ (s : Shared) (Hb : Hp) (C : Addr) (cl : List (Str × Addr)) (fp : List Addr) (t : Nat) (H' : Hp), t < u → Same H H' → DT (X.blk s Hb scope (compEnvC scope cl C X.env) fp) c ((wipe σ [i]).set i (some (.int (t : Int)))) H' (pt t))
    (he : ∀ (s : Shared) (Hb : Hp) (C : Addr) (cl : List (Str × Addr)) (fp : List Addr) (t : Nat) (H' : Hp), t < u → pt t = true → Same H H' → DV (X.blk s Hb scope (compEnvC scope cl C X.env) fp) elt ((wipe σ [i]).set i (some (.int (t : Int)))) H' (ft t))
    (hc : X.calm = true) (hN : X.N.Nodup) (hm : X.mg "range" = none) (ok : BlkOk X.N X.env.scope scope [(n, i)] := by exact blkOk_by (by decide +kernel)) (hi : X.N[i]? = some n := by rfl)
    (hx : ∀ (s : Shared) (Hb : Hp) (C : Addr) (cl : List (Str × Addr)) (fp : List Addr), Loc (X.blk s Hb scope (compEnvC scope cl C X.env) fp).env.scope n := by first | exact fun _ _ _ _ _ => Or.inl rfl | exact fun _ _ _ _ _ => Or.inr rfl)
    (hf : ∀ (s : Shared) (Hb : Hp) (C : Addr) (cl : List (Str × Addr)) (fp : List Addr), (X.blk s Hb scope (compEnvC scope cl C X.env) fp).fn n = true ∨ (X.blk s Hb scope (compEnvC scope cl C X.env) fp).env.scope.names.lookup n = some .local := by first | exact fun _ _ _ _ _ => Or.inl rfl | exact fun _ _ _ _ _ => Or.inr rfl)
    (hg : Gl X "range" := by rfl) (e1 : starEach [a] X.env = [(false, eval a X.env)] := by rfl) (e0 : starEach [] X.env = [] := by rfl)
    (hs : ∀ x, foldedSetIterable (.Call (.Name "range" pr) [a] [] pr2) X.env x = pure x := by intro _; rfl) :
    D X (.ListComp elt [⟨.Name n px, .Call (.Name "range" pr) [a] [] pr2, [c], 0⟩] scope pos) σ H (fun v H' => ∃ p, v = .ref p ∧ H p = none ∧ H' p = some (.lst (((List.range u).filter pt).map ft))) := by
  refine d_of (pe_lc (own := [(n, i)]) hc hN (pi_range1 hg hm pa_w e1) ok (fun s Hb C cl fp => pg_name (i := i) hN hi (hx s Hb C cl fp) (hf s Hb C cl fp)) (tt := ttR σ H i u pt) (te := teR σ H i u pt ft)
    (fun s Hb C cl fp => pts_one ⟨fun pins s1 σ1 H1 R I ⟨t, h1, h2, h3, h4⟩ => ?_⟩) (fun s Hb C cl fp => ⟨fun pins s1 σ1 H1 R I ⟨t, h1, h5, h2, h3, h4⟩ => ?_⟩) hs) fun H1 s1 Q q => ?_
  · subst h2
    exact (ht s Hb C cl fp t H1 h1 h3) H1 (Same.refl _) _ h4 pins s1 I
  · subst h2
    exact ((he s Hb C cl fp t H1 h1 h5 h3).run (Same.refl _) h4) pins s1 I
  · refine (da_cons ha da_nil (by rw [e1, e0])) H1 s1 _ fun H2 s2 => ⟨(u : Int), rfl, by omega, by omega, fun Dd hD => ?_⟩
    have eu : ((u : Int)).toNat = u := by omega
    rw [eu]
    have s12 := s1.trans s2
    refine lc_range (lo := 0) (n := u) (vs := [i]) (σ := σ) (g := gName i) (tt := ttR σ H i u pt) (te := teR σ H i u pt ft) (fun t H' => Same H2 H' ∧ H' Dd = some (.lst (((List.range t).filter pt).map ft))) ⟨Same.new hD, upd_same⟩ (fun t H' ht' ⟨sa, hd⟩ => ?_) (fun H' ⟨sa, hd⟩ => q _ _ (s2.trans sa) ⟨Dd, rfl, s12.free hD, hd⟩)
    have ei : (0 + (t : Int)) = (t : Int) := by omega
    rw [ei]
    refine ⟨wipe_one, t, ht', rfl, s12.trans sa, fun H3 s3 => ?_⟩
    have len : (((List.range t).filter pt).map ft).length ≤ t := by
      rw [List.length_map]
      exact Nat.le_trans (List.length_filter_le _ _) (by simp)
    cases hp : pt t with
    | true =>
      refine iteT ⟨t, ht', hp, rfl, (s12.trans sa).trans s3, fun H4 s4 => ?_⟩
      have hd4 := s4 _ _ (s3 _ _ hd)
      refine ⟨_, hd4, Nat.lt_of_le_of_lt len (by rw [sizeLine_eq]; omega), ?_, ?_⟩
      · intro b o eb
        have nb : b ≠ Dd := ne_of_none eb hD
        rw [upd_ne nb]
        exact s4 _ _ (s3 _ _ (sa _ _ eb))
      · rw [upd_same, List.range_succ, List.filter_append, List.map_append]
        simp [hp]
    | false =>
      refine iteF ⟨sa.trans s3, ?_⟩
      rw [List.range_succ, List.filter_append, List.map_append]
      simp [hp]
      simpa using s3 _ _ hd
end
end Sx

namespace L2
open PySem PySem.Spec PyProof.Rows
/-- an object that F does not know may change -/
theorem Same.mut {F H : Hp} {a : Addr} {o : HO} (s : Same F H) (h : F a = none) : Same F (upd H a o) := fun b u e => by
  rw [upd_ne (ne_of_none e h)]
  exact s b u e
theorem Same.tup {K : PySem.W.Frag} {H H' : Hp} {a : Addr} {xs : List V} (e : Same H H') (h : SqT K H a xs) : SqT K H' a xs := Sx.Same.seqT e h
end L2
namespace Sx
open PySem PySem.Spec PyProof.Rows L2
theorem fsz {n m : Nat} (h : m ≤ 100) : min m n < 1000 := by omega
section
variable {X : Cx} {e a b c o : Expr} {es : List Expr} {st : Stmt} {sts : List Stmt} {σ : L2.St} {H H1 : Hp} {Q : VK} {DD : Ends} {P : V → Hp → Prop} {v x y z : V} {i j : Nat} {n m f : Str} {pos p2 p3 po : Pos} {vs xs : List V} {k l : Int} {q r : Nat}
/-- x.f = e, the next attribute of the object in slot i -/
theorem s_fnew {C dx p : Addr} {names : List Str} {vals : List V} (i : Nat) (kl : Kl X.K C names) (he : D X e σ H P) (hp : H p = some (obj C dx names vals)) (q : ∀ v H', Same H H' → P v H' → DD.nx σ (upd H' p (obj C dx names (vals ++ [v])))) (ho : σ[i]? = some (some (.ref p)) := by rfl)
    (hn : names[vals.length]? = some f := by rfl) (hs : swapsWith e (some (.Attribute (.Name n po) f p2)) pos.line X.env = pure false := by rfl) (hN : X.N[i]? = some n := by rfl)
    (hv : Vis X.env.scope n := by first | exact Or.inl rfl | exact Or.inr (Or.inl rfl) | exact Or.inr (Or.inr rfl)) (hd : (n == ("__debug__" : Str)) = false := by decide) (hcd : (n == ("__classdict__" : Str)) = false := by decide) :
    WS X (.Assign [.Attribute (.Name n po) f p2] e pos) DD σ H :=
  ws_of (ps_fld (pe_var hN hv hd hcd) pe_w hs) (he H (Same.refl _) _ fun v H2 s2 pv => ⟨_, ho, p, C, dx, names.zip vals, rfl, s2 _ _ hp, kl.cl, kl.at hn, by
    rw [List.length_zip]
    exact fsz kl.few, by
    rw [putF_new kl.nd hn]
    exact q v H2 s2 pv⟩)
/-- x.f = e, an attribute that is there, of the object in slot i -/
theorem s_fold {C dx p : Addr} {names : List Str} {vals : List V} (i : Nat) (j : Nat) (kl : Kl X.K C names) (he : D X e σ H P) (hp : H p = some (obj C dx names vals)) (q : ∀ v H', Same H H' → P v H' → DD.nx σ (upd H' p (obj C dx names (vals.set j v)))) (ho : σ[i]? = some (some (.ref p)) := by rfl)
    (hn : names[j]? = some f := by rfl) (hj : j < vals.length := by decide) (hs : swapsWith e (some (.Attribute (.Name n po) f p2)) pos.line X.env = pure false := by rfl) (hN : X.N[i]? = some n := by rfl)
    (hv : Vis X.env.scope n := by first | exact Or.inl rfl | exact Or.inr (Or.inl rfl) | exact Or.inr (Or.inr rfl)) (hd : (n == ("__debug__" : Str)) = false := by decide) (hcd : (n == ("__classdict__" : Str)) = false := by decide) :
    WS X (.Assign [.Attribute (.Name n po) f p2] e pos) DD σ H :=
  ws_of (ps_fld (pe_var hN hv hd hcd) pe_w hs) (he H (Same.refl _) _ fun v H2 s2 pv => ⟨_, ho, p, C, dx, names.zip vals, rfl, s2 _ _ hp, kl.cl, kl.at hn, by
    rw [List.length_zip]
    exact fsz kl.few, by
    rw [putF_old kl.nd hn hj]
    exact q v H2 s2 pv⟩)
/-- the values of an attribute's place -/
theorem s_fnewV {C dx p : Addr} {names : List Str} {vals : List V} (i : Nat) (kl : Kl X.K C names) (he : DV X e σ H v) (hp : H p = some (obj C dx names vals)) (q : ∀ H', Same H H' → DD.nx σ (upd H' p (obj C dx names (vals ++ [v])))) (ho : σ[i]? = some (some (.ref p)) := by rfl)
    (hn : names[vals.length]? = some f := by rfl) (hs : swapsWith e (some (.Attribute (.Name n po) f p2)) pos.line X.env = pure false := by rfl) (hN : X.N[i]? = some n := by rfl)
    (hv : Vis X.env.scope n := by first | exact Or.inl rfl | exact Or.inr (Or.inl rfl) | exact Or.inr (Or.inr rfl)) (hd : (n == ("__debug__" : Str)) = false := by decide) (hcd : (n == ("__classdict__" : Str)) = false := by decide) :
    WS X (.Assign [.Attribute (.Name n po) f p2] e pos) DD σ H := s_fnew i kl he hp (fun w H2 s2 ew => by
    have ew : w = v := ew
    subst ew
    exact q H2 s2) ho hn hs hN hv hd hcd
theorem s_foldV {C dx p : Addr} {names : List Str} {vals : List V} (i : Nat) (j : Nat) (kl : Kl X.K C names) (he : DV X e σ H v) (hp : H p = some (obj C dx names vals)) (q : ∀ H', Same H H' → DD.nx σ (upd H' p (obj C dx names (vals.set j v)))) (ho : σ[i]? = some (some (.ref p)) := by rfl)
    (hn : names[j]? = some f := by rfl) (hj : j < vals.length := by decide) (hs : swapsWith e (some (.Attribute (.Name n po) f p2)) pos.line X.env = pure false := by rfl) (hN : X.N[i]? = some n := by rfl)
    (hv : Vis X.env.scope n := by first | exact Or.inl rfl | exact Or.inr (Or.inl rfl) | exact Or.inr (Or.inr rfl)) (hd : (n == ("__debug__" : Str)) = false := by decide) (hcd : (n == ("__classdict__" : Str)) = false := by decide) :
    WS X (.Assign [.Attribute (.Name n po) f p2] e pos) DD σ H := s_fold i j kl he hp (fun w H2 s2 ew => by
    have ew : w = v := ew
    subst ew
    exact q H2 s2) ho hn hj hs hN hv hd hcd
/-- xs.append(e): a statement -/
theorem s_append {lp : Addr} (ho : DV X o σ H (.ref lp)) (hl : H lp = some (.lst xs)) (he : D X e σ H P) (q : ∀ v H', Same H H' → P v H' → DD.nx σ (upd H' lp (.lst (xs ++ [v])))) (hz : xs.length ≤ 1000000) {pe : Pos}
    (hs : swapsWith (.Call (.Attribute o "append" p2) [e] [] p3) none pe.line X.env = pure false := by rfl)
    (hbase : attributeBase o "append" X.env (eval o X.env) = eval o X.env := by rfl)
    (hfew : ((backTo p3 (starEach [e] X.env)).all (fun x => !x.1) && (backToKw p3 (keywordEach [] X.env)).all (fun x => x.1.isSome)
      && decide (([e] : List Expr).length + ([] : List Keyword).length + (if ([] : List Keyword).isEmpty then 0 else 1) < 30)) = true := by rfl)
    (hline : (p2.endLine == p3.line) = true := by rfl) (h1 : starEach [e] X.env = (false, eval e X.env) :: starEach [] X.env := by rfl) (hplain : (backTo p3 (starEach [] X.env)).any (·.1) = false := by rfl) :
    WS X (.Expr (.Call (.Attribute o "append" p2) [e] [] p3) pe) DD σ H :=
  ws_of (ps_expr (pe_bm PySem.F.plainAttrs_list PySem.F.slot_list_append PySem.F.type_list_append mt_append pe_w pa_w hbase hfew hline h1 hplain) hs)
    (ho.run (Same.refl _) fun H2 s2 => ⟨.inl ⟨rfl, xs, SqL.of (s2 _ _ hl)⟩, wa_of (pa_cons pe_w pa_w h1) (he H2 s2 _ fun v H3 s3 pv => wa_of pa_nil ⟨lp, xs, v, rfl, rfl, s3 _ _ (s2 _ _ hl), by rw [sizeLine_eq]; omega, q v H3 (s2.trans s3) pv⟩)⟩)
/-- {} for keys that are ints and texts -/
theorem d_dnewK : D X (.Dict [] [] pos) σ H (fun v H' => ∃ p, v = .ref p ∧ H p = none ∧ H' p = some (.dK [])) := d_of pe_dnewK fun H1 s1 Q k => fun p hp => k _ _ (Same.new hp) ⟨p, rfl, s1.free hp, upd_same⟩
theorem d_dnewT : D X (.Dict [] [] pos) σ H (fun v H' => ∃ p, v = .ref p ∧ H p = none ∧ H' p = some (.dT [])) := d_of pe_dnewT fun H1 s1 Q k => fun p hp => k _ _ (Same.new hp) ⟨p, rfl, s1.free hp, upd_same⟩
/-- k in d, k not in d -/
theorem dt_dinK {d : Addr} {kvs : List (Key × V)} {kk : Key} (ha : DV X a σ H (kV kk)) (hb : DV X b σ H (.ref d)) (hd : H d = some (.dK kvs)) (hu : X.A.units + 1 < cLine) (hm : behindInMarks .In b = false := by rfl) : DT X (.Compare a [.In] [b] pos) σ H (valV kvs kk).isSome :=
  dt_of (pt_cmp (pc_din hu pe_w pe_w) hm) fun H1 s1 Q q => ha.run s1 fun H2 s2 => hb.run (s1.trans s2) fun H3 s3 => ⟨d, _, rfl, DGet.k (((s1.trans s2).trans s3) _ _ hd), _, rfl, q H3 (s2.trans s3)⟩
theorem dt_dninK {d : Addr} {kvs : List (Key × V)} {kk : Key} (ha : DV X a σ H (kV kk)) (hb : DV X b σ H (.ref d)) (hd : H d = some (.dK kvs)) (hu : X.A.units + 1 < cLine) (hm : behindInMarks .NotIn b = false := by rfl) : DT X (.Compare a [.NotIn] [b] pos) σ H (!(valV kvs kk).isSome) :=
  dt_of (pt_cmp (pc_dnotin hu pe_w pe_w) hm) fun H1 s1 Q q => ha.run s1 fun H2 s2 => hb.run (s1.trans s2) fun H3 s3 => ⟨d, _, rfl, DGet.k (((s1.trans s2).trans s3) _ _ hd), _, rfl, q H3 (s2.trans s3)⟩
/-- d[k] -/
theorem dv_dgetK {d : Addr} {kvs : List (Key × V)} {kk : Key} (ha : DV X a σ H (.ref d)) (hb : DV X b σ H (kV kk)) (hd : H d = some (.dK kvs)) (hv : valV kvs kk = some v) (hu : X.A.units + 1 < cLine) (hs : NoSl b := by exact fun _ _ => rfl) : DV X (.Subscript a b pos) σ H v :=
  dv_of (pe_dget hu pe_w pe_w hs) fun H1 s1 Q q => ha.run s1 fun H2 s2 => hb.run (s1.trans s2) fun H3 s3 => ⟨d, v, rfl, by
    rw [← hv]
    exact DGet.k (((s1.trans s2).trans s3) _ _ hd), q H3 (s2.trans s3)⟩
/-- d[k] = e -/
theorem s_dputK {d : Addr} {kvs : List (Key × V)} {kk : Key} (hc : DV X c σ H v) (ha : DV X a σ H (.ref d)) (hb : DV X b σ H (kV kk)) (hd : H d = some (.dK kvs)) (hz : kvs.length ≤ 1000000) (q : ∀ H', Same H H' → DD.nx σ (upd H' d (.dK (putK kvs kk v)))) (hu : X.A.units + 1 < cLine)
    (hs : swapsWith c (some (.Subscript a b p2)) pos.line X.env = pure false := by rfl) : WS X (.Assign [.Subscript a b p2] c pos) DD σ H :=
  ws_of (ps_dput hu pe_w pe_w pe_w hs) (hc.run (Same.refl _) fun H2 s2 => ha.run s2 fun H3 s3 => hb.run (s2.trans s3) fun H4 s4 => ⟨d, _, rfl, DPut.k (((s2.trans s3).trans s4) _ _ hd) (by rw [sizeLine_eq]; omega), q H4 ((s2.trans s3).trans s4)⟩)
/-- tuple(xs) of a list -/
theorem d_tupleOf (ha : DL X a σ H xs) (hm : X.mg "tuple" = none) (hg : Gl X "tuple" := by rfl) (na : starEach [a] X.env = (false, eval a X.env) :: starEach [] X.env := by rfl) : D X (.Call (.Name "tuple" pos) [a] [] p2) σ H (fun v H' => ∃ p, v = .ref p ∧ H' p = some (.tup xs)) :=
  d_of (pe_tupleOf hg hm pe_w na) fun H1 s1 Q q => ha H1 s1 _ fun w H2 s2 ⟨p, ew, hs⟩ => .inl ⟨p, xs, ew, hs, fun t ht => q _ _ (s2.trans (Same.new ht)) ⟨t, rfl, upd_same⟩⟩
/-- a global name of an object, of a number -/
theorem dv_gref {a0 : Addr} (hm : X.mg n = some (.ref a0)) (hg : Gl X n := by rfl) (hd : (n == ("__debug__" : Str)) = false := by decide) : DV X (.Name n pos) σ H (.ref a0) := dv_glob (v := .ref a0) hm rfl hg hd
theorem dv_gint {z : Int} (hm : ∃ t, X.mg n = some (.int z t)) (hg : Gl X n := by rfl) (hd : (n == ("__debug__" : Str)) = false := by decide) : DV X (.Name n pos) σ H (.int z) := let ⟨t, h⟩ := hm; dv_glob (v := .int z) h ⟨t, rfl⟩ hg hd
/-- a built-in's name as a value -/
theorem dv_bltn {u : Value} (hm : X.mg n = none) (r : RelV v u) (hv : bootBuiltins n = some u := by decide +kernel) (hg : Gl X n := by rfl) (hn : n ≠ "__name__" := by decide) (hd : (n == ("__debug__" : Str)) = false := by decide) : DV X (.Name n pos) σ H v := dv_of (pe_bltn hg hm hv r hn hd) fun H1 _ Q q => q H1 (Same.refl _)
/-- isinstance(x, T) -/
theorem dv_isi {x c : V} {t u : Value} {b1 : Bool} (ha : DV X a σ H x) (hb : DV X b σ H c) (hc : ClsV c u) (ht : TyX X.K H x t) (hk : PySem.W.kitOne X.K t u = some b1) (hst : ∀ H', Same H H' → TyX X.K H' x t) (hm : X.mg "isinstance" = none) (hg : Gl X "isinstance" := by rfl)
    (h1 : starEach [a, b] X.env = (false, eval a X.env) :: starEach [b] X.env := by rfl) (h3 : starEach [b] X.env = (false, eval b X.env) :: starEach [] X.env := by rfl) (hpl : (backTo p2 (starEach [b] X.env)).any (·.1) = false := by rfl) :
    DV X (.Call (.Name "isinstance" pos) [a, b] [] p2) σ H (.bl b1) :=
  dv_callB call_isi hm (da_cons ha (da_cons hb da_nil h3) h1) (fun H1 s1 Q q => ⟨x, c, t, u, b1, rfl, hc, hst H1 s1, hk, q H1 (Same.refl _)⟩) (by decide +kernel) hg (by decide) (by decide) h1 hpl
end
end Sx

/-! Ex1: own exceptions over LookupError, through classes of one's own; their one field; C.m(..) of a class of one's own. -/
namespace Sx
open PySem PySem.Spec PyProof.Rows L2
abbrev leT : List Value := [.type "LookupError", .type "Exception", .type "BaseException", .type "object"]
/-- what the written part says of an exception's class -/
structure LEx (K : PySem.W.Frag) (C : Addr) : Prop where
  ci : PySem.W.excInitIn K C leT "LookupError.__new__" = true
  ov : PySem.W.excOver K C leT = true
  sa : PySem.W.findIn K (.ref C) "__setattr__" = some (some (.builtin "object.__setattr__"))
  ga : PySem.W.findIn K (.ref C) "__getattribute__" = some (some (.builtin "BaseException.__getattribute__"))
  gg : PySem.W.findIn K (.ref C) "__getattr__" = some none
  exC : PySem.W.subIn K (.ref C) (.type "BaseException") = some true
  tyC : PySem.W.typeIn K (.ref C) = some (.type "type")
  kC : PySem.W.keepIn K (.ref C) = true
  hd : PySem.W.hasDictIn K C = true
def lexB (K : PySem.W.Frag) (C : Addr) : Bool := PySem.W.excInitIn K C leT "LookupError.__new__" && (PySem.W.excOver K C leT && (He.eqO (PySem.W.findIn K (.ref C) "__setattr__") (some (some (.builtin "object.__setattr__"))) && (He.eqO (PySem.W.findIn K (.ref C) "__getattribute__") (some (some (.builtin "BaseException.__getattribute__"))) &&
  (He.eqO (PySem.W.findIn K (.ref C) "__getattr__") (some none) && (decide (PySem.W.subIn K (.ref C) (.type "BaseException") = some true) && (decide (PySem.W.typeIn K (.ref C) = some (.type "type")) && (PySem.W.keepIn K (.ref C) && PySem.W.hasDictIn K C)))))))
theorem lex_of {K : PySem.W.Frag} {C : Addr} (h : lexB K C = true) : LEx K C := by
  unfold lexB at h
  simp only [Bool.and_eq_true] at h
  obtain ⟨h1, h2, h3, h4, h5, h6, h7, h8, h9⟩ := h
  exact ⟨h1, h2, He.eqO_ok h3, He.eqO_ok h4, He.eqO_ok h5, of_decide_eq_true h6, of_decide_eq_true h7, h8, h9⟩
/-- a class of one's own whose attribute m is read off the class -/
structure ClsGet (K : PySem.W.Frag) (C : Addr) (m : Str) (v : Value) : Prop where
  rd : PySem.W.readsIn K C (.type "type") = true
  sp : PySem.W.specialIn K (.ref C) "__getattribute__" = some (some (.builtin "type.__getattribute__"))
  at_ : PySem.W.findCls K (.ref C) (.type "type") m = some (.val v)
  hv : PySem.W.handedIn v = true
section
variable {X : Cx} {pins : List (Addr × Obj)} {σ : L2.St} {H : Hp} {s : Shared} {a C : Addr} {f : Str} {y : V} {u : Value} {E : Value → Shared → Prop} {A : Around}
/-- self.f = y: the exception's own dict is made -/
theorem ost_le {Q : Unit → Shared → Prop} (T : LEx X.K C) (I : Inv X pins σ H s) (e : H a = some (exo a C none)) (hno : PySem.W.findIn X.K (.ref C) f = some none) (ry : RelV y u)
    (h : ∀ dx s', H dx = none → dx ≠ a → Inv X pins σ (upd (upd H dx (exd dx [(f, y)])) a (exo a C (some dx))) s' → Q () s') : wpAny (model X.prog X.w) A (setAttr (.ref a) f u) Q E s := by
  obtain ⟨t1, ho⟩ := exo_at I.hok e
  obtain ⟨hp, g, d, t, os⟩ := s
  have J : PySem.W.InstAt hp a { cls := .ref C, dict := none, data := .fields #[.ref t1, .none, .none, .none, .bool false, .none] } C none := ⟨ho, rfl, rfl, trivial⟩
  have hxs : a ≠ hp.objs.size := Nat.ne_of_lt (Heap.lt_size ho)
  obtain ⟨cd, hcd, hdd⟩ := PySem.W.any_some T.hd
  have tk : PySem.W.takerIn X.K C f = some none := by unfold PySem.W.takerIn; rw [hno]; rfl
  have hX : X.K.In hp := I.kIn
  refine PySem.W.set_plain (od := none) hX J T.sa (PySem.W.osa_openX (s := ⟨hp, g, d, t + 1, os⟩) PySem.F.store_LookupError hX J T.ov tk fun b => ?_)
  refine wpAny_bind (wpAny_pure (wpAny_bind (PySem.W.instanceDict_exc (c2 := .none) (s := ⟨hp, g, d, t + 1, os⟩) ho (PySem.W.looks_clsIn hX hcd) hdd ?_)))
  refine PySem.HandSPX.store_in_new (t := t + 1) ⟨_, #[], _, (Heap.get?_update_ne _ _ _ _ hxs.symm).trans (Heap.get?_push_at rfl rfl), rfl, fun e he => absurd he (by simp), fun _ => rfl⟩ fun h' tk' hn' hs => ?_
  have hx₁ : (hp.push (PySem.W.dictOf [] 0)).get? a = some { cls := .ref C, data := .fields #[.ref t1, .none, .none, .none, .bool false, .none] } := Heap.get?_push_of_some _ ho
  have k : ∀ b o, b ≠ a → hp.get? b = some o → h'.get? b = some o := fun b o hb ho => (hs.2 b (Nat.ne_of_lt (Heap.lt_size ho))).trans ((Heap.get?_update_ne _ _ _ _ hb).trans (Heap.get?_push_of_some _ ho))
  have hx : h'.get? a = some { cls := .ref C, dict := some hp.objs.size, data := .fields #[.ref t1, .none, .none, .none, .bool false, .none] } := (hs.2 a hxs).trans (Heap.get?_update_self _ hx₁ rfl)
  have dn : hp.objs.size ≤ hp.objs.size := Nat.le_refl _
  have hnd : H hp.objs.size = none := I.hok.fresh dn
  have nd : ∀ {b : Addr} {o : Obj}, hp.get? b = some o → b ≠ hp.objs.size := fun {b o} q => Nat.ne_of_lt (Heap.lt_size q)
  have na : ∀ {b : Addr}, H b = none → b ≠ a := fun {b} n z => by
    rw [z, e] at n
    cases n
  have U : Un X.fs [] H (upd (upd H hp.objs.size (exd hp.objs.size [(f, y)])) a (exo a C (some hp.objs.size))) hp h' := {
    keep := fun b o q n _ _ => k b o (na n) q
    slot := fun b o q n _ _ => ⟨o.slots, k b o (na n) q⟩
    free := fun b o q n _ => by rw [upd_ne (na n), upd_ne (nd q)]; exact n
    there := fun b o q _ => by
      by_cases hb : b = a
      · exact ⟨_, by rw [hb]; exact hx⟩
      · exact ⟨o, k b o hb q⟩
    tups := fun b xs q => by rw [upd_ne (at_ne e q exo_tup), upd_ne (ne_of_none q hnd)]; exact q
    frzs := fun b o v q => by rw [upd_ne (at_ne e q exo_frz), upd_ne (ne_of_none q hnd)]; exact q
    tbls := fun b ps q => ⟨#[], by rw [upd_ne (at_ne e q exo_tbl), upd_ne (ne_of_none q hnd), q]; simp⟩ }
  refine h hp.objs.size ⟨h', g, d, tk', os⟩ hnd hxs.symm (I.un (t' := tk') U fun b o q => ?_)
  by_cases hb : b = a
  · subst hb
    rw [upd_same] at q
    cases q
    exact exo_ok hx
  · rw [upd_ne hb] at q
    by_cases hd : b = hp.objs.size
    · subst hd
      rw [upd_same] at q
      cases q
      exact exd_ok hn' (relO_put (fs := []) ry fun g => True.intro)
    · rw [upd_ne hd] at q
      refine (I.hok b o q).stay (fun c v hc z => k c v ?_ z) (fun c hc => ?_) (fun c xs hc => ?_)
      · rcases hc with hc | hc
        · rw [hc]
          exact hb
        · exact at_ne e hc exo_own
      · rw [upd_ne (at_ne e hc exo_own), upd_ne (ne_of_none hc hnd)]; exact hc
      · rw [upd_ne (at_ne e hc exo_tup), upd_ne (ne_of_none hc hnd)]; exact hc
/-- LookupError.__init__(self, ..): nothing of it is told -/
theorem oinit_le {us : List Value} {Q : Value → Shared → Prop} (T : LEx X.K C) (I : Inv X pins σ H s) (e : H a = some (exo a C none)) (hl : us.length ≤ sizeLine) (h : ∀ s', Inv X pins σ H s' → Q .none s') :
    wpAny (model X.prog X.w) A (call (.builtin "LookupError.__init__") (.ref a :: us)) Q E s := by
  obtain ⟨nm, N, q, bs, bm, hd, sn, sub, ab, col, dd, k0, k1, k2, k3, k5, hC, hT⟩ := PySem.W.excInit_of I.kIn T.ci
  obtain ⟨t1, ho⟩ := exo_at I.hok e
  obtain ⟨hp, g, d, t, os⟩ := s
  refine wpAny_call (PySem.HandSPX.init_base PySem.F.excBase_LookupError hT hC ho hl fun h' t2 k hx => ?_)
  have J := I.write (t' := t) (x := a) (e := a) (o := exo a C none) (by rw [e]; exact True.intro) (.inl rfl) k ⟨_, hx⟩ (exo_ok hx)
  have eu : upd H a (exo a C none) = H := by
    funext b
    by_cases hb : b = a
    · rw [hb, upd_same, e]
    · rw [upd_ne hb]
  rw [eu] at J
  exact h _ J
end
section
variable {X : Cx} {o e : Expr} {es : List Expr} {st : Stmt} {σ : L2.St} {H : Hp} {DD : Ends} {P : V → Hp → Prop} {f n : Str} {v x : V} {i : Nat} {p p' p1 p2 pos : Pos} {vs : List V} {C a : Addr}
/-- B.__init__(self, ..) of an exception that is being made, B a class of one's own over LookupError without an __init__ -/
theorem d_leinit {B : Addr} {pl : Sem Bool} (G : ClsGet X.K B "__init__" (.builtin "LookupError.__init__")) (hm : X.mg n = some (.ref B)) (T : LEx X.K C) (ha : DA X (e :: es) σ H (.ref a :: vs)) (hl : vs.length ≤ 1000) (hx : H a = some (exo a C none)) (hg : Gl X n := by rfl) (hdb : (n == ("__debug__" : Str)) = false := by decide)
    (hc : eval (.Call (.Attribute (.Name n p1) "__init__" p2) (e :: es) [] pos) X.env = (do
      let ov ← eval (.Name n p1) X.env
      standAt p2.atName
      let (f, first) ← holding [ov] (getMethod ov "__init__" pl)
      callWith pos f first (backTo pos (starEach (e :: es) X.env)) (backToKw pos (keywordEach [] X.env))) := by rfl)
    (he : starEach (e :: es) X.env = (false, eval e X.env) :: starEach es X.env := by rfl) (hpl : (backTo pos (starEach es X.env)).any (·.1) = false := by rfl) :
    DV X (.Call (.Attribute (.Name n p1) "__init__" p2) (e :: es) [] pos) σ H .non := by
  intro H1 s1 Q q pins s I
  refine PySem.W.methodCall_KW (ld_glob I hg hm ?_ hdb) hc
  refine PySem.W.method_cls I.kIn G.sp (PySem.W.cls_value I.kIn G.rd G.at_ G.hv ?_)
  show wpAny _ _ (callWith pos (Value.builtin "LookupError.__init__") [] (backTo pos (starEach (e :: es) X.env)) []) _ _ _
  refine PyProof.Rows.callWith_method1 (thn (ha H1 s1 (fun us H2 => us = .ref a :: vs ∧ Same H1 H2) (fun H2 s2 => ⟨rfl, s2⟩) pos pins _ (I.tok _)) fun us s2 ⟨ws, H2, I2, r1, ew, s2'⟩ => ?_) he hpl
  subst ew
  cases r1 with
  | @cons _ u0 _ ur ra rw' =>
    obtain rfl : u0 = Value.ref a := ra
    have hlen : ur.length ≤ sizeLine := by
      rw [← Paired.length rw', sizeLine_eq]
      omega
    exact oinit_le T I2 ((s1.trans s2') _ _ hx) hlen fun s' J => ⟨.non, H2, J, rfl, q _ H2 s2' rfl⟩
/-- x.f = e, of an exception that is being made, in slot i -/
theorem s_ost (i : Nat) (T : LEx X.K C) (he : DV X e σ H v) (hx : H a = some (exo a C none)) (hno : PySem.W.findIn X.K (.ref C) f = some none) (q : ∀ dx H', Same H H' → H' dx = none → dx ≠ a → DD.nx σ (upd (upd H' dx (exd dx [(f, v)])) a (exo a C (some dx)))) (ho : σ[i]? = some (some (.ref a)) := by rfl)
    (hs : swapsWith e (some (.Attribute (.Name n p1) f p')) pos.line X.env = pure false := by rfl) (hN : X.N[i]? = some n := by rfl)
    (hv : Vis X.env.scope n := by first | exact Or.inl rfl | exact Or.inr (Or.inl rfl) | exact Or.inr (Or.inr rfl)) (hd : (n == ("__debug__" : Str)) = false := by decide) (hcd : (n == ("__classdict__" : Str)) = false := by decide) :
    WS X (.Assign [.Attribute (.Name n p1) f p'] e pos) DD σ H := by
  intro pins s I
  refine plainObj_wpAny_Assign_Attribute (thn (he H (Same.refl _) (fun y H' => y = v ∧ Same H H') (fun w H2 s2 ew => ⟨ew, s2⟩) pins s I) fun u s1 ⟨y, H1, I1, r1, ey, s1'⟩ => ?_) hs
  subst ey
  refine thn ((pe_var (pos := p1) hN hv hd hcd).run pins s1 σ H1 (fun z H' => z = .ref a ∧ H' = H1) I1 ⟨_, ho, rfl, rfl⟩) fun u2 s2 ⟨z, H2, I2, r2, ez, eH⟩ => ?_
  subst ez
  subst eH
  obtain rfl : u2 = Value.ref a := r2
  exact ost_le T I2 (s1' _ _ hx) hno r1 fun dx s' n ne J => ⟨σ, _, J, q dx H2 s1' n ne⟩
/-- C.m(e, ..), C a class of one's own, m a def of it: the def is called with what is written -/
theorem d_clscall {B g : Addr} {fd : FuncData} {ps : List Str} {lv : Nat} {sp : Sp} {m : Str} {pl : Sem Bool} (G : ClsGet X.K B m (.ref g)) (hm : X.mg n = some (.ref B)) (F : FnOk X.prog X.w X.K X.mg X.base (L2.CX X.prog X.w) lv g fd ps sp) (hr : Room lv X.A) (hk : PySem.W.keepIn X.K (.ref g) = true) (hb : L2.Binds X.K fd ps [])
    (ha : DA X (e :: es) σ H vs) (hs : ∀ H1, Same H H1 → ∀ Q : VK, (∀ v H2, P v H2 → Q v H2) → sp vs H1 Q E0) (q : ∀ v H', P v H' → DD.nx σ H') (hg : Gl X n := by rfl) (hdb : (n == ("__debug__" : Str)) = false := by decide)
    (hc : eval (.Call (.Attribute (.Name n p1) m p2) (e :: es) [] pos) X.env = (do
      let ov ← eval (.Name n p1) X.env
      standAt p2.atName
      let (f, first) ← holding [ov] (getMethod ov m pl)
      callWith pos f first (backTo pos (starEach (e :: es) X.env)) (backToKw pos (keywordEach [] X.env))) := by rfl)
    (he : starEach (e :: es) X.env = (false, eval e X.env) :: starEach es X.env := by rfl) (hpl : (backTo pos (starEach es X.env)).any (·.1) = false := by rfl) (hsw : swapsWith (.Call (.Attribute (.Name n p1) m p2) (e :: es) [] pos) none p'.line X.env = pure false := by rfl) :
    WS X (.Expr (.Call (.Attribute (.Name n p1) m p2) (e :: es) [] pos) p') DD σ H := by
  refine ws_of (ps_expr (te := fun σ' H' Q => σ' = σ ∧ H' = H ∧ ∀ v H2, P v H2 → Q v H2) ⟨fun pins s σ' H' Q I ⟨e1, e2, k⟩ => ?_⟩ hsw) ⟨rfl, rfl, q⟩
  subst e1 e2
  refine PySem.W.methodCall_KW (ld_glob I hg hm ?_ hdb) hc
  refine PySem.W.method_cls I.kIn G.sp (PySem.W.cls_value I.kIn G.rd G.at_ G.hv ?_)
  refine PySem.W.callWith_K (h₀ := X.base) I.ok.mod.kin hk (thn (ha H' (Same.refl _) (fun us H2 => us = vs ∧ Same H' H2) (fun H2 s2 => ⟨rfl, s2⟩) pos pins _ (I.tok _)) fun us s1 ⟨ws, H1, I1, r, ew, s1'⟩ => ⟨I1.kIn, ?_⟩) he hpl
  subst ew
  exact run_fn F hr hb .nil passL I1 r (by rw [List.append_nil]; exact hs H1 s1' Q k)
end
end Sx

/-! Ex2: raise C(e); a try that catches. -/
namespace Sx
open PySem PySem.Spec PyProof.Rows L2
/-- the promise of an exception's __init__: its one field is stored -/
def spExI (C : Addr) (f : Str) : Sp := fun vs H Q _ => ∃ (a : Addr) (v : V) (F : Hp), vs = [.ref a, v] ∧ F a = none ∧ Same F H ∧ H a = some (exo a C none) ∧
  ∀ dx H', Same F H' → F dx = none → dx ≠ a → H' a = some (exo a C (some dx)) → H' dx = some (exd dx [(f, v)]) → Q .non H'
/-- the class at C, by the name n: an own exception with one field f -/
structure Xc (P : Program) (w : World) (K : PySem.W.Frag) (mg : Str → Option Value) (base : Heap) (lv : Nat) (n : Str) (C : Addr) (f : Str) : Prop where
  le : LEx K C
  gl : mg n = some (.ref C)
  ini : ∃ fI fd ps, FnOk P w K mg base (L2.CX P w) lv fI fd ps (spExI C f) ∧ PySem.W.findIn K (.ref C) "__init__" = some (some (.ref fI)) ∧ PySem.W.typeIn K (.ref fI) = some (.type "function") ∧ L2.Binds K fd ps []
theorem Xc.mono {P : Program} {w : World} {K : PySem.W.Frag} {mg : Str → Option Value} {base : Heap} {lv lw : Nat} {n : Str} {C : Addr} {f : Str} (c : Xc P w K mg base lv n C f) (h : lv ≤ lw) : Xc P w K mg base lw n C f := ⟨c.le, c.gl, let ⟨fI, fd, ps, F, r⟩ := c.ini; ⟨fI, fd, ps, F.mono h, r⟩⟩
section
variable {X : Cx} {e : Expr} {σ : L2.St} {H : Hp} {DD : Ends} {n f : Str} {v : V} {p1 pos pos2 : Pos} {C : Addr} {lv : Nat}
theorem pmk_le (c : Xc X.prog X.w X.K X.mg X.base lv n C f) (hr : Room (lv + 1) X.A) (he : DV X e σ H v) (hg : Gl X n := by rfl) (hdb : (n == ("__debug__" : Str)) = false := by decide)
    (hst : starEach [e] X.env = (false, eval e X.env) :: starEach [] X.env := by rfl) (hpl : (backTo pos (starEach [] X.env)).any (·.1) = false := by rfl) :
    PMk X (.Call (.Name n p1) [e] [] pos) (fun σ' H' Q => σ' = σ ∧ H' = H ∧ ∀ d H2, Same H H2 → H2 d = some (.xd [(f, v)]) → Q (.ref C) (some d) H2) := by
  intro pins s σ' H' Q I ⟨e1, e2, q⟩
  subst e1 e2
  obtain ⟨fI, fd, ps, F1, iC, tI, hb⟩ := c.ini
  refine wpAny_Call_Name_kw (ld_glob I hg c.gl ?_ hdb)
  refine PySem.W.callWith_K (h₀ := X.base) I.ok.mod.kin c.le.kC (thn ((da_cons he da_nil hst) H' (Same.refl _) (fun us H2 => us = [v] ∧ Same H' H2) (fun H2 s2 => ⟨rfl, s2⟩) pos pins s I) fun us s1 ⟨vs, H1, I1, r1, ev, s1'⟩ => ⟨I1.kIn, ?_⟩) hst hpl
  subst ev
  show wpAny _ _ (call (.ref C) us) _ _ _
  obtain ⟨nm, N, q', bs, bm, hd, sn, sub, ab, col, dd, k0, k1, k2, k3, k5, hC, hT⟩ := PySem.W.excInit_of I1.kIn c.le.ci
  obtain ⟨hp, g, dr, tk, os⟩ := s1
  have hn : H1 (hp.objs.size + 1) = none := I1.hok.fresh (Nat.le_succ _)
  have kk : ∀ b o, hp.get? b = some o → ((hp.push (PySem.W.kdv_tup us)).push (PySem.HandSPX.excO C hp.objs.size)).get? b = some o := fun b o e => Heap.get?_push_of_some _ (Heap.get?_push_of_some _ e)
  have hget : ((hp.push (PySem.W.kdv_tup us)).push (PySem.HandSPX.excO C hp.objs.size)).get? (hp.objs.size + 1) = some (PySem.HandSPX.excO C hp.objs.size) := by heap_get
  have I2 : Inv X pins σ' (upd H1 (hp.objs.size + 1) (exo (hp.objs.size + 1) C none)) ⟨(hp.push (PySem.W.kdv_tup us)).push (PySem.HandSPX.excO C hp.objs.size), g, dr, tk, os⟩ :=
    I1.laid (t' := tk) (a := hp.objs.size + 1) (o := exo (hp.objs.size + 1) C none) (h' := (hp.push (PySem.W.kdv_tup us)).push (PySem.HandSPX.excO C hp.objs.size)) kk (Nat.le_succ _) (exo_ok hget)
  have r2 : Vals [V.ref (hp.objs.size + 1), v] (Value.ref (hp.objs.size + 1) :: us) := .cons rfl r1
  have hq : spExI C f [V.ref (hp.objs.size + 1), v] (upd H1 (hp.objs.size + 1) (exo (hp.objs.size + 1) C none)) (fun v' H2 => v' = .non ∧ ∃ (d : Addr) (fs : List (Str × V)), H2 (hp.objs.size + 1) = some (exo (hp.objs.size + 1) C (some d)) ∧ H2 d = some (exd d fs) ∧ H1 d = none ∧ Q (.ref C) (some d) (upd (del H2 (hp.objs.size + 1)) d (.xd fs))) E0 := by
    refine ⟨_, v, H1, rfl, hn, Same.new hn, upd_same, fun dx H3 s3 nd ne x3 d3 => ⟨rfl, dx, _, x3, d3, nd, q dx _ (fun b o eb => ?_) upd_same⟩⟩
    have eb1 := s1' _ _ eb
    rw [upd_ne (ne_of_none eb1 nd), del_ne (ne_of_none eb1 hn)]
    exact s3 _ _ eb1
  have hl : (Value.ref (hp.objs.size + 1) :: us).length = ps.length := by
    rw [← r2.length]
    exact F1.len _ _ _ _ hq
  have hus : us.length ≤ sizeLine := by
    rw [← Paired.length r1, sizeLine_eq]
    simp
  have bnd := hb ⟨(hp.push (PySem.W.kdv_tup us)).push (PySem.HandSPX.excO C hp.objs.size), g, dr, tk, os⟩ (Value.ref (hp.objs.size + 1) :: us) I2.kIn (by rw [List.append_nil]; exact hl)
  rw [List.append_nil] at bnd
  refine wpAny_call (PySem.HandSPX.call_own PySem.F.excBase_LookupError hT hC (PySem.W.looks_findIn I1.kIn iC) (fun self => PySem.W.bind_fn I1.kIn self tI) hus
    (codeAny_mono (F1.run _ X.stack _ _ ⟨Value.ref (hp.objs.size + 1) :: us, []⟩ (Value.ref (hp.objs.size + 1) :: us) _ _ E0 (hr.make C us []) (I2.env0.make C us []) bnd r2 hq) fun r s' hq' => ?_))
  cases r with
  | error er => exact (passL (X := X) pins σ' _ _ er s' I2 hq' : _)
  | ok fl =>
    cases fl with
    | ret u =>
      obtain ⟨v', H2, os2, bare2, un2, hok2, rv, ev, d, fs, ea, ed, hd1, q2⟩ := hq'
      subst ev
      obtain ⟨h2, g2, d2, t2, os'⟩ := s'
      exact ⟨rv, mk_end (raises_own c.le.exC c.le.tyC) I1 (Nat.le_succ _) kk un2 hok2 os2 bare2 ea ed hd1 q2⟩
    | next => exact False.elim hq'
    | brk => exact False.elim hq'
    | cont => exact False.elim hq'
/-- raise C(e) in a def that may raise -/
theorem s_raise {W : WX} (c : Xc X.prog X.w X.K X.mg X.base lv n C f) (hr : Room (lv + 1) X.A) (tk : Takes X W) (he : DV X e σ H v) (q : ∀ d H2, Same H H2 → H2 d = some (.xd [(f, v)]) → W (.ref C) (some d) σ H2) (hc : X.calm = true) (hg : Gl X n := by rfl) (hdb : (n == ("__debug__" : Str)) = false := by decide)
    (hst : starEach [e] X.env = (false, eval e X.env) :: starEach [] X.env := by rfl) (hpl : (backTo pos (starEach [] X.env)).any (·.1) = false := by rfl) :
    WS X (.Raise (some (.Call (.Name n p1) [e] [] pos)) none pos2) DD σ H :=
  ws_of (ps_raise hc tk (pmk_le c hr he hg hdb hst hpl)) ⟨rfl, rfl, q⟩
end
end Sx

/-! Ex3: what raises. -/
namespace Sx
open PySem PySem.Spec PyProof.Rows L2
/-- the reading of e never comes to a value: it raises, and the context takes it -/
def DX (X : Cx) (e : Expr) (σ : L2.St) (H : Hp) : Prop := ∀ H1, Same H H1 → ∀ Q : VK, W X e σ H1 Q
section
variable {X : Cx} {e a o : Expr} {es : List Expr} {σ : L2.St} {H : Hp} {DD : Ends} {Wx : WX} {n m : Str} {p2 pos : Pos} {vs : List V} {lv i : Nat} {sp : Sp}
theorem DX.at {H1 : Hp} (h : DX X e σ H) (s : Same H H1) : DX X e σ H1 := fun H2 s2 Q => h H2 (s.trans s2) Q
/-- a call of a module's def that raises -/
theorem dx_cal (c : Cal X.prog X.w X.K X.mg X.base lv n sp) (hr : Room lv X.A) (tk : Takes X Wx) (ha : DA X (e :: es) σ H vs) (hs : ∀ H1, Same H H1 → ∀ Q : VK, sp vs H1 Q (WE Wx σ)) (hg : Gl X n := by rfl) (hdb : (n == ("__debug__" : Str)) = false := by decide)
    (he : starEach (e :: es) X.env = (false, eval e X.env) :: starEach es X.env := by rfl) (hpl : (backTo pos (starEach es X.env)).any (·.1) = false := by rfl) : DX X (.Call (.Name n p2) (e :: es) [] pos) σ H := by
  obtain ⟨f, fd, ps, F, h1, h2, h3⟩ := c.ex
  exact fun H1 s1 Q => w_of (pe_callS (E := WE Wx) F hr hg h1 h2 h3 (fun σ' => passAt tk σ') pa_w hdb he hpl) (ha H1 s1 _ fun H2 s2 => hs H2 (s1.trans s2) Q)
/-- C(e, ..) that raises -/
theorem dx_mak {C : Addr} {E : XK} (c : Mak X.prog X.w X.K X.mg X.base lv n C sp) (hr : Room (lv + 1) X.A) (tk : Takes X Wx) (hW : ∀ cls d σ' H', E cls d H' → Wx cls d σ' H') (ha : DA X (e :: es) σ H vs)
    (hs : ∀ H1, Same H H1 → ∀ x dx, H1 x = none → H1 dx = none → dx ≠ x → ∀ Q : VK, sp (.ref x :: vs) (upd (upd H1 dx (.own x)) x (.ins C dx [])) Q E)
    (hg : Gl X n := by rfl) (hdb : (n == ("__debug__" : Str)) = false := by decide)
    (he : starEach (e :: es) X.env = (false, eval e X.env) :: starEach es X.env := by rfl) (hpl : (backTo pos (starEach es X.env)).any (·.1) = false := by rfl) : DX X (.Call (.Name n p2) (e :: es) [] pos) σ H := by
  obtain ⟨f, fd, ps, F, h1, h2, h3⟩ := c.ex
  refine fun H1 s1 Q => w_of (pe_make h2 F hr hg h1 h3 .nil (passes_call tk hW) pa_w hdb he hpl) (ha H1 s1 _ fun H2 s2 => fun x dx nx nd ne => ?_)
  rw [List.append_nil]
  exact hs H2 (s1.trans s2) x dx nx nd ne _
theorem sx_set (h : DX X e σ H) (hN : X.N.Nodup) (hi : X.N[i]? = some n := by rfl) (hx : Loc X.env.scope n := by first | exact Or.inl rfl | exact Or.inr rfl) (hs : swapsWith e (some (.Name n p2)) pos.line X.env = pure false := by rfl)
    (hf : X.fn n = true ∨ X.env.scope.names.lookup n = some .local := by first | exact .inl rfl | exact .inr rfl) : WS X (.Assign [.Name n p2] e pos) DD σ H := ws_of (ps_set hN hi hx pe_w hs hf) (h H (Same.refl _) _)
theorem sx_ret (h : DX X e σ H) : WS X (.Return (some e) pos) DD σ H := ws_of (ps_ret pe_w) (h H (Same.refl _) _)
theorem sx_expr (h : DX X e σ H) (hs : swapsWith e none pos.line X.env = pure false := by rfl) : WS X (.Expr e pos) DD σ H := ws_of (ps_expr pe_w hs) (h H (Same.refl _) _)
end
section
variable {X : Cx} {x n : Str} {c : Value} {i : Nat} {body suite : List Stmt} {b0 : Stmt} {np pos pos' : Pos} {Wout : WX} {DD : Ends} {σ : L2.St} {H : Hp}
/-- try: body, except x as n: suite -/
theorem s_tryAs (hc : Names X x c) (tk : Takes X Wout) (hN : X.N.Nodup)
    (hb : ∀ (pn : List (Addr × Obj)) (xe : Value → Shared → Prop), Takes (X.tr pn xe) (wAs X.K c i (fun a cls d D σ H => ∀ (oe : Obj) (pn : List (Addr × Obj)), Zc cls d oe → (∃ vs, oe.data = .fields vs) → WB (X.suite a ((a, oe) :: pn)) (b0 :: suite) D σ H) Wout DD) → PassesOwn (model X.prog X.w) X.A X.env xe → WB (X.tr pn xe) body DD σ H)
    (hi : X.N[i]? = some n := by rfl) (hln : X.env.kindOf n = some .local := by rfl) (hs : X.stack = X.env :: X.outer := by rfl) (hf : X.env.frame = some X.env.locals := by rfl) :
    WS X (.Try body [.ExceptHandler (some (.Name x np)) (some n) (b0 :: suite) pos'] [] [] pos) DD σ H := by
  refine ws_of (ps_try_as (i := i) (ts := fun a cls d D σ H => ∀ (oe : Obj) (pn : List (Addr × Obj)), Zc cls d oe → (∃ vs, oe.data = .fields vs) → WB (X.suite a ((a, oe) :: pn)) (b0 :: suite) D σ H)
    (tb := fun Wd D σ H => ∀ (pn : List (Addr × Obj)) (xe : Value → Shared → Prop), Takes (X.tr pn xe) Wd → PassesOwn (model X.prog X.w) X.A X.env xe → WB (X.tr pn xe) body D σ H) hs hf hN hi hln hc tk (fun Wd pn xe t p => ?_) (fun a oe cls d pn z f => ?_)) hb
  · exact ⟨fun pins s σ H D I h => h pn xe t p pins s I⟩
  · exact ⟨fun pins s σ H D I h => h oe pn z f pins s I⟩
end
/-- a field of the exception that a suite holds -/
theorem dv_xf {X : Cx} {a C dd : Addr} {oe : Obj} {pn : List (Addr × Obj)} {e : Expr} {σ : L2.St} {H : Hp} {pos : Pos} {n : Str} {fs : List (Str × V)} {v : V} (T : LEx X.K C) (hno : PySem.W.findIn X.K (.ref C) n = some none) (hz : Zc (.ref C) (some dd) oe) (hf : ∃ vs, oe.data = .fields vs)
    (he : DV (X.suite a ((a, oe) :: pn)) e σ H (.ref a)) (hd : H dd = some (.xd fs)) (hl : fs.lookup n = some v) (hb : attributeBase e n X.env (eval e X.env) = eval e X.env := by rfl) :
    DV (X.suite a ((a, oe) :: pn)) (.Attribute e n pos) σ H v := by
  refine dv_of (pe_xf ⟨T.ga, T.gg, T.exC, T.hd⟩ hno hz hf pe_w hb) fun H1 s1 Q q => ?_
  exact (he.at s1) H1 (Same.refl _) _ fun w H2 s2 ew => ⟨ew, rfl, dd, fs, v, rfl, s2 _ _ (s1 _ _ hd), hl, q H2 s2⟩
end Sx

/-! Lam1: lambdas kept as things: made, stored in a list, called in another def. -/
namespace Sx
open PySem PySem.Spec PyProof.Rows L2 LamX
/-- a lambda's text: parameters, body, scope; the names and values of its defaults -/
structure Lm where
  params : Arguments
  body : Expr
  scope : Scope
  ns : List Str
  dvs : List V
/-- the function object of a lambda -/
def LamO (f : Addr) (q : Str) (l : Lm) (clos : List (Str × Addr)) (dV : Value) (c' : Addr) : HO :=
  .ext fun h => ∃ doc pm ctv : Value, h.get? f = some (PySem.W.kdv_obj "<lambda>" q l.params (.expr l.body) l.scope clos dV doc pm c' ctv)
/-- what is known of a lambda of the maker X -/
structure LamK (X : Cx) (H : Hp) (f : Addr) (l : Lm) : Prop where
  ex : ∃ (dV : Value) (c' : Addr), H f = some (LamO f (X.env.qual ++ "<lambda>") l (cloFrom X.env.cells l.scope.names []) dV c') ∧ H c' = some (CodeO c' (X.env.qual ++ "<lambda>")) ∧ ((l.dvs = [] ∧ dV = .none) ∨ (l.dvs ≠ [] ∧ ∃ T, dV = .ref T ∧ H T = some (.tup l.dvs)))
theorem LamK.ext {X : Cx} {H H' : Hp} {f : Addr} {l : Lm} (k : LamK X H f l) (e : ExtN H H') : LamK X H' f l := by
  obtain ⟨dV, c', h1, h2, h3⟩ := k.ex
  refine ⟨dV, c', e _ _ h1 (fun ps z => by unfold LamO at z; cases z), e _ _ h2 codeO_ne, ?_⟩
  rcases h3 with h3 | ⟨h3, T, h4, h5⟩
  · exact .inl h3
  · exact .inr ⟨h3, T, h4, e _ _ h5 (fun ps z => by cases z)⟩
theorem LamK.same {X : Cx} {H H' : Hp} {f : Addr} {l : Lm} (k : LamK X H f l) (e : Same H H') : LamK X H' f l := k.ext (ExtN.of e)
/-- the lambda's names: captured, global, or its own parameters, that the maker does not name -/
structure LamN (N : List Str) (sc scope : Scope) : Prop where
  kind : scope.kind = .function
  co : scope.isCoroutine = false
  gen : scope.isGenerator = false
  own : ∀ y ∈ scope.names, y.2 ≠ .cell ∧ (y.2 = .local → y.1 ∉ N)
  free : ∀ y ∈ scope.names, y.2 = .free → sc.names.lookup y.1 = some .cell ∨ sc.names.lookup y.1 = some .free
def lamNB (N : List Str) (sc scope : Scope) : Bool :=
  decide (scope.kind = .function) && !scope.isCoroutine && !scope.isGenerator && scope.names.all fun y => !decide (y.2 = .cell) && (!decide (y.2 = .local) || !decide (y.1 ∈ N)) && (!decide (y.2 = .free) || decide (sc.names.lookup y.1 = some .cell) || decide (sc.names.lookup y.1 = some .free))
theorem lamN_by {N : List Str} {sc scope : Scope} (h : lamNB N sc scope = true) : LamN N sc scope := by
  unfold lamNB at h
  simp only [Bool.and_eq_true, Bool.or_eq_true, Bool.not_eq_true', decide_eq_true_eq, decide_eq_false_iff_not, List.all_eq_true] at h
  obtain ⟨⟨⟨h1, h2⟩, h3⟩, h4⟩ := h
  refine ⟨h1, h2, h3, fun y hy => ⟨(h4 y hy).1.1, fun e z => ?_⟩, fun y hy e => ?_⟩
  · rcases (h4 y hy).1.2 with q | q
    · exact q e
    · exact q z
  · rcases (h4 y hy).2 with (z | z) | z
    · exact absurd e z
    · exact .inl z
    · exact .inr z
theorem LamN.has {X : Cx} {N : List Str} {scope : Scope} (L : LamN N X.env.scope scope) (ok : X.Ok) : ∀ y ∈ scope.names, y.2 = .free → ∃ c, X.env.cells.lookup y.1 = some c := fun y hy e => by
  rcases L.free y hy e with k | k
  · exact ok.has _ (.inl k)
  · exact ok.has _ (.inr k)
/-- what the defaults bind -/
def BindL (l : Lm) : Prop := (l.dvs = [] → ∀ (q : Str) (cl : List (Str × Addr)) (doc pm cv ctv : Value), bindArgs (PySem.W.kdv_fn "<lambda>" q l.params (.expr l.body) l.scope cl .none doc pm cv ctv) ⟨[], []⟩ = pure []) ∧
  (l.dvs ≠ [] → ∀ (q : Str) (cl : List (Str × Addr)) (doc pm cv ctv : Value) (T : Addr) (its : List Value), its.length = l.dvs.length → ∃ k, bindArgs (PySem.W.kdv_fn "<lambda>" q l.params (.expr l.body) l.scope cl (.ref T) doc pm cv ctv) ⟨[], []⟩ = seqItems? (.ref T) >>= k ∧ k (some its.toArray) = pure (l.ns.zip its))
section
variable {X : Cx} {pins : List (Addr × Obj)} {σ : L2.St} {H : Hp} {s : Shared}
/-- the lambda is made -/
theorem lam_tail {T : List (Addr × Str)} {c P : Addr} {l : Lm} {dV : Value} {pos : Pos} {E : Value → Shared → Prop} {Q : Value → Shared → Prop} (I : Inv X pins σ H s) (TB : TabB X.base X.mg c P) (hcode : X.env.code = .ref c)
    (hm : (P, X.env.qual ++ "<lambda>") ∈ T) (hu : ∀ p ∈ T, p.1 = P → p.2 = X.env.qual ++ "<lambda>") (hT : Tabs T H) (hfree : ∀ y ∈ l.scope.names, y.2 = .free → ∃ c, X.env.cells.lookup y.1 = some c)
    (h : ∀ (f c' : Addr) (H1 : Hp) (s' : Shared), Inv X pins σ H1 s' → ExtN H H1 → Tabs T H1 → H f = none → H1 f = some (LamO f (X.env.qual ++ "<lambda>") l (cloFrom X.env.cells l.scope.names []) dV c') → H1 c' = some (CodeO c' (X.env.qual ++ "<lambda>")) → Q (.ref f) s') :
    wpAny (model X.prog X.w) X.A (makeTail "<lambda>" (X.env.qual ++ "<lambda>") l.params (.expr l.body) l.scope X.env dV .none none pos pos.line) Q E s := by
  obtain ⟨ps, hP, ht, ha⟩ := hT _ hm
  have bP : s.heap.BuiltinsAt X.mg P := TB.bm.keeps I.bk
  have hP' : s.heap.get? P = some { cls := .none, data := .fields ps } := I.hok P _ hP
  have lo : ∀ (f : Addr) (c' : Addr) (h : Heap) (H : Hp) (doc pm ctv : Value), h.get? f = some (PySem.W.kdv_obj "<lambda>" (X.env.qual ++ "<lambda>") l.params (.expr l.body) l.scope (cloFrom X.env.cells l.scope.names []) dV doc pm c' ctv) → ObjOk X.prog X.w H h f (LamO f (X.env.qual ++ "<lambda>") l (cloFrom X.env.cells l.scope.names []) dV c') :=
    fun f c' h H doc pm ctv e => ⟨⟨doc, pm, ctv, e⟩, ⟨_, e⟩, fun h1 h2 ⟨d, p, t, e⟩ st => ⟨d, p, t, st _ e⟩⟩
  have nt : ∀ (f c' : Addr) (ps : Array Value), LamO f (X.env.qual ++ "<lambda>") l (cloFrom X.env.cells l.scope.names []) dV c' ≠ .tbl ps := fun f c' ps z => by
    unfold LamO at z
    cases z
  cases hc : codeAmong pos ps.toList with
  | none =>
    refine PySem.W.kdv_makeTail (mg := X.mg) (c := c) (P := P) (ps := ps) (closure_ok hfree) I.ok.glob (I.mod.glob.keeps I.bk) hcode (TB.code.keeps I.bk) hP' ht hc TB.gP bP fun c' ctv doc h' tk hx hge hlt hrec htb => ?_
    obtain ⟨c2, oc, vs, t, e2, hoc, hd, hv⟩ := hrec
    cases e2
    have hsz : s.heap.objs.size ≤ h'.objs.size := Nat.le_trans hge (Nat.le_of_lt hlt)
    have nC : H c' = none := I.hok.fresh hge
    have I0 := inv_table (t' := tk) (more := #[rawInt pos.line, rawInt pos.col, .ref c']) (h' := h') I hP (fun b o hb e => hx b o hb e) htb hge ⟨oc, vs, t, hoc, hd, hv⟩
    have hE : ExtN H (upd (upd H P (.tbl (ps ++ #[rawInt pos.line, rawInt pos.col, .ref c']))) c' (CodeO c' (X.env.qual ++ "<lambda>"))) := fun b o e n => by
      rw [upd_ne (ne_of_none e nC), upd_ne (fun z => n ps (Option.some.inj (e.symm.trans (by rw [z]; exact hP))))]
      exact e
    have eL : (ps ++ #[rawInt pos.line, rawInt pos.col, .ref c']).toList = ps.toList ++ [rawInt pos.line, rawInt pos.col, .ref c'] := by simp
    have T1 : Tabs T (upd (upd H P (.tbl (ps ++ #[rawInt pos.line, rawInt pos.col, .ref c']))) c' (CodeO c' (X.env.qual ++ "<lambda>"))) := fun p hp => by
      by_cases hb : p.1 = P
      · rw [hu p hp hb, hb]
        refine ⟨_, by rw [upd_ne (ne_of_none hP nC), upd_same], by rw [eL]; exact PySem.TriplesOk_snoc _ _ _ _ ht, fun p' cv hcv => ?_⟩
        rw [eL] at hcv
        rcases among_app _ ht hcv with z | z
        · obtain ⟨c0, e1, e2⟩ := ha p' cv z
          exact ⟨c0, e1, hE _ _ e2 codeO_ne⟩
        · exact ⟨c', z, upd_same⟩
      · obtain ⟨ps', a1, a2, a3⟩ := hT p hp
        refine ⟨ps', by rw [upd_ne (ne_of_none a1 nC), upd_ne hb]; exact a1, a2, fun p' cv hcv => ?_⟩
        obtain ⟨c0, e1, e2⟩ := a3 p' cv hcv
        exact ⟨c0, e1, hE _ _ e2 codeO_ne⟩
    have I1 := I0.laid (t' := tk) (a := h'.objs.size) (h' := h'.push (PySem.W.kdv_obj "<lambda>" (X.env.qual ++ "<lambda>") l.params (.expr l.body) l.scope (cloFrom X.env.cells l.scope.names []) dV doc ((X.mg "__name__").getD .none) c' ctv)) (fun b o e => Heap.get?_push_of_some _ e) (Nat.le_refl _) (lo _ c' _ _ _ _ _ (Heap.get?_push_size _ rfl))
    have n1 : h'.objs.size ≠ c' := Nat.ne_of_gt hlt
    have n2 : h'.objs.size ≠ P := Nat.ne_of_gt (Nat.lt_of_lt_of_le (Heap.lt_size hP') hsz)
    have nF : H h'.objs.size = none := I.hok.fresh hsz
    have nF1 : (upd (upd H P (.tbl (ps ++ #[rawInt pos.line, rawInt pos.col, .ref c']))) c' (CodeO c' (X.env.qual ++ "<lambda>"))) h'.objs.size = none := by rw [upd_ne n1, upd_ne n2]; exact nF
    refine h _ c' _ _ I1 (hE.trans (ExtN.of (Same.new nF1))) (T1.ext (Same.new nF1)) nF upd_same ?_
    rw [upd_ne (Ne.symm n1), upd_same]
  | some cv =>
    obtain ⟨c', e, hco⟩ := ha pos cv hc
    subst e
    refine PySem.W.kdv_makeTailHit (mg := X.mg) (c := c) (P := P) (ps := ps) (closure_ok hfree) I.ok.glob (I.mod.glob.keeps I.bk) hcode (TB.code.keeps I.bk) hP' ht hc bP fun ctv doc h' tk hx hsz => ?_
    have I1 := I.laid (t' := tk) (a := h'.objs.size) (h' := h'.push (PySem.W.kdv_obj "<lambda>" (X.env.qual ++ "<lambda>") l.params (.expr l.body) l.scope (cloFrom X.env.cells l.scope.names []) dV doc ((X.mg "__name__").getD .none) c' ctv)) (fun b o e => Heap.get?_push_of_some _ (hx b o e)) hsz (lo _ c' _ _ _ _ _ (Heap.get?_push_size _ rfl))
    have nF : H h'.objs.size = none := I.hok.fresh hsz
    exact h _ c' _ _ I1 (ExtN.of (Same.new nF)) (hT.ext (Same.new nF)) nF upd_same (Same.new nF _ _ hco)
end
section
variable {X : Cx} {σ : L2.St} {H : Hp} {Q : VK} {params : Arguments} {body : Expr} {scope : Scope} {pos : Pos} {T : List (Addr × Str)} {c P : Addr}
/-- lambda: body -/
theorem w_lam (TB : TabB X.base X.mg c P) (hcode : X.env.code = .ref c) (hm : (P, X.env.qual ++ "<lambda>") ∈ T) (hu : ∀ p ∈ T, p.1 = P → p.2 = X.env.qual ++ "<lambda>") (L : LamN X.N X.env.scope scope) (hT : Tabs T H)
    (q : ∀ f H1, ExtN H H1 → Tabs T H1 → LamK X H1 f ⟨params, body, scope, [], []⟩ → Q (.ref f) H1) (hdef : defaultsOf params X.env = ([], []) := by rfl) : W X (.Lambda params body scope pos) σ H Q := by
  intro pins s I
  refine PySem.W.kla_eval hdef ?_
  rw [makeFunction_eq]
  simp only [List.zip_nil_right, List.filterMap_nil, List.isEmpty_nil, if_true, pure_bind]
  exact lam_tail (l := ⟨params, body, scope, [], []⟩) I TB hcode hm hu hT (L.has I.ok) fun f c' H1 s' I1 e1 t1 _ hf hc => ⟨.ref f, H1, I1, rfl, q f H1 e1 t1 ⟨_, c', hf, hc, .inl ⟨rfl, rfl⟩⟩⟩
/-- lambda by=d: body -/
theorem w_lamD {d : Expr} {v : V} {n : Str} (TB : TabB X.base X.mg c P) (hcode : X.env.code = .ref c) (hm : (P, X.env.qual ++ "<lambda>") ∈ T) (hu : ∀ p ∈ T, p.1 = P → p.2 = X.env.qual ++ "<lambda>") (L : LamN X.N X.env.scope scope) (hT : Tabs T H)
    (hd : DV X d σ H v) (q : ∀ f H1, ExtN H H1 → Tabs T H1 → LamK X H1 f ⟨params, body, scope, [n], [v]⟩ → Q (.ref f) H1) (hdef : params.defaults = [d] := by rfl) (hk0 : params.kw_defaults = [] := by rfl) : W X (.Lambda params body scope pos) σ H Q := by
  intro pins s I
  refine PySem.W.kdv_lam (by rw [hdef] <;> rfl) hk0 ?_
  rw [hdef]
  refine PySem.W.kdv_all1 (thn (hd H (Same.refl _) (fun y H' => y = v ∧ Same H H') (fun w H2 s2 ew => ⟨ew, s2⟩) pins s I) fun u s1 ⟨y, H1, I1, r1, ey, s1'⟩ => PySem.W.kdv_all0 ?_)
  subst ey
  rw [makeFunction_eq]
  simp only [List.zip_nil_right, List.filterMap_nil, List.isEmpty_nil, List.isEmpty_cons, Bool.false_eq_true, if_false, if_true, pure_bind]
  refine wpAny_bind (wpAny_newTextTuple ?_)
  have nT : H1 s1.heap.objs.size = none := I1.hok.fresh (Nat.le_refl _)
  have I2 : Inv X pins σ (upd H1 s1.heap.objs.size (.tup [y])) { s1 with heap := s1.heap.push { cls := .type "tuple", data := .seq [u].toArray }, toks := s1.toks } :=
    I1.laid (t' := s1.toks) (fun b o e => Heap.get?_push_of_some _ e) (Nat.le_refl _) ⟨by rw [sizeLine_eq]; simp, [u], .cons r1 .nil, _, Heap.get?_push_size _ rfl, ⟨rfl, 0, rfl⟩⟩
  have s2 : Same H1 (upd H1 s1.heap.objs.size (.tup [y])) := Same.new nT
  refine lam_tail (l := ⟨params, body, scope, [n], [y]⟩) I2 TB hcode hm hu ((hT.ext s1').ext s2) (L.has I2.ok) fun f c' H3 s' I3 e3 t3 _ hf hc => ⟨.ref f, H3, I3, rfl, q f H3 ((ExtN.of (s1'.trans s2)).trans e3) t3 ⟨_, c', hf, hc, .inr ⟨by simp, _, rfl, e3 _ _ upd_same (fun ps z => by cases z)⟩⟩⟩
end
end Sx

/-! Lam2: a lambda called. -/
namespace Sx
open PySem PySem.Spec PyProof.Rows L2 LamX
theorem Un.exW {fs ex : List Addr} {H H' : Hp} {h h' : Heap} (u : Un fs [] H H' h h') : Un fs ex H H' h h' :=
  ⟨fun b o a n c _ => u.keep b o a n c (by simp), fun b o a n c _ => u.slot b o a n c (by simp), fun b o a n _ => u.free b o a n (by simp), fun b o a _ => u.there b o a (by simp), u.tups, u.frzs, u.tbls⟩
/-- a state of the maker's, and what has been kept of it since -/
structure Snap (X : Cx) (σ : L2.St) (sm : Shared) (Hm : Hp) (s : Shared) (H : Hp) : Prop where
  ex : ∃ (pins : List (Addr × Obj)) (ex : List Addr), Inv X pins σ Hm sm ∧ (∀ x c, X.env.cells.lookup x = some c → c ∉ ex) ∧ Un (frs X.stack) ex Hm H sm.heap s.heap
theorem Snap.start {X : Cx} {σ : L2.St} {pins : List (Addr × Obj)} {s : Shared} {H : Hp} (I : Inv X pins σ H s) : Snap X σ s H s H := ⟨⟨pins, [], I, fun _ _ _ z => by simp at z, Un.kept fun _ _ e => e⟩⟩
theorem Snap.un {X : Cx} {σ : L2.St} {sm s s' : Shared} {Hm H H' : Hp} (k : Snap X σ sm Hm s H) (u : Un (frs X.stack) [] H H' s.heap s'.heap) : Snap X σ sm Hm s' H' := by
  obtain ⟨pins, ex, I, h1, h2⟩ := k.ex
  exact ⟨⟨pins, ex, I, h1, h2.trans (Un.exW u)⟩⟩
/-- into a context that was entered since -/
theorem Snap.inv {X Y : Cx} {σ σY : L2.St} {sm sY : Shared} {Hm HY : Hp} {pY : List (Addr × Obj)} (k : Snap X σ sm Hm Y.s_0 Y.H_0) (I : Inv Y pY σY HY sY) (hf : Y.fs = frs X.stack := by rfl) (hx : Y.ex = [] := by rfl) : Snap X σ sm Hm sY HY := by
  refine k.un ?_
  have u := I.base
  rw [hf, hx] at u
  exact u
/-- the context of the lambda's body -/
def lamC (X : Cx) (CXo : CXT) (A : Around) (outer : List Env) (s : Shared) (H : Hp) (E : XK) (scope : Scope) (f c' : Addr) : Cx where
  prog := X.prog
  w := X.w
  K := X.K
  mg := X.mg
  base := X.base
  A := A.deeper (lamEnv X scope s.heap.objs.size f c')
  N := X.N
  s_0 := s
  H_0 := H
  env := lamEnv X scope s.heap.objs.size f c'
  outer := outer
  stack := lamEnv X scope s.heap.objs.size f c' :: outer
  ex := []
  fn := fun _ => false
  calm := true
  pn := []
  xe := fun e s' => wpAny (model X.prog X.w) (A.deeper (lamEnv X scope s.heap.objs.size f c')) (leaving (lamEnv X scope s.heap.objs.size f c') e) (fun _ s'' => CXo outer H s E e s'') (fun e' s'' => CXo outer H s E e' s'') s'
section
variable {X : Cx} {σ : L2.St} {Hm HZ : Hp} {sm s1 : Shared}
theorem lam_start {CXo : CXT} {A : Around} {outer : List Env} {E : XK} {scope : Scope} {f c' : Addr} {h1 : Heap} {tk : Nat} {pins : List (Addr × Obj)} {ex : List Addr} {binds : List (Str × Value)} (I : Inv X pins σ Hm sm) (L : LamN X.N X.env.scope scope) (e0 : Env0 X.prog X.w X.K X.mg X.base A outer s1 HZ) (hd : A.handled = none)
    (hc : ∀ x c, X.env.cells.lookup x = some c → c ∉ ex) (un : Un (frs X.stack) ex Hm HZ sm.heap s1.heap) (hns : h1.Ns s1.heap.objs.size fun y => binds.reverse.lookup y) (kp : ∀ b o, s1.heap.get? b = some o → h1.get? b = some o) :
    Inv (lamC X CXo A outer s1 HZ E scope f c') [] σ HZ { s1 with heap := h1, toks := tk } := by
  have hfree := L.has I.ok
  have cm : ∀ {y c}, (cloFrom X.env.cells scope.names []).lookup y = some c → X.env.cells.lookup y = some c := fun {y c} e => by
    rcases cloFrom_mem (PySem.mem_of_lookup e) with hm | ⟨h1, h2⟩
    · cases hm
    · obtain ⟨c1, hc⟩ := hfree _ h1 rfl
      have hc : X.env.cells.lookup y = some c1 := hc
      have e2 : c = c1 := by
        rw [h2, hc] <;> rfl
      rw [e2]
      exact hc
  have look : ∀ {y}, scope.names.lookup y = some .free → ∃ c, (cloFrom X.env.cells scope.names []).lookup y = some c := fun {y} hl => by
    have hy : (y, NameKind.free) ∈ scope.names := PySem.mem_of_lookup hl
    exact mem_lookup (cloFrom_has (cells := X.env.cells) (acc := []) hy)
  have cellK : ∀ {y : Str} {c : Addr} {v : Option Value}, X.env.cells.lookup y = some c → sm.heap.IsCell c v → h1.IsCell c v := fun {y c v} e ⟨o, ho, hd⟩ => by
    obtain ⟨sl, q⟩ := un.any ho (I.freeC y c e) (hc y c e)
    exact ⟨_, kp _ _ q, hd⟩
  have noA : ∀ b : Addr, b ∉ (lamC X CXo A outer s1 HZ E scope f c').ex := fun b z => absurd (show b ∈ ([] : List Addr) from z) (by simp)
  refine ⟨⟨e0.mod, L.kind, rfl, rfl, Nat.le_refl _, fun y z c e1 e2 => I.ok.inj y z c (cm e1) (cm e2), fun y hy => ?_, fun y c z _ => ?_, fun _ => hd, Around.frames_deeper e0.frames, .inr ⟨rfl, rfl⟩, fun b z => absurd z (noA b), e0.bs, e0.bsz, fun b _ _ => noA b,
      fun b z => absurd z (noA b), e0.funs, e0.frf⟩,
    rfl, e0.bare, Un.kept kp, ⟨_, hns, fun i y v e1 e2 e3 => ?_⟩, fun y c e => ?_, e0.hok.fresh (Nat.le_refl _), fun y c e => ?_, fun q hq => absurd (show q ∈ ([] : List (Addr × Obj)) ++ [] from hq) (by simp), e0.hok.kept kp, I.len⟩
  · have hy : scope.names.lookup y = some .cell ∨ scope.names.lookup y = some .free := hy
    rcases hy with hy | hy
    · exact absurd rfl (L.own _ (PySem.mem_of_lookup hy)).1
    · exact look hy
  · have z : false = true := z
    cases z
  · have e3 : Vis scope y := e3
    rcases e3 with k | k | k
    · exact absurd (List.mem_of_getElem? e1) ((L.own _ (PySem.mem_of_lookup k)).2 rfl)
    · exact absurd rfl (L.own _ (PySem.mem_of_lookup k)).1
    · obtain ⟨m, hn, hl⟩ := I.loc
      have hvis : Vis X.env.scope y := (L.free _ (PySem.mem_of_lookup k) rfl).elim (fun k => .inr (.inl k)) (fun k => .inr (.inr k))
      obtain ⟨w', r, q⟩ := hl i y v e1 e2 hvis
      obtain ⟨c2, h2⟩ := look k
      refine ⟨w', r, .inr ⟨.inr k, c2, h2, ?_⟩⟩
      have c1 := cm h2
      rcases q with ⟨k', _⟩ | ⟨_, c3, e', z⟩
      · have k' : X.env.scope.names.lookup y = some .local := k'
        rcases L.free _ (PySem.mem_of_lookup k) rfl with k2 | k2 <;> rw [show X.env.scope.names.lookup y = _ from k2] at k' <;> cases k'
      · rw [c1] at e'
        cases e'
        exact cellK c1 z
  · obtain ⟨w', z⟩ := I.cell y c (cm e)
    exact ⟨w', cellK (cm e) z⟩
  · obtain ⟨v, o, ho, hd⟩ := I.cell y c (cm e)
    exact un.free c o ho (I.freeC y c (cm e)) (hc y c (cm e))
/-- the lambda called -/
theorem lam_run {CXo : CXT} {l : Lm} {A : Around} {outer : List Env} {Q : VK} {E : XK} {f : Addr} {k : Nat} (Sn : Snap X σ sm Hm s1 HZ) (L : LamN X.N X.env.scope l.scope) (lk : LamK X HZ f l) (hb : BindL l) (hloc : ∀ n ∈ l.ns, l.scope.names.lookup n = some .local) (e0 : Env0 X.prog X.w X.K X.mg X.base A outer s1 HZ) (hr : Room (k + 1) A)
    (hbody : ∀ c', Room k (A.deeper (lamEnv X l.scope s1.heap.objs.size f c')) → W (lamC X CXo A outer s1 HZ E l.scope f c') l.body σ HZ Q) :
    codeAny (model X.prog X.w) A (.call (.ref f) ⟨[], []⟩) (CR CXo outer X.prog X.w HZ s1 Q E) s1 := by
  obtain ⟨pins, ex, I, hc, un⟩ := Sn.ex
  obtain ⟨dV, c', hf, hco, hdv⟩ := lk.ex
  obtain ⟨⟨doc, pm, ctv, of1⟩, _, _⟩ := e0.hok f _ hf
  obtain ⟨⟨oc, vs, t, hoc, hdc, hvc⟩, _, _⟩ := e0.hok c' _ hco
  have hbd : ∃ binds : List (Str × Value), BindsTo s1 (PySem.W.kdv_fn "<lambda>" (X.env.qual ++ "<lambda>") l.params (.expr l.body) l.scope (cloFrom X.env.cells l.scope.names []) dV doc pm (.ref c') ctv) ⟨[], []⟩ binds ∧ ∀ y ∈ binds, l.scope.names.lookup y.1 = some .local := by
    rcases hdv with ⟨h1, rfl⟩ | ⟨h1, T, rfl, hT⟩
    · exact ⟨[], BindsTo.of_eq (hb.1 h1 _ _ _ _ _ _), fun y hy => absurd hy (by simp)⟩
    · obtain ⟨_, its, rv, o, ho, hcl⟩ := e0.hok T _ hT
      obtain ⟨kk, e1, e2⟩ := hb.2 h1 (X.env.qual ++ "<lambda>") (cloFrom X.env.cells l.scope.names []) doc pm (.ref c') ctv T its rv.length.symm
      obtain ⟨_, n, hd⟩ := hcl
      exact ⟨l.ns.zip its, BindsTo.of_defaults rfl ho hd e1 e2, fun y hy => hloc _ (List.of_mem_zip hy).1⟩
  obtain ⟨binds, hbt, hbl⟩ := hbd
  have lim : s1.heap.NoLimit := e0.mod.nolimit.keeps fun b o e => (e0.bs b o e).1
  refine PySem.W.kla_callFunE hr.depth of1 rfl L.co L.gen rfl ⟨c', oc, vs, t, rfl, hoc, hdc, hvc⟩ (hbt _ _ _ _ ?_)
  refine wpAny_newFunctionEnv (fun y hy => (L.own y hy).1) hbl (fun h₁ hns hsb => ⟨lim.fresh _ hsb, ?_⟩) L.kind
  show codeAny _ _ (.expr l.body (lamEnv X l.scope s1.heap.objs.size f c')) _ _
  have kp : ∀ b o, s1.heap.get? b = some o → h₁.get? b = some o := fun b o e => hsb.extBut b o (Nat.ne_of_lt (Heap.lt_size e)) (Heap.get?_push_of_some _ e)
  have J := lam_start (CXo := CXo) (E := E) (f := f) (c' := c') (tk := s1.toks + binds.length) I L e0 hr.hd hc un hns kp
  refine PySem.W.kla_codeExpr (wpAny_mono (hbody c' (hr.deeper _) [] _ J) (fun v s' hq => ?_) fun e s' hq => hq)
  obtain ⟨w', H', J', rv, q⟩ := hq
  exact ⟨w', H', J'.os, J'.bare, J'.base, J'.hok, rv, q⟩
end
section
variable {X Y : Cx} {σ σY : L2.St} {Hm HY : Hp} {sm : Shared} {Wx : WX} {l : Lm} {f : Addr} {k i : Nat} {a : Str} {Q : VK} {p1 p2 : Pos}
/-- a(), a lambda of the maker X, that lets exceptions out -/
theorem w_act (Sn : Snap X σ sm Hm Y.s_0 Y.H_0) (L : LamN X.N X.env.scope l.scope) (lk : LamK X HY f l) (hb : BindL l) (hloc : ∀ n ∈ l.ns, l.scope.names.lookup n = some .local) (tk : Takes Y Wx) (hr : Room (k + 1) Y.A)
    (hσ : σY[i]? = some (some (.ref f)))
    (hbody : ∀ (s : Shared) (c' : Addr), Room k (Y.A.deeper (lamEnv X l.scope s.heap.objs.size f c')) → W (lamC X (L2.CX X.prog X.w) Y.A Y.stack s HY (WE Wx σY) l.scope f c') l.body σ HY Q)
    (eqs : Y.prog = X.prog ∧ Y.w = X.w ∧ Y.K = X.K ∧ Y.mg = X.mg ∧ Y.base = X.base := by exact ⟨rfl, rfl, rfl, rfl, rfl⟩) (hN : Y.N[i]? = some a := by rfl) (hv : Vis Y.env.scope a := by first | exact Or.inl rfl | exact Or.inr (Or.inl rfl) | exact Or.inr (Or.inr rfl)) (hd : (a == ("__debug__" : Str)) = false := by decide) (hcd : (a == ("__classdict__" : Str)) = false := by decide)
    (hf : Y.fs = frs X.stack := by rfl) (hx : Y.ex = [] := by rfl) : W Y (.Call (.Name a p1) [] [] p2) σY HY Q := by
  intro pins s I
  refine wpAny_Call_Name_kw (thn ((pe_var (pos := p1) (i := i) hN hv hd hcd).run pins s σY HY (fun v H1 => v = .ref f ∧ H1 = HY) I ⟨.ref f, hσ, rfl, rfl⟩) fun u s1 ⟨v, H1, I1, r1, ev, eH⟩ => ?_)
  subst ev
  rw [eH] at I1
  obtain rfl : u = Value.ref f := r1
  obtain ⟨dV, c', hfO, _⟩ := lk.ex
  obtain ⟨⟨doc, pm, ctv, of1⟩, _, _⟩ := I1.hok f _ hfO
  refine PySem.W.callWith_F0 ⟨_, _, _, _, of1⟩ ?_
  have e0 := I1.env0
  obtain ⟨q1, q2, q3, q4, q5⟩ := eqs
  have rc := lam_run (CXo := L2.CX X.prog X.w) (E := WE Wx σY) (Sn.inv I1 hf hx) L lk hb hloc (A := Y.A) (outer := Y.stack) (by rw [← q1, ← q2, ← q3, ← q4, ← q5]; exact e0) hr (hbody s1)
  rw [← q1, ← q2] at rc
  refine wpAny_call (codeAny_mono rc fun r s' hq => ?_)
  cases r with
  | error e => exact passAt tk σY pins HY s1 e s' I1 hq
  | ok fl =>
    cases fl with
    | ret u => exact I1.after hq
    | next => exact False.elim hq
    | brk => exact False.elim hq
    | cont => exact False.elim hq
end
end Sx

/-! Lam3: a def called, its promise told of the very state; a list comprehension over a list, its block told of the state at its start. -/
namespace Sx
open PySem PySem.Spec PyProof.Rows L2 LamX
/-- n(e, ..), the def's body read in its own context, entered at the very state -/
theorem d_calS {X : Cx} {e : Expr} {es : List Expr} {σ : L2.St} {H : Hp} {P : V → Hp → Prop} {n qual : Str} {p2 pos : Pos} {vs : List V} {g : Addr} {fd : FuncData} {pa : Arguments} {bd : List Stmt} {sc : Scope} {N ps : List Str} {k : Nat}
    (F : FunD X.K n qual pa bd sc [] [] g fd) (S : FnScope N ps sc) (bdd : ∀ (kV doc pm : Value) (an : Option Addr) (cdv ct : Value) (us : List Value), us.length = ps.length → bindArgs (PySem.W.fnOf n qual pa bd sc .none kV doc pm an cdv ct) ⟨us, []⟩ = pure (ps.zip us))
    (hm : X.mg n = some (.ref g)) (hr : Room (k + 1) X.A) (ha : DA X (e :: es) σ H vs) (hl : vs.length = ps.length)
    (hbody : ∀ (s : Shared) (pins : List (Addr × Obj)) (H1 : Hp) (cdv : Value), Same H H1 → Inv X pins σ H1 s → Room k (X.A.deeper (envOfC qual sc s.heap.objs.size g cdv)) → ∀ Q : VK, (∀ v H2, Same H1 H2 → P v H2 → Q v H2) →
      WB (cxOf CX0 X.prog X.w X.K X.mg X.base N qual sc g cdv X.A X.stack s H1 E0).nox bd { nx := fun _ H' => Q .non H', rt := Q } (start N vs) H1)
    (hg : Gl X n := by rfl) (hdb : (n == ("__debug__" : Str)) = false := by decide) (he : starEach (e :: es) X.env = (false, eval e X.env) :: starEach es X.env := by rfl) (hpl : (backTo pos (starEach es X.env)).any (·.1) = false := by rfl) :
    D X (.Call (.Name n p2) (e :: es) [] pos) σ H P := by
  intro H1 s1 Q q pins s I
  obtain ⟨oc, od, dV, kV, doc, pm, an, cdv, ct, osl, rfl, lk, hcd, hD, hK⟩ := id F.ex
  have edv : dV = .none := by
    rcases hD with ⟨_, z⟩ | ⟨z, _⟩
    · exact z
    · exact absurd rfl z
  subst edv
  refine wpAny_Call_Name_kw (ld_glob I hg hm ?_ hdb)
  refine PySem.W.callWith_K (h₀ := X.base) I.ok.mod.kin F.kp (thn (ha H1 s1 (fun us H2 => us = vs ∧ Same H1 H2) (fun H2 s2 => ⟨rfl, s2⟩) pos pins s I) fun us s' ⟨ws, H2, I2, r, ew, s2⟩ => ⟨I2.kIn, ?_⟩) he hpl
  subst ew
  have bnd := bdd kV doc pm an cdv ct us (by rw [← r.length]; exact hl)
  have rc : codeAny (model X.prog X.w) X.A (.call (.ref g) ⟨us, []⟩) (CR CX0 X.stack X.prog X.w H2 s' (fun v H3 => Q v H3) E0) s' := by
    refine LamX.run_ofS (CX := CX0) (N := N) (ps := ps) (us := us) (vs := ws) lk hcd S hr I2.env0 (BindsTo.of_eq bnd) r hl fun hr' => ⟨_, (pss_w (X := (cxOf CX0 X.prog X.w X.K X.mg X.base N qual sc g cdv X.A X.stack s' H2 E0).nox)).nox, ?_⟩
    exact hbody s' pins H2 cdv (s1.trans s2) I2 hr' _ (fun v H3 s3 p => q v H3 (s2.trans s3) p)
  refine wpAny_call (codeAny_mono rc fun r s2 hq => ?_)
  cases r with
  | error e => exact (show False from hq).elim
  | ok fl =>
    cases fl with
    | ret u => exact I2.after hq
    | next => exact False.elim hq
    | brk => exact False.elim hq
    | cont => exact False.elim hq
section
variable {X : Cx} {σ : L2.St} {H : Hp}
theorem Snap.blk {sb s : Shared} {Hb H1 : Hp} {scope : Scope} {ce : Env} {fp : List Addr} {pins p : List (Addr × Obj)} {σ' : L2.St} (I : Inv X pins σ Hb sb) (hc : ∀ x c, X.env.cells.lookup x = some c → c ∉ fp) (J : Inv (X.blk sb Hb scope ce fp) p σ' H1 s) : Snap X σ sb Hb s H1 :=
  ⟨⟨pins, fp, I, hc, J.base⟩⟩
/-- [elt for n in iter], iter a list; the block is told what the maker's frame was at its start -/
theorem d_lcS {elt iter : Expr} {scope : Scope} {pos px : Pos} {n : Str} {i : Nat} {xs : List V} (Pe : Nat → V → Hp → Prop)
    (hPe : ∀ (t : Nat) (y : V) (H1 H2 : Hp), (∀ b zs, H1 b = some (.tup zs) → H2 b = some (.tup zs)) → Pe t y H1 → Pe t y H2) (hi : DL X iter σ H xs) (hz : xs.length ≤ 1000)
    (he : ∀ (sb : Shared) (Hb : Hp) (C : Addr) (cl : List (Str × Addr)) (fp : List Addr), (∀ (p : List (Addr × Obj)) (σ' : L2.St) (H1 : Hp) (s : Shared), Inv (X.blk sb Hb scope (compEnvC scope cl C X.env) fp) p σ' H1 s → Snap X σ sb Hb s H1) → ∀ (t : Nat) (x : V) (H1 : Hp), xs[t]? = some x → Same H H1 →
      D (X.blk sb Hb scope (compEnvC scope cl C X.env) fp) elt ((wipe σ [i]).set i (some x)) H1 (fun y H2 => Pe t y H2))
    (hc : X.calm = true) (hN : X.N.Nodup) (ok : BlkOk X.N X.env.scope scope [(n, i)] := by exact blkOk_by (by decide +kernel)) (hin : X.N[i]? = some n := by rfl)
    (hx : ∀ (s : Shared) (Hb : Hp) (C : Addr) (cl : List (Str × Addr)) (fp : List Addr), Loc (X.blk s Hb scope (compEnvC scope cl C X.env) fp).env.scope n := by first | exact fun _ _ _ _ _ => Or.inl rfl | exact fun _ _ _ _ _ => Or.inr rfl)
    (hf : ∀ (s : Shared) (Hb : Hp) (C : Addr) (cl : List (Str × Addr)) (fp : List Addr), (X.blk s Hb scope (compEnvC scope cl C X.env) fp).fn n = true ∨ (X.blk s Hb scope (compEnvC scope cl C X.env) fp).env.scope.names.lookup n = some .local := by first | exact fun _ _ _ _ _ => Or.inl rfl | exact fun _ _ _ _ _ => Or.inr rfl)
    (hs : ∀ x, foldedSetIterable iter X.env x = pure x := by intro _; rfl) :
    D X (.ListComp elt [⟨.Name n px, iter, [], 0⟩] scope pos) σ H (fun v H' => ∃ p ys, v = .ref p ∧ H p = none ∧ H' p = some (.lst ys) ∧ ys.length = xs.length ∧ ∀ t y, ys[t]? = some y → Pe t y H') := by
  intro H0 s0 Q q pins s I
  rw [eval_ListComp]
  have hfree : ∀ y ∈ scope.names, y.2 = .free → ∃ c, X.env.cells.lookup y.1 = some c := fun y hy e => by
    rcases ok.free y hy e with k | k
    · exact I.ok.has _ (.inl k)
    · exact I.ok.has _ (.inr k)
  have PIx : PI X (.Name n px) iter (iList X.K (W X iter)) := pi_list pe_w
  refine wpAny_comprehension_free (use := none) rfl hs (closure_ok hfree) ok.kind (fun y hy e => by rw [ok.uniq y hy, e])
    (thn (PIx.run pins s σ H0 (fun J H1 => ∃ a, J = Itl X.K a ∧ SqL X.K H1 a xs ∧ Same H0 H1) I (hi H0 s0 _ fun v H1 s1 ⟨a, ev, ha⟩ => ⟨a, ev, ⟨xs, ha⟩, a, rfl, ha, s1⟩)) fun xv s1 hx1 => thn hx1 fun itv s2 h2 => ?_)
  obtain ⟨it, fp, tn, J, H2, e, I2, T, st2, f2, a, eJ, ha2, s02⟩ := h2
  subst e
  subst eJ
  refine wpAny_newObj_type (newEnv_comp ?_) (by show 0 ≤ sizeLine; decide)
  generalize hD : s2.heap.objs.size = L
  have hDn : H2 L = none := I2.hok.fresh (Nat.le_of_eq hD)
  generalize hs3 : ({ s2 with heap := s2.heap.push { cls := .type "list", data := .seq ([] : List Value).toArray } } : Shared) = s3
  have I3 : Inv X pins σ (upd H2 L (.lst [])) s3 := by
    rw [← hs3]
    refine I2.laid (t' := s2.toks) (fun b o e => Heap.get?_push_of_some _ e) (Nat.le_of_eq hD) ⟨Nat.zero_le _, [], 0, .nil, ?_⟩
    rw [← hD]
    exact Heap.get?_push_size _ rfl
  have h3 : s3.heap = s2.heap.push { cls := .type "list", data := .seq ([] : List Value).toArray } := by rw [← hs3]
  have f3 : ∀ b ∈ fp, FpOk X pins (upd H2 L (.lst [])) b ∧ b < s3.heap.objs.size := fun b hb => by
    obtain ⟨o, e, _⟩ := T.obj _ _ st2 b hb
    have hlt := Heap.lt_size e
    refine ⟨⟨?_, (f2 b hb).2⟩, by rw [h3, Heap.size_push]; exact Nat.lt_succ_of_lt hlt⟩
    rw [upd_ne (by rw [← hD]; exact Nat.ne_of_lt hlt)]
    exact (f2 b hb).1
  have hcf : ∀ x c, X.env.cells.lookup x = some c → c ∉ fp := fun x c e z => (f2 c z).2.2.2.2.1 x c e rfl
  have st3 : tn 0 s3.heap := T.keep _ _ _ st2 fun b _ o e => by rw [h3]; exact Heap.get?_push_of_some _ e
  have I4 := block_start I3 ok hN f3
  have Same2 : Same H2 (upd H2 L (.lst [])) := Same.new hDn
  have pg : PG (X.blk s3 (upd H2 L (.lst [])) scope (compEnvC scope (cellsFrom (s3.heap.objs.size + 1) scope.names (cloFrom X.env.cells scope.names [])) s3.heap.objs.size X.env) fp) (.Name n px) (gName i) := pg_name hN hin (hx _ _ _ _ _) (hf _ _ _ _ _)
  have hel := he s3 (upd H2 L (.lst [])) s3.heap.objs.size (cellsFrom (s3.heap.objs.size + 1) scope.names (cloFrom X.env.cells scope.names [])) fp (fun p σ' H1 s J => Snap.blk I3 hcf J)
  show codeAny _ _ (.compStart (.ListComp elt [⟨.Name n px, iter, [], 0⟩] scope pos) 0 (.ref it) (.ref L) (compEnvC scope (cellsFrom (s3.heap.objs.size + 1) scope.names (cloFrom X.env.cells scope.names [])) s3.heap.objs.size X.env)) (compPost (model X.prog X.w) X.A X.xe none _ (.ref L) s3.heap.objs.size) { s3 with heap := pushCells (s3.heap.push { cls := .type "dict", data := .dict #[] }) scope.names }
  have nfp : ∀ b ∈ fp, (upd H2 L (.lst [])) b = none := fun b hb => (f3 b hb).1.1
  generalize hce : compEnvC scope (cellsFrom (s3.heap.objs.size + 1) scope.names (cloFrom X.env.cells scope.names [])) s3.heap.objs.size X.env = ce at I4 pg hel ⊢
  have cL : ce.locals = s3.heap.objs.size := by subst hce; rfl
  generalize hs4 : ({ s3 with heap := pushCells (s3.heap.push { cls := .type "dict", data := .dict #[] }) scope.names } : Shared) = s4 at I4 ⊢
  have st4 : tn 0 s4.heap := T.keep _ _ _ st3 fun b _ o e => by rw [← hs4]; exact pushCells_keeps _ _ _ _ (Heap.get?_push_of_some _ e)
  have stat : ∀ {σ' : L2.St} {H' : Hp} {s' : Shared}, Inv (X.blk s3 (upd H2 L (.lst [])) scope ce fp) [] σ' H' s' → (∀ b ∈ fp, H' b = none) → ∀ b ∈ fp, FpOk (X.blk s3 (upd H2 L (.lst [])) scope ce fp) [] H' b := fun {σ' H' s'} I' hn b hb =>
    ⟨hn b hb, (I'.ok.exf b hb).1, I'.ok.exfs b hb, .inl hb, fun x c e => (I'.ok.exf b hb).2 x c e, fun p hp => absurd (show p ∈ ([] : List (Addr × Obj)) ++ [] from hp) (by simp)⟩
  have loop : codeAny (model X.prog X.w) X.A (.compLoop (.ListComp elt [⟨.Name n px, iter, [], 0⟩] scope pos) 0 (.ref it) (.ref L) ce) (compPost (model X.prog X.w) X.A X.xe none (EP X pins σ Q) (.ref L) s3.heap.objs.size) s4 := by
    refine compLoop_any (fun m s' => ∃ t H' acc, Inv (X.blk s3 (upd H2 L (.lst [])) scope ce fp) [] (wipe σ [i]) H' s' ∧ tn t s'.heap ∧ (∀ b ∈ fp, H' b = none) ∧ m + t = xs.length ∧ Same H2 H' ∧ H' L = some (.lst acc) ∧ acc.length = t ∧ ∀ j y, acc[j]? = some y → Pe j y H') ?_ xs.length
      ⟨0, _, [], I4, st4, nfp, by omega, Same2, upd_same, rfl, fun j y e => by simp at e⟩
    rintro m s5 ⟨t, H5, acc, I5, st5, n5, em, sa5, hL5, el5, hp5⟩
    have hx5 : SqL X.K H5 a xs := sa5.seq ha2
    by_cases hlt : t < xs.length
    · have go : (Itl X.K a).go t H5 := ⟨xs, xs[t], hx5, by simp [hlt]⟩
      have ti := T.item (X.blk s3 (upd H2 L (.lst [])) scope ce fp) rfl rfl rfl hc t [] s5 _ H5 (fun _ _ => False) I5 (stat I5 n5) st5 go
      refine thnF ti fun r s6 ⟨u, hr, h6⟩ => ?_
      subst hr
      refine thnF h6 fun _ s7 ⟨x, H7, I7, r7, y7, st7, n7⟩ => ?_
      obtain ⟨eH, ye⟩ := y7
      subst eH
      have ex : xs[t]? = some x := ye xs hx5
      have I7' := I7.pinned (stat I7 n7) (T.obj _ _ st7)
      refine thnF (pg.run _ s7 _ H7 x u _ I7' r7 (show gName i x (wipe σ [i]) H7 (fun σ8 H8 => σ8 = (wipe σ [i]).set i (some x) ∧ H8 = H7) from ⟨rfl, rfl⟩)) fun _ s8 ⟨σ8, H8, I8, e8, e8'⟩ => ?_
      subst e8 e8'
      refine thnF ((show wpAny (model X.prog X.w) X.A (forIn ([] : List Expr) true fun c r => if r = true then do let ok ← isTrue c ce (eval c ce); pure (ForInStep.yield ok) else pure (ForInStep.yield r)) (fun b s9 => b = true ∧ s9 = s8) (fun _ _ => False) s8 from by rw [List.forIn_nil]; exact wpAny_pure ⟨rfl, rfl⟩)) fun b s9 ⟨hb, e9⟩ => ?_
      subst hb e9
      simp only [if_true]
      refine thnF (hel t x H8 ex (s0.trans (s02.trans sa5)) H8 (Same.refl _) (fun y H' => Same H8 H' ∧ Pe t y H') (fun y H' s' p => ⟨s', p⟩) _ s9 I8) fun z s10 ⟨yv, H10, I10, r10, sa10, pe10⟩ => ?_
      have hL10 := sa10 _ _ hL5
      refine app_ok (X := X.blk s3 (upd H2 L (.lst [])) scope ce fp) I10 hL10 (by rw [sizeLine_eq]; omega) r10 fun s11 I11 => ?_
      have pin' : ∀ b ∈ fp, ∀ o, s7.heap.get? b = some o → s11.heap.get? b = some o ∧ (upd H10 L (.lst (acc ++ [yv]))) b = none := fun b hb o e =>
        let z := I11.pin (b, o) (List.mem_append_right _ (List.mem_append_right _ (mem_pinsAt hb e)))
        ⟨z.1, z.2.1⟩
      have hl : (wipe σ [i]).length = ((wipe σ [i]).set i (some x)).length := by rw [List.length_set]
      have tupK : ∀ b zs, H8 b = some (.tup zs) → (upd H10 L (.lst (acc ++ [yv]))) b = some (.tup zs) := fun b zs e => by
        rw [upd_ne (ne_of e hL5 (by intro z; cases z))]
        exact sa10 _ _ e
      have tupK2 : ∀ b zs, H10 b = some (.tup zs) → (upd H10 L (.lst (acc ++ [yv]))) b = some (.tup zs) := fun b zs e => by
        rw [upd_ne (ne_of e hL10 (by intro z; cases z))]
        exact e
      refine ⟨m - 1, by omega, t + 1, _, acc ++ [yv], (I11.unpinned (pins := [])).weak hl (fun j v e => ?_), T.keep _ _ _ st7 fun b hb o e => (pin' b hb o e).1, fun b hb => ?_, by omega, (sa5.trans sa10).mut hDn, upd_same, by simp [el5], fun j y e => ?_⟩
      · have hw : (wipe ((wipe σ [i]).set i (some x)) [i])[j]? = some (some v) := by rw [wipe_one]; exact e
        exact (wipe_some hw).1
      · obtain ⟨o, e, _⟩ := T.obj _ _ st7 b hb
        exact (pin' b hb o e).2
      · by_cases hj : j < acc.length
        · rw [List.getElem?_append_left hj] at e
          exact hPe _ _ _ _ tupK (hp5 j y e)
        · rw [List.getElem?_append_right (by omega)] at e
          have e0 : j - acc.length = 0 := by
            by_cases z : j - acc.length = 0
            · exact z
            · rw [List.getElem?_eq_none (by simp; omega)] at e
              cases e
          rw [e0] at e
          have ej : j = t := by omega
          have ey : y = yv := by simpa using e.symm
          rw [ej, ey]
          exact hPe _ _ _ _ tupK2 pe10
    · have et : t = xs.length := by omega
      have stop : (Itl X.K a).stop t H5 := ⟨xs, hx5, by omega⟩
      have td := T.done (X.blk s3 (upd H2 L (.lst [])) scope ce fp) rfl rfl rfl hc t [] s5 _ H5 (fun _ _ => False) I5 (stat I5 n5) st5 stop
      refine thnF td fun r s6 ⟨hr, I6⟩ => ?_
      subst hr
      have I7 : Inv X pins σ H5 s6 := I3.call' (ch := fp) I6.os I6.base I6.hok I6.bare fun b hb => ⟨(f3 b hb).1.2.2.2.1, (f3 b hb).1.2.1, (f3 b hb).1.2.2.2.2.1, (f3 b hb).1.2.2.2.2.2⟩
      have nC : H5 s3.heap.objs.size = none := by
        have z : H5 ce.locals = none := I6.free
        rw [cL] at z
        exact z
      obtain ⟨mm, hn, _⟩ := I6.loc
      have hn : s6.heap.Ns ce.locals mm := hn
      rw [cL] at hn
      obtain ⟨f0, f1, f2', f3', f4, f5⟩ := I3.fpOk (H' := H5) (Nat.le_refl _) nC
      refine ⟨mm, hn, fun h'' sb => ⟨.ref L, H5, I7.turned (t' := s6.toks) (fun b o hb e => (sb.2 b hb).trans e) f0 f1 f3' f4 f5, rfl, q _ _ (s02.trans sa5) ⟨L, acc, rfl, s0.free (s02.free hDn), hL5, by omega, hp5⟩⟩⟩
  exact codeAny_compStart_list loop (T.self X.A 0 _ _ _ st4 loop)
end
end Sx

namespace Sx
open PySem PySem.Spec PyProof.Rows L2
/-- a value is stored in an attribute -/
def gFld (K : PySem.W.Frag) (to : TE) (f : Str) : TG := fun v σ H Q => to σ H fun x H1 => ∃ a C dx fs, x = .ref a ∧ H1 a = some (.ins C dx fs) ∧ Cls K C ∧ NoAttr K C f ∧ fs.length < 1000 ∧ Q σ (upd H1 a (.ins C dx (putF f v fs)))
theorem wp_assignAttr {M : Model} {A : Around} {E : Value → Shared → Prop} {s : Shared} {env : Env} {o : Expr} {attr : Str} {pos : Pos} {u : Value} {Q : Unit → Shared → Prop}
    (h : wpAny M A (eval o env) (fun ov s₂ => wpAny M A (setAttr ov attr u) (fun _ s3 => Q () s3) E s₂) E s) : wpAny M A (assign (.Attribute o attr pos) env u) Q E s := by
  rw [assign_Attribute]
  refine wpAny_bind (wpAny_holding ?_)
  exact thn h fun ov s2 h2 => wpAny_bind (wpAny_standAt (wpAny_bind (wpAny_holding (thn h2 fun _ s3 h3 => wpAny_release h3))))
theorem pg_fld {X : Cx} {o : Expr} {f : Str} {pos : Pos} {to : TE} (ho : PE X o to) : PG X (.Attribute o f pos) (gFld X.K to f) := by
  refine ⟨fun pins s σ H v u Q I r h => ?_⟩
  refine wp_assignAttr (thn (ho.run pins s σ H _ I h) fun ov s2 ⟨x, H2, I2, rx, a, C, dx, fs, ex, ea, c, n, l, q2⟩ => ?_)
  subst ex
  obtain rfl : ov = Value.ref a := rx
  exact setattr_ok I2 ea c n l r fun s3 I3 => ⟨σ, _, I3, q2⟩
section
variable {X : Cx} {e a b c o : Expr} {es : List Expr} {σ : L2.St} {H : Hp} {DD : Ends} {P : V → Hp → Prop} {v x y z : V} {i j k : Nat} {n m f g : Str} {pos p2 p3 po po2 : Pos} {xs : List V}
/-- x.f, x.g = a tuple of two: the next two attributes of the object in slot i -/
theorem s_fnew2 {C dx p : Addr} {names : List Str} {vals : List V} {kt : Nat} {pt : Pos} (i : Nat) (kl : Kl X.K C names) (he : D X e σ H (fun v H' => ∃ p, v = .ref p ∧ SqT X.K H' p [x, y])) (hp : H p = some (obj C dx names vals)) (q : ∀ H', Same H H' → DD.nx σ (upd H' p (obj C dx names (vals ++ [x, y])))) (hc : X.calm = true) (ho : σ[i]? = some (some (.ref p)) := by rfl)
    (hn : names[vals.length]? = some f := by rfl) (hn2 : names[vals.length + 1]? = some g := by rfl) (hN : X.N[i]? = some n := by rfl)
    (hs : swapsWithSole [.Tuple [.Attribute (.Name n po) f p2, .Attribute (.Name n po2) g p3] kt pt] e pos.line X.env = pure false := by rfl) (hw : swappedStores [.Tuple [.Attribute (.Name n po) f p2, .Attribute (.Name n po2) g p3] kt pt] e X.env = pure none := by rfl)
    (h1 : (assignEach [.Tuple [.Attribute (.Name n po) f p2, .Attribute (.Name n po2) g p3] kt pt] X.env).map (·.2) = [assign (.Tuple [.Attribute (.Name n po) f p2, .Attribute (.Name n po2) g p3] kt pt) X.env] := by rfl)
    (a1 : (assignEach [.Attribute (.Name n po) f p2, .Attribute (.Name n po2) g p3] X.env).map (·.2) = assign (.Attribute (.Name n po) f p2) X.env :: (assignEach [.Attribute (.Name n po2) g p3] X.env).map (·.2) := by rfl) (a2 : (assignEach [.Attribute (.Name n po2) g p3] X.env).map (·.2) = assign (.Attribute (.Name n po2) g p3) X.env :: (assignEach [] X.env).map (·.2) := by rfl)
    (a3 : (assignEach [.Attribute (.Name n po) f p2, .Attribute (.Name n po2) g p3] X.env).length = 2 := by rfl) (a4 : (assignEach [.Attribute (.Name n po) f p2, .Attribute (.Name n po2) g p3] X.env).findIdx? (·.1) = none := by rfl)
    (hv : Vis X.env.scope n := by first | exact Or.inl rfl | exact Or.inr (Or.inl rfl) | exact Or.inr (Or.inr rfl)) (hd : (n == ("__debug__" : Str)) = false := by decide) (hcd : (n == ("__classdict__" : Str)) = false := by decide) :
    WS X (.Assign [.Tuple [.Attribute (.Name n po) f p2, .Attribute (.Name n po2) g p3] kt pt] e pos) DD σ H :=
  ws_of (ps_asg pe_w (pg_tup hc (pgs_cons (pg_fld (pe_var hN hv hd hcd)) (pgs_cons (pg_fld (pe_var hN hv hd hcd)) pgs_nil a2) a1) a3 a4) hs hw h1) (he H (Same.refl _) _ fun v H2 s2 ⟨t, ev, ht⟩ => ⟨t, [x, y], ev, ht, rfl, x, [y], rfl, _, ho, p, C, dx, names.zip vals, rfl, s2 _ _ hp, kl.cl, kl.at hn, by
    rw [List.length_zip]
    exact fsz kl.few, y, [], rfl, _, ho, p, C, dx, putF f x (names.zip vals), rfl, upd_same, kl.cl, kl.at hn2, by
    rw [putF_new kl.nd hn, List.length_zip]
    exact fsz kl.few, rfl, by
    rw [upd_upd, putF_new kl.nd hn, putF_new kl.nd (by rw [List.length_append]; exact hn2), List.append_assoc]
    exact q H2 s2⟩)
/-- x.f op= e, of the object in slot i -/
theorem s_faug {op : Operator} {rd : V → V → Hp → VK → Prop} {C dx p : Addr} {names : List Str} {vals : List V} (i j : Nat) (kl : Kl X.K C names) (hop : InOp X op rd) (he : DV X e σ H y) (hp : H p = some (obj C dx names vals)) (hj : vals[j]? = some x) (hr : ∀ H' (Q : VK), Q z H' → rd x y H' Q)
    (q : ∀ H', Same H H' → DD.nx σ (upd H' p (obj C dx names (vals.set j z)))) (ho : σ[i]? = some (some (.ref p)) := by rfl)
    (hn : names[j]? = some f := by rfl) (hN : X.N[i]? = some n := by rfl)
    (hv : Vis X.env.scope n := by first | exact Or.inl rfl | exact Or.inr (Or.inl rfl) | exact Or.inr (Or.inr rfl)) (hd : (n == ("__debug__" : Str)) = false := by decide) (hcd : (n == ("__classdict__" : Str)) = false := by decide) :
    WS X (.AugAssign (.Attribute (.Name n po) f p2) op e pos) DD σ H :=
  ws_of (ps_fldaug (pe_var hN hv hd hcd) pe_w hop) ⟨_, ho, p, C, dx, names.zip vals, x, rfl, hp, kl.cl, kl.at hn, lookup_zip kl.nd hn hj, he.run (Same.refl _) fun H2 s2 => hr H2 _ ⟨dx, names.zip vals, s2 _ _ hp, by
    rw [List.length_zip]
    exact fsz kl.few, by
    rw [putF_old kl.nd hn (by have := List.getElem?_eq_some_iff.mp hj; exact this.1)]
    exact q H2 s2⟩⟩
def rMulW : V → V → Hp → VK → Prop := fun x y H Q => ∃ i j, x = .int i ∧ y = .int j ∧ CMul i j ∧ Q (.int (i * j)) H
theorem in_mul : InOp X .Mult rMulW := by
  rintro pins s σ H x y u v Q I rx ry ⟨i, j, rfl, rfl, hc, q⟩
  obtain ⟨t, rfl⟩ := (show ∃ t, u = Value.int i t from rx)
  obtain ⟨t', rfl⟩ := (show ∃ t', v = Value.int j t' from ry)
  exact PyProof.Rows.imul_int ⟨.int (i * j), H, I.tok _, ⟨_, rfl⟩, q⟩ hc.ok
/-- x, y, z = a tuple of three -/
theorem s_unp3 {w : V} {l : Str} {px py pz pt : Pos} {kt : Nat} (h : D X e σ H (fun v H' => ∃ p, v = .ref p ∧ SqT X.K H' p [x, y, w])) (q : ∀ H', Same H H' → DD.nx (((σ.set i (some x)).set j (some y)).set k (some w)) H') (hc : X.calm = true) (hN : X.N.Nodup) (hi : X.N[i]? = some n := by rfl) (hj : X.N[j]? = some m := by rfl) (hk : X.N[k]? = some l := by rfl)
    (hx : Loc X.env.scope n := by first | exact Or.inl rfl | exact Or.inr rfl) (hy : Loc X.env.scope m := by first | exact Or.inl rfl | exact Or.inr rfl) (hz : Loc X.env.scope l := by first | exact Or.inl rfl | exact Or.inr rfl)
    (hf : X.fn n = true ∨ X.env.scope.names.lookup n = some .local := by first | exact .inl rfl | exact .inr rfl) (hf2 : X.fn m = true ∨ X.env.scope.names.lookup m = some .local := by first | exact .inl rfl | exact .inr rfl) (hf3 : X.fn l = true ∨ X.env.scope.names.lookup l = some .local := by first | exact .inl rfl | exact .inr rfl)
    (hs : swapsWithSole [.Tuple [.Name n px, .Name m py, .Name l pz] kt pt] e pos.line X.env = pure false := by rfl) (hw : swappedStores [.Tuple [.Name n px, .Name m py, .Name l pz] kt pt] e X.env = pure none := by rfl)
    (h1 : (assignEach [.Tuple [.Name n px, .Name m py, .Name l pz] kt pt] X.env).map (·.2) = [assign (.Tuple [.Name n px, .Name m py, .Name l pz] kt pt) X.env] := by rfl)
    (a1 : (assignEach [.Name n px, .Name m py, .Name l pz] X.env).map (·.2) = assign (.Name n px) X.env :: (assignEach [.Name m py, .Name l pz] X.env).map (·.2) := by rfl) (a2 : (assignEach [.Name m py, .Name l pz] X.env).map (·.2) = assign (.Name m py) X.env :: (assignEach [.Name l pz] X.env).map (·.2) := by rfl)
    (a2' : (assignEach [.Name l pz] X.env).map (·.2) = assign (.Name l pz) X.env :: (assignEach [] X.env).map (·.2) := by rfl)
    (a3 : (assignEach [.Name n px, .Name m py, .Name l pz] X.env).length = 3 := by rfl) (a4 : (assignEach [.Name n px, .Name m py, .Name l pz] X.env).findIdx? (·.1) = none := by rfl) :
    WS X (.Assign [.Tuple [.Name n px, .Name m py, .Name l pz] kt pt] e pos) DD σ H :=
  ws_of (ps_asg pe_w (pg_tup hc (pgs_cons (pg_name hN hi hx hf) (pgs_cons (pg_name hN hj hy hf2) (pgs_cons (pg_name hN hk hz hf3) pgs_nil a2') a2) a1) a3 a4) hs hw h1) (h H (Same.refl _) _ fun v H2 s2 ⟨p, ev, hp⟩ => ⟨p, [x, y, w], ev, hp, rfl, x, [y, w], rfl, y, [w], rfl, w, [], rfl, rfl, q H2 s2⟩)
end
section
variable {X : Cx} {e a b c o : Expr} {σ : L2.St} {H : Hp} {i : Nat} {n : Str} {pos : Pos}
/-- [elt for n in range(a, b)], the elements by their place -/
theorem d_lcR2 {elt : Expr} {scope : Scope} {u v : Nat} {px pr pr2 : Pos} (ft : Nat → V) (ha : DV X a σ H (.int (u : Int))) (hb : DV X b σ H (.int (v : Int))) (hu : u ≤ 2 ^ 60) (hv : v ≤ 2 ^ 60) (hz : v - u ≤ 1000000)
    (he : ∀ (s : Shared) (Hb : Hp) (C : Addr) (cl : List (Str × Addr)) (fp : List Addr) (t : Nat) (H' : Hp), t < v - u → Same H H' → DV (X.blk s Hb scope (compEnvC scope cl C X.env) fp) elt ((wipe σ [i]).set i (some (.int ((u + t : Nat) : Int)))) H' (ft t))
    (hc : X.calm = true) (hN : X.N.Nodup) (hm : X.mg "range" = none) (ok : BlkOk X.N X.env.scope scope [(n, i)] := by exact blkOk_by (by decide +kernel)) (hi : X.N[i]? = some n := by rfl)
    (hx : ∀ (s : Shared) (Hb : Hp) (C : Addr) (cl : List (Str × Addr)) (fp : List Addr), Loc (X.blk s Hb scope (compEnvC scope cl C X.env) fp).env.scope n := by first | exact fun _ _ _ _ _ => Or.inl rfl | exact fun _ _ _ _ _ => Or.inr rfl)
    (hf : ∀ (s : Shared) (Hb : Hp) (C : Addr) (cl : List (Str × Addr)) (fp : List Addr), (X.blk s Hb scope (compEnvC scope cl C X.env) fp).fn n = true ∨ (X.blk s Hb scope (compEnvC scope cl C X.env) fp).env.scope.names.lookup n = some .local := by first | exact fun _ _ _ _ _ => Or.inl rfl | exact fun _ _ _ _ _ => Or.inr rfl)
    (hg : Gl X "range" := by rfl) (e1 : starEach [a, b] X.env = [(false, eval a X.env), (false, eval b X.env)] := by rfl) (e2 : starEach [b] X.env = [(false, eval b X.env)] := by rfl) (e0 : starEach [] X.env = [] := by rfl)
    (hs : ∀ x, foldedSetIterable (.Call (.Name "range" pr) [a, b] [] pr2) X.env x = pure x := by intro _; rfl) :
    D X (.ListComp elt [⟨.Name n px, .Call (.Name "range" pr) [a, b] [] pr2, [], 0⟩] scope pos) σ H (fun v' H' => ∃ p, v' = .ref p ∧ H p = none ∧ H' p = some (.lst ((List.range (v - u)).map ft))) := by
  refine d_of (pe_lc (own := [(n, i)]) hc hN (pi_range2 hg hm pa_w e1 e2) ok (fun s Hb C cl fp => pg_name (i := i) hN hi (hx s Hb C cl fp) (hf s Hb C cl fp)) (tt := tYes) (te := fun σ' H' R => ∃ t : Nat, t < v - u ∧ σ' = (wipe σ [i]).set i (some (.int ((u + t : Nat) : Int))) ∧ Same H H' ∧ ∀ H2, Same H' H2 → R (ft t) H2)
    (fun s Hb C cl fp => pts_nil) (fun s Hb C cl fp => ⟨fun pins s1 σ1 H1 R I ⟨t, h1, h2, h3, h4⟩ => ?_⟩) hs) fun H1 s1 Q q => ?_
  · subst h2
    exact ((he s Hb C cl fp t H1 h1 h3).run (Same.refl _) h4) pins s1 I
  · refine (da_cons ha (da_cons hb da_nil (by rw [e2, e0])) (by rw [e1, e2])) H1 s1 _ fun H2 s2 => ⟨(u : Int), (v : Int), rfl, ⟨?_, ?_, ?_, ?_⟩, fun Dd hD => ?_⟩
    · have : ((2 : Int) ^ 62) = ((2 ^ 62 : Nat) : Int) := by norm_cast
      omega
    · have : ((2 : Int) ^ 62) = ((2 ^ 62 : Nat) : Int) := by norm_cast
      have : (2 : Nat) ^ 60 < 2 ^ 62 := by decide
      omega
    · have : ((2 : Int) ^ 62) = ((2 ^ 62 : Nat) : Int) := by norm_cast
      omega
    · have : ((2 : Int) ^ 62) = ((2 ^ 62 : Nat) : Int) := by norm_cast
      have : (2 : Nat) ^ 60 < 2 ^ 62 := by decide
      omega
    have eu : ((v : Int) - (u : Int)).toNat = v - u := by omega
    rw [eu]
    have s12 := s1.trans s2
    refine lc_range (lo := (u : Int)) (n := v - u) (vs := [i]) (σ := σ) (g := gName i) (tt := tYes) (te := fun σ' H' R => ∃ t : Nat, t < v - u ∧ σ' = (wipe σ [i]).set i (some (.int ((u + t : Nat) : Int))) ∧ Same H H' ∧ ∀ H2, Same H' H2 → R (ft t) H2) (fun t H' => Same H2 H' ∧ H' Dd = some (.lst ((List.range t).map ft))) ⟨Same.new hD, upd_same⟩ (fun t H' ht' ⟨sa, hd⟩ => ?_) (fun H' ⟨sa, hd⟩ => q _ _ (s2.trans sa) ⟨Dd, rfl, s12.free hD, hd⟩)
    have ei : ((u : Int) + (t : Int)) = ((u + t : Nat) : Int) := by omega
    rw [ei]
    refine ⟨wipe_one, iteT (B := Same H2 H' ∧ H' Dd = some (.lst ((List.range (t + 1)).map ft))) ?_⟩
    refine ⟨t, ht', rfl, s12.trans sa, fun H4 s4 => ?_⟩
    have hd4 := s4 _ _ hd
    refine ⟨_, hd4, by rw [List.length_map, List.length_range, sizeLine_eq]; omega, ?_, ?_⟩
    · intro b o eb
      rw [upd_ne (ne_of_none eb hD)]
      exact s4 _ _ (sa _ _ eb)
    · rw [upd_same, List.range_succ, List.map_append]
      rfl
/-- the reading of [elt for n in range(a)] -/
theorem tlc_R1 {u : Nat} (ft : Nat → V) {Wa : TA} (ha : ∀ H1, Same H H1 → ∀ Q : List V → Hp → Prop, (∀ H2, Same H1 H2 → Q [.int (u : Int)] H2) → Wa σ H1 Q) (hu : u ≤ 1000000) {H1 : Hp} (s1 : Same H H1) {Q : VK} (q : ∀ v H2, Same H1 H2 → (∃ p, v = .ref p ∧ H p = none ∧ H2 p = some (.lst ((List.range u).map ft))) → Q v H2) :
    tLc (iRng1 Wa) (gName i) tYes (fun σ' H' R => ∃ t : Nat, t < u ∧ σ' = (wipe σ [i]).set i (some (.int (t : Int))) ∧ Same H H' ∧ ∀ H2, Same H' H2 → R (ft t) H2) [i] σ H1 Q := by
  refine ha H1 s1 _ fun H2 s2 => ⟨(u : Int), rfl, by omega, by omega, fun Dd hD => ?_⟩
  have eu : ((u : Int)).toNat = u := by omega
  rw [eu]
  have s12 := s1.trans s2
  refine lc_range (lo := 0) (n := u) (vs := [i]) (σ := σ) (g := gName i) (tt := tYes) (te := fun σ' H' R => ∃ t : Nat, t < u ∧ σ' = (wipe σ [i]).set i (some (.int (t : Int))) ∧ Same H H' ∧ ∀ H2, Same H' H2 → R (ft t) H2) (fun t H' => Same H2 H' ∧ H' Dd = some (.lst ((List.range t).map ft))) ⟨Same.new hD, upd_same⟩ (fun t H' ht' ⟨sa, hd⟩ => ?_) (fun H' ⟨sa, hd⟩ => q _ _ (s2.trans sa) ⟨Dd, rfl, s12.free hD, hd⟩)
  have ei : (0 + (t : Int)) = (t : Int) := by omega
  rw [ei]
  refine ⟨wipe_one, iteT (B := Same H2 H' ∧ H' Dd = some (.lst ((List.range (t + 1)).map ft))) ?_⟩
  refine ⟨t, ht', rfl, s12.trans sa, fun H4 s4 => ?_⟩
  have hd4 := s4 _ _ hd
  refine ⟨_, hd4, by rw [List.length_map, List.length_range, sizeLine_eq]; omega, ?_, ?_⟩
  · intro b o eb
    rw [upd_ne (ne_of_none eb hD)]
    exact s4 _ _ (sa _ _ eb)
  · rw [upd_same, List.range_succ, List.map_append]
    rfl
/-- [elt for n in range(a)] -/
theorem d_lcR1 {elt : Expr} {scope : Scope} {u : Nat} {px pr pr2 : Pos} (ft : Nat → V) (ha : DV X a σ H (.int (u : Int))) (hu : u ≤ 1000000)
    (he : ∀ (s : Shared) (Hb : Hp) (C : Addr) (cl : List (Str × Addr)) (fp : List Addr) (t : Nat) (H' : Hp), t < u → Same H H' → DV (X.blk s Hb scope (compEnvC scope cl C X.env) fp) elt ((wipe σ [i]).set i (some (.int (t : Int)))) H' (ft t))
    (hc : X.calm = true) (hN : X.N.Nodup) (hm : X.mg "range" = none) (ok : BlkOk X.N X.env.scope scope [(n, i)] := by exact blkOk_by (by decide +kernel)) (hi : X.N[i]? = some n := by rfl)
    (hx : ∀ (s : Shared) (Hb : Hp) (C : Addr) (cl : List (Str × Addr)) (fp : List Addr), Loc (X.blk s Hb scope (compEnvC scope cl C X.env) fp).env.scope n := by first | exact fun _ _ _ _ _ => Or.inl rfl | exact fun _ _ _ _ _ => Or.inr rfl)
    (hf : ∀ (s : Shared) (Hb : Hp) (C : Addr) (cl : List (Str × Addr)) (fp : List Addr), (X.blk s Hb scope (compEnvC scope cl C X.env) fp).fn n = true ∨ (X.blk s Hb scope (compEnvC scope cl C X.env) fp).env.scope.names.lookup n = some .local := by first | exact fun _ _ _ _ _ => Or.inl rfl | exact fun _ _ _ _ _ => Or.inr rfl)
    (hg : Gl X "range" := by rfl) (e1 : starEach [a] X.env = [(false, eval a X.env)] := by rfl) (e0 : starEach [] X.env = [] := by rfl)
    (hs : ∀ x, foldedSetIterable (.Call (.Name "range" pr) [a] [] pr2) X.env x = pure x := by intro _; rfl) :
    D X (.ListComp elt [⟨.Name n px, .Call (.Name "range" pr) [a] [] pr2, [], 0⟩] scope pos) σ H (fun v' H' => ∃ p, v' = .ref p ∧ H p = none ∧ H' p = some (.lst ((List.range u).map ft))) := by
  refine d_of (pe_lc (own := [(n, i)]) hc hN (pi_range1 hg hm pa_w e1) ok (fun s Hb C cl fp => pg_name (i := i) hN hi (hx s Hb C cl fp) (hf s Hb C cl fp)) (tt := tYes) (te := fun σ' H' R => ∃ t : Nat, t < u ∧ σ' = (wipe σ [i]).set i (some (.int (t : Int))) ∧ Same H H' ∧ ∀ H2, Same H' H2 → R (ft t) H2)
    (fun s Hb C cl fp => pts_nil) (fun s Hb C cl fp => ⟨fun pins s1 σ1 H1 R I ⟨t, h1, h2, h3, h4⟩ => ?_⟩) hs) fun H1 s1 Q q => tlc_R1 ft (fun H1 s1 Q q => (da_cons ha da_nil (by rw [e1, e0])) H1 s1 Q q) hu s1 q
  subst h2
  exact ((he s Hb C cl fp t H1 h1 h3).run (Same.refl _) h4) pins s1 I
/-- x = [elt for n in range(a)], on one line -/
theorem s_setLcR1 {elt : Expr} {scope : Scope} {u j : Nat} {px py pr pr2 spos : Pos} {y : Str} {DD : Ends} (ft : Nat → V) (ha : DV X a σ H (.int (u : Int))) (hu : u ≤ 1000000)
    (he : ∀ (s : Shared) (Hb : Hp) (C : Addr) (cl : List (Str × Addr)) (fp : List Addr) (t : Nat) (H' : Hp), t < u → Same H H' → DV (X.blk s Hb scope (compEnvC scope cl C X.env) fp) elt ((wipe σ [i]).set i (some (.int (t : Int)))) H' (ft t))
    (q : ∀ p H', Same H H' → H p = none → H' p = some (.lst ((List.range u).map ft)) → DD.nx (σ.set j (some (.ref p))) H')
    (hc : X.calm = true) (hN : X.N.Nodup) (hm : X.mg "range" = none) (ok : BlkOk X.N X.env.scope scope [(n, i)] := by exact blkOk_by (by decide +kernel)) (hi : X.N[i]? = some n := by rfl) (hj : X.N[j]? = some y := by rfl) (hyl : X.env.scope.names.lookup y = some .local := by rfl) (hk : X.env.scope.kind = .function := by rfl) (hln : (py.line == pos.line) = true := by rfl)
    (hx : ∀ (s : Shared) (Hb : Hp) (C : Addr) (cl : List (Str × Addr)) (fp : List Addr), Loc (X.blk s Hb scope (compEnvC scope cl C X.env) fp).env.scope n := by first | exact fun _ _ _ _ _ => Or.inl rfl | exact fun _ _ _ _ _ => Or.inr rfl)
    (hf : ∀ (s : Shared) (Hb : Hp) (C : Addr) (cl : List (Str × Addr)) (fp : List Addr), (X.blk s Hb scope (compEnvC scope cl C X.env) fp).fn n = true ∨ (X.blk s Hb scope (compEnvC scope cl C X.env) fp).env.scope.names.lookup n = some .local := by first | exact fun _ _ _ _ _ => Or.inl rfl | exact fun _ _ _ _ _ => Or.inr rfl)
    (hg : Gl X "range" := by rfl) (e1 : starEach [a] X.env = [(false, eval a X.env)] := by rfl) (e0 : starEach [] X.env = [] := by rfl)
    (hs : ∀ x, foldedSetIterable (.Call (.Name "range" pr) [a] [] pr2) X.env x = pure x := by intro _; rfl) (hsw : swapsWith (.ListComp elt [⟨.Name n px, .Call (.Name "range" pr) [a] [] pr2, [], 0⟩] scope pos) (some (.Name y py)) spos.line X.env = pure true := by first | exact sw_true rfl rfl rfl rfl | rfl) :
    WS X (.Assign [.Name y py] (.ListComp elt [⟨.Name n px, .Call (.Name "range" pr) [a] [] pr2, [], 0⟩] scope pos) spos) DD σ H := by
  refine ws_of (ps_setLc (i := j) (own := [(n, i)]) hc hN hj hyl hsw (pi_range1 hg hm pa_w e1) ok (fun s Hb C cl fp => pg_name (i := i) hN hi (hx s Hb C cl fp) (hf s Hb C cl fp)) (tt := tYes) (te := fun σ' H' R => ∃ t : Nat, t < u ∧ σ' = (wipe σ [i]).set i (some (.int (t : Int))) ∧ Same H H' ∧ ∀ H2, Same H' H2 → R (ft t) H2)
    (fun s Hb C cl fp => pts_nil) (fun s Hb C cl fp => ⟨fun pins s1 σ1 H1 R I ⟨t, h1, h2, h3, h4⟩ => ?_⟩) hs) (tlc_R1 ft (fun H1 s1 Q q => (da_cons ha da_nil (by rw [e1, e0])) H1 s1 Q q) hu (Same.refl _) fun v H2 s2 hv => ?_)
  · subst h2
    exact ((he s Hb C cl fp t H1 h1 h3).run (Same.refl _) h4) pins s1 I
  · obtain ⟨p, ev, np, hp⟩ := hv
    subst ev
    exact q p H2 s2 np hp
end
end Sx

namespace Sx
open PySem PySem.Spec PyProof.Rows L2
section
variable {X : Cx} {e a b c o : Expr} {es : List Expr} {σ : L2.St} {H : Hp} {DD : Ends} {P : V → Hp → Prop} {v x y z : V} {i j k : Nat} {n m f g : Str} {pos p2 p3 po po2 : Pos} {xs : List V}
/-- x, y = a, b: a's value is fixed, b's is not -/
theorem s_parD {px py pt : Pos} {kt k2 : Nat} {pt2 : Pos} (ha : DV X a σ H x) (hb : D X b σ H P) (q : ∀ v H', Same H H' → P v H' → DD.nx ((σ.set i (some x)).set j (some v)) H') (hc : X.calm = true) (hN : X.N.Nodup) (hij : i ≠ j) (hi : X.N[i]? = some n := by rfl) (hj : X.N[j]? = some m := by rfl)
    (hx : X.env.scope.names.lookup n = some .local := by rfl) (hy : X.env.scope.names.lookup m = some .local := by rfl)
    (hw : swappedStores [.Tuple [.Name n px, .Name m py] kt pt] (.Tuple [a, b] k2 pt2) X.env = pure (some [n, m]) := by rfl)
    (hs : swapsWithSole [.Tuple [.Name n px, .Name m py] kt pt] (.Tuple [a, b] k2 pt2) pos.line X.env = pure false := by rfl)
    (h1 : starEach [a, b] X.env = (false, eval a X.env) :: starEach [b] X.env := by rfl) (h2 : starEach [b] X.env = (false, eval b X.env) :: starEach [] X.env := by rfl) :
    WS X (.Assign [.Tuple [.Name n px, .Name m py] kt pt] (.Tuple [a, b] k2 pt2) pos) DD σ H :=
  ws_of (ps_par hc hN hi hj hij hx hy pa_w hw hs) (wa_of (pa_cons pe_w pa_w h1) (ha.run (Same.refl _) fun H2 s2 => wa_of (pa_cons pe_w pa_w h2) (hb H2 s2 _ fun v H3 s3 pv => wa_of pa_nil ⟨x, v, rfl, q v H3 (s2.trans s3) pv⟩)))
end
end Sx

/-! Del: an object under change is left out of what is known. -/
namespace Sx
open PySem PySem.Spec PyProof.Rows L2
theorem same_del {H : Hp} {x : Addr} : Same (del H x) H := fun b o e => by
  by_cases h : b = x
  · rw [h, del_same] at e; cases e
  · rw [del_ne h] at e; exact e
theorem del_at {H : Hp} {x b : Addr} {o u : HO} (hx : H x = some o) (hb : H b = some u) (n : u ≠ o) : del H x b = some u := by
  rw [del_ne (fun z => n (by rw [z, hx] at hb; exact (Option.some.inj hb).symm))]
  exact hb
theorem rd_del {H : Hp} {x a C dx : Addr} {fs : List (Str × V)} {u : HO} (hx : H x = some (.ins C dx fs)) (n : ∀ C dx fs, u ≠ .ins C dx fs) (h : Rd H a u) : Rd (del H x) a u := by
  rcases h with h | ⟨o, h⟩
  · exact .inl (del_at hx h (n _ _ _))
  · exact .inr ⟨o, del_at hx h (by intro z; cases z)⟩
theorem sqL_del {K : PySem.W.Frag} {H : Hp} {x a C dx : Addr} {fs : List (Str × V)} {xs : List V} (hx : H x = some (.ins C dx fs)) (h : SqL K H a xs) : SqL K (del H x) a xs := h.imp (rd_del hx (fun _ _ _ z => by cases z)) id
theorem sqT_del {K : PySem.W.Frag} {H : Hp} {x a C dx : Addr} {fs : List (Str × V)} {xs : List V} (hx : H x = some (.ins C dx fs)) (h : SqT K H a xs) : SqT K (del H x) a xs := h.imp (rd_del hx (fun _ _ _ z => by cases z)) id
/-- what is known from before x was, stays known without x -/
theorem same_forget {F H : Hp} {x : Addr} (s : Same F H) (n : F x = none) : Same F (del H x) := fun b o e => by
  rw [del_ne (ne_of_none e n)]
  exact s b o e
end Sx

/-! Wl: calls that come to a value or raise, as wishes. -/
namespace Sx
open PySem PySem.Spec PyProof.Rows L2
section
variable {X : Cx} {e a b c o : Expr} {es : List Expr} {σ : L2.St} {H : Hp} {DD : Ends} {Q : VK} {v x y z : V} {i j k : Nat} {n m f g : Str} {pos p2 p3 po po2 : Pos} {vs : List V} {lv : Nat} {sp : Sp} {Wx : WX}
theorem w_cal (c : Cal X.prog X.w X.K X.mg X.base lv n sp) (hr : Room lv X.A) (tk : Takes X Wx) (ha : DA X (e :: es) σ H vs) (hs : ∀ H1, Same H H1 → sp vs H1 Q (WE Wx σ)) (hg : Gl X n := by rfl) (hdb : (n == ("__debug__" : Str)) = false := by decide)
    (he : starEach (e :: es) X.env = (false, eval e X.env) :: starEach es X.env := by rfl) (hpl : (backTo pos (starEach es X.env)).any (·.1) = false := by rfl) : W X (.Call (.Name n p2) (e :: es) [] pos) σ H Q := by
  obtain ⟨f, fd, ps, F, h1, h2, h3⟩ := c.ex
  exact w_of (pe_callS (E := WE Wx) F hr hg h1 h2 h3 (fun σ' => passAt tk σ') pa_w hdb he hpl) (ha H (Same.refl _) _ fun H2 s2 => hs H2 s2)
theorem w_mak {C : Addr} {E : XK} (c : Mak X.prog X.w X.K X.mg X.base lv n C sp) (hr : Room (lv + 1) X.A) (tk : Takes X Wx) (hW : ∀ cls d σ' H', E cls d H' → Wx cls d σ' H') (ha : DA X (e :: es) σ H vs)
    (hs : ∀ H1, Same H H1 → ∀ x dx, H1 x = none → H1 dx = none → dx ≠ x → sp (.ref x :: vs) (upd (upd H1 dx (.own x)) x (.ins C dx [])) (fun v' H' => v' = .non ∧ Q (.ref x) H') E)
    (hg : Gl X n := by rfl) (hdb : (n == ("__debug__" : Str)) = false := by decide)
    (he : starEach (e :: es) X.env = (false, eval e X.env) :: starEach es X.env := by rfl) (hpl : (backTo pos (starEach es X.env)).any (·.1) = false := by rfl) : W X (.Call (.Name n p2) (e :: es) [] pos) σ H Q := by
  obtain ⟨f, fd, ps, F, h1, h2, h3⟩ := c.ex
  refine w_of (pe_make h2 F hr hg h1 h3 .nil (passes_call tk hW) pa_w hdb he hpl) (ha H (Same.refl _) _ fun H2 s2 => fun x dx nx nd ne => ?_)
  rw [List.append_nil]
  exact hs H2 s2 x dx nx nd ne
theorem s_setW (h : W X e σ H (fun v H' => DD.nx (σ.set i (some v)) H')) (hN : X.N.Nodup) (hi : X.N[i]? = some n := by rfl) (hx : Loc X.env.scope n := by first | exact Or.inl rfl | exact Or.inr rfl) (hs : swapsWith e (some (.Name n p2)) pos.line X.env = pure false := by rfl)
    (hf : X.fn n = true ∨ X.env.scope.names.lookup n = some .local := by first | exact .inl rfl | exact .inr rfl) : WS X (.Assign [.Name n p2] e pos) DD σ H := ws_of (ps_set hN hi hx pe_w hs hf) h
theorem s_retW (h : W X e σ H DD.rt) : WS X (.Return (some e) pos) DD σ H := ws_of (ps_ret pe_w) h
end
end Sx

namespace Sx
open PySem PySem.Spec PyProof.Rows L2
theorem neg_big {k : Nat} (_ : k ≤ 1000) : -(2 ^ 63) ≤ (k : Int) := by
  have : (0 : Int) ≤ 2 ^ 63 := by decide
  omega
theorem pos_big {k : Nat} (h : k ≤ 1000) : (k : Int) < 2 ^ 63 := by
  have : (1000 : Int) < 2 ^ 63 := by decide
  omega
section
variable {X : Cx} {e a b c o : Expr} {es : List Expr} {σ : L2.St} {H : Hp} {DD : Ends} {P : V → Hp → Prop} {v x y z : V} {i j k q : Nat} {n m f g : Str} {pos p2 p3 po po2 : Pos} {xs ys vs : List V} {l : Int}
/-- int(e) of an int -/
theorem dv_int1 (ha : DV X e σ H (.int l)) (hm : X.mg "int" = none) (hg : Gl X "int" := by rfl) (he : starEach [e] X.env = (false, eval e X.env) :: starEach [] X.env := by rfl) (hpl : (backTo p2 (starEach [] X.env)).any (·.1) = false := by rfl) :
    DV X (.Call (.Name "int" pos) [e] [] p2) σ H (.int l) := dv_callT call_int1 hm (da_cons ha da_nil he) (fun H1 s1 Q q => .inl ⟨l, rfl, q H1 (Same.refl _)⟩) (by decide +kernel) hg (by decide) (by decide) he hpl
theorem dv_pow {r : Int} (ha : DV X a σ H (.int l)) (hb : DV X b σ H (.int r)) (hc : CPow l r) : DV X (.BinOp a .Pow b pos) σ H (.int (l ^ r.toNat)) := dv_op op_pow ha hb fun H1 _ Q q => ⟨_, _, rfl, rfl, hc, q H1 (Same.refl _)⟩
/-- for x in range(a) -/
theorem s_forR1 {body : List Stmt} {px : Pos} {v : Nat} (Pv : Nat → L2.St → Hp → Prop) (ha : DV X a σ H (.int (v : Int))) (hv : v < 2 ^ 62) (h0 : ∀ H', Same H H' → Pv 0 σ H')
    (hs : ∀ t σ H, t < v → Pv t σ H → WB X body { nx := Pv (t + 1), ct := Pv (t + 1), bk := DD.nx, rt := DD.rt } (σ.set i (some (.int (t : Int)))) H) (hd : ∀ σ H, Pv v σ H → DD.nx σ H)
    (hN : X.N.Nodup) (hc : X.calm = true) (hm : X.mg "range" = none) (hi : X.N[i]? = some n := by rfl) (hx : Loc X.env.scope n := by first | exact Or.inl rfl | exact Or.inr rfl) (hf : X.fn n = true ∨ X.env.scope.names.lookup n = some .local := by first | exact .inl rfl | exact .inr rfl)
    (hg : Gl X "range" := by rfl) (e1 : starEach [a] X.env = [(false, eval a X.env)] := by rfl)
    (hfs : ∀ x, foldedSetIterable (.Call (.Name "range" p2) [a] [] p3) X.env x = pure x := by intro _; rfl) (hp : PassesOwn (model X.prog X.w) X.A X.env X.xe := by exact PassesOwn.never)
    (hl : starEach [] X.env = [] := by rfl) : WS X (.For (.Name n px) (.Call (.Name "range" p2) [a] [] p3) body [] pos) DD σ H := by
  refine ws_of (ps_for hp hc (pi_range1 hg hm pa_w e1) (pg_name hN hi hx hf) pss_w hfs) ?_
  refine (da_cons ha da_nil (by rw [e1, hl])) H (Same.refl _) _ fun H2 s2 => ?_
  have w : ((2 : Int) ^ 62) = ((2 ^ 62 : Nat) : Int) := by norm_cast
  refine ⟨(v : Int), rfl, by omega, by omega, ?_⟩
  have e : ((v : Int)).toNat = v := by omega
  rw [e]
  refine for_range (lo := 0) (n := v) Pv (h0 H2 s2) (fun t σ H ht p => ?_) hd
  have := hs t σ H ht p
  rw [show (0 + (t : Int)) = (t : Int) by omega]
  exact this
/-- for x in a list -/
theorem s_forL {body : List Stmt} {px : Pos} {R : Addr → Hp → Prop} (Pv : Addr → Nat → L2.St → Hp → Prop) (ha : D X a σ H (fun v H' => ∃ p, v = .ref p ∧ R p H')) (h0 : ∀ H' p, Same H H' → R p H' → Pv p 0 σ H') (hl : ∀ p t σ'' H'', t ≤ xs.length → Pv p t σ'' H'' → SqL X.K H'' p xs)
    (hs : ∀ p t x σ H, xs[t]? = some x → Pv p t σ H → WB X body { nx := Pv p (t + 1), ct := Pv p (t + 1), bk := DD.nx, rt := DD.rt } (σ.set i (some x)) H) (hd : ∀ p σ H, Pv p xs.length σ H → DD.nx σ H)
    (hN : X.N.Nodup) (hc : X.calm = true) (hi : X.N[i]? = some n := by rfl) (hx : Loc X.env.scope n := by first | exact Or.inl rfl | exact Or.inr rfl) (hf : X.fn n = true ∨ X.env.scope.names.lookup n = some .local := by first | exact .inl rfl | exact .inr rfl)
    (hfs : ∀ x, foldedSetIterable a X.env x = pure x := by intro _; rfl) (hp : PassesOwn (model X.prog X.w) X.A X.env X.xe := by exact PassesOwn.never) : WS X (.For (.Name n px) a body [] pos) DD σ H := by
  refine ws_of (ps_for hp hc (pi_list pe_w) (pg_name hN hi hx hf) pss_w hfs) ?_
  refine ha H (Same.refl _) _ fun v H2 s2 ⟨p, ev, hp⟩ => ⟨p, ev, ⟨xs, hl p 0 σ H2 (Nat.zero_le _) (h0 H2 p s2 hp)⟩, ?_⟩
  exact for_list (Pv p) (h0 H2 p s2 hp) (hl p) (fun t x σ H ex q => hs p t x σ H ex q) (hd p)
/-- k <= j <= m as a test -/
theorem tv_le2 {c : Expr} {j m : Int} (ha : DV X a σ H (.int l)) (hb : DV X b σ H (.int j)) (hc : DV X c σ H (.int m)) (hm : lastMarks [.LtE, .LtE] [b, c] = false := by with_unfolding_all rfl) : DT X (.Compare a [.LtE, .LtE] [b, c] pos) σ H (decide (l ≤ j) && decide (j ≤ m)) := by
  refine dt_of (pt_chain op_le op_le pe_w pe_w pe_w hm) fun H1 s1 Q q => ?_
  refine ha.run s1 fun H2 s2 => hb.run (s1.trans s2) fun H3 s3 => ⟨_, _, rfl, rfl, ?_⟩
  have s13 : Same H1 H3 := s2.trans s3
  refine ⟨decide (l ≤ j), rfl, ?_⟩
  cases hd : decide (l ≤ j) with
  | true =>
    rw [hd] at q
    refine iteT ?_
    exact hc.run (s1.trans s13) fun H5 s5 => ⟨_, _, rfl, rfl, ⟨_, rfl, q H5 (s13.trans s5)⟩⟩
  | false =>
    rw [hd] at q
    exact iteF ⟨false, rfl, q H3 s13⟩
/-- list + list -/
theorem d_cat (ha : D X a σ H (fun v H' => ∃ p, v = .ref p ∧ H' p = some (.lst xs))) (hb : D X b σ H (fun v H' => ∃ p, v = .ref p ∧ H' p = some (.lst ys))) (hz : xs.length + ys.length ≤ 1000000) : D X (.BinOp a .Add b pos) σ H (fun v H' => ∃ p, v = .ref p ∧ H p = none ∧ H' p = some (.lst (xs ++ ys))) :=
  d_of (pe_op op_cat pe_w pe_w) fun H1 s1 Q q => ha H1 s1 _ fun v H2 s2 ⟨p, ev, hp⟩ => hb H2 (s1.trans s2) _ fun w H3 s3 ⟨p', ew, hp'⟩ => ⟨p, p', xs, ys, ev, ew, s3 _ _ hp, hp', by rw [sizeLine_eq]; omega, fun t ht => q _ _ ((s2.trans s3).trans (Same.new ht)) ⟨t, rfl, ((s1.trans s2).trans s3).free ht, upd_same⟩⟩
/-- list * number -/
theorem d_rep {k : Nat} (ha : D X a σ H (fun v H' => ∃ p, v = .ref p ∧ H' p = some (.lst xs))) (hb : DV X b σ H (.int (k : Int))) (hk : k ≤ 1000) (hz : xs.length ≤ 1000) : D X (.BinOp a .Mult b pos) σ H (fun v H' => ∃ p, v = .ref p ∧ H p = none ∧ H' p = some (.lst (List.replicate k xs).flatten)) :=
  d_of (pe_op op_rep pe_w pe_w) fun H1 s1 Q q => ha H1 s1 _ fun v H2 s2 ⟨p, ev, hp⟩ => hb.run (s1.trans s2) fun H3 s3 => ⟨p, (k : Int), xs, ev, rfl, s3 _ _ hp, neg_big hk, pos_big hk, by
    rw [sizeLine_eq, Int.toNat_natCast]
    have := Nat.mul_le_mul hz hk
    omega, fun t ht => q _ _ ((s2.trans s3).trans (Same.new ht)) ⟨t, rfl, ((s1.trans s2).trans s3).free ht, by rw [upd_same, Int.toNat_natCast]⟩⟩
/-- a[lo:hi] -/
theorem d_cutTo (ha : DL X a σ H xs) (hb : DV X b σ H (.int (k : Int))) : D X (.Subscript a (.Slice none (some b) none p2) pos) σ H (fun v H' => ∃ p, v = .ref p ∧ H p = none ∧ H' p = some (.lst (xs.take k))) :=
  d_of (pe_slice sl_list pe_w po_none (po_some pe_w)) fun H1 s1 Q q => ha H1 s1 _ fun v H2 s2 ⟨p, ev, hp⟩ => hb.run (s1.trans s2) fun H3 s3 => ⟨(k : Int), rfl, p, xs, ev, s3.seq hp, fun t ht => q _ _ ((s2.trans s3).trans (Same.new ht)) ⟨t, rfl, ((s1.trans s2).trans s3).free ht, by
    rw [upd_same]
    unfold cutV
    rw [HT.sIx_nat, HT.sIx_none, List.drop_zero, Nat.sub_zero]
    congr 2
    by_cases h : k ≤ xs.length
    · rw [Nat.min_eq_left h]
    · rw [Nat.min_eq_right (by omega), List.take_of_length_le (Nat.le_refl _), List.take_of_length_le (by omega)]⟩⟩
theorem d_cutFrom (ha : DL X a σ H xs) (hb : DV X b σ H (.int (k : Int))) : D X (.Subscript a (.Slice (some b) none none p2) pos) σ H (fun v H' => ∃ p, v = .ref p ∧ H p = none ∧ H' p = some (.lst (xs.drop k))) :=
  d_of (pe_slice sl_list pe_w (po_some pe_w) po_none) fun H1 s1 Q q => ha H1 s1 _ fun v H2 s2 ⟨p, ev, hp⟩ => hb.run (s1.trans s2) fun H3 s3 => ⟨(k : Int), rfl, p, xs, ev, s3.seq hp, fun t ht => q _ _ ((s2.trans s3).trans (Same.new ht)) ⟨t, rfl, ((s1.trans s2).trans s3).free ht, by
    rw [upd_same]
    unfold cutV
    rw [HT.sIx_nat, HT.sIx_none]
    congr 2
    by_cases h : k ≤ xs.length
    · rw [Nat.min_eq_left h, List.take_of_length_le (by simp)]
    · rw [Nat.min_eq_right (by omega), List.drop_of_length_le (Nat.le_refl _), List.drop_of_length_le (by omega), List.take_nil]⟩⟩
/-- a != b, data -/
theorem dt_neD {d1 d2 : PyData} (ha : D X a σ H (fun v H' => Dp X.K H' v d1)) (hb : ∀ H1, Same H H1 → D X b σ H1 (fun w H' => Dp X.K H' w d2)) (hst : ∀ v H1 H2, Same H1 H2 → Dp X.K H1 v d1 → Dp X.K H2 v d1) (s1 : SeqAt.shaped d1 = true) (s2 : SeqAt.shaped d2 = true) (hu : X.A.units + 64 < cLine) (hm : behindInMarks .NotEq b = false := by rfl) :
    DT X (.Compare a [.NotEq] [b] pos) σ H (!PyData.eqv d1 d2) :=
  dt_of (pt_cmpR (op_neD hu) pe_w pe_w hm) fun H1 t1 Q q => ha H1 t1 _ fun v H2 t2 hv => (hb H2 (t1.trans t2)) H2 (Same.refl _) _ fun w H3 t3 hw => ⟨d1, d2, hst _ _ _ t3 hv, hw, s1, s2, _, rfl, q H3 (t2.trans t3)⟩
mutual
theorem dp_same {K : PySem.W.Frag} {H1 H2 : Hp} (s : Same H1 H2) : ∀ {v : V} {d : PyData}, Dp K H1 v d → Dp K H2 v d
  | _, _, .non => .non
  | _, _, .bl b => .bl b
  | _, _, .int i => .int i
  | _, _, .str x => .str x
  | _, _, .lst h k => .lst (s.seq h) (dpAll_same s k)
  | _, _, .tup h k => .tup (Sx.Same.seqT s h) (dpAll_same s k)
theorem dpAll_same {K : PySem.W.Frag} {H1 H2 : Hp} (s : Same H1 H2) : ∀ {vs : List V} {ds : List PyData}, DpAll K H1 vs ds → DpAll K H2 vs ds
  | _, _, .nil => .nil
  | _, _, .cons h k => .cons (dp_same s h) (dpAll_same s k)
end
/-- {k: v, ..}, two keys -/
theorem d_disp2 {a1 b1 : Expr} {k1 k2 : Key} {x1 x2 : V} (h1 : DV X a σ H (kV k1)) (h2 : DV X a1 σ H x1) (h3 : DV X b σ H (kV k2)) (h4 : DV X b1 σ H x2) (ne : k1 ≠ k2) : D X (.Dict [some a, some b] [a1, b1] pos) σ H (fun v H' => ∃ p, v = .ref p ∧ H p = none ∧ H' p = some (.dK [(k1, x1), (k2, x2)])) :=
  d_of (pe_disp (pps_cons pe_w pe_w (pps_cons pe_w pe_w pps_nil)) rfl rfl (by simp) (by simp)) fun H1 s1 Q q => fun p hp => by
    have s2 := s1.trans (Same.new (o := .dK []) hp)
    exact h1.run s2 fun H2 t2 => h2.run (s2.trans t2) fun H3 t3 => h3.run ((s2.trans t2).trans t3) fun H4 t4 => h4.run (((s2.trans t2).trans t3).trans t4) fun H5 t5 => by
      have t := ((t2.trans t3).trans t4).trans t5
      refine ⟨t _ _ upd_same, [(k1, x1), (k2, x2)], rfl, by simp, ?_⟩
      have e : mergeK [] [(k1, x1), (k2, x2)] = [(k1, x1), (k2, x2)] := by
        show putK [(k1, x1)] k2 x2 = _
        unfold putK
        simp [ne, putK]
      rw [e]
      exact q _ _ (((Same.new hp).trans t).mut hp) ⟨p, rfl, s1.free hp, upd_same⟩
end
section
variable {X : Cx} {e : Expr} {σ : L2.St} {H : Hp} {DD : Ends} {i1 i2 i3 i4 : Nat} {n1 n2 n3 n4 : Str} {pos pt q1 q2 q3 q4 : Pos} {kt : Nat} {x1 x2 x3 x4 : V}
/-- a, b, c, d = a list of four -/
theorem s_unpL4 (h : DL X e σ H [x1, x2, x3, x4]) (q : ∀ H', Same H H' → DD.nx ((((σ.set i1 (some x1)).set i2 (some x2)).set i3 (some x3)).set i4 (some x4)) H') (hc : X.calm = true) (hN : X.N.Nodup) (h1 : X.N[i1]? = some n1 := by rfl) (h2 : X.N[i2]? = some n2 := by rfl) (h3 : X.N[i3]? = some n3 := by rfl) (h4 : X.N[i4]? = some n4 := by rfl)
    (l1 : Loc X.env.scope n1 := by first | exact Or.inl rfl | exact Or.inr rfl) (l2 : Loc X.env.scope n2 := by first | exact Or.inl rfl | exact Or.inr rfl) (l3 : Loc X.env.scope n3 := by first | exact Or.inl rfl | exact Or.inr rfl) (l4 : Loc X.env.scope n4 := by first | exact Or.inl rfl | exact Or.inr rfl)
    (f1 : X.fn n1 = true ∨ X.env.scope.names.lookup n1 = some .local := by first | exact .inl rfl | exact .inr rfl) (f2 : X.fn n2 = true ∨ X.env.scope.names.lookup n2 = some .local := by first | exact .inl rfl | exact .inr rfl) (f3 : X.fn n3 = true ∨ X.env.scope.names.lookup n3 = some .local := by first | exact .inl rfl | exact .inr rfl) (f4 : X.fn n4 = true ∨ X.env.scope.names.lookup n4 = some .local := by first | exact .inl rfl | exact .inr rfl)
    (hs : swapsWithSole [.Tuple [.Name n1 q1, .Name n2 q2, .Name n3 q3, .Name n4 q4] kt pt] e pos.line X.env = pure false := by rfl) (hw : swappedStores [.Tuple [.Name n1 q1, .Name n2 q2, .Name n3 q3, .Name n4 q4] kt pt] e X.env = pure none := by rfl)
    (hh : (assignEach [.Tuple [.Name n1 q1, .Name n2 q2, .Name n3 q3, .Name n4 q4] kt pt] X.env).map (·.2) = [assign (.Tuple [.Name n1 q1, .Name n2 q2, .Name n3 q3, .Name n4 q4] kt pt) X.env] := by rfl)
    (a1 : (assignEach [.Name n1 q1, .Name n2 q2, .Name n3 q3, .Name n4 q4] X.env).map (·.2) = assign (.Name n1 q1) X.env :: (assignEach [.Name n2 q2, .Name n3 q3, .Name n4 q4] X.env).map (·.2) := by rfl)
    (a2 : (assignEach [.Name n2 q2, .Name n3 q3, .Name n4 q4] X.env).map (·.2) = assign (.Name n2 q2) X.env :: (assignEach [.Name n3 q3, .Name n4 q4] X.env).map (·.2) := by rfl)
    (a2' : (assignEach [.Name n3 q3, .Name n4 q4] X.env).map (·.2) = assign (.Name n3 q3) X.env :: (assignEach [.Name n4 q4] X.env).map (·.2) := by rfl)
    (a2'' : (assignEach [.Name n4 q4] X.env).map (·.2) = assign (.Name n4 q4) X.env :: (assignEach [] X.env).map (·.2) := by rfl)
    (a3 : (assignEach [.Name n1 q1, .Name n2 q2, .Name n3 q3, .Name n4 q4] X.env).length = 4 := by rfl) (a4 : (assignEach [.Name n1 q1, .Name n2 q2, .Name n3 q3, .Name n4 q4] X.env).findIdx? (·.1) = none := by rfl) :
    WS X (.Assign [.Tuple [.Name n1 q1, .Name n2 q2, .Name n3 q3, .Name n4 q4] kt pt] e pos) DD σ H :=
  ws_of (ps_asg pe_w (L2.pg_lst hc (pgs_cons (pg_name hN h1 l1 f1) (pgs_cons (pg_name hN h2 l2 f2) (pgs_cons (pg_name hN h3 l3 f3) (pgs_cons (pg_name hN h4 l4 f4) pgs_nil a2'') a2') a2) a1) a3 a4) hs hw hh) (h H (Same.refl _) _ fun v H2 s2 ⟨p, ev, hp⟩ => ⟨p, [x1, x2, x3, x4], ev, hp, rfl, x1, [x2, x3, x4], rfl, x2, [x3, x4], rfl, x3, [x4], rfl, x4, [], rfl, rfl, q H2 s2⟩)
end
section
/-- keywords' values -/
def WK (X : Cx) (kws : List Keyword) : TA := fun σ H Q => ∀ (pos : Pos) (pins : List (Addr × Obj)) (s : Shared), Inv X pins σ H s → wpAny (model X.prog X.w) X.A (evalAll ((backToKw pos (keywordEach kws X.env)).map (·.2))) (AP X pins σ Q) X.xe s
theorem pk_w {X : Cx} {kws : List Keyword} : PK X kws (WK X kws) := ⟨fun pos pins s σ H Q I h => h pos pins s I⟩
def DK (X : Cx) (kws : List Keyword) (σ : L2.St) (H : Hp) (zs : List V) : Prop := ∀ H1, Same H H1 → ∀ Q : List V → Hp → Prop, (∀ H2, Same H1 H2 → Q zs H2) → WK X kws σ H1 Q
theorem dk_nil {X : Cx} {σ : L2.St} {H : Hp} : DK X [] σ H [] := fun H1 _ Q q pos pins s I => pk_nil.run pos pins s σ H1 Q I (q H1 (Same.refl _))
theorem dk_cons {X : Cx} {σ : L2.St} {H : Hp} {e : Expr} {kws : List Keyword} {nm : Option Str} {kpos : Pos} {v : V} {zs : List V} (h : DV X e σ H v) (hr : DK X kws σ H zs) : DK X (⟨nm, e, kpos⟩ :: kws) σ H (v :: zs) := fun H1 s1 Q q pos pins s I =>
  (pk_cons pe_w pk_w).run pos pins s σ H1 Q I (h.run s1 fun H2 s2 => hr H2 (s1.trans s2) _ fun H3 s3 => q H3 (s2.trans s3))
/-- the class n at C, made by an __init__ with np positional parameters behind self and the keyword-only ones ks -/
structure MakK (P : Program) (w : World) (K : PySem.W.Frag) (mg : Str → Option Value) (base : Heap) (lv : Nat) (n : Str) (C : Addr) (np : Nat) (ks : List Str) (sp : Sp) : Prop where
  ex : ∃ f fd ps, FnOk P w K mg base (L2.CX P w) lv f fd ps sp ∧ mg n = some (.ref C) ∧ Mk K C f ∧ KBn K fd ps (np + 1) ks (fun us ws => us ++ ws) (fun vs zs => vs ++ zs)
theorem d_makK {X : Cx} {e : Expr} {es : List Expr} {kws : List Keyword} {σ : L2.St} {H : Hp} {P : V → Hp → Prop} {n : Str} {C : Addr} {np lv : Nat} {ks : List Str} {sp : Sp} {vs zs : List V} {p2 pos : Pos} (c : MakK X.prog X.w X.K X.mg X.base lv n C np ks sp) (hr : Room (lv + 1) X.A) (ha : DA X (e :: es) σ H vs) (hk : DK X kws σ H zs) (l1 : vs.length = np) (l2 : zs.length = ks.length)
    (hs : ∀ H1, Same H H1 → ∀ x dx, H1 x = none → H1 dx = none → dx ≠ x → ∀ Q : VK, (∀ H2, Same H1 H2 → P (.ref x) H2 → Q .non H2) → sp ((.ref x :: vs) ++ zs) (upd (upd H1 dx (.own x)) x (.ins C dx [])) Q E0)
    (hall : (backToKw pos (keywordEach kws X.env)).all (·.1.isSome) = true := by rfl) (hks : (backToKw pos (keywordEach kws X.env)).filterMap (·.1) = ks := by rfl) (hg : Gl X n := by rfl) (hdb : (n == ("__debug__" : Str)) = false := by decide)
    (he : starEach (e :: es) X.env = (false, eval e X.env) :: starEach es X.env := by rfl) (hpl : ((backTo pos (starEach (e :: es) X.env)).any (·.1) || (backToKw pos (keywordEach kws X.env)).any (·.1.isNone)) = false := by rfl) :
    D X (.Call (.Name n p2) (e :: es) kws pos) σ H P := by
  obtain ⟨f, fd, ps, F, h1, h2, h3⟩ := c.ex
  refine d_of (pe_makeK h2 F hr hg h1 h3 passL pa_w pk_w hall hks hdb he hpl) fun H1 s1 Q q => ha H1 s1 _ fun H2 s2 => hk H2 (s1.trans s2) _ fun H3 s3 => ⟨l1, l2, fun x dx nx nd ne => ?_⟩
  exact hs H3 ((s1.trans s2).trans s3) x dx nx nd ne _ fun H4 s4 p => ⟨rfl, q _ H4 ((s2.trans s3).trans s4) p⟩
end
end Sx

/-! Hk: the head's Hook; what is looked at holds the statics too. -/
namespace Sx
open PySem PySem.Spec PyProof.Rows L2 He
def asZ (g : Addr → Option Obj) (n : Nat) : List Addr := cStatics :: asD g n
abbrev frZ (g : Addr → Option Obj) (n : Nat) : PySem.W.Frag := frT g (asZ g n)
def obsZ (n : Nat) (fn : List DefD) (tf : List Defn) (ex : PySem.W.Frag → Bool) (g : Addr → Option Obj) : AlX := (obsT [] fn [] (frZ g n), ex (frZ g n) && tabsB g tf (frZ g n))
theorem saysZ_of {n : Nat} {fn : List DefD} {tf : List Defn} {ex : PySem.W.Frag → Bool} {w : World} {h : Heap} (e : obsZ n fn tf ex h.get? = valX fn [] w) : SaysX [] fn [] tf ex w h (frZ h.get? n) := by
  have e1 : obsT [] fn [] (frZ h.get? n) = valT fn [] w := congrArg (fun z : AlX => z.1) e
  have e2 : (ex (frZ h.get? n) && tabsB h.get? tf (frZ h.get? n)) = true := congrArg (fun z : AlX => z.2) e
  obtain ⟨h1, h2⟩ := Bool.and_eq_true_iff.mp e2
  have key : ∀ p ∈ tf, PySem.W.codeHdIn (frZ h.get? n) (cT (frZ h.get? n) p).1 (cT (frZ h.get? n) p).2 = true ∧ ∃ o, h.get? (cT (frZ h.get? n) p).2 = some o ∧ emptyTab o = true := fun p hp => by
    obtain ⟨h3, h4⟩ := Bool.and_eq_true_iff.mp (List.all_eq_true.mp h2 p hp)
    refine ⟨h3, ?_⟩
    cases q : h.get? (cT (frZ h.get? n) p).2 with
    | none =>
      rw [q] at h4
      cases h4
    | some o =>
      rw [q] at h4
      exact ⟨o, rfl, h4⟩
  exact ⟨e1, h1, fun p hp => (key p hp).1, fun p hp => by
    obtain ⟨_, o, q, z⟩ := key p hp
    exact frT_none q z, fun p hp => by
    obtain ⟨_, o, q, z⟩ := key p hp
    rw [q, emptyTab_eq z]⟩
def hookZ (n : Nat) (fn : List DefD) (tf : List Defn) (ex : PySem.W.Frag → Bool) : PySem.W.Hook where
  α := AlX
  obs := fun s => obsZ n fn tf ex s.heap.get?
  val := fun w => valX fn [] w
  says := fun w h => ∃ K : PySem.W.Frag, K.In h ∧ SaysX [] fn [] tf ex w h K
  of := fun _ _ e => ⟨_, frT_in, saysZ_of e⟩
  keeps := fun _ _ _ ⟨K, hK, c⟩ k => ⟨K, PySem.W.Frag.In.keeps hK k, ⟨c.t, c.more, c.hd, c.out, fun p hp => k _ _ (c.empty p hp)⟩⟩
theorem obsZ_eq {n : Nat} {fn : List DefD} {tf : List Defn} {ex : PySem.W.Frag → Bool} {g : Addr → Option Obj} {s : Shared} (h : ∀ a, g a = s.heap.get? a) : obsZ n fn tf ex g = (hookZ n fn tf ex).obs s := by
  have e : g = s.heap.get? := funext h
  rw [e] <;> rfl
/-- a class of one's own whose attribute m is read off the class, as it is looked at -/
def clsGetB (K : PySem.W.Frag) (C : Addr) (m : Str) (v : Value) : Bool := PySem.W.readsIn K C (.type "type") && (eqO (PySem.W.specialIn K (.ref C) "__getattribute__") (some (some (.builtin "type.__getattribute__"))) && ((match PySem.W.findCls K (.ref C) (.type "type") m with
  | some (.val u) => decide (u = v)
  | _ => false) && PySem.W.handedIn v))
theorem clsGet_of {K : PySem.W.Frag} {C : Addr} {m : Str} {v : Value} (h : clsGetB K C m v = true) : ClsGet K C m v := by
  obtain ⟨h1, h2⟩ := Bool.and_eq_true_iff.mp h
  obtain ⟨h3, h4⟩ := Bool.and_eq_true_iff.mp h2
  obtain ⟨h5, h6⟩ := Bool.and_eq_true_iff.mp h4
  refine ⟨h1, eqO_ok h3, ?_, h6⟩
  cases q : PySem.W.findCls K (.ref C) (.type "type") m with
  | none => rw [q] at h5; cases h5
  | some r =>
    rw [q] at h5
    cases r with
    | val u => rw [of_decide_eq_true h5]
    | _ => cases h5
/-- an own exception's class: its field, what makes it, what catches it -/
def excB (C f : Str) (K : PySem.W.Frag) : Bool := lexB K (ga K C) && (eqO (PySem.W.findIn K (.ref (ga K C)) f) (some none) && (eqO (PySem.W.findIn K (.ref (ga K C)) "__init__") (some (some (.ref (fAd K (C, some "__init__"))))) && decide (PySem.W.typeIn K (.ref (fAd K (C, some "__init__"))) = some (.type "function"))))
structure ExF (K : PySem.W.Frag) (C f : Str) : Prop where
  le : LEx K (ga K C)
  no : PySem.W.findIn K (.ref (ga K C)) f = some none
  ini : PySem.W.findIn K (.ref (ga K C)) "__init__" = some (some (.ref (fAd K (C, some "__init__"))))
  ty : PySem.W.typeIn K (.ref (fAd K (C, some "__init__"))) = some (.type "function")
theorem excB_ok {C f : Str} {K : PySem.W.Frag} (h : excB C f K = true) : ExF K C f := by
  obtain ⟨h1, h2⟩ := Bool.and_eq_true_iff.mp h
  obtain ⟨h3, h4⟩ := Bool.and_eq_true_iff.mp h2
  obtain ⟨h5, h6⟩ := Bool.and_eq_true_iff.mp h4
  exact ⟨lex_of h1, eqO_ok h3, eqO_ok h5, of_decide_eq_true h6⟩
end Sx

namespace KR
open PySem PySem.Spec PyProof.Rows L2 Sx
/-! ### the text by places -/
def top (i : Nat) : Stmt := PySem.Challenge.pw_keeprows_k42_phases_and_windows.main.body.getD i (.Pass ⟨0, 0, 0, 0⟩)
abbrev s_InvalidSettings___init__ : Stmt := inClass (top 3) 0
abbrev N_InvalidSettings___init__ : List Str := ["self", "part"]
abbrev P_InvalidSettings___init__ : List Str := ["self", "part"]
theorem sc_InvalidSettings___init__ : FnScope N_InvalidSettings___init__ P_InvalidSettings___init__ (defScope s_InvalidSettings___init__) := ⟨rfl, rfl, rfl, by decide +kernel, rfl, by decide +kernel, by decide +kernel⟩
def d_InvalidSettings___init__ : He.DefD := ⟨("InvalidSettings", some "__init__"), "__init__", "InvalidSettings.__init__", defArgs s_InvalidSettings___init__, defBody s_InvalidSettings___init__, defScope s_InvalidSettings___init__, [], []⟩
theorem bd_InvalidSettings___init__ (kV doc pm : Value) (an : Option Addr) (cdv ct : Value) (us : List Value) (hl : us.length = P_InvalidSettings___init__.length) : bindArgs (PySem.W.fnOf "__init__" "InvalidSettings.__init__" (defArgs s_InvalidSettings___init__) (defBody s_InvalidSettings___init__) (defScope s_InvalidSettings___init__) .none kV doc pm an cdv ct) ⟨us, []⟩ = pure (P_InvalidSettings___init__.zip us) := match us, hl with | [_, _], _ => rfl
abbrev s_InvalidNumber___init__ : Stmt := inClass (top 4) 0
abbrev N_InvalidNumber___init__ : List Str := ["self", "number"]
abbrev P_InvalidNumber___init__ : List Str := ["self", "number"]
theorem sc_InvalidNumber___init__ : FnScope N_InvalidNumber___init__ P_InvalidNumber___init__ (defScope s_InvalidNumber___init__) := ⟨rfl, rfl, rfl, by decide +kernel, rfl, by decide +kernel, by decide +kernel⟩
def d_InvalidNumber___init__ : He.DefD := ⟨("InvalidNumber", some "__init__"), "__init__", "InvalidNumber.__init__", defArgs s_InvalidNumber___init__, defBody s_InvalidNumber___init__, defScope s_InvalidNumber___init__, [], []⟩
theorem bd_InvalidNumber___init__ (kV doc pm : Value) (an : Option Addr) (cdv ct : Value) (us : List Value) (hl : us.length = P_InvalidNumber___init__.length) : bindArgs (PySem.W.fnOf "__init__" "InvalidNumber.__init__" (defArgs s_InvalidNumber___init__) (defBody s_InvalidNumber___init__) (defScope s_InvalidNumber___init__) .none kV doc pm an cdv ct) ⟨us, []⟩ = pure (P_InvalidNumber___init__.zip us) := match us, hl with | [_, _], _ => rfl
abbrev s_LimitExceeded___init__ : Stmt := inClass (top 5) 0
abbrev N_LimitExceeded___init__ : List Str := ["self", "limit"]
abbrev P_LimitExceeded___init__ : List Str := ["self", "limit"]
theorem sc_LimitExceeded___init__ : FnScope N_LimitExceeded___init__ P_LimitExceeded___init__ (defScope s_LimitExceeded___init__) := ⟨rfl, rfl, rfl, by decide +kernel, rfl, by decide +kernel, by decide +kernel⟩
def d_LimitExceeded___init__ : He.DefD := ⟨("LimitExceeded", some "__init__"), "__init__", "LimitExceeded.__init__", defArgs s_LimitExceeded___init__, defBody s_LimitExceeded___init__, defScope s_LimitExceeded___init__, [], []⟩
theorem bd_LimitExceeded___init__ (kV doc pm : Value) (an : Option Addr) (cdv ct : Value) (us : List Value) (hl : us.length = P_LimitExceeded___init__.length) : bindArgs (PySem.W.fnOf "__init__" "LimitExceeded.__init__" (defArgs s_LimitExceeded___init__) (defBody s_LimitExceeded___init__) (defScope s_LimitExceeded___init__) .none kV doc pm an cdv ct) ⟨us, []⟩ = pure (P_LimitExceeded___init__.zip us) := match us, hl with | [_, _], _ => rfl
abbrev s_is_integer : Stmt := top 14
abbrev N_is_integer : List Str := ["value"]
abbrev P_is_integer : List Str := ["value"]
theorem sc_is_integer : FnScope N_is_integer P_is_integer (defScope s_is_integer) := ⟨rfl, rfl, rfl, by decide +kernel, rfl, by decide +kernel, by decide +kernel⟩
def d_is_integer : He.DefD := ⟨("is_integer", none), "is_integer", "is_integer", defArgs s_is_integer, defBody s_is_integer, defScope s_is_integer, [], []⟩
theorem bd_is_integer (kV doc pm : Value) (an : Option Addr) (cdv ct : Value) (us : List Value) (hl : us.length = P_is_integer.length) : bindArgs (PySem.W.fnOf "is_integer" "is_integer" (defArgs s_is_integer) (defBody s_is_integer) (defScope s_is_integer) .none kV doc pm an cdv ct) ⟨us, []⟩ = pure (P_is_integer.zip us) := match us, hl with | [_], _ => rfl
abbrev s_is_between : Stmt := top 15
abbrev N_is_between : List Str := ["value", "low", "high"]
abbrev P_is_between : List Str := ["value", "low", "high"]
theorem sc_is_between : FnScope N_is_between P_is_between (defScope s_is_between) := ⟨rfl, rfl, rfl, by decide +kernel, rfl, by decide +kernel, by decide +kernel⟩
def d_is_between : He.DefD := ⟨("is_between", none), "is_between", "is_between", defArgs s_is_between, defBody s_is_between, defScope s_is_between, [], []⟩
theorem bd_is_between (kV doc pm : Value) (an : Option Addr) (cdv ct : Value) (us : List Value) (hl : us.length = P_is_between.length) : bindArgs (PySem.W.fnOf "is_between" "is_between" (defArgs s_is_between) (defBody s_is_between) (defScope s_is_between) .none kV doc pm an cdv ct) ⟨us, []⟩ = pure (P_is_between.zip us) := match us, hl with | [_, _, _], _ => rfl
abbrev s_check_part : Stmt := top 16
abbrev N_check_part : List Str := ["part", "value", "low", "high"]
abbrev P_check_part : List Str := ["part", "value", "low", "high"]
theorem sc_check_part : FnScope N_check_part P_check_part (defScope s_check_part) := ⟨rfl, rfl, rfl, by decide +kernel, rfl, by decide +kernel, by decide +kernel⟩
def d_check_part : He.DefD := ⟨("check_part", none), "check_part", "check_part", defArgs s_check_part, defBody s_check_part, defScope s_check_part, [], []⟩
theorem bd_check_part (kV doc pm : Value) (an : Option Addr) (cdv ct : Value) (us : List Value) (hl : us.length = P_check_part.length) : bindArgs (PySem.W.fnOf "check_part" "check_part" (defArgs s_check_part) (defBody s_check_part) (defScope s_check_part) .none kV doc pm an cdv ct) ⟨us, []⟩ = pure (P_check_part.zip us) := match us, hl with | [_, _, _, _], _ => rfl
abbrev s_Settings___init__ : Stmt := inClass (top 17) 0
abbrev N_Settings___init__ : List Str := ["self", "lengths", "size", "fanout", "records", "every", "keep", "length"]
abbrev P_Settings___init__ : List Str := ["self", "lengths", "size", "fanout", "records", "every", "keep"]
theorem sc_Settings___init__ : FnScope N_Settings___init__ P_Settings___init__ (defScope s_Settings___init__) := ⟨rfl, rfl, rfl, by decide +kernel, rfl, by decide +kernel, by decide +kernel⟩
def d_Settings___init__ : He.DefD := ⟨("Settings", some "__init__"), "__init__", "Settings.__init__", defArgs s_Settings___init__, defBody s_Settings___init__, defScope s_Settings___init__, [], []⟩
abbrev K_Settings___init__ : List Str := ["fanout", "records", "every", "keep"]
theorem bdk_Settings___init__ (kV doc pm : Value) (an : Option Addr) (cdv ct : Value) (us ws : List Value) (hl : us.length = 3) (hw : ws.length = 4) : bindArgs (PySem.W.fnOf "__init__" "Settings.__init__" (defArgs s_Settings___init__) (defBody s_Settings___init__) (defScope s_Settings___init__) .none kV doc pm an cdv ct) ⟨us, K_Settings___init__.zip ws⟩ = pure (P_Settings___init__.zip (us ++ ws)) := match us, hl, ws, hw with | [_, _, _], _, [_, _, _, _], _ => rfl
abbrev s_Settings___eq__ : Stmt := inClass (top 17) 1
abbrev N_Settings___eq__ : List Str := ["self", "other"]
abbrev P_Settings___eq__ : List Str := ["self", "other"]
theorem sc_Settings___eq__ : FnScope N_Settings___eq__ P_Settings___eq__ (defScope s_Settings___eq__) := ⟨rfl, rfl, rfl, by decide +kernel, rfl, by decide +kernel, by decide +kernel⟩
def d_Settings___eq__ : He.DefD := ⟨("Settings", some "__eq__"), "__eq__", "Settings.__eq__", defArgs s_Settings___eq__, defBody s_Settings___eq__, defScope s_Settings___eq__, [], []⟩
theorem bd_Settings___eq__ (kV doc pm : Value) (an : Option Addr) (cdv ct : Value) (us : List Value) (hl : us.length = P_Settings___eq__.length) : bindArgs (PySem.W.fnOf "__eq__" "Settings.__eq__" (defArgs s_Settings___eq__) (defBody s_Settings___eq__) (defScope s_Settings___eq__) .none kV doc pm an cdv ct) ⟨us, []⟩ = pure (P_Settings___eq__.zip us) := match us, hl with | [_, _], _ => rfl
abbrev s_Settings_parts : Stmt := inClass (top 17) 2
abbrev N_Settings_parts : List Str := ["self"]
abbrev P_Settings_parts : List Str := ["self"]
theorem sc_Settings_parts : FnScope N_Settings_parts P_Settings_parts (defScope s_Settings_parts) := ⟨rfl, rfl, rfl, by decide +kernel, rfl, by decide +kernel, by decide +kernel⟩
def d_Settings_parts : He.DefD := ⟨("Settings", some "parts"), "parts", "Settings.parts", defArgs s_Settings_parts, defBody s_Settings_parts, defScope s_Settings_parts, [], []⟩
theorem bd_Settings_parts (kV doc pm : Value) (an : Option Addr) (cdv ct : Value) (us : List Value) (hl : us.length = P_Settings_parts.length) : bindArgs (PySem.W.fnOf "parts" "Settings.parts" (defArgs s_Settings_parts) (defBody s_Settings_parts) (defScope s_Settings_parts) .none kV doc pm an cdv ct) ⟨us, []⟩ = pure (P_Settings_parts.zip us) := match us, hl with | [_], _ => rfl
abbrev s_check_settings : Stmt := top 18
abbrev N_check_settings : List Str := ["value"]
abbrev P_check_settings : List Str := ["value"]
theorem sc_check_settings : FnScope N_check_settings P_check_settings (defScope s_check_settings) := ⟨rfl, rfl, rfl, by decide +kernel, rfl, by decide +kernel, by decide +kernel⟩
def d_check_settings : He.DefD := ⟨("check_settings", none), "check_settings", "check_settings", defArgs s_check_settings, defBody s_check_settings, defScope s_check_settings, [], []⟩
theorem bd_check_settings (kV doc pm : Value) (an : Option Addr) (cdv ct : Value) (us : List Value) (hl : us.length = P_check_settings.length) : bindArgs (PySem.W.fnOf "check_settings" "check_settings" (defArgs s_check_settings) (defBody s_check_settings) (defScope s_check_settings) .none kV doc pm an cdv ct) ⟨us, []⟩ = pure (P_check_settings.zip us) := match us, hl with | [_], _ => rfl
abbrev s_check_moment : Stmt := top 19
abbrev N_check_moment : List Str := ["value"]
abbrev P_check_moment : List Str := ["value"]
theorem sc_check_moment : FnScope N_check_moment P_check_moment (defScope s_check_moment) := ⟨rfl, rfl, rfl, by decide +kernel, rfl, by decide +kernel, by decide +kernel⟩
def d_check_moment : He.DefD := ⟨("check_moment", none), "check_moment", "check_moment", defArgs s_check_moment, defBody s_check_moment, defScope s_check_moment, [], []⟩
theorem bd_check_moment (kV doc pm : Value) (an : Option Addr) (cdv ct : Value) (us : List Value) (hl : us.length = P_check_moment.length) : bindArgs (PySem.W.fnOf "check_moment" "check_moment" (defArgs s_check_moment) (defBody s_check_moment) (defScope s_check_moment) .none kV doc pm an cdv ct) ⟨us, []⟩ = pure (P_check_moment.zip us) := match us, hl with | [_], _ => rfl
abbrev s_Packing___init__ : Stmt := inClass (top 21) 0
abbrev N_Packing___init__ : List Str := ["self", "settings", "seen"]
abbrev P_Packing___init__ : List Str := ["self", "settings"]
theorem sc_Packing___init__ : FnScope N_Packing___init__ P_Packing___init__ (defScope s_Packing___init__) := ⟨rfl, rfl, rfl, by decide +kernel, rfl, by decide +kernel, by decide +kernel⟩
def d_Packing___init__ : He.DefD := ⟨("Packing", some "__init__"), "__init__", "Packing.__init__", defArgs s_Packing___init__, defBody s_Packing___init__, defScope s_Packing___init__, [], []⟩
theorem bd_Packing___init__ (kV doc pm : Value) (an : Option Addr) (cdv ct : Value) (us : List Value) (hl : us.length = P_Packing___init__.length) : bindArgs (PySem.W.fnOf "__init__" "Packing.__init__" (defArgs s_Packing___init__) (defBody s_Packing___init__) (defScope s_Packing___init__) .none kV doc pm an cdv ct) ⟨us, []⟩ = pure (P_Packing___init__.zip us) := match us, hl with | [_, _], _ => rfl
abbrev s_Packing_length : Stmt := inClass (top 21) 1
abbrev N_Packing_length : List Str := ["self", "row"]
abbrev P_Packing_length : List Str := ["self", "row"]
theorem sc_Packing_length : FnScope N_Packing_length P_Packing_length (defScope s_Packing_length) := ⟨rfl, rfl, rfl, by decide +kernel, rfl, by decide +kernel, by decide +kernel⟩
def d_Packing_length : He.DefD := ⟨("Packing", some "length"), "length", "Packing.length", defArgs s_Packing_length, defBody s_Packing_length, defScope s_Packing_length, [], []⟩
theorem bd_Packing_length (kV doc pm : Value) (an : Option Addr) (cdv ct : Value) (us : List Value) (hl : us.length = P_Packing_length.length) : bindArgs (PySem.W.fnOf "length" "Packing.length" (defArgs s_Packing_length) (defBody s_Packing_length) (defScope s_Packing_length) .none kV doc pm an cdv ct) ⟨us, []⟩ = pure (P_Packing_length.zip us) := match us, hl with | [_, _], _ => rfl
abbrev s_Packing_rows_from : Stmt := inClass (top 21) 2
abbrev N_Packing_rows_from : List Str := ["self", "row", "found", "units"]
abbrev P_Packing_rows_from : List Str := ["self", "row"]
theorem sc_Packing_rows_from : FnScope N_Packing_rows_from P_Packing_rows_from (defScope s_Packing_rows_from) := ⟨rfl, rfl, rfl, by decide +kernel, rfl, by decide +kernel, by decide +kernel⟩
def d_Packing_rows_from : He.DefD := ⟨("Packing", some "rows_from"), "rows_from", "Packing.rows_from", defArgs s_Packing_rows_from, defBody s_Packing_rows_from, defScope s_Packing_rows_from, [], []⟩
theorem bd_Packing_rows_from (kV doc pm : Value) (an : Option Addr) (cdv ct : Value) (us : List Value) (hl : us.length = P_Packing_rows_from.length) : bindArgs (PySem.W.fnOf "rows_from" "Packing.rows_from" (defArgs s_Packing_rows_from) (defBody s_Packing_rows_from) (defScope s_Packing_rows_from) .none kV doc pm an cdv ct) ⟨us, []⟩ = pure (P_Packing_rows_from.zip us) := match us, hl with | [_, _], _ => rfl
abbrev s_Packing_start : Stmt := inClass (top 21) 3
abbrev N_Packing_start : List Str := ["self", "page", "times", "place"]
abbrev P_Packing_start : List Str := ["self", "page"]
theorem sc_Packing_start : FnScope N_Packing_start P_Packing_start (defScope s_Packing_start) := ⟨rfl, rfl, rfl, by decide +kernel, rfl, by decide +kernel, by decide +kernel⟩
def d_Packing_start : He.DefD := ⟨("Packing", some "start"), "start", "Packing.start", defArgs s_Packing_start, defBody s_Packing_start, defScope s_Packing_start, [], []⟩
theorem bd_Packing_start (kV doc pm : Value) (an : Option Addr) (cdv ct : Value) (us : List Value) (hl : us.length = P_Packing_start.length) : bindArgs (PySem.W.fnOf "start" "Packing.start" (defArgs s_Packing_start) (defBody s_Packing_start) (defScope s_Packing_start) .none kV doc pm an cdv ct) ⟨us, []⟩ = pure (P_Packing_start.zip us) := match us, hl with | [_, _], _ => rfl
abbrev s_Packing_holder : Stmt := inClass (top 21) 4
abbrev N_Packing_holder : List Str := ["self", "row", "times", "near", "page", "place"]
abbrev P_Packing_holder : List Str := ["self", "row"]
theorem sc_Packing_holder : FnScope N_Packing_holder P_Packing_holder (defScope s_Packing_holder) := ⟨rfl, rfl, rfl, by decide +kernel, rfl, by decide +kernel, by decide +kernel⟩
def d_Packing_holder : He.DefD := ⟨("Packing", some "holder"), "holder", "Packing.holder", defArgs s_Packing_holder, defBody s_Packing_holder, defScope s_Packing_holder, [], []⟩
theorem bd_Packing_holder (kV doc pm : Value) (an : Option Addr) (cdv ct : Value) (us : List Value) (hl : us.length = P_Packing_holder.length) : bindArgs (PySem.W.fnOf "holder" "Packing.holder" (defArgs s_Packing_holder) (defBody s_Packing_holder) (defScope s_Packing_holder) .none kV doc pm an cdv ct) ⟨us, []⟩ = pure (P_Packing_holder.zip us) := match us, hl with | [_, _], _ => rfl
abbrev s_Packing_begun : Stmt := inClass (top 21) 12
abbrev N_Packing_begun : List Str := ["self", "moment"]
abbrev P_Packing_begun : List Str := ["self", "moment"]
theorem sc_Packing_begun : FnScope N_Packing_begun P_Packing_begun (defScope s_Packing_begun) := ⟨rfl, rfl, rfl, by decide +kernel, rfl, by decide +kernel, by decide +kernel⟩
def d_Packing_begun : He.DefD := ⟨("Packing", some "begun"), "begun", "Packing.begun", defArgs s_Packing_begun, defBody s_Packing_begun, defScope s_Packing_begun, [], []⟩
theorem bd_Packing_begun (kV doc pm : Value) (an : Option Addr) (cdv ct : Value) (us : List Value) (hl : us.length = P_Packing_begun.length) : bindArgs (PySem.W.fnOf "begun" "Packing.begun" (defArgs s_Packing_begun) (defBody s_Packing_begun) (defScope s_Packing_begun) .none kV doc pm an cdv ct) ⟨us, []⟩ = pure (P_Packing_begun.zip us) := match us, hl with | [_, _], _ => rfl
abbrev s_Packing_cycle : Stmt := inClass (top 21) 13
abbrev N_Packing_cycle : List Str := ["self"]
abbrev P_Packing_cycle : List Str := ["self"]
theorem sc_Packing_cycle : FnScope N_Packing_cycle P_Packing_cycle (defScope s_Packing_cycle) := ⟨rfl, rfl, rfl, by decide +kernel, rfl, by decide +kernel, by decide +kernel⟩
def d_Packing_cycle : He.DefD := ⟨("Packing", some "cycle"), "cycle", "Packing.cycle", defArgs s_Packing_cycle, defBody s_Packing_cycle, defScope s_Packing_cycle, [], []⟩
theorem bd_Packing_cycle (kV doc pm : Value) (an : Option Addr) (cdv ct : Value) (us : List Value) (hl : us.length = P_Packing_cycle.length) : bindArgs (PySem.W.fnOf "cycle" "Packing.cycle" (defArgs s_Packing_cycle) (defBody s_Packing_cycle) (defScope s_Packing_cycle) .none kV doc pm an cdv ct) ⟨us, []⟩ = pure (P_Packing_cycle.zip us) := match us, hl with | [_], _ => rfl
abbrev s_common_factor : Stmt := top 23
abbrev N_common_factor : List Str := ["one", "other"]
abbrev P_common_factor : List Str := ["one", "other"]
theorem sc_common_factor : FnScope N_common_factor P_common_factor (defScope s_common_factor) := ⟨rfl, rfl, rfl, by decide +kernel, rfl, by decide +kernel, by decide +kernel⟩
def d_common_factor : He.DefD := ⟨("common_factor", none), "common_factor", "common_factor", defArgs s_common_factor, defBody s_common_factor, defScope s_common_factor, [], []⟩
theorem bd_common_factor (kV doc pm : Value) (an : Option Addr) (cdv ct : Value) (us : List Value) (hl : us.length = P_common_factor.length) : bindArgs (PySem.W.fnOf "common_factor" "common_factor" (defArgs s_common_factor) (defBody s_common_factor) (defScope s_common_factor) .none kV doc pm an cdv ct) ⟨us, []⟩ = pure (P_common_factor.zip us) := match us, hl with | [_, _], _ => rfl
abbrev s_Plan___init__ : Stmt := inClass (top 27) 0
abbrev N_Plan___init__ : List Str := ["self", "settings", "first", "pages", "rows"]
abbrev P_Plan___init__ : List Str := ["self", "settings"]
theorem sc_Plan___init__ : FnScope N_Plan___init__ P_Plan___init__ (defScope s_Plan___init__) := ⟨rfl, rfl, rfl, by decide +kernel, rfl, by decide +kernel, by decide +kernel⟩
def d_Plan___init__ : He.DefD := ⟨("Plan", some "__init__"), "__init__", "Plan.__init__", defArgs s_Plan___init__, defBody s_Plan___init__, defScope s_Plan___init__, [], []⟩
theorem bd_Plan___init__ (kV doc pm : Value) (an : Option Addr) (cdv ct : Value) (us : List Value) (hl : us.length = P_Plan___init__.length) : bindArgs (PySem.W.fnOf "__init__" "Plan.__init__" (defArgs s_Plan___init__) (defBody s_Plan___init__) (defScope s_Plan___init__) .none kV doc pm an cdv ct) ⟨us, []⟩ = pure (P_Plan___init__.zip us) := match us, hl with | [_, _], _ => rfl
abbrev s_Plan_most_pages : Stmt := inClass (top 27) 1
abbrev N_Plan_most_pages : List Str := ["self", "many", "begin", "found", "row"]
abbrev P_Plan_most_pages : List Str := ["self", "many"]
theorem sc_Plan_most_pages : FnScope N_Plan_most_pages P_Plan_most_pages (defScope s_Plan_most_pages) := ⟨rfl, rfl, rfl, by decide +kernel, rfl, by decide +kernel, by decide +kernel⟩
def d_Plan_most_pages : He.DefD := ⟨("Plan", some "most_pages"), "most_pages", "Plan.most_pages", defArgs s_Plan_most_pages, defBody s_Plan_most_pages, defScope s_Plan_most_pages, [], []⟩
theorem bd_Plan_most_pages (kV doc pm : Value) (an : Option Addr) (cdv ct : Value) (us : List Value) (hl : us.length = P_Plan_most_pages.length) : bindArgs (PySem.W.fnOf "most_pages" "Plan.most_pages" (defArgs s_Plan_most_pages) (defBody s_Plan_most_pages) (defScope s_Plan_most_pages) .none kV doc pm an cdv ct) ⟨us, []⟩ = pure (P_Plan_most_pages.zip us) := match us, hl with | [_, _], _ => rfl
abbrev s_Plan_is_full : Stmt := inClass (top 27) 2
abbrev N_Plan_is_full : List Str := ["self", "block", "page"]
abbrev P_Plan_is_full : List Str := ["self", "block"]
theorem sc_Plan_is_full : FnScope N_Plan_is_full P_Plan_is_full (defScope s_Plan_is_full) := ⟨rfl, rfl, rfl, by decide +kernel, rfl, by decide +kernel, by decide +kernel⟩
def d_Plan_is_full : He.DefD := ⟨("Plan", some "is_full"), "is_full", "Plan.is_full", defArgs s_Plan_is_full, defBody s_Plan_is_full, defScope s_Plan_is_full, [], []⟩
theorem bd_Plan_is_full (kV doc pm : Value) (an : Option Addr) (cdv ct : Value) (us : List Value) (hl : us.length = P_Plan_is_full.length) : bindArgs (PySem.W.fnOf "is_full" "Plan.is_full" (defArgs s_Plan_is_full) (defBody s_Plan_is_full) (defScope s_Plan_is_full) .none kV doc pm an cdv ct) ⟨us, []⟩ = pure (P_Plan_is_full.zip us) := match us, hl with | [_, _], _ => rfl
abbrev s_phases : Stmt := top 28
abbrev N_phases : List Str := ["settings", "plan"]
abbrev P_phases : List Str := ["settings"]
theorem sc_phases : FnScope N_phases P_phases (defScope s_phases) := ⟨rfl, rfl, rfl, by decide +kernel, rfl, by decide +kernel, by decide +kernel⟩
def d_phases : He.DefD := ⟨("phases", none), "phases", "phases", defArgs s_phases, defBody s_phases, defScope s_phases, [], []⟩
theorem bd_phases (kV doc pm : Value) (an : Option Addr) (cdv ct : Value) (us : List Value) (hl : us.length = P_phases.length) : bindArgs (PySem.W.fnOf "phases" "phases" (defArgs s_phases) (defBody s_phases) (defScope s_phases) .none kV doc pm an cdv ct) ⟨us, []⟩ = pure (P_phases.zip us) := match us, hl with | [_], _ => rfl
abbrev s_window : Stmt := top 29
abbrev N_window : List Str := ["settings", "plan"]
abbrev P_window : List Str := ["settings"]
theorem sc_window : FnScope N_window P_window (defScope s_window) := ⟨rfl, rfl, rfl, by decide +kernel, rfl, by decide +kernel, by decide +kernel⟩
def d_window : He.DefD := ⟨("window", none), "window", "window", defArgs s_window, defBody s_window, defScope s_window, [], []⟩
theorem bd_window (kV doc pm : Value) (an : Option Addr) (cdv ct : Value) (us : List Value) (hl : us.length = P_window.length) : bindArgs (PySem.W.fnOf "window" "window" (defArgs s_window) (defBody s_window) (defScope s_window) .none kV doc pm an cdv ct) ⟨us, []⟩ = pure (P_window.zip us) := match us, hl with | [_], _ => rfl
abbrev s_blocks : Stmt := top 30
abbrev N_blocks : List Str := ["settings", "plan"]
abbrev P_blocks : List Str := ["settings"]
theorem sc_blocks : FnScope N_blocks P_blocks (defScope s_blocks) := ⟨rfl, rfl, rfl, by decide +kernel, rfl, by decide +kernel, by decide +kernel⟩
def d_blocks : He.DefD := ⟨("blocks", none), "blocks", "blocks", defArgs s_blocks, defBody s_blocks, defScope s_blocks, [], []⟩
theorem bd_blocks (kV doc pm : Value) (an : Option Addr) (cdv ct : Value) (us : List Value) (hl : us.length = P_blocks.length) : bindArgs (PySem.W.fnOf "blocks" "blocks" (defArgs s_blocks) (defBody s_blocks) (defScope s_blocks) .none kV doc pm an cdv ct) ⟨us, []⟩ = pure (P_blocks.zip us) := match us, hl with | [_], _ => rfl
abbrev s__law_digits : Stmt := top 32
abbrev N__law_digits : List Str := ["cell", "many", "digits", "rest", "number", "k"]
abbrev P__law_digits : List Str := ["cell", "many"]
theorem sc__law_digits : FnScope N__law_digits P__law_digits (defScope s__law_digits) := ⟨rfl, rfl, rfl, by decide +kernel, rfl, by decide +kernel, by decide +kernel⟩
def d__law_digits : He.DefD := ⟨("_law_digits", none), "_law_digits", "_law_digits", defArgs s__law_digits, defBody s__law_digits, defScope s__law_digits, [], []⟩
theorem bd__law_digits (kV doc pm : Value) (an : Option Addr) (cdv ct : Value) (us : List Value) (hl : us.length = P__law_digits.length) : bindArgs (PySem.W.fnOf "_law_digits" "_law_digits" (defArgs s__law_digits) (defBody s__law_digits) (defScope s__law_digits) .none kV doc pm an cdv ct) ⟨us, []⟩ = pure (P__law_digits.zip us) := match us, hl with | [_, _], _ => rfl
abbrev s__law_parts : Stmt := top 33
abbrev N__law_parts : List Str := ["digits", "size", "lengths", "k", "parts"]
abbrev P__law_parts : List Str := ["digits"]
theorem sc__law_parts : FnScope N__law_parts P__law_parts (defScope s__law_parts) := ⟨rfl, rfl, rfl, by decide +kernel, rfl, by decide +kernel, by decide +kernel⟩
def d__law_parts : He.DefD := ⟨("_law_parts", none), "_law_parts", "_law_parts", defArgs s__law_parts, defBody s__law_parts, defScope s__law_parts, [], []⟩
theorem bd__law_parts (kV doc pm : Value) (an : Option Addr) (cdv ct : Value) (us : List Value) (hl : us.length = P__law_parts.length) : bindArgs (PySem.W.fnOf "_law_parts" "_law_parts" (defArgs s__law_parts) (defBody s__law_parts) (defScope s__law_parts) .none kV doc pm an cdv ct) ⟨us, []⟩ = pure (P__law_parts.zip us) := match us, hl with | [_], _ => rfl
abbrev s__law_settings : Stmt := top 34
abbrev N__law_settings : List Str := ["parts", "fan", "many", "pace", "kept", "word"]
abbrev P__law_settings : List Str := ["parts"]
theorem sc__law_settings : FnScope N__law_settings P__law_settings (defScope s__law_settings) := ⟨rfl, rfl, rfl, by decide +kernel, rfl, by decide +kernel, by decide +kernel⟩
def d__law_settings : He.DefD := ⟨("_law_settings", none), "_law_settings", "_law_settings", defArgs s__law_settings, defBody s__law_settings, defScope s__law_settings, [], []⟩
theorem bd__law_settings (kV doc pm : Value) (an : Option Addr) (cdv ct : Value) (us : List Value) (hl : us.length = P__law_settings.length) : bindArgs (PySem.W.fnOf "_law_settings" "_law_settings" (defArgs s__law_settings) (defBody s__law_settings) (defScope s__law_settings) .none kV doc pm an cdv ct) ⟨us, []⟩ = pure (P__law_settings.zip us) := match us, hl with | [_], _ => rfl
abbrev s__law_starts : Stmt := top 35
abbrev N__law_starts : List Str := ["parts", "starts", "seen", "row", "left"]
abbrev P__law_starts : List Str := ["parts"]
theorem sc__law_starts : FnScope N__law_starts P__law_starts (defScope s__law_starts) := ⟨rfl, rfl, rfl, by decide +kernel, rfl, by decide +kernel, by decide +kernel⟩
def d__law_starts : He.DefD := ⟨("_law_starts", none), "_law_starts", "_law_starts", defArgs s__law_starts, defBody s__law_starts, defScope s__law_starts, [], []⟩
theorem bd__law_starts (kV doc pm : Value) (an : Option Addr) (cdv ct : Value) (us : List Value) (hl : us.length = P__law_starts.length) : bindArgs (PySem.W.fnOf "_law_starts" "_law_starts" (defArgs s__law_starts) (defBody s__law_starts) (defScope s__law_starts) .none kV doc pm an cdv ct) ⟨us, []⟩ = pure (P__law_starts.zip us) := match us, hl with | [_], _ => rfl
abbrev s__law_start : Stmt := top 36
abbrev N__law_start : List Str := ["parts", "page", "starts", "first", "many", "rows", "times"]
abbrev P__law_start : List Str := ["parts", "page"]
theorem sc__law_start : FnScope N__law_start P__law_start (defScope s__law_start) := ⟨rfl, rfl, rfl, by decide +kernel, rfl, by decide +kernel, by decide +kernel⟩
def d__law_start : He.DefD := ⟨("_law_start", none), "_law_start", "_law_start", defArgs s__law_start, defBody s__law_start, defScope s__law_start, [], []⟩
theorem bd__law_start (kV doc pm : Value) (an : Option Addr) (cdv ct : Value) (us : List Value) (hl : us.length = P__law_start.length) : bindArgs (PySem.W.fnOf "_law_start" "_law_start" (defArgs s__law_start) (defBody s__law_start) (defScope s__law_start) .none kV doc pm an cdv ct) ⟨us, []⟩ = pure (P__law_start.zip us) := match us, hl with | [_, _], _ => rfl
abbrev s__law_said : Stmt := top 37
abbrev N__law_said : List Str := ["ask", "found", "error"]
abbrev P__law_said : List Str := ["ask"]
theorem sc__law_said : FnScope N__law_said P__law_said (defScope s__law_said) := ⟨rfl, rfl, rfl, by decide +kernel, rfl, by decide +kernel, by decide +kernel⟩
def d__law_said : He.DefD := ⟨("_law_said", none), "_law_said", "_law_said", defArgs s__law_said, defBody s__law_said, defScope s__law_said, [], []⟩
theorem bd__law_said (kV doc pm : Value) (an : Option Addr) (cdv ct : Value) (us : List Value) (hl : us.length = P__law_said.length) : bindArgs (PySem.W.fnOf "_law_said" "_law_said" (defArgs s__law_said) (defBody s__law_said) (defScope s__law_said) .none kV doc pm an cdv ct) ⟨us, []⟩ = pure (P__law_said.zip us) := match us, hl with | [_], _ => rfl
abbrev s__law_phases : Stmt := top 38
abbrev N__law_phases : List Str := ["parts", "starts", "first", "pages", "rows", "times"]
abbrev P__law_phases : List Str := ["parts"]
theorem sc__law_phases : FnScope N__law_phases P__law_phases (defScope s__law_phases) := ⟨rfl, rfl, rfl, by decide +kernel, rfl, by decide +kernel, by decide +kernel⟩
def d__law_phases : He.DefD := ⟨("_law_phases", none), "_law_phases", "_law_phases", defArgs s__law_phases, defBody s__law_phases, defScope s__law_phases, [], []⟩
theorem bd__law_phases (kV doc pm : Value) (an : Option Addr) (cdv ct : Value) (us : List Value) (hl : us.length = P__law_phases.length) : bindArgs (PySem.W.fnOf "_law_phases" "_law_phases" (defArgs s__law_phases) (defBody s__law_phases) (defScope s__law_phases) .none kV doc pm an cdv ct) ⟨us, []⟩ = pure (P__law_phases.zip us) := match us, hl with | [_], _ => rfl
abbrev s__law_window : Stmt := top 39
abbrev N__law_window : List Str := ["parts", "rows", "starts", "first", "begin", "pages", "page", "row", "standing"]
abbrev P__law_window : List Str := ["parts", "rows"]
theorem sc__law_window : FnScope N__law_window P__law_window (defScope s__law_window) := ⟨rfl, rfl, rfl, by decide +kernel, rfl, by decide +kernel, by decide +kernel⟩
def d__law_window : He.DefD := ⟨("_law_window", none), "_law_window", "_law_window", defArgs s__law_window, defBody s__law_window, defScope s__law_window, [], []⟩
theorem bd__law_window (kV doc pm : Value) (an : Option Addr) (cdv ct : Value) (us : List Value) (hl : us.length = P__law_window.length) : bindArgs (PySem.W.fnOf "_law_window" "_law_window" (defArgs s__law_window) (defBody s__law_window) (defScope s__law_window) .none kV doc pm an cdv ct) ⟨us, []⟩ = pure (P__law_window.zip us) := match us, hl with | [_, _], _ => rfl
abbrev s__law_blocks : Stmt := top 40
abbrev N__law_blocks : List Str := ["parts", "standing", "begun", "width", "number", "least", "rows"]
abbrev P__law_blocks : List Str := ["parts", "standing", "begun"]
theorem sc__law_blocks : FnScope N__law_blocks P__law_blocks (defScope s__law_blocks) := ⟨rfl, rfl, rfl, by decide +kernel, rfl, by decide +kernel, by decide +kernel⟩
def d__law_blocks : He.DefD := ⟨("_law_blocks", none), "_law_blocks", "_law_blocks", defArgs s__law_blocks, defBody s__law_blocks, defScope s__law_blocks, [], []⟩
theorem bd__law_blocks (kV doc pm : Value) (an : Option Addr) (cdv ct : Value) (us : List Value) (hl : us.length = P__law_blocks.length) : bindArgs (PySem.W.fnOf "_law_blocks" "_law_blocks" (defArgs s__law_blocks) (defBody s__law_blocks) (defScope s__law_blocks) .none kV doc pm an cdv ct) ⟨us, []⟩ = pure (P__law_blocks.zip us) := match us, hl with | [_, _, _], _ => rfl
abbrev s_law : Stmt := top 41
abbrev N_law : List Str := ["script", "cell", "digits", "parts", "due", "settings_so", "asks", "ask", "standing", "begun", "last", "wanted"]
abbrev P_law : List Str := ["script"]
theorem sc_law : FnScope N_law P_law (defScope s_law) := ⟨rfl, rfl, rfl, by decide +kernel, rfl, by decide +kernel, by decide +kernel⟩
def d_law : He.DefD := ⟨("law", none), "law", "law", defArgs s_law, defBody s_law, defScope s_law, [], []⟩
theorem bd_law (kV doc pm : Value) (an : Option Addr) (cdv ct : Value) (us : List Value) (hl : us.length = P_law.length) : bindArgs (PySem.W.fnOf "law" "law" (defArgs s_law) (defBody s_law) (defScope s_law) .none kV doc pm an cdv ct) ⟨us, []⟩ = pure (P_law.zip us) := match us, hl with | [_], _ => rfl
def fnl : List He.DefD := [d_InvalidSettings___init__, d_InvalidNumber___init__, d_LimitExceeded___init__, d_is_integer, d_is_between, d_check_part, d_Settings___init__, d_Settings___eq__, d_Settings_parts, d_check_settings, d_check_moment, d_Packing___init__, d_Packing_length, d_Packing_rows_from, d_Packing_start, d_Packing_holder, d_Packing_begun, d_Packing_cycle, d_common_factor, d_Plan___init__, d_Plan_most_pages, d_Plan_is_full, d_phases, d_window, d_blocks, d__law_digits, d__law_parts, d__law_settings, d__law_starts, d__law_start, d__law_said, d__law_phases, d__law_window, d__law_blocks, d_law]
abbrev i_InvalidSettings___init__ : Nat := 0
abbrev i_InvalidNumber___init__ : Nat := 1
abbrev i_LimitExceeded___init__ : Nat := 2
abbrev i_is_integer : Nat := 3
abbrev i_is_between : Nat := 4
abbrev i_check_part : Nat := 5
abbrev i_Settings___init__ : Nat := 6
abbrev i_Settings___eq__ : Nat := 7
abbrev i_Settings_parts : Nat := 8
abbrev i_check_settings : Nat := 9
abbrev i_check_moment : Nat := 10
abbrev i_Packing___init__ : Nat := 11
abbrev i_Packing_length : Nat := 12
abbrev i_Packing_rows_from : Nat := 13
abbrev i_Packing_start : Nat := 14
abbrev i_Packing_holder : Nat := 15
abbrev i_Packing_begun : Nat := 16
abbrev i_Packing_cycle : Nat := 17
abbrev i_common_factor : Nat := 18
abbrev i_Plan___init__ : Nat := 19
abbrev i_Plan_most_pages : Nat := 20
abbrev i_Plan_is_full : Nat := 21
abbrev i_phases : Nat := 22
abbrev i_window : Nat := 23
abbrev i_blocks : Nat := 24
abbrev i__law_digits : Nat := 25
abbrev i__law_parts : Nat := 26
abbrev i__law_settings : Nat := 27
abbrev i__law_starts : Nat := 28
abbrev i__law_start : Nat := 29
abbrev i__law_said : Nat := 30
abbrev i__law_phases : Nat := 31
abbrev i__law_window : Nat := 32
abbrev i__law_blocks : Nat := 33
abbrev i_law : Nat := 34
/-! ### facts of the head -/
abbrev cA (K : PySem.W.Frag) (C : Str) : Addr := He.ga K C
def klB (C : Str) (names : List Str) (K : PySem.W.Frag) : Bool := (He.Fa.cls C).ok K && (names.all (fun f => (He.Fa.noat C f).ok K) && (decide names.Nodup && decide (names.length ≤ 100)))
def freeB (xs : List Str) (K : PySem.W.Frag) : Bool := xs.all fun x => (He.Fa.free x).ok K
def gloB (xs : List Str) (K : PySem.W.Frag) : Bool := xs.all fun x => (He.Fa.glo x).ok K
def intB (xs : List (Str × Int)) (K : PySem.W.Frag) : Bool := xs.all fun x => (He.Fa.int x.1 x.2).ok K
def metB (C : Str) (ms : List (Str × Str)) (K : PySem.W.Frag) : Bool := ms.all fun m => (He.Fa.meth C m.1).ok K && decide (He.fAd K (C, some m.1) = He.fAd K (m.2, some m.1))
def mkB (C D : Str) (K : PySem.W.Frag) : Bool := (He.Fa.mkr C).ok K && decide (He.fAd K (C, some "__init__") = He.fAd K (D, some "__init__"))
def isiB (C : Str) (K : PySem.W.Frag) : Bool := He.eqO (PySem.W.findIn K (.ref (He.ga K C)) "__class__") (some (some (.builtin "object.__class__"))) && (He.eqO (PySem.W.specialIn K (.builtin "object.__class__") "__get__") (some (some (.builtin "getset_descriptor.__get__"))) && (decide (PySem.W.takesIn K (.builtin "object.__class__") = some true) && decide (PySem.W.mroIn K (He.ga K C) (.type "object") = some true)))
def kitB (D : Str) (cs : List (Str × Bool)) (ts : List (String × Bool)) (K : PySem.W.Frag) : Bool := cs.all (fun c => decide (PySem.W.kitOne K (.ref (He.ga K c.1)) (.ref (He.ga K D)) = some c.2)) && ts.all (fun c => decide (PySem.W.kitOne K (.type c.1) (.ref (He.ga K D)) = some c.2))
abbrev n_Settings : List Str := ["lengths", "size", "fanout", "records", "every", "keep"]
abbrev n_Packing : List Str := ["row_lengths", "room", "starts", "first", "pages", "rows"]
abbrev n_Plan : List Str := ["settings", "packing", "cycle_begin", "phase_count", "cycle_rows", "most_live", "most_begun", "block_level", "block_width", "begin_block"]
def clsgB (C : Str) (K : PySem.W.Frag) : Bool := clsGetB K (He.ga K C) "__init__" (.builtin "LookupError.__init__")
def exmB (D : Str) (cs : List (Str × Bool)) (K : PySem.W.Frag) : Bool := cs.all fun c => decide (PySem.W.exmOne K (.ref (He.ga K c.1)) (.ref (He.ga K D)) = some c.2)
abbrev e_free : Nat := 0
abbrev e_glo : Nat := 1
abbrev e_int : Nat := 2
abbrev e_kl_Settings : Nat := 3
abbrev e_isi_Settings : Nat := 4
abbrev e_met_Settings : Nat := 5
abbrev e_mk_Settings : Nat := 6
abbrev e_kl_Packing : Nat := 7
abbrev e_isi_Packing : Nat := 8
abbrev e_met_Packing : Nat := 9
abbrev e_mk_Packing : Nat := 10
abbrev e_kl_Plan : Nat := 11
abbrev e_isi_Plan : Nat := 12
abbrev e_met_Plan : Nat := 13
abbrev e_mk_Plan : Nat := 14
abbrev e_kit_Settings : Nat := 15
abbrev e_cg_StoreError : Nat := 16
abbrev e_exc_InvalidSettings : Nat := 17
abbrev e_exc_InvalidNumber : Nat := 18
abbrev e_exc_LimitExceeded : Nat := 19
abbrev e_exm_LimitExceeded : Nat := 20
def exl : List (PySem.W.Frag → Bool) := [freeB (["len", "divmod", "range", "isinstance", "max", "min", "int", "tuple", "list", "sorted", "sum", "all", "any", "enumerate", "zip", "dict", "set", "repr", "str", "bool", "super", "LookupError"] : List Str),
  gloB (["StoreError", "InvalidSettings", "InvalidNumber", "LimitExceeded", "is_integer", "is_between", "check_part", "Settings", "check_settings", "check_moment", "Packing", "common_factor", "Plan", "phases", "window", "blocks", "_law_digits", "_law_parts", "_law_settings", "_law_starts", "_law_start", "_law_said", "_law_phases", "_law_window", "_law_blocks", "law"] : List Str),
  intB [(("MOST_ROW" : Str), 1000000000000000000000000000000), (("MOST_LENGTHS" : Str), 6), (("MOST_SIZE" : Str), 64), (("MOST_FANOUT" : Str), 8), (("MOST_RECORDS" : Str), 16), (("MOST_EVERY" : Str), 40), (("MOST_KEEP" : Str), 100), (("MOST_PHASES" : Str), 16), (("MOST_WIDTH" : Str), 128)],
  klB "Settings" n_Settings,
  isiB "Settings",
  metB "Settings" [(("__eq__" : Str), ("Settings" : Str)), (("parts" : Str), ("Settings" : Str))],
  mkB "Settings" "Settings",
  klB "Packing" n_Packing,
  isiB "Packing",
  metB "Packing" [(("length" : Str), ("Packing" : Str)), (("rows_from" : Str), ("Packing" : Str)), (("start" : Str), ("Packing" : Str)), (("holder" : Str), ("Packing" : Str)), (("begun" : Str), ("Packing" : Str)), (("cycle" : Str), ("Packing" : Str))],
  mkB "Packing" "Packing",
  klB "Plan" n_Plan,
  isiB "Plan",
  metB "Plan" [(("most_pages" : Str), ("Plan" : Str)), (("is_full" : Str), ("Plan" : Str))],
  mkB "Plan" "Plan",
  kitB "Settings" [(("Settings" : Str), true), (("Packing" : Str), false), (("Plan" : Str), false)] [("int", false), ("bool", false), ("str", false), ("list", false), ("tuple", false), ("dict", false), ("NoneType", false)],
  clsgB "StoreError",
  excB "InvalidSettings" "part",
  excB "InvalidNumber" "number",
  excB "LimitExceeded" "limit",
  exmB "LimitExceeded" [(("InvalidSettings" : Str), false), (("InvalidNumber" : Str), false), (("LimitExceeded" : Str), true)]]
def nm0 : List Str := [("_wall" : Str), ("__name__" : Str), ("StoreError" : Str), ("InvalidSettings" : Str), ("InvalidNumber" : Str), ("LimitExceeded" : Str), ("MOST_ROW" : Str), ("MOST_LENGTHS" : Str), ("MOST_SIZE" : Str), ("MOST_FANOUT" : Str), ("MOST_RECORDS" : Str), ("MOST_EVERY" : Str), ("MOST_KEEP" : Str), ("is_integer" : Str), ("is_between" : Str), ("check_part" : Str), ("Settings" : Str), ("check_settings" : Str), ("check_moment" : Str), ("Packing" : Str), ("common_factor" : Str), ("MOST_PHASES" : Str), ("MOST_WIDTH" : Str), ("Plan" : Str), ("phases" : Str), ("window" : Str), ("blocks" : Str), ("_law_digits" : Str), ("_law_parts" : Str), ("_law_settings" : Str), ("_law_starts" : Str), ("_law_start" : Str), ("_law_said" : Str), ("_law_phases" : Str), ("_law_window" : Str)]
def nm1 : List Str := [("_law_blocks" : Str)]
def loose : List Str := nm0 ++ nm1
abbrev lawAt : Nat := 41
abbrev LW : PySem.W.OpenLaw := PySem.Challenge.rw_keeprows_k42_phases_and_windows
def exA (K : PySem.W.Frag) : Bool := exl.all fun f => f K
/-- what the head tells -/
structure Hd (K : PySem.W.Frag) (mg : Str → Option Value) : Prop where
  fn : ∀ (i : Nat) (d : He.DefD), fnl[i]? = some d → ∃ fd, FunD K d.name d.qual d.params d.body d.scope (d.dvs K) (d.kws K) (He.fAd K d.at_) fd
  ex : ∀ (i : Nat) (f : PySem.W.Frag → Bool), exl[i]? = some f → f K = true
  at_ : ∃ h : Heap, K.In h ∧ h.Ns mainGlobals mg
/-- the def at f keeps the promise sp -/
structure Has (P : Program) (w : World) (K : PySem.W.Frag) (mg : Str → Option Value) (base : Heap) (lv : Nat) (f : Addr) (sp : Sp) : Prop where
  ex : ∃ fd ps, FnOk P w K mg base (L2.CX P w) lv f fd ps sp ∧ L2.Binds K fd ps [] ∧ PySem.W.keepIn K (.ref f) = true
section
variable {P : Program} {w : World} {K : PySem.W.Frag} {mg : Str → Option Value} {base : Heap} {lv : Nat} {sp : Sp}
theorem ba3 {a b : Bool} (h : (a && b) = true) : a = true ∧ b = true := Bool.and_eq_true_iff.mp h
theorem kl_of {C : Str} {names : List Str} (h : klB C names K = true) : Kl K (cA K C) names := by
  obtain ⟨h1, h2⟩ := ba3 h
  obtain ⟨h3, h4⟩ := ba3 h2
  obtain ⟨h5, h6⟩ := ba3 h4
  exact ⟨He.cls_ok h1, fun f hf => He.noat_ok (List.all_eq_true.mp h3 f hf), of_decide_eq_true h5, of_decide_eq_true h6⟩
theorem Hd.kl (T : Hd K mg) (i : Nat) {C : Str} {names : List Str} (h : exl[i]? = some (klB C names) := by rfl) : Kl K (cA K C) names := kl_of (T.ex i _ h)
theorem Hd.isi (T : Hd K mg) (i : Nat) {C : Str} {names : List Str} (kl : Kl K (cA K C) names) {H : Hp} {p dx : Addr} {fs : List (Str × V)} (e : H p = some (.ins (cA K C) dx fs)) (h : exl[i]? = some (isiB C) := by rfl) : TyX K H (.ref p) (.ref (cA K C)) := by
  obtain ⟨h1, h2⟩ := ba3 (T.ex i _ h)
  obtain ⟨h3, h4⟩ := ba3 h2
  obtain ⟨h5, h6⟩ := ba3 h4
  exact .base (.ins e kl.cl (He.eqO_ok h1) (He.eqO_ok h3) (of_decide_eq_true h5) (of_decide_eq_true h6))
theorem Hd.kitC (T : Hd K mg) (i : Nat) (D C : Str) (b : Bool) {cs : List (Str × Bool)} {ts : List (String × Bool)} (h : exl[i]? = some (kitB D cs ts) := by rfl) (hx : (C, b) ∈ cs := by decide +kernel) : PySem.W.kitOne K (.ref (cA K C)) (.ref (cA K D)) = some b :=
  of_decide_eq_true (List.all_eq_true.mp (ba3 (T.ex i _ h)).1 (C, b) hx)
theorem Hd.kitT (T : Hd K mg) (i : Nat) (D : Str) (C : String) (b : Bool) {cs : List (Str × Bool)} {ts : List (String × Bool)} (h : exl[i]? = some (kitB D cs ts) := by rfl) (hx : (C, b) ∈ ts := by decide +kernel) : PySem.W.kitOne K (.type C) (.ref (cA K D)) = some b :=
  of_decide_eq_true (List.all_eq_true.mp (ba3 (T.ex i _ h)).2 (C, b) hx)
theorem Hd.free (T : Hd K mg) (x : Str) (i : Nat) {xs : List Str} (h : exl[i]? = some (freeB xs) := by rfl) (hx : x ∈ xs := by decide +kernel) : mg x = none := by
  obtain ⟨hp, hK, hN⟩ := T.at_
  exact He.free_ok hK hN (List.all_eq_true.mp (T.ex i _ h) x hx)
theorem Hd.glo (T : Hd K mg) (x : Str) (i : Nat) {xs : List Str} (h : exl[i]? = some (gloB xs) := by rfl) (hx : x ∈ xs := by decide +kernel) : mg x = some (.ref (cA K x)) := by
  obtain ⟨hp, hK, hN⟩ := T.at_
  exact He.glo_ok hK hN (List.all_eq_true.mp (T.ex i _ h) x hx)
theorem Hd.int (T : Hd K mg) (x : Str) (z : Int) (i : Nat) {xs : List (Str × Int)} (h : exl[i]? = some (intB xs) := by rfl) (hx : (x, z) ∈ xs := by decide +kernel) : ∃ t, mg x = some (.int z t) := by
  obtain ⟨hp, hK, hN⟩ := T.at_
  exact He.int_ok hK hN (List.all_eq_true.mp (T.ex i _ h) (x, z) hx)
theorem Hd.meth (T : Hd K mg) (C m D : Str) (i : Nat) {ms : List (Str × Str)} (h : exl[i]? = some (metB C ms) := by rfl) (hx : (m, D) ∈ ms := by decide +kernel) : Meth K (cA K C) m (He.fAd K (D, some m)) := by
  obtain ⟨h1, h2⟩ := ba3 (List.all_eq_true.mp (T.ex i _ h) (m, D) hx)
  have e : He.fAd K (C, some m) = He.fAd K (D, some m) := of_decide_eq_true h2
  rw [← e]
  exact He.meth_ok h1
theorem Hd.mkr (T : Hd K mg) (C D : Str) (i : Nat) (h : exl[i]? = some (mkB C D) := by rfl) : Mk K (cA K C) (He.fAd K (D, some "__init__")) := by
  obtain ⟨h1, h2⟩ := ba3 (T.ex i _ h)
  have e : He.fAd K (C, some "__init__") = He.fAd K (D, some "__init__") := of_decide_eq_true h2
  rw [← e]
  exact He.mkr_ok h1
theorem Hd.exc (T : Hd K mg) (i : Nat) (C f : Str) (h : exl[i]? = some (excB C f) := by rfl) : ExF K C f := excB_ok (T.ex i _ h)
theorem Hd.clsg (T : Hd K mg) (i : Nat) (C : Str) (h : exl[i]? = some (clsgB C) := by rfl) : ClsGet K (cA K C) "__init__" (.builtin "LookupError.__init__") := clsGet_of (T.ex i _ h)
theorem Hd.exm (T : Hd K mg) (i : Nat) (D C : Str) (b : Bool) {cs : List (Str × Bool)} (h : exl[i]? = some (exmB D cs) := by rfl) (hx : (C, b) ∈ cs := by decide +kernel) : PySem.W.exmOne K (.ref (cA K C)) (.ref (cA K D)) = some b :=
  of_decide_eq_true (List.all_eq_true.mp (T.ex i _ h) (C, b) hx)
/-- an own exception, from what its __init__ does -/
theorem Has.xc (T : Hd K mg) {C f : Str} (i : Nat) (H : Has P w K mg base lv (He.fAd K (C, some "__init__")) (spExI (cA K C) f)) {xs : List Str} (h : exl[i]? = some (excB C f) := by rfl) (hg : exl[e_glo]? = some (gloB xs) := by rfl) (hx : C ∈ xs := by decide +kernel) : Xc P w K mg base lv C (cA K C) f :=
  let ⟨fd, ps, F, b, k⟩ := H.ex
  have F1 := T.exc i C f h
  ⟨F1.le, T.glo C e_glo hg hx, ⟨_, fd, ps, F, F1.ini, F1.ty, b⟩⟩
theorem Has.met (T : Hd K mg) {C m D : Str} (i : Nat) (H : Has P w K mg base lv (He.fAd K (D, some m)) sp) {ms : List (Str × Str)} (h : exl[i]? = some (metB C ms) := by rfl) (hx : (m, D) ∈ ms := by decide +kernel) : Met P w K mg base lv (cA K C) m sp :=
  let ⟨fd, ps, F, b, k⟩ := H.ex; ⟨⟨_, fd, ps, F, T.meth C m D i h hx, b⟩⟩
theorem Has.cal (T : Hd K mg) {x : Str} (H : Has P w K mg base lv (He.fAd K (x, none)) sp) {xs : List Str} (h : exl[e_glo]? = some (gloB xs) := by rfl) (hx : x ∈ xs := by decide +kernel) : Cal P w K mg base lv x sp :=
  let ⟨fd, ps, F, b, k⟩ := H.ex; ⟨⟨_, fd, ps, F, T.glo x e_glo h hx, k, b⟩⟩
theorem Has.mak (T : Hd K mg) {C D : Str} (i : Nat) (H : Has P w K mg base lv (He.fAd K (D, some "__init__")) sp) {xs : List Str} (hg : exl[e_glo]? = some (gloB xs) := by rfl) (h : exl[i]? = some (mkB C D) := by rfl) (hx : C ∈ xs := by decide +kernel) : Mak P w K mg base lv C (cA K C) sp :=
  let ⟨fd, ps, F, b, k⟩ := H.ex; ⟨⟨_, fd, ps, F, T.glo C e_glo hg hx, T.mkr C D i h, b⟩⟩
/-- a def of the text, that lets no exception out -/
theorem hasW (T : Hd K mg) {d : He.DefD} (i : Nat) {N ps : List Str} {k : Nat} (S : FnScope N ps d.scope) (bd : ∀ (kV doc pm : Value) (an : Option Addr) (cdv ct : Value) (us : List Value), us.length = ps.length → bindArgs (PySem.W.fnOf d.name d.qual d.params d.body d.scope .none kV doc pm an cdv ct) ⟨us, []⟩ = pure (ps.zip us))
    (len : ∀ vs H Q E, sp vs H Q E → vs.length = ps.length)
    (hbody : ∀ (f : Addr) (cdv : Value) (A : Around) (outer : List Env) (s : Shared) (H : Hp) (vs : List V) (Q : VK) (E : XK), Room k (A.deeper (envOfC d.qual d.scope s.heap.objs.size f cdv)) → sp vs H Q E →
      WB (cxOf CX0 P w K mg base N d.qual d.scope f cdv A outer s H E).nox d.body { nx := fun _ H' => Q .non H', rt := Q } (start N vs) H) (hi : fnl[i]? = some d := by rfl) (hd : d.dfl = [] := by rfl) : Has P w K mg base (k + 1) (He.fAd K d.at_) sp := by
  obtain ⟨fd, F⟩ := T.fn i d hi
  have e : d.dvs K = [] := by unfold He.DefD.dvs; rw [hd]; rfl
  rw [e] at F
  exact ⟨⟨fd, ps, FnOk.cx (F.ok S len fun cdv A outer s H vs Q E hr h => ⟨_, (pss_w (X := (cxOf CX0 P w K mg base N d.qual d.scope _ cdv A outer s H E).nox)).nox, hbody _ cdv A outer s H vs Q E hr h⟩), F.bindsN bd, F.kp⟩⟩
/-- a def of the text with keyword-only parameters, that may raise -/
structure HasK (P : Program) (w : World) (K : PySem.W.Frag) (mg : Str → Option Value) (base : Heap) (lv : Nat) (f : Addr) (n : Nat) (ks : List Str) (sp : Sp) : Prop where
  ex : ∃ fd ps, FnOk P w K mg base (L2.CX P w) lv f fd ps sp ∧ KBn K fd ps n ks (fun us ws => us ++ ws) (fun vs zs => vs ++ zs) ∧ PySem.W.keepIn K (.ref f) = true
theorem hasXK (T : Hd K mg) {d : He.DefD} (i : Nat) {N ps ks : List Str} {k n : Nat} (S : FnScope N ps d.scope) (bd : ∀ (kV doc pm : Value) (an : Option Addr) (cdv ct : Value) (us ws : List Value), us.length = n → ws.length = ks.length → bindArgs (PySem.W.fnOf d.name d.qual d.params d.body d.scope .none kV doc pm an cdv ct) ⟨us, ks.zip ws⟩ = pure (ps.zip (us ++ ws)))
    (len : ∀ vs H Q E, sp vs H Q E → vs.length = ps.length)
    (hbody : ∀ (f : Addr) (cdv : Value) (A : Around) (outer : List Env) (s : Shared) (H : Hp) (vs : List V) (Q : VK) (E : XK), Room k (A.deeper (envOfC d.qual d.scope s.heap.objs.size f cdv)) → sp vs H Q E →
      WB (cxOf (L2.CX P w) P w K mg base N d.qual d.scope f cdv A outer s H E) d.body { nx := fun _ H' => Q .non H', rt := Q } (start N vs) H) (hi : fnl[i]? = some d := by rfl) (hd : d.dfl = [] := by rfl) : HasK P w K mg base (k + 1) (He.fAd K d.at_) n ks sp := by
  obtain ⟨fd, F⟩ := T.fn i d hi
  have e : d.dvs K = [] := by unfold He.DefD.dvs; rw [hd]; rfl
  rw [e] at F
  refine ⟨⟨fd, ps, F.ok S len fun cdv A outer s H vs Q E hr h => ⟨_, pss_w, hbody _ cdv A outer s H vs Q E hr h⟩, ⟨fun s us ws X l1 l2 => ?_, fun r1 r2 => r1.append r2⟩, F.kp⟩⟩
  obtain ⟨oc, od, dV, kV, doc, pm, an, cdv, ct, osl, rfl, lk, hcd, hD, hK⟩ := F.ex
  rcases hD with ⟨_, rfl⟩ | ⟨e, _⟩
  · exact BindsTo.of_eq (bd _ _ _ _ _ _ us ws l1 l2)
  · exact absurd rfl e
theorem HasK.mak (T : Hd K mg) {C D : Str} {n : Nat} {ks : List Str} (i : Nat) (H : HasK P w K mg base lv (He.fAd K (D, some "__init__")) (n + 1) ks sp) {xs : List Str} (hg : exl[e_glo]? = some (gloB xs) := by rfl) (h : exl[i]? = some (mkB C D) := by rfl) (hx : C ∈ xs := by decide +kernel) : MakK P w K mg base lv C (cA K C) n ks sp :=
  let ⟨fd, ps, F, b, k⟩ := H.ex; ⟨⟨_, fd, ps, F, T.glo C e_glo hg hx, T.mkr C D i h, b⟩⟩
/-- a def of the text that may raise -/
theorem hasX (T : Hd K mg) {d : He.DefD} (i : Nat) {N ps : List Str} {k : Nat} (S : FnScope N ps d.scope) (bd : ∀ (kV doc pm : Value) (an : Option Addr) (cdv ct : Value) (us : List Value), us.length = ps.length → bindArgs (PySem.W.fnOf d.name d.qual d.params d.body d.scope .none kV doc pm an cdv ct) ⟨us, []⟩ = pure (ps.zip us))
    (len : ∀ vs H Q E, sp vs H Q E → vs.length = ps.length)
    (hbody : ∀ (f : Addr) (cdv : Value) (A : Around) (outer : List Env) (s : Shared) (H : Hp) (vs : List V) (Q : VK) (E : XK), Room k (A.deeper (envOfC d.qual d.scope s.heap.objs.size f cdv)) → sp vs H Q E →
      WB (cxOf (L2.CX P w) P w K mg base N d.qual d.scope f cdv A outer s H E) d.body { nx := fun _ H' => Q .non H', rt := Q } (start N vs) H) (hi : fnl[i]? = some d := by rfl) (hd : d.dfl = [] := by rfl) : Has P w K mg base (k + 1) (He.fAd K d.at_) sp := by
  obtain ⟨fd, F⟩ := T.fn i d hi
  have e : d.dvs K = [] := by unfold He.DefD.dvs; rw [hd]; rfl
  rw [e] at F
  exact ⟨⟨fd, ps, F.ok S len fun cdv A outer s H vs Q E hr h => ⟨_, pss_w, hbody _ cdv A outer s H vs Q E hr h⟩, F.bindsN bd, F.kp⟩⟩
end
end KR

/-! Geo: rows on heap pages, in plain Lean. -/
namespace Geo

/-- how long row r is -/
def rl (lens : List Nat) (r : Nat) : Nat := lens.getD (r % lens.length) 0
/-- how many rows stand on a page that begins with row r -/
def go (lens : List Nat) (room : Nat) : Nat → Nat → Nat → Nat → Nat
  | 0, _, found, _ => found
  | n + 1, r, found, units => if units + rl lens (r + found) ≤ room then go lens room n r (found + 1) (units + rl lens (r + found)) else found
def rf (lens : List Nat) (room r : Nat) : Nat := go lens room (room + 1) r 0 0
/-- the first row of heap page m -/
def S (lens : List Nat) (room : Nat) : Nat → Nat
  | 0 => 0
  | m + 1 => S lens room m + rf lens room (S lens room m)

/-- lengths and room as Settings takes them -/
structure Ok (lens : List Nat) (room : Nat) : Prop where
  ne : lens ≠ []
  few : lens.length ≤ 6
  pos : ∀ x ∈ lens, 1 ≤ x
  fit : ∀ x ∈ lens, x ≤ room
  room : room ≤ 64

variable {lens : List Nat} {room : Nat}
theorem rl_mem (ok : Ok lens room) (r : Nat) : rl lens r ∈ lens := by
  unfold rl
  have h : 0 < lens.length := List.length_pos_iff.mpr ok.ne
  have h2 : r % lens.length < lens.length := Nat.mod_lt _ h
  rw [List.getD_eq_getElem?_getD, List.getElem?_eq_getElem h2, Option.getD_some]
  exact List.getElem_mem h2
theorem rl_pos (ok : Ok lens room) (r : Nat) : 1 ≤ rl lens r := ok.pos _ (rl_mem ok r)
theorem rl_le (ok : Ok lens room) (r : Nat) : rl lens r ≤ room := ok.fit _ (rl_mem ok r)
theorem rl_mod (lens : List Nat) (a b : Nat) (h : a % lens.length = b % lens.length) : rl lens a = rl lens b := by unfold rl; rw [h]
theorem go_ge : ∀ n r found units, found ≤ go lens room n r found units
  | 0, _, _, _ => Nat.le_refl _
  | n + 1, r, found, units => by
    unfold go
    split
    · exact Nat.le_trans (Nat.le_succ _) (go_ge n r (found + 1) _)
    · exact Nat.le_refl _
theorem go_le : ∀ n r found units, go lens room n r found units ≤ found + n
  | 0, _, _, _ => Nat.le_refl _
  | n + 1, r, found, units => by
    unfold go
    split
    · have := go_le n r (found + 1) (units + rl lens (r + found)); omega
    · omega
/-- enough fuel is enough -/
theorem go_more (ok : Ok lens room) : ∀ n r found units, room < units + n → go lens room (n + 1) r found units = go lens room n r found units
  | 0, r, found, units, h => by
    show (if units + rl lens (r + found) ≤ room then _ else found) = found
    rw [if_neg (by omega)]
  | n + 1, r, found, units, h => by
    show (if units + rl lens (r + found) ≤ room then go lens room (n + 1) r (found + 1) (units + rl lens (r + found)) else found) = (if units + rl lens (r + found) ≤ room then go lens room n r (found + 1) (units + rl lens (r + found)) else found)
    split
    · have p := rl_pos ok (r + found)
      exact go_more ok n r (found + 1) _ (by omega)
    · rfl
theorem go_step (ok : Ok lens room) {r found units : Nat} (h : units + rl lens (r + found) ≤ room) : go lens room (room + 1) r found units = go lens room (room + 1) r (found + 1) (units + rl lens (r + found)) := by
  have p := rl_pos ok (r + found)
  rw [go_more ok room r (found + 1) _ (by omega)]
  show (if units + rl lens (r + found) ≤ room then _ else found) = _
  rw [if_pos h]
theorem go_stop {r found units : Nat} (h : ¬ units + rl lens (r + found) ≤ room) : go lens room (room + 1) r found units = found := by
  show (if units + rl lens (r + found) ≤ room then _ else found) = _
  rw [if_neg h]
theorem rf_pos (ok : Ok lens room) (r : Nat) : 1 ≤ rf lens room r := by
  unfold rf go
  have := rl_le ok r
  rw [if_pos (by simpa using this)]
  exact go_ge _ _ _ _
theorem rf_le (r : Nat) : rf lens room r ≤ room + 1 := by
  have := go_le (lens := lens) (room := room) (room + 1) r 0 0
  unfold rf; omega
theorem go_mod : ∀ n a b found units, a % lens.length = b % lens.length → go lens room n a found units = go lens room n b found units
  | 0, _, _, _, _, _ => rfl
  | n + 1, a, b, found, units, h => by
    have e : rl lens (a + found) = rl lens (b + found) := rl_mod _ _ _ (by rw [Nat.add_mod, h, ← Nat.add_mod])
    rw [go, go, e]
    split
    · exact go_mod n a b _ _ h
    · rfl
theorem rf_mod (a b : Nat) (h : a % lens.length = b % lens.length) : rf lens room a = rf lens room b := go_mod _ _ _ _ _ h
theorem S_lt (ok : Ok lens room) (m : Nat) : S lens room m < S lens room (m + 1) := by
  have := rf_pos ok (S lens room m)
  show S lens room m < S lens room m + _
  omega
theorem S_mono (ok : Ok lens room) {a b : Nat} (h : a < b) : S lens room a < S lens room b := by
  induction b with
  | zero => omega
  | succ b ih =>
    have := S_lt ok b
    rcases Nat.lt_succ_iff_lt_or_eq.mp h with q | q
    · have := ih q; omega
    · subst q; exact this
theorem S_le (ok : Ok lens room) {a b : Nat} (h : a ≤ b) : S lens room a ≤ S lens room b := by
  rcases Nat.lt_or_eq_of_le h with q | q
  · exact Nat.le_of_lt (S_mono ok q)
  · rw [q]; exact Nat.le_refl _
theorem S_ge (ok : Ok lens room) (m : Nat) : m ≤ S lens room m := by
  induction m with
  | zero => exact Nat.zero_le _
  | succ m ih => have := S_lt ok m; omega
/-- all comes again behind a page that begins as an earlier one -/
theorem S_per (ok : Ok lens room) {f n : Nat} (hfn : f ≤ n) (h : S lens room n % lens.length = S lens room f % lens.length) : ∀ k, S lens room (n + k) + S lens room f = S lens room (f + k) + S lens room n
  | 0 => by simp; omega
  | k + 1 => by
    have ih := S_per ok hfn h k
    have e : S lens room (n + k) % lens.length = S lens room (f + k) % lens.length := by
      have hl : 0 < lens.length := List.length_pos_iff.mpr ok.ne
      have h1 : S lens room (n + k) = S lens room (f + k) + (S lens room n - S lens room f) := by have := S_le ok hfn; omega
      have h2 : (S lens room n - S lens room f) % lens.length = 0 := by
        have := S_le ok hfn
        have h3 : S lens room n = S lens room f + (S lens room n - S lens room f) := by omega
        exact Nat.sub_mod_eq_zero_of_mod_eq h
      rw [h1, Nat.add_mod, h2, Nat.add_zero, Nat.mod_mod]
    show S lens room (n + k) + rf lens room (S lens room (n + k)) + S lens room f = S lens room (f + k) + rf lens room (S lens room (f + k)) + S lens room n
    rw [rf_mod _ _ e]
    omega
/-- page m from f on, by its round and place -/
theorem S_round (ok : Ok lens room) {f n : Nat} (hfn : f < n) (h : S lens room n % lens.length = S lens room f % lens.length) (k t : Nat) :
    S lens room (f + k + t * (n - f)) = S lens room (f + k) + t * (S lens room n - S lens room f) := by
  induction t with
  | zero => simp
  | succ t ih =>
    have p := S_per ok (Nat.le_of_lt hfn) h (k + t * (n - f))
    have e1 : f + k + (t + 1) * (n - f) = n + (k + t * (n - f)) := by rw [Nat.succ_mul]; omega
    have e2 : f + (k + t * (n - f)) = f + k + t * (n - f) := by omega
    have := S_le ok (Nat.le_of_lt hfn)
    rw [e1, Nat.succ_mul]
    rw [e2, ih] at p
    omega
/-- the page of a row is one -/
theorem page_one (ok : Ok lens room) {r a b : Nat} (a1 : S lens room a ≤ r) (a2 : r < S lens room (a + 1)) (b1 : S lens room b ≤ r) (b2 : r < S lens room (b + 1)) : a = b := by
  rcases Nat.lt_trichotomy a b with h | h | h
  · have := S_le ok (show a + 1 ≤ b from h); omega
  · exact h
  · have := S_le ok (show b + 1 ≤ a from h); omega
theorem S_le_mul (m : Nat) : S lens room m ≤ m * (room + 1) := by
  induction m with
  | zero => exact Nat.zero_le _
  | succ m ih =>
    have := rf_le (lens := lens) (room := room) (S lens room m)
    show S lens room m + rf lens room (S lens room m) ≤ (m + 1) * (room + 1)
    rw [Nat.succ_mul]; omega
/-- the heap page of a row -/
def hold (lens : List Nat) (room : Nat) : Nat → Nat
  | 0 => 0
  | r + 1 => if S lens room (hold lens room r + 1) ≤ r + 1 then hold lens room r + 1 else hold lens room r
theorem hold_ok (ok : Ok lens room) : ∀ r, S lens room (hold lens room r) ≤ r ∧ r < S lens room (hold lens room r + 1)
  | 0 => ⟨Nat.le_refl _, by have := S_lt ok 0; exact this⟩
  | r + 1 => by
    obtain ⟨h1, h2⟩ := hold_ok ok r
    unfold hold
    split
    · rename_i h
      have := S_lt ok (hold lens room r + 1)
      exact ⟨h, by omega⟩
    · rename_i h
      exact ⟨by omega, by omega⟩
theorem hold_eq (ok : Ok lens room) {r m : Nat} (h1 : S lens room m ≤ r) (h2 : r < S lens room (m + 1)) : hold lens room r = m := page_one ok (hold_ok ok r).1 (hold_ok ok r).2 h1 h2
theorem hold_le (ok : Ok lens room) (r : Nat) : hold lens room r ≤ r := by
  have := S_ge ok (hold lens room r)
  have := (hold_ok ok r).1
  omega
/-- the pages from f on come again -/
theorem hold_round (ok : Ok lens room) {f n : Nat} (hfn : f < n) (h : S lens room n % lens.length = S lens room f % lens.length) {r : Nat} (hr : S lens room f ≤ r) :
    hold lens room (S lens room f + (r - S lens room f) % (S lens room n - S lens room f)) + (r - S lens room f) / (S lens room n - S lens room f) * (n - f) = hold lens room r ∧
    S lens room f + (r - S lens room f) % (S lens room n - S lens room f) < S lens room n := by
  have hS : S lens room f < S lens room n := S_mono ok hfn
  have hp : 0 < S lens room n - S lens room f := by omega
  generalize hq : (r - S lens room f) / (S lens room n - S lens room f) = q
  generalize hz : (r - S lens room f) % (S lens room n - S lens room f) = z
  have z1 : z < S lens room n - S lens room f := by rw [← hz]; exact Nat.mod_lt _ hp
  have er : r = S lens room f + z + q * (S lens room n - S lens room f) := by
    have := Nat.mod_add_div (r - S lens room f) (S lens room n - S lens room f)
    rw [hq, hz, Nat.mul_comm] at this
    omega
  obtain ⟨a1, a2⟩ := hold_ok ok (S lens room f + z)
  generalize hm : hold lens room (S lens room f + z) = m at a1 a2
  have fm : f ≤ m := by
    rcases Nat.lt_or_ge m f with c | c
    · have := S_le ok (show m + 1 ≤ f from c); omega
    · exact c
  have b1 := S_round ok hfn h (m - f) q
  have b2 := S_round ok hfn h (m + 1 - f) q
  rw [show f + (m - f) = m by omega] at b1
  rw [show f + (m + 1 - f) = m + 1 by omega] at b2
  refine ⟨?_, by omega⟩
  symm
  refine hold_eq ok ?_ ?_
  · rw [b1]; omega
  · rw [show m + q * (n - f) + 1 = m + 1 + q * (n - f) by omega, b2]; omega
theorem filter_le {p : Nat → Bool} {m : Nat} (h : ∀ i, p i = true ↔ i ≤ m) : ∀ N, m < N → (List.range N).filter p = List.range (m + 1)
  | 0, h0 => by omega
  | N + 1, h0 => by
    rw [List.range_succ, List.filter_append]
    rcases Nat.lt_or_ge m N with c | c
    · rw [filter_le h N c]
      have : p N = false := by
        cases q : p N with
        | false => rfl
        | true => have := (h N).mp q; omega
      simp [this]
    · have e : m = N := by omega
      subst e
      have h1 : (List.range m).filter p = List.range m := List.filter_eq_self.mpr fun a ha => (h a).mpr (by have := List.mem_range.mp ha; omega)
      have h2 : p m = true := (h m).mpr (Nat.le_refl _)
      rw [h1, List.range_succ]
      simp [h2]
end Geo

namespace KR
open PySem PySem.Spec PyProof.Rows L2 Sx
/-- lists of numbers -/
def nats (l : List Nat) : List V := l.map fun (n : Nat) => V.int (n : Int)
theorem nats_len (l : List Nat) : (nats l).length = l.length := by simp [nats]
theorem atI_nats {l : List Nat} {i : Nat} (h : i < l.length) : atI (nats l) (i : Int) = some (.int (l.getD i 0 : Nat)) := by
  refine atI_nat ?_
  unfold nats
  rw [List.getElem?_map, List.getElem?_eq_getElem h, List.getD_eq_getElem?_getD, List.getElem?_eq_getElem h]
  rfl
/-- what a Packing is made of: lengths, size, the first page of the cycle, the number of starts less one -/
structure Pg where
  lens : List Nat
  room : Nat
  first : Nat
  n : Nat
abbrev Pg.S (g : Pg) : Nat → Nat := Geo.S g.lens g.room
def Pg.starts (g : Pg) : List Nat := (List.range (g.n + 1)).map g.S
structure Pg.Ok (g : Pg) : Prop where
  ok : Geo.Ok g.lens g.room
  lt : g.first < g.n
  n6 : g.n ≤ 6
  per : g.S g.n % g.lens.length = g.S g.first % g.lens.length
  dist : ∀ i j, i < j → j < g.n → g.S i % g.lens.length ≠ g.S j % g.lens.length
/-- the cycle is told by lengths and size -/
theorem Pg.Ok.one {lens : List Nat} {room f f' n n' : Nat} (a : Pg.Ok ⟨lens, room, f, n⟩) (b : Pg.Ok ⟨lens, room, f', n'⟩) : f = f' ∧ n = n' := by
  have key : ∀ {f f' n n' : Nat}, Pg.Ok ⟨lens, room, f, n⟩ → Pg.Ok ⟨lens, room, f', n'⟩ → ¬ n < n' := fun {f f' n n'} a b h => b.dist f n a.lt h a.per.symm
  have e : n = n' := by
    have h1 := key a b
    have h2 := key b a
    omega
  subst e
  refine ⟨?_, rfl⟩
  have p : Geo.S lens room f % lens.length = Geo.S lens room f' % lens.length := a.per.symm.trans b.per
  rcases Nat.lt_trichotomy f f' with h | h | h
  · exact absurd p (a.dist f f' h b.lt)
  · exact h
  · exact absurd p.symm (a.dist f' f h a.lt)
/-- a Packing stands at p -/
structure PkAt (K : PySem.W.Frag) (H : Hp) (p : Addr) (g : Pg) : Prop where
  ok : g.Ok
  at_ : ∃ dx tl ls, H p = some (obj (cA K "Packing") dx n_Packing [.ref tl, .int (g.room : Nat), .ref ls, .int (g.first : Nat), .int ((g.n - g.first : Nat) : Int), .int ((g.S g.n - g.S g.first : Nat) : Int)]) ∧ SqT K H tl (nats g.lens) ∧ SqL K H ls (nats g.starts)
theorem Pg.Ok.Sn {g : Pg} (ok : g.Ok) : g.S g.n < 2 ^ 20 := by
  have h1 := Geo.S_le_mul (lens := g.lens) (room := g.room) g.n
  have h2 : g.n * (g.room + 1) ≤ 6 * 65 := Nat.mul_le_mul ok.n6 (by have := ok.ok.room; omega)
  show Geo.S g.lens g.room g.n < 2 ^ 20
  omega
theorem PkAt.same {K : PySem.W.Frag} {p : Addr} {H H' : Hp} {g : Pg} (h : PkAt K H p g) (s : Same H H') : PkAt K H' p g := by
  obtain ⟨ok, dx, tl, ls, h1, h2, h3⟩ := h
  exact ⟨ok, dx, tl, ls, s _ _ h1, Sx.Same.seqT s h2, s.seq h3⟩
section
variable {P : Program} {w : World} {K : PySem.W.Frag} {mg : Str → Option Value} {base : Heap}
/-- a Packing in the making: its lengths and its size are there -/
structure PkPart (K : PySem.W.Frag) (H : Hp) (p : Addr) (lens : List Nat) (room : Nat) : Prop where
  ok : Geo.Ok lens room
  at_ : ∃ dx tl vals, H p = some (obj (cA K "Packing") dx n_Packing vals) ∧ vals[0]? = some (.ref tl) ∧ vals[1]? = some (.int (room : Int)) ∧ SqT K H tl (nats lens)
theorem PkPart.same {p : Addr} {H H' : Hp} {lens : List Nat} {room : Nat} (h : PkPart K H p lens room) (s : Same H H') : PkPart K H' p lens room := by
  obtain ⟨ok, dx, tl, vals, h1, h2, h3, h4⟩ := h
  exact ⟨ok, dx, tl, vals, s _ _ h1, h2, h3, Sx.Same.seqT s h4⟩
theorem PkAt.part {p : Addr} {H : Hp} {g : Pg} (h : PkAt K H p g) : PkPart K H p g.lens g.room := by
  obtain ⟨ok, dx, tl, ls, h1, h2, h3⟩ := h
  exact ⟨ok.ok, dx, tl, _, h1, rfl, rfl, h2⟩
/-! ### Packing.length -/
def spLen (K : PySem.W.Frag) : Sp := fun vs H Q _ => ∃ (p : Addr) (lens : List Nat) (room r : Nat), vs = [.ref p, .int r] ∧ PkPart K H p lens room ∧ ∀ H', Same H H' → Q (.int (Geo.rl lens r)) H'
theorem ok_length (T : Hd K mg) : Has P w K mg base 1 (He.fAd K d_Packing_length.at_) (spLen K) := by
  refine hasW T i_Packing_length sc_Packing_length bd_Packing_length (fun vs H Q E h => ?_) (fun f cdv A outer s H vs Q E hr h => ?_)
  · obtain ⟨p, lens, room, r, rfl, _⟩ := h
    rfl
  · obtain ⟨p, lens, room, r, rfl, ⟨ok, dx, tl, vals, h1, v0, v1, h2⟩, k⟩ := h
    have kl := T.kl e_kl_Packing
    have hl : 0 < lens.length := List.length_pos_iff.mpr ok.ne
    refine b_one (s_retV (dv_ixT (dv_at 0 kl (dv_var 0) h1 v0) (dn_mod (dv_var 1) (dv_len (dv_at 0 kl (dv_var 0) h1 v0) (.inr h2) (T.free "len" e_free)) ?_) h2 ?_) k)
    · rw [nats_len]; exact hl
    · rw [nats_len]; exact atI_nats (Nat.mod_lt _ hl)
/-! ### Packing.rows_from -/
def spRf (K : PySem.W.Frag) : Sp := fun vs H Q _ => ∃ (p : Addr) (lens : List Nat) (room r : Nat), vs = [.ref p, .int r] ∧ PkPart K H p lens room ∧ ∀ H', Same H H' → Q (.int (Geo.rf lens room r)) H'
theorem gives_len {H : Hp} {p : Addr} {lens : List Nat} {room r : Nat} (h : PkPart K H p lens room) : Gives (spLen K) [.ref p, .int r] H (fun v _ => v = .int (Geo.rl lens r)) := fun H1 s1 Q E q => ⟨p, lens, room, r, rfl, h.same s1, fun H' s' => q _ H' s' rfl⟩
theorem ok_rows_from (T : Hd K mg) : Has P w K mg base 2 (He.fAd K d_Packing_rows_from.at_) (spRf K) := by
  refine hasW T i_Packing_rows_from sc_Packing_rows_from bd_Packing_rows_from (fun vs H Q E h => ?_) (fun f cdv A outer s H vs Q E hr h => ?_)
  · obtain ⟨p, lens, room, r, rfl, _⟩ := h
    rfl
  · obtain ⟨p, lens, room, r, rfl, hP, k⟩ := h
    obtain ⟨ok, dx, tl, vals, h1, v0, v1, h2⟩ := id hP
    have kl := T.kl e_kl_Packing
    have M := (ok_length (P := P) (w := w) (base := base) T).met T e_met_Packing (C := "Packing") (m := "length") (D := "Packing")
    refine b_cons (s_unp2 (i := 2) (j := 3) (du_new (d_tup (da_cons dv_int (da_cons dv_int da_nil)) (by decide))) (fun H1 s1 => ?_) rfl sc_Packing_rows_from.nd)
    -- while units + self.length(row + found) <= self.room
    refine b_cons (s_while (fun m σ H' => Same H H' ∧ ∃ (fd un : Nat), σ = [some (.ref p), some (.int r), some (.int (fd : Int)), some (.int (un : Int))] ∧ m = room + 1 - un ∧ un ≤ room ∧ Geo.rf lens room r = Geo.go lens room (room + 1) r fd un) (room + 1) ⟨s1, 0, 0, rfl, rfl, Nat.zero_le _, rfl⟩ ?_)
    rintro m σ H2 ⟨s2, fd, un, rfl, rfl, hun, hgo⟩
    have hP2 := hP.same s2
    have h12 := s2 _ _ h1
    refine ⟨decide (un + Geo.rl lens (r + fd) ≤ room), tn_le (dn_add (dv_var 3) (d_met M hr kl (dv_var 0) h12 (da_cons (dn_add (dv_var 1) (dv_var 2)) da_nil) (gives_len hP2))) (dv_at 1 kl (dv_var 0) h12 v1), fun hb H3 s3 => ?_, fun hb H3 s3 => ?_⟩
    · have hb := of_decide_eq_true hb
      refine b_cons (s_augAdd 3 rfl (d_met M hr kl (dv_var 0) (s3 _ _ h12) (da_cons (dn_add (dv_var 1) (dv_var 2)) da_nil) (gives_len (hP2.same s3))) (fun H4 s4 => ?_) sc_Packing_rows_from.nd)
      refine b_one (s_augAdd 2 rfl dv_int (fun H5 s5 => ?_) sc_Packing_rows_from.nd)
      have lp := Geo.rl_pos ok (r + fd)
      refine ⟨_, ?_, ((s2.trans s3).trans s4).trans s5, fd + 1, un + Geo.rl lens (r + fd), ?_, rfl, hb, ?_⟩
      · omega
      · simp
      · rw [hgo, Geo.go_step ok hb]
    · have hb := of_decide_eq_false hb
      refine b_one (s_retV (dv_var 2) fun H4 s4 => ?_)
      rw [Geo.go_stop hb] at hgo
      have q := k H4 ((s2.trans s3).trans s4)
      rw [hgo] at q
      exact q
theorem gives_rf {H : Hp} {p : Addr} {lens : List Nat} {room r : Nat} (h : PkPart K H p lens room) : Gives (spRf K) [.ref p, .int r] H (fun v _ => v = .int (Geo.rf lens room r)) := fun H1 s1 Q E q => ⟨p, lens, room, r, rfl, h.same s1, fun H' s' => q _ H' s' rfl⟩
theorem starts_get {g : Pg} {i : Nat} (h : i ≤ g.n) : g.starts.getD i 0 = g.S i := by
  unfold Pg.starts
  rw [List.getD_eq_getElem?_getD, List.getElem?_map, List.getElem?_range (by omega)]
  rfl
theorem starts_len (g : Pg) : g.starts.length = g.n + 1 := by simp [Pg.starts]
theorem at_starts {g : Pg} {i : Nat} (h : i ≤ g.n) : atI (nats g.starts) (i : Int) = some (.int (g.S i : Nat)) := by
  rw [atI_nats (by rw [starts_len]; omega), starts_get h]
/-! ### Packing.start -/
def spStart (K : PySem.W.Frag) : Sp := fun vs H Q _ => ∃ (p : Addr) (g : Pg) (m : Nat), vs = [.ref p, .int m] ∧ m < 2 ^ 200 ∧ PkAt K H p g ∧ ∀ H', Same H H' → Q (.int (g.S m : Nat)) H'
theorem call_dm {X : Cx} {σ : L2.St} {H : Hp} {a b : Expr} {q r : Nat} {p1 pos2 : Pos} (ha : DV X a σ H (.int (q : Int))) (hb : DV X b σ H (.int (r : Int))) (h : 0 < r) (h2 : r < 1073741824) (hm : X.mg "divmod" = none) (hg : Gl X "divmod" := by rfl)
    (h1 : starEach [a, b] X.env = (false, eval a X.env) :: starEach [b] X.env := by rfl) (h3 : starEach [b] X.env = (false, eval b X.env) :: starEach [] X.env := by rfl) (hpl : (backTo pos2 (starEach [b] X.env)).any (·.1) = false := by rfl) :
    D X (.Call (.Name "divmod" p1) [a, b] [] pos2) σ H (fun v H' => ∃ p, v = .ref p ∧ SqT X.K H' p [.int ((q / r : Nat) : Int), .int ((q % r : Nat) : Int)]) :=
  d_callB call_divmod hm (da_cons ha (da_cons hb da_nil h3) h1) (fun H1 s1 Q k => ⟨_, _, rfl, ⟨by omega, by omega⟩, fun p hp => k _ _ (Same.new hp) ⟨p, rfl, by
    rw [← Int.natCast_ediv, ← Int.natCast_emod]
    exact SqT.of upd_same⟩⟩) (by decide +kernel) hg (by decide) (by decide) h1 hpl
theorem ok_start (T : Hd K mg) : Has P w K mg base 1 (He.fAd K d_Packing_start.at_) (spStart K) := by
  refine hasW T i_Packing_start sc_Packing_start bd_Packing_start (fun vs H Q E h => ?_) (fun f cdv A outer s H vs Q E hr h => ?_)
  · obtain ⟨p, g, r, rfl, _⟩ := h
    rfl
  · obtain ⟨p, g, m, rfl, hm, hP, k⟩ := h
    obtain ⟨ok, dx, tl, ls, h1, h2, h3⟩ := id hP
    have kl := T.kl e_kl_Packing
    have lt := ok.lt
    -- if page < self.first: return self.starts[page]
    refine b_cons (s_if (tn_lt (dv_var 1) (dv_at 3 kl (dv_var 0) h1)) (fun hb H1 s1 => ?_) (fun hb H1 s1 => b_nil ?_))
    · have hb := of_decide_eq_true hb
      exact b_one (s_retV (dv_ixL (dv_at 2 kl (dv_var 0) (s1 _ _ h1)) (dv_var 1) (s1.seq h3) (at_starts (by omega))) fun H2 s2 => k H2 (s1.trans s2))
    · have hb := of_decide_eq_false hb
      have h1' := s1 _ _ h1
      refine b_cons (s_unp2 (i := 2) (j := 3) (call_dm (dn_sub (dv_var 1) (dv_at 3 kl (dv_var 0) h1') (by omega)) (dv_at 4 kl (dv_var 0) h1') (by omega) (by have := ok.n6; omega) (T.free "divmod" e_free)) (fun H2 s2 => ?_) rfl sc_Packing_start.nd)
      have h1'' := s2 _ _ h1'
      have hq : (m - g.first) % (g.n - g.first) < g.n - g.first := Nat.mod_lt _ (by omega)
      refine b_one (s_retV (dn_add (dv_ixL (dv_at 2 kl (dv_var 0) h1'') (dn_add (dv_at 3 kl (dv_var 0) h1'') (dv_var 3)) ((s1.trans s2).seq h3) (at_starts (by omega))) (dn_mul (dv_var 2) (dv_at 5 kl (dv_var 0) h1'') ?_)) fun H3 s3 => ?_)
      · have a1 : (m - g.first) / (g.n - g.first) < 2 ^ 200 := Nat.lt_of_le_of_lt (Nat.div_le_self _ _) (by omega)
        exact wide_nat (a := 200) (b := 20) a1 (Nat.lt_of_le_of_lt (Nat.sub_le _ _) ok.Sn) (by decide) (by decide) (by decide)
      · have e := Geo.S_round ok.ok ok.lt ok.per ((m - g.first) % (g.n - g.first)) ((m - g.first) / (g.n - g.first))
        have e2 : g.first + (m - g.first) % (g.n - g.first) + (m - g.first) / (g.n - g.first) * (g.n - g.first) = m := by
          have := Nat.mod_add_div (m - g.first) (g.n - g.first)
          rw [Nat.mul_comm] at this
          omega
        rw [e2] at e
        have q := k H3 ((s1.trans s2).trans s3)
        rw [show g.S m = _ from e] at q
        exact q
/-! ### Packing.holder -/
def spHold (K : PySem.W.Frag) : Sp := fun vs H Q _ => ∃ (p : Addr) (g : Pg) (r : Nat), vs = [.ref p, .int r] ∧ r < 2 ^ 200 ∧ PkAt K H p g ∧ ∀ H', Same H H' → Q (.int (Geo.hold g.lens g.room r : Nat)) H'
theorem ok_holder (T : Hd K mg) : Has P w K mg base 1 (He.fAd K d_Packing_holder.at_) (spHold K) := by
  refine hasW T i_Packing_holder sc_Packing_holder bd_Packing_holder (fun vs H Q E h => ?_) (fun f cdv A outer s H vs Q E hr h => ?_)
  · obtain ⟨p, g, r, rfl, _⟩ := h
    rfl
  · obtain ⟨p, g, r, rfl, hm, hP, k⟩ := h
    obtain ⟨ok, dx, tl, ls, h1, h2, h3⟩ := id hP
    have kl := T.kl e_kl_Packing
    have lt := ok.lt
    have hS : g.S g.first < g.S g.n := Geo.S_mono ok.ok lt
    -- what follows the if
    have key : ∀ (q near : Nat) (H1 : Hp), Same H H1 → near + q * (g.S g.n - g.S g.first) = r → near < g.S g.n → Geo.hold g.lens g.room near + q * (g.n - g.first) = Geo.hold g.lens g.room r →
        WB (cxOf CX0 P w K mg base N_Packing_holder d_Packing_holder.qual d_Packing_holder.scope f cdv A outer s H E).nox ((defBody s_Packing_holder).drop 2) { nx := fun _ H' => Q .non H', rt := Q } ((start N_Packing_holder [V.ref p, V.int r]).set 2 (some (.int (q : Int)))) H1 := by
      intro q near H1 s1 e1 e2 e3
      have h1' := s1 _ _ h1
      have hq : q < 2 ^ 200 := by
        have : q * 1 ≤ q * (g.S g.n - g.S g.first) := Nat.mul_le_mul_left q (by omega)
        omega
      refine b_cons (s_setV (i := 3) (dv_eq (dn_sub (dv_var 1) (dn_mul (dv_var 2) (dv_at 5 kl (dv_var 0) h1') ?_) ?_) (show _ = V.int (near : Int) by congr 1; omega)) (fun H2 s2 => ?_) sc_Packing_holder.nd)
      · exact wide_nat (a := 200) (b := 20) hq (Nat.lt_of_le_of_lt (Nat.sub_le _ _) ok.Sn) (by decide) (by decide) (by decide)
      · omega
      have h1'' := s2 _ _ h1'
      have s12 := s1.trans s2
      obtain ⟨a1, a2⟩ : g.S (Geo.hold g.lens g.room near) ≤ near ∧ near < g.S (Geo.hold g.lens g.room near + 1) := Geo.hold_ok ok.ok near
      generalize hmm : Geo.hold g.lens g.room near = m at a1 a2 e3
      have mn : m < g.n := by
        rcases Nat.lt_or_ge m g.n with c | c
        · exact c
        · have : g.S g.n ≤ g.S m := Geo.S_le ok.ok c
          omega
      have flt : (List.range (nats g.starts).length).filter (fun t => decide (g.S t ≤ near)) = List.range (m + 1) := by
        refine Geo.filter_le (fun i => ?_) _ (by rw [nats_len, starts_len]; omega)
        rw [decide_eq_true_eq]
        constructor
        · intro hi
          rcases Nat.lt_or_ge m i with c | c
          · have : g.S (m + 1) ≤ g.S i := Geo.S_le ok.ok c
            omega
          · exact c
        · intro hi
          have : g.S i ≤ g.S m := Geo.S_le ok.ok hi
          omega
      refine b_cons (s_setV (i := 4) (v := .int (m : Int)) (dv_ixl (dl_new (d_lcR1t (i := 5) (fun t => decide (g.S t ≤ near)) (fun t => .int (t : Int)) (dv_lenl (dl_of (dv_at 2 kl (dv_var 0) h1'') (s12.seq h3)) (T.free "len" e_free)) ?_
          (fun s' Hb C cl fp t H' ht sh => tn_le (dv_ixL (dv_at 2 kl (dv_var 0) (sh _ _ h1'')) (dv_var 5) ((s12.trans sh).seq h3) (at_starts (by rw [nats_len, starts_len] at ht; omega))) (dv_var 3))
          (fun s' Hb C cl fp t H' ht _ sh => dv_var 5) rfl sc_Packing_holder.nd (T.free "range" e_free) (ok := blkOk_by (N := N_Packing_holder) (sc := defScope s_Packing_holder) (by decide +kernel)))) (dv_neg dv_int) ?_) (fun H3 s3 => ?_) sc_Packing_holder.nd)
      · rw [nats_len, starts_len]; have := ok.n6; omega
      · rw [flt, List.range_succ, List.map_append]
        exact atI_last _ _
      · refine b_one (s_retV (dn_add (dv_var 4) (dn_mul (dv_var 2) (dv_at 4 kl (dv_var 0) (s3 _ _ h1'')) ?_)) fun H4 s4 => ?_)
        · exact wide_nat (a := 200) (b := 20) hq (by have := ok.n6; omega) (by decide) (by decide) (by decide)
        · have z := k H4 ((s12.trans s3).trans s4)
          rw [← e3] at z
          exact z
    refine b_cons (s_setV (i := 2) dv_int (fun H1 s1 => ?_) sc_Packing_holder.nd)
    have h1' := s1 _ _ h1
    refine b_cons (s_if (tn_ge (dv_var 1) (dv_ixL (dv_at 2 kl (dv_var 0) h1') (dv_at 3 kl (dv_var 0) h1') (s1.seq h3) (at_starts (by omega)))) (fun hb H2 s2 => ?_) (fun hb H2 s2 => b_nil ?_))
    · have hb := of_decide_eq_true hb
      have h1'' := s2 _ _ h1'
      obtain ⟨r1, r2⟩ := Geo.hold_round ok.ok ok.lt ok.per hb
      refine b_one (s_setV (i := 2) (dn_fdiv (dn_sub (dv_var 1) (dv_ixL (dv_at 2 kl (dv_var 0) h1'') (dv_at 3 kl (dv_var 0) h1'') ((s1.trans s2).seq h3) (at_starts (by omega))) hb) (dv_at 5 kl (dv_var 0) h1'') (by omega) ?_) (fun H3 s3 => ?_) sc_Packing_holder.nd)
      · exact Nat.lt_of_le_of_lt (Nat.sub_le _ _) (Nat.lt_trans ok.Sn (Nat.pow_lt_pow_right (by decide) (by decide)))
      · refine key _ (g.S g.first + (r - g.S g.first) % (g.S g.n - g.S g.first)) H3 ((s1.trans s2).trans s3) ?_ r2 r1
        have := Nat.mod_add_div (r - g.S g.first) (g.S g.n - g.S g.first)
        rw [Nat.mul_comm] at this
        omega
    · have hb := of_decide_eq_false hb
      exact key 0 r H2 (s1.trans s2) (by omega) (by omega) (by omega)
end
end KR

namespace Geo
/-- different numbers below L are at most L -/
theorem few_below : ∀ (L : Nat) (l : List Nat), l.Nodup → (∀ x ∈ l, x < L) → l.length ≤ L
  | 0, [], _, _ => Nat.le_refl _
  | 0, a :: r, _, h => absurd (h a List.mem_cons_self) (Nat.not_lt_zero _)
  | L + 1, l, nd, h => by
    have h1 := few_below L (l.erase L) (nd.erase L) (fun x hx => by
      have hx' := (nd.mem_erase_iff.mp hx)
      have := h x hx'.2
      have := hx'.1
      omega)
    rw [List.length_erase] at h1
    split at h1 <;> omega
theorem few_range {L k : Nat} {f : Nat → Nat} (h1 : ∀ i, i < k → f i < L) (h2 : ∀ i j, i < j → j < k → f i ≠ f j) : k ≤ L := by
  have h := few_below L ((List.range k).map f) (by
    refine List.nodup_iff_pairwise_ne.mpr ?_
    rw [List.pairwise_map]
    refine List.Pairwise.imp_of_mem ?_ List.pairwise_lt_range
    intro a b ha hb hab
    exact h2 a b hab (List.mem_range.mp hb)) (by
    intro x hx
    obtain ⟨i, hi, e⟩ := List.mem_map.mp hx
    rw [← e]
    exact h1 i (List.mem_range.mp hi))
  simpa using h
end Geo
namespace KR
open PySem PySem.Spec PyProof.Rows L2 Sx
/-- settings -/
structure Sg where
  lens : List Nat
  size : Nat
  fanout : Nat
  records : Nat
  every : Nat
  keep : Nat
structure Sg.Ok (g : Sg) : Prop where
  ok : Geo.Ok g.lens g.size
  f2 : 2 ≤ g.fanout
  f8 : g.fanout ≤ 8
  r1 : 1 ≤ g.records
  r16 : g.records ≤ 16
  e1 : 1 ≤ g.every
  e40 : g.every ≤ 40
  k1 : 1 ≤ g.keep
  k100 : g.keep ≤ 100
structure StAt (K : PySem.W.Frag) (H : Hp) (p : Addr) (g : Sg) : Prop where
  ok : g.Ok
  at_ : ∃ dx tl, H p = some (obj (cA K "Settings") dx n_Settings [.ref tl, .int (g.size : Nat), .int (g.fanout : Nat), .int (g.records : Nat), .int (g.every : Nat), .int (g.keep : Nat)]) ∧ SqT K H tl (nats g.lens)
theorem StAt.same {K : PySem.W.Frag} {p : Addr} {H H' : Hp} {g : Sg} (h : StAt K H p g) (s : Same H H') : StAt K H' p g := by
  obtain ⟨ok, dx, tl, h1, h2⟩ := h
  exact ⟨ok, dx, tl, s _ _ h1, Sx.Same.seqT s h2⟩
/-- the pairs (g i, i) below k -/
def seenL (g : Nat → Nat) (k : Nat) : List (Key × V) := (List.range k).map fun i => ((Sum.inl ((g i : Nat) : Int) : Key), V.int (i : Int))
theorem seenL_succ (g : Nat → Nat) (k : Nat) : seenL g (k + 1) = seenL g k ++ [((Sum.inl ((g k : Nat) : Int) : Key), V.int (k : Int))] := by
  unfold seenL
  rw [List.range_succ, List.map_append]
  rfl
theorem seenL_none {g : Nat → Nat} {r : Nat} : ∀ {k : Nat}, (∀ i, i < k → g i ≠ r) → valV (seenL g k) (Sum.inl (r : Int) : Key) = none := by
  intro k h
  unfold valV seenL
  rw [Option.map_eq_none_iff, List.find?_eq_none]
  intro x hx
  obtain ⟨i, hi, e⟩ := List.mem_map.mp hx
  subst e
  simp only [decide_eq_true_eq]
  intro q
  have q := Sum.inl.inj q
  exact h i (List.mem_range.mp hi) (by omega)
theorem seenL_some {g : Nat → Nat} {r k : Nat} (h : (valV (seenL g k) (Sum.inl (r : Int) : Key)).isSome = true) : ∃ i, i < k ∧ g i = r ∧ valV (seenL g k) (Sum.inl (r : Int) : Key) = some (.int (i : Int)) := by
  unfold valV at h ⊢
  cases q : (seenL g k).find? fun kv => decide (kv.1 = (Sum.inl (r : Int) : Key)) with
  | none => rw [q] at h; cases h
  | some p =>
    have h1 := List.find?_some q
    have h2 := List.mem_of_find?_eq_some q
    unfold seenL at h2
    obtain ⟨i, hi, e⟩ := List.mem_map.mp h2
    subst e
    have h1 := of_decide_eq_true h1
    have h1 := Sum.inl.inj h1
    exact ⟨i, List.mem_range.mp hi, by omega, rfl⟩
theorem seenL_put {g : Nat → Nat} {k : Nat} (h : ∀ i, i < k → g i ≠ g k) : putK (seenL g k) (Sum.inl ((g k : Nat) : Int) : Key) (.int (k : Int)) = seenL g (k + 1) := by
  rw [putK_new _ (seenL_none h), seenL_succ]
section
variable {P : Program} {w : World} {K : PySem.W.Frag} {mg : Str → Option Value} {base : Heap}
/-! ### check_settings, of settings -/
def spChkS (K : PySem.W.Frag) : Sp := fun vs H Q _ => ∃ (p : Addr) (g : Sg), vs = [.ref p] ∧ StAt K H p g ∧ ∀ H', Same H H' → Q .non H'
theorem ok_check_settings (T : Hd K mg) : Has P w K mg base 1 (He.fAd K d_check_settings.at_) (spChkS K) := by
  refine hasW T i_check_settings sc_check_settings bd_check_settings (fun vs H Q E h => ?_) (fun f cdv A outer s H vs Q E hr h => ?_)
  · obtain ⟨p, g, rfl, _⟩ := h
    rfl
  · obtain ⟨p, g, rfl, ⟨ok, dx, tl, h1, h2⟩, k⟩ := h
    have kl := T.kl e_kl_Settings
    refine b_one (s_if (dt_not (dt_val (dv_isi (dv_var 0) (dv_gref (T.glo "Settings" e_glo)) (.own _) (T.isi e_isi_Settings kl h1) (T.kitC e_kit_Settings "Settings" "Settings" true) (fun H' s' => T.isi e_isi_Settings kl (s' _ _ h1)) (T.free "isinstance" e_free)))) (fun hb => by cases hb) (fun hb H1 s1 => b_nil (k H1 s1)))
theorem gives_chkS {H : Hp} {p : Addr} {g : Sg} (h : StAt K H p g) : Gives (spChkS K) [.ref p] H (fun v _ => v = .non) := fun H1 s1 Q E q => ⟨p, g, rfl, h.same s1, fun H' s' => q _ H' s' rfl⟩
/-! ### Packing.__init__ -/
/-- what an __init__ finds: an object without attributes at x, all else known -/
structure Fresh (F H : Hp) (x C : Addr) : Prop where
  same : Same F H
  new : F x = none
  at_ : ∃ dx, H x = some (.ins C dx [])
def spPkInit (K : PySem.W.Frag) : Sp := fun vs H Q _ => ∃ (x p : Addr) (st : Sg) (F : Hp), vs = [.ref x, .ref p] ∧ Fresh F H x (cA K "Packing") ∧ StAt K F p st ∧ ∀ H' g, Same F H' → PkAt K H' x g → g.lens = st.lens → g.room = st.size → Q .non H'
theorem ok_Packing_init (T : Hd K mg) : Has P w K mg base 3 (He.fAd K d_Packing___init__.at_) (spPkInit K) := by
  refine hasW T i_Packing___init__ sc_Packing___init__ bd_Packing___init__ (fun vs H Q E h => ?_) (fun f cdv A outer s H vs Q E hr h => ?_)
  · obtain ⟨x, p, st, F, rfl, _⟩ := h
    rfl
  · obtain ⟨x, p, st, F, rfl, ⟨sF, nx, dx, hx0⟩, hS, k⟩ := h
    obtain ⟨sok, sdx, stl, s1, s2⟩ := id hS
    have ok := sok.ok
    have kl := T.kl e_kl_Packing
    have ks := T.kl e_kl_Settings
    have hu := hu_of hr
    have MR := (ok_rows_from (P := P) (w := w) (base := base) T).met T e_met_Packing (C := "Packing") (m := "rows_from") (D := "Packing")
    have CS := ((ok_check_settings (P := P) (w := w) (base := base) T).cal T (x := "check_settings")).mono (show 1 ≤ 2 by decide)
    have hl : 0 < st.lens.length := List.length_pos_iff.mpr ok.ne
    have hx0 : H x = some (obj (cA K "Packing") dx n_Packing []) := hx0
    -- check_settings(settings); self.row_lengths = settings.lengths; self.room = settings.size
    refine b_cons (s_expr (d_cal CS hr (da_cons (dv_var 1) da_nil) (gives_chkS (hS.same sF))) (fun v H1 t1 _ => ?_))
    have f1 := sF.trans t1
    refine b_cons (s_fnewV 0 kl (dv_at 0 ks (dv_var 1) (f1 _ _ s1)) (t1 _ _ hx0) (fun H2 t2 => ?_))
    have f2 := (f1.trans t2).mut (o := obj (cA K "Packing") dx n_Packing ([] ++ [.ref stl])) nx
    generalize e2 : upd H2 x (obj (cA K "Packing") dx n_Packing ([] ++ [.ref stl])) = H2' at f2 ⊢
    have x2 : H2' x = some (obj (cA K "Packing") dx n_Packing [.ref stl]) := by rw [← e2]; exact upd_same
    refine b_cons (s_fnewV 0 kl (dv_at 1 ks (dv_var 1) (f2 _ _ s1)) x2 (fun H3 t3 => ?_))
    have f3 := (f2.trans t3).mut (o := obj (cA K "Packing") dx n_Packing ([.ref stl] ++ [.int (st.size : Int)])) nx
    generalize e3 : upd H3 x (obj (cA K "Packing") dx n_Packing ([.ref stl] ++ [.int (st.size : Int)])) = H3' at f3 ⊢
    have x3 : H3' x = some (obj (cA K "Packing") dx n_Packing [.ref stl, .int (st.size : Int)]) := by rw [← e3]; exact upd_same
    -- self.starts = [0]; seen = {}
    refine b_cons (s_fnew 0 kl (d_lst (da_cons dv_int da_nil) (by decide)) x3 (fun v H4 t4 ⟨ls, ev, nls, hls⟩ => ?_))
    subst ev
    have nls : F ls = none := f3.free nls
    have nxl : x ≠ ls := ne_of (t4 _ _ x3) hls (by intro z; cases z)
    have f4 := (f3.trans t4).mut (o := obj (cA K "Packing") dx n_Packing ([.ref stl, .int (st.size : Int)] ++ [.ref ls])) nx
    generalize e4 : upd H4 x (obj (cA K "Packing") dx n_Packing ([.ref stl, .int (st.size : Int)] ++ [.ref ls])) = H4' at f4 ⊢
    have x4 : H4' x = some (obj (cA K "Packing") dx n_Packing [.ref stl, .int (st.size : Int), .ref ls]) := by rw [← e4]; exact upd_same
    have l4 : H4' ls = some (.lst [.int 0]) := by rw [← e4, upd_ne (Ne.symm nxl)]; exact hls
    refine b_cons (s_set (i := 2) d_dnewK (fun v H5 t5 ⟨d, ev, nd, hd⟩ => ?_) sc_Packing___init__.nd)
    subst ev
    have ndF : F d = none := f4.free nd
    have nxd : x ≠ d := ne_of_none x4 nd
    have nld : ls ≠ d := ne_of_none l4 nd
    -- the loop
    refine b_cons (s_while (fun m σ H' => Same F H' ∧ ∃ kk : Nat, σ = [some (.ref x), some (.ref p), some (.ref d)] ∧ m = st.lens.length - kk ∧ H' x = some (obj (cA K "Packing") dx n_Packing [.ref stl, .int (st.size : Int), .ref ls]) ∧
      H' ls = some (.lst (nats ((List.range (kk + 1)).map (Geo.S st.lens st.size)))) ∧ H' d = some (.dK (seenL (fun i => Geo.S st.lens st.size i % st.lens.length) kk)) ∧ (∀ i j, i < j → j < kk → Geo.S st.lens st.size i % st.lens.length ≠ Geo.S st.lens st.size j % st.lens.length))
      st.lens.length ⟨f4.trans t5, 0, rfl, rfl, t5 _ _ x4, t5 _ _ l4, hd, fun i j _ h => absurd h (Nat.not_lt_zero _)⟩ ?_)
    rintro m σ H6 ⟨f6, kk, rfl, rfl, x6, l6, d6, dis⟩
    have kL : kk ≤ st.lens.length := Geo.few_range (f := fun i => Geo.S st.lens st.size i % st.lens.length) (fun i _ => Nat.mod_lt _ hl) dis
    have last : ∀ q, atI (nats ((List.range (q + 1)).map (Geo.S st.lens st.size))) (-1) = some (.int (Geo.S st.lens st.size q : Nat)) := fun q => by
      unfold nats
      rw [List.range_succ, List.map_append, List.map_append]
      exact atI_last _ _
    have resid : ∀ {X : Cx} {σ : L2.St} {H' : Hp} {e1 e2 : Expr} {pos : Pos} (_ : DV X e1 σ H' (.int (Geo.S st.lens st.size kk : Nat))) (_ : DV X e2 σ H' (.int ((nats st.lens).length : Nat))), DV X (.BinOp e1 .Mod e2 pos) σ H' (kV (Sum.inl ((Geo.S st.lens st.size kk % st.lens.length : Nat) : Int) : Key)) := fun h1 h2 => by
      rw [nats_len] at h2
      exact dn_mod h1 h2 hl
    refine ⟨_, dt_dninK (kk := Sum.inl ((Geo.S st.lens st.size kk % st.lens.length : Nat) : Int)) (resid (dv_ixL (dv_at 2 kl (dv_var 0) x6) (dv_neg dv_int) (SqL.of l6) (last kk)) (dv_len (dv_at 0 kl (dv_var 0) x6) (.inr (f6.tup s2)) (T.free "len" e_free))) (dv_var 2) d6 hu, fun hb H7 t7 => ?_, fun hb H7 t7 => ?_⟩
    · -- a turn
      have f7 := f6.trans t7
      have x7 := t7 _ _ x6
      have l7 := t7 _ _ l6
      have d7 := t7 _ _ d6
      have fresh : ∀ i, i < kk → Geo.S st.lens st.size i % st.lens.length ≠ Geo.S st.lens st.size kk % st.lens.length := fun i hi q => by
        rw [Bool.not_eq_true'] at hb
        have : (valV (seenL (fun i => Geo.S st.lens st.size i % st.lens.length) kk) (Sum.inl ((Geo.S st.lens st.size kk % st.lens.length : Nat) : Int) : Key)).isSome = true := by
          unfold valV seenL
          rw [Option.isSome_map, List.find?_isSome]
          exact ⟨_, List.mem_map.mpr ⟨i, List.mem_range.mpr hi, rfl⟩, decide_eq_true (by
            show (Sum.inl ((Geo.S st.lens st.size i % st.lens.length : Nat) : Int) : Key) = _
            rw [q])⟩
        rw [hb] at this
        cases this
      refine b_cons (s_dputK (dv_eq (dn_sub (dv_len (dv_at 2 kl (dv_var 0) x7) (.inl (SqL.of l7)) (T.free "len" e_free)) (dn_lit 1) (by simp [nats])) (show _ = V.int (kk : Int) by simp [nats])) (dv_var 2)
        (resid (dv_ixL (dv_at 2 kl (dv_var 0) x7) (dv_neg dv_int) (SqL.of l7) (last kk)) (dv_len (dv_at 0 kl (dv_var 0) x7) (.inr (f7.tup s2)) (T.free "len" e_free))) d7 (by simp [seenL]; have := ok.few; omega) (fun H8 t8 => ?_) hu)
      rw [seenL_put (g := fun i => Geo.S st.lens st.size i % st.lens.length) fresh]
      have f8 := (f7.trans t8).mut (o := .dK (seenL (fun i => Geo.S st.lens st.size i % st.lens.length) (kk + 1))) ndF
      have x8 := (upd_ne (o := .dK (seenL (fun i => Geo.S st.lens st.size i % st.lens.length) (kk + 1))) nxd).trans (t8 _ _ x7)
      have l8 := (upd_ne (o := .dK (seenL (fun i => Geo.S st.lens st.size i % st.lens.length) (kk + 1))) nld).trans (t8 _ _ l7)
      have d8 := upd_same (H := H8) (a := d) (o := .dK (seenL (fun i => Geo.S st.lens st.size i % st.lens.length) (kk + 1)))
      generalize upd H8 d (.dK (seenL (fun i => Geo.S st.lens st.size i % st.lens.length) (kk + 1))) = H8' at f8 x8 l8 d8 ⊢
      refine b_one (s_append (dv_at 2 kl (dv_var 0) x8) l8 (dn_add (dv_ixL (dv_at 2 kl (dv_var 0) x8) (dv_neg dv_int) (SqL.of l8) (last kk))
        (d_met MR hr kl (dv_var 0) x8 (da_cons (dv_ixL (dv_at 2 kl (dv_var 0) x8) (dv_neg dv_int) (SqL.of l8) (last kk)) da_nil) (gives_rf ⟨ok, dx, stl, _, x8, rfl, rfl, f8.tup s2⟩))) (fun v H9 t9 ev => ?_) (by simp [nats]; have := ok.few; omega))
      have ev : v = _ := ev
      subst ev
      have lk : kk + 1 ≤ st.lens.length := Geo.few_range (f := fun i => Geo.S st.lens st.size i % st.lens.length) (fun i _ => Nat.mod_lt _ hl) (fun i j h1 h2 => by
        rcases Nat.lt_succ_iff_lt_or_eq.mp h2 with q | q
        · exact dis i j h1 q
        · subst q; exact fresh i h1)
      refine ⟨_, ?_, (f8.trans t9).mut nls, kk + 1, rfl, rfl, ?_, ?_, ?_, fun i j h1 h2 => ?_⟩
      · omega
      · rw [upd_ne nxl]; exact t9 _ _ x8
      · rw [upd_same, List.range_succ (n := kk + 1), List.map_append]
        simp [nats, Geo.S]
      · rw [upd_ne (Ne.symm nld)]; exact t9 _ _ d8
      · rcases Nat.lt_succ_iff_lt_or_eq.mp h2 with q | q
        · exact dis i j h1 q
        · subst q; exact fresh i h1
    · -- behind the loop
      have f7 := f6.trans t7
      have x7 := t7 _ _ x6
      have l7 := t7 _ _ l6
      have d7 := t7 _ _ d6
      rw [Bool.not_eq_false'] at hb
      obtain ⟨fi, h1, h2, h3⟩ := seenL_some hb
      have h2 : Geo.S st.lens st.size fi % st.lens.length = Geo.S st.lens st.size kk % st.lens.length := h2
      have lenS : ∀ q, (nats ((List.range (q + 1)).map (Geo.S st.lens st.size))).length = q + 1 := fun q => by simp [nats]
      refine b_cons (s_fnewV 0 kl (dv_dgetK (dv_var 2) (resid (dv_ixL (dv_at 2 kl (dv_var 0) x7) (dv_neg dv_int) (SqL.of l7) (last kk)) (dv_len (dv_at 0 kl (dv_var 0) x7) (.inr (f7.tup s2)) (T.free "len" e_free))) d7 h3 hu) x7 (fun H8 t8 => ?_))
      have f8 := (f7.trans t8).mut (o := obj (cA K "Packing") dx n_Packing ([.ref stl, .int (st.size : Int), .ref ls] ++ [.int (fi : Int)])) nx
      generalize e8 : upd H8 x (obj (cA K "Packing") dx n_Packing ([.ref stl, .int (st.size : Int), .ref ls] ++ [.int (fi : Int)])) = H8' at f8 ⊢
      have x8 : H8' x = some (obj (cA K "Packing") dx n_Packing [.ref stl, .int (st.size : Int), .ref ls, .int (fi : Int)]) := by rw [← e8]; exact upd_same
      have l8 : H8' ls = some (.lst (nats ((List.range (kk + 1)).map (Geo.S st.lens st.size)))) := by rw [← e8, upd_ne (Ne.symm nxl)]; exact t8 _ _ l7
      refine b_cons (s_fnewV 0 kl (dn_sub (dv_eq (dn_sub (dv_len (dv_at 2 kl (dv_var 0) x8) (.inl (SqL.of l8)) (T.free "len" e_free)) (dn_lit 1) (by rw [lenS]; omega)) (show _ = V.int (kk : Int) by rw [lenS]; rfl)) (dv_at 3 kl (dv_var 0) x8) (by omega)) x8 (fun H9 t9 => ?_))
      have f9 := (f8.trans t9).mut (o := obj (cA K "Packing") dx n_Packing ([.ref stl, .int (st.size : Int), .ref ls, .int (fi : Int)] ++ [.int ((kk - fi : Nat) : Int)])) nx
      generalize e9 : upd H9 x (obj (cA K "Packing") dx n_Packing ([.ref stl, .int (st.size : Int), .ref ls, .int (fi : Int)] ++ [.int ((kk - fi : Nat) : Int)])) = H9' at f9 ⊢
      have x9 : H9' x = some (obj (cA K "Packing") dx n_Packing [.ref stl, .int (st.size : Int), .ref ls, .int (fi : Int), .int ((kk - fi : Nat) : Int)]) := by rw [← e9]; exact upd_same
      have l9 : H9' ls = some (.lst (nats ((List.range (kk + 1)).map (Geo.S st.lens st.size)))) := by rw [← e9, upd_ne (Ne.symm nxl)]; exact t9 _ _ l8
      have atf : atI (nats ((List.range (kk + 1)).map (Geo.S st.lens st.size))) (fi : Int) = some (.int (Geo.S st.lens st.size fi : Nat)) := by
        rw [atI_nats (by simp; omega), List.getD_eq_getElem?_getD, List.getElem?_map, List.getElem?_range (by omega)]
        rfl
      have lef : Geo.S st.lens st.size fi ≤ Geo.S st.lens st.size kk := Geo.S_le ok (by omega)
      refine b_one (s_fnewV 0 kl (dn_sub (dv_ixL (dv_at 2 kl (dv_var 0) x9) (dv_neg dv_int) (SqL.of l9) (last kk)) (dv_ixL (dv_at 2 kl (dv_var 0) x9) (dv_at 3 kl (dv_var 0) x9) (SqL.of l9) atf) lef) x9 (fun H10 t10 => ?_))
      have f10 := (f9.trans t10).mut (o := obj (cA K "Packing") dx n_Packing ([.ref stl, .int (st.size : Int), .ref ls, .int (fi : Int), .int ((kk - fi : Nat) : Int)] ++ [.int ((Geo.S st.lens st.size kk - Geo.S st.lens st.size fi : Nat) : Int)])) nx
      refine k _ ⟨st.lens, st.size, fi, kk⟩ f10 ⟨⟨ok, h1, ?_, h2.symm, dis⟩, dx, stl, ls, upd_same, f10.tup s2, SqL.of (by rw [upd_ne (Ne.symm nxl)]; exact t10 _ _ l9)⟩ rfl rfl
      have := ok.few
      show kk ≤ 6
      omega
end
end KR

namespace Geo
/-- the first b from lo on with p b, k tries -/
def firstF (p : Nat → Bool) : Nat → Nat → Nat
  | 0, b => b
  | k + 1, b => if p b then b else firstF p k (b + 1)
theorem firstF_eq {p : Nat → Bool} : ∀ {k lo b : Nat}, p b = true → lo ≤ b → b ≤ lo + k → (∀ c, lo ≤ c → c < b → p c = false) → firstF p k lo = b
  | 0, lo, b, _, h1, h2, _ => by
    unfold firstF
    omega
  | k + 1, lo, b, h, h1, h2, h3 => by
    unfold firstF
    by_cases e : lo = b
    · subst e
      rw [if_pos h]
    · rw [if_neg (by rw [h3 lo (Nat.le_refl _) (by omega)]; simp)]
      exact firstF_eq h (by omega) (by omega) (fun c h4 h5 => h3 c (by omega) h5)
theorem firstF_ok {p : Nat → Bool} : ∀ {k lo b : Nat}, p b = true → lo ≤ b → b ≤ lo + k → p (firstF p k lo) = true ∧ lo ≤ firstF p k lo ∧ firstF p k lo ≤ b ∧ ∀ c, lo ≤ c → c < firstF p k lo → p c = false
  | 0, lo, b, h, h1, h2 => by
    have e : lo = b := by omega
    subst e
    unfold firstF
    exact ⟨h, Nat.le_refl _, Nat.le_refl _, fun c h3 h4 => by omega⟩
  | k + 1, lo, b, h, h1, h2 => by
    unfold firstF
    cases q : p lo with
    | true => exact ⟨by rw [if_pos rfl]; exact q, by simp, by simpa using h1, fun c h3 h4 => by rw [if_pos rfl] at h4; omega⟩
    | false =>
      have ne : lo ≠ b := fun e => by
        rw [e, h] at q
        cases q
      obtain ⟨a1, a2, a3, a4⟩ := firstF_ok (k := k) (lo := lo + 1) h (by omega) (by omega)
      simp only [Bool.false_eq_true, if_false]
      refine ⟨a1, by omega, a3, fun c h3 h4 => ?_⟩
      by_cases e : c = lo
      · rw [e]; exact q
      · exact a4 c (by omega) h4
/-- the greatest of a list -/
def maxL : List Nat → Nat
  | [] => 0
  | a :: r => max a (maxL r)
theorem maxL_ge : ∀ {l : List Nat} {x : Nat}, x ∈ l → x ≤ maxL l
  | a :: r, x, h => by
    unfold maxL
    rcases List.mem_cons.mp h with e | e
    · omega
    · have := maxL_ge e
      omega
theorem maxL_mem : ∀ {l : List Nat}, l ≠ [] → maxL l ∈ l
  | [a], _ => by simp [maxL]
  | a :: b :: r, _ => by
    have ih := maxL_mem (l := b :: r) (by simp)
    show max a (maxL (b :: r)) ∈ _
    by_cases h : a ≤ maxL (b :: r)
    · rw [Nat.max_eq_right h]
      exact List.mem_cons_of_mem _ ih
    · rw [Nat.max_eq_left (by omega)]
      exact List.mem_cons_self
theorem maxL_le {l : List Nat} {b : Nat} (h : ∀ x ∈ l, x ≤ b) : maxL l ≤ b := by
  cases l with
  | nil => exact Nat.zero_le _
  | cons a r => exact h _ (maxL_mem (by simp))
theorem maxL_eq {l : List Nat} {b : Nat} (h : b ∈ l) (h2 : ∀ x ∈ l, x ≤ b) : maxL l = b := Nat.le_antisymm (maxL_le h2) (maxL_ge h)
section
variable {lens : List Nat} {room : Nat}
theorem S_add (ok : Ok lens room) (m k : Nat) : S lens room m + k ≤ S lens room (m + k) := by
  induction k with
  | zero => exact Nat.le_refl _
  | succ k ih =>
    have := S_lt ok (m + k)
    show S lens room m + (k + 1) ≤ S lens room (m + k + 1)
    omega
theorem hold_add (ok : Ok lens room) (r m : Nat) : hold lens room (r + m) ≤ hold lens room r + m := by
  have h1 := (hold_ok ok r).2
  have h2 := (hold_ok ok (r + m)).1
  have h3 := S_add ok (hold lens room r + 1) m
  apply Nat.le_of_not_lt
  intro h
  have h4 := S_le ok (show hold lens room r + 1 + m ≤ hold lens room (r + m) by omega)
  omega
theorem hold_mono (ok : Ok lens room) {a b : Nat} (h : a ≤ b) : hold lens room a ≤ hold lens room b := by
  have h1 := (hold_ok ok a).1
  have h2 := (hold_ok ok b).2
  apply Nat.le_of_not_lt
  intro h3
  have := S_le ok (show hold lens room b + 1 ≤ hold lens room a by omega)
  omega
/-- the pages that many rows touch, at most, from rows of a cycle -/
def mpN (lens : List Nat) (room begin rows m : Nat) : Nat := maxL ((List.range rows).map fun t => hold lens room (begin + t + m) - hold lens room (begin + t))
theorem mpN_le (ok : Ok lens room) (begin rows m : Nat) : mpN lens room begin rows m ≤ m := maxL_le fun x hx => by
  obtain ⟨t, _, e⟩ := List.mem_map.mp hx
  have := hold_add ok (begin + t) m
  omega
end
end Geo
namespace KR
open Geo
/-- what a Plan of the settings st comes to, packed as g -/
def phN (st : Sg) (g : Pg) : Nat := (g.n - g.first) * st.every / Nat.gcd (g.S g.n - g.S g.first) st.every
def cycN (st : Sg) (g : Pg) : Nat := phN st g / (g.n - g.first) * (g.S g.n - g.S g.first)
def mpG (st : Sg) (g : Pg) (m : Nat) : Nat := mpN g.lens g.room (g.S g.first) (cycN st g) m
def liveN (st : Sg) (g : Pg) : Nat := mpG st g st.keep + 1
def begN (st : Sg) (g : Pg) : Nat := mpG st g st.every
def needN (st : Sg) (g : Pg) : Nat := liveN st g + begN st g + 1
def levN (st : Sg) (g : Pg) : Nat := firstF (fun l => decide (needN st g ≤ st.fanout ^ l)) 200 0
def widN (st : Sg) (g : Pg) : Nat := st.fanout ^ levN st g
def fullB (st : Sg) (g : Pg) (b : Nat) : Bool := decide (g.first + needN st g ≤ b * widN st g) && decide (st.keep + st.every ≤ g.S (b * widN st g))
def bbN (st : Sg) (g : Pg) : Nat := firstF (fullB st g) 300 1
section
variable {st : Sg} {g : Pg}
theorem gcd_pos' (ok : st.Ok) : 0 < Nat.gcd (g.S g.n - g.S g.first) st.every := Nat.gcd_pos_of_pos_right _ (by have := ok.e1; omega)
theorem phN_eq (ok : st.Ok) : phN st g = (g.n - g.first) * (st.every / Nat.gcd (g.S g.n - g.S g.first) st.every) := Nat.mul_div_assoc _ (Nat.gcd_dvd_right _ _)
theorem tim_pos (ok : st.Ok) : 1 ≤ st.every / Nat.gcd (g.S g.n - g.S g.first) st.every := Nat.div_pos (Nat.le_of_dvd (by have := ok.e1; omega) (Nat.gcd_dvd_right _ _)) (gcd_pos' ok)
theorem phN_div (ok : st.Ok) (h : g.first < g.n) : phN st g / (g.n - g.first) = st.every / Nat.gcd (g.S g.n - g.S g.first) st.every := by
  rw [phN_eq ok]
  exact Nat.mul_div_cancel_left _ (by omega)
theorem phN_pos (ok : st.Ok) (h : g.first < g.n) : 1 ≤ phN st g := by
  rw [phN_eq ok]
  exact Nat.mul_pos (by omega) (tim_pos ok)
theorem cycN_eq (ok : st.Ok) (h : g.first < g.n) : cycN st g = st.every / Nat.gcd (g.S g.n - g.S g.first) st.every * (g.S g.n - g.S g.first) := by
  unfold cycN
  rw [phN_div ok h]
theorem rows_pos (h : g.Ok) : 1 ≤ g.S g.n - g.S g.first := by
  have := Geo.S_mono h.ok h.lt
  show 1 ≤ Geo.S g.lens g.room g.n - Geo.S g.lens g.room g.first
  omega
theorem Sn_small (h : g.Ok) : g.S g.n ≤ 390 := by
  have h1 := Geo.S_le_mul (lens := g.lens) (room := g.room) g.n
  have h2 : g.n * (g.room + 1) ≤ 6 * 65 := Nat.mul_le_mul h.n6 (by have := h.ok.room; omega)
  show Geo.S g.lens g.room g.n ≤ 390
  omega
theorem cycN_pos (ok : st.Ok) (h : g.Ok) : 1 ≤ cycN st g := by
  rw [cycN_eq ok h.lt]
  exact Nat.mul_pos (tim_pos ok) (rows_pos h)
theorem cycN_le (ok : st.Ok) (h : g.Ok) : cycN st g ≤ 15600 := by
  rw [cycN_eq ok h.lt]
  have h1 : st.every / Nat.gcd (g.S g.n - g.S g.first) st.every ≤ 40 := Nat.le_trans (Nat.div_le_self _ _) ok.e40
  have h2 : g.S g.n - g.S g.first ≤ 390 := by have := Sn_small h; omega
  exact Nat.le_trans (Nat.mul_le_mul h1 h2) (by decide)
theorem liveN_le (ok : st.Ok) (h : g.Ok) : liveN st g ≤ 101 := by
  have := Geo.mpN_le h.ok (g.S g.first) (cycN st g) st.keep
  have := ok.k100
  unfold liveN mpG
  omega
theorem begN_le (ok : st.Ok) (h : g.Ok) : begN st g ≤ 40 := by
  have := Geo.mpN_le h.ok (g.S g.first) (cycN st g) st.every
  have := ok.e40
  unfold begN mpG
  omega
theorem needN_le (ok : st.Ok) (h : g.Ok) : needN st g ≤ 142 := by
  have := liveN_le ok h
  have := begN_le ok h
  unfold needN
  omega
theorem lt_pow {f : Nat} (h : 2 ≤ f) (l : Nat) : l < f ^ l := Nat.lt_of_lt_of_le (Nat.lt_two_pow_self) (Nat.pow_le_pow_left h l)
theorem levN_ok (ok : st.Ok) (h : g.Ok) : needN st g ≤ widN st g ∧ levN st g ≤ 142 ∧ ∀ l, l < levN st g → st.fanout ^ l < needN st g := by
  obtain ⟨h1, _, h2, h3⟩ := Geo.firstF_ok (p := fun l => decide (needN st g ≤ st.fanout ^ l)) (k := 200) (lo := 0) (b := needN st g) (by have := lt_pow ok.f2 (needN st g); simp; omega) (Nat.zero_le _) (by have := needN_le ok h; omega)
  refine ⟨of_decide_eq_true h1, Nat.le_trans h2 (needN_le ok h), fun l hl => ?_⟩
  have := of_decide_eq_false (h3 l (Nat.zero_le _) hl)
  omega
theorem levN_eq (ok : st.Ok) (h : g.Ok) {l : Nat} (h1 : needN st g ≤ st.fanout ^ l) (h2 : ∀ c, c < l → st.fanout ^ c < needN st g) : levN st g = l := by
  refine Geo.firstF_eq (decide_eq_true h1) (Nat.zero_le _) ?_ (fun c _ hc => decide_eq_false (by have := h2 c hc; omega))
  by_cases z : l = 0
  · omega
  · have := h2 (l - 1) (by omega)
    have := lt_pow ok.f2 (l - 1)
    have := needN_le ok h
    omega
theorem widN_pos (ok : st.Ok) : 1 ≤ widN st g := Nat.pow_pos (by have := ok.f2; omega)
theorem full_late (ok : st.Ok) (h : g.Ok) {b : Nat} (hb : 200 ≤ b) : fullB st g b = true := by
  have h1 := widN_pos (g := g) ok
  have h2 : b ≤ b * widN st g := Nat.le_mul_of_pos_right _ h1
  have h3 := needN_le ok h
  have h4 := h.n6
  have h5 := h.lt
  have h6 : b * widN st g ≤ g.S (b * widN st g) := Geo.S_ge h.ok _
  have h7 := ok.k100
  have h8 := ok.e40
  unfold fullB
  rw [decide_eq_true (by omega), decide_eq_true (by omega)]
  rfl
theorem bbN_ok (ok : st.Ok) (h : g.Ok) : fullB st g (bbN st g) = true ∧ 1 ≤ bbN st g ∧ bbN st g ≤ 200 ∧ ∀ c, 1 ≤ c → c < bbN st g → fullB st g c = false :=
  Geo.firstF_ok (p := fullB st g) (k := 300) (lo := 1) (b := 200) (full_late ok h (Nat.le_refl _)) (by decide) (by decide)
theorem bbN_eq (ok : st.Ok) (h : g.Ok) {b : Nat} (h0 : 1 ≤ b) (h1 : fullB st g b = true) (h2 : ∀ c, 1 ≤ c → c < b → fullB st g c = false) : bbN st g = b := by
  refine Geo.firstF_eq h1 h0 ?_ h2
  apply Nat.le_of_not_lt
  intro z
  have := h2 200 (by decide) (by omega)
  rw [full_late ok h (Nat.le_refl _)] at this
  cases this
end
end KR

namespace KR
open PySem PySem.Spec PyProof.Rows L2 Sx
section
variable {P : Program} {w : World} {K : PySem.W.Frag} {mg : Str → Option Value} {base : Heap}
/-! ### LimitExceeded.__init__ -/
theorem ok_LimitExceeded_init (T : Hd K mg) : Has P w K mg base 1 (He.fAd K d_LimitExceeded___init__.at_) (spExI (cA K "LimitExceeded") "limit") := by
  refine hasW T i_LimitExceeded___init__ sc_LimitExceeded___init__ bd_LimitExceeded___init__ (fun vs H Q E h => ?_) (fun f cdv A outer s H vs Q E hr h => ?_)
  · obtain ⟨a, v, F, rfl, _⟩ := h
    rfl
  · obtain ⟨a, v, F, rfl, na, sF, ha, k⟩ := h
    have T1 := T.exc e_exc_LimitExceeded "LimitExceeded" "limit"
    refine b_cons (s_expr (d_leinit (T.clsg e_cg_StoreError "StoreError") (T.glo "StoreError" e_glo) T1.le (da_cons (dv_var 0) (da_cons dv_str da_nil)) (by simp) ha) (fun v' H1 t1 _ => ?_))
    refine b_one (s_ost 0 T1.le (dv_var 1) (t1 _ _ ha) T1.no (fun dx H2 t2 nd ne => ?_))
    have s2 := (sF.trans t1).trans t2
    have nd0 : F dx = none := s2.free nd
    refine k dx _ ((s2.mut nd0).mut na) nd0 ne upd_same ?_
    rw [upd_ne ne, upd_same]
theorem xc_Limit (T : Hd K mg) : Xc P w K mg base 1 "LimitExceeded" (cA K "LimitExceeded") "limit" := (ok_LimitExceeded_init T).xc T e_exc_LimitExceeded
/-! ### Packing.cycle -/
def spCyc (K : PySem.W.Frag) : Sp := fun vs H Q _ => ∃ (p : Addr) (g : Pg), vs = [.ref p] ∧ PkAt K H p g ∧ ∀ H' t, Same H H' → H' t = some (.tup [.int (g.first : Nat), .int ((g.n - g.first : Nat) : Int), .int ((g.S g.n - g.S g.first : Nat) : Int)]) → Q (.ref t) H'
theorem ok_cycle (T : Hd K mg) : Has P w K mg base 1 (He.fAd K d_Packing_cycle.at_) (spCyc K) := by
  refine hasW T i_Packing_cycle sc_Packing_cycle bd_Packing_cycle (fun vs H Q E h => ?_) (fun f cdv A outer s H vs Q E hr h => ?_)
  · obtain ⟨p, g, rfl, _⟩ := h
    rfl
  · obtain ⟨p, g, rfl, hP, k⟩ := h
    obtain ⟨ok, dx, tl, ls, h1, h2, h3⟩ := id hP
    have kl := T.kl e_kl_Packing
    exact b_one (s_ret (d_tup (da_cons (dv_at 3 kl (dv_var 0) h1) (da_cons (dv_at 4 kl (dv_var 0) h1) (da_cons (dv_at 5 kl (dv_var 0) h1) da_nil))) (by simp)) (fun v H' s' hv => by
      obtain ⟨t, ev, ht⟩ := hv
      subst ev
      exact k H' t s' ht))
theorem gives_cyc {H : Hp} {p : Addr} {g : Pg} (h : PkAt K H p g) : Gives (spCyc K) [.ref p] H (fun v H' => ∃ t, v = .ref t ∧ SqT K H' t [.int (g.first : Nat), .int ((g.n - g.first : Nat) : Int), .int ((g.S g.n - g.S g.first : Nat) : Int)]) := fun H1 s1 Q E q => ⟨p, g, rfl, h.same s1, fun H' t s' ht => q _ H' s' ⟨t, rfl, SqT.of ht⟩⟩
theorem gives_start {H : Hp} {p : Addr} {g : Pg} {m : Nat} (h : PkAt K H p g) (hm : m < 2 ^ 200) : Gives (spStart K) [.ref p, .int m] H (fun v _ => v = .int (g.S m : Nat)) := fun H1 s1 Q E q => ⟨p, g, m, rfl, hm, h.same s1, fun H' s' => q _ H' s' rfl⟩
theorem gives_hold {H : Hp} {p : Addr} {g : Pg} {m : Nat} (h : PkAt K H p g) (hm : m < 2 ^ 200) : Gives (spHold K) [.ref p, .int m] H (fun v _ => v = .int (Geo.hold g.lens g.room m : Nat)) := fun H1 s1 Q E q => ⟨p, g, m, rfl, hm, h.same s1, fun H' s' => q _ H' s' rfl⟩
/-! ### common_factor -/
def spGcd : Sp := fun vs H Q _ => ∃ a b : Nat, vs = [.int a, .int b] ∧ ∀ H', Same H H' → Q (.int (Nat.gcd a b : Nat)) H'
theorem ok_common_factor (T : Hd K mg) : Has P w K mg base 1 (He.fAd K d_common_factor.at_) spGcd := by
  refine hasW T i_common_factor sc_common_factor bd_common_factor (fun vs H Q E h => ?_) (fun f cdv A outer s H vs Q E hr h => ?_)
  · obtain ⟨a, b, rfl, _⟩ := h
    rfl
  · obtain ⟨a, b, rfl, k⟩ := h
    refine b_cons (s_while (fun m σ H' => Same H H' ∧ ∃ (x y : Nat), σ = [some (.int (x : Int)), some (.int (y : Int))] ∧ m = y ∧ Nat.gcd x y = Nat.gcd a b) b ⟨Same.refl _, a, b, rfl, rfl, rfl⟩ ?_)
    rintro m σ H2 ⟨s2, x, y, rfl, rfl, hg⟩
    refine ⟨!decide (m = 0), tn_ne (dv_var 1) (dn_lit 0), fun hb H3 s3 => ?_, fun hb H3 s3 => ?_⟩
    · have hb : m ≠ 0 := by simpa using hb
      refine b_one (s_par (i := 0) (j := 1) (dv_var 1) (dn_mod (dv_var 0) (dv_var 1) (by omega)) (fun H4 s4 => ?_) rfl sc_common_factor.nd (by decide))
      refine ⟨x % m, Nat.mod_lt _ (by omega), (s2.trans s3).trans s4, m, x % m, rfl, rfl, ?_⟩
      rw [← hg, Nat.gcd_comm x m, Nat.gcd_rec m x, Nat.gcd_comm]
    · have hb : m = 0 := by simpa using hb
      subst hb
      refine b_one (s_retV (dv_var 0) fun H4 s4 => ?_)
      have q := k H4 ((s2.trans s3).trans s4)
      rw [← hg, Nat.gcd_zero_right] at q
      exact q
theorem gives_gcd {H : Hp} {a b : Nat} : Gives spGcd [.int a, .int b] H (fun v _ => v = .int (Nat.gcd a b : Nat)) := fun H1 s1 Q E q => ⟨a, b, rfl, fun H' s' => q _ H' s' rfl⟩
/-! ### Plan.most_pages, Plan.is_full -/
/-- a Plan in the making -/
structure PlPart (K : PySem.W.Frag) (H : Hp) (x : Addr) (st : Sg) (g : Pg) (k : Nat) : Prop where
  sok : st.Ok
  at_ : ∃ dx sp pk vals, H x = some (obj (cA K "Plan") dx n_Plan vals) ∧ StAt K H sp st ∧ PkAt K H pk g ∧ vals[0]? = some (.ref sp) ∧ vals[1]? = some (.ref pk) ∧ vals[2]? = some (.int (g.first : Nat)) ∧
    vals[4]? = some (.int (cycN st g : Nat)) ∧ (k = 9 → vals[5]? = some (.int (liveN st g : Nat)) ∧ vals[6]? = some (.int (begN st g : Nat)) ∧ vals[8]? = some (.int (widN st g : Nat)))
theorem PlPart.same {H H' : Hp} {x : Addr} {st : Sg} {g : Pg} {k : Nat} (h : PlPart K H x st g k) (s : Same H H') : PlPart K H' x st g k := by
  obtain ⟨ok, dx, sp, pk, vals, h1, h2, h3, h4⟩ := h
  exact ⟨ok, dx, sp, pk, vals, s _ _ h1, h2.same s, h3.same s, h4⟩
def spMost (K : PySem.W.Frag) : Sp := fun vs H Q _ => ∃ (x : Addr) (st : Sg) (g : Pg) (k m : Nat), vs = [.ref x, .int m] ∧ m < 2 ^ 60 ∧ PlPart K H x st g k ∧ ∀ H', Same H H' → Q (.int (mpG st g m : Nat)) H'
theorem ok_most_pages (T : Hd K mg) : Has P w K mg base 3 (He.fAd K d_Plan_most_pages.at_) (spMost K) := by
  refine hasW T i_Plan_most_pages sc_Plan_most_pages bd_Plan_most_pages (fun vs H Q E h => ?_) (fun f cdv A outer s H vs Q E hr h => ?_)
  · obtain ⟨x, st, g, k, m, rfl, _⟩ := h
    rfl
  · obtain ⟨x, st, g, kk, m, rfl, hm, hP, k⟩ := h
    obtain ⟨sok, dx, sp, pk, vals, h1, hS, hK, v0, v1, v2, v4, _⟩ := id hP
    have kl := T.kl e_kl_Plan
    have kp := T.kl e_kl_Packing
    have MS := ((ok_start (P := P) (w := w) (base := base) T).met T e_met_Packing (C := "Packing") (m := "start") (D := "Packing")).mono (show 1 ≤ 2 by decide)
    have MH := ((ok_holder (P := P) (w := w) (base := base) T).met T e_met_Packing (C := "Packing") (m := "holder") (D := "Packing")).mono (show 1 ≤ 2 by decide)
    obtain ⟨gok, pdx, ptl, pls, p1, p2, p3⟩ := id hK
    have hSn := Sn_small gok
    have hf6 := gok.n6
    have hfl := gok.lt
    have hSf : g.S g.first ≤ 390 := Nat.le_trans (Geo.S_le gok.ok (Nat.le_of_lt hfl)) hSn
    have hcl := cycN_le sok gok
    have hcp := cycN_pos sok gok
    have b62 : (2 : Nat) ^ 60 < 2 ^ 62 := by decide
    have b200 : ∀ z : Nat, z < 2 ^ 62 → z < 2 ^ 200 := fun z hz => Nat.lt_trans hz (Nat.pow_lt_pow_right (by decide) (by decide))
    refine b_cons (s_parD (i := 2) (j := 3) (d_met MS hr kp (dv_at 1 kl (dv_var 0) h1 v1) p1 (da_cons (dv_at 2 kl (dv_var 0) h1 v2) da_nil) (gives_start hK (b200 _ (by omega)))) (d_lst da_nil (by simp)) (fun v H1 s1 ⟨ls, ev, nls, hls⟩ => ?_) rfl sc_Plan_most_pages.nd (by decide))
    subst ev
    -- for row in range(begin, begin + self.cycle_rows): found.append(..)
    refine b_cons (s_forR2 (i := 4) (u := g.S g.first) (v := g.S g.first + cycN st g)
      (fun t σ H' => Same H H' ∧ H' ls = some (.lst (nats ((List.range t).map fun t => Geo.hold g.lens g.room (g.S g.first + t + m) - Geo.hold g.lens g.room (g.S g.first + t)))) ∧ ∃ r : Option V, σ = [some (.ref x), some (.int m), some (.int (g.S g.first : Nat)), some (.ref ls), r])
      (dv_var 2) (dn_add (dv_var 2) (dv_at 4 kl (dv_var 0) (s1 _ _ h1) v4)) (by omega) (by omega) (fun H' s' => ⟨s1.trans s', s' _ _ hls, none, rfl⟩) (fun t σ H2 ht ⟨s2, l2, r, eσ⟩ => ?_) (fun σ H2 ⟨s2, l2, r, eσ⟩ => ?_) sc_Plan_most_pages.nd rfl (T.free "range" e_free))
    · subst eσ
      have ht : t < cycN st g := by omega
      have ho := Geo.hold_mono gok.ok (show g.S g.first + t ≤ g.S g.first + t + m by omega)
      refine b_one (s_append (dv_var 3) l2 (dn_sub (d_met MH hr kp (dv_at 1 kl (dv_var 0) (s2 _ _ h1) v1) (s2 _ _ p1) (da_cons (dn_add (dv_var 4) (dv_var 1)) da_nil) (gives_hold (hK.same s2) (b200 _ (by omega)))) (d_met MH hr kp (dv_at 1 kl (dv_var 0) (s2 _ _ h1) v1) (s2 _ _ p1) (da_cons (dv_var 4) da_nil) (gives_hold (hK.same s2) (b200 _ (by omega)))) ho) (fun v H3 s3 ev => ?_) (by simp [nats]; omega))
      have ev : v = _ := ev
      subst ev
      refine ⟨(s2.trans s3).mut nls, ?_, _, rfl⟩
      rw [upd_same, List.range_succ, List.map_append]
      simp [nats]
    · subst eσ
      have e : g.S g.first + cycN st g - g.S g.first = cycN st g := by omega
      rw [e] at l2
      generalize hL : (List.range (cycN st g)).map (fun t => Geo.hold g.lens g.room (g.S g.first + t + m) - Geo.hold g.lens g.room (g.S g.first + t)) = L at l2
      have hne : L ≠ [] := by
        rw [← hL]
        intro z
        have := congrArg List.length z
        rw [List.length_map, List.length_range, List.length_nil] at this
        omega
      have eM : mpG st g m = Geo.maxL L := by rw [← hL]; rfl
      refine b_one (s_retV (dv_maxl (ns := L.map fun n : Nat => (n : Int)) (g := (Geo.maxL L : Nat)) (dl_of (dv_var 3) (SqL.of (by rw [l2]; simp [nats]))) (List.mem_map_of_mem (Geo.maxL_mem hne)) (fun y hy => ?_) rfl (T.free "max" e_free)) fun H3 s3 => ?_)
      · obtain ⟨z, hz, ez⟩ := List.mem_map.mp hy
        have := Geo.maxL_ge hz
        omega
      · rw [← eM]
        exact k H3 (s2.trans s3)
theorem gives_most {H : Hp} {x : Addr} {st : Sg} {g : Pg} {kk m : Nat} (h : PlPart K H x st g kk) (hm : m < 2 ^ 60) : Gives (spMost K) [.ref x, .int m] H (fun v _ => v = .int (mpG st g m : Nat)) := fun H1 s1 Q E q => ⟨x, st, g, kk, m, rfl, hm, h.same s1, fun H' s' => q _ H' s' rfl⟩
def spFull (K : PySem.W.Frag) : Sp := fun vs H Q _ => ∃ (x : Addr) (st : Sg) (g : Pg) (b : Nat), vs = [.ref x, .int b] ∧ b ≤ 1000 ∧ widN st g ≤ 1000000 ∧ PlPart K H x st g 9 ∧ ∀ H', Same H H' → Q (.bl (fullB st g b)) H'
theorem ok_is_full (T : Hd K mg) : Has P w K mg base 2 (He.fAd K d_Plan_is_full.at_) (spFull K) := by
  refine hasW T i_Plan_is_full sc_Plan_is_full bd_Plan_is_full (fun vs H Q E h => ?_) (fun f cdv A outer s H vs Q E hr h => ?_)
  · obtain ⟨x, st, g, b, rfl, _⟩ := h
    rfl
  · obtain ⟨x, st, g, b, rfl, hb1, hw, hP, k⟩ := h
    obtain ⟨sok, dx, sp, pk, vals, h1, hS, hK, v0, v1, v2, v4, v9⟩ := id hP
    obtain ⟨v5, v6, v8⟩ := v9 rfl
    have kl := T.kl e_kl_Plan
    have kp := T.kl e_kl_Packing
    have ks := T.kl e_kl_Settings
    have MS := (ok_start (P := P) (w := w) (base := base) T).met T e_met_Packing (C := "Packing") (m := "start") (D := "Packing")
    obtain ⟨gok, pdx, ptl, pls, p1, p2, p3⟩ := id hK
    obtain ⟨_, sdx, stl, s1, s2⟩ := id hS
    refine b_cons (s_setV (i := 2) (dn_mul (dv_var 1) (dv_at 8 kl (dv_var 0) h1 v8) (wide_nat (a := 10) (b := 20) (by omega) (by omega) (by decide) (by decide) (by decide))) (fun H1 t1 => ?_) sc_Plan_is_full.nd)
    have hle : b * widN st g ≤ 1000 * 1000000 := Nat.mul_le_mul hb1 hw
    refine b_cons (s_if (tn_lt (dv_var 2) (dn_add (dn_add (dn_add (dv_at 2 kl (dv_var 0) (t1 _ _ h1) v2) (dv_at 5 kl (dv_var 0) (t1 _ _ h1) v5)) (dv_at 6 kl (dv_var 0) (t1 _ _ h1) v6)) (dn_lit 1))) (fun hb H2 t2 => ?_) (fun hb H2 t2 => b_nil ?_))
    · have hb := of_decide_eq_true hb
      refine b_one (s_retV dv_bl fun H3 t3 => ?_)
      have q := k H3 ((t1.trans t2).trans t3)
      have e : fullB st g b = false := by
        unfold fullB needN
        rw [decide_eq_false (by omega)]
        rfl
      rw [e] at q
      exact q
    · have hb := of_decide_eq_false hb
      have u := t1.trans t2
      refine b_one (s_retV (dn_ge (d_met MS hr kp (dv_at 1 kl (dv_var 0) (u _ _ h1) v1) (u _ _ p1) (da_cons (dv_var 2) da_nil) (gives_start (hK.same u) (Nat.lt_of_le_of_lt hle (by decide)))) (dn_add (dv_at 5 ks (dv_at 0 kl (dv_var 0) (u _ _ h1) v0) (u _ _ s1)) (dv_at 4 ks (dv_at 0 kl (dv_var 0) (u _ _ h1) v0) (u _ _ s1)))) fun H3 t3 => ?_)
      have q := k H3 (u.trans t3)
      have e : fullB st g b = decide (st.keep + st.every ≤ g.S (b * widN st g)) := by
        unfold fullB needN
        rw [decide_eq_true (p := _ ≤ _) (by omega)]
        rfl
      rw [e] at q
      exact q
theorem gives_full {H : Hp} {x : Addr} {st : Sg} {g : Pg} {b : Nat} (h : PlPart K H x st g 9) (hb : b ≤ 1000) (hw : widN st g ≤ 1000000) : Gives (spFull K) [.ref x, .int b] H (fun v _ => v = .bl (fullB st g b)) := fun H1 s1 Q E q => ⟨x, st, g, b, rfl, hb, hw, h.same s1, fun H' s' => q _ H' s' rfl⟩
end
end KR

namespace KR
open PySem PySem.Spec PyProof.Rows L2 Sx
section
variable {P : Program} {w : World} {K : PySem.W.Frag} {mg : Str → Option Value} {base : Heap}
theorem dn_gint {X : Cx} {n : Str} {σ : L2.St} {H : Hp} {pos : Pos} {z : Nat} (hm : ∃ t, X.mg n = some (.int (z : Int) t)) (hg : Gl X n := by rfl) (hd : (n == ("__debug__" : Str)) = false := by decide) : DV X (.Name n pos) σ H (.int (z : Int)) := dv_gint hm hg hd
/-- Packing(settings) -/
theorem d_Packing (T : Hd K mg) {X : Cx} (eq : X.prog = P ∧ X.w = w ∧ X.K = K ∧ X.mg = mg ∧ X.base = base) {e : Expr} {σ : L2.St} {H : Hp} {p : Addr} {st : Sg} {p2 pos : Pos} (hr : Room 4 X.A) (he : DV X e σ H (.ref p)) (hS : StAt K H p st) (hg : Gl X "Packing" := by rfl)
    (hst : starEach [e] X.env = (false, eval e X.env) :: starEach [] X.env := by rfl) (hpl : (backTo pos (starEach [] X.env)).any (·.1) = false := by rfl) :
    D X (.Call (.Name "Packing" p2) [e] [] pos) σ H (fun v H' => ∃ pk g, v = .ref pk ∧ PkAt K H' pk g ∧ g.lens = st.lens ∧ g.room = st.size) := by
  obtain ⟨e1, e2, e3, e4, e5⟩ := eq
  subst e1 e2 e3 e4 e5
  have M := (ok_Packing_init (P := X.prog) (w := X.w) (base := X.base) T).mak T e_mk_Packing (C := "Packing") (D := "Packing")
  refine d_mak M hr (da_cons he da_nil hst) (fun H1 s1 x dx nx nd ne Q q => ?_) hg (by decide) hst hpl
  have s0 : Same H1 (upd (upd H1 dx (.own x)) x (.ins (cA X.K "Packing") dx [])) := (Same.new nd).trans (Same.new (by rw [upd_ne (Ne.symm ne)]; exact nx))
  exact ⟨x, p, st, H1, rfl, ⟨s0, nx, dx, upd_same⟩, hS.same s1, fun H' g s' hP h1 h2 => q H' s' ⟨x, g, rfl, hP, h1, h2⟩⟩
/-- a Plan stands at p -/
structure PlAt (K : PySem.W.Frag) (H : Hp) (p : Addr) (st : Sg) (g : Pg) : Prop where
  sok : st.Ok
  gok : g.Ok
  le : g.lens = st.lens
  ro : g.room = st.size
  at_ : ∃ dx sp pk, H p = some (obj (cA K "Plan") dx n_Plan [.ref sp, .ref pk, .int (g.first : Nat), .int (phN st g : Nat), .int (cycN st g : Nat), .int (liveN st g : Nat), .int (begN st g : Nat), .int (levN st g : Nat), .int (widN st g : Nat), .int (bbN st g : Nat)]) ∧ StAt K H sp st ∧ PkAt K H pk g
theorem PlAt.same {H H' : Hp} {p : Addr} {st : Sg} {g : Pg} (h : PlAt K H p st g) (s : Same H H') : PlAt K H' p st g := by
  obtain ⟨h1, h2, h3, h4, dx, sp, pk, h5, h6, h7⟩ := h
  exact ⟨h1, h2, h3, h4, dx, sp, pk, s _ _ h5, h6.same s, h7.same s⟩
/-- what a Plan of st comes to: it stands, or a limit is exceeded -/
def PlEnd (K : PySem.W.Frag) (F : Hp) (st : Sg) (E : XK) (Qn : Pg → Hp → Prop) : Prop := ∀ g : Pg, g.Ok → g.lens = st.lens → g.room = st.size →
  (16 < phN st g → ∀ d H', Same F H' → H' d = some (.xd [("limit", .int 16)]) → E (.ref (cA K "LimitExceeded")) (some d) H') ∧
  (phN st g ≤ 16 → 128 < widN st g → ∀ d H', Same F H' → H' d = some (.xd [("limit", .int 128)]) → E (.ref (cA K "LimitExceeded")) (some d) H') ∧
  (phN st g ≤ 16 → widN st g ≤ 128 → ∀ H', Same F H' → Qn g H')
def spPlInit (K : PySem.W.Frag) : Sp := fun vs H Q E => ∃ (x p : Addr) (st : Sg) (F : Hp), vs = [.ref x, .ref p] ∧ Fresh F H x (cA K "Plan") ∧ StAt K F p st ∧ PlEnd K F st E (fun g H' => PlAt K H' x st g → Q .non H')
theorem ok_Plan_init (T : Hd K mg) : Has P w K mg base 5 (He.fAd K d_Plan___init__.at_) (spPlInit K) := by
  refine hasX T i_Plan___init__ sc_Plan___init__ bd_Plan___init__ (fun vs H Q E h => ?_) (fun f cdv A outer s H vs Q E hr h => ?_)
  · obtain ⟨x, p, st, F, rfl, _⟩ := h
    rfl
  · obtain ⟨x, p, st, F, rfl, ⟨sF, nx, dx, hx0⟩, hS, k⟩ := h
    obtain ⟨sok, sdx, stl, s1, s2⟩ := id hS
    have kl := T.kl e_kl_Plan
    have ks := T.kl e_kl_Settings
    have kp := T.kl e_kl_Packing
    have CS := ((ok_check_settings (P := P) (w := w) (base := base) T).cal T (x := "check_settings")).mono (show 1 ≤ 4 by decide)
    have CG := ((ok_common_factor (P := P) (w := w) (base := base) T).cal T (x := "common_factor")).mono (show 1 ≤ 4 by decide)
    have MC := ((ok_cycle (P := P) (w := w) (base := base) T).met T e_met_Packing (C := "Packing") (m := "cycle") (D := "Packing")).mono (show 1 ≤ 4 by decide)
    have MM := ((ok_most_pages (P := P) (w := w) (base := base) T).met T e_met_Plan (C := "Plan") (m := "most_pages") (D := "Plan")).mono (show 3 ≤ 4 by decide)
    have MF := ((ok_is_full (P := P) (w := w) (base := base) T).met T e_met_Plan (C := "Plan") (m := "is_full") (D := "Plan")).mono (show 2 ≤ 4 by decide)
    have XL := (xc_Limit (P := P) (w := w) (base := base) T).mono (show 1 ≤ 3 by decide)
    have hx0 : H x = some (obj (cA K "Plan") dx n_Plan []) := hx0
    refine b_cons (s_expr (d_cal CS hr (da_cons (dv_var 1) da_nil) (gives_chkS (hS.same sF))) (fun v H1 t1 _ => ?_))
    have f1 := sF.trans t1
    refine b_cons (s_fnewV 0 kl (dv_var 1) (t1 _ _ hx0) (fun H2 t2 => ?_))
    have f2 := (f1.trans t2).mut (o := obj (cA K "Plan") dx n_Plan ([] ++ [.ref p])) nx
    generalize e2 : upd H2 x (obj (cA K "Plan") dx n_Plan ([] ++ [.ref p])) = H2' at f2 ⊢
    have x2 : H2' x = some (obj (cA K "Plan") dx n_Plan [.ref p]) := by rw [← e2]; exact upd_same
    -- self.packing = Packing(settings)
    refine b_cons (s_fnew 0 kl (d_Packing (P := P) (w := w) (base := base) T ⟨rfl, rfl, rfl, rfl, rfl⟩ hr (dv_var 1) (hS.same f2)) x2 (fun v H3 t3 hv => ?_))
    obtain ⟨pk, g, ev, hK3, gl, gr⟩ := hv
    subst ev
    have nxk : pk ≠ x := by
      obtain ⟨_, pdx, ptl, pls, p1, _⟩ := id hK3
      intro z
      have q1 := t3 _ _ x2
      rw [← z, p1] at q1
      have q2 := congrArg (fun o : Option HO => match o with | some (.ins C _ fs) => fs.length | _ => 0) q1
      have q3 : (6 : Nat) = 1 := q2
      omega
    obtain ⟨k16, k128, kok⟩ := k g hK3.ok gl gr
    have x3 := t3 _ _ x2
    -- from here on: all that is known but x
    have fF := same_forget (f2.trans t3) nx
    have hK : PkAt K (del H3 x) pk g := by
      obtain ⟨ok, pdx, ptl, pls, p1, p2, p3⟩ := hK3
      exact ⟨ok, pdx, ptl, pls, by rw [del_ne nxk]; exact p1, sqT_del x3 p2, sqL_del x3 p3⟩
    have hS' : StAt K (del H3 x) p st := hS.same fF
    have n0 : del H3 x x = none := del_same
    have g3 : Same (del H3 x) (upd H3 x (obj (cA K "Plan") dx n_Plan ([.ref p] ++ [.ref pk]))) := same_del.mut n0
    generalize hG : del H3 x = G at fF hK hS' n0 g3
    generalize e3 : upd H3 x (obj (cA K "Plan") dx n_Plan ([.ref p] ++ [.ref pk])) = H3' at g3 ⊢
    have x3' : H3' x = some (obj (cA K "Plan") dx n_Plan [.ref p, .ref pk]) := by rw [← e3]; exact upd_same
    obtain ⟨gok, pdx, ptl, pls, p1, p2, p3⟩ := id hK
    obtain ⟨_, sdx', stl', s1', s2'⟩ := id hS'
    have hSn := Sn_small gok
    have hlt := gok.lt
    have hn6 := gok.n6
    have he40 := sok.e40
    have gp := gcd_pos' (g := g) sok
    -- first, pages, rows = self.packing.cycle()
    refine b_cons (s_unp3 (i := 2) (j := 3) (k := 4) (d_met0 MC hr kp (dv_at 1 kl (dv_var 0) x3') (g3 _ _ p1) (gives_cyc (hK.same g3))) (fun H4 t4 => ?_) rfl sc_Plan___init__.nd)
    have g4 := g3.trans t4
    have x4 := t4 _ _ x3'
    refine b_cons (s_fnewV 0 kl (dv_var 2) x4 (fun H5 t5 => ?_))
    have g5 := (g4.trans t5).mut (o := obj (cA K "Plan") dx n_Plan ([.ref p, .ref pk] ++ [.int (g.first : Nat)])) n0
    generalize e5 : upd H5 x (obj (cA K "Plan") dx n_Plan ([.ref p, .ref pk] ++ [.int (g.first : Nat)])) = H5' at g5 ⊢
    have x5 : H5' x = some (obj (cA K "Plan") dx n_Plan [.ref p, .ref pk, .int (g.first : Nat)]) := by rw [← e5]; exact upd_same
    -- self.phase_count
    refine b_cons (s_fnewV 0 kl (v := .int (phN st g : Nat)) (dn_fdiv (dn_mul (dv_var 3) (dv_at 4 ks (dv_var 1) (g5 _ _ s1')) (wide_nat (a := 10) (b := 10) (by omega) (by omega) (by decide) (by decide) (by decide))) (d_cal CG hr (da_cons (dv_var 4) (da_cons (dv_at 4 ks (dv_var 1) (g5 _ _ s1')) da_nil)) gives_gcd) gp (Nat.lt_of_le_of_lt (Nat.gcd_le_right _ (by have := sok.e1; omega)) (Nat.lt_of_le_of_lt he40 (by have : (64 : Nat) = 2 ^ 6 := rfl; exact Nat.lt_of_lt_of_le (show 40 < 2 ^ 6 by decide) (Nat.pow_le_pow_right (by decide) (by decide)))))) x5 (fun H6 t6 => ?_))
    have g6 := (g5.trans t6).mut (o := obj (cA K "Plan") dx n_Plan ([.ref p, .ref pk, .int (g.first : Nat)] ++ [.int (phN st g : Nat)])) n0
    generalize e6 : upd H6 x (obj (cA K "Plan") dx n_Plan ([.ref p, .ref pk, .int (g.first : Nat)] ++ [.int (phN st g : Nat)])) = H6' at g6 ⊢
    have x6 : H6' x = some (obj (cA K "Plan") dx n_Plan [.ref p, .ref pk, .int (g.first : Nat), .int (phN st g : Nat)]) := by rw [← e6]; exact upd_same
    -- if self.phase_count > MOST_PHASES
    refine b_cons (s_if (tn_gt (dv_at 3 kl (dv_var 0) x6) (dn_gint (z := 16) (T.int "MOST_PHASES" 16 e_int))) (fun hb H7 t7 => ?_) (fun hb H7 t7 => b_nil ?_))
    · have hb := of_decide_eq_true hb
      exact b_one (s_raise XL hr (takes_of rfl rfl rfl rfl) (dn_gint (z := 16) (T.int "MOST_PHASES" 16 e_int)) (fun d H8 t8 hd => k16 hb d H8 (fF.trans ((g6.trans t7).trans t8)) hd) rfl)
    have hb := of_decide_eq_false hb
    have g7 := g6.trans t7
    have x7 := t7 _ _ x6
    have hph : phN st g ≤ 16 := by omega
    -- self.cycle_rows
    refine b_cons (s_fnewV 0 kl (v := .int (cycN st g : Nat)) (dn_mul (dn_fdiv (dv_at 3 kl (dv_var 0) x7) (dv_var 3) (by omega) (Nat.lt_of_le_of_lt (show g.n - g.first ≤ 6 by omega) (Nat.lt_of_lt_of_le (show 6 < 2 ^ 6 by decide) (Nat.pow_le_pow_right (by decide) (by decide))))) (dv_var 4) (wide_nat (a := 10) (b := 10) (by have := Nat.div_le_self (phN st g) (g.n - g.first); omega) (by omega) (by decide) (by decide) (by decide))) x7 (fun H8 t8 => ?_))
    have g8 := (g7.trans t8).mut (o := obj (cA K "Plan") dx n_Plan ([.ref p, .ref pk, .int (g.first : Nat), .int (phN st g : Nat)] ++ [.int (cycN st g : Nat)])) n0
    generalize e8 : upd H8 x (obj (cA K "Plan") dx n_Plan ([.ref p, .ref pk, .int (g.first : Nat), .int (phN st g : Nat)] ++ [.int (cycN st g : Nat)])) = H8' at g8 ⊢
    have x8 : H8' x = some (obj (cA K "Plan") dx n_Plan [.ref p, .ref pk, .int (g.first : Nat), .int (phN st g : Nat), .int (cycN st g : Nat)]) := by rw [← e8]; exact upd_same
    have pp8 : PlPart K H8' x st g 5 := ⟨sok, dx, p, pk, _, x8, hS'.same g8, hK.same g8, rfl, rfl, rfl, rfl, fun z => absurd z (by decide)⟩
    -- self.most_live, self.most_begun
    refine b_cons (s_fnewV 0 kl (v := .int (liveN st g : Nat)) (dn_add (d_met MM hr kl (dv_var 0) x8 (da_cons (dv_at 5 ks (dv_var 1) (g8 _ _ s1')) da_nil) (gives_most pp8 (Nat.lt_of_le_of_lt sok.k100 (by decide)))) (dn_lit 1)) x8 (fun H9 t9 => ?_))
    have g9 := (g8.trans t9).mut (o := obj (cA K "Plan") dx n_Plan ([.ref p, .ref pk, .int (g.first : Nat), .int (phN st g : Nat), .int (cycN st g : Nat)] ++ [.int (liveN st g : Nat)])) n0
    generalize e9 : upd H9 x (obj (cA K "Plan") dx n_Plan ([.ref p, .ref pk, .int (g.first : Nat), .int (phN st g : Nat), .int (cycN st g : Nat)] ++ [.int (liveN st g : Nat)])) = H9' at g9 ⊢
    have x9 : H9' x = some (obj (cA K "Plan") dx n_Plan [.ref p, .ref pk, .int (g.first : Nat), .int (phN st g : Nat), .int (cycN st g : Nat), .int (liveN st g : Nat)]) := by rw [← e9]; exact upd_same
    have pp9 : PlPart K H9' x st g 6 := ⟨sok, dx, p, pk, _, x9, hS'.same g9, hK.same g9, rfl, rfl, rfl, rfl, fun z => absurd z (by decide)⟩
    refine b_cons (s_fnewV 0 kl (v := .int (begN st g : Nat)) (d_met MM hr kl (dv_var 0) x9 (da_cons (dv_at 4 ks (dv_var 1) (g9 _ _ s1')) da_nil) (gives_most pp9 (Nat.lt_of_le_of_lt sok.e40 (by decide)))) x9 (fun HA tA => ?_))
    have gA := (g9.trans tA).mut (o := obj (cA K "Plan") dx n_Plan ([.ref p, .ref pk, .int (g.first : Nat), .int (phN st g : Nat), .int (cycN st g : Nat), .int (liveN st g : Nat)] ++ [.int (begN st g : Nat)])) n0
    generalize eA : upd HA x (obj (cA K "Plan") dx n_Plan ([.ref p, .ref pk, .int (g.first : Nat), .int (phN st g : Nat), .int (cycN st g : Nat), .int (liveN st g : Nat)] ++ [.int (begN st g : Nat)])) = HA' at gA ⊢
    have xA : HA' x = some (obj (cA K "Plan") dx n_Plan [.ref p, .ref pk, .int (g.first : Nat), .int (phN st g : Nat), .int (cycN st g : Nat), .int (liveN st g : Nat), .int (begN st g : Nat)]) := by rw [← eA]; exact upd_same
    -- self.block_level, self.block_width = (0, 1)
    refine b_cons (s_fnew2 0 kl (du_new (d_tup (da_cons dv_int (da_cons dv_int da_nil)) (by simp))) xA (fun HB tB => ?_) rfl)
    have gB := (gA.trans tB).mut (o := obj (cA K "Plan") dx n_Plan ([.ref p, .ref pk, .int (g.first : Nat), .int (phN st g : Nat), .int (cycN st g : Nat), .int (liveN st g : Nat), .int (begN st g : Nat)] ++ [.int 0, .int 1])) n0
    generalize eB : upd HB x (obj (cA K "Plan") dx n_Plan ([.ref p, .ref pk, .int (g.first : Nat), .int (phN st g : Nat), .int (cycN st g : Nat), .int (liveN st g : Nat), .int (begN st g : Nat)] ++ [.int 0, .int 1])) = HB' at gB ⊢
    have xB : HB' x = some (obj (cA K "Plan") dx n_Plan [.ref p, .ref pk, .int (g.first : Nat), .int (phN st g : Nat), .int (cycN st g : Nat), .int (liveN st g : Nat), .int (begN st g : Nat), .int ((0 : Nat) : Int), .int ((st.fanout ^ 0 : Nat) : Int)]) := by rw [← eB]; exact upd_same
    -- while self.block_width < ..
    have hneed := needN_le sok gok
    have hf8 := sok.f8
    refine b_cons (s_while (fun m σ H' => Same G H' ∧ ∃ l : Nat, m = 200 - l ∧ (∀ c, c < l → st.fanout ^ c < needN st g) ∧ σ = [some (.ref x), some (.ref p), some (.int (g.first : Nat)), some (.int ((g.n - g.first : Nat) : Int)), some (.int ((g.S g.n - g.S g.first : Nat) : Int))] ∧
      H' x = some (obj (cA K "Plan") dx n_Plan [.ref p, .ref pk, .int (g.first : Nat), .int (phN st g : Nat), .int (cycN st g : Nat), .int (liveN st g : Nat), .int (begN st g : Nat), .int (l : Nat), .int ((st.fanout ^ l : Nat) : Int)])) 200
      ⟨gB, 0, rfl, fun c hc => by omega, rfl, xB⟩ (fun m σ HC hI => ?_) (passes_of rfl))
    obtain ⟨gC, l, em, hl, eσ, xC⟩ := hI
    subst eσ
    subst em
    refine ⟨decide (st.fanout ^ l < needN st g), tn_lt (dv_at 8 kl (dv_var 0) xC) (dn_add (dn_add (dv_at 5 kl (dv_var 0) xC) (dv_at 6 kl (dv_var 0) xC)) (dn_lit 1)), fun hb HD tD => ?_, fun hb HD tD => ?_⟩
    · have hb := of_decide_eq_true hb
      have hl2 := lt_pow sok.f2 l
      refine b_cons (s_faug 0 7 kl in_add dv_int (tD _ _ xC) rfl (z := .int ((l + 1 : Nat) : Int)) (fun H' Q q => ⟨_, _, rfl, rfl, q⟩) (fun HE tE => ?_))
      have gE := (gC.trans tD).trans tE |>.mut (o := obj (cA K "Plan") dx n_Plan [.ref p, .ref pk, .int (g.first : Nat), .int (phN st g : Nat), .int (cycN st g : Nat), .int (liveN st g : Nat), .int (begN st g : Nat), .int ((l + 1 : Nat) : Int), .int ((st.fanout ^ l : Nat) : Int)]) n0
      refine b_one (s_faug 0 8 kl in_mul (dv_at 2 ks (dv_var 1) (gE _ _ s1')) upd_same rfl (z := .int ((st.fanout ^ (l + 1) : Nat) : Int)) (fun H' Q q => ⟨_, _, rfl, rfl, .inl ⟨by omega, by omega⟩, by rw [← Int.natCast_mul, ← Nat.pow_succ]; exact q⟩) (fun HF tF => ?_))
      refine ⟨200 - (l + 1), by omega, (gE.trans tF).mut n0, l + 1, rfl, fun c hc => ?_, rfl, upd_same⟩
      by_cases z : c = l
      · rw [z]; exact hb
      · exact hl c (by omega)
    · have hb := of_decide_eq_false hb
      have gD := gC.trans tD
      have xD := tD _ _ xC
      have el : levN st g = l := levN_eq sok gok (by omega) hl
      have ew : widN st g = st.fanout ^ l := by unfold widN; rw [el]
      rw [← ew, ← el] at xD
      -- if self.block_width > MOST_WIDTH
      refine b_cons (s_if (tn_gt (dv_at 8 kl (dv_var 0) xD) (dn_gint (z := 128) (T.int "MOST_WIDTH" 128 e_int))) (fun hb2 HE tE => ?_) (fun hb2 HE tE => b_nil ?_))
      · have hb2 := of_decide_eq_true hb2
        exact b_one (s_raise XL hr (takes_of rfl rfl rfl rfl) (dn_gint (z := 128) (T.int "MOST_WIDTH" 128 e_int)) (fun d H8 t8 hd => k128 hph hb2 d H8 (fF.trans ((gD.trans tE).trans t8)) hd) rfl)
      have hb2 := of_decide_eq_false hb2
      have gE := gD.trans tE
      have xE := tE _ _ xD
      refine b_cons (s_fnewV 0 kl (v := .int ((1 : Nat) : Int)) dv_int xE (fun HF tF => ?_))
      have gF := (gE.trans tF).mut (o := obj (cA K "Plan") dx n_Plan [.ref p, .ref pk, .int (g.first : Nat), .int (phN st g : Nat), .int (cycN st g : Nat), .int (liveN st g : Nat), .int (begN st g : Nat), .int (levN st g : Nat), .int (widN st g : Nat), .int ((1 : Nat) : Int)]) n0
      -- while not self.is_full(self.begin_block)
      refine b_one (s_while (fun m σ H' => Same G H' ∧ ∃ b : Nat, m = 300 - b ∧ 1 ≤ b ∧ (∀ c, 1 ≤ c → c < b → fullB st g c = false) ∧ σ = [some (.ref x), some (.ref p), some (.int (g.first : Nat)), some (.int ((g.n - g.first : Nat) : Int)), some (.int ((g.S g.n - g.S g.first : Nat) : Int))] ∧
        H' x = some (obj (cA K "Plan") dx n_Plan [.ref p, .ref pk, .int (g.first : Nat), .int (phN st g : Nat), .int (cycN st g : Nat), .int (liveN st g : Nat), .int (begN st g : Nat), .int (levN st g : Nat), .int (widN st g : Nat), .int (b : Nat)])) 299
        ⟨gF, 1, rfl, Nat.le_refl _, fun c h1 h2 => by omega, rfl, upd_same⟩ (fun m σ HG hI => ?_) (passes_of rfl))
      obtain ⟨gG, b, em, hb1, hbl, eσ, xG⟩ := hI
      subst eσ
      subst em
      have hb200 : b ≤ 200 := by
        apply Nat.le_of_not_lt
        intro z
        have := hbl 200 (by decide) (by omega)
        rw [full_late sok gok (Nat.le_refl _)] at this
        cases this
      have ppG : PlPart K HG x st g 9 := ⟨sok, dx, p, pk, _, xG, hS'.same gG, hK.same gG, rfl, rfl, rfl, rfl, fun _ => ⟨rfl, rfl, rfl⟩⟩
      refine ⟨!fullB st g b, dt_not (dt_val (d_met MF hr kl (dv_var 0) xG (da_cons (dv_at 9 kl (dv_var 0) xG) da_nil) (gives_full ppG (by omega) (by omega)))), fun hb3 HH tH => ?_, fun hb3 HH tH => ?_⟩
      · have hb3 : fullB st g b = false := by simpa using hb3
        refine b_one (s_faug 0 9 kl in_add dv_int (tH _ _ xG) rfl (z := .int ((b + 1 : Nat) : Int)) (fun H' Q q => ⟨_, _, rfl, rfl, q⟩) (fun HI tI => ?_))
        refine ⟨300 - (b + 1), by omega, ((gG.trans tH).trans tI).mut n0, b + 1, rfl, by omega, fun c h1 h2 => ?_, rfl, upd_same⟩
        by_cases z : c = b
        · rw [z]; exact hb3
        · exact hbl c h1 (by omega)
      · have hb3 : fullB st g b = true := by simpa using hb3
        have eb : bbN st g = b := bbN_eq sok gok hb1 hb3 hbl
        refine kok hph (by omega) HH (fF.trans (gG.trans tH)) ?_
        have xH := tH _ _ xG
        rw [← eb] at xH
        exact ⟨sok, gok, gl, gr, dx, p, pk, xH, hS'.same (gG.trans tH), hK.same (gG.trans tH)⟩
end
end KR

namespace KR
open PySem PySem.Spec PyProof.Rows L2 Sx
section
variable {P : Program} {w : World} {K : PySem.W.Frag} {mg : Str → Option Value} {base : Heap}
theorem PlEnd.mono {F : Hp} {st : Sg} {E E' : XK} {Qn Qn' : Pg → Hp → Prop} (h : PlEnd K F st E Qn) (hE : ∀ c d H', E c d H' → E' c d H') (hQ : ∀ g H', Qn g H' → Qn' g H') : PlEnd K F st E' Qn' := fun g h1 h2 h3 =>
  let ⟨a, b, c⟩ := h g h1 h2 h3
  ⟨fun z d H' s e => hE _ _ _ (a z d H' s e), fun z y d H' s e => hE _ _ _ (b z y d H' s e), fun z y H' s => hQ _ _ (c z y H' s)⟩
theorem PlEnd.same {F F' : Hp} {st : Sg} {E : XK} {Qn : Pg → Hp → Prop} (h : PlEnd K F st E Qn) (s : Same F F') : PlEnd K F' st E Qn := fun g h1 h2 h3 =>
  let ⟨a, b, c⟩ := h g h1 h2 h3
  ⟨fun z d H' t e => a z d H' (s.trans t) e, fun z y d H' t e => b z y d H' (s.trans t) e, fun z y H' t => c z y H' (s.trans t)⟩
/-- Plan(settings), in a def that lets its exceptions out -/
theorem w_Plan (T : Hd K mg) {X : Cx} (eq : X.prog = P ∧ X.w = w ∧ X.K = K ∧ X.mg = mg ∧ X.base = base) {Wx : WX} {E : XK} {e : Expr} {σ : L2.St} {H : Hp} {Q : VK} {p : Addr} {st : Sg} {p2 pos : Pos} (hr : Room 6 X.A) (tk : Takes X Wx) (hW : ∀ cls d σ' H', E cls d H' → Wx cls d σ' H') (he : DV X e σ H (.ref p)) (hS : StAt K H p st)
    (k : PlEnd K H st E (fun g H' => ∀ x, PlAt K H' x st g → Q (.ref x) H')) (hg : Gl X "Plan" := by rfl)
    (hst : starEach [e] X.env = (false, eval e X.env) :: starEach [] X.env := by rfl) (hpl : (backTo pos (starEach [] X.env)).any (·.1) = false := by rfl) :
    W X (.Call (.Name "Plan" p2) [e] [] pos) σ H Q := by
  obtain ⟨e1, e2, e3, e4, e5⟩ := eq
  subst e1 e2 e3 e4 e5
  have M := (ok_Plan_init (P := X.prog) (w := X.w) (base := X.base) T).mak T e_mk_Plan (C := "Plan") (D := "Plan")
  refine w_mak M hr tk hW (da_cons he da_nil hst) (fun H1 s1 x dx nx nd ne => ?_) hg (by decide) hst hpl
  have s0 : Same H1 (upd (upd H1 dx (.own x)) x (.ins (cA X.K "Plan") dx [])) := (Same.new nd).trans (Same.new (by rw [upd_ne (Ne.symm ne)]; exact nx))
  exact ⟨x, p, st, H1, rfl, ⟨s0, nx, dx, upd_same⟩, hS.same s1, (k.same s1).mono (fun _ _ _ z => z) fun g H' q hP => ⟨rfl, q x hP⟩⟩
/-- two attributes of the Plan -/
def spAsk (K : PySem.W.Frag) (fa fb : Sg → Pg → Nat) : Sp := fun vs H Q E => ∃ (p : Addr) (st : Sg), vs = [.ref p] ∧ StAt K H p st ∧ PlEnd K H st E (fun g H' => ∀ t, H' t = some (.tup [.int (fa st g : Nat), .int (fb st g : Nat)]) → Q (.ref t) H')
theorem ok_phases (T : Hd K mg) : Has P w K mg base 7 (He.fAd K d_phases.at_) (spAsk K phN cycN) := by
  refine hasX T i_phases sc_phases bd_phases (fun vs H Q E h => ?_) (fun f cdv A outer s H vs Q E hr h => ?_)
  · obtain ⟨p, st, rfl, _⟩ := h
    rfl
  · obtain ⟨p, st, rfl, hS, k⟩ := h
    have kl := T.kl e_kl_Plan
    refine b_cons (s_setW (i := 1) (w_Plan (P := P) (w := w) (base := base) T ⟨rfl, rfl, rfl, rfl, rfl⟩ hr (takes_of rfl rfl rfl rfl) (fun _ _ _ _ z => z) (dv_var 0) hS (fun g a b c => ?_)) sc_phases.nd)
    obtain ⟨k1, k2, k3⟩ := k g a b c
    refine ⟨k1, k2, fun z y H1 s1 x hP => ?_⟩
    obtain ⟨sok, gok, gl, gr, dx, sp, pk, x1, _⟩ := hP
    refine b_one (s_ret (d_tup (da_cons (dv_at 3 kl (dv_var 1) x1) (da_cons (dv_at 4 kl (dv_var 1) x1) da_nil)) (by simp)) (fun v H2 s2 hv => ?_))
    obtain ⟨t, ev, ht⟩ := hv
    subst ev
    exact k3 z y H2 (s1.trans s2) t ht
theorem ok_window (T : Hd K mg) : Has P w K mg base 7 (He.fAd K d_window.at_) (spAsk K liveN begN) := by
  refine hasX T i_window sc_window bd_window (fun vs H Q E h => ?_) (fun f cdv A outer s H vs Q E hr h => ?_)
  · obtain ⟨p, st, rfl, _⟩ := h
    rfl
  · obtain ⟨p, st, rfl, hS, k⟩ := h
    have kl := T.kl e_kl_Plan
    refine b_cons (s_setW (i := 1) (w_Plan (P := P) (w := w) (base := base) T ⟨rfl, rfl, rfl, rfl, rfl⟩ hr (takes_of rfl rfl rfl rfl) (fun _ _ _ _ z => z) (dv_var 0) hS (fun g a b c => ?_)) sc_window.nd)
    obtain ⟨k1, k2, k3⟩ := k g a b c
    refine ⟨k1, k2, fun z y H1 s1 x hP => ?_⟩
    obtain ⟨sok, gok, gl, gr, dx, sp, pk, x1, _⟩ := hP
    refine b_one (s_ret (d_tup (da_cons (dv_at 5 kl (dv_var 1) x1) (da_cons (dv_at 6 kl (dv_var 1) x1) da_nil)) (by simp)) (fun v H2 s2 hv => ?_))
    obtain ⟨t, ev, ht⟩ := hv
    subst ev
    exact k3 z y H2 (s1.trans s2) t ht
theorem ok_blocks (T : Hd K mg) : Has P w K mg base 7 (He.fAd K d_blocks.at_) (spAsk K widN bbN) := by
  refine hasX T i_blocks sc_blocks bd_blocks (fun vs H Q E h => ?_) (fun f cdv A outer s H vs Q E hr h => ?_)
  · obtain ⟨p, st, rfl, _⟩ := h
    rfl
  · obtain ⟨p, st, rfl, hS, k⟩ := h
    have kl := T.kl e_kl_Plan
    refine b_cons (s_setW (i := 1) (w_Plan (P := P) (w := w) (base := base) T ⟨rfl, rfl, rfl, rfl, rfl⟩ hr (takes_of rfl rfl rfl rfl) (fun _ _ _ _ z => z) (dv_var 0) hS (fun g a b c => ?_)) sc_blocks.nd)
    obtain ⟨k1, k2, k3⟩ := k g a b c
    refine ⟨k1, k2, fun z y H1 s1 x hP => ?_⟩
    obtain ⟨sok, gok, gl, gr, dx, sp, pk, x1, _⟩ := hP
    refine b_one (s_ret (d_tup (da_cons (dv_at 8 kl (dv_var 1) x1) (da_cons (dv_at 9 kl (dv_var 1) x1) da_nil)) (by simp)) (fun v H2 s2 hv => ?_))
    obtain ⟨t, ev, ht⟩ := hv
    subst ev
    exact k3 z y H2 (s1.trans s2) t ht
end
end KR

namespace KR
open PySem PySem.Spec PyProof.Rows L2 Sx
section
variable {P : Program} {w : World} {K : PySem.W.Frag} {mg : Str → Option Value} {base : Heap}
/-! ### is_integer, is_between, check_part, of ints -/
def spIsInt : Sp := fun vs H Q _ => ∃ v : Int, vs = [.int v] ∧ ∀ H', Same H H' → Q (.bl true) H'
theorem dv_isiT (T : Hd K mg) {X : Cx} (eq : X.K = K ∧ X.mg = mg) {a : Expr} {σ : L2.St} {H : Hp} {x : V} {A : String} {nb : Str} {b1 : Bool} {p q r : Pos} (B : String) (ha : DV X a σ H x) (ht : ∀ H', Same H H' → TyX X.K H' x (.type A)) (hk : L2.kitB A B = some b1 := by decide +kernel) (hm : mg nb = none) (hg : Gl X "isinstance" := by rfl)
    (hv : bootBuiltins nb = some (.type B) := by decide +kernel) (hg2 : Gl X nb := by rfl) (hn : nb ≠ "__name__" := by decide) (hd : (nb == ("__debug__" : Str)) = false := by decide)
    (h1 : starEach [a, .Name nb p] X.env = (false, eval a X.env) :: starEach [.Name nb p] X.env := by rfl) (h3 : starEach [.Name nb p] X.env = (false, eval (.Name nb p) X.env) :: starEach [] X.env := by rfl) (hpl : (backTo q (starEach [.Name nb p] X.env)).any (·.1) = false := by rfl) :
    DV X (.Call (.Name "isinstance" r) [a, .Name nb p] [] q) σ H (.bl b1) := by
  obtain ⟨e1, e2⟩ := eq
  exact dv_isi ha (dv_bltn (v := .ty B) (u := .type B) (by rw [e2]; exact hm) rfl hv hg2 hn hd) (.ty B) (ht H (Same.refl _)) (kit_ty hk) ht (by rw [e2]; exact T.free "isinstance" e_free) hg h1 h3 hpl
theorem ok_is_integer (T : Hd K mg) : Has P w K mg base 1 (He.fAd K d_is_integer.at_) spIsInt := by
  refine hasW T i_is_integer sc_is_integer bd_is_integer (fun vs H Q E h => ?_) (fun f cdv A outer s H vs Q E hr h => ?_)
  · obtain ⟨v, rfl, _⟩ := h
    rfl
  · obtain ⟨v, rfl, k⟩ := h
    exact b_one (s_retV (v := .bl true) (dv_and (b1 := true) (b2 := true) (dv_isiT T ⟨rfl, rfl⟩ "int" (dv_var 0) (fun _ _ => .base (.int v)) (hm := T.free "int" e_free)) (fun _ => dv_one (dv_not (b1 := false) (dv_isiT T ⟨rfl, rfl⟩ "bool" (dv_var 0) (fun _ _ => .base (.int v)) (hm := T.free "bool" e_free))))) k)
theorem gives_isInt {H : Hp} {v : Int} : Gives spIsInt [.int v] H (fun u _ => u = .bl true) := fun H1 s1 Q E q => ⟨v, rfl, fun H' s' => q _ H' s' rfl⟩
def spBetw : Sp := fun vs H Q _ => ∃ v lo hi : Int, vs = [.int v, .int lo, .int hi] ∧ ∀ H', Same H H' → Q (.bl (decide (lo ≤ v) && decide (v ≤ hi))) H'
theorem ok_is_between (T : Hd K mg) : Has P w K mg base 2 (He.fAd K d_is_between.at_) spBetw := by
  refine hasW T i_is_between sc_is_between bd_is_between (fun vs H Q E h => ?_) (fun f cdv A outer s H vs Q E hr h => ?_)
  · obtain ⟨v, lo, hi, rfl, _⟩ := h
    rfl
  · obtain ⟨v, lo, hi, rfl, k⟩ := h
    have C := (ok_is_integer (P := P) (w := w) (base := base) T).cal T (x := "is_integer")
    exact b_one (s_retV (dv_and (d_cal C hr (da_cons (dv_var 0) da_nil) gives_isInt) (fun _ => dv_one (dv_le2 (dv_var 1) (dv_var 0) (dv_var 2)))) k)
theorem gives_betw {H : Hp} {v lo hi : Int} : Gives spBetw [.int v, .int lo, .int hi] H (fun u _ => u = .bl (decide (lo ≤ v) && decide (v ≤ hi))) := fun H1 s1 Q E q => ⟨v, lo, hi, rfl, fun H' s' => q _ H' s' rfl⟩
def spChkP : Sp := fun vs H Q _ => ∃ (z : Str) (v lo hi : Int), vs = [.str z, .int v, .int lo, .int hi] ∧ lo ≤ v ∧ v ≤ hi ∧ ∀ H', Same H H' → Q .non H'
theorem ok_check_part (T : Hd K mg) : Has P w K mg base 3 (He.fAd K d_check_part.at_) spChkP := by
  refine hasW T i_check_part sc_check_part bd_check_part (fun vs H Q E h => ?_) (fun f cdv A outer s H vs Q E hr h => ?_)
  · obtain ⟨z, v, lo, hi, rfl, _⟩ := h
    rfl
  · obtain ⟨z, v, lo, hi, rfl, h1, h2, k⟩ := h
    have C := (ok_is_between (P := P) (w := w) (base := base) T).cal T (x := "is_between")
    refine b_one (s_if (dt_not (dt_val (d_cal C hr (da_cons (dv_var 1) (da_cons (dv_var 2) (da_cons (dv_var 3) da_nil))) gives_betw))) (fun hb => ?_) (fun hb H1 s1 => b_nil (k H1 s1)))
    rw [decide_eq_true h1, decide_eq_true h2] at hb
    cases hb
theorem gives_chkP {H : Hp} {z : Str} {v lo hi : Int} (h1 : lo ≤ v) (h2 : v ≤ hi) : Gives spChkP [.str z, .int v, .int lo, .int hi] H (fun u _ => u = .non) := fun H1 s1 Q E q => ⟨z, v, lo, hi, rfl, h1, h2, fun H' s' => q _ H' s' rfl⟩
/-! ### Settings.__init__ -/
theorem tyx_seq {H : Hp} {p : Addr} {xs : List V} (h : SqL K H p xs) : TyX K H (.ref p) (.type "list") := by
  rcases h with (h | ⟨o, h⟩) | ⟨o, its, n, h1, h2, _⟩
  · exact .base (.lst h)
  · exact .base (.frz h)
  · exact .kList h1 h2
def spStInit (K : PySem.W.Frag) : Sp := fun vs H Q _ => ∃ (x l : Addr) (st : Sg) (F : Hp), vs = [.ref x, .ref l, .int st.size, .int st.fanout, .int st.records, .int st.every, .int st.keep] ∧ Fresh F H x (cA K "Settings") ∧ st.Ok ∧ SqL K F l (nats st.lens) ∧ ∀ H', Same F H' → StAt K H' x st → Q .non H'
theorem ok_Settings_init (T : Hd K mg) : HasK P w K mg base 4 (He.fAd K d_Settings___init__.at_) 3 K_Settings___init__ (spStInit K) := by
  refine hasXK T i_Settings___init__ sc_Settings___init__ bdk_Settings___init__ (fun vs H Q E h => ?_) (fun f cdv A outer s H vs Q E hr h => ?_)
  · obtain ⟨x, l, st, F, rfl, _⟩ := h
    rfl
  · obtain ⟨x, l, st, F, rfl, ⟨sF, nx, dx, hx0⟩, sok, hl, k⟩ := h
    have hx0 : H x = some (obj (cA K "Settings") dx n_Settings []) := hx0
    have kl := T.kl e_kl_Settings
    have ok := sok.ok
    have CP := (ok_check_part (P := P) (w := w) (base := base) T).cal T (x := "check_part")
    have hne : 0 < st.lens.length := List.length_pos_iff.mpr ok.ne
    have hfew := ok.few
    have hroom := ok.room
    have len : (nats st.lens).length = st.lens.length := nats_len _
    refine b_cons (s_if (dt_w (dw_or (dt_not (dt_val (dv_isiT (b1 := true) T ⟨rfl, rfl⟩ "list" (dv_var 1) (fun H' s' => tyx_seq (s'.seq (sF.seq hl))) (hm := T.free "list" e_free)))) (fun _ => dw_or1 (dt_not (tv_le2 (dv_int (k := 1)) (dv_len (dv_var 1) (.inl (sF.seq hl)) (T.free "len" e_free)) (dv_gint (T.int "MOST_LENGTHS" 6 e_int))))))) (fun hb => ?_) (fun hb H1 t1 => b_nil ?_))
    · exfalso
      rw [len, decide_eq_true (show (1 : Int) ≤ (st.lens.length : Int) by omega), decide_eq_true (show (st.lens.length : Int) ≤ 6 by omega)] at hb
      cases hb
    have f1 := sF.trans t1
    have x1 := t1 _ _ hx0
    -- for length in lengths
    refine b_cons (s_forL (i := 7) (R := fun p H' => p = l) (xs := nats st.lens) (fun p t σ H' => p = l ∧ Same H1 H' ∧ ∃ r : Option V, σ = [some (.ref x), some (.ref l), some (.int st.size), some (.int st.fanout), some (.int st.records), some (.int st.every), some (.int st.keep), r])
      ((dv_var 1).imp fun v H' s' e => ⟨l, e, rfl⟩) (fun H' p s' e => ⟨e, s', none, rfl⟩) (fun p t σ'' H'' ht ⟨e, s'', _⟩ => by rw [e]; exact s''.seq (f1.seq hl)) (fun p t v σ H' hv ⟨e, s', r, eσ⟩ => ?_) (fun p σ H2 ⟨e, t2, r, eσ⟩ => ?_) sc_Settings___init__.nd rfl (hp := passes_of rfl))
    · subst eσ
      obtain ⟨z, hz, ez⟩ : ∃ z, z ∈ st.lens ∧ v = .int (z : Int) := by
        unfold nats at hv
        rw [List.getElem?_map, Option.map_eq_some_iff] at hv
        obtain ⟨z, h1, h2⟩ := hv
        exact ⟨z, List.mem_of_getElem? h1, h2.symm⟩
      subst ez
      have h1 := ok.pos z hz
      have h2 := ok.fit z hz
      exact b_one (s_expr (d_cal CP hr (da_cons dv_str (da_cons (dv_var 7) (da_cons dv_int (da_cons (dv_gint (T.int "MOST_SIZE" 64 e_int)) da_nil)))) (gives_chkP (by omega) (by omega))) (fun v H2 t2 _ => ⟨e, s'.trans t2, _, rfl⟩))
    · subst eσ
      have f2 := f1.trans t2
      have hm1 := Geo.maxL_mem ok.ne
      have hfit := ok.fit _ hm1
      refine b_cons (s_expr (d_cal CP hr (da_cons dv_str (da_cons (dv_var 2) (da_cons (dv_maxl (ns := st.lens.map fun n : Nat => (n : Int)) (g := (Geo.maxL st.lens : Nat)) (dl_of (dv_var 1) (by rw [List.map_map]; exact f2.seq hl)) (List.mem_map_of_mem hm1) (fun y hy => by
        obtain ⟨z, hz, ez⟩ := List.mem_map.mp hy
        have := Geo.maxL_ge hz
        omega) rfl (T.free "max" e_free)) (da_cons (dv_gint (T.int "MOST_SIZE" 64 e_int)) da_nil)))) (gives_chkP (by omega) (by omega))) (fun v H3 t3 _ => ?_))
      have e1 := sok.f2
      have e2 := sok.f8
      have e3 := sok.r1
      have e4 := sok.r16
      have e5 := sok.e1
      have e6 := sok.e40
      have e7 := sok.k1
      have e8 := sok.k100
      refine b_cons (s_expr (d_cal CP hr (da_cons dv_str (da_cons (dv_var 3) (da_cons dv_int (da_cons (dv_gint (T.int "MOST_FANOUT" 8 e_int)) da_nil)))) (gives_chkP (by omega) (by omega))) (fun v H4 t4 _ => ?_))
      refine b_cons (s_expr (d_cal CP hr (da_cons dv_str (da_cons (dv_var 4) (da_cons dv_int (da_cons (dv_gint (T.int "MOST_RECORDS" 16 e_int)) da_nil)))) (gives_chkP (by omega) (by omega))) (fun v H5 t5 _ => ?_))
      refine b_cons (s_expr (d_cal CP hr (da_cons dv_str (da_cons (dv_var 5) (da_cons dv_int (da_cons (dv_gint (T.int "MOST_EVERY" 40 e_int)) da_nil)))) (gives_chkP (by omega) (by omega))) (fun v H6 t6 _ => ?_))
      refine b_cons (s_expr (d_cal CP hr (da_cons dv_str (da_cons (dv_var 6) (da_cons dv_int (da_cons (dv_gint (T.int "MOST_KEEP" 100 e_int)) da_nil)))) (gives_chkP (by omega) (by omega))) (fun v H7 t7 _ => ?_))
      have f7 := ((((f2.trans t3).trans t4).trans t5).trans t6).trans t7
      have x7 := t7 _ _ (t6 _ _ (t5 _ _ (t4 _ _ (t3 _ _ (t2 _ _ x1)))))
      -- self.lengths = tuple(lengths) ..
      refine b_cons (s_fnew 0 kl (d_tupleOf (dl_of (dv_var 1) (f7.seq hl)) (T.free "tuple" e_free)) x7 (fun v H8 t8 hv => ?_))
      obtain ⟨tl, ev, htl⟩ := hv
      subst ev
      have nxt : tl ≠ x := fun z => by
        have q := t8 _ _ x7
        rw [← z, htl] at q
        cases q
      have g8 := (f7.trans t8).mut (o := obj (cA K "Settings") dx n_Settings ([] ++ [.ref tl])) nx
      have l8 : (upd H8 x (obj (cA K "Settings") dx n_Settings ([] ++ [.ref tl]))) tl = some (.tup (nats st.lens)) := by rw [upd_ne nxt]; exact htl
      generalize e8 : upd H8 x (obj (cA K "Settings") dx n_Settings ([] ++ [.ref tl])) = G8 at g8 l8 ⊢
      have y8 : G8 x = some (obj (cA K "Settings") dx n_Settings [.ref tl]) := by rw [← e8]; exact upd_same
      refine b_cons (s_fnewV 0 kl (dv_var 2) y8 (fun H9 t9 => ?_))
      have g9 := (g8.trans t9).mut (o := obj (cA K "Settings") dx n_Settings ([.ref tl] ++ [.int st.size])) nx
      have l9 : (upd H9 x (obj (cA K "Settings") dx n_Settings ([.ref tl] ++ [.int st.size]))) tl = some (.tup (nats st.lens)) := by rw [upd_ne nxt]; exact t9 _ _ l8
      generalize e9 : upd H9 x (obj (cA K "Settings") dx n_Settings ([.ref tl] ++ [.int st.size])) = G9 at g9 l9 ⊢
      have y9 : G9 x = some (obj (cA K "Settings") dx n_Settings [.ref tl, .int st.size]) := by rw [← e9]; exact upd_same
      refine b_cons (s_fnewV 0 kl (dv_var 3) y9 (fun HA tA => ?_))
      have gA := (g9.trans tA).mut (o := obj (cA K "Settings") dx n_Settings ([.ref tl, .int st.size] ++ [.int st.fanout])) nx
      have lA : (upd HA x (obj (cA K "Settings") dx n_Settings ([.ref tl, .int st.size] ++ [.int st.fanout]))) tl = some (.tup (nats st.lens)) := by rw [upd_ne nxt]; exact tA _ _ l9
      generalize eA : upd HA x (obj (cA K "Settings") dx n_Settings ([.ref tl, .int st.size] ++ [.int st.fanout])) = GA at gA lA ⊢
      have yA : GA x = some (obj (cA K "Settings") dx n_Settings [.ref tl, .int st.size, .int st.fanout]) := by rw [← eA]; exact upd_same
      refine b_cons (s_fnewV 0 kl (dv_var 4) yA (fun HB tB => ?_))
      have gB := (gA.trans tB).mut (o := obj (cA K "Settings") dx n_Settings ([.ref tl, .int st.size, .int st.fanout] ++ [.int st.records])) nx
      have lB : (upd HB x (obj (cA K "Settings") dx n_Settings ([.ref tl, .int st.size, .int st.fanout] ++ [.int st.records]))) tl = some (.tup (nats st.lens)) := by rw [upd_ne nxt]; exact tB _ _ lA
      generalize eB : upd HB x (obj (cA K "Settings") dx n_Settings ([.ref tl, .int st.size, .int st.fanout] ++ [.int st.records])) = GB at gB lB ⊢
      have yB : GB x = some (obj (cA K "Settings") dx n_Settings [.ref tl, .int st.size, .int st.fanout, .int st.records]) := by rw [← eB]; exact upd_same
      refine b_cons (s_fnewV 0 kl (dv_var 5) yB (fun HC tC => ?_))
      have gC := (gB.trans tC).mut (o := obj (cA K "Settings") dx n_Settings ([.ref tl, .int st.size, .int st.fanout, .int st.records] ++ [.int st.every])) nx
      have lC : (upd HC x (obj (cA K "Settings") dx n_Settings ([.ref tl, .int st.size, .int st.fanout, .int st.records] ++ [.int st.every]))) tl = some (.tup (nats st.lens)) := by rw [upd_ne nxt]; exact tC _ _ lB
      generalize eC : upd HC x (obj (cA K "Settings") dx n_Settings ([.ref tl, .int st.size, .int st.fanout, .int st.records] ++ [.int st.every])) = GC at gC lC ⊢
      have yC : GC x = some (obj (cA K "Settings") dx n_Settings [.ref tl, .int st.size, .int st.fanout, .int st.records, .int st.every]) := by rw [← eC]; exact upd_same
      refine b_one (s_fnewV 0 kl (dv_var 6) yC (fun HD tD => ?_))
      exact k _ ((gC.trans tD).mut nx) ⟨sok, dx, tl, upd_same, SqT.of (by rw [upd_ne nxt]; exact tD _ _ lC)⟩
theorem mak_Settings (T : Hd K mg) : MakK P w K mg base 4 "Settings" (cA K "Settings") 2 K_Settings___init__ (spStInit K) := (ok_Settings_init T).mak T e_mk_Settings (C := "Settings") (D := "Settings")
end
end KR

namespace KR
open PySem PySem.Spec PyProof.Rows L2 Sx
theorem small9 {r : Nat} (h : r < 2 ^ 60) : r < 2 ^ 9000 := Nat.lt_of_lt_of_le h (Nat.pow_le_pow_right (by decide) (by decide))
theorem nats_snoc (l : List Nat) (n : Nat) : nats l ++ [V.int (n : Int)] = nats (l ++ [n]) := by simp [nats]
section
variable {P : Program} {w : World} {K : PySem.W.Frag} {mg : Str → Option Value} {base : Heap}
/-! ### _law_digits -/
def spDigits : Sp := fun vs H Q _ => ∃ c : Int, vs = [.int c, .int ((40 : Nat) : Int)] ∧ ∀ H' l ds, Same H H' → H l = none → H' l = some (.lst (nats ds)) → ds.length = 40 → Q (.ref l) H'
theorem ok_digits (T : Hd K mg) : Has P w K mg base 1 (He.fAd K d__law_digits.at_) spDigits := by
  refine hasW T i__law_digits sc__law_digits bd__law_digits (fun vs H Q E h => ?_) (fun f cdv A outer s H vs Q E hr h => ?_)
  · obtain ⟨c, rfl, _⟩ := h
    rfl
  · obtain ⟨c, rfl, k⟩ := h
    have mint := T.free "int" e_free
    refine b_cons (s_set (i := 2) (d_lst da_nil (by simp)) (fun v H1 s1 hv => ?_) sc__law_digits.nd)
    obtain ⟨l, ev, nl, hl⟩ := hv
    subst ev
    refine b_cons (s_setV (i := 3) (dn_lit 0) (fun H2 s2 => ?_) sc__law_digits.nd)
    have s02 := s1.trans s2
    have key : ∀ (r : Nat) (H' : Hp), Same H H' → H' l = some (.lst []) → WB (cxOf CX0 P w K mg base N__law_digits d__law_digits.qual d__law_digits.scope f cdv A outer s H E).nox (d__law_digits.body.drop 3) { nx := fun _ H' => Q .non H', rt := Q } [some (.int c), some (.int ((40 : Nat) : Int)), some (.ref l), some (.int (r : Int)), none, none] H' := by
      intro r H3 s3 hl3
      obtain ⟨num, hnum, hlt⟩ : ∃ num : Nat, c % 2147483647 = (num : Int) ∧ num < 2147483647 := ⟨(c % 2147483647).toNat, by have := Int.emod_nonneg c (show (2147483647 : Int) ≠ 0 by decide); omega, by have := Int.emod_lt_of_pos c (show (0 : Int) < 2147483647 by decide); omega⟩
      refine b_cons (s_setV (i := 4) (v := .int (num : Int)) (dv_eq (dv_mod (dv_int1 (dv_var 0) mint) dv_int (by decide)) (by rw [hnum])) (fun H4 s4 => ?_) sc__law_digits.nd)
      have s04 := s3.trans s4
      refine b_cons (s_forR1 (i := 5) (v := 40) (fun t σ H' => Same H H' ∧ ∃ (ds : List Nat) (r num : Nat) (kv : Option V), ds.length = t ∧ num < 2147483647 ∧ H' l = some (.lst (nats ds)) ∧ σ = [some (.int c), some (.int ((40 : Nat) : Int)), some (.ref l), some (.int (r : Int)), some (.int (num : Int)), kv])
        (dv_var 1) (by decide) (fun H' s' => ⟨s04.trans s', [], r, num, none, rfl, hlt, s' _ _ (s4 _ _ hl3), rfl⟩) (fun t σ H5 ht hI => ?_) (fun σ H5 hI => ?_) sc__law_digits.nd rfl (T.free "range" e_free))
      · obtain ⟨s5, ds, r, num, kv, hds, hn, hl5, eσ⟩ := hI
        subst eσ
        refine b_cons (s_setV (i := 4) (dn_mod (dv_int1 (dn_add (dn_add (dn_mul (dv_var 4) (dn_lit 48271) (wide_nat (a := 40) (b := 40) (by omega) (by decide) (by decide) (by decide) (by decide))) (dn_mul (dn_lit 30103) (dv_var 5) (wide_nat (a := 40) (b := 40) (by decide) (by omega) (by decide) (by decide) (by decide)))) (dn_lit 11)) mint) (dn_lit 2147483647) (by decide)) (fun H6 s6 => ?_) sc__law_digits.nd)
        have hm1 : (num * 48271 + 30103 * t + 11) % 2147483647 < 2147483647 := Nat.mod_lt _ (by decide)
        generalize (num * 48271 + 30103 * t + 11) % 2147483647 = n1 at hm1
        have hm2 : n1 / 1009 + 69621 < 2 ^ 40 := by have := Nat.div_le_self n1 1009; omega
        refine b_cons (s_setV (i := 4) (dn_mod (dv_int1 (dn_mul (dv_var 4) (dn_add (dn_fdiv (dv_var 4) (dn_lit 1009) (by decide) (small9 (by decide))) (dn_lit 69621)) (wide_nat (a := 40) (b := 40) (by omega) hm2 (by decide) (by decide) (by decide))) mint) (dn_lit 2147483629) (by decide)) (fun H7 s7 => ?_) sc__law_digits.nd)
        have hm3 : n1 * (n1 / 1009 + 69621) % 2147483629 < 2147483629 := Nat.mod_lt _ (by decide)
        generalize n1 * (n1 / 1009 + 69621) % 2147483629 = n2 at hm3
        have s07 := (s5.trans s6).trans s7
        have l7 := s7 _ _ (s6 _ _ hl5)
        have hz : (nats ds).length ≤ 1000000 := by rw [nats_len]; omega
        refine b_one (s_if (tn_gt (dv_var 3) (dn_lit 0)) (fun hb H8 s8 => ?_) (fun hb H8 s8 => ?_))
        · refine b_cons (s_append (dv_var 2) (s8 _ _ l7) (dn_mod (dv_int1 (dv_var 3) mint) (dn_lit 1009) (by decide)) (fun v H9 s9 ev => ?_) hz)
          have ev : v = _ := ev
          subst ev
          refine b_one (s_setV (i := 3) (dn_fdiv (dv_var 3) (dn_lit 1009) (by decide) (small9 (by decide))) (fun HA sA => ?_) sc__law_digits.nd)
          refine ⟨(((s07.trans s8).trans s9).mut nl).trans sA, ds ++ [r % 1009], r / 1009, n2, _, by simp [hds], by omega, sA _ _ ?_, rfl⟩
          rw [upd_same, nats_snoc]
        · refine b_one (s_append (dv_var 2) (s8 _ _ l7) (dn_mod (dv_int1 (dn_fdiv (dv_var 4) (dn_lit 7) (by decide) (small9 (by decide))) mint) (dn_lit 1009) (by decide)) (fun v H9 s9 ev => ?_) hz)
          have ev : v = _ := ev
          subst ev
          refine ⟨((s07.trans s8).trans s9).mut nl, ds ++ [n2 / 7 % 1009], r, n2, _, by simp [hds], by omega, ?_, rfl⟩
          rw [upd_same, nats_snoc]
      · obtain ⟨s5, ds, r, num, kv, hds, hn, hl5, eσ⟩ := hI
        subst eσ
        exact b_one (s_retV (dv_var 2) (fun H6 s6 => k H6 l ds (s5.trans s6) nl (s6 _ _ hl5) hds))
    refine b_cons (s_if (tv_ge (dv_var 0) (dv_pow dv_int dv_int ⟨by decide, by decide, by decide⟩)) (fun hb H3 s3 => ?_) (fun hb H3 s3 => b_nil ?_))
    · have hb := of_decide_eq_true hb
      obtain ⟨r, hr2⟩ : ∃ r : Nat, c = (r : Int) := ⟨c.toNat, by
        have h0 : (0 : Int) ≤ 10 ^ 18 := by decide
        have hb : (10 : Int) ^ 18 ≤ c := hb
        omega⟩
      refine b_one (s_setV (i := 3) (dv_var 0) (fun H4 s4 => ?_) sc__law_digits.nd)
      have q := key r H4 ((s02.trans s3).trans s4) (s4 _ _ (s3 _ _ (s2 _ _ hl)))
      rw [← hr2] at q
      exact q
    · exact key 0 H3 (s02.trans s3) (s3 _ _ (s2 _ _ hl))
theorem gives_digits {H : Hp} {c : Int} : Gives spDigits [.int c, .int ((40 : Nat) : Int)] H (fun v H' => ∃ l ds, v = .ref l ∧ H l = none ∧ H' l = some (.lst (nats ds)) ∧ ds.length = 40) := fun H1 s1 Q E q => ⟨c, rfl, fun H' l ds s' nl hl hd => q _ H' s' ⟨l, ds, rfl, s1.free nl, hl, hd⟩⟩
/-! ### _law_parts -/
abbrev ptD (ll : Addr) (st : Sg) : List (Key × V) := [(.inr "lengths", .ref ll), (.inr "size", .int (st.size : Int)), (.inr "fanout", .int (st.fanout : Int)), (.inr "records", .int (st.records : Int)), (.inr "every", .int (st.every : Int)), (.inr "keep", .int (st.keep : Int))]
/-- the parts of settings, as the law has them -/
structure PtAt (K : PySem.W.Frag) (H : Hp) (d : Addr) (st : Sg) : Prop where
  ok : st.Ok
  at_ : ∃ ll, H d = some (.dK (ptD ll st)) ∧ H ll = some (.lst (nats st.lens))
theorem PtAt.same {H H' : Hp} {d : Addr} {st : Sg} (h : PtAt K H d st) (s : Same H H') : PtAt K H' d st := let ⟨ok, ll, h1, h2⟩ := h; ⟨ok, ll, s _ _ h1, s _ _ h2⟩
def spParts (K : PySem.W.Frag) : Sp := fun vs H Q _ => ∃ (l : Addr) (ds : List Nat), vs = [.ref l] ∧ H l = some (.lst (nats ds)) ∧ ds.length = 40 ∧ ∀ H' d st, Same H H' → H d = none → PtAt K H' d st → Q (.ref d) H'
theorem atI_nd {ds : List Nat} {i : Nat} {z : Int} (h : i < ds.length) (hz : z = (i : Int) := by rfl) : atI (nats ds) z = some (.int (ds.getD i 0 : Nat)) := by rw [hz]; exact atI_nats h
/-- a + digits[i] % [x, y][digits[j] % 2] -/
theorem dv_pick {X : Cx} {σ : L2.St} {H : Hp} {e g : Expr} {p : Pos} {x y n m : Nat} (he : DV X e σ H (.int (n : Int))) (hg : DV X g σ H (.int (m : Int))) (hm : m = 0 ∨ m = 1) (hx : 0 < x) (hy : 0 < y) {j1 j2 : Nat} {px py pq pr : Pos}
    (h1 : starEach [.Constant (.int (x : Int)) j1 px, .Constant (.int (y : Int)) j2 py] X.env = (false, eval (.Constant (.int (x : Int)) j1 px) X.env) :: starEach [.Constant (.int (y : Int)) j2 py] X.env := by rfl)
    (h2 : starEach [.Constant (.int (y : Int)) j2 py] X.env = (false, eval (.Constant (.int (y : Int)) j2 py) X.env) :: starEach [] X.env := by rfl) (hpx : PlainIx g := by exact fun _ _ => rfl) :
    ∃ z : Nat, z < max x y ∧ DV X (.BinOp e .Mod (.Subscript (.List [.Constant (.int (x : Int)) j1 px, .Constant (.int (y : Int)) j2 py] pq) g pr) p) σ H (.int (z : Int)) := by
  have hl : DL X (.List [.Constant (.int (x : Int)) j1 px, .Constant (.int (y : Int)) j2 py] pq) σ H [.int (x : Int), .int (y : Int)] := dl_new (d_lst (da_cons dv_int (da_cons dv_int da_nil h2) h1) (by simp))
  rcases hm with rfl | rfl
  · exact ⟨n % x, Nat.lt_of_lt_of_le (Nat.mod_lt _ hx) (Nat.le_max_left _ _), dn_mod he (dv_ixl hl hg rfl hpx) hx⟩
  · exact ⟨n % y, Nat.lt_of_lt_of_le (Nat.mod_lt _ hy) (Nat.le_max_right _ _), dn_mod he (dv_ixl hl hg rfl hpx) hy⟩
theorem ok_parts (T : Hd K mg) : Has P w K mg base 1 (He.fAd K d__law_parts.at_) (spParts K) := by
  refine hasW T i__law_parts sc__law_parts bd__law_parts (fun vs H Q E h => ?_) (fun f cdv A outer s H vs Q E hr h => ?_)
  · obtain ⟨l, ds, rfl, _⟩ := h
    rfl
  · obtain ⟨l, ds, rfl, hl, hd, k⟩ := h
    have mint := T.free "int" e_free
    have hu := hu_of hr
    refine b_cons (s_setV (i := 1) (dn_add (dn_lit 1) (dn_mod (dv_int1 (dv_ixL (dv_var 0) (dn_lit 0) (SqL.of hl) (atI_nd (i := 0) (by omega))) mint) (dn_lit 6) (by decide))) (fun H1 s1 => ?_) sc__law_parts.nd)
    have hs6 : ds.getD 0 0 % 6 < 6 := Nat.mod_lt _ (by decide)
    generalize hsz : 1 + ds.getD 0 0 % 6 = sz
    have hsz1 : 1 ≤ sz := by omega
    have hsz6 : sz ≤ 6 := by omega
    have hl1 := s1 _ _ hl
    -- the lengths
    have hmany : ds.getD 4 0 % 3 < 3 := Nat.mod_lt _ (by decide)
    refine b_cons (s_setLcR1 (i := 3) (j := 2) (u := 1 + ds.getD 4 0 % 3) (fun t => V.int ((1 + ds.getD (1 + t) 0 % sz : Nat) : Int)) (dn_add (dn_lit 1) (dn_mod (dv_int1 (dv_ixL (dv_var 0) (dn_lit 4) (SqL.of hl1) (atI_nd (i := 4) (by omega))) mint) (dn_lit 3) (by decide))) (by omega)
      (fun s' Hb C cl fp t H' ht s2 => dn_add (dn_lit 1) (dn_mod (dv_int1 (dv_ixL (dv_var 0) (dn_add (dn_lit 1) (dv_var 3)) (SqL.of (s2 _ _ hl1)) (atI_nd (i := 1 + t) (by omega))) mint) (dv_var 1) (by omega))) (fun ll H2 s2 nll hll => ?_) rfl sc__law_parts.nd (T.free "range" e_free) (ok := blkOk_by (N := N__law_parts) (sc := defScope s__law_parts) (by decide +kernel)))
    have eL : (List.range (1 + ds.getD 4 0 % 3)).map (fun t => V.int ((1 + ds.getD (1 + t) 0 % sz : Nat) : Int)) = nats ((List.range (1 + ds.getD 4 0 % 3)).map fun t => 1 + ds.getD (1 + t) 0 % sz) := by
      unfold nats
      rw [List.map_map]
      rfl
    rw [eL] at hll
    have gok : Geo.Ok ((List.range (1 + ds.getD 4 0 % 3)).map fun t => 1 + ds.getD (1 + t) 0 % sz) sz := by
      refine ⟨?_, ?_, fun x hx => ?_, fun x hx => ?_, by omega⟩
      · intro z
        have := congrArg List.length z
        rw [List.length_map, List.length_range, List.length_nil] at this
        omega
      · rw [List.length_map, List.length_range]; omega
      · obtain ⟨t, _, e⟩ := List.mem_map.mp hx
        omega
      · obtain ⟨t, _, e⟩ := List.mem_map.mp hx
        have := Nat.mod_lt (ds.getD (1 + t) 0) (show 0 < sz by omega)
        omega
    generalize (List.range (1 + ds.getD 4 0 % 3)).map (fun t => 1 + ds.getD (1 + t) 0 % sz) = L at hll gok
    have hl2 := s2 _ _ hl1
    -- parts
    refine b_cons (s_set (i := 4) (d_disp2 (k1 := .inr "lengths") (k2 := .inr "size") (x1 := .ref ll) (x2 := .int (sz : Int)) dv_str (dv_var 2) dv_str (dv_var 1) (by decide)) (fun v H3 s3 hv => ?_) sc__law_parts.nd)
    obtain ⟨d, ev, nd, hd3⟩ := hv
    subst ev
    have s03 := (s1.trans s2).trans s3
    have nd0 : H d = none := (s1.trans s2).free nd
    have nld : ll ≠ d := ne_of_none hll nd
    have two : ∀ i, ds.getD i 0 % 2 = 0 ∨ ds.getD i 0 % 2 = 1 := fun i => by have := Nat.mod_lt (ds.getD i 0) (show 0 < 2 by decide); omega
    have dig : ∀ {X : Cx} {σ : L2.St} {H' : Hp} {e : Expr} {p p' q q' : Pos} {j : Nat} (i : Nat), X.K = K → X.mg = mg → DV X e σ H' (.ref l) → SqL K H' l (nats ds) → i < 40 → (hg : Gl X "int") → (he : starEach [.Subscript e (.Constant (.int (i : Int)) j q) p] X.env = (false, eval (.Subscript e (.Constant (.int (i : Int)) j q) p) X.env) :: starEach [] X.env) →
        (hpl : (backTo p' (starEach [] X.env)).any (·.1) = false) → DV X (.Call (.Name "int" q') [.Subscript e (.Constant (.int (i : Int)) j q) p] [] p') σ H' (.int (ds.getD i 0 : Nat)) := fun {X σ H' e p p' q q' j} i hK hM he hs hi hg hst hpl =>
      dv_int1 (dv_ixL he dv_int (by rw [hK]; exact hs) (atI_nd (i := i) (by omega))) (by rw [hM]; exact mint) hg hst hpl
    have nlld : l ≠ d := ne_of_none hl nd0
    have q3 := SqL.of (K := K) (s3 _ _ hl2)
    obtain ⟨z1, hz1, dz1⟩ := dv_pick (X := (cxOf CX0 P w K mg base N__law_parts d__law_parts.qual d__law_parts.scope f cdv A outer s H E).nox) (σ := [some (.ref l), some (.int (sz : Int)), some (.ref ll), none, some (.ref d)]) (H := H3) (x := 3) (y := 7) (dig 5 rfl rfl (dv_var 0) q3 (by decide) rfl rfl rfl) (dn_mod (dig 30 rfl rfl (dv_var 0) q3 (by decide) rfl rfl rfl) (dn_lit 2) (by decide)) (two 30) (by decide) (by decide)
    refine b_cons (s_dputK (kk := .inr "fanout") (dn_add (dn_lit 2) dz1) (dv_var 4) dv_str hd3 (by simp) (fun H4 s4 => ?_) hu)
    have e4 : putK ([(.inr "lengths", .ref ll), (.inr "size", .int (sz : Int))] : List (Key × V)) (.inr "fanout") (.int ((2 + z1 : Nat) : Int)) = [(.inr "lengths", .ref ll), (.inr "size", .int (sz : Int)), (.inr "fanout", .int ((2 + z1 : Nat) : Int))] := rfl
    rw [e4]
    have t4 := (s03.trans s4).mut (o := .dK [(.inr "lengths", .ref ll), (.inr "size", .int (sz : Int)), (.inr "fanout", .int ((2 + z1 : Nat) : Int))]) nd0
    have d4 : (upd H4 d (.dK [(.inr "lengths", .ref ll), (.inr "size", .int (sz : Int)), (.inr "fanout", .int ((2 + z1 : Nat) : Int))])) d = some (.dK [(.inr "lengths", .ref ll), (.inr "size", .int (sz : Int)), (.inr "fanout", .int ((2 + z1 : Nat) : Int))]) := upd_same
    have l4 : (upd H4 d (.dK [(.inr "lengths", .ref ll), (.inr "size", .int (sz : Int)), (.inr "fanout", .int ((2 + z1 : Nat) : Int))])) l = some (.lst (nats ds)) := by rw [upd_ne nlld]; exact s4 _ _ (s3 _ _ hl2)
    have m4 : (upd H4 d (.dK [(.inr "lengths", .ref ll), (.inr "size", .int (sz : Int)), (.inr "fanout", .int ((2 + z1 : Nat) : Int))])) ll = some (.lst (nats L)) := by rw [upd_ne nld]; exact s4 _ _ (s3 _ _ hll)
    generalize upd H4 d (.dK [(.inr "lengths", .ref ll), (.inr "size", .int (sz : Int)), (.inr "fanout", .int ((2 + z1 : Nat) : Int))]) = G4 at t4 d4 l4 m4 ⊢
    have q4 := SqL.of (K := K) l4
    obtain ⟨z2, hz2, dz2⟩ := dv_pick (X := (cxOf CX0 P w K mg base N__law_parts d__law_parts.qual d__law_parts.scope f cdv A outer s H E).nox) (σ := [some (.ref l), some (.int (sz : Int)), some (.ref ll), none, some (.ref d)]) (H := G4) (x := 4) (y := 16) (dig 6 rfl rfl (dv_var 0) q4 (by decide) rfl rfl rfl) (dn_mod (dig 31 rfl rfl (dv_var 0) q4 (by decide) rfl rfl rfl) (dn_lit 2) (by decide)) (two 31) (by decide) (by decide)
    refine b_cons (s_dputK (kk := .inr "records") (dn_add (dn_lit 1) dz2) (dv_var 4) dv_str d4 (by simp) (fun H5 s5 => ?_) hu)
    have e5 : putK ([(.inr "lengths", .ref ll), (.inr "size", .int (sz : Int)), (.inr "fanout", .int ((2 + z1 : Nat) : Int))] : List (Key × V)) (.inr "records") (.int ((1 + z2 : Nat) : Int)) = [(.inr "lengths", .ref ll), (.inr "size", .int (sz : Int)), (.inr "fanout", .int ((2 + z1 : Nat) : Int)), (.inr "records", .int ((1 + z2 : Nat) : Int))] := rfl
    rw [e5]
    have t5 := (t4.trans s5).mut (o := .dK [(.inr "lengths", .ref ll), (.inr "size", .int (sz : Int)), (.inr "fanout", .int ((2 + z1 : Nat) : Int)), (.inr "records", .int ((1 + z2 : Nat) : Int))]) nd0
    have d5 : (upd H5 d (.dK [(.inr "lengths", .ref ll), (.inr "size", .int (sz : Int)), (.inr "fanout", .int ((2 + z1 : Nat) : Int)), (.inr "records", .int ((1 + z2 : Nat) : Int))])) d = some (.dK [(.inr "lengths", .ref ll), (.inr "size", .int (sz : Int)), (.inr "fanout", .int ((2 + z1 : Nat) : Int)), (.inr "records", .int ((1 + z2 : Nat) : Int))]) := upd_same
    have l5 : (upd H5 d (.dK [(.inr "lengths", .ref ll), (.inr "size", .int (sz : Int)), (.inr "fanout", .int ((2 + z1 : Nat) : Int)), (.inr "records", .int ((1 + z2 : Nat) : Int))])) l = some (.lst (nats ds)) := by rw [upd_ne nlld]; exact s5 _ _ l4
    have m5 : (upd H5 d (.dK [(.inr "lengths", .ref ll), (.inr "size", .int (sz : Int)), (.inr "fanout", .int ((2 + z1 : Nat) : Int)), (.inr "records", .int ((1 + z2 : Nat) : Int))])) ll = some (.lst (nats L)) := by rw [upd_ne nld]; exact s5 _ _ m4
    generalize upd H5 d (.dK [(.inr "lengths", .ref ll), (.inr "size", .int (sz : Int)), (.inr "fanout", .int ((2 + z1 : Nat) : Int)), (.inr "records", .int ((1 + z2 : Nat) : Int))]) = G5 at t5 d5 l5 m5 ⊢
    have q5 := SqL.of (K := K) l5
    obtain ⟨z3, hz3, dz3⟩ := dv_pick (X := (cxOf CX0 P w K mg base N__law_parts d__law_parts.qual d__law_parts.scope f cdv A outer s H E).nox) (σ := [some (.ref l), some (.int (sz : Int)), some (.ref ll), none, some (.ref d)]) (H := G5) (x := 10) (y := 40) (dig 7 rfl rfl (dv_var 0) q5 (by decide) rfl rfl rfl) (dn_mod (dig 32 rfl rfl (dv_var 0) q5 (by decide) rfl rfl rfl) (dn_lit 2) (by decide)) (two 32) (by decide) (by decide)
    refine b_cons (s_dputK (kk := .inr "every") (dn_add (dn_lit 1) dz3) (dv_var 4) dv_str d5 (by simp) (fun H6 s6 => ?_) hu)
    have e6 : putK ([(.inr "lengths", .ref ll), (.inr "size", .int (sz : Int)), (.inr "fanout", .int ((2 + z1 : Nat) : Int)), (.inr "records", .int ((1 + z2 : Nat) : Int))] : List (Key × V)) (.inr "every") (.int ((1 + z3 : Nat) : Int)) = [(.inr "lengths", .ref ll), (.inr "size", .int (sz : Int)), (.inr "fanout", .int ((2 + z1 : Nat) : Int)), (.inr "records", .int ((1 + z2 : Nat) : Int)), (.inr "every", .int ((1 + z3 : Nat) : Int))] := rfl
    rw [e6]
    have t6 := (t5.trans s6).mut (o := .dK [(.inr "lengths", .ref ll), (.inr "size", .int (sz : Int)), (.inr "fanout", .int ((2 + z1 : Nat) : Int)), (.inr "records", .int ((1 + z2 : Nat) : Int)), (.inr "every", .int ((1 + z3 : Nat) : Int))]) nd0
    have d6 : (upd H6 d (.dK [(.inr "lengths", .ref ll), (.inr "size", .int (sz : Int)), (.inr "fanout", .int ((2 + z1 : Nat) : Int)), (.inr "records", .int ((1 + z2 : Nat) : Int)), (.inr "every", .int ((1 + z3 : Nat) : Int))])) d = some (.dK [(.inr "lengths", .ref ll), (.inr "size", .int (sz : Int)), (.inr "fanout", .int ((2 + z1 : Nat) : Int)), (.inr "records", .int ((1 + z2 : Nat) : Int)), (.inr "every", .int ((1 + z3 : Nat) : Int))]) := upd_same
    have l6 : (upd H6 d (.dK [(.inr "lengths", .ref ll), (.inr "size", .int (sz : Int)), (.inr "fanout", .int ((2 + z1 : Nat) : Int)), (.inr "records", .int ((1 + z2 : Nat) : Int)), (.inr "every", .int ((1 + z3 : Nat) : Int))])) l = some (.lst (nats ds)) := by rw [upd_ne nlld]; exact s6 _ _ l5
    have m6 : (upd H6 d (.dK [(.inr "lengths", .ref ll), (.inr "size", .int (sz : Int)), (.inr "fanout", .int ((2 + z1 : Nat) : Int)), (.inr "records", .int ((1 + z2 : Nat) : Int)), (.inr "every", .int ((1 + z3 : Nat) : Int))])) ll = some (.lst (nats L)) := by rw [upd_ne nld]; exact s6 _ _ m5
    generalize upd H6 d (.dK [(.inr "lengths", .ref ll), (.inr "size", .int (sz : Int)), (.inr "fanout", .int ((2 + z1 : Nat) : Int)), (.inr "records", .int ((1 + z2 : Nat) : Int)), (.inr "every", .int ((1 + z3 : Nat) : Int))]) = G6 at t6 d6 l6 m6 ⊢
    have q6 := SqL.of (K := K) l6
    obtain ⟨z4, hz4, dz4⟩ := dv_pick (X := (cxOf CX0 P w K mg base N__law_parts d__law_parts.qual d__law_parts.scope f cdv A outer s H E).nox) (σ := [some (.ref l), some (.int (sz : Int)), some (.ref ll), none, some (.ref d)]) (H := G6) (x := 12) (y := 100) (dig 8 rfl rfl (dv_var 0) q6 (by decide) rfl rfl rfl) (dn_mod (dig 33 rfl rfl (dv_var 0) q6 (by decide) rfl rfl rfl) (dn_lit 2) (by decide)) (two 33) (by decide) (by decide)
    refine b_cons (s_dputK (kk := .inr "keep") (dn_add (dn_lit 1) dz4) (dv_var 4) dv_str d6 (by simp) (fun H7 s7 => ?_) hu)
    have e7 : putK ([(.inr "lengths", .ref ll), (.inr "size", .int (sz : Int)), (.inr "fanout", .int ((2 + z1 : Nat) : Int)), (.inr "records", .int ((1 + z2 : Nat) : Int)), (.inr "every", .int ((1 + z3 : Nat) : Int))] : List (Key × V)) (.inr "keep") (.int ((1 + z4 : Nat) : Int)) = [(.inr "lengths", .ref ll), (.inr "size", .int (sz : Int)), (.inr "fanout", .int ((2 + z1 : Nat) : Int)), (.inr "records", .int ((1 + z2 : Nat) : Int)), (.inr "every", .int ((1 + z3 : Nat) : Int)), (.inr "keep", .int ((1 + z4 : Nat) : Int))] := rfl
    rw [e7]
    have t7 := (t6.trans s7).mut (o := .dK [(.inr "lengths", .ref ll), (.inr "size", .int (sz : Int)), (.inr "fanout", .int ((2 + z1 : Nat) : Int)), (.inr "records", .int ((1 + z2 : Nat) : Int)), (.inr "every", .int ((1 + z3 : Nat) : Int)), (.inr "keep", .int ((1 + z4 : Nat) : Int))]) nd0
    have d7 : (upd H7 d (.dK [(.inr "lengths", .ref ll), (.inr "size", .int (sz : Int)), (.inr "fanout", .int ((2 + z1 : Nat) : Int)), (.inr "records", .int ((1 + z2 : Nat) : Int)), (.inr "every", .int ((1 + z3 : Nat) : Int)), (.inr "keep", .int ((1 + z4 : Nat) : Int))])) d = some (.dK [(.inr "lengths", .ref ll), (.inr "size", .int (sz : Int)), (.inr "fanout", .int ((2 + z1 : Nat) : Int)), (.inr "records", .int ((1 + z2 : Nat) : Int)), (.inr "every", .int ((1 + z3 : Nat) : Int)), (.inr "keep", .int ((1 + z4 : Nat) : Int))]) := upd_same
    have l7 : (upd H7 d (.dK [(.inr "lengths", .ref ll), (.inr "size", .int (sz : Int)), (.inr "fanout", .int ((2 + z1 : Nat) : Int)), (.inr "records", .int ((1 + z2 : Nat) : Int)), (.inr "every", .int ((1 + z3 : Nat) : Int)), (.inr "keep", .int ((1 + z4 : Nat) : Int))])) l = some (.lst (nats ds)) := by rw [upd_ne nlld]; exact s7 _ _ l6
    have m7 : (upd H7 d (.dK [(.inr "lengths", .ref ll), (.inr "size", .int (sz : Int)), (.inr "fanout", .int ((2 + z1 : Nat) : Int)), (.inr "records", .int ((1 + z2 : Nat) : Int)), (.inr "every", .int ((1 + z3 : Nat) : Int)), (.inr "keep", .int ((1 + z4 : Nat) : Int))])) ll = some (.lst (nats L)) := by rw [upd_ne nld]; exact s7 _ _ m6
    generalize upd H7 d (.dK [(.inr "lengths", .ref ll), (.inr "size", .int (sz : Int)), (.inr "fanout", .int ((2 + z1 : Nat) : Int)), (.inr "records", .int ((1 + z2 : Nat) : Int)), (.inr "every", .int ((1 + z3 : Nat) : Int)), (.inr "keep", .int ((1 + z4 : Nat) : Int))]) = G7 at t7 d7 l7 m7 ⊢
    refine b_one (s_retV (dv_var 4) (fun H8 s8 => ?_))
    exact k H8 d ⟨L, sz, 2 + z1, 1 + z2, 1 + z3, 1 + z4⟩ (t7.trans s8) nd0 ⟨⟨gok, by show 2 ≤ 2 + z1; omega, by show 2 + z1 ≤ 8; omega, by show 1 ≤ 1 + z2; omega, by show 1 + z2 ≤ 16; omega, by show 1 ≤ 1 + z3; omega, by show 1 + z3 ≤ 40; omega, by show 1 ≤ 1 + z4; omega, by show 1 + z4 ≤ 100; omega⟩, ll, s8 _ _ d7, s8 _ _ m7⟩
theorem gives_parts {H : Hp} {l : Addr} {ds : List Nat} (h : H l = some (.lst (nats ds))) (hd : ds.length = 40) : Gives (spParts K) [.ref l] H (fun v H' => ∃ d st, v = .ref d ∧ H d = none ∧ PtAt K H' d st) := fun H1 s1 Q E q => ⟨l, ds, rfl, s1 _ _ h, hd, fun H' d st s' nd hP => q _ H' s' ⟨d, st, rfl, s1.free nd, hP⟩⟩
end
end KR

namespace Sx
open PySem PySem.Spec PyProof.Rows L2
/-- [elt for n in xs], the elements by their places -/
theorem d_lcM {X : Cx} {σ : L2.St} {H : Hp} {elt iter : Expr} {scope : Scope} {pos px : Pos} {n : Str} {i : Nat} {xs ys : List V} (hi : DL X iter σ H xs) (hz : xs.length ≤ 1000) (hl : ys.length = xs.length)
    (he : ∀ (sb : Shared) (Hb : Hp) (C : Addr) (cl : List (Str × Addr)) (fp : List Addr) (t : Nat) (x y : V) (H1 : Hp), xs[t]? = some x → ys[t]? = some y → Same H H1 → DV (X.blk sb Hb scope (compEnvC scope cl C X.env) fp) elt ((wipe σ [i]).set i (some x)) H1 y)
    (hc : X.calm = true) (hN : X.N.Nodup) (ok : BlkOk X.N X.env.scope scope [(n, i)] := by exact blkOk_by (by decide +kernel)) (hin : X.N[i]? = some n := by rfl)
    (hx : ∀ (s : Shared) (Hb : Hp) (C : Addr) (cl : List (Str × Addr)) (fp : List Addr), Loc (X.blk s Hb scope (compEnvC scope cl C X.env) fp).env.scope n := by first | exact fun _ _ _ _ _ => Or.inl rfl | exact fun _ _ _ _ _ => Or.inr rfl)
    (hf : ∀ (s : Shared) (Hb : Hp) (C : Addr) (cl : List (Str × Addr)) (fp : List Addr), (X.blk s Hb scope (compEnvC scope cl C X.env) fp).fn n = true ∨ (X.blk s Hb scope (compEnvC scope cl C X.env) fp).env.scope.names.lookup n = some .local := by first | exact fun _ _ _ _ _ => Or.inl rfl | exact fun _ _ _ _ _ => Or.inr rfl)
    (hs : ∀ x, foldedSetIterable iter X.env x = pure x := by intro _; rfl) :
    D X (.ListComp elt [⟨.Name n px, iter, [], 0⟩] scope pos) σ H (fun v H' => ∃ p, v = .ref p ∧ H p = none ∧ H' p = some (.lst ys)) := by
  refine (d_lcS (fun t y _ => ys[t]? = some y) (fun t y H1 H2 _ h => h) hi hz (fun sb Hb C cl fp _ t x H1 ex s1 => ?_) hc hN ok hin hx hf hs).imp fun v H' s' ⟨p, zs, ev, np, hp, hlz, hall⟩ => ⟨p, ev, np, ?_⟩
  · have ht : t < ys.length := by
      rw [hl]
      exact (List.getElem?_eq_some_iff.mp ex).1
    have ey : ys[t]? = some ys[t] := List.getElem?_eq_getElem ht
    exact (he sb Hb C cl fp t x _ H1 ex ey s1).imp fun v H' _ e => by rw [e]; exact ey
  · have e : zs = ys := by
      refine List.ext_getElem? fun t => ?_
      by_cases ht : t < zs.length
      · rw [hall t zs[t] (List.getElem?_eq_getElem ht), List.getElem?_eq_getElem ht]
      · rw [List.getElem?_eq_none (by omega), List.getElem?_eq_none (by omega)]
    rw [← e]
    exact hp
end Sx
namespace KR
open PySem PySem.Spec PyProof.Rows L2 Sx
section
variable {P : Program} {w : World} {K : PySem.W.Frag} {mg : Str → Option Value} {base : Heap}
/-! ### _law_settings -/
def spLSet (K : PySem.W.Frag) : Sp := fun vs H Q _ => ∃ (d : Addr) (st : Sg), vs = [.ref d] ∧ PtAt K H d st ∧ ∀ H' p, Same H H' → StAt K H' p st → Q (.ref p) H'
theorem ok_lsettings (T : Hd K mg) : Has P w K mg base 6 (He.fAd K d__law_settings.at_) (spLSet K) := by
  refine hasW T i__law_settings sc__law_settings bd__law_settings (fun vs H Q E h => ?_) (fun f cdv A outer s H vs Q E hr h => ?_)
  · obtain ⟨d, st, rfl, _⟩ := h
    rfl
  · obtain ⟨d, st, rfl, hP, k⟩ := h
    obtain ⟨sok, ll, hd, hll⟩ := id hP
    have hu := hu_of hr
    have MS := mak_Settings (P := P) (w := w) (base := base) T
    refine b_cons (s_unpL4 (i1 := 1) (i2 := 2) (i3 := 3) (i4 := 4) (dl_new (d_lcM (i := 5) (xs := [.str "fanout", .str "records", .str "every", .str "keep"]) (ys := [.int st.fanout, .int st.records, .int st.every, .int st.keep]) (dl_new (d_lst (da_cons dv_str (da_cons dv_str (da_cons dv_str (da_cons dv_str da_nil)))) (by simp))) (by simp) rfl
      (fun sb Hb C cl fp t x y H1 ex ey s1 => ?_) rfl sc__law_settings.nd (ok := blkOk_by (N := N__law_settings) (sc := defScope s__law_settings) (by decide +kernel)))) (fun H1 s1 => ?_) rfl sc__law_settings.nd)
    · have hd1 := s1 _ _ hd
      match t, ex, ey with
      | 0, ex, ey => cases ex; cases ey; exact dv_dgetK (kk := .inr "fanout") (dv_var 0) (dv_var 5) hd1 rfl hu
      | 1, ex, ey => cases ex; cases ey; exact dv_dgetK (kk := .inr "records") (dv_var 0) (dv_var 5) hd1 rfl hu
      | 2, ex, ey => cases ex; cases ey; exact dv_dgetK (kk := .inr "every") (dv_var 0) (dv_var 5) hd1 rfl hu
      | 3, ex, ey => cases ex; cases ey; exact dv_dgetK (kk := .inr "keep") (dv_var 0) (dv_var 5) hd1 rfl hu
    · have hd1 := s1 _ _ hd
      refine b_one (s_ret (d_makK (P := fun v H' => ∃ p, v = .ref p ∧ StAt K H' p st) (vs := [.ref ll, .int st.size]) (zs := [.int st.fanout, .int st.records, .int st.every, .int st.keep]) MS hr (da_cons (dv_dgetK (kk := .inr "lengths") (dv_var 0) dv_str hd1 rfl hu) (da_cons (dv_dgetK (kk := .inr "size") (dv_var 0) dv_str hd1 rfl hu) da_nil)) (dk_cons (dv_var 1) (dk_cons (dv_var 2) (dk_cons (dv_var 3) (dk_cons (dv_var 4) dk_nil)))) rfl rfl
        (fun H2 s2 x dx nx nd ne Q' q => ?_)) (fun v H2 s2 hv => ?_))
      · have s0 : Same H2 (upd (upd H2 dx (.own x)) x (.ins (cA K "Settings") dx [])) := (Same.new nd).trans (Same.new (by rw [upd_ne (Ne.symm ne)]; exact nx))
        exact ⟨x, ll, st, H2, rfl, ⟨s0, nx, dx, upd_same⟩, sok, SqL.of (s2 _ _ (s1 _ _ hll)), fun H3 s3 hS => q H3 s3 ⟨x, rfl, hS⟩⟩
      · obtain ⟨p, ev, hS⟩ := hv
        subst ev
        exact k H2 p (s1.trans s2) hS
theorem gives_lset {H : Hp} {d : Addr} {st : Sg} (h : PtAt K H d st) : Gives (spLSet K) [.ref d] H (fun v H' => ∃ p, v = .ref p ∧ StAt K H' p st) := fun H1 s1 Q E q => ⟨d, st, rfl, h.same s1, fun H' p s' hS => q _ H' s' ⟨p, rfl, hS⟩⟩
end
end KR

namespace Sx
open PySem PySem.Spec PyProof.Rows L2
/-- x, y = a, b: neither value is fixed -/
theorem s_parDD {X : Cx} {a b : Expr} {σ : L2.St} {H : Hp} {DD : Ends} {P1 : V → Hp → Prop} {P2 : Hp → V → Hp → Prop} {i j : Nat} {n m : Str} {pos : Pos} {px py pt : Pos} {kt k2 : Nat} {pt2 : Pos} (ha : D X a σ H P1) (hb : ∀ v H1, Same H H1 → P1 v H1 → D X b σ H1 (P2 H1)) (q : ∀ v w H1 H', Same H H1 → P1 v H1 → Same H1 H' → P2 H1 w H' → DD.nx ((σ.set i (some v)).set j (some w)) H') (hc : X.calm = true) (hN : X.N.Nodup) (hij : i ≠ j) (hi : X.N[i]? = some n := by rfl) (hj : X.N[j]? = some m := by rfl)
    (hx : X.env.scope.names.lookup n = some .local := by rfl) (hy : X.env.scope.names.lookup m = some .local := by rfl)
    (hw : swappedStores [.Tuple [.Name n px, .Name m py] kt pt] (.Tuple [a, b] k2 pt2) X.env = pure (some [n, m]) := by rfl)
    (hs : swapsWithSole [.Tuple [.Name n px, .Name m py] kt pt] (.Tuple [a, b] k2 pt2) pos.line X.env = pure false := by rfl)
    (h1 : starEach [a, b] X.env = (false, eval a X.env) :: starEach [b] X.env := by rfl) (h2 : starEach [b] X.env = (false, eval b X.env) :: starEach [] X.env := by rfl) :
    WS X (.Assign [.Tuple [.Name n px, .Name m py] kt pt] (.Tuple [a, b] k2 pt2) pos) DD σ H :=
  ws_of (ps_par hc hN hi hj hij hx hy pa_w hw hs) (wa_of (pa_cons pe_w pa_w h1) (ha H (Same.refl _) _ fun v H2 s2 p2 => wa_of (pa_cons pe_w pa_w h2) ((hb v H2 s2 p2) H2 (Same.refl _) _ fun w H3 s3 p3 => wa_of pa_nil ⟨v, w, rfl, q v w H2 H3 s2 p2 s3 p3⟩)))
end Sx
namespace KR
open PySem PySem.Spec PyProof.Rows L2 Sx
theorem dv_res {X : Cx} {σ : L2.St} {H : Hp} {e1 e2 : Expr} {a n : Nat} {pos : Pos} (ha : DV X e1 σ H (.int (a : Int))) (hb : DV X e2 σ H (.int (n : Int))) (h : 0 < n) : DV X (.BinOp e1 .Mod e2 pos) σ H (kV (.inl ((a % n : Nat) : Int))) := dn_mod ha hb h
section
variable {P : Program} {w : World} {K : PySem.W.Frag} {mg : Str → Option Value} {base : Heap}
def spStarts (K : PySem.W.Frag) : Sp := fun vs H Q _ => ∃ (d : Addr) (st : Sg), vs = [.ref d] ∧ PtAt K H d st ∧ ∀ g : Pg, g.Ok → g.lens = st.lens → g.room = st.size → ∀ H' t ls, Same H H' → H' t = some (.tup [.ref ls, .int (g.first : Nat)]) → H' ls = some (.lst (nats g.starts)) → Q (.ref t) H'
theorem ok_lstarts (T : Hd K mg) : Has P w K mg base 1 (He.fAd K d__law_starts.at_) (spStarts K) := by
  refine hasW T i__law_starts sc__law_starts bd__law_starts (fun vs H Q E h => ?_) (fun f cdv A outer s H vs Q E hr h => ?_)
  · obtain ⟨d, st, rfl, _⟩ := h
    rfl
  · obtain ⟨d, st, rfl, hP, k⟩ := h
    obtain ⟨sok, ll, hd, hll⟩ := id hP
    have hu := hu_of hr
    have ok := sok.ok
    have mint := T.free "int" e_free
    have mlen := T.free "len" e_free
    have hl : 0 < st.lens.length := List.length_pos_iff.mpr ok.ne
    have hroom := ok.room
    have hfew := ok.few
    have last : ∀ q, atI (nats ((List.range (q + 1)).map (Geo.S st.lens st.size))) (-1) = some (.int (Geo.S st.lens st.size q : Nat)) := fun q => by
      unfold nats
      rw [List.range_succ, List.map_append, List.map_append]
      exact atI_last _ _
    have elen : (((nats st.lens).length : Nat) : Int) = ((st.lens.length : Nat) : Int) := by rw [nats_len]
    refine b_cons (s_parDD (i := 1) (j := 2) (d_lst (da_cons dv_int da_nil) (by simp)) (P2 := fun H1 v H' => ∃ p, v = .ref p ∧ H1 p = none ∧ H' p = some (.dK [])) (fun v H1 s1 hv => d_dnewK) (fun v v2 H1 H2 s1 hv s2 hv2 => ?_) rfl sc__law_starts.nd (by decide))
    obtain ⟨ls, ev, nls, hls⟩ := hv
    obtain ⟨sd, ev2, nsd, hsd⟩ := hv2
    subst ev
    subst ev2
    have f2 := s1.trans s2
    have l2 := s2 _ _ hls
    have nsd0 : H sd = none := s1.free nsd
    have nls_sd : ls ≠ sd := ne_of_none hls nsd
    refine b_cons (s_while (fun m σ H' => Same H H' ∧ ∃ (kk : Nat) (r3 r4 : Option V), σ = [some (.ref d), some (.ref ls), some (.ref sd), r3, r4] ∧ m = st.lens.length - kk ∧
      H' ls = some (.lst (nats ((List.range (kk + 1)).map (Geo.S st.lens st.size)))) ∧ H' sd = some (.dK (seenL (fun i => Geo.S st.lens st.size i % st.lens.length) kk)) ∧ (∀ i j, i < j → j < kk → Geo.S st.lens st.size i % st.lens.length ≠ Geo.S st.lens st.size j % st.lens.length))
      st.lens.length ⟨f2, 0, none, none, rfl, rfl, l2, hsd, fun i j _ h => absurd h (Nat.not_lt_zero _)⟩ (fun m σ H6 hI => ?_))
    obtain ⟨f6, kk, r3, r4, eσ, em, l6, d6, dis⟩ := hI
    subst eσ
    subst em
    have kL : kk ≤ st.lens.length := Geo.few_range (f := fun i => Geo.S st.lens st.size i % st.lens.length) (fun i _ => Nat.mod_lt _ hl) dis
    have hd6 := f6 _ _ hd
    have hll6 := f6 _ _ hll
    refine ⟨_, dt_dninK (kk := .inl ((Geo.S st.lens st.size kk % st.lens.length : Nat) : Int)) (dv_res (dv_int1 (dv_ixL (dv_var 1) (dv_neg dv_int) (SqL.of l6) (last kk)) mint) (dv_eq (dv_lenl (dl_of (dv_dgetK (kk := .inr "lengths") (dv_var 0) dv_str hd6 rfl hu) (SqL.of hll6)) mlen) (by rw [elen])) hl) (dv_var 2) d6 hu, fun hb H7 t7 => ?_, fun hb H7 t7 => ?_⟩
    · -- a turn
      have f7 := f6.trans t7
      have l7 := t7 _ _ l6
      have d7 := t7 _ _ d6
      have hd7 := t7 _ _ hd6
      have hll7 := t7 _ _ hll6
      have fresh : ∀ i, i < kk → Geo.S st.lens st.size i % st.lens.length ≠ Geo.S st.lens st.size kk % st.lens.length := fun i hi q => by
        rw [Bool.not_eq_true'] at hb
        have : (valV (seenL (fun i => Geo.S st.lens st.size i % st.lens.length) kk) (Sum.inl ((Geo.S st.lens st.size kk % st.lens.length : Nat) : Int) : Key)).isSome = true := by
          unfold valV seenL
          rw [Option.isSome_map, List.find?_isSome]
          exact ⟨_, List.mem_map.mpr ⟨i, List.mem_range.mpr hi, rfl⟩, decide_eq_true (by
            show (Sum.inl ((Geo.S st.lens st.size i % st.lens.length : Nat) : Int) : Key) = _
            rw [q])⟩
        rw [hb] at this
        cases this
      refine b_cons (s_dputK (v := .int (kk : Int)) (dv_eq (dn_sub (dv_lenl (dl_of (dv_var 1) (SqL.of l7)) mlen) (dn_lit 1) (by simp [nats])) (by simp [nats])) (dv_var 2)
        (dv_res (dv_int1 (dv_ixL (dv_var 1) (dv_neg dv_int) (SqL.of l7) (last kk)) mint) (dv_eq (dv_lenl (dl_of (dv_dgetK (kk := .inr "lengths") (dv_var 0) dv_str hd7 rfl hu) (SqL.of hll7)) mlen) (by rw [elen])) hl) d7 (by simp [seenL]; omega) (fun H8 t8 => ?_) hu)
      rw [seenL_put (g := fun i => Geo.S st.lens st.size i % st.lens.length) fresh]
      have f8 := (f7.trans t8).mut (o := .dK (seenL (fun i => Geo.S st.lens st.size i % st.lens.length) (kk + 1))) nsd0
      have l8 := (upd_ne (o := .dK (seenL (fun i => Geo.S st.lens st.size i % st.lens.length) (kk + 1))) nls_sd).trans (t8 _ _ l7)
      have d8 := upd_same (H := H8) (a := sd) (o := .dK (seenL (fun i => Geo.S st.lens st.size i % st.lens.length) (kk + 1)))
      generalize upd H8 sd (.dK (seenL (fun i => Geo.S st.lens st.size i % st.lens.length) (kk + 1))) = H8' at f8 l8 d8 ⊢
      have hd8 := f8 _ _ hd
      have hll8 := f8 _ _ hll
      -- row, left
      refine b_cons (s_par (i := 3) (j := 4) (dv_ixL (dv_var 1) (dv_neg dv_int) (SqL.of l8) (last kk)) (dv_dgetK (kk := .inr "size") (dv_var 0) dv_str hd8 rfl hu) (fun H9 t9 => ?_) rfl sc__law_starts.nd (by decide))
      have hl0 := Geo.rf_le (lens := st.lens) (room := st.size) (Geo.S st.lens st.size kk)
      refine b_cons (s_while (fun m σ H' => Same H8' H' ∧ ∃ (fd un : Nat), σ = [some (.ref d), some (.ref ls), some (.ref sd), some (.int ((Geo.S st.lens st.size kk + fd : Nat) : Int)), some (.int ((st.size - un : Nat) : Int))] ∧ m = st.size + 1 - un ∧ un ≤ st.size ∧
        Geo.rf st.lens st.size (Geo.S st.lens st.size kk) = Geo.go st.lens st.size (st.size + 1) (Geo.S st.lens st.size kk) fd un) (st.size + 1) ⟨t9, 0, 0, rfl, rfl, Nat.zero_le _, rfl⟩ (fun m σ HA hI => ?_))
      obtain ⟨tA, fd, un, eσ, em, hun, hgo⟩ := hI
      subst eσ
      subst em
      have hdA := tA _ _ hd8
      have hllA := tA _ _ hll8
      refine ⟨decide (Geo.rl st.lens (Geo.S st.lens st.size kk + fd) ≤ st.size - un), tn_le (dv_ixL (dv_dgetK (kk := .inr "lengths") (dv_var 0) dv_str hdA rfl hu) (dn_mod (dv_int1 (dv_var 3) mint) (dv_eq (dv_lenl (dl_of (dv_dgetK (kk := .inr "lengths") (dv_var 0) dv_str hdA rfl hu) (SqL.of hllA)) mlen) (by rw [elen])) hl) (SqL.of hllA) (atI_nats (Nat.mod_lt _ hl))) (dv_var 4), fun hb2 HB tB => ?_, fun hb2 HB tB => ?_⟩
      · have hb2 := of_decide_eq_true hb2
        have hle : un + Geo.rl st.lens (Geo.S st.lens st.size kk + fd) ≤ st.size := by omega
        have lp := Geo.rl_pos ok (Geo.S st.lens st.size kk + fd)
        have hdB := tB _ _ hdA
        have hllB := tB _ _ hllA
        refine b_cons (s_setV (i := 4) (dn_sub (dv_var 4) (dv_ixL (dv_dgetK (kk := .inr "lengths") (dv_var 0) dv_str hdB rfl hu) (dn_mod (dv_int1 (dv_var 3) mint) (dv_eq (dv_lenl (dl_of (dv_dgetK (kk := .inr "lengths") (dv_var 0) dv_str hdB rfl hu) (SqL.of hllB)) mlen) (by rw [elen])) hl) (SqL.of hllB) (atI_nats (Nat.mod_lt _ hl))) hb2) (fun HC tC => ?_) sc__law_starts.nd)
        refine b_one (s_setV (i := 3) (dn_add (dv_var 3) (dn_lit 1)) (fun HD tD => ?_) sc__law_starts.nd)
        refine ⟨st.size + 1 - (un + Geo.rl st.lens (Geo.S st.lens st.size kk + fd)), by omega, ((tA.trans tB).trans tC).trans tD, fd + 1, un + Geo.rl st.lens (Geo.S st.lens st.size kk + fd), ?_, rfl, hle, ?_⟩
        · have e1 : st.size - (un + Geo.rl st.lens (Geo.S st.lens st.size kk + fd)) = st.size - un - Geo.rl st.lens (Geo.S st.lens st.size kk + fd) := by omega
          rw [e1]
          rfl
        · rw [hgo, Geo.go_step ok hle]
      · have hb2 := of_decide_eq_false hb2
        have hlt : ¬ un + Geo.rl st.lens (Geo.S st.lens st.size kk + fd) ≤ st.size := by omega
        rw [Geo.go_stop hlt] at hgo
        have tAB := tA.trans tB
        refine b_one (s_append (dv_var 1) (tAB _ _ l8) (dv_var 3) (fun v HC tC ev => ?_) (by simp [nats]; omega))
        have ev : v = _ := ev
        subst ev
        have lk : kk + 1 ≤ st.lens.length := Geo.few_range (f := fun i => Geo.S st.lens st.size i % st.lens.length) (fun i _ => Nat.mod_lt _ hl) (fun i j h1 h2 => by
          rcases Nat.lt_succ_iff_lt_or_eq.mp h2 with q | q
          · exact dis i j h1 q
          · subst q; exact fresh i h1)
        refine ⟨st.lens.length - (kk + 1), by omega, ((f8.trans tAB).trans tC).mut nls, kk + 1, _, _, rfl, rfl, ?_, ?_, fun i j h1 h2 => ?_⟩
        · rw [upd_same, List.range_succ (n := kk + 1), List.map_append, ← hgo]
          simp [nats, Geo.S]
        · rw [upd_ne (Ne.symm nls_sd)]
          exact tC _ _ (tAB _ _ d8)
        · rcases Nat.lt_succ_iff_lt_or_eq.mp h2 with q | q
          · exact dis i j h1 q
          · subst q; exact fresh i h1
    · -- behind the loop
      have f7 := f6.trans t7
      have l7 := t7 _ _ l6
      have d7 := t7 _ _ d6
      rw [Bool.not_eq_false'] at hb
      obtain ⟨fi, h1, h2, h3⟩ := seenL_some hb
      have h2 : Geo.S st.lens st.size fi % st.lens.length = Geo.S st.lens st.size kk % st.lens.length := h2
      have hd7 := f7 _ _ hd
      have hll7 := f7 _ _ hll
      refine b_one (s_ret (d_tup (da_cons (dv_var 1) (da_cons (dv_dgetK (dv_var 2) (dv_res (dv_int1 (dv_ixL (dv_var 1) (dv_neg dv_int) (SqL.of l7) (last kk)) mint) (dv_eq (dv_lenl (dl_of (dv_dgetK (kk := .inr "lengths") (dv_var 0) dv_str hd7 rfl hu) (SqL.of hll7)) mlen) (by rw [elen])) hl) d7 h3 hu) da_nil)) (by simp)) (fun v H8 t8 hv => ?_))
      obtain ⟨t, ev, ht⟩ := hv
      subst ev
      exact k ⟨st.lens, st.size, fi, kk⟩ ⟨ok, h1, by show kk ≤ 6; omega, h2.symm, dis⟩ rfl rfl H8 t ls (f7.trans t8) ht (t8 _ _ l7)
end
end KR

namespace Sx
open PySem PySem.Spec PyProof.Rows L2
/-- x, y = a tuple of two, not fixed -/
theorem s_unp2D {X : Cx} {e : Expr} {σ : L2.St} {H : Hp} {DD : Ends} {R : V → V → Hp → Prop} {i j : Nat} {n m : Str} {pos px py pt : Pos} {kt : Nat} (h : D X e σ H (fun v H' => ∃ p x y, v = .ref p ∧ SqT X.K H' p [x, y] ∧ R x y H')) (q : ∀ x y H', Same H H' → R x y H' → DD.nx ((σ.set i (some x)).set j (some y)) H') (hc : X.calm = true) (hN : X.N.Nodup) (hi : X.N[i]? = some n := by rfl) (hj : X.N[j]? = some m := by rfl)
    (hx : Loc X.env.scope n := by first | exact Or.inl rfl | exact Or.inr rfl) (hy : Loc X.env.scope m := by first | exact Or.inl rfl | exact Or.inr rfl)
    (hf : X.fn n = true ∨ X.env.scope.names.lookup n = some .local := by first | exact .inl rfl | exact .inr rfl) (hf2 : X.fn m = true ∨ X.env.scope.names.lookup m = some .local := by first | exact .inl rfl | exact .inr rfl)
    (hs : swapsWithSole [.Tuple [.Name n px, .Name m py] kt pt] e pos.line X.env = pure false := by rfl) (hw : swappedStores [.Tuple [.Name n px, .Name m py] kt pt] e X.env = pure none := by rfl)
    (h1 : (assignEach [.Tuple [.Name n px, .Name m py] kt pt] X.env).map (·.2) = [assign (.Tuple [.Name n px, .Name m py] kt pt) X.env] := by rfl)
    (a1 : (assignEach [.Name n px, .Name m py] X.env).map (·.2) = assign (.Name n px) X.env :: (assignEach [.Name m py] X.env).map (·.2) := by rfl) (a2 : (assignEach [.Name m py] X.env).map (·.2) = assign (.Name m py) X.env :: (assignEach [] X.env).map (·.2) := by rfl)
    (a3 : (assignEach [.Name n px, .Name m py] X.env).length = 2 := by rfl) (a4 : (assignEach [.Name n px, .Name m py] X.env).findIdx? (·.1) = none := by rfl) :
    WS X (.Assign [.Tuple [.Name n px, .Name m py] kt pt] e pos) DD σ H :=
  ws_of (ps_asg pe_w (pg_tup hc (pgs_cons (pg_name hN hi hx hf) (pgs_cons (pg_name hN hj hy hf2) pgs_nil a2) a1) a3 a4) hs hw h1) (h H (Same.refl _) _ fun v H2 s2 ⟨p, x, y, ev, hp, hR⟩ => ⟨p, [x, y], ev, hp, rfl, x, [y], rfl, y, [], rfl, rfl, q x y H2 s2 hR⟩)
/-- (a, b), the values not fixed -/
theorem d_tup2D {X : Cx} {a b : Expr} {σ : L2.St} {H : Hp} {P1 : V → Hp → Prop} {P2 : Hp → V → Hp → Prop} {xx : Nat} {pos : Pos} (ha : D X a σ H P1) (hb : ∀ v H1, Same H H1 → P1 v H1 → D X b σ H1 (P2 H1)) (h1 : starEach [a, b] X.env = (false, eval a X.env) :: starEach [b] X.env := by rfl) (h2 : starEach [b] X.env = (false, eval b X.env) :: starEach [] X.env := by rfl) :
    D X (.Tuple [a, b] xx pos) σ H (fun v H' => ∃ p x y, v = .ref p ∧ SqT X.K H' p [x, y] ∧ ∃ H1 H2, Same H H1 ∧ P1 x H1 ∧ Same H1 H2 ∧ P2 H1 y H2 ∧ Same H2 H') :=
  d_of (pe_tup pa_w) fun H1 s1 Q q => wa_of (pa_cons pe_w pa_w h1) (ha H1 s1 _ fun v H2 s2 p2 => wa_of (pa_cons pe_w pa_w h2) ((hb v H2 (s1.trans s2) p2) H2 (Same.refl _) _ fun w H3 s3 p3 => wa_of pa_nil ⟨by rw [sizeLine_eq]; simp, fun p hp => q _ _ ((s2.trans s3).trans (Same.new hp)) ⟨p, v, w, rfl, SqT.of upd_same, H2, H3, s1.trans s2, p2, s3, p3, Same.new hp⟩⟩))
/-- t[k] of a tuple, of which the place is fixed -/
theorem dv_ixuD {X : Cx} {a b : Expr} {σ : L2.St} {H : Hp} {v : V} {k : Int} {pos : Pos} (ha : D X a σ H (fun v' H' => ∃ p xs, v' = .ref p ∧ SqT X.K H' p xs ∧ atI xs k = some v)) (hb : DV X b σ H (.int k)) (hx : PlainIx b := by exact fun _ _ => rfl) : DV X (.Subscript a b pos) σ H v :=
  dv_of (pe_ix ix_tup pe_w pe_w hx) fun H1 s1 Q q => ha H1 s1 _ fun w H2 s2 ⟨p, xs, ew, hp, hi⟩ => hb.run (s1.trans s2) fun H3 s3 => ⟨p, xs, k, v, ew, rfl, Sx.Same.seqT s3 hp, hi, q H3 (s2.trans s3)⟩
end Sx

namespace KR
open PySem PySem.Spec PyProof.Rows L2 Sx
/-- a number with a property, then a least one -/
theorem least_of {p : Nat → Prop} [DecidablePred p] : ∀ {n : Nat}, p n → ∃ m, m ≤ n ∧ p m ∧ ∀ c, c < m → ¬ p c := fun {n} h => by
  have key : ∀ k n, n ≤ k → p n → ∃ m, m ≤ n ∧ p m ∧ ∀ c, c < m → ¬ p c := by
    intro k
    induction k with
    | zero => exact fun n hn h => ⟨n, Nat.le_refl _, h, fun c hc => by omega⟩
    | succ k ih =>
      intro n hn h
      by_cases e : ∃ c, c < n ∧ p c
      · obtain ⟨c, hc, pc⟩ := e
        obtain ⟨m, h1, h2, h3⟩ := ih c (by omega) pc
        exact ⟨m, by omega, h2, h3⟩
      · exact ⟨n, Nat.le_refl _, h, fun c hc pc => e ⟨c, hc, pc⟩⟩
  exact key n n (Nat.le_refl _) h
/-- the cycle is there -/
theorem Pg.exists {lens : List Nat} {room : Nat} (ok : Geo.Ok lens room) : ∃ g : Pg, g.Ok ∧ g.lens = lens ∧ g.room = room := by
  have hl : 0 < lens.length := List.length_pos_iff.mpr ok.ne
  have ex : ∃ n, n ≤ lens.length ∧ ∃ i, i < n ∧ Geo.S lens room i % lens.length = Geo.S lens room n % lens.length := by
    apply Classical.byContradiction
    intro h
    have := Geo.few_range (L := lens.length) (k := lens.length + 1) (f := fun i => Geo.S lens room i % lens.length) (fun i _ => Nat.mod_lt _ hl) (fun i j h1 h2 e => h ⟨j, by omega, i, h1, e⟩)
    omega
  obtain ⟨n, hn, hp⟩ := ex
  haveI : DecidablePred fun n => ∃ i, i < n ∧ Geo.S lens room i % lens.length = Geo.S lens room n % lens.length := fun _ => Classical.propDecidable _
  obtain ⟨m, hm, ⟨i, hi, e⟩, hmin⟩ := least_of (p := fun n => ∃ i, i < n ∧ Geo.S lens room i % lens.length = Geo.S lens room n % lens.length) hp
  refine ⟨⟨lens, room, i, m⟩, ⟨ok, hi, ?_, e.symm, fun a b hab hb q => hmin b hb ⟨a, hab, q⟩⟩, rfl, rfl⟩
  have := ok.few
  show m ≤ 6
  omega
theorem Pg.uniq {g g' : Pg} (a : g.Ok) (b : g'.Ok) (h1 : g'.lens = g.lens) (h2 : g'.room = g.room) : g' = g := by
  obtain ⟨l, r, f, n⟩ := g
  obtain ⟨l', r', f', n'⟩ := g'
  have h1 : l' = l := h1
  have h2 : r' = r := h2
  subst h1 h2
  obtain ⟨e1, e2⟩ := a.one b
  rw [e1, e2]
/-- g packs the rows of st -/
structure Fit (st : Sg) (g : Pg) : Prop where
  ok : g.Ok
  le : g.lens = st.lens
  ro : g.room = st.size
theorem Fit.one {st : Sg} {g g' : Pg} (a : Fit st g) (b1 : g'.Ok) (b2 : g'.lens = st.lens) (b3 : g'.room = st.size) : g' = g := Pg.uniq a.ok b1 (b2.trans a.le.symm) (b3.trans a.ro.symm)
section
variable {P : Program} {w : World} {K : PySem.W.Frag} {mg : Str → Option Value} {base : Heap}
theorem gives_starts {H : Hp} {d : Addr} {st : Sg} {g : Pg} (h : PtAt K H d st) (hg : Fit st g) : Gives (spStarts K) [.ref d] H (fun v H' => ∃ p x y, v = .ref p ∧ SqT K H' p [x, y] ∧ ∃ ls, x = .ref ls ∧ y = .int (g.first : Nat) ∧ SqL K H' ls (nats g.starts)) := fun H1 s1 Q E q => ⟨d, st, rfl, h.same s1, fun g' a b c H' t ls s' ht hls => by
  have e := hg.one a b c
  subst e
  exact q _ H' s' ⟨t, _, _, rfl, SqT.of ht, ls, rfl, rfl, SqL.of hls⟩⟩
theorem at_last {g : Pg} : atI (nats g.starts) (-1) = some (.int (g.S g.n : Nat)) := by
  unfold nats Pg.starts
  rw [List.range_succ, List.map_append, List.map_append]
  exact atI_last _ _
/-! ### _law_start -/
def spLStart (K : PySem.W.Frag) : Sp := fun vs H Q _ => ∃ (d : Addr) (st : Sg) (g : Pg) (m : Nat), vs = [.ref d, .int (m : Nat)] ∧ PtAt K H d st ∧ Fit st g ∧ m < 2 ^ 60 ∧ ∀ H', Same H H' → Q (.int (g.S m : Nat)) H'
theorem ok_lstart (T : Hd K mg) : Has P w K mg base 2 (He.fAd K d__law_start.at_) (spLStart K) := by
  refine hasW T i__law_start sc__law_start bd__law_start (fun vs H Q E h => ?_) (fun f cdv A outer s H vs Q E hr h => ?_)
  · obtain ⟨d, st, g, m, rfl, _⟩ := h
    rfl
  · obtain ⟨d, st, g, m, rfl, hP, hg, hm, k⟩ := h
    have CS := (ok_lstarts (P := P) (w := w) (base := base) T).cal T (x := "_law_starts")
    have gok := hg.ok
    have hlt := gok.lt
    have hn6 := gok.n6
    have hSn := Sn_small gok
    have hSf : g.S g.first < g.S g.n := Geo.S_mono gok.ok hlt
    refine b_cons (s_unp2D (i := 2) (j := 3) (d_cal CS hr (da_cons (dv_var 0) da_nil) (gives_starts hP hg)) (fun x y H1 s1 hR => ?_) rfl sc__law_start.nd)
    obtain ⟨ls, ex, ey, hls⟩ := hR
    subst ex ey
    refine b_cons (s_if (b1 := decide (m < g.n + 1)) (dt_eqb (tn_lt (dv_var 1) (dv_lenl (dl_of (dv_var 2) hls) (T.free "len" e_free))) (by rw [nats_len, starts_len])) (fun hb H2 s2 => ?_) (fun hb H2 s2 => b_nil ?_))
    · have hb := of_decide_eq_true hb
      exact b_one (s_retV (dv_ixL (dv_var 2) (dv_var 1) (s2.seq hls) (at_starts (by omega))) (fun H3 s3 => k H3 ((s1.trans s2).trans s3)))
    · have hb := of_decide_eq_false hb
      have hl2 := s2.seq hls
      refine b_cons (s_par (i := 4) (j := 5) (x := .int ((g.n - g.first : Nat) : Int)) (y := .int ((g.S g.n - g.S g.first : Nat) : Int)) (dv_eq (dn_sub (dn_sub (dv_lenl (dl_of (dv_var 2) hl2) (T.free "len" e_free)) (dn_lit 1) (by rw [nats_len, starts_len]; omega)) (dv_var 3) (by rw [nats_len, starts_len]; omega)) (by rw [nats_len, starts_len]; congr 2))
        (dn_sub (dv_ixL (dv_var 2) (dv_neg dv_int) hl2 at_last) (dv_ixL (dv_var 2) (dv_var 3) hl2 (at_starts (by omega))) (by omega)) (fun H3 s3 => ?_) rfl sc__law_start.nd (by decide))
      refine b_cons (s_setV (i := 6) (dn_fdiv (dn_sub (dv_var 1) (dv_var 3) (by omega)) (dv_var 4) (by omega) (small9 (by omega))) (fun H4 s4 => ?_) sc__law_start.nd)
      have hl4 := s4.seq (s3.seq hl2)
      have hq : (m - g.first) % (g.n - g.first) < g.n - g.first := Nat.mod_lt _ (by omega)
      have hdm := Nat.mod_add_div (m - g.first) (g.n - g.first)
      rw [Nat.mul_comm] at hdm
      have hdle : (m - g.first) / (g.n - g.first) ≤ m - g.first := Nat.div_le_self _ _
      generalize hD : (m - g.first) / (g.n - g.first) = D at hdm hdle
      have e0 : m - D * (g.n - g.first) = g.first + (m - g.first) % (g.n - g.first) := by omega
      refine b_one (s_retV (v := .int (g.S m : Nat)) (dv_eq (dn_add (dv_ixL (dv_var 2) (dn_sub (dv_var 1) (dn_mul (dv_var 6) (dv_var 4) (wide_nat (a := 60) (b := 10) (by omega) (by omega) (by decide) (by decide) (by decide))) (by omega)) hl4 (at_starts (by omega))) (dn_mul (dv_var 6) (dv_var 5) (wide_nat (a := 60) (b := 10) (by omega) (by omega) (by decide) (by decide) (by decide)))) ?_) (fun H5 s5 => k H5 ((((s1.trans s2).trans s3).trans s4).trans s5)))
      have e := Geo.S_round gok.ok gok.lt gok.per ((m - g.first) % (g.n - g.first)) D
      have e2 : g.first + (m - g.first) % (g.n - g.first) + D * (g.n - g.first) = m := by omega
      rw [e2] at e
      rw [e0]
      show V.int _ = V.int ((Geo.S g.lens g.room m : Nat) : Int)
      rw [e]
theorem gives_lstart {H : Hp} {d : Addr} {st : Sg} {g : Pg} {m : Nat} (h : PtAt K H d st) (hg : Fit st g) (hm : m < 2 ^ 60) : Gives (spLStart K) [.ref d, .int (m : Nat)] H (fun v _ => v = .int (g.S m : Nat)) := fun H1 s1 Q E q => ⟨d, st, g, m, rfl, h.same s1, hg, hm, fun H' s' => q _ H' s' rfl⟩
/-! ### _law_phases -/
theorem gcd_least {r e t : Nat} (he : 0 < e) : t * r % e = 0 ↔ t % (e / Nat.gcd r e) = 0 := by
  have hg : 0 < Nat.gcd r e := Nat.gcd_pos_of_pos_right _ he
  rw [← Nat.dvd_iff_mod_eq_zero, ← Nat.dvd_iff_mod_eq_zero]
  obtain ⟨a, ha⟩ := Nat.gcd_dvd_left r e
  obtain ⟨b, hb⟩ := Nat.gcd_dvd_right r e
  have hco : Nat.Coprime a b := by
    have := Nat.coprime_div_gcd_div_gcd hg
    rw [show r / Nat.gcd r e = a from Nat.div_eq_of_eq_mul_right hg ha, show e / Nat.gcd r e = b from Nat.div_eq_of_eq_mul_right hg hb] at this
    exact this
  rw [show e / Nat.gcd r e = b from Nat.div_eq_of_eq_mul_right hg hb]
  constructor
  · intro h
    have h2 : Nat.gcd r e * b ∣ Nat.gcd r e * (t * a) := by
      rw [← hb]
      have : Nat.gcd r e * (t * a) = t * r := by rw [Nat.mul_left_comm, ← ha]
      rw [this]
      exact h
    have h3 := Nat.dvd_of_mul_dvd_mul_left hg h2
    exact Nat.Coprime.dvd_of_dvd_mul_right hco.symm h3
  · rintro ⟨c, hc⟩
    refine ⟨c * a, ?_⟩
    have e1 : e * (c * a) = (Nat.gcd r e * b) * (c * a) := by rw [← hb]
    have e2 : t * r = (b * c) * (Nat.gcd r e * a) := by rw [← ha, hc]
    rw [e1, e2]
    ac_rfl
def spLPh (K : PySem.W.Frag) : Sp := fun vs H Q _ => ∃ (d : Addr) (st : Sg) (g : Pg), vs = [.ref d] ∧ PtAt K H d st ∧ Fit st g ∧ ∀ H' t, Same H H' → H' t = some (.tup [.int (phN st g : Nat), .int (cycN st g : Nat)]) → Q (.ref t) H'
theorem ok_lphases (T : Hd K mg) : Has P w K mg base 2 (He.fAd K d__law_phases.at_) (spLPh K) := by
  refine hasW T i__law_phases sc__law_phases bd__law_phases (fun vs H Q E h => ?_) (fun f cdv A outer s H vs Q E hr h => ?_)
  · obtain ⟨d, st, g, rfl, _⟩ := h
    rfl
  · obtain ⟨d, st, g, rfl, hP, hg, k⟩ := h
    obtain ⟨sok, ll, hd, hll⟩ := id hP
    have hu := hu_of hr
    have CS := (ok_lstarts (P := P) (w := w) (base := base) T).cal T (x := "_law_starts")
    have gok := hg.ok
    have hlt := gok.lt
    have hn6 := gok.n6
    have hSn := Sn_small gok
    have hSf : g.S g.first < g.S g.n := Geo.S_mono gok.ok hlt
    have he1 := sok.e1
    have he40 := sok.e40
    have mint := T.free "int" e_free
    refine b_cons (s_unp2D (i := 1) (j := 2) (d_cal CS hr (da_cons (dv_var 0) da_nil) (gives_starts hP hg)) (fun x y H1 s1 hR => ?_) rfl sc__law_phases.nd)
    obtain ⟨ls, ex, ey, hls⟩ := hR
    subst ex ey
    refine b_cons (s_par (i := 3) (j := 4) (x := .int ((g.n - g.first : Nat) : Int)) (y := .int ((g.S g.n - g.S g.first : Nat) : Int)) (dv_eq (dn_sub (dn_sub (dv_lenl (dl_of (dv_var 1) hls) (T.free "len" e_free)) (dn_lit 1) (by rw [nats_len, starts_len]; omega)) (dv_var 2) (by rw [nats_len, starts_len]; omega)) (by rw [nats_len, starts_len]; congr 2))
      (dn_sub (dv_ixL (dv_var 1) (dv_neg dv_int) hls at_last) (dv_ixL (dv_var 1) (dv_var 2) hls (at_starts (by omega))) (by omega)) (fun H2 s2 => ?_) rfl sc__law_phases.nd (by decide))
    refine b_cons (s_setV (i := 5) (dn_lit 1) (fun H3 s3 => ?_) sc__law_phases.nd)
    have s03 := (s1.trans s2).trans s3
    have mpos := tim_pos (g := g) sok
    have mle : st.every / Nat.gcd (g.S g.n - g.S g.first) st.every ≤ 40 := Nat.le_trans (Nat.div_le_self _ _) he40
    have hph := phN_eq (g := g) sok
    have hcy := cycN_eq (g := g) sok gok.lt
    generalize hM : st.every / Nat.gcd (g.S g.n - g.S g.first) st.every = M at mpos mle hph hcy
    refine b_cons (s_while (fun m σ H' => Same H H' ∧ ∃ t : Nat, m = M - t ∧ 1 ≤ t ∧ t ≤ M ∧ σ = [some (.ref d), some (.ref ls), some (.int (g.first : Nat)), some (.int ((g.n - g.first : Nat) : Int)), some (.int ((g.S g.n - g.S g.first : Nat) : Int)), some (.int (t : Int))]) (M - 1) ⟨s03, 1, rfl, Nat.le_refl _, mpos, rfl⟩ (fun m σ H4 hI => ?_))
    obtain ⟨s4, t, em, h1, h2, eσ⟩ := hI
    subst eσ
    subst em
    have hw : CMulW (t : Int) ((g.S g.n - g.S g.first : Nat) : Int) := wide_nat (a := 10) (b := 10) (by omega) (by omega) (by decide) (by decide) (by decide)
    have hw2 : CMulW (t : Int) ((g.n - g.first : Nat) : Int) := wide_nat (a := 10) (b := 10) (by omega) (by omega) (by decide) (by decide) (by decide)
    refine ⟨!decide (t * (g.S g.n - g.S g.first) % st.every = 0), tn_ne (dn_mod (dv_int1 (dn_mul (dv_var 5) (dv_var 4) hw) mint) (dv_dgetK (kk := .inr "every") (dv_var 0) dv_str (s4 _ _ hd) rfl hu) (by omega)) (dn_lit 0), fun hb H5 s5 => ?_, fun hb H5 s5 => ?_⟩
    · have hb : ¬ t * (g.S g.n - g.S g.first) % st.every = 0 := by simpa using hb
      rw [gcd_least (by omega), hM] at hb
      have ne : t ≠ M := fun e => hb (by rw [e]; exact Nat.mod_self M)
      refine b_one (s_setV (i := 5) (dn_add (dv_var 5) (dn_lit 1)) (fun H6 s6 => ?_) sc__law_phases.nd)
      exact ⟨M - (t + 1), by omega, (s4.trans s5).trans s6, t + 1, rfl, by omega, by omega, rfl⟩
    · have hb : t * (g.S g.n - g.S g.first) % st.every = 0 := by simpa using hb
      rw [gcd_least (by omega), hM] at hb
      have et : t = M := by
        obtain ⟨c, hc⟩ := Nat.dvd_of_mod_eq_zero hb
        have : M ≤ t := Nat.le_of_dvd (by omega) ⟨c, hc⟩
        omega
      subst et
      refine b_one (s_ret (d_tup (da_cons (v := .int (phN st g : Nat)) (dv_eq (dn_mul (dv_var 5) (dv_var 3) hw2) (by rw [hph, Nat.mul_comm])) (da_cons (v := .int (cycN st g : Nat)) (dv_eq (dn_mul (dv_var 5) (dv_var 4) hw) (by rw [hcy])) da_nil)) (by simp)) (fun v H6 s6 hv => ?_))
      obtain ⟨t, ev, ht⟩ := hv
      subst ev
      exact k H6 t ((s4.trans s5).trans s6) ht
end
end KR

namespace KR
open PySem PySem.Spec PyProof.Rows L2 Sx
theorem gives_lph {K : PySem.W.Frag} {H : Hp} {d : Addr} {st : Sg} {g : Pg} (h : PtAt K H d st) (hg : Fit st g) : Gives (spLPh K) [.ref d] H (fun v H' => ∃ t, v = .ref t ∧ H' t = some (.tup [.int (phN st g : Nat), .int (cycN st g : Nat)])) := fun H1 s1 Q E q => ⟨d, st, g, rfl, h.same s1, hg, fun H' t s' ht => q _ H' s' ⟨t, rfl, ht⟩⟩
/-- the page of each row below n -/
abbrev holds (g : Pg) (n : Nat) : List Nat := (List.range n).map (Geo.hold g.lens g.room)
theorem at_holds {g : Pg} {n r : Nat} (h : r < n) : atI (nats (holds g n)) ((r : Nat) : Int) = some (.int (Geo.hold g.lens g.room r : Nat)) := by
  rw [atI_nats (by simp [holds]; omega)]
  unfold holds
  rw [List.getD_eq_getElem?_getD, List.getElem?_map, List.getElem?_range h]
  rfl
theorem maxN {L : List Nat} (hne : L ≠ []) : ((Geo.maxL L : Nat) : Int) ∈ L.map (fun n : Nat => (n : Int)) ∧ ∀ y ∈ L.map (fun n : Nat => (n : Int)), y ≤ ((Geo.maxL L : Nat) : Int) := ⟨List.mem_map_of_mem (Geo.maxL_mem hne), fun y hy => by
  obtain ⟨z, hz, ez⟩ := List.mem_map.mp hy
  have := Geo.maxL_ge hz
  omega⟩
theorem maxL_succ {α : Type} {l : List α} {f : α → Nat} (h : l ≠ []) : Geo.maxL (l.map fun x => f x + 1) = Geo.maxL (l.map f) + 1 := by
  refine Geo.maxL_eq ?_ ?_
  · obtain ⟨x, hx, e⟩ := List.mem_map.mp (Geo.maxL_mem (l := l.map f) (by simpa using h))
    exact List.mem_map.mpr ⟨x, hx, by rw [e]⟩
  · intro x hx
    obtain ⟨y, hy, e⟩ := List.mem_map.mp hx
    have := Geo.maxL_ge (List.mem_map_of_mem (f := f) hy)
    omega
section
variable {P : Program} {w : World} {K : PySem.W.Frag} {mg : Str → Option Value} {base : Heap}
def spLWin (K : PySem.W.Frag) : Sp := fun vs H Q _ => ∃ (d : Addr) (st : Sg) (g : Pg), vs = [.ref d, .int (cycN st g : Nat)] ∧ PtAt K H d st ∧ Fit st g ∧ ∀ H' t, Same H H' → H' t = some (.tup [.int (liveN st g : Nat), .int (begN st g : Nat)]) → Q (.ref t) H'
theorem ok_lwindow (T : Hd K mg) : Has P w K mg base 3 (He.fAd K d__law_window.at_) (spLWin K) := by
  refine hasW T i__law_window sc__law_window bd__law_window (fun vs H Q E h => ?_) (fun f cdv A outer s H vs Q E hr h => ?_)
  · obtain ⟨d, st, g, rfl, _⟩ := h
    rfl
  · obtain ⟨d, st, g, rfl, hP, hg, k⟩ := h
    obtain ⟨sok, ll, hd, hll⟩ := id hP
    have hu := hu_of hr
    have CS := ((ok_lstarts (P := P) (w := w) (base := base) T).cal T (x := "_law_starts")).mono (show 1 ≤ 2 by decide)
    have CT := (ok_lstart (P := P) (w := w) (base := base) T).cal T (x := "_law_start")
    have gok := hg.ok
    have hlt := gok.lt
    have hSn := Sn_small gok
    have hSf : g.S g.first < g.S g.n := Geo.S_mono gok.ok hlt
    have he40 := sok.e40
    have hk100 := sok.k100
    have hcl := cycN_le sok gok
    have hcp := cycN_pos sok gok
    have b60 : (1000000 : Nat) < 2 ^ 60 := by decide
    have b62 : (1000000 : Nat) < 2 ^ 62 := by decide
    refine b_cons (s_unp2D (i := 2) (j := 3) (d_cal CS hr (da_cons (dv_var 0) da_nil) (gives_starts hP hg)) (fun x y H1 s1 hR => ?_) rfl sc__law_window.nd)
    obtain ⟨ls, ex, ey, hls⟩ := hR
    subst ex ey
    refine b_cons (s_setV (i := 4) (dv_ixL (dv_var 2) (dv_var 3) hls (at_starts (by omega))) (fun H2 s2 => ?_) sc__law_window.nd)
    generalize hB : g.S g.first = B at hSf
    refine b_cons (s_unp2D (i := 5) (j := 6) (d_tup2D (P2 := fun _ v _ => v = .int ((0 : Nat) : Int)) (d_lst da_nil (by simp)) (fun v H3 s3 hv => dv_int)) (fun v v2 H5 s5 hv => ?_) rfl sc__law_window.nd)
    obtain ⟨H3, H4, s3, hv, s34, hv2, s45⟩ := hv
    obtain ⟨lp, ev, nlp, hlp⟩ := hv
    have hv2 : v2 = .int ((0 : Nat) : Int) := hv2
    subst ev hv2
    have s4 := s34.trans s45
    have s04 := ((s1.trans s2).trans s3).trans s4
    have nlp0 : H lp = none := (s1.trans s2).free nlp
    -- for row in range(begin + rows + keep + every + 1)
    refine b_cons (s_forR1 (i := 7) (v := B + cycN st g + st.keep + st.every + 1)
      (fun t σ H' => Same H H' ∧ ∃ (pg : Nat) (r r8 : Option V), H' lp = some (.lst (nats (holds g t))) ∧ g.S pg ≤ t ∧ (t = 0 → pg = 0) ∧ σ = [some (.ref d), some (.int (cycN st g : Nat)), some (.ref ls), some (.int (g.first : Nat)), some (.int (B : Nat)), some (.ref lp), some (.int (pg : Int)), r, r8])
      (dn_add (dn_add (dn_add (dn_add (dv_var 4) (dv_var 1)) (dv_dgetK (kk := .inr "keep") (dv_var 0) dv_str (s04 _ _ hd) rfl hu)) (dv_dgetK (kk := .inr "every") (dv_var 0) dv_str (s04 _ _ hd) rfl hu)) (dn_lit 1)) (by omega)
      (fun H' s' => ⟨s04.trans s', 0, none, none, s' _ _ (s4 _ _ hlp), Nat.zero_le _, fun _ => rfl, rfl⟩) (fun t σ H5 ht hI => ?_) (fun σ H5 hI => ?_) sc__law_window.nd rfl (T.free "range" e_free))
    · obtain ⟨s5, pg, r, r8, l5, hpt, _, eσ⟩ := hI
      subst eσ
      refine b_cons (s_while (fun m σ H' => Same H5 H' ∧ ∃ q : Nat, m = t + 1 - q ∧ g.S q ≤ t ∧ σ = [some (.ref d), some (.int (cycN st g : Nat)), some (.ref ls), some (.int (g.first : Nat)), some (.int (B : Nat)), some (.ref lp), some (.int (q : Int)), some (.int (t : Int)), r8]) (t + 1 - pg) ⟨Same.refl _, pg, rfl, hpt, rfl⟩ (fun m σ H6 hI => ?_))
      obtain ⟨s6, q, em, hq, eσ⟩ := hI
      subst eσ
      subst em
      have hqt : q ≤ t := Nat.le_trans (Geo.S_ge gok.ok q) hq
      have s06 := s5.trans s6
      refine ⟨decide (g.S (q + 1) ≤ t), tn_le (d_cal CT hr (da_cons (dv_var 0) (da_cons (dn_add (dv_var 6) (dn_lit 1)) da_nil)) (gives_lstart (hP.same s06) hg (by omega))) (dv_var 7), fun hb H7 s7 => ?_, fun hb H7 s7 => ?_⟩
      · have hb := of_decide_eq_true hb
        have hq1 : q + 1 ≤ t := Nat.le_trans (Geo.S_ge gok.ok (q + 1)) hb
        refine b_one (s_setV (i := 6) (dn_add (dv_var 6) (dn_lit 1)) (fun H8 s8 => ?_) sc__law_window.nd)
        exact ⟨t + 1 - (q + 1), by omega, (s6.trans s7).trans s8, q + 1, rfl, hb, rfl⟩
      · have hb := of_decide_eq_false hb
        have eh : Geo.hold g.lens g.room t = q := Geo.hold_eq gok.ok hq (by
          have hb : ¬ Geo.S g.lens g.room (q + 1) ≤ t := hb
          omega)
        have l7 := (s6.trans s7) _ _ l5
        refine b_one (s_append (dv_var 5) l7 (dv_var 6) (fun v H8 s8 ev => ?_) (by simp [nats]; omega))
        have ev : v = _ := ev
        subst ev
        refine ⟨((s06.trans s7).trans s8).mut nlp0, q, _, r8, ?_, by omega, fun z => by omega, rfl⟩
        rw [upd_same]
        unfold holds
        rw [List.range_succ, List.map_append]
        simp [nats, eh]
    · obtain ⟨s5, pg, r, r8, l5, _, _, eσ⟩ := hI
      subst eσ
      have hd5 := s5 _ _ hd
      generalize hn : B + cycN st g + st.keep + st.every + 1 = n at l5
      have comp : ∀ (m : Nat), m ≤ 100 → m < n → B + cycN st g + m ≤ n → (List.range (B + cycN st g - B)).map (fun t => V.int ((Geo.hold g.lens g.room (B + t + m) - Geo.hold g.lens g.room (B + t) : Nat) : Int)) = nats ((List.range (cycN st g)).map fun t => Geo.hold g.lens g.room (B + t + m) - Geo.hold g.lens g.room (B + t)) := fun m _ _ _ => by
        rw [Nat.add_sub_cancel_left]
        unfold nats
        rw [List.map_map]
        rfl
      have ne : ∀ f : Nat → Nat, (List.range (cycN st g)).map f ≠ [] := fun f z => by
        have := congrArg List.length z
        rw [List.length_map, List.length_range, List.length_nil] at this
        omega
      have hk : st.keep ≤ 100 := hk100
      -- standing
      refine b_cons (s_setV (i := 8) (v := .int (liveN st g : Nat)) (dv_maxl (ns := ((List.range (cycN st g)).map fun t => Geo.hold g.lens g.room (B + t + st.keep) - Geo.hold g.lens g.room (B + t) + 1).map fun n : Nat => (n : Int)) (dl_new ((d_lcR2 (i := 7) (u := B) (v := B + cycN st g) (fun t => V.int ((Geo.hold g.lens g.room (B + t + st.keep) - Geo.hold g.lens g.room (B + t) + 1 : Nat) : Int)) (dv_var 4) (dn_add (dv_var 4) (dv_var 1)) (by omega) (by omega) (by omega)
        (fun s' Hb C cl fp t H' ht s6 => dn_add (dn_sub (dv_ixL (dv_var 5) (dn_add (dv_var 7) (dv_dgetK (kk := .inr "keep") (dv_var 0) dv_str (s6 _ _ hd5) rfl hu)) (SqL.of (s6 _ _ l5)) (at_holds (by omega))) (dv_ixL (dv_var 5) (dv_var 7) (SqL.of (s6 _ _ l5)) (at_holds (by omega))) (Geo.hold_mono gok.ok (by omega))) (dn_lit 1))
        rfl sc__law_window.nd (T.free "range" e_free) (ok := blkOk_by (N := N__law_window) (sc := defScope s__law_window) (by decide +kernel))).imp (fun v H' _ ⟨p, ev, np, hp⟩ => ⟨p, ev, np, by rw [hp, Nat.add_sub_cancel_left, List.map_map, List.map_map]; rfl⟩))) ?_ ?_ rfl (T.free "max" e_free)) (fun H6 s6 => ?_) sc__law_window.nd)
      · have e : liveN st g = Geo.maxL ((List.range (cycN st g)).map fun t => Geo.hold g.lens g.room (B + t + st.keep) - Geo.hold g.lens g.room (B + t) + 1) := by
          rw [maxL_succ (by intro z; have := congrArg List.length z; rw [List.length_range, List.length_nil] at this; omega)]
          unfold liveN mpG Geo.mpN
          rw [hB]
        rw [e]
        exact (maxN (ne _)).1
      · have e : liveN st g = Geo.maxL ((List.range (cycN st g)).map fun t => Geo.hold g.lens g.room (B + t + st.keep) - Geo.hold g.lens g.room (B + t) + 1) := by
          rw [maxL_succ (by intro z; have := congrArg List.length z; rw [List.length_range, List.length_nil] at this; omega)]
          unfold liveN mpG Geo.mpN
          rw [hB]
        rw [e]
        exact (maxN (ne _)).2
      · have hd6 := s6 _ _ hd5
        have l6 := s6 _ _ l5
        have e : begN st g = Geo.maxL ((List.range (cycN st g)).map fun t => Geo.hold g.lens g.room (B + t + st.every) - Geo.hold g.lens g.room (B + t)) := by
          unfold begN mpG Geo.mpN
          rw [hB]
        refine b_one (s_ret (d_tup (da_cons (dv_var 8) (da_cons (v := .int (begN st g : Nat)) (dv_maxl (ns := ((List.range (cycN st g)).map fun t => Geo.hold g.lens g.room (B + t + st.every) - Geo.hold g.lens g.room (B + t)).map fun n : Nat => (n : Int)) (dl_new ((d_lcR2 (i := 7) (u := B) (v := B + cycN st g) (fun t => V.int ((Geo.hold g.lens g.room (B + t + st.every) - Geo.hold g.lens g.room (B + t) : Nat) : Int)) (dv_var 4) (dn_add (dv_var 4) (dv_var 1)) (by omega) (by omega) (by omega)
          (fun s' Hb C cl fp t H' ht s7 => dn_sub (dv_ixL (dv_var 5) (dn_add (dv_var 7) (dv_dgetK (kk := .inr "every") (dv_var 0) dv_str (s7 _ _ hd6) rfl hu)) (SqL.of (s7 _ _ l6)) (at_holds (by omega))) (dv_ixL (dv_var 5) (dv_var 7) (SqL.of (s7 _ _ l6)) (at_holds (by omega))) (Geo.hold_mono gok.ok (by omega)))
          rfl sc__law_window.nd (T.free "range" e_free) (ok := blkOk_by (N := N__law_window) (sc := defScope s__law_window) (by decide +kernel))).imp (fun v H' _ ⟨p, ev, np, hp⟩ => ⟨p, ev, np, by rw [hp, Nat.add_sub_cancel_left, List.map_map, List.map_map]; rfl⟩))) (by rw [e]; exact (maxN (ne _)).1) (by rw [e]; exact (maxN (ne _)).2) rfl (T.free "max" e_free)) da_nil)) (by simp)) (fun v H7 s7 hv => ?_))
        obtain ⟨t, ev, ht⟩ := hv
        subst ev
        exact k H7 t ((s5.trans s6).trans s7) ht
end
end KR

namespace KR
open PySem PySem.Spec PyProof.Rows L2 Sx
theorem widN_le {st : Sg} {g : Pg} (ok : st.Ok) (h : g.Ok) : widN st g ≤ 1200 := by
  obtain ⟨_, _, h3⟩ := levN_ok ok h
  have hn := needN_le ok h
  have h8 := ok.f8
  unfold widN
  cases e : levN st g with
  | zero => simp
  | succ l =>
    have := h3 l (by omega)
    rw [Nat.pow_succ]
    have := Nat.mul_le_mul (show st.fanout ^ l ≤ 142 by omega) h8
    omega
section
variable {P : Program} {w : World} {K : PySem.W.Frag} {mg : Str → Option Value} {base : Heap}
theorem gives_lwin {H : Hp} {d : Addr} {st : Sg} {g : Pg} (h : PtAt K H d st) (hg : Fit st g) : Gives (spLWin K) [.ref d, .int (cycN st g : Nat)] H (fun v H' => ∃ t, v = .ref t ∧ H' t = some (.tup [.int (liveN st g : Nat), .int (begN st g : Nat)])) := fun H1 s1 Q E q => ⟨d, st, g, rfl, h.same s1, hg, fun H' t s' ht => q _ H' s' ⟨t, rfl, ht⟩⟩
def spLBl (K : PySem.W.Frag) : Sp := fun vs H Q _ => ∃ (d : Addr) (st : Sg) (g : Pg), vs = [.ref d, .int (liveN st g : Nat), .int (begN st g : Nat)] ∧ PtAt K H d st ∧ Fit st g ∧ ∀ H' t, Same H H' → H' t = some (.tup [.int (widN st g : Nat), .int (bbN st g : Nat)]) → Q (.ref t) H'
theorem ok_lblocks (T : Hd K mg) : Has P w K mg base 3 (He.fAd K d__law_blocks.at_) (spLBl K) := by
  refine hasW T i__law_blocks sc__law_blocks bd__law_blocks (fun vs H Q E h => ?_) (fun f cdv A outer s H vs Q E hr h => ?_)
  · obtain ⟨d, st, g, rfl, _⟩ := h
    rfl
  · obtain ⟨d, st, g, rfl, hP, hg, k⟩ := h
    obtain ⟨sok, ll, hd, hll⟩ := id hP
    have hu := hu_of hr
    have CS := ((ok_lstarts (P := P) (w := w) (base := base) T).cal T (x := "_law_starts")).mono (show 1 ≤ 2 by decide)
    have CT := (ok_lstart (P := P) (w := w) (base := base) T).cal T (x := "_law_start")
    have gok := hg.ok
    have hneed := needN_le sok gok
    have hwl := widN_le sok gok
    have hf8 := sok.f8
    have hf2 := sok.f2
    have he40 := sok.e40
    have hk100 := sok.k100
    have hn6 := gok.n6
    have hlt := gok.lt
    refine b_cons (s_unp2 (i := 3) (j := 4) (x := .int ((st.fanout ^ 0 : Nat) : Int)) (y := .int ((1 : Nat) : Int)) (du_new (d_tup (da_cons dv_int (da_cons dv_int da_nil)) (by simp))) (fun H1 s1 => ?_) rfl sc__law_blocks.nd)
    -- while width < standing + begun + 1
    refine b_cons (s_while (fun m σ H' => Same H H' ∧ ∃ l : Nat, m = 200 - l ∧ (∀ c, c < l → st.fanout ^ c < needN st g) ∧ σ = [some (.ref d), some (.int (liveN st g : Nat)), some (.int (begN st g : Nat)), some (.int ((st.fanout ^ l : Nat) : Int)), some (.int ((1 : Nat) : Int)), none, none]) 200
      ⟨s1, 0, rfl, fun c hc => by omega, rfl⟩ (fun m σ H2 hI => ?_))
    obtain ⟨s2, l, em, hl, eσ⟩ := hI
    subst eσ
    subst em
    refine ⟨decide (st.fanout ^ l < needN st g), tn_lt (dv_var 3) (dn_add (dn_add (dv_var 1) (dv_var 2)) (dn_lit 1)), fun hb H3 s3 => ?_, fun hb H3 s3 => ?_⟩
    · have hb := of_decide_eq_true hb
      have hl2 := lt_pow hf2 l
      refine b_one (s_setV (i := 3) (v := .int ((st.fanout ^ (l + 1) : Nat) : Int)) (dv_eq (dn_mul (dv_var 3) (dv_dgetK (kk := .inr "fanout") (dv_var 0) dv_str ((s2.trans s3) _ _ hd) rfl hu) (wide_nat (a := 10) (b := 10) (by omega) (by omega) (by decide) (by decide) (by decide))) (by rw [Nat.pow_succ])) (fun H4 s4 => ?_) sc__law_blocks.nd)
      refine ⟨200 - (l + 1), by omega, (s2.trans s3).trans s4, l + 1, rfl, fun c hc => ?_, rfl⟩
      by_cases z : c = l
      · rw [z]; exact hb
      · exact hl c (by omega)
    · have hb := of_decide_eq_false hb
      have el : levN st g = l := levN_eq sok gok (by omega) hl
      have ew : widN st g = st.fanout ^ l := by unfold widN; rw [el]
      rw [← ew]
      have s03 := s2.trans s3
      -- least, rows
      refine b_cons (s_setV (i := 5) (v := .int ((g.first + needN st g : Nat) : Int)) (dv_eq (dn_add (dn_add (dn_add (q := g.first) (dv_ixuD ((d_cal CS hr (da_cons (dv_var 0) da_nil) (gives_starts (hP.same s03) hg)).imp (fun v H' _ ⟨p, x, y, ev, hp, ls, ex, ey, _⟩ => ⟨p, [x, y], ev, hp, by rw [ey]; rfl⟩)) (dv_int (k := 1))) (dv_var 1)) (dv_var 2)) (dn_lit 1)) (by unfold needN; congr 2; omega)) (fun H4 s4 => ?_) sc__law_blocks.nd)
      have s04 := s03.trans s4
      refine b_cons (s_setV (i := 6) (dn_add (dv_dgetK (kk := .inr "keep") (dv_var 0) dv_str (s04 _ _ hd) rfl hu) (dv_dgetK (kk := .inr "every") (dv_var 0) dv_str (s04 _ _ hd) rfl hu)) (fun H5 s5 => ?_) sc__law_blocks.nd)
      have s05 := s04.trans s5
      refine b_cons (s_while (fun m σ H' => Same H H' ∧ ∃ b : Nat, m = 300 - b ∧ 1 ≤ b ∧ (∀ c, 1 ≤ c → c < b → fullB st g c = false) ∧ σ = [some (.ref d), some (.int (liveN st g : Nat)), some (.int (begN st g : Nat)), some (.int (widN st g : Nat)), some (.int (b : Nat)), some (.int ((g.first + needN st g : Nat) : Int)), some (.int ((st.keep + st.every : Nat) : Int))]) 299
        ⟨s05, 1, rfl, Nat.le_refl _, fun c h1 h2 => by omega, rfl⟩ (fun m σ H6 hI => ?_))
      obtain ⟨s6, b, em, hb1, hbl, eσ⟩ := hI
      subst eσ
      subst em
      have hb200 : b ≤ 200 := by
        apply Nat.le_of_not_lt
        intro z
        have := hbl 200 (by decide) (by omega)
        rw [full_late sok gok (Nat.le_refl _)] at this
        cases this
      have hw : CMulW (b : Int) ((widN st g : Nat) : Int) := wide_nat (a := 20) (b := 20) (by omega) (by omega) (by decide) (by decide) (by decide)
      have hbw : b * widN st g ≤ 200 * 1200 := Nat.mul_le_mul hb200 hwl
      have e : (decide (b * widN st g < g.first + needN st g) || decide (g.S (b * widN st g) < st.keep + st.every)) = !fullB st g b := by
        unfold fullB
        by_cases h1 : g.first + needN st g ≤ b * widN st g
        · rw [decide_eq_false (by omega), decide_eq_true h1]
          by_cases h2 : st.keep + st.every ≤ g.S (b * widN st g)
          · rw [decide_eq_false (by omega), decide_eq_true h2]; rfl
          · rw [decide_eq_true (by omega), decide_eq_false h2]; rfl
        · rw [decide_eq_true (by omega), decide_eq_false h1]; rfl
      refine ⟨!fullB st g b, dt_eqb (dt_w (dw_or (tn_lt (dn_mul (dv_var 4) (dv_var 3) hw) (dv_var 5)) (fun _ => dw_or1 (tn_lt (d_cal CT hr (da_cons (dv_var 0) (da_cons (dn_mul (dv_var 4) (dv_var 3) hw) da_nil)) (gives_lstart (hP.same s6) hg (Nat.lt_of_le_of_lt hbw (by decide)))) (dv_var 6))))) e, fun hb H7 s7 => ?_, fun hb H7 s7 => ?_⟩
      · have hb : fullB st g b = false := by simpa using hb
        refine b_one (s_setV (i := 4) (dn_add (dv_var 4) (dn_lit 1)) (fun H8 s8 => ?_) sc__law_blocks.nd)
        refine ⟨300 - (b + 1), by omega, (s6.trans s7).trans s8, b + 1, rfl, by omega, fun c h1 h2 => ?_, rfl⟩
        by_cases z : c = b
        · rw [z]; exact hb
        · exact hbl c h1 (by omega)
      · have hb : fullB st g b = true := by simpa using hb
        have eb : bbN st g = b := bbN_eq sok gok hb1 hb hbl
        refine b_one (s_ret (d_tup (da_cons (dv_var 3) (da_cons (dv_var 4) da_nil)) (by simp)) (fun v H8 s8 hv => ?_))
        obtain ⟨t, ev, ht⟩ := hv
        subst ev
        rw [← eb] at ht
        exact k H8 t ((s6.trans s7).trans s8) ht
theorem gives_lbl {H : Hp} {d : Addr} {st : Sg} {g : Pg} (h : PtAt K H d st) (hg : Fit st g) : Gives (spLBl K) [.ref d, .int (liveN st g : Nat), .int (begN st g : Nat)] H (fun v H' => ∃ t, v = .ref t ∧ H' t = some (.tup [.int (widN st g : Nat), .int (bbN st g : Nat)])) := fun H1 s1 Q E q => ⟨d, st, g, rfl, h.same s1, hg, fun H' t s' ht => q _ H' s' ⟨t, rfl, ht⟩⟩
end
end KR

namespace KR
open PySem PySem.Spec PyProof.Rows L2 Sx LamX
/-- what the law hears of a question -/
def Out (st : Sg) (g : Pg) (fa fb : Nat) (v : V) (H : Hp) : Prop := if 16 < phN st g then v = .int 16 else if 128 < widN st g then v = .int 128 else ∃ t, v = .ref t ∧ H t = some (.tup [.int (fa : Nat), .int (fb : Nat)])
theorem Out.tups {st : Sg} {g : Pg} {fa fb : Nat} {v : V} {H H' : Hp} (h : Out st g fa fb v H) (k : ∀ b zs, H b = some (.tup zs) → H' b = some (.tup zs)) : Out st g fa fb v H' := by
  unfold Out at h ⊢
  by_cases h1 : 16 < phN st g
  · rw [if_pos h1] at h ⊢; exact h
  · rw [if_neg h1] at h ⊢
    by_cases h2 : 128 < widN st g
    · rw [if_pos h2] at h ⊢; exact h
    · rw [if_neg h2] at h ⊢
      obtain ⟨t, e, ht⟩ := h
      exact ⟨t, e, k _ _ ht⟩
section
variable {K : PySem.W.Frag} {mg : Str → Option Value}
/-- _law_said(a), in the block of a comprehension of the lambda's maker X -/
theorem d_said (T : Hd K mg) {X : Cx} (eK : X.K = K) (eM : X.mg = mg) {a : Expr} {σ σ' : L2.St} {H' : Hp} {sb : Shared} {Hb : Hp} {scope : Scope} {ce : Env} {fp : List Addr} {f : Addr} {lm : Lm} {st : Sg} {g : Pg} {fa fb : Nat} {p1 p2 : Pos}
    (ha : DV (X.blk sb Hb scope ce fp) a σ' H' (.ref f)) (hr : Room 10 X.A) (sn : ∀ (p : List (Addr × Obj)) (σ'' : L2.St) (H1 : Hp) (s : Shared), Inv (X.blk sb Hb scope ce fp) p σ'' H1 s → Snap X σ sb Hb s H1)
    (L : LamN X.N X.env.scope lm.scope) (lk : LamK X H' f lm) (hb : BindL lm) (hloc : ∀ n ∈ lm.ns, lm.scope.names.lookup n = some .local) (hg : Fit st g)
    (body : ∀ (A : Around) (outer : List Env) (s : Shared) (H1 : Hp) (E : XK) (c' : Addr), Same H' H1 → Room 7 (A.deeper (lamEnv X lm.scope s.heap.objs.size f c')) → ∀ Q : VK, PlEnd K H1 st E (fun g' H2 => g' = g → ∀ t, H2 t = some (.tup [.int (fa : Nat), .int (fb : Nat)]) → Q (.ref t) H2) → W (lamC X (L2.CX X.prog X.w) A outer s H1 E lm.scope f c') lm.body σ H1 Q)
    (hgl : Gl (X.blk sb Hb scope ce fp) "_law_said" := by rfl) (hst : starEach [a] ce = (false, eval a ce) :: starEach [] ce := by rfl) (hpl : (backTo p2 (starEach [] ce)).any (·.1) = false := by rfl) :
    D (X.blk sb Hb scope ce fp) (.Call (.Name "_law_said" p1) [a] [] p2) σ' H' (Out st g fa fb) := by
  subst eK eM
  obtain ⟨fd, F⟩ := T.fn i__law_said d__law_said rfl
  have F : FunD X.K "_law_said" "_law_said" (defArgs s__law_said) (defBody s__law_said) (defScope s__law_said) [] [] (He.fAd X.K d__law_said.at_) fd := F
  refine d_calS (k := 9) (vs := [.ref f]) F sc__law_said bd__law_said (T.glo "_law_said" e_glo) hr (da_cons ha da_nil hst) rfl (fun s pins H1 cdv s1 I hr' Q q => ?_) hgl (by decide) hst hpl
  have CL := T.glo "LimitExceeded" e_glo
  have XE := T.exc e_exc_LimitExceeded "LimitExceeded" "limit"
  have XM := T.exm e_exm_LimitExceeded "LimitExceeded" "LimitExceeded" true
  have Sn : Snap X σ sb Hb s H1 := sn pins σ' H1 s I
  have lk1 : LamK X H1 f lm := lk.same s1
  refine b_cons (s_tryAs (i := 2) (c := .ref (cA X.K "LimitExceeded")) (Wout := fun _ _ _ _ => False) ⟨rfl, by decide, .inl CL⟩ L2.takes0 sc__law_said.nd (fun pn xe tk po => ?_))
  refine b_one (s_setW (i := 1) (w_act (X := X) (k := 8) (i := 0) Sn L lk1 hb hloc tk hr' rfl (fun s2 c' hr2 => ?_)) sc__law_said.nd)
  refine body _ _ _ H1 _ c' s1 (hr2.mono (by decide)) _ (fun g' h1 h2 h3 => ?_)
  have e : g' = g := hg.one h1 h2 h3
  subst e
  refine ⟨fun hph d H2 s2 hd => ?_, fun hph hw d H2 s2 hd => ?_, fun hph hw H2 s2 _ t ht => ?_⟩
  · refine ⟨true, XM, fun _ ax nax oe pn hz hf => ?_, fun z => by cases z⟩
    refine b_one (s_setV (i := 1) (dv_xf (X := (cxOf CX0 X.prog X.w X.K X.mg X.base N__law_said "_law_said" (defScope s__law_said) (He.fAd X.K d__law_said.at_) cdv X.A X.stack s H1 E0).nox) XE.le XE.no hz hf (dv_var 2) hd rfl) (fun H3 s3 => ?_) sc__law_said.nd)
    exact b_one (s_retV (dv_var 1) (fun H4 s4 => q _ H4 ((s2.trans s3).trans s4) (by unfold Out; rw [if_pos hph])))
  · refine ⟨true, XM, fun _ ax nax oe pn hz hf => ?_, fun z => by cases z⟩
    refine b_one (s_setV (i := 1) (dv_xf (X := (cxOf CX0 X.prog X.w X.K X.mg X.base N__law_said "_law_said" (defScope s__law_said) (He.fAd X.K d__law_said.at_) cdv X.A X.stack s H1 E0).nox) XE.le XE.no hz hf (dv_var 2) hd rfl) (fun H3 s3 => ?_) sc__law_said.nd)
    exact b_one (s_retV (dv_var 1) (fun H4 s4 => q _ H4 ((s2.trans s3).trans s4) (by unfold Out; rw [if_neg (by omega), if_pos hw])))
  · refine b_one (s_retV (dv_var 1) (fun H3 s3 => ?_))
    exact q _ H3 (s2.trans s3) (by unfold Out; rw [if_neg (by omega), if_neg (by omega)]; exact ⟨t, rfl, s3 _ _ ht⟩)
end
end KR

namespace Sx
open PySem PySem.Spec PyProof.Rows L2 LamX
section
variable {X : Cx} {e a b c o : Expr} {σ : L2.St} {H : Hp} {DD : Ends} {P : V → Hp → Prop} {v x y z : V} {i j k : Nat} {n m f : Str} {pos p2 p3 po : Pos} {xs : List V}
/-- xs.append(e), e any wish -/
theorem s_appendW {lp : Addr} (ho : DV X o σ H (.ref lp)) (hl : H lp = some (.lst xs)) (he : ∀ H1, Same H H1 → W X e σ H1 (fun v H' => ∃ ys, H' lp = some (.lst ys) ∧ ys.length ≤ 1000000 ∧ DD.nx σ (upd H' lp (.lst (ys ++ [v]))))) {pe : Pos}
    (hs : swapsWith (.Call (.Attribute o "append" p2) [e] [] p3) none pe.line X.env = pure false := by rfl)
    (hbase : attributeBase o "append" X.env (eval o X.env) = eval o X.env := by rfl)
    (hfew : ((backTo p3 (starEach [e] X.env)).all (fun x => !x.1) && (backToKw p3 (keywordEach [] X.env)).all (fun x => x.1.isSome)
      && decide (([e] : List Expr).length + ([] : List Keyword).length + (if ([] : List Keyword).isEmpty then 0 else 1) < 30)) = true := by rfl)
    (hline : (p2.endLine == p3.line) = true := by rfl) (h1 : starEach [e] X.env = (false, eval e X.env) :: starEach [] X.env := by rfl) (hplain : (backTo p3 (starEach [] X.env)).any (·.1) = false := by rfl) :
    WS X (.Expr (.Call (.Attribute o "append" p2) [e] [] p3) pe) DD σ H :=
  ws_of (ps_expr (pe_bm PySem.F.plainAttrs_list PySem.F.slot_list_append PySem.F.type_list_append mt_append pe_w pa_w hbase hfew hline h1 hplain) hs)
    (ho.run (Same.refl _) fun H2 s2 => ⟨.inl ⟨rfl, xs, SqL.of (s2 _ _ hl)⟩, wa_of (pa_cons pe_w pa_w h1) ((he H2 s2).mono fun v H3 ⟨ys, hy, hz, q⟩ => wa_of pa_nil ⟨lp, ys, v, rfl, rfl, hy, by rw [sizeLine_eq]; omega, q⟩)⟩)
/-- a if c else b, not fixed -/
theorem d_if {b1 : Bool} (h : DT X c σ H b1) (h1 : b1 = true → D X a σ H P) (h2 : b1 = false → D X b σ H P) : D X (.IfExp c a b pos) σ H P := d_of (pe_ifExp pt_w pe_w pe_w) fun H1 s1 Q q => h H1 s1 _ fun H2 s2 => by
  cases b1 with
  | true => exact iteT (h1 rfl H2 (s1.trans s2) _ fun v H3 s3 p => q v H3 (s2.trans s3) p)
  | false => exact iteF (h2 rfl H2 (s1.trans s2) _ fun v H3 s3 p => q v H3 (s2.trans s3) p)
/-- [a, b, c], the middle one not fixed -/
theorem d_lst3 {P2 : V → Hp → Prop} (ha : DV X a σ H x) (hb : D X b σ H P2) (hc : DV X c σ H z) (h1 : starEach [a, b, c] X.env = (false, eval a X.env) :: starEach [b, c] X.env := by rfl) (h2 : starEach [b, c] X.env = (false, eval b X.env) :: starEach [c] X.env := by rfl) (h3 : starEach [c] X.env = (false, eval c X.env) :: starEach [] X.env := by rfl) :
    D X (.List [a, b, c] pos) σ H (fun v H' => ∃ p y H2, v = .ref p ∧ H' p = some (.lst [x, y, z]) ∧ P2 y H2 ∧ Same H2 H') :=
  d_of (pe_lst pa_w) fun H1 s1 Q q => wa_of (pa_cons pe_w pa_w h1) (ha.run s1 fun H2 s2 => wa_of (pa_cons pe_w pa_w h2) (hb H2 (s1.trans s2) _ fun y H3 s3 py => wa_of (pa_cons pe_w pa_w h3) (hc.run ((s1.trans s2).trans s3) fun H4 s4 => wa_of pa_nil ⟨by rw [sizeLine_eq]; simp, fun p hp => q _ _ (((s2.trans s3).trans s4).trans (Same.new hp)) ⟨p, y, H3, rfl, upd_same, py, s4.trans (Same.new hp)⟩⟩)))
end
theorem sqT_ext {K : PySem.W.Frag} {H H1 : Hp} {a : Addr} {xs : List V} (e : ExtN H H1) (h : SqT K H a xs) : SqT K H1 a xs := by
  rcases h with (h | ⟨o, h⟩) | h
  · exact .inl (.inl (e _ _ h (fun _ z => by cases z)))
  · exact .inl (.inr ⟨o, e _ _ h (fun _ z => by cases z)⟩)
  · exact .inr h
end Sx
namespace KR
open PySem PySem.Spec PyProof.Rows L2 Sx LamX
theorem StAt.ext {K : PySem.W.Frag} {p : Addr} {H H' : Hp} {g : Sg} (h : StAt K H p g) (s : ExtN H H') : StAt K H' p g := by
  obtain ⟨ok, dx, tl, h1, h2⟩ := h
  exact ⟨ok, dx, tl, s _ _ h1 (fun _ z => by cases z), sqT_ext s h2⟩
theorem PtAt.ext {K : PySem.W.Frag} {H H' : Hp} {d : Addr} {st : Sg} (h : PtAt K H d st) (s : ExtN H H') : PtAt K H' d st := let ⟨ok, ll, h1, h2⟩ := h; ⟨ok, ll, s _ _ h1 (fun _ z => by cases z), s _ _ h2 (fun _ z => by cases z)⟩
/-- the data that the law compares -/
def wantD (st : Sg) (g : Pg) : PyData := if 16 < phN st g then .list [.int 16, .int 16, .int 16] else if 128 < widN st g then .list [.int 128, .int 128, .int 128] else .list [.tuple [.int (phN st g : Nat), .int (cycN st g : Nat)], .tuple [.int (liveN st g : Nat), .int (begN st g : Nat)], .tuple [.int (widN st g : Nat), .int (bbN st g : Nat)]]
theorem wantD_eqv (st : Sg) (g : Pg) : PyData.eqv (wantD st g) (wantD st g) = true := by
  refine PySem.SeqAt.eqv_refl_plain _ ?_
  unfold wantD
  split
  · rfl
  · split <;> rfl
theorem wantD_shaped (st : Sg) (g : Pg) : SeqAt.shaped (wantD st g) = true := by
  unfold wantD
  split
  · rfl
  · split <;> rfl
theorem out_dp {K : PySem.W.Frag} {H : Hp} {st : Sg} {g : Pg} {p : Addr} {y1 y2 y3 : V} (hp : H p = some (.lst [y1, y2, y3])) (h1 : Out st g (phN st g) (cycN st g) y1 H) (h2 : Out st g (liveN st g) (begN st g) y2 H) (h3 : Out st g (widN st g) (bbN st g) y3 H) : Dp K H (.ref p) (wantD st g) := by
  unfold Out at h1 h2 h3
  unfold wantD
  by_cases c : 16 < phN st g
  · rw [if_pos c] at h1 h2 h3 ⊢
    subst h1 h2 h3
    exact .lst (SqL.of hp) (.cons (.int _) (.cons (.int _) (.cons (.int _) .nil)))
  · rw [if_neg c] at h1 h2 h3 ⊢
    by_cases c2 : 128 < widN st g
    · rw [if_pos c2] at h1 h2 h3 ⊢
      subst h1 h2 h3
      exact .lst (SqL.of hp) (.cons (.int _) (.cons (.int _) (.cons (.int _) .nil)))
    · rw [if_neg c2] at h1 h2 h3 ⊢
      obtain ⟨t1, e1, q1⟩ := h1
      obtain ⟨t2, e2, q2⟩ := h2
      obtain ⟨t3, e3, q3⟩ := h3
      subst e1 e2 e3
      exact .lst (SqL.of hp) (.cons (.tup (SqT.of q1) (.cons (.int _) (.cons (.int _) .nil))) (.cons (.tup (SqT.of q2) (.cons (.int _) (.cons (.int _) .nil))) (.cons (.tup (SqT.of q3) (.cons (.int _) (.cons (.int _) .nil))) .nil)))
section
variable {P : Program} {w : World} {K : PySem.W.Frag} {mg : Str → Option Value} {base : Heap}
/-- a def of the text, its code object known -/
theorem hasL (T : Hd K mg) {d : He.DefD} (i : Nat) {N ps : List Str} {k : Nat} {sp : Sp} (S : FnScope N ps d.scope) (len : ∀ vs H Q E, sp vs H Q E → vs.length = ps.length)
    (hbody : ∀ (f : Addr) (A : Around) (outer : List Env) (s : Shared) (H : Hp) (vs : List V) (Q : VK) (E : XK), Room k (A.deeper (envOfC d.qual d.scope s.heap.objs.size f (.ref (He.codeOf K d.at_)))) → sp vs H Q E →
      WB (cxOf CX0 P w K mg base N d.qual d.scope f (.ref (He.codeOf K d.at_)) A outer s H E).nox d.body { nx := fun _ H' => Q .non H', rt := Q } (start N vs) H) (hi : fnl[i]? = some d := by rfl) : ∃ fd, FunD K d.name d.qual d.params d.body d.scope (d.dvs K) (d.kws K) (He.fAd K d.at_) fd ∧ FnOk P w K mg base CX0 (k + 1) (He.fAd K d.at_) fd ps sp := by
  obtain ⟨fd, F⟩ := T.fn i d hi
  refine ⟨fd, F, ?_⟩
  obtain ⟨oc, od, dV, kV, doc, pm, an, cdv, ct, osl, rfl, lk, hcd, _, _⟩ := F.ex
  obtain ⟨c, rfl⟩ := He.codeIn_ref hcd
  have ec := He.codeOf_eq lk (c := c) rfl
  refine fn_of lk hcd S len fun A outer s H vs Q E hr hsp => ⟨_, (pss_w (X := (cxOf CX0 P w K mg base N d.qual d.scope _ (.ref c) A outer s H E).nox)).nox, ?_⟩
  have := hbody (He.fAd K d.at_) A outer s H vs Q E
  rw [ec] at this
  exact this hr hsp
end
end KR

namespace KR
open PySem PySem.Spec PyProof.Rows L2 Sx LamX
theorem extN_mut {F G H : Hp} {a : Addr} {o : HO} (e1 : ExtN F G) (n : G a = none) (e : ExtN F H) : ExtN F (upd H a o) := fun b u h nt => by
  have hb : b ≠ a := fun z => by
    have q := e1 b u h nt
    rw [z, n] at q
    cases q
  rw [upd_ne hb]
  exact e b u h nt
theorem lamK_upd {X : Cx} {H : Hp} {f a : Addr} {l : Lm} {xs ys : List V} (h : H a = some (.lst xs)) (k : LamK X H f l) : LamK X (upd H a (.lst ys)) f l := by
  obtain ⟨dV, c', h1, h2, h3⟩ := k.ex
  have ne : ∀ {b : Addr} {o : HO}, H b = some o → (∀ zs, o ≠ .lst zs) → (upd H a (.lst ys)) b = some o := fun {b o} hb n => by
    rw [upd_ne (fun z => n xs (by rw [z, h] at hb; exact (Option.some.inj hb).symm))]
    exact hb
  refine ⟨dV, c', ne h1 (fun zs z => by unfold LamO at z; cases z), ne h2 (fun zs z => by unfold CodeO at z; cases z), ?_⟩
  rcases h3 with h3 | ⟨h3, T, h4, h5⟩
  · exact .inl h3
  · exact .inr ⟨h3, T, h4, ne h5 (fun zs z => by cases z)⟩
theorem tabs_upd {T : List (Addr × Str)} {H : Hp} {a : Addr} {xs ys : List V} (h : H a = some (.lst xs)) (k : Tabs T H) : Tabs T (upd H a (.lst ys)) := fun p hp => by
  have ne : ∀ {b : Addr} {o : HO}, H b = some o → (∀ zs, o ≠ .lst zs) → (upd H a (.lst ys)) b = some o := fun {b o} hb n => by
    rw [upd_ne (fun z => n xs (by rw [z, h] at hb; exact (Option.some.inj hb).symm))]
    exact hb
  obtain ⟨ps, h1, h2, h3⟩ := k p hp
  refine ⟨ps, ne h1 (fun zs z => by cases z), h2, fun pos cv hc => ?_⟩
  obtain ⟨c, e1, e2⟩ := h3 pos cv hc
  exact ⟨c, e1, ne e2 (fun zs z => by unfold CodeO at z; cases z)⟩
theorem tabs_upd' {T : List (Addr × Str)} {H : Hp} {a : Addr} {xs ys : List (Key × V)} (h : H a = some (.dK xs)) (k : Tabs T H) : Tabs T (upd H a (.dK ys)) := fun p hp => by
  have ne : ∀ {b : Addr} {o : HO}, H b = some o → (∀ zs, o ≠ .dK zs) → (upd H a (.dK ys)) b = some o := fun {b o} hb n => by
    rw [upd_ne (fun z => n xs (by rw [z, h] at hb; exact (Option.some.inj hb).symm))]
    exact hb
  obtain ⟨ps, h1, h2, h3⟩ := k p hp
  refine ⟨ps, ne h1 (fun zs z => by cases z), h2, fun pos cv hc => ?_⟩
  obtain ⟨c, e1, e2⟩ := h3 pos cv hc
  exact ⟨c, e1, ne e2 (fun zs z => by unfold CodeO at z; cases z)⟩
/-- what a lambda that asks does -/
def LamAsk (X : Cx) (σ : L2.St) (H : Hp) (st : Sg) (g : Pg) (lm : Lm) (fa fb : Nat) : Prop := LamN X.N X.env.scope lm.scope ∧ BindL lm ∧ (∀ n ∈ lm.ns, lm.scope.names.lookup n = some .local) ∧
  ∀ (f : Addr) (A : Around) (outer : List Env) (s : Shared) (H1 : Hp) (E : XK) (c' : Addr), Same H H1 → Room 7 (A.deeper (lamEnv X lm.scope s.heap.objs.size f c')) → ∀ Q : VK, PlEnd X.K H1 st E (fun g' H2 => g' = g → ∀ t, H2 t = some (.tup [.int (fa : Nat), .int (fb : Nat)]) → Q (.ref t) H2) → W (lamC X (L2.CX X.prog X.w) A outer s H1 E lm.scope f c') lm.body σ H1 Q
/-- [_law_said(ask) for ask in asks] -/
theorem d_asks {K : PySem.W.Frag} {mg : Str → Option Value} (T : Hd K mg) {X : Cx} (eK : X.K = K) (eM : X.mg = mg) {σ : L2.St} {H : Hp} {ap f1 f2 f3 : Addr} {l1 l2 l3 : Lm} {st : Sg} {g : Pg} {scope : Scope} {q1 q2 q3 q4 q5 q6 : Pos} {i : Nat} (hr : Room 10 X.A) (hg : Fit st g)
    (hσ : DV X (.Name "asks" q5) σ H (.ref ap)) (hl : H ap = some (.lst [.ref f1, .ref f2, .ref f3])) (k1 : LamK X H f1 l1) (k2 : LamK X H f2 l2) (k3 : LamK X H f3 l3)
    (a1 : LamAsk X σ H st g l1 (phN st g) (cycN st g)) (a2 : LamAsk X σ H st g l2 (liveN st g) (begN st g)) (a3 : LamAsk X σ H st g l3 (widN st g) (bbN st g)) (hc : X.calm = true) (hN : X.N.Nodup) (hlen : i < σ.length) (ok : BlkOk X.N X.env.scope scope [(("ask" : Str), i)]) (hin : X.N[i]? = some ("ask" : Str))
    (hx : ∀ (s : Shared) (Hb : Hp) (C : Addr) (cl : List (Str × Addr)) (fp : List Addr), Loc (X.blk s Hb scope (compEnvC scope cl C X.env) fp).env.scope ("ask" : Str))
    (hf : ∀ (s : Shared) (Hb : Hp) (C : Addr) (cl : List (Str × Addr)) (fp : List Addr), (X.blk s Hb scope (compEnvC scope cl C X.env) fp).fn ("ask" : Str) = true ∨ (X.blk s Hb scope (compEnvC scope cl C X.env) fp).env.scope.names.lookup ("ask" : Str) = some NameKind.local)
    (hgl : ∀ (s : Shared) (Hb : Hp) (C : Addr) (cl : List (Str × Addr)) (fp : List Addr), Gl (X.blk s Hb scope (compEnvC scope cl C X.env) fp) "_law_said")
    (hst : ∀ (C : Addr) (cl : List (Str × Addr)), starEach [.Name "ask" q2] (compEnvC scope cl C X.env) = (false, eval (.Name "ask" q2) (compEnvC scope cl C X.env)) :: starEach [] (compEnvC scope cl C X.env)) (hpl : ∀ (C : Addr) (cl : List (Str × Addr)), (backTo q3 (starEach [] (compEnvC scope cl C X.env))).any (·.1) = false)
    (hs : ∀ x, foldedSetIterable (.Name "asks" q5) X.env x = pure x) :
    D X (.ListComp (.Call (.Name "_law_said" q1) [.Name "ask" q2] [] q3) [⟨.Name "ask" q4, .Name "asks" q5, [], 0⟩] scope q6) σ H (fun v H' => Dp X.K H' v (wantD st g)) := by
  refine (d_lcS (xs := [.ref f1, .ref f2, .ref f3]) (fun t y H' => (t = 0 → Out st g (phN st g) (cycN st g) y H') ∧ (t = 1 → Out st g (liveN st g) (begN st g) y H') ∧ (t = 2 → Out st g (widN st g) (bbN st g) y H'))
    (fun t y H1 H2 hk h => ⟨fun e => (h.1 e).tups hk, fun e => (h.2.1 e).tups hk, fun e => (h.2.2 e).tups hk⟩) (dl_of hσ (SqL.of hl)) (by simp) (fun sb Hb C cl fp sn t x H1 ex s1 => ?_) hc hN ok hin hx hf hs).imp fun v H' s' ⟨p, ys, ev, _, hp, hlz, hall⟩ => ?_
  · have hv : Vis (X.blk sb Hb scope (compEnvC scope cl C X.env) fp).env.scope ("ask" : Str) := (hx sb Hb C cl fp).elim (fun h => .inl h) (fun h => .inr (.inl h))
    have hset : ∀ y : V, ((wipe σ [i]).set i (some y))[i]? = some (some y) := fun y => by
      rw [List.getElem?_set_self (by rw [wipe_length]; exact hlen)]
    have dask : ∀ y : V, DV (X.blk sb Hb scope (compEnvC scope cl C X.env) fp) (.Name "ask" q2) ((wipe σ [i]).set i (some y)) H1 y := fun y => dv_var i (hset y) hin hv
    match t, ex with
    | 0, ex =>
      cases ex
      refine (d_said T eK eM (dask _) hr sn a1.1 (k1.same s1) a1.2.1 a1.2.2.1 hg (fun A outer s H2 E c' s2 hr2 Q q => a1.2.2.2 f1 A outer s H2 E c' (s1.trans s2) hr2 Q (eK ▸ q)) (hgl _ _ _ _ _) (hst _ _) (hpl _ _)).imp fun y H2 _ h => ⟨fun _ => h, fun e => (by cases e), fun e => (by cases e)⟩
    | 1, ex =>
      cases ex
      refine (d_said T eK eM (dask _) hr sn a2.1 (k2.same s1) a2.2.1 a2.2.2.1 hg (fun A outer s H2 E c' s2 hr2 Q q => a2.2.2.2 f2 A outer s H2 E c' (s1.trans s2) hr2 Q (eK ▸ q)) (hgl _ _ _ _ _) (hst _ _) (hpl _ _)).imp fun y H2 _ h => ⟨fun e => (by cases e), fun _ => h, fun e => (by cases e)⟩
    | 2, ex =>
      cases ex
      refine (d_said T eK eM (dask _) hr sn a3.1 (k3.same s1) a3.2.1 a3.2.2.1 hg (fun A outer s H2 E c' s2 hr2 Q q => a3.2.2.2 f3 A outer s H2 E c' (s1.trans s2) hr2 Q (eK ▸ q)) (hgl _ _ _ _ _) (hst _ _) (hpl _ _)).imp fun y H2 _ h => ⟨fun e => (by cases e), fun e => (by cases e), fun _ => h⟩
  · subst ev
    match ys, hlz, hp, hall with
    | [y1, y2, y3], _, hp, hall => exact out_dp hp ((hall 0 y1 rfl).1 rfl) ((hall 1 y2 rfl).2.1 rfl) ((hall 2 y3 rfl).2.2 rfl)
theorem pl_ask {K : PySem.W.Frag} {F : Hp} {st : Sg} {g : Pg} {E : XK} {Q : VK} (hg : Fit st g) (fa fb : Sg → Pg → Nat) (q : PlEnd K F st E (fun g' H2 => g' = g → ∀ t, H2 t = some (.tup [.int (fa st g : Nat), .int (fb st g : Nat)]) → Q (.ref t) H2)) :
    PlEnd K F st E (fun g' H' => ∀ t, H' t = some (.tup [.int (fa st g' : Nat), .int (fb st g' : Nat)]) → Q (.ref t) H') := fun g' a b c => by
  have e := hg.one a b c
  subst e
  obtain ⟨k1, k2, k3⟩ := q g' a b c
  exact ⟨k1, k2, fun z y H' s' t ht => k3 z y H' s' rfl t ht⟩
section
variable {P : Program} {w : World} {K : PySem.W.Frag} {mg : Str → Option Value} {base : Heap}
abbrev cL (K : PySem.W.Frag) : Addr := He.codeOf K ("law", none)
abbrev pL (K : PySem.W.Frag) : Addr := He.tabOf K (cL K)
def spLaw (K : PySem.W.Frag) : Sp := fun vs H Q _ => ∃ (l : Addr) (ns : List Int), vs = [.ref l] ∧ SqL K H l (ns.map V.int) ∧ H (pL K) = some (.tbl #[]) ∧ ∀ H', Q (.bl true) H'
theorem ok_law (T : Hd K mg) (TB : TabB base mg (cL K) (pL K)) : ∃ fd, FunD K d_law.name d_law.qual d_law.params d_law.body d_law.scope (d_law.dvs K) (d_law.kws K) (He.fAd K d_law.at_) fd ∧ FnOk P w K mg base CX0 12 (He.fAd K d_law.at_) fd ["script"] (spLaw K) := by
  refine hasL T i_law sc_law (fun vs H Q E h => ?_) (fun f A outer s H vs Q E hr h => ?_)
  · obtain ⟨l, ns, rfl, _⟩ := h
    rfl
  · obtain ⟨l, ns, rfl, hS, hTb, k⟩ := h
    have mint := T.free "int" e_free
    have mlen := T.free "len" e_free
    have hu := hu_of hr
    have hu64 : (cxOf CX0 P w K mg base N_law d_law.qual d_law.scope f (.ref (He.codeOf K d_law.at_)) A outer s H E).nox.A.units + 64 < cLine := by
      have := hr.un
      show (A.deeper (envOfC d_law.qual d_law.scope s.heap.objs.size f (.ref (He.codeOf K d_law.at_)))).units + 64 < cLine
      omega
    have CD := ((ok_digits (P := P) (w := w) (base := base) T).cal T (x := "_law_digits")).mono (show 1 ≤ 11 by decide)
    have CP := ((ok_parts (P := P) (w := w) (base := base) T).cal T (x := "_law_parts")).mono (show 1 ≤ 11 by decide)
    have CF := ((ok_lphases (P := P) (w := w) (base := base) T).cal T (x := "_law_phases")).mono (show 2 ≤ 11 by decide)
    have CS := ((ok_lsettings (P := P) (w := w) (base := base) T).cal T (x := "_law_settings")).mono (show 6 ≤ 11 by decide)
    have CW := ((ok_lwindow (P := P) (w := w) (base := base) T).cal T (x := "_law_window")).mono (show 3 ≤ 11 by decide)
    have CB := ((ok_lblocks (P := P) (w := w) (base := base) T).cal T (x := "_law_blocks")).mono (show 3 ≤ 11 by decide)
    have Q1 := (ok_phases (P := P) (w := w) (base := base) T).cal T (x := "phases")
    have Q2 := (ok_window (P := P) (w := w) (base := base) T).cal T (x := "window")
    have Q3 := (ok_blocks (P := P) (w := w) (base := base) T).cal T (x := "blocks")
    generalize hX : (cxOf CX0 P w K mg base N_law d_law.qual d_law.scope f (.ref (He.codeOf K d_law.at_)) A outer s H E).nox = X at hu64
    have eT : ∀ {H' : Hp}, H' (pL K) = some (.tbl #[]) → Tabs [(pL K, X.env.qual ++ "<lambda>")] H' := fun {H'} h p hp => by
      have e : p = (pL K, X.env.qual ++ "<lambda>") := by simpa using hp
      rw [e]
      exact TabS.nil h
    have memT : (pL K, X.env.qual ++ "<lambda>") ∈ [(pL K, X.env.qual ++ "<lambda>")] := List.mem_cons_self
    have uniT : ∀ p ∈ [(pL K, X.env.qual ++ "<lambda>")], p.1 = pL K → p.2 = X.env.qual ++ "<lambda>" := fun p hp _ => by
      have e : p = (pL K, X.env.qual ++ "<lambda>") := by simpa using hp
      rw [e]
    subst hX
    -- for cell in script[:3] + [19][len(script):]
    refine b_cons (s_forL (i := 1) (xs := ns.map V.int |>.take 3 |> (· ++ ([V.int 19].drop (ns.map V.int).length))) (R := fun p H' => H' p = some (.lst ((ns.map V.int).take 3 ++ [V.int 19].drop (ns.map V.int).length)) ∧ Tabs [(pL K, (cxOf CX0 P w K mg base N_law d_law.qual d_law.scope f (.ref (He.codeOf K d_law.at_)) A outer s H E).nox.env.qual ++ "<lambda>")] H')
      (fun p t σ H' => H' p = some (.lst ((ns.map V.int).take 3 ++ [V.int 19].drop (ns.map V.int).length)) ∧ Tabs [(pL K, (cxOf CX0 P w K mg base N_law d_law.qual d_law.scope f (.ref (He.codeOf K d_law.at_)) A outer s H E).nox.env.qual ++ "<lambda>")] H' ∧ ∃ r1 r2 r3 r4 r5 r6 r7 r8 r9 r10 r11 : Option V, σ = [some (.ref l), r1, r2, r3, r4, r5, r6, r7, r8, r9, r10, r11])
      ((d_cat ((d_cutTo (k := 3) (dl_of (dv_var 0) hS) dv_int).imp fun v H' _ ⟨p, ev, _, hp⟩ => ⟨p, ev, hp⟩) ((d_cutFrom (k := (ns.map V.int).length) (dl_new (d_lst (da_cons dv_int da_nil) (by simp))) (dv_lenl (dl_of (dv_var 0) hS) mlen)).imp fun v H' _ ⟨p, ev, _, hp⟩ => ⟨p, ev, hp⟩) ?_).imp fun v H' s' ⟨p, ev, _, hp⟩ => ⟨p, ev, hp, (eT hTb).ext s'⟩)
      (fun H' p s' hR => ⟨hR.1, hR.2, none, none, none, none, none, none, none, none, none, none, none, rfl⟩) (fun p t σ'' H'' _ h => SqL.of h.1) (fun p t x σ H1 hx hI => ?_) (fun p σ H1 hI => ?_) sc_law.nd rfl)
    · simp
      omega
    · obtain ⟨hp, hT, r1, r2, r3, r4, r5, r6, r7, r8, r9, r10, r11, eσ⟩ := hI
      subst eσ
      obtain ⟨c, ec⟩ : ∃ c : Int, x = .int c := by
        have hm := List.mem_of_getElem? hx
        rcases List.mem_append.mp hm with h | h
        · obtain ⟨z, _, e⟩ := List.mem_map.mp (List.mem_of_mem_take h)
          exact ⟨z, e.symm⟩
        · have := List.mem_of_mem_drop h
          exact ⟨19, by simpa using this⟩
      subst ec
      -- digits, parts
      refine b_cons (s_set (i := 2) (d_cal CD hr (da_cons (dv_var 1) (da_cons (dn_lit 40) da_nil)) gives_digits) (fun v H2 s2 hv => ?_) sc_law.nd)
      obtain ⟨dl, ds, ev, _, hdl, hlen⟩ := hv
      subst ev
      refine b_cons (s_set (i := 3) (d_cal CP hr (da_cons (dv_var 2) da_nil) (gives_parts hdl hlen)) (fun v H3 s3 hv => ?_) sc_law.nd)
      obtain ⟨d, st0, ev, nd, hP0⟩ := hv
      subst ev
      have hp3 := s3 _ _ (s2 _ _ hp)
      have hT3 := (hT.ext s2).ext s3
      have hdl3 := s3 _ _ hdl
      have npd : p ≠ d := ne_of_none (s2 _ _ hp) nd
      have key : ∀ (st : Sg) (H4 : Hp), H4 p = some (.lst ((ns.map V.int).take 3 ++ [V.int 19].drop (ns.map V.int).length)) → Tabs [(pL K, (cxOf CX0 P w K mg base N_law d_law.qual d_law.scope f (.ref (He.codeOf K d_law.at_)) A outer s H E).nox.env.qual ++ "<lambda>")] H4 → PtAt K H4 d st →
          WB (cxOf CX0 P w K mg base N_law d_law.qual d_law.scope f (.ref (He.codeOf K d_law.at_)) A outer s H E).nox (match d_law.body with | .For _ _ b _ _ :: _ => b.drop 3 | _ => []) { nx := fun σ H' => H' p = some (.lst ((ns.map V.int).take 3 ++ [V.int 19].drop (ns.map V.int).length)) ∧ Tabs [(pL K, (cxOf CX0 P w K mg base N_law d_law.qual d_law.scope f (.ref (He.codeOf K d_law.at_)) A outer s H E).nox.env.qual ++ "<lambda>")] H' ∧ ∃ r1 r2 r3 r4 r5 r6 r7 r8 r9 r10 r11 : Option V, σ = [some (.ref l), r1, r2, r3, r4, r5, r6, r7, r8, r9, r10, r11], ct := fun σ H' => H' p = some (.lst ((ns.map V.int).take 3 ++ [V.int 19].drop (ns.map V.int).length)) ∧ Tabs [(pL K, (cxOf CX0 P w K mg base N_law d_law.qual d_law.scope f (.ref (He.codeOf K d_law.at_)) A outer s H E).nox.env.qual ++ "<lambda>")] H' ∧ ∃ r1 r2 r3 r4 r5 r6 r7 r8 r9 r10 r11 : Option V, σ = [some (.ref l), r1, r2, r3, r4, r5, r6, r7, r8, r9, r10, r11], bk := WB (cxOf CX0 P w K mg base N_law d_law.qual d_law.scope f (.ref (He.codeOf K d_law.at_)) A outer s H E).nox (d_law.body.drop 1) { nx := fun _ H' => Q .non H', rt := Q }, rt := Q } [some (.ref l), some (.int c), some (.ref dl), some (.ref d), r4, r5, r6, r7, r8, r9, r10, r11] H4 := by
        intro st H4 hp4 hT4 hP
        obtain ⟨g, gok, gl, gr⟩ := Pg.exists hP.ok.ok
        have hg : Fit st g := ⟨gok, gl, gr⟩
        -- due, settings_so
        refine b_cons (s_set (i := 4) (d_cal CF hr (da_cons (dv_var 3) da_nil) (gives_lph hP hg)) (fun v H5 s5 hv => ?_) sc_law.nd)
        obtain ⟨td, ev, htd⟩ := hv
        subst ev
        refine b_cons (s_set (i := 5) (d_cal CS hr (da_cons (dv_var 3) da_nil) (gives_lset (hP.same s5))) (fun v H6 s6 hv => ?_) sc_law.nd)
        obtain ⟨sp, ev, hSt⟩ := hv
        subst ev
        have htd6 := s6 _ _ htd
        have hP6 := (hP.same s5).same s6
        have hp6 := s6 _ _ (s5 _ _ hp4)
        have hT6 := (hT4.ext s5).ext s6
        -- asks
        refine b_cons (s_setW (i := 6) (w_of (pe_lst pa_w) (wa_of (pa_cons pe_w pa_w) (w_lam TB rfl memT uniT (lamN_by (N := N_law) (sc := defScope s_law) (by decide +kernel)) hT6 (fun f1 H7 e7 t7 k1 => wa_of (pa_cons pe_w pa_w) (w_lamD (n := "by") TB rfl memT uniT (lamN_by (N := N_law) (sc := defScope s_law) (by decide +kernel)) t7 (dv_int (k := 0)) (fun f2 H8 e8 t8 k2 => wa_of pa_nil ⟨by rw [sizeLine_eq]; simp, fun ap nap => ?_⟩)))))) sc_law.nd)
        have e68 := e7.trans e8
        have x9 : ExtN H6 (upd H8 ap (.lst [V.ref f1, V.ref f2])) := extN_mut e68 nap e68
        have t9 : Tabs [(pL K, (cxOf CX0 P w K mg base N_law d_law.qual d_law.scope f (.ref (He.codeOf K d_law.at_)) A outer s H E).nox.env.qual ++ "<lambda>")] (upd H8 ap (.lst [V.ref f1, V.ref f2])) := t8.ext (Same.new nap)
        have k19 := (k1.ext e8).same (Same.new (o := .lst [V.ref f1, V.ref f2]) nap)
        have k29 := k2.same (Same.new (o := .lst [V.ref f1, V.ref f2]) nap)
        have y9 : ExtN H8 (upd H8 ap (.lst [V.ref f1, V.ref f2])) := ExtN.of (Same.new nap)
        have ap9 : (upd H8 ap (.lst [V.ref f1, V.ref f2])) ap = some (.lst [.ref f1, .ref f2]) := upd_same
        generalize upd H8 ap (.lst [V.ref f1, V.ref f2]) = H9 at x9 t9 k19 k29 y9 ap9 ⊢
        refine b_cons (s_appendW (dv_var 6) ap9 (fun HA sA => w_lam TB rfl memT uniT (lamN_by (N := N_law) (sc := defScope s_law) (by decide +kernel)) (t9.ext sA) (fun f3 HB eB tB k3 => ⟨[.ref f1, .ref f2], eB _ _ (sA _ _ ap9) (fun _ z => by cases z), by simp, ?_⟩)))
        have apB : HB ap = some (.lst [.ref f1, .ref f2]) := eB _ _ (sA _ _ ap9) (fun _ z => by cases z)
        have xC : ExtN H6 (upd HB ap (.lst ([V.ref f1, V.ref f2] ++ [V.ref f3]))) := extN_mut e68 nap ((x9.trans (ExtN.of sA)).trans eB)
        have tC : Tabs [(pL K, (cxOf CX0 P w K mg base N_law d_law.qual d_law.scope f (.ref (He.codeOf K d_law.at_)) A outer s H E).nox.env.qual ++ "<lambda>")] (upd HB ap (.lst ([V.ref f1, V.ref f2] ++ [V.ref f3]))) := tabs_upd apB tB
        have k1C := lamK_upd (ys := [V.ref f1, V.ref f2] ++ [V.ref f3]) apB ((k19.same sA).ext eB)
        have k2C := lamK_upd (ys := [V.ref f1, V.ref f2] ++ [V.ref f3]) apB ((k29.same sA).ext eB)
        have k3C := lamK_upd (ys := [V.ref f1, V.ref f2] ++ [V.ref f3]) apB k3
        have hapC : (upd HB ap (.lst ([V.ref f1, V.ref f2] ++ [V.ref f3]))) ap = some (.lst [.ref f1, .ref f2, .ref f3]) := upd_same
        generalize upd HB ap (.lst ([V.ref f1, V.ref f2] ++ [V.ref f3])) = HC at xC tC k1C k2C k3C hapC ⊢
        have hStC := hSt.ext xC
        have hPC := hP6.ext xC
        have htdC := xC _ _ htd6 (fun _ z => by cases z)
        have hpC := xC _ _ hp6 (fun _ z => by cases z)
        -- if due[0] > 16
        refine b_one (s_if (tn_gt (dv_ixT (dv_var 4) (dv_int (k := 0)) (SqT.of htdC) rfl) (dn_lit 16)) (fun hb HD sD => ?_) (fun hb HD sD => ?_))
        · have hb := of_decide_eq_true hb
          have hapD := sD _ _ hapC
          have k1D := k1C.same sD
          have k2D := k2C.same sD
          have k3D := k3C.same sD
          have hStD := hStC.same sD
          refine b_one (s_if (dt_neD (d_asks T (i := 7) rfl rfl (hr.mono (by decide)) hg (dv_var 6) hapD k1D k2D k3D
        (⟨lamN_by (N := N_law) (sc := defScope s_law) (by decide +kernel), ⟨fun _ _ _ _ _ _ _ => rfl, fun h => absurd rfl h⟩, fun n hn => absurd hn (by simp), fun f A outer s H1 E c' s1 hr2 Q q => w_cal Q1 hr2 (takes_of rfl rfl rfl rfl) (da_cons (dv_var 5) da_nil) fun H2 s2 => ⟨sp, st, rfl, (hStD.same s1).same s2, pl_ask hg phN cycN (q.same s2)⟩⟩)
        (⟨lamN_by (N := N_law) (sc := defScope s_law) (by decide +kernel), ⟨fun h => (by cases h), fun _ _ _ _ _ _ _ _ its hl => match its, hl with | [_], _ => ⟨_, rfl, rfl⟩⟩, fun n hn => (by have e : n = ("by" : Str) := (by simpa using hn); rw [e]; rfl), fun f A outer s H1 E c' s1 hr2 Q q => w_cal Q2 hr2 (takes_of rfl rfl rfl rfl) (da_cons (dv_var 5) da_nil) fun H2 s2 => ⟨sp, st, rfl, (hStD.same s1).same s2, pl_ask hg liveN begN (q.same s2)⟩⟩)
        (⟨lamN_by (N := N_law) (sc := defScope s_law) (by decide +kernel), ⟨fun _ _ _ _ _ _ _ => rfl, fun h => absurd rfl h⟩, fun n hn => absurd hn (by simp), fun f A outer s H1 E c' s1 hr2 Q q => w_cal Q3 hr2 (takes_of rfl rfl rfl rfl) (da_cons (dv_var 5) da_nil) fun H2 s2 => ⟨sp, st, rfl, (hStD.same s1).same s2, pl_ask hg widN bbN (q.same s2)⟩⟩)
        rfl sc_law.nd (show 7 < 12 from by decide) (blkOk_by (N := N_law) (sc := defScope s_law) (by decide +kernel)) rfl (by first | exact fun _ _ _ _ _ => Or.inl rfl | exact fun _ _ _ _ _ => Or.inr rfl) (by first | exact fun _ _ _ _ _ => Or.inl rfl | exact fun _ _ _ _ _ => Or.inr rfl) (fun _ _ _ _ _ => rfl) (fun _ _ => rfl) (fun _ _ => rfl) (fun _ => rfl)) (fun HE sE => (d_rep (k := 3) ((d_lst (da_cons (dn_lit 16) da_nil) (by simp)).imp fun v H' _ ⟨p, ev, _, hp⟩ => ⟨p, ev, hp⟩) (dn_lit 3) (by decide) (by simp)).imp fun v H' _ ⟨p, ev, _, hp⟩ => ?_) (fun v H1 H2 s' h => dp_same s' h) (wantD_shaped st g) (wantD_shaped st g) hu64) (fun hb2 HE sE => ?_) (fun hb2 HE sE => b_nil ?_))
          · subst ev
            unfold wantD
            rw [if_pos hb]
            exact .lst (SqL.of hp) (.cons (.int _) (.cons (.int _) (.cons (.int _) .nil)))
          · rw [wantD_eqv] at hb2
            cases hb2
          · exact ⟨(sD.trans sE) _ _ hpC, (tC.ext sD).ext sE, _, _, _, _, _, _, _, _, _, _, _, rfl⟩
        · have hb := of_decide_eq_false hb
          have hPD := hPC.same sD
          have htdD := sD _ _ htdC
          -- standing, begun; last; wanted
          refine b_cons (s_unp2 (i := 8) (j := 9) ((d_cal CW hr (da_cons (dv_var 3) (da_cons (dv_ixT (dv_var 4) (dv_int (k := 1)) (SqT.of htdD) rfl) da_nil)) (gives_lwin hPD hg)).imp fun v H' _ ⟨t, ev, ht⟩ => ⟨t, ev, SqT.of ht⟩) (fun HE sE => ?_) rfl sc_law.nd)
          refine b_cons (s_set (i := 10) (d_cal CB hr (da_cons (dv_var 3) (da_cons (dv_var 8) (da_cons (dv_var 9) da_nil))) (gives_lbl (hPD.same sE) hg)) (fun v HF sF hv => ?_) sc_law.nd)
          obtain ⟨tl, ev, htl⟩ := hv
          subst ev
          have htdF := sF _ _ (sE _ _ htdD)
          refine b_cons (s_set (i := 11) (P := fun v H' => Dp K H' v (wantD st g)) (d_if (tn_le (dv_ixT (dv_var 10) (dv_int (k := 0)) (SqT.of htl) rfl) (dn_lit 128))
            (fun hb2 => (d_lst3 (dv_var 4) (d_tup (da_cons (dv_var 8) (da_cons (dv_var 9) da_nil)) (by simp)) (dv_var 10)).imp fun v H' s' hv => ?_)
            (fun hb2 => (d_rep (k := 3) (xs := [.int ((128 : Nat) : Int)]) ((d_lst (da_cons (dn_lit 128) da_nil) (by simp)).imp fun v H' _ ⟨p, ev, _, hp⟩ => ⟨p, ev, hp⟩) (dn_lit 3) (by decide) (by simp)).imp fun v H' _ hv => ?_)) (fun v HG sG hW => ?_) sc_law.nd)
          · have hb2 := of_decide_eq_true hb2
            obtain ⟨p, y, H2, ev, hp, ⟨t2, ey, ht2⟩, s2'⟩ := hv
            subst ev ey
            unfold wantD
            rw [if_neg hb, if_neg (by omega)]
            exact .lst (SqL.of hp) (.cons (.tup (SqT.of (s' _ _ htdF)) (.cons (.int _) (.cons (.int _) .nil))) (.cons (.tup (SqT.of (s2' _ _ ht2)) (.cons (.int _) (.cons (.int _) .nil))) (.cons (.tup (SqT.of (s' _ _ htl)) (.cons (.int _) (.cons (.int _) .nil))) .nil)))
          · have hb2 := of_decide_eq_false hb2
            obtain ⟨p, ev, _, hp⟩ := hv
            subst ev
            unfold wantD
            rw [if_neg hb, if_pos (by omega)]
            exact .lst (SqL.of hp) (.cons (.int _) (.cons (.int _) (.cons (.int _) .nil)))
          · have sCG := ((sD.trans sE).trans sF).trans sG
            have hapG := sCG _ _ hapC
            have k1G := k1C.same sCG
            have k2G := k2C.same sCG
            have k3G := k3C.same sCG
            have hStG := hStC.same sCG
            refine b_one (s_if (dt_neD (d_asks T (i := 7) rfl rfl (hr.mono (by decide)) hg (dv_var 6) hapG k1G k2G k3G
        (⟨lamN_by (N := N_law) (sc := defScope s_law) (by decide +kernel), ⟨fun _ _ _ _ _ _ _ => rfl, fun h => absurd rfl h⟩, fun n hn => absurd hn (by simp), fun f A outer s H1 E c' s1 hr2 Q q => w_cal Q1 hr2 (takes_of rfl rfl rfl rfl) (da_cons (dv_var 5) da_nil) fun H2 s2 => ⟨sp, st, rfl, (hStG.same s1).same s2, pl_ask hg phN cycN (q.same s2)⟩⟩)
        (⟨lamN_by (N := N_law) (sc := defScope s_law) (by decide +kernel), ⟨fun h => (by cases h), fun _ _ _ _ _ _ _ _ its hl => match its, hl with | [_], _ => ⟨_, rfl, rfl⟩⟩, fun n hn => (by have e : n = ("by" : Str) := (by simpa using hn); rw [e]; rfl), fun f A outer s H1 E c' s1 hr2 Q q => w_cal Q2 hr2 (takes_of rfl rfl rfl rfl) (da_cons (dv_var 5) da_nil) fun H2 s2 => ⟨sp, st, rfl, (hStG.same s1).same s2, pl_ask hg liveN begN (q.same s2)⟩⟩)
        (⟨lamN_by (N := N_law) (sc := defScope s_law) (by decide +kernel), ⟨fun _ _ _ _ _ _ _ => rfl, fun h => absurd rfl h⟩, fun n hn => absurd hn (by simp), fun f A outer s H1 E c' s1 hr2 Q q => w_cal Q3 hr2 (takes_of rfl rfl rfl rfl) (da_cons (dv_var 5) da_nil) fun H2 s2 => ⟨sp, st, rfl, (hStG.same s1).same s2, pl_ask hg widN bbN (q.same s2)⟩⟩)
        rfl sc_law.nd (show 7 < 12 from by decide) (blkOk_by (N := N_law) (sc := defScope s_law) (by decide +kernel)) rfl (by first | exact fun _ _ _ _ _ => Or.inl rfl | exact fun _ _ _ _ _ => Or.inr rfl) (by first | exact fun _ _ _ _ _ => Or.inl rfl | exact fun _ _ _ _ _ => Or.inr rfl) (fun _ _ _ _ _ => rfl) (fun _ _ => rfl) (fun _ _ => rfl) (fun _ => rfl)) (fun HI sI => (dv_var 11).imp fun v2 H' s' ev2 => ?_) (fun v H1 H2 s' h => dp_same s' h) (wantD_shaped st g) (wantD_shaped st g) hu64) (fun hb2 HI sI => ?_) (fun hb2 HI sI => b_nil ?_))
            · rw [ev2]
              exact dp_same (sI.trans s') hW
            · rw [wantD_eqv] at hb2
              cases hb2
            · exact ⟨(sCG.trans sI) _ _ hpC, (tC.ext sCG).ext sI, _, _, _, _, _, _, _, _, _, _, _, rfl⟩
      -- if int(digits[9]) % 3 == 0: parts['keep'] = ..
      refine b_cons (s_if (tn_eq (dn_mod (dv_int1 (dv_ixL (dv_var 2) (dn_lit 9) (SqL.of hdl3) (atI_nd (i := 9) (by omega))) mint) (dn_lit 3) (by decide)) (dn_lit 0)) (fun hb H4 s4 => ?_) (fun hb H4 s4 => b_nil ?_))
      · obtain ⟨ok0, ll, hd0, hll0⟩ := id hP0
        have hd4 := s4 _ _ hd0
        have hll4 := s4 _ _ hll0
        have hdl4 := s4 _ _ hdl3
        refine b_one (s_dputK (kk := .inr "keep") (v := .int ((1 + ds.getD 10 0 % 100 : Nat) : Int)) (dn_add (dn_lit 1) (dn_mod (dv_int1 (dv_ixL (dv_var 2) (dn_lit 10) (SqL.of hdl4) (atI_nd (i := 10) (by omega))) mint) (dn_lit 100) (by decide))) (dv_var 3) dv_str hd4 (by simp) (fun H5 s5 => ?_) hu)
        have e5 : putK (ptD ll st0) (.inr "keep") (.int ((1 + ds.getD 10 0 % 100 : Nat) : Int)) = ptD ll { st0 with keep := 1 + ds.getD 10 0 % 100 } := rfl
        rw [e5]
        have hm := Nat.mod_lt (ds.getD 10 0) (show 0 < 100 by decide)
        refine key { st0 with keep := 1 + ds.getD 10 0 % 100 } _ ?_ (tabs_upd' (s5 _ _ hd4) (((hT3.ext s4).ext s5))) ⟨⟨ok0.ok, ok0.f2, ok0.f8, ok0.r1, ok0.r16, ok0.e1, ok0.e40, by show 1 ≤ 1 + ds.getD 10 0 % 100; omega, by show 1 + ds.getD 10 0 % 100 ≤ 100; omega⟩, ll, upd_same, ?_⟩
        · rw [upd_ne npd]
          exact s5 _ _ (s4 _ _ hp3)
        · rw [upd_ne (ne_of (s5 _ _ hll4) (s5 _ _ hd4) (by intro z; cases z))]
          exact s5 _ _ hll4
      · exact key st0 H4 (s4 _ _ hp3) (hT3.ext s4) (hP0.same s4)
    · obtain ⟨hp, hT, r1, r2, r3, r4, r5, r6, r7, r8, r9, r10, r11, eσ⟩ := hI
      subst eσ
      exact b_one (s_retV dv_bl (fun H2 s2 => k H2))
end
end KR

namespace KR
open PySem PySem.Spec PyProof.Rows L2 Sx
abbrev R : PySem.W.OpenRow := PySem.W.OpenLaw.row LW
abbrev tfl : List He.Defn := [("law", none)]
abbrev hk : PySem.W.Hook := hookZ 5 fnl tfl exA
def ob (s : PySem.W.SharedT) : He.AlX := obsZ 5 fnl tfl exA (HandSHeadRun.getT s)
theorem ob_eq (s : PySem.W.SharedT) : ob s = hk.obs s.abs := obsZ_eq (HandSHeadRun.getT_eq s)
theorem run (w : World) : HandSHeadRun.RunEq R (PySem.W.view R.prog [lawAt]) hk ob 12000 loose w := by
  intro os
  kernel_rfl
theorem hd_of {w : World} {K : PySem.W.Frag} {h : Heap} {mg : Str → Option Value} (X : K.In h) (G : h.Ns mainGlobals mg) (c : He.SaysX [] fnl [] tfl exA w h K) : Hd K mg :=
  ⟨fun i d e => c.t.d.def_ i e, fun i f e => List.all_eq_true.mp c.more f (List.mem_of_getElem? e), h, X, G⟩
end KR

namespace KR
open PySem PySem.Spec PyProof.Rows L2 Sx LamX
/-- the law's promise, from what the head tells -/
theorem law_at {w : World} {K : PySem.W.Frag} {mg : Str → Option Value} {h : Heap} {fa : Addr} (X : K.In h) (G : h.Ns mainGlobals mg) (hmg : mg ("law" : Str) = some (.ref fa)) (c : He.SaysX [] fnl [] tfl exA w h K) : LawAtS LW w K CX0 12 63 "script" mg fa h := by
  have T := hd_of X G c
  have e := hmg.symm.trans (T.glo "law" e_glo)
  cases e
  have F0 : ∃ fd, FunD K d_law.name d_law.qual d_law.params d_law.body d_law.scope (d_law.dvs K) (d_law.kws K) (He.fAd K d_law.at_) fd := T.fn i_law d_law rfl
  obtain ⟨fd, F⟩ := F0
  have one : ∀ {base : Heap}, K.In base → base.Ns mainGlobals mg → TabB base mg (cL K) (pL K) → FnOk LW.prog w K mg base CX0 12 (He.fAd K d_law.at_) fd ["script"] (spLaw K) := fun {base} kb gb tb => by
    obtain ⟨fd', F', ok⟩ := ok_law (P := LW.prog) (w := w) (base := base) ⟨T.fn, T.ex, base, kb, gb⟩ tb
    have e : fd' = fd := by
      obtain ⟨oc, od, dV, kV, doc, pm, an, cdv, ct, osl, rfl, lk, _⟩ := F.ex
      obtain ⟨oc', od', dV', kV', doc', pm', an', cdv', ct', osl', rfl, lk', _⟩ := F'.ex
      rw [lk] at lk'
      cases lk'
      rfl
    rw [e] at ok
    exact ok
  have tab : (((("law" : Str), none) : He.Defn)) ∈ tfl := List.mem_cons_self
  refine ⟨fd, [(cL K, pL K)], spLaw K, fun p hp => ?_, fun p hp => ?_, fun p hp => ?_, fun s u => ?_, fun H a ns hl _ hH hS => ⟨a, ns, rfl, hS, hH _ List.mem_cons_self, fun _ => rfl⟩, fun base kb gb tb => one kb gb (tb _ List.mem_cons_self)⟩
  · have e : p = (cL K, pL K) := by simpa using hp
    rw [e]
    exact c.empty _ tab
  · have e : p = (cL K, pL K) := by simpa using hp
    rw [e]
    exact c.out _ tab
  · have e : p = (cL K, pL K) := by simpa using hp
    rw [e]
    exact PySem.W.codeHd_of_K X (c.hd _ tab)
  · have e : d_law.dvs K = [] := rfl
    rw [e] at F
    exact F.bindsA (ps := ["script"]) (fun kV doc pm an cdv ct us hl => bd_law kV doc pm an cdv ct us hl) s [u] rfl
end KR
open PySem PySem.W PySem.Calls PyProof.Rows
theorem PySem.Challenge.cw_keeprows_k42_phases_and_windows_holds : PySem.Challenge.rw_keeprows_k42_phases_and_windows.Holds := by
  w_on; o_law
  refine HandSHeadRun.head_any (r := OpenLaw.row KR.LW) (q := view (OpenLaw.row KR.LW).prog [KR.lawAt]) (H := KR.hk) (ob := KR.ob) (M := 12000) (loose := KR.loose) (d := HandSHeadRun.topDef (OpenLaw.row KR.LW).prog KR.lawAt) (kwd := []) KR.ob_eq
    (by kernel_rfl) (fun s => by kernel_rfl) KR.run (by kernel_rfl) (by kernel_rfl) (by kernel_rfl) (by rfl) (by first | assumption | decide +kernel) (by decide +kernel) ⟨rfl, rfl, rfl, rfl, rfl, by decide +kernel⟩ ?hw ?hc
  case hw => w_witness2
  case hc =>
    refine LamX.walk_ofTsE (l := KR.LW) (n := 63) (k := 12) (x := "script") (CX := fun _ => L2.CX0) rfl (by decide) (by kernel_rfl) ⟨rfl, by decide, by decide⟩ (fun w mg fa h Y G hmg0 => ?F) (fun _ _ _ _ _ z => z)
    obtain ⟨K, KX, c⟩ := Y
    have hmg : mg ("law" : PySem.Str) = some (.ref fa) := by
      have e : (HandSHeadRun.topDef (OpenLaw.row KR.LW).prog KR.lawAt).name = ("law" : PySem.Str) := by kernel_rfl
      rw [← e]
      exact hmg0
    exact ⟨K, KX, KR.law_at KX G hmg c⟩
